import PyProof.Rows.All
import Wide.All
import OpenK.AllK
import Wide.FinOn
import Lean
import PySem.Challenge.RW_nt0131_01
open PySem PySem.W PySem.Calls PyProof.Rows
set_option Elab.async false
set_option linter.unusedVariables false
set_option linter.unusedSimpArgs false
set_option maxRecDepth 100000
set_option compiler.extract_closed false
set_option genCtorIdx false
set_option genSizeOf false
set_option tactic.hygienic false
namespace Mine
/-! a goal is copied once at an elimination, not once a component (printed by elim.py) -/
theorem elE1 {A0 : Type} {p : A0 → Prop} {G : Prop} (k : ∀ a0, p a0 → G) : (∃ a0, p a0) → G := fun h => h.elim fun a0 h => k a0 h
theorem elE2 {A0 A1 : Type} {p : A0 → A1 → Prop} {G : Prop} (k : ∀ a0 a1, p a0 a1 → G) : (∃ a0 a1, p a0 a1) → G := fun h => h.elim fun a0 h => h.elim fun a1 h => k a0 a1 h
theorem elE3 {A0 A1 A2 : Type} {p : A0 → A1 → A2 → Prop} {G : Prop} (k : ∀ a0 a1 a2, p a0 a1 a2 → G) : (∃ a0 a1 a2, p a0 a1 a2) → G := fun h => h.elim fun a0 h => h.elim fun a1 h => h.elim fun a2 h => k a0 a1 a2 h
theorem elE4 {A0 A1 A2 A3 : Type} {p : A0 → A1 → A2 → A3 → Prop} {G : Prop} (k : ∀ a0 a1 a2 a3, p a0 a1 a2 a3 → G) : (∃ a0 a1 a2 a3, p a0 a1 a2 a3) → G := fun h => h.elim fun a0 h => h.elim fun a1 h => h.elim fun a2 h => h.elim fun a3 h => k a0 a1 a2 a3 h
theorem elE5 {A0 A1 A2 A3 A4 : Type} {p : A0 → A1 → A2 → A3 → A4 → Prop} {G : Prop} (k : ∀ a0 a1 a2 a3 a4, p a0 a1 a2 a3 a4 → G) : (∃ a0 a1 a2 a3 a4, p a0 a1 a2 a3 a4) → G := fun h => h.elim fun a0 h => h.elim fun a1 h => h.elim fun a2 h => h.elim fun a3 h => h.elim fun a4 h => k a0 a1 a2 a3 a4 h
theorem elE6 {A0 A1 A2 A3 A4 A5 : Type} {p : A0 → A1 → A2 → A3 → A4 → A5 → Prop} {G : Prop} (k : ∀ a0 a1 a2 a3 a4 a5, p a0 a1 a2 a3 a4 a5 → G) : (∃ a0 a1 a2 a3 a4 a5, p a0 a1 a2 a3 a4 a5) → G := elE3 fun a0 a1 a2 => elE3 (k a0 a1 a2)
theorem elE7 {A0 A1 A2 A3 A4 A5 A6 : Type} {p : A0 → A1 → A2 → A3 → A4 → A5 → A6 → Prop} {G : Prop} (k : ∀ a0 a1 a2 a3 a4 a5 a6, p a0 a1 a2 a3 a4 a5 a6 → G) : (∃ a0 a1 a2 a3 a4 a5 a6, p a0 a1 a2 a3 a4 a5 a6) → G := elE2 fun a0 a1 => elE5 (k a0 a1)
theorem elE8 {A0 A1 A2 A3 A4 A5 A6 A7 : Type} {p : A0 → A1 → A2 → A3 → A4 → A5 → A6 → A7 → Prop} {G : Prop} (k : ∀ a0 a1 a2 a3 a4 a5 a6 a7, p a0 a1 a2 a3 a4 a5 a6 a7 → G) : (∃ a0 a1 a2 a3 a4 a5 a6 a7, p a0 a1 a2 a3 a4 a5 a6 a7) → G := elE3 fun a0 a1 a2 => elE5 (k a0 a1 a2)
theorem elE9 {A0 A1 A2 A3 A4 A5 A6 A7 A8 : Type} {p : A0 → A1 → A2 → A3 → A4 → A5 → A6 → A7 → A8 → Prop} {G : Prop} (k : ∀ a0 a1 a2 a3 a4 a5 a6 a7 a8, p a0 a1 a2 a3 a4 a5 a6 a7 a8 → G) : (∃ a0 a1 a2 a3 a4 a5 a6 a7 a8, p a0 a1 a2 a3 a4 a5 a6 a7 a8) → G := elE3 fun a0 a1 a2 => elE6 (k a0 a1 a2)
theorem elE10 {A0 A1 A2 A3 A4 A5 A6 A7 A8 A9 : Type} {p : A0 → A1 → A2 → A3 → A4 → A5 → A6 → A7 → A8 → A9 → Prop} {G : Prop} (k : ∀ a0 a1 a2 a3 a4 a5 a6 a7 a8 a9, p a0 a1 a2 a3 a4 a5 a6 a7 a8 a9 → G) : (∃ a0 a1 a2 a3 a4 a5 a6 a7 a8 a9, p a0 a1 a2 a3 a4 a5 a6 a7 a8 a9) → G := elE5 fun a0 a1 a2 a3 a4 => elE5 (k a0 a1 a2 a3 a4)
theorem elE12 {A0 A1 A2 A3 A4 A5 A6 A7 A8 A9 A10 A11 : Type} {p : A0 → A1 → A2 → A3 → A4 → A5 → A6 → A7 → A8 → A9 → A10 → A11 → Prop} {G : Prop} (k : ∀ a0 a1 a2 a3 a4 a5 a6 a7 a8 a9 a10 a11, p a0 a1 a2 a3 a4 a5 a6 a7 a8 a9 a10 a11 → G) : (∃ a0 a1 a2 a3 a4 a5 a6 a7 a8 a9 a10 a11, p a0 a1 a2 a3 a4 a5 a6 a7 a8 a9 a10 a11) → G := elE6 fun a0 a1 a2 a3 a4 a5 => elE6 (k a0 a1 a2 a3 a4 a5)
theorem elE15 {A0 A1 A2 A3 A4 A5 A6 A7 A8 A9 A10 A11 A12 A13 A14 : Type} {p : A0 → A1 → A2 → A3 → A4 → A5 → A6 → A7 → A8 → A9 → A10 → A11 → A12 → A13 → A14 → Prop} {G : Prop} (k : ∀ a0 a1 a2 a3 a4 a5 a6 a7 a8 a9 a10 a11 a12 a13 a14, p a0 a1 a2 a3 a4 a5 a6 a7 a8 a9 a10 a11 a12 a13 a14 → G) : (∃ a0 a1 a2 a3 a4 a5 a6 a7 a8 a9 a10 a11 a12 a13 a14, p a0 a1 a2 a3 a4 a5 a6 a7 a8 a9 a10 a11 a12 a13 a14) → G := elE8 fun a0 a1 a2 a3 a4 a5 a6 a7 => elE7 (k a0 a1 a2 a3 a4 a5 a6 a7)
theorem elA2 {a0 a1 G : Prop} (k : a0 → a1 → G) : a0 ∧ a1 → G := fun h => k h.1 h.2
theorem elA3 {a0 a1 a2 G : Prop} (k : a0 → a1 → a2 → G) : a0 ∧ a1 ∧ a2 → G := fun h => k h.1 h.2.1 h.2.2
theorem elA4 {a0 a1 a2 a3 G : Prop} (k : a0 → a1 → a2 → a3 → G) : a0 ∧ a1 ∧ a2 ∧ a3 → G := fun h => k h.1 h.2.1 h.2.2.1 h.2.2.2
theorem elA5 {a0 a1 a2 a3 a4 G : Prop} (k : a0 → a1 → a2 → a3 → a4 → G) : a0 ∧ a1 ∧ a2 ∧ a3 ∧ a4 → G := fun h => k h.1 h.2.1 h.2.2.1 h.2.2.2.1 h.2.2.2.2
theorem elA6 {a0 a1 a2 a3 a4 a5 G : Prop} (k : a0 → a1 → a2 → a3 → a4 → a5 → G) : a0 ∧ a1 ∧ a2 ∧ a3 ∧ a4 ∧ a5 → G := fun h => k h.1 h.2.1 h.2.2.1 h.2.2.2.1 h.2.2.2.2.1 h.2.2.2.2.2
theorem elA7 {a0 a1 a2 a3 a4 a5 a6 G : Prop} (k : a0 → a1 → a2 → a3 → a4 → a5 → a6 → G) : a0 ∧ a1 ∧ a2 ∧ a3 ∧ a4 ∧ a5 ∧ a6 → G := fun h => k h.1 h.2.1 h.2.2.1 h.2.2.2.1 h.2.2.2.2.1 h.2.2.2.2.2.1 h.2.2.2.2.2.2
theorem elA8 {a0 a1 a2 a3 a4 a5 a6 a7 G : Prop} (k : a0 → a1 → a2 → a3 → a4 → a5 → a6 → a7 → G) : a0 ∧ a1 ∧ a2 ∧ a3 ∧ a4 ∧ a5 ∧ a6 ∧ a7 → G := fun h => k h.1 h.2.1 h.2.2.1 h.2.2.2.1 h.2.2.2.2.1 h.2.2.2.2.2.1 h.2.2.2.2.2.2.1 h.2.2.2.2.2.2.2
theorem elA9 {a0 a1 a2 a3 a4 a5 a6 a7 a8 G : Prop} (k : a0 → a1 → a2 → a3 → a4 → a5 → a6 → a7 → a8 → G) : a0 ∧ a1 ∧ a2 ∧ a3 ∧ a4 ∧ a5 ∧ a6 ∧ a7 ∧ a8 → G := fun h => k h.1 h.2.1 h.2.2.1 h.2.2.2.1 h.2.2.2.2.1 h.2.2.2.2.2.1 h.2.2.2.2.2.2.1 h.2.2.2.2.2.2.2.1 h.2.2.2.2.2.2.2.2
theorem elA13 {a0 a1 a2 a3 a4 a5 a6 a7 a8 a9 a10 a11 a12 G : Prop} (k : a0 → a1 → a2 → a3 → a4 → a5 → a6 → a7 → a8 → a9 → a10 → a11 → a12 → G) : a0 ∧ a1 ∧ a2 ∧ a3 ∧ a4 ∧ a5 ∧ a6 ∧ a7 ∧ a8 ∧ a9 ∧ a10 ∧ a11 ∧ a12 → G := fun h => k h.1 h.2.1 h.2.2.1 h.2.2.2.1 h.2.2.2.2.1 h.2.2.2.2.2.1 h.2.2.2.2.2.2.1 h.2.2.2.2.2.2.2.1 h.2.2.2.2.2.2.2.2.1 h.2.2.2.2.2.2.2.2.2.1 h.2.2.2.2.2.2.2.2.2.2.1 h.2.2.2.2.2.2.2.2.2.2.2.1 h.2.2.2.2.2.2.2.2.2.2.2.2
theorem elA14 {a0 a1 a2 a3 a4 a5 a6 a7 a8 a9 a10 a11 a12 a13 G : Prop} (k : a0 → a1 → a2 → a3 → a4 → a5 → a6 → a7 → a8 → a9 → a10 → a11 → a12 → a13 → G) : a0 ∧ a1 ∧ a2 ∧ a3 ∧ a4 ∧ a5 ∧ a6 ∧ a7 ∧ a8 ∧ a9 ∧ a10 ∧ a11 ∧ a12 ∧ a13 → G := fun h => k h.1 h.2.1 h.2.2.1 h.2.2.2.1 h.2.2.2.2.1 h.2.2.2.2.2.1 h.2.2.2.2.2.2.1 h.2.2.2.2.2.2.2.1 h.2.2.2.2.2.2.2.2.1 h.2.2.2.2.2.2.2.2.2.1 h.2.2.2.2.2.2.2.2.2.2.1 h.2.2.2.2.2.2.2.2.2.2.2.1 h.2.2.2.2.2.2.2.2.2.2.2.2.1 h.2.2.2.2.2.2.2.2.2.2.2.2.2
theorem elA15 {a0 a1 a2 a3 a4 a5 a6 a7 a8 a9 a10 a11 a12 a13 a14 G : Prop} (k : a0 → a1 → a2 → a3 → a4 → a5 → a6 → a7 → a8 → a9 → a10 → a11 → a12 → a13 → a14 → G) : a0 ∧ a1 ∧ a2 ∧ a3 ∧ a4 ∧ a5 ∧ a6 ∧ a7 ∧ a8 ∧ a9 ∧ a10 ∧ a11 ∧ a12 ∧ a13 ∧ a14 → G := fun h => k h.1 h.2.1 h.2.2.1 h.2.2.2.1 h.2.2.2.2.1 h.2.2.2.2.2.1 h.2.2.2.2.2.2.1 h.2.2.2.2.2.2.2.1 h.2.2.2.2.2.2.2.2.1 h.2.2.2.2.2.2.2.2.2.1 h.2.2.2.2.2.2.2.2.2.2.1 h.2.2.2.2.2.2.2.2.2.2.2.1 h.2.2.2.2.2.2.2.2.2.2.2.2.1 h.2.2.2.2.2.2.2.2.2.2.2.2.2.1 h.2.2.2.2.2.2.2.2.2.2.2.2.2.2
theorem elA16 {a0 a1 a2 a3 a4 a5 a6 a7 a8 a9 a10 a11 a12 a13 a14 a15 G : Prop} (k : a0 → a1 → a2 → a3 → a4 → a5 → a6 → a7 → a8 → a9 → a10 → a11 → a12 → a13 → a14 → a15 → G) : a0 ∧ a1 ∧ a2 ∧ a3 ∧ a4 ∧ a5 ∧ a6 ∧ a7 ∧ a8 ∧ a9 ∧ a10 ∧ a11 ∧ a12 ∧ a13 ∧ a14 ∧ a15 → G := fun h => k h.1 h.2.1 h.2.2.1 h.2.2.2.1 h.2.2.2.2.1 h.2.2.2.2.2.1 h.2.2.2.2.2.2.1 h.2.2.2.2.2.2.2.1 h.2.2.2.2.2.2.2.2.1 h.2.2.2.2.2.2.2.2.2.1 h.2.2.2.2.2.2.2.2.2.2.1 h.2.2.2.2.2.2.2.2.2.2.2.1 h.2.2.2.2.2.2.2.2.2.2.2.2.1 h.2.2.2.2.2.2.2.2.2.2.2.2.2.1 h.2.2.2.2.2.2.2.2.2.2.2.2.2.2.1 h.2.2.2.2.2.2.2.2.2.2.2.2.2.2.2
theorem elA19 {a0 a1 a2 a3 a4 a5 a6 a7 a8 a9 a10 a11 a12 a13 a14 a15 a16 a17 a18 G : Prop} (k : a0 → a1 → a2 → a3 → a4 → a5 → a6 → a7 → a8 → a9 → a10 → a11 → a12 → a13 → a14 → a15 → a16 → a17 → a18 → G) : a0 ∧ a1 ∧ a2 ∧ a3 ∧ a4 ∧ a5 ∧ a6 ∧ a7 ∧ a8 ∧ a9 ∧ a10 ∧ a11 ∧ a12 ∧ a13 ∧ a14 ∧ a15 ∧ a16 ∧ a17 ∧ a18 → G := fun h => k h.1 h.2.1 h.2.2.1 h.2.2.2.1 h.2.2.2.2.1 h.2.2.2.2.2.1 h.2.2.2.2.2.2.1 h.2.2.2.2.2.2.2.1 h.2.2.2.2.2.2.2.2.1 h.2.2.2.2.2.2.2.2.2.1 h.2.2.2.2.2.2.2.2.2.2.1 h.2.2.2.2.2.2.2.2.2.2.2.1 h.2.2.2.2.2.2.2.2.2.2.2.2.1 h.2.2.2.2.2.2.2.2.2.2.2.2.2.1 h.2.2.2.2.2.2.2.2.2.2.2.2.2.2.1 h.2.2.2.2.2.2.2.2.2.2.2.2.2.2.2.1 h.2.2.2.2.2.2.2.2.2.2.2.2.2.2.2.2.1 h.2.2.2.2.2.2.2.2.2.2.2.2.2.2.2.2.2.1 h.2.2.2.2.2.2.2.2.2.2.2.2.2.2.2.2.2.2
theorem elA20 {a0 a1 a2 a3 a4 a5 a6 a7 a8 a9 a10 a11 a12 a13 a14 a15 a16 a17 a18 a19 G : Prop} (k : a0 → a1 → a2 → a3 → a4 → a5 → a6 → a7 → a8 → a9 → a10 → a11 → a12 → a13 → a14 → a15 → a16 → a17 → a18 → a19 → G) : a0 ∧ a1 ∧ a2 ∧ a3 ∧ a4 ∧ a5 ∧ a6 ∧ a7 ∧ a8 ∧ a9 ∧ a10 ∧ a11 ∧ a12 ∧ a13 ∧ a14 ∧ a15 ∧ a16 ∧ a17 ∧ a18 ∧ a19 → G := fun h => k h.1 h.2.1 h.2.2.1 h.2.2.2.1 h.2.2.2.2.1 h.2.2.2.2.2.1 h.2.2.2.2.2.2.1 h.2.2.2.2.2.2.2.1 h.2.2.2.2.2.2.2.2.1 h.2.2.2.2.2.2.2.2.2.1 h.2.2.2.2.2.2.2.2.2.2.1 h.2.2.2.2.2.2.2.2.2.2.2.1 h.2.2.2.2.2.2.2.2.2.2.2.2.1 h.2.2.2.2.2.2.2.2.2.2.2.2.2.1 h.2.2.2.2.2.2.2.2.2.2.2.2.2.2.1 h.2.2.2.2.2.2.2.2.2.2.2.2.2.2.2.1 h.2.2.2.2.2.2.2.2.2.2.2.2.2.2.2.2.1 h.2.2.2.2.2.2.2.2.2.2.2.2.2.2.2.2.2.1 h.2.2.2.2.2.2.2.2.2.2.2.2.2.2.2.2.2.2.1 h.2.2.2.2.2.2.2.2.2.2.2.2.2.2.2.2.2.2.2
theorem elX1_2 {A0 : Type} {p0 p1 : A0 → Prop} {G : Prop} (k : ∀ a0, p0 a0 → p1 a0 → G) : (∃ a0, p0 a0 ∧ p1 a0) → G := fun h => h.elim fun a0 h => k a0 h.1 h.2
theorem elX1_3 {A0 : Type} {p0 p1 p2 : A0 → Prop} {G : Prop} (k : ∀ a0, p0 a0 → p1 a0 → p2 a0 → G) : (∃ a0, p0 a0 ∧ p1 a0 ∧ p2 a0) → G := fun h => h.elim fun a0 h => k a0 h.1 h.2.1 h.2.2
theorem elX1_4 {A0 : Type} {p0 p1 p2 p3 : A0 → Prop} {G : Prop} (k : ∀ a0, p0 a0 → p1 a0 → p2 a0 → p3 a0 → G) : (∃ a0, p0 a0 ∧ p1 a0 ∧ p2 a0 ∧ p3 a0) → G := fun h => h.elim fun a0 h => k a0 h.1 h.2.1 h.2.2.1 h.2.2.2
theorem elX1_5 {A0 : Type} {p0 p1 p2 p3 p4 : A0 → Prop} {G : Prop} (k : ∀ a0, p0 a0 → p1 a0 → p2 a0 → p3 a0 → p4 a0 → G) : (∃ a0, p0 a0 ∧ p1 a0 ∧ p2 a0 ∧ p3 a0 ∧ p4 a0) → G := fun h => h.elim fun a0 h => k a0 h.1 h.2.1 h.2.2.1 h.2.2.2.1 h.2.2.2.2
theorem elX1_6 {A0 : Type} {p0 p1 p2 p3 p4 p5 : A0 → Prop} {G : Prop} (k : ∀ a0, p0 a0 → p1 a0 → p2 a0 → p3 a0 → p4 a0 → p5 a0 → G) : (∃ a0, p0 a0 ∧ p1 a0 ∧ p2 a0 ∧ p3 a0 ∧ p4 a0 ∧ p5 a0) → G := fun h => h.elim fun a0 h => k a0 h.1 h.2.1 h.2.2.1 h.2.2.2.1 h.2.2.2.2.1 h.2.2.2.2.2
theorem elX1_7 {A0 : Type} {p0 p1 p2 p3 p4 p5 p6 : A0 → Prop} {G : Prop} (k : ∀ a0, p0 a0 → p1 a0 → p2 a0 → p3 a0 → p4 a0 → p5 a0 → p6 a0 → G) : (∃ a0, p0 a0 ∧ p1 a0 ∧ p2 a0 ∧ p3 a0 ∧ p4 a0 ∧ p5 a0 ∧ p6 a0) → G := fun h => h.elim fun a0 h => k a0 h.1 h.2.1 h.2.2.1 h.2.2.2.1 h.2.2.2.2.1 h.2.2.2.2.2.1 h.2.2.2.2.2.2
theorem elX2_2 {A0 A1 : Type} {p0 p1 : A0 → A1 → Prop} {G : Prop} (k : ∀ a0 a1, p0 a0 a1 → p1 a0 a1 → G) : (∃ a0 a1, p0 a0 a1 ∧ p1 a0 a1) → G := fun h => h.elim fun a0 h => h.elim fun a1 h => k a0 a1 h.1 h.2
theorem elX2_3 {A0 A1 : Type} {p0 p1 p2 : A0 → A1 → Prop} {G : Prop} (k : ∀ a0 a1, p0 a0 a1 → p1 a0 a1 → p2 a0 a1 → G) : (∃ a0 a1, p0 a0 a1 ∧ p1 a0 a1 ∧ p2 a0 a1) → G := fun h => h.elim fun a0 h => h.elim fun a1 h => k a0 a1 h.1 h.2.1 h.2.2
theorem elX2_4 {A0 A1 : Type} {p0 p1 p2 p3 : A0 → A1 → Prop} {G : Prop} (k : ∀ a0 a1, p0 a0 a1 → p1 a0 a1 → p2 a0 a1 → p3 a0 a1 → G) : (∃ a0 a1, p0 a0 a1 ∧ p1 a0 a1 ∧ p2 a0 a1 ∧ p3 a0 a1) → G := fun h => h.elim fun a0 h => h.elim fun a1 h => k a0 a1 h.1 h.2.1 h.2.2.1 h.2.2.2
theorem elX3_2 {A0 A1 A2 : Type} {p0 p1 : A0 → A1 → A2 → Prop} {G : Prop} (k : ∀ a0 a1 a2, p0 a0 a1 a2 → p1 a0 a1 a2 → G) : (∃ a0 a1 a2, p0 a0 a1 a2 ∧ p1 a0 a1 a2) → G := fun h => h.elim fun a0 h => h.elim fun a1 h => h.elim fun a2 h => k a0 a1 a2 h.1 h.2
theorem elX3_3 {A0 A1 A2 : Type} {p0 p1 p2 : A0 → A1 → A2 → Prop} {G : Prop} (k : ∀ a0 a1 a2, p0 a0 a1 a2 → p1 a0 a1 a2 → p2 a0 a1 a2 → G) : (∃ a0 a1 a2, p0 a0 a1 a2 ∧ p1 a0 a1 a2 ∧ p2 a0 a1 a2) → G := fun h => h.elim fun a0 h => h.elim fun a1 h => h.elim fun a2 h => k a0 a1 a2 h.1 h.2.1 h.2.2
theorem elX3_4 {A0 A1 A2 : Type} {p0 p1 p2 p3 : A0 → A1 → A2 → Prop} {G : Prop} (k : ∀ a0 a1 a2, p0 a0 a1 a2 → p1 a0 a1 a2 → p2 a0 a1 a2 → p3 a0 a1 a2 → G) : (∃ a0 a1 a2, p0 a0 a1 a2 ∧ p1 a0 a1 a2 ∧ p2 a0 a1 a2 ∧ p3 a0 a1 a2) → G := fun h => h.elim fun a0 h => h.elim fun a1 h => h.elim fun a2 h => k a0 a1 a2 h.1 h.2.1 h.2.2.1 h.2.2.2
theorem elX3_5 {A0 A1 A2 : Type} {p0 p1 p2 p3 p4 : A0 → A1 → A2 → Prop} {G : Prop} (k : ∀ a0 a1 a2, p0 a0 a1 a2 → p1 a0 a1 a2 → p2 a0 a1 a2 → p3 a0 a1 a2 → p4 a0 a1 a2 → G) : (∃ a0 a1 a2, p0 a0 a1 a2 ∧ p1 a0 a1 a2 ∧ p2 a0 a1 a2 ∧ p3 a0 a1 a2 ∧ p4 a0 a1 a2) → G := fun h => h.elim fun a0 h => h.elim fun a1 h => h.elim fun a2 h => k a0 a1 a2 h.1 h.2.1 h.2.2.1 h.2.2.2.1 h.2.2.2.2
theorem elX3_7 {A0 A1 A2 : Type} {p0 p1 p2 p3 p4 p5 p6 : A0 → A1 → A2 → Prop} {G : Prop} (k : ∀ a0 a1 a2, p0 a0 a1 a2 → p1 a0 a1 a2 → p2 a0 a1 a2 → p3 a0 a1 a2 → p4 a0 a1 a2 → p5 a0 a1 a2 → p6 a0 a1 a2 → G) : (∃ a0 a1 a2, p0 a0 a1 a2 ∧ p1 a0 a1 a2 ∧ p2 a0 a1 a2 ∧ p3 a0 a1 a2 ∧ p4 a0 a1 a2 ∧ p5 a0 a1 a2 ∧ p6 a0 a1 a2) → G := fun h => h.elim fun a0 h => h.elim fun a1 h => h.elim fun a2 h => k a0 a1 a2 h.1 h.2.1 h.2.2.1 h.2.2.2.1 h.2.2.2.2.1 h.2.2.2.2.2.1 h.2.2.2.2.2.2
theorem elX3_9 {A0 A1 A2 : Type} {p0 p1 p2 p3 p4 p5 p6 p7 p8 : A0 → A1 → A2 → Prop} {G : Prop} (k : ∀ a0 a1 a2, p0 a0 a1 a2 → p1 a0 a1 a2 → p2 a0 a1 a2 → p3 a0 a1 a2 → p4 a0 a1 a2 → p5 a0 a1 a2 → p6 a0 a1 a2 → p7 a0 a1 a2 → p8 a0 a1 a2 → G) : (∃ a0 a1 a2, p0 a0 a1 a2 ∧ p1 a0 a1 a2 ∧ p2 a0 a1 a2 ∧ p3 a0 a1 a2 ∧ p4 a0 a1 a2 ∧ p5 a0 a1 a2 ∧ p6 a0 a1 a2 ∧ p7 a0 a1 a2 ∧ p8 a0 a1 a2) → G := fun h => h.elim fun a0 h => h.elim fun a1 h => h.elim fun a2 h => k a0 a1 a2 h.1 h.2.1 h.2.2.1 h.2.2.2.1 h.2.2.2.2.1 h.2.2.2.2.2.1 h.2.2.2.2.2.2.1 h.2.2.2.2.2.2.2.1 h.2.2.2.2.2.2.2.2
theorem elX4_3 {A0 A1 A2 A3 : Type} {p0 p1 p2 : A0 → A1 → A2 → A3 → Prop} {G : Prop} (k : ∀ a0 a1 a2 a3, p0 a0 a1 a2 a3 → p1 a0 a1 a2 a3 → p2 a0 a1 a2 a3 → G) : (∃ a0 a1 a2 a3, p0 a0 a1 a2 a3 ∧ p1 a0 a1 a2 a3 ∧ p2 a0 a1 a2 a3) → G := fun h => h.elim fun a0 h => h.elim fun a1 h => h.elim fun a2 h => h.elim fun a3 h => k a0 a1 a2 a3 h.1 h.2.1 h.2.2
theorem elX4_4 {A0 A1 A2 A3 : Type} {p0 p1 p2 p3 : A0 → A1 → A2 → A3 → Prop} {G : Prop} (k : ∀ a0 a1 a2 a3, p0 a0 a1 a2 a3 → p1 a0 a1 a2 a3 → p2 a0 a1 a2 a3 → p3 a0 a1 a2 a3 → G) : (∃ a0 a1 a2 a3, p0 a0 a1 a2 a3 ∧ p1 a0 a1 a2 a3 ∧ p2 a0 a1 a2 a3 ∧ p3 a0 a1 a2 a3) → G := fun h => h.elim fun a0 h => h.elim fun a1 h => h.elim fun a2 h => h.elim fun a3 h => k a0 a1 a2 a3 h.1 h.2.1 h.2.2.1 h.2.2.2
theorem elX4_5 {A0 A1 A2 A3 : Type} {p0 p1 p2 p3 p4 : A0 → A1 → A2 → A3 → Prop} {G : Prop} (k : ∀ a0 a1 a2 a3, p0 a0 a1 a2 a3 → p1 a0 a1 a2 a3 → p2 a0 a1 a2 a3 → p3 a0 a1 a2 a3 → p4 a0 a1 a2 a3 → G) : (∃ a0 a1 a2 a3, p0 a0 a1 a2 a3 ∧ p1 a0 a1 a2 a3 ∧ p2 a0 a1 a2 a3 ∧ p3 a0 a1 a2 a3 ∧ p4 a0 a1 a2 a3) → G := fun h => h.elim fun a0 h => h.elim fun a1 h => h.elim fun a2 h => h.elim fun a3 h => k a0 a1 a2 a3 h.1 h.2.1 h.2.2.1 h.2.2.2.1 h.2.2.2.2
theorem elX4_6 {A0 A1 A2 A3 : Type} {p0 p1 p2 p3 p4 p5 : A0 → A1 → A2 → A3 → Prop} {G : Prop} (k : ∀ a0 a1 a2 a3, p0 a0 a1 a2 a3 → p1 a0 a1 a2 a3 → p2 a0 a1 a2 a3 → p3 a0 a1 a2 a3 → p4 a0 a1 a2 a3 → p5 a0 a1 a2 a3 → G) : (∃ a0 a1 a2 a3, p0 a0 a1 a2 a3 ∧ p1 a0 a1 a2 a3 ∧ p2 a0 a1 a2 a3 ∧ p3 a0 a1 a2 a3 ∧ p4 a0 a1 a2 a3 ∧ p5 a0 a1 a2 a3) → G := fun h => h.elim fun a0 h => h.elim fun a1 h => h.elim fun a2 h => h.elim fun a3 h => k a0 a1 a2 a3 h.1 h.2.1 h.2.2.1 h.2.2.2.1 h.2.2.2.2.1 h.2.2.2.2.2
theorem elX4_7 {A0 A1 A2 A3 : Type} {p0 p1 p2 p3 p4 p5 p6 : A0 → A1 → A2 → A3 → Prop} {G : Prop} (k : ∀ a0 a1 a2 a3, p0 a0 a1 a2 a3 → p1 a0 a1 a2 a3 → p2 a0 a1 a2 a3 → p3 a0 a1 a2 a3 → p4 a0 a1 a2 a3 → p5 a0 a1 a2 a3 → p6 a0 a1 a2 a3 → G) : (∃ a0 a1 a2 a3, p0 a0 a1 a2 a3 ∧ p1 a0 a1 a2 a3 ∧ p2 a0 a1 a2 a3 ∧ p3 a0 a1 a2 a3 ∧ p4 a0 a1 a2 a3 ∧ p5 a0 a1 a2 a3 ∧ p6 a0 a1 a2 a3) → G := fun h => h.elim fun a0 h => h.elim fun a1 h => h.elim fun a2 h => h.elim fun a3 h => k a0 a1 a2 a3 h.1 h.2.1 h.2.2.1 h.2.2.2.1 h.2.2.2.2.1 h.2.2.2.2.2.1 h.2.2.2.2.2.2
theorem inE2 {A0 A1 : Type} {p : A0 → A1 → Prop} (a0 : A0) (a1 : A1) (h : p a0 a1) : ∃ a0 a1, p a0 a1 := ⟨a0, a1, h⟩
theorem inE3 {A0 A1 A2 : Type} {p : A0 → A1 → A2 → Prop} (a0 : A0) (a1 : A1) (a2 : A2) (h : p a0 a1 a2) : ∃ a0 a1 a2, p a0 a1 a2 := ⟨a0, a1, a2, h⟩
theorem inE4 {A0 A1 A2 A3 : Type} {p : A0 → A1 → A2 → A3 → Prop} (a0 : A0) (a1 : A1) (a2 : A2) (a3 : A3) (h : p a0 a1 a2 a3) : ∃ a0 a1 a2 a3, p a0 a1 a2 a3 := ⟨a0, a1, a2, a3, h⟩
theorem inE5 {A0 A1 A2 A3 A4 : Type} {p : A0 → A1 → A2 → A3 → A4 → Prop} (a0 : A0) (a1 : A1) (a2 : A2) (a3 : A3) (a4 : A4) (h : p a0 a1 a2 a3 a4) : ∃ a0 a1 a2 a3 a4, p a0 a1 a2 a3 a4 := ⟨a0, a1, a2, a3, a4, h⟩
theorem inE7 {A0 A1 A2 A3 A4 A5 A6 : Type} {p : A0 → A1 → A2 → A3 → A4 → A5 → A6 → Prop} (a0 : A0) (a1 : A1) (a2 : A2) (a3 : A3) (a4 : A4) (a5 : A5) (a6 : A6) (h : p a0 a1 a2 a3 a4 a5 a6) : ∃ a0 a1 a2 a3 a4 a5 a6, p a0 a1 a2 a3 a4 a5 a6 := inE2 a0 a1 (inE5 a2 a3 a4 a5 a6 h)
theorem inE8 {A0 A1 A2 A3 A4 A5 A6 A7 : Type} {p : A0 → A1 → A2 → A3 → A4 → A5 → A6 → A7 → Prop} (a0 : A0) (a1 : A1) (a2 : A2) (a3 : A3) (a4 : A4) (a5 : A5) (a6 : A6) (a7 : A7) (h : p a0 a1 a2 a3 a4 a5 a6 a7) : ∃ a0 a1 a2 a3 a4 a5 a6 a7, p a0 a1 a2 a3 a4 a5 a6 a7 := inE3 a0 a1 a2 (inE5 a3 a4 a5 a6 a7 h)
theorem inE9 {A0 A1 A2 A3 A4 A5 A6 A7 A8 : Type} {p : A0 → A1 → A2 → A3 → A4 → A5 → A6 → A7 → A8 → Prop} (a0 : A0) (a1 : A1) (a2 : A2) (a3 : A3) (a4 : A4) (a5 : A5) (a6 : A6) (a7 : A7) (a8 : A8) (h : p a0 a1 a2 a3 a4 a5 a6 a7 a8) : ∃ a0 a1 a2 a3 a4 a5 a6 a7 a8, p a0 a1 a2 a3 a4 a5 a6 a7 a8 := inE4 a0 a1 a2 a3 (inE5 a4 a5 a6 a7 a8 h)
theorem inE12 {A0 A1 A2 A3 A4 A5 A6 A7 A8 A9 A10 A11 : Type} {p : A0 → A1 → A2 → A3 → A4 → A5 → A6 → A7 → A8 → A9 → A10 → A11 → Prop} (a0 : A0) (a1 : A1) (a2 : A2) (a3 : A3) (a4 : A4) (a5 : A5) (a6 : A6) (a7 : A7) (a8 : A8) (a9 : A9) (a10 : A10) (a11 : A11) (h : p a0 a1 a2 a3 a4 a5 a6 a7 a8 a9 a10 a11) : ∃ a0 a1 a2 a3 a4 a5 a6 a7 a8 a9 a10 a11, p a0 a1 a2 a3 a4 a5 a6 a7 a8 a9 a10 a11 := inE5 a0 a1 a2 a3 a4 (inE7 a5 a6 a7 a8 a9 a10 a11 h)
theorem inE15 {A0 A1 A2 A3 A4 A5 A6 A7 A8 A9 A10 A11 A12 A13 A14 : Type} {p : A0 → A1 → A2 → A3 → A4 → A5 → A6 → A7 → A8 → A9 → A10 → A11 → A12 → A13 → A14 → Prop} (a0 : A0) (a1 : A1) (a2 : A2) (a3 : A3) (a4 : A4) (a5 : A5) (a6 : A6) (a7 : A7) (a8 : A8) (a9 : A9) (a10 : A10) (a11 : A11) (a12 : A12) (a13 : A13) (a14 : A14) (h : p a0 a1 a2 a3 a4 a5 a6 a7 a8 a9 a10 a11 a12 a13 a14) : ∃ a0 a1 a2 a3 a4 a5 a6 a7 a8 a9 a10 a11 a12 a13 a14, p a0 a1 a2 a3 a4 a5 a6 a7 a8 a9 a10 a11 a12 a13 a14 := inE8 a0 a1 a2 a3 a4 a5 a6 a7 (inE7 a8 a9 a10 a11 a12 a13 a14 h)
/-! end of the printed part -/

/-! wpAny over the contexts in which no built-in holds a buffer: a bytearray's __init__ looks through the whole stack for such -/
noncomputable def holdsIds : List String := Builtin.Bytes.decodersThatHold ++ ["bytearray.__contains__", "bytearray.__mod__", "bytearray.__rmod__", "_struct.pack_into.held", "bytearray.find.held"]
noncomputable def decB : Code → Bool
  | .builtin id _ => holdsIds.contains id
  | _ => false
noncomputable def Clean (Γ : Ctx) : Prop := decB Γ.code = false ∧ ∀ c ∈ Γ.below, decB c.1 = false

noncomputable def wpX {α : Type} (M : Model) (A : Around) (t : Sem α) (Q : α → Shared → Prop) (E : Value → Shared → Prop) (s : Shared) : Prop :=
  ∀ Γ p, Γ.In A → Clean Γ → Sem.wp M Γ t (fun a _ s' => Q a s') (fun e _ s' => E e s') p s
noncomputable def codeX (M : Model) (A : Around) (c : Code) (R : Result → Shared → Prop) (s : Shared) : Prop :=
  ∀ Γ p, Γ.code = c → Γ.Below A → Clean Γ → wpCode M Γ R p s

section
variable {α β : Type} {M : Model} {A : Around} {E : Value → Shared → Prop} {s : Shared}
theorem wpX.of {t : Sem α} {Q : α → Shared → Prop} (h : wpAny M A t Q E s) : wpX M A t Q E s := fun Γ p hΓ _ => h Γ p hΓ
theorem wpX_mono {t : Sem α} {Q Q' : α → Shared → Prop} {E' : Value → Shared → Prop} (h : wpX M A t Q E s) (hQ : ∀ a s, Q a s → Q' a s) (hE : ∀ e s, E e s → E' e s) : wpX M A t Q' E' s :=
  fun Γ p hΓ hc => Sem.wp_mono M Γ t (fun a _ s => hQ a s) (fun e _ s => hE e s) p s (h Γ p hΓ hc)
theorem wpX_bind {m : Sem α} {f : α → Sem β} {Q : β → Shared → Prop} (h : wpX M A m (fun a s' => wpX M A (f a) Q E s') E s) : wpX M A (m >>= f) Q E s := fun Γ p hΓ hc => by
  rw [Sem.wp_bind']
  exact Sem.wp_mono M Γ m (fun a p' s' h' => h' Γ p' hΓ hc) (fun _ _ _ h' => h') p s (h Γ p hΓ hc)
theorem wpX_pure {a : α} {Q : α → Shared → Prop} (h : Q a s) : wpX M A (Pure.pure a) Q E s := .of (wpAny_pure h)
theorem wpX_onRaise {m : Sem α} {k : Value → Sem Unit} {Q : α → Shared → Prop} (h : wpX M A m Q (fun _ _ => False) s) : wpX M A (m.onRaise k) Q E s := fun Γ p hΓ hc => by
  rw [Sem.wp_onRaise]
  exact Sem.wp_mono M Γ m (fun _ _ _ h' => h') (fun e p' s' h' => h'.elim) p s (h Γ p hΓ hc)
theorem wpX_attempt {m : Sem α} {Q : Except Value α → Shared → Prop} (h : wpX M A m (fun a => Q (.ok a)) (fun _ _ => False) s) : wpX M A m.attempt Q E s := fun Γ p hΓ hc => by
  rw [Sem.wp_attempt]
  exact Sem.wp_mono M Γ m (fun _ _ _ h' => h') (fun e p' s' h' => h'.elim) p s (h Γ p hΓ hc)
theorem wpX_holding {vs : List Value} {m : Sem α} {Q : α → Shared → Prop} (h : wpX M A m Q E s) : wpX M A (holding vs m) Q E s := fun Γ p hΓ hc => by
  rw [Sem.wp_holding]; exact h Γ p hΓ hc
theorem wpX_keep {vs : List Value} {m : Sem α} {Q : α → Shared → Prop} (h : wpX M A m Q E s) : wpX M A (m.keep vs) Q E s := fun Γ p hΓ hc => by
  rw [Sem.wp_keep]; exact h Γ p hΓ hc
theorem wpX_operate {vs : List Value} {m : Sem Value} {Q : Value → Shared → Prop} (h : wpX M A m Q E s) : wpX M A (operate vs m) Q E s := fun Γ p hΓ hc => by
  rw [Sem.wp_operate]; exact h Γ p hΓ hc
theorem Clean.enter {Γ : Ctx} (h : Clean Γ) {c : Code} (hc : decB c = false) (hd : Option Value) (p : Pos) : Clean (Γ.enter c hd p) :=
  ⟨hc, fun q hq => by
    rcases List.mem_cons.mp (show q ∈ (Γ.code, p) :: Γ.below from hq) with rfl | hq
    · exact h.1
    · exact h.2 q hq⟩
theorem Clean.goto {Γ : Ctx} (h : Clean Γ) {c : Code} (hc : decB c = false) : Clean (Γ.goto c) := ⟨hc, h.2⟩
theorem wpX_run {c : Code} {h : Option Value} {Q : Flow → Shared → Prop} (hd : decB c = false)
    (hc : codeX M (A.mark h) c (fun r s' => match r with | .ok f => Q f s' | .error e => E e s') s) (hnb : h ≠ some byPass := by intro x; cases x) : wpX M A (run c h) Q E s :=
  fun Γ p hΓ cl => by rw [Sem.wp_run]; exact hc _ p rfl (hΓ.enter c h p hnb) (cl.enter hd h p)
theorem wpX_runValue {c : Code} {Q : Value → Shared → Prop} (hd : decB c = false)
    (hc : codeX M A c (fun r s' => match r with | .ok (.ret v) => Q v s' | .ok _ => False | .error e => E e s') s) : wpX M A (runValue c) Q E s :=
  fun Γ p hΓ cl => by rw [Sem.wp_runValue]; exact hc _ p rfl (hΓ.enter c none p (by intro x; cases x)) (cl.enter hd none p)
theorem wpX_call {f : Value} {pos : List Value} {kw : List (Str × Value)} {Q : Value → Shared → Prop}
    (hc : codeX M A (.call f ⟨pos, kw⟩) (fun r s' => match r with | .ok (.ret v) => Q v s' | .ok _ => False | .error e => E e s') s) : wpX M A (call f pos kw) Q E s := wpX_runValue rfl hc
theorem codeX_mono {c : Code} {R R' : Result → Shared → Prop} (h : codeX M A c R s) (k : ∀ r s, R r s → R' r s) : codeX M A c R' s := fun Γ p hc hΓ cl => wpCode_mono k (h Γ p hc hΓ cl)
theorem codeX_of_tree {c : Code} {R : Result → Shared → Prop}
    (h : wpX M (A.under c) (M.den c) (fun fin s' => match fin with | .done f => R (.ok f) s' | .again c' => c'.quiet = true ∧ decB c' = false ∧ codeX M A c' R s') (fun e s' => R (.error e) s') s) : codeX M A c R s := fun Γ p hc hΓ cl => by
  rw [wpCode_iff_wp, hc]
  refine Sem.wp_mono M Γ _ (fun fin p' s' h' => ?_) (fun _ _ _ h' => h') p s (h Γ p (hc ▸ hΓ.in) cl)
  cases fin with
  | done f => exact h'
  | again c' => exact ⟨h'.1, h'.2.2 (Γ.goto c') p' rfl (hΓ.goto c') (cl.goto h'.2.1)⟩
end

section
variable {prog : Program} {w : World} {A : Around} {E : Value → Shared → Prop} {s : Shared} {R : Result → Shared → Prop}
theorem codeX_func {body : List Stmt} {env : Env} (h : wpX (model prog w) (A.deeper env) (execs body env) (fun f s' => R (.ok (.ret (match f with | .ret v => v | _ => .none))) s') (fun _ _ => False) s) : codeX (model prog w) A (.func body env) R s := by
  refine codeX_of_tree ?_
  show wpX _ (A.deeper env) (do point; match ← (execs body env).onRaise (leaving env) with | .ret v => ret v | _ => ret .none) _ _ s
  refine wpX_bind (.of (wpAny_point (wpX_bind (wpX_onRaise (wpX_mono h (fun f s' h' => ?_) fun _ _ h' => h')))))
  cases f <;> exact wpX_pure h'

theorem codeX_call_function {a : Addr} {args : Args} {o : Obj} {fd : FuncData} {body : List Stmt} (hroom : A.depth < recursionLimit)
    (ho : s.heap.get? a = some o) (hd' : o.data = .func fd) (hco : fd.scope.isCoroutine = false) (hgen : fd.scope.isGenerator = false) (hbody : fd.body = .stmts body) (hcd : s.heap.CodeRec fd.code fd.qualname)
    (h : wpX (model prog w) A.in1 (bindArgs fd args) (fun binds s₁ =>
      wpX (model prog w) A.in1 (newFunctionEnv fd.scope fd.globals fd.closure binds (fd.qualname ++ ".<locals>.") (some a) fd.code none fd.builtins)
        (fun env s₂ => s₂.heap.NoLimit ∧ codeX (model prog w) A (.func body env) R s₂) (fun e s' => R (.error e) s') s₁) (fun e s' => R (.error e) s') s) :
    codeX (model prog w) A (.call (.ref a) args) R s := by
  refine codeX_of_tree ?_
  show wpX _ A.in1 (callAny (.ref a) args) _ _ s
  simp only [callAny]
  refine wpX_bind (.of (wpAny_load ho ?_))
  refine elX4_4 ?_ hcd; clear hcd; rintro c oc vs tq hc hoc hdc hq
  simp only [hd', callFunction, hco, hgen, hbody, hc]
  rw [hc] at h
  refine wpX_bind (m := field (.ref c) 1) (.of (wpAny_field hoc hdc hq (wpX_bind (wpX_pure ?_))))
  exact wpX_bind (wpX_mono h (fun binds s₁ h₁ => wpX_bind (wpX_mono h₁ (fun env s₂ h₂ => wpX_bind (.of (wpAny_enterFrame h₂.1 hroom
    (wpX_pure (And.intro rfl ⟨rfl, h₂.2⟩))))) fun _ _ h' => h')) fun _ _ h' => h')

theorem codeX_call_def {a : Addr} {o : Obj} {fd : FuncData} {body : List Stmt} {args : Args} {binds : List (Str × Value)}
    (hroom : A.depth < recursionLimit) (ho : s.heap.get? a = some o) (hdata : o.data = .func fd) (hlim : s.heap.NoLimit) (hcd : s.heap.CodeRec fd.code fd.qualname)
    (hbody : fd.body = .stmts body) (hbind : BindsTo s fd args binds)
    (hcell : ∀ x ∈ fd.scope.names, x.2 ≠ .cell) (hloc : ∀ x ∈ binds, fd.scope.names.lookup x.1 = some .local)
    (h : ∀ h₀, h₀.Ns s.heap.objs.size (fun x => binds.reverse.lookup x) → (∀ b o, s.heap.get? b = some o → h₀.get? b = some o) →
      wpX (model prog w) (A.deeper (callEnv fd s.heap.objs.size a)) (execs body (callEnv fd s.heap.objs.size a)) (fun f s' => R (.ok (.ret (match f with | .ret v => v | _ => .none))) s') (fun _ _ => False)
        { s with heap := h₀, toks := s.toks + binds.length })
    (hco : fd.scope.isCoroutine = false) (hgen : fd.scope.isGenerator = false) (hk : fd.scope.kind = .function) :
    codeX (model prog w) A (.call (.ref a) args) R s := by
  refine codeX_call_function hroom ho hdata hco hgen hbody hcd (.of (hbind _ _ _ _ ?_))
  refine .of (wpAny_newFunctionEnv hcell hloc (fun h₀ hns₀ hsb₀ => ⟨hlim.fresh _ hsb₀, codeX_func (h h₀ hns₀ fun b o e => ?_)⟩) hk)
  exact hsb₀.extBut b o (Nat.ne_of_lt (Heap.lt_size e)) (Heap.get?_push_of_some _ e)
end

/-! the head, with wpX in the place of wpAny -/
theorem caller_clean : Clean (⟨.builtin "claim.caller" {}, none, none, [], none⟩ : Ctx) := ⟨by decide +kernel, fun _ h => nomatch h⟩

theorem callFromX {c : ClaimW} {tree : List Value → Sem Fin} {w : World} {s : Shared} {free : Addr → Prop} {gens : Prop} {kept : Heap → Prop} (hz : s.asleep) (hgens : s.gens = #[])
    (spec : ∀ args, c.pre args = true → WData.layableAll args = true → ∀ ord : List DictEntry → List DictEntry, (∀ l, (ord l).Perm l) →
      ∃ vs s₁, layAllW c.records (classAt s.heap) w.params ord args s = some (vs, s₁) ∧
        wpX (model c.prog w) callerA (tree vs) (fun fin s' => ∃ f, fin = .done f ∧ (c.Ends s args vs s₁ (.ok f) s' ∧ s'.os = s.os ∧ AllBare s'.gens ∧ kept s'.heap)) (fun _ _ => False) s₁) :
    c.CallFrom (fun vs => ⟨tree vs, .builtin "claim.caller" {}, default, []⟩) w free gens kept s := by
  intro args hpre hlay ord hord
  refine elX2_2 ?_ (spec args hpre hlay ord hord); rintro vs s₁ laid run
  have al := layAllW_rest _ _ _ laid
  have one : Sem.wp (model c.prog w) ⟨.builtin "claim.caller" {}, none, none, [], none⟩ (tree vs)
      (Sem.finPost (model c.prog w) ⟨.builtin "claim.caller" {}, none, none, [], none⟩ fun r s' => (c.Ends s args vs s₁ r s' ∧ s'.os = s.os ∧ kept s'.heap) ∧ leftWithCleanup s'.gens = false)
      (fun e _ s' => (c.Ends s args vs s₁ (.error e) s' ∧ s'.os = s.os ∧ kept s'.heap) ∧ leftWithCleanup s'.gens = false) default s₁ := by
    refine Sem.wp_mono _ _ _ (fun fin p s' h => ?_) (fun _ _ _ h => h.elim) _ _ (run _ default caller_in caller_clean)
    refine elX1_5 ?_ h; clear h; rintro f rfl h1 h2 h3 h4
    exact ⟨⟨h1, h2, h4⟩, leftWithCleanup_false_of_bare h3⟩
  refine elX4_4 ?_ (wp_halts_full (M := model c.prog w) (R := fun r s' => c.Ends s args vs s₁ r s' ∧ s'.os = s.os ∧ kept s'.heap) (Shared.asleep_of_life al.2.2.2 hz) one); rintro k r s' s'' sched go fo; refine elA3 ?_; rintro case os hk
  refine elA5 ?_ (Shared.forget_eq fo); rintro eh _ _ eo _
  have case := case.congr eh
  have hk : kept s''.heap := by rw [eh]; exact hk
  rw [← eo] at os
  have life : s''.heap.life = s.heap.life := (runN_life _ _ _ go).trans al.2.2.2
  refine ⟨vs, s₁, laid, k, _, s'', sched, ?_, (fun _ i x hx => by rw [hgens] at hx; simp at hx), hk, by rw [life], Shared.rest_eq os⟩
  rcases case with ⟨v, rfl, d1, d2, d3, d4, d5⟩ | ⟨e, ob, cls, rfl, d1, d2, d3, d4, d5⟩
  · exact .inl ⟨v, rfl, d1, d2, d3, fun b o y _ => d4 b o y, d5⟩
  · exact .inr ⟨e, ob, cls, rfl, d1, d2, d3, d4, fun b o y _ => d5 b o y⟩

/-- the law's call, from where the top has left the heap -/
noncomputable def Walks (q : Program) (loose : List Str) (XP : (Str → Option Value) → Heap → Prop) (YP : World → Heap → Prop) (r : RowW) : Prop :=
  ∀ (w : World) (s₀ s₁ : Shared) (mg mb : Str → Option Value), Ground q loose r.records XP w s₀ mg mb s₁.heap → YP w s₁.heap → ∀ f : Value, mg r.name = some f → s₁.gens = #[] →
    ∀ (args : List WData) (vals : List Value) (as : List Addr), r.claim.pre args = true → WData.layableAll args = true → ReadsAllW r.records (classAt s₀.heap) s₁.heap vals args as → WellAll w.params s₁.heap vals args →
      wpX (model r.prog w) callerA (call f vals) (fun v s' => GoodWG r.claim (classAt s₀.heap) (ExcName.means s₀.heap) args s₁ (.ok (.ret v)) s') (fun _ _ => False) s₁

theorem PySem.W.holds_open {r : OpenRow} {q : Program} {loose : List Str} {Xt : Shared → Bool} {XP : (Str → Option Value) → Heap → Prop} {α : Type} {Yf : Shared → α} {Ya : World → α} {YP : World → Heap → Prop} {d : DefRec} {kwd : List (Str × Expr)} {N : Nat}
    (left : LeftO r.prog q loose Xt Yf Ya N) (hY : ∀ w s, Yf s = Ya w → YP w s.heap) (hYk : ∀ w h h', YP w h → (∀ b o, h.get? b = some o → h'.get? b = some o) → YP w h')
    (hX : ∀ s, Xt s = true → XP (s.heap.nsMap mainGlobals) s.heap) (hXk : ∀ mg h h', XP mg h → (∀ b o, h.get? b = some o → h'.get? b = some o) → XP mg h')
    (hdef : defOf q r.name = some (d, kwd)) (hp : r.prog.theDef r.name = some (d.params, d.body, d.scope)) (hk : kwWritten? d.params.kwonlyargs d.params.kw_defaults = some kwd) (hRf : ∀ s, Xt s = true → RecFacts r.records s.heap) (hwr : (!r.writes || r.records.isEmpty) = true)
    (k1 : r.wellSaid = true) (ok : (chainsOk q && opensWell r.prog && (frees r.toRowW && r.within.isEmpty)) = true) (hb : r.prog.bare) (hw : r.toRowW.promised)
    (call : Walks q loose XP YP r.toRowW) : r.Holds := by
  obtain ⟨ok, k5⟩ := Bool.and_eq_true_iff.mp ok
  obtain ⟨hch, o1⟩ := Bool.and_eq_true_iff.mp ok
  obtain ⟨k5, k6⟩ := Bool.and_eq_true_iff.mp k5
  refine elA5 ?_ (frees_parts k5); rintro hsame hu ha hap hm
  have hi := ident_freeW hu ha hap
  have hwi : r.toRowW.claim.within = [] := List.isEmpty_iff.mp k6
  refine ⟨k1, hw, ⟨hb, o1, by show r.makers.map _ = []; rw [hm]; rfl⟩, hw.witness, fun w => ⟨(left.behind hX hch w).1, fun s' hs' => ?_⟩⟩
  refine elX1_3 ?_ ((left.behind (XP := fun mg h => XP mg h ∧ RecFacts r.records h) (fun s hs => ⟨hX s hs, hRf s hs⟩) hch w).2 s' hs'); rintro s₀ hf hg0; refine elX1_6 ?_; rintro s hT hz hgens hg GX y
  have G0 : Ground q loose [] XP w s (s.heap.nsMap mainGlobals) (s.heap.nsMap builtinsNs) s.heap := ⟨GX.T, GX.B, GX.D, GX.TE, GX.TD, GX.W, GX.X.1, GX.cls, GX.has, GX.apart, GX.once, GX.K⟩
  have RF := GX.X.2
  have hTT := hT
  refine ⟨s₀, hf, hg0, s, hT, fun n hn => ?_, RF.1, RF.2.1, ?_⟩
  · obtain rfl : n = r.name := by split at hn <;> simp_all
    exact pinned_of_view hg G0 hdef hp hk
  have hgens : s.gens = #[] := Array.eq_empty_of_size_eq_zero (beq_iff_eq.mp hgens)
  have G : Ground q loose r.records XP w s _ _ s.heap := RF.ground G0
  refine callFromX (c := r.toRowW.claim) hz hgens fun args hpre hlay ord hord => ?_
  obtain ⟨⟨vs, s₁⟩, laid⟩ := Option.isSome_iff_exists.mp (layAllW_isSome (P := w.params) (ord := ord) G.has args r.args s (pre_splitW hpre).1)
  have keeps := layAllW_keeps _ _ _ laid
  have al := layAllW_rest _ _ _ laid
  refine elX1_3 ?_ (reads_layAllW hord _ _ _ laid hlay s₁.heap (fun _ _ e => e)); rintro as hrd hin hold
  have L : Laid r.records w s s₁ args vs as := ⟨⟨ord, hord, laid⟩, hrd, hin, hold, keeps, al.1.trans hgens, al.2.2.1⟩
  have G₁ := G.keeps hXk keeps
  refine elE7 ?_ (G₁.fn hdef); rintro a o pm cd doc dV kV; refine elA5 ?_; rintro h1 h2 h3 h4 h5
  have hfn := defOf_name hdef
  have z := call w s s₁ _ _ G₁ (hYk _ _ _ (hY w s y) keeps) (.ref a) h1 L.gens args vs as hpre hlay L.reads L.well
  refine ⟨vs, s₁, laid, wpX_bind (.of (wpAny_nsGet G₁.T.g ?_))⟩
  rw [h1]
  refine wpX_bind (wpX_mono z (fun v s' g => wpX_pure ⟨_, rfl, ?_⟩) fun _ _ x => x)
  have e := g.laid (c := r.toRowW.claim) hsame hwi hi L
  exact ⟨e.1, e.2.1, e.2.2, fun q => ⟨namesKept_of hTT hg _ keeps g.2.1.old, noTable hwr q⟩⟩

/-! small sums, so that the long proofs need no arithmetic tactic -/
theorem ar_lt {a b : Int} (h : a < b) (h0 : 0 < b) : a.toNat < b.toNat := (Int.toNat_lt_toNat h0).mpr h
theorem ar_m (n : Nat) : ((n : Int) - 1).toNat = n - 1 := Int.toNat_sub n 1
theorem ar_p (n : Nat) : (-1 + (n : Int)).toNat = n - 1 := (congrArg Int.toNat (Int.add_comm _ _)).trans (Int.toNat_sub n 1)
theorem ar_abs {i : Int} {k : Nat} (h0 : 0 ≤ i) (h : i < k) : i.natAbs < k := by
  obtain ⟨n, rfl⟩ := Int.eq_ofNat_of_zero_le h0
  exact Int.ofNat_lt.mp h
theorem ar_min (a b : Nat) : min (a : Int) (b : Int) = ((min a b : Nat) : Int) := by
  rcases Nat.le_total a b with h | h
  · rw [Nat.min_eq_left h, Int.min_eq_left (Int.ofNat_le.mpr h)]
  · rw [Nat.min_eq_right h, Int.min_eq_right (Int.ofNat_le.mpr h)]
theorem ar_end {R a : Nat} {r0 : Int} (h0 : 0 ≤ r0) (h3 : r0 < 3) (ha : (a : Int) < (R : Int)) : ∃ e : Nat, min (R : Int) ((a : Int) + 1 + r0) = (e : Int) ∧ a < e ∧ e ≤ R ∧ e ≤ a + 3 := by
  obtain ⟨n, rfl⟩ := Int.eq_ofNat_of_zero_le h0
  have h : n ≤ 2 := Nat.le_of_lt_succ (Int.ofNat_lt.mp h3)
  exact ⟨min R (a + 1 + n), ar_min R (a + 1 + n), Nat.lt_min.mpr ⟨Int.ofNat_lt.mp ha, Nat.lt_of_lt_of_le (Nat.lt_succ_self a) (Nat.le_add_right _ _)⟩, Nat.min_le_left _ _, Nat.le_trans (Nat.min_le_right _ _) (Nat.add_le_add_left h (a + 1))⟩
theorem ar_p1 {p : Int} {n : Nat} (h : 2 ≤ p) (h2 : p ≤ n) : (p - 1).toNat < n := (Int.toNat_lt (Int.sub_nonneg_of_le (Int.le_trans (by decide) h))).mpr (Int.lt_of_lt_of_le (Int.sub_lt_self p (by decide)) h2)
theorem ar_mid {lo hi : Int} (h0 : 0 ≤ lo) (h : lo < hi) : ∃ mid : Nat, (lo + hi).fdiv 2 = (mid : Int) ∧ lo ≤ mid ∧ (mid : Int) < hi := by
  have a : lo ≤ (lo + hi) / 2 := Int.le_ediv_of_mul_le (by decide) (by rw [Int.mul_comm, Int.two_mul]; exact Int.add_le_add_left (Int.le_of_lt h) lo)
  have b : (lo + hi) / 2 < hi := Int.ediv_lt_of_lt_mul (by decide) (by rw [Int.mul_comm, Int.two_mul]; exact Int.add_lt_add_right h hi)
  obtain ⟨n, e⟩ := Int.eq_ofNat_of_zero_le (Int.le_trans h0 a)
  exact ⟨n, by rw [Int.fdiv_eq_ediv_of_nonneg _ (by decide), e], by rw [← e]; exact a, by rw [← e]; exact b⟩
theorem ar_up {lo hi mid : Int} (h : lo ≤ mid) (h2 : lo < hi) : (hi - (mid + 1)).toNat < (hi - lo).toNat := ar_lt (Int.sub_lt_sub_left (Int.lt_add_one_of_le h) hi) (Int.sub_pos_of_lt h2)
theorem ar_dn {lo hi mid : Int} (h : mid < hi) (h2 : lo < hi) : (mid - lo).toNat < (hi - lo).toNat := ar_lt (Int.sub_lt_sub_right h lo) (Int.sub_pos_of_lt h2)
theorem ar_sub {n i : Nat} (h : i < n) : n - i = n - (i + 1) + 1 := (Nat.succ_pred_eq_of_pos (Nat.sub_pos_of_lt h)).symm
theorem ar_fmod (a : Int) : (a.fmod 2147483647).natAbs < 18446744073709551616 := ar_abs (Int.fmod_nonneg_of_pos a (by decide)) (Int.lt_trans (Int.fmod_lt_of_pos a (by decide)) (by decide))
theorem ar_ne {p : Int} (h : 3 ≤ p) : 1 ≠ (p - 1).toNat := Nat.ne_of_lt (Int.toNat_le_toNat (Int.sub_le_sub_right h 1))
theorem ar_ord (i j : Int) : (i < j ∨ j = i) ↔ i ≤ j := ⟨fun h => h.elim Int.le_of_lt fun e => Int.le_of_eq e.symm, fun h => (Int.lt_or_eq_of_le h).imp id Eq.symm⟩
theorem ar_64 {n m : Nat} (h : n ≤ 4) : ((64 : Int) - 5 * (n : Int) - (m : Int)).toNat = 64 - 5 * n - m := by
  rw [show (64 : Int) - 5 * (n : Int) = ((64 - 5 * n : Nat) : Int) from (Int.ofNat_sub (Nat.le_trans (Nat.mul_le_mul_left 5 h) (by decide))).symm]
  exact Int.toNat_sub _ _

end Mine
theorem Mine.same : @PySem.instDecidableEqStr = @PySem.instDecidableEqStr := rfl
name_quick tw4616053303230984771 for PySem.instDecidableEqStr by Mine.same
name_quick tw11664401071758121718 for PySem.instDecidableEqStr by Mine.same
name_quick tw10086986253091759139 for PySem.instDecidableEqStr by Mine.same
name_quick tw8075568018651887793 for PySem.instDecidableEqStr by Mine.same
name_quick tw14044825580494837144 for PySem.instDecidableEqStr by Mine.same
name_quick tw7659347153609844283 for PySem.instDecidableEqStr by Mine.same
name_quick tw3029339280798734089 for PySem.instDecidableEqStr by Mine.same
name_quick tw13510379307183009540 for PySem.instDecidableEqStr by Mine.same
name_quick tw10757946417298954514 for PySem.instDecidableEqStr by Mine.same
name_quick tw16115968888881914857 for PySem.instDecidableEqStr by Mine.same
name_quick tw14045093552192807041 for PySem.instDecidableEqStr by Mine.same
name_quick tw2731919269674803413 for PySem.instDecidableEqStr by Mine.same
name_quick tw14979626087600564940 for PySem.instDecidableEqStr by Mine.same
name_quick tw5341061189523253002 for PySem.instDecidableEqStr by Mine.same
name_quick tw5748944642966459573 for PySem.instDecidableEqStr by Mine.same
name_quick tw10532037691210839823 for PySem.instDecidableEqStr by Mine.same
name_quick tw11487541028326302738 for PySem.instDecidableEqStr by Mine.same
name_quick tw14956549838072327282 for PySem.instDecidableEqStr by Mine.same
name_quick tw1051571026272145596 for PySem.instDecidableEqStr by Mine.same
name_quick tw6487607542567909272 for PySem.instDecidableEqStr by Mine.same
name_quick tw13934334620574475237 for PySem.instDecidableEqStr by Mine.same
name_quick tw8725556140233255809 for PySem.instDecidableEqStr by Mine.same
name_quick tw10823345740709935493 for PySem.instDecidableEqStr by Mine.same
name_quick tw5289962621202845349 for PySem.instDecidableEqStr by Mine.same
name_quick tw6517296806544964722 for PySem.instDecidableEqStr by Mine.same
name_quick tw10406617859236724533 for PySem.instDecidableEqStr by Mine.same
name_quick tw1690735587144091376 for PySem.instDecidableEqStr by Mine.same
name_quick tw12750523984047038209 for PySem.instDecidableEqStr by Mine.same
name_quick tw18310272354389090212 for PySem.instDecidableEqStr by Mine.same
name_quick tw10719484529398299949 for PySem.instDecidableEqStr by Mine.same
name_quick tw10181792811725400092 for PySem.instDecidableEqStr by Mine.same
name_quick tw7585139358526817783 for PySem.instDecidableEqStr by Mine.same
name_quick tw8125055898148337911 for PySem.instDecidableEqStr by Mine.same
name_quick tw2951486255847992690 for PySem.instDecidableEqStr by Mine.same
name_quick tw16573998221262416630 for PySem.instDecidableEqStr by Mine.same
name_quick tw9874925044762336030 for PySem.instDecidableEqStr by Mine.same
name_quick tw2460228577881660442 for PySem.instDecidableEqStr by Mine.same
name_quick tw219737044198020058 for PySem.instDecidableEqStr by Mine.same
name_quick tw11398097091735476289 for PySem.instDecidableEqStr by Mine.same
name_quick tw9136488742655976645 for PySem.instDecidableEqStr by Mine.same
name_quick tw9407582987413476825 for PySem.instDecidableEqStr by Mine.same
name_quick tw7573151900890175926 for PySem.instDecidableEqStr by Mine.same
name_quick tw6624491594363574236 for PySem.instDecidableEqStr by Mine.same
name_quick tw16836917639561548568 for PySem.instDecidableEqStr by Mine.same
name_quick tw9868982950595657695 for PySem.instDecidableEqStr by Mine.same
name_quick tw5994239182223829532 for PySem.instDecidableEqStr by Mine.same
name_quick tw14599682168371859732 for PySem.instDecidableEqStr by Mine.same
name_quick tw6817277305950994716 for PySem.instDecidableEqStr by Mine.same
name_quick tw3636048126100218174 for PySem.instDecidableEqStr by Mine.same
name_quick tw12821735335276811757 for PySem.instDecidableEqStr by Mine.same
name_quick tw3916196269025109296 for PySem.instDecidableEqStr by Mine.same
name_quick tw7976981314885711489 for PySem.instDecidableEqStr by Mine.same
name_quick tw14615009949319019899 for PySem.instDecidableEqStr by Mine.same
name_quick tw9575731206691268911 for PySem.instDecidableEqStr by Mine.same
name_quick tw16415621359673392558 for PySem.instDecidableEqStr by Mine.same
name_quick tw6144853644547557980 for PySem.instDecidableEqStr by Mine.same
name_quick tw2736616831223182526 for PySem.instDecidableEqStr by Mine.same
name_quick tw9087420756778563785 for PySem.instDecidableEqStr by Mine.same
name_quick tw13654929937467362199 for PySem.instDecidableEqStr by Mine.same
name_quick tw2721586585765338809 for PySem.instDecidableEqStr by Mine.same
name_quick tw10758392820592806131 for PySem.instDecidableEqStr by Mine.same
name_quick tw14186486079044719983 for PySem.instDecidableEqStr by Mine.same
name_quick tw15202239659555905331 for PySem.instDecidableEqStr by Mine.same
name_quick tw13327788547554364294 for PySem.instDecidableEqStr by Mine.same
name_quick tw5247225353297040015 for PySem.instDecidableEqStr by Mine.same
name_quick tw1523951592034530338 for PySem.instDecidableEqStr by Mine.same
name_quick tw3619232141914619222 for PySem.instDecidableEqStr by Mine.same
name_quick tw12660628722211587041 for PySem.instDecidableEqStr by Mine.same
name_quick tw4858009861420398278 for PySem.instDecidableEqStr by Mine.same
name_quick tw15902184279288820625 for PySem.instDecidableEqStr by Mine.same
name_quick tw4879560196417449868 for PySem.instDecidableEqStr by Mine.same
name_quick tw9979284746773624096 for PySem.instDecidableEqStr by Mine.same
name_quick tw9360162991891328533 for PySem.instDecidableEqStr by Mine.same
name_quick tw14778209649434054790 for PySem.instDecidableEqStr by Mine.same
name_quick tw7503421922109321716 for PySem.instDecidableEqStr by Mine.same
name_quick tw10670733350059645105 for PySem.instDecidableEqStr by Mine.same
name_quick tw2011108890870493169 for PySem.instDecidableEqStr by Mine.same
name_quick tw17975652961387846372 for PySem.instDecidableEqStr by Mine.same
name_quick tw16437185098154296904 for PySem.instDecidableEqStr by Mine.same
name_quick tw14223099787259518943 for PySem.instDecidableEqStr by Mine.same
name_quick tw2302674139485633275 for PySem.instDecidableEqStr by Mine.same
name_quick tw2664551874359636763 for PySem.instDecidableEqStr by Mine.same
name_quick tw2627984346626558326 for PySem.instDecidableEqStr by Mine.same
name_quick tw1772237422875290029 for PySem.instDecidableEqStr by Mine.same
name_quick tw9315938663221665524 for PySem.instDecidableEqStr by Mine.same
name_quick tw8119918657739134586 for PySem.instDecidableEqStr by Mine.same
name_quick tw15560853006256673968 for PySem.instDecidableEqStr by Mine.same
name_quick tw4527066259768149269 for PySem.instDecidableEqStr by Mine.same
name_quick tw1377046205977697930 for PySem.instDecidableEqStr by Mine.same
name_quick tw14214133299417103183 for PySem.instDecidableEqStr by Mine.same
name_quick tw8206430501311747189 for PySem.instDecidableEqStr by Mine.same
name_quick tw17057272898397164401 for PySem.instDecidableEqStr by Mine.same
name_quick tw1100353791813204450 for PySem.instDecidableEqStr by Mine.same
name_quick tw10346894026039390216 for PySem.instDecidableEqStr by Mine.same
name_quick tw1156252341971683116 for PySem.instDecidableEqStr by Mine.same
name_quick tw17000155066101142889 for PySem.instDecidableEqStr by Mine.same
name_quick tw7009043117176579089 for PySem.instDecidableEqStr by Mine.same
name_quick tw12734952128020822468 for PySem.instDecidableEqStr by Mine.same
name_quick tw1189118826323900759 for PySem.instDecidableEqStr by Mine.same
name_quick tw4769018279307018242 for PySem.instDecidableEqStr by Mine.same
name_quick tw16349804527192203551 for PySem.instDecidableEqStr by Mine.same
name_quick tw17497748084772794779 for PySem.instDecidableEqStr by Mine.same
name_quick tw8032284361305108907 for PySem.instDecidableEqStr by Mine.same
name_quick tw3264259588550801142 for PySem.instDecidableEqStr by Mine.same
name_quick tw11236458984494512445 for PySem.instDecidableEqStr by Mine.same
name_quick tw2283851925072248500 for PySem.instDecidableEqStr by Mine.same
name_quick tw5268983451555188008 for PySem.instDecidableEqStr by Mine.same
name_quick tw12945968074294007009 for PySem.instDecidableEqStr by Mine.same
name_quick tw830924265138556478 for PySem.instDecidableEqStr by Mine.same
name_quick tw8509908385975216990 for PySem.instDecidableEqStr by Mine.same
name_quick tw12182807814244774211 for PySem.instDecidableEqStr by Mine.same
name_quick tw1189734492583310 for PySem.instDecidableEqStr by Mine.same
name_quick tw10057510723706494237 for PySem.instDecidableEqStr by Mine.same
name_quick tw5068434257544371817 for PySem.instDecidableEqStr by Mine.same
name_quick tw12647630874787467225 for PySem.instDecidableEqStr by Mine.same
name_quick tw764782834095389478 for PySem.instDecidableEqStr by Mine.same
name_quick tw6148621092414575339 for PySem.instDecidableEqStr by Mine.same
name_quick tw17814930658547583709 for PySem.instDecidableEqStr by Mine.same
name_quick tw15199281503961881116 for PySem.instDecidableEqStr by Mine.same
name_quick tw6125931036764729998 for PySem.instDecidableEqStr by Mine.same
name_quick tw16366562015402752707 for PySem.instDecidableEqStr by Mine.same
name_quick tw441327347791068078 for PySem.instDecidableEqStr by Mine.same
name_quick tw6213141578215901147 for PySem.instDecidableEqStr by Mine.same
name_quick tw4936483359421988267 for PySem.instDecidableEqStr by Mine.same
name_quick tw9800571698397750058 for PySem.instDecidableEqStr by Mine.same
name_quick tw325292655437039998 for PySem.instDecidableEqStr by Mine.same
name_quick tw8946543629884556368 for PySem.instDecidableEqStr by Mine.same
name_quick tw16018607276475445134 for PySem.instDecidableEqStr by Mine.same
name_quick tw14364280277409689854 for PySem.instDecidableEqStr by Mine.same
name_quick tw9206804518496725263 for PySem.instDecidableEqStr by Mine.same
name_quick tw18220123701641295943 for PySem.instDecidableEqStr by Mine.same
name_quick tw14323765505736481980 for PySem.instDecidableEqStr by Mine.same
name_quick tw5936146933674214641 for PySem.instDecidableEqStr by Mine.same
name_quick tw11767421526060770920 for PySem.instDecidableEqStr by Mine.same
name_quick tw10227693086864044499 for PySem.instDecidableEqStr by Mine.same
name_quick tw17520869792638436183 for PySem.instDecidableEqStr by Mine.same
name_quick tw17596809139577655471 for PySem.instDecidableEqStr by Mine.same
name_quick tw8620020772036689432 for PySem.instDecidableEqStr by Mine.same
name_quick tw8376441433122354887 for PySem.instDecidableEqStr by Mine.same
name_quick tw15263041282635125899 for PySem.instDecidableEqStr by Mine.same
name_quick tw13314330512976039754 for PySem.instDecidableEqStr by Mine.same
name_quick tw16417370028952169744 for PySem.instDecidableEqStr by Mine.same
name_quick tw8708707556590381134 for PySem.instDecidableEqStr by Mine.same
name_quick tw7824674403005707151 for PySem.instDecidableEqStr by Mine.same
name_quick tw6698160770425034372 for PySem.instDecidableEqStr by Mine.same
name_quick tw12170303376835216750 for PySem.instDecidableEqStr by Mine.same
name_quick tw2037417660504910701 for PySem.instDecidableEqStr by Mine.same
name_quick tw1667231139898017245 for PySem.instDecidableEqStr by Mine.same
name_quick tw6182678533730793537 for PySem.instDecidableEqStr by Mine.same
name_quick tw12393455550290869266 for PySem.instDecidableEqStr by Mine.same
name_quick tw2422670821966735624 for PySem.instDecidableEqStr by Mine.same
name_quick tw5189142188285759775 for PySem.instDecidableEqStr by Mine.same
name_quick tw5349121933718820234 for PySem.instDecidableEqStr by Mine.same
name_quick tw7035115661146626270 for PySem.instDecidableEqStr by Mine.same
name_quick tw16752143609539240740 for PySem.instDecidableEqStr by Mine.same
name_quick tw704327219915372674 for PySem.instDecidableEqStr by Mine.same
name_quick tw18328561965235511954 for PySem.instDecidableEqStr by Mine.same
name_quick tw8727135674562949291 for PySem.instDecidableEqStr by Mine.same
name_quick tw17429684086410527887 for PySem.instDecidableEqStr by Mine.same
name_quick tw2718901123391026995 for PySem.instDecidableEqStr by Mine.same
name_quick tw4733837786962973091 for PySem.instDecidableEqStr by Mine.same
name_quick tw9151444980202551346 for PySem.instDecidableEqStr by Mine.same
name_quick tw6944952908185719654 for PySem.instDecidableEqStr by Mine.same
name_quick tw13816233472422033322 for PySem.instDecidableEqStr by Mine.same
name_quick tw3953757239420563355 for PySem.instDecidableEqStr by Mine.same
name_quick tw5720267713326709755 for PySem.instDecidableEqStr by Mine.same
name_quick tw16947794391021106201 for PySem.instDecidableEqStr by Mine.same
name_quick tw3504847659760329788 for PySem.instDecidableEqStr by Mine.same
name_quick tw5425108064043664162 for PySem.instDecidableEqStr by Mine.same
name_quick tw16296994325663420285 for PySem.instDecidableEqStr by Mine.same
name_quick tw43969757491396457 for PySem.instDecidableEqStr by Mine.same
name_quick tw17727738676932873817 for PySem.instDecidableEqStr by Mine.same
name_quick tw916427462477926122 for PySem.instDecidableEqStr by Mine.same
name_quick tw17828083071136270317 for PySem.instDecidableEqStr by Mine.same
name_quick tw12832477231654346042 for PySem.instDecidableEqStr by Mine.same
name_quick tw12392613427281201732 for PySem.instDecidableEqStr by Mine.same
name_quick tw7081425507203772304 for PySem.instDecidableEqStr by Mine.same
name_quick tw7431591544816029494 for PySem.instDecidableEqStr by Mine.same
name_quick tw10938465397075749097 for PySem.instDecidableEqStr by Mine.same
name_quick tw2611137233208623240 for PySem.instDecidableEqStr by Mine.same
name_quick tw8473563963867554017 for PySem.instDecidableEqStr by Mine.same
name_quick tw17244072584429378644 for PySem.instDecidableEqStr by Mine.same
name_quick tw14489655085307688843 for PySem.instDecidableEqStr by Mine.same
name_quick tw17888162413812561239 for PySem.instDecidableEqStr by Mine.same
name_quick tw9577309144901391297 for PySem.instDecidableEqStr by Mine.same
name_quick tw5310036984924271277 for PySem.instDecidableEqStr by Mine.same
name_quick tw17919728810627054236 for PySem.instDecidableEqStr by Mine.same
name_quick tw13145125596335152023 for PySem.instDecidableEqStr by Mine.same
name_quick tw6993175162768986339 for PySem.instDecidableEqStr by Mine.same
name_quick tw14874922208557711187 for PySem.instDecidableEqStr by Mine.same
name_quick tw5152784196030571298 for PySem.instDecidableEqStr by Mine.same
name_quick tw13526986893379352335 for PySem.instDecidableEqStr by Mine.same
name_quick tw7191607858210974391 for PySem.instDecidableEqStr by Mine.same
name_quick tw17554001833073541016 for PySem.instDecidableEqStr by Mine.same
name_quick tw11891824955294080559 for PySem.instDecidableEqStr by Mine.same
name_quick tw5303519439607764402 for PySem.instDecidableEqStr by Mine.same
name_quick tw5889167727604068794 for PySem.instDecidableEqStr by Mine.same
name_quick tw13951202360752479828 for PySem.instDecidableEqStr by Mine.same
name_quick tw1631149150583789468 for PySem.instDecidableEqStr by Mine.same
name_quick tw11518781747449614426 for PySem.instDecidableEqStr by Mine.same
name_quick tw17111948838632640456 for PySem.instDecidableEqStr by Mine.same
name_quick tw9759809726879904816 for PySem.instDecidableEqStr by Mine.same
name_quick tw7112787868492120936 for PySem.instDecidableEqStr by Mine.same
name_quick tw8162909057868654942 for PySem.instDecidableEqStr by Mine.same
name_quick tw14884601019740666482 for PySem.instDecidableEqStr by Mine.same
name_quick tw14896874001708588922 for PySem.instDecidableEqStr by Mine.same
name_quick tw4075660801711882420 for PySem.instDecidableEqStr by Mine.same
name_quick tw14907048974825807369 for PySem.instDecidableEqStr by Mine.same
name_quick tw15965015591981942514 for PySem.instDecidableEqStr by Mine.same
name_quick tw17026713947507217902 for PySem.instDecidableEqStr by Mine.same
name_quick tw3315324234476444515 for PySem.instDecidableEqStr by Mine.same
name_quick tw7469732015759309437 for PySem.instDecidableEqStr by Mine.same
name_quick tw4405960384096086239 for PySem.instDecidableEqStr by Mine.same
name_quick tw2571919107429820419 for PySem.instDecidableEqStr by Mine.same
name_quick tw1393629259489396696 for PySem.instDecidableEqStr by Mine.same
name_quick tw3740020263889925745 for PySem.instDecidableEqStr by Mine.same
name_quick tw9501820088010722379 for PySem.instDecidableEqStr by Mine.same
name_quick tw15041003319150489328 for PySem.instDecidableEqStr by Mine.same
name_quick tw17679261114430710190 for PySem.instDecidableEqStr by Mine.same
name_quick tw8450942572126056277 for PySem.instDecidableEqStr by Mine.same
name_quick tw16648231224745350325 for PySem.instDecidableEqStr by Mine.same
name_quick tw10996506086634736982 for PySem.instDecidableEqStr by Mine.same
name_quick tw6434138532213402376 for PySem.instDecidableEqStr by Mine.same
name_quick tw5862295025349918931 for PySem.instDecidableEqStr by Mine.same
name_quick tw293829605474521371 for PySem.instDecidableEqStr by Mine.same
name_quick tw1041845030581493396 for PySem.instDecidableEqStr by Mine.same
name_quick tw1536587703002861866 for PySem.instDecidableEqStr by Mine.same
name_quick tw10058976618658966374 for PySem.instDecidableEqStr by Mine.same
name_quick tw716658179208862652 for PySem.instDecidableEqStr by Mine.same
name_quick tw2569364866550412066 for PySem.instDecidableEqStr by Mine.same
name_quick tw6607189417530752870 for PySem.instDecidableEqStr by Mine.same
name_quick tw3345107109950449737 for PySem.instDecidableEqStr by Mine.same
name_quick tw17318589155259679147 for PySem.instDecidableEqStr by Mine.same
name_quick tw9413167413068371254 for PySem.instDecidableEqStr by Mine.same
name_quick tw5032809538720368765 for PySem.instDecidableEqStr by Mine.same
name_quick tw1423138165483278961 for PySem.instDecidableEqStr by Mine.same
name_quick tw721709456127091705 for PySem.instDecidableEqStr by Mine.same
name_quick tw14326252917377295143 for PySem.instDecidableEqStr by Mine.same
name_quick tw14273802060069496912 for PySem.instDecidableEqStr by Mine.same
name_quick tw17183712847048597117 for PySem.instDecidableEqStr by Mine.same
name_quick tw13833065179229638619 for PySem.instDecidableEqStr by Mine.same
name_quick tw8902219603052485911 for PySem.instDecidableEqStr by Mine.same
name_quick tw3148276903521382524 for PySem.instDecidableEqStr by Mine.same
name_quick tw4042386549635913901 for PySem.instDecidableEqStr by Mine.same
name_quick tw9265879793445154701 for PySem.instDecidableEqStr by Mine.same
name_quick tw15067931366933112725 for PySem.instDecidableEqStr by Mine.same
name_quick tw12540713548012372134 for PySem.instDecidableEqStr by Mine.same
name_quick tw8686407601681055034 for PySem.instDecidableEqStr by Mine.same
name_quick tw17842620306162639686 for PySem.instDecidableEqStr by Mine.same
name_quick tw13789449189825218787 for PySem.instDecidableEqStr by Mine.same
name_quick tw12477758415327278626 for PySem.instDecidableEqStr by Mine.same
name_quick tw2735471455948067141 for PySem.instDecidableEqStr by Mine.same
name_quick tw14096952598973939363 for PySem.instDecidableEqStr by Mine.same
name_quick tw2719445374943340272 for PySem.instDecidableEqStr by Mine.same
name_quick tw17846936440860909165 for PySem.instDecidableEqStr by Mine.same
name_quick tw11853533878840232495 for PySem.instDecidableEqStr by Mine.same
name_quick tw4525517667737911620 for PySem.instDecidableEqStr by Mine.same
name_quick tw6711915476519705758 for PySem.instDecidableEqStr by Mine.same
name_quick tw13903129631018457399 for PySem.instDecidableEqStr by Mine.same
name_quick tw14553827428707814869 for PySem.instDecidableEqStr by Mine.same
name_quick tw7323676302269181137 for PySem.instDecidableEqStr by Mine.same
name_quick tw13160144027095335755 for PySem.instDecidableEqStr by Mine.same
name_quick tw4949472239710415697 for PySem.instDecidableEqStr by Mine.same
name_quick tw8540232549379673566 for PySem.instDecidableEqStr by Mine.same
name_quick tw6179359751918216688 for PySem.instDecidableEqStr by Mine.same
name_quick tw10455430044892516648 for PySem.instDecidableEqStr by Mine.same
name_quick tw16474492168511960337 for PySem.instDecidableEqStr by Mine.same
name_quick tw1355338860687761863 for PySem.instDecidableEqStr by Mine.same
name_quick tw3424931102881643321 for PySem.instDecidableEqStr by Mine.same
name_quick tw5512085447785999860 for PySem.instDecidableEqStr by Mine.same
name_quick tw10460931487171540145 for PySem.instDecidableEqStr by Mine.same
name_quick tw13607416678640721797 for PySem.instDecidableEqStr by Mine.same
name_quick tw18211773271919218964 for PySem.instDecidableEqStr by Mine.same
name_quick tw13981391230805400906 for PySem.instDecidableEqStr by Mine.same
name_quick tw1320183511955256522 for PySem.instDecidableEqStr by Mine.same
name_quick tw16531745337717519161 for PySem.instDecidableEqStr by Mine.same
name_quick tw11935356649212052271 for PySem.instDecidableEqStr by Mine.same
name_quick tw774047393022817027 for PySem.instDecidableEqStr by Mine.same
name_quick tw14837249469386935497 for PySem.instDecidableEqStr by Mine.same
name_quick tw6990963922061375149 for PySem.instDecidableEqStr by Mine.same
name_quick tw18188234029961486008 for PySem.instDecidableEqStr by Mine.same
name_quick tw13156168479132978002 for PySem.instDecidableEqStr by Mine.same
name_quick tw7232422423428716515 for PySem.instDecidableEqStr by Mine.same
name_quick tw16494616584097029746 for PySem.instDecidableEqStr by Mine.same
name_quick tw17768419659990539469 for PySem.instDecidableEqStr by Mine.same
name_quick tw10190238754879171395 for PySem.instDecidableEqStr by Mine.same
name_quick tw1962928258387122110 for PySem.instDecidableEqStr by Mine.same
name_quick tw4091194055036891139 for PySem.instDecidableEqStr by Mine.same
name_quick tw3766158894648301139 for PySem.instDecidableEqStr by Mine.same
name_quick tw6291368078380397288 for PySem.instDecidableEqStr by Mine.same
name_quick tw11588390666370768167 for PySem.instDecidableEqStr by Mine.same
name_quick tw12825359941727978080 for PySem.instDecidableEqStr by Mine.same
name_quick tw6980910045739468074 for PySem.instDecidableEqStr by Mine.same
name_quick tw10007627690174824804 for PySem.instDecidableEqStr by Mine.same
name_quick tw6654550962395885724 for PySem.instDecidableEqStr by Mine.same
name_quick tw7275051467321613617 for PySem.instDecidableEqStr by Mine.same
name_quick tw1102190903223815498 for PySem.instDecidableEqStr by Mine.same
name_quick tw5228443966233409354 for PySem.instDecidableEqStr by Mine.same
name_quick tw6380047634161181297 for PySem.instDecidableEqStr by Mine.same
name_quick tw6937325167468391026 for PySem.instDecidableEqStr by Mine.same
name_quick tw8537084889766193716 for PySem.instDecidableEqStr by Mine.same
name_quick tw11306939235166856333 for PySem.instDecidableEqStr by Mine.same
name_quick tw10948738476641704880 for PySem.instDecidableEqStr by Mine.same
name_quick tw18260038339965228139 for PySem.instDecidableEqStr by Mine.same
name_quick tw11788150170368784547 for PySem.instDecidableEqStr by Mine.same
name_quick tw15919542637913265678 for PySem.instDecidableEqStr by Mine.same
name_quick tw17001327861769816259 for PySem.instDecidableEqStr by Mine.same
name_quick tw5396446701170858492 for PySem.instDecidableEqStr by Mine.same
name_quick tw1379578315556383370 for PySem.instDecidableEqStr by Mine.same
name_quick tw4434333111790514575 for PySem.instDecidableEqStr by Mine.same
name_quick tw3764465048917985505 for PySem.instDecidableEqStr by Mine.same
name_quick tw17827458813498177553 for PySem.instDecidableEqStr by Mine.same
name_quick tw4172830789200971933 for PySem.instDecidableEqStr by Mine.same
name_quick tw12973657651903071711 for PySem.instDecidableEqStr by Mine.same
name_quick tw13512673800721320934 for PySem.instDecidableEqStr by Mine.same
name_quick tw13169248704851481478 for PySem.instDecidableEqStr by Mine.same
name_quick tw1414301608579184545 for PySem.instDecidableEqStr by Mine.same
name_quick tw13678640442995254988 for PySem.instDecidableEqStr by Mine.same
name_quick tw14530364306720264245 for PySem.instDecidableEqStr by Mine.same
name_quick tw8424611434330503625 for PySem.instDecidableEqStr by Mine.same
name_quick tw2001226814458364393 for PySem.instDecidableEqStr by Mine.same
name_quick tw4352594626159697269 for PySem.instDecidableEqStr by Mine.same
name_quick tw17476080006546285661 for PySem.instDecidableEqStr by Mine.same
name_quick tw16916688483869632129 for PySem.instDecidableEqStr by Mine.same
name_quick tw392140993173905013 for PySem.instDecidableEqStr by Mine.same
name_quick tw1771862750571323454 for PySem.instDecidableEqStr by Mine.same
name_quick tw13471461260053382970 for PySem.instDecidableEqStr by Mine.same
name_quick tw13102660428377437172 for PySem.instDecidableEqStr by Mine.same
name_quick tw15278061642289888581 for PySem.instDecidableEqStr by Mine.same
name_quick tw8704618095886561957 for PySem.instDecidableEqStr by Mine.same
name_quick tw10833955939284561965 for PySem.instDecidableEqStr by Mine.same
name_quick tw14834023430324568649 for PySem.instDecidableEqStr by Mine.same
name_quick tw2134368852220247820 for PySem.instDecidableEqStr by Mine.same
name_quick tw5770868932273138760 for PySem.instDecidableEqStr by Mine.same
name_quick tw15194748194917737719 for PySem.instDecidableEqStr by Mine.same
name_quick tw18263319221461684349 for PySem.instDecidableEqStr by Mine.same
name_quick tw667198328695590252 for PySem.instDecidableEqStr by Mine.same
name_quick tw14073706353221006472 for PySem.instDecidableEqStr by Mine.same
name_quick tw8649964590619651473 for PySem.instDecidableEqStr by Mine.same
name_quick tw7582166717755450365 for PySem.instDecidableEqStr by Mine.same
name_quick tw2447775223705975068 for PySem.instDecidableEqStr by Mine.same
name_quick tw1615719349143574890 for PySem.instDecidableEqStr by Mine.same
name_quick tw4302124980754421698 for PySem.instDecidableEqStr by Mine.same
name_quick tw8753696776887207221 for PySem.instDecidableEqStr by Mine.same
name_quick tw7344376507651311505 for PySem.instDecidableEqStr by Mine.same
name_quick tw1333364371103165705 for PySem.instDecidableEqStr by Mine.same
name_quick tw17532718790514356516 for PySem.instDecidableEqStr by Mine.same
name_quick tw7788680626742099145 for PySem.instDecidableEqStr by Mine.same
name_quick tw11317593695737139937 for PySem.instDecidableEqStr by Mine.same
name_quick tw10317580896714288900 for PySem.instDecidableEqStr by Mine.same
name_quick tw1708024556718086227 for PySem.instDecidableEqStr by Mine.same
name_quick tw17475289236778735526 for PySem.instDecidableEqStr by Mine.same
name_quick tw17804436615005485693 for PySem.instDecidableEqStr by Mine.same
name_quick tw14460367522058181017 for PySem.instDecidableEqStr by Mine.same
name_quick tw148260917463534702 for PySem.instDecidableEqStr by Mine.same
name_quick tw2193789692954389824 for PySem.instDecidableEqStr by Mine.same
name_quick tw6580340599500149305 for PySem.instDecidableEqStr by Mine.same
name_quick tw447715330943862342 for PySem.instDecidableEqStr by Mine.same
name_quick tw7950560144509940271 for PySem.instDecidableEqStr by Mine.same
name_quick tw790365300219607850 for PySem.instDecidableEqStr by Mine.same
name_quick tw11166942722945506595 for PySem.instDecidableEqStr by Mine.same
name_quick tw282004115355043989 for PySem.instDecidableEqStr by Mine.same
name_quick tw4109823476700235019 for PySem.instDecidableEqStr by Mine.same
name_quick tw17069979004554194336 for PySem.instDecidableEqStr by Mine.same
name_quick tw1995926237046646575 for PySem.instDecidableEqStr by Mine.same
name_quick tw17503288770812694035 for PySem.instDecidableEqStr by Mine.same
name_quick tw1499420768645567495 for PySem.instDecidableEqStr by Mine.same
name_quick tw15247426752500302083 for PySem.instDecidableEqStr by Mine.same
name_quick tw16039550372008468697 for PySem.instDecidableEqStr by Mine.same
name_quick tw14209830616999942402 for PySem.instDecidableEqStr by Mine.same
name_quick tw4797165386629745026 for PySem.instDecidableEqStr by Mine.same
name_quick tw10919533547850550483 for PySem.instDecidableEqStr by Mine.same
name_quick tw6832808476680081064 for PySem.instDecidableEqStr by Mine.same
name_quick tw12371321757623732685 for PySem.instDecidableEqStr by Mine.same
name_quick tw9594665118957945026 for PySem.instDecidableEqStr by Mine.same
name_quick tw9676229304581654039 for PySem.instDecidableEqStr by Mine.same
name_quick tw8224813933742928703 for PySem.instDecidableEqStr by Mine.same
name_quick tw15823609455315575823 for PySem.instDecidableEqStr by Mine.same
name_quick tw5555313912996828296 for PySem.instDecidableEqStr by Mine.same
name_quick tw5697894365363955025 for PySem.instDecidableEqStr by Mine.same
name_quick tw13180171748994924942 for PySem.instDecidableEqStr by Mine.same
name_quick tw8579058602437062094 for PySem.instDecidableEqStr by Mine.same
name_quick tw3695515675974049574 for PySem.instDecidableEqStr by Mine.same
name_quick tw8603108125212654177 for PySem.instDecidableEqStr by Mine.same
name_quick tw11310463157757771331 for PySem.instDecidableEqStr by Mine.same
name_quick tw1706496860858754268 for PySem.instDecidableEqStr by Mine.same
name_quick tw17988542015724977305 for PySem.instDecidableEqStr by Mine.same
name_quick tw15880737140895825463 for PySem.instDecidableEqStr by Mine.same
name_quick tw1375587502874563802 for PySem.instDecidableEqStr by Mine.same
name_quick tw10589684114461592954 for PySem.instDecidableEqStr by Mine.same
name_quick tw4978915544186085027 for PySem.instDecidableEqStr by Mine.same
name_quick tw3386650904741475044 for PySem.instDecidableEqStr by Mine.same
name_quick tw9515652053505349548 for PySem.instDecidableEqStr by Mine.same
name_quick tw6363645014702824404 for PySem.instDecidableEqStr by Mine.same
name_quick tw13804622635509601256 for PySem.instDecidableEqStr by Mine.same
name_quick tw13215998728584607739 for PySem.instDecidableEqStr by Mine.same
name_quick tw3758773823038459598 for PySem.instDecidableEqStr by Mine.same
name_quick tw15168306246750427876 for PySem.instDecidableEqStr by Mine.same
name_quick tw15900120412870309639 for PySem.instDecidableEqStr by Mine.same
name_quick tw5952267759425050802 for PySem.instDecidableEqStr by Mine.same
name_quick tw9763268239775435451 for PySem.instDecidableEqStr by Mine.same
name_quick tw15020028541594565831 for PySem.instDecidableEqStr by Mine.same
name_quick tw3054071069301022655 for PySem.instDecidableEqStr by Mine.same
name_quick tw13725850141900786883 for PySem.instDecidableEqStr by Mine.same
name_quick tw11130039905162102590 for PySem.instDecidableEqStr by Mine.same
name_quick tw10138199336372458610 for PySem.instDecidableEqStr by Mine.same
name_quick tw11939915149646268982 for PySem.instDecidableEqStr by Mine.same
name_quick tw16172117957621229858 for PySem.instDecidableEqStr by Mine.same
name_quick tw12233582284571471492 for PySem.instDecidableEqStr by Mine.same
name_quick tw8999186272805695465 for PySem.instDecidableEqStr by Mine.same
name_quick tw10028428298569065181 for PySem.instDecidableEqStr by Mine.same
name_quick tw13294325848734340343 for PySem.instDecidableEqStr by Mine.same
name_quick tw15315713394281565010 for PySem.instDecidableEqStr by Mine.same
name_quick tw9504726810853072989 for PySem.instDecidableEqStr by Mine.same
name_quick tw17274371674624000324 for PySem.instDecidableEqStr by Mine.same
name_quick tw1085346719588807367 for PySem.instDecidableEqStr by Mine.same
name_quick tw14433975572909055671 for PySem.instDecidableEqStr by Mine.same
name_quick tw3256587380925597060 for PySem.instDecidableEqStr by Mine.same
name_quick tw18345786424863182364 for PySem.instDecidableEqStr by Mine.same
name_quick tw2118141222776746865 for PySem.instDecidableEqStr by Mine.same
name_quick tw1916944219915559503 for PySem.instDecidableEqStr by Mine.same
name_quick tw16643379632663270332 for PySem.instDecidableEqStr by Mine.same
name_quick tw5646442142991981755 for PySem.instDecidableEqStr by Mine.same
name_quick tw17964007177503468958 for PySem.instDecidableEqStr by Mine.same
name_quick tw15034313371233782410 for PySem.instDecidableEqStr by Mine.same
name_quick tw3436264866546951355 for PySem.instDecidableEqStr by Mine.same
name_quick tw563124612126607214 for PySem.instDecidableEqStr by Mine.same
name_quick tw10352308551163946355 for PySem.instDecidableEqStr by Mine.same
name_quick tw2078703811421203504 for PySem.instDecidableEqStr by Mine.same
name_quick tw3325841961599345399 for PySem.instDecidableEqStr by Mine.same
name_quick tw13329733208086693882 for PySem.instDecidableEqStr by Mine.same
name_quick tw4824431525194463578 for PySem.instDecidableEqStr by Mine.same
name_quick tw1305609685974793870 for PySem.instDecidableEqStr by Mine.same
name_quick tw16223305294053301992 for PySem.instDecidableEqStr by Mine.same
name_quick tw13925586954763233925 for PySem.instDecidableEqStr by Mine.same
name_quick tw18034167525097398909 for PySem.instDecidableEqStr by Mine.same
name_quick tw13615603153576403970 for PySem.instDecidableEqStr by Mine.same
name_quick tw13871001218405608335 for PySem.instDecidableEqStr by Mine.same
name_quick tw12290603225136948437 for PySem.instDecidableEqStr by Mine.same
name_quick tw387338674003428930 for PySem.instDecidableEqStr by Mine.same
name_quick tw930746551332336609 for PySem.instDecidableEqStr by Mine.same
name_quick tw4039474712603431140 for PySem.instDecidableEqStr by Mine.same
name_quick tw6550987210724342151 for PySem.instDecidableEqStr by Mine.same
name_quick tw3768068617246420682 for PySem.instDecidableEqStr by Mine.same
name_quick tw9300948228871686676 for PySem.instDecidableEqStr by Mine.same
name_quick tw11863081143760314161 for PySem.instDecidableEqStr by Mine.same
name_quick tw6059929106960060952 for PySem.instDecidableEqStr by Mine.same
name_quick tw15195428891847259777 for PySem.instDecidableEqStr by Mine.same
name_quick tw39160002569200845 for PySem.instDecidableEqStr by Mine.same
name_quick tw3282434896037501709 for PySem.instDecidableEqStr by Mine.same
name_quick tw5565278806992967083 for PySem.instDecidableEqStr by Mine.same
name_quick tw7745614565497352828 for PySem.instDecidableEqStr by Mine.same
name_quick tw12177649209318274912 for PySem.instDecidableEqStr by Mine.same
name_quick tw13121200027793486533 for PySem.instDecidableEqStr by Mine.same
name_quick tw136631920214876835 for PySem.instDecidableEqStr by Mine.same
name_quick tw14971970265804392439 for PySem.instDecidableEqStr by Mine.same
name_quick tw1184552218554016812 for PySem.instDecidableEqStr by Mine.same
name_quick tw9674257727999782656 for PySem.instDecidableEqStr by Mine.same
name_quick tw17207840028585114417 for PySem.instDecidableEqStr by Mine.same
name_quick tw3152983702415266003 for PySem.instDecidableEqStr by Mine.same
name_quick tw5721027456603625697 for PySem.instDecidableEqStr by Mine.same
name_quick tw10323183001455561277 for PySem.instDecidableEqStr by Mine.same
name_quick tw1468114885665857710 for PySem.instDecidableEqStr by Mine.same
name_quick tw4594841794817819559 for PySem.instDecidableEqStr by Mine.same
name_quick tw6012508502120743258 for PySem.instDecidableEqStr by Mine.same
name_quick tw10887116778572429059 for PySem.instDecidableEqStr by Mine.same
name_quick tw15742981410569661332 for PySem.instDecidableEqStr by Mine.same
name_quick tw15475462885187679331 for PySem.instDecidableEqStr by Mine.same
name_quick tw3149940706203789266 for PySem.instDecidableEqStr by Mine.same
name_quick tw470574548607681690 for PySem.instDecidableEqStr by Mine.same
name_quick tw6132934438814934913 for PySem.instDecidableEqStr by Mine.same
name_quick tw6683783046931543321 for PySem.instDecidableEqStr by Mine.same
name_quick tw15490439104401381959 for PySem.instDecidableEqStr by Mine.same
name_quick tw16643706677886111943 for PySem.instDecidableEqStr by Mine.same
name_quick tw4679858250743294509 for PySem.instDecidableEqStr by Mine.same
name_quick tw16349216596472256690 for PySem.instDecidableEqStr by Mine.same
name_quick tw2506853364499732696 for PySem.instDecidableEqStr by Mine.same
name_quick tw8860024209350480642 for PySem.instDecidableEqStr by Mine.same
name_quick tw13254397897704925713 for PySem.instDecidableEqStr by Mine.same
name_quick tw10205541121877940668 for PySem.instDecidableEqStr by Mine.same
name_quick tw7074795694173733578 for PySem.instDecidableEqStr by Mine.same
name_quick tw8732485361984058174 for PySem.instDecidableEqStr by Mine.same
name_quick tw14821650378409806113 for PySem.instDecidableEqStr by Mine.same
name_quick tw12989987162080215863 for PySem.instDecidableEqStr by Mine.same
name_quick tw15983881195869794717 for PySem.instDecidableEqStr by Mine.same
name_quick tw13551572312386263098 for PySem.instDecidableEqStr by Mine.same
name_quick tw1210750091971509897 for PySem.instDecidableEqStr by Mine.same
name_quick tw3373567504368509048 for PySem.instDecidableEqStr by Mine.same
name_quick tw3777755567575978352 for PySem.instDecidableEqStr by Mine.same
name_quick tw1092655722715705105 for PySem.instDecidableEqStr by Mine.same
name_quick tw2077871619930789226 for PySem.instDecidableEqStr by Mine.same
name_quick tw14043711374191979534 for PySem.instDecidableEqStr by Mine.same
name_quick tw4466658021391931909 for PySem.instDecidableEqStr by Mine.same
name_quick tw14023627001141898710 for PySem.instDecidableEqStr by Mine.same
name_quick tw4071324889030633612 for PySem.instDecidableEqStr by Mine.same
name_quick tw8654737378357257675 for PySem.instDecidableEqStr by Mine.same
name_quick tw1763209079605825380 for PySem.instDecidableEqStr by Mine.same
name_quick tw4775785305629353868 for PySem.instDecidableEqStr by Mine.same
name_quick tw16350708796919097252 for PySem.instDecidableEqStr by Mine.same
name_quick tw3131671291697673992 for PySem.instDecidableEqStr by Mine.same
name_quick tw15781324953245214433 for PySem.instDecidableEqStr by Mine.same
name_quick tw7276740287692124622 for PySem.instDecidableEqStr by Mine.same
name_quick tw16127339712140622707 for PySem.instDecidableEqStr by Mine.same
name_quick tw5144633987255907666 for PySem.instDecidableEqStr by Mine.same
name_quick tw13580328829973926956 for PySem.instDecidableEqStr by Mine.same
name_quick tw10040787053062605231 for PySem.instDecidableEqStr by Mine.same
name_quick tw18410474027866654770 for PySem.instDecidableEqStr by Mine.same
name_quick tw8733255217748551800 for PySem.instDecidableEqStr by Mine.same
name_quick tw1291980286583624508 for PySem.instDecidableEqStr by Mine.same
name_quick tw5149714755402479525 for PySem.instDecidableEqStr by Mine.same
name_quick tw14311459727803291754 for PySem.instDecidableEqStr by Mine.same
name_quick tw16950312913027304927 for PySem.instDecidableEqStr by Mine.same
name_quick tw17164873540382356111 for PySem.instDecidableEqStr by Mine.same
name_quick tw14031254098957005024 for PySem.instDecidableEqStr by Mine.same
name_quick tw15028816761298942483 for PySem.instDecidableEqStr by Mine.same
name_quick tw13480552361792772618 for PySem.instDecidableEqStr by Mine.same
name_quick tw8588708647495961459 for PySem.instDecidableEqStr by Mine.same
name_quick tw11543547407058413889 for PySem.instDecidableEqStr by Mine.same
name_quick tw10885399304501877467 for PySem.instDecidableEqStr by Mine.same
name_quick tw1139862187096482527 for PySem.instDecidableEqStr by Mine.same
name_quick tw16413963553889246368 for PySem.instDecidableEqStr by Mine.same
name_quick tw12025208970609079342 for PySem.instDecidableEqStr by Mine.same
name_quick tw9396933662098498411 for PySem.instDecidableEqStr by Mine.same
name_quick tw9131251417149488404 for PySem.instDecidableEqStr by Mine.same
name_quick tw5882768191206486792 for PySem.instDecidableEqStr by Mine.same
name_quick tw3545756843259802059 for PySem.instDecidableEqStr by Mine.same
name_quick tw10042830170769951172 for PySem.instDecidableEqStr by Mine.same
name_quick tw5701610774189311196 for PySem.instDecidableEqStr by Mine.same
name_quick tw17230556039016184743 for PySem.instDecidableEqStr by Mine.same
name_quick tw7231524377534056507 for PySem.instDecidableEqStr by Mine.same
name_quick tw11729385059970357855 for PySem.instDecidableEqStr by Mine.same
name_quick tw10727534119236929211 for PySem.instDecidableEqStr by Mine.same
name_quick tw10424941004445345732 for PySem.instDecidableEqStr by Mine.same
name_quick tw9285146279643344392 for PySem.instDecidableEqStr by Mine.same
name_quick tw686183698351167624 for PySem.instDecidableEqStr by Mine.same
name_quick tw13016732220969518872 for PySem.instDecidableEqStr by Mine.same
name_quick tw6448080314894763839 for PySem.instDecidableEqStr by Mine.same
name_quick tw13987355940573415152 for PySem.instDecidableEqStr by Mine.same
name_quick tw5853609219237828028 for PySem.instDecidableEqStr by Mine.same
name_quick tw8881496252177385917 for PySem.instDecidableEqStr by Mine.same
name_quick tw1258717718454355964 for PySem.instDecidableEqStr by Mine.same
name_quick tw189603312586018693 for PySem.instDecidableEqStr by Mine.same
name_quick tw12542378582193771124 for PySem.instDecidableEqStr by Mine.same
name_quick tw8172093975534723114 for PySem.instDecidableEqStr by Mine.same
name_quick tw3952652319720093869 for PySem.instDecidableEqStr by Mine.same
name_quick tw10010936943081839664 for PySem.instDecidableEqStr by Mine.same
name_quick tw13427988762788590312 for PySem.instDecidableEqStr by Mine.same
name_quick tw950723637873067451 for PySem.instDecidableEqStr by Mine.same
name_quick tw8802822988693486460 for PySem.instDecidableEqStr by Mine.same
name_quick tw6123655918767846522 for PySem.instDecidableEqStr by Mine.same
name_quick tw12128325577817847261 for PySem.instDecidableEqStr by Mine.same
name_quick tw9893030918988833448 for PySem.instDecidableEqStr by Mine.same
name_quick tw4407734736301137906 for PySem.instDecidableEqStr by Mine.same
name_quick tw6135381517318000843 for PySem.instDecidableEqStr by Mine.same
name_quick tw12898947447245864913 for PySem.instDecidableEqStr by Mine.same
name_quick tw17899373020297197333 for PySem.instDecidableEqStr by Mine.same
name_quick tw912392155897948271 for PySem.instDecidableEqStr by Mine.same
name_quick tw1503297043503765363 for PySem.instDecidableEqStr by Mine.same
name_quick tw12981051755390344553 for PySem.instDecidableEqStr by Mine.same
name_quick tw1574873078441994576 for PySem.instDecidableEqStr by Mine.same
name_quick tw3105397867545767578 for PySem.instDecidableEqStr by Mine.same
name_quick tw13252181687094117063 for PySem.instDecidableEqStr by Mine.same
name_quick tw6245536207120538393 for PySem.instDecidableEqStr by Mine.same
name_quick tw178441218286455893 for PySem.instDecidableEqStr by Mine.same
name_quick tw17100903815162463580 for PySem.instDecidableEqStr by Mine.same
name_quick tw18101931140130867144 for PySem.instDecidableEqStr by Mine.same
name_quick tw5200128776193632040 for PySem.instDecidableEqStr by Mine.same
name_quick tw13471316229770301743 for PySem.instDecidableEqStr by Mine.same
name_quick tw7987952416473584550 for PySem.instDecidableEqStr by Mine.same
name_quick tw7496433998918960881 for PySem.instDecidableEqStr by Mine.same
name_quick tw6587116730350146372 for PySem.instDecidableEqStr by Mine.same
name_quick tw12945451867199242903 for PySem.instDecidableEqStr by Mine.same
name_quick tw4575980220486274672 for PySem.instDecidableEqStr by Mine.same
name_quick tw4090926877573551719 for PySem.instDecidableEqStr by Mine.same
name_quick tw14766643958189025262 for PySem.instDecidableEqStr by Mine.same
name_quick tw9376109419431680627 for PySem.instDecidableEqStr by Mine.same
name_quick tw3355348695024010778 for PySem.instDecidableEqStr by Mine.same
name_quick tw17172517015917474193 for PySem.instDecidableEqStr by Mine.same
name_quick tw724751600484774222 for PySem.instDecidableEqStr by Mine.same
name_quick tw460243522976405022 for PySem.instDecidableEqStr by Mine.same
name_quick tw15736541856241217950 for PySem.instDecidableEqStr by Mine.same
name_quick tw15300170045991075079 for PySem.instDecidableEqStr by Mine.same
name_quick tw11495947367809530248 for PySem.instDecidableEqStr by Mine.same
name_quick tw9948023125614773506 for PySem.instDecidableEqStr by Mine.same
name_quick tw12659028871203227004 for PySem.instDecidableEqStr by Mine.same
name_quick tw11270796479367742343 for PySem.instDecidableEqStr by Mine.same
name_quick tw15480198773659482676 for PySem.instDecidableEqStr by Mine.same
name_quick tw17018628822417861297 for PySem.instDecidableEqStr by Mine.same
name_quick tw878741703135273975 for PySem.instDecidableEqStr by Mine.same
name_quick tw2670528217467546775 for PySem.instDecidableEqStr by Mine.same
name_quick tw10767066097796618615 for PySem.instDecidableEqStr by Mine.same
name_quick tw17815586953681464072 for PySem.instDecidableEqStr by Mine.same
name_quick tw18283703058932287227 for PySem.instDecidableEqStr by Mine.same
name_quick tw3972328310683599613 for PySem.instDecidableEqStr by Mine.same
name_quick tw15112985482279097393 for PySem.instDecidableEqStr by Mine.same
name_quick tw3889259530307233657 for PySem.instDecidableEqStr by Mine.same
name_quick tw8656719876789144132 for PySem.instDecidableEqStr by Mine.same
name_quick tw15059462757989803610 for PySem.instDecidableEqStr by Mine.same
name_quick tw12835720964997663042 for PySem.instDecidableEqStr by Mine.same
name_quick tw1829445100760108279 for PySem.instDecidableEqStr by Mine.same
name_quick tw951843321253372498 for PySem.instDecidableEqStr by Mine.same
name_quick tw7499937903120025604 for PySem.instDecidableEqStr by Mine.same
name_quick tw11452132507678324671 for PySem.instDecidableEqStr by Mine.same
name_quick tw4552823106982906706 for PySem.instDecidableEqStr by Mine.same
name_quick tw8777329075199875621 for PySem.instDecidableEqStr by Mine.same
name_quick tw8795123598061512290 for PySem.instDecidableEqStr by Mine.same
name_quick tw14112274594779413971 for PySem.instDecidableEqStr by Mine.same
name_quick tw17027947056734134637 for PySem.instDecidableEqStr by Mine.same
name_quick tw10650810973499830745 for PySem.instDecidableEqStr by Mine.same
name_quick tw6004533443673955352 for PySem.instDecidableEqStr by Mine.same
name_quick tw9011979029575296479 for PySem.instDecidableEqStr by Mine.same
name_quick tw9787396351842916947 for PySem.instDecidableEqStr by Mine.same
name_quick tw7250012664060256230 for PySem.instDecidableEqStr by Mine.same
name_quick tw15560500314895047343 for PySem.instDecidableEqStr by Mine.same
name_quick tw16145008321745377990 for PySem.instDecidableEqStr by Mine.same
name_quick tw4636218855388986860 for PySem.instDecidableEqStr by Mine.same
name_quick tw18386054884457128365 for PySem.instDecidableEqStr by Mine.same
name_quick tw3093977132361051618 for PySem.instDecidableEqStr by Mine.same
name_quick tw3460871413274159568 for PySem.instDecidableEqStr by Mine.same
name_quick tw17352973434858128600 for PySem.instDecidableEqStr by Mine.same
name_quick tw10015664371746657536 for PySem.instDecidableEqStr by Mine.same
name_quick tw5854881644878751223 for PySem.instDecidableEqStr by Mine.same
name_quick tw6952355047532471503 for PySem.instDecidableEqStr by Mine.same
name_quick tw3633577522364906407 for PySem.instDecidableEqStr by Mine.same
name_quick tw2759451637364818457 for PySem.instDecidableEqStr by Mine.same
name_quick tw757081541053455785 for PySem.instDecidableEqStr by Mine.same
name_quick tw13241461904039861399 for PySem.instDecidableEqStr by Mine.same
name_quick tw16413264400604254196 for PySem.instDecidableEqStr by Mine.same
name_quick tw2948108419219029167 for PySem.instDecidableEqStr by Mine.same
name_quick tw4011157648589011858 for PySem.instDecidableEqStr by Mine.same
name_quick tw12268644228514654432 for PySem.instDecidableEqStr by Mine.same
name_quick tw13721567128424951087 for PySem.instDecidableEqStr by Mine.same
name_quick tw9292931687148149277 for PySem.instDecidableEqStr by Mine.same
name_quick tw5978237884098788730 for PySem.instDecidableEqStr by Mine.same
name_quick tw9787463984185863102 for PySem.instDecidableEqStr by Mine.same
name_quick tw18350330562280901221 for PySem.instDecidableEqStr by Mine.same
name_quick tw17943406268862710625 for PySem.instDecidableEqStr by Mine.same
name_quick tw18273839248471157720 for PySem.instDecidableEqStr by Mine.same
name_quick tw7619357645376055252 for PySem.instDecidableEqStr by Mine.same
name_quick tw15468230090516036684 for PySem.instDecidableEqStr by Mine.same
name_quick tw151948405760981731 for PySem.instDecidableEqStr by Mine.same
name_quick tw5732905514179830355 for PySem.instDecidableEqStr by Mine.same
name_quick tw607167704815816724 for PySem.instDecidableEqStr by Mine.same
name_quick tw487364732245791922 for PySem.instDecidableEqStr by Mine.same
name_quick tw16741492637210864865 for PySem.instDecidableEqStr by Mine.same
name_quick tw16865151637890581275 for PySem.instDecidableEqStr by Mine.same
name_quick tw4278798014809849964 for PySem.instDecidableEqStr by Mine.same
name_quick tw17954736447514056666 for PySem.instDecidableEqStr by Mine.same
name_quick tw10308316962582663543 for PySem.instDecidableEqStr by Mine.same
name_quick tw10073347824450446311 for PySem.instDecidableEqStr by Mine.same
name_quick tw15007238320947547705 for PySem.instDecidableEqStr by Mine.same
name_quick tw10647819351689358120 for PySem.instDecidableEqStr by Mine.same
name_quick tw1617757218408452269 for PySem.instDecidableEqStr by Mine.same
name_quick tw3891137856419664920 for PySem.instDecidableEqStr by Mine.same
name_quick tw8944806292087596576 for PySem.instDecidableEqStr by Mine.same
name_quick tw16966814322356759819 for PySem.instDecidableEqStr by Mine.same
name_quick tw4658958612460137192 for PySem.instDecidableEqStr by Mine.same
name_quick tw1267870562809915468 for PySem.instDecidableEqStr by Mine.same
name_quick tw17138261911001417010 for PySem.instDecidableEqStr by Mine.same
name_quick tw12526863579885937616 for PySem.instDecidableEqStr by Mine.same
name_quick tw503676674663206642 for PySem.instDecidableEqStr by Mine.same
name_quick tw4275521005467322725 for PySem.instDecidableEqStr by Mine.same
name_quick tw14108194823987119177 for PySem.instDecidableEqStr by Mine.same
name_quick tw3302314484089059179 for PySem.instDecidableEqStr by Mine.same
name_quick tw3577408171920636059 for PySem.instDecidableEqStr by Mine.same
name_quick tw16451151925259046446 for PySem.instDecidableEqStr by Mine.same
name_quick tw8180830640274347804 for PySem.instDecidableEqStr by Mine.same
name_quick tw7543195961347049332 for PySem.instDecidableEqStr by Mine.same
name_quick tw17071476683966804577 for PySem.instDecidableEqStr by Mine.same
name_quick tw9977392586421186931 for PySem.instDecidableEqStr by Mine.same
name_quick tw17344680358763864322 for PySem.instDecidableEqStr by Mine.same
name_quick tw4111355340424721971 for PySem.instDecidableEqStr by Mine.same
name_quick tw4613930686462287906 for PySem.instDecidableEqStr by Mine.same
name_quick tw16180582048198870337 for PySem.instDecidableEqStr by Mine.same
name_quick tw15806122291839087668 for PySem.instDecidableEqStr by Mine.same
name_quick tw10939839348159177617 for PySem.instDecidableEqStr by Mine.same
name_quick tw6589095468515690095 for PySem.instDecidableEqStr by Mine.same
name_quick tw3820604794100220378 for PySem.instDecidableEqStr by Mine.same
name_quick tw4888971946704870899 for PySem.instDecidableEqStr by Mine.same
name_quick tw3698559305507148144 for PySem.instDecidableEqStr by Mine.same
name_quick tw5357591511691535388 for PySem.instDecidableEqStr by Mine.same
name_quick tw7574553109774388169 for PySem.instDecidableEqStr by Mine.same
name_quick tw14333388528381170442 for PySem.instDecidableEqStr by Mine.same
name_quick tw10045867985992453528 for PySem.instDecidableEqStr by Mine.same
name_quick tw3362959441861295915 for PySem.instDecidableEqStr by Mine.same
name_quick tw1370275717833778536 for PySem.instDecidableEqStr by Mine.same
name_quick tw7618406622816332465 for PySem.instDecidableEqStr by Mine.same
name_quick tw8283515000281207119 for PySem.instDecidableEqStr by Mine.same
name_quick tw17139780236743587250 for PySem.instDecidableEqStr by Mine.same
name_quick tw4319705520415482375 for PySem.instDecidableEqStr by Mine.same
name_quick tw16817318245366136608 for PySem.instDecidableEqStr by Mine.same
name_quick tw17552769576498331613 for PySem.instDecidableEqStr by Mine.same
name_quick tw13902233598862641821 for PySem.instDecidableEqStr by Mine.same
name_quick tw4292500188555128830 for PySem.instDecidableEqStr by Mine.same
name_quick tw5823794197072137003 for PySem.instDecidableEqStr by Mine.same
name_quick tw13746126617404028095 for PySem.instDecidableEqStr by Mine.same
name_quick tw11740888236361828772 for PySem.instDecidableEqStr by Mine.same
name_quick tw16904869804480856166 for PySem.instDecidableEqStr by Mine.same
name_quick tw5076957145309523181 for PySem.instDecidableEqStr by Mine.same
name_quick tw7386744729831018872 for PySem.instDecidableEqStr by Mine.same
name_quick tw9931943479562821362 for PySem.instDecidableEqStr by Mine.same
name_quick tw17020626225693228618 for PySem.instDecidableEqStr by Mine.same
name_quick tw13317431791736044220 for PySem.instDecidableEqStr by Mine.same
name_quick tw389472881494512206 for PySem.instDecidableEqStr by Mine.same
name_quick tw6122645084068987007 for PySem.instDecidableEqStr by Mine.same
name_quick tw15562837088269578035 for PySem.instDecidableEqStr by Mine.same
name_quick tw1537898542681612871 for PySem.instDecidableEqStr by Mine.same
name_quick tw14714103240675001986 for PySem.instDecidableEqStr by Mine.same
name_quick tw8719427161674164953 for PySem.instDecidableEqStr by Mine.same
name_quick tw7581816359482902497 for PySem.instDecidableEqStr by Mine.same
name_quick tw3267979357774110234 for PySem.instDecidableEqStr by Mine.same
name_quick tw8123005709971320403 for PySem.instDecidableEqStr by Mine.same
name_quick tw7397068168572129948 for PySem.instDecidableEqStr by Mine.same
name_quick tw11333186260410459676 for PySem.instDecidableEqStr by Mine.same
name_quick tw15423634916342008072 for PySem.instDecidableEqStr by Mine.same
name_quick tw9082586571710850966 for PySem.instDecidableEqStr by Mine.same
name_quick tw3797612339304411714 for PySem.instDecidableEqStr by Mine.same
name_quick tw183835017167291270 for PySem.instDecidableEqStr by Mine.same
name_quick tw16873187988247708562 for PySem.instDecidableEqStr by Mine.same
name_quick tw5082074563857973206 for PySem.instDecidableEqStr by Mine.same
name_quick tw11519604305632133818 for PySem.instDecidableEqStr by Mine.same
name_quick tw6426273055680023932 for PySem.instDecidableEqStr by Mine.same
name_quick tw725871291056497461 for PySem.instDecidableEqStr by Mine.same
name_quick tw6789855027759293466 for PySem.instDecidableEqStr by Mine.same
name_quick tw9458956999447867950 for PySem.instDecidableEqStr by Mine.same
name_quick tw5529568453561195837 for PySem.instDecidableEqStr by Mine.same
name_quick tw5923252988546675246 for PySem.instDecidableEqStr by Mine.same
name_quick tw2674190319118857908 for PySem.instDecidableEqStr by Mine.same
name_quick tw7094674258960923220 for PySem.instDecidableEqStr by Mine.same
name_quick tw13951257522405164796 for PySem.instDecidableEqStr by Mine.same
name_quick tw8796240567053077481 for PySem.instDecidableEqStr by Mine.same
name_quick tw4966893808263662355 for PySem.instDecidableEqStr by Mine.same
name_quick tw11817470609975844035 for PySem.instDecidableEqStr by Mine.same
name_quick tw14981143343336467331 for PySem.instDecidableEqStr by Mine.same
name_quick tw2354101950205528012 for PySem.instDecidableEqStr by Mine.same
name_quick tw16439824349840649037 for PySem.instDecidableEqStr by Mine.same
name_quick tw16339471991904476338 for PySem.instDecidableEqStr by Mine.same
name_quick tw16593013826814733010 for PySem.instDecidableEqStr by Mine.same
name_quick tw7057405563618977329 for PySem.instDecidableEqStr by Mine.same
name_quick tw16374537267813192141 for PySem.instDecidableEqStr by Mine.same
name_quick tw9219426015542480343 for PySem.instDecidableEqStr by Mine.same
name_quick tw16645262185327669138 for PySem.instDecidableEqStr by Mine.same
name_quick tw15980859228951719591 for PySem.instDecidableEqStr by Mine.same
name_quick tw11825729669827539873 for PySem.instDecidableEqStr by Mine.same
name_quick tw2478078296215019888 for PySem.instDecidableEqStr by Mine.same
name_quick tw11964429278604863157 for PySem.instDecidableEqStr by Mine.same
name_quick tw16758808235637498351 for PySem.instDecidableEqStr by Mine.same
name_quick tw2387720566874501970 for PySem.instDecidableEqStr by Mine.same
name_quick tw1402947280878808549 for PySem.instDecidableEqStr by Mine.same
name_quick tw3976722010076183465 for PySem.instDecidableEqStr by Mine.same
name_quick tw6722154040420286063 for PySem.instDecidableEqStr by Mine.same
name_quick tw139799656371268569 for PySem.instDecidableEqStr by Mine.same
name_quick tw2370070277545300124 for PySem.instDecidableEqStr by Mine.same
name_quick tw16846860572762119324 for PySem.instDecidableEqStr by Mine.same
name_quick tw6679490504615227074 for PySem.instDecidableEqStr by Mine.same
name_quick tw7392212959928792091 for PySem.instDecidableEqStr by Mine.same
name_quick tw3442601649717412197 for PySem.instDecidableEqStr by Mine.same
name_quick tw2902314222560053993 for PySem.instDecidableEqStr by Mine.same
name_quick tw6357409834272390260 for PySem.instDecidableEqStr by Mine.same
name_quick tw3558216917135427349 for PySem.instDecidableEqStr by Mine.same
name_quick tw1886563365779066154 for PySem.instDecidableEqStr by Mine.same
name_quick tw11161088081135249708 for PySem.instDecidableEqStr by Mine.same
name_quick tw7405434945208526273 for PySem.instDecidableEqStr by Mine.same
name_quick tw1702518465993881591 for PySem.instDecidableEqStr by Mine.same
name_quick tw4549333791460862111 for PySem.instDecidableEqStr by Mine.same
name_quick tw6019396324639902685 for PySem.instDecidableEqStr by Mine.same
name_quick tw14973007898608030118 for PySem.instDecidableEqStr by Mine.same
name_quick tw9537544019596298400 for PySem.instDecidableEqStr by Mine.same
name_quick tw3094477031063562474 for PySem.instDecidableEqStr by Mine.same
name_quick tw15066959818950650227 for PySem.instDecidableEqStr by Mine.same
name_quick tw15542691292777871779 for PySem.instDecidableEqStr by Mine.same
name_quick tw12813236842856870187 for PySem.instDecidableEqStr by Mine.same
name_quick tw3196378941336150401 for PySem.instDecidableEqStr by Mine.same
name_quick tw6519424955469430661 for PySem.instDecidableEqStr by Mine.same
name_quick tw313226197891681235 for PySem.instDecidableEqStr by Mine.same
name_quick tw18428756778242999024 for PySem.instDecidableEqStr by Mine.same
name_quick tw9455686188066324210 for PySem.instDecidableEqStr by Mine.same
name_quick tw10942035263794033107 for PySem.instDecidableEqStr by Mine.same
name_quick tw11108263761283441063 for PySem.instDecidableEqStr by Mine.same
name_quick tw2862820112641550484 for PySem.instDecidableEqStr by Mine.same
name_quick tw12488000419048109807 for PySem.instDecidableEqStr by Mine.same
name_quick tw7269565832213808900 for PySem.instDecidableEqStr by Mine.same
name_quick tw10797649063328284778 for PySem.instDecidableEqStr by Mine.same
name_quick tw11625766737575182897 for PySem.instDecidableEqStr by Mine.same
name_quick tw11186114360453789277 for PySem.instDecidableEqStr by Mine.same
name_quick tw900395245841561262 for PySem.instDecidableEqStr by Mine.same
name_quick tw6434265647005701932 for PySem.instDecidableEqStr by Mine.same
name_quick tw11445135464325071761 for PySem.instDecidableEqStr by Mine.same
name_quick tw4921902886906138986 for PySem.instDecidableEqStr by Mine.same
name_quick tw6891000109920058784 for PySem.instDecidableEqStr by Mine.same
name_quick tw14305139224198610471 for PySem.instDecidableEqStr by Mine.same
name_quick tw8098380416015320538 for PySem.instDecidableEqStr by Mine.same
name_quick tw4691851695120001716 for PySem.instDecidableEqStr by Mine.same
name_quick tw11790162104776037713 for PySem.instDecidableEqStr by Mine.same
name_quick tw16874561944515371726 for PySem.instDecidableEqStr by Mine.same
name_quick tw17325535178939296128 for PySem.instDecidableEqStr by Mine.same
name_quick tw7401281599722004195 for PySem.instDecidableEqStr by Mine.same
name_quick tw6127375697748050860 for PySem.instDecidableEqStr by Mine.same
name_quick tw12807690338718825411 for PySem.instDecidableEqStr by Mine.same
name_quick tw14389334442490810641 for PySem.instDecidableEqStr by Mine.same
name_quick tw3865406201487662470 for PySem.instDecidableEqStr by Mine.same
name_quick tw12095823642532355627 for PySem.instDecidableEqStr by Mine.same
name_quick tw5386766301290243201 for PySem.instDecidableEqStr by Mine.same
name_quick tw16697116713213952808 for PySem.instDecidableEqStr by Mine.same
name_quick tw5345256250457102556 for PySem.instDecidableEqStr by Mine.same
name_quick tw16241802466949684156 for PySem.instDecidableEqStr by Mine.same
name_quick tw4904739604578439355 for PySem.instDecidableEqStr by Mine.same
name_quick tw1204117194425446250 for PySem.instDecidableEqStr by Mine.same
name_quick tw9673203406766833760 for PySem.instDecidableEqStr by Mine.same
name_quick tw6662432510661729299 for PySem.instDecidableEqStr by Mine.same
name_quick tw12237943961548833269 for PySem.instDecidableEqStr by Mine.same
name_quick tw13642483538084851733 for PySem.instDecidableEqStr by Mine.same
name_quick tw2922074901204462755 for PySem.instDecidableEqStr by Mine.same
name_quick tw15663404670287596823 for PySem.instDecidableEqStr by Mine.same
name_quick tw11994158751524154303 for PySem.instDecidableEqStr by Mine.same
name_quick tw6214688769961185500 for PySem.instDecidableEqStr by Mine.same
name_quick tw17300597898927385350 for PySem.instDecidableEqStr by Mine.same
name_quick tw1218959903707654005 for PySem.instDecidableEqStr by Mine.same
name_quick tw11838138170533393997 for PySem.instDecidableEqStr by Mine.same
name_quick tw17295947923314359676 for PySem.instDecidableEqStr by Mine.same
name_quick tw7483462131439158144 for PySem.instDecidableEqStr by Mine.same
name_quick tw16432479971616331241 for PySem.instDecidableEqStr by Mine.same
name_quick tw482417222145425773 for PySem.instDecidableEqStr by Mine.same
name_quick tw7365555872484859036 for PySem.instDecidableEqStr by Mine.same
name_quick tw12809422525583811893 for PySem.instDecidableEqStr by Mine.same
name_quick tw1620339239838986703 for PySem.instDecidableEqStr by Mine.same
name_quick tw3039592710220408265 for PySem.instDecidableEqStr by Mine.same
name_quick tw558745408833754511 for PySem.instDecidableEqStr by Mine.same
name_quick tw7581352650102555174 for PySem.instDecidableEqStr by Mine.same
name_quick tw3118938333895590913 for PySem.instDecidableEqStr by Mine.same
name_quick tw16180483070735683940 for PySem.instDecidableEqStr by Mine.same
name_quick tw11682084944484805031 for PySem.instDecidableEqStr by Mine.same
name_quick tw9794667896261083176 for PySem.instDecidableEqStr by Mine.same
name_quick tw12456492676567594705 for PySem.instDecidableEqStr by Mine.same
name_quick tw8385612375773290118 for PySem.instDecidableEqStr by Mine.same
name_quick tw8621552478659558853 for PySem.instDecidableEqStr by Mine.same
name_quick tw10964334890339321822 for PySem.instDecidableEqStr by Mine.same
name_quick tw5706481520468235054 for PySem.instDecidableEqStr by Mine.same
name_quick tw11985326045990495214 for PySem.instDecidableEqStr by Mine.same
name_quick tw5925582254088234700 for PySem.instDecidableEqStr by Mine.same
name_quick tw11796506867022685745 for PySem.instDecidableEqStr by Mine.same
name_quick tw18126140380344562322 for PySem.instDecidableEqStr by Mine.same
name_quick tw16979880578912567463 for PySem.instDecidableEqStr by Mine.same
name_quick tw7783732958741208154 for PySem.instDecidableEqStr by Mine.same
name_quick tw1107438419126420414 for PySem.instDecidableEqStr by Mine.same
name_quick tw7504490480230193789 for PySem.instDecidableEqStr by Mine.same
name_quick tw18056578402003937789 for PySem.instDecidableEqStr by Mine.same
name_quick tw7286323032743288035 for PySem.instDecidableEqStr by Mine.same
name_quick tw10029231156530900338 for PySem.instDecidableEqStr by Mine.same
name_quick tw8488268690174267210 for PySem.instDecidableEqStr by Mine.same
name_quick tw11636919720809706868 for PySem.instDecidableEqStr by Mine.same
name_quick tw8047484207015712433 for PySem.instDecidableEqStr by Mine.same
name_quick tw383695940523520267 for PySem.instDecidableEqStr by Mine.same
name_quick tw9720828393056574044 for PySem.instDecidableEqStr by Mine.same
name_quick tw12172078356533094185 for PySem.instDecidableEqStr by Mine.same
name_quick tw12726346659333912481 for PySem.instDecidableEqStr by Mine.same
name_quick tw396607853666888187 for PySem.instDecidableEqStr by Mine.same
name_quick tw272414042388314806 for PySem.instDecidableEqStr by Mine.same
name_quick tw15376083050721069600 for PySem.instDecidableEqStr by Mine.same
name_quick tw7670514497116975361 for PySem.instDecidableEqStr by Mine.same
name_quick tw10970087489707964778 for PySem.instDecidableEqStr by Mine.same
name_quick tw14763704009068828915 for PySem.instDecidableEqStr by Mine.same
name_quick tw18340240734955500558 for PySem.instDecidableEqStr by Mine.same
name_quick tw2958062672499776758 for PySem.instDecidableEqStr by Mine.same
name_quick tw13809362725867891129 for PySem.instDecidableEqStr by Mine.same
name_quick tw8610040677353227653 for PySem.instDecidableEqStr by Mine.same
name_quick tw4287028408620065468 for PySem.instDecidableEqStr by Mine.same
name_quick tw13251646731365433171 for PySem.instDecidableEqStr by Mine.same
name_quick tw7082770336023389322 for PySem.instDecidableEqStr by Mine.same
name_quick tw8459811325457737761 for PySem.instDecidableEqStr by Mine.same
name_quick tw13505292571300825877 for PySem.instDecidableEqStr by Mine.same
name_quick tw6967401301877209104 for PySem.instDecidableEqStr by Mine.same
name_quick tw3735880847841164279 for PySem.instDecidableEqStr by Mine.same
name_quick tw12679591844961189642 for PySem.instDecidableEqStr by Mine.same
name_quick tw11707371222683016368 for PySem.instDecidableEqStr by Mine.same
name_quick tw12850107946570832962 for PySem.instDecidableEqStr by Mine.same
name_quick tw4558998842232669794 for PySem.instDecidableEqStr by Mine.same
name_quick tw1638017585896720355 for PySem.instDecidableEqStr by Mine.same
name_quick tw10819683100428557426 for PySem.instDecidableEqStr by Mine.same
name_quick tw14427280190107063356 for PySem.instDecidableEqStr by Mine.same
name_quick tw8400853705098224536 for PySem.instDecidableEqStr by Mine.same
name_quick tw2883484788219351825 for PySem.instDecidableEqStr by Mine.same
name_quick tw4681523508651956083 for PySem.instDecidableEqStr by Mine.same
name_quick tw11036193050239951465 for PySem.instDecidableEqStr by Mine.same
name_quick tw1495452243305574823 for PySem.instDecidableEqStr by Mine.same
name_quick tw10487160056961263569 for PySem.instDecidableEqStr by Mine.same
name_quick tw9951705424602377420 for PySem.instDecidableEqStr by Mine.same
name_quick tw10030586065758793078 for PySem.instDecidableEqStr by Mine.same
name_quick tw17765544955259793912 for PySem.instDecidableEqStr by Mine.same
name_quick tw11957962974430299695 for PySem.instDecidableEqStr by Mine.same
name_quick tw2039238271031011813 for PySem.instDecidableEqStr by Mine.same
name_quick tw12577023982554244617 for PySem.instDecidableEqStr by Mine.same
name_quick tw10706342367453228570 for PySem.instDecidableEqStr by Mine.same
name_quick tw16289391198768371057 for PySem.instDecidableEqStr by Mine.same
name_quick tw7957090006295546105 for PySem.instDecidableEqStr by Mine.same
name_quick tw11277413387252134812 for PySem.instDecidableEqStr by Mine.same
name_quick tw15542503528162795033 for PySem.instDecidableEqStr by Mine.same
name_quick tw12329403913580668285 for PySem.instDecidableEqStr by Mine.same
name_quick tw11707433790658880453 for PySem.instDecidableEqStr by Mine.same
name_quick tw9908251947323293946 for PySem.instDecidableEqStr by Mine.same
name_quick tw505943868828395459 for PySem.instDecidableEqStr by Mine.same
name_quick tw6792406925840432001 for PySem.instDecidableEqStr by Mine.same
name_quick tw8800560270773162519 for PySem.instDecidableEqStr by Mine.same
name_quick tw10314498396905981064 for PySem.instDecidableEqStr by Mine.same
name_quick tw9626621113073979434 for PySem.instDecidableEqStr by Mine.same
name_quick tw16644606511662114574 for PySem.instDecidableEqStr by Mine.same
name_quick tw15766043655864335149 for PySem.instDecidableEqStr by Mine.same
name_quick tw618205885557783147 for PySem.instDecidableEqStr by Mine.same
name_quick tw14224011070414065920 for PySem.instDecidableEqStr by Mine.same
name_quick tw14210447440969649564 for PySem.instDecidableEqStr by Mine.same
name_quick tw17774800907425398282 for PySem.instDecidableEqStr by Mine.same
name_quick tw17913803186225011329 for PySem.instDecidableEqStr by Mine.same
name_quick tw6090905460779295987 for PySem.instDecidableEqStr by Mine.same
name_quick tw11420187438672877268 for PySem.instDecidableEqStr by Mine.same
name_quick tw5111356299099525756 for PySem.instDecidableEqStr by Mine.same
name_quick tw9821368406582625841 for PySem.instDecidableEqStr by Mine.same
name_quick tw12985358249318526461 for PySem.instDecidableEqStr by Mine.same
name_quick tw8642067239939848140 for PySem.instDecidableEqStr by Mine.same
name_quick tw5832503352825792928 for PySem.instDecidableEqStr by Mine.same
name_quick tw5518745428033880147 for PySem.instDecidableEqStr by Mine.same
name_quick tw18011898689540126615 for PySem.instDecidableEqStr by Mine.same
name_quick tw4748654258956052638 for PySem.instDecidableEqStr by Mine.same
name_quick tw16189536214700107852 for PySem.instDecidableEqStr by Mine.same
name_quick tw12022618010286034681 for PySem.instDecidableEqStr by Mine.same
name_quick tw2599325451414397859 for PySem.instDecidableEqStr by Mine.same
name_quick tw17434858337260393937 for PySem.instDecidableEqStr by Mine.same
name_quick tw2408619945344806742 for PySem.instDecidableEqStr by Mine.same
name_quick tw3560238982266916124 for PySem.instDecidableEqStr by Mine.same
name_quick tw13900631225919944168 for PySem.instDecidableEqStr by Mine.same
name_quick tw4299136966843209011 for PySem.instDecidableEqStr by Mine.same
name_quick tw4980102563643897964 for PySem.instDecidableEqStr by Mine.same
name_quick tw9248541637817142097 for PySem.instDecidableEqStr by Mine.same
name_quick tw12635813782599140982 for PySem.instDecidableEqStr by Mine.same
name_quick tw12114495157272644582 for PySem.instDecidableEqStr by Mine.same
name_quick tw15207642765257501584 for PySem.instDecidableEqStr by Mine.same
name_quick tw15215539614974913122 for PySem.instDecidableEqStr by Mine.same
name_quick tw13853819408611901635 for PySem.instDecidableEqStr by Mine.same
name_quick tw4224760802259116069 for PySem.instDecidableEqStr by Mine.same
name_quick tw5976474108018559520 for PySem.instDecidableEqStr by Mine.same
name_quick tw14544052848187043789 for PySem.instDecidableEqStr by Mine.same
name_quick tw11328821685186248670 for PySem.instDecidableEqStr by Mine.same
name_quick tw3825061337978711158 for PySem.instDecidableEqStr by Mine.same
name_quick tw7229665172594901996 for PySem.instDecidableEqStr by Mine.same
name_quick tw14185684948912167051 for PySem.instDecidableEqStr by Mine.same
name_quick tw3470799630455053000 for PySem.instDecidableEqStr by Mine.same
name_quick tw15450981722951097364 for PySem.instDecidableEqStr by Mine.same
name_quick tw17015423121036801654 for PySem.instDecidableEqStr by Mine.same
name_quick tw2504098582860672743 for PySem.instDecidableEqStr by Mine.same
name_quick tw12450158673883907302 for PySem.instDecidableEqStr by Mine.same
name_quick tw9564595351457756722 for PySem.instDecidableEqStr by Mine.same
name_quick tw6380782515089751550 for PySem.instDecidableEqStr by Mine.same
name_quick tw9305782018832362445 for PySem.instDecidableEqStr by Mine.same
name_quick tw5135500740108067664 for PySem.instDecidableEqStr by Mine.same
name_quick tw16792545251062261874 for PySem.instDecidableEqStr by Mine.same
name_quick tw3880421473898291048 for PySem.instDecidableEqStr by Mine.same
name_quick tw17024950926791866790 for PySem.instDecidableEqStr by Mine.same
name_quick tw7650934615059315214 for PySem.instDecidableEqStr by Mine.same
name_quick tw16049961110935095269 for PySem.instDecidableEqStr by Mine.same
name_quick tw7802139600951554647 for PySem.instDecidableEqStr by Mine.same
name_quick tw10500077913531017323 for PySem.instDecidableEqStr by Mine.same
name_quick tw9529234661008812162 for PySem.instDecidableEqStr by Mine.same
name_quick tw17045043414572947948 for PySem.instDecidableEqStr by Mine.same
name_quick tw9467589175468403638 for PySem.instDecidableEqStr by Mine.same
name_quick tw8987815912523675519 for PySem.instDecidableEqStr by Mine.same
name_quick tw17341736924252097559 for PySem.instDecidableEqStr by Mine.same
name_quick tw4110589180456253056 for PySem.instDecidableEqStr by Mine.same
name_quick tw17863021456227041891 for PySem.instDecidableEqStr by Mine.same
name_quick tw117213463901210413 for PySem.instDecidableEqStr by Mine.same
name_quick tw16655555454665732581 for PySem.instDecidableEqStr by Mine.same
name_quick tw8989982439271903415 for PySem.instDecidableEqStr by Mine.same
name_quick tw329819065673440000 for PySem.instDecidableEqStr by Mine.same
name_quick tw2088544591296533915 for PySem.instDecidableEqStr by Mine.same
name_quick tw16176465441171805009 for PySem.instDecidableEqStr by Mine.same
namespace Mine
set_option maxHeartbeats 20000000 in
open_top hd for PySem.Challenge.rw_nt0131_01


/-! values without tokens, abstract objects, the ledger -/
set_option genCtorIdx true in
inductive V where
  | none | bool (b : Bool) | int (i : Int) | str (x : Str) | bytes (b : List UInt8) | ty (n : String) | bi (id : String) | ref (a : Addr)

noncomputable abbrev V.at : V → Tok → Value
  | .none, _ => .none
  | .bool b, _ => .bool b
  | .int i, t => .int i t
  | .str x, t => .str x t
  | .bytes b, t => .bytes b.toArray t
  | .ty n, _ => .type n
  | .bi id, _ => .builtin id
  | .ref a, _ => .ref a

noncomputable def Rep (v : V) (x : Value) : Prop := ∃ t, x = v.at t
noncomputable def V.of : Value → Option V
  | .none => some .none
  | .bool b => some (.bool b)
  | .int i _ => some (.int i)
  | .str x _ => some (.str x)
  | .type n => some (.ty n)
  | .builtin id => some (.bi id)
  | .ref a => some (.ref a)
  | _ => Option.none
theorem V.of_rep {v : V} {x : Value} (h : V.of x = some v) : Rep v x := by
  cases x <;> simp only [V.of, Option.some.injEq, reduceCtorEq] at h <;> subst h <;> first | exact ⟨0, rfl⟩ | exact ⟨_, rfl⟩
theorem Rep.mk {v : V} (t : Tok) : Rep v (v.at t) := ⟨t, rfl⟩

inductive Reps : List V → List Value → Prop
  | nil : Reps [] []
  | cons {v x vs xs} : Rep v x → Reps vs xs → Reps (v :: vs) (x :: xs)
theorem Reps.length {vs xs} (h : Reps vs xs) : vs.length = xs.length := by induction h <;> simp_all
theorem Reps.append {a b x y} (h : Reps a x) (k : Reps b y) : Reps (a ++ b) (x ++ y) := by
  induction h with
  | nil => exact k
  | cons r _ ih => exact .cons r ih
theorem Reps.get {vs xs} (h : Reps vs xs) : ∀ {i : Nat} {v : V}, vs[i]? = some v → ∃ x, xs[i]? = some x ∧ Rep v x := by
  induction h with
  | nil => intro i v e; simp at e
  | cons r _ ih =>
    intro i v e
    cases i with
    | zero => simp at e; subst e; exact ⟨_, rfl, r⟩
    | succ i => exact ih e
noncomputable def RepO : Option V → Option Value → Prop
  | some v, some x => Rep v x
  | none, none => True
  | _, _ => False

inductive RepK : List (Int × V) → List (Int × Value) → Prop
  | nil : RepK [] []
  | cons {k v x vs xs} : Rep v x → RepK vs xs → RepK ((k, v) :: vs) ((k, x) :: xs)

/-- the entries of an object's dict -/
inductive RepE : List (Str × V) → List DictEntry → Prop
  | nil : RepE [] []
  | cons {x v t hsh y fs es} : Rep v y → RepE fs es → RepE ((x, v) :: fs) (⟨hsh, .str x t, y⟩ :: es)

set_option genCtorIdx true in
inductive O where
  | list (vs : List V)
  | tup (vs : List V)
  | dict (kvs : List (Int × V))
  | ba (bs : List UInt8)
  | inst (C d : Addr)
  | ns (fs : List (Str × V))
  | cell (v : V)
  | slice (lo hi : Option Int)
  | rng (a b c : Int)

noncomputable abbrev Led := List (Addr × O)

noncomputable def At (P : Program) (w : World) (h : Heap) (a : Addr) : O → Prop
  | .list vs => ∃ xs n, Reps vs xs ∧ h.get? a = some { cls := .type "list", data := .seq xs.toArray n }
  | .tup vs => ∃ xs n, Reps vs xs ∧ h.get? a = some { cls := .type "tuple", data := .seq xs.toArray n }
  | .dict kvs => (a == sysModules) = false ∧ ∃ xs, RepK kvs xs ∧ h.DictOf (intKind P w) a xs
  | .ba bs => h.get? a = some { cls := .type "bytearray", data := .bytearray bs.toArray 0 }
  | .inst C d => h.get? a = some (instObj C d)
  | .ns fs => ∃ es n, h.get? a = some (dictOf es n) ∧ RepE fs es ∧ (fs.map (·.1)).Nodup
  | .cell v => ∃ x, Rep v x ∧ h.IsCell a (some x)
  | .slice lo hi => ∃ x y, IsPart x lo ∧ IsPart y hi ∧ h.get? a = some { cls := .type "slice", data := .fields #[x, y, .none] }
  | .rng i j k => ∃ t u v, IsRange h a i j k t u v

theorem At.congr {P : Program} {w : World} {h h' : Heap} {a : Addr} {o : O} (x : At P w h a o) (e : ∀ ob, h.get? a = some ob → h'.get? a = some ob) : At P w h' a o := by
  cases o with
  | list vs => obtain ⟨xs, n, r, ho⟩ := x; exact ⟨xs, n, r, e _ ho⟩
  | tup vs => obtain ⟨xs, n, r, ho⟩ := x; exact ⟨xs, n, r, e _ ho⟩
  | dict vs => obtain ⟨y, xs, r, ob, es, ep, ho, z⟩ := x; exact ⟨y, xs, r, ob, es, ep, e _ ho, z⟩
  | ba bs => exact e _ x
  | inst C d => exact e _ x
  | ns fs => obtain ⟨es, n, ho, z⟩ := x; exact ⟨es, n, e _ ho, z⟩
  | cell v => obtain ⟨y, r, ob, ho, z⟩ := x; exact ⟨y, r, ob, e _ ho, z⟩
  | slice lo hi => obtain ⟨y, z, a, b, ho⟩ := x; exact ⟨y, z, a, b, e _ ho⟩
  | rng i j k => obtain ⟨t, u, v, ho⟩ := x; exact ⟨t, u, v, e _ ho⟩
theorem At.there {P : Program} {w : World} {h : Heap} {a : Addr} {o : O} (x : At P w h a o) : ∃ ob, h.get? a = some ob := by
  cases o with
  | list vs => obtain ⟨xs, n, r, ho⟩ := x; exact ⟨_, ho⟩
  | tup vs => obtain ⟨xs, n, r, ho⟩ := x; exact ⟨_, ho⟩
  | dict vs => obtain ⟨y, xs, r, ob, es, ep, ho, z⟩ := x; exact ⟨ob, ho⟩
  | ba bs => exact ⟨_, x⟩
  | inst C d => exact ⟨_, x⟩
  | ns fs => obtain ⟨es, n, ho, z⟩ := x; exact ⟨_, ho⟩
  | cell v => obtain ⟨y, r, ob, ho, z⟩ := x; exact ⟨ob, ho⟩
  | slice lo hi => obtain ⟨y, z, a, b, ho⟩ := x; exact ⟨_, ho⟩
  | rng i j k => obtain ⟨t, u, v, ho⟩ := x; exact ⟨_, ho⟩

/-! the unchanging part of the world -/
structure U where
  prog : Program
  w : World
  base : Heap
  p : Program
  loose : List Str
  mg : Str → Option Value
  mb : Str → Option Value

noncomputable abbrev U.K (u : U) : Frag := hd.heap_39 u.w.params

structure U.Ok (u : U) : Prop where
  X : u.K.In u.base
  T : TopRead u.p u.loose u.mg u.mb u.base

noncomputable abbrev U.M (u : U) : Model := model u.prog u.w

/-! one frame -/
structure Fm where
  g : Heap
  L : Addr
  env : Env
  A : Around

noncomputable def Rm (n : Nat) (A : Around) : Prop := A.depth + n ≤ 900 ∧ A.units + 16 * n ≤ 9000 ∧ A.handled = none

inductive Sl where
  | unb | loc (v : V) | glob (v : V) | cel (c : Addr)

noncomputable def SlOk (u : U) (f : Fm) (m : Str → Option Value) (x : Str) : Sl → Prop
  | .unb => f.env.kindOf x = some .local ∧ m x = none
  | .loc v => f.env.kindOf x = some .local ∧ ∃ y, m x = some y ∧ Rep v y
  | .glob v => f.env.kindOf x = some .globalImplicit ∧ ∃ y, Rep v y ∧ (u.mg x = some y ∨ (u.mg x = none ∧ u.mb x = some y))
  | .cel c => (f.env.kindOf x = some .cell ∨ (f.env.kindOf x = some .free ∧ (x == ("__classdict__" : Str)) = false)) ∧ f.env.cells.lookup x = some c

noncomputable abbrev Loc := List (Str × Sl)

structure Fm.Ok (u : U) (n : Nat) (f : Fm) : Prop where
  keep : ∀ b o, u.base.get? b = some o → f.g.get? b = some o
  kind : f.env.scope.kind = .function
  locals : f.env.locals = f.L
  globals : f.env.globals = mainGlobals
  builtins : f.env.builtins = builtinsNs
  room : Rm n f.A

/-- like Fr, but g may reach beyond L -/
structure Fz (g : Heap) (L : Addr) (h : Heap) (m : Str → Option Value) : Prop where
  ns : h.Ns L m
  keep : ∀ b o, g.get? b = some o → h.get? b = some o
  off : g.get? L = none
theorem Fz.set {g : Heap} {L : Addr} {h h' : Heap} {m m' : Str → Option Value} (F : Fz g L h m) (hn : h'.Ns L m') (hs : Heap.SameBut L h h') : Fz g L h' m' :=
  ⟨hn, fun b o e => (hs.2 b fun q => by subst q; rw [F.off] at e; cases e).trans (F.keep b o e), F.off⟩

structure RS (u : U) (f : Fm) (l : Led) (ℓ : Loc) (s : Shared) : Prop where
  fr : ∃ m, Fz f.g f.L s.heap m ∧ (ℓ.map (·.1)).Nodup ∧ ∀ x sl, (x, sl) ∈ ℓ → (x == ("__debug__" : Str)) = false ∧ SlOk u f m x sl
  nodup : (l.map (·.1)).Nodup
  led : ∀ p ∈ l, At u.prog u.w s.heap p.1 p.2 ∧ p.1 ≠ f.L ∧ f.g.get? p.1 = none

noncomputable def Same (s s' : Shared) : Prop := s'.gens = s.gens ∧ s'.drawn = s.drawn ∧ s'.os = s.os
theorem Same.refl (s : Shared) : Same s s := ⟨rfl, rfl, rfl⟩
theorem Same.trans {a b c : Shared} (x : Same a b) (y : Same b c) : Same a c := ⟨y.1.trans x.1, y.2.1.trans x.2.1, y.2.2.trans x.2.2⟩

noncomputable def Post {α : Type} (u : U) (f : Fm) (s : Shared) (Q : α → Led → Loc → Prop) (a : α) (s' : Shared) : Prop :=
  ∃ l' ℓ', RS u f l' ℓ' s' ∧ Same s s' ∧ Q a l' ℓ'
theorem Post.trans {α : Type} {u : U} {f : Fm} {s s₁ s₂ : Shared} {Q : α → Led → Loc → Prop} {a : α} (x : Same s s₁) (y : Post u f s₁ Q a s₂) : Post u f s Q a s₂ :=
  let ⟨l, ℓ, r, sm, q⟩ := y; ⟨l, ℓ, r, x.trans sm, q⟩

noncomputable abbrev NoE : Value → Shared → Prop := fun _ _ => False

noncomputable def W {α : Type} (u : U) (n : Nat) (f : Fm) (l : Led) (ℓ : Loc) (t : Sem α) (Q : α → Led → Loc → Prop) : Prop :=
  u.Ok → f.Ok u n → ∀ s, RS u f l ℓ s → wpX u.M f.A t (Post u f s Q) NoE s

section
variable {α β : Type} {u : U} {n : Nat} {f : Fm} {l : Led} {ℓ : Loc}

theorem W.of {t : Sem α} {Q : α → Led → Loc → Prop} (h : u.Ok → f.Ok u n → ∀ s, RS u f l ℓ s → wpAny u.M f.A t (Post u f s Q) NoE s) : W u n f l ℓ t Q := fun hu hf s r => .of (h hu hf s r)
theorem W.mono {t : Sem α} {Q Q' : α → Led → Loc → Prop} (h : W u n f l ℓ t Q) (k : ∀ a l ℓ, Q a l ℓ → Q' a l ℓ) : W u n f l ℓ t Q' :=
  fun hu hf s r => wpX_mono (h hu hf s r) (fun a s' ⟨l', ℓ', r', sm, q⟩ => ⟨l', ℓ', r', sm, k _ _ _ q⟩) fun _ _ x => x
theorem W.pure {a : α} {Q : α → Led → Loc → Prop} (h : Q a l ℓ) : W u n f l ℓ (Pure.pure a) Q :=
  fun _ _ s r => wpX_pure ⟨l, ℓ, r, .refl s, h⟩
theorem W.bind {m : Sem α} {k : α → Sem β} {Q : β → Led → Loc → Prop} (h : W u n f l ℓ m (fun a l' ℓ' => W u n f l' ℓ' (k a) Q)) : W u n f l ℓ (m >>= k) Q :=
  fun hu hf s r => wpX_bind (wpX_mono (h hu hf s r) (fun a s₁ ⟨l', ℓ', r', sm, q⟩ => wpX_mono (q hu hf s₁ r') (fun _ _ p => p.trans sm) fun _ _ x => x) fun _ _ x => x)
theorem W.holding {vs : List Value} {m : Sem α} {Q : α → Led → Loc → Prop} (h : W u n f l ℓ m Q) : W u n f l ℓ (holding vs m) Q :=
  fun hu hf s r => wpX_holding (h hu hf s r)
theorem W.keep {vs : List Value} {m : Sem α} {Q : α → Led → Loc → Prop} (h : W u n f l ℓ m Q) : W u n f l ℓ (m.keep vs) Q :=
  fun hu hf s r => wpX_keep (h hu hf s r)
theorem W.standAt {p : Pos} {Q : Unit → Led → Loc → Prop} (h : Q () l ℓ) : W u n f l ℓ (standAt p) Q :=
  .of fun _ _ s r => wpAny_standAt ⟨l, ℓ, r, .refl s, h⟩
theorem W.point {Q : Unit → Led → Loc → Prop} (h : Q () l ℓ) : W u n f l ℓ point Q :=
  .of fun _ _ s r => wpAny_point ⟨l, ℓ, r, .refl s, h⟩
theorem W.operate {vs : List Value} {m : Sem Value} {Q : Value → Led → Loc → Prop} (h : W u n f l ℓ m Q) : W u n f l ℓ (operate vs m) Q :=
  fun hu hf s r => wpX_operate (h hu hf s r)
theorem W.release {vs keep : List Value} {Q : Unit → Led → Loc → Prop} (h : Q () l ℓ) : W u n f l ℓ (release vs keep) Q :=
  .of fun _ _ s r => wpAny_release ⟨l, ℓ, r, .refl s, h⟩
theorem W.eq {t t' : Sem α} {Q : α → Led → Loc → Prop} (e : t = t') (h : W u n f l ℓ t' Q) : W u n f l ℓ t Q := e ▸ h
end

/-! the heap grows, an object of the ledger turns -/
theorem RS.toks {u : U} {f : Fm} {l : Led} {ℓ : Loc} {s : Shared} {tk : Nat} (r : RS u f l ℓ s) : RS u f l ℓ { s with toks := tk } := ⟨r.fr, r.nodup, r.led⟩

theorem RS.grow {u : U} {f : Fm} {l : Led} {ℓ : Loc} {s s' : Shared} (r : RS u f l ℓ s) (k : ∀ b o, s.heap.get? b = some o → s'.heap.get? b = some o) : RS u f l ℓ s' := by
  obtain ⟨⟨m, F, nd, hl⟩, nodup, led⟩ := r
  exact ⟨⟨m, ⟨F.ns.keeps k, fun b o e => k _ _ (F.keep b o e), F.off⟩, nd, hl⟩, nodup, fun p hp => ⟨(led p hp).1.congr (k _), (led p hp).2⟩⟩

theorem RS.alloc {u : U} {f : Fm} {l : Led} {ℓ : Loc} {s s' : Shared} {ob : Obj} {o : O} (r : RS u f l ℓ s) (e : s'.heap = s.heap.push ob) (h : At u.prog u.w s'.heap s.heap.objs.size o) :
    RS u f ((s.heap.objs.size, o) :: l) ℓ s' := by
  have k : ∀ b o, s.heap.get? b = some o → s'.heap.get? b = some o := fun b o q => by rw [e]; exact Heap.get?_push_of_some _ q
  have r' := r.grow k
  refine elX1_3 ?_ r.fr; rintro m F _ _
  refine ⟨r'.fr, ?_, ?_⟩
  · refine List.nodup_cons.mpr ⟨fun hm => ?_, r.nodup⟩
    obtain ⟨p, hp, q⟩ := List.mem_map.mp hm
    obtain ⟨ob', ho⟩ := (r.led p hp).1.there
    exact absurd (Heap.lt_size ho) (by rw [q]; exact Nat.lt_irrefl _)
  · intro p hp
    rcases List.mem_cons.mp hp with rfl | hp
    · refine ⟨h, ?_, ?_⟩
      · refine elX3_2 ?_ F.ns; rintro oL _ _ hL _
        exact Nat.ne_of_gt (Heap.lt_size hL)
      · cases q : f.g.get? s.heap.objs.size with
        | none => rfl
        | some o' => exact absurd (Heap.lt_size (F.keep _ _ q)) (Nat.lt_irrefl _)
    · exact r'.led p hp

theorem RS.sub {u : U} {f : Fm} {l l' : Led} {ℓ : Loc} {s : Shared} (r : RS u f l ℓ s) (nd : (l'.map (·.1)).Nodup) (k : ∀ p ∈ l', p ∈ l) : RS u f l' ℓ s :=
  ⟨r.fr, nd, fun p hp => r.led p (k p hp)⟩

/-- `Turn a o o' l l'`: the entry of a in l is o, in l' it is o' -/
inductive Turn (a : Addr) (o o' : O) : Led → Led → Prop
  | head {r} : Turn a o o' ((a, o) :: r) ((a, o') :: r)
  | tail {q r r'} : Turn a o o' r r' → Turn a o o' (q :: r) (q :: r')
theorem Turn.mem {a : Addr} {o o' : O} {l l' : Led} (t : Turn a o o' l l') : (a, o) ∈ l := by
  induction t with
  | head => exact .head _
  | tail _ ih => exact .tail _ ih
theorem Turn.keys {a : Addr} {o o' : O} {l l' : Led} (t : Turn a o o' l l') : l'.map (·.1) = l.map (·.1) := by
  induction t with
  | head => rfl
  | tail _ ih => simp [ih]
theorem Turn.of_mem {a : Addr} {o o' : O} {l l' : Led} (t : Turn a o o' l l') (nd : (l.map (·.1)).Nodup) : ∀ p ∈ l', p = (a, o') ∨ (p ∈ l ∧ p.1 ≠ a) := by
  induction t with
  | @head r =>
    intro p hp
    rcases List.mem_cons.mp hp with rfl | hp
    · exact .inl rfl
    · refine .inr ⟨.tail _ hp, fun e => ?_⟩
      rw [List.map_cons] at nd
      exact (List.nodup_cons.mp nd).1 (List.mem_map.mpr ⟨p, hp, e⟩)
  | @tail q r r' t ih =>
    intro p hp
    rcases List.mem_cons.mp hp with rfl | hp
    · refine .inr ⟨.head _, fun e => ?_⟩
      rw [List.map_cons] at nd
      exact (List.nodup_cons.mp nd).1 (List.mem_map.mpr ⟨_, t.mem, e.symm⟩)
    · rw [List.map_cons] at nd
      rcases ih (List.nodup_cons.mp nd).2 p hp with h | ⟨h, k⟩
      · exact .inl h
      · exact .inr ⟨.tail _ h, k⟩

theorem RS.turn {u : U} {f : Fm} {l l' : Led} {ℓ : Loc} {s s' : Shared} {a : Addr} {o o' : O} (r : RS u f l ℓ s) (t : Turn a o o' l l') (sb : Heap.SameBut a s.heap s'.heap) (h : At u.prog u.w s'.heap a o') :
    RS u f l' ℓ s' := by
  obtain ⟨⟨m, F, nd, hl⟩, nodup, led⟩ := r
  have ha := led _ t.mem
  refine ⟨⟨m, ⟨F.ns.sameBut sb (Ne.symm ha.2.1), fun b ob e => ?_, F.off⟩, nd, hl⟩, by rw [t.keys]; exact nodup, fun p hp => ?_⟩
  · by_cases q : b = a
    · subst q; rw [ha.2.2] at e; cases e
    · exact (sb.2 b q).trans (F.keep b ob e)
  · rcases t.of_mem nodup p hp with rfl | ⟨hp, q⟩
    · exact ⟨h, ha.2⟩
    · exact ⟨(led p hp).1.congr fun ob e => (sb.2 _ q).trans e, (led p hp).2⟩



section
variable {u : U} {n : Nat} {f : Fm} {l : Led} {ℓ : Loc}

noncomputable abbrev EvP (ℓ : Loc) (P : V → Led → Prop) : Value → Led → Loc → Prop := fun x l' ℓ' => ∃ v, Rep v x ∧ ℓ' = ℓ ∧ P v l'
noncomputable def Ev (u : U) (n : Nat) (f : Fm) (l : Led) (ℓ : Loc) (e : Expr) (P : V → Led → Prop) : Prop := W u n f l ℓ (eval e f.env) (EvP ℓ P)
noncomputable def Tr (u : U) (n : Nat) (f : Fm) (l : Led) (ℓ : Loc) (e : Expr) (P : Bool → Led → Prop) : Prop := W u n f l ℓ (isTrue e f.env (eval e f.env)) (fun b l' ℓ' => ℓ' = ℓ ∧ P b l')
noncomputable def BinV (u : U) (n : Nat) (f : Fm) (l : Led) (ℓ : Loc) (op : Operator) (a b : V) (P : V → Led → Prop) : Prop := ∀ x y, Rep a x → Rep b y → W u n f l ℓ (binaryOp op x y) (EvP ℓ P)
noncomputable def InpV (u : U) (n : Nat) (f : Fm) (l : Led) (ℓ : Loc) (op : Operator) (a b : V) (P : V → Led → Prop) : Prop := ∀ x y, Rep a x → Rep b y → W u n f l ℓ (inplaceOp op x y) (EvP ℓ P)
noncomputable def UnV (u : U) (n : Nat) (f : Fm) (l : Led) (ℓ : Loc) (op : UnaryOp) (a : V) (P : V → Led → Prop) : Prop := ∀ x, Rep a x → W u n f l ℓ (unaryOp op x) (EvP ℓ P)
noncomputable def CmpV (u : U) (n : Nat) (f : Fm) (l : Led) (ℓ : Loc) (op : CmpOp) (a b : V) (P : V → Led → Prop) : Prop := ∀ x y, Rep a x → Rep b y → W u n f l ℓ (compareOp op x y) (EvP ℓ P)
noncomputable def TruV (u : U) (n : Nat) (f : Fm) (l : Led) (ℓ : Loc) (a : V) (P : Bool → Led → Prop) : Prop := ∀ x, Rep a x → W u n f l ℓ (truthy x) (fun b l' ℓ' => ℓ' = ℓ ∧ P b l')
noncomputable def GetV (u : U) (n : Nat) (f : Fm) (l : Led) (ℓ : Loc) (a : V) (name : Str) (P : V → Led → Prop) : Prop := ∀ x, Rep a x → W u n f l ℓ (getAttr x name true) (EvP ℓ P)
noncomputable def SetV (u : U) (n : Nat) (f : Fm) (l : Led) (ℓ : Loc) (a : V) (name : Str) (v : V) (R : Led → Prop) : Prop := ∀ x y, Rep a x → Rep v y → W u n f l ℓ (setAttr x name y) (fun _ l' ℓ' => ℓ' = ℓ ∧ R l')
noncomputable def ItmV (u : U) (n : Nat) (f : Fm) (l : Led) (ℓ : Loc) (a i : V) (P : V → Led → Prop) : Prop :=
  ∀ x y value slice, Rep a x → Rep i y → (∀ o j, subscripted slice false o j = operate [o, j] (getItem o j)) → W u n f l ℓ (subscriptTail value slice x y) (EvP ℓ P)
noncomputable def PutV (u : U) (n : Nat) (f : Fm) (l : Led) (ℓ : Loc) (a i v : V) (R : Led → Prop) : Prop := ∀ x y z, Rep a x → Rep i y → Rep v z → W u n f l ℓ (setItem x y z) (fun _ l' ℓ' => ℓ' = ℓ ∧ R l')
noncomputable def CallV (u : U) (n : Nat) (f : Fm) (l : Led) (ℓ : Loc) (fn : V) (args : List V) (P : V → Led → Prop) : Prop := ∀ x xs, Rep fn x → Reps args xs → W u n f l ℓ (call x xs) (EvP ℓ P)
noncomputable def Evs (u : U) (n : Nat) (f : Fm) (l : Led) (ℓ : Loc) (es : List Expr) (P : List V → Led → Prop) : Prop := ∀ pos, W u n f l ℓ (spliced (backTo pos (starEach es f.env))) (fun xs l' ℓ' => ∃ vs, Reps vs xs ∧ ℓ' = ℓ ∧ P vs l')

inductive Fl where
  | next | brk | cont | ret (v : V)
inductive RepF : Fl → Flow → Prop
  | next : RepF .next .next
  | brk : RepF .brk .brk
  | cont : RepF .cont .cont
  | ret {v x} : Rep v x → RepF (.ret v) (.ret x)
noncomputable abbrev ExP (R : Fl → Led → Loc → Prop) : Flow → Led → Loc → Prop := fun x l' ℓ' => ∃ r, RepF r x ∧ R r l' ℓ'
noncomputable def Ex (u : U) (n : Nat) (f : Fm) (l : Led) (ℓ : Loc) (s : Stmt) (R : Fl → Led → Loc → Prop) : Prop := W u n f l ℓ (exec s f.env) (ExP R)
noncomputable def Exs (u : U) (n : Nat) (f : Fm) (l : Led) (ℓ : Loc) (ss : List Stmt) (R : Fl → Led → Loc → Prop) : Prop := W u n f l ℓ (execs ss f.env) (ExP R)
noncomputable def Asg (u : U) (n : Nat) (f : Fm) (l : Led) (ℓ : Loc) (t : Expr) (v : V) (R : Led → Loc → Prop) : Prop := ∀ x, Rep v x → W u n f l ℓ (assign t f.env x) (fun _ l' ℓ' => R l' ℓ')

/-- a branch -/
noncomputable def Br (c : Bool) (A B : Prop) : Prop := (c = true → A) ∧ (c = false → B)
theorem Br_t {A B : Prop} (h : A) : Br true A B := ⟨fun _ => h, nofun⟩
theorem Br_f {A B : Prop} (h : B) : Br false A B := ⟨nofun, fun _ => h⟩
theorem Br_dec {p : Prop} [Decidable p] {A B : Prop} (h : p → A) (k : ¬ p → B) : Br (decide p) A B := ⟨fun e => h (of_decide_eq_true e), fun e => k (of_decide_eq_false e)⟩
theorem Br_yes {p : Prop} [Decidable p] {A B : Prop} (hp : p) (h : A) : Br (decide p) A B := Br_dec (fun _ => h) fun n => absurd hp n
theorem Br_no {p : Prop} [Decidable p] {A B : Prop} (hp : ¬ p) (h : B) : Br (decide p) A B := Br_dec (fun n => absurd n hp) fun _ => h
theorem Br_not {c : Bool} {A B : Prop} (h : Br c B A) : Br (!c) A B := match c, h with
  | false, h => ⟨fun _ => h.2 rfl, nofun⟩
  | true, h => ⟨nofun, fun _ => h.1 rfl⟩
theorem Br_or {c d : Bool} {A B : Prop} (h : Br c A (Br d A B)) : Br (c || d) A B := match c, h with
  | false, h => h.2 rfl
  | true, h => ⟨fun _ => h.1 rfl, nofun⟩
/-! mono -/
theorem Ev.mono {e : Expr} {P P' : V → Led → Prop} (h : Ev u n f l ℓ e P) (k : ∀ v l, P v l → P' v l) : Ev u n f l ℓ e P' := W.mono h fun _ _ _ ⟨v, r, e, p⟩ => ⟨v, r, e, k _ _ p⟩
/-! names -/
theorem Ev_loc {x : Str} {pos : Pos} {v : V} {P : V → Led → Prop} (h : (x, Sl.loc v) ∈ ℓ) (k : P v l) : Ev u n f l ℓ (.Name x pos) P := by
  refine W.of fun hu hf s r => ?_
  refine elX1_3 ?_ r.fr; rintro m F nd hl
  refine elA2 ?_ (hl _ _ h); rintro hd ⟨hk, y, hy, rv⟩
  exact wpAny_Name (wpAny_loadName_local hf.kind hk (hf.locals ▸ F.ns) hy ⟨l, ℓ, r, .refl s, v, rv, rfl, k⟩) hd
theorem Ev_glob {x : Str} {pos : Pos} {v : V} {P : V → Led → Prop} (h : (x, Sl.glob v) ∈ ℓ) (k : P v l) : Ev u n f l ℓ (.Name x pos) P := by
  refine W.of fun hu hf s r => ?_
  refine elX1_3 ?_ r.fr; rintro m F nd hl
  refine elA2 ?_ (hl _ _ h); rintro hd ⟨hk, y, hv, hg⟩
  have kp : ∀ b o, u.base.get? b = some o → s.heap.get? b = some o := fun b o e => F.keep _ _ (hf.keep _ _ e)
  have q : Post u f s (EvP ℓ P) y s := ⟨l, ℓ, r, .refl s, v, hv, rfl, k⟩
  rcases hg with hg | ⟨hm, hb⟩
  · exact Calls.Name_function_global hf.kind hk (Calls.loadGlobal_global (hf.globals ▸ hu.T.g.keeps kp) hg q) hd
  · exact Calls.Name_function_global hf.kind hk (Calls.loadGlobal_builtin (hf.globals ▸ hu.T.g.keeps kp) hm (hf.builtins ▸ hu.T.b.keeps kp) hb q) hd
theorem Ev_cel {x : Str} {pos : Pos} {c : Addr} {v : V} {P : V → Led → Prop} (h : (x, Sl.cel c) ∈ ℓ) (hc : (c, O.cell v) ∈ l) (k : P v l) : Ev u n f l ℓ (.Name x pos) P := by
  refine W.of fun hu hf s r => ?_
  refine elX1_3 ?_ r.fr; rintro m F nd hl
  obtain ⟨hd, hk, hlk⟩ := hl _ _ h
  obtain ⟨y, rv, hy⟩ := (r.led _ hc).1
  have q : Post u f s (EvP ℓ P) y s := ⟨l, ℓ, r, .refl s, v, rv, rfl, k⟩
  rcases hk with hk | ⟨hk, hn⟩
  · exact wpAny_Name (wpAny_loadName_cell hf.kind hk hlk hy q) hd
  · exact wpAny_Name (wpAny_loadName_free hf.kind hk hlk hy q hn) hd

/-! constants -/
theorem Ev_int {i : Int} {k : Nat} {pos : Pos} {P : V → Led → Prop} (h : P (.int i) l) : Ev u n f l ℓ (.Constant (.int i) k pos) P := by
  refine W.of fun hu hf s r => ?_
  exact wpAny_Constant_int ⟨l, ℓ, r.toks, ⟨rfl, rfl, rfl⟩, _, Rep.mk (v := .int i) s.toks, rfl, h⟩
theorem Ev_none {k : Nat} {pos : Pos} {P : V → Led → Prop} (h : P .none l) : Ev u n f l ℓ (.Constant .none k pos) P := by
  refine W.of fun hu hf s r => ?_
  exact wpAny_Constant_none ⟨l, ℓ, r, .refl s, _, Rep.mk (v := .none) 0, rfl, h⟩
theorem Ev_bool {b : Bool} {k : Nat} {pos : Pos} {P : V → Led → Prop} (h : P (.bool b) l) : Ev u n f l ℓ (.Constant (.bool b) k pos) P := by
  refine W.of fun hu hf s r => ?_
  exact wpAny_Constant_bool ⟨l, ℓ, r, .refl s, _, Rep.mk (v := .bool b) 0, rfl, h⟩

/-! expressions -/
theorem Ev_BinOp {a b : Expr} {op : Operator} {pos : Pos} {P : V → Led → Prop} (h : Ev u n f l ℓ a fun va l₁ => Ev u n f l₁ ℓ b fun vb l₂ => BinV u n f l₂ ℓ op va vb P) : Ev u n f l ℓ (.BinOp a op b pos) P := by
  refine W.eq (eval_BinOp ..) (W.bind (W.mono h ?_))
  rintro x l₁ ℓ₁; refine elX1_3 ?_; rintro va ra rfl h₁
  refine W.bind (W.holding (W.mono h₁ ?_))
  rintro y l₂ ℓ₂; refine elX1_3 ?_; rintro vb rb rfl h₂
  exact W.bind (W.standAt (W.operate (h₂ _ _ ra rb)))
theorem Ev_UnaryOp {a : Expr} {op : UnaryOp} {pos : Pos} {P : V → Led → Prop} (h : Ev u n f l ℓ a fun va l₁ => UnV u n f l₁ ℓ op va P) : Ev u n f l ℓ (.UnaryOp op a pos) P := by
  show W u n f l ℓ (do let v ← eval a f.env; standAt pos; holding [v] (unaryOp op v)) _
  refine W.bind (W.mono h ?_)
  rintro x l₁ ℓ₁; refine elX1_3 ?_; rintro va ra rfl h₁
  exact W.bind (W.standAt (W.holding (h₁ _ ra)))
theorem Ev_Compare {a b : Expr} {op : CmpOp} {pos : Pos} {P : V → Led → Prop} (h : Ev u n f l ℓ a fun va l₁ => Ev u n f l₁ ℓ b fun vb l₂ => CmpV u n f l₂ ℓ op va vb P)
    (hm : behindInMarks op b = false) : Ev u n f l ℓ (.Compare a [op] [b] pos) P := by
  refine W.eq (eval_Compare1 ..) (W.bind (W.mono h ?_))
  rintro x l₁ ℓ₁; refine elX1_3 ?_; rintro va ra rfl h₁
  rw [markedBehindIn_of_false hm]
  refine W.bind (W.holding (W.mono h₁ ?_))
  rintro y l₂ ℓ₂; refine elX1_3 ?_; rintro vb rb rfl h₂
  exact W.bind (W.standAt (W.operate (h₂ _ _ ra rb)))
theorem Ev_IfExp {t a b : Expr} {pos : Pos} {P : V → Led → Prop} (h : Tr u n f l ℓ t fun c l₁ => Br c (Ev u n f l₁ ℓ a P) (Ev u n f l₁ ℓ b P)) : Ev u n f l ℓ (.IfExp t a b pos) P := by
  show W u n f l ℓ (do if ← isTrue t f.env (eval t f.env) then eval a f.env else eval b f.env) _
  refine W.bind (W.mono h ?_)
  rintro c l₁ ℓ₁ ⟨rfl, h₁⟩
  cases c
  · exact h₁.2 rfl
  · exact h₁.1 rfl
theorem Ev_Attribute {a : Expr} {name : Str} {pos : Pos} {P : V → Led → Prop} (h : Ev u n f l ℓ a fun va l₁ => GetV u n f l₁ ℓ va name P)
    (hb : attributeBase a name f.env (eval a f.env) = eval a f.env) : Ev u n f l ℓ (.Attribute a name pos) P := by
  show W u n f l ℓ (do let o ← attributeBase a name f.env (eval a f.env); standAt pos.atName; let r ← holding [o] (getAttr o name true); letTemporaryGo a o r; pure r) _
  rw [hb]
  refine W.bind (W.mono h ?_)
  rintro x l₁ ℓ₁; refine elX1_3 ?_; rintro va ra rfl h₁
  refine W.bind (W.standAt (W.bind (W.holding (W.mono (h₁ _ ra) ?_))))
  rintro y l₂ ℓ₂ hy
  refine W.bind (.of fun hu hf s r => wpAny_letTemporaryGo ⟨l₂, ℓ₂, r, .refl s, ?_⟩)
  exact W.pure hy
theorem Ev_Subscript {a i : Expr} {pos : Pos} {P : V → Led → Prop} (h : Ev u n f l ℓ a fun va l₁ => Ev u n f l₁ ℓ i fun vi l₂ => ItmV u n f l₂ ℓ va vi P)
    (hs : ∀ o j, subscripted i false o j = operate [o, j] (getItem o j)) : Ev u n f l ℓ (.Subscript a i pos) P := by
  refine W.eq (eval_Subscript ..) (W.bind (W.mono h ?_))
  rintro x l₁ ℓ₁; refine elX1_3 ?_; rintro va ra rfl h₁
  refine W.bind (W.holding (W.mono h₁ ?_))
  rintro y l₂ ℓ₂; refine elX1_3 ?_; rintro vb rb rfl h₂
  exact W.bind (W.standAt (h₂ x y a i ra rb hs))
theorem Evs_nil {P : List V → Led → Prop} (h : P [] l) : Evs u n f l ℓ [] P := fun pos => W.pure ⟨[], .nil, rfl, h⟩
theorem starEach_cons {e : Expr} {rest : List Expr} {env : Env} (h : ∀ x p, e ≠ .Starred x p) : starEach (e :: rest) env = (false, eval e env) :: starEach rest env := by
  cases e <;> first | rfl | exact absurd rfl (h _ _)
theorem W.spliced_cons {x : Sem Value} {rest : List (Bool × Sem Value)} {Q : List Value → Led → Loc → Prop} (h : W u n f l ℓ x fun v l₁ ℓ₁ => W u n f l₁ ℓ₁ (spliced rest) fun vs l₂ ℓ₂ => Q (v :: vs) l₂ ℓ₂) :
    W u n f l ℓ (spliced ((false, x) :: rest)) Q := by
  rw [spliced]
  refine W.bind (W.mono h fun v l₁ ℓ₁ h₁ => ?_)
  simp only [Bool.false_eq_true, if_false]
  exact W.bind (W.pure (W.bind (W.holding (W.mono h₁ fun vs l₂ ℓ₂ h₂ => W.pure h₂))))
theorem Evs_cons {e : Expr} {rest : List Expr} {P : List V → Led → Prop} (h : Ev u n f l ℓ e fun v l₁ => Evs u n f l₁ ℓ rest fun vs l₂ => P (v :: vs) l₂)
    (hs : starEach (e :: rest) f.env = (false, eval e f.env) :: starEach rest f.env) : Evs u n f l ℓ (e :: rest) P := by
  intro pos
  rw [hs]
  refine W.spliced_cons (W.mono h ?_)
  rintro x l₁ ℓ₁; refine elX1_3 ?_; rintro v rv rfl h₁
  refine W.mono (h₁ pos) ?_
  rintro xs l₂ ℓ₂; refine elX1_3 ?_; rintro vs rvs rfl h₂
  exact ⟨_, .cons rv rvs, rfl, h₂⟩

/-! tests -/
theorem Tr_Compare {a b : Expr} {op : CmpOp} {pos : Pos} {P : Bool → Led → Prop} (h : Ev u n f l ℓ a fun va l₁ => Ev u n f l₁ ℓ b fun vb l₂ => CmpV u n f l₂ ℓ op va vb fun c l₃ => TruV u n f l₃ ℓ c P)
    (hm : behindInMarks op b = false) : Tr u n f l ℓ (.Compare a [op] [b] pos) P := by
  refine W.eq (isTrue_Compare1 ..) (W.bind (W.mono h ?_))
  rintro x l₁ ℓ₁; refine elX1_3 ?_; rintro va ra rfl h₁
  rw [markedBehindIn_of_false hm]
  refine W.bind (W.holding (W.mono h₁ ?_))
  rintro y l₂ ℓ₂; refine elX1_3 ?_; rintro vb rb rfl h₂
  refine W.bind (W.standAt (W.bind (W.operate (W.mono (h₂ _ _ ra rb) ?_))))
  rintro z l₃ ℓ₃; refine elX1_3 ?_; rintro vc rc rfl h₃
  exact W.holding (h₃ _ rc)
theorem Tr_not {a : Expr} {pos : Pos} {P : Bool → Led → Prop} (h : Tr u n f l ℓ a fun b l₁ => P (!b) l₁) : Tr u n f l ℓ (.UnaryOp .Not a pos) P := by
  show W u n f l ℓ (do return !(← isTrue a f.env (eval a f.env))) _
  refine W.bind (W.mono h ?_)
  rintro b l₁ ℓ₁ ⟨rfl, h₁⟩
  exact W.pure ⟨rfl, h₁⟩
theorem Tr_plain {e : Expr} {P : Bool → Led → Prop} (h : Ev u n f l ℓ e fun v l₁ => TruV u n f l₁ ℓ v P) (he : isTrue e f.env (eval e f.env) = (do let v ← eval e f.env; standAt e.pos; holding [v] (truthy v))) : Tr u n f l ℓ e P := by
  refine W.eq he (W.bind (W.mono h ?_))
  rintro x l₁ ℓ₁; refine elX1_3 ?_; rintro v rv rfl h₁
  exact W.bind (W.standAt (W.holding (h₁ _ rv)))
theorem Tr_and_nil {pos : Pos} {P : Bool → Led → Prop} (h : P true l) : Tr u n f l ℓ (.BoolOp .And [] pos) P := W.pure (a := true) ⟨rfl, h⟩
theorem Tr_or_nil {pos : Pos} {P : Bool → Led → Prop} (h : P false l) : Tr u n f l ℓ (.BoolOp .Or [] pos) P := W.pure (a := false) ⟨rfl, h⟩
theorem Tr_and {a : Expr} {rest : List Expr} {pos : Pos} {P : Bool → Led → Prop} (h : Tr u n f l ℓ a fun b l₁ => Br b (Tr u n f l₁ ℓ (.BoolOp .And rest pos) P) (P false l₁)) : Tr u n f l ℓ (.BoolOp .And (a :: rest) pos) P := by
  show W u n f l ℓ (do match BoolOp.And, ← isTrue a f.env (eval a f.env) with | .And, false => pure false | .Or, true => pure true | _, _ => allTrue .And rest f.env) _
  refine W.bind (W.mono h ?_)
  rintro b l₁ ℓ₁ ⟨rfl, h₁⟩
  cases b
  · exact W.pure ⟨rfl, h₁.2 rfl⟩
  · exact h₁.1 rfl
theorem Tr_or {a : Expr} {rest : List Expr} {pos : Pos} {P : Bool → Led → Prop} (h : Tr u n f l ℓ a fun b l₁ => Br b (P true l₁) (Tr u n f l₁ ℓ (.BoolOp .Or rest pos) P)) : Tr u n f l ℓ (.BoolOp .Or (a :: rest) pos) P := by
  show W u n f l ℓ (do match BoolOp.Or, ← isTrue a f.env (eval a f.env) with | .And, false => pure false | .Or, true => pure true | _, _ => allTrue .Or rest f.env) _
  refine W.bind (W.mono h ?_)
  rintro b l₁ ℓ₁ ⟨rfl, h₁⟩
  cases b
  · exact h₁.2 rfl
  · exact W.pure ⟨rfl, h₁.1 rfl⟩
theorem Ev_bool1 {op : BoolOp} {a : Expr} {pos : Pos} {P : V → Led → Prop} (h : Ev u n f l ℓ a P) : Ev u n f l ℓ (.BoolOp op [a] pos) P := h
theorem Ev_and {a b : Expr} {rest : List Expr} {pos : Pos} {P : V → Led → Prop}
    (h : Ev u n f l ℓ a fun v l₁ => TruV u n f l₁ ℓ v fun t l₂ => Br t (Ev u n f l₂ ℓ (.BoolOp .And (b :: rest) pos) P) (P v l₂)) : Ev u n f l ℓ (.BoolOp .And (a :: b :: rest) pos) P := by
  show W u n f l ℓ (do let v ← eval a f.env; standAt pos; let t ← holding [v] (truthy v); match BoolOp.And, t with | .And, false | .Or, true => pure v | _, _ => boolOp pos .And (evalEach (b :: rest) f.env)) _
  refine W.bind (W.mono h ?_)
  rintro x l₁ ℓ₁; refine elX1_3 ?_; rintro v rv rfl h₁
  refine W.bind (W.standAt (W.bind (W.holding (W.mono (h₁ _ rv) ?_))))
  rintro t l₂ ℓ₂ ⟨rfl, h₂⟩
  cases t
  · exact W.pure ⟨v, rv, rfl, h₂.2 rfl⟩
  · exact h₂.1 rfl
theorem Ev_or {a b : Expr} {rest : List Expr} {pos : Pos} {P : V → Led → Prop}
    (h : Ev u n f l ℓ a fun v l₁ => TruV u n f l₁ ℓ v fun t l₂ => Br t (P v l₂) (Ev u n f l₂ ℓ (.BoolOp .Or (b :: rest) pos) P)) : Ev u n f l ℓ (.BoolOp .Or (a :: b :: rest) pos) P := by
  show W u n f l ℓ (do let v ← eval a f.env; standAt pos; let t ← holding [v] (truthy v); match BoolOp.Or, t with | .And, false | .Or, true => pure v | _, _ => boolOp pos .Or (evalEach (b :: rest) f.env)) _
  refine W.bind (W.mono h ?_)
  rintro x l₁ ℓ₁; refine elX1_3 ?_; rintro v rv rfl h₁
  refine W.bind (W.standAt (W.bind (W.holding (W.mono (h₁ _ rv) ?_))))
  rintro t l₂ ℓ₂ ⟨rfl, h₂⟩
  cases t
  · exact h₂.2 rfl
  · exact W.pure ⟨v, rv, rfl, h₂.1 rfl⟩
theorem Tru_bool {b : Bool} {P : Bool → Led → Prop} (h : P b l) : TruV u n f l ℓ (.bool b) P := by
  rintro x ⟨t, rfl⟩
  exact W.pure ⟨rfl, h⟩

/-! statements -/
theorem Exs_nil {R : Fl → Led → Loc → Prop} (h : R .next l ℓ) : Exs u n f l ℓ [] R := W.pure (a := Flow.next) ⟨_, .next, h⟩
@[reducible] noncomputable def Seq (u : U) (n : Nat) (f : Fm) (rest : List Stmt) (R : Fl → Led → Loc → Prop) : Fl → Led → Loc → Prop := fun r l ℓ => match r with
  | .next => Exs u n f l ℓ rest R
  | r => R r l ℓ
theorem Seq_next {rest : List Stmt} {R : Fl → Led → Loc → Prop} (h : Exs u n f l ℓ rest R) : Seq u n f rest R .next l ℓ := h
theorem Seq_ret {rest : List Stmt} {v : V} {R : Fl → Led → Loc → Prop} (h : R (.ret v) l ℓ) : Seq u n f rest R (.ret v) l ℓ := h
theorem Seq_brk {rest : List Stmt} {R : Fl → Led → Loc → Prop} (h : R .brk l ℓ) : Seq u n f rest R .brk l ℓ := h
theorem Seq_cont {rest : List Stmt} {R : Fl → Led → Loc → Prop} (h : R .cont l ℓ) : Seq u n f rest R .cont l ℓ := h
theorem Exs_cons {s : Stmt} {rest : List Stmt} {R : Fl → Led → Loc → Prop} (h : Ex u n f l ℓ s (Seq u n f rest R)) : Exs u n f l ℓ (s :: rest) R := by
  refine W.eq (execs_cons ..) (W.bind (W.mono h ?_))
  rintro x l₁ ℓ₁; refine elX1_2 ?_; rintro r rr h₁
  cases rr with
  | next => exact h₁
  | brk => exact W.pure ⟨_, .brk, h₁⟩
  | cont => exact W.pure ⟨_, .cont, h₁⟩
  | ret rv => exact W.pure ⟨_, .ret rv, h₁⟩
theorem Ex_Return {e : Expr} {pos : Pos} {R : Fl → Led → Loc → Prop} (h : Ev u n f l ℓ e fun v l₁ => R (.ret v) l₁ ℓ) : Ex u n f l ℓ (.Return (some e) pos) R := by
  refine W.eq (exec_Return_some ..) (W.bind (W.standAt (W.bind (W.mono h ?_))))
  rintro x l₁ ℓ₁; refine elX1_3 ?_; rintro v rv rfl h₁
  exact W.pure ⟨_, .ret rv, h₁⟩
theorem Ex_Return_none {pos : Pos} {R : Fl → Led → Loc → Prop} (h : R (.ret .none) l ℓ) : Ex u n f l ℓ (.Return none pos) R := by
  refine W.eq (exec_Return_none ..) (W.bind (W.standAt (W.pure ⟨_, .ret (Rep.mk (v := .none) 0), h⟩)))
theorem Ex_If {t : Expr} {a b : List Stmt} {pos : Pos} {R : Fl → Led → Loc → Prop} (h : Tr u n f l ℓ t fun c l₁ => Br c (Exs u n f l₁ ℓ a R) (Exs u n f l₁ ℓ b R)) : Ex u n f l ℓ (.If t a b pos) R := by
  refine W.eq (exec_If ..) (W.bind (W.standAt (W.bind (W.mono h ?_))))
  rintro c l₁ ℓ₁ ⟨rfl, h₁⟩
  cases c
  · exact h₁.2 rfl
  · exact h₁.1 rfl
theorem W.dropValue {e : Expr} {pos : Pos} {v : Value} {Q : Flow → Led → Loc → Prop} (h : Q .next l ℓ) : W u n f l ℓ (dropValue e pos v) Q := .of fun hu hf s r => wpAny_dropValue ⟨l, ℓ, r, .refl s, h⟩
theorem Ex_Expr {e : Expr} {pos : Pos} {R : Fl → Led → Loc → Prop} (h : Ev u n f l ℓ e fun _ l₁ => R .next l₁ ℓ)
    (hs : swapsWith e none pos.line f.env = pure false) : Ex u n f l ℓ (.Expr e pos) R := by
  intro hu hf
  have hi : interactive f.env = false := by unfold interactive; rw [hf.kind]; rfl
  refine W.eq (exec_Expr f.env e pos hi hs) (W.bind (W.standAt (W.bind (W.mono h ?_)))) hu hf
  rintro x l₁ ℓ₁; refine elX1_3 ?_; rintro v rv rfl h₁
  exact W.dropValue ⟨_, .next, h₁⟩
theorem Ex_Assign {t e : Expr} {pos : Pos} {R : Fl → Led → Loc → Prop} (h : Ev u n f l ℓ e fun v l₁ => Asg u n f l₁ ℓ t v (R .next))
    (hs : swapsWithSole [t] e pos.line f.env = pure false) (hw : swappedStores [t] e f.env = pure none) (ht : (assignEach [t] f.env).map (·.2) = [assign t f.env]) : Ex u n f l ℓ (.Assign [t] e pos) R := by
  refine W.eq (exec_Assign_arm ..) (W.bind (W.standAt ?_))
  rw [hs]
  refine W.bind (W.pure ?_)
  rw [if_neg (by decide)]
  refine W.bind (W.mono h ?_)
  rintro x l₁ ℓ₁; refine elX1_3 ?_; rintro v rv rfl h₁
  rw [hw]
  refine W.bind (W.pure ?_)
  rw [ht]
  show W u n f l₁ ℓ₁ (do assignAll x [assign t f.env]; Pure.pure Flow.next) _
  exact W.bind (W.mono (h₁ _ rv) fun _ l₂ ℓ₂ h₂ => W.pure ⟨_, .next, h₂⟩)

/-- `Put x v ℓ ℓ'`: the local x turns to v -/
inductive Put (x : Str) (v : V) : Loc → Loc → Prop
  | unb {r} : Put x v ((x, .unb) :: r) ((x, .loc v) :: r)
  | loc {w r} : Put x v ((x, .loc w) :: r) ((x, .loc v) :: r)
  | tail {q r r'} : Put x v r r' → Put x v (q :: r) (q :: r')
theorem Put.keys {x : Str} {v : V} {ℓ ℓ' : Loc} (t : Put x v ℓ ℓ') : ℓ'.map (·.1) = ℓ.map (·.1) := by
  induction t with
  | unb => rfl
  | loc => rfl
  | tail _ ih => simp [ih]
theorem Put.there {x : Str} {v : V} {ℓ ℓ' : Loc} (t : Put x v ℓ ℓ') : (x, Sl.unb) ∈ ℓ ∨ ∃ w, (x, Sl.loc w) ∈ ℓ := by
  induction t with
  | unb => exact .inl (.head _)
  | loc => exact .inr ⟨_, .head _⟩
  | tail _ ih => exact ih.imp (.tail _) fun ⟨w, h⟩ => ⟨w, .tail _ h⟩
theorem Put.of_mem {x : Str} {v : V} {ℓ ℓ' : Loc} (t : Put x v ℓ ℓ') (nd : (ℓ.map (·.1)).Nodup) : ∀ p ∈ ℓ', p = (x, .loc v) ∨ (p ∈ ℓ ∧ p.1 ≠ x) := by
  induction t with
  | @unb r =>
    intro p hp
    rw [List.map_cons] at nd
    rcases List.mem_cons.mp hp with rfl | hp
    · exact .inl rfl
    · exact .inr ⟨.tail _ hp, fun e => (List.nodup_cons.mp nd).1 (List.mem_map.mpr ⟨p, hp, e⟩)⟩
  | @loc w r =>
    intro p hp
    rw [List.map_cons] at nd
    rcases List.mem_cons.mp hp with rfl | hp
    · exact .inl rfl
    · exact .inr ⟨.tail _ hp, fun e => (List.nodup_cons.mp nd).1 (List.mem_map.mpr ⟨p, hp, e⟩)⟩
  | @tail q r r' t ih =>
    intro p hp
    rw [List.map_cons] at nd
    rcases List.mem_cons.mp hp with rfl | hp
    · refine .inr ⟨.head _, fun e => (List.nodup_cons.mp nd).1 ?_⟩
      rcases t.there with h | ⟨w, h⟩
      · exact List.mem_map.mpr ⟨_, h, e.symm⟩
      · exact List.mem_map.mpr ⟨_, h, e.symm⟩
    · rcases ih (List.nodup_cons.mp nd).2 p hp with h | ⟨h, k⟩
      · exact .inl h
      · exact .inr ⟨.tail _ h, k⟩
theorem RS.put {s s' : Shared} {x : Str} {v : V} {y : Value} {ℓ' : Loc} {m : Str → Option Value} (r : RS u f l ℓ s) (t : Put x v ℓ ℓ') (rv : Rep v y)
    (F : Fz f.g f.L s.heap m) (hl : ∀ x sl, (x, sl) ∈ ℓ → (x == ("__debug__" : Str)) = false ∧ SlOk u f m x sl) (nd : (ℓ.map (·.1)).Nodup)
    (F' : Fz f.g f.L s'.heap (fun z => if z = x then some y else m z)) (sb : Heap.SameBut f.L s.heap s'.heap) : RS u f l ℓ' s' := by
  refine ⟨⟨_, F', by rw [t.keys]; exact nd, fun z sl hz => ?_⟩, r.nodup, fun p hp => ⟨(r.led p hp).1.congr fun ob e => (sb.2 _ (r.led p hp).2.1).trans e, (r.led p hp).2⟩⟩
  rcases t.of_mem nd _ hz with e | ⟨hz, hne⟩
  · obtain ⟨e1, e2⟩ := Prod.mk.inj e
    subst e1 e2
    rcases t.there with h | ⟨w, h⟩
    · exact ⟨(hl _ _ h).1, (hl _ _ h).2.1, y, if_pos rfl, rv⟩
    · exact ⟨(hl _ _ h).1, (hl _ _ h).2.1, y, if_pos rfl, rv⟩
  · obtain ⟨q, q'⟩ := hl _ _ hz
    refine ⟨q, ?_⟩
    have hne : z ≠ x := hne
    cases sl with
    | unb => exact ⟨q'.1, (if_neg hne).trans q'.2⟩
    | loc v' => obtain ⟨a, y', b, c⟩ := q'; exact ⟨a, y', (if_neg hne).trans b, c⟩
    | glob _ => exact q'
    | cel _ => exact q'
theorem W.store {x : Str} {v : V} {y : Value} {ℓ' : Loc} {Q : Unit → Led → Loc → Prop} (t : Put x v ℓ ℓ') (rv : Rep v y) (h : Q () l ℓ') : W u n f l ℓ (bindName f.env x y) Q := by
  refine W.of fun hu hf s r => ?_
  refine elX1_3 ?_ r.fr; rintro m F nd hl
  have hk : f.env.kindOf x = some .local := by
    rcases t.there with h | ⟨w, h⟩
    · exact (hl _ _ h).2.1
    · exact (hl _ _ h).2.1
  refine wpAny_bindName (wpAny_storeName_local hk (hf.locals ▸ F.ns) (fun h' hn hs => ?_) (by rw [hf.kind]; rfl))
  have hn' : h'.Ns f.L (fun z => if z = x then some y else m z) := hf.locals ▸ hn
  have hs' : Heap.SameBut f.L s.heap h' := hf.locals ▸ hs
  exact ⟨l, ℓ', r.put (s' := { s with heap := h', toks := s.toks + 1 }) t rv F hl nd (F.set hn' hs') hs', ⟨rfl, rfl, rfl⟩, h⟩
theorem Asg_Name {x : Str} {pos : Pos} {v : V} {ℓ' : Loc} {R : Led → Loc → Prop} (t : Put x v ℓ ℓ') (h : R l ℓ') : Asg u n f l ℓ (.Name x pos) v R := by
  intro y rv
  exact W.bind (m := standAt pos) (W.standAt (W.store t rv h))
theorem Asg_Attribute {o : Expr} {a : Str} {pos : Pos} {v : V} {R : Led → Loc → Prop} (h : Ev u n f l ℓ o fun vo l₁ => SetV u n f l₁ ℓ vo a v fun l₂ => R l₂ ℓ) : Asg u n f l ℓ (.Attribute o a pos) v R := by
  intro y rv
  show W u n f l ℓ (do let ov ← holding [y] (eval o f.env); standAt pos.atName; holding [y, ov] (setAttr ov a y); release [y, ov] []) _
  refine W.bind (W.holding (W.mono h ?_))
  rintro x l₁ ℓ₁; refine elX1_3 ?_; rintro vo ro rfl h₁
  refine W.bind (W.standAt (W.bind (W.holding (W.mono (h₁ _ _ ro rv) ?_))))
  rintro _ l₂ ℓ₂ ⟨rfl, h₂⟩
  exact W.release h₂
theorem Asg_Subscript {o i : Expr} {pos : Pos} {v : V} {R : Led → Loc → Prop} (h : Ev u n f l ℓ o fun vo l₁ => Ev u n f l₁ ℓ i fun vi l₂ => PutV u n f l₂ ℓ vo vi v fun l₃ => R l₃ ℓ) : Asg u n f l ℓ (.Subscript o i pos) v R := by
  intro y rv
  show W u n f l ℓ (do let ov ← holding [y] (eval o f.env); let iv ← holding [y, ov] (eval i f.env); standAt pos; holding [y, ov, iv] (setItem ov iv y); release (match (generalizing := false) i with | .Slice _ _ none _ => [iv, y, ov] | _ => [y, ov, iv]) []) _
  refine W.bind (W.holding (W.mono h ?_))
  rintro x l₁ ℓ₁; refine elX1_3 ?_; rintro vo ro rfl h₁
  refine W.bind (W.holding (W.mono h₁ ?_))
  rintro z l₂ ℓ₂; refine elX1_3 ?_; rintro vi ri rfl h₂
  refine W.bind (W.standAt (W.bind (W.holding (W.mono (h₂ _ _ _ ro ri rv) ?_))))
  rintro _ l₃ ℓ₃ ⟨rfl, h₃⟩
  exact W.release h₃
theorem Ex_AugName {x : Str} {npos pos : Pos} {op : Operator} {e : Expr} {old : V} {R : Fl → Led → Loc → Prop} (hx : (x, Sl.loc old) ∈ ℓ)
    (h : Ev u n f l ℓ e fun v l₁ => InpV u n f l₁ ℓ op old v fun w l₂ => ∃ ℓ', Put x w ℓ ℓ' ∧ R .next l₂ ℓ') : Ex u n f l ℓ (.AugAssign (.Name x npos) op e pos) R := by
  refine W.eq (exec_AugAssign_Name ..) (W.bind (W.standAt ?_))
  have hld : ∀ {Q : Value → Led → Loc → Prop}, (∀ y, Rep old y → Q y l ℓ) → W u n f l ℓ (loadName f.env x) Q := fun k => .of fun hu hf s r => by
    refine elX1_3 ?_ r.fr; rintro m F nd hl
    refine elA2 ?_ (hl _ _ hx); rintro hd ⟨hk, y, hy, rv⟩
    exact wpAny_loadName_local hf.kind hk (hf.locals ▸ F.ns) hy ⟨l, ℓ, r, .refl s, k y rv⟩
  refine W.bind (hld fun y ry => W.bind (W.holding (W.mono h ?_)))
  rintro z l₁ ℓ₁; refine elX1_3 ?_; rintro v rv rfl h₁
  refine W.bind (W.standAt (W.bind (W.operate (W.mono (h₁ _ _ ry rv) ?_))))
  rintro q l₂ ℓ₂; refine elX1_3 ?_; rintro w rw' rfl; refine elX1_2 ?_; rintro ℓ' t h₂
  exact W.bind (W.standAt (W.bind (W.store t rw' (W.pure ⟨_, .next, h₂⟩))))
end


/-! a call's contract -/
structure PreOk (u : U) (h : Heap) (l : Led) : Prop where
  nodup : (l.map (·.1)).Nodup
  led : ∀ p ∈ l, At u.prog u.w h p.1 p.2 ∧ u.base.get? p.1 = none
structure AftOk (u : U) (l l' : Led) (s s' : Shared) : Prop where
  nodup : (l'.map (·.1)).Nodup
  led : ∀ p ∈ l', At u.prog u.w s'.heap p.1 p.2 ∧ (p.1 ∈ l.map (·.1) ∨ s.heap.get? p.1 = none)
  kept : ∀ b o, s.heap.get? b = some o → b ∉ l.map (·.1) → s'.heap.get? b = some o
  same : Same s s'

noncomputable def SpR (u : U) (pre : Led) (s : Shared) (post : V → Led → Prop) (r : Result) (s' : Shared) : Prop := match r with
  | .ok (.ret y) => ∃ v l', Rep v y ∧ post v l' ∧ AftOk u pre l' s s'
  | _ => False
noncomputable def Spec (n : Nat) (fn : V) (args : List V) (pre : Led) (post : V → Led → Prop) : Prop :=
  ∀ (u : U) (A : Around) (s : Shared) (x : Value) (xs : List Value), u.Ok → Rm n A → Rep fn x → Reps args xs →
    (∀ b o, u.base.get? b = some o → s.heap.get? b = some o) → PreOk u s.heap pre →
    codeX u.M A (.call x ⟨xs, []⟩) (SpR u pre s post) s

/-- `Pick p l r`: p stands in l, r is the rest -/
inductive Pick (p : Addr × O) : Led → Led → Prop
  | head {r} : Pick p (p :: r) r
  | tail {q r r'} : Pick p r r' → Pick p (q :: r) (q :: r')
inductive Sel : Led → Led → Led → Prop
  | nil {l} : Sel [] l l
  | cons {p pre l l' r} : Pick p l l' → Sel pre l' r → Sel (p :: pre) l r
theorem Pick.perm {p : Addr × O} {l r : Led} (h : Pick p l r) : l.Perm (p :: r) := by
  induction h with
  | head => exact .refl _
  | tail _ ih => exact (List.Perm.cons _ ih).trans (.swap ..)
theorem Sel.perm {pre l r : Led} (h : Sel pre l r) : l.Perm (pre ++ r) := by
  induction h with
  | nil => exact .refl _
  | cons k _ ih => exact k.perm.trans (.cons _ ih)

section
variable {u : U} {n : Nat} {f : Fm} {l : Led} {ℓ : Loc}

theorem RS.perm {s : Shared} {l' : Led} (r : RS u f l ℓ s) (p : l.Perm l') : RS u f l' ℓ s :=
  ⟨r.fr, (p.map _).nodup_iff.mp r.nodup, fun q hq => r.led q (p.mem_iff.mpr hq)⟩

theorem Rm.le {n m : Nat} {A : Around} (h : Rm n A) (k : m ≤ n) : Rm m A := ⟨by have := h.1; lia, by have := h.2.1; lia, h.2.2⟩

theorem RS.after {s s' : Shared} {pre rest l' : Led} (r : RS u f (pre ++ rest) ℓ s) (a : AftOk u pre l' s s') : RS u f (l' ++ rest) ℓ s' := by
  obtain ⟨⟨m, F, nd, hl⟩, nodup, led⟩ := r
  rw [List.map_append] at nodup
  have hdis : ∀ q ∈ rest, q.1 ∉ pre.map (·.1) := fun q hq hm =>
    (List.nodup_append.mp nodup).2.2 _ hm _ (List.mem_map_of_mem (f := (·.1)) hq) rfl
  have preL : ∀ b ∈ pre.map (·.1), b ≠ f.L ∧ f.g.get? b = none := fun b hb => by
    obtain ⟨q, hq, rfl⟩ := List.mem_map.mp hb
    exact (led q (List.mem_append_left _ hq)).2
  refine elX3_2 ?_ F.ns; rintro oL es ep hL hLr
  have hLk := a.kept _ _ hL fun hm => (preL _ hm).1 rfl
  refine ⟨⟨m, ⟨⟨oL, es, ep, hLk, hLr⟩, fun b o e => a.kept _ _ (F.keep _ _ e) fun hm => ?_, F.off⟩, nd, hl⟩, ?_, ?_⟩
  · rw [(preL _ hm).2] at e; cases e
  · rw [List.map_append]
    refine List.nodup_append.mpr ⟨a.nodup, (List.nodup_append.mp nodup).2.1, fun x hx y hy e => ?_⟩
    subst e
    obtain ⟨q, hq, rfl⟩ := List.mem_map.mp hx
    obtain ⟨q', hq', e'⟩ := List.mem_map.mp hy
    rcases (a.led q hq).2 with h | h
    · exact hdis q' hq' (e' ▸ h)
    · obtain ⟨ob, ho⟩ := (led q' (List.mem_append_right _ hq')).1.there
      rw [e', h] at ho; cases ho
  · intro q hq
    rcases List.mem_append.mp hq with hq | hq
    · refine ⟨(a.led q hq).1, ?_⟩
      rcases (a.led q hq).2 with h | h
      · exact preL _ h
      · refine ⟨fun e => ?_, ?_⟩
        · rw [e, hL] at h; cases h
        · cases hg : f.g.get? q.1 with
          | none => rfl
          | some ob => rw [F.keep _ _ hg] at h; cases h
    · have := led q (List.mem_append_right _ hq)
      exact ⟨this.1.congr fun ob e => a.kept _ _ e (hdis q hq), this.2⟩

theorem CallV_spec {k : Nat} {fn : V} {args : List V} {pre rest : Led} {post : V → Led → Prop} {P : V → Led → Prop} (sp : Spec k fn args pre post) (hk : k ≤ n) (sel : Sel pre l rest)
    (h : ∀ v l', post v l' → P v (l' ++ rest)) : CallV u n f l ℓ fn args P := by
  intro x xs rx rxs hu hf s r
  have r := r.perm sel.perm
  refine elX1_3 ?_ r.fr; rintro m F _ _
  have kb : ∀ b o, u.base.get? b = some o → s.heap.get? b = some o := fun b o e => F.keep _ _ (hf.keep _ _ e)
  have nd := r.nodup
  rw [List.map_append] at nd
  refine wpX_call (codeX_mono (sp u f.A s x xs hu (hf.room.le hk) rx rxs kb ⟨(List.nodup_append.mp nd).1, fun p hp => ?_⟩) ?_)
  · have q := r.led p (List.mem_append_left _ hp)
    refine ⟨q.1, ?_⟩
    cases hb : u.base.get? p.1 with
    | none => rfl
    | some ob => have := q.2.2; rw [hf.keep _ _ hb] at this; cases this
  · rintro (e | (y | _ | _ | _)) s' z <;> first | exact z.elim | skip
    refine elX2_3 ?_ z; clear z; rintro v l' rv hp a
    exact ⟨_, ℓ, r.after a, a.same, v, rv, rfl, h v l' hp⟩
end

/-! the body of a def -/
noncomputable def bis : List (Str × Value) := [("range", .type "range"), ("len", .builtin "len"), ("min", .builtin "min"), ("max", .builtin "max"), ("bytes", .type "bytes"), ("bytearray", .type "bytearray"), ("sum", .builtin "sum"), ("sorted", .builtin "sorted"), ("dict", .type "dict"), ("str", .type "str")]
theorem bis_ok : ∀ p ∈ bis, bootBuiltins p.1 = some p.2 := by
  intro p hp
  simp only [bis, List.mem_cons, List.not_mem_nil, or_false] at hp
  rcases hp with rfl | rfl | rfl | rfl | rfl | rfl | rfl | rfl | rfl | rfl <;> (dsimp only; boot_by_name)

noncomputable def gv (K : Frag) (x : Str) : Option V := match nsIn K mainGlobals x with
  | some (some v) => V.of v
  | some none => (bis.lookup x).bind V.of
  | none => none
noncomputable def initLoc (K : Frag) (names : List (Str × NameKind)) (ps : List Str) (args : List V) : Loc := names.map fun (x, k) => (x, match k with
  | .local => (match (ps.zip args).lookup x with | some v => .loc v | none => .unb)
  | _ => (match gv K x with | some y => .glob y | none => .unb))
noncomputable def namesOkB (K : Frag) (names : List (Str × NameKind)) (ps : List Str) : Bool :=
  (names.all fun (x, k) => (x == ("__debug__" : Str)) == false && (x == ("__name__" : Str)) == false && (match k with | .local => true | .globalImplicit => (gv K x).isSome | _ => false)) && decide (names.map (·.1)).Nodup && decide ps.Nodup
    && ps.all fun x => names.lookup x == some .local

theorem lookup_of_mem {α β : Type} [BEq α] [LawfulBEq α] : ∀ {l : List (α × β)}, (l.map (·.1)).Nodup → ∀ {x : α} {y : β}, (x, y) ∈ l → l.lookup x = some y
  | [], _, _, _, h => nomatch h
  | (a, b) :: r, nd, x, y, h => by
    rw [List.map_cons] at nd
    rcases List.mem_cons.mp h with e | h
    · cases e; simp [List.lookup]
    · have hne : x ≠ a := fun e => (List.nodup_cons.mp nd).1 (List.mem_map.mpr ⟨_, h, e⟩)
      rw [List.lookup_cons, beq_false_of_ne hne]
      exact lookup_of_mem (List.nodup_cons.mp nd).2 h
theorem mem_lk {α β : Type} [BEq α] [LawfulBEq α] : ∀ {l : List (α × β)} {x : α} {y : β}, l.lookup x = some y → (x, y) ∈ l
  | [], _, _, h => by cases h
  | (a, b) :: r, x, y, h => by
    rw [List.lookup_cons] at h
    split at h
    · rename_i e; cases h; rw [beq_iff_eq.mp e]; exact .head _
    · exact .tail _ (mem_lk h)
theorem lookup_reverse {α β : Type} [BEq α] [LawfulBEq α] {l : List (α × β)} (nd : (l.map (·.1)).Nodup) (x : α) : l.reverse.lookup x = l.lookup x := by
  cases h : l.lookup x with
  | some y =>
    refine lookup_of_mem (by rw [List.map_reverse]; exact (List.reverse_perm _).nodup_iff.mpr nd) ?_
    exact List.mem_reverse.mpr (mem_lk h)
  | none =>
    cases h' : l.reverse.lookup x with
    | none => rfl
    | some y => rw [lookup_of_mem nd (List.mem_reverse.mp (mem_lk h'))] at h; cases h

theorem zip_lookup {ps : List Str} : ∀ {args : List V} {xs : List Value}, Reps args xs → ∀ x, RepO ((ps.zip args).lookup x) ((ps.zip xs).lookup x) := by
  induction ps with
  | nil => intro args xs _ x; exact trivial
  | cons p ps ih =>
    intro args xs h x
    cases h with
    | nil => exact trivial
    | cons r h =>
      simp only [List.zip_cons_cons, List.lookup_cons]
      cases hx : x == p with
      | true => exact r
      | false => exact ih h x

theorem nodup_zip {α β : Type} : ∀ {ps : List α} {xs : List β}, ps.Nodup → ((ps.zip xs).map (·.1)).Nodup
  | [], _, _ => by simp
  | _ :: _, [], _ => by simp
  | p :: ps, x :: xs, nd => by
    simp only [List.zip_cons_cons, List.map_cons]
    refine List.nodup_cons.mpr ⟨fun h => ?_, nodup_zip (List.nodup_cons.mp nd).2⟩
    obtain ⟨q, hq, e⟩ := List.mem_map.mp h
    exact (List.nodup_cons.mp nd).1 (e ▸ (List.of_mem_zip hq).1)

set_option tactic.hygienic true in
theorem gv_ok {u : U} (hu : u.Ok) {x : Str} {v : V} (h : gv u.K x = some v) (hn : x ≠ "__name__") : ∃ y, Rep v y ∧ (u.mg x = some y ∨ (u.mg x = none ∧ u.mb x = some y)) := by
  unfold gv at h
  split at h
  · rename_i y e; exact ⟨y, V.of_rep h, .inl (mg_of hu.X hu.T.g e)⟩
  · rename_i e
    obtain ⟨y, hy, hv⟩ := Option.bind_eq_some_iff.mp h
    refine ⟨y, V.of_rep hv, .inr ⟨mg_none_of hu.X hu.T.g e, ?_⟩⟩
    rw [hu.T.builtins x hn]
    exact bis_ok (x, y) (mem_lk hy)
  · cases h

/-- what a body may end with -/
noncomputable def Done (post : V → Led → Prop) : Fl → Led → Loc → Prop := fun r l _ => match r with
  | .ret v => ∃ l', (∃ rest, Sel l' l rest) ∧ post v l'
  | .next => ∃ l', (∃ rest, Sel l' l rest) ∧ post .none l'
  | _ => False

set_option tactic.hygienic true in
theorem initLoc_ok {u : U} {f : Fm} {names : List (Str × NameKind)} {ps : List Str} {args : List V} {xs : List Value} (hu : u.Ok) (hr : Reps args xs) (ok : namesOkB u.K names ps = true)
    (he : f.env.scope.names = names) : ((initLoc u.K names ps args).map (·.1)).Nodup ∧ ∀ x sl, (x, sl) ∈ initLoc u.K names ps args → (x == ("__debug__" : Str)) = false ∧ SlOk u f (fun y => (ps.zip xs).reverse.lookup y) x sl := by
  unfold namesOkB at ok
  simp only [Bool.and_eq_true, decide_eq_true_eq] at ok
  obtain ⟨⟨⟨ok1, nd⟩, ndp⟩, ok4⟩ := ok
  refine ⟨?_, fun x sl hm => ?_⟩
  · unfold initLoc; rw [List.map_map]; exact nd
  · obtain ⟨⟨x', k⟩, hx, e⟩ := List.mem_map.mp hm
    obtain ⟨e1, e2⟩ := Prod.mk.inj e
    subst e1
    have q := List.all_eq_true.mp ok1 _ hx
    simp only [Bool.and_eq_true, beq_iff_eq] at q
    have hk : f.env.kindOf x' = some k := by
      show f.env.scope.names.lookup x' = some k
      rw [he]; exact lookup_of_mem nd hx
    refine ⟨q.1.1, ?_⟩
    have hz := zip_lookup (ps := ps) hr x'
    have hrev := lookup_reverse (nodup_zip (xs := xs) ndp) x'
    cases k with
    | «local» =>
      dsimp only at e2
      split at e2
      · rename_i v hv
        subst e2
        rw [hv] at hz
        refine ⟨hk, ?_⟩
        dsimp only
        rw [hrev]
        cases hy : (ps.zip xs).lookup x' with
        | none => rw [hy] at hz; exact hz.elim
        | some y => rw [hy] at hz; exact ⟨y, rfl, hz⟩
      · rename_i hv
        subst e2
        rw [hv] at hz
        refine ⟨hk, ?_⟩
        dsimp only
        rw [hrev]
        cases hy : (ps.zip xs).lookup x' with
        | none => rfl
        | some y => rw [hy] at hz; exact hz.elim
    | globalImplicit =>
      dsimp only at e2
      obtain ⟨y, hy⟩ := Option.isSome_iff_exists.mp q.2
      rw [hy] at e2
      subst e2
      refine ⟨hk, gv_ok hu hy fun e => ?_⟩
      have := q.1.2
      rw [e] at this
      simp at this
    | _ => exact absurd q.2 (by simp)

/-! contracts over one world alone -/
noncomputable def SpecU (u : U) (n : Nat) (fn : V) (args : List V) (pre : Led) (post : V → Led → Prop) : Prop :=
  ∀ (A : Around) (s : Shared) (x : Value) (xs : List Value), u.Ok → Rm n A → Rep fn x → Reps args xs →
    (∀ b o, u.base.get? b = some o → s.heap.get? b = some o) → PreOk u s.heap pre →
    codeX u.M A (.call x ⟨xs, []⟩) (SpR u pre s post) s
theorem SpecU_def {u : U} {k : Nat} {a : Addr} {args : List V} {pre : Led} {post : V → Led → Prop} {name qual : Str} {params : Arguments} {body : List Stmt} {scope : Scope} {dV kV doc pm cdv ct oc : Value} {an od : Option Addr} {osl : Array (Option Value)} {ps : List Str} {ℓ₀ : Loc}
    (ho : ∀ P, (hd.heap_39 P).lookup a = some ⟨oc, od, .func (fnOf name qual params body scope dV kV doc pm an cdv ct), osl⟩) (hcd : ∀ P, codeIn (hd.heap_39 P) cdv qual = true)
    (hbind : ∀ xs, Reps args xs → bindArgs (fnOf name qual params body scope dV kV doc pm an cdv ct) ⟨xs, []⟩ = pure (ps.zip xs))
    (ok : ∀ P, namesOkB (hd.heap_39 P) scope.names ps = true) (hℓ : ∀ P, initLoc (hd.heap_39 P) scope.names ps args = ℓ₀)
    (h : ∀ f, Exs u k f pre ℓ₀ body (Done post))
    (hco : scope.isCoroutine = false) (hgen : scope.isGenerator = false) (hk : scope.kind = .function) : SpecU u (k + 1) (.ref a) args pre post := by
  rintro A s x xs hu hroom ⟨_, rfl⟩ hr kb pk
  have X : u.K.In s.heap := hu.X.keeps kb
  have hn : ∀ y ∈ ps.zip xs, scope.names.lookup y.1 = some .local := fun y hy => by
    have := ok u.w.params
    unfold namesOkB at this
    simp only [Bool.and_eq_true] at this
    exact beq_iff_eq.mp (List.all_eq_true.mp this.2 _ (List.of_mem_zip hy).1)
  have hcell : ∀ y ∈ scope.names, y.2 ≠ .cell := fun y hy e => by
    have := ok u.w.params
    unfold namesOkB at this
    simp only [Bool.and_eq_true] at this
    have q := List.all_eq_true.mp this.1.1.1 _ hy
    obtain ⟨y1, y2⟩ := y
    dsimp only at e
    subst e
    simp at q
  refine codeX_call_def (fd := fnOf name qual params body scope dV kV doc pm an cdv ct) (body := body) (binds := ps.zip xs) (by have := hroom.1; have e : recursionLimit = 1000 := rfl; lia) (X _ _ (ho _)) rfl (hu.T.nolimit.keeps kb)
    (codeRec_of X (hcd _)) rfl (.of_eq (hbind xs hr)) hcell hn (fun h₀ hns hkp => ?_) hco hgen hk
  let f : Fm := { g := hideAll s.heap (pre.map (·.1)), L := s.heap.objs.size, env := callEnv (fnOf name qual params body scope dV kV doc pm an cdv ct) s.heap.objs.size a, A := A.deeper (callEnv (fnOf name qual params body scope dV kV doc pm an cdv ct) s.heap.objs.size a) }
  have hgk : ∀ b o, f.g.get? b = some o → s.heap.get? b = some o := fun b o e => of_hideAll _ e
  have hgm : ∀ b o, s.heap.get? b = some o → b ∉ pre.map (·.1) → f.g.get? b = some o := fun b o e hm => hideAll_get _ e hm
  have hkb : ∀ b o, u.base.get? b = some o → f.g.get? b = some o := fun b o e => hgm b o (kb _ _ e) fun hm => by
    obtain ⟨p, hp, rfl⟩ := List.mem_map.mp hm
    rw [(pk.led p hp).2] at e; cases e
  have hf : f.Ok u k := ⟨hkb, hk, rfl, rfl, rfl,
    ⟨by have := hroom.1; show A.depth + 1 + k ≤ 900; lia, by have := hroom.2.1; show A.units + 3 + 16 * k ≤ 9000; lia, hroom.2.2⟩⟩
  have hoff : f.g.get? f.L = none := by
    cases e : f.g.get? f.L with
    | none => rfl
    | some o => exact absurd (Heap.lt_size (hgk _ _ e)) (Nat.lt_irrefl _)
  have rs : RS u f pre ℓ₀ { s with heap := h₀, toks := s.toks + (ps.zip xs).length } := by
    refine ⟨⟨_, ⟨hns, fun b o e => hkp _ _ (hgk _ _ e), hoff⟩, ?_⟩, pk.nodup, fun p hp => ⟨(pk.led p hp).1.congr (hkp _), ?_, ?_⟩⟩
    · rw [← hℓ u.w.params]
      exact initLoc_ok (f := f) hu hr (ok _) rfl
    · obtain ⟨ob, ho⟩ := (pk.led p hp).1.there
      exact Nat.ne_of_lt (Heap.lt_size ho)
    · exact hideAll_none _ (List.mem_map_of_mem hp)
  refine wpX_mono (h f hu hf _ rs) ?_ fun _ _ x => x
  rintro fl s'; refine elX2_3 ?_; rintro l' ℓ' r' sm; refine elX1_2 ?_; rintro rr hrr hd
  have fin : ∀ (l₂ : Led) (v : V) (y : Value), Rep v y → (∃ rest, Sel l₂ l' rest) → post v l₂ → SpR u pre s post (.ok (.ret y)) s' := by
    rintro l₂ v y rv ⟨rest, sel⟩ hp
    have r₂ := r'.perm sel.perm
    refine elX1_3 ?_ r₂.fr; rintro m F _ _
    have nd := r₂.nodup
    rw [List.map_append] at nd
    refine ⟨v, l₂, rv, hp, (List.nodup_append.mp nd).1, fun q hq => ?_, fun b o e hm => F.keep _ _ (hgm _ _ e hm), ⟨sm.1, sm.2.1, sm.2.2⟩⟩
    have z := r₂.led q (List.mem_append_left _ hq)
    refine ⟨z.1, ?_⟩
    by_cases hm : q.1 ∈ pre.map (·.1)
    · exact .inl hm
    · refine .inr ?_
      cases hs : s.heap.get? q.1 with
      | none => rfl
      | some ob => have := z.2.2; rw [hgm _ _ hs hm] at this; cases this
  cases hrr with
  | next => obtain ⟨l₂, sel, hp⟩ := hd; exact fin l₂ .none _ (Rep.mk (v := .none) 0) sel hp
  | brk => exact hd.elim
  | cont => exact hd.elim
  | ret rv => obtain ⟨l₂, sel, hp⟩ := hd; exact fin l₂ _ _ rv sel hp
theorem Spec_def {k : Nat} {a : Addr} {args : List V} {pre : Led} {post : V → Led → Prop} {name qual : Str} {params : Arguments} {body : List Stmt} {scope : Scope} {dV kV doc pm cdv ct oc : Value} {an od : Option Addr} {osl : Array (Option Value)} {ps : List Str} {ℓ₀ : Loc}
    (ho : ∀ P, (hd.heap_39 P).lookup a = some ⟨oc, od, .func (fnOf name qual params body scope dV kV doc pm an cdv ct), osl⟩) (hcd : ∀ P, codeIn (hd.heap_39 P) cdv qual = true)
    (hbind : ∀ xs, Reps args xs → bindArgs (fnOf name qual params body scope dV kV doc pm an cdv ct) ⟨xs, []⟩ = pure (ps.zip xs))
    (ok : ∀ P, namesOkB (hd.heap_39 P) scope.names ps = true) (hℓ : ∀ P, initLoc (hd.heap_39 P) scope.names ps args = ℓ₀)
    (h : ∀ u f, Exs u k f pre ℓ₀ body (Done post))
    (hco : scope.isCoroutine = false) (hgen : scope.isGenerator = false) (hk : scope.kind = .function) : Spec (k + 1) (.ref a) args pre post :=
  fun u => SpecU_def ho hcd hbind ok hℓ (h u) hco hgen hk
theorem reps_n {C : List Value → Prop} (h : C []) : ∀ xs, Reps [] xs → C xs := fun xs hr => by cases hr; exact h
theorem reps_c {a : V} {as : List V} {C : List Value → Prop} (h : ∀ x xs, Reps as xs → C (x :: xs)) : ∀ xs, Reps (a :: as) xs → C xs := fun xs hr => by
  cases hr with
  | cons _ hr => exact h _ _ hr
theorem reps1 {a : V} {C : List Value → Prop} (h : ∀ x, C [x]) : ∀ xs, Reps [a] xs → C xs := reps_c fun x => reps_n (C := fun r => C (x :: r)) (h x)
theorem reps2 {a b : V} {C : List Value → Prop} (h : ∀ x y, C [x, y]) : ∀ xs, Reps [a, b] xs → C xs := reps_c fun x => reps1 (C := fun r => C (x :: r)) (h x)
theorem reps3 {a b c : V} {C : List Value → Prop} (h : ∀ x y z, C [x, y, z]) : ∀ xs, Reps [a, b, c] xs → C xs := reps_c fun x => reps2 (C := fun r => C (x :: r)) (h x)
theorem reps4 {a b c d : V} {C : List Value → Prop} (h : ∀ x y z w, C [x, y, z, w]) : ∀ xs, Reps [a, b, c, d] xs → C xs := reps_c fun x => reps3 (C := fun r => C (x :: r)) (h x)
theorem reps5 {a b c d e : V} {C : List Value → Prop} (h : ∀ x y z w v, C [x, y, z, w, v]) : ∀ xs, Reps [a, b, c, d, e] xs → C xs := reps_c fun x => reps4 (C := fun r => C (x :: r)) (h x)
theorem reps6 {a b c d e g : V} {C : List Value → Prop} (h : ∀ x y z w v t, C [x, y, z, w, v, t]) : ∀ xs, Reps [a, b, c, d, e, g] xs → C xs := reps_c fun x => reps5 (C := fun r => C (x :: r)) (h x)
theorem Spec_defR {k : Nat} {a : Addr} {args : List V} {pre : Led} {post : V → Led → Prop} {name qual : Str} {params : Arguments} {body : List Stmt} {scope : Scope} {dV kV doc pm cdv ct oc : Value} {an od : Option Addr} {osl : Array (Option Value)} {ps : List Str} {ℓ₀ : Loc}
    (ho : ∀ P, (hd.heap_39 P).lookup a = some ⟨oc, od, .func (fnOf name qual params body scope dV kV doc pm an cdv ct), osl⟩) (hcd : ∀ P, codeIn (hd.heap_39 P) cdv qual = true)
    (hbind : ∀ xs, Reps args xs → bindArgs (fnOf name qual params body scope dV kV doc pm an cdv ct) ⟨xs, []⟩ = pure (ps.zip xs))
    (ok : ∀ P, namesOkB (hd.heap_39 P) scope.names ps = true) (hℓ : ∀ P, initLoc (hd.heap_39 P) scope.names ps args = ℓ₀)
    (h : ∀ u f (Q : Fl → Led → Loc → Prop), (∀ {r l ℓ}, Done post r l ℓ → Q r l ℓ) → Exs u k f pre ℓ₀ body Q)
    (hco : scope.isCoroutine = false) (hgen : scope.isGenerator = false) (hk : scope.kind = .function) : Spec (k + 1) (.ref a) args pre post :=
  Spec_def ho hcd hbind ok hℓ (fun u f => h u f _ id) hco hgen hk

section
variable {u : U} {n : Nat} {f : Fm} {l : Led} {ℓ : Loc} {P : V → Led → Prop} {B : Bool → Led → Prop} {i j : Int}

/-! ints -/
theorem Bin_add (h : P (.int (i + j)) l) : BinV u n f l ℓ .Add (.int i) (.int j) P := by
  rintro x y ⟨t, rfl⟩ ⟨t', rfl⟩
  exact .of fun hu hf s r => PySem.P.add_int ⟨l, ℓ, r.toks, ⟨rfl, rfl, rfl⟩, _, Rep.mk (v := .int (i + j)) s.toks, rfl, h⟩
theorem Inp_add (h : P (.int (i + j)) l) : InpV u n f l ℓ .Add (.int i) (.int j) P := by
  rintro x y ⟨t, rfl⟩ ⟨t', rfl⟩
  exact .of fun hu hf s r => PySem.P.iadd_int ⟨l, ℓ, r.toks, ⟨rfl, rfl, rfl⟩, _, Rep.mk (v := .int (i + j)) s.toks, rfl, h⟩
theorem Bin_sub (h : P (.int (i - j)) l) : BinV u n f l ℓ .Sub (.int i) (.int j) P := by
  rintro x y ⟨t, rfl⟩ ⟨t', rfl⟩
  exact .of fun hu hf s r => PySem.P.sub_int ⟨l, ℓ, r.toks, ⟨rfl, rfl, rfl⟩, _, Rep.mk (v := .int (i - j)) s.toks, rfl, h⟩
theorem Bin_mul (hm : IntMulOk i j) (h : P (.int (i * j)) l) : BinV u n f l ℓ .Mult (.int i) (.int j) P := by
  rintro x y ⟨t, rfl⟩ ⟨t', rfl⟩
  exact .of fun hu hf s r => PySem.P.mul_int ⟨l, ℓ, r.toks, ⟨rfl, rfl, rfl⟩, _, Rep.mk (v := .int (i * j)) s.toks, rfl, h⟩ hm
theorem Bin_mod (hj : j ≠ 0) (h : P (.int (i.fmod j)) l) : BinV u n f l ℓ .Mod (.int i) (.int j) P := by
  rintro x y ⟨t, rfl⟩ ⟨t', rfl⟩
  exact .of fun hu hf s r => mod_int' hj ⟨l, ℓ, r.toks, ⟨rfl, rfl, rfl⟩, _, Rep.mk (v := .int (i.fmod j)) s.toks, rfl, h⟩
theorem Bin_div (hj : j ≠ 0) (hp : Builtin.divisionGoesByPylong i j = false) (h : P (.int (i.fdiv j)) l) : BinV u n f l ℓ .FloorDiv (.int i) (.int j) P := by
  rintro x y ⟨t, rfl⟩ ⟨t', rfl⟩
  exact .of fun hu hf s r => floordiv_int hj ⟨l, ℓ, r.toks, ⟨rfl, rfl, rfl⟩, _, Rep.mk (v := .int (i.fdiv j)) s.toks, rfl, h⟩ (.inl hp)
theorem Bin_and (h : P (.int (Builtin.bitAnd i j)) l) : BinV u n f l ℓ .BitAnd (.int i) (.int j) P := by
  rintro x y ⟨t, rfl⟩ ⟨t', rfl⟩
  exact .of fun hu hf s r => and_int ⟨l, ℓ, r.toks, ⟨rfl, rfl, rfl⟩, _, Rep.mk (v := .int (Builtin.bitAnd i j)) s.toks, rfl, h⟩
theorem Bin_or (h : P (.int (Builtin.bitOr i j)) l) : BinV u n f l ℓ .BitOr (.int i) (.int j) P := by
  rintro x y ⟨t, rfl⟩ ⟨t', rfl⟩
  exact .of fun hu hf s r => or_int ⟨l, ℓ, r.toks, ⟨rfl, rfl, rfl⟩, _, Rep.mk (v := .int (Builtin.bitOr i j)) s.toks, rfl, h⟩
theorem Bin_shl (hn : 0 ≤ j) (hn2 : j ≤ 1000000) (ha : i.natAbs < 2 ^ 64) (h : P (.int (i * 2 ^ j.toNat)) l) : BinV u n f l ℓ .LShift (.int i) (.int j) P := by
  rintro x y ⟨t, rfl⟩ ⟨t', rfl⟩
  exact .of fun hu hf s r => lshift_int_small hn hn2 ha ⟨l, ℓ, r.toks, ⟨rfl, rfl, rfl⟩, _, Rep.mk (v := .int (i * 2 ^ j.toNat)) s.toks, rfl, h⟩
theorem Bin_pow (hn : 0 ≤ j) (hn2 : j ≤ 1000000) (ha : i.natAbs < 2 ^ 64) (h : P (.int (i ^ j.toNat)) l) : BinV u n f l ℓ .Pow (.int i) (.int j) P := by
  rintro x y ⟨t, rfl⟩ ⟨t', rfl⟩
  exact .of fun hu hf s r => pow_int_small hn hn2 ha ⟨l, ℓ, r.toks, ⟨rfl, rfl, rfl⟩, _, Rep.mk (v := .int (i ^ j.toNat)) s.toks, rfl, h⟩
theorem Un_neg (h : P (.int (-i)) l) : UnV u n f l ℓ .USub (.int i) P := by
  rintro x ⟨t, rfl⟩
  exact .of fun hu hf s r => PySem.P.neg_int ⟨l, ℓ, r.toks, ⟨rfl, rfl, rfl⟩, _, Rep.mk (v := .int (-i)) s.toks, rfl, h⟩
theorem Cmp_eq (h : P (.bool (decide (i = j))) l) : CmpV u n f l ℓ .Eq (.int i) (.int j) P := by
  rintro x y ⟨t, rfl⟩ ⟨t', rfl⟩
  exact .of fun hu hf s r => PySem.P.eq_int ⟨l, ℓ, r, .refl s, _, Rep.mk (v := .bool (decide (i = j))) 0, rfl, h⟩
theorem Cmp_ne (h : P (.bool (!decide (i = j))) l) : CmpV u n f l ℓ .NotEq (.int i) (.int j) P := by
  rintro x y ⟨t, rfl⟩ ⟨t', rfl⟩
  exact .of fun hu hf s r => PySem.P.ne_int ⟨l, ℓ, r, .refl s, _, Rep.mk (v := .bool (!decide (i = j))) 0, rfl, h⟩
theorem Cmp_lt (h : P (.bool (decide (i < j))) l) : CmpV u n f l ℓ .Lt (.int i) (.int j) P := by
  rintro x y ⟨t, rfl⟩ ⟨t', rfl⟩
  exact .of fun hu hf s r => PySem.P.lt_int ⟨l, ℓ, r, .refl s, _, Rep.mk (v := .bool (decide (i < j))) 0, rfl, h⟩
theorem Cmp_le (h : P (.bool (decide (i ≤ j))) l) : CmpV u n f l ℓ .LtE (.int i) (.int j) P := by
  rintro x y ⟨t, rfl⟩ ⟨t', rfl⟩
  exact .of fun hu hf s r => PySem.P.le_int ⟨l, ℓ, r, .refl s, _, Rep.mk (v := .bool (decide (i ≤ j))) 0, rfl, h⟩
theorem Cmp_gt (h : P (.bool (decide (j < i))) l) : CmpV u n f l ℓ .Gt (.int i) (.int j) P := by
  rintro x y ⟨t, rfl⟩ ⟨t', rfl⟩
  exact .of fun hu hf s r => PySem.P.gt_int ⟨l, ℓ, r, .refl s, _, Rep.mk (v := .bool (decide (j < i))) 0, rfl, h⟩
theorem Cmp_ge (h : P (.bool (decide (j ≤ i))) l) : CmpV u n f l ℓ .GtE (.int i) (.int j) P := by
  rintro x y ⟨t, rfl⟩ ⟨t', rfl⟩
  exact .of fun hu hf s r => PySem.P.ge_int ⟨l, ℓ, r, .refl s, _, Rep.mk (v := .bool (decide (j ≤ i))) 0, rfl, h⟩
/-! lists and tuples -/
theorem RS.list {s : Shared} {a : Addr} {vs : List V} (r : RS u f l ℓ s) (h : (a, O.list vs) ∈ l) : ∃ xs n, Reps vs xs ∧ s.heap.get? a = some { cls := .type "list", data := .seq xs.toArray n } := (r.led _ h).1
theorem RS.isList {s : Shared} {a : Addr} {vs : List V} (r : RS u f l ℓ s) (h : (a, O.list vs) ∈ l) : ∃ xs, Reps vs xs ∧ s.heap.IsList a xs.toArray :=
  let ⟨xs, n, rx, ho⟩ := r.list h; ⟨xs, rx, _, ho, rfl, n, rfl⟩
theorem RS.tup {s : Shared} {a : Addr} {vs : List V} (r : RS u f l ℓ s) (h : (a, O.tup vs) ∈ l) : ∃ xs, Reps vs xs ∧ IsTup s.heap a xs.toArray :=
  let ⟨xs, n, rx, ho⟩ := (r.led _ h).1; ⟨xs, rx, _, ho, rfl, n, rfl⟩
theorem setItem_exact {prog : Program} {w : World} {A : Around} {E : Value → Shared → Prop} {s : Shared} {l : Addr} {items : Array Value} {m : Nat} {k : Int} {t : Tok} {v : Value} {Q : Unit → Shared → Prop} (ho : s.heap.get? l = some { cls := .type "list", data := .seq items m })
    (h0 : 0 ≤ k) (hfit : k < 2 ^ 63) (hn : k < items.size) (hQ : Q () { s with heap := s.heap.update l (Obj.mapSeq (·.setIfInBounds k.toNat v)) }) : wpAny (model prog w) A (setItem (.ref l) (.int k t) v) Q E s := by
  have hl : s.heap.IsList l items := ⟨_, ho, rfl, m, rfl⟩
  unfold setItem
  try with_reducible refine wpAny_holding ?_
  refine wpAny_bind (wpAny_sequenceKey hl.typeIs (by decide) ?_)
  refine wpAny_bind (wpAny_callSpecial?_slot (name := Str.ofString "__setitem__") hl.typeIs slot_list_setitem
    (wpAny_call_entry slot_list_setitem hl.typeIs entry_list_setitem ?_ (args_list_setitem _ _ _)))
  show wpAny _ _ (Builtin.List.listSubscript? (.int k t) >>= _) _ _ s
  refine wpAny_bind (wpAny_listSubscript_int (fitsIndex_of h0 hfit) ?_)
  clear hfit
  obtain ⟨j, rfl⟩ := Int.eq_ofNat_of_zero_le h0
  have hj : j < items.size := by lia
  have hx : items[j]? = some items[j] := Array.getElem?_eq_getElem hj
  show wpAny _ _ ((seqItemAt l j >>= fun r => pure (r.map (j, ·))) >>= _) _ _ s
  refine wpAny_bind (wpAny_bind (wpAny_seqItemAt ho rfl (wpAny_pure ?_)))
  rw [hx]
  show wpAny _ _ (setSeqItemAt l j v >>= _) _ _ s
  refine wpAny_bind (wpAny_setSeqItemAt ho rfl ?_)
  first
    | exact wpAny_bind (wpAny_pure (wpAny_pure ⟨.none, rfl, wpAny_pure hQ⟩))
    | exact wpAny_pure ⟨.none, rfl, wpAny_pure hQ⟩
theorem Itm_list {a : Addr} {vs : List V} {v : V} (ha : (a, O.list vs) ∈ l) (h0 : 0 ≤ i) (hi : i < 2 ^ 63) (hv : vs[i.toNat]? = some v) (h : P v l) : ItmV u n f l ℓ (.ref a) (.int i) P := by
  rintro x y value slice ⟨t, rfl⟩ ⟨t', rfl⟩ hs
  refine .of fun hu hf s r => ?_
  obtain ⟨xs, rx, hl⟩ := r.isList ha
  obtain ⟨z, hz, rz⟩ := rx.get hv
  exact tail_any hl.typeIs slot_list_getitem.lookup (wpAny_getItem_list hl h0 hi (by simpa using hz) ⟨l, ℓ, r, .refl s, v, rz, rfl, h⟩) (hs _ _)
theorem Itm_list_last {a : Addr} {vs : List V} {v : V} (ha : (a, O.list vs) ∈ l) (hv : vs.getLast? = some v) (hz : vs.length < 2 ^ 40) (h : P v l) : ItmV u n f l ℓ (.ref a) (.int (-1)) P := by
  rintro x y value slice ⟨t, rfl⟩ ⟨t', rfl⟩ hs
  refine .of fun hu hf s r => ?_
  obtain ⟨xs, rx, hl⟩ := r.isList ha
  have hne : vs ≠ [] := fun e => by rw [e] at hv; cases hv
  have hlen : 0 < vs.length := List.length_pos_iff.mpr hne
  have hv' : vs[vs.length - 1]? = some v := by rw [← List.getLast?_eq_getElem?]; exact hv
  obtain ⟨z, hz', rz⟩ := rx.get hv'
  have el := rx.length
  refine tail_any hl.typeIs slot_list_getitem.lookup (wpAny_getItem_list_neg hl (by decide) ?_ (by decide) ?_ ⟨l, ℓ, r, .refl s, v, rz, rfl, h⟩) (hs _ _)
  · rw [List.size_toArray]; lia
  · rw [List.size_toArray]
    have e : ((-1 : Int) + (xs.length : Int)).toNat = vs.length - 1 := by rw [el]; exact ar_p _
    rw [e]; simpa using hz'
theorem Itm_tup {a : Addr} {vs : List V} {v : V} (ha : (a, O.tup vs) ∈ l) (h0 : 0 ≤ i) (hi : i < 2 ^ 63) (hv : vs[i.toNat]? = some v) (h : P v l) : ItmV u n f l ℓ (.ref a) (.int i) P := by
  rintro x y value slice ⟨t, rfl⟩ ⟨t', rfl⟩ hs
  refine .of fun hu hf s r => ?_
  obtain ⟨xs, rx, hl⟩ := r.tup ha
  obtain ⟨z, hz, rz⟩ := rx.get hv
  refine item_tupleT hl (by lia) hi ?_ hz ⟨l, ℓ, r, .refl s, v, rz, rfl, h⟩ (hs _ _)
  have hlt : i.toNat < xs.length := by
    obtain ⟨q, _⟩ := List.getElem?_eq_some_iff.mp hz; exact q
  unfold seqIndex?
  have e1 : ¬ i < 0 := Int.not_lt.mpr h0
  have e2 : i < (xs.length : Int) := (Int.toNat_lt h0).mp hlt
  simp [e1, h0, e2]

theorem Reps.set {vs : List V} {xs : List Value} (h : Reps vs xs) {v : V} {x : Value} (r : Rep v x) : ∀ i : Nat, Reps (vs.set i v) (xs.set i x) := by
  induction h with
  | nil => intro i; exact .nil
  | cons q _ ih =>
    intro i
    cases i with
    | zero => exact .cons r ‹_›
    | succ i => exact .cons q (ih i)
theorem Put_list {a : Addr} {vs : List V} {v : V} {l' : Led} {R : Led → Prop} (h0 : 0 ≤ i) (hi : i < 2 ^ 63) (hn : i < vs.length) (t : Turn a (.list vs) (.list (vs.set i.toNat v)) l l') (h : R l') : PutV u n f l ℓ (.ref a) (.int i) v R := by
  rintro x y z ⟨tk, rfl⟩ ⟨tk', rfl⟩ rz
  refine .of fun hu hf s r => ?_
  refine elX2_2 ?_ (r.list t.mem); rintro xs m rx ho
  refine setItem_exact ho h0 hi (by rw [List.size_toArray, ← rx.length]; exact hn) ⟨l', ℓ, r.turn (s' := { s with heap := s.heap.update a (Obj.mapSeq (·.setIfInBounds i.toNat z)) }) t (Heap.SameBut.update ..) ⟨xs.set i.toNat z, m, rx.set rz _, ?_⟩, ⟨rfl, rfl, rfl⟩, rfl, h⟩
  refine (Heap.get?_update_self _ ho rfl).trans ?_
  simp [Obj.mapSeq]
theorem W.newList {vs : List V} {xs : List Value} (rx : Reps vs xs) (hz : vs.length ≤ 10000) (h : ∀ a, P (.ref a) ((a, .list vs) :: l)) : W u n f l ℓ (newList xs) (EvP ℓ P) := by
  refine .of fun hu hf s r => ?_
  refine wpAny_newObj_type ?_ (by show xs.toArray.size ≤ sizeLine; rw [List.size_toArray, ← rx.length]; have : sizeLine = 16777216 := rfl; lia)
  exact ⟨_, ℓ, r.alloc (o := .list vs) (s' := { s with heap := s.heap.push _ }) rfl ⟨xs, 0, rx, Heap.get?_push_size _ rfl⟩, ⟨rfl, rfl, rfl⟩, _, Rep.mk (v := .ref s.heap.objs.size) 0, rfl, h _⟩
theorem W.newTuple {vs : List V} {xs : List Value} (rx : Reps vs xs) (hz : vs.length ≤ 10000) (h : ∀ a, P (.ref a) ((a, .tup vs) :: l)) : W u n f l ℓ (newTuple xs) (EvP ℓ P) := by
  refine .of fun hu hf s r => ?_
  refine wpAny_newObj_type ?_ (by show xs.toArray.size ≤ sizeLine; rw [List.size_toArray, ← rx.length]; have : sizeLine = 16777216 := rfl; lia)
  exact ⟨_, ℓ, r.alloc (o := .tup vs) (s' := { s with heap := s.heap.push _ }) rfl ⟨xs, 0, rx, Heap.get?_push_size _ rfl⟩, ⟨rfl, rfl, rfl⟩, _, Rep.mk (v := .ref s.heap.objs.size) 0, rfl, h _⟩
theorem Ev_List {es : List Expr} {pos : Pos} (h : Evs u n f l ℓ es fun vs l₁ => vs.length ≤ 10000 ∧ ∀ a, P (.ref a) ((a, .list vs) :: l₁)) : Ev u n f l ℓ (.List es pos) P := by
  show W u n f l ℓ (do standAt pos; newList (← spliced (backTo pos (starEach es f.env)))) _
  refine W.bind (W.standAt (W.bind (W.mono (h pos) ?_)))
  rintro xs l₁ ℓ₁; refine elX1_4 ?_; rintro vs rx rfl hz h₁
  exact W.newList rx hz h₁
theorem Ev_Tuple {es : List Expr} {k : Nat} {pos : Pos} (h : Evs u n f l ℓ es fun vs l₁ => vs.length ≤ 10000 ∧ ∀ a, P (.ref a) ((a, .tup vs) :: l₁)) : Ev u n f l ℓ (.Tuple es k pos) P := by
  show W u n f l ℓ (do standAt pos; newTuple (← spliced (backTo pos (starEach es f.env)))) _
  refine W.bind (W.standAt (W.bind (W.mono (h pos) ?_)))
  rintro xs l₁ ℓ₁; refine elX1_4 ?_; rintro vs rx rfl hz h₁
  exact W.newTuple rx hz h₁
theorem Call_append {a : Addr} {vs : List V} {v : V} {l' : Led} (hz : vs.length ≤ 10000) (t : Turn a (.list vs) (.list (vs ++ [v])) l l') (h : P .none l') : CallV u n f l ℓ (.bi "list.append") [.ref a, v] P := by
  rintro x xs ⟨tk, rfl⟩ rxs
  cases rxs with | cons ra rxs => cases rxs with | cons rv rxs => cases rxs with | nil =>
  obtain ⟨_, rfl⟩ := ra
  refine .of fun hu hf s r => ?_
  refine elX2_2 ?_ (r.list t.mem); rintro xs m rx ho
  refine wpAny_list_append_plain ⟨m, ho⟩ (fun h' hl' hs' => ?_) (by rw [List.size_toArray, ← rx.length]; have : sizeLine = 16777216 := rfl; lia)
  obtain ⟨m', hl'⟩ := hl'
  refine ⟨l', ℓ, r.turn (s' := { s with heap := h' }) t hs' ⟨xs ++ [_], m', rx.append (.cons rv .nil), ?_⟩, ⟨rfl, rfl, rfl⟩, _, Rep.mk (v := .none) 0, rfl, h⟩
  simpa using hl'

/-! is -/
theorem Cmp_is_none {v : V} (h : P (.bool (match v with | .none => true | _ => false)) l) : CmpV u n f l ℓ .Is v .none P := by
  rintro x y ⟨t, rfl⟩ ⟨t', rfl⟩
  cases v <;> exact W.pure ⟨_, Rep.mk (v := .bool _) 0, rfl, h⟩
theorem Cmp_isnot_none {v : V} (h : P (.bool (match v with | .none => false | _ => true)) l) : CmpV u n f l ℓ .IsNot v .none P := by
  rintro x y ⟨t, rfl⟩ ⟨t', rfl⟩
  cases v <;> exact W.pure ⟨_, Rep.mk (v := .bool _) 0, rfl, h⟩
end

/-! places (printed by fam.py) -/
theorem mem_0 {α : Type} {a : α} {l : List α} : a ∈ a :: l := .head _
theorem mem_1 {α : Type} {a b0 : α} {l : List α} : a ∈ b0 :: a :: l := .tail _ (.head _)
theorem mem_2 {α : Type} {a b0 b1 : α} {l : List α} : a ∈ b0 :: b1 :: a :: l := .tail _ (.tail _ (.head _))
theorem mem_3 {α : Type} {a b0 b1 b2 : α} {l : List α} : a ∈ b0 :: b1 :: b2 :: a :: l := .tail _ (.tail _ (.tail _ (.head _)))
theorem mem_4 {α : Type} {a b0 b1 b2 b3 : α} {l : List α} : a ∈ b0 :: b1 :: b2 :: b3 :: a :: l := .tail _ (.tail _ (.tail _ (.tail _ (.head _))))
theorem mem_5 {α : Type} {a b0 b1 b2 b3 b4 : α} {l : List α} : a ∈ b0 :: b1 :: b2 :: b3 :: b4 :: a :: l := .tail _ (.tail _ (.tail _ (.tail _ (.tail _ (.head _)))))
theorem mem_6 {α : Type} {a b0 b1 b2 b3 b4 b5 : α} {l : List α} : a ∈ b0 :: b1 :: b2 :: b3 :: b4 :: b5 :: a :: l := .tail _ (.tail _ (.tail _ (.tail _ (.tail _ (.tail _ (.head _))))))
theorem mem_7 {α : Type} {a b0 b1 b2 b3 b4 b5 b6 : α} {l : List α} : a ∈ b0 :: b1 :: b2 :: b3 :: b4 :: b5 :: b6 :: a :: l := .tail _ (.tail _ (.tail _ (.tail _ (.tail _ (.tail _ (.tail _ (.head _)))))))
theorem mem_8 {α : Type} {a b0 b1 b2 b3 b4 b5 b6 b7 : α} {l : List α} : a ∈ b0 :: b1 :: b2 :: b3 :: b4 :: b5 :: b6 :: b7 :: a :: l := .tail _ (.tail _ (.tail _ (.tail _ (.tail _ (.tail _ (.tail _ (.tail _ (.head _))))))))
theorem mem_9 {α : Type} {a b0 b1 b2 b3 b4 b5 b6 b7 b8 : α} {l : List α} : a ∈ b0 :: b1 :: b2 :: b3 :: b4 :: b5 :: b6 :: b7 :: b8 :: a :: l := .tail _ (.tail _ (.tail _ (.tail _ (.tail _ (.tail _ (.tail _ (.tail _ (.tail _ (.head _)))))))))
theorem mem_10 {α : Type} {a b0 b1 b2 b3 b4 b5 b6 b7 b8 b9 : α} {l : List α} : a ∈ b0 :: b1 :: b2 :: b3 :: b4 :: b5 :: b6 :: b7 :: b8 :: b9 :: a :: l := .tail _ (.tail _ (.tail _ (.tail _ (.tail _ (.tail _ (.tail _ (.tail _ (.tail _ (.tail _ (.head _))))))))))
theorem mem_11 {α : Type} {a b0 b1 b2 b3 b4 b5 b6 b7 b8 b9 b10 : α} {l : List α} : a ∈ b0 :: b1 :: b2 :: b3 :: b4 :: b5 :: b6 :: b7 :: b8 :: b9 :: b10 :: a :: l := .tail _ (.tail _ (.tail _ (.tail _ (.tail _ (.tail _ (.tail _ (.tail _ (.tail _ (.tail _ (.tail _ (.head _)))))))))))
theorem mem_12 {α : Type} {a b0 b1 b2 b3 b4 b5 b6 b7 b8 b9 b10 b11 : α} {l : List α} : a ∈ b0 :: b1 :: b2 :: b3 :: b4 :: b5 :: b6 :: b7 :: b8 :: b9 :: b10 :: b11 :: a :: l := .tail _ (.tail _ (.tail _ (.tail _ (.tail _ (.tail _ (.tail _ (.tail _ (.tail _ (.tail _ (.tail _ (.tail _ (.head _))))))))))))
theorem mem_13 {α : Type} {a b0 b1 b2 b3 b4 b5 b6 b7 b8 b9 b10 b11 b12 : α} {l : List α} : a ∈ b0 :: b1 :: b2 :: b3 :: b4 :: b5 :: b6 :: b7 :: b8 :: b9 :: b10 :: b11 :: b12 :: a :: l := .tail _ (.tail _ (.tail _ (.tail _ (.tail _ (.tail _ (.tail _ (.tail _ (.tail _ (.tail _ (.tail _ (.tail _ (.tail _ (.head _)))))))))))))
theorem mem_skip {α : Type} {a b0 b1 b2 b3 b4 b5 b6 b7 b8 b9 b10 b11 b12 b13 : α} {l : List α} (h : a ∈ l) : a ∈ b0 :: b1 :: b2 :: b3 :: b4 :: b5 :: b6 :: b7 :: b8 :: b9 :: b10 :: b11 :: b12 :: b13 :: l := .tail _ (.tail _ (.tail _ (.tail _ (.tail _ (.tail _ (.tail _ (.tail _ (.tail _ (.tail _ (.tail _ (.tail _ (.tail _ (.tail _ (h))))))))))))))
theorem lk_tail {α : Type} {a b : α} {l : List α} (h : a ∈ l) : a ∈ b :: l := .tail _ h
section
open Lean
/-! the walk's tables: a local macro reads its alternatives out of one line of text -/
def tws (x : String) : List String := (x.splitOn " ").filter (· != "")
def tHole (i : Nat) : MacroM Ident := return mkIdent (← MonadQuotation.addMacroScope (.mkSimple s!"k{i}"))
def tAt (c : String) : MacroM (TSyntax `tactic) := `(tactic| wtm_at $(Syntax.mkStrLit c))
/-- `N c ..`: the lemma N, its premises closed by `wtm_at c` or, at `_`, left; `'c`: behind the others; `@c`: `wtm_at c` -/
def tAlt (x : String) : MacroM (TSyntax `tactic) := do
  let n :: cs := tws x | Macro.throwUnsupported
  let id := mkIdent n.toName
  if cs.isEmpty then if n.startsWith "@" then tAt (n.drop 1).toString else `(tactic| exact $id)
  else
    let mut hs : Array Term := #[]
    let mut now : Array (TSyntax `tactic) := #[]
    let mut late : Array (TSyntax `tactic) := #[]
    for (c, i) in cs.zipIdx do
      if c == "_" then hs := hs.push (← `(?_))
      else
        let k ← tHole i
        hs := hs.push (← `(?$k:ident))
        let w := (c.dropWhile (· == '\'')).toString
        let t ← `(tactic| case $k:ident => wtm_at $(Syntax.mkStrLit w))
        if w == c then now := now.push t else late := late.push t
    let mut t ← `(tactic| refine' $id:ident $hs*)
    for q in now ++ late do t ← `(tactic| ($t:tactic; $q:tactic))
    return t
def tFirst (ts : Array (TSyntax `tactic)) : MacroM (TSyntax `tactic) := do
  let qs ← ts.mapM fun t => `(Parser.Tactic.tacticSeq| $t:tactic)
  `(tactic| first $[| $qs:tacticSeq]*)
def tAlts (x : String) : MacroM (TSyntax `tactic) := do tFirst (← ((x.splitOn "|").toArray.mapM tAlt))
def tAny (x : String) : MacroM Syntax := do return (← tFirst (← (tws x).toArray.mapM tAt)).raw
def tGuard (x : String) : MacroM (TSyntax `tactic) := do
  match tws x with
  | [n, k] =>
    let hs : Array Term ← (Array.range k.toNat!).mapM fun _ => `(_)
    `(tactic| guard_target = $(mkIdent n.toName):ident $hs*)
  | [c] => tAt c
  | _ => Macro.throwUnsupported
/-- groups `guard: alternatives`, divided by `/` -/
def tTab (x : String) : MacroM Syntax := do
  let ts ← (x.splitOn "/").toArray.mapM fun g => do
    match g.splitOn ":" with
    | [a] => tAlts a
    | [q, a] => do `(tactic| ($(← tGuard q):tactic; $(← tAlts a):tactic))
    | _ => Macro.throwUnsupported
  let t ← tFirst ts
  return (← `(tactic| with_reducible $t:tactic)).raw
/-- a call of a function whose contract is known: the contract's name and its premises -/
def tCall (x : String) : MacroM Syntax := do
  let n :: cs := tws x | Macro.throwUnsupported
  let hs : Array Term ← cs.toArray.mapM fun c => `(by wtm_at $(Syntax.mkStrLit c))
  return (← `(tactic| with_reducible refine $(mkIdent `CallV_one) ($(mkIdent n.toName) $hs*) (by wtm_at "one") (by wtm_at "sel") (by wtm_at "app") ?_)).raw
end
local macro_rules | `(tactic| wtm_at "as") => `(tactic| assumption)
local macro_rules | `(tactic| wtm_at "lkp") => tTab "mem_0 | mem_1 | mem_2 | mem_3 | mem_4 | mem_5 | mem_6 | mem_7 | mem_8 | mem_9 | mem_10 | mem_11 | mem_12 | mem_13 | mem_skip lkp"
local macro_rules | `(tactic| wtm_at "lk") => tTab "@lkp | @as"

/-! an object's dict -/
theorem RepE.length {fs : List (Str × V)} {es : List DictEntry} (h : RepE fs es) : es.length = fs.length := by induction h <;> simp_all
theorem RepE.ref {fs : List (Str × V)} {es : List DictEntry} (h : RepE fs es) : es.any (·.refKey) = false := by
  induction h with
  | nil => rfl
  | cons _ _ ih => rw [List.any_cons, ih]; rfl
theorem RepE.get {fs : List (Str × V)} {es : List DictEntry} (h : RepE fs es) : (fs.map (·.1)).Nodup → ∀ {x : Str} {v : V}, (x, v) ∈ fs → ∃ y, getL x es = some (some y) ∧ Rep v y := by
  induction h with
  | nil => intro _ x v m; cases m
  | @cons a b t hsh y fs es r _ ih =>
    intro nd x v m
    rw [List.map_cons] at nd
    rcases List.mem_cons.mp m with e | m
    · cases e
      refine ⟨y, ?_, r⟩
      unfold getL
      rw [List.find?_cons_of_pos (by simp [Value.isStr])]
    · obtain ⟨y', e, r'⟩ := ih (List.nodup_cons.mp nd).2 m
      refine ⟨y', ?_, r'⟩
      have hne : a ≠ x := fun e => (List.nodup_cons.mp nd).1 (List.mem_map.mpr ⟨_, m, e.symm⟩)
      unfold getL at e ⊢
      rw [List.find?_cons_of_neg (by simp [Value.isStr, hne])]
      split at e
      · exact e
      · split at e <;> cases e
theorem RepE.get_none {fs : List (Str × V)} {es : List DictEntry} (h : RepE fs es) {x : Str} (hn : x ∉ fs.map (·.1)) : getL x es = some none := by
  have e : es.find? (·.key.isStr x) = none := by
    induction h with
    | nil => rfl
    | @cons a b t hsh y fs es r _ ih =>
      rw [List.map_cons, List.mem_cons, not_or] at hn
      rw [List.find?_cons_of_neg (by simp [Value.isStr, Ne.symm hn.1])]
      exact ih hn.2
  unfold getL
  rw [e, h.ref]
  rfl
/-- `FPut x v fs fs'`: the field x turns to v -/
inductive FPut (x : Str) (v : V) : List (Str × V) → List (Str × V) → Prop
  | head {w r} : FPut x v ((x, w) :: r) ((x, v) :: r)
  | tail {q r r'} : FPut x v r r' → FPut x v (q :: r) (q :: r')
theorem FPut.keys {x : Str} {v : V} {fs fs' : List (Str × V)} (t : FPut x v fs fs') : fs'.map (·.1) = fs.map (·.1) := by
  induction t with
  | head => rfl
  | tail _ ih => simp [ih]
theorem FPut.mem {x : Str} {v : V} {fs fs' : List (Str × V)} (t : FPut x v fs fs') : x ∈ fs.map (·.1) := by
  induction t with
  | head => exact .head _
  | tail _ ih => exact .tail _ ih
theorem RepE.put {fs : List (Str × V)} {es : List DictEntry} (h : RepE fs es) {x : Str} {v : V} {y k : Value} {hsh : Int} (rv : Rep v y) : ∀ {fs'}, FPut x v fs fs' → (fs.map (·.1)).Nodup → RepE fs' (putL x hsh k y es) := by
  induction h with
  | nil => intro fs' t; cases t
  | @cons a b t hs' z fs es r h ih =>
    intro fs' tt nd
    rw [List.map_cons] at nd
    cases tt with
    | head =>
      simp only [putL, Value.isStr, beq_self_eq_true, if_true]
      exact .cons rv h
    | tail tt =>
      have hne : a ≠ x := fun e => (List.nodup_cons.mp nd).1 (e ▸ tt.mem)
      have e : (Value.str a t).isStr x = false := by simp [Value.isStr, hne]
      simp only [putL, e, Bool.false_eq_true, if_false]
      exact .cons r (ih tt (List.nodup_cons.mp nd).2)
theorem RepE.add {fs : List (Str × V)} {es : List DictEntry} (h : RepE fs es) {x : Str} {v : V} {y : Value} {tk : Tok} {hsh : Int} (rv : Rep v y) (hn : x ∉ fs.map (·.1)) : RepE (fs ++ [(x, v)]) (putL x hsh (.str x tk) y es) := by
  induction h with
  | nil => exact .cons rv .nil
  | @cons a b t hs' z fs es r h ih =>
    rw [List.map_cons, List.mem_cons, not_or] at hn
    have e : (Value.str a t).isStr x = false := by simp [Value.isStr, Ne.symm hn.1]
    simp only [putL, e, Bool.false_eq_true, if_false, List.cons_append]
    exact .cons r (ih hn.2)
theorem putL_length (x : Str) (hsh : Int) (k y : Value) : ∀ es : List DictEntry, (putL x hsh k y es).length ≤ es.length + 1
  | [] => Nat.le_refl _
  | e :: r => by
    simp only [putL]
    split
    · simp
    · have := putL_length x hsh k y r; simp; lia

set_option tactic.hygienic true in
theorem osa_exact {prog : Program} {w : World} {A : Around} {R : Result → Shared → Prop} {s : Shared} {K : Frag} {x C d : Addr} {es : List DictEntry} {n : Nat} {name : Str} {tk : Tok} {v : Value}
    (X : K.In s.heap) (hx : s.heap.get? x = some (instObj C d)) (D : s.heap.get? d = some (dictOf es n)) (hp : plainOver K C = true)
    (ht : takerIn K C name = some none) (hh : hasDictIn K C = true) (hl : (getL name es).isSome = true) (hz : es.length ≤ 900)
    (hQ : ∀ m, R (.ok (.ret .none)) { s with heap := s.heap.update d (Obj.putName name (PyData.keyHash w.params name) (.str name s.toks) v), toks := m }) :
    codeAny (model prog w) A (.call (.builtin "object.__setattr__") ⟨[.ref x, .str name tk, v], []⟩) R s := by
  have I : InstAt s.heap x (instObj C d) C (some (dictOf es n)) := ⟨hx, rfl, rfl, D⟩
  refine osa_open X I hp ht fun b => ?_
  obtain ⟨cd, hc, hd'⟩ := any_some hh
  have D' := Heap.get?_update_self (Obj.putName name (PyData.keyHash w.params name) (.str name s.toks) v) D (by rw [putName_dict]; rfl)
  rw [putName_dict] at D'
  refine wpAny_bind (wpAny_pure (wpAny_bind (wpAny_bind (wpAny_loadPart hx (wpAny_bind ((looks_clsIn X hc).here ?_))))))
  rw [hd']
  refine wpAny_pure (a := some d) (wpAny_bind (wpAny_pure (wpAny_bind ?_)))
  unfold nsSet
  refine wpAny_bind (wpAny_bind (wpAny_askSetting (wpAny_pure (wpAny_bind (wpAny_mkText (wpAny_bind (wpAny_loadPart D ?_)))))))
  dsimp only
  have c : (!es.toArray.any (·.key.isStr name) && es.toArray.any (·.refKey)) = false := by
    rw [← Array.any_toList, ← Array.any_toList]
    unfold getL at hl
    split at hl
    · rename_i en he
      rw [List.any_eq_true.mpr ⟨en, List.mem_of_find?_eq_some he, List.find?_some he⟩]; rfl
    · split at hl
      · cases hl
      · rename_i z; rw [Bool.not_eq_true] at z; rw [z, Bool.and_false]
  rw [aRefKeyMayBeTheName_at, c]
  refine wpAny_updatePart D ?_
  refine wpAny_bind (wpAny_lookBehind D' (pastItsLine_dict (by rw [List.size_toArray, sizeLine_eq]; have := putL_length name (PyData.keyHash w.params name) (.str name s.toks) v es; lia)) ?_)
  exact wpAny_pure (hQ _)
theorem set_exact {prog : Program} {w : World} {A : Around} {E : Value → Shared → Prop} {s : Shared} {K : Frag} {x C d : Addr} {es : List DictEntry} {n : Nat} {name : Str} {v : Value} {Q : Unit → Shared → Prop}
    (X : K.In s.heap) (hx : s.heap.get? x = some (instObj C d)) (D : s.heap.get? d = some (dictOf es n)) (hs : findIn K (.ref C) "__setattr__" = some (some (.builtin "object.__setattr__"))) (hp : plainOver K C = true)
    (ht : takerIn K C name = some none) (hh : hasDictIn K C = true) (hl : (getL name es).isSome = true) (hz : es.length ≤ 900)
    (hQ : ∀ m, Q () { s with heap := s.heap.update d (Obj.putName name (PyData.keyHash w.params name) (.str name (s.toks + 1)) v), toks := m }) : wpAny (model prog w) A (setAttr (.ref x) name v) Q E s :=
  set_plain (od := some (dictOf es n)) X ⟨hx, rfl, rfl, D⟩ hs (osa_exact (s := { s with toks := s.toks + 1 }) X hx D hp ht hh hl hz fun m => hQ m)

/-! what the text's classes hold -/
noncomputable def attrB (K : Frag) (C : Addr) (x : Str) : Bool :=
  plainGet K C x && hasDictIn K C && (findIn K (.ref C) x == some none) && plainOver K C && (takerIn K C x == some none) && (findIn K (.ref C) "__setattr__" == some (some (.builtin "object.__setattr__")))
noncomputable def methB (K : Frag) (C : Addr) (x : Str) (f : Addr) : Bool := plainGet K C x && (findIn K (.ref C) x == some (some (.ref f))) && isFn K (.ref f) && keepIn K (.ref f)
noncomputable def clsB (K : Frag) (C f : Addr) : Bool := makesIn K C && (findIn K (.ref C) "__init__" == some (some (.ref f))) && isFn K (.ref f) && keepIn K (.ref C)

noncomputable def keysTbl : List (Addr × List Str) := [
  (252, ["child", "rowid", "size", "local", "overflow"]),
  (397, ["data", "page", "usable", "base"]),
  (626, ["kind", "raws", "right"]),
  (703, ["btree", "root", "state", "path", "key", "cell", "octets", "stamp"]),
  (764, ["page_size", "pages", "spare"]),
  (820, ["pager", "changes"])]
noncomputable abbrev mt (C : Addr) (x : Str) (f : Addr) : Addr × Str × Addr := (C, x, f)
noncomputable def methTbl : List (Addr × Str × Addr) := [
  mt 397 "kind" 284, mt 397 "count" 305, mt 397 "pointers" 312, mt 397 "right" 333, mt 397 "place" 347, mt 397 "cell" 354, mt 397 "rowid" 373, mt 397 "child" 380,
  mt 703 "changes" 429, mt 703 "descend_first" 436, mt 703 "descend_last" 443, mt 703 "forward" 450, mt 703 "backward" 457, mt 703 "place_in" 464, mt 703 "find" 471, mt 703 "arrive" 478, mt 703 "settle" 485,
  mt 703 "first" 492, mt 703 "last" 499, mt 703 "next" 506, mt 703 "previous" 513, mt 703 "seek_ge" 520, mt 703 "seek_gt" 527, mt 703 "seek_lt" 534, mt 703 "seek_le" 541, mt 703 "seek" 548, mt 703 "valid" 555,
  mt 703 "ask" 562, mt 703 "record" 569, mt 703 "cell_sign" 665, mt 703 "take_key" 672, mt 703 "key_compare" 679, mt 703 "rowid" 686, mt 703 "value" 693,
  mt 764 "read_page" 733, mt 764 "write_page" 740, mt 764 "extend" 747, mt 820 "touch" 810, mt 820 "payload" 817]
noncomputable def clsTbl : List (Addr × Addr) := [(252, 235), (397, 277), (626, 616), (703, 422), (764, 719), (820, 803)]
noncomputable def fnTbl : List Addr := [101, 108, 115, 122, 129, 150, 158, 165, 172, 179, 186, 193, 200, 207, 214, 221, 263, 408, 583, 588, 595, 602, 637, 644, 651, 831, 838, 845, 850, 855, 860, 867, 874, 881, 888]
theorem keys_ok (P : Params) : (keysTbl.all fun (C, ks) => ks.all fun x => attrB (hd.heap_39 P) C x) = true := by kernel_rfl!
theorem meth_ok (P : Params) : (methTbl.all fun (C, x, f) => methB (hd.heap_39 P) C x f && keysTbl.all fun (C', ks) => C' != C || !ks.contains x) = true := by kernel_rfl!
theorem cls_ok (P : Params) : (clsTbl.all fun (C, f) => clsB (hd.heap_39 P) C f) = true := by kernel_rfl!
theorem fn_ok (P : Params) : (fnTbl.all fun f => keepIn (hd.heap_39 P) (.ref f)) = true := by kernel_rfl!

/-! a class is called -/
section
variable {prog : Program} {w : World} {A : Around} {E : Value → Shared → Prop} {s : Shared} {R : Result → Shared → Prop}
theorem codeX_call_builtin_at {id : String} {args : Args} {b : Builtin} (hq : (Code.builtin id args).quiet = true) (hd : holdsIds.contains id = false) (hb : entryFor table id = some b)
    (h : wpX (model prog w) A.in1 (checkBuiltinCall id args) (fun _ s₁ => wpX (model prog w) (A.under (.builtin id args)) (b args)
      (fun fin s' => match fin with | .done f => R (.ok f) s' | .again c' => c'.quiet = true ∧ decB c' = false ∧ codeX (model prog w) A c' R s') (fun e s' => R (.error e) s') s₁)
      (fun e s' => R (.error e) s') s) : codeX (model prog w) A (.call (.builtin id) args) R s := by
  refine codeX_of_tree ?_
  show wpX _ A.in1 (do checkBuiltinCall id args; again (.builtin id args)) _ _ s
  refine wpX_bind (wpX_mono h (fun _ s₁ h₁ => wpX_pure (And.intro hq ⟨hd, codeX_of_tree ?_⟩)) fun _ _ h' => h')
  show wpX _ _ (match entryFor table id with | some b => b args | none => unsupported ((withoutEnding? id "#data").getD id)) _ _ s₁
  rw [hb]; exact h₁
theorem Looks.hereX {α : Type} {M : Model} {t : Sem α} {r : α} {Q : α → Shared → Prop} {h : Heap} {g d tk os} (x : Looks M h t r) (q : Q r ⟨h, g, d, tk, os⟩) : wpX M A t Q E ⟨h, g, d, tk, os⟩ := .of (x.at q)
end

section
variable {prog : Program} {w : World} {A : Around} {K : Frag} {C : Addr} {R : Result → Shared → Prop} {h : Heap} {g : Array GenState} {d : Drawn} {t : Nat} {os : OsState}
theorem make_coreX {rest : List Value} {init : Value} (Y : Makes (model prog w) h C) (hi : Looks (model prog w) h (typeLookup (.ref C) "__init__") (some init))
    (hb : ∀ self, Looks (model prog w) h (bindSpecial init self) (init, [self])) (hne : (some init != some (Value.builtin "object.__init__")) = true)
    (hq : codeX (model prog w) (A.under (.builtin "type.__call__" ⟨.ref C :: rest, []⟩)) (.call init ⟨.ref (h.objs.size + 1) :: rest, []⟩) (InitBack (h.objs.size + 1) R) ⟨(h.push emptyDict).push (instObj C h.objs.size), g, d, t, os⟩) :
    codeX (model prog w) A (.call (.ref C) ⟨rest, []⟩) R ⟨h, g, d, t, os⟩ := by
  have Y' := Y
  obtain ⟨⟨oc, od, cd, sl, hC, e1, e2, e4⟩, made, base, self, top, call, typ⟩ := Y
  refine codeX_of_tree ?_
  show wpX _ _ (callAny (.ref C) _) _ _ _
  simp only [callAny]
  refine wpX_bind (.of (wpAny_load hC ?_))
  show wpX _ _ (callAny.viaDunder (.ref C) _) _ _ _
  unfold callAny.viaDunder
  refine wpX_bind (Looks.hereX call ?_)
  dsimp only
  rw [tc_bind]
  refine wpX_bind (wpX_pure (wpX_bind (wpX_pure ?_)))
  refine wpX_pure (a := Fin.again (.call (.builtin "type.__call__") ⟨.ref C :: rest, []⟩)) (And.intro rfl ⟨rfl, ?_⟩)
  have hq2 : (Code.builtin "type.__call__" ⟨.ref C :: rest, []⟩).quiet = true := Code.quiet_builtin _ (by decide +kernel)
  have hd2 : holdsIds.contains "type.__call__" = false := by decide +kernel
  with_reducible refine codeX_call_builtin_at hq2 hd2 entry_typeCall ?_
  with_reducible refine wpX.of ?_
  with_reducible refine check_slot tc_kind tc_split typ (tc_args _ _ _) ?_
  unfold Builtin.«type.__call__»
  have hm : Looks (model prog w) h (mroOf (.ref C)) cd.mro := ((Looks.ld (part := none) hC).andThen .now).andThen .now
  refine wpX_bind (Looks.hereX hm ?_)
  rw [e4]
  refine wpX_bind (Looks.hereX made ?_)
  refine wpX_bind (wpX_pure (wpX_bind (wpX_holding (.of (wpAny_call (new_K Y' hi (.inl hne) ?_))))))
  have k : ∀ b o, h.get? b = some o → ((h.push emptyDict).push (instObj C h.objs.size)).get? b = some o := fun b o e => Heap.get?_push_of_some _ (Heap.get?_push_of_some _ e)
  have hx : ((h.push emptyDict).push (instObj C h.objs.size)).get? (h.objs.size + 1) = some (instObj C h.objs.size) := by heap_get
  have t1 : Looks (model prog w) ((h.push emptyDict).push (instObj C h.objs.size)) (typeOf (.ref (h.objs.size + 1))) (.ref C) := (Looks.ld hx).andThen .now
  have s1 := self.keeps k
  have i1 := hi.keeps k
  have b1 := (hb (.ref (h.objs.size + 1))).keeps k
  unfold isInstance callSpecial? specialOf
  refine wpX_bind (Looks.hereX (t1.andThen s1) ?_)
  dsimp only
  refine wpX_bind (wpX_holding (wpX_bind (Looks.hereX (t1.andThen i1) ?_)))
  refine wpX_holding (wpX_bind (Looks.hereX b1 (wpX_bind (wpX_call (codeX_mono hq fun r s' z => ?_)))))
  rcases r with e | (v | _ | _ | _) <;> first | exact z | exact z.elim | skip
  obtain ⟨rfl, z⟩ := z
  exact wpX_pure (wpX_pure z)
end

/-! the rules -/
section
variable {u : U} {n : Nat} {f : Fm} {l : Led} {ℓ : Loc} {P : V → Led → Prop} {B : Bool → Led → Prop}

theorem RS.K {s : Shared} (r : RS u f l ℓ s) (hu : u.Ok) (hf : f.Ok u n) : u.K.In s.heap := by
  obtain ⟨m, F, _⟩ := r.fr
  exact fun b o e => F.keep _ _ (hf.keep _ _ (hu.X b o e))
theorem RS.inst {s : Shared} (r : RS u f l ℓ s) {a C d : Addr} {fs : List (Str × V)} (hi : (a, O.inst C d) ∈ l) (hd : (d, O.ns fs) ∈ l) :
    ∃ es n, InstAt s.heap a (instObj C d) C (some (dictOf es n)) ∧ RepE fs es ∧ (fs.map (·.1)).Nodup := by
  refine elX2_3 ?_ ((r.led _ hd).1); rintro es n hD re nd
  exact ⟨es, n, ⟨(r.led _ hi).1, rfl, rfl, hD⟩, re, nd⟩

theorem attr_of {P : Params} {C : Addr} {ks : List Str} {x : Str} (hk : (C, ks) ∈ keysTbl) (hx : x ∈ ks) : attrB (hd.heap_39 P) C x = true :=
  List.all_eq_true.mp (List.all_eq_true.mp (keys_ok P) _ hk) _ hx

noncomputable def V.plain : V → Bool
  | .bi _ => false
  | _ => true
theorem V.handed {v : V} (h : v.plain = true) (t : Tok) : handedIn (v.at t) = true := by cases v <;> first | rfl | cases h

theorem Get_own {a d C : Addr} {fs : List (Str × V)} {ks : List Str} {name : Str} {v : V} (hi : (a, O.inst C d) ∈ l) (hd : (d, O.ns fs) ∈ l) (hm : (name, v) ∈ fs) (hks : (C, ks) ∈ keysTbl) (hn : name ∈ ks)
    (hv : v.plain = true) (h : P v l) : GetV u n f l ℓ (.ref a) name P := by
  rintro x ⟨t, rfl⟩
  refine .of fun hu hf s r => ?_
  refine elX2_3 ?_ (r.inst hi hd); rintro es nn I re nd
  have q := attr_of (P := u.w.params) hks hn
  unfold attrB at q
  simp only [Bool.and_eq_true, beq_iff_eq] at q
  obtain ⟨⟨⟨⟨⟨q1, q2⟩, q3⟩, q4⟩, q5⟩, q6⟩ := q
  obtain ⟨y, hy, rv⟩ := re.get nd hm
  obtain ⟨tk, rfl⟩ := rv
  refine get_value (r.K hu hf) I (plainGet_of q1).1 (findObj_own (attr := none) q2 q3 rfl (by rw [lookIn_dict]; exact hy)) (V.handed hv tk) ?_
  exact ⟨l, ℓ, r.toks, ⟨rfl, rfl, rfl⟩, v, ⟨tk, rfl⟩, rfl, h⟩

theorem Set_old {a d C : Addr} {fs fs' : List (Str × V)} {ks : List Str} {name : Str} {v : V} {l' : Led} {R : Led → Prop} (hi : (a, O.inst C d) ∈ l) (hd : Turn d (.ns fs) (.ns fs') l l') (hp : FPut name v fs fs')
    (hks : (C, ks) ∈ keysTbl) (hn : name ∈ ks) (hz : Nat.ble fs.length 900 = true) (h : R l') : SetV u n f l ℓ (.ref a) name v R := by
  rintro x y ⟨t, rfl⟩ rv
  refine .of fun hu hf s r => ?_
  refine elX2_3 ?_ ((r.led _ hd.mem).1); rintro es nn hD re nd
  have q := attr_of (P := u.w.params) hks hn
  unfold attrB at q
  simp only [Bool.and_eq_true, beq_iff_eq] at q
  obtain ⟨⟨⟨⟨⟨q1, q2⟩, q3⟩, q4⟩, q5⟩, q6⟩ := q
  have hw : (getL name es).isSome = true := by
    obtain ⟨p, hp', e⟩ := List.mem_map.mp hp.mem
    obtain ⟨y', hy, _⟩ := re.get nd (x := name) (v := p.2) (by rw [← e]; exact hp')
    rw [hy]; rfl
  refine set_exact (r.K hu hf) (r.led _ hi).1 hD q6 q4 q5 q2 hw (by rw [re.length]; exact Nat.le_of_ble_eq_true hz) fun m => ?_
  have e := (Heap.get?_update_self (Obj.putName name (PyData.keyHash u.w.params name) (.str name (s.toks + 1)) y) hD (by rw [putName_dict]; rfl)).trans (congrArg some (putName_dict ..))
  exact ⟨l', ℓ, r.turn (s' := { s with heap := s.heap.update d (Obj.putName name (PyData.keyHash u.w.params name) (.str name (s.toks + 1)) y), toks := m }) hd (Heap.SameBut.update ..) ⟨_, _, e, re.put rv hp nd, by rw [hp.keys]; exact nd⟩, ⟨rfl, rfl, rfl⟩, rfl, h⟩

theorem Set_new {a d C : Addr} {fs : List (Str × V)} {ks more : List Str} {name : Str} {v : V} {l' : Led} {R : Led → Prop} (hi : (a, O.inst C d) ∈ l) (hd : Turn d (.ns fs) (.ns (fs ++ [(name, v)])) l l')
    (hks : (C, ks) ∈ keysTbl) (he : fs.map (·.1) ++ name :: more = ks) (hndk : ks.Nodup) (hz : Nat.ble fs.length 900 = true) (h : R l') : SetV u n f l ℓ (.ref a) name v R := by
  rintro x y ⟨t, rfl⟩ rv
  refine .of fun hu hf s r => ?_
  refine elX2_3 ?_ ((r.led _ hd.mem).1); rintro es nn hD re nd
  have q := attr_of (P := u.w.params) hks (x := name) (by rw [← he]; simp)
  unfold attrB at q
  simp only [Bool.and_eq_true, beq_iff_eq] at q
  obtain ⟨⟨⟨⟨⟨q1, q2⟩, q3⟩, q4⟩, q5⟩, q6⟩ := q
  rw [← he] at hndk
  have hno : name ∉ fs.map (·.1) := fun hm => (List.nodup_append.mp hndk).2.2 _ hm _ (.head _) rfl
  refine set_exact (r.K hu hf) (r.led _ hi).1 hD q6 q4 q5 q2 (by rw [re.get_none hno]; rfl) (by rw [re.length]; exact Nat.le_of_ble_eq_true hz) fun m => ?_
  have e := (Heap.get?_update_self (Obj.putName name (PyData.keyHash u.w.params name) (.str name (s.toks + 1)) y) hD (by rw [putName_dict]; rfl)).trans (congrArg some (putName_dict ..))
  have nd' : ((fs ++ [(name, v)]).map (·.1)).Nodup := by
    rw [List.map_append]
    refine List.Nodup.sublist ?_ hndk
    exact List.Sublist.append (.refl _) (List.Sublist.cons₂ _ (List.nil_sublist _))
  exact ⟨l', ℓ, r.turn (s' := { s with heap := s.heap.update d (Obj.putName name (PyData.keyHash u.w.params name) (.str name (s.toks + 1)) y), toks := m }) hd (Heap.SameBut.update ..) ⟨_, _, e, re.add rv hno, nd'⟩, ⟨rfl, rfl, rfl⟩, rfl, h⟩
theorem keys_nodup : ∀ p ∈ keysTbl, p.2.Nodup := by
  intro p hp
  have e : (keysTbl.all fun p => decide p.2.Nodup) = true := by kernel_rfl
  exact of_decide_eq_true (List.all_eq_true.mp e p hp)

/-! calls -/
noncomputable def MethV (u : U) (n : Nat) (f : Fm) (l : Led) (ℓ : Loc) (a : V) (name : Str) (P : V → List V → Led → Prop) : Prop :=
  ∀ x pl, Rep a x → W u n f l ℓ (getMethod x name pl) (fun fx l' ℓ' => ∃ fn vs, Rep fn fx.1 ∧ Reps vs fx.2 ∧ ℓ' = ℓ ∧ P fn vs l')
noncomputable def keepVB : V → Bool
  | .ref a => fnTbl.contains a || methTbl.any (fun m => m.2.2 == a) || clsTbl.any (·.1 == a)
  | .bi _ => true
  | .ty _ => true
  | _ => false
theorem keepV_ok {u : U} {v : V} (h : keepVB v = true) {x : Value} (rv : Rep v x) (hp : Heap) (X : u.K.In hp) : ∃ k, (k = Keeper.frame ∨ k = Keeper.machine) ∧ Looks u.M hp (keeperOf x) k := by
  obtain ⟨t, rfl⟩ := rv
  cases v with
  | ref a =>
    refine looks_keep (K := u.K) ?_ X
    simp only [keepVB, Bool.or_eq_true, List.contains_iff_mem, List.any_eq_true, beq_iff_eq] at h
    rcases h with (h | ⟨m, hm, rfl⟩) | ⟨m, hm, rfl⟩
    · exact List.all_eq_true.mp (fn_ok u.w.params) _ h
    · have := List.all_eq_true.mp (meth_ok u.w.params) _ hm
      obtain ⟨C, x, f⟩ := m
      simp only [methB, Bool.and_eq_true] at this
      exact this.1.2
    · have := List.all_eq_true.mp (cls_ok u.w.params) _ hm
      obtain ⟨C, f⟩ := m
      simp only [clsB, Bool.and_eq_true] at this
      exact this.2
  | bi id => exact ⟨.machine, .inr rfl, Looks.of_pure rfl⟩
  | ty id => exact ⟨.machine, .inr rfl, Looks.of_pure rfl⟩
  | _ => cases h

theorem Meth_inst {a d C g : Addr} {fs : List (Str × V)} {ks more : List Str} {name : Str} {Q : V → List V → Led → Prop} (hi : (a, O.inst C d) ∈ l) (hd : (d, O.ns fs) ∈ l) (hm : (C, name, g) ∈ methTbl)
    (hks : (C, ks) ∈ keysTbl) (he : fs.map (·.1) ++ more = ks) (h : Q (.ref g) [.ref a] l) : MethV u n f l ℓ (.ref a) name Q := by
  rintro x pl ⟨t, rfl⟩
  refine .of fun hu hf s r => ?_
  refine elX2_3 ?_ (r.inst hi hd); rintro es nn I re nd
  have q := List.all_eq_true.mp (meth_ok u.w.params) _ hm
  simp only [methB, Bool.and_eq_true, beq_iff_eq] at q
  obtain ⟨⟨⟨⟨q1, q2⟩, q3⟩, q4⟩, q5⟩ := q
  have hno : name ∉ fs.map (·.1) := fun hx => by
    have z := List.all_eq_true.mp q5 _ hks
    simp only [bne_self_eq_false, Bool.false_or, Bool.not_eq_true', List.contains_eq_mem, decide_eq_false_iff_not] at z
    exact z (by rw [← he]; exact List.mem_append_left _ hx)
  refine method_fn (r.K hu hf) I (plainGet_of q1).1 (plainGet_of q1).2 q2 (beq_iff_eq.mp q3) (by show (lookIn name (dictOf es nn)).map _ = _; rw [lookIn_dict, re.get_none hno]; rfl) ?_
  exact ⟨l, ℓ, r, .refl s, .ref g, [.ref a], Rep.mk (v := .ref g) 0, .cons (Rep.mk (v := .ref a) 0) .nil, rfl, h⟩

theorem W.cw {v : V} {fv : Value} {first : List Value} {es : List Expr} {pos : Pos} {Q : Value → Led → Loc → Prop} (hk : keepVB v = true) (rv : Rep v fv)
    (h : Evs u n f l ℓ es fun vs l₁ => ∀ xs, Reps vs xs → W u n f l₁ ℓ (call fv (first ++ xs)) Q)
    (he : ∀ e rest, es = e :: rest → starEach (e :: rest) f.env = (false, eval e f.env) :: starEach rest f.env) (hp : (backTo pos (starEach es f.env)).any (·.1) = false) :
    W u n f l ℓ (callWith pos fv first (backTo pos (starEach es f.env)) []) Q := by
  have ha : W u n f l ℓ (evalArgs fv true (backTo pos (starEach es f.env)) []) fun a l' ℓ' => ∃ vs, Reps vs a.pos ∧ a.kw = [] ∧ ℓ' = ℓ ∧ ∀ xs, Reps vs xs → W u n f l' ℓ (call fv (first ++ xs)) Q := by
    have hs := h pos
    cases es with
    | nil =>
      unfold evalArgs
      show W u n f l ℓ (spliced (backTo pos (starEach [] f.env)) >>= _) _
      refine W.bind (W.mono hs ?_)
      rintro xs l₁ ℓ₁; refine elX1_3 ?_; rintro vs rvs rfl h₁
      refine W.bind (W.pure (W.holding ?_))
      exact W.bind (W.pure (W.bind (W.pure (W.pure ⟨vs, rvs, rfl, rfl, h₁⟩))))
    | cons e rest =>
      rw [he e rest rfl] at hs ⊢
      unfold evalArgs
      show W u n f l ℓ (spliced (backTo pos ((false, eval e f.env) :: starEach rest f.env)) >>= _) _
      refine W.bind (W.mono hs ?_)
      rintro xs l₁ ℓ₁; refine elX1_3 ?_; rintro vs rvs rfl h₁
      refine W.bind (W.pure (W.holding ?_))
      exact W.bind (W.pure (W.bind (W.pure (W.pure ⟨vs, rvs, rfl, rfl, h₁⟩))))
  unfold PySem.callWith
  refine W.bind (W.holding (W.mono ha ?_))
  rintro a l₁ ℓ₁; refine elX1_4 ?_; rintro vs rvs ekw rfl h₁
  refine W.bind (W.standAt ?_)
  have hc : W u n f l₁ ℓ₁ (call fv (first ++ a.pos) a.kw) Q := by rw [ekw]; exact h₁ _ rvs
  simp only [hp, List.any_nil, Bool.or_false]
  refine W.bind (m := keeperOf fv) (.of fun hu hf s r => ?_)
  obtain ⟨k, hk', L⟩ := keepV_ok (u := u) hk rv _ (r.K hu hf)
  refine L.here ⟨l₁, ℓ₁, r, .refl s, ?_⟩
  have tail : ∀ {t : Sem Value}, W u n f l₁ ℓ₁ t Q → W u n f l₁ ℓ₁ (t >>= fun r => PySem.holding [r] PySem.point >>= fun _ => Pure.pure r) Q :=
    fun ht => W.bind (W.mono ht fun r l₂ ℓ₂ hr => W.bind (W.holding (W.point (W.pure hr))))
  have marked (mk : Value) : W u n f l₁ ℓ₁ (callMarked mk fv (first ++ a.pos) a.kw) Q := by unfold callMarked; exact W.keep hc
  rcases hk' with rfl | rfl <;> dsimp only <;> first | exact tail hc | (split <;> first | exact tail hc | exact tail (marked _))

noncomputable def noStarB : Expr → Bool
  | .Starred .. => false
  | _ => true
theorem starEach_ns {e : Expr} {rest : List Expr} {env : Env} (h : noStarB e = true) : starEach (e :: rest) env = (false, eval e env) :: starEach rest env :=
  starEach_cons fun x p he => by rw [he] at h; cases h
theorem starEach_any {env : Env} {pos : Pos} : ∀ {es : List Expr}, es.all noStarB = true → (backTo pos (starEach es env)).any (·.1) = false
  | [], _ => rfl
  | e :: rest, h => by
    simp only [List.all_cons, Bool.and_eq_true] at h
    rw [starEach_ns h.1]
    show (false || (backTo pos (starEach rest env)).any (·.1)) = false
    rw [starEach_any h.2]; rfl
theorem W.call_ {v : V} {fv : Value} {first : List Value} {fvs : List V} {es : List Expr} {pos : Pos} (hk : keepVB v = true) (rv : Rep v fv) (rf : Reps fvs first) (hs : es.all noStarB = true)
    (h : Evs u n f l ℓ es fun vs l₁ => CallV u n f l₁ ℓ v (fvs ++ vs) P) : W u n f l ℓ (callWith pos fv first (backTo pos (starEach es f.env)) []) (EvP ℓ P) :=
  W.cw hk rv (fun pos => W.mono (h pos) fun _ _ _ ⟨vs, a, b, c⟩ => ⟨vs, a, b, fun xs hx => c fv _ rv (rf.append hx)⟩)
    (fun e rest e' => starEach_ns (by subst e'; simp only [List.all_cons, Bool.and_eq_true] at hs; exact hs.1)) (starEach_any hs)

theorem Ev_Call {x : Str} {p pos : Pos} {args : List Expr} (h : Ev u n f l ℓ (.Name x p) fun v l₁ => keepVB v = true ∧ Evs u n f l₁ ℓ args fun vs l₂ => CallV u n f l₂ ℓ v vs P)
    (hs : args.all noStarB = true) : Ev u n f l ℓ (.Call (.Name x p) args [] pos) P := by
  refine W.eq (arm_eval_Call_Name' ..) (W.bind (W.mono h ?_))
  rintro fv l₁ ℓ₁; refine elX1_4 ?_; rintro v rv rfl hk h₁
  exact W.call_ hk rv .nil hs h₁
theorem Ev_Meth {o : Expr} {name : Str} {apos pos : Pos} {args : List Expr} (h : Ev u n f l ℓ o fun vo l₁ => MethV u n f l₁ ℓ vo name fun fn first l₂ => keepVB fn = true ∧ Evs u n f l₂ ℓ args fun vs l₃ => CallV u n f l₃ ℓ fn (first ++ vs) P)
    (hb : attributeBase o name f.env (eval o f.env) = eval o f.env) (hl : args.length < 20) (hline : (apos.endLine == pos.line) = true) (hs : args.all noStarB = true) :
    Ev u n f l ℓ (.Call (.Attribute o name apos) args [] pos) P := by
  refine W.eq (arm_eval_Call ..) ?_
  rw [hb]
  refine W.bind (W.mono h ?_)
  rintro ov l₁ ℓ₁; refine elX1_3 ?_; rintro vo ro rfl h₁
  refine W.bind (W.standAt ?_)
  have hform : methodCallForm (args.length + ([] : List Keyword).length) (backTo pos (starEach args f.env)) (backToKw pos (keywordEach [] f.env)) = true := by
    have e := starEach_any (env := f.env) (pos := pos) hs
    have e' : (backTo pos (starEach args f.env)).all (fun x => !x.1) = true := by
      rw [← Bool.not_eq_true', ← List.not_any_eq_all_not] at *
      simpa using e
    unfold methodCallForm
    rw [e']
    show (true && true && decide (args.length + 0 + 0 < 30)) = true
    simp only [Bool.true_and, decide_eq_true_eq]; lia
  unfold methodCall
  rw [hform]
  show W u n f l₁ ℓ₁ (do
    let (fn, first) ← holding [ov] (getMethod ov name (do return (← importBound o f.env).getD true))
    let callPos ← methodCallPos true o f.env apos pos
    callWith callPos fn first (backTo pos (starEach args f.env)) (backToKw pos (keywordEach [] f.env))) _
  refine W.bind (W.holding (W.mono (h₁ ov _ ro) ?_))
  rintro ⟨fv, first⟩ l₂ ℓ₂ ⟨fn, fvs, rfn, rfvs, rfl, hk, h₂⟩
  have hpos : methodCallPos true o f.env apos pos = Pure.pure pos := by unfold methodCallPos; simp [hline]
  refine W.bind (W.eq hpos (W.pure ?_))
  exact W.call_ hk rfn rfvs hs h₂
end

/-! a class is called: its contract out of __init__'s -/
theorem under_tc {A : Around} {C : Addr} {rest : List Value} {k : Nat} (h : Rm (k + 1) A) : Rm k (A.under (.builtin "type.__call__" ⟨.ref C :: rest, []⟩)) := by
  obtain ⟨h1, h2, h3⟩ := h
  have w0 : (Code.builtin "type.__call__" ⟨.ref C :: rest, []⟩).weight = 1 := by kernel_rfl
  have c0 : (Code.builtin "type.__call__" ⟨.ref C :: rest, []⟩).cUnits = 1 := by kernel_rfl
  refine ⟨?_, ?_, h3⟩
  · show A.depth + (Code.builtin "type.__call__" ⟨.ref C :: rest, []⟩).weight + k ≤ 900
    rw [w0]; lia
  · show A.units + (Code.builtin "type.__call__" ⟨.ref C :: rest, []⟩).cUnits + 16 * k ≤ 9000
    rw [c0]; lia
theorem Spec_cls {k : Nat} {C fI : Addr} {args : List V} {pre : Led} {post : V → Led → Prop} (hc : (C, fI) ∈ clsTbl)
    (h : ∀ a d, Spec k (.ref fI) (.ref a :: args) ((a, .inst C d) :: (d, .ns []) :: pre) (fun v l' => v = .none ∧ post (.ref a) l')) : Spec (k + 1) (.ref C) args pre post := by
  rintro u A s x xs hu hroom ⟨_, rfl⟩ hr kb pk
  have X : u.K.In s.heap := hu.X.keeps kb
  have q := List.all_eq_true.mp (cls_ok u.w.params) _ hc
  simp only [clsB, Bool.and_eq_true, beq_iff_eq] at q
  obtain ⟨⟨⟨q1, q2⟩, q3⟩, q4⟩ := q
  obtain ⟨hh, g, dr, t, os⟩ := s
  have k2 : ∀ b o, hh.get? b = some o → ((hh.push emptyDict).push (instObj C hh.objs.size)).get? b = some o := fun b o e => Heap.get?_push_of_some _ (Heap.get?_push_of_some _ e)
  have hx : ((hh.push emptyDict).push (instObj C hh.objs.size)).get? (hh.objs.size + 1) = some (instObj C hh.objs.size) := by heap_get
  have hd' : ((hh.push emptyDict).push (instObj C hh.objs.size)).get? hh.objs.size = some emptyDict := by heap_get
  have new : ∀ b, hh.objs.size ≤ b → hh.get? b = none := fun b hb => by
    cases e : hh.get? b with
    | none => rfl
    | some o => exact absurd (Heap.lt_size e) (Nat.not_lt.mpr hb)
  have nb : ∀ b, hh.objs.size ≤ b → u.base.get? b = none := fun b hb => by
    cases e : u.base.get? b with
    | none => rfl
    | some o => have := kb _ _ e; rw [new b hb] at this; cases this
  have old : ∀ p ∈ pre, p.1 < hh.objs.size := fun p hp => by
    obtain ⟨ob, ho⟩ := (pk.led p hp).1.there
    exact Heap.lt_size ho
  refine make_coreX (makes_of X q1) (looks_findIn X q2) (fun self => bind_fn X self (beq_iff_eq.mp q3)) (by rfl) ?_
  refine codeX_mono (h (hh.objs.size + 1) hh.objs.size u _ ⟨_, g, dr, t, os⟩ (.ref fI) _ hu (under_tc hroom) (Rep.mk (v := .ref fI) 0) (.cons (Rep.mk (v := .ref (hh.objs.size + 1)) 0) hr) (fun b o e => k2 _ _ (kb _ _ e)) ⟨?_, ?_⟩) ?_
  · simp only [List.map_cons, List.nodup_cons, List.mem_cons, not_or]
    refine ⟨⟨Nat.succ_ne_self _, fun hm => ?_⟩, fun hm => ?_, pk.nodup⟩
    · obtain ⟨p, hp, e⟩ := List.mem_map.mp hm; have h' := old p hp; rw [e] at h'; exact absurd h' (Nat.not_lt.mpr (Nat.le_succ _))
    · obtain ⟨p, hp, e⟩ := List.mem_map.mp hm; have h' := old p hp; rw [e] at h'; exact absurd h' (Nat.lt_irrefl _)
  · intro p hp
    rcases List.mem_cons.mp hp with rfl | hp
    · exact ⟨hx, nb _ (Nat.le_succ _)⟩
    rcases List.mem_cons.mp hp with rfl | hp
    · exact ⟨⟨[], 0, hd', .nil, List.nodup_nil⟩, nb _ (Nat.le_refl _)⟩
    · exact ⟨(pk.led p hp).1.congr (k2 _), (pk.led p hp).2⟩
  · rintro (e | (y | _ | _ | _)) s' z <;> first | exact z.elim | skip
    refine elX2_3 ?_ z; clear z; rintro v l' ⟨tk, rv⟩ ⟨rfl, hp⟩ a
    refine ⟨rv, .ref (hh.objs.size + 1), l', Rep.mk (v := .ref (hh.objs.size + 1)) 0, hp, a.nodup, fun p hp' => ⟨(a.led p hp').1, ?_⟩, fun b o e hm => ?_, a.same⟩
    · rcases (a.led p hp').2 with h | h
      · simp only [List.map_cons, List.mem_cons] at h
        rcases h with h | h | h
        · exact .inr (by rw [h]; exact new _ (Nat.le_succ _))
        · exact .inr (by rw [h]; exact new _ (Nat.le_refl _))
        · exact .inl h
      · refine .inr ?_
        show hh.get? p.1 = none
        cases e : hh.get? p.1 with
        | none => rfl
        | some o => have := k2 _ _ e; rw [show ((hh.push emptyDict).push (instObj C hh.objs.size)).get? p.1 = none from h] at this; cases this
    · have hb := Heap.lt_size e
      refine a.kept _ _ (k2 _ _ e) ?_
      simp only [List.map_cons, List.mem_cons, not_or]
      have hb : b < hh.objs.size := hb
      exact ⟨Nat.ne_of_lt (Nat.lt_succ_of_lt hb), Nat.ne_of_lt hb, hm⟩

/-! bytearrays -/
namespace Ba
theorem slot_getitem : Slot "bytearray" "__getitem__" "bytearray.__getitem__" :=
  .of (owner := "bytearray") (n := "__getitem__") (by rw [typeLookup_type, builtinLookup_eq_fast]; kernel_rfl) (by decide +kernel) (by decide +kernel) (by decide +kernel)
    (by first | exact .inl (by decide +kernel) | exact .inr (by decide +kernel)) (by rw [isSubtype_type]; kernel_rfl)
theorem slot_setitem : Slot "bytearray" "__setitem__" "bytearray.__setitem__" :=
  .of (owner := "bytearray") (n := "__setitem__") (by rw [typeLookup_type, builtinLookup_eq_fast]; kernel_rfl) (by decide +kernel) (by decide +kernel) (by decide +kernel)
    (by first | exact .inl (by decide +kernel) | exact .inr (by decide +kernel)) (by rw [isSubtype_type]; kernel_rfl)
theorem slot_len : Slot "bytearray" "__len__" "bytearray.__len__" :=
  .of (owner := "bytearray") (n := "__len__") (by rw [typeLookup_type, builtinLookup_eq_fast]; kernel_rfl) (by decide +kernel) (by decide +kernel) (by decide +kernel)
    (by first | exact .inl (by decide +kernel) | exact .inr (by decide +kernel)) (by rw [isSubtype_type]; kernel_rfl)
theorem slot_init : Slot "bytearray" "__init__" "bytearray.__init__" :=
  .of (owner := "bytearray") (n := "__init__") (by rw [typeLookup_type, builtinLookup_eq_fast]; kernel_rfl) (by decide +kernel) (by decide +kernel) (by decide +kernel)
    (by first | exact .inl (by decide +kernel) | exact .inr (by decide +kernel)) (by rw [isSubtype_type]; kernel_rfl)
theorem entry_getitem : entryFor table "bytearray.__getitem__" = some Builtin.«bytearray.__getitem__» := entryFor_of_tree (by kernel_rfl)
theorem entry_setitem : entryFor table "bytearray.__setitem__" = some Builtin.«bytearray.__setitem__» := entryFor_of_tree (by kernel_rfl)
theorem entry_len : entryFor table "bytearray.__len__" = some Builtin.«bytearray.__len__» := entryFor_of_tree (by kernel_rfl)
theorem entry_init : entryFor table "bytearray.__init__" = some Builtin.«bytearray.__init__» := entryFor_of_tree (by kernel_rfl)
theorem entry_new : entryFor table "bytearray.__new__" = some Builtin.«list.__new__» := entryFor_alias (id' := "list.__new__") (by rw [fastTable_eq_tree]; kernel_rfl) rfl (by decide +kernel) (by rw [fastTable_eq_tree]; kernel_rfl)
theorem args_getitem (a b : Value) : argsOk "bytearray.__getitem__" ⟨[a, b], []⟩ := by unfold argsOk; kernel_rfl
theorem args_setitem (a b c : Value) : argsOk "bytearray.__setitem__" ⟨[a, b, c], []⟩ := by unfold argsOk; kernel_rfl
theorem args_len (a : Value) : argsOk "bytearray.__len__" ⟨[a], []⟩ := by unfold argsOk; kernel_rfl
theorem args_init (a b : Value) : argsOk "bytearray.__init__" ⟨[a, b], []⟩ := by unfold argsOk; kernel_rfl
theorem mro : mroOf (.type "bytearray") = pure [.type "bytearray", .type "object"] := by rw [mroOf_type]; kernel_rfl
theorem lookup_new : typeLookup (.type "bytearray") "__new__" = pure (some (.builtin "bytearray.__new__")) := by rw [typeLookup_type, builtinLookup_eq_fast]; kernel_rfl
theorem called : TypeCalled "bytearray" "bytearray.__new__" "bytearray.__init__" :=
  ⟨by decide +kernel, by decide +kernel, ⟨_, _, mro⟩, madeBy_type mro lookup_new (by decide +kernel), by decide +kernel, by rw [isSubtype_type]; kernel_rfl, slot_init⟩
theorem typeCall (a : Value) : checkTypeCall "bytearray" ⟨[a], []⟩ = pure () := by kernel_rfl
theorem newCall (a : Value) : checkBuiltinCall "bytearray.__new__" ⟨[.type "bytearray", a], []⟩ = pure () := by kernel_rfl
set_option maxRecDepth 1000000 in
set_option maxHeartbeats 4000000 in
theorem owner_new : ("bytearray.__new__".splitOn ".__new__").headD "" = "bytearray" := by simp +decide [String.splitOn, String.splitOnAux]
theorem look_buffer : typeLookup (.type "bytearray") "__buffer__" = pure (some (.builtin "bytearray.__buffer__")) := by rw [typeLookup_type, builtinLookup_eq_fast]; kernel_rfl
theorem look_release : typeLookup (.type "bytearray") "__release_buffer__" = pure (some (.builtin "bytearray.__release_buffer__")) := by rw [typeLookup_type, builtinLookup_eq_fast]; kernel_rfl
theorem noBytes : typeLookup (.type "bytearray") "__bytes__" = pure none := by rw [typeLookup_type, builtinLookup_eq_fast]; kernel_rfl
theorem noIndex : typeLookup (.type "bytearray") "__index__" = pure none := by rw [typeLookup_type, builtinLookup_eq_fast]; kernel_rfl
end Ba
noncomputable abbrev baObj (b : Array UInt8) : Obj := { cls := .type "bytearray", data := .bytearray b 0 }
section
variable {prog : Program} {w : World} {A : Around} {E : Value → Shared → Prop} {s : Shared} {a : Addr} {b : Array UInt8}
theorem ba_type (h : s.heap.get? a = some (baObj b)) : s.TypeIs (.ref a) "bytearray" := ⟨_, h, rfl⟩
theorem ba_payload {M : Model} {Q : Array UInt8 → Shared → Prop} (h : s.heap.get? a = some (baObj b)) (k : Q b s) : wpAny M A (Builtin.Bytes.payload (.ref a)) Q E s := by
  unfold Builtin.Bytes.payload Builtin.Bytes.payload?
  exact wpAny_bind (wpAny_bind (wpAny_load h (wpAny_pure (wpAny_pure k))))
theorem ba_sub {M : Model} {i : Int} {t : Tok} {Q : Option Int → Shared → Prop} (h0 : 0 ≤ i) (h1 : i < 2 ^ 63) (k : Q (some i) s) : wpAny M A (Builtin.Bytes.subscript? (.int i t)) Q E s := by
  unfold Builtin.Bytes.subscript?
  refine wpAny_bind (wpAny_specialOf (T := "int") (typeIs_int _ _ _) F.slot_int_index.lookup ?_)
  refine wpAny_ite (KBy.ite_no (show ¬ (Option.isNone (some (Value.builtin _)) = true) from Bool.false_ne_true) ?_)
  refine wpAny_bind (wpAny_of_eq (a := i) rfl ?_)
  refine wpAny_ite (KBy.ite_no ?_ (wpAny_pure k))
  simp only [Builtin.Bytes.fitsIndex, Bool.not_eq_true', Bool.and_eq_false_iff, decide_eq_false_iff_not]
  lia
theorem ba_getItem {i : Int} {t : Tok} {x : UInt8} {Q : Value → Shared → Prop} (h : s.heap.get? a = some (baObj b)) (h0 : 0 ≤ i) (h1 : i < 2 ^ 63) (hx : b[i.toNat]? = some x)
    (k : Q (.int x.toNat s.toks) { s with toks := s.toks + 1 }) : wpAny (model prog w) A (getItem (.ref a) (.int i t)) Q E s := by
  refine wpAny_getItem_slot (ba_type h) (by decide) Ba.slot_getitem (wpAny_call_entry Ba.slot_getitem (ba_type h) Ba.entry_getitem ?_ (Ba.args_getitem _ _))
  show wpAny _ _ (Builtin.Bytes.subscript? (.int i t) >>= fun r => _) _ _ s
  refine wpAny_bind (ba_sub h0 h1 ?_)
  refine wpAny_bind (ba_payload h ?_)
  obtain ⟨hlt, _⟩ := Array.getElem?_eq_some_iff.mp hx
  rw [seqIndex_of h0 (by lia)]
  show wpAny _ _ (match b[i.toNat]? with | some x => _ | none => _) _ _ _
  rw [hx]
  exact wpAny_bind (wpAny_mkInt (wpAny_pure ⟨_, rfl, k⟩))
theorem ba_len {Q : Value → Shared → Prop} (h : s.heap.get? a = some (baObj b)) (hfit : b.size ≤ 1099511627776) (k : Q (.int b.size (s.toks + 1)) { s with toks := s.toks + 1 + 1 }) :
    wpAny (model prog w) A (call (.builtin "len") [.ref a]) Q E s := by
  refine call_len_slot (ba_type h) Ba.slot_len (fun Q' hQ => wpAny_call_entry Ba.slot_len (ba_type h) Ba.entry_len ?_ (Ba.args_len _)) (by lia) (by lia) k
  show wpAny _ _ (Builtin.Bytes.payload (.ref a) >>= fun r => _) _ _ s
  exact wpAny_bind (ba_payload h (wpAny_bind (wpAny_mkInt (wpAny_pure ⟨_, rfl, hQ⟩))))
theorem ba_update {M : Model} {g : Array UInt8 → Array UInt8} {Q : Unit → Shared → Prop} (h : s.heap.get? a = some (baObj b)) (hz : (g b).size ≤ sizeLine)
    (k : Q () { s with heap := s.heap.update a (Obj.mapBytearray g) }) : wpAny M A (Builtin.Bytes.write (.ref a) g) Q E s := by
  show wpAny _ _ (updateBytearray a g) _ _ _
  unfold updateBytearray
  refine wpAny_bind (wpAny_load h ?_)
  show wpAny _ _ (update a (Obj.mapBytearray g) >>= fun _ => lookBehind a) _ _ _
  refine wpAny_bind (wpAny_update h ?_)
  have h2 : (s.heap.update a (Obj.mapBytearray g)).get? a = some (baObj (g b)) := Heap.get?_update_self (Obj.mapBytearray g) h rfl
  refine wpAny_lookBehind h2 ?_ k
  show (if (g b).size > sizeLine then some "bytearray:memory" else none) = none
  rw [if_neg (Nat.not_lt.mpr hz)]
theorem ba_setItem {i v : Int} {t t' : Tok} {Q : Unit → Shared → Prop} (h : s.heap.get? a = some (baObj b)) (h0 : 0 ≤ i) (h1 : i < b.size) (hv0 : 0 ≤ v) (hv1 : v < 256) (hz : b.size ≤ sizeLine)
    (k : Q () { s with heap := s.heap.update a (Obj.mapBytearray (·.setIfInBounds i.toNat v.toNat.toUInt8)) }) : wpAny (model prog w) A (setItem (.ref a) (.int i t) (.int v t')) Q E s := by
  unfold setItem
  refine wpAny_holding (wpAny_bind (wpAny_sequenceKey (ba_type h) (by decide) ?_))
  refine wpAny_bind (wpAny_callSpecial?_slot (name := Str.ofString "__setitem__") (ba_type h) Ba.slot_setitem (wpAny_call_entry Ba.slot_setitem (ba_type h) Ba.entry_setitem ?_ (Ba.args_setitem _ _ _)))
  show wpAny _ _ (Builtin.Bytes.subscript? (.int i t) >>= fun r => _) _ _ s
  have e : sizeLine = 16777216 := rfl
  refine wpAny_bind (ba_sub h0 (by lia) ?_)
  show wpAny _ _ (Builtin.Bytes.byteValue (.int v t') >>= fun r => _) _ _ s
  refine wpAny_bind ?_
  unfold Builtin.Bytes.byteValue
  refine wpAny_bind (wpAny_of_eq (a := v) rfl ?_)
  refine wpAny_ite (KBy.ite_no (by simp only [Bool.or_eq_true, decide_eq_true_eq]; lia) (wpAny_pure ?_))
  refine wpAny_bind (ba_payload h ?_)
  rw [seqIndex_of h0 h1]
  show wpAny _ _ (Builtin.Bytes.write (.ref a) _ >>= fun _ => _) _ _ _
  refine wpAny_bind (ba_update h (by simpa using hz) ?_)
  first
    | exact wpAny_bind (wpAny_pure (wpAny_pure ⟨.none, rfl, wpAny_pure k⟩))
    | exact wpAny_pure ⟨.none, rfl, wpAny_pure k⟩
end

/-! slices -/
section
variable {prog : Program} {w : World} {A : Around} {E : Value → Shared → Prop} {s : Shared} {a : Addr} {b : Array UInt8}
set_option maxHeartbeats 2000000 in
theorem ba_slice {sl : Addr} {l u : Value} {lo hi : Option Int} {Q : Value → Shared → Prop} (h : s.heap.get? a = some (baObj b)) (hs : s.heap.IsSliceOf sl l u .none) (hl : IsPart l lo) (hu : IsPart u hi) (hz : b.size ≤ sizeLine)
    (k : Q (.ref s.heap.objs.size) { s with heap := s.heap.push (baObj (KBy.picked b lo hi)) }) : wpAny (model prog w) A (getItem (.ref a) (.ref sl)) Q E s := by
  refine wpAny_getItem_slot (ba_type h) (by decide) Ba.slot_getitem (wpAny_call_entry Ba.slot_getitem (ba_type h) Ba.entry_getitem ?_ (Ba.args_getitem _ _))
  refine elX1_3 ?_ hs; clear hs; rintro o ho hc hd
  have hT : s.TypeIs (.ref sl) "slice" := ⟨o, ho, hc⟩
  show wpAny _ _ (Builtin.Bytes.subscript? (.ref sl) >>= fun r => _) _ _ s
  refine wpAny_bind ?_
  unfold Builtin.Bytes.subscript?
  refine wpAny_bind (wpAny_specialOf hT slice_no_index (wpAny_pure ?_))
  refine wpAny_bind (wpAny_typeOf hT ?_)
  show wpAny _ _ (Builtin.Bytes.sliceParts (.ref sl) >>= fun r => _) _ _ s
  refine wpAny_bind ?_
  unfold Builtin.Bytes.sliceParts
  refine wpAny_bind (wpAny_field (x := .none) ho hd rfl ?_)
  kby_none
  refine wpAny_ite (KBy.ite_no (show ¬ ((Value.none == rawInt 0) = true) from Bool.false_ne_true) ?_)
  refine wpAny_bind (wpAny_field (x := l) ho hd rfl ?_)
  have go : wpAny (model prog w) A.in1 (sliceIndices (rawPart lo) (rawPart hi) (rawPart none) b.size) (fun r s' => r = sliceBounds lo hi none b.size ∧ s' = s) E s :=
    wpAny_of_eq (sliceIndices_raw lo hi none b.size (fun e => nomatch e)) ⟨rfl, rfl⟩
  have hz' : (KBy.picked b lo hi).size ≤ sizeLine := Nat.le_trans (KBc.size_picked_le b lo hi) hz
  cases hl <;> cases hu <;> (first
    | (kby_none; (refine wpAny_bind (wpAny_field (x := .none) ho hd rfl ?_)); kby_none)
    | (kby_none; (refine wpAny_bind (wpAny_field (x := .int _ _) ho hd rfl ?_)); kby_int)
    | (kby_int; (refine wpAny_bind (wpAny_field (x := .none) ho hd rfl ?_)); kby_none)
    | (kby_int; (refine wpAny_bind (wpAny_field (x := .int _ _) ho hd rfl ?_)); kby_int)) <;> refine wpAny_pure ?_
  all_goals
    refine wpAny_bind (ba_payload h ?_)
    refine wpAny_bind (wpAny_mono go (fun r s' hr => ?_) fun _ _ e => e)
    obtain ⟨hr1, hr2⟩ := hr
    subst hr1 hr2
    refine wpAny_bind ?_
    unfold Builtin.Bytes.newBytearray
    exact wpAny_newObj_type (wpAny_pure ⟨_, rfl, k⟩) hz'
end

section
variable {u : U} {n : Nat} {f : Fm} {l : Led} {ℓ : Loc} {P : V → Led → Prop} {B : Bool → Led → Prop} {i j : Int}
noncomputable def ItmS (u : U) (n : Nat) (f : Fm) (l : Led) (ℓ : Loc) (a i : V) (P : V → Led → Prop) : Prop :=
  ∀ x y value slice, Rep a x → Rep i y → (∀ o j, subscripted slice false o j = operate [j, o] (getItem o j)) → W u n f l ℓ (subscriptTail value slice x y) (EvP ℓ P)
theorem Ev_SubSlice {a i : Expr} {pos : Pos} (h : Ev u n f l ℓ a fun va l₁ => Ev u n f l₁ ℓ i fun vi l₂ => ItmS u n f l₂ ℓ va vi P)
    (hs : ∀ o j, subscripted i false o j = operate [j, o] (getItem o j)) : Ev u n f l ℓ (.Subscript a i pos) P := by
  refine W.eq (eval_Subscript ..) (W.bind (W.mono h ?_))
  rintro x l₁ ℓ₁; refine elX1_3 ?_; rintro va ra rfl h₁
  refine W.bind (W.holding (W.mono h₁ ?_))
  rintro y l₂ ℓ₂; refine elX1_3 ?_; rintro vb rb rfl h₂
  exact W.bind (W.standAt (h₂ x y a i ra rb hs))
theorem W.newSlice {x y : Value} {lo hi : Option Int} (hx : IsPart x lo) (hy : IsPart y hi) (h : ∀ c, P (.ref c) ((c, .slice lo hi) :: l)) : W u n f l ℓ (newFields "slice" [x, y, .none]) (EvP ℓ P) := by
  refine .of fun hu hf s r => ?_
  refine wpAny_newObj_type ?_ (by first | trivial | exact Nat.le_of_ble_eq_true rfl)
  exact ⟨_, ℓ, r.alloc (o := .slice lo hi) (s' := { s with heap := s.heap.push _ }) rfl ⟨x, y, hx, hy, Heap.get?_push_size _ rfl⟩, ⟨rfl, rfl, rfl⟩, _, Rep.mk (v := .ref s.heap.objs.size) 0, rfl, h _⟩
theorem Ev_Slice2 {lo hi : Expr} {pos : Pos} (h : Ev u n f l ℓ lo fun vl l₁ => ∃ i, vl = .int i ∧ Ev u n f l₁ ℓ hi fun vu l₂ => ∃ j, vu = .int j ∧ ∀ c, P (.ref c) ((c, .slice (some i) (some j)) :: l₂)) : Ev u n f l ℓ (.Slice (some lo) (some hi) none pos) P := by
  show W u n f l ℓ (do
    let a ← eval lo f.env
    let b ← holding [a] (eval hi f.env)
    let s ← holding [a, b] (Pure.pure Value.none)
    newFields "slice" [a, b, s]) _
  refine W.bind (W.mono h ?_)
  rintro x l₁ ℓ₁; refine elX1_3 ?_; rintro _ ⟨t, rfl⟩ rfl ⟨i, rfl, h₁⟩
  refine W.bind (W.holding (W.mono h₁ ?_))
  rintro y l₂ ℓ₂; refine elX1_3 ?_; rintro _ ⟨t', rfl⟩ rfl ⟨j, rfl, h₂⟩
  exact W.bind (W.holding (W.pure (W.newSlice (.int i t) (.int j t') h₂)))
theorem Ev_SliceU {hi : Expr} {pos : Pos} (h : Ev u n f l ℓ hi fun vu l₂ => ∃ j, vu = .int j ∧ ∀ c, P (.ref c) ((c, .slice none (some j)) :: l₂)) : Ev u n f l ℓ (.Slice none (some hi) none pos) P := by
  show W u n f l ℓ (do
    let a ← Pure.pure Value.none
    let b ← holding [a] (eval hi f.env)
    let s ← holding [a, b] (Pure.pure Value.none)
    newFields "slice" [a, b, s]) _
  refine W.bind (W.pure (W.bind (W.holding (W.mono h ?_))))
  rintro y l₂ ℓ₂; refine elX1_3 ?_; rintro _ ⟨t', rfl⟩ rfl ⟨j, rfl, h₂⟩
  exact W.bind (W.holding (W.pure (W.newSlice .none (.int j t') h₂)))

/-- what a slice takes -/
noncomputable def cut {α : Type} (xs : List α) (lo hi : Option Int) : List α := (xs.drop (lo.elim 0 (clipAt xs.length))).take (hi.elim xs.length (clipAt xs.length) - lo.elim 0 (clipAt xs.length))
theorem RS.drop {s : Shared} {q : Addr × O} (r : RS u f (q :: l) ℓ s) : RS u f l ℓ s := r.sub (by have := r.nodup; rw [List.map_cons] at this; exact (List.nodup_cons.mp this).2) fun p hp => .tail _ hp
theorem RS.ba {s : Shared} {a : Addr} {bs : List UInt8} (r : RS u f l ℓ s) (h : (a, O.ba bs) ∈ l) : s.heap.get? a = some (baObj bs.toArray) := (r.led _ h).1
theorem Itm_ba {a : Addr} {bs : List UInt8} {x : UInt8} (ha : (a, O.ba bs) ∈ l) (h0 : 0 ≤ i) (h1 : i < 2 ^ 63) (hx : bs[i.toNat]? = some x) (h : P (.int x.toNat) l) : ItmV u n f l ℓ (.ref a) (.int i) P := by
  rintro y z value slice ⟨t, rfl⟩ ⟨t', rfl⟩ hs
  refine .of fun hu hf s r => ?_
  exact tail_any (ba_type (r.ba ha)) Ba.slot_getitem.lookup (ba_getItem (r.ba ha) h0 h1 (by simpa using hx) ⟨l, ℓ, r.toks, ⟨rfl, rfl, rfl⟩, .int x.toNat, Rep.mk (v := .int x.toNat) s.toks, rfl, h⟩) (hs _ _)
theorem Itm_ba_slice {a c : Addr} {bs : List UInt8} {lo hi : Option Int} {l' : Led} (ha : (a, O.ba bs) ∈ l) (hz : bs.length ≤ 10000) (h : ∀ d, P (.ref d) ((d, .ba (cut bs lo hi)) :: l)) :
    ItmS u n f ((c, .slice lo hi) :: l) ℓ (.ref a) (.ref c) P := by
  rintro y z value slice ⟨t, rfl⟩ ⟨t', rfl⟩ hs
  refine .of fun hu hf s r => ?_
  refine elX2_3 ?_ ((r.led _ (.head _)).1); rintro p q hp hq ho
  have r' := r.drop
  refine tail_any (ba_type (r'.ba ha)) Ba.slot_getitem.lookup (ba_slice (r'.ba ha) ⟨_, ho, rfl, rfl⟩ hp hq (by have : sizeLine = 16777216 := rfl; simp; lia) ?_) (hs _ _)
  refine ⟨_, ℓ, r'.alloc (o := .ba (cut bs lo hi)) (s' := { s with heap := s.heap.push _ }) rfl ?_, ⟨rfl, rfl, rfl⟩, _, Rep.mk (v := .ref s.heap.objs.size) 0, rfl, h _⟩
  show (s.heap.push _).get? s.heap.objs.size = some (baObj (cut bs lo hi).toArray)
  rw [Heap.get?_push_size _ rfl, KBc.picked_eq]
  simp only [cut, List.size_toArray]
theorem Put_ba {a : Addr} {bs : List UInt8} {l' : Led} {R : Led → Prop} {v : Int} (h0 : 0 ≤ i) (hi : i < bs.length) (hz : bs.length ≤ 10000) (hv0 : 0 ≤ v) (hv1 : v < 256) (t : Turn a (.ba bs) (.ba (bs.set i.toNat v.toNat.toUInt8)) l l') (h : R l') :
    PutV u n f l ℓ (.ref a) (.int i) (.int v) R := by
  rintro x y z ⟨tk, rfl⟩ ⟨tk', rfl⟩ ⟨tz, rfl⟩
  refine .of fun hu hf s r => ?_
  have ho := r.ba t.mem
  refine ba_setItem ho h0 (by simpa using hi) hv0 hv1 (by have : sizeLine = 16777216 := rfl; simp; lia) ⟨l', ℓ, r.turn (s' := { s with heap := s.heap.update a _ }) t (Heap.SameBut.update ..) ?_, ⟨rfl, rfl, rfl⟩, rfl, h⟩
  show (s.heap.update a _).get? a = some (baObj _)
  refine (Heap.get?_update_self _ ho rfl).trans ?_
  simp [Obj.mapBytearray]
theorem Call_len_ba {a : Addr} {bs : List UInt8} (ha : (a, O.ba bs) ∈ l) (hz : bs.length ≤ 10000) (h : P (.int bs.length) l) : CallV u n f l ℓ (.bi "len") [.ref a] P := by
  rintro x xs ⟨tk, rfl⟩ rxs
  cases rxs with | cons ra rxs => cases rxs with | nil =>
  obtain ⟨_, rfl⟩ := ra
  refine .of fun hu hf s r => ba_len (r.ba ha) (by simp; lia) ⟨l, ℓ, r.toks, ⟨rfl, rfl, rfl⟩, .int bs.length, ⟨s.toks + 1, ?_⟩, rfl, h⟩
  simp
end

/-! bytes(..) -/
namespace By
theorem int_noBytes : typeLookup (.type "int") "__bytes__" = pure none := by rw [typeLookup_type, builtinLookup_eq_fast]; kernel_rfl
theorem bytes_bytes : typeLookup (.type "bytes") "__bytes__" = pure (some (.builtin "bytes.__bytes__")) := by rw [typeLookup_type, builtinLookup_eq_fast]; kernel_rfl
theorem ends_buffer : ("bytearray.__buffer__".endsWith ("." ++ "__buffer__")) = true := by decide +kernel
theorem ends_release : ("bytearray.__release_buffer__".endsWith ("." ++ "__release_buffer__")) = true := by decide +kernel
theorem own_buffer : ("bytearray.__buffer__".dropRight ("__buffer__".length + 1)) = "bytearray" := by decide +kernel
theorem own_release : ("bytearray.__release_buffer__".dropRight ("__release_buffer__".length + 1)) = "bytearray" := by decide +kernel
end By
section
variable {prog : Program} {w : World} {A : Around} {E : Value → Shared → Prop} {s : Shared} {a : Addr} {b : Array UInt8}
theorem ba_slotIsOwn_buffer {M : Model} {Q : Bool → Shared → Prop} (h : s.heap.get? a = some (baObj b)) (k : Q true s) : wpAny M A (Builtin.Bytes.slotIsOwn (.ref a) "__buffer__") Q E s := by
  unfold Builtin.Bytes.slotIsOwn
  refine wpAny_bind (wpAny_specialOf (ba_type h) Ba.look_buffer ?_)
  dsimp only
  rw [By.ends_buffer, By.own_buffer]
  exact wpAny_ite (KBy.ite_no (by decide) (wpAny_isInstance (ba_type h) PySem.F.sub_bytearray_bytearray k))
theorem ba_ownRelease {M : Model} {Q : Bool → Shared → Prop} (h : s.heap.get? a = some (baObj b)) (k : Q false s) : wpAny M A (Builtin.Bytes.ownRelease (.ref a)) Q E s := by
  unfold Builtin.Bytes.ownRelease
  refine wpAny_bind ?_
  unfold Builtin.Bytes.slotIsOwn
  refine wpAny_bind (wpAny_specialOf (ba_type h) Ba.look_release ?_)
  dsimp only
  rw [By.ends_release, By.own_release]
  exact wpAny_ite (KBy.ite_no (by decide) (wpAny_isInstance (ba_type h) PySem.F.sub_bytearray_bytearray (wpAny_pure k)))
theorem ba_buffer {M : Model} {id : String} {full : Bool} {Q : Option (Array UInt8) → Shared → Prop} (h : s.heap.get? a = some (baObj b)) (k : Q (some b) s) : wpAny M A (Builtin.Bytes.buffer? id (.ref a) full) Q E s := by
  unfold Builtin.Bytes.buffer?
  refine wpAny_bind (wpAny_specialOf (ba_type h) Ba.look_buffer ?_)
  refine wpAny_bind (ba_slotIsOwn_buffer h ?_)
  refine wpAny_ite (KBy.ite_no (by decide) ?_)
  refine wpAny_bind (wpAny_specialOf (ba_type h) Ba.look_buffer ?_)
  refine wpAny_bind (ba_ownRelease h ?_)
  refine wpAny_ite (KBy.ite_no (by decide) ?_)
  exact wpAny_bind (ba_payload h (wpAny_pure k))

theorem bytes_new {x : Value} {Q : Value → Shared → Prop}
    (h : ∀ A', wpAny (model prog w) A' (Builtin.«bytes.__new__» ⟨[.type "bytes", x], []⟩) (fun fin s' => ∃ b t, fin = .done (.ret (.bytes b t)) ∧ Q (.bytes b t) s') E s) : wpAny (model prog w) A (call (.type "bytes") [x]) Q E s := by
  refine callType_codes (Q₁ := fun obj s₁ => s₁.TypeIs obj "bytes" ∧ Q obj s₁) F.bm_called (F.bm_typeCall _) F.entry_object_init ?_ fun obj s₁ h₁ => ?_
  · refine codeAny_of_tree ?_
    show wpAny _ A.in1.in1 (do checkBuiltinCall "bytes.__new__" ⟨[.type "bytes", x], []⟩; again (.builtin "bytes.__new__" ⟨[.type "bytes", x], []⟩)) _ _ s
    refine wpAny_bind (wpAny_of_eq (F.bm_newCall _) (wpAny_pure ⟨plainId_quiet F.bm_plain _, codeAny_builtin F.bm_entry ?_⟩))
    rw [Around.under_plainId F.bm_plain _]
    refine wpAny_mono (h _) ?_ fun _ _ e => e
    rintro fin s'; refine elX2_2 ?_; rintro b t rfl q
    exact ⟨PySem.W.typeIs_bytes _ _ _, q⟩
  · exact ⟨h₁.1, F.args_object_init_2 obj _, object_init_meets F.bm_called.init.lookup F.bm_called.made (by decide) prog w A.in1 _ s₁ ⟨h₁.1, rfl, h₁.2⟩⟩
theorem bytes_of_bytes {b : Array UInt8} {t : Tok} {Q : Value → Shared → Prop} (k : Q (.bytes b t) s) : wpAny (model prog w) A (call (.type "bytes") [.bytes b t]) Q E s := by
  refine bytes_new fun A' => ?_
  unfold Builtin.«bytes.__new__»
  refine wpAny_bind (wpAny_of_eq (a := true) rfl ?_)
  refine bm_if_false rfl ?_
  refine wpAny_bind (wpAny_of_eq F.bm_sub ?_)
  refine bm_if_false rfl ?_
  refine wpAny_bind (wpAny_of_eq (F.bm_bind _) ?_)
  refine wpAny_bind (wpAny_of_eq (a := ()) rfl ?_)
  refine wpAny_bind (wpAny_of_eq (a := ()) rfl ?_)
  refine bm_if_false rfl ?_
  refine wpAny_bind (wpAny_specialOf (typeIs_bytes _ b t) By.bytes_bytes ?_)
  refine wpAny_bind (wpAny_rule ?_)
  refine wpAny_bind (wpAny_typeOf (typeIs_bytes _ b t) ?_)
  refine bm_if_true (by decide) ?_
  show wpAny _ _ (if (Value.type "bytes" == Value.type "bytes") = true then _ else _) _ _ _
  refine bm_if_true (by decide) ?_
  first
    | exact wpAny_pure ⟨b, t, rfl, k⟩
    | exact wpAny_bind (wpAny_pure (wpAny_pure ⟨b, t, rfl, k⟩))
theorem bytes_of_ba {Q : Value → Shared → Prop} (h : s.heap.get? a = some (baObj b)) (hz : b.size ≤ sizeLine) (k : Q (.bytes b s.toks) { s with toks := s.toks + 1 }) : wpAny (model prog w) A (call (.type "bytes") [.ref a]) Q E s := by
  refine bytes_new fun A' => ?_
  unfold Builtin.«bytes.__new__»
  refine wpAny_bind (wpAny_of_eq (a := true) rfl ?_)
  refine bm_if_false rfl ?_
  refine wpAny_bind (wpAny_of_eq F.bm_sub ?_)
  refine bm_if_false rfl ?_
  refine wpAny_bind (wpAny_of_eq (F.bm_bind _) ?_)
  refine wpAny_bind (wpAny_of_eq (a := ()) rfl ?_)
  refine wpAny_bind (wpAny_of_eq (a := ()) rfl ?_)
  refine bm_if_false rfl ?_
  refine wpAny_bind (wpAny_specialOf (ba_type h) Ba.noBytes ?_)
  refine wpAny_bind (wpAny_bind ?_)
  show wpAny _ _ (load a >>= _) _ _ _
  refine wpAny_bind (wpAny_load h ?_)
  refine wpAny_pure (wpAny_pure ?_)
  refine bm_if_false rfl ?_
  refine wpAny_bind (wpAny_specialOf (ba_type h) Ba.noIndex ?_)
  refine bm_if_true rfl ?_
  first
    | show wpAny _ _ (Builtin.Bytes.buffer? "bytes.__new__" (.ref a) true >>= _) _ _ _
    | (refine wpAny_bind ?_; show wpAny _ _ (Builtin.Bytes.buffer? "bytes.__new__" (.ref a) true >>= _) _ _ _)
  refine wpAny_bind (ba_buffer h ?_)
  refine wpAny_bind (wpAny_rule ?_)
  refine wpAny_bind (wpAny_mkBytes ?_ hz)
  show wpAny _ _ (if (Value.type "bytes" == Value.type "bytes") = true then _ else _) _ _ _
  refine bm_if_true (by decide) ?_
  first
    | exact wpAny_pure ⟨_, _, rfl, k⟩
    | exact wpAny_bind (wpAny_pure (wpAny_pure ⟨_, _, rfl, k⟩))
theorem bytes_of_int {i : Int} {t : Tok} {Q : Value → Shared → Prop} (h0 : 0 ≤ i) (h1 : i ≤ 10000) (k : Q (.bytes (Array.replicate i.toNat 0) s.toks) { s with toks := s.toks + 1 }) : wpAny (model prog w) A (call (.type "bytes") [.int i t]) Q E s := by
  refine bytes_new fun A' => ?_
  have hT := typeIs_int s i t
  unfold Builtin.«bytes.__new__»
  refine wpAny_bind (wpAny_of_eq (a := true) rfl ?_)
  refine bm_if_false rfl ?_
  refine wpAny_bind (wpAny_of_eq F.bm_sub ?_)
  refine bm_if_false rfl ?_
  refine wpAny_bind (wpAny_of_eq (F.bm_bind _) ?_)
  refine wpAny_bind (wpAny_of_eq (a := ()) rfl ?_)
  refine wpAny_bind (wpAny_of_eq (a := ()) rfl ?_)
  refine bm_if_false rfl ?_
  refine wpAny_bind (wpAny_specialOf hT By.int_noBytes ?_)
  refine wpAny_bind (wpAny_of_eq (a := false) rfl ?_)
  refine bm_if_false rfl ?_
  refine wpAny_bind (wpAny_specialOf hT F.slot_int_index.lookup ?_)
  refine bm_if_false rfl ?_
  refine wpAny_bind (wpAny_attempt (wpAny_of_eq (a := i) rfl ?_))
  dsimp only
  have e1 : Builtin.Bytes.fitsIndex i = true := by simp only [Builtin.Bytes.fitsIndex, Bool.and_eq_true, decide_eq_true_eq]; lia
  refine bm_if_false (by rw [e1]; rfl) ?_
  refine wpAny_ite (KBy.ite_no (by lia) ?_)
  refine wpAny_ite (KBy.ite_no (by lia) ?_)
  refine bm_if_false (by unfold Builtin.Bytes.tooLong; have : sizeLine = 16777216 := rfl; rw [decide_eq_false_iff_not]; lia) ?_
  refine wpAny_bind (wpAny_rule ?_)
  refine wpAny_bind (wpAny_mkBytes ?_ (by have : sizeLine = 16777216 := rfl; rw [Array.size_replicate]; lia))
  show wpAny _ _ (if (Value.type "bytes" == Value.type "bytes") = true then _ else _) _ _ _
  refine bm_if_true (by decide) ?_
  first
    | exact wpAny_pure ⟨_, _, rfl, k⟩
    | exact wpAny_bind (wpAny_pure (wpAny_pure ⟨_, _, rfl, k⟩))
end

/-! bytearray(..) -/
section
variable {prog : Program} {w : World} {A : Around} {E : Value → Shared → Prop} {s : Shared} {R : Result → Shared → Prop}
theorem codeX_builtin {id : String} {args : Args} {b : Builtin} (hb : entryFor table id = some b)
    (h : wpX (model prog w) (A.under (.builtin id args)) (b args)
      (fun fin s' => match fin with | .done f => R (.ok f) s' | .again c' => c'.quiet = true ∧ decB c' = false ∧ codeX (model prog w) A c' R s') (fun e s' => R (.error e) s') s) :
    codeX (model prog w) A (.builtin id args) R s := by
  refine codeX_of_tree ?_
  show wpX _ _ (match entryFor table id with | some b => b args | none => unsupported ((withoutEnding? id "#data").getD id)) _ _ s
  rw [hb]; exact h
theorem wpX_of_eq {α : Type} {M : Model} {t : Sem α} {a : α} {Q : α → Shared → Prop} (e : t = Pure.pure a) (h : Q a s) : wpX M A t Q E s := .of (wpAny_of_eq e h)
theorem if_falseX {α : Type} {M : Model} {c : Bool} {a b : Sem α} {Q : α → Shared → Prop} (hc : c = false) (h : wpX M A b Q E s) : wpX M A (if c = true then a else b) Q E s := by
  subst hc
  exact h
theorem if_trueX {α : Type} {M : Model} {c : Bool} {a b : Sem α} {Q : α → Shared → Prop} (hc : c = true) (h : wpX M A a Q E s) : wpX M A (if c = true then a else b) Q E s := by
  subst hc
  exact h
theorem ba_new (x : Value) {Q₁ : Value → Shared → Prop} (h : Q₁ (.ref s.heap.objs.size) { s with heap := s.heap.push (baObj #[]) }) :
    codeAny (model prog w) A (.call (.builtin "bytearray.__new__") ⟨[.type "bytearray", x], []⟩) (wants Q₁ E) s := by
  refine codeAny_of_tree ?_
  show wpAny _ A.in1 (do checkBuiltinCall "bytearray.__new__" ⟨[.type "bytearray", x], []⟩; again (.builtin "bytearray.__new__" ⟨[.type "bytearray", x], []⟩)) _ _ s
  refine wpAny_bind (wpAny_of_eq (Ba.newCall x) (wpAny_pure ⟨plainId_quiet Ba.called.plain _, codeAny_builtin_stack Ba.entry_new rfl fun p st => ?_⟩))
  rw [Around.under_plainId Ba.called.plain _]
  have hsub := PySem.F.sub_bytearray_bytearray
  have hown := Ba.owner_new
  obtain ⟨hp, g, d, tk, os⟩ := s
  simp only [hown]
  wp_walk
  exact h
theorem call_ba {x : Value} {Q : Value → Shared → Prop}
    (h : ∀ A', wpX (model prog w) A' (Builtin.«bytearray.__init__» ⟨[.ref s.heap.objs.size, x], []⟩) (fun fin s' => fin = .done (.ret .none) ∧ Q (.ref s.heap.objs.size) s') (fun _ _ => False) { s with heap := s.heap.push (baObj #[]) }) :
    wpX (model prog w) A (call (.type "bytearray") [x]) Q E s := by
  have ft := Ba.called
  obtain ⟨c, tl, hmro⟩ := ft.mro
  refine wpX_call (codeX_of_tree ?_)
  show wpX _ _ (callAny (.type "bytearray") _) _ _ _
  refine wpX_pure ⟨Code.quiet_builtin _ (by decide +kernel), (show holdsIds.contains "type.__call__" = false by decide +kernel), codeX_builtin F.entry_type_call ?_⟩
  rw [Around.under_plain (weight_type_call_type "bytearray" [x] []) rfl]
  unfold Builtin.«type.__call__»
  refine if_falseX ft.notType ?_
  have h2 := ft.canCreate
  refine if_falseX h2 ?_
  refine wpX_bind (wpX_of_eq (Ba.typeCall x) ?_)
  refine wpX_bind (wpX_of_eq hmro ?_)
  refine if_falseX rfl ?_
  refine wpX_bind (wpX_of_eq ft.made ?_)
  refine wpX_bind (wpX_pure (wpX_bind (wpX_holding (.of (wpAny_call (ba_new x ?_))))))
  have hx : ({ s with heap := s.heap.push (baObj #[]) } : Shared).heap.get? s.heap.objs.size = some (baObj #[]) := Heap.get?_push_size _ rfl
  refine wpX_bind (.of (wpAny_isInstance (ba_type hx) PySem.F.sub_bytearray_bytearray ?_))
  refine if_falseX rfl ?_
  refine wpX_bind (wpX_holding ?_)
  unfold callSpecial?
  refine wpX_bind (.of (wpAny_specialOf (ba_type hx) Ba.slot_init.lookup ?_))
  dsimp only
  refine wpX_holding ?_
  rw [Ba.slot_init.bind]
  refine wpX_bind (wpX_pure (wpX_bind (wpX_call (codeX_call_builtin_at (plainId_quiet Ba.slot_init.plain _) (by decide +kernel) Ba.entry_init (.of (Ba.slot_init.check _ _ _ _ _ _ _ _ (ba_type hx) (Ba.args_init _ _) ?_))))))
  refine wpX_mono (h _) ?_ fun _ _ z => z.elim
  rintro fin s' ⟨rfl, q⟩
  exact wpX_pure (wpX_pure q)

/-- no built-in that holds a buffer is on the stack -/
theorem exported_no {M : Model} {v : Value} {Q : Bool → Shared → Prop} (k : Q false s) : wpX M A (Builtin.Bytes.exported v) Q E s := by
  intro Γ p hΓ cl
  unfold Builtin.Bytes.exported
  rw [Sem.wp_bind']
  unfold stack
  rw [Sem.wp_stack]
  have hst : ∀ c ∈ (Γ.code, p) :: Γ.below, decB c.1 = false := fun c hc => by
    rcases List.mem_cons.mp hc with rfl | hc
    · exact cl.1
    · exact cl.2 c hc
  show Q (List.any ((Γ.code, p) :: Γ.below) _) s
  rw [List.any_eq_false.mpr]
  · exact k
  intro c hc
  have hd := hst c hc
  obtain ⟨cc, pp⟩ := c
  dsimp only at hd
  cases cc with
  | builtin id args =>
    have hd' : holdsIds.contains id = false := hd
    have h1 : ¬ id = "bytearray.__contains__" := fun e => absurd (e ▸ hd') (by decide +kernel)
    have h2 : ¬ id = "bytearray.__mod__" := fun e => absurd (e ▸ hd') (by decide +kernel)
    have h3 : ¬ id = "bytearray.__rmod__" := fun e => absurd (e ▸ hd') (by decide +kernel)
    have h4 : ¬ id = "_struct.pack_into.held" := fun e => absurd (e ▸ hd') (by decide +kernel)
    have h5 : ¬ id = "bytearray.find.held" := fun e => absurd (e ▸ hd') (by decide +kernel)
    delta Builtin.Bytes.exported.match_1
    delta Builtin.Bytes.exported._sparseCasesOn_1
    dsimp only
    rw [dif_neg h1, dif_neg h2, dif_neg h3, dif_neg h4, dif_neg h5]
    obtain ⟨pos, kw⟩ := args
    cases pos with
    | nil => exact Bool.false_ne_true
    | cons x xs =>
      have h6 : Builtin.Bytes.decodersThatHold.contains id = false := by
        unfold holdsIds at hd'
        rw [List.contains_append] at hd'
        exact (Bool.or_eq_false_iff.mp hd').1
      show ¬ ((Builtin.Bytes.sameRef x v && Builtin.Bytes.decodersThatHold.contains id) = true)
      rw [h6, Bool.and_false]
      exact Bool.false_ne_true
  | _ => exact Bool.false_ne_true
end

section
variable {prog : Program} {w : World} {A : Around} {E : Value → Shared → Prop} {s : Shared} {a : Addr}
theorem init_bind (v : Value) : Builtin.Bytes.bindOptional "bytearray.__init__" "bytearray" ["source", "encoding", "errors"] [v] [] = Pure.pure [some v, none, none] := by kernel_rfl
theorem bytes_noIndex : typeLookup (.type "bytes") "__index__" = Pure.pure none := by rw [typeLookup_type, builtinLookup_eq_fast]; kernel_rfl
theorem mapBa_get {h : Heap} {b : Array UInt8} (g : Array UInt8 → Array UInt8) (ho : h.get? a = some (baObj b)) : (h.update a (Obj.mapBytearray g)).get? a = some (baObj (g b)) := Heap.get?_update_self (Obj.mapBytearray g) ho rfl
theorem init_bytes {M : Model} {b : Array UInt8} {t : Tok} {Q : Fin → Shared → Prop} (ho : s.heap.get? a = some (baObj #[])) (hz : b.size ≤ sizeLine)
    (k : ∀ h', h'.get? a = some (baObj b) → Heap.SameBut a s.heap h' → Q (.done (.ret .none)) { s with heap := h' }) : wpX M A (Builtin.«bytearray.__init__» ⟨[.ref a, .bytes b t], []⟩) Q E s := by
  unfold Builtin.«bytearray.__init__»
  refine wpX_bind (.of (ba_ownRelease ho ?_))
  refine if_falseX rfl ?_
  refine wpX_bind (wpX_of_eq (init_bind _) ?_)
  refine wpX_bind (wpX_of_eq (a := ()) rfl ?_)
  refine wpX_bind (wpX_of_eq (a := ()) rfl ?_)
  refine wpX_bind (wpX_bind (exported_no ?_))
  show wpX _ _ (Builtin.Bytes.exportsOf (.ref a) >>= fun n => Pure.pure (decide (n > 0))) _ _ _
  refine wpX_bind ?_
  unfold Builtin.Bytes.exportsOf
  refine wpX_bind (.of (wpAny_load ho ?_))
  refine wpX_pure (wpX_pure ?_)
  refine if_falseX (by decide) ?_
  refine wpX_bind (.of (ba_update ho (by exact Nat.zero_le _) ?_))
  have h1 := mapBa_get (fun _ => #[]) ho
  have hT := typeIs_bytes { s with heap := s.heap.update a (Obj.mapBytearray fun _ => #[]) } b t
  refine wpX_bind (wpX_of_eq (a := none) rfl ?_)
  refine if_falseX rfl ?_
  refine wpX_bind (wpX_of_eq (a := ()) rfl ?_)
  refine wpX_bind (.of (wpAny_specialOf hT bytes_noIndex ?_))
  refine if_falseX rfl ?_
  refine wpX_bind (wpX_of_eq (KBy.buffer_eq) ?_)
  refine wpX_bind (.of (wpAny_rule ?_))
  refine wpX_bind (.of (ba_update h1 hz ?_))
  exact wpX_pure (k _ (mapBa_get _ h1) ((Heap.SameBut.update ..).trans (Heap.SameBut.update ..)))
theorem init_int {M : Model} {i : Int} {t : Tok} {Q : Fin → Shared → Prop} (ho : s.heap.get? a = some (baObj #[])) (h0 : 0 < i) (h9 : i ≤ 10000)
    (k : ∀ h', h'.get? a = some (baObj (Array.replicate i.toNat 0)) → Heap.SameBut a s.heap h' → Q (.done (.ret .none)) { s with heap := h' }) : wpX M A (Builtin.«bytearray.__init__» ⟨[.ref a, .int i t], []⟩) Q E s := by
  unfold Builtin.«bytearray.__init__»
  refine wpX_bind (.of (ba_ownRelease ho ?_))
  refine if_falseX rfl ?_
  refine wpX_bind (wpX_of_eq (init_bind _) ?_)
  refine wpX_bind (wpX_of_eq (a := ()) rfl ?_)
  refine wpX_bind (wpX_of_eq (a := ()) rfl ?_)
  refine wpX_bind (wpX_bind (exported_no ?_))
  show wpX _ _ (Builtin.Bytes.exportsOf (.ref a) >>= fun n => Pure.pure (decide (n > 0))) _ _ _
  refine wpX_bind ?_
  unfold Builtin.Bytes.exportsOf
  refine wpX_bind (.of (wpAny_load ho ?_))
  refine wpX_pure (wpX_pure ?_)
  refine if_falseX (by decide) ?_
  refine wpX_bind (.of (ba_update ho (by exact Nat.zero_le _) ?_))
  have h1 := mapBa_get (fun _ => #[]) ho
  have hT := typeIs_int { s with heap := s.heap.update a (Obj.mapBytearray fun _ => #[]) } i t
  refine wpX_bind (wpX_of_eq (a := none) rfl ?_)
  refine if_falseX rfl ?_
  refine wpX_bind (wpX_of_eq (a := ()) rfl ?_)
  refine wpX_bind (.of (wpAny_specialOf hT F.slot_int_index.lookup ?_))
  refine if_trueX rfl ?_
  refine wpX_bind (.of (wpAny_attempt (wpAny_of_eq (a := i) rfl ?_)))
  dsimp only
  have e1 : Builtin.Bytes.fitsIndex i = true := by simp only [Builtin.Bytes.fitsIndex, Bool.and_eq_true, decide_eq_true_eq]; lia
  refine if_falseX (by rw [e1]; rfl) ?_
  rw [if_neg (show ¬ i < 0 by lia)]
  refine if_falseX (by rw [beq_eq_false_iff_ne]; lia) ?_
  refine if_falseX (by unfold Builtin.Bytes.tooLong; have : sizeLine = 16777216 := rfl; rw [decide_eq_false_iff_not]; lia) ?_
  refine wpX_bind (.of (wpAny_rule ?_))
  rw [if_pos (show i > 0 from h0)]
  refine wpX_bind (.of (ba_update h1 (by have : sizeLine = 16777216 := rfl; rw [Array.size_replicate]; lia) ?_))
  exact wpX_pure (k _ (mapBa_get _ h1) ((Heap.SameBut.update ..).trans (Heap.SameBut.update ..)))
end

section
variable {u : U} {n : Nat} {f : Fm} {l : Led} {ℓ : Loc} {P : V → Led → Prop} {B : Bool → Led → Prop} {i j : Int}
theorem RS.newBa {s : Shared} {h' : Heap} {bs : List UInt8} (r : RS u f l ℓ s) (ho : h'.get? s.heap.objs.size = some (baObj bs.toArray)) (hs : Heap.SameBut s.heap.objs.size (s.heap.push (baObj #[])) h') :
    RS u f ((s.heap.objs.size, .ba bs) :: l) ℓ { s with heap := h' } := by
  have r1 := r.alloc (o := .ba []) (s' := { s with heap := s.heap.push (baObj #[]) }) rfl (Heap.get?_push_size _ rfl)
  exact r1.turn (s' := { s with heap := h' }) .head hs ho
theorem Call_ba_bytes {bs : List UInt8} (hz : bs.length ≤ 10000) (h : ∀ a, P (.ref a) ((a, .ba bs) :: l)) : CallV u n f l ℓ (.ty "bytearray") [.bytes bs] P := by
  rintro x xs ⟨tk, rfl⟩ rxs
  cases rxs with | cons ra rxs => cases rxs with | nil =>
  obtain ⟨tk', rfl⟩ := ra
  intro hu hf s r
  refine call_ba fun A' => init_bytes (Heap.get?_push_size _ rfl) (by have : sizeLine = 16777216 := rfl; simp; lia) fun h' ho hs => ⟨rfl, ?_⟩
  exact ⟨_, ℓ, r.newBa ho hs, ⟨rfl, rfl, rfl⟩, _, Rep.mk (v := .ref s.heap.objs.size) 0, rfl, h _⟩
theorem Call_ba_int (h0 : 0 < i) (h9 : i ≤ 10000) (h : ∀ a, P (.ref a) ((a, .ba (List.replicate i.toNat 0)) :: l)) : CallV u n f l ℓ (.ty "bytearray") [.int i] P := by
  rintro x xs ⟨tk, rfl⟩ rxs
  cases rxs with | cons ra rxs => cases rxs with | nil =>
  obtain ⟨tk', rfl⟩ := ra
  intro hu hf s r
  refine call_ba fun A' => init_int (Heap.get?_push_size _ rfl) h0 h9 fun h' ho hs => ⟨rfl, ?_⟩
  exact ⟨_, ℓ, r.newBa (by rw [ho, List.toArray_replicate]) hs, ⟨rfl, rfl, rfl⟩, _, Rep.mk (v := .ref s.heap.objs.size) 0, rfl, h _⟩
theorem Call_bytes_bytes {bs : List UInt8} (h : P (.bytes bs) l) : CallV u n f l ℓ (.ty "bytes") [.bytes bs] P := by
  rintro x xs ⟨tk, rfl⟩ rxs
  cases rxs with | cons ra rxs => cases rxs with | nil =>
  obtain ⟨tk', rfl⟩ := ra
  exact .of fun hu hf s r => bytes_of_bytes ⟨l, ℓ, r, .refl s, _, Rep.mk (v := .bytes bs) tk', rfl, h⟩
theorem Call_bytes_int (h0 : 0 ≤ i) (h9 : i ≤ 10000) (h : P (.bytes (List.replicate i.toNat 0)) l) : CallV u n f l ℓ (.ty "bytes") [.int i] P := by
  rintro x xs ⟨tk, rfl⟩ rxs
  cases rxs with | cons ra rxs => cases rxs with | nil =>
  obtain ⟨tk', rfl⟩ := ra
  refine .of fun hu hf s r => bytes_of_int h0 h9 ⟨l, ℓ, r.toks, ⟨rfl, rfl, rfl⟩, .bytes (List.replicate i.toNat 0), ⟨s.toks, ?_⟩, rfl, h⟩
  simp [V.at]
theorem Call_bytes_ba {a : Addr} {bs : List UInt8} (ha : (a, O.ba bs) ∈ l) (hz : bs.length ≤ 10000) (h : P (.bytes bs) l) : CallV u n f l ℓ (.ty "bytes") [.ref a] P := by
  rintro x xs ⟨tk, rfl⟩ rxs
  cases rxs with | cons ra rxs => cases rxs with | nil =>
  obtain ⟨tk', rfl⟩ := ra
  exact .of fun hu hf s r => bytes_of_ba (r.ba ha) (by have : sizeLine = 16777216 := rfl; simp; lia) ⟨l, ℓ, r.toks, ⟨rfl, rfl, rfl⟩, _, Rep.mk (v := .bytes bs) s.toks, rfl, h⟩

inductive RepI : List Int → List V → Prop
  | nil : RepI [] []
  | cons {i is vs} : RepI is vs → RepI (i :: is) (.int i :: vs)
theorem RepI.map {is : List Int} : RepI is (is.map .int) := by
  induction is with
  | nil => exact .nil
  | cons i is ih => exact .cons ih
theorem ints_of {is : List Int} : ∀ {xs : List Value}, Reps (is.map .int) xs → IntsAre xs is := by
  induction is with
  | nil => intro xs h; cases h; exact .nil
  | cons i is ih =>
    intro xs h
    cases h with
    | cons r h => obtain ⟨t, rfl⟩ := r; exact .cons _ t (ih h)
end

section
variable {u : U} {n : Nat} {f : Fm} {l : Led} {ℓ : Loc} {P : V → Led → Prop} {B : Bool → Led → Prop} {i j : Int}
theorem one_arg {v : V} {xs : List Value} (h : Reps [v] xs) : ∃ t, xs = [v.at t] := by
  cases h with | cons r h => cases h with | nil => obtain ⟨t, rfl⟩ := r; exact ⟨t, rfl⟩
theorem two_args {v v' : V} {xs : List Value} (h : Reps [v, v'] xs) : ∃ t t', xs = [v.at t, v'.at t'] := by
  cases h with | cons r h => obtain ⟨t, rfl⟩ := r; obtain ⟨t', rfl⟩ := one_arg h; exact ⟨t, t', rfl⟩
theorem three_args {v v' v'' : V} {xs : List Value} (h : Reps [v, v', v''] xs) : ∃ t t' t'', xs = [v.at t, v'.at t', v''.at t''] := by
  cases h with | cons r h => obtain ⟨t, rfl⟩ := r; obtain ⟨t', t'', rfl⟩ := two_args h; exact ⟨t, t', t'', rfl⟩
theorem RS.hand {s : Shared} (_r : RS u f l ℓ s) (hf : f.Ok u n) : f.A.handled = none := hf.room.2.2

/-! constants -/
theorem Ev_str {x : Str} {k : Nat} {pos : Pos} (h : P (.str x) l) : Ev u n f l ℓ (.Constant (.str x) k pos) P := by
  refine W.of fun hu hf s r => ?_
  exact fun _ _ _ => ⟨l, ℓ, r.toks, ⟨rfl, rfl, rfl⟩, _, Rep.mk (v := .str x) s.toks, rfl, h⟩
theorem Ev_bytes {x : List UInt8} {k : Nat} {pos : Pos} (h : P (.bytes x) l) : Ev u n f l ℓ (.Constant (.bytes x) k pos) P := by
  refine W.of fun hu hf s r => ?_
  exact Constant_bytes ⟨l, ℓ, r.toks, ⟨rfl, rfl, rfl⟩, _, Rep.mk (v := .bytes x) s.toks, rfl, h⟩

/-! bytes -/
theorem Call_bytes_ints {a : Addr} {is : List Int} (ha : (a, O.list (is.map .int)) ∈ l) (hr : ∀ k ∈ is, 0 ≤ k ∧ k < 256) (hz : is.length ≤ 10000) (h : P (.bytes (is.map fun k => k.toNat.toUInt8)) l) : CallV u n f l ℓ (.ty "bytes") [.ref a] P := by
  rintro x xs ⟨tk, rfl⟩ rxs
  obtain ⟨_, rfl⟩ := one_arg rxs
  refine .of fun hu hf s r => ?_
  obtain ⟨ys, ry, hl⟩ := r.isList ha
  have el := ry.length
  refine call_bytes_ints hl (ints_of ry) hr (by rw [← el, List.length_map]; have : sizeLine = 16777216 := rfl; lia) (r.hand hf) fun h' t k hk => ?_
  exact ⟨l, ℓ, (r.grow (s' := { s with heap := h', toks := k }) hk), ⟨rfl, rfl, rfl⟩, _, Rep.mk (v := .bytes (is.map fun k => k.toNat.toUInt8)) t, rfl, h⟩
theorem Bin_bytes {a b : List UInt8} (hz : a.length + b.length ≤ 10000) (h : P (.bytes (a ++ b)) l) : BinV u n f l ℓ .Add (.bytes a) (.bytes b) P := by
  rintro x y ⟨t, rfl⟩ ⟨t', rfl⟩
  refine .of fun hu hf s r => KBy.add_bytes (by simp; lia) fun t k => ⟨l, ℓ, r.toks, ⟨rfl, rfl, rfl⟩, .bytes (a ++ b), ⟨t, by simp⟩, rfl, h⟩
theorem Call_len_bytes {b : List UInt8} (hz : b.length ≤ 10000) (h : P (.int b.length) l) : CallV u n f l ℓ (.bi "len") [.bytes b] P := by
  rintro x xs ⟨tk, rfl⟩ rxs
  obtain ⟨_, rfl⟩ := one_arg rxs
  refine .of fun hu hf s r => len_bytes (by simp; lia) ⟨l, ℓ, r.toks, ⟨rfl, rfl, rfl⟩, .int b.length, ⟨s.toks + 1, by simp⟩, rfl, h⟩
theorem Itm_bytes {b : List UInt8} {x : UInt8} (h0 : 0 ≤ i) (hz : b.length ≤ 10000) (hx : b[i.toNat]? = some x) (h : P (.int x.toNat) l) : ItmV u n f l ℓ (.bytes b) (.int i) P := by
  rintro y z value slice ⟨t, rfl⟩ ⟨t', rfl⟩ hs
  refine .of fun hu hf s r => ?_
  obtain ⟨hlt, _⟩ := List.getElem?_eq_some_iff.mp hx
  refine tail_any (typeIs_bytes _ _ _) FB.slot_bytes_getitem.lookup (getItem_bytes (by lia) h0 (by lia) ?_) (hs _ _)
  refine ⟨l, ℓ, r.toks, ⟨rfl, rfl, rfl⟩, .int x.toNat, ⟨s.toks, ?_⟩, rfl, h⟩
  rw [List.getD_eq_getElem?_getD, hx]; rfl
theorem Itm_bytes_slice {c : Addr} {b : List UInt8} {lo hi : Option Int} (hz : b.length ≤ 10000) (h : P (.bytes (cut b lo hi)) l) : ItmS u n f ((c, .slice lo hi) :: l) ℓ (.bytes b) (.ref c) P := by
  rintro y z value slice ⟨t, rfl⟩ ⟨t', rfl⟩ hs
  refine .of fun hu hf s r => ?_
  refine elX2_3 ?_ ((r.led _ (.head _)).1); rintro p q hp hq ho
  have r' := r.drop
  refine tail_any (typeIs_bytes _ _ _) FB.slot_bytes_getitem.lookup (getItem_meets (typeIs_bytes _ _ _) (by decide) FB.slot_bytes_getitem FB.entry_bytes_getitem (FB.args_bytes_getitem_2 _ _) (KBc.meets_slice2 _ t c hp hq)
    ⟨⟨_, ho, rfl, rfl⟩, Nat.le_trans (KBc.size_picked_le _ lo hi) (by have : sizeLine = 16777216 := rfl; simp; lia), fun t' k => ?_⟩) (hs _ _)
  refine ⟨l, ℓ, r'.toks, ⟨rfl, rfl, rfl⟩, .bytes (cut b lo hi), ⟨t', ?_⟩, rfl, h⟩
  rw [KBc.picked_eq]; simp only [cut, List.size_toArray]

/-! lists -/
theorem Reps.drop {vs xs} (h : Reps vs xs) : ∀ k : Nat, Reps (vs.drop k) (xs.drop k) := by
  induction h with
  | nil => intro k; simp; exact .nil
  | cons r h ih =>
    intro k
    cases k with
    | zero => exact .cons r h
    | succ k => exact ih k
theorem Reps.take {vs xs} (h : Reps vs xs) : ∀ k : Nat, Reps (vs.take k) (xs.take k) := by
  induction h with
  | nil => intro k; simp; exact .nil
  | cons r h ih =>
    intro k
    cases k with
    | zero => exact .nil
    | succ k => exact .cons r (ih k)
theorem Reps.cut {vs xs} (h : Reps vs xs) (lo hi : Option Int) : Reps (cut vs lo hi) (Mine.cut xs lo hi) := by
  unfold Mine.cut
  rw [h.length]
  exact (h.drop _).take _
theorem slicePick_eq (xs : List Value) (lo hi : Option Int) : slicePick xs.toArray lo hi none = (cut xs lo hi).toArray := by
  unfold slicePick cut
  rw [sliceBounds_plain]
  simp only [sliceRange_one, pick_run, List.size_toArray]
theorem Call_len_list {a : Addr} {vs : List V} (ha : (a, O.list vs) ∈ l) (hz : vs.length ≤ 10000) (h : P (.int vs.length) l) : CallV u n f l ℓ (.bi "len") [.ref a] P := by
  rintro x xs ⟨tk, rfl⟩ rxs
  obtain ⟨_, rfl⟩ := one_arg rxs
  refine .of fun hu hf s r => ?_
  obtain ⟨ys, ry, hl⟩ := r.isList ha
  have el := ry.length
  refine len_list hl (by rw [List.size_toArray, ← el]; lia) ?_
  refine ⟨l, ℓ, r.toks, ⟨rfl, rfl, rfl⟩, .int vs.length, ?_, rfl, h⟩
  exact ⟨_, by rw [List.size_toArray, ← el]⟩
theorem Itm_list_slice {a c : Addr} {vs : List V} {lo hi : Option Int} (ha : (a, O.list vs) ∈ l) (hz : vs.length ≤ 10000) (h : ∀ d, P (.ref d) ((d, .list (cut vs lo hi)) :: l)) :
    ItmS u n f ((c, .slice lo hi) :: l) ℓ (.ref a) (.ref c) P := by
  rintro y z value slice ⟨t, rfl⟩ ⟨t', rfl⟩ hs
  refine .of fun hu hf s r => ?_
  refine elX2_3 ?_ ((r.led _ (.head _)).1); rintro p q hp hq ho
  have r' := r.drop
  obtain ⟨ys, ry, hl⟩ := r'.isList ha
  have el := ry.length
  refine tail_any hl.typeIs slot_list_getitem.lookup (wpAny_getItem_list_slice hl ⟨_, ho, rfl, rfl⟩ hp hq .none (by simp) ?_ (by have : sizeLine = 16777216 := rfl; rw [List.size_toArray, ← el]; lia)) (hs _ _)
  refine ⟨_, ℓ, r'.alloc (o := .list (cut vs lo hi)) (s' := { s with heap := s.heap.push _ }) rfl ⟨cut ys lo hi, 0, ?_, ?_⟩, ⟨rfl, rfl, rfl⟩, _, Rep.mk (v := .ref s.heap.objs.size) 0, rfl, h _⟩
  · exact ry.cut lo hi
  · rw [Heap.get?_push_size _ rfl, slicePick_eq]

theorem eraseLast_list (xs : List Value) : (xs.toArray.eraseIdxIfInBounds (xs.toArray.size - 1)).toList = xs.dropLast := by
  rw [Array.toList_eraseIdxIfInBounds]
  simp only [List.size_toArray]
  rw [List.eraseIdx_eq_take_drop_succ, List.dropLast_eq_take, List.drop_eq_nil_of_le (Nat.le_add_of_sub_le (Nat.le_refl _)), List.append_nil]
theorem Reps.dropLast {vs xs} (h : Reps vs xs) : Reps vs.dropLast xs.dropLast := by
  rw [List.dropLast_eq_take, List.dropLast_eq_take, h.length]
  exact h.take _
theorem Reps.reverse {vs xs} (h : Reps vs xs) : Reps vs.reverse xs.reverse := by
  induction h with
  | nil => exact .nil
  | cons r _ ih => simp only [List.reverse_cons]; exact ih.append (.cons r .nil)
theorem Call_pop {a : Addr} {vs : List V} {v : V} {l' : Led} (hv : vs.getLast? = some v) (hz : vs.length ≤ 10000) (t : Turn a (.list vs) (.list vs.dropLast) l l') (h : P v l') : CallV u n f l ℓ (.bi "list.pop") [.ref a] P := by
  rintro x xs ⟨tk, rfl⟩ rxs
  obtain ⟨_, rfl⟩ := one_arg rxs
  refine .of fun hu hf s r => ?_
  refine elX2_2 ?_ (r.list t.mem); rintro ys m ry ho
  have el := ry.length
  have hv' : vs[vs.length - 1]? = some v := by rw [← List.getLast?_eq_getElem?]; exact hv
  obtain ⟨z, hz', rz⟩ := ry.get hv'
  have hat : ∃ m', (s.heap.update a (Obj.mapSeq fun xs => xs.eraseIdxIfInBounds (ys.toArray.size - 1))).get? a = some { cls := .type "list", data := .seq ys.dropLast.toArray m' } := by
    have q := Heap.get?_update_self (Obj.mapSeq fun xs => xs.eraseIdxIfInBounds (ys.toArray.size - 1)) ho rfl
    have e : ys.dropLast.toArray = ys.toArray.eraseIdxIfInBounds (ys.toArray.size - 1) := by rw [← eraseLast_list, Array.toArray_toList]
    rw [e]
    exact ⟨_, q⟩
  obtain ⟨m', hat⟩ := hat
  refine call_meets F.slot_list_pop (T := "list") ⟨_, ho, rfl⟩ F.entry_list_pop (F.args_list_pop_1 _) (MeetsSeq.list_pop_last a ys.toArray m z (by rw [List.size_toArray, ← el]; simpa using hz') (by have : sizeLine = 16777216 := rfl; rw [List.size_toArray, ← el]; lia)) ⟨ho, ?_⟩
  exact ⟨l', ℓ, r.turn (s' := { s with heap := s.heap.update a _ }) t (Heap.SameBut.update ..) ⟨ys.dropLast, m', ry.dropLast, hat⟩, ⟨rfl, rfl, rfl⟩, v, rz, rfl, h⟩
theorem Call_reverse {a : Addr} {vs : List V} {l' : Led} (hz : vs.length ≤ 10000) (t : Turn a (.list vs) (.list vs.reverse) l l') (h : P .none l') : CallV u n f l ℓ (.bi "list.reverse") [.ref a] P := by
  rintro x xs ⟨tk, rfl⟩ rxs
  obtain ⟨_, rfl⟩ := one_arg rxs
  refine .of fun hu hf s r => ?_
  refine elX2_2 ?_ (r.list t.mem); rintro ys m ry ho
  have el := ry.length
  have hat : ∃ m', (s.heap.update a (Obj.mapSeq fun x => x.reverse)).get? a = some { cls := .type "list", data := .seq ys.reverse.toArray m' } := by
    have q := Heap.get?_update_self (Obj.mapSeq fun x => x.reverse) ho rfl
    have e : ys.reverse.toArray = ys.toArray.reverse := by rw [List.reverse_toArray]
    rw [e]
    exact ⟨_, q⟩
  obtain ⟨m', hat⟩ := hat
  refine call_meets F.slot_list_reverse (T := "list") ⟨_, ho, rfl⟩ F.entry_list_reverse (F.args_list_reverse_1 _) (AutoSeq1.list_reverse_list_0 a ys.toArray m (by have : sizeLine = 16777216 := rfl; rw [List.size_toArray, ← el]; lia)) ⟨ho, ?_⟩
  exact ⟨l', ℓ, r.turn (s' := { s with heap := s.heap.update a _ }) t (Heap.SameBut.update ..) ⟨ys.reverse, m', ry.reverse, hat⟩, ⟨rfl, rfl, rfl⟩, _, Rep.mk (v := .none) 0, rfl, h⟩
/-! methods of lists -/
theorem Meth_list {a : Addr} {vs : List V} {name : Str} {id : String} {Q : V → List V → Led → Prop} (slot : Slot "list" name id) (hty : typeOf (.builtin id) = Pure.pure (.type "method_descriptor")) (ha : (a, O.list vs) ∈ l) (h : Q (.bi id) [.ref a] l) :
    MethV u n f l ℓ (.ref a) name Q := by
  rintro x pl ⟨t, rfl⟩
  refine .of fun hu hf s r => ?_
  refine elX2_2 ?_ (r.list ha); rintro ys m ry ho
  refine getMethod_builtin (T := "list") ⟨_, ho, rfl⟩ F.plainAttrs_list slot hty (fun b e => ?_) ⟨l, ℓ, r, .refl s, .bi id, [.ref a], Rep.mk (v := .bi id) 0, .cons (Rep.mk (v := .ref a) 0) .nil, rfl, h⟩
  cases e; exact ⟨_, ho, rfl⟩
end

/-! dicts with ints for keys -/
noncomputable def dAt (kvs : List (Int × V)) (k : Int) : Option V := (kvs.find? fun kv => kv.1 = k).map (·.2)
noncomputable def dPut (kvs : List (Int × V)) (k : Int) (v : V) : List (Int × V) :=
  if kvs.any (fun kv => kv.1 = k) then kvs.map (fun kv => if kv.1 = k then (kv.1, v) else kv) else kvs ++ [(k, v)]
noncomputable def dDel (kvs : List (Int × V)) (k : Int) : List (Int × V) := kvs.filter fun kv => decide (kv.1 ≠ k)
theorem RepK.length {a b} (h : RepK a b) : a.length = b.length := by induction h <;> simp_all
theorem RepK.keys {a b} (h : RepK a b) : a.map (·.1) = b.map (·.1) := by induction h <;> simp_all
theorem RepK.at {a b} (h : RepK a b) (k : Int) : RepO (dAt a k) (valueAt b k) := by
  induction h with
  | nil => exact trivial
  | @cons k' v x vs xs r _ ih =>
    unfold dAt valueAt at ih ⊢
    by_cases e : k' = k
    · rw [List.find?_cons_of_pos (by simpa using e), List.find?_cons_of_pos (by simpa using e)]; exact r
    · rw [List.find?_cons_of_neg (by simpa using e), List.find?_cons_of_neg (by simpa using e)]; exact ih
theorem RepK.app {a b a' b'} (h : RepK a b) (h' : RepK a' b') : RepK (a ++ a') (b ++ b') := by
  induction h with
  | nil => exact h'
  | cons r _ ih => exact .cons r ih
theorem RepK.put {a b} (h : RepK a b) (k : Int) {v : V} {y : Value} (r : Rep v y) : RepK (dPut a k v) (stored b k y) := by
  unfold dPut stored
  have e : (a.any fun kv => decide (kv.1 = k)) = b.any fun kv => decide (kv.1 = k) := by
    induction h with
    | nil => rfl
    | cons _ _ ih => simp only [List.any_cons, ih]
  rw [e]
  split
  · clear e
    rename_i hh; clear hh
    induction h with
    | nil => exact .nil
    | @cons k' v' x vs xs r' _ ih =>
      simp only [List.map_cons]
      by_cases q : k' = k
      · rw [if_pos q, if_pos q]; exact .cons r ih
      · rw [if_neg q, if_neg q]; exact .cons r' ih
  · exact h.app (.cons r .nil)
theorem RepK.del {a b} (h : RepK a b) (k : Int) : RepK (dDel a k) (without b k) := by
  unfold dDel without
  induction h with
  | nil => exact .nil
  | @cons k' v x vs xs r _ ih =>
    by_cases e : k' = k
    · rw [List.filter_cons_of_neg (by simpa using e), List.filter_cons_of_neg (by simpa using e)]; exact ih
    · rw [List.filter_cons_of_pos (by simpa using e), List.filter_cons_of_pos (by simpa using e)]; exact .cons r ih
section
variable {u : U} {n : Nat} {f : Fm} {l : Led} {ℓ : Loc} {P : V → Led → Prop} {B : Bool → Led → Prop} {i j : Int}
theorem RS.dict {s : Shared} {a : Addr} {kvs : List (Int × V)} (r : RS u f l ℓ s) (h : (a, O.dict kvs) ∈ l) : (a == sysModules) = false ∧ ∃ xs, RepK kvs xs ∧ s.heap.DictOf (intKind u.prog u.w) a xs := (r.led _ h).1
theorem not_sys (P : Params) : ((hd.heap_39 P).lookup 151).isSome = true := by kernel_rfl!
theorem RS.noSys {s : Shared} (r : RS u f l ℓ s) (hu : u.Ok) (hf : f.Ok u n) : (s.heap.objs.size == sysModules) = false := by
  obtain ⟨o, ho⟩ := Option.isSome_iff_exists.mp (not_sys u.w.params)
  have := Heap.lt_size (r.K hu hf _ _ ho)
  rw [beq_eq_false_iff_ne]
  exact Nat.ne_of_gt (Nat.lt_trans (show sysModules < 151 by decide) this)
theorem Cmp_in_dict {a : Addr} {kvs : List (Int × V)} (ha : (a, O.dict kvs) ∈ l) (h : P (.bool (dAt kvs i).isSome) l) : CmpV u n f l ℓ .In (.int i) (.ref a) P := by
  rintro x y ⟨t, rfl⟩ ⟨t', rfl⟩
  refine .of fun hu hf s r => ?_
  refine elA2 ?_ (r.dict ha); rintro hs; refine elX1_2 ?_; rintro xs rk hd
  refine wpAny_in_of (knd := intKind u.prog u.w) (intKind_is _ _ _ _) hs hd.mapOf ⟨l, ℓ, r.toks, ⟨rfl, rfl, rfl⟩, .bool (dAt kvs i).isSome, ⟨0, ?_⟩, rfl, h⟩
  have := rk.at i
  cases e : dAt kvs i <;> cases e' : valueAt xs i <;> rw [e, e'] at this <;> first | rfl | exact this.elim
theorem Cmp_notin_dict {a : Addr} {kvs : List (Int × V)} (ha : (a, O.dict kvs) ∈ l) (h : P (.bool (!(dAt kvs i).isSome)) l) : CmpV u n f l ℓ .NotIn (.int i) (.ref a) P := by
  rintro x y ⟨t, rfl⟩ ⟨t', rfl⟩
  refine .of fun hu hf s r => ?_
  refine elA2 ?_ (r.dict ha); rintro hs; refine elX1_2 ?_; rintro xs rk hd
  refine wpAny_notIn_of (knd := intKind u.prog u.w) (intKind_is _ _ _ _) hs hd.mapOf ⟨l, ℓ, r.toks, ⟨rfl, rfl, rfl⟩, .bool (!(dAt kvs i).isSome), ⟨0, ?_⟩, rfl, h⟩
  have := rk.at i
  cases e : dAt kvs i <;> cases e' : valueAt xs i <;> rw [e, e'] at this <;> first | rfl | exact this.elim
theorem Itm_dict {a : Addr} {kvs : List (Int × V)} {v : V} (ha : (a, O.dict kvs) ∈ l) (hv : dAt kvs i = some v) (h : P v l) : ItmV u n f l ℓ (.ref a) (.int i) P := by
  rintro x y value slice ⟨t, rfl⟩ ⟨t', rfl⟩ hs
  refine .of fun hu hf s r => ?_
  refine elA2 ?_ (r.dict ha); rintro _; refine elX1_2 ?_; rintro xs rk hd
  have := rk.at i
  rw [hv] at this
  cases e' : valueAt xs i with
  | none => rw [e'] at this; exact this.elim
  | some z =>
    rw [e'] at this
    exact tail_any hd.typeIs slot_dict_getitem.lookup (wpAny_getItem_of (knd := intKind u.prog u.w) (intKind_is _ _ _ _) hd.mapOf e' ⟨l, ℓ, r.toks, ⟨rfl, rfl, rfl⟩, v, this, rfl, h⟩) (hs _ _)
theorem Put_dict {a : Addr} {kvs : List (Int × V)} {v : V} {l' : Led} {R : Led → Prop} (hz : kvs.length ≤ 10000) (t : Turn a (.dict kvs) (.dict (dPut kvs i v)) l l') (h : R l') : PutV u n f l ℓ (.ref a) (.int i) v R := by
  rintro x y z ⟨tk, rfl⟩ ⟨tk', rfl⟩ rz
  refine .of fun hu hf s r => ?_
  refine elA2 ?_ (r.dict t.mem); rintro hs; refine elX1_2 ?_; rintro xs rk hd
  refine wpAny_setItem_pairs (knd := intKind u.prog u.w) (intKind_is _ _ _ _) hd (fun h' hd' sb => ?_) (by have : sizeLine = 16777216 := rfl; rw [← rk.length]; lia)
  exact ⟨l', ℓ, r.turn (s' := { s with heap := h', toks := s.toks + 1 }) t sb ⟨hs, _, rk.put i rz, hd'⟩, ⟨rfl, rfl, rfl⟩, rfl, h⟩
theorem Call_len_dict {a : Addr} {kvs : List (Int × V)} (ha : (a, O.dict kvs) ∈ l) (hz : kvs.length ≤ 10000) (h : P (.int kvs.length) l) : CallV u n f l ℓ (.bi "len") [.ref a] P := by
  rintro x xs ⟨tk, rfl⟩ rxs
  obtain ⟨_, rfl⟩ := one_arg rxs
  refine .of fun hu hf s r => ?_
  refine elA2 ?_ (r.dict ha); rintro hs; refine elX1_2 ?_; rintro xs rk hd
  have el := rk.length
  refine call_len_dict hs hd (by rw [← el]; lia) ⟨l, ℓ, r.toks, ⟨rfl, rfl, rfl⟩, .int kvs.length, ⟨s.toks + 1, by rw [el]⟩, rfl, h⟩
theorem Call_get {a : Addr} {kvs : List (Int × V)} {d : V} (ha : (a, O.dict kvs) ∈ l) (h : P ((dAt kvs i).getD d) l) : CallV u n f l ℓ (.bi "dict.get") [.ref a, .int i, d] P := by
  rintro x xs ⟨tk, rfl⟩ rxs
  refine elE3 ?_ (three_args rxs); rintro _ _ t3; rintro rfl
  refine .of fun hu hf s r => ?_
  refine elA2 ?_ (r.dict ha); rintro hs; refine elX1_2 ?_; rintro xs rk hd
  refine call_meetsIn F.slot_dict_get hd.typeIs F.entry_dict_get (F.args_dict_get_3 _ _ _) (meets_dict_get_default (intKind u.prog u.w) a (intKind_is _ _ i _) hs _) ⟨valueAt xs, hd.mapOf, ?_⟩
  refine ⟨l, ℓ, r.toks, ⟨rfl, rfl, rfl⟩, (dAt kvs i).getD d, ?_, rfl, h⟩
  have := rk.at i
  cases e : dAt kvs i <;> cases e' : valueAt xs i <;> rw [e, e'] at this <;> first | exact this | exact this.elim | exact ⟨t3, rfl⟩
theorem Call_dpop {a : Addr} {kvs : List (Int × V)} {v : V} {l' : Led} (hz : kvs.length ≤ 10000) (hv : dAt kvs i = some v) (t : Turn a (.dict kvs) (.dict (dDel kvs i)) l l') (h : P v l') : CallV u n f l ℓ (.bi "dict.pop") [.ref a, .int i] P := by
  rintro x xs ⟨tk, rfl⟩ rxs
  obtain ⟨_, _, rfl⟩ := two_args rxs
  refine .of fun hu hf s r => ?_
  refine elA2 ?_ (r.dict t.mem); rintro hs; refine elX1_2 ?_; rintro xs rk hd
  have := rk.at i
  rw [hv] at this
  cases e' : valueAt xs i with
  | none => rw [e'] at this; exact this.elim
  | some z =>
    rw [e'] at this
    refine call_meetsIn F.slot_dict_pop hd.typeIs F.entry_dict_pop (F.args_dict_pop_2 _ _) (meets_dict_pop_there (intKind u.prog u.w) a (intKind_is _ _ i _) [] (.inl rfl) rfl) ⟨xs, z, hd, (by have : sizeLine = 16777216 := rfl; rw [← rk.length]; lia), e', fun h' hd' sb => ?_⟩
    exact ⟨l', ℓ, r.turn (s' := { s with heap := h', toks := s.toks + 1 }) t sb ⟨hs, _, rk.del i, hd'⟩, ⟨rfl, rfl, rfl⟩, v, this, rfl, h⟩
theorem Call_dict {a : Addr} {kvs : List (Int × V)} (ha : (a, O.dict kvs) ∈ l) (hz : kvs.length ≤ 10000) (h : ∀ d, P (.ref d) ((d, .dict kvs) :: l)) : CallV u n f l ℓ (.ty "dict") [.ref a] P := by
  rintro x xs ⟨tk, rfl⟩ rxs
  obtain ⟨_, rfl⟩ := one_arg rxs
  refine .of fun hu hf s r => ?_
  refine elA2 ?_ (r.dict ha); rintro hs; refine elX1_2 ?_; rintro xs rk hd
  have ns := r.noSys hu hf
  refine kt_call_dict hs hd (by have : sizeLine = 16777216 := rfl; rw [← rk.length]; lia) fun h' hd' sb => ?_
  have r1 := r.alloc (o := .dict []) (s' := { s with heap := s.heap.push { cls := .type "dict", data := .dict #[] } }) rfl ⟨ns, [], .nil, Heap.DictOf.new s.heap⟩
  exact ⟨_, ℓ, r1.turn (s' := { s with heap := h' }) (o' := .dict kvs) .head sb ⟨ns, xs, rk, hd'⟩, ⟨rfl, rfl, rfl⟩, _, Rep.mk (v := .ref s.heap.objs.size) 0, rfl, h _⟩
theorem Cmp_eq_dict {a b : Addr} {kvs : List (Int × V)} (ha : (a, O.dict kvs) ∈ l) (hb : (b, O.dict []) ∈ l) (h : P (.bool kvs.isEmpty) l) : CmpV u n f l ℓ .Eq (.ref a) (.ref b) P := by
  rintro x y ⟨t, rfl⟩ ⟨t', rfl⟩
  refine .of fun hu hf s r => ?_
  refine elA2 ?_ (r.dict ha); rintro hs; refine elX1_2 ?_; rintro xs rk hd
  refine elA2 ?_ (r.dict hb); rintro hs'; refine elX1_2 ?_; rintro xs' rk' hd'
  cases rk'
  have hr := hf.room.2.1
  refine keq_eq hs hs' hd hd' (r := true) (by have : cLine = 9900 := rfl; lia) (fun e => ?_) ⟨l, ℓ, r, .refl s, .bool kvs.isEmpty, ⟨0, ?_⟩, rfl, h⟩
  · have : xs = [] := List.length_eq_zero_iff.mp e
    subst this; exact .nil
  · have el := rk.length
    cases kvs with
    | nil => cases rk; rfl
    | cons => cases rk; rfl
theorem Meth_dict {a : Addr} {kvs : List (Int × V)} {name : Str} {id : String} {Q : V → List V → Led → Prop} (slot : Slot "dict" name id) (hty : typeOf (.builtin id) = Pure.pure (.type "method_descriptor")) (ha : (a, O.dict kvs) ∈ l) (h : Q (.bi id) [.ref a] l) :
    MethV u n f l ℓ (.ref a) name Q := by
  rintro x pl ⟨t, rfl⟩
  refine .of fun hu hf s r => ?_
  refine elA2 ?_ (r.dict ha); rintro _; refine elX1_2 ?_; rintro xs rk hd
  have hd2 := hd
  refine elX3_5 ?_ hd2; clear hd2; rintro ob es ep ho ex hdd hk hp
  refine getMethod_builtin (T := "dict") hd.typeIs F.plainAttrs_dict slot hty (fun b e => ?_) ⟨l, ℓ, r, .refl s, .bi id, [.ref a], Rep.mk (v := .bi id) 0, .cons (Rep.mk (v := .ref a) 0) .nil, rfl, h⟩
  cases e; exact ⟨_, ho, ex.2.1⟩
/-- {} -/
theorem Ev_Dict0 {pos : Pos} (h : ∀ a, P (.ref a) ((a, .dict []) :: l)) : Ev u n f l ℓ (.Dict [] [] pos) P := by
  refine W.eq (eval_Dict_empty _) (W.bind (W.standAt (.of fun hu hf s r => ?_)))
  refine wpAny_newObj_type ?_ (Nat.zero_le _)
  exact ⟨_, ℓ, r.alloc (o := .dict []) (s' := { s with heap := s.heap.push { cls := .type "dict", data := .dict #[] } }) rfl ⟨r.noSys hu hf, [], .nil, Heap.DictOf.new s.heap⟩, ⟨rfl, rfl, rfl⟩, _, Rep.mk (v := .ref s.heap.objs.size) 0, rfl, h _⟩
end

section
variable {u : U} {n : Nat} {f : Fm} {l : Led} {ℓ : Loc} {P : V → Led → Prop} {B : Bool → Led → Prop} {i j : Int}
noncomputable def allOf (g : Heap) : List (Addr × Obj) := (List.range g.objs.size).filterMap fun i => (g.get? i).map fun o => (i, o)
theorem mem_allOf {g : Heap} {a : Addr} {o : Obj} : (a, o) ∈ allOf g ↔ g.get? a = some o := by
  unfold allOf
  rw [List.mem_filterMap]
  constructor
  · rintro ⟨i, _, e⟩
    obtain ⟨o', h, q⟩ := Option.map_eq_some_iff.mp e
    cases q; exact h
  · intro h
    exact ⟨a, List.mem_range.mpr (Heap.lt_size h), by rw [h]; rfl⟩
noncomputable def noHeap : Heap := { (default : Heap) with objs := #[] }
theorem noHeap_get (b : Addr) : noHeap.get? b = none := by
  cases e : noHeap.get? b with
  | none => rfl
  | some o => exact absurd (show b < 0 from Heap.lt_size e) (Nat.not_lt_zero b)
theorem RS.toNews {s : Shared} (r : RS u f l ℓ s) : ∃ h₀ m news, Fr h₀ f.L s.heap m ∧ News h₀ f.L s.heap news ∧ ∀ h' tk, Fr h₀ f.L h' m → News h₀ f.L h' news → RS u f l ℓ { s with heap := h', toks := tk } := by
  obtain ⟨⟨m, F, nd, hl⟩, nodup, led⟩ := r
  have hob : ∀ p ∈ l, ∃ ob, s.heap.get? p.1 = some ob := fun p hp => (led p hp).1.there
  refine ⟨noHeap, m, (l.map fun p => (p.1, (s.heap.get? p.1).getD default)) ++ allOf f.g, ⟨F.ns, (fun b o e => by rw [noHeap_get] at e; cases e), Nat.zero_le _⟩, fun q hq => ?_, fun h' tk F' N' => ⟨⟨m, ⟨F'.ns, fun b o e => ?_, F.off⟩, nd, hl⟩, nodup, fun p hp => ⟨(led p hp).1.congr fun ob e => ?_, (led p hp).2⟩⟩⟩
  · rcases List.mem_append.mp hq with hq | hq
    · obtain ⟨p, hp, rfl⟩ := List.mem_map.mp hq
      obtain ⟨ob, e⟩ := hob p hp
      refine ⟨?_, (led p hp).2.1, noHeap_get _⟩
      dsimp only
      rw [e]; rfl
    · obtain ⟨a, o⟩ := q
      have e := mem_allOf.mp hq
      exact ⟨F.keep _ _ e, (fun h => by have h : a = f.L := h; rw [h, F.off] at e; cases e), noHeap_get _⟩
  · exact (N' (b, o) (List.mem_append_right _ (mem_allOf.mpr e))).1
  · have := (N' _ (List.mem_append_left _ (List.mem_map.mpr ⟨p, hp, rfl⟩))).1
    dsimp only at this
    rw [e] at this
    exact this
theorem Call_max2 (h : P (.int (max i j)) l) : CallV u n f l ℓ (.bi "max") [.int i, .int j] P := by
  rintro x xs ⟨tk, rfl⟩ rxs
  obtain ⟨t1, t2, rfl⟩ := two_args rxs
  refine .of fun hu hf s r => max_two_ints (r.hand hf) fun h' tk hk => ?_
  refine ⟨l, ℓ, r.grow (s' := { s with heap := h', toks := tk }) hk, ⟨rfl, rfl, rfl⟩, .int (max i j), ?_, rfl, h⟩
  split
  · exact ⟨t2, by rw [Int.max_eq_right (by lia)]⟩
  · exact ⟨t1, by rw [Int.max_eq_left (by lia)]⟩
theorem Call_min2 (h : P (.int (min i j)) l) : CallV u n f l ℓ (.bi "min") [.int i, .int j] P := by
  rintro x xs ⟨tk, rfl⟩ rxs
  obtain ⟨t1, t2, rfl⟩ := two_args rxs
  refine .of fun hu hf s r => min_two_ints (r.hand hf) fun h' tk hk => ?_
  refine ⟨l, ℓ, r.grow (s' := { s with heap := h', toks := tk }) hk, ⟨rfl, rfl, rfl⟩, .int (min i j), ?_, rfl, h⟩
  split
  · exact ⟨t2, by rw [Int.min_eq_right (by lia)]⟩
  · exact ⟨t1, by rw [Int.min_eq_left (by lia)]⟩
theorem Call_min_list {a : Addr} {is : List Int} (ha : (a, O.list (is.map .int)) ∈ l) (hne : 0 < is.length) (h : ∀ m, m ∈ is → (∀ x ∈ is, m ≤ x) → P (.int m) l) : CallV u n f l ℓ (.bi "min") [.ref a] P := by
  rintro x xs ⟨tk, rfl⟩ rxs
  obtain ⟨_, rfl⟩ := one_arg rxs
  refine .of fun hu hf s r => ?_
  obtain ⟨ys, ry, hl⟩ := r.isList ha
  refine elX3_3 ?_ r.toNews; rintro h₀ m news F N back
  exact min_list_N (r.hand hf) F N hl (ints_of ry) hne fun h' M t tk F' N' h1 h2 => ⟨l, ℓ, back h' tk F' N', ⟨rfl, rfl, rfl⟩, .int M, ⟨t, rfl⟩, rfl, h M h1 h2⟩
theorem Call_max_list {a : Addr} {is : List Int} (ha : (a, O.list (is.map .int)) ∈ l) (hne : 0 < is.length) (h : ∀ m, m ∈ is → (∀ x ∈ is, x ≤ m) → P (.int m) l) : CallV u n f l ℓ (.bi "max") [.ref a] P := by
  rintro x xs ⟨tk, rfl⟩ rxs
  obtain ⟨_, rfl⟩ := one_arg rxs
  refine .of fun hu hf s r => ?_
  obtain ⟨ys, ry, hl⟩ := r.isList ha
  refine elX3_3 ?_ r.toNews; rintro h₀ m news F N back
  exact max_list_N (r.hand hf) F N hl (ints_of ry) hne fun h' M t tk F' N' h1 h2 => ⟨l, ℓ, back h' tk F' N', ⟨rfl, rfl, rfl⟩, .int M, ⟨t, rfl⟩, rfl, h M h1 h2⟩
theorem Call_sum {a : Addr} {is : List Int} (ha : (a, O.list (is.map .int)) ∈ l) (h : P (.int is.sum) l) : CallV u n f l ℓ (.bi "sum") [.ref a] P := by
  rintro x xs ⟨tk, rfl⟩ rxs
  obtain ⟨_, rfl⟩ := one_arg rxs
  refine .of fun hu hf s r => ?_
  obtain ⟨ys, ry, hl⟩ := r.isList ha
  obtain ⟨xs', hx⟩ := (ints_of ry).allInts.items
  have hl' : s.heap.IsList a (intItems xs') := hx ▸ hl
  refine sum_intListG (r.hand hf) hl' fun h' tk t' hk => ?_
  have e1 : is = xs'.toList.map (·.1) := by rw [← (ints_of ry).numsOf, ← nums_intItems, ← hx]
  have e2 : preSum (numAt xs') xs'.size = is.sum := by
    rw [preSum_eq, List.take_of_length_le (by simp), e1]
  rw [e2]
  exact ⟨l, ℓ, r.grow (s' := { s with heap := h', toks := tk }) hk, ⟨rfl, rfl, rfl⟩, .int is.sum, ⟨t', rfl⟩, rfl, h⟩

/-! more comparisons -/
theorem Cmp_eq_bool {a b : Bool} (h : P (.bool (a == b)) l) : CmpV u n f l ℓ .Eq (.bool a) (.bool b) P := by
  rintro x y ⟨t, rfl⟩ ⟨t', rfl⟩
  exact .of fun hu hf s r => cmp_ofEq (SeqAt.RcAt.bool_bool a b _ _ _ _ ⟨l, ℓ, r, .refl s, .bool (a == b), ⟨0, rfl⟩, rfl, h⟩)
theorem Cmp_ne_bool {a b : Bool} (h : P (.bool (!(a == b))) l) : CmpV u n f l ℓ .NotEq (.bool a) (.bool b) P := by
  rintro x y ⟨t, rfl⟩ ⟨t', rfl⟩
  exact .of fun hu hf s r => cmp_ofNotEq (SeqAt.RcNeAt.bool_bool a b _ _ _ _ ⟨l, ℓ, r, .refl s, .bool (!(a == b)), ⟨0, rfl⟩, rfl, h⟩)
theorem Cmp_eq_none_int (h : P (.bool false) l) : CmpV u n f l ℓ .Eq .none (.int j) P := by
  rintro x y ⟨t, rfl⟩ ⟨t', rfl⟩
  exact .of fun hu hf s r => cmp_ofEq (SeqAt.RcAt.none_int j t' _ _ _ _ ⟨l, ℓ, r, .refl s, .bool false, ⟨0, rfl⟩, rfl, h⟩)
theorem Bin_sub_bool {a b : Bool} (h : P (.int (b2i a - b2i b)) l) : BinV u n f l ℓ .Sub (.bool a) (.bool b) P := by
  rintro x y ⟨t, rfl⟩ ⟨t', rfl⟩
  exact .of fun hu hf s r => sub_bool ⟨l, ℓ, r.toks, ⟨rfl, rfl, rfl⟩, .int (b2i a - b2i b), Rep.mk (v := .int (b2i a - b2i b)) s.toks, rfl, h⟩
theorem ints_mem {is : List Int} {ys : List Value} (h : IntsAre ys is) : ∀ y ∈ ys.toArray, ∃ k t, y = .int k t := by
  intro y hy
  have hy : y ∈ ys := by simpa using hy
  induction h with
  | nil => cases hy
  | cons k t h ih =>
    rcases List.mem_cons.mp hy with rfl | hy
    · exact ⟨_, _, rfl⟩
    · exact ih (by simpa using hy) hy
noncomputable def isI (x : Int) : Value → Bool
  | .int k _ => k == x
  | _ => false
theorem ints_any {is : List Int} {ys : List Value} (h : IntsAre ys is) (x : Int) : ys.toArray.any (isI x) = is.contains x := by
  rw [List.any_toArray]
  induction h with
  | nil => rfl
  | cons k t h ih =>
    rw [List.any_cons, ih, List.contains_cons]
    show ((k == x) || _) = ((x == k) || _)
    rw [BEq.comm]
theorem Cmp_in_tup {a : Addr} {is : List Int} (ha : (a, O.tup (is.map .int)) ∈ l) (h : P (.bool (is.contains i)) l) : CmpV u n f l ℓ .In (.int i) (.ref a) P := by
  rintro x y ⟨t, rfl⟩ ⟨t', rfl⟩
  refine .of fun hu hf s r => ?_
  obtain ⟨ys, ry, hl⟩ := r.tup ha
  refine SeqAt.in_tupleAt (isI i) hl (fun y hy => ?_) ?_
  · obtain ⟨k, tk, rfl⟩ := ints_mem (ints_of ry) y hy
    exact SeqAt.EqAt.int_int k tk i t
  · rw [ints_any (ints_of ry)]
    exact ⟨l, ℓ, r, .refl s, .bool (is.contains i), ⟨0, rfl⟩, rfl, h⟩
theorem Cmp_notin_tup {a : Addr} {is : List Int} (ha : (a, O.tup (is.map .int)) ∈ l) (h : P (.bool (!is.contains i)) l) : CmpV u n f l ℓ .NotIn (.int i) (.ref a) P := by
  rintro x y ⟨t, rfl⟩ ⟨t', rfl⟩
  refine .of fun hu hf s r => ?_
  obtain ⟨ys, ry, hl⟩ := r.tup ha
  refine SeqAt.notIn_tupleAt (isI i) hl (fun y hy => ?_) ?_
  · obtain ⟨k, tk, rfl⟩ := ints_mem (ints_of ry) y hy
    exact SeqAt.EqAt.int_int k tk i t
  · rw [ints_any (ints_of ry)]
    exact ⟨l, ℓ, r, .refl s, .bool (!is.contains i), ⟨0, rfl⟩, rfl, h⟩
/-! the two tables of the text -/
noncomputable def KINDS_ : List Int := [2, 5, 10, 13]
noncomputable def SIZES_ : List Int := [0, 1, 2, 3, 4, 6, 8]
theorem Cmp_list_nil {a b : Addr} {is : List Int} (ha : (a, O.list (is.map .int)) ∈ l) (hb : (b, O.list []) ∈ l) (h : P (.bool is.isEmpty) l) : CmpV u n f l ℓ .Eq (.ref a) (.ref b) P := by
  rintro x y ⟨t, rfl⟩ ⟨t', rfl⟩
  refine .of fun hu hf s r => ?_
  obtain ⟨ys, ry, hl⟩ := r.isList ha
  obtain ⟨ys', ry', hl'⟩ := r.isList hb
  cases ry'
  have hr := hf.room.2.1
  refine eq_intsK hl (ints_of ry) hl' .nil (by have : cLine = 9900 := rfl; lia) ⟨l, ℓ, r, .refl s, .bool is.isEmpty, ⟨0, ?_⟩, rfl, h⟩
  cases is <;> simp
end

/-! loops -/
section
variable {u : U} {n : Nat} {f : Fm} {l : Led} {ℓ : Loc} {P : V → Led → Prop} {B : Bool → Led → Prop} {R : Fl → Led → Loc → Prop}
noncomputable def LoopR (I : Nat → Led → Loc → Prop) (k : Nat) (R : Fl → Led → Loc → Prop) : Fl → Led → Loc → Prop := fun r l ℓ => match r with
  | .next => ∃ m, m < k ∧ I m l ℓ
  | .cont => ∃ m, m < k ∧ I m l ℓ
  | .brk => R .next l ℓ
  | .ret v => R (.ret v) l ℓ
noncomputable abbrev FlP (u : U) (f : Fm) (s : Shared) (R : Fl → Led → Loc → Prop) : Result → Shared → Prop := fun r s' => match r with | .ok fl => Post u f s (ExP R) fl s' | .error _ => False
theorem while_codeX {test : Expr} {body orelse : List Stmt} (hu : u.Ok) (hf : f.Ok u n) (I : Nat → Led → Loc → Prop)
    (turn : ∀ k l ℓ, I k l ℓ → Tr u n f l ℓ test fun b l₁ => Br b (Exs u n f l₁ ℓ body (LoopR I k R)) (Exs u n f l₁ ℓ orelse R)) :
    ∀ k l ℓ, I k l ℓ → ∀ s, RS u f l ℓ s → codeX u.M f.A (.whileLoop test body orelse f.env) (FlP u f s R) s := by
  intro k
  induction k using Nat.strongRecOn with
  | ind k ih =>
    intro l ℓ hI s r
    refine codeX_of_tree ?_
    show wpX _ f.A ((whileTurn test body orelse f.env).onRaise (fun x => do noteFrame x f.env; theTreesLotGoes x)) _ _ s
    refine wpX_onRaise ?_
    unfold whileTurn
    refine wpX_bind (wpX_mono (turn k l ℓ hI hu hf s r) ?_ fun _ _ e => e)
    rintro b s₁; refine elX2_4 ?_; rintro l₁ ℓ₁ r₁ sm₁ rfl hb
    cases b with
    | false =>
      refine wpX_bind (wpX_mono (hb.2 rfl hu hf s₁ r₁) ?_ fun _ _ e => e)
      rintro fl s₂ p
      exact wpX_pure (p.trans sm₁)
    | true =>
      refine wpX_bind (wpX_mono (hb.1 rfl hu hf s₁ r₁) ?_ fun _ _ e => e)
      rintro fl s₂; refine elX2_3 ?_; rintro l₂ ℓ₂ r₂ sm₂; refine elX1_2 ?_; rintro rr hr h₂
      have sm := sm₁.trans sm₂
      have goOn : (∃ m, m < k ∧ I m l₂ ℓ₂) → codeX u.M f.A (.whileLoop test body orelse f.env) (FlP u f s R) s₂ := fun ⟨m, hm, hI⟩ =>
        codeX_mono (ih m hm l₂ ℓ₂ hI s₂ r₂) fun rs s₃ h₃ => by
          cases rs with
          | ok fl => exact Post.trans sm h₃
          | error e => exact h₃
      cases hr with
      | next => exact wpX_pure ⟨rfl, rfl, goOn h₂⟩
      | cont => exact wpX_pure ⟨rfl, rfl, goOn h₂⟩
      | brk => exact wpX_pure ⟨l₂, ℓ₂, r₂, sm, _, .next, h₂⟩
      | ret rv => exact wpX_pure ⟨l₂, ℓ₂, r₂, sm, _, .ret rv, h₂⟩
theorem Ex_While {test : Expr} {body orelse : List Stmt} {pos : Pos} (I : Nat → Led → Loc → Prop) (k : Nat) (h : I k l ℓ)
    (turn : ∀ k l ℓ, I k l ℓ → Tr u n f l ℓ test fun b l₁ => Br b (Exs u n f l₁ ℓ body (LoopR I k R)) (Exs u n f l₁ ℓ orelse R)) : Ex u n f l ℓ (.While test body orelse pos) R := by
  refine W.eq (exec_While ..) (W.bind (W.standAt ?_))
  intro hu hf s r
  refine wpX_onRaise (wpX_run rfl (codeX_mono (while_codeX hu hf I turn k l ℓ h s r) fun rs s' h' => ?_))
  cases rs with
  | ok fl => exact h'
  | error e => exact h'

/-! the frame is frozen but for the ledger and the locals -/
theorem RS.freeze {s : Shared} (r : RS u f l ℓ s) (hf : f.Ok u n) : ∃ f' : Fm, f'.env = f.env ∧ f'.A = f.A ∧ f'.L = f.L ∧ f'.Ok u n ∧ RS u f' l ℓ s ∧ (∀ b o, s.heap.get? b = some o → b ≠ f.L → b ∉ l.map (·.1) → f'.g.get? b = some o) ∧
    (∀ l' ℓ' s', RS u f' l' ℓ' s' → RS u f l' ℓ' s') := by
  obtain ⟨⟨m, F, nd, hl⟩, nodup, led⟩ := r
  have hm : ∀ b, f.g.get? b ≠ none → b ∉ f.L :: l.map (·.1) := fun b hb hm => by
    rcases List.mem_cons.mp hm with rfl | hm
    · exact hb F.off
    · obtain ⟨p, hp, rfl⟩ := List.mem_map.mp hm
      exact hb (led p hp).2.2
  have gk : ∀ b o, f.g.get? b = some o → (hideAll s.heap (f.L :: l.map (·.1))).get? b = some o := fun b o e =>
    hideAll_get _ (F.keep _ _ e) (hm b (by rw [e]; exact fun x => nomatch x))
  refine ⟨{ f with g := hideAll s.heap (f.L :: l.map (·.1)) }, rfl, rfl, rfl, ⟨fun b o e => gk _ _ (hf.keep _ _ e), hf.kind, hf.locals, hf.globals, hf.builtins, hf.room⟩, ⟨⟨m, ⟨F.ns, fun b o e => of_hideAll _ e, hideAll_none _ (.head _)⟩, nd, hl⟩, nodup, fun p hp => ⟨(led p hp).1, (led p hp).2.1, hideAll_none _ (.tail _ (List.mem_map_of_mem hp))⟩⟩, fun b o e h1 h2 => ?_, fun l' ℓ' s' r' => ?_⟩
  · exact hideAll_get _ e fun hm => by
      rcases List.mem_cons.mp hm with h | h
      · exact h1 h
      · exact h2 h
  · obtain ⟨⟨m', F', nd', hl'⟩, nodup', led'⟩ := r'
    refine ⟨⟨m', ⟨F'.ns, fun b o e => F'.keep _ _ (gk _ _ e), F.off⟩, nd', hl'⟩, nodup', fun p hp => ⟨(led' p hp).1, (led' p hp).2.1, ?_⟩⟩
    cases e : f.g.get? p.1 with
    | none => rfl
    | some o =>
      have := (led' p hp).2.2
      have q : (hideAll s.heap (f.L :: l.map (·.1))).get? p.1 = none := this
      rw [gk _ _ e] at q; cases q
/-- an object outside the frame and the ledger turns -/
theorem RS.other {s s' : Shared} {a : Addr} (r : RS u f l ℓ s) (hL : a ≠ f.L) (hg : f.g.get? a = none) (hl : a ∉ l.map (·.1)) (hs : Heap.ExtBut a s.heap s'.heap) : RS u f l ℓ s' := by
  obtain ⟨⟨m, F, nd, hl'⟩, nodup, led⟩ := r
  refine elX3_2 ?_ F.ns; rintro oL es ep hLo hLr
  refine ⟨⟨m, ⟨⟨oL, es, ep, hs _ _ (Ne.symm hL) hLo, hLr⟩, fun b o e => hs _ _ (fun q => by subst q; rw [hg] at e; cases e) (F.keep _ _ e), F.off⟩, nd, hl'⟩, nodup, fun p hp => ⟨(led p hp).1.congr fun ob e => hs _ _ (fun q => ?_) e, (led p hp).2⟩⟩
  exact hl (List.mem_map.mpr ⟨p, hp, q⟩)

/-- an iterator whose object is none of those that own their tuple -/
theorem go_plain {M : Model} {A : Around} {s : Shared} {tgt : Expr} {it : Addr} {v : Value} {o : Obj} {m : String} {Q : Unit → Shared → Prop} {E : Value → Shared → Prop} (ho : s.heap.get? it = some o) (hc : o.cls = .type m)
    (hm : (["enumerate", "zip", "dict_itemiterator", "dict_reverseitemiterator", "odict_iterator", "itertools.zip_longest", "itertools.pairwise"].contains m) = false) (hQ : Q () s) : wpAny M A (letOwnedTupleGo tgt (.ref it) v) Q E s := by
  have main : wpAny M A (do
      let (.ref r, .ref a) := (Value.ref it, v) | return
      let o ← load r
      match o.cls, o.data with
      | .type n, .fields vs =>
        if ["enumerate", "zip", "dict_itemiterator", "dict_reverseitemiterator", "odict_iterator", "itertools.zip_longest", "itertools.pairwise"].contains n && vs[0]? == some (rawInt a) then
          rule "for.unpacks-the-owned-tuple"
          updateField r 0 .none
      | _, _ => pure ()) Q E s := by
    cases v <;> first | exact wpAny_pure hQ | skip
    refine wpAny_bind (wpAny_load ho ?_)
    rw [hc]
    cases o.data <;> first | exact wpAny_pure hQ | skip
    dsimp only
    rw [hm, Bool.false_and, if_neg Bool.false_ne_true]
    exact wpAny_pure hQ
  unfold letOwnedTupleGo
  cases tgt <;> first | exact wpAny_pure hQ | exact main
/-- an iterator that hands out val 0, .., val (N-1) -/
structure Itr (u : U) (A : Around) (it : Addr) (N : Nat) (val : Nat → V) (J : Nat → Heap → Prop) (C : Heap → Prop) : Prop where
  con : ∀ i h h', J i h → (∀ o, h.get? it = some o → h'.get? it = some o) → J i h'
  there : ∀ i h, J i h → ∃ o, h.get? it = some o
  go : ∀ i (s : Shared) tgt v (Q : Unit → Shared → Prop), J i s.heap → Q () s → wpAny u.M A (letOwnedTupleGo tgt (.ref it) v) Q NoE s
  item : ∀ i s (Q : Option Value → Shared → Prop), i < N → J i s.heap → C s.heap → (∀ y h' tk, Rep (val i) y → J (i + 1) h' → Heap.SameBut it s.heap h' → Q (some y) { s with heap := h', toks := tk }) → wpAny u.M A (pyNext (.ref it)) Q NoE s
  fin : ∀ s (Q : Option Value → Shared → Prop), J N s.heap → C s.heap → (∀ h', Heap.ExtBut it s.heap h' → Q none { s with heap := h' }) → wpAny u.M A (pyNext (.ref it)) Q NoE s
noncomputable def ForR (I : Nat → Led → Loc → Prop) (k : Nat) (R : Fl → Led → Loc → Prop) : Fl → Led → Loc → Prop := fun r l ℓ => match r with
  | .next => I (k + 1) l ℓ
  | .cont => I (k + 1) l ℓ
  | .brk => R .next l ℓ
  | .ret v => R (.ret v) l ℓ
theorem for_codeX {tgt : Expr} {body : List Stmt} {it : Addr} {N : Nat} {val : Nat → V} {J : Nat → Heap → Prop} {C : Heap → Prop} (hu : u.Ok) (hf : f.Ok u n) (K : Itr u f.A it N val J C) (I : Nat → Led → Loc → Prop)
    (hC : ∀ i l ℓ, I i l ℓ → ∀ s, RS u f l ℓ s → C s.heap)
    (turn : ∀ f' i l ℓ, i < N → I i l ℓ → Asg u n f' l ℓ tgt (val i) fun l' ℓ' => Exs u n f' l' ℓ' body (ForR I i R))
    (hend : ∀ l ℓ, I N l ℓ → R .next l ℓ) (ht : ∀ v, letOwnedTupleGo tgt (.ref it) v = Pure.pure ()) (hL : it ≠ f.L) (hg : f.g.get? it = none) :
    ∀ k i l ℓ, i + k = N → I i l ℓ → it ∉ l.map (·.1) → ∀ s, RS u f l ℓ s → J i s.heap → codeX u.M f.A (.forLoop tgt (.ref it) body [] f.env) (FlP u f s R) s := by
  intro k
  induction k with
  | zero =>
    intro i l ℓ hi hI hl s r hJ
    have hi : i = N := hi
    subst hi
    refine codeX_of_tree ?_
    show wpX _ f.A ((forTurn tgt (.ref it) body [] f.env).onRaise (fun x => do noteFrame x f.env; theTreesLotGoes x)) _ _ s
    refine wpX_onRaise ?_
    unfold forTurn
    refine wpX_bind (.of (wpAny_standAt (wpX_bind (wpX_onRaise (.of (K.fin s _ hJ (hC _ _ _ hI s r) fun h' hx => ?_))))))
    refine wpX_pure ⟨rfl, rfl, codeX_of_tree ?_⟩
    show wpX _ f.A (do return Fin.done (← (execs [] f.env).onRaise (fun x => do noteFrame x f.env; theTreesLotGoes x))) _ _ _
    refine wpX_bind (wpX_onRaise (wpX_pure (a := Flow.next) (wpX_pure ?_)))
    exact ⟨l, ℓ, r.other (s' := { s with heap := h' }) hL hg hl hx, ⟨rfl, rfl, rfl⟩, _, .next, hend l ℓ hI⟩
  | succ k ih =>
    intro i l ℓ hi hI hl s r hJ
    refine codeX_of_tree ?_
    show wpX _ f.A ((forTurn tgt (.ref it) body [] f.env).onRaise (fun x => do noteFrame x f.env; theTreesLotGoes x)) _ _ s
    refine wpX_onRaise ?_
    unfold forTurn
    refine wpX_bind (.of (wpAny_standAt (wpX_bind (wpX_onRaise (.of (K.item i s _ (by lia) hJ (hC _ _ _ hI s r) fun y h' tk ry hJ' hsb => ?_))))))
    refine wpX_bind (wpX_of_eq (ht y) ?_)
    have r1 := r.other (s' := { s with heap := h', toks := tk }) hL hg hl hsb.extBut
    refine elX1_7 ?_ (r1.freeze hf); rintro f' he hA hL' hf' r1' froz back
    have hw := turn f' i l ℓ (by lia) hI y ry hu hf' _ r1'
    rw [he, hA] at hw
    obtain ⟨o, ho⟩ := K.there _ _ hJ'
    have hgo := froz it o ho hL hl
    refine wpX_bind (wpX_mono hw ?_ fun _ _ e => e)
    rintro _ s₂; refine elX2_3 ?_; rintro l₂ ℓ₂ r₂ sm₂ h₂
    have hb := h₂ hu hf' s₂ r₂
    unfold W at hb
    rw [he, hA] at hb
    refine wpX_bind (wpX_mono hb ?_ fun _ _ e => e)
    rintro fl s₃; refine elX2_3 ?_; rintro l₃ ℓ₃ r₃ sm₃; refine elX1_2 ?_; rintro rr hr h₃
    have sm : Same s s₃ := Same.trans (b := { s with heap := h', toks := tk }) ⟨rfl, rfl, rfl⟩ (sm₂.trans sm₃)
    have r₃' := back _ _ _ r₃
    have goOn : I (i + 1) l₃ ℓ₃ → codeX u.M f.A (.forLoop tgt (.ref it) body [] f.env) (FlP u f s R) s₃ := fun hI' => by
      obtain ⟨m₃, F₃, _⟩ := r₃.fr
      have ho₃ : s₃.heap.get? it = some o := F₃.keep _ _ hgo
      refine codeX_mono (ih (i + 1) l₃ ℓ₃ (by lia) hI' (fun hm => ?_) s₃ r₃' (K.con _ _ _ hJ' fun o' e => ?_)) fun rs s₄ h₄ => ?_
      · obtain ⟨p, hp, e⟩ := List.mem_map.mp hm
        have := (r₃.led p hp).2.2
        rw [e, hgo] at this; cases this
      · rw [ho] at e; cases e; exact ho₃
      · cases rs with
        | ok fl => exact Post.trans sm h₄
        | error e => exact h₄
    cases hr with
    | next => exact wpX_pure ⟨rfl, rfl, goOn h₃⟩
    | cont => exact wpX_pure ⟨rfl, rfl, goOn h₃⟩
    | brk => exact wpX_pure ⟨l₃, ℓ₃, r₃', sm, _, .next, h₃⟩
    | ret rv => exact wpX_pure ⟨l₃, ℓ₃, r₃', sm, _, .ret rv, h₃⟩
end

section
variable {u : U} {n : Nat} {f : Fm} {l : Led} {ℓ : Loc} {P : V → Led → Prop} {B : Bool → Led → Prop} {R : Fl → Led → Loc → Prop}
theorem Itr_list {A : Around} {it a : Addr} {vs : List V} (hh : A.handled = none) (hne : it ≠ a) :
    Itr u A it vs.length (fun i => (vs[i]?).getD .none) (fun i h => h.IsListIter it a i) (fun h => ∃ ys, Reps vs ys ∧ h.IsList a ys.toArray) where
  con := fun i h h' ⟨o, ho, z⟩ e => ⟨o, e _ ho, z⟩
  there := fun i h ⟨o, ho, _⟩ => ⟨o, ho⟩
  go := fun i s tgt v Q ⟨o, ho, hc, _⟩ hQ => go_plain ho hc (by decide) hQ
  item := fun i s Q hi hJ ⟨ys, ry, hl⟩ hQ => by
    obtain ⟨y, hy, rv⟩ := ry.get (List.getElem?_eq_getElem hi)
    refine wpAny_pyNext_list_item hJ hl (by simpa using hy) fun h' hJ' hs => ?_
    refine hQ y h' s.toks ?_ hJ' hs
    rw [List.getElem?_eq_getElem hi]
    exact rv
  fin := fun s Q hJ ⟨ys, ry, hl⟩ hQ => by
    refine wpAny_pyNext_list_end hh hJ hl ?_ hQ
    rw [ry.length]; simp
theorem Itr_range {A : Around} {it : Addr} {a c : Int} {N : Nat} (hh : A.handled = none) :
    Itr u A it N (fun i => .int (a + i * c)) (fun i h => IsRangeIter h it (a + i * c) ((N : Int) - i) c) (fun _ => True) where
  con := fun i h h' ho e => e _ ho
  there := fun i h ho => ⟨_, ho⟩
  go := fun i s tgt v Q ho hQ => go_plain ho rfl (by decide) hQ
  item := fun i s Q hi hJ _ hQ => by
    refine wpAny_pyNext_range_item hJ (by lia) fun h' hJ' hs => ?_
    refine hQ _ h' (s.toks + 1) (Rep.mk (v := .int (a + i * c)) s.toks) ?_ hs
    have e1 : a + (i : Int) * c + c = a + ((i + 1 : Nat) : Int) * c := by rw [Int.natCast_add, Int.add_mul]; simp [Int.add_assoc]
    have e2 : (N : Int) - i - 1 = N - ((i + 1 : Nat) : Int) := by rw [Int.natCast_add]; simp [Int.sub_sub]
    rw [e1, e2] at hJ'
    exact hJ'
  fin := fun s Q hJ _ hQ => wpAny_pyNext_range_end hh hJ (by lia) hQ

theorem RS.fresh {s : Shared} (r : RS u f l ℓ s) : s.heap.objs.size ≠ f.L ∧ f.g.get? s.heap.objs.size = none ∧ s.heap.objs.size ∉ l.map (·.1) := by
  obtain ⟨⟨m, F, nd, hl⟩, nodup, led⟩ := r
  refine elX3_2 ?_ F.ns; rintro oL _ _ hL _
  refine ⟨Nat.ne_of_gt (Heap.lt_size hL), ?_, fun hm => ?_⟩
  · cases e : f.g.get? s.heap.objs.size with
    | none => rfl
    | some o => exact absurd (Heap.lt_size (F.keep _ _ e)) (Nat.lt_irrefl _)
  · obtain ⟨p, hp, e⟩ := List.mem_map.mp hm
    obtain ⟨ob, ho⟩ := (led p hp).1.there
    have := Heap.lt_size ho
    rw [e] at this
    exact absurd this (Nat.lt_irrefl _)

theorem Ex_For_list {tgt iter : Expr} {body : List Stmt} {pos : Pos}
    (h : Ev u n f l ℓ iter fun v l₁ => ∃ a vs, v = .ref a ∧ (a, O.list vs) ∈ l₁ ∧ ∃ I : Nat → Led → Loc → Prop, I 0 l₁ ℓ ∧ (∀ i l ℓ, I i l ℓ → (a, O.list vs) ∈ l) ∧
      (∀ f' i l ℓ v, vs[i]? = some v → I i l ℓ → Asg u n f' l ℓ tgt v fun l' ℓ' => Exs u n f' l' ℓ' body (ForR I i R)) ∧ ∀ l ℓ, I vs.length l ℓ → R .next l ℓ)
    (hs : ∀ x, foldedSetIterable iter f.env x = Pure.pure x) (ht : ∀ a v, letOwnedTupleGo tgt (.ref a) v = Pure.pure ()) : Ex u n f l ℓ (.For tgt iter body [] pos) R := by
  refine W.eq (exec_For ..) (W.bind (W.standAt (W.bind (W.mono h ?_))))
  rintro x l₁ ℓ₁; refine elX1_3 ?_; rintro _ ⟨t, rfl⟩ rfl; refine elX2_3 ?_; rintro a vs rfl hm; refine elX1_4 ?_; rintro I h0 hI turn hend
  refine W.bind (W.eq (hs _) (W.pure (W.bind (W.standAt ?_))))
  intro hu hf s r
  obtain ⟨ys, ry, hl⟩ := r.isList hm
  obtain ⟨q1, q2, q3⟩ := r.fresh
  have r1 := r.grow (s' := { s with heap := s.heap.push { cls := .type "list_iterator", data := .fields #[.ref a, .int 0 0] } }) fun b o e => Heap.get?_push_of_some _ e
  have hne : s.heap.objs.size ≠ a := fun e => q3 (List.mem_map.mpr ⟨_, hm, e.symm⟩)
  refine wpX_bind (wpX_holding (.of (wpAny_pyIter_list hl ?_)))
  refine wpX_onRaise (wpX_run rfl (codeX_mono (for_codeX hu hf (Itr_list (vs := vs) hf.room.2.2 hne) I (fun i l ℓ hi s r => ?_) (fun f' i l ℓ hi hIi => ?_) hend (fun v => ht _ v) q1 q2 vs.length 0 l₁ ℓ₁ (by lia) h0 q3 _ r1 ?_) fun rs s' h' => ?_))
  · obtain ⟨ys, ry, hl⟩ := r.isList (hI _ _ _ hi)
    exact ⟨ys, ry, hl⟩
  · rw [List.getElem?_eq_getElem hi]
    exact turn f' i l ℓ _ (List.getElem?_eq_getElem hi) hIi
  · exact ⟨_, Heap.get?_push_size _ rfl, rfl, rfl⟩
  · cases rs with
    | ok fl => exact Post.trans ⟨rfl, rfl, rfl⟩ h'
    | error e => exact h'

/-! ranges -/
theorem Call_range1 {i : Int} (h : ∀ a, P (.ref a) ((a, .rng 0 i 1) :: l)) : CallV u n f l ℓ (.ty "range") [.int i] P := by
  rintro x xs ⟨tk, rfl⟩ rxs
  obtain ⟨t1, rfl⟩ := one_arg rxs
  refine .of fun hu hf s r => call_range_1 ?_
  exact ⟨_, ℓ, r.alloc (o := .rng 0 i 1) (s' := { s with heap := s.heap.push _, toks := s.toks + 1 + 1 }) rfl ⟨_, _, _, Heap.get?_push_size _ rfl⟩, ⟨rfl, rfl, rfl⟩, _, Rep.mk (v := .ref s.heap.objs.size) 0, rfl, h _⟩
theorem Call_range2 {i j : Int} (h : ∀ a, P (.ref a) ((a, .rng i j 1) :: l)) : CallV u n f l ℓ (.ty "range") [.int i, .int j] P := by
  rintro x xs ⟨tk, rfl⟩ rxs
  obtain ⟨t1, t2, rfl⟩ := two_args rxs
  refine .of fun hu hf s r => call_range_2 ?_
  exact ⟨_, ℓ, r.alloc (o := .rng i j 1) (s' := { s with heap := s.heap.push _, toks := s.toks + 1 }) rfl ⟨_, _, _, Heap.get?_push_size _ rfl⟩, ⟨rfl, rfl, rfl⟩, _, Rep.mk (v := .ref s.heap.objs.size) 0, rfl, h _⟩
theorem Call_range3 {i j k : Int} (hk : k ≠ 0) (hp : Builtin.divisionGoesByPylong (j - i) k = false) (h : ∀ a, P (.ref a) ((a, .rng i j k) :: l)) : CallV u n f l ℓ (.ty "range") [.int i, .int j, .int k] P := by
  rintro x xs ⟨tk, rfl⟩ rxs
  refine elE3 ?_ (three_args rxs); rintro t1 t2 t3; rintro rfl
  refine .of fun hu hf s r => call_range_3 hk ?_ (.inl hp)
  exact ⟨_, ℓ, r.alloc (o := .rng i j k) (s' := { s with heap := s.heap.push _, toks := s.toks }) rfl ⟨_, _, _, Heap.get?_push_size _ rfl⟩, ⟨rfl, rfl, rfl⟩, _, Rep.mk (v := .ref s.heap.objs.size) 0, rfl, h _⟩
theorem Ex_For_range {tgt iter : Expr} {body : List Stmt} {pos : Pos}
    (h : Ev u n f l ℓ iter fun v l₁ => ∃ a i j k N l₂, v = .ref a ∧ l₁ = (a, O.rng i j k) :: l₂ ∧ Builtin.Range.small i j k = true ∧ Builtin.Range.rangeSize i j k = (N : Nat) ∧ ∃ I : Nat → Led → Loc → Prop, I 0 l₂ ℓ ∧
      (∀ f' m l ℓ, m < N → I m l ℓ → Asg u n f' l ℓ tgt (.int (i + m * k)) fun l' ℓ' => Exs u n f' l' ℓ' body (ForR I m R)) ∧ ∀ l ℓ, I N l ℓ → R .next l ℓ)
    (hs : ∀ x, foldedSetIterable iter f.env x = Pure.pure x) (ht : ∀ a v, letOwnedTupleGo tgt (.ref a) v = Pure.pure ()) : Ex u n f l ℓ (.For tgt iter body [] pos) R := by
  refine W.eq (exec_For ..) (W.bind (W.standAt (W.bind (W.mono h ?_))))
  rintro x l₁ ℓ₁; refine elX1_3 ?_; rintro _ ⟨t, rfl⟩ rfl; refine elE6 ?_; rintro a i j k N l₂; refine elA5 ?_; rintro rfl rfl sm sz; refine elX1_3 ?_; rintro I h0 turn hend
  refine W.bind (W.eq (hs _) (W.pure (W.bind (W.standAt ?_))))
  intro hu hf s r
  refine elE3 ?_ ((r.led _ (.head _)).1); rintro t1 t2 t3; rintro ho
  have r := r.drop
  obtain ⟨q1, q2, q3⟩ := r.fresh
  have r1 := r.grow (s' := { s with heap := s.heap.push { cls := .type "range_iterator", data := .fields #[rawInt i, rawInt (Builtin.Range.rangeSize i j k), rawInt k] } }) fun b o e => Heap.get?_push_of_some _ e
  refine wpX_bind (wpX_holding (.of (wpAny_pyIter_range ho sm ?_)))
  refine wpX_onRaise (wpX_run rfl (codeX_mono (for_codeX hu hf (Itr_range (a := i) (c := k) (N := N) hf.room.2.2) I (fun i l ℓ hi s r => trivial) (fun f' i l ℓ hi hIi => turn f' i l ℓ hi hIi) hend (fun v => ht _ v) q1 q2 N 0 l₂ ℓ₁ (by lia) h0 q3 _ r1 ?_) fun rs s' h' => ?_))
  · have e1 : i + ((0 : Nat) : Int) * k = i := by simp
    have e2 : (N : Int) - ((0 : Nat) : Int) = N := by simp
    rw [e1, e2, ← sz]
    exact Heap.get?_push_size _ rfl
  · cases rs with
    | ok fl => exact Post.trans ⟨rfl, rfl, rfl⟩ h'
    | error e => exact h'
end

/-! int.to_bytes, bytes.join -/
theorem ints_bytes {b : Array UInt8} {L : List Int} (h : KBw.bInts b = L) : b = (L.map fun k => k.toNat.toUInt8).toArray := by
  subst h
  apply Array.ext'
  show b.toList = ((b.toList.map _).map _)
  rw [List.map_map]
  conv => lhs; rw [← List.map_id b.toList]
  refine List.map_congr_left fun c _ => ?_
  simp
namespace By
theorem slot_join : Slot "bytes" "join" "bytes.join" :=
  .of (owner := "bytes") (n := "join") (by rw [typeLookup_type, builtinLookup_eq_fast]; kernel_rfl) (by decide +kernel) (by decide +kernel) (by decide +kernel)
    (by first | exact .inl (by decide +kernel) | exact .inr (by decide +kernel)) (by rw [isSubtype_type]; kernel_rfl)
theorem type_join : typeOf (.builtin "bytes.join") = Pure.pure (.type "method_descriptor") := by show builtinType _ = _; rw [builtinType_eq_fast]; kernel_rfl
theorem entry_join : entryFor table "bytes.join" = some Builtin.«bytes.join» := entryFor_of_tree (by kernel_rfl)
theorem args_join (a b : Value) : argsOk "bytes.join" ⟨[a, b], []⟩ := by unfold argsOk; kernel_rfl
theorem take_quiet {id : String} {b : Array UInt8} {t : Tok} : Builtin.Bytes.takeBufferQuiet? id (.bytes b t) 0 = Pure.pure (some (b, none)) := by
  unfold Builtin.Bytes.takeBufferQuiet? Builtin.Bytes.takeBuffer?
  rw [KBy.special_eq KBy.look_buffer, KBy.own_buffer]
  show (Sem.attempt (do return (← Builtin.Bytes.buffer? id (.bytes b t) (full := (0 : Int) == Builtin.Bytes.fullReadOnly)).map (·, none)) >>= _) = _
  rw [show ((0 : Int) == Builtin.Bytes.fullReadOnly) = false from by decide, KBy.buffer_eq]
  rfl
end By
theorem joined_nil (parts : List (List UInt8)) : Builtin.Bytes.joined #[] (parts.map List.toArray) = parts.flatten.toArray := by
  unfold Builtin.Bytes.joined
  have e : ∀ (l : List (List UInt8)) (k : Nat) (acc : List UInt8), ((l.map List.toArray).zipIdx k).foldl (fun out (x : Array UInt8 × Nat) => (if x.2 > 0 then out ++ (#[] : Array UInt8) else out) ++ x.1) acc.toArray = (acc ++ l.flatten).toArray := by
    intro l
    induction l with
    | nil => intro k acc; simp
    | cons x l ih =>
      intro k acc
      simp only [List.map_cons, List.zipIdx_cons, List.foldl_cons, List.flatten_cons]
      have : ((if k > 0 then acc.toArray ++ (#[] : Array UInt8) else acc.toArray) ++ x.toArray) = (acc ++ x).toArray := by split <;> simp
      rw [this, ih, List.append_assoc]
  have := e parts 0 []
  simpa using this
section
variable {prog : Program} {w : World} {A : Around} {E : Value → Shared → Prop} {s : Shared}
theorem letGo_all {M : Model} {keep : List Value} {Q : Unit → Shared → Prop} (k : Q () s) : ∀ ys : List Value, wpAny M A (Builtin.Bytes.joinLetGo (ys.map fun y => (y, none)) keep) Q E s
  | [] => wpAny_pure k
  | y :: r => by
    rw [List.map_cons, Builtin.Bytes.joinLetGo]
    · exact wpAny_bind (wpAny_letGo (letGo_all k r))
    · intro _ h; cases h
theorem jm {ys : List Value} (h : ∀ y, ys ≠ [y]) (A : Value → Sem PySem.Fin) (B : Array Value → Sem PySem.Fin) : Builtin.Bytes.joinM.match_1 (fun _ => Sem PySem.Fin) ys.toArray A B = B ys.toArray := by
  rcases ys with _ | ⟨y, _ | ⟨z, r⟩⟩
  · rfl
  · exact absurd rfl (h y)
  · rfl
theorem join_list {a : Addr} {t : Tok} {bs : List (List UInt8)} {ys : List Value} {Q : Value → Shared → Prop} (hl : s.heap.IsList a ys.toArray) (ry : Reps (bs.map .bytes) ys) (hz : bs.length ≤ 1000) (hs : ∀ b ∈ bs, b.length ≤ 1000)
    (k : ∀ t tk, Q (.bytes bs.flatten.toArray t) { s with toks := tk }) : wpAny (model prog w) A (call (.builtin "bytes.join") [.bytes #[] t, .ref a]) Q E s := by
  refine wpAny_call_entry By.slot_join (typeIs_bytes _ _ _) By.entry_join ?_ (By.args_join _ _)
  unfold Builtin.«bytes.join» Builtin.Bytes.joinM
  refine wpAny_bind (wpAny_of_eq (a := (Value.bytes #[] t, Value.ref a)) rfl ?_)
  dsimp only
  refine bm_if_true rfl ?_
  refine wpAny_bind ?_
  unfold Builtin.Bytes.joinItems
  refine wpAny_bind (wpAny_typeOf hl.typeIs ?_)
  refine bm_if_true (by decide) (wpAny_pure ?_)
  refine elX1_3 ?_ (id hl); rintro o ho hc ⟨m, hd⟩
  refine wpAny_bind (wpAny_seqItems ho hd ?_)
  refine bm_if_true rfl ?_
  have el : bs.length = ys.length := by have := ry.length; simpa using this
  have main : ∀ Q' : (Array (Array UInt8)) × List (Value × Option Value) → Shared → Prop, Q' ((bs.map List.toArray).toArray, ys.map (·, none)) s → ∀ (F : Nat → (Array (Array UInt8)) × List (Value × Option Value) → Sem (ForInStep ((Array (Array UInt8)) × List (Value × Option Value)))),
      (∀ i (tv : Tok) (b : List UInt8) q Q₂, ys[i]? = some (.bytes b.toArray tv) → (q.2.any (·.1.onHeap)) = false → Q₂ (ForInStep.yield (q.1.push b.toArray, q.2 ++ [(.bytes b.toArray tv, none)])) s → wpAny (model prog w) A.in1 (F i q) Q₂ E s) →
      wpAny (model prog w) A.in1 (forIn [0:ys.toArray.size] (#[], []) F) Q' E s := by
    intro Q' hQ F hF
    rw [Std.Legacy.Range.forIn_eq_forIn_range']
    simp only [Std.Legacy.Range.size, Nat.sub_zero, Nat.add_sub_cancel, Nat.div_one, List.size_toArray]
    refine wpAny_forIn_list _ (fun rest q s' => s' = s ∧ ∃ i, rest = List.range' i (ys.length - i) ∧ i ≤ ys.length ∧ q = (((bs.take i).map List.toArray).toArray, (ys.take i).map (·, none))) _ ?_ ?_ _ _ ⟨rfl, 0, by simp, Nat.zero_le _, by simp⟩
    · rintro x rest q s'; refine elA2 ?_; rintro rfl; refine elX1_3 ?_; rintro i hr hi rfl
      have hlt : i < ys.length := by
        rcases Nat.lt_or_ge i ys.length with h | h
        · exact h
        · rw [Nat.sub_eq_zero_of_le h] at hr; simp at hr
      have e := ar_sub hlt
      rw [e, List.range'_succ] at hr
      obtain ⟨rfl, rfl⟩ := List.cons.inj hr
      have hb := List.getElem?_eq_getElem (l := bs) (i := x) (by lia)
      obtain ⟨y, hy, tv, e0⟩ := ry.get (i := x) (v := .bytes bs[x]) (by rw [List.getElem?_map, hb]; rfl)
      rw [e0] at hy
      refine hF x tv bs[x] _ _ hy ?_ ⟨rfl, x + 1, by simp, hlt, ?_⟩
      · rw [List.any_eq_false]
        rintro p hp
        obtain ⟨z, hz, rfl⟩ := List.mem_map.mp hp
        obtain ⟨j, hj, e'⟩ := List.getElem_of_mem (List.mem_of_mem_take hz)
        obtain ⟨y', hy', ⟨t', rv'⟩⟩ := ry.get (i := j) (v := .bytes bs[j]) (by rw [List.getElem?_map, List.getElem?_eq_getElem (by lia)]; rfl)
        rw [List.getElem?_eq_getElem hj, e'] at hy'
        cases hy'
        rw [rv']
        exact Bool.false_ne_true
      · have e1 : (bs.take (x + 1)).map List.toArray = (bs.take x).map List.toArray ++ [bs[x].toArray] := by simp only [List.take_add_one, hb, List.map_append, Option.toList_some, List.map_cons, List.map_nil]
        have e2 : (ys.take (x + 1)).map (fun y => (y, (none : Option Value))) = (ys.take x).map (fun y => (y, none)) ++ [(.bytes bs[x].toArray tv, none)] := by simp only [List.take_add_one, hy, List.map_append, Option.toList_some, List.map_cons, List.map_nil]
        rw [e1, e2]
        simp only [List.push_toArray]
    · rintro q s'; refine elA2 ?_; rintro rfl; refine elX1_3 ?_; rintro i hr hi rfl
      have hin : i = ys.length := by
        rcases Nat.lt_or_ge i ys.length with h | h
        · rw [ar_sub h, List.range'_succ] at hr; exact nomatch hr
        · lia
      subst hin
      rw [List.take_of_length_le (by lia), List.take_of_length_le (by lia)]
      exact hQ
  have hsum : ((bs.map List.toArray).toArray).foldl (fun x y => x + y.size) 0 ≤ bs.length * 1000 := by
    rw [← Array.foldl_toList, List.toList_toArray]
    have gen : ∀ (l : List (List UInt8)) (n : Nat), (∀ b ∈ l, b.length ≤ 1000) → (l.map List.toArray).foldl (fun x y => x + y.size) n ≤ n + l.length * 1000 := by
      intro l
      induction l with
      | nil => intro n _; simp
      | cons b l ih =>
        intro n hb
        simp only [List.map_cons, List.foldl_cons, List.length_cons, List.size_toArray]
        have h1 := ih (n + b.length) fun b' hb' => hb b' (.tail _ hb')
        have h2 := hb b (.head _)
        lia
    have := gen bs 0 hs
    lia
  have fin : ∀ (t' : Tok) (tk : Nat), Q (.bytes (Builtin.Bytes.joined #[] ((bs.map List.toArray).toArray).toList) t') { s with toks := tk } := fun t' tk => by
    rw [List.toList_toArray, joined_nil]; exact k t' tk
  have hj : (Builtin.Bytes.joined #[] ((bs.map List.toArray).toArray).toList).size ≤ sizeLine := by
    rw [List.toList_toArray, joined_nil, List.size_toArray, List.length_flatten]
    have gen : ∀ (l : List (List UInt8)), (∀ b ∈ l, b.length ≤ 1000) → (l.map List.length).sum ≤ l.length * 1000 := by
      intro l
      induction l with
      | nil => intro _; simp
      | cons b l ih =>
        intro hb
        simp only [List.map_cons, List.sum_cons, List.length_cons]
        have h1 := ih fun b' hb' => hb b' (.tail _ hb')
        have h2 := hb b (.head _)
        lia
    have := gen bs hs
    have e : sizeLine = 16777216 := rfl
    lia
  have htl : ∀ n, Builtin.Bytes.tooLong (((bs.map List.toArray).toArray).foldl (fun x y => x + y.size) ((#[] : Array UInt8).size * n)) = false := fun n => by
    have e : (#[] : Array UInt8).size * n = 0 := Nat.zero_mul n
    rw [e]
    unfold Builtin.Bytes.tooLong
    rw [decide_eq_false_iff_not]
    have : sizeLine = 16777216 := rfl
    lia
  rcases Classical.em (∃ y, ys = [y]) with ⟨y, rfl⟩ | hne
  · obtain ⟨b, rfl⟩ : ∃ b, bs = [b] := by
      rcases bs with _ | ⟨b, _ | _⟩
      · simp at el
      · exact ⟨b, rfl⟩
      · simp at el
    cases ry with | cons rv _ =>
    obtain ⟨tv, rfl⟩ := rv
    show wpAny _ _ (typeOf (.bytes b.toArray tv) >>= _) _ _ _
    refine wpAny_bind (wpAny_typeOf (typeIs_bytes _ _ _) ?_)
    refine bm_if_true (by decide) ?_
    refine wpAny_bind (wpAny_rule ?_)
    have := k tv s.toks
    rw [List.flatten_singleton] at this
    first
      | exact wpAny_pure ⟨_, rfl, this⟩
      | exact wpAny_bind (wpAny_pure (wpAny_pure ⟨_, rfl, this⟩))
  · rw [jm fun y e => hne ⟨y, e⟩]
    refine wpAny_bind (main _ ?_ _ ?_)
    · skip
      refine wpAny_bind (wpAny_of_eq (a := #[]) rfl ?_)
      dsimp only
      refine bm_if_false (htl _) ?_
      refine wpAny_bind (wpAny_mkBytes ?_ hj)
      refine wpAny_bind (wpAny_holding (wpAny_point ?_))
      refine wpAny_bind (letGo_all ?_ _)
      exact wpAny_pure ⟨_, rfl, fin _ _⟩
    · skip
      intro i tv b q Q₂ hy hq h₂
      refine wpAny_bind (wpAny_seqItems ho hd ?_)
      dsimp only
      refine bm_if_false (by rw [hq]; rfl) ?_
      have eg : ∀ zs : List Value, zs[i]? = some (Value.bytes b.toArray tv) → zs.toArray.getD i Value.none = Value.bytes b.toArray tv := fun zs e => by
        simp [Array.getD_eq_getD_getElem?, e]
      rw [eg _ hy]
      refine wpAny_bind (wpAny_holding (wpAny_of_eq By.take_quiet ?_))
      dsimp only
      refine wpAny_bind (wpAny_seqItems ho hd ?_)
      dsimp only
      refine bm_if_false (by simp) ?_
      exact wpAny_pure h₂
end

/-! sorted(dict) -/
section
variable {prog : Program} {w : World} {A : Around} {E : Value → Shared → Prop} {s : Shared}
theorem dict_len_split : splitId "dict.__len__" = some ("dict", "__len__") := by decide +kernel
theorem collect_dict {d : Addr} {kvs : List (Int × Value)} {Q : List Value → Shared → Prop} (hh : A.handled = none) (hs : (d == sysModules) = false) (hm : s.heap.DictOf (intKind prog w) d kvs) (hn : kvs.length ≤ 1000)
    (hQ : ∀ h' tk (acc : Array Value), (∀ b o, s.heap.get? b = some o → h'.get? b = some o) → acc.size = kvs.length → (∀ (j : Nat) v, acc[j]? = some v → ∃ k x, kvs[j]? = some (k, x) ∧ (intKind prog w).is k v = true) → Q acc.toList { s with heap := h', toks := tk }) :
    wpAny (model prog w) A (collect (.ref d)) Q E s := by
  obtain ⟨ep, hda⟩ := hm.dictAt
  obtain ⟨od, hod⟩ : ∃ o, s.heap.get? d = some o := by obtain ⟨o, _, _, ho, _⟩ := hm; exact ⟨o, ho⟩
  have hlt : d < s.heap.objs.size := Heap.lt_size hod
  unfold collect
  refine wpAny_bind (wpAny_runValue (codeAny_builtin entry_proto_collect' ?_))
  show wpAny _ _ (do again (.builtin "list.__iadd__" ⟨[← newList [], .ref d], []⟩)) _ _ s
  refine wpAny_bind (wpAny_newList (wpAny_pure ⟨Code.quiet_builtin _ (by decide +kernel), codeAny_builtin entry_list_iadd' ?_⟩))
  show wpAny _ _ (Builtin.List.listExtendWith (.ref s.heap.objs.size) (.ref d) (.ref s.heap.objs.size)) _ _ { s with heap := s.heap.push (seqObj "list" #[] 0) }
  have hda' : (s.heap.push (seqObj "list" #[] 0)).DictAt (intKind prog w) d kvs ep := hda.at' fun o e => Heap.get?_push_of_some _ e
  have hT : ({ s with heap := s.heap.push (seqObj "list" #[] 0) } : Shared).TypeIs (.ref d) "dict" := hda'.dictOf.typeIs
  have h1 : Builtin.List.listSameRef (.ref s.heap.objs.size) (.ref d) = false := by simp [Builtin.List.listSameRef]; exact Nat.ne_of_gt hlt
  unfold Builtin.List.listExtendWith
  refine wpAny_bind (wpAny_typeOf hT ?_)
  rw [if_neg (by rw [h1]; decide)]
  refine wpAny_bind (wpAny_pyIter_dict hs hda' ?_)
  refine wpAny_bind (wpAny_holding ?_)
  have hT2 : ∀ o, ({ s with heap := (s.heap.push (seqObj "list" #[] 0)).push o } : Shared).TypeIs (.ref d) "dict" := fun o => (hda'.at' (fun o' e => Heap.get?_push_of_some _ e)).dictOf.typeIs
  unfold Builtin.List.listLengthHint
  refine wpAny_bind (wpAny_specialOf (hT2 _) F.slot_dict_len.lookup ?_)
  dsimp only
  rw [dict_len_split]
  dsimp only
  refine wpAny_bind (wpAny_isInstance (hT2 _) F.sub_dict_dict ?_)
  refine bm_if_false rfl ?_
  refine bm_if_true (by decide +kernel) ?_
  refine wpAny_bind (wpAny_typeOf (hT2 _) (wpAny_pure ?_))
  refine bm_if_true (by decide +kernel) ?_
  refine wpAny_bind (wpAny_rule ?_)
  have hsz : (s.heap.push (seqObj "list" #[] 0)).objs.size = s.heap.objs.size + 1 := Heap.size_push _ _
  rw [hsz]
  have hS₀ : ((s.heap.push (seqObj "list" #[] 0)).push { cls := .type "dict_keyiterator", data := .fields #[.ref d, .int 0 0, .int kvs.length 0, .int ep 0] }).get? s.heap.objs.size = some (seqObj "list" #[] 0) :=
    Heap.get?_push_of_some _ (Heap.get?_push_size _ rfl)
  have hI₀ : ((s.heap.push (seqObj "list" #[] 0)).push { cls := .type "dict_keyiterator", data := .fields #[.ref d, .int 0 0, .int kvs.length 0, .int ep 0] }).IsKeyIter (s.heap.objs.size + 1) d 0 kvs.length ep :=
    ⟨_, by rw [← hsz]; exact Heap.get?_push_size _ rfl, rfl, rfl⟩
  have hD₀ : ((s.heap.push (seqObj "list" #[] 0)).push { cls := .type "dict_keyiterator", data := .fields #[.ref d, .int 0 0, .int kvs.length 0, .int ep 0] }).DictAt (intKind prog w) d kvs ep := hda'.at' fun o e => Heap.get?_push_of_some _ e
  have hk₀ : ∀ b o, s.heap.get? b = some o → ((s.heap.push (seqObj "list" #[] 0)).push { cls := .type "dict_keyiterator", data := .fields #[.ref d, .int 0 0, .int kvs.length 0, .int ep 0] }).get? b = some o := fun b o e => Heap.get?_push_of_some _ (Heap.get?_push_of_some _ e)
  refine wpAny_bind ?_
  unfold Builtin.List.listTouch
  refine wpAny_bind (listUpdate_at hS₀ rfl ?_ (Nat.zero_le _) (by decide))
  have hS₁ := get?_update_seq hS₀ (·.push .none)
  refine listUpdate_at hS₁ rfl ?_ (by decide) (by decide)
  obtain ⟨c, hS₂⟩ : ∃ c, ((((s.heap.push (seqObj "list" #[] 0)).push { cls := .type "dict_keyiterator", data := .fields #[.ref d, .int 0 0, .int kvs.length 0, .int ep 0] }).update s.heap.objs.size (Obj.mapSeq (·.push .none))).update s.heap.objs.size (Obj.mapSeq (·.pop))).get? s.heap.objs.size = some (seqObj "list" #[] c) := ⟨_, get?_update_seq hS₁ (·.pop)⟩
  have same : ∀ b, b ≠ s.heap.objs.size → ((((s.heap.push (seqObj "list" #[] 0)).push { cls := .type "dict_keyiterator", data := .fields #[.ref d, .int 0 0, .int kvs.length 0, .int ep 0] }).update s.heap.objs.size (Obj.mapSeq (·.push .none))).update s.heap.objs.size (Obj.mapSeq (·.pop))).get? b = ((s.heap.push (seqObj "list" #[] 0)).push { cls := .type "dict_keyiterator", data := .fields #[.ref d, .int 0 0, .int kvs.length 0, .int ep 0] }).get? b := fun b hb =>
    (Heap.get?_update_ne _ _ _ _ hb).trans (Heap.get?_update_ne _ _ _ _ hb)
  have W := (PySem.Walks.dictKeys (knd := intKind prog w) (A := A.in1) hh (s.heap.objs.size + 1) d (Nat.ne_of_lt (Nat.lt_succ_of_lt hlt)) kvs ep).toS
  refine wpAny_pure ⟨Code.quiet_builtin _ (by decide +kernel), codeAny_extend_loopS W (by have : sizeLine = 16777216 := rfl; lia) s.heap.objs.size ?_ _ kvs.length 0 _ #[] c rfl (Nat.zero_le _) ?_ hS₂ (ItemsOf.nil _) fun s' acc' c' hm hS' hacc => ?_⟩
  · simp only [List.mem_cons, List.not_mem_nil, or_false, not_or]
    exact ⟨(Nat.succ_ne_self _).symm, Nat.ne_of_gt hlt⟩
  · exact ⟨hI₀.at fun o e => (same _ (Nat.succ_ne_self _)).trans e, hD₀.at' fun o e => (same _ (Nat.ne_of_lt hlt)).trans e⟩
  · show wpAny _ A (load s.heap.objs.size >>= _) _ _ s'
    refine wpAny_bind (wpAny_load hS' ?_)
    obtain ⟨h', g', dr', tk', os'⟩ := s'
    obtain ⟨m1, m2, m3, m4, m5⟩ := hm
    dsimp only at m1 m2 m3 m4
    subst m2 m3 m4
    refine wpAny_pure (hQ h' tk' acc' (fun b o e => m1 b o ?_ ?_) hacc.1 hacc.2)
    · have := Heap.lt_size e
      simp only [List.mem_cons, List.not_mem_nil, or_false, not_or]
      exact ⟨Nat.ne_of_lt this, Nat.ne_of_lt (Nat.lt_succ_of_lt this)⟩
    · exact (same b (Nat.ne_of_lt (Heap.lt_size e))).trans (hk₀ b o e)
theorem ints_of_get : ∀ {ns : List Int} {vs : List Value}, vs.length = ns.length → (∀ (j : Nat) k, ns[j]? = some k → ∃ t, vs[j]? = some (.int k t)) → IntsAre vs ns
  | [], [], _, _ => .nil
  | [], _ :: _, h, _ => by simp at h
  | _ :: _, [], h, _ => by simp at h
  | n :: ns, v :: vs, h, g => by
    obtain ⟨t, e⟩ := g 0 n rfl
    cases e
    exact .cons n t (ints_of_get (by simpa using h) fun j k hj => g (j + 1) k hj)
theorem sorted_dict {d : Addr} {kvs : List (Int × Value)} {Q : Value → Shared → Prop} (hh : A.handled = none) (hs : (d == sysModules) = false) (hm : s.heap.DictOf (intKind prog w) d kvs) (hn : kvs.length < 64)
    (hQ : ∀ a h' tk (out : Array Value) (ns : List Int) c, IntsAre out.toList ns → ns.Perm (kvs.map (·.1)) → ns.Pairwise (· ≤ ·) → s.heap.get? a = none → h'.get? a = some (seqObj "list" out c) → (∀ b o, s.heap.get? b = some o → h'.get? b = some o) → Q (.ref a) { s with heap := h', toks := tk }) :
    wpAny (model prog w) A (call (.builtin "sorted") [.ref d]) Q E s := by
  refine Calls.call_function_entry kind_sorted plain_sorted entry_sorted (args_sorted1 _) ?_
  unfold Builtin.«sorted»
  refine wpAny_bind (m := checkCount "sorted" 1 1 _) (wpAny_pure ?_)
  refine wpAny_bind (collect_dict hh hs hm (by lia) fun h₁ tk acc hk hsz hacc => ?_)
  have hI : IntsAre acc.toList (kvs.map (·.1)) := by
    refine ints_of_get (by rw [List.length_map, Array.length_toList, hsz]) fun j k hj => ?_
    rw [List.getElem?_map] at hj
    obtain ⟨⟨k', x⟩, hj', rfl⟩ := Option.map_eq_some_iff.mp hj
    obtain ⟨hlt, _⟩ := List.getElem?_eq_some_iff.mp hj'
    have hv : acc[j]? = some acc[j] := Array.getElem?_eq_getElem (by lia)
    refine elX2_2 ?_ (hacc j _ hv); rintro k2 x2 h1 h2
    rw [hj'] at h1
    cases h1
    obtain ⟨t, ht⟩ := Value.isInt_shape h2
    exact ⟨t, by rw [Array.getElem?_toList, hv, ht]⟩
  refine wpAny_bind (wpAny_newList ?_)
  have hoL : (h₁.push (seqObj "list" acc.toList.toArray 0)).get? h₁.objs.size = some (seqObj "list" acc.toList.toArray 0) := Heap.get?_push_size _ rfl
  refine wpAny_bind (wpAny_holding (wpAny_call_entry (s := { s with heap := h₁.push (seqObj "list" acc.toList.toArray 0), toks := tk }) slot_list_sort ⟨_, hoL, rfl⟩ entry_list_sort (list_sort_tree hoL hI (by rw [Array.length_toList, hsz]; exact hn) fun out ns' a1 a2 a3 => ⟨_, rfl, ?_⟩) (args_list_sort _)))
  obtain ⟨c, hc⟩ := sortedHeap_at (out := out) hoL
  refine wpAny_pure ⟨_, rfl, hQ h₁.objs.size _ tk out ns' c a1 a2 a3 ?_ hc fun b o e => ?_⟩
  · cases e : s.heap.get? h₁.objs.size with
    | none => rfl
    | some o => exact absurd (Heap.lt_size (hk _ o e)) (Nat.lt_irrefl _)
  · have hb : b < h₁.objs.size := Heap.lt_size (hk b o e)
    refine (sortedHeap_old (Nat.ne_of_lt hb) (by rw [Heap.size_push]; exact Nat.lt_succ_of_lt hb)).trans ?_
    exact Heap.get?_push_of_some _ (hk b o e)
end

section
variable {u : U} {n : Nat} {f : Fm} {l : Led} {ℓ : Loc} {P : V → Led → Prop} {i j : Int}
theorem RS.made {s s' : Shared} {a : Addr} {o : O} (r : RS u f l ℓ s) (k : ∀ b o, s.heap.get? b = some o → s'.heap.get? b = some o) (hn : s.heap.get? a = none) (h : At u.prog u.w s'.heap a o) : RS u f ((a, o) :: l) ℓ s' := by
  have r' := r.grow (s' := s') k
  obtain ⟨⟨m, F, _, _⟩, _, led⟩ := r
  refine ⟨r'.fr, ?_, ?_⟩
  · refine List.nodup_cons.mpr ⟨fun hm => ?_, r'.nodup⟩
    obtain ⟨p, hp, q⟩ := List.mem_map.mp hm
    obtain ⟨ob', ho⟩ := (led p hp).1.there
    rw [q, hn] at ho; cases ho
  · intro p hp
    rcases List.mem_cons.mp hp with rfl | hp
    · refine ⟨h, fun e => ?_, ?_⟩
      · refine elX3_2 ?_ F.ns; rintro oL _ _ hL _
        have e : a = f.L := e
        rw [← e, hn] at hL; cases hL
      · cases q : f.g.get? a with
        | none => rfl
        | some o' => have := F.keep _ _ q; rw [hn] at this; cases this
    · exact r'.led p hp
theorem reps_ints {ns : List Int} : ∀ {xs : List Value}, IntsAre xs ns → Reps (ns.map .int) xs := by
  induction ns with
  | nil => intro xs h; cases h; exact .nil
  | cons i is ih => intro xs h; cases h with | cons k t h => exact .cons ⟨t, rfl⟩ (ih h)
theorem Call_sorted {a : Addr} {kvs : List (Int × V)} (ha : (a, O.dict kvs) ∈ l) (hz : kvs.length < 64) (h : ∀ d (ns : List Int), ns.Perm (kvs.map (·.1)) → ns.Pairwise (· ≤ ·) → P (.ref d) ((d, .list (ns.map .int)) :: l)) : CallV u n f l ℓ (.bi "sorted") [.ref a] P := by
  rintro x xs ⟨tk, rfl⟩ rxs
  obtain ⟨_, rfl⟩ := one_arg rxs
  refine .of fun hu hf s r => ?_
  refine elA2 ?_ (r.dict ha); rintro hs; refine elX1_2 ?_; rintro xs rk hd
  refine sorted_dict (r.hand hf) hs hd (by rw [← rk.length]; exact hz) fun d h' tk out ns c h1 h2 h3 h4 h5 h6 => ?_
  exact ⟨_, ℓ, r.made (s' := { s with heap := h', toks := tk }) (o := .list (ns.map .int)) h6 h4 ⟨out.toList, c, reps_ints h1, by rw [Array.toArray_toList]; exact h5⟩, ⟨rfl, rfl, rfl⟩, _, Rep.mk (v := .ref d) 0, rfl, h d ns (by rw [rk.keys]; exact h2) h3⟩
theorem Call_join {a : Addr} {bs : List (List UInt8)} (ha : (a, O.list (bs.map .bytes)) ∈ l) (hz : bs.length ≤ 1000) (hb : ∀ b ∈ bs, b.length ≤ 1000) (h : P (.bytes bs.flatten) l) : CallV u n f l ℓ (.bi "bytes.join") [.bytes [], .ref a] P := by
  rintro x xs ⟨tk, rfl⟩ rxs
  obtain ⟨t1, _, rfl⟩ := two_args rxs
  refine .of fun hu hf s r => ?_
  obtain ⟨ys, ry, hl⟩ := r.isList ha
  exact join_list hl ry hz hb fun t tk => ⟨l, ℓ, r.toks, ⟨rfl, rfl, rfl⟩, .bytes bs.flatten, ⟨t, rfl⟩, rfl, h⟩
theorem Meth_join {b : List UInt8} {Q : V → List V → Led → Prop} (h : Q (.bi "bytes.join") [.bytes b] l) : MethV u n f l ℓ (.bytes b) "join" Q := by
  rintro x pl ⟨t, rfl⟩
  with_reducible refine W.of fun hu hf s r => ?_
  have ne : ∀ c, Value.bytes b.toArray t = Value.ref c → ∃ ob, s.heap.get? c = some ob ∧ ob.dict = none := fun b e => nomatch e
  have a1 := typeIs_bytes s b.toArray t
  with_reducible refine getMethod_builtin a1 FB.plainAttrs_bytes By.slot_join By.type_join ne ?_
  exact ⟨l, ℓ, r, .refl s, .bi "bytes.join", [.bytes b], Rep.mk (v := .bi "bytes.join") 0, .cons (Rep.mk (v := .bytes b) t) .nil, rfl, h⟩
theorem Meth_to_bytes {Q : V → List V → Led → Prop} (h : Q (.bi "int.to_bytes") [.int i] l) : MethV u n f l ℓ (.int i) "to_bytes" Q := by
  rintro x pl ⟨t, rfl⟩
  with_reducible refine W.of fun hu hf s r => ?_
  have ne : ∀ b, Value.int i t = Value.ref b → ∃ ob, s.heap.get? b = some ob ∧ ob.dict = none := fun b e => nomatch e
  have a1 := typeIs_int s i t
  with_reducible refine getMethod_builtin a1 F.plainAttrs_int KTBy.slot KTBy.type_eq ne ?_
  exact ⟨l, ℓ, r, .refl s, .bi "int.to_bytes", [.int i], Rep.mk (v := .bi "int.to_bytes") 0, .cons (Rep.mk (v := .int i) t) .nil, rfl, h⟩
theorem Call_to_bytes {k : Nat} {B : Int} (hk : k ≤ 8) (hB : (256 : Int) ^ k = B) (h0 : 0 ≤ i) (h1 : i < B) (h : P (.bytes ((KTBy.little k i).reverse.map fun c => c.toNat.toUInt8)) l) : CallV u n f l ℓ (.bi "int.to_bytes") [.int i, .int (k : Int), .str "big"] P := by
  rintro x xs ⟨tk, rfl⟩ rxs
  refine elE3 ?_ (three_args rxs); rintro t1 t2 t3; rintro rfl
  refine .of fun hu hf s r => KTBy.to_big hk hB h0 h1 fun b t' k' hb _ => ?_
  exact ⟨l, ℓ, r.toks, ⟨rfl, rfl, rfl⟩, .bytes ((KTBy.little k i).reverse.map fun c => c.toNat.toUInt8), ⟨t', congrArg (fun z => Value.bytes z t') (ints_bytes hb)⟩, rfl, h⟩
end

/-! comprehensions -/
section
variable {u : U} {n : Nat} {f : Fm} {l : Led} {ℓ : Loc} {P : V → Led → Prop}
noncomputable def Filt (u : U) (n : Nat) (f : Fm) (l : Led) (ℓ : Loc) : List Expr → (Bool → Led → Prop) → Prop
  | [], P => P true l
  | [c], P => Tr u n f l ℓ c P
  | _, _ => False
theorem compLoop_codeX {tgt elt iter : Expr} {ifs : List Expr} {scope : Scope} {pos : Pos} {it D : Addr} {N : Nat} {val : Nat → V} {J : Nat → Heap → Prop} {C : Heap → Prop} (hu : u.Ok) (hf : f.Ok u n) (K : Itr u f.A it N val J C)
    (I : Nat → List V → Led → Loc → Prop) (hN : N ≤ 10000) (hC : ∀ s : Shared, (∀ b o, f.g.get? b = some o → s.heap.get? b = some o) → C s.heap)
    (turn : ∀ f' i acc l ℓ, i < N → I i acc l ℓ → Asg u n f' l ℓ tgt (val i) fun l' ℓ' => Filt u n f' l' ℓ' ifs fun b l₂ => Br b (Ev u n f' l₂ ℓ' elt fun y l₃ => I (i + 1) (acc ++ [y]) l₃ ℓ') (I (i + 1) acc l₂ ℓ'))
    (hL : it ≠ f.L) (hg : f.g.get? it = none) (hDL : D ≠ f.L) (hDg : f.g.get? D = none) (hDi : D ≠ it) :
    ∀ k i acc l ℓ ys, i + k = N → I i acc l ℓ → it ∉ l.map (·.1) → D ∉ l.map (·.1) → acc.length ≤ i → ∀ s, RS u f l ℓ s → J i s.heap → Reps acc ys → s.heap.PlainList D ys.toArray →
      codeX u.M f.A (.compLoop (.ListComp elt [⟨tgt, iter, ifs, 0⟩] scope pos) 0 (.ref it) (.ref D) f.env)
        (fun r s' => match r with | .ok _ => ∃ acc' ys' l' ℓ', I N acc' l' ℓ' ∧ RS u f l' ℓ' s' ∧ D ∉ l'.map (·.1) ∧ Reps acc' ys' ∧ s'.heap.PlainList D ys'.toArray ∧ Same s s' | .error _ => False) s := by
  intro k
  induction k with
  | zero =>
    intro i acc l ℓ ys hi hI hl hD hlen s r hJ ry hp
    have hi : i = N := hi
    subst hi
    refine codeX_of_tree ?_
    show wpX _ f.A ((compTurn (.ListComp elt [⟨tgt, iter, ifs, 0⟩] scope pos) 0 (.ref it) (.ref D) f.env).onRaise (fun x => do noteFrame x f.env; theTreesLotGoes x)) _ _ s
    refine wpX_onRaise ?_
    rw [compTurn_list]
    obtain ⟨m, F, _⟩ := r.fr
    refine wpX_bind (.of (wpAny_standAt (wpX_bind (.of (K.fin s _ hJ (hC s F.keep) fun h' hx => ?_)))))
    obtain ⟨c, hp⟩ := hp
    exact wpX_pure ⟨acc, ys, l, ℓ, hI, r.other (s' := { s with heap := h' }) hL hg hl hx, hD, ry, ⟨c, hx _ _ hDi hp⟩, ⟨rfl, rfl, rfl⟩⟩
  | succ k ih =>
    intro i acc l ℓ ys hi hI hl hD hlen s r hJ ry hp
    refine codeX_of_tree ?_
    show wpX _ f.A ((compTurn (.ListComp elt [⟨tgt, iter, ifs, 0⟩] scope pos) 0 (.ref it) (.ref D) f.env).onRaise (fun x => do noteFrame x f.env; theTreesLotGoes x)) _ _ s
    refine wpX_onRaise ?_
    rw [compTurn_list]
    obtain ⟨m, F, _⟩ := r.fr
    refine wpX_bind (.of (wpAny_standAt (wpX_bind (.of (K.item i s _ (by lia) hJ (hC s F.keep) fun y h' tk rv hJ' hsb => ?_)))))
    refine wpX_bind (.of (K.go (i + 1) _ tgt y _ hJ' ?_))
    have r1 := r.other (s' := { s with heap := h', toks := tk }) hL hg hl hsb.extBut
    obtain ⟨c, hp⟩ := hp
    have hp1 : h'.get? D = some _ := hsb.extBut _ _ hDi hp
    refine elX1_7 ?_ (r1.freeze hf); rintro f' he hA hL' hf' r1' froz back
    obtain ⟨o, ho⟩ := K.there _ _ hJ'
    have hgo := froz it o ho hL hl
    have hgD := froz D _ hp1 hDL hD
    have hw := turn f' i acc l ℓ (by lia) hI y rv hu hf' _ r1'
    rw [he, hA] at hw
    refine wpX_bind (wpX_mono hw ?_ fun _ _ e => e)
    rintro _ s₂; refine elX2_3 ?_; rintro l₂ ℓ₂ r₂ sm₂ h₂
    have filt : wpX u.M f.A (forIn ifs true fun c r => if r = true then do let ok ← isTrue c f.env (eval c f.env); Pure.pure (ForInStep.yield ok) else Pure.pure (ForInStep.yield r))
        (fun b s₃ => ∃ l₃, RS u f' l₃ ℓ₂ s₃ ∧ Same s₂ s₃ ∧ Br b (Ev u n f' l₃ ℓ₂ elt fun y l₄ => I (i + 1) (acc ++ [y]) l₄ ℓ₂) (I (i + 1) acc l₃ ℓ₂)) NoE s₂ := by
      rcases ifs with _ | ⟨c, _ | ⟨c', cs⟩⟩
      · rw [List.forIn_nil]
        exact wpX_pure ⟨l₂, r₂, .refl _, h₂⟩
      · rw [List.forIn_cons]
        have hb := h₂ hu hf' s₂ r₂
        rw [he, hA] at hb
        refine wpX_bind ?_
        rw [if_pos rfl]
        refine wpX_bind (wpX_mono hb ?_ fun _ _ e => e)
        rintro b s₃; refine elX2_4 ?_; rintro l₃ ℓ₃ r₃ sm₃ rfl h₃
        refine wpX_pure ?_
        dsimp only
        rw [List.forIn_nil]
        exact wpX_pure ⟨l₃, r₃, sm₃, h₃⟩
      · exact h₂.elim
    have goOn : ∀ (acc' : List V) ys' l₄ s₄, RS u f' l₄ ℓ₂ s₄ → Same s s₄ → I (i + 1) acc' l₄ ℓ₂ → acc'.length ≤ i + 1 → Reps acc' ys' → (∀ b ob, f'.g.get? b = some ob → s₄.heap.get? b = some ob) → ∀ s₅, Same s₄ s₅ → s₅.heap.PlainList D ys'.toArray → Heap.ExtBut D s₄.heap s₅.heap →
        codeX u.M f.A (.compLoop (.ListComp elt [⟨tgt, iter, ifs, 0⟩] scope pos) 0 (.ref it) (.ref D) f.env)
          (fun r s' => match r with | .ok _ => ∃ acc' ys' l' ℓ', I N acc' l' ℓ' ∧ RS u f l' ℓ' s' ∧ D ∉ l'.map (·.1) ∧ Reps acc' ys' ∧ s'.heap.PlainList D ys'.toArray ∧ Same s s' | .error _ => False) s₅ := fun acc' ys' l₄ s₄ r₄ sm₄ hI₄ hlen₄ ry₄ kp s₅ sm₅ hp₅ hx₅ => by
      have hlD : D ∉ l₄.map (·.1) := fun hm => by
        obtain ⟨p, hp, e⟩ := List.mem_map.mp hm
        have := (r₄.led p hp).2.2
        rw [e, hgD] at this; cases this
      have hlI : it ∉ l₄.map (·.1) := fun hm => by
        obtain ⟨p, hp, e⟩ := List.mem_map.mp hm
        have := (r₄.led p hp).2.2
        rw [e, hgo] at this; cases this
      have r₅ := (back _ _ _ r₄).other (s' := s₅) hDL hDg hlD hx₅
      refine codeX_mono (ih (i + 1) acc' l₄ ℓ₂ ys' (by lia) hI₄ hlI hlD hlen₄ s₅ r₅ (K.con _ _ _ hJ' fun o' e => ?_) ry₄ hp₅) fun rs s₆ h₆ => ?_
      · rw [ho] at e; cases e
        exact hx₅ _ _ (Ne.symm hDi) (kp _ _ hgo)
      · cases rs with
        | ok fl =>
          refine elX4_6 ?_ h₆; clear h₆; rintro a1 a2 a3 a4 a5 a6 a7 a8 a9 a10
          exact ⟨a1, a2, a3, a4, a5, a6, a7, a8, a9, (sm₄.trans sm₅).trans a10⟩
        | error e => exact h₆
    refine wpX_bind (wpX_mono filt ?_ fun _ _ e => e)
    rintro b s₃; refine elX1_3 ?_; rintro l₃ r₃ sm₃ hbr
    have smA : Same s s₃ := Same.trans (b := { s with heap := h', toks := tk }) ⟨rfl, rfl, rfl⟩ (sm₂.trans sm₃)
    obtain ⟨m₃, F₃, _⟩ := r₃.fr
    cases b with
    | false =>
      have hb := hbr.2 rfl
      rw [if_neg Bool.false_ne_true]
      refine wpX_pure ⟨rfl, rfl, goOn acc ys l₃ s₃ r₃ smA hb (by lia) ry F₃.keep s₃ (.refl _) ⟨c, F₃.keep _ _ hgD⟩ fun b o _ e => e⟩
    | true =>
      have hb := hbr.1 rfl hu hf' s₃ r₃
      rw [he, hA] at hb
      rw [if_pos rfl]
      refine wpX_bind (wpX_bind (wpX_mono hb ?_ fun _ _ e => e))
      rintro z s₄; refine elX2_3 ?_; rintro l₄ ℓ₄ r₄ sm₄; refine elX1_3 ?_; rintro v rz rfl hI₄
      obtain ⟨m₄, F₄, _⟩ := r₄.fr
      have hp₄ : s₄.heap.get? D = some _ := F₄.keep _ _ hgD
      refine wpX_bind (.of (wpAny_list_append_plain ⟨c, hp₄⟩ (fun h₅ hl₅ hs₅ => ?_) (by rw [List.size_toArray, ← ry.length]; have : sizeLine = 16777216 := rfl; lia)))
      refine wpX_pure (wpX_pure ⟨rfl, rfl, goOn (acc ++ [v]) (ys ++ [z]) l₄ s₄ r₄ (smA.trans sm₄) hI₄ (by rw [List.length_append]; simp; lia) (ry.append (.cons rz .nil)) F₄.keep { s₄ with heap := h₅ } ⟨rfl, rfl, rfl⟩ ?_ hs₅.extBut⟩)
      simpa using hl₅
end

section
variable {u : U} {n : Nat} {f : Fm} {l : Led} {ℓ : Loc} {P : V → Led → Prop}
/-- what a comprehension goes over: an object of the ledger, the rest is l₂ -/
noncomputable def Src (u : U) (v : V) (l₁ : Led) (q : Addr × O) (l₂ : Led) (N : Nat) (val : Nat → V) : Prop := Pick q l₁ l₂ ∧
  ∀ (f : Fm) (n : Nat) (ℓ : Loc) (s : Shared) (x : Value) (Q : Value → Shared → Prop), u.Ok → f.Ok u n → RS u f l₁ ℓ s → Rep v x →
    (∀ o J C, Itr u f.A s.heap.objs.size N val J C → (∀ h, (∀ b ob, (s.heap.push o).get? b = some ob → h.get? b = some ob) → J 0 h) → (∀ s' Q', J 0 s'.heap → Q' (.ref s.heap.objs.size) s' → wpAny u.M f.A (pyIter (.ref s.heap.objs.size)) Q' NoE s') →
      (∀ s' : Shared, (∀ b ob, s.heap.get? b = some ob → b ∉ l₂.map (·.1) → s'.heap.get? b = some ob) → C s'.heap) → o.isFreed = false → Q (.ref s.heap.objs.size) { s with heap := s.heap.push o }) → wpAny u.M f.A (pyIter x) Q NoE s
theorem Pick.not_mem {q : Addr × O} {l₁ l₂ : Led} (h : Pick q l₁ l₂) (nd : (l₁.map (·.1)).Nodup) : q.1 ∉ l₂.map (·.1) := by
  have := (h.perm.map (·.1)).nodup_iff.mp nd
  rw [List.map_cons] at this
  exact (List.nodup_cons.mp this).1
theorem Src_list {a : Addr} {vs : List V} {l₁ l₂ : Led} (h : Pick (a, .list vs) l₁ l₂) : Src u (.ref a) l₁ (a, .list vs) l₂ vs.length (fun i => (vs[i]?).getD .none) := by
  refine ⟨h, ?_⟩
  rintro f n ℓ s x Q hu hf r ⟨t, rfl⟩ k
  have r' := r.perm h.perm
  obtain ⟨ys, ry, hl⟩ := r'.isList (.head _)
  obtain ⟨ob, hob, hz⟩ := id hl
  have hlt : a < s.heap.objs.size := Heap.lt_size hob
  refine wpAny_pyIter_list hl (k _ (fun i h => h.IsListIter s.heap.objs.size a i) (fun h => ∃ ys, Reps vs ys ∧ h.IsList a ys.toArray) (Itr_list hf.room.2.2 (Nat.ne_of_gt hlt)) (fun h kk => ⟨_, kk _ _ (Heap.get?_push_size _ rfl), rfl, rfl⟩)
    (fun s' Q' hJ hQ => wpAny_pyIter_listiter hJ hQ) (fun s' kk => ⟨ys, ry, ob, kk _ _ hob (h.not_mem r.nodup), hz⟩) rfl)
theorem Itr_dict {A : Around} {it d : Addr} {kvs : List (Int × V)} {xs : List (Int × Value)} {ep : Nat} (hh : A.handled = none) (rk : RepK kvs xs) :
    Itr u A it kvs.length (fun i => .int ((kvs[i]?).map (·.1) |>.getD 0)) (fun i h => h.IsKeyIter it d i xs.length ep) (fun h => h.DictAt (intKind u.prog u.w) d xs ep) where
  con := fun i h h' ⟨o, ho, z⟩ e => ⟨o, e _ ho, z⟩
  there := fun i h ⟨o, ho, _⟩ => ⟨o, ho⟩
  go := fun i s tgt v Q ⟨o, ho, hc, _⟩ hQ => go_plain ho hc (by decide) hQ
  item := fun i s Q hi hJ hD hQ => by
    have hi' : i < xs.length := by rw [← rk.length]; exact hi
    have hx : xs[i]? = some (xs[i].1, xs[i].2) := List.getElem?_eq_getElem hi'
    refine wpAny_pyNext_dict_item hJ hD hx fun key h' hkey hJ' hs => ?_
    obtain ⟨t, rfl⟩ := Value.isInt_shape hkey
    refine hQ _ h' s.toks ⟨t, ?_⟩ hJ' hs
    have e1 : (kvs[i]?).map (·.1) = some xs[i].1 := by
      have := congrArg (fun z => z[i]?) rk.keys
      simp only [List.getElem?_map] at this
      rw [this, hx]; rfl
    rw [e1]; rfl
  fin := fun s Q hJ hD hQ => by
    refine wpAny_pyNext_dict_end hh (i := kvs.length) hJ hD ?_ hQ
    rw [rk.length]; simp
theorem Src_dict {a : Addr} {kvs : List (Int × V)} {l₁ l₂ : Led} (h : Pick (a, .dict kvs) l₁ l₂) : Src u (.ref a) l₁ (a, .dict kvs) l₂ kvs.length (fun i => .int ((kvs[i]?).map (·.1) |>.getD 0)) := by
  refine ⟨h, ?_⟩
  rintro f n ℓ s x Q hu hf r ⟨t, rfl⟩ k
  have r' := r.perm h.perm
  refine elA2 ?_ (r'.dict (.head _)); rintro hs; refine elX1_2 ?_; rintro xs rk hd
  obtain ⟨ep, ha⟩ := hd.dictAt
  refine elX2_2 ?_ (id ha); rintro ob es hob hz
  refine wpAny_pyIter_dict hs ha (k _ (fun i h => h.IsKeyIter s.heap.objs.size a i xs.length ep) (fun h => h.DictAt (intKind u.prog u.w) a xs ep) (Itr_dict hf.room.2.2 rk) (fun h kk => ⟨_, kk _ _ (Heap.get?_push_size _ rfl), rfl, rfl⟩)
    (fun s' Q' hJ hQ => wpAny_pyIter_keyiter hJ hQ) (fun s' kk => ⟨ob, es, kk _ _ hob (h.not_mem r.nodup), hz⟩) rfl)

/-! the names of a comprehension -/
noncomputable def freeOf (names : List (Str × NameKind)) : List Str := (names.filter (·.2 == .free)).map (·.1)
noncomputable def compLoc (K : Frag) (names : List (Str × NameKind)) (cl : List (Str × Addr)) : Loc := names.map fun (x, k) => (x, match k with
  | .local => .unb
  | .free => (match cl.lookup x with | some c => .cel c | none => .unb)
  | _ => (match gv K x with | some y => .glob y | none => .unb))
noncomputable def compOkB (K : Frag) (names : List (Str × NameKind)) (cl : List (Str × Addr)) : Bool :=
  (names.all fun (x, k) => (x == ("__debug__" : Str)) == false && (x == ("__name__" : Str)) == false && (x == ("__classdict__" : Str)) == false && (match k with | .local => true | .free => (cl.lookup x).isSome | .globalImplicit => (gv K x).isSome | _ => false)) && decide (names.map (·.1)).Nodup
theorem lookup_map_kind {α : Type} {names : List (Str × NameKind)} (g : Str × NameKind → α) (nd : (names.map (·.1)).Nodup) {x : Str} {k : NameKind} (h : (x, k) ∈ names) : (names.map fun p => (p.1, g p)).lookup x = some (g (x, k)) := by
  refine lookup_of_mem ?_ (List.mem_map.mpr ⟨(x, k), h, rfl⟩)
  rw [List.map_map]; exact nd
theorem compLoc_ok {u : U} {f : Fm} {env : Env} {scope : Scope} {cl : List (Str × Addr)} (hu : u.Ok) (ok : compOkB u.K scope.names cl = true) (he : f.env.scope = relabel scope env) (hc : f.env.cells = cl) :
    ((compLoc u.K scope.names cl).map (·.1)).Nodup ∧ ∀ x sl, (x, sl) ∈ compLoc u.K scope.names cl → (x == ("__debug__" : Str)) = false ∧ SlOk u f (fun _ => none) x sl := by
  unfold compOkB at ok
  simp only [Bool.and_eq_true, decide_eq_true_eq] at ok
  obtain ⟨ok1, nd⟩ := ok
  refine ⟨?_, fun x sl hm => ?_⟩
  · unfold compLoc; rw [List.map_map]; exact nd
  · obtain ⟨⟨x', k⟩, hx, e⟩ := List.mem_map.mp hm
    obtain ⟨e1, e2⟩ := Prod.mk.inj e
    subst e1
    have q := List.all_eq_true.mp ok1 _ hx
    simp only [Bool.and_eq_true, beq_iff_eq] at q
    obtain ⟨⟨⟨q1, q2⟩, q3⟩, q4⟩ := q
    have hk : f.env.kindOf x' = some (if (k == .free && env.scope.kind == .function && env.kindOf x' == some .cell) then .cell else k) := by
      show f.env.scope.names.lookup x' = _
      rw [he]
      show (scope.names.map fun (n, k) => if (k == .free && env.scope.kind == .function && env.kindOf n == some .cell) then (n, NameKind.cell) else (n, k)).lookup x' = _
      have eq1 : (fun (p : Str × NameKind) => match p with | (n, k) => if (k == .free && env.scope.kind == .function && env.kindOf n == some .cell) = true then (n, NameKind.cell) else (n, k)) = fun p => (p.1, if (p.2 == .free && env.scope.kind == .function && env.kindOf p.1 == some .cell) = true then NameKind.cell else p.2) := by
        funext ⟨n, k⟩; dsimp only; split <;> rfl
      rw [eq1]
      exact lookup_map_kind (fun p => if (p.2 == .free && env.scope.kind == .function && env.kindOf p.1 == some .cell) = true then NameKind.cell else p.2) nd hx
    refine ⟨q1, ?_⟩
    cases k with
    | «local» => dsimp only at e2; subst e2; exact ⟨by rw [hk]; rfl, rfl⟩
    | globalImplicit =>
      dsimp only at e2
      obtain ⟨y, hy⟩ := Option.isSome_iff_exists.mp q4
      rw [hy] at e2
      subst e2
      refine ⟨by rw [hk]; rfl, gv_ok hu hy fun e => ?_⟩
      rw [e] at q2; simp at q2
    | free =>
      dsimp only at e2
      obtain ⟨c, hcl⟩ := Option.isSome_iff_exists.mp q4
      rw [hcl] at e2
      subst e2
      refine ⟨?_, by rw [hc]; exact hcl⟩
      rw [hk]
      split
      · exact .inl rfl
      · exact .inr ⟨rfl, q3⟩
    | _ => exact absurd q4 (by simp)
theorem closure_of {scope : Scope} {env : Env} {cl : List (Str × Addr)} (h : freeOf scope.names = cl.reverse.map (·.1)) (hc : ∀ p ∈ cl, env.cells.lookup p.1 = some p.2) : closureFor scope env = Pure.pure cl := by
  have gen : ∀ (names : List (Str × NameKind)) (cs rest : List (Str × Addr)), freeOf names = rest.map (·.1) → (∀ p ∈ rest, env.cells.lookup p.1 = some p.2) →
      (forIn names cs fun (x : Str × NameKind) cs => match x with | (name, kind) => (if (kind == NameKind.free) = true then do let c ← cellOf env name; Pure.pure (ForInStep.yield ((name, c) :: cs)) else Pure.pure (ForInStep.yield cs) : Sem (ForInStep (List (Str × Addr))))) = Pure.pure (rest.reverse ++ cs) := by
    intro names
    induction names with
    | nil =>
      intro cs rest h _
      have : rest = [] := by cases rest with | nil => rfl | cons => simp [freeOf] at h
      subst this
      rw [List.forIn_nil]; rfl
    | cons x names ih =>
      intro cs rest h hc
      obtain ⟨name, kind⟩ := x
      rw [List.forIn_cons]
      by_cases hk : kind = .free
      · subst hk
        obtain ⟨p, rest, rfl⟩ : ∃ p r, rest = p :: r := by cases rest with | nil => simp [freeOf] at h | cons p r => exact ⟨p, r, rfl⟩
        have h2 : name :: freeOf names = p.1 :: rest.map (·.1) := h
        obtain ⟨e1, e2⟩ := List.cons.inj h2
        have hl := hc p (.head _)
        rw [← e1] at hl
        show ((do let c ← cellOf env name; Pure.pure (ForInStep.yield ((name, c) :: cs))) >>= _) = _
        unfold cellOf
        rw [hl]
        exact (ih ((name, p.2) :: cs) rest e2 fun q hq => hc q (.tail _ hq)).trans (by rw [e1]; simp)
      · have hb : (kind == NameKind.free) = false := by simpa using hk
        show ((if (kind == NameKind.free) = true then _ else Pure.pure (ForInStep.yield cs)) >>= _) = _
        rw [hb, if_neg Bool.false_ne_true]
        refine ih cs rest ?_ hc
        have : freeOf ((name, kind) :: names) = freeOf names := by unfold freeOf; rw [List.filter_cons_of_neg (by simpa using hk)]
        rw [← this]; exact h
  unfold closureFor
  have := gen scope.names [] cl.reverse h fun p hp => hc p (List.mem_reverse.mp hp)
  rw [List.reverse_reverse, List.append_nil] at this
  show (forIn scope.names [] _ >>= fun cs => Pure.pure cs) = _
  rw [this]
  rfl
end

section
variable {u : U} {n : Nat} {f : Fm} {l : Led} {ℓ : Loc} {P : V → Led → Prop}
theorem compStartX {prog : Program} {w : World} {A : Around} {R : Result → Shared → Prop} {s : Shared} {elt target iter : Expr} {ifs : List Expr} {scope : Scope} {pos : Pos} {it acc : Value} {env : Env}
    (h0 : codeX (model prog w) A (.compLoop (.ListComp elt [⟨target, iter, ifs, 0⟩] scope pos) 0 it acc env) R s)
    (h : wpX (model prog w) A (pyIter it) (fun it' s' => codeX (model prog w) A (.compLoop (.ListComp elt [⟨target, iter, ifs, 0⟩] scope pos) 0 it' acc env) R s') (fun _ _ => False) s) :
    codeX (model prog w) A (.compStart (.ListComp elt [⟨target, iter, ifs, 0⟩] scope pos) 0 it acc env) R s := by
  refine codeX_of_tree ?_
  show wpX _ A ((compStart (.ListComp elt [⟨target, iter, ifs, 0⟩] scope pos) 0 it acc env).onRaise (fun x => do noteFrame x env; standAt theWindowsPlace)) _ _ s
  refine wpX_onRaise ?_
  unfold compStart
  show wpX _ _ (ask >>= _) _ _ s
  refine wpX_bind (.of (wpAny_askSetting ?_))
  split
  · exact wpX_pure ⟨rfl, rfl, h0⟩
  · refine wpX_bind (.of (wpAny_rule ?_))
    show wpX _ _ (standAt iter.pos >>= _) _ _ s
    exact wpX_bind (.of (wpAny_standAt (wpX_bind (wpX_mono h (fun it' s' h' => wpX_pure ⟨rfl, rfl, h'⟩) fun _ _ e => e))))

/-- where a comprehension's loop ends -/
noncomputable def CompEnd (u : U) (f : Fm) (ℓ : Loc) (s : Shared) (q : Addr × O) (D C : Addr) (Fin : List V → Led → Prop) (s' : Shared) : Prop :=
  ∃ m acc l', s'.heap.Ns C m ∧ Fin acc l' ∧ RS u f (((D, .list acc) :: l') ++ [q]) ℓ s' ∧ C ∉ (((D, O.list acc) :: l') ++ [q]).map (·.1) ∧ Same s s'
theorem comp_core {tgt elt iter : Expr} {ifs : List Expr} {scope : Scope} {pos : Pos} {cl : List (Str × Addr)} {ℓ₀ : Loc} {s : Shared} {o : Obj} {N : Nat} {val : Nat → V} {J : Nat → Heap → Prop} {Cc : Heap → Prop} {l₁ l₂ : Led} {q : Addr × O} {h₄ : Heap} {tk : Nat} {D C : Addr} (eD : D = s.heap.objs.size + 1) (eC : C = s.heap.objs.size + 2)
    (hu : u.Ok) (hf : f.Ok u n) (r : RS u f l₁ ℓ s) (pk : Pick q l₁ l₂) (hkind : scope.kind = .function) (ok : compOkB u.K scope.names cl = true) (hℓ : compLoc u.K scope.names cl = ℓ₀)
    (K : Itr u f.A s.heap.objs.size N val J Cc) (hJ : ∀ h, (∀ b ob, (s.heap.push o).get? b = some ob → h.get? b = some ob) → J 0 h)
    (self : ∀ s' Q', J 0 s'.heap → Q' (.ref s.heap.objs.size) s' → wpAny u.M f.A (pyIter (.ref s.heap.objs.size)) Q' NoE s')
    (hC : ∀ s' : Shared, (∀ b ob, s.heap.get? b = some ob → b ∉ l₂.map (·.1) → s'.heap.get? b = some ob) → Cc s'.heap) (hfr : o.isFreed = false)
    (I : Nat → List V → Led → Loc → Prop) (hN : N ≤ 10000) (h0 : I 0 [] l₂ ℓ₀)
    (turn : ∀ f' i acc l ℓ, i < N → I i acc l ℓ → Asg u n f' l ℓ tgt (val i) fun l' ℓ' => Filt u n f' l' ℓ' ifs fun b l₂ => Br b (Ev u n f' l₂ ℓ' elt fun y l₃ => I (i + 1) (acc ++ [y]) l₃ ℓ') (I (i + 1) acc l₂ ℓ'))
    (hns : h₄.Ns C (fun _ => none)) (hsb : Heap.SameBut C (((s.heap.push o).push { cls := .type "list", data := .seq #[] }).push { cls := .type "dict", data := .dict #[] }) h₄) :
    codeX u.M f.A (.compStart (.ListComp elt [⟨tgt, iter, ifs, 0⟩] scope pos) 0 (.ref s.heap.objs.size) (.ref D) (compEnvC scope cl C f.env))
      (fun r s' => match r with | .ok _ => CompEnd u f ℓ s q D C (fun acc l' => ∃ ℓ', I N acc l' ℓ') s' | .error _ => False) { s with heap := h₄, toks := tk } := by
  subst eD eC
  have sz1 : (s.heap.push o).objs.size = s.heap.objs.size + 1 := Heap.size_push _ _
  have sz2 : ((s.heap.push o).push { cls := .type "list", data := .seq #[] }).objs.size = s.heap.objs.size + 2 := by rw [Heap.size_push, sz1]
  have ne2 : ∀ b, b < s.heap.objs.size + 2 → b ≠ s.heap.objs.size + 2 := fun b hb => Nat.ne_of_lt hb
  have k1 : ∀ b ob, (s.heap.push o).get? b = some ob → h₄.get? b = some ob := fun b ob e => by
    have hb := Heap.lt_size e
    rw [sz1] at hb
    exact (hsb.2 b (ne2 b (Nat.lt_succ_of_lt hb))).trans (Heap.get?_push_of_some _ (Heap.get?_push_of_some _ e))
  have k0 : ∀ b ob, s.heap.get? b = some ob → h₄.get? b = some ob := fun b ob e => k1 _ _ (Heap.get?_push_of_some _ e)
  have hD : h₄.PlainList (s.heap.objs.size + 1) ([] : List Value).toArray := ⟨0, (hsb.2 _ (ne2 _ (Nat.lt_succ_self _))).trans (Heap.get?_push_of_some _ (by rw [← sz1]; exact Heap.get?_push_size _ rfl))⟩
  have rp := r.perm pk.perm
  have fresh : ∀ b, s.heap.objs.size ≤ b → s.heap.get? b = none := fun b hb => by
    cases e : s.heap.get? b with
    | none => rfl
    | some ob => exact absurd (Heap.lt_size e) (Nat.not_lt.mpr hb)
  have notin : ∀ b, s.heap.objs.size ≤ b → b ∉ l₂.map (·.1) := fun b hb hm => by
    obtain ⟨p, hp, e⟩ := List.mem_map.mp hm
    obtain ⟨ob, ho⟩ := (rp.led p (.tail _ hp)).1.there
    rw [e, fresh b hb] at ho; cases ho
  have gnone : ∀ b, s.heap.objs.size ≤ b → (hideAll s.heap (l₂.map (·.1))).get? b = none := fun b hb => by
    cases e : (hideAll s.heap (l₂.map (·.1))).get? b with
    | none => rfl
    | some ob => have q := of_hideAll _ e; rw [fresh b hb] at q; cases q
  refine elX1_3 ?_ rp.fr; rintro m₀ F₀ nd₀ hl₀
  have kb : ∀ b ob, u.base.get? b = some ob → (hideAll s.heap (l₂.map (·.1))).get? b = some ob := fun b ob e => hideAll_get _ (F₀.keep _ _ (hf.keep _ _ e)) fun hm => by
    obtain ⟨p, hp, e'⟩ := List.mem_map.mp hm
    have := (rp.led p (.tail _ hp)).2.2
    rw [e', hf.keep _ _ e] at this; cases this
  let f' : Fm := { g := hideAll s.heap (l₂.map (·.1)), L := s.heap.objs.size + 2, env := compEnvC scope cl (s.heap.objs.size + 2) f.env, A := f.A }
  have hf' : f'.Ok u n := ⟨kb, by show (relabel scope f.env).kind = .function; exact hkind, rfl, hf.globals, hf.builtins, hf.room⟩
  have lok := compLoc_ok (f := f') (env := f.env) hu ok rfl rfl
  have rs : RS u f' l₂ ℓ₀ { s with heap := h₄, toks := tk } := by
    refine ⟨⟨fun _ => none, ⟨hns, fun b ob e => k0 _ _ (of_hideAll _ e), gnone _ (Nat.le_add_right _ _)⟩, by rw [← hℓ]; exact lok.1, by rw [← hℓ]; exact lok.2⟩, ?_, fun p hp => ⟨((rp.led p (.tail _ hp)).1.congr (k0 _)), ?_, hideAll_none _ (List.mem_map_of_mem hp)⟩⟩
    · have := rp.nodup; rw [List.map_cons] at this; exact (List.nodup_cons.mp this).2
    · obtain ⟨ob, ho⟩ := (rp.led p (.tail _ hp)).1.there
      exact Nat.ne_of_lt (Nat.lt_succ_of_lt (Nat.lt_succ_of_lt (Heap.lt_size ho)))
  have hJ₄ : J 0 h₄ := hJ _ k1
  have loop : codeX u.M f.A (.compLoop (.ListComp elt [⟨tgt, iter, ifs, 0⟩] scope pos) 0 (.ref s.heap.objs.size) (.ref (s.heap.objs.size + 1)) (compEnvC scope cl (s.heap.objs.size + 2) f.env))
      (fun r s' => match r with | .ok _ => CompEnd u f ℓ s q (s.heap.objs.size + 1) (s.heap.objs.size + 2) (fun acc l' => ∃ ℓ', I N acc l' ℓ') s' | .error _ => False) { s with heap := h₄, toks := tk } := by
    refine codeX_mono (compLoop_codeX (f := f') hu hf' K I hN (fun s' kk => hC s' fun b ob e hm => kk b ob (hideAll_get _ e hm)) turn (Nat.ne_of_lt (Nat.lt_succ_of_lt (Nat.lt_succ_self _))) (gnone _ (Nat.le_refl _)) (Nat.ne_of_lt (Nat.lt_succ_self _)) (gnone _ (Nat.le_succ _)) (Nat.succ_ne_self _)
      N 0 [] l₂ ℓ₀ [] (by lia) h0 (notin _ (Nat.le_refl _)) (notin _ (Nat.le_succ _)) (Nat.le_refl _) _ rs hJ₄ .nil hD) fun rr s' h' => ?_
    cases rr with
    | error e => exact h'
    | ok fl =>
      refine elX4_6 ?_ h'; clear h'; rintro acc ys l' ℓ' hI r' hDl ry ⟨c, hp⟩ sm
      obtain ⟨m, F', _⟩ := r'.fr
      have aft : AftOk u l₂ ((s.heap.objs.size + 1, .list acc) :: l') s s' := by
        refine ⟨List.nodup_cons.mpr ⟨hDl, r'.nodup⟩, fun p hp' => ?_, fun b ob e hm => F'.keep _ _ (hideAll_get _ e hm), ⟨sm.1, sm.2.1, sm.2.2⟩⟩
        rcases List.mem_cons.mp hp' with rfl | hp'
        · exact ⟨⟨ys, c, ry, hp⟩, .inr (fresh _ (Nat.le_succ _))⟩
        · have z := r'.led p hp'
          refine ⟨z.1, ?_⟩
          by_cases hm : p.1 ∈ l₂.map (·.1)
          · exact .inl hm
          · refine .inr ?_
            cases hs : s.heap.get? p.1 with
            | none => rfl
            | some ob => have := z.2.2; rw [show (hideAll s.heap (l₂.map (·.1))).get? p.1 = some ob from hideAll_get _ hs hm] at this; cases this
      have rr1 : RS u f (l₂ ++ [q]) ℓ s := rp.perm (List.perm_append_comm (l₁ := [q]) (l₂ := l₂))
      refine ⟨m, acc, l', F'.ns, ⟨ℓ', hI⟩, rr1.after aft, ?_, sm⟩
      simp only [List.cons_append, List.map_cons, List.map_append, List.mem_cons, List.mem_append, List.map_nil, List.not_mem_nil, or_false, not_or]
      refine ⟨Nat.succ_ne_self _, fun hm => ?_, fun e => ?_⟩
      · obtain ⟨p, hp, e⟩ := List.mem_map.mp hm
        exact (r'.led p hp).2.1 e
      · obtain ⟨ob, ho⟩ := (rp.led q (.head _)).1.there
        rw [← e, fresh _ (Nat.le_add_right _ _)] at ho; cases ho
  exact compStartX loop (.of (self _ _ hJ₄ loop))
end

section
variable {u : U} {n : Nat} {f : Fm} {l : Led} {ℓ : Loc} {P : V → Led → Prop}
/-- a comprehension's premises behind its iterable -/
noncomputable def CompV (u : U) (n : Nat) (tgt elt : Expr) (ifs : List Expr) (ℓ₀ : Loc) (v : V) (l₁ : Led) (P : V → Led → Prop) : Prop :=
  ∃ q l₂ N val, Src u v l₁ q l₂ N val ∧ N ≤ 10000 ∧ ∃ I : Nat → List V → Led → Loc → Prop, I 0 [] l₂ ℓ₀ ∧
    (∀ f' i acc l ℓ, i < N → I i acc l ℓ → Asg u n f' l ℓ tgt (val i) fun l' ℓ' => Filt u n f' l' ℓ' ifs fun b l₂ => Br b (Ev u n f' l₂ ℓ' elt fun y l₃ => I (i + 1) (acc ++ [y]) l₃ ℓ') (I (i + 1) acc l₂ ℓ')) ∧
    ∀ acc l' ℓ', I N acc l' ℓ' → ∀ d, P (.ref d) (((d, .list acc) :: l') ++ [q])
theorem comp_names {u : U} {f : Fm} {cl : List (Str × Addr)} {s : Shared} (r : RS u f l ℓ s) (hcl : ∀ p ∈ cl, (p.1, Sl.cel p.2) ∈ ℓ) : ∀ p ∈ cl, f.env.cells.lookup p.1 = some p.2 := fun p hp => by
  refine elX1_3 ?_ r.fr; rintro m F nd hl
  exact (hl _ _ (hcl p hp)).2.2
theorem lookup_names {scope : Scope} (nd : (scope.names.map (·.1)).Nodup) : ∀ x ∈ scope.names, x.2 = .local → scope.names.lookup x.1 = some .local := fun x hx e => by
  obtain ⟨a, b⟩ := x
  dsimp only at e; subst e
  exact lookup_of_mem nd hx
theorem compOk_parts {K : Frag} {names : List (Str × NameKind)} {cl : List (Str × Addr)} (ok : compOkB K names cl = true) : (names.map (·.1)).Nodup ∧ ∀ y ∈ names, y.2 ≠ .cell := by
  unfold compOkB at ok
  simp only [Bool.and_eq_true, decide_eq_true_eq] at ok
  refine ⟨ok.2, fun y hy e => ?_⟩
  have q := List.all_eq_true.mp ok.1 _ hy
  obtain ⟨a, b⟩ := y
  dsimp only at e; subst e
  simp at q
theorem Ev_ListComp {tgt elt iter : Expr} {ifs : List Expr} {scope : Scope} {pos : Pos} (cl : List (Str × Addr)) (ℓ₀ : Loc) (hfree : freeOf scope.names = cl.reverse.map (·.1)) (hcl : ∀ p ∈ cl, (p.1, Sl.cel p.2) ∈ ℓ)
    (ok : ∀ P, compOkB (hd.heap_39 P) scope.names cl = true) (hℓ : ∀ P, compLoc (hd.heap_39 P) scope.names cl = ℓ₀) (hkind : scope.kind = .function)
    (h : Ev u n f l ℓ iter fun v l₁ => CompV u n tgt elt ifs ℓ₀ v l₁ P)
    (hs : ∀ x, foldedSetIterable iter f.env x = Pure.pure x) :
    Ev u n f l ℓ (.ListComp elt [⟨tgt, iter, ifs, 0⟩] scope pos) P := by
  refine W.eq (eval_ListComp ..) ?_
  unfold comprehension
  refine W.bind (W.mono h ?_)
  rintro x l₁ ℓ₁; refine elX1_3 ?_; rintro v rv rfl; refine elX4_3 ?_; rintro q l₂ N val ⟨pk, src⟩ hN; refine elX1_3 ?_; rintro I h0 turn hend
  refine W.bind (W.standAt (W.bind (W.eq (hs _) (W.pure ?_))))
  intro hu hf s r
  refine wpX_bind (wpX_holding (.of (src f n ℓ₁ s x _ hu hf r rv fun o J C K hJ self hC hfr => ?_)))
  refine if_falseX rfl ?_
  have okK := ok u.w.params
  obtain ⟨nd, hcell⟩ := compOk_parts okK
  refine wpX_bind (.of (wpAny_newObj_type ?_ (Nat.zero_le _)))
  refine wpX_bind (wpX_of_eq (closure_of hfree (comp_names r hcl)) ?_)
  refine wpX_bind (.of (wpAny_newFunctionEnv hcell (by intro y hy; simp at hy) (fun h₄ hns hsb => ?_) hkind))
  have sz1 : (s.heap.push o).objs.size = s.heap.objs.size + 1 := Heap.size_push _ _
  have sz2 : ((s.heap.push o).push { cls := .type "list", data := .seq #[] }).objs.size = s.heap.objs.size + 2 := by rw [Heap.size_push, sz1]
  refine wpX_holding (wpX_bind (wpX_attempt (wpX_holding (wpX_run rfl (codeX_mono (comp_core (o := o) (D := (s.heap.push o).objs.size) (C := ((s.heap.push o).push { cls := .type "list", data := .seq #[] }).objs.size) sz1 sz2 hu hf r pk hkind okK (hℓ _) K hJ self hC hfr I hN h0 turn hns hsb) fun rr s' h' => ?_)))))
  cases rr with
  | error e => exact h'.elim
  | ok fl =>
    refine elX3_5 ?_ h'; clear h'; rintro m acc l' hn ⟨ℓ', hI⟩ r' hCl sm
    refine wpX_bind (wpX_holding (.of (wpAny_comp_letGo (cenv := compEnvC scope cl ((s.heap.push o).push { cls := .type "list", data := .seq #[] }).objs.size f.env) (by show (relabel scope f.env).kind = .function; exact hkind) _ s' m (fun x hx hl => lookup_relabel_local (lookup_names nd x (List.mem_filter.mp (List.mem_reverse.mp hx)).1 hl)) hn fun h₅ m₅ _ hs₅ => ?_)))
    refine elX1_2 ?_ r.fr; rintro mF F _
    refine elX3_2 ?_ F.ns; rintro oL _ _ hLo _
    have hLlt := Heap.lt_size hLo
    refine wpX_pure ⟨_, ℓ₁, r'.other (s' := { s' with heap := h₅ }) ?_ ?_ hCl hs₅.extBut, ⟨sm.1, sm.2.1, sm.2.2⟩, _, Rep.mk (v := .ref (s.heap.push o).objs.size) 0, rfl, hend acc l' ℓ' hI _⟩
    · rw [sz2]; exact Nat.ne_of_gt (Nat.lt_succ_of_lt (Nat.lt_succ_of_lt hLlt))
    · cases e : f.g.get? ((s.heap.push o).push { cls := .type "list", data := .seq #[] }).objs.size with
      | none => rfl
      | some ob => exact absurd (Heap.lt_size (F.keep _ _ e)) (by rw [sz2]; exact Nat.not_lt.mpr (Nat.le_add_right _ _))
/-- y = [..] on one line: the store is made before the variables go -/
theorem Ex_AssignComp {y : Str} {py spos : Pos} {tgt elt iter : Expr} {ifs : List Expr} {scope : Scope} {pos : Pos} {R : Fl → Led → Loc → Prop} (cl : List (Str × Addr)) (ℓ₀ : Loc) (hfree : freeOf scope.names = cl.reverse.map (·.1)) (hcl : ∀ p ∈ cl, (p.1, Sl.cel p.2) ∈ ℓ)
    (ok : ∀ P, compOkB (hd.heap_39 P) scope.names cl = true) (hℓ : ∀ P, compLoc (hd.heap_39 P) scope.names cl = ℓ₀) (hkind : scope.kind = .function) (hno : (scope.names.any fun (n, k) => n == y && (k == .local || k == .cell)) = false) (hline : (py.line == pos.line) = true) (hyl : (y, Sl.unb) ∈ ℓ ∨ ∃ w, (y, Sl.loc w) ∈ ℓ)
    (h : Ev u n f l ℓ iter fun v l₁ => CompV u n tgt elt ifs ℓ₀ v l₁ fun w l₂ => ∃ ℓ', Put y w ℓ ℓ' ∧ R .next l₂ ℓ')
    (hs : ∀ x, foldedSetIterable iter f.env x = Pure.pure x) :
    Ex u n f l ℓ (.Assign [.Name y py] (.ListComp elt [⟨tgt, iter, ifs, 0⟩] scope pos) spos) R := by
  intro hu hf s₀ r₀
  have hky : f.env.kindOf y = some .local := by
    refine elX1_3 ?_ r₀.fr; rintro m F nd hl
    rcases hyl with h | ⟨w, h⟩
    · exact (hl _ _ h).2.1
    · exact (hl _ _ h).2.1
  have hsw : swapsWith (.ListComp elt [⟨tgt, iter, ifs, 0⟩] scope pos) (some (.Name y py)) spos.line f.env = Pure.pure true := by
    show (Pure.pure (f.env.blockKind == .function && f.env.kindOf y == some .local && py.line == pos.line && !(scope.names.any fun (n, k) => n == y && (k == .local || k == .cell))) : Sem Bool) = _
    have hb : f.env.blockKind = .function := by unfold Env.blockKind; rw [hf.kind]; rfl
    rw [hb, hky, hline, hno]; rfl
  refine W.eq (exec_Assign_Name_used _ _ _ _ hsw) (W.bind (W.standAt (W.bind ?_))) hu hf s₀ r₀
  show W u n f l ℓ (do let _ ← comprehension (.ListComp elt [⟨tgt, iter, ifs, 0⟩] scope pos) scope f.env iter.pos (newList []) false (eval iter f.env) (some (assign (.Name y py) f.env)); Pure.pure ()) _
  refine W.bind ?_
  unfold comprehension
  refine W.bind (W.mono h ?_)
  rintro x l₁ ℓ₁; refine elX1_3 ?_; rintro v rv rfl; refine elX4_3 ?_; rintro q l₂ N val ⟨pk, src⟩ hN; refine elX1_3 ?_; rintro I h0 turn hend
  refine W.bind (W.standAt (W.bind (W.eq (hs _) (W.pure ?_))))
  intro hu hf s r
  refine wpX_bind (wpX_holding (.of (src f n ℓ₁ s x _ hu hf r rv fun o J C K hJ self hC hfr => ?_)))
  refine if_trueX rfl ?_
  refine wpX_bind (.of (wpAny_standAt ?_))
  have okK := ok u.w.params
  obtain ⟨nd, hcell⟩ := compOk_parts okK
  refine wpX_bind (.of (wpAny_newObj_type ?_ (Nat.zero_le _)))
  refine wpX_bind (wpX_of_eq (closure_of hfree (comp_names r hcl)) ?_)
  refine wpX_bind (.of (wpAny_newFunctionEnv hcell (by intro y hy; simp at hy) (fun h₄ hns hsb => ?_) hkind))
  have sz1 : (s.heap.push o).objs.size = s.heap.objs.size + 1 := Heap.size_push _ _
  have sz2 : ((s.heap.push o).push { cls := .type "list", data := .seq #[] }).objs.size = s.heap.objs.size + 2 := by rw [Heap.size_push, sz1]
  refine wpX_holding (wpX_bind (wpX_attempt (wpX_holding (wpX_run rfl (codeX_mono (comp_core (o := o) (D := (s.heap.push o).objs.size) (C := ((s.heap.push o).push { cls := .type "list", data := .seq #[] }).objs.size) sz1 sz2 hu hf r pk hkind okK (hℓ _) K hJ self hC hfr I hN h0 turn hns hsb) fun rr s' h' => ?_)))))
  cases rr with
  | error e => exact h'.elim
  | ok fl =>
    refine elX3_5 ?_ h'; clear h'; rintro m acc l' hn ⟨ℓ', hI⟩ r' hCl sm
    refine elX1_2 ?_ r.fr; rintro mF F _
    refine elX3_2 ?_ F.ns; rintro oL _ _ hLo _
    have hLlt := Heap.lt_size hLo
    have hCL : ((s.heap.push o).push { cls := .type "list", data := .seq #[] }).objs.size ≠ f.L := by rw [sz2]; exact Nat.ne_of_gt (Nat.lt_succ_of_lt (Nat.lt_succ_of_lt hLlt))
    have hCg : f.g.get? ((s.heap.push o).push { cls := .type "list", data := .seq #[] }).objs.size = none := by
      cases e : f.g.get? ((s.heap.push o).push { cls := .type "list", data := .seq #[] }).objs.size with
      | none => rfl
      | some ob => exact absurd (Heap.lt_size (F.keep _ _ e)) (by rw [sz2]; exact Nat.not_lt.mpr (Nat.le_add_right _ _))
    refine elX1_2 ?_ (hend acc l' ℓ' hI (s.heap.push o).objs.size); rintro ℓ₂ hput hR
    refine wpX_bind (.of (wpAny_rule (wpX_bind (wpX_holding ?_))))
    refine elX1_7 ?_ (r'.freeze hf); rintro f' he hA hL' hf' r1' froz back
    have hw : W u n f' ((((s.heap.push o).objs.size, O.list acc) :: l') ++ [q]) ℓ₁ (assign (.Name y py) f'.env (.ref (s.heap.push o).objs.size)) (fun _ la ℓa => la = ((((s.heap.push o).objs.size, O.list acc) :: l') ++ [q]) ∧ ℓa = ℓ₂) := Asg_Name (R := fun la ℓa => la = ((((s.heap.push o).objs.size, O.list acc) :: l') ++ [q]) ∧ ℓa = ℓ₂) hput ⟨rfl, rfl⟩ _ (Rep.mk (v := .ref (s.heap.push o).objs.size) 0)
    have hw := hw hu hf' _ r1'
    rw [he, hA] at hw
    refine wpX_mono hw ?_ fun _ _ e => e
    rintro _ s₂; refine elX2_4 ?_; rintro l₂' ℓ₂' r₂ sm₂ rfl rfl
    refine elX3_2 ?_ hn; clear hn; rintro oC es ep hCo hCr
    refine elX1_2 ?_ r₂.fr; rintro m₂ F₂ _
    have hn₂ : s₂.heap.Ns ((s.heap.push o).push { cls := .type "list", data := .seq #[] }).objs.size m := ⟨oC, es, ep, F₂.keep _ _ (froz _ _ hCo hCL hCl), hCr⟩
    have hvv : ∀ x ∈ (scope.names.filter fun x => (x.2 == .local || x.2 == .cell) && x.1 != (".0" : Str)).reverse.drop 1 ++ (scope.names.filter fun x => (x.2 == .local || x.2 == .cell) && x.1 != (".0" : Str)).reverse.take 1, x.2 = .local →
        Env.kindOf (compEnvC scope cl ((s.heap.push o).push { cls := .type "list", data := .seq #[] }).objs.size f.env) x.1 = some .local := fun x hx hl => by
      have hx' : x ∈ (scope.names.filter fun x => (x.2 == .local || x.2 == .cell) && x.1 != (".0" : Str)).reverse := by
        rcases List.mem_append.mp hx with h1 | h1
        · exact List.mem_of_mem_drop h1
        · exact List.mem_of_mem_take h1
      exact lookup_relabel_local (lookup_names nd x (List.mem_filter.mp (List.mem_reverse.mp hx')).1 hl)
    refine wpX_bind (.of (wpAny_comp_letGo (cenv := compEnvC scope cl ((s.heap.push o).push { cls := .type "list", data := .seq #[] }).objs.size f.env) (by show (relabel scope f.env).kind = .function; exact hkind) _ s₂ m hvv hn₂ fun h₅ m₅ _ hs₅ => ?_))
    have r₅ := (back _ _ _ r₂).other (s' := { s₂ with heap := h₅ }) hCL hCg hCl hs₅.extBut
    have smA := sm.trans sm₂
    refine wpX_pure ⟨_, _, r₅, ⟨smA.1, smA.2.1, smA.2.2⟩, ?_⟩
    exact W.pure (W.pure ⟨_, .next, hR⟩)
end

/-! tuples are unpacked -/
section
variable {u : U} {n : Nat} {f : Fm} {l : Led} {ℓ : Loc} {P : V → Led → Prop}
theorem W.unpackItems {a : Addr} {vs : List V} {k : Nat} {Q : List Value → Led → Loc → Prop} (ha : (a, O.tup vs) ∈ l) (hk : vs.length = k) (h : ∀ xs, Reps vs xs → Q xs l ℓ) : W u n f l ℓ (unpackItems (.ref a) k none) Q := by
  refine .of fun hu hf s r => ?_
  obtain ⟨ys, ry, hl⟩ := r.tup ha
  have el := ry.length
  have := unpackItems_tuple (prog := u.prog) (w := u.w) (A := f.A) (E := NoE) (s := s) (Q := Post u f s Q) (r.hand hf) hl fun h' hx => ⟨l, ℓ, r.other (s' := { s with heap := h' }) r.fresh.1 r.fresh.2.1 r.fresh.2.2 hx, ⟨rfl, rfl, rfl⟩, h ys ry⟩
  rw [List.size_toArray, ← el, hk] at this
  exact this
theorem Asg_Tuple2 {x y : Str} {px py pos : Pos} {k : Nat} {a : Addr} {v w : V} {ℓ₁ ℓ₂ : Loc} {R : Led → Loc → Prop} (ha : (a, O.tup [v, w]) ∈ l) (t1 : Put x v ℓ ℓ₁) (t2 : Put y w ℓ₁ ℓ₂) (h : R l ℓ₂) :
    Asg u n f l ℓ (.Tuple [.Name x px, .Name y py] k pos) (.ref a) R := by
  rintro z ⟨t, rfl⟩
  refine W.eq (arm_assign_Tuple ..) (W.bind (W.standAt ?_))
  show W u n f l ℓ (do assignInOrder [assign (.Name x px) f.env, assign (.Name y py) f.env] (← holding [.ref a] (PySem.unpackItems (.ref a) 2 none))) _
  refine W.bind (W.holding (W.unpackItems ha rfl fun xs rx => ?_))
  obtain ⟨t1', t2', rfl⟩ := two_args rx
  have s1 : W u n f l ℓ (assign (.Name x px) f.env (v.at t1')) (fun _ la ℓa => la = l ∧ ℓa = ℓ₁) := Asg_Name (R := fun la ℓa => la = l ∧ ℓa = ℓ₁) t1 ⟨rfl, rfl⟩ _ ⟨_, rfl⟩
  have s2 : W u n f l ℓ₁ (assign (.Name y py) f.env (w.at t2')) (fun _ la ℓa => R la ℓa) := Asg_Name t2 h _ ⟨_, rfl⟩
  show W u n f l ℓ (do holding [w.at t2'] (assign (.Name x px) f.env (v.at t1')); (do holding [] (assign (.Name y py) f.env (w.at t2')); Pure.pure ())) _
  refine W.bind (W.holding (W.mono s1 ?_))
  rintro _ la ℓa ⟨rfl, rfl⟩
  exact W.bind (W.holding (W.mono s2 fun _ la ℓa hR => W.pure hR))
theorem kind_of_sl {x : Str} {s : Shared} (r : RS u f l ℓ s) (h : (x, Sl.unb) ∈ ℓ ∨ ∃ w, (x, Sl.loc w) ∈ ℓ) : f.env.kindOf x = some .local := by
  refine elX1_3 ?_ r.fr; rintro m F nd hl
  rcases h with h | ⟨w, h⟩
  · exact (hl _ _ h).2.1
  · exact (hl _ _ h).2.1
/-- x, y = (e1, e2): the second is stored first -/
theorem Ex_AssignDisp2 {x y : Str} {px py tp pos vp : Pos} {k kv : Nat} {e1 e2 : Expr} {R : Fl → Led → Loc → Prop} (hx : (x, Sl.unb) ∈ ℓ ∨ ∃ w, (x, Sl.loc w) ∈ ℓ) (hy : (y, Sl.unb) ∈ ℓ ∨ ∃ w, (y, Sl.loc w) ∈ ℓ) (hxy : (x == y) = false)
    (h : Ev u n f l ℓ (.Tuple [e1, e2] kv vp) fun z l₁ => ∃ a v w, z = .ref a ∧ (a, O.tup [v, w]) ∈ l₁ ∧ ∃ ℓ₁ ℓ₂, Put y w ℓ ℓ₁ ∧ Put x v ℓ₁ ℓ₂ ∧ R .next l₁ ℓ₂)
    (hl : (py.line == px.line) = true) (h1 : ([e1, e2].any fun | .Starred .. => true | _ => false) = false) (h2 : [e1, e2].all (foldedForSure 8) = false) (h3 : [e1, e2].all (constantsAlone 8) = false)
    (hs : swapsWithSole [.Tuple [.Name x px, .Name y py] k tp] (.Tuple [e1, e2] kv vp) pos.line f.env = Pure.pure false) :
    Ex u n f l ℓ (.Assign [.Tuple [.Name x px, .Name y py] k tp] (.Tuple [e1, e2] kv vp) pos) R := by
  intro hu hf s r
  have kx := kind_of_sl r hx
  have ky := kind_of_sl r hy
  have hb : f.env.blockKind = .function := by unfold Env.blockKind; rw [hf.kind]; rfl
  have hw : swappedStores [.Tuple [.Name x px, .Name y py] k tp] (.Tuple [e1, e2] kv vp) f.env = Pure.pure (some [x, y]) := by
    unfold swappedStores
    have e0 : (x == x) = true := by simp
    have e : ([x, y] : List Str).eraseDups.length = 2 := by
      have : (y == x) = false := by rw [BEq.comm]; exact hxy
      simp [List.eraseDups, List.eraseDupsBy, List.eraseDupsBy.loop, this]
    simp only [List.length_cons, List.length_nil, hb, h1, h2, h3, List.filterMap_cons, List.filterMap_nil, kx, ky, List.head?_cons, Option.map_some, Option.getD_some]
    have a1 : (some NameKind.local == some NameKind.local && px.line == (Expr.Name x px).pos.line) = true := by show (true && (px.line == px.line)) = true; simp
    have a2 : (some NameKind.local == some NameKind.local && py.line == (Expr.Name x px).pos.line) = true := by show (true && (py.line == px.line)) = true; rw [hl]; rfl
    refine (if_neg (by decide)).trans ((if_neg (ne_true_of_eq_false h1)).trans ?_)
    simp only [if_pos a1, if_pos a2]
    rw [if_neg (by
      show ¬ ((2 != 2 || ([x, y] : List Str).eraseDups.length != 2) = true)
      rw [e]; decide)]
    rfl
  refine W.eq (exec_Assign_arm ..) (W.bind (W.standAt ?_)) hu hf s r
  rw [hs]
  refine W.bind (W.pure ?_)
  rw [if_neg (by decide)]
  refine W.bind (W.mono h ?_)
  rintro z l₁ ℓz; refine elX1_3 ?_; rintro _ ⟨tz, rfl⟩ rfl; refine elX3_3 ?_; rintro a v w rfl ha; refine elX2_3 ?_; rintro ℓ₁ ℓ₂ t1 t2 hR
  rw [hw]
  refine W.bind (W.pure ?_)
  show W u n f l₁ ℓz (do rule "assign.swapped-stores"; let items ← unpackItems (.ref a) 2 none; assignInOrder ([x, y].reverse.map fun n => bindName f.env n) items.reverse; Pure.pure Flow.next) _
  refine W.bind (.of fun hu hf s r => wpAny_rule ⟨l₁, ℓz, r, .refl s, ?_⟩)
  refine W.bind (W.unpackItems ha rfl fun xs rx => ?_)
  obtain ⟨t1', t2', rfl⟩ := two_args rx
  have s1 : W u n f l₁ ℓz (bindName f.env y (w.at t2')) (fun _ la ℓa => la = l₁ ∧ ℓa = ℓ₁) := W.store t1 ⟨_, rfl⟩ ⟨rfl, rfl⟩
  have s2 : W u n f l₁ ℓ₁ (bindName f.env x (v.at t1')) (fun _ la ℓa => la = l₁ ∧ ℓa = ℓ₂) := W.store t2 ⟨_, rfl⟩ ⟨rfl, rfl⟩
  show W u n f l₁ ℓz (do (do holding [v.at t1'] (bindName f.env y (w.at t2')); (do holding [] (bindName f.env x (v.at t1')); Pure.pure ())); Pure.pure Flow.next) _
  refine W.bind (W.bind (W.holding (W.mono s1 ?_)))
  rintro _ la ℓa ⟨rfl, rfl⟩
  refine W.bind (W.holding (W.mono s2 ?_))
  rintro _ la ℓa ⟨rfl, rfl⟩
  exact W.pure (W.pure ⟨_, .next, hR⟩)
/-- three of them -/
theorem Ex_AssignDisp3 {x y z : Str} {px py pz tp pos vp : Pos} {k kv : Nat} {e1 e2 e3 : Expr} {R : Fl → Led → Loc → Prop} (hx : (x, Sl.unb) ∈ ℓ ∨ ∃ w, (x, Sl.loc w) ∈ ℓ) (hy : (y, Sl.unb) ∈ ℓ ∨ ∃ w, (y, Sl.loc w) ∈ ℓ) (hz : (z, Sl.unb) ∈ ℓ ∨ ∃ w, (z, Sl.loc w) ∈ ℓ) (hxy : (x == y) = false) (hxz : (x == z) = false) (hyz : (y == z) = false)
    (h : Ev u n f l ℓ (.Tuple [e1, e2, e3] kv vp) fun r l₁ => ∃ a v w v₃, r = .ref a ∧ (a, O.tup [v, w, v₃]) ∈ l₁ ∧ ∃ ℓ₀ ℓ₁ ℓ₂, Put z v₃ ℓ ℓ₀ ∧ Put y w ℓ₀ ℓ₁ ∧ Put x v ℓ₁ ℓ₂ ∧ R .next l₁ ℓ₂)
    (hl : (py.line == px.line) = true) (hl3 : (pz.line == px.line) = true) (h1 : ([e1, e2, e3].any fun | .Starred .. => true | _ => false) = false) (h2 : [e1, e2, e3].all (foldedForSure 8) = false) (h3 : [e1, e2, e3].all (constantsAlone 8) = false)
    (hs : swapsWithSole [.Tuple [.Name x px, .Name y py, .Name z pz] k tp] (.Tuple [e1, e2, e3] kv vp) pos.line f.env = Pure.pure false) :
    Ex u n f l ℓ (.Assign [.Tuple [.Name x px, .Name y py, .Name z pz] k tp] (.Tuple [e1, e2, e3] kv vp) pos) R := by
  intro hu hf s r
  have kx := kind_of_sl r hx
  have ky := kind_of_sl r hy
  have kz := kind_of_sl r hz
  have hb : f.env.blockKind = .function := by unfold Env.blockKind; rw [hf.kind]; rfl
  have hw : swappedStores [.Tuple [.Name x px, .Name y py, .Name z pz] k tp] (.Tuple [e1, e2, e3] kv vp) f.env = Pure.pure (some [x, y, z]) := by
    unfold swappedStores
    have e0 : (x == x) = true := by simp
    have e : ([x, y, z] : List Str).eraseDups.length = 3 := by
      have q1 : (y == x) = false := by rw [BEq.comm]; exact hxy
      have q2 : (z == x) = false := by rw [BEq.comm]; exact hxz
      have q3 : (z == y) = false := by rw [BEq.comm]; exact hyz
      simp [List.eraseDups, List.eraseDupsBy, List.eraseDupsBy.loop, q1, q2, q3]
    simp only [List.length_cons, List.length_nil, hb, h1, h2, h3, List.filterMap_cons, List.filterMap_nil, kx, ky, kz, List.head?_cons, Option.map_some, Option.getD_some]
    have a1 : (some NameKind.local == some NameKind.local && px.line == (Expr.Name x px).pos.line) = true := by show (true && (px.line == px.line)) = true; simp
    have a2 : (some NameKind.local == some NameKind.local && py.line == (Expr.Name x px).pos.line) = true := by show (true && (py.line == px.line)) = true; rw [hl]; rfl
    have a3 : (some NameKind.local == some NameKind.local && pz.line == (Expr.Name x px).pos.line) = true := by show (true && (pz.line == px.line)) = true; rw [hl3]; rfl
    refine (if_neg (by decide)).trans ((if_neg (ne_true_of_eq_false h1)).trans ?_)
    simp only [if_pos a1, if_pos a2, if_pos a3]
    rw [if_neg (by
      show ¬ ((3 != 3 || ([x, y, z] : List Str).eraseDups.length != 3) = true)
      rw [e]; decide)]
    rfl
  refine W.eq (exec_Assign_arm ..) (W.bind (W.standAt ?_)) hu hf s r
  rw [hs]
  refine W.bind (W.pure ?_)
  rw [if_neg (by decide)]
  refine W.bind (W.mono h ?_)
  rintro r₀ l₁ ℓz; refine elX1_3 ?_; rintro _ ⟨tz, rfl⟩ rfl; refine elX4_3 ?_; rintro a v w v₃ rfl ha; refine elX3_4 ?_; rintro ℓ₀ ℓ₁ ℓ₂ t0 t1 t2 hR
  rw [hw]
  refine W.bind (W.pure ?_)
  show W u n f l₁ ℓz (do rule "assign.swapped-stores"; let items ← unpackItems (.ref a) 3 none; assignInOrder ([x, y, z].reverse.map fun n => bindName f.env n) items.reverse; Pure.pure Flow.next) _
  refine W.bind (.of fun hu hf s r => wpAny_rule ⟨l₁, ℓz, r, .refl s, ?_⟩)
  refine W.bind (W.unpackItems ha rfl fun xs rx => ?_)
  refine elE3 ?_ (three_args rx); rintro t1' t2' t3'; rintro rfl
  have s0 : W u n f l₁ ℓz (bindName f.env z (v₃.at t3')) (fun _ la ℓa => la = l₁ ∧ ℓa = ℓ₀) := W.store t0 ⟨_, rfl⟩ ⟨rfl, rfl⟩
  have s1 : W u n f l₁ ℓ₀ (bindName f.env y (w.at t2')) (fun _ la ℓa => la = l₁ ∧ ℓa = ℓ₁) := W.store t1 ⟨_, rfl⟩ ⟨rfl, rfl⟩
  have s2 : W u n f l₁ ℓ₁ (bindName f.env x (v.at t1')) (fun _ la ℓa => la = l₁ ∧ ℓa = ℓ₂) := W.store t2 ⟨_, rfl⟩ ⟨rfl, rfl⟩
  show W u n f l₁ ℓz (do (do holding [w.at t2', v.at t1'] (bindName f.env z (v₃.at t3')); (do holding [v.at t1'] (bindName f.env y (w.at t2')); (do holding [] (bindName f.env x (v.at t1')); Pure.pure ()))); Pure.pure Flow.next) _
  refine W.bind (W.bind (W.holding (W.mono s0 ?_)))
  rintro _ la ℓa ⟨rfl, rfl⟩
  refine W.bind (W.holding (W.mono s1 ?_))
  rintro _ la ℓa ⟨rfl, rfl⟩
  refine W.bind (W.holding (W.mono s2 ?_))
  rintro _ la ℓa ⟨rfl, rfl⟩
  exact W.pure (W.pure ⟨_, .next, hR⟩)
end

/-! a def some of whose parameters are cells -/
theorem bindL_at {k : Str → Option NameKind} {x : Str} (hk : k x = some .local) : ∀ (b : List (Str × Value)) (m : Str → Option Value), (b.map (·.1)).Nodup → bindL k b m x = (match b.lookup x with | some v => some v | none => m x)
  | [], m, _ => rfl
  | (n, v) :: r, m, nd => by
    rw [List.map_cons] at nd
    have ih := bindL_at hk r (if k n = some .local then fun y => if y = n then some v else m y else m) (List.nodup_cons.mp nd).2
    rw [bindL, ih, List.lookup_cons]
    by_cases e : x = n
    · subst e
      have hn : r.lookup x = none := by
        cases q : r.lookup x with
        | none => rfl
        | some z => exact absurd (List.mem_map.mpr ⟨_, mem_lk q, rfl⟩) (List.nodup_cons.mp nd).1
      rw [hn, hk]; simp
    · have eb : (x == n) = false := by simpa using e
      rw [eb]
      cases r.lookup x with
      | some z => rfl
      | none => dsimp only; split <;> simp [e]
theorem bindC_at {k : Str → Option NameKind} {x : Str} (hk : k x ≠ some .local) : ∀ (b : List (Str × Value)) (m : Str → Option Value), (b.map (·.1)).Nodup → bindC k b m x = (match b.lookup x with | some v => some v | none => m x)
  | [], m, _ => rfl
  | (n, v) :: r, m, nd => by
    rw [List.map_cons] at nd
    have ih := bindC_at hk r (if k n = some .local then m else fun y => if y = n then some v else m y) (List.nodup_cons.mp nd).2
    rw [bindC, ih, List.lookup_cons]
    by_cases e : x = n
    · subst e
      have hn : r.lookup x = none := by
        cases q : r.lookup x with
        | none => rfl
        | some z => exact absurd (List.mem_map.mpr ⟨_, mem_lk q, rfl⟩) (List.nodup_cons.mp nd).1
      rw [hn, if_neg hk]; simp
    · have eb : (x == n) = false := by simpa using e
      rw [eb]
      cases r.lookup x with
      | some z => rfl
      | none => dsimp only; split <;> simp [e]
noncomputable def cellNames (names : List (Str × NameKind)) : List Str := (names.filter (·.2 == .cell)).map (·.1)
theorem cellsFrom_names : ∀ (names : List (Str × NameKind)) (n : Nat) (acc : List (Str × Addr)), (cellsFrom n names acc).map (·.1) = (cellNames names).reverse ++ acc.map (·.1)
  | [], _, _ => rfl
  | (x, k) :: r, n, acc => by
    unfold cellsFrom cellNames
    by_cases e : k = .cell
    · subst e
      rw [if_pos (show (NameKind.cell == NameKind.cell) = true by decide), List.filter_cons_of_pos (p := fun (z : Str × NameKind) => z.2 == NameKind.cell) (show ((x, NameKind.cell).2 == NameKind.cell) = true from rfl), cellsFrom_names r]
      simp [cellNames]
    · have eb : (k == NameKind.cell) = false := by simpa using e
      rw [eb, if_neg Bool.false_ne_true, List.filter_cons_of_neg (by simpa using e), cellsFrom_names r]
      rfl
theorem codeX_call_cells {prog : Program} {w : World} {A : Around} {s : Shared} {R : Result → Shared → Prop} {a : Addr} {o : Obj} {fd : FuncData} {body : List Stmt} {vals : List Value} {binds : List (Str × Value)}
    (hroom : A.depth < recursionLimit) (ho : s.heap.get? a = some o) (hdata : o.data = .func fd) (hlim : s.heap.NoLimit) (hcd : s.heap.CodeRec fd.code fd.qualname)
    (hbody : fd.body = .stmts body) (hbind : bindArgs fd ⟨vals, []⟩ = Pure.pure binds) (hclo : fd.closure = [])
    (hkind : ∀ x ∈ binds, fd.scope.names.lookup x.1 = some .local ∨ (fd.scope.names.lookup x.1 = some .cell ∧ ((cellsFrom (s.heap.objs.size + 1) fd.scope.names []).lookup x.1).isSome = true))
    (h : ∀ s₁, InCallC s (callEnvC fd s.heap.objs.size a).locals (bindL (callEnvC fd s.heap.objs.size a).kindOf binds fun _ => none) (callEnvC fd s.heap.objs.size a).cells
        (bindC (callEnvC fd s.heap.objs.size a).kindOf binds fun _ => none) s₁ →
      wpX (model prog w) (A.deeper (callEnvC fd s.heap.objs.size a)) (execs body (callEnvC fd s.heap.objs.size a)) (fun f s' => R (.ok (.ret (match f with | .ret v => v | _ => .none))) s') (fun _ _ => False) s₁)
    (hco : fd.scope.isCoroutine = false) (hgen : fd.scope.isGenerator = false) (hk : fd.scope.kind = .function) :
    codeX (model prog w) A (.call (.ref a) ⟨vals, []⟩) R s := by
  refine codeX_call_function hroom ho hdata hco hgen hbody hcd ?_
  rw [hbind, hclo]
  refine wpX_pure (.of (wpAny_newFunctionEnv_cells hk hkind fun env he s' x => ?_))
  subst he
  exact ⟨hlim.keeps x.toInCall.keep, codeX_func (h s' x)⟩
noncomputable def initLocC (K : Frag) (names : List (Str × NameKind)) (ps : List Str) (args : List V) (cl : List (Str × Addr)) : Loc := names.map fun (x, k) => (x, match k with
  | .local => (match (ps.zip args).lookup x with | some v => .loc v | none => .unb)
  | .cell => (match cl.lookup x with | some c => .cel c | none => .unb)
  | _ => (match gv K x with | some y => .glob y | none => .unb))
noncomputable def cellLed (ps : List Str) (args : List V) (cl : List (Str × Addr)) : Led := cl.map fun (x, c) => (c, .cell (((ps.zip args).lookup x).getD .none))
noncomputable def namesOkC (K : Frag) (names : List (Str × NameKind)) (ps : List Str) : Bool :=
  (names.all fun (x, k) => (x == ("__debug__" : Str)) == false && (x == ("__name__" : Str)) == false && (match k with | .local => true | .cell => ps.contains x | .globalImplicit => (gv K x).isSome | _ => false)) && decide (names.map (·.1)).Nodup && decide ps.Nodup
    && ps.all fun x => names.lookup x == some .local || names.lookup x == some .cell
theorem lookup_some_of_mem {α : Type} : ∀ {l : List (Str × α)} {x : Str}, x ∈ l.map (·.1) → ∃ y, l.lookup x = some y
  | [], _, h => nomatch h
  | (a, b) :: r, x, h => by
    rw [List.lookup_cons]
    cases e : x == a with
    | true => exact ⟨b, rfl⟩
    | false =>
      rcases List.mem_cons.mp h with h | h
      · exact absurd h (by simpa using e)
      · exact lookup_some_of_mem h
theorem mem_cellNames {names : List (Str × NameKind)} {x : Str} : x ∈ cellNames names ↔ (x, .cell) ∈ names := by
  unfold cellNames
  constructor
  · intro h
    obtain ⟨⟨a, k⟩, hp, rfl⟩ := List.mem_map.mp h
    obtain ⟨h1, h2⟩ := List.mem_filter.mp hp
    have : k = .cell := by simpa using h2
    subst this; exact h1
  · intro h
    exact List.mem_map.mpr ⟨(x, .cell), List.mem_filter.mpr ⟨h, rfl⟩, rfl⟩
set_option tactic.hygienic true in
theorem Spec_defC {k : Nat} {a : Addr} {args : List V} {pre : Led} {post : V → Led → Prop} {name qual : Str} {params : Arguments} {body : List Stmt} {scope : Scope} {dV kV doc pm cdv ct oc : Value} {an od : Option Addr} {osl : Array (Option Value)} {ps : List Str}
    (ho : ∀ P, (hd.heap_39 P).lookup a = some ⟨oc, od, .func (fnOf name qual params body scope dV kV doc pm an cdv ct), osl⟩) (hcd : ∀ P, codeIn (hd.heap_39 P) cdv qual = true)
    (hbind : ∀ xs, Reps args xs → bindArgs (fnOf name qual params body scope dV kV doc pm an cdv ct) ⟨xs, []⟩ = Pure.pure (ps.zip xs))
    (ok : ∀ P, namesOkC (hd.heap_39 P) scope.names ps = true) (hlen : args.length = ps.length)
    (h : ∀ u f cl, cl.map (·.1) = (cellNames scope.names).reverse → Exs u k f (cellLed ps args cl ++ pre) (initLocC u.K scope.names ps args cl) body (Done post))
    (hco : scope.isCoroutine = false) (hgen : scope.isGenerator = false) (hk : scope.kind = .function) : Spec (k + 1) (.ref a) args pre post := by
  rintro u A s x xs hu hroom ⟨_, rfl⟩ hr kb pk
  have X : u.K.In s.heap := hu.X.keeps kb
  have okK := ok u.w.params
  unfold namesOkC at okK
  simp only [Bool.and_eq_true, decide_eq_true_eq] at okK
  obtain ⟨⟨⟨ok1, nd⟩, ndp⟩, ok4⟩ := okK
  have cn : (cellsFrom (s.heap.objs.size + 1) scope.names []).map (·.1) = (cellNames scope.names).reverse := by rw [cellsFrom_names]; simp
  have hcl : ∀ x, scope.names.lookup x = some .cell → ∃ c, (cellsFrom (s.heap.objs.size + 1) scope.names []).lookup x = some c := fun x hx => lookup_some_of_mem (by
    rw [cn, List.mem_reverse]; exact mem_cellNames.mpr (mem_lk hx))
  have hn : ∀ y ∈ ps.zip xs, scope.names.lookup y.1 = some .local ∨ (scope.names.lookup y.1 = some .cell ∧ ((cellsFrom (s.heap.objs.size + 1) scope.names []).lookup y.1).isSome = true) := fun y hy => by
    have q := List.all_eq_true.mp ok4 _ (List.of_mem_zip hy).1
    simp only [Bool.or_eq_true, beq_iff_eq] at q
    rcases q with q | q
    · exact .inl q
    · obtain ⟨c, hc⟩ := hcl _ q
      exact .inr ⟨q, by rw [hc]; rfl⟩
  refine codeX_call_cells (fd := fnOf name qual params body scope dV kV doc pm an cdv ct) (body := body) (binds := ps.zip xs) (by have := hroom.1; have e : recursionLimit = 1000 := rfl; lia) (X _ _ (ho _)) rfl (hu.T.nolimit.keeps kb)
    (codeRec_of X (hcd _)) rfl (hbind xs hr) rfl hn (fun s₁ x => ?_) hco hgen hk
  have hk2 : ∀ y, (callEnvC (fnOf name qual params body scope dV kV doc pm an cdv ct) s.heap.objs.size a).kindOf y = scope.names.lookup y := fun y => rfl
  let f : Fm := { g := hideAll s.heap (pre.map (·.1)), L := s.heap.objs.size, env := callEnvC (fnOf name qual params body scope dV kV doc pm an cdv ct) s.heap.objs.size a, A := A.deeper (callEnvC (fnOf name qual params body scope dV kV doc pm an cdv ct) s.heap.objs.size a) }
  have hgk : ∀ b o, f.g.get? b = some o → s.heap.get? b = some o := fun b o e => of_hideAll _ e
  have hgm : ∀ b o, s.heap.get? b = some o → b ∉ pre.map (·.1) → f.g.get? b = some o := fun b o e hm => hideAll_get _ e hm
  have hkb : ∀ b o, u.base.get? b = some o → f.g.get? b = some o := fun b o e => hgm b o (kb _ _ e) fun hm => by
    obtain ⟨p, hp, rfl⟩ := List.mem_map.mp hm
    rw [(pk.led p hp).2] at e; cases e
  have hf : f.Ok u k := ⟨hkb, hk, rfl, rfl, rfl,
    ⟨by have := hroom.1; show A.depth + 1 + k ≤ 900; lia, by have := hroom.2.1; show A.units + 3 + 16 * k ≤ 9000; lia, hroom.2.2⟩⟩
  have fresh : ∀ b, s.heap.objs.size ≤ b → s.heap.get? b = none := fun b hb => by
    cases e : s.heap.get? b with
    | none => rfl
    | some ob => exact absurd (Heap.lt_size e) (Nat.not_lt.mpr hb)
  have gnone : ∀ b, s.heap.objs.size ≤ b → f.g.get? b = none := fun b hb => by
    cases e : f.g.get? b with
    | none => rfl
    | some ob => have q := hgk _ _ e; rw [fresh b hb] at q; cases q
  obtain ⟨⟨⟨h₁, tk₁, same⟩, hns, hkp, _⟩, hcell, hap, hab⟩ := x
  subst same
  have hzip := fun y => zip_lookup (ps := ps) hr y
  have rs : RS u f (cellLed ps args (cellsFrom (s.heap.objs.size + 1) scope.names []) ++ pre) (initLocC u.K scope.names ps args (cellsFrom (s.heap.objs.size + 1) scope.names [])) { s with heap := h₁, toks := tk₁ } := by
    refine ⟨⟨_, ⟨hns, fun b o e => hkp _ _ (hgk _ _ e), gnone _ (Nat.le_refl _)⟩, ?_, fun y sl hm => ?_⟩, ?_, fun p hp => ?_⟩
    · unfold initLocC; rw [List.map_map]; exact nd
    · obtain ⟨⟨y', kk⟩, hy, e⟩ := List.mem_map.mp hm
      obtain ⟨e1, e2⟩ := Prod.mk.inj e
      subst e1
      have q := List.all_eq_true.mp ok1 _ hy
      simp only [Bool.and_eq_true, beq_iff_eq] at q
      have hky : scope.names.lookup y' = some kk := lookup_of_mem nd hy
      refine ⟨q.1.1, ?_⟩
      cases kk with
      | «local» =>
        dsimp only at e2
        have hb := bindL_at (k := (callEnvC (fnOf name qual params body scope dV kV doc pm an cdv ct) s.heap.objs.size a).kindOf) (x := y') hky (ps.zip xs) (fun _ => none) (nodup_zip ndp)
        have hz := hzip y'
        split at e2
        · rename_i v hv
          subst e2
          rw [hv] at hz
          cases hy2 : (ps.zip xs).lookup y' with
          | none => rw [hy2] at hz; exact hz.elim
          | some z => rw [hy2] at hz hb; exact ⟨hky, z, hb, hz⟩
        · rename_i hv
          subst e2
          rw [hv] at hz
          cases hy2 : (ps.zip xs).lookup y' with
          | none => rw [hy2] at hb; exact ⟨hky, hb⟩
          | some z => rw [hy2] at hz; exact hz.elim
      | cell =>
        dsimp only at e2
        obtain ⟨c, hc⟩ := hcl y' hky
        rw [hc] at e2
        subst e2
        exact ⟨.inl hky, hc⟩
      | globalImplicit =>
        dsimp only at e2
        obtain ⟨z, hz⟩ := Option.isSome_iff_exists.mp q.2
        rw [hz] at e2
        subst e2
        refine ⟨hky, gv_ok hu hz fun e => ?_⟩
        have := q.1.2
        rw [e] at this
        simp at this
      | _ => exact absurd q.2 (by simp)
    · rw [List.map_append]
      have e1 : (cellLed ps args (cellsFrom (s.heap.objs.size + 1) scope.names [])).map (·.1) = (cellsFrom (s.heap.objs.size + 1) scope.names []).map (·.2) := by unfold cellLed; rw [List.map_map]; rfl
      rw [e1]
      refine List.nodup_append.mpr ⟨List.pairwise_map.mpr hap, pk.nodup, fun b hb b' hb' e => ?_⟩
      subst e
      obtain ⟨q, hq, rfl⟩ := List.mem_map.mp hb
      obtain ⟨p, hp, e'⟩ := List.mem_map.mp hb'
      obtain ⟨ob, ho⟩ := (pk.led p hp).1.there
      rw [e', fresh _ (Nat.le_of_lt (hab _ _ hq))] at ho; cases ho
    · rcases List.mem_append.mp hp with hp | hp
      · obtain ⟨⟨y, c⟩, hq, rfl⟩ := List.mem_map.mp hp
        have hab' := hab _ _ hq
        refine ⟨?_, Nat.ne_of_gt hab', gnone _ (Nat.le_of_lt hab')⟩
        have ndc : ((cellsFrom (s.heap.objs.size + 1) scope.names []).map (·.1)).Nodup := by
          rw [cn]
          refine (List.reverse_perm _).nodup_iff.mpr ?_
          unfold cellNames
          exact List.Nodup.sublist (List.Sublist.map _ List.filter_sublist) nd
        have hlc := lookup_of_mem ndc hq
        have hi := hcell _ _ hlc
        have hyc : (y, NameKind.cell) ∈ scope.names := by
          have : y ∈ (cellsFrom (s.heap.objs.size + 1) scope.names []).map (·.1) := List.mem_map.mpr ⟨_, hq, rfl⟩
          rw [cn, List.mem_reverse] at this
          exact mem_cellNames.mp this
        have hky : scope.names.lookup y = some .cell := lookup_of_mem nd hyc
        have hb := bindC_at (k := (callEnvC (fnOf name qual params body scope dV kV doc pm an cdv ct) s.heap.objs.size a).kindOf) (x := y) (by rw [hk2, hky]; exact fun z => nomatch z) (ps.zip xs) (fun _ => none) (nodup_zip ndp)
        have q := List.all_eq_true.mp ok1 _ hyc
        simp only [Bool.and_eq_true, List.contains_iff_mem] at q
        obtain ⟨v, hv⟩ := lookup_some_of_mem (l := ps.zip args) (x := y) (by
          rw [List.map_fst_zip (by lia)]; exact q.2)
        have hz := hzip y
        rw [hv] at hz
        cases hy2 : (ps.zip xs).lookup y with
        | none => rw [hy2] at hz; exact hz.elim
        | some z =>
          rw [hy2] at hz hb
          refine ⟨z, ?_, ?_⟩
          · show Rep (((ps.zip args).lookup y).getD .none) z
            rw [hv]; exact hz
          · have := hi
            rw [hb] at this; exact this
      · refine ⟨(pk.led p hp).1.congr (hkp _), ?_, hideAll_none _ (List.mem_map_of_mem hp)⟩
        obtain ⟨ob, ho⟩ := (pk.led p hp).1.there
        exact Nat.ne_of_lt (Heap.lt_size ho)
  refine wpX_mono (h u f _ cn hu hf _ rs) ?_ fun _ _ x => x
  rintro fl s'; refine elX2_3 ?_; rintro l' ℓ' r' sm; refine elX1_2 ?_; rintro rr hrr hd
  have fin : ∀ (l₂ : Led) (v : V) (y : Value), Rep v y → (∃ rest, Sel l₂ l' rest) → post v l₂ → SpR u pre s post (.ok (.ret y)) s' := by
    rintro l₂ v y rv ⟨rest, sel⟩ hp
    have r₂ := r'.perm sel.perm
    refine elX1_3 ?_ r₂.fr; rintro m F _ _
    have nd := r₂.nodup
    rw [List.map_append] at nd
    refine ⟨v, l₂, rv, hp, (List.nodup_append.mp nd).1, fun q hq => ?_, fun b o e hm => F.keep _ _ (hgm _ _ e hm), ⟨sm.1, sm.2.1, sm.2.2⟩⟩
    have z := r₂.led q (List.mem_append_left _ hq)
    refine ⟨z.1, ?_⟩
    by_cases hm : q.1 ∈ pre.map (·.1)
    · exact .inl hm
    · refine .inr ?_
      cases hs : s.heap.get? q.1 with
      | none => rfl
      | some ob => have := z.2.2; rw [hgm _ _ hs hm] at this; cases this
  cases hrr with
  | next => obtain ⟨l₂, sel, hp⟩ := hd; exact fin l₂ .none _ (Rep.mk (v := .none) 0) sel hp
  | brk => exact hd.elim
  | cont => exact hd.elim
  | ret rv => obtain ⟨l₂, sel, hp⟩ := hd; exact fin l₂ _ _ rv sel hp
theorem Spec_defCR {k : Nat} {a : Addr} {args : List V} {pre : Led} {post : V → Led → Prop} {name qual : Str} {params : Arguments} {body : List Stmt} {scope : Scope} {dV kV doc pm cdv ct oc : Value} {an od : Option Addr} {osl : Array (Option Value)} {ps : List Str}
    (ho : ∀ P, (hd.heap_39 P).lookup a = some ⟨oc, od, .func (fnOf name qual params body scope dV kV doc pm an cdv ct), osl⟩) (hcd : ∀ P, codeIn (hd.heap_39 P) cdv qual = true)
    (hbind : ∀ xs, Reps args xs → bindArgs (fnOf name qual params body scope dV kV doc pm an cdv ct) ⟨xs, []⟩ = Pure.pure (ps.zip xs))
    (ok : ∀ P, namesOkC (hd.heap_39 P) scope.names ps = true) (hlen : args.length = ps.length)
    (h : ∀ u f cl, cl.map (·.1) = (cellNames scope.names).reverse → ∀ Q : Fl → Led → Loc → Prop, (∀ {r l ℓ}, Done post r l ℓ → Q r l ℓ) → Exs u k f (cellLed ps args cl ++ pre) (initLocC u.K scope.names ps args cl) body Q)
    (hco : scope.isCoroutine = false) (hgen : scope.isGenerator = false) (hk : scope.kind = .function) : Spec (k + 1) (.ref a) args pre post :=
  Spec_defC ho hcd hbind ok hlen (fun u f cl e => h u f cl e _ id) hco hgen hk

/-! the two tables of the text -/
noncomputable def intsB : List Value → List Int → Bool
  | [], [] => true
  | .int k _ :: r, i :: is => k == i && intsB r is
  | _, _ => false
noncomputable def tupB (o : Option Obj) (is : List Int) : Bool := match o with
  | some ⟨.type T, none, .seq xs _, sl⟩ => T == "tuple" && sl.isEmpty && intsB xs.toList is
  | _ => false
set_option tactic.hygienic true in
theorem intsB_ok : ∀ {xs : List Value} {is : List Int}, intsB xs is = true → IntsAre xs is
  | [], [], _ => .nil
  | [], _ :: _, h => by cases h
  | x :: r, [], h => by cases x <;> cases h
  | x :: r, i :: is, h => by
    cases x <;> first | cases h | skip
    rename_i k t
    simp only [intsB, Bool.and_eq_true, beq_iff_eq] at h
    obtain ⟨rfl, h⟩ := h
    exact .cons k t (intsB_ok h)
theorem kinds_ok (P : Params) : tupB ((hd.heap_39 P).lookup 151) [2, 5, 10, 13] = true := by kernel_rfl!
theorem sizes_ok (P : Params) : tupB ((hd.heap_39 P).lookup 87) [0, 1, 2, 3, 4, 6, 8] = true := by kernel_rfl!
section
variable {u : U} {n : Nat} {f : Fm} {l : Led} {ℓ : Loc} {P : V → Led → Prop} {i j : Int}
set_option tactic.hygienic true in
theorem RS.static {s : Shared} {a : Addr} {is : List Int} (r : RS u f l ℓ s) (hu : u.Ok) (hf : f.Ok u n) (h : tupB (u.K.lookup a) is = true) : ∃ ys, IntsAre ys is ∧ IsTup s.heap a ys.toArray := by
  unfold tupB at h
  split at h
  · rename_i T xs m sl e
    simp only [Bool.and_eq_true, beq_iff_eq] at h
    obtain ⟨⟨rfl, hsl⟩, hi⟩ := h
    exact ⟨xs.toList, intsB_ok hi, _, r.K hu hf _ _ e, rfl, m, by rw [Array.toArray_toList]⟩
  · cases h
theorem Cmp_notin_KINDS (h : P (.bool (!([2, 5, 10, 13] : List Int).contains i)) l) : CmpV u n f l ℓ .NotIn (.int i) (.ref 151) P := by
  rintro x y ⟨t, rfl⟩ ⟨t', rfl⟩
  refine .of fun hu hf s r => ?_
  obtain ⟨ys, hi, hl⟩ := r.static hu hf (kinds_ok _)
  refine SeqAt.notIn_tupleAt (isI i) hl (fun y hy => ?_) ?_
  · obtain ⟨k, tk, rfl⟩ := ints_mem hi y hy
    exact SeqAt.EqAt.int_int k tk i t
  · rw [ints_any hi]
    exact ⟨l, ℓ, r, .refl s, .bool (!([2, 5, 10, 13] : List Int).contains i), ⟨0, rfl⟩, rfl, h⟩
theorem Itm_SIZES {k : Int} (h0 : 0 ≤ i) (hi : ([0, 1, 2, 3, 4, 6, 8] : List Int)[i.toNat]? = some k) (h : P (.int k) l) : ItmV u n f l ℓ (.ref 87) (.int i) P := by
  rintro x y value slice ⟨t, rfl⟩ ⟨t', rfl⟩ hs
  refine .of fun hu hf s r => ?_
  obtain ⟨ys, hI, hl⟩ := r.static hu hf (sizes_ok _)
  have rx := reps_ints hI
  obtain ⟨z, hz, rz⟩ := rx.get (i := i.toNat) (v := .int k) (by rw [List.getElem?_map, hi]; rfl)
  have hlt : i.toNat < ys.length := by
    obtain ⟨q, _⟩ := List.getElem?_eq_some_iff.mp hz; exact q
  have hlen : ys.length = 7 := by rw [hI.length]; rfl
  refine item_tupleT hl (by lia) (by lia) ?_ hz ⟨l, ℓ, r, .refl s, .int k, rz, rfl, h⟩ (hs _ _)
  unfold seqIndex?
  have e1 : ¬ i < 0 := by lia
  have e2 : i < (ys.length : Int) := by lia
  simp [e1, h0, e2]
theorem Call_len_SIZES (h : P (.int 7) l) : CallV u n f l ℓ (.bi "len") [.ref 87] P := by
  rintro x xs ⟨tk, rfl⟩ rxs
  obtain ⟨_, rfl⟩ := one_arg rxs
  refine .of fun hu hf s r => ?_
  obtain ⟨ys, hI, hl⟩ := r.static hu hf (sizes_ok _)
  have hlen : ys.length = 7 := by rw [hI.length]; rfl
  refine len_tuple hl (by rw [List.size_toArray, hlen]; decide) ?_
  refine ⟨l, ℓ, r.toks, ⟨rfl, rfl, rfl⟩, .int 7, ?_, rfl, h⟩
  exact ⟨_, by rw [List.size_toArray, hlen]; rfl⟩
end
theorem ks_252 : ((252, ["child", "rowid", "size", "local", "overflow"]) : Addr × List Str) ∈ keysTbl := by unfold keysTbl; wtm_at "lk"
theorem kn_252 : (["child", "rowid", "size", "local", "overflow"] : List Str).Nodup := keys_nodup _ ks_252
theorem ks_397 : ((397, ["data", "page", "usable", "base"]) : Addr × List Str) ∈ keysTbl := by unfold keysTbl; wtm_at "lk"
theorem kn_397 : (["data", "page", "usable", "base"] : List Str).Nodup := keys_nodup _ ks_397
theorem ks_626 : ((626, ["kind", "raws", "right"]) : Addr × List Str) ∈ keysTbl := by unfold keysTbl; wtm_at "lk"
theorem kn_626 : (["kind", "raws", "right"] : List Str).Nodup := keys_nodup _ ks_626
theorem ks_703 : ((703, ["btree", "root", "state", "path", "key", "cell", "octets", "stamp"]) : Addr × List Str) ∈ keysTbl := by unfold keysTbl; wtm_at "lk"
theorem kn_703 : (["btree", "root", "state", "path", "key", "cell", "octets", "stamp"] : List Str).Nodup := keys_nodup _ ks_703
theorem ks_764 : ((764, ["page_size", "pages", "spare"]) : Addr × List Str) ∈ keysTbl := by unfold keysTbl; wtm_at "lk"
theorem kn_764 : (["page_size", "pages", "spare"] : List Str).Nodup := keys_nodup _ ks_764
theorem ks_820 : ((820, ["pager", "changes"]) : Addr × List Str) ∈ keysTbl := by unfold keysTbl; wtm_at "lk"
theorem kn_820 : (["pager", "changes"] : List Str).Nodup := keys_nodup _ ks_820
theorem mt_397_kind : ((397, "kind", 284) : Addr × Str × Addr) ∈ methTbl := by unfold methTbl; wtm_at "lk"
theorem mt_397_count : ((397, "count", 305) : Addr × Str × Addr) ∈ methTbl := by unfold methTbl; wtm_at "lk"
theorem mt_397_pointers : ((397, "pointers", 312) : Addr × Str × Addr) ∈ methTbl := by unfold methTbl; wtm_at "lk"
theorem mt_397_right : ((397, "right", 333) : Addr × Str × Addr) ∈ methTbl := by unfold methTbl; wtm_at "lk"
theorem mt_397_place : ((397, "place", 347) : Addr × Str × Addr) ∈ methTbl := by unfold methTbl; wtm_at "lk"
theorem mt_397_cell : ((397, "cell", 354) : Addr × Str × Addr) ∈ methTbl := by unfold methTbl; wtm_at "lk"
theorem mt_397_rowid : ((397, "rowid", 373) : Addr × Str × Addr) ∈ methTbl := by unfold methTbl; wtm_at "lk"
theorem mt_397_child : ((397, "child", 380) : Addr × Str × Addr) ∈ methTbl := by unfold methTbl; wtm_at "lk"
theorem mt_703_changes : ((703, "changes", 429) : Addr × Str × Addr) ∈ methTbl := by unfold methTbl; wtm_at "lk"
theorem mt_703_descend_first : ((703, "descend_first", 436) : Addr × Str × Addr) ∈ methTbl := by unfold methTbl; wtm_at "lk"
theorem mt_703_descend_last : ((703, "descend_last", 443) : Addr × Str × Addr) ∈ methTbl := by unfold methTbl; wtm_at "lk"
theorem mt_703_forward : ((703, "forward", 450) : Addr × Str × Addr) ∈ methTbl := by unfold methTbl; wtm_at "lk"
theorem mt_703_backward : ((703, "backward", 457) : Addr × Str × Addr) ∈ methTbl := by unfold methTbl; wtm_at "lk"
theorem mt_703_place_in : ((703, "place_in", 464) : Addr × Str × Addr) ∈ methTbl := by unfold methTbl; wtm_at "lk"
theorem mt_703_find : ((703, "find", 471) : Addr × Str × Addr) ∈ methTbl := by unfold methTbl; wtm_at "lk"
theorem mt_703_arrive : ((703, "arrive", 478) : Addr × Str × Addr) ∈ methTbl := by unfold methTbl; wtm_at "lk"
theorem mt_703_settle : ((703, "settle", 485) : Addr × Str × Addr) ∈ methTbl := by unfold methTbl; wtm_at "lk"
theorem mt_703_first : ((703, "first", 492) : Addr × Str × Addr) ∈ methTbl := by unfold methTbl; wtm_at "lk"
theorem mt_703_last : ((703, "last", 499) : Addr × Str × Addr) ∈ methTbl := by unfold methTbl; wtm_at "lk"
theorem mt_703_next : ((703, "next", 506) : Addr × Str × Addr) ∈ methTbl := by unfold methTbl; wtm_at "lk"
theorem mt_703_previous : ((703, "previous", 513) : Addr × Str × Addr) ∈ methTbl := by unfold methTbl; wtm_at "lk"
theorem mt_703_seek_ge : ((703, "seek_ge", 520) : Addr × Str × Addr) ∈ methTbl := by unfold methTbl; wtm_at "lk"
theorem mt_703_seek_gt : ((703, "seek_gt", 527) : Addr × Str × Addr) ∈ methTbl := by unfold methTbl; wtm_at "lk"
theorem mt_703_seek_lt : ((703, "seek_lt", 534) : Addr × Str × Addr) ∈ methTbl := by unfold methTbl; wtm_at "lk"
theorem mt_703_seek_le : ((703, "seek_le", 541) : Addr × Str × Addr) ∈ methTbl := by unfold methTbl; wtm_at "lk"
theorem mt_703_seek : ((703, "seek", 548) : Addr × Str × Addr) ∈ methTbl := by unfold methTbl; wtm_at "lk"
theorem mt_703_valid : ((703, "valid", 555) : Addr × Str × Addr) ∈ methTbl := by unfold methTbl; wtm_at "lk"
theorem mt_703_ask : ((703, "ask", 562) : Addr × Str × Addr) ∈ methTbl := by unfold methTbl; wtm_at "lk"
theorem mt_703_record : ((703, "record", 569) : Addr × Str × Addr) ∈ methTbl := by unfold methTbl; wtm_at "lk"
theorem mt_703_cell_sign : ((703, "cell_sign", 665) : Addr × Str × Addr) ∈ methTbl := by unfold methTbl; wtm_at "lk"
theorem mt_703_take_key : ((703, "take_key", 672) : Addr × Str × Addr) ∈ methTbl := by unfold methTbl; wtm_at "lk"
theorem mt_703_key_compare : ((703, "key_compare", 679) : Addr × Str × Addr) ∈ methTbl := by unfold methTbl; wtm_at "lk"
theorem mt_703_rowid : ((703, "rowid", 686) : Addr × Str × Addr) ∈ methTbl := by unfold methTbl; wtm_at "lk"
theorem mt_703_value : ((703, "value", 693) : Addr × Str × Addr) ∈ methTbl := by unfold methTbl; wtm_at "lk"
theorem mt_764_read_page : ((764, "read_page", 733) : Addr × Str × Addr) ∈ methTbl := by unfold methTbl; wtm_at "lk"
theorem mt_764_write_page : ((764, "write_page", 740) : Addr × Str × Addr) ∈ methTbl := by unfold methTbl; wtm_at "lk"
theorem mt_764_extend : ((764, "extend", 747) : Addr × Str × Addr) ∈ methTbl := by unfold methTbl; wtm_at "lk"
theorem mt_820_touch : ((820, "touch", 810) : Addr × Str × Addr) ∈ methTbl := by unfold methTbl; wtm_at "lk"
theorem mt_820_payload : ((820, "payload", 817) : Addr × Str × Addr) ∈ methTbl := by unfold methTbl; wtm_at "lk"
theorem ct_252 : ((252, 235) : Addr × Addr) ∈ clsTbl := by unfold clsTbl; wtm_at "lk"
theorem ct_397 : ((397, 277) : Addr × Addr) ∈ clsTbl := by unfold clsTbl; wtm_at "lk"
theorem ct_626 : ((626, 616) : Addr × Addr) ∈ clsTbl := by unfold clsTbl; wtm_at "lk"
theorem ct_703 : ((703, 422) : Addr × Addr) ∈ clsTbl := by unfold clsTbl; wtm_at "lk"
theorem ct_764 : ((764, 719) : Addr × Addr) ∈ clsTbl := by unfold clsTbl; wtm_at "lk"
theorem ct_820 : ((820, 803) : Addr × Addr) ∈ clsTbl := by unfold clsTbl; wtm_at "lk"
/-! places (printed by fam.py) -/
theorem pick_0 {p : Addr × O} {r : Led} : Pick p (p :: r) (r) := .head
theorem pick_1 {p b0 : Addr × O} {r : Led} : Pick p (b0 :: p :: r) (b0 :: r) := .tail (.head)
theorem pick_2 {p b0 b1 : Addr × O} {r : Led} : Pick p (b0 :: b1 :: p :: r) (b0 :: b1 :: r) := .tail (.tail (.head))
theorem pick_3 {p b0 b1 b2 : Addr × O} {r : Led} : Pick p (b0 :: b1 :: b2 :: p :: r) (b0 :: b1 :: b2 :: r) := .tail (.tail (.tail (.head)))
theorem pick_4 {p b0 b1 b2 b3 : Addr × O} {r : Led} : Pick p (b0 :: b1 :: b2 :: b3 :: p :: r) (b0 :: b1 :: b2 :: b3 :: r) := .tail (.tail (.tail (.tail (.head))))
theorem pick_5 {p b0 b1 b2 b3 b4 : Addr × O} {r : Led} : Pick p (b0 :: b1 :: b2 :: b3 :: b4 :: p :: r) (b0 :: b1 :: b2 :: b3 :: b4 :: r) := .tail (.tail (.tail (.tail (.tail (.head)))))
theorem pick_6 {p b0 b1 b2 b3 b4 b5 : Addr × O} {r : Led} : Pick p (b0 :: b1 :: b2 :: b3 :: b4 :: b5 :: p :: r) (b0 :: b1 :: b2 :: b3 :: b4 :: b5 :: r) := .tail (.tail (.tail (.tail (.tail (.tail (.head))))))
theorem pick_7 {p b0 b1 b2 b3 b4 b5 b6 : Addr × O} {r : Led} : Pick p (b0 :: b1 :: b2 :: b3 :: b4 :: b5 :: b6 :: p :: r) (b0 :: b1 :: b2 :: b3 :: b4 :: b5 :: b6 :: r) := .tail (.tail (.tail (.tail (.tail (.tail (.tail (.head)))))))
theorem pick_8 {p b0 b1 b2 b3 b4 b5 b6 b7 : Addr × O} {r : Led} : Pick p (b0 :: b1 :: b2 :: b3 :: b4 :: b5 :: b6 :: b7 :: p :: r) (b0 :: b1 :: b2 :: b3 :: b4 :: b5 :: b6 :: b7 :: r) := .tail (.tail (.tail (.tail (.tail (.tail (.tail (.tail (.head))))))))
theorem pick_9 {p b0 b1 b2 b3 b4 b5 b6 b7 b8 : Addr × O} {r : Led} : Pick p (b0 :: b1 :: b2 :: b3 :: b4 :: b5 :: b6 :: b7 :: b8 :: p :: r) (b0 :: b1 :: b2 :: b3 :: b4 :: b5 :: b6 :: b7 :: b8 :: r) := .tail (.tail (.tail (.tail (.tail (.tail (.tail (.tail (.tail (.head)))))))))
theorem pick_10 {p b0 b1 b2 b3 b4 b5 b6 b7 b8 b9 : Addr × O} {r : Led} : Pick p (b0 :: b1 :: b2 :: b3 :: b4 :: b5 :: b6 :: b7 :: b8 :: b9 :: p :: r) (b0 :: b1 :: b2 :: b3 :: b4 :: b5 :: b6 :: b7 :: b8 :: b9 :: r) := .tail (.tail (.tail (.tail (.tail (.tail (.tail (.tail (.tail (.tail (.head))))))))))
theorem pick_11 {p b0 b1 b2 b3 b4 b5 b6 b7 b8 b9 b10 : Addr × O} {r : Led} : Pick p (b0 :: b1 :: b2 :: b3 :: b4 :: b5 :: b6 :: b7 :: b8 :: b9 :: b10 :: p :: r) (b0 :: b1 :: b2 :: b3 :: b4 :: b5 :: b6 :: b7 :: b8 :: b9 :: b10 :: r) := .tail (.tail (.tail (.tail (.tail (.tail (.tail (.tail (.tail (.tail (.tail (.head)))))))))))
theorem pick_12 {p b0 b1 b2 b3 b4 b5 b6 b7 b8 b9 b10 b11 : Addr × O} {r : Led} : Pick p (b0 :: b1 :: b2 :: b3 :: b4 :: b5 :: b6 :: b7 :: b8 :: b9 :: b10 :: b11 :: p :: r) (b0 :: b1 :: b2 :: b3 :: b4 :: b5 :: b6 :: b7 :: b8 :: b9 :: b10 :: b11 :: r) := .tail (.tail (.tail (.tail (.tail (.tail (.tail (.tail (.tail (.tail (.tail (.tail (.head))))))))))))
theorem pick_13 {p b0 b1 b2 b3 b4 b5 b6 b7 b8 b9 b10 b11 b12 : Addr × O} {r : Led} : Pick p (b0 :: b1 :: b2 :: b3 :: b4 :: b5 :: b6 :: b7 :: b8 :: b9 :: b10 :: b11 :: b12 :: p :: r) (b0 :: b1 :: b2 :: b3 :: b4 :: b5 :: b6 :: b7 :: b8 :: b9 :: b10 :: b11 :: b12 :: r) := .tail (.tail (.tail (.tail (.tail (.tail (.tail (.tail (.tail (.tail (.tail (.tail (.tail (.head)))))))))))))
theorem pick_skip {p b0 b1 b2 b3 b4 b5 b6 b7 b8 b9 b10 b11 b12 b13 : Addr × O} {r r' : Led} (h : Pick p r r') : Pick p (b0 :: b1 :: b2 :: b3 :: b4 :: b5 :: b6 :: b7 :: b8 :: b9 :: b10 :: b11 :: b12 :: b13 :: r) (b0 :: b1 :: b2 :: b3 :: b4 :: b5 :: b6 :: b7 :: b8 :: b9 :: b10 :: b11 :: b12 :: b13 :: r') := .tail (.tail (.tail (.tail (.tail (.tail (.tail (.tail (.tail (.tail (.tail (.tail (.tail (.tail (h))))))))))))))
theorem turn_0 {a : Addr} {o o' : O} {r : Led} : Turn a o o' ((a, o) :: r) ((a, o') :: r) := .head
theorem turn_1 {a : Addr} {o o' : O} {b0 : Addr × O} {r : Led} : Turn a o o' (b0 :: (a, o) :: r) (b0 :: (a, o') :: r) := .tail (.head)
theorem turn_2 {a : Addr} {o o' : O} {b0 b1 : Addr × O} {r : Led} : Turn a o o' (b0 :: b1 :: (a, o) :: r) (b0 :: b1 :: (a, o') :: r) := .tail (.tail (.head))
theorem turn_3 {a : Addr} {o o' : O} {b0 b1 b2 : Addr × O} {r : Led} : Turn a o o' (b0 :: b1 :: b2 :: (a, o) :: r) (b0 :: b1 :: b2 :: (a, o') :: r) := .tail (.tail (.tail (.head)))
theorem turn_4 {a : Addr} {o o' : O} {b0 b1 b2 b3 : Addr × O} {r : Led} : Turn a o o' (b0 :: b1 :: b2 :: b3 :: (a, o) :: r) (b0 :: b1 :: b2 :: b3 :: (a, o') :: r) := .tail (.tail (.tail (.tail (.head))))
theorem turn_5 {a : Addr} {o o' : O} {b0 b1 b2 b3 b4 : Addr × O} {r : Led} : Turn a o o' (b0 :: b1 :: b2 :: b3 :: b4 :: (a, o) :: r) (b0 :: b1 :: b2 :: b3 :: b4 :: (a, o') :: r) := .tail (.tail (.tail (.tail (.tail (.head)))))
theorem turn_6 {a : Addr} {o o' : O} {b0 b1 b2 b3 b4 b5 : Addr × O} {r : Led} : Turn a o o' (b0 :: b1 :: b2 :: b3 :: b4 :: b5 :: (a, o) :: r) (b0 :: b1 :: b2 :: b3 :: b4 :: b5 :: (a, o') :: r) := .tail (.tail (.tail (.tail (.tail (.tail (.head))))))
theorem turn_7 {a : Addr} {o o' : O} {b0 b1 b2 b3 b4 b5 b6 : Addr × O} {r : Led} : Turn a o o' (b0 :: b1 :: b2 :: b3 :: b4 :: b5 :: b6 :: (a, o) :: r) (b0 :: b1 :: b2 :: b3 :: b4 :: b5 :: b6 :: (a, o') :: r) := .tail (.tail (.tail (.tail (.tail (.tail (.tail (.head)))))))
theorem turn_8 {a : Addr} {o o' : O} {b0 b1 b2 b3 b4 b5 b6 b7 : Addr × O} {r : Led} : Turn a o o' (b0 :: b1 :: b2 :: b3 :: b4 :: b5 :: b6 :: b7 :: (a, o) :: r) (b0 :: b1 :: b2 :: b3 :: b4 :: b5 :: b6 :: b7 :: (a, o') :: r) := .tail (.tail (.tail (.tail (.tail (.tail (.tail (.tail (.head))))))))
theorem turn_9 {a : Addr} {o o' : O} {b0 b1 b2 b3 b4 b5 b6 b7 b8 : Addr × O} {r : Led} : Turn a o o' (b0 :: b1 :: b2 :: b3 :: b4 :: b5 :: b6 :: b7 :: b8 :: (a, o) :: r) (b0 :: b1 :: b2 :: b3 :: b4 :: b5 :: b6 :: b7 :: b8 :: (a, o') :: r) := .tail (.tail (.tail (.tail (.tail (.tail (.tail (.tail (.tail (.head)))))))))
theorem turn_10 {a : Addr} {o o' : O} {b0 b1 b2 b3 b4 b5 b6 b7 b8 b9 : Addr × O} {r : Led} : Turn a o o' (b0 :: b1 :: b2 :: b3 :: b4 :: b5 :: b6 :: b7 :: b8 :: b9 :: (a, o) :: r) (b0 :: b1 :: b2 :: b3 :: b4 :: b5 :: b6 :: b7 :: b8 :: b9 :: (a, o') :: r) := .tail (.tail (.tail (.tail (.tail (.tail (.tail (.tail (.tail (.tail (.head))))))))))
theorem turn_11 {a : Addr} {o o' : O} {b0 b1 b2 b3 b4 b5 b6 b7 b8 b9 b10 : Addr × O} {r : Led} : Turn a o o' (b0 :: b1 :: b2 :: b3 :: b4 :: b5 :: b6 :: b7 :: b8 :: b9 :: b10 :: (a, o) :: r) (b0 :: b1 :: b2 :: b3 :: b4 :: b5 :: b6 :: b7 :: b8 :: b9 :: b10 :: (a, o') :: r) := .tail (.tail (.tail (.tail (.tail (.tail (.tail (.tail (.tail (.tail (.tail (.head)))))))))))
theorem turn_12 {a : Addr} {o o' : O} {b0 b1 b2 b3 b4 b5 b6 b7 b8 b9 b10 b11 : Addr × O} {r : Led} : Turn a o o' (b0 :: b1 :: b2 :: b3 :: b4 :: b5 :: b6 :: b7 :: b8 :: b9 :: b10 :: b11 :: (a, o) :: r) (b0 :: b1 :: b2 :: b3 :: b4 :: b5 :: b6 :: b7 :: b8 :: b9 :: b10 :: b11 :: (a, o') :: r) := .tail (.tail (.tail (.tail (.tail (.tail (.tail (.tail (.tail (.tail (.tail (.tail (.head))))))))))))
theorem turn_13 {a : Addr} {o o' : O} {b0 b1 b2 b3 b4 b5 b6 b7 b8 b9 b10 b11 b12 : Addr × O} {r : Led} : Turn a o o' (b0 :: b1 :: b2 :: b3 :: b4 :: b5 :: b6 :: b7 :: b8 :: b9 :: b10 :: b11 :: b12 :: (a, o) :: r) (b0 :: b1 :: b2 :: b3 :: b4 :: b5 :: b6 :: b7 :: b8 :: b9 :: b10 :: b11 :: b12 :: (a, o') :: r) := .tail (.tail (.tail (.tail (.tail (.tail (.tail (.tail (.tail (.tail (.tail (.tail (.tail (.head)))))))))))))
theorem turn_skip {a : Addr} {o o' : O} {b0 b1 b2 b3 b4 b5 b6 b7 b8 b9 b10 b11 b12 b13 : Addr × O} {r r' : Led} (h : Turn a o o' r r') : Turn a o o' (b0 :: b1 :: b2 :: b3 :: b4 :: b5 :: b6 :: b7 :: b8 :: b9 :: b10 :: b11 :: b12 :: b13 :: r) (b0 :: b1 :: b2 :: b3 :: b4 :: b5 :: b6 :: b7 :: b8 :: b9 :: b10 :: b11 :: b12 :: b13 :: r') := .tail (.tail (.tail (.tail (.tail (.tail (.tail (.tail (.tail (.tail (.tail (.tail (.tail (.tail (h))))))))))))))
theorem putu_0 {x : Str} {v : V} {r : Loc} : Put x v ((x, .unb) :: r) ((x, .loc v) :: r) := .unb
theorem putl_0 {x : Str} {v w : V} {r : Loc} : Put x v ((x, .loc w) :: r) ((x, .loc v) :: r) := .loc
theorem putu_1 {x : Str} {v : V} {b0 : Str × Sl} {r : Loc} : Put x v (b0 :: (x, .unb) :: r) (b0 :: (x, .loc v) :: r) := .tail (.unb)
theorem putl_1 {x : Str} {v w : V} {b0 : Str × Sl} {r : Loc} : Put x v (b0 :: (x, .loc w) :: r) (b0 :: (x, .loc v) :: r) := .tail (.loc)
theorem putu_2 {x : Str} {v : V} {b0 b1 : Str × Sl} {r : Loc} : Put x v (b0 :: b1 :: (x, .unb) :: r) (b0 :: b1 :: (x, .loc v) :: r) := .tail (.tail (.unb))
theorem putl_2 {x : Str} {v w : V} {b0 b1 : Str × Sl} {r : Loc} : Put x v (b0 :: b1 :: (x, .loc w) :: r) (b0 :: b1 :: (x, .loc v) :: r) := .tail (.tail (.loc))
theorem putu_3 {x : Str} {v : V} {b0 b1 b2 : Str × Sl} {r : Loc} : Put x v (b0 :: b1 :: b2 :: (x, .unb) :: r) (b0 :: b1 :: b2 :: (x, .loc v) :: r) := .tail (.tail (.tail (.unb)))
theorem putl_3 {x : Str} {v w : V} {b0 b1 b2 : Str × Sl} {r : Loc} : Put x v (b0 :: b1 :: b2 :: (x, .loc w) :: r) (b0 :: b1 :: b2 :: (x, .loc v) :: r) := .tail (.tail (.tail (.loc)))
theorem putu_4 {x : Str} {v : V} {b0 b1 b2 b3 : Str × Sl} {r : Loc} : Put x v (b0 :: b1 :: b2 :: b3 :: (x, .unb) :: r) (b0 :: b1 :: b2 :: b3 :: (x, .loc v) :: r) := .tail (.tail (.tail (.tail (.unb))))
theorem putl_4 {x : Str} {v w : V} {b0 b1 b2 b3 : Str × Sl} {r : Loc} : Put x v (b0 :: b1 :: b2 :: b3 :: (x, .loc w) :: r) (b0 :: b1 :: b2 :: b3 :: (x, .loc v) :: r) := .tail (.tail (.tail (.tail (.loc))))
theorem putu_5 {x : Str} {v : V} {b0 b1 b2 b3 b4 : Str × Sl} {r : Loc} : Put x v (b0 :: b1 :: b2 :: b3 :: b4 :: (x, .unb) :: r) (b0 :: b1 :: b2 :: b3 :: b4 :: (x, .loc v) :: r) := .tail (.tail (.tail (.tail (.tail (.unb)))))
theorem putl_5 {x : Str} {v w : V} {b0 b1 b2 b3 b4 : Str × Sl} {r : Loc} : Put x v (b0 :: b1 :: b2 :: b3 :: b4 :: (x, .loc w) :: r) (b0 :: b1 :: b2 :: b3 :: b4 :: (x, .loc v) :: r) := .tail (.tail (.tail (.tail (.tail (.loc)))))
theorem putu_6 {x : Str} {v : V} {b0 b1 b2 b3 b4 b5 : Str × Sl} {r : Loc} : Put x v (b0 :: b1 :: b2 :: b3 :: b4 :: b5 :: (x, .unb) :: r) (b0 :: b1 :: b2 :: b3 :: b4 :: b5 :: (x, .loc v) :: r) := .tail (.tail (.tail (.tail (.tail (.tail (.unb))))))
theorem putl_6 {x : Str} {v w : V} {b0 b1 b2 b3 b4 b5 : Str × Sl} {r : Loc} : Put x v (b0 :: b1 :: b2 :: b3 :: b4 :: b5 :: (x, .loc w) :: r) (b0 :: b1 :: b2 :: b3 :: b4 :: b5 :: (x, .loc v) :: r) := .tail (.tail (.tail (.tail (.tail (.tail (.loc))))))
theorem putu_7 {x : Str} {v : V} {b0 b1 b2 b3 b4 b5 b6 : Str × Sl} {r : Loc} : Put x v (b0 :: b1 :: b2 :: b3 :: b4 :: b5 :: b6 :: (x, .unb) :: r) (b0 :: b1 :: b2 :: b3 :: b4 :: b5 :: b6 :: (x, .loc v) :: r) := .tail (.tail (.tail (.tail (.tail (.tail (.tail (.unb)))))))
theorem putl_7 {x : Str} {v w : V} {b0 b1 b2 b3 b4 b5 b6 : Str × Sl} {r : Loc} : Put x v (b0 :: b1 :: b2 :: b3 :: b4 :: b5 :: b6 :: (x, .loc w) :: r) (b0 :: b1 :: b2 :: b3 :: b4 :: b5 :: b6 :: (x, .loc v) :: r) := .tail (.tail (.tail (.tail (.tail (.tail (.tail (.loc)))))))
theorem putu_8 {x : Str} {v : V} {b0 b1 b2 b3 b4 b5 b6 b7 : Str × Sl} {r : Loc} : Put x v (b0 :: b1 :: b2 :: b3 :: b4 :: b5 :: b6 :: b7 :: (x, .unb) :: r) (b0 :: b1 :: b2 :: b3 :: b4 :: b5 :: b6 :: b7 :: (x, .loc v) :: r) := .tail (.tail (.tail (.tail (.tail (.tail (.tail (.tail (.unb))))))))
theorem putl_8 {x : Str} {v w : V} {b0 b1 b2 b3 b4 b5 b6 b7 : Str × Sl} {r : Loc} : Put x v (b0 :: b1 :: b2 :: b3 :: b4 :: b5 :: b6 :: b7 :: (x, .loc w) :: r) (b0 :: b1 :: b2 :: b3 :: b4 :: b5 :: b6 :: b7 :: (x, .loc v) :: r) := .tail (.tail (.tail (.tail (.tail (.tail (.tail (.tail (.loc))))))))
theorem putu_9 {x : Str} {v : V} {b0 b1 b2 b3 b4 b5 b6 b7 b8 : Str × Sl} {r : Loc} : Put x v (b0 :: b1 :: b2 :: b3 :: b4 :: b5 :: b6 :: b7 :: b8 :: (x, .unb) :: r) (b0 :: b1 :: b2 :: b3 :: b4 :: b5 :: b6 :: b7 :: b8 :: (x, .loc v) :: r) := .tail (.tail (.tail (.tail (.tail (.tail (.tail (.tail (.tail (.unb)))))))))
theorem putl_9 {x : Str} {v w : V} {b0 b1 b2 b3 b4 b5 b6 b7 b8 : Str × Sl} {r : Loc} : Put x v (b0 :: b1 :: b2 :: b3 :: b4 :: b5 :: b6 :: b7 :: b8 :: (x, .loc w) :: r) (b0 :: b1 :: b2 :: b3 :: b4 :: b5 :: b6 :: b7 :: b8 :: (x, .loc v) :: r) := .tail (.tail (.tail (.tail (.tail (.tail (.tail (.tail (.tail (.loc)))))))))
theorem putu_10 {x : Str} {v : V} {b0 b1 b2 b3 b4 b5 b6 b7 b8 b9 : Str × Sl} {r : Loc} : Put x v (b0 :: b1 :: b2 :: b3 :: b4 :: b5 :: b6 :: b7 :: b8 :: b9 :: (x, .unb) :: r) (b0 :: b1 :: b2 :: b3 :: b4 :: b5 :: b6 :: b7 :: b8 :: b9 :: (x, .loc v) :: r) := .tail (.tail (.tail (.tail (.tail (.tail (.tail (.tail (.tail (.tail (.unb))))))))))
theorem putl_10 {x : Str} {v w : V} {b0 b1 b2 b3 b4 b5 b6 b7 b8 b9 : Str × Sl} {r : Loc} : Put x v (b0 :: b1 :: b2 :: b3 :: b4 :: b5 :: b6 :: b7 :: b8 :: b9 :: (x, .loc w) :: r) (b0 :: b1 :: b2 :: b3 :: b4 :: b5 :: b6 :: b7 :: b8 :: b9 :: (x, .loc v) :: r) := .tail (.tail (.tail (.tail (.tail (.tail (.tail (.tail (.tail (.tail (.loc))))))))))
theorem putu_11 {x : Str} {v : V} {b0 b1 b2 b3 b4 b5 b6 b7 b8 b9 b10 : Str × Sl} {r : Loc} : Put x v (b0 :: b1 :: b2 :: b3 :: b4 :: b5 :: b6 :: b7 :: b8 :: b9 :: b10 :: (x, .unb) :: r) (b0 :: b1 :: b2 :: b3 :: b4 :: b5 :: b6 :: b7 :: b8 :: b9 :: b10 :: (x, .loc v) :: r) := .tail (.tail (.tail (.tail (.tail (.tail (.tail (.tail (.tail (.tail (.tail (.unb)))))))))))
theorem putl_11 {x : Str} {v w : V} {b0 b1 b2 b3 b4 b5 b6 b7 b8 b9 b10 : Str × Sl} {r : Loc} : Put x v (b0 :: b1 :: b2 :: b3 :: b4 :: b5 :: b6 :: b7 :: b8 :: b9 :: b10 :: (x, .loc w) :: r) (b0 :: b1 :: b2 :: b3 :: b4 :: b5 :: b6 :: b7 :: b8 :: b9 :: b10 :: (x, .loc v) :: r) := .tail (.tail (.tail (.tail (.tail (.tail (.tail (.tail (.tail (.tail (.tail (.loc)))))))))))
theorem putu_12 {x : Str} {v : V} {b0 b1 b2 b3 b4 b5 b6 b7 b8 b9 b10 b11 : Str × Sl} {r : Loc} : Put x v (b0 :: b1 :: b2 :: b3 :: b4 :: b5 :: b6 :: b7 :: b8 :: b9 :: b10 :: b11 :: (x, .unb) :: r) (b0 :: b1 :: b2 :: b3 :: b4 :: b5 :: b6 :: b7 :: b8 :: b9 :: b10 :: b11 :: (x, .loc v) :: r) := .tail (.tail (.tail (.tail (.tail (.tail (.tail (.tail (.tail (.tail (.tail (.tail (.unb))))))))))))
theorem putl_12 {x : Str} {v w : V} {b0 b1 b2 b3 b4 b5 b6 b7 b8 b9 b10 b11 : Str × Sl} {r : Loc} : Put x v (b0 :: b1 :: b2 :: b3 :: b4 :: b5 :: b6 :: b7 :: b8 :: b9 :: b10 :: b11 :: (x, .loc w) :: r) (b0 :: b1 :: b2 :: b3 :: b4 :: b5 :: b6 :: b7 :: b8 :: b9 :: b10 :: b11 :: (x, .loc v) :: r) := .tail (.tail (.tail (.tail (.tail (.tail (.tail (.tail (.tail (.tail (.tail (.tail (.loc))))))))))))
theorem putu_13 {x : Str} {v : V} {b0 b1 b2 b3 b4 b5 b6 b7 b8 b9 b10 b11 b12 : Str × Sl} {r : Loc} : Put x v (b0 :: b1 :: b2 :: b3 :: b4 :: b5 :: b6 :: b7 :: b8 :: b9 :: b10 :: b11 :: b12 :: (x, .unb) :: r) (b0 :: b1 :: b2 :: b3 :: b4 :: b5 :: b6 :: b7 :: b8 :: b9 :: b10 :: b11 :: b12 :: (x, .loc v) :: r) := .tail (.tail (.tail (.tail (.tail (.tail (.tail (.tail (.tail (.tail (.tail (.tail (.tail (.unb)))))))))))))
theorem putl_13 {x : Str} {v w : V} {b0 b1 b2 b3 b4 b5 b6 b7 b8 b9 b10 b11 b12 : Str × Sl} {r : Loc} : Put x v (b0 :: b1 :: b2 :: b3 :: b4 :: b5 :: b6 :: b7 :: b8 :: b9 :: b10 :: b11 :: b12 :: (x, .loc w) :: r) (b0 :: b1 :: b2 :: b3 :: b4 :: b5 :: b6 :: b7 :: b8 :: b9 :: b10 :: b11 :: b12 :: (x, .loc v) :: r) := .tail (.tail (.tail (.tail (.tail (.tail (.tail (.tail (.tail (.tail (.tail (.tail (.tail (.loc)))))))))))))
theorem put_skip {x : Str} {v : V} {b0 b1 b2 b3 b4 b5 b6 b7 b8 b9 b10 b11 b12 b13 : Str × Sl} {r r' : Loc} (h : Put x v r r') : Put x v (b0 :: b1 :: b2 :: b3 :: b4 :: b5 :: b6 :: b7 :: b8 :: b9 :: b10 :: b11 :: b12 :: b13 :: r) (b0 :: b1 :: b2 :: b3 :: b4 :: b5 :: b6 :: b7 :: b8 :: b9 :: b10 :: b11 :: b12 :: b13 :: r') := .tail (.tail (.tail (.tail (.tail (.tail (.tail (.tail (.tail (.tail (.tail (.tail (.tail (.tail (h))))))))))))))
local macro_rules | `(tactic| wtm_at "ks") => tTab "ks_252 | ks_397 | ks_626 | ks_703 | ks_764 | ks_820"
local macro_rules | `(tactic| wtm_at "kn") => tTab "kn_252 | kn_397 | kn_626 | kn_703 | kn_764 | kn_820"
local macro_rules | `(tactic| wtm_at "mt") => tTab "mt_397_kind | mt_397_count | mt_397_pointers | mt_397_right | mt_397_place | mt_397_cell | mt_397_rowid | mt_397_child | mt_703_changes | mt_703_descend_first | mt_703_descend_last | mt_703_forward | mt_703_backward | mt_703_place_in | mt_703_find | mt_703_arrive | mt_703_settle | mt_703_first | mt_703_last | mt_703_next | mt_703_previous | mt_703_seek_ge | mt_703_seek_gt | mt_703_seek_lt | mt_703_seek_le | mt_703_seek | mt_703_valid | mt_703_ask | mt_703_record | mt_703_cell_sign | mt_703_take_key | mt_703_key_compare | mt_703_rowid | mt_703_value | mt_764_read_page | mt_764_write_page | mt_764_extend | mt_820_touch | mt_820_payload"
local macro_rules | `(tactic| wtm_at "turn") => tTab "turn_0 | turn_1 | turn_2 | turn_3 | turn_4 | turn_5 | turn_6 | turn_7 | turn_8 | turn_9 | turn_10 | turn_11 | turn_12 | turn_13 | turn_skip turn"
local macro_rules | `(tactic| wtm_at "fput") => tTab "FPut.head | FPut.tail fput"
local macro_rules | `(tactic| wtm_at "put") => tTab "putu_0 | putl_0 | putu_1 | putl_1 | putu_2 | putl_2 | putu_3 | putl_3 | putu_4 | putl_4 | putu_5 | putl_5 | putu_6 | putl_6 | putu_7 | putl_7 | putu_8 | putl_8 | putu_9 | putl_9 | putu_10 | putl_10 | putu_11 | putl_11 | putu_12 | putl_12 | putu_13 | putl_13 | put_skip put"
local macro_rules | `(tactic| wtm_at "pick") => tTab "pick_0 | pick_1 | pick_2 | pick_3 | pick_4 | pick_5 | pick_6 | pick_7 | pick_8 | pick_9 | pick_10 | pick_11 | pick_12 | pick_13 | pick_skip pick"
local macro_rules | `(tactic| wtm_at "sel") => tTab "Sel.nil | Sel.cons pick sel"

/-! outcomes of calls (printed by elim.py) -/
theorem E_1_0 {A0 : Type} {W : A0 → V} {L : A0 → Led} {G : V → Led → Prop} (k : ∀ a0, G (W a0) (L a0)) : ∀ v l, (∃ a0, v = W a0 ∧ l = L a0) → G v l := fun v l => elE1 fun a0 h => by rw [h.1, h.2]; exact k a0
theorem E_2_0 {A0 A1 : Type} {W : A0 → A1 → V} {L : A0 → A1 → Led} {G : V → Led → Prop} (k : ∀ a0 a1, G (W a0 a1) (L a0 a1)) : ∀ v l, (∃ a0 a1, v = W a0 a1 ∧ l = L a0 a1) → G v l := fun v l => elE2 fun a0 a1 h => by rw [h.1, h.2]; exact k a0 a1
theorem E_3_0 {A0 A1 A2 : Type} {W : A0 → A1 → A2 → V} {L : A0 → A1 → A2 → Led} {G : V → Led → Prop} (k : ∀ a0 a1 a2, G (W a0 a1 a2) (L a0 a1 a2)) : ∀ v l, (∃ a0 a1 a2, v = W a0 a1 a2 ∧ l = L a0 a1 a2) → G v l := fun v l => elE3 fun a0 a1 a2 h => by rw [h.1, h.2]; exact k a0 a1 a2
theorem E_3_3 {A0 A1 A2 : Type} {W : A0 → A1 → A2 → V} {Q0 Q1 Q2 : A0 → A1 → A2 → Prop} {L : A0 → A1 → A2 → Led} {G : V → Led → Prop} (k : ∀ a0 a1 a2, Q0 a0 a1 a2 → Q1 a0 a1 a2 → Q2 a0 a1 a2 → G (W a0 a1 a2) (L a0 a1 a2)) : ∀ v l, (∃ a0 a1 a2, v = W a0 a1 a2 ∧ Q0 a0 a1 a2 ∧ Q1 a0 a1 a2 ∧ Q2 a0 a1 a2 ∧ l = L a0 a1 a2) → G v l := fun v l => elE3 fun a0 a1 a2 h => by rw [h.1, h.2.2.2.2]; exact k a0 a1 a2 h.2.1 h.2.2.1 h.2.2.2.1
theorem E_4_0 {A0 A1 A2 A3 : Type} {W : A0 → A1 → A2 → A3 → V} {L : A0 → A1 → A2 → A3 → Led} {G : V → Led → Prop} (k : ∀ a0 a1 a2 a3, G (W a0 a1 a2 a3) (L a0 a1 a2 a3)) : ∀ v l, (∃ a0 a1 a2 a3, v = W a0 a1 a2 a3 ∧ l = L a0 a1 a2 a3) → G v l := fun v l => elE4 fun a0 a1 a2 a3 h => by rw [h.1, h.2]; exact k a0 a1 a2 a3
theorem E_4_3 {A0 A1 A2 A3 : Type} {W : A0 → A1 → A2 → A3 → V} {Q0 Q1 Q2 : A0 → A1 → A2 → A3 → Prop} {L : A0 → A1 → A2 → A3 → Led} {G : V → Led → Prop} (k : ∀ a0 a1 a2 a3, Q0 a0 a1 a2 a3 → Q1 a0 a1 a2 a3 → Q2 a0 a1 a2 a3 → G (W a0 a1 a2 a3) (L a0 a1 a2 a3)) : ∀ v l, (∃ a0 a1 a2 a3, v = W a0 a1 a2 a3 ∧ Q0 a0 a1 a2 a3 ∧ Q1 a0 a1 a2 a3 ∧ Q2 a0 a1 a2 a3 ∧ l = L a0 a1 a2 a3) → G v l := fun v l => elE4 fun a0 a1 a2 a3 h => by rw [h.1, h.2.2.2.2]; exact k a0 a1 a2 a3 h.2.1 h.2.2.1 h.2.2.2.1
theorem E_5_8 {A0 A1 A2 A3 A4 : Type} {W : A0 → A1 → A2 → A3 → A4 → V} {Q0 Q1 Q2 Q3 Q4 Q5 Q6 Q7 : A0 → A1 → A2 → A3 → A4 → Prop} {L : A0 → A1 → A2 → A3 → A4 → Led} {G : V → Led → Prop} (k : ∀ a0 a1 a2 a3 a4, Q0 a0 a1 a2 a3 a4 → Q1 a0 a1 a2 a3 a4 → Q2 a0 a1 a2 a3 a4 → Q3 a0 a1 a2 a3 a4 → Q4 a0 a1 a2 a3 a4 → Q5 a0 a1 a2 a3 a4 → Q6 a0 a1 a2 a3 a4 → Q7 a0 a1 a2 a3 a4 → G (W a0 a1 a2 a3 a4) (L a0 a1 a2 a3 a4)) : ∀ v l, (∃ a0 a1 a2 a3 a4, v = W a0 a1 a2 a3 a4 ∧ Q0 a0 a1 a2 a3 a4 ∧ Q1 a0 a1 a2 a3 a4 ∧ Q2 a0 a1 a2 a3 a4 ∧ Q3 a0 a1 a2 a3 a4 ∧ Q4 a0 a1 a2 a3 a4 ∧ Q5 a0 a1 a2 a3 a4 ∧ Q6 a0 a1 a2 a3 a4 ∧ Q7 a0 a1 a2 a3 a4 ∧ l = L a0 a1 a2 a3 a4) → G v l := fun v l => elE5 fun a0 a1 a2 a3 a4 h => by rw [h.1, h.2.2.2.2.2.2.2.2.2]; exact k a0 a1 a2 a3 a4 h.2.1 h.2.2.1 h.2.2.2.1 h.2.2.2.2.1 h.2.2.2.2.2.1 h.2.2.2.2.2.2.1 h.2.2.2.2.2.2.2.1 h.2.2.2.2.2.2.2.2.1
/-! end of the printed part -/
/-! the walk's own tactic -/
inductive App {α : Type} : List α → List α → List α → Prop
  | nil {r} : App [] r r
  | cons {x l r o} : App l r o → App (x :: l) r (x :: o)
theorem App.eq {α : Type} {a b c : List α} (h : App a b c) : a ++ b = c := by
  induction h with
  | nil => rfl
  | cons _ ih => rw [List.cons_append, ih]
/-- what a callee has left and the rest of the ledger are put together -/
inductive AppP (rest : Led) (P : V → Led → Prop) (v : V) (l' : Led) : Prop
  | mk (o : Led) (ap : App l' rest o) (h : P v o) : AppP rest P v l'
inductive PpaP (rest : Led) (P : V → Led → Prop) (v : V) (l' : Led) : Prop
  | mk (o : Led) (ap : App rest l' o) (h : P v o) : PpaP rest P v l'
section
variable {u : U} {n : Nat} {f : Fm} {l : Led} {ℓ : Loc} {P : V → Led → Prop} {B : Bool → Led → Prop} {R : Fl → Led → Loc → Prop}
theorem CallV_app {fn : V} {first vs args : List V} (ap : App first vs args) (h : CallV u n f l ℓ fn args P) : CallV u n f l ℓ fn (first ++ vs) P := by rw [ap.eq]; exact h
theorem CallV_use {k : Nat} {fn : V} {args : List V} {pre rest : Led} {post : V → Led → Prop} (sp : Spec k fn args pre post) (hk : k ≤ n) (sel : Sel pre l rest)
    (h : ∀ v l', post v l' → AppP rest P v l') : CallV u n f l ℓ fn args P :=
  CallV_spec sp hk sel fun v l' hp => by
    obtain ⟨o, ap, hP⟩ := h v l' hp
    rw [ap.eq]; exact hP
/-- a callee whose outcome is known whole -/
theorem CallV_one {k : Nat} {fn w : V} {args : List V} {pre pre' rest o : Led} (sp : Spec k fn args pre fun v l' => v = w ∧ l' = pre') (hk : k ≤ n) (sel : Sel pre l rest)
    (ap : App pre' rest o) (h : P w o) : CallV u n f l ℓ fn args P :=
  CallV_use sp hk sel fun v l' hp => ⟨o, by rw [hp.2]; exact ap, by rw [hp.1]; exact h⟩
theorem Done_is {w v : V} {l₂ rest : Led} (e : v = w) (sel : Sel l₂ l rest) : Done (fun v l' => v = w ∧ l' = l₂) (.ret v) l ℓ := ⟨l₂, ⟨rest, sel⟩, e, rfl⟩
theorem Done_nx {w : V} {l₂ rest : Led} (e : .none = w) (sel : Sel l₂ l rest) : Done (fun v l' => v = w ∧ l' = l₂) .next l ℓ := ⟨l₂, ⟨rest, sel⟩, e, rfl⟩
inductive CelP (l : Led) (c : Addr) (P : V → Led → Prop) : Prop
  | mk {v} (h : (c, O.cell v) ∈ l) (k : P v l) : CelP l c P
@[reducible] def NameK (l : Led) (P : V → Led → Prop) (x : Sl) : Prop := match x with
  | .loc v => P v l
  | .glob v => P v l
  | .cel c => CelP l c P
  | .unb => False
theorem Ev_name {x : Str} {pos : Pos} {sl : Sl} (h : (x, sl) ∈ ℓ) (k : NameK l P sl) : Ev u n f l ℓ (.Name x pos) P := by
  cases sl with
  | loc v => exact Ev_loc h k
  | glob v => exact Ev_glob h k
  | cel c => obtain ⟨hc, k⟩ := k; exact Ev_cel h hc k
  | unb => exact k.elim
theorem Set_newT {a d C : Addr} {fs fs' : List (Str × V)} {ks more : List Str} {name : Str} {v : V} {l' : Led} {R : Led → Prop} (hi : (a, O.inst C d) ∈ l) (hd : Turn d (.ns fs) (.ns fs') l l') (ap : App fs [(name, v)] fs')
    (hks : (C, ks) ∈ keysTbl) (he : fs.map (·.1) ++ name :: more = ks) (hndk : ks.Nodup) (hz : Nat.ble fs.length 900 = true) (h : R l') : SetV u n f l ℓ (.ref a) name v R := Set_new hi (ap.eq ▸ hd) hks he hndk hz h
theorem Bin_bytesT {a b : List UInt8} (hz : a.length + b.length ≤ 10000) (h : P (.bytes (a ++ b)) l) : BinV u n f l ℓ .Add (.bytes a) (.bytes b) P := Bin_bytes hz h
theorem Bin_mulS {i j : Int} (hi : i.natAbs < 18446744073709551616) (hj : j.natAbs < 18446744073709551616) (h : P (.int (i * j)) l) : BinV u n f l ℓ .Mult (.int i) (.int j) P :=
  Bin_mul (IntMulOk.of_le (m := 64) (n := 64) (PyProof.Rows.intBits_le hi) (PyProof.Rows.intBits_le hj) (by decide)) h
theorem Bin_divS {i j : Int} (hj : j ≠ 0) (h2 : j.natAbs < 1073741824) (h : P (.int (i.fdiv j)) l) : BinV u n f l ℓ .FloorDiv (.int i) (.int j) P :=
  Bin_div hj (PyProof.noPylong_small h2) h
theorem Put_baT {a : Addr} {bs : List UInt8} {l' : Led} {R : Led → Prop} {i v : Int} (t : Turn a (.ba bs) (.ba (bs.set i.toNat v.toNat.toUInt8)) l l') (h0 : 0 ≤ i) (hi : i < bs.length) (hz : bs.length ≤ 10000) (hv0 : 0 ≤ v) (hv1 : v < 256) (h : R l') :
    PutV u n f l ℓ (.ref a) (.int i) (.int v) R := Put_ba h0 hi hz hv0 hv1 t h
theorem Put_listT {a : Addr} {vs : List V} {v : V} {i : Int} {l' : Led} {R : Led → Prop} (t : Turn a (.list vs) (.list (vs.set i.toNat v)) l l') (h0 : 0 ≤ i) (hi : i < 2 ^ 63) (hn : i < vs.length) (h : R l') : PutV u n f l ℓ (.ref a) (.int i) v R := Put_list h0 hi hn t h
theorem Call_appendT {a : Addr} {vs : List V} {v : V} {l' : Led} (t : Turn a (.list vs) (.list (vs ++ [v])) l l') (hz : vs.length ≤ 10000) (h : P .none l') : CallV u n f l ℓ (.bi "list.append") [.ref a, v] P := Call_append hz t h
theorem Meth_append {a : Addr} {vs : List V} {Q : V → List V → Led → Prop} (ha : (a, O.list vs) ∈ l) (h : Q (.bi "list.append") [.ref a] l) : MethV u n f l ℓ (.ref a) "append" Q := Meth_list (PySem.F.slot_list_append) rfl ha h
theorem Meth_pop {a : Addr} {vs : List V} {Q : V → List V → Led → Prop} (ha : (a, O.list vs) ∈ l) (h : Q (.bi "list.pop") [.ref a] l) : MethV u n f l ℓ (.ref a) "pop" Q := Meth_list (PySem.F.slot_list_pop) rfl ha h
theorem Meth_reverse {a : Addr} {vs : List V} {Q : V → List V → Led → Prop} (ha : (a, O.list vs) ∈ l) (h : Q (.bi "list.reverse") [.ref a] l) : MethV u n f l ℓ (.ref a) "reverse" Q := Meth_list (PySem.F.slot_list_reverse) rfl ha h
theorem Meth_get {a : Addr} {kvs : List (Int × V)} {Q : V → List V → Led → Prop} (ha : (a, O.dict kvs) ∈ l) (h : Q (.bi "dict.get") [.ref a] l) : MethV u n f l ℓ (.ref a) "get" Q := Meth_dict (PySem.F.slot_dict_get) rfl ha h
theorem Meth_dpop {a : Addr} {kvs : List (Int × V)} {Q : V → List V → Led → Prop} (ha : (a, O.dict kvs) ∈ l) (h : Q (.bi "dict.pop") [.ref a] l) : MethV u n f l ℓ (.ref a) "pop" Q := Meth_dict (PySem.F.slot_dict_pop) rfl ha h
end
@[reducible] noncomputable def keep (p : Prop) : V → Prop
  | .ref a => keepVB (.ref a) = true ∧ p
  | .bi _ => p
  | .ty _ => p
  | _ => False
theorem keep_of {p : Prop} {v : V} (h : keep p v) : keepVB v = true ∧ p := by
  cases v with
  | ref a => exact h
  | bi x => exact ⟨rfl, h⟩
  | ty x => exact ⟨rfl, h⟩
  | _ => exact h.elim
theorem keep_ref {p : Prop} {a : Addr} (e : true = keepVB (.ref a)) (h : p) : keep p (.ref a) := ⟨e.symm, h⟩
@[reducible] noncomputable def appR : List V → List V → List V
  | [], b => b
  | x :: a, b => x :: appR a b
theorem appR_eq {b : List V} : ∀ a : List V, appR a b = a ++ b
  | [] => rfl
  | x :: a => congrArg (x :: ·) (appR_eq a)
/-! what is to come behind a step, as terms without binders: a term under a binder is another term -/
section
variable (u : U) (n : Nat) (f : Fm) (ℓ : Loc) (P : V → Led → Prop) (B : Bool → Led → Prop) (R : Fl → Led → Loc → Prop)
noncomputable abbrev KBin2 (op : Operator) (a : V) : V → Led → Prop := fun b l => BinV u n f l ℓ op a b P
noncomputable abbrev KBin1 (op : Operator) (b : Expr) : V → Led → Prop := fun a l => Ev u n f l ℓ b (KBin2 u n f ℓ P op a)
noncomputable abbrev KUn (op : UnaryOp) : V → Led → Prop := fun a l => UnV u n f l ℓ op a P
noncomputable abbrev KCmp2 (op : CmpOp) (a : V) : V → Led → Prop := fun b l => CmpV u n f l ℓ op a b P
noncomputable abbrev KCmp1 (op : CmpOp) (b : Expr) : V → Led → Prop := fun a l => Ev u n f l ℓ b (KCmp2 u n f ℓ P op a)
noncomputable abbrev KIfE (a b : Expr) : Bool → Led → Prop := fun c l => Br c (Ev u n f l ℓ a P) (Ev u n f l ℓ b P)
noncomputable abbrev KGet (x : Str) : V → Led → Prop := fun a l => GetV u n f l ℓ a x P
noncomputable abbrev KItm2 (a : V) : V → Led → Prop := fun i l => ItmV u n f l ℓ a i P
noncomputable abbrev KItm1 (i : Expr) : V → Led → Prop := fun a l => Ev u n f l ℓ i (KItm2 u n f ℓ P a)
noncomputable abbrev KItmS2 (a : V) : V → Led → Prop := fun i l => ItmS u n f l ℓ a i P
noncomputable abbrev KItmS1 (i : Expr) : V → Led → Prop := fun a l => Ev u n f l ℓ i (KItmS2 u n f ℓ P a)
noncomputable abbrev KCall2 (v : V) : List V → Led → Prop := fun vs l => CallV u n f l ℓ v vs P
noncomputable abbrev KCall1 (args : List Expr) : V → Led → Prop := fun v l => keep (Evs u n f l ℓ args (KCall2 u n f ℓ P v)) v
noncomputable abbrev KMeth3 (v : V) (first : List V) : List V → Led → Prop := fun vs l => CallV u n f l ℓ v (appR first vs) P
noncomputable abbrev KMeth2 (args : List Expr) : V → List V → Led → Prop := fun v first l => keep (Evs u n f l ℓ args (KMeth3 u n f ℓ P v first)) v
noncomputable abbrev KMeth1 (x : Str) (args : List Expr) : V → Led → Prop := fun a l => MethV u n f l ℓ a x (KMeth2 u n f ℓ P args)
noncomputable abbrev KCons2 (Q : List V → Led → Prop) (v : V) : List V → Led → Prop := fun vs l => Q (v :: vs) l
noncomputable abbrev KCons1 (Q : List V → Led → Prop) (rest : List Expr) : V → Led → Prop := fun v l => Evs u n f l ℓ rest (KCons2 Q v)
noncomputable abbrev KAnd2 (e : Expr) (v : V) : Bool → Led → Prop := fun t l => Br t (Ev u n f l ℓ e P) (P v l)
noncomputable abbrev KAnd1 (e : Expr) : V → Led → Prop := fun v l => TruV u n f l ℓ v (KAnd2 u n f ℓ P e v)
noncomputable abbrev KOr2 (e : Expr) (v : V) : Bool → Led → Prop := fun t l => Br t (P v l) (Ev u n f l ℓ e P)
noncomputable abbrev KOr1 (e : Expr) : V → Led → Prop := fun v l => TruV u n f l ℓ v (KOr2 u n f ℓ P e v)
noncomputable abbrev KNew (o : O) (l : Led) : Prop := ∀ a, P (.ref a) ((a, o) :: l)
noncomputable abbrev KList : List V → Led → Prop := fun vs l => vs.length ≤ 10000 ∧ KNew P (.list vs) l
noncomputable abbrev KTup : List V → Led → Prop := fun vs l => vs.length ≤ 10000 ∧ KNew P (.tup vs) l
/-- an int comes -/
inductive IntP (Q : Int → Led → Prop) : V → Led → Prop
  | mk {i l} (h : Q i l) : IntP Q (.int i) l
noncomputable abbrev KSl2 (i : Int) : Int → Led → Prop := fun j l => KNew P (.slice (some i) (some j)) l
noncomputable abbrev KSl1 (hi : Expr) : Int → Led → Prop := fun i l => Ev u n f l ℓ hi (IntP (KSl2 P i))
noncomputable abbrev KSlU : Int → Led → Prop := fun j l => KNew P (.slice none (some j)) l
noncomputable abbrev KTru : V → Led → Prop := fun v l => TruV u n f l ℓ v B
noncomputable abbrev KTCmp2 (op : CmpOp) (a : V) : V → Led → Prop := fun b l => CmpV u n f l ℓ op a b (KTru u n f ℓ B)
noncomputable abbrev KTCmp1 (op : CmpOp) (b : Expr) : V → Led → Prop := fun a l => Ev u n f l ℓ b (KTCmp2 u n f ℓ B op a)
noncomputable abbrev KNot : Bool → Led → Prop := fun b l => B (!b) l
noncomputable abbrev KTAnd (e : Expr) : Bool → Led → Prop := fun b l => Br b (Tr u n f l ℓ e B) (B false l)
noncomputable abbrev KTOr (e : Expr) : Bool → Led → Prop := fun b l => Br b (B true l) (Tr u n f l ℓ e B)
noncomputable abbrev KRet : V → Led → Prop := fun v l => R (.ret v) l ℓ
noncomputable abbrev KIf (a b : List Stmt) : Bool → Led → Prop := fun c l => Br c (Exs u n f l ℓ a R) (Exs u n f l ℓ b R)
noncomputable abbrev KExpr : V → Led → Prop := fun _ l => R .next l ℓ
noncomputable abbrev KAsg (t : Expr) : V → Led → Prop := fun v l => Asg u n f l ℓ t v (R .next)
/-- a local is stored -/
inductive PutP (Q : Led → Loc → Prop) (x : Str) (ℓ : Loc) (v : V) (l : Led) : Prop
  | mk {ℓ'} (p : Put x v ℓ ℓ') (h : Q l ℓ') : PutP Q x ℓ v l
noncomputable abbrev KAug (op : Operator) (old : V) (x : Str) : V → Led → Prop := fun v l => InpV u n f l ℓ op old v (PutP (R .next) x ℓ)
noncomputable abbrev KSet (Q : Led → Loc → Prop) : Led → Prop := fun l => Q l ℓ
noncomputable abbrev KAtt (Q : Led → Loc → Prop) (x : Str) (v : V) : V → Led → Prop := fun a l => SetV u n f l ℓ a x v (KSet ℓ Q)
noncomputable abbrev KPut2 (Q : Led → Loc → Prop) (a v : V) : V → Led → Prop := fun i l => PutV u n f l ℓ a i v (KSet ℓ Q)
noncomputable abbrev KPut1 (Q : Led → Loc → Prop) (i : Expr) (v : V) : V → Led → Prop := fun a l => Ev u n f l ℓ i (KPut2 u n f ℓ Q a v)
end
section
variable {u : U} {n : Nat} {f : Fm} {l : Led} {ℓ : Loc} {P : V → Led → Prop} {B : Bool → Led → Prop} {R : Fl → Led → Loc → Prop}
theorem Ev_BinOpK {a b : Expr} {op : Operator} {pos : Pos} (h : Ev u n f l ℓ a (KBin1 u n f ℓ P op b)) : Ev u n f l ℓ (.BinOp a op b pos) P := Ev_BinOp h
theorem Ev_UnaryOpK {a : Expr} {op : UnaryOp} {pos : Pos} (h : Ev u n f l ℓ a (KUn u n f ℓ P op)) : Ev u n f l ℓ (.UnaryOp op a pos) P := Ev_UnaryOp h
theorem Ev_CompareK {a b : Expr} {op : CmpOp} {pos : Pos} (h : Ev u n f l ℓ a (KCmp1 u n f ℓ P op b)) (hm : behindInMarks op b = false) : Ev u n f l ℓ (.Compare a [op] [b] pos) P := Ev_Compare h hm
theorem Ev_IfExpK {t a b : Expr} {pos : Pos} (h : Tr u n f l ℓ t (KIfE u n f ℓ P a b)) : Ev u n f l ℓ (.IfExp t a b pos) P := Ev_IfExp h
theorem Ev_AttributeK {a : Expr} {name : Str} {pos : Pos} (h : Ev u n f l ℓ a (KGet u n f ℓ P name)) (hb : eval a f.env = attributeBase a name f.env (eval a f.env)) : Ev u n f l ℓ (.Attribute a name pos) P := Ev_Attribute h hb.symm
theorem Ev_SubscriptK {a i : Expr} {pos : Pos} (h : Ev u n f l ℓ a (KItm1 u n f ℓ P i)) (hs : (match i with | .Slice .. => false | _ => true) = true) (hs' : ∀ o j, subscripted i false o j = operate [o, j] (getItem o j)) : Ev u n f l ℓ (.Subscript a i pos) P := Ev_Subscript h hs'
theorem Ev_SubSliceK {a i : Expr} {pos : Pos} (h : Ev u n f l ℓ a (KItmS1 u n f ℓ P i)) (hs : (match i with | .Slice .. => true | _ => false) = true) (hs' : ∀ o j, subscripted i false o j = operate [j, o] (getItem o j)) : Ev u n f l ℓ (.Subscript a i pos) P := Ev_SubSlice h hs'
theorem Ev_CallK {x : Str} {p pos : Pos} {args : List Expr} (h : Ev u n f l ℓ (.Name x p) (KCall1 u n f ℓ P args)) (hs : args.all noStarB = true) : Ev u n f l ℓ (.Call (.Name x p) args [] pos) P := Ev_Call (Ev.mono h fun _ _ q => keep_of q) hs
theorem MethV.mono {a : V} {x : Str} {Q Q' : V → List V → Led → Prop} (h : MethV u n f l ℓ a x Q) (k : ∀ v fs l, Q v fs l → Q' v fs l) : MethV u n f l ℓ a x Q' :=
  fun y z r => W.mono (h y z r) fun _ _ _ q => match q with | ⟨fn, fvs, a, b, c, d⟩ => ⟨fn, fvs, a, b, c, k _ _ _ d⟩
theorem Ev_MethK {o : Expr} {name : Str} {apos pos : Pos} {args : List Expr} (h : Ev u n f l ℓ o (KMeth1 u n f ℓ P name args)) (hb : eval o f.env = attributeBase o name f.env (eval o f.env)) (hl : args.length < 20) (hline : (apos.endLine == pos.line) = true) (hs : args.all noStarB = true) :
    Ev u n f l ℓ (.Call (.Attribute o name apos) args [] pos) P :=
  Ev_Meth (Ev.mono h fun _ _ q => MethV.mono q fun _ _ _ q => ⟨(keep_of q).1, fun pos => W.mono ((keep_of q).2 pos) fun _ _ _ q => match q with | ⟨vs, a, b, c⟩ => ⟨vs, a, b, show CallV u n f _ ℓ _ (_ ++ vs) P from appR_eq (b := vs) _ ▸ c⟩⟩) hb.symm hl hline hs
theorem Evs_consK {e : Expr} {rest : List Expr} {P : List V → Led → Prop} (h : Ev u n f l ℓ e (KCons1 u n f ℓ P rest)) (hs : starEach (e :: rest) f.env = (false, eval e f.env) :: starEach rest f.env) : Evs u n f l ℓ (e :: rest) P := Evs_cons h hs
theorem Ev_andK {a b : Expr} {rest : List Expr} {pos : Pos} (h : Ev u n f l ℓ a (KAnd1 u n f ℓ P (.BoolOp .And (b :: rest) pos))) : Ev u n f l ℓ (.BoolOp .And (a :: b :: rest) pos) P := Ev_and h
theorem Ev_orK {a b : Expr} {rest : List Expr} {pos : Pos} (h : Ev u n f l ℓ a (KOr1 u n f ℓ P (.BoolOp .Or (b :: rest) pos))) : Ev u n f l ℓ (.BoolOp .Or (a :: b :: rest) pos) P := Ev_or h
theorem Ev_ListK {es : List Expr} {pos : Pos} (h : Evs u n f l ℓ es (KList P)) : Ev u n f l ℓ (.List es pos) P := Ev_List h
theorem Ev_TupleK {es : List Expr} {k : Nat} {pos : Pos} (h : Evs u n f l ℓ es (KTup P)) : Ev u n f l ℓ (.Tuple es k pos) P := Ev_Tuple h
theorem Ev_Slice2K {lo hi : Expr} {pos : Pos} (h : Ev u n f l ℓ lo (IntP (KSl1 u n f ℓ P hi))) : Ev u n f l ℓ (.Slice (some lo) (some hi) none pos) P :=
  Ev_Slice2 (Ev.mono h fun _ _ q => match q with | .mk q => ⟨_, rfl, Ev.mono q fun _ _ q => match q with | .mk q => ⟨_, rfl, q⟩⟩)
theorem Ev_SliceUK {hi : Expr} {pos : Pos} (h : Ev u n f l ℓ hi (IntP (KSlU P))) : Ev u n f l ℓ (.Slice none (some hi) none pos) P := Ev_SliceU (Ev.mono h fun _ _ q => match q with | .mk q => ⟨_, rfl, q⟩)
theorem Tr_CompareK {a b : Expr} {op : CmpOp} {pos : Pos} (h : Ev u n f l ℓ a (KTCmp1 u n f ℓ B op b)) (hm : behindInMarks op b = false) : Tr u n f l ℓ (.Compare a [op] [b] pos) B := Tr_Compare h hm
theorem Tr_notK {a : Expr} {pos : Pos} (h : Tr u n f l ℓ a (KNot B)) : Tr u n f l ℓ (.UnaryOp .Not a pos) B := Tr_not h
theorem Tr_plainK {e : Expr} (h : Ev u n f l ℓ e (KTru u n f ℓ B)) (he : isTrue e f.env (eval e f.env) = (do let v ← eval e f.env; standAt e.pos; holding [v] (truthy v))) : Tr u n f l ℓ e B := Tr_plain h he
theorem Tr_andK {a : Expr} {rest : List Expr} {pos : Pos} (h : Tr u n f l ℓ a (KTAnd u n f ℓ B (.BoolOp .And rest pos))) : Tr u n f l ℓ (.BoolOp .And (a :: rest) pos) B := Tr_and h
theorem Tr_orK {a : Expr} {rest : List Expr} {pos : Pos} (h : Tr u n f l ℓ a (KTOr u n f ℓ B (.BoolOp .Or rest pos))) : Tr u n f l ℓ (.BoolOp .Or (a :: rest) pos) B := Tr_or h
theorem Ex_ReturnK {e : Expr} {pos : Pos} (h : Ev u n f l ℓ e (KRet ℓ R)) : Ex u n f l ℓ (.Return (some e) pos) R := Ex_Return h
theorem Ex_IfK {t : Expr} {a b : List Stmt} {pos : Pos} (h : Tr u n f l ℓ t (KIf u n f ℓ R a b)) : Ex u n f l ℓ (.If t a b pos) R := Ex_If h
theorem Ex_ExprK {e : Expr} {pos : Pos} (h : Ev u n f l ℓ e (KExpr ℓ R)) (hs : (pure false : Sem Bool) = swapsWith e none pos.line f.env) : Ex u n f l ℓ (.Expr e pos) R := Ex_Expr h hs.symm
theorem Ex_AssignK {t e : Expr} {pos : Pos} (h : Ev u n f l ℓ e (KAsg u n f ℓ R t))
    (hs : (pure false : Sem Bool) = swapsWithSole [t] e pos.line f.env) (hw : (pure none : Sem _) = swappedStores [t] e f.env) (ht : [assign t f.env] = (assignEach [t] f.env).map (·.2)) : Ex u n f l ℓ (.Assign [t] e pos) R := Ex_Assign h hs.symm hw.symm ht.symm
theorem InpV.mono {op : Operator} {a b : V} {P' : V → Led → Prop} (h : InpV u n f l ℓ op a b P) (k : ∀ v l, P v l → P' v l) : InpV u n f l ℓ op a b P' := fun x y r q => W.mono (h x y r q) fun _ _ _ ⟨v, r, e, p⟩ => ⟨v, r, e, k _ _ p⟩
theorem Ex_AugNameK {x : Str} {npos pos : Pos} {op : Operator} {e : Expr} {old : V} (hx : (x, Sl.loc old) ∈ ℓ) (h : Ev u n f l ℓ e (KAug u n f ℓ R op old x)) : Ex u n f l ℓ (.AugAssign (.Name x npos) op e pos) R :=
  Ex_AugName hx (Ev.mono h fun _ _ q => InpV.mono q fun _ _ q => match q with | .mk p h => ⟨_, p, h⟩)
theorem Asg_AttributeK {o : Expr} {a : Str} {pos : Pos} {v : V} {R : Led → Loc → Prop} (h : Ev u n f l ℓ o (KAtt u n f ℓ R a v)) : Asg u n f l ℓ (.Attribute o a pos) v R := Asg_Attribute h
theorem Asg_SubscriptK {o i : Expr} {pos : Pos} {v : V} {R : Led → Loc → Prop} (h : Ev u n f l ℓ o (KPut1 u n f ℓ R i v)) : Asg u n f l ℓ (.Subscript o i pos) v R := Asg_Subscript h
end
/-! loops and cuts whose invariant stands behind a variable -/
section
variable {u : U} {n : Nat} {f : Fm} {l : Led} {ℓ : Loc} {R : Fl → Led → Loc → Prop}
noncomputable abbrev KWh (u : U) (n : Nat) (f : Fm) (ℓ : Loc) (J : Nat → Led → Loc → Prop) (k : Nat) (R : Fl → Led → Loc → Prop) (body orelse : List Stmt) : Bool → Led → Prop := fun b l => Br b (Exs u n f l ℓ body (LoopR J k R)) (Exs u n f l ℓ orelse R)
theorem Ex_WhileO {test : Expr} {body orelse : List Stmt} {pos : Pos} (I : Nat → Led → Loc → Prop) (k : Nat) (h : I k l ℓ)
    (turn : ∀ J : Nat → Led → Loc → Prop, (∀ {k l ℓ}, I k l ℓ → J k l ℓ) → ∀ k l ℓ, I k l ℓ → Tr u n f l ℓ test (KWh u n f ℓ J k R body orelse)) : Ex u n f l ℓ (.While test body orelse pos) R := Ex_While I k h (turn I id)
noncomputable abbrev KFor (u : U) (n : Nat) (f : Fm) (J : Nat → Led → Loc → Prop) (k : Nat) (R : Fl → Led → Loc → Prop) (body : List Stmt) : Led → Loc → Prop := fun l ℓ => Exs u n f l ℓ body (ForR J k R)
inductive RangeP (u : U) (n : Nat) (ℓ : Loc) (R : Fl → Led → Loc → Prop) (tgt : Expr) (body : List Stmt) (v : V) (l₁ : Led) : Prop
  | mk (a : Addr) (i j k : Int) (N : Nat) (l₂ : Led) (ev : v = .ref a) (el : l₁ = (a, O.rng i j k) :: l₂) (sm : Builtin.Range.small i j k = true) (sz : Builtin.Range.rangeSize i j k = (N : Nat)) (I : Nat → Led → Loc → Prop) (h0 : I 0 l₂ ℓ)
      (turn : ∀ J : Nat → Led → Loc → Prop, (∀ {k l ℓ}, I k l ℓ → J k l ℓ) → ∀ f' m l ℓ, m < N → I m l ℓ → Asg u n f' l ℓ tgt (.int (i + m * k)) (KFor u n f' J m R body)) (hend : ∀ l ℓ, I N l ℓ → R .next l ℓ) : RangeP u n ℓ R tgt body v l₁
theorem Ex_For_rangeO {tgt iter : Expr} {body : List Stmt} {pos : Pos} (h : Ev u n f l ℓ iter (RangeP u n ℓ R tgt body))
    (hs : ∀ x, foldedSetIterable iter f.env x = Pure.pure x) (ht : ∀ a v, letOwnedTupleGo tgt (.ref a) v = Pure.pure ()) : Ex u n f l ℓ (.For tgt iter body [] pos) R :=
  Ex_For_range (Ev.mono h fun v l₁ ⟨a, i, j, k, N, l₂, ev, el, sm, sz, I, h0, turn, hend⟩ => ⟨a, i, j, k, N, l₂, ev, el, sm, sz, I, h0, turn I id, hend⟩) hs ht
inductive ListP (u : U) (n : Nat) (ℓ : Loc) (R : Fl → Led → Loc → Prop) (tgt : Expr) (body : List Stmt) (v : V) (l₁ : Led) : Prop
  | mk (a : Addr) (vs : List V) (ev : v = .ref a) (hm : (a, O.list vs) ∈ l₁) (I : Nat → Led → Loc → Prop) (h0 : I 0 l₁ ℓ) (hI : ∀ i l ℓ, I i l ℓ → (a, O.list vs) ∈ l)
      (turn : ∀ J : Nat → Led → Loc → Prop, (∀ {k l ℓ}, I k l ℓ → J k l ℓ) → ∀ f' i l ℓ v, vs[i]? = some v → I i l ℓ → Asg u n f' l ℓ tgt v (KFor u n f' J i R body)) (hend : ∀ l ℓ, I vs.length l ℓ → R .next l ℓ) : ListP u n ℓ R tgt body v l₁
theorem Ex_For_listO {tgt iter : Expr} {body : List Stmt} {pos : Pos} (h : Ev u n f l ℓ iter (ListP u n ℓ R tgt body))
    (hs : ∀ x, foldedSetIterable iter f.env x = Pure.pure x) (ht : ∀ a v, letOwnedTupleGo tgt (.ref a) v = Pure.pure ()) : Ex u n f l ℓ (.For tgt iter body [] pos) R :=
  Ex_For_list (Ev.mono h fun v l₁ ⟨a, vs, ev, hm, I, h0, hI, turn, hend⟩ => ⟨a, vs, ev, hm, I, h0, hI, turn I id, hend⟩) hs ht
end
theorem app_1 {α : Type} {b0 : α} {r : List α} : App [b0] r (b0 :: r) := .cons (.nil)
theorem app_2 {α : Type} {b0 b1 : α} {r : List α} : App [b0, b1] r (b0 :: b1 :: r) := .cons (.cons (.nil))
theorem app_3 {α : Type} {b0 b1 b2 : α} {r : List α} : App [b0, b1, b2] r (b0 :: b1 :: b2 :: r) := .cons (.cons (.cons (.nil)))
theorem app_4 {α : Type} {b0 b1 b2 b3 : α} {r : List α} : App [b0, b1, b2, b3] r (b0 :: b1 :: b2 :: b3 :: r) := .cons (.cons (.cons (.cons (.nil))))
theorem app_5 {α : Type} {b0 b1 b2 b3 b4 : α} {r : List α} : App [b0, b1, b2, b3, b4] r (b0 :: b1 :: b2 :: b3 :: b4 :: r) := .cons (.cons (.cons (.cons (.cons (.nil)))))
theorem app_6 {α : Type} {b0 b1 b2 b3 b4 b5 : α} {r : List α} : App [b0, b1, b2, b3, b4, b5] r (b0 :: b1 :: b2 :: b3 :: b4 :: b5 :: r) := .cons (.cons (.cons (.cons (.cons (.cons (.nil))))))
theorem app_7 {α : Type} {b0 b1 b2 b3 b4 b5 b6 : α} {r : List α} : App [b0, b1, b2, b3, b4, b5, b6] r (b0 :: b1 :: b2 :: b3 :: b4 :: b5 :: b6 :: r) := .cons (.cons (.cons (.cons (.cons (.cons (.cons (.nil)))))))
theorem app_8 {α : Type} {b0 b1 b2 b3 b4 b5 b6 b7 : α} {r : List α} : App [b0, b1, b2, b3, b4, b5, b6, b7] r (b0 :: b1 :: b2 :: b3 :: b4 :: b5 :: b6 :: b7 :: r) := .cons (.cons (.cons (.cons (.cons (.cons (.cons (.cons (.nil))))))))
local macro_rules | `(tactic| wtm_at "app") => tTab "App.nil | app_1 | app_2 | app_3 | app_4 | app_5 | app_6 | app_7 | app_8 | App.cons app"
local macro_rules | `(tactic| wtm_at "rf") => `(tactic| with_unfolding_all rfl)
local macro_rules | `(tactic| wtm_at "dc") => `(tactic| decide)
local macro_rules | `(tactic| wtm_at "sub") => `(tactic| (intro _ _; with_unfolding_all rfl))
local macro_rules | `(tactic| wtm_at "ar") => tAny "as dcu lia"
local macro_rules | `(tactic| wtm_at "dcu") => `(tactic| with_unfolding_all decide)
local macro_rules | `(tactic| wtm_at "nb") => `(tactic| with_unfolding_all exact Nat.le_of_ble_eq_true rfl)
local macro_rules | `(tactic| wtm_at "lia") => `(tactic| lia)
local macro_rules | `(tactic| wtm_at "om") => `(tactic| omega)
local macro_rules | `(tactic| wtm_at "szl") => `(tactic| simp (config := { decide := true }) only [List.length_append, List.length_cons, List.length_nil, List.length_map, List.length_replicate])
local macro_rules | `(tactic| wtm_at "szi") => `(tactic| (wtm_at "szl"; lia))
local macro_rules | `(tactic| wtm_at "szo") => `(tactic| (wtm_at "szl"; omega))
local macro_rules | `(tactic| wtm_at "sz") => tAny "as nb dcu lia szi"
local macro_rules | `(tactic| wtm_at "asrf") => tAny "as rf"
local macro_rules | `(tactic| wtm_at "pf") => tAny "rf as nb om szo dc"
local macro_rules | `(tactic| wtm_at "s") => tTab "Exs 7: Exs_cons _ | Exs_nil _ / Ex 7: Ex_IfK _ | Ex_ReturnK _ | Ex_Return_none _ | Ex_Pass _ | Ex_ExprK _ rf | Ex_AugNameK lk _ | Ex_AssignK _ rf rf rf / Asg 8: Asg_Name put _ | Asg_AttributeK _ | Asg_SubscriptK _ | Asg_Tuple2 lk put put _ / Ev 7: Ev_name lk _ | Ev_int _ | Ev_none _ | Ev_bool _ | Ev_str _ | Ev_bytes _ | Ev_BinOpK _ | Ev_UnaryOpK _ | Ev_CompareK _ rf | Ev_IfExpK _ | Ev_AttributeK _ rf | Ev_SubSliceK _ rf sub | Ev_SubscriptK _ rf sub | Ev_Slice2K _ | Ev_SliceUK _ | Ev_CallK _ rf | Ev_MethK _ rf dc rf rf | Ev_bool1 _ | Ev_andK _ | Ev_orK _ | Ev_ListK _ | Ev_TupleK _ | Ev_Dict0 _ / IntP.mk _ | CelP.mk lk _ | PutP.mk put _ | keep_ref rf _ / Evs 7: Evs_nil _ | Evs_consK _ rf / Tr 7: Tr_CompareK _ rf | Tr_notK _ | Tr_and_nil _ | Tr_or_nil _ | Tr_andK _ | Tr_orK _ | Tr_plainK _ rf / TruV 7: Tru_bool _ | Tru_int _ | Tru_none _ / GetV 8: Get_own lk lk lk ks lk rf _ / SetV 9: Set_old lk turn fput ks lk rf _ | Set_newT lk turn app ks rf kn rf _ / MethV 8: Meth_append lk _ | Meth_pop lk _ | Meth_reverse lk _ | Meth_get lk _ | Meth_dpop lk _ | Meth_join _ | Meth_to_bytes _ | Meth_inst lk lk mt ks rf _ / BinV 9: Bin_add _ | Bin_sub _ | Bin_mod ar _ | Bin_mulS ar ar _ | Bin_divS ar ar _ | Bin_shl ar ar ar _ | Bin_pow ar ar ar _ | Bin_and _ | Bin_or _ | Bin_bytesT sz _ | Bin_sub_bool _ / Inp_add _ / Un_neg _ / CmpV 9: Cmp_eq _ | Cmp_ne _ | Cmp_lt _ | Cmp_le _ | Cmp_gt _ | Cmp_ge _ | Cmp_is_none _ | Cmp_isnot_none _ | Cmp_eq_bool _ | Cmp_ne_bool _ | Cmp_eq_none_int _ | Cmp_in_dict lk _ | Cmp_notin_dict lk _ | Cmp_notin_KINDS _ | Cmp_in_tup lk _ | Cmp_notin_tup lk _ / CallV 8: Call_max2 _ | Call_min2 _ | Call_get lk _ | Call_appendT turn sz _ | Call_len_ba lk sz _ | Call_len_bytes sz _ | Call_len_list lk sz _ | Call_range1 _ | Call_range2 _ | Call_bytes_bytes _ / ItmV 8: Itm_ba lk ar ar as _ | Itm_list_last lk asrf ar _ | Itm_list lk ar ar asrf _ | Itm_tup lk ar ar asrf _ | Itm_bytes ar sz as _ / PutV 9: Put_baT turn ar ar sz ar ar _ | Put_listT turn ar ar ar _ / Br 3: Br_t _ | Br_f _ | Br_not _ | Br_or _ | Br_and _ | Br_yes ar _ | Br_no ar _ / And 2: And.intro pf _"
local macro_rules | `(tactic| wtm_at "r") => `(tactic| repeat wtm_at "s")
local macro_rules | `(tactic| wtm_at "hPo") => tTab "hPo _"
local macro_rules | `(tactic| wtm_at "done0") => tTab "Done_is _ sel | Done_nx _ sel"
local macro_rules | `(tactic| wtm_at "done") => `(tactic| ((try wtm_at "hPo"); wtm_at "done0"))
local macro_rules | `(tactic| wtm_at "one") => `(tactic| with_reducible first | exact Nat.le_refl _ | decide)
local macro_rules | `(tactic| wtm_at "fin") => `(tactic| (wtm_at "done"; first | with_unfolding_all rfl | (simp [*]; done) | (congr 1; lia)))


/-! the octets -/
theorem sp_two_at {a : Addr} {xs : List UInt8} {i : Int} {x y : UInt8} (h0 : 0 ≤ i) (h1 : i + 1 < 2 ^ 63) (hx : xs[i.toNat]? = some x) (hy : xs[(i + 1).toNat]? = some y) :
    Spec 1 (.ref 158) [.ref a, .int i] [(a, .ba xs)] fun v l => v = .int (x.toNat * 256 + y.toNat) ∧ l = [(a, .ba xs)] := by
  refine Spec_defR (ps := ["octets", "at"]) (ℓ₀ := [("octets", .loc (.ref a)), ("at", .loc (.int i))]) (by intro P; k_is) (by intro P; k_is) (reps2 (by intros; rfl)) (by intro P; kernel_rfl!) (by intro P; kernel_rfl!) (fun u f FR hPo => ?_) (by rfl) (by rfl) (by rfl)

  have := x.toNat_lt
  have := y.toNat_lt
  have ha : ((x.toNat : Nat) : Int).natAbs < 18446744073709551616 := Nat.lt_trans x.toNat_lt (by decide)
  wtm_at "r"
  wtm_at "fin"
local macro_rules | `(tactic| wtm_at "call") => tCall "sp_two_at ar ar as as"
theorem sp_four_at {a : Addr} {xs : List UInt8} {i : Int} {x : UInt8} (h0 : 0 ≤ i) (h1 : i + 4 < 2 ^ 63) (h2 : xs[i.toNat]? = some 0) (h3 : xs[(i + 1).toNat]? = some 0) (h4 : xs[(i + 2).toNat]? = some 0) (h5 : xs[(i + 2 + 1).toNat]? = some x) :
    Spec 2 (.ref 165) [.ref a, .int i] [(a, .ba xs)] fun v l => v = .int x.toNat ∧ l = [(a, .ba xs)] := by
  refine Spec_defR (ps := ["octets", "at"]) (ℓ₀ := [("octets", .loc (.ref a)), ("at", .loc (.int i)), ("two_at", .glob (.ref 158))]) (by intro P; k_is) (by intro P; k_is) (reps2 (by intros; rfl)) (by intro P; kernel_rfl!) (by intro P; kernel_rfl!) (fun u f FR hPo => ?_) (by rfl) (by rfl) (by rfl)

  have := x.toNat_lt
  wtm_at "r"
  wtm_at "call"
  wtm_at "r"
  wtm_at "call"
  wtm_at "r"
  wtm_at "fin"
local macro_rules | `(tactic| wtm_at "call") => tCall "sp_four_at ar ar as as as as"
theorem sp_is_leaf {i : Int} : Spec 1 (.ref 193) [.int i] [] fun v l => v = .bool (decide (i = 13) || decide (i = 10)) ∧ l = [] := by
  refine Spec_defR (ps := ["kind"]) (ℓ₀ := [("kind", .loc (.int i)), ("LEAF_ROWS", .glob (.int 13)), ("LEAF_KEYS", .glob (.int 10))]) (by intro P; k_is) (by intro P; k_is) (reps1 (by intros; rfl)) (by intro P; kernel_rfl!) (by intro P; kernel_rfl!) (fun u f FR hPo => ?_) (by rfl) (by rfl) (by rfl)

  wtm_at "r"
  refine Br_dec (fun h => ?_) (fun h => ?_)
  · wtm_at "r"; wtm_at "fin"
  · wtm_at "r"; wtm_at "fin"
theorem sp_is_leaf_y : Spec 1 (.ref 193) [.int 13] [] fun v l => v = .bool true ∧ l = [] := sp_is_leaf
theorem sp_is_leaf_n : Spec 1 (.ref 193) [.int 5] [] fun v l => v = .bool false ∧ l = [] := sp_is_leaf
local macro_rules | `(tactic| wtm_at "call") => tCall "sp_is_leaf_y"
local macro_rules | `(tactic| wtm_at "call") => tCall "sp_is_leaf_n"
theorem sp_head_y : Spec 2 (.ref 200) [.int 13] [] fun v l => v = .int 8 ∧ l = [] := by
  refine Spec_defR (ps := ["kind"]) (ℓ₀ := [("kind", .loc (.int 13)), ("is_leaf", .glob (.ref 193))]) (by intro P; k_is) (by intro P; k_is) (reps1 (by intros; rfl)) (by intro P; kernel_rfl!) (by intro P; kernel_rfl!) (fun u f FR hPo => ?_) (by rfl) (by rfl) (by rfl)

  wtm_at "r"
  wtm_at "call"
  wtm_at "r"
  wtm_at "fin"
theorem sp_head_n : Spec 2 (.ref 200) [.int 5] [] fun v l => v = .int 12 ∧ l = [] := by
  refine Spec_defR (ps := ["kind"]) (ℓ₀ := [("kind", .loc (.int 5)), ("is_leaf", .glob (.ref 193))]) (by intro P; k_is) (by intro P; k_is) (reps1 (by intros; rfl)) (by intro P; kernel_rfl!) (by intro P; kernel_rfl!) (fun u f FR hPo => ?_) (by rfl) (by rfl) (by rfl)

  wtm_at "r"
  wtm_at "call"
  wtm_at "r"
  wtm_at "fin"

/-! one-octet numbers -/
theorem seven_bits : ∀ k : Fin 128, Builtin.bitOr (0 * 2 ^ (7 : Int).toNat) (Builtin.bitAnd ((k : Nat) : Int) 127) = ((k : Nat) : Int) := by decide +kernel
theorem seven {x : UInt8} (h : x.toNat < 128) : Builtin.bitOr (0 * 2 ^ (7 : Int).toNat) (Builtin.bitAnd (x.toNat : Int) 127) = (x.toNat : Int) := seven_bits ⟨x.toNat, h⟩
theorem sp_varint_ba {a : Addr} {xs : List UInt8} {i : Int} {x : UInt8} (h0 : 0 ≤ i) (h1 : i < 2 ^ 63) (hx : xs[i.toNat]? = some x) (hs : x.toNat < 128) (hl : i < xs.length) (hz : xs.length ≤ 10000) :
    Spec 1 (.ref 101) [.ref a, .int i] [(a, .ba xs)] fun v l => ∃ t, v = .ref t ∧ l = [(t, .tup [.int x.toNat, .int (i + 1)]), (a, .ba xs)] := by
  refine Spec_defR (ps := ["octets", "at"]) (ℓ₀ := [("octets", .loc (.ref a)), ("at", .loc (.int i)), ("number", .unb), ("turn", .unb), ("octet", .unb), ("range", .glob (.ty "range")), ("len", .glob (.bi "len")), ("CorruptError", .glob (.ref 51))]) (by intro P; k_is) (by intro P; k_is) (reps2 (by intros; rfl)) (by intro P; kernel_rfl!) (by intro P; kernel_rfl!) (fun u f FR hPo => ?_) (by rfl) (by rfl) (by rfl)

  wtm_at "r"
  refine Ex_For_range ?_ (by intro _; rfl) (by intro _ _; rfl)
  wtm_at "r"
  intro r
  refine ⟨r, 0, 9, 1, 9, _, rfl, rfl, by decide, by decide, fun m l ℓ => m = 0 ∧ l = [(a, .ba xs)] ∧ ℓ = ([("octets", .loc (.ref a)), ("at", .loc (.int i)), ("number", .loc (.int 0)), ("turn", .unb), ("octet", .unb), ("range", .glob (.ty "range")), ("len", .glob (.bi "len")), ("CorruptError", .glob (.ref 51))] : Loc), ⟨rfl, rfl, rfl⟩, ?_, ?_⟩
  · rintro f' m l ℓ hm ⟨rfl, rfl, rfl⟩
    wtm_at "r"
    rw [seven hs]
    intro t
    refine hPo ⟨_, ⟨_, by wtm_at "sel"⟩, t, rfl, rfl⟩
  · rintro l ℓ ⟨h, _⟩; cases h
theorem sp_varint_b {xs : List UInt8} {i : Int} {x : UInt8} (h0 : 0 ≤ i) (h1 : i < 2 ^ 63) (hx : xs[i.toNat]? = some x) (hs : x.toNat < 128) (hl : i < xs.length) (hz : xs.length ≤ 10000) :
    Spec 1 (.ref 101) [.bytes xs, .int i] [] fun v l => ∃ t, v = .ref t ∧ l = [(t, .tup [.int x.toNat, .int (i + 1)])] := by
  refine Spec_defR (ps := ["octets", "at"]) (ℓ₀ := [("octets", .loc (.bytes xs)), ("at", .loc (.int i)), ("number", .unb), ("turn", .unb), ("octet", .unb), ("range", .glob (.ty "range")), ("len", .glob (.bi "len")), ("CorruptError", .glob (.ref 51))]) (by intro P; k_is) (by intro P; k_is) (reps2 (by intros; rfl)) (by intro P; kernel_rfl!) (by intro P; kernel_rfl!) (fun u f FR hPo => ?_) (by rfl) (by rfl) (by rfl)

  wtm_at "r"
  refine Ex_For_range ?_ (by intro _; rfl) (by intro _ _; rfl)
  wtm_at "r"
  intro r
  refine ⟨r, 0, 9, 1, 9, _, rfl, rfl, by decide, by decide, fun m l ℓ => m = 0 ∧ l = [] ∧ ℓ = ([("octets", .loc (.bytes xs)), ("at", .loc (.int i)), ("number", .loc (.int 0)), ("turn", .unb), ("octet", .unb), ("range", .glob (.ty "range")), ("len", .glob (.bi "len")), ("CorruptError", .glob (.ref 51))] : Loc), ⟨rfl, rfl, rfl⟩, ?_, ?_⟩
  · rintro f' m l ℓ hm ⟨rfl, rfl, rfl⟩
    wtm_at "r"
    rw [seven hs]
    intro t
    refine hPo ⟨_, ⟨_, by wtm_at "sel"⟩, t, rfl, rfl⟩
  · rintro l ℓ ⟨h, _⟩; cases h
theorem sp_signed {i : Int} (h : i < 1000) : Spec 1 (.ref 108) [.int i] [] fun v l => v = .int i ∧ l = [] := by
  refine Spec_defR (ps := ["n"]) (ℓ₀ := [("n", .loc (.int i)), ("WORD", .glob (.int 18446744073709551616))]) (by intro P; k_is) (by intro P; k_is) (reps1 (by intros; rfl)) (by intro P; kernel_rfl!) (by intro P; kernel_rfl!) (fun u f FR hPo => ?_) (by rfl) (by rfl) (by rfl)

  wtm_at "r"
  wtm_at "fin"

/-! octets written -/
theorem sp_put_two {a : Addr} {xs : List UInt8} {i k p q : Int} (h0 : 0 ≤ i) (h1 : i + 1 < xs.length) (hz : xs.length ≤ 10000) (hp : k.fdiv 256 = p) (hq : k.fmod 256 = q) (p0 : 0 ≤ p) (p1 : p < 256) (q0 : 0 ≤ q) (q1 : q < 256) :
    Spec 1 (.ref 172) [.ref a, .int i, .int k] [(a, .ba xs)] fun v l => v = .none ∧ l = [(a, .ba ((xs.set i.toNat p.toNat.toUInt8).set (i + 1).toNat q.toNat.toUInt8))] := by
  refine Spec_defR (ps := ["octets", "at", "number"]) (ℓ₀ := [("octets", .loc (.ref a)), ("at", .loc (.int i)), ("number", .loc (.int k))]) (by intro P; k_is) (by intro P; k_is) (reps3 (by intros; rfl)) (by intro P; kernel_rfl!) (by intro P; kernel_rfl!) (fun u f FR hPo => ?_) (by rfl) (by rfl) (by rfl)

  wtm_at "r"
  refine (Eq.symm (hp)) ▸ ?_
  wtm_at "r"
  rw [hq]
  have : i + 1 < (xs.set i.toNat p.toNat.toUInt8).length := by rw [List.length_set]; exact h1
  have : (xs.set i.toNat p.toNat.toUInt8).length ≤ 10000 := by rw [List.length_set]; exact hz
  wtm_at "r"
  wtm_at "fin"
theorem sp_four_octets {k : Int} (h0 : 0 ≤ k) (h1 : k < 256) : Spec 3 (.ref 186) [.int k] [] fun v l => v = .bytes [0, 0, 0, k.toNat.toUInt8] ∧ l = [] := by
  have p4 : ∀ a, Spec 2 (.ref 179) [.ref a, .int 0, .int k] [(a, .ba [0, 0, 0, 0])] fun v l => v = .none ∧ l = [(a, .ba [0, 0, 0, k.toNat.toUInt8])] := fun a => by
    have e1 : k.fdiv 65536 = 0 := by rw [Int.fdiv_eq_ediv_of_nonneg _ (by lia)]; lia
    have e2 : k.fmod 65536 = k := by rw [Int.fmod_eq_emod_of_nonneg _ (by lia)]; lia
    have e3 : k.fdiv 256 = 0 := by rw [Int.fdiv_eq_ediv_of_nonneg _ (by lia)]; lia
    have e4 : k.fmod 256 = k := by rw [Int.fmod_eq_emod_of_nonneg _ (by lia)]; lia
    refine Spec_defR (ps := ["octets", "at", "number"]) (ℓ₀ := [("octets", .loc (.ref a)), ("at", .loc (.int 0)), ("number", .loc (.int k)), ("put_two", .glob (.ref 172))]) (by intro P; k_is) (by intro P; k_is) (reps3 (by intros; rfl)) (by intro P; kernel_rfl!) (by intro P; kernel_rfl!) (fun u f FR hPo => ?_) (by rfl) (by rfl) (by rfl)

    wtm_at "r"
    refine (Eq.symm (e1)) ▸ ?_
    refine CallV_one (sp_put_two (xs := [0, 0, 0, 0]) (p := 0) (q := 0) (by lia) (by decide) (by decide) (by decide) (by decide) (by decide) (by decide) (by decide) (by decide)) (by wtm_at "one") (by wtm_at "sel") (by wtm_at "app") ?_
    wtm_at "r"
    refine (Eq.symm (e2)) ▸ ?_; refine (Eq.symm (show (([0, 0, 0, 0] : List UInt8).set (Int.toNat 0) (Int.toNat 0).toUInt8).set (0 + 1 : Int).toNat (Int.toNat 0).toUInt8 = [0, 0, 0, 0] from rfl)) ▸ ?_
    refine CallV_one (sp_put_two (xs := [0, 0, 0, 0]) (p := 0) (q := k) (by lia) (by decide) (by decide) e3 e4 (by decide) (by decide) h0 h1) (by wtm_at "one") (by wtm_at "sel") (by wtm_at "app") ?_
    wtm_at "r"
    refine (Eq.symm (show (([0, 0, 0, 0] : List UInt8).set (0 + 2 : Int).toNat (Int.toNat 0).toUInt8).set (0 + 2 + 1 : Int).toNat k.toNat.toUInt8 = [0, 0, 0, k.toNat.toUInt8] from rfl)) ▸ ?_
    wtm_at "fin"
  refine Spec_defR (ps := ["number"]) (ℓ₀ := [("number", .loc (.int k)), ("found", .unb), ("bytearray", .glob (.ty "bytearray")), ("put_four", .glob (.ref 179)), ("bytes", .glob (.ty "bytes"))]) (by intro P; k_is) (by intro P; k_is) (reps1 (by intros; rfl)) (by intro P; kernel_rfl!) (by intro P; kernel_rfl!) (fun u f FR hPo => ?_) (by rfl) (by rfl) (by rfl)

  wtm_at "r"
  refine Call_ba_int (by decide) (by decide) fun a => ?_
  wtm_at "r"
  refine (Eq.symm (show List.replicate (Int.toNat 4) (0 : UInt8) = [0, 0, 0, 0] from rfl)) ▸ ?_
  refine CallV_one (p4 a) (by wtm_at "one") (by wtm_at "sel") (by wtm_at "app") ?_
  wtm_at "r"
  refine Call_bytes_ba (bs := [0, 0, 0, k.toNat.toUInt8]) (by wtm_at "lk") (Nat.le_of_ble_eq_true rfl) ?_
  wtm_at "r"
  wtm_at "fin"

/-! records -/
section
variable {u : U} {n : Nat} {f : Fm} {l : Led} {ℓ : Loc} {P : V → Led → Prop} {i j x y z : Int}
theorem Cmp_in_tup2 {a : Addr} (ha : (a, O.tup [.int x, .int y]) ∈ l) (h : P (.bool (decide (i = x) || decide (i = y))) l) : CmpV u n f l ℓ .In (.int i) (.ref a) P := by
  refine Cmp_in_tup (is := [x, y]) ha ?_
  have e : ([x, y] : List Int).contains i = (decide (i = x) || decide (i = y)) := by rw [Bool.eq_iff_iff]; simp [List.contains_iff_mem]
  rw [e]; exact h
theorem Cmp_notin_tup3 {a : Addr} (ha : (a, O.tup [.int x, .int y, .int z]) ∈ l) (h : P (.bool (!(decide (i = x) || (decide (i = y) || decide (i = z))))) l) : CmpV u n f l ℓ .NotIn (.int i) (.ref a) P := by
  refine Cmp_notin_tup (is := [x, y, z]) ha ?_
  have e : ([x, y, z] : List Int).contains i = (decide (i = x) || (decide (i = y) || decide (i = z))) := by rw [Bool.eq_iff_iff]; simp [List.contains_iff_mem]
  rw [e]; exact h
end
local macro_rules | `(tactic| wtm_at "s") => tTab "CmpV 9: Cmp_in_tup2 lk _ | Cmp_notin_tup3 lk _ / Call_len_SIZES _ / ItmV 8: Itm_SIZES ar rf _"
theorem rsize {i : Int} {N : Nat} : Builtin.Range.rangeSize i (i + N) 1 = (N : Int) := by
  unfold Builtin.Range.rangeSize
  rw [if_pos (by decide), Int.ediv_one]
  split <;> lia
theorem rsmall {i : Int} {N : Nat} (h0 : 0 ≤ i) (h1 : i < 4611686018427387904) (h2 : N < 4611686018427387904) : Builtin.Range.small i (i + N) 1 = true := by
  unfold Builtin.Range.small
  rw [rsize]
  have a : ∀ k : Int, 0 ≤ k → k < 9223372036854775808 → Builtin.Range.rangeFitsLong k = true := fun k p q => by
    unfold Builtin.Range.rangeFitsLong
    simp only [Bool.and_eq_true, decide_eq_true_eq]
    lia
  rw [if_pos (by decide), a i (by lia) (by lia), a (i + N) (by lia) (by lia), a 1 (by lia) (by lia), a N (by lia) (by lia), a (i + N + (1 - 1)) (by lia) (by lia)]
  simp
theorem sp_serial_1 : Spec 1 (.ref 122) [.int 1] [] fun v l => v = .int 1 ∧ l = [] := by
  refine Spec_defR (ps := ["t"]) (ℓ₀ := [("t", .loc (.int 1)), ("BLOB_TYPE", .glob (.int 12)), ("ZERO_TYPE", .glob (.int 8)), ("ONE_TYPE", .glob (.int 9)), ("len", .glob (.bi "len")), ("NUMBER_SIZES", .glob (.ref 87)), ("CorruptError", .glob (.ref 51))]) (by intro P; k_is) (by intro P; k_is) (reps1 (by intros; rfl)) (by intro P; kernel_rfl!) (by intro P; kernel_rfl!) (fun u f FR hPo => ?_) (by rfl) (by rfl) (by rfl)

  wtm_at "r"
  intro a
  wtm_at "r"
  wtm_at "fin"
theorem eight_bits : ∀ k : Fin 256, Builtin.bitOr (0 * 2 ^ (8 : Int).toNat) ((k : Nat) : Int) = ((k : Nat) : Int) := by decide +kernel
theorem eight {x : UInt8} : Builtin.bitOr (0 * 2 ^ (8 : Int).toNat) (x.toNat : Int) = (x.toNat : Int) := eight_bits ⟨x.toNat, x.toNat_lt⟩
theorem sp_get_fixed {xs : List UInt8} {i : Int} {x : UInt8} (h0 : 0 ≤ i) (h1 : i < 2 ^ 40) (hx : xs[i.toNat]? = some x) (hs : x.toNat < 128) (hl : i < xs.length) (hz : xs.length ≤ 10000) :
    Spec 1 (.ref 115) [.bytes xs, .int i, .int 1] [] fun v l => v = .int x.toNat ∧ l = [] := by
  refine Spec_defR (ps := ["octets", "at", "size"]) (ℓ₀ := [("octets", .loc (.bytes xs)), ("at", .loc (.int i)), ("size", .loc (.int 1)), ("number", .unb), ("place", .unb), ("range", .glob (.ty "range"))]) (by intro P; k_is) (by intro P; k_is) (reps3 (by intros; rfl)) (by intro P; kernel_rfl!) (by intro P; kernel_rfl!) (fun u f FR hPo => ?_) (by rfl) (by rfl) (by rfl)

  wtm_at "r"
  refine Ex_For_range ?_ (by intro _; rfl) (by intro _ _; rfl)
  wtm_at "r"
  intro r
  refine ⟨r, i, i + 1, 1, 1, _, rfl, rfl, ?_, ?_, fun m l ℓ => l = [] ∧ (m = 0 → ℓ = ([("octets", .loc (.bytes xs)), ("at", .loc (.int i)), ("size", .loc (.int 1)), ("number", .loc (.int 0)), ("place", .unb), ("range", .glob (.ty "range"))] : Loc)) ∧ (m = 1 → ℓ = ([("octets", .loc (.bytes xs)), ("at", .loc (.int i)), ("size", .loc (.int 1)), ("number", .loc (.int x.toNat)), ("place", .loc (.int i)), ("range", .glob (.ty "range"))] : Loc)), ⟨rfl, fun _ => rfl, nofun⟩, ?_, ?_⟩
  · exact rsmall (N := 1) h0 (by lia) (by decide)
  · exact rsize (N := 1)
  · rintro f' m l ℓ hm ⟨rfl, h, _⟩
    obtain rfl : m = 0 := by lia
    obtain rfl := h rfl
    refine (Eq.symm (show i + ((0 : Nat) : Int) * 1 = i by lia)) ▸ ?_
    wtm_at "r"
    rw [eight]
    wtm_at "r"
    exact ⟨rfl, nofun, fun _ => rfl⟩
  · rintro l ℓ ⟨rfl, _, h⟩
    obtain rfl := h rfl
    wtm_at "r"
    wtm_at "fin"
theorem LoopR_ret {I : Nat → Led → Loc → Prop} {k : Nat} {R : Fl → Led → Loc → Prop} {v : V} {l : Led} {ℓ : Loc} (h : R (.ret v) l ℓ) : LoopR I k R (.ret v) l ℓ := h
theorem LoopR_brk {I : Nat → Led → Loc → Prop} {k : Nat} {R : Fl → Led → Loc → Prop} {l : Led} {ℓ : Loc} (h : R .next l ℓ) : LoopR I k R .brk l ℓ := h
theorem ForR_ret {I : Nat → Led → Loc → Prop} {k : Nat} {R : Fl → Led → Loc → Prop} {v : V} {l : Led} {ℓ : Loc} (h : R (.ret v) l ℓ) : ForR I k R (.ret v) l ℓ := h
local macro_rules | `(tactic| wtm_at "s") => tTab "LoopR_ret _ | ForR_ret _ | LoopR_brk _"
/-- the octet at i is v -/
noncomputable def oc (xs : List UInt8) (i v : Int) : Prop := ∃ x : UInt8, xs[i.toNat]? = some x ∧ (x.toNat : Int) = v
theorem oc.lt {xs : List UInt8} {i v : Int} (h : oc xs i v) (h0 : 0 ≤ i) : i < xs.length := by
  obtain ⟨x, hx, _⟩ := h
  obtain ⟨q, _⟩ := List.getElem?_eq_some_iff.mp hx
  lia
theorem sp_varint {a : Addr} {xs : List UInt8} {i v : Int} (hx : oc xs i v) (h0 : 0 ≤ i) (hs : v < 128) (hz : xs.length ≤ 10000) :
    Spec 1 (.ref 101) [.ref a, .int i] [(a, .ba xs)] fun w l => ∃ t, w = .ref t ∧ l = [(t, .tup [.int v, .int (i + 1)]), (a, .ba xs)] := by
  have hl := hx.lt h0
  obtain ⟨x, hx, rfl⟩ := hx
  exact sp_varint_ba h0 (by lia) hx (by lia) hl hz
theorem sp_varintb {xs : List UInt8} {i v : Int} (hx : oc xs i v) (h0 : 0 ≤ i) (hs : v < 128) (hz : xs.length ≤ 10000) :
    Spec 1 (.ref 101) [.bytes xs, .int i] [] fun w l => ∃ t, w = .ref t ∧ l = [(t, .tup [.int v, .int (i + 1)])] := by
  have hl := hx.lt h0
  obtain ⟨x, hx, rfl⟩ := hx
  exact sp_varint_b h0 (by lia) hx (by lia) hl hz
theorem sp_value_of {xs : List UInt8} {v : Int} (hl : xs.length = 3) (hx : oc xs 2 v) (hs : v < 128) : Spec 2 (.ref 129) [.bytes xs, .int 2, .int 1] [] fun w l => w = .int v ∧ l = [] := by
  obtain ⟨x, hx, rfl⟩ := hx
  refine Spec_defR (ps := ["octets", "at", "kind"]) (ℓ₀ := [("octets", .loc (.bytes xs)), ("at", .loc (.int 2)), ("kind", .loc (.int 1)), ("size", .unb), ("body", .unb), ("serial_size", .glob (.ref 122)), ("len", .glob (.bi "len")), ("CorruptError", .glob (.ref 51)), ("ZERO_TYPE", .glob (.int 8)), ("ONE_TYPE", .glob (.int 9)), ("BLOB_TYPE", .glob (.int 12)), ("get_fixed", .glob (.ref 115)), ("bytes", .glob (.ty "bytes")), ("text_of", .glob (.ref 79))]) (by intro P; k_is) (by intro P; k_is) (reps3 (by intros; rfl)) (by intro P; kernel_rfl!) (by intro P; kernel_rfl!) (fun u f FR hPo => ?_) (by rfl) (by rfl) (by rfl)

  wtm_at "r"
  refine CallV_one sp_serial_1 (by wtm_at "one") (by wtm_at "sel") (by wtm_at "app") ?_
  wtm_at "r"
  refine CallV_one (sp_get_fixed (i := 2) (by decide) (by decide) hx (by lia) (by lia) (by lia)) (by wtm_at "one") (by wtm_at "sel") (by wtm_at "app") ?_
  wtm_at "r"
  wtm_at "fin"
theorem sp_column0 {xs : List UInt8} {v : Int} (hl : xs.length = 3) (h0 : oc xs 0 2) (h1 : oc xs (0 + 1) 1) (hx : oc xs 2 v) (hs : v < 128) : Spec 3 (.ref 150) [.bytes xs, .int 0] [] fun w l => w = .int v ∧ l = [] := by
  refine Spec_defR (ps := ["octets", "i"]) (ℓ₀ := [("octets", .loc (.bytes xs)), ("i", .loc (.int 0)), ("end", .unb), ("place", .unb), ("at", .unb), ("column", .unb), ("kind", .unb), ("get_varint", .glob (.ref 101)), ("len", .glob (.bi "len")), ("CorruptError", .glob (.ref 51)), ("value_of", .glob (.ref 129)), ("serial_size", .glob (.ref 122))]) (by intro P; k_is) (by intro P; k_is) (reps2 (by intros; rfl)) (by intro P; kernel_rfl!) (by intro P; kernel_rfl!) (fun u f FR hPo => ?_) (by rfl) (by rfl) (by rfl)

  wtm_at "r"
  refine CallV_use (sp_varintb h0 (by decide) (by decide) (by lia)) (by wtm_at "one") (by wtm_at "sel") (E_1_0 ?_)
  rintro t
  refine ⟨_, by wtm_at "app", ?_⟩
  wtm_at "r"
  refine Ex_While (fun k l ℓ => k = 0 ∧ l = [(t, .tup [.int 2, .int (0 + 1)])] ∧ ℓ = ([("octets", .loc (.bytes xs)), ("i", .loc (.int 0)), ("end", .loc (.int 2)), ("place", .loc (.int (0 + 1))), ("at", .loc (.int 2)), ("column", .loc (.int 0)), ("kind", .unb), ("get_varint", .glob (.ref 101)), ("len", .glob (.bi "len")), ("CorruptError", .glob (.ref 51)), ("value_of", .glob (.ref 129)), ("serial_size", .glob (.ref 122))] : Loc)) 0 ⟨rfl, rfl, rfl⟩ ?_
  rintro k l ℓ ⟨rfl, rfl, rfl⟩
  wtm_at "r"
  refine CallV_use (sp_varintb h1 (by decide) (by decide) (by lia)) (by wtm_at "one") (by wtm_at "sel") (E_1_0 ?_)
  rintro t'
  refine ⟨_, by wtm_at "app", ?_⟩
  wtm_at "r"
  refine CallV_one (sp_value_of hl hx hs) (by wtm_at "one") (by wtm_at "sel") (by wtm_at "app") ?_
  wtm_at "r"
  wtm_at "fin"
theorem sp_column1 {xs : List UInt8} (hl : xs.length = 3) (h0 : oc xs 0 2) (h1 : oc xs (0 + 1) 1) : Spec 3 (.ref 150) [.bytes xs, .int 1] [] fun w l => w = .none ∧ l = [] := by
  refine Spec_defR (ps := ["octets", "i"]) (ℓ₀ := [("octets", .loc (.bytes xs)), ("i", .loc (.int 1)), ("end", .unb), ("place", .unb), ("at", .unb), ("column", .unb), ("kind", .unb), ("get_varint", .glob (.ref 101)), ("len", .glob (.bi "len")), ("CorruptError", .glob (.ref 51)), ("value_of", .glob (.ref 129)), ("serial_size", .glob (.ref 122))]) (by intro P; k_is) (by intro P; k_is) (reps2 (by intros; rfl)) (by intro P; kernel_rfl!) (by intro P; kernel_rfl!) (fun u f FR hPo => ?_) (by rfl) (by rfl) (by rfl)

  wtm_at "r"
  refine CallV_use (sp_varintb h0 (by decide) (by decide) (by lia)) (by wtm_at "one") (by wtm_at "sel") (E_1_0 ?_)
  rintro t
  refine ⟨_, by wtm_at "app", ?_⟩
  wtm_at "r"
  refine Ex_While (fun k l ℓ => (k = 1 ∧ ℓ = ([("octets", .loc (.bytes xs)), ("i", .loc (.int 1)), ("end", .loc (.int 2)), ("place", .loc (.int (0 + 1))), ("at", .loc (.int 2)), ("column", .loc (.int 0)), ("kind", .unb), ("get_varint", .glob (.ref 101)), ("len", .glob (.bi "len")), ("CorruptError", .glob (.ref 51)), ("value_of", .glob (.ref 129)), ("serial_size", .glob (.ref 122))] : Loc)) ∨ (k = 0 ∧ ℓ = ([("octets", .loc (.bytes xs)), ("i", .loc (.int 1)), ("end", .loc (.int 2)), ("place", .loc (.int (0 + 1 + 1))), ("at", .loc (.int (2 + 1))), ("column", .loc (.int (0 + 1))), ("kind", .loc (.int 1)), ("get_varint", .glob (.ref 101)), ("len", .glob (.bi "len")), ("CorruptError", .glob (.ref 51)), ("value_of", .glob (.ref 129)), ("serial_size", .glob (.ref 122))] : Loc))) 1 (.inl ⟨rfl, rfl⟩) ?_
  rintro k l ℓ (⟨rfl, rfl⟩ | ⟨rfl, rfl⟩)
  · wtm_at "r"
    refine CallV_use (sp_varintb h1 (by decide) (by decide) (by lia)) (by wtm_at "one") (by wtm_at "sel") (E_1_0 ?_)
    rintro t'
    refine ⟨_, by wtm_at "app", ?_⟩
    wtm_at "r"
    refine CallV_one sp_serial_1 (by wtm_at "one") (by wtm_at "sel") (by wtm_at "app") ?_
    wtm_at "r"
    exact ⟨0, by decide, .inr ⟨rfl, rfl⟩⟩
  · wtm_at "r"
    wtm_at "fin"

/-! a ledger forgets and is put in another order -/
noncomputable def Has (l₀ l : Led) : Prop := ∃ r, l.Perm (l₀ ++ r)
theorem Has.refl (l : Led) : Has l l := ⟨[], by rw [List.append_nil]⟩
theorem Has.nil {l : Led} : Has [] l := ⟨l, .refl _⟩
theorem Has.perm {l₀ l : Led} (p : l.Perm l₀) : Has l₀ l := ⟨[], by rw [List.append_nil]; exact p⟩
theorem Has.trans {a b c : Led} (h : Has a b) (k : Has b c) : Has a c := by
  obtain ⟨r, p⟩ := h; obtain ⟨r', q⟩ := k
  exact ⟨r ++ r', by rw [← List.append_assoc]; exact q.trans (p.append_right r')⟩
theorem Has.pick {x : Addr × O} {l₀ l r : Led} (p : Pick x l r) (h : Has l₀ r) : Has (x :: l₀) l := by
  obtain ⟨r', q⟩ := h
  exact ⟨r', p.perm.trans (q.cons x)⟩
theorem Has.skip {x : Addr × O} {l₀ l : Led} (h : Has l₀ l) : Has l₀ (x :: l) := by
  obtain ⟨r, q⟩ := h
  exact ⟨x :: r, (q.cons x).trans List.perm_middle.symm⟩
theorem Pick.of_mem {x : Addr × O} : ∀ {l : Led}, x ∈ l → ∃ r, Pick x l r
  | y :: l, h => by
    rcases List.mem_cons.mp h with rfl | h
    · exact ⟨l, .head⟩
    · obtain ⟨r, p⟩ := Pick.of_mem h; exact ⟨y :: r, .tail p⟩
theorem Sel.of_perm : ∀ {pre l r : Led}, l.Perm (pre ++ r) → ∃ r', Sel pre l r' ∧ r'.Perm r
  | [], l, r, h => ⟨l, .nil, h⟩
  | x :: pre, l, r, h => by
    obtain ⟨l', p⟩ := Pick.of_mem (h.mem_iff.mpr (.head _))
    obtain ⟨r', s, q⟩ := Sel.of_perm (pre := pre) (l := l') (r := r) ((p.perm.symm.trans h).cons_inv)
    exact ⟨r', .cons p s, q⟩
theorem Has.sel {l₀ l : Led} (h : Has l₀ l) : ∃ r, Sel l₀ l r := by
  obtain ⟨r, p⟩ := h
  obtain ⟨r', s, _⟩ := Sel.of_perm p
  exact ⟨r', s⟩
section
variable {α : Type} {u : U} {n : Nat} {f : Fm} {l l₀ : Led} {ℓ : Loc}
theorem RS.has {s : Shared} (r : RS u f l ℓ s) (h : Has l₀ l) : RS u f l₀ ℓ s := by
  obtain ⟨r', p⟩ := h
  have r := r.perm p
  have nd := r.nodup
  rw [List.map_append] at nd
  exact r.sub (List.nodup_append.mp nd).1 fun q hq => List.mem_append_left _ hq
theorem W.has {t : Sem α} {Q : α → Led → Loc → Prop} (h : Has l₀ l) (k : W u n f l₀ ℓ t Q) : W u n f l ℓ t Q := fun hu hf s r => k hu hf s (r.has h)
theorem Tr_has {e : Expr} {P : Bool → Led → Prop} (h : Has l₀ l) (k : Tr u n f l₀ ℓ e P) : Tr u n f l ℓ e P := W.has h k
theorem Exs_has {ss : List Stmt} {R : Fl → Led → Loc → Prop} (h : Has l₀ l) (k : Exs u n f l₀ ℓ ss R) : Exs u n f l ℓ ss R := W.has h k
theorem Asg_has {t : Expr} {v : V} {R : Led → Loc → Prop} (h : Has l₀ l) (k : Asg u n f l₀ ℓ t v R) : Asg u n f l ℓ t v R := fun x r => W.has h (k x r)
theorem Done_has {post : V → Led → Prop} {v : V} (h : Has l₀ l) (k : post v l₀) : Done post (.ret v) l ℓ := by
  obtain ⟨r, s⟩ := h.sel
  exact ⟨l₀, ⟨r, s⟩, k⟩
theorem Done_nxt {post : V → Led → Prop} (h : Has l₀ l) (k : post .none l₀) : Done post .next l ℓ := by
  obtain ⟨r, s⟩ := h.sel
  exact ⟨l₀, ⟨r, s⟩, k⟩
/-- a call; what it has no use for stands ahead of what it leaves -/
theorem CallV_h {k : Nat} {fn : V} {args : List V} {pre : Led} {post : V → Led → Prop} {P : V → Led → Prop} (sp : Spec k fn args pre post) (hk : k ≤ n) (rest : Led) (h : Has (pre ++ rest) l)
    (q : ∀ v l', post v l' → P v (rest ++ l')) : CallV u n f l ℓ fn args P := by
  intro x xs rx rxs hu hf s r
  have r := r.has h
  refine elX1_3 ?_ r.fr; rintro m F _ _
  have kb : ∀ b o, u.base.get? b = some o → s.heap.get? b = some o := fun b o e => F.keep _ _ (hf.keep _ _ e)
  have nd := r.nodup
  rw [List.map_append] at nd
  refine wpX_call (codeX_mono (sp u f.A s x xs hu (hf.room.le hk) rx rxs kb ⟨(List.nodup_append.mp nd).1, fun p hp => ?_⟩) ?_)
  · have q := r.led p (List.mem_append_left _ hp)
    refine ⟨q.1, ?_⟩
    cases hb : u.base.get? p.1 with
    | none => rfl
    | some ob => have := q.2.2; rw [hf.keep _ _ hb] at this; cases this
  · rintro (e | (y | _ | _ | _)) s' z <;> first | exact z.elim | skip
    refine elX2_3 ?_ z; clear z; rintro v l' rv hp a
    exact ⟨_, ℓ, (r.after a).perm List.perm_append_comm, a.same, v, rv, rfl, q v l' hp⟩
end
theorem Spec.mono {k : Nat} {fn : V} {args : List V} {pre : Led} {post post' : V → Led → Prop} (sp : Spec k fn args pre post) (h : ∀ v l, post v l → post' v l) : Spec k fn args pre post' := by
  intro u A s x xs hu hr rx rxs kb pk
  refine codeX_mono (sp u A s x xs hu hr rx rxs kb pk) ?_
  rintro (e | (y | _ | _ | _)) s' z <;> first | exact z.elim | skip
  refine elX2_3 ?_ z; clear z; rintro v l' rv hp a
  exact ⟨v, l', rv, h v l' hp, a⟩
local macro_rules | `(tactic| wtm_at "hs") => tTab "Has.refl _ | Has.nil | Has.pick pick hs | Has.skip hs"

/-! pages as octets -/
noncomputable abbrev Rows := List (Int × Int)
structure Nd (xs : List UInt8) (K B : Int) (n : Nat) : Prop where
  len : xs.length = 64
  kb : (K = 13 ∧ B = 8) ∨ (K = 5 ∧ B = 12)
  few : n ≤ 4
  kind : oc xs 0 K
  c3 : oc xs (0 + 3) 0
  c4 : oc xs (0 + 3 + 1) n
  ptr : ∀ i : Int, 0 ≤ i → i < n → oc xs (B + 2 * i) 0 ∧ oc xs (B + 2 * i + 1) (59 - 5 * i)
structure Lf (xs : List UInt8) (rows : Rows) : Prop where
  nd : Nd xs 13 8 rows.length
  few : rows.length ≤ 3
  cell : ∀ (i : Int) (q : Int × Int), 0 ≤ i → rows[i.toNat]? = some q → oc xs (59 - 5 * i) 3 ∧ oc xs (59 - 5 * i + 1) q.1 ∧ oc xs (59 - 5 * i + 2) 2 ∧ oc xs (59 - 5 * i + 3) 1 ∧ oc xs (59 - 5 * i + 4) q.2
  bnd : ∀ q ∈ rows, 0 ≤ q.1 ∧ q.1 < 128 ∧ 0 ≤ q.2 ∧ q.2 < 128
noncomputable abbrev kids (cs : List (Int × Int)) (r : Int) : List Int := cs.map (·.1) ++ [r]
structure Inn (xs : List UInt8) (cs : List (Int × Int)) (r : Int) : Prop where
  nd : Nd xs 5 12 cs.length
  right : oc xs (0 + 8) 0 ∧ oc xs (0 + 8 + 1) 0 ∧ oc xs (0 + 8 + 2) 0 ∧ oc xs (0 + 8 + 2 + 1) r
  cell : ∀ (i : Int) (q : Int × Int), 0 ≤ i → cs[i.toNat]? = some q → oc xs (59 - 5 * i) 0 ∧ oc xs (59 - 5 * i + 1) 0 ∧ oc xs (59 - 5 * i + 2) 0 ∧ oc xs (59 - 5 * i + 2 + 1) q.1 ∧ oc xs (59 - 5 * i + 4) q.2
  bnd : ∀ q ∈ cs, 0 ≤ q.2 ∧ q.2 < 128
  low : ∀ c ∈ kids cs r, 3 ≤ c

/-! the tree -/
noncomputable def pgAt (pages : List (List UInt8)) (p : Int) (xs : List UInt8) : Prop := 2 ≤ p ∧ pages[(p - 1).toNat]? = some xs
structure InnAt (S : Int → Rows → Prop) (pages : List (List UInt8)) (p : Int) (cs : List (Int × Int)) (r : Int) (rss : List Rows) : Prop where
  pg : ∃ xs, pgAt pages p xs ∧ Inn xs cs r
  len : rss.length = cs.length + 1
  sub : ∀ (i : Nat) c rs, (kids cs r)[i]? = some c → rss[i]? = some rs → S c rs ∧ rs ≠ []
  sep : ∀ (i : Nat) q, cs[i]? = some q → (∀ x ∈ (rss.take (i + 1)).flatten, x.1 ≤ q.2) ∧ ∀ x ∈ (rss.drop (i + 1)).flatten, q.2 < x.1
noncomputable def Sub (pages : List (List UInt8)) : Nat → Int → Rows → Prop
  | 0, p, rows => ∃ xs, pgAt pages p xs ∧ Lf xs rows
  | d + 1, p, rows => ∃ cs r rss, InnAt (Sub pages d) pages p cs r rss ∧ rows = rss.flatten
inductive Ctx (pages : List (List UInt8)) (root : Int) (D : Nat) (R : Rows) : List (Int × Int) → Int → Nat → Rows → Rows → Rows → Prop
  | root : Sub pages D root R → Ctx pages root D R [] root D [] R []
  | down {pre page d b a cs r rss c rs} (i : Nat) : Ctx pages root D R pre page (d + 1) b rss.flatten a → InnAt (Sub pages d) pages page cs r rss → (kids cs r)[i]? = some c → rss[i]? = some rs →
      Ctx pages root D R (pre ++ [(page, (i : Int))]) c d (b ++ (rss.take i).flatten) rs ((rss.drop (i + 1)).flatten ++ a)
noncomputable def Pos (pages : List (List UInt8)) (root : Int) (D : Nat) (R : Rows) (path : List (Int × Int)) (b a : Rows) : Prop :=
  ∃ pre leaf, ∃ i : Nat, ∃ rs b' a', path = pre ++ [(leaf, (i : Int))] ∧ Ctx pages root D R pre leaf 0 b' rs a' ∧ i < rs.length ∧ b = b' ++ rs.take i ∧ a = rs.drop i ++ a'

theorem drop_flat {α : Type} {l : List (List α)} {i : Nat} {x : List α} (h : l[i]? = some x) : (l.drop i).flatten = x ++ (l.drop (i + 1)).flatten := by
  obtain ⟨hi, rfl⟩ := List.getElem?_eq_some_iff.mp h
  rw [List.drop_eq_getElem_cons hi]; rfl
theorem take_drop_mid {α : Type} {l : List (List α)} {i : Nat} {x : List α} (h : l[i]? = some x) : (l.take i).flatten ++ (x ++ (l.drop (i + 1)).flatten) = l.flatten := by
  rw [← drop_flat h, ← List.flatten_append, List.take_append_drop]
theorem take_succ_flat {α : Type} {l : List (List α)} {i : Nat} {x : List α} (h : l[i]? = some x) : (l.take (i + 1)).flatten = (l.take i).flatten ++ x := by
  rw [List.take_add_one, h]; simp

section
variable {pages : List (List UInt8)} {root : Int} {D : Nat} {R : Rows}
theorem InnAt.row {S : Int → Rows → Prop} {p r : Int} {cs : List (Int × Int)} {rss : List Rows} (h : InnAt S pages p cs r rss) {i : Nat} {c : Int} (hc : (kids cs r)[i]? = some c) :
    ∃ rs, rss[i]? = some rs ∧ S c rs ∧ rs ≠ [] := by
  have hl : i < rss.length := by
    obtain ⟨hi, _⟩ := List.getElem?_eq_some_iff.mp hc
    rw [h.len]; simpa using hi
  exact ⟨rss[i], List.getElem?_eq_getElem hl, h.sub i c _ hc (List.getElem?_eq_getElem hl)⟩
theorem InnAt.kid {S : Int → Rows → Prop} {p r : Int} {cs : List (Int × Int)} {rss : List Rows} (h : InnAt S pages p cs r rss) {i : Nat} (hi : i ≤ cs.length) :
    ∃ c rs, (kids cs r)[i]? = some c ∧ rss[i]? = some rs ∧ S c rs ∧ rs ≠ [] := by
  have hc : (kids cs r)[i]? = some ((kids cs r)[i]'(by simp; lia)) := List.getElem?_eq_getElem _
  refine elX1_3 ?_ (h.row hc); rintro rs h1 h2 h3
  exact ⟨_, rs, hc, h1, h2, h3⟩
theorem Ctx.sub {pre page d b rs a} (h : Ctx pages root D R pre page d b rs a) : Sub pages d page rs := by
  induction h with
  | root h => exact h
  | down i _ hI hc hr _ => exact (hI.sub i _ _ hc hr).1
theorem Ctx.all {pre page d b rs a} (h : Ctx pages root D R pre page d b rs a) : b ++ (rs ++ a) = R := by
  induction h with
  | root h => simp
  | @down pre page d b a cs r rss c rs i _ hI hc hr ih =>
    rw [← ih, ← take_drop_mid hr]; simp
theorem Ctx.ne {pre page d b rs a} (h : Ctx pages root D R pre page d b rs a) : pre ≠ [] → rs ≠ [] := by
  cases h with
  | root h => exact fun h => absurd rfl h
  | down i _ hI hc hr => exact fun _ => (hI.sub i _ _ hc hr).2
theorem Ctx.deep {pre page d b rs a} (h : Ctx pages root D R pre page d b rs a) : pre.length + d = D := by
  induction h with
  | root h => simp
  | down i _ hI hc hr ih => simp; lia
theorem Ctx.up {q p i} : ∀ {pre page d b rs a}, pre = q ++ [(p, i)] → Ctx pages root D R pre page d b rs a →
    ∃ (j : Nat) (b₀ a₀ : Rows) (cs : List (Int × Int)) (r : Int) (rss : List Rows), i = (j : Int) ∧ Ctx pages root D R q p (d + 1) b₀ rss.flatten a₀ ∧ InnAt (Sub pages d) pages p cs r rss ∧ (kids cs r)[j]? = some page ∧ rss[j]? = some rs ∧
      b = b₀ ++ (rss.take j).flatten ∧ a = (rss.drop (j + 1)).flatten ++ a₀ := by
  intro pre page d b rs a e h
  cases h with
  | root h => simp at e
  | @down pre page d b a cs r rss c rs j hC hI hc hr =>
    obtain ⟨e1, e2⟩ := List.append_inj' e rfl
    have e3 := (List.cons.inj e2).1
    obtain ⟨rfl, rfl⟩ := Prod.mk.inj e3
    subst e1
    exact ⟨j, b, a, cs, r, rss, rfl, hC, hI, hc, hr, rfl, rfl⟩
theorem Ctx.top {page d b rs a} (h : Ctx pages root D R [] page d b rs a) : b = [] ∧ a = [] := by
  generalize e : ([] : List (Int × Int)) = pre at h
  cases h with
  | root h => exact ⟨rfl, rfl⟩
  | down => simp at e
theorem Pos.all {path b a} (h : Pos pages root D R path b a) : b ++ a = R := by
  refine elE6 ?_ h; clear h; rintro pre leaf i rs b' a'; refine elA5 ?_; rintro rfl hC hi rfl rfl
  rw [← hC.all]
  conv => rhs; rw [← List.take_append_drop i rs]
  simp only [List.append_assoc]
end

/-! a page that is read -/
structure Rec (loc : List UInt8) (v : Int) : Prop where
  len : loc.length = 3
  o0 : oc loc 0 2
  o1 : oc loc (0 + 1) 1
  o2 : oc loc 2 v
  small : v < 128
section
variable {u : U} {n : Nat} {f : Fm} {l : Led} {ℓ : Loc} {P : V → Led → Prop} {i v : Int}
theorem Itm_oc {a : Addr} {bs : List UInt8} (ha : (a, O.ba bs) ∈ l) (h0 : 0 ≤ i) (h1 : i < 2 ^ 63) (hx : oc bs i v) (h : P (.int v) l) : ItmV u n f l ℓ (.ref a) (.int i) P := by
  obtain ⟨x, hx, rfl⟩ := hx
  exact Itm_ba ha h0 h1 hx h
end
local macro_rules | `(tactic| wtm_at "s") => tTab "ItmV 8: Itm_oc lk 'ar 'ar as _"
theorem sp_two {a : Addr} {xs : List UInt8} {i p q : Int} (hx : oc xs i p) (hy : oc xs (i + 1) q) (h0 : 0 ≤ i) (h1 : i + 1 < 2 ^ 63) :
    Spec 1 (.ref 158) [.ref a, .int i] [(a, .ba xs)] fun v l => v = .int (p * 256 + q) ∧ l = [(a, .ba xs)] := by
  obtain ⟨x, hx, rfl⟩ := hx
  obtain ⟨y, hy, rfl⟩ := hy
  exact sp_two_at h0 h1 hx hy
theorem u8_zero {x : UInt8} (h : (x.toNat : Int) = 0) : x = 0 := by
  apply UInt8.toNat_inj.mp
  show x.toNat = 0
  lia
theorem sp_four {a : Addr} {xs : List UInt8} {i v : Int} (h2 : oc xs i 0) (h3 : oc xs (i + 1) 0) (h4 : oc xs (i + 2) 0) (h5 : oc xs (i + 2 + 1) v) (h0 : 0 ≤ i) (h1 : i + 4 < 2 ^ 63) :
    Spec 2 (.ref 165) [.ref a, .int i] [(a, .ba xs)] fun w l => w = .int v ∧ l = [(a, .ba xs)] := by
  obtain ⟨x2, g2, e2⟩ := h2
  obtain ⟨x3, g3, e3⟩ := h3
  obtain ⟨x4, g4, e4⟩ := h4
  obtain ⟨x5, g5, rfl⟩ := h5
  rw [u8_zero e2] at g2
  rw [u8_zero e3] at g3
  rw [u8_zero e4] at g4
  exact sp_four_at h0 h1 g2 g3 g4 g5
local macro_rules | `(tactic| wtm_at "call") => tCall "sp_two as as ar ar"
local macro_rules | `(tactic| wtm_at "call") => tCall "sp_four as as as as ar ar"
theorem sp_kind {nv nd ba : Addr} {pg K B : Int} {xs : List UInt8} {m : Nat} (h : Nd xs K B m) : Spec 1 (.ref 284) [.ref nv] [(nv, O.inst 397 nd), (nd, O.ns [("data", .ref ba), ("page", .int pg), ("usable", .int 64), ("base", .int 0)]), (ba, O.ba xs)] fun v l => v = .int K ∧ l = [(nv, O.inst 397 nd), (nd, O.ns [("data", .ref ba), ("page", .int pg), ("usable", .int 64), ("base", .int 0)]), (ba, O.ba xs)] := by
  obtain ⟨len, kb, few, kind, c3, c4, ptr⟩ := h
  refine Spec_defR (ps := ["self"]) (ℓ₀ := [("self", .loc (.ref nv)), ("kind", .unb), ("KINDS", .glob (.ref 151)), ("CorruptError", .glob (.ref 51))]) (by intro P; k_is) (by intro P; k_is) (reps1 (by intros; rfl)) (by intro P; kernel_rfl!) (by intro P; kernel_rfl!) (fun u f FR hPo => ?_) (by rfl) (by rfl) (by rfl)

  rcases kb with ⟨rfl, rfl⟩ | ⟨rfl, rfl⟩
  · wtm_at "r"
    refine (Eq.symm (show ([2, 5, 10, 13] : List Int).contains 13 = true from rfl)) ▸ ?_
    wtm_at "r"
    wtm_at "fin"
  · wtm_at "r"
    refine (Eq.symm (show ([2, 5, 10, 13] : List Int).contains 5 = true from rfl)) ▸ ?_
    wtm_at "r"
    wtm_at "fin"
local macro_rules | `(tactic| wtm_at "call") => tCall "sp_kind as"
theorem sp_count {nv nd ba : Addr} {pg K B : Int} {xs : List UInt8} {m : Nat} (h : Nd xs K B m) : Spec 2 (.ref 305) [.ref nv] [(nv, O.inst 397 nd), (nd, O.ns [("data", .ref ba), ("page", .int pg), ("usable", .int 64), ("base", .int 0)]), (ba, O.ba xs)] fun v l => v = .int m ∧ l = [(nv, O.inst 397 nd), (nd, O.ns [("data", .ref ba), ("page", .int pg), ("usable", .int 64), ("base", .int 0)]), (ba, O.ba xs)] := by
  obtain ⟨len, kb, few, kind, c3, c4, ptr⟩ := h
  refine Spec_defR (ps := ["self"]) (ℓ₀ := [("self", .loc (.ref nv)), ("two_at", .glob (.ref 158))]) (by intro P; k_is) (by intro P; k_is) (reps1 (by intros; rfl)) (by intro P; kernel_rfl!) (by intro P; kernel_rfl!) (fun u f FR hPo => ?_) (by rfl) (by rfl) (by rfl)

  wtm_at "r"
  wtm_at "call"
  wtm_at "r"
  wtm_at "fin"
local macro_rules | `(tactic| wtm_at "call") => tCall "sp_count as"
theorem sp_pointers {nv nd ba : Addr} {pg K B : Int} {xs : List UInt8} {m : Nat} (h : Nd xs K B m) : Spec 1 (.ref 312) [.ref nv] [(nv, O.inst 397 nd), (nd, O.ns [("data", .ref ba), ("page", .int pg), ("usable", .int 64), ("base", .int 0)]), (ba, O.ba xs)] fun v l => v = .int B ∧ l = [(nv, O.inst 397 nd), (nd, O.ns [("data", .ref ba), ("page", .int pg), ("usable", .int 64), ("base", .int 0)]), (ba, O.ba xs)] := by
  obtain ⟨len, kb, few, kind, c3, c4, ptr⟩ := h
  refine Spec_defR (ps := ["self"]) (ℓ₀ := [("self", .loc (.ref nv)), ("INNER_ROWS", .glob (.int 5))]) (by intro P; k_is) (by intro P; k_is) (reps1 (by intros; rfl)) (by intro P; kernel_rfl!) (by intro P; kernel_rfl!) (fun u f FR hPo => ?_) (by rfl) (by rfl) (by rfl)

  rcases kb with ⟨rfl, rfl⟩ | ⟨rfl, rfl⟩
  all_goals
    wtm_at "r"
    wtm_at "fin"
local macro_rules | `(tactic| wtm_at "call") => tCall "sp_pointers as"
theorem sp_right {nv nd ba : Addr} {pg r : Int} {xs : List UInt8} {cs : List (Int × Int)} (h : Inn xs cs r) : Spec 3 (.ref 333) [.ref nv] [(nv, O.inst 397 nd), (nd, O.ns [("data", .ref ba), ("page", .int pg), ("usable", .int 64), ("base", .int 0)]), (ba, O.ba xs)] fun v l => v = .int r ∧ l = [(nv, O.inst 397 nd), (nd, O.ns [("data", .ref ba), ("page", .int pg), ("usable", .int 64), ("base", .int 0)]), (ba, O.ba xs)] := by
  obtain ⟨_, ⟨r1, r2, r3, r4⟩, _, _, _⟩ := h
  refine Spec_defR (ps := ["self"]) (ℓ₀ := [("self", .loc (.ref nv)), ("four_at", .glob (.ref 165))]) (by intro P; k_is) (by intro P; k_is) (reps1 (by intros; rfl)) (by intro P; kernel_rfl!) (by intro P; kernel_rfl!) (fun u f FR hPo => ?_) (by rfl) (by rfl) (by rfl)

  wtm_at "r"
  wtm_at "call"
  wtm_at "r"
  wtm_at "fin"
local macro_rules | `(tactic| wtm_at "call") => tCall "sp_right as"
theorem sp_place {nv nd ba : Addr} {pg K B i : Int} {xs : List UInt8} {m : Nat} (h : Nd xs K B m) (h0 : 0 ≤ i) (h1 : i < m) : Spec 3 (.ref 347) [.ref nv, .int i] [(nv, O.inst 397 nd), (nd, O.ns [("data", .ref ba), ("page", .int pg), ("usable", .int 64), ("base", .int 0)]), (ba, O.ba xs)] fun v l => v = .int (59 - 5 * i) ∧ l = [(nv, O.inst 397 nd), (nd, O.ns [("data", .ref ba), ("page", .int pg), ("usable", .int 64), ("base", .int 0)]), (ba, O.ba xs)] := by
  obtain ⟨q1, q2⟩ := h.ptr i h0 h1
  have kb := h.kb
  have few := h.few
  refine Spec_defR (ps := ["self", "i"]) (ℓ₀ := [("self", .loc (.ref nv)), ("i", .loc (.int i)), ("first", .unb), ("at", .unb), ("CorruptError", .glob (.ref 51)), ("two_at", .glob (.ref 158)), ("LEAST_CELL", .glob (.int 4))]) (by intro P; k_is) (by intro P; k_is) (reps2 (by intros; rfl)) (by intro P; kernel_rfl!) (by intro P; kernel_rfl!) (fun u f FR hPo => ?_) (by rfl) (by rfl) (by rfl)

  wtm_at "r"
  wtm_at "call"
  wtm_at "r"
  wtm_at "call"
  wtm_at "r"
  wtm_at "call"
  wtm_at "r"
  wtm_at "call"
  wtm_at "r"
  wtm_at "fin"
local macro_rules | `(tactic| wtm_at "call") => tCall "sp_place as ar ar"
/-! cells -/
section
variable {u : U} {n : Nat} {f : Fm} {l : Led} {ℓ : Loc} {P : V → Led → Prop}
theorem Itm_ba_sliceT {a c : Addr} {bs : List UInt8} {lo hi : Option Int} (ha : (a, O.ba bs) ∈ l) (hz : bs.length ≤ 10000) (h : ∀ d, P (.ref d) ((d, .ba (cut bs lo hi)) :: l)) : ItmS u n f ((c, .slice lo hi) :: l) ℓ (.ref a) (.ref c) P := Itm_ba_slice (l' := []) ha hz h
end
local macro_rules | `(tactic| wtm_at "s") => tTab "ItmS 8: Itm_ba_sliceT lk sz _ | Itm_list_slice lk sz _ | Itm_bytes_slice sz _"
theorem sp_max_local : Spec 1 (.ref 207) [.int 13, .int 64] [] fun v l => v = .int 29 ∧ l = [] := by
  refine Spec_defR (ps := ["kind", "usable"]) (ℓ₀ := [("kind", .loc (.int 13)), ("usable", .loc (.int 64)), ("LEAF_ROWS", .glob (.int 13)), ("max", .glob (.bi "max"))]) (by intro P; k_is) (by intro P; k_is) (reps2 (by intros; rfl)) (by intro P; kernel_rfl!) (by intro P; kernel_rfl!) (fun u f FR hPo => ?_) (by rfl) (by rfl) (by rfl)

  wtm_at "r"
  wtm_at "fin"
theorem sp_local_size : Spec 2 (.ref 221) [.int 13, .int 64, .int 3] [] fun v l => v = .int 3 ∧ l = [] := by
  refine Spec_defR (ps := ["kind", "usable", "size"]) (ℓ₀ := [("kind", .loc (.int 13)), ("usable", .loc (.int 64)), ("size", .loc (.int 3)), ("most", .unb), ("least", .unb), ("surplus", .unb), ("max_local", .glob (.ref 207)), ("min_local", .glob (.ref 214))]) (by intro P; k_is) (by intro P; k_is) (reps3 (by intros; rfl)) (by intro P; kernel_rfl!) (by intro P; kernel_rfl!) (fun u f FR hPo => ?_) (by rfl) (by rfl) (by rfl)

  wtm_at "r"
  refine CallV_one sp_max_local (by wtm_at "one") (by wtm_at "sel") (by wtm_at "app") ?_
  wtm_at "r"
  wtm_at "fin"
theorem sp_Cell {k : Int} {loc : List UInt8} : Spec 2 (.ref 252) [.int 0, .int k, .int 3, .bytes loc, .int 0] [] fun v l => ∃ ce ed, v = .ref ce ∧ l = [(ce, O.inst 252 ed), (ed, O.ns [("child", .int 0), ("rowid", .int k), ("size", .int 3), ("local", .bytes loc), ("overflow", .int 0)])] := by
  refine Spec_cls ct_252 fun a d => ?_
  refine Spec_defR (ps := ["self", "child", "rowid", "size", "local", "overflow"]) (ℓ₀ := [("self", .loc (.ref a)), ("child", .loc (.int 0)), ("rowid", .loc (.int k)), ("size", .loc (.int 3)), ("local", .loc (.bytes loc)), ("overflow", .loc (.int 0))]) (by intro P; k_is) (by intro P; k_is) (reps6 (by intros; rfl)) (by intro P; kernel_rfl!) (by intro P; kernel_rfl!) (fun u f FR hPo => ?_) (by rfl) (by rfl) (by rfl)

  wtm_at "r"
  exact hPo <| Done_nxt (Has.refl _) ⟨rfl, a, d, rfl, rfl⟩
theorem clip_cast {n k : Nat} : (max 0 (min (k : Int) (n : Int))).toNat = min k n := by
  rw [Int.max_eq_right (by rw [Int.le_min]; exact ⟨Int.natCast_nonneg _, Int.natCast_nonneg _⟩)]
  rcases Nat.le_total k n with h | h
  · rw [Nat.min_eq_left h, Int.min_eq_left (Int.ofNat_le.mpr h), Int.toNat_natCast]
  · rw [Nat.min_eq_right h, Int.min_eq_right (Int.ofNat_le.mpr h), Int.toNat_natCast]
theorem cut_mid {α : Type} (xs : List α) {a e : Nat} (ha : a ≤ e) (he : e ≤ xs.length) : cut xs (some (a : Int)) (some (e : Int)) = (xs.drop a).take (e - a) := by
  unfold cut
  simp only [Option.elim, clipAt_nat]
  rw [Nat.min_eq_left he, Nat.min_eq_left (Nat.le_trans ha he)]
theorem cut3 {xs : List UInt8} {i v : Int} (h2 : oc xs (i + 2) 2) (h3 : oc xs (i + 3) 1) (h4 : oc xs (i + 4) v) (h0 : 0 ≤ i) (hv : v < 128) : Rec (cut xs (some (i + 1 + 1)) (some (i + 1 + 1 + 3))) v := by
  obtain ⟨k, rfl⟩ := Int.eq_ofNat_of_zero_le h0
  have q := h4.lt (by lia)
  have e : cut xs (some ((k : Int) + 1 + 1)) (some ((k : Int) + 1 + 1 + 3)) = (xs.drop (k + 2)).take 3 := by
    refine (cut_mid xs (a := k + 2) (e := k + 5) (Nat.add_le_add_left (by decide) k) (by lia)).trans ?_
    rw [Nat.add_sub_add_left]
  rw [e]
  have g : ∀ j : Nat, j < 3 → ((xs.drop (k + 2)).take 3)[j]? = xs[k + 2 + j]? := fun j hj => by rw [List.getElem?_take_of_lt hj, List.getElem?_drop]
  refine ⟨by rw [List.length_take, List.length_drop]; exact Nat.min_eq_left (Nat.le_sub_of_add_le (by rw [Nat.add_comm]; exact Int.ofNat_lt.mp q)), ?_, ?_, ?_, hv⟩
  · obtain ⟨x, hx, e⟩ := h2
    exact ⟨x, by rw [show (0 : Int).toNat = 0 from rfl, g 0 (by decide)]; rw [show ((k : Int) + 2).toNat = k + 2 + 0 from rfl] at hx; exact hx, e⟩
  · obtain ⟨x, hx, e⟩ := h3
    exact ⟨x, by rw [show (0 + 1 : Int).toNat = 1 from rfl, g 1 (by decide)]; rw [show ((k : Int) + 3).toNat = k + 2 + 1 from rfl] at hx; exact hx, e⟩
  · obtain ⟨x, hx, e⟩ := h4
    exact ⟨x, by rw [show (2 : Int).toNat = 2 from rfl, g 2 (by decide)]; rw [show ((k : Int) + 4).toNat = k + 2 + 2 from rfl] at hx; exact hx, e⟩
local macro_rules | `(tactic| wtm_at "call") => tCall "sp_signed ar"
theorem sp_read_cell {ba : Addr} {xs : List UInt8} {i k v : Int} (h0 : oc xs i 3) (h1 : oc xs (i + 1) k) (h2 : oc xs (i + 2) 2) (h3 : oc xs (i + 3) 1) (h4 : oc xs (i + 4) v) (hi : 0 ≤ i) (hl : xs.length = 64) (hk : k < 128) (hv : v < 128) :
    Spec 3 (.ref 263) [.ref ba, .int i, .int 13, .int 64] [(ba, .ba xs)] fun w l => ∃ t ce ed loc, Rec loc v ∧ w = .ref t ∧ l = [(t, .tup [.ref ce, .int (i + 1 + 1 + 3)]), (ce, O.inst 252 ed), (ed, O.ns [("child", .int 0), ("rowid", .int k), ("size", .int 3), ("local", .bytes loc), ("overflow", .int 0)]), (ba, .ba xs)] := by
  have hlt := h4.lt (by lia)
  have R := cut3 h2 h3 h4 hi hv
  have hlc := R.len
  refine Spec_defR (ps := ["octets", "at", "kind", "usable"]) (ℓ₀ := [("octets", .loc (.ref ba)), ("at", .loc (.int i)), ("kind", .loc (.int 13)), ("usable", .loc (.int 64)), ("child", .unb), ("rowid", .unb), ("overflow", .unb), ("number", .unb), ("size", .unb), ("many", .unb), ("local", .unb), ("is_leaf", .glob (.ref 193)), ("len", .glob (.bi "len")), ("CorruptError", .glob (.ref 51)), ("four_at", .glob (.ref 165)), ("INNER_ROWS", .glob (.int 5)), ("get_varint", .glob (.ref 101)), ("Cell", .glob (.ref 252)), ("signed", .glob (.ref 108)), ("LEAF_ROWS", .glob (.int 13)), ("local_size", .glob (.ref 221)), ("bytes", .glob (.ty "bytes"))]) (by intro P; k_is) (by intro P; k_is) (reps4 (by intros; rfl)) (by intro P; kernel_rfl!) (by intro P; kernel_rfl!) (fun u f FR hPo => ?_) (by rfl) (by rfl) (by rfl)

  wtm_at "r"
  wtm_at "call"
  wtm_at "r"
  refine CallV_use (sp_varint h0 hi (by decide) (by lia)) (by wtm_at "one") (by wtm_at "sel") (E_1_0 ?_)
  rintro t1
  refine ⟨_, by wtm_at "app", ?_⟩
  wtm_at "r"
  refine CallV_use (sp_varint h1 (by lia) hk (by lia)) (by wtm_at "one") (by wtm_at "sel") (E_1_0 ?_)
  rintro t2
  refine ⟨_, by wtm_at "app", ?_⟩
  wtm_at "r"
  wtm_at "call"
  wtm_at "r"
  refine CallV_one sp_local_size (by wtm_at "one") (by wtm_at "sel") (by wtm_at "app") ?_
  wtm_at "r"
  intro c
  wtm_at "r"
  intro d
  wtm_at "r"
  refine Call_bytes_ba (by wtm_at "lk") (by rw [R.len]; decide) ?_
  wtm_at "r"
  refine CallV_use sp_Cell (by wtm_at "one") (by wtm_at "sel") (E_2_0 ?_)
  rintro ce ed
  refine ⟨_, by wtm_at "app", ?_⟩
  wtm_at "r"
  intro t
  wtm_at "r"
  exact hPo <| Done_has (by wtm_at "hs") ⟨t, ce, ed, _, R, rfl, rfl⟩
theorem sp_cell {nv nd ba : Addr} {pg i : Int} {xs : List UInt8} {rows : Rows} {q : Int × Int} (h : Lf xs rows) (h0 : 0 ≤ i) (hq : rows[i.toNat]? = some q) :
    Spec 4 (.ref 354) [.ref nv, .int i] [(nv, O.inst 397 nd), (nd, O.ns [("data", .ref ba), ("page", .int pg), ("usable", .int 64), ("base", .int 0)]), (ba, O.ba xs)] fun w l => ∃ ce ed loc, Rec loc q.2 ∧ w = .ref ce ∧ l = [(ce, O.inst 252 ed), (ed, O.ns [("child", .int 0), ("rowid", .int q.1), ("size", .int 3), ("local", .bytes loc), ("overflow", .int 0)]), (nv, O.inst 397 nd), (nd, O.ns [("data", .ref ba), ("page", .int pg), ("usable", .int 64), ("base", .int 0)]), (ba, O.ba xs)] := by
  have hi : i < rows.length := by
    obtain ⟨z, _⟩ := List.getElem?_eq_some_iff.mp hq
    lia
  have few := h.few
  have N := h.nd
  refine elA5 ?_ (h.cell i q h0 hq); rintro c0 c1 c2 c3 c4
  refine elA4 ?_ (h.bnd q (List.mem_of_getElem? hq)); rintro b0 b1 b2 b3
  refine Spec_defR (ps := ["self", "i"]) (ℓ₀ := [("self", .loc (.ref nv)), ("i", .loc (.int i)), ("cell", .unb), ("end", .unb), ("read_cell", .glob (.ref 263))]) (by intro P; k_is) (by intro P; k_is) (reps2 (by intros; rfl)) (by intro P; kernel_rfl!) (by intro P; kernel_rfl!) (fun u f FR hPo => ?_) (by rfl) (by rfl) (by rfl)

  wtm_at "r"
  wtm_at "call"
  wtm_at "r"
  wtm_at "call"
  wtm_at "r"
  refine CallV_use (sp_read_cell c0 c1 c2 c3 c4 (by lia) N.len b1 b3) (by wtm_at "one") (by wtm_at "sel") ?_
  rintro _ _; refine elX4_3 ?_; rintro t ce ed loc R rfl rfl
  refine ⟨_, by wtm_at "app", ?_⟩
  wtm_at "r"
  exact hPo <| Done_has (by wtm_at "hs") ⟨ce, ed, loc, R, rfl, rfl⟩
theorem sp_rowid_leaf {nv nd ba : Addr} {pg i : Int} {xs : List UInt8} {rows : Rows} {q : Int × Int} (h : Lf xs rows) (h0 : 0 ≤ i) (hq : rows[i.toNat]? = some q) :
    Spec 4 (.ref 373) [.ref nv, .int i] [(nv, O.inst 397 nd), (nd, O.ns [("data", .ref ba), ("page", .int pg), ("usable", .int 64), ("base", .int 0)]), (ba, O.ba xs)] fun w l => w = .int q.1 ∧ l = [(nv, O.inst 397 nd), (nd, O.ns [("data", .ref ba), ("page", .int pg), ("usable", .int 64), ("base", .int 0)]), (ba, O.ba xs)] := by
  have hi : i < rows.length := by
    obtain ⟨z, _⟩ := List.getElem?_eq_some_iff.mp hq
    lia
  have few := h.few
  have N := h.nd
  refine elA5 ?_ (h.cell i q h0 hq); rintro c0 c1 _ _ _
  refine elA4 ?_ (h.bnd q (List.mem_of_getElem? hq)); rintro b0 b1 b2 b3
  refine Spec_defR (ps := ["self", "i"]) (ℓ₀ := [("self", .loc (.ref nv)), ("i", .loc (.int i)), ("at", .unb), ("number", .unb), ("size", .unb), ("INNER_ROWS", .glob (.int 5)), ("get_varint", .glob (.ref 101)), ("signed", .glob (.ref 108))]) (by intro P; k_is) (by intro P; k_is) (reps2 (by intros; rfl)) (by intro P; kernel_rfl!) (by intro P; kernel_rfl!) (fun u f FR hPo => ?_) (by rfl) (by rfl) (by rfl)

  wtm_at "r"
  wtm_at "call"
  wtm_at "r"
  wtm_at "call"
  wtm_at "r"
  refine CallV_use (sp_varint c0 (by lia) (by decide) (by rw [N.len]; decide)) (by wtm_at "one") (by wtm_at "sel") (E_1_0 ?_)
  rintro t1
  refine ⟨_, by wtm_at "app", ?_⟩
  wtm_at "r"
  refine CallV_use (sp_varint c1 (by lia) b1 (by rw [N.len]; decide)) (by wtm_at "one") (by wtm_at "sel") (E_1_0 ?_)
  rintro t2
  refine ⟨_, by wtm_at "app", ?_⟩
  wtm_at "r"
  wtm_at "call"
  wtm_at "r"
  exact hPo <| Done_has (by wtm_at "hs") ⟨rfl, rfl⟩
theorem sp_rowid_inner {nv nd ba : Addr} {pg i r : Int} {xs : List UInt8} {cs : List (Int × Int)} {q : Int × Int} (h : Inn xs cs r) (h0 : 0 ≤ i) (hq : cs[i.toNat]? = some q) :
    Spec 4 (.ref 373) [.ref nv, .int i] [(nv, O.inst 397 nd), (nd, O.ns [("data", .ref ba), ("page", .int pg), ("usable", .int 64), ("base", .int 0)]), (ba, O.ba xs)] fun w l => w = .int q.2 ∧ l = [(nv, O.inst 397 nd), (nd, O.ns [("data", .ref ba), ("page", .int pg), ("usable", .int 64), ("base", .int 0)]), (ba, O.ba xs)] := by
  have hi : i < cs.length := by
    obtain ⟨z, _⟩ := List.getElem?_eq_some_iff.mp hq
    lia
  have N := h.nd
  have few := N.few
  refine elA5 ?_ (h.cell i q h0 hq); rintro _ _ _ _ c4
  obtain ⟨b0, b1⟩ := h.bnd q (List.mem_of_getElem? hq)
  refine Spec_defR (ps := ["self", "i"]) (ℓ₀ := [("self", .loc (.ref nv)), ("i", .loc (.int i)), ("at", .unb), ("number", .unb), ("size", .unb), ("INNER_ROWS", .glob (.int 5)), ("get_varint", .glob (.ref 101)), ("signed", .glob (.ref 108))]) (by intro P; k_is) (by intro P; k_is) (reps2 (by intros; rfl)) (by intro P; kernel_rfl!) (by intro P; kernel_rfl!) (fun u f FR hPo => ?_) (by rfl) (by rfl) (by rfl)

  wtm_at "r"
  wtm_at "call"
  wtm_at "r"
  wtm_at "call"
  wtm_at "r"
  refine CallV_use (sp_varint c4 (by lia) b1 (by rw [N.len]; decide)) (by wtm_at "one") (by wtm_at "sel") (E_1_0 ?_)
  rintro t1
  refine ⟨_, by wtm_at "app", ?_⟩
  wtm_at "r"
  wtm_at "call"
  wtm_at "r"
  exact hPo <| Done_has (by wtm_at "hs") ⟨rfl, rfl⟩
theorem sp_child {nv nd ba : Addr} {pg i r c : Int} {xs : List UInt8} {cs : List (Int × Int)} (h : Inn xs cs r) (h0 : 0 ≤ i) (hq : (kids cs r)[i.toNat]? = some c) :
    Spec 4 (.ref 380) [.ref nv, .int i] [(nv, O.inst 397 nd), (nd, O.ns [("data", .ref ba), ("page", .int pg), ("usable", .int 64), ("base", .int 0)]), (ba, O.ba xs)] fun w l => w = .int c ∧ l = [(nv, O.inst 397 nd), (nd, O.ns [("data", .ref ba), ("page", .int pg), ("usable", .int 64), ("base", .int 0)]), (ba, O.ba xs)] := by
  have N := h.nd
  have few := N.few
  have hl : i.toNat < (kids cs r).length := (List.getElem?_eq_some_iff.mp hq).1
  simp only [List.length_append, List.length_map, List.length_singleton] at hl
  refine Spec_defR (ps := ["self", "i"]) (ℓ₀ := [("self", .loc (.ref nv)), ("i", .loc (.int i)), ("four_at", .glob (.ref 165))]) (by intro P; k_is) (by intro P; k_is) (reps2 (by intros; rfl)) (by intro P; kernel_rfl!) (by intro P; kernel_rfl!) (fun u f FR hPo => ?_) (by rfl) (by rfl) (by rfl)

  wtm_at "r"
  wtm_at "call"
  wtm_at "r"
  refine Br_dec (fun hi => ?_) (fun hi => ?_)
  · have e : c = r := by
      subst hi
      rw [Int.toNat_natCast, List.getElem?_append_right (by simp)] at hq
      simpa using hq.symm
    subst e
    wtm_at "r"
    wtm_at "call"
    wtm_at "r"
    wtm_at "fin"
  · obtain ⟨p, hp⟩ : ∃ p, cs[i.toNat]? = some p := ⟨_, List.getElem?_eq_getElem (by lia)⟩
    have e : c = p.1 := by
      rw [List.getElem?_append_left (by simp; lia), List.getElem?_map, hp] at hq
      simpa using hq.symm
    subst e
    refine elA5 ?_ (h.cell i p h0 hp); rintro c0 c1 c2 c3 _
    wtm_at "r"
    wtm_at "call"
    wtm_at "r"
    wtm_at "call"
    wtm_at "r"
    wtm_at "fin"

/-! a node is loaded -/
noncomputable def Lo (sl : Sl) : Prop := sl = .unb ∨ ∃ v, sl = .loc v
theorem Put_var {x : Str} {v : V} {sl : Sl} {r : Loc} (h : Lo sl) : Put x v ((x, sl) :: r) ((x, .loc v) :: r) := by
  rcases h with rfl | ⟨w, rfl⟩
  · exact .unb
  · exact .loc
theorem Lo.loc {v : V} : Lo (.loc v) := .inr ⟨v, rfl⟩
theorem Lo.unb : Lo .unb := .inl rfl
local macro_rules | `(tactic| wtm_at "putv") => tTab "Put_var as | Put.tail putv"
local macro_rules | `(tactic| wtm_at "put") => tTab "putu_0 | putl_0 | putu_1 | putl_1 | putu_2 | putl_2 | putu_3 | putl_3 | putu_4 | putl_4 | putu_5 | putl_5 | putu_6 | putl_6 | putu_7 | putl_7 | putu_8 | putl_8 | putu_9 | putl_9 | putu_10 | putl_10 | putu_11 | putl_11 | putu_12 | putl_12 | putu_13 | putl_13 | @putv"
local macro_rules | `(tactic| wtm_at "lo") => tTab "Lo.loc | Lo.unb | @as"
theorem sp_read_page {st sd pl sp : Addr} {pages : List (List UInt8)} {p : Int} {xs : List UInt8} (h : pgAt pages p xs) (hz : pages.length ≤ 10000) :
    Spec 1 (.ref 733) [.ref st, .int p] [(st, O.inst 764 sd), (sd, O.ns [("page_size", .int 64), ("pages", .ref pl), ("spare", .ref sp)]), (pl, O.list (pages.map .bytes))] fun v l => v = .bytes xs ∧ l = [(st, O.inst 764 sd), (sd, O.ns [("page_size", .int 64), ("pages", .ref pl), ("spare", .ref sp)]), (pl, O.list (pages.map .bytes))] := by
  obtain ⟨h1, h2⟩ := h
  have h3 := (List.getElem?_eq_some_iff.mp h2).1
  have hl : (pages.map V.bytes).length = pages.length := List.length_map ..
  have hv : (pages.map V.bytes)[(p - 1).toNat]? = some (.bytes xs) := by rw [List.getElem?_map, h2]; rfl
  have hlt : p - 1 < pages.length := (Int.toNat_lt (Int.sub_nonneg_of_le (Int.le_trans (by decide) h1))).mp h3
  have h63 : p - 1 < 2 ^ 63 := Int.lt_trans hlt (Int.lt_of_le_of_lt (Int.ofNat_le.mpr hz) (by decide))
  have hnp : ¬ ((pages.map V.bytes).length : Int) < p := by rw [hl]; exact Int.not_lt.mpr (Int.le_of_sub_one_lt hlt)
  refine Spec_defR (ps := ["self", "page"]) (ℓ₀ := [("self", .loc (.ref st)), ("page", .loc (.int p)), ("len", .glob (.bi "len")), ("CorruptError", .glob (.ref 51)), ("str", .glob (.ty "str"))]) (by intro P; k_is) (by intro P; k_is) (reps2 (by intros; rfl)) (by intro P; kernel_rfl!) (by intro P; kernel_rfl!) (fun u f FR hPo => ?_) (by rfl) (by rfl) (by rfl)

  wtm_at "r"
  wtm_at "fin"
theorem sp_NodeView {xs : List UInt8} {p : Int} (hp : 2 ≤ p) (hl : xs.length ≤ 10000) : Spec 2 (.ref 397) [.bytes xs, .int p, .int 64] [] fun v l => ∃ nv nd ba, v = .ref nv ∧ l = [(nv, O.inst 397 nd), (nd, O.ns [("data", .ref ba), ("page", .int p), ("usable", .int 64), ("base", .int 0)]), (ba, O.ba xs)] := by
  refine Spec_cls ct_397 fun a d => ?_
  refine Spec_defR (ps := ["self", "octets", "page", "usable"]) (ℓ₀ := [("self", .loc (.ref a)), ("octets", .loc (.bytes xs)), ("page", .loc (.int p)), ("usable", .loc (.int 64)), ("bytearray", .glob (.ty "bytearray")), ("HEADER_SIZE", .glob (.int 32))]) (by intro P; k_is) (by intro P; k_is) (reps4 (by intros; rfl)) (by intro P; kernel_rfl!) (by intro P; kernel_rfl!) (fun u f FR hPo => ?_) (by rfl) (by rfl) (by rfl)

  wtm_at "r"
  refine Call_ba_bytes (by wtm_at "sz") fun b => ?_
  wtm_at "r"
  exact hPo <| Done_nxt (by wtm_at "hs") ⟨rfl, a, d, b, rfl, rfl⟩
section
variable {tr td ch st sd pl sp : Addr} {kvs : List (Int × V)} {pages : List (List UInt8)}
theorem sp_load_node {p : Int} {xs : List UInt8} (h : pgAt pages p xs) (hl : xs.length = 64) (hz : pages.length ≤ 10000) :
    Spec 3 (.ref 408) [.ref tr, .int p] [(tr, O.inst 820 td), (td, O.ns [("pager", .ref st), ("changes", .ref ch)]), (ch, O.dict kvs), (st, O.inst 764 sd), (sd, O.ns [("page_size", .int 64), ("pages", .ref pl), ("spare", .ref sp)]), (pl, O.list (pages.map .bytes))] fun v l => ∃ nv nd ba, v = .ref nv ∧ l = [(nv, O.inst 397 nd), (nd, O.ns [("data", .ref ba), ("page", .int p), ("usable", .int 64), ("base", .int 0)]), (ba, O.ba xs), (tr, O.inst 820 td), (td, O.ns [("pager", .ref st), ("changes", .ref ch)]), (ch, O.dict kvs), (st, O.inst 764 sd), (sd, O.ns [("page_size", .int 64), ("pages", .ref pl), ("spare", .ref sp)]), (pl, O.list (pages.map .bytes))] := by
  refine Spec_defR (ps := ["btree", "page"]) (ℓ₀ := [("btree", .loc (.ref tr)), ("page", .loc (.int p)), ("NodeView", .glob (.ref 397))]) (by intro P; k_is) (by intro P; k_is) (reps2 (by intros; rfl)) (by intro P; kernel_rfl!) (by intro P; kernel_rfl!) (fun u f FR hPo => ?_) (by rfl) (by rfl) (by rfl)

  wtm_at "r"
  refine CallV_one (sp_read_page h hz) (by wtm_at "one") (by wtm_at "sel") (by wtm_at "app") ?_
  wtm_at "r"
  refine CallV_use (sp_NodeView h.1 (by lia)) (by wtm_at "one") (by wtm_at "sel") (E_3_0 ?_)
  rintro nv nd ba
  refine ⟨_, by wtm_at "app", ?_⟩
  wtm_at "r"
  exact hPo <| Done_has (by wtm_at "hs") ⟨nv, nd, ba, rfl, rfl⟩
end

/-! the cursor's path -/
noncomputable abbrev Step := Addr × Int × Int
noncomputable def stL (ss : List Step) : Led := ss.map fun s => (s.1, O.list [.int s.2.1, .int s.2.2])
noncomputable def stV (ss : List Step) : List V := ss.map fun s => .ref s.1
noncomputable def stP (ss : List Step) : List (Int × Int) := ss.map (·.2)
theorem stV_push (ss : List Step) (a : Addr) (p i : Int) : stV (ss ++ [(a, p, i)]) = stV ss ++ [.ref a] := by simp [stV]
theorem stP_push (ss : List Step) (a : Addr) (p i : Int) : stP (ss ++ [(a, p, i)]) = stP ss ++ [(p, i)] := by simp [stP]
theorem stL_push (ss : List Step) (a : Addr) (p i : Int) : stL (ss ++ [(a, p, i)]) = stL ss ++ [(a, O.list [.int p, .int i])] := by simp [stL]
theorem stV_len (ss : List Step) : (stV ss).length = ss.length := by simp [stV]
theorem stP_len (ss : List Step) : (stP ss).length = ss.length := by simp [stP]
theorem has_push (ss : List Step) (a : Addr) (p i : Int) : Has (stL (ss ++ [(a, p, i)])) ((a, O.list [.int p, .int i]) :: stL ss) := by
  rw [stL_push]
  exact .perm (List.perm_append_comm (l₁ := [(a, O.list [.int p, .int i])]))
theorem has_pop (ss : List Step) (a : Addr) (p i : Int) : Has ((a, O.list [.int p, .int i]) :: stL ss) (stL (ss ++ [(a, p, i)])) := by
  rw [stL_push]
  exact .perm (List.perm_append_comm (l₂ := [(a, O.list [.int p, .int i])]))
theorem has_push' {ss : List Step} {a : Addr} {p i : Int} {l r : Led} (q : Pick (a, O.list [.int p, .int i]) l r) (h : Has (stL ss) r) : Has (stL (ss ++ [(a, p, i)])) l :=
  (has_push ss a p i).trans (.pick q h)
local macro_rules | `(tactic| wtm_at "hs") => tTab "Has.refl _ | Has.nil | Has.pick pick hs | has_push' pick hs | Has.skip hs"
/-- pre stands in l, rest is what else is there -/
noncomputable def HasR (pre l rest : Led) : Prop := l.Perm (pre ++ rest)
theorem HasR.refl {l : Led} : HasR l l [] := by unfold HasR; rw [List.append_nil]
theorem HasR.nil {l : Led} : HasR [] l l := List.Perm.refl l
theorem HasR.pick {x : Addr × O} {pre l r rest : Led} (p : Pick x l r) (h : HasR pre r rest) : HasR (x :: pre) l rest := p.perm.trans (List.Perm.cons x h)
theorem HasR.skip {x : Addr × O} {pre l rest : Led} (h : HasR pre l rest) : HasR pre (x :: l) (x :: rest) := (List.Perm.cons x h).trans List.perm_middle.symm
theorem HasR.push {ss : List Step} {a : Addr} {p i : Int} {l r rest : Led} (q : Pick (a, O.list [.int p, .int i]) l r) (h : HasR (stL ss) r rest) : HasR (stL (ss ++ [(a, p, i)])) l rest := by
  unfold HasR
  rw [stL_push, List.append_assoc]
  exact (q.perm.trans (List.Perm.cons _ h)).trans List.perm_middle.symm
theorem HasR.has {pre l rest : Led} (h : HasR pre l rest) : Has (pre ++ rest) l := .perm h
theorem CallV_k {u : U} {n : Nat} {f : Fm} {l : Led} {ℓ : Loc} {k : Nat} {fn : V} {args : List V} {pre rest : Led} {post : V → Led → Prop} {P : V → Led → Prop} (sp : Spec k fn args pre post) (hk : k ≤ n) (h : HasR pre l rest)
    (q : ∀ v l', post v l' → PpaP rest P v l') : CallV u n f l ℓ fn args P :=
  CallV_h sp hk rest h.has fun v l' hp => by
    obtain ⟨o, ap, hP⟩ := q v l' hp
    rw [ap.eq]; exact hP
local macro_rules | `(tactic| wtm_at "hr") => tTab "HasR.refl | HasR.nil | HasR.pick pick hr | HasR.push pick hr | HasR.skip hr"
theorem stP_last {ss : List Step} {pre : List (Int × Int)} {p i : Int} (h : stP ss = pre ++ [(p, i)]) : ∃ ss' a, ss = ss' ++ [(a, p, i)] ∧ stP ss' = pre := by
  rcases List.eq_nil_or_concat ss with rfl | ⟨ss', ⟨a, q, j⟩, e⟩
  · simp [stP] at h
  · rw [List.concat_eq_append] at e
    subst e
    rw [stP_push] at h
    obtain ⟨h1, h2⟩ := List.append_inj' h rfl
    have h3 := (List.cons.inj h2).1
    cases h3
    exact ⟨ss', a, rfl, h1⟩
theorem Has.tail {a b : Led} {x : Addr × O} (h : Has a b) : Has (x :: a) (x :: b) := .pick .head h
theorem Sub.leaf {pages : List (List UInt8)} {p : Int} {rows : Rows} (h : Sub pages 0 p rows) : ∃ xs, pgAt pages p xs ∧ Lf xs rows := h
theorem Sub.inner {pages : List (List UInt8)} {d : Nat} {p : Int} {rows : Rows} (h : Sub pages (d + 1) p rows) : ∃ cs r rss, InnAt (Sub pages d) pages p cs r rss ∧ rows = rss.flatten := h
/-- where a way down ends -/
noncomputable def Ended (pages : List (List UInt8)) (D : Nat) (R : Rows) (ss : List Step) (v : V) (b a : Rows) : Prop :=
  (v = .bool true ∧ a ≠ [] ∧ Pos pages 2 D R (stP ss) b a) ∨ (v = .bool false ∧ a = [])
section
variable {tr td ch st sd pl sp : Addr} {kvs : List (Int × V)} {pages : List (List UInt8)} {cu cd ph : Addr} {R : Rows} {D : Nat}
theorem sp_descend_first {state stamp p : Int} {key cell oct : V} {d : Nat} {b rs a : Rows} {ss : List Step} (hC : Ctx pages 2 D R (stP ss) p d b rs a) (hD : D ≤ 30) (hz : pages.length ≤ 10000) :
    Spec 5 (.ref 436) [.ref cu, .int p] ((cu, O.inst 703 cd) :: (cd, O.ns [("btree", .ref tr), ("root", .int 2), ("state", .int state), ("path", .ref ph), ("key", key), ("cell", cell), ("octets", oct), ("stamp", .int stamp)]) :: (ph, .list (stV ss)) :: (tr, O.inst 820 td) :: (td, O.ns [("pager", .ref st), ("changes", .ref ch)]) :: (ch, O.dict kvs) :: (st, O.inst 764 sd) :: (sd, O.ns [("page_size", .int 64), ("pages", .ref pl), ("spare", .ref sp)]) :: (pl, O.list (pages.map .bytes)) :: stL ss) fun v l => ∃ ss', l = ((cu, O.inst 703 cd) :: (cd, O.ns [("btree", .ref tr), ("root", .int 2), ("state", .int state), ("path", .ref ph), ("key", key), ("cell", cell), ("octets", oct), ("stamp", .int stamp)]) :: (ph, .list (stV ss')) :: (tr, O.inst 820 td) :: (td, O.ns [("pager", .ref st), ("changes", .ref ch)]) :: (ch, O.dict kvs) :: (st, O.inst 764 sd) :: (sd, O.ns [("page_size", .int 64), ("pages", .ref pl), ("spare", .ref sp)]) :: (pl, O.list (pages.map .bytes)) :: stL ss') ∧
      ((v = .bool true ∧ rs ≠ [] ∧ Pos pages 2 D R (stP ss') b (rs ++ a)) ∨ (v = .bool false ∧ rs = [])) := by
  refine Spec_defR (ps := ["self", "page"]) (ℓ₀ := [("self", .loc (.ref cu)), ("page", .loc (.int p)), ("depth", .unb), ("node", .unb), ("range", .glob (.ty "range")), ("DEEPEST", .glob (.int 40)), ("load_node", .glob (.ref 408)), ("is_leaf", .glob (.ref 193)), ("CorruptError", .glob (.ref 51)), ("str", .glob (.ty "str"))]) (by intro P; k_is) (by intro P; k_is) (reps2 (by intros; rfl)) (by intro P; kernel_rfl!) (by intro P; kernel_rfl!) (fun u f FR hPo => ?_) (by rfl) (by rfl) (by rfl)

  wtm_at "r"
  refine Ex_For_rangeO ?_ (by intro _; rfl) (by intro _ _; rfl)
  wtm_at "r"
  intro r
  refine ⟨r, 0, 40, 1, 40, _, rfl, rfl, by decide, by decide, fun m l ℓ => ∃ (ss' : List Step) (p' : Int) (d' : Nat) (rs' a' : Rows) (s1 s2 : Sl), Has ((cu, O.inst 703 cd) :: (cd, O.ns [("btree", .ref tr), ("root", .int 2), ("state", .int state), ("path", .ref ph), ("key", key), ("cell", cell), ("octets", oct), ("stamp", .int stamp)]) :: (ph, .list (stV ss')) :: (tr, O.inst 820 td) :: (td, O.ns [("pager", .ref st), ("changes", .ref ch)]) :: (ch, O.dict kvs) :: (st, O.inst 764 sd) :: (sd, O.ns [("page_size", .int 64), ("pages", .ref pl), ("spare", .ref sp)]) :: (pl, O.list (pages.map .bytes)) :: stL ss') l ∧ Lo s1 ∧ Lo s2 ∧
    ℓ = ([("self", .loc (.ref cu)), ("page", .loc (.int p')), ("depth", s1), ("node", s2), ("range", .glob (.ty "range")), ("DEEPEST", .glob (.int 40)), ("load_node", .glob (.ref 408)), ("is_leaf", .glob (.ref 193)), ("CorruptError", .glob (.ref 51)), ("str", .glob (.ty "str"))] : Loc) ∧ Ctx pages 2 D R (stP ss') p' d' b rs' a' ∧ rs ++ a = rs' ++ a' ∧ (rs = [] ↔ rs' = []) ∧ m + d' ≤ D, inE7 ss p d rs a _ _ ⟨Has.refl _, Lo.unb, Lo.unb, rfl, hC, rfl, Iff.rfl, ?_⟩, ?_, ?_⟩
  · have := hC.deep; lia
  · rintro J hJ f' m l ℓ hm; refine elE7 ?_; rintro ss' p' d' rs' a' s1 s2; refine elA8 ?_; rintro hh l1 l2 rfl hC' e1 e2 hd
    refine Asg_has hh ?_
    have hdeep := hC'.deep
    rw [stP_len] at hdeep
    have hsl := stV_len ss'
    cases d' with
    | zero =>
      obtain ⟨xs, hp, hL⟩ := hC'.sub.leaf
      have N := hL.nd
      wtm_at "r"
      refine CallV_use (sp_load_node hp N.len hz) (by wtm_at "one") (by wtm_at "sel") (E_3_0 ?_)
      rintro nv nd ba
      refine ⟨_, by wtm_at "app", ?_⟩
      wtm_at "r"
      intro s
      wtm_at "r"
      wtm_at "call"
      wtm_at "r"
      wtm_at "call"
      wtm_at "r"
      wtm_at "call"
      wtm_at "r"
      refine hPo <| Done_has (l₀ := ((cu, O.inst 703 cd) :: (cd, O.ns [("btree", .ref tr), ("root", .int 2), ("state", .int state), ("path", .ref ph), ("key", key), ("cell", cell), ("octets", oct), ("stamp", .int stamp)]) :: (ph, .list (stV (ss' ++ [(s, p', 0)]))) :: (tr, O.inst 820 td) :: (td, O.ns [("pager", .ref st), ("changes", .ref ch)]) :: (ch, O.dict kvs) :: (st, O.inst 764 sd) :: (sd, O.ns [("page_size", .int 64), ("pages", .ref pl), ("spare", .ref sp)]) :: (pl, O.list (pages.map .bytes)) :: stL (ss' ++ [(s, p', 0)]))) (by rw [stV_push]; wtm_at "hs") ⟨_, rfl, ?_⟩
      cases rs' with
      | nil => exact .inr ⟨rfl, e2.mpr rfl⟩
      | cons x rs' =>
        refine .inl ⟨?_, (fun h => by have := e2.mp h; cases this), ?_⟩
        · rw [decide_eq_true (by simp)]
        · rw [stP_push, e1]
          exact ⟨_, _, 0, _, _, _, rfl, hC', by simp, by simp, by simp⟩
    | succ d' =>
      refine elX3_2 ?_ hC'.sub.inner; rintro cs r0 rss hI rfl
      obtain ⟨xs, hp, hL⟩ := hI.pg
      have N := hL.nd
      refine elX2_4 ?_ (hI.kid (i := 0) (by lia)); rintro c r1 hc hr1 hs1 hne
      wtm_at "r"
      refine CallV_use (sp_load_node hp N.len hz) (by wtm_at "one") (by wtm_at "sel") (E_3_0 ?_)
      rintro nv nd ba
      refine ⟨_, by wtm_at "app", ?_⟩
      wtm_at "r"
      intro s
      wtm_at "r"
      wtm_at "call"
      wtm_at "r"
      wtm_at "call"
      wtm_at "r"
      refine CallV_one (sp_child hL (by decide) hc) (by wtm_at "one") (by wtm_at "sel") (by wtm_at "app") ?_
      wtm_at "r"
      have hdrop := drop_flat hr1
      rw [List.drop_zero] at hdrop
      refine hJ <| inE7 (ss' ++ [(s, p', 0)]) c d' r1 ((rss.drop 1).flatten ++ a') _ _ ⟨by rw [stV_push]; wtm_at "hs", Lo.loc, Lo.loc, rfl, ?_, ?_, ?_, by lia⟩
      · rw [stP_push]
        have z := Ctx.down 0 hC' hI hc hr1
        simpa using z
      · rw [e1, hdrop]; simp
      · rw [e2, hdrop]; simp [hne]
  · rintro l ℓ; refine elE7 ?_; rintro ss' p' d' rs' a' s1 s2; refine elA8 ?_; rintro hh l1 l2 rfl hC' e1 e2 hd
    lia
theorem kid_last (cs : List (Int × Int)) (r : Int) : (kids cs r)[cs.length]? = some r := by simp
theorem sp_descend_last {state stamp p : Int} {key cell oct : V} {d : Nat} {b rs a : Rows} {ss : List Step} (hC : Ctx pages 2 D R (stP ss) p d b rs a) (hD : D ≤ 30) (hz : pages.length ≤ 10000) :
    Spec 5 (.ref 443) [.ref cu, .int p] ((cu, O.inst 703 cd) :: (cd, O.ns [("btree", .ref tr), ("root", .int 2), ("state", .int state), ("path", .ref ph), ("key", key), ("cell", cell), ("octets", oct), ("stamp", .int stamp)]) :: (ph, .list (stV ss)) :: (tr, O.inst 820 td) :: (td, O.ns [("pager", .ref st), ("changes", .ref ch)]) :: (ch, O.dict kvs) :: (st, O.inst 764 sd) :: (sd, O.ns [("page_size", .int 64), ("pages", .ref pl), ("spare", .ref sp)]) :: (pl, O.list (pages.map .bytes)) :: stL ss) fun v l => ∃ ss', l = ((cu, O.inst 703 cd) :: (cd, O.ns [("btree", .ref tr), ("root", .int 2), ("state", .int state), ("path", .ref ph), ("key", key), ("cell", cell), ("octets", oct), ("stamp", .int stamp)]) :: (ph, .list (stV ss')) :: (tr, O.inst 820 td) :: (td, O.ns [("pager", .ref st), ("changes", .ref ch)]) :: (ch, O.dict kvs) :: (st, O.inst 764 sd) :: (sd, O.ns [("page_size", .int 64), ("pages", .ref pl), ("spare", .ref sp)]) :: (pl, O.list (pages.map .bytes)) :: stL ss') ∧
      ((v = .bool true ∧ ∃ b' x, b ++ rs = b' ++ [x] ∧ Pos pages 2 D R (stP ss') b' (x :: a)) ∨ (v = .bool false ∧ rs = [])) := by
  refine Spec_defR (ps := ["self", "page"]) (ℓ₀ := [("self", .loc (.ref cu)), ("page", .loc (.int p)), ("depth", .unb), ("node", .unb), ("range", .glob (.ty "range")), ("DEEPEST", .glob (.int 40)), ("load_node", .glob (.ref 408)), ("is_leaf", .glob (.ref 193)), ("CorruptError", .glob (.ref 51)), ("str", .glob (.ty "str"))]) (by intro P; k_is) (by intro P; k_is) (reps2 (by intros; rfl)) (by intro P; kernel_rfl!) (by intro P; kernel_rfl!) (fun u f FR hPo => ?_) (by rfl) (by rfl) (by rfl)

  wtm_at "r"
  refine Ex_For_rangeO ?_ (by intro _; rfl) (by intro _ _; rfl)
  wtm_at "r"
  intro r
  refine ⟨r, 0, 40, 1, 40, _, rfl, rfl, by decide, by decide, fun m l ℓ => ∃ (ss' : List Step) (p' : Int) (d' : Nat) (b' rs' : Rows) (s1 s2 : Sl), Has ((cu, O.inst 703 cd) :: (cd, O.ns [("btree", .ref tr), ("root", .int 2), ("state", .int state), ("path", .ref ph), ("key", key), ("cell", cell), ("octets", oct), ("stamp", .int stamp)]) :: (ph, .list (stV ss')) :: (tr, O.inst 820 td) :: (td, O.ns [("pager", .ref st), ("changes", .ref ch)]) :: (ch, O.dict kvs) :: (st, O.inst 764 sd) :: (sd, O.ns [("page_size", .int 64), ("pages", .ref pl), ("spare", .ref sp)]) :: (pl, O.list (pages.map .bytes)) :: stL ss') l ∧ Lo s1 ∧ Lo s2 ∧
    ℓ = ([("self", .loc (.ref cu)), ("page", .loc (.int p')), ("depth", s1), ("node", s2), ("range", .glob (.ty "range")), ("DEEPEST", .glob (.int 40)), ("load_node", .glob (.ref 408)), ("is_leaf", .glob (.ref 193)), ("CorruptError", .glob (.ref 51)), ("str", .glob (.ty "str"))] : Loc) ∧ Ctx pages 2 D R (stP ss') p' d' b' rs' a ∧ b ++ rs = b' ++ rs' ∧ (rs = [] ↔ rs' = []) ∧ m + d' ≤ D, inE7 ss p d b rs _ _ ⟨Has.refl _, Lo.unb, Lo.unb, rfl, hC, rfl, Iff.rfl, ?_⟩, ?_, ?_⟩
  · have := hC.deep; lia
  · rintro J hJ f' m l ℓ hm; refine elE7 ?_; rintro ss' p' d' b' rs' s1 s2; refine elA8 ?_; rintro hh l1 l2 rfl hC' e1 e2 hd
    refine Asg_has hh ?_
    have hdeep := hC'.deep
    rw [stP_len] at hdeep
    have hsl := stV_len ss'
    cases d' with
    | zero =>
      obtain ⟨xs, hp, hL⟩ := hC'.sub.leaf
      have N := hL.nd
      wtm_at "r"
      refine CallV_use (sp_load_node hp N.len hz) (by wtm_at "one") (by wtm_at "sel") (E_3_0 ?_)
      rintro nv nd ba
      refine ⟨_, by wtm_at "app", ?_⟩
      wtm_at "r"
      wtm_at "call"
      wtm_at "r"
      wtm_at "call"
      wtm_at "r"
      wtm_at "call"
      wtm_at "r"
      intro s
      wtm_at "r"
      wtm_at "call"
      wtm_at "r"
      refine hPo <| Done_has (l₀ := ((cu, O.inst 703 cd) :: (cd, O.ns [("btree", .ref tr), ("root", .int 2), ("state", .int state), ("path", .ref ph), ("key", key), ("cell", cell), ("octets", oct), ("stamp", .int stamp)]) :: (ph, .list (stV (ss' ++ [(s, p', (rs'.length : Int) - 1)]))) :: (tr, O.inst 820 td) :: (td, O.ns [("pager", .ref st), ("changes", .ref ch)]) :: (ch, O.dict kvs) :: (st, O.inst 764 sd) :: (sd, O.ns [("page_size", .int 64), ("pages", .ref pl), ("spare", .ref sp)]) :: (pl, O.list (pages.map .bytes)) :: stL (ss' ++ [(s, p', (rs'.length : Int) - 1)]))) (by rw [stV_push]; wtm_at "hs") ⟨_, rfl, ?_⟩
      rcases List.eq_nil_or_concat rs' with rfl | ⟨rs0, x, e⟩
      · exact .inr ⟨rfl, e2.mpr rfl⟩
      · rw [List.concat_eq_append] at e
        subst e
        refine .inl ⟨?_, b' ++ rs0, x, by rw [e1]; simp, ?_⟩
        · rw [decide_eq_true (by simp)]
        · rw [stP_push]
          refine ⟨_, _, rs0.length, _, _, _, ?_, hC', by simp, by simp, by simp⟩
          simp
    | succ d' =>
      refine elX3_2 ?_ hC'.sub.inner; rintro cs r0 rss hI rfl
      obtain ⟨xs, hp, hL⟩ := hI.pg
      have N := hL.nd
      have hc := kid_last cs r0
      refine elX1_3 ?_ (hI.row hc); rintro r1 hr1 hs1 hne
      wtm_at "r"
      refine CallV_use (sp_load_node hp N.len hz) (by wtm_at "one") (by wtm_at "sel") (E_3_0 ?_)
      rintro nv nd ba
      refine ⟨_, by wtm_at "app", ?_⟩
      wtm_at "r"
      wtm_at "call"
      wtm_at "r"
      wtm_at "call"
      wtm_at "r"
      wtm_at "call"
      wtm_at "r"
      intro s
      wtm_at "r"
      wtm_at "call"
      wtm_at "r"
      have hall := take_drop_mid hr1
      have hnil : rss.drop (cs.length + 1) = [] := List.drop_eq_nil_of_le (by rw [hI.len]; exact Nat.le_refl _)
      rw [hnil] at hall
      refine hJ <| inE7 (ss' ++ [(s, p', (cs.length : Int))]) r0 d' (b' ++ (rss.take cs.length).flatten) r1 _ _ ⟨by rw [stV_push]; wtm_at "hs", Lo.loc, Lo.loc, rfl, ?_, ?_, ?_, by lia⟩
      · rw [stP_push]
        have z := Ctx.down cs.length hC' hI hc hr1
        rw [hnil] at z
        exact z
      · rw [e1, ← hall]; simp
      · rw [e2, ← hall]; simp [hne]
  · rintro l ℓ; refine elE7 ?_; rintro ss' p' d' b' rs' s1 s2; refine elA8 ?_; rintro hh l1 l2 rfl hC' e1 e2 hd
    lia
end

/-! forward, backward -/
section
variable {u : U} {n : Nat} {f : Fm} {l : Led} {ℓ : Loc} {P : V → Led → Prop}
theorem Put_pair0 {a : Addr} {v0 v1 v : V} {l' : Led} {R : Led → Prop} (t : Turn a (.list [v0, v1]) (.list [v, v1]) l l') (h : R l') : PutV u n f l ℓ (.ref a) (.int 0) v R := Put_list (vs := [v0, v1]) (by decide) (by decide) (by simp) t h
theorem Put_pair1 {a : Addr} {v0 v1 v : V} {l' : Led} {R : Led → Prop} (t : Turn a (.list [v0, v1]) (.list [v0, v]) l l') (h : R l') : PutV u n f l ℓ (.ref a) (.int 1) v R := Put_list (vs := [v0, v1]) (by decide) (by decide) (by simp) t h
theorem Call_popT {a : Addr} {vs : List V} {v : V} {l' : Led} (t : Turn a (.list (vs ++ [v])) (.list vs) l l') (hz : (vs ++ [v]).length ≤ 10000) (h : P v l') : CallV u n f l ℓ (.bi "list.pop") [.ref a] P :=
  Call_pop (vs := vs ++ [v]) (by simp) hz (by rw [List.dropLast_concat]; exact t) h
theorem Itm_list_lastT {a : Addr} {vs : List V} {v : V} (ha : (a, O.list (vs ++ [v])) ∈ l) (hz : (vs ++ [v]).length ≤ 10000) (h : P v l) : ItmV u n f l ℓ (.ref a) (.int (-1)) P := Itm_list_last ha (by simp) (by lia) h
end
local macro_rules | `(tactic| wtm_at "s") => tTab "PutV 9: Put_pair0 turn _ | Put_pair1 turn _ / Call_popT turn sz _ / ItmV 8: Itm_list_lastT lk sz _"
local macro_rules | `(tactic| wtm_at "pop") => tTab "has_pop _ _ _ _ | Has.tail pop"
section
variable {tr td ch st sd pl sp : Addr} {kvs : List (Int × V)} {pages : List (List UInt8)} {cu cd ph : Addr} {R : Rows} {D : Nat}
theorem Pos.last {b a : Rows} {ss : List Step} (h : Pos pages 2 D R (stP ss) b a) : ∃ (ss0 : List Step) (s : Addr) (leaf : Int) (i : Nat) (rs b' a' : Rows), ss = ss0 ++ [(s, leaf, (i : Int))] ∧ Ctx pages 2 D R (stP ss0) leaf 0 b' rs a' ∧ i < rs.length ∧ b = b' ++ rs.take i ∧ a = rs.drop i ++ a' := by
  refine elE6 ?_ h; clear h; rintro pre leaf i rs b' a'; refine elA5 ?_; rintro e hC hi e1 e2
  refine elX2_2 ?_ (stP_last e); rintro ss0 s rfl rfl
  exact ⟨ss0, s, leaf, i, rs, b', a', rfl, hC, hi, e1, e2⟩
theorem sp_forward {state stamp : Int} {key cell oct : V} {b a : Rows} {x : Int × Int} {ss : List Step} (hP : Pos pages 2 D R (stP ss) b (x :: a)) (hD : D ≤ 30) (hz : pages.length ≤ 10000) :
    Spec 6 (.ref 450) [.ref cu] ((cu, O.inst 703 cd) :: (cd, O.ns [("btree", .ref tr), ("root", .int 2), ("state", .int state), ("path", .ref ph), ("key", key), ("cell", cell), ("octets", oct), ("stamp", .int stamp)]) :: (ph, .list (stV ss)) :: (tr, O.inst 820 td) :: (td, O.ns [("pager", .ref st), ("changes", .ref ch)]) :: (ch, O.dict kvs) :: (st, O.inst 764 sd) :: (sd, O.ns [("page_size", .int 64), ("pages", .ref pl), ("spare", .ref sp)]) :: (pl, O.list (pages.map .bytes)) :: stL ss) fun v l => ∃ ss', l = ((cu, O.inst 703 cd) :: (cd, O.ns [("btree", .ref tr), ("root", .int 2), ("state", .int state), ("path", .ref ph), ("key", key), ("cell", cell), ("octets", oct), ("stamp", .int stamp)]) :: (ph, .list (stV ss')) :: (tr, O.inst 820 td) :: (td, O.ns [("pager", .ref st), ("changes", .ref ch)]) :: (ch, O.dict kvs) :: (st, O.inst 764 sd) :: (sd, O.ns [("page_size", .int 64), ("pages", .ref pl), ("spare", .ref sp)]) :: (pl, O.list (pages.map .bytes)) :: stL ss') ∧
      ((v = .bool true ∧ a ≠ [] ∧ Pos pages 2 D R (stP ss') (b ++ [x]) a) ∨ (v = .bool false ∧ a = [] ∧ ss' = [])) := by
  refine elE7 ?_ hP.last; rintro ss0 s leaf i rs b' a'; refine elA5 ?_; rintro rfl hC hi rfl e
  have hdeep := hC.deep
  rw [stP_len] at hdeep
  have hsl : (stV ss0 ++ [V.ref s]).length ≤ 10000 := by rw [List.length_append, stV_len]; simp; lia
  obtain ⟨xs, hp, hL⟩ := hC.sub.leaf
  have N := hL.nd
  have e' : x :: a = rs[i] :: (rs.drop (i + 1) ++ a') := by rw [e, List.drop_eq_getElem_cons hi]; rfl
  obtain ⟨ex, ea⟩ := List.cons.inj e'
  have eb : rs.take i ++ [x] = rs.take (i + 1) := by rw [ex, List.take_add_one, List.getElem?_eq_getElem hi]; rfl
  refine Spec_defR (ps := ["self"]) (ℓ₀ := [("self", .loc (.ref cu)), ("step", .unb), ("node", .unb), ("load_node", .glob (.ref 408)), ("is_leaf", .glob (.ref 193)), ("len", .glob (.bi "len")), ("INNER_KEYS", .glob (.int 2))]) (by intro P; k_is) (by intro P; k_is) (reps1 (by intros; rfl)) (by intro P; kernel_rfl!) (by intro P; kernel_rfl!) (fun u f FR hPo => ?_) (by rfl) (by rfl) (by rfl)

  refine Exs_has (l₀ := ((s, O.list [.int leaf, .int i]) :: (cu, O.inst 703 cd) :: (cd, O.ns [("btree", .ref tr), ("root", .int 2), ("state", .int state), ("path", .ref ph), ("key", key), ("cell", cell), ("octets", oct), ("stamp", .int stamp)]) :: (ph, .list (stV ss0 ++ [.ref s])) :: (tr, O.inst 820 td) :: (td, O.ns [("pager", .ref st), ("changes", .ref ch)]) :: (ch, O.dict kvs) :: (st, O.inst 764 sd) :: (sd, O.ns [("page_size", .int 64), ("pages", .ref pl), ("spare", .ref sp)]) :: (pl, O.list (pages.map .bytes)) :: stL ss0)) ?_ ?_
  · rw [stV_push]
    refine Has.trans (b := ((cu, O.inst 703 cd) :: (cd, O.ns [("btree", .ref tr), ("root", .int 2), ("state", .int state), ("path", .ref ph), ("key", key), ("cell", cell), ("octets", oct), ("stamp", .int stamp)]) :: (ph, .list (stV ss0 ++ [.ref s])) :: (tr, O.inst 820 td) :: (td, O.ns [("pager", .ref st), ("changes", .ref ch)]) :: (ch, O.dict kvs) :: (st, O.inst 764 sd) :: (sd, O.ns [("page_size", .int 64), ("pages", .ref pl), ("spare", .ref sp)]) :: (pl, O.list (pages.map .bytes)) :: (s, O.list [.int leaf, .int i]) :: stL ss0)) (by wtm_at "hs") ?_
    wtm_at "pop"
  wtm_at "r"
  refine CallV_use (sp_load_node hp N.len hz) (by wtm_at "one") (by wtm_at "sel") (E_3_0 ?_)
  rintro nv nd ba
  refine ⟨_, by wtm_at "app", ?_⟩
  wtm_at "r"
  wtm_at "call"
  wtm_at "r"
  wtm_at "call"
  wtm_at "r"
  wtm_at "call"
  wtm_at "r"
  refine Br_dec (fun hlt => ?_) (fun hge => ?_)
  · wtm_at "r"
    refine hPo <| Done_has (l₀ := ((cu, O.inst 703 cd) :: (cd, O.ns [("btree", .ref tr), ("root", .int 2), ("state", .int state), ("path", .ref ph), ("key", key), ("cell", cell), ("octets", oct), ("stamp", .int stamp)]) :: (ph, .list (stV (ss0 ++ [(s, leaf, (i : Int) + 1)]))) :: (tr, O.inst 820 td) :: (td, O.ns [("pager", .ref st), ("changes", .ref ch)]) :: (ch, O.dict kvs) :: (st, O.inst 764 sd) :: (sd, O.ns [("page_size", .int 64), ("pages", .ref pl), ("spare", .ref sp)]) :: (pl, O.list (pages.map .bytes)) :: stL (ss0 ++ [(s, leaf, (i : Int) + 1)]))) (by rw [stV_push]; wtm_at "hs") ⟨_, rfl, .inl ⟨rfl, ?_, ?_⟩⟩
    · rw [ea]
      intro h
      have := congrArg List.length h
      simp only [List.length_append, List.length_drop, List.length_nil] at this
      lia
    · rw [stP_push]
      exact ⟨_, _, i + 1, _, _, _, rfl, hC, by lia, by rw [List.append_assoc, eb], ea⟩
  · wtm_at "r"
    have hdrop : rs.drop (i + 1) = [] := List.drop_eq_nil_of_le (by lia)
    have htake : rs.take (i + 1) = rs := List.take_of_length_le (by lia)
    rw [hdrop, List.nil_append] at ea
    rw [htake] at eb
    refine Ex_WhileO (fun k l ℓ => ∃ (ss' : List Step) (p' : Int) (d' : Nat) (b0 rs0 : Rows) (s1 s2 : Sl), k = ss'.length ∧ Has ((cu, O.inst 703 cd) :: (cd, O.ns [("btree", .ref tr), ("root", .int 2), ("state", .int state), ("path", .ref ph), ("key", key), ("cell", cell), ("octets", oct), ("stamp", .int stamp)]) :: (ph, .list (stV ss')) :: (tr, O.inst 820 td) :: (td, O.ns [("pager", .ref st), ("changes", .ref ch)]) :: (ch, O.dict kvs) :: (st, O.inst 764 sd) :: (sd, O.ns [("page_size", .int 64), ("pages", .ref pl), ("spare", .ref sp)]) :: (pl, O.list (pages.map .bytes)) :: stL ss') l ∧ Lo s1 ∧ Lo s2 ∧
      ℓ = ([("self", .loc (.ref cu)), ("step", s1), ("node", s2), ("load_node", .glob (.ref 408)), ("is_leaf", .glob (.ref 193)), ("len", .glob (.bi "len")), ("INNER_KEYS", .glob (.int 2))] : Loc) ∧ Ctx pages 2 D R (stP ss') p' d' b0 rs0 a ∧ b0 ++ rs0 = b' ++ List.take i rs ++ [x]) ss0.length (inE7 ss0 leaf 0 b' rs _ _ ⟨rfl, by wtm_at "hs", Lo.loc, Lo.loc, rfl, ea ▸ hC, by rw [List.append_assoc, eb]⟩) ?_
    rintro J hJ k l ℓ; refine elE7 ?_; rintro ss' p' d' b0 rs0 s1 s2; refine elA7 ?_; rintro rfl hh l1 l2 rfl hC' e0
    refine Tr_has hh ?_
    have hsl' := stV_len ss'
    have hdeep' := hC'.deep
    rw [stP_len] at hdeep'
    wtm_at "r"
    refine Br_dec (fun hlt => ?_) (fun hz0 => ?_)
    · rcases List.eq_nil_or_concat ss' with rfl | ⟨ss2, ⟨s2', q, j'⟩, e2⟩
      · simp [stV] at hlt
      rw [List.concat_eq_append] at e2
      subst e2
      refine elE6 ?_ (hC'.up (stP_push ..)); rintro j b1 a1 cs r0 rss; refine elA7 ?_; rintro rfl hC2 hI hc hr rfl rfl
      obtain ⟨xs2, hp2, hL2⟩ := hI.pg
      have N2 := hL2.nd
      have hsl2 : (stV ss2 ++ [V.ref s2']).length ≤ 10000 := by rw [List.length_append, stV_len]; simp at hdeep' ⊢; lia
      refine Exs_has (l₀ := ((s2', O.list [.int q, .int j]) :: (cu, O.inst 703 cd) :: (cd, O.ns [("btree", .ref tr), ("root", .int 2), ("state", .int state), ("path", .ref ph), ("key", key), ("cell", cell), ("octets", oct), ("stamp", .int stamp)]) :: (ph, .list (stV ss2 ++ [.ref s2'])) :: (tr, O.inst 820 td) :: (td, O.ns [("pager", .ref st), ("changes", .ref ch)]) :: (ch, O.dict kvs) :: (st, O.inst 764 sd) :: (sd, O.ns [("page_size", .int 64), ("pages", .ref pl), ("spare", .ref sp)]) :: (pl, O.list (pages.map .bytes)) :: stL ss2)) ?_ ?_
      · rw [stV_push]
        refine Has.trans (b := ((cu, O.inst 703 cd) :: (cd, O.ns [("btree", .ref tr), ("root", .int 2), ("state", .int state), ("path", .ref ph), ("key", key), ("cell", cell), ("octets", oct), ("stamp", .int stamp)]) :: (ph, .list (stV ss2 ++ [.ref s2'])) :: (tr, O.inst 820 td) :: (td, O.ns [("pager", .ref st), ("changes", .ref ch)]) :: (ch, O.dict kvs) :: (st, O.inst 764 sd) :: (sd, O.ns [("page_size", .int 64), ("pages", .ref pl), ("spare", .ref sp)]) :: (pl, O.list (pages.map .bytes)) :: (s2', O.list [.int q, .int j]) :: stL ss2)) (by wtm_at "hs") ?_
        wtm_at "pop"
      wtm_at "r"
      refine CallV_use (sp_load_node hp2 N2.len hz) (by wtm_at "one") (by wtm_at "sel") (E_3_0 ?_)
      rintro nv2 nd2 ba2
      refine ⟨_, by wtm_at "app", ?_⟩
      wtm_at "r"
      wtm_at "call"
      wtm_at "r"
      refine Br_dec (fun hjlt => ?_) (fun hjge => ?_)
      · refine elX2_4 ?_ (hI.kid (i := j + 1) (by lia)); rintro c r1 hc1 hr1 hs1 hne
        have ej : ((j + 1 : Nat) : Int) = (j : Int) + 1 := by lia
        have hc1' : (kids cs r0)[((j : Int) + 1).toNat]? = some c := by rw [show ((j : Int) + 1).toNat = j + 1 by lia]; exact hc1
        have hC3 := Ctx.down (j + 1) hC2 hI hc1 hr1
        rw [ej, ← stP_push ss2 s2' q ((j : Int) + 1)] at hC3
        wtm_at "r"
        wtm_at "call"
        wtm_at "r"
        refine CallV_one (sp_child hL2 (by lia) hc1') (by wtm_at "one") (by wtm_at "sel") (by wtm_at "app") ?_
        wtm_at "r"
        refine CallV_k (sp_descend_first hC3 hD hz) (by wtm_at "one") (by rw [stV_push]; wtm_at "hr") ?_
        rintro v l'; refine elX1_2 ?_; rintro ss3 rfl h3
        refine ⟨_, by wtm_at "app", ?_⟩
        wtm_at "r"
        refine hPo <| Done_has (by wtm_at "hs") ⟨ss3, rfl, ?_⟩
        have hd1 := drop_flat hr1
        have ht1 := take_succ_flat hr
        rcases h3 with ⟨rfl, _, hP3⟩ | ⟨_, h3⟩
        · refine .inl ⟨rfl, ?_, ?_⟩
          · rw [hd1]; simp [hne]
          · rw [ht1, ← List.append_assoc, e0] at hP3
            rw [hd1]
            simp only [List.append_assoc] at hP3 ⊢
            exact hP3
        · exact absurd h3 hne
      · wtm_at "r"
        have hd1 : rss.drop (j + 1) = [] := List.drop_eq_nil_of_le (by rw [hI.len]; lia)
        have hm := take_drop_mid hr
        rw [hd1, List.flatten_nil, List.append_nil] at hm
        refine ⟨ss2.length, by simp, hJ <| inE7 ss2 q (d' + 1) b1 rss.flatten _ _ ⟨rfl, by wtm_at "hs", Lo.loc, Lo.loc, rfl, ?_, ?_⟩⟩
        · rw [hd1]; exact hC2
        · rw [← e0, ← hm]; simp
    · have e3 : ss' = [] := List.length_eq_zero_iff.mp (by lia)
      subst e3
      wtm_at "r"
      refine hPo <| Done_has (Has.refl _) ⟨[], rfl, .inr ⟨rfl, hC'.top.2, rfl⟩⟩
end

section
variable {tr td ch st sd pl sp : Addr} {kvs : List (Int × V)} {pages : List (List UInt8)} {cu cd ph : Addr} {R : Rows} {D : Nat}
theorem sp_backward {state stamp : Int} {key cell oct : V} {b a : Rows} {ss : List Step} (hP : Pos pages 2 D R (stP ss) b a) (hD : D ≤ 30) (hz : pages.length ≤ 10000) :
    Spec 6 (.ref 457) [.ref cu] ((cu, O.inst 703 cd) :: (cd, O.ns [("btree", .ref tr), ("root", .int 2), ("state", .int state), ("path", .ref ph), ("key", key), ("cell", cell), ("octets", oct), ("stamp", .int stamp)]) :: (ph, .list (stV ss)) :: (tr, O.inst 820 td) :: (td, O.ns [("pager", .ref st), ("changes", .ref ch)]) :: (ch, O.dict kvs) :: (st, O.inst 764 sd) :: (sd, O.ns [("page_size", .int 64), ("pages", .ref pl), ("spare", .ref sp)]) :: (pl, O.list (pages.map .bytes)) :: stL ss) fun v l => ∃ ss', l = ((cu, O.inst 703 cd) :: (cd, O.ns [("btree", .ref tr), ("root", .int 2), ("state", .int state), ("path", .ref ph), ("key", key), ("cell", cell), ("octets", oct), ("stamp", .int stamp)]) :: (ph, .list (stV ss')) :: (tr, O.inst 820 td) :: (td, O.ns [("pager", .ref st), ("changes", .ref ch)]) :: (ch, O.dict kvs) :: (st, O.inst 764 sd) :: (sd, O.ns [("page_size", .int 64), ("pages", .ref pl), ("spare", .ref sp)]) :: (pl, O.list (pages.map .bytes)) :: stL ss') ∧
      ((v = .bool true ∧ ∃ b2 y, b = b2 ++ [y] ∧ Pos pages 2 D R (stP ss') b2 (y :: a)) ∨ (v = .bool false ∧ b = [] ∧ ss' = [])) := by
  refine elE7 ?_ hP.last; rintro ss0 s leaf i rs b' a'; refine elA5 ?_; rintro rfl hC hi rfl rfl
  have hdeep := hC.deep
  rw [stP_len] at hdeep
  have hsl : (stV ss0 ++ [V.ref s]).length ≤ 10000 := by rw [List.length_append, stV_len]; simp; lia
  obtain ⟨xs, hp, hL⟩ := hC.sub.leaf
  have N := hL.nd
  refine Spec_defR (ps := ["self"]) (ℓ₀ := [("self", .loc (.ref cu)), ("step", .unb), ("node", .unb), ("load_node", .glob (.ref 408)), ("is_leaf", .glob (.ref 193)), ("len", .glob (.bi "len")), ("INNER_KEYS", .glob (.int 2))]) (by intro P; k_is) (by intro P; k_is) (reps1 (by intros; rfl)) (by intro P; kernel_rfl!) (by intro P; kernel_rfl!) (fun u f FR hPo => ?_) (by rfl) (by rfl) (by rfl)

  refine Exs_has (l₀ := ((s, O.list [.int leaf, .int i]) :: (cu, O.inst 703 cd) :: (cd, O.ns [("btree", .ref tr), ("root", .int 2), ("state", .int state), ("path", .ref ph), ("key", key), ("cell", cell), ("octets", oct), ("stamp", .int stamp)]) :: (ph, .list (stV ss0 ++ [.ref s])) :: (tr, O.inst 820 td) :: (td, O.ns [("pager", .ref st), ("changes", .ref ch)]) :: (ch, O.dict kvs) :: (st, O.inst 764 sd) :: (sd, O.ns [("page_size", .int 64), ("pages", .ref pl), ("spare", .ref sp)]) :: (pl, O.list (pages.map .bytes)) :: stL ss0)) ?_ ?_
  · rw [stV_push]
    refine Has.trans (b := ((cu, O.inst 703 cd) :: (cd, O.ns [("btree", .ref tr), ("root", .int 2), ("state", .int state), ("path", .ref ph), ("key", key), ("cell", cell), ("octets", oct), ("stamp", .int stamp)]) :: (ph, .list (stV ss0 ++ [.ref s])) :: (tr, O.inst 820 td) :: (td, O.ns [("pager", .ref st), ("changes", .ref ch)]) :: (ch, O.dict kvs) :: (st, O.inst 764 sd) :: (sd, O.ns [("page_size", .int 64), ("pages", .ref pl), ("spare", .ref sp)]) :: (pl, O.list (pages.map .bytes)) :: (s, O.list [.int leaf, .int i]) :: stL ss0)) (by wtm_at "hs") ?_
    wtm_at "pop"
  wtm_at "r"
  refine CallV_use (sp_load_node hp N.len hz) (by wtm_at "one") (by wtm_at "sel") (E_3_0 ?_)
  rintro nv nd ba
  refine ⟨_, by wtm_at "app", ?_⟩
  wtm_at "r"
  wtm_at "call"
  wtm_at "r"
  wtm_at "call"
  wtm_at "r"
  refine Br_dec (fun hlt => ?_) (fun hge => ?_)
  · obtain ⟨i', rfl⟩ : ∃ i', i = i' + 1 := ⟨i - 1, by lia⟩
    have ei : ((i' + 1 : Nat) : Int) - 1 = (i' : Int) := by lia
    have hx := List.getElem?_eq_getElem (l := rs) (i := i') (by lia)
    wtm_at "r"
    rw [ei]
    refine hPo <| Done_has (l₀ := ((cu, O.inst 703 cd) :: (cd, O.ns [("btree", .ref tr), ("root", .int 2), ("state", .int state), ("path", .ref ph), ("key", key), ("cell", cell), ("octets", oct), ("stamp", .int stamp)]) :: (ph, .list (stV (ss0 ++ [(s, leaf, (i' : Int))]))) :: (tr, O.inst 820 td) :: (td, O.ns [("pager", .ref st), ("changes", .ref ch)]) :: (ch, O.dict kvs) :: (st, O.inst 764 sd) :: (sd, O.ns [("page_size", .int 64), ("pages", .ref pl), ("spare", .ref sp)]) :: (pl, O.list (pages.map .bytes)) :: stL (ss0 ++ [(s, leaf, (i' : Int))]))) (by rw [stV_push]; wtm_at "hs") ⟨_, rfl, .inl ⟨rfl, b' ++ rs.take i', rs[i'], ?_, ?_⟩⟩
    · rw [List.take_add_one, hx, List.append_assoc]; rfl
    · rw [stP_push]
      refine ⟨_, _, i', _, _, _, rfl, hC, by lia, rfl, ?_⟩
      rw [List.drop_eq_getElem_cons (i := i') (by lia)]; rfl
  · obtain rfl : i = 0 := by lia
    wtm_at "r"
    refine Ex_WhileO (fun k l ℓ => ∃ (ss' : List Step) (p' : Int) (d' : Nat) (rs0 a0 : Rows) (s1 s2 : Sl), k = ss'.length ∧ Has ((cu, O.inst 703 cd) :: (cd, O.ns [("btree", .ref tr), ("root", .int 2), ("state", .int state), ("path", .ref ph), ("key", key), ("cell", cell), ("octets", oct), ("stamp", .int stamp)]) :: (ph, .list (stV ss')) :: (tr, O.inst 820 td) :: (td, O.ns [("pager", .ref st), ("changes", .ref ch)]) :: (ch, O.dict kvs) :: (st, O.inst 764 sd) :: (sd, O.ns [("page_size", .int 64), ("pages", .ref pl), ("spare", .ref sp)]) :: (pl, O.list (pages.map .bytes)) :: stL ss') l ∧ Lo s1 ∧ Lo s2 ∧
      ℓ = ([("self", .loc (.ref cu)), ("step", s1), ("node", s2), ("load_node", .glob (.ref 408)), ("is_leaf", .glob (.ref 193)), ("len", .glob (.bi "len")), ("INNER_KEYS", .glob (.int 2))] : Loc) ∧ Ctx pages 2 D R (stP ss') p' d' b' rs0 a0 ∧ rs0 ++ a0 = rs ++ a') ss0.length (inE7 ss0 leaf 0 rs a' _ _ ⟨rfl, by wtm_at "hs", Lo.loc, Lo.loc, rfl, hC, rfl⟩) ?_
    rintro J hJ k l ℓ; refine elE7 ?_; rintro ss' p' d' rs0 a0 s1 s2; refine elA7 ?_; rintro rfl hh l1 l2 rfl hC' e0
    refine Tr_has hh ?_
    have hsl' := stV_len ss'
    have hdeep' := hC'.deep
    rw [stP_len] at hdeep'
    wtm_at "r"
    refine Br_dec (fun hlt => ?_) (fun hz0 => ?_)
    · rcases List.eq_nil_or_concat ss' with rfl | ⟨ss2, ⟨s2', q, j'⟩, e2⟩
      · simp [stV] at hlt
      rw [List.concat_eq_append] at e2
      subst e2
      refine elE6 ?_ (hC'.up (stP_push ..)); rintro j b1 a1 cs r0 rss; refine elA7 ?_; rintro rfl hC2 hI hc hr rfl rfl
      obtain ⟨xs2, hp2, hL2⟩ := hI.pg
      have N2 := hL2.nd
      have hsl2 : (stV ss2 ++ [V.ref s2']).length ≤ 10000 := by rw [List.length_append, stV_len]; simp at hdeep' ⊢; lia
      have hd0 := drop_flat hr
      refine Exs_has (l₀ := ((s2', O.list [.int q, .int j]) :: (cu, O.inst 703 cd) :: (cd, O.ns [("btree", .ref tr), ("root", .int 2), ("state", .int state), ("path", .ref ph), ("key", key), ("cell", cell), ("octets", oct), ("stamp", .int stamp)]) :: (ph, .list (stV ss2 ++ [.ref s2'])) :: (tr, O.inst 820 td) :: (td, O.ns [("pager", .ref st), ("changes", .ref ch)]) :: (ch, O.dict kvs) :: (st, O.inst 764 sd) :: (sd, O.ns [("page_size", .int 64), ("pages", .ref pl), ("spare", .ref sp)]) :: (pl, O.list (pages.map .bytes)) :: stL ss2)) ?_ ?_
      · rw [stV_push]
        refine Has.trans (b := ((cu, O.inst 703 cd) :: (cd, O.ns [("btree", .ref tr), ("root", .int 2), ("state", .int state), ("path", .ref ph), ("key", key), ("cell", cell), ("octets", oct), ("stamp", .int stamp)]) :: (ph, .list (stV ss2 ++ [.ref s2'])) :: (tr, O.inst 820 td) :: (td, O.ns [("pager", .ref st), ("changes", .ref ch)]) :: (ch, O.dict kvs) :: (st, O.inst 764 sd) :: (sd, O.ns [("page_size", .int 64), ("pages", .ref pl), ("spare", .ref sp)]) :: (pl, O.list (pages.map .bytes)) :: (s2', O.list [.int q, .int j]) :: stL ss2)) (by wtm_at "hs") ?_
        wtm_at "pop"
      wtm_at "r"
      refine Br_dec (fun hjlt => ?_) (fun hjge => ?_)
      · obtain ⟨j', rfl⟩ : ∃ j', j = j' + 1 := ⟨j - 1, by lia⟩
        have ej : ((j' + 1 : Nat) : Int) - 1 = (j' : Int) := by lia
        have hlen : j' + 1 < (kids cs r0).length := (List.getElem?_eq_some_iff.mp hc).1
        refine elE2 ?_ (hI.kid (i := j') (by simp at hlen; lia)); rintro c r1; refine elA4 ?_; rintro hc1 hr1 hs1 hne
        have hC3 := Ctx.down j' hC2 hI hc1 hr1
        rw [← stP_push ss2 s2' q (j' : Int)] at hC3
        wtm_at "r"
        refine (Eq.symm (ej)) ▸ ?_
        refine CallV_use (sp_load_node hp2 N2.len hz) (by wtm_at "one") (by wtm_at "sel") (E_3_0 ?_)
        rintro nv2 nd2 ba2
        refine ⟨_, by wtm_at "app", ?_⟩
        wtm_at "r"
        wtm_at "call"
        wtm_at "r"
        refine CallV_one (sp_child hL2 (by lia) hc1) (by wtm_at "one") (by wtm_at "sel") (by wtm_at "app") ?_
        wtm_at "r"
        refine CallV_k (sp_descend_last hC3 hD hz) (by wtm_at "one") (by rw [stV_push]; wtm_at "hr") ?_
        rintro v l'; refine elX1_2 ?_; rintro ss3 rfl h3
        refine ⟨_, by wtm_at "app", ?_⟩
        wtm_at "r"
        refine hPo <| Done_has (by wtm_at "hs") ⟨ss3, rfl, ?_⟩
        have ht1 := take_succ_flat hr1
        rcases h3 with ⟨rfl, b2, x, e3, hP3⟩ | ⟨_, h3⟩
        · refine .inl ⟨rfl, b2, x, ?_, ?_⟩
          · rw [ht1, List.take_zero, List.append_nil, ← e3, List.append_assoc]
          · rw [hd0] at hP3
            rw [List.append_assoc, e0] at hP3
            rw [List.drop_zero]
            exact hP3
        · exact absurd h3 hne
      · obtain rfl : j = 0 := by lia
        wtm_at "r"
        have hm := take_drop_mid hr
        rw [List.take_zero, List.flatten_nil, List.nil_append] at hm
        refine ⟨ss2.length, by simp, hJ <| inE7 ss2 q (d' + 1) rss.flatten a1 _ _ ⟨rfl, by wtm_at "hs", Lo.loc, l2, rfl, ?_, ?_⟩⟩
        · simpa using hC2
        · rw [← e0, ← hm, List.append_assoc]
    · have e3 : ss' = [] := List.length_eq_zero_iff.mp (by lia)
      subst e3
      wtm_at "r"
      refine hPo <| Done_has (Has.refl _) ⟨[], rfl, .inr ⟨rfl, ?_, rfl⟩⟩
      rw [hC'.top.1]; rfl
end

/-! the place in a node -/
noncomputable def sg (i j : Int) : Int := if i < j then -1 else if i = j then 0 else 1
theorem sg_lt {i j k : Int} (h : k = 0 ∨ k = 1) : sg i j < k ↔ i < j + k := by
  unfold sg
  rcases h with rfl | rfl <;> split <;> (try split) <;> lia
theorem sg_zero {i j : Int} : sg i j = 0 ↔ i = j := by
  unfold sg
  split <;> (try split) <;> lia
theorem sp_sign_of {i j : Int} : Spec 1 (.ref 651) [.int i, .int j] [] fun v l => v = .int (sg i j) ∧ l = [] := by
  refine Spec_defR (ps := ["one", "other"]) (ℓ₀ := [("one", .loc (.int i)), ("other", .loc (.int j))]) (by intro P; k_is) (by intro P; k_is) (reps2 (by intros; rfl)) (by intro P; kernel_rfl!) (by intro P; kernel_rfl!) (fun u f FR hPo => ?_) (by rfl) (by rfl) (by rfl)

  wtm_at "r"
  refine Br_dec (fun h => ?_) (fun h => ?_)
  · wtm_at "r"
    exact hPo <| Done_has (Has.refl _) ⟨by unfold sg; rw [if_pos h], rfl⟩
  · wtm_at "r"
    refine Br_dec (fun k => ?_) (fun k => ?_)
    · wtm_at "r"
      exact hPo <| Done_has (Has.refl _) ⟨by unfold sg; rw [if_neg h, if_pos k], rfl⟩
    · wtm_at "r"
      exact hPo <| Done_has (Has.refl _) ⟨by unfold sg; rw [if_neg h, if_neg k], rfl⟩
noncomputable def RowidSp (xs : List UInt8) (ks : List Int) : Prop := ∀ (nv nd ba : Addr) (pg i k : Int), 0 ≤ i → ks[i.toNat]? = some k → Spec 4 (.ref 373) [.ref nv, .int i] [(nv, O.inst 397 nd), (nd, O.ns [("data", .ref ba), ("page", .int pg), ("usable", .int 64), ("base", .int 0)]), (ba, O.ba xs)] fun w l => w = .int k ∧ l = [(nv, O.inst 397 nd), (nd, O.ns [("data", .ref ba), ("page", .int pg), ("usable", .int 64), ("base", .int 0)]), (ba, O.ba xs)]
theorem Lf.ids {xs : List UInt8} {rows : Rows} (h : Lf xs rows) : RowidSp xs (rows.map (·.1)) := by
  intro nv nd ba pg i k h0 hk
  rw [List.getElem?_map] at hk
  obtain ⟨q, hq, rfl⟩ := Option.map_eq_some_iff.mp hk
  exact sp_rowid_leaf h h0 hq
theorem Inn.ids {xs : List UInt8} {cs : List (Int × Int)} {r : Int} (h : Inn xs cs r) : RowidSp xs (cs.map (·.2)) := by
  intro nv nd ba pg i k h0 hk
  rw [List.getElem?_map] at hk
  obtain ⟨q, hq, rfl⟩ := Option.map_eq_some_iff.mp hk
  exact sp_rowid_inner h h0 hq
theorem sp_cell_sign {cu nv nd ba : Addr} {pg i k key : Int} {xs : List UInt8} {ks : List Int} (h : RowidSp xs ks) (h0 : 0 ≤ i) (hk : ks[i.toNat]? = some k) :
    Spec 5 (.ref 665) [.ref cu, .ref nv, .int i, .int key] [(nv, O.inst 397 nd), (nd, O.ns [("data", .ref ba), ("page", .int pg), ("usable", .int 64), ("base", .int 0)]), (ba, O.ba xs)] fun w l => w = .int (sg k key) ∧ l = [(nv, O.inst 397 nd), (nd, O.ns [("data", .ref ba), ("page", .int pg), ("usable", .int 64), ("base", .int 0)]), (ba, O.ba xs)] := by
  refine Spec_defR (ps := ["self", "node", "place", "key"]) (ℓ₀ := [("self", .loc (.ref cu)), ("node", .loc (.ref nv)), ("place", .loc (.int i)), ("key", .loc (.int key)), ("sign_of", .glob (.ref 651))]) (by intro P; k_is) (by intro P; k_is) (reps4 (by intros; rfl)) (by intro P; kernel_rfl!) (by intro P; kernel_rfl!) (fun u f FR hPo => ?_) (by rfl) (by rfl) (by rfl)

  wtm_at "r"
  refine CallV_one (h nv nd ba pg i k h0 hk) (by wtm_at "one") (by wtm_at "sel") (by wtm_at "app") ?_
  wtm_at "r"
  refine CallV_one sp_sign_of (by wtm_at "one") (by wtm_at "sel") (by wtm_at "app") ?_
  wtm_at "r"
  wtm_at "fin"
section
variable {tr cu cd ph : Addr}
theorem sp_place_in {state stamp pg K B t key least : Int} {kk cell oct : V} {nv nd ba : Addr} {xs : List UInt8} {ks : List Int} (N : Nd xs K B ks.length) (h : RowidSp xs ks) (hs : ks.Pairwise (· < ·)) (hl : least = 0 ∨ least = 1) (ht : key + least = t) :
    Spec 6 (.ref 464) [.ref cu, .ref nv, .int key, .int least] [(cu, O.inst 703 cd), (cd, O.ns [("btree", .ref tr), ("root", .int 2), ("state", .int state), ("path", .ref ph), ("key", kk), ("cell", cell), ("octets", oct), ("stamp", .int stamp)]), (nv, O.inst 397 nd), (nd, O.ns [("data", .ref ba), ("page", .int pg), ("usable", .int 64), ("base", .int 0)]), (ba, O.ba xs)] fun w l => l = [(cu, O.inst 703 cd), (cd, O.ns [("btree", .ref tr), ("root", .int 2), ("state", .int state), ("path", .ref ph), ("key", kk), ("cell", cell), ("octets", oct), ("stamp", .int stamp)]), (nv, O.inst 397 nd), (nd, O.ns [("data", .ref ba), ("page", .int pg), ("usable", .int 64), ("base", .int 0)]), (ba, O.ba xs)] ∧
      ∃ j : Nat, w = .int j ∧ j ≤ ks.length ∧ ∀ i k, ks[i]? = some k → (i < j ↔ k < t) := by
  have few := N.few
  refine Spec_defR (ps := ["self", "node", "key", "least"]) (ℓ₀ := [("self", .loc (.ref cu)), ("node", .loc (.ref nv)), ("key", .loc (.int key)), ("least", .loc (.int least)), ("low", .unb), ("high", .unb), ("middle", .unb)]) (by intro P; k_is) (by intro P; k_is) (reps4 (by intros; rfl)) (by intro P; kernel_rfl!) (by intro P; kernel_rfl!) (fun u f FR hPo => ?_) (by rfl) (by rfl) (by rfl)

  wtm_at "r"
  wtm_at "call"
  wtm_at "r"
  refine Ex_WhileO (fun k l ℓ => ∃ (lo hi : Int) (s1 : Sl), k = (hi - lo).toNat ∧ 0 ≤ lo ∧ lo ≤ hi ∧ hi ≤ ks.length ∧ l = [(nv, O.inst 397 nd), (nd, O.ns [("data", .ref ba), ("page", .int pg), ("usable", .int 64), ("base", .int 0)]), (ba, O.ba xs), (cu, O.inst 703 cd), (cd, O.ns [("btree", .ref tr), ("root", .int 2), ("state", .int state), ("path", .ref ph), ("key", kk), ("cell", cell), ("octets", oct), ("stamp", .int stamp)])] ∧ Lo s1 ∧
    ℓ = ([("self", .loc (.ref cu)), ("node", .loc (.ref nv)), ("key", .loc (.int key)), ("least", .loc (.int least)), ("low", .loc (.int lo)), ("high", .loc (.int hi)), ("middle", s1)] : Loc) ∧ (∀ (i : Nat) k, i < lo → ks[i]? = some k → k < t) ∧ (∀ (i : Nat) k, hi ≤ i → ks[i]? = some k → t ≤ k)) _
    (inE3 0 ks.length _ ⟨rfl, by lia, by lia, by lia, rfl, Lo.unb, rfl, fun i k q => by lia, fun i k q e => ?_⟩) ?_
  · have := (List.getElem?_eq_some_iff.mp e).1; lia
  rintro J hJ k l ℓ; refine elX3_9 ?_; rintro lo hi s1 rfl h0 h1 h2 rfl l1 rfl h3 h4
  wtm_at "r"
  refine Br_dec (fun hlt => ?_) (fun hge => ?_)
  · obtain ⟨mid, hm, hm0, hm1⟩ : ∃ mid : Nat, (lo + hi).fdiv 2 = (mid : Int) ∧ lo ≤ mid ∧ mid < hi := by
      exact ar_mid h0 hlt
    have hx := List.getElem?_eq_getElem (l := ks) (i := mid) (by lia)
    have hx' : ks[(mid : Int).toNat]? = some ks[mid] := hx
    wtm_at "r"
    refine (Eq.symm (hm)) ▸ ?_
    refine CallV_one (sp_cell_sign h (by lia) hx') (by wtm_at "one") (by wtm_at "sel") (by wtm_at "app") ?_
    wtm_at "r"
    have mono : ∀ (i j : Nat) a b, i < j → ks[i]? = some a → ks[j]? = some b → a < b := fun i j a b hij ha hb => by
      obtain ⟨q1, rfl⟩ := List.getElem?_eq_some_iff.mp ha
      obtain ⟨q2, rfl⟩ := List.getElem?_eq_some_iff.mp hb
      exact List.pairwise_iff_getElem.mp hs i j q1 q2 hij
    refine Br_dec (fun hsg => ?_) (fun hsg => ?_)
    · rw [sg_lt hl, ht] at hsg
      wtm_at "r"
      refine ⟨_, ?_, hJ <| inE3 ((mid : Int) + 1) hi _ ⟨rfl, by lia, by lia, h2, rfl, Lo.loc, rfl, fun i k q e => ?_, h4⟩⟩
      · exact ar_up hm0 hlt
      · by_cases hi : i = mid
        · subst hi; rw [hx] at e; cases e; exact hsg
        · have := mono i mid _ _ (by lia) e hx; exact Int.lt_trans this hsg
    · rw [sg_lt hl, ht] at hsg
      wtm_at "r"
      refine ⟨_, ?_, hJ <| inE3 lo mid _ ⟨rfl, by lia, by lia, by lia, rfl, Lo.loc, rfl, h3, fun i k q e => ?_⟩⟩
      · exact ar_dn hm1 hlt
      · by_cases hi : i = mid
        · subst hi; rw [hx] at e; cases e; exact Int.not_lt.mp hsg
        · have := mono mid i _ _ (by lia) hx e; exact Int.le_trans (Int.not_lt.mp hsg) (Int.le_of_lt this)
  · wtm_at "r"
    refine hPo <| Done_has (by wtm_at "hs") ⟨rfl, lo.toNat, ?_, by lia, fun i k e => ⟨fun q => h3 i k (by lia) e, fun q => ?_⟩⟩
    · rw [Int.toNat_of_nonneg h0]
    · by_cases hi : i < lo.toNat
      · exact hi
      · have := h4 i k (by lia) e
        lia
end

/-! find -/
theorem mem_take_flat {α : Type} {l : List (List α)} {i k : Nat} {r : List α} {x : α} (h : l[i]? = some r) (hx : x ∈ r) (hk : i < k) : x ∈ (l.take k).flatten := by
  refine List.mem_flatten.mpr ⟨r, List.mem_of_getElem? (i := i) ?_, hx⟩
  rw [List.getElem?_take_of_lt hk]; exact h
theorem mem_drop_flat {α : Type} {l : List (List α)} {i k : Nat} {r : List α} {x : α} (h : l[i]? = some r) (hx : x ∈ r) (hk : k ≤ i) : x ∈ (l.drop k).flatten := by
  refine List.mem_flatten.mpr ⟨r, List.mem_of_getElem? (i := i - k) ?_, hx⟩
  rw [List.getElem?_drop, Nat.add_sub_cancel' hk]; exact h
theorem InnAt.seps {S : Int → Rows → Prop} {pages : List (List UInt8)} {p r : Int} {cs : List (Int × Int)} {rss : List Rows} (h : InnAt S pages p cs r rss) : (cs.map (·.2)).Pairwise (· < ·) := by
  rw [List.pairwise_iff_getElem]
  intro i j hi hj hij
  rw [List.length_map] at hi hj
  rw [List.getElem_map, List.getElem_map]
  refine elX2_4 ?_ (h.kid (i := i + 1) (by lia)); rintro c r1 _ hr1 _ hne
  obtain ⟨x, hx⟩ := List.exists_mem_of_ne_nil _ hne
  have a := (h.sep i _ (List.getElem?_eq_getElem hi)).2 x (mem_drop_flat hr1 hx (Nat.le_refl _))
  have b := (h.sep j _ (List.getElem?_eq_getElem hj)).1 x (mem_take_flat hr1 hx (by lia))
  exact Int.lt_of_lt_of_le a b
theorem InnAt.split {S : Int → Rows → Prop} {pages : List (List UInt8)} {p r t : Int} {cs : List (Int × Int)} {rss : List Rows} {j : Nat} (h : InnAt S pages p cs r rss) (hs : ∀ (i : Nat) k, (cs.map (·.2))[i]? = some k → (i < j ↔ k < t)) (hj : j ≤ cs.length) :
    (∀ x ∈ (rss.take j).flatten, x.1 < t) ∧ ∀ x ∈ (rss.drop (j + 1)).flatten, t ≤ x.1 := by
  constructor
  · intro x hx
    cases j with
    | zero => simp at hx
    | succ j =>
      have hc := List.getElem?_eq_getElem (l := cs) (i := j) (by lia)
      have a := (h.sep j _ hc).1 x hx
      have b := (hs j cs[j].2 (by rw [List.getElem?_map, hc]; rfl)).mp (by lia)
      lia
  · intro x hx
    by_cases hl : j < cs.length
    · have hc := List.getElem?_eq_getElem (l := cs) (i := j) hl
      have a := (h.sep j _ hc).2 x hx
      have b := hs j cs[j].2 (by rw [List.getElem?_map, hc]; rfl)
      lia
    · rw [List.drop_eq_nil_of_le (by rw [h.len]; lia)] at hx
      cases hx
noncomputable abbrev Srt (R : Rows) : Prop := R.Pairwise fun x y => x.1 < y.1
theorem leaf_split {rs : Rows} {t : Int} {j : Nat} (hs : ∀ (i : Nat) k, (rs.map (·.1))[i]? = some k → (i < j ↔ k < t)) : (∀ x ∈ rs.take j, x.1 < t) ∧ ∀ x ∈ rs.drop j, t ≤ x.1 := by
  constructor
  · intro x hx
    obtain ⟨i, hi⟩ := List.mem_iff_getElem?.mp hx
    have hl := (List.getElem?_eq_some_iff.mp hi).1
    rw [List.length_take] at hl
    rw [List.getElem?_take_of_lt (by lia)] at hi
    exact (hs i x.1 (by rw [List.getElem?_map, hi]; rfl)).mp (by lia)
  · intro x hx
    obtain ⟨i, hi⟩ := List.mem_iff_getElem?.mp hx
    rw [List.getElem?_drop] at hi
    have := hs (j + i) x.1 (by rw [List.getElem?_map, hi]; rfl)
    lia
theorem Srt.mid {b rs a R : Rows} (h : Srt R) (e : b ++ (rs ++ a) = R) : (rs.map (·.1)).Pairwise (· < ·) := by
  subst e
  have h := (List.pairwise_append.mp (List.pairwise_append.mp h).2.1).1
  exact List.pairwise_map.mpr h
section
variable {tr td ch st sd pl sp : Addr} {kvs : List (Int × V)} {pages : List (List UInt8)} {cu cd ph : Addr} {R : Rows} {D : Nat}
theorem sp_find {state stamp key least t : Int} {kk cell oct : V} (hS : Sub pages D 2 R) (hR : Srt R) (hl : least = 0 ∨ least = 1) (ht : key + least = t) (hD : D ≤ 30) (hz : pages.length ≤ 10000) :
    Spec 7 (.ref 471) [.ref cu, .int key, .int least] [(cu, O.inst 703 cd), (cd, O.ns [("btree", .ref tr), ("root", .int 2), ("state", .int state), ("path", .ref ph), ("key", kk), ("cell", cell), ("octets", oct), ("stamp", .int stamp)]), (tr, O.inst 820 td), (td, O.ns [("pager", .ref st), ("changes", .ref ch)]), (ch, O.dict kvs), (st, O.inst 764 sd), (sd, O.ns [("page_size", .int 64), ("pages", .ref pl), ("spare", .ref sp)]), (pl, O.list (pages.map .bytes))] fun v l => ∃ ph' ss, l = ((cu, O.inst 703 cd) :: (cd, O.ns [("btree", .ref tr), ("root", .int 2), ("state", .int state), ("path", .ref ph'), ("key", kk), ("cell", cell), ("octets", oct), ("stamp", .int stamp)]) :: (ph', .list (stV ss)) :: (tr, O.inst 820 td) :: (td, O.ns [("pager", .ref st), ("changes", .ref ch)]) :: (ch, O.dict kvs) :: (st, O.inst 764 sd) :: (sd, O.ns [("page_size", .int 64), ("pages", .ref pl), ("spare", .ref sp)]) :: (pl, O.list (pages.map .bytes)) :: stL ss) ∧
      ((v = .bool true ∧ ∃ b a, a ≠ [] ∧ Pos pages 2 D R (stP ss) b a ∧ (∀ x ∈ b, x.1 < t) ∧ ∀ x ∈ a, t ≤ x.1) ∨ (v = .bool false ∧ ss = [] ∧ ∀ x ∈ R, x.1 < t)) := by
  refine Spec_defR (ps := ["self", "key", "least"]) (ℓ₀ := [("self", .loc (.ref cu)), ("key", .loc (.int key)), ("least", .loc (.int least)), ("page", .unb), ("depth", .unb), ("node", .unb), ("place", .unb), ("range", .glob (.ty "range")), ("DEEPEST", .glob (.int 40)), ("load_node", .glob (.ref 408)), ("is_leaf", .glob (.ref 193)), ("CorruptError", .glob (.ref 51)), ("str", .glob (.ty "str"))]) (by intro P; k_is) (by intro P; k_is) (reps3 (by intros; rfl)) (by intro P; kernel_rfl!) (by intro P; kernel_rfl!) (fun u f FR hPo => ?_) (by rfl) (by rfl) (by rfl)

  wtm_at "r"
  intro ph'
  wtm_at "r"
  refine Ex_For_rangeO ?_ (by intro _; rfl) (by intro _ _; rfl)
  wtm_at "r"
  intro r
  refine ⟨r, 0, 40, 1, 40, _, rfl, rfl, by decide, by decide, fun m l ℓ => ∃ (ss' : List Step) (p' : Int) (d' : Nat) (b' rs' a' : Rows) (s1 s2 s3 : Sl), Has ((cu, O.inst 703 cd) :: (cd, O.ns [("btree", .ref tr), ("root", .int 2), ("state", .int state), ("path", .ref ph'), ("key", kk), ("cell", cell), ("octets", oct), ("stamp", .int stamp)]) :: (ph', .list (stV ss')) :: (tr, O.inst 820 td) :: (td, O.ns [("pager", .ref st), ("changes", .ref ch)]) :: (ch, O.dict kvs) :: (st, O.inst 764 sd) :: (sd, O.ns [("page_size", .int 64), ("pages", .ref pl), ("spare", .ref sp)]) :: (pl, O.list (pages.map .bytes)) :: stL ss') l ∧ Lo s1 ∧ Lo s2 ∧ Lo s3 ∧
    ℓ = ([("self", .loc (.ref cu)), ("key", .loc (.int key)), ("least", .loc (.int least)), ("page", .loc (.int p')), ("depth", s1), ("node", s2), ("place", s3), ("range", .glob (.ty "range")), ("DEEPEST", .glob (.int 40)), ("load_node", .glob (.ref 408)), ("is_leaf", .glob (.ref 193)), ("CorruptError", .glob (.ref 51)), ("str", .glob (.ty "str"))] : Loc) ∧ Ctx pages 2 D R (stP ss') p' d' b' rs' a' ∧ (∀ x ∈ b', x.1 < t) ∧ (∀ x ∈ a', t ≤ x.1) ∧ m + d' ≤ D,
    inE9 [] 2 D [] R [] _ _ _ ⟨(show Has ((cu, O.inst 703 cd) :: (cd, O.ns [("btree", .ref tr), ("root", .int 2), ("state", .int state), ("path", .ref ph'), ("key", kk), ("cell", cell), ("octets", oct), ("stamp", .int stamp)]) :: (ph', .list []) :: (tr, O.inst 820 td) :: (td, O.ns [("pager", .ref st), ("changes", .ref ch)]) :: (ch, O.dict kvs) :: (st, O.inst 764 sd) :: (sd, O.ns [("page_size", .int 64), ("pages", .ref pl), ("spare", .ref sp)]) :: (pl, O.list (pages.map .bytes)) :: []) _ from by wtm_at "hs"), Lo.unb, Lo.unb, Lo.unb, rfl, .root hS, by simp, by simp, by lia⟩, ?_, ?_⟩
  · rintro J hJ f' m l ℓ hm; refine elE9 ?_; rintro ss' p' d' b' rs' a' s1 s2 s3; refine elA9 ?_; rintro hh l1 l2 l3 rfl hC hb ha hd
    refine Asg_has hh ?_
    have hdeep := hC.deep
    rw [stP_len] at hdeep
    have hsl := stV_len ss'
    cases d' with
    | zero =>
      obtain ⟨xs, hp, hL⟩ := hC.sub.leaf
      have N := hL.nd
      have hids := hL.ids
      have hsm := hR.mid hC.all
      have hN : Nd xs 13 8 (rs'.map (·.1)).length := by rw [List.length_map]; exact N
      wtm_at "r"
      refine CallV_use (sp_load_node hp N.len hz) (by wtm_at "one") (by wtm_at "sel") (E_3_0 ?_)
      rintro nv nd ba
      refine ⟨_, by wtm_at "app", ?_⟩
      wtm_at "r"
      refine CallV_use (sp_place_in hN hids hsm hl ht) (by wtm_at "one") (by wtm_at "sel") ?_
      rintro _ _; refine elA2 ?_; rintro rfl; refine elX1_3 ?_; rintro j rfl hj hjs
      clear hN
      refine ⟨_, by wtm_at "app", ?_⟩
      wtm_at "r"
      rw [List.length_map] at hj
      obtain ⟨sb, sa⟩ := leaf_split hjs
      wtm_at "call"
      wtm_at "r"
      wtm_at "call"
      wtm_at "r"
      wtm_at "call"
      wtm_at "r"
      refine Br_dec (fun h0 => ?_) (fun h0 => ?_)
      · have hn : rs' = [] := List.length_eq_zero_iff.mp (by lia)
        wtm_at "r"
        intro ph2
        wtm_at "r"
        refine hPo <| Done_has (l₀ := ((cu, O.inst 703 cd) :: (cd, O.ns [("btree", .ref tr), ("root", .int 2), ("state", .int state), ("path", .ref ph2), ("key", kk), ("cell", cell), ("octets", oct), ("stamp", .int stamp)]) :: (ph2, .list (stV [])) :: (tr, O.inst 820 td) :: (td, O.ns [("pager", .ref st), ("changes", .ref ch)]) :: (ch, O.dict kvs) :: (st, O.inst 764 sd) :: (sd, O.ns [("page_size", .int 64), ("pages", .ref pl), ("spare", .ref sp)]) :: (pl, O.list (pages.map .bytes)) :: stL [])) (show Has ((cu, O.inst 703 cd) :: (cd, O.ns [("btree", .ref tr), ("root", .int 2), ("state", .int state), ("path", .ref ph2), ("key", kk), ("cell", cell), ("octets", oct), ("stamp", .int stamp)]) :: (ph2, .list []) :: (tr, O.inst 820 td) :: (td, O.ns [("pager", .ref st), ("changes", .ref ch)]) :: (ch, O.dict kvs) :: (st, O.inst 764 sd) :: (sd, O.ns [("page_size", .int 64), ("pages", .ref pl), ("spare", .ref sp)]) :: (pl, O.list (pages.map .bytes)) :: []) _ from by wtm_at "hs") ⟨ph2, [], rfl, .inr ⟨rfl, rfl, fun x hx => ?_⟩⟩
        have hpre : stP ss' = [] := Classical.byContradiction fun h => hC.ne h hn
        rw [hpre] at hC
        obtain ⟨rfl, rfl⟩ := hC.top
        rw [← hC.all, hn] at hx
        cases hx
      wtm_at "r"
      wtm_at "call"
      wtm_at "r"
      refine Br_dec (fun hlt => ?_) (fun hge => ?_)
      · wtm_at "r"
        intro s
        wtm_at "r"
        refine hPo <| Done_has (l₀ := ((cu, O.inst 703 cd) :: (cd, O.ns [("btree", .ref tr), ("root", .int 2), ("state", .int state), ("path", .ref ph'), ("key", kk), ("cell", cell), ("octets", oct), ("stamp", .int stamp)]) :: (ph', .list (stV (ss' ++ [(s, p', (j : Int))]))) :: (tr, O.inst 820 td) :: (td, O.ns [("pager", .ref st), ("changes", .ref ch)]) :: (ch, O.dict kvs) :: (st, O.inst 764 sd) :: (sd, O.ns [("page_size", .int 64), ("pages", .ref pl), ("spare", .ref sp)]) :: (pl, O.list (pages.map .bytes)) :: stL (ss' ++ [(s, p', (j : Int))]))) (by rw [stV_push]; wtm_at "hs") ⟨_, _, rfl, .inl ⟨rfl, b' ++ rs'.take j, rs'.drop j ++ a', ?_, ?_, ?_, ?_⟩⟩
        · intro h
          have := congrArg List.length h
          simp only [List.length_append, List.length_drop, List.length_nil] at this
          lia
        · rw [stP_push]
          exact ⟨_, _, j, _, _, _, rfl, hC, by lia, rfl, rfl⟩
        · intro x hx
          rcases List.mem_append.mp hx with hx | hx
          · exact hb x hx
          · exact sb x hx
        · intro x hx
          rcases List.mem_append.mp hx with hx | hx
          · exact sa x hx
          · exact ha x hx
      · obtain ⟨j', rfl⟩ : ∃ j', j = j' + 1 := ⟨j - 1, by lia⟩
        have ej : (rs'.length : Int) - 1 = (j' : Int) := by lia
        have hx := List.getElem?_eq_getElem (l := rs') (i := j') (by lia)
        have htk : rs'.take (j' + 1) = rs' := List.take_of_length_le (by lia)
        have hall : rs'.take j' ++ [rs'[j']] = rs' := by
          conv => rhs; rw [← htk, List.take_add_one, hx]
          rfl
        have hdr : rs'.drop (j' + 1) = [] := List.drop_eq_nil_of_le (by lia)
        wtm_at "r"
        wtm_at "call"
        wtm_at "r"
        refine (Eq.symm (ej)) ▸ ?_
        intro s
        wtm_at "r"
        have hP : Pos pages 2 D R (stP (ss' ++ [(s, p', (j' : Int))])) (b' ++ rs'.take j') (rs'[j'] :: a') := by
          rw [stP_push]
          refine ⟨_, _, j', _, _, _, rfl, hC, by lia, rfl, ?_⟩
          rw [List.drop_eq_getElem_cons (i := j') (by lia), hdr]; rfl
        refine CallV_k (sp_forward hP hD hz) (by wtm_at "one") (by rw [stV_push]; wtm_at "hr") ?_
        rintro v l'; refine elX1_2 ?_; rintro ss3 rfl h3
        refine ⟨_, by wtm_at "app", ?_⟩
        wtm_at "r"
        refine hPo <| Done_has (by wtm_at "hs") ⟨ph', ss3, rfl, ?_⟩
        rw [List.append_assoc, hall] at h3
        have hbb : ∀ x ∈ b' ++ rs', x.1 < t := by
          intro x hx
          rcases List.mem_append.mp hx with hx | hx
          · exact hb x hx
          · rw [htk] at sb; exact sb x hx
        rcases h3 with ⟨rfl, hne, hP3⟩ | ⟨rfl, hn, e3⟩
        · exact .inl ⟨rfl, _, a', hne, hP3, hbb, ha⟩
        · refine .inr ⟨rfl, e3, fun x hx => ?_⟩
          rw [← hC.all, hn, List.append_nil] at hx
          exact hbb x hx
    | succ d' =>
      refine elX3_2 ?_ hC.sub.inner; rintro cs r0 rss hI rfl
      obtain ⟨xs, hp, hL⟩ := hI.pg
      have N := hL.nd
      have hids := hL.ids
      have hN : Nd xs 5 12 (cs.map (·.2)).length := by rw [List.length_map]; exact N
      have hsm := hI.seps
      wtm_at "r"
      refine CallV_use (sp_load_node hp N.len hz) (by wtm_at "one") (by wtm_at "sel") (E_3_0 ?_)
      rintro nv nd ba
      refine ⟨_, by wtm_at "app", ?_⟩
      wtm_at "r"
      refine CallV_use (sp_place_in hN hids hsm hl ht) (by wtm_at "one") (by wtm_at "sel") ?_
      rintro _ _; refine elA2 ?_; rintro rfl; refine elX1_3 ?_; rintro j rfl hj hjs
      clear hN
      refine ⟨_, by wtm_at "app", ?_⟩
      wtm_at "r"
      rw [List.length_map] at hj
      obtain ⟨sb, sa⟩ := hI.split hjs hj
      refine elX2_4 ?_ (hI.kid hj); rintro c r1 hc hr1 hs1 hne
      wtm_at "call"
      wtm_at "r"
      wtm_at "call"
      wtm_at "r"
      intro s
      wtm_at "r"
      refine CallV_one (sp_child hL (i := (j : Int)) (by lia) hc) (by wtm_at "one") (by wtm_at "sel") (by wtm_at "app") ?_
      wtm_at "r"
      refine hJ <| inE9 (ss' ++ [(s, p', (j : Int))]) c d' _ r1 _ _ _ _ ⟨by rw [stV_push]; wtm_at "hs", Lo.loc, Lo.loc, Lo.loc, rfl, by rw [stP_push]; exact .down j hC hI hc hr1, ?_, ?_, by lia⟩
      · intro x hx
        rcases List.mem_append.mp hx with hx | hx
        · exact hb x hx
        · exact sb x hx
      · intro x hx
        rcases List.mem_append.mp hx with hx | hx
        · exact sa x hx
        · exact ha x hx
  · rintro l ℓ; refine elE9 ?_; rintro ss' p' d' b' rs' a' s1 s2 s3; refine elA9 ?_; rintro hh l1 l2 l3 rfl hC hb ha hd
    lia
end

/-! arrive -/
theorem Pos.leaf {pages : List (List UInt8)} {D : Nat} {R b a : Rows} {ss : List Step} {x : Int × Int} (h : Pos pages 2 D R (stP ss) b (x :: a)) :
    ∃ (ss0 : List Step) (s : Addr) (leaf : Int) (i : Nat) (rs : Rows) (xs : List UInt8), ss = ss0 ++ [(s, leaf, (i : Int))] ∧ pgAt pages leaf xs ∧ Lf xs rs ∧ rs[i]? = some x ∧ ss0.length ≤ D := by
  refine elE7 ?_ h.last; rintro ss0 s leaf i rs b' a'; refine elA5 ?_; rintro e hC hi e1 e2
  obtain ⟨xs, hp, hL⟩ := hC.sub.leaf
  refine ⟨ss0, s, leaf, i, rs, xs, e, hp, hL, ?_, ?_⟩
  · rw [List.drop_eq_getElem_cons hi] at e2
    rw [List.getElem?_eq_getElem hi, (List.cons.inj e2).1]
  · have := hC.deep; rw [stP_len] at this; lia
section
variable {tr td ch st sd pl sp : Addr} {kvs : List (Int × V)} {pages : List (List UInt8)} {cu cd ph : Addr} {R : Rows} {D : Nat} {N : Int}
theorem sp_changes {state stamp : Int} {key cell oct : V} (hN : (dAt kvs 2).getD (.int 0) = .int N) :
    Spec 1 (.ref 429) [.ref cu] [(cu, O.inst 703 cd), (cd, O.ns [("btree", .ref tr), ("root", .int 2), ("state", .int state), ("path", .ref ph), ("key", key), ("cell", cell), ("octets", oct), ("stamp", .int stamp)]), (tr, O.inst 820 td), (td, O.ns [("pager", .ref st), ("changes", .ref ch)]), (ch, O.dict kvs), (st, O.inst 764 sd), (sd, O.ns [("page_size", .int 64), ("pages", .ref pl), ("spare", .ref sp)]), (pl, O.list (pages.map .bytes))] fun v l => v = .int N ∧ l = [(cu, O.inst 703 cd), (cd, O.ns [("btree", .ref tr), ("root", .int 2), ("state", .int state), ("path", .ref ph), ("key", key), ("cell", cell), ("octets", oct), ("stamp", .int stamp)]), (tr, O.inst 820 td), (td, O.ns [("pager", .ref st), ("changes", .ref ch)]), (ch, O.dict kvs), (st, O.inst 764 sd), (sd, O.ns [("page_size", .int 64), ("pages", .ref pl), ("spare", .ref sp)]), (pl, O.list (pages.map .bytes))] := by
  refine Spec_defR (ps := ["self"]) (ℓ₀ := [("self", .loc (.ref cu))]) (by intro P; k_is) (by intro P; k_is) (reps1 (by intros; rfl)) (by intro P; kernel_rfl!) (by intro P; kernel_rfl!) (fun u f FR hPo => ?_) (by rfl) (by rfl) (by rfl)

  wtm_at "r"
  refine (Eq.symm (hN)) ▸ ?_
  wtm_at "r"
  wtm_at "fin"
theorem sp_take_key {state stamp k : Int} {key oct : V} {ce ed : Addr} {loc : List UInt8} :
    Spec 1 (.ref 672) [.ref cu] [(cu, O.inst 703 cd), (cd, O.ns [("btree", .ref tr), ("root", .int 2), ("state", .int state), ("path", .ref ph), ("key", key), ("cell", .ref ce), ("octets", oct), ("stamp", .int stamp)]), (ce, O.inst 252 ed), (ed, O.ns [("child", .int 0), ("rowid", .int k), ("size", .int 3), ("local", .bytes loc), ("overflow", .int 0)])] fun v l => v = .none ∧ l = [(cu, O.inst 703 cd), (cd, O.ns [("btree", .ref tr), ("root", .int 2), ("state", .int state), ("path", .ref ph), ("key", .int k), ("cell", .ref ce), ("octets", oct), ("stamp", .int stamp)]), (ce, O.inst 252 ed), (ed, O.ns [("child", .int 0), ("rowid", .int k), ("size", .int 3), ("local", .bytes loc), ("overflow", .int 0)])] := by
  refine Spec_defR (ps := ["self"]) (ℓ₀ := [("self", .loc (.ref cu))]) (by intro P; k_is) (by intro P; k_is) (reps1 (by intros; rfl)) (by intro P; kernel_rfl!) (by intro P; kernel_rfl!) (fun u f FR hPo => ?_) (by rfl) (by rfl) (by rfl)

  wtm_at "r"
  wtm_at "fin"
local macro_rules | `(tactic| wtm_at "call") => tCall "sp_changes as"
local macro_rules | `(tactic| wtm_at "call") => tCall "sp_take_key"
theorem sp_arrive_no {state stamp : Int} {key cell oct : V} (hN : (dAt kvs 2).getD (.int 0) = .int N) :
    Spec 2 (.ref 478) [.ref cu, .bool false] [(cu, O.inst 703 cd), (cd, O.ns [("btree", .ref tr), ("root", .int 2), ("state", .int state), ("path", .ref ph), ("key", key), ("cell", cell), ("octets", oct), ("stamp", .int stamp)]), (tr, O.inst 820 td), (td, O.ns [("pager", .ref st), ("changes", .ref ch)]), (ch, O.dict kvs), (st, O.inst 764 sd), (sd, O.ns [("page_size", .int 64), ("pages", .ref pl), ("spare", .ref sp)]), (pl, O.list (pages.map .bytes))] fun v l => ∃ ph', v = .bool false ∧ l = [(cu, O.inst 703 cd), (cd, O.ns [("btree", .ref tr), ("root", .int 2), ("state", .int 0), ("path", .ref ph'), ("key", .none), ("cell", .none), ("octets", .none), ("stamp", .int N)]), (ph', O.list []), (tr, O.inst 820 td), (td, O.ns [("pager", .ref st), ("changes", .ref ch)]), (ch, O.dict kvs), (st, O.inst 764 sd), (sd, O.ns [("page_size", .int 64), ("pages", .ref pl), ("spare", .ref sp)]), (pl, O.list (pages.map .bytes))] := by
  refine Spec_defR (ps := ["self", "found"]) (ℓ₀ := [("self", .loc (.ref cu)), ("found", .loc (.bool false)), ("step", .unb), ("NOWHERE", .glob (.int 0)), ("load_node", .glob (.ref 408)), ("ON_ROW", .glob (.int 1))]) (by intro P; k_is) (by intro P; k_is) (reps2 (by intros; rfl)) (by intro P; kernel_rfl!) (by intro P; kernel_rfl!) (fun u f FR hPo => ?_) (by rfl) (by rfl) (by rfl)

  wtm_at "r"
  wtm_at "call"
  wtm_at "r"
  intro ph'
  wtm_at "r"
  exact hPo <| Done_has (by wtm_at "hs") ⟨ph', rfl, rfl⟩
theorem sp_arrive_yes {state stamp : Int} {key cell oct : V} {ss : List Step} {b a : Rows} {x : Int × Int} (hP : Pos pages 2 D R (stP ss) b (x :: a)) (hN : (dAt kvs 2).getD (.int 0) = .int N) (hD : D ≤ 30) (hz : pages.length ≤ 10000) :
    Spec 5 (.ref 478) [.ref cu, .bool true] ((cu, O.inst 703 cd) :: (cd, O.ns [("btree", .ref tr), ("root", .int 2), ("state", .int state), ("path", .ref ph), ("key", key), ("cell", cell), ("octets", oct), ("stamp", .int stamp)]) :: (ph, O.list (stV ss)) :: (tr, O.inst 820 td) :: (td, O.ns [("pager", .ref st), ("changes", .ref ch)]) :: (ch, O.dict kvs) :: (st, O.inst 764 sd) :: (sd, O.ns [("page_size", .int 64), ("pages", .ref pl), ("spare", .ref sp)]) :: (pl, O.list (pages.map .bytes)) :: stL ss) fun v l => ∃ ce ed loc, Rec loc x.2 ∧ v = .bool true ∧
      l = ((cu, O.inst 703 cd) :: (cd, O.ns [("btree", .ref tr), ("root", .int 2), ("state", .int 1), ("path", .ref ph), ("key", .int x.1), ("cell", .ref ce), ("octets", .none), ("stamp", .int N)]) :: (ph, O.list (stV ss)) :: (ce, O.inst 252 ed) :: (ed, O.ns [("child", .int 0), ("rowid", .int x.1), ("size", .int 3), ("local", .bytes loc), ("overflow", .int 0)]) :: (tr, O.inst 820 td) :: (td, O.ns [("pager", .ref st), ("changes", .ref ch)]) :: (ch, O.dict kvs) :: (st, O.inst 764 sd) :: (sd, O.ns [("page_size", .int 64), ("pages", .ref pl), ("spare", .ref sp)]) :: (pl, O.list (pages.map .bytes)) :: stL ss) := by
  refine elE6 ?_ hP.leaf; rintro ss0 s leaf i rs xs; refine elA5 ?_; rintro rfl hp hL hx hdeep
  have hsl : (stV ss0 ++ [V.ref s]).length ≤ 10000 := by rw [List.length_append, stV_len]; simp; lia
  have M := hL.nd
  refine Spec_defR (ps := ["self", "found"]) (ℓ₀ := [("self", .loc (.ref cu)), ("found", .loc (.bool true)), ("step", .unb), ("NOWHERE", .glob (.int 0)), ("load_node", .glob (.ref 408)), ("ON_ROW", .glob (.int 1))]) (by intro P; k_is) (by intro P; k_is) (reps2 (by intros; rfl)) (by intro P; kernel_rfl!) (by intro P; kernel_rfl!) (fun u f FR hPo => ?_) (by rfl) (by rfl) (by rfl)

  refine Exs_has (l₀ := ((s, O.list [.int leaf, .int i]) :: (cu, O.inst 703 cd) :: (cd, O.ns [("btree", .ref tr), ("root", .int 2), ("state", .int state), ("path", .ref ph), ("key", key), ("cell", cell), ("octets", oct), ("stamp", .int stamp)]) :: (ph, .list (stV ss0 ++ [.ref s])) :: (tr, O.inst 820 td) :: (td, O.ns [("pager", .ref st), ("changes", .ref ch)]) :: (ch, O.dict kvs) :: (st, O.inst 764 sd) :: (sd, O.ns [("page_size", .int 64), ("pages", .ref pl), ("spare", .ref sp)]) :: (pl, O.list (pages.map .bytes)) :: stL ss0)) ?_ ?_
  · rw [stV_push]
    refine Has.trans (b := ((cu, O.inst 703 cd) :: (cd, O.ns [("btree", .ref tr), ("root", .int 2), ("state", .int state), ("path", .ref ph), ("key", key), ("cell", cell), ("octets", oct), ("stamp", .int stamp)]) :: (ph, .list (stV ss0 ++ [.ref s])) :: (tr, O.inst 820 td) :: (td, O.ns [("pager", .ref st), ("changes", .ref ch)]) :: (ch, O.dict kvs) :: (st, O.inst 764 sd) :: (sd, O.ns [("page_size", .int 64), ("pages", .ref pl), ("spare", .ref sp)]) :: (pl, O.list (pages.map .bytes)) :: (s, O.list [.int leaf, .int i]) :: stL ss0)) (by wtm_at "hs") ?_
    wtm_at "pop"
  wtm_at "r"
  wtm_at "call"
  wtm_at "r"
  refine CallV_use (sp_load_node hp M.len hz) (by wtm_at "one") (by wtm_at "sel") (E_3_0 ?_)
  rintro nv nd ba
  refine ⟨_, by wtm_at "app", ?_⟩
  wtm_at "r"
  refine CallV_use (sp_cell hL (i := (i : Int)) (by lia) hx) (by wtm_at "one") (by wtm_at "sel") ?_
  rintro _ _; refine elX3_3 ?_; rintro ce ed loc hR rfl rfl
  refine ⟨_, by wtm_at "app", ?_⟩
  wtm_at "r"
  wtm_at "call"
  wtm_at "r"
  exact hPo <| Done_has (by rw [stV_push]; wtm_at "hs") ⟨ce, ed, loc, hR, rfl, rfl⟩
end

local macro_rules | `(tactic| wtm_at "call") => tCall "sp_changes as"
local macro_rules | `(tactic| wtm_at "call") => tCall "sp_take_key"
/-! where the cursor stands -/
theorem Itm_has {u : U} {n : Nat} {f : Fm} {l l₀ : Led} {ℓ : Loc} {a i : V} {P : V → Led → Prop} (h : Has l₀ l) (k : ItmV u n f l₀ ℓ a i P) : ItmV u n f l ℓ a i P := fun x y v s a b c => W.has h (k x y v s a b c)
inductive CurF (cu cd tr td ch st sd pl sp : Addr) (kvs : List (Int × V)) (pages : List (List UInt8)) (R : Rows) (D : Nat) (N : Int) : Option Int → Led → Prop
  | no {ph stamp} : CurF cu cd tr td ch st sd pl sp kvs pages R D N none [(cu, O.inst 703 cd), (cd, O.ns [("btree", .ref tr), ("root", .int 2), ("state", .int 0), ("path", .ref ph), ("key", .none), ("cell", .none), ("octets", .none), ("stamp", .int stamp)]), (ph, O.list []), (tr, O.inst 820 td), (td, O.ns [("pager", .ref st), ("changes", .ref ch)]), (ch, O.dict kvs), (st, O.inst 764 sd), (sd, O.ns [("page_size", .int 64), ("pages", .ref pl), ("spare", .ref sp)]), (pl, O.list (pages.map .bytes))]
  | row {ph ss b a k v ce ed loc oct} : Pos pages 2 D R (stP ss) b ((k, v) :: a) → Rec loc v → (oct = .none ∨ oct = .bytes loc) →
      CurF cu cd tr td ch st sd pl sp kvs pages R D N (some k) ((cu, O.inst 703 cd) :: (cd, O.ns [("btree", .ref tr), ("root", .int 2), ("state", .int 1), ("path", .ref ph), ("key", .int k), ("cell", .ref ce), ("octets", oct), ("stamp", .int N)]) :: (ph, O.list (stV ss)) :: (ce, O.inst 252 ed) :: (ed, O.ns [("child", .int 0), ("rowid", .int k), ("size", .int 3), ("local", .bytes loc), ("overflow", .int 0)]) :: (tr, O.inst 820 td) :: (td, O.ns [("pager", .ref st), ("changes", .ref ch)]) :: (ch, O.dict kvs) :: (st, O.inst 764 sd) :: (sd, O.ns [("page_size", .int 64), ("pages", .ref pl), ("spare", .ref sp)]) :: (pl, O.list (pages.map .bytes)) :: stL ss)
  | gap {ph ss b a k} : b ++ a = R → (a = [] ∧ ss = []) ∨ (a ≠ [] ∧ Pos pages 2 D R (stP ss) b a) → (∀ x ∈ b, x.1 < k) → (∀ x ∈ a, k < x.1) →
      CurF cu cd tr td ch st sd pl sp kvs pages R D N (some k) ((cu, O.inst 703 cd) :: (cd, O.ns [("btree", .ref tr), ("root", .int 2), ("state", .int 2), ("path", .ref ph), ("key", .int k), ("cell", .none), ("octets", .none), ("stamp", .int N)]) :: (ph, O.list (stV ss)) :: (tr, O.inst 820 td) :: (td, O.ns [("pager", .ref st), ("changes", .ref ch)]) :: (ch, O.dict kvs) :: (st, O.inst 764 sd) :: (sd, O.ns [("page_size", .int 64), ("pages", .ref pl), ("spare", .ref sp)]) :: (pl, O.list (pages.map .bytes)) :: stL ss)
inductive CurA (cu cd tr td ch st sd pl sp : Addr) (kvs : List (Int × V)) (pages : List (List UInt8)) (R : Rows) (D : Nat) (N : Int) : Option Int → Led → Prop
  | fresh {here l} : CurF cu cd tr td ch st sd pl sp kvs pages R D N here l → CurA cu cd tr td ch st sd pl sp kvs pages R D N here l
  | stale {ph state k cell oct stamp} : (state = 1 ∨ state = 2) → stamp ≠ N → CurA cu cd tr td ch st sd pl sp kvs pages R D N (some k) [(cu, O.inst 703 cd), (cd, O.ns [("btree", .ref tr), ("root", .int 2), ("state", .int state), ("path", .ref ph), ("key", .int k), ("cell", cell), ("octets", oct), ("stamp", .int stamp)]), (tr, O.inst 820 td), (td, O.ns [("pager", .ref st), ("changes", .ref ch)]), (ch, O.dict kvs), (st, O.inst 764 sd), (sd, O.ns [("page_size", .int 64), ("pages", .ref pl), ("spare", .ref sp)]), (pl, O.list (pages.map .bytes))]
structure Wd (kvs : List (Int × V)) (pages : List (List UInt8)) (R : Rows) (D : Nat) (N : Int) : Prop where
  sub : Sub pages D 2 R
  srt : Srt R
  chg : (dAt kvs 2).getD (.int 0) = .int N
  deep : D ≤ 30
  few : pages.length ≤ 10000
theorem Srt.after {b a R : Rows} {x : Int × Int} (h : Srt R) (e : b ++ x :: a = R) : (∀ y ∈ b, y.1 < x.1) ∧ ∀ y ∈ a, x.1 < y.1 := by
  subst e
  obtain ⟨_, h2, h3⟩ := List.pairwise_append.mp h
  exact ⟨fun y hy => h3 y hy x (.head _), (List.pairwise_cons.mp h2).1⟩
section
variable {tr td ch st sd pl sp : Addr} {kvs : List (Int × V)} {pages : List (List UInt8)} {cu cd : Addr} {R : Rows} {D : Nat} {N : Int}
theorem sp_settle {here : Option Int} {l : Led} (h : CurA cu cd tr td ch st sd pl sp kvs pages R D N here l) (w : Wd kvs pages R D N) : Spec 8 (.ref 485) [.ref cu] l fun v l' => v = .none ∧ CurF cu cd tr td ch st sd pl sp kvs pages R D N here l' := by
  obtain ⟨hS, hsrt, hN, hD, hz⟩ := w
  rcases h with h | @⟨ph, state, k, cell, oct, stamp, hst, hne⟩
  · cases h with
    | @no ph stamp =>
      refine Spec_defR (ps := ["self"]) (ℓ₀ := [("self", .loc (.ref cu)), ("key", .unb), ("found", .unb), ("step", .unb), ("NOWHERE", .glob (.int 0)), ("load_node", .glob (.ref 408)), ("IN_GAP", .glob (.int 2))]) (by intro P; k_is) (by intro P; k_is) (reps1 (by intros; rfl)) (by intro P; kernel_rfl!) (by intro P; kernel_rfl!) (fun u f FR hPo => ?_) (by rfl) (by rfl) (by rfl)

      wtm_at "r"
      exact hPo <| Done_has (Has.refl _) ⟨rfl, .no⟩
    | @row ph ss b a k v ce ed loc oct hP hR ho =>
      refine Spec_defR (ps := ["self"]) (ℓ₀ := [("self", .loc (.ref cu)), ("key", .unb), ("found", .unb), ("step", .unb), ("NOWHERE", .glob (.int 0)), ("load_node", .glob (.ref 408)), ("IN_GAP", .glob (.int 2))]) (by intro P; k_is) (by intro P; k_is) (reps1 (by intros; rfl)) (by intro P; kernel_rfl!) (by intro P; kernel_rfl!) (fun u f FR hPo => ?_) (by rfl) (by rfl) (by rfl)

      wtm_at "r"
      wtm_at "call"
      wtm_at "r"
      exact hPo <| Done_has (by wtm_at "hs") ⟨rfl, .row hP hR ho⟩
    | @gap ph ss b a k e hP h1 h2 =>
      refine Spec_defR (ps := ["self"]) (ℓ₀ := [("self", .loc (.ref cu)), ("key", .unb), ("found", .unb), ("step", .unb), ("NOWHERE", .glob (.int 0)), ("load_node", .glob (.ref 408)), ("IN_GAP", .glob (.int 2))]) (by intro P; k_is) (by intro P; k_is) (reps1 (by intros; rfl)) (by intro P; kernel_rfl!) (by intro P; kernel_rfl!) (fun u f FR hPo => ?_) (by rfl) (by rfl) (by rfl)

      wtm_at "r"
      wtm_at "call"
      wtm_at "r"
      exact hPo <| Done_has (by wtm_at "hs") ⟨rfl, .gap e hP h1 h2⟩
  · skip
    refine Spec_defR (ps := ["self"]) (ℓ₀ := [("self", .loc (.ref cu)), ("key", .unb), ("found", .unb), ("step", .unb), ("NOWHERE", .glob (.int 0)), ("load_node", .glob (.ref 408)), ("IN_GAP", .glob (.int 2))]) (by intro P; k_is) (by intro P; k_is) (reps1 (by intros; rfl)) (by intro P; kernel_rfl!) (by intro P; kernel_rfl!) (fun u f FR hPo => ?_) (by rfl) (by rfl) (by rfl)

    wtm_at "r"
    wtm_at "call"
    wtm_at "r"
    refine CallV_k (sp_find (t := k) hS hsrt (.inl rfl) (by lia) hD hz) (by wtm_at "one") (by wtm_at "hr") ?_
    rintro v l'; refine elX2_2 ?_; rintro ph' ss rfl h3
    refine ⟨_, by wtm_at "app", ?_⟩
    rcases h3 with ⟨rfl, b, a, hne, hP, hb, ha⟩ | ⟨rfl, rfl, hb⟩
    · obtain ⟨x, a', rfl⟩ := List.exists_cons_of_ne_nil hne
      refine elE6 ?_ hP.leaf; rintro ss0 s leaf i rs xs; refine elA5 ?_; rintro rfl hp hL hx hdeep
      have hsl : (stV ss0 ++ [V.ref s]).length ≤ 10000 := by rw [List.length_append, stV_len]; simp; lia
      have M := hL.nd
      have hids := hL.ids
      have hx' : (rs.map (·.1))[(i : Int).toNat]? = some x.1 := by rw [List.getElem?_map, Int.toNat_natCast, hx]; rfl
      wtm_at "r"
      refine Itm_has (l₀ := ((s, O.list [.int leaf, .int i]) :: (cu, O.inst 703 cd) :: (cd, O.ns [("btree", .ref tr), ("root", .int 2), ("state", .int state), ("path", .ref ph'), ("key", .int k), ("cell", cell), ("octets", oct), ("stamp", .int stamp)]) :: (ph', .list (stV ss0 ++ [.ref s])) :: (tr, O.inst 820 td) :: (td, O.ns [("pager", .ref st), ("changes", .ref ch)]) :: (ch, O.dict kvs) :: (st, O.inst 764 sd) :: (sd, O.ns [("page_size", .int 64), ("pages", .ref pl), ("spare", .ref sp)]) :: (pl, O.list (pages.map .bytes)) :: stL ss0)) ?_ ?_
      · rw [stV_push]
        refine Has.trans (b := ((cu, O.inst 703 cd) :: (cd, O.ns [("btree", .ref tr), ("root", .int 2), ("state", .int state), ("path", .ref ph'), ("key", .int k), ("cell", cell), ("octets", oct), ("stamp", .int stamp)]) :: (ph', .list (stV ss0 ++ [.ref s])) :: (tr, O.inst 820 td) :: (td, O.ns [("pager", .ref st), ("changes", .ref ch)]) :: (ch, O.dict kvs) :: (st, O.inst 764 sd) :: (sd, O.ns [("page_size", .int 64), ("pages", .ref pl), ("spare", .ref sp)]) :: (pl, O.list (pages.map .bytes)) :: (s, O.list [.int leaf, .int i]) :: stL ss0)) (by wtm_at "hs") ?_
        wtm_at "pop"
      wtm_at "r"
      refine CallV_use (sp_load_node hp M.len hz) (by wtm_at "one") (by wtm_at "sel") (E_3_0 ?_)
      rintro nv nd ba
      refine ⟨_, by wtm_at "app", ?_⟩
      wtm_at "r"
      refine CallV_one (sp_cell_sign hids (by lia) hx') (by wtm_at "one") (by wtm_at "sel") (by wtm_at "app") ?_
      wtm_at "r"
      have hall := hP.all
      refine Br_dec (fun hsg => ?_) (fun hsg => ?_)
      · rw [sg_zero] at hsg
        subst hsg
        wtm_at "r"
        refine CallV_k (sp_arrive_yes hP hN hD hz) (by wtm_at "one") (by rw [stV_push]; wtm_at "hr") ?_
        rintro v l'; refine elX3_3 ?_; rintro ce ed loc hR rfl rfl
        refine ⟨_, by wtm_at "app", ?_⟩
        wtm_at "r"
        exact hPo <| Done_has (by wtm_at "hs") ⟨rfl, .row hP hR (.inl rfl)⟩
      · rw [sg_zero] at hsg
        wtm_at "r"
        wtm_at "call"
        wtm_at "r"
        refine hPo <| Done_nxt (l₀ := ((cu, O.inst 703 cd) :: (cd, O.ns [("btree", .ref tr), ("root", .int 2), ("state", .int 2), ("path", .ref ph'), ("key", .int k), ("cell", .none), ("octets", .none), ("stamp", .int N)]) :: (ph', O.list (stV (ss0 ++ [(s, leaf, (i : Int))]))) :: (tr, O.inst 820 td) :: (td, O.ns [("pager", .ref st), ("changes", .ref ch)]) :: (ch, O.dict kvs) :: (st, O.inst 764 sd) :: (sd, O.ns [("page_size", .int 64), ("pages", .ref pl), ("spare", .ref sp)]) :: (pl, O.list (pages.map .bytes)) :: stL (ss0 ++ [(s, leaf, (i : Int))]))) (by rw [stV_push]; wtm_at "hs") ⟨rfl, .gap hall (.inr ⟨hne, hP⟩) hb fun y hy => ?_⟩
        have h1 := ha x (.head _)
        rcases List.mem_cons.mp hy with rfl | hy
        · lia
        · have := (hsrt.after hall).2 y hy; lia
    · wtm_at "r"
      wtm_at "call"
      wtm_at "r"
      exact hPo <| Done_nxt (l₀ := ((cu, O.inst 703 cd) :: (cd, O.ns [("btree", .ref tr), ("root", .int 2), ("state", .int 2), ("path", .ref ph'), ("key", .int k), ("cell", .none), ("octets", .none), ("stamp", .int N)]) :: (ph', O.list (stV [])) :: (tr, O.inst 820 td) :: (td, O.ns [("pager", .ref st), ("changes", .ref ch)]) :: (ch, O.dict kvs) :: (st, O.inst 764 sd) :: (sd, O.ns [("page_size", .int 64), ("pages", .ref pl), ("spare", .ref sp)]) :: (pl, O.list (pages.map .bytes)) :: stL [])) (by wtm_at "hs") ⟨rfl, .gap (a := []) (by simp) (.inl ⟨rfl, rfl⟩) hb (by simp)⟩
end

/-! the cursor's moves -/
noncomputable def IsGe (R : Rows) (t : Int) : Option Int → Prop
  | none => ∀ x ∈ R, x.1 < t
  | some k => t ≤ k ∧ (∃ v, (k, v) ∈ R) ∧ ∀ x ∈ R, t ≤ x.1 → k ≤ x.1
noncomputable def IsLt (R : Rows) (t : Int) : Option Int → Prop
  | none => ∀ x ∈ R, t ≤ x.1
  | some k => k < t ∧ (∃ v, (k, v) ∈ R) ∧ ∀ x ∈ R, x.1 < t → x.1 ≤ k
theorem isGe_cons {b a R : Rows} {x : Int × Int} {t : Int} (e : b ++ x :: a = R) (hs : Srt R) (hb : ∀ y ∈ b, y.1 < t) (hx : t ≤ x.1) : IsGe R t (some x.1) := by
  refine ⟨hx, ⟨x.2, by rw [← e]; simp⟩, fun y hy ht => ?_⟩
  have h := hs.after e
  rw [← e] at hy
  rcases List.mem_append.mp hy with hy | hy
  · have := hb y hy; lia
  · rcases List.mem_cons.mp hy with rfl | hy
    · lia
    · have := h.2 y hy; lia
theorem isLt_snoc {b a R : Rows} {x : Int × Int} {t : Int} (e : b ++ x :: a = R) (hs : Srt R) (ha : ∀ y ∈ a, t ≤ y.1) (hx : x.1 < t) : IsLt R t (some x.1) := by
  refine ⟨hx, ⟨x.2, by rw [← e]; simp⟩, fun y hy ht => ?_⟩
  have h := hs.after e
  rw [← e] at hy
  rcases List.mem_append.mp hy with hy | hy
  · have := h.1 y hy; lia
  · rcases List.mem_cons.mp hy with rfl | hy
    · lia
    · have := ha y hy; lia
noncomputable def On (R : Rows) : Option Int → Bool
  | none => false
  | some k => R.any fun x => x.1 == k
theorem On.yes {R b a : Rows} {k v : Int} (e : b ++ (k, v) :: a = R) : On R (some k) = true := by
  subst e; simp [On]
theorem On.no {R b a : Rows} {k : Int} (e : b ++ a = R) (hb : ∀ x ∈ b, x.1 < k) (ha : ∀ x ∈ a, k < x.1) : On R (some k) = false := by
  subst e
  simp only [On, List.any_append, Bool.or_eq_false_iff, List.any_eq_false, beq_iff_eq]
  exact ⟨fun x hx => by have := hb x hx; lia, fun x hx => by have := ha x hx; lia⟩
theorem CallV_all {u : U} {n : Nat} {f : Fm} {l : Led} {ℓ : Loc} {k : Nat} {fn : V} {args : List V} {post : V → Led → Prop} {P : V → Led → Prop} (sp : Spec k fn args l post) (hk : k ≤ n) (q : ∀ v l', post v l' → P v l') : CallV u n f l ℓ fn args P :=
  CallV_h sp hk [] (by rw [List.append_nil]; exact Has.refl _) q
theorem Spec.le {k n : Nat} {fn : V} {args : List V} {pre : Led} {post : V → Led → Prop} (sp : Spec k fn args pre post) (h : k ≤ n) : Spec n fn args pre post :=
  fun u A s x xs hu hr rx rxs kb pk => sp u A s x xs hu (hr.le h) rx rxs kb pk
/-- what a callee has no use for may be handed to it and is forgotten -/
theorem Spec.weak {n : Nat} {fn : V} {args : List V} {pre l : Led} {post : V → Led → Prop} (sp : Spec n fn args pre post) (h : Has pre l) : Spec n fn args l post := by
  intro u A s x xs hu hr rx rxs kb pk
  obtain ⟨r, p⟩ := h
  have hm : ∀ q, q ∈ pre → q ∈ l := fun q hq => p.mem_iff.mpr (List.mem_append_left _ hq)
  have hk : ∀ b, b ∈ pre.map (·.1) → b ∈ l.map (·.1) := fun b hb => by
    obtain ⟨q, hq, rfl⟩ := List.mem_map.mp hb
    exact List.mem_map_of_mem (hm q hq)
  have nd := (p.map (·.1)).nodup_iff.mp pk.nodup
  rw [List.map_append] at nd
  refine codeX_mono (sp u A s x xs hu hr rx rxs kb ⟨(List.nodup_append.mp nd).1, fun q hq => pk.led q (hm q hq)⟩) ?_
  rintro (e | (y | _ | _ | _)) s' z <;> first | exact z.elim | skip
  refine elX2_3 ?_ z; clear z; rintro v l' rv hp a
  exact ⟨v, l', rv, hp, a.nodup, fun q hq => ⟨(a.led q hq).1, (a.led q hq).2.imp (hk _) id⟩, fun b o e hb => a.kept b o e fun hx => hb (hk b hx), a.same⟩
section
variable {tr td ch st sd pl sp : Addr} {kvs : List (Int × V)} {pages : List (List UInt8)} {cu cd : Addr} {R : Rows} {D : Nat} {N : Int}
theorem sp_arrive {ph : Addr} {state stamp : Int} {key cell oct found : V} {ss : List Step} {T : Option Int → Prop} (w : Wd kvs pages R D N)
    (h : (found = .bool true ∧ ∃ b x a, Pos pages 2 D R (stP ss) b (x :: a) ∧ T (some x.1)) ∨ (found = .bool false ∧ T none)) :
    Spec 5 (.ref 478) [.ref cu, found] ((cu, O.inst 703 cd) :: (cd, O.ns [("btree", .ref tr), ("root", .int 2), ("state", .int state), ("path", .ref ph), ("key", key), ("cell", cell), ("octets", oct), ("stamp", .int stamp)]) :: (ph, O.list (stV ss)) :: (tr, O.inst 820 td) :: (td, O.ns [("pager", .ref st), ("changes", .ref ch)]) :: (ch, O.dict kvs) :: (st, O.inst 764 sd) :: (sd, O.ns [("page_size", .int 64), ("pages", .ref pl), ("spare", .ref sp)]) :: (pl, O.list (pages.map .bytes)) :: stL ss) fun v l => ∃ here, T here ∧ v = .bool here.isSome ∧ CurF cu cd tr td ch st sd pl sp kvs pages R D N here l := by
  rcases h with ⟨rfl, b, x, a, hP, hT⟩ | ⟨rfl, hT⟩
  · refine (sp_arrive_yes hP w.chg w.deep w.few).mono ?_
    rintro v l; refine elX3_3 ?_; rintro ce ed loc hR rfl rfl
    exact ⟨some x.1, hT, rfl, .row hP hR (.inl rfl)⟩
  · refine ((((sp_arrive_no w.chg).le (by decide)).weak (l := ((cu, O.inst 703 cd) :: (cd, O.ns [("btree", .ref tr), ("root", .int 2), ("state", .int state), ("path", .ref ph), ("key", key), ("cell", cell), ("octets", oct), ("stamp", .int stamp)]) :: (ph, O.list (stV ss)) :: (tr, O.inst 820 td) :: (td, O.ns [("pager", .ref st), ("changes", .ref ch)]) :: (ch, O.dict kvs) :: (st, O.inst 764 sd) :: (sd, O.ns [("page_size", .int 64), ("pages", .ref pl), ("spare", .ref sp)]) :: (pl, O.list (pages.map .bytes)) :: stL ss)) (by wtm_at "hs"))).mono ?_
    rintro v l; refine elX1_2 ?_; rintro ph' rfl rfl
    exact ⟨none, hT, rfl, .no⟩
end

section
variable {tr td ch st sd pl sp : Addr} {kvs : List (Int × V)} {pages : List (List UInt8)} {cu cd : Addr} {R : Rows} {D : Nat} {N : Int}
theorem CurA.base {here : Option Int} {l : Led} (h : CurA cu cd tr td ch st sd pl sp kvs pages R D N here l) : ∃ ph state key cell oct stamp, Has [(cu, O.inst 703 cd), (cd, O.ns [("btree", .ref tr), ("root", .int 2), ("state", .int state), ("path", .ref ph), ("key", key), ("cell", cell), ("octets", oct), ("stamp", .int stamp)]), (tr, O.inst 820 td), (td, O.ns [("pager", .ref st), ("changes", .ref ch)]), (ch, O.dict kvs), (st, O.inst 764 sd), (sd, O.ns [("page_size", .int 64), ("pages", .ref pl), ("spare", .ref sp)]), (pl, O.list (pages.map .bytes))] l := by
  rcases h with h | @⟨ph, state, k, cell, oct, stamp, hst, hne⟩
  · cases h with
    | no => exact ⟨_, _, _, _, _, _, by wtm_at "hs"⟩
    | row => exact ⟨_, _, _, _, _, _, by wtm_at "hs"⟩
    | gap => exact ⟨_, _, _, _, _, _, by wtm_at "hs"⟩
  · exact ⟨_, _, _, _, _, _, Has.refl _⟩
/-- what a move gives -/
noncomputable def Told (cu cd tr td ch st sd pl sp : Addr) (kvs : List (Int × V)) (pages : List (List UInt8)) (R : Rows) (D : Nat) (N : Int) (T : Option Int → Prop) : V → Led → Prop :=
  fun v l => ∃ here, T here ∧ v = .bool here.isSome ∧ CurF cu cd tr td ch st sd pl sp kvs pages R D N here l
theorem CallV_arrive {u : U} {n : Nat} {f : Fm} {l : Led} {ℓ : Loc} {P : V → Led → Prop} {ph : Addr} {state stamp : Int} {key cell oct found : V} {ss : List Step} {T : Option Int → Prop} (w : Wd kvs pages R D N)
    (h : (found = .bool true ∧ ∃ b x a, Pos pages 2 D R (stP ss) b (x :: a) ∧ T (some x.1)) ∨ (found = .bool false ∧ T none)) (hn : 5 ≤ n)
    (hh : Has ((cu, O.inst 703 cd) :: (cd, O.ns [("btree", .ref tr), ("root", .int 2), ("state", .int state), ("path", .ref ph), ("key", key), ("cell", cell), ("octets", oct), ("stamp", .int stamp)]) :: (ph, O.list (stV ss)) :: (tr, O.inst 820 td) :: (td, O.ns [("pager", .ref st), ("changes", .ref ch)]) :: (ch, O.dict kvs) :: (st, O.inst 764 sd) :: (sd, O.ns [("page_size", .int 64), ("pages", .ref pl), ("spare", .ref sp)]) :: (pl, O.list (pages.map .bytes)) :: stL ss) l) (q : ∀ v l', Told cu cd tr td ch st sd pl sp kvs pages R D N T v l' → P v l') : CallV u n f l ℓ (.ref 478) [.ref cu, found] P :=
  CallV_h (sp_arrive w h) hn [] (by rw [List.append_nil]; exact hh) q
theorem sp_first {here : Option Int} {l : Led} {t : Int} (h : CurA cu cd tr td ch st sd pl sp kvs pages R D N here l) (w : Wd kvs pages R D N) (ht : ∀ x ∈ R, t ≤ x.1) : Spec 6 (.ref 492) [.ref cu] l (Told cu cd tr td ch st sd pl sp kvs pages R D N (IsGe R t)) := by
  refine elE6 ?_ h.base; rintro ph state key cell oct stamp; rintro hh
  refine Spec_defR (ps := ["self"]) (ℓ₀ := [("self", .loc (.ref cu))]) (by intro P; k_is) (by intro P; k_is) (reps1 (by intros; rfl)) (by intro P; kernel_rfl!) (by intro P; kernel_rfl!) (fun u f FR hPo => ?_) (by rfl) (by rfl) (by rfl)

  refine Exs_has hh ?_
  wtm_at "r"
  intro ph'
  wtm_at "r"
  refine CallV_h (sp_descend_first (cu := cu) (cd := cd) (ph := ph') (tr := tr) (td := td) (ch := ch) (st := st) (sd := sd) (pl := pl) (sp := sp) (kvs := kvs) (state := state) (stamp := stamp) (key := key) (cell := cell) (oct := oct) (ss := []) (.root w.sub) w.deep w.few) (by wtm_at "one") [] (show Has (((cu, O.inst 703 cd) :: (cd, O.ns [("btree", .ref tr), ("root", .int 2), ("state", .int state), ("path", .ref ph'), ("key", key), ("cell", cell), ("octets", oct), ("stamp", .int stamp)]) :: (ph', O.list []) :: (tr, O.inst 820 td) :: (td, O.ns [("pager", .ref st), ("changes", .ref ch)]) :: (ch, O.dict kvs) :: (st, O.inst 764 sd) :: (sd, O.ns [("page_size", .int 64), ("pages", .ref pl), ("spare", .ref sp)]) :: (pl, O.list (pages.map .bytes)) :: []) ++ []) _ from by rw [List.append_nil]; wtm_at "hs") ?_
  rintro v l'; refine elX1_2 ?_; rintro ss rfl h3
  wtm_at "r"
  refine CallV_arrive w (T := IsGe R t) (ss := ss) (ph := ph') ?_ (by decide) (by rw [List.nil_append]; wtm_at "hs") fun v l' hT => ?_
  · rcases h3 with ⟨rfl, hne, hP⟩ | ⟨rfl, hn⟩
    · rw [List.append_nil] at hP
      obtain ⟨x, a, rfl⟩ := List.exists_cons_of_ne_nil hne
      exact .inl ⟨rfl, [], x, a, hP, isGe_cons (b := []) (a := a) rfl w.srt (by simp) (ht x (.head _))⟩
    · refine .inr ⟨rfl, fun x hx => ?_⟩
      rw [hn] at hx; cases hx
  · wtm_at "r"
    exact hPo <| Done_has (Has.refl _) hT
theorem sp_last0 {ph : Addr} {state stamp t : Int} {key cell oct : V} (w : Wd kvs pages R D N) (ht : ∀ x ∈ R, x.1 < t) : Spec 6 (.ref 499) [.ref cu] [(cu, O.inst 703 cd), (cd, O.ns [("btree", .ref tr), ("root", .int 2), ("state", .int state), ("path", .ref ph), ("key", key), ("cell", cell), ("octets", oct), ("stamp", .int stamp)]), (tr, O.inst 820 td), (td, O.ns [("pager", .ref st), ("changes", .ref ch)]), (ch, O.dict kvs), (st, O.inst 764 sd), (sd, O.ns [("page_size", .int 64), ("pages", .ref pl), ("spare", .ref sp)]), (pl, O.list (pages.map .bytes))] (Told cu cd tr td ch st sd pl sp kvs pages R D N (IsLt R t)) := by
  refine Spec_defR (ps := ["self"]) (ℓ₀ := [("self", .loc (.ref cu))]) (by intro P; k_is) (by intro P; k_is) (reps1 (by intros; rfl)) (by intro P; kernel_rfl!) (by intro P; kernel_rfl!) (fun u f FR hPo => ?_) (by rfl) (by rfl) (by rfl)

  wtm_at "r"
  intro ph'
  wtm_at "r"
  refine CallV_h (sp_descend_last (cu := cu) (cd := cd) (ph := ph') (tr := tr) (td := td) (ch := ch) (st := st) (sd := sd) (pl := pl) (sp := sp) (kvs := kvs) (state := state) (stamp := stamp) (key := key) (cell := cell) (oct := oct) (ss := []) (.root w.sub) w.deep w.few) (by wtm_at "one") [] (show Has (((cu, O.inst 703 cd) :: (cd, O.ns [("btree", .ref tr), ("root", .int 2), ("state", .int state), ("path", .ref ph'), ("key", key), ("cell", cell), ("octets", oct), ("stamp", .int stamp)]) :: (ph', O.list []) :: (tr, O.inst 820 td) :: (td, O.ns [("pager", .ref st), ("changes", .ref ch)]) :: (ch, O.dict kvs) :: (st, O.inst 764 sd) :: (sd, O.ns [("page_size", .int 64), ("pages", .ref pl), ("spare", .ref sp)]) :: (pl, O.list (pages.map .bytes)) :: []) ++ []) _ from by rw [List.append_nil]; wtm_at "hs") ?_
  rintro v l'; refine elX1_2 ?_; rintro ss rfl h3
  wtm_at "r"
  refine CallV_arrive w (T := IsLt R t) (ss := ss) (ph := ph') ?_ (by decide) (by rw [List.nil_append]; wtm_at "hs") fun v l' hT => ?_
  · rcases h3 with ⟨rfl, b, x, e, hP⟩ | ⟨rfl, hn⟩
    · exact .inl ⟨rfl, b, x, [], hP, isLt_snoc (b := b) (a := []) (by rw [← e]; rfl) w.srt (by simp) (ht x (by have := hP.all; rw [← this]; simp))⟩
    · refine .inr ⟨rfl, fun x hx => ?_⟩
      rw [hn] at hx; cases hx
  · wtm_at "r"
    exact hPo <| Done_has (Has.refl _) hT
theorem sp_last {here : Option Int} {l : Led} {t : Int} (h : CurA cu cd tr td ch st sd pl sp kvs pages R D N here l) (w : Wd kvs pages R D N) (ht : ∀ x ∈ R, x.1 < t) : Spec 6 (.ref 499) [.ref cu] l (Told cu cd tr td ch st sd pl sp kvs pages R D N (IsLt R t)) := by
  refine elE6 ?_ h.base; rintro ph state key cell oct stamp; rintro hh
  exact (sp_last0 w ht).weak hh
theorem CallV_last {u : U} {n : Nat} {f : Fm} {l : Led} {ℓ : Loc} {P : V → Led → Prop} {ph : Addr} {state stamp t : Int} {key cell oct : V} (w : Wd kvs pages R D N) (ht : ∀ x ∈ R, x.1 < t) (hn : 6 ≤ n)
    (hh : Has [(cu, O.inst 703 cd), (cd, O.ns [("btree", .ref tr), ("root", .int 2), ("state", .int state), ("path", .ref ph), ("key", key), ("cell", cell), ("octets", oct), ("stamp", .int stamp)]), (tr, O.inst 820 td), (td, O.ns [("pager", .ref st), ("changes", .ref ch)]), (ch, O.dict kvs), (st, O.inst 764 sd), (sd, O.ns [("page_size", .int 64), ("pages", .ref pl), ("spare", .ref sp)]), (pl, O.list (pages.map .bytes))] l) (q : ∀ v l', Told cu cd tr td ch st sd pl sp kvs pages R D N (IsLt R t) v l' → P v l') : CallV u n f l ℓ (.ref 499) [.ref cu] P :=
  CallV_h (sp_last0 w ht) hn [] (by rw [List.append_nil]; exact hh) q
end

theorem Has.mem {a b : Led} (h : Has a b) {p : Addr × O} (hp : p ∈ a) : p ∈ b := by
  obtain ⟨r, q⟩ := h
  exact q.mem_iff.mpr (List.mem_append_left _ hp)
local macro_rules | `(tactic| wtm_at "aslkq") => tTab "@as | @lkq"
local macro_rules | `(tactic| wtm_at "lkq") => tTab "lk_tail aslkq"
local macro_rules | `(tactic| wtm_at "lk") => tTab "@lkp | @as | @lkq"
section
variable {tr td ch st sd pl sp : Addr} {kvs : List (Int × V)} {pages : List (List UInt8)} {cu cd : Addr} {R : Rows} {D : Nat} {N : Int}
theorem CurA.mem {here : Option Int} {l : Led} (h : CurA cu cd tr td ch st sd pl sp kvs pages R D N here l) : (cu, O.inst 703 cd) ∈ l ∧ ∃ ph state key cell oct stamp, (cd, O.ns [("btree", .ref tr), ("root", .int 2), ("state", .int state), ("path", .ref ph), ("key", key), ("cell", cell), ("octets", oct), ("stamp", .int stamp)]) ∈ l := by
  refine elE6 ?_ h.base; rintro ph state key cell oct stamp; rintro hh
  exact ⟨hh.mem (by simp), ph, state, key, cell, oct, stamp, hh.mem (by simp)⟩
noncomputable def Onward (R : Rows) : Option Int → Option Int → Prop
  | none, here' => here' = none
  | some k, here' => IsGe R (k + 1) here'
noncomputable def Back (R : Rows) : Option Int → Option Int → Prop
  | none, here' => here' = none
  | some k, here' => IsLt R k here'
theorem sp_next {here : Option Int} {l : Led} (h : CurA cu cd tr td ch st sd pl sp kvs pages R D N here l) (w : Wd kvs pages R D N) : Spec 9 (.ref 506) [.ref cu] l (Told cu cd tr td ch st sd pl sp kvs pages R D N (Onward R here)) := by
  refine elA2 ?_ h.mem; rintro h1; refine elE6 ?_; rintro ph state key cell oct stamp h2
  refine Spec_defR (ps := ["self"]) (ℓ₀ := [("self", .loc (.ref cu)), ("ON_ROW", .glob (.int 1)), ("IN_GAP", .glob (.int 2)), ("len", .glob (.bi "len"))]) (by intro P; k_is) (by intro P; k_is) (reps1 (by intros; rfl)) (by intro P; kernel_rfl!) (by intro P; kernel_rfl!) (fun u f FR hPo => ?_) (by rfl) (by rfl) (by rfl)

  wtm_at "r"
  refine CallV_all (sp_settle h w) (by wtm_at "one") ?_
  rintro _ l' ⟨rfl, hF⟩
  clear h h1 h2
  cases hF with
  | @no ph stamp =>
    wtm_at "r"
    exact hPo <| Done_has (Has.refl _) ⟨none, rfl, rfl, .no⟩
  | @row ph ss b a k v ce ed loc oct hP hR ho =>
    have hall := hP.all
    have hs := w.srt.after hall
    wtm_at "r"
    refine CallV_k (sp_forward hP w.deep w.few) (by wtm_at "one") (by wtm_at "hr") ?_
    rintro v' l'; refine elX1_2 ?_; rintro ss' rfl h3
    refine ⟨_, by wtm_at "app", ?_⟩
    wtm_at "r"
    refine CallV_arrive w (T := IsGe R (k + 1)) (ss := ss') (ph := ph) ?_ (by decide) (by wtm_at "hs") fun v l' hT => ?_
    · rcases h3 with ⟨rfl, hne, hP'⟩ | ⟨rfl, hn, e⟩
      · obtain ⟨x, a', rfl⟩ := List.exists_cons_of_ne_nil hne
        have hx := hs.2 x (.head _)
        refine .inl ⟨rfl, _, x, a', hP', isGe_cons (b := b ++ [(k, v)]) (a := a') (by rw [← hall]; simp) w.srt ?_ (by have hx : k < x.1 := hx; lia)⟩
        intro y hy
        rcases List.mem_append.mp hy with hy | hy
        · have := hs.1 y hy; lia
        · simp at hy; subst hy; show k < k + 1; lia
      · refine .inr ⟨rfl, fun x hx => ?_⟩
        subst hn
        rw [← hall] at hx
        rcases List.mem_append.mp hx with hx | hx
        · have := hs.1 x hx; lia
        · simp at hx; subst hx; show k < k + 1; lia
    · wtm_at "r"
      exact hPo <| Done_has (Has.refl _) hT
  | @gap ph ss b a k e hP h1 h2 =>
    have hsl := stV_len ss
    have hlen : ss.length ≤ 31 := by
      rcases hP with ⟨_, rfl⟩ | ⟨_, hP⟩
      · simp
      · refine elE7 ?_ hP.last; rintro ss0 s leaf i rs b' a'; refine elA3 ?_; rintro rfl hC _
        have := hC.deep; rw [stP_len] at this; have := w.deep; simp; lia
    wtm_at "r"
    refine CallV_arrive w (T := IsGe R (k + 1)) (ss := ss) (ph := ph) ?_ (by decide) (by wtm_at "hs") fun v l' hT => ?_
    · rcases hP with ⟨rfl, rfl⟩ | ⟨hne, hP⟩
      · refine .inr ⟨rfl, fun x hx => ?_⟩
        rw [← e, List.append_nil] at hx
        have := h1 x hx; lia
      · obtain ⟨x, a', rfl⟩ := List.exists_cons_of_ne_nil hne
        have hx := h2 x (.head _)
        refine .inl ⟨?_, b, x, a', hP, isGe_cons (b := b) (a := a') e w.srt (fun y hy => by have := h1 y hy; lia) (by lia)⟩
        refine elE7 ?_ hP.last; rintro ss0 s leaf i rs b' a'; refine elA3 ?_; rintro rfl hC _
        rw [decide_eq_true]
        rw [hsl]; simp
    · wtm_at "r"
      exact hPo <| Done_has (Has.refl _) hT
theorem sp_previous {here : Option Int} {l : Led} (h : CurA cu cd tr td ch st sd pl sp kvs pages R D N here l) (w : Wd kvs pages R D N) : Spec 9 (.ref 513) [.ref cu] l (Told cu cd tr td ch st sd pl sp kvs pages R D N (Back R here)) := by
  refine elA2 ?_ h.mem; rintro h1; refine elE6 ?_; rintro ph state key cell oct stamp h2
  refine Spec_defR (ps := ["self"]) (ℓ₀ := [("self", .loc (.ref cu)), ("ON_ROW", .glob (.int 1)), ("IN_GAP", .glob (.int 2)), ("len", .glob (.bi "len"))]) (by intro P; k_is) (by intro P; k_is) (reps1 (by intros; rfl)) (by intro P; kernel_rfl!) (by intro P; kernel_rfl!) (fun u f FR hPo => ?_) (by rfl) (by rfl) (by rfl)

  wtm_at "r"
  refine CallV_all (sp_settle h w) (by wtm_at "one") ?_
  rintro _ l' ⟨rfl, hF⟩
  clear h h1 h2
  have back : ∀ {ss : List Step} {b a : Rows} {k : Int}, Pos pages 2 D R (stP ss) b a → (∀ x ∈ b, x.1 < k) → (∀ x ∈ a, k ≤ x.1) → ∀ {v : V} {ss' : List Step}, ((v = .bool true ∧ ∃ b2 y, b = b2 ++ [y] ∧ Pos pages 2 D R (stP ss') b2 (y :: a)) ∨ (v = .bool false ∧ b = [] ∧ ss' = [])) →
      (v = .bool true ∧ ∃ b x a, Pos pages 2 D R (stP ss') b (x :: a) ∧ IsLt R k (some x.1)) ∨ (v = .bool false ∧ IsLt R k none) := by
    intro ss b a k hP hb ha v ss' h3
    have hall := hP.all
    rcases h3 with ⟨rfl, b2, y, rfl, hP'⟩ | ⟨rfl, rfl, e⟩
    · exact .inl ⟨rfl, b2, y, a, hP', isLt_snoc (b := b2) (a := a) (by rw [← hall]; simp) w.srt ha (hb y (by simp))⟩
    · refine .inr ⟨rfl, fun x hx => ?_⟩
      rw [← hall] at hx
      exact ha x hx
  cases hF with
  | @no ph stamp =>
    wtm_at "r"
    exact hPo <| Done_has (Has.refl _) ⟨none, rfl, rfl, .no⟩
  | @row ph ss b a k v ce ed loc oct hP hR ho =>
    have hall := hP.all
    have hs := w.srt.after hall
    wtm_at "r"
    refine CallV_k (sp_backward hP w.deep w.few) (by wtm_at "one") (by wtm_at "hr") ?_
    rintro v' l'; refine elX1_2 ?_; rintro ss' rfl h3
    refine ⟨_, by wtm_at "app", ?_⟩
    wtm_at "r"
    refine CallV_arrive w (T := IsLt R k) (ss := ss') (ph := ph) ?_ (by decide) (by wtm_at "hs") fun v l' hT => ?_
    · refine back hP (fun x hx => hs.1 x hx) (fun x hx => ?_) h3
      rcases List.mem_cons.mp hx with rfl | hx
      · exact Int.le_refl _
      · have := hs.2 x hx; lia
    · wtm_at "r"
      exact hPo <| Done_has (Has.refl _) hT
  | @gap ph ss b a k e hP h1 h2 =>
    have hsl := stV_len ss
    have hlen : ss.length ≤ 31 := by
      rcases hP with ⟨_, rfl⟩ | ⟨_, hP⟩
      · simp
      · refine elE7 ?_ hP.last; rintro ss0 s leaf i rs b' a'; refine elA3 ?_; rintro rfl hC _
        have := hC.deep; rw [stP_len] at this; have := w.deep; simp; lia
    rcases hP with ⟨rfl, rfl⟩ | ⟨hne, hP⟩
    · have hlast := sp_last (t := k) (.fresh (.gap e (.inl ⟨rfl, rfl⟩) h1 h2) : CurA cu cd tr td ch st sd pl sp kvs pages R D N (some k) ((cu, O.inst 703 cd) :: (cd, O.ns [("btree", .ref tr), ("root", .int 2), ("state", .int 2), ("path", .ref ph), ("key", .int k), ("cell", .none), ("octets", .none), ("stamp", .int N)]) :: (ph, O.list (stV [])) :: (tr, O.inst 820 td) :: (td, O.ns [("pager", .ref st), ("changes", .ref ch)]) :: (ch, O.dict kvs) :: (st, O.inst 764 sd) :: (sd, O.ns [("page_size", .int 64), ("pages", .ref pl), ("spare", .ref sp)]) :: (pl, O.list (pages.map .bytes)) :: stL [])) w (fun x hx => by rw [← e, List.append_nil] at hx; exact h1 x hx)
      have hs0 : (stV []).length = 0 := rfl
      wtm_at "r"
      refine CallV_all hlast (by wtm_at "one") fun v l' hT => ?_
      wtm_at "r"
      exact hPo <| Done_has (Has.refl _) hT
    · have hpos : 0 < (stV ss).length := by
        refine elE7 ?_ hP.last; rintro ss0 s leaf i rs b' a'; refine elA3 ?_; rintro rfl hC _
        rw [hsl]; simp
      wtm_at "r"
      refine CallV_k (sp_backward hP w.deep w.few) (by wtm_at "one") (by wtm_at "hr") ?_
      rintro v' l'; refine elX1_2 ?_; rintro ss' rfl h3
      refine ⟨_, by wtm_at "app", ?_⟩
      wtm_at "r"
      refine CallV_arrive w (T := IsLt R k) (ss := ss') (ph := ph) ?_ (by decide) (by wtm_at "hs") fun v l' hT => ?_
      · exact back hP h1 (fun x hx => by have := h2 x hx; lia) h3
      · wtm_at "r"
        exact hPo <| Done_has (Has.refl _) hT
end

section
variable {tr td ch st sd pl sp : Addr} {kvs : List (Int × V)} {pages : List (List UInt8)} {cu cd : Addr} {R : Rows} {D : Nat} {N : Int}
theorem CallV_find {u : U} {n : Nat} {f : Fm} {l : Led} {ℓ : Loc} {P : V → Led → Prop} {ph : Addr} {state stamp kx least t : Int} {key cell oct : V} (w : Wd kvs pages R D N)
    (hl : least = 0 ∨ least = 1) (ht : kx + least = t) (hn : 7 ≤ n) (hh : Has [(cu, O.inst 703 cd), (cd, O.ns [("btree", .ref tr), ("root", .int 2), ("state", .int state), ("path", .ref ph), ("key", key), ("cell", cell), ("octets", oct), ("stamp", .int stamp)]), (tr, O.inst 820 td), (td, O.ns [("pager", .ref st), ("changes", .ref ch)]), (ch, O.dict kvs), (st, O.inst 764 sd), (sd, O.ns [("page_size", .int 64), ("pages", .ref pl), ("spare", .ref sp)]), (pl, O.list (pages.map .bytes))] l)
    (q : ∀ v ph' ss, ((v = .bool true ∧ ∃ b a, a ≠ [] ∧ Pos pages 2 D R (stP ss) b a ∧ (∀ x ∈ b, x.1 < t) ∧ ∀ x ∈ a, t ≤ x.1) ∨ (v = .bool false ∧ ss = [] ∧ ∀ x ∈ R, x.1 < t)) →
      P v ((cu, O.inst 703 cd) :: (cd, O.ns [("btree", .ref tr), ("root", .int 2), ("state", .int state), ("path", .ref ph'), ("key", key), ("cell", cell), ("octets", oct), ("stamp", .int stamp)]) :: (ph', .list (stV ss)) :: (tr, O.inst 820 td) :: (td, O.ns [("pager", .ref st), ("changes", .ref ch)]) :: (ch, O.dict kvs) :: (st, O.inst 764 sd) :: (sd, O.ns [("page_size", .int 64), ("pages", .ref pl), ("spare", .ref sp)]) :: (pl, O.list (pages.map .bytes)) :: stL ss)) : CallV u n f l ℓ (.ref 471) [.ref cu, .int kx, .int least] P :=
  CallV_h (sp_find w.sub w.srt hl ht w.deep w.few) hn [] (by rw [List.append_nil]; exact hh) (by rintro v l' ⟨ph', ss, rfl, h3⟩; exact q v ph' ss h3)
theorem sp_seek_ge {here : Option Int} {l : Led} {key : Int} (h : CurA cu cd tr td ch st sd pl sp kvs pages R D N here l) (w : Wd kvs pages R D N) : Spec 8 (.ref 520) [.ref cu, .int key] l (Told cu cd tr td ch st sd pl sp kvs pages R D N (IsGe R key)) := by
  refine elE6 ?_ h.base; rintro ph state kk cell oct stamp; rintro hh
  refine Spec_defR (ps := ["self", "key"]) (ℓ₀ := [("self", .loc (.ref cu)), ("key", .loc (.int key))]) (by intro P; k_is) (by intro P; k_is) (reps2 (by intros; rfl)) (by intro P; kernel_rfl!) (by intro P; kernel_rfl!) (fun u f FR hPo => ?_) (by rfl) (by rfl) (by rfl)

  refine Exs_has hh ?_
  wtm_at "r"
  refine CallV_find w (.inl rfl) (Int.add_zero key) (by decide) (Has.refl _) fun v ph' ss h3 => ?_
  wtm_at "r"
  refine CallV_arrive w (T := IsGe R key) (ss := ss) (ph := ph') ?_ (by decide) (Has.refl _) fun v l' hT => ?_
  · rcases h3 with ⟨rfl, b, a, hne, hP, hb, ha⟩ | ⟨rfl, _, hn⟩
    · obtain ⟨x, a', rfl⟩ := List.exists_cons_of_ne_nil hne
      exact .inl ⟨rfl, b, x, a', hP, isGe_cons (b := b) (a := a') hP.all w.srt hb (ha x (.head _))⟩
    · exact .inr ⟨rfl, hn⟩
  · wtm_at "r"
    exact hPo <| Done_has (Has.refl _) hT
theorem sp_seek_gt {here : Option Int} {l : Led} {key : Int} (h : CurA cu cd tr td ch st sd pl sp kvs pages R D N here l) (w : Wd kvs pages R D N) : Spec 8 (.ref 527) [.ref cu, .int key] l (Told cu cd tr td ch st sd pl sp kvs pages R D N (IsGe R (key + 1))) := by
  refine elE6 ?_ h.base; rintro ph state kk cell oct stamp; rintro hh
  refine Spec_defR (ps := ["self", "key"]) (ℓ₀ := [("self", .loc (.ref cu)), ("key", .loc (.int key))]) (by intro P; k_is) (by intro P; k_is) (reps2 (by intros; rfl)) (by intro P; kernel_rfl!) (by intro P; kernel_rfl!) (fun u f FR hPo => ?_) (by rfl) (by rfl) (by rfl)

  refine Exs_has hh ?_
  wtm_at "r"
  refine CallV_find w (.inr rfl) rfl (by decide) (Has.refl _) fun v ph' ss h3 => ?_
  wtm_at "r"
  refine CallV_arrive w (T := IsGe R (key + 1)) (ss := ss) (ph := ph') ?_ (by decide) (Has.refl _) fun v l' hT => ?_
  · rcases h3 with ⟨rfl, b, a, hne, hP, hb, ha⟩ | ⟨rfl, _, hn⟩
    · obtain ⟨x, a', rfl⟩ := List.exists_cons_of_ne_nil hne
      exact .inl ⟨rfl, b, x, a', hP, isGe_cons (b := b) (a := a') hP.all w.srt hb (ha x (.head _))⟩
    · exact .inr ⟨rfl, hn⟩
  · wtm_at "r"
    exact hPo <| Done_has (Has.refl _) hT
theorem back_of {ss ss' : List Step} {b a : Rows} {k : Int} {v : V} (w : Wd kvs pages R D N) (hP : Pos pages 2 D R (stP ss) b a) (hb : ∀ x ∈ b, x.1 < k) (ha : ∀ x ∈ a, k ≤ x.1) (h3 : (v = .bool true ∧ ∃ b2 y, b = b2 ++ [y] ∧ Pos pages 2 D R (stP ss') b2 (y :: a)) ∨ (v = .bool false ∧ b = [] ∧ ss' = [])) :
    (v = .bool true ∧ ∃ b x a, Pos pages 2 D R (stP ss') b (x :: a) ∧ IsLt R k (some x.1)) ∨ (v = .bool false ∧ IsLt R k none) := by
  have hall := hP.all
  rcases h3 with ⟨rfl, b2, y, rfl, hP'⟩ | ⟨rfl, rfl, e⟩
  · exact .inl ⟨rfl, b2, y, a, hP', isLt_snoc (b := b2) (a := a) (by rw [← hall]; simp) w.srt ha (hb y (by simp))⟩
  · refine .inr ⟨rfl, fun x hx => ?_⟩
    rw [← hall] at hx
    exact ha x hx
theorem sp_seek_lt {here : Option Int} {l : Led} {key : Int} (h : CurA cu cd tr td ch st sd pl sp kvs pages R D N here l) (w : Wd kvs pages R D N) : Spec 8 (.ref 534) [.ref cu, .int key] l (Told cu cd tr td ch st sd pl sp kvs pages R D N (IsLt R key)) := by
  refine elE6 ?_ h.base; rintro ph state kk cell oct stamp; rintro hh
  refine Spec_defR (ps := ["self", "key"]) (ℓ₀ := [("self", .loc (.ref cu)), ("key", .loc (.int key))]) (by intro P; k_is) (by intro P; k_is) (reps2 (by intros; rfl)) (by intro P; kernel_rfl!) (by intro P; kernel_rfl!) (fun u f FR hPo => ?_) (by rfl) (by rfl) (by rfl)

  refine Exs_has hh ?_
  wtm_at "r"
  refine CallV_find w (.inl rfl) (Int.add_zero key) (by decide) (Has.refl _) fun v ph' ss h3 => ?_
  rcases h3 with ⟨rfl, b, a, hne, hP, hb, ha⟩ | ⟨rfl, rfl, hn⟩
  · wtm_at "r"
    refine CallV_k (sp_backward hP w.deep w.few) (by wtm_at "one") (by wtm_at "hr") ?_
    rintro v' l'; refine elX1_2 ?_; rintro ss' rfl h3
    refine ⟨_, by wtm_at "app", ?_⟩
    wtm_at "r"
    refine CallV_arrive w (T := IsLt R key) (ss := ss') (ph := ph') (back_of w hP hb ha h3) (by decide) (by wtm_at "hs") fun v l' hT => ?_
    wtm_at "r"
    exact hPo <| Done_has (Has.refl _) hT
  · wtm_at "r"
    refine CallV_last w hn (by decide) (by wtm_at "hs") fun v l' hT => ?_
    wtm_at "r"
    exact hPo <| Done_has (Has.refl _) hT
theorem sp_seek_le {here : Option Int} {l : Led} {key : Int} (h : CurA cu cd tr td ch st sd pl sp kvs pages R D N here l) (w : Wd kvs pages R D N) : Spec 8 (.ref 541) [.ref cu, .int key] l (Told cu cd tr td ch st sd pl sp kvs pages R D N (IsLt R (key + 1))) := by
  refine elE6 ?_ h.base; rintro ph state kk cell oct stamp; rintro hh
  refine Spec_defR (ps := ["self", "key"]) (ℓ₀ := [("self", .loc (.ref cu)), ("key", .loc (.int key))]) (by intro P; k_is) (by intro P; k_is) (reps2 (by intros; rfl)) (by intro P; kernel_rfl!) (by intro P; kernel_rfl!) (fun u f FR hPo => ?_) (by rfl) (by rfl) (by rfl)

  refine Exs_has hh ?_
  wtm_at "r"
  refine CallV_find w (.inr rfl) rfl (by decide) (Has.refl _) fun v ph' ss h3 => ?_
  rcases h3 with ⟨rfl, b, a, hne, hP, hb, ha⟩ | ⟨rfl, rfl, hn⟩
  · wtm_at "r"
    refine CallV_k (sp_backward hP w.deep w.few) (by wtm_at "one") (by wtm_at "hr") ?_
    rintro v' l'; refine elX1_2 ?_; rintro ss' rfl h3
    refine ⟨_, by wtm_at "app", ?_⟩
    wtm_at "r"
    refine CallV_arrive w (T := IsLt R (key + 1)) (ss := ss') (ph := ph') (back_of w hP hb ha h3) (by decide) (by wtm_at "hs") fun v l' hT => ?_
    wtm_at "r"
    exact hPo <| Done_has (Has.refl _) hT
  · wtm_at "r"
    refine CallV_last w hn (by decide) (by wtm_at "hs") fun v l' hT => ?_
    wtm_at "r"
    exact hPo <| Done_has (Has.refl _) hT
/-! the row on which the cursor stands -/
theorem sp_valid {here : Option Int} {l : Led} (h : CurA cu cd tr td ch st sd pl sp kvs pages R D N here l) (w : Wd kvs pages R D N) : Spec 9 (.ref 555) [.ref cu] l fun v l' => v = .bool (On R here) ∧ CurF cu cd tr td ch st sd pl sp kvs pages R D N here l' := by
  refine elA2 ?_ h.mem; rintro h1; refine elE6 ?_; rintro ph state key cell oct stamp h2
  refine Spec_defR (ps := ["self"]) (ℓ₀ := [("self", .loc (.ref cu)), ("ON_ROW", .glob (.int 1))]) (by intro P; k_is) (by intro P; k_is) (reps1 (by intros; rfl)) (by intro P; kernel_rfl!) (by intro P; kernel_rfl!) (fun u f FR hPo => ?_) (by rfl) (by rfl) (by rfl)

  wtm_at "r"
  refine CallV_all (sp_settle h w) (by wtm_at "one") ?_
  rintro _ l' ⟨rfl, hF⟩
  clear h h1 h2
  cases hF with
  | @no ph stamp =>
    wtm_at "r"
    exact hPo <| Done_has (Has.refl _) ⟨rfl, .no⟩
  | @row ph ss b a k v ce ed loc oct hP hR ho =>
    wtm_at "r"
    exact hPo <| Done_has (Has.refl _) ⟨by rw [On.yes hP.all]; rfl, .row hP hR ho⟩
  | @gap ph ss b a k e hP h1 h2 =>
    wtm_at "r"
    exact hPo <| Done_has (Has.refl _) ⟨by rw [On.no e h1 h2]; rfl, .gap e hP h1 h2⟩
theorem sp_ask {here : Option Int} {l : Led} (h : CurA cu cd tr td ch st sd pl sp kvs pages R D N here l) (w : Wd kvs pages R D N) (ho : On R here = true) : Spec 10 (.ref 562) [.ref cu] l fun v l' => v = .none ∧ CurF cu cd tr td ch st sd pl sp kvs pages R D N here l' := by
  refine elA2 ?_ h.mem; rintro h1; refine elE6 ?_; rintro ph state key cell oct stamp h2
  refine Spec_defR (ps := ["self"]) (ℓ₀ := [("self", .loc (.ref cu)), ("MisuseError", .glob (.ref 63))]) (by intro P; k_is) (by intro P; k_is) (reps1 (by intros; rfl)) (by intro P; kernel_rfl!) (by intro P; kernel_rfl!) (fun u f FR hPo => ?_) (by rfl) (by rfl) (by rfl)

  wtm_at "r"
  refine CallV_all (sp_valid h w) (by wtm_at "one") ?_
  rintro _ l' ⟨rfl, hF⟩
  refine (Eq.symm (ho)) ▸ ?_
  wtm_at "r"
  exact hPo <| Done_nxt (Has.refl _) ⟨rfl, hF⟩
theorem CurF.on {here : Option Int} {l : Led} (h : CurF cu cd tr td ch st sd pl sp kvs pages R D N here l) (ho : On R here = true) : ∃ ph ss b a k v ce ed loc oct, Pos pages 2 D R (stP ss) b ((k, v) :: a) ∧ Rec loc v ∧ (oct = .none ∨ oct = .bytes loc) ∧ here = some k ∧
    l = ((cu, O.inst 703 cd) :: (cd, O.ns [("btree", .ref tr), ("root", .int 2), ("state", .int 1), ("path", .ref ph), ("key", .int k), ("cell", .ref ce), ("octets", oct), ("stamp", .int N)]) :: (ph, O.list (stV ss)) :: (ce, O.inst 252 ed) :: (ed, O.ns [("child", .int 0), ("rowid", .int k), ("size", .int 3), ("local", .bytes loc), ("overflow", .int 0)]) :: (tr, O.inst 820 td) :: (td, O.ns [("pager", .ref st), ("changes", .ref ch)]) :: (ch, O.dict kvs) :: (st, O.inst 764 sd) :: (sd, O.ns [("page_size", .int 64), ("pages", .ref pl), ("spare", .ref sp)]) :: (pl, O.list (pages.map .bytes)) :: stL ss) := by
  cases h with
  | no => cases ho
  | @row ph ss b a k v ce ed loc oct hP hR hc => exact ⟨ph, ss, b, a, k, v, ce, ed, loc, oct, hP, hR, hc, rfl, rfl⟩
  | gap e hP h1 h2 => rw [On.no e h1 h2] at ho; cases ho
theorem sp_rowid_cur {here : Option Int} {l : Led} (h : CurA cu cd tr td ch st sd pl sp kvs pages R D N here l) (w : Wd kvs pages R D N) (ho : On R here = true) : Spec 11 (.ref 686) [.ref cu] l fun v l' => (∃ k, here = some k ∧ v = .int k) ∧ CurF cu cd tr td ch st sd pl sp kvs pages R D N here l' := by
  refine elA2 ?_ h.mem; rintro h1; refine elE6 ?_; rintro ph state key cell oct stamp h2
  refine Spec_defR (ps := ["self"]) (ℓ₀ := [("self", .loc (.ref cu))]) (by intro P; k_is) (by intro P; k_is) (reps1 (by intros; rfl)) (by intro P; kernel_rfl!) (by intro P; kernel_rfl!) (fun u f FR hPo => ?_) (by rfl) (by rfl) (by rfl)

  wtm_at "r"
  refine CallV_all (sp_ask h w ho) (by wtm_at "one") ?_
  rintro _ l' ⟨rfl, hF⟩
  clear h h1 h2
  refine elE10 ?_ (hF.on ho); rintro ph ss b a k v ce ed loc oct; refine elA5 ?_; rintro hP hR hc rfl rfl
  wtm_at "r"
  exact hPo <| Done_has (Has.refl _) ⟨⟨k, rfl, rfl⟩, .row hP hR hc⟩
theorem sp_payload {ce ed : Addr} {k : Int} {loc : List UInt8} : Spec 1 (.ref 817) [.ref tr, .ref ce] [(ce, O.inst 252 ed), (ed, O.ns [("child", .int 0), ("rowid", .int k), ("size", .int 3), ("local", .bytes loc), ("overflow", .int 0)])] fun v l => v = .bytes loc ∧ l = [(ce, O.inst 252 ed), (ed, O.ns [("child", .int 0), ("rowid", .int k), ("size", .int 3), ("local", .bytes loc), ("overflow", .int 0)])] := by
  refine Spec_defR (ps := ["self", "cell"]) (ℓ₀ := [("self", .loc (.ref tr)), ("cell", .loc (.ref ce)), ("read_chain", .glob (.ref 789)), ("len", .glob (.bi "len"))]) (by intro P; k_is) (by intro P; k_is) (reps2 (by intros; rfl)) (by intro P; kernel_rfl!) (by intro P; kernel_rfl!) (fun u f FR hPo => ?_) (by rfl) (by rfl) (by rfl)

  wtm_at "r"
  wtm_at "fin"
theorem sp_record {here : Option Int} {l : Led} (h : CurA cu cd tr td ch st sd pl sp kvs pages R D N here l) (w : Wd kvs pages R D N) (ho : On R here = true) : Spec 11 (.ref 569) [.ref cu] l fun v l' => (∃ k x loc, here = some k ∧ (k, x) ∈ R ∧ Rec loc x ∧ v = .bytes loc) ∧ CurF cu cd tr td ch st sd pl sp kvs pages R D N here l' := by
  refine elA2 ?_ h.mem; rintro h1; refine elE6 ?_; rintro ph state key cell oct stamp h2
  refine Spec_defR (ps := ["self"]) (ℓ₀ := [("self", .loc (.ref cu))]) (by intro P; k_is) (by intro P; k_is) (reps1 (by intros; rfl)) (by intro P; kernel_rfl!) (by intro P; kernel_rfl!) (fun u f FR hPo => ?_) (by rfl) (by rfl) (by rfl)

  wtm_at "r"
  refine CallV_all (sp_ask h w ho) (by wtm_at "one") ?_
  rintro _ l' ⟨rfl, hF⟩
  clear h h1 h2
  refine elE10 ?_ (hF.on ho); rintro ph ss b a k v ce ed loc oct; refine elA5 ?_; rintro hP hR hc rfl rfl
  have hm : (k, v) ∈ R := by rw [← hP.all]; simp
  rcases hc with rfl | rfl
  · wtm_at "r"
    refine CallV_use (sp_payload (tr := tr)) (by wtm_at "one") (by wtm_at "sel") ?_
    rintro _ _ ⟨rfl, rfl⟩
    refine ⟨_, by wtm_at "app", ?_⟩
    wtm_at "r"
    exact hPo <| Done_has (by wtm_at "hs") ⟨⟨k, v, loc, rfl, hm, hR, rfl⟩, .row hP hR (.inr rfl)⟩
  · wtm_at "r"
    exact hPo <| Done_has (Has.refl _) ⟨⟨k, v, loc, rfl, hm, hR, rfl⟩, .row hP hR (.inr rfl)⟩
end

section
variable {tr td ch st sd pl sp : Addr} {kvs : List (Int × V)} {pages : List (List UInt8)} {cu cd : Addr} {R : Rows} {D : Nat} {N : Int}
theorem sp_value0 {here : Option Int} {l : Led} (h : CurA cu cd tr td ch st sd pl sp kvs pages R D N here l) (w : Wd kvs pages R D N) (ho : On R here = true) : Spec 12 (.ref 693) [.ref cu, .int 0] l fun v l' => (∃ k x, here = some k ∧ (k, x) ∈ R ∧ v = .int x) ∧ CurF cu cd tr td ch st sd pl sp kvs pages R D N here l' := by
  refine elA2 ?_ h.mem; rintro h1; refine elE6 ?_; rintro ph state key cell oct stamp h2
  refine Spec_defR (ps := ["self", "place"]) (ℓ₀ := [("self", .loc (.ref cu)), ("place", .loc (.int 0)), ("record_column", .glob (.ref 150))]) (by intro P; k_is) (by intro P; k_is) (reps2 (by intros; rfl)) (by intro P; kernel_rfl!) (by intro P; kernel_rfl!) (fun u f FR hPo => ?_) (by rfl) (by rfl) (by rfl)

  wtm_at "r"
  refine CallV_all (sp_record h w ho) (by wtm_at "one") ?_
  rintro _ l' ⟨⟨k, x, loc, e, hm, hR, rfl⟩, hF⟩
  wtm_at "r"
  refine CallV_h (sp_column0 hR.len hR.o0 hR.o1 hR.o2 hR.small) (by decide) l' (Has.refl _) ?_
  rintro _ _ ⟨rfl, rfl⟩
  rw [List.append_nil]
  wtm_at "r"
  exact hPo <| Done_has (Has.refl _) ⟨⟨k, x, e, hm, rfl⟩, hF⟩
theorem sp_value1 {here : Option Int} {l : Led} (h : CurA cu cd tr td ch st sd pl sp kvs pages R D N here l) (w : Wd kvs pages R D N) (ho : On R here = true) : Spec 12 (.ref 693) [.ref cu, .int 1] l fun v l' => v = .none ∧ CurF cu cd tr td ch st sd pl sp kvs pages R D N here l' := by
  refine elA2 ?_ h.mem; rintro h1; refine elE6 ?_; rintro ph state key cell oct stamp h2
  refine Spec_defR (ps := ["self", "place"]) (ℓ₀ := [("self", .loc (.ref cu)), ("place", .loc (.int 1)), ("record_column", .glob (.ref 150))]) (by intro P; k_is) (by intro P; k_is) (reps2 (by intros; rfl)) (by intro P; kernel_rfl!) (by intro P; kernel_rfl!) (fun u f FR hPo => ?_) (by rfl) (by rfl) (by rfl)

  wtm_at "r"
  refine CallV_all (sp_record h w ho) (by wtm_at "one") ?_
  rintro _ l' ⟨⟨k, x, loc, e, hm, hR, rfl⟩, hF⟩
  wtm_at "r"
  refine CallV_h (sp_column1 hR.len hR.o0 hR.o1) (by decide) l' (Has.refl _) ?_
  rintro _ _ ⟨rfl, rfl⟩
  rw [List.append_nil]
  wtm_at "r"
  exact hPo <| Done_has (Has.refl _) ⟨rfl, hF⟩
theorem sp_key_compare {here : Option Int} {l : Led} {key : Int} (h : CurA cu cd tr td ch st sd pl sp kvs pages R D N here l) (w : Wd kvs pages R D N) (ho : On R here = true) : Spec 11 (.ref 679) [.ref cu, .int key] l fun v l' => (∃ k, here = some k ∧ v = .int (sg k key)) ∧ CurF cu cd tr td ch st sd pl sp kvs pages R D N here l' := by
  refine elA2 ?_ h.mem; rintro h1; refine elE6 ?_; rintro ph state kk cell oct stamp h2
  refine Spec_defR (ps := ["self", "key"]) (ℓ₀ := [("self", .loc (.ref cu)), ("key", .loc (.int key)), ("sign_of", .glob (.ref 651))]) (by intro P; k_is) (by intro P; k_is) (reps2 (by intros; rfl)) (by intro P; kernel_rfl!) (by intro P; kernel_rfl!) (fun u f FR hPo => ?_) (by rfl) (by rfl) (by rfl)

  wtm_at "r"
  refine CallV_all (sp_ask h w ho) (by wtm_at "one") ?_
  rintro _ l' ⟨rfl, hF⟩
  clear h h1 h2
  refine elE10 ?_ (hF.on ho); rintro ph ss b a k v ce ed loc oct; refine elA5 ?_; rintro hP hR hc rfl rfl
  wtm_at "r"
  refine CallV_one sp_sign_of (by wtm_at "one") (by wtm_at "sel") (by wtm_at "app") ?_
  wtm_at "r"
  exact hPo <| Done_has (Has.refl _) ⟨⟨k, rfl, rfl⟩, .row hP hR hc⟩
noncomputable def Sought (R : Rows) (key : Int) (here : Option Int) (v : V) : Prop :=
  (here = none ∧ R = [] ∧ v = .none) ∨ ∃ k, here = some k ∧ On R (some k) = true ∧ R ≠ [] ∧ v = .int (sg k key) ∧ (k = key ↔ On R (some key) = true)
theorem on_iff {R : Rows} {k : Int} : On R (some k) = true ↔ ∃ v, (k, v) ∈ R := by
  simp only [On, List.any_eq_true, beq_iff_eq]
  constructor
  · rintro ⟨⟨a, b⟩, h, rfl⟩; exact ⟨b, h⟩
  · rintro ⟨v, h⟩; exact ⟨_, h, rfl⟩
theorem sp_seek {here : Option Int} {l : Led} {key : Int} (h : CurA cu cd tr td ch st sd pl sp kvs pages R D N here l) (w : Wd kvs pages R D N) : Spec 12 (.ref 548) [.ref cu, .int key] l fun v l' => ∃ here', Sought R key here' v ∧ CurF cu cd tr td ch st sd pl sp kvs pages R D N here' l' := by
  refine elA2 ?_ h.mem; rintro h1; refine elE6 ?_; rintro ph state kk cell oct stamp h2
  refine Spec_defR (ps := ["self", "key"]) (ℓ₀ := [("self", .loc (.ref cu)), ("key", .loc (.int key))]) (by intro P; k_is) (by intro P; k_is) (reps2 (by intros; rfl)) (by intro P; kernel_rfl!) (by intro P; kernel_rfl!) (fun u f FR hPo => ?_) (by rfl) (by rfl) (by rfl)

  wtm_at "r"
  refine CallV_all (sp_seek_ge h w) (by wtm_at "one") ?_
  rintro _ l'; refine elX1_3 ?_; rintro here' hT rfl hF
  clear h h1 h2
  refine elA2 ?_ (CurA.mem (.fresh hF)); rintro h1; refine elE6 ?_; rintro ph state kk cell oct stamp h2
  wtm_at "r"
  cases here' with
  | some k =>
    have ho : On R (some k) = true := on_iff.mpr hT.2.1
    rw [Option.isSome_some]
    wtm_at "r"
    refine CallV_all (sp_key_compare (.fresh hF) w ho) (by wtm_at "one") ?_
    rintro _ l' ⟨⟨k', e, rfl⟩, hF'⟩
    cases e
    wtm_at "r"
    refine hPo <| Done_has (Has.refl _) ⟨some k, .inr ⟨k, rfl, ho, ?_, rfl, ⟨fun e => e ▸ ho, fun hk => ?_⟩⟩, hF'⟩
    · rintro rfl; cases ho
    · obtain ⟨x, hx⟩ := on_iff.mp hk
      have := hT.2.2 _ hx (Int.le_refl _)
      have := hT.1
      lia
  | none =>
    rw [Option.isSome_none]
    wtm_at "r"
    refine CallV_all (sp_last (.fresh hF) w hT) (by wtm_at "one") ?_
    rintro _ l'; refine elX1_3 ?_; rintro here2 hT2 rfl hF2
    cases here2 with
    | none =>
      rw [Option.isSome_none]
      wtm_at "r"
      refine hPo <| Done_has (Has.refl _) ⟨none, .inl ⟨rfl, ?_, rfl⟩, hF2⟩
      apply List.eq_nil_iff_forall_not_mem.mpr
      intro x hx
      have a := hT x hx
      have b := hT2 x hx
      lia
    | some k =>
      have ho : On R (some k) = true := on_iff.mpr hT2.2.1
      rw [Option.isSome_some]
      wtm_at "r"
      refine hPo <| Done_has (Has.refl _) ⟨some k, .inr ⟨k, rfl, ho, ?_, ?_, ⟨fun e => e ▸ ho, fun hk => ?_⟩⟩, hF2⟩
      · rintro rfl; cases ho
      · rw [show sg k key = -1 from if_pos hT2.1]
      · obtain ⟨x, hx⟩ := on_iff.mp hk
        have := hT _ hx
        exact absurd this (Int.lt_irrefl _)
end

/-! a page as it is written -/
noncomputable def u8 (k : Int) : UInt8 := k.toNat.toUInt8
theorem u8_val {k : Int} (h0 : 0 ≤ k) (h1 : k < 256) : ((u8 k).toNat : Int) = k := by
  unfold u8
  have : (k.toNat.toUInt8).toNat = k.toNat % 256 := rfl
  obtain ⟨n, rfl⟩ := Int.eq_ofNat_of_zero_le h0
  rw [this]; exact congrArg Nat.cast (Nat.mod_eq_of_lt (Int.ofNat_lt.mp h1))
noncomputable def ptrs (n : Nat) : List (List UInt8) := (List.range n).map fun (j : Nat) => [0, u8 (64 - 5 * ((j + 1 : Nat) : Int))]
noncomputable def pageB (head : List UInt8) (raws : List (List UInt8)) : List UInt8 :=
  (head ++ (ptrs raws.length).flatten) ++ List.replicate (64 - 5 * raws.length - (head.length + 2 * raws.length)) 0 ++ raws.reverse.flatten
noncomputable def headB (K : UInt8) (n : Nat) : List UInt8 := [K, 0, 0] ++ [0, u8 n] ++ [0, u8 (64 - 5 * (n : Int))] ++ [0]
noncomputable def leafRaw (q : Int × Int) : List UInt8 := [3, u8 q.1, 2, 1, u8 q.2]
noncomputable def innerRaw (q : Int × Int) : List UInt8 := [0, 0, 0, u8 q.1, u8 q.2]
theorem oc_rfl {xs : List UInt8} {i v : Int} {x : UInt8} (n : Nat) (h : xs[n]? = some x) (hi : i = n) (hv : (x.toNat : Int) = v) : oc xs i v := ⟨x, by rw [hi]; exact h, hv⟩
theorem lf0 (hb : ∀ q ∈ ([] : Rows), 0 ≤ q.1 ∧ q.1 < 128 ∧ 0 ≤ q.2 ∧ q.2 < 128) : Lf (pageB (headB 13 ([] : Rows).length) (([] : Rows).map leafRaw)) [] := by
  have e : pageB (headB 13 ([] : Rows).length) (([] : Rows).map leafRaw) = [13, 0, 0, 0, 0, 0, 64, 0, 0, 0, 0, 0, 0, 0, 0, 0, 0, 0, 0, 0, 0, 0, 0, 0, 0, 0, 0, 0, 0, 0, 0, 0, 0, 0, 0, 0, 0, 0, 0, 0, 0, 0, 0, 0, 0, 0, 0, 0, 0, 0, 0, 0, 0, 0, 0, 0, 0, 0, 0, 0, 0, 0, 0, 0] := rfl
  rw [e]
  refine ⟨⟨rfl, .inl ⟨rfl, rfl⟩, by simp, oc_rfl 0 rfl rfl rfl, oc_rfl 3 rfl rfl rfl, oc_rfl 4 rfl rfl rfl, ?_⟩, by simp, ?_, hb⟩
  · intro i h0 h1; simp at h1; lia
  · intro i q h0 hq; simp at hq
theorem lf1 {a : Int × Int} (hb : ∀ q ∈ ([a] : Rows), 0 ≤ q.1 ∧ q.1 < 128 ∧ 0 ≤ q.2 ∧ q.2 < 128) : Lf (pageB (headB 13 ([a] : Rows).length) (([a] : Rows).map leafRaw)) [a] := by
  have e : pageB (headB 13 ([a] : Rows).length) (([a] : Rows).map leafRaw) = [13, 0, 0, 0, 1, 0, 59, 0, 0, 59, 0, 0, 0, 0, 0, 0, 0, 0, 0, 0, 0, 0, 0, 0, 0, 0, 0, 0, 0, 0, 0, 0, 0, 0, 0, 0, 0, 0, 0, 0, 0, 0, 0, 0, 0, 0, 0, 0, 0, 0, 0, 0, 0, 0, 0, 0, 0, 0, 0, 3, u8 a.1, 2, 1, u8 a.2] := rfl
  rw [e]
  have A := hb a (by simp)
  have A1 := u8_val (k := a.1) (by lia) (by lia)
  have A2 := u8_val (k := a.2) (by lia) (by lia)
  refine ⟨⟨rfl, .inl ⟨rfl, rfl⟩, by simp, oc_rfl 0 rfl rfl rfl, oc_rfl 3 rfl rfl rfl, oc_rfl 4 rfl rfl rfl, ?_⟩, by simp, ?_, hb⟩
  · intro i h0 h1
    obtain rfl : i = 0 := by simp at h1; lia
    exact ⟨oc_rfl 8 rfl rfl rfl, oc_rfl 9 rfl rfl rfl⟩
  · intro i q h0 hq
    have hl := (List.getElem?_eq_some_iff.mp hq).1
    obtain rfl : i = 0 := by simp at hl; lia
    obtain rfl : a = q := by simpa using hq
    exact ⟨oc_rfl 59 rfl rfl rfl, oc_rfl 60 rfl rfl A1, oc_rfl 61 rfl rfl rfl, oc_rfl 62 rfl rfl rfl, oc_rfl 63 rfl rfl A2⟩
theorem lf2 {a b : Int × Int} (hb : ∀ q ∈ ([a, b] : Rows), 0 ≤ q.1 ∧ q.1 < 128 ∧ 0 ≤ q.2 ∧ q.2 < 128) : Lf (pageB (headB 13 ([a, b] : Rows).length) (([a, b] : Rows).map leafRaw)) [a, b] := by
  have e : pageB (headB 13 ([a, b] : Rows).length) (([a, b] : Rows).map leafRaw) = [13, 0, 0, 0, 2, 0, 54, 0, 0, 59, 0, 54, 0, 0, 0, 0, 0, 0, 0, 0, 0, 0, 0, 0, 0, 0, 0, 0, 0, 0, 0, 0, 0, 0, 0, 0, 0, 0, 0, 0, 0, 0, 0, 0, 0, 0, 0, 0, 0, 0, 0, 0, 0, 0, 3, u8 b.1, 2, 1, u8 b.2, 3, u8 a.1, 2, 1, u8 a.2] := rfl
  rw [e]
  have A := hb a (by simp)
  have A1 := u8_val (k := a.1) (by lia) (by lia)
  have A2 := u8_val (k := a.2) (by lia) (by lia)
  have B := hb b (by simp)
  have B1 := u8_val (k := b.1) (by lia) (by lia)
  have B2 := u8_val (k := b.2) (by lia) (by lia)
  refine ⟨⟨rfl, .inl ⟨rfl, rfl⟩, by simp, oc_rfl 0 rfl rfl rfl, oc_rfl 3 rfl rfl rfl, oc_rfl 4 rfl rfl rfl, ?_⟩, by simp, ?_, hb⟩
  · intro i h0 h1
    obtain rfl | rfl : i = 0 ∨ i = 1 := by simp at h1; lia
    · exact ⟨oc_rfl 8 rfl rfl rfl, oc_rfl 9 rfl rfl rfl⟩
    · exact ⟨oc_rfl 10 rfl rfl rfl, oc_rfl 11 rfl rfl rfl⟩
  · intro i q h0 hq
    have hl := (List.getElem?_eq_some_iff.mp hq).1
    obtain rfl | rfl : i = 0 ∨ i = 1 := by simp at hl; lia
    · obtain rfl : a = q := by simpa using hq
      exact ⟨oc_rfl 59 rfl rfl rfl, oc_rfl 60 rfl rfl A1, oc_rfl 61 rfl rfl rfl, oc_rfl 62 rfl rfl rfl, oc_rfl 63 rfl rfl A2⟩
    · obtain rfl : b = q := by simpa using hq
      exact ⟨oc_rfl 54 rfl rfl rfl, oc_rfl 55 rfl rfl B1, oc_rfl 56 rfl rfl rfl, oc_rfl 57 rfl rfl rfl, oc_rfl 58 rfl rfl B2⟩
theorem lf3 {a b c : Int × Int} (hb : ∀ q ∈ ([a, b, c] : Rows), 0 ≤ q.1 ∧ q.1 < 128 ∧ 0 ≤ q.2 ∧ q.2 < 128) : Lf (pageB (headB 13 ([a, b, c] : Rows).length) (([a, b, c] : Rows).map leafRaw)) [a, b, c] := by
  have e : pageB (headB 13 ([a, b, c] : Rows).length) (([a, b, c] : Rows).map leafRaw) = [13, 0, 0, 0, 3, 0, 49, 0, 0, 59, 0, 54, 0, 49, 0, 0, 0, 0, 0, 0, 0, 0, 0, 0, 0, 0, 0, 0, 0, 0, 0, 0, 0, 0, 0, 0, 0, 0, 0, 0, 0, 0, 0, 0, 0, 0, 0, 0, 0, 3, u8 c.1, 2, 1, u8 c.2, 3, u8 b.1, 2, 1, u8 b.2, 3, u8 a.1, 2, 1, u8 a.2] := rfl
  rw [e]
  have A := hb a (by simp)
  have A1 := u8_val (k := a.1) (by lia) (by lia)
  have A2 := u8_val (k := a.2) (by lia) (by lia)
  have B := hb b (by simp)
  have B1 := u8_val (k := b.1) (by lia) (by lia)
  have B2 := u8_val (k := b.2) (by lia) (by lia)
  have C := hb c (by simp)
  have C1 := u8_val (k := c.1) (by lia) (by lia)
  have C2 := u8_val (k := c.2) (by lia) (by lia)
  refine ⟨⟨rfl, .inl ⟨rfl, rfl⟩, by simp, oc_rfl 0 rfl rfl rfl, oc_rfl 3 rfl rfl rfl, oc_rfl 4 rfl rfl rfl, ?_⟩, by simp, ?_, hb⟩
  · intro i h0 h1
    obtain rfl | rfl | rfl : i = 0 ∨ i = 1 ∨ i = 2 := by simp at h1; lia
    · exact ⟨oc_rfl 8 rfl rfl rfl, oc_rfl 9 rfl rfl rfl⟩
    · exact ⟨oc_rfl 10 rfl rfl rfl, oc_rfl 11 rfl rfl rfl⟩
    · exact ⟨oc_rfl 12 rfl rfl rfl, oc_rfl 13 rfl rfl rfl⟩
  · intro i q h0 hq
    have hl := (List.getElem?_eq_some_iff.mp hq).1
    obtain rfl | rfl | rfl : i = 0 ∨ i = 1 ∨ i = 2 := by simp at hl; lia
    · obtain rfl : a = q := by simpa using hq
      exact ⟨oc_rfl 59 rfl rfl rfl, oc_rfl 60 rfl rfl A1, oc_rfl 61 rfl rfl rfl, oc_rfl 62 rfl rfl rfl, oc_rfl 63 rfl rfl A2⟩
    · obtain rfl : b = q := by simpa using hq
      exact ⟨oc_rfl 54 rfl rfl rfl, oc_rfl 55 rfl rfl B1, oc_rfl 56 rfl rfl rfl, oc_rfl 57 rfl rfl rfl, oc_rfl 58 rfl rfl B2⟩
    · obtain rfl : c = q := by simpa using hq
      exact ⟨oc_rfl 49 rfl rfl rfl, oc_rfl 50 rfl rfl C1, oc_rfl 51 rfl rfl rfl, oc_rfl 52 rfl rfl rfl, oc_rfl 53 rfl rfl C2⟩
theorem inn0 {r : Int} (hb : ∀ q ∈ ([] : Rows), 3 ≤ q.1 ∧ q.1 < 256 ∧ 0 ≤ q.2 ∧ q.2 < 128) (hr : 3 ≤ r ∧ r < 256) : Inn (pageB (headB 5 ([] : Rows).length ++ [0, 0, 0, u8 r]) (([] : Rows).map innerRaw)) [] r := by
  have e : pageB (headB 5 ([] : Rows).length ++ [0, 0, 0, u8 r]) (([] : Rows).map innerRaw) = [5, 0, 0, 0, 0, 0, 64, 0, 0, 0, 0, u8 r, 0, 0, 0, 0, 0, 0, 0, 0, 0, 0, 0, 0, 0, 0, 0, 0, 0, 0, 0, 0, 0, 0, 0, 0, 0, 0, 0, 0, 0, 0, 0, 0, 0, 0, 0, 0, 0, 0, 0, 0, 0, 0, 0, 0, 0, 0, 0, 0, 0, 0, 0, 0] := rfl
  have r1 := u8_val (k := r) (by lia) hr.2
  rw [e]
  refine ⟨⟨rfl, .inr ⟨rfl, rfl⟩, by simp, oc_rfl 0 rfl rfl rfl, oc_rfl 3 rfl rfl rfl, oc_rfl 4 rfl rfl rfl, ?_⟩, ⟨oc_rfl 8 rfl rfl rfl, oc_rfl 9 rfl rfl rfl, oc_rfl 10 rfl rfl rfl, oc_rfl 11 rfl rfl r1⟩, ?_, fun q hq => (hb q hq).2.2, fun c hc => ?_⟩
  · intro i h0 h1; simp at h1; lia
  · intro i q h0 hq; simp at hq
  · rcases List.mem_append.mp hc with hc | hc
    · obtain ⟨q, hq, rfl⟩ := List.mem_map.mp hc
      exact (hb q hq).1
    · simp at hc; lia
theorem inn1 {a : Int × Int} {r : Int} (hb : ∀ q ∈ ([a] : Rows), 3 ≤ q.1 ∧ q.1 < 256 ∧ 0 ≤ q.2 ∧ q.2 < 128) (hr : 3 ≤ r ∧ r < 256) : Inn (pageB (headB 5 ([a] : Rows).length ++ [0, 0, 0, u8 r]) (([a] : Rows).map innerRaw)) [a] r := by
  have e : pageB (headB 5 ([a] : Rows).length ++ [0, 0, 0, u8 r]) (([a] : Rows).map innerRaw) = [5, 0, 0, 0, 1, 0, 59, 0, 0, 0, 0, u8 r, 0, 59, 0, 0, 0, 0, 0, 0, 0, 0, 0, 0, 0, 0, 0, 0, 0, 0, 0, 0, 0, 0, 0, 0, 0, 0, 0, 0, 0, 0, 0, 0, 0, 0, 0, 0, 0, 0, 0, 0, 0, 0, 0, 0, 0, 0, 0, 0, 0, 0, u8 a.1, u8 a.2] := rfl
  have r1 := u8_val (k := r) (by lia) hr.2
  rw [e]
  have A := hb a (by simp)
  have A1 := u8_val (k := a.1) (by lia) (by lia)
  have A2 := u8_val (k := a.2) (by lia) (by lia)
  refine ⟨⟨rfl, .inr ⟨rfl, rfl⟩, by simp, oc_rfl 0 rfl rfl rfl, oc_rfl 3 rfl rfl rfl, oc_rfl 4 rfl rfl rfl, ?_⟩, ⟨oc_rfl 8 rfl rfl rfl, oc_rfl 9 rfl rfl rfl, oc_rfl 10 rfl rfl rfl, oc_rfl 11 rfl rfl r1⟩, ?_, fun q hq => (hb q hq).2.2, fun c hc => ?_⟩
  · intro i h0 h1
    obtain rfl : i = 0 := by simp at h1; lia
    exact ⟨oc_rfl 12 rfl rfl rfl, oc_rfl 13 rfl rfl rfl⟩
  · intro i q h0 hq
    have hl := (List.getElem?_eq_some_iff.mp hq).1
    obtain rfl : i = 0 := by simp at hl; lia
    obtain rfl : a = q := by simpa using hq
    exact ⟨oc_rfl 59 rfl rfl rfl, oc_rfl 60 rfl rfl rfl, oc_rfl 61 rfl rfl rfl, oc_rfl 62 rfl rfl A1, oc_rfl 63 rfl rfl A2⟩
  · rcases List.mem_append.mp hc with hc | hc
    · obtain ⟨q, hq, rfl⟩ := List.mem_map.mp hc
      exact (hb q hq).1
    · simp at hc; lia
theorem inn2 {a b : Int × Int} {r : Int} (hb : ∀ q ∈ ([a, b] : Rows), 3 ≤ q.1 ∧ q.1 < 256 ∧ 0 ≤ q.2 ∧ q.2 < 128) (hr : 3 ≤ r ∧ r < 256) : Inn (pageB (headB 5 ([a, b] : Rows).length ++ [0, 0, 0, u8 r]) (([a, b] : Rows).map innerRaw)) [a, b] r := by
  have e : pageB (headB 5 ([a, b] : Rows).length ++ [0, 0, 0, u8 r]) (([a, b] : Rows).map innerRaw) = [5, 0, 0, 0, 2, 0, 54, 0, 0, 0, 0, u8 r, 0, 59, 0, 54, 0, 0, 0, 0, 0, 0, 0, 0, 0, 0, 0, 0, 0, 0, 0, 0, 0, 0, 0, 0, 0, 0, 0, 0, 0, 0, 0, 0, 0, 0, 0, 0, 0, 0, 0, 0, 0, 0, 0, 0, 0, u8 b.1, u8 b.2, 0, 0, 0, u8 a.1, u8 a.2] := rfl
  have r1 := u8_val (k := r) (by lia) hr.2
  rw [e]
  have A := hb a (by simp)
  have A1 := u8_val (k := a.1) (by lia) (by lia)
  have A2 := u8_val (k := a.2) (by lia) (by lia)
  have B := hb b (by simp)
  have B1 := u8_val (k := b.1) (by lia) (by lia)
  have B2 := u8_val (k := b.2) (by lia) (by lia)
  refine ⟨⟨rfl, .inr ⟨rfl, rfl⟩, by simp, oc_rfl 0 rfl rfl rfl, oc_rfl 3 rfl rfl rfl, oc_rfl 4 rfl rfl rfl, ?_⟩, ⟨oc_rfl 8 rfl rfl rfl, oc_rfl 9 rfl rfl rfl, oc_rfl 10 rfl rfl rfl, oc_rfl 11 rfl rfl r1⟩, ?_, fun q hq => (hb q hq).2.2, fun c hc => ?_⟩
  · intro i h0 h1
    obtain rfl | rfl : i = 0 ∨ i = 1 := by simp at h1; lia
    · exact ⟨oc_rfl 12 rfl rfl rfl, oc_rfl 13 rfl rfl rfl⟩
    · exact ⟨oc_rfl 14 rfl rfl rfl, oc_rfl 15 rfl rfl rfl⟩
  · intro i q h0 hq
    have hl := (List.getElem?_eq_some_iff.mp hq).1
    obtain rfl | rfl : i = 0 ∨ i = 1 := by simp at hl; lia
    · obtain rfl : a = q := by simpa using hq
      exact ⟨oc_rfl 59 rfl rfl rfl, oc_rfl 60 rfl rfl rfl, oc_rfl 61 rfl rfl rfl, oc_rfl 62 rfl rfl A1, oc_rfl 63 rfl rfl A2⟩
    · obtain rfl : b = q := by simpa using hq
      exact ⟨oc_rfl 54 rfl rfl rfl, oc_rfl 55 rfl rfl rfl, oc_rfl 56 rfl rfl rfl, oc_rfl 57 rfl rfl B1, oc_rfl 58 rfl rfl B2⟩
  · rcases List.mem_append.mp hc with hc | hc
    · obtain ⟨q, hq, rfl⟩ := List.mem_map.mp hc
      exact (hb q hq).1
    · simp at hc; lia
theorem inn3 {a b c : Int × Int} {r : Int} (hb : ∀ q ∈ ([a, b, c] : Rows), 3 ≤ q.1 ∧ q.1 < 256 ∧ 0 ≤ q.2 ∧ q.2 < 128) (hr : 3 ≤ r ∧ r < 256) : Inn (pageB (headB 5 ([a, b, c] : Rows).length ++ [0, 0, 0, u8 r]) (([a, b, c] : Rows).map innerRaw)) [a, b, c] r := by
  have e : pageB (headB 5 ([a, b, c] : Rows).length ++ [0, 0, 0, u8 r]) (([a, b, c] : Rows).map innerRaw) = [5, 0, 0, 0, 3, 0, 49, 0, 0, 0, 0, u8 r, 0, 59, 0, 54, 0, 49, 0, 0, 0, 0, 0, 0, 0, 0, 0, 0, 0, 0, 0, 0, 0, 0, 0, 0, 0, 0, 0, 0, 0, 0, 0, 0, 0, 0, 0, 0, 0, 0, 0, 0, u8 c.1, u8 c.2, 0, 0, 0, u8 b.1, u8 b.2, 0, 0, 0, u8 a.1, u8 a.2] := rfl
  have r1 := u8_val (k := r) (by lia) hr.2
  rw [e]
  have A := hb a (by simp)
  have A1 := u8_val (k := a.1) (by lia) (by lia)
  have A2 := u8_val (k := a.2) (by lia) (by lia)
  have B := hb b (by simp)
  have B1 := u8_val (k := b.1) (by lia) (by lia)
  have B2 := u8_val (k := b.2) (by lia) (by lia)
  have C := hb c (by simp)
  have C1 := u8_val (k := c.1) (by lia) (by lia)
  have C2 := u8_val (k := c.2) (by lia) (by lia)
  refine ⟨⟨rfl, .inr ⟨rfl, rfl⟩, by simp, oc_rfl 0 rfl rfl rfl, oc_rfl 3 rfl rfl rfl, oc_rfl 4 rfl rfl rfl, ?_⟩, ⟨oc_rfl 8 rfl rfl rfl, oc_rfl 9 rfl rfl rfl, oc_rfl 10 rfl rfl rfl, oc_rfl 11 rfl rfl r1⟩, ?_, fun q hq => (hb q hq).2.2, fun c hc => ?_⟩
  · intro i h0 h1
    obtain rfl | rfl | rfl : i = 0 ∨ i = 1 ∨ i = 2 := by simp at h1; lia
    · exact ⟨oc_rfl 12 rfl rfl rfl, oc_rfl 13 rfl rfl rfl⟩
    · exact ⟨oc_rfl 14 rfl rfl rfl, oc_rfl 15 rfl rfl rfl⟩
    · exact ⟨oc_rfl 16 rfl rfl rfl, oc_rfl 17 rfl rfl rfl⟩
  · intro i q h0 hq
    have hl := (List.getElem?_eq_some_iff.mp hq).1
    obtain rfl | rfl | rfl : i = 0 ∨ i = 1 ∨ i = 2 := by simp at hl; lia
    · obtain rfl : a = q := by simpa using hq
      exact ⟨oc_rfl 59 rfl rfl rfl, oc_rfl 60 rfl rfl rfl, oc_rfl 61 rfl rfl rfl, oc_rfl 62 rfl rfl A1, oc_rfl 63 rfl rfl A2⟩
    · obtain rfl : b = q := by simpa using hq
      exact ⟨oc_rfl 54 rfl rfl rfl, oc_rfl 55 rfl rfl rfl, oc_rfl 56 rfl rfl rfl, oc_rfl 57 rfl rfl B1, oc_rfl 58 rfl rfl B2⟩
    · obtain rfl : c = q := by simpa using hq
      exact ⟨oc_rfl 49 rfl rfl rfl, oc_rfl 50 rfl rfl rfl, oc_rfl 51 rfl rfl rfl, oc_rfl 52 rfl rfl C1, oc_rfl 53 rfl rfl C2⟩
  · rcases List.mem_append.mp hc with hc | hc
    · obtain ⟨q, hq, rfl⟩ := List.mem_map.mp hc
      exact (hb q hq).1
    · simp at hc; lia
theorem inn4 {a b c d : Int × Int} {r : Int} (hb : ∀ q ∈ ([a, b, c, d] : Rows), 3 ≤ q.1 ∧ q.1 < 256 ∧ 0 ≤ q.2 ∧ q.2 < 128) (hr : 3 ≤ r ∧ r < 256) : Inn (pageB (headB 5 ([a, b, c, d] : Rows).length ++ [0, 0, 0, u8 r]) (([a, b, c, d] : Rows).map innerRaw)) [a, b, c, d] r := by
  have e : pageB (headB 5 ([a, b, c, d] : Rows).length ++ [0, 0, 0, u8 r]) (([a, b, c, d] : Rows).map innerRaw) = [5, 0, 0, 0, 4, 0, 44, 0, 0, 0, 0, u8 r, 0, 59, 0, 54, 0, 49, 0, 44, 0, 0, 0, 0, 0, 0, 0, 0, 0, 0, 0, 0, 0, 0, 0, 0, 0, 0, 0, 0, 0, 0, 0, 0, 0, 0, 0, u8 d.1, u8 d.2, 0, 0, 0, u8 c.1, u8 c.2, 0, 0, 0, u8 b.1, u8 b.2, 0, 0, 0, u8 a.1, u8 a.2] := rfl
  have r1 := u8_val (k := r) (by lia) hr.2
  rw [e]
  have A := hb a (by simp)
  have A1 := u8_val (k := a.1) (by lia) (by lia)
  have A2 := u8_val (k := a.2) (by lia) (by lia)
  have B := hb b (by simp)
  have B1 := u8_val (k := b.1) (by lia) (by lia)
  have B2 := u8_val (k := b.2) (by lia) (by lia)
  have C := hb c (by simp)
  have C1 := u8_val (k := c.1) (by lia) (by lia)
  have C2 := u8_val (k := c.2) (by lia) (by lia)
  have D := hb d (by simp)
  have D1 := u8_val (k := d.1) (by lia) (by lia)
  have D2 := u8_val (k := d.2) (by lia) (by lia)
  refine ⟨⟨rfl, .inr ⟨rfl, rfl⟩, by simp, oc_rfl 0 rfl rfl rfl, oc_rfl 3 rfl rfl rfl, oc_rfl 4 rfl rfl rfl, ?_⟩, ⟨oc_rfl 8 rfl rfl rfl, oc_rfl 9 rfl rfl rfl, oc_rfl 10 rfl rfl rfl, oc_rfl 11 rfl rfl r1⟩, ?_, fun q hq => (hb q hq).2.2, fun c hc => ?_⟩
  · intro i h0 h1
    obtain rfl | rfl | rfl | rfl : i = 0 ∨ i = 1 ∨ i = 2 ∨ i = 3 := by simp at h1; lia
    · exact ⟨oc_rfl 12 rfl rfl rfl, oc_rfl 13 rfl rfl rfl⟩
    · exact ⟨oc_rfl 14 rfl rfl rfl, oc_rfl 15 rfl rfl rfl⟩
    · exact ⟨oc_rfl 16 rfl rfl rfl, oc_rfl 17 rfl rfl rfl⟩
    · exact ⟨oc_rfl 18 rfl rfl rfl, oc_rfl 19 rfl rfl rfl⟩
  · intro i q h0 hq
    have hl := (List.getElem?_eq_some_iff.mp hq).1
    obtain rfl | rfl | rfl | rfl : i = 0 ∨ i = 1 ∨ i = 2 ∨ i = 3 := by simp at hl; lia
    · obtain rfl : a = q := by simpa using hq
      exact ⟨oc_rfl 59 rfl rfl rfl, oc_rfl 60 rfl rfl rfl, oc_rfl 61 rfl rfl rfl, oc_rfl 62 rfl rfl A1, oc_rfl 63 rfl rfl A2⟩
    · obtain rfl : b = q := by simpa using hq
      exact ⟨oc_rfl 54 rfl rfl rfl, oc_rfl 55 rfl rfl rfl, oc_rfl 56 rfl rfl rfl, oc_rfl 57 rfl rfl B1, oc_rfl 58 rfl rfl B2⟩
    · obtain rfl : c = q := by simpa using hq
      exact ⟨oc_rfl 49 rfl rfl rfl, oc_rfl 50 rfl rfl rfl, oc_rfl 51 rfl rfl rfl, oc_rfl 52 rfl rfl C1, oc_rfl 53 rfl rfl C2⟩
    · obtain rfl : d = q := by simpa using hq
      exact ⟨oc_rfl 44 rfl rfl rfl, oc_rfl 45 rfl rfl rfl, oc_rfl 46 rfl rfl rfl, oc_rfl 47 rfl rfl D1, oc_rfl 48 rfl rfl D2⟩
  · rcases List.mem_append.mp hc with hc | hc
    · obtain ⟨q, hq, rfl⟩ := List.mem_map.mp hc
      exact (hb q hq).1
    · simp at hc; lia
theorem lf_of {rows : Rows} (h : rows.length ≤ 3) (hb : ∀ q ∈ rows, 0 ≤ q.1 ∧ q.1 < 128 ∧ 0 ≤ q.2 ∧ q.2 < 128) : Lf (pageB (headB 13 rows.length) (rows.map leafRaw)) rows :=
  match rows, h, hb with
  | [], _, hb => lf0 hb
  | [_], _, hb => lf1 hb
  | [_, _], _, hb => lf2 hb
  | [_, _, _], _, hb => lf3 hb
  | _ :: _ :: _ :: _ :: _, h, _ => absurd h (by simp)
theorem inn_of {cs : List (Int × Int)} {r : Int} (h : cs.length ≤ 4) (hb : ∀ q ∈ cs, 3 ≤ q.1 ∧ q.1 < 256 ∧ 0 ≤ q.2 ∧ q.2 < 128) (hr : 3 ≤ r ∧ r < 256) : Inn (pageB (headB 5 cs.length ++ [0, 0, 0, u8 r]) (cs.map innerRaw)) cs r :=
  match cs, h, hb with
  | [], _, hb => inn0 hb hr
  | [_], _, hb => inn1 hb hr
  | [_, _], _, hb => inn2 hb hr
  | [_, _, _], _, hb => inn3 hb hr
  | [_, _, _, _], _, hb => inn4 hb hr
  | _ :: _ :: _ :: _ :: _ :: _, h, _ => absurd h (by simp)
theorem little2 {k : Int} (h0 : 0 ≤ k) (h1 : k < 256) : (KTBy.little 2 k).reverse.map (fun c => c.toNat.toUInt8) = [0, u8 k] := by
  rw [KTBy.little_eq]
  simp only [List.range, List.range.loop, List.map_cons, List.map_nil, List.reverse_cons, List.reverse_nil, List.nil_append, List.cons_append]
  have e0 : k / 256 ^ 0 % 256 = k := by rw [Int.pow_zero, Int.ediv_one]; exact Int.emod_eq_of_lt h0 h1
  have e1 : k / 256 ^ 1 % 256 = 0 := by show k / 256 % 256 = 0; rw [Int.ediv_eq_zero_of_lt h0 h1]; rfl
  rw [e0, e1]; rfl
theorem little4 {k : Int} (h0 : 0 ≤ k) (h1 : k < 256) : (KTBy.little 4 k).reverse.map (fun c => c.toNat.toUInt8) = [0, 0, 0, u8 k] := by
  rw [KTBy.little_eq]
  simp only [List.range, List.range.loop, List.map_cons, List.map_nil, List.reverse_cons, List.reverse_nil, List.nil_append, List.cons_append]
  have e0 : k / 256 ^ 0 % 256 = k := by rw [Int.pow_zero, Int.ediv_one]; exact Int.emod_eq_of_lt h0 h1
  have e1 : k / 256 ^ 1 % 256 = 0 := by show k / 256 % 256 = 0; rw [Int.ediv_eq_zero_of_lt h0 h1]; rfl
  have e2 : k / 256 ^ 2 % 256 = 0 := by show k / 65536 % 256 = 0; rw [Int.ediv_eq_zero_of_lt h0 (Int.lt_trans h1 (by decide))]; rfl
  have e3 : k / 256 ^ 3 % 256 = 0 := by show k / 16777216 % 256 = 0; rw [Int.ediv_eq_zero_of_lt h0 (Int.lt_trans h1 (by decide))]; rfl
  rw [e0, e1, e2, e3]; rfl

/-! the store -/
section
variable {u : U} {n : Nat} {f : Fm} {l : Led} {ℓ : Loc} {P : V → Led → Prop} {i : Int}
theorem Put_dictT {a : Addr} {kvs : List (Int × V)} {v : V} {l' : Led} {R : Led → Prop} (t : Turn a (.dict kvs) (.dict (dPut kvs i v)) l l') (hz : kvs.length ≤ 10000) (h : R l') : PutV u n f l ℓ (.ref a) (.int i) v R := Put_dict hz t h
end
local macro_rules | `(tactic| wtm_at "s") => tTab "PutV 9: Put_dictT turn sz _ / Call_bytes_int ar ar _"
section
variable {st sd pl sp : Addr} {pages : List (List UInt8)}
noncomputable def blank : List UInt8 := List.replicate 64 0
theorem sp_extend (hz : pages.length ≤ 1000) : Spec 1 (.ref 747) [.ref st] [(st, O.inst 764 sd), (sd, O.ns [("page_size", .int 64), ("pages", .ref pl), ("spare", .ref sp)]), (pl, O.list (pages.map .bytes))] fun v l => v = .int ((pages.length : Int) + 1) ∧
    l = [(st, O.inst 764 sd), (sd, O.ns [("page_size", .int 64), ("pages", .ref pl), ("spare", .ref sp)]), (pl, O.list ((pages ++ [blank]).map .bytes))] := by
  have hl : (pages.map V.bytes).length = pages.length := List.length_map ..
  have hl2 : ∀ x, (pages.map V.bytes ++ [x]).length = pages.length + 1 := fun x => by simp
  have e : (pages ++ [blank]).map V.bytes = pages.map .bytes ++ [.bytes blank] := by simp
  rw [e]
  refine Spec_defR (ps := ["self"]) (ℓ₀ := [("self", .loc (.ref st)), ("bytes", .glob (.ty "bytes")), ("len", .glob (.bi "len"))]) (by intro P; k_is) (by intro P; k_is) (reps1 (by intros; rfl)) (by intro P; kernel_rfl!) (by intro P; kernel_rfl!) (fun u f FR hPo => ?_) (by rfl) (by rfl) (by rfl)

  wtm_at "r"
  refine hPo <| Done_has (Has.refl _) ⟨?_, rfl⟩
  rw [hl2]; rfl
theorem sp_write_page {p : Int} {xs : List UInt8} (hx : xs.length = 64) (h1 : 1 ≤ p) (h2 : p ≤ pages.length) (hz : pages.length ≤ 1000) : Spec 1 (.ref 740) [.ref st, .int p, .bytes xs] [(st, O.inst 764 sd), (sd, O.ns [("page_size", .int 64), ("pages", .ref pl), ("spare", .ref sp)]), (pl, O.list (pages.map .bytes))] fun v l => v = .none ∧
    l = [(st, O.inst 764 sd), (sd, O.ns [("page_size", .int 64), ("pages", .ref pl), ("spare", .ref sp)]), (pl, O.list ((pages.set (p - 1).toNat xs).map .bytes))] := by
  have hl : (pages.map V.bytes).length = pages.length := List.length_map ..
  have e : (pages.set (p - 1).toNat xs).map V.bytes = (pages.map .bytes).set (p - 1).toNat (.bytes xs) := List.map_set ..
  rw [e]
  refine Spec_defR (ps := ["self", "page", "octets"]) (ℓ₀ := [("self", .loc (.ref st)), ("page", .loc (.int p)), ("octets", .loc (.bytes xs)), ("len", .glob (.bi "len")), ("MisuseError", .glob (.ref 63)), ("bytes", .glob (.ty "bytes"))]) (by intro P; k_is) (by intro P; k_is) (reps3 (by intros; rfl)) (by intro P; kernel_rfl!) (by intro P; kernel_rfl!) (fun u f FR hPo => ?_) (by rfl) (by rfl) (by rfl)

  wtm_at "r"
  wtm_at "fin"
theorem sp_PageStore : Spec 2 (.ref 764) [.int 64] [] fun v l => ∃ st sd pl sp, v = .ref st ∧ l = [(st, O.inst 764 sd), (sd, O.ns [("page_size", .int 64), ("pages", .ref pl), ("spare", .ref sp)]), (pl, O.list [])] := by
  refine Spec_cls ct_764 fun a d => ?_
  refine Spec_defR (ps := ["self", "page_size"]) (ℓ₀ := [("self", .loc (.ref a)), ("page_size", .loc (.int 64))]) (by intro P; k_is) (by intro P; k_is) (reps2 (by intros; rfl)) (by intro P; kernel_rfl!) (by intro P; kernel_rfl!) (fun u f FR hPo => ?_) (by rfl) (by rfl) (by rfl)

  wtm_at "r"
  intro pl
  wtm_at "r"
  intro sp
  wtm_at "r"
  exact hPo <| Done_nxt (by wtm_at "hs") ⟨rfl, a, d, pl, sp, rfl, rfl⟩
theorem sp_TreeReader : Spec 2 (.ref 820) [.ref st] [] fun v l => ∃ tr td ch, v = .ref tr ∧ l = [(tr, O.inst 820 td), (td, O.ns [("pager", .ref st), ("changes", .ref ch)]), (ch, O.dict [])] := by
  refine Spec_cls ct_820 fun a d => ?_
  refine Spec_defR (ps := ["self", "pager"]) (ℓ₀ := [("self", .loc (.ref a)), ("pager", .loc (.ref st))]) (by intro P; k_is) (by intro P; k_is) (reps2 (by intros; rfl)) (by intro P; kernel_rfl!) (by intro P; kernel_rfl!) (fun u f FR hPo => ?_) (by rfl) (by rfl) (by rfl)

  wtm_at "r"
  intro ch
  wtm_at "r"
  exact hPo <| Done_nxt (by wtm_at "hs") ⟨rfl, a, d, ch, rfl, rfl⟩
theorem sp_touch {tr td ch : Addr} {kvs : List (Int × V)} {N : Int} (hN : (dAt kvs 2).getD (.int 0) = .int N) (hz : kvs.length ≤ 10000) : Spec 1 (.ref 810) [.ref tr, .int 2] [(tr, O.inst 820 td), (td, O.ns [("pager", .ref st), ("changes", .ref ch)]), (ch, O.dict kvs)] fun v l => v = .none ∧
    l = [(tr, O.inst 820 td), (td, O.ns [("pager", .ref st), ("changes", .ref ch)]), (ch, O.dict (dPut kvs 2 (.int (N + 1))))] := by
  refine Spec_defR (ps := ["self", "root"]) (ℓ₀ := [("self", .loc (.ref tr)), ("root", .loc (.int 2))]) (by intro P; k_is) (by intro P; k_is) (reps2 (by intros; rfl)) (by intro P; kernel_rfl!) (by intro P; kernel_rfl!) (fun u f FR hPo => ?_) (by rfl) (by rfl) (by rfl)

  wtm_at "r"
  refine (Eq.symm (hN)) ▸ ?_
  wtm_at "r"
  wtm_at "fin"
theorem sp_changes0 {cu cd tr td ch ph : Addr} {kvs : List (Int × V)} {N : Int} (hN : (dAt kvs 2).getD (.int 0) = .int N) :
    Spec 1 (.ref 429) [.ref cu] [(cu, O.inst 703 cd), (cd, O.ns [("btree", .ref tr), ("root", .int 2), ("state", .int 0), ("path", .ref ph), ("key", .none), ("cell", .none), ("octets", .none)]), (tr, O.inst 820 td), (td, O.ns [("pager", .ref st), ("changes", .ref ch)]), (ch, O.dict kvs)]
      fun v l => v = .int N ∧ l = [(cu, O.inst 703 cd), (cd, O.ns [("btree", .ref tr), ("root", .int 2), ("state", .int 0), ("path", .ref ph), ("key", .none), ("cell", .none), ("octets", .none)]), (tr, O.inst 820 td), (td, O.ns [("pager", .ref st), ("changes", .ref ch)]), (ch, O.dict kvs)] := by
  refine Spec_defR (ps := ["self"]) (ℓ₀ := [("self", .loc (.ref cu))]) (by intro P; k_is) (by intro P; k_is) (reps1 (by intros; rfl)) (by intro P; kernel_rfl!) (by intro P; kernel_rfl!) (fun u f FR hPo => ?_) (by rfl) (by rfl) (by rfl)

  wtm_at "r"
  refine (Eq.symm (hN)) ▸ ?_
  wtm_at "r"
  wtm_at "fin"
theorem sp_RowCursor {tr td ch : Addr} {kvs : List (Int × V)} {R : Rows} {D : Nat} {N : Int} (hN : (dAt kvs 2).getD (.int 0) = .int N) : Spec 3 (.ref 703) [.ref tr, .int 2] [(tr, O.inst 820 td), (td, O.ns [("pager", .ref st), ("changes", .ref ch)]), (ch, O.dict kvs), (st, O.inst 764 sd), (sd, O.ns [("page_size", .int 64), ("pages", .ref pl), ("spare", .ref sp)]), (pl, O.list (pages.map .bytes))] fun v l => ∃ cu cd, v = .ref cu ∧ CurF cu cd tr td ch st sd pl sp kvs pages R D N none l := by
  refine Spec_cls ct_703 fun cu cd => ?_
  refine Spec_defR (ps := ["self", "btree", "root"]) (ℓ₀ := [("self", .loc (.ref cu)), ("btree", .loc (.ref tr)), ("root", .loc (.int 2)), ("NOWHERE", .glob (.int 0))]) (by intro P; k_is) (by intro P; k_is) (reps3 (by intros; rfl)) (by intro P; kernel_rfl!) (by intro P; kernel_rfl!) (fun u f FR hPo => ?_) (by rfl) (by rfl) (by rfl)

  wtm_at "r"
  intro ph
  wtm_at "r"
  refine CallV_one (sp_changes0 hN) (by wtm_at "one") (by wtm_at "sel") (by wtm_at "app") ?_
  wtm_at "r"
  exact hPo <| Done_nxt (by wtm_at "hs") ⟨rfl, cu, cd, rfl, .no⟩
end

/-! a page's contents -/
section
variable {u : U} {n : Nat} {f : Fm} {l : Led} {ℓ : Loc} {P : V → Led → Prop} {B : Bool → Led → Prop}
theorem CompV_list {tgt elt : Expr} {ifs : List Expr} {ℓ₀ : Loc} {a : Addr} {vs : List V} {l₁ l₂ : Led} (pk : Pick (a, O.list vs) l₁ l₂) (hz : vs.length ≤ 10000) (I : Nat → List V → Led → Loc → Prop) (h0 : I 0 [] l₂ ℓ₀)
    (turn : ∀ f' i acc l ℓ v, vs[i]? = some v → I i acc l ℓ → Asg u n f' l ℓ tgt v fun l' ℓ' => Filt u n f' l' ℓ' ifs fun b l₂ => Br b (Ev u n f' l₂ ℓ' elt fun y l₃ => I (i + 1) (acc ++ [y]) l₃ ℓ') (I (i + 1) acc l₂ ℓ'))
    (hend : ∀ acc l' ℓ', I vs.length acc l' ℓ' → ∀ d, ∃ o, App l' [(a, O.list vs)] o ∧ P (.ref d) ((d, O.list acc) :: o)) : CompV u n tgt elt ifs ℓ₀ (.ref a) l₁ P := by
  refine ⟨_, l₂, vs.length, _, Src_list pk, hz, I, h0, fun f' i acc l ℓ hi h => ?_, fun acc l' ℓ' h d => ?_⟩
  · have e : vs[i]? = some vs[i] := List.getElem?_eq_getElem hi
    rw [e]
    exact turn f' i acc l ℓ _ e h
  · obtain ⟨o, ap, h⟩ := hend acc l' ℓ' h d
    rw [List.cons_append, ap.eq]; exact h
theorem CompV_dict {tgt elt : Expr} {ifs : List Expr} {ℓ₀ : Loc} {a : Addr} {kvs : List (Int × V)} {l₁ l₂ : Led} (pk : Pick (a, O.dict kvs) l₁ l₂) (hz : kvs.length ≤ 10000) (I : Nat → List V → Led → Loc → Prop) (h0 : I 0 [] l₂ ℓ₀)
    (turn : ∀ f' i acc l ℓ k v, kvs[i]? = some (k, v) → I i acc l ℓ → Asg u n f' l ℓ tgt (.int k) fun l' ℓ' => Filt u n f' l' ℓ' ifs fun b l₂ => Br b (Ev u n f' l₂ ℓ' elt fun y l₃ => I (i + 1) (acc ++ [y]) l₃ ℓ') (I (i + 1) acc l₂ ℓ'))
    (hend : ∀ acc l' ℓ', I kvs.length acc l' ℓ' → ∀ d, ∃ o, App l' [(a, O.dict kvs)] o ∧ P (.ref d) ((d, O.list acc) :: o)) : CompV u n tgt elt ifs ℓ₀ (.ref a) l₁ P := by
  refine ⟨_, l₂, kvs.length, _, Src_dict pk, hz, I, h0, fun f' i acc l ℓ hi h => ?_, fun acc l' ℓ' h d => ?_⟩
  · have e : kvs[i]? = some kvs[i] := List.getElem?_eq_getElem hi
    rw [e]
    exact turn f' i acc l ℓ _ _ e h
  · obtain ⟨o, ap, h⟩ := hend acc l' ℓ' h d
    rw [List.cons_append, ap.eq]; exact h
theorem Filt_nil (h : B true l) : Filt u n f l ℓ [] B := h
theorem Filt_one {c : Expr} (h : Tr u n f l ℓ c B) : Filt u n f l ℓ [c] B := h
theorem Call_sumT {a : Addr} {is : List Int} (ha : (a, O.list (is.map .int)) ∈ l) (h : P (.int is.sum) l) : CallV u n f l ℓ (.bi "sum") [.ref a] P := Call_sum ha h
end
local macro_rules | `(tactic| wtm_at "s") => tTab "Filt_nil _ | Filt_one _ | Call_sumT lk _"
theorem sum_rep (n : Nat) : (List.replicate n (7 : Int)).sum = 7 * n := by
  induction n with
  | zero => rfl
  | succ n ih => rw [List.replicate_succ, List.sum_cons, ih]; lia
theorem sp_cost {b : List UInt8} (hb : b.length = 5) : Spec 1 (.ref 583) [.bytes b] [] fun v l => v = .int 7 ∧ l = [] := by
  refine Spec_defR (ps := ["raw"]) (ℓ₀ := [("raw", .loc (.bytes b)), ("POINTER", .glob (.int 2)), ("max", .glob (.bi "max")), ("LEAST_CELL", .glob (.int 4)), ("len", .glob (.bi "len"))]) (by intro P; k_is) (by intro P; k_is) (reps1 (by intros; rfl)) (by intro P; kernel_rfl!) (by intro P; kernel_rfl!) (fun u f FR hPo => ?_) (by rfl) (by rfl) (by rfl)

  wtm_at "r"
  refine (Eq.symm (hb)) ▸ ?_
  wtm_at "r"
  wtm_at "fin"
theorem sp_total {rl : Addr} {bs : List (List UInt8)} (hb : ∀ b ∈ bs, b.length = 5) (hn : bs.length ≤ 8) : Spec 2 (.ref 588) [.ref rl] [(rl, O.list (bs.map .bytes))] fun v l => v = .int (7 * bs.length) ∧ l = [(rl, O.list (bs.map .bytes))] := by
  refine Spec_defR (ps := ["raws"]) (ℓ₀ := [("raws", .loc (.ref rl)), ("sum", .glob (.bi "sum"))]) (by intro P; k_is) (by intro P; k_is) (reps1 (by intros; rfl)) (by intro P; kernel_rfl!) (by intro P; kernel_rfl!) (fun u f FR hPo => ?_) (by rfl) (by rfl) (by rfl)

  have hl : (bs.map V.bytes).length = bs.length := List.length_map ..
  wtm_at "r"
  refine Ev_ListComp [] [(".0", .unb), ("raw", .unb), ("cost", .glob (.ref 583))] rfl nofun (by intro P; kernel_rfl!) (by intro P; kernel_rfl!) rfl ?_ (by intro _; rfl)
  wtm_at "r"
  refine CompV_list (by wtm_at "pick") (by lia) (fun i acc l ℓ => acc = (List.replicate i (7 : Int)).map .int ∧ l = [] ∧ ∃ s, Lo s ∧ ℓ = ([(".0", .unb), ("raw", s), ("cost", .glob (.ref 583))] : Loc)) ⟨rfl, rfl, _, Lo.unb, rfl⟩ ?_ ?_
  · rintro f' i acc l ℓ v hv; refine elA3 ?_; rintro rfl rfl; refine elX1_2 ?_; rintro s ls rfl
    rw [List.getElem?_map] at hv
    obtain ⟨b, hb', rfl⟩ := Option.map_eq_some_iff.mp hv
    have h5 := hb b (List.mem_of_getElem? hb')
    wtm_at "r"
    refine CallV_one (sp_cost h5) (by wtm_at "one") (by wtm_at "sel") (by wtm_at "app") ?_
    refine ⟨?_, rfl, _, Lo.loc, rfl⟩
    rw [List.replicate_succ', List.map_append]; rfl
  · rintro acc l' ℓ' ⟨rfl, rfl, -⟩ d
    refine ⟨_, by wtm_at "app", ?_⟩
    wtm_at "r"
    rw [sum_rep, hl]
    wtm_at "r"
    wtm_at "fin"
theorem sp_base_of {p : Int} (hp : 2 ≤ p) : Spec 1 (.ref 595) [.int p] [] fun v l => v = .int 0 ∧ l = [] := by
  refine Spec_defR (ps := ["page"]) (ℓ₀ := [("page", .loc (.int p)), ("HEADER_SIZE", .glob (.int 32))]) (by intro P; k_is) (by intro P; k_is) (reps1 (by intros; rfl)) (by intro P; kernel_rfl!) (by intro P; kernel_rfl!) (fun u f FR hPo => ?_) (by rfl) (by rfl) (by rfl)

  wtm_at "r"
  wtm_at "fin"
theorem sp_capacity_y {p : Int} (hp : 2 ≤ p) : Spec 3 (.ref 602) [.int p, .int 13, .int 64] [] fun v l => v = .int 56 ∧ l = [] := by
  refine Spec_defR (ps := ["page", "kind", "usable"]) (ℓ₀ := [("page", .loc (.int p)), ("kind", .loc (.int 13)), ("usable", .loc (.int 64)), ("base_of", .glob (.ref 595)), ("head_size", .glob (.ref 200))]) (by intro P; k_is) (by intro P; k_is) (reps3 (by intros; rfl)) (by intro P; kernel_rfl!) (by intro P; kernel_rfl!) (fun u f FR hPo => ?_) (by rfl) (by rfl) (by rfl)

  wtm_at "r"
  refine CallV_one (sp_base_of hp) (by wtm_at "one") (by wtm_at "sel") (by wtm_at "app") ?_
  wtm_at "r"
  refine CallV_one sp_head_y (by wtm_at "one") (by wtm_at "sel") (by wtm_at "app") ?_
  wtm_at "r"
  wtm_at "fin"
theorem sp_capacity_n {p : Int} (hp : 2 ≤ p) : Spec 3 (.ref 602) [.int p, .int 5, .int 64] [] fun v l => v = .int 52 ∧ l = [] := by
  refine Spec_defR (ps := ["page", "kind", "usable"]) (ℓ₀ := [("page", .loc (.int p)), ("kind", .loc (.int 5)), ("usable", .loc (.int 64)), ("base_of", .glob (.ref 595)), ("head_size", .glob (.ref 200))]) (by intro P; k_is) (by intro P; k_is) (reps3 (by intros; rfl)) (by intro P; kernel_rfl!) (by intro P; kernel_rfl!) (fun u f FR hPo => ?_) (by rfl) (by rfl) (by rfl)

  wtm_at "r"
  refine CallV_one (sp_base_of hp) (by wtm_at "one") (by wtm_at "sel") (by wtm_at "app") ?_
  wtm_at "r"
  refine CallV_one sp_head_n (by wtm_at "one") (by wtm_at "sel") (by wtm_at "app") ?_
  wtm_at "r"
  wtm_at "fin"
theorem sp_Content {K r : Int} {rl : Addr} : Spec 2 (.ref 626) [.int K, .ref rl, .int r] [] fun v l => ∃ co cod, v = .ref co ∧ l = [(co, O.inst 626 cod), (cod, O.ns [("kind", .int K), ("raws", .ref rl), ("right", .int r)])] := by
  refine Spec_cls ct_626 fun a d => ?_
  refine Spec_defR (ps := ["self", "kind", "raws", "right"]) (ℓ₀ := [("self", .loc (.ref a)), ("kind", .loc (.int K)), ("raws", .loc (.ref rl)), ("right", .loc (.int r))]) (by intro P; k_is) (by intro P; k_is) (reps4 (by intros; rfl)) (by intro P; kernel_rfl!) (by intro P; kernel_rfl!) (fun u f FR hPo => ?_) (by rfl) (by rfl) (by rfl)

  wtm_at "r"
  exact hPo <| Done_nxt (by wtm_at "hs") ⟨rfl, a, d, rfl, rfl⟩
section
variable {st sd pl sp co cod rl : Addr} {pages : List (List UInt8)}
theorem sp_fits {K r p : Int} {bs : List (List UInt8)} (hK : K = 13 ∨ K = 5) (hp : 2 ≤ p) (hb : ∀ b ∈ bs, b.length = 5) (hn : bs.length ≤ 4) :
    Spec 4 (.ref 637) [.ref st, .int p, .ref co] [(st, O.inst 764 sd), (sd, O.ns [("page_size", .int 64), ("pages", .ref pl), ("spare", .ref sp)]), (co, O.inst 626 cod), (cod, O.ns [("kind", .int K), ("raws", .ref rl), ("right", .int r)]), (rl, O.list (bs.map .bytes))]
      fun v l => v = .bool true ∧ l = [(st, O.inst 764 sd), (sd, O.ns [("page_size", .int 64), ("pages", .ref pl), ("spare", .ref sp)]), (co, O.inst 626 cod), (cod, O.ns [("kind", .int K), ("raws", .ref rl), ("right", .int r)]), (rl, O.list (bs.map .bytes))] := by
  refine Spec_defR (ps := ["pager", "page", "content"]) (ℓ₀ := [("pager", .loc (.ref st)), ("page", .loc (.int p)), ("content", .loc (.ref co)), ("total", .glob (.ref 588)), ("capacity", .glob (.ref 602))]) (by intro P; k_is) (by intro P; k_is) (reps3 (by intros; rfl)) (by intro P; kernel_rfl!) (by intro P; kernel_rfl!) (fun u f FR hPo => ?_) (by rfl) (by rfl) (by rfl)

  wtm_at "r"
  refine CallV_one (sp_total hb (by lia)) (by wtm_at "one") (by wtm_at "sel") (by wtm_at "app") ?_
  wtm_at "r"
  rcases hK with rfl | rfl
  · refine CallV_one (sp_capacity_y hp) (by wtm_at "one") (by wtm_at "sel") (by wtm_at "app") ?_
    wtm_at "r"
    exact hPo <| Done_has (by wtm_at "hs") ⟨by rw [decide_eq_true (by lia)], rfl⟩
  · refine CallV_one (sp_capacity_n hp) (by wtm_at "one") (by wtm_at "sel") (by wtm_at "app") ?_
    wtm_at "r"
    exact hPo <| Done_has (by wtm_at "hs") ⟨by rw [decide_eq_true (by lia)], rfl⟩
end

/-! write_content -/
noncomputable def hdOf (K : Int) (n : Nat) (r : Int) : List UInt8 := if K = 13 then headB 13 n else headB 5 n ++ [0, 0, 0, u8 r]
theorem cut_zero (xs : List UInt8) : cut xs none (some 0) = [] := by
  unfold cut
  have : clipAt xs.length 0 = 0 := (clipAt_nat _ 0).trans (Nat.zero_min _)
  simp only [Option.elim, this]
  rfl
section
variable {u : U} {n : Nat} {f : Fm} {l : Led} {ℓ : Loc} {P : V → Led → Prop} {i : Int}
theorem Call_to_bytes2 (h0 : 0 ≤ i) (h1 : i < 256) (h : P (.bytes [0, u8 i]) l) : CallV u n f l ℓ (.bi "int.to_bytes") [.int i, .int 2, .str "big"] P :=
  Call_to_bytes (k := 2) (B := 65536) (by decide) (by decide) h0 (by lia) (by rw [little2 h0 h1]; exact h)
theorem Call_to_bytes4 (h0 : 0 ≤ i) (h1 : i < 256) (h : P (.bytes [0, 0, 0, u8 i]) l) : CallV u n f l ℓ (.bi "int.to_bytes") [.int i, .int 4, .str "big"] P :=
  Call_to_bytes (k := 4) (B := 4294967296) (by decide) (by decide) h0 (by lia) (by rw [little4 h0 h1]; exact h)
theorem Call_joinT {a : Addr} {bs : List (List UInt8)} (ha : (a, O.list (bs.map .bytes)) ∈ l) (hz : bs.length ≤ 1000) (hb : ∀ b ∈ bs, b.length ≤ 1000) (h : P (.bytes bs.flatten) l) : CallV u n f l ℓ (.bi "bytes.join") [.bytes [], .ref a] P := Call_join ha hz hb h
theorem Call_reverseB {a : Addr} {bs : List (List UInt8)} {l' : Led} (t : Turn a (.list (bs.map .bytes)) (.list (bs.reverse.map .bytes)) l l') (hz : bs.length ≤ 10000) (h : P .none l') : CallV u n f l ℓ (.bi "list.reverse") [.ref a] P :=
  Call_reverse (vs := bs.map .bytes) (by rw [List.length_map]; exact hz) (by rw [← List.map_reverse]; exact t) h
theorem Call_bytes_intsT {a : Addr} {is : List Int} (ha : (a, O.list (is.map .int)) ∈ l) (hr : ∀ k ∈ is, 0 ≤ k ∧ k < 256) (hz : is.length ≤ 10000) (h : P (.bytes (is.map u8)) l) : CallV u n f l ℓ (.ty "bytes") [.ref a] P := Call_bytes_ints ha hr hz h
end
local macro_rules | `(tactic| wtm_at "s") => tTab "Call_to_bytes2 ar ar _ | Call_to_bytes4 ar ar _"
theorem ptrs_len (n : Nat) : (ptrs n).length = n := by simp [ptrs]
theorem ptrs_succ (n : Nat) : ptrs (n + 1) = ptrs n ++ [[0, u8 (64 - 5 * ((n + 1 : Nat) : Int))]] := by simp [ptrs, List.range_succ]
theorem ptrs_flat : ∀ n, ((ptrs n).flatten).length = 2 * n
  | 0 => rfl
  | n + 1 => by rw [ptrs_succ, List.flatten_append, List.length_append, ptrs_flat n]; simp; lia
theorem flat_len : ∀ {bs : List (List UInt8)}, (∀ b ∈ bs, b.length = 5) → (bs.flatten).length = 5 * bs.length
  | [], _ => rfl
  | b :: bs, h => by
    rw [List.flatten_cons, List.length_append, h b (.head _), flat_len fun x hx => h x (.tail _ hx), List.length_cons]; lia
theorem ptrs_two {n : Nat} : ∀ b ∈ ptrs n, b.length ≤ 1000 := by
  intro b hb
  obtain ⟨j, _, rfl⟩ := List.mem_map.mp hb
  simp
theorem pageB_len {hd : List UInt8} {bs : List (List UInt8)} (hb : ∀ b ∈ bs, b.length = 5) (hn : bs.length ≤ 4) (hh : hd.length ≤ 12) : (pageB hd bs).length = 64 := by
  unfold pageB
  simp only [List.length_append, List.length_replicate, ptrs_flat]
  rw [flat_len (bs := bs.reverse) (by simpa using hb), List.length_reverse, Nat.add_sub_cancel' (Nat.le_trans (Nat.add_le_add hh (Nat.mul_le_mul_left 2 hn)) (Nat.le_trans (by decide : 12 + 2 * 4 ≤ 64 - 5 * 4) (Nat.sub_le_sub_left (Nat.mul_le_mul_left 5 hn) 64)))]
  exact Nat.sub_add_cancel (Nat.le_trans (Nat.mul_le_mul_left 5 hn) (by decide))
section
variable {st sd pl sp co cod rl : Addr} {pages : List (List UInt8)}
set_option maxHeartbeats 1000000 in
theorem sp_write_content {K r p : Int} {bs : List (List UInt8)} (hK : K = 13 ∨ (K = 5 ∧ 0 ≤ r ∧ r < 256)) (hp : 2 ≤ p) (hp2 : p ≤ pages.length) (hz : pages.length ≤ 1000) (hb : ∀ b ∈ bs, b.length = 5) (hn : bs.length ≤ 4) (ho : ∀ x ∈ pages, x.length = 64) :
    Spec 5 (.ref 644) [.ref st, .int p, .ref co] [(st, O.inst 764 sd), (sd, O.ns [("page_size", .int 64), ("pages", .ref pl), ("spare", .ref sp)]), (pl, O.list (pages.map .bytes)), (co, O.inst 626 cod), (cod, O.ns [("kind", .int K), ("raws", .ref rl), ("right", .int r)]), (rl, O.list (bs.map .bytes))]
      fun v l => v = .none ∧ l = [(st, O.inst 764 sd), (sd, O.ns [("page_size", .int 64), ("pages", .ref pl), ("spare", .ref sp)]), (pl, O.list ((pages.set (p - 1).toNat (pageB (hdOf K bs.length r) bs)).map .bytes)), (rl, O.list (bs.map .bytes))] := by
  refine Spec_defR (ps := ["pager", "page", "content"]) (ℓ₀ := [("pager", .loc (.ref st)), ("page", .loc (.int p)), ("content", .loc (.ref co)), ("size", .unb), ("base", .unb), ("pointers", .unb), ("cells", .unb), ("at", .unb), ("raw", .unb), ("padded", .unb), ("head", .unb), ("front", .unb), ("fits", .glob (.ref 637)), ("CorruptError", .glob (.ref 51)), ("str", .glob (.ty "str")), ("base_of", .glob (.ref 595)), ("bytes", .glob (.ty "bytes")), ("max", .glob (.bi "max")), ("LEAST_CELL", .glob (.int 4)), ("len", .glob (.bi "len")), ("POINTER", .glob (.int 2)), ("is_leaf", .glob (.ref 193)), ("four_octets", .glob (.ref 186))]) (by intro P; k_is) (by intro P; k_is) (reps3 (by intros; rfl)) (by intro P; kernel_rfl!) (by intro P; kernel_rfl!) (fun u f FR hPo => ?_) (by rfl) (by rfl) (by rfl)

  have hl : (bs.map V.bytes).length = bs.length := List.length_map ..
  have hK' : K = 13 ∨ K = 5 := hK.imp id (·.1)
  wtm_at "r"
  refine CallV_one (sp_fits hK' hp hb hn) (by wtm_at "one") (by wtm_at "sel") (by wtm_at "app") ?_
  wtm_at "r"
  refine Ex_AssignDisp2 (.inl (by wtm_at "lk")) (.inl (by wtm_at "lk")) (by rfl) ?_ (by with_unfolding_all rfl) (by with_unfolding_all rfl) (by with_unfolding_all rfl) (by with_unfolding_all rfl) (by with_unfolding_all rfl)
  wtm_at "r"
  refine CallV_one (sp_base_of hp) (by wtm_at "one") (by wtm_at "sel") (by wtm_at "app") ?_
  wtm_at "r"
  intro t1
  refine ⟨t1, _, _, rfl, by wtm_at "lk", _, _, by wtm_at "put", by wtm_at "put", ?_⟩
  wtm_at "r"
  refine Ex_AssignDisp3 (.inl (by wtm_at "lk")) (.inl (by wtm_at "lk")) (.inl (by wtm_at "lk")) (by rfl) (by rfl) (by rfl) ?_ (by with_unfolding_all rfl) (by with_unfolding_all rfl) (by with_unfolding_all rfl) (by with_unfolding_all rfl) (by with_unfolding_all rfl) (by with_unfolding_all rfl)
  wtm_at "r"
  intro pa
  wtm_at "r"
  intro ca
  wtm_at "r"
  intro t2
  refine ⟨t2, _, _, _, rfl, by wtm_at "lk", _, _, _, by wtm_at "put", by wtm_at "put", by wtm_at "put", ?_⟩
  wtm_at "r"
  refine Ex_For_listO ?_ (by intro _; rfl) (by intro _ _; rfl)
  wtm_at "r"
  refine ⟨rl, _, rfl, by wtm_at "lk", fun i l ℓ => ∃ s1 s2, Has [(pa, O.list ((ptrs i).map .bytes)), (ca, O.list ((bs.take i).map .bytes)), (st, O.inst 764 sd), (sd, O.ns [("page_size", .int 64), ("pages", .ref pl), ("spare", .ref sp)]), (pl, O.list (pages.map .bytes)), (co, O.inst 626 cod), (cod, O.ns [("kind", .int K), ("raws", .ref rl), ("right", .int r)]), (rl, O.list (bs.map .bytes))] l ∧ Lo s1 ∧ Lo s2 ∧
    ℓ = ([("pager", .loc (.ref st)), ("page", .loc (.int p)), ("content", .loc (.ref co)), ("size", .loc (.int 64)), ("base", .loc (.int 0)), ("pointers", .loc (.ref pa)), ("cells", .loc (.ref ca)), ("at", .loc (.int (64 - 5 * (i : Int)))), ("raw", s1), ("padded", s2), ("head", .unb), ("front", .unb), ("fits", .glob (.ref 637)), ("CorruptError", .glob (.ref 51)), ("str", .glob (.ty "str")), ("base_of", .glob (.ref 595)), ("bytes", .glob (.ty "bytes")), ("max", .glob (.bi "max")), ("LEAST_CELL", .glob (.int 4)), ("len", .glob (.bi "len")), ("POINTER", .glob (.int 2)), ("is_leaf", .glob (.ref 193)), ("four_octets", .glob (.ref 186))] : Loc), ?_, ?_, ?_, ?_⟩
  · exact inE2 _ _ ⟨(show Has [(pa, O.list []), (ca, O.list []), (st, O.inst 764 sd), (sd, O.ns [("page_size", .int 64), ("pages", .ref pl), ("spare", .ref sp)]), (pl, O.list (pages.map .bytes)), (co, O.inst 626 cod), (cod, O.ns [("kind", .int K), ("raws", .ref rl), ("right", .int r)]), (rl, O.list (bs.map .bytes))] _ from by wtm_at "hs"), Lo.unb, Lo.unb, rfl⟩
  · rintro i l ℓ; refine elX2_2 ?_; rintro s1 s2 hh -
    exact hh.mem (by simp)
  · rintro J hJ f' i l ℓ v hv; refine elX2_4 ?_; rintro s1 s2 hh l1 l2 rfl
    refine Asg_has hh ?_
    rw [List.getElem?_map] at hv
    obtain ⟨b, hb', rfl⟩ := Option.map_eq_some_iff.mp hv
    have hi := (List.getElem?_eq_some_iff.mp hb').1
    have h5 := hb b (List.mem_of_getElem? hb')
    have hm0 : max 0 (4 - (b.length : Int)) ≤ 10000 := by rw [h5]; decide
    have hm1 : b.length + (List.replicate (max 0 (4 - (b.length : Int))).toNat (0 : UInt8)).length ≤ 10000 := by rw [h5]; decide
    have e0 : List.replicate (max 0 (4 - (b.length : Int))).toNat (0 : UInt8) = [] := by rw [h5]; rfl
    have hc1 : ((ptrs i).map V.bytes).length = i := by rw [List.length_map, ptrs_len]
    have hc2 : ((bs.take i).map V.bytes).length = i := by rw [List.length_map, List.length_take]; lia
    wtm_at "r"
    rw [e0, List.append_nil]
    wtm_at "r"
    refine (Eq.symm (h5)) ▸ ?_; refine (Eq.symm (show 64 - 5 * (i : Int) - ((5 : Nat) : Int) = 64 - 5 * ((i + 1 : Nat) : Int) by lia)) ▸ ?_
    wtm_at "r"
    refine hJ <| inE2 _ _ ⟨?_, Lo.loc, Lo.loc, rfl⟩
    rw [ptrs_succ, List.take_add_one, hb', List.map_append, List.map_append]
    exact Has.refl _
  · rintro l ℓ; refine elX2_4 ?_; rintro s1 s2 hh l1 l2 rfl
    rw [hl, List.take_of_length_le (Nat.le_refl _)] at hh
    rw [hl]
    refine Seq_next (Exs_has hh ?_)
    wtm_at "r"
    intro a0
    wtm_at "r"
    refine Call_bytes_intsT (is := [K, 0, 0]) (.head _) (by intro k hk; simp at hk; lia) (by simp) ?_
    wtm_at "r"
    rw [hl, show List.map u8 [K, 0, 0] ++ [0, u8 (bs.length : Int)] ++ [0, u8 (64 - 5 * (bs.length : Int))] ++ List.replicate (Int.toNat 1) 0 = headB (u8 K) bs.length from rfl]
    obtain ⟨old, hold, hol⟩ : ∃ old, pgAt pages p old ∧ old.length = 64 := ⟨_, ⟨hp, List.getElem?_eq_getElem (ar_p1 hp hp2)⟩, ho _ (List.getElem_mem _)⟩
    have hc := cut_zero old
    have p1 := ptrs_len bs.length
    rcases hK with rfl | ⟨rfl, hr0, hr1⟩
    · rw [show u8 13 = 13 from rfl]
      wtm_at "call"
      wtm_at "r"
      have hhd : (headB 13 bs.length).length ≤ 12 := by simp [headB]
      have ehd : hdOf 13 bs.length r = headB 13 bs.length := rfl
      rw [ehd] at hPo
      generalize headB 13 bs.length = hd at *
      refine CallV_one (sp_read_page hold (by lia)) (by wtm_at "one") (by wtm_at "sel") (by wtm_at "app") ?_
      wtm_at "r"
      intro c
      wtm_at "r"
      refine (Eq.symm (hc)) ▸ ?_
      wtm_at "r"
      rw [List.nil_append]
      refine Call_joinT (bs := ptrs bs.length) (by wtm_at "lk") (by lia) ptrs_two ?_
      have hfl : (hd ++ (ptrs bs.length).flatten).length = hd.length + 2 * bs.length := by rw [List.length_append, ptrs_flat]
      have hpf := ptrs_flat bs.length
      wtm_at "r"
      refine Call_reverseB (by wtm_at "turn") (by lia) ?_
      wtm_at "r"
      refine (Eq.symm (hfl)) ▸ ?_; refine (Eq.symm (ar_64 (m := hd.length + 2 * bs.length) hn)) ▸ ?_
      wtm_at "r"
      refine Call_joinT (bs := bs.reverse) (by wtm_at "lk") (by rw [List.length_reverse]; lia) (fun b hb' => by rw [hb b (by simpa using hb')]; decide) ?_
      have hT : (hd ++ (ptrs bs.length).flatten ++ List.replicate (64 - 5 * bs.length - (hd.length + 2 * bs.length)) 0).length + bs.reverse.flatten.length ≤ 10000 := by
        rw [← List.length_append]; exact Nat.le_trans (Nat.le_of_eq (pageB_len hb hn hhd)) (by decide)
      wtm_at "r"
      refine (Eq.symm (show hd ++ (ptrs bs.length).flatten ++ List.replicate (64 - 5 * bs.length - (hd.length + 2 * bs.length)) 0 ++ bs.reverse.flatten = pageB hd bs from rfl)) ▸ ?_
      refine CallV_one (sp_write_page (pageB_len hb hn hhd) (by lia) hp2 hz) (by wtm_at "one") (by wtm_at "sel") (by wtm_at "app") ?_
      wtm_at "r"
      exact hPo <| Done_nxt (by wtm_at "hs") ⟨rfl, rfl⟩
    · rw [show u8 5 = 5 from rfl]
      wtm_at "call"
      wtm_at "r"
      refine CallV_one (sp_four_octets hr0 hr1) (by wtm_at "one") (by wtm_at "sel") (by wtm_at "app") ?_
      have hhd5 : (headB 5 bs.length).length = 8 := by simp [headB]
      have hhd : (headB 5 bs.length ++ [0, 0, 0, u8 r]).length ≤ 12 := by simp [headB]
      wtm_at "r"
      rw [show headB 5 bs.length ++ [0, 0, 0, r.toNat.toUInt8] = headB 5 bs.length ++ [0, 0, 0, u8 r] from rfl]
      have ehd : hdOf 5 bs.length r = headB 5 bs.length ++ [0, 0, 0, u8 r] := rfl
      rw [ehd] at hPo
      generalize headB 5 bs.length ++ [0, 0, 0, u8 r] = hd at *
      refine CallV_one (sp_read_page hold (by lia)) (by wtm_at "one") (by wtm_at "sel") (by wtm_at "app") ?_
      wtm_at "r"
      intro c
      wtm_at "r"
      refine (Eq.symm (hc)) ▸ ?_
      wtm_at "r"
      rw [List.nil_append]
      refine Call_joinT (bs := ptrs bs.length) (by wtm_at "lk") (by lia) ptrs_two ?_
      have hfl : (hd ++ (ptrs bs.length).flatten).length = hd.length + 2 * bs.length := by rw [List.length_append, ptrs_flat]
      have hpf := ptrs_flat bs.length
      wtm_at "r"
      refine Call_reverseB (by wtm_at "turn") (by lia) ?_
      wtm_at "r"
      refine (Eq.symm (hfl)) ▸ ?_; refine (Eq.symm (ar_64 (m := hd.length + 2 * bs.length) hn)) ▸ ?_
      wtm_at "r"
      refine Call_joinT (bs := bs.reverse) (by wtm_at "lk") (by rw [List.length_reverse]; lia) (fun b hb' => by rw [hb b (by simpa using hb')]; decide) ?_
      have hT : (hd ++ (ptrs bs.length).flatten ++ List.replicate (64 - 5 * bs.length - (hd.length + 2 * bs.length)) 0).length + bs.reverse.flatten.length ≤ 10000 := by
        rw [← List.length_append]; exact Nat.le_trans (Nat.le_of_eq (pageB_len hb hn hhd)) (by decide)
      wtm_at "r"
      refine (Eq.symm (show hd ++ (ptrs bs.length).flatten ++ List.replicate (64 - 5 * bs.length - (hd.length + 2 * bs.length)) 0 ++ bs.reverse.flatten = pageB hd bs from rfl)) ▸ ?_
      refine CallV_one (sp_write_page (pageB_len hb hn hhd) (by lia) hp2 hz) (by wtm_at "one") (by wtm_at "sel") (by wtm_at "app") ?_
      wtm_at "r"
      exact hPo <| Done_nxt (by wtm_at "hs") ⟨rfl, rfl⟩
end

/-! the law's drawing of numbers -/
section
variable {u : U} {n : Nat} {f : Fm} {l : Led} {ℓ : Loc}
noncomputable def NextIs (M : Led → Loc → Prop) : Fl → Led → Loc → Prop := fun r l ℓ => match r with
  | .next => M l ℓ
  | _ => False
theorem NextIs_next {M : Led → Loc → Prop} (h : M l ℓ) : NextIs M .next l ℓ := h
theorem Ex.mono {s : Stmt} {R R' : Fl → Led → Loc → Prop} (h : Ex u n f l ℓ s R) (k : ∀ r l ℓ, R r l ℓ → R' r l ℓ) : Ex u n f l ℓ s R' := W.mono h fun _ _ _ ⟨v, r, p⟩ => ⟨v, r, k _ _ _ p⟩
/-- a statement whose ways meet -/
theorem Ex_cutO {s : Stmt} {rest : List Stmt} {R : Fl → Led → Loc → Prop} (M : Led → Loc → Prop) (h : ∀ J : Led → Loc → Prop, (∀ {l ℓ}, M l ℓ → J l ℓ) → Ex u n f l ℓ s (NextIs J)) (k : ∀ l ℓ, M l ℓ → Exs u n f l ℓ rest R) : Ex u n f l ℓ s (Seq u n f rest R) :=
  (h M id).mono fun r l ℓ q => by cases r <;> first | exact k l ℓ q | exact q.elim
theorem Ex_cut {s : Stmt} {rest : List Stmt} {R : Fl → Led → Loc → Prop} (M : Led → Loc → Prop) (h : Ex u n f l ℓ s (NextIs M)) (k : ∀ l ℓ, M l ℓ → Exs u n f l ℓ rest R) : Ex u n f l ℓ s (Seq u n f rest R) :=
  h.mono fun r l ℓ q => by cases r <;> first | exact k l ℓ q | exact q.elim
end
structure Pool (p q : Int) : Prop where
  p0 : 0 ≤ p
  q0 : 0 ≤ q
  q1 : q < 2147483647
theorem fm {i j : Int} (h : 0 < j) : 0 ≤ i.fmod j ∧ i.fmod j < j := by
  rw [Int.fmod_eq_emod_of_nonneg _ (by lia)]
  exact ⟨Int.emod_nonneg _ (by lia), Int.emod_lt_of_pos _ h⟩
theorem fd {i j : Int} (h : 0 < j) (h0 : 0 ≤ i) : 0 ≤ i.fdiv j := by
  rw [Int.fdiv_eq_ediv_of_nonneg _ (by lia)]
  exact Int.ediv_nonneg h0 (by lia)
theorem sp_take {so : Addr} {p q top : Int} (h : Pool p q) (h0 : 0 < top) (h1 : top < 1000) : Spec 1 (.ref 838) [.ref so, .int top] [(so, O.list [.int p, .int q])] fun v l => ∃ r p' q', v = .int r ∧ 0 ≤ r ∧ r < top ∧ Pool p' q' ∧ l = [(so, O.list [.int p', .int q'])] := by
  obtain ⟨hp, hq0, hq1⟩ := h
  have ht : top.natAbs < 1073741824 := ar_abs (Int.le_of_lt h0) (Int.lt_trans h1 (by decide))
  have hf := ar_fmod (q * 39373 + 7)
  refine Spec_defR (ps := ["source", "top"]) (ℓ₀ := [("source", .loc (.ref so)), ("top", .loc (.int top)), ("drawn", .unb)]) (by intro P; k_is) (by intro P; k_is) (reps2 (by intros; rfl)) (by intro P; kernel_rfl!) (by intro P; kernel_rfl!) (fun u f FR hPo => ?_) (by rfl) (by rfl) (by rfl)

  wtm_at "r"
  refine Br_dec (fun hp' => ?_) (fun hp' => ?_)
  · wtm_at "r"
    exact hPo <| Done_has (Has.refl _) ⟨_, _, _, rfl, (fm h0).1, (fm h0).2, ⟨fd h0 hp, hq0, hq1⟩, rfl⟩
  · wtm_at "r"
    obtain ⟨q2, e2, h20, h21⟩ : ∃ q2, (q * 39373 + 7).fmod 2147483647 = q2 ∧ 0 ≤ q2 ∧ q2 < 2147483647 := ⟨_, rfl, (fm (by decide)).1, (fm (by decide)).2⟩
    refine (Eq.symm (e2)) ▸ ?_
    wtm_at "r"
    exact hPo <| Done_has (Has.refl _) ⟨_, _, _, rfl, (fm h0).1, (fm h0).2, ⟨hp, h20, h21⟩, rfl⟩

/-! the law's pages -/
section
variable {st sd pl sp rl : Addr} {pages : List (List UInt8)}
theorem set_last {α : Type} (xs : List α) (a b : α) : (xs ++ [a]).set xs.length b = xs ++ [b] := by
  rw [List.set_append_right _ _ (Nat.le_refl _), Nat.sub_self]; rfl
theorem sp_law_page {K r : Int} {bs : List (List UInt8)} (hK : K = 13 ∨ (K = 5 ∧ 0 ≤ r ∧ r < 256)) (h1 : 1 ≤ pages.length) (hz : pages.length ≤ 900) (hb : ∀ b ∈ bs, b.length = 5) (hn : bs.length ≤ 4) (ho : ∀ x ∈ pages, x.length = 64) :
    Spec 6 (.ref 845) [.ref st, .int K, .ref rl, .int r] [(st, O.inst 764 sd), (sd, O.ns [("page_size", .int 64), ("pages", .ref pl), ("spare", .ref sp)]), (pl, O.list (pages.map .bytes)), (rl, O.list (bs.map .bytes))] fun v l => v = .int ((pages.length : Int) + 1) ∧
      l = [(st, O.inst 764 sd), (sd, O.ns [("page_size", .int 64), ("pages", .ref pl), ("spare", .ref sp)]), (pl, O.list ((pages ++ [pageB (hdOf K bs.length r) bs]).map .bytes)), (rl, O.list (bs.map .bytes))] := by
  have hz' : (pages ++ [blank]).length = pages.length + 1 := by simp
  have ho' : ∀ x ∈ pages ++ [blank], x.length = 64 := fun x hx => by
    rcases List.mem_append.mp hx with hx | hx
    · exact ho x hx
    · simp at hx; subst hx; rfl
  have e : (pages ++ [blank]).set ((pages.length : Int) + 1 - 1).toNat (pageB (hdOf K bs.length r) bs) = pages ++ [pageB (hdOf K bs.length r) bs] := by
    rw [show ((pages.length : Int) + 1 - 1).toNat = pages.length by lia, set_last]
  refine Spec_defR (ps := ["store", "kind", "raws", "right"]) (ℓ₀ := [("store", .loc (.ref st)), ("kind", .loc (.int K)), ("raws", .loc (.ref rl)), ("right", .loc (.int r)), ("page", .unb), ("write_content", .glob (.ref 644)), ("Content", .glob (.ref 626))]) (by intro P; k_is) (by intro P; k_is) (reps4 (by intros; rfl)) (by intro P; kernel_rfl!) (by intro P; kernel_rfl!) (fun u f FR hPo => ?_) (by rfl) (by rfl) (by rfl)

  wtm_at "r"
  refine CallV_one (sp_extend (pages := pages) (by lia)) (by wtm_at "one") (by wtm_at "sel") (by wtm_at "app") ?_
  wtm_at "r"
  refine CallV_use sp_Content (by wtm_at "one") (by wtm_at "sel") (E_2_0 ?_)
  rintro co cod
  refine ⟨_, by wtm_at "app", ?_⟩
  wtm_at "r"
  refine CallV_one (sp_write_content hK (by lia) (by lia) (by lia) hb hn ho') (by wtm_at "one") (by wtm_at "sel") (by wtm_at "app") ?_
  refine (Eq.symm (e)) ▸ ?_
  wtm_at "r"
  wtm_at "fin"
end
/-! the law's pairs -/
noncomputable def tpL (ts : List Step) : Led := ts.map fun s => (s.1, O.tup [.int s.2.1, .int s.2.2])
theorem tpL_push (ts : List Step) (a : Addr) (p m : Int) : tpL (ts ++ [(a, p, m)]) = tpL ts ++ [(a, O.tup [.int p, .int m])] := by simp [tpL]
theorem App.of {α : Type} : ∀ (l r : List α), App l r (l ++ r)
  | [], _ => .nil
  | _ :: l, r => .cons (App.of l r)
theorem cut_neg {α : Type} (xs : List α) : cut xs none (some (-1)) = xs.dropLast := by
  unfold cut
  have : clipAt xs.length (-1) = xs.length - 1 := by
    unfold clipAt
    cases xs with
    | nil => rfl
    | cons x xs =>
      rw [if_pos (by decide), List.length_cons, Nat.add_sub_cancel, show (-1 + ((xs.length + 1 : Nat) : Int)) = (xs.length : Int) by lia]
      exact clip_cast.trans (Nat.min_eq_left (Nat.le_succ _))
  simp [this, List.dropLast_eq_take]
theorem tpL_has {ts : List Step} {s : Step} (h : s ∈ ts) : (s.1, O.tup [.int s.2.1, .int s.2.2]) ∈ tpL ts := List.mem_map.mpr ⟨_, h, rfl⟩
theorem sp_law_inner {store sm a : Addr} {pts ts : List Step} {r m : Int} (hlen : pts.length ≤ 10) (hb : ∀ s ∈ pts, 0 ≤ s.2.1 ∧ s.2.1 < 256 ∧ 0 ≤ s.2.2 ∧ s.2.2 < 256) (hsub : ∀ s ∈ pts ++ [(a, r, m)], s ∈ ts) :
    Spec 1 (.ref 850) [.ref store, .ref sm] ((sm, O.list (stV pts ++ [.ref a])) :: tpL ts) fun v l => ∃ t rl, v = .ref t ∧
      l = ((t, O.tup [.ref rl, .int r]) :: (rl, O.list ((pts.map fun s => innerRaw s.2).map .bytes)) :: (sm, O.list (stV pts ++ [.ref a])) :: tpL ts) := by
  have hl : (stV pts ++ [V.ref a]).length = pts.length + 1 := by rw [List.length_append, stV_len]; rfl
  have hd : cut (stV pts ++ [V.ref a]) none (some (-1)) = stV pts := by rw [cut_neg, List.dropLast_concat]
  have hlast : (a, O.tup [.int r, .int m]) ∈ tpL ts := tpL_has (s := (a, r, m)) (hsub _ (by simp))
  refine Spec_defR (ps := ["store", "some"]) (ℓ₀ := [("store", .loc (.ref store)), ("some", .loc (.ref sm)), ("raws", .unb)]) (by intro P; k_is) (by intro P; k_is) (reps2 (by intros; rfl)) (by intro P; kernel_rfl!) (by intro P; kernel_rfl!) (fun u f FR hPo => ?_) (by rfl) (by rfl) (by rfl)

  refine Exs_cons (Ex_AssignComp [] [(".0", .unb), ("page", .unb), ("most", .unb), ("bytes", .glob (.ty "bytes"))] rfl nofun (by intro P; kernel_rfl!) (by intro P; kernel_rfl!) rfl (by rfl) (by rfl) (.inl (by wtm_at "lk")) ?_ (by intro _; rfl))
  wtm_at "r"
  intro c
  wtm_at "r"
  intro d
  rw [hd]
  refine CompV_list (by wtm_at "pick") (by rw [stV_len]; lia) (fun i acc l ℓ => acc = (pts.take i).map (fun s => V.bytes (innerRaw s.2)) ∧ Has ((sm, O.list (stV pts ++ [.ref a])) :: tpL ts) l ∧ ∃ s1 s2, Lo s1 ∧ Lo s2 ∧ ℓ = ([(".0", .unb), ("page", s1), ("most", s2), ("bytes", .glob (.ty "bytes"))] : Loc))
    ⟨rfl, Has.refl _, _, _, Lo.unb, Lo.unb, rfl⟩ ?_ ?_
  · rintro f' i acc l ℓ v hv; refine elA3 ?_; rintro rfl hh; refine elX2_3 ?_; rintro s1 s2 l1 l2 rfl
    unfold stV at hv
    rw [List.getElem?_map] at hv
    obtain ⟨⟨a', p', m'⟩, ht, rfl⟩ := Option.map_eq_some_iff.mp hv
    have hmem := List.mem_of_getElem? ht
    have htm : (a', O.tup [.int p', .int m']) ∈ tpL ts := tpL_has (s := (a', p', m')) (hsub _ (List.mem_append_left _ hmem))
    refine elA4 ?_ (hb _ hmem); rintro b0 b1 b2 b3
    refine Asg_has hh ?_
    wtm_at "r"
    intro e
    wtm_at "r"
    refine Call_bytes_intsT (is := [m']) (.head _) (by intro k hk; simp at hk; subst hk; exact ⟨b2, b3⟩) (by simp) ?_
    wtm_at "r"
    refine ⟨?_, by wtm_at "hs", _, _, Lo.loc, Lo.loc, rfl⟩
    rw [List.take_add_one, ht, List.map_append]; rfl
  · rintro acc l' ℓ' ⟨rfl, hh, -⟩ d'
    refine ⟨_, App.of _ _, _, by wtm_at "put", ?_⟩
    rw [stV_len, List.take_of_length_le (Nat.le_refl _)]
    refine Seq_next (Exs_has (l₀ := ((d', O.list (pts.map fun s => V.bytes (innerRaw s.2))) :: (sm, O.list (stV pts ++ [.ref a])) :: tpL ts)) ?_ ?_)
    · refine Has.tail (hh.trans ?_)
      exact ⟨_, List.Perm.refl _⟩
    wtm_at "r"
    intro t
    wtm_at "r"
    refine hPo <| Done_has (Has.refl _) ⟨t, d', rfl, ?_⟩
    rw [List.map_map]; rfl

/-! a level of the tree while it is built -/
theorem Sub.ext {pages pages' : List (List UInt8)} (h : ∀ p xs, 3 ≤ p → pgAt pages p xs → pgAt pages' p xs) : ∀ {d : Nat} {p : Int} {rows : Rows}, 3 ≤ p → Sub pages d p rows → Sub pages' d p rows
  | 0, p, rows, hp, ⟨xs, h1, h2⟩ => ⟨xs, h p xs hp h1, h2⟩
  | d + 1, p, rows, hp, ⟨cs, r, rss, hI, e⟩ => by
    obtain ⟨xs, h1, h2⟩ := hI.pg
    exact ⟨cs, r, rss, ⟨⟨xs, h p xs hp h1, h2⟩, hI.len, fun i c rs hc hr => ⟨Sub.ext h (h2.low c (List.mem_of_getElem? hc)) (hI.sub i c rs hc hr).1, (hI.sub i c rs hc hr).2⟩, hI.sep⟩, e⟩
noncomputable abbrev Ent := Int × Int × Rows
noncomputable def entP (e : Ent) : Int × Int := (e.1, e.2.1)
structure Lvl (pages : List (List UInt8)) (d : Nat) (ls : List Ent) : Prop where
  all : ∀ e ∈ ls, Sub pages d e.1 e.2.2 ∧ e.2.2 ≠ [] ∧ 3 ≤ e.1 ∧ e.1 < 256 ∧ 0 ≤ e.2.1 ∧ e.2.1 < 128 ∧ ∀ x ∈ e.2.2, x.1 ≤ e.2.1
  pair : ls.Pairwise fun a b => ∀ x ∈ b.2.2, a.2.1 < x.1
theorem Lvl.ext {pages pages' : List (List UInt8)} {d : Nat} {ls : List Ent} (h : Lvl pages d ls) (k : ∀ p xs, 3 ≤ p → pgAt pages p xs → pgAt pages' p xs) : Lvl pages' d ls :=
  ⟨fun e he => ⟨Sub.ext k (h.all e he).2.2.1 (h.all e he).1, (h.all e he).2⟩, h.pair⟩
theorem Lvl.nil {pages : List (List UInt8)} {d : Nat} : Lvl pages d [] := ⟨fun e he => (nomatch he), List.Pairwise.nil⟩
theorem Lvl.sub {pages : List (List UInt8)} {d : Nat} {ls ls' : List Ent} (h : Lvl pages d ls) (k : ls'.Sublist ls) : Lvl pages d ls' := ⟨fun e he => h.all e (k.subset he), h.pair.sublist k⟩
theorem Lvl.push {pages : List (List UInt8)} {d : Nat} {ls : List Ent} {e : Ent} (h : Lvl pages d ls) (he : Sub pages d e.1 e.2.2 ∧ e.2.2 ≠ [] ∧ 3 ≤ e.1 ∧ e.1 < 256 ∧ 0 ≤ e.2.1 ∧ e.2.1 < 128 ∧ ∀ x ∈ e.2.2, x.1 ≤ e.2.1) (k : ∀ a ∈ ls, ∀ x ∈ e.2.2, a.2.1 < x.1) : Lvl pages d (ls ++ [e]) := by
  refine ⟨fun b hb => ?_, List.pairwise_append.mpr ⟨h.pair, List.pairwise_singleton _ _, fun a ha b hb => ?_⟩⟩
  · rcases List.mem_append.mp hb with hb | hb
    · exact h.all b hb
    · simp at hb; subst hb; exact he
  · simp at hb; subst hb; exact k a ha
theorem mem_take_map {ls : List Ent} {n : Nat} {x : Int × Int} (h : x ∈ ((ls.map (·.2.2)).take n).flatten) : ∃ j e, j < n ∧ ls[j]? = some e ∧ x ∈ e.2.2 := by
  obtain ⟨r, hr, hx⟩ := List.mem_flatten.mp h
  obtain ⟨j, hj⟩ := List.mem_iff_getElem?.mp hr
  have hl := (List.getElem?_eq_some_iff.mp hj).1
  rw [List.length_take] at hl
  have hl := (Nat.lt_min.mp hl).1
  rw [List.getElem?_take_of_lt hl, List.getElem?_map] at hj
  obtain ⟨e, he, rfl⟩ := Option.map_eq_some_iff.mp hj
  exact ⟨j, e, hl, he, hx⟩
theorem mem_drop_map {ls : List Ent} {n : Nat} {x : Int × Int} (h : x ∈ ((ls.map (·.2.2)).drop n).flatten) : ∃ j e, n ≤ j ∧ ls[j]? = some e ∧ x ∈ e.2.2 := by
  obtain ⟨r, hr, hx⟩ := List.mem_flatten.mp h
  obtain ⟨j, hj⟩ := List.mem_iff_getElem?.mp hr
  rw [List.getElem?_drop, List.getElem?_map] at hj
  obtain ⟨e, he, rfl⟩ := Option.map_eq_some_iff.mp hj
  exact ⟨n + j, e, Nat.le_add_right n j, he, hx⟩
theorem Lvl.lt {pages : List (List UInt8)} {d : Nat} {ls : List Ent} (h : Lvl pages d ls) {i j : Nat} {a b : Ent} (ha : ls[i]? = some a) (hb : ls[j]? = some b) (hij : i < j) : ∀ x ∈ b.2.2, a.2.1 < x.1 := by
  obtain ⟨q1, rfl⟩ := List.getElem?_eq_some_iff.mp ha
  obtain ⟨q2, rfl⟩ := List.getElem?_eq_some_iff.mp hb
  exact List.pairwise_iff_getElem.mp h.pair i j q1 q2 hij
theorem Lvl.inn {pages : List (List UInt8)} {d : Nat} {ls : List Ent} {e : Ent} {p : Int} {xs : List UInt8} (h : Lvl pages d (ls ++ [e])) (hp : pgAt pages p xs) (hx : Inn xs (ls.map entP) e.1) :
    InnAt (Sub pages d) pages p (ls.map entP) e.1 ((ls ++ [e]).map (·.2.2)) := by
  have hk : kids (ls.map entP) e.1 = (ls ++ [e]).map (·.1) := by simp [kids, entP]
  refine ⟨⟨xs, hp, hx⟩, by simp, fun i c rs hc hr => ?_, fun i q hq => ⟨fun x hx => ?_, fun x hx => ?_⟩⟩
  · rw [hk, List.getElem?_map] at hc
    rw [List.getElem?_map] at hr
    obtain ⟨b, hb, rfl⟩ := Option.map_eq_some_iff.mp hc
    rw [hb] at hr
    obtain rfl := Option.some.inj hr
    have := h.all b (List.mem_of_getElem? hb)
    exact ⟨this.1, this.2.1⟩
  · rw [List.getElem?_map] at hq
    obtain ⟨b, hb, rfl⟩ := Option.map_eq_some_iff.mp hq
    have hb' : (ls ++ [e])[i]? = some b := by rw [List.getElem?_append_left (List.getElem?_eq_some_iff.mp hb).1]; exact hb
    refine elX2_3 ?_ (mem_take_map hx); rintro j a hj ha hxa
    have A := h.all a (List.mem_of_getElem? ha)
    have B := h.all b (List.mem_of_getElem? hb')
    show x.1 ≤ b.2.1
    by_cases hji : j = i
    · subst hji
      rw [hb'] at ha; cases ha
      exact B.2.2.2.2.2.2 x hxa
    · obtain ⟨y, hy⟩ := List.exists_mem_of_ne_nil _ B.2.1
      have h1 := A.2.2.2.2.2.2 x hxa
      have h2 := h.lt ha hb' (by lia) y hy
      have h3 := B.2.2.2.2.2.2 y hy
      lia
  · rw [List.getElem?_map] at hq
    obtain ⟨b, hb, rfl⟩ := Option.map_eq_some_iff.mp hq
    have hb' : (ls ++ [e])[i]? = some b := by rw [List.getElem?_append_left (List.getElem?_eq_some_iff.mp hb).1]; exact hb
    refine elX2_3 ?_ (mem_drop_map hx); rintro j a hj ha hxa
    exact h.lt hb' ha (by lia) x hxa
theorem perm_lift {α β : Type} {f : α → β} {l1 l2 : List β} (p : l1.Perm l2) : ∀ m : List α, m.map f = l2 → ∃ R : List α, R.Perm m ∧ R.map f = l1 := by
  induction p with
  | nil => intro m h; exact ⟨[], by rw [List.map_eq_nil_iff.mp h], rfl⟩
  | cons x _ ih =>
    intro m h
    cases m with
    | nil => cases h
    | cons y m =>
      simp only [List.map_cons, List.cons.injEq] at h
      obtain ⟨R, p, e⟩ := ih m h.2
      exact ⟨y :: R, p.cons y, by simp [e, h.1]⟩
  | swap x y l =>
    intro m h
    match m, h with
    | a :: b :: m, h =>
      simp only [List.map_cons, List.cons.injEq] at h
      exact ⟨b :: a :: m, .swap a b m, by simp [h]⟩
  | trans _ _ ih1 ih2 =>
    intro m h
    obtain ⟨R2, p2, e2⟩ := ih2 m h
    obtain ⟨R1, p1, e1⟩ := ih1 R2 e2
    exact ⟨R1, p1.trans p2, e1⟩
theorem pg_app {pages : List (List UInt8)} {X : List UInt8} (p : Int) (xs : List UInt8) (_hp : 3 ≤ p) (h : pgAt pages p xs) : pgAt (pages ++ [X]) p xs :=
  ⟨h.1, by rw [List.getElem?_append_left (List.getElem?_eq_some_iff.mp h.2).1]; exact h.2⟩
theorem pg_new {pages : List (List UInt8)} {X : List UInt8} (h : 1 ≤ pages.length) : pgAt (pages ++ [X]) ((pages.length : Int) + 1) X :=
  ⟨by lia, by rw [show ((pages.length : Int) + 1 - 1).toNat = pages.length by lia, List.getElem?_append_right (Nat.le_refl _), Nat.sub_self]; rfl⟩
theorem srt_get {R : Rows} (hs : Srt R) {i j : Nat} {a b : Int × Int} (ha : R[i]? = some a) (hb : R[j]? = some b) (h : i ≤ j) : a.1 ≤ b.1 := by
  obtain ⟨q1, rfl⟩ := List.getElem?_eq_some_iff.mp ha
  obtain ⟨q2, rfl⟩ := List.getElem?_eq_some_iff.mp hb
  by_cases e : i = j
  · subst e; exact Int.le_refl _
  · exact Int.le_of_lt (List.pairwise_iff_getElem.mp hs i j q1 q2 (by lia))
theorem mem_mid {R : Rows} {a e : Nat} {x : Int × Int} (h : x ∈ (R.drop a).take (e - a)) : ∃ j, a ≤ j ∧ j < e ∧ R[j]? = some x := by
  obtain ⟨j, hj⟩ := List.mem_iff_getElem?.mp h
  have hl := (List.getElem?_eq_some_iff.mp hj).1
  rw [List.length_take, List.length_drop] at hl
  have hl := (Nat.lt_min.mp hl).1
  rw [List.getElem?_take_of_lt hl, List.getElem?_drop] at hj
  exact ⟨a + j, Nat.le_add_right a j, Nat.add_lt_of_lt_sub' hl, hj⟩
theorem take_mid {α : Type} {R : List α} {a e : Nat} (h : a ≤ e) : R.take a ++ (R.drop a).take (e - a) = R.take e := by
  have := List.take_add (l := R) (i := a) (j := e - a)
  rw [Nat.add_sub_cancel' h] at this
  exact this.symm
theorem drop_sub {α : Type} {R : List α} {a e : Nat} (h : a ≤ e) {x : α} (hx : x ∈ R.drop e) : x ∈ R.drop a := by
  rw [← Nat.add_sub_cancel' h, ← List.drop_drop] at hx
  exact List.mem_of_mem_drop hx
theorem leaf_turn {pages : List (List UInt8)} {R : Rows} {ls : List Ent} {a e : Nat} {mo : Int} {x : Int × Int} (hL : Lvl pages 0 ls) (hf : (ls.map (·.2.2)).flatten = R.take a) (hsep : ∀ b ∈ ls, ∀ x ∈ R.drop a, b.2.1 < x.1) (hs : Srt R)
    (ha : a < e) (he : e ≤ R.length) (h3 : e ≤ a + 3) (hx : R[e - 1]? = some x) (hmo : x.1 ≤ mo) (hmo2 : ∀ z ∈ R.drop e, mo < z.1) (hmb : 0 ≤ mo ∧ mo < 128) (hrb : ∀ q ∈ R, 0 ≤ q.1 ∧ q.1 < 128 ∧ 0 ≤ q.2 ∧ q.2 < 128) (h2 : 2 ≤ pages.length) (hz : pages.length ≤ 200)
    {rows : Rows} (hr : rows = (R.drop a).take (e - a)) {X : List UInt8} (hX : X = pageB (hdOf 13 (rows.map leafRaw).length 0) (rows.map leafRaw)) :
    X.length = 64 ∧ Lvl (pages ++ [X]) 0 (ls ++ [((pages.length : Int) + 1, mo, rows)]) ∧ ((ls ++ [((pages.length : Int) + 1, mo, rows)]).map (·.2.2)).flatten = R.take e ∧ ∀ b ∈ ls ++ [((pages.length : Int) + 1, mo, rows)], ∀ x ∈ R.drop e, b.2.1 < x.1 := by
  have hlen : rows.length = e - a := by rw [hr, List.length_take, List.length_drop]; exact Nat.min_eq_left (Nat.sub_le_sub_right he a)
  have hin : ∀ q ∈ rows, q ∈ R := fun q hq => by rw [hr] at hq; exact List.mem_of_mem_drop (List.mem_of_mem_take hq)
  have hLf : Lf X rows := by
    rw [hX, List.length_map]; exact lf_of (by rw [hlen]; exact Nat.sub_le_iff_le_add'.mpr h3) fun q hq => hrb q (hin q hq)
  refine ⟨hLf.nd.len, (hL.ext pg_app).push ⟨⟨X, pg_new (by lia), hLf⟩, ?_, ?_, ?_, hmb.1, hmb.2, ?_⟩ ?_, ?_, ?_⟩
  · intro h
    have h : rows = [] := h
    rw [h] at hlen; simp at hlen; lia
  · show (3 : Int) ≤ (pages.length : Int) + 1; lia
  · show (pages.length : Int) + 1 < 256; lia
  · intro y hy
    have hy : y ∈ rows := hy
    rw [hr] at hy
    refine elX1_3 ?_ (mem_mid hy); rintro j h1 h2 hj
    have := srt_get hs hj hx (Nat.le_sub_one_of_lt h2)
    show y.1 ≤ mo; lia
  · intro b hb y hy
    have hy : y ∈ rows := hy
    rw [hr] at hy
    exact hsep b hb y (List.mem_of_mem_take hy)
  · rw [List.map_append, List.flatten_append, hf]
    simp only [List.map_cons, List.map_nil, List.flatten_cons, List.flatten_nil, List.append_nil]
    rw [hr]; exact take_mid (by lia)
  · intro b hb y hy
    rcases List.mem_append.mp hb with hb | hb
    · exact hsep b hb y (drop_sub (by lia) hy)
    · simp at hb; subst hb; exact hmo2 y hy
theorem inner_page {pages : List (List UInt8)} {d : Nat} {g0 : List Ent} {e : Ent} (hL : Lvl pages d (g0 ++ [e])) (h4 : g0.length ≤ 4) {X : List UInt8} (hX : X = pageB (hdOf 5 (g0.map fun b => innerRaw (entP b)).length e.1) (g0.map fun b => innerRaw (entP b))) :
    Inn X (g0.map entP) e.1 := by
  have A := hL.all e (by simp)
  have e1 : g0.map (fun b => innerRaw (entP b)) = (g0.map entP).map innerRaw := by rw [List.map_map]; rfl
  rw [hX, e1]
  have := inn_of (cs := g0.map entP) (r := e.1) (by rw [List.length_map]; exact h4) (fun q hq => by
    obtain ⟨b, hb, rfl⟩ := List.mem_map.mp hq
    have B := hL.all b (by simp [hb])
    exact ⟨B.2.2.1, B.2.2.2.1, B.2.2.2.2.1, B.2.2.2.2.2.1⟩) ⟨A.2.2.1, A.2.2.2.1⟩
  rw [List.length_map]
  exact this
theorem inner_turn {pages : List (List UInt8)} {d : Nat} {g0 lsA : List Ent} {e : Ent} (hL : Lvl pages d (g0 ++ [e])) (h4 : g0.length ≤ 4) (h2 : 2 ≤ pages.length) (hz : pages.length ≤ 200) (hA : Lvl pages (d + 1) lsA) (hsep : ∀ a ∈ lsA, ∀ b ∈ g0 ++ [e], ∀ x ∈ b.2.2, a.2.1 < x.1)
    {X : List UInt8} (hX : X = pageB (hdOf 5 (g0.map fun b => innerRaw (entP b)).length e.1) (g0.map fun b => innerRaw (entP b))) :
    X.length = 64 ∧ Lvl (pages ++ [X]) (d + 1) (lsA ++ [((pages.length : Int) + 1, e.2.1, ((g0 ++ [e]).map (·.2.2)).flatten)]) := by
  have hI := inner_page hL h4 hX
  have A := hL.all e (by simp)
  refine ⟨hI.nd.len, (hA.ext pg_app).push ⟨⟨_, _, _, (hL.ext pg_app).inn (pg_new (by lia)) hI, rfl⟩, ?_, ?_, ?_, A.2.2.2.2.1, A.2.2.2.2.2.1, ?_⟩ ?_⟩
  · obtain ⟨y, hy⟩ := List.exists_mem_of_ne_nil _ A.2.1
    intro h
    have : y ∈ ((g0 ++ [e]).map (·.2.2)).flatten := List.mem_flatten.mpr ⟨e.2.2, List.mem_map.mpr ⟨e, by simp, rfl⟩, hy⟩
    have h : ((g0 ++ [e]).map (·.2.2)).flatten = [] := h
    rw [h] at this; cases this
  · show (3 : Int) ≤ (pages.length : Int) + 1; lia
  · show (pages.length : Int) + 1 < 256; lia
  · intro y hy
    obtain ⟨r, hr, hyr⟩ := List.mem_flatten.mp hy
    obtain ⟨b, hb, rfl⟩ := List.mem_map.mp hr
    show y.1 ≤ e.2.1
    rcases List.mem_append.mp hb with hb | hb
    · have h1 := (hL.all b (by simp [hb])).2.2.2.2.2.2 y hyr
      obtain ⟨z, hz'⟩ := List.exists_mem_of_ne_nil _ A.2.1
      have h2 := (List.pairwise_append.mp hL.pair).2.2 b hb e (by simp) z hz'
      have h3 := A.2.2.2.2.2.2 z hz'
      lia
    · simp at hb; subst hb; exact A.2.2.2.2.2.2 y hyr
  · intro a ha y hy
    obtain ⟨r, hr, hyr⟩ := List.mem_flatten.mp hy
    obtain ⟨b, hb, rfl⟩ := List.mem_map.mp hr
    exact hsep a ha b hb y hyr

/-! the tree is written -/
theorem cl1 {cl : List (Str × Addr)} {x : Str} (h : cl.map (·.1) = [x]) : ∃ c, cl = [(x, c)] := by
  match cl, h with
  | [(y, c)], h => simp at h; exact ⟨c, by rw [h]⟩
theorem cl3 {cl : List (Str × Addr)} {x y z : Str} (h : cl.map (·.1) = [x, y, z]) : ∃ a b c, cl = [(x, a), (y, b), (z, c)] := by
  obtain ⟨p, r, e1, e2, h1⟩ := List.map_eq_cons_iff.mp h
  obtain ⟨q, r2, e3, e4, h2⟩ := List.map_eq_cons_iff.mp h1
  obtain ⟨s, r3, e5, e6, h3⟩ := List.map_eq_cons_iff.mp h2
  rw [List.map_eq_nil_iff] at h3
  exact ⟨p.2, q.2, s.2, by rw [e1, e3, e5, h3, ← e2, ← e4, ← e6]⟩
theorem Exs_as {u : U} {n : Nat} {f : Fm} {l l' : Led} {ℓ ℓ' : Loc} {ss : List Stmt} {R : Fl → Led → Loc → Prop} (hl : l = l') (hℓ : ℓ = ℓ') (h : Exs u n f l' ℓ' ss R) : Exs u n f l ℓ ss R := by rw [hl, hℓ]; exact h
theorem has_pushT {ts : List Step} {a : Addr} {p m : Int} {l r : Led} (q : Pick (a, O.tup [.int p, .int m]) l r) (h : Has (tpL ts) r) : Has (tpL (ts ++ [(a, p, m)])) l := by
  rw [tpL_push]
  exact (Has.perm (List.perm_append_comm (l₁ := [(a, O.tup [.int p, .int m])]))).trans (.pick q h)
local macro_rules | `(tactic| wtm_at "hs") => tTab "Has.refl _ | Has.nil | Has.pick pick hs | has_push' pick hs | has_pushT pick hs | Has.skip hs"
theorem ar_two {a n : Nat} (h : a < (n + 1) / 2) : 2 * a < n := by omega
theorem ar_half {n : Nat} (h : 2 < n) : (n + 1) / 2 < n ∧ (n + 1) / 2 + 2 * ((n + 1) / 2) ≤ 2 * n := by omega
/-! the steps up to the next statement -/
local macro_rules | `(tactic| wtm_at "q") => `(tactic| repeat ((fail_if_success (with_reducible guard_target = Exs _ _ _ _ _ _ _)); wtm_at "s"))
theorem Has.snoc {a b : Led} {x : Addr × O} (h : Has a b) : Has (x :: a) (b ++ [x]) := (Has.tail h).trans (Has.perm List.perm_append_comm)
theorem pg_set {pages : List (List UInt8)} {xs : List UInt8} (h2 : 2 ≤ pages.length) : pgAt (pages.set ((2 : Int) - 1).toNat xs) 2 xs := ⟨by decide, by show (pages.set 1 xs)[1]? = _; rw [List.getElem?_set]; simp; omega⟩
theorem pg_other {pages : List (List UInt8)} {xs : List UInt8} (p : Int) (ys : List UInt8) (hp : 3 ≤ p) (h : pgAt pages p ys) : pgAt (pages.set ((2 : Int) - 1).toNat xs) p ys := ⟨h.1, by show (pages.set 1 xs)[(p - 1).toNat]? = _; rw [List.getElem?_set_ne (ar_ne hp)]; exact h.2⟩
theorem set_ok {pages : List (List UInt8)} {xs : List UInt8} {i : Nat} (ho : ∀ x ∈ pages, x.length = 64) (hx : xs.length = 64) : ∀ x ∈ pages.set i xs, x.length = 64 := fun x h => by
  rcases List.mem_or_eq_of_mem_set h with h | h
  · exact ho x h
  · rw [h]; exact hx
theorem cut_two {α : Type} (xs : List α) {j : Nat} (h : 2 * j ≤ xs.length) : cut xs (some ((0 : Int) + (j : Int) * 2)) (some ((0 : Int) + (j : Int) * 2 + 2)) = (xs.drop (2 * j)).take 2 := by
  have e : (0 : Int) + (j : Int) * 2 = ((2 * j : Nat) : Int) := by lia
  rw [e, show ((2 * j : Nat) : Int) + 2 = ((2 * j + 2 : Nat) : Int) from rfl]
  unfold cut
  simp only [Option.elim, clipAt_nat]
  rw [Nat.min_eq_left h, ← Nat.sub_min_sub_right, Nat.add_sub_cancel_left, ← List.length_drop, ← List.take_eq_take_min]
theorem pair_split {ls : List Ent} {ts : List Step} (h : stP ts = ls.map entP) {j : Nat} (hj : 2 * j < ls.length) : ∃ g0 e pts0 a, (ls.drop (2 * j)).take 2 = g0 ++ [e] ∧ (ts.drop (2 * j)).take 2 = pts0 ++ [(a, e.1, e.2.1)] ∧ stP pts0 = g0.map entP ∧ g0.length ≤ 1 ∧
    ls.take (2 * (j + 1)) = ls.take (2 * j) ++ (g0 ++ [e]) ∧ (∀ s ∈ pts0 ++ [(a, e.1, e.2.1)], s ∈ ts) ∧ ls = ls.take (2 * j) ++ ((g0 ++ [e]) ++ ls.drop (2 * (j + 1))) := by
  have hlen : ((ls.drop (2 * j)).take 2).length ≤ 2 := by rw [List.length_take]; omega
  have hne : (ls.drop (2 * j)).take 2 ≠ [] := by
    intro e
    have := congrArg List.length e
    rw [List.length_take, List.length_drop] at this
    simp at this; omega
  rcases List.eq_nil_or_concat ((ls.drop (2 * j)).take 2) with e | ⟨g0, e, eg⟩
  · exact absurd e hne
  rw [List.concat_eq_append] at eg
  have hst : stP ((ts.drop (2 * j)).take 2) = g0.map entP ++ [(e.1, e.2.1)] := by
    have : stP ((ts.drop (2 * j)).take 2) = ((ls.drop (2 * j)).take 2).map entP := by
      unfold stP at h ⊢
      rw [List.map_take, List.map_drop, h, List.map_take, List.map_drop]
    rw [this, eg, List.map_append]; rfl
  refine elX2_2 ?_ (stP_last hst); rintro pts0 a ep es
  have htk : ls.take (2 * (j + 1)) = ls.take (2 * j) ++ (g0 ++ [e]) := by
    rw [← eg, show 2 * (j + 1) = 2 * j + 2 by lia, List.take_add]
  refine ⟨g0, e, pts0, a, eg, ep, es, ?_, htk, ?_, ?_⟩
  · rw [eg, List.length_append] at hlen; simp at hlen; omega
  · intro s hs
    rw [← ep] at hs
    exact List.mem_of_mem_drop (List.mem_of_mem_take hs)
  · rw [← List.append_assoc, ← htk, List.take_append_drop]
theorem rng5 {n : Nat} (h : n ≤ 5) : Builtin.Range.small 0 (n : Int) 2 = true ∧ Builtin.Range.rangeSize 0 (n : Int) 2 = (((n + 1) / 2 : Nat) : Int) := by
  have : ∀ n : Fin 6, Builtin.Range.small 0 ((n : Nat) : Int) 2 = true ∧ Builtin.Range.rangeSize 0 ((n : Nat) : Int) 2 = ((((n : Nat) + 1) / 2 : Nat) : Int) := by decide
  exact this ⟨n, by omega⟩
noncomputable def dk (m : Rows) : List (Int × V) := m.map fun q => (q.1, V.int q.2)
theorem dk_keys (m : Rows) : (dk m).map (·.1) = m.map (·.1) := by simp [dk]
theorem dk_len (m : Rows) : (dk m).length = m.length := by simp [dk]
theorem dk_at {m : Rows} (nd : (m.map (·.1)).Nodup) {k v : Int} (h : (k, v) ∈ m) : dAt (dk m) k = some (.int v) := by
  induction m with
  | nil => cases h
  | cons a m ih =>
    rw [List.map_cons, List.nodup_cons] at nd
    unfold dAt dk
    rw [List.map_cons, List.find?_cons]
    rcases List.mem_cons.mp h with e | h
    · subst e; simp
    · have hne : ¬ a.1 = k := fun e => nd.1 (List.mem_map.mpr ⟨_, h, e.symm⟩)
      simp only [hne, decide_false]
      exact ih nd.2 h
theorem dk_none {m : Rows} {k : Int} : dAt (dk m) k = none ↔ ∀ v, (k, v) ∉ m := by
  unfold dAt dk
  rw [Option.map_eq_none_iff, List.find?_eq_none]
  constructor
  · intro h v hv
    have := h (k, .int v) (List.mem_map.mpr ⟨_, hv, rfl⟩)
    simp at this
  · rintro h x hx
    obtain ⟨⟨a, b⟩, hq, rfl⟩ := List.mem_map.mp hx
    simp only [decide_eq_true_eq]
    rintro rfl
    exact h b hq
section
variable {u : U} {n : Nat} {f : Fm} {l : Led} {ℓ : Loc} {P : V → Led → Prop} {i : Int}
theorem Call_sortedT {a : Addr} {m : Rows} (ha : (a, O.dict (dk m)) ∈ l) (nd : (m.map (·.1)).Nodup) (hz : m.length < 64) (h : ∀ d R, R.Perm m → Srt R → P (.ref d) ((d, .list ((R.map (·.1)).map .int)) :: l)) : CallV u n f l ℓ (.bi "sorted") [.ref a] P := by
  refine Call_sorted ha (by rw [dk_len]; exact hz) fun d ns hp hs => ?_
  rw [dk_keys] at hp
  obtain ⟨R, hR, rfl⟩ := perm_lift hp m rfl
  refine h d R hR ?_
  have nd' : (R.map (·.1)).Nodup := hp.nodup_iff.mpr nd
  have hs' := List.pairwise_map.mp hs
  have nd'' := List.pairwise_map.mp nd'
  exact (hs'.and nd'').imp fun ⟨a, b⟩ => by omega
theorem Itm_dk {a : Addr} {m : Rows} {v : Int} (ha : (a, O.dict (dk m)) ∈ l) (nd : (m.map (·.1)).Nodup) (hv : (i, v) ∈ m) (h : P (.int v) l) : ItmV u n f l ℓ (.ref a) (.int i) P := Itm_dict ha (dk_at nd hv) h
end
local macro_rules | `(tactic| wtm_at "s") => tTab "ItmV 8: Itm_dk lk as as _"
section
variable {so st sd pl sp ro : Addr} {pages : List (List UInt8)}
set_option maxHeartbeats 4000000 in
theorem sp_law_write {p q : Int} {m : Rows} (hp : Pool p q) (hm : m.length ≤ 5) (nd : (m.map (·.1)).Nodup) (hb : ∀ x ∈ m, 0 ≤ x.1 ∧ x.1 < 100 ∧ 0 ≤ x.2 ∧ x.2 < 128) (h2 : 2 ≤ pages.length) (hz : pages.length ≤ 100) (ho : ∀ x ∈ pages, x.length = 64) :
    Spec 8 (.ref 855) [.ref so, .ref st, .ref ro] [(so, O.list [.int p, .int q]), (st, O.inst 764 sd), (sd, O.ns [("page_size", .int 64), ("pages", .ref pl), ("spare", .ref sp)]), (pl, O.list (pages.map .bytes)), (ro, O.dict (dk m))] fun v l => ∃ p' q' pages' D R, v = .none ∧ Pool p' q' ∧ R.Perm m ∧ Srt R ∧ Sub pages' D 2 R ∧ D ≤ 5 ∧ pages.length ≤ pages'.length ∧ pages'.length ≤ pages.length + 15 ∧
      (∀ x ∈ pages', x.length = 64) ∧ l = [(so, O.list [.int p', .int q']), (st, O.inst 764 sd), (sd, O.ns [("page_size", .int 64), ("pages", .ref pl), ("spare", .ref sp)]), (pl, O.list ((pages').map .bytes)), (ro, O.dict (dk m))] := by
  refine Spec_defCR (ps := ["source", "store", "rows"]) (by intro P; k_is) (by intro P; k_is) (reps3 (by intros; rfl)) (by intro P; kernel_rfl!) rfl (fun u f cl hcl FR hPo => ?_) (by rfl) (by rfl) (by rfl)
  obtain ⟨c_rows, rfl⟩ := cl1 (x := "rows") hcl
  refine Exs_as (l' := (c_rows, O.cell (.ref ro)) :: [(so, O.list [.int p, .int q]), (st, O.inst 764 sd), (sd, O.ns [("page_size", .int 64), ("pages", .ref pl), ("spare", .ref sp)]), (pl, O.list (pages.map .bytes)), (ro, O.dict (dk m))]) (ℓ' := [("source", .loc (.ref so)), ("store", .loc (.ref st)), ("rows", .cel c_rows), ("keys", .unb), ("raws", .unb), ("some", .unb), ("at", .unb), ("end", .unb), ("most", .unb), ("above", .unb), ("pair", .unb), ("cells", .unb), ("right", .unb), ("sorted", .glob (.bi "sorted")), ("len", .glob (.bi "len")), ("write_content", .glob (.ref 644)), ("Content", .glob (.ref 626)), ("min", .glob (.bi "min")), ("_law_take", .glob (.ref 838)), ("_law_page", .glob (.ref 845)), ("range", .glob (.ty "range")), ("_law_inner", .glob (.ref 850))]) (by kernel_rfl!) (by kernel_rfl!) ?_
  clear hcl

  wtm_at "r"
  refine Call_sortedT (by wtm_at "lk") nd (by omega) fun ka R hR hs => ?_
  wtm_at "r"
  have hRl := hR.length_eq
  have hlk : ((R.map (·.1)).map V.int).length = R.length := by simp
  refine Ex_AssignComp [("rows", c_rows)] [(".0", .unb), ("key", .unb), ("bytes", .glob (.ty "bytes")), ("rows", .cel c_rows)] rfl (by intro p hp; simp at hp; subst hp; wtm_at "lk") (by intro P; kernel_rfl!) (by intro P; kernel_rfl!) rfl (by rfl) (by rfl) (.inl (by wtm_at "lk")) ?_ (by intro _; rfl)
  wtm_at "r"
  refine CompV_list (by wtm_at "pick") (by rw [hlk, hRl]; exact Nat.le_trans hm (by decide)) (fun i acc l ℓ => acc = (R.take i).map (fun s => V.bytes (leafRaw s)) ∧ Has [(c_rows, O.cell (.ref ro)), (so, O.list [.int p, .int q]), (st, O.inst 764 sd), (sd, O.ns [("page_size", .int 64), ("pages", .ref pl), ("spare", .ref sp)]), (pl, O.list (pages.map .bytes)), (ro, O.dict (dk m))] l ∧ ∃ s1, Lo s1 ∧ ℓ = ([(".0", .unb), ("key", s1), ("bytes", .glob (.ty "bytes")), ("rows", .cel c_rows)] : Loc))
    ⟨rfl, by wtm_at "hs", _, Lo.unb, rfl⟩ ?_ ?_
  · rintro f' i acc l ℓ v hv; refine elA3 ?_; rintro rfl hh; refine elX1_2 ?_; rintro s1 l1 rfl
    rw [List.getElem?_map, List.getElem?_map] at hv
    obtain ⟨k, hk, rfl⟩ := Option.map_eq_some_iff.mp hv
    obtain ⟨x, hx, rfl⟩ := Option.map_eq_some_iff.mp hk
    have hxm : (x.1, x.2) ∈ m := hR.mem_iff.mp (List.mem_of_getElem? hx)
    refine elA4 ?_ (hb _ hxm); rintro b0 b1 b2 b3
    refine Asg_has hh ?_
    wtm_at "r"
    intro e
    wtm_at "r"
    refine Call_bytes_intsT (is := [3, x.1, 2, 1, x.2]) (.head _) (by intro k hk; simp at hk; lia) (by simp) ?_
    wtm_at "r"
    refine ⟨?_, by wtm_at "hs", _, Lo.loc, rfl⟩
    rw [List.take_add_one, hx, List.map_append]; rfl
  rintro acc l' ℓ' ⟨rfl, hh, -⟩ rl
  refine ⟨_, App.of _ _, _, by wtm_at "put", ?_⟩
  rw [hlk, List.take_of_length_le (Nat.le_refl _)]
  refine Seq_next (Exs_has (l₀ := [(rl, O.list ((R.map leafRaw).map .bytes)), (ka, O.list ((R.map (·.1)).map .int)), (c_rows, O.cell (.ref ro)), (so, O.list [.int p, .int q]), (st, O.inst 764 sd), (sd, O.ns [("page_size", .int 64), ("pages", .ref pl), ("spare", .ref sp)]), (pl, O.list (pages.map .bytes)), (ro, O.dict (dk m))]) ?_ ?_)
  · rw [List.map_map]
    refine Has.tail ?_
    exact hh.snoc
  clear hh
  wtm_at "r"
  have hraw : ∀ b ∈ R.map leafRaw, b.length = 5 := by
    intro b hb'
    obtain ⟨x, _, rfl⟩ := List.mem_map.mp hb'
    rfl
  have hrb : ∀ q ∈ R, 0 ≤ q.1 ∧ q.1 < 128 ∧ 0 ≤ q.2 ∧ q.2 < 128 := fun q hq =>
    have h := hb q (hR.mem_iff.mp hq); ⟨h.1, Int.lt_trans h.2.1 (by decide), h.2.2⟩
  refine Br_dec (fun hlt => ?_) (fun hge => ?_)
  · wtm_at "r"
    refine CallV_use sp_Content (by wtm_at "one") (by wtm_at "sel") (E_2_0 ?_)
    rintro co cod
    refine ⟨_, by wtm_at "app", ?_⟩
    wtm_at "r"
    refine CallV_one (sp_write_content (.inl rfl) (by decide) (by omega) (by omega) hraw (by rw [List.length_map]; omega) ho) (by wtm_at "one") (by wtm_at "sel") (by wtm_at "app") ?_
    wtm_at "r"
    have hX : Lf (pageB (hdOf 13 (R.map leafRaw).length 0) (R.map leafRaw)) R := by
      rw [List.length_map]; exact lf_of (by omega) hrb
    refine hPo <| Done_has (by wtm_at "hs") (inE5 p q _ 0 R ⟨rfl, hp, hR, hs, ⟨_, pg_set h2, hX⟩, by decide, by simp, by simp, set_ok ho hX.nd.len, rfl⟩)
  wtm_at "r"
  intro sm
  wtm_at "r"
  refine Ex_cutO (fun l ℓ => ∃ (pages' : List (List UInt8)) (p' q' : Int) (ls : List Ent) (ts : List Step) (s1 s2 s3 : Sl), Pool p' q' ∧ Lvl pages' 0 ls ∧ (ls.map (·.2.2)).flatten = R ∧ ls ≠ [] ∧ ls.length ≤ 5 ∧ pages'.length = pages.length + ls.length ∧ (∀ x ∈ pages', x.length = 64) ∧ stP ts = ls.map entP ∧ Lo s1 ∧ Lo s2 ∧ Lo s3 ∧
    Has ((sm, O.list (stV ts)) :: (c_rows, O.cell (.ref ro)) :: (so, O.list [.int p', .int q']) :: (st, O.inst 764 sd) :: (sd, O.ns [("page_size", .int 64), ("pages", .ref pl), ("spare", .ref sp)]) :: (pl, O.list ((pages').map .bytes)) :: (ro, O.dict (dk m)) :: tpL ts) l ∧ ℓ = ([("source", .loc (.ref so)), ("store", .loc (.ref st)), ("rows", .cel c_rows), ("keys", .loc (.ref ka)), ("raws", .loc (.ref rl)), ("some", .loc (.ref sm)), ("at", s1), ("end", s2), ("most", s3), ("above", .unb), ("pair", .unb), ("cells", .unb), ("right", .unb), ("sorted", .glob (.bi "sorted")), ("len", .glob (.bi "len")), ("write_content", .glob (.ref 644)), ("Content", .glob (.ref 626)), ("min", .glob (.bi "min")), ("_law_take", .glob (.ref 838)), ("_law_page", .glob (.ref 845)), ("range", .glob (.ty "range")), ("_law_inner", .glob (.ref 850))] : Loc)) ?_ ?_
  · intro J1 hJ1; refine Ex_WhileO (fun k l ℓ => ∃ (a : Nat) (pages' : List (List UInt8)) (p' q' : Int) (ls : List Ent) (ts : List Step) (s2 s3 : Sl), k = R.length - a ∧ a ≤ R.length ∧ Pool p' q' ∧ Lvl pages' 0 ls ∧ (ls.map (·.2.2)).flatten = R.take a ∧ (∀ b ∈ ls, ∀ x ∈ R.drop a, b.2.1 < x.1) ∧ ls.length ≤ a ∧ (0 < a → ls ≠ []) ∧ pages'.length = pages.length + ls.length ∧ (∀ x ∈ pages', x.length = 64) ∧ stP ts = ls.map entP ∧ Lo s2 ∧ Lo s3 ∧
      Has ((sm, O.list (stV ts)) :: (rl, O.list ((R.map leafRaw).map .bytes)) :: (ka, O.list ((R.map (·.1)).map .int)) :: (c_rows, O.cell (.ref ro)) :: (so, O.list [.int p', .int q']) :: (st, O.inst 764 sd) :: (sd, O.ns [("page_size", .int 64), ("pages", .ref pl), ("spare", .ref sp)]) :: (pl, O.list ((pages').map .bytes)) :: (ro, O.dict (dk m)) :: tpL ts) l ∧ ℓ = ([("source", .loc (.ref so)), ("store", .loc (.ref st)), ("rows", .cel c_rows), ("keys", .loc (.ref ka)), ("raws", .loc (.ref rl)), ("some", .loc (.ref sm)), ("at", .loc (.int (a : Int))), ("end", s2), ("most", s3), ("above", .unb), ("pair", .unb), ("cells", .unb), ("right", .unb), ("sorted", .glob (.bi "sorted")), ("len", .glob (.bi "len")), ("write_content", .glob (.ref 644)), ("Content", .glob (.ref 626)), ("min", .glob (.bi "min")), ("_law_take", .glob (.ref 838)), ("_law_page", .glob (.ref 845)), ("range", .glob (.ty "range")), ("_law_inner", .glob (.ref 850))] : Loc)) R.length
      (inE8 0 pages p q [] [] _ _ ⟨rfl, by lia, hp, Lvl.nil, rfl, nofun, by simp, by omega, by simp, ho, rfl, Lo.unb, Lo.unb, (show Has ((sm, O.list []) :: (rl, O.list ((R.map leafRaw).map .bytes)) :: (ka, O.list ((R.map (·.1)).map .int)) :: (c_rows, O.cell (.ref ro)) :: (so, O.list [.int p, .int q]) :: (st, O.inst 764 sd) :: (sd, O.ns [("page_size", .int 64), ("pages", .ref pl), ("spare", .ref sp)]) :: (pl, O.list ((pages).map .bytes)) :: (ro, O.dict (dk m)) :: []) _ from by wtm_at "hs"), rfl⟩) ?_
    rintro J hJ k l ℓ; refine elE8 ?_; rintro a pages' p' q' ls ts s2 s3; refine elA15 ?_; rintro rfl ha hp' hL hf hsep hla hne hpl ho' hts l2 l3 hh rfl
    have hR5 : R.length ≤ 5 := Nat.le_trans (Nat.le_of_eq hRl) hm
    have hP2 : 2 ≤ pages'.length := by rw [hpl]; exact Nat.le_trans h2 (Nat.le_add_right _ _)
    have hP3 : pages'.length ≤ 105 := by rw [hpl]; exact Nat.add_le_add hz (Nat.le_trans hla (Nat.le_trans ha hR5))
    refine Tr_has hh ?_
    wtm_at "r"
    refine Br_dec (fun hlt => ?_) (fun hge2 => ?_)
    · wtm_at "r"
      refine CallV_use (sp_take hp' (by decide) (by decide)) (by wtm_at "one") (by wtm_at "sel") (E_3_3 ?_)
      rintro r0 p2 q2 hr0 hr3 hp2
      refine ⟨_, by wtm_at "app", ?_⟩
      wtm_at "q"
      obtain ⟨e, he1, he2, he3, he4⟩ : ∃ e : Nat, min (((R.map (·.1)).map V.int).length : Int) ((a : Int) + 1 + r0) = (e : Int) ∧ a < e ∧ e ≤ R.length ∧ e ≤ a + 3 :=
        by rw [hlk] at hlt ⊢; exact ar_end hr0 hr3 hlt
      obtain ⟨x, hx⟩ : ∃ x, R[e - 1]? = some x := ⟨_, List.getElem?_eq_getElem (by omega)⟩
      have hx' : ((R.map (·.1)).map V.int)[((e : Int) - 1).toNat]? = some (.int x.1) := by rw [List.getElem?_map, List.getElem?_map, ar_m e, hx]; rfl
      refine (Eq.symm (he1)) ▸ ?_
      wtm_at "s"
      wtm_at "q"
      refine Exs_cons (Ex_cutO (fun l ℓ => ∃ (p3 q3 mo : Int), Pool p3 q3 ∧ x.1 ≤ mo ∧ (∀ z ∈ R.drop e, mo < z.1) ∧ 0 ≤ mo ∧ mo < 128 ∧ Has ((sm, O.list (stV ts)) :: (rl, O.list ((R.map leafRaw).map .bytes)) :: (ka, O.list ((R.map (·.1)).map .int)) :: (c_rows, O.cell (.ref ro)) :: (so, O.list [.int p3, .int q3]) :: (st, O.inst 764 sd) :: (sd, O.ns [("page_size", .int 64), ("pages", .ref pl), ("spare", .ref sp)]) :: (pl, O.list ((pages').map .bytes)) :: (ro, O.dict (dk m)) :: tpL ts) l ∧
        ℓ = ([("source", .loc (.ref so)), ("store", .loc (.ref st)), ("rows", .cel c_rows), ("keys", .loc (.ref ka)), ("raws", .loc (.ref rl)), ("some", .loc (.ref sm)), ("at", .loc (.int (a : Int))), ("end", .loc (.int (e : Int))), ("most", .loc (.int mo)), ("above", .unb), ("pair", .unb), ("cells", .unb), ("right", .unb), ("sorted", .glob (.bi "sorted")), ("len", .glob (.bi "len")), ("write_content", .glob (.ref 644)), ("Content", .glob (.ref 626)), ("min", .glob (.bi "min")), ("_law_take", .glob (.ref 838)), ("_law_page", .glob (.ref 845)), ("range", .glob (.ty "range")), ("_law_inner", .glob (.ref 850))] : Loc)) ?_ ?_)
      · intro J2 hJ2; have hkb : ∀ z ∈ R, 0 ≤ z.1 ∧ z.1 < 100 := fun z hz => have h := hb z (hR.mem_iff.mp hz); ⟨h.1, h.2.1⟩
        have hxb := hkb x (List.mem_of_getElem? hx)
        have hlt2 : ∀ z ∈ R.drop e, x.1 < z.1 := fun z hz => by
          obtain ⟨j, hj⟩ := List.mem_iff_getElem?.mp hz
          rw [List.getElem?_drop] at hj
          obtain ⟨g1, rfl⟩ := List.getElem?_eq_some_iff.mp hx
          obtain ⟨g2, rfl⟩ := List.getElem?_eq_some_iff.mp hj
          exact List.pairwise_iff_getElem.mp hs _ _ g1 g2 (Nat.lt_of_lt_of_le (Nat.sub_one_lt (Nat.ne_of_gt (Nat.lt_of_le_of_lt (Nat.zero_le a) he2))) (Nat.le_add_right e j))
        wtm_at "q"
        refine Br_dec (fun hel => ?_) (fun hel => ?_)
        · obtain ⟨y, hy⟩ : ∃ y, R[e]? = some y := ⟨_, List.getElem?_eq_getElem (by omega)⟩
          have hy' : ((R.map (·.1)).map V.int)[(e : Int).toNat]? = some (.int y.1) := by rw [List.getElem?_map, List.getElem?_map, Int.toNat_natCast, hy]; rfl
          have hyd : y ∈ R.drop e := List.mem_of_getElem? (i := 0) (by rw [List.getElem?_drop]; exact hy)
          have hyb := hkb y (List.mem_of_getElem? hy)
          have hxy := hlt2 y hyd
          wtm_at "r"
          refine CallV_use (sp_take hp2 (top := y.1 - x.1) (by omega) (by omega)) (by wtm_at "one") (by wtm_at "sel") (E_3_3 ?_)
          rintro r1 p3 q3 hr10 hr11 hp3
          refine ⟨_, by wtm_at "app", ?_⟩
          wtm_at "r"
          refine hJ2 <| inE3 p3 q3 (x.1 + r1) ⟨hp3, by lia, fun z hz => ?_, by omega, by lia, by wtm_at "hs", rfl⟩
          obtain ⟨j, hj⟩ := List.mem_iff_getElem?.mp hz
          rw [List.getElem?_drop] at hj
          have := srt_get hs hy hj (by lia)
          lia
        · wtm_at "r"
          exact hJ2 <| inE3 p2 q2 x.1 ⟨hp2, Int.le_refl _, hlt2, by omega, by omega, by wtm_at "hs", rfl⟩
      · rintro l ℓ; refine elX3_7 ?_; rintro p3 q3 mo hp3 hmo hmo2 hm0 hm1 hh3 rfl
        refine Exs_has hh3 ?_
        wtm_at "r"
        intro c
        wtm_at "r"
        intro d
        have hcut : cut ((R.map leafRaw).map V.bytes) (some (a : Int)) (some (e : Int)) = (((R.drop a).take (e - a)).map leafRaw).map V.bytes := by
          rw [cut_mid _ (by lia) (by simp; omega)]; simp [List.map_drop, List.map_take]
        rw [hcut]
        obtain ⟨rows, hrows⟩ : ∃ rows, rows = (R.drop a).take (e - a) := ⟨_, rfl⟩
        obtain ⟨X, hX⟩ : ∃ X, X = pageB (hdOf 13 (rows.map leafRaw).length 0) (rows.map leafRaw) := ⟨_, rfl⟩
        have hrl : rows.length = e - a := by rw [hrows, List.length_take, List.length_drop]; exact Nat.min_eq_left (Nat.sub_le_sub_right he3 a)
        refine elA4 ?_ (leaf_turn hL hf hsep hs he2 he3 he4 hx hmo hmo2 ⟨hm0, hm1⟩ hrb hP2 (Nat.le_trans hP3 (by decide)) hrows hX); rintro t1 t2 t3 t4
        rw [← hrows]
        have hsl := stV_len ts
        have htl : ts.length = ls.length := by have := congrArg List.length hts; rw [stP_len, List.length_map] at this; exact this
        wtm_at "r"
        refine CallV_one (sp_law_page (pages := pages') (bs := rows.map leafRaw) (.inl rfl) (Nat.le_trans (by decide) hP2) (Nat.le_trans hP3 (by decide)) (fun b hb' => by obtain ⟨z, _, rfl⟩ := List.mem_map.mp hb'; rfl) (by rw [List.length_map, hrl]; exact Nat.le_succ_of_le (Nat.sub_le_iff_le_add'.mpr he4)) ho') (by wtm_at "one") (by wtm_at "sel") (by wtm_at "app") ?_
        refine (hX) ▸ ?_
        wtm_at "r"
        intro tp
        wtm_at "r"
        refine ⟨R.length - e, Nat.sub_lt_sub_left (Nat.lt_of_lt_of_le he2 he3) he2, hJ <| inE8 e (pages' ++ [X]) p3 q3 (ls ++ [((pages'.length : Int) + 1, mo, rows)]) (ts ++ [(tp, (pages'.length : Int) + 1, mo)]) _ _ ⟨rfl, he3, hp3, t2, t3, t4, by rw [List.length_append]; exact Nat.lt_of_le_of_lt hla he2, by simp, by rw [List.length_append, List.length_append, hpl, Nat.add_assoc]; rfl, ?_, ?_, Lo.loc, Lo.loc, by rw [stV_push]; wtm_at "hs", rfl⟩⟩
        · intro z hz'
          rcases List.mem_append.mp hz' with hz' | hz'
          · exact ho' z hz'
          · simp at hz'; subst hz'; exact t1
        · rw [stP_push, hts, List.map_append]; rfl
    · have hae : a = R.length := by lia
      subst hae
      wtm_at "r"
      rw [List.take_of_length_le (Nat.le_refl _)] at hf
      exact hJ1 <| inE8 pages' p' q' ls ts _ _ _ ⟨hp', hL, hf, hne (by omega), by lia, hpl, ho', hts, Lo.loc, l2, l3, by wtm_at "hs", rfl⟩
  rintro l ℓ; refine elE8 ?_; rintro pages' p' q' ls ts s1 s2 s3; refine elA13 ?_; rintro hp' hL hf hne hl5 hpl ho' hts l1 l2 l3 hh rfl
  refine Exs_has hh ?_
  refine Exs_cons (Ex_cutO (fun l ℓ => ∃ (d : Nat) (pages' : List (List UInt8)) (p' q' : Int) (ls : List Ent) (ts all : List Step) (sm : Addr) (s1 s2 s3 s4 s5 s6 s7 : Sl), Pool p' q' ∧ d + ls.length ≤ 5 ∧ Lvl pages' d ls ∧ (ls.map (·.2.2)).flatten = R ∧ ls ≠ [] ∧ pages'.length + 2 * ls.length ≤ pages.length + 15 ∧ pages.length ≤ pages'.length ∧ (∀ x ∈ pages', x.length = 64) ∧ stP ts = ls.map entP ∧ (∀ s ∈ ts, s ∈ all) ∧
    Lo s1 ∧ Lo s2 ∧ Lo s3 ∧ Lo s4 ∧ Lo s5 ∧ Lo s6 ∧ Lo s7 ∧ Has ((sm, O.list (stV ts)) :: (c_rows, O.cell (.ref ro)) :: (so, O.list [.int p', .int q']) :: (st, O.inst 764 sd) :: (sd, O.ns [("page_size", .int 64), ("pages", .ref pl), ("spare", .ref sp)]) :: (pl, O.list ((pages').map .bytes)) :: (ro, O.dict (dk m)) :: tpL all) l ∧
    ℓ = ([("source", .loc (.ref so)), ("store", .loc (.ref st)), ("rows", .cel c_rows), ("keys", .loc (.ref ka)), ("raws", .loc (.ref rl)), ("some", .loc (.ref sm)), ("at", s1), ("end", s2), ("most", s3), ("above", s4), ("pair", s5), ("cells", s6), ("right", s7), ("sorted", .glob (.bi "sorted")), ("len", .glob (.bi "len")), ("write_content", .glob (.ref 644)), ("Content", .glob (.ref 626)), ("min", .glob (.bi "min")), ("_law_take", .glob (.ref 838)), ("_law_page", .glob (.ref 845)), ("range", .glob (.ty "range")), ("_law_inner", .glob (.ref 850))] : Loc)) ?_ ?_)
  · intro J1 hJ1; refine Ex_WhileO (fun k l ℓ => ∃ (d : Nat) (pages' : List (List UInt8)) (p' q' : Int) (ls : List Ent) (ts all : List Step) (sm : Addr) (s1 s2 s3 s4 s5 s6 s7 : Sl), k = ls.length ∧ Pool p' q' ∧ d + ls.length ≤ 5 ∧ Lvl pages' d ls ∧ (ls.map (·.2.2)).flatten = R ∧ ls ≠ [] ∧ pages'.length + 2 * ls.length ≤ pages.length + 15 ∧ pages.length ≤ pages'.length ∧ (∀ x ∈ pages', x.length = 64) ∧ stP ts = ls.map entP ∧ (∀ s ∈ ts, s ∈ all) ∧
      Lo s1 ∧ Lo s2 ∧ Lo s3 ∧ Lo s4 ∧ Lo s5 ∧ Lo s6 ∧ Lo s7 ∧ Has ((sm, O.list (stV ts)) :: (c_rows, O.cell (.ref ro)) :: (so, O.list [.int p', .int q']) :: (st, O.inst 764 sd) :: (sd, O.ns [("page_size", .int 64), ("pages", .ref pl), ("spare", .ref sp)]) :: (pl, O.list ((pages').map .bytes)) :: (ro, O.dict (dk m)) :: tpL all) l ∧
      ℓ = ([("source", .loc (.ref so)), ("store", .loc (.ref st)), ("rows", .cel c_rows), ("keys", .loc (.ref ka)), ("raws", .loc (.ref rl)), ("some", .loc (.ref sm)), ("at", s1), ("end", s2), ("most", s3), ("above", s4), ("pair", s5), ("cells", s6), ("right", s7), ("sorted", .glob (.bi "sorted")), ("len", .glob (.bi "len")), ("write_content", .glob (.ref 644)), ("Content", .glob (.ref 626)), ("min", .glob (.bi "min")), ("_law_take", .glob (.ref 838)), ("_law_page", .glob (.ref 845)), ("range", .glob (.ty "range")), ("_law_inner", .glob (.ref 850))] : Loc)) ls.length
      (inE15 0 pages' p' q' ls ts ts sm _ _ _ _ _ _ _ ⟨rfl, hp', by rw [Nat.zero_add]; exact hl5, hL, hf, hne, by rw [hpl, Nat.add_assoc]; exact Nat.add_le_add_left (Nat.le_trans (Nat.add_le_add hl5 (Nat.mul_le_mul_left 2 hl5)) (by decide)) _, by rw [hpl]; exact Nat.le_add_right _ _, ho', hts, fun _ h => h, l1, l2, l3, Lo.unb, Lo.unb, Lo.unb, Lo.unb, Has.refl _, rfl⟩) ?_
    clear hp' hL hf hne hl5 hpl ho' hts l1 l2 l3 hh
    clear pages' p' q' ls ts s1 s2 s3 sm l
    rintro J hJ k l ℓ; refine elE15 ?_; rintro d pages' p' q' ls ts all sm s1 s2 s3 s4 s5 s6 s7; refine elA20 ?_; rintro rfl hp' hd hL hf hne hpl hpl0 ho' hts hall l1 l2 l3 l4 l5 l6 l7 hh rfl
    have hsl := stV_len ts
    have htl : ts.length = ls.length := by have := congrArg List.length hts; rw [stP_len, List.length_map] at this; exact this
    refine Tr_has hh ?_
    wtm_at "r"
    refine Br_dec (fun h2l => ?_) (fun h2l => ?_)
    · wtm_at "r"
      refine CallV_use (sp_take hp' (by decide) (by decide)) (by wtm_at "one") (by wtm_at "sel") (E_3_3 ?_)
      rintro r0 p2 q2 hr0 hr3 hp2
      refine ⟨_, by wtm_at "app", ?_⟩
      wtm_at "q"
      refine Br_dec (fun hr => ?_) (fun hr => ?_)
      · wtm_at "q"
        wtm_at "s"
        wtm_at "q"
        intro am
        wtm_at "q"
        refine Exs_cons ?_
        refine Ex_For_rangeO ?_ (by intro _; rfl) (by intro _ _; rfl)
        wtm_at "q"
        refine (Eq.symm (hsl)) ▸ ?_; refine (Eq.symm (htl)) ▸ ?_
        refine Call_range3 (by decide) (PyProof.noPylong_small (by decide)) fun rg => ?_
        have hls5 : ls.length ≤ 5 := Nat.le_trans (Nat.le_add_left _ _) hd
        obtain ⟨hsm, hsz⟩ := rng5 (n := ls.length) hls5
        refine ⟨rg, 0, _, 2, (ls.length + 1) / 2, _, rfl, rfl, hsm, hsz, fun j l ℓ => ∃ (pages2 : List (List UInt8)) (lsA : List Ent) (us all2 : List Step) (s1 s5 s6 s7 : Sl), lsA.length = j ∧ Lvl pages2 (d + 1) lsA ∧ Lvl pages2 d ls ∧ (lsA.map (·.2.2)).flatten = ((ls.take (2 * j)).map (·.2.2)).flatten ∧ (∀ a ∈ lsA, ∀ b ∈ ls.drop (2 * j), ∀ x ∈ b.2.2, a.2.1 < x.1) ∧
          pages2.length = pages'.length + j ∧ (∀ x ∈ pages2, x.length = 64) ∧ stP us = lsA.map entP ∧ (∀ s ∈ ts, s ∈ all2) ∧ (∀ s ∈ us, s ∈ all2) ∧ Lo s1 ∧ Lo s5 ∧ Lo s6 ∧ Lo s7 ∧ Has ((am, O.list (stV us)) :: (sm, O.list (stV ts)) :: (c_rows, O.cell (.ref ro)) :: (so, O.list [.int p2, .int q2]) :: (st, O.inst 764 sd) :: (sd, O.ns [("page_size", .int 64), ("pages", .ref pl), ("spare", .ref sp)]) :: (pl, O.list ((pages2).map .bytes)) :: (ro, O.dict (dk m)) :: tpL all2) l ∧
          ℓ = ([("source", .loc (.ref so)), ("store", .loc (.ref st)), ("rows", .cel c_rows), ("keys", .loc (.ref ka)), ("raws", .loc (.ref rl)), ("some", .loc (.ref sm)), ("at", s1), ("end", s2), ("most", s3), ("above", .loc (.ref am)), ("pair", s5), ("cells", s6), ("right", s7), ("sorted", .glob (.bi "sorted")), ("len", .glob (.bi "len")), ("write_content", .glob (.ref 644)), ("Content", .glob (.ref 626)), ("min", .glob (.bi "min")), ("_law_take", .glob (.ref 838)), ("_law_page", .glob (.ref 845)), ("range", .glob (.ty "range")), ("_law_inner", .glob (.ref 850))] : Loc),
          inE8 pages' [] [] all _ _ _ _ ⟨rfl, Lvl.nil, hL, rfl, nofun, rfl, ho', rfl, hall, nofun, l1, l5, l6, l7, (show Has ((am, O.list []) :: (sm, O.list (stV ts)) :: (c_rows, O.cell (.ref ro)) :: (so, O.list [.int p2, .int q2]) :: (st, O.inst 764 sd) :: (sd, O.ns [("page_size", .int 64), ("pages", .ref pl), ("spare", .ref sp)]) :: (pl, O.list ((pages').map .bytes)) :: (ro, O.dict (dk m)) :: tpL all) _ from by wtm_at "hs"), rfl⟩, ?_, ?_⟩
        · clear hh l1 l5 l6 l7
          rintro J2 hJ2 f' j l ℓ hj; refine elE8 ?_; rintro pages2 lsA us all2 s1 s5 s6 s7; refine elA16 ?_; rintro rfl hA hL2 hfA hsepA hpl2 ho2 hus hall2 hus2 l1 l5 l6 l7 hh rfl
          refine Asg_has hh ?_
          have hj2 := ar_two hj
          have hA3 : lsA.length < 3 := Nat.lt_of_lt_of_le hj (Nat.div_le_div_right (Nat.succ_le_succ hls5))
          have hQ2 : 2 ≤ pages2.length := by rw [hpl2]; exact Nat.le_trans h2 (Nat.le_trans hpl0 (Nat.le_add_right _ _))
          have hQ3 : pages2.length ≤ 118 := by rw [hpl2]; exact Nat.add_le_add (Nat.le_trans (Nat.le_add_right _ _) (Nat.le_trans hpl (Nat.add_le_add_right hz 15))) (Nat.le_of_lt hA3)
          refine elX4_7 ?_ (pair_split hts (j := lsA.length) hj2); rintro g0 e pts0 a eg ep es hg1 htk hsub hls
          have hLg : Lvl pages2 d (g0 ++ [e]) := hL2.sub (by rw [hls]; exact (List.sublist_append_left _ _).trans (List.sublist_append_right _ _))
          have hE := hLg.all e (by simp)
          have hcut : cut (stV ts) (some ((0 : Int) + (lsA.length : Int) * 2)) (some ((0 : Int) + (lsA.length : Int) * 2 + 2)) = stV pts0 ++ [.ref a] := by
            rw [cut_two _ (by rw [stV_len, htl]; exact Nat.le_of_lt hj2)]
            unfold stV
            rw [← List.map_drop, ← List.map_take, ep, List.map_append]; rfl
          have hpl0' : pts0.length = g0.length := by have := congrArg List.length es; rw [stP_len, List.length_map] at this; exact this
          have hatm : (a, O.tup [.int e.1, .int e.2.1]) ∈ tpL all2 := tpL_has (s := (a, e.1, e.2.1)) (hall2 _ (hsub _ (by simp)))
          have hpd : (stV pts0 ++ [V.ref a]).length ≤ 10000 := by rw [List.length_append, stV_len, hpl0']; exact Nat.le_trans (Nat.add_le_add_right hg1 1) (by decide)
          wtm_at "r"
          intro c
          wtm_at "r"
          intro dd
          refine (Eq.symm (hcut)) ▸ ?_
          wtm_at "r"
          have hpb : ∀ s ∈ pts0, 0 ≤ s.2.1 ∧ s.2.1 < 256 ∧ 0 ≤ s.2.2 ∧ s.2.2 < 256 := fun s hs' => by
            have h1 : s.2 ∈ stP pts0 := List.mem_map_of_mem hs'
            rw [es] at h1
            obtain ⟨b, hb', eb⟩ := List.mem_map.mp h1
            have B := hLg.all b (by simp [hb'])
            rw [← eb]
            refine ⟨?_, B.2.2.2.1, B.2.2.2.2.1, ?_⟩
            · show 0 ≤ b.1; omega
            · show b.2.1 < 256; omega
          refine CallV_k (sp_law_inner (pts := pts0) (ts := all2) (r := e.1) (m := e.2.1) (a := a) (by rw [hpl0']; exact Nat.le_trans hg1 (by decide)) hpb (fun s hs' => hall2 _ (hsub _ hs'))) (by wtm_at "one") (by wtm_at "hr") (E_2_0 ?_)
          rintro tq rl2
          refine ⟨_, by wtm_at "app", ?_⟩
          have hbs : (pts0.map fun s => innerRaw s.2) = g0.map fun b => innerRaw (entP b) := by
            have := congrArg (List.map innerRaw) es
            unfold stP at this
            rw [List.map_map, List.map_map] at this; exact this
          rw [hbs]
          obtain ⟨X, hX⟩ : ∃ X, X = pageB (hdOf 5 (g0.map fun b => innerRaw (entP b)).length e.1) (g0.map fun b => innerRaw (entP b)) := ⟨_, rfl⟩
          obtain ⟨t1, t2⟩ := inner_turn hLg (Nat.le_trans hg1 (by decide)) hQ2 (Nat.le_trans hQ3 (by decide)) hA (fun a' ha' b hb' x hx => hsepA a' ha' b (List.mem_of_mem_take (eg ▸ hb')) x hx) hX
          have husl := stV_len us
          have hulen : us.length = lsA.length := by have := congrArg List.length hus; rw [stP_len, List.length_map] at this; exact this
          wtm_at "r"
          refine CallV_one (sp_law_page (pages := pages2) (bs := g0.map fun b => innerRaw (entP b)) (.inr ⟨rfl, Int.le_trans (by decide) hE.2.2.1, hE.2.2.2.1⟩) (Nat.le_trans (by decide) hQ2) (Nat.le_trans hQ3 (by decide)) (fun b hb' => by obtain ⟨z, _, rfl⟩ := List.mem_map.mp hb'; rfl) (by rw [List.length_map]; exact Nat.le_trans hg1 (by decide)) ho2) (by wtm_at "one") (by wtm_at "sel") (by wtm_at "app") ?_
          refine (hX) ▸ ?_
          wtm_at "r"
          intro tp
          wtm_at "r"
          refine hJ2 <| inE8 (pages2 ++ [X]) (lsA ++ [((pages2.length : Int) + 1, e.2.1, ((g0 ++ [e]).map (·.2.2)).flatten)]) (us ++ [(tp, (pages2.length : Int) + 1, e.2.1)]) (all2 ++ [(tp, (pages2.length : Int) + 1, e.2.1)]) _ _ _ _ ⟨by simp, t2, hL2.ext pg_app, ?_, ?_, by rw [List.length_append, hpl2, Nat.add_assoc]; rfl, ?_, by rw [stP_push, hus, List.map_append]; rfl, fun s hs' => List.mem_append_left _ (hall2 s hs'), ?_, Lo.loc, Lo.loc, Lo.loc, Lo.loc, by rw [stV_push]; wtm_at "hs", rfl⟩
          · rw [htk, List.map_append, List.flatten_append, hfA, List.map_append (l₂ := g0 ++ [e]), List.flatten_append]
            simp
          · intro a' ha' b hb' x hx
            rcases List.mem_append.mp ha' with ha' | ha'
            · exact hsepA a' ha' b (drop_sub (Nat.mul_le_mul_left 2 (Nat.le_succ _)) hb') x hx
            · simp at ha'; subst ha'
              have h1 := hL2.pair
              rw [hls] at h1
              exact (List.pairwise_append.mp (List.pairwise_append.mp h1).2.1).2.2 e (by simp) b hb' x hx
          · intro z hz'
            rcases List.mem_append.mp hz' with hz' | hz'
            · exact ho2 z hz'
            · simp at hz'; subst hz'; exact t1
          · intro s hs'
            rcases List.mem_append.mp hs' with hs' | hs'
            · exact List.mem_append_left _ (hus2 s hs')
            · exact List.mem_append_right _ hs'
        · clear hh l1 l5 l6 l7
          rintro l ℓ; refine elE8 ?_; rintro pages2 lsA us all2 s1 s5 s6 s7; refine elA16 ?_; rintro hAl hA hL2 hfA hsepA hpl2 ho2 hus hall2 hus2 l1 l5 l6 l7 hh rfl
          refine Seq_next (Exs_has hh ?_)
          rw [List.take_of_length_le (by omega)] at hfA
          wtm_at "r"
          have hn3 : 2 < ls.length := by rw [hsl, htl] at h2l; exact Int.ofNat_lt.mp h2l
          exact ⟨(ls.length + 1) / 2, (ar_half hn3).1, hJ <| inE15 (d + 1) pages2 p2 q2 lsA us all2 am _ _ _ _ _ _ _ ⟨hAl.symm, hp2, by rw [hAl, Nat.add_assoc, Nat.add_comm 1]; exact Nat.le_trans (Nat.add_le_add_left (ar_half hn3).1 d) hd, hA, hfA.trans hf, (fun h => by rw [h] at hAl; simp at hAl; omega), by rw [hAl, hpl2, Nat.add_assoc]; exact Nat.le_trans (Nat.add_le_add_left (ar_half hn3).2 _) hpl, by rw [hpl2]; exact Nat.le_trans hpl0 (Nat.le_add_right _ _), ho2, hus, hus2, l1, l2, l3, Lo.loc, l5, l6, l7, by wtm_at "hs", rfl⟩⟩
      · wtm_at "r"
        exact hJ1 <| inE15 d pages' p2 q2 ls ts all sm _ _ _ _ _ _ _ ⟨hp2, hd, hL, hf, hne, hpl, hpl0, ho', hts, hall, l1, l2, l3, l4, l5, l6, l7, by wtm_at "hs", rfl⟩
    · wtm_at "r"
      exact hJ1 <| inE15 d pages' p' q' ls ts all sm _ _ _ _ _ _ _ ⟨hp', hd, hL, hf, hne, hpl, hpl0, ho', hts, hall, l1, l2, l3, l4, l5, l6, l7, by wtm_at "hs", rfl⟩
  clear hp' hL hf hne hl5 hpl ho' hts l1 l2 l3 hh
  clear pages' p' q' ls ts s1 s2 s3 sm l
  rintro l ℓ; refine elE15 ?_; rintro d pages' p' q' ls ts all sm s1 s2 s3 s4 s5 s6 s7; refine elA19 ?_; rintro hp' hd hL hf hne hpl hpl0 ho' hts hall l1 l2 l3 l4 l5 l6 l7 hh rfl
  rcases List.eq_nil_or_concat ls with e | ⟨g0, e, eg⟩
  · exact absurd e hne
  rw [List.concat_eq_append] at eg
  subst eg
  rw [List.map_append] at hts
  refine elX2_2 ?_ (stP_last (p := e.1) (i := e.2.1) hts); rintro pts0 a rfl es
  rw [stV_push] at hh
  refine Exs_has hh ?_
  have hE := hL.all e (by simp)
  have hgl : g0.length ≤ 4 := by rw [List.length_append] at hd; exact Nat.le_of_succ_le_succ (Nat.le_trans (Nat.le_add_left _ d) hd)
  have hpl0' : pts0.length = g0.length := by have := congrArg List.length es; rw [stP_len, List.length_map] at this; exact this
  have hpb : ∀ s ∈ pts0, 0 ≤ s.2.1 ∧ s.2.1 < 256 ∧ 0 ≤ s.2.2 ∧ s.2.2 < 256 := fun s hs' => by
    have h1 : s.2 ∈ stP pts0 := List.mem_map_of_mem hs'
    rw [es] at h1
    obtain ⟨b, hb', eb⟩ := List.mem_map.mp h1
    have B := hL.all b (by simp [hb'])
    rw [← eb]
    refine ⟨?_, B.2.2.2.1, B.2.2.2.2.1, ?_⟩
    · show 0 ≤ b.1; omega
    · show b.2.1 < 256; omega
  have hbs : (pts0.map fun s => innerRaw s.2) = g0.map fun b => innerRaw (entP b) := by
    have := congrArg (List.map innerRaw) es
    unfold stP at this
    rw [List.map_map, List.map_map] at this; exact this
  wtm_at "r"
  refine CallV_k (sp_law_inner (pts := pts0) (ts := all) (r := e.1) (m := e.2.1) (a := a) (by rw [hpl0']; exact Nat.le_trans hgl (by decide)) hpb hall) (by wtm_at "one") (by wtm_at "hr") (E_2_0 ?_)
  rintro tq rl2
  refine ⟨_, by wtm_at "app", ?_⟩
  refine (Eq.symm (hbs)) ▸ ?_
  wtm_at "r"
  refine CallV_use sp_Content (by wtm_at "one") (by wtm_at "sel") (E_2_0 ?_)
  rintro co cod
  refine ⟨_, by wtm_at "app", ?_⟩
  wtm_at "r"
  obtain ⟨X, hX⟩ : ∃ X, X = pageB (hdOf 5 (g0.map fun b => innerRaw (entP b)).length e.1) (g0.map fun b => innerRaw (entP b)) := ⟨_, rfl⟩
  have hI := inner_page hL hgl hX
  refine CallV_one (sp_write_content (pages := pages') (bs := g0.map fun b => innerRaw (entP b)) (.inr ⟨rfl, Int.le_trans (by decide) hE.2.2.1, hE.2.2.2.1⟩) (by decide) (Int.ofNat_le.mpr (Nat.le_trans h2 hpl0)) (Nat.le_trans (Nat.le_trans (Nat.le_add_right _ _) (Nat.le_trans hpl (Nat.add_le_add_right hz 15))) (by decide)) (fun b hb' => by obtain ⟨z, _, rfl⟩ := List.mem_map.mp hb'; rfl) (by rw [List.length_map]; exact hgl) ho') (by wtm_at "one") (by wtm_at "sel") (by wtm_at "app") ?_
  refine (hX) ▸ ?_
  wtm_at "r"
  refine hPo <| Done_nxt (by wtm_at "hs") (inE5 p' q' _ (d + 1) R ⟨rfl, hp', hR, hs, ⟨_, _, _, (hL.ext pg_other).inn (pg_set (by omega)) hI, hf.symm⟩, ?_, by simp; omega, ?_, set_ok ho' hI.nd.len, rfl⟩)
  · rw [List.length_append] at hd; exact Nat.le_trans (Nat.add_le_add_left (Nat.le_add_left 1 g0.length) d) hd
  · rw [List.length_set]; exact Nat.le_trans (Nat.le_add_right _ _) hpl
end

/-! the law's own list: the next row on one side -/
noncomputable def ov : Option Int → V
  | none => .none
  | some k => .int k
theorem dk_get {m : Rows} {i : Nat} {k : Int} {v : V} (h : (dk m)[i]? = some (k, v)) : ∃ x, m[i]? = some x ∧ x.1 = k := by
  unfold dk at h
  rw [List.getElem?_map] at h
  obtain ⟨x, hx, e⟩ := Option.map_eq_some_iff.mp h
  exact ⟨x, hx, (Prod.mk.inj e).1⟩
section
variable {u : U} {n : Nat} {f : Fm} {l : Led} {ℓ : Loc} {P : V → Led → Prop}
theorem Cmp_list_nilT {a b : Addr} {is : List Int} (ha : (a, O.list (is.map .int)) ∈ l) (hb : (b, O.list []) ∈ l) (h : P (.bool is.isEmpty) l) : CmpV u n f l ℓ .Eq (.ref a) (.ref b) P := Cmp_list_nil ha hb h
end
theorem filt_step {m : Rows} {c : Int → Bool} {i : Nat} {x : Int × Int} (h : m[i]? = some x) : ((m.take (i + 1)).map (·.1)).filter c = ((m.take i).map (·.1)).filter c ++ (if c x.1 then [x.1] else []) := by
  rw [List.take_add_one, h, List.map_append, List.filter_append]
  congr 1
  show List.filter c [x.1] = _
  rw [List.filter_cons, List.filter_nil]
section
variable {ro : Addr}
theorem sp_edge {m : Rows} {key side : Int} {also : Bool} {c : Int → Bool} (hm : m.length ≤ 20) (hside : side = 1 ∨ side = -1)
    (hc : ∀ x, c x = if side = 1 then (decide (key < x) || (decide (x = key) && also)) else (decide (x < key) || (decide (x = key) && also))) :
    Spec 2 (.ref 860) [.ref ro, .int key, .int side, .bool also] [(ro, O.dict (dk m))] fun v l => l = [(ro, O.dict (dk m))] ∧
      ((v = .none ∧ ∀ x ∈ m, c x.1 = false) ∨ ∃ k, v = .int k ∧ (∃ w, (k, w) ∈ m) ∧ c k = true ∧ ∀ x ∈ m, c x.1 = true → if side = 1 then k ≤ x.1 else x.1 ≤ k) := by
  refine Spec_defCR (ps := ["rows", "key", "side", "also"]) (by intro P; k_is) (by intro P; k_is) (reps4 (by intros; rfl)) (by intro P; kernel_rfl!) rfl (fun u f cl hcl FR hPo => ?_) (by rfl) (by rfl) (by rfl)
  obtain ⟨c_also, c_side, c_key, rfl⟩ := cl3 (x := "also") (y := "side") (z := "key") hcl
  refine Exs_as (l' := (c_also, O.cell (.bool also)) :: (c_side, O.cell (.int side)) :: (c_key, O.cell (.int key)) :: [(ro, O.dict (dk m))]) (ℓ' := [("rows", .loc (.ref ro)), ("key", .cel c_key), ("side", .cel c_side), ("also", .cel c_also), ("found", .unb), ("min", .glob (.bi "min")), ("max", .glob (.bi "max"))]) (by kernel_rfl!) (by kernel_rfl!) ?_
  clear hcl

  refine Exs_cons (Ex_AssignComp [("side", c_side), ("key", c_key), ("also", c_also)] [(".0", .unb), ("one", .unb), ("also", .cel c_also), ("key", .cel c_key), ("side", .cel c_side)] rfl (by intro p hp; simp only [List.mem_cons, List.not_mem_nil, or_false] at hp; rcases hp with rfl | rfl | rfl <;> wtm_at "lk") (by intro P; kernel_rfl!) (by intro P; kernel_rfl!) rfl (by rfl) (by rfl) (.inl (by wtm_at "lk")) ?_ (by intro _; rfl))
  wtm_at "r"
  refine CompV_dict (by wtm_at "pick") (by rw [dk_len]; lia) (fun i acc l ℓ => acc = (((m.take i).map (·.1)).filter c).map .int ∧ l = [(c_also, O.cell (.bool also)), (c_side, O.cell (.int side)), (c_key, O.cell (.int key))] ∧ ∃ s1, Lo s1 ∧ ℓ = ([(".0", .unb), ("one", s1), ("also", .cel c_also), ("key", .cel c_key), ("side", .cel c_side)] : Loc)) ⟨rfl, rfl, _, Lo.unb, rfl⟩ ?_ ?_
  · rintro f' i acc l ℓ k v hv; refine elA3 ?_; rintro rfl rfl; refine elX1_2 ?_; rintro s1 l1 rfl
    obtain ⟨x, hx, rfl⟩ := dk_get hv
    have hcx := hc x.1
    have hst := filt_step (c := c) hx
    have yes : c x.1 = true → (((m.take i).map (·.1)).filter c).map V.int ++ [.int x.1] = (((m.take (i + 1)).map (·.1)).filter c).map .int := fun h => by rw [hst, h]; simp
    have no : c x.1 = false → (((m.take i).map (·.1)).filter c).map V.int = (((m.take (i + 1)).map (·.1)).filter c).map .int := fun h => by rw [hst, h]; simp
    clear hst hv
    rcases hside with rfl | rfl <;> cases also <;> (repeat' (first | wtm_at "s" | (refine Br_dec (fun h => ?_) (fun h => ?_))))
    all_goals first
      | exact ⟨yes (by rw [hcx]; simp; lia), rfl, _, Lo.loc, rfl⟩
      | exact ⟨no (by rw [hcx]; simp; lia), rfl, _, Lo.loc, rfl⟩
  rintro acc l' ℓ' ⟨rfl, rfl, -⟩ d
  refine ⟨_, by wtm_at "app", _, by wtm_at "put", ?_⟩
  rw [dk_len, List.take_of_length_le (Nat.le_refl _)]
  have hin : ∀ k, k ∈ (m.map (·.1)).filter c ↔ (∃ w, (k, w) ∈ m) ∧ c k = true := fun k => by
    rw [List.mem_filter, List.mem_map]
    constructor
    · rintro ⟨⟨x, hx, rfl⟩, h⟩; exact ⟨⟨x.2, hx⟩, h⟩
    · rintro ⟨⟨w, hw⟩, h⟩; exact ⟨⟨_, hw, rfl⟩, h⟩
  generalize (m.map (·.1)).filter c = is at *
  wtm_at "r"
  intro e
  wtm_at "r"
  refine Cmp_list_nilT (is := is) (by wtm_at "lk") (by wtm_at "lk") ?_
  cases is with
  | nil =>
    refine (Eq.symm (show ([] : List Int).isEmpty = true from rfl)) ▸ ?_
    wtm_at "r"
    refine hPo <| Done_has (by wtm_at "hs") ⟨rfl, .inl ⟨rfl, fun x hx => ?_⟩⟩
    cases h : c x.1 with
    | false => rfl
    | true => exact nomatch (hin x.1).mpr ⟨⟨x.2, hx⟩, h⟩
  | cons k0 is =>
    rw [show (k0 :: is).isEmpty = false from rfl]
    rcases hside with rfl | rfl
    · wtm_at "r"
      refine Call_min_list (is := k0 :: is) (by wtm_at "lk") (by simp) fun k hk hall => ?_
      wtm_at "r"
      refine hPo <| Done_has (by wtm_at "hs") ⟨rfl, .inr ⟨k, rfl, ((hin k).mp hk).1, ((hin k).mp hk).2, fun x hx h => ?_⟩⟩
      rw [if_pos rfl]
      exact hall _ ((hin x.1).mpr ⟨⟨x.2, hx⟩, h⟩)
    · wtm_at "r"
      refine Call_max_list (is := k0 :: is) (by wtm_at "lk") (by simp) fun k hk hall => ?_
      wtm_at "r"
      refine hPo <| Done_has (by wtm_at "hs") ⟨rfl, .inr ⟨k, rfl, ((hin k).mp hk).1, ((hin k).mp hk).2, fun x hx h => ?_⟩⟩
      rw [if_neg (by decide)]
      exact hall _ ((hin x.1).mpr ⟨⟨x.2, hx⟩, h⟩)
theorem edge_up {m : Rows} {key t : Int} {also : Bool} (hm : m.length ≤ 20) (ht : t = if also then key else key + 1) :
    Spec 2 (.ref 860) [.ref ro, .int key, .int 1, .bool also] [(ro, O.dict (dk m))] fun v l => l = [(ro, O.dict (dk m))] ∧ ∃ here, v = ov here ∧ IsGe m t here := by
  have hcut : ∀ x, (decide (key < x) || (decide (x = key) && also)) = true ↔ t ≤ x := fun x => by
    subst ht
    cases also <;> simp [Int.add_one_le_iff, ar_ord]
  refine (sp_edge (c := fun x => decide (key < x) || (decide (x = key) && also)) hm (.inl rfl) fun x => by rw [if_pos rfl]).mono ?_
  rintro v l ⟨e, ⟨rfl, h⟩ | ⟨k, rfl, hk, hc, h⟩⟩
  · refine ⟨e, none, rfl, fun x hx => ?_⟩
    have := h x hx
    have h2 := hcut x.1
    rw [this] at h2
    simp at h2; exact h2
  · refine ⟨e, some k, rfl, (hcut k).mp hc, hk, fun x hx ht' => ?_⟩
    have := h x hx ((hcut x.1).mpr ht')
    rw [if_pos rfl] at this; exact this
theorem edge_down {m : Rows} {key t : Int} {also : Bool} (hm : m.length ≤ 20) (ht : t = if also then key + 1 else key) :
    Spec 2 (.ref 860) [.ref ro, .int key, .int (-1), .bool also] [(ro, O.dict (dk m))] fun v l => l = [(ro, O.dict (dk m))] ∧ ∃ here, v = ov here ∧ IsLt m t here := by
  have hcut : ∀ x, (decide (x < key) || (decide (x = key) && also)) = true ↔ x < t := fun x => by
    subst ht
    cases also <;> simp <;> lia
  refine (sp_edge (c := fun x => decide (x < key) || (decide (x = key) && also)) hm (.inr rfl) fun x => by rw [if_neg (by decide)]).mono ?_
  rintro v l ⟨e, ⟨rfl, h⟩ | ⟨k, rfl, hk, hc, h⟩⟩
  · refine ⟨e, none, rfl, fun x hx => ?_⟩
    have := h x hx
    have h2 := hcut x.1
    rw [this] at h2
    simp at h2; exact h2
  · refine ⟨e, some k, rfl, (hcut k).mp hc, hk, fun x hx ht' => ?_⟩
    have := h x hx ((hcut x.1).mpr ht')
    rw [if_neg (by decide)] at this; exact this
end

/-! what the law asks of the cursor -/
section
variable {u : U} {n : Nat} {f : Fm} {l : Led} {ℓ : Loc} {P : V → Led → Prop}
theorem Un_not_bool {b : Bool} (h : P (.bool (!b)) l) : UnV u n f l ℓ .Not (.bool b) P := by
  rintro x ⟨t, rfl⟩
  exact .of fun hu hf s r => not_of (wpAny_pure ⟨l, ℓ, r, .refl s, .bool (!b), ⟨0, rfl⟩, rfl, h⟩)
end
local macro_rules | `(tactic| wtm_at "s") => tTab "Un_not_bool _"
theorem on_dk {R m : Rows} (h : R.Perm m) (k : Int) : On R (some k) = (dAt (dk m) k).isSome := by
  cases e : dAt (dk m) k with
  | none =>
    have := dk_none.mp e
    cases ho : On R (some k) with
    | false => rfl
    | true =>
      obtain ⟨v, hv⟩ := on_iff.mp ho
      exact absurd (h.mem_iff.mp hv) (this v)
  | some x =>
    have : ¬ ∀ v, (k, v) ∉ m := fun hn => by rw [dk_none.mpr hn] at e; cases e
    have ho : On R (some k) = true := by
      refine on_iff.mpr ?_
      apply Classical.byContradiction
      intro hn
      exact this fun v hv => hn ⟨v, h.mem_iff.mpr hv⟩
    rw [ho]; rfl
section
variable {tr td ch st sd pl sp : Addr} {kvs : List (Int × V)} {pages : List (List UInt8)} {cu cd ro : Addr} {R m : Rows} {D : Nat} {N : Int}
theorem sp_stands {here : Option Int} {l : Led} (h : CurA cu cd tr td ch st sd pl sp kvs pages R D N here l) (w : Wd kvs pages R D N) (hR : R.Perm m) (nd : (m.map (·.1)).Nodup) :
    Spec 13 (.ref 867) [.ref cu, .ref ro, ov here] ((ro, O.dict (dk m)) :: l) fun v l' => v = .bool true ∧ ∃ cl, l' = ((ro, O.dict (dk m)) :: cl) ∧ CurF cu cd tr td ch st sd pl sp kvs pages R D N here cl := by
  refine elA2 ?_ h.mem; rintro h1; refine elE6 ?_; rintro ph state key cell oct stamp h2
  cases here with
  | none =>
    refine Spec_defR (ps := ["cursor", "rows", "here"]) (ℓ₀ := [("cursor", .loc (.ref cu)), ("rows", .loc (.ref ro)), ("here", .loc (.none))]) (by intro P; k_is) (by intro P; k_is) (reps3 (by intros; rfl)) (by intro P; kernel_rfl!) (by intro P; kernel_rfl!) (fun u f FR hPo => ?_) (by rfl) (by rfl) (by rfl)

    wtm_at "r"
    refine CallV_k (sp_valid h w) (by wtm_at "one") (by wtm_at "hr") ?_
    rintro _ l' ⟨rfl, hF⟩
    refine ⟨_, by wtm_at "app", ?_⟩
    wtm_at "r"
    exact hPo <| Done_has (Has.refl _) ⟨rfl, l', rfl, hF⟩
  | some k =>
    have hod := on_dk hR k
    cases ho : On R (some k) with
    | false =>
      rw [ho] at hod
      refine Spec_defR (ps := ["cursor", "rows", "here"]) (ℓ₀ := [("cursor", .loc (.ref cu)), ("rows", .loc (.ref ro)), ("here", .loc (.int k))]) (by intro P; k_is) (by intro P; k_is) (reps3 (by intros; rfl)) (by intro P; kernel_rfl!) (by intro P; kernel_rfl!) (fun u f FR hPo => ?_) (by rfl) (by rfl) (by rfl)

      wtm_at "r"
      refine (hod) ▸ ?_
      wtm_at "r"
      refine CallV_k (sp_valid h w) (by wtm_at "one") (by wtm_at "hr") ?_
      rintro _ l' ⟨rfl, hF⟩
      refine ⟨_, by wtm_at "app", ?_⟩
      refine (Eq.symm (ho)) ▸ ?_
      wtm_at "r"
      exact hPo <| Done_has (Has.refl _) ⟨rfl, l', rfl, hF⟩
    | true =>
      rw [ho] at hod
      refine Spec_defR (ps := ["cursor", "rows", "here"]) (ℓ₀ := [("cursor", .loc (.ref cu)), ("rows", .loc (.ref ro)), ("here", .loc (.int k))]) (by intro P; k_is) (by intro P; k_is) (reps3 (by intros; rfl)) (by intro P; kernel_rfl!) (by intro P; kernel_rfl!) (fun u f FR hPo => ?_) (by rfl) (by rfl) (by rfl)

      wtm_at "r"
      refine (hod) ▸ ?_
      wtm_at "r"
      refine CallV_k (sp_valid h w) (by wtm_at "one") (by wtm_at "hr") ?_
      rintro _ l1 ⟨rfl, hF⟩
      refine ⟨_, by wtm_at "app", ?_⟩
      rw [ho]
      clear h1 h2
      refine elA2 ?_ (CurA.mem (.fresh hF)); rintro h1; refine elE6 ?_; rintro ph state key cell oct stamp h2
      wtm_at "r"
      refine CallV_k (sp_rowid_cur (.fresh hF) w ho) (by wtm_at "one") (by wtm_at "hr") ?_
      rintro _ l2 ⟨⟨k', e, rfl⟩, hF⟩
      cases e
      refine ⟨_, by wtm_at "app", ?_⟩
      clear h1 h2
      refine elA2 ?_ (CurA.mem (.fresh hF)); rintro h1; refine elE6 ?_; rintro ph state key cell oct stamp h2
      wtm_at "r"
      refine CallV_k (sp_value0 (.fresh hF) w ho) (by wtm_at "one") (by wtm_at "hr") ?_
      rintro _ l3 ⟨⟨k', x, e, hx, rfl⟩, hF⟩
      cases e
      refine ⟨_, by wtm_at "app", ?_⟩
      clear h1 h2
      refine elA2 ?_ (CurA.mem (.fresh hF)); rintro h1; refine elE6 ?_; rintro ph state key cell oct stamp h2
      have hxm : (k, x) ∈ m := hR.mem_iff.mp hx
      wtm_at "r"
      refine CallV_k (sp_value1 (.fresh hF) w ho) (by wtm_at "one") (by wtm_at "hr") ?_
      rintro _ l4 ⟨rfl, hF⟩
      refine ⟨_, by wtm_at "app", ?_⟩
      wtm_at "r"
      exact hPo <| Done_has (Has.refl _) ⟨rfl, l4, rfl, hF⟩
end

section
variable {tr td ch st sd pl sp : Addr} {kvs : List (Int × V)} {pages : List (List UInt8)} {cu cd ro : Addr} {R m : Rows} {D : Nat} {N : Int}
theorem sg_three (k key : Int) : (sg k key = -1 ∧ k < key) ∨ (sg k key = 0 ∧ k = key) ∨ (sg k key = 1 ∧ key < k) := by
  unfold sg
  split
  · exact .inl ⟨rfl, ‹_›⟩
  · split
    · exact .inr (.inl ⟨rfl, ‹_›⟩)
    · exact .inr (.inr ⟨rfl, by lia⟩)
theorem sg_b2i (k key : Int) : b2i (decide (key < k)) - b2i (decide (k < key)) = sg k key := by
  unfold sg b2i
  by_cases h1 : k < key
  · have h2 : ¬ key < k := by lia
    simp [h1, h2]
  · by_cases h2 : k = key
    · subst h2; simp
    · have h3 : key < k := by lia
      simp [h1, h2, h3]
theorem sp_sought {here : Option Int} {l : Led} {key : Int} (h : CurA cu cd tr td ch st sd pl sp kvs pages R D N here l) (w : Wd kvs pages R D N) (hR : R.Perm m) :
    Spec 13 (.ref 874) [.ref cu, .ref ro, .int key] ((ro, O.dict (dk m)) :: l) fun v l' => ∃ here' cl, v = ov here' ∧ (∀ k, here' = some k → On R (some k) = true) ∧ l' = ((ro, O.dict (dk m)) :: cl) ∧ CurF cu cd tr td ch st sd pl sp kvs pages R D N here' cl := by
  refine elA2 ?_ h.mem; rintro h1; refine elE6 ?_; rintro ph state kk cell oct stamp h2
  refine Spec_defR (ps := ["cursor", "rows", "key"]) (ℓ₀ := [("cursor", .loc (.ref cu)), ("rows", .loc (.ref ro)), ("key", .loc (.int key)), ("told", .unb), ("here", .unb), ("right", .unb)]) (by intro P; k_is) (by intro P; k_is) (reps3 (by intros; rfl)) (by intro P; kernel_rfl!) (by intro P; kernel_rfl!) (fun u f FR hPo => ?_) (by rfl) (by rfl) (by rfl)

  wtm_at "r"
  refine CallV_k (sp_seek h w) (by wtm_at "one") (by wtm_at "hr") ?_
  rintro v l1 ⟨here', hS, hF⟩
  refine ⟨_, by wtm_at "app", ?_⟩
  clear h1 h2
  refine elA2 ?_ (CurA.mem (.fresh hF)); rintro h1; refine elE6 ?_; rintro ph state kk cell oct stamp h2
  rcases hS with ⟨rfl, rfl, rfl⟩ | ⟨k, rfl, hon, hne, rfl, hkk⟩
  · have hm : m = [] := List.Perm.nil_eq hR ▸ rfl
    subst hm
    wtm_at "r"
    intro e
    wtm_at "r"
    refine Cmp_eq_dict (kvs := dk []) (by wtm_at "lk") (by wtm_at "lk") ?_
    refine (Eq.symm (show (dk []).isEmpty = true from rfl)) ▸ ?_
    wtm_at "r"
    exact hPo <| Done_has (by wtm_at "hs") ⟨none, l1, rfl, nofun, rfl, hF⟩
  · have hod := on_dk hR k
    rw [hon] at hod
    have hem : (dk m).isEmpty = false := by
      cases m with
      | nil => exact absurd (List.Perm.eq_nil hR) hne
      | cons => rfl
    have hkey : (dAt (dk m) key).isSome = decide (k = key) := by
      rw [← on_dk hR key]
      by_cases e : k = key
      · rw [decide_eq_true e, hkk.mp e]
      · rw [decide_eq_false e]
        cases ho : On R (some key) with
        | false => rfl
        | true => exact absurd (hkk.mpr ho) e
    wtm_at "r"
    intro e
    wtm_at "r"
    refine Cmp_eq_dict (kvs := dk m) (by wtm_at "lk") (by wtm_at "lk") ?_
    refine (Eq.symm (hem)) ▸ ?_
    wtm_at "r"
    intro t
    wtm_at "r"
    have hcmp : (decide (sg k key = 0) == (dAt (dk m) key).isSome) = true := by
      rw [hkey]
      rcases sg_three k key with ⟨hs, hlt⟩ | ⟨hs, hlt⟩ | ⟨hs, hlt⟩
      · rw [hs, decide_eq_false (by decide), decide_eq_false (by lia)]; rfl
      · rw [hs, decide_eq_true rfl, decide_eq_true hlt]; rfl
      · rw [hs, decide_eq_false (by decide), decide_eq_false (by lia)]; rfl
    have hs3 : sg k key = -1 ∨ sg k key = 0 ∨ sg k key = 1 := by
      rcases sg_three k key with ⟨hs, _⟩ | ⟨hs, _⟩ | ⟨hs, _⟩ <;> lia
    rcases hs3 with hs | hs | hs
    all_goals
      wtm_at "r"
      refine (Eq.symm (hcmp)) ▸ ?_
      wtm_at "r"
      refine CallV_k (sp_valid (.fresh hF) w) (by wtm_at "one") (by wtm_at "hr") ?_
      rintro _ l2 ⟨rfl, hF⟩
      refine ⟨_, by wtm_at "app", ?_⟩
      rw [hon]
      clear h1 h2
      refine elA2 ?_ (CurA.mem (.fresh hF)); rintro h1; refine elE6 ?_; rintro ph state kk cell oct stamp h2
      wtm_at "r"
      refine CallV_k (sp_rowid_cur (.fresh hF) w hon) (by wtm_at "one") (by wtm_at "hr") ?_
      rintro _ l3 ⟨⟨k', e', rfl⟩, hF⟩
      cases e'
      refine ⟨_, by wtm_at "app", ?_⟩
      clear h1 h2
      refine elA2 ?_ (CurA.mem (.fresh hF)); rintro h1; refine elE6 ?_; rintro ph state kk cell oct stamp h2
      wtm_at "r"
      refine (hod) ▸ ?_
      wtm_at "r"
      rw [sg_b2i]
      wtm_at "r"
      refine CallV_k (sp_key_compare (.fresh hF) w hon) (by wtm_at "one") (by wtm_at "hr") ?_
      rintro _ l4 ⟨⟨k', e', rfl⟩, hF⟩
      cases e'
      refine ⟨_, by wtm_at "app", ?_⟩
      wtm_at "r"
      exact hPo <| Done_has (by wtm_at "hs") ⟨some k, l4, rfl, fun _ e => by cases e; exact hon, rfl, hF⟩
end

/-! the rows, changed -/
noncomputable def rput (m : Rows) (k v : Int) : Rows := if m.any (fun q => decide (q.1 = k)) then m.map (fun q => if q.1 = k then (q.1, v) else q) else m ++ [(k, v)]
noncomputable def rdel (m : Rows) (k : Int) : Rows := m.filter fun q => decide (q.1 ≠ k)
theorem dPut_dk (m : Rows) (k v : Int) : dPut (dk m) k (.int v) = dk (rput m k v) := by
  unfold dPut rput dk
  rw [List.any_map]
  show (if m.any (fun q => decide (q.1 = k)) then _ else _) = _
  split
  · rw [List.map_map, List.map_map]
    apply List.map_congr_left
    intro q _
    show (if q.1 = k then (q.1, V.int v) else (q.1, V.int q.2)) = _
    simp only [Function.comp]
    split <;> rfl
  · rw [List.map_append]; rfl
theorem dDel_dk (m : Rows) (k : Int) : dDel (dk m) k = dk (rdel m k) := by
  unfold dDel rdel dk
  rw [List.filter_map]; rfl
theorem dk_any (m : Rows) (k : Int) : (dAt (dk m) k).isSome = m.any fun q => decide (q.1 = k) := by
  rw [Bool.eq_iff_iff, List.any_eq_true]
  constructor
  · intro h
    apply Classical.byContradiction
    intro hn
    rw [dk_none.mpr fun v hv => hn ⟨_, hv, by simp⟩] at h
    cases h
  · rintro ⟨q, hq, e⟩
    simp at e
    cases hd : dAt (dk m) k with
    | some _ => rfl
    | none => exact absurd hq (by rw [← e] at hd; exact dk_none.mp hd q.2)
structure Good (m : Rows) : Prop where
  nd : (m.map (·.1)).Nodup
  bnd : ∀ x ∈ m, 0 ≤ x.1 ∧ x.1 < 100 ∧ 0 ≤ x.2 ∧ x.2 < 128
theorem Good.put {m : Rows} {k v : Int} (h : Good m) (hk : 0 ≤ k ∧ k < 100) (hv : 0 ≤ v ∧ v < 128) : Good (rput m k v) := by
  unfold rput
  split
  · refine ⟨?_, fun x hx => ?_⟩
    · rw [List.map_map]
      have : (fun q : Int × Int => q.1) ∘ (fun q => if q.1 = k then (q.1, v) else q) = fun q => q.1 := by
        funext q
        show (if q.1 = k then (q.1, v) else q).1 = q.1
        split <;> rfl
      rw [this]; exact h.nd
    · obtain ⟨q, hq, rfl⟩ := List.mem_map.mp hx
      have := h.bnd q hq
      split
      · exact ⟨this.1, this.2.1, hv.1, hv.2⟩
      · exact this
  · rename_i hn
    refine ⟨?_, fun x hx => ?_⟩
    · rw [List.map_append]
      refine List.nodup_append.mpr ⟨h.nd, by simp, fun a ha b hb e => ?_⟩
      simp at hb
      obtain ⟨q, hq, e'⟩ := List.mem_map.mp ha
      exact hn (List.any_eq_true.mpr ⟨q, hq, by simp; rw [e', e, hb]⟩)
    · rcases List.mem_append.mp hx with hx | hx
      · exact h.bnd x hx
      · simp at hx; subst hx; exact ⟨hk.1, hk.2, hv.1, hv.2⟩
theorem rput_len (m : Rows) (k v : Int) : (rput m k v).length ≤ m.length + 1 := by
  unfold rput; split <;> simp
theorem rput_old {m : Rows} {k v : Int} (h : m.any (fun q => decide (q.1 = k)) = true) : (rput m k v).length = m.length := by
  unfold rput; rw [if_pos h, List.length_map]
theorem Good.del {m : Rows} {k : Int} (h : Good m) : Good (rdel m k) := by
  refine ⟨?_, fun x hx => h.bnd x (List.mem_filter.mp hx).1⟩
  exact h.nd.sublist ((List.filter_sublist (l := m)).map _)
theorem rdel_len (m : Rows) (k : Int) : (rdel m k).length ≤ m.length := List.length_filter_le _ _
section
variable {u : U} {n : Nat} {f : Fm} {l : Led} {ℓ : Loc} {P : V → Led → Prop} {i : Int}
theorem Put_dk {a : Addr} {m : Rows} {v : Int} {l' : Led} {R : Led → Prop} (t : Turn a (.dict (dk m)) (.dict (dk (rput m i v))) l l') (hz : m.length ≤ 1000) (h : R l') : PutV u n f l ℓ (.ref a) (.int i) (.int v) R :=
  Put_dict (kvs := dk m) (by rw [dk_len]; lia) (by rw [dPut_dk]; exact t) h
theorem Call_dpopT {a : Addr} {m : Rows} {l' : Led} (t : Turn a (.dict (dk m)) (.dict (dk (rdel m i))) l l') (hz : m.length ≤ 1000) (hv : (dAt (dk m) i).isSome = true) (h : ∀ v, P v l') : CallV u n f l ℓ (.bi "dict.pop") [.ref a, .int i] P := by
  obtain ⟨v, hv⟩ := Option.isSome_iff_exists.mp hv
  exact Call_dpop (kvs := dk m) (by rw [dk_len]; lia) hv (by rw [dDel_dk]; exact t) (h v)
theorem Call_len_dk {a : Addr} {m : Rows} (ha : (a, O.dict (dk m)) ∈ l) (hz : m.length ≤ 1000) (h : P (.int m.length) l) : CallV u n f l ℓ (.bi "len") [.ref a] P :=
  Call_len_dict ha (by rw [dk_len]; lia) (by rw [dk_len]; exact h)
theorem Call_dictT {a : Addr} {kvs : List (Int × V)} (ha : (a, O.dict kvs) ∈ l) (hz : kvs.length ≤ 10000) (h : ∀ d, P (.ref d) ((d, .dict kvs) :: l)) : CallV u n f l ℓ (.ty "dict") [.ref a] P := Call_dict ha hz h
end
local macro_rules | `(tactic| wtm_at "s") => tTab "PutV 9: Put_dk turn sz _ / Call_len_dk lk sz _"
section
variable {so ro : Addr}
theorem sp_changed {p q : Int} {m : Rows} {here : Option Int} (hp : Pool p q) (g : Good m) (hm : m.length ≤ 5) (hh : ∀ k, here = some k → 0 ≤ k ∧ k < 100) :
    Spec 3 (.ref 888) [.ref so, .ref ro, ov here] [(so, O.list [.int p, .int q]), (ro, O.dict (dk m))] fun v l => ∃ d p' q' m', v = .ref d ∧ Pool p' q' ∧ Good m' ∧ m'.length ≤ 5 ∧ l = [(so, O.list [.int p', .int q']), (d, O.dict (dk m'))] := by
  refine Spec_defR (ps := ["source", "rows", "here"]) (ℓ₀ := [("source", .loc (.ref so)), ("rows", .loc (.ref ro)), ("here", .loc (ov here)), ("found", .unb), ("key", .unb), ("dict", .glob (.ty "dict")), ("_law_take", .glob (.ref 838)), ("len", .glob (.bi "len"))]) (by intro P; k_is) (by intro P; k_is) (reps3 (by intros; rfl)) (by intro P; kernel_rfl!) (by intro P; kernel_rfl!) (fun u f FR hPo => ?_) (by rfl) (by rfl) (by rfl)

  have hdl := dk_len m
  wtm_at "s"
  wtm_at "q"
  refine Call_dictT (by wtm_at "lk") (by lia) fun d => ?_
  wtm_at "q"
  wtm_at "s"
  wtm_at "q"
  refine CallV_use (sp_take hp (by decide) (by decide)) (by wtm_at "one") (by wtm_at "sel") (E_3_3 ?_)
  rintro k0 p1 q1 hk0 hk1 hp1
  refine ⟨_, by wtm_at "app", ?_⟩
  wtm_at "q"
  refine Exs_cons (Ex_cutO (fun l ℓ => ∃ k p2 q2, 0 ≤ k ∧ k < 100 ∧ Pool p2 q2 ∧ Has [(so, O.list [.int p2, .int q2]), (d, O.dict (dk m))] l ∧ ℓ = ([("source", .loc (.ref so)), ("rows", .loc (.ref ro)), ("here", .loc (ov here)), ("found", .loc (.ref d)), ("key", .loc (.int k)), ("dict", .glob (.ty "dict")), ("_law_take", .glob (.ref 838)), ("len", .glob (.bi "len"))] : Loc)) ?_ ?_)
  · intro J hJ; cases here with
    | none =>
      unfold ov
      wtm_at "r"
      exact hJ <| inE3 k0 p1 q1 ⟨hk0, by lia, hp1, by wtm_at "hs", rfl⟩
    | some kh =>
      have hb := hh kh rfl
      unfold ov
      wtm_at "r"
      refine CallV_use (sp_take hp1 (by decide) (by decide)) (by wtm_at "one") (by wtm_at "sel") (E_3_3 ?_)
      rintro r0 p2 q2 hr0 hr1 hp2
      refine ⟨_, by wtm_at "app", ?_⟩
      wtm_at "r"
      refine Br_dec (fun h => ?_) (fun h => ?_)
      · wtm_at "r"
        exact hJ <| inE3 kh p2 q2 ⟨hb.1, hb.2, hp2, by wtm_at "hs", rfl⟩
      · wtm_at "r"
        exact hJ <| inE3 k0 p2 q2 ⟨hk0, by lia, hp2, by wtm_at "hs", rfl⟩
  rintro l ℓ; refine elX3_5 ?_; rintro k p2 q2 hk0 hk1 hp2 hh2 rfl
  refine Exs_has hh2 ?_
  clear hh2
  have hany := dk_any m k
  have put : ∀ (p3 q3 : Int), True := fun _ _ => trivial
  wtm_at "r"
  cases hin : (dAt (dk m) k).isSome with
  | true =>
    rw [hin] at hany
    wtm_at "r"
    refine CallV_use (sp_take hp2 (by decide) (by decide)) (by wtm_at "one") (by wtm_at "sel") (E_3_3 ?_)
    rintro r0 p3 q3 hr0 hr1 hp3
    refine ⟨_, by wtm_at "app", ?_⟩
    wtm_at "r"
    refine Br_dec (fun h => ?_) (fun h => ?_)
    · wtm_at "r"
      refine Call_dpopT (by wtm_at "turn") (by lia) hin fun v => ?_
      wtm_at "r"
      exact hPo <| Done_has (by wtm_at "hs") (inE4 d p3 q3 _ ⟨rfl, hp3, g.del, by have := rdel_len m k; lia, rfl⟩)
    · wtm_at "r"
      refine (Eq.symm (hin)) ▸ ?_
      wtm_at "r"
      refine CallV_use (sp_take hp3 (by decide) (by decide)) (by wtm_at "one") (by wtm_at "sel") (E_3_3 ?_)
      rintro r1 p4 q4 hr10 hr11 hp4
      refine ⟨_, by wtm_at "app", ?_⟩
      wtm_at "r"
      exact hPo <| Done_has (by wtm_at "hs") (inE4 d p4 q4 _ ⟨rfl, hp4, g.put ⟨hk0, hk1⟩ (v := 2 + r1) ⟨by lia, by lia⟩, by rw [rput_old hany.symm]; exact hm, rfl⟩)
  | false =>
    wtm_at "r"
    refine (Eq.symm (hin)) ▸ ?_
    wtm_at "r"
    refine Br_dec (fun h => ?_) (fun h => ?_)
    · wtm_at "r"
      refine CallV_use (sp_take hp2 (by decide) (by decide)) (by wtm_at "one") (by wtm_at "sel") (E_3_3 ?_)
      rintro r1 p4 q4 hr10 hr11 hp4
      refine ⟨_, by wtm_at "app", ?_⟩
      wtm_at "r"
      exact hPo <| Done_has (by wtm_at "hs") (inE4 d p4 q4 _ ⟨rfl, hp4, g.put ⟨hk0, hk1⟩ (v := 2 + r1) ⟨by lia, by lia⟩, by have := rput_len m k (2 + r1); lia, rfl⟩)
    · wtm_at "r"
      exact hPo <| Done_has (by wtm_at "hs") (inE4 d p2 q2 m ⟨rfl, hp2, g, hm, rfl⟩)
end

/-! a move -/
theorem isGe_eq {R m : Rows} {t : Int} {a b : Option Int} (hR : R.Perm m) (ha : IsGe R t a) (hb : IsGe m t b) : a = b := by
  cases a with
  | none =>
    cases b with
    | none => rfl
    | some k =>
      obtain ⟨h1, ⟨v, hv⟩, _⟩ := hb
      have : k < t := ha (k, v) (hR.mem_iff.mpr hv)
      lia
  | some j =>
    obtain ⟨h1, ⟨v, hv⟩, h2⟩ := ha
    cases b with
    | none =>
      have : j < t := hb (j, v) (hR.mem_iff.mp hv)
      lia
    | some k =>
      obtain ⟨g1, ⟨x, hx⟩, g2⟩ := hb
      have e1 : j ≤ k := h2 (k, x) (hR.mem_iff.mpr hx) g1
      have e2 : k ≤ j := g2 (j, v) (hR.mem_iff.mp hv) h1
      rw [show j = k by lia]
theorem isLt_eq {R m : Rows} {t : Int} {a b : Option Int} (hR : R.Perm m) (ha : IsLt R t a) (hb : IsLt m t b) : a = b := by
  cases a with
  | none =>
    cases b with
    | none => rfl
    | some k =>
      obtain ⟨h1, ⟨v, hv⟩, _⟩ := hb
      have : t ≤ k := ha (k, v) (hR.mem_iff.mpr hv)
      lia
  | some j =>
    obtain ⟨h1, ⟨v, hv⟩, h2⟩ := ha
    cases b with
    | none =>
      have : t ≤ j := hb (j, v) (hR.mem_iff.mp hv)
      lia
    | some k =>
      obtain ⟨g1, ⟨x, hx⟩, g2⟩ := hb
      have e1 : k ≤ j := h2 (k, x) (hR.mem_iff.mpr hx) g1
      have e2 : j ≤ k := g2 (j, v) (hR.mem_iff.mp hv) h1
      rw [show j = k by lia]
theorem isGe_on {R : Rows} {t : Int} {a : Option Int} (h : IsGe R t a) : ∀ k, a = some k → On R (some k) = true := by
  rintro k rfl; exact on_iff.mpr h.2.1
theorem isLt_on {R : Rows} {t : Int} {a : Option Int} (h : IsLt R t a) : ∀ k, a = some k → On R (some k) = true := by
  rintro k rfl; exact on_iff.mpr h.2.1
section
variable {tr td ch st sd pl sp : Addr} {kvs : List (Int × V)} {pages : List (List UInt8)} {cu cd so ro : Addr} {R m : Rows} {D : Nat} {N : Int}
set_option maxHeartbeats 2000000 in
theorem sp_moved {p q : Int} {here : Option Int} {l : Led} (hp : Pool p q) (h : CurA cu cd tr td ch st sd pl sp kvs pages R D N here l) (w : Wd kvs pages R D N) (hR : R.Perm m) (g : Good m) (hm : m.length ≤ 5) :
    Spec 14 (.ref 881) [.ref so, .ref cu, .ref ro, ov here] ((so, O.list [.int p, .int q]) :: (ro, O.dict (dk m)) :: l) fun v l' => ∃ here' p' q' cl, v = ov here' ∧ Pool p' q' ∧ (∀ k, here' = some k → On R (some k) = true) ∧ l' = ((so, O.list [.int p', .int q']) :: (ro, O.dict (dk m)) :: cl) ∧ CurF cu cd tr td ch st sd pl sp kvs pages R D N here' cl := by
  refine elA2 ?_ h.mem; rintro h1; refine elE6 ?_; rintro ph state kk cell oct stamp h2
  have hRb : ∀ x ∈ R, 0 ≤ x.1 ∧ x.1 < 100 := fun x hx => by have := g.bnd x (hR.mem_iff.mp hx); lia
  refine Spec_defR (ps := ["source", "cursor", "rows", "here"]) (ℓ₀ := [("source", .loc (.ref so)), ("cursor", .loc (.ref cu)), ("rows", .loc (.ref ro)), ("here", .loc (ov here)), ("way", .unb), ("key", .unb), ("told", .unb), ("due", .unb), ("also", .unb), ("_law_take", .glob (.ref 838)), ("_law_sought", .glob (.ref 874)), ("_law_edge", .glob (.ref 860))]) (by intro P; k_is) (by intro P; k_is) (reps4 (by intros; rfl)) (by intro P; kernel_rfl!) (by intro P; kernel_rfl!) (fun u f FR hPo => ?_) (by rfl) (by rfl) (by rfl)

  wtm_at "r"
  refine CallV_use (sp_take hp (by decide) (by decide)) (by wtm_at "one") (by wtm_at "sel") (E_3_3 ?_)
  rintro way p1 q1 hw0 hw1 hp1
  refine ⟨_, by wtm_at "app", ?_⟩
  wtm_at "r"
  refine CallV_use (sp_take hp1 (by decide) (by decide)) (by wtm_at "one") (by wtm_at "sel") (E_3_3 ?_)
  rintro key p2 q2 hk0 hk1 hp2
  refine ⟨_, by wtm_at "app", ?_⟩
  wtm_at "r"
  refine Br_dec (fun hway => ?_) (fun hway => ?_)
  · wtm_at "r"
    refine CallV_k (sp_sought h w hR) (by wtm_at "one") (by wtm_at "hr") ?_
    rintro v l1; refine elX2_4 ?_; rintro here' cl rfl hon rfl hF
    refine ⟨_, by wtm_at "app", ?_⟩
    wtm_at "r"
    exact hPo <| Done_has (Has.refl _) (inE4 here' p2 q2 cl ⟨rfl, hp2, hon, rfl, hF⟩)
  wtm_at "s"
  refine Exs_cons (Ex_cutO (fun l ℓ => ∃ here' p' q' cl s1, Pool p' q' ∧ (∀ k, here' = some k → On R (some k) = true) ∧ Has ((so, O.list [.int p', .int q']) :: (ro, O.dict (dk m)) :: cl) l ∧ CurF cu cd tr td ch st sd pl sp kvs pages R D N here' cl ∧ Lo s1 ∧
    ℓ = ([("source", .loc (.ref so)), ("cursor", .loc (.ref cu)), ("rows", .loc (.ref ro)), ("here", .loc (ov here)), ("way", .loc (.int way)), ("key", .loc (.int key)), ("told", .loc (.bool here'.isSome)), ("due", .loc (ov here')), ("also", s1), ("_law_take", .glob (.ref 838)), ("_law_sought", .glob (.ref 874)), ("_law_edge", .glob (.ref 860))] : Loc)) ?_ ?_)
  · intro J hJ; wtm_at "q"
    refine Br_dec (fun hw4 => ?_) (fun hw4 => ?_)
    · cases here with
      | none =>
        refine (Eq.symm (show ov none = V.none from rfl)) ▸ ?_
        wtm_at "r"
        refine CallV_k (sp_next h w) (by wtm_at "one") (by wtm_at "hr") ?_
        rintro _ l1; refine elX1_3 ?_; rintro h' hT rfl hF
        obtain rfl : h' = none := hT
        refine ⟨_, by wtm_at "app", ?_⟩
        wtm_at "r"
        exact hJ <| inE5 none p2 q2 l1 _ ⟨hp2, nofun, by wtm_at "hs", hF, Lo.unb, rfl⟩
      | some k =>
        refine (Eq.symm (show ov (some k) = V.int k from rfl)) ▸ ?_
        wtm_at "r"
        refine CallV_k (sp_next h w) (by wtm_at "one") (by wtm_at "hr") ?_
        rintro _ l1; refine elX1_3 ?_; rintro h' hT rfl hF
        refine ⟨_, by wtm_at "app", ?_⟩
        wtm_at "r"
        refine CallV_use (edge_up (m := m) (also := false) (t := k + 1) (by lia) rfl) (by wtm_at "one") (by wtm_at "sel") ?_
        rintro _ _; refine elA2 ?_; rintro rfl ⟨h2', rfl, hG⟩
        obtain rfl := isGe_eq hR hT hG
        refine ⟨_, by wtm_at "app", ?_⟩
        wtm_at "r"
        exact hJ <| inE5 h' p2 q2 l1 _ ⟨hp2, isGe_on hT, by wtm_at "hs", hF, Lo.unb, rfl⟩
    wtm_at "r"
    refine Br_dec (fun hw6 => ?_) (fun hw6 => ?_)
    · cases here with
      | none =>
        refine (Eq.symm (show ov none = V.none from rfl)) ▸ ?_
        wtm_at "r"
        refine CallV_k (sp_previous h w) (by wtm_at "one") (by wtm_at "hr") ?_
        rintro _ l1; refine elX1_3 ?_; rintro h' hT rfl hF
        obtain rfl : h' = none := hT
        refine ⟨_, by wtm_at "app", ?_⟩
        wtm_at "r"
        exact hJ <| inE5 none p2 q2 l1 _ ⟨hp2, nofun, by wtm_at "hs", hF, Lo.unb, rfl⟩
      | some k =>
        refine (Eq.symm (show ov (some k) = V.int k from rfl)) ▸ ?_
        wtm_at "r"
        refine CallV_k (sp_previous h w) (by wtm_at "one") (by wtm_at "hr") ?_
        rintro _ l1; refine elX1_3 ?_; rintro h' hT rfl hF
        refine ⟨_, by wtm_at "app", ?_⟩
        wtm_at "r"
        refine CallV_use (edge_down (m := m) (also := false) (t := k) (by lia) rfl) (by wtm_at "one") (by wtm_at "sel") ?_
        rintro _ _; refine elA2 ?_; rintro rfl ⟨h2', rfl, hG⟩
        obtain rfl := isLt_eq hR hT hG
        refine ⟨_, by wtm_at "app", ?_⟩
        wtm_at "r"
        exact hJ <| inE5 h' p2 q2 l1 _ ⟨hp2, isLt_on hT, by wtm_at "hs", hF, Lo.unb, rfl⟩
    wtm_at "r"
    refine Br_dec (fun hw6 => ?_) (fun hw6 => ?_)
    · wtm_at "s"
      refine Ex_AssignDisp2 (.inl (by wtm_at "lk")) (.inl (by wtm_at "lk")) (by rfl) ?_ (by with_unfolding_all rfl) (by with_unfolding_all rfl) (by with_unfolding_all rfl) (by with_unfolding_all rfl) (by with_unfolding_all rfl)
      wtm_at "r"
      refine CallV_k (sp_first (t := 0) h w (fun x hx => (hRb x hx).1)) (by wtm_at "one") (by wtm_at "hr") ?_
      rintro _ l1; refine elX1_3 ?_; rintro h' hT rfl hF
      refine ⟨_, by wtm_at "app", ?_⟩
      wtm_at "r"
      refine CallV_use (edge_up (m := m) (also := false) (t := 0) (by lia) (by decide)) (by wtm_at "one") (by wtm_at "sel") ?_
      rintro _ _; refine elA2 ?_; rintro rfl ⟨h2', rfl, hG⟩
      obtain rfl := isGe_eq hR hT hG
      refine ⟨_, by wtm_at "app", ?_⟩
      wtm_at "r"
      intro t
      refine ⟨t, _, _, rfl, by wtm_at "lk", _, _, by wtm_at "put", by wtm_at "put", ?_⟩
      wtm_at "r"
      exact hJ <| inE5 h' p2 q2 l1 _ ⟨hp2, isGe_on hT, by wtm_at "hs", hF, Lo.unb, rfl⟩
    wtm_at "r"
    refine Br_dec (fun hw7 => ?_) (fun hw7 => ?_)
    · wtm_at "s"
      refine Ex_AssignDisp2 (.inl (by wtm_at "lk")) (.inl (by wtm_at "lk")) (by rfl) ?_ (by with_unfolding_all rfl) (by with_unfolding_all rfl) (by with_unfolding_all rfl) (by with_unfolding_all rfl) (by with_unfolding_all rfl)
      wtm_at "r"
      refine CallV_k (sp_last (t := 100) h w (fun x hx => (hRb x hx).2)) (by wtm_at "one") (by wtm_at "hr") ?_
      rintro _ l1; refine elX1_3 ?_; rintro h' hT rfl hF
      refine ⟨_, by wtm_at "app", ?_⟩
      wtm_at "r"
      refine CallV_use (edge_down (m := m) (also := false) (t := 100) (by lia) (by decide)) (by wtm_at "one") (by wtm_at "sel") ?_
      rintro _ _; refine elA2 ?_; rintro rfl ⟨h2', rfl, hG⟩
      obtain rfl := isLt_eq hR hT hG
      refine ⟨_, by wtm_at "app", ?_⟩
      wtm_at "r"
      intro t
      refine ⟨t, _, _, rfl, by wtm_at "lk", _, _, by wtm_at "put", by wtm_at "put", ?_⟩
      wtm_at "r"
      exact hJ <| inE5 h' p2 q2 l1 _ ⟨hp2, isLt_on hT, by wtm_at "hs", hF, Lo.unb, rfl⟩
    wtm_at "r"
    refine Br_dec (fun hw8 => ?_) (fun hw8 => ?_)
    · skip
      wtm_at "r"
      refine CallV_use (sp_take hp2 (by decide) (by decide)) (by wtm_at "one") (by wtm_at "sel") (E_3_3 ?_)
      rintro r0 p3 q3 hr0 hr1 hp3
      refine ⟨_, by wtm_at "app", ?_⟩
      wtm_at "r"
      refine Br_dec (fun hr => ?_) (fun hr => ?_)
      · wtm_at "r"
        refine CallV_k (sp_seek_ge h w) (by wtm_at "one") (by wtm_at "hr") ?_
        rintro _ l1; refine elX1_3 ?_; rintro h' hT rfl hF
        refine ⟨_, by wtm_at "app", ?_⟩
        wtm_at "r"
        refine CallV_use (edge_up (m := m) (also := decide (r0 = 0)) (t := key) (by lia) (by simp [hr])) (by wtm_at "one") (by wtm_at "sel") ?_
        rintro _ _; refine elA2 ?_; rintro rfl ⟨h2', rfl, hG⟩
        obtain rfl := isGe_eq hR hT hG
        refine ⟨_, by wtm_at "app", ?_⟩
        wtm_at "r"
        exact hJ <| inE5 h' p3 q3 l1 _ ⟨hp3, isGe_on hT, by wtm_at "hs", hF, Lo.loc, rfl⟩
      · wtm_at "r"
        refine CallV_k (sp_seek_gt h w) (by wtm_at "one") (by wtm_at "hr") ?_
        rintro _ l1; refine elX1_3 ?_; rintro h' hT rfl hF
        refine ⟨_, by wtm_at "app", ?_⟩
        wtm_at "r"
        refine CallV_use (edge_up (m := m) (also := decide (r0 = 0)) (t := key + 1) (by lia) (by simp [hr])) (by wtm_at "one") (by wtm_at "sel") ?_
        rintro _ _; refine elA2 ?_; rintro rfl ⟨h2', rfl, hG⟩
        obtain rfl := isGe_eq hR hT hG
        refine ⟨_, by wtm_at "app", ?_⟩
        wtm_at "r"
        exact hJ <| inE5 h' p3 q3 l1 _ ⟨hp3, isGe_on hT, by wtm_at "hs", hF, Lo.loc, rfl⟩
    · skip
      wtm_at "r"
      refine CallV_use (sp_take hp2 (by decide) (by decide)) (by wtm_at "one") (by wtm_at "sel") (E_3_3 ?_)
      rintro r0 p3 q3 hr0 hr1 hp3
      refine ⟨_, by wtm_at "app", ?_⟩
      wtm_at "r"
      refine Br_dec (fun hr => ?_) (fun hr => ?_)
      · wtm_at "r"
        refine CallV_k (sp_seek_le h w) (by wtm_at "one") (by wtm_at "hr") ?_
        rintro _ l1; refine elX1_3 ?_; rintro h' hT rfl hF
        refine ⟨_, by wtm_at "app", ?_⟩
        wtm_at "r"
        refine CallV_use (edge_down (m := m) (also := decide (r0 = 0)) (t := key + 1) (by lia) (by simp [hr])) (by wtm_at "one") (by wtm_at "sel") ?_
        rintro _ _; refine elA2 ?_; rintro rfl ⟨h2', rfl, hG⟩
        obtain rfl := isLt_eq hR hT hG
        refine ⟨_, by wtm_at "app", ?_⟩
        wtm_at "r"
        exact hJ <| inE5 h' p3 q3 l1 _ ⟨hp3, isLt_on hT, by wtm_at "hs", hF, Lo.loc, rfl⟩
      · wtm_at "r"
        refine CallV_k (sp_seek_lt h w) (by wtm_at "one") (by wtm_at "hr") ?_
        rintro _ l1; refine elX1_3 ?_; rintro h' hT rfl hF
        refine ⟨_, by wtm_at "app", ?_⟩
        wtm_at "r"
        refine CallV_use (edge_down (m := m) (also := decide (r0 = 0)) (t := key) (by lia) (by simp [hr])) (by wtm_at "one") (by wtm_at "sel") ?_
        rintro _ _; refine elA2 ?_; rintro rfl ⟨h2', rfl, hG⟩
        obtain rfl := isLt_eq hR hT hG
        refine ⟨_, by wtm_at "app", ?_⟩
        wtm_at "r"
        exact hJ <| inE5 h' p3 q3 l1 _ ⟨hp3, isLt_on hT, by wtm_at "hs", hF, Lo.loc, rfl⟩
  rintro l ℓ; refine elE5 ?_; rintro here' p' q' cl s1; refine elA6 ?_; rintro hp' hon hh hF l1 rfl
  refine Exs_has hh ?_
  cases here' with
  | none =>
    rw [show ov none = V.none from rfl, Option.isSome_none]
    wtm_at "r"
    refine ⟨fun _ => ?_, nofun⟩
    wtm_at "r"
    exact hPo <| Done_has (Has.refl _) (inE4 none p' q' cl ⟨rfl, hp', hon, rfl, hF⟩)
  | some k =>
    rw [show ov (some k) = V.int k from rfl, Option.isSome_some]
    wtm_at "r"
    refine ⟨fun _ => ?_, nofun⟩
    wtm_at "r"
    exact hPo <| Done_has (Has.refl _) (inE4 (some k) p' q' cl ⟨rfl, hp', hon, rfl, hF⟩)
end

/-! contracts over one world alone -/
theorem SpecU_defR {u : U} {k : Nat} {a : Addr} {args : List V} {pre : Led} {post : V → Led → Prop} {name qual : Str} {params : Arguments} {body : List Stmt} {scope : Scope} {dV kV doc pm cdv ct oc : Value} {an od : Option Addr} {osl : Array (Option Value)} {ps : List Str} {ℓ₀ : Loc}
    (ho : ∀ P, (hd.heap_39 P).lookup a = some ⟨oc, od, .func (fnOf name qual params body scope dV kV doc pm an cdv ct), osl⟩) (hcd : ∀ P, codeIn (hd.heap_39 P) cdv qual = true)
    (hbind : ∀ xs, Reps args xs → bindArgs (fnOf name qual params body scope dV kV doc pm an cdv ct) ⟨xs, []⟩ = pure (ps.zip xs))
    (ok : ∀ P, namesOkB (hd.heap_39 P) scope.names ps = true) (hℓ : ∀ P, initLoc (hd.heap_39 P) scope.names ps args = ℓ₀)
    (h : ∀ f (Q : Fl → Led → Loc → Prop), (∀ {r l ℓ}, Done post r l ℓ → Q r l ℓ) → Exs u k f pre ℓ₀ body Q)
    (hco : scope.isCoroutine = false) (hgen : scope.isGenerator = false) (hk : scope.kind = .function) : SpecU u (k + 1) (.ref a) args pre post :=
  SpecU_def ho hcd hbind ok hℓ (fun f => h f _ id) hco hgen hk
section
variable {u : U} {n : Nat} {f : Fm} {l : Led} {ℓ : Loc}
/-- a call; what it has no use for stands ahead of what it leaves -/
theorem CallV_hU {k : Nat} {fn : V} {args : List V} {pre : Led} {post : V → Led → Prop} {P : V → Led → Prop} (sp : SpecU u k fn args pre post) (hk : k ≤ n) (rest : Led) (h : Has (pre ++ rest) l)
    (q : ∀ v l', post v l' → P v (rest ++ l')) : CallV u n f l ℓ fn args P := by
  intro x xs rx rxs hu hf s r
  have r := r.has h
  refine elX1_3 ?_ r.fr; rintro m F _ _
  have kb : ∀ b o, u.base.get? b = some o → s.heap.get? b = some o := fun b o e => F.keep _ _ (hf.keep _ _ e)
  have nd := r.nodup
  rw [List.map_append] at nd
  refine wpX_call (codeX_mono (sp f.A s x xs hu (hf.room.le hk) rx rxs kb ⟨(List.nodup_append.mp nd).1, fun p hp => ?_⟩) ?_)
  · have q := r.led p (List.mem_append_left _ hp)
    refine ⟨q.1, ?_⟩
    cases hb : u.base.get? p.1 with
    | none => rfl
    | some ob => have := q.2.2; rw [hf.keep _ _ hb] at this; cases this
  · rintro (e | (y | _ | _ | _)) s' z <;> first | exact z.elim | skip
    refine elX2_3 ?_ z; clear z; rintro v l' rv hp a
    exact ⟨_, ℓ, (r.after a).perm List.perm_append_comm, a.same, v, rv, rfl, q v l' hp⟩
end
/-! a list of ints that stands in the world's base -/
noncomputable def Sta (u : U) (a : Addr) (ns : List Int) : Prop := ∃ xs, Reps (ns.map .int) xs ∧ u.base.IsList a xs.toArray
section
variable {u : U} {n : Nat} {f : Fm} {l : Led} {ℓ : Loc} {P : V → Led → Prop} {i : Int}
theorem Sta.at {s : Shared} {a : Addr} {ns : List Int} (h : Sta u a ns) (r : RS u f l ℓ s) (hf : f.Ok u n) : ∃ xs, Reps (ns.map .int) xs ∧ s.heap.IsList a xs.toArray := by
  refine elX1_2 ?_ h; clear h; rintro xs rx ⟨o, ho, z⟩
  refine elX1_3 ?_ r.fr; rintro _ F _ _
  exact ⟨xs, rx, o, F.keep _ _ (hf.keep _ _ ho), z⟩
theorem Itm_sta {a : Addr} {ns : List Int} {k : Int} (ha : Sta u a ns) (h0 : 0 ≤ i) (hi : i < 2 ^ 63) (hv : ns[i.toNat]? = some k) (h : P (.int k) l) : ItmV u n f l ℓ (.ref a) (.int i) P := by
  rintro x y value slice ⟨t, rfl⟩ ⟨t', rfl⟩ hs
  refine .of fun hu hf s r => ?_
  obtain ⟨xs, rx, hl⟩ := ha.at r hf
  obtain ⟨z, hz, rz⟩ := rx.get (i := i.toNat) (v := .int k) (by rw [List.getElem?_map, hv]; rfl)
  exact tail_any hl.typeIs slot_list_getitem.lookup (wpAny_getItem_list hl h0 hi (by simpa using hz) ⟨l, ℓ, r, .refl s, .int k, rz, rfl, h⟩) (hs _ _)
theorem Call_len_sta {a : Addr} {ns : List Int} (ha : Sta u a ns) (hz : ns.length ≤ 10000) (h : P (.int ns.length) l) : CallV u n f l ℓ (.bi "len") [.ref a] P := by
  rintro x xs ⟨tk, rfl⟩ rxs
  obtain ⟨_, rfl⟩ := one_arg rxs
  refine .of fun hu hf s r => ?_
  obtain ⟨ys, ry, hl⟩ := ha.at r hf
  have el := ry.length
  rw [List.length_map] at el
  refine len_list hl (by rw [List.size_toArray, ← el]; lia) ?_
  refine ⟨l, ℓ, r.toks, ⟨rfl, rfl, rfl⟩, .int ns.length, ?_, rfl, h⟩
  exact ⟨_, by rw [List.size_toArray, ← el]⟩
end
local macro_rules | `(tactic| wtm_at "s") => tTab "ItmV 8: Itm_sta as 'ar 'ar as _ / Call_len_sta as sz _"
theorem sp_poolU {u : U} {sc : Addr} {ns : List Int} (hs : Sta u sc ns) (hn : ns.length ≤ 63) : SpecU u 1 (.ref 831) [.ref sc] [] fun v l => ∃ so p q, v = .ref so ∧ Pool p q ∧ l = [(so, O.list [.int p, .int q])] := by
  refine SpecU_defR (ps := ["script"]) (ℓ₀ := [("script", .loc (.ref sc)), ("big", .unb), ("mixed", .unb), ("k", .unb), ("len", .glob (.bi "len")), ("range", .glob (.ty "range")), ("min", .glob (.bi "min"))]) (by intro P; k_is) (by intro P; k_is) (reps1 (by intros; rfl)) (by intro P; kernel_rfl!) (by intro P; kernel_rfl!) (fun f FR hPo => ?_) (by rfl) (by rfl) (by rfl)

  refine Exs_cons (Ex_cut (fun l ℓ => l = [] ∧ ∃ big, ℓ = ([("script", .loc (.ref sc)), ("big", .loc (.int big)), ("mixed", .unb), ("k", .unb), ("len", .glob (.bi "len")), ("range", .glob (.ty "range")), ("min", .glob (.bi "min"))] : Loc)) ?_ ?_)
  · wtm_at "r"
    refine Br_dec (fun h0 => ?_) (fun h0 => ?_)
    · obtain ⟨x, hx⟩ : ∃ x, ns[0]? = some x := ⟨_, List.getElem?_eq_getElem (by lia)⟩
      have hx' : ns[(0 : Int).toNat]? = some x := hx
      wtm_at "r"
      exact ⟨rfl, x, rfl⟩
    · wtm_at "r"
      exact ⟨rfl, 0, rfl⟩
  rintro l ℓ ⟨rfl, big, rfl⟩
  refine Exs_cons (Ex_cut (fun l ℓ => l = [] ∧ ∃ big, 0 ≤ big ∧ ℓ = ([("script", .loc (.ref sc)), ("big", .loc (.int big)), ("mixed", .unb), ("k", .unb), ("len", .glob (.bi "len")), ("range", .glob (.ty "range")), ("min", .glob (.bi "min"))] : Loc)) ?_ ?_)
  · wtm_at "r"
    refine Br_dec (fun h0 => ?_) (fun h0 => ?_)
    · wtm_at "r"
      exact ⟨rfl, _, by lia, rfl⟩
    · wtm_at "r"
      exact ⟨rfl, _, by lia, rfl⟩
  rintro l ℓ; refine elA2 ?_; rintro rfl ⟨big, hbig, rfl⟩
  wtm_at "r"
  obtain ⟨m0, e0, h0, h1⟩ : ∃ m0, big.fmod 2147483629 + 17 = m0 ∧ 0 ≤ m0 ∧ m0 < 2147483647 := by
    have := fm (i := big) (j := 2147483629) (by decide)
    exact ⟨_, rfl, Int.add_nonneg this.1 (by decide), Int.lt_trans (Int.add_lt_add_right this.2 17) (by decide)⟩
  refine (Eq.symm (e0)) ▸ ?_
  wtm_at "r"
  refine Ex_For_range ?_ (by intro _; rfl) (by intro _ _; rfl)
  wtm_at "r"
  intro rg
  obtain ⟨N, eN, hN1, hN2⟩ : ∃ N : Nat, min (ns.length : Int) 20 = (0 : Int) + N ∧ N ≤ ns.length ∧ N ≤ 20 := ⟨min ns.length 20, by rw [Int.zero_add]; exact ar_min ns.length 20, Nat.min_le_left _ _, Nat.min_le_right _ _⟩
  rw [eN]
  refine ⟨rg, 0, _, 1, N, _, rfl, rfl, rsmall (by decide) (by decide) (by lia), rsize, fun m l ℓ => l = [] ∧ ∃ mixed s, 0 ≤ mixed ∧ mixed < 2147483647 ∧ Lo s ∧ ℓ = ([("script", .loc (.ref sc)), ("big", .loc (.int big)), ("mixed", .loc (.int mixed)), ("k", s), ("len", .glob (.bi "len")), ("range", .glob (.ty "range")), ("min", .glob (.bi "min"))] : Loc), ⟨rfl, m0, _, h0, h1, Lo.unb, rfl⟩, ?_, ?_⟩
  · rintro f' m l ℓ hm; refine elA2 ?_; rintro rfl ⟨mixed, s, g0, g1, ls, rfl⟩
    rw [Int.mul_one, Int.zero_add]
    obtain ⟨x, hx⟩ : ∃ x, ns[m]? = some x := ⟨_, List.getElem?_eq_getElem (by lia)⟩
    have hx' : ns[(m : Int).toNat]? = some x := by rw [Int.toNat_natCast, hx]
    wtm_at "r"
    exact ⟨rfl, _, _, (fm (by decide)).1, (fm (by decide)).2, Lo.loc, rfl⟩
  · rintro l ℓ; refine elA2 ?_; rintro rfl ⟨mixed, s, g0, g1, ls, rfl⟩
    wtm_at "r"
    refine Br_dec (fun hb => ?_) (fun hb => ?_)
    · wtm_at "r"
      intro so
      wtm_at "r"
      exact hPo <| Done_has (Has.refl _) ⟨so, _, _, rfl, ⟨hbig, g0, g1⟩, rfl⟩
    · wtm_at "r"
      intro so
      wtm_at "r"
      exact hPo <| Done_has (Has.refl _) ⟨so, _, _, rfl, ⟨by lia, g0, g1⟩, rfl⟩

/-! the law -/
theorem dAt_dPut (kvs : List (Int × V)) (k : Int) (v : V) : dAt (dPut kvs k v) k = some v := by
  unfold dPut
  split
  · rename_i h
    unfold dAt
    induction kvs with
    | nil => cases h
    | cons a r ih =>
      rw [List.map_cons, List.find?_cons]
      by_cases e : a.1 = k
      · simp [e]
      · have h' : r.any (fun kv => decide (kv.1 = k)) = true := by simpa [e] using h
        simp only [e, if_false, decide_false]
        exact ih h'
  · rename_i h
    unfold dAt
    rw [List.find?_append, List.find?_eq_none.mpr (fun x hx => by
      intro hk
      exact h (List.any_eq_true.mpr ⟨x, hx, hk⟩))]
    simp
theorem dPut_len (kvs : List (Int × V)) (k : Int) (v : V) : (dPut kvs k v).length ≤ kvs.length + 1 := by
  unfold dPut; split <;> simp
section
variable {tr td ch st sd pl sp : Addr} {kvs : List (Int × V)} {pages : List (List UInt8)} {cu cd : Addr} {R : Rows} {D : Nat} {N : Int}
/-- the cursor's own part, while the tree is written -/
theorem CurF.split {here : Option Int} {cl : Led} (h : CurF cu cd tr td ch st sd pl sp kvs pages R D N here cl) : ∃ rest, Has (((tr, O.inst 820 td) :: (td, O.ns [("pager", .ref st), ("changes", .ref ch)]) :: (ch, O.dict kvs) :: (st, O.inst 764 sd) :: (sd, O.ns [("page_size", .int 64), ("pages", .ref pl), ("spare", .ref sp)]) :: (pl, O.list (pages.map .bytes)) :: rest)) cl ∧ ∀ kvs' pages' R' D' N', N' ≠ N → ∃ cl', Has cl' (((tr, O.inst 820 td) :: (td, O.ns [("pager", .ref st), ("changes", .ref ch)]) :: (ch, O.dict kvs') :: (st, O.inst 764 sd) :: (sd, O.ns [("page_size", .int 64), ("pages", .ref pl), ("spare", .ref sp)]) :: (pl, O.list ((pages').map .bytes)) :: rest)) ∧
    CurA cu cd tr td ch st sd pl sp kvs' pages' R' D' N' here cl' := by
  cases h with
  | @no ph stamp =>
    exact ⟨[(cu, O.inst 703 cd), (cd, O.ns [("btree", .ref tr), ("root", .int 2), ("state", .int 0), ("path", .ref ph), ("key", .none), ("cell", .none), ("octets", .none), ("stamp", .int stamp)]), (ph, O.list [])], by wtm_at "hs", fun kvs' pages' R' D' N' hN => ⟨_, by wtm_at "hs", .fresh (.no (ph := ph) (stamp := stamp))⟩⟩
  | @row ph ss b a k v ce ed loc oct hP hR hc =>
    exact ⟨[(cu, O.inst 703 cd), (cd, O.ns [("btree", .ref tr), ("root", .int 2), ("state", .int 1), ("path", .ref ph), ("key", .int k), ("cell", .ref ce), ("octets", oct), ("stamp", .int N)])], by wtm_at "hs", fun kvs' pages' R' D' N' hN => ⟨_, by wtm_at "hs", .stale (ph := ph) (state := 1) (cell := .ref ce) (oct := oct) (stamp := N) (.inl rfl) (Ne.symm hN)⟩⟩
  | @gap ph ss b a k e hP h1 h2 =>
    exact ⟨[(cu, O.inst 703 cd), (cd, O.ns [("btree", .ref tr), ("root", .int 2), ("state", .int 2), ("path", .ref ph), ("key", .int k), ("cell", .none), ("octets", .none), ("stamp", .int N)])], by wtm_at "hs", fun kvs' pages' R' D' N' hN => ⟨_, by wtm_at "hs", .stale (ph := ph) (state := 2) (cell := .none) (oct := .none) (stamp := N) (.inr rfl) (Ne.symm hN)⟩⟩
end

set_option maxHeartbeats 4000000 in
theorem sp_law {u : U} {sc : Addr} {ns : List Int} (hs : Sta u sc ns) (hn : ns.length ≤ 63) : SpecU u 16 (.ref 895) [.ref sc] [] fun v _ => v = .bool true := by
  refine SpecU_defR (ps := ["script"]) (ℓ₀ := [("script", .loc (.ref sc)), ("source", .unb), ("store", .unb), ("tree", .unb), ("rows", .unb), ("turn", .unb), ("cursor", .unb), ("here", .unb), ("_law_pool", .glob (.ref 831)), ("PageStore", .glob (.ref 764)), ("TreeReader", .glob (.ref 820)), ("range", .glob (.ty "range")), ("_law_take", .glob (.ref 838)), ("_law_write", .glob (.ref 855)), ("RowCursor", .glob (.ref 703)), ("_law_changed", .glob (.ref 888)), ("_law_moved", .glob (.ref 881)), ("_law_stands", .glob (.ref 867))]) (by intro P; k_is) (by intro P; k_is) (reps1 (by intros; rfl)) (by intro P; kernel_rfl!) (by intro P; kernel_rfl!) (fun f FR hPo => ?_) (by rfl) (by rfl) (by rfl)

  wtm_at "r"
  refine CallV_hU (sp_poolU hs hn) (by decide) [] (Has.refl _) ?_
  rintro _ _; refine elX3_3 ?_; rintro so p q rfl hp rfl
  rw [List.nil_append]
  wtm_at "r"
  refine CallV_use sp_PageStore (by wtm_at "one") (by wtm_at "sel") (E_4_0 ?_)
  rintro st sd pl sp
  refine ⟨_, by wtm_at "app", ?_⟩
  refine (Eq.symm (show O.list [] = O.list (([] : List (List UInt8)).map .bytes) from rfl)) ▸ ?_
  wtm_at "r"
  refine CallV_one (sp_extend (pages := []) (by decide)) (by wtm_at "one") (by wtm_at "sel") (by wtm_at "app") ?_
  wtm_at "r"
  refine CallV_one (sp_extend (pages := [] ++ [blank]) (by decide)) (by wtm_at "one") (by wtm_at "sel") (by wtm_at "app") ?_
  wtm_at "r"
  refine CallV_use sp_TreeReader (by wtm_at "one") (by wtm_at "sel") (E_3_0 ?_)
  rintro tr td ch
  refine ⟨_, by wtm_at "app", ?_⟩
  wtm_at "q"
  wtm_at "s"
  wtm_at "q"
  intro ro
  wtm_at "q"
  obtain ⟨kvs, hkv⟩ : ∃ kvs : List (Int × V), kvs = [] := ⟨_, rfl⟩
  obtain ⟨pages, hpg⟩ : ∃ pages : List (List UInt8), pages = [] ++ [blank] ++ [blank] := ⟨_, rfl⟩
  refine Exs_has (l₀ := [(so, O.list [.int p, .int q]), (ro, O.dict (dk [])), (tr, O.inst 820 td), (td, O.ns [("pager", .ref st), ("changes", .ref ch)]), (ch, O.dict kvs), (st, O.inst 764 sd), (sd, O.ns [("page_size", .int 64), ("pages", .ref pl), ("spare", .ref sp)]), (pl, O.list (pages.map .bytes))]) (by subst hkv hpg; exact (show Has [(so, O.list [.int p, .int q]), (ro, O.dict []), (tr, O.inst 820 td), (td, O.ns [("pager", .ref st), ("changes", .ref ch)]), (ch, O.dict []), (st, O.inst 764 sd), (sd, O.ns [("page_size", .int 64), ("pages", .ref pl), ("spare", .ref sp)]), (pl, O.list (List.map V.bytes ([] ++ [blank] ++ [blank])))] _ from by wtm_at "hs")) ?_
  refine Exs_cons (Ex_cutO (fun l ℓ => ∃ m p q s, Good m ∧ m.length ≤ 5 ∧ Pool p q ∧ Lo s ∧ Has [(so, O.list [.int p, .int q]), (ro, O.dict (dk m)), (tr, O.inst 820 td), (td, O.ns [("pager", .ref st), ("changes", .ref ch)]), (ch, O.dict kvs), (st, O.inst 764 sd), (sd, O.ns [("page_size", .int 64), ("pages", .ref pl), ("spare", .ref sp)]), (pl, O.list (pages.map .bytes))] l ∧ ℓ = ([("script", .loc (.ref sc)), ("source", .loc (.ref so)), ("store", .loc (.ref st)), ("tree", .loc (.ref tr)), ("rows", .loc (.ref ro)), ("turn", s), ("cursor", .unb), ("here", .unb), ("_law_pool", .glob (.ref 831)), ("PageStore", .glob (.ref 764)), ("TreeReader", .glob (.ref 820)), ("range", .glob (.ty "range")), ("_law_take", .glob (.ref 838)), ("_law_write", .glob (.ref 855)), ("RowCursor", .glob (.ref 703)), ("_law_changed", .glob (.ref 888)), ("_law_moved", .glob (.ref 881)), ("_law_stands", .glob (.ref 867))] : Loc)) ?_ ?_)
  · intro J1 hJ1; refine Ex_For_rangeO ?_ (by intro _; rfl) (by intro _ _; rfl)
    wtm_at "r"
    refine CallV_use (sp_take hp (by decide) (by decide)) (by wtm_at "one") (by wtm_at "sel") (E_3_3 ?_)
    rintro r0 p1 q1 hr0 hr1 hp1
    refine ⟨_, by wtm_at "app", ?_⟩
    wtm_at "r"
    intro rg
    obtain ⟨n0, hn0⟩ : ∃ n0 : Nat, r0 = (0 : Int) + n0 := ⟨r0.toNat, by rw [Int.zero_add, Int.toNat_of_nonneg hr0]⟩
    subst hn0
    refine ⟨rg, 0, _, 1, n0, _, rfl, rfl, rsmall (by decide) (by decide) (by lia), rsize, fun j l ℓ => ∃ m p q s, Good m ∧ m.length ≤ j ∧ Pool p q ∧ Lo s ∧ Has [(so, O.list [.int p, .int q]), (ro, O.dict (dk m)), (tr, O.inst 820 td), (td, O.ns [("pager", .ref st), ("changes", .ref ch)]), (ch, O.dict kvs), (st, O.inst 764 sd), (sd, O.ns [("page_size", .int 64), ("pages", .ref pl), ("spare", .ref sp)]), (pl, O.list (pages.map .bytes))] l ∧ ℓ = ([("script", .loc (.ref sc)), ("source", .loc (.ref so)), ("store", .loc (.ref st)), ("tree", .loc (.ref tr)), ("rows", .loc (.ref ro)), ("turn", s), ("cursor", .unb), ("here", .unb), ("_law_pool", .glob (.ref 831)), ("PageStore", .glob (.ref 764)), ("TreeReader", .glob (.ref 820)), ("range", .glob (.ty "range")), ("_law_take", .glob (.ref 838)), ("_law_write", .glob (.ref 855)), ("RowCursor", .glob (.ref 703)), ("_law_changed", .glob (.ref 888)), ("_law_moved", .glob (.ref 881)), ("_law_stands", .glob (.ref 867))] : Loc), ⟨[], p1, q1, _, ⟨by simp, by simp⟩, by simp, hp1, Lo.unb, by wtm_at "hs", rfl⟩, ?_, ?_⟩
    · rintro J hJ f' j l ℓ hj; refine elX4_6 ?_; rintro m p2 q2 s g hml hp2 ls hh rfl
      refine Asg_has hh ?_
      wtm_at "r"
      refine CallV_use (sp_take hp2 (by decide) (by decide)) (by wtm_at "one") (by wtm_at "sel") (E_3_3 ?_)
      rintro v0 p3 q3 hv0 hv1 hp3
      refine ⟨_, by wtm_at "app", ?_⟩
      wtm_at "r"
      refine CallV_use (sp_take hp3 (by decide) (by decide)) (by wtm_at "one") (by wtm_at "sel") (E_3_3 ?_)
      rintro k0 p4 q4 hk0 hk1 hp4
      refine ⟨_, by wtm_at "app", ?_⟩
      wtm_at "r"
      exact hJ <| inE4 (rput m k0 (2 + v0)) p4 q4 _ ⟨g.put ⟨hk0, Int.lt_of_lt_of_le hk1 (by decide)⟩ ⟨Int.add_nonneg (by decide) hv0, Int.lt_of_lt_of_le (Int.add_lt_add_left hv1 2) (by decide)⟩, Nat.le_trans (rput_len m k0 (2 + v0)) (Nat.succ_le_succ hml), hp4, Lo.loc, by wtm_at "hs", rfl⟩
    · rintro l ℓ; refine elX4_6 ?_; rintro m p2 q2 s g hml hp2 ls hh rfl
      exact hJ1 <| inE4 m p2 q2 s ⟨g, by lia, hp2, ls, hh, rfl⟩
  rintro l ℓ; refine elX4_6 ?_; rintro m p1 q1 s g hml hp1 ls hh rfl
  refine Exs_has hh ?_
  clear hh hp
  have hpl : pages.length = 2 := by rw [hpg]; rfl
  have ho : ∀ x ∈ pages, x.length = 64 := by rw [hpg]; intro x hx; simp at hx; subst hx; rfl
  wtm_at "r"
  refine CallV_use (sp_law_write (pages := pages) hp1 hml g.nd g.bnd (Nat.le_of_eq hpl.symm) (Nat.le_trans (Nat.le_of_eq hpl) (by decide)) ho) (by wtm_at "one") (by wtm_at "sel") (E_5_8 ?_)
  rintro p2 q2 pages2 D R hp2 hR hsr hsub hD hpl1 hpl2 ho2
  refine ⟨_, by wtm_at "app", ?_⟩
  have w : Wd kvs pages2 R D 0 := ⟨hsub, hsr, by rw [hkv]; rfl, Nat.le_trans hD (by decide), Nat.le_trans hpl2 (by rw [hpl]; decide)⟩
  wtm_at "r"
  refine CallV_k (sp_RowCursor (R := R) (D := D) w.chg) (by wtm_at "one") (by wtm_at "hr") ?_
  rintro _ cl; refine elX2_2 ?_; rintro cu cd rfl hF
  refine ⟨_, by wtm_at "app", ?_⟩
  wtm_at "r"
  refine Ex_For_rangeO ?_ (by intro _; rfl) (by intro _ _; rfl)
  wtm_at "r"
  refine CallV_use (sp_take hp2 (by decide) (by decide)) (by wtm_at "one") (by wtm_at "sel") (E_3_3 ?_)
  rintro r0 p3 q3 hr0 hr1 hp3
  refine ⟨_, by wtm_at "app", ?_⟩
  wtm_at "r"
  intro rg
  obtain ⟨n0, hn0, hn4⟩ : ∃ n0 : Nat, 1 + r0 = (0 : Int) + n0 ∧ n0 ≤ 4 := ⟨(1 + r0).toNat, by lia, by lia⟩
  rw [hn0]
  have hkl : kvs.length = 0 := by rw [hkv]; rfl
  refine ⟨rg, 0, _, 1, n0, _, rfl, rfl, rsmall (by decide) (by decide) (by lia), rsize, fun j l ℓ => ∃ m p q kvs pages R D N here cl ro s, Good m ∧ m.length ≤ 5 ∧ Pool p q ∧ Wd kvs pages R D N ∧ R.Perm m ∧ kvs.length ≤ j ∧ 2 ≤ pages.length ∧ pages.length ≤ 2 + 15 * (j + 1) ∧ (∀ x ∈ pages, x.length = 64) ∧ CurF cu cd tr td ch st sd pl sp kvs pages R D N here cl ∧ (∀ k, here = some k → 0 ≤ k ∧ k < 100) ∧ Lo s ∧
    Has ((so, O.list [.int p, .int q]) :: (ro, O.dict (dk m)) :: cl) l ∧ ℓ = ([("script", .loc (.ref sc)), ("source", .loc (.ref so)), ("store", .loc (.ref st)), ("tree", .loc (.ref tr)), ("rows", .loc (.ref ro)), ("turn", s), ("cursor", .loc (.ref cu)), ("here", .loc (ov here)), ("_law_pool", .glob (.ref 831)), ("PageStore", .glob (.ref 764)), ("TreeReader", .glob (.ref 820)), ("range", .glob (.ty "range")), ("_law_take", .glob (.ref 838)), ("_law_write", .glob (.ref 855)), ("RowCursor", .glob (.ref 703)), ("_law_changed", .glob (.ref 888)), ("_law_moved", .glob (.ref 881)), ("_law_stands", .glob (.ref 867))] : Loc),
    inE12 m p3 q3 kvs pages2 R D 0 none cl ro s ⟨g, hml, hp3, w, hR, Nat.le_of_eq hkl, Nat.le_trans (Nat.le_of_eq hpl.symm) hpl1, by rw [hpl] at hpl2; exact hpl2, ho2, hF, nofun, ls, by wtm_at "hs", rfl⟩, ?_, ?_⟩
  · clear hF ho2 hpl1 hpl2 hR hsr hsub hD hp2 hp1 hp3 w g hml ls hpl ho hpg hkv hkl
    clear pages2 kvs pages m s cl R D p q p1 q1 p2 q2 p3 q3 ro
    rintro J hJ f' j l ℓ hj; refine elE12 ?_; rintro m p q kvs pages R D N here cl ro s; refine elA14 ?_; rintro g hml hp w hR hkl hpg2 hpl ho hF hb ls hh rfl
    have hpl1 : pages.length ≤ 100 := Nat.le_trans hpl (Nat.le_trans (Nat.add_le_add_left (Nat.mul_le_mul_left 15 (Nat.lt_of_lt_of_le hj hn4)) 2) (by decide))
    refine Asg_has hh ?_
    clear hh
    wtm_at "s"
    refine Exs_cons (Ex_cutO (fun l ℓ => ∃ m p q kvs pages R D N here cl ro s, Good m ∧ m.length ≤ 5 ∧ Pool p q ∧ Wd kvs pages R D N ∧ R.Perm m ∧ kvs.length ≤ j + 1 ∧ 2 ≤ pages.length ∧ pages.length ≤ 2 + 15 * (j + 1 + 1) ∧ (∀ x ∈ pages, x.length = 64) ∧ CurA cu cd tr td ch st sd pl sp kvs pages R D N here cl ∧ (∀ k, here = some k → 0 ≤ k ∧ k < 100) ∧ Lo s ∧
      Has ((so, O.list [.int p, .int q]) :: (ro, O.dict (dk m)) :: cl) l ∧ ℓ = ([("script", .loc (.ref sc)), ("source", .loc (.ref so)), ("store", .loc (.ref st)), ("tree", .loc (.ref tr)), ("rows", .loc (.ref ro)), ("turn", s), ("cursor", .loc (.ref cu)), ("here", .loc (ov here)), ("_law_pool", .glob (.ref 831)), ("PageStore", .glob (.ref 764)), ("TreeReader", .glob (.ref 820)), ("range", .glob (.ty "range")), ("_law_take", .glob (.ref 838)), ("_law_write", .glob (.ref 855)), ("RowCursor", .glob (.ref 703)), ("_law_changed", .glob (.ref 888)), ("_law_moved", .glob (.ref 881)), ("_law_stands", .glob (.ref 867))] : Loc)) ?_ ?_)
    · intro J1 hJ1; wtm_at "r"
      refine CallV_use (sp_take hp (by decide) (by decide)) (by wtm_at "one") (by wtm_at "sel") (E_3_3 ?_)
      rintro r1 p1 q1 hr10 hr11 hp1
      refine ⟨_, by wtm_at "app", ?_⟩
      wtm_at "r"
      refine Br_dec (fun hr => ?_) (fun hr => ?_)
      · wtm_at "r"
        refine CallV_use (sp_changed hp1 g hml hb) (by wtm_at "one") (by wtm_at "sel") (E_4_3 ?_)
        rintro ro2 p2 q2 m2 hp2 g2 hml2
        refine ⟨_, by wtm_at "app", ?_⟩
        wtm_at "q"
        obtain ⟨rest, hrest, hgo⟩ := hF.split
        refine Exs_has (l₀ := ((so, O.list [.int p2, .int q2]) :: (ro2, O.dict (dk m2)) :: (tr, O.inst 820 td) :: (td, O.ns [("pager", .ref st), ("changes", .ref ch)]) :: (ch, O.dict kvs) :: (st, O.inst 764 sd) :: (sd, O.ns [("page_size", .int 64), ("pages", .ref pl), ("spare", .ref sp)]) :: (pl, O.list (pages.map .bytes)) :: rest)) (Has.tail (Has.tail hrest)) ?_
        wtm_at "r"
        refine CallV_use (sp_law_write (pages := pages) hp2 hml2 g2.nd g2.bnd hpg2 hpl1 ho) (by wtm_at "one") (by wtm_at "sel") (E_5_8 ?_)
        rintro p3 q3 pages3 D3 R3 hp3 hR3 hsr3 hsub3 hD3 hl1 hl2 ho3
        refine ⟨_, by wtm_at "app", ?_⟩
        wtm_at "r"
        refine CallV_one (sp_touch w.chg (Nat.le_trans hkl (Nat.le_trans (Nat.le_of_lt hj) (Nat.le_trans hn4 (by decide))))) (by wtm_at "one") (by wtm_at "sel") (by wtm_at "app") ?_
        wtm_at "r"
        obtain ⟨cl', hcl', hA⟩ := hgo (dPut kvs 2 (.int (N + 1))) pages3 R3 D3 (N + 1) (Int.ne_of_gt (Int.lt_succ N))
        exact hJ1 <| inE12 m2 p3 q3 _ pages3 R3 D3 (N + 1) here cl' ro2 _ ⟨g2, hml2, hp3, ⟨hsub3, hsr3, by rw [dAt_dPut]; rfl, Nat.le_trans hD3 (by decide), Nat.le_trans hl2 (Nat.le_trans (Nat.add_le_add_right hpl1 15) (by decide))⟩, hR3, Nat.le_trans (dPut_len kvs 2 (.int (N + 1))) (Nat.succ_le_succ hkl), Nat.le_trans hpg2 hl1, by rw [Nat.mul_add_one, ← Nat.add_assoc]; exact Nat.le_trans hl2 (Nat.add_le_add_right hpl 15), ho3, hA, hb, Lo.loc, (Has.tail (Has.tail hcl')).trans (by wtm_at "hs"), rfl⟩
      · wtm_at "r"
        refine CallV_k (sp_moved hp1 (.fresh hF) w hR g hml) (by wtm_at "one") (by wtm_at "hr") ?_
        rintro _ _; refine elX4_5 ?_; rintro here2 p2 q2 cl2 rfl hp2 hon rfl hF2
        refine ⟨_, by wtm_at "app", ?_⟩
        have hb2 : ∀ k, here2 = some k → 0 ≤ k ∧ k < 100 := fun k e => by
          obtain ⟨v, hv⟩ := on_iff.mp (hon k e)
          have := g.bnd _ (hR.mem_iff.mp hv)
          exact ⟨this.1, this.2.1⟩
        cases here2 with
        | none =>
          refine (Eq.symm (show ov none = V.none from rfl)) ▸ ?_
          wtm_at "r"
          exact hJ1 <| inE12 m p2 q2 kvs pages R D N none cl2 ro _ ⟨g, hml, hp2, w, hR, Nat.le_succ_of_le hkl, hpg2, Nat.le_trans hpl (Nat.add_le_add_left (Nat.mul_le_mul_left 15 (Nat.le_succ _)) 2), ho, .fresh hF2, hb2, Lo.loc, Has.refl _, rfl⟩
        | some k =>
          have hk := hb2 k rfl
          refine (Eq.symm (show ov (some k) = V.int k from rfl)) ▸ ?_
          wtm_at "r"
          exact hJ1 <| inE12 m p2 q2 kvs pages R D N (some k) cl2 ro _ ⟨g, hml, hp2, w, hR, Nat.le_succ_of_le hkl, hpg2, Nat.le_trans hpl (Nat.add_le_add_left (Nat.mul_le_mul_left 15 (Nat.le_succ _)) 2), ho, .fresh hF2, hb2, Lo.loc, Has.refl _, rfl⟩
    · clear hF ho hpl hpg2 hR w g hml ls hp hb hkl
      rintro l ℓ; refine elE12 ?_; rintro m p q kvs pages R D N here cl ro s; refine elA14 ?_; rintro g hml hp w hR hkl hpg2 hpl ho hA hb ls hh rfl
      refine Exs_has hh ?_
      clear hh
      wtm_at "r"
      refine CallV_k (sp_stands hA w hR g.nd) (by wtm_at "one") (by wtm_at "hr") ?_
      rintro _ _; refine elA2 ?_; rintro rfl ⟨cl2, rfl, hF2⟩
      refine ⟨_, by wtm_at "app", ?_⟩
      wtm_at "r"
      exact hJ <| inE12 m p q kvs pages R D N here cl2 ro s ⟨g, hml, hp, w, hR, hkl, hpg2, hpl, ho, hF2, hb, ls, by wtm_at "hs", rfl⟩
  · rintro l ℓ _
    wtm_at "r"
    exact hPo <| Done_has (l₀ := []) Has.nil rfl

set_option tactic.hygienic true in
set_option maxHeartbeats 4000000 in
theorem fin : PySem.Challenge.rw_nt0131_01.Holds := by
  refine hd ?_
  intro w s₀ s₁ mg mb G Y f hmg hg args vals as hpre hlay hrd hwl
  have KX := kIn_of Y
  clear Y
  have hsh := (pre_splitW hpre).1
  have hcond := (pre_splitW hpre).2
  wrow_hasAll hsh hlay
  rename_i ns _ _ _ _ _
  obtain ⟨L, hT⟩ : ∃ L, TopRead hd.view_39 L mg mb s₁.heap := ⟨_, topRead_of G.T⟩
  clear G
  have hc := readsAllW_cons_inv hrd
  refine elX4_4 ?_ hc; clear hc; rintro v vs as1 as2 he ha r1 hr
  have hc2 := (readsAllW_nil_inv hr).1
  subst he hc2
  have r0 := reads_of_readsW _ r1
  clear r1
  row_read r0
  rename_i a xs _ hL _ hI
  clear hpre
  w_cond hcond
  have hn : ns.length ≤ 63 := by lia
  let u : U := ⟨PySem.Challenge.rw_nt0131_01.row.prog, w, s₁.heap, hd.view_39, L, mg, mb⟩
  have hu : u.Ok := ⟨KX, hT⟩
  have hf : f = .ref 895 := by
    have e : nsIn (hd.heap_39 w.params) mainGlobals "law" = some (some (.ref 895)) := by kernel_rfl!
    have e2 : mg "law" = some (.ref 895) := mg_of KX hT.g e
    have e3 : mg "law" = some f := hmg
    rw [e2] at e3
    exact (Option.some.inj e3).symm
  subst hf
  have hs : Sta u a ns := ⟨xs, reps_ints hI, hL⟩
  refine wpX_call (codeX_mono (sp_law (u := u) hs hn callerA s₁ (.ref 895) [.ref a] hu ⟨by decide, by decide, rfl⟩ (Rep.mk (v := .ref 895) 0) (.cons (Rep.mk (v := .ref a) 0) .nil) (fun _ _ e => e) ⟨List.nodup_nil, nofun⟩) ?_)
  rintro (e | (y | _ | _ | _)) s' z <;> first | exact z.elim | skip
  refine elX2_3 ?_ z; clear z; rintro v l' ⟨t, rfl⟩ rfl a
  refine ⟨.inl ⟨_, _, [], rfl, fun _ => rfl, ReadsW.bool true, ?_, fun _ => ⟨List.nodup_nil, fun _ hm => (nomatch hm)⟩⟩, .of_keep fun b o e => a.kept b o e (by simp), a.same.2.2, .of_eq (a.same.1.trans hg)⟩
  wrow_post

end Mine
theorem PySem.Challenge.cw_nt0131_01_holds : PySem.Challenge.rw_nt0131_01.Holds := by
  exact Mine.fin
