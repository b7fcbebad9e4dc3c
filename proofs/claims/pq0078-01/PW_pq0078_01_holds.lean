import PyProof.Rows.All
import Wide.All
import OpenK.AllK
import KE.KIntText
import KE.KSorted
import KE.KSortTup
import KE.KDictIter
import KE.KDictObj
import KE.KDictOf
import KE.KDictSum
import Wide.FinOn
import PySem.Challenge.RW_pq0078_01
set_option Elab.async false
set_option compiler.extract_closed false
set_option bootstrap.genMatcherCode false
set_option tactic.hygienic false

noncomputable section L0x
set_option linter.unusedVariables false
namespace Mine
theorem tt : true = true := rfl
theorem ff : false = false := rfl
theorem tl : (some .local : Option PySem.NameKind) = some .local := rfl
theorem nn {α : Type} : (none : Option α) = none := rfl
theorem xA {P1 : Prop} {P2 : Prop} {C : Prop} (h : P1 ∧ P2) (k : ∀ (p1 : P1) (p2 : P2), C) : C := k h.1 h.2
theorem xE.{u1} {α1 : Sort u1} {P1 : α1 → Prop} {C : Prop} (h : ∃ a1, P1 a1) (k : ∀ (a1 : α1) (p1 : P1 a1), C) : C := Exists.elim h k
theorem iAA {P1 : Prop} {P2 : Prop} {P3 : Prop} (p1 : P1) (p2 : P2) (p3 : P3) : P1 ∧ P2 ∧ P3 := ⟨p1, ⟨p2, p3⟩⟩
theorem iAE.{u1} {α1 : Sort u1} {P1 : Prop} {P2 : α1 → Prop} (p1 : P1) (a1 : α1) (p2 : P2 a1) : P1 ∧ ∃ a1, P2 a1 := ⟨p1, ⟨a1, p2⟩⟩
theorem iEA.{u1} {α1 : Sort u1} {P1 : α1 → Prop} {P2 : α1 → Prop} (a1 : α1) (p1 : P1 a1) (p2 : P2 a1) : ∃ a1, P1 a1 ∧ P2 a1 := ⟨a1, ⟨p1, p2⟩⟩
theorem iEE.{u1, u2} {α1 : Sort u1} {α2 : Sort u2} {P1 : α1 → α2 → Prop} (a1 : α1) (a2 : α2) (p1 : P1 a1 a2) : ∃ a1, ∃ a2, P1 a1 a2 := ⟨a1, ⟨a2, p1⟩⟩
theorem xAA {P1 : Prop} {P2 : Prop} {P3 : Prop} {C : Prop} (h : P1 ∧ P2 ∧ P3) (k : ∀ (p1 : P1) (p2 : P2) (p3 : P3), C) : C := xA h.2 (k h.1)
theorem xAE.{u1} {α1 : Sort u1} {P1 : Prop} {P2 : α1 → Prop} {C : Prop} (h : P1 ∧ ∃ a1, P2 a1) (k : ∀ (p1 : P1) (a1 : α1) (p2 : P2 a1), C) : C := xE h.2 (k h.1)
theorem xEA.{u1} {α1 : Sort u1} {P1 : α1 → Prop} {P2 : α1 → Prop} {C : Prop} (h : ∃ a1, P1 a1 ∧ P2 a1) (k : ∀ (a1 : α1) (p1 : P1 a1) (p2 : P2 a1), C) : C := Exists.elim h fun a1 h => xA h (k a1)
theorem xEE.{u1, u2} {α1 : Sort u1} {α2 : Sort u2} {P1 : α1 → α2 → Prop} {C : Prop} (h : ∃ a1, ∃ a2, P1 a1 a2) (k : ∀ (a1 : α1) (a2 : α2) (p1 : P1 a1 a2), C) : C := Exists.elim h fun a1 h => xE h (k a1)
theorem iAAA {P1 : Prop} {P2 : Prop} {P3 : Prop} {P4 : Prop} (p1 : P1) (p2 : P2) (p3 : P3) (p4 : P4) : P1 ∧ P2 ∧ P3 ∧ P4 := ⟨p1, iAA p2 p3 p4⟩
theorem iAAE.{u1} {α1 : Sort u1} {P1 : Prop} {P2 : Prop} {P3 : α1 → Prop} (p1 : P1) (p2 : P2) (a1 : α1) (p3 : P3 a1) : P1 ∧ P2 ∧ ∃ a1, P3 a1 := ⟨p1, iAE p2 a1 p3⟩
theorem iAEA.{u1} {α1 : Sort u1} {P1 : Prop} {P2 : α1 → Prop} {P3 : α1 → Prop} (p1 : P1) (a1 : α1) (p2 : P2 a1) (p3 : P3 a1) : P1 ∧ ∃ a1, P2 a1 ∧ P3 a1 := ⟨p1, iEA a1 p2 p3⟩
theorem iEAA.{u1} {α1 : Sort u1} {P1 : α1 → Prop} {P2 : α1 → Prop} {P3 : α1 → Prop} (a1 : α1) (p1 : P1 a1) (p2 : P2 a1) (p3 : P3 a1) : ∃ a1, P1 a1 ∧ P2 a1 ∧ P3 a1 := ⟨a1, iAA p1 p2 p3⟩
theorem iEAE.{u1, u2} {α1 : Sort u1} {α2 : Sort u2} {P1 : α1 → Prop} {P2 : α1 → α2 → Prop} (a1 : α1) (p1 : P1 a1) (a2 : α2) (p2 : P2 a1 a2) : ∃ a1, P1 a1 ∧ ∃ a2, P2 a1 a2 := ⟨a1, iAE p1 a2 p2⟩
theorem iEEA.{u1, u2} {α1 : Sort u1} {α2 : Sort u2} {P1 : α1 → α2 → Prop} {P2 : α1 → α2 → Prop} (a1 : α1) (a2 : α2) (p1 : P1 a1 a2) (p2 : P2 a1 a2) : ∃ a1, ∃ a2, P1 a1 a2 ∧ P2 a1 a2 := ⟨a1, iEA a2 p1 p2⟩
theorem iEEE.{u1, u2, u3} {α1 : Sort u1} {α2 : Sort u2} {α3 : Sort u3} {P1 : α1 → α2 → α3 → Prop} (a1 : α1) (a2 : α2) (a3 : α3) (p1 : P1 a1 a2 a3) : ∃ a1, ∃ a2, ∃ a3, P1 a1 a2 a3 := ⟨a1, iEE a2 a3 p1⟩
theorem xAAA {P1 : Prop} {P2 : Prop} {P3 : Prop} {P4 : Prop} {C : Prop} (h : P1 ∧ P2 ∧ P3 ∧ P4) (k : ∀ (p1 : P1) (p2 : P2) (p3 : P3) (p4 : P4), C) : C := xAA h.2 (k h.1)
theorem xAAE.{u1} {α1 : Sort u1} {P1 : Prop} {P2 : Prop} {P3 : α1 → Prop} {C : Prop} (h : P1 ∧ P2 ∧ ∃ a1, P3 a1) (k : ∀ (p1 : P1) (p2 : P2) (a1 : α1) (p3 : P3 a1), C) : C := xAE h.2 (k h.1)
theorem xAEA.{u1} {α1 : Sort u1} {P1 : Prop} {P2 : α1 → Prop} {P3 : α1 → Prop} {C : Prop} (h : P1 ∧ ∃ a1, P2 a1 ∧ P3 a1) (k : ∀ (p1 : P1) (a1 : α1) (p2 : P2 a1) (p3 : P3 a1), C) : C := xEA h.2 (k h.1)
theorem xAEE.{u1, u2} {α1 : Sort u1} {α2 : Sort u2} {P1 : Prop} {P2 : α1 → α2 → Prop} {C : Prop} (h : P1 ∧ ∃ a1, ∃ a2, P2 a1 a2) (k : ∀ (p1 : P1) (a1 : α1) (a2 : α2) (p2 : P2 a1 a2), C) : C := xEE h.2 (k h.1)
theorem xEAA.{u1} {α1 : Sort u1} {P1 : α1 → Prop} {P2 : α1 → Prop} {P3 : α1 → Prop} {C : Prop} (h : ∃ a1, P1 a1 ∧ P2 a1 ∧ P3 a1) (k : ∀ (a1 : α1) (p1 : P1 a1) (p2 : P2 a1) (p3 : P3 a1), C) : C := Exists.elim h fun a1 h => xAA h (k a1)
theorem xEAE.{u1, u2} {α1 : Sort u1} {α2 : Sort u2} {P1 : α1 → Prop} {P2 : α1 → α2 → Prop} {C : Prop} (h : ∃ a1, P1 a1 ∧ ∃ a2, P2 a1 a2) (k : ∀ (a1 : α1) (p1 : P1 a1) (a2 : α2) (p2 : P2 a1 a2), C) : C := Exists.elim h fun a1 h => xAE h (k a1)
theorem xEEA.{u1, u2} {α1 : Sort u1} {α2 : Sort u2} {P1 : α1 → α2 → Prop} {P2 : α1 → α2 → Prop} {C : Prop} (h : ∃ a1, ∃ a2, P1 a1 a2 ∧ P2 a1 a2) (k : ∀ (a1 : α1) (a2 : α2) (p1 : P1 a1 a2) (p2 : P2 a1 a2), C) : C := Exists.elim h fun a1 h => xEA h (k a1)
theorem xEEE.{u1, u2, u3} {α1 : Sort u1} {α2 : Sort u2} {α3 : Sort u3} {P1 : α1 → α2 → α3 → Prop} {C : Prop} (h : ∃ a1, ∃ a2, ∃ a3, P1 a1 a2 a3) (k : ∀ (a1 : α1) (a2 : α2) (a3 : α3) (p1 : P1 a1 a2 a3), C) : C := Exists.elim h fun a1 h => xEE h (k a1)
theorem iAAAA {P1 : Prop} {P2 : Prop} {P3 : Prop} {P4 : Prop} {P5 : Prop} (p1 : P1) (p2 : P2) (p3 : P3) (p4 : P4) (p5 : P5) : P1 ∧ P2 ∧ P3 ∧ P4 ∧ P5 := ⟨p1, iAAA p2 p3 p4 p5⟩
theorem iAAEA.{u1} {α1 : Sort u1} {P1 : Prop} {P2 : Prop} {P3 : α1 → Prop} {P4 : α1 → Prop} (p1 : P1) (p2 : P2) (a1 : α1) (p3 : P3 a1) (p4 : P4 a1) : P1 ∧ P2 ∧ ∃ a1, P3 a1 ∧ P4 a1 := ⟨p1, iAEA p2 a1 p3 p4⟩
theorem iAEAA.{u1} {α1 : Sort u1} {P1 : Prop} {P2 : α1 → Prop} {P3 : α1 → Prop} {P4 : α1 → Prop} (p1 : P1) (a1 : α1) (p2 : P2 a1) (p3 : P3 a1) (p4 : P4 a1) : P1 ∧ ∃ a1, P2 a1 ∧ P3 a1 ∧ P4 a1 := ⟨p1, iEAA a1 p2 p3 p4⟩
theorem iAEEA.{u1, u2} {α1 : Sort u1} {α2 : Sort u2} {P1 : Prop} {P2 : α1 → α2 → Prop} {P3 : α1 → α2 → Prop} (p1 : P1) (a1 : α1) (a2 : α2) (p2 : P2 a1 a2) (p3 : P3 a1 a2) : P1 ∧ ∃ a1, ∃ a2, P2 a1 a2 ∧ P3 a1 a2 := ⟨p1, iEEA a1 a2 p2 p3⟩
theorem iEAAA.{u1} {α1 : Sort u1} {P1 : α1 → Prop} {P2 : α1 → Prop} {P3 : α1 → Prop} {P4 : α1 → Prop} (a1 : α1) (p1 : P1 a1) (p2 : P2 a1) (p3 : P3 a1) (p4 : P4 a1) : ∃ a1, P1 a1 ∧ P2 a1 ∧ P3 a1 ∧ P4 a1 := ⟨a1, iAAA p1 p2 p3 p4⟩
theorem iEAAE.{u1, u2} {α1 : Sort u1} {α2 : Sort u2} {P1 : α1 → Prop} {P2 : α1 → Prop} {P3 : α1 → α2 → Prop} (a1 : α1) (p1 : P1 a1) (p2 : P2 a1) (a2 : α2) (p3 : P3 a1 a2) : ∃ a1, P1 a1 ∧ P2 a1 ∧ ∃ a2, P3 a1 a2 := ⟨a1, iAAE p1 p2 a2 p3⟩
theorem iEEAA.{u1, u2} {α1 : Sort u1} {α2 : Sort u2} {P1 : α1 → α2 → Prop} {P2 : α1 → α2 → Prop} {P3 : α1 → α2 → Prop} (a1 : α1) (a2 : α2) (p1 : P1 a1 a2) (p2 : P2 a1 a2) (p3 : P3 a1 a2) : ∃ a1, ∃ a2, P1 a1 a2 ∧ P2 a1 a2 ∧ P3 a1 a2 := ⟨a1, iEAA a2 p1 p2 p3⟩
theorem iEEEA.{u1, u2, u3} {α1 : Sort u1} {α2 : Sort u2} {α3 : Sort u3} {P1 : α1 → α2 → α3 → Prop} {P2 : α1 → α2 → α3 → Prop} (a1 : α1) (a2 : α2) (a3 : α3) (p1 : P1 a1 a2 a3) (p2 : P2 a1 a2 a3) : ∃ a1, ∃ a2, ∃ a3, P1 a1 a2 a3 ∧ P2 a1 a2 a3 := ⟨a1, iEEA a2 a3 p1 p2⟩
theorem xAAAA {P1 : Prop} {P2 : Prop} {P3 : Prop} {P4 : Prop} {P5 : Prop} {C : Prop} (h : P1 ∧ P2 ∧ P3 ∧ P4 ∧ P5) (k : ∀ (p1 : P1) (p2 : P2) (p3 : P3) (p4 : P4) (p5 : P5), C) : C := xAAA h.2 (k h.1)
theorem xAAEA.{u1} {α1 : Sort u1} {P1 : Prop} {P2 : Prop} {P3 : α1 → Prop} {P4 : α1 → Prop} {C : Prop} (h : P1 ∧ P2 ∧ ∃ a1, P3 a1 ∧ P4 a1) (k : ∀ (p1 : P1) (p2 : P2) (a1 : α1) (p3 : P3 a1) (p4 : P4 a1), C) : C := xAEA h.2 (k h.1)
theorem xAEAA.{u1} {α1 : Sort u1} {P1 : Prop} {P2 : α1 → Prop} {P3 : α1 → Prop} {P4 : α1 → Prop} {C : Prop} (h : P1 ∧ ∃ a1, P2 a1 ∧ P3 a1 ∧ P4 a1) (k : ∀ (p1 : P1) (a1 : α1) (p2 : P2 a1) (p3 : P3 a1) (p4 : P4 a1), C) : C := xEAA h.2 (k h.1)
theorem xAEEA.{u1, u2} {α1 : Sort u1} {α2 : Sort u2} {P1 : Prop} {P2 : α1 → α2 → Prop} {P3 : α1 → α2 → Prop} {C : Prop} (h : P1 ∧ ∃ a1, ∃ a2, P2 a1 a2 ∧ P3 a1 a2) (k : ∀ (p1 : P1) (a1 : α1) (a2 : α2) (p2 : P2 a1 a2) (p3 : P3 a1 a2), C) : C := xEEA h.2 (k h.1)
theorem xEAAA.{u1} {α1 : Sort u1} {P1 : α1 → Prop} {P2 : α1 → Prop} {P3 : α1 → Prop} {P4 : α1 → Prop} {C : Prop} (h : ∃ a1, P1 a1 ∧ P2 a1 ∧ P3 a1 ∧ P4 a1) (k : ∀ (a1 : α1) (p1 : P1 a1) (p2 : P2 a1) (p3 : P3 a1) (p4 : P4 a1), C) : C := Exists.elim h fun a1 h => xAAA h (k a1)
theorem xEAAE.{u1, u2} {α1 : Sort u1} {α2 : Sort u2} {P1 : α1 → Prop} {P2 : α1 → Prop} {P3 : α1 → α2 → Prop} {C : Prop} (h : ∃ a1, P1 a1 ∧ P2 a1 ∧ ∃ a2, P3 a1 a2) (k : ∀ (a1 : α1) (p1 : P1 a1) (p2 : P2 a1) (a2 : α2) (p3 : P3 a1 a2), C) : C := Exists.elim h fun a1 h => xAAE h (k a1)
theorem xEAEA.{u1, u2} {α1 : Sort u1} {α2 : Sort u2} {P1 : α1 → Prop} {P2 : α1 → α2 → Prop} {P3 : α1 → α2 → Prop} {C : Prop} (h : ∃ a1, P1 a1 ∧ ∃ a2, P2 a1 a2 ∧ P3 a1 a2) (k : ∀ (a1 : α1) (p1 : P1 a1) (a2 : α2) (p2 : P2 a1 a2) (p3 : P3 a1 a2), C) : C := Exists.elim h fun a1 h => xAEA h (k a1)
theorem xEEAA.{u1, u2} {α1 : Sort u1} {α2 : Sort u2} {P1 : α1 → α2 → Prop} {P2 : α1 → α2 → Prop} {P3 : α1 → α2 → Prop} {C : Prop} (h : ∃ a1, ∃ a2, P1 a1 a2 ∧ P2 a1 a2 ∧ P3 a1 a2) (k : ∀ (a1 : α1) (a2 : α2) (p1 : P1 a1 a2) (p2 : P2 a1 a2) (p3 : P3 a1 a2), C) : C := Exists.elim h fun a1 h => xEAA h (k a1)
theorem xEEEA.{u1, u2, u3} {α1 : Sort u1} {α2 : Sort u2} {α3 : Sort u3} {P1 : α1 → α2 → α3 → Prop} {P2 : α1 → α2 → α3 → Prop} {C : Prop} (h : ∃ a1, ∃ a2, ∃ a3, P1 a1 a2 a3 ∧ P2 a1 a2 a3) (k : ∀ (a1 : α1) (a2 : α2) (a3 : α3) (p1 : P1 a1 a2 a3) (p2 : P2 a1 a2 a3), C) : C := Exists.elim h fun a1 h => xEEA h (k a1)
theorem iAAAAA {P1 : Prop} {P2 : Prop} {P3 : Prop} {P4 : Prop} {P5 : Prop} {P6 : Prop} (p1 : P1) (p2 : P2) (p3 : P3) (p4 : P4) (p5 : P5) (p6 : P6) : P1 ∧ P2 ∧ P3 ∧ P4 ∧ P5 ∧ P6 := ⟨p1, iAAAA p2 p3 p4 p5 p6⟩
theorem iAEEAA.{u1, u2} {α1 : Sort u1} {α2 : Sort u2} {P1 : Prop} {P2 : α1 → α2 → Prop} {P3 : α1 → α2 → Prop} {P4 : α1 → α2 → Prop} (p1 : P1) (a1 : α1) (a2 : α2) (p2 : P2 a1 a2) (p3 : P3 a1 a2) (p4 : P4 a1 a2) : P1 ∧ ∃ a1, ∃ a2, P2 a1 a2 ∧ P3 a1 a2 ∧ P4 a1 a2 := ⟨p1, iEEAA a1 a2 p2 p3 p4⟩
theorem iEAAAA.{u1} {α1 : Sort u1} {P1 : α1 → Prop} {P2 : α1 → Prop} {P3 : α1 → Prop} {P4 : α1 → Prop} {P5 : α1 → Prop} (a1 : α1) (p1 : P1 a1) (p2 : P2 a1) (p3 : P3 a1) (p4 : P4 a1) (p5 : P5 a1) : ∃ a1, P1 a1 ∧ P2 a1 ∧ P3 a1 ∧ P4 a1 ∧ P5 a1 := ⟨a1, iAAAA p1 p2 p3 p4 p5⟩
theorem iEEAAA.{u1, u2} {α1 : Sort u1} {α2 : Sort u2} {P1 : α1 → α2 → Prop} {P2 : α1 → α2 → Prop} {P3 : α1 → α2 → Prop} {P4 : α1 → α2 → Prop} (a1 : α1) (a2 : α2) (p1 : P1 a1 a2) (p2 : P2 a1 a2) (p3 : P3 a1 a2) (p4 : P4 a1 a2) : ∃ a1, ∃ a2, P1 a1 a2 ∧ P2 a1 a2 ∧ P3 a1 a2 ∧ P4 a1 a2 := ⟨a1, iEAAA a2 p1 p2 p3 p4⟩
theorem iEEEAA.{u1, u2, u3} {α1 : Sort u1} {α2 : Sort u2} {α3 : Sort u3} {P1 : α1 → α2 → α3 → Prop} {P2 : α1 → α2 → α3 → Prop} {P3 : α1 → α2 → α3 → Prop} (a1 : α1) (a2 : α2) (a3 : α3) (p1 : P1 a1 a2 a3) (p2 : P2 a1 a2 a3) (p3 : P3 a1 a2 a3) : ∃ a1, ∃ a2, ∃ a3, P1 a1 a2 a3 ∧ P2 a1 a2 a3 ∧ P3 a1 a2 a3 := ⟨a1, iEEAA a2 a3 p1 p2 p3⟩
theorem xAAEEA.{u1, u2} {α1 : Sort u1} {α2 : Sort u2} {P1 : Prop} {P2 : Prop} {P3 : α1 → α2 → Prop} {P4 : α1 → α2 → Prop} {C : Prop} (h : P1 ∧ P2 ∧ ∃ a1, ∃ a2, P3 a1 a2 ∧ P4 a1 a2) (k : ∀ (p1 : P1) (p2 : P2) (a1 : α1) (a2 : α2) (p3 : P3 a1 a2) (p4 : P4 a1 a2), C) : C := xAEEA h.2 (k h.1)
theorem xAEEAA.{u1, u2} {α1 : Sort u1} {α2 : Sort u2} {P1 : Prop} {P2 : α1 → α2 → Prop} {P3 : α1 → α2 → Prop} {P4 : α1 → α2 → Prop} {C : Prop} (h : P1 ∧ ∃ a1, ∃ a2, P2 a1 a2 ∧ P3 a1 a2 ∧ P4 a1 a2) (k : ∀ (p1 : P1) (a1 : α1) (a2 : α2) (p2 : P2 a1 a2) (p3 : P3 a1 a2) (p4 : P4 a1 a2), C) : C := xEEAA h.2 (k h.1)
theorem xEAAAA.{u1} {α1 : Sort u1} {P1 : α1 → Prop} {P2 : α1 → Prop} {P3 : α1 → Prop} {P4 : α1 → Prop} {P5 : α1 → Prop} {C : Prop} (h : ∃ a1, P1 a1 ∧ P2 a1 ∧ P3 a1 ∧ P4 a1 ∧ P5 a1) (k : ∀ (a1 : α1) (p1 : P1 a1) (p2 : P2 a1) (p3 : P3 a1) (p4 : P4 a1) (p5 : P5 a1), C) : C := Exists.elim h fun a1 h => xAAAA h (k a1)
theorem xEEAAA.{u1, u2} {α1 : Sort u1} {α2 : Sort u2} {P1 : α1 → α2 → Prop} {P2 : α1 → α2 → Prop} {P3 : α1 → α2 → Prop} {P4 : α1 → α2 → Prop} {C : Prop} (h : ∃ a1, ∃ a2, P1 a1 a2 ∧ P2 a1 a2 ∧ P3 a1 a2 ∧ P4 a1 a2) (k : ∀ (a1 : α1) (a2 : α2) (p1 : P1 a1 a2) (p2 : P2 a1 a2) (p3 : P3 a1 a2) (p4 : P4 a1 a2), C) : C := Exists.elim h fun a1 h => xEAAA h (k a1)
theorem xEEEAA.{u1, u2, u3} {α1 : Sort u1} {α2 : Sort u2} {α3 : Sort u3} {P1 : α1 → α2 → α3 → Prop} {P2 : α1 → α2 → α3 → Prop} {P3 : α1 → α2 → α3 → Prop} {C : Prop} (h : ∃ a1, ∃ a2, ∃ a3, P1 a1 a2 a3 ∧ P2 a1 a2 a3 ∧ P3 a1 a2 a3) (k : ∀ (a1 : α1) (a2 : α2) (a3 : α3) (p1 : P1 a1 a2 a3) (p2 : P2 a1 a2 a3) (p3 : P3 a1 a2 a3), C) : C := Exists.elim h fun a1 h => xEEAA h (k a1)
theorem xEEEEA.{u1, u2, u3, u4} {α1 : Sort u1} {α2 : Sort u2} {α3 : Sort u3} {α4 : Sort u4} {P1 : α1 → α2 → α3 → α4 → Prop} {P2 : α1 → α2 → α3 → α4 → Prop} {C : Prop} (h : ∃ a1, ∃ a2, ∃ a3, ∃ a4, P1 a1 a2 a3 a4 ∧ P2 a1 a2 a3 a4) (k : ∀ (a1 : α1) (a2 : α2) (a3 : α3) (a4 : α4) (p1 : P1 a1 a2 a3 a4) (p2 : P2 a1 a2 a3 a4), C) : C := Exists.elim h fun a1 h => xEEEA h (k a1)
theorem iAAAAEA.{u1} {α1 : Sort u1} {P1 : Prop} {P2 : Prop} {P3 : Prop} {P4 : Prop} {P5 : α1 → Prop} {P6 : α1 → Prop} (p1 : P1) (p2 : P2) (p3 : P3) (p4 : P4) (a1 : α1) (p5 : P5 a1) (p6 : P6 a1) : P1 ∧ P2 ∧ P3 ∧ P4 ∧ ∃ a1, P5 a1 ∧ P6 a1 := ⟨p1, ⟨p2, iAAEA p3 p4 a1 p5 p6⟩⟩
theorem iAAAEAA.{u1} {α1 : Sort u1} {P1 : Prop} {P2 : Prop} {P3 : Prop} {P4 : α1 → Prop} {P5 : α1 → Prop} {P6 : α1 → Prop} (p1 : P1) (p2 : P2) (p3 : P3) (a1 : α1) (p4 : P4 a1) (p5 : P5 a1) (p6 : P6 a1) : P1 ∧ P2 ∧ P3 ∧ ∃ a1, P4 a1 ∧ P5 a1 ∧ P6 a1 := ⟨p1, ⟨p2, iAEAA p3 a1 p4 p5 p6⟩⟩
theorem iAAEAAA.{u1} {α1 : Sort u1} {P1 : Prop} {P2 : Prop} {P3 : α1 → Prop} {P4 : α1 → Prop} {P5 : α1 → Prop} {P6 : α1 → Prop} (p1 : P1) (p2 : P2) (a1 : α1) (p3 : P3 a1) (p4 : P4 a1) (p5 : P5 a1) (p6 : P6 a1) : P1 ∧ P2 ∧ ∃ a1, P3 a1 ∧ P4 a1 ∧ P5 a1 ∧ P6 a1 := ⟨p1, ⟨p2, iEAAA a1 p3 p4 p5 p6⟩⟩
theorem iEAAEEA.{u1, u2, u3} {α1 : Sort u1} {α2 : Sort u2} {α3 : Sort u3} {P1 : α1 → Prop} {P2 : α1 → Prop} {P3 : α1 → α2 → α3 → Prop} {P4 : α1 → α2 → α3 → Prop} (a1 : α1) (p1 : P1 a1) (p2 : P2 a1) (a2 : α2) (a3 : α3) (p3 : P3 a1 a2 a3) (p4 : P4 a1 a2 a3) : ∃ a1, P1 a1 ∧ P2 a1 ∧ ∃ a2, ∃ a3, P3 a1 a2 a3 ∧ P4 a1 a2 a3 := ⟨a1, ⟨p1, iAEEA p2 a2 a3 p3 p4⟩⟩
theorem iEAEEAA.{u1, u2, u3} {α1 : Sort u1} {α2 : Sort u2} {α3 : Sort u3} {P1 : α1 → Prop} {P2 : α1 → α2 → α3 → Prop} {P3 : α1 → α2 → α3 → Prop} {P4 : α1 → α2 → α3 → Prop} (a1 : α1) (p1 : P1 a1) (a2 : α2) (a3 : α3) (p2 : P2 a1 a2 a3) (p3 : P3 a1 a2 a3) (p4 : P4 a1 a2 a3) : ∃ a1, P1 a1 ∧ ∃ a2, ∃ a3, P2 a1 a2 a3 ∧ P3 a1 a2 a3 ∧ P4 a1 a2 a3 := ⟨a1, iAEEAA p1 a2 a3 p2 p3 p4⟩
theorem iEEAAAA.{u1, u2} {α1 : Sort u1} {α2 : Sort u2} {P1 : α1 → α2 → Prop} {P2 : α1 → α2 → Prop} {P3 : α1 → α2 → Prop} {P4 : α1 → α2 → Prop} {P5 : α1 → α2 → Prop} (a1 : α1) (a2 : α2) (p1 : P1 a1 a2) (p2 : P2 a1 a2) (p3 : P3 a1 a2) (p4 : P4 a1 a2) (p5 : P5 a1 a2) : ∃ a1, ∃ a2, P1 a1 a2 ∧ P2 a1 a2 ∧ P3 a1 a2 ∧ P4 a1 a2 ∧ P5 a1 a2 := ⟨a1, iEAAAA a2 p1 p2 p3 p4 p5⟩
theorem iEEEAAA.{u1, u2, u3} {α1 : Sort u1} {α2 : Sort u2} {α3 : Sort u3} {P1 : α1 → α2 → α3 → Prop} {P2 : α1 → α2 → α3 → Prop} {P3 : α1 → α2 → α3 → Prop} {P4 : α1 → α2 → α3 → Prop} (a1 : α1) (a2 : α2) (a3 : α3) (p1 : P1 a1 a2 a3) (p2 : P2 a1 a2 a3) (p3 : P3 a1 a2 a3) (p4 : P4 a1 a2 a3) : ∃ a1, ∃ a2, ∃ a3, P1 a1 a2 a3 ∧ P2 a1 a2 a3 ∧ P3 a1 a2 a3 ∧ P4 a1 a2 a3 := ⟨a1, iEEAAA a2 a3 p1 p2 p3 p4⟩
theorem iEEEEAA.{u1, u2, u3, u4} {α1 : Sort u1} {α2 : Sort u2} {α3 : Sort u3} {α4 : Sort u4} {P1 : α1 → α2 → α3 → α4 → Prop} {P2 : α1 → α2 → α3 → α4 → Prop} {P3 : α1 → α2 → α3 → α4 → Prop} (a1 : α1) (a2 : α2) (a3 : α3) (a4 : α4) (p1 : P1 a1 a2 a3 a4) (p2 : P2 a1 a2 a3 a4) (p3 : P3 a1 a2 a3 a4) : ∃ a1, ∃ a2, ∃ a3, ∃ a4, P1 a1 a2 a3 a4 ∧ P2 a1 a2 a3 a4 ∧ P3 a1 a2 a3 a4 := ⟨a1, iEEEAA a2 a3 a4 p1 p2 p3⟩
theorem xAAAAEA.{u1} {α1 : Sort u1} {P1 : Prop} {P2 : Prop} {P3 : Prop} {P4 : Prop} {P5 : α1 → Prop} {P6 : α1 → Prop} {C : Prop} (h : P1 ∧ P2 ∧ P3 ∧ P4 ∧ ∃ a1, P5 a1 ∧ P6 a1) (k : ∀ (p1 : P1) (p2 : P2) (p3 : P3) (p4 : P4) (a1 : α1) (p5 : P5 a1) (p6 : P6 a1), C) : C := xAAEA h.2.2 (k h.1 h.2.1)
theorem xAAEAAA.{u1} {α1 : Sort u1} {P1 : Prop} {P2 : Prop} {P3 : α1 → Prop} {P4 : α1 → Prop} {P5 : α1 → Prop} {P6 : α1 → Prop} {C : Prop} (h : P1 ∧ P2 ∧ ∃ a1, P3 a1 ∧ P4 a1 ∧ P5 a1 ∧ P6 a1) (k : ∀ (p1 : P1) (p2 : P2) (a1 : α1) (p3 : P3 a1) (p4 : P4 a1) (p5 : P5 a1) (p6 : P6 a1), C) : C := xEAAA h.2.2 (k h.1 h.2.1)
theorem xEAAEEA.{u1, u2, u3} {α1 : Sort u1} {α2 : Sort u2} {α3 : Sort u3} {P1 : α1 → Prop} {P2 : α1 → Prop} {P3 : α1 → α2 → α3 → Prop} {P4 : α1 → α2 → α3 → Prop} {C : Prop} (h : ∃ a1, P1 a1 ∧ P2 a1 ∧ ∃ a2, ∃ a3, P3 a1 a2 a3 ∧ P4 a1 a2 a3) (k : ∀ (a1 : α1) (p1 : P1 a1) (p2 : P2 a1) (a2 : α2) (a3 : α3) (p3 : P3 a1 a2 a3) (p4 : P4 a1 a2 a3), C) : C := Exists.elim h fun a1 h => xAAEEA h (k a1)
theorem xEEAAAA.{u1, u2} {α1 : Sort u1} {α2 : Sort u2} {P1 : α1 → α2 → Prop} {P2 : α1 → α2 → Prop} {P3 : α1 → α2 → Prop} {P4 : α1 → α2 → Prop} {P5 : α1 → α2 → Prop} {C : Prop} (h : ∃ a1, ∃ a2, P1 a1 a2 ∧ P2 a1 a2 ∧ P3 a1 a2 ∧ P4 a1 a2 ∧ P5 a1 a2) (k : ∀ (a1 : α1) (a2 : α2) (p1 : P1 a1 a2) (p2 : P2 a1 a2) (p3 : P3 a1 a2) (p4 : P4 a1 a2) (p5 : P5 a1 a2), C) : C := Exists.elim h fun a1 h => xEAAAA h (k a1)
theorem xEEEAAA.{u1, u2, u3} {α1 : Sort u1} {α2 : Sort u2} {α3 : Sort u3} {P1 : α1 → α2 → α3 → Prop} {P2 : α1 → α2 → α3 → Prop} {P3 : α1 → α2 → α3 → Prop} {P4 : α1 → α2 → α3 → Prop} {C : Prop} (h : ∃ a1, ∃ a2, ∃ a3, P1 a1 a2 a3 ∧ P2 a1 a2 a3 ∧ P3 a1 a2 a3 ∧ P4 a1 a2 a3) (k : ∀ (a1 : α1) (a2 : α2) (a3 : α3) (p1 : P1 a1 a2 a3) (p2 : P2 a1 a2 a3) (p3 : P3 a1 a2 a3) (p4 : P4 a1 a2 a3), C) : C := Exists.elim h fun a1 h => xEEAAA h (k a1)
theorem xEEEEAA.{u1, u2, u3, u4} {α1 : Sort u1} {α2 : Sort u2} {α3 : Sort u3} {α4 : Sort u4} {P1 : α1 → α2 → α3 → α4 → Prop} {P2 : α1 → α2 → α3 → α4 → Prop} {P3 : α1 → α2 → α3 → α4 → Prop} {C : Prop} (h : ∃ a1, ∃ a2, ∃ a3, ∃ a4, P1 a1 a2 a3 a4 ∧ P2 a1 a2 a3 a4 ∧ P3 a1 a2 a3 a4) (k : ∀ (a1 : α1) (a2 : α2) (a3 : α3) (a4 : α4) (p1 : P1 a1 a2 a3 a4) (p2 : P2 a1 a2 a3 a4) (p3 : P3 a1 a2 a3 a4), C) : C := Exists.elim h fun a1 h => xEEEAA h (k a1)
theorem xEEEEEA.{u1, u2, u3, u4, u5} {α1 : Sort u1} {α2 : Sort u2} {α3 : Sort u3} {α4 : Sort u4} {α5 : Sort u5} {P1 : α1 → α2 → α3 → α4 → α5 → Prop} {P2 : α1 → α2 → α3 → α4 → α5 → Prop} {C : Prop} (h : ∃ a1, ∃ a2, ∃ a3, ∃ a4, ∃ a5, P1 a1 a2 a3 a4 a5 ∧ P2 a1 a2 a3 a4 a5) (k : ∀ (a1 : α1) (a2 : α2) (a3 : α3) (a4 : α4) (a5 : α5) (p1 : P1 a1 a2 a3 a4 a5) (p2 : P2 a1 a2 a3 a4 a5), C) : C := Exists.elim h fun a1 h => xEEEEA h (k a1)
theorem iEAEAAAA.{u1, u2} {α1 : Sort u1} {α2 : Sort u2} {P1 : α1 → Prop} {P2 : α1 → α2 → Prop} {P3 : α1 → α2 → Prop} {P4 : α1 → α2 → Prop} {P5 : α1 → α2 → Prop} {P6 : α1 → α2 → Prop} (a1 : α1) (p1 : P1 a1) (a2 : α2) (p2 : P2 a1 a2) (p3 : P3 a1 a2) (p4 : P4 a1 a2) (p5 : P5 a1 a2) (p6 : P6 a1 a2) : ∃ a1, P1 a1 ∧ ∃ a2, P2 a1 a2 ∧ P3 a1 a2 ∧ P4 a1 a2 ∧ P5 a1 a2 ∧ P6 a1 a2 := ⟨a1, ⟨p1, iEAAAA a2 p2 p3 p4 p5 p6⟩⟩
theorem iEEAAAAA.{u1, u2} {α1 : Sort u1} {α2 : Sort u2} {P1 : α1 → α2 → Prop} {P2 : α1 → α2 → Prop} {P3 : α1 → α2 → Prop} {P4 : α1 → α2 → Prop} {P5 : α1 → α2 → Prop} {P6 : α1 → α2 → Prop} (a1 : α1) (a2 : α2) (p1 : P1 a1 a2) (p2 : P2 a1 a2) (p3 : P3 a1 a2) (p4 : P4 a1 a2) (p5 : P5 a1 a2) (p6 : P6 a1 a2) : ∃ a1, ∃ a2, P1 a1 a2 ∧ P2 a1 a2 ∧ P3 a1 a2 ∧ P4 a1 a2 ∧ P5 a1 a2 ∧ P6 a1 a2 := ⟨a1, ⟨a2, iAAAAA p1 p2 p3 p4 p5 p6⟩⟩
theorem iEEEAAAA.{u1, u2, u3} {α1 : Sort u1} {α2 : Sort u2} {α3 : Sort u3} {P1 : α1 → α2 → α3 → Prop} {P2 : α1 → α2 → α3 → Prop} {P3 : α1 → α2 → α3 → Prop} {P4 : α1 → α2 → α3 → Prop} {P5 : α1 → α2 → α3 → Prop} (a1 : α1) (a2 : α2) (a3 : α3) (p1 : P1 a1 a2 a3) (p2 : P2 a1 a2 a3) (p3 : P3 a1 a2 a3) (p4 : P4 a1 a2 a3) (p5 : P5 a1 a2 a3) : ∃ a1, ∃ a2, ∃ a3, P1 a1 a2 a3 ∧ P2 a1 a2 a3 ∧ P3 a1 a2 a3 ∧ P4 a1 a2 a3 ∧ P5 a1 a2 a3 := ⟨a1, iEEAAAA a2 a3 p1 p2 p3 p4 p5⟩
theorem iEEEEAAA.{u1, u2, u3, u4} {α1 : Sort u1} {α2 : Sort u2} {α3 : Sort u3} {α4 : Sort u4} {P1 : α1 → α2 → α3 → α4 → Prop} {P2 : α1 → α2 → α3 → α4 → Prop} {P3 : α1 → α2 → α3 → α4 → Prop} {P4 : α1 → α2 → α3 → α4 → Prop} (a1 : α1) (a2 : α2) (a3 : α3) (a4 : α4) (p1 : P1 a1 a2 a3 a4) (p2 : P2 a1 a2 a3 a4) (p3 : P3 a1 a2 a3 a4) (p4 : P4 a1 a2 a3 a4) : ∃ a1, ∃ a2, ∃ a3, ∃ a4, P1 a1 a2 a3 a4 ∧ P2 a1 a2 a3 a4 ∧ P3 a1 a2 a3 a4 ∧ P4 a1 a2 a3 a4 := ⟨a1, iEEEAAA a2 a3 a4 p1 p2 p3 p4⟩
theorem xEEAAAAA.{u1, u2} {α1 : Sort u1} {α2 : Sort u2} {P1 : α1 → α2 → Prop} {P2 : α1 → α2 → Prop} {P3 : α1 → α2 → Prop} {P4 : α1 → α2 → Prop} {P5 : α1 → α2 → Prop} {P6 : α1 → α2 → Prop} {C : Prop} (h : ∃ a1, ∃ a2, P1 a1 a2 ∧ P2 a1 a2 ∧ P3 a1 a2 ∧ P4 a1 a2 ∧ P5 a1 a2 ∧ P6 a1 a2) (k : ∀ (a1 : α1) (a2 : α2) (p1 : P1 a1 a2) (p2 : P2 a1 a2) (p3 : P3 a1 a2) (p4 : P4 a1 a2) (p5 : P5 a1 a2) (p6 : P6 a1 a2), C) : C := Exists.elim h fun a1 h => Exists.elim h fun a2 h => xAAAA h.2 (k a1 a2 h.1)
theorem xEEEAAAA.{u1, u2, u3} {α1 : Sort u1} {α2 : Sort u2} {α3 : Sort u3} {P1 : α1 → α2 → α3 → Prop} {P2 : α1 → α2 → α3 → Prop} {P3 : α1 → α2 → α3 → Prop} {P4 : α1 → α2 → α3 → Prop} {P5 : α1 → α2 → α3 → Prop} {C : Prop} (h : ∃ a1, ∃ a2, ∃ a3, P1 a1 a2 a3 ∧ P2 a1 a2 a3 ∧ P3 a1 a2 a3 ∧ P4 a1 a2 a3 ∧ P5 a1 a2 a3) (k : ∀ (a1 : α1) (a2 : α2) (a3 : α3) (p1 : P1 a1 a2 a3) (p2 : P2 a1 a2 a3) (p3 : P3 a1 a2 a3) (p4 : P4 a1 a2 a3) (p5 : P5 a1 a2 a3), C) : C := Exists.elim h fun a1 h => xEEAAAA h (k a1)
theorem iEAAAAAAA.{u1} {α1 : Sort u1} {P1 : α1 → Prop} {P2 : α1 → Prop} {P3 : α1 → Prop} {P4 : α1 → Prop} {P5 : α1 → Prop} {P6 : α1 → Prop} {P7 : α1 → Prop} {P8 : α1 → Prop} (a1 : α1) (p1 : P1 a1) (p2 : P2 a1) (p3 : P3 a1) (p4 : P4 a1) (p5 : P5 a1) (p6 : P6 a1) (p7 : P7 a1) (p8 : P8 a1) : ∃ a1, P1 a1 ∧ P2 a1 ∧ P3 a1 ∧ P4 a1 ∧ P5 a1 ∧ P6 a1 ∧ P7 a1 ∧ P8 a1 := ⟨a1, ⟨p1, ⟨p2, iAAAAA p3 p4 p5 p6 p7 p8⟩⟩⟩
theorem iEAAAEAAA.{u1, u2} {α1 : Sort u1} {α2 : Sort u2} {P1 : α1 → Prop} {P2 : α1 → Prop} {P3 : α1 → Prop} {P4 : α1 → α2 → Prop} {P5 : α1 → α2 → Prop} {P6 : α1 → α2 → Prop} {P7 : α1 → α2 → Prop} (a1 : α1) (p1 : P1 a1) (p2 : P2 a1) (p3 : P3 a1) (a2 : α2) (p4 : P4 a1 a2) (p5 : P5 a1 a2) (p6 : P6 a1 a2) (p7 : P7 a1 a2) : ∃ a1, P1 a1 ∧ P2 a1 ∧ P3 a1 ∧ ∃ a2, P4 a1 a2 ∧ P5 a1 a2 ∧ P6 a1 a2 ∧ P7 a1 a2 := ⟨a1, ⟨p1, iAAEAAA p2 p3 a2 p4 p5 p6 p7⟩⟩
theorem iEEEAAAAA.{u1, u2, u3} {α1 : Sort u1} {α2 : Sort u2} {α3 : Sort u3} {P1 : α1 → α2 → α3 → Prop} {P2 : α1 → α2 → α3 → Prop} {P3 : α1 → α2 → α3 → Prop} {P4 : α1 → α2 → α3 → Prop} {P5 : α1 → α2 → α3 → Prop} {P6 : α1 → α2 → α3 → Prop} (a1 : α1) (a2 : α2) (a3 : α3) (p1 : P1 a1 a2 a3) (p2 : P2 a1 a2 a3) (p3 : P3 a1 a2 a3) (p4 : P4 a1 a2 a3) (p5 : P5 a1 a2 a3) (p6 : P6 a1 a2 a3) : ∃ a1, ∃ a2, ∃ a3, P1 a1 a2 a3 ∧ P2 a1 a2 a3 ∧ P3 a1 a2 a3 ∧ P4 a1 a2 a3 ∧ P5 a1 a2 a3 ∧ P6 a1 a2 a3 := ⟨a1, iEEAAAAA a2 a3 p1 p2 p3 p4 p5 p6⟩
theorem xEAAAAAAA.{u1} {α1 : Sort u1} {P1 : α1 → Prop} {P2 : α1 → Prop} {P3 : α1 → Prop} {P4 : α1 → Prop} {P5 : α1 → Prop} {P6 : α1 → Prop} {P7 : α1 → Prop} {P8 : α1 → Prop} {C : Prop} (h : ∃ a1, P1 a1 ∧ P2 a1 ∧ P3 a1 ∧ P4 a1 ∧ P5 a1 ∧ P6 a1 ∧ P7 a1 ∧ P8 a1) (k : ∀ (a1 : α1) (p1 : P1 a1) (p2 : P2 a1) (p3 : P3 a1) (p4 : P4 a1) (p5 : P5 a1) (p6 : P6 a1) (p7 : P7 a1) (p8 : P8 a1), C) : C := Exists.elim h fun a1 h => xAAAA h.2.2.2 (k a1 h.1 h.2.1 h.2.2.1)
theorem xEEEAAAAA.{u1, u2, u3} {α1 : Sort u1} {α2 : Sort u2} {α3 : Sort u3} {P1 : α1 → α2 → α3 → Prop} {P2 : α1 → α2 → α3 → Prop} {P3 : α1 → α2 → α3 → Prop} {P4 : α1 → α2 → α3 → Prop} {P5 : α1 → α2 → α3 → Prop} {P6 : α1 → α2 → α3 → Prop} {C : Prop} (h : ∃ a1, ∃ a2, ∃ a3, P1 a1 a2 a3 ∧ P2 a1 a2 a3 ∧ P3 a1 a2 a3 ∧ P4 a1 a2 a3 ∧ P5 a1 a2 a3 ∧ P6 a1 a2 a3) (k : ∀ (a1 : α1) (a2 : α2) (a3 : α3) (p1 : P1 a1 a2 a3) (p2 : P2 a1 a2 a3) (p3 : P3 a1 a2 a3) (p4 : P4 a1 a2 a3) (p5 : P5 a1 a2 a3) (p6 : P6 a1 a2 a3), C) : C := Exists.elim h fun a1 h => xEEAAAAA h (k a1)
theorem iAEEEAAAAA.{u1, u2, u3} {α1 : Sort u1} {α2 : Sort u2} {α3 : Sort u3} {P1 : Prop} {P2 : α1 → α2 → α3 → Prop} {P3 : α1 → α2 → α3 → Prop} {P4 : α1 → α2 → α3 → Prop} {P5 : α1 → α2 → α3 → Prop} {P6 : α1 → α2 → α3 → Prop} {P7 : α1 → α2 → α3 → Prop} (p1 : P1) (a1 : α1) (a2 : α2) (a3 : α3) (p2 : P2 a1 a2 a3) (p3 : P3 a1 a2 a3) (p4 : P4 a1 a2 a3) (p5 : P5 a1 a2 a3) (p6 : P6 a1 a2 a3) (p7 : P7 a1 a2 a3) : P1 ∧ ∃ a1, ∃ a2, ∃ a3, P2 a1 a2 a3 ∧ P3 a1 a2 a3 ∧ P4 a1 a2 a3 ∧ P5 a1 a2 a3 ∧ P6 a1 a2 a3 ∧ P7 a1 a2 a3 := ⟨p1, iEEEAAAAA a1 a2 a3 p2 p3 p4 p5 p6 p7⟩
theorem iEAAAAAAAA.{u1} {α1 : Sort u1} {P1 : α1 → Prop} {P2 : α1 → Prop} {P3 : α1 → Prop} {P4 : α1 → Prop} {P5 : α1 → Prop} {P6 : α1 → Prop} {P7 : α1 → Prop} {P8 : α1 → Prop} {P9 : α1 → Prop} (a1 : α1) (p1 : P1 a1) (p2 : P2 a1) (p3 : P3 a1) (p4 : P4 a1) (p5 : P5 a1) (p6 : P6 a1) (p7 : P7 a1) (p8 : P8 a1) (p9 : P9 a1) : ∃ a1, P1 a1 ∧ P2 a1 ∧ P3 a1 ∧ P4 a1 ∧ P5 a1 ∧ P6 a1 ∧ P7 a1 ∧ P8 a1 ∧ P9 a1 := ⟨a1, ⟨p1, ⟨p2, ⟨p3, iAAAAA p4 p5 p6 p7 p8 p9⟩⟩⟩⟩
theorem iEAAEEEAAA.{u1, u2, u3, u4} {α1 : Sort u1} {α2 : Sort u2} {α3 : Sort u3} {α4 : Sort u4} {P1 : α1 → Prop} {P2 : α1 → Prop} {P3 : α1 → α2 → α3 → α4 → Prop} {P4 : α1 → α2 → α3 → α4 → Prop} {P5 : α1 → α2 → α3 → α4 → Prop} {P6 : α1 → α2 → α3 → α4 → Prop} (a1 : α1) (p1 : P1 a1) (p2 : P2 a1) (a2 : α2) (a3 : α3) (a4 : α4) (p3 : P3 a1 a2 a3 a4) (p4 : P4 a1 a2 a3 a4) (p5 : P5 a1 a2 a3 a4) (p6 : P6 a1 a2 a3 a4) : ∃ a1, P1 a1 ∧ P2 a1 ∧ ∃ a2, ∃ a3, ∃ a4, P3 a1 a2 a3 a4 ∧ P4 a1 a2 a3 a4 ∧ P5 a1 a2 a3 a4 ∧ P6 a1 a2 a3 a4 := ⟨a1, ⟨p1, ⟨p2, iEEEAAA a2 a3 a4 p3 p4 p5 p6⟩⟩⟩
theorem iEAEEEAAAA.{u1, u2, u3, u4} {α1 : Sort u1} {α2 : Sort u2} {α3 : Sort u3} {α4 : Sort u4} {P1 : α1 → Prop} {P2 : α1 → α2 → α3 → α4 → Prop} {P3 : α1 → α2 → α3 → α4 → Prop} {P4 : α1 → α2 → α3 → α4 → Prop} {P5 : α1 → α2 → α3 → α4 → Prop} {P6 : α1 → α2 → α3 → α4 → Prop} (a1 : α1) (p1 : P1 a1) (a2 : α2) (a3 : α3) (a4 : α4) (p2 : P2 a1 a2 a3 a4) (p3 : P3 a1 a2 a3 a4) (p4 : P4 a1 a2 a3 a4) (p5 : P5 a1 a2 a3 a4) (p6 : P6 a1 a2 a3 a4) : ∃ a1, P1 a1 ∧ ∃ a2, ∃ a3, ∃ a4, P2 a1 a2 a3 a4 ∧ P3 a1 a2 a3 a4 ∧ P4 a1 a2 a3 a4 ∧ P5 a1 a2 a3 a4 ∧ P6 a1 a2 a3 a4 := ⟨a1, ⟨p1, iEEEAAAA a2 a3 a4 p2 p3 p4 p5 p6⟩⟩
theorem iEEAAAAAAA.{u1, u2} {α1 : Sort u1} {α2 : Sort u2} {P1 : α1 → α2 → Prop} {P2 : α1 → α2 → Prop} {P3 : α1 → α2 → Prop} {P4 : α1 → α2 → Prop} {P5 : α1 → α2 → Prop} {P6 : α1 → α2 → Prop} {P7 : α1 → α2 → Prop} {P8 : α1 → α2 → Prop} (a1 : α1) (a2 : α2) (p1 : P1 a1 a2) (p2 : P2 a1 a2) (p3 : P3 a1 a2) (p4 : P4 a1 a2) (p5 : P5 a1 a2) (p6 : P6 a1 a2) (p7 : P7 a1 a2) (p8 : P8 a1 a2) : ∃ a1, ∃ a2, P1 a1 a2 ∧ P2 a1 a2 ∧ P3 a1 a2 ∧ P4 a1 a2 ∧ P5 a1 a2 ∧ P6 a1 a2 ∧ P7 a1 a2 ∧ P8 a1 a2 := ⟨a1, iEAAAAAAA a2 p1 p2 p3 p4 p5 p6 p7 p8⟩
theorem iEEEEAAAAA.{u1, u2, u3, u4} {α1 : Sort u1} {α2 : Sort u2} {α3 : Sort u3} {α4 : Sort u4} {P1 : α1 → α2 → α3 → α4 → Prop} {P2 : α1 → α2 → α3 → α4 → Prop} {P3 : α1 → α2 → α3 → α4 → Prop} {P4 : α1 → α2 → α3 → α4 → Prop} {P5 : α1 → α2 → α3 → α4 → Prop} {P6 : α1 → α2 → α3 → α4 → Prop} (a1 : α1) (a2 : α2) (a3 : α3) (a4 : α4) (p1 : P1 a1 a2 a3 a4) (p2 : P2 a1 a2 a3 a4) (p3 : P3 a1 a2 a3 a4) (p4 : P4 a1 a2 a3 a4) (p5 : P5 a1 a2 a3 a4) (p6 : P6 a1 a2 a3 a4) : ∃ a1, ∃ a2, ∃ a3, ∃ a4, P1 a1 a2 a3 a4 ∧ P2 a1 a2 a3 a4 ∧ P3 a1 a2 a3 a4 ∧ P4 a1 a2 a3 a4 ∧ P5 a1 a2 a3 a4 ∧ P6 a1 a2 a3 a4 := ⟨a1, iEEEAAAAA a2 a3 a4 p1 p2 p3 p4 p5 p6⟩
theorem iEEEEEAAAA.{u1, u2, u3, u4, u5} {α1 : Sort u1} {α2 : Sort u2} {α3 : Sort u3} {α4 : Sort u4} {α5 : Sort u5} {P1 : α1 → α2 → α3 → α4 → α5 → Prop} {P2 : α1 → α2 → α3 → α4 → α5 → Prop} {P3 : α1 → α2 → α3 → α4 → α5 → Prop} {P4 : α1 → α2 → α3 → α4 → α5 → Prop} {P5 : α1 → α2 → α3 → α4 → α5 → Prop} (a1 : α1) (a2 : α2) (a3 : α3) (a4 : α4) (a5 : α5) (p1 : P1 a1 a2 a3 a4 a5) (p2 : P2 a1 a2 a3 a4 a5) (p3 : P3 a1 a2 a3 a4 a5) (p4 : P4 a1 a2 a3 a4 a5) (p5 : P5 a1 a2 a3 a4 a5) : ∃ a1, ∃ a2, ∃ a3, ∃ a4, ∃ a5, P1 a1 a2 a3 a4 a5 ∧ P2 a1 a2 a3 a4 a5 ∧ P3 a1 a2 a3 a4 a5 ∧ P4 a1 a2 a3 a4 a5 ∧ P5 a1 a2 a3 a4 a5 := ⟨a1, ⟨a2, iEEEAAAA a3 a4 a5 p1 p2 p3 p4 p5⟩⟩
theorem iEEEEEEAAA.{u1, u2, u3, u4, u5, u6} {α1 : Sort u1} {α2 : Sort u2} {α3 : Sort u3} {α4 : Sort u4} {α5 : Sort u5} {α6 : Sort u6} {P1 : α1 → α2 → α3 → α4 → α5 → α6 → Prop} {P2 : α1 → α2 → α3 → α4 → α5 → α6 → Prop} {P3 : α1 → α2 → α3 → α4 → α5 → α6 → Prop} {P4 : α1 → α2 → α3 → α4 → α5 → α6 → Prop} (a1 : α1) (a2 : α2) (a3 : α3) (a4 : α4) (a5 : α5) (a6 : α6) (p1 : P1 a1 a2 a3 a4 a5 a6) (p2 : P2 a1 a2 a3 a4 a5 a6) (p3 : P3 a1 a2 a3 a4 a5 a6) (p4 : P4 a1 a2 a3 a4 a5 a6) : ∃ a1, ∃ a2, ∃ a3, ∃ a4, ∃ a5, ∃ a6, P1 a1 a2 a3 a4 a5 a6 ∧ P2 a1 a2 a3 a4 a5 a6 ∧ P3 a1 a2 a3 a4 a5 a6 ∧ P4 a1 a2 a3 a4 a5 a6 := ⟨a1, ⟨a2, iEEEEAAA a3 a4 a5 a6 p1 p2 p3 p4⟩⟩
theorem xAEEEAAAAA.{u1, u2, u3} {α1 : Sort u1} {α2 : Sort u2} {α3 : Sort u3} {P1 : Prop} {P2 : α1 → α2 → α3 → Prop} {P3 : α1 → α2 → α3 → Prop} {P4 : α1 → α2 → α3 → Prop} {P5 : α1 → α2 → α3 → Prop} {P6 : α1 → α2 → α3 → Prop} {P7 : α1 → α2 → α3 → Prop} {C : Prop} (h : P1 ∧ ∃ a1, ∃ a2, ∃ a3, P2 a1 a2 a3 ∧ P3 a1 a2 a3 ∧ P4 a1 a2 a3 ∧ P5 a1 a2 a3 ∧ P6 a1 a2 a3 ∧ P7 a1 a2 a3) (k : ∀ (p1 : P1) (a1 : α1) (a2 : α2) (a3 : α3) (p2 : P2 a1 a2 a3) (p3 : P3 a1 a2 a3) (p4 : P4 a1 a2 a3) (p5 : P5 a1 a2 a3) (p6 : P6 a1 a2 a3) (p7 : P7 a1 a2 a3), C) : C := xEEEAAAAA h.2 (k h.1)
theorem xEAAAAAAAA.{u1} {α1 : Sort u1} {P1 : α1 → Prop} {P2 : α1 → Prop} {P3 : α1 → Prop} {P4 : α1 → Prop} {P5 : α1 → Prop} {P6 : α1 → Prop} {P7 : α1 → Prop} {P8 : α1 → Prop} {P9 : α1 → Prop} {C : Prop} (h : ∃ a1, P1 a1 ∧ P2 a1 ∧ P3 a1 ∧ P4 a1 ∧ P5 a1 ∧ P6 a1 ∧ P7 a1 ∧ P8 a1 ∧ P9 a1) (k : ∀ (a1 : α1) (p1 : P1 a1) (p2 : P2 a1) (p3 : P3 a1) (p4 : P4 a1) (p5 : P5 a1) (p6 : P6 a1) (p7 : P7 a1) (p8 : P8 a1) (p9 : P9 a1), C) : C := Exists.elim h fun a1 h => xAAAA h.2.2.2.2 (k a1 h.1 h.2.1 h.2.2.1 h.2.2.2.1)
theorem xEEAAAAAAA.{u1, u2} {α1 : Sort u1} {α2 : Sort u2} {P1 : α1 → α2 → Prop} {P2 : α1 → α2 → Prop} {P3 : α1 → α2 → Prop} {P4 : α1 → α2 → Prop} {P5 : α1 → α2 → Prop} {P6 : α1 → α2 → Prop} {P7 : α1 → α2 → Prop} {P8 : α1 → α2 → Prop} {C : Prop} (h : ∃ a1, ∃ a2, P1 a1 a2 ∧ P2 a1 a2 ∧ P3 a1 a2 ∧ P4 a1 a2 ∧ P5 a1 a2 ∧ P6 a1 a2 ∧ P7 a1 a2 ∧ P8 a1 a2) (k : ∀ (a1 : α1) (a2 : α2) (p1 : P1 a1 a2) (p2 : P2 a1 a2) (p3 : P3 a1 a2) (p4 : P4 a1 a2) (p5 : P5 a1 a2) (p6 : P6 a1 a2) (p7 : P7 a1 a2) (p8 : P8 a1 a2), C) : C := Exists.elim h fun a1 h => xEAAAAAAA h (k a1)
theorem xEEEEAAAAA.{u1, u2, u3, u4} {α1 : Sort u1} {α2 : Sort u2} {α3 : Sort u3} {α4 : Sort u4} {P1 : α1 → α2 → α3 → α4 → Prop} {P2 : α1 → α2 → α3 → α4 → Prop} {P3 : α1 → α2 → α3 → α4 → Prop} {P4 : α1 → α2 → α3 → α4 → Prop} {P5 : α1 → α2 → α3 → α4 → Prop} {P6 : α1 → α2 → α3 → α4 → Prop} {C : Prop} (h : ∃ a1, ∃ a2, ∃ a3, ∃ a4, P1 a1 a2 a3 a4 ∧ P2 a1 a2 a3 a4 ∧ P3 a1 a2 a3 a4 ∧ P4 a1 a2 a3 a4 ∧ P5 a1 a2 a3 a4 ∧ P6 a1 a2 a3 a4) (k : ∀ (a1 : α1) (a2 : α2) (a3 : α3) (a4 : α4) (p1 : P1 a1 a2 a3 a4) (p2 : P2 a1 a2 a3 a4) (p3 : P3 a1 a2 a3 a4) (p4 : P4 a1 a2 a3 a4) (p5 : P5 a1 a2 a3 a4) (p6 : P6 a1 a2 a3 a4), C) : C := Exists.elim h fun a1 h => xEEEAAAAA h (k a1)
theorem xEEEEEAAAA.{u1, u2, u3, u4, u5} {α1 : Sort u1} {α2 : Sort u2} {α3 : Sort u3} {α4 : Sort u4} {α5 : Sort u5} {P1 : α1 → α2 → α3 → α4 → α5 → Prop} {P2 : α1 → α2 → α3 → α4 → α5 → Prop} {P3 : α1 → α2 → α3 → α4 → α5 → Prop} {P4 : α1 → α2 → α3 → α4 → α5 → Prop} {P5 : α1 → α2 → α3 → α4 → α5 → Prop} {C : Prop} (h : ∃ a1, ∃ a2, ∃ a3, ∃ a4, ∃ a5, P1 a1 a2 a3 a4 a5 ∧ P2 a1 a2 a3 a4 a5 ∧ P3 a1 a2 a3 a4 a5 ∧ P4 a1 a2 a3 a4 a5 ∧ P5 a1 a2 a3 a4 a5) (k : ∀ (a1 : α1) (a2 : α2) (a3 : α3) (a4 : α4) (a5 : α5) (p1 : P1 a1 a2 a3 a4 a5) (p2 : P2 a1 a2 a3 a4 a5) (p3 : P3 a1 a2 a3 a4 a5) (p4 : P4 a1 a2 a3 a4 a5) (p5 : P5 a1 a2 a3 a4 a5), C) : C := Exists.elim h fun a1 h => Exists.elim h fun a2 h => xEEEAAAA h (k a1 a2)
theorem xEEEEEEAAA.{u1, u2, u3, u4, u5, u6} {α1 : Sort u1} {α2 : Sort u2} {α3 : Sort u3} {α4 : Sort u4} {α5 : Sort u5} {α6 : Sort u6} {P1 : α1 → α2 → α3 → α4 → α5 → α6 → Prop} {P2 : α1 → α2 → α3 → α4 → α5 → α6 → Prop} {P3 : α1 → α2 → α3 → α4 → α5 → α6 → Prop} {P4 : α1 → α2 → α3 → α4 → α5 → α6 → Prop} {C : Prop} (h : ∃ a1, ∃ a2, ∃ a3, ∃ a4, ∃ a5, ∃ a6, P1 a1 a2 a3 a4 a5 a6 ∧ P2 a1 a2 a3 a4 a5 a6 ∧ P3 a1 a2 a3 a4 a5 a6 ∧ P4 a1 a2 a3 a4 a5 a6) (k : ∀ (a1 : α1) (a2 : α2) (a3 : α3) (a4 : α4) (a5 : α5) (a6 : α6) (p1 : P1 a1 a2 a3 a4 a5 a6) (p2 : P2 a1 a2 a3 a4 a5 a6) (p3 : P3 a1 a2 a3 a4 a5 a6) (p4 : P4 a1 a2 a3 a4 a5 a6), C) : C := Exists.elim h fun a1 h => Exists.elim h fun a2 h => Exists.elim h fun a3 h => xEEEAAA h (k a1 a2 a3)
theorem iEEEAAAAAEA.{u1, u2, u3, u4} {α1 : Sort u1} {α2 : Sort u2} {α3 : Sort u3} {α4 : Sort u4} {P1 : α1 → α2 → α3 → Prop} {P2 : α1 → α2 → α3 → Prop} {P3 : α1 → α2 → α3 → Prop} {P4 : α1 → α2 → α3 → Prop} {P5 : α1 → α2 → α3 → Prop} {P6 : α1 → α2 → α3 → α4 → Prop} {P7 : α1 → α2 → α3 → α4 → Prop} (a1 : α1) (a2 : α2) (a3 : α3) (p1 : P1 a1 a2 a3) (p2 : P2 a1 a2 a3) (p3 : P3 a1 a2 a3) (p4 : P4 a1 a2 a3) (p5 : P5 a1 a2 a3) (a4 : α4) (p6 : P6 a1 a2 a3 a4) (p7 : P7 a1 a2 a3 a4) : ∃ a1, ∃ a2, ∃ a3, P1 a1 a2 a3 ∧ P2 a1 a2 a3 ∧ P3 a1 a2 a3 ∧ P4 a1 a2 a3 ∧ P5 a1 a2 a3 ∧ ∃ a4, P6 a1 a2 a3 a4 ∧ P7 a1 a2 a3 a4 := ⟨a1, ⟨a2, ⟨a3, ⟨p1, iAAAAEA p2 p3 p4 p5 a4 p6 p7⟩⟩⟩⟩
theorem iEEEEAAAAAA.{u1, u2, u3, u4} {α1 : Sort u1} {α2 : Sort u2} {α3 : Sort u3} {α4 : Sort u4} {P1 : α1 → α2 → α3 → α4 → Prop} {P2 : α1 → α2 → α3 → α4 → Prop} {P3 : α1 → α2 → α3 → α4 → Prop} {P4 : α1 → α2 → α3 → α4 → Prop} {P5 : α1 → α2 → α3 → α4 → Prop} {P6 : α1 → α2 → α3 → α4 → Prop} {P7 : α1 → α2 → α3 → α4 → Prop} (a1 : α1) (a2 : α2) (a3 : α3) (a4 : α4) (p1 : P1 a1 a2 a3 a4) (p2 : P2 a1 a2 a3 a4) (p3 : P3 a1 a2 a3 a4) (p4 : P4 a1 a2 a3 a4) (p5 : P5 a1 a2 a3 a4) (p6 : P6 a1 a2 a3 a4) (p7 : P7 a1 a2 a3 a4) : ∃ a1, ∃ a2, ∃ a3, ∃ a4, P1 a1 a2 a3 a4 ∧ P2 a1 a2 a3 a4 ∧ P3 a1 a2 a3 a4 ∧ P4 a1 a2 a3 a4 ∧ P5 a1 a2 a3 a4 ∧ P6 a1 a2 a3 a4 ∧ P7 a1 a2 a3 a4 := ⟨a1, ⟨a2, ⟨a3, ⟨a4, ⟨p1, iAAAAA p2 p3 p4 p5 p6 p7⟩⟩⟩⟩⟩
theorem xEEEAAAAAEA.{u1, u2, u3, u4} {α1 : Sort u1} {α2 : Sort u2} {α3 : Sort u3} {α4 : Sort u4} {P1 : α1 → α2 → α3 → Prop} {P2 : α1 → α2 → α3 → Prop} {P3 : α1 → α2 → α3 → Prop} {P4 : α1 → α2 → α3 → Prop} {P5 : α1 → α2 → α3 → Prop} {P6 : α1 → α2 → α3 → α4 → Prop} {P7 : α1 → α2 → α3 → α4 → Prop} {C : Prop} (h : ∃ a1, ∃ a2, ∃ a3, P1 a1 a2 a3 ∧ P2 a1 a2 a3 ∧ P3 a1 a2 a3 ∧ P4 a1 a2 a3 ∧ P5 a1 a2 a3 ∧ ∃ a4, P6 a1 a2 a3 a4 ∧ P7 a1 a2 a3 a4) (k : ∀ (a1 : α1) (a2 : α2) (a3 : α3) (p1 : P1 a1 a2 a3) (p2 : P2 a1 a2 a3) (p3 : P3 a1 a2 a3) (p4 : P4 a1 a2 a3) (p5 : P5 a1 a2 a3) (a4 : α4) (p6 : P6 a1 a2 a3 a4) (p7 : P7 a1 a2 a3 a4), C) : C := Exists.elim h fun a1 h => Exists.elim h fun a2 h => Exists.elim h fun a3 h => xAAAAEA h.2 (k a1 a2 a3 h.1)
theorem xEEEEAAAAAA.{u1, u2, u3, u4} {α1 : Sort u1} {α2 : Sort u2} {α3 : Sort u3} {α4 : Sort u4} {P1 : α1 → α2 → α3 → α4 → Prop} {P2 : α1 → α2 → α3 → α4 → Prop} {P3 : α1 → α2 → α3 → α4 → Prop} {P4 : α1 → α2 → α3 → α4 → Prop} {P5 : α1 → α2 → α3 → α4 → Prop} {P6 : α1 → α2 → α3 → α4 → Prop} {P7 : α1 → α2 → α3 → α4 → Prop} {C : Prop} (h : ∃ a1, ∃ a2, ∃ a3, ∃ a4, P1 a1 a2 a3 a4 ∧ P2 a1 a2 a3 a4 ∧ P3 a1 a2 a3 a4 ∧ P4 a1 a2 a3 a4 ∧ P5 a1 a2 a3 a4 ∧ P6 a1 a2 a3 a4 ∧ P7 a1 a2 a3 a4) (k : ∀ (a1 : α1) (a2 : α2) (a3 : α3) (a4 : α4) (p1 : P1 a1 a2 a3 a4) (p2 : P2 a1 a2 a3 a4) (p3 : P3 a1 a2 a3 a4) (p4 : P4 a1 a2 a3 a4) (p5 : P5 a1 a2 a3 a4) (p6 : P6 a1 a2 a3 a4) (p7 : P7 a1 a2 a3 a4), C) : C := Exists.elim h fun a1 h => Exists.elim h fun a2 h => Exists.elim h fun a3 h => Exists.elim h fun a4 h => xAAAA h.2.2 (k a1 a2 a3 a4 h.1 h.2.1)
theorem iEAAEEEAAAAA.{u1, u2, u3, u4} {α1 : Sort u1} {α2 : Sort u2} {α3 : Sort u3} {α4 : Sort u4} {P1 : α1 → Prop} {P2 : α1 → Prop} {P3 : α1 → α2 → α3 → α4 → Prop} {P4 : α1 → α2 → α3 → α4 → Prop} {P5 : α1 → α2 → α3 → α4 → Prop} {P6 : α1 → α2 → α3 → α4 → Prop} {P7 : α1 → α2 → α3 → α4 → Prop} {P8 : α1 → α2 → α3 → α4 → Prop} (a1 : α1) (p1 : P1 a1) (p2 : P2 a1) (a2 : α2) (a3 : α3) (a4 : α4) (p3 : P3 a1 a2 a3 a4) (p4 : P4 a1 a2 a3 a4) (p5 : P5 a1 a2 a3 a4) (p6 : P6 a1 a2 a3 a4) (p7 : P7 a1 a2 a3 a4) (p8 : P8 a1 a2 a3 a4) : ∃ a1, P1 a1 ∧ P2 a1 ∧ ∃ a2, ∃ a3, ∃ a4, P3 a1 a2 a3 a4 ∧ P4 a1 a2 a3 a4 ∧ P5 a1 a2 a3 a4 ∧ P6 a1 a2 a3 a4 ∧ P7 a1 a2 a3 a4 ∧ P8 a1 a2 a3 a4 := ⟨a1, ⟨p1, iAEEEAAAAA p2 a2 a3 a4 p3 p4 p5 p6 p7 p8⟩⟩
theorem iEEAAAAAAAAA.{u1, u2} {α1 : Sort u1} {α2 : Sort u2} {P1 : α1 → α2 → Prop} {P2 : α1 → α2 → Prop} {P3 : α1 → α2 → Prop} {P4 : α1 → α2 → Prop} {P5 : α1 → α2 → Prop} {P6 : α1 → α2 → Prop} {P7 : α1 → α2 → Prop} {P8 : α1 → α2 → Prop} {P9 : α1 → α2 → Prop} {P10 : α1 → α2 → Prop} (a1 : α1) (a2 : α2) (p1 : P1 a1 a2) (p2 : P2 a1 a2) (p3 : P3 a1 a2) (p4 : P4 a1 a2) (p5 : P5 a1 a2) (p6 : P6 a1 a2) (p7 : P7 a1 a2) (p8 : P8 a1 a2) (p9 : P9 a1 a2) (p10 : P10 a1 a2) : ∃ a1, ∃ a2, P1 a1 a2 ∧ P2 a1 a2 ∧ P3 a1 a2 ∧ P4 a1 a2 ∧ P5 a1 a2 ∧ P6 a1 a2 ∧ P7 a1 a2 ∧ P8 a1 a2 ∧ P9 a1 a2 ∧ P10 a1 a2 := ⟨a1, ⟨a2, ⟨p1, ⟨p2, ⟨p3, ⟨p4, iAAAAA p5 p6 p7 p8 p9 p10⟩⟩⟩⟩⟩⟩
theorem iEEEEAAAAAAA.{u1, u2, u3, u4} {α1 : Sort u1} {α2 : Sort u2} {α3 : Sort u3} {α4 : Sort u4} {P1 : α1 → α2 → α3 → α4 → Prop} {P2 : α1 → α2 → α3 → α4 → Prop} {P3 : α1 → α2 → α3 → α4 → Prop} {P4 : α1 → α2 → α3 → α4 → Prop} {P5 : α1 → α2 → α3 → α4 → Prop} {P6 : α1 → α2 → α3 → α4 → Prop} {P7 : α1 → α2 → α3 → α4 → Prop} {P8 : α1 → α2 → α3 → α4 → Prop} (a1 : α1) (a2 : α2) (a3 : α3) (a4 : α4) (p1 : P1 a1 a2 a3 a4) (p2 : P2 a1 a2 a3 a4) (p3 : P3 a1 a2 a3 a4) (p4 : P4 a1 a2 a3 a4) (p5 : P5 a1 a2 a3 a4) (p6 : P6 a1 a2 a3 a4) (p7 : P7 a1 a2 a3 a4) (p8 : P8 a1 a2 a3 a4) : ∃ a1, ∃ a2, ∃ a3, ∃ a4, P1 a1 a2 a3 a4 ∧ P2 a1 a2 a3 a4 ∧ P3 a1 a2 a3 a4 ∧ P4 a1 a2 a3 a4 ∧ P5 a1 a2 a3 a4 ∧ P6 a1 a2 a3 a4 ∧ P7 a1 a2 a3 a4 ∧ P8 a1 a2 a3 a4 := ⟨a1, ⟨a2, iEEAAAAAAA a3 a4 p1 p2 p3 p4 p5 p6 p7 p8⟩⟩
theorem iEEEEEEAAAAA.{u1, u2, u3, u4, u5, u6} {α1 : Sort u1} {α2 : Sort u2} {α3 : Sort u3} {α4 : Sort u4} {α5 : Sort u5} {α6 : Sort u6} {P1 : α1 → α2 → α3 → α4 → α5 → α6 → Prop} {P2 : α1 → α2 → α3 → α4 → α5 → α6 → Prop} {P3 : α1 → α2 → α3 → α4 → α5 → α6 → Prop} {P4 : α1 → α2 → α3 → α4 → α5 → α6 → Prop} {P5 : α1 → α2 → α3 → α4 → α5 → α6 → Prop} {P6 : α1 → α2 → α3 → α4 → α5 → α6 → Prop} (a1 : α1) (a2 : α2) (a3 : α3) (a4 : α4) (a5 : α5) (a6 : α6) (p1 : P1 a1 a2 a3 a4 a5 a6) (p2 : P2 a1 a2 a3 a4 a5 a6) (p3 : P3 a1 a2 a3 a4 a5 a6) (p4 : P4 a1 a2 a3 a4 a5 a6) (p5 : P5 a1 a2 a3 a4 a5 a6) (p6 : P6 a1 a2 a3 a4 a5 a6) : ∃ a1, ∃ a2, ∃ a3, ∃ a4, ∃ a5, ∃ a6, P1 a1 a2 a3 a4 a5 a6 ∧ P2 a1 a2 a3 a4 a5 a6 ∧ P3 a1 a2 a3 a4 a5 a6 ∧ P4 a1 a2 a3 a4 a5 a6 ∧ P5 a1 a2 a3 a4 a5 a6 ∧ P6 a1 a2 a3 a4 a5 a6 := ⟨a1, ⟨a2, iEEEEAAAAA a3 a4 a5 a6 p1 p2 p3 p4 p5 p6⟩⟩
theorem xEAAEEEAAAAA.{u1, u2, u3, u4} {α1 : Sort u1} {α2 : Sort u2} {α3 : Sort u3} {α4 : Sort u4} {P1 : α1 → Prop} {P2 : α1 → Prop} {P3 : α1 → α2 → α3 → α4 → Prop} {P4 : α1 → α2 → α3 → α4 → Prop} {P5 : α1 → α2 → α3 → α4 → Prop} {P6 : α1 → α2 → α3 → α4 → Prop} {P7 : α1 → α2 → α3 → α4 → Prop} {P8 : α1 → α2 → α3 → α4 → Prop} {C : Prop} (h : ∃ a1, P1 a1 ∧ P2 a1 ∧ ∃ a2, ∃ a3, ∃ a4, P3 a1 a2 a3 a4 ∧ P4 a1 a2 a3 a4 ∧ P5 a1 a2 a3 a4 ∧ P6 a1 a2 a3 a4 ∧ P7 a1 a2 a3 a4 ∧ P8 a1 a2 a3 a4) (k : ∀ (a1 : α1) (p1 : P1 a1) (p2 : P2 a1) (a2 : α2) (a3 : α3) (a4 : α4) (p3 : P3 a1 a2 a3 a4) (p4 : P4 a1 a2 a3 a4) (p5 : P5 a1 a2 a3 a4) (p6 : P6 a1 a2 a3 a4) (p7 : P7 a1 a2 a3 a4) (p8 : P8 a1 a2 a3 a4), C) : C := Exists.elim h fun a1 h => xAEEEAAAAA h.2 (k a1 h.1)
theorem xEEAAAAAAAAA.{u1, u2} {α1 : Sort u1} {α2 : Sort u2} {P1 : α1 → α2 → Prop} {P2 : α1 → α2 → Prop} {P3 : α1 → α2 → Prop} {P4 : α1 → α2 → Prop} {P5 : α1 → α2 → Prop} {P6 : α1 → α2 → Prop} {P7 : α1 → α2 → Prop} {P8 : α1 → α2 → Prop} {P9 : α1 → α2 → Prop} {P10 : α1 → α2 → Prop} {C : Prop} (h : ∃ a1, ∃ a2, P1 a1 a2 ∧ P2 a1 a2 ∧ P3 a1 a2 ∧ P4 a1 a2 ∧ P5 a1 a2 ∧ P6 a1 a2 ∧ P7 a1 a2 ∧ P8 a1 a2 ∧ P9 a1 a2 ∧ P10 a1 a2) (k : ∀ (a1 : α1) (a2 : α2) (p1 : P1 a1 a2) (p2 : P2 a1 a2) (p3 : P3 a1 a2) (p4 : P4 a1 a2) (p5 : P5 a1 a2) (p6 : P6 a1 a2) (p7 : P7 a1 a2) (p8 : P8 a1 a2) (p9 : P9 a1 a2) (p10 : P10 a1 a2), C) : C := Exists.elim h fun a1 h => Exists.elim h fun a2 h => xAAAA h.2.2.2.2.2 (k a1 a2 h.1 h.2.1 h.2.2.1 h.2.2.2.1 h.2.2.2.2.1)
theorem xEEEEAAAAAAA.{u1, u2, u3, u4} {α1 : Sort u1} {α2 : Sort u2} {α3 : Sort u3} {α4 : Sort u4} {P1 : α1 → α2 → α3 → α4 → Prop} {P2 : α1 → α2 → α3 → α4 → Prop} {P3 : α1 → α2 → α3 → α4 → Prop} {P4 : α1 → α2 → α3 → α4 → Prop} {P5 : α1 → α2 → α3 → α4 → Prop} {P6 : α1 → α2 → α3 → α4 → Prop} {P7 : α1 → α2 → α3 → α4 → Prop} {P8 : α1 → α2 → α3 → α4 → Prop} {C : Prop} (h : ∃ a1, ∃ a2, ∃ a3, ∃ a4, P1 a1 a2 a3 a4 ∧ P2 a1 a2 a3 a4 ∧ P3 a1 a2 a3 a4 ∧ P4 a1 a2 a3 a4 ∧ P5 a1 a2 a3 a4 ∧ P6 a1 a2 a3 a4 ∧ P7 a1 a2 a3 a4 ∧ P8 a1 a2 a3 a4) (k : ∀ (a1 : α1) (a2 : α2) (a3 : α3) (a4 : α4) (p1 : P1 a1 a2 a3 a4) (p2 : P2 a1 a2 a3 a4) (p3 : P3 a1 a2 a3 a4) (p4 : P4 a1 a2 a3 a4) (p5 : P5 a1 a2 a3 a4) (p6 : P6 a1 a2 a3 a4) (p7 : P7 a1 a2 a3 a4) (p8 : P8 a1 a2 a3 a4), C) : C := Exists.elim h fun a1 h => Exists.elim h fun a2 h => xEEAAAAAAA h (k a1 a2)
theorem xEEEEEEAAAAA.{u1, u2, u3, u4, u5, u6} {α1 : Sort u1} {α2 : Sort u2} {α3 : Sort u3} {α4 : Sort u4} {α5 : Sort u5} {α6 : Sort u6} {P1 : α1 → α2 → α3 → α4 → α5 → α6 → Prop} {P2 : α1 → α2 → α3 → α4 → α5 → α6 → Prop} {P3 : α1 → α2 → α3 → α4 → α5 → α6 → Prop} {P4 : α1 → α2 → α3 → α4 → α5 → α6 → Prop} {P5 : α1 → α2 → α3 → α4 → α5 → α6 → Prop} {P6 : α1 → α2 → α3 → α4 → α5 → α6 → Prop} {C : Prop} (h : ∃ a1, ∃ a2, ∃ a3, ∃ a4, ∃ a5, ∃ a6, P1 a1 a2 a3 a4 a5 a6 ∧ P2 a1 a2 a3 a4 a5 a6 ∧ P3 a1 a2 a3 a4 a5 a6 ∧ P4 a1 a2 a3 a4 a5 a6 ∧ P5 a1 a2 a3 a4 a5 a6 ∧ P6 a1 a2 a3 a4 a5 a6) (k : ∀ (a1 : α1) (a2 : α2) (a3 : α3) (a4 : α4) (a5 : α5) (a6 : α6) (p1 : P1 a1 a2 a3 a4 a5 a6) (p2 : P2 a1 a2 a3 a4 a5 a6) (p3 : P3 a1 a2 a3 a4 a5 a6) (p4 : P4 a1 a2 a3 a4 a5 a6) (p5 : P5 a1 a2 a3 a4 a5 a6) (p6 : P6 a1 a2 a3 a4 a5 a6), C) : C := Exists.elim h fun a1 h => Exists.elim h fun a2 h => xEEEEAAAAA h (k a1 a2)
theorem iEEAAAAAAAAAA.{u1, u2} {α1 : Sort u1} {α2 : Sort u2} {P1 : α1 → α2 → Prop} {P2 : α1 → α2 → Prop} {P3 : α1 → α2 → Prop} {P4 : α1 → α2 → Prop} {P5 : α1 → α2 → Prop} {P6 : α1 → α2 → Prop} {P7 : α1 → α2 → Prop} {P8 : α1 → α2 → Prop} {P9 : α1 → α2 → Prop} {P10 : α1 → α2 → Prop} {P11 : α1 → α2 → Prop} (a1 : α1) (a2 : α2) (p1 : P1 a1 a2) (p2 : P2 a1 a2) (p3 : P3 a1 a2) (p4 : P4 a1 a2) (p5 : P5 a1 a2) (p6 : P6 a1 a2) (p7 : P7 a1 a2) (p8 : P8 a1 a2) (p9 : P9 a1 a2) (p10 : P10 a1 a2) (p11 : P11 a1 a2) : ∃ a1, ∃ a2, P1 a1 a2 ∧ P2 a1 a2 ∧ P3 a1 a2 ∧ P4 a1 a2 ∧ P5 a1 a2 ∧ P6 a1 a2 ∧ P7 a1 a2 ∧ P8 a1 a2 ∧ P9 a1 a2 ∧ P10 a1 a2 ∧ P11 a1 a2 := ⟨a1, ⟨a2, ⟨p1, ⟨p2, ⟨p3, ⟨p4, ⟨p5, iAAAAA p6 p7 p8 p9 p10 p11⟩⟩⟩⟩⟩⟩⟩
theorem iEEEEAAAAAAAA.{u1, u2, u3, u4} {α1 : Sort u1} {α2 : Sort u2} {α3 : Sort u3} {α4 : Sort u4} {P1 : α1 → α2 → α3 → α4 → Prop} {P2 : α1 → α2 → α3 → α4 → Prop} {P3 : α1 → α2 → α3 → α4 → Prop} {P4 : α1 → α2 → α3 → α4 → Prop} {P5 : α1 → α2 → α3 → α4 → Prop} {P6 : α1 → α2 → α3 → α4 → Prop} {P7 : α1 → α2 → α3 → α4 → Prop} {P8 : α1 → α2 → α3 → α4 → Prop} {P9 : α1 → α2 → α3 → α4 → Prop} (a1 : α1) (a2 : α2) (a3 : α3) (a4 : α4) (p1 : P1 a1 a2 a3 a4) (p2 : P2 a1 a2 a3 a4) (p3 : P3 a1 a2 a3 a4) (p4 : P4 a1 a2 a3 a4) (p5 : P5 a1 a2 a3 a4) (p6 : P6 a1 a2 a3 a4) (p7 : P7 a1 a2 a3 a4) (p8 : P8 a1 a2 a3 a4) (p9 : P9 a1 a2 a3 a4) : ∃ a1, ∃ a2, ∃ a3, ∃ a4, P1 a1 a2 a3 a4 ∧ P2 a1 a2 a3 a4 ∧ P3 a1 a2 a3 a4 ∧ P4 a1 a2 a3 a4 ∧ P5 a1 a2 a3 a4 ∧ P6 a1 a2 a3 a4 ∧ P7 a1 a2 a3 a4 ∧ P8 a1 a2 a3 a4 ∧ P9 a1 a2 a3 a4 := ⟨a1, ⟨a2, ⟨a3, iEAAAAAAAA a4 p1 p2 p3 p4 p5 p6 p7 p8 p9⟩⟩⟩
theorem xEEAAAAAAAAAA.{u1, u2} {α1 : Sort u1} {α2 : Sort u2} {P1 : α1 → α2 → Prop} {P2 : α1 → α2 → Prop} {P3 : α1 → α2 → Prop} {P4 : α1 → α2 → Prop} {P5 : α1 → α2 → Prop} {P6 : α1 → α2 → Prop} {P7 : α1 → α2 → Prop} {P8 : α1 → α2 → Prop} {P9 : α1 → α2 → Prop} {P10 : α1 → α2 → Prop} {P11 : α1 → α2 → Prop} {C : Prop} (h : ∃ a1, ∃ a2, P1 a1 a2 ∧ P2 a1 a2 ∧ P3 a1 a2 ∧ P4 a1 a2 ∧ P5 a1 a2 ∧ P6 a1 a2 ∧ P7 a1 a2 ∧ P8 a1 a2 ∧ P9 a1 a2 ∧ P10 a1 a2 ∧ P11 a1 a2) (k : ∀ (a1 : α1) (a2 : α2) (p1 : P1 a1 a2) (p2 : P2 a1 a2) (p3 : P3 a1 a2) (p4 : P4 a1 a2) (p5 : P5 a1 a2) (p6 : P6 a1 a2) (p7 : P7 a1 a2) (p8 : P8 a1 a2) (p9 : P9 a1 a2) (p10 : P10 a1 a2) (p11 : P11 a1 a2), C) : C := Exists.elim h fun a1 h => Exists.elim h fun a2 h => xAAAA h.2.2.2.2.2.2 (k a1 a2 h.1 h.2.1 h.2.2.1 h.2.2.2.1 h.2.2.2.2.1 h.2.2.2.2.2.1)
theorem xEEEEAAAAAAAA.{u1, u2, u3, u4} {α1 : Sort u1} {α2 : Sort u2} {α3 : Sort u3} {α4 : Sort u4} {P1 : α1 → α2 → α3 → α4 → Prop} {P2 : α1 → α2 → α3 → α4 → Prop} {P3 : α1 → α2 → α3 → α4 → Prop} {P4 : α1 → α2 → α3 → α4 → Prop} {P5 : α1 → α2 → α3 → α4 → Prop} {P6 : α1 → α2 → α3 → α4 → Prop} {P7 : α1 → α2 → α3 → α4 → Prop} {P8 : α1 → α2 → α3 → α4 → Prop} {P9 : α1 → α2 → α3 → α4 → Prop} {C : Prop} (h : ∃ a1, ∃ a2, ∃ a3, ∃ a4, P1 a1 a2 a3 a4 ∧ P2 a1 a2 a3 a4 ∧ P3 a1 a2 a3 a4 ∧ P4 a1 a2 a3 a4 ∧ P5 a1 a2 a3 a4 ∧ P6 a1 a2 a3 a4 ∧ P7 a1 a2 a3 a4 ∧ P8 a1 a2 a3 a4 ∧ P9 a1 a2 a3 a4) (k : ∀ (a1 : α1) (a2 : α2) (a3 : α3) (a4 : α4) (p1 : P1 a1 a2 a3 a4) (p2 : P2 a1 a2 a3 a4) (p3 : P3 a1 a2 a3 a4) (p4 : P4 a1 a2 a3 a4) (p5 : P5 a1 a2 a3 a4) (p6 : P6 a1 a2 a3 a4) (p7 : P7 a1 a2 a3 a4) (p8 : P8 a1 a2 a3 a4) (p9 : P9 a1 a2 a3 a4), C) : C := Exists.elim h fun a1 h => Exists.elim h fun a2 h => Exists.elim h fun a3 h => xEAAAAAAAA h (k a1 a2 a3)
theorem iEAEEAAAAAAAAA.{u1, u2, u3} {α1 : Sort u1} {α2 : Sort u2} {α3 : Sort u3} {P1 : α1 → Prop} {P2 : α1 → α2 → α3 → Prop} {P3 : α1 → α2 → α3 → Prop} {P4 : α1 → α2 → α3 → Prop} {P5 : α1 → α2 → α3 → Prop} {P6 : α1 → α2 → α3 → Prop} {P7 : α1 → α2 → α3 → Prop} {P8 : α1 → α2 → α3 → Prop} {P9 : α1 → α2 → α3 → Prop} {P10 : α1 → α2 → α3 → Prop} {P11 : α1 → α2 → α3 → Prop} (a1 : α1) (p1 : P1 a1) (a2 : α2) (a3 : α3) (p2 : P2 a1 a2 a3) (p3 : P3 a1 a2 a3) (p4 : P4 a1 a2 a3) (p5 : P5 a1 a2 a3) (p6 : P6 a1 a2 a3) (p7 : P7 a1 a2 a3) (p8 : P8 a1 a2 a3) (p9 : P9 a1 a2 a3) (p10 : P10 a1 a2 a3) (p11 : P11 a1 a2 a3) : ∃ a1, P1 a1 ∧ ∃ a2, ∃ a3, P2 a1 a2 a3 ∧ P3 a1 a2 a3 ∧ P4 a1 a2 a3 ∧ P5 a1 a2 a3 ∧ P6 a1 a2 a3 ∧ P7 a1 a2 a3 ∧ P8 a1 a2 a3 ∧ P9 a1 a2 a3 ∧ P10 a1 a2 a3 ∧ P11 a1 a2 a3 := ⟨a1, ⟨p1, iEEAAAAAAAAA a2 a3 p2 p3 p4 p5 p6 p7 p8 p9 p10 p11⟩⟩
theorem iEEEEAAAAAAAAA.{u1, u2, u3, u4} {α1 : Sort u1} {α2 : Sort u2} {α3 : Sort u3} {α4 : Sort u4} {P1 : α1 → α2 → α3 → α4 → Prop} {P2 : α1 → α2 → α3 → α4 → Prop} {P3 : α1 → α2 → α3 → α4 → Prop} {P4 : α1 → α2 → α3 → α4 → Prop} {P5 : α1 → α2 → α3 → α4 → Prop} {P6 : α1 → α2 → α3 → α4 → Prop} {P7 : α1 → α2 → α3 → α4 → Prop} {P8 : α1 → α2 → α3 → α4 → Prop} {P9 : α1 → α2 → α3 → α4 → Prop} {P10 : α1 → α2 → α3 → α4 → Prop} (a1 : α1) (a2 : α2) (a3 : α3) (a4 : α4) (p1 : P1 a1 a2 a3 a4) (p2 : P2 a1 a2 a3 a4) (p3 : P3 a1 a2 a3 a4) (p4 : P4 a1 a2 a3 a4) (p5 : P5 a1 a2 a3 a4) (p6 : P6 a1 a2 a3 a4) (p7 : P7 a1 a2 a3 a4) (p8 : P8 a1 a2 a3 a4) (p9 : P9 a1 a2 a3 a4) (p10 : P10 a1 a2 a3 a4) : ∃ a1, ∃ a2, ∃ a3, ∃ a4, P1 a1 a2 a3 a4 ∧ P2 a1 a2 a3 a4 ∧ P3 a1 a2 a3 a4 ∧ P4 a1 a2 a3 a4 ∧ P5 a1 a2 a3 a4 ∧ P6 a1 a2 a3 a4 ∧ P7 a1 a2 a3 a4 ∧ P8 a1 a2 a3 a4 ∧ P9 a1 a2 a3 a4 ∧ P10 a1 a2 a3 a4 := ⟨a1, ⟨a2, iEEAAAAAAAAA a3 a4 p1 p2 p3 p4 p5 p6 p7 p8 p9 p10⟩⟩
theorem iEEEEEAAAAAAAA.{u1, u2, u3, u4, u5} {α1 : Sort u1} {α2 : Sort u2} {α3 : Sort u3} {α4 : Sort u4} {α5 : Sort u5} {P1 : α1 → α2 → α3 → α4 → α5 → Prop} {P2 : α1 → α2 → α3 → α4 → α5 → Prop} {P3 : α1 → α2 → α3 → α4 → α5 → Prop} {P4 : α1 → α2 → α3 → α4 → α5 → Prop} {P5 : α1 → α2 → α3 → α4 → α5 → Prop} {P6 : α1 → α2 → α3 → α4 → α5 → Prop} {P7 : α1 → α2 → α3 → α4 → α5 → Prop} {P8 : α1 → α2 → α3 → α4 → α5 → Prop} {P9 : α1 → α2 → α3 → α4 → α5 → Prop} (a1 : α1) (a2 : α2) (a3 : α3) (a4 : α4) (a5 : α5) (p1 : P1 a1 a2 a3 a4 a5) (p2 : P2 a1 a2 a3 a4 a5) (p3 : P3 a1 a2 a3 a4 a5) (p4 : P4 a1 a2 a3 a4 a5) (p5 : P5 a1 a2 a3 a4 a5) (p6 : P6 a1 a2 a3 a4 a5) (p7 : P7 a1 a2 a3 a4 a5) (p8 : P8 a1 a2 a3 a4 a5) (p9 : P9 a1 a2 a3 a4 a5) : ∃ a1, ∃ a2, ∃ a3, ∃ a4, ∃ a5, P1 a1 a2 a3 a4 a5 ∧ P2 a1 a2 a3 a4 a5 ∧ P3 a1 a2 a3 a4 a5 ∧ P4 a1 a2 a3 a4 a5 ∧ P5 a1 a2 a3 a4 a5 ∧ P6 a1 a2 a3 a4 a5 ∧ P7 a1 a2 a3 a4 a5 ∧ P8 a1 a2 a3 a4 a5 ∧ P9 a1 a2 a3 a4 a5 := ⟨a1, iEEEEAAAAAAAA a2 a3 a4 a5 p1 p2 p3 p4 p5 p6 p7 p8 p9⟩
theorem iEEEEEEEAAAAAA.{u1, u2, u3, u4, u5, u6, u7} {α1 : Sort u1} {α2 : Sort u2} {α3 : Sort u3} {α4 : Sort u4} {α5 : Sort u5} {α6 : Sort u6} {α7 : Sort u7} {P1 : α1 → α2 → α3 → α4 → α5 → α6 → α7 → Prop} {P2 : α1 → α2 → α3 → α4 → α5 → α6 → α7 → Prop} {P3 : α1 → α2 → α3 → α4 → α5 → α6 → α7 → Prop} {P4 : α1 → α2 → α3 → α4 → α5 → α6 → α7 → Prop} {P5 : α1 → α2 → α3 → α4 → α5 → α6 → α7 → Prop} {P6 : α1 → α2 → α3 → α4 → α5 → α6 → α7 → Prop} {P7 : α1 → α2 → α3 → α4 → α5 → α6 → α7 → Prop} (a1 : α1) (a2 : α2) (a3 : α3) (a4 : α4) (a5 : α5) (a6 : α6) (a7 : α7) (p1 : P1 a1 a2 a3 a4 a5 a6 a7) (p2 : P2 a1 a2 a3 a4 a5 a6 a7) (p3 : P3 a1 a2 a3 a4 a5 a6 a7) (p4 : P4 a1 a2 a3 a4 a5 a6 a7) (p5 : P5 a1 a2 a3 a4 a5 a6 a7) (p6 : P6 a1 a2 a3 a4 a5 a6 a7) (p7 : P7 a1 a2 a3 a4 a5 a6 a7) : ∃ a1, ∃ a2, ∃ a3, ∃ a4, ∃ a5, ∃ a6, ∃ a7, P1 a1 a2 a3 a4 a5 a6 a7 ∧ P2 a1 a2 a3 a4 a5 a6 a7 ∧ P3 a1 a2 a3 a4 a5 a6 a7 ∧ P4 a1 a2 a3 a4 a5 a6 a7 ∧ P5 a1 a2 a3 a4 a5 a6 a7 ∧ P6 a1 a2 a3 a4 a5 a6 a7 ∧ P7 a1 a2 a3 a4 a5 a6 a7 := ⟨a1, ⟨a2, ⟨a3, iEEEEAAAAAA a4 a5 a6 a7 p1 p2 p3 p4 p5 p6 p7⟩⟩⟩
theorem xEEEEAAAAAAAAA.{u1, u2, u3, u4} {α1 : Sort u1} {α2 : Sort u2} {α3 : Sort u3} {α4 : Sort u4} {P1 : α1 → α2 → α3 → α4 → Prop} {P2 : α1 → α2 → α3 → α4 → Prop} {P3 : α1 → α2 → α3 → α4 → Prop} {P4 : α1 → α2 → α3 → α4 → Prop} {P5 : α1 → α2 → α3 → α4 → Prop} {P6 : α1 → α2 → α3 → α4 → Prop} {P7 : α1 → α2 → α3 → α4 → Prop} {P8 : α1 → α2 → α3 → α4 → Prop} {P9 : α1 → α2 → α3 → α4 → Prop} {P10 : α1 → α2 → α3 → α4 → Prop} {C : Prop} (h : ∃ a1, ∃ a2, ∃ a3, ∃ a4, P1 a1 a2 a3 a4 ∧ P2 a1 a2 a3 a4 ∧ P3 a1 a2 a3 a4 ∧ P4 a1 a2 a3 a4 ∧ P5 a1 a2 a3 a4 ∧ P6 a1 a2 a3 a4 ∧ P7 a1 a2 a3 a4 ∧ P8 a1 a2 a3 a4 ∧ P9 a1 a2 a3 a4 ∧ P10 a1 a2 a3 a4) (k : ∀ (a1 : α1) (a2 : α2) (a3 : α3) (a4 : α4) (p1 : P1 a1 a2 a3 a4) (p2 : P2 a1 a2 a3 a4) (p3 : P3 a1 a2 a3 a4) (p4 : P4 a1 a2 a3 a4) (p5 : P5 a1 a2 a3 a4) (p6 : P6 a1 a2 a3 a4) (p7 : P7 a1 a2 a3 a4) (p8 : P8 a1 a2 a3 a4) (p9 : P9 a1 a2 a3 a4) (p10 : P10 a1 a2 a3 a4), C) : C := Exists.elim h fun a1 h => Exists.elim h fun a2 h => xEEAAAAAAAAA h (k a1 a2)
theorem xEEEEEAAAAAAAA.{u1, u2, u3, u4, u5} {α1 : Sort u1} {α2 : Sort u2} {α3 : Sort u3} {α4 : Sort u4} {α5 : Sort u5} {P1 : α1 → α2 → α3 → α4 → α5 → Prop} {P2 : α1 → α2 → α3 → α4 → α5 → Prop} {P3 : α1 → α2 → α3 → α4 → α5 → Prop} {P4 : α1 → α2 → α3 → α4 → α5 → Prop} {P5 : α1 → α2 → α3 → α4 → α5 → Prop} {P6 : α1 → α2 → α3 → α4 → α5 → Prop} {P7 : α1 → α2 → α3 → α4 → α5 → Prop} {P8 : α1 → α2 → α3 → α4 → α5 → Prop} {P9 : α1 → α2 → α3 → α4 → α5 → Prop} {C : Prop} (h : ∃ a1, ∃ a2, ∃ a3, ∃ a4, ∃ a5, P1 a1 a2 a3 a4 a5 ∧ P2 a1 a2 a3 a4 a5 ∧ P3 a1 a2 a3 a4 a5 ∧ P4 a1 a2 a3 a4 a5 ∧ P5 a1 a2 a3 a4 a5 ∧ P6 a1 a2 a3 a4 a5 ∧ P7 a1 a2 a3 a4 a5 ∧ P8 a1 a2 a3 a4 a5 ∧ P9 a1 a2 a3 a4 a5) (k : ∀ (a1 : α1) (a2 : α2) (a3 : α3) (a4 : α4) (a5 : α5) (p1 : P1 a1 a2 a3 a4 a5) (p2 : P2 a1 a2 a3 a4 a5) (p3 : P3 a1 a2 a3 a4 a5) (p4 : P4 a1 a2 a3 a4 a5) (p5 : P5 a1 a2 a3 a4 a5) (p6 : P6 a1 a2 a3 a4 a5) (p7 : P7 a1 a2 a3 a4 a5) (p8 : P8 a1 a2 a3 a4 a5) (p9 : P9 a1 a2 a3 a4 a5), C) : C := Exists.elim h fun a1 h => xEEEEAAAAAAAA h (k a1)
theorem iEAEEEEAAAAAAAA.{u1, u2, u3, u4, u5} {α1 : Sort u1} {α2 : Sort u2} {α3 : Sort u3} {α4 : Sort u4} {α5 : Sort u5} {P1 : α1 → Prop} {P2 : α1 → α2 → α3 → α4 → α5 → Prop} {P3 : α1 → α2 → α3 → α4 → α5 → Prop} {P4 : α1 → α2 → α3 → α4 → α5 → Prop} {P5 : α1 → α2 → α3 → α4 → α5 → Prop} {P6 : α1 → α2 → α3 → α4 → α5 → Prop} {P7 : α1 → α2 → α3 → α4 → α5 → Prop} {P8 : α1 → α2 → α3 → α4 → α5 → Prop} {P9 : α1 → α2 → α3 → α4 → α5 → Prop} {P10 : α1 → α2 → α3 → α4 → α5 → Prop} (a1 : α1) (p1 : P1 a1) (a2 : α2) (a3 : α3) (a4 : α4) (a5 : α5) (p2 : P2 a1 a2 a3 a4 a5) (p3 : P3 a1 a2 a3 a4 a5) (p4 : P4 a1 a2 a3 a4 a5) (p5 : P5 a1 a2 a3 a4 a5) (p6 : P6 a1 a2 a3 a4 a5) (p7 : P7 a1 a2 a3 a4 a5) (p8 : P8 a1 a2 a3 a4 a5) (p9 : P9 a1 a2 a3 a4 a5) (p10 : P10 a1 a2 a3 a4 a5) : ∃ a1, P1 a1 ∧ ∃ a2, ∃ a3, ∃ a4, ∃ a5, P2 a1 a2 a3 a4 a5 ∧ P3 a1 a2 a3 a4 a5 ∧ P4 a1 a2 a3 a4 a5 ∧ P5 a1 a2 a3 a4 a5 ∧ P6 a1 a2 a3 a4 a5 ∧ P7 a1 a2 a3 a4 a5 ∧ P8 a1 a2 a3 a4 a5 ∧ P9 a1 a2 a3 a4 a5 ∧ P10 a1 a2 a3 a4 a5 := ⟨a1, ⟨p1, iEEEEAAAAAAAA a2 a3 a4 a5 p2 p3 p4 p5 p6 p7 p8 p9 p10⟩⟩
theorem iEEEAAAAAAAAAAA.{u1, u2, u3} {α1 : Sort u1} {α2 : Sort u2} {α3 : Sort u3} {P1 : α1 → α2 → α3 → Prop} {P2 : α1 → α2 → α3 → Prop} {P3 : α1 → α2 → α3 → Prop} {P4 : α1 → α2 → α3 → Prop} {P5 : α1 → α2 → α3 → Prop} {P6 : α1 → α2 → α3 → Prop} {P7 : α1 → α2 → α3 → Prop} {P8 : α1 → α2 → α3 → Prop} {P9 : α1 → α2 → α3 → Prop} {P10 : α1 → α2 → α3 → Prop} {P11 : α1 → α2 → α3 → Prop} {P12 : α1 → α2 → α3 → Prop} (a1 : α1) (a2 : α2) (a3 : α3) (p1 : P1 a1 a2 a3) (p2 : P2 a1 a2 a3) (p3 : P3 a1 a2 a3) (p4 : P4 a1 a2 a3) (p5 : P5 a1 a2 a3) (p6 : P6 a1 a2 a3) (p7 : P7 a1 a2 a3) (p8 : P8 a1 a2 a3) (p9 : P9 a1 a2 a3) (p10 : P10 a1 a2 a3) (p11 : P11 a1 a2 a3) (p12 : P12 a1 a2 a3) : ∃ a1, ∃ a2, ∃ a3, P1 a1 a2 a3 ∧ P2 a1 a2 a3 ∧ P3 a1 a2 a3 ∧ P4 a1 a2 a3 ∧ P5 a1 a2 a3 ∧ P6 a1 a2 a3 ∧ P7 a1 a2 a3 ∧ P8 a1 a2 a3 ∧ P9 a1 a2 a3 ∧ P10 a1 a2 a3 ∧ P11 a1 a2 a3 ∧ P12 a1 a2 a3 := ⟨a1, ⟨a2, ⟨a3, ⟨p1, ⟨p2, ⟨p3, ⟨p4, ⟨p5, ⟨p6, iAAAAA p7 p8 p9 p10 p11 p12⟩⟩⟩⟩⟩⟩⟩⟩⟩
theorem xEEEAAAAAAAAAAA.{u1, u2, u3} {α1 : Sort u1} {α2 : Sort u2} {α3 : Sort u3} {P1 : α1 → α2 → α3 → Prop} {P2 : α1 → α2 → α3 → Prop} {P3 : α1 → α2 → α3 → Prop} {P4 : α1 → α2 → α3 → Prop} {P5 : α1 → α2 → α3 → Prop} {P6 : α1 → α2 → α3 → Prop} {P7 : α1 → α2 → α3 → Prop} {P8 : α1 → α2 → α3 → Prop} {P9 : α1 → α2 → α3 → Prop} {P10 : α1 → α2 → α3 → Prop} {P11 : α1 → α2 → α3 → Prop} {P12 : α1 → α2 → α3 → Prop} {C : Prop} (h : ∃ a1, ∃ a2, ∃ a3, P1 a1 a2 a3 ∧ P2 a1 a2 a3 ∧ P3 a1 a2 a3 ∧ P4 a1 a2 a3 ∧ P5 a1 a2 a3 ∧ P6 a1 a2 a3 ∧ P7 a1 a2 a3 ∧ P8 a1 a2 a3 ∧ P9 a1 a2 a3 ∧ P10 a1 a2 a3 ∧ P11 a1 a2 a3 ∧ P12 a1 a2 a3) (k : ∀ (a1 : α1) (a2 : α2) (a3 : α3) (p1 : P1 a1 a2 a3) (p2 : P2 a1 a2 a3) (p3 : P3 a1 a2 a3) (p4 : P4 a1 a2 a3) (p5 : P5 a1 a2 a3) (p6 : P6 a1 a2 a3) (p7 : P7 a1 a2 a3) (p8 : P8 a1 a2 a3) (p9 : P9 a1 a2 a3) (p10 : P10 a1 a2 a3) (p11 : P11 a1 a2 a3) (p12 : P12 a1 a2 a3), C) : C := Exists.elim h fun a1 h => Exists.elim h fun a2 h => Exists.elim h fun a3 h => xAAAA h.2.2.2.2.2.2.2 (k a1 a2 a3 h.1 h.2.1 h.2.2.1 h.2.2.2.1 h.2.2.2.2.1 h.2.2.2.2.2.1 h.2.2.2.2.2.2.1)
theorem iEAEEEEAAAAAAAAA.{u1, u2, u3, u4, u5} {α1 : Sort u1} {α2 : Sort u2} {α3 : Sort u3} {α4 : Sort u4} {α5 : Sort u5} {P1 : α1 → Prop} {P2 : α1 → α2 → α3 → α4 → α5 → Prop} {P3 : α1 → α2 → α3 → α4 → α5 → Prop} {P4 : α1 → α2 → α3 → α4 → α5 → Prop} {P5 : α1 → α2 → α3 → α4 → α5 → Prop} {P6 : α1 → α2 → α3 → α4 → α5 → Prop} {P7 : α1 → α2 → α3 → α4 → α5 → Prop} {P8 : α1 → α2 → α3 → α4 → α5 → Prop} {P9 : α1 → α2 → α3 → α4 → α5 → Prop} {P10 : α1 → α2 → α3 → α4 → α5 → Prop} {P11 : α1 → α2 → α3 → α4 → α5 → Prop} (a1 : α1) (p1 : P1 a1) (a2 : α2) (a3 : α3) (a4 : α4) (a5 : α5) (p2 : P2 a1 a2 a3 a4 a5) (p3 : P3 a1 a2 a3 a4 a5) (p4 : P4 a1 a2 a3 a4 a5) (p5 : P5 a1 a2 a3 a4 a5) (p6 : P6 a1 a2 a3 a4 a5) (p7 : P7 a1 a2 a3 a4 a5) (p8 : P8 a1 a2 a3 a4 a5) (p9 : P9 a1 a2 a3 a4 a5) (p10 : P10 a1 a2 a3 a4 a5) (p11 : P11 a1 a2 a3 a4 a5) : ∃ a1, P1 a1 ∧ ∃ a2, ∃ a3, ∃ a4, ∃ a5, P2 a1 a2 a3 a4 a5 ∧ P3 a1 a2 a3 a4 a5 ∧ P4 a1 a2 a3 a4 a5 ∧ P5 a1 a2 a3 a4 a5 ∧ P6 a1 a2 a3 a4 a5 ∧ P7 a1 a2 a3 a4 a5 ∧ P8 a1 a2 a3 a4 a5 ∧ P9 a1 a2 a3 a4 a5 ∧ P10 a1 a2 a3 a4 a5 ∧ P11 a1 a2 a3 a4 a5 := ⟨a1, ⟨p1, iEEEEAAAAAAAAA a2 a3 a4 a5 p2 p3 p4 p5 p6 p7 p8 p9 p10 p11⟩⟩
theorem iEAEEEAAAAAAAAAAA.{u1, u2, u3, u4} {α1 : Sort u1} {α2 : Sort u2} {α3 : Sort u3} {α4 : Sort u4} {P1 : α1 → Prop} {P2 : α1 → α2 → α3 → α4 → Prop} {P3 : α1 → α2 → α3 → α4 → Prop} {P4 : α1 → α2 → α3 → α4 → Prop} {P5 : α1 → α2 → α3 → α4 → Prop} {P6 : α1 → α2 → α3 → α4 → Prop} {P7 : α1 → α2 → α3 → α4 → Prop} {P8 : α1 → α2 → α3 → α4 → Prop} {P9 : α1 → α2 → α3 → α4 → Prop} {P10 : α1 → α2 → α3 → α4 → Prop} {P11 : α1 → α2 → α3 → α4 → Prop} {P12 : α1 → α2 → α3 → α4 → Prop} {P13 : α1 → α2 → α3 → α4 → Prop} (a1 : α1) (p1 : P1 a1) (a2 : α2) (a3 : α3) (a4 : α4) (p2 : P2 a1 a2 a3 a4) (p3 : P3 a1 a2 a3 a4) (p4 : P4 a1 a2 a3 a4) (p5 : P5 a1 a2 a3 a4) (p6 : P6 a1 a2 a3 a4) (p7 : P7 a1 a2 a3 a4) (p8 : P8 a1 a2 a3 a4) (p9 : P9 a1 a2 a3 a4) (p10 : P10 a1 a2 a3 a4) (p11 : P11 a1 a2 a3 a4) (p12 : P12 a1 a2 a3 a4) (p13 : P13 a1 a2 a3 a4) : ∃ a1, P1 a1 ∧ ∃ a2, ∃ a3, ∃ a4, P2 a1 a2 a3 a4 ∧ P3 a1 a2 a3 a4 ∧ P4 a1 a2 a3 a4 ∧ P5 a1 a2 a3 a4 ∧ P6 a1 a2 a3 a4 ∧ P7 a1 a2 a3 a4 ∧ P8 a1 a2 a3 a4 ∧ P9 a1 a2 a3 a4 ∧ P10 a1 a2 a3 a4 ∧ P11 a1 a2 a3 a4 ∧ P12 a1 a2 a3 a4 ∧ P13 a1 a2 a3 a4 := ⟨a1, ⟨p1, iEEEAAAAAAAAAAA a2 a3 a4 p2 p3 p4 p5 p6 p7 p8 p9 p10 p11 p12 p13⟩⟩
theorem iEEEEAAAAAAEEEEAAAAA.{u1, u2, u3, u4, u5, u6, u7, u8} {α1 : Sort u1} {α2 : Sort u2} {α3 : Sort u3} {α4 : Sort u4} {α5 : Sort u5} {α6 : Sort u6} {α7 : Sort u7} {α8 : Sort u8} {P1 : α1 → α2 → α3 → α4 → Prop} {P2 : α1 → α2 → α3 → α4 → Prop} {P3 : α1 → α2 → α3 → α4 → Prop} {P4 : α1 → α2 → α3 → α4 → Prop} {P5 : α1 → α2 → α3 → α4 → Prop} {P6 : α1 → α2 → α3 → α4 → Prop} {P7 : α1 → α2 → α3 → α4 → α5 → α6 → α7 → α8 → Prop} {P8 : α1 → α2 → α3 → α4 → α5 → α6 → α7 → α8 → Prop} {P9 : α1 → α2 → α3 → α4 → α5 → α6 → α7 → α8 → Prop} {P10 : α1 → α2 → α3 → α4 → α5 → α6 → α7 → α8 → Prop} {P11 : α1 → α2 → α3 → α4 → α5 → α6 → α7 → α8 → Prop} {P12 : α1 → α2 → α3 → α4 → α5 → α6 → α7 → α8 → Prop} (a1 : α1) (a2 : α2) (a3 : α3) (a4 : α4) (p1 : P1 a1 a2 a3 a4) (p2 : P2 a1 a2 a3 a4) (p3 : P3 a1 a2 a3 a4) (p4 : P4 a1 a2 a3 a4) (p5 : P5 a1 a2 a3 a4) (p6 : P6 a1 a2 a3 a4) (a5 : α5) (a6 : α6) (a7 : α7) (a8 : α8) (p7 : P7 a1 a2 a3 a4 a5 a6 a7 a8) (p8 : P8 a1 a2 a3 a4 a5 a6 a7 a8) (p9 : P9 a1 a2 a3 a4 a5 a6 a7 a8) (p10 : P10 a1 a2 a3 a4 a5 a6 a7 a8) (p11 : P11 a1 a2 a3 a4 a5 a6 a7 a8) (p12 : P12 a1 a2 a3 a4 a5 a6 a7 a8) : ∃ a1, ∃ a2, ∃ a3, ∃ a4, P1 a1 a2 a3 a4 ∧ P2 a1 a2 a3 a4 ∧ P3 a1 a2 a3 a4 ∧ P4 a1 a2 a3 a4 ∧ P5 a1 a2 a3 a4 ∧ P6 a1 a2 a3 a4 ∧ ∃ a5, ∃ a6, ∃ a7, ∃ a8, P7 a1 a2 a3 a4 a5 a6 a7 a8 ∧ P8 a1 a2 a3 a4 a5 a6 a7 a8 ∧ P9 a1 a2 a3 a4 a5 a6 a7 a8 ∧ P10 a1 a2 a3 a4 a5 a6 a7 a8 ∧ P11 a1 a2 a3 a4 a5 a6 a7 a8 ∧ P12 a1 a2 a3 a4 a5 a6 a7 a8 := ⟨a1, ⟨a2, ⟨a3, ⟨a4, ⟨p1, ⟨p2, ⟨p3, ⟨p4, ⟨p5, ⟨p6, iEEEEAAAAA a5 a6 a7 a8 p7 p8 p9 p10 p11 p12⟩⟩⟩⟩⟩⟩⟩⟩⟩⟩
end Mine
end L0x

noncomputable section HXx
open PySem PySem.W PyProof.Rows
set_option Elab.async false
set_option maxRecDepth 1000000
namespace Mine
noncomputable def runT (tb : String → Option Builtin) (p : Program) (w : World) (n₀ : Nat) (ann : Option Value) : Nat → SharedT → Thread → Option SharedT
  | 0, _, _ => none
  | n + 1, s, t => match through t with
    | true => some s
    | false => match stepOk n₀ ann t with
      | false => none
      | true => match stepT (denote tb) p w s t with
        | some (s', t') => runT tb p w n₀ ann n s' t'
        | none => none
theorem runT_of {tb : String → Option Builtin} {p : Program} {w : World} {n₀ : Nat} {ann : Option Value} : ∀ {n : Nat} {s s' : SharedT} {t : Thread}, runT tb p w n₀ ann n s t = some s' → topRun tb p w n₀ ann n s.abs t = some s'.abs
  | 0, _, _, _, h => by cases h
  | n + 1, s, s', t, h => by
    unfold runT at h
    unfold topRun
    cases he : through t with
    | true => rw [he] at h; cases h; rfl
    | false =>
      rw [he] at h
      cases hk : stepOk n₀ ann t with
      | false => rw [hk] at h; cases h
      | true =>
        rw [hk] at h
        cases hs : stepT (denote tb) p w s t with
        | none => rw [hs] at h; cases h
        | some r => obtain ⟨s₂, t₂⟩ := r; rw [hs] at h; rw [stepT_spec hs]; exact runT_of h
noncomputable def ofL (l : List Obj) : BT := (l.foldl (fun (x : BT × Nat) o => (x.1.ins x.2 o, x.2 + 1)) (.nil, 0)).1
noncomputable def startT (w : World) (os : OsState) : SharedT := ⟨ofL (boot_heap w.params).objs.toList, (boot_heap w.params).objs.size, (boot_heap w.params).life, Array.mk [], boot_drawn, boot_toks, os⟩
theorem left_of {p q : Program} {loose : List Str} {Xt : Shared → Bool} {α : Type} {Yf : Shared → α} {Ya : World → α} {N M m₀ : Nat} {ann : Option Value}
    (open_ : ∀ w : World, (fencedOpening treeTable p w N).map (fun s => (s.heap, s.gens, s.drawn, s.toks)) = some (boot_heap w.params, Array.mk [], boot_drawn, boot_toks))
    (e0 : ∀ (w : World) (os : OsState), (startT w os).abs = ⟨boot_heap w.params, Array.mk [], boot_drawn, boot_toks, os⟩)
    (size : ∀ w : World, ((boot_heap w.params).isNs mainGlobals, (boot_heap w.params).objs.size, (boot_heap w.params).nsMap mainGlobals "__annotations__") = (true, m₀, ann)) (le : Nat.ble M N = true)
    (runA : ∀ (w : World) (os : OsState), (runT treeTable p w m₀ ann M (startT w os) (topStub p)).map (fun s => (staticsOk (importedModules p.main.body) (boot_heap w.params) s.abs.heap && namesBound p s.abs.heap && gensDone s.abs && laidKept (boot_heap w.params) s.abs.heap)) = some true)
    (runB : ∀ (w : World) (os : OsState), (runT treeTable p w m₀ ann M (startT w os) (topStub p)).map (fun s => openSeen q loose (importedModules p.main.body) Xt true s.abs) = some (openGood q loose))
    (runC : ∀ (w : World) (os : OsState), (runT treeTable p w m₀ ann M (startT w os) (topStub p)).map (fun s => Yf s.abs) = some (Ya w)) : LeftO p q loose Xt Yf Ya N := fun w => by
  obtain ⟨⟨h, gs, d, k, os⟩, e, e'⟩ := Option.map_eq_some_iff.mp (open_ w)
  obtain ⟨rfl, rfl, rfl, rfl⟩ : h = boot_heap w.params ∧ gs = Array.mk [] ∧ d = boot_drawn ∧ k = boot_toks := by simpa using e'
  obtain ⟨z1, z2, z3⟩ : _ ∧ _ ∧ _ := by simpa only [Prod.mk.injEq] using size w
  obtain ⟨s', hs, l1⟩ := Option.map_eq_some_iff.mp (runA w os)
  have l2 := runB w os
  have l3 := runC w os
  rw [hs] at l2 l3
  replace l2 := Option.some.inj l2
  replace l3 := Option.some.inj l3
  have r := topRun_mono (N - M) _ _ _ _ (runT_of hs)
  rw [show M + (N - M) = N by have := Nat.le_of_ble_eq_true le; omega, e0] at r
  have t : topFrom treeTable p w N ⟨boot_heap w.params, Array.mk [], boot_drawn, boot_toks, os⟩ = some s'.abs := by
    unfold topFrom
    dsimp only
    rw [z1, z2, z3, r]
    show (match staticsOk (importedModules p.main.body) (boot_heap w.params) s'.abs.heap && namesBound p s'.abs.heap && gensDone s'.abs && laidKept (boot_heap w.params) s'.abs.heap with | true => _ | false => _) = _
    rw [l1]
  unfold openEnds
  rw [e]
  show (topFrom treeTable p w N _).map _ = _
  rw [t]
  exact congrArg some (Prod.ext l2 l3)
theorem start_eq (w : World) (os : OsState) : (startT w os).abs = ⟨boot_heap w.params, Array.mk [], boot_drawn, boot_toks, os⟩ := by kernel_rfl
noncomputable def keep : List Nat := [0, 2, 3, 4, 6, 7, 9, 10, 12, 14, 16, 17, 18, 19, 20, 21, 22, 23, 24, 25]
noncomputable def vw : Program := view PySem.Challenge.pw_pq0078_01 keep
theorem opened : ∀ w : World, (fencedOpening treeTable PySem.Challenge.pw_pq0078_01 w 8000).map (fun s => (s.heap, s.gens, s.drawn, s.toks)) = some (boot_heap w.params, Array.mk [], boot_drawn, boot_toks) :=
  boot_open (by kernel_rfl) (by decide) (fun s => by kernel_rfl)
theorem sized : ∀ w : World, ((boot_heap w.params).isNs mainGlobals, (boot_heap w.params).objs.size, (boot_heap w.params).nsMap mainGlobals "__annotations__") = (true, 11, some (.ref 6)) := fun w => by kernel_rfl
end Mine
end HXx

noncomputable section KFx
open PySem PySem.W PyProof.Rows
set_option Elab.async false
set_option maxRecDepth 1000000
namespace Mine
noncomputable def kSt (i : Nat) : Stmt := PySem.Challenge.pw_pq0078_01.main.body.getD i (.Pass ⟨0, 0, 0, 0⟩)
noncomputable def kMt (i j : Nat) : Stmt := match kSt i with
  | .ClassDef _ _ _ body .. => body.getD j (.Pass ⟨0, 0, 0, 0⟩)
  | s => s
noncomputable def kFn (s : Stmt) (q md : Str) (tk cd : Nat) : Obj := match s with
  | .FunctionDef name params body _ _ _ scope .. => { cls := .type "function", data := .func { name := name, qualname := q, params := params, body := .stmts body, scope := scope, globals := 3, closure := [], defaults := .none, kwdefaults := .none, pyModule := .str md tk, code := .ref cd } }
  | _ => { cls := .none }
noncomputable def kTup (l : List Value) : Obj := { cls := .type "tuple", data := .seq ⟨l⟩ }
noncomputable def kCode (l : List Value) : Obj := { cls := .type "code", data := .fields ⟨l⟩ }
noncomputable def kEn (P : Params) (x : Str) (t : Nat) (v : Value) : DictEntry := { hash := PyData.keyHash P x, key := .str x t, val := v }
noncomputable def KF (P : Params) : Frag := [
(2, { cls := .none, data := .dict #[kEn P "type.__subclasses__.Exception.0" 369 (.int 152 0), kEn P "type.__subclasses__.Exception.n" 370 (.int 1 0)] 2 }),
(3, { cls := .type "dict", data := .dict #[kEn P "__name__" 165 (.str "law_pq0078_01" 798), kEn P "__doc__" 166 (.none), kEn P "__package__" 167 (.none), kEn P "__loader__" 168 (.builtin "__main__.__loader__#opaque"), kEn P "__spec__" 169 (.none), kEn P "__annotations__" 170 (.ref 6), kEn P "__builtins__" 171 (.ref 4), kEn P "__file__" 173 (.str "/claim/cut.py" 172), kEn P "__cached__" 174 (.none), kEn P "_wall" 193 (.ref 21), kEn P "whole_of" 201 (.ref 26), kEn P "Signs" 256 (.ref 65), kEn P "Keeper" 332 (.ref 122), kEn P "HeapError" 372 (.ref 152), kEn P "TermFault" 388 (.ref 165), kEn P "is_op" 396 (.ref 172), kEn P "Bank" 527 (.ref 276), kEn P "Unions" 629 (.ref 358), kEn P "Heap" 797 (.ref 490), kEn P "_law_numbers" 807 (.ref 495), kEn P "_law_draw" 816 (.ref 502), kEn P "_law_sign" 823 (.ref 509), kEn P "_law_told" 830 (.ref 516), kEn P "_law_comes" 836 (.ref 521), kEn P "_law_lot" 842 (.ref 526), kEn P "_law_is_table_right" 848 (.ref 531), kEn P "_law_most" 854 (.ref 536), kEn P "_law_is_kept_right" 860 (.ref 541), kEn P "law" 866 (.ref 546)] 29 }),
(15, kTup []),
(17, kTup [.str "k" 190]),
(18, kTup []),
(20, kCode [.str "_wall" 187, .str "_wall" 188, .str "/claim/cut.py" 189, .int 1 0, .int 1 0, .int 0 0, .int 0 0, .int 3 0, .ref 15, .bool true, .int 181 0, .ref 16, .none, .ref 17, .ref 18, .ref 19, .int 191 0, .int 1 0, .str "/claim/cut.py" 192]),
(21, kFn (kSt 0) "_wall" "__main__" 164 20),
(22, kTup []),
(25, kCode [.str "whole_of" 196, .str "whole_of" 197, .str "/claim/cut.py" 198, .int 5 0, .int 1 0, .int 0 0, .int 0 0, .int 3 0, .ref 22, .bool true, .int 181 0, .ref 23, .none, .none, .none, .ref 24, .int 199 0, .int 5 0, .str "/claim/cut.py" 200]),
(26, kFn (kSt 2) "whole_of" "alikeheap.analyses" 194 25),
(34, kTup []),
(36, kTup [.str "self" 217, .str "value" 218]),
(37, kTup []),
(39, kCode [.str "signs" 214, .str "Signs.signs" 215, .str "/claim/cut.py" 216, .int 12 0, .int 2 0, .int 0 0, .int 0 0, .int 3 0, .ref 34, .bool true, .int 181 0, .ref 35, .none, .ref 36, .ref 37, .ref 38, .int 219 0, .int 12 0, .str "/claim/cut.py" 220]),
(40, kFn (kMt 3 0) "Signs.signs" "alikeheap.analyses" 194 39),
(41, kTup []),
(44, kCode [.str "made" 222, .str "Signs.made" 223, .str "/claim/cut.py" 224, .int 15 0, .int 2 0, .int 0 0, .int 0 0, .int 3 0, .ref 41, .bool true, .int 181 0, .ref 42, .none, .none, .none, .ref 43, .int 225 0, .int 15 0, .str "/claim/cut.py" 226]),
(45, kFn (kMt 3 1) "Signs.made" "alikeheap.analyses" 194 44),
(46, kTup []),
(48, kTup [.str "self" 231, .str "one" 232, .str "other" 233]),
(49, kTup []),
(51, kCode [.str "added" 228, .str "Signs.added" 229, .str "/claim/cut.py" 230, .int 19 0, .int 3 0, .int 0 0, .int 0 0, .int 3 0, .ref 46, .bool true, .int 181 0, .ref 47, .none, .ref 48, .ref 49, .ref 50, .int 234 0, .int 19 0, .str "/claim/cut.py" 235]),
(52, kFn (kMt 3 2) "Signs.added" "alikeheap.analyses" 194 51),
(53, kTup []),
(56, kCode [.str "of_node" 237, .str "Signs.of_node" 238, .str "/claim/cut.py" 239, .int 24 0, .int 3 0, .int 0 0, .int 0 0, .int 3 0, .ref 53, .bool true, .int 181 0, .ref 54, .none, .none, .none, .ref 55, .int 240 0, .int 24 0, .str "/claim/cut.py" 241]),
(57, kFn (kMt 3 3) "Signs.of_node" "alikeheap.analyses" 194 56),
(58, kTup []),
(61, kCode [.str "joined" 243, .str "Signs.joined" 244, .str "/claim/cut.py" 245, .int 39 0, .int 3 0, .int 0 0, .int 0 0, .int 3 0, .ref 58, .bool true, .int 181 0, .ref 59, .none, .none, .none, .ref 60, .int 246 0, .int 39 0, .str "/claim/cut.py" 247]),
(62, kFn (kMt 3 4) "Signs.joined" "alikeheap.analyses" 194 61),
(63, kTup []),
(64, { cls := .type "dict", data := .dict #[kEn P "__module__" 209 (.str "alikeheap.analyses" 194), kEn P "__firstlineno__" 213 (.int 10 212), kEn P "signs" 221 (.ref 40), kEn P "made" 227 (.ref 45), kEn P "added" 236 (.ref 52), kEn P "of_node" 242 (.ref 57), kEn P "joined" 248 (.ref 62), kEn P "__static_attributes__" 249 (.ref 63), kEn P "__dict__" 251 (.ref 66), kEn P "__weakref__" 253 (.ref 67), kEn P "__doc__" 254 (.none)] 4 }),
(65, { cls := .type "type", data := .cls { name := "Signs", bases := [.type "object"], mro := [.ref 65, .type "object"], ns := 64, qualname := "Signs" }, slots := #[none, none, some (.str "Signs" 202), some (.str "Signs" 210), some (.builtin "object.__new__"), some (.bool true)] }),
(66, { cls := .type "getset_descriptor", data := .fields #[.str "__dict__" 250, .ref 65, .builtin "function.__dict__", .builtin "function.__dict__#set"] }),
(67, { cls := .type "getset_descriptor", data := .fields #[.str "__weakref__" 252, .ref 65, .builtin "ExceptionGroup.__weakref__", .none] }),
(77, kTup []),
(79, kTup [.str "self" 272, .str "heap" 273, .str "analysis" 274]),
(80, kTup []),
(82, kCode [.str "__init__" 269, .str "Keeper.__init__" 270, .str "/claim/cut.py" 271, .int 45 0, .int 3 0, .int 0 0, .int 0 0, .int 3 0, .ref 77, .bool true, .int 181 0, .ref 78, .none, .ref 79, .ref 80, .ref 81, .int 275 0, .int 45 0, .str "/claim/cut.py" 276]),
(83, kFn (kMt 4 0) "Keeper.__init__" "alikeheap.analyses" 194 82),
(84, kTup []),
(86, kTup [.str "self" 281, .str "c" 282]),
(87, kTup []),
(89, kCode [.str "value" 278, .str "Keeper.value" 279, .str "/claim/cut.py" 280, .int 51 0, .int 2 0, .int 0 0, .int 0 0, .int 3 0, .ref 84, .bool true, .int 181 0, .ref 85, .none, .ref 86, .ref 87, .ref 88, .int 283 0, .int 51 0, .str "/claim/cut.py" 284]),
(90, kFn (kMt 4 1) "Keeper.value" "alikeheap.analyses" 194 89),
(91, kTup []),
(93, kTup [.str "self" 289, .str "found" 290, .str "c" 291, .str "kept" 292]),
(94, kTup []),
(96, kCode [.str "begun" 286, .str "Keeper.begun" 287, .str "/claim/cut.py" 288, .int 54 0, .int 1 0, .int 0 0, .int 0 0, .int 3 0, .ref 91, .bool true, .int 181 0, .ref 92, .none, .ref 93, .ref 94, .ref 95, .int 293 0, .int 54 0, .str "/claim/cut.py" 294]),
(97, kFn (kMt 4 2) "Keeper.begun" "alikeheap.analyses" 194 96),
(98, kTup []),
(101, kCode [.str "reckoned" 296, .str "Keeper.reckoned" 297, .str "/claim/cut.py" 298, .int 61 0, .int 2 0, .int 0 0, .int 0 0, .int 3 0, .ref 98, .bool true, .int 181 0, .ref 99, .none, .none, .none, .ref 100, .int 299 0, .int 61 0, .str "/claim/cut.py" 300]),
(102, kFn (kMt 4 3) "Keeper.reckoned" "alikeheap.analyses" 194 101),
(103, kTup []),
(106, kCode [.str "settle" 302, .str "Keeper.settle" 303, .str "/claim/cut.py" 304, .int 68 0, .int 1 0, .int 0 0, .int 0 0, .int 3 0, .ref 103, .bool true, .int 181 0, .ref 104, .none, .none, .none, .ref 105, .int 305 0, .int 68 0, .str "/claim/cut.py" 306]),
(107, kFn (kMt 4 4) "Keeper.settle" "alikeheap.analyses" 194 106),
(108, kTup []),
(111, kCode [.str "clashes" 308, .str "Keeper.clashes" 309, .str "/claim/cut.py" 310, .int 85 0, .int 1 0, .int 0 0, .int 0 0, .int 3 0, .ref 108, .bool true, .int 181 0, .ref 109, .none, .none, .none, .ref 110, .int 311 0, .int 85 0, .str "/claim/cut.py" 312]),
(112, kFn (kMt 4 5) "Keeper.clashes" "alikeheap.analyses" 194 111),
(113, kTup []),
(115, kTup [.str "self" 317]),
(116, kTup []),
(118, kCode [.str "fold" 314, .str "Keeper.fold" 315, .str "/claim/cut.py" 316, .int 88 0, .int 1 0, .int 0 0, .int 0 0, .int 3 0, .ref 113, .bool true, .int 181 0, .ref 114, .none, .ref 115, .ref 116, .ref 117, .int 318 0, .int 88 0, .str "/claim/cut.py" 319]),
(119, kFn (kMt 4 6) "Keeper.fold" "alikeheap.analyses" 194 118),
(120, kTup [.str "analysis" 321, .str "heap" 322, .str "told" 323, .str "values" 324]),
(121, { cls := .type "dict", data := .dict #[kEn P "__module__" 264 (.str "alikeheap.analyses" 194), kEn P "__firstlineno__" 268 (.int 43 267), kEn P "__init__" 277 (.ref 83), kEn P "value" 285 (.ref 90), kEn P "begun" 295 (.ref 97), kEn P "reckoned" 301 (.ref 102), kEn P "settle" 307 (.ref 107), kEn P "clashes" 313 (.ref 112), kEn P "fold" 320 (.ref 119), kEn P "__static_attributes__" 325 (.ref 120), kEn P "__dict__" 327 (.ref 123), kEn P "__weakref__" 329 (.ref 124), kEn P "__doc__" 330 (.none)] 4 }),
(122, { cls := .type "type", data := .cls { name := "Keeper", bases := [.type "object"], mro := [.ref 122, .type "object"], ns := 121, qualname := "Keeper" }, slots := #[none, none, some (.str "Keeper" 257), some (.str "Keeper" 265), some (.builtin "object.__new__"), some (.bool true)] }),
(123, { cls := .type "getset_descriptor", data := .fields #[.str "__dict__" 326, .ref 122, .builtin "function.__dict__", .builtin "function.__dict__#set"] }),
(124, { cls := .type "getset_descriptor", data := .fields #[.str "__weakref__" 328, .ref 122, .builtin "ExceptionGroup.__weakref__", .none] }),
(127, kTup [.type "Exception"]),
(135, kTup [.ref 130]),
(136, kTup [.str "__class__" 350]),
(138, kTup [.str "self" 351, .str "what" 352]),
(139, kTup []),
(141, kCode [.str "__init__" 347, .str "HeapError.__init__" 348, .str "/claim/cut.py" 349, .int 93 0, .int 2 0, .int 0 0, .int 0 0, .int 3 0, .ref 136, .bool true, .int 181 0, .ref 137, .none, .ref 138, .ref 139, .ref 140, .int 353 0, .int 93 0, .str "/claim/cut.py" 354]),
(143, kTup []),
(145, kTup [.str "self" 359]),
(146, kTup []),
(148, kCode [.str "told" 356, .str "HeapError.told" 357, .str "/claim/cut.py" 358, .int 97 0, .int 1 0, .int 0 0, .int 0 0, .int 3 0, .ref 143, .bool true, .int 181 0, .ref 144, .none, .ref 145, .ref 146, .ref 147, .int 360 0, .int 97 0, .str "/claim/cut.py" 361]),
(149, kFn (kMt 6 1) "HeapError.told" "alikeheap.errors" 333 148),
(150, kTup [.str "what" 363]),
(151, { cls := .type "dict", data := .dict #[kEn P "__module__" 342 (.str "alikeheap.errors" 333), kEn P "__firstlineno__" 346 (.int 91 345), kEn P "__init__" 355 (.ref 142), kEn P "told" 362 (.ref 149), kEn P "__static_attributes__" 364 (.ref 150), kEn P "__weakref__" 367 (.ref 153), kEn P "__doc__" 368 (.none)] 4 }),
(152, { cls := .type "type", data := .cls { name := "HeapError", bases := [.type "Exception"], mro := [.ref 152, .type "Exception", .type "BaseException", .type "object"], ns := 151, qualname := "HeapError", subclasses := [.ref 165] }, slots := #[some (.ref 127), none, some (.str "HeapError" 335), some (.str "HeapError" 343), some (.builtin "Exception.__new__"), some (.bool true)] }),
(153, { cls := .type "getset_descriptor", data := .fields #[.str "__weakref__" 366, .ref 152, .builtin "ExceptionGroup.__weakref__", .none] }),
(156, kTup [.ref 152]),
(163, kTup []),
(164, { cls := .type "dict", data := .dict #[kEn P "__module__" 380 (.str "alikeheap.errors" 333), kEn P "__firstlineno__" 384 (.int 99 383), kEn P "__static_attributes__" 385 (.ref 163), kEn P "__doc__" 386 (.none)] 2 }),
(165, { cls := .type "type", data := .cls { name := "TermFault", bases := [.ref 152], mro := [.ref 165, .ref 152, .type "Exception", .type "BaseException", .type "object"], ns := 164, qualname := "TermFault" }, slots := #[some (.ref 156), none, some (.str "TermFault" 373), some (.str "TermFault" 381), some (.builtin "Exception.__new__"), some (.bool true)] }),
(168, kTup []),
(171, kCode [.str "is_op" 391, .str "is_op" 392, .str "/claim/cut.py" 393, .int 102 0, .int 1 0, .int 0 0, .int 0 0, .int 3 0, .ref 168, .bool true, .int 181 0, .ref 169, .none, .none, .none, .ref 170, .int 394 0, .int 102 0, .str "/claim/cut.py" 395]),
(172, kFn (kSt 9) "is_op" "alikeheap.terms" 389 171),
(180, kTup []),
(182, kTup [.str "self" 412]),
(183, kTup []),
(185, kCode [.str "__init__" 409, .str "Bank.__init__" 410, .str "/claim/cut.py" 411, .int 106 0, .int 1 0, .int 0 0, .int 0 0, .int 3 0, .ref 180, .bool true, .int 181 0, .ref 181, .none, .ref 182, .ref 183, .ref 184, .int 413 0, .int 106 0, .str "/claim/cut.py" 414]),
(186, kFn (kMt 10 0) "Bank.__init__" "alikeheap.terms" 389 185),
(187, kTup []),
(189, kTup [.str "self" 419]),
(190, kTup []),
(192, kCode [.str "size" 416, .str "Bank.size" 417, .str "/claim/cut.py" 418, .int 112 0, .int 1 0, .int 0 0, .int 0 0, .int 3 0, .ref 187, .bool true, .int 181 0, .ref 188, .none, .ref 189, .ref 190, .ref 191, .int 420 0, .int 112 0, .str "/claim/cut.py" 421]),
(193, kFn (kMt 10 1) "Bank.size" "alikeheap.terms" 389 192),
(194, kTup []),
(197, kCode [.str "take" 423, .str "Bank.take" 424, .str "/claim/cut.py" 425, .int 115 0, .int 3 0, .int 0 0, .int 0 0, .int 3 0, .ref 194, .bool true, .int 181 0, .ref 195, .none, .none, .none, .ref 196, .int 426 0, .int 115 0, .str "/claim/cut.py" 427]),
(198, kFn (kMt 10 2) "Bank.take" "alikeheap.terms" 389 197),
(199, kTup []),
(201, kTup [.str "self" 432, .str "op" 433]),
(202, kTup []),
(204, kCode [.str "require" 429, .str "Bank.require" 430, .str "/claim/cut.py" 431, .int 129 0, .int 2 0, .int 0 0, .int 0 0, .int 3 0, .ref 199, .bool true, .int 181 0, .ref 200, .none, .ref 201, .ref 202, .ref 203, .int 434 0, .int 129 0, .str "/claim/cut.py" 435]),
(205, kFn (kMt 10 3) "Bank.require" "alikeheap.terms" 389 204),
(206, kTup []),
(208, kTup [.str "self" 440, .str "t" 441]),
(209, kTup []),
(211, kCode [.str "put" 437, .str "Bank.put" 438, .str "/claim/cut.py" 439, .int 133 0, .int 2 0, .int 0 0, .int 0 0, .int 3 0, .ref 206, .bool true, .int 181 0, .ref 207, .none, .ref 208, .ref 209, .ref 210, .int 442 0, .int 133 0, .str "/claim/cut.py" 443]),
(212, kFn (kMt 10 4) "Bank.put" "alikeheap.terms" 389 211),
(213, kTup []),
(215, kTup [.str "self" 448, .str "t" 449]),
(216, kTup []),
(218, kCode [.str "put_all" 445, .str "Bank.put_all" 446, .str "/claim/cut.py" 447, .int 136 0, .int 2 0, .int 0 0, .int 0 0, .int 3 0, .ref 213, .bool true, .int 181 0, .ref 214, .none, .ref 215, .ref 216, .ref 217, .int 450 0, .int 136 0, .str "/claim/cut.py" 451]),
(219, kFn (kMt 10 5) "Bank.put_all" "alikeheap.terms" 389 218),
(220, kTup []),
(222, kTup [.str "self" 456, .str "many" 457]),
(223, kTup []),
(225, kCode [.str "cut" 453, .str "Bank.cut" 454, .str "/claim/cut.py" 455, .int 139 0, .int 2 0, .int 0 0, .int 0 0, .int 3 0, .ref 220, .bool true, .int 181 0, .ref 221, .none, .ref 222, .ref 223, .ref 224, .int 458 0, .int 139 0, .str "/claim/cut.py" 459]),
(226, kFn (kMt 10 6) "Bank.cut" "alikeheap.terms" 389 225),
(227, kTup []),
(229, kTup [.str "self" 464, .str "n" 465]),
(230, kTup []),
(232, kCode [.str "op" 461, .str "Bank.op" 462, .str "/claim/cut.py" 463, .int 142 0, .int 2 0, .int 0 0, .int 0 0, .int 3 0, .ref 227, .bool true, .int 181 0, .ref 228, .none, .ref 229, .ref 230, .ref 231, .int 466 0, .int 142 0, .str "/claim/cut.py" 467]),
(233, kFn (kMt 10 7) "Bank.op" "alikeheap.terms" 389 232),
(234, kTup []),
(236, kTup [.str "self" 472, .str "n" 473]),
(237, kTup []),
(239, kCode [.str "kids" 469, .str "Bank.kids" 470, .str "/claim/cut.py" 471, .int 145 0, .int 2 0, .int 0 0, .int 0 0, .int 3 0, .ref 234, .bool true, .int 181 0, .ref 235, .none, .ref 236, .ref 237, .ref 238, .int 474 0, .int 145 0, .str "/claim/cut.py" 475]),
(240, kFn (kMt 10 8) "Bank.kids" "alikeheap.terms" 389 239),
(241, kTup []),
(243, kTup [.str "self" 480, .str "n" 481]),
(244, kTup []),
(246, kCode [.str "node" 477, .str "Bank.node" 478, .str "/claim/cut.py" 479, .int 148 0, .int 2 0, .int 0 0, .int 0 0, .int 3 0, .ref 241, .bool true, .int 181 0, .ref 242, .none, .ref 243, .ref 244, .ref 245, .int 482 0, .int 148 0, .str "/claim/cut.py" 483]),
(247, kFn (kMt 10 9) "Bank.node" "alikeheap.terms" 389 246),
(248, kTup []),
(251, kCode [.str "term" 485, .str "Bank.term" 486, .str "/claim/cut.py" 487, .int 151 0, .int 2 0, .int 0 0, .int 0 0, .int 3 0, .ref 248, .bool true, .int 181 0, .ref 249, .none, .none, .none, .ref 250, .int 488 0, .int 151 0, .str "/claim/cut.py" 489]),
(252, kFn (kMt 10 10) "Bank.term" "alikeheap.terms" 389 251),
(253, kTup []),
(255, kTup [.str "self" 494, .str "n" 495]),
(256, kTup []),
(258, kCode [.str "weight" 491, .str "Bank.weight" 492, .str "/claim/cut.py" 493, .int 163 0, .int 2 0, .int 0 0, .int 0 0, .int 3 0, .ref 253, .bool true, .int 181 0, .ref 254, .none, .ref 255, .ref 256, .ref 257, .int 496 0, .int 163 0, .str "/claim/cut.py" 497]),
(259, kFn (kMt 10 11) "Bank.weight" "alikeheap.terms" 389 258),
(260, kTup []),
(262, kTup [.str "self" 502, .str "n" 503]),
(263, kTup []),
(265, kCode [.str "depth" 499, .str "Bank.depth" 500, .str "/claim/cut.py" 501, .int 166 0, .int 2 0, .int 0 0, .int 0 0, .int 3 0, .ref 260, .bool true, .int 181 0, .ref 261, .none, .ref 262, .ref 263, .ref 264, .int 504 0, .int 166 0, .str "/claim/cut.py" 505]),
(266, kFn (kMt 10 12) "Bank.depth" "alikeheap.terms" 389 265),
(267, kTup []),
(269, kTup [.str "self" 510, .str "op" 511, .str "kids" 512]),
(270, kTup []),
(272, kCode [.str "seek" 507, .str "Bank.seek" 508, .str "/claim/cut.py" 509, .int 169 0, .int 3 0, .int 0 0, .int 0 0, .int 3 0, .ref 267, .bool true, .int 181 0, .ref 268, .none, .ref 269, .ref 270, .ref 271, .int 513 0, .int 169 0, .str "/claim/cut.py" 514]),
(273, kFn (kMt 10 13) "Bank.seek" "alikeheap.terms" 389 272),
(274, kTup [.str "depths" 516, .str "nodes" 517, .str "numbers" 518, .str "weights" 519]),
(275, { cls := .type "dict", data := .dict #[kEn P "__module__" 404 (.str "alikeheap.terms" 389), kEn P "__firstlineno__" 408 (.int 104 407), kEn P "__init__" 415 (.ref 186), kEn P "size" 422 (.ref 193), kEn P "take" 428 (.ref 198), kEn P "require" 436 (.ref 205), kEn P "put" 444 (.ref 212), kEn P "put_all" 452 (.ref 219), kEn P "cut" 460 (.ref 226), kEn P "op" 468 (.ref 233), kEn P "kids" 476 (.ref 240), kEn P "node" 484 (.ref 247), kEn P "term" 490 (.ref 252), kEn P "weight" 498 (.ref 259), kEn P "depth" 506 (.ref 266), kEn P "seek" 515 (.ref 273), kEn P "__static_attributes__" 520 (.ref 274), kEn P "__dict__" 522 (.ref 277), kEn P "__weakref__" 524 (.ref 278), kEn P "__doc__" 525 (.none)] 4 }),
(276, { cls := .type "type", data := .cls { name := "Bank", bases := [.type "object"], mro := [.ref 276, .type "object"], ns := 275, qualname := "Bank" }, slots := #[none, none, some (.str "Bank" 397), some (.str "Bank" 405), some (.builtin "object.__new__"), some (.bool true)] }),
(277, { cls := .type "getset_descriptor", data := .fields #[.str "__dict__" 521, .ref 276, .builtin "function.__dict__", .builtin "function.__dict__#set"] }),
(278, { cls := .type "getset_descriptor", data := .fields #[.str "__weakref__" 523, .ref 276, .builtin "ExceptionGroup.__weakref__", .none] }),
(288, kTup []),
(290, kTup [.str "self" 545]),
(291, kTup []),
(293, kCode [.str "__init__" 542, .str "Unions.__init__" 543, .str "/claim/cut.py" 544, .int 174 0, .int 1 0, .int 0 0, .int 0 0, .int 3 0, .ref 288, .bool true, .int 181 0, .ref 289, .none, .ref 290, .ref 291, .ref 292, .int 546 0, .int 174 0, .str "/claim/cut.py" 547]),
(294, kFn (kMt 12 0) "Unions.__init__" "alikeheap.unions" 528 293),
(295, kTup []),
(297, kTup [.str "self" 552]),
(298, kTup []),
(300, kCode [.str "make" 549, .str "Unions.make" 550, .str "/claim/cut.py" 551, .int 179 0, .int 1 0, .int 0 0, .int 0 0, .int 3 0, .ref 295, .bool true, .int 181 0, .ref 296, .none, .ref 297, .ref 298, .ref 299, .int 553 0, .int 179 0, .str "/claim/cut.py" 554]),
(301, kFn (kMt 12 1) "Unions.make" "alikeheap.unions" 528 300),
(302, kTup []),
(304, kTup [.str "self" 559]),
(305, kTup []),
(307, kCode [.str "size" 556, .str "Unions.size" 557, .str "/claim/cut.py" 558, .int 184 0, .int 1 0, .int 0 0, .int 0 0, .int 3 0, .ref 302, .bool true, .int 181 0, .ref 303, .none, .ref 304, .ref 305, .ref 306, .int 560 0, .int 184 0, .str "/claim/cut.py" 561]),
(308, kFn (kMt 12 2) "Unions.size" "alikeheap.unions" 528 307),
(309, kTup []),
(311, kTup [.str "self" 566, .str "a" 567]),
(312, kTup []),
(314, kCode [.str "find" 563, .str "Unions.find" 564, .str "/claim/cut.py" 565, .int 187 0, .int 2 0, .int 0 0, .int 0 0, .int 3 0, .ref 309, .bool true, .int 181 0, .ref 310, .none, .ref 311, .ref 312, .ref 313, .int 568 0, .int 187 0, .str "/claim/cut.py" 569]),
(315, kFn (kMt 12 3) "Unions.find" "alikeheap.unions" 528 314),
(316, kTup []),
(318, kTup [.str "self" 574, .str "a" 575, .str "b" 576, .str "kept" 577, .str "gone" 578]),
(319, kTup []),
(321, kCode [.str "merge" 571, .str "Unions.merge" 572, .str "/claim/cut.py" 573, .int 192 0, .int 3 0, .int 0 0, .int 0 0, .int 3 0, .ref 316, .bool true, .int 181 0, .ref 317, .none, .ref 318, .ref 319, .ref 320, .int 579 0, .int 192 0, .str "/claim/cut.py" 580]),
(322, kFn (kMt 12 4) "Unions.merge" "alikeheap.unions" 528 321),
(323, kTup []),
(325, kTup [.str "self" 585, .str "a" 586]),
(326, kTup []),
(328, kCode [.str "members" 582, .str "Unions.members" 583, .str "/claim/cut.py" 584, .int 201 0, .int 2 0, .int 0 0, .int 0 0, .int 3 0, .ref 323, .bool true, .int 181 0, .ref 324, .none, .ref 325, .ref 326, .ref 327, .int 587 0, .int 201 0, .str "/claim/cut.py" 588]),
(329, kFn (kMt 12 5) "Unions.members" "alikeheap.unions" 528 328),
(330, kTup []),
(333, kCode [.str "classes" 590, .str "Unions.classes" 591, .str "/claim/cut.py" 592, .int 204 0, .int 1 0, .int 0 0, .int 0 0, .int 3 0, .ref 330, .bool true, .int 181 0, .ref 331, .none, .none, .none, .ref 332, .int 593 0, .int 204 0, .str "/claim/cut.py" 594]),
(334, kFn (kMt 12 6) "Unions.classes" "alikeheap.unions" 528 333),
(335, kTup []),
(337, kTup [.str "self" 599]),
(338, kTup []),
(340, kCode [.str "log" 596, .str "Unions.log" 597, .str "/claim/cut.py" 598, .int 207 0, .int 1 0, .int 0 0, .int 0 0, .int 3 0, .ref 335, .bool true, .int 181 0, .ref 336, .none, .ref 337, .ref 338, .ref 339, .int 600 0, .int 207 0, .str "/claim/cut.py" 601]),
(341, kFn (kMt 12 7) "Unions.log" "alikeheap.unions" 528 340),
(342, kTup []),
(344, kTup [.str "self" 606, .str "many" 607]),
(345, kTup []),
(347, kCode [.str "back" 603, .str "Unions.back" 604, .str "/claim/cut.py" 605, .int 210 0, .int 2 0, .int 0 0, .int 0 0, .int 3 0, .ref 342, .bool true, .int 181 0, .ref 343, .none, .ref 344, .ref 345, .ref 346, .int 608 0, .int 210 0, .str "/claim/cut.py" 609]),
(348, kFn (kMt 12 8) "Unions.back" "alikeheap.unions" 528 347),
(349, kTup []),
(351, kTup [.str "self" 614, .str "many" 615]),
(352, kTup []),
(354, kCode [.str "cut" 611, .str "Unions.cut" 612, .str "/claim/cut.py" 613, .int 213 0, .int 2 0, .int 0 0, .int 0 0, .int 3 0, .ref 349, .bool true, .int 181 0, .ref 350, .none, .ref 351, .ref 352, .ref 353, .int 616 0, .int 213 0, .str "/claim/cut.py" 617]),
(355, kFn (kMt 12 9) "Unions.cut" "alikeheap.unions" 528 354),
(356, kTup [.str "above" 619, .str "lots" 620, .str "merged" 621]),
(357, { cls := .type "dict", data := .dict #[kEn P "__module__" 537 (.str "alikeheap.unions" 528), kEn P "__firstlineno__" 541 (.int 172 540), kEn P "__init__" 548 (.ref 294), kEn P "make" 555 (.ref 301), kEn P "size" 562 (.ref 308), kEn P "find" 570 (.ref 315), kEn P "merge" 581 (.ref 322), kEn P "members" 589 (.ref 329), kEn P "classes" 595 (.ref 334), kEn P "log" 602 (.ref 341), kEn P "back" 610 (.ref 348), kEn P "cut" 618 (.ref 355), kEn P "__static_attributes__" 622 (.ref 356), kEn P "__dict__" 624 (.ref 359), kEn P "__weakref__" 626 (.ref 360), kEn P "__doc__" 627 (.none)] 4 }),
(358, { cls := .type "type", data := .cls { name := "Unions", bases := [.type "object"], mro := [.ref 358, .type "object"], ns := 357, qualname := "Unions" }, slots := #[none, none, some (.str "Unions" 530), some (.str "Unions" 538), some (.builtin "object.__new__"), some (.bool true)] }),
(359, { cls := .type "getset_descriptor", data := .fields #[.str "__dict__" 623, .ref 358, .builtin "function.__dict__", .builtin "function.__dict__#set"] }),
(360, { cls := .type "getset_descriptor", data := .fields #[.str "__weakref__" 625, .ref 358, .builtin "ExceptionGroup.__weakref__", .none] }),
(370, kTup []),
(372, kTup [.str "self" 647]),
(373, kTup []),
(375, kCode [.str "__init__" 644, .str "Heap.__init__" 645, .str "/claim/cut.py" 646, .int 218 0, .int 1 0, .int 0 0, .int 0 0, .int 3 0, .ref 370, .bool true, .int 181 0, .ref 371, .none, .ref 372, .ref 373, .ref 374, .int 648 0, .int 218 0, .str "/claim/cut.py" 649]),
(376, kFn (kMt 14 0) "Heap.__init__" "alikeheap.heap" 630 375),
(377, kTup []),
(379, kTup [.str "self" 654]),
(380, kTup []),
(382, kCode [.str "size" 651, .str "Heap.size" 652, .str "/claim/cut.py" 653, .int 227 0, .int 1 0, .int 0 0, .int 0 0, .int 3 0, .ref 377, .bool true, .int 181 0, .ref 378, .none, .ref 379, .ref 380, .ref 381, .int 655 0, .int 227 0, .str "/claim/cut.py" 656]),
(383, kFn (kMt 14 1) "Heap.size" "alikeheap.heap" 630 382),
(384, kTup []),
(387, kCode [.str "node" 658, .str "Heap.node" 659, .str "/claim/cut.py" 660, .int 230 0, .int 2 0, .int 0 0, .int 0 0, .int 3 0, .ref 384, .bool true, .int 181 0, .ref 385, .none, .none, .none, .ref 386, .int 661 0, .int 230 0, .str "/claim/cut.py" 662]),
(388, kFn (kMt 14 2) "Heap.node" "alikeheap.heap" 630 387),
(389, kTup []),
(392, kCode [.str "add" 664, .str "Heap.add" 665, .str "/claim/cut.py" 666, .int 233 0, .int 3 0, .int 0 0, .int 0 0, .int 3 0, .ref 389, .bool true, .int 181 0, .ref 390, .none, .none, .none, .ref 391, .int 667 0, .int 233 0, .str "/claim/cut.py" 668]),
(393, kFn (kMt 14 3) "Heap.add" "alikeheap.heap" 630 392),
(394, kTup []),
(396, kTup [.str "self" 673, .str "term" 674]),
(397, kTup []),
(399, kCode [.str "put" 670, .str "Heap.put" 671, .str "/claim/cut.py" 672, .int 244 0, .int 2 0, .int 0 0, .int 0 0, .int 3 0, .ref 394, .bool true, .int 181 0, .ref 395, .none, .ref 396, .ref 397, .ref 398, .int 675 0, .int 244 0, .str "/claim/cut.py" 676]),
(400, kFn (kMt 14 4) "Heap.put" "alikeheap.heap" 630 399),
(401, kTup []),
(403, kTup [.str "self" 681, .str "n" 682, .str "other" 683]),
(404, kTup []),
(406, kCode [.str "look_at" 678, .str "Heap.look_at" 679, .str "/claim/cut.py" 680, .int 247 0, .int 2 0, .int 0 0, .int 0 0, .int 3 0, .ref 401, .bool true, .int 181 0, .ref 402, .none, .ref 403, .ref 404, .ref 405, .int 684 0, .int 247 0, .str "/claim/cut.py" 685]),
(407, kFn (kMt 14 5) "Heap.look_at" "alikeheap.heap" 630 406),
(408, kTup []),
(410, kTup [.str "self" 690, .str "n" 691]),
(411, kTup []),
(413, kCode [.str "find" 687, .str "Heap.find" 688, .str "/claim/cut.py" 689, .int 252 0, .int 2 0, .int 0 0, .int 0 0, .int 3 0, .ref 408, .bool true, .int 181 0, .ref 409, .none, .ref 410, .ref 411, .ref 412, .int 692 0, .int 252 0, .str "/claim/cut.py" 693]),
(414, kFn (kMt 14 6) "Heap.find" "alikeheap.heap" 630 413),
(415, kTup []),
(417, kTup [.str "self" 698, .str "a" 699, .str "b" 700]),
(418, kTup []),
(420, kCode [.str "are_like" 695, .str "Heap.are_like" 696, .str "/claim/cut.py" 697, .int 255 0, .int 3 0, .int 0 0, .int 0 0, .int 3 0, .ref 415, .bool true, .int 181 0, .ref 416, .none, .ref 417, .ref 418, .ref 419, .int 701 0, .int 255 0, .str "/claim/cut.py" 702]),
(421, kFn (kMt 14 7) "Heap.are_like" "alikeheap.heap" 630 420),
(422, kTup []),
(424, kTup [.str "self" 707, .str "a" 708, .str "b" 709, .str "reason" 710]),
(425, kTup []),
(427, kCode [.str "merge" 704, .str "Heap.merge" 705, .str "/claim/cut.py" 706, .int 258 0, .int 4 0, .int 0 0, .int 0 0, .int 3 0, .ref 422, .bool true, .int 181 0, .ref 423, .none, .ref 424, .ref 425, .ref 426, .int 711 0, .int 258 0, .str "/claim/cut.py" 712]),
(428, kFn (kMt 14 8) "Heap.merge" "alikeheap.heap" 630 427),
(429, kTup []),
(431, kTup [.str "self" 717, .str "a" 718, .str "b" 719, .str "reason" 720, .str "merged" 721, .str "kept" 722, .str "gone" 723]),
(432, kTup []),
(434, kCode [.str "join" 714, .str "Heap.join" 715, .str "/claim/cut.py" 716, .int 261 0, .int 4 0, .int 0 0, .int 0 0, .int 3 0, .ref 429, .bool true, .int 181 0, .ref 430, .none, .ref 431, .ref 432, .ref 433, .int 724 0, .int 261 0, .str "/claim/cut.py" 725]),
(435, kFn (kMt 14 9) "Heap.join" "alikeheap.heap" 630 434),
(436, kTup []),
(438, kTup [.str "self" 730]),
(439, kTup []),
(441, kCode [.str "settle" 727, .str "Heap.settle" 728, .str "/claim/cut.py" 729, .int 272 0, .int 1 0, .int 0 0, .int 0 0, .int 3 0, .ref 436, .bool true, .int 181 0, .ref 437, .none, .ref 438, .ref 439, .ref 440, .int 731 0, .int 272 0, .str "/claim/cut.py" 732]),
(442, kFn (kMt 14 10) "Heap.settle" "alikeheap.heap" 630 441),
(443, kTup []),
(445, kTup [.str "self" 737]),
(446, kTup []),
(448, kCode [.str "is_settled" 734, .str "Heap.is_settled" 735, .str "/claim/cut.py" 736, .int 276 0, .int 1 0, .int 0 0, .int 0 0, .int 3 0, .ref 443, .bool true, .int 181 0, .ref 444, .none, .ref 445, .ref 446, .ref 447, .int 738 0, .int 276 0, .str "/claim/cut.py" 739]),
(449, kFn (kMt 14 11) "Heap.is_settled" "alikeheap.heap" 630 448),
(450, kTup []),
(452, kTup [.str "self" 744]),
(453, kTup []),
(455, kCode [.str "classes" 741, .str "Heap.classes" 742, .str "/claim/cut.py" 743, .int 279 0, .int 1 0, .int 0 0, .int 0 0, .int 3 0, .ref 450, .bool true, .int 181 0, .ref 451, .none, .ref 452, .ref 453, .ref 454, .int 745 0, .int 279 0, .str "/claim/cut.py" 746]),
(456, kFn (kMt 14 12) "Heap.classes" "alikeheap.heap" 630 455),
(457, kTup []),
(459, kTup [.str "self" 751, .str "c" 752]),
(460, kTup []),
(462, kCode [.str "members" 748, .str "Heap.members" 749, .str "/claim/cut.py" 750, .int 282 0, .int 2 0, .int 0 0, .int 0 0, .int 3 0, .ref 457, .bool true, .int 181 0, .ref 458, .none, .ref 459, .ref 460, .ref 461, .int 753 0, .int 282 0, .str "/claim/cut.py" 754]),
(463, kFn (kMt 14 13) "Heap.members" "alikeheap.heap" 630 462),
(464, kTup []),
(467, kCode [.str "nodes_of" 756, .str "Heap.nodes_of" 757, .str "/claim/cut.py" 758, .int 285 0, .int 2 0, .int 0 0, .int 0 0, .int 3 0, .ref 464, .bool true, .int 181 0, .ref 465, .none, .none, .none, .ref 466, .int 759 0, .int 285 0, .str "/claim/cut.py" 760]),
(468, kFn (kMt 14 14) "Heap.nodes_of" "alikeheap.heap" 630 467),
(469, kTup []),
(471, kTup [.str "self" 765]),
(472, kTup []),
(474, kCode [.str "many_nodes" 762, .str "Heap.many_nodes" 763, .str "/claim/cut.py" 764, .int 288 0, .int 1 0, .int 0 0, .int 0 0, .int 3 0, .ref 469, .bool true, .int 181 0, .ref 470, .none, .ref 471, .ref 472, .ref 473, .int 766 0, .int 288 0, .str "/claim/cut.py" 767]),
(475, kFn (kMt 14 15) "Heap.many_nodes" "alikeheap.heap" 630 474),
(476, kTup []),
(479, kCode [.str "seek" 769, .str "Heap.seek" 770, .str "/claim/cut.py" 771, .int 291 0, .int 3 0, .int 0 0, .int 0 0, .int 3 0, .ref 476, .bool true, .int 181 0, .ref 477, .none, .none, .none, .ref 478, .int 772 0, .int 291 0, .str "/claim/cut.py" 773]),
(480, kFn (kMt 14 16) "Heap.seek" "alikeheap.heap" 630 479),
(481, kTup []),
(483, kTup [.str "self" 778, .str "c" 779]),
(484, kTup []),
(486, kCode [.str "users" 775, .str "Heap.users" 776, .str "/claim/cut.py" 777, .int 295 0, .int 2 0, .int 0 0, .int 0 0, .int 3 0, .ref 481, .bool true, .int 181 0, .ref 482, .none, .ref 483, .ref 484, .ref 485, .int 780 0, .int 295 0, .str "/claim/cut.py" 781]),
(487, kFn (kMt 14 17) "Heap.users" "alikeheap.heap" 630 486),
(488, kTup [.str "above" 783, .str "bank" 784, .str "edges" 785, .str "forest" 786, .str "known" 787, .str "unions" 788, .str "waiting" 789]),
(489, { cls := .type "dict", data := .dict #[kEn P "__module__" 639 (.str "alikeheap.heap" 630), kEn P "__firstlineno__" 643 (.int 216 642), kEn P "__init__" 650 (.ref 376), kEn P "size" 657 (.ref 383), kEn P "node" 663 (.ref 388), kEn P "add" 669 (.ref 393), kEn P "put" 677 (.ref 400), kEn P "look_at" 686 (.ref 407), kEn P "find" 694 (.ref 414), kEn P "are_like" 703 (.ref 421), kEn P "merge" 713 (.ref 428), kEn P "join" 726 (.ref 435), kEn P "settle" 733 (.ref 442), kEn P "is_settled" 740 (.ref 449), kEn P "classes" 747 (.ref 456), kEn P "members" 755 (.ref 463), kEn P "nodes_of" 761 (.ref 468), kEn P "many_nodes" 768 (.ref 475), kEn P "seek" 774 (.ref 480), kEn P "users" 782 (.ref 487), kEn P "__static_attributes__" 790 (.ref 488), kEn P "__dict__" 792 (.ref 491), kEn P "__weakref__" 794 (.ref 492), kEn P "__doc__" 795 (.none)] 4 }),
(490, { cls := .type "type", data := .cls { name := "Heap", bases := [.type "object"], mro := [.ref 490, .type "object"], ns := 489, qualname := "Heap" }, slots := #[none, none, some (.str "Heap" 632), some (.str "Heap" 640), some (.builtin "object.__new__"), some (.bool true)] }),
(491, { cls := .type "getset_descriptor", data := .fields #[.str "__dict__" 791, .ref 490, .builtin "function.__dict__", .builtin "function.__dict__#set"] }),
(492, { cls := .type "getset_descriptor", data := .fields #[.str "__weakref__" 793, .ref 490, .builtin "ExceptionGroup.__weakref__", .none] }),
(495, kTup [.int (-2) 801, .int (-1) 803, .int 0 804, .int 1 805, .int 2 806]),
(496, kTup []),
(498, kTup [.str "feed" 811, .str "wide" 812, .str "k" 813]),
(499, kTup []),
(501, kCode [.str "_law_draw" 808, .str "_law_draw" 809, .str "/claim/cut.py" 810, .int 299 0, .int 2 0, .int 0 0, .int 0 0, .int 3 0, .ref 496, .bool true, .int 181 0, .ref 497, .none, .ref 498, .ref 499, .ref 500, .int 814 0, .int 299 0, .str "/claim/cut.py" 815]),
(502, kFn (kSt 17) "_law_draw" "law_pq0078_01" 798 501),
(503, kTup []),
(505, kTup [.str "number" 820]),
(506, kTup []),
(508, kCode [.str "_law_sign" 817, .str "_law_sign" 818, .str "/claim/cut.py" 819, .int 305 0, .int 1 0, .int 0 0, .int 0 0, .int 3 0, .ref 503, .bool true, .int 181 0, .ref 504, .none, .ref 505, .ref 506, .ref 507, .int 821 0, .int 305 0, .str "/claim/cut.py" 822]),
(509, kFn (kSt 18) "_law_sign" "law_pq0078_01" 798 508),
(510, kTup []),
(512, kTup [.str "lot" 827]),
(513, kTup []),
(515, kCode [.str "_law_told" 824, .str "_law_told" 825, .str "/claim/cut.py" 826, .int 307 0, .int 1 0, .int 0 0, .int 0 0, .int 3 0, .ref 510, .bool true, .int 181 0, .ref 511, .none, .ref 512, .ref 513, .ref 514, .int 828 0, .int 307 0, .str "/claim/cut.py" 829]),
(516, kFn (kSt 19) "_law_told" "law_pq0078_01" 798 515),
(517, kTup []),
(520, kCode [.str "_law_comes" 831, .str "_law_comes" 832, .str "/claim/cut.py" 833, .int 309 0, .int 2 0, .int 0 0, .int 0 0, .int 3 0, .ref 517, .bool true, .int 181 0, .ref 518, .none, .none, .none, .ref 519, .int 834 0, .int 309 0, .str "/claim/cut.py" 835]),
(521, kFn (kSt 20) "_law_comes" "law_pq0078_01" 798 520),
(522, kTup []),
(525, kCode [.str "_law_lot" 837, .str "_law_lot" 838, .str "/claim/cut.py" 839, .int 323 0, .int 1 0, .int 0 0, .int 0 0, .int 3 0, .ref 522, .bool true, .int 181 0, .ref 523, .none, .none, .none, .ref 524, .int 840 0, .int 323 0, .str "/claim/cut.py" 841]),
(526, kFn (kSt 21) "_law_lot" "law_pq0078_01" 798 525),
(527, kTup []),
(530, kCode [.str "_law_is_table_right" 843, .str "_law_is_table_right" 844, .str "/claim/cut.py" 845, .int 326 0, .int 2 0, .int 0 0, .int 0 0, .int 3 0, .ref 527, .bool true, .int 181 0, .ref 528, .none, .none, .none, .ref 529, .int 846 0, .int 326 0, .str "/claim/cut.py" 847]),
(531, kFn (kSt 22) "_law_is_table_right" "law_pq0078_01" 798 530),
(532, kTup []),
(535, kCode [.str "_law_most" 849, .str "_law_most" 850, .str "/claim/cut.py" 851, .int 334 0, .int 1 0, .int 0 0, .int 0 0, .int 3 0, .ref 532, .bool true, .int 181 0, .ref 533, .none, .none, .none, .ref 534, .int 852 0, .int 334 0, .str "/claim/cut.py" 853]),
(536, kFn (kSt 23) "_law_most" "law_pq0078_01" 798 535),
(537, kTup []),
(540, kCode [.str "_law_is_kept_right" 855, .str "_law_is_kept_right" 856, .str "/claim/cut.py" 857, .int 346 0, .int 2 0, .int 0 0, .int 0 0, .int 3 0, .ref 537, .bool true, .int 181 0, .ref 538, .none, .none, .none, .ref 539, .int 858 0, .int 346 0, .str "/claim/cut.py" 859]),
(541, kFn (kSt 24) "_law_is_kept_right" "law_pq0078_01" 798 540),
(542, kTup []),
(545, kCode [.str "law" 861, .str "law" 862, .str "/claim/cut.py" 863, .int 353 0, .int 1 0, .int 0 0, .int 0 0, .int 3 0, .ref 542, .bool true, .int 181 0, .ref 543, .none, .none, .none, .ref 544, .int 864 0, .int 353 0, .str "/claim/cut.py" 865]),
(546, kFn (kSt 25) "law" "law_pq0078_01" 798 545)]
end Mine
end KFx

noncomputable section HYx
open PySem PySem.W PyProof.Rows
set_option Elab.async false
set_option maxRecDepth 1000000
namespace Mine
noncomputable def kAs : List Addr := [2, 3, 15, 17, 18, 20, 21, 22, 25, 26, 34, 36, 37, 39, 40, 41, 44, 45, 46, 48, 49, 51, 52, 53, 56, 57, 58, 61, 62, 63, 64, 65, 66, 67, 77, 79, 80, 82, 83, 84, 86, 87, 89, 90, 91, 93, 94, 96, 97, 98, 101, 102, 103, 106, 107, 108, 111, 112, 113, 115, 116, 118, 119, 120, 121, 122, 123, 124, 127, 135, 136, 138, 139, 141, 143, 145, 146, 148, 149, 150, 151, 152, 153, 156, 163, 164, 165, 168, 171, 172, 180, 182, 183, 185, 186, 187, 189, 190, 192, 193, 194, 197, 198, 199, 201, 202, 204, 205, 206, 208, 209, 211, 212, 213, 215, 216, 218, 219, 220, 222, 223, 225, 226, 227, 229, 230, 232, 233, 234, 236, 237, 239, 240, 241, 243, 244, 246, 247, 248, 251, 252, 253, 255, 256, 258, 259, 260, 262, 263, 265, 266, 267, 269, 270, 272, 273, 274, 275, 276, 277, 278, 288, 290, 291, 293, 294, 295, 297, 298, 300, 301, 302, 304, 305, 307, 308, 309, 311, 312, 314, 315, 316, 318, 319, 321, 322, 323, 325, 326, 328, 329, 330, 333, 334, 335, 337, 338, 340, 341, 342, 344, 345, 347, 348, 349, 351, 352, 354, 355, 356, 357, 358, 359, 360, 370, 372, 373, 375, 376, 377, 379, 380, 382, 383, 384, 387, 388, 389, 392, 393, 394, 396, 397, 399, 400, 401, 403, 404, 406, 407, 408, 410, 411, 413, 414, 415, 417, 418, 420, 421, 422, 424, 425, 427, 428, 429, 431, 432, 434, 435, 436, 438, 439, 441, 442, 443, 445, 446, 448, 449, 450, 452, 453, 455, 456, 457, 459, 460, 462, 463, 464, 467, 468, 469, 471, 472, 474, 475, 476, 479, 480, 481, 483, 484, 486, 487, 488, 489, 490, 491, 492, 495, 496, 498, 499, 501, 502, 503, 505, 506, 508, 509, 510, 512, 513, 515, 516, 517, 520, 521, 522, 525, 526, 527, 530, 531, 532, 535, 536, 537, 540, 541, 542, 545, 546]
theorem kAs_eq : ∀ P, kAs = (KF P).map (·.1) := fun P => by kernel_rfl
noncomputable def kH : Hook := kHook KF kAs kAs_eq
theorem runA (w : World) (os : OsState) : (runT treeTable PySem.Challenge.pw_pq0078_01 w 11 (some (.ref 6)) 7200 (startT w os) (topStub PySem.Challenge.pw_pq0078_01)).map (fun s => (staticsOk (importedModules PySem.Challenge.pw_pq0078_01.main.body) (boot_heap w.params) s.abs.heap && namesBound PySem.Challenge.pw_pq0078_01 s.abs.heap && gensDone s.abs && laidKept (boot_heap w.params) s.abs.heap)) = some true := by kernel_rfl
theorem runB (w : World) (os : OsState) : (runT treeTable PySem.Challenge.pw_pq0078_01 w 11 (some (.ref 6)) 7200 (startT w os) (topStub PySem.Challenge.pw_pq0078_01)).map (fun s => openSeen vw [] (importedModules PySem.Challenge.pw_pq0078_01.main.body) (fun s => xlAt vw [] s && recOk PySem.Challenge.rw_pq0078_01.row.records s) true s.abs) = some (openGood vw []) := by kernel_rfl
theorem runC (w : World) (os : OsState) : (runT treeTable PySem.Challenge.pw_pq0078_01 w 11 (some (.ref 6)) 7200 (startT w os) (topStub PySem.Challenge.pw_pq0078_01)).map (fun s => Hook.obs kH s.abs) = some (Hook.val kH w) := by kernel_rfl
theorem lefty : LeftO PySem.Challenge.pw_pq0078_01 vw [] (fun s => xlAt vw [] s && recOk PySem.Challenge.rw_pq0078_01.row.records s) (Hook.obs kH) (Hook.val kH) 8000 :=
  left_of (M := 7200) opened start_eq sized (by decide) runA runB runC
end Mine
end HYx

noncomputable section L1ax
open PySem PySem.W PySem.Calls PyProof.Rows
set_option Elab.async false
namespace Mine

inductive Role where
  | feed | sgn | hp | bank | uns | keep
  | nodes | nums | wts | deps
  | uab | lots | mrg
  | edges | forest | known | hab | wait
  | vals (k : Nat) | told
  | lot (k : Nat) | abv (k : Nat)
  deriving DecidableEq

inductive Loc where
  | r (x : Role) | tmp (k : Nat)
  deriving DecidableEq

inductive Tag where
  | free | frame | own (l : Loc)
  deriving DecidableEq

inductive MV where
  | d (x : PyData) | loc (l : Loc) | val (v : Value) | tup (l : List MV) | set (l : List PyData) | rng (n : Int)

inductive Atom where
  | s (x : Str) | i (k : Int)
  deriving DecidableEq
noncomputable def Atom.py : Atom → PyData
  | .s x => .str x
  | .i k => .int k

inductive MO where
  | list (l : List MV)
  | dictI (l : List (Int × MV))
  | dictS (l : List (Str × MV))
  | dictT (l : List (List Atom × MV))
  | inst (C : Addr) (l : List (Str × MV))

structure MH where
  r : Role → Option MO
  t : List MO

namespace MH
noncomputable def get (H : MH) : Loc → Option MO
  | .r x => H.r x
  | .tmp k => H.t[k]?
noncomputable abbrev next (H : MH) : Nat := H.t.length
noncomputable def put (H : MH) : Loc → MO → MH
  | .r x, o => ⟨fun y => if y = x then some o else H.r y, H.t⟩
  | .tmp k, o => ⟨H.r, H.t.set k o⟩
noncomputable def add (H : MH) : Loc → MO → MH
  | .r x, o => ⟨fun y => if y = x then some o else H.r y, H.t⟩
  | .tmp _, o => ⟨H.r, H.t ++ [o]⟩
noncomputable def fresh (H : MH) : Loc → Prop
  | .r x => H.r x = none
  | .tmp k => k = H.t.length
end MH

structure Wd where
  mu : Loc → Option Addr
  tau : Addr → Tag
noncomputable def Wd.free (W : Wd) (a : Addr) : Prop := W.tau a = .free

noncomputable def okL (n : Nat) : Loc → Prop
  | .r _ => True
  | .tmp k => k < n
theorem okL_mono {n n' : Nat} (h : n ≤ n') {l : Loc} (x : okL n l) : okL n' l := by
  cases l with
  | r _ => trivial
  | tmp k => exact Nat.lt_of_lt_of_le x h

noncomputable abbrev tupOf (its : Array Value) (n : Nat) : Obj := { cls := .type "tuple", data := .seq its n }

mutual
noncomputable def Fz (F : Addr → Prop) (h : Heap) : PyData → Value → Prop
  | .none, v => v = .none
  | .bool b, v => v = .bool b
  | .int i, v => ∃ t, v = .int i t
  | .str x, v => ∃ t, v = .str x t
  | .list xs, v => ∃ a vs n, v = .ref a ∧ F a ∧ h.get? a = some (listOf vs n) ∧ FzA F h xs vs.toList
  | .tuple xs, v => ∃ a vs n, v = .ref a ∧ F a ∧ h.get? a = some (tupOf vs n) ∧ FzA F h xs vs.toList
  | .dict _, _ => False
noncomputable def FzA (F : Addr → Prop) (h : Heap) : List PyData → List Value → Prop
  | [], vs => vs = []
  | x :: xs, vs => ∃ v r, vs = v :: r ∧ Fz F h x v ∧ FzA F h xs r
end

noncomputable def Keeps1 (F F' : Addr → Prop) (h h' : Heap) : Prop := ∀ a o, F a → h.get? a = some o → F' a ∧ h'.get? a = some o

mutual
theorem Fz.mono {F F' : Addr → Prop} {h h' : Heap} (k : Keeps1 F F' h h') : ∀ {d : PyData} {v : Value}, Fz F h d v → Fz F' h' d v
  | .none, v, x => by simpa [Fz] using x
  | .bool b, v, x => by simpa [Fz] using x
  | .int i, v, x => by simpa [Fz] using x
  | .str y, v, x => by simpa [Fz] using x
  | .list xs, v, x => by
    rw [Fz] at x ⊢
    (refine xEEEAAA x fun a vs n e f g r => ?_; clear x)
    refine xA (k a _ f g) fun f' g' => ?_
    exact (iEEEAAA a vs n e f' g' (FzA.mono k r))
  | .tuple xs, v, x => by
    rw [Fz] at x ⊢
    (refine xEEEAAA x fun a vs n e f g r => ?_; clear x)
    refine xA (k a _ f g) fun f' g' => ?_
    exact (iEEEAAA a vs n e f' g' (FzA.mono k r))
  | .dict _, v, x => by rw [Fz] at x; exact x.elim
theorem FzA.mono {F F' : Addr → Prop} {h h' : Heap} (k : Keeps1 F F' h h') : ∀ {ds : List PyData} {vs : List Value}, FzA F h ds vs → FzA F' h' ds vs
  | [], vs, x => by simpa [FzA] using x
  | d :: ds, vs, x => by
    rw [FzA] at x ⊢
    (refine xEEAA x fun v r e y z => ?_; clear x)
    exact (iEEAA v r e (Fz.mono k y) (FzA.mono k z))
end

mutual
theorem Fz.reads {F : Addr → Prop} {h : Heap} : ∀ {d : PyData} {v : Value}, Fz F h d v → ∃ as, Reads h v d as
  | .none, v, x => by rw [Fz] at x; subst x; exact ⟨_, .none⟩
  | .bool b, v, x => by rw [Fz] at x; subst x; exact ⟨_, .bool b⟩
  | .int i, v, x => by rw [Fz] at x; (refine xE x fun t ee1 => ?_; clear x; subst ee1); exact ⟨_, .int i t⟩
  | .str y, v, x => by rw [Fz] at x; (refine xE x fun t ee2 => ?_; clear x; subst ee2); exact ⟨_, .str y t⟩
  | .list xs, v, x => by
    rw [Fz] at x
    (refine xEEEAAA x fun a vs n ee3 _ g r => ?_; clear x; subst ee3)
    refine xE (FzA.reads r) fun as q => ?_
    exact ⟨_, .list g rfl rfl q⟩
  | .tuple xs, v, x => by
    rw [Fz] at x
    (refine xEEEAAA x fun a vs n ee4 _ g r => ?_; clear x; subst ee4)
    refine xE (FzA.reads r) fun as q => ?_
    exact ⟨_, .tuple g rfl rfl q⟩
  | .dict _, v, x => by rw [Fz] at x; exact x.elim
theorem FzA.reads {F : Addr → Prop} {h : Heap} : ∀ {ds : List PyData} {vs : List Value}, FzA F h ds vs → ∃ as, ReadsAll h vs ds as
  | [], vs, x => by rw [FzA] at x; subst x; exact ⟨_, .nil⟩
  | d :: ds, vs, x => by
    rw [FzA] at x
    (refine xEEAA x fun v r ee5 y z => ?_; clear x; subst ee5)
    refine xE (Fz.reads y) fun as p => ?_
    refine xE (FzA.reads z) fun bs q => ?_
    exact ⟨_, .cons p q⟩
end

theorem FzA.length {F : Addr → Prop} {h : Heap} : ∀ {ds : List PyData} {vs : List Value}, FzA F h ds vs → ds.length = vs.length
  | [], vs, x => by rw [FzA] at x; subst x; rfl
  | d :: ds, vs, x => by
    rw [FzA] at x
    (refine xEEAA x fun v r ee6 _ z => ?_; clear x; subst ee6)
    simp [FzA.length z]
theorem FzA.snoc {F : Addr → Prop} {h : Heap} {d : PyData} {v : Value} (y : Fz F h d v) : ∀ {ds : List PyData} {vs : List Value}, FzA F h ds vs → FzA F h (ds ++ [d]) (vs ++ [v])
  | [], vs, x => by rw [FzA] at x; subst x; rw [List.nil_append, FzA]; exact (iEEAA v ([]) rfl y (by rw [FzA]))
  | e :: ds, vs, x => by
    rw [FzA] at x
    (refine xEEAA x fun u r ee7 p q => ?_; clear x; subst ee7)
    rw [List.cons_append, FzA]
    exact (iEEAA u _ rfl p (FzA.snoc y q))
theorem FzA.append {F : Addr → Prop} {h : Heap} {es : List PyData} {us : List Value} (y : FzA F h es us) : ∀ {ds : List PyData} {vs : List Value}, FzA F h ds vs → FzA F h (ds ++ es) (vs ++ us)
  | [], vs, x => by rw [FzA] at x; subst x; simpa using y
  | e :: ds, vs, x => by
    rw [FzA] at x
    (refine xEEAA x fun u r ee8 p q => ?_; clear x; subst ee8)
    rw [List.cons_append, FzA]
    exact (iEEAA u _ rfl p (FzA.append y q))
theorem FzA.get {F : Addr → Prop} {h : Heap} : ∀ {ds : List PyData} {vs : List Value}, FzA F h ds vs → ∀ {i : Nat} {d : PyData}, ds[i]? = some d → ∃ v, vs[i]? = some v ∧ Fz F h d v
  | [], vs, _, i, d, e => by simp at e
  | c :: ds, vs, x, i, d, e => by
    rw [FzA] at x
    (refine xEEAA x fun u r ee9 p q => ?_; clear x; subst ee9)
    cases i with
    | zero => simp at e; subst e; exact (iEA u rfl p)
    | succ i =>
      refine xEA (FzA.get q (i := i) (d := d) (by simpa using e)) fun v a b => ?_
      exact (iEA v (by simpa using a) b)
theorem FzA.drop {F : Addr → Prop} {h : Heap} : ∀ {ds : List PyData} {vs : List Value}, FzA F h ds vs → ∀ (i : Nat), FzA F h (ds.drop i) (vs.drop i)
  | [], vs, x, i => by rw [FzA] at x; subst x; simp [FzA]
  | c :: ds, vs, x, i => by
    cases i with
    | zero => exact x
    | succ i =>
      rw [FzA] at x
      (refine xEEAA x fun u r ee10 p q => ?_; clear x; subst ee10)
      exact FzA.drop q i
theorem FzA.take {F : Addr → Prop} {h : Heap} : ∀ {ds : List PyData} {vs : List Value}, FzA F h ds vs → ∀ (i : Nat), FzA F h (ds.take i) (vs.take i)
  | [], vs, x, i => by rw [FzA] at x; subst x; simp [FzA]
  | c :: ds, vs, x, i => by
    cases i with
    | zero => simp [FzA]
    | succ i =>
      rw [FzA] at x
      (refine xEEAA x fun u r ee11 p q => ?_; clear x; subst ee11)
      rw [List.take_succ_cons, List.take_succ_cons, FzA]
      exact (iEEAA u _ rfl p (FzA.take q i))
end Mine
end L1ax

noncomputable section L1bx
open PySem PySem.W PySem.Calls PyProof.Rows
set_option Elab.async false
namespace Mine

mutual
noncomputable def VR (w : World) (n : Nat) (W : Wd) (h : Heap) : MV → Value → Prop
  | .d x, v => Fz W.free h x v
  | .loc l, v => okL n l ∧ ∃ a, W.mu l = some a ∧ v = .ref a
  | .val u, v => v = u
  | .tup l, v => ∃ a vs e, v = .ref a ∧ W.free a ∧ h.get? a = some (tupOf vs e) ∧ VRA w n W h l vs.toList
  | .set l, v => ∃ a es ep t l', v = .ref a ∧ W.free a ∧ h.get? a = some { cls := .type "set", data := .set es ep t } ∧ t.place.size = es.size ∧ t.fill ≤ t.mask ∧
      t.led = !(w.params.followText "set-order") ∧ (∀ (i k x y : Nat), i < k → t.place[i]? = some x → t.place[k]? = some y → x < y) ∧ l'.Perm l ∧ FzA W.free h l' (es.toList.map (·.2))
  | .rng k, v => ∃ a t u z, v = .ref a ∧ W.free a ∧ IsRange h a 0 k 1 t u z
noncomputable def VRA (w : World) (n : Nat) (W : Wd) (h : Heap) : List MV → List Value → Prop
  | [], vs => vs = []
  | x :: xs, vs => ∃ v r, vs = v :: r ∧ VR w n W h x v ∧ VRA w n W h xs r
end

structure Grow (X : Addr → Prop) (n : Nat) (W : Wd) (h : Heap) (n' : Nat) (W' : Wd) (h' : Heap) : Prop where
  next : n ≤ n'
  loc : ∀ l a, okL n l → W.mu l = some a → W'.mu l = some a
  live : ∀ b o, h.get? b = some o → (W.tau b = .frame → ¬ X b) → ∃ o', h'.get? b = some o'
  tag : ∀ b o, h.get? b = some o → (W.tau b = .frame → ¬ X b) → W'.tau b = W.tau b
  keepF : ∀ b o, h.get? b = some o → W.tau b = .free → h'.get? b = some o
  keepL : ∀ b o, h.get? b = some o → W.tau b = .frame → ¬ X b → h'.get? b = some o

noncomputable abbrev NoX : Addr → Prop := fun _ => False

theorem Grow.refl {X : Addr → Prop} {n : Nat} {W : Wd} {h : Heap} : Grow X n W h n W h :=
  ⟨Nat.le_refl _, fun _ _ _ e => e, fun _ o e _ => ⟨o, e⟩, fun _ _ _ _ => rfl, fun _ _ e _ => e, fun _ _ e _ _ => e⟩
theorem notFrame {X : Addr → Prop} {t : Tag} {b : Addr} (h : t ≠ .frame) : t = .frame → ¬ X b := fun q => absurd q h
theorem Grow.weaken {X Y : Addr → Prop} {n n' : Nat} {W W' : Wd} {h h' : Heap} (a : Grow X n W h n' W' h') (k : ∀ b, X b → Y b) : Grow Y n W h n' W' h' :=
  { a with keepL := fun b o e f y => a.keepL b o e f fun x => y (k b x), live := fun b o e f => a.live b o e fun t x => f t (k b x), tag := fun b o e f => a.tag b o e fun t x => f t (k b x) }
theorem Grow.keeps1 {X : Addr → Prop} {n n' : Nat} {W W' : Wd} {h h' : Heap} (g : Grow X n W h n' W' h') : Keeps1 W.free W'.free h h' :=
  fun a o f e => ⟨(g.tag a o e fun t => by rw [show W.tau a = .free from f] at t; cases t).trans f, g.keepF a o e f⟩
theorem Grow.trans {X : Addr → Prop} {n n' n'' : Nat} {W W' W'' : Wd} {h h' h'' : Heap} (a : Grow X n W h n' W' h') (b : Grow X n' W' h' n'' W'' h'') : Grow X n W h n'' W'' h'' :=
  ⟨Nat.le_trans a.next b.next, fun l x o e => b.loc l x (okL_mono a.next o) (a.loc l x o e),
   fun c o e f => by refine xE (a.live c o e f) fun o' e' => ?_; exact b.live c o' e' (by rw [a.tag c o e f]; exact f),
   fun c o e f => by refine xE (a.live c o e f) fun o' e' => ?_; exact (b.tag c o' e' (by rw [a.tag c o e f]; exact f)).trans (a.tag c o e f),
   fun c o e f => b.keepF c o (a.keepF c o e f) ((a.tag c o e (by rw [f]; exact fun t => nomatch t)).trans f),
   fun c o e f x => b.keepL c o (a.keepL c o e f x) ((a.tag c o e fun _ => x).trans f) x⟩
mutual
theorem VR.grow {w : World} {X : Addr → Prop} {n n' : Nat} {W W' : Wd} {h h' : Heap} (g : Grow X n W h n' W' h') : ∀ {m : MV} {v : Value}, VR w n W h m v → VR w n' W' h' m v
  | .d x, v, r => by rw [VR] at r ⊢; exact Fz.mono g.keeps1 r
  | .loc l, v, r => by
    rw [VR] at r ⊢
    (refine xAEA r fun o a e q => ?_; clear r)
    exact (iAEA (okL_mono g.next o) a (g.loc l a o e) q)
  | .val u, v, r => by rw [VR] at r ⊢; exact r
  | .tup l, v, r => by
    rw [VR] at r ⊢
    (refine xEEEAAA r fun a vs e q f x y => ?_; clear r)
    refine xA (g.keeps1 a _ f x) fun f' x' => ?_
    exact (iEEEAAA a vs e q f' x' (VRA.grow g y))
  | .set l, v, r => by
    rw [VR] at r ⊢
    (refine xEEEEEAAAAAAAA r fun a es ep t l' q f x y1 y2 y3 y4 y5 y6 => ?_; clear r)
    refine xA (g.keeps1 a _ f x) fun f' x' => ?_
    exact (iEEEEEAAAAAAAA a es ep t l' q f' x' y1 y2 y3 y4 y5 (FzA.mono g.keeps1 y6))
  | .rng k, v, r => by
    rw [VR] at r ⊢
    (refine xEEEEAA r fun a t u z q f x => ?_; clear r)
    refine xA (g.keeps1 a _ f x) fun f' x' => ?_
    exact (iEEEEAA a t u z q f' x')
theorem VRA.grow {w : World} {X : Addr → Prop} {n n' : Nat} {W W' : Wd} {h h' : Heap} (g : Grow X n W h n' W' h') : ∀ {ms : List MV} {vs : List Value}, VRA w n W h ms vs → VRA w n' W' h' ms vs
  | [], vs, r => by rw [VRA] at r ⊢; exact r
  | m :: ms, vs, r => by
    rw [VRA] at r ⊢
    (refine xEEAA r fun v q e x y => ?_; clear r)
    exact (iEEAA v q e (VR.grow g x) (VRA.grow g y))
end

section
variable {w : World} {n : Nat} {W : Wd} {h : Heap}
theorem VRA.nil : VRA w n W h [] [] := by rw [VRA]
theorem VRA.cons {m : MV} {ms : List MV} {v : Value} {vs : List Value} (x : VR w n W h m v) (y : VRA w n W h ms vs) : VRA w n W h (m :: ms) (v :: vs) := by rw [VRA]; exact (iEEAA v vs rfl x y)
theorem VRA.length : ∀ {ms : List MV} {vs : List Value}, VRA w n W h ms vs → ms.length = vs.length
  | [], vs, x => by rw [VRA] at x; subst x; rfl
  | d :: ds, vs, x => by
    rw [VRA] at x
    (refine xEEAA x fun v r ee1 _ z => ?_; clear x; subst ee1)
    simp [VRA.length z]
theorem VRA.append {es : List MV} {us : List Value} (y : VRA w n W h es us) : ∀ {ds : List MV} {vs : List Value}, VRA w n W h ds vs → VRA w n W h (ds ++ es) (vs ++ us)
  | [], vs, x => by rw [VRA] at x; subst x; simpa using y
  | e :: ds, vs, x => by
    rw [VRA] at x
    (refine xEEAA x fun u r ee2 p q => ?_; clear x; subst ee2)
    rw [List.cons_append, VRA]
    exact (iEEAA u _ rfl p (VRA.append y q))
theorem VRA.get : ∀ {ds : List MV} {vs : List Value}, VRA w n W h ds vs → ∀ {i : Nat} {d : MV}, ds[i]? = some d → ∃ v, vs[i]? = some v ∧ VR w n W h d v
  | [], vs, _, i, d, e => by simp at e
  | c :: ds, vs, x, i, d, e => by
    rw [VRA] at x
    (refine xEEAA x fun u r ee3 p q => ?_; clear x; subst ee3)
    cases i with
    | zero => simp at e; subst e; exact (iEA u rfl p)
    | succ i =>
      refine xEA (VRA.get q (i := i) (d := d) (by simpa using e)) fun v a b => ?_
      exact (iEA v (by simpa using a) b)
theorem VRA.set {m : MV} {v : Value} (y : VR w n W h m v) : ∀ {ds : List MV} {vs : List Value}, VRA w n W h ds vs → ∀ (i : Nat), VRA w n W h (ds.set i m) (vs.set i v)
  | [], vs, x, i => by rw [VRA] at x; subst x; simp [VRA]
  | c :: ds, vs, x, i => by
    rw [VRA] at x
    (refine xEEAA x fun u r ee4 p q => ?_; clear x; subst ee4)
    cases i with
    | zero => exact VRA.cons y q
    | succ i => exact VRA.cons p (VRA.set y q i)
theorem VRA.of_fz : ∀ {ds : List PyData} {vs : List Value}, FzA W.free h ds vs → VRA w n W h (ds.map .d) vs
  | [], vs, x => by rw [FzA] at x; subst x; exact .nil
  | d :: ds, vs, x => by
    rw [FzA] at x
    (refine xEEAA x fun v r ee5 p q => ?_; clear x; subst ee5)
    exact VRA.cons (by rw [VR]; exact p) (VRA.of_fz q)
theorem VRA.to_fz : ∀ {ds : List PyData} {vs : List Value}, VRA w n W h (ds.map .d) vs → FzA W.free h ds vs
  | [], vs, x => by rw [List.map_nil, VRA] at x; subst x; rw [FzA]
  | d :: ds, vs, x => by
    rw [List.map_cons, VRA] at x
    (refine xEEAA x fun v r ee6 p q => ?_; clear x; subst ee6)
    rw [VR] at p
    rw [FzA]
    exact (iEEAA v r rfl p (VRA.to_fz q))
theorem VRA.dropLast : ∀ {ds : List MV} {vs : List Value}, VRA w n W h ds vs → VRA w n W h ds.dropLast vs.dropLast
  | [], vs, x => by rw [VRA] at x; subst x; exact .nil
  | [c], vs, x => by
    rw [VRA] at x
    (refine xEEAA x fun u r ee7 p q => ?_; clear x; subst ee7)
    rw [VRA] at q; subst q; exact .nil
  | c :: e :: ds, vs, x => by
    rw [VRA] at x
    (refine xEEAA x fun u r ee8 p q => ?_; clear x; subst ee8)
    have q' := q
    rw [VRA] at q'
    (refine xEEAA q' fun u' r' ee9 _ _ => ?_; clear q'; subst ee9)
    exact VRA.cons p (VRA.dropLast q)
end

section
variable (w : World) (n : Nat) (W : Wd) (h : Heap)
noncomputable def EntI : List (Int × MV) → List DictEntry → Prop
  | [], es => es = []
  | (k, v) :: r, es => ∃ e es', es = e :: es' ∧ (∃ t, e.key = .int k t) ∧ e.hash = hashInt k ∧ VR w n W h v e.val ∧ EntI r es'
noncomputable def EntS : List (Str × MV) → List DictEntry → Prop
  | [], es => es = []
  | (k, v) :: r, es => ∃ e es', es = e :: es' ∧ (∃ t, e.key = .str k t) ∧ e.hash = hashStr w k ∧ VR w n W h v e.val ∧ EntS r es'
noncomputable def atomHash : Atom → Int
  | .s x => hashStr w x
  | .i k => hashInt k
noncomputable def tHash (k : List Atom) : Int := reduceHash (Builtin.Tuple.tupleHashOf (k.map (atomHash w)))
noncomputable def EntT : List (List Atom × MV) → List DictEntry → Prop
  | [], es => es = []
  | (k, v) :: r, es => ∃ e es', es = e :: es' ∧ Fz W.free h (.tuple (k.map Atom.py)) e.key ∧ e.hash = tHash w k ∧ VR w n W h v e.val ∧ EntT r es'
noncomputable def OR (l : Loc) : MO → Addr → Prop
  | .list vs, a => ∃ its e, h.get? a = some (listOf its e) ∧ VRA w n W h vs its.toList
  | .dictI kvs, a => ∃ es e, h.get? a = some (dictOf es e) ∧ EntI w n W h kvs es ∧ (kvs.map (·.1)).Nodup ∧ (a == sysModules) = false
  | .dictS kvs, a => ∃ es e, h.get? a = some (dictOf es e) ∧ EntS w n W h kvs es ∧ (kvs.map (·.1)).Nodup ∧ (a == sysModules) = false
  | .dictT kvs, a => ∃ es e, h.get? a = some (dictOf es e) ∧ EntT w n W h kvs es ∧ (kvs.map (·.1)).Nodup ∧ (a == sysModules) = false
  | .inst C at_, a => ∃ dx es e, h.get? a = some (instObj C dx) ∧ W.tau dx = .own l ∧ dx ≠ a ∧ h.get? dx = some (dictOf es e) ∧ EntS w n W h at_ es ∧ (at_.map (·.1)).Nodup
end

section
variable {w : World} {X : Addr → Prop} {n n' : Nat} {W W' : Wd} {h h' : Heap}
theorem EntI.grow (g : Grow X n W h n' W' h') : ∀ {l : List (Int × MV)} {es : List DictEntry}, EntI w n W h l es → EntI w n' W' h' l es
  | [], es, x => by rw [EntI] at x ⊢; exact x
  | (k, v) :: r, es, x => by
    rw [EntI] at x ⊢
    (refine xEEAAAA x fun e es' a b c d y => ?_; clear x)
    exact (iEEAAAA e es' a b c (VR.grow g d) (EntI.grow g y))
theorem EntS.grow (g : Grow X n W h n' W' h') : ∀ {l : List (Str × MV)} {es : List DictEntry}, EntS w n W h l es → EntS w n' W' h' l es
  | [], es, x => by rw [EntS] at x ⊢; exact x
  | (k, v) :: r, es, x => by
    rw [EntS] at x ⊢
    (refine xEEAAAA x fun e es' a b c d y => ?_; clear x)
    exact (iEEAAAA e es' a b c (VR.grow g d) (EntS.grow g y))
theorem EntT.grow (g : Grow X n W h n' W' h') : ∀ {l : List (List Atom × MV)} {es : List DictEntry}, EntT w n W h l es → EntT w n' W' h' l es
  | [], es, x => by rw [EntT] at x ⊢; exact x
  | (k, v) :: r, es, x => by
    rw [EntT] at x ⊢
    (refine xEEAAAA x fun e es' a b c d y => ?_; clear x)
    exact (iEEAAAA e es' a (Fz.mono g.keeps1 b) c (VR.grow g d) (EntT.grow g y))
/-- an own object that stands as it stood -/
theorem OR.grow (g : Grow X n W h n' W' h') {l : Loc} (k : ∀ b o, h.get? b = some o → W.tau b = .own l → h'.get? b = some o) :
    ∀ {o : MO} {a : Addr}, W.tau a = .own l → OR w n W h l o a → OR w n' W' h' l o a
  | .list vs, a, t, x => by
    (refine xEEA x fun its e p q => ?_; clear x)
    exact (iEEA its e (k _ _ p t) (VRA.grow g q))
  | .dictI kvs, a, t, x => by
    (refine xEEAA x fun es e p q r => ?_; clear x)
    exact (iEEAA es e (k _ _ p t) (EntI.grow g q) r)
  | .dictS kvs, a, t, x => by
    (refine xEEAA x fun es e p q r => ?_; clear x)
    exact (iEEAA es e (k _ _ p t) (EntS.grow g q) r)
  | .dictT kvs, a, t, x => by
    (refine xEEAA x fun es e p q r => ?_; clear x)
    exact (iEEAA es e (k _ _ p t) (EntT.grow g q) r)
  | .inst C at_, a, t, x => by
    (refine xEEEAAAAA x fun dx es e p q r y z u => ?_; clear x)
    exact (iEEEAAAAA dx es e (k _ _ p t) ((g.tag _ _ y (by rw [q]; exact fun t => nomatch t)).trans q) r (k _ _ y q) (EntS.grow g z) u)
end

/-- the world's relation between an abstract heap and a real one -/
structure Rel (w : World) (h₀ : Heap) (W : Wd) (H : MH) (h : Heap) : Prop where
  base : ∀ b o, h₀.get? b = some o → h.get? b = some o
  old : ∀ b o, h₀.get? b = some o → W.tau b = .free
  new : ∀ b, W.tau b ≠ .free → ∃ o, h.get? b = some o
  obj : ∀ l o, H.get l = some o → ∃ a, W.mu l = some a ∧ W.tau a = .own l ∧ OR w H.next W h l o a
  role : ∀ x, H.r x = none → W.mu (.r x) = none

theorem MH.ok {H : MH} {l : Loc} {o : MO} (e : H.get l = some o) : okL H.next l := by
  cases l with
  | r _ => trivial
  | tmp k => exact (List.getElem?_eq_some_iff.mp e).1
theorem OR.live {w : World} {n : Nat} {W : Wd} {h : Heap} {l : Loc} : ∀ {o : MO} {a : Addr}, OR w n W h l o a → ∃ ob, h.get? a = some ob
  | .list _, _, x => xEEA x fun _ _ p _ => ⟨_, p⟩
  | .dictI _, _, x => xEEA x fun _ _ p _ => ⟨_, p⟩
  | .dictS _, _, x => xEEA x fun _ _ p _ => ⟨_, p⟩
  | .dictT _, _, x => xEEA x fun _ _ p _ => ⟨_, p⟩
  | .inst _ _, _, x => xEEEA x fun _ _ _ p _ => ⟨_, p⟩

/-- an object put in the place of l's; all else of the heap stands -/
theorem Rel.step {w : World} {h₀ : Heap} {X : Addr → Prop} {W W' : Wd} {H H' : MH} {h h' : Heap} {l : Loc} {o' : MO} (R : Rel w h₀ W H h) (g : Grow X H.next W h H'.next W' h')
    (kown : ∀ b o l', h.get? b = some o → W.tau b = .own l' → l' ≠ l → h'.get? b = some o)
    (hget : ∀ l', l' ≠ l → H'.get l' = H.get l') (hl : H'.get l = some o')
    (hnew : ∃ a, W'.mu l = some a ∧ W'.tau a = .own l ∧ OR w H'.next W' h' l o' a)
    (hnt : ∀ b, W'.tau b ≠ .free → ∃ o, h'.get? b = some o) (hrole : ∀ x, H'.r x = none → W'.mu (.r x) = none) : Rel w h₀ W' H' h' where
  base := fun b o e => g.keepF b o (R.base b o e) (R.old b o e)
  old := fun b o e => (g.tag b o (R.base b o e) (by rw [R.old b o e]; exact fun t => nomatch t)).trans (R.old b o e)
  new := hnt
  obj := fun l' o e => by
    by_cases q : l' = l
    · subst q
      rw [hl] at e; cases e
      exact hnew
    · rw [hget l' q] at e
      refine xEAA (R.obj l' o e) fun a e1 e2 e3 => ?_
      refine xE e3.live fun ob lv => ?_
      exact (iEAA a (g.loc l' a (MH.ok e) e1) ((g.tag a ob lv (by rw [e2]; exact fun t => nomatch t)).trans e2) (OR.grow g (fun b o' eb tb => kown b o' l' eb tb q) e2 e3))
  role := hrole

/-- a heap that has grown by things that are nobody's -/
theorem Rel.grow {w : World} {h₀ : Heap} {X : Addr → Prop} {W W' : Wd} {H : MH} {h h' : Heap} (R : Rel w h₀ W H h) (g : Grow X H.next W h H.next W' h')
    (kown : ∀ b o l', h.get? b = some o → W.tau b = .own l' → h'.get? b = some o) (hmu : W'.mu = W.mu) (hnt : ∀ b, W'.tau b ≠ .free → ∃ o, h'.get? b = some o) : Rel w h₀ W' H h' where
  base := fun b o e => g.keepF b o (R.base b o e) (R.old b o e)
  old := fun b o e => (g.tag b o (R.base b o e) (by rw [R.old b o e]; exact fun t => nomatch t)).trans (R.old b o e)
  new := hnt
  obj := fun l o e => by
    refine xEAA (R.obj l o e) fun a e1 e2 e3 => ?_
    refine xE e3.live fun ob lv => ?_
    exact (iEAA a (g.loc l a (MH.ok e) e1) ((g.tag a ob lv (by rw [e2]; exact fun t => nomatch t)).trans e2) (OR.grow g (fun b o' eb tb => kown b o' l eb tb) e2 e3))
  role := fun x e => by rw [hmu]; exact R.role x e

/-- a heap in which all that was stands: the same world -/
theorem Grow.keep {X : Addr → Prop} {n : Nat} {W : Wd} {h h' : Heap} (k : ∀ b o, h.get? b = some o → h'.get? b = some o) : Grow X n W h n W h' :=
  ⟨Nat.le_refl _, fun _ _ _ e => e, fun b o e _ => ⟨o, k b o e⟩, fun _ _ _ _ => rfl, fun b o e _ => k b o e, fun b o e _ _ => k b o e⟩
theorem Rel.keep {w : World} {h₀ : Heap} {W : Wd} {H : MH} {h h' : Heap} (R : Rel w h₀ W H h) (k : ∀ b o, h.get? b = some o → h'.get? b = some o) : Rel w h₀ W H h' :=
  R.grow (X := NoX) (Grow.keep k) (fun b o _ e _ => k b o e) rfl fun b t => by refine xE (R.new b t) fun o e => ?_; exact ⟨o, k b o e⟩
/-- one frame's object is another -/
theorem Grow.but {X : Addr → Prop} {n : Nat} {W : Wd} {h h' : Heap} {L : Addr} (hs : Heap.SameBut L h h') (hL : ∃ o, h'.get? L = some o) (t : W.tau L = .frame) (x : X L) : Grow X n W h n W h' :=
  ⟨Nat.le_refl _, fun _ _ _ e => e, fun b o e _ => by
      by_cases q : b = L
      · subst q; exact hL
      · exact ⟨o, (hs.2 b q).trans e⟩,
    fun _ _ _ _ => rfl, fun b o e f => (hs.2 b (by (intro yy1; subst yy1); rw [t] at f; cases f)).trans e, fun b o e _ nx => (hs.2 b (by (intro yy2; subst yy2); exact nx x)).trans e⟩
theorem Rel.but {w : World} {h₀ : Heap} {W : Wd} {H : MH} {h h' : Heap} {L : Addr} (R : Rel w h₀ W H h) (hs : Heap.SameBut L h h') (hL : ∃ o, h'.get? L = some o) (t : W.tau L = .frame) : Rel w h₀ W H h' :=
  R.grow (X := fun b => b = L) (Grow.but hs hL t rfl) (fun b o l' e q => (hs.2 b (by (intro yy3; subst yy3); rw [t] at q; cases q)).trans e) rfl fun b tb => by
    refine xE (R.new b tb) fun o e => ?_
    by_cases q : b = L
    · subst q; exact hL
    · exact ⟨o, (hs.2 b q).trans e⟩
end Mine
end L1bx

noncomputable section L1cx
open PySem PySem.W PySem.Calls PyProof.Rows
set_option Elab.async false
set_option linter.unusedVariables false
namespace Mine

noncomputable def Sim (s s' : Shared) : Prop := s'.gens = s.gens ∧ s'.os = s.os
theorem Sim.refl {s : Shared} : Sim s s := ⟨rfl, rfl⟩
theorem Sim.trans {s s' s'' : Shared} (a : Sim s s') (b : Sim s' s'') : Sim s s'' := ⟨b.1.trans a.1, b.2.trans a.2⟩

structure AOk (d : Nat) (A : Around) : Prop where
  handled : A.handled = none
  depth : A.depth + 2 * d ≤ 900
  units : A.units + 60 * d ≤ 9000
theorem AOk.room {d : Nat} {A : Around} (a : AOk d A) : A.units < cLine := by have := a.units; unfold cLine; lia
theorem AOk.room64 {d : Nat} {A : Around} (a : AOk d A) : A.units + 64 < cLine := by have := a.units; unfold cLine; lia
theorem AOk.mono {d d' : Nat} {A : Around} (a : AOk d A) (h : d' ≤ d) : AOk d' A := ⟨a.handled, by have := a.depth; lia, by have := a.units; lia⟩
theorem AOk.in1 {d : Nat} {A : Around} (a : AOk (d + 1) A) : AOk d A.in1 := ⟨a.handled, by have := a.depth; show A.depth + _ ≤ _; lia, by have := a.units; show A.units + 1 + _ ≤ _; lia⟩
theorem AOk.deeper {d : Nat} {A : Around} {env : Env} (a : AOk (d + 1) A) : AOk d (A.deeper env) := ⟨a.handled, by have := a.depth; show A.depth + 1 + _ ≤ _; lia, by have := a.units; show A.units + 3 + _ ≤ _; lia⟩

/-- facts of the ground on which the call stands -/
structure Gnd (h₀ : Heap) (K : Frag) (mg mb : Str → Option Value) : Prop where
  kin : K.In h₀
  g : h₀.Ns mainGlobals mg
  b : h₀.Ns builtinsNs mb
  nolimit : h₀.NoLimit
  builtins : ∀ x : Str, x ≠ "__name__" → mb x = bootBuiltins x

structure FrOk (w : World) (sc : Scope) (ρ : List (Str × MV)) (env : Env) (n : Nat) (W : Wd) (h : Heap) : Prop where
  scope : env.scope = sc
  kind : sc.kind = .function
  glob : env.globals = mainGlobals
  blt : env.builtins = builtinsNs
  loc : W.tau env.locals = .frame
  ns : ∃ m, h.Ns env.locals m ∧ ∀ x v, ρ.lookup x = some v → sc.names.lookup x = some .local → ∃ xv, m x = some xv ∧ VR w n W h v xv
  cel : ∀ x v, ρ.lookup x = some v → (sc.names.lookup x = some .cell ∨ sc.names.lookup x = some .free) → ∃ c xv, env.cells.lookup x = some c ∧ h.IsCell c (some xv) ∧ VR w n W h v xv
  cels : ∀ x c, (x, c) ∈ env.cells → W.tau c = .frame ∧ c ≠ env.locals ∧ ∃ v, h.IsCell c v
  apart : env.cells.Pairwise fun a b => a.2 ≠ b.2
  named : ∀ x, sc.names.lookup x = some .cell → ∃ c, env.cells.lookup x = some c

theorem Heap.IsCell.live {h : Heap} {c : Addr} {v : Option Value} (x : h.IsCell c v) : ∃ o, h.get? c = some o := let ⟨o, ho, _⟩ := x; ⟨o, ho⟩

theorem FrOk.grow {w : World} {sc : Scope} {ρ : List (Str × MV)} {env : Env} {n n' : Nat} {W W' : Wd} {h h' : Heap} (f : FrOk w sc ρ env n W h) (g : Grow NoX n W h n' W' h') : FrOk w sc ρ env n' W' h' := by
  refine xEA f.ns fun m hm hv => ?_
  (refine xEEEA hm fun oL es ep hL r => ?_; clear hm)
  have kc : ∀ {c v}, W.tau c = .frame → h.IsCell c v → h'.IsCell c v := fun t zz1 => xEA zz1 fun o ho hd => (iEA o (g.keepL _ o ho t (fun x => x)) hd)
  refine ⟨f.scope, f.kind, f.glob, f.blt, (g.tag _ _ hL fun _ x => x).trans f.loc, (iEA m ((iEEEA oL es ep (g.keepL _ _ hL f.loc (fun x => x)) r)) (fun x v e q => ?_)), fun x v e q => ?_, fun x c e => ?_, f.apart, f.named⟩
  · refine xEA (hv x v e q) fun xv a b => ?_
    exact (iEA xv a (b.grow g))
  · refine xEEAA (f.cel x v e q) fun c xv a b d => ?_
    exact (iEEAA c xv a (kc (f.cels x c (mem_of_lookup a)).1 b) (d.grow g))
  · refine xAAE (f.cels x c e) fun a b v d => ?_
    refine xEA (id d) fun o ho hd => ?_
    exact (iAAE ((g.tag _ _ ho fun _ x => x).trans a) b v (kc a d))

theorem FrOk.growX {X : Addr → Prop} {w : World} {sc : Scope} {ρ : List (Str × MV)} {env : Env} {n n' : Nat} {W W' : Wd} {h h' : Heap} (f : FrOk w sc ρ env n W h) (g : Grow X n W h n' W' h')
    (nl : ¬ X env.locals) (nc : ∀ x c, (x, c) ∈ env.cells → ¬ X c) : FrOk w sc ρ env n' W' h' := by
  refine xEA f.ns fun m hm hv => ?_
  (refine xEEEA hm fun oL es ep hL r => ?_; clear hm)
  have kc : ∀ {x c v}, (x, c) ∈ env.cells → h.IsCell c v → h'.IsCell c v := fun q zz2 => xEA zz2 fun o ho hd => (iEA o (g.keepL _ o ho (f.cels _ _ q).1 (nc _ _ q)) hd)
  refine ⟨f.scope, f.kind, f.glob, f.blt, (g.tag _ _ hL fun _ => nl).trans f.loc, (iEA m ((iEEEA oL es ep (g.keepL _ _ hL f.loc nl) r)) (fun x v e q => ?_)), fun x v e q => ?_, fun x c e => ?_, f.apart, f.named⟩
  · refine xEA (hv x v e q) fun xv a b => ?_
    exact (iEA xv a (b.grow g))
  · refine xEEAA (f.cel x v e q) fun c xv a b d => ?_
    exact (iEEAA c xv a (kc (mem_of_lookup a) b) (d.grow g))
  · refine xAAE (f.cels x c e) fun a b v d => ?_
    refine xEA (id d) fun o ho hd => ?_
    exact (iAAE ((g.tag _ _ ho fun _ => nc _ _ e).trans a) b v (kc e d))

/-- the frame's own object may be another, if it reads the same -/
theorem FrOk.growL {w : World} {sc : Scope} {ρ : List (Str × MV)} {env : Env} {n n' : Nat} {W W' : Wd} {h h' : Heap} (f : FrOk w sc ρ env n W h) (g : Grow (fun b => b = env.locals) n W h n' W' h')
    (hn : ∀ m, h.Ns env.locals m → h'.Ns env.locals m) (hloc : W'.tau env.locals = .frame) : FrOk w sc ρ env n' W' h' := by
  refine xEA f.ns fun m hm hv => ?_
  have hm' := hn m hm
  (refine xEEEA hm fun oL es ep hL r => ?_; clear hm)
  have kc : ∀ {x c v}, (x, c) ∈ env.cells → h.IsCell c v → h'.IsCell c v := fun q zz3 => xEA zz3 fun o ho hd => (iEA o (g.keepL _ o ho (f.cels _ _ q).1 (f.cels _ _ q).2.1) hd)
  refine ⟨f.scope, f.kind, f.glob, f.blt, hloc, (iEA m hm' (fun x v e q => ?_)), fun x v e q => ?_, fun x c e => ?_, f.apart, f.named⟩
  · refine xEA (hv x v e q) fun xv a b => ?_
    exact (iEA xv a (b.grow g))
  · refine xEEAA (f.cel x v e q) fun c xv a b d => ?_
    exact (iEEAA c xv a (kc (mem_of_lookup a) b) (d.grow g))
  · refine xAAE (f.cels x c e) fun a b v d => ?_
    refine xEA (id d) fun o ho hd => ?_
    exact (iAAE ((g.tag _ _ ho fun _ => b).trans a) b v (kc e d))

noncomputable abbrev XL (env : Env) : Addr → Prop := fun b => b = env.locals
noncomputable abbrev FA (env : Env) : Addr → Prop := fun b => b = env.locals ∨ ∃ x, (x, b) ∈ env.cells

noncomputable abbrev Bot : Value → Shared → Prop := fun _ _ => False

/-- what a tree that ran in a frame leaves -/
inductive OutG (w : World) (h₀ : Heap) (X : Addr → Prop) (sc : Scope) (ρ : List (Str × MV)) (env : Env) (H : MH) (W : Wd) (s : Shared) (P : MH → Wd → Shared → Prop) (s' : Shared) : Prop
  | mk (H' : MH) (W' : Wd) (p : P H' W' s') (R : Rel w h₀ W' H' s'.heap) (g : Grow X H.next W s.heap H'.next W' s'.heap) (F : FrOk w sc ρ env H'.next W' s'.heap) (m : Sim s s')
inductive OutC (w : World) (h₀ : Heap) (H : MH) (W : Wd) (s : Shared) (P : MH → Wd → Shared → Prop) (s' : Shared) : Prop
  | mk (H' : MH) (W' : Wd) (p : P H' W' s') (R : Rel w h₀ W' H' s'.heap) (g : Grow NoX H.next W s.heap H'.next W' s'.heap) (m : Sim s s')
section
variable {w : World} {h₀ : Heap} {X : Addr → Prop} {sc : Scope} {ρ : List (Str × MV)} {env : Env} {H : MH} {W : Wd} {s : Shared}
theorem OutG.same {P : MH → Wd → Shared → Prop} (R : Rel w h₀ W H s.heap) (F : FrOk w sc ρ env H.next W s.heap) (p : P H W s) : OutG w h₀ X sc ρ env H W s P s := ⟨H, W, p, R, .refl, F, .refl⟩
theorem OutG.then {H' : MH} {W' : Wd} {s' s'' : Shared} {P : MH → Wd → Shared → Prop} (g : Grow X H.next W s.heap H'.next W' s'.heap) (m : Sim s s') (o : OutG w h₀ X sc ρ env H' W' s' P s'') : OutG w h₀ X sc ρ env H W s P s'' := by
  obtain ⟨H2, W2, p, R, g2, F, m2⟩ := o
  exact ⟨H2, W2, p, R, g.trans g2, F, m.trans m2⟩
theorem OutG.mono {P P' : MH → Wd → Shared → Prop} {s' : Shared} (o : OutG w h₀ X sc ρ env H W s P s') (k : ∀ H' W', P H' W' s' → P' H' W' s') : OutG w h₀ X sc ρ env H W s P' s' := by
  obtain ⟨H2, W2, p, R, g, F, m⟩ := o
  exact ⟨H2, W2, k _ _ p, R, g, F, m⟩
theorem OutC.toG {P : MH → Wd → Shared → Prop} {s' : Shared} (F : FrOk w sc ρ env H.next W s.heap) (o : OutC w h₀ H W s P s') : OutG w h₀ X sc ρ env H W s P s' := by
  obtain ⟨H2, W2, p, R, g, m⟩ := o
  exact ⟨H2, W2, p, R, g.weaken fun _ x => x.elim, F.grow g, m⟩
theorem OutC.then {H' : MH} {W' : Wd} {s' s'' : Shared} {P : MH → Wd → Shared → Prop} (g : Grow NoX H.next W s.heap H'.next W' s'.heap) (m : Sim s s') (o : OutC w h₀ H' W' s' P s'') : OutC w h₀ H W s P s'' := by
  obtain ⟨H2, W2, p, R, g2, m2⟩ := o
  exact ⟨H2, W2, p, R, g.trans g2, m.trans m2⟩
theorem OutC.mono {P P' : MH → Wd → Shared → Prop} {s' : Shared} (o : OutC w h₀ H W s P s') (k : ∀ H' W', P H' W' s' → P' H' W' s') : OutC w h₀ H W s P' s' := by
  obtain ⟨H2, W2, p, R, g, m⟩ := o
  exact ⟨H2, W2, k _ _ p, R, g, m⟩
end

/-- a value handed on -/
noncomputable abbrev Vl (w : World) (Q : MV → MH → Prop) (x : Value) (H : MH) (W : Wd) (s : Shared) : Prop := ∃ v, Q v H ∧ VR w H.next W s.heap v x
noncomputable abbrev Vls (w : World) (Q : List MV → MH → Prop) (xs : List Value) (H : MH) (W : Wd) (s : Shared) : Prop := ∃ vs, Q vs H ∧ VRA w H.next W s.heap vs xs

section
variable (prog : Program) (w : World) (h₀ : Heap)
/-- an expression -/
noncomputable def E (d : Nat) (sc : Scope) (ρ : List (Str × MV)) (e : Expr) (H : MH) (Q : MV → MH → Prop) : Prop :=
  ∀ A env s W, AOk d A → FrOk w sc ρ env H.next W s.heap → Rel w h₀ W H s.heap →
    wpAny (model prog w) A (eval e env) (fun x s' => OutG w h₀ (XL env) sc ρ env H W s (Vl w Q x) s') Bot s
/-- a test -/
noncomputable def T (d : Nat) (sc : Scope) (ρ : List (Str × MV)) (e : Expr) (H : MH) (Q : Bool → MH → Prop) : Prop :=
  ∀ A env s W, AOk d A → FrOk w sc ρ env H.next W s.heap → Rel w h₀ W H s.heap →
    wpAny (model prog w) A (isTrue e env (eval e env)) (fun b s' => OutG w h₀ (XL env) sc ρ env H W s (fun H' _ _ => Q b H') s') Bot s
/-- a row of expressions -/
noncomputable def Es (d : Nat) (sc : Scope) (ρ : List (Str × MV)) (es : List Expr) (H : MH) (Q : List MV → MH → Prop) : Prop :=
  ∀ A env s W pos, AOk d A → FrOk w sc ρ env H.next W s.heap → Rel w h₀ W H s.heap →
    wpAny (model prog w) A (spliced (backTo pos (starEach es env))) (fun xs s' => OutG w h₀ (XL env) sc ρ env H W s (Vls w Q xs) s') Bot s
/-- a call of a value that stands in the ground -/
noncomputable def C (d : Nat) (f : Value) (args : List MV) (H : MH) (Q : MV → MH → Prop) : Prop :=
  ∀ A s W xs, AOk d A → Rel w h₀ W H s.heap → VRA w H.next W s.heap args xs →
    wpAny (model prog w) A (call f xs) (fun x s' => OutC w h₀ H W s (Vl w Q x) s') Bot s
/-- an operation upon values -/
noncomputable def Op (d : Nat) (f : List Value → Sem Value) (args : List MV) (H : MH) (Q : MV → MH → Prop) : Prop :=
  ∀ A s W xs, AOk d A → Rel w h₀ W H s.heap → VRA w H.next W s.heap args xs →
    wpAny (model prog w) A (f xs) (fun x s' => OutC w h₀ H W s (Vl w Q x) s') Bot s
inductive Fl where
  | next | ret (v : MV)
noncomputable def FlR (w : World) (n : Nat) (W : Wd) (h : Heap) : Fl → Flow → Prop
  | .next, f => f = .next
  | .ret v, f => ∃ x, f = .ret x ∧ VR w n W h v x
/-- what a statement leaves -/
inductive OutS (sc : Scope) (env : Env) (H : MH) (W : Wd) (s : Shared) (Q : Fl → List (Str × MV) → MH → Prop) (f : Flow) (s' : Shared) : Prop
  | mk (fl : Fl) (ρ' : List (Str × MV)) (H' : MH) (W' : Wd) (q : Q fl ρ' H') (r : FlR w H'.next W' s'.heap fl f) (R : Rel w h₀ W' H' s'.heap) (g : Grow (FA env) H.next W s.heap H'.next W' s'.heap) (F : FrOk w sc ρ' env H'.next W' s'.heap) (m : Sim s s')
noncomputable def S (d : Nat) (sc : Scope) (ρ : List (Str × MV)) (st : Stmt) (H : MH) (Q : Fl → List (Str × MV) → MH → Prop) : Prop :=
  ∀ A env s W, AOk d A → FrOk w sc ρ env H.next W s.heap → Rel w h₀ W H s.heap →
    wpAny (model prog w) A (exec st env) (OutS w h₀ sc env H W s Q) Bot s
noncomputable def Ss (d : Nat) (sc : Scope) (ρ : List (Str × MV)) (sts : List Stmt) (H : MH) (Q : Fl → List (Str × MV) → MH → Prop) : Prop :=
  ∀ A env s W, AOk d A → FrOk w sc ρ env H.next W s.heap → Rel w h₀ W H s.heap →
    wpAny (model prog w) A (execs sts env) (OutS w h₀ sc env H W s Q) Bot s
end

section
variable {prog : Program} {w : World} {h₀ : Heap} {d : Nat} {sc : Scope} {ρ : List (Str × MV)} {H : MH}
theorem E.mono {e : Expr} {Q Q' : MV → MH → Prop} (x : E prog w h₀ d sc ρ e H Q) (k : ∀ v H', Q v H' → Q' v H') : E prog w h₀ d sc ρ e H Q' :=
  fun A env s W a F R => wpAny_mono (x A env s W a F R) (fun _ _ o => o.mono fun _ _ zz4 => xEA zz4 fun v q r => (iEA v (k _ _ q) r)) fun _ _ e => e
theorem C.up {f : Value} {args : List MV} {Q : MV → MH → Prop} {d' : Nat} (x : C prog w h₀ d f args H Q) (h : d ≤ d') : C prog w h₀ d' f args H Q :=
  fun A s W xs a R V => x A s W xs (a.mono h) R V
theorem OutS.then {env : Env} {W W' : Wd} {H' : MH} {s s' s'' : Shared} {f : Flow} {Q : Fl → List (Str × MV) → MH → Prop} (g : Grow (FA env) H.next W s.heap H'.next W' s'.heap) (m : Sim s s')
    (o : OutS w h₀ sc env H' W' s' Q f s'') : OutS w h₀ sc env H W s Q f s'' := by
  obtain ⟨fl, ρ2, H2, W2, q, r, R, g2, F, m2⟩ := o
  exact ⟨fl, ρ2, H2, W2, q, r, R, g.trans g2, F, m.trans m2⟩
theorem Ss.nil {Q : Fl → List (Str × MV) → MH → Prop} (q : Q .next ρ H) : Ss prog w h₀ d sc ρ [] H Q :=
  fun A env s W a F R => wpAny_execs_nil ⟨.next, ρ, H, W, q, rfl, R, .refl, F, .refl⟩
noncomputable def nextK (prog : Program) (w : World) (h₀ : Heap) (d : Nat) (sc : Scope) (rest : List Stmt) (Q : Fl → List (Str × MV) → MH → Prop) : Fl → List (Str × MV) → MH → Prop := fun fl ρ' H' => match fl with
  | .next => Ss prog w h₀ d sc ρ' rest H' Q
  | fl => Q fl ρ' H'
theorem Ss.cons {st : Stmt} {rest : List Stmt} {Q : Fl → List (Str × MV) → MH → Prop}
    (h : S prog w h₀ d sc ρ st H (nextK prog w h₀ d sc rest Q)) : Ss prog w h₀ d sc ρ (st :: rest) H Q :=
  fun A env s W a F R => wpAny_execs_cons (wpAny_mono (h A env s W a F R) (fun f s' o => by
    obtain ⟨fl, ρ', H', W', q, r, R', g, F', m⟩ := o
    cases fl with
    | next =>
      rw [FlR] at r; subst r
      exact wpAny_mono (q A env s' W' a F' R') (fun _ _ o => OutS.then g m o) fun _ _ e => e
    | ret v =>
      refine xEA (id r) fun x e y => ?_
      subst e
      exact ⟨.ret v, ρ', H', W', q, r, R', g, F', m⟩) fun _ _ e => e)
end
end Mine
end L1cx

noncomputable section L1dx
open PySem PySem.W PySem.Calls PyProof.Rows
set_option Elab.async false
set_option linter.unusedVariables false
namespace Mine

section
variable {w : World} {h₀ : Heap} {X : Addr → Prop} {sc : Scope} {ρ : List (Str × MV)} {env : Env} {H : MH} {W : Wd} {s s' : Shared}
/-- only tokens (and draws) have moved -/
theorem OutG.toks {P : MH → Wd → Shared → Prop} (R : Rel w h₀ W H s.heap) (F : FrOk w sc ρ env H.next W s.heap) (e : s'.heap = s.heap) (m : Sim s s') (p : P H W s') : OutG w h₀ X sc ρ env H W s P s' :=
  ⟨H, W, p, e ▸ R, e ▸ .refl, e ▸ F, m⟩
theorem OutC.toks {P : MH → Wd → Shared → Prop} (R : Rel w h₀ W H s.heap) (e : s'.heap = s.heap) (m : Sim s s') (p : P H W s') : OutC w h₀ H W s P s' :=
  ⟨H, W, p, e ▸ R, e ▸ .refl, m⟩
/-- all that was stands -/
theorem OutC.keep {P : MH → Wd → Shared → Prop} (R : Rel w h₀ W H s.heap) (k : ∀ b o, s.heap.get? b = some o → s'.heap.get? b = some o) (m : Sim s s') (p : P H W s') : OutC w h₀ H W s P s' :=
  ⟨H, W, p, R.keep k, .keep k, m⟩
theorem OutG.keep {P : MH → Wd → Shared → Prop} (R : Rel w h₀ W H s.heap) (F : FrOk w sc ρ env H.next W s.heap) (k : ∀ b o, s.heap.get? b = some o → s'.heap.get? b = some o) (m : Sim s s') (p : P H W s') : OutG w h₀ X sc ρ env H W s P s' :=
  ⟨H, W, p, R.keep k, .keep k, F.grow (.keep k), m⟩

theorem Rel.freeNew (R : Rel w h₀ W H s.heap) : W.free s.heap.objs.size := by
  unfold Wd.free
  cases e : W.tau s.heap.objs.size with
  | free => rfl
  | frame => refine xE (R.new _ (by rw [e]; exact fun q => nomatch q)) fun o x => ?_; exact absurd (Heap.lt_size x) (Nat.lt_irrefl _)
  | own l => refine xE (R.new _ (by rw [e]; exact fun q => nomatch q)) fun o x => ?_; exact absurd (Heap.lt_size x) (Nat.lt_irrefl _)
theorem push_keep (h : Heap) (o : Obj) : ∀ b o', h.get? b = some o' → (h.push o).get? b = some o' := fun _ _ e => Heap.get?_push_of_some _ e

/-- a new thing with an owner -/
noncomputable def Wd.own (W : Wd) (l : Loc) (a : Addr) : Wd := ⟨fun l' => if l' = l then some a else W.mu l', fun b => if b = a then .own l else W.tau b⟩

theorem MH.get_add {H : MH} {l : Loc} {o : MO} (f : H.fresh l) : (H.add l o).get l = some o := by
  cases l with
  | r x => simp [MH.add, MH.get]
  | tmp k => obtain rfl : k = H.t.length := f; simp [MH.add, MH.get]
theorem MH.get_add_ne {H : MH} {l l' : Loc} {o o' : MO} (f : H.fresh l) (n : l' ≠ l) (e : (H.add l o).get l' = some o') : H.get l' = some o' := by
  cases l with
  | r x =>
    cases l' with
    | r y =>
      have : y ≠ x := fun q => n (q ▸ rfl)
      simpa [MH.add, MH.get, this] using e
    | tmp k => simpa [MH.add, MH.get] using e
  | tmp k =>
    obtain rfl : k = H.t.length := f
    cases l' with
    | r y => simpa [MH.add, MH.get] using e
    | tmp j =>
      have hj : j ≠ H.t.length := fun q => n (q ▸ rfl)
      simp only [MH.add, MH.get] at e ⊢
      rcases Nat.lt_trichotomy j H.t.length with h | h | h
      · rwa [List.getElem?_append_left h] at e
      · exact absurd h hj
      · rw [List.getElem?_eq_none (by simp; lia)] at e; cases e
theorem MH.next_add {H : MH} {l : Loc} {o : MO} : H.next ≤ (H.add l o).next := by
  cases l with
  | r x => exact Nat.le_refl _
  | tmp k => simp [MH.add, MH.next]
theorem MH.not_ok {H : MH} {l : Loc} (f : H.fresh l) (hk : ∀ x, l ≠ .r x) : ¬ okL H.next l := by
  cases l with
  | r x => exact absurd rfl (hk x)
  | tmp k => intro h; obtain rfl : k = H.t.length := f; exact Nat.lt_irrefl _ h

theorem fresh_mu (R : Rel w h₀ W H s.heap) {l l' : Loc} {a b : Addr} (f : H.fresh l) (o : okL H.next l') (e : W.mu l' = some b) : (W.own l a).mu l' = some b := by
  have n : l' ≠ l := by
    (intro yy1; subst yy1)
    cases l' with
    | r x => rw [R.role x f] at e; cases e
    | tmp k => exact MH.not_ok (l := .tmp k) f (fun _ q => nomatch q) o
  simp [Wd.own, n, e]

/-- a new object under a fresh name -/
theorem Rel.alloc (R : Rel w h₀ W H s.heap) {l : Loc} (f : H.fresh l) {ob : Obj} {o : MO} (hfree : ob.isFreed = false)
    (k : ∀ n' W' h', Grow NoX H.next W s.heap n' W' h' → h'.get? s.heap.objs.size = some ob → OR w n' W' h' l o s.heap.objs.size) :
    Rel w h₀ (W.own l s.heap.objs.size) (H.add l o) (s.heap.push ob) ∧ Grow NoX H.next W s.heap (H.add l o).next (W.own l s.heap.objs.size) (s.heap.push ob) := by
  have hnew : ∀ b o', s.heap.get? b = some o' → b ≠ s.heap.objs.size := fun b o' e => Nat.ne_of_lt (Heap.lt_size e)
  have g : Grow NoX H.next W s.heap (H.add l o).next (W.own l s.heap.objs.size) (s.heap.push ob) :=
    ⟨MH.next_add, fun l' b h1 e => fresh_mu R f h1 e, fun b o' e _ => ⟨o', push_keep _ _ b o' e⟩, fun b o' e _ => by simp [Wd.own, hnew b o' e], fun b o' e _ => push_keep _ _ b o' e, fun b o' e _ _ => push_keep _ _ b o' e⟩
  refine ⟨⟨fun b o' e => push_keep _ _ b o' (R.base b o' e), fun b o' e => (g.tag b o' (R.base b o' e) fun _ x => x).trans (R.old b o' e), fun b e => ?_, fun l' o' e => ?_, fun x e => ?_⟩, g⟩
  · by_cases q : b = s.heap.objs.size
    · subst q; exact ⟨ob, Heap.get?_push_size _ hfree⟩
    · refine xE (R.new b (by simpa [Wd.own, q] using e)) fun o' e' => ?_
      exact ⟨o', push_keep _ _ b o' e'⟩
  · by_cases q : l' = l
    · subst q
      rw [MH.get_add f] at e; cases e
      exact (iEAA s.heap.objs.size (by simp [Wd.own]) (by simp [Wd.own]) (k _ _ _ g (Heap.get?_push_size _ hfree)))
    · refine xEAA (R.obj l' o' (MH.get_add_ne f q e)) fun a e1 e2 e3 => ?_
      refine xE e3.live fun ob' lv => ?_
      exact (iEAA a (g.loc l' a (MH.ok (MH.get_add_ne f q e)) e1) ((g.tag a ob' lv fun _ x => x).trans e2) (OR.grow g (fun b o'' eb _ => push_keep _ _ b o'' eb) e2 e3))
  · cases l with
    | r y =>
      by_cases q : x = y
      · subst q; simp [MH.add] at e
      · have e' : H.r x = none := by simpa [MH.add, q] using e
        have : Loc.r x ≠ Loc.r y := fun z => q (by injection z)
        simp [Wd.own, this, R.role x e']
    | tmp k =>
      have e' : H.r x = none := by simpa [MH.add] using e
      simp [Wd.own, R.role x e']
end

section
variable {prog : Program} {w : World} {h₀ : Heap} {d : Nat} {sc : Scope} {ρ : List (Str × MV)} {H : MH} {Q : MV → MH → Prop} {pos : Pos} {k : Nat}
theorem vr_int {n : Nat} {W : Wd} {h : Heap} {i : Int} {t : Tok} : VR w n W h (.d (.int i)) (.int i t) := by rw [VR, Fz]; exact ⟨t, rfl⟩
theorem vr_str {n : Nat} {W : Wd} {h : Heap} {x : Str} {t : Tok} : VR w n W h (.d (.str x)) (.str x t) := by rw [VR, Fz]; exact ⟨t, rfl⟩
theorem vr_bool {n : Nat} {W : Wd} {h : Heap} {b : Bool} : VR w n W h (.d (.bool b)) (.bool b) := by rw [VR, Fz]
theorem vr_none {n : Nat} {W : Wd} {h : Heap} : VR w n W h (.d .none) .none := by rw [VR, Fz]
theorem vr_val {n : Nat} {W : Wd} {h : Heap} {v : Value} : VR w n W h (.val v) v := by rw [VR]
theorem of_int {n : Nat} {W : Wd} {h : Heap} {i : Int} {v : Value} (x : VR w n W h (.d (.int i)) v) : ∃ t, v = .int i t := by rwa [VR, Fz] at x
theorem of_str {n : Nat} {W : Wd} {h : Heap} {i : Str} {v : Value} (x : VR w n W h (.d (.str i)) v) : ∃ t, v = .str i t := by rwa [VR, Fz] at x
theorem of_bool {n : Nat} {W : Wd} {h : Heap} {b : Bool} {v : Value} (x : VR w n W h (.d (.bool b)) v) : v = .bool b := by rwa [VR, Fz] at x
theorem of_none {n : Nat} {W : Wd} {h : Heap} {v : Value} (x : VR w n W h (.d .none) v) : v = .none := by rwa [VR, Fz] at x
theorem of_val {n : Nat} {W : Wd} {h : Heap} {u v : Value} (x : VR w n W h (.val u) v) : v = u := by rwa [VR] at x
theorem of_loc {n : Nat} {W : Wd} {h : Heap} {l : Loc} {v : Value} (x : VR w n W h (.loc l) v) : okL n l ∧ ∃ a, W.mu l = some a ∧ v = .ref a := by rwa [VR] at x

theorem E.int {i : Int} (q : Q (.d (.int i)) H) : E prog w h₀ d sc ρ (.Constant (.int i) k pos) H Q :=
  fun A env s W a F R => wpAny_Constant_int (.toks R F rfl ⟨rfl, rfl⟩ (iEA _ q vr_int))
theorem E.str {x : Str} (q : Q (.d (.str x)) H) : E prog w h₀ d sc ρ (.Constant (.str x) k pos) H Q :=
  fun A env s W a F R => wpAny_Constant_str (.toks R F rfl ⟨rfl, rfl⟩ (iEA _ q vr_str))
theorem E.non (q : Q (.d .none) H) : E prog w h₀ d sc ρ (.Constant .none k pos) H Q :=
  fun A env s W a F R => wpAny_Constant_none (.same R F (iEA _ q vr_none))
theorem E.bool {b : Bool} (q : Q (.d (.bool b)) H) : E prog w h₀ d sc ρ (.Constant (.bool b) k pos) H Q :=
  fun A env s W a F R => wpAny_Constant_bool (.same R F (iEA _ q vr_bool))

/-- a name of the frame's -/
theorem E.name {x : Str} {v : MV} (hv : ρ.lookup x = some v) (q : Q v H)
    (hk : (sc.names.lookup x == some .local || sc.names.lookup x == some .cell || sc.names.lookup x == some .free) = true := by exact tt)
    (hd : (x == ("__debug__" : Str)) = false := by exact ff) (hc : (x == ("__classdict__" : Str)) = false := by exact ff) : E prog w h₀ d sc ρ (.Name x pos) H Q := by
  intro A env s W a F R
  have hkind : env.scope.kind = .function := F.scope ▸ F.kind
  have hl : env.kindOf x = sc.names.lookup x := by unfold Env.kindOf; rw [F.scope]
  simp only [Bool.or_eq_true, beq_iff_eq] at hk
  rcases hk with (hk | hk) | hk
  · refine xEA F.ns fun m hm hv' => ?_
    refine xEA (hv' x v hv hk) fun xv e r => ?_
    exact wpAny_Name (wpAny_loadName_local hkind (hl.trans hk) hm e (.same R F (iEA v q r))) hd
  · refine xEEAA (F.cel x v hv (.inl hk)) fun c xv e y r => ?_
    exact wpAny_Name (wpAny_loadName_cell hkind (hl.trans hk) e y (.same R F (iEA v q r))) hd
  · refine xEEAA (F.cel x v hv (.inr hk)) fun c xv e y r => ?_
    exact wpAny_Name (wpAny_loadName_free hkind (hl.trans hk) e y (.same R F (iEA v q r)) hc) hd
/-- a global name -/
theorem E.glob {K : Frag} {mg mb : Str → Option Value} {x : Str} {v : Value} (G : Gnd h₀ K mg mb) (e : nsIn K mainGlobals x = some (some v)) (q : Q (.val v) H)
    (hk : sc.names.lookup x = some .globalImplicit := by rfl) (hd : (x == ("__debug__" : Str)) = false := by exact ff) : E prog w h₀ d sc ρ (.Name x pos) H Q := by
  intro A env s W a F R
  have hl : env.kindOf x = some .globalImplicit := by unfold Env.kindOf; rw [F.scope]; exact hk
  refine Name_function_global (F.scope ▸ F.kind) hl (loadGlobal_global (mg := mg) (by rw [F.glob]; exact G.g.keeps R.base) (mg_of G.kin G.g e) (.same R F (iEA _ q vr_val))) hd
theorem E.blt {K : Frag} {mg mb : Str → Option Value} {x : Str} {v : Value} (G : Gnd h₀ K mg mb) (e : nsIn K mainGlobals x = some none) (hv : bootBuiltins x = some v) (q : Q (.val v) H)
    (hn : x ≠ "__name__" := by decide) (hk : sc.names.lookup x = some .globalImplicit := by rfl) (hd : (x == ("__debug__" : Str)) = false := by exact ff) : E prog w h₀ d sc ρ (.Name x pos) H Q := by
  intro A env s W a F R
  have hl : env.kindOf x = some .globalImplicit := by unfold Env.kindOf; rw [F.scope]; exact hk
  exact Name_function_global (F.scope ▸ F.kind) hl (loadGlobal_builtin (mg := mg) (mb := mb) (by rw [F.glob]; exact G.g.keeps R.base) (mg_none_of G.kin G.g e) (by rw [F.blt]; exact G.b.keeps R.base) ((G.builtins x hn).trans hv)
    (.same R F (iEA _ q vr_val))) hd

/-- an operation upon two values -/
noncomputable def Op2 (prog : Program) (w : World) (h₀ : Heap) (d : Nat) (f : Value → Value → Sem Value) (a b : MV) (H : MH) (Q : MV → MH → Prop) : Prop :=
  ∀ A s W x y, AOk d A → Rel w h₀ W H s.heap → VR w H.next W s.heap a x → VR w H.next W s.heap b y → wpAny (model prog w) A (f x y) (fun x s' => OutC w h₀ H W s (Vl w Q x) s') Bot s
noncomputable def Op1 (prog : Program) (w : World) (h₀ : Heap) (d : Nat) (f : Value → Sem Value) (a : MV) (H : MH) (Q : MV → MH → Prop) : Prop :=
  ∀ A s W x, AOk d A → Rel w h₀ W H s.heap → VR w H.next W s.heap a x → wpAny (model prog w) A (f x) (fun x s' => OutC w h₀ H W s (Vl w Q x) s') Bot s

noncomputable def op2K (prog : Program) (w : World) (h₀ : Heap) (d : Nat) (f : Value → Value → Sem Value) (a : MV) (Q : MV → MH → Prop) (b : MV) (H : MH) : Prop := Op2 prog w h₀ d f a b H Q
noncomputable def opK (prog : Program) (w : World) (h₀ : Heap) (d : Nat) (sc : Scope) (ρ : List (Str × MV)) (r : Expr) (f : Value → Value → Sem Value) (Q : MV → MH → Prop) (a : MV) (H : MH) : Prop := E prog w h₀ d sc ρ r H (op2K prog w h₀ d f a Q)
noncomputable def op1K (prog : Program) (w : World) (h₀ : Heap) (d : Nat) (f : Value → Sem Value) (Q : MV → MH → Prop) (a : MV) (H : MH) : Prop := Op1 prog w h₀ d f a H Q
noncomputable def pushK (v : MV) (Q : List MV → MH → Prop) (vs : List MV) (H : MH) : Prop := Q (v :: vs) H
noncomputable def consK (prog : Program) (w : World) (h₀ : Heap) (d : Nat) (sc : Scope) (ρ : List (Str × MV)) (r : List Expr) (Q : List MV → MH → Prop) (v : MV) (H : MH) : Prop := Es prog w h₀ d sc ρ r H (pushK v Q)
noncomputable def notK (Q : Bool → MH → Prop) (b : Bool) (H : MH) : Prop := Q (!b) H
noncomputable def iteK (prog : Program) (w : World) (h₀ : Heap) (d : Nat) (sc : Scope) (ρ : List (Str × MV)) (x y : Expr) (Q : MV → MH → Prop) (b : Bool) (H : MH) : Prop := (b = true → E prog w h₀ d sc ρ x H Q) ∧ (b = false → E prog w h₀ d sc ρ y H Q)
noncomputable def and2K (prog : Program) (w : World) (h₀ : Heap) (d : Nat) (sc : Scope) (ρ : List (Str × MV)) (y : Expr) (Q : MV → MH → Prop) (v : MV) (H : MH) : Prop := ∃ b, v = .d (.bool b) ∧ (b = true → E prog w h₀ d sc ρ y H Q) ∧ (b = false → Q v H)
noncomputable def or2K (prog : Program) (w : World) (h₀ : Heap) (d : Nat) (sc : Scope) (ρ : List (Str × MV)) (y : Expr) (Q : MV → MH → Prop) (v : MV) (H : MH) : Prop := ∃ b, v = .d (.bool b) ∧ (b = false → E prog w h₀ d sc ρ y H Q) ∧ (b = true → Q v H)

theorem toG {M : Model} {A : Around} {X : Addr → Prop} {env : Env} {W : Wd} {s : Shared} {α : Type} {t : Sem α} {P : α → MH → Wd → Shared → Prop} (F : FrOk w sc ρ env H.next W s.heap)
    (h : wpAny M A t (fun x s' => OutC w h₀ H W s (P x) s') Bot s) : wpAny M A t (fun x s' => OutG w h₀ X sc ρ env H W s (P x) s') Bot s :=
  wpAny_mono h (fun _ _ o => o.toG F) fun _ _ e => e
theorem useG {M : Model} {A : Around} {X : Addr → Prop} {env : Env} {W : Wd} {s : Shared} {α : Type} {t : Sem α} {P : α → MH → Wd → Shared → Prop} {Z : α → Shared → Prop}
    (h : wpAny M A t (fun x s' => OutG w h₀ X sc ρ env H W s (P x) s') Bot s)
    (k : ∀ a s' H' W', P a H' W' s' → Rel w h₀ W' H' s'.heap → FrOk w sc ρ env H'.next W' s'.heap → Grow X H.next W s.heap H'.next W' s'.heap → Sim s s' → Z a s') : wpAny M A t Z Bot s :=
  wpAny_mono h (fun a s' ⟨H', W', p, R, g, F, m⟩ => k a s' H' W' p R F g m) fun _ _ e => e
theorem useC {M : Model} {A : Around} {W : Wd} {s : Shared} {α : Type} {t : Sem α} {P : α → MH → Wd → Shared → Prop} {Z : α → Shared → Prop}
    (h : wpAny M A t (fun x s' => OutC w h₀ H W s (P x) s') Bot s)
    (k : ∀ a s' H' W', P a H' W' s' → Rel w h₀ W' H' s'.heap → Grow NoX H.next W s.heap H'.next W' s'.heap → Sim s s' → Z a s') : wpAny M A t Z Bot s :=
  wpAny_mono h (fun a s' ⟨H', W', p, R, g, m⟩ => k a s' H' W' p R g m) fun _ _ e => e
theorem endG {M : Model} {A : Around} {X : Addr → Prop} {env : Env} {H' : MH} {W W' : Wd} {s s' : Shared} {α : Type} {t : Sem α} {P : α → MH → Wd → Shared → Prop}
    (g : Grow X H.next W s.heap H'.next W' s'.heap) (m : Sim s s') (h : wpAny M A t (fun x s'' => OutG w h₀ X sc ρ env H' W' s' (P x) s'') Bot s') : wpAny M A t (fun x s'' => OutG w h₀ X sc ρ env H W s (P x) s'') Bot s' :=
  wpAny_mono h (fun _ _ o => o.then g m) fun _ _ e => e

theorem release_ {M : Model} {A : Around} {vs keep : List Value} {Z : Unit → Shared → Prop} {s : Shared} (h : Z () s) : wpAny M A (release vs keep) Z Bot s := fun Γ p hΓ => by rw [Sem.wp_release]; exact h
theorem operate_ {M : Model} {A : Around} {vs : List Value} {t : Sem Value} {Z : Value → Shared → Prop} {s : Shared} (h : wpAny M A t Z Bot s) : wpAny M A (operate vs t) Z Bot s := fun Γ p hΓ => by rw [Sem.wp_operate]; exact h Γ p hΓ
theorem E.op1 {op : UnaryOp} {x : Expr} (h : E prog w h₀ d sc ρ x H (op1K prog w h₀ d (unaryOp op) Q)) : E prog w h₀ d sc ρ (.UnaryOp op x pos) H Q :=
  fun A env s W a F R => wpAny_UnaryOp (useG (h A env s W a F R) fun x s' H' W' zz3 R' F' g m => xEA zz3 fun v q r => endG g m (toG F' (q A s' W' x a R' r)))
theorem E.op2 {op : Operator} {l r : Expr} (h : E prog w h₀ d sc ρ l H (opK prog w h₀ d sc ρ r (binaryOp op) Q)) : E prog w h₀ d sc ρ (.BinOp l op r pos) H Q :=
  fun A env s W a F R => wpAny_BinOp (useG (h A env s W a F R) fun x s' H' W' zz4 R' F' g m => xEA zz4 fun v q rv =>
    useG (q A env s' W' a F' R') fun y s'' H'' W'' zz5 R'' F'' g' m' => xEA zz5 fun u q' ru => endG (g.trans g') (m.trans m') (toG F'' (q' A s'' W'' x y a R'' (rv.grow g') ru)))
theorem E.cmp {op : CmpOp} {l r : Expr} (h : E prog w h₀ d sc ρ l H (opK prog w h₀ d sc ρ r (compareOp op) Q))
    (hm : behindInMarks op r = false := by exact ff) : E prog w h₀ d sc ρ (.Compare l [op] [r] pos) H Q :=
  fun A env s W a F R => wpAny_Compare1 (useG (h A env s W a F R) fun x s' H' W' zz6 R' F' g m => xEA zz6 fun v q rv =>
    useG (q A env s' W' a F' R') fun y s'' H'' W'' zz7 R'' F'' g' m' => xEA zz7 fun u q' ru => endG (g.trans g') (m.trans m') (toG F'' (q' A s'' W'' x y a R'' (rv.grow g') ru))) hm

/-- a bool that is looked at -/
noncomputable abbrev BoolQ (Q : Bool → MH → Prop) (v : MV) (H : MH) : Prop := ∃ b, v = .d (.bool b) ∧ Q b H
theorem T.cmp {op : CmpOp} {l r : Expr} {Q : Bool → MH → Prop} (h : E prog w h₀ d sc ρ l H (opK prog w h₀ d sc ρ r (compareOp op) (BoolQ Q)))
    (hm : behindInMarks op r = false := by exact ff) : T prog w h₀ d sc ρ (.Compare l [op] [r] pos) H Q :=
  fun A env s W a F R => wpAny_isTrue_Compare1 (useG (h A env s W a F R) fun x s' H' W' zz8 R' F' g m => xEA zz8 fun v q rv =>
    useG (q A env s' W' a F' R') fun y s'' H'' W'' zz9 R'' F'' g' m' => xEA zz9 fun u q' ru => useG (X := XL env) (toG F'' (q' A s'' W'' x y a R'' (rv.grow g') ru)) fun c s3 H3 W3 zz10 R3 F3 g3 m3 => xEA zz10 fun z zz11 rz => xEA zz11 fun b e q3 => by
      subst e
      rw [of_bool rz]
      exact endG ((g.trans g').trans g3) ((m.trans m').trans m3) (wpAny_truthy_bool (.same R3 F3 q3))) hm
theorem T.val {e : Expr} {Q : Bool → MH → Prop} (h : E prog w h₀ d sc ρ e H (BoolQ Q))
    (he : ∀ env whole, isTrue e env whole = (do let v ← whole; standAt e.pos; holding [v] (truthy v)) := by intro _ _; rfl) : T prog w h₀ d sc ρ e H Q :=
  fun A env s W a F R => wpAny_isTrue_value (useG (h A env s W a F R) fun x s' H' W' zz12 R' F' g m => xEA zz12 fun v zz13 rv => xEA zz13 fun b e q => by
    subst e
    rw [of_bool rv]
    exact endG g m (wpAny_truthy_bool (.same R' F' q))) (he _ _)
theorem T.not {x : Expr} {Q : Bool → MH → Prop} (h : T prog w h₀ d sc ρ x H (notK Q)) : T prog w h₀ d sc ρ (.UnaryOp .Not x pos) H Q :=
  fun A env s W a F R => wpAny_isTrue_Not (wpAny_mono (h A env s W a F R) (fun _ _ o => o) fun _ _ e => e)
/-- and, or of tests -/
noncomputable def Ts (prog : Program) (w : World) (h₀ : Heap) (d : Nat) (sc : Scope) (ρ : List (Str × MV)) (op : BoolOp) (es : List Expr) (H : MH) (Q : Bool → MH → Prop) : Prop :=
  ∀ A env s W, AOk d A → FrOk w sc ρ env H.next W s.heap → Rel w h₀ W H s.heap →
    wpAny (model prog w) A (allTrue op es env) (fun b s' => OutG w h₀ (XL env) sc ρ env H W s (fun H' _ _ => Q b H') s') Bot s
noncomputable def andK (prog : Program) (w : World) (h₀ : Heap) (d : Nat) (sc : Scope) (ρ : List (Str × MV)) (r : List Expr) (Q : Bool → MH → Prop) (b : Bool) (H : MH) : Prop := (b = true → Ts prog w h₀ d sc ρ .And r H Q) ∧ (b = false → Q false H)
noncomputable def orK (prog : Program) (w : World) (h₀ : Heap) (d : Nat) (sc : Scope) (ρ : List (Str × MV)) (r : List Expr) (Q : Bool → MH → Prop) (b : Bool) (H : MH) : Prop := (b = false → Ts prog w h₀ d sc ρ .Or r H Q) ∧ (b = true → Q true H)
theorem T.bools {op : BoolOp} {es : List Expr} {Q : Bool → MH → Prop} (h : Ts prog w h₀ d sc ρ op es H Q) : T prog w h₀ d sc ρ (.BoolOp op es pos) H Q :=
  fun A env s W a F R => wpAny_isTrue_BoolOp (h A env s W a F R)
theorem Ts.andNil {Q : Bool → MH → Prop} (q : Q true H) : Ts prog w h₀ d sc ρ .And [] H Q := fun A env s W a F R => wpAny_allTrue_And_nil (.same R F q)
theorem Ts.orNil {Q : Bool → MH → Prop} (q : Q false H) : Ts prog w h₀ d sc ρ .Or [] H Q := fun A env s W a F R => wpAny_allTrue_Or_nil (.same R F q)
theorem Ts.and {x : Expr} {r : List Expr} {Q : Bool → MH → Prop} (h : T prog w h₀ d sc ρ x H (andK prog w h₀ d sc ρ r Q)) : Ts prog w h₀ d sc ρ .And (x :: r) H Q :=
  fun A env s W a F R => wpAny_allTrue_And_cons (useG (h A env s W a F R) fun b s' H' W' q R' F' g m => by
    cases b with
    | true => exact endG g m (q.1 rfl A env s' W' a F' R')
    | false => exact ⟨H', W', q.2 rfl, R', g, F', m⟩)
theorem Ts.or {x : Expr} {r : List Expr} {Q : Bool → MH → Prop} (h : T prog w h₀ d sc ρ x H (orK prog w h₀ d sc ρ r Q)) : Ts prog w h₀ d sc ρ .Or (x :: r) H Q :=
  fun A env s W a F R => wpAny_allTrue_Or_cons (useG (h A env s W a F R) fun b s' H' W' q R' F' g m => by
    cases b with
    | false => exact endG g m (q.1 rfl A env s' W' a F' R')
    | true => exact ⟨H', W', q.2 rfl, R', g, F', m⟩)
/-- a chain of two comparisons as a test -/
theorem T.chain2 {op op' : CmpOp} {l r r' : Expr} {Q : Bool → MH → Prop}
    (h : E prog w h₀ d sc ρ l H fun a H' => E prog w h₀ d sc ρ r H' fun b H'' => Op2 prog w h₀ d (compareOp op) a b H'' fun c H3 => ∃ t, c = .d (.bool t) ∧
      (t = false → Q false H3) ∧ (t = true → E prog w h₀ d sc ρ r' H3 fun b' H4 => Op2 prog w h₀ d (compareOp op') b b' H4 (BoolQ Q)))
    (hm : lastMarks [op, op'] [r, r'] = false := by exact ff) : T prog w h₀ d sc ρ (.Compare l [op, op'] [r, r'] pos) H Q := by
  intro A env s W a F R
  refine isTrue_chain (useG (h A env s W a F R) fun x s' H' W' zz14 R' F' g m => xEA zz14 fun v q rv => ?_) hm
  show wpAny _ _ (do
    let rv ← holding [x] (eval r env)
    standAt pos
    let c ← holding [x, rv] (compareOp op x rv)
    release [x, rv] [c]
    if ← holding [c, rv] (truthy c) then testChain pos rv [op'] [eval r' env] else pure false) _ _ _
  refine wpAny_bind (wpAny_holding (useG (q A env s' W' a F' R') fun y s'' H'' W'' zz15 R'' F'' g' m' => xEA zz15 fun u q' ru => wpAny_bind (wpAny_standAt (wpAny_bind (wpAny_holding (useG (X := XL env) (toG F'' (q' A s'' W'' x y a R'' (rv.grow g') ru))
    fun c s3 H3 W3 zz16 R3 F3 g3 m3 => xEA zz16 fun z zz17 rz => xEAA zz17 fun t e q0 q1 => ?_))))))
  subst e
  rw [of_bool rz]
  refine wpAny_bind (release_ ?_)
  refine wpAny_bind (wpAny_holding (wpAny_truthy_bool ?_))
  have G := (g.trans g').trans g3
  have M := (m.trans m').trans m3
  cases t with
  | false => exact endG G M (wpAny_pure (.same R3 F3 (q0 rfl)))
  | true =>
    show wpAny _ _ (do
      let rv ← holding [y] (eval r' env)
      standAt pos
      let c ← operate [y, rv] (compareOp op' y rv)
      holding [c] (truthy c)) _ _ _
    refine wpAny_bind (wpAny_holding (useG (q1 rfl A env s3 W3 a F3 R3) fun y' s4 H4 W4 zz18 R4 F4 g4 m4 => xEA zz18 fun u' q4 ru' => wpAny_bind (wpAny_standAt (wpAny_bind (operate_ ?_)))))
    refine useG (X := XL env) (toG F4 (q4 A s4 W4 y y' a R4 ((ru.grow g3).grow g4) ru')) fun c s5 H5 W5 zz19 R5 F5 g5 m5 => xEA zz19 fun z zz20 rz => xEA zz20 fun b e q5 => ?_
    subst e
    rw [of_bool rz]
    exact endG ((G.trans g4).trans g5) ((M.trans m4).trans m5) (wpAny_holding (wpAny_truthy_bool (.same R5 F5 q5)))
theorem E.ite {t b o : Expr} (h : T prog w h₀ d sc ρ t H (iteK prog w h₀ d sc ρ b o Q)) : E prog w h₀ d sc ρ (.IfExp t b o pos) H Q :=
  fun A env s W a F R => wpAny_IfExp (useG (h A env s W a F R) fun c s' H' W' q R' F' g m => by
    cases c with
    | true => exact endG g m (q.1 rfl A env s' W' a F' R')
    | false => exact endG g m (q.2 rfl A env s' W' a F' R'))
theorem E.and2 {x y : Expr} (h : E prog w h₀ d sc ρ x H (and2K prog w h₀ d sc ρ y Q)) : E prog w h₀ d sc ρ (.BoolOp .And [x, y] pos) H Q :=
  fun A env s W a F R => wpAny_And2 (useG (h A env s W a F R) fun v s' H' W' zz21 R' F' g m => xEA zz21 fun u zz22 r => xEAA zz22 fun b e q1 q0 => by
    subst e
    have e := of_bool r
    subst e
    refine wpAny_truthy_bool ?_
    cases b with
    | true => exact endG g m (q1 rfl A env s' W' a F' R')
    | false => exact ⟨H', W', (iEA _ (q0 rfl) r), R', g, F', m⟩)
theorem E.or2 {x y : Expr} (h : E prog w h₀ d sc ρ x H (or2K prog w h₀ d sc ρ y Q)) : E prog w h₀ d sc ρ (.BoolOp .Or [x, y] pos) H Q :=
  fun A env s W a F R => wpAny_Or2 (useG (h A env s W a F R) fun v s' H' W' zz23 R' F' g m => xEA zz23 fun u zz24 r => xEAA zz24 fun b e q1 q0 => by
    subst e
    have e := of_bool r
    subst e
    refine wpAny_truthy_bool ?_
    cases b with
    | false => exact endG g m (q1 rfl A env s' W' a F' R')
    | true => exact ⟨H', W', (iEA _ (q0 rfl) r), R', g, F', m⟩)
theorem Es.nil {Q : List MV → MH → Prop} (q : Q [] H) : Es prog w h₀ d sc ρ [] H Q :=
  fun A env s W pos a F R => wpAny_items_nil (.same R F (iEA ([]) q .nil))
noncomputable def isStar (e : Expr) : Bool := e.ctorIdx == 22
theorem star_row {e : Expr} {r : List Expr} (h : isStar e = false) (env : Env) : starEach (e :: r) env = (false, eval e env) :: starEach r env := by
  cases e <;> first | rfl | cases h
theorem bqT {Q : Bool → MH → Prop} {b : Bool} (e : b = true) (q : Q true H) : BoolQ Q (.d (.bool b)) H := iEA true (by rw [e]) q
theorem bqF {Q : Bool → MH → Prop} {b : Bool} (e : b = false) (q : Q false H) : BoolQ Q (.d (.bool b)) H := iEA false (by rw [e]) q
theorem ttI {X Y : Prop} (x : X) : (true = true → X) ∧ (true = false → Y) := ⟨fun _ => x, fun h => nomatch h⟩
theorem ftI {X Y : Prop} (x : X) : (false = false → X) ∧ (false = true → Y) := ⟨fun _ => x, fun h => nomatch h⟩
theorem tfI {X Y : Prop} (y : Y) : (true = false → X) ∧ (true = true → Y) := ⟨(fun h => nomatch h), fun _ => y⟩
theorem ffI {X Y : Prop} (y : Y) : (false = true → X) ∧ (false = false → Y) := ⟨(fun h => nomatch h), fun _ => y⟩
theorem Es.cons {e : Expr} {r : List Expr} {Q : List MV → MH → Prop} (h : E prog w h₀ d sc ρ e H (consK prog w h₀ d sc ρ r Q))
    (he : isStar e = false := by exact ff) : Es prog w h₀ d sc ρ (e :: r) H Q :=
  fun A env s W pos a F R => wpAny_items_cons (useG (h A env s W a F R) fun x s' H' W' zz25 R' F' g m => xEA zz25 fun v q rv =>
    useG (q A env s' W' pos a F' R') fun xs s'' H'' W'' zz26 R'' F'' g' m' => xEA zz26 fun vs q' rs => ⟨H'', W'', (iEA (v :: vs) q' (.cons (rv.grow g') rs)), R'', g.trans g', F'', m.trans m'⟩) (star_row he env)
end
end Mine
end L1dx

noncomputable section L1ex
open PySem PySem.W PySem.Calls PyProof.Rows
set_option Elab.async false
set_option linter.unusedVariables false
namespace Mine

/-- all of a row are pure data -/
noncomputable def datas : List MV → Option (List PyData)
  | [] => some []
  | .d x :: r => (datas r).map (x :: ·)
  | _ :: _ => none
theorem datas_eq : ∀ {vs : List MV} {ds : List PyData}, datas vs = some ds → vs = ds.map .d
  | [], ds, e => by simp [datas] at e; subst e; rfl
  | .d x :: r, ds, e => by
    simp only [datas, Option.map_eq_some_iff] at e
    (refine xEA e fun t a ee1 => ?_; clear e; subst ee1)
    rw [datas_eq a]; rfl
  | .loc _ :: _, _, e => by cases e
  | .val _ :: _, _, e => by cases e
  | .tup _ :: _, _, e => by cases e
  | .set _ :: _, _, e => by cases e
  | .rng _ :: _, _, e => by cases e
theorem datas_map (ds : List PyData) : datas (ds.map .d) = some ds := by
  induction ds with
  | nil => rfl
  | cons x r ih => simp [datas, ih]

theorem le1000 {n : Nat} (h : n ≤ 1000) : n ≤ sizeLine := by rw [sizeLine_eq]; lia

section
variable {prog : Program} {w : World} {h₀ : Heap} {d : Nat} {sc : Scope} {ρ : List (Str × MV)} {H : MH} {Q : MV → MH → Prop} {pos : Pos} {k : Nat}

theorem vr_tuple {n : Nat} {W : Wd} {h : Heap} {ds : List PyData} {vs : List Value} {a : Addr} {e : Nat} (f : W.free a) (g : h.get? a = some (tupOf vs.toArray e)) (r : FzA W.free h ds vs) : VR w n W h (.d (.tuple ds)) (.ref a) := by
  rw [VR, Fz]; exact (iEEEAAA a vs.toArray e rfl f g (by simpa using r))
theorem vr_list {n : Nat} {W : Wd} {h : Heap} {ds : List PyData} {vs : List Value} {a : Addr} {e : Nat} (f : W.free a) (g : h.get? a = some (listOf vs.toArray e)) (r : FzA W.free h ds vs) : VR w n W h (.d (.list ds)) (.ref a) := by
  rw [VR, Fz]; exact (iEEEAAA a vs.toArray e rfl f g (by simpa using r))

noncomputable def tupK (Q : MV → MH → Prop) (vs : List MV) (H : MH) : Prop := ∃ ds, datas vs = some ds ∧ ds.length ≤ 1000 ∧ Q (.d (.tuple ds)) H
noncomputable def tupmK (Q : MV → MH → Prop) (vs : List MV) (H : MH) : Prop := vs.length ≤ 1000 ∧ Q (.tup vs) H
noncomputable def lstK (Q : MV → MH → Prop) (vs : List MV) (H : MH) : Prop := ∃ ds, datas vs = some ds ∧ ds.length ≤ 1000 ∧ Q (.d (.list ds)) H
noncomputable def lstAtK (l : Loc) (Q : MV → MH → Prop) (vs : List MV) (H : MH) : Prop := H.fresh l ∧ vs.length ≤ 1000 ∧ Q (.loc l) (H.add l (.list vs))
theorem tupK.mk {vs : List MV} {ds : List PyData} (e : datas vs = some ds) (l : ds.length ≤ 1000) (q : Q (.d (.tuple ds)) H) : tupK Q vs H := iEAA ds e l q
theorem lstK.mk {vs : List MV} {ds : List PyData} (e : datas vs = some ds) (l : ds.length ≤ 1000) (q : Q (.d (.list ds)) H) : lstK Q vs H := iEAA ds e l q
theorem E.tuple {elts : List Expr} (h : Es prog w h₀ d sc ρ elts H (tupK Q)) : E prog w h₀ d sc ρ (.Tuple elts k pos) H Q :=
  fun A env s W a F R => wpAny_Tuple (useG (h A env s W pos a F R) fun xs s' H' W' zz8 R' F' g m => xEA zz8 fun vs zz9 r => xEAA zz9 fun ds e l q => by
    obtain rfl := datas_eq e
    have z := r.to_fz
    have kp := push_keep s'.heap (tupOf xs.toArray 0)
    refine ⟨le1000 (by have := z.length; lia), OutG.then (s'' := { s' with heap := s'.heap.push _ }) g m (.keep R' F' kp ⟨rfl, rfl⟩ (iEA _ q (vr_tuple R'.freeNew (Heap.get?_push_size _ rfl) (z.mono (Grow.keep (X := NoX) (n := 0) kp).keeps1))))⟩)
/-- a tuple that holds more than data -/
theorem E.tup {elts : List Expr} (h : Es prog w h₀ d sc ρ elts H (tupmK Q)) : E prog w h₀ d sc ρ (.Tuple elts k pos) H Q :=
  fun A env s W a F R => wpAny_Tuple (useG (h A env s W pos a F R) fun xs s' H' W' zz10 R' F' g m => xEA zz10 fun vs zz11 r => xA zz11 fun l q => by
    have kp := push_keep s'.heap (tupOf xs.toArray 0)
    refine ⟨le1000 (by have := r.length; lia), OutG.then (s'' := { s' with heap := s'.heap.push _ }) g m (.keep R' F' kp ⟨rfl, rfl⟩ (iEA _ q ?_))⟩
    rw [VR]
    exact (iEEEAAA _ _ _ rfl R'.freeNew (Heap.get?_push_size _ rfl) (by simpa using VRA.grow (X := NoX) (.keep kp) r)))
/-- a list that nobody will change -/
theorem E.list {elts : List Expr} (h : Es prog w h₀ d sc ρ elts H (lstK Q)) : E prog w h₀ d sc ρ (.List elts pos) H Q :=
  fun A env s W a F R => wpAny_List (useG (h A env s W pos a F R) fun xs s' H' W' zz12 R' F' g m => xEA zz12 fun vs zz13 r => xEAA zz13 fun ds e l q => by
    obtain rfl := datas_eq e
    have z := r.to_fz
    have kp := push_keep s'.heap (listOf xs.toArray 0)
    refine ⟨le1000 (by have := z.length; lia), OutG.then (s'' := { s' with heap := s'.heap.push _ }) g m (.keep R' F' kp ⟨rfl, rfl⟩ (iEA _ q (vr_list R'.freeNew (Heap.get?_push_size _ rfl) (z.mono (Grow.keep (X := NoX) (n := 0) kp).keeps1))))⟩)

theorem MH.ok_add {H : MH} {l : Loc} {o : MO} (f : H.fresh l) : okL (H.add l o).next l := MH.ok (MH.get_add f)
/-- a list under a name -/
theorem E.listAt {elts : List Expr} (l : Loc) (h : Es prog w h₀ d sc ρ elts H (lstAtK l Q)) : E prog w h₀ d sc ρ (.List elts pos) H Q :=
  fun A env s W a F R => wpAny_List (useG (h A env s W pos a F R) fun xs s' H' W' zz14 R' F' g m => xEA zz14 fun vs zz15 r => xAA zz15 fun f len q => by
    refine xA (R'.alloc f (ob := listOf xs.toArray 0) (o := .list vs) rfl fun n' W' h' g e => (iEEA _ _ e (by simpa using r.grow g))) fun R2 g2 => ?_
    refine ⟨le1000 (by have := r.length; lia), OutG.then (s'' := { s' with heap := s'.heap.push _ }) g m ⟨_, _, (iEA _ q ?_), R2, g2.weaken fun _ x => x.elim, F'.grow g2, ⟨rfl, rfl⟩⟩⟩
    rw [VR]
    exact (iAEA (MH.ok_add f) _ (by simp [Wd.own]) rfl))

/-- the empty dict of ints under a name -/
theorem newDict_ {M : Model} {A : Around} {W : Wd} {s : Shared} {o : MO} (R : Rel w h₀ W H s.heap) (low : ∃ o, h₀.get? mainGlobals = some o) {l : Loc} (f : H.fresh l) (ho : o = .dictI [] ∨ o = .dictT [] ∨ o = .dictS []) (q : Q (.loc l) (H.add l o)) :
    OutC w h₀ H W s (Vl w Q (.ref s.heap.objs.size)) { s with heap := s.heap.push { cls := .type "dict", data := .dict #[] } } := by
  have hsys : (s.heap.objs.size == sysModules) = false := by
    (refine xE low fun og hg => ?_; clear low)
    have := Heap.lt_size (R.base _ _ hg)
    exact beq_eq_false_iff_ne.mpr (Nat.ne_of_gt (Nat.lt_trans (show sysModules < mainGlobals by decide) this))
  obtain ⟨R2, g2⟩ := R.alloc f (ob := dictOf [] 0) (o := o) rfl fun n' W' h' g e => by
    rcases ho with rfl | rfl | rfl <;> exact (iEEAAA ([]) 0 e (by first | rw [EntI] | rw [EntT] | rw [EntS]) List.nodup_nil hsys)
  refine ⟨_, _, (iEA _ q ?_), R2, g2, ⟨rfl, rfl⟩⟩
  rw [VR]
  exact (iAEA (MH.ok_add f) _ (by simp [Wd.own]) rfl)
theorem E.dict0 {K : Frag} {mg mb : Str → Option Value} (G : Gnd h₀ K mg mb) (l : Loc) (o : MO) (f : H.fresh l) (ho : o = .dictI [] ∨ o = .dictT [] ∨ o = .dictS []) (q : Q (.loc l) (H.add l o)) : E prog w h₀ d sc ρ (.Dict [] [] pos) H Q :=
  fun A env s W a F R => by
    refine wpAny_Dict_empty ?_
    exact OutC.toG F (newDict_ (M := model prog w) (A := A) R (let ⟨o, _, _, h, _⟩ := G.g; ⟨o, h⟩) f ho q)

/-- the place that a subscript reads -/
noncomputable def seqAt (n : Nat) (i : Int) : Option Nat := if 0 ≤ i then (if i.toNat < n then some i.toNat else none) else (if -(n : Int) ≤ i then some (i + n).toNat else none)
theorem E.sub {v i : Expr} (h : E prog w h₀ d sc ρ v H (opK prog w h₀ d sc ρ i (subscriptTail v i) Q)) : E prog w h₀ d sc ρ (.Subscript v i pos) H Q :=
  fun A env s W a F R => Subscript_ (useG (h A env s W a F R) fun x s' H' W' zz16 R' F' g m => xEA zz16 fun v q rv =>
    useG (q A env s' W' a F' R') fun y s'' H'' W'' zz17 R'' F'' g' m' => xEA zz17 fun u q' ru => endG (g.trans g') (m.trans m') (toG F'' (q' A s'' W'' x y a R'' (rv.grow g') ru)))
noncomputable abbrev PlainSub (slice : Expr) : Prop := ∀ (o : Value) (i : Int) (u : Tok), subscripted slice false o (.int i u) = operate [o, .int i u] (getItem o (.int i u))

theorem fz_list {F : Addr → Prop} {h : Heap} {xs : List PyData} {v : Value} (x : Fz F h (.list xs) v) : ∃ a vs n, v = .ref a ∧ F a ∧ h.get? a = some (listOf vs n) ∧ FzA F h xs vs.toList := by rwa [Fz] at x
theorem fz_tuple {F : Addr → Prop} {h : Heap} {xs : List PyData} {v : Value} (x : Fz F h (.tuple xs) v) : ∃ a vs n, v = .ref a ∧ F a ∧ h.get? a = some (tupOf vs n) ∧ FzA F h xs vs.toList := by rwa [Fz] at x
theorem of_d {n : Nat} {W : Wd} {h : Heap} {x : PyData} {v : Value} (r : VR w n W h (.d x) v) : Fz W.free h x v := by rwa [VR] at r
theorem to_d {n : Nat} {W : Wd} {h : Heap} {x : PyData} {v : Value} (r : Fz W.free h x v) : VR w n W h (.d x) v := by rwa [VR]

/-- an item of a frozen list -/
theorem Op2.itemL {value slice : Expr} {xs : List PyData} {i : Int} {x : PyData} (h0 : 0 ≤ i) (hi : i < 1000) (e : xs[i.toNat]? = some x) (q : Q (.d x) H) (hs : PlainSub slice := by intro _ _ _; rfl) :
    Op2 prog w h₀ d (subscriptTail value slice) (.d (.list xs)) (.d (.int i)) H Q := by
  intro A s W u v a R ru rv
  (refine xE (of_int rv) fun t ee2 => ?_; subst ee2)
  (refine xEEEAAA (fz_list (of_d ru)) fun b vs n ee3 f g r => ?_; subst ee3)
  refine xEA (r.get e) fun y ey ry => ?_
  have hl : s.heap.IsList b vs := (iEAAE _ g rfl n rfl)
  exact tail_any hl.typeIs slot_list_getitem.lookup (wpAny_getItem_list hl h0 (by lia) (by simpa using ey) (.toks R rfl .refl (iEA _ q (to_d ry)))) (hs _ _ _)
/-- an item of a tuple -/
theorem Op2.itemT {value slice : Expr} {xs : List PyData} {i : Int} {x : PyData} (h0 : 0 ≤ i) (hi : i < 1000) (e : xs[i.toNat]? = some x) (q : Q (.d x) H) (hs : PlainSub slice := by intro _ _ _; rfl) :
    Op2 prog w h₀ d (subscriptTail value slice) (.d (.tuple xs)) (.d (.int i)) H Q := by
  intro A s W u v a R ru rv
  (refine xE (of_int rv) fun t ee4 => ?_; subst ee4)
  (refine xEEEAAA (fz_tuple (of_d ru)) fun b vs n ee5 f g r => ?_; subst ee5)
  refine xEA (r.get e) fun y ey ry => ?_
  have hl : IsTup s.heap b vs.toList.toArray := (iEAAE _ g rfl n (by simp))
  have hlen := r.length
  have hlt : i.toNat < xs.length := (List.getElem?_eq_some_iff.mp e).1
  refine item_tupleT hl (by lia) (by lia) (j := i.toNat) ?_ ey (.toks R rfl .refl (iEA _ q (to_d ry))) (hs _ _ _)
  unfold seqIndex?
  have : ¬ i < 0 := by lia
  simp only [this, if_false]
  rw [if_pos (by simp only [Bool.and_eq_true, decide_eq_true_eq]; lia)]
/-- an item of a list under a name -/
theorem Op2.itemN {value slice : Expr} {l : Loc} {vs : List MV} {i : Int} {x : MV} (hl : H.get l = some (.list vs)) (h0 : 0 ≤ i) (hi : i < 1000) (e : vs[i.toNat]? = some x) (q : Q x H) (hs : PlainSub slice := by intro _ _ _; rfl) :
    Op2 prog w h₀ d (subscriptTail value slice) (.loc l) (.d (.int i)) H Q := by
  intro A s W u v a R ru rv
  (refine xE (of_int rv) fun t ee6 => ?_; subst ee6)
  refine xEAAEEA (R.obj l _ hl) fun b e1 _ its n g r => ?_
  (refine xAEA (of_loc ru) fun _ b' e2 ee7 => ?_; subst ee7)
  obtain rfl : b' = b := Option.some.inj (e2.symm.trans e1)
  refine xEA (r.get e) fun y ey ry => ?_
  have hl : s.heap.IsList b' its := (iEAAE _ g rfl n rfl)
  exact tail_any hl.typeIs slot_list_getitem.lookup (wpAny_getItem_list hl h0 (by lia) (by simpa using ey) (.toks R rfl .refl (iEA _ q ry))) (hs _ _ _)
end
end Mine
end L1ex

noncomputable section L1fx
open PySem PySem.W PySem.Calls PyProof.Rows
set_option Elab.async false
set_option linter.unusedVariables false
namespace Mine

theorem bindL_not {kindOf : Str → Option NameKind} {x : Str} : ∀ (r : List (Str × Value)) (m : Str → Option Value), x ∉ r.map (·.1) → bindL kindOf r m x = m x
  | [], _, _ => rfl
  | (n, v) :: r, m, h => by
    simp only [List.map_cons, List.mem_cons, not_or] at h
    rw [bindL, bindL_not r _ h.2]
    split <;> simp [h.1]
theorem bindC_not {kindOf : Str → Option NameKind} {x : Str} : ∀ (r : List (Str × Value)) (m : Str → Option Value), x ∉ r.map (·.1) → bindC kindOf r m x = m x
  | [], _, _ => rfl
  | (n, v) :: r, m, h => by
    simp only [List.map_cons, List.mem_cons, not_or] at h
    rw [bindC, bindC_not r _ h.2]
    split <;> simp [h.1]
theorem bindL_at {kindOf : Str → Option NameKind} {x : Str} {v : Value} (hk : kindOf x = some .local) : ∀ (r : List (Str × Value)) (m : Str → Option Value), (r.map (·.1)).Nodup → r.lookup x = some v → bindL kindOf r m x = some v
  | [], _, _, h => by cases h
  | (n, u) :: r, m, hn, h => by
    simp only [List.map_cons, List.nodup_cons] at hn
    rw [bindL]
    by_cases q : x = n
    · subst q
      simp at h
      subst h
      rw [bindL_not r _ hn.1]; simp [hk]
    · have : (x == n) = false := by simpa using q
      rw [List.lookup_cons, this] at h
      exact bindL_at hk r _ hn.2 h
theorem bindC_at {kindOf : Str → Option NameKind} {x : Str} {v : Value} (hk : kindOf x ≠ some .local) : ∀ (r : List (Str × Value)) (m : Str → Option Value), (r.map (·.1)).Nodup → r.lookup x = some v → bindC kindOf r m x = some v
  | [], _, _, h => by cases h
  | (n, u) :: r, m, hn, h => by
    simp only [List.map_cons, List.nodup_cons] at hn
    rw [bindC]
    by_cases q : x = n
    · subst q
      simp at h
      subst h
      rw [bindC_not r _ hn.1]; simp [hk]
    · have : (x == n) = false := by simpa using q
      rw [List.lookup_cons, this] at h
      exact bindC_at hk r _ hn.2 h
theorem zip_lookup {w : World} {n : Nat} {W : Wd} {h : Heap} {x : Str} {v : MV} : ∀ {names : List Str} {args : List MV} {xs : List Value}, VRA w n W h args xs → (names.zip args).lookup x = some v →
    ∃ xv, (names.zip xs).lookup x = some xv ∧ VR w n W h v xv
  | [], _, _, _, e => by cases e
  | a :: as, [], xs, r, e => by cases e
  | a :: as, m :: ms, xs, r, e => by
    rw [VRA] at r
    (refine xEEAA r fun y ys ee1 p q => ?_; clear r; subst ee1)
    rw [List.zip_cons_cons, List.lookup_cons] at e ⊢
    cases hx : x == a with
    | true => rw [hx] at e; cases e; exact (iEA y rfl p)
    | false => rw [hx] at e; exact zip_lookup q e
theorem zip_names {α : Type} : ∀ {names : List Str} {xs : List α}, names.length = xs.length → (names.zip xs).map (·.1) = names
  | [], [], _ => rfl
  | a :: as, x :: xs, h => by simp only [List.zip_cons_cons, List.map_cons]; rw [zip_names (by simpa using h)]
  | [], _ :: _, h => by simp at h
  | _ :: _, [], h => by simp at h

/-- names of a frame that has been entered -/
noncomputable def Wd.frames (W : Wd) (L : Addr) (cs : List (Str × Addr)) : Wd := ⟨W.mu, fun b => if b = L ∨ b ∈ cs.map (·.2) then .frame else W.tau b⟩

/-- what a call hands back, and what of its own things it forgets -/
inductive okV (n : Nat) : MV → Prop
  | d (x) : okV n (.d x)
  | loc {l} (h : okL n l) : okV n (.loc l)
  | val (v) : okV n (.val v)
  | tup {l : List MV} (h : ∀ v ∈ l, okV n v) : okV n (.tup l)
  | set (l) : okV n (.set l)
  | rng (k) : okV n (.rng k)
noncomputable def okO (n : Nat) : MO → Prop
  | .list l => ∀ v ∈ l, okV n v
  | .dictI l => ∀ v ∈ l, okV n v.2
  | .dictS l => ∀ v ∈ l, okV n v.2
  | .dictT l => ∀ v ∈ l, okV n v.2
  | .inst _ l => ∀ v ∈ l, okV n v.2
noncomputable def cut (H : MH) (n : Nat) : MH := ⟨H.r, H.t.take n⟩
/-- all that is left when the things from n on are forgotten speaks of what is left alone -/
noncomputable def okH (n : Nat) (H : MH) : Prop := (∀ x o, H.r x = some o → okO n o) ∧ ∀ k o, k < n → H.t[k]? = some o → okO n o
noncomputable def Back (H : MH) (Q : MV → MH → Prop) (v : MV) (H' : MH) : Prop := Q v H' ∨ ∃ n, H.next ≤ n ∧ n ≤ H'.next ∧ okV n v ∧ okH n H' ∧ Q v (cut H' n)

mutual
theorem VR.down {w : World} {n n' : Nat} {W : Wd} {h : Heap} : ∀ {m : MV} {v : Value}, VR w n' W h m v → okV n m → VR w n W h m v
  | .d x, v, r, _ => by rw [VR] at r ⊢; exact r
  | .loc l, v, r, o => by rw [VR] at r ⊢; cases o with | loc o => exact ⟨o, r.2⟩
  | .val u, v, r, _ => by rw [VR] at r ⊢; exact r
  | .set l, v, r, _ => by rw [VR] at r ⊢; exact r
  | .rng l, v, r, _ => by rw [VR] at r ⊢; exact r
  | .tup l, v, r, o => by
    rw [VR] at r ⊢
    cases o with
    | tup o =>
    (refine xEEEAAA r fun a vs e q f x y => ?_; clear r)
    exact (iEEEAAA a vs e q f x (VRA.down y fun m hm => o m hm))
theorem VRA.down {w : World} {n n' : Nat} {W : Wd} {h : Heap} : ∀ {ms : List MV} {vs : List Value}, VRA w n' W h ms vs → (∀ m ∈ ms, okV n m) → VRA w n W h ms vs
  | [], vs, r, _ => by rw [VRA] at r ⊢; exact r
  | m :: ms, vs, r, o => by
    rw [VRA] at r ⊢
    (refine xEEAA r fun v q e x y => ?_; clear r)
    exact (iEEAA v q e (VR.down x (o m (.head _))) (VRA.down y fun m' hm => o m' (.tail _ hm)))
end
theorem EntI.down {w : World} {n n' : Nat} {W : Wd} {h : Heap} : ∀ {l : List (Int × MV)} {es : List DictEntry}, EntI w n' W h l es → (∀ v ∈ l, okV n v.2) → EntI w n W h l es
  | [], es, x, _ => by rw [EntI] at x ⊢; exact x
  | (k, v) :: r, es, x, o => by
    rw [EntI] at x ⊢
    (refine xEEAAAA x fun e es' a b c d y => ?_; clear x)
    exact (iEEAAAA e es' a b c (VR.down d (o (k, v) (.head _))) (EntI.down y fun v hv => o v (.tail _ hv)))
theorem EntS.down {w : World} {n n' : Nat} {W : Wd} {h : Heap} : ∀ {l : List (Str × MV)} {es : List DictEntry}, EntS w n' W h l es → (∀ v ∈ l, okV n v.2) → EntS w n W h l es
  | [], es, x, _ => by rw [EntS] at x ⊢; exact x
  | (k, v) :: r, es, x, o => by
    rw [EntS] at x ⊢
    (refine xEEAAAA x fun e es' a b c d y => ?_; clear x)
    exact (iEEAAAA e es' a b c (VR.down d (o (k, v) (.head _))) (EntS.down y fun v hv => o v (.tail _ hv)))
theorem EntT.down {w : World} {n n' : Nat} {W : Wd} {h : Heap} : ∀ {l : List (List Atom × MV)} {es : List DictEntry}, EntT w n' W h l es → (∀ v ∈ l, okV n v.2) → EntT w n W h l es
  | [], es, x, _ => by rw [EntT] at x ⊢; exact x
  | (k, v) :: r, es, x, o => by
    rw [EntT] at x ⊢
    (refine xEEAAAA x fun e es' a b c d y => ?_; clear x)
    exact (iEEAAAA e es' a b c (VR.down d (o (k, v) (.head _))) (EntT.down y fun v hv => o v (.tail _ hv)))
theorem OR.down {w : World} {n n' : Nat} {W : Wd} {h : Heap} {l : Loc} : ∀ {o : MO} {a : Addr}, OR w n' W h l o a → okO n o → OR w n W h l o a
  | .list _, _, x, o => xEEA x fun its e p q => (iEEA its e p (q.down o))
  | .dictI _, _, x, o => xEEAA x fun es e p q r => (iEEAA es e p (q.down o) r)
  | .dictS _, _, x, o => xEEAA x fun es e p q r => (iEEAA es e p (q.down o) r)
  | .dictT _, _, x, o => xEEAA x fun es e p q r => (iEEAA es e p (q.down o) r)
  | .inst _ _, _, x, o => xEEEAAAAA x fun dx es e p q r y z u => (iEEEAAAAA dx es e p q r y (z.down o) u)
theorem Rel.cut {w : World} {h₀ : Heap} {W : Wd} {H : MH} {h : Heap} {n : Nat} (R : Rel w h₀ W H h) (le : n ≤ H.next) (ok : okH n H) : Rel w h₀ W (cut H n) h where
  base := R.base
  old := R.old
  new := R.new
  obj := fun l o e => by
    have hn : (Mine.cut H n).next = n := by show (H.t.take n).length = n; rw [List.length_take]; exact Nat.min_eq_left le
    cases l with
    | r x =>
      refine xEAA (R.obj (.r x) o e) fun a e1 e2 e3 => ?_
      exact (iEAA a e1 e2 (by rw [hn]; exact e3.down (ok.1 x o e)))
    | tmp k =>
      have e' : (H.t.take n)[k]? = some o := e
      have hk : k < n := by
        have := (List.getElem?_eq_some_iff.mp e').1
        simp only [List.length_take] at this; lia
      rw [List.getElem?_take_of_lt hk] at e'
      refine xEAA (R.obj (.tmp k) o e') fun a e1 e2 e3 => ?_
      exact (iEAA a e1 e2 (by rw [hn]; exact e3.down (ok.2 k o hk e')))
  role := R.role

theorem len_2 {xs : List Value} (h : xs.length = 2) : ∃ a b, xs = [a, b] := by
  cases xs with
  | nil => cases h
  | cons a r =>
    obtain ⟨b, rfl⟩ := List.length_eq_one_iff.mp (Nat.succ.inj h)
    exact ⟨a, b, rfl⟩
theorem len_3 {xs : List Value} (h : xs.length = 3) : ∃ a b c, xs = [a, b, c] := by
  cases xs with
  | nil => cases h
  | cons a r =>
    obtain ⟨b, c, rfl⟩ := len_2 (Nat.succ.inj h)
    exact ⟨a, b, c, rfl⟩
theorem len_4 {xs : List Value} (h : xs.length = 4) : ∃ a b c x, xs = [a, b, c, x] := by
  cases xs with
  | nil => cases h
  | cons a r =>
    obtain ⟨b, c, x, rfl⟩ := len_3 (Nat.succ.inj h)
    exact ⟨a, b, c, x, rfl⟩
theorem bnd1 {fd : FuncData} {n1 : Str} (h : ∀ a, bindArgs fd ⟨[a], []⟩ = pure [(n1, a)]) : ∀ xs : List Value, xs.length = [n1].length → bindArgs fd ⟨xs, []⟩ = pure ([n1].zip xs) :=
  fun _ e => by obtain ⟨a, rfl⟩ := List.length_eq_one_iff.mp e; exact h a
theorem bnd2 {fd : FuncData} {n1 n2 : Str} (h : ∀ a b, bindArgs fd ⟨[a, b], []⟩ = pure [(n1, a), (n2, b)]) : ∀ xs : List Value, xs.length = [n1, n2].length → bindArgs fd ⟨xs, []⟩ = pure ([n1, n2].zip xs) :=
  fun _ e => by obtain ⟨a, b, rfl⟩ := len_2 e; exact h a b
theorem bnd3 {fd : FuncData} {n1 n2 n3 : Str} (h : ∀ a b c, bindArgs fd ⟨[a, b, c], []⟩ = pure [(n1, a), (n2, b), (n3, c)]) : ∀ xs : List Value, xs.length = [n1, n2, n3].length → bindArgs fd ⟨xs, []⟩ = pure ([n1, n2, n3].zip xs) :=
  fun _ e => by obtain ⟨a, b, c, rfl⟩ := len_3 e; exact h a b c
theorem bnd4 {fd : FuncData} {n1 n2 n3 n4 : Str} (h : ∀ a b c e, bindArgs fd ⟨[a, b, c, e], []⟩ = pure [(n1, a), (n2, b), (n3, c), (n4, e)]) : ∀ xs : List Value, xs.length = [n1, n2, n3, n4].length → bindArgs fd ⟨xs, []⟩ = pure ([n1, n2, n3, n4].zip xs) :=
  fun _ e => by obtain ⟨a, b, c, x, rfl⟩ := len_4 e; exact h a b c x

section
variable {prog : Program} {w : World} {h₀ : Heap} {K : Frag} {mg mb : Str → Option Value} {d : Nat} {H : MH}
/-- a call, as code -/
noncomputable def CC (prog : Program) (w : World) (h₀ : Heap) (d : Nat) (f : Value) (args : List MV) (H : MH) (Q : MV → MH → Prop) : Prop :=
  ∀ A s W xs, AOk d A → Rel w h₀ W H s.heap → VRA w H.next W s.heap args xs →
    codeAny (model prog w) A (.call f ⟨xs, []⟩) (wants (fun x s' => OutC w h₀ H W s (Vl w Q x) s') Bot) s
theorem CC.c {d : Nat} {f : Value} {args : List MV} {H : MH} {Q : MV → MH → Prop} (h : CC prog w h₀ d f args H Q) : C prog w h₀ d f args H Q :=
  fun A s W xs a R V => wpAny_call (h A s W xs a R V)
noncomputable def retK (H : MH) (Q : MV → MH → Prop) : Fl → List (Str × MV) → MH → Prop := fun fl _ H' => match fl with
  | .ret v => Back H Q v H'
  | .next => Back H Q (.d .none) H'
/-- a function of the text's own -/
theorem CC.fn {f : Addr} {fd : FuncData} {oc : Value} {od : Option Addr} {osl : Array (Option Value)} {body : List Stmt} {names : List Str} {args : List MV} {Q : MV → MH → Prop} (G : Gnd h₀ K mg mb)
    (ho : K.lookup f = some ⟨oc, od, .func fd, osl⟩) (hbody : fd.body = .stmts body) (hcd : codeIn K fd.code fd.qualname = true)
    (hb : ∀ xs : List Value, xs.length = names.length → bindArgs fd ⟨xs, []⟩ = pure (names.zip xs)) (hlen : names.length = args.length)
    (h : Ss prog w h₀ d fd.scope (names.zip args) body H (retK H Q))
    (hs : (fd.globals == mainGlobals && fd.builtins == builtinsNs && fd.closure.isEmpty && !fd.scope.isCoroutine && !fd.scope.isGenerator && fd.scope.kind == .function) = true := by exact tt)
    (hn : names.Nodup := by decide) (hnc : ((cellsFrom 0 fd.scope.names []).map (·.1)).Nodup := by decide)
    (hk : (names.all fun x => fd.scope.names.lookup x == some .local || (fd.scope.names.lookup x == some .cell)) = true := by exact tt) :
    CC prog w h₀ (d + 1) (.ref f) args H Q := by
  intro A s W xs a R V
  have hcell : ∀ n x, fd.scope.names.lookup x = some .cell → ((cellsFrom n fd.scope.names []).lookup x).isSome = true := fun n x e => cellsFrom_some _ _ _ (.inl e)
  simp only [Bool.and_eq_true, beq_iff_eq, Bool.not_eq_true', List.isEmpty_iff] at hs
  (refine xA hs fun zz2 hs6 => ?_; clear hs; obtain ⟨⟨⟨⟨hs1, hs2⟩, hs3⟩, hs4⟩, hs5⟩ := zz2)
  have hxs : xs.length = names.length := by rw [← V.length, hlen]
  have hbn : ((names.zip xs).map (·.1)).Nodup := by rw [zip_names hxs.symm]; exact hn
  refine (codeAny_call_function (by have := a.depth; unfold recursionLimit; lia) (R.base _ _ (G.kin _ _ ho)) rfl hs4 hs5 hbody ((codeRec_of G.kin hcd).keeps R.base) ?_)
  rw [hb xs hxs, hs3, hs1, hs2]
  refine wpAny_pure (wpAny_newFunctionEnv_cells hs6 (fun x hx => ?_) fun env he s' x => ?_)
  · have hx' : x.1 ∈ names := by rw [← zip_names hxs.symm]; exact List.mem_map_of_mem hx
    have := List.all_eq_true.mp hk x.1 hx'
    simp only [Bool.or_eq_true, beq_iff_eq] at this
    rcases this with q | q
    · exact .inl q
    · exact .inr ⟨q, hcell _ _ q⟩
  · refine xEEA x.done fun h' tk hs' hkeep => ?_
    have eL : env.locals = s.heap.objs.size := by rw [he]; rfl
    have eC : env.cells = cellsFrom (s.heap.objs.size + 1) fd.scope.names [] := by rw [he]; rfl
    have eS : env.scope = fd.scope := by rw [he]; rfl
    have hnew : ∀ b o, s.heap.get? b = some o → ¬ (b = env.locals ∨ b ∈ env.cells.map (·.2)) := fun b o e q => by
      have lt := Heap.lt_size e
      rcases q with q | q
      · rw [eL] at q; exact absurd lt (q ▸ Nat.lt_irrefl _)
      · (refine xEA (List.mem_map.mp q) fun zz3 hc ee4 => ?_; obtain ⟨n, c⟩ := zz3; subst ee4)
        have := x.above n c hc
        rw [eL] at this; exact absurd (Nat.lt_trans this lt) (Nat.lt_irrefl _)
    have hks : ∀ b o, s.heap.get? b = some o → s'.heap.get? b = some o := x.toInCall.keep
    have hW : ∀ b o, s.heap.get? b = some o → (W.frames env.locals env.cells).tau b = W.tau b := fun b o e => by simp only [Wd.frames]; rw [if_neg (hnew b o e)]
    have g : Grow NoX H.next W s.heap H.next (W.frames env.locals env.cells) s'.heap :=
      ⟨Nat.le_refl _, fun _ _ _ e => e, fun b o e _ => ⟨o, hks b o e⟩, fun b o e _ => hW b o e, fun b o e _ => hks b o e, fun b o e _ _ => hks b o e⟩
    have hcells : ∀ n c, (n, c) ∈ env.cells → env.cells.lookup n = some c := fun n c hm =>
      lookup_of_mem_nodup (by rw [eC]; exact (cellsFrom_names fd.scope.names 0 (s.heap.objs.size + 1) [] [] rfl) ▸ hnc) hm
    have R' : Rel w h₀ (W.frames env.locals env.cells) H s'.heap := R.grow g (fun b o l' e _ => hks b o e) rfl fun b e => by
      by_cases q : b = env.locals ∨ b ∈ env.cells.map (·.2)
      · rcases q with rfl | q
        · refine xEEEA x.toInCall.ns fun o _ _ ho' _ => ?_; exact ⟨o, ho'⟩
        · (refine xEA (List.mem_map.mp q) fun zz5 hc ee6 => ?_; obtain ⟨n, c⟩ := zz5; subst ee6)
          refine xEA (x.cell n c (hcells n c hc)) fun o ho' _ => ?_; exact ⟨o, ho'⟩
      · simp only [Wd.frames] at e
        rw [if_neg q] at e
        refine xE (R.new b e) fun o e' => ?_
        exact ⟨o, hks b o e'⟩
    have V' := V.grow g
    have ek : ∀ x, env.kindOf x = fd.scope.names.lookup x := fun x => by unfold Env.kindOf; rw [eS]
    have F' : FrOk w fd.scope (names.zip args) env H.next (W.frames env.locals env.cells) s'.heap := by
      refine ⟨eS, hs6, by rw [he]; rfl, by rw [he]; rfl, by simp [Wd.frames], (iEA _ x.toInCall.ns (fun y v e q => ?_)), fun y v e q => ?_, fun y c hm => (iAA ?_ ?_ ?_), x.apart, fun y q => ?_⟩
      · refine xEA (zip_lookup V' e) fun xv e' r => ?_
        exact (iEA xv (bindL_at ((ek y).trans q) _ _ hbn e') r)
      · refine xEA (zip_lookup V' e) fun xv e' r => ?_
        have hyn : y ∈ names := by
          have := mem_of_lookup e
          rw [← zip_names hlen]; exact List.mem_map.mpr (iEA _ this rfl)
        have hq : fd.scope.names.lookup y = some .cell := by
          have := List.all_eq_true.mp hk y hyn
          simp only [Bool.or_eq_true, beq_iff_eq] at this
          rcases q with q | q
          · exact q
          · rw [q] at this; rcases this with z | z <;> cases z
        refine xE (Option.isSome_iff_exists.mp (hcell (s.heap.objs.size + 1) y hq)) fun c hc => ?_
        refine (iEEAA c xv (by rw [eC]; exact hc) ?_ r)
        have := x.cell y c (by rw [eC]; exact hc)
        rwa [bindC_at (by rw [ek y, hq]; exact fun z => by cases z) _ _ hbn e'] at this
      · simp only [Wd.frames]; rw [if_pos (.inr (List.mem_map.mpr (iEA _ hm rfl)))]
      · exact Nat.ne_of_gt (x.above y c hm)
      · exact ⟨_, x.cell y c (hcells y c hm)⟩
      · refine xE (Option.isSome_iff_exists.mp (hcell (s.heap.objs.size + 1) y q)) fun c hc => ?_
        exact ⟨c, by rw [eC]; exact hc⟩
    refine ⟨(G.nolimit.keeps R.base).keeps hks, codeAny_func (wpAny_mono (h (A.deeper env) env s' _ a.deeper F' R') (fun f s'' o => ?_) fun _ _ e => e.elim)⟩
    obtain ⟨fl, ρ', H', W', q, fr, R'', g', _, m⟩ := o
    have m' : Sim s s'' := Sim.trans (by rw [hs']; exact ⟨rfl, rfl⟩) m
    have hnF : ∀ b o, s.heap.get? b = some o → ¬ FA env b := fun b o e z => hnew b o e (z.imp id fun zz8 => xE zz8 fun y hy => List.mem_map.mpr (iEA _ hy rfl))
    have G' : Grow NoX H.next W s.heap H'.next W' s''.heap :=
      ⟨g'.next, fun l b o e => g'.loc l b o e, fun b o e _ => g'.live b o (hks b o e) fun _ => hnF b o e,
       fun b o e _ => (g'.tag b o (hks b o e) fun _ => hnF b o e).trans (hW b o e), fun b o e t => g'.keepF b o (hks b o e) ((hW b o e).trans t),
       fun b o e t _ => g'.keepL b o (hks b o e) ((hW b o e).trans t) (hnF b o e)⟩
    have fin : ∀ v x, Back H Q v H' → VR w H'.next W' s''.heap v x → OutC w h₀ H W s (Vl w Q x) s'' := by
      rintro v x (b | ⟨n, n1, n2, n3, n4, b⟩) r
      · exact ⟨H', W', (iEA v b r), R'', G', m'⟩
      · have hn : (cut H' n).next = n := by show (H'.t.take n).length = n; rw [List.length_take]; exact Nat.min_eq_left n2
        refine ⟨cut H' n, W', (iEA v b (by rw [hn]; exact r.down n3)), R''.cut n2 n4, ?_, m'⟩
        rw [hn]
        exact ⟨n1, G'.loc, G'.live, G'.tag, G'.keepF, G'.keepL⟩
    cases fl with
    | next =>
      rw [FlR] at fr; subst fr
      exact fin _ _ q vr_none
    | ret v =>
      (refine xEA fr fun x ee7 r => ?_; clear fr; subst ee7)
      exact fin _ _ q r
theorem C.fn {f : Addr} {fd : FuncData} {oc : Value} {od : Option Addr} {osl : Array (Option Value)} {body : List Stmt} {names : List Str} {args : List MV} {Q : MV → MH → Prop} (G : Gnd h₀ K mg mb)
    (ho : K.lookup f = some ⟨oc, od, .func fd, osl⟩) (hbody : fd.body = .stmts body) (hcd : codeIn K fd.code fd.qualname = true)
    (hb : ∀ xs : List Value, xs.length = names.length → bindArgs fd ⟨xs, []⟩ = pure (names.zip xs)) (hlen : names.length = args.length)
    (h : Ss prog w h₀ d fd.scope (names.zip args) body H (retK H Q))
    (hs : (fd.globals == mainGlobals && fd.builtins == builtinsNs && fd.closure.isEmpty && !fd.scope.isCoroutine && !fd.scope.isGenerator && fd.scope.kind == .function) = true := by exact tt)
    (hn : names.Nodup := by decide) (hnc : ((cellsFrom 0 fd.scope.names []).map (·.1)).Nodup := by decide)
    (hk : (names.all fun x => fd.scope.names.lookup x == some .local || (fd.scope.names.lookup x == some .cell)) = true := by exact tt) :
    C prog w h₀ (d + 1) (.ref f) args H Q := (CC.fn G ho hbody hcd hb hlen h hs hn hnc hk).c
end
end Mine
end L1fx

noncomputable section L1gx
open PySem PySem.W PySem.Calls PyProof.Rows
set_option Elab.async false
set_option linter.unusedVariables false
namespace Mine

theorem Grow.sub {X Y : Addr → Prop} {n n' : Nat} {W W' : Wd} {h h' : Heap} (a : Grow X n W h n' W' h') (k : ∀ b o, h.get? b = some o → X b → Y b) : Grow Y n W h n' W' h' :=
  { a with keepL := fun b o e f y => a.keepL b o e f fun x => y (k b o e x), live := fun b o e f => a.live b o e fun t x => f t (k b o e x), tag := fun b o e f => a.tag b o e fun t x => f t (k b o e x) }

/-- who keeps the place of a call -/
inductive Callee (K : Frag) : Value → Prop
  | b (id : String) : Callee K (.builtin id)
  | t (T : String) : Callee K (.type T)
  | k {f : Value} (h : keepIn K f = true) : Callee K f

section
variable {M : Model} {A : Around} {s : Shared} {K : Frag} {env : Env} {f : Value} {first : List Value} {Z : Value → Shared → Prop}
theorem callee_keeps (c : Callee K f) (h : Heap) (X : K.In h) : ∃ k, (k = Keeper.frame ∨ k = Keeper.machine ∨ k = Keeper.boundFrame) ∧ Looks M h (keeperOf f) k := by
  cases c with
  | b id => exact (iEA .machine (.inr (.inl rfl)) (.of_pure rfl))
  | t T => exact (iEA .machine (.inr (.inl rfl)) (.of_pure rfl))
  | k e => exact keeps_K e h X
theorem callWith_row {pos : Pos} {es : List Expr} (c : Callee K f) (hp : ∀ env pos, (backTo pos (starEach es env)).any (·.1) = false)
    (h : wpAny M A (spliced (backTo pos (starEach es env))) (fun vs s₁ => K.In s₁.heap ∧ wpAny M A (call f (first ++ vs)) Z Bot s₁) Bot s) : wpAny M A (callWith pos f first (backTo pos (starEach es env)) []) Z Bot s := by
  refine callWith_of (by rw [hp env pos]; rfl) (callee_keeps c) ?_
  have hp' := hp env pos
  generalize backTo pos (starEach es env) = l at h hp'
  cases l with
  | nil =>
    unfold evalArgs
    show wpAny M A (spliced [] >>= _) _ Bot s
    refine wpAny_bind (wpAny_mono h (fun vs s' h' => wpAny_bind (wpAny_pure (wpAny_holding ?_))) fun _ _ x => x)
    exact wpAny_bind (wpAny_pure (wpAny_bind (wpAny_pure (wpAny_pure h'))))
  | cons p r =>
    obtain ⟨b, t⟩ := p
    simp only [List.any_cons, Bool.or_eq_false_iff] at hp'
    obtain rfl : b = false := hp'.1
    exact evalArgs_plain h
end

theorem ents_find {w : World} {n : Nat} {W : Wd} {h : Heap} {name : Str} {v : MV} : ∀ {l : List (Str × MV)} {es : List DictEntry}, EntS w n W h l es → l.lookup name = some v → ∃ x, getL name es = some (some x) ∧ VR w n W h v x
  | [], es, _, e => by cases e
  | (k, u) :: r, es, x, e => by
    rw [EntS] at x
    (refine xEEAAAA x fun en es' ee1 zz2 c d y => ?_; clear x; subst ee1; obtain ⟨t, b⟩ := zz2)
    rw [List.lookup_cons] at e
    unfold getL
    rw [List.find?_cons]
    cases q : name == k with
    | true =>
      rw [q] at e; cases e
      have : en.key.isStr name = true := by rw [b]; show (k == name) = true; rw [beq_iff_eq] at q ⊢; exact q.symm
      rw [this]
      exact (iEA en.val rfl d)
    | false =>
      rw [q] at e
      have : en.key.isStr name = false := by rw [b]; show (k == name) = false; rw [beq_eq_false_iff_ne] at q ⊢; exact fun z => q z.symm
      refine xEA (ents_find y e) fun z a1 a2 => ?_
      unfold getL at a1
      rw [this]
      refine (iEA z ?_ a2)
      simp only
      split at a1
      · exact a1
      · split at a1 <;> cases a1
theorem ents_norefs {w : World} {n : Nat} {W : Wd} {h : Heap} : ∀ {l : List (Str × MV)} {es : List DictEntry}, EntS w n W h l es → es.any (·.refKey) = false
  | [], es, x => by rw [EntS] at x; subst x; rfl
  | (k, u) :: r, es, x => by
    rw [EntS] at x
    (refine xEEAAAA x fun en es' ee3 zz4 c d y => ?_; clear x; subst ee3; obtain ⟨t, b⟩ := zz4)
    rw [List.any_cons, ents_norefs y]
    simp [DictEntry.refKey, b]
theorem ents_none {w : World} {n : Nat} {W : Wd} {h : Heap} {name : Str} : ∀ {l : List (Str × MV)} {es : List DictEntry}, EntS w n W h l es → l.lookup name = none → getL name es = some none := by
  intro l es x e
  have key : es.find? (·.key.isStr name) = none := by
    induction l generalizing es with
    | nil => rw [EntS] at x; subst x; rfl
    | cons p r ih =>
      obtain ⟨k, u⟩ := p
      rw [EntS] at x
      (refine xEEAAAA x fun en es' ee5 zz6 c d y => ?_; clear x; subst ee5; obtain ⟨t, b⟩ := zz6)
      rw [List.lookup_cons] at e
      cases q : name == k with
      | true => rw [q] at e; cases e
      | false =>
        rw [q] at e
        have : en.key.isStr name = false := by rw [b]; show (k == name) = false; rw [beq_eq_false_iff_ne] at q ⊢; exact fun z => q z.symm
        rw [List.find?_cons, this]
        exact ih y e
  unfold getL
  rw [key]
  simp only
  rw [ents_norefs x]; rfl

noncomputable def notVal : MV → Bool
  | .val _ => false
  | _ => true
theorem handed {w : World} {n : Nat} {W : Wd} {h : Heap} {v : MV} {x : Value} (r : VR w n W h v x) (nv : notVal v = true) : handedIn x = true := by
  cases v with
  | val _ => cases nv
  | d p =>
    have r := of_d r
    cases p with
    | none => rw [Fz] at r; subst r; rfl
    | bool b => rw [Fz] at r; subst r; rfl
    | int i => rw [Fz] at r; (refine xE r fun t ee7 => ?_; clear r; subst ee7); rfl
    | str i => rw [Fz] at r; (refine xE r fun t ee8 => ?_; clear r; subst ee8); rfl
    | list i => (refine xEEEA (fz_list r) fun _ _ _ ee9 _ => ?_; subst ee9); rfl
    | tuple i => (refine xEEEA (fz_tuple r) fun _ _ _ ee10 _ => ?_; subst ee10); rfl
    | dict _ => rw [Fz] at r; exact r.elim
  | loc l => (refine xAEA (of_loc r) fun _ a _ ee11 => ?_; subst ee11); rfl
  | tup l => rw [VR] at r; (refine xEEEA r fun _ _ _ ee12 _ => ?_; clear r; subst ee12); rfl
  | set l => rw [VR] at r; (refine xEEEEEA r fun _ _ _ _ _ ee13 _ => ?_; clear r; subst ee13); rfl
  | rng l => rw [VR] at r; (refine xEEEEA r fun _ _ _ _ ee14 _ => ?_; clear r; subst ee14); rfl

/-- what is known of an own class -/
structure Cls (K : Frag) (C : Addr) : Prop where
  ga : findIn K (.ref C) "__getattribute__" = some (some (.builtin "object.__getattribute__"))
  gt : findIn K (.ref C) "__getattr__" = some none
  hd : hasDictIn K C = true
  sa : findIn K (.ref C) "__setattr__" = some (some (.builtin "object.__setattr__"))
  po : plainOver K C = true
  makes : makesIn K C = true

section
variable {prog : Program} {w : World} {h₀ : Heap} {K : Frag} {mg mb : Str → Option Value} {d : Nat} {sc : Scope} {ρ : List (Str × MV)} {H : MH} {Q : MV → MH → Prop} {pos : Pos}

theorem inst_at {W : Wd} {s : Shared} {l : Loc} {C : Addr} {at_ : List (Str × MV)} {x : Value} (R : Rel w h₀ W H s.heap) (e : H.get l = some (.inst C at_)) (r : VR w H.next W s.heap (.loc l) x) :
    ∃ a dx es n, x = .ref a ∧ W.mu l = some a ∧ W.tau a = .own l ∧ W.tau dx = .own l ∧ dx ≠ a ∧ InstAt s.heap a (instObj C dx) C (some (dictOf es n)) ∧ s.heap.get? dx = some (dictOf es n) ∧ EntS w H.next W s.heap at_ es := by
  refine xEAAEEEAAAAA (R.obj l _ e) fun a e1 e2 dx es n p q ne y z u => ?_
  (refine xAEA (of_loc r) fun _ a' e3 ee15 => ?_; subst ee15)
  obtain rfl : a' = a := Option.some.inj (e3.symm.trans e1)
  exact (iEEEEAAAAAAA a' dx es n rfl e1 e2 q ne (⟨p, rfl, rfl, y⟩) y z)

noncomputable def notCall (e : Expr) : Bool := e.ctorIdx != 16
noncomputable def notAttr (e : Expr) : Bool := e.ctorIdx != 20
noncomputable def noStar : List Expr → Bool
  | [] => true
  | e :: r => !isStar e && noStar r
theorem noStar_row : ∀ {args : List Expr}, noStar args = true → ∀ env pos, (backTo pos (starEach args env)).any (·.1) = false
  | [], _, _, _ => rfl
  | e :: r, h, env, pos => by
    unfold noStar at h
    rw [Bool.and_eq_true] at h
    rw [star_row (by simpa using h.1)]
    exact noStar_row h.2 env pos
theorem noStar_all {args : List Expr} (h : noStar args = true) (env : Env) (pos : Pos) : (backTo pos (starEach args env)).all (!·.1) = true := by
  have z := noStar_row h env pos
  rw [List.any_eq_false] at z
  rw [List.all_eq_true]
  intro x m
  simpa using z x m
theorem base_plain {o : Expr} {name : Str} {env : Env} {t : Sem Value} (h : notCall o = true) : attributeBase o name env t = t := by
  cases o <;> first | rfl | cases h
noncomputable def methOk (apos pos : Pos) (args : List Expr) : Bool := noStar args && (decide (args.length < 30) && (apos.endLine == pos.line))
noncomputable abbrev MethForm (o : Expr) (name : Str) (apos pos : Pos) (args : List Expr) : Prop := ∀ env, ∃ pl, eval (.Call (.Attribute o name apos) args [] pos) env = (do
      let ov ← eval o env
      standAt apos.atName
      let (f, first) ← holding [ov] (getMethod ov name pl)
      callWith pos f first (backTo pos (starEach args env)) [])
theorem meth_form {o : Expr} {name : Str} {apos pos : Pos} {args : List Expr} (ho : notCall o = true) (h : methOk apos pos args = true) : MethForm o name apos pos args := by
  intro env
  unfold methOk at h
  rw [Bool.and_eq_true, Bool.and_eq_true] at h
  have hf : methodCallForm (args.length + 0) (backTo pos (starEach args env)) [] = true := by
    unfold methodCallForm
    rw [noStar_all h.1]
    simpa using of_decide_eq_true h.2.1
  refine ⟨do return (← importBound o env).getD true, ?_⟩
  show (do
    let ov ← attributeBase o name env (eval o env)
    standAt apos.atName
    methodCall o name apos pos env ov (args.length + 0) (backTo pos (starEach args env)) []) = _
  rw [base_plain ho]
  unfold methodCall methodCallPos
  rw [hf, h.2.2]
  rfl
theorem call_form {func : Expr} {args : List Expr} {pos : Pos} (h : notAttr func = true) (env : Env) : eval (.Call func args [] pos) env = (do callWith pos (← eval func env) [] (backTo pos (starEach args env)) (backToKw pos (keywordEach [] env))) := by
  cases func <;> first | rfl | cases h
theorem attr_form {o : Expr} {name : Str} {pos : Pos} (ho : notCall o = true) (env : Env) : eval (.Attribute o name pos) env = (do
      let ov ← eval o env
      standAt pos.atName
      let r ← holding [ov] (getAttr ov name true)
      letTemporaryGo o ov r
      pure r) := by
  show (do
      let ov ← attributeBase o name env (eval o env)
      standAt pos.atName
      let r ← holding [ov] (getAttr ov name true)
      letTemporaryGo o ov r
      pure r) = _
  rw [base_plain ho]

/-- an attribute of an own object's -/
theorem E.attr {o : Expr} {name : Str} (G : Gnd h₀ K mg mb)
    (h : E prog w h₀ d sc ρ o H fun v H' => ∃ l C at_ u, v = .loc l ∧ H'.get l = some (.inst C at_) ∧ Cls K C ∧ findIn K (.ref C) name = some none ∧ at_.lookup name = some u ∧ notVal u = true ∧ Q u H')
    (ho : notCall o = true := by exact tt) : E prog w h₀ d sc ρ (.Attribute o name pos) H Q :=
  fun A env s W a F R => Attribute_any_ (useG (h A env s W a F R) fun x s' H' W' zz17 R' F' g m => xEA zz17 fun v zz18 rv => xEEEEAAAAAA zz18 fun l C at_ u e hg cl hf hl nv q => by
    subst e
    (refine xEEEEAAAAAAA (inst_at R' hg rv) fun b dx es n ee16 e1 e2 e3 ne I D z => ?_; subst ee16)
    refine xEA (ents_find z hl) fun y gy ry => ?_
    exact endG g m (get_value (G.kin.keeps R'.base) I cl.ga (findObj_own cl.hd hf rfl gy) (handed ry nv) (.toks R' F' rfl ⟨rfl, rfl⟩ (iEA u q ry)))) (attr_form ho env)

noncomputable def callVK (prog : Program) (w : World) (h₀ : Heap) (d : Nat) (fv : Value) (Q : MV → MH → Prop) (vs : List MV) (H : MH) : Prop := Mine.C prog w h₀ d fv vs H Q
noncomputable def callK (prog : Program) (w : World) (h₀ : Heap) (d : Nat) (sc : Scope) (ρ : List (Str × MV)) (K : Frag) (args : List Expr) (Q : MV → MH → Prop) (v : MV) (H : MH) : Prop := ∃ fv, v = .val fv ∧ Callee K fv ∧ Es prog w h₀ d sc ρ args H (callVK prog w h₀ d fv Q)
noncomputable def methVK (prog : Program) (w : World) (h₀ : Heap) (d : Nat) (f : Value) (u : MV) (Q : MV → MH → Prop) (vs : List MV) (H : MH) : Prop := Mine.C prog w h₀ d f (u :: vs) H Q
theorem callK.mk {args : List Expr} {fv : Value} (c : Callee K fv) (h : Es prog w h₀ d sc ρ args H (callVK prog w h₀ d fv Q)) : callK prog w h₀ d sc ρ K args Q (.val fv) H := iEAA fv rfl c h
/-- a call of a value -/
theorem E.call {func : Expr} {args : List Expr} (G : Gnd h₀ K mg mb)
    (h : E prog w h₀ d sc ρ func H (callK prog w h₀ d sc ρ K args Q))
    (hp : noStar args = true := by exact tt) (hf : notAttr func = true := by exact tt) : E prog w h₀ d sc ρ (.Call func args [] pos) H Q :=
  fun A env s W a F R => Call_ (useG (h A env s W a F R) fun x s' H' W' zz19 R' F' g m => xEA zz19 fun v zz20 rv => xEAA zz20 fun fv e c q => by
    subst e
    obtain rfl := of_val rv
    refine callWith_row c (noStar_row hp) (useG (q A env s' W' pos a F' R') fun xs s'' H'' W'' zz21 R'' F'' g' m' => xEA zz21 fun vs q' rs => ⟨G.kin.keeps R''.base, ?_⟩)
    exact endG (g.trans g') (m.trans m') (toG F'' (q' A s'' W'' xs a R'' rs))) (call_form hf env)

structure Meth (K : Frag) (C : Addr) (name : Str) (f : Addr) : Prop where
  at_ : findIn K (.ref C) name = some (some (.ref f))
  ty : typeIn K (.ref f) = some (.type "function")
  kp : keepIn K (.ref f) = true

theorem methOk_row {apos pos : Pos} {args : List Expr} (h : methOk apos pos args = true) : noStar args = true := by
  unfold methOk at h
  rw [Bool.and_eq_true] at h
  exact h.1
/-- a method of an own class, called -/
theorem E.meth {o : Expr} {name : Str} {apos : Pos} {args : List Expr} (G : Gnd h₀ K mg mb)
    (h : E prog w h₀ d sc ρ o H fun v H' => ∃ l C at_ f, v = .loc l ∧ H'.get l = some (.inst C at_) ∧ Cls K C ∧ Meth K C name f ∧ at_.lookup name = none ∧
      Es prog w h₀ d sc ρ args H' (methVK prog w h₀ d (.ref f) (.loc l) Q))
    (ho : notCall o = true := by exact tt) (hm : methOk apos pos args = true := by exact tt) : E prog w h₀ d sc ρ (.Call (.Attribute o name apos) args [] pos) H Q := by
  intro A env s W a F R
  refine xE (meth_form (name := name) ho hm env) fun pl he => ?_
  refine MethodCall_ (pl := pl) (useG (h A env s W a F R) fun x s' H' W' zz22 R' F' g m => xEA zz22 fun v zz23 rv => xEEEEAAAAA zz23 fun l C at_ f e hg cl mt hl q => ?_) he
  subst e
  refine xEEEEAAAAAAA (inst_at R' hg rv) fun b dx es n hx e1 e2 e3 ne I D z => ?_
  subst hx
  refine method_fn (G.kin.keeps R'.base) I cl.ga cl.gt mt.at_ mt.ty (by show (lookIn name (dictOf es n)).map _ = _; rw [lookIn_dict, ents_none z hl]; rfl) ?_
  refine callWith_row (.k mt.kp) (noStar_row (methOk_row hm)) (useG (q A env s' W' pos a F' R') fun xs s'' H'' W'' zz24 R'' F'' g' m' => xEA zz24 fun vs q' rs => ⟨G.kin.keeps R''.base, ?_⟩)
  exact endG (g.trans g') (m.trans m') (toG F'' (q' A s'' W'' (.ref b :: xs) a R'' (.cons (rv.grow g') rs)))
/-- a method of a built-in type's -/
noncomputable def GM (prog : Program) (w : World) (h₀ : Heap) (v : MV) (name : Str) (id : String) (H : MH) : Prop :=
  ∀ A s W x pl (Z : Value × List Value → Shared → Prop), Rel w h₀ W H s.heap → VR w H.next W s.heap v x → Z (.builtin id, [x]) s → wpAny (model prog w) A (getMethod x name pl) Z Bot s
noncomputable def methBK (prog : Program) (w : World) (h₀ : Heap) (d : Nat) (sc : Scope) (ρ : List (Str × MV)) (name : Str) (args : List Expr) (Q : MV → MH → Prop) (v : MV) (H : MH) : Prop := ∃ id, GM prog w h₀ v name id H ∧ Es prog w h₀ d sc ρ args H (methVK prog w h₀ d (.builtin id) v Q)
theorem methBK.mk {name : Str} {args : List Expr} {v : MV} {id : String} (g : GM prog w h₀ v name id H) (h : Es prog w h₀ d sc ρ args H (methVK prog w h₀ d (.builtin id) v Q)) : methBK prog w h₀ d sc ρ name args Q v H := iEA id g h
theorem E.methB {o : Expr} {name : Str} {apos : Pos} {args : List Expr} (G : Gnd h₀ K mg mb)
    (h : E prog w h₀ d sc ρ o H (methBK prog w h₀ d sc ρ name args Q))
    (ho : notCall o = true := by exact tt) (hm : methOk apos pos args = true := by exact tt) : E prog w h₀ d sc ρ (.Call (.Attribute o name apos) args [] pos) H Q := by
  intro A env s W a F R
  refine xE (meth_form (name := name) ho hm env) fun pl he => ?_
  refine MethodCall_ (pl := pl) (useG (h A env s W a F R) fun x s' H' W' zz25 R' F' g m => xEA zz25 fun v zz26 rv => xEA zz26 fun id gm q => ?_) he
  refine gm A s' W' x pl _ R' rv ?_
  refine callWith_row (.b id) (noStar_row (methOk_row hm)) (useG (q A env s' W' pos a F' R') fun xs s'' H'' W'' zz27 R'' F'' g' m' => xEA zz27 fun vs q' rs => ⟨G.kin.keeps R''.base, ?_⟩)
  exact endG (g.trans g') (m.trans m') (toG F'' (q' A s'' W'' (x :: xs) a R'' (.cons (rv.grow g') rs)))
end
end Mine
end L1gx

noncomputable section L1hx
open PySem PySem.W PySem.Calls PyProof.Rows
set_option Elab.async false
set_option linter.unusedVariables false
namespace Mine

section
variable (prog : Program) (w : World) (h₀ : Heap)
/-- a store into a target -/
noncomputable def As (d : Nat) (sc : Scope) (ρ : List (Str × MV)) (t : Expr) (v : MV) (H : MH) (Q : List (Str × MV) → MH → Prop) : Prop :=
  ∀ A env s W x, AOk d A → FrOk w sc ρ env H.next W s.heap → Rel w h₀ W H s.heap → VR w H.next W s.heap v x →
    wpAny (model prog w) A (assign t env x) (fun _ s' => ∃ ρ' H' W', Q ρ' H' ∧ Rel w h₀ W' H' s'.heap ∧ Grow (FA env) H.next W s.heap H'.next W' s'.heap ∧ FrOk w sc ρ' env H'.next W' s'.heap ∧ Sim s s') Bot s
/-- a store by three values -/
noncomputable def Op3 (d : Nat) (f : Value → Value → Value → Sem Unit) (a b c : MV) (H : MH) (Q : MH → Prop) : Prop :=
  ∀ A s W x y z, AOk d A → Rel w h₀ W H s.heap → VR w H.next W s.heap a x → VR w H.next W s.heap b y → VR w H.next W s.heap c z →
    wpAny (model prog w) A (f x y z) (fun _ s' => OutC w h₀ H W s (fun H' _ _ => Q H') s') Bot s
end

theorem FrOk.less {w : World} {sc : Scope} {ρ ρ' : List (Str × MV)} {env : Env} {n : Nat} {W : Wd} {h : Heap} (f : FrOk w sc ρ env n W h) (k : ∀ x v, ρ'.lookup x = some v → ρ.lookup x = some v) : FrOk w sc ρ' env n W h :=
  { f with ns := let ⟨m, a, b⟩ := f.ns; (iEA m a (fun x v e => b x v (k x v e))), cel := fun x v e => f.cel x v (k x v e) }

section
variable {prog : Program} {w : World} {h₀ : Heap} {d : Nat} {sc : Scope} {ρ : List (Str × MV)} {H : MH} {pos : Pos}

theorem storeName_ {A : Around} {env : Env} {s : Shared} {W : Wd} {x : Str} {v : MV} {y : Value} {Q : List (Str × MV) → MH → Prop} {M : Model} (F : FrOk w sc ρ env H.next W s.heap) (R : Rel w h₀ W H s.heap) (r : VR w H.next W s.heap v y)
    (q : Q ((x, v) :: ρ) H) (hk : (sc.names.lookup x == some .local || sc.names.lookup x == some .cell) = true) :
    wpAny M A (storeName env x y) (fun _ s' => ∃ ρ' H' W', Q ρ' H' ∧ Rel w h₀ W' H' s'.heap ∧ Grow (FA env) H.next W s.heap H'.next W' s'.heap ∧ FrOk w sc ρ' env H'.next W' s'.heap ∧ Sim s s') Bot s := by
  have hkind : env.scope.kind = .function := F.scope ▸ F.kind
  have hl : env.kindOf x = sc.names.lookup x := by unfold Env.kindOf; rw [F.scope]
  simp only [Bool.or_eq_true, beq_iff_eq] at hk
  rcases hk with hk | hk
  · refine xEA F.ns fun m hm hv' => ?_
    refine wpAny_storeName_local (hl.trans hk) hm (fun h' hn hs => ?_) (by rw [hkind]; rfl)
    have hL : ∃ o, h'.get? env.locals = some o := let ⟨o, _, _, ho, _⟩ := hn; ⟨o, ho⟩
    have g : Grow (FA env) H.next W s.heap H.next W h' := Grow.but hs hL F.loc (.inl rfl)
    refine (iEEEAAAA _ H W q (R.but hs hL F.loc) g (⟨F.scope, F.kind, F.glob, F.blt, F.loc, (iEA _ hn (fun z u e t => ?_)), fun z u e t => ?_, fun z c e => ?_, F.apart, F.named⟩) (⟨rfl, rfl⟩))
    · rw [List.lookup_cons] at e
      by_cases zx : z = x
      · subst zx; simp at e; subst e; exact (iEA y (by simp) (r.grow g))
      · have : (z == x) = false := by simpa using zx
        rw [this] at e
        refine xEA (hv' z u e t) fun xv a b => ?_
        exact (iEA xv (by simp [zx, a]) (b.grow g))
    · rw [List.lookup_cons] at e
      by_cases zx : z = x
      · subst zx; rw [hk] at t; rcases t with t | t <;> cases t
      · have : (z == x) = false := by simpa using zx
        rw [this] at e
        refine xEEAA (F.cel z u e t) fun c xv a b e' => ?_
        exact (iEEAA c xv a (b.sameBut hs (F.cels z c (mem_of_lookup a)).2.1) (e'.grow g))
    · refine xAAE (F.cels z c e) fun a b v' e' => ?_
      exact (iAAE a b v' (e'.sameBut hs b))
  · refine xE (F.named x hk) fun c hc => ?_
    refine xAAE (F.cels x c (mem_of_lookup hc)) fun t1 t2 v0 hv0 => ?_
    refine wpAny_storeName_cell hkind (hl.trans hk) hc hv0 fun h' hn hs => ?_
    have hL : ∃ o, h'.get? c = some o := let ⟨o, ho, _⟩ := hn; ⟨o, ho⟩
    have g : Grow (FA env) H.next W s.heap H.next W h' := Grow.but hs hL t1 (.inr ⟨x, mem_of_lookup hc⟩)
    refine xEA F.ns fun m hm hv' => ?_
    refine (iEEEAAAA _ H W q (R.but hs hL t1) g (⟨F.scope, F.kind, F.glob, F.blt, F.loc, (iEA m (hm.sameBut hs (Ne.symm t2)) (fun z u e t => ?_)), fun z u e t => ?_, fun z c' e => ?_, F.apart, F.named⟩) (⟨rfl, rfl⟩))
    · rw [List.lookup_cons] at e
      by_cases zx : z = x
      · subst zx; rw [hk] at t; cases t
      · have : (z == x) = false := by simpa using zx
        rw [this] at e
        refine xEA (hv' z u e t) fun xv a b => ?_
        exact (iEA xv a (b.grow g))
    · rw [List.lookup_cons] at e
      by_cases zx : z = x
      · subst zx; simp at e; subst e; exact (iEEAA c y hc hn (r.grow g))
      · have : (z == x) = false := by simpa using zx
        rw [this] at e
        refine xEEAA (F.cel z u e t) fun c' xv a b e' => ?_
        exact (iEEAA c' xv a (b.sameBut hs (fun q => zx (name_of_addr F.apart (mem_of_lookup a) (q ▸ mem_of_lookup hc)))) (e'.grow g))
    · refine xAAE (F.cels z c' e) fun a b v' e' => ?_
      by_cases q : c' = c
      · subst q; exact (iAAE a b _ hn)
      · exact (iAAE a b v' (e'.sameBut hs q))

theorem As.name {x : Str} {v : MV} {Q : List (Str × MV) → MH → Prop} (q : Q ((x, v) :: ρ) H)
    (hk : (sc.names.lookup x == some .local || sc.names.lookup x == some .cell) = true := by exact tt) : As prog w h₀ d sc ρ (.Name x pos) v H Q :=
  fun A env s W y a F R r => wpAny_assign_Name (storeName_ F R r q hk)

/-- the live things of a heap, but for some -/
noncomputable def ledger (h : Heap) (xs : List Addr) : List (Addr × Obj) := (List.range h.objs.size).filterMap fun a => if a ∈ xs then none else (h.get? a).map fun o => (a, o)
theorem mem_ledger {h : Heap} {xs : List Addr} {a : Addr} {o : Obj} : (a, o) ∈ ledger h xs ↔ a ∉ xs ∧ h.get? a = some o := by
  unfold ledger
  simp only [List.mem_filterMap, List.mem_range]
  constructor
  · (intro yy1; (refine xEA yy1 fun b _ e => ?_; clear yy1))
    split at e
    · cases e
    · rename_i q
      refine xEA (Option.map_eq_some_iff.mp e) fun o' e1 e2 => ?_
      cases e2
      exact ⟨q, e1⟩
  · (intro yy2; (refine xA yy2 fun q e => ?_; clear yy2))
    exact (iEA a (Heap.lt_size e) (by rw [if_neg q, e]; rfl))
noncomputable abbrev noHeap : Heap := {}
theorem noHeap_get (a : Addr) : noHeap.get? a = none := by simp [Heap.get?]
theorem fr_any {h : Heap} {L : Addr} {m : Str → Option Value} (hn : h.Ns L m) : Fr noHeap L h m := ⟨hn, (fun b o e => by rw [noHeap_get] at e; cases e), Nat.zero_le _⟩

noncomputable def putA : List (Str × MV) → Str → MV → List (Str × MV)
  | [], x, v => [(x, v)]
  | (k, u) :: r, x, v => if k = x then (k, v) :: r else (k, u) :: putA r x v
theorem putA_keys : ∀ {l : List (Str × MV)} {x y : Str} {v : MV}, y ∈ (putA l x v).map (·.1) → y = x ∨ y ∈ l.map (·.1)
  | [], x, y, v, h => by simp [putA] at h; exact .inl h
  | (k, u) :: r, x, y, v, h => by
    rw [putA] at h
    split at h
    · exact .inr (by simpa using h)
    · rw [List.map_cons, List.mem_cons] at h
      rcases h with h | h
      · exact .inr (by simp [h])
      · exact (putA_keys h).imp id fun z => .tail _ z
theorem putA_nodup : ∀ {l : List (Str × MV)} {x : Str} {v : MV}, (l.map (·.1)).Nodup → ((putA l x v).map (·.1)).Nodup
  | [], x, v, h => by simp [putA]
  | (k, u) :: r, x, v, h => by
    simp only [List.map_cons, List.nodup_cons] at h
    rw [putA]
    split
    · simpa using h
    · rename_i ne
      rw [List.map_cons, List.nodup_cons]
      exact ⟨fun z => (putA_keys z).elim (fun q => ne q) h.1, putA_nodup h.2⟩
theorem putL_ents {n : Nat} {W : Wd} {h : Heap} {x : Str} {t : Tok} {v : MV} {y : Value} (r : VR w n W h v y) : ∀ {l : List (Str × MV)} {es : List DictEntry}, EntS w n W h l es →
    EntS w n W h (putA l x v) (putL x (hashStr w x) (.str x t) y es)
  | [], es, z => by rw [EntS] at z; subst z; rw [putA, putL, EntS]; exact (iEEAAAA _ _ rfl (⟨t, rfl⟩) rfl r (by rw [EntS]))
  | (k, u) :: l, es, z => by
    rw [EntS] at z
    (refine xEEAAAA z fun e es' ee1 zz2 c d y' => ?_; clear z; subst ee1; obtain ⟨t', b⟩ := zz2)
    rw [putA, putL]
    by_cases q : k = x
    · subst q
      have : e.key.isStr k = true := by rw [b]; simp [Value.isStr]
      rw [if_pos rfl, if_pos this, EntS]
      exact (iEEAAAA _ _ rfl (⟨t', b⟩) c r y')
    · have : e.key.isStr x = false := by rw [b]; simp [Value.isStr, q]
      rw [if_neg q, this, EntS]
      exact (iEEAAAA _ _ rfl (⟨t', b⟩) c d (putL_ents r y'))

theorem EntS.len {n : Nat} {W : Wd} {h : Heap} : ∀ {l : List (Str × MV)} {es : List DictEntry}, EntS w n W h l es → es.length = l.length
  | [], es, z => by rw [EntS] at z; subst z; rfl
  | (k, u) :: l, es, z => by
    rw [EntS] at z
    (refine xEEAAAA z fun e es' ee3 _ _ _ y' => ?_; clear z; subst ee3)
    simp [y'.len]
theorem MH.get_put {H : MH} {l : Loc} {o o' : MO} (e : H.get l = some o) : (H.put l o').get l = some o' := by
  cases l with
  | r x => simp [MH.put, MH.get]
  | tmp k =>
    have : k < H.t.length := (List.getElem?_eq_some_iff.mp e).1
    simp [MH.put, MH.get, this]
theorem MH.get_put_ne {H : MH} {l l' : Loc} {o' : MO} (n : l' ≠ l) : (H.put l o').get l' = H.get l' := by
  cases l with
  | r x =>
    cases l' with
    | r y =>
      have : y ≠ x := fun q => n (q ▸ rfl)
      simp [MH.put, MH.get, this]
    | tmp k => rfl
  | tmp k =>
    cases l' with
    | r y => rfl
    | tmp j =>
      have : k ≠ j := fun q => n (q ▸ rfl)
      simp [MH.put, MH.get, this]
theorem MH.next_put {H : MH} {l : Loc} {o' : MO} : (H.put l o').next = H.next := by
  cases l with
  | r x => rfl
  | tmp k => simp [MH.put, MH.next]
theorem MH.r_put {H : MH} {l : Loc} {o o' : MO} (e : H.get l = some o) {x : Role} (n : (H.put l o').r x = none) : H.r x = none := by
  cases l with
  | r y =>
    by_cases q : x = y
    · subst q; simp [MH.put] at n
    · simpa [MH.put, q] using n
  | tmp k => exact n

/-- the object under a name is another; what is not its own stands -/
theorem Rel.putAt {X : Addr → Prop} {W : Wd} {h h' : Heap} {l : Loc} {o o' : MO} (R : Rel w h₀ W H h) (e : H.get l = some o)
    (kF : ∀ b ob, h.get? b = some ob → W.tau b = .free → h'.get? b = some ob) (kL : ∀ b ob, h.get? b = some ob → W.tau b = .frame → ¬ X b → h'.get? b = some ob)
    (kO : ∀ b ob l', h.get? b = some ob → W.tau b = .own l' → l' ≠ l → h'.get? b = some ob) (kl : ∀ b ob, h.get? b = some ob → ∃ ob', h'.get? b = some ob')
    (hnew : Grow X H.next W h (H.put l o').next W h' → ∃ a, W.mu l = some a ∧ W.tau a = .own l ∧ OR w (H.put l o').next W h' l o' a) :
    Rel w h₀ W (H.put l o') h' ∧ Grow X H.next W h (H.put l o').next W h' := by
  have g : Grow X H.next W h (H.put l o').next W h' := by rw [MH.next_put]; exact ⟨Nat.le_refl _, fun _ _ _ e => e, fun b o e _ => kl b o e, fun _ _ _ _ => rfl, kF, kL⟩
  exact ⟨R.step g (fun b ob l' e t n => kO b ob l' e t n) (fun l' n => MH.get_put_ne n) (MH.get_put e) (hnew g) (fun b t => by refine xE (R.new b t) fun ob x => ?_; exact kl b ob x)
    fun x n => R.role x (MH.r_put e n), g⟩

variable {K : Frag} {mg mb : Str → Option Value}
theorem As.attr {o : Expr} {name : Str} {v : MV} {Q : List (Str × MV) → MH → Prop} (G : Gnd h₀ K mg mb)
    (h : E prog w h₀ d sc ρ o H fun u H' => ∃ l C at_, u = .loc l ∧ H'.get l = some (.inst C at_) ∧ Cls K C ∧ findIn K (.ref C) name = some none ∧ (putA at_ name v).length ≤ 1000 ∧
      Q ρ (H'.put l (.inst C (putA at_ name v)))) : As prog w h₀ d sc ρ (.Attribute o name pos) v H Q := by
  intro A env s W y a F R r
  rw [arm_assign_Attribute]
  refine wpAny_bind (wpAny_holding (useG (h A env s W a F R) fun x s' H' W' zz4 R' F' g m => xEA zz4 fun u zz5 rv => xEEEAAAAA zz5 fun l C at_ e hg cl hf hz q => wpAny_bind (wpAny_standAt (wpAny_bind (wpAny_holding ?_)))))
  subst e
  refine xEEEEAAAAAAA (inst_at R' hg rv) fun b dx es n hx e1 e2 e3 ne I D z => ?_
  subst hx
  obtain ⟨mm, hm, -⟩ := F'.ns
  have r' : VR w H'.next W' s'.heap v y := r.grow g
  have hdL : dx ≠ env.locals := by (intro yy3; subst yy3); rw [F'.loc] at e3; cases e3
  have N : News noHeap env.locals s'.heap ([] ++ (dx, dictOf es n) :: ledger s'.heap [dx, env.locals]) := by
    intro p hp
    rcases List.mem_cons.mp hp with rfl | hp
    · exact (iAA D hdL (noHeap_get _))
    · refine xA (mem_ledger.mp hp) fun p1 p2 => ?_
      simp only [List.mem_cons, List.not_mem_nil, or_false, not_or] at p1
      exact (iAA p2 p1.2 (noHeap_get _))
  have hlk : (lookIn name (dictOf es n)).isSome = true := by
    rw [lookIn_dict]
    cases hl : at_.lookup name with
    | none => rw [ents_none z hl]; rfl
    | some u => refine xEA (ents_find z hl) fun y gy _ => ?_; rw [gy]; rfl
  refine set_plain (G.kin.keeps R'.base) I cl.sa (osa_dict (s := { s' with toks := s'.toks + 1 }) (pre := []) (post := ledger s'.heap [dx, env.locals]) (fr_any hm) N (G.kin.keeps R'.base) I rfl cl.po
    (by unfold takerIn; rw [hf]; rfl) cl.hd hlk (fun p hp => nomatch hp) (fun p hp q => (mem_ledger.mp hp).1 (by rw [q]; simp)) (by rw [putName_dict]) rfl
    (by have := (putL_ents (t := s'.toks + 1) r' z (x := name)).len; exact Nat.le_trans (Nat.le_of_eq this) hz) fun h' F2 N2 => ?_)
  have D2 := (N2 _ (.head _)).1
  have k2 : ∀ b' ob, b' ≠ dx → b' ≠ env.locals → s'.heap.get? b' = some ob → h'.get? b' = some ob := fun b' ob n1 n2 e => (N2 _ (.tail _ (mem_ledger.mpr ⟨by simp [n1, n2], e⟩))).1
  have kl : ∀ b' ob, s'.heap.get? b' = some ob → ∃ ob', h'.get? b' = some ob' := fun b' ob e => by
    by_cases q1 : b' = dx
    · subst q1; exact ⟨_, D2⟩
    · by_cases q2 : b' = env.locals
      · subst q2; refine xEEEA F2.ns fun o' _ _ ho' _ => ?_; exact ⟨o', ho'⟩
      · exact ⟨ob, k2 b' ob q1 q2 e⟩
  obtain ⟨R2, g2⟩ := Rel.putAt (X := XL env) R' hg (o' := .inst C (putA at_ name v)) (h' := h')
    (fun b' ob e t => k2 b' ob (by (intro yy4; subst yy4); rw [e3] at t; cases t) (by (intro yy5; subst yy5); rw [F'.loc] at t; cases t) e)
    (fun b' ob e t nx => k2 b' ob (by (intro yy6; subst yy6); rw [e3] at t; cases t) nx e)
    (fun b' ob l' e t nl => k2 b' ob (by (intro yy7; subst yy7); rw [e3] at t; injection t with t; exact nl t.symm) (by (intro yy8; subst yy8); rw [F'.loc] at t; cases t) e) kl
    (fun gg => (iEAAEEEAAAAA b e1 e2 dx _ _ (k2 b _ (Ne.symm ne) (by (intro yy9; subst yy9); rw [F'.loc] at e2; cases e2) I.at_) e3 ne D2 ((putL_ents (r'.grow gg) (z.grow gg))) (by
      refine xEAAEEEAAAAA (R'.obj l _ hg) fun _ _ _ _ _ _ _ _ _ _ _ nd => ?_
      exact putA_nodup nd)))
  refine release_ (iEEEAAAA ρ _ W' q R2 ((g.weaken fun _ x => .inl x).trans (g2.weaken fun _ x => .inl x)) ?_ (Sim.trans m ⟨rfl, rfl⟩))
  refine F'.growL g2 (fun m' hm' => ?_) F'.loc
  · skip
    refine xEEEAAA F2.ns fun o1 es1 ep1 h1 h2 h3 h4 => ?_
    (refine xEEEAAA hm fun o2 es2 ep2 k1 k2' k3 k4 => ?_; clear hm)
    (refine xEEEAAA hm' fun o3 es3 ep3 j1 j2 j3 j4 => ?_; clear hm')
    rw [k1] at j1; cases j1
    rw [k2'] at j2; cases j2
    exact (iEEEAAA o1 es1 ep1 h1 h2 h3 (fun nm => by rw [h4, ← k4, j4]))
end
end Mine
end L1hx

noncomputable section L1ix
open PySem PySem.W PySem.Calls PyProof.Rows
set_option Elab.async false
set_option linter.unusedVariables false
namespace Mine

section
variable {prog : Program} {w : World} {h₀ : Heap} {d : Nat} {sc : Scope} {ρ : List (Str × MV)} {H : MH} {pos : Pos} {Q : Fl → List (Str × MV) → MH → Prop}

noncomputable def asgK (prog : Program) (w : World) (h₀ : Heap) (d : Nat) (sc : Scope) (ρ : List (Str × MV)) (t : Expr) (Q : Fl → List (Str × MV) → MH → Prop) (v : MV) (H : MH) : Prop := As prog w h₀ d sc ρ t v H (Q .next)
/-- a plain assignment -/
theorem S.asg {t value : Expr} (h : E prog w h₀ d sc ρ value H (asgK prog w h₀ d sc ρ t Q))
    (hs : ∀ env, env.scope = sc → swapsWithSole [t] value pos.line env = pure false := by intro env e; first | rfl | (cases env; simp only at e; subst e; rfl))
    (hw : ∀ env, env.scope = sc → swappedStores [t] value env = pure none := by intro env e; first | rfl | (cases env; simp only at e; subst e; rfl))
    (ht : ∀ env, (assignEach [t] env).map (·.2) = [assign t env] := by intro _; rfl) : S prog w h₀ d sc ρ (.Assign [t] value pos) H Q := by
  intro A env s W a F R
  rw [arm_exec_Assign]
  refine wpAny_bind (wpAny_standAt ?_)
  rw [hs env F.scope]
  refine wpAny_bind (wpAny_pure ?_)
  rw [if_neg (by decide)]
  refine wpAny_bind (useG (h A env s W a F R) fun x s' H' W' zz7 R' F' g m => xEA zz7 fun v q rv => ?_)
  rw [hw env F.scope, ht env]
  refine wpAny_bind (wpAny_pure ?_)
  show wpAny _ _ (do assignAll x [assign t env]; pure Flow.next) _ _ _
  refine wpAny_bind (wpAny_mono (q A env s' W' x a F' R' rv) (fun _ s'' zz8 => xEEEAAAA zz8 fun ρ' H'' W'' q' R'' g' F'' m' => ?_) fun _ _ e => e)
  exact wpAny_pure ⟨.next, ρ', H'', W'', q', rfl, R'', (g.weaken fun _ x => .inl x).trans g', F'', m.trans m'⟩

noncomputable def ifK (prog : Program) (w : World) (h₀ : Heap) (d : Nat) (sc : Scope) (ρ : List (Str × MV)) (body orelse : List Stmt) (Q : Fl → List (Str × MV) → MH → Prop) (b : Bool) (H : MH) : Prop :=
  (b = true → Ss prog w h₀ d sc ρ body H Q) ∧ (b = false → Ss prog w h₀ d sc ρ orelse H Q)
theorem S.if {test : Expr} {body orelse : List Stmt}
    (h : T prog w h₀ d sc ρ test H (ifK prog w h₀ d sc ρ body orelse Q)) : S prog w h₀ d sc ρ (.If test body orelse pos) H Q := by
  intro A env s W a F R
  refine wpAny_If (useG (h A env s W a F R) fun b s' H' W' q R' F' g m => ?_)
  cases b with
  | true => exact wpAny_mono (q.1 rfl A env s' W' a F' R') (fun _ _ o => o.then (g.weaken fun _ x => .inl x) m) fun _ _ e => e
  | false => exact wpAny_mono (q.2 rfl A env s' W' a F' R') (fun _ _ o => o.then (g.weaken fun _ x => .inl x) m) fun _ _ e => e
noncomputable def retE (ρ : List (Str × MV)) (Q : Fl → List (Str × MV) → MH → Prop) (v : MV) (H : MH) : Prop := Q (.ret v) ρ H
theorem S.ret {e : Expr} (h : E prog w h₀ d sc ρ e H (retE ρ Q)) : S prog w h₀ d sc ρ (.Return (some e) pos) H Q :=
  fun A env s W a F R => wpAny_Return_some (useG (h A env s W a F R) fun x s' H' W' zz9 R' F' g m => xEA zz9 fun v q rv => ⟨.ret v, ρ, H', W', q, (iEA x rfl rv), R', g.weaken fun _ x => .inl x, F', m⟩)
theorem S.ret0 (q : Q (.ret (.d .none)) ρ H) : S prog w h₀ d sc ρ (.Return none pos) H Q :=
  fun A env s W a F R => wpAny_Return_none ⟨.ret (.d .none), ρ, H, W, q, (iEA .none rfl vr_none), R, .refl, F, .refl⟩
noncomputable def atomV : MV → Bool
  | .d .none | .d (.bool _) | .d (.int _) | .d (.str _) => true
  | _ => false
theorem atom_ref {n : Nat} {W : Wd} {h : Heap} {v : MV} {x : Value} (r : VR w n W h v x) (a : atomV v = true) : ∀ b, x ≠ .ref b := by
  intro b e
  subst e
  cases v with
  | d p =>
    have r := of_d r
    cases p with
    | none => rw [Fz] at r; cases r
    | bool b => rw [Fz] at r; cases r
    | int i => rw [Fz] at r; (refine xE r fun t e => ?_; clear r); cases e
    | str i => rw [Fz] at r; (refine xE r fun t e => ?_; clear r); cases e
    | _ => cases a
  | _ => cases a
noncomputable def exprK (ρ : List (Str × MV)) (Q : Fl → List (Str × MV) → MH → Prop) (v : MV) (H : MH) : Prop := atomV v = true ∧ Q .next ρ H
theorem S.expr {e : Expr} (h : E prog w h₀ d sc ρ e H (exprK ρ Q))
    (hs : ∀ env, swapsWith e none pos.line env = pure false := by intro _; rfl) : S prog w h₀ d sc ρ (.Expr e pos) H Q := by
  intro A env s W a F R
  refine wpAny_Expr (useG (h A env s W a F R) fun x s' H' W' zz10 R' F' g m => xEA zz10 fun v zz11 rv => xA zz11 fun av q => ?_) (by unfold interactive; rw [F.scope, F.kind]; rfl) (hs env)
  have nr := atom_ref rv av
  have fin : OutS w h₀ sc env H W s Q .next s' := ⟨.next, ρ, H', W', q, rfl, R', g.weaken fun _ x => .inl x, F', m⟩
  cases x with
  | ref b => exact absurd rfl (nr b)
  | _ => exact fin

noncomputable def whileK (I : Nat → List (Str × MV) → MH → Prop) (Q : Fl → List (Str × MV) → MH → Prop) (n : Nat) : Fl → List (Str × MV) → MH → Prop := fun fl ρ' H'' => match fl with
  | .next => ∃ m, m < n ∧ I m ρ' H''
  | fl => Q fl ρ' H''
noncomputable def forK (I : Nat → List (Str × MV) → MH → Prop) (Q : Fl → List (Str × MV) → MH → Prop) (n : Nat) : Fl → List (Str × MV) → MH → Prop := fun fl ρ' H'' => match fl with
  | .next => I n ρ' H''
  | fl => Q fl ρ' H''
/-- a while by what holds between its turns -/
theorem S.while {test : Expr} {body : List Stmt} (I : Nat → List (Str × MV) → MH → Prop)
    (turn : ∀ n ρ H, I n ρ H → T prog w h₀ d sc ρ test H fun b H' =>
      (b = true → Ss prog w h₀ d sc ρ body H' (whileK I Q n)) ∧ (b = false → Q .next ρ H'))
    (n : Nat) (h : I n ρ H) : S prog w h₀ d sc ρ (.While test body [] pos) H Q := by
  intro A env s W a F R
  refine wpAny_While (codeAny_whileLoop (fun n s' => ∃ ρ' H' W', I n ρ' H' ∧ Rel w h₀ W' H' s'.heap ∧ Grow (FA env) H.next W s.heap H'.next W' s'.heap ∧ FrOk w sc ρ' env H'.next W' s'.heap ∧ Sim s s') ?_ n (iEEEAAAA ρ H W h R .refl F .refl))
  (intro n s' yy3; (refine xEEEAAAA yy3 fun ρ' H' W' i R' g F' m => ?_; clear yy3))
  refine wpAny_mono (turn n ρ' H' i A env s' W' a F' R') (fun b s2 ⟨H2, W2, q, R2, g2, F2, m2⟩ => ?_) fun _ _ e => e.elim
  have G := g.trans (g2.weaken fun _ x => .inl x)
  cases b with
  | false =>
    simp only [Bool.false_eq_true, if_false]
    exact wpAny_execs_nil ⟨.next, ρ', H2, W2, q.2 rfl, rfl, R2, G, F2, m.trans m2⟩
  | true =>
    simp only [if_true]
    refine wpAny_mono (q.1 rfl A env s2 W2 a F2 R2) (fun f s3 ⟨fl, ρ3, H3, W3, q3, r3, R3, g3, F3, m3⟩ => ?_) fun _ _ e => e.elim
    cases fl with
    | next =>
      rw [FlR] at r3; subst r3
      (refine xEA q3 fun k lt i' => ?_; clear q3)
      exact (iEAEEEAAAA k lt ρ3 H3 W3 i' R3 (G.trans g3) F3 ((m.trans m2).trans m3))
    | ret v =>
      refine xEA (id r3) fun x e r => ?_
      subst e
      exact ⟨.ret v, ρ3, H3, W3, q3, r3, R3, G.trans g3, F3, (m.trans m2).trans m3⟩
end

/-- a thing that is walked -/
structure IterOf (prog : Program) (w : World) (A : Around) (W : Wd) (n : Nat) (h : Heap) (items : List MV) (I : Addr) (fp wr : List Addr) (P : Nat → Value → Prop) (St : Nat → Heap → Prop) : Prop where
  walk : Walks prog w A I fp wr items.length P St
  st0 : St 0 h
  fr : ∀ b ∈ fp, b ∈ wr ∨ W.tau b = .free
  wl : ∀ b ∈ wr, W.tau b = .frame
  live : ∀ b ∈ fp, ∃ o, h.get? b = some o
  stl : ∀ i h, St i h → ∀ b ∈ wr, ∃ o, h.get? b = some o
  val : ∀ i v, i < items.length → P i v → ∃ m, items[i]? = some m ∧ VR w n W h m v
noncomputable def Iter (prog : Program) (w : World) (h₀ : Heap) (d : Nat) (v : MV) (items : List MV) (H : MH) : Prop :=
  ∀ A s W x, AOk d A → Rel w h₀ W H s.heap → VR w H.next W s.heap v x → wpAny (model prog w) A (pyIter x) (fun it s' => ∃ W' I fp wr P St, it = .ref I ∧ Rel w h₀ W' H s'.heap ∧ Grow NoX H.next W s.heap H.next W' s'.heap ∧ Sim s s' ∧
    (∀ b ∈ wr, s.heap.get? b = none) ∧ IterOf prog w A W' H.next s'.heap items I fp wr P St) Bot s

section
variable {prog : Program} {w : World} {h₀ : Heap} {d : Nat} {H : MH}
/-- the world in which one thing more is a frame's -/
theorem Grow.pushFrame {W : Wd} {n : Nat} {h : Heap} (ob : Obj) : Grow NoX n W h n (W.frames h.objs.size []) (h.push ob) := by
  have hnew : ∀ b o', h.get? b = some o' → ¬ (b = h.objs.size ∨ b ∈ ([] : List (Str × Addr)).map (·.2)) := fun b o' e q => by
    rcases q with q | q
    · exact absurd (Heap.lt_size e) (q ▸ Nat.lt_irrefl _)
    · cases q
  exact ⟨Nat.le_refl _, fun _ _ _ e => e, fun b o' e _ => ⟨o', push_keep _ _ b o' e⟩, fun b o' e _ => by simp only [Wd.frames]; rw [if_neg (hnew b o' e)], fun b o' e _ => push_keep _ _ b o' e, fun b o' e _ _ => push_keep _ _ b o' e⟩
theorem Rel.pushFrame {W : Wd} {s : Shared} {ob : Obj} (R : Rel w h₀ W H s.heap) (hf : ob.isFreed = false) : Rel w h₀ (W.frames s.heap.objs.size []) H (s.heap.push ob) :=
  R.grow (Grow.pushFrame ob) (fun b o l' e _ => push_keep _ _ b o e) rfl fun b e => by
    by_cases q : b = s.heap.objs.size
    · subst q; exact ⟨ob, Heap.get?_push_size _ hf⟩
    · simp only [Wd.frames, List.map_nil, List.not_mem_nil, or_false, if_neg q] at e
      refine xE (R.new b e) fun o e' => ?_
      exact ⟨o, push_keep _ _ b o e'⟩
theorem frames_self {W : Wd} {a : Addr} : (W.frames a []).tau a = .frame := by simp [Wd.frames]
theorem frames_ne {W : Wd} {a b : Addr} (n : b ≠ a) : (W.frames a []).tau b = W.tau b := by simp [Wd.frames, n]

theorem Iter.list {xs : List PyData} (hA : xs.length ≤ 1000000) : Iter prog w h₀ d (.d (.list xs)) (xs.map .d) H := by
  intro A s W x a R r
  (refine xEEEAAA (fz_list (of_d r)) fun b vs n ee1 f g fz => ?_; subst ee1)
  have hl : s.heap.IsList b vs := (iEAAE _ g rfl n rfl)
  have hb : b ≠ s.heap.objs.size := fun q => absurd (Heap.lt_size g) (q ▸ Nat.lt_irrefl _)
  refine wpAny_pyIter_list hl (iEEEEEEAAAAA (W.frames s.heap.objs.size []) s.heap.objs.size ([s.heap.objs.size, b]) ([s.heap.objs.size]) ((fun i v => vs[i]? = some v)) ((fun i h => h.IsListIter s.heap.objs.size b i ∧ h.IsList b vs)) rfl (R.pushFrame rfl) (.pushFrame _) (⟨rfl, rfl⟩) ?_ ⟨?_, ?_, ?_, ?_, ?_, ?_, ?_⟩)
  · intro c hc
    rw [List.mem_singleton.mp hc]
    cases e : s.heap.get? s.heap.objs.size with
    | none => rfl
    | some o => exact absurd (Heap.lt_size e) (Nat.lt_irrefl _)
  · have W1 := Walks.list (prog := prog) (w := w) (A := A) a.handled s.heap.objs.size b hb vs
    have e1 := fz.length
    rw [show vs.size = (xs.map MV.d).length by rw [List.length_map, e1, Array.length_toList]] at W1
    exact W1
  · exact ⟨(iEAA _ (Heap.get?_push_size _ rfl) rfl rfl), hl.push _⟩
  · intro c hc
    rcases List.mem_cons.mp hc with rfl | hc
    · exact .inl (.head _)
    · rw [List.mem_singleton.mp hc]; exact .inr ((frames_ne hb).trans f)
  · intro c hc; rw [List.mem_singleton.mp hc]; exact frames_self
  · intro c hc
    rcases List.mem_cons.mp hc with rfl | hc
    · exact ⟨_, Heap.get?_push_size _ rfl⟩
    · rw [List.mem_singleton.mp hc]; exact ⟨_, push_keep _ _ _ _ g⟩
  · (intro i h' yy6 c hc; (refine xA yy6 fun zz2 _ => ?_; clear yy6; obtain ⟨o, ho, _⟩ := zz2)); rw [List.mem_singleton.mp hc]; exact ⟨o, ho⟩
  · intro i v hi p
    have hi' : i < xs.length := by simpa using hi
    refine xEA (fz.get (i := i) (d := xs[i]) (List.getElem?_eq_getElem hi')) fun y ey ry => ?_
    have : y = v := by
      have p' : vs[i]? = some v := p
      rw [← Array.getElem?_toList, ey] at p'; exact Option.some.inj p'
    subst this
    exact (iEA (.d xs[i]) (by simp [hi']) ((to_d ry).grow (Grow.pushFrame _)))
theorem Iter.tuple {xs : List PyData} : Iter prog w h₀ d (.d (.tuple xs)) (xs.map .d) H := by
  intro A s W x a R r
  (refine xEEEAAA (fz_tuple (of_d r)) fun b vs n ee3 f g fz => ?_; subst ee3)
  have hl : s.heap.IsTuple b vs := (iEAAE _ g rfl n rfl)
  have hb : b ≠ s.heap.objs.size := fun q => absurd (Heap.lt_size g) (q ▸ Nat.lt_irrefl _)
  refine wpAny_pyIter_tuple hl (iEEEEEEAAAAA (W.frames s.heap.objs.size []) s.heap.objs.size ([s.heap.objs.size, b]) ([s.heap.objs.size]) ((fun i v => vs[i]? = some v)) ((fun i h => h.IsTupleIter s.heap.objs.size b i ∧ h.IsTuple b vs)) rfl (R.pushFrame rfl) (.pushFrame _) (⟨rfl, rfl⟩) ?_ ⟨?_, ?_, ?_, ?_, ?_, ?_, ?_⟩)
  · intro c hc
    rw [List.mem_singleton.mp hc]
    cases e : s.heap.get? s.heap.objs.size with
    | none => rfl
    | some o => exact absurd (Heap.lt_size e) (Nat.lt_irrefl _)
  · have e1 := fz.length
    have e2 : (xs.map MV.d).length = vs.size := by rw [List.length_map, e1, Array.length_toList]
    rw [e2]
    refine ⟨fun c hc => by rw [List.mem_singleton.mp hc]; exact .head _, fun i h h' st hk => ?_, fun i s' Q E hi st hQ => ?_, fun s' Q E st hQ => ?_, fun i s' Q E st hQ => ?_⟩
    · exact ⟨st.1.at fun o e => hk _ (by simp) o e, st.2.at fun o e => hk _ (by simp) o e⟩
    · refine wpAny_pyNext_tuple_item st.1 st.2 (x := vs[i]) (by simp [hi]) fun h' hit' hs' => ?_
      exact hQ _ h' s'.toks (by simp [hi]) ⟨hit', st.2.extBut hs'.extBut hb⟩ fun c o hc e => hs'.extBut c o (fun h => hc (by simp [h])) e
    · exact wpAny_pyNext_tuple_end a.handled st.1 st.2 (by simp) fun h' he' => hQ h' s'.toks fun c o hc e => he' c o (fun h => hc (by simp [h])) e
    · refine wpAny_pyIter_slot st.1.typeIs F.slot_tuple_iterator_iter (wpAny_call_entry F.slot_tuple_iterator_iter st.1.typeIs F.entry_tuple_iterator_iter ?_ (F.args_tuple_iterator_iter_1 _))
      show wpAny _ _ (ret (.ref s.heap.objs.size)) _ _ s'
      exact wpAny_pure (iEAEEAA _ rfl ("tuple_iterator") _ st.1.typeIs F.slot_tuple_iterator_next.lookup hQ)
  · exact ⟨(iEAA _ (Heap.get?_push_size _ rfl) rfl rfl), hl.push _⟩
  · intro c hc
    rcases List.mem_cons.mp hc with rfl | hc
    · exact .inl (.head _)
    · rw [List.mem_singleton.mp hc]; exact .inr ((frames_ne hb).trans f)
  · intro c hc; rw [List.mem_singleton.mp hc]; exact frames_self
  · intro c hc
    rcases List.mem_cons.mp hc with rfl | hc
    · exact ⟨_, Heap.get?_push_size _ rfl⟩
    · rw [List.mem_singleton.mp hc]; exact ⟨_, push_keep _ _ _ _ g⟩
  · (intro i h' yy11 c hc; (refine xA yy11 fun zz4 _ => ?_; clear yy11; obtain ⟨o, ho, _⟩ := zz4)); rw [List.mem_singleton.mp hc]; exact ⟨o, ho⟩
  · intro i v hi p
    have hi' : i < xs.length := by simpa using hi
    refine xEA (fz.get (i := i) (d := xs[i]) (List.getElem?_eq_getElem hi')) fun y ey ry => ?_
    have : y = v := by
      have p' : vs[i]? = some v := p
      rw [← Array.getElem?_toList, ey] at p'; exact Option.some.inj p'
    subst this
    exact (iEA (.d xs[i]) (by simp [hi']) ((to_d ry).grow (Grow.pushFrame _)))

theorem Iter.range {k : Int} (h0 : 0 ≤ k) (hk : k ≤ 1000000) : Iter prog w h₀ d (.rng k) ((List.range k.toNat).map fun (i : Nat) => MV.d (.int (i : Int))) H := by
  intro A s W x a R r
  rw [VR] at r
  (refine xEEEEAA r fun b t u z ee5 f g => ?_; clear r; subst ee5)
  have hz : Builtin.Range.rangeSize 0 k 1 = (k.toNat : Int) := by rw [rangeSize_one]; split <;> lia
  have hs : Builtin.Range.small 0 k 1 = true := small_one (by decide) (by decide) (by lia) (by lia)
  refine wpAny_pyIter_range g hs (iEEEEEEAAAAA (W.frames s.heap.objs.size []) s.heap.objs.size ([s.heap.objs.size]) ([s.heap.objs.size]) ((fun i v => i < k.toNat ∧ ∃ t, v = .int i t)) ((fun i h => IsRangeIter h s.heap.objs.size i ((k.toNat : Int) - i) 1)) rfl (R.pushFrame rfl) (.pushFrame _) (⟨rfl, rfl⟩) ?_ ⟨?_, ?_, ?_, ?_, ?_, ?_, ?_⟩)
  · intro c hc
    rw [List.mem_singleton.mp hc]
    cases e : s.heap.get? s.heap.objs.size with
    | none => rfl
    | some o => exact absurd (Heap.lt_size e) (Nat.lt_irrefl _)
  · rw [List.length_map, List.length_range]
    refine ⟨fun c hc => hc, fun i h h' st hk => hk _ (by simp) _ st, fun i s' Q E hi st hQ => ?_, fun s' Q E st hQ => ?_, fun i s' Q E st hQ => ?_⟩
    · refine wpAny_pyNext_range_item st (by lia) fun h' hit' hs' => ?_
      have e : ((i + 1 : Nat) : Int) = (i : Int) + 1 := by lia
      have st' : IsRangeIter h' s.heap.objs.size ((i + 1 : Nat) : Int) ((k.toNat : Int) - ((i + 1 : Nat) : Int)) 1 := by
        rw [e, show (k.toNat : Int) - ((i : Int) + 1) = (k.toNat : Int) - i - 1 by lia]; exact hit'
      exact hQ _ h' _ (iAE hi _ rfl) st' fun c o hc e => hs'.extBut c o (fun h => hc (by simp [h])) e
    · exact wpAny_pyNext_range_end a.handled st (by lia) fun h' he' => hQ h' s'.toks fun c o hc e => he' c o (fun h => hc (by simp [h])) e
    · have hT : s'.TypeIs (.ref s.heap.objs.size) "range_iterator" := (iEA _ st rfl)
      refine wpAny_pyIter_slot hT F.slot_range_iterator_iter (wpAny_call_entry F.slot_range_iterator_iter hT F.entry_range_iterator_iter ?_ (F.args_range_iterator_iter_1 _))
      show wpAny _ _ (ret (.ref s.heap.objs.size)) _ _ s'
      exact wpAny_pure (iEAEEAA _ rfl ("range_iterator") _ hT F.slot_range_iterator_next.lookup hQ)
  · show IsRangeIter _ _ ((0 : Nat) : Int) ((k.toNat : Int) - (0 : Nat)) 1
    rw [show (k.toNat : Int) - ((0 : Nat) : Int) = Builtin.Range.rangeSize 0 k 1 by rw [hz]; lia]
    exact Heap.get?_push_size _ rfl
  · exact fun c hc => .inl hc
  · intro c hc; rw [List.mem_singleton.mp hc]; exact frames_self
  · intro c hc; rw [List.mem_singleton.mp hc]; exact ⟨_, Heap.get?_push_size _ rfl⟩
  · intro i h' st c hc; rw [List.mem_singleton.mp hc]; exact ⟨_, st⟩
  · (intro i v hi yy17; (refine xAE yy17 fun h1 t ee6 => ?_; clear yy17; subst ee6))
    exact (iEA (.d (.int i)) (by simp [h1]) vr_int)
end
end Mine
end L1ix

noncomputable section L1jx
open PySem PySem.W PySem.Calls PyProof.Rows
set_option Elab.async false
set_option linter.unusedVariables false
namespace Mine

section
variable {prog : Program} {w : World} {h₀ : Heap} {d : Nat} {sc : Scope} {ρ : List (Str × MV)} {H : MH} {pos : Pos} {Q : Fl → List (Str × MV) → MH → Prop}

theorem S.for {x : Str} {px : Pos} {iter : Expr} {body : List Stmt}
    (h : E prog w h₀ d sc ρ iter H fun v H' => ∃ items, ∃ I : Nat → List (Str × MV) → MH → Prop, Iter prog w h₀ d v items H' ∧ I 0 ρ H' ∧
      (∀ i m ρ' H'', items[i]? = some m → I i ρ' H'' → Ss prog w h₀ d sc ((x, m) :: ρ') body H'' (forK I Q (i + 1))) ∧
      (∀ ρ' H'', I items.length ρ' H'' → Q .next ρ' H''))
    (hk : (sc.names.lookup x == some .local || sc.names.lookup x == some .cell) = true := by exact tt)
    (hs : ∀ env y, foldedSetIterable iter env y = pure y := by intro _ _; rfl) : S prog w h₀ d sc ρ (.For (.Name x px) iter body [] pos) H Q := by
  intro A env s W a F R
  refine wpAny_For (useG (h A env s W a F R) fun y s1 H1 W1 zz3 R1 F1 g1 m1 => xEA zz3 fun v zz4 rv => xEEAAA zz4 fun items I it i0 turn fin => ?_) (hs env)
  refine wpAny_mono (it A s1 W1 y a R1 rv) (fun itv s2 zz5 => xEEEEEEAAAAA zz5 fun W2 Ia fp wr P St e R2 g2 m2 hnew T => ?_) fun _ _ e => e
  subst e
  have F2 := F1.grow g2
  have hwn : ∀ b o, s1.heap.get? b = some o → b ∉ wr := fun b o e q => by rw [hnew b q] at e; cases e
  have nL : env.locals ∉ wr := by (refine xEA F1.ns fun m zz1 _ => ?_; obtain ⟨o, _, _, ho, _⟩ := zz1); exact hwn _ o ho
  have nC : ∀ z c, (z, c) ∈ env.cells → c ∉ wr := fun z c hm => by refine xAAEEA (F1.cels z c hm) fun _ _ v o ho _ => ?_; exact hwn _ o ho
  let Y : Addr → Prop := fun b => FA env b ∨ b ∈ wr
  have nFA : ∀ b ∈ wr, ¬ FA env b := fun b hb q => by
    rcases q with rfl | ⟨z, hz⟩
    · exact nL hb
    · exact nC z b hz hb
  have fin' : ∀ {s' : Shared} {H' : MH} {W' : Wd}, Grow Y H1.next W2 s2.heap H'.next W' s'.heap → Grow (FA env) H.next W s.heap H'.next W' s'.heap := fun {s' H' W'} g => by
    refine (g1.weaken fun _ x => .inl x).trans ?_
    have g12 : Grow Y H1.next W1 s1.heap H'.next W' s'.heap := Grow.trans (g2.weaken fun _ x => x.elim) g
    exact g12.sub fun b o e q => q.elim id fun z => absurd z (hwn b o e)
  refine codeAny_forLoop (fun n s' => ∃ i ρ' H' W', n = items.length + 1 - i ∧ i ≤ items.length ∧ I i ρ' H' ∧ St i s'.heap ∧ Rel w h₀ W' H' s'.heap ∧ Grow Y H1.next W2 s2.heap H'.next W' s'.heap ∧ FrOk w sc ρ' env H'.next W' s'.heap ∧ Sim s2 s' ∧ ∀ b ∈ fp, W'.tau b = W2.tau b)
    ?_ (items.length + 1) (iEEEEAAAAAAAA 0 ρ H1 W2 rfl (Nat.zero_le _) i0 T.st0 R2 .refl F2 .refl (fun _ _ => rfl))
  (intro n s' yy3; (refine xEEEEAAAAAAAA yy3 fun i ρ' H' W' ee2 hi hI st R' g' F' m' tagw => ?_; clear yy3; subst ee2))
  have wrfr : ∀ b ∈ wr, W'.tau b = .frame := fun b hb => (tagw b (T.walk.sub b hb)).trans (T.wl b hb)
  have nwr : ∀ b, (W'.tau b = .frame → ¬ (b ∈ wr)) → b ∉ wr := fun b f q => f (wrfr b q) q
  have stepNext : ∀ {h₁ : Heap}, (∀ b ∈ wr, ∃ o, h₁.get? b = some o) → (∀ b o, b ∉ wr → s'.heap.get? b = some o → h₁.get? b = some o) → Grow (fun b => b ∈ wr) H'.next W' s'.heap H'.next W' h₁ ∧ Rel w h₀ W' H' h₁ := fun {h₁} lv k => by
    have g : Grow (fun b => b ∈ wr) H'.next W' s'.heap H'.next W' h₁ := by
      refine ⟨Nat.le_refl _, fun _ _ _ e => e, fun b o e f => ⟨o, k b o (nwr b f) e⟩, fun _ _ _ _ => rfl, fun b o e t => k b o (fun q => ?_) e, fun b o e _ nx => k b o nx e⟩
      rw [wrfr b q] at t; cases t
    refine ⟨g, R'.grow g (fun b o l' e t => k b o (fun q => by rw [wrfr b q] at t; cases t) e) rfl fun b t => ?_⟩
    refine xE (R'.new b t) fun o e => ?_
    by_cases q : b ∈ wr
    · exact lv b q
    · exact ⟨o, k b o q e⟩
  by_cases hlt : i < items.length
  · refine T.walk.item i s' _ _ hlt st fun v h₁ tk hP st₁ hk₁ => ?_
    refine xA (stepNext (T.stl _ _ st₁) hk₁) fun g3 R3 => ?_
    refine xEA (T.val i v hlt hP) fun mv em rm => ?_
    have F3 : FrOk w sc ρ' env H'.next W' h₁ := F'.growX g3 nL nC
    have rm' : VR w H'.next W' h₁ mv v := (rm.grow g').grow g3
    refine wpAny_assign_Name (wpAny_mono (storeName_ (s := { s' with heap := h₁, toks := tk }) (Q := fun ρ4 H4 => ρ4 = (x, mv) :: ρ' ∧ H4 = H') F3 R3 rm' ⟨rfl, rfl⟩ hk) (fun _ s4 zz6 => xEEEAAAA zz6 fun ρ4 H4 W4 zz7 R4 g4 F4 m4 => xA zz7 fun e4 e4' => ?_) fun _ _ e => e.elim)
    subst e4 e4'
    refine wpAny_mono (turn i mv ρ' _ em hI A env s4 W4 a F4 R4) (fun f s5 ⟨fl, ρ5, H5, W5, q5, r5, R5, g5, F5, m5⟩ => ?_) fun _ _ e => e.elim
    have G45 : Grow (FA env) _ W' h₁ _ W5 s5.heap := g4.trans g5
    have G : Grow Y H1.next W2 s2.heap H5.next W5 s5.heap := (g'.trans (g3.weaken fun _ q => .inr q)).trans (G45.weaken fun _ q => .inl q)
    have M : Sim s2 s5 := Sim.trans (Sim.trans (Sim.trans m' (show Sim s' { s' with heap := h₁, toks := tk } from ⟨rfl, rfl⟩)) m4) m5
    have st5 : St (i + 1) s5.heap := T.walk.frame _ _ _ st₁ fun b hb o e => by
      rcases T.fr b hb with q | q
      · exact G45.keepL b o e (wrfr b q) (nFA b q)
      · exact G45.keepF b o e ((tagw b hb).trans q)
    have tagw5 : ∀ b ∈ fp, W5.tau b = W2.tau b := fun b hb => by
      rcases T.fr b hb with q | q
      · refine xE (T.stl _ _ st₁ b q) fun o e => ?_
        exact (G45.tag b o e fun _ => nFA b q).trans (tagw b hb)
      · refine xE (T.live b hb) fun o e => ?_
        have fb : W'.tau b = .free := (tagw b hb).trans q
        have e' := hk₁ b o (fun z => by rw [wrfr b z] at fb; cases fb) (g'.keepF b o e q)
        exact (G45.tag b o e' fun t => by rw [fb] at t; cases t).trans (tagw b hb)
    cases fl with
    | next =>
      rw [FlR] at r5; subst r5
      exact (iEAEEEEAAAAAAAA (items.length + 1 - (i + 1)) (by lia) (i + 1) ρ5 H5 W5 rfl hlt q5 st5 R5 G F5 M tagw5)
    | ret u =>
      refine xEA (id r5) fun z e r => ?_
      subst e
      exact ⟨.ret u, ρ5, H5, W5, q5, r5, R5, fin' G, F5, (m1.trans m2).trans M⟩
  · obtain rfl : i = items.length := by lia
    refine T.walk.done s' _ _ st fun h₁ tk hk₁ => ?_
    have g : Grow (fun b => b ∈ wr) H'.next W' s'.heap H'.next ⟨W'.mu, fun b => if b ∈ wr then .free else W'.tau b⟩ h₁ := by
      refine ⟨Nat.le_refl _, fun _ _ _ e => e, fun b o e f => ⟨o, hk₁ b o (nwr b f) e⟩, fun b o e f => if_neg (nwr b f), fun b o e t => hk₁ b o (fun q => ?_) e, fun b o e _ nx => hk₁ b o nx e⟩
      rw [wrfr b q] at t; cases t
    have R2 : Rel w h₀ _ H' h₁ := R'.grow g (fun b o l' e t => hk₁ b o (fun q => by rw [wrfr b q] at t; cases t) e) rfl fun b t => by
      by_cases q : b ∈ wr
      · exact absurd (if_pos q) t
      · refine xE (R'.new b fun z => t ((if_neg q).trans z)) fun o e => ?_
        exact ⟨o, hk₁ b o q e⟩
    exact wpAny_execs_nil ⟨.next, ρ', H', _, fin ρ' H' hI, rfl, R2, fin' (g'.trans (g.weaken fun _ q => .inr q)), F'.growX g nL nC, (m1.trans m2).trans (Sim.trans m' ⟨rfl, rfl⟩)⟩
end
end Mine
end L1jx

noncomputable section L1kx
open PySem PySem.W PySem.Calls PyProof.Rows
set_option Elab.async false
set_option linter.unusedVariables false
namespace Mine

/-! comprehensions -/
noncomputable def relS (scope sc : Scope) : Scope :=
  { scope with names := scope.names.map fun (n, k) => if (k == .free && sc.kind == .function && sc.names.lookup n == some .cell) then (n, .cell) else (n, k) }
theorem relabel_eq {scope sc : Scope} {env : Env} (e : env.scope = sc) : relabel scope env = relS scope sc := by
  subst e; rfl

/-- a list that is being filled -/
noncomputable def AccOk (D : Addr) (ds : List PyData) (W : Wd) (h : Heap) : Prop := W.tau D = .frame ∧ ∃ its e, h.get? D = some (listOf its e) ∧ FzA W.free h ds its.toList
theorem AccOk.grow {X : Addr → Prop} {D : Addr} {ds : List PyData} {n n' : Nat} {W W' : Wd} {h h' : Heap} (a : AccOk D ds W h) (g : Grow X n W h n' W' h') (nx : ¬ X D) : AccOk D ds W' h' := by
  (refine xAEEA a fun t its e o r => ?_; clear a)
  exact (iAEEA ((g.tag _ _ o fun _ => nx).trans t) its e (g.keepL _ _ o t nx) (r.mono g.keeps1))

/-- what the turn of a loop does behind its tests -/
noncomputable def innerTree (e : Expr) (gens : List Comprehension) (elt : Expr) (i : Nat) (acc : Value) (env : Env) (k : Sem Fin) : Sem Fin :=
  match gens[i + 1]? with
  | some g' => do
    let x ← eval g'.iter env
    standAt g'.iter.pos
    if g'.is_async != 0 then do
      let x ← foldedIterable g'.iter x
      let _ ← runOwn (.compStart e (i + 1) (← holding [x] (if g'.is_async != 0 then asyncIter x else pyIter x)) acc env) env
      k
    else do
      let x ← foldedSetIterable g'.iter env x
      let _ ← runOwn (.compStart e (i + 1) (← holding [x] (if g'.is_async != 0 then asyncIter x else pyIter x)) acc env) env
      k
  | none => do
    (do let _ ← call (.builtin "list.append") [acc, ← eval elt env])
    k

theorem compTurn_at {elt : Expr} {gens : List Comprehension} {scope : Scope} {pos : Pos} {i : Nat} {target iter : Expr} {ifs : List Expr} {it acc : Value} {env : Env} (h : gens[i]? = some ⟨target, iter, ifs, 0⟩) :
    compTurn (.ListComp elt gens scope pos) i it acc env = (standAt iter.pos >>= fun _ => pyNext it >>= fun r => match r with
      | none => pure (.done .next)
      | some v => do
        letOwnedTupleGo target it v
        assign target env v
        let mut ok := true
        for c in ifs do
          if ok then ok ← isTrue c env (eval c env)
        if ok then innerTree (.ListComp elt gens scope pos) gens elt i acc env (again (.compLoop (.ListComp elt gens scope pos) i it acc env))
        else again (.compLoop (.ListComp elt gens scope pos) i it acc env)) := by
  unfold compTurn innerTree
  simp only [h]
  generalize gens[i + 1]? = g
  cases g <;> rfl

section
variable (prog : Program) (w : World) (h₀ : Heap) (d : Nat) (sc : Scope)
noncomputable abbrev OutL (X : Addr → Prop) (ρ : List (Str × MV)) (env : Env) (D : Addr) (H : MH) (W : Wd) (s : Shared) (Q : MH → List PyData → Prop) (s' : Shared) : Prop :=
  ∃ H' W' ds', Q H' ds' ∧ Rel w h₀ W' H' s'.heap ∧ Grow X H.next W s.heap H'.next W' s'.heap ∧ FrOk w sc ρ env H'.next W' s'.heap ∧ AccOk D ds' W' s'.heap ∧ Sim s s'
/-- the loop of a comprehension's i-th for -/
noncomputable def Lp (elt : Expr) (gens : List Comprehension) (scope : Scope) (pos : Pos) (i : Nat) (items : List MV) (ρ : List (Str × MV)) (H : MH) (ds : List PyData) (Q : MH → List PyData → Prop) : Prop :=
  ∀ A env s W I fp wr P St D, AOk d A → FrOk w sc ρ env H.next W s.heap → Rel w h₀ W H s.heap → AccOk D ds W s.heap → ¬ FA env D → D ∉ wr → (∀ b ∈ wr, ¬ FA env b) → IterOf prog w A W H.next s.heap items I fp wr P St →
    codeAny (model prog w) A (.compLoop (.ListComp elt gens scope pos) i (.ref I) (.ref D) env) (fun r s' => r = .ok .next ∧ OutL w h₀ sc (fun b => (XL env b ∨ b = D) ∨ b ∈ wr) ρ env D H W s Q s') s
/-- what stands behind the tests -/
noncomputable def Em (elt : Expr) (gens : List Comprehension) (scope : Scope) (pos : Pos) (i : Nat) (ρ : List (Str × MV)) (H : MH) (ds : List PyData) (Q : MH → List PyData → Prop) : Prop :=
  ∀ A env s W D, AOk d A → FrOk w sc ρ env H.next W s.heap → Rel w h₀ W H s.heap → AccOk D ds W s.heap → ¬ FA env D →
    ∀ k Z, (∀ s', OutL w h₀ sc (fun b => XL env b ∨ b = D) ρ env D H W s Q s' → wpAny (model prog w) A k Z Bot s') → wpAny (model prog w) A (innerTree (.ListComp elt gens scope pos) gens elt i (.ref D) env k) Z Bot s
/-- the tests of a comprehension -/
noncomputable def Ifs (ρ : List (Str × MV)) (es : List Expr) (H : MH) (Q : Bool → MH → Prop) : Prop :=
  ∀ A env s W, AOk d A → FrOk w sc ρ env H.next W s.heap → Rel w h₀ W H s.heap →
    wpAny (model prog w) A (forIn es true fun c r => if r = true then do let ok ← isTrue c env (eval c env); pure (ForInStep.yield ok) else pure (ForInStep.yield r))
      (fun b s' => OutG w h₀ (XL env) sc ρ env H W s (fun H' _ _ => Q b H') s') Bot s
end

section
variable {prog : Program} {w : World} {h₀ : Heap} {d : Nat} {sc : Scope} {ρ : List (Str × MV)} {H : MH} {pos : Pos} {elt : Expr} {gens : List Comprehension} {scope : Scope} {i : Nat}

theorem Ifs.nil {Q : Bool → MH → Prop} (q : Q true H) : Ifs prog w h₀ d sc ρ [] H Q := fun A env s W a F R => wpAny_tests_nil (.same R F q)
theorem Ifs.one {c : Expr} {Q : Bool → MH → Prop} (h : T prog w h₀ d sc ρ c H Q) : Ifs prog w h₀ d sc ρ [c] H Q := fun A env s W a F R => wpAny_tests_one (h A env s W a F R)

theorem storeLocal_ {A : Around} {env : Env} {s : Shared} {W : Wd} {x : Str} {v : MV} {y : Value} {Q : List (Str × MV) → MH → Prop} {M : Model} (F : FrOk w sc ρ env H.next W s.heap) (R : Rel w h₀ W H s.heap) (r : VR w H.next W s.heap v y)
    (q : Q ((x, v) :: ρ) H) (hk : sc.names.lookup x = some .local) :
    wpAny M A (storeName env x y) (fun _ s' => ∃ ρ' H' W', Q ρ' H' ∧ Rel w h₀ W' H' s'.heap ∧ Grow (XL env) H.next W s.heap H'.next W' s'.heap ∧ FrOk w sc ρ' env H'.next W' s'.heap ∧ Sim s s') Bot s := by
  have hkind : env.scope.kind = .function := F.scope ▸ F.kind
  have hl : env.kindOf x = sc.names.lookup x := by unfold Env.kindOf; rw [F.scope]
  refine xEA F.ns fun m hm hv' => ?_
  refine wpAny_storeName_local (hl.trans hk) hm (fun h' hn hs => ?_) (by rw [hkind]; rfl)
  have hL : ∃ o, h'.get? env.locals = some o := let ⟨o, _, _, ho, _⟩ := hn; ⟨o, ho⟩
  have g : Grow (XL env) H.next W s.heap H.next W h' := Grow.but hs hL F.loc rfl
  refine (iEEEAAAA _ H W q (R.but hs hL F.loc) g (⟨F.scope, F.kind, F.glob, F.blt, F.loc, (iEA _ hn (fun z u e t => ?_)), fun z u e t => ?_, fun z c e => ?_, F.apart, F.named⟩) (⟨rfl, rfl⟩))
  · rw [List.lookup_cons] at e
    by_cases zx : z = x
    · subst zx; simp at e; subst e; exact (iEA y (by simp) (r.grow g))
    · have : (z == x) = false := by simpa using zx
      rw [this] at e
      refine xEA (hv' z u e t) fun xv a b => ?_
      exact (iEA xv (by simp [zx, a]) (b.grow g))
  · rw [List.lookup_cons] at e
    by_cases zx : z = x
    · subst zx; rw [hk] at t; rcases t with t | t <;> cases t
    · have : (z == x) = false := by simpa using zx
      rw [this] at e
      refine xEEAA (F.cel z u e t) fun c xv a b e' => ?_
      exact (iEEAA c xv a (b.sameBut hs (F.cels z c (mem_of_lookup a)).2.1) (e'.grow g))
  · refine xAAE (F.cels z c e) fun a b v' e' => ?_
    exact (iAAE a b v' (e'.sameBut hs b))

/-- the acc list takes one thing more -/
theorem acc_append {A : Around} {s : Shared} {W : Wd} {D : Addr} {ds : List PyData} {x : PyData} {v : Value} {Z : Value → Shared → Prop} (R : Rel w h₀ W H s.heap) (a : AccOk D ds W s.heap) (r : Fz W.free s.heap x v) (hl : ds.length ≤ 1000)
    (k : ∀ s', Rel w h₀ W H s'.heap → Grow (fun b => b = D) H.next W s.heap H.next W s'.heap → AccOk D (ds ++ [x]) W s'.heap → Sim s s' → Z .none s') :
    wpAny (model prog w) A (call (.builtin "list.append") [.ref D, v]) Z Bot s := by
  (refine xAEEA a fun t its e o z => ?_; clear a)
  have hsz : its.size ≤ sizeLine := le1000 (by rw [← Array.length_toList, ← z.length]; exact hl)
  refine wpAny_call_entry slot_list_append (Heap.IsList.typeIs (iEAAE _ o rfl e rfl)) entry_list_append ?_ (args_list_append _ _)
  show wpAny _ _ (updateSeq D (·.push v) >>= fun _ => ret .none) _ _ s
  refine wpAny_bind (wpAny_updateSeq o rfl (wpAny_pure (iEA .none rfl (k _ ?_ ?_ ?_ ⟨rfl, rfl⟩))) (hz := hsz))
  · exact R.but (Heap.SameBut.update ..) ⟨_, Heap.get?_update_self _ o rfl⟩ t
  · exact Grow.but (Heap.SameBut.update ..) ⟨_, Heap.get?_update_self _ o rfl⟩ t rfl
  · refine (iAEEA t (its.push v) _ (Heap.get?_update_self _ o rfl) ?_)
    have g : Grow (fun b => b = D) H.next W s.heap H.next W (s.heap.update D (Obj.mapSeq (·.push v))) := Grow.but (Heap.SameBut.update ..) ⟨_, Heap.get?_update_self _ o rfl⟩ t rfl
    rw [Array.toList_push]
    exact FzA.snoc (r.mono g.keeps1) (z.mono g.keeps1)

theorem Em.last {ds : List PyData} {Q : MH → List PyData → Prop} (h : E prog w h₀ d sc ρ elt H fun v H' => ∃ x, v = .d x ∧ ds.length ≤ 1000 ∧ Q H' (ds ++ [x])) (hg : gens[i + 1]? = none := by exact nn) :
    Em prog w h₀ d sc elt gens scope pos i ρ H ds Q := by
  intro A env s W D a F R acc nD k Z hk
  unfold innerTree
  rw [hg]
  refine wpAny_bind (wpAny_bind (useG (h A env s W a F R) fun v s' H' W' zz4 R' F' g m => xEA zz4 fun u zz5 rv => xEAA zz5 fun x e hl q => ?_))
  subst e
  have nl : ¬ XL env D := fun z => nD (.inl z)
  refine wpAny_bind (acc_append R' (acc.grow g nl) (of_d rv) hl fun s2 R2 g2 a2 m2 => wpAny_pure (hk _ ?_))
  exact (iEEEAAAAA H' W' _ q R2 ((g.weaken fun _ x => .inl x).trans (g2.weaken fun _ x => .inr x)) (F'.growX g2 (fun z => nD (.inl z.symm)) (fun y c hm z => nD (.inr ⟨y, z ▸ hm⟩))) a2 (m.trans m2))

theorem Lp.loop {target : Expr} {x : Str} {px : Pos} {iter : Expr} {ifs : List Expr} {items : List MV} {ds : List PyData} {Q : MH → List PyData → Prop} (J : Nat → MH → List PyData → Prop)
    (hg : gens[i]? = some ⟨.Name x px, iter, ifs, 0⟩)
    (turn : ∀ j m H ds, items[j]? = some m → J j H ds → Ifs prog w h₀ d sc ((x, m) :: ρ) ifs H fun b H' =>
      (b = false → J (j + 1) H' ds) ∧ (b = true → Em prog w h₀ d sc elt gens scope pos i ((x, m) :: ρ) H' ds fun H'' ds' => J (j + 1) H'' ds'))
    (j0 : J 0 H ds) (fin : ∀ H ds, J items.length H ds → Q H ds) (hx : ρ.lookup x = none := by exact nn)
    (hk : sc.names.lookup x = some .local := by exact tl) : Lp prog w h₀ d sc elt gens scope pos i items ρ H ds Q := by
  intro A env s W I fp wr P St D a F R acc nD nw wF T
  have less : ∀ {m : MV} (z : Str) (v : MV), ρ.lookup z = some v → ((x, m) :: ρ).lookup z = some v := fun {m} z v e => by
    rw [List.lookup_cons]
    cases q : z == x with
    | true => rw [beq_iff_eq] at q; subst q; rw [hx] at e; cases e
    | false => exact e
  have nL : env.locals ∉ wr := fun z => wF _ z (.inl rfl)
  have nC : ∀ z c, (z, c) ∈ env.cells → c ∉ wr := fun z c hm q => wF _ q (.inr ⟨z, hm⟩)
  let Y : Addr → Prop := fun b => (XL env b ∨ b = D) ∨ b ∈ wr
  let IV : Nat → Shared → Prop := fun n s' => ∃ j H' W' ds', n = items.length + 1 - j ∧ j ≤ items.length ∧ J j H' ds' ∧ St j s'.heap ∧ Rel w h₀ W' H' s'.heap ∧ Grow Y H.next W s.heap H'.next W' s'.heap ∧
    FrOk w sc ρ env H'.next W' s'.heap ∧ AccOk D ds' W' s'.heap ∧ Sim s s' ∧ ∀ b ∈ fp, W'.tau b = W.tau b
  refine codeAny_loop rfl IV ?_ (items.length + 1) (iEEEEAAAAAAAAA 0 H W ds rfl (Nat.zero_le _) j0 T.st0 R .refl F acc .refl (fun _ _ => rfl))
  (intro n s' yy3; (refine xEEEEAAAAAAAAA yy3 fun j H' W' ds' ee1 hj hJ st R' g' F' acc' m' tagw => ?_; clear yy3; subst ee1))
  have wrfr : ∀ b ∈ wr, W'.tau b = .frame := fun b hb => (tagw b (T.walk.sub b hb)).trans (T.wl b hb)
  have nwr : ∀ b, (W'.tau b = .frame → ¬ (b ∈ wr)) → b ∉ wr := fun b f q => f (wrfr b q) q
  show wpAny _ A ((compTurn (.ListComp elt gens scope pos) i (.ref I) (.ref D) env).onRaise (fun x => do noteFrame x env; theTreesLotGoes x)) _ _ s'
  refine wpAny_noted ?_
  rw [compTurn_at hg]
  refine wpAny_mono (E := Bot) ?_ (fun _ _ q => q) fun _ _ e => e.elim
  refine wpAny_bind (wpAny_standAt (wpAny_bind ?_))
  by_cases hlt : j < items.length
  · refine T.walk.item j s' _ _ hlt st fun v h₁ tk hP st₁ hk₁ => ?_
    have g3 : Grow (fun b => b ∈ wr) H'.next W' s'.heap H'.next W' h₁ := by
      refine ⟨Nat.le_refl _, fun _ _ _ e => e, fun b o e f => ⟨o, hk₁ b o (nwr b f) e⟩, fun _ _ _ _ => rfl, fun b o e t => hk₁ b o (fun q => ?_) e, fun b o e _ nx => hk₁ b o nx e⟩
      rw [wrfr b q] at t; cases t
    have R3 : Rel w h₀ W' H' h₁ := R'.grow g3 (fun b o l' e t => hk₁ b o (fun q => by rw [wrfr b q] at t; cases t) e) rfl fun b t => by
      refine xE (R'.new b t) fun o e => ?_
      by_cases q : b ∈ wr
      · exact T.stl _ _ st₁ b q
      · exact ⟨o, hk₁ b o q e⟩
    refine xEA (T.val j v hlt hP) fun mv em rm => ?_
    have F3 : FrOk w sc ρ env H'.next W' h₁ := F'.growX g3 nL nC
    have rm' : VR w H'.next W' h₁ mv v := (rm.grow g').grow g3
    have acc3 := acc'.grow g3 nw
    dsimp only
    refine wpAny_bind (wpAny_of_eq (show letOwnedTupleGo (.Name x px) (.ref I) v = pure () from rfl) ?_)
    refine wpAny_bind (wpAny_assign_Name (wpAny_mono (storeLocal_ (s := { s' with heap := h₁, toks := tk }) (Q := fun ρ4 H4 => ρ4 = (x, mv) :: ρ ∧ H4 = H') F3 R3 rm' ⟨rfl, rfl⟩ hk) (fun _ s4 zz6 => xEEEAAAA zz6 fun ρ4 H4 W4 zz7 R4 g4 F4 m4 => xA zz7 fun e4 e4' => ?_) fun _ _ e => e.elim))
    subst e4 e4'
    have acc4 := acc3.grow g4 fun z => nD (.inl z)
    refine wpAny_bind (useG (turn j mv _ ds' em hJ A env s4 W4 a F4 R4) fun ok s5 H5 W5 q5 R5 F5 g5 m5 => ?_)
    have acc5 := acc4.grow g5 fun z => nD (.inl z)
    have close : ∀ {H6 : MH} {W6 : Wd} {s6 : Shared} {ds6 : List PyData}, J (j + 1) H6 ds6 → Rel w h₀ W6 H6 s6.heap → Grow (fun b => XL env b ∨ b = D) H5.next W5 s5.heap H6.next W6 s6.heap → FrOk w sc ((x, mv) :: ρ) env H6.next W6 s6.heap →
        AccOk D ds6 W6 s6.heap → Sim s5 s6 → ∃ m, m < items.length + 1 - j ∧ IV m s6 := fun {H6 W6 s6 ds6} q6 R6 g6 F6 acc6 m6 => by
      have G45 : Grow (fun b => XL env b ∨ b = D) _ W' h₁ _ W6 s6.heap := ((g4.trans g5).weaken fun _ x => .inl x).trans g6
      have nX : ∀ b ∈ wr, ¬ (XL env b ∨ b = D) := fun b hb z => z.elim (fun q => wF b hb (.inl q)) fun e => nw (e ▸ hb)
      refine (iEAEEEEAAAAAAAAA (items.length + 1 - (j + 1)) (by lia) (j + 1) H6 W6 ds6 rfl hlt q6 ?_ R6 ((g'.trans (g3.weaken fun _ q => .inr q)).trans (G45.weaken fun _ q => .inl q)) (F6.less less) acc6 (
        Sim.trans (Sim.trans (Sim.trans m' (show Sim s' { s' with heap := h₁, toks := tk } from ⟨rfl, rfl⟩)) (m4.trans m5)) m6) (fun b hb => ?_))
      · refine T.walk.frame _ _ _ st₁ fun b hb o e => ?_
        rcases T.fr b hb with q | q
        · exact G45.keepL b o e (wrfr b q) (nX b q)
        · exact G45.keepF b o e ((tagw b hb).trans q)
      · rcases T.fr b hb with q | q
        · refine xE (T.stl _ _ st₁ b q) fun o e => ?_
          exact (G45.tag b o e fun _ => nX b q).trans (tagw b hb)
        · refine xE (T.live b hb) fun o e => ?_
          have fb : W'.tau b = .free := (tagw b hb).trans q
          have e' := hk₁ b o (fun z => by rw [wrfr b z] at fb; cases fb) (g'.keepF b o e q)
          exact (G45.tag b o e' fun t => by rw [fb] at t; cases t).trans (tagw b hb)
    cases ok with
    | false =>
      simp only [Bool.false_eq_true, if_false]
      exact wpAny_pure ⟨rfl, close (q5.1 rfl) R5 .refl F5 acc5 .refl⟩
    | true =>
      simp only [if_true]
      refine q5.2 rfl A env s5 W5 D a F5 R5 acc5 nD _ _ fun s6 zz8 => xEEEAAAAA zz8 fun H6 W6 ds6 q6 R6 g6 F6 acc6 m6 => wpAny_pure ⟨rfl, close q6 R6 g6 F6 acc6 m6⟩
  · obtain rfl : j = items.length := by lia
    refine T.walk.done s' _ _ st fun h₁ tk hk₁ => ?_
    have g : Grow (fun b => b ∈ wr) H'.next W' s'.heap H'.next ⟨W'.mu, fun b => if b ∈ wr then .free else W'.tau b⟩ h₁ := by
      refine ⟨Nat.le_refl _, fun _ _ _ e => e, fun b o e f => ⟨o, hk₁ b o (nwr b f) e⟩, fun b o e f => if_neg (nwr b f), fun b o e t => hk₁ b o (fun q => ?_) e, fun b o e _ nx => hk₁ b o nx e⟩
      rw [wrfr b q] at t; cases t
    have R2 : Rel w h₀ _ H' h₁ := R'.grow g (fun b o l' e t => hk₁ b o (fun q => by rw [wrfr b q] at t; cases t) e) rfl fun b t => by
      by_cases q : b ∈ wr
      · exact absurd (if_pos q) t
      · refine xE (R'.new b fun z => t ((if_neg q).trans z)) fun o e => ?_
        exact ⟨o, hk₁ b o q e⟩
    exact wpAny_pure (iAEEEAAAAA rfl H' _ ds' (fin _ _ hJ) R2 (g'.trans (g.weaken fun _ q => .inr q)) (F'.growX g nL nC) (acc'.grow g nw) (Sim.trans m' ⟨rfl, rfl⟩))

theorem codeAny_compStart_at {A : Around} {R : Result → Shared → Prop} {s : Shared} {env : Env} {target iter : Expr} {ifs : List Expr} {it acc : Value} (hg : gens[i]? = some ⟨target, iter, ifs, 0⟩)
    (h0 : codeAny (model prog w) A (.compLoop (.ListComp elt gens scope pos) i it acc env) R s)
    (h : wpAny (model prog w) A (pyIter it) (fun it' s' => codeAny (model prog w) A (.compLoop (.ListComp elt gens scope pos) i it' acc env) R s') (notedBy (model prog w) A env fun x s' => R (.error x) s') s) :
    codeAny (model prog w) A (.compStart (.ListComp elt gens scope pos) i it acc env) R s := by
  refine codeAny_of_tree ?_
  show wpAny _ A ((compStart (.ListComp elt gens scope pos) i it acc env).onRaise (fun x => do noteFrame x env; standAt theWindowsPlace)) _ _ s
  refine wpAny_notedAt ?_
  unfold compStart
  rw [show clausesOf (.ListComp elt gens scope pos) = gens from rfl, hg]
  show wpAny _ A (ask >>= _) _ _ s
  refine wpAny_bind (wpAny_askSetting (wpAny_ite ?_))
  split
  · first
      | exact wpAny_bind (wpAny_pure (wpAny_pure (And.intro rfl h0)))
      | exact wpAny_pure (And.intro rfl h0)
  · first
      | exact wpAny_bind (wpAny_rule (wpAny_bind (wpAny_standAt (wpAny_bind (wpAny_mono h (fun it' s' h' => wpAny_pure (And.intro rfl h')) fun _ _ x => x)))))
      | (refine wpAny_bind (wpAny_rule ?_); show wpAny _ _ (standAt iter.pos >>= _) _ _ s; exact wpAny_bind (wpAny_standAt (wpAny_bind (wpAny_mono h (fun it' s' h' => wpAny_pure (And.intro rfl h')) fun _ _ x => x))))

theorem Em.more {ds : List PyData} {Q : MH → List PyData → Prop} {target iter : Expr} {ifs : List Expr}
    (h : E prog w h₀ d sc ρ iter H fun v H' => ∃ items, Iter prog w h₀ d v items H' ∧ Lp prog w h₀ d sc elt gens scope pos (i + 1) items ρ H' ds Q) (hg : gens[i + 1]? = some ⟨target, iter, ifs, 0⟩ := by rfl)
    (hs : ∀ env x, foldedSetIterable iter env x = pure x := by intro _ _; rfl) : Em prog w h₀ d sc elt gens scope pos i ρ H ds Q := by
  intro A env s W D a F R acc nD k Z hk
  unfold innerTree
  rw [hg]
  refine wpAny_bind (useG (h A env s W a F R) fun x s1 H1 W1 zz9 R1 F1 g1 m1 => xEA zz9 fun v zz10 rv => xEA zz10 fun items it q => ?_)
  refine wpAny_bind (wpAny_standAt ?_)
  simp only [bne_self_eq_false, Bool.false_eq_true, if_false]
  refine wpAny_bind (wpAny_of_eq (hs env x) (wpAny_bind (wpAny_holding ?_)))
  have acc1 := acc.grow g1 fun z => nD (.inl z)
  refine wpAny_mono (it A s1 W1 x a R1 rv) (fun itv s2 zz11 => xEEEEEEAAAAA zz11 fun W2 Ia fp wr P St e R2 g2 m2 hnew T => ?_) fun _ _ e => e
  subst e
  have F2 := F1.grow g2
  have hwn : ∀ b o, s1.heap.get? b = some o → b ∉ wr := fun b o e q => by rw [hnew b q] at e; cases e
  have nFA : ∀ b ∈ wr, ¬ FA env b := fun b hb z => by
    rcases z with rfl | ⟨y, hy⟩
    · (refine xEA F1.ns fun m zz2 _ => ?_; obtain ⟨o, _, _, ho, _⟩ := zz2); exact hwn _ o ho hb
    · refine xAAEEA (F1.cels y b hy) fun _ _ v o ho _ => ?_; exact hwn _ o ho hb
  have nw : D ∉ wr := by (refine xAEEA acc1 fun _ _ _ o _ => ?_; clear acc1); exact hwn _ _ o
  have loop := q A env s2 W2 Ia fp wr P St D a F2 R2 (acc1.grow g2 fun z => z) nD nw nFA T
  have post : ∀ (r : Result) (s' : Shared), (r = .ok .next ∧ OutL w h₀ sc (fun b => (XL env b ∨ b = D) ∨ b ∈ wr) ρ env D H1 W2 s2 Q s') →
      (match r with | .ok f => wpAny (model prog w) A k Z Bot s' | .error e => cameBackBy (model prog w) A env Bot e s') := by
    (intro r s' yy6; (refine xAEEEAAAAA yy6 fun ee3 H3 W3 ds3 q3 R3 g3 F3 acc3 m3 => ?_; clear yy6; subst ee3))
    refine hk s' (iEEEAAAAA H3 W3 ds3 q3 R3 ?_ F3 acc3 ((m1.trans m2).trans m3))
    refine (g1.weaken fun _ x => .inl x).trans ?_
    have G : Grow (fun b => (XL env b ∨ b = D) ∨ b ∈ wr) H1.next W1 s1.heap H3.next W3 s'.heap := (g2.weaken fun _ x => x.elim).trans g3
    exact G.sub fun b o e q => q.elim id fun z => absurd z (hwn b o e)
  refine wpAny_bind (wpAny_runOwn ?_)
  exact codeAny_compStart_at hg (codeAny_mono loop fun r s' x => post r s' x) (T.walk.self 0 _ _ _ T.st0 (codeAny_mono loop fun r s' x => post r s' x))
end
end Mine
end L1kx

noncomputable section L1lx
open PySem PySem.W PySem.Calls PyProof.Rows
set_option Elab.async false
set_option linter.unusedVariables false
namespace Mine

/-- the free names of a comprehension's scope -/
noncomputable def fvs (l : List (Str × NameKind)) : List Str := match l with
  | [] => []
  | (n, k) :: r => if k = .free then n :: fvs r else fvs r
theorem closureFor_eq {env : Env} (f : Str → Addr) : ∀ (l : List (Str × NameKind)) (acc : List (Str × Addr)), (∀ x ∈ fvs l, env.cells.lookup x = some (f x)) →
    (forIn l acc fun (x : Str × NameKind) r => match x with
      | (name, kind) => if (kind == NameKind.free) = true then do let a ← cellOf env name; pure (ForInStep.yield ((name, a) :: r)) else pure (ForInStep.yield r) : Sem _) = pure (((fvs l).reverse.map fun x => (x, f x)) ++ acc)
  | [], acc, _ => rfl
  | (n, k) :: r, acc, h => by
    rw [List.forIn_cons]
    by_cases q : k = .free
    · subst q
      have hn : env.cells.lookup n = some (f n) := h n (by simp [fvs])
      have : cellOf env n = pure (f n) := by unfold cellOf; rw [hn]
      simp only [beq_self_eq_true, if_true, this, pure_bind]
      rw [closureFor_eq f r _ fun x hx => h x (by simp [fvs, hx])]
      simp [fvs]
    · have : (k == NameKind.free) = false := by simpa using q
      simp only [this, Bool.false_eq_true, if_false, pure_bind]
      rw [closureFor_eq f r _ fun x hx => h x (by simp [fvs, q, hx])]
      simp [fvs, q]
theorem closureFor_is {env : Env} {scope : Scope} (f : Str → Addr) (h : ∀ x ∈ fvs scope.names, env.cells.lookup x = some (f x)) : closureFor scope env = pure ((fvs scope.names).reverse.map fun x => (x, f x)) := by
  have := closureFor_eq (env := env) f scope.names [] h
  rw [List.append_nil] at this
  rw [← this]
  unfold closureFor
  show _ >>= pure = _
  rw [bind_pure]
theorem lookup_mapc {f : Str → Addr} {x : Str} : ∀ {l : List Str}, x ∈ l → (l.map fun x => (x, f x)).lookup x = some (f x)
  | y :: r, h => by
    rw [List.map_cons, List.lookup_cons]
    cases q : x == y with
    | true => rw [beq_iff_eq] at q; subst q; rfl
    | false =>
      rcases List.mem_cons.mp h with e | e
      · rw [e] at q; simp at q
      · exact lookup_mapc e
theorem relS_cell {sc : Scope} {x : Str} : ∀ {l : List (Str × NameKind)}, (∀ y ∈ l, y.2 ≠ .cell) →
    (l.map fun (n, k) => if (k == NameKind.free && sc.kind == .function && sc.names.lookup n == some .cell) then (n, NameKind.cell) else (n, k)).lookup x = some .cell → x ∈ fvs l
  | [], _, h => by simp at h
  | (n, k) :: r, hc, h => by
    have ih := @relS_cell sc x r fun y hy => hc y (.tail _ hy)
    have hk : k ≠ .cell := hc (n, k) (.head _)
    have h : List.lookup x ((if (k == NameKind.free && sc.kind == .function && sc.names.lookup n == some .cell) = true then (n, NameKind.cell) else (n, k)) :: _) = _ := h
    have tl : x ∈ fvs r → x ∈ fvs ((n, k) :: r) := fun z => by
      unfold fvs
      split
      · exact .tail _ z
      · exact z
    by_cases q : (k == NameKind.free && sc.kind == .function && sc.names.lookup n == some .cell) = true
    · have kf : k = .free := by simp only [Bool.and_eq_true, beq_iff_eq] at q; exact q.1.1
      rw [if_pos q, List.lookup_cons] at h
      cases hx : x == n with
      | true => rw [beq_iff_eq] at hx; subst hx; simp [fvs, kf]
      | false => rw [hx] at h; exact tl (ih h)
    · rw [if_neg q, List.lookup_cons] at h
      cases hx : x == n with
      | true => rw [hx] at h; exact absurd (Option.some.inj h) hk
      | false => rw [hx] at h; exact tl (ih h)
noncomputable def subR (l : List Str) (ρ : List (Str × MV)) : List (Str × MV) := match l with
  | [] => []
  | x :: r => match ρ.lookup x with | some v => (x, v) :: subR r ρ | none => subR r ρ
set_option tactic.hygienic true in
theorem subR_lookup {ρ : List (Str × MV)} {x : Str} {v : MV} : ∀ {l : List Str}, (subR l ρ).lookup x = some v → x ∈ l ∧ ρ.lookup x = some v
  | [], h => by cases h
  | y :: r, h => by
    unfold subR at h
    split at h
    · rename_i u e
      rw [List.lookup_cons] at h
      cases q : x == y with
      | true => rw [q] at h; rw [beq_iff_eq] at q; subst q; cases h; exact ⟨.head _, e⟩
      | false => rw [q] at h; exact (subR_lookup h).imp (.tail _) id
    · exact (subR_lookup h).imp (.tail _) id

/-- what must be so of a comprehension's scope -/
noncomputable def compOk (scope sc : Scope) : Bool :=
  scope.kind == .function && scope.names.all (fun y => y.2 != .cell) && scope.names.all (fun y => y.2 != .local || scope.names.lookup y.1 == some .local) &&
    (fvs scope.names).all (fun x => sc.names.lookup x == some .cell && (relS scope sc).names.lookup x != some .local) && decide (fvs scope.names).Nodup

section
variable {prog : Program} {w : World} {h₀ : Heap} {d : Nat} {sc : Scope} {ρ : List (Str × MV)} {H : MH} {pos : Pos} {elt iter : Expr} {scope : Scope} {x : Str} {px : Pos} {ifs : List Expr} {rest : List Comprehension} {p0 : Pos}

/-- a frame's object that nobody needs more -/
noncomputable def Wd.drop (W : Wd) (C : Addr) : Wd := ⟨W.mu, fun b => if b = C then .free else W.tau b⟩
theorem Grow.drop {n : Nat} {W : Wd} {h h' : Heap} {C : Addr} (hs : Heap.SameBut C h h') (t : W.tau C = .frame) : Grow (fun b => b = C) n W h n (W.drop C) h' := by
  have nC : ∀ b, (W.tau b = .frame → ¬ b = C) → b ≠ C := fun b f q => f (q ▸ t) q
  refine ⟨Nat.le_refl _, fun _ _ _ e => e, fun b o e f => ⟨o, (hs.2 b (nC b f)).trans e⟩, fun b o e f => if_neg (nC b f), fun b o e t' => (hs.2 b (fun q => ?_)).trans e, fun b o e _ nx => (hs.2 b nx).trans e⟩
  subst q; rw [t] at t'; cases t'
theorem Rel.drop {W : Wd} {h h' : Heap} {C : Addr} (R : Rel w h₀ W H h) (hs : Heap.SameBut C h h') (t : W.tau C = .frame) : Rel w h₀ (W.drop C) H h' :=
  R.grow (Grow.drop hs t) (fun b o l' e q => (hs.2 b (by (intro yy1; subst yy1); rw [t] at q; cases q)).trans e) rfl fun b tb => by
    by_cases q : b = C
    · exact absurd (if_pos q) tb
    · refine xE (R.new b fun z => tb ((if_neg q).trans z)) fun o e => ?_
      exact ⟨o, (hs.2 b q).trans e⟩

theorem IterOf.grow {A : Around} {W W' : Wd} {n n' : Nat} {h h' : Heap} {items : List MV} {I : Addr} {fp wr : List Addr} {P : Nat → Value → Prop} {St : Nat → Heap → Prop} (T : IterOf prog w A W n h items I fp wr P St) (g : Grow NoX n W h n' W' h') :
    IterOf prog w A W' n' h' items I fp wr P St where
  walk := T.walk
  st0 := T.walk.frame _ _ _ T.st0 fun b hb o e => by
    rcases T.fr b hb with q | q
    · exact g.keepL b o e (T.wl b q) id
    · exact g.keepF b o e q
  fr := fun b hb => (T.fr b hb).imp id fun q => by refine xE (T.live b hb) fun o e => ?_; exact (g.tag b o e fun _ => id).trans q
  wl := fun b hb => by refine xE (T.live b (T.walk.sub b hb)) fun o e => ?_; exact (g.tag b o e fun _ => id).trans (T.wl b hb)
  live := fun b hb => by refine xE (T.live b hb) fun o e => ?_; exact g.live b o e fun _ => id
  stl := T.stl
  val := fun i v hi hp => by refine xEA (T.val i v hi hp) fun m e r => ?_; exact (iEA m e (r.grow g))

theorem comp_run {use : Option (Value → Sem Unit)} {env : Env} {A : Around} {s : Shared} {W : Wd} {Q : MH → List PyData → Prop} {Z : Value → Shared → Prop} (a : AOk d A) (F : FrOk w sc ρ env H.next W s.heap) (R : Rel w h₀ W H s.heap)
    (h : E prog w h₀ d sc ρ iter H fun v H' => ∃ items, Iter prog w h₀ d v items H' ∧
      Lp prog w h₀ d (relS scope sc) elt (⟨.Name x px, iter, ifs, 0⟩ :: rest) scope pos 0 items (subR (fvs scope.names) ρ) H' [] Q)
    (ok : compOk scope sc = true) (hs : ∀ x, foldedSetIterable iter env x = pure x)
    (k : ∀ s' H' W' ds D C, Q H' ds → Rel w h₀ W' H' s'.heap → Grow (XL env) H.next W s.heap H'.next W' s'.heap → FrOk w sc ρ env H'.next W' s'.heap → Sim s s' → VR w H'.next W' s'.heap (.d (.list ds)) (.ref D) →
      (∃ m, s'.heap.Ns C m) → W'.tau C = .frame → s.heap.get? C = none → ¬ FA env C → compPost (model prog w) A Bot use Z (.ref D) C (.ok .next) s') :
    wpAny (model prog w) A (comprehension (.ListComp elt (⟨.Name x px, iter, ifs, 0⟩ :: rest) scope pos) scope env p0 (newList []) false (eval iter env) use) Z Bot s := by
  simp only [compOk, Bool.and_eq_true, List.all_eq_true, bne_iff_ne, beq_iff_eq, Bool.or_eq_true, decide_eq_true_eq] at ok
  (refine xA ok fun zz1 ok5 => ?_; clear ok; obtain ⟨⟨⟨ok1, ok2⟩, ok3⟩, ok4⟩ := zz1)
  let f : Str → Addr := fun x => (env.cells.lookup x).getD 0
  have hf : ∀ x ∈ fvs scope.names, env.cells.lookup x = some (f x) := fun x hx => by
    refine xE (F.named x (ok4 x hx).1) fun c hc => ?_
    rw [hc]; show some c = some ((env.cells.lookup x).getD 0); rw [hc]; rfl
  refine wpAny_comprehension_free (use := use) rfl hs (closureFor_is f hf) ok1 (fun y hy hl => (ok3 y hy).resolve_left (fun z => z hl)) ?_
  refine useG (h A env s W a F R) fun xv s1 H1 W1 zz5 R1 F1 g1 m1 => xEA zz5 fun v zz6 rv => xEA zz6 fun items it q => ?_
  refine wpAny_mono (it A s1 W1 xv a R1 rv) (fun itv s2 zz7 => xEEEEEEAAAAA zz7 fun W2 Ia fp wr P St e R2 g2 m2 hnew T => ?_) fun _ _ e => e
  subst e
  have F2 := F1.grow g2
  refine wpAny_newObj_type (wpAny_newFunctionEnv (fun y hy => ok2 y hy) (by intro y hy; simp at hy) (fun h₁ hns₁ hsb₁ => ?_) ok1)
  dsimp only at hns₁ hsb₁ ⊢
  generalize hH : s2.heap.push { cls := .type "list", dict := none, data := .seq ([] : List Value).toArray } = hp at hns₁ hsb₁ ⊢
  have hC : hp.objs.size = s2.heap.objs.size + 1 := by rw [← hH, Heap.size_push]
  have hDg : hp.get? s2.heap.objs.size = some (listOf #[] 0) := hH ▸ Heap.get?_push_size _ rfl
  have hpk : ∀ b o, s2.heap.get? b = some o → hp.get? b = some o := fun b o e => hH ▸ push_keep _ _ b o e
  generalize hD : s2.heap.objs.size = D at hC hDg
  generalize hp.objs.size = C at hns₁ hsb₁ hC ⊢
  have hDC : D ≠ C := by lia
  have below : ∀ b o, s2.heap.get? b = some o → b ≠ C ∧ b ≠ D := fun b o e => by have := Heap.lt_size e; rw [hD] at this; exact ⟨Nat.ne_of_lt (hC ▸ Nat.lt_succ_of_lt this), Nat.ne_of_lt this⟩
  have k2 : ∀ b o, s2.heap.get? b = some o → h₁.get? b = some o := fun b o e => (hsb₁.2 b (below b o e).1).trans (push_keep _ _ b o (hpk b o e))
  let W3 : Wd := ⟨W2.mu, fun b => if b = C ∨ b = D then .frame else W2.tau b⟩
  have t3 : ∀ b o, s2.heap.get? b = some o → W3.tau b = W2.tau b := fun b o e => if_neg (not_or.mpr (below b o e))
  have tC : W3.tau C = .frame := if_pos (.inl rfl)
  have tD : W3.tau D = .frame := if_pos (.inr rfl)
  have g3 : Grow NoX H1.next W2 s2.heap H1.next W3 h₁ := ⟨Nat.le_refl _, fun _ _ _ e => e, fun b o e _ => ⟨o, k2 b o e⟩, fun b o e _ => t3 b o e, fun b o e _ => k2 b o e, fun b o e _ _ => k2 b o e⟩
  have hDl : h₁.get? D = some (listOf #[] 0) := (hsb₁.2 D hDC).trans (push_keep _ _ D _ hDg)
  have R3 : Rel w h₀ W3 H1 h₁ := R2.grow g3 (fun b o l' e _ => k2 b o e) rfl fun b tb => by
    by_cases q : b = C
    · subst q; (refine xEEEA hns₁ fun o _ _ ho _ => ?_; clear hns₁); exact ⟨o, ho⟩
    · by_cases q' : b = D
      · subst q'; exact ⟨_, hDl⟩
      · refine xE (R2.new b (by rwa [show W3.tau b = W2.tau b from if_neg (not_or.mpr ⟨q, q'⟩)] at tb)) fun o e => ?_
        exact ⟨o, k2 b o e⟩
  have cl : ∀ {z c}, (z, c) ∈ (fvs scope.names).reverse.map (fun x => (x, f x)) → z ∈ fvs scope.names ∧ c = f z ∧ (z, c) ∈ env.cells := fun {z c} hm => by
    refine xEA (List.mem_map.mp hm) fun y hy e => ?_
    cases e
    have hy' := List.mem_reverse.mp hy
    exact (iAA hy' rfl (mem_of_lookup (hf _ hy')))
  have cll : ∀ {z}, z ∈ fvs scope.names → ((fvs scope.names).reverse.map fun x => (x, f x)).lookup z = some (f z) := fun hz => lookup_mapc (List.mem_reverse.mpr hz)
  have cin : ∀ {z c}, (z, c) ∈ env.cells → W3.tau c = .frame ∧ c ≠ C ∧ c ≠ D ∧ ∀ v, s2.heap.IsCell c v → h₁.IsCell c v := fun {z c} hm => by
    refine xAAEEA (F2.cels z c hm) fun t _ v o ho hd => ?_
    exact (iAAA ((t3 c o ho).trans t) ((below c o ho).1) ((below c o ho).2) (fun v zz8 => xEA zz8 fun o' ho' hd' => (iEA o' (k2 c o' ho') hd')))
  let cenv : Env := compEnvC scope ((fvs scope.names).reverse.map fun x => (x, f x)) C env
  have Fc : FrOk w (relS scope sc) (subR (fvs scope.names) ρ) cenv H1.next W3 h₁ := by
    refine ⟨relabel_eq F.scope, ok1, F.glob, F.blt, tC, (iEA _ hns₁ (fun y u e t => ?_)), fun y u e t => ?_, fun y c hm => ?_, ?_, fun y hy => ?_⟩
    · exact absurd t (ok4 y (subR_lookup e).1).2
    · refine xA (subR_lookup e) fun y1 y2 => ?_
      refine xEEAA (F2.cel y u y2 (.inl (ok4 y y1).1)) fun c xv e1 e2 e3 => ?_
      have : c = f y := by have := (hf y y1).symm.trans e1; exact (Option.some.inj this).symm
      subst this
      exact (iEEAA (f y) xv (cll y1) ((cin (mem_of_lookup e1)).2.2.2 _ e2) (e3.grow g3))
    · refine xAA (cl hm) fun _ _ hm' => ?_
      refine xAAE (F2.cels y c hm') fun _ _ v hv => ?_
      exact (iAAE ((cin hm').1) ((cin hm').2.1) v ((cin hm').2.2.2 _ hv))
    · refine List.pairwise_map.mpr ((List.pairwise_reverse.mpr (ok5.imp_of_mem fun {a b} ha hb ne => ?_)))
      intro e
      exact ne (name_of_addr F.apart (mem_of_lookup (hf _ ha)) (show (b, f a) ∈ env.cells from (show f b = f a from e) ▸ mem_of_lookup (hf _ hb)))
    · exact ⟨_, cll (relS_cell (fun z hz => ok2 z hz) hy)⟩
  have acc3 : AccOk D [] W3 h₁ := (iAEEA tD (#[]) 0 hDl (by simp [FzA]))
  have nD : ¬ FA cenv D := fun z => by
    rcases z with z | ⟨y, hy⟩
    · exact hDC z
    · exact (cin (cl hy).2.2).2.2.1 rfl
  have wlive : ∀ b ∈ wr, ∃ o, s2.heap.get? b = some o := fun b hb => T.live b (T.walk.sub b hb)
  have nw : D ∉ wr := fun z => by refine xE (wlive D z) fun o e => ?_; exact (below D o e).2 rfl
  have hwn : ∀ b o, s1.heap.get? b = some o → b ∉ wr := fun b o e q => by rw [hnew b q] at e; cases e
  have nFA : ∀ b ∈ wr, ¬ FA cenv b := fun b hb z => by
    rcases z with z | ⟨y, hy⟩
    · refine xE (wlive b hb) fun o e => ?_; exact (below b o e).1 z
    · refine xAAEEA (F1.cels y b (cl hy).2.2) fun _ _ v o ho _ => ?_; exact hwn _ o ho hb
  have T3 : IterOf prog w A W3 H1.next h₁ items Ia fp wr P St := T.grow g3
  have loop := q A cenv { s2 with heap := h₁, toks := s2.toks + ([] : List (Str × Value)).length } W3 Ia fp wr P St D a Fc R3 acc3 nD nw nFA T3
  have post : ∀ (r : Result) (s' : Shared), (r = .ok .next ∧ OutL w h₀ (relS scope sc) (fun b => (XL cenv b ∨ b = D) ∨ b ∈ wr) (subR (fvs scope.names) ρ) cenv D H1 W3 { s2 with heap := h₁, toks := s2.toks + ([] : List (Str × Value)).length } Q s') →
      compPost (model prog w) A Bot use Z (.ref D) C r s' := by
    (intro r s' yy4; (refine xAEEEAAAAA yy4 fun ee2 H4 W4 ds q4 R4 g4 F4 zz3 m4 => ?_; clear yy4; subst ee2; obtain ⟨t4, its, e, o4, z4⟩ := zz3))
    have gd : Grow (fun b => b = D) H4.next W4 s'.heap H4.next (W4.drop D) s'.heap := Grow.drop (.refl _ _) t4
    have G : Grow (fun b => ((XL cenv b ∨ b = D) ∨ b ∈ wr)) H1.next W1 s1.heap H4.next (W4.drop D) s'.heap :=
      ((g2.trans g3).weaken fun _ x => x.elim).trans (g4.trans (gd.weaken fun _ x => .inl (.inr x)))
    have G0 : Grow NoX H1.next W1 s1.heap H4.next (W4.drop D) s'.heap := G.sub fun b o e x => by
      refine xE (g2.live b o e fun _ => id) fun o' e' => ?_
      rcases x with (x | x) | x
      · exact (below b o' e').1 x
      · exact (below b o' e').2 x
      · exact hwn b o e x
    have fC : ¬ FA env C := fun z => by
      rcases z with z | ⟨y, hy⟩
      · (refine xEA F2.ns fun m zz4 _ => ?_; obtain ⟨o, _, _, ho, _⟩ := zz4); exact (below _ o ho).1 z.symm
      · exact (cin hy).2.1 rfl
    refine k s' H4 (W4.drop D) ds D C q4 (R4.drop (.refl _ _) t4) (g1.trans (G0.weaken fun _ x => x.elim)) (F1.grow G0) ((m1.trans m2).trans (Sim.trans (show Sim s2 { s2 with heap := h₁, toks := s2.toks + ([] : List (Str × Value)).length } from ⟨rfl, rfl⟩) m4)) ?_ ?_ ?_ ?_ fC
    · exact to_d (by rw [Fz]; exact (iEEEAAA D its e rfl (if_pos rfl) o4 (z4.mono gd.keeps1)))
    · refine xEA F4.ns fun m hm _ => ?_; exact ⟨m, hm⟩
    · exact (if_neg (Ne.symm hDC)).trans F4.loc
    · cases e : s.heap.get? C with
      | none => rfl
      | some o =>
        refine xE (g1.live C o e fun _ x => fC (.inl x)) fun o1 e1 => ?_
        refine xE (g2.live C o1 e1 fun _ => id) fun o2 e2 => ?_
        exact absurd rfl (below C o2 e2).1
  exact codeAny_compStart_at (gens := ⟨.Name x px, iter, ifs, 0⟩ :: rest) (i := 0) rfl (codeAny_mono loop fun r s' x => post r s' x) (T.walk.self 0 _ _ _ T3.st0 (codeAny_mono loop fun r s' x => post r s' x))

variable {Q : MV → MH → Prop}
theorem E.comp (h : E prog w h₀ d sc ρ iter H fun v H' => ∃ items, Iter prog w h₀ d v items H' ∧
      Lp prog w h₀ d (relS scope sc) elt (⟨.Name x px, iter, ifs, 0⟩ :: rest) scope pos 0 items (subR (fvs scope.names) ρ) H' [] fun H'' ds => Q (.d (.list ds)) H'')
    (ok : compOk scope sc = true := by exact tt) (hs : ∀ env x, foldedSetIterable iter env x = pure x := by intro _ _; rfl) : E prog w h₀ d sc ρ (.ListComp elt (⟨.Name x px, iter, ifs, 0⟩ :: rest) scope pos) H Q := by
  intro A env s W a F R
  rw [eval_ListComp]
  refine comp_run a F R h ok (hs env) fun s' H' W' ds D C q R' g F' m rv zz9 tC nC fC => xE zz9 fun mm hn => (iEA mm hn (fun h' hs' => ?_))
  have gd : Grow (fun b => b = C) H'.next W' s'.heap H'.next (W'.drop C) h' := Grow.drop hs' tC
  refine ⟨H', W'.drop C, (iEA _ q (rv.grow gd)), R'.drop hs' tC, ?_, F'.growX gd (fun z => fC (.inl z.symm)) (fun y c hy z => fC (.inr ⟨y, z ▸ hy⟩)), Sim.trans m ⟨rfl, rfl⟩⟩
  have G : Grow (fun b => XL env b ∨ b = C) H.next W s.heap H'.next (W'.drop C) h' := (g.weaken fun _ x => .inl x).trans (gd.weaken fun _ x => .inr x)
  exact G.sub fun b o e x => x.elim id fun z => by rw [z, nC] at e; cases e

/-- a local name that takes a comprehension -/
theorem S.asgComp {y : Str} {py spos : Pos} {Q : Fl → List (Str × MV) → MH → Prop} (h : E prog w h₀ d sc ρ iter H fun v H' => ∃ items, Iter prog w h₀ d v items H' ∧
      Lp prog w h₀ d (relS scope sc) elt (⟨.Name x px, iter, ifs, 0⟩ :: rest) scope pos 0 items (subR (fvs scope.names) ρ) H' [] fun H'' ds => Q .next ((y, .d (.list ds)) :: ρ) H'')
    (ok : compOk scope sc = true := by exact tt) (hs : ∀ env x, foldedSetIterable iter env x = pure x := by intro _ _; rfl)
    (hy : sc.names.lookup y = some .local := by exact tl)
    (hsw : ∀ env, env.scope = sc → swapsWith (.ListComp elt (⟨.Name x px, iter, ifs, 0⟩ :: rest) scope pos) (some (.Name y py)) spos.line env = pure true := by intro env e; first | rfl | (cases env; simp only at e; subst e; rfl)) :
    S prog w h₀ d sc ρ (.Assign [.Name y py] (.ListComp elt (⟨.Name x px, iter, ifs, 0⟩ :: rest) scope pos) spos) H Q := by
  intro A env s W a F R
  rw [exec_Assign_Name_used _ _ _ _ (hsw env F.scope)]
  refine wpAny_bind (wpAny_standAt (wpAny_bind ?_))
  show wpAny _ A (do let _ ← comprehension (.ListComp elt (⟨.Name x px, iter, ifs, 0⟩ :: rest) scope pos) scope env _ (newList []) false (eval iter env) (some (assign (.Name y py) env))) _ _ s
  refine wpAny_bind (wpAny_mono (comp_run (use := some (assign (.Name y py) env)) (Z := fun _ s' => OutS w h₀ sc env H W s Q .next s') a F R h ok (hs env) ?_) (fun _ s' hq => wpAny_pure (wpAny_pure hq)) fun _ _ e => e)
  intro s' H' W' ds D C q R' g F' m rv ⟨mm, hn⟩ tC nC fC
  show wpAny _ A (assign (.Name y py) env (.ref D)) _ _ _
  refine wpAny_assign_Name (wpAny_mono (storeLocal_ (Q := fun ρ4 H4 => ρ4 = (y, .d (.list ds)) :: ρ ∧ H4 = H') F' R' rv ⟨rfl, rfl⟩ hy) (fun _ s4 zz10 => xEEEAAAA zz10 fun ρ4 H4 W4 zz11 R4 g4 F4 m4 => xA zz11 fun e4 e4' => ?_) fun _ _ e => e)
  subst e4 e4'
  (refine xEEEA hn fun oC es ep hoC rC => ?_; clear hn)
  have nCL : ¬ XL env C := fun z => fC (.inl z)
  refine (iEA mm ((iEEEA oC es ep (g4.keepL _ _ hoC tC nCL) rC)) (fun h' hs' => ?_))
  have tC4 : W4.tau C = .frame := (g4.tag _ _ hoC fun _ => nCL).trans tC
  have gd : Grow (fun b => b = C) H4.next W4 s4.heap H4.next (W4.drop C) h' := Grow.drop hs' tC4
  refine ⟨.next, _, H4, W4.drop C, q, rfl, R4.drop hs' tC4, ?_, F4.growX gd (fun z => fC (.inl z.symm)) (fun y c hy z => fC (.inr ⟨y, z ▸ hy⟩)), Sim.trans (m.trans m4) ⟨rfl, rfl⟩⟩
  have G : Grow (fun b => FA env b ∨ b = C) H.next W s.heap H4.next (W4.drop C) h' := ((g.trans g4).weaken fun _ x => .inl (.inl x)).trans (gd.weaken fun _ x => .inr x)
  exact G.sub fun b o e x => x.elim id fun z => by rw [z, nC] at e; cases e
end
end Mine
end L1lx

noncomputable section L1mx
open PySem PySem.W PySem.Calls PyProof.Rows
set_option Elab.async false
set_option linter.unusedVariables false
namespace Mine

section
variable {prog : Program} {w : World} {h₀ : Heap} {d : Nat} {sc : Scope} {ρ : List (Str × MV)} {H : MH} {Q : MV → MH → Prop} {pos : Pos} {a b : Int}

theorem op2i {f : Value → Value → Sem Value} {r : Int} (q : Q (.d (.int r)) H)
    (hf : ∀ (A : Around) (s : Shared) (t u : Tok) (Z : Value → Shared → Prop), AOk d A → Z (.int r s.toks) { s with toks := s.toks + 1 } → wpAny (model prog w) A (f (.int a t) (.int b u)) Z Bot s) : Op2 prog w h₀ d f (.d (.int a)) (.d (.int b)) H Q := by
  intro A s W x y ao R rx ry
  (refine xE (of_int rx) fun t ee1 => ?_; subst ee1)
  (refine xE (of_int ry) fun u ee2 => ?_; subst ee2)
  exact hf A s t u _ ao (.toks R rfl ⟨rfl, rfl⟩ (iEA _ q vr_int))
theorem op2b {f : Value → Value → Sem Value} {r : Bool} (q : Q (.d (.bool r)) H)
    (hf : ∀ (A : Around) (s : Shared) (t u : Tok) (Z : Value → Shared → Prop), AOk d A → Z (.bool r) s → wpAny (model prog w) A (f (.int a t) (.int b u)) Z Bot s) : Op2 prog w h₀ d f (.d (.int a)) (.d (.int b)) H Q := by
  intro A s W x y ao R rx ry
  (refine xE (of_int rx) fun t ee3 => ?_; subst ee3)
  (refine xE (of_int ry) fun u ee4 => ?_; subst ee4)
  exact hf A s t u _ ao (.toks R rfl ⟨rfl, rfl⟩ (iEA _ q vr_bool))
theorem Op2.add (q : Q (.d (.int (a + b))) H) : Op2 prog w h₀ d (binaryOp .Add) (.d (.int a)) (.d (.int b)) H Q := op2i q fun _ _ _ _ _ _ h => P.add_int h
theorem Op2.subt (q : Q (.d (.int (a - b))) H) : Op2 prog w h₀ d (binaryOp .Sub) (.d (.int a)) (.d (.int b)) H Q := op2i q fun _ _ _ _ _ _ h => P.sub_int h
theorem Op2.mul (q : Q (.d (.int (a * b))) H) (hm : IntMulOk a b) : Op2 prog w h₀ d (binaryOp .Mult) (.d (.int a)) (.d (.int b)) H Q := op2i q fun _ _ _ _ _ _ h => P.mul_int h hm
theorem Op2.mod (hb : b ≠ 0) (q : Q (.d (.int (a.fmod b))) H) : Op2 prog w h₀ d (binaryOp .Mod) (.d (.int a)) (.d (.int b)) H Q := op2i q fun _ _ _ _ _ _ h => mod_int hb h
theorem Op2.div (hb : b ≠ 0) (hp : Builtin.divisionGoesByPylong a b = false) (q : Q (.d (.int (a.fdiv b))) H) : Op2 prog w h₀ d (binaryOp .FloorDiv) (.d (.int a)) (.d (.int b)) H Q := op2i q fun _ _ _ _ _ _ h => floordiv_int hb h (.inl hp)
theorem Op2.shr (hb : 0 ≤ b) (q : Q (.d (.int (a.fdiv (2 ^ b.toNat)))) H) : Op2 prog w h₀ d (binaryOp .RShift) (.d (.int a)) (.d (.int b)) H Q := op2i q fun _ _ _ _ _ _ h => rshift_int hb h
theorem Op2.band (q : Q (.d (.int (Builtin.bitAnd a b))) H) : Op2 prog w h₀ d (binaryOp .BitAnd) (.d (.int a)) (.d (.int b)) H Q := op2i q fun _ _ _ _ _ _ h => and_int h
theorem Op2.lt (q : Q (.d (.bool (decide (a < b)))) H) : Op2 prog w h₀ d (compareOp .Lt) (.d (.int a)) (.d (.int b)) H Q := op2b q fun _ _ _ _ _ _ h => P.lt_int h
theorem Op2.le (q : Q (.d (.bool (decide (a ≤ b)))) H) : Op2 prog w h₀ d (compareOp .LtE) (.d (.int a)) (.d (.int b)) H Q := op2b q fun _ _ _ _ _ _ h => P.le_int h
theorem Op2.gt (q : Q (.d (.bool (decide (a > b)))) H) : Op2 prog w h₀ d (compareOp .Gt) (.d (.int a)) (.d (.int b)) H Q := op2b q fun _ _ _ _ _ _ h => P.gt_int h
theorem Op2.eqI (q : Q (.d (.bool (a == b))) H) : Op2 prog w h₀ d (compareOp .Eq) (.d (.int a)) (.d (.int b)) H Q := op2b q fun _ _ _ _ _ _ h => P.eq_int h
theorem Op2.neI (q : Q (.d (.bool (a != b))) H) : Op2 prog w h₀ d (compareOp .NotEq) (.d (.int a)) (.d (.int b)) H Q := op2b q fun _ _ _ _ _ _ h => P.ne_int h
theorem Op1.neg (q : Q (.d (.int (-a))) H) : Op1 prog w h₀ d (unaryOp .USub) (.d (.int a)) H Q := by
  intro A s W x ao R rx
  (refine xE (of_int rx) fun t ee5 => ?_; subst ee5)
  exact P.neg_int (.toks R rfl ⟨rfl, rfl⟩ (iEA _ q vr_int))
noncomputable def bi (b : Bool) : Int := if b then 1 else 0
theorem Op2.subB {p r : Bool} (q : Q (.d (.int (bi p - bi r))) H) : Op2 prog w h₀ d (binaryOp .Sub) (.d (.bool p)) (.d (.bool r)) H Q := by
  intro A s W x y ao R rx ry
  obtain rfl := of_bool rx
  obtain rfl := of_bool ry
  refine sub_bool ?_
  have e : PyProof.Rows.b2i p - PyProof.Rows.b2i r = bi p - bi r := by cases p <;> cases r <;> rfl
  rw [e]
  exact .toks R rfl ⟨rfl, rfl⟩ (iEA _ q vr_int)

/-- equality of data -/
theorem Op2.eq {x y : PyData} (hx : SeqAt.shaped x = true) (hy : SeqAt.shaped y = true) (q : Q (.d (.bool (PyData.eqv x y))) H) : Op2 prog w h₀ d (compareOp .Eq) (.d x) (.d y) H Q := by
  intro A s W u v ao R ru rv
  refine xE ((of_d ru).reads) fun as ra => ?_
  refine xE ((of_d rv).reads) fun bs rb => ?_
  exact SeqAt.compareEq_shaped ra rb hx hy ao.room64 (.toks R rfl ⟨rfl, rfl⟩ (iEA _ q vr_bool))
theorem Op2.ne {x y : PyData} (hx : SeqAt.shaped x = true) (hy : SeqAt.shaped y = true) (q : Q (.d (.bool (!PyData.eqv x y))) H) : Op2 prog w h₀ d (compareOp .NotEq) (.d x) (.d y) H Q := by
  intro A s W u v ao R ru rv
  refine xE ((of_d ru).reads) fun as ra => ?_
  refine xE ((of_d rv).reads) fun bs rb => ?_
  exact SeqAt.compareNe_shaped ra rb hx hy ao.room64 (.toks R rfl ⟨rfl, rfl⟩ (iEA _ q vr_bool))
theorem room65 {A : Around} (ao : AOk d A) : A.units + 65 < cLine := by have := ao.units; unfold cLine; lia
theorem canAll {xs : List PyData} (h : SeqAt.shaped (.list xs) = true) : PyData.canLayAll0 xs = true := by
  have := SeqAt.canLay_of_shaped h; rwa [PyData.canLay0] at this
theorem canAllT {xs : List PyData} (h : SeqAt.shaped (.tuple xs) = true) : PyData.canLayAll0 xs = true := by
  have := SeqAt.canLay_of_shaped h; rwa [PyData.canLay0] at this
theorem Op2.inL {x : PyData} {ys : List PyData} (hx : SeqAt.shaped x = true) (hy : SeqAt.shaped (.list ys) = true) (q : Q (.d (.bool (ys.any fun y => PyData.eqv y x))) H) : Op2 prog w h₀ d (compareOp .In) (.d x) (.d (.list ys)) H Q := by
  intro A s W u v ao R ru rv
  refine xE ((of_d ru).reads) fun as ra => ?_
  refine xE ((of_d rv).reads) fun bs rb => ?_
  exact SeqAt.in_list_reads rb ra (canAll hy) (SeqAt.canLay_of_shaped hx) (room_in_shaped hx (room65 ao)) (.toks R rfl ⟨rfl, rfl⟩ (iEA _ q vr_bool))
theorem Op2.inT {x : PyData} {ys : List PyData} (hx : SeqAt.shaped x = true) (hy : SeqAt.shaped (.tuple ys) = true) (q : Q (.d (.bool (ys.any fun y => PyData.eqv y x))) H) : Op2 prog w h₀ d (compareOp .In) (.d x) (.d (.tuple ys)) H Q := by
  intro A s W u v ao R ru rv
  refine xE ((of_d ru).reads) fun as ra => ?_
  refine xE ((of_d rv).reads) fun bs rb => ?_
  exact SeqAt.in_tuple_reads rb ra (canAllT hy) (SeqAt.canLay_of_shaped hx) (room_in_shaped hx (room65 ao)) (.toks R rfl ⟨rfl, rfl⟩ (iEA _ q vr_bool))

/-- is None -/
theorem plain_none {n : Nat} {W : Wd} {h : Heap} {x : MV} {v : Value} (hx : notVal x = true) (r : VR w n W h x v) : plainIs v .none = true := by
  cases x with
  | val _ => cases hx
  | loc l => (refine xAEA (of_loc r) fun _ a _ ee6 => ?_; subst ee6); rfl
  | tup l => rw [VR] at r; (refine xEEEA r fun _ _ _ ee7 _ => ?_; clear r; subst ee7); rfl
  | set l => rw [VR] at r; (refine xEEEEEA r fun _ _ _ _ _ ee8 _ => ?_; clear r; subst ee8); rfl
  | rng l => rw [VR] at r; (refine xEEEEA r fun _ _ _ _ ee9 _ => ?_; clear r; subst ee9); rfl
  | d p =>
    have r := of_d r
    cases p with
    | none => rw [Fz] at r; subst r; rfl
    | bool b => rw [Fz] at r; subst r; rfl
    | int i => rw [Fz] at r; (refine xE r fun t ee10 => ?_; clear r; subst ee10); rfl
    | str i => rw [Fz] at r; (refine xE r fun t ee11 => ?_; clear r; subst ee11); rfl
    | list i => (refine xEEEA (fz_list r) fun _ _ _ ee12 _ => ?_; subst ee12); rfl
    | tuple i => (refine xEEEA (fz_tuple r) fun _ _ _ ee13 _ => ?_; subst ee13); rfl
    | dict _ => rw [Fz] at r; exact r.elim
noncomputable def isNone : MV → Bool
  | .d .none => true
  | _ => false
theorem none_iff {n : Nat} {W : Wd} {h : Heap} {x : MV} {v : Value} (hx : notVal x = true) (r : VR w n W h x v) : (v == .none) = isNone x := by
  cases x with
  | val _ => cases hx
  | loc l => (refine xAEA (of_loc r) fun _ a _ ee14 => ?_; subst ee14); rfl
  | tup l => rw [VR] at r; (refine xEEEA r fun _ _ _ ee15 _ => ?_; clear r; subst ee15); rfl
  | set l => rw [VR] at r; (refine xEEEEEA r fun _ _ _ _ _ ee16 _ => ?_; clear r; subst ee16); rfl
  | rng l => rw [VR] at r; (refine xEEEEA r fun _ _ _ _ ee17 _ => ?_; clear r; subst ee17); rfl
  | d p =>
    have r := of_d r
    cases p with
    | none => rw [Fz] at r; subst r; rfl
    | bool b => rw [Fz] at r; subst r; rfl
    | int i => rw [Fz] at r; (refine xE r fun t ee18 => ?_; clear r; subst ee18); rfl
    | str i => rw [Fz] at r; (refine xE r fun t ee19 => ?_; clear r; subst ee19); rfl
    | list i => (refine xEEEA (fz_list r) fun _ _ _ ee20 _ => ?_; subst ee20); rfl
    | tuple i => (refine xEEEA (fz_tuple r) fun _ _ _ ee21 _ => ?_; subst ee21); rfl
    | dict _ => rw [Fz] at r; exact r.elim
theorem Op2.isN {x : MV} (hx : notVal x = true) (q : Q (.d (.bool (isNone x))) H) : Op2 prog w h₀ d (compareOp .Is) x (.d .none) H Q := by
  intro A s W u v ao R ru rv
  obtain rfl := of_none rv
  exact wpAny_is_plain (plain_none hx ru) (by rw [none_iff hx ru]; exact .toks R rfl ⟨rfl, rfl⟩ (iEA _ q vr_bool))
theorem Op2.isNotN {x : MV} (hx : notVal x = true) (q : Q (.d (.bool (!isNone x))) H) : Op2 prog w h₀ d (compareOp .IsNot) x (.d .none) H Q := by
  intro A s W u v ao R ru rv
  obtain rfl := of_none rv
  exact wpAny_isNot_plain (plain_none hx ru) (by rw [none_iff hx ru]; exact .toks R rfl ⟨rfl, rfl⟩ (iEA _ q vr_bool))

/-- strings -/
theorem Op2.inS {x y : Str} (q : Q (.d (.bool !(Builtin.Str.occurrences y x 0 y.length 1).isEmpty)) H) : Op2 prog w h₀ d (compareOp .In) (.d (.str x)) (.d (.str y)) H Q := by
  intro A s W u v ao R ru rv
  (refine xE (of_str ru) fun t ee22 => ?_; subst ee22)
  (refine xE (of_str rv) fun t' ee23 => ?_; subst ee23)
  exact in_str (.toks R rfl ⟨rfl, rfl⟩ (iEA _ q vr_bool))
theorem Op2.notInS {x y : Str} (q : Q (.d (.bool (!(!(Builtin.Str.occurrences y x 0 y.length 1).isEmpty)))) H) : Op2 prog w h₀ d (compareOp .NotIn) (.d (.str x)) (.d (.str y)) H Q := by
  intro A s W u v ao R ru rv
  (refine xE (of_str ru) fun t ee24 => ?_; subst ee24)
  (refine xE (of_str rv) fun t' ee25 => ?_; subst ee25)
  exact notIn_str (.toks R rfl ⟨rfl, rfl⟩ (iEA _ q vr_bool))
theorem Op2.eqS {x y : Str} (q : Q (.d (.bool (x == y))) H) : Op2 prog w h₀ d (compareOp .Eq) (.d (.str x)) (.d (.str y)) H Q := by
  intro A s W u v ao R ru rv
  (refine xE (of_str ru) fun t ee26 => ?_; subst ee26)
  (refine xE (of_str rv) fun t' ee27 => ?_; subst ee27)
  exact eq_str (.toks R rfl ⟨rfl, rfl⟩ (iEA _ q vr_bool))
theorem Op2.neS {x y : Str} (q : Q (.d (.bool (x != y))) H) : Op2 prog w h₀ d (compareOp .NotEq) (.d (.str x)) (.d (.str y)) H Q := by
  intro A s W u v ao R ru rv
  (refine xE (of_str ru) fun t ee28 => ?_; subst ee28)
  (refine xE (of_str rv) fun t' ee29 => ?_; subst ee29)
  exact ne_str (.toks R rfl ⟨rfl, rfl⟩ (iEA _ q vr_bool))

/-- tuples put together -/
theorem newSeq {P : MH → Wd → Shared → Prop} {W : Wd} {s : Shared} {ob : Obj} (R : Rel w h₀ W H s.heap) (p : Grow NoX H.next W s.heap H.next W (s.heap.push ob) → W.free s.heap.objs.size → P H W { s with heap := s.heap.push ob }) :
    OutC w h₀ H W s P { s with heap := s.heap.push ob } :=
  .keep R (push_keep _ _) ⟨rfl, rfl⟩ (p (.keep (push_keep _ _)) R.freeNew)
theorem Op2.addT {xs ys : List PyData} (hl : xs.length + ys.length ≤ 1000) (q : Q (.d (.tuple (xs ++ ys))) H) : Op2 prog w h₀ d (binaryOp .Add) (.d (.tuple xs)) (.d (.tuple ys)) H Q := by
  intro A s W u v ao R ru rv
  (refine xEEEAAA (fz_tuple (of_d ru)) fun b1 v1 n1 ee30 f1 g1 z1 => ?_; subst ee30)
  (refine xEEEAAA (fz_tuple (of_d rv)) fun b2 v2 n2 ee31 f2 g2 z2 => ?_; subst ee31)
  have e1 := z1.length
  have e2 := z2.length
  by_cases hv : v1.isEmpty = true
  · refine concat_meets (iEA _ g1 rfl) (iEA _ g2 rfl) noFill_tuple_add seq_tuple_add PySem.F.slot_tuple_add PySem.F.entry_tuple_add (PySem.F.args_tuple_add_2 _ _)
      (tuple_addW0 b1 b2 v1 v2 n1 n2 none none #[] #[] hv) (iAA g1 g2 (.toks R rfl ⟨rfl, rfl⟩ (iEA _ q ?_)))
    have : v1 = #[] := by simpa using hv
    subst this
    have : xs = [] := by simpa using e1
    subst this
    exact rv
  · by_cases hw : v2.isEmpty = true
    · refine concat_meets (iEA _ g1 rfl) (iEA _ g2 rfl) noFill_tuple_add seq_tuple_add PySem.F.slot_tuple_add PySem.F.entry_tuple_add (PySem.F.args_tuple_add_2 _ _)
        (tuple_addW1 b1 b2 v1 v2 n1 n2 none none #[] #[] hv hw) (iAA g1 g2 (.toks R rfl ⟨rfl, rfl⟩ (iEA _ q ?_)))
      have : v2 = #[] := by simpa using hw
      subst this
      have : ys = [] := by simpa using e2
      subst this
      rw [List.append_nil]
      exact ru
    · refine P.add_tuple g1 g2 hv hw ?_ (le1000 (by simp only [← Array.length_toList, ← e1, ← e2]; exact hl))
      refine newSeq R fun g f => (iEA _ q ?_)
      have := vr_tuple (n := H.next) (w := w) (W := W) (h := s.heap.push (tupOf (v1 ++ v2) 0)) (ds := xs ++ ys) (vs := (v1 ++ v2).toList) (a := s.heap.objs.size) (e := 0) f (by rw [Array.toArray_toList]; exact Heap.get?_push_size s.heap (o := tupOf (v1 ++ v2) 0) rfl)
        (by rw [Array.toList_append]; exact FzA.append (z2.mono g.keeps1) (z1.mono g.keeps1))
      exact this
end
end Mine
end L1mx

noncomputable section L1nx
open PySem PySem.W PySem.Calls PyProof.Rows
set_option Elab.async false
set_option linter.unusedVariables false
namespace Mine

section
variable {prog : Program} {w : World} {h₀ : Heap} {d : Nat} {sc : Scope} {ρ : List (Str × MV)} {H : MH} {Q : MV → MH → Prop} {pos : Pos} {a b : Int}

theorem C.mk1 {f : Value} {a : MV} (h : Op1 prog w h₀ d (fun x => call f [x]) a H Q) : C prog w h₀ d f [a] H Q := by
  intro A s W xs ao R V
  rw [VRA] at V
  obtain ⟨x, r, rfl, V, V'⟩ := V
  rw [VRA] at V'; subst V'
  exact h A s W x ao R V
theorem C.mk2 {f : Value} {a b : MV} (h : Op2 prog w h₀ d (fun x y => call f [x, y]) a b H Q) : C prog w h₀ d f [a, b] H Q := by
  intro A s W xs ao R V
  rw [VRA] at V
  obtain ⟨x, r, rfl, V, V'⟩ := V
  rw [VRA] at V'
  obtain ⟨y, r, rfl, V', V''⟩ := V'
  rw [VRA] at V''; subst V''
  exact h A s W x y ao R V V'

theorem fit63 {n : Nat} (h : n ≤ 1000) : (n : Int) < 2 ^ 63 := by lia
theorem C.lenL {xs : List PyData} (hl : xs.length ≤ 1000) (q : Q (.d (.int xs.length)) H) : C prog w h₀ d (.builtin "len") [.d (.list xs)] H Q := C.mk1 <| by
  intro A s W v ao R r
  (refine xEEEAAA (fz_list (of_d r)) fun b vs n ee1 f g z => ?_; subst ee1)
  have e : vs.size = xs.length := by rw [z.length, Array.length_toList]
  exact call_len_list (iEAAE _ g rfl n rfl) (by rw [e]; exact fit63 hl) (.toks R rfl ⟨rfl, rfl⟩ (iEA _ q (by rw [e]; exact vr_int)))
theorem C.lenT {xs : List PyData} (hl : xs.length ≤ 1000) (q : Q (.d (.int xs.length)) H) : C prog w h₀ d (.builtin "len") [.d (.tuple xs)] H Q := C.mk1 <| by
  intro A s W v ao R r
  (refine xEEEAAA (fz_tuple (of_d r)) fun b vs n ee2 f g z => ?_; subst ee2)
  have e : vs.size = xs.length := by rw [z.length, Array.length_toList]
  exact len_tuple (iEAAE _ g rfl n rfl) (by rw [e]; exact fit63 hl) (.toks R rfl ⟨rfl, rfl⟩ (iEA _ q (by rw [e]; exact vr_int)))
theorem C.lenN {l : Loc} {vs : List MV} (hg : H.get l = some (.list vs)) (hl : vs.length ≤ 1000) (q : Q (.d (.int vs.length)) H) : C prog w h₀ d (.builtin "len") [.loc l] H Q := C.mk1 <| by
  intro A s W v ao R r
  refine xEAAEEA (R.obj l _ hg) fun b e1 _ its n g z => ?_
  (refine xAEA (of_loc r) fun _ b' e2 ee3 => ?_; subst ee3)
  obtain rfl : b' = b := Option.some.inj (e2.symm.trans e1)
  have e : its.size = vs.length := by rw [z.length, Array.length_toList]
  exact call_len_list (iEAAE _ g rfl n rfl) (by rw [e]; exact fit63 hl) (.toks R rfl ⟨rfl, rfl⟩ (iEA _ q (by rw [e]; exact vr_int)))
theorem C.lenS {x : Str} (hl : x.length ≤ 1000) (q : Q (.d (.int x.length)) H) : C prog w h₀ d (.builtin "len") [.d (.str x)] H Q := C.mk1 <| by
  intro A s W v ao R r
  (refine xE (of_str r) fun t ee4 => ?_; subst ee4)
  exact len_str (by have := fit63 hl; lia) (.toks R rfl ⟨rfl, rfl⟩ (iEA _ q vr_int))
theorem C.abs (q : Q (.d (.int (if a < 0 then -a else a))) H) : C prog w h₀ d (.builtin "abs") [.d (.int a)] H Q := C.mk1 <| by
  intro A s W v ao R r
  (refine xE (of_int r) fun t ee5 => ?_; subst ee5)
  exact call_abs_int fun u tk => .toks R rfl ⟨rfl, rfl⟩ (iEA _ q vr_int)
theorem C.intS {x : Str} {n : Int} (hn : PySem.intText? x = some n) (hl : x.length ≤ 640) (q : Q (.d (.int n)) H) : C prog w h₀ d (.type "int") [.d (.str x)] H Q := C.mk1 <| by
  intro A s W v ao R r
  (refine xE (of_str r) fun t ee6 => ?_; subst ee6)
  exact KIN.call_text hn hl (.toks R rfl ⟨rfl, rfl⟩ (iEA _ q vr_int))
theorem C.isspace {x : Str} (q : Q (.d (.bool (Txt.isspace x))) H) : C prog w h₀ d (.builtin "str.isspace") [.d (.str x)] H Q := C.mk1 <| by
  intro A s W v ao R r
  (refine xE (of_str r) fun t ee7 => ?_; subst ee7)
  exact SC.isspace (.toks R rfl ⟨rfl, rfl⟩ (iEA _ q vr_bool))
set_option maxRecDepth 100000 in
theorem GM.isspace {x : Str} : GM prog w h₀ (.d (.str x)) "isspace" "str.isspace" H := by
  intro A s W v pl Z R r z
  (refine xE (of_str r) fun t ee8 => ?_; subst ee8)
  exact PySem.GM.isspace z
theorem C.range {k : Int} (q : Q (.rng k) H) : C prog w h₀ d (.type "range") [.d (.int k)] H Q := C.mk1 <| by
  intro A s W v ao R r
  (refine xE (of_int r) fun t ee9 => ?_; subst ee9)
  refine call_range_1 ?_
  have kp := push_keep s.heap { cls := .type "range", data := .fields #[.int 0 s.toks, .int k t, .int 1 (s.toks + 1)] }
  refine .keep R kp ⟨rfl, rfl⟩ (iEA _ q ?_)
  rw [VR]
  exact (iEEEEAA _ _ _ _ rfl R.freeNew (Heap.get?_push_size _ rfl))
theorem C.tupT {xs : List PyData} (q : Q (.d (.tuple xs)) H) : C prog w h₀ d (.type "tuple") [.d (.tuple xs)] H Q := C.mk1 <| by
  intro A s W v ao R r
  (refine xEEEAAA (fz_tuple (of_d r)) fun b vs n ee10 f g z => ?_; subst ee10)
  exact call_tuple_same (iEAAE _ g rfl n rfl) (.toks R rfl ⟨rfl, rfl⟩ (iEA _ q r))
theorem C.tupL {xs : List PyData} (hl : xs.length ≤ 1000) (q : Q (.d (.tuple xs)) H) : C prog w h₀ d (.type "tuple") [.d (.list xs)] H Q := C.mk1 <| by
  intro A s W v ao R r
  (refine xEEEAAA (fz_list (of_d r)) fun b vs n ee11 f g z => ?_; subst ee11)
  have e : vs.size = xs.length := by rw [z.length, Array.length_toList]
  refine call_tuple_list (iEAAE _ g rfl n rfl) (fun h' hk => ?_) (le1000 (by rw [e]; exact hl))
  have kp : ∀ b o, s.heap.get? b = some o → (h'.push (tupOf vs 0)).get? b = some o := fun b o x => push_keep _ _ b o (hk b o x)
  refine .keep R kp ⟨rfl, rfl⟩ (iEA _ q ?_)
  refine vr_tuple (vs := vs.toList) (e := 0) ((R.keep hk).freeNew (s := { s with heap := h' })) (by rw [Array.toArray_toList]; exact Heap.get?_push_size _ rfl) (z.mono (Grow.keep (X := NoX) (n := 0) kp).keeps1)

theorem sliceMade_post {x r : Str} {t : Tok} {l u : Option (Int × Tok)} {s : Shared} {Z : Value → Shared → Prop} (hl : r.length ≤ 1000) (hm : sliceMade x t l u none = .val (.str r t) ∨ sliceMade x t l u none = .str r)
    (h : ∀ t' k, Z (.str r t') { s with toks := k }) : (sliceMade x t l u none).post Z s := by
  rcases hm with e | e
  · rw [e]; exact h t s.toks
  · rw [e]; exact ⟨le1000 hl, h s.toks _⟩
theorem E.sliceSFrom {v : Expr} {k : Nat} {p1 p2 : Pos} (h : E prog w h₀ d sc ρ v H fun y H' => ∃ x r, y = .d (.str x) ∧ r.length ≤ 1000 ∧ (∀ t lt, sliceMade x t (some (1, lt)) none none = .val (.str r t) ∨ sliceMade x t (some (1, lt)) none none = .str r) ∧ Q (.d (.str r)) H')
    (ht : ∀ o r, letTemporaryGo v o r = pure () := by intro _ _; rfl) : E prog w h₀ d sc ρ (.Subscript v (.Slice (some (.Constant (.int 1) k p1)) none none p2) pos) H Q := by
  intro A env s W a F R
  refine wpAny_Subscript_str_slice (useG (h A env s W a F R) fun o s' H' W' zz16 R' F' g m => xEA zz16 fun u zz17 rv => xEEAAA zz17 fun x r e hl hm q => ?_) ht
  subst e
  (refine xE (of_str rv) fun t ee12 => ?_; subst ee12)
  rw [evalPart_some, evalPart_none]
  refine wpAny_Constant_int (wpAny_pure (iEEEEAAA x t (some (1, s'.toks)) none rfl rfl rfl (sliceMade_post hl (hm _ _) fun t' k => ?_)))
  exact OutG.then (s' := s') g m (OutG.keep R' F' (push_keep _ _) ⟨rfl, rfl⟩ (iEA _ q vr_str))
theorem E.sliceSTo {v : Expr} {k : Nat} {p1 p2 : Pos} (h : E prog w h₀ d sc ρ v H fun y H' => ∃ x r, y = .d (.str x) ∧ r.length ≤ 1000 ∧ (∀ t lt, sliceMade x t none (some (1, lt)) none = .val (.str r t) ∨ sliceMade x t none (some (1, lt)) none = .str r) ∧ Q (.d (.str r)) H')
    (ht : ∀ o r, letTemporaryGo v o r = pure () := by intro _ _; rfl) : E prog w h₀ d sc ρ (.Subscript v (.Slice none (some (.Constant (.int 1) k p1)) none p2) pos) H Q := by
  intro A env s W a F R
  refine wpAny_Subscript_str_slice (useG (h A env s W a F R) fun o s' H' W' zz18 R' F' g m => xEA zz18 fun u zz19 rv => xEEAAA zz19 fun x r e hl hm q => ?_) ht
  subst e
  (refine xE (of_str rv) fun t ee13 => ?_; subst ee13)
  rw [evalPart_some, evalPart_none]
  refine wpAny_pure (wpAny_Constant_int (iEEEEAAA x t none (some (1, s'.toks)) rfl rfl rfl (sliceMade_post hl (hm _ _) fun t' k => ?_)))
  exact OutG.then (s' := s') g m (OutG.keep R' F' (push_keep _ _) ⟨rfl, rfl⟩ (iEA _ q vr_str))

theorem bnd_up {k : Nat} (n : Nat) : sliceBounds none (some (k : Int)) none n = (((0 : Nat) : Int), ((min k n : Nat) : Int), 1) := by
  unfold sliceBounds
  simp only [Option.getD_none, show ¬ ((k : Int) < 0) by lia, if_false, show (1 : Int) > 0 by decide, if_true]
  refine Prod.ext rfl (Prod.ext ?_ rfl)
  simp only
  lia
/-- a list's first items -/
theorem E.sliceLTo {v up : Expr} {p2 : Pos} (h : E prog w h₀ d sc ρ v H fun y H' => ∃ xs, y = .d (.list xs) ∧ xs.length ≤ 1000 ∧ E prog w h₀ d sc ρ up H' fun z H'' => ∃ k : Nat, z = .d (.int k) ∧ k ≤ 1000 ∧ Q (.d (.list (xs.take k))) H'')
    (ht : ∀ o r, letTemporaryGo v o r = pure () := by intro _ _; rfl) : E prog w h₀ d sc ρ (.Subscript v (.Slice none (some up) none p2) pos) H Q := by
  intro A env s W a F R
  refine wpAny_Subscript_list_slice (useG (h A env s W a F R) fun o s' H' W' zz20 R' F' g m => xEA zz20 fun u zz21 rv => xEAA zz21 fun xs e hl q => ?_) ht
  subst e
  rw [evalPart_some, evalPart_none]
  refine wpAny_pure (useG (q A env s' W' a F' R') fun y s2 H2 W2 zz22 R2 F2 g2 m2 => xEA zz22 fun z zz23 rz => xEAA zz23 fun k e hk q2 => ?_)
  subst e
  (refine xEEEAAA (fz_list (of_d (rv.grow g2))) fun b vs n ee14 f g3 z3 => ?_; subst ee14)
  (refine xE (of_int rz) fun t ee15 => ?_; subst ee15)
  have e : vs.size = xs.length := by rw [z3.length, Array.length_toList]
  refine (iEEEEAAAAA b vs none (some k) rfl ((iEAAE _ g3 rfl n rfl)) (le1000 (by rw [e]; exact hl)) .none (.int _ _) ?_)
  have k1 := push_keep s2.heap { cls := .type "slice", data := .fields #[.none, .int k t, .none] }
  refine OutG.then (s' := s2) (g.trans g2) (m.trans m2) (OutG.keep R2 F2 (fun b o x => push_keep _ _ b o (k1 b o x)) ⟨rfl, rfl⟩ (iEA _ q2 ?_))
  have ep : slicePick vs none (some (k : Int)) none = (vs.toList.take k).toArray := by
    unfold slicePick
    rw [bnd_up]
    simp only
    rw [sliceRange_one]
    congr 1
    rw [Nat.sub_zero, show ((fun x => 0 + x) : Nat → Nat) = id from funext fun x => Nat.zero_add x, List.map_id]
    have : ∀ (l : List Value) (m : Nat), m ≤ l.length → (List.range m).filterMap (fun i => l[i]?) = l.take m := fun l m => by
      induction m with
      | zero => intro _; simp
      | succ m ih =>
        intro hm
        rw [List.range_succ, List.filterMap_append, ih (by lia), List.take_add_one]
        congr 1
    have h2 := this vs.toList (min k vs.size) (by rw [Array.length_toList]; exact Nat.min_le_right _ _)
    have h3 : (fun i => vs.toList[i]?) = fun i => vs[i]? := funext fun i => Array.getElem?_toList ..
    rw [h3] at h2
    rw [h2]
    rw [Nat.min_def]
    split
    · rfl
    · rw [List.take_of_length_le (by simp), List.take_of_length_le (by simp; lia)]
  rw [ep]
  refine vr_list (vs := vs.toList.take k) (e := 0) (by have := (R2.keep k1).freeNew (s := { s2 with heap := s2.heap.push _ }); rwa [Heap.size_push] at this)
    (by have := Heap.get?_push_size (s2.heap.push { cls := .type "slice", data := .fields #[.none, .int k t, .none] }) (o := listOf (vs.toList.take k).toArray 0) rfl; rwa [Heap.size_push] at this)
    (FzA.take (z3.mono (Grow.keep (X := NoX) (n := 0) fun b o x => push_keep _ _ b o (k1 b o x)).keeps1) k)
end
end Mine
end L1nx

noncomputable section L1ox
open PySem PySem.W PySem.Calls PyProof.Rows
set_option Elab.async false
set_option linter.unusedVariables false
namespace Mine

/-! dicts by int or str -/
section
variable {w : World} {n : Nat} {W : Wd} {h : Heap} {K : Type} [DecidableEq K]
noncomputable def PairV (w : World) (n : Nat) (W : Wd) (h : Heap) : List (K × MV) → List (K × Value) → Prop
  | [], vs => vs = []
  | (k, m) :: r, vs => ∃ v r', vs = (k, v) :: r' ∧ VR w n W h m v ∧ PairV w n W h r r'
noncomputable def getK (l : List (K × MV)) (k : K) : Option MV := (l.find? fun p => decide (p.1 = k)).map (·.2)
noncomputable def putK (l : List (K × MV)) (k : K) (v : MV) : List (K × MV) := if l.any (fun p => decide (p.1 = k)) then l.map (fun p => if p.1 = k then (p.1, v) else p) else l ++ [(k, v)]
noncomputable def delK (l : List (K × MV)) (k : K) : List (K × MV) := l.filter fun p => decide (p.1 ≠ k)
theorem PairV.keys : ∀ {l : List (K × MV)} {vs : List (K × Value)}, PairV w n W h l vs → vs.map (·.1) = l.map (·.1)
  | [], vs, x => by rw [PairV] at x; subst x; rfl
  | (k, m) :: r, vs, x => by
    rw [PairV] at x
    (refine xEEAA x fun v r' ee1 _ y => ?_; clear x; subst ee1)
    simp [y.keys]
theorem PairV.length {l : List (K × MV)} {vs : List (K × Value)} (x : PairV w n W h l vs) : vs.length = l.length := by
  have := congrArg List.length x.keys; simpa using this
theorem PairV.get {k : K} : ∀ {l : List (K × MV)} {vs : List (K × Value)}, PairV w n W h l vs → (getK l k = none ∧ valueAt vs k = none) ∨ ∃ m v, getK l k = some m ∧ valueAt vs k = some v ∧ VR w n W h m v
  | [], vs, x => by rw [PairV] at x; subst x; exact .inl ⟨rfl, rfl⟩
  | (k', m) :: r, vs, x => by
    rw [PairV] at x
    (refine xEEAA x fun v r' ee2 y z => ?_; clear x; subst ee2)
    by_cases q : k' = k
    · subst q; exact .inr (iEEAA m v (by simp [getK]) (by simp [valueAt]) y)
    · have e1 : getK ((k', m) :: r) k = getK r k := by simp [getK, q]
      have e2 : valueAt ((k', v) :: r') k = valueAt r' k := by simp [valueAt, q]
      rw [e1, e2]
      exact z.get
theorem PairV.any {k : K} {l : List (K × MV)} {vs : List (K × Value)} (x : PairV w n W h l vs) : (vs.any fun p => decide (p.1 = k)) = l.any fun p => decide (p.1 = k) := by
  have e : ∀ (l : List (K × MV)), (l.any fun p => decide (p.1 = k)) = (l.map (·.1)).any fun p => decide (p = k) := fun l => by rw [List.any_map]; rfl
  have e' : ∀ (l : List (K × Value)), (l.any fun p => decide (p.1 = k)) = (l.map (·.1)).any fun p => decide (p = k) := fun l => by rw [List.any_map]; rfl
  rw [e, e', x.keys]
theorem PairV.map {k : K} {m : MV} {v : Value} (y : VR w n W h m v) : ∀ {l : List (K × MV)} {vs : List (K × Value)}, PairV w n W h l vs →
    PairV w n W h (l.map fun p => if p.1 = k then (p.1, m) else p) (vs.map fun p => if p.1 = k then (p.1, v) else p)
  | [], vs, x => by rw [PairV] at x; subst x; simp [PairV]
  | (k', m') :: r, vs, x => by
    rw [PairV] at x
    (refine xEEAA x fun v' r' ee3 a b => ?_; clear x; subst ee3)
    rw [List.map_cons, List.map_cons]
    by_cases q : k' = k
    · simp only [q, if_true]; rw [PairV]; exact (iEEAA _ _ rfl y (PairV.map y b))
    · simp only [q, if_false]; rw [PairV]; exact (iEEAA _ _ rfl a (PairV.map y b))
theorem PairV.snoc {k : K} {m : MV} {v : Value} (y : VR w n W h m v) : ∀ {l : List (K × MV)} {vs : List (K × Value)}, PairV w n W h l vs → PairV w n W h (l ++ [(k, m)]) (vs ++ [(k, v)])
  | [], vs, x => by rw [PairV] at x; subst x; rw [List.nil_append, PairV]; exact (iEEAA v ([]) rfl y (by rw [PairV]))
  | (k', m') :: r, vs, x => by
    rw [PairV] at x
    (refine xEEAA x fun v' r' ee4 a b => ?_; clear x; subst ee4)
    rw [List.cons_append, PairV]
    exact (iEEAA v' _ rfl a (PairV.snoc y b))
theorem PairV.put {k : K} {m : MV} {v : Value} {l : List (K × MV)} {vs : List (K × Value)} (x : PairV w n W h l vs) (y : VR w n W h m v) : PairV w n W h (putK l k m) (stored vs k v) := by
  unfold putK stored
  rw [x.any]
  split
  · exact PairV.map y x
  · exact PairV.snoc y x
theorem PairV.del {k : K} : ∀ {l : List (K × MV)} {vs : List (K × Value)}, PairV w n W h l vs → PairV w n W h (delK l k) (without vs k)
  | [], vs, x => by rw [PairV] at x; subst x; simp [delK, without, PairV]
  | (k', m') :: r, vs, x => by
    rw [PairV] at x
    (refine xEEAA x fun v' r' ee5 a b => ?_; clear x; subst ee5)
    have ih := b.del (k := k)
    unfold delK without at ih ⊢
    by_cases q : k' = k
    · simp only [List.filter_cons, q, ne_eq, not_true_eq_false, decide_false, Bool.false_eq_true, if_false]; exact ih
    · simp only [List.filter_cons, q, ne_eq, not_false_eq_true, decide_true, if_true]; rw [PairV]; exact (iEEAA v' _ rfl a ih)
theorem PairV.grow {X : Addr → Prop} {n' : Nat} {W' : Wd} {h' : Heap} (g : Grow X n W h n' W' h') : ∀ {l : List (K × MV)} {vs : List (K × Value)}, PairV w n W h l vs → PairV w n' W' h' l vs
  | [], vs, x => by rw [PairV] at x ⊢; exact x
  | (k', m') :: r, vs, x => by
    rw [PairV] at x ⊢
    (refine xEEAA x fun v' r' e a b => ?_; clear x)
    exact (iEEAA v' r' e (a.grow g) (b.grow g))
end

/-- a kind of dict -/
structure DictLike (prog : Program) (w : World) {K : Type} [DecidableEq K] (knd : KeyKind prog w K) (mk : List (K × MV) → MO) (py : K → PyData) : Prop where
  to : ∀ {n W h lo l a}, OR w n W h lo (mk l) a → (∃ kvs, h.DictOf knd a kvs ∧ PairV w n W h l kvs) ∧ (a == sysModules) = false
  of : ∀ {n W h lo l a kvs}, h.DictOf knd a kvs → PairV w n W h l kvs → (a == sysModules) = false → OR w n W h lo (mk l) a
  key : ∀ {n W h k v}, VR w n W h (.d (py k)) v → knd.is k v = true
  part : ∀ {n W h k v}, VR w n W h (.d (py k)) v → (keyPart v).isSome = true

theorem exactD {o : Obj} {es : Array DictEntry} {ep : Nat} (x : o.ExactDict) (e : o.data = .dict es ep) : o = dictOf es.toList ep := by
  obtain ⟨c, d, dt, sl⟩ := o
  (refine xAA x fun h1 h2 h3 => ?_; clear x)
  simp only at h1 h2 h3 e
  subst h1 h2 h3 e
  rfl

section
variable {prog : Program} {w : World}
theorem dlI : DictLike prog w (intKind prog w) MO.dictI PyData.int where
  to := fun {n W h lo l a} zz22 => xEEAAA zz22 fun es e g en nd ns => by
    refine ⟨?_, ns⟩
    suffices H : ∀ (l : List (Int × MV)) (es : List DictEntry), EntI w n W h l es → ∃ kvs, (∀ e ∈ es, ∃ k, (intKind prog w).is k e.key = true ∧ e.hash = (intKind prog w).hash k) ∧ Pairs (intKind prog w) es kvs ∧ PairV w n W h l kvs by
      refine xEAA (H l es en) fun kvs k1 k2 k3 => ?_
      refine (iEA kvs ((iEEEAAAAA _ es.toArray e g ((iAA rfl rfl rfl)) rfl ?_ ?_ ?_)) k3)
      · intro e he; exact k1 e (by simpa using he)
      · simpa using k2
      · rw [k3.keys]; exact nd
    intro l
    induction l with
    | nil => intro es en; rw [EntI] at en; subst en; exact (iEAA ([]) (by simp) .nil (by rw [PairV]))
    | cons p r ih =>
      obtain ⟨k, m⟩ := p
      intro es en
      rw [EntI] at en
      (refine xEEAAAA en fun e es' ee6 zz7 hh hv en' => ?_; clear en; subst ee6; obtain ⟨t, hk⟩ := zz7)
      refine xEAA (ih es' en') fun kvs k1 k2 k3 => ?_
      have hi : (intKind prog w).is k e.key = true := by rw [hk]; show Value.isInt k (.int k t) = true; simp [Value.isInt]
      refine (iEAA ((k, e.val) :: kvs) ?_ (.cons hi rfl k2) (by rw [PairV]; exact (iEEAA _ _ rfl hv k3)))
      intro e' he'
      rcases List.mem_cons.mp he' with rfl | he'
      · exact (iEA k hi hh)
      · exact k1 e' he'
  of := fun {n W h lo l a kvs} zz23 pv ns => xEEEAAAAA zz23 fun o es ep ho hx hd hk hp nd => by
    refine (iEEAAA es.toList ep (by rw [ho, exactD hx hd]) ?_ (by rw [← pv.keys]; exact nd) ns)
    have hk' : ∀ e ∈ es.toList, ∃ k, (intKind prog w).is k e.key = true ∧ e.hash = (intKind prog w).hash k := fun e he => hk e (by simpa using he)
    suffices H : ∀ (es : List DictEntry) (kvs : List (Int × Value)), Pairs (intKind prog w) es kvs → ∀ l, PairV w n W h l kvs → (∀ e ∈ es, ∃ k, (intKind prog w).is k e.key = true ∧ e.hash = (intKind prog w).hash k) → EntI w n W h l es from H _ _ hp l pv hk'
    intro es kvs hp
    induction hp with
    | nil =>
      intro l pv _
      cases l with
      | nil => rw [EntI]
      | cons p r => obtain ⟨k, m⟩ := p; rw [PairV] at pv; (refine xEEA pv fun _ _ e _ => ?_; clear pv); cases e
    | @cons e kv es' kvs' h1 h2 h3 ih =>
      intro l pv hk'
      cases l with
      | nil => rw [PairV] at pv; cases pv
      | cons p r =>
        obtain ⟨k, m⟩ := p
        rw [PairV] at pv
        (refine xEEAA pv fun v r' e1 hv pv' => ?_; clear pv)
        cases e1
        have hk1 := ih r pv' fun e he => hk' e (.tail _ he)
        rw [EntI]
        refine xEA (hk' e (.head _)) fun k' q1 q2 => ?_
        obtain rfl : k' = k := Value.isInt_inj _ _ _ q1 h1
        exact (iEEAAAA e es' rfl (Value.isInt_shape h1) q2 (by rw [h2]; exact hv) hk1)
  key := fun r => by (refine xE (of_int r) fun t ee8 => ?_; subst ee8); simp [intKind, Value.isInt]
  part := fun r => by (refine xE (of_int r) fun t ee9 => ?_; subst ee9); rfl
theorem dlS : DictLike prog w (strKind prog w) MO.dictS PyData.str where
  to := fun {n W h lo l a} zz24 => xEEAAA zz24 fun es e g en nd ns => by
    refine ⟨?_, ns⟩
    suffices H : ∀ (l : List (Str × MV)) (es : List DictEntry), EntS w n W h l es → ∃ kvs, (∀ e ∈ es, ∃ k, (strKind prog w).is k e.key = true ∧ e.hash = (strKind prog w).hash k) ∧ Pairs (strKind prog w) es kvs ∧ PairV w n W h l kvs by
      refine xEAA (H l es en) fun kvs k1 k2 k3 => ?_
      refine (iEA kvs ((iEEEAAAAA _ es.toArray e g ((iAA rfl rfl rfl)) rfl ?_ ?_ ?_)) k3)
      · intro e he; exact k1 e (by simpa using he)
      · simpa using k2
      · rw [k3.keys]; exact nd
    intro l
    induction l with
    | nil => intro es en; rw [EntS] at en; subst en; exact (iEAA ([]) (by simp) .nil (by rw [PairV]))
    | cons p r ih =>
      obtain ⟨k, m⟩ := p
      intro es en
      rw [EntS] at en
      (refine xEEAAAA en fun e es' ee10 zz11 hh hv en' => ?_; clear en; subst ee10; obtain ⟨t, hk⟩ := zz11)
      refine xEAA (ih es' en') fun kvs k1 k2 k3 => ?_
      have hi : (strKind prog w).is k e.key = true := by rw [hk]; show Value.isStrOf k (.str k t) = true; simp [Value.isStrOf]
      refine (iEAA ((k, e.val) :: kvs) ?_ (.cons hi rfl k2) (by rw [PairV]; exact (iEEAA _ _ rfl hv k3)))
      intro e' he'
      rcases List.mem_cons.mp he' with rfl | he'
      · exact (iEA k hi hh)
      · exact k1 e' he'
  of := fun {n W h lo l a kvs} zz25 pv ns => xEEEAAAAA zz25 fun o es ep ho hx hd hk hp nd => by
    refine (iEEAAA es.toList ep (by rw [ho, exactD hx hd]) ?_ (by rw [← pv.keys]; exact nd) ns)
    have hk' : ∀ e ∈ es.toList, ∃ k, (strKind prog w).is k e.key = true ∧ e.hash = (strKind prog w).hash k := fun e he => hk e (by simpa using he)
    suffices H : ∀ (es : List DictEntry) (kvs : List (Str × Value)), Pairs (strKind prog w) es kvs → ∀ l, PairV w n W h l kvs → (∀ e ∈ es, ∃ k, (strKind prog w).is k e.key = true ∧ e.hash = (strKind prog w).hash k) → EntS w n W h l es from H _ _ hp l pv hk'
    intro es kvs hp
    induction hp with
    | nil =>
      intro l pv _
      cases l with
      | nil => rw [EntS]
      | cons p r => obtain ⟨k, m⟩ := p; rw [PairV] at pv; (refine xEEA pv fun _ _ e _ => ?_; clear pv); cases e
    | @cons e kv es' kvs' h1 h2 h3 ih =>
      intro l pv hk'
      cases l with
      | nil => rw [PairV] at pv; cases pv
      | cons p r =>
        obtain ⟨k, m⟩ := p
        rw [PairV] at pv
        (refine xEEAA pv fun v r' e1 hv pv' => ?_; clear pv)
        cases e1
        have hk1 := ih r pv' fun e he => hk' e (.tail _ he)
        rw [EntS]
        refine xEA (hk' e (.head _)) fun k' q1 q2 => ?_
        obtain rfl : k' = k := Value.isStrOf_inj _ _ _ q1 h1
        exact (iEEAAAA e es' rfl (Value.isStrOf_shape h1) q2 (by rw [h2]; exact hv) hk1)
  key := fun r => by (refine xE (of_str r) fun t ee12 => ?_; subst ee12); simp [PySem.strKind, Value.isStrOf]
  part := fun r => by (refine xE (of_str r) fun t ee13 => ?_; subst ee13); rfl
end

section
variable {prog : Program} {w : World} {h₀ : Heap} {d : Nat} {sc : Scope} {ρ : List (Str × MV)} {H : MH} {Q : MV → MH → Prop} {pos : Pos} {K : Type} [DecidableEq K] {knd : KeyKind prog w K} {mk : List (K × MV) → MO} {py : K → PyData} {lo : Loc} {l : List (K × MV)} {k : K}

theorem dict_at {W : Wd} {s : Shared} {x : Value} (D : DictLike prog w knd mk py) (R : Rel w h₀ W H s.heap) (e : H.get lo = some (mk l)) (r : VR w H.next W s.heap (.loc lo) x) :
    ∃ a kvs, x = .ref a ∧ W.mu lo = some a ∧ W.tau a = .own lo ∧ s.heap.DictOf knd a kvs ∧ PairV w H.next W s.heap l kvs ∧ (a == sysModules) = false := by
  refine xEAA (R.obj lo _ e) fun a e1 e2 o => ?_
  (refine xAEA (of_loc r) fun _ a' e3 ee14 => ?_; subst ee14)
  obtain rfl : a' = a := Option.some.inj (e3.symm.trans e1)
  (refine xA (D.to o) fun zz15 q3 => ?_; obtain ⟨kvs, q1, q2⟩ := zz15)
  exact (iEEAAAAA a' kvs rfl e1 e2 q1 q2 q3)
/-- an own dict is another -/
theorem dict_put {W : Wd} {s : Shared} {h' : Heap} {a : Addr} {l' : List (K × MV)} {kvs' : List (K × Value)} {Qh : MH → Wd → Shared → Prop} {tk : Nat} (D : DictLike prog w knd mk py) (R : Rel w h₀ W H s.heap) (e : H.get lo = some (mk l)) (e1 : W.mu lo = some a) (e2 : W.tau a = .own lo)
    (hs : Heap.SameBut a s.heap h') (hd : h'.DictOf knd a kvs') (ns : (a == sysModules) = false) (pv : PairV w H.next W s.heap l' kvs') (q : Grow NoX H.next W s.heap (H.put lo (mk l')).next W h' → Qh (H.put lo (mk l')) W { s with heap := h', toks := tk }) :
    OutC w h₀ H W s Qh { s with heap := h', toks := tk } := by
  have ha : ∃ o, h'.get? a = some o := by (refine xEEEA hd fun o _ _ ho _ => ?_; clear hd); exact ⟨o, ho⟩
  have gg : Grow NoX H.next W s.heap (H.put lo (mk l')).next W h' → OR w (H.put lo (mk l')).next W h' lo (mk l') a := fun g => D.of hd (pv.grow g) ns
  obtain ⟨R2, g2⟩ := Rel.putAt (X := NoX) R e (o' := mk l') (h' := h')
    (fun b ob x t => (hs.2 b (by (intro yy1; subst yy1); rw [e2] at t; cases t)).trans x) (fun b ob x t _ => (hs.2 b (by (intro yy2; subst yy2); rw [e2] at t; cases t)).trans x)
    (fun b ob l'' x t n => (hs.2 b (by (intro yy3; subst yy3); rw [e2] at t; injection t with t; exact n t.symm)).trans x)
    (fun b ob x => by
      by_cases q : b = a
      · subst q; exact ha
      · exact ⟨ob, (hs.2 b q).trans x⟩) fun g => (iEAA a e1 e2 (gg g))
  exact ⟨_, W, q g2, R2, g2, ⟨rfl, rfl⟩⟩

noncomputable abbrev Got (Q : MV → MH → Prop) (H : MH) (l : List (K × MV)) (k : K) : Prop := match getK l k with | some m => Q m H | none => Q (.d .none) H
theorem got_vr {W : Wd} {h : Heap} {kvs : List (K × Value)} (pv : PairV w H.next W h l kvs) (q : Got Q H l k) : ∃ v, Q v H ∧ VR w H.next W h v ((valueAt kvs k).getD .none) := by
  rcases pv.get (k := k) with ⟨a, b⟩ | ⟨m, v, a, b, c⟩
  · unfold Got at q; rw [a] at q; rw [b]; exact (iEA _ q vr_none)
  · unfold Got at q; rw [a] at q; rw [b]; exact (iEA _ q c)
theorem C.dget (D : DictLike prog w knd mk py) (e : H.get lo = some (mk l)) (q : Got Q H l k) : C prog w h₀ d (.builtin "dict.get") [.loc lo, .d (py k)] H Q := C.mk2 <| by
  intro A s W x y ao R rx ry
  (refine xEEAAAAA (dict_at D R e rx) fun a kvs ee16 e1 e2 hd pv ns => ?_; subst ee16)
  exact call_meetsIn PySem.F.slot_dict_get hd.typeIs PySem.F.entry_dict_get (PySem.F.args_dict_get_2 _ _) (meets_dict_get knd a (D.key ry) ns) (iEA _ hd.mapOf (.toks R rfl ⟨rfl, rfl⟩ (got_vr pv q)))
theorem GM.dget (D : DictLike prog w knd mk py) (e : H.get lo = some (mk l)) : GM prog w h₀ (.loc lo) "get" "dict.get" H := by
  intro A s W x pl Z R rx z
  (refine xEEAAAAA (dict_at D R e rx) fun a kvs ee17 e1 e2 hd pv ns => ?_; subst ee17)
  exact getMethod_builtin hd.typeIs PySem.F.plainAttrs_dict PySem.F.slot_dict_get PySem.F.type_dict_get hd.mapOf.noDict z
theorem GM.dpop (D : DictLike prog w knd mk py) (e : H.get lo = some (mk l)) : GM prog w h₀ (.loc lo) "pop" "dict.pop" H := by
  intro A s W x pl Z R rx z
  (refine xEEAAAAA (dict_at D R e rx) fun a kvs ee18 e1 e2 hd pv ns => ?_; subst ee18)
  exact getMethod_builtin hd.typeIs PySem.F.plainAttrs_dict PySem.F.slot_dict_pop PySem.F.type_dict_pop hd.mapOf.noDict z
theorem Op2.notInD (D : DictLike prog w knd mk py) (e : H.get lo = some (mk l)) (q : Q (.d (.bool (!(getK l k).isSome))) H) : Op2 prog w h₀ d (compareOp .NotIn) (.d (py k)) (.loc lo) H Q := by
  intro A s W y x ao R ry rx
  (refine xEEAAAAA (dict_at D R e rx) fun a kvs ee19 e1 e2 hd pv ns => ?_; subst ee19)
  refine wpAny_notIn_of (D.key ry) ns hd.mapOf (.toks R rfl ⟨rfl, rfl⟩ (iEA _ q ?_))
  rcases pv.get (k := k) with ⟨a, b⟩ | ⟨m, v, a, b, c⟩ <;> rw [a, b] <;> exact vr_bool
noncomputable abbrev PlainSubV (slice : Expr) : Prop := ∀ (o v : Value), subscripted slice false o v = operate [o, v] (getItem o v)
theorem C.dpop {m : MV} (D : DictLike prog w knd mk py) (e : H.get lo = some (mk l)) (hl : l.length ≤ 1000) (hm : getK l k = some m) (q : Q m (H.put lo (mk (delK l k)))) : C prog w h₀ d (.builtin "dict.pop") [.loc lo, .d (py k)] H Q := C.mk2 <| by
  intro A s W x y ao R rx ry
  (refine xEEAAAAA (dict_at D R e rx) fun a kvs ee20 e1 e2 hd pv ns => ?_; subst ee20)
  rcases pv.get (k := k) with ⟨a', b⟩ | ⟨m', v, a', b, c⟩
  · rw [hm] at a'; cases a'
  · rw [hm] at a'; cases a'
    refine call_meetsIn PySem.F.slot_dict_pop hd.typeIs PySem.F.entry_dict_pop (PySem.F.args_dict_pop_2 _ _) (meets_dict_pop_there knd a (D.key ry) [] (.inl rfl) (D.part ry)) (iEEAAA kvs v hd (le1000 (by rw [pv.length]; exact hl)) b (fun h' hd' hs => ?_))
    exact dict_put D R e e1 e2 hs hd' ns pv.del fun g => (iEA m q (c.grow g))
theorem Op3.setD {m : MV} {Q : MH → Prop} (D : DictLike prog w knd mk py) (e : H.get lo = some (mk l)) (hl : l.length ≤ 1000) (q : Q (H.put lo (mk (putK l k m)))) : Op3 prog w h₀ d setItem (.loc lo) (.d (py k)) m H Q := by
  intro A s W x y z ao R rx ry rz
  (refine xEEAAAAA (dict_at D R e rx) fun a kvs ee21 e1 e2 hd pv ns => ?_; subst ee21)
  exact wpAny_setItem_pairs (D.key ry) hd (fun h' hd' hs => dict_put D R e e1 e2 hs hd' ns (pv.put rz) fun _ => q) (le1000 (by rw [pv.length]; exact hl))

noncomputable def sub3K (ρ : List (Str × MV)) (Q : List (Str × MV) → MH → Prop) (H : MH) : Prop := Q ρ H
noncomputable def sub2K (prog : Program) (w : World) (h₀ : Heap) (d : Nat) (ρ : List (Str × MV)) (u v : MV) (Q : List (Str × MV) → MH → Prop) (j : MV) (H : MH) : Prop := Op3 prog w h₀ d setItem u j v H (sub3K ρ Q)
noncomputable def subK (prog : Program) (w : World) (h₀ : Heap) (d : Nat) (sc : Scope) (ρ : List (Str × MV)) (i : Expr) (v : MV) (Q : List (Str × MV) → MH → Prop) (u : MV) (H : MH) : Prop := E prog w h₀ d sc ρ i H (sub2K prog w h₀ d ρ u v Q)
/-- a store by a subscript -/
theorem As.sub {o i : Expr} {v : MV} {Q : List (Str × MV) → MH → Prop} (h : E prog w h₀ d sc ρ o H (subK prog w h₀ d sc ρ i v Q)) : As prog w h₀ d sc ρ (.Subscript o i pos) v H Q := by
  intro A env s W y a F R r
  rw [PySem.assign_Subscript]
  refine wpAny_bind (wpAny_holding (useG (h A env s W a F R) fun x s1 H1 W1 zz26 R1 F1 g1 m1 => xEA zz26 fun u q1 ru => wpAny_bind (wpAny_holding (useG (q1 A env s1 W1 a F1 R1) fun x2 s2 H2 W2 zz27 R2 F2 g2 m2 => xEA zz27 fun j q2 rj => ?_))))
  refine wpAny_bind (wpAny_standAt (wpAny_bind (wpAny_holding (useC (q2 A s2 W2 x x2 y a R2 (ru.grow g2) rj ((r.grow g1).grow g2)) fun _ s3 H3 W3 q3 R3 g3 m3 => release_ ?_))))
  exact (iEEEAAAA ρ H3 W3 q3 R3 (((g1.trans g2).weaken fun _ x => .inl x).trans (g3.weaken fun _ x => x.elim)) (F2.grow g3) ((m1.trans m2).trans m3))
end
end Mine
end L1ox

noncomputable section L1px
open PySem PySem.W PySem.Calls PyProof.Rows
set_option Elab.async false
set_option linter.unusedVariables false
namespace Mine

/-! lists under names -/
section
variable {prog : Program} {w : World} {h₀ : Heap} {d : Nat} {sc : Scope} {ρ : List (Str × MV)} {H : MH} {Q : MV → MH → Prop} {pos : Pos} {lo lo2 : Loc} {vs ws : List MV}

theorem list_at {W : Wd} {s : Shared} {x : Value} (R : Rel w h₀ W H s.heap) (e : H.get lo = some (.list vs)) (r : VR w H.next W s.heap (.loc lo) x) :
    ∃ a its n, x = .ref a ∧ W.mu lo = some a ∧ W.tau a = .own lo ∧ s.heap.get? a = some (listOf its n) ∧ VRA w H.next W s.heap vs its.toList := by
  refine xEAAEEA (R.obj lo _ e) fun a e1 e2 its n g z => ?_
  (refine xAEA (of_loc r) fun _ a' e3 ee1 => ?_; subst ee1)
  obtain rfl : a' = a := Option.some.inj (e3.symm.trans e1)
  exact (iEEEAAAA a' its n rfl e1 e2 g z)
/-- an own list is another -/
theorem list_put {W : Wd} {s : Shared} {a : Addr} {its : Array Value} {n : Nat} {f : Array Value → Array Value} {ws : List MV} {Qh : MH → Wd → Shared → Prop} (R : Rel w h₀ W H s.heap) (e : H.get lo = some (.list vs)) (e1 : W.mu lo = some a) (e2 : W.tau a = .own lo)
    (ho : s.heap.get? a = some (listOf its n)) (pv : VRA w H.next W s.heap ws (f its).toList) (q : Grow NoX H.next W s.heap (H.put lo (.list ws)).next W (s.heap.update a (Obj.mapSeq f)) → Qh (H.put lo (.list ws)) W { s with heap := s.heap.update a (Obj.mapSeq f) }) :
    OutC w h₀ H W s Qh { s with heap := s.heap.update a (Obj.mapSeq f) } := by
  have hs := Heap.SameBut.update s.heap a (Obj.mapSeq f)
  have ha : (s.heap.update a (Obj.mapSeq f)).get? a = some (listOf (f its) (if (f its).size == its.size then n else n + 1)) := IsL.update (h := s.heap) (l := a) ho f
  obtain ⟨R2, g2⟩ := Rel.putAt (X := NoX) R e (o' := .list ws) (h' := s.heap.update a (Obj.mapSeq f))
    (fun b ob x t => (hs.2 b (by (intro yy1; subst yy1); rw [e2] at t; cases t)).trans x) (fun b ob x t _ => (hs.2 b (by (intro yy2; subst yy2); rw [e2] at t; cases t)).trans x)
    (fun b ob l'' x t n => (hs.2 b (by (intro yy3; subst yy3); rw [e2] at t; injection t with t; exact n t.symm)).trans x)
    (fun b ob x => by
      by_cases q : b = a
      · subst q; exact ⟨_, ha⟩
      · exact ⟨ob, (hs.2 b q).trans x⟩) fun g => (iEAAEEA a e1 e2 _ _ ha (pv.grow g))
  exact ⟨_, W, q g2, R2, g2, ⟨rfl, rfl⟩⟩
theorem szOf {W : Wd} {s : Shared} {its : Array Value} (z : VRA w H.next W s.heap vs its.toList) : its.size = vs.length := by rw [z.length, Array.length_toList]

theorem GM.append (e : H.get lo = some (.list vs)) : GM prog w h₀ (.loc lo) "append" "list.append" H := by
  intro A s W x pl Z R rx z
  (refine xEEEAAAA (list_at R e rx) fun a its n ee2 e1 e2 g _ => ?_; subst ee2)
  exact getMethod_builtin (iEA _ g rfl) PySem.F.plainAttrs_list PySem.F.slot_list_append PySem.F.type_list_append (fun b e => by cases e; exact (iEA _ g rfl)) z
theorem GM.extend (e : H.get lo = some (.list vs)) : GM prog w h₀ (.loc lo) "extend" "list.extend" H := by
  intro A s W x pl Z R rx z
  (refine xEEEAAAA (list_at R e rx) fun a its n ee3 e1 e2 g _ => ?_; subst ee3)
  exact getMethod_builtin (iEA _ g rfl) PySem.F.plainAttrs_list PySem.F.slot_list_extend PySem.F.type_list_extend (fun b e => by cases e; exact (iEA _ g rfl)) z
theorem GM.pop (e : H.get lo = some (.list vs)) : GM prog w h₀ (.loc lo) "pop" "list.pop" H := by
  intro A s W x pl Z R rx z
  (refine xEEEAAAA (list_at R e rx) fun a its n ee4 e1 e2 g _ => ?_; subst ee4)
  exact getMethod_builtin (iEA _ g rfl) PySem.F.plainAttrs_list PySem.F.slot_list_pop PySem.F.type_list_pop (fun b e => by cases e; exact (iEA _ g rfl)) z

theorem C.append {m : MV} (e : H.get lo = some (.list vs)) (hl : vs.length ≤ 1000) (q : Q (.d .none) (H.put lo (.list (vs ++ [m])))) : C prog w h₀ d (.builtin "list.append") [.loc lo, m] H Q := C.mk2 <| by
  intro A s W x y ao R rx ry
  (refine xEEEAAAA (list_at R e rx) fun a its n ee5 e1 e2 g z => ?_; subst ee5)
  have hsz : its.size ≤ sizeLine := le1000 (by rw [szOf z]; exact hl)
  refine wpAny_call_entry slot_list_append (Heap.IsList.typeIs (iEAAE _ g rfl n rfl)) entry_list_append ?_ (args_list_append _ _)
  show wpAny _ _ (updateSeq a (·.push y) >>= fun _ => ret .none) _ _ s
  refine wpAny_bind (wpAny_updateSeq g rfl (wpAny_pure (iEA .none rfl (list_put R e e1 e2 g (by rw [Array.toList_push]; exact VRA.append (.cons ry .nil) z) fun _ => (iEA _ q vr_none)))) (hz := hsz))
theorem C.popN {m : MV} (e : H.get lo = some (.list (vs ++ [m]))) (hl : vs.length ≤ 999) (q : Q m (H.put lo (.list vs))) : C prog w h₀ d (.builtin "list.pop") [.loc lo] H Q := C.mk1 <| by
  intro A s W x ao R rx
  (refine xEEEAAAA (list_at R e rx) fun a its n ee6 e1 e2 g z => ?_; subst ee6)
  have hsz := szOf z
  rw [List.length_append, List.length_singleton] at hsz
  refine xEA (z.get (i := vs.length) (d := m) (by simp)) fun y hy ry => ?_
  have hy' : its[its.size - 1]? = some y := by rw [hsz, Nat.add_sub_cancel, ← Array.getElem?_toList]; exact hy
  have dl : its.toList.dropLast = (its.eraseIdxIfInBounds (its.size - 1)).toList := by
    rw [Array.toList_eraseIdxIfInBounds, ← Array.length_toList, List.eraseIdx_length_sub_one]
  refine call_meets PySem.F.slot_list_pop (iEA _ g rfl) PySem.F.entry_list_pop (PySem.F.args_list_pop_1 _) (PySem.MeetsSeq.list_pop_last a its n y hy' (le1000 (by lia))) ⟨g, ?_⟩
  refine list_put R e e1 e2 g (ws := vs) (f := fun xs => xs.eraseIdxIfInBounds (its.size - 1)) ?_ fun gg => (iEA m q (ry.grow gg))
  have := z.dropLast
  rw [List.dropLast_concat, dl] at this
  exact this
theorem short {a b : Nat} (h : a + b ≤ 1000) : ¬(Builtin.List.listTooLong (a + b) = true) := by
  unfold Builtin.List.listTooLong
  simp only [decide_eq_true_eq]
  exact Nat.not_lt.mpr (le1000 h)
theorem C.extend (ne : lo ≠ lo2) (e : H.get lo = some (.list vs)) (e' : H.get lo2 = some (.list ws)) (hl : vs.length + ws.length ≤ 1000) (q : Q (.d .none) (H.put lo (.list (vs ++ ws)))) : C prog w h₀ d (.builtin "list.extend") [.loc lo, .loc lo2] H Q := C.mk2 <| by
  intro A s W x y ao R rx ry
  (refine xEEEAAAA (list_at R e rx) fun a its n ee7 e1 e2 g z => ?_; subst ee7)
  (refine xEEEAAAA (list_at R e' ry) fun b its2 n2 ee8 e3 e4 g2 z2 => ?_; subst ee8)
  have h1 := szOf z
  have h2 := szOf z2
  refine call_meets PySem.F.slot_list_extend (iEA _ g rfl) PySem.F.entry_list_extend (PySem.F.args_list_extend_2 _ _) (PySem.AutoSeq1.list_extend_list_list_0 a its n b its2 n2 (by
      rw [Bool.and_eq_true]; (intro yy4; (refine xA yy4 fun _ z => ?_; clear yy4)); exact short (by lia) z) (le1000 (by lia)) (Nat.le_succ_of_le (le1000 (by lia)))) (iAA g g2 ?_)
  exact list_put R e e1 e2 g (f := fun x => x ++ its2) (by rw [Array.toList_append]; exact VRA.append z2 z) fun _ => (iEA _ q vr_none)
theorem Op3.setL {m : MV} {k : Nat} {Q : MH → Prop} (e : H.get lo = some (.list vs)) (hk : k < vs.length) (hl : vs.length ≤ 1000) (q : Q (H.put lo (.list (vs.set k m)))) : Op3 prog w h₀ d setItem (.loc lo) (.d (.int k)) m H Q := by
  intro A s W x y z ao R rx ry rz
  (refine xEEEAAAA (list_at R e rx) fun a its n ee9 e1 e2 g zz => ?_; subst ee9)
  (refine xE (of_int ry) fun t ee10 => ?_; subst ee10)
  have h1 := szOf zz
  refine ki_setAt g (by lia) (by lia) (by lia) ?_
  exact list_put R e e1 e2 g (by rw [Array.toList_setIfInBounds]; exact VRA.set rz zz _) fun _ => q

/-- a new list under a name, from a heap in which all stands -/
theorem Rel.allocAt {W : Wd} {s : Shared} {h' : Heap} {D : Addr} (R : Rel w h₀ W H s.heap) {l : Loc} (f : H.fresh l) {o : MO} (kp : ∀ b o, s.heap.get? b = some o → h'.get? b = some o) (hD : s.heap.get? D = none) (live : ∃ ob, h'.get? D = some ob)
    (k : ∀ n' W', Grow NoX H.next W s.heap n' W' h' → OR w n' W' h' l o D) :
    Rel w h₀ (W.own l D) (H.add l o) h' ∧ Grow NoX H.next W s.heap (H.add l o).next (W.own l D) h' := by
  have hnew : ∀ b o', s.heap.get? b = some o' → b ≠ D := fun b o' e q => by rw [q, hD] at e; cases e
  have g : Grow NoX H.next W s.heap (H.add l o).next (W.own l D) h' :=
    ⟨MH.next_add, fun l' b h1 e => fresh_mu R f h1 e, fun b o' e _ => ⟨o', kp b o' e⟩, fun b o' e _ => by simp [Wd.own, hnew b o' e], fun b o' e _ => kp b o' e, fun b o' e _ _ => kp b o' e⟩
  refine ⟨⟨fun b o' e => kp b o' (R.base b o' e), fun b o' e => (g.tag b o' (R.base b o' e) fun _ x => x).trans (R.old b o' e), fun b e => ?_, fun l' o' e => ?_, fun x e => ?_⟩, g⟩
  · by_cases q : b = D
    · subst q; exact live
    · refine xE (R.new b (by simpa [Wd.own, q] using e)) fun o' e' => ?_
      exact ⟨o', kp b o' e'⟩
  · by_cases q : l' = l
    · subst q
      rw [MH.get_add f] at e; cases e
      exact (iEAA D (by simp [Wd.own]) (by simp [Wd.own]) (k _ _ g))
    · refine xEAA (R.obj l' o' (MH.get_add_ne f q e)) fun a e1 e2 e3 => ?_
      refine xE e3.live fun ob' lv => ?_
      exact (iEAA a (g.loc l' a (MH.ok (MH.get_add_ne f q e)) e1) ((g.tag a ob' lv fun _ x => x).trans e2) (OR.grow g (fun b o'' eb _ => kp b o'' eb) e2 e3))
  · cases l with
    | r y =>
      by_cases q : x = y
      · subst q; simp [MH.add] at e
      · have e' : H.r x = none := by simpa [MH.add, q] using e
        have : Loc.r x ≠ Loc.r y := fun z => q (by injection z)
        simp [Wd.own, this, R.role x e']
    | tmp k =>
      have e' : H.r x = none := by simpa [MH.add] using e
      simp [Wd.own, R.role x e']
theorem sizeNone (h : Heap) : h.get? h.objs.size = none := by
  cases e : h.get? h.objs.size with
  | none => rfl
  | some o => exact absurd (Heap.lt_size e) (Nat.lt_irrefl _)
theorem newList_ {W : Wd} {s : Shared} {h' : Heap} {D : Addr} {its : Array Value} {n : Nat} (R : Rel w h₀ W H s.heap) (f : H.fresh lo) (kp : ∀ b o, s.heap.get? b = some o → h'.get? b = some o) (hD : s.heap.get? D = none) (ho : h'.get? D = some (listOf its n))
    (z : VRA w H.next W s.heap vs its.toList) (q : Q (.loc lo) (H.add lo (.list vs))) : OutC w h₀ H W s (Vl w Q (.ref D)) { s with heap := h' } := by
  refine xA (R.allocAt f (o := .list vs) kp hD ⟨_, ho⟩ fun n' W' g => (iEEA _ _ ho (z.grow g))) fun R2 g2 => ?_
  refine ⟨_, _, (iEA _ q ?_), R2, g2, ⟨rfl, rfl⟩⟩
  rw [VR]
  exact (iAEA (MH.ok_add f) _ (by simp [Wd.own]) rfl)
theorem C.listL {xs : List PyData} (f : H.fresh lo) (hl : xs.length ≤ 1000) (q : Q (.loc lo) (H.add lo (.list (xs.map .d)))) : C prog w h₀ d (.type "list") [.d (.list xs)] H Q := C.mk1 <| by
  intro A s W v ao R r
  (refine xEEEAAA (fz_list (of_d r)) fun b its n ee11 _ g z => ?_; subst ee11)
  refine call_list_seq b (.inl rfl) g rfl rfl (fun h' c' kp hD => ?_) (le1000 (by rw [← Array.length_toList, ← z.length]; exact hl))
  exact newList_ R f kp (sizeNone _) hD (VRA.of_fz z) q
theorem Op2.addN (ne : H.fresh lo) {la lb : Loc} (e : H.get la = some (.list vs)) (e' : H.get lb = some (.list ws)) (hl : vs.length + ws.length ≤ 1000) (q : Q (.loc lo) (H.add lo (.list (vs ++ ws)))) : Op2 prog w h₀ d (binaryOp .Add) (.loc la) (.loc lb) H Q := by
  intro A s W x y ao R rx ry
  (refine xEEEAAAA (list_at R e rx) fun a its n ee12 e1 e2 g z => ?_; subst ee12)
  (refine xEEEAAAA (list_at R e' ry) fun b its2 n2 ee13 e3 e4 g2 z2 => ?_; subst ee13)
  have h1 := szOf z
  have h2 := szOf z2
  refine P.add_list g g2 ?_ (le1000 (by lia))
  exact newList_ R ne (push_keep _ _) (sizeNone _) (Heap.get?_push_size _ rfl) (by rw [Array.toList_append]; exact VRA.append z2 z) q
theorem Op2.addL {xs ys : List PyData} (hl : xs.length + ys.length ≤ 1000) (q : Q (.d (.list (xs ++ ys))) H) : Op2 prog w h₀ d (binaryOp .Add) (.d (.list xs)) (.d (.list ys)) H Q := by
  intro A s W u v ao R ru rv
  (refine xEEEAAA (fz_list (of_d ru)) fun b1 v1 n1 ee14 f1 g1 z1 => ?_; subst ee14)
  (refine xEEEAAA (fz_list (of_d rv)) fun b2 v2 n2 ee15 f2 g2 z2 => ?_; subst ee15)
  have e1 := z1.length
  have e2 := z2.length
  refine P.add_list g1 g2 ?_ (le1000 (by simp only [← Array.length_toList, ← e1, ← e2]; exact hl))
  refine newSeq R fun g f => (iEA _ q ?_)
  exact vr_list (n := H.next) (w := w) (W := W) (h := s.heap.push (listOf (v1 ++ v2) 0)) (ds := xs ++ ys) (vs := (v1 ++ v2).toList) (a := s.heap.objs.size) (e := 0) f (by rw [Array.toArray_toList]; exact Heap.get?_push_size s.heap (o := listOf (v1 ++ v2) 0) rfl)
    (by rw [Array.toList_append]; exact FzA.append (z2.mono g.keeps1) (z1.mono g.keeps1))
theorem fz_ints {F : Addr → Prop} {h : Heap} : ∀ {xs : List Int} {vs : List Value}, FzA F h (xs.map .int) vs → IntsAre vs xs
  | [], vs, x => by rw [List.map_nil, FzA] at x; subst x; exact .nil
  | i :: r, vs, x => by
    rw [List.map_cons, FzA] at x
    (refine xEEAA x fun v q ee16 y z => ?_; clear x; subst ee16)
    rw [Fz] at y
    (refine xE y fun t ee17 => ?_; clear y; subst ee17)
    exact .cons i t (fz_ints z)
/-- the sum, the greatest: some int -/
theorem C.sum {xs : List Int} (q : ∀ n, Q (.d (.int n)) H) : C prog w h₀ d (.builtin "sum") [.d (.list (xs.map .int))] H Q := C.mk1 <| by
  intro A s W v ao R r
  (refine xEEEAAA (fz_list (of_d r)) fun b its n ee18 _ g z => ?_; subst ee18)
  refine xE ((fz_ints z).allInts.items) fun ys hx => ?_
  rw [Array.toArray_toList] at hx
  subst hx
  exact sum_intListG ao.handled (iEAAE _ g rfl n rfl) fun h' tk t' hk => ⟨H, W, (iEA _ (q _) vr_int), R.keep hk, .keep hk, ⟨rfl, rfl⟩⟩
theorem C.max {xs : List Int} (hne : xs ≠ []) (q : ∀ n, Q (.d (.int n)) H) : C prog w h₀ d (.builtin "max") [.d (.list (xs.map .int))] H Q := C.mk1 <| by
  intro A s W v ao R r
  have hlen : 0 < (xs.map PyData.int).length := by cases xs with | nil => exact absurd rfl hne | cons _ _ => simp
  (refine xEEEAAA (fz_list (of_d r)) fun b its n ee19 _ g z => ?_; subst ee19)
  have hz := z.length
  refine xE ((fz_ints z).allInts.items) fun ys hx => ?_
  rw [Array.toArray_toList] at hx
  subst hx
  refine call_max_walk (iter_intList (iEAAE _ g rfl n rfl) fun s₂ e st hfp hlI => ?_)
  subst e
  refine (iEEEEEEEAAAAAA _ _ _ _ _ _ _ rfl (Walks.list (A := A.in1) ao.handled _ b hlI (intItems ys)) st hfp (by have hz2 := hz; simp only [Array.length_toList, List.size_toArray] at hz2; lia) (CmpOf.ints_gt (numAt ys) (fun _ _ => intItems_at)) (fun v h' tk hP hk => ?_))
  (refine xE (intItems_at hP) fun t ee20 => ?_; subst ee20)
  have hk' := old_kept hk
  exact ⟨H, W, (iEA _ (q _) vr_int), R.keep hk', .keep hk', ⟨rfl, rfl⟩⟩
end
end Mine
end L1px

noncomputable section L1qx
open PySem PySem.W PySem.Calls PyProof.Rows
set_option Elab.async false
set_option linter.unusedVariables false
namespace Mine

/-! dicts by tuples of strs and ints -/
noncomputable def atomIs : Atom → Value → Bool
  | .s x, v => Value.isStrOf x v
  | .i k, v => Value.isInt k v
theorem atomIs_inj (v : Value) : ∀ (a b : Atom), atomIs a v = true → atomIs b v = true → a = b
  | .s x, .s y, h, h' => by rw [Value.isStrOf_inj v x y h h']
  | .i x, .i y, h, h' => by rw [Value.isInt_inj v x y h h']
  | .s x, .i y, h, h' => by (refine xE (Value.isStrOf_shape h) fun t ee1 => ?_; subst ee1); cases h'
  | .i x, .s y, h, h' => by (refine xE (Value.isStrOf_shape h') fun t ee2 => ?_; subst ee2); cases h
section
variable {prog : Program} {w : World} {A : Around} {E : Value → Shared → Prop} {s : Shared}
theorem eqBool_mixed {a b : Value} {Q : Bool → Shared → Prop} (h1 : ∃ x t, a = .str x t) (h2 : ∃ y u, b = .int y u) (h : Q false s) : wpAny (model prog w) A (PySem.eqBool a b) Q E s ∧ wpAny (model prog w) A (PySem.eqBool b a) Q E s := by
  (refine xEE h1 fun x t ee3 => ?_; clear h1; subst ee3)
  (refine xEE h2 fun y u ee4 => ?_; clear h2; subst ee4)
  constructor
  · unfold PySem.eqBool
    show wpAny _ _ (richCompare .Eq (.str x t) (.int y u) >>= fun v => truthOfDropped v) Q E s
    refine wpAny_bind (m := richCompare .Eq (.str x t) (.int y u)) ?_
    exact EqMixed.eq_str_int (a := x) (t := t) (b := y) (u := u) (wpAny_truthy_bool h)
  · unfold PySem.eqBool
    show wpAny _ _ (richCompare .Eq (.int y u) (.str x t) >>= fun v => truthOfDropped v) Q E s
    refine wpAny_bind (m := richCompare .Eq (.int y u) (.str x t)) ?_
    exact EqMixed.eq_int_str (a := y) (t := u) (b := x) (u := t) (wpAny_truthy_bool h)
end
noncomputable def mixKind (prog : Program) (w : World) : PySem.KeyKind prog w Atom where
  is := atomIs
  hash := atomHash w
  inj := atomIs_inj
  byValue := fun k v h => by
    cases k with
    | s x => (refine xE (Value.isStrOf_shape h) fun t ee5 => ?_; subst ee5); rfl
    | i x => (refine xE (Value.isInt_shape h) fun t ee6 => ?_; subst ee6); rfl
  pyHash := fun {_ _ _ k _ _} hv h => by
    cases k with
    | s x => (refine xE (Value.isStrOf_shape hv) fun t ee7 => ?_; subst ee7); exact wpAny_pyHash_str h
    | i x => (refine xE (Value.isInt_shape hv) fun t ee8 => ?_; subst ee8); exact wpAny_pyHash_int h
  eqBool := fun {_ _ _ a b _ _ _} hu hv h => by
    cases a with
    | s x =>
      (refine xE (Value.isStrOf_shape hu) fun t ee9 => ?_; subst ee9)
      cases b with
      | s y => (refine xE (Value.isStrOf_shape hv) fun u ee10 => ?_; subst ee10); exact wpAny_eqBool_str (by simpa using h)
      | i y => (refine xE (Value.isInt_shape hv) fun u ee11 => ?_; subst ee11); exact (eqBool_mixed (iEE _ _ rfl) (iEE _ _ rfl) (by simpa using h)).1
    | i x =>
      (refine xE (Value.isInt_shape hu) fun t ee12 => ?_; subst ee12)
      cases b with
      | s y => (refine xE (Value.isStrOf_shape hv) fun u ee13 => ?_; subst ee13); exact (eqBool_mixed (iEE _ _ rfl) (iEE _ _ rfl) (by simpa using h)).2
      | i y => (refine xE (Value.isInt_shape hv) fun u ee14 => ?_; subst ee14); exact wpAny_eqBool_int (by simpa [beq_iff_eq, decide_eq_true_eq, Bool.beq_eq_decide_eq] using h)
  «strs» := fun k x t v h => by
    cases k with
    | s y =>
      have h : Value.isStrOf y (.str x t) = true := h
      refine xE (Value.isStrOf_shape h) fun u hu => ?_
      injection hu with hx
      subst hx
      cases v <;> rfl
    | i y => exact nomatch h

theorem fz_items {prog : Program} {w : World} {F : Addr → Prop} {h : Heap} : ∀ {ks : List Atom} {vs : List Value}, FzA F h (ks.map Atom.py) vs → ItemsAre (mixKind prog w) ks vs
  | [], vs, x => by rw [List.map_nil, FzA] at x; subst x; exact .nil
  | k :: r, vs, x => by
    rw [List.map_cons, FzA] at x
    (refine xEEAA x fun v q ee15 y z => ?_; clear x; subst ee15)
    refine .cons ?_ (fz_items z)
    cases k with
    | s a => rw [Atom.py, Fz] at y; (refine xE y fun t ee16 => ?_; clear y; subst ee16); show Value.isStrOf a (.str a t) = true; simp [Value.isStrOf]
    | i a => rw [Atom.py, Fz] at y; (refine xE y fun t ee17 => ?_; clear y; subst ee17); show Value.isInt a (.int a t) = true; simp [Value.isInt]
theorem fz_key {prog : Program} {w : World} {F : Addr → Prop} {h : Heap} {ks : List Atom} {v : Value} (x : Fz F h (.tuple (ks.map Atom.py)) v) : ∃ a, v = .ref a ∧ F a ∧ IsTupleKey (mixKind prog w) h ks a := by
  (refine xEEEAAA (fz_tuple x) fun a vs n ee18 f g z => ?_; subst ee18)
  exact (iEAAEEEAAA a rfl f _ vs n g rfl rfl (fz_items z))

section
variable {w : World} {n : Nat} {W : Wd} {h : Heap}
noncomputable def PairH (w : World) (n : Nat) (W : Wd) (h : Heap) : List (List Atom × MV) → List (List Atom × Addr × Value) → Prop
  | [], vs => vs = []
  | (k, m) :: r, vs => ∃ a v r', vs = (k, a, v) :: r' ∧ Fz W.free h (.tuple (k.map Atom.py)) (.ref a) ∧ VR w n W h m v ∧ PairH w n W h r r'
theorem PairH.keys : ∀ {l : List (List Atom × MV)} {vs : List (List Atom × Addr × Value)}, PairH w n W h l vs → vs.map (·.1) = l.map (·.1)
  | [], vs, x => by rw [PairH] at x; subst x; rfl
  | (k, m) :: r, vs, x => by
    rw [PairH] at x
    (refine xEEEAAA x fun a v r' ee19 _ _ y => ?_; clear x; subst ee19)
    simp [y.keys]
theorem PairH.length {l : List (List Atom × MV)} {vs : List (List Atom × Addr × Value)} (x : PairH w n W h l vs) : vs.length = l.length := by
  have := congrArg List.length x.keys; simpa using this
theorem PairH.get {k : List Atom} : ∀ {l : List (List Atom × MV)} {vs : List (List Atom × Addr × Value)}, PairH w n W h l vs → (getK l k = none ∧ atKey vs k = none) ∨ ∃ m p, getK l k = some m ∧ atKey vs k = some p ∧ VR w n W h m p.2
  | [], vs, x => by rw [PairH] at x; subst x; exact .inl ⟨rfl, rfl⟩
  | (k', m) :: r, vs, x => by
    rw [PairH] at x
    (refine xEEEAAA x fun a v r' ee20 f y z => ?_; clear x; subst ee20)
    by_cases q : k' = k
    · subst q; exact .inr (iEEAA m ((a, v)) (by simp [getK]) (by simp [atKey]) y)
    · have e1 : getK ((k', m) :: r) k = getK r k := by simp [getK, q]
      have e2 : atKey ((k', a, v) :: r') k = atKey r' k := by simp [atKey, q]
      rw [e1, e2]
      exact z.get
theorem PairH.snoc {k : List Atom} {m : MV} {v : Value} {a : Addr} (f : Fz W.free h (.tuple (k.map Atom.py)) (.ref a)) (y : VR w n W h m v) : ∀ {l : List (List Atom × MV)} {vs : List (List Atom × Addr × Value)}, PairH w n W h l vs → PairH w n W h (l ++ [(k, m)]) (vs ++ [(k, a, v)])
  | [], vs, x => by rw [PairH] at x; subst x; rw [List.nil_append, PairH]; exact (iEEEAAA a v ([]) rfl f y (by rw [PairH]))
  | (k', m') :: r, vs, x => by
    rw [PairH] at x
    (refine xEEEAAA x fun a' v' r' ee21 f' b c => ?_; clear x; subst ee21)
    rw [List.cons_append, PairH]
    exact (iEEEAAA a' v' _ rfl f' b (PairH.snoc f y c))
theorem PairH.grow {X : Addr → Prop} {n' : Nat} {W' : Wd} {h' : Heap} (g : Grow X n W h n' W' h') : ∀ {l : List (List Atom × MV)} {vs : List (List Atom × Addr × Value)}, PairH w n W h l vs → PairH w n' W' h' l vs
  | [], vs, x => by rw [PairH] at x ⊢; exact x
  | (k', m') :: r, vs, x => by
    rw [PairH] at x ⊢
    (refine xEEEAAA x fun a v' r' e f a' b => ?_; clear x)
    exact (iEEEAAA a v' r' e (f.mono g.keeps1) (a'.grow g) (b.grow g))
theorem dictT_to {prog : Program} {lo : Loc} {l : List (List Atom × MV)} {a : Addr} (x : OR w n W h lo (.dictT l) a) : (∃ xs, h.DictOfH (tupleKind (mixKind prog w)) a xs ∧ PairH w n W h l xs) ∧ (a == sysModules) = false := by
  (refine xEEAAA x fun es e g en nd ns => ?_; clear x)
  refine ⟨?_, ns⟩
  suffices H : ∀ (l : List (List Atom × MV)) (es : List DictEntry), EntT w n W h l es → ∃ xs, es = xs.map (entryOfKey (tupleKind (mixKind prog w))) ∧ (∀ x ∈ xs, (tupleKind (mixKind prog w)).is h x.1 x.2.1) ∧ PairH w n W h l xs by
    refine xEAA (H l es en) fun xs k1 k2 k3 => ?_
    exact (iEA xs ((iEEEAAAAA _ es.toArray e g ((iAA rfl rfl rfl)) rfl (by simpa using k1) k2 (by rw [k3.keys]; exact nd))) k3)
  intro l
  induction l with
  | nil => intro es en; rw [EntT] at en; subst en; exact (iEAA ([]) rfl (by simp) (by rw [PairH]))
  | cons p r ih =>
    obtain ⟨k, m⟩ := p
    intro es en
    rw [EntT] at en
    (refine xEEAAAA en fun e es' ee22 hk hh hv en' => ?_; clear en; subst ee22)
    refine xEAA (ih es' en') fun xs k1 k2 k3 => ?_
    refine xEAA (fz_key (prog := prog) (w := w) hk) fun b eb fb kb => ?_
    refine (iEAA ((k, b, e.val) :: xs) ?_ ?_ ?_)
    · rw [List.map_cons, ← k1]
      congr 1
      obtain ⟨eh, ek, ev⟩ := e
      simp only at eb hh
      subst eb hh
      rfl
    · intro x hx
      rcases List.mem_cons.mp hx with rfl | hx
      · exact kb
      · exact k2 x hx
    · rw [PairH]; exact (iEEEAAA b e.val xs rfl (eb ▸ hk) hv k3)
theorem dictT_of {prog : Program} {lo : Loc} {l : List (List Atom × MV)} {a : Addr} {xs : List (List Atom × Addr × Value)} (x : h.DictOfH (tupleKind (mixKind prog w)) a xs) (pv : PairH w n W h l xs) (ns : (a == sysModules) = false) : OR w n W h lo (.dictT l) a := by
  (refine xEEEAAAAA x fun o es ep ho hx hd he his nd => ?_; clear x)
  refine (iEEAAA es.toList ep (by rw [ho, exactD hx hd]) ?_ (by rw [← pv.keys]; exact nd) ns)
  rw [he]
  clear he his nd
  induction l generalizing xs with
  | nil => rw [PairH] at pv; subst pv; rw [EntT]; rfl
  | cons p r ih =>
    obtain ⟨k, m⟩ := p
    rw [PairH] at pv
    (refine xEEEAAA pv fun b v r' ee23 f hv pv' => ?_; clear pv; subst ee23)
    rw [List.map_cons, EntT]
    exact (iEEAAAA _ _ rfl f rfl hv (ih pv'))
end

section
variable {prog : Program} {w : World} {h₀ : Heap} {d : Nat} {sc : Scope} {ρ : List (Str × MV)} {H : MH} {Q : MV → MH → Prop} {pos : Pos} {lo : Loc} {l : List (List Atom × MV)} {k : List Atom}
theorem dictT_at {W : Wd} {s : Shared} {x : Value} (R : Rel w h₀ W H s.heap) (e : H.get lo = some (.dictT l)) (r : VR w H.next W s.heap (.loc lo) x) :
    ∃ a xs, x = .ref a ∧ W.mu lo = some a ∧ W.tau a = .own lo ∧ s.heap.DictOfH (tupleKind (mixKind prog w)) a xs ∧ PairH w H.next W s.heap l xs ∧ (a == sysModules) = false := by
  refine xEAA (R.obj lo _ e) fun a e1 e2 o => ?_
  (refine xAEA (of_loc r) fun _ a' e3 ee24 => ?_; subst ee24)
  obtain rfl : a' = a := Option.some.inj (e3.symm.trans e1)
  (refine xA (dictT_to (prog := prog) o) fun zz25 q3 => ?_; obtain ⟨kvs, q1, q2⟩ := zz25)
  exact (iEEAAAAA a' kvs rfl e1 e2 q1 q2 q3)
theorem dictT_put {W : Wd} {s : Shared} {h' : Heap} {a : Addr} {l' : List (List Atom × MV)} {xs' : List (List Atom × Addr × Value)} {Qh : MH → Wd → Shared → Prop} {tk : Nat} (R : Rel w h₀ W H s.heap) (e : H.get lo = some (.dictT l)) (e1 : W.mu lo = some a) (e2 : W.tau a = .own lo)
    (hs : Heap.SameBut a s.heap h') (hd : h'.DictOfH (tupleKind (mixKind prog w)) a xs') (ns : (a == sysModules) = false) (pv : PairH w H.next W s.heap l' xs') (q : Grow NoX H.next W s.heap (H.put lo (.dictT l')).next W h' → Qh (H.put lo (.dictT l')) W { s with heap := h', toks := tk }) :
    OutC w h₀ H W s Qh { s with heap := h', toks := tk } := by
  have ha : ∃ o, h'.get? a = some o := by (refine xEEEA hd fun o _ _ ho _ => ?_; clear hd); exact ⟨o, ho⟩
  have gg : Grow NoX H.next W s.heap (H.put lo (.dictT l')).next W h' → OR w (H.put lo (.dictT l')).next W h' lo (.dictT l') a := fun g => dictT_of hd (pv.grow g) ns
  obtain ⟨R2, g2⟩ := Rel.putAt (X := NoX) R e (o' := .dictT l') (h' := h')
    (fun b ob x t => (hs.2 b (by (intro yy1; subst yy1); rw [e2] at t; cases t)).trans x) (fun b ob x t _ => (hs.2 b (by (intro yy2; subst yy2); rw [e2] at t; cases t)).trans x)
    (fun b ob l'' x t n => (hs.2 b (by (intro yy3; subst yy3); rw [e2] at t; injection t with t; exact n t.symm)).trans x)
    (fun b ob x => by
      by_cases q : b = a
      · subst q; exact ha
      · exact ⟨ob, (hs.2 b q).trans x⟩) fun g => (iEAA a e1 e2 (gg g))
  exact ⟨_, W, q g2, R2, g2, ⟨rfl, rfl⟩⟩
theorem room1 {A : Around} (ao : AOk d A) : A.in1.units < cLine := by have := ao.units; show A.units + 1 < cLine; unfold cLine; lia
theorem Op2.inDT (e : H.get lo = some (.dictT l)) (q : Q (.d (.bool (getK l k).isSome)) H) : Op2 prog w h₀ d (compareOp .In) (.d (.tuple (k.map Atom.py))) (.loc lo) H Q := by
  intro A s W y x ao R ry rx
  (refine xEEAAAAA (dictT_at (prog := prog) R e rx) fun a xs ee26 e1 e2 hd pv ns => ?_; subst ee26)
  (refine xEAA (fz_key (prog := prog) (w := w) (of_d ry)) fun b ee27 fb kb => ?_; subst ee27)
  refine wpAny_in_heap (knd := tupleKind (mixKind prog w)) (room1 ao) kb ns hd (.toks R rfl ⟨rfl, rfl⟩ (iEA _ q ?_))
  rcases pv.get (k := k) with ⟨a, b⟩ | ⟨m, v, a, b, c⟩ <;> rw [a, b] <;> exact vr_bool
theorem Op2.itemDT {value slice : Expr} {m : MV} (e : H.get lo = some (.dictT l)) (hm : getK l k = some m) (q : Q m H) (hs : PlainSubV slice := by intro _ _; rfl) : Op2 prog w h₀ d (subscriptTail value slice) (.loc lo) (.d (.tuple (k.map Atom.py))) H Q := by
  intro A s W x y ao R rx ry
  (refine xEEAAAAA (dictT_at (prog := prog) R e rx) fun a xs ee28 e1 e2 hd pv ns => ?_; subst ee28)
  (refine xEAA (fz_key (prog := prog) (w := w) (of_d ry)) fun b ee29 fb kb => ?_; subst ee29)
  rcases pv.get (k := k) with ⟨a', b'⟩ | ⟨m', v, a', b', c⟩
  · rw [hm] at a'; cases a'
  · rw [hm] at a'; cases a'
    exact tail_any hd.typeIs slot_dict_getitem.lookup (wpAny_getItem_heap (knd := tupleKind (mixKind prog w)) (room1 ao) kb hd b' (.toks R rfl ⟨rfl, rfl⟩ (iEA _ q c))) (hs _ _)
theorem Op3.setDT {m : MV} {Q : MH → Prop} (e : H.get lo = some (.dictT l)) (hl : l.length ≤ 1000) (hn : getK l k = none) (q : Q (H.put lo (.dictT (l ++ [(k, m)])))) : Op3 prog w h₀ d setItem (.loc lo) (.d (.tuple (k.map Atom.py))) m H Q := by
  intro A s W x y z ao R rx ry rz
  (refine xEEAAAAA (dictT_at (prog := prog) R e rx) fun a xs ee30 e1 e2 hd pv ns => ?_; subst ee30)
  (refine xEAA (fz_key (prog := prog) (w := w) (of_d ry)) fun b ee31 fb kb => ?_; subst ee31)
  rcases pv.get (k := k) with ⟨a', b'⟩ | ⟨m', v, a', b', c⟩
  · refine wpAny_setItem_heap (knd := tupleKind (mixKind prog w)) (room1 ao) kb hd (fun h' hd' hs => dictT_put R e e1 e2 hs hd' ns ?_ fun _ => q) (le1000 (by rw [pv.length]; exact hl))
    rw [storedH_new b']
    exact pv.snoc (of_d ry) rz
  · rw [hn] at a'; cases a'
theorem setdefH {K : Type} [DecidableEq K] {knd : HeapKind prog w K} {A : Around} {E : Value → Shared → Prop} {s : Shared} {a b : Addr} {xs : List (K × Addr × Value)} {k : K} {v : Value} {Z : Value → Shared → Prop} (hu : knd.room A) (hkey : knd.is s.heap k b) (hm : s.heap.DictOfH knd a xs)
    (h1 : ∀ p, atKey xs k = some p → Z p.2 { s with toks := s.toks + knd.draws k })
    (h2 : atKey xs k = none → ∀ h', h'.DictOfH knd a (xs ++ [(k, b, v)]) → Heap.SameBut a s.heap h' → Z v { s with heap := h', toks := s.toks + knd.draws k }) (hl : xs.length ≤ sizeLine) :
    wpAny (model prog w) A (dictSetDefault a (.ref b) v) Z E s := by
  (refine xEEEAAAAA hm fun o es ep ho hc hd he his hn => ?_; clear hm)
  unfold dictSetDefault
  try with_reducible refine wpAny_holding ?_
  refine wpAny_bind (knd.pyHash hu hkey ?_)
  refine wpAny_bind (wpAny_dictFind_heap (s := { s with toks := s.toks + knd.draws k }) hu hkey ho hd he his hn ?_ ?_)
  · intro hno
    have hnot : k ∉ xs.map (·.1) := not_mem_keys_of_get hno
    refine wpAny_bind (wpAny_rule (wpAny_bind (wpAny_updateDictKeys (hz := by have e := size_of_entries he; lia) (s := { s with toks := s.toks + knd.draws k }) ho hd (wpAny_pure (h2 (atKey_none_of_get hno) _ (iEEEAAAAA _ _ (ep + 1) (Heap.get?_update_self _ ho (Obj.isFreed_of_dict (Obj.data_mapDictKeys hd _))) (
      hc.mapDictKeys _) (Obj.data_mapDictKeys hd _) ?_ ?_ ?_) (Heap.SameBut.update ..))))))
    · simp [he, entryOfKey]
    · intro x hx
      rcases List.mem_append.mp hx with hx | hx
      · exact knd.keeps (his x hx) ho hd (Heap.SameBut.update ..)
      · simp only [List.mem_singleton] at hx
        subst hx
        exact knd.keeps hkey ho hd (Heap.SameBut.update ..)
    · rw [List.map_append, List.nodup_append]
      refine (iAA hn (by simp) ?_)
      intro x hx y hy
      simp only [List.map_cons, List.map_nil, List.mem_singleton] at hy
      subst hy
      exact fun e => hnot (e ▸ hx)
  · intro j p hj
    refine wpAny_bind (wpAny_dictEntries (s := { s with toks := s.toks + knd.draws k }) ho hd ?_)
    rw [entry_at he j, hj]
    exact wpAny_bind (wpAny_rule (wpAny_pure (h1 p (atKey_of_get hn hj))))
theorem GM.setdef (e : H.get lo = some (.dictT l)) : GM prog w h₀ (.loc lo) "setdefault" "dict.setdefault" H := by
  intro A s W x pl Z R rx z
  (refine xEEAAAAA (dictT_at (prog := prog) R e rx) fun a xs ee32 e1 e2 hd pv ns => ?_; subst ee32)
  exact getMethod_builtin hd.typeIs PySem.F.plainAttrs_dict PySem.F.slot_dict_setdefault PySem.F.type_dict_setdefault (dictOfH_noDict hd) z
theorem C.setdef {m : MV} (e : H.get lo = some (.dictT l)) (hl : l.length ≤ 1000) (q : match getK l k with | some m' => Q m' H | none => Q m (H.put lo (.dictT (l ++ [(k, m)])))) :
    C prog w h₀ d (.builtin "dict.setdefault") [.loc lo, .d (.tuple (k.map Atom.py)), m] H Q := by
  intro A s W xs ao R V
  rw [VRA] at V
  obtain ⟨x, r, rfl, rx, V⟩ := V
  rw [VRA] at V
  obtain ⟨y, r, rfl, ry, V⟩ := V
  rw [VRA] at V
  obtain ⟨z, r, rfl, rz, V⟩ := V
  rw [VRA] at V; subst V
  (refine xEEAAAAA (dictT_at (prog := prog) R e rx) fun a xs ee33 e1 e2 hd pv ns => ?_; subst ee33)
  (refine xEAA (fz_key (prog := prog) (w := w) (of_d ry)) fun b ee34 fb kb => ?_; subst ee34)
  refine call_meetsIn (S := fun A' R' s' => A' = A ∧ s' = s ∧ R' = wants (fun x s' => OutC w h₀ H W s (Vl w Q x) s') Bot) PySem.F.slot_dict_setdefault hd.typeIs PySem.F.entry_dict_setdefault (PySem.F.args_dict_setdefault_3 _ _ _) (.of_wp fun A' R' s' hh => ?_) (iAA rfl rfl rfl)
  (refine xAA hh fun ee35 ee36 ee37 => ?_; clear hh; subst ee35; subst ee36; subst ee37)
  unfold Builtin.«dict.setdefault»
  refine wpAny_bind ?_
  unfold Builtin.Dict.keyAndDefault
  refine wpAny_bind (wpAny_notOrdered_dict hd.typeIs ?_)
  show wpAny _ _ (pure (a, Value.ref b, some z)) _ _ _
  refine wpAny_pure ?_
  show wpAny _ _ (if (a == sysModules) = true then _ else (dictSetDefault a (.ref b) z >>= _)) _ _ _
  rw [if_neg (by rw [ns]; exact Bool.false_ne_true)]
  refine wpAny_bind (setdefH (knd := tupleKind (mixKind prog w)) (room1 ao) kb hd (fun p hp => ?_) (fun hn h' hd' hs => ?_) (le1000 (by rw [pv.length]; exact hl)))
  · rcases pv.get (k := k) with ⟨a', b'⟩ | ⟨m', v, a', b', c⟩
    · rw [hp] at b'; cases b'
    · rw [hp] at b'; cases b'
      rw [a'] at q
      exact wpAny_pure (iEA p.2 rfl (.toks R rfl ⟨rfl, rfl⟩ (iEA _ q c)))
  · rcases pv.get (k := k) with ⟨a', b'⟩ | ⟨m', v, a', b', c⟩
    · rw [a'] at q
      exact wpAny_pure (iEA z rfl (dictT_put R e e1 e2 hs hd' ns (pv.snoc (of_d ry) rz) fun g => (iEA m q (rz.grow g))))
    · rw [hn] at b'; cases b'
end
end Mine
end L1qx

noncomputable section L1rx
open PySem PySem.W PySem.Calls PyProof.Rows
set_option Elab.async false
set_option linter.unusedVariables false
namespace Mine

section
variable {prog : Program} {w : World} {h₀ : Heap} {d : Nat} {sc : Scope} {ρ : List (Str × MV)} {H : MH} {Q : MV → MH → Prop} {pos : Pos}

/-! unpacking -/
noncomputable def Unp (prog : Program) (w : World) (h₀ : Heap) (d : Nat) (v : MV) (items : List MV) (H : MH) : Prop :=
  ∀ A s W x, AOk d A → Rel w h₀ W H s.heap → VR w H.next W s.heap v x → wpAny (model prog w) A (unpackItems x items.length none) (fun ys s' => ∃ W', VRA w H.next W' s'.heap items ys ∧ Rel w h₀ W' H s'.heap ∧ Grow NoX H.next W s.heap H.next W' s'.heap ∧ Sim s s') Bot s
theorem extKeep {h h' : Heap} (x : Heap.ExtBut h.objs.size h h') : ∀ b o, h.get? b = some o → h'.get? b = some o := fun b o e => x b o (Nat.ne_of_lt (Heap.lt_size e)) e
theorem Unp.tup {vs : List MV} : Unp prog w h₀ d (.tup vs) vs H := by
  intro A s W x ao R r
  rw [VR] at r
  (refine xEEEAAA r fun a its n ee1 f g z => ?_; clear r; subst ee1)
  rw [szOf z |>.symm]
  refine wpAny_unpackItems_tuple ao.handled (iEAAE _ g rfl n rfl) fun h' he => (iEAAA W (z.grow (X := NoX) (.keep (extKeep he))) (R.keep (extKeep he)) (.keep (extKeep he)) (⟨rfl, rfl⟩))
theorem Unp.tuple {xs : List PyData} : Unp prog w h₀ d (.d (.tuple xs)) (xs.map .d) H := by
  intro A s W x ao R r
  (refine xEEEAAA (fz_tuple (of_d r)) fun a its n ee2 f g z => ?_; subst ee2)
  have z' : VRA w H.next W s.heap (xs.map .d) its.toList := VRA.of_fz z
  rw [szOf z' |>.symm]
  refine wpAny_unpackItems_tuple ao.handled (iEAAE _ g rfl n rfl) fun h' he => (iEAAA W (z'.grow (X := NoX) (.keep (extKeep he))) (R.keep (extKeep he)) (.keep (extKeep he)) (⟨rfl, rfl⟩))
theorem Unp.list {xs : List PyData} (hl : xs.length ≤ 1000) : Unp prog w h₀ d (.d (.list xs)) (xs.map .d) H := by
  intro A s W x ao R r
  refine xEEEAAA (fz_list (of_d r)) fun b its n hx f g z => ?_
  have hT : s.TypeIs x "list" := hx ▸ (iEA _ g rfl)
  unfold unpackItems
  refine wpAny_bind ?_
  unfold notIterableAtAll
  refine wpAny_bind (wpAny_specialOf hT slot_list_iter.lookup ?_)
  refine wpAny_pure ?_
  simp only [Bool.false_eq_true, if_false]
  refine wpAny_bind (wpAny_holding (wpAny_mono (Iter.list (prog := prog) (d := d) (H := H) (xs := xs) (Nat.le_trans hl (by decide)) A s W x ao R r) (fun it s2 zz4 => xEEEEEEAAAAA zz4 fun W2 Ia fp wr P St e R2 g2 m2 hnew T => ?_) fun _ _ e => e))
  subst e
  have tagw0 : ∀ b ∈ wr, W2.tau b = .frame := T.wl
  have draw_ : ∀ (m i : Nat) (s' : Shared) (W' : Wd) (Z : List Value → Shared → Prop), i + m = (xs.map MV.d).length → St i s'.heap → Rel w h₀ W' H s'.heap → Grow (fun b => b ∈ wr) H.next W2 s2.heap H.next W' s'.heap → Sim s2 s' → (∀ b ∈ fp, W'.tau b = W2.tau b) →
      (∀ ys s3 W3, VRA w H.next W3 s3.heap ((xs.map MV.d).drop i) ys → St (i + m) s3.heap → Rel w h₀ W3 H s3.heap → Grow (fun b => b ∈ wr) H.next W2 s2.heap H.next W3 s3.heap → Sim s2 s3 → (∀ b ∈ fp, W3.tau b = W2.tau b) → Z ys s3) → wpAny (model prog w) A (draw (.ref Ia) m) Z Bot s' := by
    intro m
    induction m with
    | zero =>
      intro i s' W' Z hi st R' g' m' tg k
      refine wpAny_pure (k _ s' W' ?_ st R' g' m' tg)
      rw [List.drop_of_length_le (by lia)]
      exact .nil
    | succ m ih =>
      intro i s' W' Z hi st R' g' m' tg k
      have hlt : i < (xs.map MV.d).length := by lia
      unfold draw
      refine wpAny_bind (T.walk.item i s' _ _ hlt st fun v h₁ tk hP st₁ hk₁ => ?_)
      have wrfr : ∀ b ∈ wr, W'.tau b = .frame := fun b hb => (tg b (T.walk.sub b hb)).trans (T.wl b hb)
      have nwr : ∀ b, (W'.tau b = .frame → ¬ (b ∈ wr)) → b ∉ wr := fun b f q => f (wrfr b q) q
      have g3 : Grow (fun b => b ∈ wr) H.next W' s'.heap H.next W' h₁ := by
        refine ⟨Nat.le_refl _, fun _ _ _ e => e, fun b o e f => ⟨o, hk₁ b o (nwr b f) e⟩, fun _ _ _ _ => rfl, fun b o e t => hk₁ b o (fun q => ?_) e, fun b o e _ nx => hk₁ b o nx e⟩
        rw [wrfr b q] at t; cases t
      have R3 : Rel w h₀ W' H h₁ := R'.grow g3 (fun b o l' e t => hk₁ b o (fun q => by rw [wrfr b q] at t; cases t) e) rfl fun b t => by
        refine xE (R'.new b t) fun o e => ?_
        by_cases q : b ∈ wr
        · exact T.stl _ _ st₁ b q
        · exact ⟨o, hk₁ b o q e⟩
      refine xEA (T.val i v hlt hP) fun mv em rm => ?_
      refine wpAny_bind (wpAny_holding (ih (i + 1) { s' with heap := h₁, toks := tk } W' _ (by lia) st₁ R3 (g'.trans g3) (Sim.trans m' ⟨rfl, rfl⟩) tg fun ys s4 W4 V4 st4 R4 g4 m4 tg4 => wpAny_pure ?_))
      refine k _ s4 W4 ?_ (by rw [show i + (m + 1) = i + 1 + m by lia]; exact st4) R4 g4 m4 tg4
      rw [List.drop_eq_getElem_cons hlt]
      have : (xs.map MV.d)[i] = mv := by rw [List.getElem?_eq_getElem hlt] at em; exact Option.some.inj em
      rw [this]
      exact .cons (rm.grow g4) V4
  refine wpAny_bind (wpAny_holding (draw_ _ 0 s2 W2 _ (Nat.zero_add _) T.st0 R2 .refl .refl (fun _ _ => rfl) fun ys s3 W3 V3 st3 R3 g3 m3 tg3 => ?_))
  rw [List.drop_zero] at V3
  rw [Nat.zero_add] at st3
  rw [if_neg (by have := V3.length; lia)]
  have wrfr : ∀ b ∈ wr, W3.tau b = .frame := fun b hb => (tg3 b (T.walk.sub b hb)).trans (T.wl b hb)
  have nwr : ∀ b, (W3.tau b = .frame → ¬ (b ∈ wr)) → b ∉ wr := fun b f q => f (wrfr b q) q
  refine wpAny_bind (wpAny_holding (T.walk.done s3 _ _ st3 fun h₁ tk hk₁ => ?_))
  simp only [Option.isSome_none, Bool.false_eq_true, if_false]
  have gd : Grow (fun b => b ∈ wr) H.next W3 s3.heap H.next ⟨W3.mu, fun b => if b ∈ wr then .free else W3.tau b⟩ h₁ := by
    refine ⟨Nat.le_refl _, fun _ _ _ e => e, fun b o e f => ⟨o, hk₁ b o (nwr b f) e⟩, fun b o e f => if_neg (nwr b f), fun b o e t => hk₁ b o (fun q => ?_) e, fun b o e _ nx => hk₁ b o nx e⟩
    rw [wrfr b q] at t; cases t
  have Rd : Rel w h₀ _ H h₁ := R3.grow gd (fun b o l' e t => hk₁ b o (fun q => by rw [wrfr b q] at t; cases t) e) rfl fun b t => by
    by_cases q : b ∈ wr
    · exact absurd (if_pos q) t
    · refine xE (R3.new b fun z => t ((if_neg q).trans z)) fun o e => ?_
      exact ⟨o, hk₁ b o q e⟩
  refine wpAny_pure (iEAAA _ (V3.grow gd) Rd ?_ ((m2.trans m3).trans ⟨rfl, rfl⟩))
  have G : Grow (fun b => b ∈ wr) H.next W s.heap H.next _ h₁ := (g2.weaken fun _ x => x.elim).trans (g3.trans gd)
  exact G.sub fun b o e x => by rw [hnew b x] at e; cases e

theorem stores_ {env : Env} {A : Around} (l : List (Str × MV × (Value → Sem Unit))) (hf : ∀ p ∈ l, ∀ y (Z : Unit → Shared → Prop) s, wpAny (model prog w) A (storeName env p.1 y) Z Bot s → wpAny (model prog w) A (p.2.2 y) Z Bot s)
    (hk : ∀ p ∈ l, (sc.names.lookup p.1 == some .local || sc.names.lookup p.1 == some .cell) = true) :
    ∀ (ys : List Value) (ρ : List (Str × MV)) (s : Shared) (W : Wd), FrOk w sc ρ env H.next W s.heap → Rel w h₀ W H s.heap → VRA w H.next W s.heap (l.map (·.2.1)) ys →
      wpAny (model prog w) A (assignInOrder (l.map (·.2.2)) ys) (fun _ s' => ∃ W', Rel w h₀ W' H s'.heap ∧ Grow (FA env) H.next W s.heap H.next W' s'.heap ∧ FrOk w sc ((l.map fun p => (p.1, p.2.1)).reverse ++ ρ) env H.next W' s'.heap ∧ Sim s s') Bot s := by
  induction l with
  | nil =>
    intro ys ρ s W F R V
    rw [List.map_nil, VRA] at V; subst V
    exact wpAny_pure (iEAAA W R .refl F .refl)
  | cons p l ih =>
    intro ys ρ s W F R V
    rw [List.map_cons, VRA] at V
    (refine xEEAA V fun y r ee3 ry V' => ?_; clear V; subst ee3)
    show wpAny _ _ (holding r (p.2.2 y) >>= fun _ => assignInOrder (l.map (·.2.2)) r) _ _ _
    refine wpAny_bind (wpAny_holding (hf p (.head _) _ _ _ (wpAny_mono (storeName_ (Q := fun ρ4 H4 => ρ4 = (p.1, p.2.1) :: ρ ∧ H4 = H) F R ry ⟨rfl, rfl⟩ (hk p (.head _))) (fun _ s4 zz5 => xEEEAAAA zz5 fun ρ4 H4 W4 zz6 R4 g4 F4 m4 => xA zz6 fun e4 e4' => ?_) fun _ _ e => e)))
    subst e4 e4'
    refine wpAny_mono (ih (fun q hq => hf q (.tail _ hq)) (fun q hq => hk q (.tail _ hq)) r ((p.1, p.2.1) :: ρ) s4 W4 F4 R4 (V'.grow g4)) (fun _ s5 zz7 => xEAAA zz7 fun W5 R5 g5 F5 m5 => ?_) fun _ _ e => e
    refine (iEAAA W5 R5 (g4.trans g5) ?_ (m4.trans m5))
    rw [List.map_cons, List.reverse_cons, List.append_assoc]; exact F5

variable {Qs : Fl → List (Str × MV) → MH → Prop}
noncomputable def unp2K (prog : Program) (w : World) (h₀ : Heap) (d : Nat) (x y : Str) (ρ : List (Str × MV)) (Q : Fl → List (Str × MV) → MH → Prop) (v : MV) (H : MH) : Prop := ∃ a b, Unp prog w h₀ d v [a, b] H ∧ Q .next ((y, b) :: (x, a) :: ρ) H
noncomputable def sw2K (prog : Program) (w : World) (h₀ : Heap) (d : Nat) (x y : Str) (ρ : List (Str × MV)) (Q : Fl → List (Str × MV) → MH → Prop) (v : MV) (H : MH) : Prop := ∃ a b, Unp prog w h₀ d v [a, b] H ∧ Q .next ((x, a) :: (y, b) :: ρ) H
noncomputable def unp3K (prog : Program) (w : World) (h₀ : Heap) (d : Nat) (x y z : Str) (ρ : List (Str × MV)) (Q : Fl → List (Str × MV) → MH → Prop) (v : MV) (H : MH) : Prop := ∃ a b c, Unp prog w h₀ d v [a, b, c] H ∧ Q .next ((z, c) :: (y, b) :: (x, a) :: ρ) H
theorem S.unp2 {x y : Str} {px py tpos : Pos} {k : Nat} {value : Expr} (h : E prog w h₀ d sc ρ value H (unp2K prog w h₀ d x y ρ Qs))
    (hk : ((sc.names.lookup x == some .local || sc.names.lookup x == some .cell) && (sc.names.lookup y == some .local || sc.names.lookup y == some .cell)) = true := by exact tt)
    (hs : ∀ env, env.scope = sc → swapsWithSole [.Tuple [.Name x px, .Name y py] k tpos] value pos.line env = pure false := by intro env e; first | rfl | (cases env; simp only at e; subst e; rfl))
    (hw : ∀ env, env.scope = sc → swappedStores [.Tuple [.Name x px, .Name y py] k tpos] value env = pure none := by intro env e; first | rfl | (cases env; simp only at e; subst e; rfl)) :
    S prog w h₀ d sc ρ (.Assign [.Tuple [.Name x px, .Name y py] k tpos] value pos) H Qs := by
  intro A env s W a F R
  refine Assign_Tuple (useG (h A env s W a F R) fun v s1 H1 W1 zz8 R1 F1 g1 sm1 => xEA zz8 fun u zz9 rv => xEEA zz9 fun m1 m2 un q => ?_) (hs env F.scope) (hw env F.scope)
  rw [arm_assign_Tuple]
  refine wpAny_bind (wpAny_standAt ?_)
  unfold unpack
  refine wpAny_bind (wpAny_holding (wpAny_mono (un A s1 W1 v a R1 rv) (fun ys s2 zz10 => xEAAA zz10 fun W2 V2 R2 g2 sm2 => ?_) fun _ _ e => e))
  simp only [Bool.and_eq_true] at hk
  refine wpAny_mono (stores_ [(x, m1, assign (.Name x px) env), (y, m2, assign (.Name y py) env)] ?_ ?_ ys ρ s2 W2 (F1.grow g2) R2 V2) (fun _ s3 zz11 => xEAAA zz11 fun W3 R3 g3 F3 sm3 => ?_) fun _ _ e => e
  · intro p hp y Z s h
    rcases List.mem_cons.mp hp with rfl | hp
    · exact wpAny_assign_Name h
    · obtain rfl := List.mem_singleton.mp hp; exact wpAny_assign_Name h
  · intro p hp
    rcases List.mem_cons.mp hp with rfl | hp
    · exact hk.1
    · rw [List.mem_singleton.mp hp]; exact hk.2
  · exact ⟨.next, _, H1, W3, q, rfl, R3, ((g1.weaken fun _ x => .inl x).trans (g2.weaken fun _ x => x.elim)).trans g3, F3, (sm1.trans sm2).trans sm3⟩
theorem S.sw2 {x y : Str} {px py tpos : Pos} {k : Nat} {value : Expr} (h : E prog w h₀ d sc ρ value H (sw2K prog w h₀ d x y ρ Qs))
    (hk : ((sc.names.lookup x == some .local || sc.names.lookup x == some .cell) && (sc.names.lookup y == some .local || sc.names.lookup y == some .cell)) = true := by exact tt)
    (hs : ∀ env, env.scope = sc → swapsWithSole [.Tuple [.Name x px, .Name y py] k tpos] value pos.line env = pure false := by intro env e; first | rfl | (cases env; simp only at e; subst e; rfl))
    (hw : ∀ env, env.scope = sc → swappedStores [.Tuple [.Name x px, .Name y py] k tpos] value env = pure (some [x, y]) := by intro env e; first | rfl | (cases env; simp only at e; subst e; rfl)) :
    S prog w h₀ d sc ρ (.Assign [.Tuple [.Name x px, .Name y py] k tpos] value pos) H Qs := by
  intro A env s W a F R
  refine Assign_Tuple_swapped (names := [x, y]) (useG (h A env s W a F R) fun v s1 H1 W1 zz12 R1 F1 g1 sm1 => xEA zz12 fun u zz13 rv => xEEA zz13 fun m1 m2 un q => ?_) (hs env F.scope) (hw env F.scope)
  refine wpAny_mono (un A s1 W1 v a R1 rv) (fun ys s2 zz14 => xEAAA zz14 fun W2 V2 R2 g2 sm2 => ?_) fun _ _ e => e
  simp only [Bool.and_eq_true] at hk
  have V2' : VRA w H1.next W2 s2.heap [m2, m1] ys.reverse := by
    rw [VRA] at V2
    obtain ⟨y1, r, rfl, r1, V2⟩ := V2
    rw [VRA] at V2
    obtain ⟨y2, r, rfl, r2, V2⟩ := V2
    rw [VRA] at V2; subst V2
    exact .cons r2 (.cons r1 .nil)
  refine wpAny_mono (stores_ [(y, m2, fun z => bindName env y z), (x, m1, fun z => bindName env x z)] ?_ ?_ ys.reverse ρ s2 W2 (F1.grow g2) R2 V2') (fun _ s3 zz15 => xEAAA zz15 fun W3 R3 g3 F3 sm3 => ?_) fun _ _ e => e
  · intro p hp y Z s h
    rcases List.mem_cons.mp hp with rfl | hp
    · exact bindName_ h
    · obtain rfl := List.mem_singleton.mp hp; exact bindName_ h
  · intro p hp
    rcases List.mem_cons.mp hp with rfl | hp
    · exact hk.2
    · rw [List.mem_singleton.mp hp]; exact hk.1
  · exact ⟨.next, _, H1, W3, q, rfl, R3, ((g1.weaken fun _ x => .inl x).trans (g2.weaken fun _ x => x.elim)).trans g3, F3, (sm1.trans sm2).trans sm3⟩
theorem S.unp3 {x y z : Str} {px py pz tpos : Pos} {k : Nat} {value : Expr} (h : E prog w h₀ d sc ρ value H (unp3K prog w h₀ d x y z ρ Qs))
    (hk : ((sc.names.lookup x == some .local || sc.names.lookup x == some .cell) && (sc.names.lookup y == some .local || sc.names.lookup y == some .cell) && (sc.names.lookup z == some .local || sc.names.lookup z == some .cell)) = true := by exact tt)
    (hs : ∀ env, env.scope = sc → swapsWithSole [.Tuple [.Name x px, .Name y py, .Name z pz] k tpos] value pos.line env = pure false := by intro env e; first | rfl | (cases env; simp only at e; subst e; rfl))
    (hw : ∀ env, env.scope = sc → swappedStores [.Tuple [.Name x px, .Name y py, .Name z pz] k tpos] value env = pure none := by intro env e; first | rfl | (cases env; simp only at e; subst e; rfl)) :
    S prog w h₀ d sc ρ (.Assign [.Tuple [.Name x px, .Name y py, .Name z pz] k tpos] value pos) H Qs := by
  intro A env s W a F R
  refine Assign_Tuple (useG (h A env s W a F R) fun v s1 H1 W1 zz16 R1 F1 g1 sm1 => xEA zz16 fun u zz17 rv => xEEEA zz17 fun m1 m2 m3 un q => ?_) (hs env F.scope) (hw env F.scope)
  rw [arm_assign_Tuple]
  refine wpAny_bind (wpAny_standAt ?_)
  unfold unpack
  refine wpAny_bind (wpAny_holding (wpAny_mono (un A s1 W1 v a R1 rv) (fun ys s2 zz18 => xEAAA zz18 fun W2 V2 R2 g2 sm2 => ?_) fun _ _ e => e))
  simp only [Bool.and_eq_true] at hk
  refine wpAny_mono (stores_ [(x, m1, assign (.Name x px) env), (y, m2, assign (.Name y py) env), (z, m3, assign (.Name z pz) env)] ?_ ?_ ys ρ s2 W2 (F1.grow g2) R2 V2) (fun _ s3 zz19 => xEAAA zz19 fun W3 R3 g3 F3 sm3 => ?_) fun _ _ e => e
  · intro p hp y Z s h
    rcases List.mem_cons.mp hp with rfl | hp
    · exact wpAny_assign_Name h
    · rcases List.mem_cons.mp hp with rfl | hp
      · exact wpAny_assign_Name h
      · obtain rfl := List.mem_singleton.mp hp; exact wpAny_assign_Name h
  · intro p hp
    rcases List.mem_cons.mp hp with rfl | hp
    · exact hk.1.1
    · rcases List.mem_cons.mp hp with rfl | hp
      · exact hk.1.2
      · rw [List.mem_singleton.mp hp]; exact hk.2
  · exact ⟨.next, _, H1, W3, q, rfl, R3, ((g1.weaken fun _ x => .inl x).trans (g2.weaken fun _ x => x.elim)).trans g3, F3, (sm1.trans sm2).trans sm3⟩
end
end Mine
end L1rx

noncomputable section L1sx
open PySem PySem.W PySem.Calls PyProof.Rows
set_option Elab.async false
set_option linter.unusedVariables false
namespace Mine

section
variable {prog : Program} {w : World} {h₀ : Heap} {d : Nat} {sc : Scope} {ρ : List (Str × MV)} {H : MH} {Q : MV → MH → Prop} {pos : Pos} {lo : Loc} {K : Frag} {mg mb : Str → Option Value}

noncomputable def Wd.own2 (W : Wd) (l : Loc) (a b : Addr) : Wd := ⟨fun l' => if l' = l then some a else W.mu l', fun c => if c = a ∨ c = b then .own l else W.tau c⟩
/-- a new thing of an own class's -/
theorem Rel.inst {W : Wd} {s : Shared} {C : Addr} (R : Rel w h₀ W H s.heap) (f : H.fresh lo) :
    Rel w h₀ (W.own2 lo (s.heap.objs.size + 1) s.heap.objs.size) (H.add lo (.inst C [])) ((s.heap.push emptyDict).push (instObj C s.heap.objs.size)) ∧
      Grow NoX H.next W s.heap (H.add lo (.inst C [])).next (W.own2 lo (s.heap.objs.size + 1) s.heap.objs.size) ((s.heap.push emptyDict).push (instObj C s.heap.objs.size)) := by
  have kp : ∀ b o, s.heap.get? b = some o → ((s.heap.push emptyDict).push (instObj C s.heap.objs.size)).get? b = some o := fun b o e => push_keep _ _ b o (push_keep _ _ b o e)
  have hx : ((s.heap.push emptyDict).push (instObj C s.heap.objs.size)).get? (s.heap.objs.size + 1) = some (instObj C s.heap.objs.size) := by
    have := Heap.get?_push_size (s.heap.push emptyDict) (o := instObj C s.heap.objs.size) rfl
    rwa [Heap.size_push] at this
  have hd : ((s.heap.push emptyDict).push (instObj C s.heap.objs.size)).get? s.heap.objs.size = some emptyDict := push_keep _ _ _ _ (Heap.get?_push_size _ rfl)
  generalize hA : s.heap.objs.size = D at *
  have hnew : ∀ b o', s.heap.get? b = some o' → ¬ (b = D + 1 ∨ b = D) := fun b o' e q => by
    have h1 := Heap.lt_size e
    rw [hA] at h1
    rcases q with rfl | rfl
    · exact absurd (Nat.lt_trans (Nat.lt_succ_self _) h1) (Nat.lt_irrefl _)
    · exact absurd h1 (Nat.lt_irrefl _)
  have tag : ∀ b o', s.heap.get? b = some o' → (W.own2 lo (D + 1) D).tau b = W.tau b := fun b o' e => if_neg (hnew b o' e)
  have mu' : ∀ {l' : Loc} {b : Addr}, okL H.next l' → W.mu l' = some b → (W.own2 lo (D + 1) D).mu l' = some b := fun {l' b} o e => by
    have n : l' ≠ lo := by
      (intro yy1; subst yy1)
      cases l' with
      | r x => rw [R.role x f] at e; cases e
      | tmp k => exact MH.not_ok (l := .tmp k) f (fun _ q => nomatch q) o
    simp [Wd.own2, n, e]
  have g : Grow NoX H.next W s.heap (H.add lo (.inst C [])).next (W.own2 lo (D + 1) D) ((s.heap.push emptyDict).push (instObj C D)) :=
    ⟨MH.next_add, fun l' b h1 e => mu' h1 e, fun b o' e _ => ⟨o', kp b o' e⟩, fun b o' e _ => tag b o' e, fun b o' e _ => kp b o' e, fun b o' e _ _ => kp b o' e⟩
  refine ⟨⟨fun b o' e => kp b o' (R.base b o' e), fun b o' e => (tag b o' (R.base b o' e)).trans (R.old b o' e), fun b e => ?_, fun l' o' e => ?_, fun x e => ?_⟩, g⟩
  · by_cases q : b = D + 1
    · subst q; exact ⟨_, hx⟩
    · by_cases q' : b = D
      · subst q'; exact ⟨_, hd⟩
      · refine xE (R.new b (by rwa [show (W.own2 lo (D + 1) D).tau b = W.tau b from if_neg (not_or.mpr ⟨q, q'⟩)] at e)) fun o' e' => ?_
        exact ⟨o', kp b o' e'⟩
  · by_cases q : l' = lo
    · subst q
      rw [MH.get_add f] at e; cases e
      exact (iEAAEEEAAAAA (D + 1) (by simp [Wd.own2]) (by simp [Wd.own2]) D ([]) 0 hx (by simp [Wd.own2]) (Nat.ne_of_lt (Nat.lt_succ_self _)) hd (by rw [EntS]) List.nodup_nil)
    · refine xEAA (R.obj l' o' (MH.get_add_ne f q e)) fun a e1 e2 e3 => ?_
      refine xE e3.live fun ob' lv => ?_
      exact (iEAA a (g.loc l' a (MH.ok (MH.get_add_ne f q e)) e1) ((tag a ob' lv).trans e2) (OR.grow g (fun b o'' eb _ => kp b o'' eb) e2 e3))
  · cases lo with
    | r y =>
      by_cases q : x = y
      · subst q; simp [MH.add] at e
      · have e' : H.r x = none := by simpa [MH.add, q] using e
        have : Loc.r x ≠ Loc.r y := fun z => q (by injection z)
        simp [Wd.own2, this, R.role x e']
    | tmp k =>
      have e' : H.r x = none := by simpa [MH.add] using e
      simp [Wd.own2, R.role x e']
theorem okUnder {A : Around} {Cl : Addr} {vals : List Value} (a : AOk (d + 1) A) : AOk d (A.under (.builtin "type.__call__" ⟨.ref Cl :: vals, []⟩)) :=
  ⟨a.handled, by rw [PyProof.Rows.depth_under_make]; have := a.depth; lia, by rw [PyProof.Rows.units_under_make]; have := a.units; lia⟩
theorem C.make {Cl fI : Addr} {args : List MV} (G : Gnd h₀ K mg mb) (f : H.fresh lo) (hm : makesIn K Cl = true) (hi : findIn K (.ref Cl) "__init__" = some (some (.ref fI))) (hf : typeIn K (.ref fI) = some (.type "function"))
    (h : CC prog w h₀ d (.ref fI) (.loc lo :: args) (H.add lo (.inst Cl [])) fun v H' => v = .d .none ∧ Q (.loc lo) H' ∧ okL H'.next lo) : C prog w h₀ (d + 1) (.ref Cl) args H Q := by
  refine CC.c fun A s W xs a R V => ?_
  have X : K.In s.heap := G.kin.keeps R.base
  refine xA (R.inst (C := Cl) f) fun R2 g2 => ?_
  refine make_core (makes_of X hm) (looks_findIn X hi) (fun self => bind_fn X self hf) (.inl rfl) ?_
  have vl : VR w (H.add lo (.inst Cl [])).next (W.own2 lo (s.heap.objs.size + 1) s.heap.objs.size) ((s.heap.push emptyDict).push (instObj Cl s.heap.objs.size)) (.loc lo) (.ref (s.heap.objs.size + 1)) := by
    rw [VR]; exact (iAEA (MH.ok_add f) _ (by simp [Wd.own2]) rfl)
  refine codeAny_mono (h _ { s with heap := (s.heap.push emptyDict).push (instObj Cl s.heap.objs.size) } _ (.ref (s.heap.objs.size + 1) :: xs) (okUnder a) R2 (.cons vl (V.grow g2))) fun r s' z => ?_
  rcases r with e | (_ | _ | _ | v)
  · exact z.elim
  · exact z.elim
  · exact z.elim
  · exact z.elim
  · obtain ⟨H', W', ⟨u, ⟨rfl, q, ok⟩, rv⟩, R', g', m'⟩ := z
    refine ⟨of_none rv, H', W', (iEA (.loc lo) q ?_), R', g2.trans g', Sim.trans (show Sim s { s with heap := (s.heap.push emptyDict).push (instObj Cl s.heap.objs.size) } from ⟨rfl, rfl⟩) m'⟩
    exact (vl.grow g')
theorem C.make0 {Cl : Addr} (G : Gnd h₀ K mg mb) (f : H.fresh lo) (hm : makesIn K Cl = true) (hi : findIn K (.ref Cl) "__init__" = some (some (.builtin "object.__init__"))) (q : Q (.loc lo) (H.add lo (.inst Cl []))) : C prog w h₀ (d + 1) (.ref Cl) [] H Q := by
  refine CC.c fun A s W xs a R V => ?_
  rw [VRA] at V; subst V
  have X : K.In s.heap := G.kin.keeps R.base
  have Y := makes_of (M := model prog w) X hm
  refine xA (R.inst (C := Cl) f) fun R2 g2 => ?_
  refine make_core Y (looks_findIn X hi) (fun self => Looks.of_pure (oi_bind self)) (.inr ⟨rfl, rfl⟩) ?_
  have hx : ((s.heap.push emptyDict).push (instObj Cl s.heap.objs.size)).get? (s.heap.objs.size + 1) = some (instObj Cl s.heap.objs.size) := by
    have := Heap.get?_push_size (s.heap.push emptyDict) (o := instObj Cl s.heap.objs.size) rfl
    rwa [Heap.size_push] at this
  have t1 : Looks (model prog w) ((s.heap.push emptyDict).push (instObj Cl s.heap.objs.size)) (typeOf (.ref (s.heap.objs.size + 1))) (.ref Cl) := (Looks.ld hx).andThen .now
  have t2 : Looks (model prog w) ((s.heap.push emptyDict).push (instObj Cl s.heap.objs.size)) (isInstance (.ref (s.heap.objs.size + 1)) (.type "object")) true := t1.andThen (Y.top.keeps fun b o e => push_keep _ _ b o (push_keep _ _ b o e))
  refine codeAny_call_builtin oi_plain entry_oi (@check_slot (model prog w) _ _ _ "object.__init__" "object" "__init__" (.ref (s.heap.objs.size + 1)) [] [] _ oi_kind oi_split t2 (oi_args (.ref (s.heap.objs.size + 1))) ?_)
  rw [oi_run]
  refine wpAny_pure (And.intro rfl ⟨_, _, (iEA (.loc lo) q ?_), R2, g2, ⟨rfl, rfl⟩⟩)
  rw [VR]; exact (iAEA (MH.ok_add f) _ (by simp [Wd.own2]) rfl)
end
end Mine
end L1sx

noncomputable section L1tx
open PySem PySem.W PySem.Calls PyProof.Rows
set_option Elab.async false
set_option linter.unusedVariables false
namespace Mine

section
variable {prog : Program} {w : World} {h₀ : Heap} {d : Nat} {sc : Scope} {ρ : List (Str × MV)} {H : MH} {Q : MV → MH → Prop} {pos : Pos} {lo : Loc} {K : Frag} {mg mb : Str → Option Value}

theorem fresh_mu' {W : Wd} {h : Heap} (R : Rel w h₀ W H h) {l l' : Loc} {a b : Addr} (f : H.fresh l) (o : okL H.next l') (e : W.mu l' = some b) : (W.own l a).mu l' = some b := by
  have n : l' ≠ l := by
    (intro yy1; subst yy1)
    cases l' with
    | r x => rw [R.role x f] at e; cases e
    | tmp k => exact MH.not_ok (l := .tmp k) f (fun _ q => nomatch q) o
  simp [Wd.own, n, e]
/-- a frame's object that becomes a thing with a name -/
theorem Rel.claim {W : Wd} {h h' : Heap} {D : Addr} (R : Rel w h₀ W H h) (t : W.tau D = .frame) (f : H.fresh lo) {o : MO} (hs : Heap.SameBut D h h') (live : ∃ ob, h'.get? D = some ob)
    (k : ∀ n' W', Grow (fun b => b = D) H.next W h n' W' h' → OR w n' W' h' lo o D) :
    Rel w h₀ (W.own lo D) (H.add lo o) h' ∧ Grow (fun b => b = D) H.next W h (H.add lo o).next (W.own lo D) h' := by
  have nD : ∀ b, (W.tau b = .frame → ¬ b = D) → b ≠ D := fun b f q => f (q ▸ t) q
  have g : Grow (fun b => b = D) H.next W h (H.add lo o).next (W.own lo D) h' :=
    ⟨MH.next_add, fun l' b h1 e => fresh_mu' R f h1 e, fun b o' e f => ⟨o', (hs.2 b (nD b f)).trans e⟩, fun b o' e f => by simp [Wd.own, nD b f],
      fun b o' e t' => (hs.2 b (fun q => by rw [q, t] at t'; cases t')).trans e, fun b o' e _ nx => (hs.2 b nx).trans e⟩
  refine ⟨⟨fun b o' e => g.keepF b o' (R.base b o' e) (R.old b o' e), fun b o' e => (g.tag b o' (R.base b o' e) (by rw [R.old b o' e]; exact fun t => nomatch t)).trans (R.old b o' e), fun b e => ?_, fun l' o' e => ?_, fun x e => ?_⟩, g⟩
  · by_cases q : b = D
    · subst q; exact live
    · refine xE (R.new b (by simpa [Wd.own, q] using e)) fun o' e' => ?_
      exact ⟨o', (hs.2 b q).trans e'⟩
  · by_cases q : l' = lo
    · subst q
      rw [MH.get_add f] at e; cases e
      exact (iEAA D (by simp [Wd.own]) (by simp [Wd.own]) (k _ _ g))
    · refine xEAA (R.obj l' o' (MH.get_add_ne f q e)) fun a e1 e2 e3 => ?_
      refine xE e3.live fun ob' lv => ?_
      refine (iEAA a (g.loc l' a (MH.ok (MH.get_add_ne f q e)) e1) ((g.tag a ob' lv (by rw [e2]; exact fun t => nomatch t)).trans e2) (OR.grow g (fun b o'' eb tb => (hs.2 b (fun q => by rw [q, t] at tb; cases tb)).trans eb) e2 e3))
  · cases lo with
    | r y =>
      by_cases q : x = y
      · subst q; simp [MH.add] at e
      · have e' : H.r x = none := by simpa [MH.add, q] using e
        have : Loc.r x ≠ Loc.r y := fun z => q (by injection z)
        simp [Wd.own, this, R.role x e']
    | tmp k =>
      have e' : H.r x = none := by simpa [MH.add] using e
      simp [Wd.own, R.role x e']
theorem notSys {h : Heap} (R : ∀ b o, h₀.get? b = some o → h.get? b = some o) (G : Gnd h₀ K mg mb) : (h.objs.size == sysModules) = false := by
  refine xEEEA G.g fun og _ _ hg _ => ?_
  have := Heap.lt_size (R _ _ hg)
  exact beq_eq_false_iff_ne.mpr (Nat.ne_of_gt (Nat.lt_trans (show sysModules < mainGlobals by decide) this))

/-- a dict with two words -/
theorem E.dict2 {k1 k2 : Str} {n1 n2 : Nat} {p1 p2 : Pos} {e1 e2 : Expr} (G : Gnd h₀ K mg mb) (lo : Loc) (hne : (k1 == k2) = false) (h : E prog w h₀ d sc ρ e1 H fun v1 H1 => E prog w h₀ d sc ρ e2 H1 fun v2 H2 => H2.fresh lo ∧ Q (.loc lo) (H2.add lo (.dictS [(k1, v1), (k2, v2)]))) :
    E prog w h₀ d sc ρ (.Dict [some (.Constant (.str k1) n1 p1), some (.Constant (.str k2) n2 p2)] [e1, e2] pos) H Q := by
  intro A env s W a F R
  have hk : ¬ k1 = k2 := by simpa using hne
  refine wpAny_Dict_walk (knd := PySem.strKind prog w) rfl rfl (by simp) (by simp) ?_
  have R0 := R.pushFrame (ob := { cls := .type "dict", data := .dict #[] }) rfl
  have F0 := F.grow (Grow.pushFrame (n := H.next) (W := W) (h := s.heap) { cls := .type "dict", data := .dict #[] })
  have ns := notSys R.base G
  have nl : ∀ b o, s.heap.get? b = some o → b ≠ s.heap.objs.size := fun b o e => Nat.ne_of_lt (Heap.lt_size e)
  have nF : ¬ FA env s.heap.objs.size := fun z => by
    rcases z with z | ⟨y, hy⟩
    · (refine xEA F.ns fun m zz1 _ => ?_; obtain ⟨o, _, _, ho, _⟩ := zz1); exact nl _ o ho z.symm
    · refine xAAEEA (F.cels y _ hy) fun _ _ v o ho _ => ?_; exact nl _ o ho rfl
  have hD0 : (s.heap.push { cls := .type "dict", data := .dict #[] }).get? s.heap.objs.size = some { cls := .type "dict", data := .dict #[] } := Heap.get?_push_size _ rfl
  have hdn : (s.heap.push { cls := .type "dict", data := .dict #[] }).DictOf (PySem.strKind prog w) s.heap.objs.size [] := (iEEEAAAAA _ (#[]) 0 hD0 ((iAA rfl rfl rfl)) rfl (fun _ he => by simp at he) .nil List.nodup_nil)
  have hD1 : s.heap.get? s.heap.objs.size = none := sizeNone _
  have gp := Grow.pushFrame (n := H.next) (W := W) (h := s.heap) { cls := .type "dict", data := .dict #[] }
  generalize hp : s.heap.push { cls := .type "dict", data := .dict #[] } = hP at *
  generalize s.heap.objs.size = D at *
  have tD : (W.frames D []).tau D = .frame := frames_self
  refine evalPairs_cons (wpAny_Constant_str ?_)
  refine wpAny_bind (useG (h A env { s with heap := hP, toks := s.toks + 1 } _ a F0 R0) fun y1 s1 H1 W1 zz2 R1 F1 g1 m1 => xEA zz2 fun v1 q1 r1 => wpAny_bind (wpAny_standAt (wpAny_pure ?_)))
  refine evalPairs_cons (wpAny_Constant_str ?_)
  refine wpAny_bind (useG (q1 A env { s1 with toks := s1.toks + 1 } W1 a F1 R1) fun y2 s2 H2 W2 zz3 R2 F2 g2 m2 => xEA zz3 fun v2 zz4 r2 => xA zz4 fun f2 q2 => wpAny_bind (wpAny_standAt (wpAny_pure ?_)))
  refine evalPairs_nil ?_
  have g12 : Grow (XL env) H.next (W.frames D []) hP H2.next W2 s2.heap := g1.trans g2
  have nX : ¬ XL env D := fun z => nF (.inl z)
  have hD2 := g12.keepL _ _ hD0 tD nX
  have tD2 : W2.tau D = .frame := (g12.tag _ _ hD0 fun _ => nX).trans tD
  refine (iEAA ([(k1, y1), (k2, y2)]) ((iAAAA ?_ rfl ?_ rfl trivial)) ((iEEEAAAAA _ (#[]) 0 hD2 ((iAA rfl rfl rfl)) rfl (fun _ he => by simp at he) .nil List.nodup_nil)) (fun h' hd' hs' => ?_))
  · simp [PySem.strKind, Value.isStrOf]
  · simp [PySem.strKind, Value.isStrOf]
  have em : merged [] [(k1, y1), (k2, y2)] = [(k1, y1), (k2, y2)] := by simp [merged, stored, hk]
  rw [em] at hd'
  have pv : ∀ n' W', Grow (fun b => b = D) H2.next W2 s2.heap n' W' h' → OR w n' W' h' lo (.dictS [(k1, v1), (k2, v2)]) D := fun n' W' g => by
    refine dlS.of hd' ?_ ns
    rw [PairV]
    refine (iEEAA _ _ rfl ((r1.grow g2).grow g) ?_)
    rw [PairV]
    exact (iEEAA _ _ rfl (r2.grow g) (by rw [PairV]))
  refine xA (R2.claim tD2 f2 hs' (by (refine xEEEA hd' fun o _ _ ho _ => ?_; clear hd'); exact ⟨o, ho⟩) pv) fun R3 g3 => ?_
  refine ⟨_, _, (iEA (.loc lo) q2 ?_), R3, ?_, F2.growX g3 (fun z => nF (.inl z.symm)) (fun y c hm z => nF (.inr ⟨y, z ▸ hm⟩)), Sim.trans (show Sim s s1 from m1) (Sim.trans (show Sim s1 s2 from m2) ⟨rfl, rfl⟩)⟩
  · rw [VR]; exact (iAEA (MH.ok_add f2) _ (by simp [Wd.own]) rfl)
  · have G : Grow (fun b => XL env b ∨ b = D) H.next W s.heap _ (W2.own lo D) h' := (gp.weaken fun _ x => x.elim).trans ((g12.weaken fun _ x => .inl x).trans (g3.weaken fun _ x => .inr x))
    exact G.sub fun b o e x => x.elim id fun z => by rw [z, hD1] at e; cases e
end
end Mine
end L1tx

noncomputable section L1ux
open PySem PySem.W PySem.Calls PyProof.Rows
set_option Elab.async false
set_option linter.unusedVariables false
namespace Mine

section
variable {prog : Program} {w : World} {h₀ : Heap} {d : Nat} {sc : Scope} {ρ : List (Str × MV)} {H : MH} {Q : MV → MH → Prop} {pos : Pos} {lo : Loc} {K : Frag} {mg mb : Str → Option Value}

noncomputable def Wd.ownF (W : Wd) (l : Loc) (a c : Addr) : Wd := ⟨fun l' => if l' = l then some a else W.mu l', fun b => if b = a then .own l else if b = c then .frame else W.tau b⟩
theorem Rel.allocF {W : Wd} {s : Shared} {h' : Heap} {D C : Addr} (R : Rel w h₀ W H s.heap) {l : Loc} (f : H.fresh l) {o : MO} (kp : ∀ b o, s.heap.get? b = some o → h'.get? b = some o) (hD : s.heap.get? D = none) (hC : s.heap.get? C = none)
    (live : ∃ ob, h'.get? D = some ob) (liveC : ∃ ob, h'.get? C = some ob)
    (k : ∀ n' W', Grow NoX H.next W s.heap n' W' h' → OR w n' W' h' l o D) :
    Rel w h₀ (W.ownF l D C) (H.add l o) h' ∧ Grow NoX H.next W s.heap (H.add l o).next (W.ownF l D C) h' := by
  have hnew : ∀ b o', s.heap.get? b = some o' → b ≠ D ∧ b ≠ C := fun b o' e => ⟨fun q => by rw [q, hD] at e; (cases e), fun q => by rw [q, hC] at e; cases e⟩
  have tag : ∀ b o', s.heap.get? b = some o' → (W.ownF l D C).tau b = W.tau b := fun b o' e => by
    refine xA (hnew b o' e) fun a1 a2 => ?_
    show (if b = D then _ else if b = C then _ else _) = _
    rw [if_neg a1, if_neg a2]
  have g : Grow NoX H.next W s.heap (H.add l o).next (W.ownF l D C) h' :=
    ⟨MH.next_add, fun l' b h1 e => by have := fresh_mu' (a := D) R f h1 e; exact this, fun b o' e _ => ⟨o', kp b o' e⟩, fun b o' e _ => tag b o' e, fun b o' e _ => kp b o' e, fun b o' e _ _ => kp b o' e⟩
  refine ⟨⟨fun b o' e => kp b o' (R.base b o' e), fun b o' e => (tag b o' (R.base b o' e)).trans (R.old b o' e), fun b e => ?_, fun l' o' e => ?_, fun x e => ?_⟩, g⟩
  · by_cases q : b = D
    · subst q; exact live
    · by_cases q' : b = C
      · subst q'; exact liveC
      · refine xE (R.new b (by have : (W.ownF l D C).tau b = W.tau b := (if_neg q).trans (if_neg q'); rwa [this] at e)) fun o' e' => ?_
        exact ⟨o', kp b o' e'⟩
  · by_cases q : l' = l
    · subst q
      rw [MH.get_add f] at e; cases e
      exact (iEAA D (by simp [Wd.ownF]) (by simp [Wd.ownF]) (k _ _ g))
    · refine xEAA (R.obj l' o' (MH.get_add_ne f q e)) fun a e1 e2 e3 => ?_
      refine xE e3.live fun ob' lv => ?_
      exact (iEAA a (g.loc l' a (MH.ok (MH.get_add_ne f q e)) e1) ((tag a ob' lv).trans e2) (OR.grow g (fun b o'' eb _ => kp b o'' eb) e2 e3))
  · cases l with
    | r y =>
      by_cases q : x = y
      · subst q; simp [MH.add] at e
      · have e' : H.r x = none := by simpa [MH.add, q] using e
        have : Loc.r x ≠ Loc.r y := fun z => q (by injection z)
        simp [Wd.ownF, this, R.role x e']
    | tmp k =>
      have e' : H.r x = none := by simpa [MH.add] using e
      simp [Wd.ownF, R.role x e']

theorem vra_ints {n : Nat} {W : Wd} {h : Heap} : ∀ {ks : List Int} {vs : List Value}, VRA w n W h (ks.map fun k => .d (.int k)) vs → IntsAre vs ks
  | [], vs, x => by rw [List.map_nil, VRA] at x; subst x; exact .nil
  | i :: r, vs, x => by
    rw [List.map_cons, VRA] at x
    (refine xEEAA x fun v q ee1 y z => ?_; clear x; subst ee1)
    (refine xE (of_int y) fun t ee2 => ?_; subst ee2)
    exact .cons i t (vra_ints z)
theorem ints_get {vs : List Value} {ks : List Int} (h : IntsAre vs ks) : ∀ (i : Nat) (v : Value), vs[i]? = some v → ∃ t, v = .int (ks.getD i 0) t := by
  induction h with
  | nil => intro i v e; simp at e
  | cons k t r ih =>
    intro i v e
    cases i with
    | zero => simp at e; subst e; exact ⟨t, rfl⟩
    | succ i =>
      refine xE (ih i v (by simpa using e)) fun u h => ?_
      exact ⟨u, by simpa using h⟩
theorem ints_snoc : ∀ (vs : List Value) (v : Value) (ks : List Int), IntsAre (vs ++ [v]) ks → ∃ ks' k' t, ks = ks' ++ [k'] ∧ IntsAre vs ks' ∧ v = .int k' t
  | [], v, ks, h => by
    cases h with
    | cons k t r => cases r; exact (iEEEAA ([]) k t rfl .nil rfl)
  | x :: vs, v, ks, h => by
    cases h with
    | cons k t r =>
      refine xEEEAA (ints_snoc vs v _ r) fun ks' k' t' e h' e' => ?_
      exact (iEEEAA (k :: ks') k' t' (by rw [e]; rfl) (.cons k t h') e')
/-- what a row of ints leaves in a dict of True -/
theorem storedTrue {vs : List Value} {kvs : List (Int × Value)} (h : StoredAll (fun v (k : Int) => ∃ t, v = Value.int k t) (fun _ y => y = Value.bool true) vs kvs) : ∀ ks : List Int, IntsAre vs ks → ks.Nodup → kvs = ks.map fun k => (k, Value.bool true) := by
  induction h with
  | nil => intro ks hi _; cases hi; rfl
  | @snoc vs kvs v k y h1 h2 h3 ih =>
    intro ks hi nd
    (refine xEEEAA (ints_snoc _ _ _ hi) fun ks' k' t ee3 h' ee4 => ?_; subst ee3; subst ee4)
    (refine xE h2 fun u e => ?_; clear h2)
    injection e with e1 e2
    subst e1 h3
    rw [List.nodup_append] at nd
    rw [ih ks' h' nd.1, stored]
    rw [if_neg]
    · simp
    · rw [List.any_eq_true]
      (intro yy1; (refine xEA yy1 fun p hp e => ?_; clear yy1))
      (refine xEA (List.mem_map.mp hp) fun q hq ee5 => ?_; subst ee5)
      exact nd.2.2 q hq k' (by simp) (of_decide_eq_true e)

theorem S.asgDC {lr : Loc} {y x row : Str} {py px pr pk pv spos : Pos} {nv : Nat} {scope : Scope} {ks : List Int} {Qs : Fl → List (Str × MV) → MH → Prop} (G : Gnd h₀ K mg mb) (lo : Loc) (hrow : ρ.lookup row = some (.loc lr)) (hr : H.get lr = some (.list (ks.map fun k => .d (.int k)))) (hl : ks.length ≤ 1000) (nd : ks.Nodup) (f : H.fresh lo)
    (q : Qs .next ((y, .loc lo) :: ρ) (H.add lo (.dictI (ks.map fun k => (k, .d (.bool true))))))
    (ok : compOk scope sc = true := by exact tt) (hx : scope.names.lookup x = some .local := by exact tl) (hy : sc.names.lookup y = some .local := by exact tl) (hrl : sc.names.lookup row = some .local := by exact tl)
    (hdx : (x == ("__debug__" : Str)) = false := by exact ff) (hdr : (row == ("__debug__" : Str)) = false := by exact ff)
    (hsw : ∀ env, env.scope = sc → swapsWith (.DictComp (.Name x pk) (.Constant (.bool true) nv pv) [⟨.Name x px, .Name row pr, [], 0⟩] scope pos) (some (.Name y py)) spos.line env = pure true := by intro env e; first | rfl | (cases env; simp only at e; subst e; rfl))
    (hs : ∀ env x, foldedSetIterable (.Name row pr) env x = pure x := by intro _ _; rfl) :
    S prog w h₀ d sc ρ (.Assign [.Name y py] (.DictComp (.Name x pk) (.Constant (.bool true) nv pv) [⟨.Name x px, .Name row pr, [], 0⟩] scope pos) spos) H Qs := by
  intro A env s W a F R
  have hkind : env.scope.kind = .function := F.scope ▸ F.kind
  simp only [compOk, Bool.and_eq_true, List.all_eq_true, bne_iff_ne, beq_iff_eq, Bool.or_eq_true, decide_eq_true_eq] at ok
  (refine xA ok fun zz6 ok5 => ?_; clear ok; obtain ⟨⟨⟨ok1, ok2⟩, ok3⟩, ok4⟩ := zz6)
  let f' : Str → Addr := fun x => (env.cells.lookup x).getD 0
  have hf : ∀ x ∈ fvs scope.names, env.cells.lookup x = some (f' x) := fun x hx => by
    refine xE (F.named x (ok4 x hx).1) fun c hc => ?_
    rw [hc]; show some c = some ((env.cells.lookup x).getD 0); rw [hc]; rfl
  rw [exec_Assign_Name_used _ _ _ _ (hsw env F.scope)]
  refine wpAny_bind (wpAny_standAt (wpAny_bind ?_))
  rw [arm_evalThenUse_DictComp]
  refine wpAny_bind (wpAny_mono (wpAny_comprehension_free (use := some (assign (.Name y py) env)) (Q := fun _ s' => OutS w h₀ sc env H W s Qs .next s') rfl (hs env) (closureFor_is f' hf) ok1 (fun y hy hl => (ok3 y hy).resolve_left (fun z => z hl)) ?_) (fun _ s' hq => wpAny_pure (wpAny_pure hq)) fun _ _ e => e)
  refine xEA F.ns fun m hm hv => ?_
  refine xEA (hv row _ hrow hrl) fun xv e1 r1 => ?_
  (refine xEEEAAAA (list_at R hr r1) fun la its n ee7 e2 e3 g z => ?_; subst ee7)
  have hl' : env.kindOf row = some .local := by unfold Env.kindOf; rw [F.scope]; exact hrl
  refine wpAny_Name (wpAny_loadName_local hkind hl' hm e1 ?_) hdr
  have hL : s.heap.IsList la its := (iEAAE _ g rfl n rfl)
  have hne : la ≠ s.heap.objs.size := Nat.ne_of_lt (Heap.lt_size g)
  have hia := vra_ints z
  have hsz : its.size = ks.length := by rw [← Array.length_toList]; exact hia.length.symm ▸ rfl
  refine wpAny_pyIter_list hL ?_
  have kp1 := push_keep s.heap { cls := .type "list_iterator", data := .fields #[.ref la, .int 0 0] }
  have hIn : s.heap.get? s.heap.objs.size = none := sizeNone _
  refine wpAny_newObj_type (wpAny_newFunctionEnv (fun y hy => ok2 y hy) (by intro y hy; simp at hy) (fun h₁ hns₁ hsb₁ => ?_) ok1)
  dsimp only at hns₁ hsb₁ ⊢
  have hnew : ((s.heap.push { cls := .type "list_iterator", data := .fields #[.ref la, .int 0 0] }).push { cls := .type "dict", dict := none, data := .dict #[] }).DictOf (intKind prog w) (s.heap.push { cls := .type "list_iterator", data := .fields #[.ref la, .int 0 0] }).objs.size [] := Heap.DictOf.new _
  have nsD : ((s.heap.push { cls := .type "list_iterator", data := .fields #[.ref la, .int 0 0] }).objs.size == sysModules) = false := notSys (fun b o e => kp1 b o (R.base b o e)) G
  have hit0 : (s.heap.push { cls := .type "list_iterator", data := .fields #[.ref la, .int 0 0] }).IsListIter s.heap.objs.size la 0 := (iEAA _ (Heap.get?_push_size _ rfl) rfl rfl)
  have hl0 : (s.heap.push { cls := .type "list_iterator", data := .fields #[.ref la, .int 0 0] }).IsList la its := hL.push _
  have sz0 : (s.heap.push { cls := .type "list_iterator", data := .fields #[.ref la, .int 0 0] }).objs.size = s.heap.objs.size + 1 := Heap.size_push ..
  have hla : la < s.heap.objs.size := Heap.lt_size g
  generalize s.heap.push { cls := .type "list_iterator", data := .fields #[.ref la, .int 0 0] } = hp at *
  have kp2 := push_keep hp { cls := .type "dict", dict := none, data := .dict #[] }
  have sz1 : (hp.push { cls := .type "dict", dict := none, data := .dict #[] }).objs.size = hp.objs.size + 1 := Heap.size_push ..
  have hDn := sizeNone hp
  have hCn : hp.get? (hp.objs.size + 1) = none := Heap.get?_none_of_le (Nat.le_succ _)
  generalize hp.push { cls := .type "dict", dict := none, data := .dict #[] } = hq at *
  rw [sz1] at hns₁ hsb₁ ⊢
  have hDC : hp.objs.size ≠ hp.objs.size + 1 := Nat.ne_of_lt (Nat.lt_succ_self _)
  have below : ∀ b o, hp.get? b = some o → b ≠ hp.objs.size ∧ b ≠ hp.objs.size + 1 := fun b o e => ⟨Nat.ne_of_lt (Heap.lt_size e), Nat.ne_of_lt (Nat.lt_succ_of_lt (Heap.lt_size e))⟩
  have old : ∀ b o, hp.get? b = some o → h₁.get? b = some o := fun b o e => hsb₁.extBut b o (below b o e).2 (push_keep _ _ b o (kp2 b o e))
  have hacc : h₁.DictOf (intKind prog w) hp.objs.size [] := hnew.at fun o e => hsb₁.extBut _ _ hDC (push_keep _ _ _ o e)
  have fresh : ∀ a, hp.objs.size ≤ a → a ∉ [s.heap.objs.size, la] := fun a ha hm => by
    rcases List.mem_cons.mp hm with e | hm
    · rw [e, sz0] at ha; exact absurd ha (Nat.not_le.mpr (Nat.lt_succ_self _))
    · rw [List.mem_singleton.mp hm, sz0] at ha; exact absurd (Nat.lt_succ_of_lt hla) (Nat.not_lt.mpr ha)
  have st1 : h₁.IsListIter s.heap.objs.size la 0 ∧ h₁.IsList la its := ⟨hit0.at fun o e => old _ o e, hl0.at fun o e => old _ o e⟩
  have WL := Walks.list (prog := prog) (w := w) a.handled s.heap.objs.size la hne its
  have loop : codeAny (model prog w) A (.compLoop (.DictComp (.Name x pk) (.Constant (.bool true) nv pv) [⟨.Name x px, .Name row pr, [], 0⟩] scope pos) 0 (.ref s.heap.objs.size) (.ref hp.objs.size) (compEnvC scope ((fvs scope.names).reverse.map fun x => (x, f' x)) (hp.objs.size + 1) env))
      (compPost (model prog w) A Bot (some (assign (.Name y py) env)) (fun _ s' => OutS w h₀ sc env H W s Qs .next s') (.ref hp.objs.size) (hp.objs.size + 1)) { s with heap := h₁, toks := s.toks + ([] : List (Str × Value)).length } := by
    refine codeAny_compLoop_walkD (knd := intKind prog w) (cenv := compEnvC scope ((fvs scope.names).reverse.map fun x => (x, f' x)) (hp.objs.size + 1) env) WL (fun _ => true) (fun v (k : Int) => ∃ t, v = Value.int k t) (fun _ v => v = Value.bool true) (lookup_relabel_local hx) (by simp [compEnvC, relabel, ok1]) hDC (fresh _ (Nat.le_refl _)) (fresh _ (Nat.le_succ _))
      st1 hacc hns₁ ?_ ?_ ?_ ?_ (le1000 (by rw [hsz]; exact hl))
    · intro i v s₃ m₃ hP hn hmx hk
      exact wpAny_tests_nil ⟨rfl, (iEEA s₃.heap s₃.toks rfl (fun _ _ e => e))⟩
    · intro i v s₃ m₃ hP hp hn hmx hk
      (refine xE (ints_get hia i v (by rw [← hP]; simp)) fun t ee8 => ?_; subst ee8)
      refine wpAny_Name (wpAny_loadName_local (show (compEnvC scope _ _ env).scope.kind = .function from ok1) (lookup_relabel_local hx) hn hmx ?_) hdx
      exact ⟨(iEAE _ (by simp [intKind, Value.isInt]) _ rfl), (iEEA s₃.heap s₃.toks rfl (fun _ _ e => e))⟩
    · intro i v s₃ m₃ hP hp hn hmx hk
      exact wpAny_Constant_bool ⟨rfl, (iEEA s₃.heap s₃.toks rfl (fun _ _ e => e))⟩
    intro h' tk m' kvs vs hnC hdD hlen hP hSt hk0
    have hk : ∀ b o, b ∉ [s.heap.objs.size] → hp.get? b = some o → h'.get? b = some o := fun b o hb e => hk0 b o (below b o e).2 hb (below b o e).1 (old b o e)
    have hD := hDn
    have hC := hCn
    generalize hp.objs.size + 1 = C at *
    generalize hp.objs.size = D at *
    have hvs : vs = its.toList := by
      apply List.ext_getElem?
      intro j
      by_cases hj : j < vs.length
      · have := hP j vs[j] (List.getElem?_eq_getElem hj)
        rw [List.getElem?_eq_getElem hj, Array.getElem?_toList]; exact this.symm
      · rw [List.getElem?_eq_none (by lia), List.getElem?_eq_none (by rw [Array.length_toList]; lia)]
    subst hvs
    rw [List.filter_eq_self.mpr (fun _ _ => rfl)] at hSt
    have ekv := storedTrue hSt ks hia nd
    subst ekv
    have kp : ∀ b o, s.heap.get? b = some o → h'.get? b = some o := fun b o e => hk b o (fun hm => by rw [List.mem_singleton.mp hm, hIn] at e; cases e) (kp1 b o e)
    have hDs : s.heap.get? D = none := by
      cases e : s.heap.get? D with
      | none => rfl
      | some o => rw [kp1 D o e] at hD; cases hD
    have hCs : s.heap.get? C = none := by
      cases e : s.heap.get? C with
      | none => rfl
      | some o => rw [kp1 C o e] at hC; cases hC
    have ns := nsD
    obtain ⟨R1, g1⟩ := R.allocF f (o := .dictI (ks.map fun k => (k, .d (.bool true)))) kp hDs hCs (by (refine xEEEA hdD fun o _ _ ho _ => ?_; clear hdD); exact ⟨o, ho⟩) (by (refine xEEEA hnC fun o _ _ ho _ => ?_; clear hnC); exact ⟨o, ho⟩) fun n' W' g => dlI.of hdD (by
      clear hSt hdD nd hia z hr hl hsz q
      induction ks with
      | nil => rw [List.map_nil, List.map_nil, PairV]
      | cons k r ih => rw [List.map_cons, List.map_cons, PairV]; exact (iEEAA _ _ rfl vr_bool ih)) ns
    have F1 : FrOk w sc ρ env _ _ h' := F.grow g1
    have nCF : ¬ FA env C := fun z => by
      rcases z with z | ⟨y, hy⟩
      · (refine xEA F.ns fun m zz9 _ => ?_; obtain ⟨o, _, _, ho, _⟩ := zz9); rw [← z, hCs] at ho; cases ho
      · refine xAAEEA (F.cels y _ hy) fun _ _ v o ho _ => ?_; rw [hCs] at ho; cases ho
    have tC : (W.ownF lo D C).tau C = .frame := (if_neg (Ne.symm hDC)).trans (if_pos rfl)
    show wpAny _ A (assign (.Name y py) env (.ref D)) _ _ _
    have rv : VR w (H.add lo (.dictI (ks.map fun k => (k, .d (.bool true))))).next (W.ownF lo D C) h' (.loc lo) (.ref D) := by
      rw [VR]; exact (iAEA (MH.ok_add f) _ (by simp [Wd.ownF]) rfl)
    refine wpAny_assign_Name (wpAny_mono (storeLocal_ (s := { s with heap := h', toks := tk }) (Q := fun ρ4 H4 => ρ4 = (y, .loc lo) :: ρ ∧ H4 = H.add lo (.dictI (ks.map fun k => (k, .d (.bool true))))) F1 R1 rv ⟨rfl, rfl⟩ hy) (fun _ s4 zz10 => xEEEAAAA zz10 fun ρ4 H4 W4 zz11 R4 g4 F4 m4 => xA zz11 fun e4 e4' => ?_) fun _ _ e => e)
    subst e4 e4'
    (refine xEEEA hnC fun oC es ep hoC rC => ?_; clear hnC)
    have nCL : ¬ XL env C := fun z => nCF (.inl z)
    refine (iEA m' ((iEEEA oC es ep (g4.keepL _ _ hoC tC nCL) rC)) (fun h'' hs'' => ?_))
    have tC4 : W4.tau C = .frame := (g4.tag _ _ hoC fun _ => nCL).trans tC
    have gd : Grow (fun b => b = C) _ W4 s4.heap _ (W4.drop C) h'' := Grow.drop (n := (H.add lo (.dictI (ks.map fun k => (k, .d (.bool true))))).next) hs'' tC4
    refine ⟨.next, _, _, W4.drop C, q, rfl, R4.drop hs'' tC4, ?_, F4.growX gd (fun z => nCF (.inl z.symm)) (fun y c hy z => nCF (.inr ⟨y, z ▸ hy⟩)), Sim.trans (show Sim s s4 from Sim.trans ⟨rfl, rfl⟩ m4) ⟨rfl, rfl⟩⟩
    have G : Grow (fun b => FA env b ∨ b = C) H.next W s.heap _ (W4.drop C) h'' := (g1.weaken fun _ x => x.elim).trans ((g4.weaken fun _ x => .inl (.inl x)).trans (gd.weaken fun _ x => .inr x))
    exact G.sub fun b o e x => x.elim id fun z => by rw [z, hCs] at e; cases e
  exact codeAny_compStart_dict loop (WL.self 0 _ _ _ st1 loop)
end
end Mine
end L1ux

noncomputable section L1vx
open PySem PySem.W PySem.Calls PyProof.Rows
set_option Elab.async false
set_option linter.unusedVariables false
namespace Mine

theorem lk_keys : typeLookup (.type "list") "keys" = pure none := by rw [typeLookup_type, builtinLookup_eq_fast]; kernel_rfl
set_option maxRecDepth 8000 in
theorem noKeys {prog : Program} {w : World} {A : Around} {E : Value → Shared → Prop} {s : Shared} {a : Addr} {xs : Array Value} {k : Nat} {Q : Option Value → Shared → Prop}
    (hx : s.heap.get? a = some (listOf xs k)) (hA : A.handled = none) (h : ∀ h' tk, (∀ b o, s.heap.get? b = some o → h'.get? b = some o) → Q none { s with heap := h', toks := tk }) : wpAny (model prog w) A (getAttr? (.ref a) "keys") Q E s := by
  obtain ⟨hp, g, d, tk, os⟩ := s
  have hT : ∀ tk', (⟨hp, g, d, tk', os⟩ : Shared).TypeIs (.ref a) "list" := fun _ => (iEA _ hx rfl)
  have f1 := sub_AttributeError
  have f3 := F.slot_list_getattribute.lookup
  have f4 := F.slot_list_getattribute.bind (.ref a)
  have f5 := am_list_getattr_none
  unfold getAttr? getAttrBy? getAttrBy
  repeat (any_goals (first | assumption | exact hT _ | ((with_reducible show wpAny _ _ (call (Value.builtin "list.__getattribute__") _ _) _ _ _); refine call_meets F.slot_list_getattribute (hT _) am_entry_list_getattribute (F.args_list_getattribute_2 _ _) (meets_getattribute_miss_list a xs k #[] "keys" _ lk_keys (by decide +kernel) (by decide +kernel)) (iAA hx hA (fun h' tk' e hx' => ?_))) | wp_step))
  refine xEE hx'.there fun t' u' he => ?_
  show wpAny _ _ (getattributeRaised _ _ _ _ _ _ _) _ _ _
  unfold getattributeRaised
  repeat (any_goals (first | assumption | wp_step))
  exact h h' tk' hx'.keeps

section
variable {prog : Program} {w : World} {h₀ : Heap} {d : Nat} {sc : Scope} {ρ : List (Str × MV)} {H : MH} {Q : MV → MH → Prop} {pos : Pos} {lo : Loc} {K : Frag} {mg mb : Str → Option Value}

theorem Iter.str {x : Str} (ha : x.cps.all (· < 128) = true) : Iter prog w h₀ d (.d (.str x)) (x.cps.toList.map fun c => .d (.str ⟨#[c]⟩)) H := by
  intro A s W v a R r
  (refine xE (of_str r) fun t ee1 => ?_; subst ee1)
  refine wpAny_pyIter_ascii ha (iEEEEEEAAAAA (W.frames s.heap.objs.size []) s.heap.objs.size ([s.heap.objs.size]) ([s.heap.objs.size]) (SignAt x) ((fun i h => h.IsStrIter s.heap.objs.size "str_ascii_iterator" x t i)) rfl (R.pushFrame rfl) (.pushFrame _) (⟨rfl, rfl⟩) ?_ ⟨?_, ?_, ?_, ?_, ?_, ?_, ?_⟩)
  · intro c hc; rw [List.mem_singleton.mp hc]; exact sizeNone _
  · have := Walks.strAscii (prog := prog) (w := w) a.handled s.heap.objs.size x t
    rwa [show (x.cps.toList.map fun c => MV.d (.str ⟨#[c]⟩)).length = x.cps.size by simp]
  · exact (iEAA _ (Heap.get?_push_size _ rfl) rfl rfl)
  · exact fun c hc => .inl hc
  · intro c hc; rw [List.mem_singleton.mp hc]; exact frames_self
  · intro c hc; rw [List.mem_singleton.mp hc]; exact ⟨_, Heap.get?_push_size _ rfl⟩
  · (intro i h' yy3 c hc; (refine xEA yy3 fun o ho _ => ?_; clear yy3)); rw [List.mem_singleton.mp hc]; exact ⟨o, ho⟩
  · (intro i v hi yy9; (refine xEEA yy9 fun c u hc ee2 => ?_; clear yy9; subst ee2))
    exact (iEA (.d (.str ⟨#[c]⟩)) (by simp [hc]) vr_str)

theorem entry_dul : entryFor table "dict.update.loop" = some Builtin.«dict.update.loop» := entryFor_of_tree (by kernel_rfl)
theorem plain_dul : plainId "dict.update.loop" = true := by decide +kernel
noncomputable def pairsPy (ps : List (Int × PyData)) : List PyData := ps.map fun p => .tuple [.int p.1, p.2]
noncomputable def putAll (acc : List (Int × MV)) (ps : List (Int × PyData)) : List (Int × MV) := ps.foldl (fun acc p => putK acc p.1 (.d p.2)) acc
theorem fz_pair {F : Addr → Prop} {h : Heap} {k : Int} {x : PyData} {v : Value} (y : Fz F h (.tuple [.int k, x]) v) : ∃ t vs e a b, v = .ref t ∧ h.get? t = some (tupOf vs e) ∧ vs.toList = [a, b] ∧ (∃ u, a = .int k u) ∧ Fz F h x b := by
  (refine xEEEAAA (fz_tuple y) fun t vs e ee3 f g z => ?_; subst ee3)
  rw [FzA] at z
  refine xEEAA z fun a r e1 ya z => ?_
  rw [FzA] at z
  refine xEEAA z fun b r' e2 yb z => ?_
  rw [FzA] at z
  subst z e2
  rw [Fz] at ya
  exact (iEEEEEAAAA t vs e a b rfl g e1 ya yb)
theorem codeAny_dul {A : Around} {s₀ : Shared} {W : Wd} {n : Nat} {I l D : Addr} {its : Array Value} {ps : List (Int × PyData)} {R' : Result → Shared → Prop} (hh : A.handled = none) (hne : l ≠ I) (hDI : D ≠ I) (hDl : D ≠ l) (hI : s₀.heap.get? I = none) (hD : s₀.heap.get? D = none)
    (z : FzA W.free s₀.heap (pairsPy ps) its.toList) (hl : ps.length ≤ 1000)
    (hR : ∀ h' tk kvs, (∀ b o, s₀.heap.get? b = some o → h'.get? b = some o) → h'.DictOf (intKind prog w) D kvs → PairV w n W s₀.heap (putAll [] ps) kvs → R' (.ok (.ret .none)) { s₀ with heap := h', toks := tk }) :
    ∀ (m i : Nat) (h : Heap) (tk : Nat) (kvs : List (Int × Value)), i + m = ps.length → h.IsListIter I l i → h.IsList l its → (∀ b o, s₀.heap.get? b = some o → h.get? b = some o) → h.DictOf (intKind prog w) D kvs → PairV w n W s₀.heap (putAll [] (ps.take i)) kvs → kvs.length ≤ i →
      codeAny (model prog w) A (.builtin "dict.update.loop" ⟨[.ref D, .ref I, rawInt i, .none], []⟩) R' { s₀ with heap := h, toks := tk } := by
  have hsz : its.size = ps.length := by have := z.length; rw [pairsPy, List.length_map, Array.length_toList] at this; exact this.symm
  intro m
  induction m with
  | zero =>
    intro i h tk kvs hi hit hli kp hd pv hk
    refine codeAny_builtin entry_dul ?_
    rw [Around.under_plainId plain_dul _]
    show wpAny _ A.in1 (pyNext (.ref I) >>= _) _ _ _
    refine wpAny_bind (wpAny_pyNext_list_end (s := { s₀ with heap := h, toks := tk }) hh hit hli (by rw [Array.getElem?_eq_none (by lia)]) fun h₁ he₁ => ?_)
    show wpAny _ A.in1 (Builtin.Dict.addKeywords D [] >>= fun _ => ret .none) _ _ _
    refine wpAny_bind (wpAny_pure (wpAny_pure (hR h₁ tk kvs (fun b o e => he₁ b o (fun q => by rw [q, hI] at e; cases e) (kp b o e)) (hd.at fun o e => he₁ D o hDI e) ?_)))
    rwa [List.take_of_length_le (by lia)] at pv
  | succ m ih =>
    intro i h tk kvs hi hit hli kp hd pv hk
    have hlt : i < ps.length := by lia
    refine codeAny_builtin entry_dul ?_
    rw [Around.under_plainId plain_dul _]
    show wpAny _ A.in1 (pyNext (.ref I) >>= _) _ _ _
    have hget : its[i]? = some (its[i]'(by lia)) := Array.getElem?_eq_getElem _
    refine wpAny_bind (wpAny_pyNext_list_item (s := { s₀ with heap := h, toks := tk }) hit hli hget fun h₁ hit₁ hs₁ => ?_)
    refine xEA (z.get (i := i) (d := .tuple [.int (ps[i]).1, (ps[i]).2]) (by simp [pairsPy, hlt])) fun v ev rv => ?_
    (refine xEEEEEAAAA (fz_pair rv) fun t vs e a b hv gt evs zz4 rb => ?_; obtain ⟨u, ea⟩ := zz4)
    have hv' : its[i]'(by lia) = .ref t := by
      rw [Array.getElem?_toList, hget] at ev
      exact (Option.some.inj ev).trans hv
    rw [hv']
    have kp1 : ∀ b o, s₀.heap.get? b = some o → h₁.get? b = some o := fun b o e => hs₁.extBut b o (fun q => by rw [q, hI] at e; cases e) (kp b o e)
    have gt1 := kp1 _ _ gt
    show wpAny _ A.in1 (holding [.ref t] _ >>= fun _ => again _) _ _ _
    refine wpAny_bind (wpAny_holding ?_)
    refine wpAny_bind (wpAny_tryCatch (wpAny_bind (wpAny_typeOf (s := { s₀ with heap := h₁, toks := tk }) (T := "tuple") (iEA _ gt1 rfl) ?_)))
    rw [if_pos (by decide)]
    refine wpAny_bind ?_
    show wpAny _ A.in1 (load t >>= _) _ _ _
    refine wpAny_bind (wpAny_load gt1 ?_)
    refine wpAny_pure (wpAny_pure ?_)
    show wpAny _ A.in1 (match vs.toList with | [k, v] => _ | l => _) _ _ _
    rw [evs, ea]
    refine wpAny_holding ?_
    have hDI1 : h₁.DictOf (intKind prog w) D kvs := hd.at fun o e => hs₁.extBut D o hDI e
    refine wpAny_dictSet_pairs (s := { s₀ with heap := h₁, toks := tk }) (knd := intKind prog w) (k := (ps[i]).1) (by simp [intKind, Value.isInt]) hDI1 (fun h₂ hd₂ hs₂ => ?_) (le1000 (by lia))
    refine wpAny_pure ⟨plainId_quiet plain_dul _, ?_⟩
    have nD : ∀ b o, s₀.heap.get? b = some o → b ≠ D := fun b o e q => by rw [q, hD] at e; cases e
    have key := ih (i + 1) h₂ (tk + 1) (stored kvs (ps[i]).1 b) (by lia) (hit₁.extBut hs₂.extBut (Ne.symm hDI)) ((hli.extBut hs₁.extBut hne).extBut hs₂.extBut (Ne.symm hDl)) (fun b o e => hs₂.extBut b o (nD b o e) (kp1 b o e)) hd₂ ?_ ?_
    · exact key
    · rw [List.take_add_one, List.getElem?_eq_getElem hlt]
      show PairV w n W s₀.heap (putAll [] (ps.take i ++ [ps[i]])) _
      unfold putAll
      rw [List.foldl_append]
      exact PairV.put pv (to_d rb)
    · have : (stored kvs (ps[i]).1 b).length ≤ kvs.length + 1 := by unfold stored; split <;> simp
      lia

theorem C.dictL {ps : List (Int × PyData)} (G : Gnd h₀ K mg mb) (lo : Loc) (f : H.fresh lo) (hl : ps.length ≤ 1000) (nd : ((putAll [] ps).map (·.1)).Nodup) (q : Q (.loc lo) (H.add lo (.dictI (putAll [] ps)))) :
    C prog w h₀ d (.type "dict") [.d (.list (pairsPy ps))] H Q := C.mk1 <| by
  intro A s W v ao R r
  (refine xEEEAAA (fz_list (of_d r)) fun l its n ee5 fl g z => ?_; subst ee5)
  have ns := notSys R.base G
  have hD0 := sizeNone s.heap
  refine callType_codes (Q₁ := fun obj s₁ => obj = .ref s.heap.objs.size ∧ s₁ = { s with heap := s.heap.push { cls := .type "dict", data := .dict #[] } }) F.kt_called_dict (F.kt_typeCall_dict_1 _) F.entry_dict_init (kt_code_dict_new _ ⟨rfl, rfl⟩) ?_
  (intro obj s₁ yy12; (refine xA yy12 fun ee6 ee7 => ?_; clear yy12; subst ee6; subst ee7))
  have hnew : (s.heap.push { cls := .type "dict", data := .dict #[] }).DictOf (intKind prog w) s.heap.objs.size [] := Heap.DictOf.new s.heap
  have kp1 := push_keep s.heap { cls := .type "dict", data := .dict #[] }
  have g1 := kp1 _ _ g
  have hDl : s.heap.objs.size ≠ l := fun e => absurd (Heap.lt_size g) (by rw [e]; exact Nat.lt_irrefl _)
  refine (iAA hnew.typeIs (F.args_dict_init_2 _ _) ?_)
  unfold Builtin.«dict.__init__»
  refine wpAny_bind ?_
  unfold Builtin.Dict.selfAndRest
  refine wpAny_bind (wpAny_notOrdered_dict hnew.typeIs ?_)
  show wpAny _ _ (pure (s.heap.objs.size, [Value.ref l])) _ _ _
  refine wpAny_pure ?_
  show wpAny _ _ (Builtin.Dict.updateFrom "dict.__init__" s.heap.objs.size (.ref l) [] .none) _ _ _
  unfold Builtin.Dict.updateFrom
  refine wpAny_bind (wpAny_typeOf (T := "list") (iEA _ g1 rfl) ?_)
  rw [if_pos (by decide)]
  refine wpAny_bind (noKeys g1 ao.handled fun h₂ tk₂ kp2 => ?_)
  simp only [Option.isNone_none, if_true]
  refine wpAny_bind (wpAny_rule (wpAny_bind ?_))
  have hl2 : h₂.IsList l its := (iEAAE _ (kp2 _ _ g1) rfl n rfl)
  refine wpAny_pyIter_list (s := { s with heap := h₂, toks := tk₂ }) hl2 ?_
  have kp3 := push_keep h₂ { cls := .type "list_iterator", data := .fields #[.ref l, .int 0 0] }
  have kp : ∀ b o, s.heap.get? b = some o → (h₂.push { cls := .type "list_iterator", data := .fields #[.ref l, .int 0 0] }).get? b = some o := fun b o e => kp3 b o (kp2 b o (kp1 b o e))
  have hI : s.heap.get? h₂.objs.size = none := by
    cases e : s.heap.get? h₂.objs.size with
    | none => rfl
    | some o => exact absurd (Heap.lt_size (kp2 _ o (kp1 _ o e))) (Nat.lt_irrefl _)
  have hdI : h₂.DictOf (intKind prog w) s.heap.objs.size [] := hnew.at fun o e => kp2 _ o e
  have lI : ∀ {b : Addr} {o : Obj}, h₂.get? b = some o → b ≠ h₂.objs.size := fun {b o} e => Nat.ne_of_lt (Heap.lt_size e)
  have hDI : s.heap.objs.size ≠ h₂.objs.size := by (refine xEEEA hdI fun o _ _ ho _ => ?_; clear hdI); exact lI ho
  refine wpAny_pure ⟨plainId_quiet plain_dul _, ?_⟩
  refine codeAny_dul (s₀ := s) (W := W) (n := H.next) (ps := ps) (A := A.in1) ao.handled (lI (kp2 _ _ g1)) hDI hDl hI hD0 z hl (fun h' tk kvs kp' hd' pv' => ?_) ps.length 0 _ _ [] (Nat.zero_add _) (iEAA _ (Heap.get?_push_size _ rfl) rfl rfl) (hl2.push _) kp (hdI.at fun o e => kp3 _ o e) (by simp [putAll, PairV]) (Nat.le_refl _)
  refine ⟨rfl, ?_⟩
  refine xA (R.allocAt f (o := .dictI (putAll [] ps)) kp' hD0 (by (refine xEEEA hd' fun o _ _ ho _ => ?_; clear hd'); exact ⟨o, ho⟩) fun n' W' g => dlI.of hd' (pv'.grow g) ns) fun R2 g2 => ?_
  refine ⟨_, _, (iEA (.loc lo) q ?_), R2, g2, ⟨rfl, rfl⟩⟩
  rw [VR]; exact (iAEA (MH.ok_add f) _ (by simp [Wd.own]) rfl)
end
end Mine
end L1vx

noncomputable section L1wx
open PySem PySem.W PySem.Calls PyProof.Rows
set_option Elab.async false
set_option linter.unusedVariables false
namespace Mine

/-! a sort asks, whatever is answered, only of what is there, and ends in an order of what was there -/
noncomputable def TOk {α : Type} (I : Nat → Prop) (P : α → Prop) : KasT α → Prop
  | .ret a => P a
  | .ask i j k => I i ∧ I j ∧ ∀ b, TOk I P (k b)
theorem TOk.mono {α : Type} {I : Nat → Prop} {P P' : α → Prop} (k : ∀ a, P a → P' a) : ∀ {t : KasT α}, TOk I P t → TOk I P' t
  | .ret a, h => k a h
  | .ask i j f, h => (iAA h.1 h.2.1 (fun b => TOk.mono k (h.2.2 b)))
theorem TOk.bind {α β : Type} {I : Nat → Prop} {P : α → Prop} {P' : β → Prop} {f : α → KasT β} (k : ∀ a, P a → TOk I P' (f a)) : ∀ {t : KasT α}, TOk I P t → TOk I P' (t.bind f)
  | .ret a, h => k a h
  | .ask i j g, h => (iAA h.1 h.2.1 (fun b => TOk.bind k (h.2.2 b)))
theorem TOk.ret {α : Type} {I : Nat → Prop} {P : α → Prop} {a : α} (h : P a) : TOk I P (.ret a) := h
theorem TOk.ite {α : Type} {I : Nat → Prop} {P : α → Prop} {c : Prop} [Decidable c] {t u : KasT α} (a : TOk I P t) (b : TOk I P u) : TOk I P (if c then t else u) := by split <;> assumption

section
variable {n : Nat}
noncomputable def PermOf (n : Nat) (p : Array Nat) : Prop := p.toList.Perm (List.range n)
theorem PermOf.lt {p : Array Nat} (hn : 0 < n) (h : PermOf n p) (i : Nat) : p.getD i 0 < n := by
  by_cases q : i < p.size
  · have e : p.getD i 0 = p[i] := by simp [Array.getD, q]
    rw [e]
    have : p[i] ∈ p.toList := by simp
    exact List.mem_range.mp (h.mem_iff.mp this)
  · have e : p.getD i 0 = 0 := by simp [Array.getD, q]
    rw [e]; exact hn
theorem PermOf.of {p q : Array Nat} (h : PermOf n p) (x : q.Perm p) : PermOf n q := (Array.perm_iff_toList_perm.mp x).trans h
theorem PermOf.rev {p : Array Nat} (h : PermOf n p) (i j : Nat) : PermOf n (kas_rev p i j) := h.of (mirror_perm _ _ _ _)
theorem PermOf.bub {p : Array Nat} (h : PermOf n p) (i j : Nat) : PermOf n (bubble p i j) := h.of (bubble_perm _ _ _)
noncomputable abbrev In (n : Nat) : Nat → Prop := fun i => i < n

variable {p : Array Nat} (hn : 0 < n)
include hn
theorem asc_ok (h : PermOf n p) : ∀ (f k : Nat), TOk (In n) (fun _ => True) (kas_asc p f k)
  | 0, _ => trivial
  | f + 1, k => (iAA (h.lt hn _) (h.lt hn _) (fun b => .ite trivial (asc_ok h f (k + 1))))
theorem desc_ok : ∀ (f : Nat) (p : Array Nat) (k q : Nat), PermOf n p → TOk (In n) (fun r => PermOf n r.1) (kas_desc f p k q)
  | 0, _, _, _, h => h
  | f + 1, p, k, q, h => (iAA (h.lt hn _) (h.lt hn _) (fun b => .ite (.ite (desc_ok f _ _ _ (h.rev _ _)) (desc_ok f _ _ _ h)) (iAA (h.lt hn _) (h.lt hn _) (fun b => .ite h (desc_ok f _ _ _ h)))))
theorem tail3_ok (h : PermOf n p) (a b : Nat) : TOk (In n) (fun r : Nat × Array Nat => PermOf n r.2) (kas_tail3 a b p) := by
  unfold kas_tail3
  refine TOk.bind (P := fun _ => True) ?_ (asc_ok hn (h.rev _ _) _ _)
  intro m _
  exact h.rev 0 a
theorem descPart_ok (h : PermOf n p) (a b : Nat) : TOk (In n) (fun r : Nat × Array Nat => PermOf n r.2) (kas_descPart a b p) := by
  unfold kas_descPart
  refine TOk.bind (P := fun r : Array Nat × Nat × Nat => PermOf n r.1) ?_ (desc_ok hn _ _ _ _ h)
  intro r hr
  exact .ite (tail3_ok hn (PermOf.rev hr _ _) _ _) (tail3_ok hn hr _ _)
theorem count_ok (h : PermOf n p) (b : Nat) : TOk (In n) (fun r : Nat × Array Nat => PermOf n r.2) (kas_count b p) := by
  unfold kas_count
  refine TOk.bind (P := fun _ => True) ?_ (asc_ok hn h _ _)
  intro m _
  refine .ite h (.ite (iAA (h.lt hn _) (h.lt hn _) (fun _ => .ite h (descPart_ok hn (h.rev _ _) _ _))) (descPart_ok hn h _ _))
theorem place_ok (h : PermOf n p) (k : Nat) : ∀ (f l r : Nat), TOk (In n) (fun _ => True) (kas_place p k f l r)
  | 0, _, _ => trivial
  | f + 1, l, r => .ite trivial (iAA (h.lt hn _) (h.lt hn _) (fun _ => .ite (place_ok h k f _ _) (place_ok h k f _ _)))
theorem bin_ok : ∀ (f : Nat) (p : Array Nat) (k : Nat), PermOf n p → TOk (In n) (PermOf n) (kas_bin f p k)
  | 0, _, _, h => h
  | f + 1, p, k, h => TOk.bind (fun l _ => bin_ok f _ _ (h.bub _ _)) (place_ok hn h k k 0 k)
theorem sort_ok : TOk (In n) (PermOf n) (kas_sort n) := by
  unfold kas_sort
  refine TOk.bind (P := fun r : Nat × Array Nat => PermOf n r.2) ?_ (count_ok hn (p := List.toArray (List.range n)) (List.Perm.refl _) n)
  intro r hr
  exact .ite (bin_ok hn _ _ _ hr) hr
end
theorem TOk.wp {α : Type} {I : Nat → Prop} {P : α → Prop} {cmp : Nat → Nat → (Bool → Shared → Prop) → Shared → Prop} {Q : α → Shared → Prop} {G : Shared → Prop}
    (hc : ∀ i j (C : Bool → Shared → Prop) s, G s → I i → I j → (∀ b s', G s' → C b s') → cmp i j C s) (q : ∀ a s, P a → G s → Q a s) : ∀ {t : KasT α} {s : Shared}, TOk I P t → G s → t.kasWp cmp Q s
  | .ret a, s, h, g => q a s h g
  | .ask i j k, s, h, g => hc i j _ s g h.1 h.2.1 fun b s' g' => TOk.wp hc q (h.2.2 b) g'

/-! list.sort of tuples that begin with a str, ints behind it -/
section
variable {prog : Program} {w : World} {A : Around} {E : Value → Shared → Prop} {s : Shared}
/-- the keys of such tuples -/
noncomputable def nodeKey (d : PyData) : Prop := ∃ (x : Str) (ns : List Int), d = .tuple (.str x :: ns.map .int)
noncomputable def Nt (F : Addr → Prop) (h : Heap) (v : Value) : Prop := ∃ d, nodeKey d ∧ Fz F h d v
theorem fz_intsIn {F : Addr → Prop} {h : Heap} : ∀ {ns : List Int} {r : List Value}, FzA F h (ns.map .int) r → ∀ u ∈ r, ∃ i t, u = .int i t
  | [], r, z, u, hu => by rw [List.map_nil, FzA] at z; subst z; cases hu
  | i :: ns, r, z, u, hu => by
    rw [List.map_cons, FzA] at z
    obtain ⟨v1, r1, rfl, z1, z⟩ := z
    rw [Fz] at z1
    obtain ⟨t1, rfl⟩ := z1
    rcases List.mem_cons.mp hu with rfl | hu
    · exact ⟨_, _, rfl⟩
    · exact fz_intsIn z u hu
theorem nt_at {F : Addr → Prop} {h : Heap} {v : Value} (x : Nt F h v) : ∃ a vs n y t r, v = .ref a ∧ h.get? a = some (tupOf vs n) ∧ vs.toList = .str y t :: r ∧ ∀ u ∈ r, ∃ i t, u = .int i t := by
  (refine xEA x fun _ zz1 z => ?_; clear x; obtain ⟨y, ns, rfl⟩ := zz1)
  obtain ⟨a, vs, n, rfl, f, g, z⟩ := fz_tuple z
  rw [FzA] at z
  refine xEEAA z fun v0 r e z0 z => ?_
  rw [Fz] at z0
  (refine xE z0 fun t ee2 => ?_; clear z0; subst ee2)
  exact (iEEEEEEAAA a vs n y t r rfl g e (fz_intsIn z))
theorem nt_lex {b fin : Bool} {Q : Bool → Shared → Prop} (hq : ∀ b, Q b s) : ∀ (l : List (Value × Value)) (i : Nat), 0 < i → (∀ p ∈ l, (∃ j t, p.1 = .int j t) ∧ ∃ j t, p.2 = .int j t) → KatLex prog w A b fin Q l i s
  | [], _, _, _ => kat_nil (hq _)
  | (p, q) :: r, i, hi, h => by
    (refine xAEE (h _ (.head _)) fun zz3 k u e2 => ?_; obtain ⟨j, t, e1⟩ := zz3)
    dsimp only at e1 e2; subst e1 e2
    refine kat_cons (wpAny_eqBool_int ?_)
    refine kat_go (fun _ => kat_yes (nt_lex hq r (i + 1) (by lia) fun p hp => h p (.tail _ hp))) (fun _ => kat_no ?_)
    rw [show (i == 0) = false by simp; lia, Bool.and_false]
    exact kat_one _ _ (P.lt_int (hq _))
theorem nt_zip : ∀ (r r' : List Value), (∀ u ∈ r, ∃ i t, u = Value.int i t) → (∀ u ∈ r', ∃ i t, u = Value.int i t) → ∀ p ∈ r.zip r', (∃ j t, p.1 = Value.int j t) ∧ ∃ j t, p.2 = Value.int j t := by
  intro r r' h h' p hp
  exact ⟨h _ (List.of_mem_zip hp).1, h' _ (List.of_mem_zip hp).2⟩
theorem nt_lt {F : Addr → Prop} {x y : Value} {Q : Bool → Shared → Prop} (hx : Nt F s.heap x) (hy : Nt F s.heap y) (hq : ∀ b, Q b s) : wpAny (model prog w) A (keyLt' (tuples' true) x y) Q E s := by
  (refine xEEEEEEAAA (nt_at hx) fun a vs n x0 t r ee4 g e hr => ?_; subst ee4)
  (refine xEEEEEEAAA (nt_at hy) fun a' vs' n' x0' t' r' ee5 g' e' hr' => ?_; subst ee5)
  refine kat_lt g rfl g' rfl ?_
  rw [e, e', List.zip_cons_cons]
  refine kat_cons (wpAny_eqBool_str ?_)
  exact kat_go (fun _ => kat_yes (nt_lex hq _ _ (by decide) (nt_zip _ _ hr hr'))) (fun _ => kat_no (oneLt_str (hq _)))
end
end Mine
end L1wx

noncomputable section L2ax
open PySem PySem.W PySem.Calls PyProof.Rows
set_option Elab.async false
set_option linter.unusedVariables false
set_option maxRecDepth 100000
namespace Mine

section
variable {prog : Program} {w : World} {A : Around} {E : Value → Shared → Prop} {s : Shared}
theorem Nt.mono {F F' : Addr → Prop} {h h' : Heap} (k : Keeps1 F F' h h') {v : Value} (x : Nt F h v) : Nt F' h' v := by
  (refine xEA x fun d k' z => ?_; clear x)
  exact (iEA d k' (Fz.mono k z))
theorem nt_tups {F : Addr → Prop} {h : Heap} : ∀ {vs : List Value}, (∀ v ∈ vs, Nt F h v) → ∃ fs, fs.length = vs.length ∧ KatTups h vs fs ∧ ∀ v ∈ fs, ∃ x t, v = .str x t
  | [], _ => (iEAA ([]) rfl .nil (by simp))
  | v :: vs, hx => by
    refine xEAA (nt_tups fun v h => hx v (.tail _ h)) fun fs l k z => ?_
    (refine xEEEEEEAAA (nt_at (hx _ (.head _))) fun a its n y t r ee1 g e hr => ?_; subst ee1)
    refine (iEAA (.str y t :: fs) (by simp [l]) (.cons g rfl rfl (by rw [← Array.getElem?_toList, e]; rfl) k) ?_)
    intro u hu
    rcases List.mem_cons.mp hu with rfl | hu
    · exact (iEE _ _ rfl)
    · exact z u hu
theorem getD_perm {α : Type} {vs : List α} {x : α} {l : List Nat} (h : l.Perm (List.range vs.length)) : (l.map fun i => vs.getD i x).Perm vs := by
  refine (h.map _).trans (.of_eq ?_)
  apply List.ext_getElem?
  intro i
  by_cases q : i < vs.length
  · simp [q, List.getElem?_range]
  · simp [q]
theorem list_sort_nt {F : Addr → Prop} {a : Addr} {vs : List Value} {n : Nat} {P : PySem.Fin → Shared → Prop} (ho : s.heap.get? a = some (seqObj "list" vs.toArray n)) (hF : ¬ F a) (hI : ∀ v ∈ vs, Nt F s.heap v) (h64 : vs.length < 64)
    (h : ∀ out : Array Value, out.toList.Perm vs → P (.done (.ret .none)) { s with heap := sortedHeap s.heap a vs out }) : wpAny (model prog w) A (Builtin.«list.sort» ⟨[.ref a], []⟩) P E s := by
  rw [list_sort_plain]
  have ha : a < s.heap.objs.size := Heap.lt_size ho
  obtain ⟨e1, ho1⟩ : ∃ e1, (s.heap.update a (Obj.mapSeq fun _ => (#[] : Array Value))).get? a = some (seqObj "list" #[] e1) := ⟨_, get?_update_seq ho fun _ => #[]⟩
  refine wpAny_bind (listItems_at ho rfl ?_)
  refine wpAny_bind (listUpdate_at ho rfl ?_ (by rw [List.size_toArray, sizeLine_eq]; lia) (Nat.zero_le _))
  refine wpAny_bind (seqEpoch_at ho1 rfl ?_)
  refine wpAny_bind (wpAny_newTuple ?_ (by show vs.length ≤ _; rw [sizeLine_eq]; lia))
  refine wpAny_bind (wpAny_newList ?_ (Nat.zero_le _))
  refine wpAny_holding ?_
  have ho6 : (((s.heap.update a (Obj.mapSeq fun _ => #[])).push (seqObj "tuple" vs.toArray 0)).push (seqObj "list" #[] 0)).get? a = some (seqObj "list" #[] e1) :=
    Heap.get?_push_of_some _ (Heap.get?_push_of_some _ ho1)
  have kp : Keeps1 F F s.heap (((s.heap.update a (Obj.mapSeq fun _ => #[])).push (seqObj "tuple" vs.toArray 0)).push (seqObj "list" #[] 0)) := fun b o f e =>
    ⟨f, Heap.get?_push_of_some _ (Heap.get?_push_of_some _ (((Heap.SameBut.update s.heap a _).2 b (fun q => hF (q ▸ f))).trans e))⟩
  show wpAny (model prog w) A _ P E { s with heap := ((s.heap.update a (Obj.mapSeq fun _ => (#[] : Array Value))).push (seqObj "tuple" vs.toArray 0)).push (seqObj "list" #[] 0) }
  dsimp only
  generalize hH : ((s.heap.update a (Obj.mapSeq fun _ => (#[] : Array Value))).push (seqObj "tuple" vs.toArray 0)).push (seqObj "list" #[] 0) = h6 at ho6 kp ⊢
  have hI6 : ∀ v ∈ vs, Nt F h6 v := fun v m => (hI v m).mono kp
  have fin : ∀ (st' : SortSt) (out : Array Value), out.toList.Perm vs → (arrOf st').map (·.2) = out →
      P (.done (.ret .none)) { s with heap := h6.update a (Obj.mapSeq fun _ => (arrOf st').map (·.2)) } := by
    intro st' out hp e
    subst hH
    rw [e]
    exact h out hp
  by_cases h2 : vs.toArray.size < 2
  · rw [if_pos h2, if_pos h2]
    refine wpAny_bind (wpAny_pure ?_)
    rw [StateT.run_pure]
    refine wpAny_bind (wpAny_pure ?_)
    dsimp only
    refine wpAny_bind (seqEpoch_at (s := { s with heap := h6 }) ho6 rfl ?_)
    refine wpAny_bind (listUpdate_at (s := { s with heap := h6 }) ho6 rfl ?_ (Nat.zero_le _) (by rw [Array.size_map]; show (pairsOf vs).size ≤ _; rw [pairsOf_size, sizeLine_eq]; lia))
    simp only [bne_self_eq_false, Bool.false_eq_true, if_false]
    refine wpAny_pure (fin (SortSt.mk' general' (vs.toArray.zip vs.toArray) #[] 7 none) vs.toArray (List.Perm.refl _) ?_)
    show (vs.toArray.zip vs.toArray).map (·.2) = vs.toArray
    apply Array.toList_inj.mp
    simp [Array.toList_map, List.map_snd_zip]
  · rw [if_neg h2, if_neg h2]
    have hl2 : 2 ≤ vs.length := by rw [List.size_toArray] at h2; lia
    refine xEAA (nt_tups hI6) fun fs lf kt hz => ?_
    refine wpAny_bind (kat_kind (s := { s with heap := h6 }) (T := .type "str") kt (by lia) (fun v m => by (refine xEE (hz v m) fun x t ee2 => ?_; subst ee2); exact Looks.of_pure rfl) rfl ?_)
    have hT : (Value.type "str" != Value.type "tuple") = true := rfl
    rw [hT]
    refine wpAny_bind (wpAny_mono (kat_run (A := A) (E := E) (s := { s with heap := h6 }) (κ := tuples' true) (ks := vs) (vs := vs) (Q := fun st' s' => s' = { s with heap := h6 } ∧ failedOf st' = none ∧ ∃ out : Array Value, out.toList.Perm vs ∧ (arrOf st').map (·.2) = out)
      (G := fun p s' => PermOf vs.length p ∧ s' = { s with heap := h6 }) rfl hl2 h64 ?_ ?_) ?_ fun _ _ e => e)
    · (intro p st' s' hs har hf yy7; (refine xA yy7 fun hp ee3 => ?_; clear yy7; subst ee3))
      refine (iAAEA rfl hf _ ?_ (kat_snds rfl har))
      exact getD_perm hp
    · refine TOk.wp (G := fun s' => s' = { s with heap := h6 }) ?_ (fun a s' p g => ⟨p, g⟩) (sort_ok (n := vs.length) (by lia)) rfl
      (intro i j C s' yy12 hi hj hC; subst yy12)
      rw [kat_ask_eq rfl]
      unfold kas_cmp
      rw [kat_item rfl, kat_item rfl]
      have m1 : vs.getD i Value.none ∈ vs := by
        have e3 : vs.getD i Value.none = vs[i] := by have : i < vs.length := hi; simp [this]
        rw [e3]; exact List.getElem_mem _
      have m2 : vs.getD j Value.none ∈ vs := by
        have e3 : vs.getD j Value.none = vs[j] := by have : j < vs.length := hj; simp [this]
        rw [e3]; exact List.getElem_mem _
      exact nt_lt (F := F) (hI6 _ m1) (hI6 _ m2) fun b => hC b _ rfl
    · (intro yy16 s' yy18; obtain ⟨⟨⟩, st'⟩ := yy16; (refine xAAEA yy18 fun ee4 hf out hp e => ?_; clear yy18; subst ee4))
      dsimp only
      refine wpAny_bind (seqEpoch_at (s := { s with heap := h6 }) ho6 rfl ?_)
      refine wpAny_bind (listUpdate_at (s := { s with heap := h6 }) ho6 rfl ?_ (Nat.zero_le _) (by
        have := hp.length_eq
        rw [Array.length_toList] at this
        rw [e]; refine Nat.le_succ_of_le (le1000 (by lia))))
      rw [hf]
      simp only [bne_self_eq_false, Bool.false_eq_true, if_false]
      exact wpAny_pure (fin st' out hp e)
end
end Mine
end L2ax

noncomputable section L2bx
open PySem PySem.W PySem.Calls PyProof.Rows
set_option Elab.async false
set_option linter.unusedVariables false
set_option maxRecDepth 100000
namespace Mine

/-- all that was stands -/
noncomputable def Kp (s s' : Shared) : Prop := (∀ b o, s.heap.get? b = some o → s'.heap.get? b = some o) ∧ Sim s s'
theorem Kp.refl {s : Shared} : Kp s s := ⟨fun _ _ e => e, .refl⟩
theorem Kp.trans {s s' s'' : Shared} (a : Kp s s') (b : Kp s' s'') : Kp s s'' := ⟨fun x o e => b.1 x o (a.1 x o e), a.2.trans b.2⟩
theorem Kp.push {s : Shared} {o : Obj} : Kp s { s with heap := s.heap.push o } := ⟨push_keep _ _, ⟨rfl, rfl⟩⟩
theorem Kp.heap {s : Shared} {h' : Heap} {tk : Nat} (k : ∀ b o, s.heap.get? b = some o → h'.get? b = some o) : Kp s { s with heap := h', toks := tk } := ⟨k, ⟨rfl, rfl⟩⟩

section
variable {prog : Program} {w : World} {A : Around} {E : Value → Shared → Prop} {s : Shared}
theorem sorted_core {v : Value} {Q : Value → Shared → Prop}
    (hc : wpAny (model prog w) A.in1 (collect v) (fun xs s1 => xs.length ≤ 1000 ∧
      wpAny (model prog w) A.in1.in1 (Builtin.«list.sort» ⟨[.ref s1.heap.objs.size], []⟩) (fun r s3 => r = .done (.ret .none) ∧ Q (.ref s1.heap.objs.size) s3) E { s1 with heap := s1.heap.push (seqObj "list" xs.toArray 0) }) E s) :
    wpAny (model prog w) A (call (.builtin "sorted") [v]) Q E s := by
  refine Calls.call_function_entry kind_sorted plain_sorted entry_sorted (args_sorted1 _) ?_
  unfold Builtin.«sorted»
  refine wpAny_bind (m := checkCount "sorted" 1 1 _) (wpAny_pure ?_)
  refine wpAny_bind (wpAny_mono hc (fun xs s1 hx => ?_) fun _ _ e => e)
  refine xA hx fun hl hx => ?_
  refine wpAny_bind (wpAny_newList ?_ (le1000 hl))
  refine wpAny_bind (wpAny_holding (wpAny_call_entry slot_list_sort (iEA _ (Heap.get?_push_size _ rfl) rfl) entry_list_sort (wpAny_mono hx (fun r s3 hr => ?_) fun _ _ e => e) (args_list_sort _)))
  (refine xA hr fun ee1 hq => ?_; clear hr; subst ee1)
  exact (iEA _ rfl (wpAny_pure (iEA _ rfl hq)))
theorem sortHeap_out {s1 : Shared} {xs : List Value} {out : Array Value} (k : Kp s s1) (h : ∀ s3 D e, Kp s s3 → s.heap.get? D = none → s3.heap.get? D = some (listOf out e) → D = s1.heap.objs.size → Prop) :
    ∃ e, Kp s { s1 with heap := sortedHeap (s1.heap.push (seqObj "list" xs.toArray 0)) s1.heap.objs.size xs out } ∧ s.heap.get? s1.heap.objs.size = none ∧ (sortedHeap (s1.heap.push (seqObj "list" xs.toArray 0)) s1.heap.objs.size xs out).get? s1.heap.objs.size = some (listOf out e) := by
  refine xE (sortedHeap_at (h := s1.heap.push (seqObj "list" xs.toArray 0)) (out := out) (Heap.get?_push_size _ rfl)) fun e he => ?_
  refine (iEAA e (⟨fun b o x => ?_, k.2⟩) ?_ he)
  · have hb := Heap.lt_size (k.1 b o x)
    rw [sortedHeap_old (Nat.ne_of_lt hb) (by rw [size_push']; exact Nat.lt_succ_of_lt hb)]
    exact push_keep _ _ b o (k.1 b o x)
  · cases q : s.heap.get? s1.heap.objs.size with
    | none => rfl
    | some o => exact absurd (Heap.lt_size (k.1 _ _ q)) (Nat.lt_irrefl _)
theorem sorted_I {v : Value} {P : List Int → Prop} {Q : Value → Shared → Prop}
    (hc : wpAny (model prog w) A.in1 (collect v) (fun xs s1 => Kp s s1 ∧ ∃ ns, IntsAre xs ns ∧ P ns ∧ ns.length < 64) E s)
    (h : ∀ s3 D (out : Array Value) e ns ns', Kp s s3 → P ns → ns'.Perm ns → ns'.Pairwise (· ≤ ·) → s.heap.get? D = none → s3.heap.get? D = some (listOf out e) → IntsAre out.toList ns' → Q (.ref D) s3) :
    wpAny (model prog w) A (call (.builtin "sorted") [v]) Q E s := by
  refine sorted_core (wpAny_mono hc (fun xs s1 hx => ?_) fun _ _ e => e)
  (refine xAEAA hx fun k ns hI p hl => ?_; clear hx)
  have hlen : xs.length = ns.length := IntsAre.length hI
  refine ⟨by lia, list_sort_tree (s := { s1 with heap := s1.heap.push (seqObj "list" xs.toArray 0) }) (n := 0) (Heap.get?_push_size _ rfl) hI (by lia) fun out ns' a1 a2 a3 => ⟨rfl, ?_⟩⟩
  refine xEAA (sortHeap_out (xs := xs) (out := out) k fun _ _ _ _ _ _ _ => True) fun e k' hn he => ?_
  exact h _ _ out e ns ns' k' p a2 a3 hn he a1
theorem sorted_T {v : Value} {F : Addr → Prop} {Q : Value → Shared → Prop} {P : List Value → Prop}
    (hc : wpAny (model prog w) A.in1 (collect v) (fun xs s1 => Kp s s1 ∧ P xs ∧ (∀ v ∈ xs, Nt F s.heap v) ∧ xs.length < 64) E s)
    (h : ∀ s3 D (out : Array Value) e xs, Kp s s3 → P xs → out.toList.Perm xs → s.heap.get? D = none → s3.heap.get? D = some (listOf out e) → Q (.ref D) s3) :
    wpAny (model prog w) A (call (.builtin "sorted") [v]) Q E s := by
  refine sorted_core (wpAny_mono hc (fun xs s1 hx => ?_) fun _ _ e => e)
  (refine xAAA hx fun k p hI hl => ?_; clear hx)
  have hlt : ∀ b o, s.heap.get? b = some o → b < s1.heap.objs.size := fun b o e => Heap.lt_size (k.1 b o e)
  refine ⟨by lia, list_sort_nt (s := { s1 with heap := s1.heap.push (seqObj "list" xs.toArray 0) }) (F := fun b => b < s1.heap.objs.size) (n := 0) (Heap.get?_push_size _ rfl) (Nat.lt_irrefl _)
    (fun v m => (hI v m).mono fun b o f e => ⟨hlt b o e, push_keep _ _ b o (k.1 b o e)⟩) hl fun out hp => ⟨rfl, ?_⟩⟩
  refine xEAA (sortHeap_out (xs := xs) (out := out) k fun _ _ _ _ _ _ _ => True) fun e k' hn he => ?_
  exact h _ _ out e xs k' p hp hn he
end

section
variable {prog : Program} {w : World} {h₀ : Heap} {d : Nat} {H : MH} {Q : MV → MH → Prop}
theorem Rel.freeAt {W : Wd} {h : Heap} (R : Rel w h₀ W H h) {D : Addr} (hD : h.get? D = none) : W.free D := by
  unfold Wd.free
  cases e : W.tau D with
  | free => rfl
  | frame => refine xE (R.new _ (by rw [e]; exact fun q => nomatch q)) fun o x => ?_; rw [hD] at x; cases x
  | own l => refine xE (R.new _ (by rw [e]; exact fun q => nomatch q)) fun o x => ?_; rw [hD] at x; cases x
/-- what is taken out of a value, item by item -/
noncomputable def Coll (prog : Program) (w : World) (h₀ : Heap) (d : Nat) (m : MV) (H : MH) (P : List PyData → Prop) : Prop :=
  ∀ A s W x, AOk d A → Rel w h₀ W H s.heap → VR w H.next W s.heap m x → wpAny (model prog w) A.in1 (collect x) (fun xs s1 => Kp s s1 ∧ ∃ ds, P ds ∧ FzA W.free s.heap ds xs) Bot s
theorem ints_fz {F : Addr → Prop} {h : Heap} : ∀ {vs : List Value} {ns : List Int}, IntsAre vs ns → FzA F h (ns.map .int) vs
  | _, _, .nil => by rw [List.map_nil, FzA]
  | _, _, .cons i t r => by rw [List.map_cons, FzA]; exact (iEEAA _ _ rfl (by rw [Fz]; exact ⟨_, rfl⟩) (ints_fz r))
theorem C.sortedI {m : MV} {P : List Int → Prop} (hc : Coll prog w h₀ d m H fun ds => ∃ ns, ds = ns.map .int ∧ P ns ∧ ns.length < 64)
    (q : ∀ ns ns' : List Int, P ns → ns'.Perm ns → ns'.Pairwise (· ≤ ·) → Q (.d (.list (ns'.map .int))) H) : C prog w h₀ d (.builtin "sorted") [m] H Q := C.mk1 <| by
  intro A s W v ao R r
  refine sorted_I (P := P) (wpAny_mono (hc A s W v ao R r) (fun xs s1 hx => ?_) fun _ _ e => e) fun s3 D out e ns ns' k p a1 a2 hn he hI => ?_
  · (refine xAEA hx fun k ds zz2 z => ?_; clear hx; obtain ⟨ns, rfl, p, hl⟩ := zz2)
    exact (iAEAA k ns (fz_ints z) p hl)
  · exact .keep R k.1 k.2 (iEA _ (q ns ns' p a1 a2) (vr_list (vs := out.toList) (R.freeAt hn) (by rw [Array.toArray_toList]; exact he) (ints_fz hI)))
set_option tactic.hygienic true in
theorem fz_perm {F : Addr → Prop} {h : Heap} {xs ys : List Value} (p : ys.Perm xs) : ∀ {ds : List PyData}, FzA F h ds xs → ∃ ds', ds'.Perm ds ∧ FzA F h ds' ys := by
  induction p with
  | nil => intro ds z; exact (iEA ds (.refl _) z)
  | cons x _ ih =>
    rename_i l1 l2 pp
    intro ds z
    cases ds with
    | nil => rw [FzA] at z; cases z
    | cons d ds =>
      rw [FzA] at z
      refine xEEAA z fun v r e z0 z => ?_
      injection e with e1 e2; subst e1 e2
      refine xEA (ih z) fun ds' p' z' => ?_
      exact (iEA (d :: ds') (.cons _ p') (by rw [FzA]; exact (iEEAA _ _ rfl z0 z')))
  | swap x y l =>
    intro ds z
    match ds, z with
    | [], z => rw [FzA] at z; cases z
    | [a], z => rw [FzA] at z; refine xEEAA z fun v r e z0 z => ?_; rw [FzA] at z; subst z; cases e
    | a :: b :: ds, z =>
      rw [FzA] at z
      refine xEEAA z fun v r e z0 z => ?_
      rw [FzA] at z
      obtain ⟨v', r', rfl, z1, z⟩ := z
      injection e with e1 e2
      injection e2 with e2 e3
      subst e1 e2 e3
      exact ⟨b :: a :: ds, .swap _ _ _, by rw [FzA]; exact ⟨_, _, rfl, z1, by rw [FzA]; exact ⟨_, _, rfl, z0, z⟩⟩⟩
  | trans _ _ ih1 ih2 =>
    intro ds z
    refine xEA (ih2 z) fun d1 p1 z1 => ?_
    refine xEA (ih1 z1) fun d2 p2 z2 => ?_
    exact (iEA d2 (p2.trans p1) z2)
theorem fz_nt {F : Addr → Prop} {h : Heap} : ∀ {ds : List PyData} {xs : List Value}, (∀ d ∈ ds, nodeKey d) → FzA F h ds xs → ∀ v ∈ xs, Nt F h v
  | [], xs, _, z, v, m => by rw [FzA] at z; subst z; cases m
  | d :: ds, xs, hk, z, v, m => by
    rw [FzA] at z
    obtain ⟨u, r, rfl, z0, z⟩ := z
    rcases List.mem_cons.mp m with rfl | m
    · exact ⟨d, hk _ (.head _), z0⟩
    · exact fz_nt (fun d m => hk d (.tail _ m)) z v m
theorem C.sortedT {m : MV} {P : List PyData → Prop} (hc : Coll prog w h₀ d m H fun ds => P ds ∧ (∀ d ∈ ds, nodeKey d) ∧ ds.length < 64)
    (q : ∀ ds ds' : List PyData, P ds → ds'.Perm ds → Q (.d (.list ds')) H) : C prog w h₀ d (.builtin "sorted") [m] H Q := C.mk1 <| by
  intro A s W v ao R r
  refine sorted_T (F := W.free) (P := fun xs => ∃ ds, P ds ∧ FzA W.free s.heap ds xs) (wpAny_mono (hc A s W v ao R r) (fun xs s1 hx => ?_) fun _ _ e => e) fun s3 D out e xs k p hp hn he => ?_
  · (refine xAEA hx fun k ds zz3 z => ?_; clear hx; obtain ⟨p, hk, hl⟩ := zz3)
    exact (iAAA k ((iEA ds p z)) (fz_nt hk z) (by have := z.length; lia))
  · refine xEA p fun ds p z => ?_
    refine xEA (fz_perm hp z) fun ds' p' z' => ?_
    exact .keep R k.1 k.2 (iEA _ (q ds ds' p p') (vr_list (vs := out.toList) (R.freeAt hn) (by rw [Array.toArray_toList]; exact he) (z'.mono (Grow.keep (X := NoX) (n := 0) k.1).keeps1)))

/-- a list of data -/
theorem Coll.list {xs : List PyData} {P : List PyData → Prop} (hl : xs.length ≤ 1000) (p : P xs) : Coll prog w h₀ d (.d (.list xs)) H P := by
  intro A s W x ao R r
  (refine xEEEAAA (fz_list (of_d r)) fun b vs n ee4 f g z => ?_; subst ee4)
  have hlen := z.length
  refine collect_list (vs := vs.toList) (show s.heap.IsList _ vs.toList.toArray by rw [Array.toArray_toList]; exact (iEAAE _ g rfl n rfl)) (iAEA (⟨fun b o x => ?_, ⟨rfl, rfl⟩⟩) xs p z) (le1000 (by lia))
  rw [Heap.get?_update_ne _ _ _ _ (Nat.ne_of_lt (Heap.lt_size x))]
  exact push_keep _ _ b o x
theorem Coll.named {lo : Loc} {xs : List PyData} {P : List PyData → Prop} (e : H.get lo = some (.list (xs.map .d))) (hl : xs.length ≤ 1000) (p : P xs) : Coll prog w h₀ d (.loc lo) H P := by
  intro A s W x ao R r
  (refine xEEEAAAA (list_at R e r) fun a vs n ee5 e1 e2 g z => ?_; subst ee5)
  have hlen := szOf z
  rw [List.length_map] at hlen
  refine collect_list (vs := vs.toList) (show s.heap.IsList _ vs.toList.toArray by rw [Array.toArray_toList]; exact (iEAAE _ g rfl n rfl)) (iAEA (⟨fun b o x => ?_, ⟨rfl, rfl⟩⟩) xs p z.to_fz) (le1000 (by rw [Array.length_toList]; lia))
  rw [Heap.get?_update_ne _ _ _ _ (Nat.ne_of_lt (Heap.lt_size x))]
  exact push_keep _ _ b o x
end
end Mine
end L2bx

noncomputable section L2cx
open PySem PySem.W PySem.Calls PyProof.Rows
set_option Elab.async false
set_option linter.unusedVariables false
set_option maxRecDepth 100000
namespace Mine

section
variable {prog : Program} {w : World} {A : Around} {E : Value → Shared → Prop} {s : Shared}
/-- what a fresh iterator is -/
structure IterAt (prog : Program) (w : World) (A : Around) (r : Addr) (Post : Nat → (Nat → Value → Prop) → Prop) (s1 : Shared) (I : Addr) (s2 : Shared) : Prop where
  it : ∃ fp wr n P St, Walks prog w A I fp wr n P St ∧ St 0 s2.heap ∧ Kp s1 s2 ∧ (∀ b ∈ fp, b = r ∨ s1.heap.get? b = none) ∧ (∀ b ∈ wr, s1.heap.get? b = none) ∧ n ≤ 1000 ∧ Post n P
theorem collect_walk {r : Addr} {T : String} {Post : Nat → (Nat → Value → Prop) → Prop} {R : List Value → Shared → Prop} (hr : s.TypeIs (.ref r) T) (nl : (Value.type T == Value.type "list") = false) (nt : (Value.type T == Value.type "tuple") = false)
    (hit : ∀ s1, Kp s s1 → wpAny (model prog w) A.in1 (pyIter (.ref r)) (fun it s2 => ∃ I, it = .ref I ∧ IterAt prog w A.in1 r Post s1 I s2) E s1)
    (hint : ∀ s1 (Q : Bool → Shared → Prop), Kp s s1 → Q false s1 → wpAny (model prog w) A.in1 (Builtin.List.listLengthHint (.ref r)) Q E s1)
    (h : ∀ s' (acc : Array Value) n P, Kp s s' → Post n P → ItemsOf P acc n → R acc.toList s') : wpAny (model prog w) A (collect (.ref r)) R E s := by
  refine xEA (id hr) fun ro hro hrc => ?_
  unfold collect
  refine wpAny_bind (wpAny_runValue (codeAny_builtin entry_proto_collect' ?_))
  rw [Around.under_plainId PySem.F.plain_proto_collect _]
  show wpAny _ A.in1 (newList [] >>= fun l => again (.builtin "list.__iadd__" ⟨[l, .ref r], []⟩)) _ _ s
  refine wpAny_bind (wpAny_newObj_type ?_)
  refine wpAny_pure ⟨plainId_quiet PySem.F.plain_list_iadd _, codeAny_builtin entry_list_iadd' ?_⟩
  rw [Around.under_plainId PySem.F.plain_list_iadd _]
  have hS₁ : (s.heap.push { cls := .type "list", data := .seq ([] : List Value).toArray }).get? s.heap.objs.size = some { cls := .type "list", data := .seq #[] } := Heap.get?_push_size _ rfl
  show wpAny _ A.in1 (Builtin.List.listExtendWith (.ref s.heap.objs.size) (.ref r) (.ref s.heap.objs.size)) _ _ _
  generalize hs1 : ({ s with heap := s.heap.push { cls := .type "list", data := .seq ([] : List Value).toArray } } : Shared) = s1
  have hs1h : s1.heap = s.heap.push { cls := .type "list", data := .seq ([] : List Value).toArray } := by rw [← hs1]
  have k1 : Kp s s1 := by rw [← hs1]; exact Kp.push
  rw [← hs1h] at hS₁
  generalize hS : s.heap.objs.size = S at hS₁
  have hSn : s.heap.get? S = none := by rw [← hS]; exact sizeNone _
  have hSr : S ≠ r := fun e => by rw [e] at hSn; rw [hSn] at hro; cases hro
  unfold Builtin.List.listExtendWith
  refine wpAny_bind (wpAny_typeOf (T := T) (iEA ro (k1.1 _ _ hro) hrc) ?_)
  have h1 : Builtin.List.listSameRef (.ref S) (.ref r) = false := by simp [Builtin.List.listSameRef, hSr]
  simp only [h1, nl, nt, Bool.or_false, Bool.false_eq_true, if_false]
  refine wpAny_bind (wpAny_mono (hit s1 k1) (fun it s2 x => ?_) fun _ _ e => e)
  (refine xEA x fun I ee1 zz2 => ?_; clear x; subst ee1; obtain ⟨fp, wr, n, P, St, W, st, k2, hfp, hwr, hn, hp⟩ := zz2)
  refine wpAny_bind (wpAny_holding (hint s2 _ (k1.trans k2) ?_))
  have hSf : S ∉ fp := fun m => by
    rcases hfp S m with e | e
    · exact hSr e
    · rw [hS₁] at e; cases e
  have hS2 := k2.1 _ _ hS₁
  have WS := W.toS
  have key : ∀ (s3 : Shared) c₁, Sim s2 s3 → St 0 s3.heap → (∀ b o, b ≠ S → s2.heap.get? b = some o → s3.heap.get? b = some o) → s3.heap.get? S = some { cls := .type "list", data := .seq #[] c₁ } →
      codeAny (model prog w) A (.builtin "list.extend.loop" ⟨[.ref S, .ref I, .ref S], []⟩) (fun r s' => ∃ (acc' : Array Value) (c' : Nat), r = .ok (.ret (.ref S)) ∧ Kp s s' ∧ s'.heap.get? S = some { cls := .type "list", dict := none, data := .seq acc' c', slots := #[] } ∧ ItemsOf P acc' n) s3 := by
    intro s3 c₁ m3 st3 k3 hS3
    refine codeAny_extend_loopS WS (le1000 hn) S hSf (.ref S) n 0 s3 #[] c₁ rfl (Nat.zero_le _) st3 hS3 (ItemsOf.nil _) fun s' acc' c' hm hS' hacc => (iEEAAA acc' c' rfl (⟨fun b o e => ?_, (k1.trans k2).2.trans (m3.trans ⟨hm.gens, hm.os⟩)⟩) hS' hacc)
    have hb : b ≠ S := fun q => by rw [q, hSn] at e; cases e
    refine hm.heap b o (fun m => ?_) (k3 b o hb ((k1.trans k2).1 b o e))
    rcases List.mem_cons.mp m with q | m
    · exact hb q
    · have := hwr b m
      rw [k1.1 b o e] at this; cases this
  refine wpAny_ite_split (fun _ => ?_) (fun _ => ?_)
  · refine wpAny_bind (wpAny_rule ?_)
    refine wpAny_bind ?_
    show wpAny _ _ (updateSeq S (·.push .none) >>= fun _ => updateSeq S (·.pop)) _ _ _
    refine wpAny_bind (wpAny_updateSeq hS2 rfl ?_)
    have hS₂ := Heap.get?_update_self (Obj.mapSeq (·.push Value.none)) hS2 rfl
    refine wpAny_updateSeq (hz := by seq_fits) hS₂ rfl ?_
    have hS₃ := Heap.get?_update_self (Obj.mapSeq (·.pop)) hS₂ rfl
    have oth : ∀ b o, b ≠ S → s2.heap.get? b = some o → ((s2.heap.update S (Obj.mapSeq (·.push Value.none))).update S (Obj.mapSeq (·.pop))).get? b = some o := fun b o hb e =>
      (Heap.get?_update_other _ _ (Ne.symm hb)).trans ((Heap.get?_update_other _ _ (Ne.symm hb)).trans e)
    refine wpAny_pure ⟨plainId_quiet PySem.F.plain_extend_loop _, codeAny_mono (key { s2 with heap := (s2.heap.update S (Obj.mapSeq (·.push Value.none))).update S (Obj.mapSeq (·.pop)) } _ ⟨rfl, rfl⟩ (W.frame 0 _ _ st fun b hb o e => oth b o (fun q => hSf (q ▸ hb)) e) oth hS₃) fun r s' x => ?_⟩
    (refine xEEAAA x fun acc' c' ee3 k g hacc => ?_; clear x; subst ee3)
    show wpAny _ A (load S >>= _) _ _ _
    exact wpAny_bind (wpAny_load g (wpAny_pure (h s' acc' n P k hp hacc)))
  · refine wpAny_pure ⟨plainId_quiet PySem.F.plain_extend_loop _, codeAny_mono (key s2 _ .refl st (fun _ _ _ e => e) hS2) fun r s' x => ?_⟩
    (refine xEEAAA x fun acc' c' ee4 k g hacc => ?_; clear x; subst ee4)
    show wpAny _ A (load S >>= _) _ _ _
    exact wpAny_bind (wpAny_load g (wpAny_pure (h s' acc' n P k hp hacc)))
end

section
variable {prog : Program} {w : World} {h₀ : Heap} {d : Nat} {H : MH} {Q : MV → MH → Prop}
theorem ints_of : ∀ {acc : List Value} {ns : List Int}, acc.length = ns.length → (∀ (j : Nat) v, acc[j]? = some v → ∃ k t, ns[j]? = some k ∧ v = .int k t) → IntsAre acc ns
  | [], [], _, _ => .nil
  | [], _ :: _, l, _ => by cases l
  | _ :: _, [], l, _ => by cases l
  | v :: acc, k :: ns, l, hj => by
    (refine xEEA (hj 0 v rfl) fun k' t e ee5 => ?_; subst ee5)
    simp at e; subst e
    exact .cons _ _ (ints_of (by simpa using l) fun j u e => by
      refine xEEA (hj (j + 1) u (by simpa using e)) fun k t e1 e2 => ?_
      exact (iEEA k t (by simpa using e1) e2))
/-- the keys of a dict by ints -/
theorem Coll.dictI {lo : Loc} {l : List (Int × MV)} {P : List PyData → Prop} (e : H.get lo = some (.dictI l)) (hl : l.length ≤ 1000) (p : P ((l.map (·.1)).map .int)) : Coll prog w h₀ d (.loc lo) H P := by
  intro A s W x ao R r
  (refine xEEAAAAA (dict_at (dlI (prog := prog) (w := w)) R e r) fun a kvs ee6 e1 e2 hd pv ns => ?_; subst ee6)
  refine xE hd.dictAt fun ep hd => ?_
  have hk := pv.keys
  have hlen : kvs.length = l.length := by have := congrArg List.length hk; simpa using this
  refine kdu_collect (kdl_dict (knd := intKind prog w) ns) ao.handled hd (le1000 (by lia)) fun h' tk acc kp hacc => (iAEA (.heap kp) _ p ?_)
  refine ints_fz (ints_of ?_ ?_)
  · rw [Array.length_toList, hacc.1, List.length_map, hlen]
  · intro j v hj
    refine xEEA (hacc.2 j v (by rw [← Array.getElem?_toList]; exact hj)) fun k x e1 e2 => ?_
    (refine xE (Value.isInt_shape e2) fun t ee7 => ?_; subst ee7)
    refine (iEEA k t ?_ rfl)
    rw [← hk, List.getElem?_map, e1]; rfl
end
end Mine
end L2cx

noncomputable section L2dx
open PySem PySem.W PySem.Calls PyProof.Rows
set_option Elab.async false
set_option linter.unusedVariables false
set_option maxRecDepth 100000
namespace Mine
open SetTable

/-! the table of a small set -/
theorem pigeon : ∀ (n : Nat) (l : List Nat), (∀ j, j < n → j ∈ l) → n ≤ l.length
  | 0, _, _ => Nat.zero_le _
  | n + 1, l, h => by
    have m := h n (Nat.lt_succ_self n)
    have := pigeon n (l.erase n) fun j hj => (List.mem_erase_of_ne (Nat.ne_of_lt hj)).mpr (h j (Nat.lt_succ_of_lt hj))
    rw [List.length_erase_of_mem m] at this
    have := List.length_pos_of_mem m
    lia
theorem has_nil (j : Nat) : has #[] j = false := by
  unfold has
  have : below #[] j = 0 := rfl
  rw [this]; rfl
theorem slot_live {t : SetTable} {j i : Nat} (h : t.slot j = .live i) : t.place[i]? = some j := by
  unfold SetTable.slot at h
  dsimp only at h
  split at h
  · rename_i q
    injection h with h; subst h
    exact eq_of_beq q
  · split at h <;> cases h
theorem slot_two {t : SetTable} (hd : t.dummies = #[]) (j : Nat) : t.slot j = .empty ∨ ∃ i, t.slot j = .live i := by
  unfold SetTable.slot
  dsimp only
  split
  · exact .inr ⟨_, rfl⟩
  · rw [hd, has_nil]; exact .inl rfl
theorem slot_free {t : SetTable} (hd : t.dummies = #[]) (hf : t.place.size ≤ t.mask) : ∃ j, j ≤ t.mask ∧ t.slot j = .empty := by
  by_cases q : ∃ j, j ≤ t.mask ∧ t.slot j = .empty
  · exact q
  · exfalso
    have := pigeon (t.mask + 1) t.place.toList fun j hj => by
      rcases slot_two hd j with e | ⟨i, e⟩
      · exact absurd (iEA j (by lia) e) q
      · have := slot_live e
        rw [← Array.getElem?_toList] at this
        exact List.mem_of_getElem? this
    rw [Array.length_toList] at this
    lia

/-- an empty place within so many steps -/
noncomputable def Hits (t : SetTable) : Nat → Probe → Prop
  | 0, _ => False
  | n + 1, p => t.slot p.j = .empty ∨ Hits t n (t.advance p)
theorem Hits.mono {t : SetTable} : ∀ {n n' : Nat} {p : Probe}, Hits t n p → n ≤ n' → Hits t n' p
  | 0, _, _, h, _ => h.elim
  | n + 1, 0, _, _, l => by lia
  | n + 1, n' + 1, p, h, l => by
    rcases h with h | h
    · exact .inl h
    · exact .inr (h.mono (by lia))
noncomputable def stAt (t : SetTable) (i q : Nat) (dm : Option Nat) : Probe := { j := i, more := runEnd t.mask i - i, i, perturb := q, dummy := dm }
theorem Hits.blk {t : SetTable} {n : Nat} : ∀ (m : Nat) (p : Probe), p.more = m → Hits t n (stAt t (leap t.mask p.i p.perturb).1 (leap t.mask p.i p.perturb).2 p.dummy) → Hits t (m + 1 + n) p
  | 0, p, e, h => by
    rw [Nat.zero_add, Nat.add_comm]
    refine .inr ?_
    unfold SetTable.advance
    rw [if_neg (by lia)]
    exact h
  | m + 1, p, e, h => by
    rw [show m + 1 + 1 + n = (m + 1 + n) + 1 by lia]
    refine .inr ?_
    unfold SetTable.advance
    rw [if_pos (by lia)]
    exact Hits.blk m _ (by show p.more - 1 = m; lia) h
theorem runEnd_le (m i : Nat) : runEnd m i - i ≤ 9 := by unfold runEnd; split <;> lia
noncomputable def walk (mask : Nat) : Nat → Nat × Nat → Nat × Nat
  | 0, x => x
  | k + 1, x => walk mask k (leap mask x.1 x.2)
theorem Hits.walk {t : SetTable} {dm : Option Nat} : ∀ (K k : Nat) (x : Nat × Nat), k ≤ K → t.slot (walk t.mask k x).1 = .empty → Hits t (10 * K + 1) (stAt t x.1 x.2 dm)
  | 0, k, x, l, h => by
    obtain rfl : k = 0 := by lia
    exact .inl h
  | K + 1, 0, x, l, h => .inl h
  | K + 1, k + 1, x, l, h => by
    have := Hits.walk (dm := dm) K k (leap t.mask x.1 x.2) (by lia) h
    refine (Hits.blk _ (stAt t x.1 x.2 dm) rfl this).mono ?_
    have := runEnd_le t.mask x.1
    show runEnd t.mask x.1 - x.1 + 1 + (10 * K + 1) ≤ _
    lia
theorem walk_add (mask : Nat) : ∀ (a b : Nat) (x : Nat × Nat), Mine.walk mask (a + b) x = Mine.walk mask b (Mine.walk mask a x)
  | 0, b, x => by rw [Nat.zero_add]; rfl
  | a + 1, b, x => by rw [show a + 1 + b = (a + b) + 1 by lia]; exact walk_add mask a b _
theorem walk_snd (mask : Nat) : ∀ (k : Nat) (x : Nat × Nat), (Mine.walk mask k x).2 = x.2 / 32 ^ k
  | 0, x => by show x.2 = _; rw [Nat.pow_zero, Nat.div_one]
  | k + 1, x => by
    show (Mine.walk mask k (leap mask x.1 x.2)).2 = _
    rw [walk_snd mask k]
    show x.2 / 32 / 32 ^ k = _
    rw [Nat.div_div_eq_div_mul, Nat.pow_succ, Nat.mul_comm]
noncomputable def cyc (mask : Nat) : Nat → Nat → Nat
  | 0, i => i
  | k + 1, i => cyc mask k ((i * 5 + 1) % (mask + 1))
theorem walk_cyc (mask : Nat) : ∀ (k i : Nat), Mine.walk mask k (i, 0) = (cyc mask k i, 0)
  | 0, i => rfl
  | k + 1, i => by
    show Mine.walk mask k (leap mask i 0) = (cyc mask k ((i * 5 + 1) % (mask + 1)), 0)
    have : leap mask i 0 = ((i * 5 + 1) % (mask + 1), 0) := by simp [leap]
    rw [this]; exact walk_cyc mask k _
theorem cyc7 : ∀ i < 8, ∀ j < 8, ∃ k ≤ 7, cyc 7 k i = j := by
  have : ∀ i < 8, ∀ j < 8, ((List.range 8).any fun k => cyc 7 k i == j) = true := by decide +kernel
  intro i hi j hj
  refine xEA (List.any_eq_true.mp (this i hi j hj)) fun k m e => ?_
  exact (iEA k (by have := List.mem_range.mp m; lia) (eq_of_beq e))
theorem cyc31 : ∀ i < 32, ∀ j < 32, ∃ k ≤ 31, cyc 31 k i = j := by
  have : ∀ i < 32, ∀ j < 32, ((List.range 32).any fun k => cyc 31 k i == j) = true := by decide +kernel
  intro i hi j hj
  refine xEA (List.any_eq_true.mp (this i hi j hj)) fun k m e => ?_
  exact (iEA k (by have := List.mem_range.mp m; lia) (eq_of_beq e))
theorem walk_fst (mask : Nat) : ∀ (k : Nat) (x : Nat × Nat), x.1 ≤ mask → (Mine.walk mask k x).1 ≤ mask
  | 0, x, h => h
  | k + 1, x, h => walk_fst mask k _ (by show (x.1 * 5 + 1 + x.2 / 32) % (mask + 1) ≤ mask; exact Nat.le_of_lt_succ (Nat.mod_lt _ (Nat.succ_pos mask)))
theorem bits_lt (h : Int) : bits h < 2 ^ 64 := by
  unfold bits
  have h1 : h % (2 ^ 64 : Int) < 2 ^ 64 := Int.emod_lt_of_pos _ (by decide)
  have h0 : 0 ≤ h % (2 ^ 64 : Int) := Int.emod_nonneg _ (by decide)
  lia
theorem reach {mask : Nat} (hm : mask = 7 ∨ mask = 31) (x : Nat × Nat) (h1 : x.1 ≤ mask) (h2 : x.2 < 2 ^ 64) {j : Nat} (hj : j ≤ mask) : ∃ k, k ≤ mask + 13 ∧ (Mine.walk mask k x).1 = j := by
  have e2 : (Mine.walk mask 13 x).2 = 0 := by rw [walk_snd]; exact Nat.div_eq_of_lt (Nat.lt_trans h2 (by decide))
  have e1 := walk_fst mask 13 x h1
  have e3 : Mine.walk mask 13 x = ((Mine.walk mask 13 x).1, 0) := by rw [← e2]
  generalize (Mine.walk mask 13 x).1 = i at e1 e3
  have go : ∃ k ≤ mask, cyc mask k i = j := by
    rcases hm with rfl | rfl
    · exact cyc7 i (by lia) j (by lia)
    · exact cyc31 i (by lia) j (by lia)
  (refine xEA go fun k hk e => ?_; clear go)
  refine (iEA (13 + k) (by lia) ?_)
  rw [walk_add, e3, walk_cyc]
  exact e
theorem start_hits {t : SetTable} (hm : t.mask = 7 ∨ t.mask = 31) (hd : t.dummies = #[]) (hf : t.place.size ≤ t.mask) (h : Int) : Hits t (10 * turns t.mask) (t.probeStart h) := by
  refine xEA (slot_free hd hf) fun j hj e => ?_
  refine xEA (reach hm (bits h % (t.mask + 1), bits h) (Nat.le_of_lt_succ (Nat.mod_lt _ (Nat.succ_pos t.mask))) (bits_lt h) hj) fun k hk ek => ?_
  refine (Hits.walk (dm := none) (t.mask + 13) k (bits h % (t.mask + 1), bits h) hk (by rw [ek]; exact e)).mono ?_
  unfold turns; lia
theorem adv_dummy {t : SetTable} {p : Probe} : (t.advance p).dummy = p.dummy := by
  unfold SetTable.advance
  split <;> rfl
/-- a search: an empty place, or a candidate, with fewer steps left -/
theorem probe_go {t : SetTable} (hd : t.dummies = #[]) (hashAt : Nat → Int) (h : Int) : ∀ (fuel n : Nat) (p : Probe), n ≤ fuel → Hits t n p →
    (∃ j, probe.go t hashAt h fuel p = some (.empty j p.dummy) ∧ t.slot j = .empty) ∨
    ∃ j i next n', probe.go t hashAt h fuel p = some (.candidate j i next) ∧ t.slot j = .live i ∧ hashAt i = h ∧ Hits t n' next ∧ n' < n ∧ next.dummy = p.dummy
  | 0, n, p, l, h => by
    obtain rfl : n = 0 := by lia
    exact h.elim
  | fuel + 1, 0, p, l, h => h.elim
  | fuel + 1, n + 1, p, l, hh => by
    rcases slot_two hd p.j with e | ⟨i, e⟩
    · refine .inl (iEA p.j ?_ e)
      unfold probe.go
      rw [e]
    · have h' : Hits t n (t.advance p) := by
        rcases hh with q | q
        · rw [e] at q; cases q
        · exact q
      by_cases q : (hashAt i == h) = true
      · refine .inr (iEEEEAAAAA p.j i (t.advance p) n ?_ e (eq_of_beq q) h' (Nat.lt_succ_self _) adv_dummy)
        unfold probe.go
        rw [e]
        dsimp only
        rw [if_pos q]
      · have r := probe_go hd hashAt h fuel n (t.advance p) (by lia) h'
        have e1 : probe.go t hashAt h (fuel + 1) p = probe.go t hashAt h fuel (t.advance p) := by
          conv => lhs; unfold probe.go
          rw [e]
          dsimp only
          rw [if_neg q]
        rw [e1]
        rw [adv_dummy] at r
        rcases r with r | ⟨j, i', nx, n', r1, r2, r3, r4, r5, r6⟩
        · exact .inl r
        · exact .inr (iEEEEAAAAA j i' nx n' r1 r2 r3 r4 (by lia) r6)
end Mine
end L2dx

noncomputable section L2ex
open PySem PySem.W PySem.Calls PyProof.Rows
set_option Elab.async false
set_option linter.unusedVariables false
set_option maxRecDepth 100000
namespace Mine
open SetTable

/-! the order of places -/
noncomputable def Rise (xs : Array Nat) : Prop := ∀ (i k a b : Nat), i < k → xs[i]? = some a → xs[k]? = some b → a < b
noncomputable def BelowAt (xs : Array Nat) (j p : Nat) : Prop := p ≤ xs.size ∧ (∀ (i a : Nat), i < p → xs[i]? = some a → a < j) ∧ ∀ (i a : Nat), p ≤ i → xs[i]? = some a → j ≤ a
theorem below_go {xs : Array Nat} (hr : Rise xs) (j : Nat) : ∀ (fuel lo hi : Nat), hi - lo ≤ fuel → lo ≤ hi → hi ≤ xs.size → (∀ (i a : Nat), i < lo → xs[i]? = some a → a < j) → (∀ (i a : Nat), hi ≤ i → xs[i]? = some a → j ≤ a) → BelowAt xs j (below.go xs j fuel lo hi)
  | 0, lo, hi, f, l, s, a, b => by
    obtain rfl : lo = hi := by lia
    exact (iAA s a b)
  | fuel + 1, lo, hi, f, l, s, a, b => by
    unfold below.go
    by_cases q : lo < hi
    · rw [if_pos q]
      dsimp only
      have hm : (lo + hi) / 2 < xs.size := by lia
      have e : xs.getD ((lo + hi) / 2) j = xs[(lo + hi) / 2] := by simp [Array.getD, hm]
      have e' : xs[(lo + hi) / 2]? = some xs[(lo + hi) / 2] := by simp [hm]
      by_cases q2 : xs.getD ((lo + hi) / 2) j < j
      · rw [if_pos q2]
        rw [e] at q2
        refine below_go hr j fuel _ _ (by lia) (by lia) s (fun i x hhi e2 => ?_) b
        by_cases q3 : i = (lo + hi) / 2
        · subst q3; rw [e'] at e2; cases e2; exact q2
        · exact Nat.lt_trans (hr i _ x _ (by lia) e2 e') q2
      · rw [if_neg q2]
        rw [e] at q2
        refine below_go hr j fuel _ _ (by lia) (by lia) (by lia) a (fun i x hhi e2 => ?_)
        by_cases q3 : i = (lo + hi) / 2
        · subst q3; rw [e'] at e2; cases e2; exact Nat.not_lt.mp q2
        · exact Nat.le_trans (Nat.not_lt.mp q2) (Nat.le_of_lt (hr _ i _ x (by lia) e' e2))
    · rw [if_neg q]
      obtain rfl : lo = hi := by lia
      exact (iAA s a b)
theorem below_spec {xs : Array Nat} (hr : Rise xs) (j : Nat) : BelowAt xs j (below xs j) :=
  below_go hr j _ 0 xs.size (by lia) (Nat.zero_le _) (Nat.le_refl _) (fun i a h => by lia) fun i a h e => by
    rw [Array.getElem?_eq_none h] at e; cases e
theorem insertAt_list {α : Type} (xs : Array α) (p : Nat) (x : α) : (insertAt xs p x).toList = xs.toList.take p ++ x :: xs.toList.drop p := by
  unfold insertAt
  simp [Array.toList_extract]
  rw [List.take_of_length_le (by simp)]
theorem insertAt_perm {α : Type} (xs : Array α) (p : Nat) (x : α) : (insertAt xs p x).toList.Perm (x :: xs.toList) := by
  rw [insertAt_list]
  refine List.perm_middle.trans (.cons _ (.of_eq (List.take_append_drop p _)))
theorem insertAt_size {α : Type} (xs : Array α) (p : Nat) (x : α) : (insertAt xs p x).size = xs.size + 1 := by
  have := (insertAt_perm xs p x).length_eq
  simpa using this
theorem insertAt_get {α : Type} (xs : Array α) (p : Nat) (x : α) (hp : p ≤ xs.size) (i : Nat) : (insertAt xs p x)[i]? = if i < p then xs[i]? else if i = p then some x else xs[i - 1]? := by
  rw [← Array.getElem?_toList, insertAt_list]
  have hl : (xs.toList.take p).length = p := by simp [hp]
  by_cases h1 : i < p
  · rw [if_pos h1, List.getElem?_append_left (by lia), List.getElem?_take_of_lt h1, Array.getElem?_toList]
  · rw [if_neg h1, List.getElem?_append_right (by lia), hl]
    by_cases h2 : i = p
    · rw [if_pos h2]; subst h2; simp
    · rw [if_neg h2]
      obtain ⟨m, hm⟩ : ∃ m, i - p = m + 1 := ⟨i - p - 1, by lia⟩
      rw [hm, List.getElem?_cons_succ, List.getElem?_drop, Array.getElem?_toList]
      congr 1; lia
theorem insert_rise {xs : Array Nat} (hr : Rise xs) {j : Nat} (hj : ¬ (xs[below xs j]? == some j) = true) : Rise (insertAt xs (below xs j) j) := by
  refine xAA (below_spec hr j) fun hp h1 h2 => ?_
  generalize below xs j = p at hj hp h1 h2
  have h3 : ∀ (i a : Nat), p ≤ i → xs[i]? = some a → j < a := by
    intro i a hi e
    refine Nat.lt_of_le_of_ne (h2 i a hi e) fun q => ?_
    subst q
    by_cases q : i = p
    · subst q; rw [e] at hj; exact hj (by simp)
    · have hlt : p < xs.size := by
        have : i < xs.size := by
          rcases Nat.lt_or_ge i xs.size with h | h
          · exact h
          · rw [Array.getElem?_eq_none h] at e; cases e
        lia
      have e' : xs[p]? = some xs[p] := by simp [hlt]
      have := hr p i _ _ (by lia) e' e
      have := h2 p _ (Nat.le_refl _) e'
      lia
  intro i k a b hik ea eb
  rw [insertAt_get _ _ _ hp] at ea eb
  split at ea
  · split at eb
    · exact hr i k a b hik ea eb
    · split at eb
      · cases eb; exact h1 i a (by assumption) ea
      · exact Nat.lt_trans (h1 i a (by assumption) ea) (h3 _ b (by lia) eb)
  · split at ea
    · cases ea
      split at eb
      · lia
      · split at eb
        · lia
        · exact h3 _ b (by lia) eb
    · split at eb
      · lia
      · split at eb
        · lia
        · exact hr _ _ a b (by lia) ea eb

/-! laying anew -/
noncomputable def occ (o : Array (Option Nat)) : List Nat := o.toList.filterMap id
theorem set_filter : ∀ (l : List (Option Nat)) (j k : Nat), l[j]? = some none → ((l.set j (some k)).filterMap id).Perm (k :: l.filterMap id)
  | [], j, k, h => by simp at h
  | x :: l, 0, k, h => by simp at h; subst h; simp
  | x :: l, j + 1, k, h => by
    have := set_filter l j k (by simpa using h)
    rw [List.set_cons_succ]
    cases x with
    | none => simpa using this
    | some y =>
      show (y :: (l.set j (some k)).filterMap id).Perm (k :: y :: l.filterMap id)
      exact (this.cons y).trans (.swap _ _ _)
theorem free_go {owner : Array (Option Nat)} {mask : Nat} : ∀ (fuel k i q : Nat), k < fuel → owner[(Mine.walk mask k (i, q)).1]? = some none → ∃ j, layClean.free mask owner fuel i q = some j ∧ owner[j]? = some none
  | 0, k, i, q, l, _ => by lia
  | fuel + 1, k, i, q, l, h => by
    unfold layClean.free
    cases e : (List.range (runEnd mask i + 1 - i)).find? fun k => (owner.getD (i + k) (some 0)).isNone with
    | some m =>
      refine (iEA (i + m) rfl ?_)
      have := List.find?_some e
      by_cases hb : i + m < owner.size
      · have e2 : owner.getD (i + m) (some 0) = owner[i + m] := by simp [Array.getD, hb]
        rw [e2] at this
        simp only [Option.isNone_iff_eq_none] at this
        simp [hb, this]
      · have e2 : owner.getD (i + m) (some 0) = some 0 := by simp [Array.getD, hb]
        rw [e2] at this; cases this
    | none =>
      dsimp only
      cases k with
      | zero =>
        exfalso
        have hn := List.find?_eq_none.mp e 0 (List.mem_range.mpr (by unfold runEnd; split <;> lia))
        apply hn
        have h : owner[i]? = some none := h
        rw [Nat.add_zero]
        rcases Nat.lt_or_ge i owner.size with hb | hb
        · have e2 : owner.getD i (some 0) = owner[i] := by simp [Array.getD, hb]
          rw [e2]
          simp [hb] at h
          simp [h]
        · rw [Array.getElem?_eq_none hb] at h; cases h
      | succ k =>
        have h : owner[(Mine.walk mask k (leap mask i q)).1]? = some none := h
        generalize hl : leap mask i q = x at h
        obtain ⟨i', q'⟩ := x
        exact free_go fuel k i' q' (by lia) h
theorem none_there {owner : Array (Option Nat)} (h : (occ owner).length < owner.size) : ∃ j < owner.size, owner[j]? = some none := by
  by_cases q : ∃ j < owner.size, owner[j]? = some none
  · exact q
  · exfalso
    have : ∀ (l : List (Option Nat)), (∀ j < l.length, l[j]? ≠ some none) → (l.filterMap id).length = l.length := by
      intro l
      induction l with
      | nil => intro _; rfl
      | cons x l ih =>
        intro h
        cases x with
        | none => exact absurd rfl (h 0 (by simp))
        | some y =>
          show (y :: l.filterMap id).length = _
          rw [List.length_cons, ih fun j hj e => h (j + 1) (by simpa using hj) (by simpa using e), List.length_cons]
    have := this owner.toList fun j hj e => q (iEA j (by simpa using hj) (by simpa using e))
    unfold occ at h
    rw [this, Array.length_toList] at h
    lia
theorem free_ok {owner : Array (Option Nat)} {mask : Nat} (hm : mask = 7 ∨ mask = 31) (hs : owner.size = mask + 1) (hl : (occ owner).length ≤ mask) (h : Int) :
    ∃ j, layClean.free mask owner (turns mask) (bits h % (mask + 1)) (bits h) = some j ∧ owner[j]? = some none := by
  refine xEA (none_there (owner := owner) (by lia)) fun j hj e => ?_
  refine xEA (reach hm (bits h % (mask + 1), bits h) (Nat.le_of_lt_succ (Nat.mod_lt _ (Nat.succ_pos mask))) (bits_lt h) (j := j) (by lia)) fun k hk ek => ?_
  exact free_go _ k _ _ (by unfold turns; lia) (by rw [ek]; exact e)
end Mine
end L2ex

noncomputable section L2fx
open PySem PySem.W PySem.Calls PyProof.Rows
set_option Elab.async false
set_option linter.unusedVariables false
set_option maxRecDepth 100000
namespace Mine
open SetTable

noncomputable def layStep (mask : Nat) (acc : Option (Array (Option Nat) × Nat)) (h : Int) : Option (Array (Option Nat) × Nat) :=
  acc.bind fun x => (layClean.free mask x.1 (turns mask) (bits h % (mask + 1)) (bits h)).bind fun j => some (x.1.setIfInBounds j (some x.2), x.2 + 1)
theorem lay_eq (mask : Nat) (hashes : Array Int) : layClean mask hashes = (hashes.toList.foldl (layStep mask) (some (Array.replicate (mask + 1) none, 0))).map (·.1) := by
  unfold layClean
  rw [← Array.foldl_toList]
  rfl
theorem lay_fold {mask : Nat} (hm : mask = 7 ∨ mask = 31) : ∀ (l : List Int) (o : Array (Option Nat)) (k : Nat), o.size = mask + 1 → (occ o).Perm (List.range k) → k + l.length ≤ mask + 1 →
    ∃ o', l.foldl (layStep mask) (some (o, k)) = some (o', k + l.length) ∧ o'.size = mask + 1 ∧ (occ o').Perm (List.range (k + l.length))
  | [], o, k, hs, hp, hl => (iEAA o rfl hs hp)
  | h :: l, o, k, hs, hp, hl => by
    have hlen : (occ o).length = k := by rw [hp.length_eq, List.length_range]
    have hl' : k + (l.length + 1) ≤ mask + 1 := by simpa using hl
    refine xEA (free_ok hm hs (by lia) h) fun j e ej => ?_
    have e1 : layStep mask (some (o, k)) h = some (o.setIfInBounds j (some k), k + 1) := by
      show (layClean.free mask o (turns mask) (bits h % (mask + 1)) (bits h)).bind _ = _
      rw [e]; rfl
    rw [List.foldl_cons, e1]
    have hp' : (occ (o.setIfInBounds j (some k))).Perm (List.range (k + 1)) := by
      unfold occ
      rw [Array.toList_setIfInBounds]
      refine (set_filter _ j k (by rw [Array.getElem?_toList]; exact ej)).trans ?_
      refine (hp.cons k).trans ?_
      rw [List.range_succ]
      exact (List.perm_append_singleton k (List.range k)).symm
    refine xEAA (lay_fold hm l _ (k + 1) (by rw [Array.size_setIfInBounds]; exact hs) hp' (by lia)) fun o' r1 r2 r3 => ?_
    rw [List.length_cons, show k + (l.length + 1) = k + 1 + l.length by lia]
    exact (iEAA o' r1 r2 r3)
theorem lay_ok {mask : Nat} (hm : mask = 7 ∨ mask = 31) (hashes : Array Int) (hl : hashes.size ≤ mask + 1) : ∃ o, layClean mask hashes = some o ∧ o.size = mask + 1 ∧ (occ o).Perm (List.range hashes.size) := by
  obtain ⟨o, e, a, b⟩ := lay_fold hm hashes.toList (Array.replicate (mask + 1) none) 0 (by simp) (by
    unfold occ
    rw [Array.toList_replicate]
    have : ∀ n, (List.replicate n (none : Option Nat)).filterMap id = [] := by
      intro n; induction n with
      | zero => rfl
      | succ n ih => rw [List.replicate_succ]; exact ih
    rw [this]; exact .refl _) (by rw [Array.length_toList]; lia)
  rw [Array.length_toList, Nat.zero_add] at e b
  exact (iEAA o (by rw [lay_eq, e]; rfl) a b)
theorem live_snd (o : Array (Option Nat)) (n : Nat) (h : o.size = n) : ((List.range n).filterMap fun j => (o.getD j none).map (j, ·)).map (·.2) = occ o := by
  rw [List.map_filterMap]
  have e1 : (List.range n).filterMap (fun x => Option.map (fun x => x.2) ((o.getD x none).map (x, ·))) = ((List.range n).map fun j => o.getD j none).filterMap id := by
    rw [List.filterMap_map]
    congr 1
    funext j
    show _ = o.getD j none
    cases o.getD j none <;> rfl
  rw [e1]
  unfold occ
  congr 1
  apply List.ext_getElem?
  intro i
  by_cases q : i < n
  · have hb : i < o.size := by lia
    simp [List.getElem?_range, q, Array.getD, hb]
  · have hb : ¬ i < o.size := by lia
    simp [q]
    lia
theorem live_rise (o : Array (Option Nat)) (n : Nat) : Rise (((List.range n).filterMap fun j => (o.getD j none).map (j, ·)).map (·.1)).toArray := by
  have hp : (((List.range n).filterMap fun j => (o.getD j none).map (j, ·)).map (·.1)).Pairwise (· < ·) := by
    rw [List.pairwise_map, List.pairwise_filterMap]
    refine List.Pairwise.imp ?_ (List.pairwise_lt_range (n := n))
    intro a b hab x hx y hy
    cases e1 : o.getD a none with
    | none => rw [e1] at hx; cases hx
    | some u =>
      cases e2 : o.getD b none with
      | none => rw [e2] at hy; cases hy
      | some v =>
        rw [e1] at hx; rw [e2] at hy
        simp at hx hy
        subst hx hy
        exact hab
  intro i k a b hik ea eb
  simp only [List.getElem?_toArray] at ea eb
  rw [List.getElem?_eq_some_iff] at ea eb
  (refine xE ea fun hi ee1 => ?_; clear ea; subst ee1)
  (refine xE eb fun hk ee2 => ?_; clear eb; subst ee2)
  exact List.pairwise_iff_getElem.mp hp i k hi hk hik
theorem relaid_ok (t : SetTable) (hashes : Array Int) (h5 : hashes.size = 5) :
    ∃ t' order, t.relaid hashes 20 = some (t', order) ∧ order.toList.Perm (List.range 5) ∧ t'.place.size = 5 ∧ Rise t'.place ∧ t'.mask = 31 ∧ t'.dummies = #[] ∧ t'.led = t.led ∧ t'.plain = t.plain := by
  refine xEAA (lay_ok (mask := 31) (.inr rfl) hashes (by lia)) fun o e a b => ?_
  unfold SetTable.relaid
  have hz : sizeAbove 20 - 1 = 31 := by decide +kernel
  rw [hz]
  unfold SetTable.laid
  rw [e]
  refine (iEEAAAAAAA _ _ rfl ?_ ?_ ?_ rfl rfl rfl rfl)
  · have := live_snd o 32 (by lia)
    dsimp only
    show ((List.filterMap (fun j => Option.map (fun x => (j, x)) (o.getD j none)) (List.range 32)).map (·.2)).Perm _
    rw [this, ← h5]; exact b
  · have := live_snd o 32 (by lia)
    have l1 := congrArg List.length this
    rw [List.length_map, b.length_eq, List.length_range, h5] at l1
    show (((List.range 32).filterMap fun j => (o.getD j none).map (j, ·)).map (·.1)).toArray.size = 5
    simpa using l1
  · exact live_rise o 32
theorem order_perm {α : Type} (es : Array α) {order : Array Nat} (h : order.toList.Perm (List.range es.size)) : (order.filterMap (es[·]?)).toList.Perm es.toList := by
  rw [Array.toList_filterMap]
  refine (h.filterMap _).trans (.of_eq ?_)
  have : ∀ (l : List α), (List.range l.length).filterMap (fun i => l[i]?) = l := by
    intro l
    induction l with
    | nil => rfl
    | cons x l ih =>
      rw [List.length_cons, List.range_succ_eq_map, List.filterMap_cons]
      simp only [List.getElem?_cons_zero]
      rw [List.filterMap_map]
      congr 1
  have e := this es.toList
  rw [Array.length_toList] at e
  simpa using e

/-- a small set's table -/
structure Tab (led : Bool) (n : Nat) (t : SetTable) : Prop where
  size : t.place.size = n
  dum : t.dummies = #[]
  led : t.led = led
  mask : (t.mask = 7 ∧ n ≤ 4) ∨ (t.mask = 31 ∧ n ≤ 18)
  rise : Rise t.place
theorem Tab.fit {led : Bool} {n : Nat} {t : SetTable} (T : Tab led n t) : t.fill ≤ t.mask := by
  unfold SetTable.fill
  rw [T.dum, T.size]
  rcases T.mask with ⟨a, b⟩ | ⟨a, b⟩ <;> (rw [a]; simp; lia)
theorem Tab.fits {led : Bool} {n : Nat} {t : SetTable} (T : Tab led n t) : t.fits n = true := by
  simp [SetTable.fits, T.size, T.fit]
theorem Tab.m {led : Bool} {n : Nat} {t : SetTable} (T : Tab led n t) : t.mask = 7 ∨ t.mask = 31 := T.mask.imp (·.1) (·.1)
theorem Tab.way {led : Bool} {n : Nat} {t : SetTable} (T : Tab led n t) : t.gaveWay = false := by
  unfold SetTable.gaveWay
  rcases T.m with e | e <;> rw [e] <;> rfl
theorem Tab.hits {led : Bool} {n : Nat} {t : SetTable} (T : Tab led n t) (h : Int) : Hits t (10 * turns t.mask) (t.probeStart h) :=
  start_hits T.m T.dum (by rw [T.size]; rcases T.mask with ⟨a, b⟩ | ⟨a, b⟩ <;> (rw [a]; lia)) h
/-- one more -/
structure Put (led : Bool) (n : Nat) (t t' : SetTable) : Prop where
  size : t'.place.size = n + 1
  dum : t'.dummies = #[]
  led : t'.led = led
  mask : t'.mask = t.mask
  rise : Rise t'.place
theorem put_ok {led : Bool} {n : Nat} {t : SetTable} {j : Nat} (T : Tab led n t) (e : t.slot j = .empty) : Put led n t (t.put j).1 ∧ (t.put j).2 ≤ n := by
  have hh : has t.dummies j = false := by rw [T.dum]; exact has_nil j
  have hb := (below_spec T.rise j).1
  have hj : ¬ (t.place[below t.place j]? == some j) = true := by
    unfold SetTable.slot at e
    dsimp only at e
    intro q
    rw [if_pos q] at e; cases e
  unfold SetTable.put
  rw [hh]
  refine ⟨⟨?_, T.dum, T.led, rfl, insert_rise T.rise hj⟩, by rw [T.size] at hb; exact hb⟩
  show (insertAt t.place _ _).size = _
  rw [insertAt_size, T.size]
end Mine
end L2fx

noncomputable section L2gx
open PySem PySem.W PySem.Calls PyProof.Rows
set_option Elab.async false
set_option linter.unusedVariables false
set_option maxRecDepth 100000
namespace Mine
open SetTable

noncomputable abbrev setObj (es : Array (Int × Value)) (ep : Nat) (t : SetTable) : Obj := { cls := .type "set", data := .set es ep t }
theorem oac_value (n : Nat) {v : Value} (h : carriedByValue v = true) : ofAClassStatement n v = pure false := by
  cases v with
  | ref a => simp [carriedByValue] at h
  | _ => first | rfl | (cases n <;> rfl)
section
variable {prog : Program} {w : World} {K : Type} [DecidableEq K] {knd : PySem.KeyKind prog w K} {A : Around} {E : Value → Shared → Prop} {s : Shared}
theorem oac_tuple {ks : List K} {a : Addr} {Q : Bool → Shared → Prop} (hk : IsTupleKey knd s.heap ks a) (h : Q false s) : wpAny (model prog w) A (ofAClassStatement 8 (.ref a)) Q E s := by
  have hT := hk.typeIs
  (refine xEEEAAA hk fun o items n ho _ hd hi => ?_; clear hk)
  unfold ofAClassStatement
  refine wpAny_bind (wpAny_typeOf hT ?_)
  dsimp only
  rw [if_pos (by decide)]
  refine wpAny_bind (wpAny_pure ?_)
  simp only [Bool.not_true, Bool.false_eq_true, if_false]
  refine wpAny_bind (wpAny_seqItems ho hd ?_)
  dsimp only
  refine wpAny_bind ?_
  show wpAny _ _ (forIn items _ _) _ _ s
  rw [← Array.forIn_toList]
  refine wpAny_forIn_list _ (fun rest r s' => r.1 = none ∧ s' = s ∧ ∀ v ∈ rest, carriedByValue v = true) _ ?_ ?_ _ _ (iAA rfl rfl hi.byValue)
  · (intro v rest r s' yy5; (refine xAA yy5 fun hr ee1 hall => ?_; clear yy5; subst ee1))
    rw [oac_value _ (hall v List.mem_cons_self)]
    refine wpAny_bind (wpAny_pure ?_)
    simp only [Bool.false_eq_true, if_false]
    exact wpAny_pure (iAA rfl rfl (fun u hu' => hall u (List.mem_cons_of_mem _ hu')))
  · (intro yy6 s' yy8; obtain ⟨r1, r2⟩ := yy6; (refine xAA yy8 fun hr ee2 _ => ?_; clear yy8; subst ee2))
    simp only at hr
    subst hr
    exact wpAny_pure h
noncomputable def TupVal (knd : PySem.KeyKind prog w K) (h : Heap) (v : Value) : Prop := ∃ ks a, v = .ref a ∧ IsTupleKey knd h ks a
theorem unseen {x : Value} {stored : List Value} {Q : Bool → Shared → Prop} (hx : TupVal knd s.heap x) (hs : ∀ y ∈ stored, TupVal knd s.heap y) (h : Q false s) : wpAny (model prog w) A (searchCouldBeSeen x stored) Q E s := by
  (refine xEEA hx fun ks a ee3 hk => ?_; clear hx; subst ee3)
  unfold searchCouldBeSeen
  refine wpAny_bind ?_
  refine wpAny_forIn_list _ (fun rest r s' => r.1 = none ∧ s' = s ∧ ∀ v ∈ rest, TupVal knd s.heap v) _ ?_ ?_ _ _ (iAA rfl rfl hs)
  · (intro v rest r s' yy13; (refine xAA yy13 fun hr ee4 hall => ?_; clear yy13; subst ee4))
    (refine xEEA (hall v List.mem_cons_self) fun ks' b ee5 hb => ?_; subst ee5)
    have z : ∀ u ∈ rest, TupVal knd s'.heap u := fun u hu' => hall u (List.mem_cons_of_mem _ hu')
    dsimp only
    refine wpAny_ite_split (fun _ => wpAny_pure (iAA rfl rfl z)) (fun _ => ?_)
    refine wpAny_bind (wpAny_eqIsQuiet_tuple hk ?_)
    simp only [Bool.not_true, Bool.false_eq_true, if_false]
    refine wpAny_bind (wpAny_eqIsQuiet_tuple hb ?_)
    simp only [Bool.not_true, Bool.false_eq_true, if_false]
    refine wpAny_bind (oac_tuple hk ?_)
    simp only [Bool.false_eq_true, if_false]
    refine wpAny_bind (oac_tuple hb ?_)
    simp only [Bool.false_eq_true, if_false]
    exact wpAny_pure (iAA rfl rfl z)
  · (intro yy14 s' yy16; obtain ⟨r1, r2⟩ := yy14; (refine xAA yy16 fun hr ee6 _ => ?_; clear yy16; subst ee6))
    simp only at hr
    subst hr
    exact wpAny_pure h
theorem same_ref {a : Addr} {Q : Bool → Shared → Prop} (h : Q true s) : wpAny (model prog w) A (isSame (.ref a) (.ref a)) Q E s := by
  unfold isSame
  dsimp only
  rw [if_pos (by simp)]
  exact wpAny_pure h
theorem search_go {S b : Addr} {ks : List K} {es : Array (Int × Value)} {ep : Nat} {t : SetTable} {led : Bool} {hsh : Int} {Q : SetFound → Shared → Prop} (ho : s.heap.get? S = some (setObj es ep t)) (T : Tab led es.size t)
    (hb : IsTupleKey knd s.heap ks b) (hes : ∀ e ∈ es.toList, TupVal knd s.heap e.2) (hu : A.units < cLine)
    (h1 : ∀ j, t.slot j = .empty → Q (.free j false) s) (h2 : ∀ e ∈ es.toList, (∃ c, e.2 = .ref c ∧ IsTupleKey knd s.heap ks c) → Q (.there none) s) :
    ∀ (n fuel : Nat) (stand : Option Probe), Hits t n (stand.getD (t.probeStart hsh)) → (stand.getD (t.probeStart hsh)).dummy = none → n < fuel → n ≤ 10 * turns t.mask →
      wpAny (model prog w) A (setSearchFrom S (.ref b) hsh true fuel stand) Q E s := by
  intro n
  induction n using Nat.strongRecOn with
  | _ n ih =>
    intro fuel stand hh hd hf hn
    cases fuel with
    | zero => lia
    | succ fuel =>
      unfold setSearchFrom
      refine wpAny_bind (wpAny_setState_of ho rfl T.fits ?_)
      dsimp only
      rw [T.way]
      simp only [Bool.false_eq_true, if_false]
      rcases probe_go T.dum _ hsh (10 * turns t.mask) n _ hn hh with ⟨j, e, ej⟩ | ⟨j, i, nx, n', e, ej, _, hh', hn', hdd⟩
      · have e' : t.probe _ hsh (stand.getD (t.probeStart hsh)) = some (.empty j _) := e
        rw [e', hd]
        exact wpAny_pure (h1 j ej)
      · have e' : t.probe _ hsh (stand.getD (t.probeStart hsh)) = some (.candidate j i nx) := e
        rw [e']
        dsimp only
        have hi : i < es.size := by
          have := slot_live ej
          have hlt : i < t.place.size := by
            rcases Nat.lt_or_ge i t.place.size with q | q
            · exact q
            · rw [Array.getElem?_eq_none q] at this; cases this
          rw [← T.size]; exact hlt
        have hmem : es[i] ∈ es.toList := by simp
        refine xEEA (hes _ hmem) fun ks' c ec hc => ?_
        have rest : wpAny (model prog w) A (do
            let some (_, y) := es[i]? | unsupported "internal:set-entry"
            let equal ← holding [y] (eqBool y (.ref b))
            let (es', _, t') ← setState S
            if true && equal then return .there none
            let some same := t'.sameMemory t.moves t.mask | unsupported "set.changed-during-lookup:is-the-new-block-at-the-old-address"
            let still ← match (if same then t'.slot j else .empty) with
              | .live i' => match es'[i']? with
                | some (_, y') => do pure (if ← isSame y' y then some i' else none)
                | none => pure none
              | _ => pure none
            match still with
            | none => rule "set.search.anew"; setSearchFrom S (.ref b) hsh true fuel none
            | some i' => if equal then return .there (some i') else setSearchFrom S (.ref b) hsh true fuel (some nx)) Q E s := by
          have e2 : es[i]? = some (es[i].1, .ref c) := by rw [← ec]; simp [hi]
          rw [e2]
          dsimp only
          refine wpAny_bind (wpAny_holding (wpAny_eqBool_tuple hu hc hb ?_))
          refine wpAny_bind (wpAny_setState_of ho rfl T.fits ?_)
          dsimp only
          by_cases q : ks' = ks
          · rw [if_pos (by simp [q])]
            exact wpAny_pure (h2 _ hmem (iEA c ec (q ▸ hc)))
          · rw [if_neg (by simp [q])]
            have hsame : t.sameMemory t.moves t.mask = some true := by unfold SetTable.sameMemory; simp
            rw [hsame]
            dsimp only
            simp only [if_true]
            rw [ej]
            dsimp only
            rw [e2]
            dsimp only
            refine wpAny_bind (same_ref ?_)
            simp only [if_true]
            refine wpAny_bind (wpAny_pure ?_)
            dsimp only
            rw [if_neg (by simp [q])]
            exact ih n' hn' fuel (some nx) hh' (hdd.trans hd) (by lia) (by lia)
        cases hl : t.led with
        | true =>
          simp only [Bool.not_true, Bool.false_eq_true, if_false]
          exact rest
        | false =>
          simp only [Bool.not_false, if_true]
          refine wpAny_bind (unseen (knd := knd) (iEEA ks b rfl hb) (fun y hy => ?_) ?_)
          · (refine xEA (List.mem_map.mp hy) fun e3 m3 ee7 => ?_; subst ee7)
            exact hes e3 (by rw [Array.toList_filter] at m3; exact (List.mem_filter.mp m3).1)
          · simp only [Bool.false_eq_true, if_false]
            exact rest
end
end Mine
end L2gx

noncomputable section L2hx
open PySem PySem.W PySem.Calls PyProof.Rows
set_option Elab.async false
set_option linter.unusedVariables false
set_option maxRecDepth 100000
namespace Mine
open SetTable

theorem Put.off {led : Bool} {n : Nat} {t t' : SetTable} (P : Put led n t t') (b : Bool) : Put led n t { t' with plain := b } := ⟨P.size, P.dum, P.led, P.mask, P.rise⟩
theorem put_full {led : Bool} {n : Nat} {t t' : SetTable} (T : Tab led n t) (P : Put led n t t') (hn : n ≤ 17) : (t'.tooFull = true ∧ n = 4) ∨ (t'.tooFull = false ∧ Tab led (n + 1) t') := by
  have hf : t'.fill = n + 1 := by unfold SetTable.fill; rw [P.dum, P.size]; rfl
  rcases T.mask with ⟨a, b⟩ | ⟨a, b⟩
  · by_cases q : n = 4
    · refine .inl ⟨?_, q⟩
      unfold SetTable.tooFull
      rw [hf, P.mask, a, q]; rfl
    · refine .inr ⟨?_, P.size, P.dum, P.led, .inl ⟨P.mask.trans a, by lia⟩, P.rise⟩
      unfold SetTable.tooFull
      rw [hf, P.mask, a]
      exact decide_eq_false (by lia)
  · refine .inr ⟨?_, P.size, P.dum, P.led, .inr ⟨P.mask.trans a, by lia⟩, P.rise⟩
    unfold SetTable.tooFull
    rw [hf, P.mask, a]
    exact decide_eq_false (by lia)
theorem put_fits {led : Bool} {n : Nat} {t t' : SetTable} (T : Tab led n t) (P : Put led n t t') (hn : n ≤ 17) : t'.fits (n + 1) = true := by
  have hf : t'.fill = n + 1 := by unfold SetTable.fill; rw [P.dum, P.size]; rfl
  simp only [SetTable.fits, P.size, hf, P.mask, beq_self_eq_true, Bool.true_and, decide_eq_true_eq]
  rcases T.mask with ⟨a, b⟩ | ⟨a, b⟩ <;> (rw [a]; lia)
theorem new_tab {t' : SetTable} {led : Bool} (h1 : t'.place.size = 5) (h2 : Rise t'.place) (h3 : t'.mask = 31) (h4 : t'.dummies = #[]) (h5 : t'.led = led) : Tab led 5 t' := ⟨h1, h4, h5, .inr ⟨h3, by lia⟩, h2⟩

theorem hbv_value (n : Nat) {v : Value} (h : carriedByValue v = true) : ∃ b, hashByValue n v = pure b := by
  cases v with
  | ref a => simp [carriedByValue] at h
  | _ => first | exact ⟨_, rfl⟩ | (cases n <;> exact ⟨_, rfl⟩)
theorem putSet_at {h : Heap} {S : Addr} {es es' : Array (Int × Value)} {ep : Nat} {t t' : SetTable} (ho : h.get? S = some (setObj es ep t)) : (h.update S (Obj.putSet es' t')).get? S = some (setObj es' (ep + 1) t') := by
  have := Heap.get?_update_self (Obj.putSet es' t') ho (by rw [putSet_of es' t' rfl]; rfl)
  rw [putSet_of es' t' rfl] at this; exact this

section
variable {prog : Program} {w : World} {K : Type} [DecidableEq K] {knd : PySem.KeyKind prog w K} {A : Around} {E : Value → Shared → Prop} {s : Shared}
theorem hbv_tuple {ks : List K} {a : Addr} {Q : Bool → Shared → Prop} (hk : IsTupleKey knd s.heap ks a) (h : ∀ b, Q b s) : wpAny (model prog w) A (hashByValue 8 (.ref a)) Q E s := by
  have hT := hk.typeIs
  (refine xEEEAAA hk fun o items n ho _ hd hi => ?_; clear hk)
  unfold hashByValue
  refine wpAny_bind (wpAny_specialOf hT F.slot_tuple_hash.lookup ?_)
  show wpAny _ _ (seqItems? (.ref a) >>= _) _ _ s
  refine wpAny_bind (wpAny_seqItems ho hd ?_)
  refine wpAny_bind ?_
  show wpAny _ _ (forIn items _ _) _ _ s
  rw [← Array.forIn_toList]
  refine wpAny_forIn_list _ (fun rest r s' => s' = s ∧ ∀ v ∈ rest, carriedByValue v = true) _ ?_ ?_ _ _ ⟨rfl, hi.byValue⟩
  · (intro v rest r s' yy5; (refine xA yy5 fun ee1 hall => ?_; clear yy5; subst ee1))
    refine xE (hbv_value 7 (hall v List.mem_cons_self)) fun b hb => ?_
    rw [hb]
    refine wpAny_bind (wpAny_pure ?_)
    refine wpAny_ite_split (fun _ => ?_) (fun _ => ?_)
    · exact wpAny_pure (wpAny_pure (h _))
    · exact wpAny_pure ⟨rfl, fun u hu' => hall u (List.mem_cons_of_mem _ hu')⟩
  · (intro yy6 s' yy8; obtain ⟨r1, r2⟩ := yy6; (refine xA yy8 fun ee2 _ => ?_; clear yy8; subst ee2))
    dsimp only
    cases r1 with
    | none => exact wpAny_pure (h _)
    | some b => exact wpAny_pure (h _)
theorem relay_ {S : Addr} {es : Array (Int × Value)} {ep : Nat} {t : SetTable} {led : Bool} {Q : Unit → Shared → Prop} (ho : s.heap.get? S = some (setObj es ep t)) (hf : t.fits es.size = true) (hl : t.led = led) (h5 : es.size = 5)
    (h : ∀ es' ep' t', (s.heap.update S (Obj.putSet es' t')).get? S = some (setObj es' ep' t') → Tab led es'.size t' → es'.toList.Perm es.toList → Q () { s with heap := s.heap.update S (Obj.putSet es' t') }) :
    wpAny (model prog w) A (setRelay S 20) Q E s := by
  refine xEEAAAAAAA (relaid_ok t (es.map (·.1)) (by rw [Array.size_map]; exact h5)) fun t' order e hp r1 r2 r3 r4 r5 r6 => ?_
  have hp' := order_perm es (order := order) (by rw [h5]; exact hp)
  have hsz : (order.filterMap (es[·]?)).size = es.size := by have := hp'.length_eq; simpa only [Array.length_toList] using this
  unfold setRelay
  refine wpAny_bind (wpAny_setState_of ho rfl hf ?_)
  dsimp only
  rw [if_neg (by decide +kernel), e]
  refine wpAny_bind ?_
  show wpAny _ _ (if ((order.filterMap (es[·]?)).size != es.size) = true then _ else _) _ _ _
  rw [if_neg (by rw [hsz]; simp)]
  refine wpAny_pure ?_
  dsimp only
  refine wpAny_storeSet_of ho rfl (h _ _ t' (putSet_at ho) ?_ hp') (le1000 (by lia))
  rw [hsz, h5]
  exact new_tab r1 r2 r3 r4 (r5.trans hl)
theorem grown5 : SetTable.grown 5 = 20 := rfl
theorem add_tuple {S b : Addr} {ks : List K} {es : Array (Int × Value)} {ep : Nat} {t : SetTable} {led : Bool} {hsh : Int} {Q : Bool → Shared → Prop} (ho : s.heap.get? S = some (setObj es ep t)) (T : Tab led es.size t) (hsz : es.size ≤ 17)
    (hb : IsTupleKey knd s.heap ks b) (hes : ∀ e ∈ es.toList, TupVal knd s.heap e.2) (hu : A.units < cLine)
    (h1 : (∃ e ∈ es.toList, ∃ c, e.2 = .ref c ∧ IsTupleKey knd s.heap ks c) → Q false s)
    (h2 : ∀ es' ep' t' h', Heap.SameBut S s.heap h' → h'.get? S = some (setObj es' ep' t') → Tab led es'.size t' → es'.toList.Perm ((hsh, .ref b) :: es.toList) → Q true { s with heap := h' }) :
    wpAny (model prog w) A (setAddHashedIn S (.ref b) hsh 100000) Q E s := by
  unfold setAddHashedIn
  refine wpAny_bind (wpAny_setState_of ho rfl T.fits ?_)
  dsimp only
  rw [show byScan (.ref b) es = false from rfl]
  simp only [Bool.false_eq_true, if_false]
  have ht : 10 * turns t.mask ≤ 460 := by unfold turns; rcases T.m with e | e <;> rw [e] <;> decide
  refine wpAny_bind ?_
  unfold setSearch
  refine search_go ho T hb hes hu (fun j ej => ?_) (fun e m x => wpAny_pure (h1 (iEA e m x))) _ 100000 none (T.hits hsh) rfl (by lia) (Nat.le_refl _)
  dsimp only
  refine wpAny_bind (wpAny_setState_of ho rfl T.fits ?_)
  refine xA (put_ok T ej) fun P hp => ?_
  generalize t.put j = tp at P hp
  obtain ⟨t1, p⟩ := tp
  dsimp only at P hp ⊢
  have fin : ∀ pl : Bool, wpAny (model prog w) A (do
      storeSet S (insertAt es p (hsh, .ref b)) { t1 with plain := pl }
      if !false && ({ t1 with plain := pl } : SetTable).tooFull then setRelay S (SetTable.grown (es.size + 1))
      return true) Q E s := by
    intro pl
    have hs1 : (insertAt es p (hsh, Value.ref b)).size = es.size + 1 := insertAt_size _ _ _
    refine wpAny_bind (wpAny_storeSet_of ho rfl ?_ (le1000 (by lia)))
    have hput := putSet_at (es' := insertAt es p (hsh, Value.ref b)) (t' := { t1 with plain := pl }) ho
    have hsb := Heap.SameBut.update s.heap S (Obj.putSet (insertAt es p (hsh, Value.ref b)) { t1 with plain := pl })
    rcases put_full T (P.off pl) hsz with ⟨q, q4⟩ | ⟨q, T'⟩
    · rw [q]
      simp only [Bool.not_false, Bool.true_and, if_true]
      rw [q4]
      refine wpAny_bind (relay_ (led := led) hput (by rw [hs1]; exact put_fits T (P.off pl) hsz) P.led (by lia) fun es' ep' t' hg T2 hp2 => ?_)
      exact wpAny_pure (h2 es' ep' t' _ (hsb.trans (Heap.SameBut.update _ S _)) hg T2 (hp2.trans (insertAt_perm _ _ _)))
    · rw [q]
      simp only [Bool.not_false, Bool.true_and, Bool.false_eq_true, if_false]
      exact wpAny_pure (h2 _ _ _ _ hsb hput (by rw [hs1]; exact T') (insertAt_perm _ _ _))
  cases hpl : t1.plain with
  | true =>
    simp only [if_true]
    refine wpAny_bind (hbv_tuple hb fun bv => ?_)
    cases bv with
    | true =>
      simp only [if_true]
      have := fin true
      rw [show ({ t1 with plain := true } : SetTable) = t1 by rw [← hpl]] at this
      exact this
    | false =>
      simp only [Bool.false_eq_true, if_false]
      exact fin false
  | false =>
    simp only [Bool.false_eq_true, if_false]
    refine wpAny_bind (wpAny_pure ?_)
    simp only [if_true]
    have := fin false
    rw [show ({ t1 with plain := false } : SetTable) = t1 by rw [← hpl]] at this
    exact this
end
end Mine
end L2hx

noncomputable section L2ix
open PySem PySem.W PySem.Calls PyProof.Rows
set_option Elab.async false
set_option linter.unusedVariables false
set_option maxRecDepth 100000
namespace Mine
open SetTable

theorem free_slot {led : Bool} {n : Nat} {t : SetTable} (T : Tab led n t) (h : Int) : ∃ j, t.freeSlot h = some (j, false) ∧ t.slot j = .empty := by
  unfold SetTable.freeSlot
  rcases probe_go T.dum (fun _ => h + 1) h (10 * turns t.mask) _ _ (Nat.le_refl _) (T.hits h) with ⟨j, e, ej⟩ | ⟨j, i, nx, n', e, ej, q, _⟩
  · have e' : t.probe (fun _ => h + 1) h (t.probeStart h) = some (.empty j (t.probeStart h).dummy) := e
    rw [e']
    exact (iEA j rfl ej)
  · exfalso
    have : h + 1 = h := q
    lia
theorem lay_new {led : Bool} {t : SetTable} {es : Array (Int × Value)} (T : Tab led es.size t) (hn : es.size ≤ 17) (h : Int) (x : Value) :
    ∃ t' p, layNew t es h x = (insertAt es p (h, x), t', false, false) ∧ Put led es.size t t' := by
  refine xEA (free_slot T h) fun j e ej => ?_
  refine xA (put_ok T ej) fun P hp => ?_
  unfold layNew
  rw [e]
  have hf := put_fits T P hn
  refine (iEEA ((t.put j).1) ((t.put j).2) ?_ P)
  show (insertAt es (t.put j).2 (h, x), (t.put j).1.orStandIn (insertAt es (t.put j).2 (h, x)).size, false, !(t.put j).1.fits (insertAt es (t.put j).2 (h, x)).size) = _
  have hs : (insertAt es (t.put j).2 (h, x)).size = es.size + 1 := insertAt_size _ _ _
  rw [hs, hf]
  unfold SetTable.orStandIn
  rw [if_pos hf]
  rfl
theorem relay_all {t : SetTable} {led : Bool} (es : Array (Int × Value)) (hl : t.led = led) (h5 : es.size = 5) :
    ∃ es' t', relayAll t es 20 = (es', t', false) ∧ Tab led es'.size t' ∧ es'.toList.Perm es.toList := by
  refine xEEAAAAAAA (relaid_ok t (es.map (·.1)) (by rw [Array.size_map]; exact h5)) fun t' order e hp r1 r2 r3 r4 r5 r6 => ?_
  have hp' := order_perm es (order := order) (by rw [h5]; exact hp)
  have hsz : (order.filterMap (es[·]?)).size = es.size := by have := hp'.length_eq; simpa only [Array.length_toList] using this
  have T : Tab led (order.filterMap (es[·]?)).size t' := by rw [hsz, h5]; exact new_tab r1 r2 r3 r4 (r5.trans hl)
  have hc : coversAll order es.size = true := by
    unfold coversAll
    rw [List.isPerm_iff, h5]; exact hp
  refine (iEEAA _ t' ?_ T hp')
  unfold relayAll
  rw [e]
  dsimp only
  rw [hc, T.fits]
  rfl

section
variable {prog : Program} {w : World} {A : Around} {E : Value → Shared → Prop} {s : Shared}
theorem add_int {S : Addr} {k : Int} {u : Tok} {es : Array (Int × Value)} {ep : Nat} {t : SetTable} {led : Bool} {Q : Bool → Shared → Prop} (ho : s.heap.get? S = some (setObj es ep t)) (T : Tab led es.size t) (hsz : es.size ≤ 17)
    (hes : ElemsOf (intKind prog w) es.toList)
    (h1 : (∃ e ∈ es.toList, ∃ u, e.2 = .int k u) → Q false s)
    (h2 : ∀ es' ep' t' h', Heap.SameBut S s.heap h' → h'.get? S = some (setObj es' ep' t') → Tab led es'.size t' → es'.toList.Perm ((hashInt k, .int k u) :: es.toList) → Q true { s with heap := h' }) :
    wpAny (model prog w) A (setAddHashedIn S (.int k u) (hashInt k) 100000) Q E s := by
  unfold setAddHashedIn
  refine wpAny_bind (wpAny_setState_of ho rfl T.fits ?_)
  dsimp only
  rw [byScan_of (knd := intKind prog w) rfl (by unfold scanBound; lia) hes]
  simp only [if_true]
  have key : wpAny (model prog w) A (setAddByScan S (.int k u) (hashInt k) es t) (fun r s' => match r with | some b => Q b s' | none => False) E s := by
    unfold setAddByScan
    refine wpAny_bind (wpAny_rule ?_)
    refine wpAny_bind (wpAny_setScan_of (knd := intKind prog w) (k := k) (intKind_is prog w k u) ho rfl T.fits hes ?_)
    cases hr : es.toList.findIdx? (fun e => (intKind prog w).is k e.2) with
    | some j =>
      refine wpAny_pure (h1 ?_)
      refine xEA (List.findIdx?_eq_some_iff_getElem.mp hr) fun hj hpj _ => ?_
      refine xE (Value.isInt_shape hpj) fun u' hu' => ?_
      exact (iEAE (es.toList[j]) (List.getElem_mem hj) u' hu')
    | none =>
      refine xEEA (lay_new T hsz (hashInt k) (.int k u)) fun t1 p e P => ?_
      generalize layNew t es (hashInt k) (.int k u) = ln at e
      subst e
      dsimp only
      have hs1 : (insertAt es p (hashInt k, Value.int k u)).size = es.size + 1 := insertAt_size _ _ _
      have tail : ∀ pl, wpAny (model prog w) A (do
          storeSet S (insertAt es p (hashInt k, .int k u)) { t1 with plain := pl }
          if !false && ({ t1 with plain := pl } : SetTable).tooFull then
            let (es, t, gave) := relayAll { t1 with plain := pl } (insertAt es p (hashInt k, .int k u)) (SetTable.grown (insertAt es p (hashInt k, Value.int k u)).size)
            (match gave with | true => rule "set.scan.the-table-gave-way" | false => pure ())
            storeSet S es t
          return some true) (fun r s' => match r with | some b => Q b s' | none => False) E s := by
        intro pl
        refine wpAny_bind (wpAny_storeSet_of ho rfl ?_ (le1000 (by lia)))
        have hput := putSet_at (es' := insertAt es p (hashInt k, Value.int k u)) (t' := { t1 with plain := pl }) ho
        have hsb := Heap.SameBut.update s.heap S (Obj.putSet (insertAt es p (hashInt k, Value.int k u)) { t1 with plain := pl })
        rcases put_full T (P.off pl) hsz with ⟨q, q4⟩ | ⟨q, T'⟩
        · rw [q]
          simp only [Bool.not_false, Bool.true_and, if_true]
          refine xEEAA (relay_all (t := { t1 with plain := pl }) (led := led) (insertAt es p (hashInt k, Value.int k u)) P.led (by lia)) fun es2 t2 e2 T2 hp2 => ?_
          rw [hs1, q4, grown5, e2]
          dsimp only
          have hl2 : es2.size ≤ 1000 := by have := hp2.length_eq; rw [Array.length_toList, Array.length_toList] at this; lia
          refine wpAny_bind (wpAny_pure ?_)
          refine wpAny_bind (wpAny_storeSet_of hput rfl ?_ (le1000 hl2))
          exact wpAny_pure (h2 _ _ _ _ (hsb.trans (Heap.SameBut.update _ S _)) (putSet_at hput) T2 (hp2.trans (insertAt_perm _ _ _)))
        · rw [q]
          simp only [Bool.not_false, Bool.true_and, Bool.false_eq_true, if_false]
          exact wpAny_pure (h2 _ _ _ _ hsb hput (by rw [hs1]; exact T') (insertAt_perm _ _ _))
      refine wpAny_bind (wpAny_pure ?_)
      refine wpAny_ite_split (fun _ => ?_) (fun _ => ?_)
      · refine wpAny_bind (m := hashByValue 8 (Value.int k u)) (wpAny_pure ?_)
        simp only [if_true]
        exact tail t1.plain
      · first
        | exact tail t1.plain
        | (refine wpAny_bind (wpAny_pure ?_)
           simp only [if_true]
           exact tail t1.plain)
  refine wpAny_bind (wpAny_mono key (fun r s' x => ?_) fun _ _ e => e)
  cases r with
  | some b => exact wpAny_pure x
  | none => exact x.elim
end
end Mine
end L2ix

noncomputable section L2jx
open PySem PySem.W PySem.Calls PyProof.Rows
set_option Elab.async false
set_option linter.unusedVariables false
set_option maxRecDepth 100000
namespace Mine
open SetTable

section
variable {prog : Program} {w : World} {A : Around} {E : Value → Shared → Prop} {s : Shared}
theorem set_new (a : Value) {Q₁ : Value → Shared → Prop}
    (h : Q₁ (.ref s.heap.objs.size) { s with heap := s.heap.push (setObj #[] 0 (.fresh 0 0 (!(w.params.followText "set-order")))) }) :
    codeAny (model prog w) A (.call (.builtin "set.__new__") ⟨[.type "set", a], []⟩) (wants Q₁ E) s := by
  refine codeAny_of_tree ?_
  show wpAny _ A.in1 (do checkBuiltinCall "set.__new__" ⟨[.type "set", a], []⟩; again (.builtin "set.__new__" ⟨[.type "set", a], []⟩)) _ _ s
  refine wpAny_bind (wpAny_of_eq (PySem.F.newCall_set_1 a) (wpAny_pure ⟨plainId_quiet PySem.F.plain_set_new _, codeAny_builtin PySem.F.entry_set_new ?_⟩))
  rw [Around.under_plainId PySem.F.plain_set_new _]
  unfold Builtin.«set.__new__» Builtin.Frozenset.newClass
  have hsub := sub_set_self
  obtain ⟨hp, g, d, tk, os⟩ := s
  dsimp only
  wp_walk
  refine wpAny_askSetting (wpAny_pure ?_)
  dsimp only
  simp only [newObj]
  refine wpAny_bind (wpAny_alloc (wpAny_pure ?_))
  exact wpAny_pure h
/-- the loop that fills a set from a list -/
theorem sul {l I S : Addr} {its : Array Value} {Inv : Nat → Heap → Prop} {R : Result → Shared → Prop} (hh : A.handled = none) (hu : A.units + 8 < cLine) (hlI : l ≠ I) (hlS : l ≠ S) (hIS : I ≠ S)
    (frm : ∀ i h h', Inv i h → (∀ b o, b ≠ I → h.get? b = some o → h'.get? b = some o) → Inv i h')
    (stp : ∀ (A : Around) i v (s : Shared) (Q : Shared → Prop), A.units < cLine → its[i]? = some v → Inv i s.heap → (∀ h' tk, Heap.SameBut S s.heap h' → Inv (i + 1) h' → Q { s with heap := h', toks := tk }) → wpAny (model prog w) A (setAdd S v) (fun _ s' => Q s') Bot s)
    (hR : ∀ h' tk, Inv its.size h' → (∀ b o, b ≠ I → b ≠ S → s.heap.get? b = some o → h'.get? b = some o) → R (.ok (.ret .none)) { s with heap := h', toks := tk })
    :
    ∀ (m i : Nat) (h : Heap) (tk : Nat), i + m = its.size → h.IsListIter I l i → h.IsList l its → Inv i h → (∀ b o, b ≠ I → b ≠ S → s.heap.get? b = some o → h.get? b = some o) →
      codeAny (model prog w) A (.builtin "set.update.loop" ⟨[.ref S, .ref I], []⟩) R { s with heap := h, toks := tk } := by
  intro m
  induction m with
  | zero =>
    intro i h tk hi hit hli hv kp
    refine codeAny_builtin PyProof.Rows.F.entry_set_update_loop ?_
    rw [Around.under_plainId PyProof.Rows.F.plain_set_update_loop _]
    show wpAny _ A.in1 (pyNext (.ref I) >>= _) _ _ _
    refine wpAny_bind (wpAny_pyNext_list_end (s := { s with heap := h, toks := tk }) hh hit hli (by rw [Array.getElem?_eq_none (by lia)]) fun h₁ he₁ => ?_)
    show wpAny _ A.in1 (ret Value.none) _ _ _
    obtain rfl : i = its.size := by lia
    exact wpAny_pure (hR h₁ tk (frm _ _ _ hv fun b o hb e => he₁ b o hb e) fun b o hb hb2 e => he₁ b o hb (kp b o hb hb2 e))
  | succ m ih =>
    intro i h tk hi hit hli hv kp
    have hlt : i < its.size := by lia
    refine codeAny_builtin PyProof.Rows.F.entry_set_update_loop ?_
    rw [Around.under_plainId PyProof.Rows.F.plain_set_update_loop _]
    show wpAny _ A.in1 (pyNext (.ref I) >>= _) _ _ _
    have hx : its[i]? = some its[i] := by simp [hlt]
    refine wpAny_bind (wpAny_pyNext_list_item (s := { s with heap := h, toks := tk }) hit hli hx fun h₁ hit₁ hs₁ => ?_)
    show wpAny _ A.in1 (holding [its[i]] (setAdd S its[i]) >>= _) _ _ _
    refine wpAny_bind (wpAny_holding (wpAny_mono (stp A.in1 i its[i] { s with heap := h₁, toks := tk } (fun s' => ∃ h₂ tk₂, s' = { s with heap := h₂, toks := tk₂ } ∧ Heap.SameBut S h₁ h₂ ∧ Inv (i + 1) h₂) (by show A.units + 1 < _; lia) hx (frm _ _ _ hv fun b o hb e => hs₁.extBut b o hb e) fun h₂ tk₂ hs₂ hv₂ => (iEEAA h₂ tk₂ rfl hs₂ hv₂)) (fun _ s' x => ?_) fun _ _ x => x.elim))
    (refine xEEAA x fun h₂ tk₂ ee1 hs₂ hv₂ => ?_; clear x; subst ee1)
    refine wpAny_pure ⟨plainId_quiet PyProof.Rows.F.plain_set_update_loop _, ?_⟩
    exact ih (i + 1) h₂ tk₂ (by lia) (hit₁.extBut hs₂.extBut hIS) ((hli.extBut hs₁.extBut hlI).extBut hs₂.extBut hlS) hv₂ fun b o hb hb2 e => hs₂.extBut b o hb2 (hs₁.extBut b o hb (kp b o hb hb2 e))
set_option maxHeartbeats 3200000 in
theorem set_list {l : Addr} {its : Array Value} {Inv : Nat → Heap → Prop} {Q : Value → Shared → Prop} (hh : A.handled = none) (hu : A.units + 16 < cLine) (hl : s.heap.IsList l its)
    (h0 : ∀ h, h.get? s.heap.objs.size = some (setObj #[] 0 (.fresh 0 0 (!(w.params.followText "set-order")))) → (∀ b o, s.heap.get? b = some o → h.get? b = some o) → Inv 0 h)
    (frm : ∀ i h h', Inv i h → (∀ b o, b ≠ s.heap.objs.size + 1 → h.get? b = some o → h'.get? b = some o) → Inv i h')
    (stp : ∀ (A : Around) i v (s' : Shared) (Q : Shared → Prop), A.units < cLine → its[i]? = some v → Inv i s'.heap → (∀ h' tk, Heap.SameBut s.heap.objs.size s'.heap h' → Inv (i + 1) h' → Q { s' with heap := h', toks := tk }) → wpAny (model prog w) A (setAdd s.heap.objs.size v) (fun _ s' => Q s') Bot s')
    (h : ∀ (h' : Heap) (tk : Nat), Inv its.size h' → (∀ b o, s.heap.get? b = some o → h'.get? b = some o) → Q (.ref s.heap.objs.size) { s with heap := h', toks := tk }) :
    wpAny (model prog w) A (call (.type "set") [.ref l]) Q E s := by
  refine xEE PySem.F.called_set.mro fun c tl hmro => ?_
  have hmade := PySem.F.called_set.made
  have hsub := PySem.F.called_set.sub
  refine wpAny_call (codeAny_of_tree ?_)
  show wpAny _ _ (callAny (.type "set") _) _ _ _
  refine wpAny_pure ⟨Code.quiet_builtin _ (by decide +kernel), codeAny_builtin PySem.F.entry_type_call ?_⟩
  rw [Around.under_plain (weight_type_call_type "set" [.ref l] []) rfl]
  have h1 := PySem.F.called_set.notType
  have h2 := PySem.F.called_set.canCreate
  have hct := PySem.F.typeCall_set_1 (.ref l)
  repeat (any_goals (first | assumption | wp_step))
  refine codeAny_mono (set_new (.ref l) (E := E) (Q₁ := fun obj s₁ => obj = .ref s.heap.objs.size ∧ s₁ = { s with heap := s.heap.push (setObj #[] 0 (.fresh 0 0 (!(w.params.followText "set-order")))) }) ⟨rfl, rfl⟩) fun r s₁ hr => ?_
  cases r with
  | error e => exact hr
  | ok fl =>
    cases fl with
    | ret obj =>
      (refine xA hr fun ee2 ee3 => ?_; clear hr; subst ee2; subst ee3)
      generalize hled : (!(w.params.followText "set-order")) = led at h0 ⊢
      have hS : (s.heap.push (setObj #[] 0 (.fresh 0 0 led))).get? s.heap.objs.size = some (setObj #[] 0 (.fresh 0 0 led)) := Heap.get?_push_size _ rfl
      have hT : Shared.TypeIs { s with heap := s.heap.push (setObj #[] 0 (.fresh 0 0 led)) } (.ref s.heap.objs.size) "set" := (iEA _ hS rfl)
      have hli := PySem.F.called_set.init.lookup
      have hbi := PySem.F.called_set.init.bind (.ref s.heap.objs.size)
      repeat (any_goals (first | assumption | wp_step))
      refine codeAny_mono (codeAny_call_builtin (R := wants (fun r s₂ => r = .none ∧ ∃ h' tk, s₂ = { s with heap := h', toks := tk } ∧ Inv its.size h' ∧ (∀ b o, s.heap.get? b = some o → h'.get? b = some o)) E) PySem.F.called_set.init.plain PySem.F.entry_set_init (check_set_init_1 hT ?_)) fun r₂ s₂ hr₂ => ?_
      · (refine xEAAE hl fun ol hol hcl nl hdl => ?_; clear hl)
        obtain ⟨ocls, odict, odata, oslots⟩ := ol
        simp only at hcl hdl
        subst hcl; subst hdl
        have hol' : (s.heap.push (setObj #[] 0 (.fresh 0 0 led))).get? l = some { cls := .type "list", dict := odict, data := .seq its nl, slots := oslots } := Heap.get?_push_of_some _ hol
        have hsls := PySem.F.sub_list_set
        have hslf := PySem.F.sub_list_frozenset
        have hne : (Value.type "list" == Value.type "dict") = false := by decide
        have hl1 : (s.heap.push (setObj #[] 0 (.fresh 0 0 led))).IsList l its := (iEAAE _ hol' rfl nl rfl)
        unfold Builtin.«set.__init__» noKeywords Builtin.Frozenset.updateFrom
        generalize hPI : pyIter = PI
        wp_walk
        subst hPI
        refine wpAny_pyIter_list hl1 ?_
        refine wpAny_bind (wpAny_runValue ?_)
        have hlS : l < s.heap.objs.size := Heap.lt_size hol
        have hh3 : A.in1.in1.handled = none := by simp [hh]
        have hsz : (s.heap.push (setObj #[] 0 (.fresh 0 0 led))).objs.size = s.heap.objs.size + 1 := size_push' _ _
        have kp2 : ∀ b o, s.heap.get? b = some o → ((s.heap.push (setObj #[] 0 (.fresh 0 0 led))).push { cls := .type "list_iterator", data := .fields #[.ref l, .int 0 0] }).get? b = some o := fun b o e => push_keep _ _ b o (push_keep _ _ b o e)
        dsimp only
        rw [hsz]
        refine sul (s := { s with heap := (s.heap.push (setObj #[] 0 (.fresh 0 0 led))).push { cls := .type "list_iterator", data := .fields #[.ref l, .int 0 0] } }) (l := l) (I := s.heap.objs.size + 1) (S := s.heap.objs.size) (its := its) (Inv := Inv) hh3 (by show A.units + 1 + 1 + 8 < _; lia) (Nat.ne_of_lt (Nat.lt_succ_of_lt hlS)) (Nat.ne_of_lt hlS) (Nat.succ_ne_self _) frm (fun A' i v s' Q' => stp A' i v s' Q') ?hR its.size 0 _ _ (by lia) ?hit ?hli (h0 _ (push_keep _ _ _ _ hS) kp2) fun _ _ _ _ e => e
        case hit => rw [← hsz]; exact (iEAA _ (Heap.get?_push_size _ rfl) rfl rfl)
        case hli => exact hl1.push _
        case hR =>
          intro h' tk hv kp
          refine wpAny_pure ?_
          show wpAny _ _ (ret Value.none) _ _ _
          refine wpAny_pure (iAEEAA rfl h' tk rfl hv (fun b o e => ?_))
          have := Heap.lt_size e
          exact kp b o (Nat.ne_of_lt (Nat.lt_succ_of_lt this)) (Nat.ne_of_lt this) (kp2 b o e)
      · cases r₂ with
        | error e => exact hr₂
        | ok fl₂ =>
          cases fl₂ with
          | ret r =>
            (refine xAEEAA hr₂ fun ee4 h' tk ee5 hS' hk' => ?_; clear hr₂; subst ee4; subst ee5)
            repeat (any_goals (first | assumption | wp_step))
            exact h _ _ hS' hk'
          | _ => exact hr₂.elim
    | _ => exact hr.elim
end
end Mine
end L2jx

noncomputable section L2kx
open PySem PySem.W PySem.Calls PyProof.Rows
set_option Elab.async false
set_option linter.unusedVariables false
set_option maxRecDepth 100000
namespace Mine
open SetTable

noncomputable def intKey (d : PyData) : Prop := ∃ k : Int, d = .int k
noncomputable def AddSpec (prog : Program) (w : World) (kind : PyData → Prop) (ent : Int × Value → Prop) : Prop :=
  ∀ (A : Around) (s : Shared) (F : Addr → Prop) (S : Addr) (es : Array (Int × Value)) (ep : Nat) (t : SetTable) (led : Bool) (x : PyData) (v : Value) (ds : List PyData) (Q : Shared → Prop),
    A.units < cLine → s.heap.get? S = some (setObj es ep t) → Tab led es.size t → es.size ≤ 17 → FzA F s.heap ds (es.toList.map (·.2)) → (∀ d ∈ ds, kind d) → (∀ e ∈ es.toList, ent e) → kind x → Fz F s.heap x v →
    (x ∈ ds → ∀ tk, Q { s with toks := tk }) →
    (∀ es' ep' t' h' tk hsh, Heap.SameBut S s.heap h' → h'.get? S = some (setObj es' ep' t') → Tab led es'.size t' → es'.toList.Perm ((hsh, v) :: es.toList) → ent (hsh, v) → Q { s with heap := h', toks := tk }) →
    wpAny (model prog w) A (setAdd S v) (fun _ s' => Q s') Bot s

theorem fz_mem {F : Addr → Prop} {h : Heap} : ∀ {ds : List PyData} {vs : List Value}, FzA F h ds vs → ∀ v ∈ vs, ∃ d ∈ ds, Fz F h d v
  | [], vs, z, v, m => by rw [FzA] at z; subst z; cases m
  | d :: ds, vs, z, v, m => by
    rw [FzA] at z
    obtain ⟨u, r, rfl, z0, z⟩ := z
    rcases List.mem_cons.mp m with rfl | m
    · exact ⟨d, .head _, z0⟩
    · obtain ⟨d', m', z'⟩ := fz_mem z v m
      exact (iEA d' (.tail _ m') z')
theorem node_atoms {d : PyData} (h : nodeKey d) : ∃ ks : List Atom, d = .tuple (ks.map Atom.py) := by
  (refine xEE h fun x ns ee1 => ?_; clear h; subst ee1)
  refine ⟨.s x :: ns.map .i, ?_⟩
  simp [Atom.py]
section
variable {prog : Program} {w : World}
theorem addT : AddSpec prog w nodeKey (fun _ => True) := by
  intro A s F S es ep t led x v ds Q hu ho T hsz z hk he kx zx h1 h2
  (refine xE (node_atoms kx) fun ks ee2 => ?_; subst ee2)
  (refine xEAA (fz_key (prog := prog) (w := w) zx) fun b ee3 fb kb => ?_; subst ee3)
  have hes : ∀ e ∈ es.toList, TupVal (mixKind prog w) s.heap e.2 := fun e m => by
    refine xEA (fz_mem z e.2 (List.mem_map_of_mem m)) fun d md zd => ?_
    (refine xE (node_atoms (hk d md)) fun ks' ee4 => ?_; subst ee4)
    refine xEAA (fz_key (prog := prog) (w := w) zd) fun c ec _ kc => ?_
    exact (iEEA ks' c ec kc)
  unfold setAdd
  refine wpAny_holding (wpAny_bind (wpAny_pyHash_tuple hu kb ?_))
  unfold setAddHashed
  refine wpAny_holding ?_
  refine add_tuple (knd := mixKind prog w) (s := { s with toks := s.toks + (ks.length + 1) }) ho T hsz kb hes hu (fun zz12 => xEAEA zz12 fun e m c ec kc => ?_) fun es' ep' t' h' a b c p => h2 es' ep' t' h' _ _ a b c p trivial
  refine xEA (fz_mem z e.2 (List.mem_map_of_mem m)) fun d md zd => ?_
  (refine xE (node_atoms (hk d md)) fun ks' ee5 => ?_; subst ee5)
  refine xEAA (fz_key (prog := prog) (w := w) zd) fun c' ec' _ kc' => ?_
  rw [ec] at ec'; cases ec'
  rw [kc.inj kc'] at h1
  exact h1 md _
theorem addI : AddSpec prog w intKey (fun e => ∃ k u, e = (hashInt k, Value.int k u)) := by
  intro A s F S es ep t led x v ds Q hu ho T hsz z hk he kx zx h1 h2
  (refine xE kx fun k ee6 => ?_; clear kx; subst ee6)
  rw [Fz] at zx
  (refine xE zx fun u ee7 => ?_; clear zx; subst ee7)
  unfold setAdd
  refine wpAny_holding (wpAny_bind (wpAny_pyHash_int ?_))
  unfold setAddHashed
  refine wpAny_holding ?_
  refine add_int (s := { s with toks := s.toks + 1 }) ho T hsz (fun e m => ?_) (fun zz13 => xEAE zz13 fun e m u' eu => ?_) fun es' ep' t' h' a b c p => h2 es' ep' t' h' _ _ a b c p (iEE k u rfl)
  · (refine xEE (he e m) fun k' u' ee8 => ?_; subst ee8)
    exact ⟨(iEA k' (intKind_is prog w k' u') rfl), rfl⟩
  · refine xEA (fz_mem z e.2 (List.mem_map_of_mem m)) fun d md zd => ?_
    (refine xE (hk d md) fun k' ee9 => ?_; subst ee9)
    rw [Fz] at zd
    (refine xE zd fun u2 e2 => ?_; clear zd)
    rw [eu] at e2
    injection e2 with e2
    subst e2
    exact h1 md _
end

section
variable {prog : Program} {w : World} {h₀ : Heap} {d : Nat} {H : MH} {Q : MV → MH → Prop}
theorem set_core {kind : PyData → Prop} {ent : Int × Value → Prop} (add : AddSpec prog w kind ent) {A : Around} {s : Shared} {W : Wd} {l : Addr} {its : Array Value} {xs : List PyData} (ao : AOk d A) (R : Rel w h₀ W H s.heap) (hl : s.heap.IsList l its) (z : FzA W.free s.heap xs its.toList)
    (hk : ∀ x ∈ xs, kind x) (h18 : xs.length ≤ 18) (q : ∀ ys : List PyData, (∀ x, x ∈ ys ↔ x ∈ xs) → ys.length ≤ xs.length → Q (.set ys) H) :
    wpAny (model prog w) A (call (.type "set") [.ref l]) (fun x s' => OutC w h₀ H W s (Vl w Q x) s') Bot s := by
  have hlen : xs.length = its.size := by rw [z.length, Array.length_toList]
  have hSn := sizeNone s.heap
  refine set_list (Inv := fun i h => ∃ es ep t, h.get? s.heap.objs.size = some (setObj es ep t) ∧ Tab (!(w.params.followText "set-order")) es.size t ∧ es.size ≤ i ∧ (∀ b o, s.heap.get? b = some o → h.get? b = some o) ∧
      (∀ e ∈ es.toList, ent e) ∧ ∃ ds, FzA W.free s.heap ds (es.toList.map (·.2)) ∧ ∀ x, x ∈ ds ↔ x ∈ xs.take i) ao.handled (by have := ao.room64; lia) hl ?_ ?_ ?_ ?_
  · intro h e kp
    refine (iEEEAAAAAEA _ _ _ e (⟨rfl, rfl, rfl, .inl ⟨rfl, by simp⟩, fun i k a b _ e => by simp [SetTable.fresh] at e⟩) (Nat.zero_le _) kp (by simp) ([]) (by simp [FzA]) (by simp))
  · (intro i h h' yy4 k; (refine xEEEAAAA yy4 fun es ep t e1 e2 e3 kp r => ?_; clear yy4))
    refine (iEEEAAAA es ep t (k _ _ (Nat.ne_of_lt (Nat.lt_succ_self _)) e1) e2 e3 (fun b o e => k b o ?_ (kp b o e)) r)
    exact Nat.ne_of_lt (Nat.lt_succ_of_lt (Heap.lt_size e))
  · (intro A' i v s' Q' hu hv yy13 hq; (refine xEEEAAAAAEA yy13 fun es ep t e1 T hsz kp he ds zd md => ?_; clear yy13))
    have hi : i < xs.length := by
      rw [hlen]
      rcases Nat.lt_or_ge i its.size with q | q
      · exact q
      · rw [Array.getElem?_eq_none q] at hv; cases hv
    refine xEA (z.get (i := i) (d := xs[i]) (by simp)) fun v' ev zv => ?_
    rw [Array.getElem?_toList, hv] at ev
    obtain rfl := Option.some.inj ev
    have kk : Keeps1 W.free W.free s.heap s'.heap := fun b o f e => ⟨f, kp b o e⟩
    have mtake : ∀ x, x ∈ xs.take (i + 1) ↔ x ∈ xs.take i ∨ x = xs[i] := fun x => by
      rw [List.take_add_one, List.getElem?_eq_getElem hi, List.mem_append]
      show _ ∨ x ∈ [xs[i]] ↔ _
      rw [List.mem_singleton]
    have nS : ∀ {b o}, s.heap.get? b = some o → b ≠ s.heap.objs.size := fun e => Nat.ne_of_lt (Heap.lt_size e)
    have hkd : ∀ d ∈ ds, kind d := fun x m => hk x (List.mem_of_mem_take ((md x).mp m))
    refine add A' s' W.free s.heap.objs.size es ep t _ xs[i] v ds Q' hu e1 T (by lia) (zd.mono kk) hkd he (hk _ (List.getElem_mem hi)) (zv.mono kk) (fun m tk => ?_) fun es' ep' t' h' tk hsh sb g T' p en => ?_
    · refine hq _ _ (Heap.SameBut.refl _ _) (iEEEAAAAAEA es ep t e1 T (by lia) kp he ds zd (fun x => ?_))
      rw [mtake, md x]
      constructor
      · exact .inl
      · rintro (h | rfl)
        · exact h
        · exact (md _).mp m
    · refine xEA (fz_perm (ys := es'.toList.map (·.2)) (xs := v :: es.toList.map (·.2)) (p.map _) (ds := xs[i] :: ds) (by rw [FzA]; exact (iEEAA _ _ rfl zv zd))) fun ds' p' zd' => ?_
      refine hq _ _ sb (iEEEAAAAAEA es' ep' t' g T' ?_ (fun b o e => (sb.2 b (nS e)).trans (kp b o e)) (fun e m => ?_) ds' zd' (fun x => ?_))
      · have := p.length_eq; simp at this; lia
      · rcases List.mem_cons.mp (p.mem_iff.mp m) with rfl | m
        · exact en
        · exact he e m
      · rw [p'.mem_iff, List.mem_cons, mtake, md x]
        exact Or.comm
  · (intro h' tk yy17 kp'; (refine xEEEAAAAAEA yy17 fun es ep t e1 T hsz kp he ds zd md => ?_; clear yy17))
    have kk : Keeps1 W.free W.free s.heap h' := fun b o f e => ⟨f, kp' b o e⟩
    refine .keep R kp' ⟨rfl, rfl⟩ (iEA (.set ds) (q ds (fun x => ?_) ?_) ?_)
    · rw [md x, List.take_of_length_le (by lia)]
    · have := zd.length; simp at this; lia
    · rw [VR]
      exact (iEEEEEAAAAAAAA _ es ep t ds rfl R.freeNew e1 T.size T.fit T.led T.rise (.refl _) (zd.mono kk))
theorem C.setL {kind : PyData → Prop} {ent : Int × Value → Prop} (add : AddSpec prog w kind ent) {xs : List PyData} (hk : ∀ x ∈ xs, kind x) (h18 : xs.length ≤ 18) (q : ∀ ys : List PyData, (∀ x, x ∈ ys ↔ x ∈ xs) → ys.length ≤ xs.length → Q (.set ys) H) :
    C prog w h₀ d (.type "set") [.d (.list xs)] H Q := C.mk1 <| by
  intro A s W x ao R r
  (refine xEEEAAA (fz_list (of_d r)) fun b vs n ee10 f g z => ?_; subst ee10)
  exact set_core add ao R (iEAAE _ g rfl n rfl) z hk h18 q
theorem C.setN {kind : PyData → Prop} {ent : Int × Value → Prop} (add : AddSpec prog w kind ent) {lo : Loc} {xs : List PyData} (e : H.get lo = some (.list (xs.map .d))) (hk : ∀ x ∈ xs, kind x) (h18 : xs.length ≤ 18) (q : ∀ ys : List PyData, (∀ x, x ∈ ys ↔ x ∈ xs) → ys.length ≤ xs.length → Q (.set ys) H) :
    C prog w h₀ d (.type "set") [.loc lo] H Q := C.mk1 <| by
  intro A s W x ao R r
  (refine xEEEAAAA (list_at R e r) fun a vs n ee11 e1 e2 g z => ?_; subst ee11)
  exact set_core add ao R (iEAAE _ g rfl n rfl) z.to_fz hk h18 q
end
end Mine
end L2kx

noncomputable section L2lx
open PySem PySem.W PySem.Calls PyProof.Rows
set_option Elab.async false
set_option linter.unusedVariables false
set_option maxRecDepth 100000
namespace Mine
open SetTable

/-! orders -/
theorem erase_perm {α : Type} {l : List α} {j : Nat} (h : j < l.length) : (l[j] :: l.eraseIdx j).Perm l := by
  rw [List.eraseIdx_eq_take_drop_succ]
  refine List.perm_middle.symm.trans (.of_eq ?_)
  have := List.take_append_drop j l
  conv => rhs; rw [← this]
  rw [List.drop_eq_getElem_cons h]
theorem pick_go {α : Type} (next : Nat → Nat) : ∀ (fuel k : Nat) (left : List α) (out : Array α), left.length ≤ fuel → (pickOrder.go next fuel k left out).toList.Perm (out.toList ++ left)
  | 0, k, left, out, l => by
    cases left with
    | nil => unfold pickOrder.go; simp
    | cons _ _ => simp at l
  | fuel + 1, k, [], out, l => by
    unfold pickOrder.go
    simp
  | fuel + 1, k, x :: left, out, l => by
    unfold pickOrder.go
    have hlt : next k % (x :: left).length < (x :: left).length := Nat.mod_lt _ (by simp)
    generalize next k % (x :: left).length = j at hlt
    rw [List.getElem?_eq_getElem hlt]
    dsimp only
    have h1 : ((x :: left).eraseIdx j).length ≤ fuel := by
      have l' : left.length + 1 ≤ fuel + 1 := l
      rw [List.length_eraseIdx_of_lt hlt]; simp; lia
    refine (pick_go next fuel (k + 1) _ _ h1).trans ?_
    rw [Array.toList_push, List.append_assoc]
    refine List.Perm.append_left _ ?_
    exact (erase_perm hlt)
theorem pick_perm {α : Type} (next : Nat → Nat) (xs : Array α) : (pickOrder next xs).toList.Perm xs.toList := by
  unfold pickOrder
  refine (pick_go next xs.size 0 xs.toList #[] (by simp)).trans ?_
  simp
section
variable {M : Model} {A : Around} {E : Value → Shared → Prop} {s : Shared}
theorem choose_ {src : Source} {n : Nat} {Q : Nat → Shared → Prop} (hn : 0 < n) (h : ∀ i dr, i < n → Q i { s with drawn := dr }) : wpAny M A (choose src n) Q E s :=
  fun Γ p hΓ => ⟨Nat.pos_iff_ne_zero.mp hn, h _ _ (Nat.mod_lt _ hn)⟩
theorem draw_ {α : Type} : ∀ (n : Nat) (xs : List α) {s : Shared} {Q : List α → Shared → Prop}, n = xs.length → (∀ ys dr, ys.Perm xs → Q ys { s with drawn := dr }) → wpAny M A (drawOrder n xs) Q E s
  | 0, [], s, Q, _, h => by unfold drawOrder; exact wpAny_pure (h [] s.drawn (.refl _))
  | 0, _ :: _, _, _, e, _ => by simp at e
  | n + 1, [], _, _, e, _ => by simp at e
  | n + 1, x :: xs, s, Q, e, h => by
    unfold drawOrder
    refine wpAny_bind (choose_ (by simp) fun i dr hi => ?_)
    rw [List.getElem?_eq_getElem hi]
    dsimp only
    refine wpAny_bind (draw_ n ((x :: xs).eraseIdx i) (by rw [List.length_eraseIdx_of_lt hi, ← e]; rfl) fun ys dr' p => ?_)
    exact wpAny_pure (h _ dr' ((p.cons _).trans (erase_perm hi)))
end

theorem slot_si_next : Slot "set_iterator" "__next__" "set_iterator.__next__" :=
  .of (owner := "set_iterator") (n := "__next__") (by rw [typeLookup_type, builtinLookup_eq_fast]; kernel_rfl) (by decide +kernel) (by decide +kernel) (by decide +kernel)
    (by first | exact .inl (by decide +kernel) | exact .inr (by decide +kernel)) (by rw [isSubtype_type]; kernel_rfl)
theorem entry_si_next : entryFor table "set_iterator.__next__" = some Builtin.«set_iterator.__next__» := entryFor_of_tree (by kernel_rfl)
theorem owner_si : Manifest.owners.lookup (String.ofList ['r', 'o', 't', 'a', 'r', 'e', 't', 'i', '_', 't', 'e', 's'].reverse) = some Manifest.sig_set_iterator := by kernel_rfl
theorem args_si_next (a : Value) : argsOk "set_iterator.__next__" ⟨[a], []⟩ := by
  unfold argsOk; rw [signature?_of (id := "set_iterator.__next__") (n := ['_', '_', 't', 'x', 'e', 'n', '_', '_']) (o := ['r', 'o', 't', 'a', 'r', 'e', 't', 'i', '_', 't', 'e', 's']) (by kernel_rfl) owner_si]; kernel_rfl
theorem slot_si_iter : Slot "set_iterator" "__iter__" "set_iterator.__iter__" :=
  .of (owner := "set_iterator") (n := "__iter__") (by rw [typeLookup_type, builtinLookup_eq_fast]; kernel_rfl) (by decide +kernel) (by decide +kernel) (by decide +kernel)
    (by first | exact .inl (by decide +kernel) | exact .inr (by decide +kernel)) (by rw [isSubtype_type]; kernel_rfl)
theorem entry_si_iter : entryFor table "set_iterator.__iter__" = some Builtin.«dict_keyiterator.__iter__» :=
  entryFor_alias (id' := "dict_keyiterator.__iter__") (by kernel_rfl) rfl (by decide +kernel) (by kernel_rfl)
theorem args_si_iter (a : Value) : argsOk "set_iterator.__iter__" ⟨[a], []⟩ := by
  unfold argsOk; rw [signature?_of (id := "set_iterator.__iter__") (n := ['_', '_', 'r', 'e', 't', 'i', '_', '_']) (o := ['r', 'o', 't', 'a', 'r', 'e', 't', 'i', '_', 't', 'e', 's']) (by kernel_rfl) owner_si]; kernel_rfl
theorem entry_set_iter : entryFor table "set.__iter__" = some Builtin.«frozenset.__iter__» :=
  entryFor_alias (id' := "frozenset.__iter__") (by kernel_rfl) rfl (by decide +kernel) (by kernel_rfl)
noncomputable abbrev siObj (first : Value) (i : Nat) (a : Addr) (n ep : Nat) : Obj := { cls := .type "set_iterator", data := .fields #[first, rawInt i, .ref a, rawInt n, rawInt ep] }
/-- how far an iterator over a set has come -/
noncomputable def SI (w : World) (I a F : Addr) (es : Array (Int × Value)) (ep : Nat) (t : SetTable) (out : List Value) (i : Nat) (h : Heap) : Prop :=
  h.get? a = some (setObj es ep t) ∧ ∃ first, h.get? I = some (siObj first i a es.size ep) ∧
    ((w.params.followText "set-order" = true ∧ first = rawInt 0 ∧ out = (pickOrder (w.params.setOrder a ep) es).toList.map (·.2)) ∨
     (∃ (π : List Nat) (n : Nat), first = .ref F ∧ h.get? F = some (tupOf ((π.map fun i => rawInt (i : Nat)).toArray) n) ∧ π.Perm (List.range es.size) ∧ out = π.map fun j => (es.getD j (0, .none)).2) ∨
     (w.params.followText "set-order" = false ∧ (!t.plain && decide (es.size > 1)) = false ∧ t.led = true ∧ ∃ slot : Nat, first = rawInt slot ∧ below t.place slot = i ∧ out = es.toList.map (·.2)))
section
variable {prog : Program} {w : World} {A : Around} {E : Value → Shared → Prop} {s : Shared}
theorem entries_ {a : Addr} {es : Array (Int × Value)} {ep : Nat} {t : SetTable} {Q : Array (Int × Value) → Shared → Prop} (ho : s.heap.get? a = some (setObj es ep t)) (hf : t.fits es.size = true) (h : Q es s) : wpAny (model prog w) A (setEntries a) Q E s := by
  unfold setEntries
  exact wpAny_bind (wpAny_setState_of ho rfl hf (wpAny_pure h))
theorem byText_ {Q : Bool → Shared → Prop} (h : Q (w.params.followText "set-order") s) : wpAny (model prog w) A setsByText Q E s := by
  unfold setsByText
  exact wpAny_bind (wpAny_askSetting (wpAny_pure h))
theorem below_succ {xs : Array Nat} (hr : Rise xs) {slot i j : Nat} (hb : below xs slot = i) (e : xs[i]? = some j) : below xs (j + 1) = i + 1 := by
  have hj := below_spec hr (j + 1)
  (refine xAA hj fun p1 p2 p3 => ?_; clear hj)
  have hi : i < xs.size := by
    rcases Nat.lt_or_ge i xs.size with q | q
    · exact q
    · rw [Array.getElem?_eq_none q] at e; cases e
  rcases Nat.lt_trichotomy (below xs (j + 1)) (i + 1) with q | q | q
  · have := p3 i j (by lia) e
    lia
  · exact q
  · have hlt : i + 1 < xs.size := by lia
    have e' : xs[i + 1]? = some xs[i + 1] := by simp [hlt]
    have := p2 (i + 1) _ q e'
    have := hr i (i + 1) _ _ (by lia) e e'
    lia
theorem below_zero {xs : Array Nat} (hr : Rise xs) : below xs 0 = 0 := by
  refine xAA (below_spec hr 0) fun p1 p2 p3 => ?_
  rcases Nat.eq_zero_or_pos (below xs 0) with q | q
  · exact q
  · have hlt : 0 < xs.size := by lia
    have e' : xs[0]? = some xs[0] := by simp [hlt]
    have := p2 0 _ q e'
    lia
variable {I a F : Addr} {es : Array (Int × Value)} {ep : Nat} {t : SetTable} {out : List Value} {i : Nat}
theorem SI.len (x : SI w I a F es ep t out i s.heap) : out.length = es.size := by
  (refine xAEA x fun _ _ _ h => ?_; clear x)
  rcases h with ⟨_, _, rfl⟩ | ⟨π, n, _, _, p, rfl⟩ | ⟨_, _, _, _, _, _, rfl⟩
  · rw [List.length_map, (pick_perm _ es).length_eq, Array.length_toList]
  · rw [List.length_map, p.length_eq, List.length_range]
  · rw [List.length_map, Array.length_toList]
theorem stop_ {A : Around} {s : Shared} {R : PySem.Fin → Shared → Prop} (hA : A.handled = none) (h : ∀ h' D, (∀ b o, s.heap.get? b = some o → h'.get? b = some o) → h'.get? D = none ∨ True → ({ s with heap := h' } : Shared).TypeIs (.ref D) "StopIteration" → E (.ref D) { s with heap := h' }) :
    wpAny (model prog w) A (newExc (.type "StopIteration") [] >>= fun e => raiseNew e) R E s := by
  refine wpAny_bind ?_
  simp only [newExc, newTuple]
  refine wpAny_bind (wpAny_newObj_type ?_ (by size_fits))
  refine wpAny_bind (m := firstArgMember _ _) (wpAny_of_eq (a := Value.none) (by first | rfl | (simp only [firstArgMember]; rfl)) ?_)
  refine wpAny_newObj_type ?_ (by size_fits)
  simp only [raiseNew]
  refine wpAny_bind (wpAny_handled ?_)
  rw [hA]
  refine wpAny_bind (wpAny_pure (wpAny_throw ?_))
  exact h _ _ (fun b o e => push_keep _ _ b o (push_keep _ _ b o e)) (.inr trivial) (iEA _ (Heap.get?_push_size _ rfl) rfl)
theorem next_text {slot i : Nat} {Q : Option (Value × Nat) → Shared → Prop} (ha : s.heap.get? a = some (setObj es ep t)) (hf : t.fits es.size = true) (bt : w.params.followText "set-order" = true)
    (h : Q (((pickOrder (w.params.setOrder a ep) es)[i]?).map fun e => (e.2, slot)) s) : wpAny (model prog w) A (setNext a slot i ep) Q E s := by
  unfold setNext
  refine wpAny_bind (wpAny_setState_of ha rfl hf (wpAny_bind (byText_ ?_)))
  dsimp only
  rw [bt]
  simp only [if_true, bne_self_eq_false, Bool.false_eq_true, if_false]
  refine wpAny_bind ?_
  unfold setWalk
  refine wpAny_bind (wpAny_setState_of ha rfl hf (wpAny_bind (byText_ ?_)))
  rw [bt]
  simp only [if_true]
  exact wpAny_bind (wpAny_askSetting (wpAny_pure (wpAny_pure h)))
theorem next_plain {slot i : Nat} {Q : Option (Value × Nat) → Shared → Prop} (ha : s.heap.get? a = some (setObj es ep t)) (hf : t.fits es.size = true) (bt : w.params.followText "set-order" = false) (dr : (!t.plain && decide (es.size > 1)) = false) (ld : t.led = true)
    (h : Q (match es[below t.place slot]?, t.place[below t.place slot]? with | some (_, x), some j => some (x, j + 1) | _, _ => none) s) : wpAny (model prog w) A (setNext a slot i ep) Q E s := by
  unfold setNext
  refine wpAny_bind (wpAny_setState_of ha rfl hf (wpAny_bind (byText_ ?_)))
  dsimp only
  rw [bt]
  simp only [Bool.false_eq_true, if_false]
  refine wpAny_ite_split (fun q => absurd (show (!t.plain && decide (es.size > 1)) = true from q) (by rw [dr]; exact Bool.false_ne_true)) (fun _ => ?_)
  refine wpAny_bind ?_
  show wpAny _ _ (if (!t.led && !es.isEmpty) = true then _ else _) _ _ _
  rw [if_neg (by rw [ld]; simp)]
  exact wpAny_pure (wpAny_pure h)
theorem nextDrawn_ {j : Nat} {Q : Value → Shared → Prop} (ha : s.heap.get? a = some (setObj es ep t)) (hf : t.fits es.size = true) (hj : j < es.size) (h : Q (es.getD j (0, .none)).2 s) : wpAny (model prog w) A (setNextDrawn a j ep) Q E s := by
  unfold setNextDrawn
  refine wpAny_bind (wpAny_setState_of ha rfl hf ?_)
  simp only [bne_self_eq_false, Bool.false_eq_true, if_false]
  have e : es[j]? = some (es.getD j (0, .none)) := by simp [Array.getD, hj]
  rw [e]
  exact wpAny_pure h
theorem si_item {Q : Option Value → Shared → Prop} (hf : t.fits es.size = true) (hr : Rise t.place) (hIa : I ≠ a) (hIF : I ≠ F) (x : SI w I a F es ep t out i s.heap) (hi : i < es.size)
    (hQ : ∀ v h', out[i]? = some v → SI w I a F es ep t out (i + 1) h' → (∀ b o, b ≠ I → s.heap.get? b = some o → h'.get? b = some o) → Q (some v) { s with heap := h' }) :
    wpAny (model prog w) A (pyNext (.ref I)) Q E s := by
  have hlen := x.len
  (refine xAEA x fun ha first hI h => ?_; clear x)
  have hT : s.TypeIs (.ref I) "set_iterator" := (iEA _ hI rfl)
  unfold pyNext
  refine wpAny_bind (wpAny_attempt (wpAny_callSpecial?_slot (name := Str.ofString "__next__") hT slot_si_next (wpAny_call_entry slot_si_next hT entry_si_next ?_ (args_si_next _))))
  unfold Builtin.«set_iterator.__next__»
  refine wpAny_bind (m := slotArgs "__next__" 0 _) (wpAny_pure ?_)
  dsimp only
  refine wpAny_bind (wpAny_fieldsOf hI rfl ?_)
  dsimp only [rawInt]
  refine wpAny_bind (entries_ ha hf ?_)
  rw [if_neg (by simp)]
  rcases h with ⟨bt, rfl, ho⟩ | ⟨π, n, rfl, hF, p, ho⟩ | ⟨bt, dr, ld, slot, rfl, hb, ho⟩
  · dsimp only [rawInt]
    refine wpAny_bind (next_text ha hf bt ?_)
    have hsz : (pickOrder (w.params.setOrder a ep) es).size = es.size := by have := (pick_perm (w.params.setOrder a ep) es).length_eq; simpa using this
    obtain ⟨v, e⟩ : ∃ v, (pickOrder (w.params.setOrder a ep) es)[i]? = some v := ⟨_, Array.getElem?_eq_getElem (by lia)⟩
    simp only [Int.toNat_natCast]
    rw [e]
    dsimp only [Option.map_some]
    refine wpAny_bind (wpAny_setField_rec hI (by simp) fun h1 g1 s1 => ?_)
    refine wpAny_bind (wpAny_setField_rec (s := { s with heap := h1 }) g1 (by simp) fun h2 g2 s2 => ?_)
    have kp : ∀ b o, b ≠ I → s.heap.get? b = some o → h2.get? b = some o := fun b o hb e => s2.extBut b o hb (s1.extBut b o hb e)
    refine wpAny_pure (iEA _ rfl (wpAny_pure (hQ _ h2 ?_ (iAEA (kp _ _ (Ne.symm hIa) ha) (rawInt 0) ?_ (.inl (iAA bt rfl ho))) kp)))
    · rw [ho, List.getElem?_map, Array.getElem?_toList, e]; rfl
    · simpa [rawInt, siObj] using g2
  · dsimp only
    refine wpAny_bind (wpAny_seqItems hF rfl ?_)
    dsimp only
    have hlp : π.length = es.size := by rw [p.length_eq, List.length_range]
    obtain ⟨j, ej⟩ : ∃ j, π[i]? = some j := ⟨_, List.getElem?_eq_getElem (by lia)⟩
    have hj : j < es.size := List.mem_range.mp (p.mem_iff.mp (List.mem_of_getElem? ej))
    have e : (π.map fun i => rawInt (i : Nat)).toArray[(i : Int).toNat]? = some (.int j 0) := by
      rw [Int.toNat_natCast, List.getElem?_toArray, List.getElem?_map, ej]; rfl
    rw [e]
    dsimp only
    simp only [Int.toNat_natCast]
    refine wpAny_bind (nextDrawn_ ha hf hj ?_)
    refine wpAny_bind (wpAny_setField_rec hI (by simp) fun h1 g1 s1 => ?_)
    have kp : ∀ b o, b ≠ I → s.heap.get? b = some o → h1.get? b = some o := fun b o hb e => s1.extBut b o hb e
    refine wpAny_pure (iEA _ rfl (wpAny_pure (hQ _ h1 ?_ (iAEA (kp _ _ (Ne.symm hIa) ha) (.ref F) ?_ (.inr (.inl (iEEAAA π n rfl (kp _ _ (Ne.symm hIF) hF) p ho)))) kp)))
    · rw [ho, List.getElem?_map, ej]; rfl
    · simpa [rawInt, siObj] using g1
  · dsimp only [rawInt]
    refine wpAny_bind (next_plain ha hf bt dr ld ?_)
    simp only [Int.toNat_natCast]
    rw [hb]
    have hps : t.place.size = es.size := by
      simp only [SetTable.fits, Bool.and_eq_true, beq_iff_eq, decide_eq_true_eq] at hf
      exact hf.1
    obtain ⟨v, e⟩ : ∃ v, es[i]? = some v := ⟨_, Array.getElem?_eq_getElem hi⟩
    obtain ⟨j, ej⟩ : ∃ j, t.place[i]? = some j := ⟨_, Array.getElem?_eq_getElem (by lia)⟩
    rw [e, ej]
    dsimp only
    refine wpAny_bind (wpAny_setField_rec hI (by simp) fun h1 g1 s1 => ?_)
    refine wpAny_bind (wpAny_setField_rec (s := { s with heap := h1 }) g1 (by simp) fun h2 g2 s2 => ?_)
    have kp : ∀ b o, b ≠ I → s.heap.get? b = some o → h2.get? b = some o := fun b o hb e => s2.extBut b o hb (s1.extBut b o hb e)
    refine wpAny_pure (iEA _ rfl (wpAny_pure (hQ _ h2 ?_ (iAEA (kp _ _ (Ne.symm hIa) ha) (rawInt (j + 1 : Nat)) ?_ (.inr (.inr (iAAAEAA bt dr ld (j + 1) rfl (below_succ hr hb ej) ho)))) kp)))
    · rw [ho, List.getElem?_map, Array.getElem?_toList, e]; rfl
    · simpa [rawInt, siObj] using g2
theorem si_done {Q : Option Value → Shared → Prop} (hA : A.handled = none) (hf : t.fits es.size = true) (hIa : I ≠ a) (x : SI w I a F es ep t out es.size s.heap)
    (hQ : ∀ h', (∀ b o, b ≠ I → s.heap.get? b = some o → h'.get? b = some o) → Q none { s with heap := h' }) :
    wpAny (model prog w) A (pyNext (.ref I)) Q E s := by
  (refine xAEA x fun ha first hI h => ?_; clear x)
  have hT : s.TypeIs (.ref I) "set_iterator" := (iEA _ hI rfl)
  unfold pyNext
  refine wpAny_bind (wpAny_attempt (wpAny_callSpecial?_slot (name := Str.ofString "__next__") hT slot_si_next (wpAny_call_entry slot_si_next hT entry_si_next ?_ (args_si_next _))))
  unfold Builtin.«set_iterator.__next__»
  refine wpAny_bind (m := slotArgs "__next__" 0 _) (wpAny_pure ?_)
  dsimp only
  refine wpAny_bind (wpAny_fieldsOf hI rfl ?_)
  dsimp only [rawInt]
  refine wpAny_bind (entries_ ha hf ?_)
  rw [if_neg (by simp)]
  have fin : ∀ (h1 : Heap), (∀ b o, b ≠ I → s.heap.get? b = some o → h1.get? b = some o) → ∀ h2 D, (∀ b o, h1.get? b = some o → h2.get? b = some o) → ({ s with heap := h2 } : Shared).TypeIs (.ref D) "StopIteration" →
      wpAny (model prog w) A (do if ← isInstance (.ref D) (.type "StopIteration") then pure none else throw (.ref D)) Q E { s with heap := h2 } := by
    intro h1 k1 h2 D k2 hT
    refine wpAny_bind (wpAny_isInstance (T := "StopIteration") (b := true) hT isSubtype_stop ?_)
    exact wpAny_pure (hQ _ fun b o hb e => k2 b o (k1 b o hb e))
  rcases h with ⟨bt, rfl, ho⟩ | ⟨π, n, rfl, hF, p, ho⟩ | ⟨bt, dr, ld, slot, rfl, hb, ho⟩
  · dsimp only [rawInt]
    refine wpAny_bind (next_text ha hf bt ?_)
    have hsz : (pickOrder (w.params.setOrder a ep) es).size = es.size := by have := (pick_perm (w.params.setOrder a ep) es).length_eq; simpa using this
    simp only [Int.toNat_natCast]
    rw [Array.getElem?_eq_none (by lia)]
    dsimp only [Option.map_none]
    refine wpAny_bind (wpAny_setField_rec hI (by simp) fun h1 g1 s1 => ?_)
    refine stop_ (s := { s with heap := h1 }) hA fun h2 D k2 _ hT => ?_
    exact fin h1 (fun b o hb e => s1.extBut b o hb e) h2 D k2 hT
  · dsimp only
    refine wpAny_bind (wpAny_seqItems hF rfl ?_)
    dsimp only
    have hlp : π.length = es.size := by rw [p.length_eq, List.length_range]
    have e : (π.map fun i => rawInt (i : Nat)).toArray[((es.size : Nat) : Int).toNat]? = none := by
      rw [Int.toNat_natCast, List.getElem?_toArray, List.getElem?_map, List.getElem?_eq_none (by lia)]; rfl
    rw [e]
    dsimp only
    refine wpAny_bind (wpAny_setField_rec hI (by simp) fun h1 g1 s1 => ?_)
    refine wpAny_bind (wpAny_setField_rec (s := { s with heap := h1 }) g1 (by simp) fun h2 g2 s2 => ?_)
    refine stop_ (s := { s with heap := h2 }) hA fun h3 D k3 _ hT => ?_
    exact fin h2 (fun b o hb e => s2.extBut b o hb (s1.extBut b o hb e)) h3 D k3 hT
  · dsimp only [rawInt]
    refine wpAny_bind (next_plain ha hf bt dr ld ?_)
    simp only [Int.toNat_natCast]
    rw [hb, Array.getElem?_eq_none (Nat.le_refl _)]
    dsimp only
    refine wpAny_bind (wpAny_setField_rec hI (by simp) fun h1 g1 s1 => ?_)
    refine stop_ (s := { s with heap := h1 }) hA fun h2 D k2 _ hT => ?_
    exact fin h1 (fun b o hb e => s1.extBut b o hb e) h2 D k2 hT
end
end Mine
end L2lx

noncomputable section L2mx
open PySem PySem.W PySem.Calls PyProof.Rows
set_option Elab.async false
set_option linter.unusedVariables false
set_option maxRecDepth 100000
namespace Mine
open SetTable

section
variable {prog : Program} {w : World} {A : Around} {E : Value → Shared → Prop} {s : Shared}
theorem hint_set {r : Addr} {Q : Bool → Shared → Prop} (hT : s.TypeIs (.ref r) "set") (h : Q false s) : wpAny (model prog w) A (Builtin.List.listLengthHint (.ref r)) Q E s := by
  unfold Builtin.List.listLengthHint
  refine wpAny_bind (wpAny_specialOf hT PySem.F.slot_set_len.lookup ?_)
  generalize hid : ("set.__len__" : String) = id0
  wp_delta
  rw [show splitId id0 = some ("set", "__len__") from by subst hid; decide +kernel]
  subst hid
  refine wpAny_bind (wpAny_isInstance (T := "set") (b := true) hT (by rw [isSubtype_type]; kernel_rfl) ?_)
  refine wpAny_ite_split (fun hab => absurd hab (by decide)) (fun _ => ?_)
  refine wpAny_ite_split (fun _ => ?_) (fun hab => absurd (by decide +kernel) hab)
  refine wpAny_bind (wpAny_typeOf hT ?_)
  exact wpAny_pure h
theorem si_walks {I a F : Addr} {es : Array (Int × Value)} {ep : Nat} {t : SetTable} {out : List Value} (hA : A.handled = none) (hf : t.fits es.size = true) (hr : Rise t.place) (hIa : I ≠ a) (hIF : I ≠ F) :
    Walks prog w A I [I, a, F] [I] es.size (fun i v => out[i]? = some v) (fun i h => SI w I a F es ep t out i h) where
  sub := fun b hb => by simp at hb; simp [hb]
  frame := fun i h h' st hk => by
    (refine xAEA st fun ha first hI x => ?_; clear st)
    refine (iAEA (hk a (by simp) _ ha) first (hk I (by simp) _ hI) ?_)
    rcases x with x | ⟨π, n, e, hF, r⟩ | x
    · exact .inl x
    · exact .inr (.inl (iEEAA π n e (hk F (by simp) _ hF) r))
    · exact .inr (.inr x)
  item := fun i s Q E hi st hQ => si_item (s := s) hf hr hIa hIF st hi fun v h' e st' kp => hQ v h' s.toks e st' fun b o hb e => kp b o (fun q => hb (by simp [q])) e
  done := fun s Q E st hQ => si_done (s := s) hA hf hIa st fun h' kp => hQ h' s.toks fun b o hb e => kp b o (fun q => hb (by simp [q])) e
  self := fun i s Q E st hQ => by
    (refine xAEA st fun ha first hI x => ?_; clear st)
    have hT : s.TypeIs (.ref I) "set_iterator" := (iEA _ hI rfl)
    refine wpAny_pyIter_slot hT slot_si_iter (wpAny_call_entry slot_si_iter hT entry_si_iter ?_ (args_si_iter _))
    show wpAny _ _ (ret (.ref I)) _ _ s
    exact wpAny_pure (iEAEEAA _ rfl ("set_iterator") _ hT slot_si_next.lookup hQ)
theorem set_iter {a : Addr} {es : Array (Int × Value)} {ep : Nat} {t : SetTable} {Q : Value → Shared → Prop} (ha : s.heap.get? a = some (setObj es ep t)) (hf : t.fits es.size = true) (hr : Rise t.place) (hl : t.led = !(w.params.followText "set-order"))
    (hz : es.size ≤ 1000) (hQ : ∀ I F out s', out.Perm (es.toList.map (·.2)) → Kp s s' → s.heap.get? I = none → I ≠ F → s.heap.get? F = none → SI w I a F es ep t out 0 s'.heap → Q (.ref I) s') :
    wpAny (model prog w) A (pyIter (.ref a)) Q E s := by
  have hT : s.TypeIs (.ref a) "set" := (iEA _ ha rfl)
  refine wpAny_pyIter_slot hT PySem.F.slot_set_iter (wpAny_call_entry PySem.F.slot_set_iter hT entry_set_iter ?_ (PySem.F.args_set_iter_1 _))
  unfold Builtin.«frozenset.__iter__»
  refine wpAny_bind (m := Builtin.Frozenset.slot0 "__iter__" _) (wpAny_pure ?_)
  refine wpAny_bind ?_
  unfold Builtin.Frozenset.sizeOf
  refine wpAny_bind (entries_ ha hf (wpAny_pure ?_))
  refine wpAny_bind ?_
  unfold setDrawn
  refine wpAny_bind (wpAny_setState_of ha rfl hf (wpAny_bind (byText_ ?_)))
  refine wpAny_pure ?_
  refine wpAny_ite_split (fun q => ?_) (fun q => ?_)
  · refine wpAny_bind (draw_ es.size (List.range es.size) (by simp) fun ys dr p => ?_)
    refine wpAny_bind (wpAny_newTuple ?_ (le1000 (by rw [List.length_map, p.length_eq]; simpa using hz)))
    have ha1 := push_keep s.heap (tupOf (ys.map fun i => rawInt (i : Nat)).toArray 0) _ _ ha
    refine wpAny_bind ?_
    unfold setEpoch
    refine wpAny_bind (wpAny_setState_of (s := { s with drawn := dr, heap := s.heap.push (tupOf (ys.map fun i => rawInt (i : Nat)).toArray 0) }) ha1 rfl hf (wpAny_pure ?_))
    refine wpAny_bind (wpAny_newObj_type ?_)
    refine wpAny_pure (iEAEEAA _ rfl ("set_iterator") _ ((iEA _ (Heap.get?_push_size _ rfl) rfl)) slot_si_next.lookup ?_)
    have hsz : (s.heap.push (tupOf (ys.map fun i => rawInt (i : Nat)).toArray 0)).objs.size = s.heap.objs.size + 1 := size_push' _ _
    refine hQ _ s.heap.objs.size (ys.map fun j => (es.getD j (0, .none)).2) _ ?_ ⟨fun b o e => push_keep _ _ b o (push_keep _ _ b o e), ⟨rfl, rfl⟩⟩ ?_ ?_ (sizeNone _) (iAEA (push_keep _ _ _ _ ha1) _ (Heap.get?_push_size _ rfl) (.inr (.inl (iEEAAA ys 0 rfl (push_keep _ _ _ _ (Heap.get?_push_size _ rfl)) p rfl))))
    · refine (p.map _).trans (.of_eq ?_)
      apply List.ext_getElem?
      intro i
      by_cases hi : i < es.size
      · simp [hi, List.getElem?_range]
      · simp [hi]
    · show s.heap.get? (s.heap.push _).objs.size = none
      rw [hsz]
      exact Heap.get?_none_of_le (Nat.le_succ _)
    · show (s.heap.push _).objs.size ≠ _
      rw [hsz]
      exact Nat.succ_ne_self _
  · refine wpAny_bind (wpAny_pure ?_)
    refine wpAny_bind ?_
    unfold setEpoch
    refine wpAny_bind (wpAny_setState_of ha rfl hf (wpAny_pure ?_))
    refine wpAny_bind (wpAny_newObj_type ?_)
    refine wpAny_pure (iEAEEAA _ rfl ("set_iterator") _ ((iEA _ (Heap.get?_push_size _ rfl) rfl)) slot_si_next.lookup ?_)
    have ha1 := push_keep s.heap (siObj (rawInt 0) 0 a es.size ep) _ _ ha
    have fin : ∀ out, out.Perm (es.toList.map (·.2)) → (SI w s.heap.objs.size a (s.heap.objs.size + 1) es ep t out 0 (s.heap.push (siObj (rawInt 0) 0 a es.size ep))) → Q (.ref s.heap.objs.size) { s with heap := s.heap.push (siObj (rawInt 0) 0 a es.size ep) } := fun out p x =>
      hQ _ (s.heap.objs.size + 1) out _ p Kp.push (sizeNone _) (Nat.ne_of_lt (Nat.lt_succ_self _)) (Heap.get?_none_of_le (Nat.le_succ _)) x
    cases hbt : w.params.followText "set-order" with
    | true => exact fin _ ((pick_perm (w.params.setOrder a ep) es).map _) (iAEA ha1 _ (Heap.get?_push_size _ rfl) (.inl (iAA hbt rfl rfl)))
    | false =>
      refine fin _ (.refl _) (iAEA ha1 _ (Heap.get?_push_size _ rfl) (.inr (.inr (iAAAEAA hbt ?_ (by rw [hl, hbt]; rfl) 0 rfl (below_zero hr) rfl))))
      have q' : ¬ ((!(w.params.followText "set-order") && (!t.plain && decide (es.size > 1))) = true) := q
      rw [hbt, Bool.not_false, Bool.true_and] at q'
      exact Bool.not_eq_true _ |>.mp q'
end

section
variable {prog : Program} {w : World} {h₀ : Heap} {d : Nat} {H : MH} {Q : MV → MH → Prop}
theorem Coll.set {l : List PyData} {P : List PyData → Prop} (hl : l.length ≤ 1000) (p : ∀ l' : List PyData, l'.Perm l → P l') : Coll prog w h₀ d (.set l) H P := by
  intro A s W x ao R r
  rw [VR] at r
  (refine xEEEEEAAAAAAAA r fun a es ep t l' ee1 fa ga h1 h2 h3 h4 hp z => ?_; clear r; subst ee1)
  have hT : s.TypeIs (.ref a) "set" := (iEA _ ga rfl)
  have hf : t.fits es.size = true := by simp [SetTable.fits, h1, h2]
  have hz : es.size ≤ 1000 := by have := z.length; have := hp.length_eq; simp at *; lia
  refine collect_walk (T := "set") (Post := fun n P => ∃ out : List Value, out.Perm (es.toList.map (·.2)) ∧ n = out.length ∧ ∀ i v, P i v → out[i]? = some v) hT (by decide) (by decide) (fun s1 k1 => ?_) (fun s1 Q k1 q => hint_set (iEA _ (k1.1 _ _ ga) rfl) q) fun s' acc n P' k hpost hacc => ?_
  · have ga1 := k1.1 _ _ ga
    refine set_iter ga1 hf h4 h3 hz fun I F out s' po kp hI hIF hF x => (iEA I rfl ⟨_, _, _, _, _, si_walks (ao.handled) hf h4 (fun q => by rw [q, ga1] at hI; cases hI) hIF, x, kp, ?_, ?_, hz, out, po, x.len (s := s') |>.symm, fun i v e => e⟩)
    · intro b hb
      simp at hb
      rcases hb with rfl | rfl | rfl
      · exact .inr hI
      · exact .inl rfl
      · exact .inr hF
    · intro b hb
      simp at hb; subst hb; exact hI
  · (refine xEAA hpost fun out po ee2 hP => ?_; clear hpost; subst ee2)
    have e : acc.toList = out := by
      apply List.ext_getElem?
      intro i
      by_cases hi : i < acc.size
      · obtain ⟨v, ev⟩ : ∃ v, acc[i]? = some v := ⟨_, Array.getElem?_eq_getElem hi⟩
        rw [Array.getElem?_toList, ev, hP i v (hacc.2 i v ev)]
      · have := hacc.1
        rw [List.getElem?_eq_none (by simp; lia), List.getElem?_eq_none (by lia)]
    rw [e]
    refine xEA (fz_perm po z) fun ds' p' z' => ?_
    exact (iAEA k ds' (p _ (p'.trans hp)) z')
end
end Mine
end L2mx

noncomputable section L2nx
open PySem PySem.W PySem.Calls PyProof.Rows
set_option Elab.async false
set_option linter.unusedVariables false
set_option maxRecDepth 100000
namespace Mine

/-! comprehensions that leave all as it was -/
section
variable {prog : Program} {w : World} {h₀ : Heap} {d : Nat} {sc : Scope} {ρ : List (Str × MV)} {H : MH} {elt : Expr} {gens : List Comprehension} {scope : Scope} {pos : Pos} {i : Nat}
theorem Ifs.mono {ρ : List (Str × MV)} {es : List Expr} {Q Q' : Bool → MH → Prop} (x : Ifs prog w h₀ d sc ρ es H Q) (k : ∀ b H', Q b H' → Q' b H') : Ifs prog w h₀ d sc ρ es H Q' :=
  fun A env s W a F R => wpAny_mono (x A env s W a F R) (fun _ _ o => o.mono fun _ _ q => k _ _ q) fun _ _ e => e
variable (prog w h₀ d sc elt gens scope pos)
noncomputable def EmP (i : Nat) (ρ : List (Str × MV)) (H : MH) (out : List PyData) : Prop :=
  ∀ (ds : List PyData) (Q : MH → List PyData → Prop), ds.length + out.length ≤ 1000 → Q H (ds ++ out) → Em prog w h₀ d sc elt gens scope pos i ρ H ds Q
noncomputable def LpP (i : Nat) (items : List MV) (ρ : List (Str × MV)) (H : MH) (out : List PyData) : Prop :=
  ∀ (ds : List PyData) (Q : MH → List PyData → Prop), ds.length + out.length ≤ 1000 → Q H (ds ++ out) → Lp prog w h₀ d sc elt gens scope pos i items ρ H ds Q
variable {prog w h₀ d sc elt gens scope pos}
theorem EmP.last {x : PyData} (h : E prog w h₀ d sc ρ elt H fun v H' => v = .d x ∧ H' = H) (hg : gens[i + 1]? = none := by exact nn) : EmP prog w h₀ d sc elt gens scope pos i ρ H [x] :=
  fun ds Q hl q => Em.last (h.mono fun v H' zz11 => xA zz11 fun e e' => (iEAA x e (by simp at hl; lia) (by rw [e']; exact q))) hg
theorem EmP.more {target iter : Expr} {ifs : List Expr} {out : List PyData}
    (h : E prog w h₀ d sc ρ iter H fun v H' => H' = H ∧ ∃ items, Iter prog w h₀ d v items H ∧ LpP prog w h₀ d sc elt gens scope pos (i + 1) items ρ H out) (hg : gens[i + 1]? = some ⟨target, iter, ifs, 0⟩ := by rfl)
    (hs : ∀ env x, foldedSetIterable iter env x = pure x := by intro _ _; rfl) : EmP prog w h₀ d sc elt gens scope pos i ρ H out :=
  fun ds Q hl q => Em.more (h.mono fun v H' zz12 => xAEA zz12 fun e items it lp => by subst e; exact (iEA items it (lp ds Q hl q))) hg hs
noncomputable def gat (p : MV → Bool) (o : MV → List PyData) (items : List MV) : List PyData := items.flatMap fun m => if p m then o m else []
theorem LpP.mk {x : Str} {px : Pos} {iter : Expr} {ifs : List Expr} {items : List MV} (p : MV → Bool) (o : MV → List PyData) (hg : gens[i]? = some ⟨.Name x px, iter, ifs, 0⟩)
    (t : ∀ m ∈ items, Ifs prog w h₀ d sc ((x, m) :: ρ) ifs H fun b H' => b = p m ∧ H' = H) (em : ∀ m ∈ items, p m = true → EmP prog w h₀ d sc elt gens scope pos i ((x, m) :: ρ) H (o m))
    (hx : ρ.lookup x = none := by exact nn) (hk : sc.names.lookup x = some .local := by exact tl) : LpP prog w h₀ d sc elt gens scope pos i items ρ H (gat p o items) := by
  intro ds Q hl q
  have split : ∀ j, gat p o items = gat p o (items.take j) ++ gat p o (items.drop j) := fun j => by
    unfold gat
    rw [← List.flatMap_append, List.take_append_drop]
  refine Lp.loop (target := .Name x px) (fun j H' ds' => H' = H ∧ ds' = ds ++ gat p o (items.take j)) hg ?_ ⟨rfl, by simp [gat]⟩ ?_ hx hk
  · (intro j m H' ds' hj yy6; (refine xA yy6 fun ee1 ee2 => ?_; clear yy6; subst ee1; subst ee2))
    have hm := List.mem_of_getElem? hj
    have hs : gat p o (items.take (j + 1)) = gat p o (items.take j) ++ (if p m then o m else []) := by
      unfold gat
      rw [List.take_add_one, hj, List.flatMap_append]
      show _ ++ List.flatMap _ [m] = _
      rw [List.flatMap_singleton]
    refine (t m hm).mono fun b H' zz13 => xA zz13 fun e1 e2 => ⟨fun hb => ?_, fun hb => ?_⟩
    · have : p m = false := by rw [← e1]; exact hb
      subst e2
      refine ⟨rfl, ?_⟩
      rw [hs, this]; simp
    · have hp : p m = true := by rw [← e1]; exact hb
      subst e2
      have hs' := hs
      rw [hp] at hs'
      simp only [if_true] at hs'
      refine em m hm hp _ _ ?_ ⟨rfl, by rw [hs', List.append_assoc]⟩
      have h1 := congrArg List.length (split (j + 1))
      rw [hs'] at h1
      simp only [List.length_append] at h1 ⊢
      lia
  · (intro H' ds' yy9; (refine xA yy9 fun ee3 ee4 => ?_; clear yy9; subst ee3; subst ee4))
    rw [List.take_length]
    exact q
theorem LpP.use {items : List MV} {out : List PyData} {Q : MH → List PyData → Prop} (h : LpP prog w h₀ d sc elt gens scope pos i items ρ H out) (hl : out.length ≤ 1000) (q : Q H out) : Lp prog w h₀ d sc elt gens scope pos i items ρ H [] Q :=
  h [] Q (by simpa using hl) q
theorem LpP.congr {items : List MV} {out out' : List PyData} (h : LpP prog w h₀ d sc elt gens scope pos i items ρ H out) (e : out = out') : LpP prog w h₀ d sc elt gens scope pos i items ρ H out' := e ▸ h
noncomputable def un (f : PyData → α) (z : α) : MV → α
  | .d x => f x
  | _ => z
noncomputable def unI (f : Int → α) (z : α) : MV → α
  | .d (.int x) => f x
  | _ => z
theorem flat_filter {α β : Type} (p : α → Bool) (f : α → β) : ∀ l : List α, (l.flatMap fun m => if p m then [f m] else []) = (l.filter p).map f
  | [] => rfl
  | x :: l => by
    rw [List.flatMap_cons, flat_filter p f l, List.filter_cons]
    split <;> simp
/-- over data -/
theorem LpP.mkD {x : Str} {px : Pos} {iter : Expr} {ifs : List Expr} {xs : List PyData} (p : PyData → Bool) (o : PyData → List PyData) (hg : gens[i]? = some ⟨.Name x px, iter, ifs, 0⟩)
    (t : ∀ m ∈ xs, Ifs prog w h₀ d sc ((x, .d m) :: ρ) ifs H fun b H' => b = p m ∧ H' = H) (em : ∀ m ∈ xs, p m = true → EmP prog w h₀ d sc elt gens scope pos i ((x, .d m) :: ρ) H (o m))
    (hx : ρ.lookup x = none := by exact nn) (hk : sc.names.lookup x = some .local := by exact tl) : LpP prog w h₀ d sc elt gens scope pos i (xs.map .d) ρ H (xs.flatMap fun m => if p m then o m else []) := by
  refine (LpP.mk (un p false) (un o []) hg (fun m hm => ?_) (fun m hm hp => ?_) hx hk).congr ?_
  · (refine xEA (List.mem_map.mp hm) fun y my ee5 => ?_; subst ee5)
    exact t y my
  · (refine xEA (List.mem_map.mp hm) fun y my ee6 => ?_; subst ee6)
    exact em y my hp
  · unfold gat
    rw [List.flatMap_map]
    rfl
/-- over ints -/
theorem LpP.mkI {x : Str} {px : Pos} {iter : Expr} {ifs : List Expr} {ns : List Int} (p : Int → Bool) (o : Int → List PyData) (hg : gens[i]? = some ⟨.Name x px, iter, ifs, 0⟩)
    (t : ∀ m ∈ ns, Ifs prog w h₀ d sc ((x, .d (.int m)) :: ρ) ifs H fun b H' => b = p m ∧ H' = H) (em : ∀ m ∈ ns, p m = true → EmP prog w h₀ d sc elt gens scope pos i ((x, .d (.int m)) :: ρ) H (o m))
    (hx : ρ.lookup x = none := by exact nn) (hk : sc.names.lookup x = some .local := by exact tl) : LpP prog w h₀ d sc elt gens scope pos i ((ns.map .int).map .d) ρ H (ns.flatMap fun m => if p m then o m else []) := by
  refine (LpP.mk (unI p false) (unI o []) hg (fun m hm => ?_) (fun m hm hp => ?_) hx hk).congr ?_
  · rw [List.map_map] at hm
    (refine xEA (List.mem_map.mp hm) fun y my ee7 => ?_; subst ee7)
    exact t y my
  · rw [List.map_map] at hm
    (refine xEA (List.mem_map.mp hm) fun y my ee8 => ?_; subst ee8)
    exact em y my hp
  · unfold gat
    rw [List.map_map, List.flatMap_map]
    rfl
/-- over the numbers up to one -/
theorem LpP.mkR {x : Str} {px : Pos} {iter : Expr} {ifs : List Expr} {n : Nat} (p : Nat → Bool) (o : Nat → List PyData) (hg : gens[i]? = some ⟨.Name x px, iter, ifs, 0⟩)
    (t : ∀ m, m < n → Ifs prog w h₀ d sc ((x, .d (.int (m : Int))) :: ρ) ifs H fun b H' => b = p m ∧ H' = H) (em : ∀ m, m < n → p m = true → EmP prog w h₀ d sc elt gens scope pos i ((x, .d (.int (m : Int))) :: ρ) H (o m))
    (hx : ρ.lookup x = none := by exact nn) (hk : sc.names.lookup x = some .local := by exact tl) : LpP prog w h₀ d sc elt gens scope pos i ((List.range n).map fun (i : Nat) => MV.d (.int (i : Int))) ρ H ((List.range n).flatMap fun m => if p m then o m else []) := by
  refine (LpP.mk (unI (fun k => p k.toNat) false) (unI (fun k => o k.toNat) []) hg (fun m hm => ?_) (fun m hm hp => ?_) hx hk).congr ?_
  · (refine xEA (List.mem_map.mp hm) fun y my ee9 => ?_; subst ee9)
    exact t y (List.mem_range.mp my)
  · (refine xEA (List.mem_map.mp hm) fun y my ee10 => ?_; subst ee10)
    exact em y (List.mem_range.mp my) hp
  · unfold gat
    rw [List.flatMap_map]
    rfl
theorem LpP.selD {x : Str} {px : Pos} {iter : Expr} {ifs : List Expr} {xs : List PyData} (p : PyData → Bool) (f : PyData → PyData) (hg : gens[i]? = some ⟨.Name x px, iter, ifs, 0⟩)
    (t : ∀ m ∈ xs, Ifs prog w h₀ d sc ((x, .d m) :: ρ) ifs H fun b H' => b = p m ∧ H' = H) (em : ∀ m ∈ xs, p m = true → E prog w h₀ d sc ((x, .d m) :: ρ) elt H fun v H' => v = .d (f m) ∧ H' = H)
    (hg2 : gens[i + 1]? = none := by exact nn) (hx : ρ.lookup x = none := by exact nn) (hk : sc.names.lookup x = some .local := by exact tl) : LpP prog w h₀ d sc elt gens scope pos i (xs.map .d) ρ H ((xs.filter p).map f) :=
  (LpP.mkD p (fun m => [f m]) hg t (fun m hm hp => EmP.last (em m hm hp) hg2) hx hk).congr (flat_filter p f _)
theorem LpP.selI {x : Str} {px : Pos} {iter : Expr} {ifs : List Expr} {ns : List Int} (p : Int → Bool) (f : Int → PyData) (hg : gens[i]? = some ⟨.Name x px, iter, ifs, 0⟩)
    (t : ∀ m ∈ ns, Ifs prog w h₀ d sc ((x, .d (.int m)) :: ρ) ifs H fun b H' => b = p m ∧ H' = H) (em : ∀ m ∈ ns, p m = true → E prog w h₀ d sc ((x, .d (.int m)) :: ρ) elt H fun v H' => v = .d (f m) ∧ H' = H)
    (hg2 : gens[i + 1]? = none := by exact nn) (hx : ρ.lookup x = none := by exact nn) (hk : sc.names.lookup x = some .local := by exact tl) : LpP prog w h₀ d sc elt gens scope pos i ((ns.map .int).map .d) ρ H ((ns.filter p).map f) :=
  (LpP.mkI p (fun m => [f m]) hg t (fun m hm hp => EmP.last (em m hm hp) hg2) hx hk).congr (flat_filter p f _)
theorem LpP.selR {x : Str} {px : Pos} {iter : Expr} {ifs : List Expr} {n : Nat} (p : Nat → Bool) (f : Nat → PyData) (hg : gens[i]? = some ⟨.Name x px, iter, ifs, 0⟩)
    (t : ∀ m, m < n → Ifs prog w h₀ d sc ((x, .d (.int (m : Int))) :: ρ) ifs H fun b H' => b = p m ∧ H' = H) (em : ∀ m, m < n → p m = true → E prog w h₀ d sc ((x, .d (.int (m : Int))) :: ρ) elt H fun v H' => v = .d (f m) ∧ H' = H)
    (hg2 : gens[i + 1]? = none := by exact nn) (hx : ρ.lookup x = none := by exact nn) (hk : sc.names.lookup x = some .local := by exact tl) : LpP prog w h₀ d sc elt gens scope pos i ((List.range n).map fun (i : Nat) => MV.d (.int (i : Int))) ρ H (((List.range n).filter p).map f) :=
  (LpP.mkR p (fun m => [f m]) hg t (fun m hm hp => EmP.last (em m hm hp) hg2) hx hk).congr (flat_filter p f _)
end

section
variable {prog : Program} {w : World} {h₀ : Heap} {d : Nat} {sc : Scope} {ρ : List (Str × MV)} {H : MH} {Q : MV → MH → Prop} {pos : Pos} {K : Frag} {mg mb : Str → Option Value}
theorem ints_fz' {F : Addr → Prop} {h : Heap} : ∀ {vs : List Value} {ns : List Int}, IntsAre vs ns → FzA F h (ns.map .int) vs := ints_fz
/-- a tuple of ints that the module names -/
theorem E.globT {x : Str} {a : Addr} {its : Array Value} {n : Nat} {ns : List Int} (G : Gnd h₀ K mg mb) (e : nsIn K mainGlobals x = some (some (.ref a))) (hk : K.lookup a = some (tupOf its n)) (hi : IntsAre its.toList ns)
    (q : Q (.d (.tuple (ns.map .int))) H) (hk2 : sc.names.lookup x = some .globalImplicit := by rfl) (hd : (x == ("__debug__" : Str)) = false := by exact ff) : E prog w h₀ d sc ρ (.Name x pos) H Q := by
  intro A env s W a' F R
  have hl : env.kindOf x = some .globalImplicit := by unfold Env.kindOf; rw [F.scope]; exact hk2
  have g0 := G.kin a _ hk
  refine Name_function_global (F.scope ▸ F.kind) hl (loadGlobal_global (mg := mg) (by rw [F.glob]; exact G.g.keeps R.base) (mg_of G.kin G.g e) (.same R F (iEA _ q ?_))) hd
  exact vr_tuple (vs := its.toList) (e := n) (R.old _ _ g0) (by rw [Array.toArray_toList]; exact R.base _ _ g0) (ints_fz hi)
end
end Mine
end L2nx

noncomputable section L2ox
open PySem PySem.W PySem.Calls PyProof.Rows
set_option Elab.async false
set_option linter.unusedVariables false
set_option maxRecDepth 100000
namespace Mine

/-! data without bools and dicts: alike is equal -/
mutual
noncomputable def plainD : PyData → Bool
  | .none | .int _ | .str _ => true
  | .bool _ | .dict _ => false
  | .list xs | .tuple xs => plainA xs
noncomputable def plainA : List PyData → Bool
  | [] => true
  | x :: xs => plainD x && plainA xs
end
mutual
theorem eqv_iff : ∀ {x y : PyData}, plainD x = true → plainD y = true → (PyData.eqv x y = true ↔ x = y)
  | .none, y, _, hy => by cases y <;> simp_all [plainD, PyData.eqv]
  | .int i, y, _, hy => by cases y <;> simp_all [plainD, PyData.eqv]
  | .str i, y, _, hy => by cases y <;> simp_all [plainD, PyData.eqv]
  | .bool _, _, h, _ => by simp [plainD] at h
  | .dict _, _, h, _ => by simp [plainD] at h
  | .list xs, y, hx, hy => by
    cases y with
    | list ys =>
      rw [plainD] at hx hy
      rw [PyData.eqv, eqvA_iff hx hy]
      simp
    | _ => simp_all [plainD, PyData.eqv]
  | .tuple xs, y, hx, hy => by
    cases y with
    | tuple ys =>
      rw [plainD] at hx hy
      rw [PyData.eqv, eqvA_iff hx hy]
      simp
    | _ => simp_all [plainD, PyData.eqv]
theorem eqvA_iff : ∀ {xs ys : List PyData}, plainA xs = true → plainA ys = true → (PyData.eqvAll xs ys = true ↔ xs = ys)
  | [], [], _, _ => by simp [PyData.eqvAll]
  | [], _ :: _, _, _ => by simp [PyData.eqvAll]
  | _ :: _, [], _, _ => by simp [PyData.eqvAll]
  | x :: xs, y :: ys, hx, hy => by
    rw [plainA, Bool.and_eq_true] at hx hy
    rw [PyData.eqvAll, Bool.and_eq_true, eqv_iff hx.1 hy.1, eqvA_iff hx.2 hy.2]
    simp
end
theorem plainA_ints {ns : List Int} : plainA (ns.map .int) = true := by
  induction ns with
  | nil => rfl
  | cons n ns ih => rw [List.map_cons, plainA, ih]; rfl
theorem plainA_of {xs : List PyData} (h : ∀ x ∈ xs, plainD x = true) : plainA xs = true := by
  induction xs with
  | nil => rfl
  | cons x xs ih => rw [plainA, h x (.head _), ih fun y m => h y (.tail _ m)]; rfl

/-- of so many floors at most -/
noncomputable def shk (k : Nat) (d : PyData) : Prop := d.canLay0 = true ∧ d.depth ≤ k
theorem shk_int {k : Nat} {i : Int} : shk k (.int i) := ⟨rfl, Nat.zero_le _⟩
theorem shk_str {k : Nat} {x : Str} (h : PyData.canLay0 (.str x) = true) : shk k (.str x) := ⟨h, Nat.zero_le _⟩
theorem shk_none {k : Nat} : shk k .none := ⟨rfl, Nat.zero_le _⟩
theorem shk_all {k : Nat} : ∀ {xs : List PyData}, (∀ x ∈ xs, shk k x) → PyData.canLayAll0 xs = true ∧ PyData.depthAll xs ≤ k
  | [], _ => ⟨rfl, Nat.zero_le _⟩
  | x :: xs, h => by
    refine xA (shk_all fun y m => h y (.tail _ m)) fun a b => ?_
    refine xA (h x (.head _)) fun c e => ?_
    refine ⟨by rw [PyData.canLayAll0, a, c]; rfl, ?_⟩
    rw [PyData.depthAll]
    exact Nat.max_le.mpr ⟨e, b⟩
theorem shk_list {k : Nat} {xs : List PyData} (h : ∀ x ∈ xs, shk k x) : shk (k + 1) (.list xs) := by
  refine xA (shk_all h) fun a b => ?_
  exact ⟨by rw [PyData.canLay0]; exact a, by rw [PyData.depth]; lia⟩
theorem shk_tuple {k : Nat} {xs : List PyData} (h : ∀ x ∈ xs, shk k x) : shk (k + 1) (.tuple xs) := by
  refine xA (shk_all h) fun a b => ?_
  exact ⟨by rw [PyData.canLay0]; exact a, by rw [PyData.depth]; lia⟩
theorem shk_ints {k : Nat} {ns : List Int} : ∀ x ∈ ns.map PyData.int, shk k x := by
  intro x m
  (refine xEA (List.mem_map.mp m) fun n _ ee1 => ?_; subst ee1)
  exact shk_int
theorem shk_up {k k' : Nat} {d : PyData} (h : shk k d) (l : k ≤ k') : shk k' d := ⟨h.1, Nat.le_trans h.2 l⟩
theorem shd {k : Nat} {d : PyData} (h : shk k d) (l : k ≤ 64 := by decide) : SeqAt.shaped d = true := by
  unfold SeqAt.shaped
  rw [h.1, Bool.true_and, decide_eq_true_eq]
  exact Nat.le_trans h.2 l
end Mine
end L2ox

namespace Mine

noncomputable section L3e0x
open PySem PySem.W PySem.Calls PyProof.Rows
set_option Elab.async false
set_option linter.unusedVariables false
set_option maxRecDepth 100000
seal PySem.compareOp PySem.binaryOp PySem.unaryOp E T Ts Es C Op1 Op2 S Ss As Ifs Lp Em Op3 Iter GM Unp
theorem filter_le {p : α → Bool} {l : List α} {n : Nat} (h : l.length ≤ n) : (l.filter p).length ≤ n := Nat.le_trans (List.length_filter_le _ _) h
section
variable {prog : Program} {w : World} {h₀ : Heap} {K : Frag} {mg mb : Str → Option Value} {d : Nat} {sc : Scope} {ρ : List (Str × MV)} {H : MH} {Q : MV → MH → Prop} {pos : Pos}
theorem E.methS {x name : Str} {px apos : Pos} {args : List Expr} {l : Loc} {C f : Addr} {at_ : List (Str × MV)} (G : Gnd h₀ K mg mb) (hv : ρ.lookup x = some (.loc l)) (hg : H.get l = some (.inst C at_)) (hc : Cls K C) (hm : Meth K C name f) (ha : at_.lookup name = none)
    (h : Es prog w h₀ d sc ρ args H (methVK prog w h₀ d (.ref f) (.loc l) Q))
    (hk : (sc.names.lookup x == some .local || sc.names.lookup x == some .cell || sc.names.lookup x == some .free) = true := by exact tt)
    (hd : (x == ("__debug__" : Str)) = false := by exact ff) (hcd : (x == ("__classdict__" : Str)) = false := by exact ff)
    (ho : methOk apos pos args = true := by exact tt) : E prog w h₀ d sc ρ (.Call (.Attribute (.Name x px) name apos) args [] pos) H Q :=
  E.meth G (E.name hv (iEEEEAAAAA l C at_ f rfl hg hc hm ha h) hk hd hcd) rfl ho
theorem E.methA {x nm name : Str} {px p1 apos : Pos} {args : List Expr} {l0 l : Loc} {C0 C f : Addr} {at0 at_ : List (Str × MV)} (G : Gnd h₀ K mg mb) (hv : ρ.lookup x = some (.loc l0)) (hg0 : H.get l0 = some (.inst C0 at0)) (hc0 : Cls K C0)
    (hf0 : findIn K (.ref C0) nm = some none) (ha0 : at0.lookup nm = some (.loc l)) (hg : H.get l = some (.inst C at_)) (hc : Cls K C) (hm : Meth K C name f) (ha : at_.lookup name = none)
    (h : Es prog w h₀ d sc ρ args H (methVK prog w h₀ d (.ref f) (.loc l) Q))
    (hk : (sc.names.lookup x == some .local || sc.names.lookup x == some .cell || sc.names.lookup x == some .free) = true := by exact tt)
    (hd : (x == ("__debug__" : Str)) = false := by exact ff) (hcd : (x == ("__classdict__" : Str)) = false := by exact ff)
    (ho : methOk apos pos args = true := by exact tt) : E prog w h₀ d sc ρ (.Call (.Attribute (.Attribute (.Name x px) nm p1) name apos) args [] pos) H Q :=
  E.meth G (E.attr G (E.name hv (iEEEEAAAAAAEEEEAAAAA l0 C0 at0 (.loc l) rfl hg0 hc0 hf0 ha0 rfl l C at_ f rfl hg hc hm ha h) hk hd hcd)) rfl ho
theorem E.attrS {x name : Str} {px : Pos} {l : Loc} {C : Addr} {u : MV} {at_ : List (Str × MV)} (G : Gnd h₀ K mg mb) (hv : ρ.lookup x = some (.loc l)) (hg : H.get l = some (.inst C at_)) (hc : Cls K C) (hf : findIn K (.ref C) name = some none) (ha : at_.lookup name = some u)
    (hn : notVal u = true) (h : Q u H)
    (hk : (sc.names.lookup x == some .local || sc.names.lookup x == some .cell || sc.names.lookup x == some .free) = true := by exact tt)
    (hd : (x == ("__debug__" : Str)) = false := by exact ff) (hcd : (x == ("__classdict__" : Str)) = false := by exact ff)
    : E prog w h₀ d sc ρ (.Attribute (.Name x px) name pos) H Q :=
  E.attr G (E.name hv (iEEEEAAAAAA l C at_ u rfl hg hc hf ha hn h) hk hd hcd)
theorem C.lenL' {xs : List PyData} {n : Nat} (e : xs.length = n) (hl : n ≤ 1000) (q : Q (.d (.int n)) H) : C prog w h₀ d (.builtin "len") [.d (.list xs)] H Q := by
  subst e
  exact C.lenL hl q
theorem C.lenT' {xs : List PyData} {n : Nat} (e : xs.length = n) (hl : n ≤ 1000) (q : Q (.d (.int n)) H) : C prog w h₀ d (.builtin "len") [.d (.tuple xs)] H Q := by
  subst e
  exact C.lenT hl q
theorem C.lenN' {l : Loc} {vs : List MV} {n : Nat} (hg : H.get l = some (.list vs)) (e : vs.length = n) (hl : n ≤ 1000) (q : Q (.d (.int n)) H) : C prog w h₀ d (.builtin "len") [.loc l] H Q := by
  subst e
  exact C.lenN hg hl q
theorem flat_true {α β : Type} (o : α → List β) (l : List α) : (l.flatMap fun m => if true = true then o m else []) = l.flatMap o := rfl
theorem LpP.allI {elt : Expr} {gens : List Comprehension} {scope : Scope} {i : Nat} {x : Str} {px : Pos} {iter : Expr} {ns : List Int} (o : Int → List PyData) (hg : gens[i]? = some ⟨.Name x px, iter, [], 0⟩)
    (em : ∀ m ∈ ns, EmP prog w h₀ d sc elt gens scope pos i ((x, .d (.int m)) :: ρ) H (o m))
    (hx : ρ.lookup x = none := by exact nn) (hk : sc.names.lookup x = some .local := by exact tl) : LpP prog w h₀ d sc elt gens scope pos i ((ns.map .int).map .d) ρ H (ns.flatMap o) :=
  (LpP.mkI (fun _ => true) o hg (fun _ _ => Ifs.nil ⟨rfl, rfl⟩) (fun m hm _ => em m hm) hx hk).congr (flat_true _ _)
theorem LpP.eachI {elt : Expr} {gens : List Comprehension} {scope : Scope} {i : Nat} {x : Str} {px : Pos} {iter : Expr} {ns : List Int} (f : Int → PyData) (hg : gens[i]? = some ⟨.Name x px, iter, [], 0⟩)
    (em : ∀ m ∈ ns, E prog w h₀ d sc ((x, .d (.int m)) :: ρ) elt H fun v H' => v = .d (f m) ∧ H' = H)
    (hg2 : gens[i + 1]? = none := by exact nn) (hx : ρ.lookup x = none := by exact nn) (hk : sc.names.lookup x = some .local := by exact tl) : LpP prog w h₀ d sc elt gens scope pos i ((ns.map .int).map .d) ρ H (ns.map f) :=
  (LpP.selI (fun _ => true) f hg (fun _ _ => Ifs.nil ⟨rfl, rfl⟩) (fun m hm _ => em m hm) hg2 hx hk).congr (by rw [show ns.filter (fun _ => true) = ns by simp])
theorem LpP.eachD {elt : Expr} {gens : List Comprehension} {scope : Scope} {i : Nat} {x : Str} {px : Pos} {iter : Expr} {xs : List PyData} (f : PyData → PyData) (hg : gens[i]? = some ⟨.Name x px, iter, [], 0⟩)
    (em : ∀ m ∈ xs, E prog w h₀ d sc ((x, .d m) :: ρ) elt H fun v H' => v = .d (f m) ∧ H' = H)
    (hg2 : gens[i + 1]? = none := by exact nn) (hx : ρ.lookup x = none := by exact nn) (hk : sc.names.lookup x = some .local := by exact tl) : LpP prog w h₀ d sc elt gens scope pos i (xs.map .d) ρ H (xs.map f) :=
  (LpP.selD (fun _ => true) f hg (fun _ _ => Ifs.nil ⟨rfl, rfl⟩) (fun m hm _ => em m hm) hg2 hx hk).congr (by rw [show xs.filter (fun _ => true) = xs by simp])
theorem LpP.eachR {elt : Expr} {gens : List Comprehension} {scope : Scope} {i : Nat} {x : Str} {px : Pos} {iter : Expr} {n : Nat} (f : Nat → PyData) (hg : gens[i]? = some ⟨.Name x px, iter, [], 0⟩)
    (em : ∀ m, m < n → E prog w h₀ d sc ((x, .d (.int (m : Int))) :: ρ) elt H fun v H' => v = .d (f m) ∧ H' = H)
    (hg2 : gens[i + 1]? = none := by exact nn) (hx : ρ.lookup x = none := by exact nn) (hk : sc.names.lookup x = some .local := by exact tl) : LpP prog w h₀ d sc elt gens scope pos i ((List.range n).map fun (i : Nat) => MV.d (.int (i : Int))) ρ H ((List.range n).map f) :=
  (LpP.selR (fun _ => true) f hg (fun _ _ => Ifs.nil ⟨rfl, rfl⟩) (fun m hm _ => em m hm) hg2 hx hk).congr (by rw [show (List.range n).filter (fun _ => true) = List.range n by simp])
theorem cls65' {p : Params} : Cls (KF p) 65 := ⟨rfl, rfl, rfl, rfl, rfl, rfl⟩
theorem cls122 {p : Params} : Cls (KF p) 122 := ⟨rfl, rfl, rfl, rfl, rfl, rfl⟩
theorem cls276 {p : Params} : Cls (KF p) 276 := ⟨rfl, rfl, rfl, rfl, rfl, rfl⟩
theorem cls358 {p : Params} : Cls (KF p) 358 := ⟨rfl, rfl, rfl, rfl, rfl, rfl⟩
theorem cls490 {p : Params} : Cls (KF p) 490 := ⟨rfl, rfl, rfl, rfl, rfl, rfl⟩
end

noncomputable def lotsOf (n : Nat) : List MV := (List.range n).map fun k => .loc (.r (.lot k))
theorem lotsOf_len {n : Nat} : (lotsOf n).length = n := by unfold lotsOf; simp
section
variable {prog : Program} {w : World} {h₀ : Heap} {d : Nat} {H : MH} {Q : MV → MH → Prop}
unseal E in
theorem E.sliceT1' {sc : Scope} {ρ : List (Str × MV)} {pos : Pos} {v : Expr} {k : Nat} {p1 p2 : Pos} (h : E prog w h₀ d sc ρ v H fun u H' => ∃ xs, u = .d (.tuple xs) ∧ 1 ≤ xs.length ∧ xs.length ≤ 1000 ∧ Q (.d (.tuple (xs.drop 1))) H') :
    E prog w h₀ d sc ρ (.Subscript v (.Slice (some (.Constant (.int 1) k p1)) none none p2) pos) H Q := by
  intro A env s W a F R
  refine Subscript_ (useG (h A env s W a F R) fun x s' H' W' zz5 R' F' g m => xEA zz5 fun u zz6 rv => xEAAA zz6 fun xs e h1 hl q => ?_)
  subst e
  (refine xEEEAAA (fz_tuple (of_d rv)) fun b vs n ee3 f g2 z => ?_; subst ee3)
  have e : vs.size = xs.length := by rw [z.length, Array.length_toList]
  refine wpAny_Slice ?_
  rw [evalPart_some, evalPart_none]
  refine wpAny_Constant_int (wpAny_pure (wpAny_pure ?_))
  have k1 := push_keep s'.heap { cls := .type "slice", data := .fields #[.int 1 s'.toks, .none, .none] }
  have ht := k1 _ _ g2
  refine tail_any (T := "tuple") (iEA _ ht rfl) slot_tuple_getitem.lookup (getItem_tuple_from (a := 1) (iEAAE _ ht rfl n rfl) (Heap.IsSliceOf.new ..) (Nat.le_refl _) (by rw [e]; exact h1) ?_ (le1000 (by rw [e]; exact hl))) rfl
  refine OutG.then (s' := s') g m (OutG.keep R' F' (fun b o x => push_keep _ _ b o (k1 b o x)) ⟨rfl, rfl⟩ (iEA _ q ?_))
  refine vr_tuple (vs := vs.toList.drop 1) (e := 0) ((R'.keep k1).freeNew (s := { s' with heap := s'.heap.push _ })) (Heap.get?_push_size _ rfl) (FzA.drop (z.mono (Grow.keep (X := NoX) (n := 0) fun b o x => push_keep _ _ b o (k1 b o x)).keeps1) 1)
end
end L3e0x

open PySem PySem.W PySem.Calls PyProof.Rows
set_option hygiene false
local macro_rules | `(tactic| walk_at "s") => `(tactic| first
  | (show (_ : Nat) ≤ _; lia) | (show (_ : Nat) < _; lia) | omega | decide | assumption | ((try simp only [List.length_map, lotsOf_len]); refine filter_le ?_; first | decide | omega) | (simp; done) | (simp [lotsOf_len]; omega))
local macro_rules | `(tactic| walk_at "len") => `(tactic| ((try simp only [List.length_map, List.length_cons, List.length_nil, List.length_append, List.length_range, lotsOf_len]); rfl))
local macro_rules | `(tactic| walk_at "cls") => `(tactic| first | exact cls65' | exact cls122 | exact cls276 | exact cls358 | exact cls490)
local macro_rules | `(tactic| walk_at "e") => `(tactic| first
  | refine Mine.E.name (by first | rfl | assumption) ?_ | refine Mine.E.int ?_
  | refine Mine.E.cmp ?_ | refine Mine.E.op2 ?_
  | refine Mine.E.call (func := .Name _ _) (by assumption) ?_
  | refine Mine.E.methS (by assumption) (by first | rfl | assumption) (by first | assumption | rfl) (by walk_at "cls") ⟨by rfl, by rfl, by rfl⟩ (by rfl) ?_
  | refine Mine.E.methA (by assumption) (by first | rfl | assumption) (by first | assumption | rfl) (by walk_at "cls") (by rfl) (by rfl) (by first | assumption | rfl) (by walk_at "cls") ⟨by rfl, by rfl, by rfl⟩ (by rfl) ?_
  | refine Mine.E.methB (by assumption) ?_
  | refine Mine.E.attrS (by assumption) (by first | rfl | assumption) (by first | assumption | rfl) (by walk_at "cls") (by rfl) (by rfl) (by rfl) ?_
  | refine Mine.E.sliceT1' ?_ | refine Mine.E.sub (i := .Name _ _) ?_ | refine Mine.E.sub (i := .Constant _ _ _) ?_ | refine Mine.E.sub (i := .BinOp _ _ _ _) ?_ | refine Mine.E.sub (i := .Subscript _ _ _) ?_ | refine Mine.E.sub (i := .Call _ _ _ _) ?_ | refine Mine.E.sub (i := .UnaryOp _ _ _) ?_
  | refine Mine.E.tuple ?_ | refine Mine.E.str ?_ | refine Mine.E.non ?_ | refine Mine.E.bool ?_
  | refine Mine.E.ite ?_ | refine Mine.E.comp ?_ | refine Mine.E.op1 ?_
  | (refine Mine.E.blt (by assumption) (by rfl) (by rfl) ?_; dsimp only [bootValue, builtinAtStartup])
  | refine Mine.E.glob (by assumption) (by rfl) ?_)
local macro_rules | `(tactic| walk_at "l") => `(tactic| refine Mine.E.list ?_)
local macro_rules | `(tactic| walk_at "m") => `(tactic| first
  | (refine (?_ : Mine.E _ _ _ _ _ _ _ _ _); walk_at "e")
  | (refine (?_ : Mine.Es _ _ _ _ _ _ _ _ _); first | refine Mine.Es.cons ?_ | refine Mine.Es.nil ?_)
  | (refine (?_ : Mine.Op2 _ _ _ _ _ _ _ _ _); first | refine Mine.Op2.eqI ?_ | refine Mine.Op2.lt ?_ | refine Mine.Op2.le ?_ | refine Mine.Op2.add ?_ | refine Mine.Op2.subt ?_ | refine Mine.Op2.gt ?_ | refine Mine.Op2.subB ?_ | refine Mine.Op2.eqS ?_ | refine Mine.Op2.neI ?_)
  | (refine (?_ : Mine.Ss _ _ _ _ _ _ _ _ _); first | refine Mine.Ss.cons ?_ | refine Mine.Ss.nil ?_)
  | (refine (?_ : Mine.S _ _ _ _ _ _ _ _ _); first | refine Mine.S.unp2 ?_ | refine Mine.S.sw2 ?_ | refine Mine.S.unp3 ?_ | refine Mine.S.asgComp ?_ | refine Mine.S.asg ?_ | refine Mine.S.if ?_ | refine Mine.S.ret ?_ | refine Mine.S.expr ?_)
  | (refine (?_ : Mine.As _ _ _ _ _ _ _ _ _ _); first | refine Mine.As.name ?_ | refine Mine.As.sub ?_)
  | (refine (?_ : Mine.T _ _ _ _ _ _ _ _ _); first | refine Mine.T.cmp ?_ | refine Mine.T.chain2 ?_ | refine Mine.T.bools ?_ | refine Mine.T.not ?_ | refine Mine.T.val ?_)
  | (refine (?_ : Mine.Ts _ _ _ _ _ _ _ _ _ _); first | refine Mine.Ts.and ?_ | refine Mine.Ts.or ?_ | refine Mine.Ts.orNil ?_ | refine Mine.Ts.andNil ?_)
  | (refine (?_ : Mine.C _ _ _ _ _ _ _ _); first | (refine (?_ : Mine.C _ _ _ _ (.builtin "len") _ _ _); first | (refine (?_ : Mine.C _ _ _ _ _ [.d (.tuple _)] _ _); refine Mine.C.lenT' (by walk_at "len") (by walk_at "s") ?_) | (refine (?_ : Mine.C _ _ _ _ _ [.d (.list _)] _ _); refine Mine.C.lenL' (by walk_at "len") (by walk_at "s") ?_) | refine Mine.C.lenN' (by rfl) (by walk_at "len") (by walk_at "s") ?_) | (refine Mine.C.append rfl ?_ ?_; · walk_at "s") | refine Mine.C.isspace ?_ | refine Mine.C.tupT ?_ | (refine Mine.C.tupL ?_ ?_; · walk_at "s"))
  | (refine (?_ : Mine.Op1 _ _ _ _ _ _ _ _); first | refine Mine.Op1.neg ?_)
  | (refine (?_ : Mine.Ifs _ _ _ _ _ _ _ _ _); first | refine Mine.Ifs.one ?_ | refine Mine.Ifs.nil ?_)
  | exact ⟨rfl, rfl⟩
  | refine bqT (by first | exact tt | decide | decide +kernel) ?_ | refine bqF (by first | exact ff | decide | decide +kernel) ?_ | refine ttI ?_ | refine ffI ?_ | refine ftI ?_ | refine tfI ?_
  | refine iEAA _ rfl (fun _ => ?_) (fun hc => absurd hc (by decide)) | refine iEAA _ rfl (fun hc => absurd hc (by decide)) (fun _ => ?_)
  | (refine callK.mk ?_ ?_; · first | exact .t _ | exact .b _ | exact .k rfl) | (refine tupK.mk rfl ?_ ?_; · walk_at "s") | (refine lstK.mk rfl ?_ ?_; · walk_at "s") | (refine iEAA _ rfl (?_ : (_ : Nat) ≤ _) ?_; · walk_at "s") | refine iEA _ Mine.Iter.tuple ?_ | (refine iEA _ (Mine.Iter.list ?_) ?_; · walk_at "s")
  | refine methBK.mk (Mine.GM.append (by rfl)) ?_ | refine methBK.mk (Mine.GM.extend (by rfl)) ?_ | refine methBK.mk (Mine.GM.pop (by rfl)) ?_ | refine methBK.mk (Mine.GM.dget dlI (by rfl)) ?_ | refine methBK.mk (Mine.GM.dpop dlI (by rfl)) ?_ | refine methBK.mk (Mine.GM.setdef (by rfl)) ?_
  | refine methBK.mk Mine.GM.isspace ?_
  | refine ⟨rfl, ?_⟩)

noncomputable section L3ax
open PySem PySem.W PySem.Calls PyProof.Rows
set_option Elab.async false
set_option linter.unusedVariables false
set_option maxRecDepth 100000
seal PySem.compareOp PySem.binaryOp PySem.unaryOp E T Ts Es C Op1 Op2 S Ss As Ifs Lp Em Op3 Iter GM Unp
set_option maxHeartbeats 2000000


section
variable {prog : Program} {w : World} {h₀ : Heap} {mg mb : Str → Option Value} {d : Nat} {H : MH} {Q : MV → MH → Prop}

/-- the signs of a lot as the program tells them -/
noncomputable def told (l : List Int) : PyData := if l = [] then .str "clash" else if l.length = 3 then .none else .tuple (l.map .int)
noncomputable def signsIn (ns : List Int) : List Int := [-1, 0, 1].filter fun s => ns.any fun n => n == s
theorem any_eqv {ns : List Int} {m : Int} : ((ns.map PyData.int).any fun y => PyData.eqv y (.int m)) = ns.any fun n => n == m := by
  rw [List.any_map]; rfl

set_option maxHeartbeats 400000 in
theorem f_made (G : Gnd h₀ (KF w.params) mg mb) (self : MV) (ns : List Int) (q : Q (.d (told (signsIn ns))) H) : C prog w h₀ (d + 1) (.ref 45) [self, .d (.list (ns.map .int))] H Q := by
  refine C.fn G (f := 45) (names := ["self", "found"]) rfl rfl rfl (bnd2 fun _ _ => rfl) rfl ?_
  dsimp only [List.zip_cons_cons, List.zip_nil_left]
  repeat (walk_at "m")
  refine LpP.use (LpP.selI (ns := [-1, 0, 1]) (fun s => ns.any fun n => n == s) .int rfl (fun m hm => ?_) fun m hm hp => ?_) (by walk_at "s") ?_
  · repeat (walk_at "m")
    exact Op2.inL rfl (shd (k := 1) (shk_list shk_ints)) (iEAA _ rfl any_eqv rfl)
  · repeat (walk_at "m")
  · have hl : (List.filter (fun s => ns.any fun n => n == s) [-1, 0, 1]).length ≤ 3 := filter_le (by decide)
    unfold signsIn at q
    generalize List.filter (fun s => ns.any fun n => n == s) [-1, 0, 1] = l at q hl ⊢
    repeat (walk_at "m")
    refine Op2.eq (shd (k := 1) (shk_tuple shk_ints)) rfl (iEAA _ rfl (fun hc => ?_) (fun hc => ?_))
    · have e : l = [] := by
        rw [eqv_iff (by rw [plainD]; exact plainA_ints) rfl] at hc
        simpa using hc
      subst e
      repeat (walk_at "m")
      exact .inl q
    · have e : l ≠ [] := by
        (intro yy1; subst yy1)
        exact absurd hc (by decide)
      unfold told at q
      rw [if_neg e] at q
      repeat (walk_at "m")
      refine (iEAA _ rfl (fun hc => ?_) (fun hc => ?_))
      · have e3 : l.length = 3 := by simp at hc; lia
        rw [if_pos e3] at q
        repeat (walk_at "m")
        exact .inl q
      · have e3 : l.length ≠ 3 := by simp at hc; lia
        rw [if_neg e3] at q
        repeat (walk_at "m")
        exact .inl q
end
end L3ax

noncomputable section L3bx
open PySem PySem.W PySem.Calls PyProof.Rows
set_option Elab.async false
set_option linter.unusedVariables false
set_option maxRecDepth 100000
seal PySem.compareOp PySem.binaryOp PySem.unaryOp E T Ts Es C Op1 Op2 S Ss As Ifs Lp Em Op3 Iter GM Unp
set_option maxHeartbeats 2000000

section
variable {prog : Program} {w : World} {h₀ : Heap} {mg mb : Str → Option Value} {d : Nat} {H : MH} {Q : MV → MH → Prop}

noncomputable def lot (a b c : Bool) : List Int := (if a then [-1] else []) ++ (if b then [0] else []) ++ (if c then [1] else [])
noncomputable def IsLot (l : List Int) : Prop := ∃ a b c, l = lot a b c
theorem told_cases {l : List Int} (h : IsLot l) : (l = [] ∧ told l = .str "clash") ∨ (l = [-1, 0, 1] ∧ told l = .none) ∨ (l ≠ [] ∧ l ≠ [-1, 0, 1] ∧ told l = .tuple (l.map .int)) := by
  (refine xEEE h fun a b c ee1 => ?_; clear h; subst ee1)
  cases a <;> cases b <;> cases c <;> simp [lot, told]

theorem f_signs (G : Gnd h₀ (KF w.params) mg mb) (self : MV) {l : List Int} (hl : IsLot l) (hne : l ≠ []) (q : Q (.d (.tuple (l.map .int))) H) : C prog w h₀ (d + 1) (.ref 40) [self, .d (told l)] H Q := by
  refine C.fn G (f := 40) (names := ["self", "value"]) rfl rfl rfl (bnd2 fun _ _ => rfl) rfl ?_
  dsimp only [List.zip_cons_cons, List.zip_nil_left]
  rcases told_cases hl with ⟨e, _⟩ | ⟨e, t⟩ | ⟨_, _, t⟩
  · exact absurd e hne
  · rw [t]
    subst e
    repeat (first | walk_at "m" | walk_at "l" | refine E.sub ?_)
    refine Op2.isN rfl (iEAA _ rfl (fun hc => ?_) (fun hc => ?_))
    · repeat (first | walk_at "m" | walk_at "l" | refine E.sub ?_)
      exact .inl q
    · cases hc
  · rw [t]
    repeat (first | walk_at "m" | walk_at "l" | refine E.sub ?_)
    refine Op2.isN rfl (iEAA _ rfl (fun hc => ?_) (fun hc => ?_))
    · cases hc
    · repeat (first | walk_at "m" | walk_at "l" | refine E.sub ?_)
      exact .inl q
noncomputable def addedF (a b : Int) : List Int := if a = 0 ∨ b = 0 ∨ a = b then [if a ≠ 0 then a else b] else [-1, 0, 1]
set_option maxHeartbeats 400000 in
theorem f_added (G : Gnd h₀ (KF w.params) mg mb) (self : MV) {a b : Int} (ha : a ∈ [-1, 0, 1]) (hb : b ∈ [-1, 0, 1]) (q : Q (.d (.list ((addedF a b).map .int))) H) : C prog w h₀ (d + 1) (.ref 52) [self, .d (.int a), .d (.int b)] H Q := by
  refine C.fn G (f := 52) (names := ["self", "one", "other"]) rfl rfl rfl (bnd3 fun _ _ _ => rfl) rfl ?_
  dsimp only [List.zip_cons_cons, List.zip_nil_left]
  simp only [List.mem_cons, List.not_mem_nil, or_false] at ha hb
  rcases ha with rfl | rfl | rfl <;> rcases hb with rfl | rfl | rfl
  all_goals repeat (first | walk_at "m" | walk_at "l" | refine E.sub ?_)
  all_goals exact .inl q
end
end L3bx

noncomputable section L3cx
open PySem PySem.W PySem.Calls PyProof.Rows
set_option Elab.async false
set_option linter.unusedVariables false
set_option maxRecDepth 100000
seal PySem.compareOp PySem.binaryOp PySem.unaryOp E T Ts Es C Op1 Op2 S Ss As Ifs Lp Em Op3 Iter GM Unp
set_option maxHeartbeats 2000000

section
variable {prog : Program} {w : World} {h₀ : Heap} {mg mb : Str → Option Value} {d : Nat} {H : MH} {Q : MV → MH → Prop}
theorem cls65 : Cls (KF w.params) 65 := ⟨rfl, rfl, rfl, rfl, rfl, rfl⟩
noncomputable def interL (a b : List Int) : List Int := signsIn (a.filter fun s => b.any fun n => n == s)
theorem shk_told {l : List Int} (h : IsLot l) : shk 1 (told l) := by
  rcases told_cases h with ⟨e, t⟩ | ⟨e, t⟩ | ⟨_, _, t⟩
  · rw [t]; exact shk_str (by decide +kernel)
  · rw [t]; exact shk_none
  · rw [t]; exact shk_tuple shk_ints
theorem plain_told {l : List Int} (h : IsLot l) : plainD (told l) = true := by
  rcases told_cases h with ⟨e, t⟩ | ⟨e, t⟩ | ⟨_, _, t⟩ <;> rw [t]
  · rfl
  · rfl
  · rw [plainD]; exact plainA_ints
theorem eqv_clash {l : List Int} (h : IsLot l) : PyData.eqv (told l) (.str "clash") = decide (l = []) := by
  rw [Bool.eq_iff_iff, eqv_iff (plain_told h) rfl, decide_eq_true_eq]
  rcases told_cases h with ⟨e, t⟩ | ⟨e, t⟩ | ⟨e, _, t⟩ <;> rw [t] <;> simp [e]
theorem lot_len {l : List Int} (h : IsLot l) : l.length ≤ 3 := by
  (refine xEEE h fun a b c ee1 => ?_; clear h; subst ee1)
  cases a <;> cases b <;> cases c <;> decide
set_option maxHeartbeats 400000 in
theorem f_joined (G : Gnd h₀ (KF w.params) mg mb) (hS : H.get (.r .sgn) = some (.inst 65 [])) {l1 l2 : List Int} (h1 : IsLot l1) (h2 : IsLot l2) (q : Q (.d (told (interL l1 l2))) H) :
    C prog w h₀ (d + 3) (.ref 62) [.loc (.r .sgn), .d (told l1), .d (told l2)] H Q := by
  refine C.fn G (f := 62) (names := ["self", "one", "other"]) rfl rfl rfl (bnd3 fun _ _ _ => rfl) rfl ?_
  dsimp only [List.zip_cons_cons, List.zip_nil_left]
  repeat (first | walk_at "m" | walk_at "l" | refine E.sub ?_)
  refine Op2.inT (by decide +kernel) (shd (k := 2) (shk_tuple fun x m => ?_)) (iEAA _ rfl (fun hc => ?_) (fun hc => ?_))
  · simp only [List.mem_cons, List.not_mem_nil, or_false] at m
    rcases m with rfl | rfl
    · exact shk_told h1
    · exact shk_told h2
  · dsimp only at hc
    rw [List.any_cons, List.any_cons, List.any_nil, Bool.or_false, eqv_clash h1, eqv_clash h2, Bool.or_eq_true, decide_eq_true_eq, decide_eq_true_eq] at hc
    have e : interL l1 l2 = [] := by
      unfold interL signsIn
      rcases hc with rfl | rfl
      · simp
      · simp
    rw [e] at q
    repeat (first | walk_at "m" | walk_at "l" | refine E.sub ?_)
    exact .inl q
  · dsimp only at hc
    rw [List.any_cons, List.any_cons, List.any_nil, Bool.or_false, eqv_clash h1, eqv_clash h2, Bool.or_eq_false_iff, decide_eq_false_iff_not, decide_eq_false_iff_not] at hc
    repeat (first | walk_at "m" | walk_at "l" | refine E.sub ?_)
    refine f_signs G _ h1 hc.1 ?_
    repeat (first | walk_at "m" | walk_at "l" | refine E.sub ?_)
    refine LpP.use (LpP.selI (fun s => l2.any fun n => n == s) .int rfl (fun m hm => ?_) fun m hm hp => ?_) (by have := lot_len h1; walk_at "s") ?_
    · repeat (first | walk_at "m" | walk_at "l" | refine E.sub ?_)
      refine f_signs G _ h2 hc.2 ?_
      exact Op2.inT rfl (shd (k := 1) (shk_tuple shk_ints)) (iEAA _ rfl any_eqv rfl)
    · repeat (first | walk_at "m" | walk_at "l" | refine E.sub ?_)
    · repeat (first | walk_at "m" | walk_at "l" | refine E.sub ?_)
      refine f_made G _ _ ?_
      repeat (first | walk_at "m" | walk_at "l" | refine E.sub ?_)
      exact .inl q
end
end L3cx

noncomputable section L3dx
open PySem PySem.W PySem.Calls PyProof.Rows
set_option Elab.async false
set_option linter.unusedVariables false
set_option maxRecDepth 100000
seal PySem.compareOp PySem.binaryOp PySem.unaryOp E T Ts Es C Op1 Op2 S Ss As Ifs Lp Em Op3 Iter GM Unp
set_option maxHeartbeats 2000000

section
variable {prog : Program} {w : World} {h₀ : Heap} {mg mb : Str → Option Value} {d : Nat} {H : MH} {Q : MV → MH → Prop}
noncomputable def chars (x : Str) : List PyData := x.cps.toList.map fun c => .str ⟨#[c]⟩
noncomputable def noDigit : PyData → Bool
  | .str x => !(!(Builtin.Str.occurrences "0123456789" x 0 (Str.ofString "0123456789").length 1).isEmpty)
  | _ => false
theorem of_chars {x : Str} {m : PyData} (h : m ∈ chars x) : ∃ y, m = .str y := by
  unfold chars at h
  (refine xEA (List.mem_map.mp h) fun c _ ee1 => ?_; subst ee1)
  exact ⟨_, rfl⟩
theorem hb_some {l : List PyData} {op : Str} {n : Int} (e : l.isEmpty = true) (h : PySem.intText? op = some n) (h2 : op.length ≤ 640) : if l = [] then ∃ m, PySem.intText? op = some m ∧ op.length ≤ 640 ∧ PyData.int n = .int m else PyData.int n = .none := by
  rw [if_pos (List.isEmpty_iff.mp e)]
  exact (iEAA n h h2 rfl)
theorem hb_none {l : List PyData} {op : Str} (e : l.isEmpty = false) : if l = [] then ∃ m, PySem.intText? op = some m ∧ op.length ≤ 640 ∧ PyData.none = .int m else PyData.none = .none := by
  rw [if_neg (by (intro yy1; subst yy1); cases e)]
theorem f_whole (G : Gnd h₀ (KF w.params) mg mb) {op h1 dg : Str} {neg : Bool} {r : PyData}
    (e1 : ∀ t lt, sliceMade op t none (some (1, lt)) none = .val (.str h1 t) ∨ sliceMade op t none (some (1, lt)) none = .str h1) (l1 : h1.length ≤ 1000)
    (e2 : (h1 == "-") = neg) (e3 : neg = true → ∀ t lt, sliceMade op t (some (1, lt)) none none = .val (.str dg t) ∨ sliceMade op t (some (1, lt)) none none = .str dg)
    (e4 : neg = false → dg = op) (l2 : 0 < dg.length ∧ dg.length ≤ 1000) (as : dg.cps.all (· < 128) = true) (l3 : (chars dg).length ≤ 1000)
    (sh2 : shk 3 (.list ((chars dg).filter noDigit)))
    (hb : if (chars dg).filter noDigit = [] then ∃ n, PySem.intText? op = some n ∧ op.length ≤ 640 ∧ r = .int n else r = .none)
    (q : Q (.d r) H) : C prog w h₀ (d + 1) (.ref 26) [.d (.str op)] H Q := by
  refine C.fn G (f := 26) (names := ["op"]) rfl rfl rfl (bnd1 fun _ => rfl) rfl ?_
  dsimp only [List.zip_cons_cons, List.zip_nil_left]
  repeat (first | walk_at "m" | walk_at "l")
  refine E.sliceSTo ?_
  repeat (first | walk_at "m" | walk_at "l")
  refine (iEEAAA op h1 rfl l1 e1 ?_)
  repeat (first | walk_at "m" | walk_at "l")
  try refine Op2.eqS ?_
  refine (iEAA _ rfl (fun hc => ?_) (fun hc => ?_))
  · have hn : neg = true := e2 ▸ hc
    refine E.sliceSFrom ?_
    repeat (first | walk_at "m" | walk_at "l")
    refine (iEEAAA op dg rfl l2.2 (e3 hn) ?_)
    repeat (first | walk_at "m" | walk_at "l")
    try refine T.chain2 ?_
    repeat (first | walk_at "m" | walk_at "l")
    refine C.lenS l2.2 ?_
    refine Op2.lt (iEAA _ rfl (fun hc => absurd hc (by simp; lia)) (fun _ => ?_))
    repeat (first | walk_at "m" | walk_at "l")
    refine (iEAA _ rfl (fun _ => ?_) (fun hc => absurd hc (by simp; lia)))
    repeat (first | walk_at "m" | walk_at "l")
    refine (iEA _ (Iter.str as) ?_)
    rw [show (dg.cps.toList.map fun c => MV.d (.str ⟨#[c]⟩)) = (chars dg).map .d by rw [chars, List.map_map]; rfl]
    refine LpP.use (LpP.selD (xs := chars dg) noDigit (fun x => x) rfl (fun m hm => ?_) fun m hm hp => ?_) (by rw [List.map_id']; exact filter_le l3) ?_
    · (refine xE (of_chars hm) fun y ee2 => ?_; subst ee2)
      repeat (first | walk_at "m" | walk_at "l")
      exact Op2.notInS (iEAA _ rfl rfl rfl)
    · repeat (first | walk_at "m" | walk_at "l")
    · rw [List.map_id']
      repeat (first | walk_at "m" | walk_at "l")
      refine Op2.ne (shd sh2) rfl ?_
      by_cases e : (chars dg).filter noDigit = []
      · rw [if_pos e] at hb
        (refine xEAA hb fun n hn h640 ee3 => ?_; clear hb; subst ee3)
        rw [e]
        refine (iEAA _ rfl (fun _ => ?_) (fun hc => absurd hc (by decide)))
        repeat (first | walk_at "m" | walk_at "l")
        refine C.intS hn h640 ?_
        repeat (first | walk_at "m" | walk_at "l")
        exact .inl q
      · rw [if_neg e] at hb
        subst hb
        have ne : PyData.eqv (PyData.list ((chars dg).filter noDigit)) (.list []) = false := by
          cases h : (chars dg).filter noDigit with
          | nil => exact absurd h e
          | cons => rfl
        rw [ne]
        refine (iEAA _ rfl (fun hc => absurd hc (by decide)) (fun _ => ?_))
        repeat (first | walk_at "m" | walk_at "l")
        exact .inl q
  · obtain rfl : dg = op := e4 (e2 ▸ hc)
    repeat (first | walk_at "m" | walk_at "l")
    try refine T.chain2 ?_
    repeat (first | walk_at "m" | walk_at "l")
    refine C.lenS l2.2 ?_
    refine Op2.lt (iEAA _ rfl (fun hc => absurd hc (by simp; lia)) (fun _ => ?_))
    repeat (first | walk_at "m" | walk_at "l")
    refine (iEAA _ rfl (fun _ => ?_) (fun hc => absurd hc (by simp; lia)))
    repeat (first | walk_at "m" | walk_at "l")
    refine (iEA _ (Iter.str as) ?_)
    rw [show (dg.cps.toList.map fun c => MV.d (.str ⟨#[c]⟩)) = (chars dg).map .d by rw [chars, List.map_map]; rfl]
    refine LpP.use (LpP.selD (xs := chars dg) noDigit (fun x => x) rfl (fun m hm => ?_) fun m hm hp => ?_) (by rw [List.map_id']; exact filter_le l3) ?_
    · (refine xE (of_chars hm) fun y ee4 => ?_; subst ee4)
      repeat (first | walk_at "m" | walk_at "l")
      exact Op2.notInS (iEAA _ rfl rfl rfl)
    · repeat (first | walk_at "m" | walk_at "l")
    · rw [List.map_id']
      repeat (first | walk_at "m" | walk_at "l")
      refine Op2.ne (shd sh2) rfl ?_
      by_cases e : (chars dg).filter noDigit = []
      · rw [if_pos e] at hb
        (refine xEAA hb fun n hn h640 ee5 => ?_; clear hb; subst ee5)
        rw [e]
        refine (iEAA _ rfl (fun _ => ?_) (fun hc => absurd hc (by decide)))
        repeat (first | walk_at "m" | walk_at "l")
        refine C.intS hn h640 ?_
        repeat (first | walk_at "m" | walk_at "l")
        exact .inl q
      · rw [if_neg e] at hb
        subst hb
        have ne : PyData.eqv (PyData.list ((chars dg).filter noDigit)) (.list []) = false := by
          cases h : (chars dg).filter noDigit with
          | nil => exact absurd h e
          | cons => rfl
        rw [ne]
        refine (iEAA _ rfl (fun hc => absurd hc (by decide)) (fun _ => ?_))
        repeat (first | walk_at "m" | walk_at "l")
        exact .inl q
theorem f_whole_0 (G : Gnd h₀ (KF w.params) mg mb) (q : Q (.d (.int (0))) H) : C prog w h₀ (d + 1) (.ref 26) [.d (.str "0")] H Q :=
  f_whole G (h1 := "0") (dg := "0") (neg := false) (r := .int (0)) (fun _ _ => .inl rfl) (by decide +kernel) (by decide +kernel) (fun h => nomatch h) (fun _ => rfl) (by decide +kernel) (by decide +kernel)
    (by decide +kernel) ⟨by decide +kernel, by decide +kernel⟩ (hb_some (by decide +kernel) (by decide +kernel) (by decide +kernel)) q
theorem f_whole_3 (G : Gnd h₀ (KF w.params) mg mb) (q : Q (.d (.int (3))) H) : C prog w h₀ (d + 1) (.ref 26) [.d (.str "3")] H Q :=
  f_whole G (h1 := "3") (dg := "3") (neg := false) (r := .int (3)) (fun _ _ => .inl rfl) (by decide +kernel) (by decide +kernel) (fun h => nomatch h) (fun _ => rfl) (by decide +kernel) (by decide +kernel)
    (by decide +kernel) ⟨by decide +kernel, by decide +kernel⟩ (hb_some (by decide +kernel) (by decide +kernel) (by decide +kernel)) q
theorem f_whole_m2 (G : Gnd h₀ (KF w.params) mg mb) (q : Q (.d (.int (-2))) H) : C prog w h₀ (d + 1) (.ref 26) [.d (.str "-2")] H Q :=
  f_whole G (h1 := "-") (dg := "2") (neg := true) (r := .int (-2)) (fun _ _ => .inr rfl) (by decide +kernel) (by decide +kernel) (fun _ _ _ => .inr rfl) (fun h => nomatch h) (by decide +kernel) (by decide +kernel)
    (by decide +kernel) ⟨by decide +kernel, by decide +kernel⟩ (hb_some (by decide +kernel) (by decide +kernel) (by decide +kernel)) q
theorem f_whole_x (G : Gnd h₀ (KF w.params) mg mb) (q : Q (.d (.none)) H) : C prog w h₀ (d + 1) (.ref 26) [.d (.str "x")] H Q :=
  f_whole G (h1 := "x") (dg := "x") (neg := false) (r := .none) (fun _ _ => .inl rfl) (by decide +kernel) (by decide +kernel) (fun h => nomatch h) (fun _ => rfl) (by decide +kernel) (by decide +kernel)
    (by decide +kernel) ⟨by decide +kernel, by decide +kernel⟩ (hb_none (by decide +kernel)) q
theorem f_whole_y (G : Gnd h₀ (KF w.params) mg mb) (q : Q (.d (.none)) H) : C prog w h₀ (d + 1) (.ref 26) [.d (.str "y")] H Q :=
  f_whole G (h1 := "y") (dg := "y") (neg := false) (r := .none) (fun _ _ => .inl rfl) (by decide +kernel) (by decide +kernel) (fun h => nomatch h) (fun _ => rfl) (by decide +kernel) (by decide +kernel)
    (by decide +kernel) ⟨by decide +kernel, by decide +kernel⟩ (hb_none (by decide +kernel)) q
end

end L3dx

noncomputable section L3ex
open PySem PySem.W PySem.Calls PyProof.Rows
set_option Elab.async false
set_option linter.unusedVariables false
set_option maxRecDepth 100000
seal PySem.compareOp PySem.binaryOp PySem.unaryOp E T Ts Es C Op1 Op2 S Ss As Ifs Lp Em Op3 Iter GM Unp
set_option maxHeartbeats 2000000

inductive Kd where
  | zero | three | mtwo | x | y | neg | up | add | mul
  deriving DecidableEq
noncomputable def Kd.op : Kd → Str
  | .zero => "0" | .three => "3" | .mtwo => "-2" | .x => "x" | .y => "y" | .neg => "neg" | .up => "up" | .add => "add" | .mul => "mul"
noncomputable def Kd.ar : Kd → Nat
  | .zero | .three | .mtwo | .x | .y => 0
  | .neg | .up => 1
  | .add | .mul => 2
noncomputable def comesN (a : List Int) : List Int := signsIn (a.map fun s => -s)
noncomputable def comesA (a b : List Int) : List Int := signsIn (a.flatMap fun s => b.flatMap fun r => addedF s r)
noncomputable def comesM (a b : List Int) : List Int := signsIn (a.flatMap fun s => b.map fun r => s * r)
noncomputable abbrev full : List Int := [-1, 0, 1]
noncomputable def comes0 : Kd → List (List Int) → List Int
  | .zero, _ => [0]
  | .three, _ => [1]
  | .mtwo, _ => [-1]
  | .neg, [a] => comesN a
  | .add, [a, b] => comesA a b
  | .mul, [a, b] => comesM a b
  | _, _ => full
noncomputable def comesF (k : Kd) (lots : List (List Int)) : List Int := if lots.any (·.isEmpty) then [] else comes0 k lots
section
variable {prog : Program} {w : World} {h₀ : Heap} {mg mb : Str → Option Value} {d : Nat} {H : MH} {Q : MV → MH → Prop}
theorem any_clash : ∀ {ls : List (List Int)}, (∀ l ∈ ls, IsLot l) → ((ls.map told).any fun y => PyData.eqv y (.str "clash")) = ls.any (·.isEmpty)
  | [], _ => rfl
  | l :: ls, h => by
    rw [List.map_cons, List.any_cons, List.any_cons, any_clash fun a m => h a (List.mem_cons_of_mem _ m), eqv_clash (h l List.mem_cons_self)]
    cases l <;> simp
theorem shk_tolds {ls : List (List Int)} (h : ∀ l ∈ ls, IsLot l) : ∀ x ∈ ls.map told, shk 1 x := by
  intro x m
  (refine xEA (List.mem_map.mp m) fun l hl ee1 => ?_; subst ee1)
  exact shk_told (h l hl)
noncomputable def untold : PyData → PyData
  | .none => .tuple (full.map .int)
  | x => x
theorem untold_told {l : List Int} (h : IsLot l) (ne : l ≠ []) : untold (told l) = .tuple (l.map .int) := by
  rcases told_cases h with ⟨e, t⟩ | ⟨e, t⟩ | ⟨_, _, t⟩
  · exact absurd e ne
  · rw [t, e]; rfl
  · rw [t]; rfl
theorem untold_all : ∀ {ls : List (List Int)}, (∀ l ∈ ls, IsLot l) → (∀ l ∈ ls, l ≠ []) → (ls.map told).map untold = ls.map fun l => .tuple (l.map .int)
  | [], _, _ => rfl
  | l :: ls, h, n => by
    rw [List.map_cons, List.map_cons, List.map_cons, untold_all (fun a m => h a (List.mem_cons_of_mem _ m)) (fun a m => n a (List.mem_cons_of_mem _ m)), untold_told (h l List.mem_cons_self) (n l List.mem_cons_self)]
--GEN
theorem lot_mem {l : List Int} (h : IsLot l) {m : Int} (hm : m ∈ l) : m ∈ [-1, 0, 1] := by
  (refine xEEE h fun p q r ee2 => ?_; clear h; subst ee2)
  unfold lot at hm
  cases p <;> cases q <;> cases r <;> simp at hm ⊢ <;> lia
theorem added_len {a b : Int} : (addedF a b).length ≤ 1000000 := by
  unfold addedF
  split <;> simp
theorem mul_ok {a b : Int} (ha : a ∈ [-1, 0, 1]) (hb : b ∈ [-1, 0, 1]) : IntMulOk a b := by
  simp only [List.mem_cons, List.not_mem_nil, or_false] at ha hb
  rcases ha with rfl | rfl | rfl <;> rcases hb with rfl | rfl | rfl <;> (unfold IntMulOk; decide +kernel)
theorem len_flat {a b : List Int} (ha : IsLot a) (hb : IsLot b) : (a.flatMap fun s => b.flatMap fun r => (addedF s r).map PyData.int).length ≤ 1000 ∧ (a.flatMap fun s => b.map fun r => PyData.int (s * r)).length ≤ 1000 := by
  (refine xEEE ha fun p q r ee3 => ?_; clear ha; subst ee3)
  (refine xEEE hb fun p' q' r' ee4 => ?_; clear hb; subst ee4)
  revert p q r p' q' r'
  decide +kernel
set_option maxHeartbeats 2000000 in
theorem f_of_node_0 (G : Gnd h₀ (KF w.params) mg mb) (hS : H.get (.r .sgn) = some (.inst 65 [])) {k : Kd} (hl : ∀ l ∈ ([] : List (List Int)), IsLot l) (hk : k.ar = 0) (q : Q (.d (told (comesF k []))) H) :
    C prog w h₀ (d + 3) (.ref 57) [.loc (.r .sgn), .d (.str k.op), .d (.list (([] : List (List Int)).map told))] H Q := by
  refine C.fn G (f := 57) (names := ["self", "op", "values"]) rfl rfl rfl (bnd3 fun _ _ _ => rfl) rfl ?_
  dsimp only [List.zip_cons_cons, List.zip_nil_left]
  repeat (first | walk_at "m" | walk_at "l")
  refine Op2.inL (by decide +kernel) (shd (k := 2) (shk_list (shk_tolds hl))) (iEAA _ rfl (fun hc => ?_) (fun hc => ?_))
  · have hc := (any_clash hl).symm.trans hc
    unfold comesF at q
    rw [if_pos hc] at q
    repeat (first | walk_at "m" | walk_at "l")
    exact .inl q
  have hc := (any_clash hl).symm.trans hc
  unfold comesF at q
  rw [if_neg (by rw [hc]; decide)] at q
  have hne : ∀ l ∈ ([] : List (List Int)), l ≠ [] := by
    (intro l m yy3; subst yy3)
    rw [List.any_eq_false] at hc
    exact hc [] m rfl
  repeat (first | walk_at "m" | walk_at "l")
  cases k <;> first | cases hk | skip
  · refine f_whole_0 G ?_
    repeat (first | walk_at "m" | walk_at "l")
    refine Op2.isNotN rfl (iEAA _ rfl (fun _ => ?_) (fun hc => nomatch hc))
    repeat (first | walk_at "m" | walk_at "l")
    exact .inl q
  · refine f_whole_3 G ?_
    repeat (first | walk_at "m" | walk_at "l")
    refine Op2.isNotN rfl (iEAA _ rfl (fun _ => ?_) (fun hc => nomatch hc))
    repeat (first | walk_at "m" | walk_at "l")
    exact .inl q
  · refine f_whole_m2 G ?_
    repeat (first | walk_at "m" | walk_at "l")
    refine Op2.isNotN rfl (iEAA _ rfl (fun _ => ?_) (fun hc => nomatch hc))
    repeat (first | walk_at "m" | walk_at "l")
    exact .inl q
  · refine f_whole_x G ?_
    repeat (first | walk_at "m" | walk_at "l")
    refine Op2.isNotN rfl (iEAA _ rfl (fun hc => (nomatch hc)) (fun _ => ?_))
    repeat (first | walk_at "m" | walk_at "l")
    refine LpP.use (LpP.eachD (xs := List.map told []) untold rfl fun m hm => ?_) (by simp) ?_
    · repeat (first | walk_at "m" | walk_at "l")
      (refine xEA (List.mem_map.mp hm) fun l ml ee5 => ?_; subst ee5)
      refine f_signs G _ (hl l ml) (hne l ml) ?_
      rw [untold_told (hl l ml) (hne l ml)]
      repeat (first | walk_at "m" | walk_at "l")
    rw [untold_all hl hne]
    repeat (first | walk_at "m" | walk_at "l")
    refine Op2.eq (by decide +kernel) (by decide +kernel) (iEAA _ rfl (fun hc => absurd hc (by decide +kernel)) (fun _ => ?_))
    repeat (first | walk_at "m" | walk_at "l")
    refine Op2.eq (by decide +kernel) (by decide +kernel) (iEAA _ rfl (fun hc => absurd hc (by decide +kernel)) (fun _ => ?_))
    repeat (first | walk_at "m" | walk_at "l")
    refine Op2.eq (by decide +kernel) (by decide +kernel) (iEAA _ rfl (fun hc => absurd hc (by decide +kernel)) (fun _ => ?_))
    repeat (first | walk_at "m" | walk_at "l")
    exact .inl q
  · refine f_whole_y G ?_
    repeat (first | walk_at "m" | walk_at "l")
    refine Op2.isNotN rfl (iEAA _ rfl (fun hc => (nomatch hc)) (fun _ => ?_))
    repeat (first | walk_at "m" | walk_at "l")
    refine LpP.use (LpP.eachD (xs := List.map told []) untold rfl fun m hm => ?_) (by simp) ?_
    · repeat (first | walk_at "m" | walk_at "l")
      (refine xEA (List.mem_map.mp hm) fun l ml ee6 => ?_; subst ee6)
      refine f_signs G _ (hl l ml) (hne l ml) ?_
      rw [untold_told (hl l ml) (hne l ml)]
      repeat (first | walk_at "m" | walk_at "l")
    rw [untold_all hl hne]
    repeat (first | walk_at "m" | walk_at "l")
    refine Op2.eq (by decide +kernel) (by decide +kernel) (iEAA _ rfl (fun hc => absurd hc (by decide +kernel)) (fun _ => ?_))
    repeat (first | walk_at "m" | walk_at "l")
    refine Op2.eq (by decide +kernel) (by decide +kernel) (iEAA _ rfl (fun hc => absurd hc (by decide +kernel)) (fun _ => ?_))
    repeat (first | walk_at "m" | walk_at "l")
    refine Op2.eq (by decide +kernel) (by decide +kernel) (iEAA _ rfl (fun hc => absurd hc (by decide +kernel)) (fun _ => ?_))
    repeat (first | walk_at "m" | walk_at "l")
    exact .inl q
set_option maxHeartbeats 2000000 in
theorem f_of_node_1 (G : Gnd h₀ (KF w.params) mg mb) (hS : H.get (.r .sgn) = some (.inst 65 [])) {k : Kd} {a : List Int} (hl : ∀ l ∈ ([a] : List (List Int)), IsLot l) (hk : k.ar = 1) (q : Q (.d (told (comesF k [a]))) H) :
    C prog w h₀ (d + 3) (.ref 57) [.loc (.r .sgn), .d (.str k.op), .d (.list (([a] : List (List Int)).map told))] H Q := by
  refine C.fn G (f := 57) (names := ["self", "op", "values"]) rfl rfl rfl (bnd3 fun _ _ _ => rfl) rfl ?_
  dsimp only [List.zip_cons_cons, List.zip_nil_left]
  repeat (first | walk_at "m" | walk_at "l")
  refine Op2.inL (by decide +kernel) (shd (k := 2) (shk_list (shk_tolds hl))) (iEAA _ rfl (fun hc => ?_) (fun hc => ?_))
  · have hc := (any_clash hl).symm.trans hc
    unfold comesF at q
    rw [if_pos hc] at q
    repeat (first | walk_at "m" | walk_at "l")
    exact .inl q
  have hc := (any_clash hl).symm.trans hc
  unfold comesF at q
  rw [if_neg (by rw [hc]; decide)] at q
  have hne : ∀ l ∈ ([a] : List (List Int)), l ≠ [] := by
    (intro l m yy6; subst yy6)
    rw [List.any_eq_false] at hc
    exact hc [] m rfl
  repeat (first | walk_at "m" | walk_at "l")
  cases k <;> first | cases hk | skip
  · skip
    repeat (first | walk_at "m" | walk_at "l")
    refine Op2.isNotN rfl (iEAA _ rfl (fun hc => (nomatch hc)) (fun _ => ?_))
    repeat (first | walk_at "m" | walk_at "l")
    refine LpP.use (LpP.eachD (xs := List.map told [a]) untold rfl fun m hm => ?_) (by simp) ?_
    · repeat (first | walk_at "m" | walk_at "l")
      (refine xEA (List.mem_map.mp hm) fun l ml ee7 => ?_; subst ee7)
      refine f_signs G _ (hl l ml) (hne l ml) ?_
      rw [untold_told (hl l ml) (hne l ml)]
      repeat (first | walk_at "m" | walk_at "l")
    rw [untold_all hl hne]
    repeat (first | walk_at "m" | walk_at "l")
    refine Op2.eq (by decide +kernel) (by decide +kernel) (iEAA _ rfl (fun _ => ?_) (fun hc => absurd hc (by decide +kernel)))
    repeat (first | walk_at "m" | walk_at "l")
    refine Op2.itemL (x := .tuple (a.map .int)) (by decide) (by decide) rfl ?_
    repeat (first | walk_at "m" | walk_at "l")
    refine LpP.use (LpP.eachI (ns := a) (fun s => .int (-s)) rfl fun m hm => ?_) (by have := lot_len (hl a (by simp)); simp; lia) ?_
    · repeat (first | walk_at "m" | walk_at "l")
    · repeat (first | walk_at "m" | walk_at "l")
      rw [show (a.map fun s => PyData.int (-s)) = (a.map fun s => -s).map .int by rw [List.map_map]; rfl]
      refine f_made G _ _ ?_
      repeat (first | walk_at "m" | walk_at "l")
      exact .inl q
  · skip
    repeat (first | walk_at "m" | walk_at "l")
    refine Op2.isNotN rfl (iEAA _ rfl (fun hc => (nomatch hc)) (fun _ => ?_))
    repeat (first | walk_at "m" | walk_at "l")
    refine LpP.use (LpP.eachD (xs := List.map told [a]) untold rfl fun m hm => ?_) (by simp) ?_
    · repeat (first | walk_at "m" | walk_at "l")
      (refine xEA (List.mem_map.mp hm) fun l ml ee8 => ?_; subst ee8)
      refine f_signs G _ (hl l ml) (hne l ml) ?_
      rw [untold_told (hl l ml) (hne l ml)]
      repeat (first | walk_at "m" | walk_at "l")
    rw [untold_all hl hne]
    repeat (first | walk_at "m" | walk_at "l")
    refine Op2.eq (by decide +kernel) (by decide +kernel) (iEAA _ rfl (fun hc => absurd hc (by decide +kernel)) (fun _ => ?_))
    repeat (first | walk_at "m" | walk_at "l")
    refine Op2.eq (by decide +kernel) (by decide +kernel) (iEAA _ rfl (fun hc => absurd hc (by decide +kernel)) (fun _ => ?_))
    repeat (first | walk_at "m" | walk_at "l")
    refine Op2.eq (by decide +kernel) (by decide +kernel) (iEAA _ rfl (fun hc => absurd hc (by decide +kernel)) (fun _ => ?_))
    repeat (first | walk_at "m" | walk_at "l")
    exact .inl q
set_option maxHeartbeats 2000000 in
theorem f_of_node_2 (G : Gnd h₀ (KF w.params) mg mb) (hS : H.get (.r .sgn) = some (.inst 65 [])) {k : Kd} {a b : List Int} (hl : ∀ l ∈ ([a, b] : List (List Int)), IsLot l) (hk : k.ar = 2) (q : Q (.d (told (comesF k [a, b]))) H) :
    C prog w h₀ (d + 3) (.ref 57) [.loc (.r .sgn), .d (.str k.op), .d (.list (([a, b] : List (List Int)).map told))] H Q := by
  refine C.fn G (f := 57) (names := ["self", "op", "values"]) rfl rfl rfl (bnd3 fun _ _ _ => rfl) rfl ?_
  dsimp only [List.zip_cons_cons, List.zip_nil_left]
  repeat (first | walk_at "m" | walk_at "l")
  refine Op2.inL (by decide +kernel) (shd (k := 2) (shk_list (shk_tolds hl))) (iEAA _ rfl (fun hc => ?_) (fun hc => ?_))
  · have hc := (any_clash hl).symm.trans hc
    unfold comesF at q
    rw [if_pos hc] at q
    repeat (first | walk_at "m" | walk_at "l")
    exact .inl q
  have hc := (any_clash hl).symm.trans hc
  unfold comesF at q
  rw [if_neg (by rw [hc]; decide)] at q
  have hne : ∀ l ∈ ([a, b] : List (List Int)), l ≠ [] := by
    (intro l m yy9; subst yy9)
    rw [List.any_eq_false] at hc
    exact hc [] m rfl
  repeat (first | walk_at "m" | walk_at "l")
  cases k <;> first | cases hk | skip
  · skip
    repeat (first | walk_at "m" | walk_at "l")
    refine Op2.isNotN rfl (iEAA _ rfl (fun hc => (nomatch hc)) (fun _ => ?_))
    repeat (first | walk_at "m" | walk_at "l")
    refine LpP.use (LpP.eachD (xs := List.map told [a, b]) untold rfl fun m hm => ?_) (by simp) ?_
    · repeat (first | walk_at "m" | walk_at "l")
      (refine xEA (List.mem_map.mp hm) fun l ml ee9 => ?_; subst ee9)
      refine f_signs G _ (hl l ml) (hne l ml) ?_
      rw [untold_told (hl l ml) (hne l ml)]
      repeat (first | walk_at "m" | walk_at "l")
    rw [untold_all hl hne]
    repeat (first | walk_at "m" | walk_at "l")
    refine Op2.eq (by decide +kernel) (by decide +kernel) (iEAA _ rfl (fun hc => absurd hc (by decide +kernel)) (fun _ => ?_))
    repeat (first | walk_at "m" | walk_at "l")
    refine Op2.eq (by decide +kernel) (by decide +kernel) (iEAA _ rfl (fun _ => ?_) (fun hc => absurd hc (by decide +kernel)))
    repeat (first | walk_at "m" | walk_at "l")
    refine Op2.itemL (x := .tuple (a.map .int)) (by decide) (by decide) rfl ?_
    repeat (first | walk_at "m" | walk_at "l")
    have hla : IsLot a := hl a (by simp)
    have hlb : IsLot b := hl b (by simp)
    refine LpP.use (LpP.allI (ns := a) (fun s => b.flatMap fun r => (addedF s r).map .int) rfl fun m hm => EmP.more ?_) (len_flat hla hlb).1 ?_
    · repeat (first | walk_at "m" | walk_at "l")
      refine Op2.itemL (x := .tuple (b.map .int)) (by decide) (by decide) rfl (iAEA rfl _ Iter.tuple ?_)
      refine LpP.allI (ns := b) (fun r => (addedF m r).map .int) rfl fun m2 hm2 => EmP.more ?_
      repeat (first | walk_at "m" | walk_at "l")
      refine f_added G _ (lot_mem hla hm) (lot_mem hlb hm2) (iAEA rfl _ (Iter.list (by rw [List.length_map]; exact added_len)) ?_)
      refine LpP.eachI (ns := addedF m m2) PyData.int rfl fun m3 hm3 => ?_
      repeat (first | walk_at "m" | walk_at "l")
    · repeat (first | walk_at "m" | walk_at "l")
      rw [show (a.flatMap fun s => b.flatMap fun r => (addedF s r).map PyData.int) = (a.flatMap fun s => b.flatMap fun r => addedF s r).map .int by simp only [List.map_flatMap]]
      refine f_made G _ _ ?_
      repeat (first | walk_at "m" | walk_at "l")
      exact .inl q
  · skip
    repeat (first | walk_at "m" | walk_at "l")
    refine Op2.isNotN rfl (iEAA _ rfl (fun hc => (nomatch hc)) (fun _ => ?_))
    repeat (first | walk_at "m" | walk_at "l")
    refine LpP.use (LpP.eachD (xs := List.map told [a, b]) untold rfl fun m hm => ?_) (by simp) ?_
    · repeat (first | walk_at "m" | walk_at "l")
      (refine xEA (List.mem_map.mp hm) fun l ml ee10 => ?_; subst ee10)
      refine f_signs G _ (hl l ml) (hne l ml) ?_
      rw [untold_told (hl l ml) (hne l ml)]
      repeat (first | walk_at "m" | walk_at "l")
    rw [untold_all hl hne]
    repeat (first | walk_at "m" | walk_at "l")
    refine Op2.eq (by decide +kernel) (by decide +kernel) (iEAA _ rfl (fun hc => absurd hc (by decide +kernel)) (fun _ => ?_))
    repeat (first | walk_at "m" | walk_at "l")
    refine Op2.eq (by decide +kernel) (by decide +kernel) (iEAA _ rfl (fun hc => absurd hc (by decide +kernel)) (fun _ => ?_))
    repeat (first | walk_at "m" | walk_at "l")
    refine Op2.eq (by decide +kernel) (by decide +kernel) (iEAA _ rfl (fun _ => ?_) (fun hc => absurd hc (by decide +kernel)))
    repeat (first | walk_at "m" | walk_at "l")
    refine Op2.itemL (x := .tuple (a.map .int)) (by decide) (by decide) rfl ?_
    repeat (first | walk_at "m" | walk_at "l")
    have hla : IsLot a := hl a (by simp)
    have hlb : IsLot b := hl b (by simp)
    refine LpP.use (LpP.allI (ns := a) (fun s => b.map fun r => .int (s * r)) rfl fun m hm => EmP.more ?_) (len_flat hla hlb).2 ?_
    · repeat (first | walk_at "m" | walk_at "l")
      refine Op2.itemL (x := .tuple (b.map .int)) (by decide) (by decide) rfl (iAEA rfl _ Iter.tuple ?_)
      refine LpP.eachI (ns := b) (fun r => .int (m * r)) rfl fun m2 hm2 => ?_
      repeat (first | walk_at "m" | walk_at "l")
      refine Op2.mul ?_ (mul_ok (lot_mem hla hm) (lot_mem hlb hm2))
      repeat (first | walk_at "m" | walk_at "l")
    · repeat (first | walk_at "m" | walk_at "l")
      rw [show (a.flatMap fun s => b.map fun r => PyData.int (s * r)) = (a.flatMap fun s => b.map fun r => s * r).map .int by simp only [List.map_flatMap, List.map_map]; rfl]
      refine f_made G _ _ ?_
      repeat (first | walk_at "m" | walk_at "l")
      exact .inl q
theorem f_of_node (G : Gnd h₀ (KF w.params) mg mb) (hS : H.get (.r .sgn) = some (.inst 65 [])) {k : Kd} {ls : List (List Int)} (hl : ∀ l ∈ ls, IsLot l) (hk : ls.length = k.ar) (q : Q (.d (told (comesF k ls))) H) :
    C prog w h₀ (d + 3) (.ref 57) [.loc (.r .sgn), .d (.str k.op), .d (.list (ls.map told))] H Q := by
  match ls, hk with
  | [], hk => exact f_of_node_0 G hS hl hk.symm q
  | [a], hk => exact f_of_node_1 G hS hl hk.symm q
  | [a, b], hk => exact f_of_node_2 G hS hl hk.symm q
  | a :: b :: c :: r, hk => exfalso; cases k <;> simp [Kd.ar] at hk
end

end L3ex

noncomputable section L3fx
open PySem PySem.W PySem.Calls PyProof.Rows
set_option Elab.async false
set_option linter.unusedVariables false
set_option maxRecDepth 100000
seal PySem.compareOp PySem.binaryOp PySem.unaryOp E T Ts Es C Op1 Op2 S Ss As Ifs Lp Em Op3 Iter GM Unp
--NOMACROS
noncomputable abbrev Nd := Kd × List Nat
noncomputable def nkey (x : Nd) : List Atom := .s x.1.op :: x.2.map fun (k : Nat) => Atom.i k
noncomputable def natPy (l : List Nat) : List PyData := l.map fun (k : Nat) => .int k
noncomputable def nodePy (x : Nd) : PyData := .tuple (.str x.1.op :: natPy x.2)
theorem nodePy_key (x : Nd) : nodePy x = .tuple ((nkey x).map Atom.py) := by
  unfold nodePy nkey natPy
  rw [List.map_cons, List.map_map]; rfl
noncomputable def natD (n : Nat) : MV := .d (.int n)
noncomputable def natsO (l : List Nat) : MO := .list (l.map natD)
theorem natsO_ints (l : List Nat) : natsO l = .list ((natPy l).map .d) := by
  unfold natsO natPy
  rw [List.map_map]; rfl

structure HS where
  nodes : List Nd
  wts : List Int
  deps : List Int
  uab : List Nat
  lots : List (List Nat)
  mrg : List PyData
  edges : List PyData
  forest : List PyData
  known : List (Nd × Nat)
  hab : List (Nat × Nat)
  abv : List (List Nat)
  wait : List Nat
structure KS where
  vals : List (List (Nat × List Int))
  cur : Nat
noncomputable def numsOf (l : List Nd) : List (List Atom × MV) := l.zipIdx.map fun p => (nkey p.1, natD p.2)
noncomputable def knownOf (l : List (Nd × Nat)) : List (List Atom × MV) := l.map fun p => (nkey p.1, natD p.2)
noncomputable def habOf (l : List (Nat × Nat)) : List (Int × MV) := l.map fun p => ((p.1 : Int), .loc (.r (.abv p.2)))
noncomputable def valsOf (l : List (Nat × List Int)) : List (Int × MV) := l.map fun p => ((p.1 : Int), .d (told p.2))
noncomputable def intsO (l : List Int) : MO := .list ((l.map .int).map .d)
noncomputable def HS.role (h : HS) : Role → Option MO
  | .hp => some (.inst 490 [("bank", .loc (.r .bank)), ("unions", .loc (.r .uns)), ("edges", .loc (.r .edges)), ("forest", .loc (.r .forest)), ("known", .loc (.r .known)), ("above", .loc (.r .hab)), ("waiting", .loc (.r .wait))])
  | .bank => some (.inst 276 [("nodes", .loc (.r .nodes)), ("numbers", .loc (.r .nums)), ("weights", .loc (.r .wts)), ("depths", .loc (.r .deps))])
  | .uns => some (.inst 358 [("above", .loc (.r .uab)), ("lots", .loc (.r .lots)), ("merged", .loc (.r .mrg))])
  | .nodes => some (.list ((h.nodes.map nodePy).map .d))
  | .nums => some (.dictT (numsOf h.nodes))
  | .wts => some (intsO h.wts)
  | .deps => some (intsO h.deps)
  | .uab => some (natsO h.uab)
  | .lots => some (.list (lotsOf h.lots.length))
  | .lot k => h.lots[k]?.map natsO
  | .mrg => some (.list (h.mrg.map .d))
  | .edges => some (.list (h.edges.map .d))
  | .forest => some (.list (h.forest.map .d))
  | .known => some (.dictT (knownOf h.known))
  | .hab => some (.dictI (habOf h.hab))
  | .abv j => h.abv[j]?.map natsO
  | .wait => some (natsO h.wait)
  | _ => none
noncomputable def KS.role (k : KS) : Role → Option MO
  | .keep => some (.inst 122 [("heap", .loc (.r .hp)), ("analysis", .loc (.r .sgn)), ("values", .loc (.r (.vals k.cur))), ("told", .loc (.r .told))])
  | .vals j => k.vals[j]?.map fun l => .dictI (valsOf l)
  | .told => some (.dictI [])
  | _ => none
noncomputable def feedO (cs : List Int) (a : Nat) : MO := .dictS [("cells", .d (.list (cs.map .int))), ("at", natD a)]
noncomputable def kRole : Option KS → Role → Option MO
  | none, _ => none
  | some k, x => k.role x
noncomputable def roles (cs : List Int) (a : Nat) (h : HS) (k : Option KS) : Role → Option MO
  | .feed => some (feedO cs a)
  | .sgn => some (.inst 65 [])
  | .keep => kRole k .keep
  | .vals j => kRole k (.vals j)
  | .told => kRole k .told
  | x => h.role x
structure Cx where
  cs : List Int
  a : Nat
  k : Option KS
noncomputable def MK (c : Cx) (h : HS) (T : List MO) : MH := ⟨roles c.cs c.a h c.k, T⟩
theorem mh_ext {H H' : MH} (h : ∀ y, H.r y = H'.r y) (t : H.t = H'.t) : H = H' := by
  cases H; cases H'
  congr
  exact funext h
variable {c : Cx} {h : HS} {T : List MO} {o : MO}
theorem mk_wait {l : List Nat} (e : o = natsO l) : (MK c h T).put (.r .wait) o = MK c { h with wait := l } T := by
  subst e
  exact mh_ext (fun y => by cases y <;> rfl) rfl
theorem mk_uab {l : List Nat} (e : o = natsO l) : (MK c h T).put (.r .uab) o = MK c { h with uab := l } T := by
  subst e
  exact mh_ext (fun y => by cases y <;> rfl) rfl
theorem mk_wts {l : List Int} (e : o = intsO l) : (MK c h T).put (.r .wts) o = MK c { h with wts := l } T := by
  subst e
  exact mh_ext (fun y => by cases y <;> rfl) rfl
theorem mk_deps {l : List Int} (e : o = intsO l) : (MK c h T).put (.r .deps) o = MK c { h with deps := l } T := by
  subst e
  exact mh_ext (fun y => by cases y <;> rfl) rfl
theorem mk_mrg {l : List PyData} (e : o = .list (l.map .d)) : (MK c h T).put (.r .mrg) o = MK c { h with mrg := l } T := by
  subst e
  exact mh_ext (fun y => by cases y <;> rfl) rfl
theorem mk_edges {l : List PyData} (e : o = .list (l.map .d)) : (MK c h T).put (.r .edges) o = MK c { h with edges := l } T := by
  subst e
  exact mh_ext (fun y => by cases y <;> rfl) rfl
theorem mk_forest {l : List PyData} (e : o = .list (l.map .d)) : (MK c h T).put (.r .forest) o = MK c { h with forest := l } T := by
  subst e
  exact mh_ext (fun y => by cases y <;> rfl) rfl
theorem mk_known {l : List (Nd × Nat)} (e : o = .dictT (knownOf l)) : (MK c h T).put (.r .known) o = MK c { h with known := l } T := by
  subst e
  exact mh_ext (fun y => by cases y <;> rfl) rfl
theorem mk_hab {l : List (Nat × Nat)} (e : o = .dictI (habOf l)) : (MK c h T).put (.r .hab) o = MK c { h with hab := l } T := by
  subst e
  exact mh_ext (fun y => by cases y <;> rfl) rfl
theorem mk_nodes {x : Nd} {o o' : MO} (e : o = .dictT (numsOf (h.nodes ++ [x]))) (e' : o' = .list (((h.nodes ++ [x]).map nodePy).map .d)) : ((MK c h T).put (.r .nums) o).put (.r .nodes) o' = MK c { h with nodes := h.nodes ++ [x] } T := by
  subst e; subst e'
  exact mh_ext (fun y => by cases y <;> rfl) rfl
theorem mk_lots {x : List Nat} {o o' : MO} (e : o = natsO x) (e' : o' = .list (lotsOf (h.lots.length + 1))) : ((MK c h T).add (.r (.lot h.lots.length)) o).put (.r .lots) o' = MK c { h with lots := h.lots ++ [x] } T := by
  subst e; subst e'
  refine mh_ext (fun y => ?_) rfl
  cases y with
  | lot k =>
    show (if (Role.lot k = Role.lots) then some (MO.list (lotsOf (h.lots.length + 1))) else if (Role.lot k = Role.lot h.lots.length) then some (natsO x) else (h.lots[k]?).map natsO) = ((h.lots ++ [x])[k]?).map natsO
    rw [if_neg (by simp)]
    split
    · rename_i e
      cases e
      simp
    · rename_i e
      by_cases hk : k < h.lots.length
      · rw [List.getElem?_append_left hk]
      · have : k ≠ h.lots.length := fun q => e (by rw [q])
        rw [List.getElem?_eq_none (by lia), List.getElem?_eq_none (by simp; lia)]
  | lots => show some _ = some (MO.list (lotsOf (h.lots ++ [x]).length)); rw [List.length_append]; rfl
  | _ => rfl
theorem mk_lot {j : Nat} {x : List Nat} (hj : j < h.lots.length) (e : o = natsO x) : (MK c h T).put (.r (.lot j)) o = MK c { h with lots := h.lots.set j x } T := by
  subst e
  refine mh_ext (fun y => ?_) rfl
  cases y with
  | lot k =>
    show (if _ then _ else (h.lots[k]?).map natsO) = ((h.lots.set j x)[k]?).map natsO
    rw [List.getElem?_set]
    by_cases e : k = j
    · subst e; simp [hj]
    · rw [if_neg (by simpa using e), if_neg (fun q => e q.symm)]
  | lots => show some (MO.list (lotsOf h.lots.length)) = some (MO.list (lotsOf (h.lots.set j x).length)); rw [List.length_set]
  | _ => rfl
theorem mk_abv {x : List Nat} (e : o = natsO x) : (MK c h T).add (.r (.abv h.abv.length)) o = MK c { h with abv := h.abv ++ [x] } T := by
  subst e
  refine mh_ext (fun y => ?_) rfl
  cases y with
  | abv k =>
    show (if _ then _ else (h.abv[k]?).map natsO) = ((h.abv ++ [x])[k]?).map natsO
    split
    · rename_i e
      cases e
      simp
    · rename_i e
      by_cases hk : k < h.abv.length
      · rw [List.getElem?_append_left hk]
      · have : k ≠ h.abv.length := fun q => e (by rw [q])
        rw [List.getElem?_eq_none (by lia), List.getElem?_eq_none (by simp; lia)]
  | _ => rfl
theorem mk_abvset {j : Nat} {x : List Nat} (hj : j < h.abv.length) (e : o = natsO x) : (MK c h T).put (.r (.abv j)) o = MK c { h with abv := h.abv.set j x } T := by
  subst e
  refine mh_ext (fun y => ?_) rfl
  cases y with
  | abv k =>
    show (if _ then _ else (h.abv[k]?).map natsO) = ((h.abv.set j x)[k]?).map natsO
    rw [List.getElem?_set]
    by_cases e : k = j
    · subst e; simp [hj]
    · rw [if_neg (by simpa using e), if_neg (fun q => e q.symm)]
  | _ => rfl
theorem mk_feed {a' : Nat} (e : o = feedO c.cs a') : (MK c h T).put (.r .feed) o = MK { c with a := a' } h T := by
  subst e
  exact mh_ext (fun y => by cases y <;> rfl) rfl
theorem mk_tmp {k : Nat} : (MK c h T).put (.tmp k) o = MK c h (T.set k o) := rfl
theorem mk_add {k : Nat} : (MK c h T).add (.tmp k) o = MK c h (T ++ [o]) := rfl
/-- the keeper's values: a new dict -/
theorem mk_vals {cs : List Int} {a : Nat} {k : KS} (e : o = .dictI []) : (MK ⟨cs, a, some k⟩ h T).add (.r (.vals k.vals.length)) o = MK ⟨cs, a, some { k with vals := k.vals ++ [[]] }⟩ h T := by
  subst e
  refine mh_ext (fun y => ?_) rfl
  cases y with
  | vals j =>
    show (if _ then _ else (k.vals[j]?).map fun l => MO.dictI (valsOf l)) = ((k.vals ++ [[]])[j]?).map fun l => MO.dictI (valsOf l)
    split
    · rename_i e
      cases e
      simp [valsOf]
    · rename_i e
      by_cases hk : j < k.vals.length
      · rw [List.getElem?_append_left hk]
      · have : j ≠ k.vals.length := fun q => e (by rw [q])
        rw [List.getElem?_eq_none (by lia), List.getElem?_eq_none (by simp; lia)]
  | _ => rfl
theorem mk_valsset {cs : List Int} {a : Nat} {k : KS} {j : Nat} {x : List (Nat × List Int)} (hj : j < k.vals.length) (e : o = .dictI (valsOf x)) :
    (MK ⟨cs, a, some k⟩ h T).put (.r (.vals j)) o = MK ⟨cs, a, some { k with vals := k.vals.set j x }⟩ h T := by
  subst e
  refine mh_ext (fun y => ?_) rfl
  cases y with
  | vals i =>
    show (if _ then _ else (k.vals[i]?).map fun l => MO.dictI (valsOf l)) = ((k.vals.set j x)[i]?).map fun l => MO.dictI (valsOf l)
    rw [List.getElem?_set]
    by_cases e : i = j
    · subst e; simp [hj]
    · rw [if_neg (by simpa using e), if_neg (fun q => e q.symm)]
  | _ => rfl
theorem mk_keep {cs : List Int} {a : Nat} {k : KS} {j : Nat}
    (e : o = .inst 122 [("heap", .loc (.r .hp)), ("analysis", .loc (.r .sgn)), ("values", .loc (.r (.vals j))), ("told", .loc (.r .told))]) :
    (MK ⟨cs, a, some k⟩ h T).put (.r .keep) o = MK ⟨cs, a, some { k with cur := j }⟩ h T := by
  subst e
  exact mh_ext (fun y => by cases y <;> rfl) rfl
/-- what a role holds names no temporary thing -/
theorem okV_d {n : Nat} {x : PyData} : okV n (.d x) := .d x
theorem okV_r {n : Nat} {x : Role} : okV n (.loc (.r x)) := .loc trivial
theorem ok_ds {n : Nat} {l : List PyData} : okO n (.list (l.map .d)) := fun v m => by
  (refine xEA (List.mem_map.mp m) fun x _ ee1 => ?_; subst ee1)
  exact okV_d
theorem ok_nats {n : Nat} {l : List Nat} : okO n (natsO l) := by rw [natsO_ints]; exact ok_ds
theorem role_ok {n : Nat} : ∀ x o, roles c.cs c.a h c.k x = some o → okO n o := by
  intro x o e
  have nt : ∀ {l : Option (List Nat)} {o : MO}, l.map natsO = some o → okO n o := by
    intro l o e
    cases l with
    | none => cases e
    | some l => cases e; exact ok_nats
  cases x with
  | feed => cases e; intro v m; simp at m; rcases m with rfl | rfl <;> exact okV_d
  | sgn => cases e; intro v m; cases m
  | hp => cases e; intro v m; simp at m; rcases m with rfl | rfl | rfl | rfl | rfl | rfl | rfl <;> exact okV_r
  | bank => cases e; intro v m; simp at m; rcases m with rfl | rfl | rfl | rfl <;> exact okV_r
  | uns => cases e; intro v m; simp at m; rcases m with rfl | rfl | rfl <;> exact okV_r
  | keep =>
    cases hk : c.k with
    | none => rw [hk] at e; cases e
    | some k => rw [hk] at e; cases e; intro v m; simp at m; rcases m with rfl | rfl | rfl | rfl <;> exact okV_r
  | nodes => cases e; exact ok_ds
  | nums => cases e; intro v m; (refine xEA (List.mem_map.mp m) fun p _ ee2 => ?_; subst ee2); exact okV_d
  | wts => cases e; exact ok_ds
  | deps => cases e; exact ok_ds
  | uab => cases e; exact ok_nats
  | lots => cases e; intro v m; (refine xEA (List.mem_map.mp m) fun p _ ee3 => ?_; subst ee3); exact okV_r
  | mrg => cases e; exact ok_ds
  | edges => cases e; exact ok_ds
  | forest => cases e; exact ok_ds
  | known => cases e; intro v m; (refine xEA (List.mem_map.mp m) fun p _ ee4 => ?_; subst ee4); exact okV_d
  | hab => cases e; intro v m; (refine xEA (List.mem_map.mp m) fun p _ ee5 => ?_; subst ee5); exact okV_r
  | wait => cases e; exact ok_nats
  | vals j =>
    cases hk : c.k with
    | none => rw [hk] at e; cases e
    | some k =>
      rw [hk] at e
      have e : (k.vals[j]?).map (fun l => MO.dictI (valsOf l)) = some o := e
      cases hv : k.vals[j]? with
      | none => rw [hv] at e; cases e
      | some l => rw [hv] at e; cases e; intro v m; (refine xEA (List.mem_map.mp m) fun p _ ee6 => ?_; subst ee6); exact okV_d
  | told =>
    cases hk : c.k with
    | none => rw [hk] at e; cases e
    | some k => rw [hk] at e; cases e; intro v m; cases m
  | lot k => exact nt e
  | abv k => exact nt e
noncomputable def TD (T : List MO) : Prop := ∀ o ∈ T, ∀ n, okO n o
theorem mk_ok {n : Nat} (hT : TD T) (T' : List MO) (hn : n = T.length) : okH n (MK c h (T ++ T')) := by
  subst hn
  refine ⟨role_ok, fun k o hk e => ?_⟩
  have e : (T ++ T')[k]? = some o := e
  rw [List.getElem?_append_left hk] at e
  exact hT o (List.mem_of_getElem? e) _
theorem mk_cut (T' : List MO) : cut (MK c h (T ++ T')) T.length = MK c h T := by
  show MH.mk _ _ = _
  congr
  show (T ++ T').take T.length = T
  rw [List.take_left']
  rfl
/-- a call's temporaries fall away -/
theorem back_drop {Q : MV → MH → Prop} {v : MV} (hT : TD T) (T' : List MO) (hv : okV T.length v) (q : Q v (MK c h T)) {H : MH} (hn : H.next = T.length) : Back H Q v (MK c h (T ++ T')) :=
  .inr (iEAAAA T.length (by lia) (by show _ ≤ (T ++ T').length; rw [List.length_append]; lia) hv (mk_ok hT T' rfl) (by rw [mk_cut]; exact q))

end L3fx

noncomputable section L4ax
open PySem PySem.W PySem.Calls PyProof.Rows
set_option Elab.async false
set_option linter.unusedVariables false
set_option maxRecDepth 100000
seal PySem.compareOp PySem.binaryOp PySem.unaryOp E T Ts Es C Op1 Op2 S Ss As Ifs Lp Em Op3 Iter GM Unp
--NOMACROS
noncomputable def root (u : List Nat) : Nat → Nat → Nat
  | 0, a => a
  | f + 1, a => if u.getD a a = a then a else root u f (u.getD a a)
noncomputable def rt (u : List Nat) (a : Nat) : Nat := root u a a
noncomputable def Dn (u : List Nat) : Prop := ∀ i, u.getD i i ≤ i
section
variable {u : List Nat} (D : Dn u)
include D
theorem root_up : ∀ (a f : Nat), a ≤ f → root u f a = root u a a := by
  intro a
  induction a using Nat.strongRecOn with
  | ind a ih =>
    intro f h
    have := D a
    cases a with
    | zero =>
      cases f with
      | zero => rfl
      | succ f => exact if_pos (by lia)
    | succ a =>
      cases f with
      | zero => lia
      | succ f =>
        rw [root, root]
        split
        · rfl
        · rename_i ne
          rw [ih _ (by lia) f (by lia), ih _ (by lia) a (by lia)]
theorem rt_fix {a : Nat} (e : u.getD a a = a) : rt u a = a := by
  unfold rt
  cases a with
  | zero => rfl
  | succ a => rw [root, if_pos e]
theorem rt_step {a : Nat} : rt u a = rt u (u.getD a a) := by
  by_cases e : u.getD a a = a
  · rw [e]
  · have := D a
    unfold rt
    cases a with
    | zero => lia
    | succ a =>
      rw [root, if_neg e, root_up D _ a (by lia)]
theorem rt_le (a : Nat) : rt u a ≤ a := by
  induction a using Nat.strongRecOn with
  | ind a ih =>
    by_cases e : u.getD a a = a
    · rw [rt_fix D e]; exact Nat.le_refl _
    · have := D a
      rw [rt_step D]
      have := ih (u.getD a a) (by lia)
      lia
theorem rt_root (a : Nat) : u.getD (rt u a) (rt u a) = rt u a := by
  induction a using Nat.strongRecOn with
  | ind a ih =>
    by_cases e : u.getD a a = a
    · rw [rt_fix D e]; exact e
    · have := D a
      rw [rt_step D]
      exact ih (u.getD a a) (by lia)
theorem rt_rt (a : Nat) : rt u (rt u a) = rt u a := rt_fix D (rt_root D a)
theorem rt_iff {a : Nat} : rt u a = a ↔ u.getD a a = a := ⟨fun e => by have := rt_root D a; rwa [e] at this, rt_fix D⟩
end
/-- one root set below another -/
theorem getD_set {u : List Nat} {i k v d : Nat} (hk : k < u.length) : (u.set k v).getD i d = if i = k then v else u.getD i d := by
  rw [List.getD_eq_getElem?_getD, List.getElem?_set, List.getD_eq_getElem?_getD]
  by_cases e : i = k
  · subst e; simp [hk]
  · rw [if_neg (fun q => e q.symm), if_neg e]
theorem Dn.set {u : List Nat} (D : Dn u) {k g : Nat} (hg : g < u.length) (lt : k ≤ g) : Dn (u.set g k) := fun i => by
  rw [getD_set hg]
  split
  · lia
  · exact D i
theorem rt_set {u : List Nat} (D : Dn u) {k g : Nat} (hg : g < u.length) (lt : k < g) (hk : rt u k = k) (hg2 : rt u g = g) (a : Nat) : rt (u.set g k) a = if rt u a = g then k else rt u a := by
  have D' := D.set hg (Nat.le_of_lt lt)
  induction a using Nat.strongRecOn with
  | ind a ih =>
    by_cases e : a = g
    · subst e
      rw [hg2, if_pos rfl, rt_step D', getD_set hg, if_pos rfl, rt_fix D']
      rw [getD_set hg, if_neg (by lia)]
      exact (rt_iff D).mp hk
    · by_cases e2 : u.getD a a = a
      · have r := rt_fix D e2
        rw [r, if_neg e]
        refine rt_fix D' ?_
        rw [getD_set hg, if_neg e]
        exact e2
      · have := D a
        rw [rt_step D', getD_set hg, if_neg e, ih _ (by lia), ← rt_step D]
theorem rt_snoc {u : List Nat} (D : Dn u) (a : Nat) : rt (u ++ [u.length]) a = rt u a := by
  have gd : ∀ i, (u ++ [u.length]).getD i i = u.getD i i := by
    intro i
    rw [List.getD_eq_getElem?_getD, List.getD_eq_getElem?_getD, List.getElem?_append]
    split
    · rfl
    · rename_i h
      rw [List.getElem?_eq_none (by lia : u.length ≤ i)]
      by_cases e : i = u.length
      · subst e; simp
      · rw [List.getElem?_eq_none (by simp; lia)]
  have D' : Dn (u ++ [u.length]) := fun i => by rw [gd]; exact D i
  induction a using Nat.strongRecOn with
  | ind a ih =>
    by_cases e : u.getD a a = a
    · rw [rt_fix D e, rt_fix D' (by rw [gd]; exact e)]
    · have := D a
      rw [rt_step D', gd, ih _ (by lia), ← rt_step D]
theorem Dn.snoc {u : List Nat} (D : Dn u) : Dn (u ++ [u.length]) := fun i => by
  rw [List.getD_eq_getElem?_getD, List.getElem?_append]
  have := D i
  rw [List.getD_eq_getElem?_getD] at this
  split
  · exact this
  · by_cases e : i = u.length
    · subst e; simp
    · rw [List.getElem?_eq_none (by simp; lia)]; simp
noncomputable abbrev Has (ρ : List (Str × MV)) (x : Str) (v : MV) : Prop := ρ.lookup x = some v
theorem fresh_lot {c : Cx} {h : HS} {T : List MO} : (MK c h T).fresh (.r (.lot h.lots.length)) := by
  show (h.lots[h.lots.length]?).map natsO = none
  simp
theorem fresh_abv {c : Cx} {h : HS} {T : List MO} : (MK c h T).fresh (.r (.abv h.abv.length)) := by
  show (h.abv[h.abv.length]?).map natsO = none
  simp
theorem lotsOf_succ {n : Nat} : lotsOf (n + 1) = lotsOf n ++ [.loc (.r (.lot n))] := by unfold lotsOf; rw [List.range_succ, List.map_append]; rfl
noncomputable abbrev up (l : List Nat) : List Int := l.map fun (k : Nat) => (k : Int)
theorem natPy_up {l : List Nat} : natPy l = (up l).map .int := by
  unfold natPy up
  rw [List.map_map]; rfl
theorem perm_up {ns : List Int} {l : List Nat} (p : ns.Perm (up l)) : ∃ l' : List Nat, ns = up l' ∧ l'.Perm l := by
  refine (iEA (ns.map Int.toNat) ?_ ?_)
  · unfold up
    rw [List.map_map]
    have : ∀ x ∈ ns, x = ((fun (k : Nat) => (k : Int)) ∘ Int.toNat) x := by
      intro x m
      (refine xEA (List.mem_map.mp (p.mem_iff.mp m)) fun k _ ee1 => ?_; subst ee1)
      simp
    conv => lhs; rw [← List.map_id ns]
    exact List.map_congr_left this
  · have := p.map Int.toNat
    unfold up at this
    rw [List.map_map] at this
    have e : (Int.toNat ∘ fun (k : Nat) => (k : Int)) = id := by funext k; simp
    rwa [e, List.map_id] at this
theorem beq_up {a b : Nat} : ((a : Int) == (b : Int)) = (a == b) := by
  rw [Bool.eq_iff_iff]; simp; lia
theorem lots_get {c : Cx} {h : HS} {T : List MO} {k : Nat} {l : List Nat} (e : h.lots[k]? = some l) : (MK c h T).get (.r (.lot k)) = some (natsO l) := by
  show (h.lots[k]?).map natsO = _
  rw [e]; rfl
theorem abv_get {c : Cx} {h : HS} {T : List MO} {k : Nat} {l : List Nat} (e : h.abv[k]? = some l) : (MK c h T).get (.r (.abv k)) = some (natsO l) := by
  show (h.abv[k]?).map natsO = _
  rw [e]; rfl
theorem lotsOf_at {n k : Nat} (hk : k < n) : (lotsOf n)[(k : Int).toNat]? = some (.loc (.r (.lot k))) := by
  unfold lotsOf
  rw [Int.toNat_natCast, List.getElem?_map, List.getElem?_range hk]; rfl

end L4ax


noncomputable section L4bx
open PySem PySem.W PySem.Calls PyProof.Rows
set_option Elab.async false
set_option linter.unusedVariables false
set_option maxRecDepth 100000
seal PySem.compareOp PySem.binaryOp PySem.unaryOp E T Ts Es C Op1 Op2 S Ss As Ifs Lp Em Op3 Iter GM Unp
set_option maxHeartbeats 2000000

section
variable {prog : Program} {w : World} {h₀ : Heap} {mg mb : Str → Option Value} {d : Nat} {Q : MV → MH → Prop} {c : Cx} {h : HS} {T : List MO}
theorem nat_at {u : List Nat} {b : Nat} (hb : b < u.length) : (u.map natD)[(b : Int).toNat]? = some (natD (u.getD b b)) := by
  rw [Int.toNat_natCast, List.getElem?_map, List.getElem?_eq_getElem hb, List.getD_eq_getElem?_getD, List.getElem?_eq_getElem hb]; rfl
theorem f_find (G : Gnd h₀ (KF w.params) mg mb) (D : Dn h.uab) {a : Nat} (ha : a < h.uab.length) (hn : h.uab.length ≤ 1000) (q : Q (natD (rt h.uab a)) (MK c h T)) :
    C prog w h₀ (d + 1) (.ref 315) [.loc (.r .uns), natD a] (MK c h T) Q := by
  refine C.fn G (f := 315) (names := ["self", "a"]) rfl rfl rfl (bnd2 fun _ _ => rfl) rfl ?_
  dsimp only [List.zip_cons_cons, List.zip_nil_left]
  refine Ss.cons ?_
  refine S.while (fun n ρ H => H = MK c h T ∧ Has ρ "self" (.loc (.r .uns)) ∧ ∃ b, b < h.uab.length ∧ Has ρ "a" (natD b) ∧ n = b ∧ rt h.uab b = rt h.uab a) (fun n ρ H hI => ?_) a (iAAEAAA rfl rfl a ha rfl rfl rfl)
  (refine xAAEAAA hI fun ee1 hs b hb hb2 ee2 he => ?_; clear hI; subst ee1; subst ee2)
  repeat (walk_at "m")
  have := D n
  refine Op2.itemN rfl (Int.natCast_nonneg _) (by lia) (nat_at hb) ?_
  repeat (walk_at "m")
  refine (iEAA _ rfl (fun hc => ?_) (fun hc => ?_))
  · have ne : h.uab.getD n n ≠ n := fun e => by rw [e] at hc; simp at hc
    repeat (walk_at "m")
    refine Op2.itemN rfl (Int.natCast_nonneg _) (by lia) (nat_at hb) ?_
    repeat (walk_at "m")
    exact (iEAAAEAAA _ (Nat.lt_of_le_of_ne this ne) rfl hs _ (by lia) rfl rfl (by rw [← he]; exact (rt_step D).symm))
  · have e : h.uab.getD n n = n := by simp only [bne_eq_false_iff_eq] at hc; lia
    rw [rt_fix D e] at he
    rw [← he] at q
    repeat (walk_at "m")
    exact .inl q
theorem f_make (G : Gnd h₀ (KF w.params) mg mb) (e : h.lots.length = h.uab.length) (hn : h.uab.length ≤ 100)
    (q : Q (natD h.uab.length) (MK c { h with uab := h.uab ++ [h.uab.length], lots := h.lots ++ [[h.lots.length]] } T)) :
    C prog w h₀ (d + 1) (.ref 301) [.loc (.r .uns)] (MK c h T) Q := by
  refine C.fn G (f := 301) (names := ["self"]) rfl rfl rfl (bnd1 fun _ => rfl) rfl ?_
  dsimp only [List.zip_cons_cons, List.zip_nil_left]
  repeat (walk_at "m")
  rw [mk_uab (l := h.uab ++ [h.uab.length]) (by simp [natsO, natD])]
  repeat (walk_at "m")
  refine E.listAt (.r (.lot h.lots.length)) ?_
  repeat (walk_at "m")
  refine (iAA fresh_lot (by simp) ?_)
  repeat (walk_at "m")
  rw [mk_lots (x := [h.lots.length]) (by rfl) (by rw [lotsOf_succ])]
  refine .inl ?_
  rw [show (((h.uab.length + (0 + 1) : Nat) : Int) - 1) = (h.uab.length : Nat) by lia]
  exact q
theorem f_usize (G : Gnd h₀ (KF w.params) mg mb) (hn : h.uab.length ≤ 100) (q : Q (natD h.uab.length) (MK c h T)) :
    C prog w h₀ (d + 1) (.ref 308) [.loc (.r .uns)] (MK c h T) Q := by
  refine C.fn G (f := 308) (names := ["self"]) rfl rfl rfl (bnd1 fun _ => rfl) rfl ?_
  dsimp only [List.zip_cons_cons, List.zip_nil_left]
  repeat (walk_at "m")
  exact .inl q
theorem f_uclasses (G : Gnd h₀ (KF w.params) mg mb) (hn : h.uab.length ≤ 100) (q : Q (.d (.list (natPy ((List.range h.uab.length).filter fun a => h.uab.getD a a == a)))) (MK c h T)) :
    C prog w h₀ (d + 1) (.ref 334) [.loc (.r .uns)] (MK c h T) Q := by
  refine C.fn G (f := 334) (names := ["self"]) rfl rfl rfl (bnd1 fun _ => rfl) rfl ?_
  dsimp only [List.zip_cons_cons, List.zip_nil_left]
  repeat (walk_at "m")
  refine C.range (iEA _ (Iter.range (Int.natCast_nonneg _) (by lia)) ?_)
  rw [Int.toNat_natCast]
  refine LpP.use (LpP.selR (n := h.uab.length) (fun a => h.uab.getD a a == a) (fun a => .int a) rfl (fun m hm => ?_) fun m hm hp => ?_) (by rw [List.length_map]; refine filter_le ?_; rw [List.length_range]; lia) (.inl q)
  · repeat (walk_at "m")
    refine Op2.itemN rfl (Int.natCast_nonneg _) (by lia) (nat_at hm) ?_
    repeat (walk_at "m")
    exact (iEAA _ rfl beq_up rfl)
  · repeat (walk_at "m")
theorem f_members (G : Gnd h₀ (KF w.params) mg mb) (D : Dn h.uab) {a : Nat} (ha : a < h.uab.length) (hn : h.uab.length ≤ 100) {l : List Nat} (hl : h.lots[rt h.uab a]? = some l) (h63 : l.length < 64)
    (q : ∀ l' : List Nat, l'.Perm l → Q (.d (.list (natPy l'))) (MK c h T)) :
    C prog w h₀ (d + 2) (.ref 329) [.loc (.r .uns), natD a] (MK c h T) Q := by
  refine C.fn G (f := 329) (names := ["self", "a"]) rfl rfl rfl (bnd2 fun _ _ => rfl) rfl ?_
  dsimp only [List.zip_cons_cons, List.zip_nil_left]
  repeat (walk_at "m")
  refine f_find G D ha (by lia) ?_
  refine xE (List.getElem?_eq_some_iff.mp hl) fun hk _ => ?_
  have := rt_le D a
  refine Op2.itemN rfl (Int.natCast_nonneg _) (by lia) (lotsOf_at hk) ?_
  repeat (walk_at "m")
  refine C.sortedI (P := fun ns => ns = up l) (Coll.named ((lots_get hl).trans (by rw [natsO_ints])) (by unfold natPy; rw [List.length_map]; lia) (iEAA (up l) natPy_up rfl (by rw [List.length_map]; exact h63))) fun ns ns' e p _ => ?_
  subst e
  (refine xEA (perm_up p) fun l' ee3 p' => ?_; subst ee3)
  have q' := q l' p'
  rw [natPy_up] at q'
  exact .inl q'
end

end L4bx

noncomputable section L4cx
open PySem PySem.W PySem.Calls PyProof.Rows
set_option Elab.async false
set_option linter.unusedVariables false
set_option maxRecDepth 100000
seal PySem.compareOp PySem.binaryOp PySem.unaryOp E T Ts Es C Op1 Op2 S Ss As Ifs Lp Em Op3 Iter GM Unp
set_option maxHeartbeats 2000000

theorem sort2 {x y : Nat} {ns : List Int} (p : ns.Perm [(x : Int), (y : Int)]) (s : ns.Pairwise (· ≤ ·)) : ns = [((min x y : Nat) : Int), ((max x y : Nat) : Int)] := by
  match ns, p.length_eq with
  | [a, b], _ =>
    have ma : a ∈ [(x : Int), (y : Int)] := p.mem_iff.mp (by simp)
    have mb : b ∈ [(x : Int), (y : Int)] := p.mem_iff.mp (by simp)
    have mx : (x : Int) ∈ [a, b] := p.mem_iff.mpr (by simp)
    have my : (y : Int) ∈ [a, b] := p.mem_iff.mpr (by simp)
    simp at ma mb mx my s
    have : a = ((min x y : Nat) : Int) := by lia
    have : b = ((max x y : Nat) : Int) := by lia
    simp [*]
section
variable {prog : Program} {w : World} {h₀ : Heap} {mg mb : Str → Option Value} {d : Nat} {Q : MV → MH → Prop} {c : Cx} {h : HS} {T : List MO}
theorem f_umerge (G : Gnd h₀ (KF w.params) mg mb) (D : Dn h.uab) {a b : Nat} (ha : a < h.uab.length) (hb : b < h.uab.length) (hn : h.uab.length ≤ 100) (hm : h.mrg.length ≤ 900) {k g : Nat} (hk : k = min (rt h.uab a) (rt h.uab b)) (hg : g = max (rt h.uab a) (rt h.uab b))
    {lk lg : List Nat} (hlk : h.lots[k]? = some lk) (hlg : h.lots[g]? = some lg) (hll : lk.length + lg.length ≤ 900)
    (q1 : k = g → Q (.d .none) (MK c h T))
    (q2 : k ≠ g → Q (.d (.tuple [.int k, .int g])) (MK c { h with uab := h.uab.set g k, lots := h.lots.set k (lk ++ lg), mrg := h.mrg ++ [.tuple [.int k, .int g]] } T)) :
    C prog w h₀ (d + 2) (.ref 322) [.loc (.r .uns), natD a, natD b] (MK c h T) Q := by
  refine C.fn G (f := 322) (names := ["self", "a", "b"]) rfl rfl rfl (bnd3 fun _ _ _ => rfl) rfl ?_
  dsimp only [List.zip_cons_cons, List.zip_nil_left]
  repeat (first | walk_at "m" | walk_at "l")
  refine f_find G D ha (by lia) ?_
  repeat (first | walk_at "m" | walk_at "l")
  refine f_find G D hb (by lia) ?_
  repeat (first | walk_at "m" | walk_at "l")
  refine C.sortedI (P := fun ns => ns = up [rt h.uab a, rt h.uab b]) (Coll.list (by simp) (iEAA (up [rt h.uab a, rt h.uab b]) rfl rfl (by simp))) fun ns ns' e p s => ?_
  subst e
  obtain rfl := sort2 p s
  rw [← hk, ← hg]
  have := rt_le D a
  have := rt_le D b
  refine (iEEA (.d (.int k)) (.d (.int g)) (Unp.list (by simp)) ?_)
  repeat (walk_at "m")
  refine (iEAA _ rfl (fun hc => ?_) (fun hc => ?_))
  · simp only [beq_iff_eq] at hc
    repeat (walk_at "m")
    exact .inl (q1 (by lia))
  · have ne : k ≠ g := fun e => by rw [e] at hc; simp at hc
    have q2 := q2 ne
    repeat (walk_at "m")
    refine Op3.setL (k := g) rfl (by rw [List.length_map]; lia) (by walk_at "s") ?_
    rw [mk_uab (l := h.uab.set g k) (by unfold natsO; rw [List.map_set]; rfl)]
    refine xE (List.getElem?_eq_some_iff.mp hlk) fun hk' _ => ?_
    refine xE (List.getElem?_eq_some_iff.mp hlg) fun hg' _ => ?_
    repeat (walk_at "m")
    refine Op2.itemN rfl (Int.natCast_nonneg _) (by lia) (lotsOf_at hk') ?_
    refine (methBK.mk (GM.extend (lots_get hlk)) ?_)
    repeat (walk_at "m")
    refine Op2.itemN rfl (Int.natCast_nonneg _) (by lia) (lotsOf_at hg') ?_
    repeat (walk_at "m")
    refine C.extend (fun e => ne (by cases e; rfl)) (lots_get hlk) (lots_get hlg) (by simp; lia) ?_
    rw [mk_lot (x := lk ++ lg) (by exact hk') (by unfold natsO; rw [List.map_append])]
    repeat (walk_at "m")
    rw [mk_mrg (l := h.mrg ++ [.tuple [.int k, .int g]]) (by rw [List.map_append]; rfl)]
    exact .inl q2
end

end L4cx

noncomputable section L4dx
open PySem PySem.W PySem.Calls PyProof.Rows
set_option Elab.async false
set_option linter.unusedVariables false
set_option maxRecDepth 100000
seal PySem.compareOp PySem.binaryOp PySem.unaryOp E T Ts Es C Op1 Op2 S Ss As Ifs Lp Em Op3 Iter GM Unp
set_option maxHeartbeats 2000000

section
variable {prog : Program} {w : World} {h₀ : Heap} {mg mb : Str → Option Value} {d : Nat} {H : MH} {Q : MV → MH → Prop}
unseal Op2 in
theorem Op2.itemS0 {value slice : Expr} {x : Str} {c : Nat} (hc : (seqIndex? 0 x.length).bind (x.cps[·]?) = some c) (q : Q (.d (.str ⟨#[c]⟩)) H) (hs : PlainSub slice := by intro _ _ _; rfl) :
    Op2 prog w h₀ d (subscriptTail value slice) (.d (.str x)) (.d (.int 0)) H Q := by
  intro A s W u v a R ru rv
  (refine xE (of_int rv) fun t ee1 => ?_; subst ee1)
  (refine xE (of_str ru) fun t' ee2 => ?_; subst ee2)
  exact tail_any (typeIs_str _ _ _) F.slot_str_getitem.lookup (P.getItem_str (by decide) hc (.toks R rfl ⟨rfl, rfl⟩ (iEA _ q vr_str))) (hs _ _ _)
noncomputable def badSign : PyData → Bool
  | .str x => Txt.isspace x || !(Builtin.Str.occurrences "()[]{},:" x 0 (Str.ofString "()[]{},:").length 1).isEmpty
  | _ => false
theorem badSign_str {x : Str} : badSign (.str x) = (Txt.isspace x || !(Builtin.Str.occurrences "()[]{},:" x 0 (Str.ofString "()[]{},:").length 1).isEmpty) := rfl
theorem kd_facts (k : Kd) : (k.op != "") = true ∧ k.op.cps.all (· < 128) = true ∧ (chars k.op).length ≤ 10 ∧ (chars k.op).filter badSign = [] ∧ ∃ c, (seqIndex? 0 k.op.length).bind (k.op.cps[·]?) = some c ∧ ((⟨#[c]⟩ : Str) == "?") = false := by
  cases k <;> exact (iAAAAEA (by decide +kernel) (by decide +kernel) (by decide +kernel) (List.isEmpty_iff.mp (by decide +kernel)) _ rfl (by decide +kernel))
theorem f_is_op (G : Gnd h₀ (KF w.params) mg mb) {k : Kd} (q : Q (.d (.bool true)) H) : C prog w h₀ (d + 1) (.ref 172) [.d (.str k.op)] H Q := by
  refine xAAAA (kd_facts k) fun k1 k2 k3 k4 _ => ?_
  refine C.fn G (f := 172) (names := ["text"]) rfl rfl rfl (bnd1 fun _ => rfl) rfl ?_
  dsimp only [List.zip_cons_cons, List.zip_nil_left]
  repeat (first | walk_at "m" | refine E.and2 ?_ | refine Op2.neS ?_)
  refine (iEAA _ rfl (fun _ => ?_) (fun hc => absurd (k1.symm.trans hc) (by decide)))
  repeat (walk_at "m")
  refine (iEA _ (Iter.str k2) ?_)
  rw [show (k.op.cps.toList.map fun c => MV.d (.str ⟨#[c]⟩)) = (chars k.op).map .d by rw [chars, List.map_map]; rfl]
  refine LpP.use (LpP.selD (xs := chars k.op) badSign (fun x => x) rfl (fun m hm => ?_) fun m hm hp => ?_) (by rw [k4]; simp) ?_
  · (refine xE (of_chars hm) fun y ee4 => ?_; subst ee4)
    repeat (walk_at "m")
    refine (iEAA _ rfl (fun hc => ?_) (fun hc => ⟨?_, rfl⟩))
    · repeat (walk_at "m")
      refine Op2.inS (iEAA _ rfl (fun hc2 => ?_) (fun hc2 => ⟨?_, rfl⟩))
      · repeat (walk_at "m")
        exact ⟨by rw [badSign_str, hc, hc2]; rfl, rfl⟩
      · rw [badSign_str, hc, hc2]; rfl
    · rw [badSign_str, hc]; rfl
  · repeat (walk_at "m")
  · rw [k4]
    repeat (first | walk_at "m" | walk_at "l")
    exact Op2.eq (by decide +kernel) (by decide +kernel) (.inl q)
theorem f_require (G : Gnd h₀ (KF w.params) mg mb) {self : MV} {k : Kd} (q : Q (.d .none) H) : C prog w h₀ (d + 2) (.ref 205) [self, .d (.str k.op)] H Q := by
  refine xAAAAEA (kd_facts k) fun _ _ _ _ c k5 k6 => ?_
  refine C.fn G (f := 205) (names := ["self", "op"]) rfl rfl rfl (bnd2 fun _ _ => rfl) rfl ?_
  dsimp only [List.zip_cons_cons, List.zip_nil_left]
  repeat (walk_at "m")
  refine f_is_op G ?_
  repeat (walk_at "m")
  refine Op2.itemS0 k5 ?_
  repeat (walk_at "m")
  try refine Op2.eqS ?_
  refine (iEAA _ rfl (fun _ => ?_) (fun hc => absurd (k6.symm.trans hc) (by decide)))
  repeat (walk_at "m")
  exact .inl q
variable {c : Cx} {h : HS} {T : List MO}
theorem node_at {l : List Nd} {n : Nat} {x : Nd} (e : l[n]? = some x) : ((l.map nodePy).map MV.d)[(n : Int).toNat]? = some (.d (nodePy x)) := by
  rw [Int.toNat_natCast, List.getElem?_map, List.getElem?_map, e]; rfl
theorem f_bsize (G : Gnd h₀ (KF w.params) mg mb) (hn : h.nodes.length ≤ 100) (q : Q (natD h.nodes.length) (MK c h T)) : C prog w h₀ (d + 1) (.ref 193) [.loc (.r .bank)] (MK c h T) Q := by
  refine C.fn G (f := 193) (names := ["self"]) rfl rfl rfl (bnd1 fun _ => rfl) rfl ?_
  dsimp only [List.zip_cons_cons, List.zip_nil_left]
  repeat (walk_at "m")
  exact .inl q
theorem f_bop (G : Gnd h₀ (KF w.params) mg mb) {n : Nat} {x : Nd} (e : h.nodes[n]? = some x) (hn : h.nodes.length ≤ 100) (q : Q (.d (.str x.1.op)) (MK c h T)) : C prog w h₀ (d + 1) (.ref 233) [.loc (.r .bank), natD n] (MK c h T) Q := by
  refine C.fn G (f := 233) (names := ["self", "n"]) rfl rfl rfl (bnd2 fun _ _ => rfl) rfl ?_
  dsimp only [List.zip_cons_cons, List.zip_nil_left]
  refine xE (List.getElem?_eq_some_iff.mp e) fun hlt _ => ?_
  repeat (walk_at "m")
  refine Op2.itemN rfl (Int.natCast_nonneg _) (by lia) (node_at e) ?_
  repeat (walk_at "m")
  refine Op2.itemT (by decide) (by decide) rfl ?_
  exact .inl q
theorem f_bkids (G : Gnd h₀ (KF w.params) mg mb) {n : Nat} {x : Nd} (e : h.nodes[n]? = some x) (hn : h.nodes.length ≤ 100) (hk : x.2.length ≤ 900) (q : Q (.d (.tuple (natPy x.2))) (MK c h T)) : C prog w h₀ (d + 1) (.ref 240) [.loc (.r .bank), natD n] (MK c h T) Q := by
  refine C.fn G (f := 240) (names := ["self", "n"]) rfl rfl rfl (bnd2 fun _ _ => rfl) rfl ?_
  dsimp only [List.zip_cons_cons, List.zip_nil_left]
  refine xE (List.getElem?_eq_some_iff.mp e) fun hlt _ => ?_
  repeat (walk_at "m")
  try refine E.sliceT1' ?_
  repeat (walk_at "m")
  refine Op2.itemN rfl (Int.natCast_nonneg _) (by lia) (node_at e) ?_
  refine (iEAAA _ rfl (by simp) (by unfold natPy; simp; lia) ?_)
  exact .inl q
end

end L4dx


noncomputable section L4ex
open PySem PySem.W PySem.Calls PyProof.Rows
set_option Elab.async false
set_option linter.unusedVariables false
set_option maxRecDepth 100000
seal PySem.compareOp PySem.binaryOp PySem.unaryOp E T Ts Es C Op1 Op2 S Ss As Ifs Lp Em Op3 Iter GM Unp
set_option maxHeartbeats 2000000

theorem op_inj : ∀ {a b : Kd}, a.op = b.op → a = b := by
  intro a b e
  have e : (a.op == b.op) = true := by rw [e]; exact beq_self_eq_true _
  revert e
  cases a <;> cases b <;> first | exact fun _ => rfl | (intro e; exact absurd e (by decide +kernel))
theorem nkey_inj {x y : Nd} (e : nkey x = nkey y) : x = y := by
  obtain ⟨a, l⟩ := x
  obtain ⟨b, m⟩ := y
  unfold nkey at e
  injection e with e1 e2
  injection e1 with e1
  have := op_inj e1
  subst this
  congr 1
  have : ∀ {l m : List Nat}, l.map (fun (k : Nat) => Atom.i k) = m.map (fun (k : Nat) => Atom.i k) → l = m := by
    intro l
    induction l with
    | nil => intro m e; cases m <;> simp at e ⊢
    | cons a l ih =>
      intro m e
      cases m with
      | nil => simp at e
      | cons b m =>
        simp only [List.map_cons, List.cons.injEq] at e
        obtain ⟨e1, e2⟩ := e
        injection e1 with e1
        rw [ih e2, Int.ofNat.inj e1]
  exact this e2
theorem nums_get {x : Nd} {m : MV} {l : List Nd} (e : getK (numsOf l) (nkey x) = some m) : ∃ i, m = natD i ∧ l[i]? = some x := by
  unfold getK numsOf at e
  rw [Option.map_eq_some_iff] at e
  obtain ⟨p, e, rfl⟩ := e
  have e1 := List.find?_some e
  have e2 := List.mem_of_find?_eq_some e
  (refine xEA (List.mem_map.mp e2) fun q hq ee1 => ?_; subst ee1)
  simp only [decide_eq_true_eq] at e1
  exact (iEA q.2 rfl (by rw [← nkey_inj e1]; exact List.mem_zipIdx_iff_getElem?.mp hq))
theorem nums_none {x : Nd} {l : List Nd} (e : getK (numsOf l) (nkey x) = none) (i : Nat) : l[i]? ≠ some x := by
  intro h
  unfold getK numsOf at e
  rw [Option.map_eq_none_iff, List.find?_eq_none] at e
  have := e (nkey x, natD i) (List.mem_map.mpr (iEA ((x, i)) (List.mem_zipIdx_iff_getElem?.mpr h) rfl))
  simp at this
theorem nums_snoc {x : Nd} {l : List Nd} : numsOf (l ++ [x]) = numsOf l ++ [(nkey x, natD l.length)] := by
  unfold numsOf
  rw [List.zipIdx_append, List.map_append]
  simp
theorem node_form {k : Kd} {ks : List Nat} : PyData.tuple ([.str k.op] ++ natPy ks) = .tuple ((nkey (k, ks)).map Atom.py) := nodePy_key (k, ks)
theorem nkey_drop {k : Kd} {ks : List Nat} : ((nkey (k, ks)).map Atom.py).drop 1 = natPy ks := by
  unfold nkey natPy
  rw [List.map_cons, List.drop_one, List.tail_cons, List.map_map]; rfl
theorem subR1 {ρ : List (Str × MV)} {l : List (Str × NameKind)} {x : Str} {v : MV} (e : fvs l = [x]) (h : Has ρ x v) : subR (fvs l) ρ = [(x, v)] := by
  rw [e]
  simp only [subR]
  rw [show ρ.lookup x = some v from h]
theorem int_at {l : List Int} {a : Nat} (ha : a < l.length) : ((l.map PyData.int).map MV.d)[(a : Int).toNat]? = some (.d (.int (l.getD (a : Int).toNat 0))) := by
  rw [Int.toNat_natCast, List.getElem?_map, List.getElem?_map, List.getElem?_eq_getElem ha, List.getD_eq_getElem?_getD, List.getElem?_eq_getElem ha]; rfl
theorem map_int (f : Int → Int) (l : List Int) : l.map (fun i => PyData.int (f i)) = (l.map f).map .int := by rw [List.map_map]; rfl
theorem nkey_len {k : Kd} {ks : List Nat} : ((nkey (k, ks)).map Atom.py).length = ks.length + 1 := by
  unfold nkey
  simp
theorem natPy_at {ks : List Nat} {i : Nat} {m : MV} (e : ((natPy ks).map MV.d)[i]? = some m) : ∃ a ∈ ks, m = natD a := by
  (refine xEA (List.mem_map.mp (List.mem_of_getElem? e)) fun x hx ee2 => ?_; subst ee2)
  unfold natPy at hx
  (refine xEA (List.mem_map.mp hx) fun a ha ee3 => ?_; subst ee3)
  exact (iEA a ha rfl)
section
variable {prog : Program} {w : World} {h₀ : Heap} {mg mb : Str → Option Value} {d : Nat} {Q : MV → MH → Prop} {c : Cx} {h : HS} {T : List MO}
theorem f_take (G : Gnd h₀ (KF w.params) mg mb) {k : Kd} {ks : List Nat} (hn : h.nodes.length ≤ 100) (hw : h.wts.length = h.nodes.length) (hd' : h.deps.length = h.nodes.length) (hk : ∀ i ∈ ks, i < h.nodes.length) (hks : ks.length ≤ 10)
    (q1 : ∀ i, h.nodes[i]? = some (k, ks) → Q (natD i) (MK c h T))
    (q2 : ∀ wt dp, (∀ i : Nat, h.nodes[i]? ≠ some (k, ks)) → Q (natD h.nodes.length) (MK c { h with nodes := h.nodes ++ [(k, ks)], wts := h.wts ++ [wt], deps := h.deps ++ [dp] } T)) :
    C prog w h₀ (d + 3) (.ref 198) [.loc (.r .bank), .d (.str k.op), .d (.tuple (natPy ks))] (MK c h T) Q := by
  refine C.fn G (f := 198) (names := ["self", "op", "kids"]) rfl rfl rfl (bnd3 fun _ _ _ => rfl) rfl ?_
  dsimp only [List.zip_cons_cons, List.zip_nil_left]
  have hl : (natPy ks).length ≤ 10 := by unfold natPy; simpa using hks
  repeat (walk_at "m")
  refine Op2.addT (by simp; lia) ?_
  repeat (walk_at "m")
  rw [node_form]
  refine Op2.inDT rfl (iEAA _ rfl (fun hc => ?_) (fun hc => ?_))
  · cases hg : getK (numsOf h.nodes) (nkey (k, ks)) with
    | none => rw [hg] at hc; cases hc
    | some m =>
      (refine xEA (nums_get hg) fun i ee4 hi => ?_; subst ee4)
      repeat (walk_at "m")
      exact Op2.itemDT rfl hg (.inl (q1 i hi))
  · have hg : getK (numsOf h.nodes) (nkey (k, ks)) = none := by
      cases hg : getK (numsOf h.nodes) (nkey (k, ks)) with
      | none => rfl
      | some m => rw [hg] at hc; cases hc
    have q2 := fun wt dp => q2 wt dp (nums_none hg)
    repeat (walk_at "m")
    refine f_require G ?_
    repeat (walk_at "m")
    refine S.for ?_
    repeat (walk_at "m")
    refine (iEAAA _ rfl (by rw [nkey_len]; lia) (by rw [nkey_len]; lia) ?_)
    rw [nkey_drop]
    refine (iEEAAA _ ((fun i ρ H => H = MK c h T ∧ Has ρ "self" (.loc (.r .bank)) ∧ Has ρ "node" (.d (.tuple ((nkey (k, ks)).map Atom.py))))) Iter.tuple ((iAA rfl rfl rfl)) (fun i m ρ' H'' e hI => ?_) (fun ρ' H'' hI => ?_))
    · (refine xEA (natPy_at e) fun a ha ee5 => ?_; subst ee5)
      (refine xAA hI fun ee6 hs hnd => ?_; clear hI; subst ee6)
      have hka := hk a ha
      repeat (walk_at "m")
      refine iEAA _ rfl (by walk_at "s") (fun _ => ?_)
      repeat (walk_at "m")
      refine iEAA _ rfl (by walk_at "s") (fun _ => ?_)
      repeat (walk_at "m")
      exact ⟨hs, hnd⟩
    · (refine xAA hI fun ee7 hs hnd => ?_; clear hI; subst ee7)
      try dsimp only
      repeat (walk_at "m")
      refine Op3.setDT rfl (by unfold numsOf; simp; lia) hg ?_
      repeat (walk_at "m")
      rw [mk_nodes (x := (k, ks)) (by rw [nums_snoc]; rfl) (by rw [List.map_append, List.map_append, ← nodePy_key]; rfl)]
      repeat (walk_at "m")
      refine (iEAAA _ rfl (by rw [nkey_len]; lia) (by rw [nkey_len]; lia) ?_)
      rw [nkey_drop, subR1 (x := "self") (by rfl) hs, natPy_up]
      refine (iEA _ Iter.tuple (LpP.use (LpP.eachI (ns := up ks) (fun i => .int (h.wts.getD i.toNat 0)) rfl fun m hm => ?_) (by simp; lia) ?_))
      · (refine xEA (List.mem_map.mp hm) fun a ha ee8 => ?_; subst ee8)
        have hka := hk a ha
        repeat (walk_at "m")
        refine Op2.itemN rfl (Int.natCast_nonneg _) (by lia) (int_at (by show _ < h.wts.length; lia)) ?_
        exact ⟨rfl, rfl⟩
      repeat (walk_at "m")
      rw [map_int (fun i => h.wts.getD i.toNat 0)]
      refine C.sum fun wt => ?_
      repeat (walk_at "m")
      rw [mk_wts (l := h.wts ++ [1 + wt]) (by unfold intsO; simp)]
      refine (iEAAA _ rfl (by rw [nkey_len]; lia) (by rw [nkey_len]; lia) ?_)
      rw [nkey_drop, subR1 (x := "self") (by rfl) hs, natPy_up]
      refine (iEA _ Iter.tuple (LpP.use (LpP.eachI (ns := up ks) (fun i => .int (h.deps.getD i.toNat 0)) rfl fun m hm => ?_) (by simp; lia) ?_))
      · (refine xEA (List.mem_map.mp hm) fun a ha ee9 => ?_; subst ee9)
        have hka := hk a ha
        repeat (walk_at "m")
        refine Op2.itemN rfl (Int.natCast_nonneg _) (by lia) (int_at (by show _ < h.deps.length; lia)) ?_
        exact ⟨rfl, rfl⟩
      repeat (first | walk_at "m" | walk_at "l")
      refine Op2.addL (by simp; lia) ?_
      repeat (walk_at "m")
      rw [map_int (fun i => h.deps.getD i.toNat 0), show ∀ l : List Int, l.map PyData.int ++ [PyData.int 0] = (l ++ [0]).map .int from fun l => by rw [List.map_append]; rfl]
      refine C.max (by simp) fun dp => ?_
      repeat (walk_at "m")
      rw [mk_deps (l := h.deps ++ [1 + dp]) (by unfold intsO; simp)]
      have q3 := q2 (1 + wt) (1 + dp)
      refine .inl ?_
      rw [show ((((h.nodes.length + (0 + 1) : Nat)) : Int) - 1) = (h.nodes.length : Nat) by omega]
      exact q3
end

end L4ex

noncomputable section L5ax
open PySem PySem.W PySem.Calls PyProof.Rows
set_option Elab.async false
set_option linter.unusedVariables false
set_option maxRecDepth 100000
seal PySem.compareOp PySem.binaryOp PySem.unaryOp E T Ts Es C Op1 Op2 S Ss As Ifs Lp Em Op3 Iter GM Unp
--NOMACROS
section
variable {α : Type}
noncomputable def aget (l : List (Nat × α)) (r : Nat) : Option α := (l.find? fun p => decide (p.1 = r)).map (·.2)
noncomputable def aput (l : List (Nat × α)) (r : Nat) (v : α) : List (Nat × α) := if l.any (fun p => decide (p.1 = r)) then l.map (fun p => if p.1 = r then (p.1, v) else p) else l ++ [(r, v)]
noncomputable def adel (l : List (Nat × α)) (r : Nat) : List (Nat × α) := l.filter fun p => decide (p.1 ≠ r)
noncomputable def kv (f : α → MV) (l : List (Nat × α)) : List (Int × MV) := l.map fun p => ((p.1 : Int), f p.2)
theorem getK_kv {f : α → MV} {l : List (Nat × α)} {r : Nat} : getK (kv f l) (r : Int) = (aget l r).map f := by
  unfold getK kv aget
  rw [List.find?_map]
  have e : (fun p : Int × MV => decide (p.1 = (r : Int))) ∘ (fun p : Nat × α => ((p.1 : Int), f p.2)) = fun p => decide (p.1 = r) := by
    funext p; simp; lia
  rw [e, Option.map_map, Option.map_map]; rfl
theorem any_kv {f : α → MV} {l : List (Nat × α)} {r : Nat} : (kv f l).any (fun p => decide (p.1 = (r : Int))) = l.any fun p => decide (p.1 = r) := by
  unfold kv
  rw [List.any_map]
  congr 1
  funext p; simp; lia
theorem putK_kv {f : α → MV} {l : List (Nat × α)} {r : Nat} {v : α} : putK (kv f l) (r : Int) (f v) = kv f (aput l r v) := by
  unfold putK aput
  rw [any_kv]
  split
  · unfold kv
    rw [List.map_map, List.map_map]
    apply List.map_congr_left
    intro p _
    simp only [Function.comp]
    by_cases e : p.1 = r
    · simp [e]
    · rw [if_neg (by lia), if_neg e]
  · unfold kv
    rw [List.map_append]; rfl
theorem delK_kv {f : α → MV} {l : List (Nat × α)} {r : Nat} : delK (kv f l) (r : Int) = kv f (adel l r) := by
  unfold delK adel kv
  rw [List.filter_map]
  congr 1
  apply List.filter_congr
  intro p _
  simp; lia
theorem kv_len {f : α → MV} {l : List (Nat × α)} : (kv f l).length = l.length := by unfold kv; simp
theorem aget_nil {r : Nat} : aget ([] : List (Nat × α)) r = none := rfl
theorem aget_none {l : List (Nat × α)} {r : Nat} (e : aget l r = none) {v : α} : (r, v) ∉ l := by
  unfold aget at e
  rw [Option.map_eq_none_iff, List.find?_eq_none] at e
  intro m
  have := e _ m
  simp at this
theorem aget_isSome {l : List (Nat × α)} {r : Nat} : (aget l r).isSome = l.any fun p => decide (p.1 = r) := by
  unfold aget
  rw [Option.isSome_map]
  induction l with
  | nil => rfl
  | cons p l ih =>
    rw [List.find?_cons, List.any_cons, ← ih]
    cases decide (p.1 = r) <;> rfl
theorem aget_adel {l : List (Nat × α)} {r r' : Nat} : aget (adel l r) r' = if r' = r then none else aget l r' := by
  unfold aget adel
  induction l with
  | nil => split <;> rfl
  | cons p l ih =>
    rw [List.filter_cons]
    by_cases e : p.1 = r
    · rw [if_neg (by simp [e]), ih]
      by_cases e2 : r' = r
      · rw [if_pos e2, if_pos e2]
      · rw [if_neg e2, if_neg e2, List.find?_cons]
        have : decide (p.1 = r') = false := by simp; lia
        rw [this]
    · rw [if_pos (by simp [e]), List.find?_cons, List.find?_cons]
      by_cases e3 : p.1 = r'
      · have : decide (p.1 = r') = true := by simp [e3]
        rw [this, if_neg (by lia)]
      · have : decide (p.1 = r') = false := by simp [e3]
        rw [this]
        exact ih
theorem aget_aput {l : List (Nat × α)} {r r' : Nat} {v : α} : aget (aput l r v) r' = if r' = r then some v else aget l r' := by
  unfold aput
  split
  · rename_i h
    induction l with
    | nil => cases h
    | cons p l ih =>
      unfold aget
      rw [List.map_cons, List.find?_cons, List.find?_cons]
      by_cases e : p.1 = r
      · rw [if_pos e]
        by_cases e2 : r' = r
        · have : decide (p.1 = r') = true := by simp [e, e2]
          rw [this, if_pos e2]; rfl
        · have : decide (p.1 = r') = false := by simp; lia
          rw [this, if_neg e2]
          show ((l.map _).find? _).map _ = (l.find? _).map _
          have key : ∀ l : List (Nat × α), ((l.map fun p => if p.1 = r then (p.1, v) else p).find? fun p => decide (p.1 = r')) = l.find? fun p => decide (p.1 = r') := by
            intro l
            induction l with
            | nil => rfl
            | cons q l ih =>
              rw [List.map_cons, List.find?_cons, List.find?_cons, ih]
              by_cases e : q.1 = r
              · rw [if_pos e]
                have : decide (q.1 = r') = false := by simp; lia
                rw [this]
              · rw [if_neg e]
          rw [key]
      · rw [if_neg e]
        have h' : (l.any fun p => decide (p.1 = r)) = true := by
          rw [List.any_cons] at h
          simpa [e] using h
        by_cases e3 : p.1 = r'
        · have : decide (p.1 = r') = true := by simp [e3]
          rw [this, if_neg (by lia)]
        · have : decide (p.1 = r') = false := by simp [e3]
          rw [this]
          exact ih h'
  · rename_i h
    unfold aget
    rw [List.find?_append]
    by_cases e : r' = r
    · subst e
      rw [if_pos rfl, List.find?_eq_none.mpr]
      · simp
      · intro p m q
        exact h (List.any_eq_true.mpr (iEA p m q))
    · rw [if_neg e]
      cases l.find? fun p => decide (p.1 = r') with
      | some p => rfl
      | none =>
        have : decide (r = r') = false := by simp; lia
        simp [this]
theorem aput_keys {l : List (Nat × α)} {r : Nat} {v : α} : (aput l r v).map (·.1) = if l.any (fun p => decide (p.1 = r)) then l.map (·.1) else l.map (·.1) ++ [r] := by
  unfold aput
  split
  · rw [List.map_map]
    apply List.map_congr_left
    intro p _
    simp only [Function.comp]
    split <;> rfl
  · rw [List.map_append]; rfl
theorem aput_nodup {l : List (Nat × α)} {r : Nat} {v : α} (h : (l.map (·.1)).Nodup) : ((aput l r v).map (·.1)).Nodup := by
  rw [aput_keys]
  split
  · exact h
  · rename_i q
    rw [List.nodup_append]
    refine (iAA h (by simp) ?_)
    intro a ha b hb e
    simp at hb
    subst hb
    subst e
    (refine xEA (List.mem_map.mp ha) fun p hp ee1 => ?_; subst ee1)
    exact q (List.any_eq_true.mpr (iEA p hp (by simp)))
theorem aput_mem {l : List (Nat × α)} {r : Nat} {v : α} {a : Nat} (h : a ∈ (aput l r v).map (·.1)) : a = r ∨ a ∈ l.map (·.1) := by
  rw [aput_keys] at h
  split at h
  · exact .inr h
  · simp only [List.mem_append, List.mem_singleton] at h
    exact h.symm
theorem adel_len {l : List (Nat × α)} {r : Nat} : (adel l r).length ≤ l.length := List.length_filter_le _ _
theorem aput_len {l : List (Nat × α)} {r : Nat} {v : α} : (aput l r v).length ≤ l.length + 1 := by
  unfold aput
  split <;> simp
theorem aput_len' {l : List (Nat × α)} {r : Nat} {v u : α} (h : aget l r = some u) : (aput l r v).length = l.length := by
  unfold aput
  rw [if_pos (by rw [← aget_isSome, h]; rfl)]
  simp
end
theorem habOf_kv {l : List (Nat × Nat)} : habOf l = kv (fun j => .loc (.r (.abv j))) l := rfl
theorem valsOf_kv {l : List (Nat × List Int)} : valsOf l = kv (fun x => .d (told x)) l := rfl
set_option tactic.hygienic true in
/-- as many as there are numbers below -/
theorem nodup_len : ∀ {n : Nat} {l : List Nat}, l.Nodup → (∀ x ∈ l, x < n) → l.length ≤ n := by
  intro n
  induction n with
  | zero =>
    intro l _ h
    cases l with
    | nil => simp
    | cons a l => exact absurd (h a List.mem_cons_self) (by lia)
  | succ n ih =>
    intro l nd h
    have := ih (l := l.erase n) (nd.erase n) (fun x m => by
      have m' := (nd.mem_erase_iff).mp m
      have := h x m'.2
      have := m'.1
      lia)
    have := List.length_erase (a := n) (l := l)
    split at this <;> lia
noncomputable def tot (f : Nat → Nat) (n : Nat) : Nat := ((List.range n).map f).sum
theorem tot_succ {f : Nat → Nat} {n : Nat} : tot f (n + 1) = tot f n + f n := by
  unfold tot
  rw [List.range_succ, List.map_append, List.sum_append]; simp
theorem tot_congr {f g : Nat → Nat} {n : Nat} (h : ∀ i, i < n → f i = g i) : tot f n = tot g n := by
  unfold tot
  rw [List.map_congr_left]
  intro i m
  exact h i (List.mem_range.mp m)
/-- one place changed -/
theorem tot_one {f g : Nat → Nat} {n k : Nat} (hk : k < n) (h : ∀ i, i < n → i ≠ k → g i = f i) : tot g n + f k = tot f n + g k := by
  induction n with
  | zero => lia
  | succ n ih =>
    rw [tot_succ, tot_succ]
    by_cases e : k = n
    · subst e
      rw [tot_congr (f := g) (g := f) fun i hi => h i (by lia) (by lia)]
      lia
    · have := ih (by lia) fun i hi ne => h i (by lia) ne
      have := h n (by lia) (fun q => e q.symm)
      lia
theorem tot_le {f : Nat → Nat} {n k : Nat} (hk : k < n) : f k ≤ tot f n := by
  induction n with
  | zero => lia
  | succ n ih =>
    rw [tot_succ]
    by_cases e : k = n
    · subst e; lia
    · have := ih (by lia)
      lia
theorem tot_two {f g : Nat → Nat} {n k j : Nat} (hk : k < n) (hj : j < n) (ne : k ≠ j) (h : ∀ i, i < n → i ≠ k → i ≠ j → g i = f i) (hk' : g k = f k + f j) (hj' : g j = 0) : tot g n = tot f n := by
  have a := tot_one (f := f) (g := fun i => if i = k then f k + f j else f i) hk (fun i _ ne => if_neg ne)
  have b := tot_one (f := fun i => if i = k then f k + f j else f i) (g := g) hj (fun i hi ne2 => by
    by_cases e : i = k
    · subst e; simp [hk']
    · simp only [if_neg e]; exact h i hi e ne2)
  simp only [if_true, if_neg (fun q : j = k => ne q.symm)] at a b
  lia

end L5ax

noncomputable section L5bx
open PySem PySem.W PySem.Calls PyProof.Rows
set_option Elab.async false
set_option linter.unusedVariables false
set_option maxRecDepth 100000
seal PySem.compareOp PySem.binaryOp PySem.unaryOp E T Ts Es C Op1 Op2 S Ss As Ifs Lp Em Op3 Iter GM Unp
set_option maxHeartbeats 2000000

noncomputable def al (h : HS) (r : Nat) : List Nat := match aget h.hab r with
  | some j => h.abv.getD j []
  | none => []
noncomputable def rootsOf (u : List Nat) : List Nat := (List.range u.length).filter fun a => u.getD a a == a
structure HInv (m : Nat) (h : HS) : Prop where
  n9 : h.nodes.length ≤ 9
  lw : h.wts.length = h.nodes.length
  ld : h.deps.length = h.nodes.length
  lu : h.uab.length = h.nodes.length
  ll : h.lots.length = h.nodes.length
  dn : Dn h.uab
  kid : ∀ i (x : Nd), h.nodes[i]? = some x → x.2.length = x.1.ar ∧ ∀ j ∈ x.2, j < i
  lot : ∀ r, r < h.nodes.length → rt h.uab r = r → ∃ l, h.lots[r]? = some l ∧ l.Nodup ∧ ∀ j, j ∈ l ↔ (j < h.nodes.length ∧ rt h.uab j = r)
  hab : ∀ r, r < h.nodes.length → rt h.uab r = r → ∃ j, aget h.hab r = some j
  hj : ∀ a b j, aget h.hab a = some j → aget h.hab b = some j → a = b
  hlt : ∀ a j, aget h.hab a = some j → j < h.abv.length ∧ a < h.nodes.length
  habl : h.hab.length ≤ h.nodes.length
  alm : ∀ r i, i ∈ al h r → i < h.nodes.length
  alc : ∀ r, r < h.nodes.length → rt h.uab r = r → ∀ i (x : Nd), h.nodes[i]? = some x → ∀ k ∈ x.2, rt h.uab k = r → i ∈ al h r
  sum : tot (fun r => (al h r).length) h.nodes.length ≤ 2 * h.nodes.length
  kn : ∀ p ∈ h.known, p.2 < h.nodes.length
  pot : h.known.length + h.wait.length ≤ h.nodes.length + 20 * h.mrg.length
  mr : h.mrg.length + (rootsOf h.uab).length = h.nodes.length
  ed : h.edges.length ≤ h.mrg.length + m
  fo : h.forest.length = h.mrg.length
  wt : ∀ i ∈ h.wait, i < h.nodes.length
theorem HInv.al18 {m : Nat} {h : HS} (I : HInv m h) {r : Nat} (hr : r < h.nodes.length) : (al h r).length ≤ 18 := by
  have := tot_le (f := fun r => (al h r).length) hr
  have := I.sum
  have := I.n9
  lia
theorem HInv.abvAt {m : Nat} {h : HS} (I : HInv m h) {r j : Nat} (e : aget h.hab r = some j) : h.abv[j]? = some (al h r) := by
  unfold al
  rw [e]
  have := (I.hlt r j e).1
  rw [List.getElem?_eq_getElem this]
  simp [this]
noncomputable def canon (u : List Nat) (x : Nd) : Nd := (x.1, x.2.map (rt u))
theorem natPy_inj {l m : List Nat} (e : natPy l = natPy m) : l = m := by
  unfold natPy at e
  have := congrArg (List.map fun | PyData.int i => i.toNat | _ => 0) e
  rw [List.map_map, List.map_map] at this
  have id' : ((fun | PyData.int i => i.toNat | _ => 0) ∘ fun (k : Nat) => PyData.int k) = id := by funext k; simp
  rwa [id', List.map_id, List.map_id] at this
theorem nodePy_inj {x y : Nd} (e : nodePy x = nodePy y) : x = y := by
  obtain ⟨a, l⟩ := x
  obtain ⟨b, m⟩ := y
  unfold nodePy at e
  injection e with e
  injection e with e1 e2
  injection e1 with e1
  have := op_inj e1
  subst this
  have e2 : natPy l = natPy m := e2
  rw [natPy_inj e2]
theorem nodes_list : ∀ {ds : List PyData}, (∀ x ∈ ds, ∃ y, x = nodePy y) → ∃ L : List Nd, ds = L.map nodePy
  | [], _ => ⟨[], rfl⟩
  | d :: ds, h => by
    (refine xE (h d List.mem_cons_self) fun y ee1 => ?_; subst ee1)
    (refine xE (nodes_list fun x m => h x (List.mem_cons_of_mem _ m)) fun L ee2 => ?_; subst ee2)
    exact ⟨y :: L, rfl⟩
theorem nats_list : ∀ {ds : List PyData}, (∀ x ∈ ds, ∃ y : Nat, x = .int y) → ∃ L : List Nat, ds = natPy L
  | [], _ => ⟨[], rfl⟩
  | d :: ds, h => by
    (refine xE (h d List.mem_cons_self) fun y ee3 => ?_; subst ee3)
    (refine xE (nats_list fun x m => h x (List.mem_cons_of_mem _ m)) fun L ee4 => ?_; subst ee4)
    exact ⟨y :: L, rfl⟩
theorem mem_natPy {l : List Nat} {a : Nat} : PyData.int a ∈ natPy l ↔ a ∈ l := by
  unfold natPy
  constructor
  · intro m
    refine xEA (List.mem_map.mp m) fun b hb e => ?_
    injection e with e
    have : b = a := by lia
    exact this ▸ hb
  · exact fun m => List.mem_map.mpr (iEA a m rfl)
section
variable {prog : Program} {w : World} {h₀ : Heap} {mg mb : Str → Option Value} {d : Nat} {Q : MV → MH → Prop} {c : Cx} {h : HS} {T : List MO} {m : Nat}
unseal Op2 in
theorem Op2.itemD' {K : Type} [DecidableEq K] {knd : KeyKind prog w K} {mk : List (K × MV) → MO} {py : K → PyData} {lo : Loc} {l : List (K × MV)} {k : K} {H : MH} {value slice : Expr} {mv : MV} (D : DictLike prog w knd mk py) (e : H.get lo = some (mk l)) (hm : getK l k = some mv) (q : Q mv H) (hs : PlainSubV slice := by intro _ _; rfl) :
    Op2 prog w h₀ d (subscriptTail value slice) (.loc lo) (.d (py k)) H Q := by
  intro A s W x y ao R rx ry
  (refine xEEAAAAA (dict_at D R e rx) fun a kvs ee5 e1 e2 hd pv ns => ?_; subst ee5)
  rcases pv.get (k := k) with ⟨a', b⟩ | ⟨m', v, a', b, c⟩
  · rw [hm] at a'; cases a'
  · rw [hm] at a'; cases a'
    exact tail_any hd.typeIs slot_dict_getitem.lookup (wpAny_getItem_of (D.key ry) hd.mapOf b (.toks R rfl ⟨rfl, rfl⟩ (iEA _ q c))) (hs _ _)
theorem LpP.eachN {H : MH} {sc : Scope} {ρ : List (Str × MV)} {elt : Expr} {gens : List Comprehension} {scope : Scope} {pos : Pos} {i : Nat} {x : Str} {px : Pos} {iter : Expr} {ns : List Nat} (f : Nat → PyData) (hg : gens[i]? = some ⟨.Name x px, iter, [], 0⟩)
    (em : ∀ m ∈ ns, E prog w h₀ d sc ((x, natD m) :: ρ) elt H fun v H' => v = .d (f m) ∧ H' = H)
    (hg2 : gens[i + 1]? = none := by exact nn) (hx : ρ.lookup x = none := by exact nn) (hk : sc.names.lookup x = some .local := by exact tl) : LpP prog w h₀ d sc elt gens scope pos i ((natPy ns).map .d) ρ H (ns.map f) :=
  (LpP.eachD (xs := natPy ns) (fun | .int i => f i.toNat | _ => .none) hg (fun m hm => by
    unfold natPy at hm
    (refine xEA (List.mem_map.mp hm) fun a ha ee6 => ?_; subst ee6)
    exact em a ha) hg2 hx hk).congr (by
    unfold natPy
    rw [List.map_map]
    apply List.map_congr_left
    intro a _
    rfl)
theorem f_hsize (G : Gnd h₀ (KF w.params) mg mb) (I : HInv m h) (q : Q (natD h.nodes.length) (MK c h T)) : C prog w h₀ (d + 2) (.ref 383) [.loc (.r .hp)] (MK c h T) Q := by
  refine C.fn G (f := 383) (names := ["self"]) rfl rfl rfl (bnd1 fun _ => rfl) rfl ?_
  dsimp only [List.zip_cons_cons, List.zip_nil_left]
  repeat (walk_at "m")
  refine f_bsize G (by have := I.n9; lia) (.inl q)
theorem f_hfind (G : Gnd h₀ (KF w.params) mg mb) (I : HInv m h) {a : Nat} (ha : a < h.nodes.length) (q : Q (natD (rt h.uab a)) (MK c h T)) : C prog w h₀ (d + 2) (.ref 414) [.loc (.r .hp), natD a] (MK c h T) Q := by
  have := I.n9
  have := I.lu
  refine C.fn G (f := 414) (names := ["self", "n"]) rfl rfl rfl (bnd2 fun _ _ => rfl) rfl ?_
  dsimp only [List.zip_cons_cons, List.zip_nil_left]
  repeat (walk_at "m")
  refine f_find G I.dn (by lia) (by lia) (.inl q)
theorem f_hclasses (G : Gnd h₀ (KF w.params) mg mb) (I : HInv m h) (q : Q (.d (.list (natPy (rootsOf h.uab)))) (MK c h T)) : C prog w h₀ (d + 2) (.ref 456) [.loc (.r .hp)] (MK c h T) Q := by
  have := I.n9
  have := I.lu
  refine C.fn G (f := 456) (names := ["self"]) rfl rfl rfl (bnd1 fun _ => rfl) rfl ?_
  dsimp only [List.zip_cons_cons, List.zip_nil_left]
  repeat (walk_at "m")
  refine f_uclasses G (by lia) (.inl q)
theorem f_hmembers (G : Gnd h₀ (KF w.params) mg mb) (I : HInv m h) {a : Nat} (ha : a < h.nodes.length) (q : ∀ l : List Nat, l.Nodup → (∀ j, j ∈ l ↔ (j < h.nodes.length ∧ rt h.uab j = rt h.uab a)) → Q (.d (.list (natPy l))) (MK c h T)) :
    C prog w h₀ (d + 3) (.ref 463) [.loc (.r .hp), natD a] (MK c h T) Q := by
  have := I.n9
  have := I.lu
  have := rt_le I.dn a
  refine xEAA (I.lot (rt h.uab a) (by lia) (rt_rt I.dn a)) fun l e nd hl => ?_
  have := nodup_len nd fun x m => ((hl x).mp m).1
  refine C.fn G (f := 463) (names := ["self", "c"]) rfl rfl rfl (bnd2 fun _ _ => rfl) rfl ?_
  dsimp only [List.zip_cons_cons, List.zip_nil_left]
  repeat (walk_at "m")
  refine f_members G I.dn (by lia) (by lia) e (by lia) fun l' p => .inl (q l' (p.nodup_iff.mpr nd) fun j => p.mem_iff.trans (hl j))
theorem f_hnode (G : Gnd h₀ (KF w.params) mg mb) (I : HInv m h) {n : Nat} {x : Nd} (e : h.nodes[n]? = some x) (q : Q (.d (nodePy (canon h.uab x))) (MK c h T)) :
    C prog w h₀ (d + 4) (.ref 388) [.loc (.r .hp), natD n] (MK c h T) Q := by
  have := I.n9
  have := I.lu
  have hk := I.kid n x e
  refine xE (List.getElem?_eq_some_iff.mp e) fun hlt _ => ?_
  have h2 : x.2.length ≤ 2 := by rw [hk.1]; cases x.1 <;> decide
  refine C.fn G (f := 388) (names := ["self", "n"]) rfl rfl rfl (bnd2 fun _ _ => rfl) rfl ?_
  dsimp only [List.zip_cons_cons, List.zip_nil_left]
  repeat (walk_at "m")
  refine f_bop G e (by lia) ?_
  repeat (walk_at "m")
  refine f_bkids G e (by lia) (by lia) ?_
  refine (iEA _ Iter.tuple (LpP.use (LpP.eachN (ns := x.2) (fun k => .int (rt h.uab k)) rfl fun a ha => ?_) (by simp; lia) ?_))
  · have := hk.2 a ha
    repeat (walk_at "m")
    refine f_hfind G I (by lia) ⟨rfl, rfl⟩
  · repeat (walk_at "m")
    refine Op2.addT (by simp; lia) ?_
    refine .inl ?_
    rw [show PyData.tuple ([PyData.str x.1.op] ++ x.2.map fun k => PyData.int (rt h.uab k)) = nodePy (canon h.uab x) from ?_]
    · exact q
    · unfold nodePy canon natPy
      rw [List.map_map]; rfl
theorem f_nodes_of (G : Gnd h₀ (KF w.params) mg mb) (I : HInv m h) {a : Nat} (ha : a < h.nodes.length) (ha2 : rt h.uab a = a)
    (q : ∀ L : List Nd, L.length ≤ 9 → (∀ y, y ∈ L ↔ ∃ i x, h.nodes[i]? = some x ∧ rt h.uab i = a ∧ y = canon h.uab x) → Q (.d (.list (L.map nodePy))) (MK c h T)) :
    C prog w h₀ (d + 5) (.ref 468) [.loc (.r .hp), natD a] (MK c h T) Q := by
  have := I.n9
  have := I.lu
  refine C.fn G (f := 468) (names := ["self", "c"]) rfl rfl rfl (bnd2 fun _ _ => rfl) rfl ?_
  dsimp only [List.zip_cons_cons, List.zip_nil_left]
  repeat (walk_at "m")
  refine f_hmembers G I ha fun l nd hl => ?_
  rw [ha2] at hl
  have l9 : l.length ≤ 9 := Nat.le_trans (nodup_len nd fun x m => ((hl x).mp m).1) I.n9
  have hn : ∀ i ∈ l, ∃ x, h.nodes[i]? = some x := fun i hi => ⟨_, List.getElem?_eq_getElem ((hl i).mp hi).1⟩
  refine (iEA _ (Iter.list (by unfold natPy; simp; lia)) (LpP.use (LpP.eachN (ns := l) (fun i => match h.nodes[i]? with | some x => nodePy (canon h.uab x) | none => .none) rfl fun i hi => ?_) (by simp; lia) ?_))
  · refine xE (hn i hi) fun x e => ?_
    repeat (walk_at "m")
    refine f_hnode G I e ?_
    exact ⟨by rw [e], rfl⟩
  · have hx : ∀ z ∈ l.map (fun i => match h.nodes[i]? with | some x => nodePy (canon h.uab x) | none => PyData.none), ∃ i x, h.nodes[i]? = some x ∧ i ∈ l ∧ z = nodePy (canon h.uab x) := by
      intro z hz
      (refine xEA (List.mem_map.mp hz) fun i hi ee7 => ?_; subst ee7)
      refine xE (hn i hi) fun x e => ?_
      exact (iEEAA i x e hi (by rw [e]))
    repeat (walk_at "m")
    refine C.setL addT (fun z hz => ?_) (by simp; lia) fun ys hys hlen => ?_
    · (refine xEEAA (hx z hz) fun i x e hi ee8 => ?_; subst ee8)
      exact (iEE _ (up (canon h.uab x).2) (by unfold nodePy; rw [natPy_up]))
    repeat (walk_at "m")
    refine C.sortedT (P := fun ds => ds.Perm ys) (Coll.set (by simp at hlen; lia) fun l' p => (iAA p (fun z hz => ?_) (by have := p.length_eq; simp at hlen; lia))) fun ds ds' p p' => ?_
    · (refine xEEAA (hx z ((hys z).mp (p.mem_iff.mp hz))) fun i x e hi ee9 => ?_; subst ee9)
      exact (iEE _ (up (canon h.uab x).2) (by unfold nodePy; rw [natPy_up]))
    · have pp := p'.trans p
      obtain ⟨L, rfl⟩ := nodes_list (ds := ds') fun z hz => by
        (refine xEEAA (hx z ((hys z).mp (pp.mem_iff.mp hz))) fun i x e hi ee10 => ?_; subst ee10)
        exact ⟨_, rfl⟩
      refine .inl (q L ?_ fun y => ⟨fun hy => ?_, fun zz15 => xEEAA zz15 fun i x e hi hy => ?_⟩)
      · have := pp.length_eq
        simp at this hlen
        lia
      · refine xEEAA (hx (nodePy y) ((hys _).mp (pp.mem_iff.mp (List.mem_map.mpr (iEA y hy rfl))))) fun i x e hi hz => ?_
        exact (iEEAA i x e (((hl i).mp hi).2) (nodePy_inj hz))
      · have hi' : i ∈ l := (hl i).mpr ⟨(List.getElem?_eq_some_iff.mp e).1, hi⟩
        have hz : nodePy y ∈ ys := (hys _).mpr (List.mem_map.mpr (iEA i hi' (by rw [e, hy])))
        refine xEA (List.mem_map.mp (pp.mem_iff.mpr hz)) fun y' hy' e' => ?_
        exact nodePy_inj e' ▸ hy'
theorem f_users (G : Gnd h₀ (KF w.params) mg mb) (I : HInv m h) {a : Nat} (ha : a < h.nodes.length)
    (q : ∀ l : List Nat, l.length ≤ 18 → (∀ i, i ∈ l ↔ i ∈ al h (rt h.uab a)) → Q (.d (.list (natPy l))) (MK c h T)) :
    C prog w h₀ (d + 3) (.ref 487) [.loc (.r .hp), natD a] (MK c h T) Q := by
  have := I.n9
  have := I.lu
  have := rt_le I.dn a
  refine xE (I.hab (rt h.uab a) (by lia) (rt_rt I.dn a)) fun j e => ?_
  have e2 := I.abvAt e
  have l18 := I.al18 (r := rt h.uab a) (by lia)
  refine C.fn G (f := 487) (names := ["self", "c"]) rfl rfl rfl (bnd2 fun _ _ => rfl) rfl ?_
  dsimp only [List.zip_cons_cons, List.zip_nil_left]
  repeat (walk_at "m")
  refine f_hfind G I ha ?_
  refine Op2.itemD' (k := (rt h.uab a : Int)) dlI rfl (by rw [habOf_kv, getK_kv, e]; rfl) ?_
  repeat (walk_at "m")
  refine C.setN addI ((abv_get e2).trans (by rw [natsO_ints])) (fun z hz => ?_) (by unfold natPy; simp; lia) fun ys hys hlen => ?_
  · unfold natPy at hz
    (refine xEA (List.mem_map.mp hz) fun b _ ee11 => ?_; subst ee11)
    exact ⟨_, rfl⟩
  · obtain ⟨L, rfl⟩ := nats_list (ds := ys) fun z hz => by
      have := (hys z).mp hz
      unfold natPy at this
      (refine xEA (List.mem_map.mp this) fun b _ ee12 => ?_; subst ee12)
      exact ⟨b, rfl⟩
    have hL : L.length ≤ 18 := by unfold natPy at hlen; simp at hlen; lia
    repeat (walk_at "m")
    refine C.sortedI (P := fun ns => ns.Perm (up L)) (Coll.set (by unfold natPy; simp; lia) fun l' p => ?_) fun ns ns' p p' _ => ?_
    · rw [natPy_up] at p
      obtain ⟨ns, rfl⟩ : ∃ ns : List Int, l' = ns.map .int := by
        refine ⟨l'.map fun | .int i => i | _ => 0, ?_⟩
        rw [List.map_map]
        conv => lhs; rw [← List.map_id l']
        apply List.map_congr_left
        intro z hz
        (refine xEA (List.mem_map.mp (p.mem_iff.mp hz)) fun b _ ee13 => ?_; subst ee13)
        rfl
      have p2 := p.map fun | PyData.int i => i | _ => 0
      rw [List.map_map, List.map_map] at p2
      have e : ((fun | PyData.int i => i | _ => 0) ∘ PyData.int) = id := rfl
      rw [e, List.map_id, List.map_id] at p2
      refine (iEAA ns rfl p2 ?_)
      have := p2.length_eq
      simp at this
      lia
    · (refine xEA (perm_up (p'.trans p)) fun l' ee14 p3 => ?_; subst ee14)
      have q' := q l' (by have := p3.length_eq; lia) fun i => by
        rw [p3.mem_iff, ← mem_natPy, hys, mem_natPy]
      rw [natPy_up] at q'
      exact .inl q'
end

end L5bx

noncomputable section L5cx
open PySem PySem.W PySem.Calls PyProof.Rows
set_option Elab.async false
set_option linter.unusedVariables false
set_option maxRecDepth 100000
seal PySem.compareOp PySem.binaryOp PySem.unaryOp E T Ts Es C Op1 Op2 S Ss As Ifs Lp Em Op3 Iter GM Unp
--NOMACROS
noncomputable def joinS (h : HS) (e f1 f2 : PyData) (k g : Nat) (lk lg : List Nat) : HS :=
  { h with edges := h.edges ++ [e], uab := h.uab.set g k, lots := h.lots.set k (lk ++ lg), mrg := h.mrg ++ [f1], forest := h.forest ++ [f2],
           wait := h.wait ++ al h g, abv := h.abv ++ [al h k ++ al h g], hab := aput (adel h.hab g) k h.abv.length }
theorem filter_tot {p : Nat → Bool} {n : Nat} : ((List.range n).filter p).length = tot (fun a => if p a then 1 else 0) n := by
  induction n with
  | zero => rfl
  | succ n ih =>
    rw [List.range_succ, List.filter_append, List.length_append, ih, tot_succ]
    simp only [List.filter_cons, List.filter_nil]
    split <;> simp
theorem al_eq {h : HS} {r j : Nat} {l : List Nat} (e : aget h.hab r = some j) (e2 : h.abv[j]? = some l) : al h r = l := by
  unfold al
  rw [e]
  simp [List.getD_eq_getElem?_getD, e2]
theorem al_none {h : HS} {r : Nat} (e : aget h.hab r = none) : al h r = [] := by
  unfold al
  rw [e]
theorem join_inv {m : Nat} {h : HS} (I : HInv m h) {e f1 f2 : PyData} {k g : Nat} {lk lg : List Nat} (hkg : k < g) (hg : g < h.nodes.length) (rk : rt h.uab k = k) (rg : rt h.uab g = g)
    (ek : h.lots[k]? = some lk) (eg : h.lots[g]? = some lg) : HInv m (joinS h e f1 f2 k g lk lg) := by
  have hgu : g < h.uab.length := by rw [I.lu]; exact hg
  have R : ∀ a, rt (h.uab.set g k) a = if rt h.uab a = g then k else rt h.uab a := fun a => rt_set I.dn hgu hkg rk rg a
  have RR : ∀ r, rt (h.uab.set g k) r = r → rt h.uab r = r ∧ r ≠ g := by
    intro r e
    rw [R] at e
    split at e
    · rename_i h1
      subst e
      lia
    · rename_i h1
      exact ⟨e, fun q => h1 (by rw [q]; exact rg)⟩
  have lkm : lk.Nodup ∧ ∀ j, j ∈ lk ↔ (j < h.nodes.length ∧ rt h.uab j = k) := by
    refine xEA (I.lot k (by lia) rk) fun l e1 e2 => ?_
    rw [ek] at e1; cases e1; exact e2
  have lgm : lg.Nodup ∧ ∀ j, j ∈ lg ↔ (j < h.nodes.length ∧ rt h.uab j = g) := by
    refine xEA (I.lot g hg rg) fun l e1 e2 => ?_
    rw [eg] at e1; cases e1; exact e2
  refine xE (I.hab k (by lia) rk) fun jk hjk => ?_
  have alk' : ∀ r, al (joinS h e f1 f2 k g lk lg) r = if r = k then al h k ++ al h g else if r = g then [] else al h r := by
    intro r
    split
    · rename_i q
      subst q
      exact al_eq (j := h.abv.length) (by show aget (aput _ _ _) _ = _; rw [aget_aput, if_pos rfl]) (by show (h.abv ++ [_])[_]? = _; simp)
    · rename_i q
      split
      · rename_i q2
        exact al_none (by show aget (aput _ _ _) _ = _; rw [aget_aput, if_neg q, aget_adel, if_pos q2])
      · rename_i q2
        have e1 : aget (joinS h e f1 f2 k g lk lg).hab r = aget h.hab r := by show aget (aput _ _ _) _ = _; rw [aget_aput, if_neg q, aget_adel, if_neg q2]
        cases hr : aget h.hab r with
        | none => rw [al_none (e1.trans hr), al_none hr]
        | some j =>
          refine al_eq (e1.trans hr) ?_
          show (h.abv ++ [_])[j]? = _
          rw [List.getElem?_append_left (I.hlt r j hr).1]
          exact I.abvAt hr
  refine { n9 := I.n9, lw := I.lw, ld := I.ld, lu := ?_, ll := ?_, dn := I.dn.set hgu (Nat.le_of_lt hkg), kid := I.kid, lot := ?_, hab := ?_, hj := ?_, hlt := ?_, habl := ?_, alm := ?_, alc := ?_, sum := ?_, kn := I.kn, pot := ?_, mr := ?_, ed := ?_, fo := ?_, wt := ?_ }
  · show (h.uab.set g k).length = _; rw [List.length_set]; exact I.lu
  · show (h.lots.set k _).length = _; rw [List.length_set]; exact I.ll
  · intro r hr er
    have er : rt (h.uab.set g k) r = r := er
    refine xA (RR r er) fun r1 r2 => ?_
    show ∃ l, (h.lots.set k (lk ++ lg))[r]? = some l ∧ l.Nodup ∧ ∀ j, j ∈ l ↔ (j < h.nodes.length ∧ rt (h.uab.set g k) j = r)
    by_cases q : r = k
    · subst q
      refine (iEAA (lk ++ lg) (by rw [List.getElem?_set]; simp [(List.getElem?_eq_some_iff.mp ek).1]) ?_ (fun j => ?_))
      · rw [List.nodup_append]
        refine (iAA lkm.1 lgm.1 (fun a ha b hb q => ?_))
        have := ((lkm.2 a).mp ha).2
        have := ((lgm.2 b).mp hb).2
        subst q
        lia
      · rw [List.mem_append, lkm.2, lgm.2, R]
        split <;> lia
    · refine xEAA (I.lot r hr r1) fun l e1 e2 e3 => ?_
      refine (iEAA l (by rw [List.getElem?_set, if_neg (fun x => q x.symm)]; exact e1) e2 (fun j => ?_))
      rw [e3, R]
      split <;> lia
  · intro r hr er
    refine xA (RR r er) fun r1 r2 => ?_
    show ∃ j, aget (aput (adel h.hab g) k h.abv.length) r = some j
    rw [aget_aput]
    split
    · exact ⟨_, rfl⟩
    · rw [aget_adel, if_neg r2]
      exact I.hab r hr r1
  · intro a b j ha hb
    have ha : aget (aput (adel h.hab g) k h.abv.length) a = some j := ha
    have hb : aget (aput (adel h.hab g) k h.abv.length) b = some j := hb
    rw [aget_aput] at ha hb
    split at ha
    · split at hb
      · lia
      · cases ha
        rw [aget_adel] at hb
        split at hb
        · cases hb
        · have := (I.hlt b _ hb).1
          lia
    · rw [aget_adel] at ha
      split at ha
      · cases ha
      · split at hb
        · cases hb
          have := (I.hlt a _ ha).1
          lia
        · rw [aget_adel] at hb
          split at hb
          · cases hb
          · exact I.hj a b j ha hb
  · intro a j ha
    have ha : aget (aput (adel h.hab g) k h.abv.length) a = some j := ha
    show j < (h.abv ++ [_]).length ∧ a < h.nodes.length
    rw [List.length_append]
    rw [aget_aput] at ha
    split at ha
    · cases ha
      exact ⟨by simp, by lia⟩
    · rw [aget_adel] at ha
      split at ha
      · cases ha
      · have := I.hlt a j ha
        exact ⟨by lia, this.2⟩
  · show (aput (adel h.hab g) k h.abv.length).length ≤ _
    rw [aput_len' (u := jk) (by rw [aget_adel, if_neg (by lia)]; exact hjk)]
    exact Nat.le_trans adel_len I.habl
  · intro r i hi
    rw [alk'] at hi
    split at hi
    · rcases List.mem_append.mp hi with x | x
      · exact I.alm _ _ x
      · exact I.alm _ _ x
    · split at hi
      · cases hi
      · exact I.alm _ _ hi
  · intro r hr er i x hx j hj ej
    refine xA (RR r er) fun r1 r2 => ?_
    have ej : rt (h.uab.set g k) j = r := ej
    rw [R] at ej
    rw [alk']
    split
    · rename_i q
      subst q
      rw [List.mem_append]
      split at ej
      · exact .inr (I.alc g hg rg i x hx j hj (by assumption))
      · exact .inl (I.alc r hr rk i x hx j hj ej)
    · rename_i q
      split at ej
      · lia
      · exact I.alc r hr r1 i x hx j hj ej
  · refine Nat.le_trans (Nat.le_of_eq ?_) I.sum
    refine tot_two (k := k) (j := g) (by show k < h.nodes.length; lia) hg (by lia) (fun i hi n1 n2 => ?_) ?_ ?_
    · rw [alk', if_neg n1, if_neg n2]
    · rw [alk', if_pos rfl, List.length_append]
    · rw [alk', if_neg (by lia), if_pos rfl]; rfl
  · show h.known.length + (h.wait ++ al h g).length ≤ h.nodes.length + 20 * (h.mrg ++ [f1]).length
    have := I.pot
    have := I.al18 hg
    simp only [List.length_append, List.length_singleton]
    lia
  · show (h.mrg ++ [f1]).length + (rootsOf (h.uab.set g k)).length = h.nodes.length
    have := I.mr
    have lu := I.lu
    unfold rootsOf at this ⊢
    rw [List.length_set]
    rw [filter_tot] at this ⊢
    have t1 := tot_one (f := fun a => if (h.uab.getD a a == a) = true then 1 else 0) (g := fun a => if ((h.uab.set g k).getD a a == a) = true then 1 else 0) hgu fun i hi ne => by
      simp only [getD_set hgu, if_neg ne]
    have e1 : (h.uab.getD g g == g) = true := by rw [(rt_iff I.dn).mp rg]; simp
    have e2 : ((h.uab.set g k).getD g g == g) = false := by rw [getD_set hgu, if_pos rfl]; simp; lia
    simp only [e1, e2] at t1
    simp only [List.length_append, List.length_singleton]
    simp at t1 this ⊢
    lia
  · show (h.edges ++ [e]).length ≤ (h.mrg ++ [f1]).length + m
    have := I.ed
    simp only [List.length_append, List.length_singleton]
    lia
  · show (h.forest ++ [f2]).length = (h.mrg ++ [f1]).length
    simp only [List.length_append, List.length_singleton, I.fo]
  · intro i hi
    rcases List.mem_append.mp hi with x | x
    · exact I.wt i x
    · exact I.alm _ _ x

end L5cx

noncomputable section L5dx
open PySem PySem.W PySem.Calls PyProof.Rows
set_option Elab.async false
set_option linter.unusedVariables false
set_option maxRecDepth 100000
seal PySem.compareOp PySem.binaryOp PySem.unaryOp E T Ts Es C Op1 Op2 S Ss As Ifs Lp Em Op3 Iter GM Unp
set_option maxHeartbeats 2000000

structure Fin' (h h' : HS) : Prop where
  nodes : h'.nodes = h.nodes
  coarse : ∀ x y, rt h.uab x = rt h.uab y → rt h'.uab x = rt h'.uab y
theorem Fin'.refl {h : HS} : Fin' h h := ⟨rfl, fun _ _ e => e⟩
theorem Fin'.trans {h h' h'' : HS} (a : Fin' h h') (b : Fin' h' h'') : Fin' h h'' := ⟨b.nodes.trans a.nodes, fun x y e => b.coarse x y (a.coarse x y e)⟩
noncomputable def mu (h : HS) : Nat := 20 * (h.nodes.length - h.mrg.length) + h.wait.length
section
variable {prog : Program} {w : World} {h₀ : Heap} {mg mb : Str → Option Value} {d : Nat} {Q : MV → MH → Prop} {c : Cx} {h : HS} {T : List MO} {m : Nat}
set_option maxHeartbeats 1000000 in
theorem f_join (G : Gnd h₀ (KF w.params) mg mb) (I : HInv m h) (hm : m ≤ 10) {a b : Nat} (ha : a < h.nodes.length) (hb : b < h.nodes.length) (reason : PyData)
    (q1 : rt h.uab a = rt h.uab b → ∀ h', HInv (m + 1) h' → Fin' h h' → Q (.d (.bool false)) (MK c h' T))
    (q2 : rt h.uab a ≠ rt h.uab b → ∀ h', HInv m h' → Fin' h h' → mu h' < mu h → Q (.d (.bool true)) (MK c h' T)) :
    C prog w h₀ (d + 4) (.ref 435) [.loc (.r .hp), natD a, natD b, .d reason] (MK c h T) Q := by
  have n9 := I.n9
  have lu := I.lu
  have hmr := I.mr
  have hed := I.ed
  have la := rt_le I.dn a
  have lb := rt_le I.dn b
  obtain ⟨k, hk⟩ : ∃ k, k = min (rt h.uab a) (rt h.uab b) := ⟨_, rfl⟩
  obtain ⟨g, hg⟩ : ∃ g, g = max (rt h.uab a) (rt h.uab b) := ⟨_, rfl⟩
  have rk : rt h.uab k = k := by
    rcases Nat.le_total (rt h.uab a) (rt h.uab b) with x | x
    · rw [hk, Nat.min_eq_left x, rt_rt I.dn]
    · rw [hk, Nat.min_eq_right x, rt_rt I.dn]
  have rg : rt h.uab g = g := by
    rcases Nat.le_total (rt h.uab a) (rt h.uab b) with x | x
    · rw [hg, Nat.max_eq_right x, rt_rt I.dn]
    · rw [hg, Nat.max_eq_left x, rt_rt I.dn]
  refine xEAA (I.lot k (by lia) rk) fun lk ek ndk mk => ?_
  refine xEAA (I.lot g (by lia) rg) fun lg eg ndg mg' => ?_
  have llk := nodup_len ndk fun x y => ((mk x).mp y).1
  have llg := nodup_len ndg fun x y => ((mg' x).mp y).1
  refine C.fn G (f := 435) (names := ["self", "a", "b", "reason"]) rfl rfl rfl (bnd4 fun _ _ _ _ => rfl) rfl ?_
  dsimp only [List.zip_cons_cons, List.zip_nil_left]
  repeat (walk_at "m")
  rw [mk_edges (l := h.edges ++ [.tuple [.int a, .int b, reason]]) (by rw [List.map_append]; rfl)]
  have ha' : a < h.uab.length := by lia
  have hb' : b < h.uab.length := by lia
  have hu' : h.uab.length ≤ 100 := by lia
  have hm' : h.mrg.length ≤ 900 := by lia
  refine f_umerge (h := { h with edges := h.edges ++ [.tuple [.int a, .int b, reason]] }) G I.dn ha' hb' hu' hm' hk hg ek eg (by lia) (fun e => ?_) fun ne => ?_
  · have I' : HInv (m + 1) { h with edges := h.edges ++ [.tuple [.int a, .int b, reason]] } := { I with ed := by have := I.ed; simp only [List.length_append, List.length_singleton]; lia }
    have q1 := q1 (by lia) _ I' ⟨rfl, fun _ _ e => e⟩
    repeat (walk_at "m")
    refine Op2.isN rfl (iEAA _ rfl (fun _ => ?_) (fun hc => nomatch hc))
    repeat (walk_at "m")
    exact .inl q1
  · repeat (walk_at "m")
    refine Op2.isN rfl (iEAA _ rfl (fun hc => (nomatch hc)) (fun _ => ?_))
    repeat (walk_at "m")
    have hkg : k < g := by lia
    have hgn : g < h.nodes.length := by lia
    refine xE (I.hab k (by lia) rk) fun jk hjk => ?_
    refine xE (I.hab g hgn rg) fun jg hjg => ?_
    have ak := I.abvAt hjk
    have ag := I.abvAt hjg
    have a18 := I.al18 hgn
    have a18k := I.al18 (r := k) (by lia)
    have hpot := I.pot
    have hfo := I.fo
    refine (iEEA (.d (.int k)) (.d (.int g)) Unp.tuple ?_)
    try dsimp only
    repeat (walk_at "m")
    rw [mk_forest (l := h.forest ++ [.int (h.edges.length + (0 + 1) - 1)]) (by rw [List.map_append]; simp)]
    refine Op2.itemD' (k := (g : Int)) dlI rfl (by rw [habOf_kv, getK_kv]; exact congrArg _ hjg) ?_
    repeat (walk_at "m")
    refine C.extend (by intro e; cases e) rfl (abv_get (by exact ag)) (by show ((h.wait.map natD).length + ((al h g).map natD).length) ≤ 1000; simp; lia) ?_
    rw [mk_wait (l := h.wait ++ al h g) (by unfold natsO; rw [List.map_append])]
    repeat (walk_at "m")
    refine Op2.itemD' (k := (k : Int)) dlI rfl (by rw [habOf_kv, getK_kv]; exact congrArg _ hjk) ?_
    repeat (walk_at "m")
    refine C.dpop (k := (g : Int)) dlI rfl (by rw [habOf_kv, kv_len]; have := I.habl; show h.hab.length ≤ 1000; lia) (by rw [habOf_kv, getK_kv]; exact congrArg _ hjg) ?_
    rw [mk_hab (l := adel h.hab g) (by rw [habOf_kv, habOf_kv, delK_kv])]
    refine Op2.addN (lo := .r (.abv h.abv.length)) (by exact fresh_abv) (abv_get (by exact ak)) (abv_get (by exact ag)) (by simp; lia) ?_
    rw [mk_abv (x := al h k ++ al h g) (by unfold natsO; rw [List.map_append])]
    repeat (walk_at "m")
    refine Op3.setD (k := (k : Int)) dlI rfl (by rw [habOf_kv, kv_len]; have := I.habl; have := adel_len (l := h.hab) (r := g); show (adel h.hab g).length ≤ 1000; lia) ?_
    rw [mk_hab (l := aput (adel h.hab g) k h.abv.length) (by exact congrArg MO.dictI (putK_kv (f := fun j => .loc (.r (.abv j))) (v := h.abv.length)))]
    repeat (walk_at "m")
    have J := join_inv I (e := .tuple [.int a, .int b, reason]) (f1 := .tuple [.int k, .int g]) (f2 := .int (h.edges.length + (0 + 1) - 1)) hkg hgn rk rg ek eg
    refine .inl (q2 (by lia) _ J ⟨rfl, fun x y e => ?_⟩ ?_)
    · show rt (h.uab.set g k) x = rt (h.uab.set g k) y
      rw [rt_set I.dn (by lia) hkg rk rg, rt_set I.dn (by lia) hkg rk rg, e]
    · have jm := J.mr
      have jm : (h.mrg ++ [PyData.tuple [.int k, .int g]]).length + _ = h.nodes.length := jm
      simp only [List.length_append, List.length_singleton] at jm
      show 20 * (h.nodes.length - (h.mrg ++ [_]).length) + (h.wait ++ al h g).length < 20 * (h.nodes.length - h.mrg.length) + h.wait.length
      simp only [List.length_append, List.length_singleton]
      lia
end

end L5dx

noncomputable section L5ex
open PySem PySem.W PySem.Calls PyProof.Rows
set_option Elab.async false
set_option linter.unusedVariables false
set_option maxRecDepth 100000
seal PySem.compareOp PySem.binaryOp PySem.unaryOp E T Ts Es C Op1 Op2 S Ss As Ifs Lp Em Op3 Iter GM Unp
set_option maxHeartbeats 2000000

theorem known_get {x : Nd} {m : MV} {l : List (Nd × Nat)} (e : getK (knownOf l) (nkey x) = some m) : ∃ p ∈ l, m = natD p.2 := by
  unfold getK knownOf at e
  rw [Option.map_eq_some_iff] at e
  obtain ⟨p, e, rfl⟩ := e
  obtain ⟨q, hq, rfl⟩ := List.mem_map.mp (List.mem_of_find?_eq_some e)
  exact (iEA q hq rfl)
section
variable {prog : Program} {w : World} {h₀ : Heap} {mg mb : Str → Option Value} {d : Nat} {Q : MV → MH → Prop} {c : Cx} {h : HS} {T : List MO} {m : Nat}
set_option maxHeartbeats 1000000 in
theorem f_look (G : Gnd h₀ (KF w.params) mg mb) (I : HInv m h) (hm : m ≤ 10) {n : Nat} (hn : n < h.nodes.length) (sl : h.known.length + 1 + h.wait.length ≤ h.nodes.length + 20 * h.mrg.length)
    (q : ∀ h', HInv m h' → Fin' h h' → mu h' ≤ mu h → Q (.d .none) (MK c h' T)) :
    C prog w h₀ (d + 5) (.ref 407) [.loc (.r .hp), natD n] (MK c h T) Q := by
  have n9 := I.n9
  have lu := I.lu
  have hmr := I.mr
  have hx : h.nodes[n]? = some h.nodes[n] := List.getElem?_eq_getElem hn
  refine C.fn G (f := 407) (names := ["self", "n"]) rfl rfl rfl (bnd2 fun _ _ => rfl) rfl ?_
  dsimp only [List.zip_cons_cons, List.zip_nil_left]
  repeat (walk_at "m")
  refine f_hnode G I hx ?_
  repeat (walk_at "m")
  rw [nodePy_key]
  refine C.setdef rfl (by show (knownOf h.known).length ≤ 1000; unfold knownOf; simp; lia) ?_
  cases hg : getK (knownOf h.known) (nkey (canon h.uab h.nodes[n])) with
  | some o =>
    (refine xEA (known_get hg) fun p hp ee1 => ?_; subst ee1)
    have hpn := I.kn p hp
    try dsimp only
    repeat (walk_at "m")
    refine f_hfind G I hpn ?_
    repeat (walk_at "m")
    refine f_hfind G I hn ?_
    repeat (walk_at "m")
    refine (iEAA _ rfl (fun hc => ?_) (fun hc => ?_))
    · have ne : rt h.uab p.2 ≠ rt h.uab n := fun e => by rw [e] at hc; simp at hc
      repeat (walk_at "m")
      refine f_join G I hm hpn hn (.tuple [.str "like"]) (fun e => absurd e ne) fun _ h' I' F' lt => ?_
      repeat (walk_at "m")
      exact .inl (q h' I' F' (Nat.le_of_lt lt))
    · repeat (walk_at "m")
      exact .inl (q h I .refl (Nat.le_refl _))
  | none =>
    try dsimp only
    rw [mk_known (l := h.known ++ [(canon h.uab h.nodes[n], n)]) (by unfold knownOf; rw [List.map_append]; rfl)]
    have I1 : HInv m { h with known := h.known ++ [(canon h.uab h.nodes[n], n)] } := { I with
      kn := fun p hp => by
        rcases List.mem_append.mp hp with x | x
        · exact I.kn p x
        · rw [List.mem_singleton.mp x]; exact hn
      pot := by simp only [List.length_append, List.length_singleton]; lia }
    repeat (walk_at "m")
    refine f_hfind G I1 hn ?_
    repeat (walk_at "m")
    refine f_hfind G I1 hn ?_
    repeat (walk_at "m")
    refine iEAA _ rfl (by walk_at "s") (fun _ => ?_)
    repeat (walk_at "m")
    exact .inl (q _ I1 ⟨rfl, fun _ _ e => e⟩ (Nat.le_refl _))
set_option maxHeartbeats 1000000 in
theorem f_settle (G : Gnd h₀ (KF w.params) mg mb) (I : HInv m h) (hm : m ≤ 10) (q : ∀ h', HInv m h' → Fin' h h' → Q (.d .none) (MK c h' T)) :
    C prog w h₀ (d + 6) (.ref 442) [.loc (.r .hp)] (MK c h T) Q := by
  refine C.fn G (f := 442) (names := ["self"]) rfl rfl rfl (bnd1 fun _ => rfl) rfl ?_
  dsimp only [List.zip_cons_cons, List.zip_nil_left]
  refine Ss.cons ?_
  refine S.while (fun k ρ H => ∃ h', H = MK c h' T ∧ HInv m h' ∧ Fin' h h' ∧ mu h' = k ∧ Has ρ "self" (.loc (.r .hp))) (fun k ρ H hI => ?_) (mu h) (iEAAAA h rfl I .refl rfl rfl)
  (refine xEAAAA hI fun h1 ee2 I1 F1 ee3 hs => ?_; clear hI; subst ee2; subst ee3)
  have n9 := I1.n9
  have hpot := I1.pot
  have hmr := I1.mr
  repeat (walk_at "m")
  refine (iEAA _ rfl (fun hc => ?_) (fun hc => ?_))
  · rcases List.eq_nil_or_concat h1.wait with e | ⟨l, n, e⟩
    · rw [e] at hc; simp at hc
    rw [List.concat_eq_append] at e
    have hn : n < h1.nodes.length := I1.wt n (by rw [e]; simp)
    have ew : h1.wait.length = l.length + 1 := by rw [e]; simp
    repeat (walk_at "m")
    refine C.popN (vs := l.map natD) (m := natD n) (by show some (natsO h1.wait) = _; rw [e]; unfold natsO; rw [List.map_append]; rfl) (by simp; lia) ?_
    rw [mk_wait (l := l) (by rfl)]
    have I2 : HInv m { h1 with wait := l } := { I1 with
      pot := by show h1.known.length + l.length ≤ h1.nodes.length + 20 * h1.mrg.length; lia
      wt := fun i hi => I1.wt i (by rw [e]; exact List.mem_append_left _ hi) }
    repeat (walk_at "m")
    refine f_look G I2 hm hn (by show h1.known.length + 1 + l.length ≤ h1.nodes.length + 20 * h1.mrg.length; lia) fun h' I' F' le => ?_
    repeat (walk_at "m")
    refine (iEAEAAAA (mu h') ?_ h' rfl I' (F1.trans (Fin'.trans (h' := { h1 with wait := l }) ⟨rfl, fun _ _ e => e⟩ F')) rfl hs)
    have : mu { h1 with wait := l } + 1 = mu h1 := by
      show 20 * (h1.nodes.length - h1.mrg.length) + l.length + 1 = 20 * (h1.nodes.length - h1.mrg.length) + h1.wait.length
      lia
    lia
  · repeat (walk_at "m")
    exact .inl (q h1 I1 F1)
theorem f_merge (G : Gnd h₀ (KF w.params) mg mb) (I : HInv m h) (hm : m ≤ 10) {a b : Nat} (ha : a < h.nodes.length) (hb : b < h.nodes.length) (reason : PyData)
    (q : ∀ x h', HInv (m + 1) h' → Fin' h h' → Q (.d (.bool x)) (MK c h' T)) :
    C prog w h₀ (d + 5) (.ref 428) [.loc (.r .hp), natD a, natD b, .d reason] (MK c h T) Q := by
  refine C.fn G (f := 428) (names := ["self", "a", "b", "reason"]) rfl rfl rfl (bnd4 fun _ _ _ _ => rfl) rfl ?_
  dsimp only [List.zip_cons_cons, List.zip_nil_left]
  repeat (walk_at "m")
  exact f_join G I hm ha hb reason (fun _ h' I' F' => .inl (q _ h' I' F')) fun _ h' I' F' _ => .inl (q _ h' { I' with ed := by have := I'.ed; lia } F')
end

end L5ex

noncomputable section L5fx
open PySem PySem.W PySem.Calls PyProof.Rows
set_option Elab.async false
set_option linter.unusedVariables false
set_option maxRecDepth 100000
seal PySem.compareOp PySem.binaryOp PySem.unaryOp E T Ts Es C Op1 Op2 S Ss As Ifs Lp Em Op3 Iter GM Unp
--NOMACROS
noncomputable def addS (h : HS) (x : Nd) (wt dp : Int) (A : List (List Nat)) : HS :=
  { h with nodes := h.nodes ++ [x], wts := h.wts ++ [wt], deps := h.deps ++ [dp], uab := h.uab ++ [h.uab.length], lots := h.lots ++ [[h.lots.length]], hab := aput h.hab h.nodes.length h.abv.length, abv := A }
theorem rt_new {u : List Nat} (D : Dn u) : rt (u ++ [u.length]) u.length = u.length := by
  rw [rt_snoc D]
  refine rt_fix D ?_
  rw [List.getD_eq_getElem?_getD, List.getElem?_eq_none (Nat.le_refl _)]; rfl
theorem rt_out {u : List Nat} (D : Dn u) : rt u u.length = u.length := by
  refine rt_fix D ?_
  rw [List.getD_eq_getElem?_getD, List.getElem?_eq_none (Nat.le_refl _)]; rfl
theorem HInv.al_out {m : Nat} {h : HS} (I : HInv m h) {r : Nat} (hr : h.nodes.length ≤ r) : al h r = [] := by
  refine al_none ?_
  cases e : aget h.hab r with
  | none => rfl
  | some j => have := (I.hlt r j e).2; lia
theorem add_inv {m : Nat} {h : HS} (I : HInv m h) (n8 : h.nodes.length ≤ 8) {x : Nd} {wt dp : Int} (hx : x.2.length = x.1.ar ∧ ∀ j ∈ x.2, j < h.nodes.length) {A : List (List Nat)} (hA : A.length = h.abv.length + 1)
    (h1 : ∀ r i, i ∈ al h r → i ∈ al (addS h x wt dp A) r) (h2 : ∀ r i, i ∈ al (addS h x wt dp A) r → i ∈ al h r ∨ i = h.nodes.length) (h3 : ∀ k ∈ x.2, h.nodes.length ∈ al (addS h x wt dp A) (rt h.uab k))
    (h4 : tot (fun r => (al (addS h x wt dp A) r).length) (h.nodes.length + 1) ≤ tot (fun r => (al h r).length) h.nodes.length + 2) : HInv m (addS h x wt dp A) := by
  have R : ∀ a, rt (h.uab ++ [h.uab.length]) a = rt h.uab a := rt_snoc I.dn
  have lu := I.lu
  have nl : (addS h x wt dp A).nodes.length = h.nodes.length + 1 := by show (h.nodes ++ [x]).length = _; simp
  have hn : aget h.hab h.nodes.length = none := by
    cases e : aget h.hab h.nodes.length with
    | none => rfl
    | some j => have := (I.hlt _ j e).2; lia
  have hb : ∀ r, aget (addS h x wt dp A).hab r = if r = h.nodes.length then some h.abv.length else aget h.hab r := fun r => aget_aput
  refine { n9 := by rw [nl]; lia, lw := ?_, ld := ?_, lu := ?_, ll := ?_, dn := I.dn.snoc, kid := ?_, lot := ?_, hab := ?_, hj := ?_, hlt := ?_, habl := ?_, alm := ?_, alc := ?_, sum := ?_, kn := ?_, pot := ?_, mr := ?_, ed := I.ed, fo := I.fo, wt := ?_ }
  · show (h.wts ++ [wt]).length = (h.nodes ++ [x]).length; simp [I.lw]
  · show (h.deps ++ [dp]).length = (h.nodes ++ [x]).length; simp [I.ld]
  · show (h.uab ++ [_]).length = (h.nodes ++ [x]).length; simp [I.lu]
  · show (h.lots ++ [_]).length = (h.nodes ++ [x]).length; simp [I.ll]
  · intro i y hy
    have hy : (h.nodes ++ [x])[i]? = some y := hy
    rw [List.getElem?_append] at hy
    split at hy
    · exact I.kid i y hy
    · rename_i hi
      refine xE (List.getElem?_eq_some_iff.mp hy) fun hi' e => ?_
      simp at hi'
      have : i = h.nodes.length := by lia
      subst this
      simp at e
      subst e
      exact hx
  · intro r hr er
    rw [nl] at hr
    have er : rt (h.uab ++ [h.uab.length]) r = r := er
    rw [R] at er
    show ∃ l, (h.lots ++ [[h.lots.length]])[r]? = some l ∧ l.Nodup ∧ ∀ j, j ∈ l ↔ (j < (h.nodes ++ [x]).length ∧ rt (h.uab ++ [h.uab.length]) j = r)
    have ln : (h.nodes ++ [x]).length = h.nodes.length + 1 := by simp
    by_cases q : r = h.nodes.length
    · subst q
      refine (iEAA ([h.lots.length]) (by rw [List.getElem?_append_right (by rw [I.ll]; exact Nat.le_refl _)]; simp [I.ll]) (by simp) (fun j => ?_))
      rw [List.mem_singleton, R, ln, I.ll]
      constructor
      · (intro yy1; subst yy1)
        exact ⟨by lia, by rw [← lu]; exact rt_out I.dn⟩
      · (intro yy2; (refine xA yy2 fun a b => ?_; clear yy2))
        have := rt_le I.dn j
        lia
    · refine xEAA (I.lot r (by lia) er) fun l e1 e2 e3 => ?_
      refine (iEAA l (by rw [List.getElem?_append_left (by rw [I.ll]; lia)]; exact e1) e2 (fun j => ?_))
      rw [e3, R, ln]
      constructor
      · (intro yy3; (refine xA yy3 fun a b => ?_; clear yy3))
        exact ⟨by lia, b⟩
      · (intro yy4; (refine xA yy4 fun a b => ?_; clear yy4))
        refine ⟨?_, b⟩
        by_cases q2 : j = h.nodes.length
        · subst q2
          have := rt_out I.dn
          rw [lu] at this
          lia
        · lia
  · intro r hr er
    rw [nl] at hr
    have er : rt (h.uab ++ [h.uab.length]) r = r := er
    rw [R] at er
    rw [hb]
    split
    · exact ⟨_, rfl⟩
    · exact I.hab r (by lia) er
  · intro a b j ha hb'
    rw [hb] at ha hb'
    split at ha <;> split at hb'
    · lia
    · cases ha
      have := (I.hlt b _ hb').1
      lia
    · cases hb'
      have := (I.hlt a _ ha).1
      lia
    · exact I.hj a b j ha hb'
  · intro a j ha
    rw [hb] at ha
    rw [nl]
    show j < A.length ∧ _
    split at ha
    · cases ha
      lia
    · have := I.hlt a j ha
      lia
  · show (aput h.hab h.nodes.length h.abv.length).length ≤ _
    rw [nl]
    have := I.habl
    have := aput_len (l := h.hab) (r := h.nodes.length) (v := h.abv.length)
    lia
  · intro r i hi
    rw [nl]
    rcases h2 r i hi with q | q
    · have := I.alm r i q
      lia
    · lia
  · intro r hr er i y hy k hk ek
    have er : rt (h.uab ++ [h.uab.length]) r = r := er
    have ek : rt (h.uab ++ [h.uab.length]) k = r := ek
    rw [R] at er ek
    have hy : (h.nodes ++ [x])[i]? = some y := hy
    rw [List.getElem?_append] at hy
    split at hy
    · refine h1 r i ?_
      have hk' := (I.kid i y hy).2 k hk
      have := rt_le I.dn k
      exact I.alc r (by lia) er i y hy k hk ek
    · rename_i hi
      refine xE (List.getElem?_eq_some_iff.mp hy) fun hi' e => ?_
      simp at hi'
      have : i = h.nodes.length := by lia
      subst this
      simp at e
      subst e
      rw [← ek]
      exact h3 k hk
  · rw [nl]
    have := I.sum
    lia
  · intro p hp
    rw [nl]
    have := I.kn p hp
    lia
  · rw [nl]
    show h.known.length + h.wait.length ≤ h.nodes.length + 1 + 20 * h.mrg.length
    have := I.pot
    lia
  · rw [nl]
    show h.mrg.length + (rootsOf (h.uab ++ [h.uab.length])).length = _
    have := I.mr
    unfold rootsOf at this ⊢
    rw [filter_tot] at this ⊢
    rw [List.length_append, List.length_singleton, tot_succ]
    rw [tot_congr (f := fun a => if ((h.uab ++ [h.uab.length]).getD a a == a) = true then 1 else 0) (g := fun a => if (h.uab.getD a a == a) = true then 1 else 0) fun i hi => by
      simp only [List.getD_eq_getElem?_getD, List.getElem?_append_left hi]]
    have : ((h.uab ++ [h.uab.length]).getD h.uab.length h.uab.length == h.uab.length) = true := by simp [List.getD_eq_getElem?_getD]
    rw [if_pos this]
    lia
  · intro i hi
    rw [nl]
    have := I.wt i hi
    lia
/-- a node's number put into a list of the classes' -/
theorem al_add {m : Nat} {h : HS} (I : HInv m h) {x : Nd} {wt dp : Int} {A : List (List Nat)} {c j n : Nat} {l : List Nat} (hc : aget (addS h x wt dp A).hab c = some j) (hl : A[j]? = some l) (r : Nat) :
    al (addS h x wt dp (A.set j (l ++ [n]))) r = if r = c then al (addS h x wt dp A) c ++ [n] else al (addS h x wt dp A) r := by
  have inj : ∀ a b j, aget (addS h x wt dp A).hab a = some j → aget (addS h x wt dp A).hab b = some j → a = b := by
    intro a b j ha hb
    have ha : aget (aput h.hab h.nodes.length h.abv.length) a = some j := ha
    have hb : aget (aput h.hab h.nodes.length h.abv.length) b = some j := hb
    rw [aget_aput] at ha hb
    split at ha <;> split at hb
    · lia
    · cases ha
      have := (I.hlt b _ hb).1
      lia
    · cases hb
      have := (I.hlt a _ ha).1
      lia
    · exact I.hj a b j ha hb
  have hj := (List.getElem?_eq_some_iff.mp hl).1
  split
  · rename_i q
    subst q
    rw [al_eq (h := addS h x wt dp A) hc hl]
    exact al_eq (h := addS h x wt dp (A.set j (l ++ [n]))) hc (by show (A.set j _)[j]? = _; rw [List.getElem?_set]; simp [hj])
  · rename_i q
    cases e : aget (addS h x wt dp A).hab r with
    | none => rw [al_none e]; exact al_none (h := addS h x wt dp (A.set j (l ++ [n]))) e
    | some j' =>
      have ne : j ≠ j' := fun q2 => q (inj r c j' e (by rw [← q2]; exact hc))
      show (match aget (addS h x wt dp A).hab r with | some j => (A.set _ _).getD j [] | none => []) = match aget (addS h x wt dp A).hab r with | some j => A.getD j [] | none => []
      rw [e]
      simp only [List.getD_eq_getElem?_getD, List.getElem?_set, if_neg ne]
theorem al_new {m : Nat} {h : HS} (I : HInv m h) {x : Nd} {wt dp : Int} (r : Nat) : al (addS h x wt dp (h.abv ++ [[]])) r = al h r := by
  by_cases q : r = h.nodes.length
  · subst q
    rw [I.al_out (Nat.le_refl _)]
    exact al_eq (h := addS h x wt dp (h.abv ++ [[]])) (j := h.abv.length) (by show aget (aput _ _ _) _ = _; rw [aget_aput, if_pos rfl]) (by show (h.abv ++ [[]])[_]? = _; simp)
  · have e : aget (addS h x wt dp (h.abv ++ [[]])).hab r = aget h.hab r := by show aget (aput _ _ _) _ = _; rw [aget_aput, if_neg q]
    cases hr : aget h.hab r with
    | none => rw [al_none (e.trans hr), al_none hr]
    | some j =>
      refine al_eq (e.trans hr) ?_
      show (h.abv ++ [_])[j]? = _
      rw [List.getElem?_append_left (I.hlt r j hr).1]
      exact I.abvAt hr

end L5fx

noncomputable section L5gx
open PySem PySem.W PySem.Calls PyProof.Rows
set_option Elab.async false
set_option linter.unusedVariables false
set_option maxRecDepth 100000
seal PySem.compareOp PySem.binaryOp PySem.unaryOp E T Ts Es C Op1 Op2 S Ss As Ifs Lp Em Op3 Iter GM Unp
set_option maxHeartbeats 2000000

theorem mk_hab' {c : Cx} {h h2 : HS} {T : List MO} {o : MO} {l : List (Nat × Nat)} (e : o = .dictI (habOf l)) (e2 : { h with hab := l } = h2) : (MK c h T).put (.r .hab) o = MK c h2 T := e2 ▸ mk_hab e
theorem natPy_ix {l : List Nat} {i : Nat} {m : MV} (e : ((natPy l).map MV.d)[i]? = some m) : ∃ b, l[i]? = some b ∧ m = natD b := by
  unfold natPy at e
  rw [List.getElem?_map, List.getElem?_map, Option.map_map, Option.map_eq_some_iff] at e
  (refine xEA e fun b eb ee1 => ?_; clear e; subst ee1)
  exact (iEA b eb rfl)
section
variable {prog : Program} {w : World} {h₀ : Heap} {mg mb : Str → Option Value} {d : Nat} {Q : MV → MH → Prop} {c : Cx} {h : HS} {T : List MO} {m : Nat}
theorem f_hfind' (G : Gnd h₀ (KF w.params) mg mb) (D : Dn h.uab) {a : Nat} (ha : a < h.uab.length) (hn : h.uab.length ≤ 100) (q : Q (natD (rt h.uab a)) (MK c h T)) : C prog w h₀ (d + 2) (.ref 414) [.loc (.r .hp), natD a] (MK c h T) Q := by
  refine C.fn G (f := 414) (names := ["self", "n"]) rfl rfl rfl (bnd2 fun _ _ => rfl) rfl ?_
  dsimp only [List.zip_cons_cons, List.zip_nil_left]
  repeat (walk_at "m")
  refine f_find G D ha (by lia) (.inl q)
theorem C.sortedSet {H : MH} {L : List Nat} (hL : L.length ≤ 60) (q : ∀ l', l'.Perm L → Q (.d (.list (natPy l'))) H) : C prog w h₀ d (.builtin "sorted") [.set (natPy L)] H Q := by
  refine C.sortedI (P := fun ns => ns.Perm (Mine.up L)) (Coll.set (by unfold natPy; simp; lia) fun l' p => ?_) fun ns ns' p p' _ => ?_
  · rw [natPy_up] at p
    obtain ⟨ns, rfl⟩ : ∃ ns : List Int, l' = ns.map .int := by
      refine ⟨l'.map fun | .int i => i | _ => 0, ?_⟩
      rw [List.map_map]
      conv => lhs; rw [← List.map_id l']
      apply List.map_congr_left
      intro z hz
      (refine xEA (List.mem_map.mp (p.mem_iff.mp hz)) fun b _ ee2 => ?_; subst ee2)
      rfl
    have p2 := p.map fun | PyData.int i => i | _ => 0
    rw [List.map_map, List.map_map] at p2
    have e : ((fun | PyData.int i => i | _ => 0) ∘ PyData.int) = id := rfl
    rw [e, List.map_id, List.map_id] at p2
    refine (iEAA ns rfl p2 ?_)
    have := p2.length_eq
    simp at this
    lia
  · (refine xEA (perm_up (p'.trans p)) fun l' ee3 p3 => ?_; subst ee3)
    have q' := q l' p3
    rw [natPy_up] at q'
    exact q'
set_option maxHeartbeats 1000000 in
theorem f_add (G : Gnd h₀ (KF w.params) mg mb) (I : HInv m h) (hm : m ≤ 10) (n8 : h.nodes.length ≤ 8) {k : Kd} {ks : List Nat} (hk : ks.length = k.ar) (hks : ∀ j ∈ ks, j < h.nodes.length)
    (q : ∀ v h', HInv m h' → h'.nodes.length ≤ h.nodes.length + 1 → h.nodes.length ≤ h'.nodes.length → 0 < h'.nodes.length → Q (natD v) (MK c h' T)) :
    C prog w h₀ (d + 6) (.ref 393) [.loc (.r .hp), .d (.str k.op), .d (.tuple (natPy ks))] (MK c h T) Q := by
  have lu := I.lu
  have l2 : ks.length ≤ 2 := by rw [hk]; cases k <;> decide
  refine C.fn G (f := 393) (names := ["self", "op", "numbers"]) rfl rfl rfl (bnd3 fun _ _ _ => rfl) rfl ?_
  dsimp only [List.zip_cons_cons, List.zip_nil_left]
  repeat (walk_at "m")
  refine f_take G (by lia) I.lw I.ld hks (by lia) (fun i hi => ?_) fun wt dp hnew => ?_
  · have hlt := (List.getElem?_eq_some_iff.mp hi).1
    repeat (walk_at "m")
    refine f_usize G (by lia) ?_
    repeat (walk_at "m")
    refine (iEAA _ rfl (fun _ => ?_) (fun hc => absurd hc (by simp; lia)))
    repeat (walk_at "m")
    exact .inl (q i h I (by lia) (Nat.le_refl _) (by lia))
  · repeat (walk_at "m")
    refine f_usize G (by show h.uab.length ≤ 100; lia) ?_
    repeat (walk_at "m")
    refine iEAA _ rfl (by walk_at "s") (fun _ => ?_)
    repeat (walk_at "m")
    refine f_make G (by show h.lots.length = h.uab.length; rw [I.ll, lu]) (by show h.uab.length ≤ 100; lia) ?_
    repeat (walk_at "m")
    refine E.listAt (.r (.abv h.abv.length)) (Es.nil (iAA (by exact fresh_abv) (by simp) ?_))
    rw [mk_abv (x := []) (by rfl)]
    repeat (walk_at "m")
    refine Op3.setD (k := (h.nodes.length : Int)) dlI rfl (by rw [habOf_kv, kv_len]; have := I.habl; show h.hab.length ≤ 1000; lia) ?_
    rw [mk_hab' (l := aput h.hab h.nodes.length h.abv.length) (h2 := addS h (k, ks) wt dp (h.abv ++ [[]])) (by exact congrArg MO.dictI (putK_kv (f := fun j => .loc (.r (.abv j))) (v := h.abv.length))) (by rfl)]
    have D1 : Dn (addS h (k, ks) wt dp (h.abv ++ [[]])).uab := I.dn.snoc
    have U1 : (addS h (k, ks) wt dp (h.abv ++ [[]])).uab.length = h.nodes.length + 1 := by show (h.uab ++ [_]).length = _; simp [lu]
    have R1 : ∀ a, rt (addS h (k, ks) wt dp (h.abv ++ [[]])).uab a = rt h.uab a := rt_snoc I.dn
    repeat (walk_at "m")
    refine S.for ?_
    repeat (walk_at "m")
    refine LpP.use (LpP.eachN (ns := ks) (fun i => .int (rt h.uab i)) rfl fun i hi => ?_) (by simp; lia) ?_
    · have := hks i hi
      repeat (walk_at "m")
      refine f_hfind' G D1 (by lia) (by lia) ?_
      rw [R1]
      exact ⟨rfl, rfl⟩
    repeat (walk_at "m")
    rw [show ks.map (fun i => PyData.int (rt h.uab i)) = natPy (ks.map fun i => rt h.uab i) by unfold natPy; rw [List.map_map]; rfl]
    refine C.setL addI (fun z hz => by
      unfold natPy at hz
      (refine xEA (List.mem_map.mp hz) fun b _ ee4 => ?_; subst ee4)
      exact ⟨_, rfl⟩) (by unfold natPy; simp; lia) fun ys hys hlen => ?_
    obtain ⟨L, rfl⟩ := nats_list (ds := ys) fun z hz => by
      have := (hys z).mp hz
      unfold natPy at this
      (refine xEA (List.mem_map.mp this) fun b _ ee5 => ?_; subst ee5)
      exact ⟨b, rfl⟩
    have hL : L.length ≤ 2 := by unfold natPy at hlen; simp at hlen; lia
    repeat (walk_at "m")
    refine C.sortedSet (by lia) fun l p => ?_
    have hl : l.length ≤ 2 := by have := p.length_eq; lia
    have hm' : ∀ i, i ∈ l ↔ i ∈ ks.map fun i => rt h.uab i := fun i => by rw [p.mem_iff, ← mem_natPy, hys, mem_natPy]
    have hll : ∀ i ∈ l, i < h.nodes.length := fun i hi => by
      (refine xEA (List.mem_map.mp ((hm' i).mp hi)) fun j hj ee6 => ?_; subst ee6)
      have := hks j hj
      have := rt_le I.dn j
      lia
    have nt : tot (fun r => (al (addS h (k, ks) wt dp (h.abv ++ [[]])) r).length) (h.nodes.length + 1) = tot (fun r => (al h r).length) h.nodes.length := by
      rw [tot_succ, al_new I, I.al_out (Nat.le_refl _), tot_congr (g := fun r => (al h r).length) fun i _ => by rw [al_new I]]
      simp
    refine (iEEAAA _ ((fun i ρ H => ∃ A, H = MK c (addS h (k, ks) wt dp A) T ∧ Has ρ "self" (.loc (.r .hp)) ∧ Has ρ "n" (natD h.nodes.length) ∧ A.length = h.abv.length + 1 ∧
        (∀ r i, i ∈ al h r → i ∈ al (addS h (k, ks) wt dp A) r) ∧ (∀ r i, i ∈ al (addS h (k, ks) wt dp A) r → i ∈ al h r ∨ i = h.nodes.length) ∧ (∀ r ∈ l.take i, h.nodes.length ∈ al (addS h (k, ks) wt dp A) r) ∧
        tot (fun r => (al (addS h (k, ks) wt dp A) r).length) (h.nodes.length + 1) ≤ tot (fun r => (al h r).length) h.nodes.length + i)) (Iter.list (by unfold natPy; simp; lia)) (
      (iEAAAAAAA _ rfl rfl rfl (by simp) (fun r i x => by rw [al_new I]; exact x) (fun r i x => .inl (by rwa [al_new I] at x)) ((by simp)) (by rw [nt]; exact Nat.le_refl _))) (fun i mv ρ' H'' e hI => ?_) (fun ρ' H'' hI => ?_))
    · (refine xEAAAAAAA hI fun A ee7 hs hn hA a1 a2 a3 a4 => ?_; clear hI; subst ee7)
      (refine xEA (natPy_ix e) fun b eb ee8 => ?_; subst ee8)
      have hb : b ∈ l := List.mem_of_getElem? eb
      have hbn := hll b hb
      have hbr : rt h.uab b = b := by
        (refine xEA (List.mem_map.mp ((hm' b).mp hb)) fun j hj ee9 => ?_; subst ee9)
        exact rt_rt I.dn j
      refine xE (I.hab b hbn hbr) fun j hj => ?_
      have hj1 := (I.hlt b j hj).1
      have hj2 : aget (addS h (k, ks) wt dp A).hab b = some j := by show aget (aput _ _ _) _ = _; rw [aget_aput, if_neg (by lia)]; exact hj
      have hl2 : A[j]? = some A[j] := List.getElem?_eq_getElem (by lia)
      repeat (walk_at "m")
      have hab' := aput_len (l := h.hab) (r := h.nodes.length) (v := h.abv.length)
      have hl3 : (addS h (k, ks) wt dp A).abv[j]? = some A[j] := hl2
      have hlen : (A[j]).length ≤ 20 := by
        have t1 := tot_le (f := fun r => (al (addS h (k, ks) wt dp A) r).length) (n := h.nodes.length + 1) (k := b) (by lia)
        have := I.sum
        have hi : i < l.length := (List.getElem?_eq_some_iff.mp eb).1
        rw [← al_eq hj2 hl3]
        lia
      refine Op2.itemD' (k := (b : Int)) dlI rfl (by rw [show (addS h (k, ks) wt dp A).hab = aput h.hab h.nodes.length h.abv.length from rfl, habOf_kv, getK_kv]; exact congrArg _ hj2) ?_
      refine (methBK.mk (GM.append (abv_get hl3)) ?_)
      repeat (walk_at "m")
      refine C.append (abv_get hl3) (by simp; lia) ?_
      rw [mk_abvset (x := A[j] ++ [h.nodes.length]) (by show j < A.length; lia) (by unfold natsO; rw [List.map_append]; rfl)]
      refine ⟨rfl, Ss.nil ?_⟩
      have AD := fun r => al_add I (n := h.nodes.length) hj2 hl2 r
      refine (iEAAAAAAA (A.set j (A[j] ++ [h.nodes.length])) rfl hs hn (by rw [List.length_set]; exact hA) (fun r i x => ?_) (fun r i x => ?_) (fun r hr => ?_) ?_)
      · rw [AD]
        split
        · rename_i e; subst e; exact List.mem_append_left _ (a1 _ _ x)
        · exact a1 _ _ x
      · rw [AD] at x
        split at x
        · rename_i e; subst e
          rcases List.mem_append.mp x with y | y
          · exact a2 _ _ y
          · exact .inr (List.mem_singleton.mp y)
        · exact a2 _ _ x
      · rw [AD]
        split
        · simp
        · rename_i ne
          refine a3 r ?_
          rw [List.take_add_one, eb] at hr
          rcases List.mem_append.mp hr with y | y
          · exact y
          · simp at y; exact absurd y ne
      · have := tot_one (f := fun r => (al (addS h (k, ks) wt dp A) r).length) (g := fun r => (al (addS h (k, ks) wt dp (A.set j (A[j] ++ [h.nodes.length]))) r).length) (n := h.nodes.length + 1) (k := b) (by lia) fun r _ ne => by rw [AD, if_neg ne]
        rw [AD, if_pos rfl, List.length_append, List.length_singleton] at this
        lia
    · (refine xEAAAAAAA hI fun A ee10 hs hn hA a1 a2 a3 a4 => ?_; clear hI; subst ee10)
      have hlen2 : (natPy l).length = l.length := by unfold natPy; simp
      rw [List.length_map, hlen2, List.take_length] at a3
      rw [List.length_map, hlen2] at a4
      have I2 : HInv m (addS h (k, ks) wt dp A) := add_inv I n8 ⟨hk, hks⟩ hA a1 a2 (fun κ hκ => a3 _ ((hm' _).mpr (List.mem_map.mpr (iEA κ hκ rfl)))) (by lia)
      have nl : (addS h (k, ks) wt dp A).nodes.length = h.nodes.length + 1 := by show (h.nodes ++ [_]).length = _; simp
      have pot := I.pot
      repeat (walk_at "m")
      refine f_look G I2 hm (by lia) (by rw [nl]; show h.known.length + 1 + h.wait.length ≤ h.nodes.length + 1 + 20 * h.mrg.length; lia) fun h' I' F' _ => ?_
      repeat (walk_at "m")
      have nl' : h'.nodes.length = h.nodes.length + 1 := by rw [F'.nodes]; exact nl
      exact .inl (q _ h' I' (by lia) (by lia) (by lia))
end

end L5gx

noncomputable section L5hx
open PySem PySem.W PySem.Calls PyProof.Rows
set_option Elab.async false
set_option linter.unusedVariables false
set_option maxRecDepth 100000
seal PySem.compareOp PySem.binaryOp PySem.unaryOp E T Ts Es C Op1 Op2 S Ss As Ifs Lp Em Op3 Iter GM Unp
set_option maxHeartbeats 2000000

theorem putA_len {l : List (Str × MV)} {x : Str} {v : MV} : (putA l x v).length ≤ l.length + 1 := by
  induction l with
  | nil => simp [putA]
  | cons p l ih =>
    obtain ⟨k, u⟩ := p
    unfold putA
    split <;> simp <;> lia
section
variable {prog : Program} {w : World} {h₀ : Heap} {mg mb : Str → Option Value} {K : Frag} {d : Nat} {sc : Scope} {ρ : List (Str × MV)} {H : MH} {pos : Pos}
theorem As.attrS {x name : Str} {px : Pos} {v : MV} {l : Loc} {C : Addr} {at_ : List (Str × MV)} {Q : List (Str × MV) → MH → Prop} (G : Gnd h₀ K mg mb) (hv : ρ.lookup x = some (.loc l)) (hg : H.get l = some (.inst C at_)) (hc : Cls K C) (hf : findIn K (.ref C) name = some none) (hl : at_.length ≤ 900)
    (h : Q ρ (H.put l (.inst C (putA at_ name v))))
    (hk : (sc.names.lookup x == some .local || sc.names.lookup x == some .cell || sc.names.lookup x == some .free) = true := by exact tt)
    (hd : (x == ("__debug__" : Str)) = false := by exact ff) (hcd : (x == ("__classdict__" : Str)) = false := by exact ff) : As prog w h₀ d sc ρ (.Attribute (.Name x px) name pos) v H Q :=
  As.attr G (E.name hv (iEEEAAAAA l C at_ rfl hg hc hf (Nat.le_trans putA_len (by lia)) h) hk hd hcd)
end
noncomputable def h00 : HS := ⟨[], [], [], [], [], [], [], [], [], [], [], []⟩
noncomputable def H1 (cs : List Int) : MH := ⟨fun | .feed => some (feedO cs 0) | .sgn => some (.inst 65 []) | _ => none, []⟩
section
variable {prog : Program} {w : World} {h₀ : Heap} {mg mb : Str → Option Value} {d : Nat} {Q : MV → MH → Prop}
noncomputable def at0 : List (Str × MV) := []
set_option maxHeartbeats 1000000 in
theorem f_heap_init (G : Gnd h₀ (KF w.params) mg mb) {cs : List Int} (q : Q (.loc (.r .hp)) (MK ⟨cs, 0, none⟩ h00 [])) : C prog w h₀ (d + 4) (.ref 490) [] (H1 cs) Q := by
  refine C.make (lo := .r .hp) (fI := 376) G rfl rfl rfl rfl ?_
  refine CC.fn G (f := 376) (names := ["self"]) rfl rfl rfl (bnd1 fun _ => rfl) rfl ?_
  dsimp only [List.zip_cons_cons, List.zip_nil_left]
  repeat (walk_at "m")
  refine C.make (lo := .r .bank) (fI := 186) G rfl rfl rfl rfl ?_
  refine CC.fn G (f := 186) (names := ["self"]) rfl rfl rfl (bnd1 fun _ => rfl) rfl ?_
  dsimp only [List.zip_cons_cons, List.zip_nil_left]
  repeat (walk_at "m")
  refine E.listAt (.r .nodes) (Es.nil (iAA rfl (by simp) ?_))
  refine As.attrS G rfl rfl cls276 rfl (by decide) ?_
  repeat (walk_at "m")
  refine E.dict0 G (.r .nums) (.dictT []) rfl (.inr (.inl rfl)) ?_
  refine As.attrS G rfl rfl cls276 rfl (by decide) ?_
  repeat (walk_at "m")
  refine E.listAt (.r .wts) (Es.nil (iAA rfl (by simp) ?_))
  refine As.attrS G rfl rfl cls276 rfl (by decide) ?_
  repeat (walk_at "m")
  refine E.listAt (.r .deps) (Es.nil (iAA rfl (by simp) ?_))
  refine As.attrS G rfl rfl cls276 rfl (by decide) ?_
  repeat (walk_at "m")
  refine .inl (iAA rfl ?_ trivial)
  refine As.attrS G rfl rfl cls490 rfl (by decide) ?_
  repeat (walk_at "m")
  refine C.make (lo := .r .uns) (fI := 294) G rfl rfl rfl rfl ?_
  refine CC.fn G (f := 294) (names := ["self"]) rfl rfl rfl (bnd1 fun _ => rfl) rfl ?_
  dsimp only [List.zip_cons_cons, List.zip_nil_left]
  repeat (walk_at "m")
  refine E.listAt (.r .uab) (Es.nil (iAA rfl (by simp) ?_))
  refine As.attrS G rfl rfl cls358 rfl (by decide) ?_
  repeat (walk_at "m")
  refine E.listAt (.r .lots) (Es.nil (iAA rfl (by simp) ?_))
  refine As.attrS G rfl rfl cls358 rfl (by decide) ?_
  repeat (walk_at "m")
  refine E.listAt (.r .mrg) (Es.nil (iAA rfl (by simp) ?_))
  refine As.attrS G rfl rfl cls358 rfl (by decide) ?_
  repeat (walk_at "m")
  refine .inl (iAA rfl ?_ trivial)
  refine As.attrS G rfl rfl cls490 rfl (by decide) ?_
  repeat (walk_at "m")
  refine E.listAt (.r .edges) (Es.nil (iAA rfl (by simp) ?_))
  refine As.attrS G rfl rfl cls490 rfl (by decide) ?_
  repeat (walk_at "m")
  refine E.listAt (.r .forest) (Es.nil (iAA rfl (by simp) ?_))
  refine As.attrS G rfl rfl cls490 rfl (by decide) ?_
  repeat (walk_at "m")
  refine E.dict0 G (.r .known) (.dictT []) rfl (.inr (.inl rfl)) ?_
  refine As.attrS G rfl rfl cls490 rfl (by decide) ?_
  repeat (walk_at "m")
  refine E.dict0 G (.r .hab) (.dictI []) rfl (.inl rfl) ?_
  refine As.attrS G rfl rfl cls490 rfl (by decide) ?_
  repeat (walk_at "m")
  refine E.listAt (.r .wait) (Es.nil (iAA rfl (by simp) ?_))
  refine As.attrS G rfl rfl cls490 rfl (by decide) ?_
  repeat (walk_at "m")
  refine .inl (iAA rfl ?_ trivial)
  refine Eq.mpr (congrArg (Q _) (?_ : _ = MK ⟨cs, 0, none⟩ h00 [])) q
  exact mh_ext (fun y => by cases y <;> rfl) rfl
end

end L5hx

noncomputable section L6ax
open PySem PySem.W PySem.Calls PyProof.Rows
set_option Elab.async false
set_option linter.unusedVariables false
set_option maxRecDepth 100000
seal PySem.compareOp PySem.binaryOp PySem.unaryOp E T Ts Es C Op1 Op2 S Ss As Ifs Lp Em Op3 Iter GM Unp
set_option maxHeartbeats 2000000

theorem h00_inv : HInv 0 h00 where
  n9 := by decide
  lw := rfl
  ld := rfl
  lu := rfl
  ll := rfl
  dn := fun i => Nat.le_refl _
  kid := fun i x e => by cases e
  lot := fun r hr => absurd hr (Nat.not_lt_zero _)
  hab := fun r hr => absurd hr (Nat.not_lt_zero _)
  hj := fun a b j e => by cases e
  hlt := fun a j e => by cases e
  habl := Nat.le_refl _
  alm := fun r i e => by cases e
  alc := fun r hr => absurd hr (Nat.not_lt_zero _)
  sum := Nat.le_refl _
  kn := fun p e => by cases e
  pot := Nat.le_refl _
  mr := rfl
  ed := Nat.le_refl _
  fo := rfl
  wt := fun i e => by cases e
noncomputable def sg (n : Int) : Int := if n = 0 then 0 else if n < 0 then -1 else 1
section
variable {prog : Program} {w : World} {h₀ : Heap} {mg mb : Str → Option Value} {d : Nat} {H : MH} {Q : MV → MH → Prop}
theorem small_ok {k : Int} (h1 : -1000 ≤ k) (h2 : k ≤ 1000) (a : Int) : IntMulOk a k := .of_right (intBits_le_64 (by lia) (by lia))
theorem f_draw (G : Gnd h₀ (KF w.params) mg mb) {cs : List Int} {a wide : Nat} (hF : H.get (.r .feed) = some (feedO cs a)) (ha : a ≤ 200) (hc : cs.length ≤ 1000) (hw : 0 < wide)
    (q : ∀ k : Nat, k < wide → Q (natD k) (H.put (.r .feed) (feedO cs (a + 1)))) : C prog w h₀ (d + 1) (.ref 502) [.loc (.r .feed), natD wide] H Q := by
  have fin : ∀ x : Int, Q (.d (.int (x.fmod wide))) (H.put (.r .feed) (feedO cs (a + 1))) := by
    intro x
    have h1 := Int.fmod_nonneg_of_pos x (b := (wide : Int)) (by lia)
    have h2 := Int.fmod_lt_of_pos x (b := (wide : Int)) (by lia)
    have := q (x.fmod wide).toNat (by lia)
    unfold natD at this
    rwa [Int.toNat_of_nonneg h1] at this
  refine C.fn G (f := 502) (names := ["feed", "wide"]) rfl rfl rfl (bnd2 fun _ _ => rfl) rfl ?_
  dsimp only [List.zip_cons_cons, List.zip_nil_left]
  repeat (walk_at "m")
  refine Op2.itemD' (k := ("at" : Str)) dlS hF rfl ?_
  repeat (walk_at "m")
  refine Op3.setD (k := ("at" : Str)) dlS hF (by simp) ?_
  rw [show MO.dictS (putK [("cells", .d (.list (cs.map .int))), ("at", natD a)] "at" (.d (.int ((a : Int) + 1)))) = feedO cs (a + 1) from rfl]
  have hF' : (H.put (.r .feed) (feedO cs (a + 1))).get (.r .feed) = some (feedO cs (a + 1)) := MH.get_put hF
  repeat (walk_at "m")
  refine Op2.itemD' (k := ("cells" : Str)) dlS hF' rfl ?_
  repeat (walk_at "m")
  refine (iEAA _ rfl (fun hc => ?_) (fun hc => ?_))
  · have hlt : a < cs.length := by simpa using hc
    repeat (walk_at "m")
    refine Op2.itemD' (k := ("cells" : Str)) dlS hF' rfl ?_
    repeat (walk_at "m")
    refine Op2.itemL (x := .int cs[a]) (by simp) (by lia) (by rw [Int.toNat_natCast, List.getElem?_map, List.getElem?_eq_getElem hlt]; rfl) ?_
    repeat (walk_at "m")
    exact Op2.mod (by lia) (.inl (fin _))
  · repeat (walk_at "m")
    refine Op2.mul ?_ (small_ok (by lia) (by lia) _)
    repeat (walk_at "m")
    refine Op2.mul ?_ (small_ok (by lia) (by lia) _)
    repeat (walk_at "m")
    refine Op2.mul ?_ (small_ok (by lia) (by lia) _)
    repeat (walk_at "m")
    refine Op2.mod (by decide) ?_
    repeat (walk_at "m")
    exact Op2.mod (by lia) (.inl (fin _))
theorem f_sign (G : Gnd h₀ (KF w.params) mg mb) {n : Int} (hn : n ∈ [-4, -3, -2, -1, 0, 1, 2, 3, 4]) (q : Q (.d (.int (sg n))) H) : C prog w h₀ (d + 1) (.ref 509) [.d (.int n)] H Q := by
  refine C.fn G (f := 509) (names := ["number"]) rfl rfl rfl (bnd1 fun _ => rfl) rfl ?_
  dsimp only [List.zip_cons_cons, List.zip_nil_left]
  repeat (walk_at "m")
  refine (iEAA _ rfl (fun hc => ?_) (fun hc => ?_))
  · obtain rfl : n = 0 := by simpa using hc
    repeat (walk_at "m")
    exact .inl q
  · have ne : n ≠ 0 := fun e => by rw [e] at hc; simp at hc
    repeat (walk_at "m")
    refine C.abs ?_
    have key : (if n < 0 then -n else n) ≠ 0 ∧ Builtin.divisionGoesByPylong n (if n < 0 then -n else n) = false ∧ n.fdiv (if n < 0 then -n else n) = sg n := by
      clear hc q
      simp only [List.mem_cons, List.not_mem_nil, or_false] at hn
      rcases hn with rfl | rfl | rfl | rfl | rfl | rfl | rfl | rfl | rfl <;> first | exact absurd rfl ne | decide +kernel
    refine Op2.div key.1 key.2.1 ?_
    rw [key.2.2]
    exact .inl q
theorem f_told (G : Gnd h₀ (KF w.params) mg mb) {l : List Int} (hl : l.length ≤ 3) (q : Q (.d (told l)) H) : C prog w h₀ (d + 1) (.ref 516) [.d (.list (l.map .int))] H Q := by
  refine C.fn G (f := 516) (names := ["lot"]) rfl rfl rfl (bnd1 fun _ => rfl) rfl ?_
  dsimp only [List.zip_cons_cons, List.zip_nil_left]
  repeat (first | walk_at "m" | walk_at "l")
  refine Op2.eq (shd (k := 1) (shk_list shk_ints)) rfl (iEAA _ rfl (fun hc => ?_) (fun hc => ?_))
  · have e : l = [] := by
      rw [eqv_iff (by rw [plainD]; exact plainA_ints) rfl] at hc
      simpa using hc
    subst e
    repeat (walk_at "m")
    exact .inl q
  · have e : l ≠ [] := by
      (intro yy1; subst yy1)
      exact absurd hc (by decide)
    unfold told at q
    rw [if_neg e] at q
    repeat (walk_at "m")
    refine (iEAA _ rfl (fun hc => ?_) (fun hc => ?_))
    · have e3 : l.length = 3 := by simp at hc; lia
      rw [if_pos e3] at q
      repeat (walk_at "m")
      exact .inl q
    · have e3 : l.length ≠ 3 := by simp at hc; lia
      rw [if_neg e3] at q
      repeat (walk_at "m")
      exact .inl q
theorem lot_filter (p : Int → Bool) : IsLot ([-1, 0, 1].filter p) := by
  refine (iEEE (p (-1)) (p 0) (p 1) ?_)
  unfold lot
  cases h1 : p (-1) <;> cases h2 : p 0 <;> cases h3 : p 1 <;> simp [h1, h2, h3]
theorem f_lot (G : Gnd h₀ (KF w.params) mg mb) {cs : List Int} {a : Nat} (hF : H.get (.r .feed) = some (feedO cs a)) (ha : a ≤ 200) (hc : cs.length ≤ 1000)
    (q : ∀ l, IsLot l → Q (.d (.list (l.map .int))) (H.put (.r .feed) (feedO cs (a + 1)))) : C prog w h₀ (d + 2) (.ref 526) [.loc (.r .feed)] H Q := by
  refine C.fn G (f := 526) (names := ["feed"]) rfl rfl rfl (bnd1 fun _ => rfl) rfl ?_
  dsimp only [List.zip_cons_cons, List.zip_nil_left]
  repeat (walk_at "m")
  refine f_draw (wide := 8) G hF ha hc (by decide) fun k hk => ?_
  repeat (walk_at "m")
  refine LpP.use (LpP.selI (ns := [-1, 0, 1]) (fun s => Builtin.bitAnd (Int.fdiv (7 - (k : Int)) (2 ^ (s + 1).toNat)) 1 == 1) .int rfl (fun m hm => ?_) fun m hm hp => ?_) (by rw [List.length_map]; exact filter_le (by decide)) (.inl (q _ (lot_filter _)))
  · have hm' : 0 ≤ m + 1 := by
      simp at hm
      lia
    repeat (walk_at "m")
    refine Op2.shr hm' ?_
    repeat (walk_at "m")
    refine Op2.band ?_
    repeat (walk_at "m")
    exact iEAA _ rfl rfl rfl
  · repeat (walk_at "m")
end

end L6ax

noncomputable section L6bx
open PySem PySem.W PySem.Calls PyProof.Rows
set_option Elab.async false
set_option linter.unusedVariables false
set_option maxRecDepth 100000
seal PySem.compareOp PySem.binaryOp PySem.unaryOp E T Ts Es C Op1 Op2 S Ss As Ifs Lp Em Op3 Iter GM Unp
--NOMACROS
noncomputable def nums5 : List Int := [-2, -1, 0, 1, 2]
noncomputable def inLot (l : List Int) (n : Int) : Bool := l.any fun y => y == sg n
noncomputable def stepRows (l : List Int) (rows : List (List Int)) : List (List Int) := rows.flatMap fun r => (nums5.filter fun n => inLot l n).map fun n => r ++ [n]
noncomputable def rowsOf (ls : List (List Int)) : List (List Int) := ls.foldl (fun rows l => stepRows l rows) [[]]
noncomputable def val : Kd → List Int → Option Int
  | .neg, r => some (sg (-(r.getD 0 0)))
  | .add, r => some (sg (r.getD 0 0 + r.getD 1 0))
  | .mul, r => some (sg (r.getD 0 0 * r.getD 1 0))
  | _, _ => none
noncomputable def ins (fk : List Int) (s : Int) : List Int := if s ∈ fk then fk else fk ++ [s]
noncomputable def keysOf (k : Kd) (rows : List (List Int)) : List Int := rows.foldl (fun fk r => match val k r with | some s => ins fk s | none => fk) []
noncomputable def tupPy (r : List Int) : PyData := .tuple (r.map .int)
noncomputable def lotPy (l : List Int) : PyData := .list (l.map .int)
noncomputable def truesOf (fk : List Int) : List (Int × MV) := fk.map fun s => (s, .d (.bool true))
theorem putK_trues {fk : List Int} {s : Int} : putK (truesOf fk) s (.d (.bool true)) = truesOf (ins fk s) := by
  unfold putK ins truesOf
  rw [List.any_map]
  by_cases h : s ∈ fk
  · rw [if_pos h, if_pos (List.any_eq_true.mpr (iEA s h (by simp))), List.map_map]
    apply List.map_congr_left
    intro a _
    simp only [Function.comp]
    split <;> rfl
  · rw [if_neg h, if_neg (fun q => by
      refine xEA (List.any_eq_true.mp q) fun a m e => ?_
      simp at e
      exact h (e ▸ m)), List.map_append]; rfl
theorem perm_sorted : ∀ {a b : List Int}, a.Perm b → a.Pairwise (· ≤ ·) → b.Pairwise (· ≤ ·) → a = b
  | [], b, p, _, _ => by rw [List.nil_perm.mp p]
  | x :: a, [], p, _, _ => absurd p.length_eq (by simp)
  | x :: a, y :: b, p, ha, hb => by
    rw [List.pairwise_cons] at ha hb
    have e : x = y := by
      have h1 : x ∈ y :: b := p.mem_iff.mp List.mem_cons_self
      have h2 : y ∈ x :: a := p.mem_iff.mpr List.mem_cons_self
      rcases List.mem_cons.mp h1 with q | q
      · exact q
      · rcases List.mem_cons.mp h2 with q2 | q2
        · exact q2.symm
        · have := ha.1 y q2
          have := hb.1 x q
          lia
    subst e
    rw [perm_sorted ((List.perm_cons x).mp p) ha.2 hb.2]
noncomputable def keysFine (k : Kd) (ls : List (List Int)) : Bool := (keysOf k (rowsOf ls)).isPerm (comes0 k ls) && decide ((comes0 k ls).Pairwise (· ≤ ·)) && decide ((keysOf k (rowsOf ls)).length ≤ 60)
theorem fine1 (a b c : Bool) : keysFine .neg [lot a b c] = true := by revert a b c; decide +kernel
theorem fineA (a b c a' b' c' : Bool) (h : (lot a b c).isEmpty = false) (h' : (lot a' b' c').isEmpty = false) : keysFine .add [lot a b c, lot a' b' c'] = true := by revert a b c a' b' c'; decide +kernel
theorem fineM (a b c a' b' c' : Bool) (h : (lot a b c).isEmpty = false) (h' : (lot a' b' c').isEmpty = false) : keysFine .mul [lot a b c, lot a' b' c'] = true := by revert a b c a' b' c'; decide +kernel
theorem keys_sorted {k : Kd} {ls : List (List Int)} (h : keysFine k ls = true) {ns : List Int} (p : ns.Perm (keysOf k (rowsOf ls))) (s : ns.Pairwise (· ≤ ·)) : ns = comes0 k ls := by
  unfold keysFine at h
  simp only [Bool.and_eq_true, decide_eq_true_eq] at h
  exact perm_sorted (p.trans (List.isPerm_iff.mp h.1.1)) s h.1.2
theorem keys_len {k : Kd} {ls : List (List Int)} (h : keysFine k ls = true) : (keysOf k (rowsOf ls)).length ≤ 60 := by
  unfold keysFine at h
  simp only [Bool.and_eq_true, decide_eq_true_eq] at h
  exact h.2
theorem rows_step {ls : List (List Int)} {i : Nat} {l : List Int} (e : ls[i]? = some l) : rowsOf (ls.take (i + 1)) = stepRows l (rowsOf (ls.take i)) := by
  unfold rowsOf
  rw [List.take_add_one, e, List.foldl_append]; rfl
theorem keys_step {k : Kd} {rows : List (List Int)} {i : Nat} {r : List Int} (e : rows[i]? = some r) : keysOf k (rows.take (i + 1)) = match val k r with | some s => ins (keysOf k (rows.take i)) s | none => keysOf k (rows.take i) := by
  unfold keysOf
  rw [List.take_add_one, e, List.foldl_append]; rfl
theorem step_len {l : List Int} {rows : List (List Int)} : (stepRows l rows).length ≤ 5 * rows.length := by
  unfold stepRows
  induction rows with
  | nil => simp
  | cons r rows ih =>
    rw [List.flatMap_cons, List.length_append, List.length_map, List.length_cons]
    have : (nums5.filter fun n => inLot l n).length ≤ 5 := List.length_filter_le _ _
    lia
/-- rows of so many numbers, each small -/
noncomputable def RowsOk (n : Nat) (rows : List (List Int)) : Prop := ∀ r ∈ rows, r.length = n ∧ ∀ x ∈ r, x ∈ nums5
theorem step_ok {n : Nat} {l : List Int} {rows : List (List Int)} (h : RowsOk n rows) : RowsOk (n + 1) (stepRows l rows) := by
  intro r hr
  unfold stepRows at hr
  refine xEA (List.mem_flatMap.mp hr) fun r0 h0 hr => ?_
  (refine xEA (List.mem_map.mp hr) fun x hx ee1 => ?_; subst ee1)
  refine xA (h r0 h0) fun a b => ?_
  refine ⟨by simp [a], fun y hy => ?_⟩
  rcases List.mem_append.mp hy with q | q
  · exact b y q
  · rw [List.mem_singleton.mp q]
    exact (List.mem_filter.mp hx).1
theorem rows_ok (ls : List (List Int)) : RowsOk ls.length (rowsOf ls) := by
  have : ∀ (ls : List (List Int)) (n : Nat) (rows : List (List Int)), RowsOk n rows → RowsOk (n + ls.length) (ls.foldl (fun rows l => stepRows l rows) rows) := by
    intro ls
    induction ls with
    | nil => intro n rows h; exact h
    | cons l ls ih =>
      intro n rows h
      rw [List.foldl_cons, List.length_cons, show n + (ls.length + 1) = (n + 1) + ls.length by lia]
      exact ih _ _ (step_ok h)
  have := this ls 0 [[]] (by intro r hr; simp at hr; subst hr; simp)
  rw [Nat.zero_add] at this
  exact this
theorem rows_len (ls : List (List Int)) (h : ls.length ≤ 2) : (rowsOf ls).length ≤ 25 := by
  match ls, h with
  | [], _ => decide
  | [a], _ => have := step_len (l := a) (rows := [[]]); unfold rowsOf; simp only [List.foldl_cons, List.foldl_nil]; simp at this; lia
  | [a, b], _ =>
    have := step_len (l := a) (rows := [[]])
    have := step_len (l := b) (rows := stepRows a [[]])
    unfold rowsOf; simp only [List.foldl_cons, List.foldl_nil]; simp at *; lia
theorem sum_small {a b : Int} (ha : a ∈ nums5) (hb : b ∈ nums5) : a + b ∈ [-4, -3, -2, -1, 0, 1, 2, 3, 4] ∧ a * b ∈ [-4, -3, -2, -1, 0, 1, 2, 3, 4] ∧ -a ∈ [-4, -3, -2, -1, 0, 1, 2, 3, 4] ∧ a ∈ [-4, -3, -2, -1, 0, 1, 2, 3, 4] := by
  unfold nums5 at ha hb
  simp only [List.mem_cons, List.not_mem_nil, or_false] at ha hb
  rcases ha with rfl | rfl | rfl | rfl | rfl <;> rcases hb with rfl | rfl | rfl | rfl | rfl <;> decide

end L6bx

noncomputable section L6cx
open PySem PySem.W PySem.Calls PyProof.Rows
set_option Elab.async false
set_option linter.unusedVariables false
set_option maxRecDepth 100000
seal PySem.compareOp PySem.binaryOp PySem.unaryOp E T Ts Es C Op1 Op2 S Ss As Ifs Lp Em Op3 Iter GM Unp
set_option maxHeartbeats 2000000

noncomputable def HA (H : MH) (o : MO) : MH := ⟨H.r, H.t ++ [o]⟩
theorem ha_get {H : MH} {o : MO} : (HA H o).get (.tmp H.t.length) = some o := by
  show (H.t ++ [o])[H.t.length]? = _
  simp
theorem ha_put {H : MH} {o o' : MO} : (HA H o).put (.tmp H.t.length) o' = HA H o' := by
  show MH.mk H.r ((H.t ++ [o]).set H.t.length o') = MH.mk H.r (H.t ++ [o'])
  congr 1
  rw [List.set_append_right _ _ (Nat.le_refl _)]
  simp
theorem ha_back {H : MH} {o : MO} {Q : MV → MH → Prop} {x : PyData} (hH : okH H.next H) (q : Q (.d x) H) : Back H Q (.d x) (HA H o) := by
  refine .inr (iEAAAA H.next (Nat.le_refl _) (by show _ ≤ (H.t ++ [o]).length; simp) okV_d (⟨hH.1, fun k o' hk e => hH.2 k o' hk ?_⟩) ?_)
  · have e : (H.t ++ [o])[k]? = some o' := e
    rwa [List.getElem?_append_left hk] at e
  · have : cut (HA H o) H.next = H := by
      show MH.mk H.r ((H.t ++ [o]).take H.t.length) = H
      rw [List.take_left' rfl]
    rw [this]; exact q
theorem trues_kv {fk : List Int} : (truesOf fk).map (·.1) = fk := by unfold truesOf; rw [List.map_map]; exact List.map_id _
theorem any_nilL : ∀ {ls : List (List Int)}, ((ls.map lotPy).any fun y => PyData.eqv y (.list [])) = ls.any (·.isEmpty)
  | [] => rfl
  | l :: ls => by
    rw [List.map_cons, List.any_cons, List.any_cons, any_nilL]
    congr 1
    cases l <;> rfl
theorem shaped_op (k : Kd) : SeqAt.shaped (.str k.op) = true := by cases k <;> decide +kernel
theorem shk_lots {ls : List (List Int)} : ∀ x ∈ ls.map lotPy, shk 1 x := fun x m => by
  (refine xEA (List.mem_map.mp m) fun l _ ee1 => ?_; subst ee1)
  exact shk_list shk_ints
section
variable {prog : Program} {w : World} {h₀ : Heap} {mg mb : Str → Option Value} {d : Nat} {H : MH} {Q : MV → MH → Prop}
theorem f_comes0 (G : Gnd h₀ (KF w.params) mg mb) {k : Kd} {ls : List (List Int)} (hk : ls.length = k.ar) (he : ls.any (·.isEmpty) = true) (q : Q (.d (.list [])) H) :
    C prog w h₀ (d + 3) (.ref 521) [.d (.str k.op), .d (.list (ls.map lotPy))] H Q := by
  refine C.fn G (f := 521) (names := ["op", "lots"]) rfl rfl rfl (bnd2 fun _ _ => rfl) rfl ?_
  dsimp only [List.zip_cons_cons, List.zip_nil_left]
  repeat (first | walk_at "m" | walk_at "l")
  refine Op2.inL rfl (shd (k := 2) (shk_list shk_lots)) (iEAA _ rfl (fun hc => ?_) (fun hc => absurd (hc.symm.trans (any_nilL.trans he)) (by decide)))
  repeat (first | walk_at "m" | walk_at "l")
  exact .inl q
theorem f_comesN (G : Gnd h₀ (KF w.params) mg mb) {k : Kd} {n : Int} (hk : (k, n) ∈ [(Kd.zero, (0 : Int)), (.three, 3), (.mtwo, -2)]) (q : Q (.d (.list [.int (sg n)])) H) :
    C prog w h₀ (d + 3) (.ref 521) [.d (.str k.op), .d (.list [])] H Q := by
  have hi : PySem.intText? k.op = some n ∧ k.op.length ≤ 640 ∧ (([.str "0", .str "3", .str "-2"] : List PyData).any fun y => PyData.eqv y (.str k.op)) = true ∧ n ∈ [-4, -3, -2, -1, 0, 1, 2, 3, 4] := by
    simp only [List.mem_cons, List.not_mem_nil, or_false, Prod.mk.injEq] at hk
    rcases hk with ⟨rfl, rfl⟩ | ⟨rfl, rfl⟩ | ⟨rfl, rfl⟩ <;> decide +kernel
  refine C.fn G (f := 521) (names := ["op", "lots"]) rfl rfl rfl (bnd2 fun _ _ => rfl) rfl ?_
  dsimp only [List.zip_cons_cons, List.zip_nil_left]
  repeat (first | walk_at "m" | walk_at "l")
  refine Op2.inL rfl (by decide +kernel) (iEAA _ rfl (fun hc => absurd hc (by decide +kernel)) (fun hc => ?_))
  repeat (first | walk_at "m" | walk_at "l")
  refine Op2.eq (by decide +kernel) (by decide +kernel) (iEAA _ rfl (fun _ => ?_) (fun hc => absurd hc (by decide +kernel)))
  repeat (first | walk_at "m" | walk_at "l")
  refine Op2.inT (shaped_op k) (by decide +kernel) (iEAA _ rfl (fun _ => ?_) (fun hc => absurd (hc.symm.trans hi.2.2.1) (by decide)))
  repeat (first | walk_at "m" | walk_at "l")
  refine C.intS hi.1 hi.2.1 ?_
  repeat (first | walk_at "m" | walk_at "l")
  refine f_sign G hi.2.2.2 ?_
  repeat (first | walk_at "m" | walk_at "l")
  exact .inl q
unseal T in
theorem T.mono {sc : Scope} {ρ : List (Str × MV)} {e : Expr} {Q Q' : Bool → MH → Prop} (x : T prog w h₀ d sc ρ e H Q) (k : ∀ b H', Q b H' → Q' b H') : T prog w h₀ d sc ρ e H Q' := by
  intro A env s W a F R
  refine useG (x A env s W a F R) fun b s' H' W' p R' F' g m => ⟨H', W', k b H' p, R', g, F', m⟩
noncomputable def isArith : Kd → Bool
  | .neg | .add | .mul => true
  | _ => false
set_option maxHeartbeats 2000000 in
theorem f_comesG (G : Gnd h₀ (KF w.params) mg mb) {k : Kd} {ls : List (List Int)} (hl : ∀ l ∈ ls, IsLot l) (hk : ls.length = k.ar) (hne : ls.any (·.isEmpty) = false) (hH : okH H.next H) (hn : k ≠ .zero ∧ k ≠ .three ∧ k ≠ .mtwo)
    (q1 : isArith k = true → ∀ ns : List Int, ns.Perm (keysOf k (rowsOf ls)) → ns.Pairwise (· ≤ ·) → Q (.d (.list (ns.map .int))) H) (q2 : isArith k = false → Q (.d (.list (full.map .int))) H) (h60 : (keysOf k (rowsOf ls)).length ≤ 60) (hall : ∀ i, (keysOf k ((rowsOf ls).take i)).length ≤ 60) :
    C prog w h₀ (d + 3) (.ref 521) [.d (.str k.op), .d (.list (ls.map lotPy))] H Q := by
  have l2 : ls.length ≤ 2 := by rw [hk]; cases k <;> decide
  refine C.fn G (f := 521) (names := ["op", "lots"]) rfl rfl rfl (bnd2 fun _ _ => rfl) rfl ?_
  dsimp only [List.zip_cons_cons, List.zip_nil_left]
  repeat (first | walk_at "m" | walk_at "l")
  refine Op2.inL rfl (shd (k := 2) (shk_list shk_lots)) (iEAA _ rfl (fun hc => absurd ((any_nilL.trans hne).symm.trans hc) (by decide)) (fun hc => ?_))
  refine Ss.nil ?_
  try dsimp only
  refine Ss.cons ?_
  refine S.if ?_
  refine T.mono (Q := fun b H' => b = false ∧ H' = H) ?_ ?_
  · have two : PyData.eqv (.list (ls.map lotPy)) (.list []) = true → (([.str "0", .str "3", .str "-2"] : List PyData).any fun y => PyData.eqv y (.str k.op)) = false := by
      intro _
      cases k <;> first | exact absurd rfl hn.1 | exact absurd rfl hn.2.1 | exact absurd rfl hn.2.2 | decide +kernel
    repeat (first | walk_at "m" | walk_at "l")
    refine Op2.eq (shd (k := 2) (shk_list shk_lots)) rfl (iEAA _ rfl (fun h1 => ?_) (fun h1 => ?_))
    · repeat (first | walk_at "m" | walk_at "l")
      refine Op2.inT (shaped_op k) (by decide +kernel) (iEAA _ rfl (fun hc => absurd ((two h1).symm.trans hc) (by decide)) (fun _ => ⟨rfl, rfl⟩))
    · exact ⟨rfl, rfl⟩
  (intro b H' yy3; (refine xA yy3 fun ee2 ee3 => ?_; clear yy3; subst ee2; subst ee3))
  refine ⟨fun hc => (nomatch hc), fun _ => Ss.nil ?_⟩
  try dsimp only
  refine Ss.cons (S.sw2 ?_)
  refine E.tup ?_
  refine Es.cons (E.list (Es.cons (E.tuple (Es.nil (iEAA ([]) rfl (by simp) ?_)))))
  refine Es.nil (iEAA _ rfl (by simp) ?_)
  refine Es.cons (E.dict0 G (.tmp H'.t.length) (.dictI []) rfl (.inl rfl) (Es.nil ⟨by simp, ?_⟩))
  refine (iEEA (.d (.list [.tuple []])) (.loc (.tmp H'.t.length)) Unp.tup ?_)
  try dsimp only
  refine Ss.cons (S.for ?_)
  repeat (walk_at "m")
  have hrl := fun i => rows_len (ls.take i) (by rw [List.length_take]; lia)
  refine (iEEAAA _ ((fun i ρ H => H = HA H' (.dictI []) ∧ Has ρ "op" (.d (.str k.op)) ∧ Has ρ "found" (.loc (.tmp H'.t.length)) ∧ Has ρ "rows" (.d (.list ((rowsOf (ls.take i)).map tupPy))))) (Iter.list (by simp; lia)) ((iAAA rfl rfl rfl rfl)) (fun i m ρ' H'' e hI => ?_) (fun ρ' H'' hI => ?_))
  · (refine xAAA hI fun ee4 ho hf hr => ?_; clear hI; subst ee4)
    rw [List.getElem?_map, List.getElem?_map, Option.map_map, Option.map_eq_some_iff] at e
    (refine xEA e fun l el ee5 => ?_; clear e; subst ee5)
    have hrli := hrl i
    have hrli1 := hrl (i + 1)
    have e1 := rows_step el
    rw [e1] at hrli1
    refine Ss.cons (S.asgComp ?_)
    repeat (walk_at "m")
    refine LpP.use ((LpP.mkD (xs := (rowsOf (ls.take i)).map tupPy) (fun _ => true) (fun | .tuple ds => (nums5.filter fun n => inLot l n).map fun n => .tuple (ds ++ [.int n]) | _ => []) rfl (fun _ _ => Ifs.nil ⟨rfl, rfl⟩) fun m hm _ => EmP.more ?_).congr (show _ = (stepRows l (rowsOf (ls.take i))).map tupPy from ?_)) (by rw [List.length_map]; lia) ?_
    · (refine xEA (List.mem_map.mp hm) fun r hr' ee6 => ?_; subst ee6)
      refine E.globT (ns := nums5) G (by rfl) (by rfl) (by repeat constructor) (iAEA rfl _ Iter.tuple ?_)
      refine LpP.congr (LpP.selI (ns := nums5) (fun n => inLot l n) (fun n => .tuple (r.map .int ++ [.int n])) rfl (fun n hn => ?_) fun n hn hp => ?_) rfl
      · repeat (walk_at "m")
        refine f_sign G (sum_small hn hn).2.2.2 ?_
        repeat (walk_at "m")
        exact Op2.inL rfl (shd (k := 1) (shk_list shk_ints)) (iEAA _ rfl any_eqv rfl)
      · have := (rows_ok (ls.take i) r hr').1
        rw [List.length_take] at this
        repeat (walk_at "m")
        refine Op2.addT (by simp; lia) ⟨rfl, rfl⟩
    · unfold stepRows
      rw [List.flatMap_map, List.map_flatMap]
      congr 1
      funext r
      show (if true = true then _ else _) = _
      rw [if_pos rfl, List.map_map]
      apply List.map_congr_left
      intro n _
      show PyData.tuple (r.map .int ++ [.int n]) = .tuple ((r ++ [n]).map .int)
      rw [List.map_append]; rfl
    · refine Ss.nil (iAAA rfl ho hf ?_)
      rw [e1]; rfl
  · (refine xAAA hI fun ee7 ho hf hr => ?_; clear hI; subst ee7)
    rw [List.length_map, List.length_map, List.take_length] at hr
    have h25 := rows_len ls l2
    have hro := rows_ok ls
    try dsimp only
    refine Ss.cons (S.for ?_)
    repeat (walk_at "m")
    refine (iEEAAA _ ((fun i ρ H => H = HA H' (.dictI (truesOf (keysOf k ((rowsOf ls).take i)))) ∧ Has ρ "op" (.d (.str k.op)) ∧ Has ρ "found" (.loc (.tmp H'.t.length)))) (Iter.list (by simp; lia)) ((iAA rfl ho hf)) (fun i m ρ'' H'' e hI => ?_) (fun ρ'' H'' hI => ?_))
    · (refine xAA hI fun ee8 ho hf => ?_; clear hI; subst ee8)
      rw [List.getElem?_map, List.getElem?_map, Option.map_map, Option.map_eq_some_iff] at e
      (refine xEA e fun r er ee9 => ?_; clear e; subst ee9)
      have hr' := hro r (List.mem_of_getElem? er)
      have kst := keys_step (k := k) er
      have hki := hall i
      have hlen : (truesOf (keysOf k ((rowsOf ls).take i))).length ≤ 1000 := by unfold truesOf; simp; lia
      rw [hk] at hr'
      clear hall hki q1 q2 hne
      cases k with
      | neg =>
        match r, hr' with
        | [a], hr' =>
        have ha := hr'.2 a (by simp)
        repeat (walk_at "m")
        refine Op2.itemT (x := .int a) (by decide) (by decide) rfl ?_
        repeat (walk_at "m")
        refine f_sign G (sum_small ha ha).2.2.1 ?_
        repeat (walk_at "m")
        refine Op3.setD (k := sg (-a)) dlI ha_get hlen ?_
        rw [putK_trues, ha_put]
        repeat (refine Ss.nil ?_)
        exact (iAA (by rw [kst]; rfl) ho hf)
      | add =>
        match r, hr' with
        | [a, b], hr' =>
        have ha := hr'.2 a (by simp)
        have hb := hr'.2 b (by simp)
        repeat (walk_at "m")
        refine Op2.itemT (x := .int a) (by decide) (by decide) rfl ?_
        repeat (walk_at "m")
        refine Op2.itemT (x := .int b) (by decide) (by decide) rfl ?_
        repeat (walk_at "m")
        refine f_sign G (sum_small ha hb).1 ?_
        repeat (walk_at "m")
        refine Op3.setD (k := sg (a + b)) dlI ha_get hlen ?_
        rw [putK_trues, ha_put]
        repeat (refine Ss.nil ?_)
        exact (iAA (by rw [kst]; rfl) ho hf)
      | mul =>
        match r, hr' with
        | [a, b], hr' =>
        have ha := hr'.2 a (by simp)
        have hb := hr'.2 b (by simp)
        have hb1 : -1000 ≤ b ∧ b ≤ 1000 := by
          have := (sum_small hb hb).2.2.2
          simp only [List.mem_cons, List.not_mem_nil, or_false] at this
          lia
        repeat (walk_at "m")
        refine Op2.itemT (x := .int a) (by decide) (by decide) rfl ?_
        repeat (walk_at "m")
        refine Op2.itemT (x := .int b) (by decide) (by decide) rfl ?_
        repeat (walk_at "m")
        refine Op2.mul ?_ (small_ok hb1.1 hb1.2 _)
        repeat (walk_at "m")
        refine f_sign G (sum_small ha hb).2.1 ?_
        repeat (walk_at "m")
        refine Op3.setD (k := sg (a * b)) dlI ha_get hlen ?_
        rw [putK_trues, ha_put]
        repeat (refine Ss.nil ?_)
        exact (iAA (by rw [kst]; rfl) ho hf)
      | up =>
        repeat (walk_at "m")
        exact (iAA (by rw [kst]; rfl) ho hf)
      | x =>
        repeat (walk_at "m")
        exact (iAA (by rw [kst]; rfl) ho hf)
      | y =>
        repeat (walk_at "m")
        exact (iAA (by rw [kst]; rfl) ho hf)
      | zero => exact absurd rfl hn.1
      | three => exact absurd rfl hn.2.1
      | mtwo => exact absurd rfl hn.2.2
    · (refine xAA hI fun ee10 ho hf => ?_; clear hI; subst ee10)
      rw [List.length_map, List.length_map, List.take_length]
      have arith : (([.str "neg", .str "add", .str "mul"] : List PyData).any fun y => PyData.eqv y (.str k.op)) = isArith k := by cases k <;> decide +kernel
      repeat (walk_at "m")
      refine Op2.inT (shaped_op k) (by decide +kernel) (iEAA _ rfl (fun hc => ?_) (fun hc => ?_))
      · have ar : isArith k = true := arith.symm.trans hc
        repeat (walk_at "m")
        refine C.sortedI (P := fun ns => ns = keysOf k (rowsOf ls)) (Coll.dictI ha_get (by unfold truesOf; simp; lia) (iEAA _ rfl trues_kv (by rw [trues_kv]; lia))) fun ns ns' e p s => ?_
        subst e
        exact ha_back hH (q1 ar ns' p s)
      · have ar : isArith k = false := arith.symm.trans hc
        repeat (first | walk_at "m" | walk_at "l")
        exact ha_back hH (q2 ar)
end

end L6cx

noncomputable section L6dx
open PySem PySem.W PySem.Calls PyProof.Rows
set_option Elab.async false
set_option linter.unusedVariables false
set_option maxRecDepth 100000
seal PySem.compareOp PySem.binaryOp PySem.unaryOp E T Ts Es C Op1 Op2 S Ss As Ifs Lp Em Op3 Iter GM Unp
set_option maxHeartbeats 2000000

theorem keys_le (k : Kd) (rows : List (List Int)) : (keysOf k rows).length ≤ rows.length := by
  have : ∀ (rows : List (List Int)) (fk : List Int), (rows.foldl (fun fk r => match val k r with | some s => ins fk s | none => fk) fk).length ≤ fk.length + rows.length := by
    intro rows
    induction rows with
    | nil => intro fk; simp
    | cons r rows ih =>
      intro fk
      rw [List.foldl_cons, List.length_cons]
      refine Nat.le_trans (ih _) ?_
      have : ∀ s, (ins fk s).length ≤ fk.length + 1 := fun s => by unfold ins; split <;> simp
      cases val k r with
      | none => simp only; lia
      | some s => have := this s; simp only; lia
  have := this rows []
  rw [List.length_nil, Nat.zero_add] at this
  exact this
theorem signsIn_lot (l : List Int) : IsLot (signsIn l) := lot_filter _
theorem comes0_lot (k : Kd) (ls : List (List Int)) : IsLot (comes0 k ls) := by
  have f : IsLot full := (iEEE true true true rfl)
  unfold comes0
  split <;> first | exact signsIn_lot _ | exact f | exact (iEEE false true false rfl) | exact (iEEE false false true rfl) | exact (iEEE true false false rfl)
theorem comesF_lot (k : Kd) (ls : List (List Int)) : IsLot (comesF k ls) := by
  unfold comesF
  split
  · exact (iEEE false false false rfl)
  · exact comes0_lot k ls
theorem inter_eq {a b : List Int} (ha : IsLot a) (hb : IsLot b) : interL a b = a.filter fun s => b.any fun n => n == s := by
  (refine xEEE ha fun p q r ee1 => ?_; clear ha; subst ee1)
  (refine xEEE hb fun p' q' r' ee2 => ?_; clear hb; subst ee2)
  revert p q r p' q' r'
  decide +kernel
theorem inter_comm {a b : List Int} (ha : IsLot a) (hb : IsLot b) : interL a b = interL b a := by
  (refine xEEE ha fun p q r ee3 => ?_; clear ha; subst ee3)
  (refine xEEE hb fun p' q' r' ee4 => ?_; clear hb; subst ee4)
  revert p q r p' q' r'
  decide +kernel
theorem eqv_told {a b : List Int} (ha : IsLot a) (hb : IsLot b) (e : a = b) : PyData.eqv (told a) (told b) = true := by
  subst e
  exact (eqv_iff (plain_told ha) (plain_told ha)).mpr rfl
section
variable {prog : Program} {w : World} {h₀ : Heap} {mg mb : Str → Option Value} {d : Nat} {H : MH} {Q : MV → MH → Prop}
theorem f_comes (G : Gnd h₀ (KF w.params) mg mb) {k : Kd} {ls : List (List Int)} (hl : ∀ l ∈ ls, IsLot l) (hk : ls.length = k.ar) (hH : okH H.next H) (q : Q (.d (lotPy (comesF k ls))) H) :
    C prog w h₀ (d + 3) (.ref 521) [.d (.str k.op), .d (.list (ls.map lotPy))] H Q := by
  unfold comesF at q
  cases he : ls.any (·.isEmpty) with
  | true =>
    rw [if_pos he] at q
    exact f_comes0 G hk he q
  | false =>
    rw [if_neg (by rw [he]; decide)] at q
    have l2 : ls.length ≤ 2 := by rw [hk]; cases k <;> decide
    have hall : ∀ i, (keysOf k ((rowsOf ls).take i)).length ≤ 60 := fun i => by
      have := keys_le k ((rowsOf ls).take i)
      have := rows_len ls l2
      rw [List.length_take] at *
      lia
    have h60 : (keysOf k (rowsOf ls)).length ≤ 60 := by
      have := keys_le k (rowsOf ls)
      have := rows_len ls l2
      lia
    have gen := fun hn q1 q2 => f_comesG (d := d) (Q := Q) (H := H) (prog := prog) G hl hk he hH hn q1 q2 h60 hall
    have ne : ∀ {a b c : Bool}, lot a b c ∈ ls → (lot a b c).isEmpty = false := fun m => by
      rw [List.any_eq_false] at he
      simpa using he _ m
    have f0 : ∀ {n : Int}, Q (.d (lotPy [n])) H → Q (.d (.list [.int n])) H := fun x => x
    cases k with
    | zero => match ls, hk with | [], _ => exact f_comesN G (n := 0) (by decide) (f0 q)
    | three => match ls, hk with | [], _ => exact f_comesN G (n := 3) (by decide) (f0 q)
    | mtwo => match ls, hk with | [], _ => exact f_comesN G (n := -2) (by decide) (by rw [show sg (-2) = -1 by decide]; exact q)
    | x => exact gen (by decide) (fun h => nomatch h) fun _ => by match ls, hk with | [], _ => exact q
    | y => exact gen (by decide) (fun h => nomatch h) fun _ => by match ls, hk with | [], _ => exact q
    | up => exact gen (by decide) (fun h => nomatch h) fun _ => by match ls, hk with | [_], _ => exact q
    | neg =>
      refine gen (by decide) (fun _ ns p s => ?_) fun h => nomatch h
      match ls, hk with
      | [a], _ =>
        (refine xEEE (hl a (by simp)) fun x y z ee5 => ?_; subst ee5)
        rw [keys_sorted (fine1 x y z) p s]
        exact q
    | add =>
      refine gen (by decide) (fun _ ns p s => ?_) fun h => nomatch h
      match ls, hk with
      | [a, b], _ =>
        (refine xEEE (hl a (by simp)) fun x y z ee6 => ?_; subst ee6)
        (refine xEEE (hl b (by simp)) fun x' y' z' ee7 => ?_; subst ee7)
        rw [keys_sorted (fineA x y z x' y' z' (ne (by simp)) (ne (by simp))) p s]
        exact q
    | mul =>
      refine gen (by decide) (fun _ ns p s => ?_) fun h => nomatch h
      match ls, hk with
      | [a, b], _ =>
        (refine xEEE (hl a (by simp)) fun x y z ee8 => ?_; subst ee8)
        (refine xEEE (hl b (by simp)) fun x' y' z' ee9 => ?_; subst ee9)
        rw [keys_sorted (fineM x y z x' y' z' (ne (by simp)) (ne (by simp))) p s]
        exact q
variable {c : Cx} {h : HS} {T : List MO}
theorem f_drawM (G : Gnd h₀ (KF w.params) mg mb) {wide : Nat} (ha : c.a ≤ 200) (hc : c.cs.length ≤ 1000) (hw : 0 < wide)
    (q : ∀ k : Nat, k < wide → Q (natD k) (MK { c with a := c.a + 1 } h T)) : C prog w h₀ (d + 1) (.ref 502) [.loc (.r .feed), natD wide] (MK c h T) Q :=
  f_draw G (cs := c.cs) (a := c.a) rfl ha hc hw fun k hk => by rw [mk_feed rfl]; exact q k hk
theorem f_lotM (G : Gnd h₀ (KF w.params) mg mb) (ha : c.a ≤ 200) (hc : c.cs.length ≤ 1000)
    (q : ∀ l, IsLot l → Q (.d (lotPy l)) (MK { c with a := c.a + 1 } h T)) : C prog w h₀ (d + 2) (.ref 526) [.loc (.r .feed)] (MK c h T) Q :=
  f_lot G (cs := c.cs) (a := c.a) rfl ha hc fun l hl => by rw [mk_feed rfl]; exact q l hl
theorem mk_ok' (hT : TD T) : okH (MK c h T).next (MK c h T) := by
  have := mk_ok (c := c) (h := h) hT [] (n := T.length) rfl
  rwa [List.append_nil] at this
noncomputable def wayK : Nat → Kd
  | 0 => .add
  | 1 => .mul
  | 2 => .neg
  | _ => .up
noncomputable def ways : List PyData := [.tuple [.str "add", .int 2], .tuple [.str "mul", .int 2], .tuple [.str "neg", .int 1], .tuple [.str "up", .int 1]]
theorem ways_at {way : Nat} (h : way < 4) : ways[(way : Int).toNat]? = some (.tuple [.str (wayK way).op, .int (wayK way).ar]) := by
  match way, h with
  | 0, _ => rfl
  | 1, _ => rfl
  | 2, _ => rfl
  | 3, _ => rfl
theorem way_ar {way : Nat} : (wayK way).ar = 1 ∨ (wayK way).ar = 2 := by
  match way with
  | 0 => exact .inr rfl
  | 1 => exact .inr rfl
  | 2 => exact .inl rfl
  | n + 3 => exact .inl rfl
noncomputable def toldPy : PyData → PyData
  | .list ds => told (ds.map fun | .int i => i | _ => 0)
  | _ => .none
theorem toldPy_lot {l : List Int} : toldPy (lotPy l) = told l := by
  show told ((l.map PyData.int).map _) = _
  rw [List.map_map]
  congr 1
  exact List.map_id _
set_option maxHeartbeats 1000000 in
theorem f_table (G : Gnd h₀ (KF w.params) mg mb) (hT : TD T) (ha : c.a ≤ 190) (hc : c.cs.length ≤ 1000) (q : Q (.d (.bool true)) (MK { c with a := c.a + 3 } h T)) :
    C prog w h₀ (d + 6) (.ref 531) [.loc (.r .feed), .loc (.r .sgn)] (MK c h T) Q := by
  refine C.fn G (f := 531) (names := ["feed", "signs"]) rfl rfl rfl (bnd2 fun _ _ => rfl) rfl ?_
  dsimp only [List.zip_cons_cons, List.zip_nil_left]
  repeat (first | walk_at "m" | walk_at "l")
  refine f_lotM G (by lia) hc fun l1 h1 => ?_
  repeat (first | walk_at "m" | walk_at "l")
  refine f_lotM G (by show c.a + 1 ≤ 200; lia) hc fun l2 h2 => ?_
  repeat (first | walk_at "m" | walk_at "l")
  refine f_drawM (wide := 4) G (by show c.a + 1 + 1 ≤ 200; lia) hc (by decide) fun way hway => ?_
  repeat (first | walk_at "m" | walk_at "l")
  refine (iEEA (.d (.list [lotPy l1, lotPy l2])) (.d (.int way)) Unp.tuple ?_)
  try dsimp only
  repeat (first | walk_at "m" | walk_at "l")
  refine Op2.itemL (by simp) (by lia) (ways_at hway) ?_
  refine (iEEA (.d (.str (wayK way).op)) (.d (.int (wayK way).ar)) Unp.tuple ?_)
  try dsimp only
  have har := way_ar (way := way)
  obtain ⟨ls, hls⟩ : ∃ ls, ls = [l1, l2].take (wayK way).ar := ⟨_, rfl⟩
  have hll : ∀ l ∈ ls, IsLot l := fun l m => by
    have := List.mem_of_mem_take (hls ▸ m)
    simp at this
    rcases this with rfl | rfl <;> assumption
  have hlk : ls.length = (wayK way).ar := by rw [hls]; simp; lia
  have htk : ([lotPy l1, lotPy l2].take (wayK way).ar) = ls.map lotPy := by rw [hls, List.map_take]; rfl
  repeat (walk_at "m")
  refine E.sliceLTo ?_
  repeat (walk_at "m")
  rw [htk]
  refine LpP.use (LpP.eachD (xs := ls.map lotPy) toldPy rfl fun z hz => ?_) (by simp; lia) ?_
  · (refine xEA (List.mem_map.mp hz) fun l ml ee10 => ?_; subst ee10)
    repeat (walk_at "m")
    refine f_told G (Nat.le_trans (lot_len (hll l ml)) (by decide)) ?_
    rw [← toldPy_lot]
    exact ⟨rfl, rfl⟩
  rw [show (ls.map lotPy).map toldPy = ls.map told by rw [List.map_map]; exact List.map_congr_left fun l _ => toldPy_lot]
  repeat (walk_at "m")
  refine f_of_node G rfl hll hlk ?_
  repeat (walk_at "m")
  refine E.sliceLTo ?_
  repeat (walk_at "m")
  rw [htk]
  repeat (walk_at "m")
  refine f_comes G hll hlk (mk_ok' hT) ?_
  repeat (walk_at "m")
  have hcl := comesF_lot (wayK way) ls
  refine f_told G (lot_len hcl) ?_
  refine Op2.ne (shd (shk_told hcl)) (shd (shk_told hcl)) (iEAA _ rfl (fun hc => absurd hc (by rw [eqv_told hcl hcl rfl]; decide)) (fun _ => ?_))
  repeat (first | walk_at "m" | walk_at "l")
  refine Op2.itemL (x := lotPy l1) (by decide) (by decide) rfl ?_
  repeat (walk_at "m")
  refine f_told G (lot_len h1) ?_
  repeat (walk_at "m")
  refine Op2.itemL (x := lotPy l2) (by decide) (by decide) rfl ?_
  repeat (walk_at "m")
  refine f_told G (lot_len h2) ?_
  repeat (walk_at "m")
  refine (iEEA (.d (told l1)) (.d (told l2)) Unp.tuple ?_)
  try dsimp only
  repeat (walk_at "m")
  refine Op2.itemL (x := lotPy l1) (by decide) (by decide) rfl ?_
  have l13 := lot_len h1
  refine (iEA _ (Iter.list (by rw [List.length_map]; lia)) ?_)
  refine LpP.use (LpP.selI (ns := l1) (fun s => l2.any fun n => n == s) .int rfl (fun m hm => ?_) fun m hm hp => ?_) (by rw [List.length_map]; exact filter_le (by lia)) ?_
  · repeat (walk_at "m")
    refine Op2.itemL (x := lotPy l2) (by decide) (by decide) rfl ?_
    exact Op2.inL rfl (shd (k := 1) (shk_list shk_ints)) (iEAA _ rfl any_eqv rfl)
  · repeat (walk_at "m")
  have hi := signsIn_lot (l1.filter fun s => l2.any fun n => n == s)
  have hi' : IsLot (l1.filter fun s => l2.any fun n => n == s) := by rw [← inter_eq h1 h2]; exact hi
  repeat (walk_at "m")
  refine f_told G (lot_len hi') ?_
  repeat (first | walk_at "m" | refine E.and2 ?_)
  refine f_joined G rfl h1 h2 ?_
  repeat (walk_at "m")
  refine Op2.eq (shd (shk_told hi)) (shd (shk_told hi')) (iEAA _ rfl (fun _ => ?_) (fun hc => absurd (hc.symm.trans (eqv_told hi hi' (inter_eq h1 h2))) (by decide)))
  repeat (walk_at "m")
  refine f_joined G rfl h2 h1 ?_
  repeat (walk_at "m")
  have hj := signsIn_lot (l2.filter fun s => l1.any fun n => n == s)
  refine Op2.eq (shd (shk_told hj)) (shd (shk_told hi')) (.inl ?_)
  rw [show PyData.eqv (told (interL l2 l1)) (told (l1.filter fun s => l2.any fun n => n == s)) = true from eqv_told hj hi' (by rw [← inter_eq h1 h2]; exact (inter_comm h1 h2).symm)]
  exact q
end

end L6dx

noncomputable section L7ax
open PySem PySem.W PySem.Calls PyProof.Rows
set_option Elab.async false
set_option linter.unusedVariables false
set_option maxRecDepth 100000
seal PySem.compareOp PySem.binaryOp PySem.unaryOp E T Ts Es C Op1 Op2 S Ss As Ifs Lp Em Op3 Iter GM Unp
--NOMACROS
noncomputable def lk (V : List (Nat × List Int)) (c : Nat) : List Int := (aget V c).getD full
structure VOk (n : Nat) (V : List (Nat × List Int)) : Prop where
  lot : ∀ c l, aget V c = some l → IsLot l
  nd : (V.map (·.1)).Nodup
  lt : ∀ c ∈ V.map (·.1), c < n
theorem full_lot : IsLot full := (iEEE true true true rfl)
theorem VOk.lk {n : Nat} {V : List (Nat × List Int)} (h : VOk n V) (c : Nat) : IsLot (lk V c) := by
  unfold Mine.lk
  cases e : aget V c with
  | none => exact full_lot
  | some l => exact h.lot c l e
theorem VOk.len {n : Nat} {V : List (Nat × List Int)} (h : VOk n V) : V.length ≤ n := by
  have := nodup_len h.nd h.lt
  rwa [List.length_map] at this
theorem VOk.nil {n : Nat} : VOk n [] := ⟨fun c l e => (by cases e), (by simp), (by simp)⟩
theorem VOk.put {n : Nat} {V : List (Nat × List Int)} (h : VOk n V) {c : Nat} {l : List Int} (hc : c < n) (hl : IsLot l) : VOk n (aput V c l) := by
  refine ⟨fun a x e => ?_, aput_nodup h.nd, fun a m => ?_⟩
  · rw [aget_aput] at e
    split at e
    · cases e; exact hl
    · exact h.lot a x e
  · rcases aput_mem m with q | q
    · lia
    · exact h.lt a q
theorem lk_put {V : List (Nat × List Int)} {c : Nat} {l : List Int} (a : Nat) : lk (aput V c l) a = if a = c then l else lk V a := by
  unfold lk
  rw [aget_aput]
  split <;> rfl
theorem got_vals {Q : MV → MH → Prop} {H : MH} {V : List (Nat × List Int)} {c : Nat} (q : Q (.d (told (lk V c))) H) : Got Q H (valsOf V) (c : Int) := by
  unfold Got
  rw [valsOf_kv, getK_kv]
  unfold lk at q
  cases e : aget V c with
  | none => rw [e] at q; exact q
  | some l => rw [e] at q; exact q
noncomputable def Sub (a b : List Int) : Prop := ∀ s, s ∈ a → s ∈ b
theorem mem_signsIn {l : List Int} {s : Int} : s ∈ signsIn l ↔ s ∈ full ∧ s ∈ l := by
  unfold signsIn
  rw [List.mem_filter]
  simp
theorem mem_inter {a b : List Int} (ha : IsLot a) {s : Int} : s ∈ interL a b ↔ s ∈ a ∧ s ∈ b := by
  unfold interL
  rw [mem_signsIn, List.mem_filter]
  constructor
  · (intro yy1; (refine xAA yy1 fun _ h1 h2 => ?_; clear yy1))
    exact ⟨h1, by simpa using h2⟩
  · (intro yy2; (refine xA yy2 fun h1 h2 => ?_; clear yy2))
    exact (iAA (lot_mem ha h1) h1 (by simpa using h2))
theorem lot_mems (p q r : Bool) : (-1 ∈ lot p q r ↔ p = true) ∧ (0 ∈ lot p q r ↔ q = true) ∧ (1 ∈ lot p q r ↔ r = true) := by
  cases p <;> cases q <;> cases r <;> decide
/-- lots with the same signs are one -/
theorem lot_ext {a b : List Int} (ha : IsLot a) (hb : IsLot b) (h : ∀ s, s ∈ a ↔ s ∈ b) : a = b := by
  (refine xEEE ha fun p q r ee1 => ?_; clear ha; subst ee1)
  (refine xEEE hb fun p' q' r' ee2 => ?_; clear hb; subst ee2)
  have h1 := h (-1)
  have h2 := h 0
  have h3 := h 1
  rw [(lot_mems p q r).1, (lot_mems p' q' r').1] at h1
  rw [(lot_mems p q r).2.1, (lot_mems p' q' r').2.1] at h2
  rw [(lot_mems p q r).2.2, (lot_mems p' q' r').2.2] at h3
  rw [Bool.eq_iff_iff.mpr h1, Bool.eq_iff_iff.mpr h2, Bool.eq_iff_iff.mpr h3]
theorem told_inj {a b : List Int} (ha : IsLot a) (hb : IsLot b) (h : told a = told b) : a = b := by
  rcases told_cases ha with ⟨e1, t1⟩ | ⟨e1, t1⟩ | ⟨n1, m1, t1⟩ <;> rcases told_cases hb with ⟨e2, t2⟩ | ⟨e2, t2⟩ | ⟨n2, m2, t2⟩ <;> rw [t1, t2] at h <;> first | (cases h; done) | (rw [e1, e2]; done) | skip
  injection h with h
  have := congrArg (List.map fun | PyData.int i => i | _ => 0) h
  rw [List.map_map, List.map_map] at this
  have e : ((fun | PyData.int i => i | _ => 0) ∘ PyData.int) = id := rfl
  rwa [e, List.map_id, List.map_id] at this
theorem eqv_told_iff {a b : List Int} (ha : IsLot a) (hb : IsLot b) : PyData.eqv (told a) (told b) = true ↔ a = b :=
  (eqv_iff (plain_told ha) (plain_told hb)).trans ⟨told_inj ha hb, fun e => by rw [e]⟩
/-- what a class is reckoned to -/
noncomputable def Rk (h : HS) (Y : Nat → List Int) (c : Nat) (s : Int) : Prop := s ∈ Y c ∧ ∀ i (x : Nd), h.nodes[i]? = some x → rt h.uab i = c → s ∈ comesF x.1 (x.2.map fun k => Y (rt h.uab k))
structure Good (h : HS) (Y : Nat → List Int) : Prop where
  lot : ∀ i, IsLot (Y i)
  home : ∀ i, Y (rt h.uab i) = Y i
  fix : ∀ i (x : Nd), h.nodes[i]? = some x → Sub (Y i) (comesF x.1 (x.2.map Y))
/-- less in, less out -/
noncomputable def le1 : List (List Int) → List (List Int) → Bool
  | [], [] => true
  | a :: as, b :: bs => a.all (fun s => b.any fun n => n == s) && le1 as bs
  | _, _ => false
noncomputable def subB (a b : List Int) : Bool := a.all fun s => b.any fun n => n == s
theorem subB_iff {a b : List Int} : subB a b = true ↔ Sub a b := by
  unfold subB Sub
  simp
theorem mono1 (k : Kd) (p q r p' q' r' : Bool) (h : subB (lot p q r) (lot p' q' r') = true) : subB (comesF k [lot p q r]) (comesF k [lot p' q' r']) = true := by
  revert p q r p' q' r'
  cases k <;> decide +kernel
theorem mono2l (k : Kd) (p q r p' q' r' a b c : Bool) (h : subB (lot p q r) (lot p' q' r') = true) : subB (comesF k [lot p q r, lot a b c]) (comesF k [lot p' q' r', lot a b c]) = true := by
  revert p q r p' q' r' a b c
  cases k <;> decide +kernel
theorem mono2r (k : Kd) (p q r p' q' r' a b c : Bool) (h : subB (lot p q r) (lot p' q' r') = true) : subB (comesF k [lot a b c, lot p q r]) (comesF k [lot a b c, lot p' q' r']) = true := by
  revert p q r p' q' r' a b c
  cases k <;> decide +kernel
theorem Sub.trans {a b c : List Int} (x : Sub a b) (y : Sub b c) : Sub a c := fun s m => y s (x s m)
theorem comes_mono {k : Kd} {ks : List Nat} {Y Z : Nat → List Int} (hk : ks.length = k.ar) (hY : ∀ i, IsLot (Y i)) (hZ : ∀ i, IsLot (Z i)) (h : ∀ i ∈ ks, Sub (Y i) (Z i)) : Sub (comesF k (ks.map Y)) (comesF k (ks.map Z)) := by
  match ks, hk with
  | [], _ => exact fun s m => m
  | [a], _ =>
    have h1 := h a (by simp)
    refine xEEE (hY a) fun p q r e => ?_
    refine xEEE (hZ a) fun p' q' r' e' => ?_
    rw [List.map_cons, List.map_cons, e, e', List.map_nil, List.map_nil]
    rw [e, e'] at h1
    exact subB_iff.mp (mono1 k _ _ _ _ _ _ (subB_iff.mpr h1))
  | [a, b], _ =>
    have h1 := h a (by simp)
    have h2 := h b (by simp)
    refine xEEE (hY a) fun p q r e => ?_
    refine xEEE (hZ a) fun p' q' r' e' => ?_
    refine xEEE (hY b) fun u v w f => ?_
    refine xEEE (hZ b) fun u' v' w' f' => ?_
    rw [List.map_cons, List.map_cons, List.map_cons, List.map_cons, List.map_nil, List.map_nil, e, e', f, f']
    rw [e, e'] at h1
    rw [f, f'] at h2
    exact Sub.trans (subB_iff.mp (mono2l k _ _ _ _ _ _ _ _ _ (subB_iff.mpr h1))) (subB_iff.mp (mono2r k _ _ _ _ _ _ _ _ _ (subB_iff.mpr h2)))
  | a :: b :: c :: r, hk => exfalso; cases k <;> simp [Kd.ar] at hk
/-- what all kept signs of a class come to again -/
theorem Good.rk {m : Nat} {h : HS} {Y : Nat → List Int} (I : HInv m h) (g : Good h Y) {V : Nat → List Int} (hV : ∀ i, IsLot (V i)) (le : ∀ i, Sub (Y i) (V i)) {c : Nat} {s : Int} (hs : s ∈ Y c) : Rk h V c s := by
  refine ⟨le c s hs, fun i x e hi => ?_⟩
  have : s ∈ Y i := by rw [← g.home i, hi]; exact hs
  refine comes_mono (I.kid i x e).1 g.lot (fun k => hV _) (fun k _ => ?_) s (g.fix i x e s this)
  rw [← g.home k]
  exact le _
theorem Good.shrink {h h' : HS} {Y : Nat → List Int} (F : Fin' h h') (D : Dn h.uab) (g : Good h' Y) : Good h Y where
  lot := g.lot
  home := fun i => by
    rw [← g.home (rt h.uab i), ← g.home i]
    congr 1
    exact F.coarse _ _ (rt_rt D i)
  fix := fun i x e => g.fix i x (by rw [F.nodes]; exact e)

end L7ax

noncomputable section L7bx
open PySem PySem.W PySem.Calls PyProof.Rows
set_option Elab.async false
set_option linter.unusedVariables false
set_option maxRecDepth 100000
seal PySem.compareOp PySem.binaryOp PySem.unaryOp E T Ts Es C Op1 Op2 S Ss As Ifs Lp Em Op3 Iter GM Unp
set_option maxHeartbeats 2000000

section
variable {prog : Program} {w : World} {h₀ : Heap} {mg mb : Str → Option Value} {d : Nat} {Q : MV → MH → Prop} {cs : List Int} {a : Nat} {k : KS} {h : HS} {T : List MO} {m : Nat}
theorem f_keeper (G : Gnd h₀ (KF w.params) mg mb) (q : Q (.loc (.r .keep)) (MK ⟨cs, a, some ⟨[[]], 0⟩⟩ h T)) : C prog w h₀ (d + 4) (.ref 122) [.loc (.r .hp), .loc (.r .sgn)] (MK ⟨cs, a, none⟩ h T) Q := by
  refine C.make (lo := .r .keep) (fI := 83) G rfl rfl rfl rfl ?_
  refine CC.fn G (f := 83) (names := ["self", "heap", "analysis"]) rfl rfl rfl (bnd3 fun _ _ _ => rfl) rfl ?_
  dsimp only [List.zip_cons_cons, List.zip_nil_left]
  repeat (walk_at "m")
  refine As.attrS G rfl rfl cls122 rfl (by decide) ?_
  repeat (walk_at "m")
  refine As.attrS G rfl rfl cls122 rfl (by decide) ?_
  repeat (walk_at "m")
  refine E.dict0 G (.r (.vals 0)) (.dictI []) rfl (.inl rfl) ?_
  refine As.attrS G rfl rfl cls122 rfl (by decide) ?_
  repeat (walk_at "m")
  refine E.dict0 G (.r .told) (.dictI []) rfl (.inl rfl) ?_
  refine As.attrS G rfl rfl cls122 rfl (by decide) ?_
  repeat (walk_at "m")
  refine .inl (iAA rfl ?_ trivial)
  refine Eq.mpr (congrArg (Q _) (?_ : _ = MK ⟨cs, a, some ⟨[[]], 0⟩⟩ h T)) q
  refine mh_ext (fun y => ?_) rfl
  cases y with
  | vals j => cases j <;> rfl
  | _ => rfl
theorem vals_get {V : List (Nat × List Int)} {j : Nat} (e : k.vals[j]? = some V) : (MK ⟨cs, a, some k⟩ h T).get (.r (.vals j)) = some (.dictI (valsOf V)) := by
  show (k.vals[j]?).map _ = _
  rw [e]; rfl
theorem f_value (G : Gnd h₀ (KF w.params) mg mb) (I : HInv m h) {V : List (Nat × List Int)} (eV : k.vals[k.cur]? = some V) {c : Nat} (hc : c < h.nodes.length) (q : Q (.d (told (lk V (rt h.uab c)))) (MK ⟨cs, a, some k⟩ h T)) :
    C prog w h₀ (d + 3) (.ref 90) [.loc (.r .keep), natD c] (MK ⟨cs, a, some k⟩ h T) Q := by
  refine C.fn G (f := 90) (names := ["self", "c"]) rfl rfl rfl (bnd2 fun _ _ => rfl) rfl ?_
  dsimp only [List.zip_cons_cons, List.zip_nil_left]
  repeat (walk_at "m")
  refine (methBK.mk (GM.dget dlI (vals_get eV)) ?_)
  repeat (walk_at "m")
  refine f_hfind G I hc ?_
  repeat (walk_at "m")
  exact C.dget (k := (rt h.uab c : Int)) dlI (vals_get eV) (got_vals (.inl q))
theorem f_clashes (G : Gnd h₀ (KF w.params) mg mb) (I : HInv m h) {V : List (Nat × List Int)} (eV : k.vals[k.cur]? = some V) (oV : VOk h.nodes.length V)
    (q : Q (.d (.list (natPy ((rootsOf h.uab).filter fun c => decide (lk V c = []))))) (MK ⟨cs, a, some k⟩ h T)) :
    C prog w h₀ (d + 3) (.ref 112) [.loc (.r .keep)] (MK ⟨cs, a, some k⟩ h T) Q := by
  have n9 := I.n9
  have lr : (rootsOf h.uab).length ≤ 9 := by
    unfold rootsOf
    refine Nat.le_trans (List.length_filter_le _ _) ?_
    rw [List.length_range, I.lu]; exact n9
  refine C.fn G (f := 112) (names := ["self"]) rfl rfl rfl (bnd1 fun _ => rfl) rfl ?_
  dsimp only [List.zip_cons_cons, List.zip_nil_left]
  repeat (walk_at "m")
  refine f_hclasses G I ?_
  refine (iEA _ (Iter.list (by unfold natPy; simp; lia)) ?_)
  refine LpP.use (LpP.congr (LpP.selD (xs := natPy (rootsOf h.uab)) (fun | .int i => decide (lk V i.toNat = []) | _ => false) (fun x => x) rfl (fun z hz => ?_) fun z hz hp => ?_) (?_ : _ = natPy ((rootsOf h.uab).filter fun c => decide (lk V c = [])))) (by unfold natPy; rw [List.length_map]; exact filter_le (by lia)) (.inl q)
  · unfold natPy at hz
    (refine xEA (List.mem_map.mp hz) fun c hc ee1 => ?_; subst ee1)
    repeat (walk_at "m")
    refine (methBK.mk (GM.dget dlI (vals_get eV)) ?_)
    repeat (walk_at "m")
    refine C.dget (k := (c : Int)) dlI (vals_get eV) (got_vals ?_)
    repeat (walk_at "m")
    refine Op2.eq (shd (shk_told (oV.lk c))) (by decide +kernel) (iEAA _ rfl ?_ rfl)
    rw [eqv_clash (oV.lk c)]; rfl
  · repeat (walk_at "m")
  · rw [List.map_id']
    unfold natPy
    rw [List.filter_map]
    rfl
/-- one dict of values more -/
theorem f_begun (G : Gnd h₀ (KF w.params) mg mb) (I : HInv m h) {V : List (Nat × List Int)} (eV : k.vals[k.cur]? = some V) (oV : VOk h.nodes.length V)
    (q : ∀ V', VOk h.nodes.length V' → (∀ Y : Nat → List Int, (∀ i, IsLot (Y i)) → (∀ i, Y (rt h.uab i) = Y i) → (∀ c, Sub (Y c) (lk V c)) → ∀ c, Sub (Y c) (lk V' c)) →
      Q (.d .none) (MK ⟨cs, a, some ⟨k.vals ++ [V'], k.vals.length⟩⟩ h T)) :
    C prog w h₀ (d + 4) (.ref 97) [.loc (.r .keep)] (MK ⟨cs, a, some k⟩ h T) Q := by
  have n9 := I.n9
  have lV := oV.len
  refine C.fn G (f := 97) (names := ["self"]) rfl rfl rfl (bnd1 fun _ => rfl) rfl ?_
  dsimp only [List.zip_cons_cons, List.zip_nil_left]
  repeat (walk_at "m")
  refine E.dict0 G (.r (.vals k.vals.length)) (.dictI []) ?_ (.inl rfl) ?_
  · show (k.vals[k.vals.length]?).map _ = none
    simp
  rw [mk_vals (by rfl)]
  repeat (walk_at "m")
  have hcur : k.cur < k.vals.length := (List.getElem?_eq_some_iff.mp eV).1
  have e1 : ∀ F : List (Nat × List Int), (k.vals ++ [F])[k.cur]? = some V := fun F => by rw [List.getElem?_append_left hcur]; exact eV
  have e2 : ∀ F : List (Nat × List Int), (k.vals ++ [F])[k.vals.length]? = some F := fun F => by simp
  refine S.for ?_
  repeat (walk_at "m")
  have keys : (valsOf V).map (·.1) = up (V.map (·.1)) := by unfold valsOf up; rw [List.map_map, List.map_map]; rfl
  refine C.sortedI (P := fun ns => ns = up (V.map (·.1))) (Coll.dictI (vals_get (e1 [])) (by rw [valsOf_kv, kv_len]; lia) (iEAA _ rfl keys (by rw [keys]; unfold up; simp; lia))) fun ns ns' e p _ => ?_
  subst e
  (refine xEA (perm_up p) fun l ee2 p' => ?_; subst ee2)
  have ll : l.length ≤ 9 := by have := p'.length_eq; simp at this; lia
  rw [show (up l).map PyData.int = natPy l from natPy_up.symm]
  refine (iEEAAA _ ((fun i ρ H => ∃ F, H = MK ⟨cs, a, some ⟨k.vals ++ [F], k.cur⟩⟩ h T ∧ Has ρ "self" (.loc (.r .keep)) ∧ Has ρ "found" (.loc (.r (.vals k.vals.length))) ∧ VOk h.nodes.length F ∧
      ∀ Y : Nat → List Int, (∀ i, IsLot (Y i)) → (∀ i, Y (rt h.uab i) = Y i) → (∀ c, Sub (Y c) (lk V c)) → ∀ c, Sub (Y c) (lk F c))) (Iter.list (by unfold natPy; simp; lia)) (
    (iEAAAA ([]) rfl rfl rfl .nil (fun Y hY _ _ c s hs => lot_mem (hY c) hs))) (fun i mv ρ' H'' e hI => ?_) (fun ρ' H'' hI => ?_))
  · (refine xEAAAA hI fun F ee3 hs hf oF hF => ?_; clear hI; subst ee3)
    (refine xEA (natPy_ix e) fun c ec ee4 => ?_; subst ee4)
    have hc : c ∈ V.map (·.1) := p'.mem_iff.mp (List.mem_of_getElem? ec)
    have hcn := oV.lt c hc
    have hrc := rt_le I.dn c
    obtain ⟨lc, hlc⟩ : ∃ lc, aget V c = some lc := by
      cases e : aget V c with
      | some l => exact ⟨l, rfl⟩
      | none =>
        (refine xEA (List.mem_map.mp hc) fun p hp ee5 => ?_; subst ee5)
        exact absurd hp (aget_none e)
    have hlk : lk V c = lc := by unfold lk; rw [hlc]; rfl
    repeat (walk_at "m")
    refine f_hfind G I hcn ?_
    repeat (walk_at "m")
    refine (methBK.mk (GM.dget dlI (vals_get (e2 F))) ?_)
    repeat (walk_at "m")
    refine C.dget (k := (rt h.uab c : Int)) dlI (vals_get (e2 F)) (got_vals ?_)
    repeat (walk_at "m")
    refine Op2.itemD' (k := (c : Int)) dlI (vals_get (e1 F)) (by rw [valsOf_kv, getK_kv, hlc]; rfl) ?_
    repeat (walk_at "m")
    rw [← hlk]
    refine f_joined G rfl (oF.lk _) (oV.lk _) ?_
    repeat (walk_at "m")
    refine Op3.setD (k := (rt h.uab c : Int)) dlI (vals_get (e2 F)) (by rw [valsOf_kv, kv_len]; have := oF.len; lia) ?_
    rw [mk_valsset (x := aput F (rt h.uab c) (interL (lk F (rt h.uab c)) (lk V c))) (by simp) (by exact congrArg MO.dictI (putK_kv (f := fun x => .d (told x)) (v := interL (lk F (rt h.uab c)) (lk V c)))),
      show (k.vals ++ [F]).set k.vals.length (aput F (rt h.uab c) (interL (lk F (rt h.uab c)) (lk V c))) = k.vals ++ [aput F (rt h.uab c) (interL (lk F (rt h.uab c)) (lk V c))] by rw [List.set_append_right _ _ (Nat.le_refl _)]; simp]
    refine Ss.nil (iEAAAA _ rfl hs hf (oF.put (by lia) (signsIn_lot _)) (fun Y hY hh hle x s hs => ?_))
    rw [lk_put]
    split
    · rename_i e
      subst e
      rw [mem_inter (oF.lk _)]
      exact ⟨hF Y hY hh hle _ s hs, hle c s (by rwa [hh] at hs)⟩
    · exact hF Y hY hh hle x s hs
  · (refine xEAAAA hI fun F ee6 hs hf oF hF => ?_; clear hI; subst ee6)
    repeat (walk_at "m")
    refine As.attrS G hs rfl cls122 rfl (by simp) ?_
    rw [mk_keep (j := k.vals.length) (by rfl)]
    repeat (walk_at "m")
    exact .inl (q F oF hF)
end

end L7bx

noncomputable section L7cx
open PySem PySem.W PySem.Calls PyProof.Rows
set_option Elab.async false
set_option linter.unusedVariables false
set_option maxRecDepth 100000
seal PySem.compareOp PySem.binaryOp PySem.unaryOp E T Ts Es C Op1 Op2 S Ss As Ifs Lp Em Op3 Iter GM Unp
set_option maxHeartbeats 2000000

section
variable {prog : Program} {w : World} {h₀ : Heap} {mg mb : Str → Option Value} {d : Nat} {Q : MV → MH → Prop} {cs : List Int} {a : Nat} {k : KS} {h : HS} {T : List MO} {m : Nat}
theorem f_reckoned (G : Gnd h₀ (KF w.params) mg mb) (I : HInv m h) {V : List (Nat × List Int)} (eV : k.vals[k.cur]? = some V) (oV : VOk h.nodes.length V) {c : Nat} (hc : c < h.nodes.length) (rc : rt h.uab c = c)
    (q : ∀ R, IsLot R → (∀ s, s ∈ R ↔ Rk h (lk V) c s) → Q (.d (told R)) (MK ⟨cs, a, some k⟩ h T)) :
    C prog w h₀ (d + 6) (.ref 102) [.loc (.r .keep), natD c] (MK ⟨cs, a, some k⟩ h T) Q := by
  refine C.fn G (f := 102) (names := ["self", "c"]) rfl rfl rfl (bnd2 fun _ _ => rfl) rfl ?_
  dsimp only [List.zip_cons_cons, List.zip_nil_left]
  repeat (walk_at "m")
  refine (methBK.mk (GM.dget dlI (vals_get eV)) ?_)
  repeat (walk_at "m")
  refine C.dget (k := (c : Int)) dlI (vals_get eV) (got_vals ?_)
  repeat (walk_at "m")
  refine S.for ?_
  repeat (walk_at "m")
  refine f_nodes_of G I hc rc fun L l9 hL => ?_
  refine (iEEAAA _ ((fun i ρ H => ∃ R, H = MK ⟨cs, a, some k⟩ h T ∧ Has ρ "self" (.loc (.r .keep)) ∧ Has ρ "found" (.d (told R)) ∧ IsLot R ∧
      ∀ s, s ∈ R ↔ (s ∈ lk V c ∧ ∀ y ∈ L.take i, s ∈ comesF y.1 (y.2.map (lk V))))) (Iter.list (by simp; lia)) (
    (iEAAAA (lk V c) rfl rfl rfl (oV.lk c) (by simp))) (fun i mv ρ' H'' e hI => ?_) (fun ρ' H'' hI => ?_))
  · (refine xEAAAA hI fun R ee1 hs hf oR hR => ?_; clear hI; subst ee1)
    rw [List.getElem?_map, List.getElem?_map, Option.map_map, Option.map_eq_some_iff] at e
    (refine xEA e fun y ey ee2 => ?_; clear e; subst ee2)
    refine xEEAA ((hL y).mp (List.mem_of_getElem? ey)) fun i0 x0 e0 r0 hy => ?_
    have har : y.2.length = y.1.ar := by rw [hy]; unfold canon; simp; exact (I.kid i0 x0 e0).1
    have har2 : y.1.ar ≤ 2 := by cases y.1 <;> decide
    repeat (walk_at "m")
    refine ⟨by unfold natPy; simp; lia, ?_⟩
    rw [List.drop_one, List.tail_cons, subR1 (x := "self") (v := .loc (.r .keep)) (by rfl) (by exact hs)]
    refine (iEA _ Iter.tuple (LpP.use (LpP.eachN (ns := y.2) (fun kid => told (lk V kid)) rfl fun kid hk => ?_) (by simp; lia) ?_))
    · repeat (walk_at "m")
      refine (methBK.mk (GM.dget dlI (vals_get eV)) ?_)
      repeat (walk_at "m")
      exact C.dget (k := (kid : Int)) dlI (vals_get eV) (got_vals ⟨rfl, rfl⟩)
    rw [show y.2.map (fun kid => told (lk V kid)) = (y.2.map (lk V)).map told by rw [List.map_map]; rfl]
    have hls : ∀ l ∈ y.2.map (lk V), IsLot l := fun l m => by
      (refine xEA (List.mem_map.mp m) fun x _ ee3 => ?_; subst ee3)
      exact oV.lk x
    try dsimp only
    repeat (walk_at "m")
    refine Op2.itemT (x := .str y.1.op) (by decide) (by decide) rfl ?_
    repeat (walk_at "m")
    refine f_of_node G rfl hls (by simp; exact har) ?_
    repeat (walk_at "m")
    refine f_joined G rfl oR (comesF_lot _ _) ?_
    repeat (walk_at "m")
    refine (iEAAAA _ rfl hs rfl (signsIn_lot _) (fun s => ?_))
    rw [List.take_add_one, ey]
    rw [mem_inter oR, hR]
    simp only [List.mem_append, Option.toList_some, List.mem_singleton]
    constructor
    · (intro yy1; (refine xA yy1 fun zz4 h3 => ?_; clear yy1; obtain ⟨h1, h2⟩ := zz4))
      refine ⟨h1, fun z hz => ?_⟩
      rcases hz with q1 | q1
      · exact h2 z q1
      · rw [q1]; exact h3
    · (intro yy2; (refine xA yy2 fun h1 h2 => ?_; clear yy2))
      exact ⟨⟨h1, fun z hz => h2 z (.inl hz)⟩, h2 y (.inr rfl)⟩
  · (refine xEAAAA hI fun R ee5 hs hf oR hR => ?_; clear hI; subst ee5)
    repeat (walk_at "m")
    refine .inl (q R oR fun s => ?_)
    rw [hR, List.length_map, List.length_map, List.take_length]
    unfold Rk
    constructor
    · (intro yy3; (refine xA yy3 fun h1 h2 => ?_; clear yy3))
      refine ⟨h1, fun i x e hi => ?_⟩
      have := h2 (canon h.uab x) ((hL _).mpr (iEEAA i x e hi rfl))
      unfold canon at this
      rwa [List.map_map] at this
    · (intro yy4; (refine xA yy4 fun h1 h2 => ?_; clear yy4))
      refine ⟨h1, fun y hy => ?_⟩
      (refine xEEAA ((hL y).mp hy) fun i x e hi ee6 => ?_; subst ee6)
      unfold canon
      rw [List.map_map]
      exact h2 i x e hi
end

end L7cx

noncomputable section L7dx
open PySem PySem.W PySem.Calls PyProof.Rows
set_option Elab.async false
set_option linter.unusedVariables false
set_option maxRecDepth 100000
seal PySem.compareOp PySem.binaryOp PySem.unaryOp E T Ts Es C Op1 Op2 S Ss As Ifs Lp Em Op3 Iter GM Unp
--NOMACROS
noncomputable def FixAt (h : HS) (V : List (Nat × List Int)) (c : Nat) : Prop := ∀ s, s ∈ lk V c → Rk h (lk V) c s
theorem fix_change {m : Nat} {h : HS} (I : HInv m h) {V : List (Nat × List Int)} {c : Nat} (hc : c < h.nodes.length) (rc : rt h.uab c = c) {R : List Int} {W W' : List Nat} (hB : ∀ d, d < h.nodes.length → rt h.uab d = d → d ∉ c :: W → FixAt h V d)
    (hR : ∀ s, s ∈ R ↔ Rk h (lk V) c s) (hW : ∀ i ∈ al h c, rt h.uab i ∈ W') (hs : ∀ x ∈ W, x ∈ W') : ∀ d, d < h.nodes.length → rt h.uab d = d → d ∉ W' → FixAt h (aput V c R) d := by
  intro d hd rd hdw s hs'
  refine ⟨hs', fun i x e hi => ?_⟩
  have hne : ∀ κ ∈ x.2, rt h.uab κ ≠ c := fun κ hκ e2 => hdw (hi ▸ hW i (I.alc c hc rc i x e κ hκ e2))
  have em : (x.2.map fun κ => lk (aput V c R) (rt h.uab κ)) = x.2.map fun κ => lk V (rt h.uab κ) := List.map_congr_left fun κ hκ => by rw [lk_put, if_neg (hne κ hκ)]
  rw [em]
  rw [lk_put] at hs'
  split at hs'
  · rename_i q
    exact ((hR s).mp hs').2 i x e (by rw [hi, q])
  · rename_i q
    exact (hB d hd rd (fun m => by
      rcases List.mem_cons.mp m with z | z
      · exact q z
      · exact hdw (hs d z)) s hs').2 i x e hi
theorem fix_same {h : HS} {V : List (Nat × List Int)} {c : Nat} {R : List Int} {W : List Nat} (hB : ∀ d, d < h.nodes.length → rt h.uab d = d → d ∉ c :: W → FixAt h V d)
    (hR : ∀ s, s ∈ R ↔ Rk h (lk V) c s) (e : R = lk V c) : ∀ d, d < h.nodes.length → rt h.uab d = d → d ∉ W → FixAt h V d := by
  intro d hd rd hdw
  by_cases q : d = c
  · subst q
    intro s hs
    exact (hR s).mp (e ▸ hs)
  · exact hB d hd rd fun m => by
      rcases List.mem_cons.mp m with z | z
      · exact q z
      · exact hdw z
theorem lot_lt {a b : List Int} (ha : IsLot a) (hb : IsLot b) (h : Sub a b) (ne : a ≠ b) : a.length < b.length := by
  have h2 := subB_iff.mpr h
  clear h
  (refine xEEE ha fun p q r ee1 => ?_; clear ha; subst ee1)
  (refine xEEE hb fun p' q' r' ee2 => ?_; clear hb; subst ee2)
  revert p q r p' q' r'
  decide +kernel
noncomputable def sz (V : List (Nat × List Int)) (n : Nat) : Nat := tot (fun r => (lk V r).length) n
theorem sz_put {V : List (Nat × List Int)} {n c : Nat} {R : List Int} (hc : c < n) (h : R.length < (lk V c).length) : sz (aput V c R) n < sz V n := by
  have := tot_one (f := fun r => (lk V r).length) (g := fun r => (lk (aput V c R) r).length) hc fun i _ ne => by rw [lk_put, if_neg ne]
  have e : lk (aput V c R) c = R := by rw [lk_put, if_pos rfl]
  rw [e] at this
  unfold sz
  lia
theorem tot_bound {f : Nat → Nat} {n b : Nat} (h : ∀ i, f i ≤ b) : tot f n ≤ b * n := by
  induction n with
  | zero => exact Nat.le_refl _
  | succ n ih =>
    rw [tot_succ, Nat.mul_succ]
    have := h n
    lia
theorem sz_le {n : Nat} {V : List (Nat × List Int)} (o : VOk n V) : sz V n ≤ 3 * n := tot_bound fun i => lot_len (o.lk i)
noncomputable def T2 (T : List MO) (row W : List Nat) : List MO := T ++ [natsO row, .dictI (truesOf (up W))]
section
variable {c : Cx} {h : HS} {T : List MO} {row W : List Nat}
theorem t2_row : (MK c h (T2 T row W)).get (.tmp T.length) = some (natsO row) := by
  show (T ++ [_, _])[T.length]? = _
  simp
theorem t2_wait : (MK c h (T2 T row W)).get (.tmp (T.length + 1)) = some (.dictI (truesOf (up W))) := by
  show (T ++ [_, _])[T.length + 1]? = _
  rw [List.getElem?_append_right (by lia)]; simp
theorem t2_putrow {o : MO} {row' : List Nat} (e : o = natsO row') : (MK c h (T2 T row W)).put (.tmp T.length) o = MK c h (T2 T row' W) := by
  subst e
  rw [mk_tmp]
  unfold T2
  rw [List.set_append_right _ _ (Nat.le_refl _)]; simp
theorem t2_putwait {o : MO} {W' : List Nat} (e : o = .dictI (truesOf (up W'))) : (MK c h (T2 T row W)).put (.tmp (T.length + 1)) o = MK c h (T2 T row W') := by
  subst e
  rw [mk_tmp]
  unfold T2
  rw [List.set_append_right _ _ (by lia)]
  rw [show T.length + 1 - T.length = 1 by lia]; rfl
theorem trues_get {W : List Nat} {x : Nat} : getK (truesOf (up W)) (x : Int) = if x ∈ W then some (.d (.bool true)) else none := by
  unfold getK truesOf up
  rw [List.map_map]
  induction W with
  | nil => rfl
  | cons y W ih =>
    rw [List.map_cons, List.find?_cons]
    by_cases e : y = x
    · subst e; simp
    · rw [show decide ((((fun s => (s, MV.d (PyData.bool true))) ∘ fun (k : Nat) => (k : Int)) y).1 = (x : Int)) = false by simp; lia]
      rw [ih]
      have : (x ∈ y :: W) ↔ x ∈ W := by simp; intro q; exact absurd q.symm e
      by_cases m : x ∈ W
      · rw [if_pos m, if_pos (this.mpr m)]
      · rw [if_neg m, if_neg fun q => m (this.mp q)]
theorem trues_del {W : List Nat} {x : Nat} (nd : (x :: W).Nodup) : delK (truesOf (up (x :: W))) (x : Int) = truesOf (up W) := by
  unfold delK truesOf up
  rw [List.map_cons, List.map_cons, List.filter_cons, if_neg (by simp), List.filter_eq_self]
  intro p hp
  rw [List.map_map] at hp
  (refine xEA (List.mem_map.mp hp) fun y hy ee3 => ?_; subst ee3)
  have : y ≠ x := fun e => (List.nodup_cons.mp nd).1 (e ▸ hy)
  simp; lia
theorem trues_put {W : List Nat} {x : Nat} (h : x ∉ W) : putK (truesOf (up W)) (x : Int) (.d (.bool true)) = truesOf (up (W ++ [x])) := by
  rw [putK_trues]
  unfold ins
  rw [if_neg (fun m => by
    refine xEA (List.mem_map.mp m) fun y hy e => ?_
    exact h (by have : y = x := by lia
                exact this ▸ hy))]
  unfold up
  rw [List.map_append]; rfl
end

end L7dx

noncomputable section L7ex
open PySem PySem.W PySem.Calls PyProof.Rows
set_option Elab.async false
set_option linter.unusedVariables false
set_option maxRecDepth 100000
seal PySem.compareOp PySem.binaryOp PySem.unaryOp E T Ts Es C Op1 Op2 S Ss As Ifs Lp Em Op3 Iter GM Unp
set_option maxHeartbeats 2000000

theorem roots_nodup {u : List Nat} : (rootsOf u).Nodup := List.nodup_range.sublist List.filter_sublist
theorem mem_roots {m : Nat} {h : HS} (I : HInv m h) {c : Nat} : c ∈ rootsOf h.uab ↔ c < h.nodes.length ∧ rt h.uab c = c := by
  unfold rootsOf
  rw [List.mem_filter, List.mem_range, I.lu, rt_iff I.dn]
  simp
section
variable {prog : Program} {w : World} {h₀ : Heap} {mg mb : Str → Option Value} {d : Nat} {Q : MV → MH → Prop} {cs : List Int} {a : Nat} {k : KS} {h : HS} {T : List MO} {m : Nat}
set_option maxHeartbeats 2000000 in
theorem f_ksettle (G : Gnd h₀ (KF w.params) mg mb) (I : HInv m h) (hT : TD T) {V0 : List (Nat × List Int)} (eV : k.vals[k.cur]? = some V0) (oV : VOk h.nodes.length V0)
    (q : ∀ V, VOk h.nodes.length V → (∀ Y, Good h Y → (∀ c, Sub (Y c) (lk V0 c)) → ∀ c, Sub (Y c) (lk V c)) → (∀ c, c < h.nodes.length → rt h.uab c = c → FixAt h V c) →
      Q (.d .none) (MK ⟨cs, a, some ⟨k.vals ++ [V], k.vals.length⟩⟩ h T)) :
    C prog w h₀ (d + 7) (.ref 107) [.loc (.r .keep)] (MK ⟨cs, a, some k⟩ h T) Q := by
  have n9 := I.n9
  refine C.fn G (f := 107) (names := ["self"]) rfl rfl rfl (bnd1 fun _ => rfl) rfl ?_
  dsimp only [List.zip_cons_cons, List.zip_nil_left]
  repeat (walk_at "m")
  refine f_begun G I eV oV fun V1 o1 hV1 => ?_
  have lr : (rootsOf h.uab).length ≤ 9 := Nat.le_trans (nodup_len roots_nodup fun x hx => ((mem_roots I).mp hx).1) n9
  have eL : ∀ V, (k.vals ++ [V])[k.vals.length]? = some V := fun V => by simp
  repeat (walk_at "m")
  refine f_hclasses G I ?_
  repeat (walk_at "m")
  refine C.listL (lo := .tmp T.length) rfl (by unfold natPy; simp; lia) ?_
  repeat (walk_at "m")
  refine S.asgDC (ks := up (rootsOf h.uab)) G (.tmp (T.length + 1)) rfl ?_ (by unfold up; simp; lia) ?_ ?_ ?_
  · show (T ++ [_])[T.length]? = _
    rw [natPy_up]
    simp
  · unfold up
    refine List.Pairwise.map _ (fun a b ne q => ne (by lia)) roots_nodup
  · show T.length + 1 = (T ++ [_]).length
    simp
  have eT : ∀ (c : Cx) (row : List Nat), ((MK c h T).add (.tmp T.length) (.list ((natPy row).map .d))).add (.tmp (T.length + 1)) (.dictI ((up row).map fun k => (k, .d (.bool true)))) = MK c h (T2 T row row) := fun c row => by
    rw [mk_add, mk_add, ← natsO_ints]
    unfold T2 truesOf
    rw [List.append_assoc]; rfl
  rw [eT]
  try dsimp only
  refine Ss.cons (S.asg (E.int (As.name ?_)))
  refine Ss.cons (S.while (fun n ρ H => ∃ pre W V, H = MK ⟨cs, a, some ⟨k.vals ++ [V], k.vals.length⟩⟩ h (T2 T (pre ++ W) W) ∧ Has ρ "self" (.loc (.r .keep)) ∧ Has ρ "row" (.loc (.tmp T.length)) ∧
      Has ρ "waiting" (.loc (.tmp (T.length + 1))) ∧ Has ρ "spot" (natD pre.length) ∧ VOk h.nodes.length V ∧ W.Nodup ∧ (∀ x ∈ W, x < h.nodes.length ∧ rt h.uab x = x) ∧
      (∀ Y, Good h Y → (∀ c, Sub (Y c) (lk V0 c)) → ∀ c, Sub (Y c) (lk V c)) ∧ (∀ c, c < h.nodes.length → rt h.uab c = c → c ∉ W → FixAt h V c) ∧
      n = sz V h.nodes.length * 10 + W.length ∧ pre.length + n ≤ 300) (fun n ρ H hI => ?_) (sz V1 h.nodes.length * 10 + (rootsOf h.uab).length)
    (iEEEAAAAAAAAAAA ([]) (rootsOf h.uab) V1 rfl rfl rfl rfl rfl o1 roots_nodup (fun x hx => (mem_roots I).mp hx) (fun Y g le => hV1 Y g.lot g.home le) (fun c hc rc nm => absurd ((mem_roots I).mpr ⟨hc, rc⟩) nm) rfl (by have := sz_le o1; simp; lia)))
  (refine xEEEAAAAAAAAAAA hI fun pre W V ee1 hs hr hw hp oV' nW rW hA hB ee2 hb => ?_; clear hI; subst ee1; subst ee2)
  have lW : W.length ≤ 9 := Nat.le_trans (nodup_len nW fun x hx => (rW x hx).1) n9
  repeat (walk_at "m")
  refine C.lenN' t2_row (by walk_at "len") (by lia) ?_
  repeat (walk_at "m")
  refine (iEAA _ rfl (fun hc => ?_) (fun hc => ?_))
  · have hpos : 0 < W.length := by have := of_decide_eq_true hc; lia
    match W, nW, rW, hB, hb, lW, hpos with
    | [], _, _, _, _, _, hpos => exact absurd hpos (by simp)
    | c :: W, nW, rW, hB, hb, lW, hpos =>
      clear hc
      refine xA (rW c (by simp)) fun hcn rc => ?_
      have nW' := List.nodup_cons.mp nW
      have eP : pre ++ c :: W = (pre ++ [c]) ++ W := by simp
      simp only [List.length_cons] at hb lW
      refine Ss.cons (S.sw2 ?_)
      repeat (walk_at "m")
      refine Op2.itemN (x := natD c) t2_row (Int.natCast_nonneg _) (by lia) (by rw [Int.toNat_natCast, List.getElem?_map, List.getElem?_append_right (Nat.le_refl _)]; simp) ?_
      repeat (walk_at "m")
      refine (iEEA (.d (.int c)) (.d (.int (pre.length + 1))) Unp.tuple ?_)
      try dsimp only
      repeat (walk_at "m")
      refine (methBK.mk (GM.dpop dlI t2_wait) ?_)
      repeat (walk_at "m")
      refine C.dpop (k := (c : Int)) (m := .d (.bool true)) dlI t2_wait (by unfold truesOf up; simp; lia) (by rw [trues_get, if_pos (by simp)]) ?_
      rw [t2_putwait (W' := W) (by rw [trues_del nW])]
      repeat (walk_at "m")
      refine f_reckoned G I (eL V) oV' hcn rc fun R oR hR => ?_
      repeat (walk_at "m")
      refine (methBK.mk (GM.dget dlI (vals_get (eL V))) ?_)
      repeat (walk_at "m")
      refine C.dget (k := (c : Int)) dlI (vals_get (eL V)) (got_vals ?_)
      have olk := oV'.lk c
      refine Op2.ne (shd (shk_told oR)) (shd (shk_told olk)) (iEAA _ rfl (fun h1 => ?_) (fun h1 => ?_))
      · have ne : R ≠ lk V c := fun e => by rw [(eqv_told_iff oR olk).mpr e] at h1; cases h1
        repeat (walk_at "m")
        have hRs : Sub R (lk V c) := fun s hs => ((hR s).mp hs).1
        have hlt := sz_put (n := h.nodes.length) hcn (lot_lt oR olk hRs ne)
        have oV2 := oV'.put hcn oR
        refine Op3.setD (k := (c : Int)) dlI (vals_get (eL V)) (by rw [valsOf_kv, kv_len]; have := oV'.len; lia) ?_
        rw [mk_valsset (x := aput V c R) (by simp) (by exact congrArg MO.dictI (putK_kv (f := fun x => .d (told x)) (v := R))), show (k.vals ++ [V]).set k.vals.length (aput V c R) = k.vals ++ [aput V c R] by rw [List.set_append_right _ _ (Nat.le_refl _)]; simp]
        try dsimp only
        refine Ss.cons (S.for ?_)
        repeat (walk_at "m")
        refine f_users G I hcn fun l l18 hl => ?_
        rw [rc] at hl
        refine (iEEAAA _ ((fun j ρ H => ∃ W', H = MK ⟨cs, a, some ⟨k.vals ++ [aput V c R], k.vals.length⟩⟩ h (T2 T ((pre ++ [c]) ++ W') W') ∧ Has ρ "self" (.loc (.r .keep)) ∧ Has ρ "row" (.loc (.tmp T.length)) ∧
            Has ρ "waiting" (.loc (.tmp (T.length + 1))) ∧ Has ρ "spot" (.d (.int (pre.length + 1))) ∧ W'.Nodup ∧ (∀ x ∈ W', x < h.nodes.length ∧ rt h.uab x = x) ∧ (∀ x ∈ W, x ∈ W') ∧ ∀ i ∈ l.take j, rt h.uab i ∈ W')) (
          Iter.list (by unfold natPy; simp; lia)) ((iEAAAAAAAA W (by rw [eP]) hs hr hw rfl nW'.2 (fun x hx => rW x (by simp [hx])) (fun x hx => hx) (by simp))) (fun j mv ρ' H'' e hJ => ?_) (fun ρ' H'' hJ => ?_))
        · (refine xEAAAAAAAA hJ fun W' ee3 hs hr hw hp nd rW' hsub hin => ?_; clear hJ; subst ee3)
          (refine xEA (natPy_ix e) fun u eu ee4 => ?_; subst ee4)
          have hun : u < h.nodes.length := I.alm c u ((hl u).mp (List.mem_of_getElem? eu))
          have hru := rt_le I.dn u
          have lW' : W'.length ≤ 9 := Nat.le_trans (nodup_len nd fun x hx => (rW' x hx).1) n9
          repeat (walk_at "m")
          refine f_hfind G I hun ?_
          repeat (walk_at "m")
          refine Op2.notInD (k := (rt h.uab u : Int)) dlI t2_wait ?_
          rw [trues_get]
          by_cases hm : rt h.uab u ∈ W'
          · rw [if_pos hm]
            refine (iEAA _ rfl (fun hc => (nomatch hc)) (fun _ => ?_))
            repeat (refine Ss.nil ?_)
            refine (iEAAAAAAAA W' rfl hs hr hw hp nd rW' hsub (fun i hi => ?_))
            rw [List.take_add_one, eu] at hi
            rcases List.mem_append.mp hi with z | z
            · exact hin i z
            · simp at z; rw [z]; exact hm
          · rw [if_neg hm]
            refine (iEAA _ rfl (fun _ => ?_) (fun hc => nomatch hc))
            repeat (walk_at "m")
            refine Op3.setD (k := (rt h.uab u : Int)) dlI t2_wait (by unfold truesOf up; simp; lia) ?_
            rw [t2_putwait (W' := W' ++ [rt h.uab u]) (by exact congrArg MO.dictI (trues_put hm))]
            repeat (walk_at "m")
            refine (methBK.mk (GM.append t2_row) ?_)
            repeat (walk_at "m")
            refine C.append t2_row (by simp; lia) ?_
            rw [t2_putrow (row' := (pre ++ [c]) ++ (W' ++ [rt h.uab u])) (by unfold natsO; simp)]
            refine ⟨rfl, ?_⟩
            repeat (refine Ss.nil ?_)
            refine (iEAAAAAAAA (W' ++ [rt h.uab u]) rfl hs hr hw hp ?_ (fun x hx => ?_) (fun x hx => List.mem_append_left _ (hsub x hx)) (fun i hi => ?_))
            · rw [List.nodup_append]
              exact (iAA nd (by simp) (fun a ha b hb e => by simp at hb; subst hb; subst e; exact hm ha))
            · rcases List.mem_append.mp hx with z | z
              · exact rW' x z
              · simp at z; rw [z]; exact ⟨by lia, rt_rt I.dn u⟩
            · rw [List.take_add_one, eu] at hi
              rcases List.mem_append.mp hi with z | z
              · exact List.mem_append_left _ (hin i z)
              · simp at z; rw [z]; simp
        · (refine xEAAAAAAAA hJ fun W' ee5 hs hr hw hp nd rW' hsub hin => ?_; clear hJ; subst ee5)
          have hlen : (natPy l).length = l.length := by unfold natPy; simp
          rw [List.length_map, hlen, List.take_length] at hin
          have lW' : W'.length ≤ 9 := Nat.le_trans (nodup_len nd fun x hx => (rW' x hx).1) n9
          repeat (refine Ss.nil ?_)
          refine (iEAEEEAAAAAAAAAAA (sz (aput V c R) h.nodes.length * 10 + W'.length) (by simp only [List.length_cons]; lia) (pre ++ [c]) W' (aput V c R) rfl hs hr hw ?_ oV2 nd rW' (fun Y g le x s hs => ?_) (fix_change I hcn rc hB hR (fun i hi => hin i ((hl i).mpr hi)) hsub) rfl (by simp only [List.length_append, List.length_cons, List.length_nil]; lia))
          · rw [show natD (pre ++ [c]).length = .d (.int (pre.length + 1)) by simp [natD]]
            exact hp
          · rw [lk_put]
            split
            · rename_i e
              subst e
              exact (hR s).mpr (g.rk I (fun i => oV'.lk i) (hA Y g le) hs)
            · exact hA Y g le x s hs
      · have e : R = lk V c := (eqv_told_iff oR olk).mp (by simpa using h1)
        repeat (refine Ss.nil ?_)
        refine (iEAEEEAAAAAAAAAAA (sz V h.nodes.length * 10 + W.length) (by simp) (pre ++ [c]) W V (by rw [eP]) hs hr hw ?_ oV' nW'.2 (fun x hx => rW x (by simp [hx])) hA (fix_same hB hR e) rfl (by simp; lia))
        show some _ = some _
        simp [natD]
  · have e : W = [] := by
      have := of_decide_eq_false hc
      cases W with
      | nil => rfl
      | cons x W => simp only [List.length_cons] at this; lia
    subst e
    repeat (refine Ss.nil ?_)
    show Back (MK ⟨cs, a, some k⟩ h T) Q (.d .none) (MK ⟨cs, a, some ⟨k.vals ++ [V], k.vals.length⟩⟩ h (T ++ [natsO (pre ++ []), .dictI (truesOf (up []))]))
    exact back_drop (H := MK ⟨cs, a, some k⟩ h T) hT _ okV_d (q V oV' hA fun c hc rc => hB c hc rc (by simp)) (by rfl)
end

end L7ex

noncomputable section L7fx
open PySem PySem.W PySem.Calls PyProof.Rows
set_option Elab.async false
set_option linter.unusedVariables false
set_option maxRecDepth 100000
seal PySem.compareOp PySem.binaryOp PySem.unaryOp E T Ts Es C Op1 Op2 S Ss As Ifs Lp Em Op3 Iter GM Unp
set_option maxHeartbeats 2000000

noncomputable def lv (l : List Int) : MV := .d (lotPy l)
noncomputable def TL (T : List MO) (L : List (Nat × List Int)) : List MO := T ++ [.dictI (kv lv L)]
noncomputable def hsOf (h : HS) : List Nat := (List.range h.nodes.length).map (rt h.uab)
noncomputable def L0 (hs : List Nat) : List (Nat × List Int) := hs.foldl (fun L c => aput L c full) []
theorem l0_facts (hs : List Nat) (n : Nat) (hn : ∀ c ∈ hs, c < n) : VOk n (L0 hs) ∧ (∀ c, lk (L0 hs) c = full) ∧ ∀ r, (aget (L0 hs) r).isSome = true ↔ r ∈ hs := by
  have gen : ∀ (hs : List Nat) (L : List (Nat × List Int)), (∀ c ∈ hs, c < n) → VOk n L → (∀ c, lk L c = full) →
      VOk n (hs.foldl (fun L c => aput L c full) L) ∧ (∀ c, lk (hs.foldl (fun L c => aput L c full) L) c = full) ∧ ∀ r, (aget (hs.foldl (fun L c => aput L c full) L) r).isSome = true ↔ r ∈ hs ∨ (aget L r).isSome = true := by
    intro hs
    induction hs with
    | nil => intro L _ o f; exact (iAA o f (fun r => by simp))
    | cons c hs ih =>
      intro L hn o f
      rw [List.foldl_cons]
      refine xAA (ih (aput L c full) (fun x m => hn x (List.mem_cons_of_mem _ m)) (o.put (hn c List.mem_cons_self) full_lot) (fun x => by rw [lk_put, f x]; exact ite_self _)) fun a b e => ?_
      refine (iAA a b (fun r => ?_))
      rw [e, aget_aput]
      by_cases q : r = c
      · subst q; simp
      · rw [if_neg q]; simp [q]
  refine xAA (gen hs [] hn .nil (fun _ => rfl)) fun a b e => ?_
  exact (iAA a b (fun r => (e r).trans (by simp [aget_nil])))
theorem putAll_kv (hs : List Nat) : putAll [] (hs.map fun (c : Nat) => ((c : Int), lotPy full)) = kv lv (L0 hs) := by
  unfold putAll L0
  have gen : ∀ (hs : List Nat) (L : List (Nat × List Int)), (hs.map fun (c : Nat) => ((c : Int), lotPy full)).foldl (fun acc p => putK acc p.1 (.d p.2)) (kv lv L) = kv lv (hs.foldl (fun L c => aput L c full) L) := by
    intro hs
    induction hs with
    | nil => intro L; rfl
    | cons c hs ih =>
      intro L
      rw [List.map_cons, List.foldl_cons, List.foldl_cons, ← ih]
      congr 1
      exact putK_kv (f := lv) (v := full)
  exact gen hs []
theorem kv_keys {α : Type} {f : α → MV} {l : List (Nat × α)} : (kv f l).map (·.1) = up (l.map (·.1)) := by unfold kv up; rw [List.map_map, List.map_map]; rfl
theorem up_nodup {l : List Nat} (h : l.Nodup) : (up l).Nodup := by
  unfold up
  exact List.Pairwise.map _ (fun a b ne q => ne (by lia)) h
noncomputable def Post (h : HS) (L : List (Nat × List Int)) : Prop := ∀ i (x : Nd), h.nodes[i]? = some x → Sub (lk L (rt h.uab i)) (comesF x.1 (x.2.map fun κ => lk L (rt h.uab κ)))
section
variable {c : Cx} {h : HS} {T : List MO} {L : List (Nat × List Int)}
theorem tl_get : (MK c h (TL T L)).get (.tmp T.length) = some (.dictI (kv lv L)) := by
  show (T ++ [_])[T.length]? = _
  simp
theorem tl_put {o : MO} {L' : List (Nat × List Int)} (e : o = .dictI (kv lv L')) : (MK c h (TL T L)).put (.tmp T.length) o = MK c h (TL T L') := by
  subst e
  rw [mk_tmp]
  unfold TL
  rw [List.set_append_right _ _ (Nat.le_refl _)]; simp
theorem tl_td (hT : TD T) : TD (TL T L) := by
  intro o m n
  rcases List.mem_append.mp m with q | q
  · exact hT o q n
  · rw [List.mem_singleton.mp q]
    intro v mv
    (refine xEA (List.mem_map.mp mv) fun p _ ee1 => ?_; subst ee1)
    exact okV_d
end
theorem subR2 {ρ : List (Str × MV)} {l : List (Str × NameKind)} {x y : Str} {v u : MV} (e : fvs l = [x, y]) (h : Has ρ x v) (h' : Has ρ y u) : subR (fvs l) ρ = [(x, v), (y, u)] := by
  rw [e]
  simp only [subR]
  rw [show ρ.lookup x = some v from h, show ρ.lookup y = some u from h']
section
variable {prog : Program} {w : World} {h₀ : Heap} {mg mb : Str → Option Value} {d : Nat} {Q : MV → MH → Prop} {c : Cx} {h : HS} {T : List MO} {m : Nat}
set_option maxHeartbeats 2000000 in
theorem f_most (G : Gnd h₀ (KF w.params) mg mb) (I : HInv m h) (hT : TD T)
    (q : ∀ L, VOk h.nodes.length L → (∀ r, (aget L r).isSome = true ↔ r ∈ hsOf h) → (∀ Y, Good h Y → ∀ c, Sub (Y c) (lk L c)) → Post h L → Q (.loc (.tmp T.length)) (MK c h (TL T L))) :
    C prog w h₀ (d + 7) (.ref 536) [.loc (.r .hp)] (MK c h T) Q := by
  have n9 := I.n9
  have hsn : ∀ r ∈ hsOf h, r < h.nodes.length := fun r hr => by
    (refine xEA (List.mem_map.mp hr) fun i hi ee2 => ?_; subst ee2)
    have := rt_le I.dn i
    have := List.mem_range.mp hi
    lia
  have hslen : (hsOf h).length = h.nodes.length := by unfold hsOf; simp
  refine xAA (l0_facts (hsOf h) h.nodes.length hsn) fun o0 f0 g0 => ?_
  refine C.fn G (f := 536) (names := ["heap"]) rfl rfl rfl (bnd1 fun _ => rfl) rfl ?_
  dsimp only [List.zip_cons_cons, List.zip_nil_left]
  repeat (walk_at "m")
  refine f_hsize G I ?_
  repeat (walk_at "m")
  refine C.range (iEA _ (Iter.range (Int.natCast_nonneg _) (by lia)) ?_)
  rw [Int.toNat_natCast]
  refine LpP.use (LpP.eachR (n := h.nodes.length) (fun i => .int (rt h.uab i)) rfl fun i hi => ?_) (by simp; lia) ?_
  · repeat (walk_at "m")
    refine f_hfind G I hi ⟨rfl, rfl⟩
  rw [show (List.range h.nodes.length).map (fun i => PyData.int (rt h.uab i)) = natPy (hsOf h) by unfold natPy hsOf; rw [List.map_map]; rfl]
  repeat (walk_at "m")
  refine (iEA _ (Iter.list (by unfold natPy; simp; lia)) (LpP.use (LpP.eachN (ns := hsOf h) (fun i => .tuple [.int i, lotPy full]) rfl fun i hi => ?_) (by simp; lia) ?_))
  · repeat (first | walk_at "m" | walk_at "l")
  repeat (walk_at "m")
  rw [show (hsOf h).map (fun (i : Nat) => PyData.tuple [.int (i : Int), lotPy full]) = pairsPy ((hsOf h).map fun (c : Nat) => ((c : Int), lotPy full)) by unfold pairsPy; rw [List.map_map]; rfl]
  refine C.dictL G (.tmp T.length) rfl (by simp; lia) (by rw [putAll_kv, kv_keys]; exact up_nodup o0.nd) ?_
  rw [putAll_kv, mk_add]
  repeat (walk_at "m")
  refine S.while (fun n ρ H => ∃ L b, H = MK c h (TL T L) ∧ Has ρ "heap" (.loc (.r .hp)) ∧ Has ρ "homes" (.d (.list (natPy (hsOf h)))) ∧ Has ρ "lots" (.loc (.tmp T.length)) ∧ Has ρ "is_turned" (.d (.bool b)) ∧
      VOk h.nodes.length L ∧ (∀ r, (aget L r).isSome = true ↔ r ∈ hsOf h) ∧ (∀ Y, Good h Y → ∀ c, Sub (Y c) (lk L c)) ∧ (b = false → Post h L) ∧ n = 2 * sz L h.nodes.length + (if b = true then 1 else 0)) (fun n ρ H hI => ?_) (2 * sz (L0 (hsOf h)) h.nodes.length + 1)
    (iEEAAAAAAAAA _ true rfl rfl rfl rfl rfl o0 g0 (fun Y g c s hs => by rw [f0]; exact lot_mem (g.lot c) hs) ((fun q => nomatch q)) rfl)
  (refine xEEAAAAAAAAA hI fun Ls b ee3 hh hm hl ht oL gL uL pL ee4 => ?_; clear hI; subst ee3; subst ee4)
  repeat (walk_at "m")
  refine (iEAA _ rfl (fun hb => ?_) (fun hb => ?_))
  · subst hb
    refine Ss.cons (S.asg (E.bool (As.name ?_)))
    try dsimp only
    refine Ss.cons (S.for ?_)
    repeat (walk_at "m")
    refine f_hsize G I ?_
    repeat (walk_at "m")
    refine C.range (iEEAAA _ ((fun j ρ H => ∃ L b, H = MK c h (TL T L) ∧ Has ρ "heap" (.loc (.r .hp)) ∧ Has ρ "homes" (.d (.list (natPy (hsOf h)))) ∧ Has ρ "lots" (.loc (.tmp T.length)) ∧ Has ρ "is_turned" (.d (.bool b)) ∧
        VOk h.nodes.length L ∧ (∀ r, (aget L r).isSome = true ↔ r ∈ hsOf h) ∧ (∀ Y, Good h Y → ∀ c, Sub (Y c) (lk L c)) ∧ sz L h.nodes.length ≤ sz Ls h.nodes.length ∧
        (b = false → (∀ c, lk L c = lk Ls c) ∧ ∀ i (x : Nd), i < j → h.nodes[i]? = some x → Sub (lk L (rt h.uab i)) (comesF x.1 (x.2.map fun κ => lk L (rt h.uab κ)))) ∧ (b = true → sz L h.nodes.length < sz Ls h.nodes.length))) (
      Iter.range (Int.natCast_nonneg _) (by lia)) ((iEEAAAAAAAAAA Ls false rfl hh hm hl rfl oL gL uL (Nat.le_refl _) (fun _ => ⟨fun _ => rfl, fun i x hi => absurd hi (Nat.not_lt_zero _)⟩) (fun q => nomatch q))) (fun j mv ρ' H'' e hJ => ?_) (fun ρ' H'' hJ => ?_))
    · (refine xEEAAAAAAAAAA hJ fun L b ee5 hh hm hl ht oL' gL' uL' le cF cT => ?_; clear hJ; subst ee5)
      rw [Int.toNat_natCast, List.getElem?_map] at e
      have hj : j < h.nodes.length := by
        have := (List.getElem?_eq_some_iff.mp (show (List.range h.nodes.length)[j]? = _ from (Option.map_eq_some_iff.mp e).choose_spec.1)).1
        simpa using this
      rw [List.getElem?_range hj] at e
      obtain rfl : natD j = mv := by simpa [natD] using e
      have ex : h.nodes[j]? = some h.nodes[j] := List.getElem?_eq_getElem hj
      generalize h.nodes[j] = x at ex
      have hk := I.kid j x ex
      have h2 : x.2.length ≤ 2 := by rw [hk.1]; cases x.1 <;> decide
      have home : ∀ i, i < h.nodes.length → (natPy (hsOf h))[(i : Int).toNat]? = some (.int (rt h.uab i)) := fun i hi => by
        unfold natPy hsOf
        rw [Int.toNat_natCast, List.getElem?_map, List.getElem?_map, List.getElem?_range hi]; rfl
      have look : ∀ i, i < h.nodes.length → getK (kv lv L) (rt h.uab i : Int) = some (lv (lk L (rt h.uab i))) := fun i hi => by
        rw [getK_kv]
        have := (gL' (rt h.uab i)).mpr (List.mem_map.mpr (iEA i (List.mem_range.mpr hi) rfl))
        unfold lk
        cases e : aget L (rt h.uab i) with
        | none => rw [e] at this; cases this
        | some l => rfl
      repeat (walk_at "m")
      refine f_bop G ex (by lia) ?_
      repeat (walk_at "m")
      refine f_bkids G ex (by lia) (by lia) ?_
      first
        | rw [subR2 (x := "lots") (y := "homes") (by rfl) (by exact hl) (by exact hm)]
        | rw [subR2 (x := "homes") (y := "lots") (by rfl) (by exact hm) (by exact hl)]
      refine (iEA _ Iter.tuple (LpP.use (LpP.eachN (ns := x.2) (fun κ => lotPy (lk L (rt h.uab κ))) rfl fun κ hκ => ?_) (by simp; lia) ?_))
      · have hκ' := hk.2 κ hκ
        repeat (walk_at "m")
        refine Op2.itemL (by simp) (by lia) (home κ (by lia)) ?_
        exact Op2.itemD' (k := (rt h.uab κ : Int)) dlI tl_get (look κ (by lia)) ⟨rfl, rfl⟩
      rw [show x.2.map (fun κ => lotPy (lk L (rt h.uab κ))) = (x.2.map fun κ => lk L (rt h.uab κ)).map lotPy by rw [List.map_map]; rfl]
      obtain ⟨R, hR⟩ : ∃ R, R = comesF x.1 (x.2.map fun κ => lk L (rt h.uab κ)) := ⟨_, rfl⟩
      have oR : IsLot R := hR ▸ comesF_lot _ _
      have ol := oL'.lk (rt h.uab j)
      repeat (walk_at "m")
      refine f_comes G (fun l hl => by
        (refine xEA (List.mem_map.mp hl) fun κ _ ee6 => ?_; subst ee6)
        exact oL'.lk _) (by rw [List.length_map]; exact hk.1) (mk_ok' (tl_td hT)) ?_
      rw [← hR]
      repeat (walk_at "m")
      obtain ⟨rj, hrj⟩ : ∃ rj, rj = rt h.uab j := ⟨_, rfl⟩
      have hrn : rj < h.nodes.length := by have := rt_le I.dn j; lia
      have hj2 := home j hj
      have lj := look j hj
      rw [← hrj] at hj2 lj ol
      have l3 := lot_len ol
      obtain ⟨less, hless⟩ : ∃ less, less = interL (lk L rj) R := ⟨_, rfl⟩
      have oless : IsLot less := hless ▸ signsIn_lot _
      have mless : ∀ s, s ∈ less ↔ s ∈ lk L rj ∧ s ∈ R := fun s => by rw [hless]; exact mem_inter ol
      have szl : sz (aput L rj less) h.nodes.length ≤ sz L h.nodes.length ∧ (less ≠ lk L rj → sz (aput L rj less) h.nodes.length < sz L h.nodes.length) := by
        have sub : Sub less (lk L rj) := fun s hs => ((mless s).mp hs).1
        by_cases e : less = lk L rj
        · refine ⟨Nat.le_of_eq (tot_congr fun i _ => ?_), fun ne => absurd e ne⟩
          rw [lk_put]
          split
          · rename_i q; rw [q, e]
          · rfl
        · have := sz_put hrn (lot_lt oless ol sub e)
          exact ⟨Nat.le_of_lt this, fun _ => this⟩
      have key : ∀ b', (b' = false → b = false ∧ less = lk L rj) → (b' = true → b = true ∨ less ≠ lk L rj) →
          VOk h.nodes.length (aput L rj less) ∧ (∀ r, (aget (aput L rj less) r).isSome = true ↔ r ∈ hsOf h) ∧ (∀ Y, Good h Y → ∀ c, Sub (Y c) (lk (aput L rj less) c)) ∧ sz (aput L rj less) h.nodes.length ≤ sz Ls h.nodes.length ∧
          (b' = false → (∀ c, lk (aput L rj less) c = lk Ls c) ∧ ∀ i (x : Nd), i < j + 1 → h.nodes[i]? = some x → Sub (lk (aput L rj less) (rt h.uab i)) (comesF x.1 (x.2.map fun κ => lk (aput L rj less) (rt h.uab κ)))) ∧
          (b' = true → sz (aput L rj less) h.nodes.length < sz Ls h.nodes.length) := by
        intro b' k1 k2
        refine (iAAAAA (oL'.put hrn oless) (fun r => ?_) (fun Y g c s hs => ?_) (Nat.le_trans szl.1 le) (fun hb => ?_) (fun hb => ?_))
        · rw [aget_aput]
          split
          · rename_i q
            simp only [Option.isSome_some, true_iff]
            rw [q, hrj]
            exact List.mem_map.mpr (iEA j (List.mem_range.mpr hj) rfl)
          · exact gL' r
        · rw [lk_put]
          split
          · rename_i q
            rw [q] at hs
            refine (mless s).mpr ⟨uL' Y g _ s hs, ?_⟩
            rw [hR]
            exact (g.rk I (fun i => oL'.lk i) (uL' Y g) (c := rj) hs).2 j x ex hrj.symm
          · exact uL' Y g c s hs
        · refine xA (k1 hb) fun hb0 e9 => ?_
          refine xA (cF hb0) fun c1 c2 => ?_
          have same : ∀ c, lk (aput L rj less) c = lk L c := fun c => by
            rw [lk_put]
            split
            · rename_i q; rw [q, e9]
            · rfl
          have same' : (fun κ => lk (aput L rj less) (rt h.uab κ)) = fun κ => lk L (rt h.uab κ) := by funext κ; exact same _
          refine ⟨fun c => (same c).trans (c1 c), fun i x' hi ex' => ?_⟩
          rw [same, same']
          by_cases q : i = j
          · rw [q, ex] at ex'
            cases ex'
            intro s hs
            rw [q, ← hrj, ← e9] at hs
            have := ((mless s).mp hs).2
            rwa [hR] at this
          · exact c2 i x' (by lia) ex'
        · rcases k2 hb with q | q
          · have := cT q
            lia
          · have := szl.2 q
            lia
      refine Op2.itemL (by simp) (by lia) hj2 ?_
      refine Op2.itemD' (k := (rj : Int)) dlI tl_get lj ?_
      refine (iEA _ (Iter.list (by rw [List.length_map]; lia)) (LpP.use (LpP.congr (LpP.selI (ns := lk L rj) (fun s => R.any fun n => n == s) .int rfl (fun s hs => ?_) fun s hs hp => ?_) (show _ = less.map .int by rw [hless, inter_eq ol oR])) (by rw [List.length_map]; have := lot_len oless; lia) ?_))
      · repeat (walk_at "m")
        exact Op2.inL rfl (shd (k := 1) (shk_list shk_ints)) (iEAA _ rfl any_eqv rfl)
      · repeat (walk_at "m")
      refine Ss.cons (S.asg (E.or2 ?_))
      repeat (walk_at "m")
      refine (iEAA b rfl (fun hb => ?_) (fun hb => ?_))
      · repeat (walk_at "m")
        refine Op2.itemL (by simp) (by lia) hj2 ?_
        refine Op2.itemD' (k := (rj : Int)) dlI tl_get lj ?_
        refine Op2.ne (shd (k := 1) (shk_list shk_ints)) (shd (k := 1) (shk_list shk_ints)) ?_
        have pl : ∀ l : List Int, plainD (.list (l.map .int)) = true := fun l => by rw [plainD]; exact plainA_ints
        have ne_iff : (!PyData.eqv (.list (less.map .int)) (lotPy (lk L rj))) = decide (less ≠ lk L rj) := by
          rw [Bool.eq_iff_iff, decide_eq_true_eq, Bool.not_eq_true', ← Bool.not_eq_true, eqv_iff (pl _) (show plainD (lotPy _) = true from pl _)]
          refine not_congr ⟨fun e => ?_, fun e => by rw [e]; rfl⟩
          injection e with e
          have := congrArg (List.map fun | PyData.int i => i | _ => 0) e
          rw [List.map_map, List.map_map] at this
          have e2 : ((fun | PyData.int i => i | _ => 0) ∘ PyData.int) = id := rfl
          rwa [e2, List.map_id, List.map_id] at this
        rw [ne_iff]
        repeat (walk_at "m")
        refine Op2.itemL (by simp) (by lia) hj2 ?_
        refine Op3.setD (k := (rj : Int)) dlI tl_get (by rw [kv_len]; have := oL'.len; lia) ?_
        rw [tl_put (L' := aput L rj less) (by exact congrArg MO.dictI (putK_kv (f := lv) (v := less)))]
        refine Ss.nil (iEEAAAAA (aput L rj less) (decide (less ≠ lk L rj)) rfl hh hm hl rfl (key _ (fun q => ⟨hb, ?_⟩) fun q => .inr (of_decide_eq_true q)))
        exact Classical.not_not.mp (of_decide_eq_false q)
      · repeat (walk_at "m")
        refine Op2.itemL (by simp) (by lia) hj2 ?_
        refine Op3.setD (k := (rj : Int)) dlI tl_get (by rw [kv_len]; have := oL'.len; lia) ?_
        rw [tl_put (L' := aput L rj less) (by exact congrArg MO.dictI (putK_kv (f := lv) (v := less)))]
        refine Ss.nil (iEEAAAAA (aput L rj less) b rfl hh hm hl rfl (key _ (fun q => by rw [q] at hb; cases hb) fun q => .inl q))
    · (refine xEEAAAAAAAAAA hJ fun L b ee7 hh hm hl ht oL' gL' uL' le cF cT => ?_; clear hJ; subst ee7)
      repeat (refine Ss.nil ?_)
      refine (iEAEEAAAAAAAAA (2 * sz L h.nodes.length + (if b = true then 1 else 0)) ?_ L b rfl hh hm hl ht oL' gL' uL' (fun hb i x ex => ?_) rfl)
      · cases b with
        | false => simp; lia
        | true => have := cT rfl; simp; lia
      · exact (cF hb).2 i x (by simpa using (List.getElem?_eq_some_iff.mp ex).1) ex
  · subst hb
    repeat (walk_at "m")
    exact .inl (q Ls oL gL uL (pL rfl))
end

end L7fx

noncomputable section L8ax
open PySem PySem.W PySem.Calls PyProof.Rows
set_option Elab.async false
set_option linter.unusedVariables false
set_option maxRecDepth 100000
seal PySem.compareOp PySem.binaryOp PySem.unaryOp E T Ts Es C Op1 Op2 S Ss As Ifs Lp Em Op3 Iter GM Unp
set_option maxHeartbeats 2000000

theorem roots_sorted {u : List Nat} : (up (rootsOf u)).Pairwise (· ≤ ·) := by
  unfold up rootsOf
  refine List.Pairwise.map _ (R := (· < ·)) (fun a b h => by lia) ?_
  exact (List.pairwise_lt_range).sublist List.filter_sublist
theorem plain_natPy {l : List Nat} : plainD (.list (natPy l)) = true := by
  rw [plainD, natPy_up]; exact plainA_ints
theorem same_lots {m : Nat} {h : HS} (I : HInv m h) {V L : List (Nat × List Int)} (oV : VOk h.nodes.length V) (oL : VOk h.nodes.length L) (hV : ∀ c, c < h.nodes.length → rt h.uab c = c → FixAt h V c) (hL : Post h L)
    (aV : ∀ Y, Good h Y → ∀ c, Sub (Y c) (lk V c)) (aL : ∀ Y, Good h Y → ∀ c, Sub (Y c) (lk L c)) (i : Nat) (hi : i < h.nodes.length) : lk V (rt h.uab i) = lk L (rt h.uab i) := by
  have gV : Good h fun i => lk V (rt h.uab i) := {
    lot := fun i => oV.lk _
    home := fun i => by rw [rt_rt I.dn]
    fix := fun i x e s hs => by
      have hlt := (List.getElem?_eq_some_iff.mp e).1
      have := rt_le I.dn i
      exact (hV (rt h.uab i) (by lia) (rt_rt I.dn i) s hs).2 i x e rfl }
  have gL : Good h fun i => lk L (rt h.uab i) := {
    lot := fun i => oL.lk _
    home := fun i => by rw [rt_rt I.dn]
    fix := fun i x e s hs => hL i x e s hs }
  have a := aL _ gV (rt h.uab i)
  have b := aV _ gL (rt h.uab i)
  simp only [rt_rt I.dn] at a b
  exact lot_ext (oV.lk _) (oL.lk _) fun s => ⟨a s, b s⟩
section
variable {prog : Program} {w : World} {h₀ : Heap} {mg mb : Str → Option Value} {d : Nat} {Q : MV → MH → Prop} {cs : List Int} {a : Nat} {k : KS} {h : HS} {T : List MO} {m : Nat}
set_option maxHeartbeats 2000000 in
theorem f_kept (G : Gnd h₀ (KF w.params) mg mb) (I : HInv m h) (hm : m ≤ 10) (hT : TD T) {V0 : List (Nat × List Int)} (eV0 : k.vals[k.cur]? = some V0) (oV0 : VOk h.nodes.length V0) (aV0 : ∀ Y, Good h Y → ∀ c, Sub (Y c) (lk V0 c))
    (q : ∀ h' V k', HInv m h' → Fin' h h' → k'.vals[k'.cur]? = some V → VOk h'.nodes.length V → (∀ Y, Good h' Y → ∀ c, Sub (Y c) (lk V c)) → Q (.d (.bool true)) (MK ⟨cs, a, some k'⟩ h' T)) :
    C prog w h₀ (d + 8) (.ref 541) [.loc (.r .hp), .loc (.r .keep)] (MK ⟨cs, a, some k⟩ h T) Q := by
  refine C.fn G (f := 541) (names := ["heap", "keeper"]) rfl rfl rfl (bnd2 fun _ _ => rfl) rfl ?_
  dsimp only [List.zip_cons_cons, List.zip_nil_left]
  repeat (walk_at "m")
  refine f_settle G I hm fun h1 I1 F1 => ?_
  have nl : h1.nodes.length = h.nodes.length := by rw [F1.nodes]
  have n9 := I1.n9
  repeat (walk_at "m")
  refine f_ksettle G I1 hT eV0 (by rw [nl]; exact oV0) fun V oV aV fV => ?_
  have aV := fun Y g => aV Y g (aV0 Y (g.shrink F1 I.dn))
  have eV : (⟨k.vals ++ [V], k.vals.length⟩ : KS).vals[(⟨k.vals ++ [V], k.vals.length⟩ : KS).cur]? = some V := by simp
  generalize (⟨k.vals ++ [V], k.vals.length⟩ : KS) = k1 at eV ⊢
  repeat (walk_at "m")
  refine f_most G I1 hT fun L oL gL aL pL => ?_
  have same := same_lots I1 oV oL fV pL aV aL
  have look : ∀ i, i < h1.nodes.length → getK (kv lv L) (rt h1.uab i : Int) = some (lv (lk L (rt h1.uab i))) := fun i hi => by
    rw [getK_kv]
    have := (gL (rt h1.uab i)).mpr (List.mem_map.mpr (iEA i (List.mem_range.mpr hi) rfl))
    unfold lk
    cases e : aget L (rt h1.uab i) with
    | none => rw [e] at this; cases this
    | some l => rfl
  have h2 := q h1 V k1 I1 F1 eV oV aV
  repeat (walk_at "m")
  refine f_hsize G I1 ?_
  repeat (walk_at "m")
  refine C.range (iEA _ (Iter.range (Int.natCast_nonneg _) (by lia)) ?_)
  rw [Int.toNat_natCast]
  refine LpP.use (LpP.eachR (n := h1.nodes.length) (fun i => told (lk V (rt h1.uab i))) rfl fun i hi => ?_) (by simp; lia) ?_
  · repeat (walk_at "m")
    exact f_value G I1 eV hi ⟨rfl, rfl⟩
  repeat (walk_at "m")
  refine f_hsize G I1 ?_
  repeat (walk_at "m")
  refine C.range (iEA _ (Iter.range (Int.natCast_nonneg _) (by lia)) ?_)
  rw [Int.toNat_natCast]
  refine LpP.use (LpP.eachR (n := h1.nodes.length) (fun i => told (lk L (rt h1.uab i))) rfl fun i hi => ?_) (by simp; lia) ?_
  · repeat (walk_at "m")
    refine f_hfind G I1 hi ?_
    refine Op2.itemD' (k := (rt h1.uab i : Int)) dlI tl_get (look i hi) ?_
    repeat (walk_at "m")
    exact f_told G (lot_len (oL.lk _)) ⟨rfl, rfl⟩
  rw [show (List.range h1.nodes.length).map (fun i => told (lk L (rt h1.uab i))) = (List.range h1.nodes.length).map fun i => told (lk V (rt h1.uab i)) from List.map_congr_left fun i hi => by rw [same i (List.mem_range.mp hi)]]
  have sh : ∀ x ∈ (List.range h1.nodes.length).map fun i => told (lk V (rt h1.uab i)), shk 1 x ∧ plainD x = true := fun x hx => by
    (refine xEA (List.mem_map.mp hx) fun i _ ee1 => ?_; subst ee1)
    exact ⟨shk_told (oV.lk _), plain_told (oV.lk _)⟩
  have pl : plainD (.list ((List.range h1.nodes.length).map fun i => told (lk V (rt h1.uab i)))) = true := by rw [plainD]; exact plainA_of fun x hx => (sh x hx).2
  refine Op2.ne (shd (k := 2) (shk_list fun x hx => (sh x hx).1)) (shd (k := 2) (shk_list fun x hx => (sh x hx).1)) (iEAA _ rfl (fun hc => absurd hc (by rw [(eqv_iff pl pl).mpr rfl]; decide)) (fun _ => ?_))
  repeat (walk_at "m")
  refine f_clashes G I1 eV oV ?_
  have keys : (L.map (·.1)).Perm (rootsOf h1.uab) := by
    rw [List.perm_ext_iff_of_nodup oL.nd roots_nodup]
    intro r
    rw [mem_roots I1, show r ∈ L.map (·.1) ↔ (aget L r).isSome = true from ?_, gL r]
    · unfold hsOf
      constructor
      · intro hr
        (refine xEA (List.mem_map.mp hr) fun i hi ee2 => ?_; subst ee2)
        have := rt_le I1.dn i
        have := List.mem_range.mp hi
        exact ⟨by lia, rt_rt I1.dn i⟩
      · (intro yy1; (refine xA yy1 fun hr er => ?_; clear yy1))
        exact List.mem_map.mpr (iEA r (List.mem_range.mpr hr) er)
    · rw [aget_isSome]
      simp
  have ln : L.length ≤ 9 := Nat.le_trans oL.len n9
  repeat (walk_at "m")
  refine C.sortedI (P := fun ns => ns.Perm (up (rootsOf h1.uab))) (Coll.dictI tl_get (by rw [kv_len]; lia) (iEAA (up (L.map (·.1))) (by rw [kv_keys]) (keys.map _) (by unfold up; simp; lia))) fun ns ns' p p' s => ?_
  obtain rfl := perm_sorted (p'.trans p) s roots_sorted
  rw [← natPy_up]
  have lr : (rootsOf h1.uab).length ≤ 9 := by have := keys.length_eq; simp at this; lia
  refine (iEA _ (Iter.list (by unfold natPy; simp; lia)) ?_)
  refine LpP.use (LpP.congr (LpP.selD (xs := natPy (rootsOf h1.uab)) (fun | .int i => decide (lk L i.toNat = []) | _ => false) (fun x => x) rfl (fun z hz => ?_) fun z hz hp => ?_) (?_ : _ = natPy ((rootsOf h1.uab).filter fun c => decide (lk V c = [])))) (by unfold natPy; rw [List.length_map]; exact filter_le (by lia)) ?_
  · unfold natPy at hz
    (refine xEA (List.mem_map.mp hz) fun c hc ee3 => ?_; subst ee3)
    refine xA ((mem_roots I1).mp hc) fun hcn rc => ?_
    have lc := look c hcn
    rw [rc] at lc
    repeat (walk_at "m")
    refine Op2.itemD' (k := (c : Int)) dlI tl_get lc ?_
    repeat (first | walk_at "m" | walk_at "l")
    refine Op2.eq (shd (k := 1) (shk_list shk_ints)) rfl (iEAA _ rfl ?_ rfl)
    show PyData.eqv (lotPy (lk L c)) (.list []) = decide (lk L c = [])
    cases lk L c <;> rfl
  · repeat (walk_at "m")
  · rw [List.map_id']
    unfold natPy
    rw [List.filter_map]
    congr 1
    apply List.filter_congr
    intro c hc
    refine xA ((mem_roots I1).mp hc) fun hcn rc => ?_
    have := same c hcn
    rw [rc] at this
    show decide (lk L c = []) = decide (lk V c = [])
    rw [this]
  · have shn : ∀ x ∈ natPy ((rootsOf h1.uab).filter fun c => decide (lk V c = [])), shk 0 x := fun x hx => by
      rw [natPy_up] at hx
      exact shk_ints x hx
    refine Op2.eq (shd (k := 1) (shk_list shn)) (shd (k := 1) (shk_list shn)) ?_
    rw [show PyData.eqv (.list (natPy ((rootsOf h1.uab).filter fun c => decide (lk V c = [])))) (.list (natPy ((rootsOf h1.uab).filter fun c => decide (lk V c = [])))) = true from (eqv_iff plain_natPy plain_natPy).mpr rfl]
    show Back (MK ⟨cs, a, some k⟩ h T) Q (.d (.bool true)) (MK ⟨cs, a, some k1⟩ h1 (T ++ [.dictI (kv lv L)]))
    exact back_drop (H := MK ⟨cs, a, some k⟩ h T) hT _ okV_d h2 rfl
end

end L8ax

noncomputable section L8bx
open PySem PySem.W PySem.Calls PyProof.Rows
set_option Elab.async false
set_option linter.unusedVariables false
set_option maxRecDepth 100000
seal PySem.compareOp PySem.binaryOp PySem.unaryOp E T Ts Es C Op1 Op2 S Ss As Ifs Lp Em Op3 Iter GM Unp
set_option maxHeartbeats 2000000

noncomputable def H00 : MH := ⟨fun _ => none, []⟩
noncomputable def leafK : List Kd := [.zero, .three, .mtwo, .x, .y]
section
variable {prog : Program} {w : World} {h₀ : Heap} {mg mb : Str → Option Value} {d : Nat} {Q : MV → MH → Prop}
set_option maxHeartbeats 4000000 in
theorem f_law (G : Gnd h₀ (KF w.params) mg mb) {ns : List Int} (hns : ns.length ≤ 63) (q : ∀ H, Q (.d (.bool true)) H) :
    CC prog w h₀ (d + 9) (.ref 546) [.d (.list (ns.map .int))] H00 Q := by
  have td : TD [] := fun o m => by cases m
  refine CC.fn G (f := 546) (names := ["script"]) rfl rfl rfl (bnd1 fun _ => rfl) rfl ?_
  dsimp only [List.zip_cons_cons, List.zip_nil_left]
  refine Ss.cons (S.unp3 ?_)
  refine E.tup (Es.cons (E.dict2 G (.r .feed) rfl ?_))
  refine E.sliceLTo ?_
  repeat (walk_at "m")
  refine C.make0 (lo := .r .sgn) G rfl rfl rfl ?_
  have e1 : (H00.add (.r .feed) (.dictS [("cells", .d (.list ((ns.map .int).take 60))), ("at", .d (.int 0))])).add (.r .sgn) (.inst 65 []) = H1 (ns.take 60) := by
    refine mh_ext (fun y => ?_) rfl
    cases y <;> first | rfl | (show some (MO.dictS _) = some (feedO _ _); unfold feedO; rw [List.map_take]; rfl)
  rw [e1]
  generalize hcs : ns.take 60 = cs
  have hcl : cs.length ≤ 63 := by rw [← hcs, List.length_take]; lia
  repeat (walk_at "m")
  refine f_heap_init G ?_
  repeat (walk_at "m")
  refine ⟨by simp, .loc (.r .feed), .loc (.r .sgn), .loc (.r .hp), Unp.tup, ?_⟩
  try dsimp only
  refine Ss.cons (S.for ?_)
  repeat (walk_at "m")
  refine C.range ⟨_, (fun i ρ H => H = MK ⟨cs, 3 * i, none⟩ h00 [] ∧ Has ρ "feed" (.loc (.r .feed)) ∧ Has ρ "signs" (.loc (.r .sgn)) ∧ Has ρ "heap" (.loc (.r .hp))), Iter.range (by decide) (by decide), ⟨rfl, rfl, rfl, rfl⟩, fun i mv ρ' H'' e hI => ?_, fun ρ' H'' hI => ?_⟩
  · obtain ⟨rfl, hf, hs, hh⟩ := hI
    have hi : i < 6 := by have := (List.getElem?_eq_some_iff.mp e).1; simpa using this
    repeat (walk_at "m")
    refine f_table G td (by show 3 * i ≤ 190; lia) (by show cs.length ≤ 1000; lia) ?_
    repeat (walk_at "m")
    exact ⟨hf, hs, hh⟩
  obtain ⟨rfl, hf, hs, hh⟩ := hI
  rw [show 3 * ((List.range (6 : Int).toNat).map fun (i : Nat) => MV.d (.int (i : Int))).length = 18 by simp]
  refine Ss.cons (S.for ?_)
  repeat (walk_at "m")
  refine ⟨_, (fun i ρ H => ∃ h, H = MK ⟨cs, 18, none⟩ h [] ∧ HInv 0 h ∧ h.nodes.length ≤ i ∧ (i = 0 ∨ 0 < h.nodes.length) ∧ Has ρ "feed" (.loc (.r .feed)) ∧ Has ρ "signs" (.loc (.r .sgn)) ∧ Has ρ "heap" (.loc (.r .hp))),
    Iter.tuple (xs := leafK.map fun k => .str k.op), ⟨h00, rfl, h00_inv, Nat.le_refl _, .inl rfl, hf, hs, hh⟩, fun i mv ρ'' H'' e hI => ?_, fun ρ'' H'' hI => ?_⟩
  · obtain ⟨h, rfl, I, ln, _, hf, hs, hh⟩ := hI
    have hi : i < 5 := by have := (List.getElem?_eq_some_iff.mp e).1; simpa [leafK] using this
    rw [List.getElem?_map, List.getElem?_map, Option.map_map, Option.map_eq_some_iff] at e
    obtain ⟨k, ek, rfl⟩ := e
    have hk : k.ar = 0 := by
      have := List.mem_of_getElem? ek
      unfold leafK at this
      simp only [List.mem_cons, List.not_mem_nil, or_false] at this
      rcases this with rfl | rfl | rfl | rfl | rfl <;> rfl
    have hcl := comesF_lot k []
    repeat (first | walk_at "m" | walk_at "l")
    refine f_of_node (ls := []) G rfl (by simp) hk.symm ?_
    repeat (first | walk_at "m" | walk_at "l")
    refine f_comes (ls := []) G (by simp) hk.symm (mk_ok' td) ?_
    repeat (walk_at "m")
    refine f_told G (lot_len hcl) ?_
    refine Op2.ne (shd (shk_told hcl)) (shd (shk_told hcl)) ⟨_, rfl, fun hc => absurd hc (by rw [eqv_told hcl hcl rfl]; decide), fun _ => ?_⟩
    repeat (walk_at "m")
    refine f_add (ks := []) G I (by decide) (by lia) hk.symm (by simp) fun v h' I' l1 l2 l3 => ?_
    refine ⟨rfl, Ss.nil ⟨h', rfl, I', by lia, .inr l3, hf, hs, hh⟩⟩
  obtain ⟨h, rfl, I, ln, lp, hf, hs, hh⟩ := hI
  have ln : h.nodes.length ≤ 5 := ln
  have lp : 0 < h.nodes.length := lp.resolve_left (by simp [leafK])
  repeat (walk_at "m")
  refine f_keeper G ?_
  repeat (walk_at "m")
  refine S.for ?_
  repeat (walk_at "m")
  refine f_drawM (wide := 4) G (by show 18 ≤ 200; decide) (by show cs.length ≤ 1000; lia) (by decide) fun n1 hn1 => ?_
  repeat (walk_at "m")
  refine C.range ⟨_, (fun i ρ H => ∃ h a, H = MK ⟨cs, a, some ⟨[[]], 0⟩⟩ h [] ∧ a ≤ 19 + 3 * i ∧ HInv 0 h ∧ h.nodes.length ≤ 5 + i ∧ 0 < h.nodes.length ∧ Has ρ "feed" (.loc (.r .feed)) ∧ Has ρ "heap" (.loc (.r .hp)) ∧ Has ρ "keeper" (.loc (.r .keep))),
    Iter.range (by lia) (by lia), ⟨h, 19, rfl, Nat.le_refl _, I, ln, lp, hf, hh, rfl⟩, fun i mv ρ3 H3 e hI => ?_, fun ρ3 H3 hI => ?_⟩
  · obtain ⟨h, a, rfl, ha, I, ln, lp, hf, hh, hk⟩ := hI
    have hi : i < 4 := by have := (List.getElem?_eq_some_iff.mp e).1; simp at this; lia
    repeat (first | walk_at "m" | walk_at "l")
    refine f_drawM (wide := 4) G (by show a ≤ 200; lia) (by show cs.length ≤ 1000; lia) (by decide) fun way hway => ?_
    refine Op2.itemL (by simp) (by lia) (ways_at hway) ?_
    refine ⟨.d (.str (wayK way).op), .d (.int (wayK way).ar), Unp.tuple, ?_⟩
    try dsimp only
    have har := way_ar (way := way)
    repeat (walk_at "m")
    refine C.range ⟨_, Iter.range (Int.natCast_nonneg _) (by lia), ?_⟩
    rw [subR2 (x := "feed") (y := "heap") (by rfl) (by exact hf) (by exact hh), Int.toNat_natCast]
    refine Lp.loop (target := .Name "place" ⟨0, 0, 0, 0⟩) (fun j H ds => ∃ ks : List Nat, H = MK ⟨cs, a + 1 + j, some ⟨[[]], 0⟩⟩ h [] ∧ ds = natPy ks ∧ ks.length = j ∧ ∀ x ∈ ks, x < h.nodes.length) rfl (fun j mv H ds e hJ => ?_) ⟨[], rfl, rfl, rfl, by simp⟩ fun H ds hJ => ?_
    · obtain ⟨ks, rfl, rfl, hj, hks⟩ := hJ
      have hj2 : j < 2 := by have := (List.getElem?_eq_some_iff.mp e).1; simp at this; lia
      refine Ifs.nil ⟨fun hc => (nomatch hc), fun _ => Em.last ?_⟩
      repeat (walk_at "m")
      refine f_hsize G I ?_
      repeat (walk_at "m")
      refine f_drawM (wide := h.nodes.length) G (by show a + 1 + j ≤ 200; lia) (by show cs.length ≤ 1000; lia) lp fun x hx => ?_
      refine ⟨.int x, rfl, by unfold natPy; simp; lia, ks ++ [x], rfl, by unfold natPy; simp, by simp [hj], fun y hy => ?_⟩
      rcases List.mem_append.mp hy with z | z
      · exact hks y z
      · simp at z; rw [z]; exact hx
    · obtain ⟨ks, rfl, rfl, hj, hks⟩ := hJ
      rw [List.length_map, List.length_range] at hj
      rw [List.length_map, List.length_range]
      repeat (walk_at "m")
      refine C.tupL (by unfold natPy; simp; lia) ?_
      repeat (walk_at "m")
      refine f_add G I (by decide) (by lia) hj hks fun v h' I' l1 l2 l3 => ?_
      refine ⟨rfl, Ss.nil ⟨h', a + 1 + (wayK way).ar, rfl, by lia, I', by lia, l3, hf, hh, hk⟩⟩
  obtain ⟨h, a, rfl, ha, I, ln, lp, hf, hh, hk⟩ := hI
  rw [List.length_map, List.length_range] at ha ln
  have ha : a ≤ 31 := by lia
  try dsimp only
  refine Ss.cons (S.for ?_)
  repeat (walk_at "m")
  refine f_drawM (wide := 3) G (by show a ≤ 200; lia) (by show cs.length ≤ 1000; lia) (by decide) fun n2 hn2 => ?_
  repeat (walk_at "m")
  refine C.range ⟨_, (fun i ρ H => ∃ h b, H = MK ⟨cs, b, some ⟨[[]], 0⟩⟩ h [] ∧ b ≤ 32 + 2 * i ∧ HInv i h ∧ 0 < h.nodes.length ∧ Has ρ "feed" (.loc (.r .feed)) ∧ Has ρ "heap" (.loc (.r .hp)) ∧ Has ρ "keeper" (.loc (.r .keep))),
    Iter.range (by lia) (by lia), ⟨h, a + 1, rfl, by lia, I, lp, hf, hh, hk⟩, fun i mv ρ4 H4 e hI => ?_, fun ρ4 H4 hI => ?_⟩
  · obtain ⟨h, b, rfl, hb, I, lp, hf, hh, hk⟩ := hI
    have hi : i < 2 := by have := (List.getElem?_eq_some_iff.mp e).1; simp at this; lia
    repeat (walk_at "m")
    refine f_hsize G I ?_
    repeat (walk_at "m")
    refine f_drawM (wide := h.nodes.length) G (by show b ≤ 200; lia) (by show cs.length ≤ 1000; lia) lp fun x hx => ?_
    repeat (walk_at "m")
    refine f_hsize G I ?_
    repeat (walk_at "m")
    refine f_drawM (wide := h.nodes.length) G (by show b + 1 ≤ 200; lia) (by show cs.length ≤ 1000; lia) lp fun y hy => ?_
    repeat (walk_at "m")
    refine f_merge G I (by lia) hx hy _ fun z h' I' F' => ?_
    refine ⟨rfl, Ss.nil ⟨h', b + 1 + 1, rfl, by lia, I', by rw [F'.nodes]; exact lp, hf, hh, hk⟩⟩
  obtain ⟨h, b, rfl, hb, I, lp, hf, hh, hk⟩ := hI
  rw [List.length_map, List.length_range] at hb I
  try dsimp only
  repeat (walk_at "m")
  refine f_kept (k := ⟨[[]], 0⟩) G I (by lia) td (V0 := []) rfl .nil (fun Y g c s hs => lot_mem (g.lot c) hs) fun h1 V1 k1 I1 F1 e1 o1 a1 => ?_
  have lp1 : 0 < h1.nodes.length := by rw [F1.nodes]; exact lp
  repeat (walk_at "m")
  refine f_hsize G I1 ?_
  repeat (walk_at "m")
  refine f_drawM (wide := h1.nodes.length) G (by show b ≤ 200; lia) (by show cs.length ≤ 1000; lia) lp1 fun x hx => ?_
  repeat (walk_at "m")
  refine f_hsize G I1 ?_
  repeat (walk_at "m")
  refine f_drawM (wide := h1.nodes.length) G (by show b + 1 ≤ 200; lia) (by show cs.length ≤ 1000; lia) lp1 fun y hy => ?_
  repeat (walk_at "m")
  refine f_merge G I1 (by lia) hx hy _ fun z h2 I2 F2 => ?_
  repeat (walk_at "m")
  refine f_kept (k := k1) G I2 (by lia) td e1 (by rw [F2.nodes]; exact o1) (fun Y g => a1 Y (g.shrink F2 I1.dn)) fun h3 V3 k3 I3 F3 e3 o3 a3 => ?_
  repeat (walk_at "m")
  exact .inl (q _)
end

end L8bx

noncomputable section L9x
open PySem PySem.W PySem.Calls PyProof.Rows
set_option Elab.async false
set_option linter.unusedVariables false
set_option maxRecDepth 100000
seal PySem.compareOp PySem.binaryOp PySem.unaryOp E T Ts Es C Op1 Op2 S Ss As Ifs Lp Em Op3 Iter GM Unp
--NOMACROS
theorem well_ints {P : Params} {h : Heap} {F : Addr → Prop} : ∀ {ns : List Int} {vs : List Value}, WellAll P h vs (ofPys (ns.map .int)) → FzA F h (ns.map .int) vs
  | [], vs, x => by
    rw [List.map_nil, FzA]
    rw [List.map_nil, ofPys] at x
    cases x; rfl
  | n :: ns, vs, x => by
    rw [List.map_cons, ofPys] at x
    cases x with
    | cons a b =>
      rw [ofPy] at a
      cases a with
      | int i t =>
        rw [List.map_cons, FzA]
        exact (iEEAA _ _ rfl (by rw [Fz]; exact ⟨t, rfl⟩) (well_ints b))
theorem well_fz {P : Params} {h : Heap} {F : Addr → Prop} {a : Addr} {ns : List Int} (x : Well P h (.ref a) (ofPy (.list (ns.map .int)))) (f : F a) : Fz F h (.list (ns.map .int)) (.ref a) := by
  rw [ofPy] at x
  cases x with
  | list g y =>
    rw [Fz]
    exact (iEEEAAA a _ _ rfl f g (well_ints (by simpa using y)))
noncomputable def W00 : Wd := ⟨fun _ => none, fun _ => .free⟩
theorem rel00 {w : World} {h : Heap} : Rel w h W00 H00 h where
  base := fun _ _ e => e
  old := fun _ _ _ => rfl
  new := fun b ne => absurd rfl ne
  obj := fun l o e => by
    cases l with
    | r x => cases e
    | tmp k => cases e
  role := fun _ _ => rfl
theorem bridge {prog : Program} {w : World} {s : Shared} {mg mb : Str → Option Value} {fa a : Addr} {ns : List Int} {R : Result → Shared → Prop} (G : Gnd s.heap (KF w.params) mg mb) (hf : mg "law" = some (.ref fa)) (hw : Well w.params s.heap (.ref a) (ofPy (.list (ns.map .int))))
    (hn : ¬ (63 : Int) < ns.length) (post : ∀ s', (∀ b o, s.heap.get? b = some o → s'.heap.get? b = some o) → s'.os = s.os → s'.gens = s.gens → R (.ok (.ret (.bool true))) s') :
    codeAny (model prog w) callerA (.call (.ref fa) ⟨[.ref a], []⟩) R s := by
  have e : mg "law" = some (.ref 546) := mg_of G.kin G.g rfl
  rw [hf] at e
  cases e
  have L := f_law (prog := prog) (d := 0) (Q := fun v _ => v = .d (.bool true)) G (ns := ns) (by lia) (fun _ => rfl)
  refine codeAny_mono (L callerA s W00 [.ref a] ⟨rfl, by decide, by decide⟩ rel00 (.cons (to_d (well_fz hw rfl)) .nil)) fun r s' g => ?_
  match r, g with
  | .ok (.ret v), g =>
    obtain ⟨H', W', ⟨m, rfl, hv⟩, R', _, sim⟩ := g
    obtain rfl := of_bool hv
    exact post s' R'.base sim.2 sim.1

end L9x

end Mine

open PySem PySem.W PyProof.Rows
set_option Elab.async false
set_option maxRecDepth 1000000
set_option maxHeartbeats 8000000 in
theorem PySem.Challenge.cw_pq0078_01_holds : PySem.Challenge.rw_pq0078_01.Holds := by
  w_on
  refine holds_law (by kernel_rfl) fun said => ?_
  refine holds_open (q := Mine.vw) (loose := []) (Xt := fun s => xlAt Mine.vw [] s && recOk PySem.Challenge.rw_pq0078_01.row.records s) (XP := PySem.W.XL Mine.vw []) (Yf := Hook.obs Mine.kH) (Ya := Hook.val Mine.kH) (YP := Hook.says Mine.kH) (N := 8000)
    Mine.lefty (Hook.of Mine.kH) (Hook.keeps Mine.kH) (fun s e => xl_of s (Bool.and_eq_true_iff.mp e).1) XL.keeps (by rfl) (by rfl) (by rfl) (fun s e => recFacts_of (Bool.and_eq_true_iff.mp e).2) (by rfl) (by first | assumption | decide +kernel) (by decide +kernel) ⟨rfl, rfl, rfl, rfl, rfl, by decide +kernel⟩ ?hw ?hc
  case hw => w_witness2
  case hc =>
    k_fill
    intro w s₀ s₁ mg mb G Y fa o pm cd doc dV kV ho hd hcd hD hmg hg args vals as hpre hlay hrd hwl hlo
    have KX := kIn_of Y
    refine Ground.open G ?_
    intro T B D TE TW
    clear hD hcd hd ho
    wrow_args hpre hlay hrd hwl hlo
    first | refine callC_kw (enter_call ?_) | refine enter_call ?_ | refine callC_kw (enter_callW ?_) | refine enter_callW ?_
    refine codeAny_mono ?_ (fun _ _ g => GoodW.toG g)
    rename_i hw _ _ _ hc _
    refine Mine.bridge (mg := mg) (mb := mb) ⟨KX, T.g, T.b, T.nolimit, T.builtins⟩ hmg hw hc fun s' k1 k2 k3 => ?_
    refine ⟨.inl ⟨_, _, [], rfl, fun _ => rfl, ReadsW.bool true, ?_, fun _ => ⟨List.nodup_nil, fun _ hm => nomatch hm⟩⟩, k1, k2, k3.trans hg⟩
    wrow_post
