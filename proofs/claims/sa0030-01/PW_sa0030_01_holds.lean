import PyProof.Rows.All
import Wide.All
import OpenK.AllK
import Wide.FinOn
import Lean
import PySem.Challenge.RW_sa0030_01
set_option Elab.async false
set_option linter.unusedVariables false
set_option maxRecDepth 100000
namespace Mine
section
set_option autoImplicit false
theorem cps {P : Prop} (h : ∀ G : Prop, (P -> G) -> G) : P := h P id
theorem e0_2 {A0 A1 : Prop} {G : Prop} (h : A0 /\ A1) (f : A0 -> A1 -> G) : G := f h.1 h.2
theorem e0_3 {A0 A1 A2 : Prop} {G : Prop} (h : A0 /\ A1 /\ A2) (f : A0 -> A1 -> A2 -> G) : G := e0_2 h.2 (f h.1)
theorem e0_4 {A0 A1 A2 A3 : Prop} {G : Prop} (h : A0 /\ A1 /\ A2 /\ A3) (f : A0 -> A1 -> A2 -> A3 -> G) : G := e0_3 h.2 (f h.1)
theorem e0_5 {A0 A1 A2 A3 A4 : Prop} {G : Prop} (h : A0 /\ A1 /\ A2 /\ A3 /\ A4) (f : A0 -> A1 -> A2 -> A3 -> A4 -> G) : G := e0_4 h.2 (f h.1)
theorem e0_6 {A0 A1 A2 A3 A4 A5 : Prop} {G : Prop} (h : A0 /\ A1 /\ A2 /\ A3 /\ A4 /\ A5) (f : A0 -> A1 -> A2 -> A3 -> A4 -> A5 -> G) : G := e0_5 h.2 (f h.1)
theorem e0_7 {A0 A1 A2 A3 A4 A5 A6 : Prop} {G : Prop} (h : A0 /\ A1 /\ A2 /\ A3 /\ A4 /\ A5 /\ A6) (f : A0 -> A1 -> A2 -> A3 -> A4 -> A5 -> A6 -> G) : G := e0_6 h.2 (f h.1)
theorem e0_8 {A0 A1 A2 A3 A4 A5 A6 A7 : Prop} {G : Prop} (h : A0 /\ A1 /\ A2 /\ A3 /\ A4 /\ A5 /\ A6 /\ A7) (f : A0 -> A1 -> A2 -> A3 -> A4 -> A5 -> A6 -> A7 -> G) : G := e0_7 h.2 (f h.1)
theorem e1_1 {α0 : Sort _} {A0 : α0 -> Prop} {G : Prop} (h : ∃ x0, A0 x0) (f : ∀ x0, A0 x0 -> G) : G := h.elim f
theorem e1_2 {α0 : Sort _} {A0 A1 : α0 -> Prop} {G : Prop} (h : ∃ x0, A0 x0 /\ A1 x0) (f : ∀ x0, A0 x0 -> A1 x0 -> G) : G := h.elim fun x h => e0_2 h (f x)
theorem e1_3 {α0 : Sort _} {A0 A1 A2 : α0 -> Prop} {G : Prop} (h : ∃ x0, A0 x0 /\ A1 x0 /\ A2 x0) (f : ∀ x0, A0 x0 -> A1 x0 -> A2 x0 -> G) : G := h.elim fun x h => e0_3 h (f x)
theorem e1_4 {α0 : Sort _} {A0 A1 A2 A3 : α0 -> Prop} {G : Prop} (h : ∃ x0, A0 x0 /\ A1 x0 /\ A2 x0 /\ A3 x0) (f : ∀ x0, A0 x0 -> A1 x0 -> A2 x0 -> A3 x0 -> G) : G := h.elim fun x h => e0_4 h (f x)
theorem e1_5 {α0 : Sort _} {A0 A1 A2 A3 A4 : α0 -> Prop} {G : Prop} (h : ∃ x0, A0 x0 /\ A1 x0 /\ A2 x0 /\ A3 x0 /\ A4 x0) (f : ∀ x0, A0 x0 -> A1 x0 -> A2 x0 -> A3 x0 -> A4 x0 -> G) : G := h.elim fun x h => e0_5 h (f x)
theorem e1_6 {α0 : Sort _} {A0 A1 A2 A3 A4 A5 : α0 -> Prop} {G : Prop} (h : ∃ x0, A0 x0 /\ A1 x0 /\ A2 x0 /\ A3 x0 /\ A4 x0 /\ A5 x0) (f : ∀ x0, A0 x0 -> A1 x0 -> A2 x0 -> A3 x0 -> A4 x0 -> A5 x0 -> G) : G := h.elim fun x h => e0_6 h (f x)
theorem e1_7 {α0 : Sort _} {A0 A1 A2 A3 A4 A5 A6 : α0 -> Prop} {G : Prop} (h : ∃ x0, A0 x0 /\ A1 x0 /\ A2 x0 /\ A3 x0 /\ A4 x0 /\ A5 x0 /\ A6 x0) (f : ∀ x0, A0 x0 -> A1 x0 -> A2 x0 -> A3 x0 -> A4 x0 -> A5 x0 -> A6 x0 -> G) : G := h.elim fun x h => e0_7 h (f x)
theorem e1_8 {α0 : Sort _} {A0 A1 A2 A3 A4 A5 A6 A7 : α0 -> Prop} {G : Prop} (h : ∃ x0, A0 x0 /\ A1 x0 /\ A2 x0 /\ A3 x0 /\ A4 x0 /\ A5 x0 /\ A6 x0 /\ A7 x0) (f : ∀ x0, A0 x0 -> A1 x0 -> A2 x0 -> A3 x0 -> A4 x0 -> A5 x0 -> A6 x0 -> A7 x0 -> G) : G := h.elim fun x h => e0_8 h (f x)
theorem e2_1 {α0 α1 : Sort _} {A0 : α0 -> α1 -> Prop} {G : Prop} (h : ∃ x0 x1, A0 x0 x1) (f : ∀ x0 x1, A0 x0 x1 -> G) : G := h.elim fun x h => e1_1 h (f x)
theorem e2_2 {α0 α1 : Sort _} {A0 A1 : α0 -> α1 -> Prop} {G : Prop} (h : ∃ x0 x1, A0 x0 x1 /\ A1 x0 x1) (f : ∀ x0 x1, A0 x0 x1 -> A1 x0 x1 -> G) : G := h.elim fun x h => e1_2 h (f x)
theorem e2_3 {α0 α1 : Sort _} {A0 A1 A2 : α0 -> α1 -> Prop} {G : Prop} (h : ∃ x0 x1, A0 x0 x1 /\ A1 x0 x1 /\ A2 x0 x1) (f : ∀ x0 x1, A0 x0 x1 -> A1 x0 x1 -> A2 x0 x1 -> G) : G := h.elim fun x h => e1_3 h (f x)
theorem e2_4 {α0 α1 : Sort _} {A0 A1 A2 A3 : α0 -> α1 -> Prop} {G : Prop} (h : ∃ x0 x1, A0 x0 x1 /\ A1 x0 x1 /\ A2 x0 x1 /\ A3 x0 x1) (f : ∀ x0 x1, A0 x0 x1 -> A1 x0 x1 -> A2 x0 x1 -> A3 x0 x1 -> G) : G := h.elim fun x h => e1_4 h (f x)
theorem e2_5 {α0 α1 : Sort _} {A0 A1 A2 A3 A4 : α0 -> α1 -> Prop} {G : Prop} (h : ∃ x0 x1, A0 x0 x1 /\ A1 x0 x1 /\ A2 x0 x1 /\ A3 x0 x1 /\ A4 x0 x1) (f : ∀ x0 x1, A0 x0 x1 -> A1 x0 x1 -> A2 x0 x1 -> A3 x0 x1 -> A4 x0 x1 -> G) : G := h.elim fun x h => e1_5 h (f x)
theorem e2_6 {α0 α1 : Sort _} {A0 A1 A2 A3 A4 A5 : α0 -> α1 -> Prop} {G : Prop} (h : ∃ x0 x1, A0 x0 x1 /\ A1 x0 x1 /\ A2 x0 x1 /\ A3 x0 x1 /\ A4 x0 x1 /\ A5 x0 x1) (f : ∀ x0 x1, A0 x0 x1 -> A1 x0 x1 -> A2 x0 x1 -> A3 x0 x1 -> A4 x0 x1 -> A5 x0 x1 -> G) : G := h.elim fun x h => e1_6 h (f x)
theorem e2_7 {α0 α1 : Sort _} {A0 A1 A2 A3 A4 A5 A6 : α0 -> α1 -> Prop} {G : Prop} (h : ∃ x0 x1, A0 x0 x1 /\ A1 x0 x1 /\ A2 x0 x1 /\ A3 x0 x1 /\ A4 x0 x1 /\ A5 x0 x1 /\ A6 x0 x1) (f : ∀ x0 x1, A0 x0 x1 -> A1 x0 x1 -> A2 x0 x1 -> A3 x0 x1 -> A4 x0 x1 -> A5 x0 x1 -> A6 x0 x1 -> G) : G := h.elim fun x h => e1_7 h (f x)
theorem e2_8 {α0 α1 : Sort _} {A0 A1 A2 A3 A4 A5 A6 A7 : α0 -> α1 -> Prop} {G : Prop} (h : ∃ x0 x1, A0 x0 x1 /\ A1 x0 x1 /\ A2 x0 x1 /\ A3 x0 x1 /\ A4 x0 x1 /\ A5 x0 x1 /\ A6 x0 x1 /\ A7 x0 x1) (f : ∀ x0 x1, A0 x0 x1 -> A1 x0 x1 -> A2 x0 x1 -> A3 x0 x1 -> A4 x0 x1 -> A5 x0 x1 -> A6 x0 x1 -> A7 x0 x1 -> G) : G := h.elim fun x h => e1_8 h (f x)
theorem e3_1 {α0 α1 α2 : Sort _} {A0 : α0 -> α1 -> α2 -> Prop} {G : Prop} (h : ∃ x0 x1 x2, A0 x0 x1 x2) (f : ∀ x0 x1 x2, A0 x0 x1 x2 -> G) : G := h.elim fun x h => e2_1 h (f x)
theorem e3_2 {α0 α1 α2 : Sort _} {A0 A1 : α0 -> α1 -> α2 -> Prop} {G : Prop} (h : ∃ x0 x1 x2, A0 x0 x1 x2 /\ A1 x0 x1 x2) (f : ∀ x0 x1 x2, A0 x0 x1 x2 -> A1 x0 x1 x2 -> G) : G := h.elim fun x h => e2_2 h (f x)
theorem e3_3 {α0 α1 α2 : Sort _} {A0 A1 A2 : α0 -> α1 -> α2 -> Prop} {G : Prop} (h : ∃ x0 x1 x2, A0 x0 x1 x2 /\ A1 x0 x1 x2 /\ A2 x0 x1 x2) (f : ∀ x0 x1 x2, A0 x0 x1 x2 -> A1 x0 x1 x2 -> A2 x0 x1 x2 -> G) : G := h.elim fun x h => e2_3 h (f x)
theorem e3_4 {α0 α1 α2 : Sort _} {A0 A1 A2 A3 : α0 -> α1 -> α2 -> Prop} {G : Prop} (h : ∃ x0 x1 x2, A0 x0 x1 x2 /\ A1 x0 x1 x2 /\ A2 x0 x1 x2 /\ A3 x0 x1 x2) (f : ∀ x0 x1 x2, A0 x0 x1 x2 -> A1 x0 x1 x2 -> A2 x0 x1 x2 -> A3 x0 x1 x2 -> G) : G := h.elim fun x h => e2_4 h (f x)
theorem e3_5 {α0 α1 α2 : Sort _} {A0 A1 A2 A3 A4 : α0 -> α1 -> α2 -> Prop} {G : Prop} (h : ∃ x0 x1 x2, A0 x0 x1 x2 /\ A1 x0 x1 x2 /\ A2 x0 x1 x2 /\ A3 x0 x1 x2 /\ A4 x0 x1 x2) (f : ∀ x0 x1 x2, A0 x0 x1 x2 -> A1 x0 x1 x2 -> A2 x0 x1 x2 -> A3 x0 x1 x2 -> A4 x0 x1 x2 -> G) : G := h.elim fun x h => e2_5 h (f x)
theorem e3_6 {α0 α1 α2 : Sort _} {A0 A1 A2 A3 A4 A5 : α0 -> α1 -> α2 -> Prop} {G : Prop} (h : ∃ x0 x1 x2, A0 x0 x1 x2 /\ A1 x0 x1 x2 /\ A2 x0 x1 x2 /\ A3 x0 x1 x2 /\ A4 x0 x1 x2 /\ A5 x0 x1 x2) (f : ∀ x0 x1 x2, A0 x0 x1 x2 -> A1 x0 x1 x2 -> A2 x0 x1 x2 -> A3 x0 x1 x2 -> A4 x0 x1 x2 -> A5 x0 x1 x2 -> G) : G := h.elim fun x h => e2_6 h (f x)
theorem e3_7 {α0 α1 α2 : Sort _} {A0 A1 A2 A3 A4 A5 A6 : α0 -> α1 -> α2 -> Prop} {G : Prop} (h : ∃ x0 x1 x2, A0 x0 x1 x2 /\ A1 x0 x1 x2 /\ A2 x0 x1 x2 /\ A3 x0 x1 x2 /\ A4 x0 x1 x2 /\ A5 x0 x1 x2 /\ A6 x0 x1 x2) (f : ∀ x0 x1 x2, A0 x0 x1 x2 -> A1 x0 x1 x2 -> A2 x0 x1 x2 -> A3 x0 x1 x2 -> A4 x0 x1 x2 -> A5 x0 x1 x2 -> A6 x0 x1 x2 -> G) : G := h.elim fun x h => e2_7 h (f x)
theorem e3_8 {α0 α1 α2 : Sort _} {A0 A1 A2 A3 A4 A5 A6 A7 : α0 -> α1 -> α2 -> Prop} {G : Prop} (h : ∃ x0 x1 x2, A0 x0 x1 x2 /\ A1 x0 x1 x2 /\ A2 x0 x1 x2 /\ A3 x0 x1 x2 /\ A4 x0 x1 x2 /\ A5 x0 x1 x2 /\ A6 x0 x1 x2 /\ A7 x0 x1 x2) (f : ∀ x0 x1 x2, A0 x0 x1 x2 -> A1 x0 x1 x2 -> A2 x0 x1 x2 -> A3 x0 x1 x2 -> A4 x0 x1 x2 -> A5 x0 x1 x2 -> A6 x0 x1 x2 -> A7 x0 x1 x2 -> G) : G := h.elim fun x h => e2_8 h (f x)
theorem e4_1 {α0 α1 α2 α3 : Sort _} {A0 : α0 -> α1 -> α2 -> α3 -> Prop} {G : Prop} (h : ∃ x0 x1 x2 x3, A0 x0 x1 x2 x3) (f : ∀ x0 x1 x2 x3, A0 x0 x1 x2 x3 -> G) : G := h.elim fun x h => e3_1 h (f x)
theorem e4_2 {α0 α1 α2 α3 : Sort _} {A0 A1 : α0 -> α1 -> α2 -> α3 -> Prop} {G : Prop} (h : ∃ x0 x1 x2 x3, A0 x0 x1 x2 x3 /\ A1 x0 x1 x2 x3) (f : ∀ x0 x1 x2 x3, A0 x0 x1 x2 x3 -> A1 x0 x1 x2 x3 -> G) : G := h.elim fun x h => e3_2 h (f x)
theorem e4_3 {α0 α1 α2 α3 : Sort _} {A0 A1 A2 : α0 -> α1 -> α2 -> α3 -> Prop} {G : Prop} (h : ∃ x0 x1 x2 x3, A0 x0 x1 x2 x3 /\ A1 x0 x1 x2 x3 /\ A2 x0 x1 x2 x3) (f : ∀ x0 x1 x2 x3, A0 x0 x1 x2 x3 -> A1 x0 x1 x2 x3 -> A2 x0 x1 x2 x3 -> G) : G := h.elim fun x h => e3_3 h (f x)
theorem e4_5 {α0 α1 α2 α3 : Sort _} {A0 A1 A2 A3 A4 : α0 -> α1 -> α2 -> α3 -> Prop} {G : Prop} (h : ∃ x0 x1 x2 x3, A0 x0 x1 x2 x3 /\ A1 x0 x1 x2 x3 /\ A2 x0 x1 x2 x3 /\ A3 x0 x1 x2 x3 /\ A4 x0 x1 x2 x3) (f : ∀ x0 x1 x2 x3, A0 x0 x1 x2 x3 -> A1 x0 x1 x2 x3 -> A2 x0 x1 x2 x3 -> A3 x0 x1 x2 x3 -> A4 x0 x1 x2 x3 -> G) : G := h.elim fun x h => e3_5 h (f x)
theorem e5_2 {α0 α1 α2 α3 α4 : Sort _} {A0 A1 : α0 -> α1 -> α2 -> α3 -> α4 -> Prop} {G : Prop} (h : ∃ x0 x1 x2 x3 x4, A0 x0 x1 x2 x3 x4 /\ A1 x0 x1 x2 x3 x4) (f : ∀ x0 x1 x2 x3 x4, A0 x0 x1 x2 x3 x4 -> A1 x0 x1 x2 x3 x4 -> G) : G := h.elim fun x h => e4_2 h (f x)
theorem e5_5 {α0 α1 α2 α3 α4 : Sort _} {A0 A1 A2 A3 A4 : α0 -> α1 -> α2 -> α3 -> α4 -> Prop} {G : Prop} (h : ∃ x0 x1 x2 x3 x4, A0 x0 x1 x2 x3 x4 /\ A1 x0 x1 x2 x3 x4 /\ A2 x0 x1 x2 x3 x4 /\ A3 x0 x1 x2 x3 x4 /\ A4 x0 x1 x2 x3 x4) (f : ∀ x0 x1 x2 x3 x4, A0 x0 x1 x2 x3 x4 -> A1 x0 x1 x2 x3 x4 -> A2 x0 x1 x2 x3 x4 -> A3 x0 x1 x2 x3 x4 -> A4 x0 x1 x2 x3 x4 -> G) : G := h.elim fun x h => e4_5 h (f x)
theorem m1_1_1 {α0 : Sort _} {B0 : Prop} {A0 : α0 -> Prop} {G : Prop} (h : B0 /\ ∃ x0, A0 x0) (f : B0 -> ∀ x0, A0 x0 -> G) : G := h.2.elim (f h.1)
theorem m1_1_2 {α0 : Sort _} {B0 : Prop} {A0 A1 : α0 -> Prop} {G : Prop} (h : B0 /\ ∃ x0, A0 x0 /\ A1 x0) (f : B0 -> ∀ x0, A0 x0 -> A1 x0 -> G) : G := e1_2 h.2 (f h.1)
theorem m1_1_3 {α0 : Sort _} {B0 : Prop} {A0 A1 A2 : α0 -> Prop} {G : Prop} (h : B0 /\ ∃ x0, A0 x0 /\ A1 x0 /\ A2 x0) (f : B0 -> ∀ x0, A0 x0 -> A1 x0 -> A2 x0 -> G) : G := e1_3 h.2 (f h.1)
theorem m1_2_2 {α0 α1 : Sort _} {B0 : Prop} {A0 A1 : α0 -> α1 -> Prop} {G : Prop} (h : B0 /\ ∃ x0 x1, A0 x0 x1 /\ A1 x0 x1) (f : B0 -> ∀ x0 x1, A0 x0 x1 -> A1 x0 x1 -> G) : G := e2_2 h.2 (f h.1)
theorem m1_2_3 {α0 α1 : Sort _} {B0 : Prop} {A0 A1 A2 : α0 -> α1 -> Prop} {G : Prop} (h : B0 /\ ∃ x0 x1, A0 x0 x1 /\ A1 x0 x1 /\ A2 x0 x1) (f : B0 -> ∀ x0 x1, A0 x0 x1 -> A1 x0 x1 -> A2 x0 x1 -> G) : G := e2_3 h.2 (f h.1)
theorem m2_1_2 {α0 : Sort _} {B0 B1 : Prop} {A0 A1 : α0 -> Prop} {G : Prop} (h : B0 /\ B1 /\ ∃ x0, A0 x0 /\ A1 x0) (f : B0 -> B1 -> ∀ x0, A0 x0 -> A1 x0 -> G) : G := m1_1_2 h.2 (f h.1)
theorem m2_1_3 {α0 : Sort _} {B0 B1 : Prop} {A0 A1 A2 : α0 -> Prop} {G : Prop} (h : B0 /\ B1 /\ ∃ x0, A0 x0 /\ A1 x0 /\ A2 x0) (f : B0 -> B1 -> ∀ x0, A0 x0 -> A1 x0 -> A2 x0 -> G) : G := m1_1_3 h.2 (f h.1)
theorem m3_1_2 {α0 : Sort _} {B0 B1 B2 : Prop} {A0 A1 : α0 -> Prop} {G : Prop} (h : B0 /\ B1 /\ B2 /\ ∃ x0, A0 x0 /\ A1 x0) (f : B0 -> B1 -> B2 -> ∀ x0, A0 x0 -> A1 x0 -> G) : G := m2_1_2 h.2 (f h.1)
end
end Mine
section
open Lean Lean.Parser.Tactic in
local macro_rules
 | `(tactic| obtain $pat:rcasesPatMed := $e:term) => do
  let alts := pat.raw[0].getSepArgs
  if alts.size != 1 then Macro.throwUnsupported
  let p := alts[0]!
  if p.getKind != ``Lean.Parser.Tactic.rcasesPat.tuple then Macro.throwUnsupported
  let ps := p[1].getSepArgs
  if ps.size < 2 then Macro.throwUnsupported
  let mut ns : Array (TSyntax `term) := #[]
  let mut post : Array (TSyntax `tactic) := #[]
  let h0 <- `(h)
  let mut i := 0
  for q in ps do
   i := i + 1
   let m := q[0][0].getSepArgs
   let one := m.size == 1 && q[1].getNumArgs == 0
   if one && (m[0]!).getKind == ``Lean.Parser.Tactic.rcasesPat.one && (m[0]!)[0].getId != `rfl then
    ns := ns.push ⟨(m[0]!)[0]⟩
   else
    let v : Ident := ⟨mkIdentFrom h0 (h0.raw.getId.modifyBase (·.appendIndexAfter i))⟩
    ns := ns.push ⟨v⟩
    if one && (m[0]!).getKind == ``Lean.Parser.Tactic.rcasesPat.one then
     let ql : TSyntax ``Lean.Parser.Tactic.rcasesPatLo := ⟨q⟩
     post := post.push (<- `(tactic| rcases $v:ident with $ql:rcasesPatLo))
    else if one && (m[0]!).getKind == ``Lean.Parser.Tactic.rcasesPat.ignore then pure ()
    else
     let pm : TSyntax ``Lean.Parser.Tactic.rcasesPatMed := ⟨q[0]⟩
     post := post.push (<- `(tactic| obtain $pm := $v:ident))
  let cl : TSyntax `tactic <- if e.raw.isIdent then `(tactic| try clear $(⟨e.raw⟩):ident) else `(tactic| skip)
  let lo : TSyntax ``Lean.Parser.Tactic.rcasesPatLo := ⟨mkNode ``Lean.Parser.Tactic.rcasesPatLo #[pat.raw, mkNullNode]⟩
  let mut t : TSyntax `tactic <- `(tactic| first | (refine Mine.cps fun G k => ?_; rcases $e:term with $lo:rcasesPatLo <;> (refine k ?_; clear k G)) | rcases $e:term with $lo:rcasesPatLo)
  for j in [3, 2, 1] do
   for k in [1, 2, 3, 4, 5] do
    if j + k < ps.size && ps.size - j - k < 13 then
     let nm := mkCIdent (.mkStr `Mine s!"m{j}_{k}_{ps.size - j - k}")
     t <- `(tactic| first | (refine $nm $e ?_; $cl:tactic; intro $ns*; $[$post:tactic];*) | ($t:tactic))
  for k in [0, 1, 2, 3, 4, 5] do
   if k < ps.size && ps.size - k < 14 && 0 < ps.size - k then
    let nm := mkCIdent (.mkStr `Mine s!"e{k}_{ps.size - k}")
    t <- `(tactic| first | (refine $nm $e ?_; $cl:tactic; intro $ns*; $[$post:tactic];*) | ($t:tactic))
  pure t
 | `(tactic| rintro $pats*) => do
  let h0 <- `(h)
  let mut ts : Array (TSyntax `tactic) := #[]
  let mut tup := false
  let mut i := 0
  for p in pats do
   i := i + 1
   if p.raw.getKind != ``Lean.Parser.Tactic.rintroPat.one then Macro.throwUnsupported
   let q := p.raw[0]
   if q.getKind == ``Lean.Parser.Tactic.rcasesPat.one && q[0].getId != `rfl then
    ts := ts.push (<- `(tactic| intro $(⟨q[0]⟩):ident))
   else if q.getKind == ``Lean.Parser.Tactic.rcasesPat.tuple then
    tup := true
    let v : Ident := ⟨mkIdentFrom h0 (h0.raw.getId.modifyBase (·.appendIndexAfter (100 + i)))⟩
    let pm : TSyntax ``Lean.Parser.Tactic.rcasesPatMed := ⟨mkNode ``Lean.Parser.Tactic.rcasesPatMed #[mkNullNode #[q]]⟩
    ts := ts.push (<- `(tactic| (intro $v:ident; obtain $pm := $v:ident)))
   else Macro.throwUnsupported
  if !tup then Macro.throwUnsupported
  let lst := ts.toList
  let mut t : TSyntax `tactic := lst.getLast!
  for u in lst.dropLast.reverse do t <- `(tactic| ($u:tactic <;> $t:tactic))
  pure t
 | `(tactic| cases $h:ident) => `(tactic| first | (exfalso; injection $h:ident; done) | (exfalso; cases ($h); done) | (replace $h := Option.some.inj $h; subst $h) | cases ($h))
namespace Mine
open PySem PySem.W PyProof.Rows
noncomputable def ks (x : String) (t : Tok) : Value := .str (Str.ofString x) t
noncomputable def ke (P : Params) (x : String) (t : Tok) (v : Value) : DictEntry := { hash := PyData.keyHash P (Str.ofString x), key := .str (Str.ofString x) t, val := v }
noncomputable def cO (fs : Array Value) : Obj := { cls := .type "code", data := .fields fs }
noncomputable def s0 (i : Nat) : Option Stmt := PySem.Challenge.pw_sa0030_01.main.body[i]?
noncomputable def s1 (i j : Nat) : Option Stmt := match s0 i with
 | some (.ClassDef _ _ _ b _ _ _ _ _ _ _) => b[j]?
 | _ => none
noncomputable def fO (s : Option Stmt) (q : String) (m : Value) (c : Addr) : Obj := match s with
 | some (.FunctionDef n a b _ _ _ sc _ _ _) => { cls := .type "function", data := .func { name := n, qualname := Str.ofString q, params := a, body := .stmts b, scope := sc, globals := 3, closure := [], defaults := .none, kwdefaults := .none, pyModule := m, code := .ref c } }
 | _ => cO #[]
noncomputable def KT (P : Params) : Frag :=
 [(3, { cls := .type "dict", data := .dict #[ke P "__name__" 165 (ks "law_sa0030_01" 715), ke P "__doc__" 166 (.none), ke P "__package__" 167 (.none), ke P "__loader__" 168 (.builtin "__main__.__loader__#opaque"), ke P "__spec__" 169 (.none), ke P "__annotations__" 170 (.ref 6), ke P "__builtins__" 171 (.ref 4), ke P "__file__" 173 (ks "/claim/cut.py" 172), ke P "__cached__" 174 (.none), ke P "_wall" 193 (.ref 21), ke P "HeapError" 233 (.ref 47), ke P "TermFault" 249 (.ref 60), ke P "is_op" 257 (.ref 67), ke P "is_variable" 264 (.ref 74), ke P "variables" 270 (.ref 79), ke P "parts" 276 (.ref 84), ke P "Bank" 407 (.ref 186), ke P "filled" 415 (.ref 195), ke P "grounded" 421 (.ref 200), ke P "put_sides" 431 (.ref 207), ke P "are_joined" 441 (.ref 214), ke P "Unions" 545 (.ref 292), ke P "Heap" 714 (.ref 424), ke P "_law_leaves" 720 (.ref 429), ke P "_law_draw" 730 (.ref 436), ke P "_law_tree" 736 (.ref 441), ke P "_law_ops" 742 (.ref 446), ke P "_law_laid" 748 (.ref 451), ke P "_law_gather" 757 (.ref 458), ke P "_law_closed" 763 (.ref 463), ke P "law" 769 (.ref 468)] 31 }),
  (66, cO #[ks "is_op" 252, ks "is_op" 253, ks "/claim/cut.py" 254, .int 16 0, .int 1 0, .int 0 0, .int 0 0, .int 3 0, .ref 63, .bool true, .int 181 0, .ref 64, .none, .none, .none, .ref 65, .int 255 0, .int 16 0, ks "/claim/cut.py" 256]),
  (67, fO (s0 5) "is_op" (ks "alikeheap.terms" 250) 66),
  (73, cO #[ks "is_variable" 258, ks "is_variable" 259, ks "/claim/cut.py" 260, .int 18 0, .int 1 0, .int 0 0, .int 0 0, .int 3 0, .ref 68, .bool true, .int 181 0, .ref 69, .none, .ref 70, .ref 71, .ref 72, .int 262 0, .int 18 0, ks "/claim/cut.py" 263]),
  (74, fO (s0 6) "is_variable" (ks "alikeheap.terms" 250) 73),
  (78, cO #[ks "variables" 265, ks "variables" 266, ks "/claim/cut.py" 267, .int 20 0, .int 1 0, .int 0 0, .int 0 0, .int 3 0, .ref 75, .bool true, .int 181 0, .ref 76, .none, .none, .none, .ref 77, .int 268 0, .int 20 0, ks "/claim/cut.py" 269]),
  (79, fO (s0 7) "variables" (ks "alikeheap.terms" 250) 78),
  (83, cO #[ks "parts" 271, ks "parts" 272, ks "/claim/cut.py" 273, .int 22 0, .int 1 0, .int 0 0, .int 0 0, .int 3 0, .ref 80, .bool true, .int 181 0, .ref 81, .none, .none, .none, .ref 82, .int 274 0, .int 22 0, ks "/claim/cut.py" 275]),
  (84, fO (s0 8) "parts" (ks "alikeheap.terms" 250) 83),
  (97, cO #[ks "__init__" 289, ks "Bank.__init__" 290, ks "/claim/cut.py" 291, .int 29 0, .int 1 0, .int 0 0, .int 0 0, .int 3 0, .ref 92, .bool true, .int 181 0, .ref 93, .none, .ref 94, .ref 95, .ref 96, .int 293 0, .int 29 0, ks "/claim/cut.py" 294]),
  (98, fO (s1 9 0) "Bank.__init__" (ks "alikeheap.terms" 250) 97),
  (104, cO #[ks "size" 296, ks "Bank.size" 297, ks "/claim/cut.py" 298, .int 35 0, .int 1 0, .int 0 0, .int 0 0, .int 3 0, .ref 99, .bool true, .int 181 0, .ref 100, .none, .ref 101, .ref 102, .ref 103, .int 300 0, .int 35 0, ks "/claim/cut.py" 301]),
  (105, fO (s1 9 1) "Bank.size" (ks "alikeheap.terms" 250) 104),
  (109, cO #[ks "take" 303, ks "Bank.take" 304, ks "/claim/cut.py" 305, .int 38 0, .int 3 0, .int 0 0, .int 0 0, .int 3 0, .ref 106, .bool true, .int 181 0, .ref 107, .none, .none, .none, .ref 108, .int 306 0, .int 38 0, ks "/claim/cut.py" 307]),
  (110, fO (s1 9 2) "Bank.take" (ks "alikeheap.terms" 250) 109),
  (116, cO #[ks "require" 309, ks "Bank.require" 310, ks "/claim/cut.py" 311, .int 52 0, .int 2 0, .int 0 0, .int 0 0, .int 3 0, .ref 111, .bool true, .int 181 0, .ref 112, .none, .ref 113, .ref 114, .ref 115, .int 314 0, .int 52 0, ks "/claim/cut.py" 315]),
  (117, fO (s1 9 3) "Bank.require" (ks "alikeheap.terms" 250) 116),
  (123, cO #[ks "put" 317, ks "Bank.put" 318, ks "/claim/cut.py" 319, .int 56 0, .int 2 0, .int 0 0, .int 0 0, .int 3 0, .ref 118, .bool true, .int 181 0, .ref 119, .none, .ref 120, .ref 121, .ref 122, .int 324 0, .int 56 0, ks "/claim/cut.py" 325]),
  (124, fO (s1 9 4) "Bank.put" (ks "alikeheap.terms" 250) 123),
  (128, cO #[ks "put_all" 327, ks "Bank.put_all" 328, ks "/claim/cut.py" 329, .int 61 0, .int 2 0, .int 0 0, .int 0 0, .int 3 0, .ref 125, .bool true, .int 181 0, .ref 126, .none, .none, .none, .ref 127, .int 330 0, .int 61 0, ks "/claim/cut.py" 331]),
  (129, fO (s1 9 5) "Bank.put_all" (ks "alikeheap.terms" 250) 128),
  (142, cO #[ks "op" 341, ks "Bank.op" 342, ks "/claim/cut.py" 343, .int 67 0, .int 2 0, .int 0 0, .int 0 0, .int 3 0, .ref 137, .bool true, .int 181 0, .ref 138, .none, .ref 139, .ref 140, .ref 141, .int 346 0, .int 67 0, ks "/claim/cut.py" 347]),
  (143, fO (s1 9 7) "Bank.op" (ks "alikeheap.terms" 250) 142),
  (149, cO #[ks "kids" 349, ks "Bank.kids" 350, ks "/claim/cut.py" 351, .int 70 0, .int 2 0, .int 0 0, .int 0 0, .int 3 0, .ref 144, .bool true, .int 181 0, .ref 145, .none, .ref 146, .ref 147, .ref 148, .int 354 0, .int 70 0, ks "/claim/cut.py" 355]),
  (150, fO (s1 9 8) "Bank.kids" (ks "alikeheap.terms" 250) 149),
  (156, cO #[ks "node" 357, ks "Bank.node" 358, ks "/claim/cut.py" 359, .int 73 0, .int 2 0, .int 0 0, .int 0 0, .int 3 0, .ref 151, .bool true, .int 181 0, .ref 152, .none, .ref 153, .ref 154, .ref 155, .int 362 0, .int 73 0, ks "/claim/cut.py" 363]),
  (157, fO (s1 9 9) "Bank.node" (ks "alikeheap.terms" 250) 156),
  (161, cO #[ks "term" 365, ks "Bank.term" 366, ks "/claim/cut.py" 367, .int 76 0, .int 2 0, .int 0 0, .int 0 0, .int 3 0, .ref 158, .bool true, .int 181 0, .ref 159, .none, .none, .none, .ref 160, .int 368 0, .int 76 0, ks "/claim/cut.py" 369]),
  (162, fO (s1 9 10) "Bank.term" (ks "alikeheap.terms" 250) 161),
  (182, cO #[ks "seek" 387, ks "Bank.seek" 388, ks "/claim/cut.py" 389, .int 94 0, .int 3 0, .int 0 0, .int 0 0, .int 3 0, .ref 177, .bool true, .int 181 0, .ref 178, .none, .ref 179, .ref 180, .ref 181, .int 393 0, .int 94 0, ks "/claim/cut.py" 394]),
  (183, fO (s1 9 13) "Bank.seek" (ks "alikeheap.terms" 250) 182),
  (185, { cls := .type "dict", data := .dict #[ke P "__module__" 284 (ks "alikeheap.terms" 250), ke P "__firstlineno__" 288 (.int 27 287), ke P "__init__" 295 (.ref 98), ke P "size" 302 (.ref 105), ke P "take" 308 (.ref 110), ke P "require" 316 (.ref 117), ke P "put" 326 (.ref 124), ke P "put_all" 332 (.ref 129), ke P "cut" 340 (.ref 136), ke P "op" 348 (.ref 143), ke P "kids" 356 (.ref 150), ke P "node" 364 (.ref 157), ke P "term" 370 (.ref 162), ke P "weight" 378 (.ref 169), ke P "depth" 386 (.ref 176), ke P "seek" 395 (.ref 183), ke P "__static_attributes__" 400 (.ref 184), ke P "__dict__" 402 (.ref 187), ke P "__weakref__" 404 (.ref 188), ke P "__doc__" 405 (.none)] 4 }),
  (186, { cls := .type "type", data := .cls { name := Str.ofString "Bank", bases := [.type "object"], mro := [.ref 186, .type "object"], ns := 185, qualname := Str.ofString "Bank" }, slots := #[none, none, some (ks "Bank" 277), some (ks "Bank" 285), some (.builtin "object.__new__"), some (.bool true)] }),
  (194, cO #[ks "filled" 410, ks "filled" 411, ks "/claim/cut.py" 412, .int 97 0, .int 2 0, .int 0 0, .int 0 0, .int 3 0, .ref 191, .bool true, .int 181 0, .ref 192, .none, .none, .none, .ref 193, .int 413 0, .int 97 0, ks "/claim/cut.py" 414]),
  (195, fO (s0 11) "filled" (ks "alikeheap.orders" 408) 194),
  (199, cO #[ks "grounded" 416, ks "grounded" 417, ks "/claim/cut.py" 418, .int 101 0, .int 1 0, .int 0 0, .int 0 0, .int 3 0, .ref 196, .bool true, .int 181 0, .ref 197, .none, .none, .none, .ref 198, .int 419 0, .int 101 0, ks "/claim/cut.py" 420]),
  (200, fO (s0 12) "grounded" (ks "alikeheap.orders" 408) 199),
  (206, cO #[ks "put_sides" 422, ks "put_sides" 423, ks "/claim/cut.py" 424, .int 110 0, .int 2 0, .int 0 0, .int 0 0, .int 3 0, .ref 201, .bool true, .int 181 0, .ref 202, .none, .ref 203, .ref 204, .ref 205, .int 429 0, .int 110 0, ks "/claim/cut.py" 430]),
  (207, fO (s0 13) "put_sides" (ks "alikeheap.orders" 408) 206),
  (213, cO #[ks "are_joined" 432, ks "are_joined" 433, ks "/claim/cut.py" 434, .int 113 0, .int 2 0, .int 0 0, .int 0 0, .int 3 0, .ref 208, .bool true, .int 181 0, .ref 209, .none, .ref 210, .ref 211, .ref 212, .int 439 0, .int 113 0, ks "/claim/cut.py" 440]),
  (214, fO (s0 14) "are_joined" (ks "alikeheap.orders" 408) 213),
  (227, cO #[ks "__init__" 456, ks "Unions.__init__" 457, ks "/claim/cut.py" 458, .int 120 0, .int 1 0, .int 0 0, .int 0 0, .int 3 0, .ref 222, .bool true, .int 181 0, .ref 223, .none, .ref 224, .ref 225, .ref 226, .int 460 0, .int 120 0, ks "/claim/cut.py" 461]),
  (228, fO (s1 16 0) "Unions.__init__" (ks "alikeheap.unions" 442) 227),
  (234, cO #[ks "make" 463, ks "Unions.make" 464, ks "/claim/cut.py" 465, .int 125 0, .int 1 0, .int 0 0, .int 0 0, .int 3 0, .ref 229, .bool true, .int 181 0, .ref 230, .none, .ref 231, .ref 232, .ref 233, .int 467 0, .int 125 0, ks "/claim/cut.py" 468]),
  (235, fO (s1 16 1) "Unions.make" (ks "alikeheap.unions" 442) 234),
  (241, cO #[ks "size" 470, ks "Unions.size" 471, ks "/claim/cut.py" 472, .int 130 0, .int 1 0, .int 0 0, .int 0 0, .int 3 0, .ref 236, .bool true, .int 181 0, .ref 237, .none, .ref 238, .ref 239, .ref 240, .int 474 0, .int 130 0, ks "/claim/cut.py" 475]),
  (242, fO (s1 16 2) "Unions.size" (ks "alikeheap.unions" 442) 241),
  (248, cO #[ks "find" 477, ks "Unions.find" 478, ks "/claim/cut.py" 479, .int 133 0, .int 2 0, .int 0 0, .int 0 0, .int 3 0, .ref 243, .bool true, .int 181 0, .ref 244, .none, .ref 245, .ref 246, .ref 247, .int 482 0, .int 133 0, ks "/claim/cut.py" 483]),
  (249, fO (s1 16 3) "Unions.find" (ks "alikeheap.unions" 442) 248),
  (255, cO #[ks "merge" 485, ks "Unions.merge" 486, ks "/claim/cut.py" 487, .int 138 0, .int 3 0, .int 0 0, .int 0 0, .int 3 0, .ref 250, .bool true, .int 181 0, .ref 251, .none, .ref 252, .ref 253, .ref 254, .int 493 0, .int 138 0, ks "/claim/cut.py" 494]),
  (256, fO (s1 16 4) "Unions.merge" (ks "alikeheap.unions" 442) 255),
  (291, { cls := .type "dict", data := .dict #[ke P "__module__" 451 (ks "alikeheap.unions" 442), ke P "__firstlineno__" 455 (.int 118 454), ke P "__init__" 462 (.ref 228), ke P "make" 469 (.ref 235), ke P "size" 476 (.ref 242), ke P "find" 484 (.ref 249), ke P "merge" 495 (.ref 256), ke P "members" 503 (.ref 263), ke P "classes" 509 (.ref 268), ke P "log" 516 (.ref 275), ke P "back" 526 (.ref 282), ke P "cut" 534 (.ref 289), ke P "__static_attributes__" 538 (.ref 290), ke P "__dict__" 540 (.ref 293), ke P "__weakref__" 542 (.ref 294), ke P "__doc__" 543 (.none)] 4 }),
  (292, { cls := .type "type", data := .cls { name := Str.ofString "Unions", bases := [.type "object"], mro := [.ref 292, .type "object"], ns := 291, qualname := Str.ofString "Unions" }, slots := #[none, none, some (ks "Unions" 444), some (ks "Unions" 452), some (.builtin "object.__new__"), some (.bool true)] }),
  (309, cO #[ks "__init__" 560, ks "Heap.__init__" 561, ks "/claim/cut.py" 562, .int 167 0, .int 1 0, .int 0 0, .int 0 0, .int 3 0, .ref 304, .bool true, .int 181 0, .ref 305, .none, .ref 306, .ref 307, .ref 308, .int 564 0, .int 167 0, ks "/claim/cut.py" 565]),
  (310, fO (s1 18 0) "Heap.__init__" (ks "alikeheap.heap" 546) 309),
  (316, cO #[ks "size" 567, ks "Heap.size" 568, ks "/claim/cut.py" 569, .int 177 0, .int 1 0, .int 0 0, .int 0 0, .int 3 0, .ref 311, .bool true, .int 181 0, .ref 312, .none, .ref 313, .ref 314, .ref 315, .int 571 0, .int 177 0, ks "/claim/cut.py" 572]),
  (317, fO (s1 18 1) "Heap.size" (ks "alikeheap.heap" 546) 316),
  (321, cO #[ks "node" 574, ks "Heap.node" 575, ks "/claim/cut.py" 576, .int 180 0, .int 2 0, .int 0 0, .int 0 0, .int 3 0, .ref 318, .bool true, .int 181 0, .ref 319, .none, .none, .none, .ref 320, .int 577 0, .int 180 0, ks "/claim/cut.py" 578]),
  (322, fO (s1 18 2) "Heap.node" (ks "alikeheap.heap" 546) 321),
  (326, cO #[ks "add" 580, ks "Heap.add" 581, ks "/claim/cut.py" 582, .int 183 0, .int 3 0, .int 0 0, .int 0 0, .int 3 0, .ref 323, .bool true, .int 181 0, .ref 324, .none, .none, .none, .ref 325, .int 583 0, .int 183 0, ks "/claim/cut.py" 584]),
  (327, fO (s1 18 3) "Heap.add" (ks "alikeheap.heap" 546) 326),
  (331, cO #[ks "put" 586, ks "Heap.put" 587, ks "/claim/cut.py" 588, .int 194 0, .int 2 0, .int 0 0, .int 0 0, .int 3 0, .ref 328, .bool true, .int 181 0, .ref 329, .none, .none, .none, .ref 330, .int 589 0, .int 194 0, ks "/claim/cut.py" 590]),
  (332, fO (s1 18 4) "Heap.put" (ks "alikeheap.heap" 546) 331),
  (338, cO #[ks "look_at" 592, ks "Heap.look_at" 593, ks "/claim/cut.py" 594, .int 197 0, .int 2 0, .int 0 0, .int 0 0, .int 3 0, .ref 333, .bool true, .int 181 0, .ref 334, .none, .ref 335, .ref 336, .ref 337, .int 598 0, .int 197 0, ks "/claim/cut.py" 599]),
  (339, fO (s1 18 5) "Heap.look_at" (ks "alikeheap.heap" 546) 338),
  (345, cO #[ks "find" 601, ks "Heap.find" 602, ks "/claim/cut.py" 603, .int 202 0, .int 2 0, .int 0 0, .int 0 0, .int 3 0, .ref 340, .bool true, .int 181 0, .ref 341, .none, .ref 342, .ref 343, .ref 344, .int 606 0, .int 202 0, ks "/claim/cut.py" 607]),
  (346, fO (s1 18 6) "Heap.find" (ks "alikeheap.heap" 546) 345),
  (352, cO #[ks "are_like" 609, ks "Heap.are_like" 610, ks "/claim/cut.py" 611, .int 205 0, .int 3 0, .int 0 0, .int 0 0, .int 3 0, .ref 347, .bool true, .int 181 0, .ref 348, .none, .ref 349, .ref 350, .ref 351, .int 615 0, .int 205 0, ks "/claim/cut.py" 616]),
  (353, fO (s1 18 7) "Heap.are_like" (ks "alikeheap.heap" 546) 352),
  (359, cO #[ks "merge" 618, ks "Heap.merge" 619, ks "/claim/cut.py" 620, .int 208 0, .int 4 0, .int 0 0, .int 0 0, .int 3 0, .ref 354, .bool true, .int 181 0, .ref 355, .none, .ref 356, .ref 357, .ref 358, .int 625 0, .int 208 0, ks "/claim/cut.py" 626]),
  (360, fO (s1 18 8) "Heap.merge" (ks "alikeheap.heap" 546) 359),
  (366, cO #[ks "join" 628, ks "Heap.join" 629, ks "/claim/cut.py" 630, .int 211 0, .int 4 0, .int 0 0, .int 0 0, .int 3 0, .ref 361, .bool true, .int 181 0, .ref 362, .none, .ref 363, .ref 364, .ref 365, .int 638 0, .int 211 0, ks "/claim/cut.py" 639]),
  (367, fO (s1 18 9) "Heap.join" (ks "alikeheap.heap" 546) 366),
  (373, cO #[ks "settle" 641, ks "Heap.settle" 642, ks "/claim/cut.py" 643, .int 222 0, .int 1 0, .int 0 0, .int 0 0, .int 3 0, .ref 368, .bool true, .int 181 0, .ref 369, .none, .ref 370, .ref 371, .ref 372, .int 645 0, .int 222 0, ks "/claim/cut.py" 646]),
  (374, fO (s1 18 10) "Heap.settle" (ks "alikeheap.heap" 546) 373),
  (380, cO #[ks "is_settled" 648, ks "Heap.is_settled" 649, ks "/claim/cut.py" 650, .int 226 0, .int 1 0, .int 0 0, .int 0 0, .int 3 0, .ref 375, .bool true, .int 181 0, .ref 376, .none, .ref 377, .ref 378, .ref 379, .int 652 0, .int 226 0, ks "/claim/cut.py" 653]),
  (381, fO (s1 18 11) "Heap.is_settled" (ks "alikeheap.heap" 546) 380),
  (423, { cls := .type "dict", data := .dict #[ke P "__module__" 555 (ks "alikeheap.heap" 546), ke P "__firstlineno__" 559 (.int 165 558), ke P "__init__" 566 (.ref 310), ke P "size" 573 (.ref 317), ke P "node" 579 (.ref 322), ke P "add" 585 (.ref 327), ke P "put" 591 (.ref 332), ke P "look_at" 600 (.ref 339), ke P "find" 608 (.ref 346), ke P "are_like" 617 (.ref 353), ke P "merge" 627 (.ref 360), ke P "join" 640 (.ref 367), ke P "settle" 647 (.ref 374), ke P "is_settled" 654 (.ref 381), ke P "classes" 661 (.ref 388), ke P "members" 669 (.ref 395), ke P "nodes_of" 677 (.ref 402), ke P "many_nodes" 684 (.ref 409), ke P "seek" 690 (.ref 414), ke P "users" 698 (.ref 421), ke P "__static_attributes__" 707 (.ref 422), ke P "__dict__" 709 (.ref 425), ke P "__weakref__" 711 (.ref 426), ke P "__doc__" 712 (.none)] 4 }),
  (424, { cls := .type "type", data := .cls { name := Str.ofString "Heap", bases := [.type "object"], mro := [.ref 424, .type "object"], ns := 423, qualname := Str.ofString "Heap" }, slots := #[none, none, some (ks "Heap" 548), some (ks "Heap" 556), some (.builtin "object.__new__"), some (.bool true)] }),
  (429, { cls := .type "tuple", data := .seq #[ks "a" 717, ks "leaf0" 718, ks "leaf2" 719] }),
  (435, cO #[ks "_law_draw" 721, ks "_law_draw" 722, ks "/claim/cut.py" 723, .int 249 0, .int 2 0, .int 0 0, .int 0 0, .int 3 0, .ref 430, .bool true, .int 181 0, .ref 431, .none, .ref 432, .ref 433, .ref 434, .int 728 0, .int 249 0, ks "/claim/cut.py" 729]),
  (436, fO (s0 21) "_law_draw" (ks "law_sa0030_01" 715) 435),
  (440, cO #[ks "_law_tree" 731, ks "_law_tree" 732, ks "/claim/cut.py" 733, .int 253 0, .int 3 0, .int 0 0, .int 0 0, .int 3 0, .ref 437, .bool true, .int 181 0, .ref 438, .none, .none, .none, .ref 439, .int 734 0, .int 253 0, ks "/claim/cut.py" 735]),
  (441, fO (s0 22) "_law_tree" (ks "law_sa0030_01" 715) 440),
  (445, cO #[ks "_law_ops" 737, ks "_law_ops" 738, ks "/claim/cut.py" 739, .int 259 0, .int 1 0, .int 0 0, .int 0 0, .int 3 0, .ref 442, .bool true, .int 181 0, .ref 443, .none, .none, .none, .ref 444, .int 740 0, .int 259 0, ks "/claim/cut.py" 741]),
  (446, fO (s0 23) "_law_ops" (ks "law_sa0030_01" 715) 445),
  (450, cO #[ks "_law_laid" 743, ks "_law_laid" 744, ks "/claim/cut.py" 745, .int 261 0, .int 2 0, .int 0 0, .int 0 0, .int 3 0, .ref 447, .bool true, .int 181 0, .ref 448, .none, .none, .none, .ref 449, .int 746 0, .int 261 0, ks "/claim/cut.py" 747]),
  (451, fO (s0 24) "_law_laid" (ks "law_sa0030_01" 715) 450),
  (457, cO #[ks "_law_gather" 749, ks "_law_gather" 750, ks "/claim/cut.py" 751, .int 263 0, .int 2 0, .int 0 0, .int 0 0, .int 3 0, .ref 452, .bool true, .int 181 0, .ref 453, .none, .ref 454, .ref 455, .ref 456, .int 755 0, .int 263 0, ks "/claim/cut.py" 756]),
  (458, fO (s0 25) "_law_gather" (ks "law_sa0030_01" 715) 457),
  (462, cO #[ks "_law_closed" 758, ks "_law_closed" 759, ks "/claim/cut.py" 760, .int 268 0, .int 2 0, .int 0 0, .int 0 0, .int 3 0, .ref 459, .bool true, .int 181 0, .ref 460, .none, .none, .none, .ref 461, .int 761 0, .int 268 0, ks "/claim/cut.py" 762]),
  (463, fO (s0 26) "_law_closed" (ks "law_sa0030_01" 715) 462),
  (467, cO #[ks "law" 764, ks "law" 765, ks "/claim/cut.py" 766, .int 280 0, .int 1 0, .int 0 0, .int 0 0, .int 3 0, .ref 464, .bool true, .int 181 0, .ref 465, .none, .none, .none, .ref 466, .int 767 0, .int 280 0, ks "/claim/cut.py" 768]),
  (468, fO (s0 27) "law" (ks "law_sa0030_01" 715) 467)]
noncomputable def view : Program := { PySem.Challenge.pw_sa0030_01 with main := { PySem.Challenge.pw_sa0030_01.main with body := [0, 2, 3, 5, 6, 7, 8, 9, 11, 12, 13, 14, 16, 18, 20, 21, 22, 23, 24, 25, 26, 27].filterMap s0 } }
noncomputable def adr : List Addr := [3, 66, 67, 73, 74, 78, 79, 83, 84, 97, 98, 104, 105, 109, 110, 116, 117, 123, 124, 128, 129, 142, 143, 149, 150, 156, 157, 161, 162, 182, 183, 185, 186, 194, 195, 199, 200, 206, 207, 213, 214, 227, 228, 234, 235, 241, 242, 248, 249, 255, 256, 291, 292, 309, 310, 316, 317, 321, 322, 326, 327, 331, 332, 338, 339, 345, 346, 352, 353, 359, 360, 366, 367, 373, 374, 380, 381, 423, 424, 429, 435, 436, 440, 441, 445, 446, 450, 451, 457, 458, 462, 463, 467, 468]
theorem adr_ok (P : Params) : adr = (KT P).map (·.1) := by kernel_rfl
noncomputable def topRunG (st : SharedT -> Thread -> Option (SharedT × Thread)) (ok : Thread -> Bool) : Nat -> SharedT -> Thread -> Option SharedT
 | 0, _, _ => none
 | n + 1, s, t => match through t with
  | true => some s
  | false => match ok t with
   | false => none
   | true => match st s t with
    | some (s', t') => topRunG st ok n s' t'
    | none => none
noncomputable def topRunT (tb : String -> Option Builtin) (p : Program) (w : World) (n₀ : Nat) (ann : Option Value) : Nat -> SharedT -> Thread -> Option SharedT := topRunG (stepT (denote tb) p w) (stepOk n₀ ann)
theorem topRun_ofT {tb : String -> Option Builtin} {p : Program} {w : World} {n₀ : Nat} {ann : Option Value} : ∀ {n : Nat} {s s' : SharedT} {t : Thread}, topRunT tb p w n₀ ann n s t = some s' -> topRun tb p w n₀ ann n s.abs t = some s'.abs := by
 intro n
 induction n with
 | zero => intro s s' t h; exact nomatch (show (none : Option SharedT) = some _ from h)
 | succ n ih =>
  intro s s' t h
  unfold topRunT topRunG at h
  unfold topRun
  cases he : through t with
  | true => rw [he] at h; cases h; rfl
  | false =>
   rw [he] at h
   cases hk : stepOk n₀ ann t with
   | false => rw [hk] at h; cases h
   | true =>
    rw [hk] at h
    cases hs : stepT (denote tb) p w s t with
    | none => rw [hs] at h; cases h
    | some r => obtain ⟨s₂, t₂⟩ := r; rw [hs] at h; rw [stepT_spec hs]; exact ih h
noncomputable def treeL : Nat -> BT -> List Obj -> BT
 | _, t, [] => t
 | i, t, o :: l => treeL (i + 1) (t.ins i o) l
theorem boot_size (P : Params) : (boot_heap P).objs.size = 11 := by kernel_rfl
theorem boot_ann (P : Params) : (boot_heap P).nsMap mainGlobals "__annotations__" = some (.ref 6) := by kernel_rfl
theorem boot_ns (P : Params) : (boot_heap P).isNs mainGlobals = true := by kernel_rfl
noncomputable def sT (P : Params) (os : OsState) : SharedT := ⟨treeL 0 .nil (boot_heap P).objs.toList, 11, (boot_heap P).life, #[], boot_drawn, boot_toks, os⟩
theorem sT_abs (P : Params) (os : OsState) : (sT P os).abs = ⟨boot_heap P, #[], boot_drawn, boot_toks, os⟩ := by kernel_rfl
theorem leftT {p q : Program} {loose : List Str} {Xt : Shared -> Bool} {α : Type} {Yf : Shared -> α} {Ya : World -> α} {N M : Nat} {g0 : Bool} (e : opening p = plainProg p.main.scope.names) (hN : Nat.ble 600 N = true) (f : ∀ s, fenceModules? p s = some s) (le : Nat.ble M N = true)
  (w1 : ∀ w os, (topRunT treeTable p w 11 (some (.ref 6)) M (sT w.params os) (topStub p)).map (fun s => (staticsOk (importedModules p.main.body) (boot_heap w.params) s.abs.heap && namesBound p s.abs.heap && gensDone s.abs && laidKept (boot_heap w.params) s.abs.heap, Yf s.abs)) = some (true, Ya w))
  (w2 : ∀ w os, (topRunT treeTable p w 11 (some (.ref 6)) M (sT w.params os) (topStub p)).map (fun s => openSeen q loose (importedModules p.main.body) Xt g0 s.abs) = some (openGood q loose)) : LeftO p q loose Xt Yf Ya N g0 := fun w => by
 obtain ⟨⟨h, gs, d, k, os⟩, e, e'⟩ := Option.map_eq_some_iff.mp (boot_open e hN f w)
 obtain ⟨rfl, rfl, rfl, rfl⟩ : h = boot_heap w.params /\ gs = #[] /\ d = boot_drawn /\ k = boot_toks := by simpa using e'
 obtain ⟨s', h1, h2⟩ := Option.map_eq_some_iff.mp (w1 w os)
 have h3 := w2 w os
 rw [h1] at h3
 injection h3 with h3
 injection h2 with h2 h4
 have r := topRun_mono (N - M) _ _ _ _ (topRun_ofT h1)
 rw [show M + (N - M) = N by have := Nat.le_of_ble_eq_true le; omega, sT_abs] at r
 have t : topFrom treeTable p w N ⟨boot_heap w.params, #[], boot_drawn, boot_toks, os⟩ = some s'.abs := by
  unfold topFrom
  dsimp only
  rw [boot_size, boot_ann, boot_ns, r]
  show (match staticsOk (importedModules p.main.body) (boot_heap w.params) s'.abs.heap && namesBound p s'.abs.heap && gensDone s'.abs && laidKept (boot_heap w.params) s'.abs.heap with | true => _ | false => _) = _
  rw [h2]
 unfold openEnds
 rw [e]
 show (topFrom treeTable p w N _).map _ = _
 rw [t]
 exact congrArg some (Prod.ext h3 h4)
noncomputable abbrev HkM : Hook := kHook KT adr adr_ok
noncomputable abbrev XtM (s : Shared) : Bool := xlAt view [] s && recOk (RowW.records PySem.Challenge.rw_sa0030_01.row.toRowW) s
end Mine
set_option maxHeartbeats 0
namespace Mine
open PySem PySem.W PyProof.Rows
noncomputable def runQ (w : World) (os : OsState) : Option SharedT := topRunG (Fast.tw10156331382660048174 (Fast.tw11892475500146522536 Fast.tw14364793385576792824) PySem.Challenge.pw_sa0030_01 w) (Fast.tw6613529449190102663 11 (some (.ref 6))) 5924 (sT w.params os) (topStub PySem.Challenge.pw_sa0030_01)
theorem said_q : Fast.tw9446332074065402090 PySem.Challenge.rw_sa0030_01 = true := by kernel_rfl
theorem said_ok : OpenLaw.wellSaid PySem.Challenge.rw_sa0030_01 = true := by rw [Fast.te9446332074065402090]; exact said_q
theorem run_eq (w : World) (os : OsState) : topRunT treeTable PySem.Challenge.pw_sa0030_01 w 11 (some (.ref 6)) 5924 (sT w.params os) (topStub PySem.Challenge.pw_sa0030_01) = runQ w os := by
 unfold topRunT runQ
 rw [Fast.te10156331382660048174, Fast.te11892475500146522536, Fast.te14364793385576792824, Fast.te6613529449190102663]
theorem wholeQ1 (w : World) (os : OsState) : (runQ w os).map (fun s => (staticsOk (Fast.tw5923862056798008813 PySem.Challenge.pw_sa0030_01.main.body) (boot_heap w.params) s.abs.heap && namesBound PySem.Challenge.pw_sa0030_01 s.abs.heap && gensDone s.abs && laidKept (boot_heap w.params) s.abs.heap, Hook.obs HkM s.abs)) = some (true, Hook.val HkM w) := by kernel_rfl
theorem wholeQ2 (w : World) (os : OsState) : (runQ w os).map (fun s => Fast.tw4187177175401517315 view [] (Fast.tw5923862056798008813 PySem.Challenge.pw_sa0030_01.main.body) XtM true s.abs) = some (openGood view []) := by kernel_rfl
theorem whole1 (w : World) (os : OsState) : (topRunT treeTable PySem.Challenge.pw_sa0030_01 w 11 (some (.ref 6)) 5924 (sT w.params os) (topStub PySem.Challenge.pw_sa0030_01)).map (fun s => (staticsOk (importedModules PySem.Challenge.pw_sa0030_01.main.body) (boot_heap w.params) s.abs.heap && namesBound PySem.Challenge.pw_sa0030_01 s.abs.heap && gensDone s.abs && laidKept (boot_heap w.params) s.abs.heap, Hook.obs HkM s.abs)) = some (true, Hook.val HkM w) := by
 rw [run_eq, Fast.te5923862056798008813]; exact wholeQ1 w os
theorem whole2 (w : World) (os : OsState) : (topRunT treeTable PySem.Challenge.pw_sa0030_01 w 11 (some (.ref 6)) 5924 (sT w.params os) (topStub PySem.Challenge.pw_sa0030_01)).map (fun s => openSeen view [] (importedModules PySem.Challenge.pw_sa0030_01.main.body) XtM true s.abs) = some (openGood view []) := by
 rw [run_eq, Fast.te5923862056798008813, Fast.te4187177175401517315]; exact wholeQ2 w os
end Mine
set_option maxHeartbeats 200000
namespace Mine
open PySem PySem.W PyProof.Rows
inductive Kd where
 | I | S | N | T
 deriving DecidableEq
inductive V where
 | none | bool (b : Bool) | int (i : Int) | str (s : Str) | ref (a : Addr) | typ (n : String) | blt (id : String)
 | tup (vs : List V) | lst (vs : List V)
 | dct (k : Kd) (es : List (V × V))
 | sI (xs : List Int) | sS (xs : List Str)
 | inst (C d : Addr)
noncomputable abbrev Store := Addr -> Option V
set_option genInjectivity false in
set_option genSizeOf false in
structure Cx where
 prog : Program
 w : World
 K : Frag
 h₀ : Heap
 os₀ : OsState
 mg : Str -> Option Value
 mb : Str -> Option Value
 X : K.In h₀
 g : h₀.Ns mainGlobals mg
 b : h₀.Ns builtinsNs mb
 bb : ∀ x : Str, x ≠ "__name__" -> mb x = bootBuiltins x
 lim : h₀.NoLimit
 sysm : (h₀.get? sysModules).isSome = true
mutual
noncomputable def hashV (w : World) : V -> Int
 | .int i => hashInt i
 | .str s => hashStr w s
 | .tup vs => reduceHash (Builtin.Tuple.tupleHashOf (hashVs w vs))
 | _ => 0
noncomputable def hashVs (w : World) : List V -> List Int
 | [] => []
 | v :: vs => hashV w v :: hashVs w vs
end
inductive Tree where
 | node (op : Str) (kids : List Tree)
mutual
noncomputable def Tree.v : Tree -> V
 | .node op kids => .tup (.str op :: Tree.vs kids)
noncomputable def Tree.vs : List Tree -> List V
 | [] => []
 | t :: r => Tree.v t :: Tree.vs r
end
noncomputable def treeV : Nat -> V -> Prop
 | n + 1, .tup (.str _ :: vs) => ∀ v ∈ vs, treeV n v
 | _, _ => False
noncomputable def keyOk : Kd -> V -> Prop
 | .I, k => ∃ i, k = .int i
 | .S, k => ∃ s, k = .str s
 | .N, k => ∃ (s : Str) (is : List Int), k = .tup (.str s :: is.map .int)
 | .T, k => treeV 7 k
structure TabOk (led : Bool) (n : Nat) (t : SetTable) : Prop where
 led : t.led = led
 mask : 7 <= t.mask
 dum : t.dummies = #[]
 size : t.place.size = n
 rise : ∀ p q, t.place = #[p, q] -> p < q
noncomputable def Set2 {prog : Program} {w : World} {K : Type} [DecidableEq K] (knd : KeyKind prog w K) (led : Bool) (o : Obj) (ks : List K) : Prop :=
 ∃ es ep t, o = { cls := .type "set", dict := none, data := .set es ep t } /\ ElemsOf knd es.toList /\ TabOk led es.size t /\ es.size <= 2 /\ (∀ k, k ∈ ks ↔ ∃ e ∈ es.toList, knd.is k e.2 = true) /\ ks.Nodup /\ ks.length = es.size
noncomputable def ledOf (w : World) : Bool := !w.params.followText "set-order"
section
variable (Γ : Cx) (D : Addr -> Prop) (h : Heap)
mutual
inductive VRel : V -> Value -> Prop
 | none : VRel .none .none
 | bool (b : Bool) : VRel (.bool b) (.bool b)
 | int (i : Int) (t : Tok) : VRel (.int i) (.int i t)
 | str (s : Str) (t : Tok) : VRel (.str s) (.str s t)
 | ref (a : Addr) : VRel (.ref a) (.ref a)
 | typ (n : String) : VRel (.typ n) (.type n)
 | blt (i : String) : VRel (.blt i) (.builtin i)
 | at {v : V} {a : Addr} : ¬ D a -> ORel v a -> VRel v (.ref a)
inductive ORel : V -> Addr -> Prop
 | tup {vs : List V} {a : Addr} {arr : Array Value} : h.IsTuple a arr -> VsRel vs arr.toList -> ORel (.tup vs) a
 | lst {vs : List V} {a : Addr} {arr : Array Value} {n : Nat} : h.get? a = some (seqObj "list" arr n) -> VsRel vs arr.toList -> ORel (.lst vs) a
 | dct {k : Kd} {es : List (V × V)} {a : Addr} {arr : Array DictEntry} {n : Nat} : h.get? a = some { cls := .type "dict", data := .dict arr n } -> (a == sysModules) = false ->
   DRel k es arr.toList -> (es.map (·.1)).Nodup -> ORel (.dct k es) a
 | sI {xs : List Int} {a : Addr} {o : Obj} : h.get? a = some o -> Set2 (intKind Γ.prog Γ.w) (ledOf Γ.w) o xs -> ORel (.sI xs) a
 | sS {xs : List Str} {a : Addr} {o : Obj} : h.get? a = some o -> Set2 (strKind Γ.prog Γ.w) (ledOf Γ.w) o xs -> ORel (.sS xs) a
 | inst {C d a : Addr} : h.get? a = some (instObj C d) -> ORel (.inst C d) a
inductive VsRel : List V -> List Value -> Prop
 | nil : VsRel [] []
 | cons {v : V} {x : Value} {vs : List V} {xs : List Value} : VRel v x -> VsRel vs xs -> VsRel (v :: vs) (x :: xs)
inductive DRel : Kd -> List (V × V) -> List DictEntry -> Prop
 | nil {k : Kd} : DRel k [] []
 | cons {f : Kd} {k v : V} {e : DictEntry} {es : List (V × V)} {r : List DictEntry} : keyOk f k -> e.hash = hashV Γ.w k -> VRel k e.key -> VRel v e.val -> DRel f es r -> DRel f ((k, v) :: es) (e :: r)
end
end
variable {Γ : Cx}
section
variable {D D' : Addr -> Prop} {h h' : Heap}
noncomputable def solid (o : Obj) : Bool := match o.data with
 | .seq .. | .dict .. | .set .. | .plain => true
 | _ => false
theorem Set2_solid {prog : Program} {w : World} {K : Type} [DecidableEq K] {knd : KeyKind prog w K} {led : Bool} {o : Obj} {ks : List K} (x : Set2 knd led o ks) : solid o = true := by
 obtain ⟨es, ep, t, rfl, _⟩ := x; rfl
theorem IsTuple_solid {a : Addr} {arr : Array Value} (x : h.IsTuple a arr) : ∃ o, h.get? a = some o /\ solid o = true :=
 let ⟨o, ho, _, _, hd⟩ := x; ⟨o, ho, by unfold solid; rw [hd]⟩
theorem IsTuple_keep {a : Addr} {arr : Array Value} (x : h.IsTuple a arr) (k : ∀ o, h.get? a = some o -> h'.get? a = some o) : h'.IsTuple a arr :=
 let ⟨o, ho, r⟩ := x; ⟨o, k _ ho, r⟩
theorem ORel.sol {v : V} {a : Addr} (x : ORel Γ D h v a) : ∃ o, h.get? a = some o /\ solid o = true := by
 cases x with
 | tup e _ => exact IsTuple_solid e
 | lst e _ => exact ⟨_, e, rfl⟩
 | dct e _ _ _ => exact ⟨_, e, rfl⟩
 | sI e x => exact ⟨_, e, Set2_solid x⟩
 | sS e x => exact ⟨_, e, Set2_solid x⟩
 | inst e => exact ⟨_, e, rfl⟩
theorem ORel.ex {v : V} {a : Addr} (x : ORel Γ D h v a) : ∃ o, h.get? a = some o := by
 cases x with
 | tup e _ => obtain ⟨o, ho, _⟩ := e; exact ⟨o, ho⟩
 | lst e _ => exact ⟨_, e⟩
 | dct e _ _ _ => exact ⟨_, e⟩
 | sI e _ => exact ⟨_, e⟩
 | sS e _ => exact ⟨_, e⟩
 | inst e => exact ⟨_, e⟩
theorem VsRel.ind {P : List V -> List Value -> Prop} (h0 : P [] []) (h1 : ∀ v x vs xs, VRel Γ D h v x -> VsRel Γ D h vs xs -> P vs xs -> P (v :: vs) (x :: xs)) {vs : List V} : ∀ {xs : List Value}, VsRel Γ D h vs xs -> P vs xs := by
 induction vs with
 | nil => intro xs x; cases x; exact h0
 | cons v vs ih => intro xs x; cases x with | cons a r => exact h1 _ _ _ _ a r (ih r)
theorem VsRel.cons_inv {v : V} {vs : List V} {xs : List Value} (x : VsRel Γ D h (v :: vs) xs) : ∃ y ys, xs = y :: ys /\ VRel Γ D h v y /\ VsRel Γ D h vs ys := by
 cases x with | cons a r => exact ⟨_, _, rfl, a, r⟩
theorem VsRel.nil_inv {xs : List Value} (x : VsRel Γ D h [] xs) : xs = [] := by cases x; rfl
theorem DRel.ind {f : Kd} {P : List (V × V) -> List DictEntry -> Prop} (h0 : P [] []) (h1 : ∀ k v e es r, keyOk f k -> e.hash = hashV Γ.w k -> VRel Γ D h k e.key -> VRel Γ D h v e.val -> DRel Γ D h f es r -> P es r -> P ((k, v) :: es) (e :: r)) {es : List (V × V)} :
  ∀ {r : List DictEntry}, DRel Γ D h f es r -> P es r := by
 induction es with
 | nil => intro xs x; cases x; exact h0
 | cons p es ih => intro xs x; cases x with | cons o e a b r => exact h1 _ _ _ _ _ o e a b r (ih r)
theorem ORel.mono2 (k : ∀ b o, ¬ D b -> solid o = true -> h.get? b = some o -> h'.get? b = some o) (d : ∀ b o, ¬ D b -> solid o = true -> h.get? b = some o -> ¬ D' b) {v : V} {a : Addr} (ka : ∀ o, h.get? a = some o -> h'.get? a = some o) (x : ORel Γ D h v a) : ORel Γ D' h' v a :=
 @ORel.rec Γ D h (fun v x _ => VRel Γ D' h' v x) (fun v a _ => (∀ o, h.get? a = some o -> h'.get? a = some o) -> ORel Γ D' h' v a) (fun vs xs _ => VsRel Γ D' h' vs xs) (fun f es xs _ => DRel Γ D' h' f es xs)
  .none .bool .int .str .ref .typ .blt
  (fun hd o ih => let ⟨_, ho, hs⟩ := o.sol; .at (d _ _ hd hs ho) (ih fun o' e => k _ _ hd (by rw [ho] at e; cases e; exact hs) e))
  (fun e _ ih ka => .tup (IsTuple_keep e ka) ih) (fun e _ ih ka => .lst (ka _ e) ih) (fun e s _ n ih ka => .dct (ka _ e) s ih n) (fun e x ka => .sI (ka _ e) x) (fun e x ka => .sS (ka _ e) x) (fun e ka => .inst (ka _ e))
  .nil (fun _ _ a r => .cons a r) .nil (fun o e _ _ _ a b r => .cons o e a b r) v a x ka
theorem VRel.mono2 (k : ∀ b o, ¬ D b -> solid o = true -> h.get? b = some o -> h'.get? b = some o) (d : ∀ b o, ¬ D b -> solid o = true -> h.get? b = some o -> ¬ D' b) {v : V} {x : Value} (y : VRel Γ D h v x) : VRel Γ D' h' v x := by
 cases y with
 | none => exact .none
 | bool b => exact .bool b
 | int i t => exact .int i t
 | str s t => exact .str s t
 | ref a => exact .ref a
 | typ n => exact .typ n
 | blt i => exact .blt i
 | «at» hd o =>
  obtain ⟨ob, ho, hs⟩ := o.sol
  exact .at (d _ _ hd hs ho) (ORel.mono2 k d (fun o' e => k _ _ hd (by rw [ho] at e; cases e; exact hs) e) o)
theorem VsRel.mono2 (k : ∀ b o, ¬ D b -> solid o = true -> h.get? b = some o -> h'.get? b = some o) (d : ∀ b o, ¬ D b -> solid o = true -> h.get? b = some o -> ¬ D' b) {vs : List V} {xs : List Value} (x : VsRel Γ D h vs xs) : VsRel Γ D' h' vs xs :=
 VsRel.ind (P := VsRel Γ D' h') .nil (fun _ _ _ _ a _ r => .cons (a.mono2 k d) r) x
theorem DRel.mono2 (k : ∀ b o, ¬ D b -> solid o = true -> h.get? b = some o -> h'.get? b = some o) (d : ∀ b o, ¬ D b -> solid o = true -> h.get? b = some o -> ¬ D' b) {f : Kd} {es : List (V × V)} {xs : List DictEntry} (x : DRel Γ D h f es xs) : DRel Γ D' h' f es xs :=
 DRel.ind (P := DRel Γ D' h' f) .nil (fun _ _ _ _ _ o e a b _ r => .cons o e (a.mono2 k d) (b.mono2 k d) r) x
theorem VRel.mono (k : ∀ b o, ¬ D b -> solid o = true -> h.get? b = some o -> h'.get? b = some o) (d : ∀ b o, ¬ D b -> h.get? b = some o -> ¬ D' b) {v : V} {x : Value} (r : VRel Γ D h v x) : VRel Γ D' h' v x :=
 r.mono2 k fun b o n _ e => d b o n e
theorem ORel.mono (k : ∀ b o, ¬ D b -> solid o = true -> h.get? b = some o -> h'.get? b = some o) (d : ∀ b o, ¬ D b -> h.get? b = some o -> ¬ D' b) {v : V} {a : Addr} (ka : ∀ o, h.get? a = some o -> h'.get? a = some o) (r : ORel Γ D h v a) :
  ORel Γ D' h' v a := ORel.mono2 k (fun b o n _ e => d b o n e) ka r
theorem VsRel.mono (k : ∀ b o, ¬ D b -> solid o = true -> h.get? b = some o -> h'.get? b = some o) (d : ∀ b o, ¬ D b -> h.get? b = some o -> ¬ D' b) {v : List V} {x : List Value} (r : VsRel Γ D h v x) : VsRel Γ D' h' v x :=
 r.mono2 k fun b o n _ e => d b o n e
theorem DRel.mono (k : ∀ b o, ¬ D b -> solid o = true -> h.get? b = some o -> h'.get? b = some o) (d : ∀ b o, ¬ D b -> h.get? b = some o -> ¬ D' b) {f : Kd} {es : List (V × V)} {x : List DictEntry} (r : DRel Γ D h f es x) : DRel Γ D' h' f es x :=
 r.mono2 k fun b o n _ e => d b o n e
theorem VsRel.append {vs us : List V} {xs ys : List Value} (x : VsRel Γ D h vs xs) (y : VsRel Γ D h us ys) : VsRel Γ D h (vs ++ us) (xs ++ ys) :=
 VsRel.ind (P := fun vs xs => VsRel Γ D h (vs ++ us) (xs ++ ys)) y (fun _ _ _ _ a _ r => .cons a r) x
theorem VsRel.reverse {vs : List V} {xs : List Value} (x : VsRel Γ D h vs xs) : VsRel Γ D h vs.reverse xs.reverse :=
 VsRel.ind (P := fun vs xs => VsRel Γ D h vs.reverse xs.reverse) .nil (fun _ _ _ _ a _ r => by rw [List.reverse_cons, List.reverse_cons]; exact r.append (.cons a .nil)) x
theorem VsRel.length {vs : List V} {xs : List Value} (x : VsRel Γ D h vs xs) : vs.length = xs.length :=
 VsRel.ind (P := fun vs xs => vs.length = xs.length) rfl (fun _ _ _ _ _ _ r => congrArg (· + 1) r) x
theorem VsRel.get {vs : List V} {xs : List Value} (x : VsRel Γ D h vs xs) {i : Nat} {v : V} (e : vs[i]? = some v) : ∃ y, xs[i]? = some y /\ VRel Γ D h v y :=
 VsRel.ind (P := fun vs xs => ∀ i, vs[i]? = some v -> ∃ y, xs[i]? = some y /\ VRel Γ D h v y) (fun _ e => by cases e)
  (fun u x vs xs a _ ih i e => by
   cases i with
   | zero => cases e; exact ⟨_, rfl, a⟩
   | succ i => exact ih i e) x i e
theorem VsRel.split {vs us : List V} {xs : List Value} (x : VsRel Γ D h (vs ++ us) xs) : ∃ ys zs, xs = ys ++ zs /\ VsRel Γ D h vs ys /\ VsRel Γ D h us zs := by
 induction vs generalizing xs with
 | nil => exact ⟨[], xs, rfl, .nil, x⟩
 | cons v vs ih =>
  obtain ⟨y, ys, rfl, a, r⟩ := x.cons_inv
  obtain ⟨ys, zs, rfl, p, q⟩ := ih r
  exact ⟨y :: ys, zs, rfl, .cons a p, q⟩
theorem VsRel.drop {vs : List V} {xs : List Value} (x : VsRel Γ D h vs xs) (n : Nat) : VsRel Γ D h (vs.drop n) (xs.drop n) :=
 VsRel.ind (P := fun vs xs => ∀ n, VsRel Γ D h (vs.drop n) (xs.drop n)) (fun n => by rw [List.drop_nil, List.drop_nil]; exact .nil)
  (fun _ _ _ _ a r ih n => by
   cases n with
   | zero => exact .cons a r
   | succ n => exact ih n) x n
theorem VsRel.take {vs : List V} {xs : List Value} (x : VsRel Γ D h vs xs) (n : Nat) : VsRel Γ D h (vs.take n) (xs.take n) :=
 VsRel.ind (P := fun vs xs => ∀ n, VsRel Γ D h (vs.take n) (xs.take n)) (fun n => by rw [List.take_nil, List.take_nil]; exact .nil)
  (fun _ _ _ _ a r ih n => by
   cases n with
   | zero => exact .nil
   | succ n => exact .cons a (ih n)) x n
theorem VsRel.set {vs : List V} {xs : List Value} {v : V} {y : Value} (x : VsRel Γ D h vs xs) (b : VRel Γ D h v y) (i : Nat) : VsRel Γ D h (vs.set i v) (xs.set i y) :=
 VsRel.ind (P := fun vs xs => ∀ i, VsRel Γ D h (vs.set i v) (xs.set i y)) (fun _ => .nil)
  (fun _ _ _ _ a r ih i => by
   cases i with
   | zero => exact .cons b r
   | succ i => exact .cons a (ih i)) x i
end
noncomputable def DD (σ : Store) (F : Addr -> Prop) : Addr -> Prop := fun a => σ a ≠ none \/ F a
noncomputable def put (σ : Store) (a : Addr) (v : V) : Store := fun b => if b = a then some v else σ b
theorem put_self (σ : Store) (a : Addr) (v : V) : put σ a v a = some v := if_pos rfl
theorem put_ne (σ : Store) {a b : Addr} (v : V) (e : b ≠ a) : put σ a v b = σ b := if_neg e
structure St (Γ : Cx) (F : Addr -> Prop) (σ : Store) (s : Shared) : Prop where
 base : ∀ b o, Γ.h₀.get? b = some o -> s.heap.get? b = some o
 rep : ∀ a v, σ a = some v -> ORel Γ (DD σ F) s.heap v a
 new : ∀ a, σ a ≠ none -> Γ.h₀.get? a = none
 fin : ∀ a, F a -> ∃ o, s.heap.get? a = some o
 off : ∀ a, F a -> σ a = none
 low : ∀ a, F a -> Γ.h₀.get? a = none
 gens : s.gens = #[]
 os : s.os = Γ.os₀
structure Trans (σ : Store) (s : Shared) (σ' : Store) (s' : Shared) : Prop where
 keep : ∀ b o, s.heap.get? b = some o -> σ b = none -> s'.heap.get? b = some o
 fresh : ∀ b, σ' b ≠ none -> σ b ≠ none \/ s.heap.get? b = none
theorem Trans.refl (σ : Store) (s : Shared) : Trans σ s σ s := ⟨fun _ _ e _ => e, fun _ e => .inl e⟩
theorem Trans.trans {σ σ₁ σ₂ : Store} {s s₁ s₂ : Shared} (x : Trans σ s σ₁ s₁) (y : Trans σ₁ s₁ σ₂ s₂) : Trans σ s σ₂ s₂ where
 keep b o e n := y.keep b o (x.keep b o e n) (by
  cases q : σ₁ b with
  | none => rfl
  | some v =>
   rcases x.fresh b (by rw [q]; exact fun e => nomatch e) with e' | e'
   ·exact absurd n e'
   ·rw [e'] at e; cases e)
 fresh b e := by
  rcases y.fresh b e with e' | e'
  ·exact x.fresh b e'
  ·cases q : σ b with
   | some v => exact .inl (fun e => nomatch e)
   | none =>
    cases p : s.heap.get? b with
    | none => exact .inr rfl
    | some o => rw [x.keep b o p q] at e'; cases e'
theorem VRel.trans {F : Addr -> Prop} {σ σ' : Store} {s s' : Shared} {v : V} {x : Value} (T : Trans σ s σ' s') (r : VRel Γ (DD σ F) s.heap v x) : VRel Γ (DD σ' F) s'.heap v x :=
 r.mono (fun b o nd _ e => T.keep b o e (by unfold DD at nd; cases q : σ b with | none => rfl | some v => exact absurd (.inl (by rw [q]; exact fun e => nomatch e)) nd))
  fun b o nd e => by
   unfold DD at *
   rintro (q | q)
   ·rcases T.fresh b q with e' | e'
    ·exact nd (.inl e')
    ·rw [e'] at e; cases e
   ·exact nd (.inr q)
theorem VsRel.trans {F : Addr -> Prop} {σ σ' : Store} {s s' : Shared} {vs : List V} {xs : List Value} (T : Trans σ s σ' s') (r : VsRel Γ (DD σ F) s.heap vs xs) : VsRel Γ (DD σ' F) s'.heap vs xs := by
 induction vs generalizing xs with
 | nil => cases r; exact .nil
 | cons v vs ih => cases r with | cons a r => exact .cons (a.trans T) (ih r)
noncomputable def Le (σ σ' : Store) : Prop := ∀ a v, σ a = some v -> σ' a = some v
theorem Le.refl (σ : Store) : Le σ σ := fun _ _ e => e
theorem Le.trans {σ σ' σ'' : Store} (x : Le σ σ') (y : Le σ' σ'') : Le σ σ'' := fun a v e => y a v (x a v e)
theorem Le.dom {σ σ' : Store} (x : Le σ σ') {F : Addr -> Prop} {b : Addr} (n : ¬ DD σ' F b) : ¬ DD σ F b := by
 unfold DD at *
 rintro (q | q)
 ·cases e : σ b with
  | none => exact q e
  | some v => exact n (.inl (by rw [x b v e]; exact fun e => nomatch e))
 ·exact n (.inr q)
theorem VRel.le {F : Addr -> Prop} {σ σ' : Store} {h : Heap} {v : V} {x : Value} (L : Le σ σ') (r : VRel Γ (DD σ' F) h v x) : VRel Γ (DD σ F) h v x :=
 r.mono (fun _ _ _ _ e => e) fun _ _ n _ => L.dom n
theorem St.le {F : Addr -> Prop} {σ σ' : Store} {s : Shared} (L : Le σ σ') (x : St Γ F σ' s) : St Γ F σ s where
 base := x.base
 rep a v e := (x.rep a v (L a v e)).mono (fun _ _ _ _ e => e) (fun _ _ n _ => L.dom n) fun _ e => e
 new a e := x.new a (by cases q : σ a with | none => exact absurd q e | some v => rw [L a v q]; exact fun e => nomatch e)
 fin := x.fin
 off a f := by
  cases q : σ a with
  | none => rfl
  | some v => have := L _ _ q; rw [x.off a f] at this; cases this
 low := x.low
 gens := x.gens
 os := x.os
theorem Trans.le {σ σ' σ'' : Store} {s s' : Shared} (L : Le σ'' σ') (T : Trans σ s σ' s') : Trans σ s σ'' s' :=
 ⟨T.keep, fun b e => T.fresh b (by cases q : σ'' b with | none => exact absurd q e | some v => rw [L b v q]; exact fun e => nomatch e)⟩
theorem St.grow {F : Addr -> Prop} {σ : Store} {s s' : Shared} (x : St Γ F σ s) (k : ∀ b o, s.heap.get? b = some o -> s'.heap.get? b = some o) (g : s'.gens = s.gens) (os : s'.os = s.os) : St Γ F σ s' where
 base b o e := k b o (x.base b o e)
 rep a v e := (x.rep a v e).mono (fun b o _ _ e => k b o e) (fun _ _ n _ => n) fun _ e => k _ _ e
 new := x.new
 fin a f := let ⟨o, e⟩ := x.fin a f; ⟨o, k a o e⟩
 off := x.off
 low := x.low
 gens := g.trans x.gens
 os := os.trans x.os
theorem Trans.grow {σ : Store} {s s' : Shared} (k : ∀ b o, s.heap.get? b = some o -> s'.heap.get? b = some o) : Trans σ s σ s' :=
 ⟨fun b o e _ => k b o e, fun _ e => .inl e⟩
theorem St.upd {F : Addr -> Prop} {σ : Store} {s s' : Shared} {a : Addr} {v : V} (x : St Γ F σ s) (ha : σ a ≠ none) (hs : Heap.SameBut a s.heap s'.heap)
  (r : ORel Γ (DD σ F) s'.heap v a) (g : s'.gens = s.gens) (os : s'.os = s.os) : St Γ F (put σ a v) s' where
 base b o e := by
  have : b ≠ a := fun q => by subst q; rw [x.new b ha] at e; cases e
  exact (hs.2 b this).trans (x.base b o e)
 rep b u e := by
  have dom : ∀ c, ¬ DD σ F c -> ¬ DD (put σ a v) F c := fun c n q => n (by
   unfold DD put at *
   by_cases e : c = a
   ·subst e; exact .inl ha
   ·rw [if_neg e] at q; exact q)
  unfold put at e
  by_cases q : b = a
  ·subst q
   rw [if_pos rfl] at e; cases e
   exact r.mono (fun _ _ _ _ e => e) (fun _ _ n _ => dom _ n) fun _ e => e
  ·rw [if_neg q] at e
   refine (x.rep b u e).mono (fun c o n _ e => ?_) (fun _ _ n _ => dom _ n) fun o e => (hs.2 b q).trans e
   have : c ≠ a := fun q => by subst q; exact n (.inl ha)
   exact (hs.2 c this).trans e
 new b e := by
  unfold put at e
  by_cases q : b = a
  ·subst q; exact x.new b ha
  ·rw [if_neg q] at e; exact x.new b e
 fin b f := by
  obtain ⟨o, e⟩ := x.fin b f
  by_cases q : b = a
  ·subst q; exact r.ex
  ·exact ⟨o, (hs.2 b q).trans e⟩
 off b f := by
  unfold put
  rw [if_neg (fun q => by subst q; exact ha (x.off _ f))]; exact x.off b f
 low := x.low
 gens := g.trans x.gens
 os := os.trans x.os
theorem Trans.upd {σ : Store} {s s' : Shared} {a : Addr} {v : V} (ha : σ a ≠ none) (hs : Heap.SameBut a s.heap s'.heap) : Trans σ s (put σ a v) s' where
 keep b o e n := (hs.2 b (fun q => by subst q; exact ha n)).trans e
 fresh b e := by
  unfold put at e
  by_cases q : b = a
  ·subst q; exact .inl ha
  ·rw [if_neg q] at e; exact .inl e
theorem VRel.alloc {F : Addr -> Prop} {σ : Store} {s s' : Shared} {a : Addr} {v u : V} {x : Value} (ha : s.heap.get? a = Option.none) (k : ∀ b o, s.heap.get? b = some o -> s'.heap.get? b = some o)
  (r : VRel Γ (DD σ F) s.heap u x) : VRel Γ (DD (put σ a v) F) s'.heap u x :=
 r.mono (fun _ _ _ _ e => k _ _ e) fun c o n e' q => n (by
  have : c ≠ a := fun e => by subst e; rw [ha] at e'; cases e'
  unfold DD put at *
  rw [if_neg this] at q; exact q)
theorem VsRel.alloc {F : Addr -> Prop} {σ : Store} {s s' : Shared} {a : Addr} {v : V} {us : List V} {xs : List Value} (ha : s.heap.get? a = Option.none) (k : ∀ b o, s.heap.get? b = some o -> s'.heap.get? b = some o)
  (r : VsRel Γ (DD σ F) s.heap us xs) : VsRel Γ (DD (put σ a v) F) s'.heap us xs := by
 induction us generalizing xs with
 | nil => cases r; exact .nil
 | cons v vs ih => cases r with | cons b r => exact .cons (b.alloc ha k) (ih r)
theorem St.alloc {F : Addr -> Prop} {σ : Store} {s s' : Shared} {a : Addr} {v : V} (x : St Γ F σ s) (ha : s.heap.get? a = Option.none) (k : ∀ b o, s.heap.get? b = some o -> s'.heap.get? b = some o)
  (r : ORel Γ (DD (put σ a v) F) s'.heap v a) (g : s'.gens = s.gens) (os : s'.os = s.os) : St Γ F (put σ a v) s' where
 base b o e := k _ _ (x.base b o e)
 rep b u e := by
  have dom : ∀ c o, ¬ DD σ F c -> s.heap.get? c = some o -> ¬ DD (put σ a v) F c := fun c o n e' q => n (by
   have : c ≠ a := fun e => by subst e; rw [ha] at e'; cases e'
   unfold DD put at *
   rw [if_neg this] at q; exact q)
  unfold put at e
  by_cases q : b = a
  ·subst q
   rw [if_pos rfl] at e; cases e
   exact r
  ·rw [if_neg q] at e
   exact (x.rep b u e).mono (fun c o _ _ e => k c o e) dom fun _ e => k _ _ e
 new b e := by
  unfold put at e
  by_cases q : b = a
  ·subst q
   cases e' : Γ.h₀.get? b with
   | none => rfl
   | some o => rw [x.base _ _ e'] at ha; cases ha
  ·rw [if_neg q] at e; exact x.new b e
 fin b f := by obtain ⟨o, e⟩ := x.fin b f; exact ⟨o, k _ _ e⟩
 off b f := by
  unfold put
  rw [if_neg (fun q => by subst q; obtain ⟨o, e⟩ := x.fin _ f; rw [ha] at e; cases e)]; exact x.off b f
 low := x.low
 gens := g.trans x.gens
 os := os.trans x.os
theorem Trans.alloc {σ : Store} {s s' : Shared} {a : Addr} {v : V} (ha : s.heap.get? a = Option.none) (k : ∀ b o, s.heap.get? b = some o -> s'.heap.get? b = some o) :
  Trans σ s (put σ a v) s' where
 keep b o e _ := k b o e
 fresh b e := by
  unfold put at e
  by_cases q : b = a
  ·subst q; exact .inr ha
  ·rw [if_neg q] at e; exact .inl e
noncomputable def del (σ : Store) (a : Addr) : Store := fun b => if b = a then none else σ b
theorem del_le (σ : Store) (a : Addr) : Le (del σ a) σ := fun b v e => by
 unfold del at e
 by_cases q : b = a
 ·rw [if_pos q] at e; cases e
 ·rw [if_neg q] at e; exact e
theorem get_size (h : Heap) : h.get? h.objs.size = none := by
 cases e : h.get? h.objs.size with
 | none => rfl
 | some o => exact absurd (Heap.lt_size e) (Nat.lt_irrefl _)
theorem St.frozen {F : Addr -> Prop} {σ : Store} {s : Shared} {a : Addr} {v : V} (x : St Γ F σ s) (e : σ a = some v) (f : ¬ F a) : VRel Γ (DD (del σ a) F) s.heap v (.ref a) := by
 refine .at ?_ ((x.rep a v e).mono (fun _ _ _ _ e => e) (fun _ _ n _ => (del_le σ a).dom n) fun _ e => e)
 unfold DD del
 rintro (q | q)
 ·rw [if_pos rfl] at q; exact q rfl
 ·exact f q
noncomputable def prot (F : Addr -> Prop) (a : Addr) : Addr -> Prop := fun b => F b \/ b = a
theorem dd_prot {σ : Store} {F : Addr -> Prop} {a b : Addr} (n : ¬ DD σ (prot F a) b) : ¬ DD σ F b := by
 unfold DD prot at *
 rintro (q | q)
 ·exact n (.inl q)
 ·exact n (.inr (.inl q))
theorem prot_dd {σ : Store} {F : Addr -> Prop} {h : Heap} {a b : Addr} {o : Obj} (ha : h.get? a = Option.none) (n : ¬ DD σ F b) (e : h.get? b = some o) : ¬ DD σ (prot F a) b := by
 unfold DD prot at *
 rintro (q | q | q)
 ·exact n (.inl q)
 ·exact n (.inr q)
 ·subst q; rw [ha] at e; cases e
theorem VRel.prot {F : Addr -> Prop} {σ : Store} {s s' : Shared} {a : Addr} {v : V} {x : Value} (ha : s.heap.get? a = Option.none) (k : ∀ b o, s.heap.get? b = some o -> s'.heap.get? b = some o)
  (r : VRel Γ (DD σ F) s.heap v x) : VRel Γ (DD σ (prot F a)) s'.heap v x :=
 r.mono (fun _ _ _ _ e => k _ _ e) fun _ _ n e => prot_dd ha n e
theorem VRel.unprot {F : Addr -> Prop} {σ : Store} {h : Heap} {a : Addr} {v : V} {x : Value} (r : VRel Γ (DD σ (Mine.prot F a)) h v x) : VRel Γ (DD σ F) h v x :=
 r.mono (fun _ _ _ _ e => e) fun _ _ n _ => dd_prot n
theorem St.prot {F : Addr -> Prop} {σ : Store} {s s' : Shared} {a : Addr} (x : St Γ F σ s) (ha : s.heap.get? a = Option.none) (k : ∀ b o, s.heap.get? b = some o -> s'.heap.get? b = some o)
  (he : ∃ o, s'.heap.get? a = some o) (g : s'.gens = s.gens) (os : s'.os = s.os) : St Γ (prot F a) σ s' where
 base b o e := k _ _ (x.base b o e)
 rep b u e := (x.rep b u e).mono (fun c o _ _ e => k c o e) (fun _ _ n e => prot_dd ha n e) fun _ e => k _ _ e
 new := x.new
 fin b f := by
  rcases f with f | rfl
  ·obtain ⟨o, e⟩ := x.fin b f; exact ⟨o, k _ _ e⟩
  ·exact he
 off b f := by
  rcases f with f | rfl
  ·exact x.off b f
  ·cases q : σ b with
   | none => rfl
   | some v => obtain ⟨o, e⟩ := (x.rep _ _ q).ex; rw [ha] at e; cases e
 low b f := by
  rcases f with f | rfl
  ·exact x.low b f
  ·cases q : Γ.h₀.get? b with
   | none => rfl
   | some o => rw [x.base _ _ q] at ha; cases ha
 gens := g.trans x.gens
 os := os.trans x.os
theorem St.unprot {F : Addr -> Prop} {σ : Store} {s : Shared} {a : Addr} (x : St Γ (Mine.prot F a) σ s) : St Γ F σ s where
 base := x.base
 rep b u e := (x.rep b u e).mono (fun _ _ _ _ e => e) (fun _ _ n _ => dd_prot n) fun _ e => e
 new := x.new
 fin b f := x.fin b (.inl f)
 off b f := x.off b (.inl f)
 low b f := x.low b (.inl f)
 gens := x.gens
 os := x.os
theorem St.apart {F : Addr -> Prop} {σ : Store} {s s' : Shared} {a : Addr} (x : St Γ F σ s) (ha : F a) (n : σ a = none) (h0 : Γ.h₀.get? a = none) (hs : Heap.SameBut a s.heap s'.heap)
  (he : ∃ o, s'.heap.get? a = some o) (g : s'.gens = s.gens) (os : s'.os = s.os) : St Γ F σ s' where
 base b o e := (hs.2 b (fun q => by subst q; rw [h0] at e; cases e)).trans (x.base b o e)
 rep b u e := (x.rep b u e).mono (fun c o m _ e => (hs.2 c (fun q => by subst q; exact m (.inr ha))).trans e) (fun _ _ n _ => n)
  fun o e' => (hs.2 b (fun q => by subst q; rw [n] at e; cases e)).trans e'
 new := x.new
 fin b f := by
  by_cases q : b = a
  ·subst q; exact he
  ·obtain ⟨o, e⟩ := x.fin b f; exact ⟨o, (hs.2 b q).trans e⟩
 off := x.off
 low := x.low
 gens := g.trans x.gens
 os := os.trans x.os
theorem VRel.apart {F : Addr -> Prop} {σ : Store} {h h' : Heap} {a : Addr} {v : V} {x : Value} (ha : F a) (hs : Heap.SameBut a h h') (r : VRel Γ (DD σ F) h v x) : VRel Γ (DD σ F) h' v x :=
 r.mono (fun c o m _ e => (hs.2 c (fun q => by subst q; exact m (.inr ha))).trans e) fun _ _ n _ => n
theorem VRel.hollow {F : Addr -> Prop} {σ : Store} {h h' : Heap} {a : Addr} {o : Obj} {v : V} {x : Value} (ha : h.get? a = some o) (ho : solid o = false) (hs : Heap.ExtBut a h h') (r : VRel Γ (DD σ F) h v x) :
  VRel Γ (DD σ F) h' v x :=
 r.mono (fun c o' _ so e => hs c _ (fun q => by subst q; rw [ha] at e; cases e; rw [ho] at so; cases so) e) fun _ _ n _ => n
theorem St.hollow {F : Addr -> Prop} {σ : Store} {s s' : Shared} {a : Addr} {o : Obj} (x : St Γ F σ s) (ha : s.heap.get? a = some o) (ho : solid o = false) (h0 : Γ.h₀.get? a = none) (hs : Heap.ExtBut a s.heap s'.heap)
  (he : F a -> ∃ o, s'.heap.get? a = some o) (g : s'.gens = s.gens) (os : s'.os = s.os) : St Γ F σ s' where
 base b o e := hs b o (fun q => by subst q; rw [h0] at e; cases e) (x.base b o e)
 rep b u e := (x.rep b u e).mono (fun c o' m so e => hs c _ (fun q => by subst q; rw [ha] at e; cases e; rw [ho] at so; cases so) e) (fun _ _ n _ => n)
  fun o' e' => hs b _ (fun q => by
   subst q
   obtain ⟨o'', h1, h2⟩ := (x.rep b u e).sol
   rw [ha] at h1; cases h1; rw [ho] at h2; cases h2) e'
 new := x.new
 fin b f := by
  by_cases q : b = a
  ·subst q; exact he f
  ·obtain ⟨o, e⟩ := x.fin b f; exact ⟨o, hs b o q e⟩
 off := x.off
 low := x.low
 gens := g.trans x.gens
 os := os.trans x.os
end Mine
namespace Mine
open PySem PySem.W PyProof.Rows
variable {Γ : Cx}
noncomputable abbrev Vars := List (Str × V)
noncomputable def Own (env : Env) (b : Addr) : Prop := b = env.locals \/ ∃ x, env.cells.lookup x = some b
structure FrameRel (Γ : Cx) (F : Addr -> Prop) (σ : Store) (h : Heap) (env : Env) (ρ : Vars) : Prop where
 kind : env.scope.kind = .function
 globals : env.globals = mainGlobals
 builtins : env.builtins = builtinsNs
 prot : F env.locals /\ σ env.locals = none /\ Γ.h₀.get? env.locals = none
 ns : ∃ m, h.Ns env.locals m /\ ∀ x v, ρ.lookup x = some v -> env.kindOf x = some .local -> ∃ val, m x = some val /\ VRel Γ (DD σ F) h v val
 cell : ∀ x c, env.cells.lookup x = some c -> σ c = none /\ Γ.h₀.get? c = none /\ c ≠ env.locals /\ ∃ val, h.IsCell c val /\ (∀ v, ρ.lookup x = some v -> ∃ u, val = some u /\ VRel Γ (DD σ F) h v u)
 apart : env.cells.Pairwise fun x y => x.2 ≠ y.2
 has : ∀ x, env.kindOf x = some .cell \/ env.kindOf x = some .free -> ∃ c, env.cells.lookup x = some c
 cellk : ∀ x c, env.cells.lookup x = some c -> env.kindOf x ≠ some .local
theorem Ns.get {h h' : Heap} {a : Addr} {m : Str -> Option Value} (n : h.Ns a m) (k : ∀ o, h.get? a = some o -> h'.get? a = some o) : h'.Ns a m :=
 let ⟨o, es, ep, ho, r⟩ := n; ⟨o, es, ep, k _ ho, r⟩
theorem IsCell.get {h h' : Heap} {a : Addr} {v : Option Value} (n : h.IsCell a v) (k : ∀ o, h.get? a = some o -> h'.get? a = some o) : h'.IsCell a v :=
 let ⟨o, ho, r⟩ := n; ⟨o, k _ ho, r⟩
theorem FrameRel.trans {F : Addr -> Prop} {σ σ' : Store} {s s' : Shared} {env : Env} {ρ : Vars} (T : Trans σ s σ' s') (x : FrameRel Γ F σ s.heap env ρ) : FrameRel Γ F σ' s'.heap env ρ where
 kind := x.kind
 globals := x.globals
 builtins := x.builtins
 prot := by
  refine ⟨x.prot.1, ?_, x.prot.2.2⟩
  obtain ⟨m, n, _⟩ := x.ns
  cases q : σ' env.locals with
  | none => rfl
  | some v =>
   rcases T.fresh env.locals (by rw [q]; exact fun e => nomatch e) with e | e
   ·exact absurd x.prot.2.1 e
   ·obtain ⟨_, _, _, e', _⟩ := n
    rw [e] at e'; cases e'
 ns := by
  obtain ⟨m, n, r⟩ := x.ns
  exact ⟨m, Ns.get n fun o e => T.keep _ _ e x.prot.2.1, fun y v e k => let ⟨val, h1, h2⟩ := r y v e k; ⟨val, h1, h2.trans T⟩⟩
 cell y c hc := by
  obtain ⟨a, b, d, val, i, r⟩ := x.cell y c hc
  refine ⟨?_, b, d, val, IsCell.get i fun o e => T.keep _ _ e a, fun v e => let ⟨u, h1, h2⟩ := r v e; ⟨u, h1, h2.trans T⟩⟩
  cases q : σ' c with
  | none => rfl
  | some v =>
   rcases T.fresh c (by rw [q]; exact fun e => nomatch e) with e | e
   ·exact absurd a e
   ·obtain ⟨_, e', _⟩ := i
    rw [e] at e'; cases e'
 apart := x.apart
 has := x.has
 cellk := x.cellk
theorem FrameRel.vars {F : Addr -> Prop} {σ : Store} {h : Heap} {env : Env} {ρ ρ' : Vars} (L : ∀ x v, ρ'.lookup x = some v -> ρ.lookup x = some v) (x : FrameRel Γ F σ h env ρ) : FrameRel Γ F σ h env ρ' where
 kind := x.kind
 globals := x.globals
 builtins := x.builtins
 prot := x.prot
 ns := by
  obtain ⟨m, n, r⟩ := x.ns
  exact ⟨m, n, fun y v e k => r y v (L _ _ e) k⟩
 cell y c hc := by
  obtain ⟨a, b, d, val, i, r⟩ := x.cell y c hc
  exact ⟨a, b, d, val, i, fun v e => r v (L _ _ e)⟩
 apart := x.apart
 has := x.has
 cellk := x.cellk
noncomputable def Room (n : Nat) (A : Around) : Prop := A.handled = none /\ A.depth + 4 * n <= 900 /\ A.units + 60 * n <= 9000
theorem Room.le {n m : Nat} {A : Around} (h : m <= n) (r : Room n A) : Room m A := ⟨r.1, by have := r.2.1; lia, by have := r.2.2; lia⟩
theorem cLine_eq : cLine = 9900 := rfl
theorem Room.units {n : Nat} {A : Around} (r : Room n A) : A.units < cLine := by rw [cLine_eq]; have := r.2.2; lia
theorem Room.units1 {n : Nat} {A : Around} (r : Room n A) : A.units + 500 < cLine := by rw [cLine_eq]; have := r.2.2; lia
theorem Room.depth {n : Nat} {A : Around} (r : Room n A) : A.depth < recursionLimit := by have := r.2.1; show A.depth < 1000; lia
noncomputable abbrev Md (Γ : Cx) : Model := model Γ.prog Γ.w
noncomputable def NoE : Value -> Shared -> Prop := fun _ _ => False
inductive Post (Γ : Cx) (F : Addr -> Prop) (σ : Store) (s : Shared) (Q : V -> Store -> Prop) (val : Value) (s' : Shared) : Prop
 | mk (v : V) (σ' : Store) (r : VRel Γ (DD σ' F) s'.heap v val) (S : St Γ F σ' s') (T : Trans σ s σ' s') (q : Q v σ') : Post Γ F σ s Q val s'
theorem Post.mono {F : Addr -> Prop} {σ : Store} {s : Shared} {Q Q' : V -> Store -> Prop} {val : Value} {s' : Shared} (h : ∀ v σ', Q v σ' -> Q' v σ') (p : Post Γ F σ s Q val s') : Post Γ F σ s Q' val s' :=
 let ⟨v, σ', a, b, c, d⟩ := p; ⟨v, σ', a, b, c, h _ _ d⟩
theorem Post.trans {F : Addr -> Prop} {σ σ₁ : Store} {s s₁ : Shared} {Q : V -> Store -> Prop} {val : Value} {s' : Shared} (T : Trans σ s σ₁ s₁) (p : Post Γ F σ₁ s₁ Q val s') : Post Γ F σ s Q val s' :=
 let ⟨v, σ', a, b, c, d⟩ := p; ⟨v, σ', a, b, T.trans c, d⟩
noncomputable def AEval (Γ : Cx) (n : Nat) (sc : Scope) (ρ : Vars) (e : Expr) (σ : Store) (Q : V -> Store -> Prop) : Prop :=
 ∀ A s F env, env.scope = sc -> Room n A -> FrameRel Γ F σ s.heap env ρ -> St Γ F σ s -> wpAny (Md Γ) A (eval e env) (Post Γ F σ s Q) NoE s
inductive PostB (Γ : Cx) (F : Addr -> Prop) (σ : Store) (s : Shared) (Q : Bool -> Store -> Prop) (b : Bool) (s' : Shared) : Prop
 | mk (σ' : Store) (S : St Γ F σ' s') (T : Trans σ s σ' s') (q : Q b σ') : PostB Γ F σ s Q b s'
noncomputable def ATest (Γ : Cx) (n : Nat) (sc : Scope) (ρ : Vars) (e : Expr) (σ : Store) (Q : Bool -> Store -> Prop) : Prop :=
 ∀ A s F env, env.scope = sc -> Room n A -> FrameRel Γ F σ s.heap env ρ -> St Γ F σ s -> wpAny (Md Γ) A (isTrue e env (eval e env)) (PostB Γ F σ s Q) NoE s
inductive PostL (Γ : Cx) (F : Addr -> Prop) (σ : Store) (s : Shared) (Q : List V -> Store -> Prop) (vals : List Value) (s' : Shared) : Prop
 | mk (vs : List V) (σ' : Store) (r : VsRel Γ (DD σ' F) s'.heap vs vals) (S : St Γ F σ' s') (T : Trans σ s σ' s') (q : Q vs σ') : PostL Γ F σ s Q vals s'
noncomputable def AArgs (Γ : Cx) (n : Nat) (sc : Scope) (ρ : Vars) (es : List Expr) (σ : Store) (Q : List V -> Store -> Prop) : Prop :=
 ∀ A s F env pos, env.scope = sc -> Room n A -> FrameRel Γ F σ s.heap env ρ -> St Γ F σ s -> wpAny (Md Γ) A (spliced (backTo pos (starEach es env))) (PostL Γ F σ s Q) NoE s
inductive Fl where
 | next | brk | cont | ret (v : V)
inductive FlRel (Γ : Cx) (D : Addr -> Prop) (h : Heap) : Fl -> Flow -> Prop
 | next : FlRel Γ D h .next .next
 | brk : FlRel Γ D h .brk .brk
 | cont : FlRel Γ D h .cont .cont
 | ret {v : V} {x : Value} : VRel Γ D h v x -> FlRel Γ D h (.ret v) (.ret x)
structure TransF (env : Env) (σ : Store) (s : Shared) (σ' : Store) (s' : Shared) : Prop where
 keep : ∀ b o, s.heap.get? b = some o -> σ b = none -> ¬ Own env b -> s'.heap.get? b = some o
 fresh : ∀ b, ¬ Own env b -> σ' b ≠ none -> σ b ≠ none \/ s.heap.get? b = none
theorem Trans.toF {env : Env} {σ σ' : Store} {s s' : Shared} (T : Trans σ s σ' s') : TransF env σ s σ' s' := ⟨fun b o e n _ => T.keep b o e n, fun b _ e => T.fresh b e⟩
theorem TransF.refl (env : Env) (σ : Store) (s : Shared) : TransF env σ s σ s := ⟨fun _ _ e _ _ => e, fun _ _ e => .inl e⟩
theorem TransF.trans {env : Env} {σ σ₁ σ₂ : Store} {s s₁ s₂ : Shared} (x : TransF env σ s σ₁ s₁) (y : TransF env σ₁ s₁ σ₂ s₂) : TransF env σ s σ₂ s₂ where
 keep b o e n w := y.keep b o (x.keep b o e n w) (by
  cases q : σ₁ b with
  | none => rfl
  | some v =>
   rcases x.fresh b w (by rw [q]; exact fun e => nomatch e) with e' | e'
   ·exact absurd n e'
   ·rw [e'] at e; cases e) w
 fresh b w e := by
  rcases y.fresh b w e with e' | e'
  ·exact x.fresh b w e'
  ·cases q : σ b with
   | some v => exact .inl (fun e => nomatch e)
   | none =>
    cases p : s.heap.get? b with
    | none => exact .inr rfl
    | some o => rw [x.keep b o p q w] at e'; cases e'
inductive PostX (Γ : Cx) (F : Addr -> Prop) (env : Env) (σ : Store) (s : Shared) (Q : Fl -> Vars -> Store -> Prop) (f : Flow) (s' : Shared) : Prop
 | mk (fl : Fl) (ρ' : Vars) (σ' : Store) (r : FlRel Γ (DD σ' F) s'.heap fl f) (R : FrameRel Γ F σ' s'.heap env ρ') (S : St Γ F σ' s') (T : TransF env σ s σ' s') (q : Q fl ρ' σ') : PostX Γ F env σ s Q f s'
inductive PostA (Γ : Cx) (F : Addr -> Prop) (env : Env) (σ : Store) (s : Shared) (Q : Vars -> Store -> Prop) (s' : Shared) : Prop
 | mk (ρ' : Vars) (σ' : Store) (R : FrameRel Γ F σ' s'.heap env ρ') (S : St Γ F σ' s') (T : TransF env σ s σ' s') (q : Q ρ' σ') : PostA Γ F env σ s Q s'
noncomputable def AExecs (Γ : Cx) (n : Nat) (sc : Scope) (ρ : Vars) (b : List Stmt) (σ : Store) (Q : Fl -> Vars -> Store -> Prop) : Prop :=
 ∀ A s F env, env.scope = sc -> Room n A -> FrameRel Γ F σ s.heap env ρ -> St Γ F σ s -> wpAny (Md Γ) A (execs b env) (PostX Γ F env σ s Q) NoE s
noncomputable def AExec (Γ : Cx) (n : Nat) (sc : Scope) (ρ : Vars) (b : Stmt) (σ : Store) (Q : Fl -> Vars -> Store -> Prop) : Prop :=
 ∀ A s F env, env.scope = sc -> Room n A -> FrameRel Γ F σ s.heap env ρ -> St Γ F σ s -> wpAny (Md Γ) A (exec b env) (PostX Γ F env σ s Q) NoE s
noncomputable def AAssign (Γ : Cx) (n : Nat) (sc : Scope) (ρ : Vars) (t : Expr) (v : V) (σ : Store) (Q : Vars -> Store -> Prop) : Prop :=
 ∀ A s F env val, env.scope = sc -> Room n A -> FrameRel Γ F σ s.heap env ρ -> St Γ F σ s -> VRel Γ (DD σ F) s.heap v val ->
  wpAny (Md Γ) A (assign t env val) (fun _ => PostA Γ F env σ s Q) NoE s
noncomputable def ACall (Γ : Cx) (n : Nat) (f : V) (vs : List V) (σ : Store) (Q : V -> Store -> Prop) : Prop :=
 ∀ A s F fv vals, Room n A -> St Γ F σ s -> VRel Γ (DD σ F) s.heap f fv -> VsRel Γ (DD σ F) s.heap vs vals -> wpAny (Md Γ) A (call fv vals) (Post Γ F σ s Q) NoE s
noncomputable def CodeQ (P : Value -> Shared -> Prop) (r : Result) (s' : Shared) : Prop := match r with
 | .ok (.ret v) => P v s'
 | _ => False
noncomputable def ACode (Γ : Cx) (n : Nat) (f : V) (vs : List V) (σ : Store) (Q : V -> Store -> Prop) : Prop :=
 ∀ A s F fv vals, Room n A -> St Γ F σ s -> VRel Γ (DD σ F) s.heap f fv -> VsRel Γ (DD σ F) s.heap vs vals -> codeAny (Md Γ) A (.call fv ⟨vals, []⟩) (CodeQ (Post Γ F σ s Q)) s
theorem ACode.call {n : Nat} {f : V} {vs : List V} {σ : Store} {Q : V -> Store -> Prop} (h : ACode Γ n f vs σ Q) : ACall Γ n f vs σ Q := fun A s F fv vals a b c d =>
 wpAny_call (codeAny_mono (h A s F fv vals a b c d) fun r s' p => by rcases r with _ | (_ | _ | _ | _) <;> exact p)
noncomputable def AOp2 (Γ : Cx) (n : Nat) (f : Value -> Value -> Sem Value) (a b : V) (σ : Store) (Q : V -> Store -> Prop) : Prop :=
 ∀ A s F x y, Room n A -> St Γ F σ s -> VRel Γ (DD σ F) s.heap a x -> VRel Γ (DD σ F) s.heap b y -> wpAny (Md Γ) A (f x y) (Post Γ F σ s Q) NoE s
noncomputable def ATruthy (Γ : Cx) (n : Nat) (a : V) (σ : Store) (Q : Bool -> Store -> Prop) : Prop :=
 ∀ A s F x, Room n A -> St Γ F σ s -> VRel Γ (DD σ F) s.heap a x -> wpAny (Md Γ) A (truthy x) (PostB Γ F σ s Q) NoE s
noncomputable def Op2Q (Γ : Cx) (n : Nat) (f : Value -> Value -> Sem Value) (a : V) (Q : V -> Store -> Prop) : V -> Store -> Prop := fun b σ => AOp2 Γ n f a b σ Q
noncomputable def OpQ (Γ : Cx) (n : Nat) (sc : Scope) (ρ : Vars) (r : Expr) (f : Value -> Value -> Sem Value) (Q : V -> Store -> Prop) : V -> Store -> Prop := fun a σ => AEval Γ n sc ρ r σ (Op2Q Γ n f a Q)
noncomputable def BoolQ (Q : Bool -> Store -> Prop) : V -> Store -> Prop
 | .bool c, σ => Q c σ
 | _, _ => False
noncomputable def TruQ (Γ : Cx) (n : Nat) (Q : Bool -> Store -> Prop) : V -> Store -> Prop := fun v σ => ATruthy Γ n v σ Q
noncomputable def NotQ (Q : Bool -> Store -> Prop) : Bool -> Store -> Prop := fun b σ => Q (!b) σ
noncomputable def AndQ (Γ : Cx) (n : Nat) (sc : Scope) (ρ : Vars) (y : Expr) (Q : Bool -> Store -> Prop) : Bool -> Store -> Prop
 | true, σ => ATest Γ n sc ρ y σ Q
 | false, σ => Q false σ
noncomputable def OrQ (Γ : Cx) (n : Nat) (sc : Scope) (ρ : Vars) (y : Expr) (Q : Bool -> Store -> Prop) : Bool -> Store -> Prop
 | true, σ => Q true σ
 | false, σ => ATest Γ n sc ρ y σ Q
noncomputable def IfeQ (Γ : Cx) (n : Nat) (sc : Scope) (ρ : Vars) (a b : Expr) (Q : V -> Store -> Prop) : Bool -> Store -> Prop
 | true, σ => AEval Γ n sc ρ a σ Q
 | false, σ => AEval Γ n sc ρ b σ Q
noncomputable def IfQ (Γ : Cx) (n : Nat) (sc : Scope) (ρ : Vars) (a b : List Stmt) (Q : Fl -> Vars -> Store -> Prop) : Bool -> Store -> Prop
 | true, σ => AExecs Γ n sc ρ a σ Q
 | false, σ => AExecs Γ n sc ρ b σ Q
noncomputable def ConsQ (v : V) (Q : List V -> Store -> Prop) : List V -> Store -> Prop := fun vs σ => Q (v :: vs) σ
noncomputable def ArgQ (Γ : Cx) (n : Nat) (sc : Scope) (ρ : Vars) (es : List Expr) (Q : List V -> Store -> Prop) : V -> Store -> Prop := fun v σ => AArgs Γ n sc ρ es σ (ConsQ v Q)
noncomputable def TupQ (f : List V -> V) (Q : V -> Store -> Prop) : List V -> Store -> Prop := fun vs σ => vs.length <= 1000000 /\ Q (f vs) σ
noncomputable def LstQ (Q : V -> Store -> Prop) : List V -> Store -> Prop := fun vs σ => vs.length <= 1000000 /\ ∀ a, σ a = none -> Q (.ref a) (put σ a (.lst vs))
noncomputable def SeqQ (Γ : Cx) (n : Nat) (sc : Scope) (bs : List Stmt) (Q : Fl -> Vars -> Store -> Prop) : Fl -> Vars -> Store -> Prop
 | .next, ρ, σ => AExecs Γ n sc ρ bs σ Q
 | fl, ρ, σ => Q fl ρ σ
noncomputable def GiveQ (ρ : Vars) (Q : Fl -> Vars -> Store -> Prop) : V -> Store -> Prop := fun v σ => Q (.ret v) ρ σ
noncomputable def ExpQ (ρ : Vars) (Q : Fl -> Vars -> Store -> Prop) : V -> Store -> Prop := fun _ σ => Q .next ρ σ
noncomputable def AsgQ (Γ : Cx) (n : Nat) (sc : Scope) (ρ : Vars) (t : Expr) (Q : Fl -> Vars -> Store -> Prop) : V -> Store -> Prop := fun v σ => AAssign Γ n sc ρ t v σ (Q .next)
noncomputable def FunQ (Γ : Cx) (n : Nat) (f : V) (first : List V) (Q : V -> Store -> Prop) : List V -> Store -> Prop := fun vs σ => ACall Γ n f (first ++ vs) σ Q
section
variable {n : Nat} {sc : Scope} {ρ : Vars} {σ : Store} {Q Q' : V -> Store -> Prop}
theorem AEval.mono {e : Expr} (h : AEval Γ n sc ρ e σ Q) (m : ∀ v σ', Q v σ' -> Q' v σ') : AEval Γ n sc ρ e σ Q' :=
 fun A s F env a b c d => wpAny_mono (h A s F env a b c d) (fun _ _ p => p.mono m) fun _ _ e => e
theorem ACall.le {f : V} {vs : List V} {m : Nat} (l : n <= m) (h : ACall Γ n f vs σ Q) : ACall Γ m f vs σ Q := fun A s F fv vals a b c d => h A s F fv vals (a.le l) b c d
theorem post_here {F : Addr -> Prop} {s s' : Shared} {v : V} {val : Value} (r : VRel Γ (DD σ F) s'.heap v val) (S : St Γ F σ s') (T : Trans σ s σ s') (q : Q v σ) : Post Γ F σ s Q val s' := ⟨v, σ, r, S, T, q⟩
theorem St.tok {F : Addr -> Prop} {s : Shared} (S : St Γ F σ s) (t : Nat) : St Γ F σ { s with toks := t } := S.grow (fun _ _ e => e) rfl rfl
theorem Trans.tok {s : Shared} (t : Nat) : Trans σ s σ { s with toks := t } := Trans.grow (fun _ _ e => e)
theorem AEval.int {i : Int} {k : Nat} {pos : Pos} (q : Q (.int i) σ) : AEval Γ n sc ρ (.Constant (.int i) k pos) σ Q :=
 fun _ s F _ _ _ _ S => wpAny_Constant_int (post_here (.int i _) (S.tok _) (Trans.tok _) q)
theorem AEval.strc {x : Str} {k : Nat} {pos : Pos} (q : Q (.str x) σ) : AEval Γ n sc ρ (.Constant (.str x) k pos) σ Q :=
 fun _ s F _ _ _ _ S => Calls.Constant_str (post_here (.str x _) (S.tok _) (Trans.tok _) q)
theorem AEval.nonec {k : Nat} {pos : Pos} (q : Q .none σ) : AEval Γ n sc ρ (.Constant .none k pos) σ Q :=
 fun _ s F _ _ _ _ S => wpAny_pure (post_here .none S (Trans.refl _ _) q)
theorem AEval.boolc {b : Bool} {k : Nat} {pos : Pos} (q : Q (.bool b) σ) : AEval Γ n sc ρ (.Constant (.bool b) k pos) σ Q :=
 fun _ s F _ _ _ _ S => wpAny_pure (post_here (.bool b) S (Trans.refl _ _) q)
theorem AEval.name {x : Str} {pos : Pos} {v : V} {k : NameKind} (hk : sc.names.lookup x = some k) (hk' : (k == .local || k == .cell || k == .free) = true) (hv : ρ.lookup x = some v) (q : Q v σ)
  (hd : (x == ("__debug__" : Str)) = false := by decide) (hc : (x == ("__classdict__" : Str)) = false := by decide) : AEval Γ n sc ρ (.Name x pos) σ Q := by
 intro A s F env he _ R S
 have hk2 : env.kindOf x = some k := by unfold Env.kindOf; rw [he]; exact hk
 refine wpAny_Name ?_ hd
 cases k with
 | «local» =>
  obtain ⟨m, hn, r⟩ := R.ns
  obtain ⟨val, h1, h2⟩ := r x v hv hk2
  exact wpAny_loadName_local R.kind hk2 hn h1 (post_here h2 S (Trans.refl _ _) q)
 | cell =>
  obtain ⟨c, hc'⟩ := R.has x (.inl hk2)
  obtain ⟨_, _, _, val, i, r⟩ := R.cell x c hc'
  obtain ⟨u, rfl, h2⟩ := r v hv
  exact wpAny_loadName_cell R.kind hk2 hc' i (post_here h2 S (Trans.refl _ _) q)
 | free =>
  obtain ⟨c, hc'⟩ := R.has x (.inr hk2)
  obtain ⟨_, _, _, val, i, r⟩ := R.cell x c hc'
  obtain ⟨u, rfl, h2⟩ := r v hv
  exact wpAny_loadName_free R.kind hk2 hc' i (post_here h2 S (Trans.refl _ _) q) hc
 | _ => cases hk'
theorem AEval.glob {x : Str} {pos : Pos} {a : Addr} (hk : sc.names.lookup x = some .globalImplicit) (hv : nsIn Γ.K mainGlobals x = some (some (.ref a))) (q : Q (.ref a) σ)
  (hd : (x == ("__debug__" : Str)) = false := by decide) : AEval Γ n sc ρ (.Name x pos) σ Q := by
 intro A s F env he _ R S
 have hk2 : env.kindOf x = some .globalImplicit := by unfold Env.kindOf; rw [he]; exact hk
 refine Calls.Name_function_global R.kind hk2 (Calls.loadGlobal_global (mg := Γ.mg) ?_ (mg_of Γ.X Γ.g hv) (post_here (.ref a) S (Trans.refl _ _) q)) hd
 rw [R.globals]; exact Γ.g.keeps S.base
theorem AEval.globv {x : Str} {pos : Pos} {v : V} {val : Value} (hk : sc.names.lookup x = some .globalImplicit) (hv : nsIn Γ.K mainGlobals x = some (some val))
  (hr : ∀ F s, St Γ F σ s -> VRel Γ (DD σ F) s.heap v val) (q : Q v σ)
  (hd : (x == ("__debug__" : Str)) = false := by decide) : AEval Γ n sc ρ (.Name x pos) σ Q := by
 intro A s F env he _ R S
 have hk2 : env.kindOf x = some .globalImplicit := by unfold Env.kindOf; rw [he]; exact hk
 refine Calls.Name_function_global R.kind hk2 (Calls.loadGlobal_global (mg := Γ.mg) ?_ (mg_of Γ.X Γ.g hv) (post_here (hr F s S) S (Trans.refl _ _) q)) hd
 rw [R.globals]; exact Γ.g.keeps S.base
theorem glob_builtin {x : Str} {pos : Pos} {val : Value} {v : V} (hk : sc.names.lookup x = some .globalImplicit) (hm : nsIn Γ.K mainGlobals x = some none) (hb : bootBuiltins x = some val)
  (hn : x ≠ "__name__") (hr : ∀ D h, VRel Γ D h v val) (q : Q v σ) (hd : (x == ("__debug__" : Str)) = false := by decide) : AEval Γ n sc ρ (.Name x pos) σ Q := by
 intro A s F env he _ R S
 have hk2 : env.kindOf x = some .globalImplicit := by unfold Env.kindOf; rw [he]; exact hk
 refine Calls.Name_function_global R.kind hk2 (Calls.loadGlobal_builtin (mg := Γ.mg) (mb := Γ.mb) ?_ (mg_none_of Γ.X Γ.g hm) ?_ ((Γ.bb x hn).trans hb) (post_here (hr _ _) S (Trans.refl _ _) q)) hd
 ·rw [R.globals]; exact Γ.g.keeps S.base
 ·rw [R.builtins]; exact Γ.b.keeps S.base
theorem AEval.blt {x : Str} {pos : Pos} {id : String} (hk : sc.names.lookup x = some .globalImplicit) (hm : nsIn Γ.K mainGlobals x = some none) (hb : bootBuiltins x = some (.builtin id))
  (hn : x ≠ "__name__") (q : Q (.blt id) σ) (hd : (x == ("__debug__" : Str)) = false := by decide) : AEval Γ n sc ρ (.Name x pos) σ Q := glob_builtin hk hm hb hn (fun _ _ => .blt id) q hd
theorem AEval.typ {x : Str} {pos : Pos} {id : String} (hk : sc.names.lookup x = some .globalImplicit) (hm : nsIn Γ.K mainGlobals x = some none) (hb : bootBuiltins x = some (.type id))
  (hn : x ≠ "__name__") (q : Q (.typ id) σ) (hd : (x == ("__debug__" : Str)) = false := by decide) : AEval Γ n sc ρ (.Name x pos) σ Q := glob_builtin hk hm hb hn (fun _ _ => .typ id) q hd
theorem seq_eval {α : Type} {A : Around} {s : Shared} {F : Addr -> Prop} {env : Env} {e : Expr} {P : V -> Store -> Prop} {R : Value -> Shared -> Prop} (he : env.scope = sc) (hA : Room n A) (hR : FrameRel Γ F σ s.heap env ρ) (S : St Γ F σ s)
  (h : AEval Γ n sc ρ e σ P)
  (k : ∀ v σ₁ val s₁, VRel Γ (DD σ₁ F) s₁.heap v val -> FrameRel Γ F σ₁ s₁.heap env ρ -> St Γ F σ₁ s₁ -> Trans σ s σ₁ s₁ -> P v σ₁ -> R val s₁) :
  wpAny (Md Γ) A (eval e env) R NoE s :=
 wpAny_mono (h A s F env he hA hR S) (fun val s₁ p => let ⟨v, σ₁, a, b, c, d⟩ := p; k v σ₁ val s₁ a (hR.trans c) b c d) fun _ _ e => e
theorem AEval.binop {l r : Expr} {op : Operator} {pos : Pos} (h : AEval Γ n sc ρ l σ (OpQ Γ n sc ρ r (binaryOp op) Q)) : AEval Γ n sc ρ (.BinOp l op r pos) σ Q := by
 intro A s F env he hA hR S
 refine wpAny_BinOp (seq_eval (α := Unit) he hA hR S h fun a σ₁ x s₁ ra R₁ S₁ T₁ h₁ => seq_eval (α := Unit) he hA R₁ S₁ h₁ fun b σ₂ y s₂ rb R₂ S₂ T₂ h₂ => ?_)
 exact wpAny_mono (h₂ A s₂ F x y hA S₂ (ra.trans T₂) rb) (fun _ _ p => p.trans (T₁.trans T₂)) fun _ _ e => e
theorem AEval.compare {l r : Expr} {op : CmpOp} {pos : Pos} (h : AEval Γ n sc ρ l σ (OpQ Γ n sc ρ r (compareOp op) Q))
  (hm : behindInMarks op r = false := by with_unfolding_all rfl) : AEval Γ n sc ρ (.Compare l [op] [r] pos) σ Q := by
 intro A s F env he hA hR S
 refine wpAny_Compare1 (seq_eval (α := Unit) he hA hR S h fun a σ₁ x s₁ ra R₁ S₁ T₁ h₁ => seq_eval (α := Unit) he hA R₁ S₁ h₁ fun b σ₂ y s₂ rb R₂ S₂ T₂ h₂ => ?_) hm
 exact wpAny_mono (h₂ A s₂ F x y hA S₂ (ra.trans T₂) rb) (fun _ _ p => p.trans (T₁.trans T₂)) fun _ _ e => e
theorem PostB.trans {F : Addr -> Prop} {σ₁ : Store} {s s₁ : Shared} {Q : Bool -> Store -> Prop} {b : Bool} {s' : Shared} (T : Trans σ s σ₁ s₁) (p : PostB Γ F σ₁ s₁ Q b s') : PostB Γ F σ s Q b s' :=
 let ⟨σ', a, c, d⟩ := p; ⟨σ', a, T.trans c, d⟩
theorem BoolQ.inv {Q : Bool -> Store -> Prop} : ∀ {v : V} {σ : Store}, BoolQ Q v σ -> ∃ c, v = .bool c
 | .bool c, _, _ => ⟨c, rfl⟩
theorem ATest.compare {l r : Expr} {op : CmpOp} {pos : Pos} {Q : Bool -> Store -> Prop}
  (h : AEval Γ n sc ρ l σ (OpQ Γ n sc ρ r (compareOp op) (BoolQ Q)))
  (hm : behindInMarks op r = false := by with_unfolding_all rfl) : ATest Γ n sc ρ (.Compare l [op] [r] pos) σ Q := by
 intro A s F env he hA hR S
 refine wpAny_isTrue_Compare1 (seq_eval (α := Unit) he hA hR S h fun a σ₁ x s₁ ra R₁ S₁ T₁ h₁ => seq_eval (α := Unit) he hA R₁ S₁ h₁ fun b σ₂ y s₂ rb R₂ S₂ T₂ h₂ => ?_) hm
 refine wpAny_mono (h₂ A s₂ F x y hA S₂ (ra.trans T₂) rb) (fun val s₃ p => ?_) fun _ _ e => e
 obtain ⟨v, σ₃, r3, S₃, T₃, q⟩ := p
 obtain ⟨c, rfl⟩ := BoolQ.inv q
 cases r3 with
 | bool => exact wpAny_truthy_bool ⟨σ₃, S₃, (T₁.trans T₂).trans T₃, q⟩
 | «at» _ o => cases o
end
end Mine
namespace Mine
open PySem PySem.W PyProof.Rows
variable {Γ : Cx}
section
variable {n : Nat} {sc : Scope} {ρ : Vars} {σ : Store} {Q Q' : V -> Store -> Prop}
theorem VRel.bool_inv {D : Addr -> Prop} {h : Heap} {b : Bool} {x : Value} (r : VRel Γ D h (.bool b) x) : x = .bool b := by
 cases r with
 | bool => rfl
 | «at» _ o => cases o
theorem VRel.none_inv {D : Addr -> Prop} {h : Heap} {x : Value} (r : VRel Γ D h .none x) : x = .none := by
 cases r with
 | none => rfl
 | «at» _ o => cases o
theorem VRel.int_inv {D : Addr -> Prop} {h : Heap} {i : Int} {x : Value} (r : VRel Γ D h (.int i) x) : ∃ t, x = .int i t := by
 cases r with
 | int => exact ⟨_, rfl⟩
 | «at» _ o => cases o
theorem VRel.str_inv {D : Addr -> Prop} {h : Heap} {i : Str} {x : Value} (r : VRel Γ D h (.str i) x) : ∃ t, x = .str i t := by
 cases r with
 | str => exact ⟨_, rfl⟩
 | «at» _ o => cases o
theorem VRel.ref_inv {D : Addr -> Prop} {h : Heap} {a : Addr} {x : Value} (r : VRel Γ D h (.ref a) x) : x = .ref a := by
 cases r with
 | ref => rfl
 | «at» _ o => cases o
theorem VRel.typ_inv {D : Addr -> Prop} {h : Heap} {i : String} {x : Value} (r : VRel Γ D h (.typ i) x) : x = .type i := by
 cases r with
 | typ => rfl
 | «at» _ o => cases o
theorem VRel.blt_inv {D : Addr -> Prop} {h : Heap} {i : String} {x : Value} (r : VRel Γ D h (.blt i) x) : x = .builtin i := by
 cases r with
 | blt => rfl
 | «at» _ o => cases o
theorem VRel.tup_inv {D : Addr -> Prop} {h : Heap} {vs : List V} {x : Value} (r : VRel Γ D h (.tup vs) x) : ∃ a arr, x = .ref a /\ ¬ D a /\ h.IsTuple a arr /\ VsRel Γ D h vs arr.toList := by
 cases r with
 | «at» d o => cases o with | tup e r => exact ⟨_, _, rfl, d, e, r⟩
theorem VRel.lst_inv {D : Addr -> Prop} {h : Heap} {vs : List V} {x : Value} (r : VRel Γ D h (.lst vs) x) : ∃ a arr n, x = .ref a /\ ¬ D a /\ h.get? a = some (seqObj "list" arr n) /\ VsRel Γ D h vs arr.toList := by
 cases r with
 | «at» d o => cases o with | lst e r => exact ⟨_, _, _, rfl, d, e, r⟩
theorem ATruthy.bool {b : Bool} {Q : Bool -> Store -> Prop} (q : Q b σ) : ATruthy Γ n (.bool b) σ Q := fun A s F x hA S r => by
 obtain rfl := r.bool_inv
 exact wpAny_truthy_bool ⟨σ, S, Trans.refl _ _, q⟩
theorem ATest.value {e : Expr} {Q : Bool -> Store -> Prop} (h : AEval Γ n sc ρ e σ (TruQ Γ n Q))
  (he : ∀ env whole, isTrue e env whole = (do let v <- whole; standAt e.pos; holding [v] (truthy v)) := by intro _ _; rfl) : ATest Γ n sc ρ e σ Q := by
 intro A s F env hs hA hR S
 refine wpAny_isTrue_value (seq_eval (α := Unit) hs hA hR S h fun v σ₁ x s₁ r R₁ S₁ T₁ h₁ => ?_) (he _ _)
 exact wpAny_mono (h₁ A s₁ F x hA S₁ r) (fun _ _ p => p.trans T₁) fun _ _ e => e
theorem ATest.not {e : Expr} {pos : Pos} {Q : Bool -> Store -> Prop} (h : ATest Γ n sc ρ e σ (NotQ Q)) : ATest Γ n sc ρ (.UnaryOp .Not e pos) σ Q := by
 intro A s F env hs hA hR S
 exact wpAny_isTrue_Not (wpAny_mono (h A s F env hs hA hR S) (fun b s₁ p => let ⟨σ', a, c, d⟩ := p; ⟨σ', a, c, d⟩) fun _ _ e => e)
theorem seq_test {A : Around} {s : Shared} {F : Addr -> Prop} {env : Env} {e : Expr} {P : Bool -> Store -> Prop} {R : Bool -> Shared -> Prop} (he : env.scope = sc) (hA : Room n A) (hR : FrameRel Γ F σ s.heap env ρ) (S : St Γ F σ s)
  (h : ATest Γ n sc ρ e σ P)
  (k : ∀ b σ₁ s₁, FrameRel Γ F σ₁ s₁.heap env ρ -> St Γ F σ₁ s₁ -> Trans σ s σ₁ s₁ -> P b σ₁ -> R b s₁) :
  wpAny (Md Γ) A (isTrue e env (eval e env)) R NoE s :=
 wpAny_mono (h A s F env he hA hR S) (fun val s₁ p => let ⟨σ₁, b, c, d⟩ := p; k _ σ₁ s₁ (hR.trans c) b c d) fun _ _ e => e
theorem ATest.and2 {x y : Expr} {pos : Pos} {Q : Bool -> Store -> Prop} (h : ATest Γ n sc ρ x σ (AndQ Γ n sc ρ y Q)) : ATest Γ n sc ρ (.BoolOp .And [x, y] pos) σ Q := by
 intro A s F env hs hA hR S
 refine wpAny_isTrue_BoolOp (wpAny_allTrue_And_cons (seq_test hs hA hR S h fun b σ₁ s₁ R₁ S₁ T₁ h₁ => ?_))
 cases b with
 | false => exact ⟨σ₁, S₁, T₁, h₁⟩
 | true =>
  refine wpAny_allTrue_And_cons (wpAny_mono (h₁ A s₁ F env hs hA R₁ S₁) (fun b s₂ p => ?_) fun _ _ e => e)
  cases b with
  | false => exact p.trans T₁
  | true => exact wpAny_allTrue_And_nil (p.trans T₁)
theorem ATest.or2 {x y : Expr} {pos : Pos} {Q : Bool -> Store -> Prop} (h : ATest Γ n sc ρ x σ (OrQ Γ n sc ρ y Q)) : ATest Γ n sc ρ (.BoolOp .Or [x, y] pos) σ Q := by
 intro A s F env hs hA hR S
 refine wpAny_isTrue_BoolOp (wpAny_allTrue_Or_cons (seq_test hs hA hR S h fun b σ₁ s₁ R₁ S₁ T₁ h₁ => ?_))
 cases b with
 | true => exact ⟨σ₁, S₁, T₁, h₁⟩
 | false =>
  refine wpAny_allTrue_Or_cons (wpAny_mono (h₁ A s₁ F env hs hA R₁ S₁) (fun b s₂ p => ?_) fun _ _ e => e)
  cases b with
  | true => exact p.trans T₁
  | false => exact wpAny_allTrue_Or_nil (p.trans T₁)
theorem ATest.or3 {x y z : Expr} {pos : Pos} {Q : Bool -> Store -> Prop}
  (h : ATest Γ n sc ρ x σ (OrQ Γ n sc ρ y (OrQ Γ n sc ρ z Q))) : ATest Γ n sc ρ (.BoolOp .Or [x, y, z] pos) σ Q := by
 intro A s F env hs hA hR S
 refine wpAny_isTrue_BoolOp ?_
 refine wpAny_allTrue_Or_cons (seq_test hs hA hR S h fun b σ₁ s₁ R₁ S₁ T₁ h₁ => ?_)
 cases b with
 | true => exact ⟨σ₁, S₁, T₁, h₁⟩
 | false =>
  refine wpAny_allTrue_Or_cons (seq_test hs hA R₁ S₁ h₁ fun b σ₂ s₂ R₂ S₂ T₂ h₂ => ?_)
  cases b with
  | true => exact ⟨σ₂, S₂, T₁.trans T₂, h₂⟩
  | false =>
   refine wpAny_allTrue_Or_cons (wpAny_mono (h₂ A s₂ F env hs hA R₂ S₂) (fun b s₃ p => ?_) fun _ _ e => e)
   cases b with
   | true => exact (p.trans T₂).trans T₁
   | false => exact wpAny_allTrue_Or_nil ((p.trans T₂).trans T₁)
theorem AEval.ifexp {t a b : Expr} {pos : Pos} (h : ATest Γ n sc ρ t σ (IfeQ Γ n sc ρ a b Q)) : AEval Γ n sc ρ (.IfExp t a b pos) σ Q := by
 intro A s F env hs hA hR S
 refine wpAny_IfExp (seq_test hs hA hR S h fun c σ₁ s₁ R₁ S₁ T₁ h₁ => ?_)
 cases c with
 | true => exact wpAny_mono (h₁ A s₁ F env hs hA R₁ S₁) (fun _ _ p => p.trans T₁) fun _ _ e => e
 | false => exact wpAny_mono (h₁ A s₁ F env hs hA R₁ S₁) (fun _ _ p => p.trans T₁) fun _ _ e => e
theorem lim {a : Nat} (h : Nat.ble a 1000000 = true) : a <= 1000000 := Nat.le_of_ble_eq_true h
noncomputable def And2Q (Γ : Cx) (n : Nat) (sc : Scope) (ρ : Vars) (y : Expr) (Q : V -> Store -> Prop) : Bool -> Store -> Prop
 | true, σ => AEval Γ n sc ρ y σ Q
 | false, σ => Q (.bool false) σ
theorem AEval.and2 {x y : Expr} {pos : Pos} (h : AEval Γ n sc ρ x σ (BoolQ (And2Q Γ n sc ρ y Q))) : AEval Γ n sc ρ (.BoolOp .And [x, y] pos) σ Q := by
 intro A s F env hs hA hR S
 refine wpAny_And2 (seq_eval (α := Unit) hs hA hR S h fun v σ₁ val s₁ r R₁ S₁ T₁ h₁ => ?_)
 obtain ⟨b, rfl⟩ := BoolQ.inv h₁
 obtain rfl := r.bool_inv
 refine wpAny_truthy_bool ?_
 cases b with
 | true => exact wpAny_mono (h₁ A s₁ F env hs hA R₁ S₁) (fun _ _ p => p.trans T₁) fun _ _ e => e
 | false => exact ⟨_, σ₁, .bool false, S₁, T₁, h₁⟩
theorem AArgs.nil {Q : List V -> Store -> Prop} (q : Q [] σ) : AArgs Γ n sc ρ [] σ Q := fun A s F env pos hs hA hR S => Calls.spliced_nil ⟨[], σ, .nil, S, Trans.refl _ _, q⟩
theorem AArgs.cons {e : Expr} {es : List Expr} {Q : List V -> Store -> Prop} (h : AEval Γ n sc ρ e σ (ArgQ Γ n sc ρ es Q))
  (he : ∀ env, starEach (e :: es) env = (false, eval e env) :: starEach es env := by intro _; rfl) : AArgs Γ n sc ρ (e :: es) σ Q := by
 intro A s F env pos hs hA hR S
 rw [he]
 refine Calls.spliced_cons (seq_eval (α := Unit) hs hA hR S h fun v σ₁ x s₁ r R₁ S₁ T₁ h₁ => ?_)
 refine wpAny_mono (h₁ A s₁ F env pos hs hA R₁ S₁) (fun vs s₂ p => ?_) fun _ _ e => e
 obtain ⟨ws, σ₂, a, b, c, d⟩ := p
 exact ⟨v :: ws, σ₂, .cons (r.trans c) a, b, T₁.trans c, d⟩
theorem size_lim {D : Addr -> Prop} {h : Heap} {vs : List V} {xs : List Value} (r : VsRel Γ D h vs xs) (z : vs.length <= 1000000) : xs.length <= sizeLine := by
 rw [<- r.length]; exact Nat.le_trans z (by decide)
theorem new_obj {F : Addr -> Prop} {s : Shared} (S : St Γ F σ s) (o : Obj) : St Γ F σ { s with heap := s.heap.push o } := S.grow (fun _ _ e => Heap.get?_push_of_some o e) rfl rfl
theorem new_trans {s : Shared} (o : Obj) : Trans σ s σ { s with heap := s.heap.push o } := Trans.grow (fun _ _ e => Heap.get?_push_of_some o e)
theorem fresh_dd {F : Addr -> Prop} {s : Shared} (S : St Γ F σ s) : ¬ DD σ F s.heap.objs.size := by
 unfold DD
 rintro (q | q)
 ·cases e : σ s.heap.objs.size with
  | none => exact q e
  | some v => obtain ⟨o, h⟩ := (S.rep _ v e).ex; exact Nat.lt_irrefl _ (Heap.lt_size h)
 ·obtain ⟨o, h⟩ := S.fin _ q; exact Nat.lt_irrefl _ (Heap.lt_size h)
theorem fresh_none {F : Addr -> Prop} {s : Shared} (S : St Γ F σ s) : σ s.heap.objs.size = none := by
 cases e : σ s.heap.objs.size with
 | none => rfl
 | some v => exact absurd (.inl (by rw [e]; exact fun e => nomatch e)) (fresh_dd S)
theorem frozen_seq {F : Addr -> Prop} {s : Shared} {vs : List V} {xs : List Value} (S : St Γ F σ s) (r : VsRel Γ (DD σ F) s.heap vs xs) (c : String) (hc : c = "tuple" \/ c = "list") :
  VRel Γ (DD σ F) (s.heap.push (seqObj c xs.toArray 0)) (if c = "tuple" then .tup vs else .lst vs) (.ref s.heap.objs.size) := by
 have r' := r.mono (h' := s.heap.push (seqObj c xs.toArray 0)) (D' := DD σ F) (fun b o _ _ e => Heap.get?_push_of_some _ e) fun _ _ n _ => n
 refine .at (fresh_dd S) ?_
 rcases hc with rfl | rfl
 ·exact .tup ⟨_, Heap.get?_push_size _ rfl, rfl, _, rfl⟩ r'
 ·exact .lst (Heap.get?_push_size _ rfl) r'
theorem AEval.tuple {es : List Expr} {k : Nat} {pos : Pos} (h : AArgs Γ n sc ρ es σ (TupQ .tup Q)) : AEval Γ n sc ρ (.Tuple es k pos) σ Q := by
 intro A s F env hs hA hR S
 refine wpAny_Tuple (wpAny_mono (h A s F env pos hs hA hR S) (fun vals s₁ p => ?_) fun _ _ e => e)
 obtain ⟨vs, σ₁, r, S₁, T₁, z, q⟩ := p
 exact ⟨size_lim r z, .tup vs, σ₁, frozen_seq S₁ r "tuple" (.inl rfl), new_obj S₁ _, T₁.trans (new_trans _), q⟩
theorem AEval.listF {es : List Expr} {pos : Pos} (h : AArgs Γ n sc ρ es σ (TupQ .lst Q)) : AEval Γ n sc ρ (.List es pos) σ Q := by
 intro A s F env hs hA hR S
 refine wpAny_List (wpAny_mono (h A s F env pos hs hA hR S) (fun vals s₁ p => ?_) fun _ _ e => e)
 obtain ⟨vs, σ₁, r, S₁, T₁, z, q⟩ := p
 exact ⟨size_lim r z, .lst vs, σ₁, frozen_seq S₁ r "list" (.inr rfl), new_obj S₁ _, T₁.trans (new_trans _), q⟩
theorem put_seq {F : Addr -> Prop} {s : Shared} {vs : List V} {xs : List Value} (S : St Γ F σ s) (r : VsRel Γ (DD σ F) s.heap vs xs) :
  St Γ F (put σ s.heap.objs.size (.lst vs)) { s with heap := s.heap.push (seqObj "list" xs.toArray 0) } :=
 S.alloc (get_size _) (fun _ _ e => Heap.get?_push_of_some _ e) (.lst (Heap.get?_push_size _ rfl) (r.alloc (s' := { s with heap := s.heap.push (seqObj "list" xs.toArray 0) }) (get_size _) (fun _ _ e => Heap.get?_push_of_some _ e))) rfl rfl
theorem put_trans {s : Shared} {v : V} (o : Obj) : Trans σ s (put σ s.heap.objs.size v) { s with heap := s.heap.push o } :=
 Trans.alloc (get_size _) (fun _ _ e => Heap.get?_push_of_some _ e)
theorem AEval.list {es : List Expr} {pos : Pos} (h : AArgs Γ n sc ρ es σ (LstQ Q)) : AEval Γ n sc ρ (.List es pos) σ Q := by
 intro A s F env hs hA hR S
 refine wpAny_List (wpAny_mono (h A s F env pos hs hA hR S) (fun vals s₁ p => ?_) fun _ _ e => e)
 obtain ⟨vs, σ₁, r, S₁, T₁, z, q⟩ := p
 exact ⟨size_lim r z, .ref _, _, .ref _, put_seq S₁ r, T₁.trans (put_trans _), q _ (fresh_none S₁)⟩
end
section
variable {n : Nat} {sc : Scope} {ρ : Vars} {σ : Store} {Q Q' : Fl -> Vars -> Store -> Prop}
theorem PostX.trans {F : Addr -> Prop} {env : Env} {σ₁ : Store} {s s₁ : Shared} {f : Flow} {s' : Shared} (T : TransF env σ s σ₁ s₁) (p : PostX Γ F env σ₁ s₁ Q f s') : PostX Γ F env σ s Q f s' :=
 let ⟨fl, ρ', σ', a, b, c, d, e⟩ := p; ⟨fl, ρ', σ', a, b, c, T.trans d, e⟩
theorem AExecs.nil (q : Q .next ρ σ) : AExecs Γ n sc ρ [] σ Q := fun A s F env hs hA hR S => wpAny_execs_nil ⟨.next, ρ, σ, .next, hR, S, TransF.refl _ _ _, q⟩
theorem AExecs.cons {b : Stmt} {bs : List Stmt} (h : AExec Γ n sc ρ b σ (SeqQ Γ n sc bs Q)) : AExecs Γ n sc ρ (b :: bs) σ Q := by
 intro A s F env hs hA hR S
 refine wpAny_execs_cons (wpAny_mono (h A s F env hs hA hR S) (fun f s₁ p => ?_) fun _ _ e => e)
 obtain ⟨fl, ρ', σ', r, R₁, S₁, T₁, q⟩ := p
 cases r with
 | next => exact wpAny_mono (q A s₁ F env hs hA R₁ S₁) (fun _ _ p => p.trans T₁) fun _ _ e => e
 | brk => exact ⟨_, ρ', σ', .brk, R₁, S₁, T₁, q⟩
 | cont => exact ⟨_, ρ', σ', .cont, R₁, S₁, T₁, q⟩
 | ret r => exact ⟨_, ρ', σ', .ret r, R₁, S₁, T₁, q⟩
theorem AExec.ret {e : Expr} {pos : Pos} (h : AEval Γ n sc ρ e σ (GiveQ ρ Q)) : AExec Γ n sc ρ (.Return (some e) pos) σ Q := by
 intro A s F env hs hA hR S
 exact wpAny_Return_some (seq_eval (α := Unit) hs hA hR S h fun v σ₁ x s₁ r R₁ S₁ T₁ q => ⟨.ret v, ρ, σ₁, .ret r, R₁, S₁, T₁.toF, q⟩)
theorem inter_of {env : Env} (h : env.scope.kind = .function) : interactive env = false := by unfold interactive; rw [h]; rfl
theorem AExec.expr {e : Expr} {pos : Pos} (h : AEval Γ n sc ρ e σ (ExpQ ρ Q)) (hs' : ∀ env, swapsWith e none pos.line env = pure false := by intro _; rfl) : AExec Γ n sc ρ (.Expr e pos) σ Q := by
 intro A s F env hs hA hR S
 exact wpAny_Expr_any (seq_eval (α := Unit) hs hA hR S h fun v σ₁ x s₁ r R₁ S₁ T₁ q => ⟨.next, ρ, σ₁, .next, R₁, S₁, T₁.toF, q⟩) (inter_of hR.kind) (hs' env)
theorem AExec.if {t : Expr} {a b : List Stmt} {pos : Pos} (h : ATest Γ n sc ρ t σ (IfQ Γ n sc ρ a b Q)) : AExec Γ n sc ρ (.If t a b pos) σ Q := by
 intro A s F env hs hA hR S
 refine wpAny_If (seq_test hs hA hR S h fun c σ₁ s₁ R₁ S₁ T₁ h₁ => ?_)
 cases c with
 | true => exact wpAny_mono (h₁ A s₁ F env hs hA R₁ S₁) (fun _ _ p => p.trans T₁.toF) fun _ _ e => e
 | false => exact wpAny_mono (h₁ A s₁ F env hs hA R₁ S₁) (fun _ _ p => p.trans T₁.toF) fun _ _ e => e
theorem store_name {A : Around} {s : Shared} {F : Addr -> Prop} {env : Env} {x : Str} {k : NameKind} {v : V} {val : Value} {R : Unit -> Shared -> Prop} (hk : env.scope.names.lookup x = some k) (hk' : k = .local \/ k = .cell)
  (hR : FrameRel Γ F σ s.heap env ρ) (S : St Γ F σ s) (r : VRel Γ (DD σ F) s.heap v val)
  (h : ∀ s', FrameRel Γ F σ s'.heap env ((x, v) :: ρ) -> St Γ F σ s' -> TransF env σ s σ s' -> R () s') : wpAny (Md Γ) A (storeName env x val) R NoE s := by
 rcases hk' with rfl | rfl
 ·obtain ⟨m, hn, hm⟩ := hR.ns
  refine wpAny_storeName_local hk hn (fun h' hn' hs' => ?_) (by rw [hR.kind]; rfl)
  obtain ⟨p1, p2, p3⟩ := hR.prot
  refine h _ ⟨hR.kind, hR.globals, hR.builtins, hR.prot, ⟨_, hn', fun y u e ky => ?_⟩, fun y c hc => ?_, hR.apart, hR.has, hR.cellk⟩ (S.apart p1 p2 p3 hs' (let ⟨o, _, _, e, _⟩ := hn'; ⟨o, e⟩) rfl rfl)
   ⟨fun b o e _ w => (hs'.2 b (fun q => w (.inl q))).trans e, fun _ _ e => .inl e⟩
  ·rw [List.lookup_cons] at e
   cases hb : y == x with
   | true => rw [hb] at e; cases e; rw [beq_iff_eq.mp hb, if_pos rfl]; exact ⟨val, rfl, r.apart p1 hs'⟩
   | false =>
    rw [hb] at e
    obtain ⟨w, h1, h2⟩ := hm y u e ky
    refine ⟨w, ?_, h2.apart p1 hs'⟩
    rw [if_neg (by simpa using hb)]; exact h1
  ·obtain ⟨a, b, d, cv, i, hv⟩ := hR.cell y c hc
   refine ⟨a, b, d, cv, i.sameBut hs' d, fun u e => ?_⟩
   rw [List.lookup_cons] at e
   cases hb : y == x with
   | true =>
    rw [beq_iff_eq.mp hb] at hc
    exact absurd hk (hR.cellk _ _ hc)
   | false => rw [hb] at e; obtain ⟨w, h1, h2⟩ := hv u e; exact ⟨w, h1, h2.apart p1 hs'⟩
 ·obtain ⟨c, hc⟩ := hR.has x (.inl hk)
  obtain ⟨c1, c2, c3, cv, ci, _⟩ := hR.cell x c hc
  obtain ⟨o, ho, hd⟩ := id ci
  have hol : solid o = false := by unfold solid; rw [hd]
  refine wpAny_storeName_cell hR.kind hk hc ci fun h' hc' hs' => ?_
  refine h _ ⟨hR.kind, hR.globals, hR.builtins, hR.prot, ?_, fun y c' hy => ?_, hR.apart, hR.has, hR.cellk⟩ (S.hollow ho hol c2 hs'.extBut (fun _ => let ⟨o, e, _⟩ := hc'; ⟨o, e⟩) rfl rfl)
   ⟨fun b o e _ w => (hs'.2 b (fun q => w (.inr ⟨x, by rw [q]; exact hc⟩))).trans e, fun _ _ e => .inl e⟩
  ·obtain ⟨m, hn, hm⟩ := hR.ns
   refine ⟨m, hn.sameBut hs' c3.symm, fun y u e ky => ?_⟩
   rw [List.lookup_cons] at e
   cases hb : y == x with
   | true => rw [beq_iff_eq.mp hb] at ky; have : env.kindOf x = some .cell := hk; rw [this] at ky; cases ky
   | false => rw [hb] at e; obtain ⟨w, h1, h2⟩ := hm y u e ky; exact ⟨w, h1, h2.hollow ho hol hs'.extBut⟩
  ·obtain ⟨a, b, d, cv', i, hv⟩ := hR.cell y c' hy
   by_cases q : y = x
   ·subst q
    have : c' = c := by rw [hc] at hy; cases hy; rfl
    subst this
    refine ⟨a, b, d, some val, hc', fun u e => ?_⟩
    rw [List.lookup_cons, beq_self_eq_true] at e
    cases e
    exact ⟨val, rfl, r.hollow ho hol hs'.extBut⟩
   ·have ne : c' ≠ c := fun e => q (name_of_addr hR.apart (mem_of_lookup hy) (e ▸ mem_of_lookup hc))
    refine ⟨a, b, d, cv', i.sameBut hs' ne, fun u e => ?_⟩
    rw [List.lookup_cons, show (y == x) = false from by simpa using q] at e
    obtain ⟨w, h1, h2⟩ := hv u e
    exact ⟨w, h1, h2.hollow ho hol hs'.extBut⟩
end
end Mine
namespace Mine
open PySem PySem.W PyProof.Rows
variable {Γ : Cx}
inductive PRel (Γ : Cx) (D : Addr -> Prop) (h : Heap) : List (Str × V) -> List (Str × Value) -> Prop
 | nil : PRel Γ D h [] []
 | cons {k : Str} {v : V} {x : Value} {l : List (Str × V)} {r : List (Str × Value)} : VRel Γ D h v x -> PRel Γ D h l r -> PRel Γ D h ((k, v) :: l) ((k, x) :: r)
theorem PRel.append {D : Addr -> Prop} {h : Heap} {l l' : List (Str × V)} {r r' : List (Str × Value)} (x : PRel Γ D h l r) (y : PRel Γ D h l' r') : PRel Γ D h (l ++ l') (r ++ r') := by
 induction x with
 | nil => exact y
 | cons a _ ih => exact .cons a ih
theorem PRel.reverse {D : Addr -> Prop} {h : Heap} {l : List (Str × V)} {r : List (Str × Value)} (x : PRel Γ D h l r) : PRel Γ D h l.reverse r.reverse := by
 induction x with
 | nil => exact .nil
 | cons a _ ih => rw [List.reverse_cons, List.reverse_cons]; exact ih.append (.cons a .nil)
theorem PRel.zip {D : Addr -> Prop} {h : Heap} : ∀ (names : List Str) {vs : List V} {xs : List Value}, VsRel Γ D h vs xs -> PRel Γ D h (names.zip vs) (names.zip xs)
 | [], _, _, _ => by simpa using PRel.nil
 | _ :: _, [], _, .nil => by simpa using PRel.nil
 | k :: names, _ :: _, _, .cons a r => .cons a (PRel.zip names r)
theorem PRel.lookup {D : Addr -> Prop} {h : Heap} {l : List (Str × V)} {r : List (Str × Value)} (x : PRel Γ D h l r) {k : Str} {v : V} (e : l.lookup k = some v) : ∃ y, r.lookup k = some y /\ VRel Γ D h v y := by
 induction x with
 | nil => cases e
 | @cons k' v' y l r a _ ih =>
  rw [List.lookup_cons] at e
  cases hb : k == k' with
  | true => rw [hb] at e; cases e; exact ⟨_, by rw [List.lookup_cons, hb], a⟩
  | false => rw [hb] at e; obtain ⟨z, h1, h2⟩ := ih e; exact ⟨z, by rw [List.lookup_cons, hb]; exact h1, h2⟩
theorem bindL_eq (kindOf : Str -> Option NameKind) (x : Str) (hx : kindOf x = some .local) : ∀ (binds : List (Str × Value)) (m : Str -> Option Value), bindL kindOf binds m x = (binds.reverse.lookup x).or (m x)
 | [], m => rfl
 | (k, v) :: r, m => by
  rw [bindL, bindL_eq kindOf x hx r, List.reverse_cons, List.lookup_append, Option.or_assoc]
  congr 1
  rw [List.lookup_cons]
  cases hb : x == k with
  | true => rw [<- beq_iff_eq.mp hb, if_pos hx, if_pos rfl]; rfl
  | false =>
   have : x ≠ k := by simpa using hb
   split
   ·show (if x = k then some v else m x) = _; rw [if_neg this]; rfl
   ·rfl
theorem bindC_eq (kindOf : Str -> Option NameKind) (x : Str) (hx : kindOf x ≠ some .local) : ∀ (binds : List (Str × Value)) (m : Str -> Option Value), bindC kindOf binds m x = (binds.reverse.lookup x).or (m x)
 | [], m => rfl
 | (k, v) :: r, m => by
  rw [bindC, bindC_eq kindOf x hx r, List.reverse_cons, List.lookup_append, Option.or_assoc]
  congr 1
  rw [List.lookup_cons]
  cases hb : x == k with
  | true => rw [<- beq_iff_eq.mp hb, if_neg hx, if_pos rfl]; rfl
  | false =>
   have : x ≠ k := by simpa using hb
   split
   ·rfl
   ·show (if x = k then some v else m x) = _; rw [if_neg this]; rfl
theorem mem_cellsFrom {x : Str} {c : Addr} : ∀ (names : List (Str × NameKind)) (n : Nat) (acc : List (Str × Addr)), (x, c) ∈ cellsFrom n names acc -> (x, c) ∈ acc \/ (x, NameKind.cell) ∈ names
 | [], n, acc, h => .inl h
 | (k, kd) :: r, n, acc, h => by
  unfold cellsFrom at h
  split at h
  ·rename_i hk
   rcases mem_cellsFrom r _ _ h with h | h
   ·rcases List.mem_cons.mp h with e | h
    ·cases e; exact .inr (by rw [beq_iff_eq.mp hk]; exact List.mem_cons_self)
    ·exact .inl h
   ·exact .inr (List.mem_cons_of_mem _ h)
  ·rcases mem_cellsFrom r _ _ h with h | h
   ·exact .inl h
   ·exact .inr (List.mem_cons_of_mem _ h)
theorem cellsFrom_acc {x : Str} : ∀ (names : List (Str × NameKind)) (n : Nat) (acc : List (Str × Addr)), (∃ c, acc.lookup x = some c) -> ∃ c, (cellsFrom n names acc).lookup x = some c
 | [], n, acc, h => h
 | (k, kd) :: r, n, acc, h => by
  unfold cellsFrom
  split
  ·refine cellsFrom_acc r _ _ ?_
   rw [List.lookup_cons]
   cases hb : x == k with
   | true => exact ⟨_, rfl⟩
   | false => exact h
  ·exact cellsFrom_acc r _ _ h
theorem cellsFrom_has {x : Str} : ∀ (names : List (Str × NameKind)) (n : Nat) (acc : List (Str × Addr)), names.lookup x = some .cell -> ∃ c, (cellsFrom n names acc).lookup x = some c
 | [], n, acc, h => by cases h
 | (k, kd) :: r, n, acc, h => by
  rw [List.lookup_cons] at h
  unfold cellsFrom
  cases hb : x == k with
  | true =>
   rw [hb] at h; cases h
   rw [if_pos (show (NameKind.cell == NameKind.cell) = true from by decide)]
   exact cellsFrom_acc r _ _ ⟨n, by rw [List.lookup_cons, hb]⟩
  | false =>
   rw [hb] at h
   split <;> exact cellsFrom_has r _ _ h
noncomputable def scopeOk (sc : Scope) : Bool := sc.kind == .function && !sc.isCoroutine && !sc.isGenerator && sc.names.all fun p => p.2 != .free && (p.2 != .cell || sc.names.lookup p.1 == some .cell)
noncomputable def bindsOk (sc : Scope) (names : List Str) : Bool := names.all fun x => sc.names.lookup x == some .local || sc.names.lookup x == some .cell
theorem Room.deeper {n : Nat} {A : Around} {env : Env} (r : Room (n + 1) A) : Room n (A.deeper env) :=
 ⟨r.1, by have := r.2.1; show A.depth + 1 + 4 * n <= 900; lia, by have := r.2.2; show A.units + 3 + 60 * n <= 9000; lia⟩
theorem Room.in1 {n : Nat} {A : Around} (r : Room (n + 1) A) : Room n A.in1 :=
 ⟨r.1, by have := r.2.1; show A.depth + 4 * n <= 900; lia, by have := r.2.2; show A.units + 1 + 60 * n <= 9000; lia⟩
theorem get_none_of_lt {h : Heap} {a : Addr} (e : h.objs.size <= a) : h.get? a = none := by
 cases q : h.get? a with
 | none => rfl
 | some o => exact absurd (Heap.lt_size q) (Nat.not_lt.mpr e)
theorem St.out {F : Addr -> Prop} {σ : Store} {s : Shared} (S : St Γ F σ s) {a : Addr} (e : s.heap.get? a = none) : σ a = none /\ Γ.h₀.get? a = none /\ ¬ F a := by
 refine ⟨?_, ?_, ?_⟩
 ·cases q : σ a with
  | none => rfl
  | some v => obtain ⟨o, h⟩ := (S.rep _ _ q).ex; rw [e] at h; cases h
 ·cases q : Γ.h₀.get? a with
  | none => rfl
  | some o => rw [S.base _ _ q] at e; cases e
 ·intro f; obtain ⟨o, h⟩ := S.fin _ f; rw [e] at h; cases h
noncomputable def RetQ (Q : V -> Store -> Prop) (fl : Fl) (_ : Vars) (σ' : Store) : Prop := match fl with
 | .ret v => Q v σ'
 | .next => Q .none σ'
 | _ => False
theorem ACode.fn {n : Nat} {σ : Store} {Q : V -> Store -> Prop} {fa : Addr} {o : Obj} {fd : FuncData} {body : List Stmt} {names : List Str} {vs : List V}
  (ho : Γ.K.lookup fa = some o) (hd : o.data = .func fd) (hb : fd.body = .stmts body) (hclo : fd.closure = []) (hsc : scopeOk fd.scope = true)
  (hg : fd.globals = mainGlobals) (hbl : fd.builtins = builtinsNs) (hcode : codeIn Γ.K fd.code fd.qualname = true)
  (hbind : ∀ vals : List Value, vals.length = vs.length -> bindArgs fd ⟨vals, []⟩ = pure (names.zip vals)) (hbk : bindsOk fd.scope names = true)
  (h : AExecs Γ n fd.scope ((names.zip vs).reverse) body σ (RetQ Q)) : ACode Γ (n + 1) (.ref fa) vs σ Q := by
 intro A s F fv vals hA S rf rv
 obtain rfl := rf.ref_inv
 simp only [scopeOk, Bool.and_eq_true, beq_iff_eq, Bool.not_eq_true', List.all_eq_true, Bool.or_eq_true, bne_iff_ne, ne_eq] at hsc
 obtain ⟨⟨⟨hk, hco⟩, hgen⟩, hnm⟩ := hsc
 simp only [bindsOk, List.all_eq_true, Bool.or_eq_true, beq_iff_eq] at hbk
 have hoS := S.base _ _ (Γ.X _ _ ho)
 have hL : s.heap.get? s.heap.objs.size = none := get_size _
 refine (codeAny_call_cells (fd := fd) (binds := names.zip vals) hA.depth hoS hd (Γ.lim.keeps S.base) (codeRec_of (fun a o e => S.base _ _ (Γ.X a o e)) hcode) hb
  (hbind vals (rv.length).symm) hclo (fun x hx => ?_) (fun s₁ IC => ?_) hco hgen hk)
 ·have : x.1 ∈ names := (List.of_mem_zip hx).1
  rcases hbk _ this with e | e
  ·exact .inl e
  ·refine .inr ⟨e, ?_⟩
   obtain ⟨c, hc⟩ := cellsFrom_has (x := x.1) fd.scope.names (s.heap.objs.size + 1) [] e
   rw [hc]; rfl
 have keep := IC.toInCall.keep
 obtain ⟨h', tk, rfl⟩ := IC.toInCall.same
 have R : FrameRel Γ (prot F s.heap.objs.size) σ h' (callEnvC fd s.heap.objs.size fa) ((names.zip vs).reverse) := by
  have hP : PRel Γ (DD σ (prot F s.heap.objs.size)) h' (names.zip vs).reverse (names.zip vals).reverse := by
   refine PRel.reverse (PRel.zip names ?_)
   have : ∀ {vs : List V} {xs : List Value}, VsRel Γ (DD σ F) s.heap vs xs -> VsRel Γ (DD σ (prot F s.heap.objs.size)) h' vs xs := by
    intro vs
    induction vs with
    | nil => intro xs r; cases r; exact .nil
    | cons v vs ih => intro xs r; cases r with | cons a r => exact .cons (a.prot (s' := { s with heap := h', toks := tk }) hL keep) (ih r)
   exact this rv
  refine ⟨hk, hg, hbl, ⟨.inr rfl, (S.out hL).1, (S.out hL).2.1⟩, ⟨_, IC.toInCall.ns, fun x v e ky => ?_⟩, fun x c e => ?_, IC.apart, fun x e => ?_, fun x c e ky => ?_⟩
  ·obtain ⟨y, h1, h2⟩ := hP.lookup e
   exact ⟨y, by rw [bindL_eq _ _ ky, h1]; rfl, h2⟩
  ·have habove := IC.above x c (mem_of_lookup e)
   have hc : s.heap.get? c = none := get_none_of_lt (Nat.le_of_lt habove)
   refine ⟨(S.out hc).1, (S.out hc).2.1, Nat.ne_of_gt habove, _, IC.cell x c e, fun v ev => ?_⟩
   obtain ⟨y, h1, h2⟩ := hP.lookup ev
   refine ⟨y, ?_, h2⟩
   rw [bindC_eq _ _ ?_, h1]; rfl
   intro ky
   rcases mem_cellsFrom _ _ _ (mem_of_lookup e) with m | m
   ·cases m
   ·have := (hnm _ m).2
    rcases this with q | q
    ·exact q rfl
    ·exact absurd (ky.symm.trans q) (by intro e; cases e)
  ·rcases e with e | e
   ·exact cellsFrom_has _ _ _ e
   ·exact absurd rfl ((hnm _ (mem_of_lookup e)).1)
  ·rcases mem_cellsFrom _ _ _ (mem_of_lookup e) with m | m
   ·cases m
   ·rcases (hnm _ m).2 with q | q
    ·exact q rfl
    ·exact absurd (ky.symm.trans q) (by intro e; cases e)
 have S₁ : St Γ (prot F s.heap.objs.size) σ { s with heap := h', toks := tk } := S.prot hL keep (let ⟨o, _, _, e, _⟩ := IC.toInCall.ns; ⟨o, e⟩) rfl rfl
 refine wpAny_mono (h _ _ _ _ rfl hA.deeper R S₁) (fun f s' p => ?_) fun _ _ e => e.elim
 obtain ⟨fl, ρ', σ', r, R', S', T, q⟩ := p
 have own : ∀ b o, s.heap.get? b = some o -> ¬ Own (callEnvC fd s.heap.objs.size fa) b := fun b o e w => by
  have hlt := Heap.lt_size e
  rcases w with w | ⟨x, w⟩
  ·rw [w] at hlt; exact Nat.lt_irrefl _ hlt
  ·exact absurd (IC.above x b (mem_of_lookup w)) (Nat.not_lt.mpr (Nat.le_of_lt hlt))
 have T' : Trans σ s σ' s' := ⟨fun b o e nn => T.keep b o (keep b o e) nn (own b o e), fun b e => by
  cases q : s.heap.get? b with
  | none => exact .inr rfl
  | some o =>
   rcases T.fresh b (own b o q) e with e' | e'
   ·exact .inl e'
   ·have := keep b o q; rw [this] at e'; cases e'⟩
 cases r with
 | next => exact ⟨.none, σ', .none, S'.unprot, T', q⟩
 | ret r => exact ⟨_, σ', r.unprot, S'.unprot, T', q⟩
 | _ => exact q.elim
theorem ACall.fn {n : Nat} {σ : Store} {Q : V -> Store -> Prop} {fa : Addr} {o : Obj} {fd : FuncData} {body : List Stmt} {names : List Str} {vs : List V}
  (ho : Γ.K.lookup fa = some o) (hd : o.data = .func fd) (hb : fd.body = .stmts body) (hclo : fd.closure = []) (hsc : scopeOk fd.scope = true)
  (hg : fd.globals = mainGlobals) (hbl : fd.builtins = builtinsNs) (hcode : codeIn Γ.K fd.code fd.qualname = true)
  (hbind : ∀ vals : List Value, vals.length = vs.length -> bindArgs fd ⟨vals, []⟩ = pure (names.zip vals)) (hbk : bindsOk fd.scope names = true)
  (h : AExecs Γ n fd.scope ((names.zip vs).reverse) body σ (RetQ Q)) : ACall Γ (n + 1) (.ref fa) vs σ Q :=
 (ACode.fn ho hd hb hclo hsc hg hbl hcode hbind hbk h).call
end Mine
namespace Mine
open PySem PySem.W PyProof.Rows PySem.Calls Builtin.ObjectAttr Builtin
variable {Γ : Cx}
noncomputable def keepOk (Γ : Cx) : V -> Prop
 | .ref a => keepIn Γ.K (.ref a) = true
 | .blt _ => True
 | .typ _ => True
 | _ => False
section
variable {n : Nat} {sc : Scope} {ρ : Vars} {σ : Store} {Q Q' : V -> Store -> Prop}
theorem keepOk_looks {F : Addr -> Prop} {f : V} {fv : Value} (hk : keepOk Γ f) {D : Addr -> Prop} {h : Heap} (r : VRel Γ D h f fv) (h' : Heap) (X : Γ.K.In h') :
  ∃ k, (k = Keeper.frame \/ k = Keeper.machine \/ k = Keeper.boundFrame) /\ Looks (Md Γ) h' (keeperOf fv) k := by
 cases f with
 | ref a => obtain rfl := r.ref_inv; exact keeps_K hk h' X
 | blt i => obtain rfl := r.blt_inv; exact ⟨.machine, .inr (.inl rfl), Looks.of_pure rfl⟩
 | typ i => obtain rfl := r.typ_inv; exact ⟨.machine, .inr (.inl rfl), Looks.of_pure rfl⟩
 | _ => exact hk.elim
theorem evalArgs_nilS {M : Model} {A : Around} {E : Value -> Shared -> Prop} {s : Shared} {f : Value} {Q : Args -> Shared -> Prop} (h : wpAny M A (spliced []) (fun vs s' => Q ⟨vs, []⟩ s') E s) : wpAny M A (evalArgs f true [] []) Q E s := by
 unfold evalArgs
 show wpAny M A (spliced [] >>= _) Q E s
 refine wpAny_bind (wpAny_mono h (fun vs s' h' => ?_) fun _ _ x => x)
 refine wpAny_holding ?_
 exact wpAny_bind (wpAny_pure (wpAny_bind (wpAny_pure (wpAny_pure h'))))
theorem callWith_any {A : Around} {s : Shared} {F : Addr -> Prop} {env : Env} {f : V} {fv : Value} {first : List V} {firstv : List Value} {pos : Pos} {args : List Expr} (he : env.scope = sc) (hA : Room n A)
  (hR : FrameRel Γ F σ s.heap env ρ) (S : St Γ F σ s) (rf : VRel Γ (DD σ F) s.heap f fv) (rv : VsRel Γ (DD σ F) s.heap first firstv) (hk : keepOk Γ f)
  (h : AArgs Γ n sc ρ args σ fun vs σ₁ => ACall Γ n f (first ++ vs) σ₁ Q)
  (hargs : args = [] \/ ∃ e rest, args = e :: rest /\ starEach (e :: rest) env = (false, eval e env) :: starEach rest env /\ (backTo pos (starEach rest env)).any (·.1) = false) :
  wpAny (Md Γ) A (callWith pos fv firstv (backTo pos (starEach args env)) []) (Post Γ F σ s Q) NoE s := by
 have key : wpAny (Md Γ) A (spliced (backTo pos (starEach args env))) (fun vs s₁ => Γ.K.In s₁.heap /\ wpAny (Md Γ) A (call fv (firstv ++ vs)) (Post Γ F σ s Q) NoE s₁) NoE s := by
  refine wpAny_mono (h A s F env pos he hA hR S) (fun vals s₁ p => ?_) fun _ _ e => e
  obtain ⟨vs, σ₁, r, S₁, T₁, q⟩ := p
  refine ⟨fun a o e => S₁.base _ _ (Γ.X a o e), ?_⟩
  exact wpAny_mono (q A s₁ F fv _ hA S₁ (rf.trans T₁) ((rv.trans T₁).append r)) (fun _ _ p => p.trans T₁) fun _ _ e => e
 rcases hargs with rfl | ⟨e, rest, rfl, h1, h2⟩
 ·refine callWith_of (P := fun h => Γ.K.In h) rfl (fun h' X => keepOk_looks (F := F) hk rf h' X) ?_
  exact evalArgs_nilS key
 ·rw [h1] at key ⊢
  exact callWith_of (P := fun h => Γ.K.In h) (by show ((false || (backTo pos (starEach rest env)).any (·.1)) || false) = false; rw [h2]; rfl) (fun h' X => keepOk_looks (F := F) hk rf h' X) (evalArgs_plain key)
noncomputable def plainE : Expr -> Bool
 | .Starred .. => false
 | _ => true
noncomputable def plainArgs : List Expr -> Bool
 | [] => true
 | e :: es => plainE e && plainArgs es
theorem plain_star {e : Expr} (h : plainE e = true) (es : List Expr) (env : Env) : starEach (e :: es) env = (false, eval e env) :: starEach es env := by
 cases e <;> first | rfl | exact nomatch h
theorem plain_any {pos : Pos} {env : Env} : ∀ {es : List Expr}, plainArgs es = true -> (backTo pos (starEach es env)).any (·.1) = false
 | [], _ => rfl
 | e :: es, h => by
  rw [plainArgs, Bool.and_eq_true] at h
  rw [plain_star h.1]
  exact plain_any (es := es) h.2
theorem plain_args {pos : Pos} {args : List Expr} (h : plainArgs args = true) (env : Env) : args = [] \/ ∃ e rest, args = e :: rest /\ starEach (e :: rest) env = (false, eval e env) :: starEach rest env /\ (backTo pos (starEach rest env)).any (·.1) = false := by
 cases args with
 | nil => exact .inl rfl
 | cons e es =>
  rw [plainArgs, Bool.and_eq_true] at h
  exact .inr ⟨e, es, rfl, plain_star h.1 es env, plain_any h.2⟩
noncomputable def methDo (o : Expr) (name : Str) (apos : Pos) (args : List Expr) (pos : Pos) (env : Env) : Sem Value := do
 let ov <- eval o env
 standAt apos.atName
 let (f, first) <- holding [ov] (getMethod ov name (do return (<- importBound o env).getD true))
 callWith pos f first (backTo pos (starEach args env)) []
noncomputable def CallQ (Γ : Cx) (n : Nat) (sc : Scope) (ρ : Vars) (args : List Expr) (Q : V -> Store -> Prop) : V -> Store -> Prop := fun f σ => keepOk Γ f /\ AArgs Γ n sc ρ args σ (FunQ Γ n f [] Q)
theorem AEval.call {func : Expr} {args : List Expr} {pos : Pos} (h : AEval Γ n sc ρ func σ (CallQ Γ n sc ρ args Q))
  (he : ∀ env, eval (.Call func args [] pos) env = (do callWith pos (<- eval func env) [] (backTo pos (starEach args env)) (backToKw pos (keywordEach [] env))) := by intro _; rfl)
  (hargs : plainArgs args = true := by exact rfl) :
  AEval Γ n sc ρ (.Call func args [] pos) σ Q := by
 intro A s F env hs hA hR S
 rw [he]
 refine wpAny_bind (seq_eval (α := Unit) hs hA hR S h fun f σ₁ fv s₁ r R₁ S₁ T₁ h₁ => ?_)
 exact wpAny_mono (callWith_any (Q := Q) (first := []) hs hA R₁ S₁ r .nil h₁.1 h₁.2 (plain_args hargs env)) (fun _ _ p => p.trans T₁) fun _ _ e => e
inductive PostM (Γ : Cx) (F : Addr -> Prop) (σ : Store) (s : Shared) (Q : V -> List V -> Store -> Prop) (p : Value × List Value) (s' : Shared) : Prop
 | mk (f : V) (first : List V) (σ' : Store) (r : VRel Γ (DD σ' F) s'.heap f p.1) (rs : VsRel Γ (DD σ' F) s'.heap first p.2) (S : St Γ F σ' s') (T : Trans σ s σ' s') (q : Q f first σ') : PostM Γ F σ s Q p s'
noncomputable def AMeth (Γ : Cx) (n : Nat) (o : V) (name : Str) (σ : Store) (Q : V -> List V -> Store -> Prop) : Prop :=
 ∀ A s F x pl, Room n A -> St Γ F σ s -> VRel Γ (DD σ F) s.heap o x -> wpAny (Md Γ) A (getMethod x name pl) (PostM Γ F σ s Q) NoE s
noncomputable def FoundQ (Γ : Cx) (n : Nat) (sc : Scope) (ρ : Vars) (args : List Expr) (Q : V -> Store -> Prop) : V -> List V -> Store -> Prop := fun f first σ => keepOk Γ f /\ AArgs Γ n sc ρ args σ (FunQ Γ n f first Q)
noncomputable def MethQ (Γ : Cx) (n : Nat) (sc : Scope) (ρ : Vars) (name : Str) (args : List Expr) (Q : V -> Store -> Prop) : V -> Store -> Prop := fun ov σ => AMeth Γ n ov name σ (FoundQ Γ n sc ρ args Q)
theorem AEval.meth {o : Expr} {name : Str} {apos pos : Pos} {args : List Expr}
  (h : AEval Γ n sc ρ o σ (MethQ Γ n sc ρ name args Q))
  (he : ∀ env, eval (.Call (.Attribute o name apos) args [] pos) env = methDo o name apos args pos env := by intro _; rfl)
  (hargs : plainArgs args = true := by exact rfl) :
  AEval Γ n sc ρ (.Call (.Attribute o name apos) args [] pos) σ Q := by
 intro A s F env hs hA hR S
 refine MethodCall_ (pl := (do return (<- importBound o env).getD true)) (seq_eval (α := Unit) hs hA hR S h fun ov σ₁ x s₁ r R₁ S₁ T₁ h₁ => ?_) (he env)
 refine wpAny_mono (h₁ A s₁ F x _ hA S₁ r) (fun p s₂ q => ?_) fun _ _ e => e
 obtain ⟨f, first, σ₂, rf, rv, S₂, T₂, hk, h₂⟩ := q
 exact wpAny_mono (callWith_any (Q := Q) hs hA (R₁.trans T₂) S₂ rf rv hk h₂ (plain_args hargs env)) (fun _ _ p => p.trans (T₁.trans T₂)) fun _ _ e => e
noncomputable def fget (name : Str) : List (V × V) -> Option V
 | [] => .none
 | (.str s, v) :: r => if s = name then some v else fget name r
 | _ :: r => fget name r
noncomputable def fput (name : Str) (v : V) : List (V × V) -> List (V × V)
 | [] => [(.str name, v)]
 | (.str s, u) :: r => if s = name then (.str s, v) :: r else (.str s, u) :: fput name v r
 | p :: r => p :: fput name v r
theorem DRel.keyS {D : Addr -> Prop} {h : Heap} {k v : V} {e : DictEntry} {es : List (V × V)} {r : List DictEntry} (x : DRel Γ D h .S ((k, v) :: es) (e :: r)) :
  ∃ (s : Str) (t : Tok), k = .str s /\ e.key = .str s t /\ VRel Γ D h v e.val /\ DRel Γ D h .S es r := by
 cases x with
 | cons o _ a b c =>
  obtain ⟨s, rfl⟩ := o
  obtain ⟨t, ht⟩ := a.str_inv
  exact ⟨s, t, rfl, ht, b, c⟩
theorem getL_spec {D : Addr -> Prop} {h : Heap} (name : Str) : ∀ {fs : List (V × V)} {es : List DictEntry}, DRel Γ D h .S fs es ->
  (es.any (·.refKey) = false) /\ (match fget name fs with
   | .none => es.find? (·.key.isStr name) = .none
   | some v => ∃ e, es.find? (·.key.isStr name) = some e /\ VRel Γ D h v e.val)
 | [], _, .nil => ⟨rfl, rfl⟩
 | (k, v) :: fs, e :: es, x => by
  obtain ⟨s, t, rfl, hk, hv, hr⟩ := x.keyS
  obtain ⟨h1, h2⟩ := getL_spec name hr
  refine ⟨?_, ?_⟩
  ·rw [List.any_cons, h1]; simp [DictEntry.refKey, hk]
  ·rw [List.find?_cons, hk]
   show match (if s = name then some v else fget name fs) with | .none => _ | some v => _
   by_cases q : s = name
   ·subst q; rw [if_pos rfl]; exact ⟨e, by simp [Value.isStr], hv⟩
   ·rw [if_neg q]
    have : Value.isStr (.str s t) name = false := by simpa [Value.isStr] using q
    rw [this]; exact h2
theorem getL_some {D : Addr -> Prop} {h : Heap} {name : Str} {fs : List (V × V)} {es : List DictEntry} {v : V} (x : DRel Γ D h .S fs es) (e : fget name fs = some v) : ∃ val, getL name es = some (some val) /\ VRel Γ D h v val := by
 obtain ⟨_, h2⟩ := getL_spec name x
 rw [e] at h2
 obtain ⟨en, he, hv⟩ := h2
 exact ⟨en.val, by unfold getL; rw [he], hv⟩
theorem getL_none {D : Addr -> Prop} {h : Heap} {name : Str} {fs : List (V × V)} {es : List DictEntry} (x : DRel Γ D h .S fs es) (e : fget name fs = .none) : getL name es = some .none := by
 obtain ⟨h1, h2⟩ := getL_spec name x
 rw [e] at h2
 unfold getL; rw [h2, h1]; rfl
theorem ORel.inst_inv {D : Addr -> Prop} {h : Heap} {C d a : Addr} (x : ORel Γ D h (.inst C d) a) : h.get? a = some (instObj C d) := by cases x with | inst e => exact e
theorem ORel.dct_inv {D : Addr -> Prop} {h : Heap} {k : Kd} {es : List (V × V)} {a : Addr} (x : ORel Γ D h (.dct k es) a) : ∃ arr m, h.get? a = some { cls := .type "dict", data := .dict arr m } /\ (a == sysModules) = false /\ DRel Γ D h k es arr.toList /\ (es.map (·.1)).Nodup := by
 cases x with | dct e s r n => exact ⟨_, _, e, s, r, n⟩
theorem ORel.lst_inv {D : Addr -> Prop} {h : Heap} {vs : List V} {a : Addr} (x : ORel Γ D h (.lst vs) a) : ∃ arr m, h.get? a = some (seqObj "list" arr m) /\ VsRel Γ D h vs arr.toList := by
 cases x with | lst e r => exact ⟨_, _, e, r⟩
theorem instAt {F : Addr -> Prop} {s : Shared} (S : St Γ F σ s) {a C d : Addr} {fs : List (V × V)} (ha : σ a = some (.inst C d)) (hd : σ d = some (.dct .S fs)) :
  ∃ es m, InstAt s.heap a (instObj C d) C (some (dictOf es m)) /\ DRel Γ (DD σ F) s.heap .S fs es /\ s.heap.get? d = some (dictOf es m) := by
 obtain ⟨arr, m, h1, _, h2, _⟩ := (S.rep _ _ hd).dct_inv
 refine ⟨arr.toList, m, ⟨(S.rep _ _ ha).inst_inv, rfl, rfl, ?_⟩, h2, ?_⟩
 ·exact h1
 ·exact h1
theorem St.X {F : Addr -> Prop} {s : Shared} (S : St Γ F σ s) : Γ.K.In s.heap := fun a o e => S.base _ _ (Γ.X a o e)
noncomputable def clsMeth (K : Frag) (C : Addr) (name : Str) (f : Addr) : Bool := plainGet K C name && findIn K (.ref C) name == some (some (.ref f)) && isFn K (.ref f) && keepIn K (.ref f)
theorem AMeth.own {a C d f : Addr} {fs : List (V × V)} {name : Str} {Q : V -> List V -> Store -> Prop} (ha : σ a = some (.inst C d)) (hd : σ d = some (.dct .S fs)) (hm : clsMeth Γ.K C name f = true) (hn : fget name fs = .none)
  (q : Q (.ref f) [.ref a] σ) : AMeth Γ n (.ref a) name σ Q := by
 intro A s F x pl hA S r
 obtain rfl := r.ref_inv
 simp only [clsMeth, Bool.and_eq_true, beq_iff_eq] at hm
 obtain ⟨⟨⟨h1, h2⟩, h3⟩, h4⟩ := hm
 obtain ⟨es, m, I, D, _⟩ := instAt S ha hd
 refine method_fn (S.X) I (plainGet_of h1).1 (plainGet_of h1).2 h2 (beq_iff_eq.mp h3) ?_ ⟨.ref f, [.ref a], σ, .ref f, .cons (.ref a) .nil, S, Trans.refl _ _, q⟩
 show (lookIn name (dictOf es m)).map _ = _
 rw [lookIn_dict, getL_none D hn]; rfl
noncomputable def clsField (K : Frag) (C : Addr) (name : Str) : Bool := plainGet K C name && hasDictIn K C && (match findIn K (.ref C) name with | some attr => noGet K attr | .none => false)
noncomputable def notBlt : V -> Bool
 | .blt _ => false
 | _ => true
theorem handed_of {D : Addr -> Prop} {h : Heap} {v : V} {x : Value} (r : VRel Γ D h v x) (e : notBlt v = true) : handedIn x = true := by
 cases r <;> first | rfl | cases e
inductive FieldQ (Γ : Cx) (attr : Str) (Q : V -> Store -> Prop) (o : V) (σ : Store) : Prop
 | mk (a C d : Addr) (fs : List (V × V)) (v : V) (e : o = .ref a) (h1 : σ a = some (.inst C d)) (h2 : σ d = some (.dct .S fs)) (h3 : clsField Γ.K C attr = true) (h4 : fget attr fs = some v) (h5 : notBlt v = true) (q : Q v σ) : FieldQ Γ attr Q o σ
theorem AEval.field {value : Expr} {attr : Str} {pos : Pos}
  (h : AEval Γ n sc ρ value σ (FieldQ Γ attr Q))
  (he : ∀ env, eval (.Attribute value attr pos) env = (do
   let o <- eval value env
   standAt pos.atName
   let r <- holding [o] (getAttr o attr true)
   letTemporaryGo value o r
   pure r) := by intro _; rfl) : AEval Γ n sc ρ (.Attribute value attr pos) σ Q := by
 intro A s F env hs hA hR S
 rw [he]
 refine wpAny_bind (seq_eval (α := Unit) hs hA hR S h fun o σ₁ x s₁ r R₁ S₁ T₁ h₁ => ?_)
 obtain ⟨a, C, d, fs, v, rfl, ha, hd, hc, hv, hb, q⟩ := h₁
 obtain rfl := r.ref_inv
 simp only [clsField, Bool.and_eq_true] at hc
 obtain ⟨⟨h1, h2⟩, h3⟩ := hc
 obtain ⟨es, m, I, D, _⟩ := instAt S₁ ha hd
 obtain ⟨val, hl, rv⟩ := getL_some D hv
 cases hf : findIn Γ.K (.ref C) attr with
 | none => rw [hf] at h3; cases h3
 | some at' =>
  rw [hf] at h3
  refine wpAny_bind (wpAny_standAt (wpAny_bind (wpAny_holding (get_value S₁.X I (plainGet_of h1).1 (findObj_own h2 hf h3 (by rw [lookIn_dict]; exact hl)) (handed_of rv hb) ?_))))
  exact wpAny_bind (wpAny_letTemporaryGo (wpAny_pure ⟨v, σ₁, rv, S₁.tok _, T₁.trans (Trans.tok _), q⟩))
end
end Mine
namespace Mine
open PySem PySem.W PyProof.Rows PySem.Calls Builtin.ObjectAttr Builtin
variable {Γ : Cx}
theorem DRel.put {D : Addr -> Prop} {h : Heap} {name : Str} {v : V} {val : Value} {tk : Tok} (rv : VRel Γ D h v val) : ∀ {fs : List (V × V)} {es : List DictEntry}, DRel Γ D h .S fs es ->
  DRel Γ D h .S (fput name v fs) (putL name (hashStr Γ.w name) (.str name tk) val es)
 | [], _, .nil => .cons ⟨name, rfl⟩ rfl (.str _ _) rv .nil
 | (k, u) :: fs, e :: es, x => by
  cases x with
  | cons o eh a b c =>
   obtain ⟨s, rfl⟩ := o
   obtain ⟨t, ht⟩ := a.str_inv
   unfold fput putL
   rw [ht]
   by_cases q : s = name
   ·subst q
    rw [if_pos rfl, if_pos (by simp [Value.isStr])]
    exact .cons ⟨_, rfl⟩ eh (.str _ _) rv c
   ·rw [if_neg q, if_neg (by simpa [Value.isStr] using q)]
    exact .cons ⟨_, rfl⟩ eh a b (DRel.put rv c)
theorem fput_mem {name : Str} {v : V} : ∀ {fs : List (V × V)} {k : V}, k ∈ (fput name v fs).map (·.1) -> k = .str name \/ k ∈ fs.map (·.1)
 | [], k, h => by simp [fput] at h; exact .inl h
 | (u, w) :: fs, k, h => by
  cases u <;> (try (unfold fput at h; simp only [List.map_cons, List.mem_cons] at h ⊢; rcases h with h | h; exact .inr (.inl h); rcases fput_mem h with h | h; exact .inl h; exact .inr (.inr h)))
  rename_i s
  unfold fput at h
  by_cases q : s = name
  ·rw [if_pos q] at h
   simp only [List.map_cons, List.mem_cons] at h ⊢
   rcases h with h | h
   ·exact .inr (.inl h)
   ·exact .inr (.inr h)
  ·rw [if_neg q] at h
   simp only [List.map_cons, List.mem_cons] at h ⊢
   rcases h with h | h
   ·exact .inr (.inl h)
   ·rcases fput_mem h with h | h
    ·exact .inl h
    ·exact .inr (.inr h)
theorem fput_nodup {name : Str} {v : V} : ∀ {fs : List (V × V)}, (fs.map (·.1)).Nodup -> ((fput name v fs).map (·.1)).Nodup
 | [], _ => by simp [fput]
 | (u, w) :: fs, h => by
  rw [List.map_cons, List.nodup_cons] at h
  have go : u ≠ .str name -> (((u, w) :: fput name v fs).map (·.1)).Nodup := fun q => by
   rw [List.map_cons, List.nodup_cons]
   refine ⟨fun m => ?_, fput_nodup h.2⟩
   rcases fput_mem m with e | e
   ·exact q e
   ·exact h.1 e
  cases u <;> (try (unfold fput; exact go (by intro e; cases e)))
  rename_i s
  unfold fput
  by_cases q : s = name
  ·rw [if_pos q, List.map_cons, List.nodup_cons]; exact h
  ·rw [if_neg q]; exact go (by intro e; injection e with e; exact q e)
theorem putL_length (name : Str) (hsh : Int) (key v : Value) : ∀ es : List DictEntry, (putL name hsh key v es).length <= es.length + 1
 | [] => by simp [putL]
 | e :: r => by
  unfold putL
  split
  ·simp
  ·simp only [List.length_cons]; have := putL_length name hsh key v r; lia
theorem DRel.length {D : Addr -> Prop} {h : Heap} {k : Kd} {fs : List (V × V)} {es : List DictEntry} (x : DRel Γ D h k fs es) : fs.length = es.length :=
 DRel.ind (P := fun fs es => fs.length = es.length) rfl (fun _ _ _ _ _ _ _ _ _ _ r => congrArg (· + 1) r) x
noncomputable def clsStore (K : Frag) (C : Addr) (name : Str) : Bool := findIn K (.ref C) "__setattr__" == some (some (.builtin "object.__setattr__")) && plainOver K C && takerIn K C name == some .none && hasDictIn K C
section
variable {n : Nat} {sc : Scope} {ρ : Vars} {σ : Store} {Q Q' : V -> Store -> Prop}
theorem set_attr {A : Around} {s : Shared} {F : Addr -> Prop} {a C d : Addr} {fs : List (V × V)} {name : Str} {v : V} {val : Value} {R : Unit -> Shared -> Prop} (S : St Γ F σ s) (ha : σ a = some (.inst C d)) (hd : σ d = some (.dct .S fs))
  (hc : clsStore Γ.K C name = true) (rv : VRel Γ (DD σ F) s.heap v val) (hz : fs.length <= 900)
  (h : ∀ s', St Γ F (put σ d (.dct .S (fput name v fs))) s' -> Trans σ s (put σ d (.dct .S (fput name v fs))) s' -> R () s') : wpAny (Md Γ) A (setAttr (.ref a) name val) R NoE s := by
 simp only [clsStore, Bool.and_eq_true, beq_iff_eq] at hc
 obtain ⟨⟨⟨c1, c2⟩, c3⟩, c4⟩ := hc
 obtain ⟨arr, m, g1, g2, g3, g4⟩ := (S.rep _ _ hd).dct_inv
 obtain ⟨es, m', I, D, gd⟩ := instAt S ha hd
 refine set_plain S.X I c1 ?_
 refine osa_open (s := { s with toks := s.toks + 1 }) S.X I c2 c3 fun b => ?_
 obtain ⟨cd, hcd, hd'⟩ := any_some c4
 have hx := I.at_
 refine wpAny_bind (wpAny_pure (wpAny_bind (wpAny_bind (wpAny_loadPart (s := { s with toks := s.toks + 1 }) hx (wpAny_bind (Looks.at (looks_clsIn S.X hcd) ?_))))))
 rw [hd']
 refine wpAny_pure (a := some d) (wpAny_bind (wpAny_pure (wpAny_bind ?_)))
 unfold nsSet
 refine wpAny_bind (wpAny_bind (wpAny_askSetting (wpAny_pure (wpAny_bind (wpAny_mkText (wpAny_bind (wpAny_loadPart (s := { s with toks := s.toks + 1 + 1 }) gd ?_)))))))
 dsimp only
 have c : aRefKeyMayBeTheName name es.toArray = false := by
  rw [aRefKeyMayBeTheName_at, <- Array.any_toList, <- Array.any_toList]
  have := (getL_spec name D).1
  show (!_ && es.any _) = false
  rw [this, Bool.and_false]
 rw [c]
 have gd' : (s.heap.update d (Obj.putName name (hashStr Γ.w name) (.str name (s.toks + 1)) val)).get? d = some (dictOf (putL name (hashStr Γ.w name) (.str name (s.toks + 1)) val es) (putN name es m')) := by
  rw [Heap.get?_update_self _ gd (by rw [putName_dict]; rfl), putName_dict]
 refine wpAny_updatePart (s := { s with toks := s.toks + 1 + 1 }) gd ?_
 refine wpAny_bind (wpAny_lookBehind (o := dictOf (putL name (hashStr Γ.w name) (.str name (s.toks + 1)) val es) (putN name es m')) gd' (pastItsLine_dict (by
  rw [List.size_toArray, sizeLine_eq]; have := putL_length name (hashStr Γ.w name) (.str name (s.toks + 1)) val es; have := D.length; lia)) ?_)
 refine wpAny_pure ?_
 have hne : σ d ≠ none := by rw [hd]; exact fun e => nomatch e
 have hs : Heap.SameBut d s.heap (s.heap.update d (Obj.putName name (hashStr Γ.w name) (.str name (s.toks + 1)) val)) := Heap.SameBut.update ..
 have mono : ∀ b o, ¬ DD σ F b -> solid o = true -> s.heap.get? b = some o -> (s.heap.update d (Obj.putName name (hashStr Γ.w name) (.str name (s.toks + 1)) val)).get? b = some o :=
  fun b o nd _ e => (hs.2 b (fun q => by subst q; exact nd (.inl hne))).trans e
 refine h _ (S.upd hne hs (.dct (arr := (putL name (hashStr Γ.w name) (.str name (s.toks + 1)) val es).toArray) (n := putN name es m') gd' g2 ((D.mono mono (fun _ _ n _ => n)).put (rv.mono mono fun _ _ n _ => n)) (fput_nodup g4)) rfl rfl) (Trans.upd hne hs)
inductive AttrQ (Γ : Cx) (ρ : Vars) (attr : Str) (v : V) (Q : Vars -> Store -> Prop) (ov : V) (σ : Store) : Prop
 | mk (a C d : Addr) (fs : List (V × V)) (e : ov = .ref a) (h1 : σ a = some (.inst C d)) (h2 : σ d = some (.dct .S fs)) (h3 : clsStore Γ.K C attr = true) (h4 : fs.length <= 900) (q : Q ρ (put σ d (.dct .S (fput attr v fs)))) : AttrQ Γ ρ attr v Q ov σ
theorem AAssign.attr {o : Expr} {attr : Str} {pos : Pos} {v : V} {Q : Vars -> Store -> Prop}
  (h : AEval Γ n sc ρ o σ (AttrQ Γ ρ attr v Q)) :
  AAssign Γ n sc ρ (.Attribute o attr pos) v σ Q := by
 intro A s F env val hs hA hR S rv
 show wpAny (Md Γ) A (do
  let ov <- holding [val] (eval o env)
  standAt pos.atName
  holding [val, ov] (setAttr ov attr val)
  release [val, ov] []) _ NoE s
 refine wpAny_bind (wpAny_holding (seq_eval (α := Unit) hs hA hR S h fun ov σ₁ x s₁ r R₁ S₁ T₁ h₁ => ?_))
 obtain ⟨a, C, d, fs, rfl, ha, hd, hc, hz, q⟩ := h₁
 obtain rfl := r.ref_inv
 refine wpAny_bind (wpAny_standAt (wpAny_bind (wpAny_holding (set_attr S₁ ha hd hc (rv.trans T₁) hz fun s' S' T' => ?_))))
 exact wpAny_release ⟨ρ, _, R₁.trans T', S', (T₁.trans T').toF, q⟩
theorem Room.creation {n : Nat} {A : Around} {C : Addr} {rest : List Value} (r : Room (n + 1) A) : Room n (A.under (.builtin "type.__call__" ⟨.ref C :: rest, []⟩)) := by
 have hw : (Code.builtin "type.__call__" ⟨.ref C :: rest, []⟩).weight = 1 := rfl
 have hu : (Code.builtin "type.__call__" ⟨.ref C :: rest, []⟩).cUnits = 1 := rfl
 refine ⟨r.1, ?_, ?_⟩
 ·have := r.2.1; show A.depth + Code.weight _ + 4 * n <= 900; rw [hw]; lia
 ·have := r.2.2; show A.units + Code.cUnits _ + 60 * n <= 9000; rw [hu]; lia
theorem ACall.new {C f : Addr} {vs : List V} (hm : makesIn Γ.K C = true) (hi : findIn Γ.K (.ref C) "__init__" = some (some (.ref f))) (hf : typeIn Γ.K (.ref f) = some (.type "function"))
  (h : ∀ x d, x ≠ d -> σ x = none -> σ d = none -> ACode Γ n (.ref f) (.ref x :: vs) (put (put σ d (.dct .S [])) x (.inst C d)) fun v σ' => v = .none /\ Q (.ref x) σ') : ACall Γ (n + 1) (.ref C) vs σ Q := by
 intro A s F fv vals hA S rf rv
 obtain rfl := rf.ref_inv
 obtain ⟨hh, g, dr, t, os⟩ := s
 have S0 := S
 have hd0 : hh.get? hh.objs.size = none := get_size _
 have k1 : ∀ b o, hh.get? b = some o -> (hh.push emptyDict).get? b = some o := fun b o e => Heap.get?_push_of_some _ e
 have k2 : ∀ b o, (hh.push emptyDict).get? b = some o -> ((hh.push emptyDict).push (instObj C hh.objs.size)).get? b = some o := fun b o e => Heap.get?_push_of_some _ e
 have hx0 : (hh.push emptyDict).get? (hh.objs.size + 1) = none := by rw [<- Heap.size_push hh emptyDict]; exact get_size _
 have hne : hh.objs.size + 1 ≠ hh.objs.size := Nat.succ_ne_self _
 have hsys : (hh.objs.size == sysModules) = false := by
  obtain ⟨o, ho⟩ := Option.isSome_iff_exists.mp Γ.sysm
  have : hh.objs.size ≠ sysModules := fun e => by have := S.base _ _ ho; rw [<- e] at this; rw [hd0] at this; cases this
  simpa using this
 have S1 : St Γ F (put σ hh.objs.size (.dct .S [])) ⟨hh.push emptyDict, g, dr, t, os⟩ :=
  S.alloc (s' := ⟨hh.push emptyDict, g, dr, t, os⟩) hd0 k1 (.dct (Heap.get?_push_size _ rfl) hsys .nil List.nodup_nil) rfl rfl
 have S2 : St Γ F (put (put σ hh.objs.size (.dct .S [])) (hh.objs.size + 1) (.inst C hh.objs.size)) ⟨(hh.push emptyDict).push (instObj C hh.objs.size), g, dr, t, os⟩ :=
  S1.alloc (s' := ⟨(hh.push emptyDict).push (instObj C hh.objs.size), g, dr, t, os⟩) hx0 k2 (.inst (by
   have := Heap.get?_push_size (hh.push emptyDict) (o := instObj C hh.objs.size) rfl
   rwa [Heap.size_push] at this)) rfl rfl
 have T2 : Trans σ ⟨hh, g, dr, t, os⟩ (put (put σ hh.objs.size (.dct .S [])) (hh.objs.size + 1) (.inst C hh.objs.size)) ⟨(hh.push emptyDict).push (instObj C hh.objs.size), g, dr, t, os⟩ :=
  (Trans.alloc (s := ⟨hh, g, dr, t, os⟩) (s' := ⟨hh.push emptyDict, g, dr, t, os⟩) hd0 k1).trans (Trans.alloc (s := ⟨hh.push emptyDict, g, dr, t, os⟩) hx0 k2)
 have hx1 : σ (hh.objs.size + 1) = none := by
  have := (S1.out hx0).1
  rwa [put_ne _ _ hne] at this
 refine wpAny_call (make_core (makes_of S.X hm) (looks_findIn S.X hi) (fun self => bind_fn S.X self hf) (.inl rfl) ?_)
 have key := h (hh.objs.size + 1) hh.objs.size hne hx1 (S.out hd0).1 (A.under (.builtin "type.__call__" ⟨.ref C :: vals, []⟩)) ⟨(hh.push emptyDict).push (instObj C hh.objs.size), g, dr, t, os⟩ F (.ref f) (.ref (hh.objs.size + 1) :: vals)
  (Room.creation hA) S2 (.ref f) (.cons (.ref _) (rv.trans T2))
 refine codeAny_mono key fun r s' p => ?_
 rcases r with _ | (_ | _ | _ | _) <;> first | exact p.elim | skip
 obtain ⟨v, σ', r, S', T', rfl, q⟩ := p
 obtain rfl := r.none_inv
 exact ⟨rfl, _, σ', .ref _, S', T2.trans T', q⟩
end
end Mine
namespace Mine
open PySem PySem.W PyProof.Rows PySem.Calls
section
variable {Γ : Cx}
section
variable {n : Nat} {sc : Scope} {ρ : Vars} {σ : Store} {Q Q' : Fl -> Vars -> Store -> Prop}
theorem zip_rev {α β : Type} : ∀ (l : List α) (r : List β), l.length = r.length -> l.reverse.zip r.reverse = (l.zip r).reverse
 | [], [], _ => rfl
 | a :: l, b :: r, h => by
  have h' : l.length = r.length := by simpa using h
  rw [List.reverse_cons, List.reverse_cons, List.zip_append (by simpa using h'), zip_rev l r h', show (a :: l).zip (b :: r) = (a, b) :: l.zip r from rfl, List.reverse_cons]; rfl
theorem AExec.assign {t value : Expr} {pos : Pos} (h : AEval Γ n sc ρ value σ (AsgQ Γ n sc ρ t Q))
  (hs : ∀ env, env.scope = sc -> swapsWithSole [t] value pos.line env = pure false := by intro _ _; rfl)
  (hw : ∀ env, env.scope = sc -> swappedStores [t] value env = pure none := by intro _ _; rfl)
  (he : ∀ env, (assignEach [t] env).map (·.2) = [assign t env] := by intro _; rfl) : AExec Γ n sc ρ (.Assign [t] value pos) σ Q := by
 intro A s F env hsc hA hR S
 refine wpAny_Assign_stores (seq_eval (α := Unit) hsc hA hR S h fun v σ₁ x s₁ r R₁ S₁ T₁ h₁ => ?_) (hs env hsc) (hw env hsc)
 rw [he]
 refine wpAny_mono (h₁ A s₁ F env x hsc hA R₁ S₁ r) (fun _ s₂ p => ?_) fun _ _ e => e
 obtain ⟨ρ', σ', R₂, S₂, T₂, q⟩ := p
 exact ⟨.next, ρ', σ', .next, R₂, S₂, T₁.toF.trans T₂, q⟩
theorem AAssign.name {x : Str} {pos : Pos} {v : V} {k : NameKind} {Q : Vars -> Store -> Prop} (hk : sc.names.lookup x = some k) (hk' : k = .local \/ k = .cell) (q : Q ((x, v) :: ρ) σ) : AAssign Γ n sc ρ (.Name x pos) v σ Q := by
 intro A s F env val hs hA hR S r
 subst hs
 exact wpAny_assign_Name (store_name hk hk' hR S r fun s' R' S' T' => ⟨_, σ, R', S', T', q⟩)
theorem FrameRel.own {F : Addr -> Prop} {s : Shared} {env : Env} (R : FrameRel Γ F σ s.heap env ρ) {b : Addr} {o : Obj} (nd : ¬ DD σ F b) (so : solid o = true) (e : s.heap.get? b = some o) : ¬ Own env b := fun w => by
 rcases w with w | ⟨y, w⟩
 ·subst w; exact nd (.inr R.prot.1)
 ·obtain ⟨_, _, _, cv, ⟨o', e', hd⟩, _⟩ := R.cell y b w
  rw [e] at e'; cases e'
  unfold solid at so; rw [hd] at so; cases so
theorem transF_keep {F : Addr -> Prop} {σ σ' : Store} {s s' : Shared} {env : Env} (R : FrameRel Γ F σ s.heap env ρ) (T : TransF env σ s σ' s') (b : Addr) (o : Obj) (nd : ¬ DD σ F b) (so : solid o = true) (e : s.heap.get? b = some o) :
  s'.heap.get? b = some o :=
 T.keep b o e (by cases q : σ b with | none => rfl | some v => exact absurd (.inl (by rw [q]; exact fun e => nomatch e)) nd) (R.own nd so e)
end
section
variable {n : Nat} {sc : Scope} {ρ : Vars} {σ : Store} {Q Q' : Fl -> Vars -> Store -> Prop}
theorem VRel.transF {F : Addr -> Prop} {σ σ' : Store} {s s' : Shared} {env : Env} {v : V} {x : Value} (R : FrameRel Γ F σ s.heap env ρ) (T : TransF env σ s σ' s')
  (r : VRel Γ (DD σ F) s.heap v x) : VRel Γ (DD σ' F) s'.heap v x :=
 r.mono2 (fun b o nd so e => transF_keep R T b o nd so e) fun b o nd so e => by
  have nw := R.own nd so e
  unfold DD at *
  rintro (q | q)
  ·rcases T.fresh b nw q with e' | e'
   ·exact nd (.inl e')
   ·rw [e'] at e; cases e
  ·exact nd (.inr q)
theorem VsRel.transF {F : Addr -> Prop} {σ σ' : Store} {s s' : Shared} {env : Env} {vs : List V} {xs : List Value} (R : FrameRel Γ F σ s.heap env ρ) (T : TransF env σ s σ' s')
  (r : VsRel Γ (DD σ F) s.heap vs xs) : VsRel Γ (DD σ' F) s'.heap vs xs := by
 induction vs generalizing xs with
 | nil => cases r; exact .nil
 | cons v vs ih => cases r with | cons a r => exact .cons (a.transF R T) (ih r)
noncomputable def AAssigns (Γ : Cx) (n : Nat) (sc : Scope) : List Expr -> Vars -> List V -> Store -> (Vars -> Store -> Prop) -> Prop
 | [], ρ, vs, σ, Q => match vs with
  | [] => Q ρ σ
  | _ => False
 | t :: ts, ρ, vs, σ, Q => match vs with
  | [] => False
  | v :: vs => AAssign Γ n sc ρ t v σ fun ρ' σ' => AAssigns Γ n sc ts ρ' vs σ' Q
theorem assigns_run {A : Around} {F : Addr -> Prop} {env : Env} {Q : Vars -> Store -> Prop} (hs : env.scope = sc) (hA : Room n A) : ∀ (ts : List Expr) (vs : List V) (xs : List Value) (ρ : Vars) (σ : Store) (s : Shared) (R : Unit -> Shared -> Prop),
  FrameRel Γ F σ s.heap env ρ -> St Γ F σ s -> VsRel Γ (DD σ F) s.heap vs xs -> AAssigns Γ n sc ts ρ vs σ Q ->
  (∀ ρ' σ' s', FrameRel Γ F σ' s'.heap env ρ' -> St Γ F σ' s' -> TransF env σ s σ' s' -> Q ρ' σ' -> R () s') ->
  wpAny (Md Γ) A (assignInOrder (ts.map fun t => assign t env) xs) R NoE s := by
 intro ts
 induction ts with
 | nil =>
  intro vs xs ρ σ s R hR S r q k
  cases vs with
  | nil => cases r; exact wpAny_assignInOrder_none (k ρ σ s hR S (TransF.refl _ _ _) q)
  | cons _ _ => exact q.elim
 | cons t ts ih =>
  intro vs xs ρ σ s R hR S r q k
  cases vs with
  | nil => exact q.elim
  | cons v vs =>
   cases r with
   | cons a r =>
    have q' : AAssign Γ n sc ρ t v σ fun ρ' σ' => AAssigns Γ n sc ts ρ' vs σ' Q := q
    refine wpAny_assignInOrder_more (wpAny_mono (q' A s F env _ hs hA hR S a) (fun _ s₁ p => ?_) fun _ _ e => e)
    obtain ⟨ρ₁, σ₁, R₁, S₁, T₁, q₁⟩ := p
    exact ih vs _ ρ₁ σ₁ s₁ R R₁ S₁ (r.transF hR T₁) q₁ fun ρ' σ' s' a b c d => k ρ' σ' s' a b (T₁.trans c) d
theorem Trans.of_ext {s s' : Shared} (h : Heap.ExtBut s.heap.objs.size s.heap s'.heap) : Trans σ s σ s' :=
 ⟨fun b o e _ => h b o (Nat.ne_of_lt (Heap.lt_size e)) e, fun _ e => .inl e⟩
theorem ext_keep {s s' : Shared} (h : Heap.ExtBut s.heap.objs.size s.heap s'.heap) (b : Addr) (o : Obj) (e : s.heap.get? b = some o) : s'.heap.get? b = some o := h b o (Nat.ne_of_lt (Heap.lt_size e)) e
noncomputable def seqOf : V -> Option (List V)
 | .tup vs => some vs
 | .lst vs => some vs
 | _ => none
theorem unpack_items {A : Around} {s : Shared} {F : Addr -> Prop} {v : V} {vs : List V} {x : Value} {k : Nat} {R : List Value -> Shared -> Prop} (hA : A.handled = none) (S : St Γ F σ s) (r : VRel Γ (DD σ F) s.heap v x) (hv : seqOf v = some vs) (hk : k = vs.length)
  (h : ∀ xs s', VsRel Γ (DD σ F) s'.heap vs xs -> St Γ F σ s' -> Trans σ s σ s' -> R xs s') : wpAny (Md Γ) A (unpackItems x k none) R NoE s := by
 subst hk
 cases v <;> cases (hv)
 ·obtain ⟨a, arr, rfl, nd, ht, rv⟩ := r.tup_inv
  have : vs.length = arr.size := by rw [rv.length, Array.length_toList]
  rw [this]
  refine wpAny_unpackItems_tuple hA ht fun h' he => ?_
  have T : Trans σ s σ { s with heap := h' } := Trans.of_ext he
  exact h _ _ (rv.trans T) (S.grow (ext_keep (s' := { s with heap := h' }) he) rfl rfl) T
 ·obtain ⟨a, arr, m, rfl, nd, ht, rv⟩ := r.lst_inv
  have : vs.length = arr.size := by rw [rv.length, Array.length_toList]
  rw [this]
  refine kun_itemsOf hA ⟨_, ht, rfl, _, rfl⟩ fun h' he => ?_
  have T : Trans σ s σ { s with heap := h' } := Trans.of_ext he
  exact h _ _ (rv.trans T) (S.grow (ext_keep (s' := { s with heap := h' }) he) rfl rfl) T
theorem AAssign.tuple {ts : List Expr} {k : Nat} {pos : Pos} {v : V} {vs : List V} {Q : Vars -> Store -> Prop} (hv : seqOf v = some vs) (hl : ts.length = vs.length) (h : AAssigns Γ n sc ts ρ vs σ Q)
  (he : ∀ env, assignEach ts env = ts.map fun t => (false, assign t env) := by intro _; rfl) : AAssign Γ n sc ρ (.Tuple ts k pos) v σ Q := by
 intro A s F env val hs hA hR S r
 show wpAny (Md Γ) A (do standAt pos; unpack val (assignEach ts env)) _ NoE s
 refine wpAny_bind (wpAny_standAt ?_)
 rw [he]
 unfold unpack
 have h1 : (List.map (fun t => (false, assign t env)) ts).findIdx? (·.1) = none := by
  rw [List.findIdx?_eq_none_iff]
  intro x hx
  obtain ⟨t, _, rfl⟩ := List.mem_map.mp hx
  rfl
 have h2 : (List.map (fun t => (false, assign t env)) ts).map (·.2) = ts.map fun t => assign t env := by rw [List.map_map]; rfl
 rw [h1, h2, List.length_map]
 refine wpAny_bind (wpAny_holding (unpack_items hA.1 S r hv hl fun xs s₁ rv S₁ T₁ => ?_))
 exact assigns_run hs hA ts vs xs ρ σ s₁ _ (hR.trans T₁) S₁ rv h fun ρ' σ' s' a b c d => ⟨ρ', σ', a, b, T₁.toF.trans c, d⟩
inductive PostS (Γ : Cx) (F : Addr -> Prop) (σ : Store) (s : Shared) (Q : Store -> Prop) (s' : Shared) : Prop
 | mk (σ' : Store) (S : St Γ F σ' s') (T : Trans σ s σ' s') (q : Q σ') : PostS Γ F σ s Q s'
noncomputable def ASetItem (Γ : Cx) (n : Nat) (o i v : V) (σ : Store) (Q : Store -> Prop) : Prop :=
 ∀ A s F x y z, Room n A -> St Γ F σ s -> VRel Γ (DD σ F) s.heap o x -> VRel Γ (DD σ F) s.heap i y -> VRel Γ (DD σ F) s.heap v z ->
  wpAny (Md Γ) A (setItem x y z) (fun _ => PostS Γ F σ s Q) NoE s
theorem AAssign.sub {o i : Expr} {pos : Pos} {v : V} {Q : Vars -> Store -> Prop}
  (h : AEval Γ n sc ρ o σ fun ov σ₁ => AEval Γ n sc ρ i σ₁ fun iv σ₂ => ASetItem Γ n ov iv v σ₂ (Q ρ)) : AAssign Γ n sc ρ (.Subscript o i pos) v σ Q := by
 intro A s F env val hs hA hR S rv
 rw [assign_Subscript]
 refine wpAny_bind (wpAny_holding (seq_eval (α := Unit) hs hA hR S h fun ov σ₁ x s₁ r R₁ S₁ T₁ h₁ => ?_))
 refine wpAny_bind (wpAny_holding (seq_eval (α := Unit) hs hA R₁ S₁ h₁ fun iv σ₂ y s₂ r' R₂ S₂ T₂ h₂ => ?_))
 refine wpAny_bind (wpAny_standAt (wpAny_bind (wpAny_holding (wpAny_mono (h₂ A s₂ F x y val hA S₂ (r.trans T₂) r' ((rv.trans T₁).trans T₂)) (fun _ s₃ p => ?_) fun _ _ e => e))))
 obtain ⟨σ₃, S₃, T₃, q⟩ := p
 exact wpAny_release ⟨ρ, σ₃, R₂.trans T₃, S₃, ((T₁.trans T₂).trans T₃).toF, q⟩
theorem AExec.swap {ts : List Expr} {value : Expr} {k : Nat} {p' pos : Pos} {names : List Str}
  (h : AEval Γ n sc ρ value σ fun v σ₁ => ∃ vs, seqOf v = some vs /\ vs.length = names.length /\ Q .next ((names.zip vs) ++ ρ) σ₁)
  (hn : ∀ x ∈ names, sc.names.lookup x = some .local)
  (hw : ∀ env, env.scope = sc -> swappedStores [.Tuple ts k p'] value env = pure (some names))
  (hs : ∀ env, env.scope = sc -> swapsWithSole [.Tuple ts k p'] value pos.line env = pure false := by intro _ _; rfl) : AExec Γ n sc ρ (.Assign [.Tuple ts k p'] value pos) σ Q := by
 intro A s F env hsc hA hR S
 rw [exec_Assign_arm]
 refine wpAny_bind (wpAny_standAt ?_)
 rw [hs env hsc]
 refine wpAny_bind (wpAny_pure ?_)
 rw [if_neg (by decide)]
 refine wpAny_bind (seq_eval (α := Unit) hsc hA hR S h fun v σ₁ x s₁ r R₁ S₁ T₁ h₁ => ?_)
 rw [hw env hsc]
 refine wpAny_bind (wpAny_pure ?_)
 obtain ⟨vs, hv, hl, q⟩ := h₁
 show wpAny (Md Γ) A (do
  rule "assign.swapped-stores"
  let items <- unpackItems x names.length none
  assignInOrder (names.reverse.map fun n => bindName env n) items.reverse
  pure Flow.next) _ NoE s₁
 refine wpAny_bind (wpAny_rule (wpAny_bind (unpack_items hA.1 S₁ r hv hl.symm fun xs s₂ rv S₂ T₂ => wpAny_bind ?_)))
 have go : ∀ (nm : List Str) (ws : List V) (ys : List Value) (ρ' : Vars) (s₃ : Shared), (∀ x ∈ nm, sc.names.lookup x = some .local) -> nm.length = ws.length -> FrameRel Γ F σ₁ s₃.heap env ρ' -> St Γ F σ₁ s₃ -> TransF env σ s σ₁ s₃ -> VsRel Γ (DD σ₁ F) s₃.heap ws ys ->
   (∀ s₄, FrameRel Γ F σ₁ s₄.heap env ((nm.zip ws).reverse ++ ρ') -> St Γ F σ₁ s₄ -> TransF env σ s σ₁ s₄ -> PostX Γ F env σ s Q Flow.next s₄) ->
   wpAny (Md Γ) A (assignInOrder (nm.map fun n => bindName env n) ys) (fun _ s₄ => wpAny (Md Γ) A (pure Flow.next : Sem Flow) (PostX Γ F env σ s Q) NoE s₄) NoE s₃ := by
  intro nm
  induction nm with
  | nil =>
   intro ws ys ρ' s₃ _ hlen R₃ S₃ T₃ rw' kk
   cases ws with
   | nil => cases rw'; exact wpAny_assignInOrder_none (wpAny_pure (kk s₃ (by simpa using R₃) S₃ T₃))
   | cons _ _ => cases hlen
  | cons y nm ih =>
   intro ws ys ρ' s₃ hall hlen R₃ S₃ T₃ rw' kk
   cases ws with
   | nil => cases hlen
   | cons w ws =>
    cases rw' with
    | cons a rw' =>
     refine wpAny_assignInOrder_more (wpAny_bindName (store_name (by rw [hsc]; exact hall y List.mem_cons_self) (.inl rfl) R₃ S₃ a fun s₄ R₄ S₄ T₄ => ?_))
     refine ih ws _ _ s₄ (fun z hz => hall z (List.mem_cons_of_mem _ hz)) (by simpa using hlen) R₄ S₄ (T₃.trans T₄) (rw'.transF R₃ T₄) fun s₅ R₅ S₅ T₅ => kk s₅ ?_ S₅ T₅
     simpa using R₅
 refine go names.reverse vs.reverse xs.reverse ρ s₂ (fun x hx => hn x (List.mem_reverse.mp hx)) (by simp [hl]) (R₁.trans T₂) S₂ (T₁.trans T₂).toF rv.reverse fun s₄ R₄ S₄ T₄ => ⟨.next, _, σ₁, .next, R₄, S₄, T₄, ?_⟩
 have : (names.reverse.zip vs.reverse).reverse = names.zip vs := by
  rw [zip_rev names vs hl.symm, List.reverse_reverse]
 rw [this]; exact q
theorem AExec.while {test : Expr} {body : List Stmt} {pos : Pos} (I : Nat -> Vars -> Store -> Prop) (m : Nat) (h0 : I m ρ σ)
  (turn : ∀ m ρ σ, I m ρ σ -> ATest Γ n sc ρ test σ fun b σ₁ => if b then AExecs Γ n sc ρ body σ₁ (fun fl ρ' σ' => match fl with
   | .next => ∃ k, k < m /\ I k ρ' σ'
   | .cont => ∃ k, k < m /\ I k ρ' σ'
   | .brk => Q .next ρ' σ'
   | .ret v => Q (.ret v) ρ' σ') else Q .next ρ σ₁) : AExec Γ n sc ρ (.While test body [] pos) σ Q := by
 intro A s F env hs hA hR S
 refine wpAny_While ?_
 have hAm : A.mark none = A := by cases A; rfl
 refine codeAny_whileLoop (fun k s' => ∃ ρ' σ', FrameRel Γ F σ' s'.heap env ρ' /\ St Γ F σ' s' /\ TransF env σ s σ' s' /\ I k ρ' σ') (fun k s₁ hI => ?_) m ⟨ρ, σ, hR, S, TransF.refl _ _ _, h0⟩
 obtain ⟨ρ₁, σ₁, R₁, S₁, T₁, i₁⟩ := hI
 refine wpAny_mono (turn k ρ₁ σ₁ i₁ A s₁ F env hs hA R₁ S₁) (fun b s₂ p => ?_) fun _ _ e => e.elim
 obtain ⟨σ₂, S₂, T₂, q⟩ := p
 cases b with
 | false => exact wpAny_execs_nil ⟨.next, ρ₁, σ₂, .next, R₁.trans T₂, S₂, T₁.trans T₂.toF, q⟩
 | true =>
  refine wpAny_mono (q A s₂ F env hs hA (R₁.trans T₂) S₂) (fun f s₃ p => ?_) fun _ _ e => e.elim
  obtain ⟨fl, ρ₃, σ₃, r, R₃, S₃, T₃, q⟩ := p
  have T := T₁.trans (T₂.toF.trans T₃)
  cases r with
  | next => obtain ⟨j, hj, i⟩ := q; exact ⟨j, hj, ρ₃, σ₃, R₃, S₃, T, i⟩
  | cont => obtain ⟨j, hj, i⟩ := q; exact ⟨j, hj, ρ₃, σ₃, R₃, S₃, T, i⟩
  | brk => exact ⟨.next, ρ₃, σ₃, .next, R₃, S₃, T, q⟩
  | ret r => exact ⟨.ret _, ρ₃, σ₃, .ret r, R₃, S₃, T, q⟩
end
end
section
variable {Γ : Cx}
structure Iter (Γ : Cx) (tgt : Expr) (I : Addr) (W : Addr -> Prop) (J : List V -> (Addr -> Prop) -> Heap -> Prop) : Prop where
 frame : ∀ xs D D' h h', J xs D h -> (∀ b o, ((¬ D b /\ solid o = true) \/ W b) -> h.get? b = some o -> h'.get? b = some o) -> (∀ b o, ¬ D b -> solid o = true -> h.get? b = some o -> ¬ D' b) -> J xs D' h'
 hollow : ∀ xs D h b, J xs D h -> W b -> ∃ o vs, h.get? b = some o /\ o.data = .fields vs /\ solid o = false
 self : ∀ A s D xs (R : Value -> Shared -> Prop), J xs D s.heap -> R (.ref I) s -> wpAny (Md Γ) A (pyIter (.ref I)) R NoE s
 done : ∀ A s D R, A.handled = none -> J [] D s.heap -> (∀ h' tk, (∀ b o, ¬ W b -> s.heap.get? b = some o -> h'.get? b = some o) -> R none { s with heap := h', toks := tk }) -> wpAny (Md Γ) A (pyNext (.ref I)) R NoE s
 item : ∀ A s D x xs R, A.handled = none -> J (x :: xs) D s.heap -> (∀ b, D b -> ∃ o, s.heap.get? b = some o) ->
  (∀ val s₁, (∀ (R' : Unit -> Shared -> Prop), (∀ h₂ tk, VRel Γ D h₂ x val -> J xs D h₂ -> (∀ b o, ¬ W b -> s.heap.get? b = some o -> h₂.get? b = some o) -> R' () { s with heap := h₂, toks := tk }) ->
   wpAny (Md Γ) A (letOwnedTupleGo tgt (.ref I) val) R' NoE s₁) -> R (some val) s₁) -> wpAny (Md Γ) A (pyNext (.ref I)) R NoE s
noncomputable def NewAt (Γ : Cx) (F : Addr -> Prop) (σ₀ : Store) (s₀ : Shared) (b : Addr) : Prop := (s₀.heap.get? b = none \/ σ₀ b ≠ none) /\ Γ.h₀.get? b = none /\ ¬ F b
theorem NewAt.of {F : Addr -> Prop} {σ₀ σ : Store} {s₀ s : Shared} {b : Addr} (T : Trans σ₀ s₀ σ s) (S : St Γ F σ s) (e : s.heap.get? b = none) : NewAt Γ F σ₀ s₀ b := by
 refine ⟨?_, (S.out e).2.1, (S.out e).2.2⟩
 cases q : s₀.heap.get? b with
 | none => exact .inl rfl
 | some o =>
  refine .inr fun z => ?_
  have := T.keep b o q z
  rw [e] at this; cases this
structure ItNow (Γ : Cx) (F : Addr -> Prop) (σ₀ σ : Store) (s₀ s : Shared) (tgt : Expr) (I : Addr) (xs : List V) (W : Addr -> Prop) (J : List V -> (Addr -> Prop) -> Heap -> Prop) : Prop where
 it : Iter Γ tgt I W J
 new : ∀ b, W b -> NewAt Γ F σ₀ s₀ b
 now : J xs (DD σ F) s.heap
section
variable {n : Nat} {sc : Scope} {ρ : Vars} {σ σ₀ : Store} {s₀ s s' : Shared} {F : Addr -> Prop} {W : Addr -> Prop} {J : List V -> (Addr -> Prop) -> Heap -> Prop} {tgt : Expr} {I : Addr} {xs : List V} {env : Env}
theorem DD_alive (S : St Γ F σ s) (b : Addr) (d : DD σ F b) : ∃ o, s.heap.get? b = some o := by
 rcases d with d | d
 ·cases q : σ b with
  | none => exact absurd q d
  | some v => exact (S.rep _ _ q).ex
 ·exact S.fin _ d
theorem St.walk (S : St Γ F σ s) (N : ∀ b, W b -> NewAt Γ F σ₀ s₀ b) (H : ∀ b, W b -> ∃ o vs, s.heap.get? b = some o /\ o.data = .fields vs /\ solid o = false)
  (k : ∀ b o, ¬ W b -> s.heap.get? b = some o -> s'.heap.get? b = some o) (g : s'.gens = s.gens) (os : s'.os = s.os) : St Γ F σ s' where
 base b o e := k b o (fun w => by have := (N b w).2.1; rw [e] at this; cases this) (S.base b o e)
 rep a v e := by
  refine (S.rep a v e).mono (fun b o _ so e => k b o (fun w => ?_) e) (fun _ _ n _ => n) fun o e' => k a o (fun w => ?_) e'
  ·obtain ⟨o', vs, h1, _, h3⟩ := H b w; rw [e] at h1; cases h1; rw [so] at h3; cases h3
  ·obtain ⟨o', vs, h1, _, h3⟩ := H a w
   obtain ⟨o'', h4, h5⟩ := (S.rep a v e).sol
   rw [h4] at h1; cases h1; rw [h5] at h3; cases h3
 new := S.new
 fin a f := by
  obtain ⟨o, e⟩ := S.fin a f
  exact ⟨o, k a o (fun w => (N a w).2.2 f) e⟩
 off := S.off
 low := S.low
 gens := g.trans S.gens
 os := os.trans S.os
theorem VRel.walk (H : ∀ b, W b -> ∃ o vs, s.heap.get? b = some o /\ o.data = .fields vs /\ solid o = false)
  (k : ∀ b o, ¬ W b -> s.heap.get? b = some o -> s'.heap.get? b = some o) {v : V} {x : Value} (r : VRel Γ (DD σ F) s.heap v x) : VRel Γ (DD σ F) s'.heap v x :=
 r.mono (fun b o _ so e => k b o (fun w => by obtain ⟨o', vs, h1, _, h3⟩ := H b w; rw [e] at h1; cases h1; rw [so] at h3; cases h3) e) fun _ _ n _ => n
theorem VsRel.walk (H : ∀ b, W b -> ∃ o vs, s.heap.get? b = some o /\ o.data = .fields vs /\ solid o = false)
  (k : ∀ b o, ¬ W b -> s.heap.get? b = some o -> s'.heap.get? b = some o) {v : List V} {x : List Value} (r : VsRel Γ (DD σ F) s.heap v x) : VsRel Γ (DD σ F) s'.heap v x :=
 r.mono (fun b o _ so e => k b o (fun w => by obtain ⟨o', vs, h1, _, h3⟩ := H b w; rw [e] at h1; cases h1; rw [so] at h3; cases h3) e) fun _ _ n _ => n
theorem FrameRel.walk (R : FrameRel Γ F σ s.heap env ρ) (H : ∀ b, W b -> ∃ o vs, s.heap.get? b = some o /\ o.data = .fields vs /\ solid o = false)
  (k : ∀ b o, ¬ W b -> s.heap.get? b = some o -> s'.heap.get? b = some o) : FrameRel Γ F σ s'.heap env ρ where
 kind := R.kind
 globals := R.globals
 builtins := R.builtins
 prot := R.prot
 ns := by
  obtain ⟨m, n, r⟩ := R.ns
  refine ⟨m, Ns.get n fun o e => k _ o (fun w => ?_) e, fun y v e ky => let ⟨val, h1, h2⟩ := r y v e ky; ⟨val, h1, h2.walk H k⟩⟩
  obtain ⟨o', vs, h1, h2, _⟩ := H _ w
  obtain ⟨o'', es, ep, h3, h4, _⟩ := n
  rw [h3] at h1; cases h1; rw [h4] at h2; cases h2
 cell x c e := by
  obtain ⟨a, b, d, val, i, r⟩ := R.cell x c e
  refine ⟨a, b, d, val, IsCell.get i fun o e => k _ o (fun w => ?_) e, fun v e => let ⟨u, h1, h2⟩ := r v e; ⟨u, h1, h2.walk H k⟩⟩
  obtain ⟨o', vs, h1, h2, _⟩ := H _ w
  obtain ⟨o'', h3, h4⟩ := i
  rw [h3] at h1; cases h1; rw [h4] at h2; cases h2
 apart := R.apart
 has := R.has
 cellk := R.cellk
theorem TransF.walk (T : TransF env σ₀ s₀ σ s) (N : ∀ b, W b -> NewAt Γ F σ₀ s₀ b) (k : ∀ b o, ¬ W b -> s.heap.get? b = some o -> s'.heap.get? b = some o) : TransF env σ₀ s₀ σ s' :=
 ⟨fun b o e n w => k b o (fun w' => by rcases (N b w').1 with q | q; rw [q] at e; cases e; exact q n) (T.keep b o e n w), T.fresh⟩
theorem Trans.walk (T : Trans σ₀ s₀ σ s) (N : ∀ b, W b -> NewAt Γ F σ₀ s₀ b) (k : ∀ b o, ¬ W b -> s.heap.get? b = some o -> s'.heap.get? b = some o) : Trans σ₀ s₀ σ s' :=
 ⟨fun b o e n => k b o (fun w' => by rcases (N b w').1 with q | q; rw [q] at e; cases e; exact q n) (T.keep b o e n), T.fresh⟩
theorem ItNow.past {σ' : Store} (X : ItNow Γ F σ₀ σ s₀ s tgt I xs W J) (R : FrameRel Γ F σ s.heap env ρ) (S : St Γ F σ s) (T : TransF env σ s σ' s') : ItNow Γ F σ₀ σ' s₀ s' tgt I xs W J := by
 refine ⟨X.it, X.new, X.it.frame xs _ _ _ _ X.now (fun b o h e => ?_) fun b o nd so e => ?_⟩
 ·rcases h with ⟨nd, so⟩ | w
  ·exact transF_keep R T b o nd so e
  ·obtain ⟨o', vs, h1, h2, h3⟩ := X.it.hollow xs _ _ b X.now w
   refine T.keep b o e ?_ ?_
   ·cases q : σ b with
    | none => rfl
    | some v =>
     obtain ⟨o'', h4, h5⟩ := (S.rep _ _ q).sol
     rw [h4] at h1; cases h1; rw [h5] at h3; cases h3
   ·rintro (q | ⟨y, q⟩)
    ·subst q
     obtain ⟨m, nn, _⟩ := R.ns
     obtain ⟨o'', es, ep, h4, h5, _⟩ := nn
     rw [h4] at h1; cases h1; rw [h5] at h2; cases h2
    ·obtain ⟨_, _, _, val, i, _⟩ := R.cell y b q
     obtain ⟨o'', h4, h5⟩ := i
     rw [h4] at h1; cases h1; rw [h5] at h2; cases h2
 ·have nw := R.own nd so e
  unfold DD at *
  rintro (q | q)
  ·rcases T.fresh b nw q with e' | e'
   ·exact nd (.inl e')
   ·rw [e'] at e; cases e
  ·exact nd (.inr q)
inductive PostI (Γ : Cx) (F : Addr -> Prop) (σ : Store) (s : Shared) (tgt : Expr) (Q : List V -> Store -> Prop) (it : Value) (s' : Shared) : Prop
 | mk (I : Addr) (xs : List V) (σ' : Store) (W : Addr -> Prop) (J : List V -> (Addr -> Prop) -> Heap -> Prop) (e : it = .ref I) (S : St Γ F σ' s') (T : Trans σ s σ' s') (X : ItNow Γ F σ σ' s s' tgt I xs W J) (q : Q xs σ') : PostI Γ F σ s tgt Q it s'
noncomputable def AIt (Γ : Cx) (n : Nat) (sc : Scope) (ρ : Vars) (tgt e : Expr) (σ : Store) (Q : List V -> Store -> Prop) : Prop :=
 ∀ A s F env, env.scope = sc -> Room n A -> FrameRel Γ F σ s.heap env ρ -> St Γ F σ s ->
  wpAny (Md Γ) A (eval e env) (fun x s₁ => wpAny (Md Γ) A (pyIter x) (PostI Γ F σ s tgt Q) NoE s₁) NoE s
noncomputable def ForRun (turn : V -> Vars -> Store -> (Fl -> Vars -> Store -> Prop) -> Prop) : List V -> Vars -> Store -> (Fl -> Vars -> Store -> Prop) -> Prop
 | [], ρ, σ, Q => Q .next ρ σ
 | x :: xs, ρ, σ, Q => turn x ρ σ fun fl ρ' σ' => match fl with
  | .next => ForRun turn xs ρ' σ' Q
  | .cont => ForRun turn xs ρ' σ' Q
  | .brk => Q .next ρ' σ'
  | .ret v => Q (.ret v) ρ' σ'
noncomputable def BodyQ (Γ : Cx) (n : Nat) (sc : Scope) (body : List Stmt) (K : Fl -> Vars -> Store -> Prop) : Vars -> Store -> Prop := fun ρ σ => AExecs Γ n sc ρ body σ K
noncomputable def ForTurn (Γ : Cx) (n : Nat) (sc : Scope) (target : Expr) (body : List Stmt) : V -> Vars -> Store -> (Fl -> Vars -> Store -> Prop) -> Prop := fun x ρ σ K => AAssign Γ n sc ρ target x σ (BodyQ Γ n sc body K)
noncomputable def ForQ (Γ : Cx) (n : Nat) (sc : Scope) (ρ : Vars) (target : Expr) (body : List Stmt) (Q : Fl -> Vars -> Store -> Prop) : List V -> Store -> Prop := fun xs σ => ForRun (ForTurn Γ n sc target body) xs ρ σ Q
theorem AExec.for {target iter : Expr} {body : List Stmt} {pos : Pos} {Q : Fl -> Vars -> Store -> Prop}
  (h : AIt Γ n sc ρ target iter σ (ForQ Γ n sc ρ target body Q))
  (hf : ∀ env x, foldedSetIterable iter env x = pure x := by intro _ _; rfl) : AExec Γ n sc ρ (.For target iter body [] pos) σ Q := by
 intro A s F env hs hA hR S
 refine wpAny_For (wpAny_mono (h A s F env hs hA hR S) (fun x s₁ h₁ => wpAny_mono h₁ (fun it s₂ h₂ => ?_) fun _ _ e => e) fun _ _ e => e) (hf env)
 obtain ⟨I, xs, σ₂, W, J, rfl, S₂, T₂, X₂, q₂⟩ := h₂
 refine codeAny_loop' rfl (fun k s' => ∃ ρ' σ' xs', k = xs'.length /\ FrameRel Γ F σ' s'.heap env ρ' /\ St Γ F σ' s' /\ TransF env σ s σ' s' /\ ItNow Γ F σ σ' s s' target I xs' W J /\
  ForRun (ForTurn Γ n sc target body) xs' ρ' σ' Q) (fun k s' hI => ?_) xs.length ⟨ρ, σ₂, xs, rfl, hR.trans T₂, S₂, T₂.toF, X₂, q₂⟩
 obtain ⟨ρ', σ', xs', rfl, R', S', T', X', q'⟩ := hI
 show wpAny _ A ((forTurn target (.ref I) body [] env).onRaise (fun x => do noteFrame x env; theTreesLotGoes x)) _ _ s'
 refine wpAny_noted ?_
 simp only [forTurn]
 refine wpAny_bind (wpAny_standAt (wpAny_bind (wpAny_onRaise ?_)))
 have H := fun b w => X'.it.hollow xs' _ _ b X'.now w
 cases xs' with
 | nil =>
  refine wpAny_mono (X'.it.done A s' _ _ hA.1 X'.now fun h' tk k => ?_) (fun _ _ p => p) fun _ _ e => e.elim
  refine wpAny_pure (.inr ⟨rfl, codeAny_block (wpAny_execs_nil ?_)⟩)
  exact ⟨.next, ρ', σ', .next, R'.walk (s' := { s' with heap := h', toks := tk }) H k, St.walk (s' := { s' with heap := h', toks := tk }) S' X'.new H k rfl rfl, T'.walk X'.new k, q'⟩
 | cons x xs' =>
  refine wpAny_mono (X'.it.item A s' _ x xs' _ hA.1 X'.now (DD_alive S') fun val s₁ hgo => ?_) (fun _ _ p => p) fun _ _ e => e.elim
  refine wpAny_bind (wpAny_mono (hgo _ fun h₂ tk rx jx k => ?_) (fun _ _ p => p) fun _ _ e => e.elim)
  have S₃ : St Γ F σ' { s' with heap := h₂, toks := tk } := St.walk S' X'.new H k rfl rfl
  have R₃ : FrameRel Γ F σ' h₂ env ρ' := R'.walk (s' := { s' with heap := h₂, toks := tk }) H k
  have X₃ : ItNow Γ F σ σ' s { s' with heap := h₂, toks := tk } target I xs' W J := ⟨X'.it, X'.new, jx⟩
  have T₃ : TransF env σ s σ' { s' with heap := h₂, toks := tk } := T'.walk X'.new k
  have q₃ : AAssign Γ n sc ρ' target x σ' _ := q'
  refine wpAny_bind (wpAny_mono (q₃ A _ F env val hs hA R₃ S₃ rx) (fun _ s₄ p => ?_) fun _ _ e => e.elim)
  obtain ⟨ρ₄, σ₄, R₄, S₄, T₄, q₄⟩ := p
  have X₄ := X₃.past R₃ S₃ T₄
  refine wpAny_bind (wpAny_mono (q₄ A s₄ F env hs hA R₄ S₄) (fun f s₅ p => ?_) fun _ _ e => e.elim)
  obtain ⟨fl, ρ₅, σ₅, r, R₅, S₅, T₅, q₅⟩ := p
  have T := (T₃.trans T₄).trans T₅
  cases r with
  | next => exact wpAny_pure (.inl ⟨rfl, xs'.length, Nat.lt_succ_self _, ρ₅, σ₅, xs', rfl, R₅, S₅, T, X₄.past R₄ S₄ T₅, q₅⟩)
  | cont => exact wpAny_pure (.inl ⟨rfl, xs'.length, Nat.lt_succ_self _, ρ₅, σ₅, xs', rfl, R₅, S₅, T, X₄.past R₄ S₄ T₅, q₅⟩)
  | brk => exact wpAny_pure ⟨.next, ρ₅, σ₅, .next, R₅, S₅, T, q₅⟩
  | ret r => exact wpAny_pure ⟨.ret _, ρ₅, σ₅, .ret r, R₅, S₅, T, q₅⟩
end
end
section
variable {Γ : Cx}
noncomputable def ownedKinds : List String := ["enumerate", "zip", "dict_itemiterator", "dict_reverseitemiterator", "odict_iterator", "itertools.zip_longest", "itertools.pairwise"]
theorem letgo_skip {M : Model} {A : Around} {E : Value -> Shared -> Prop} {s : Shared} {tgt : Expr} {I : Addr} {val : Value} {R : Unit -> Shared -> Prop} {o : Obj} {c : String} (ho : s.heap.get? I = some o) (hc : o.cls = .type c)
  (hn : ownedKinds.contains c = false) (h : R () s) : wpAny M A (letOwnedTupleGo tgt (.ref I) val) R E s := by
 have key : ∀ a, wpAny M A (load I >>= fun o => match o.cls, o.data with
   | .type n, .fields vs => if ownedKinds.contains n && vs[0]? == some (rawInt a) then (do rule "for.unpacks-the-owned-tuple"; updateField I 0 .none) else pure ()
   | _, _ => pure ()) R E s := fun a => by
  refine wpAny_bind (wpAny_load ho ?_)
  rw [hc]
  cases o.data <;> first
   | exact wpAny_pure h
   | (show wpAny M A (if (ownedKinds.contains c && _) = true then _ else _) R E s; rw [hn, Bool.false_and, if_neg Bool.false_ne_true]; exact wpAny_pure h)
 unfold letOwnedTupleGo
 cases tgt <;> first | exact wpAny_pure h | (cases val <;> first | exact wpAny_pure h | exact key _)
section
variable {n : Nat} {sc : Scope} {ρ : Vars} {σ : Store} {s : Shared} {F : Addr -> Prop} {tgt : Expr}
theorem drop_cons {D : Addr -> Prop} {h : Heap} {x : V} {xs : List V} {arr : Array Value} {i : Nat} (r : VsRel Γ D h (x :: xs) (arr.toList.drop i)) : ∃ y, arr[i]? = some y /\ VRel Γ D h x y /\ VsRel Γ D h xs (arr.toList.drop (i + 1)) := by
 have : i < arr.toList.length := by
  rcases Nat.lt_or_ge i arr.toList.length with h | h
  ·exact h
  ·rw [List.drop_of_length_le h] at r; cases r
 rw [List.drop_eq_getElem_cons this] at r
 cases r with
 | cons a r => exact ⟨_, by simp at this; simp [this], a, r⟩
theorem drop_nil {D : Addr -> Prop} {h : Heap} {arr : Array Value} {i : Nat} (r : VsRel Γ D h [] (arr.toList.drop i)) : arr[i]? = none := by
 have : (arr.toList.drop i).length = 0 := by rw [<- r.length]; rfl
 rw [List.length_drop] at this
 have h' : arr.size <= i := by simp at this; lia
 simp [h']
inductive JL (Γ : Cx) (I l : Addr) (xs : List V) (D : Addr -> Prop) (h : Heap) : Prop
 | mk (i : Nat) (arr : Array Value) (m : Nat) (it : h.IsListIter I l i) (nd : ¬ D l) (hl : h.get? l = some (seqObj "list" arr m)) (r : VsRel Γ D h xs (arr.toList.drop i)) : JL Γ I l xs D h
theorem Iter.list (I l : Addr) (hne : l ≠ I) : Iter Γ tgt I (· = I) (JL Γ I l) where
 frame xs D D' h h' j k d := by
  obtain ⟨i, arr, m, ⟨o, ho, hc, hd⟩, nd, hl, r⟩ := j
  exact ⟨i, arr, m, ⟨o, k _ _ (.inr rfl) ho, hc, hd⟩, d _ _ nd rfl hl, k _ _ (.inl ⟨nd, rfl⟩) hl, r.mono2 (fun b o nd so e => k b o (.inl ⟨nd, so⟩) e) d⟩
 hollow xs D h b j w := by
  obtain ⟨i, arr, m, ⟨o, ho, hc, hd⟩, _⟩ := j
  subst w
  exact ⟨o, _, ho, hd, by unfold solid; rw [hd]⟩
 self A s D xs R j h := by
  obtain ⟨i, arr, m, hit, _⟩ := j
  exact wpAny_pyIter_listiter hit h
 done A s D R hA j hR := by
  obtain ⟨i, arr, m, hit, nd, hl, r⟩ := j
  exact wpAny_pyNext_list_end hA hit ⟨_, hl, rfl, _, rfl⟩ (drop_nil r) fun h' he => hR h' s.toks fun b o nb e => he b o nb e
 item A s D x xs R hA j hD hR := by
  obtain ⟨i, arr, m, hit, nd, hl, r⟩ := j
  obtain ⟨y, hy, rx, rs⟩ := drop_cons r
  refine wpAny_pyNext_list_item hit ⟨_, hl, rfl, _, rfl⟩ hy fun h' hit' hs' => hR y _ fun R' k => ?_
  obtain ⟨o, ho, hc, hd⟩ := id hit'
  have kk : ∀ b o, ¬ D b -> solid o = true -> s.heap.get? b = some o -> h'.get? b = some o := fun b o nd so e => hs'.extBut b o (by
   rintro rfl
   obtain ⟨o', ho', _, hd'⟩ := hit
   rw [e] at ho'; cases ho'; unfold solid at so; rw [hd'] at so; cases so) e
  refine letgo_skip (o := o) ho hc (by decide) (k h' s.toks (rx.mono kk fun _ _ n _ => n) ⟨i + 1, arr, m, hit', nd, hs'.extBut _ _ hne hl, rs.mono kk fun _ _ n _ => n⟩ fun b o nb e => hs'.extBut b o nb e)
inductive JT (Γ : Cx) (I l : Addr) (xs : List V) (D : Addr -> Prop) (h : Heap) : Prop
 | mk (i : Nat) (arr : Array Value) (it : h.IsTupleIter I l i) (nd : ¬ D l) (hl : h.IsTuple l arr) (r : VsRel Γ D h xs (arr.toList.drop i)) : JT Γ I l xs D h
theorem Iter.tuple (I l : Addr) (hne : l ≠ I) : Iter Γ tgt I (· = I) (JT Γ I l) where
 frame xs D D' h h' j k d := by
  obtain ⟨i, arr, ⟨o, ho, hc, hd⟩, nd, hl, r⟩ := j
  obtain ⟨o', ho', so'⟩ := IsTuple_solid hl
  exact ⟨i, arr, ⟨o, k _ _ (.inr rfl) ho, hc, hd⟩, d _ _ nd so' ho', IsTuple_keep hl fun o'' e => k _ _ (.inl ⟨nd, by rw [ho'] at e; cases e; exact so'⟩) e, r.mono2 (fun b o nd so e => k b o (.inl ⟨nd, so⟩) e) d⟩
 hollow xs D h b j w := by
  obtain ⟨i, arr, ⟨o, ho, hc, hd⟩, _⟩ := j
  subst w
  exact ⟨o, _, ho, hd, by unfold solid; rw [hd]⟩
 self A s D xs R j h := by
  obtain ⟨i, arr, hit, _⟩ := j
  exact wpAny_pyIter_tupleiter hit h
 done A s D R hA j hR := by
  obtain ⟨i, arr, hit, nd, hl, r⟩ := j
  exact wpAny_pyNext_tuple_end hA hit hl (drop_nil r) fun h' he => hR h' s.toks fun b o nb e => he b o nb e
 item A s D x xs R hA j hD hR := by
  obtain ⟨i, arr, hit, nd, hl, r⟩ := j
  obtain ⟨y, hy, rx, rs⟩ := drop_cons r
  refine wpAny_pyNext_tuple_item hit hl hy fun h' hit' hs' => hR y _ fun R' k => ?_
  obtain ⟨o, ho, hc, hd⟩ := id hit'
  have kk : ∀ b o, ¬ D b -> solid o = true -> s.heap.get? b = some o -> h'.get? b = some o := fun b o nd so e => hs'.extBut b o (by
   rintro rfl
   obtain ⟨o', ho', _, hd'⟩ := hit
   rw [e] at ho'; cases ho'; unfold solid at so; rw [hd'] at so; cases so) e
  refine letgo_skip (o := o) ho hc (by decide) (k h' s.toks (rx.mono kk fun _ _ n _ => n) ⟨i + 1, arr, hit', nd, hl.extBut hs'.extBut hne, rs.mono kk fun _ _ n _ => n⟩ fun b o nb e => hs'.extBut b o nb e)
noncomputable def JR (I : Addr) (xs : List V) (D : Addr -> Prop) (h : Heap) : Prop := ∃ x : Int, IsRangeIter h I x xs.length 1 /\ xs = (List.range xs.length).map fun j => V.int (x + (j : Nat))
theorem Iter.range (I : Addr) : Iter Γ tgt I (· = I) (JR I) where
 frame xs D D' h h' j k d := by
  obtain ⟨x, hi, e⟩ := j
  exact ⟨x, k _ _ (.inr rfl) hi, e⟩
 hollow xs D h b j w := by
  obtain ⟨x, hi, e⟩ := j
  subst w
  exact ⟨_, _, hi, rfl, rfl⟩
 self A s D xs R j h := by
  obtain ⟨x, hi, e⟩ := j
  exact wpAny_pyIter_rangeiter hi h
 done A s D R hA j hR := by
  obtain ⟨x, hi, e⟩ := j
  exact wpAny_pyNext_range_end hA hi (Int.le_refl _) fun h' he => hR h' s.toks fun b o nb e => he b o nb e
 item A s D x xs R hA j hD hR := by
  obtain ⟨x0, hi, e⟩ := j
  rw [List.length_cons, List.range_succ_eq_map, List.map_cons, List.map_map] at e
  injection e with e1 e2
  refine wpAny_pyNext_range_item hi (by simp) fun h' hit' hs' => hR _ _ fun R' k => ?_
  refine letgo_skip (o := _) hit' rfl (by decide) (k h' (s.toks + 1) ?_ ⟨x0 + 1, ?_, ?_⟩ fun b o nb e => hs'.extBut b o nb e)
  ·rw [e1]
   have : x0 + ((0 : Nat) : Int) = x0 := by simp
   rw [this]; exact .int _ _
  ·have : ((x :: xs).length : Int) - 1 = xs.length := by simp
   rw [this] at hit'; exact hit'
  ·rw [e2]
   simp only [List.length_map, List.length_range]
   refine List.map_congr_left fun j _ => ?_
   simp only [Function.comp]
   congr 1
   lia
noncomputable def JS (I : Addr) (xs : List V) (D : Addr -> Prop) (h : Heap) : Prop := ∃ x t i, h.IsStrIter I "str_ascii_iterator" x t i /\ xs = (x.cps.toList.drop i).map fun c => V.str ⟨#[c]⟩
theorem Iter.str (I : Addr) : Iter Γ tgt I (· = I) (JS I) where
 frame xs D D' h h' j k d := by
  obtain ⟨x, t, i, ⟨o, ho, hc, hd⟩, e⟩ := j
  exact ⟨x, t, i, ⟨o, k _ _ (.inr rfl) ho, hc, hd⟩, e⟩
 hollow xs D h b j w := by
  obtain ⟨x, t, i, ⟨o, ho, hc, hd⟩, e⟩ := j
  subst w
  exact ⟨_, _, ho, hd, by unfold solid; rw [hd]⟩
 self A s D xs R j h := by
  obtain ⟨x, t, i, hi, e⟩ := j
  exact wpAny_pyIter_striter_ascii hi h
 done A s D R hA j hR := by
  obtain ⟨x, t, i, hi, e⟩ := j
  have hx : x.cps[i]? = none := by
   have : (x.cps.toList.drop i).length = 0 := by rw [<- List.length_map (f := fun c => V.str ⟨#[c]⟩), <- e]; rfl
   rw [List.length_drop] at this
   have h' : x.cps.size <= i := by simp at this; lia
   simp [h']
  exact wpAny_pyNext_ascii_end hA hi hx fun h' he => hR h' s.toks fun b o nb e => he b o nb e
 item A s D v xs R hA j hD hR := by
  obtain ⟨x, t, i, hi, e⟩ := j
  have hlt : i < x.cps.toList.length := by
   rcases Nat.lt_or_ge i x.cps.toList.length with h | h
   ·exact h
   ·rw [List.drop_of_length_le h] at e; cases e
  rw [List.drop_eq_getElem_cons hlt, List.map_cons] at e
  injection e with e1 e2
  refine wpAny_pyNext_ascii_item hi (c := x.cps.toList[i]) (by simp at hlt; simp [hlt]) fun h' hit' hs' => hR _ _ fun R' k => ?_
  obtain ⟨o, ho, hc, hd⟩ := id hit'
  refine letgo_skip (o := o) ho hc (by decide) (k h' (s.toks + 1) (by rw [e1]; exact .str _ _) ⟨x, t, i + 1, hit', e2⟩ fun b o nb e => hs'.extBut b o nb e)
noncomputable def walkOf : V -> Option (List V)
 | .tup vs => some vs
 | .lst vs => some vs
 | .str x => if x.cps.all (· < 128) then some (x.cps.toList.map fun c => V.str ⟨#[c]⟩) else none
 | _ => none
theorem trans_push {σ' : Store} {s₁ : Shared} (T : Trans σ s σ' s₁) (o : Obj) : Trans σ s σ' { s₁ with heap := s₁.heap.push o } := T.trans (new_trans o)
theorem olds_push {F : Addr -> Prop} {σ' : Store} {s₁ : Shared} {v : List V} {x : List Value} (o : Obj) (r : VsRel Γ (DD σ' F) s₁.heap v x) : VsRel Γ (DD σ' F) (s₁.heap.push o) v x :=
 r.mono (fun _ _ _ _ e => Heap.get?_push_of_some _ e) fun _ _ n _ => n
noncomputable def WalkQ (Q : List V -> Store -> Prop) : V -> Store -> Prop := fun v σ => ∃ xs, walkOf v = some xs /\ Q xs σ
theorem WalkQ.mk {Q : List V -> Store -> Prop} {v : V} {xs : List V} {σ : Store} (e : walkOf v = some xs) (q : Q xs σ) : WalkQ Q v σ := ⟨xs, e, q⟩
theorem AIt.val {e : Expr} {Q : List V -> Store -> Prop} (h : AEval Γ n sc ρ e σ (WalkQ Q)) : AIt Γ n sc ρ tgt e σ Q := by
 intro A s F env hs hA hR S
 refine seq_eval (α := Unit) hs hA hR S h fun v σ₁ x s₁ r R₁ S₁ T₁ h₁ => ?_
 obtain ⟨xs, hw, q⟩ := h₁
 have fr := NewAt.of T₁ S₁ (get_size s₁.heap)
 cases v <;> (try cases hw)
 ·rename_i x'
  simp only [walkOf] at hw
  split at hw
  ·rename_i ha
   cases hw
   obtain ⟨t, rfl⟩ := r.str_inv
   refine wpAny_pyIter_ascii ha ⟨_, _, σ₁, (· = s₁.heap.objs.size), JS s₁.heap.objs.size, rfl, new_obj S₁ _, trans_push T₁ _, ⟨Iter.str _, fun b w => by subst w; exact fr, x', t, 0, ⟨_, Heap.get?_push_size _ rfl, rfl, rfl⟩, rfl⟩, q⟩
  ·cases hw
 ·obtain ⟨a, arr, rfl, nd, ht, rv⟩ := r.tup_inv
  have hne : a ≠ s₁.heap.objs.size := by obtain ⟨o, e, _⟩ := ht; exact Nat.ne_of_lt (Heap.lt_size e)
  refine wpAny_pyIter_tuple ht ⟨_, _, σ₁, (· = s₁.heap.objs.size), JT Γ s₁.heap.objs.size a, rfl, new_obj S₁ _, trans_push T₁ _, ⟨Iter.tuple _ _ hne, fun b w => by subst w; exact fr, 0, arr, ⟨_, Heap.get?_push_size _ rfl, rfl, rfl⟩, nd, ht.push _, ?_⟩, q⟩
  exact olds_push _ rv
 ·obtain ⟨a, arr, m, rfl, nd, hl, rv⟩ := r.lst_inv
  have hne : a ≠ s₁.heap.objs.size := Nat.ne_of_lt (Heap.lt_size hl)
  refine wpAny_pyIter_list ⟨_, hl, rfl, _, rfl⟩ ⟨_, _, σ₁, (· = s₁.heap.objs.size), JL Γ s₁.heap.objs.size a, rfl, new_obj S₁ _, trans_push T₁ _, ⟨Iter.list _ _ hne, fun b w => by subst w; exact fr, 0, arr, m, ⟨_, Heap.get?_push_size _ rfl, rfl, rfl⟩, nd, Heap.get?_push_of_some _ hl, ?_⟩, q⟩
  exact olds_push _ rv
noncomputable def RangeQ (Q : List V -> Store -> Prop) : V -> Store -> Prop := fun v σ => ∃ k : Nat, v = .int k /\ k <= 1000000 /\ Q ((List.range k).map fun (j : Nat) => V.int (j : Int)) σ
theorem AIt.range1 {a : Expr} {p pos : Pos} {Q : List V -> Store -> Prop} (hk : sc.names.lookup (Str.ofString "range") = some .globalImplicit) (hm : nsIn Γ.K mainGlobals (Str.ofString "range") = some none)
  (h : AEval Γ n sc ρ a σ (RangeQ Q))
  (hst : ∀ env, starEach [a] env = [(false, eval a env)] := by intro _; rfl) : AIt Γ n sc ρ tgt (.Call (.Name (Str.ofString "range") p) [a] [] pos) σ Q := by
 intro A s F env hs hA hR S
 have key : AEval Γ n sc ρ (.Name (Str.ofString "range") p) σ fun v σ' => v = .typ "range" /\ σ' = σ := AEval.typ hk hm (by decide +kernel) (by decide +kernel) ⟨rfl, rfl⟩
 refine Call_ (seq_eval (α := Unit) hs hA hR S key fun f σ₁ fv s₁ rf R₁ S₁ T₁ hf => ?_)
 obtain ⟨rfl, rfl⟩ := hf
 obtain rfl := rf.typ_inv
 have hst' := hst env
 have hargs : backTo pos (starEach [a] env) = [(false, eval a env)] := by rw [hst']; rfl
 rw [hargs]
 refine callWith_type1 (seq_eval (α := Unit) hs hA R₁ S₁ h fun v σ₂ x s₂ r R₂ S₂ T₂ h₂ => ?_)
 obtain ⟨k, rfl, hk', q⟩ := h₂
 obtain ⟨t, rfl⟩ := r.int_inv
 refine call_range_1 ?_
 have hsmall : Builtin.Range.small 0 (k : Int) 1 = true := by
  unfold Builtin.Range.small Builtin.Range.rangeSize Builtin.Range.rangeFitsLong
  simp
  lia
 refine wpAny_pyIter_range (s := { s₂ with heap := _, toks := _ }) (IsRange.new _ _ _ _ _ _ _) hsmall ?_
 have hsz : Builtin.Range.rangeSize 0 (k : Int) 1 = k := by unfold Builtin.Range.rangeSize; simp; lia
 rw [hsz]
 refine ⟨_, _, σ₂, (· = (s₂.heap.push { cls := .type "range", data := .fields #[.int 0 s₂.toks, .int (k : Int) t, .int 1 (s₂.toks + 1)] }).objs.size), JR _, rfl, ?_, ?_, ⟨Iter.range _, fun b w => ?_, 0, ?_, ?_⟩, q⟩
 ·exact (new_obj (new_obj S₂ { cls := .type "range", data := .fields #[.int 0 s₂.toks, .int (k : Int) t, .int 1 (s₂.toks + 1)] }) _).tok _
 ·exact ((T₁.trans T₂).trans ((new_trans { cls := .type "range", data := .fields #[.int 0 s₂.toks, .int (k : Int) t, .int 1 (s₂.toks + 1)] }).trans (new_trans _))).trans (Trans.tok _)
 ·subst w
  exact NewAt.of ((T₁.trans T₂).trans (new_trans { cls := .type "range", data := .fields #[.int 0 s₂.toks, .int (k : Int) t, .int 1 (s₂.toks + 1)] })) (new_obj S₂ _) (get_size _)
 ·simp only [List.length_map, List.length_range]
  exact Heap.get?_push_size _ rfl
 ·simp
end
end
section
variable {Γ : Cx}
noncomputable def relS (scope sc : Scope) : Scope :=
 { scope with names := scope.names.map fun (n, k) => if (k == .free && sc.kind == .function && sc.names.lookup n == some .cell) then (n, .cell) else (n, k) }
noncomputable def compOk (scope sc : Scope) : Bool := scope.kind == .function && sc.kind == .function && decide (scope.names.map (·.1)).Nodup && scope.names.all fun p => p.2 != .cell && (p.2 != .free || sc.names.lookup p.1 == some .cell)
structure TransC (L D : Addr) (σ : Store) (s : Shared) (σ' : Store) (s' : Shared) : Prop where
 keep : ∀ b o, s.heap.get? b = some o -> σ b = none -> b ≠ L -> b ≠ D -> s'.heap.get? b = some o
 fresh : ∀ b, σ' b ≠ none -> σ b ≠ none \/ s.heap.get? b = none
 alive : ∀ b o, s.heap.get? b = some o -> σ b = none -> ∃ o', s'.heap.get? b = some o'
inductive AccAt (Γ : Cx) (F : Addr -> Prop) (σ : Store) (h : Heap) (D : Addr) (acc : List V) : Prop
 | mk (arr : Array Value) (m : Nat) (h1 : h.get? D = some (seqObj "list" arr m)) (h2 : σ D = none) (h3 : F D) (h4 : Γ.h₀.get? D = none) (r : VsRel Γ (DD σ F) h acc arr.toList) : AccAt Γ F σ h D acc
section
variable {n : Nat} {sc : Scope} {ρ : Vars} {σ σ' σ₁ σ₂ : Store} {s s' s₁ s₂ : Shared} {F : Addr -> Prop} {env : Env} {L D : Addr} {acc : List V}
theorem Trans.toC (T : Trans σ s σ' s') : TransC L D σ s σ' s' := ⟨fun b o e n _ _ => T.keep b o e n, T.fresh, fun b o e n => ⟨o, T.keep b o e n⟩⟩
theorem TransC.trans (x : TransC L D σ s σ₁ s₁) (y : TransC L D σ₁ s₁ σ₂ s₂) : TransC L D σ s σ₂ s₂ := by
 have mid : ∀ b o, s.heap.get? b = some o -> σ b = none -> σ₁ b = none := fun b o e n => by
  cases q : σ₁ b with
  | none => rfl
  | some v =>
   rcases x.fresh b (by rw [q]; exact fun e => nomatch e) with e' | e'
   ·exact absurd n e'
   ·rw [e'] at e; cases e
 refine ⟨fun b o e n h1 h2 => y.keep b o (x.keep b o e n h1 h2) (mid b o e n) h1 h2, fun b e => ?_, fun b o e n => ?_⟩
 ·rcases y.fresh b e with e' | e'
  ·exact x.fresh b e'
  ·cases q : σ b with
   | some v => exact .inl (fun e => nomatch e)
   | none =>
    cases p : s.heap.get? b with
    | none => exact .inr rfl
    | some o => obtain ⟨o', h⟩ := x.alive b o p q; rw [e'] at h; cases h
 ·obtain ⟨o', h⟩ := x.alive b o e n
  exact y.alive b o' h (mid b o e n)
theorem dd_none {b : Addr} (n : ¬ DD σ F b) : σ b = none := by
 cases q : σ b with
 | none => rfl
 | some v => exact absurd (.inl (by rw [q]; exact fun e => nomatch e)) n
theorem dd_F {b : Addr} (n : ¬ DD σ F b) : ¬ F b := fun f => n (.inr f)
theorem VRel.transC {v : V} {x : Value} (T : TransC L D σ s σ' s') (hL : F L) (hD : F D) (r : VRel Γ (DD σ F) s.heap v x) : VRel Γ (DD σ' F) s'.heap v x :=
 r.mono (fun b o nd _ e => T.keep b o e (dd_none nd) (fun q => by subst q; exact dd_F nd hL) fun q => by subst q; exact dd_F nd hD) fun b o nd e => by
  rintro (q | q)
  ·rcases T.fresh b q with e' | e'
   ·exact nd (.inl e')
   ·rw [e'] at e; cases e
  ·exact nd (.inr q)
theorem VsRel.transC {v : List V} {x : List Value} (T : TransC L D σ s σ' s') (hL : F L) (hD : F D) (r : VsRel Γ (DD σ F) s.heap v x) : VsRel Γ (DD σ' F) s'.heap v x := by
 induction v generalizing x with
 | nil => cases r; exact .nil
 | cons v vs ih => cases r with | cons a r => exact .cons (a.transC T hL hD) (ih r)
theorem AccAt.trans (T : Trans σ s σ' s') (a : AccAt Γ F σ s.heap D acc) : AccAt Γ F σ' s'.heap D acc := by
 obtain ⟨arr, m, h1, h2, h3, h4, h5⟩ := a
 refine ⟨arr, m, T.keep _ _ h1 h2, ?_, h3, h4, h5.trans T⟩
 cases q : σ' D with
 | none => rfl
 | some v =>
  rcases T.fresh D (by rw [q]; exact fun e => nomatch e) with e | e
  ·exact absurd h2 e
  ·rw [e] at h1; cases h1
theorem AccAt.transL (T : TransC L L σ s σ' s') (hL : F L) (hne : D ≠ L) (a : AccAt Γ F σ s.heap D acc) : AccAt Γ F σ' s'.heap D acc := by
 obtain ⟨arr, m, h1, h2, h3, h4, h5⟩ := a
 refine ⟨arr, m, T.keep _ _ h1 h2 hne hne, ?_, h3, h4, h5.transC T hL hL⟩
 cases q : σ' D with
 | none => rfl
 | some v =>
  rcases T.fresh D (by rw [q]; exact fun e => nomatch e) with e | e
  ·exact absurd h2 e
  ·rw [e] at h1; cases h1
theorem TransC.widen (T : TransC L L σ s σ' s') : TransC L D σ s σ' s' := ⟨fun b o e n h1 _ => T.keep b o e n h1 h1, T.fresh, T.alive⟩
theorem AccAt.ne (a : AccAt Γ F σ s.heap D acc) (R : FrameRel Γ F σ s.heap env ρ) : D ≠ env.locals := by
 obtain ⟨arr, m, h1, _⟩ := a
 rintro rfl
 obtain ⟨_, ⟨o, es, ep, h, h', _⟩, _⟩ := R.ns
 rw [h1] at h; cases h; cases h'
theorem AccAt.cells (a : AccAt Γ F σ s.heap D acc) (R : FrameRel Γ F σ s.heap env ρ) {x : Str} {c : Addr} (e : env.cells.lookup x = some c) : c ≠ D := by
 obtain ⟨arr, m, h1, _⟩ := a
 rintro rfl
 obtain ⟨_, _, _, val, ⟨o, h, h'⟩, _⟩ := R.cell x _ e
 rw [h1] at h; cases h; cases h'
theorem FrameRel.apart' {a : Addr} {h h' : Heap} (R : FrameRel Γ F σ h env ρ) (fa : F a) (hs : Heap.SameBut a h h') (h1 : a ≠ env.locals) (h2 : ∀ x c, env.cells.lookup x = some c -> c ≠ a) : FrameRel Γ F σ h' env ρ where
 kind := R.kind
 globals := R.globals
 builtins := R.builtins
 prot := R.prot
 ns := by
  obtain ⟨m, nn, r⟩ := R.ns
  exact ⟨m, nn.sameBut hs (Ne.symm h1), fun y v e k => let ⟨val, a, b⟩ := r y v e k; ⟨val, a, b.apart fa hs⟩⟩
 cell x c e := by
  obtain ⟨a', b, d, val, i, r⟩ := R.cell x c e
  exact ⟨a', b, d, val, i.sameBut hs (h2 x c e), fun v e => let ⟨u, p, q⟩ := r v e; ⟨u, p, q.apart fa hs⟩⟩
 apart := R.apart
 has := R.has
 cellk := R.cellk
theorem VsRel.apart {a : Addr} {h h' : Heap} {vs : List V} {xs : List Value} (fa : F a) (hs : Heap.SameBut a h h') (r : VsRel Γ (DD σ F) h vs xs) : VsRel Γ (DD σ F) h' vs xs := by
 induction vs generalizing xs with
 | nil => cases r; exact .nil
 | cons v vs ih => cases r with | cons a r => exact .cons (a.apart fa hs) (ih r)
theorem acc_append {A : Around} {v : V} {x : Value} {R : Unit -> Shared -> Prop} (hA : A.handled = none) (hR : FrameRel Γ F σ s.heap env ρ) (S : St Γ F σ s) (a : AccAt Γ F σ s.heap D acc) (r : VRel Γ (DD σ F) s.heap v x) (z : acc.length <= 1000000)
  (h : ∀ s', FrameRel Γ F σ s'.heap env ρ -> St Γ F σ s' -> AccAt Γ F σ s'.heap D (acc ++ [v]) -> TransC env.locals D σ s σ s' -> R () s') :
  wpAny (Md Γ) A (call (.builtin "list.append") [.ref D, x]) (fun _ => R ()) NoE s := by
 have ne := a.ne hR
 have nc := fun x c e => a.cells hR (x := x) (c := c) e
 obtain ⟨arr, m, h1, h2, h3, h4, h5⟩ := a
 refine append_at h1 (fun h' hs hd => ?_) (Nat.le_trans (Nat.le_of_eq ((Array.length_toList (xs := arr)).symm.trans h5.length.symm)) (Nat.le_trans z (by decide)))
 refine h _ (hR.apart' h3 hs ne nc) (S.apart h3 h2 h4 hs ⟨_, hd⟩ rfl rfl) ⟨_, _, hd, h2, h3, h4, ?_⟩ ⟨fun b o e n _ hb => (hs.2 b hb).trans e, fun _ e => .inl e, fun b o e _ => ?_⟩
 ·rw [Array.toList_push]
  exact (h5.apart h3 hs).append (.cons (r.apart h3 hs) .nil)
 ·by_cases q : b = D
  ·subst q; exact ⟨_, hd⟩
  ·exact ⟨o, (hs.2 b q).trans e⟩
inductive PostO (Γ : Cx) (F : Addr -> Prop) (env : Env) (σ : Store) (s : Shared) (Q : Vars -> Prop) (s' : Shared) : Prop
 | mk (ρ' : Vars) (R : FrameRel Γ F σ s'.heap env ρ') (S : St Γ F σ s') (T : TransC env.locals env.locals σ s σ s') (q : Q ρ') : PostO Γ F env σ s Q s'
noncomputable def ALoc (Γ : Cx) (n : Nat) (sc : Scope) (ρ : Vars) (t : Expr) (v : V) (Q : Vars -> Prop) : Prop :=
 ∀ A s F σ env val, env.scope = sc -> Room n A -> FrameRel Γ F σ s.heap env ρ -> St Γ F σ s -> VRel Γ (DD σ F) s.heap v val ->
  wpAny (Md Γ) A (assign t env val) (fun _ => PostO Γ F env σ s Q) NoE s
theorem store_local {A : Around} {x : Str} {v : V} {val : Value} {R : Unit -> Shared -> Prop} (hk : env.scope.names.lookup x = some .local)
  (hR : FrameRel Γ F σ s.heap env ρ) (S : St Γ F σ s) (r : VRel Γ (DD σ F) s.heap v val)
  (h : ∀ s', FrameRel Γ F σ s'.heap env ((x, v) :: ρ) -> St Γ F σ s' -> Heap.SameBut env.locals s.heap s'.heap -> s'.gens = s.gens -> s'.os = s.os -> R () s') : wpAny (Md Γ) A (storeName env x val) R NoE s := by
 obtain ⟨m, hn, hm⟩ := hR.ns
 refine wpAny_storeName_local hk hn (fun h' hn' hs' => ?_) (by rw [hR.kind]; rfl)
 obtain ⟨p1, p2, p3⟩ := hR.prot
 refine h _ ⟨hR.kind, hR.globals, hR.builtins, hR.prot, ⟨_, hn', fun y u e ky => ?_⟩, fun y c hc => ?_, hR.apart, hR.has, hR.cellk⟩ (S.apart p1 p2 p3 hs' (let ⟨o, _, _, e, _⟩ := hn'; ⟨o, e⟩) rfl rfl) hs' rfl rfl
 ·rw [List.lookup_cons] at e
  cases hb : y == x with
  | true => rw [hb] at e; cases e; rw [beq_iff_eq.mp hb, if_pos rfl]; exact ⟨val, rfl, r.apart p1 hs'⟩
  | false =>
   rw [hb] at e
   obtain ⟨w, h1, h2⟩ := hm y u e ky
   refine ⟨w, ?_, h2.apart p1 hs'⟩
   rw [if_neg (by simpa using hb)]; exact h1
 ·obtain ⟨a, b, d, cv, i, hv⟩ := hR.cell y c hc
  refine ⟨a, b, d, cv, i.sameBut hs' d, fun u e => ?_⟩
  rw [List.lookup_cons] at e
  cases hb : y == x with
  | true =>
   rw [beq_iff_eq.mp hb] at hc
   exact absurd hk (hR.cellk _ _ hc)
  | false => rw [hb] at e; obtain ⟨w, h1, h2⟩ := hv u e; exact ⟨w, h1, h2.apart p1 hs'⟩
theorem TransC.same (R : FrameRel Γ F σ s.heap env ρ) (R' : FrameRel Γ F σ s'.heap env ρ) (hs : Heap.SameBut env.locals s.heap s'.heap) : TransC env.locals D σ s σ s' :=
 ⟨fun b o e n h1 _ => (hs.2 b h1).trans e, fun _ e => .inl e, fun b o e _ => by
  by_cases q : b = env.locals
  ·subst q; obtain ⟨m, ⟨o, _, _, h, _⟩, _⟩ := R'.ns; exact ⟨o, h⟩
  ·exact ⟨o, (hs.2 b q).trans e⟩⟩
theorem FrameRel.tail {x : Str} {v : V} {h : Heap} (R : FrameRel Γ F σ h env ((x, v) :: ρ)) : FrameRel Γ F σ h env [] := R.vars fun _ _ e => by cases e
theorem ALoc.name {x : Str} {pos : Pos} {v : V} {Q : Vars -> Prop} (hk : sc.names.lookup x = some .local) (q : Q ((x, v) :: ρ)) : ALoc Γ n sc ρ (.Name x pos) v Q := by
 intro A s F σ env val hs hA hR S r
 subst hs
 refine wpAny_assign_Name (store_local hk hR S r fun s' R' S' hs _ _ => ⟨_, R', S', TransC.same (hR.vars (ρ' := []) fun _ _ e => by cases e) R'.tail hs, q⟩)
theorem ALoc.pair {x y : Str} {p1 p2 pos : Pos} {k : Nat} {v : V} {a b : V} {Q : Vars -> Prop} (hv : seqOf v = some [a, b]) (hx : sc.names.lookup x = some .local) (hy : sc.names.lookup y = some .local) (q : Q ((y, b) :: (x, a) :: ρ)) :
  ALoc Γ n sc ρ (.Tuple [.Name x p1, .Name y p2] k pos) v Q := by
 intro A s F σ env val hs hA hR S r
 subst hs
 show wpAny (Md Γ) A (do standAt pos; unpack val (assignEach [.Name x p1, .Name y p2] env)) _ NoE s
 refine wpAny_bind (wpAny_standAt ?_)
 show wpAny (Md Γ) A (do
  let items <- holding [val] (unpackItems val 2 none)
  assignInOrder [assign (.Name x p1) env, assign (.Name y p2) env] items) _ NoE s
 refine wpAny_bind (wpAny_holding (unpack_items hA.1 S r hv rfl fun xs s₁ rv S₁ T₁ => ?_))
 cases rv with
 | cons ra rv =>
  cases rv with
  | cons rb rv =>
   cases rv
   have R₁ := hR.trans T₁
   refine wpAny_assignInOrder_more (wpAny_assign_Name (store_local hx R₁ S₁ ra fun s₂ R₂ S₂ h₂ _ _ => ?_))
   refine wpAny_assignInOrder_more (wpAny_assign_Name (store_local hy R₂ S₂ (rb.apart R₁.prot.1 h₂) fun s₃ R₃ S₃ h₃ _ _ => wpAny_assignInOrder_none ?_))
   exact ⟨_, R₃, S₃, T₁.toC.trans ((TransC.same (R₁.vars (ρ' := []) fun _ _ e => by cases e) R₂.tail h₂).trans (TransC.same R₂.tail R₃.tail h₃)), q⟩
end
end
section
variable {Γ : Cx}
section
variable {n : Nat} {sc : Scope} {ρ : Vars} {σ σ' σ₀ σ₁ σ₂ : Store} {s s' s₀ s₁ s₂ : Shared} {F : Addr -> Prop} {env : Env} {L D I : Addr} {acc : List V} {W : Addr -> Prop} {J : List V -> (Addr -> Prop) -> Heap -> Prop} {tgt : Expr} {xs : List V}
theorem TransC.walk (T : TransC L D σ₀ s₀ σ s) (N : ∀ b, W b -> NewAt Γ F σ₀ s₀ b) (k : ∀ b o, ¬ W b -> s.heap.get? b = some o -> s'.heap.get? b = some o) : TransC L D σ₀ s₀ σ s' :=
 have nw : ∀ b o, s₀.heap.get? b = some o -> σ₀ b = none -> ¬ W b := fun b o e n w' => by rcases (N b w').1 with q | q; rw [q] at e; cases e; exact q n
 ⟨fun b o e n h1 h2 => k b o (nw b o e n) (T.keep b o e n h1 h2), T.fresh, fun b o e n => let ⟨o', h⟩ := T.alive b o e n; ⟨o', k b o' (nw b o e n) h⟩⟩
theorem AccAt.walk (a : AccAt Γ F σ s.heap D acc) (H : ∀ b, W b -> ∃ o vs, s.heap.get? b = some o /\ o.data = .fields vs /\ solid o = false) (k : ∀ b o, ¬ W b -> s.heap.get? b = some o -> s'.heap.get? b = some o) :
  AccAt Γ F σ s'.heap D acc := by
 obtain ⟨arr, m, h1, h2, h3, h4, h5⟩ := a
 exact ⟨arr, m, k _ _ (fun w => by obtain ⟨o, vs, e, e', _⟩ := H D w; rw [h1] at e; cases e; cases e') h1, h2, h3, h4, h5.walk H k⟩
theorem ItNow.pastC (X : ItNow Γ F σ₀ σ s₀ s tgt I xs W J) (R : FrameRel Γ F σ s.heap env ρ) (S : St Γ F σ s) (hD : F D) (hDo : ∃ o, s.heap.get? D = some o /\ solid o = true) (T : TransC env.locals D σ s σ' s') : ItNow Γ F σ₀ σ' s₀ s' tgt I xs W J := by
 refine ⟨X.it, X.new, X.it.frame xs _ _ _ _ X.now (fun b o h e => ?_) fun b o nd so e => ?_⟩
 ·rcases h with ⟨nd, so⟩ | w
  ·exact T.keep b o e (dd_none nd) (fun q => by subst q; exact dd_F nd R.prot.1) fun q => by subst q; exact dd_F nd hD
  ·obtain ⟨o', vs, h1, h2, h3⟩ := X.it.hollow xs _ _ b X.now w
   refine T.keep b o e ?_ ?_ ?_
   ·cases q : σ b with
    | none => rfl
    | some v =>
     obtain ⟨o'', h4, h5⟩ := (S.rep _ _ q).sol
     rw [h4] at h1; cases h1; rw [h5] at h3; cases h3
   ·rintro rfl
    obtain ⟨m, nn, _⟩ := R.ns
    obtain ⟨o'', es, ep, h4, h5, _⟩ := nn
    rw [h4] at h1; cases h1; rw [h5] at h2; cases h2
   ·rintro rfl
    obtain ⟨o'', h4, h5⟩ := hDo
    rw [h4] at h1; cases h1; rw [h5] at h3; cases h3
 ·rintro (q | q)
  ·rcases T.fresh b q with e' | e'
   ·exact nd (.inl e')
   ·rw [e'] at e; cases e
  ·exact nd (.inr q)
theorem AccAt.solid (a : AccAt Γ F σ s.heap D acc) : ∃ o, s.heap.get? D = some o /\ Mine.solid o = true := by
 obtain ⟨arr, m, h1, _⟩ := a
 exact ⟨_, h1, rfl⟩
theorem ns_solid (R : FrameRel Γ F σ s.heap env ρ) : ∃ o, s.heap.get? env.locals = some o /\ Mine.solid o = true := by
 obtain ⟨m, ⟨o, es, ep, h, h', _⟩, _⟩ := R.ns
 exact ⟨o, h, by unfold Mine.solid; rw [h']⟩
noncomputable def AComp (Γ : Cx) (n : Nat) (sc : Scope) (ρ : Vars) (rest : Env -> Value -> Sem Fin -> Sem Fin) (acc : List V) (σ : Store) (K : List V -> Store -> Prop) : Prop :=
 ∀ A s F env D (k : Sem Fin) (R : Fin -> Shared -> Prop), env.scope = sc -> Room n A -> FrameRel Γ F σ s.heap env ρ -> St Γ F σ s -> AccAt Γ F σ s.heap D acc ->
  (∀ acc' σ' s', FrameRel Γ F σ' s'.heap env ρ -> St Γ F σ' s' -> AccAt Γ F σ' s'.heap D acc' -> TransC env.locals D σ s σ' s' -> K acc' σ' -> wpAny (Md Γ) A k R NoE s') -> wpAny (Md Γ) A (rest env (.ref D) k) R NoE s
noncomputable def CompRun (turn : V -> List V -> Store -> (List V -> Store -> Prop) -> Prop) : List V -> List V -> Store -> (List V -> Store -> Prop) -> Prop
 | [], acc, σ, K => K acc σ
 | x :: xs, acc, σ, K => turn x acc σ fun acc' σ' => CompRun turn xs acc' σ' K
noncomputable def keepsV (ρ ρ' : Vars) : Prop := ∀ y v, ρ.lookup y = some v -> ρ'.lookup y = some v
noncomputable def CTurn (Γ : Cx) (n : Nat) (sc : Scope) (ρ : Vars) (target : Expr) (rest : Env -> Value -> Sem Fin -> Sem Fin) (x : V) (acc : List V) (σ : Store) (K : List V -> Store -> Prop) : Prop :=
 ALoc Γ n sc ρ target x fun ρ' => keepsV ρ ρ' /\ AComp Γ n sc ρ' rest acc σ K
inductive CompDone (Γ : Cx) (F : Addr -> Prop) (env : Env) (ρ : Vars) (D : Addr) (σ₀ : Store) (s₀ : Shared) (K : List V -> Store -> Prop) (r : Result) (s' : Shared) : Prop
 | mk (e : r = .ok .next) (acc' : List V) (σ' : Store) (R : FrameRel Γ F σ' s'.heap env ρ) (S : St Γ F σ' s') (a : AccAt Γ F σ' s'.heap D acc') (T : TransC env.locals D σ₀ s₀ σ' s') (q : K acc' σ') : CompDone Γ F env ρ D σ₀ s₀ K r s'
theorem comp_walk {A : Around} {elt : Expr} {gens : List Comprehension} {scope : Scope} {pos p : Pos} {depth : Nat} {target : Expr} {rest : Env -> Value -> Sem Fin -> Sem Fin} {K : List V -> Store -> Prop}
  (heq : ∀ it acc env, compTurn (.ListComp elt gens scope pos) depth it acc env = (standAt p >>= fun _ => pyNext it >>= fun r => match r with
   | none => pure (.done .next)
   | some v => letOwnedTupleGo target it v >>= fun _ => assign target env v >>= fun _ => rest env acc (again (.compLoop (.ListComp elt gens scope pos) depth it acc env))))
  (hs : env.scope = sc) (hA : Room n A) (hR : FrameRel Γ F σ s.heap env ρ) (S : St Γ F σ s) (hacc : AccAt Γ F σ s.heap D acc) (T : TransC env.locals D σ₀ s₀ σ s) (X : ItNow Γ F σ₀ σ s₀ s target I xs W J)
  (h : CompRun (CTurn Γ n sc ρ target rest) xs acc σ K) :
  codeAny (Md Γ) A (.compLoop (.ListComp elt gens scope pos) depth (.ref I) (.ref D) env) (CompDone Γ F env ρ D σ₀ s₀ K) s := by
 refine codeAny_loop rfl (fun k s' => ∃ σ' xs' acc', k = xs'.length /\ FrameRel Γ F σ' s'.heap env ρ /\ St Γ F σ' s' /\ AccAt Γ F σ' s'.heap D acc' /\ TransC env.locals D σ₀ s₀ σ' s' /\ ItNow Γ F σ₀ σ' s₀ s' target I xs' W J /\
  CompRun (CTurn Γ n sc ρ target rest) xs' acc' σ' K) (fun k s' hI => ?_) xs.length ⟨σ, xs, acc, rfl, hR, S, hacc, T, X, h⟩
 obtain ⟨σ', xs', acc', rfl, R', S', a', T', X', q'⟩ := hI
 show wpAny _ A ((compTurn (.ListComp elt gens scope pos) depth (.ref I) (.ref D) env).onRaise (fun x => do noteFrame x env; theTreesLotGoes x)) _ _ s'
 refine wpAny_noted ?_
 rw [heq]
 refine wpAny_bind (wpAny_standAt (wpAny_bind ?_))
 have H := fun b w => X'.it.hollow xs' _ _ b X'.now w
 cases xs' with
 | nil =>
  refine wpAny_mono (X'.it.done A s' _ _ hA.1 X'.now fun h' tk k => ?_) (fun _ _ p => p) fun _ _ e => e.elim
  refine wpAny_pure ⟨rfl, acc', σ', R'.walk (s' := { s' with heap := h', toks := tk }) H k, St.walk (s' := { s' with heap := h', toks := tk }) S' X'.new H k rfl rfl, a'.walk (s' := { s' with heap := h', toks := tk }) H k, T'.walk X'.new k, q'⟩
 | cons x xs' =>
  refine wpAny_mono (X'.it.item A s' _ x xs' _ hA.1 X'.now (DD_alive S') fun val s₁ hgo => ?_) (fun _ _ p => p) fun _ _ e => e.elim
  refine wpAny_bind (wpAny_mono (hgo _ fun h₂ tk rx jx k => ?_) (fun _ _ p => p) fun _ _ e => e.elim)
  have S₃ : St Γ F σ' { s' with heap := h₂, toks := tk } := St.walk S' X'.new H k rfl rfl
  have R₃ : FrameRel Γ F σ' h₂ env ρ := R'.walk (s' := { s' with heap := h₂, toks := tk }) H k
  have X₃ : ItNow Γ F σ₀ σ' s₀ { s' with heap := h₂, toks := tk } target I xs' W J := ⟨X'.it, X'.new, jx⟩
  have T₃ : TransC env.locals D σ₀ s₀ σ' { s' with heap := h₂, toks := tk } := T'.walk X'.new k
  have a₃ : AccAt Γ F σ' h₂ D acc' := a'.walk (s' := { s' with heap := h₂, toks := tk }) H k
  have q₃ : ALoc Γ n sc ρ target x _ := q'
  refine wpAny_bind (wpAny_mono (q₃ A _ F σ' env val hs hA R₃ S₃ rx) (fun _ s₄ p => ?_) fun _ _ e => e.elim)
  obtain ⟨ρ₄, R₄, S₄, T₄, kv, q₄⟩ := p
  have hD : F D := let ⟨_, _, _, _, h, _, _⟩ := a₃; h
  have X₄ := X₃.pastC R₃ S₃ R₃.prot.1 (ns_solid R₃) T₄
  have a₄ := a₃.transL T₄ R₃.prot.1 (a₃.ne (s := { s' with heap := h₂, toks := tk }) R₃)
  refine wpAny_mono (q₄ A s₄ F env D _ _ hs hA R₄ S₄ a₄ fun acc₅ σ₅ s₅ R₅ S₅ a₅ T₅ q₅ => ?_) (fun _ _ p => p) fun _ _ e => e.elim
  exact wpAny_pure ⟨rfl, xs'.length, Nat.lt_succ_self _, σ₅, xs', acc₅, rfl, R₅.vars kv, S₅, a₅, (T₃.trans T₄.widen).trans T₅, X₄.pastC R₄ S₄ hD a₄.solid T₅, q₅⟩
noncomputable def rest0 (elt : Expr) (env : Env) (acc : Value) (k : Sem Fin) : Sem Fin := (eval elt env >>= fun x => call (.builtin "list.append") [acc, x] >>= fun _ => pure ()) >>= fun _ => k
noncomputable def rest1 (elt c : Expr) (env : Env) (acc : Value) (k : Sem Fin) : Sem Fin :=
 (forIn [c] true fun c r => if r = true then do let ok <- isTrue c env (eval c env); pure (ForInStep.yield ok) else pure (ForInStep.yield r)) >>= fun ok => if ok = true then ((eval elt env >>= fun x => call (.builtin "list.append") [acc, x] >>= fun _ => pure ()) >>= fun _ => k) else k
noncomputable def rest2 (e iter : Expr) (env : Env) (acc : Value) (k : Sem Fin) : Sem Fin :=
 eval iter env >>= fun x => standAt iter.pos >>= fun _ => foldedSetIterable iter env x >>= fun x => holding [x] (pyIter x) >>= fun it => runOwn (.compStart e 1 it acc env) env >>= fun _ => k
theorem turn0 (elt target iter : Expr) (scope : Scope) (pos : Pos) (it acc : Value) (env : Env) :
  compTurn (.ListComp elt [⟨target, iter, [], 0⟩] scope pos) 0 it acc env = (standAt iter.pos >>= fun _ => pyNext it >>= fun r => match r with
   | none => pure (.done .next)
   | some v => letOwnedTupleGo target it v >>= fun _ => assign target env v >>= fun _ => rest0 elt env acc (again (.compLoop (.ListComp elt [⟨target, iter, [], 0⟩] scope pos) 0 it acc env))) := by rfl
theorem turn1 (elt target iter c : Expr) (scope : Scope) (pos : Pos) (it acc : Value) (env : Env) :
  compTurn (.ListComp elt [⟨target, iter, [c], 0⟩] scope pos) 0 it acc env = (standAt iter.pos >>= fun _ => pyNext it >>= fun r => match r with
   | none => pure (.done .next)
   | some v => letOwnedTupleGo target it v >>= fun _ => assign target env v >>= fun _ => rest1 elt c env acc (again (.compLoop (.ListComp elt [⟨target, iter, [c], 0⟩] scope pos) 0 it acc env))) := by rfl
theorem turn2 (elt target iter target2 iter2 : Expr) (scope : Scope) (pos : Pos) (it acc : Value) (env : Env) :
  compTurn (.ListComp elt [⟨target, iter, [], 0⟩, ⟨target2, iter2, [], 0⟩] scope pos) 0 it acc env = (standAt iter.pos >>= fun _ => pyNext it >>= fun r => match r with
   | none => pure (.done .next)
   | some v => letOwnedTupleGo target it v >>= fun _ => assign target env v >>= fun _ => rest2 (.ListComp elt [⟨target, iter, [], 0⟩, ⟨target2, iter2, [], 0⟩] scope pos) iter2 env acc (again (.compLoop (.ListComp elt [⟨target, iter, [], 0⟩, ⟨target2, iter2, [], 0⟩] scope pos) 0 it acc env))) := by rfl
theorem turn3 (elt target iter target2 iter2 : Expr) (scope : Scope) (pos : Pos) (it acc : Value) (env : Env) :
  compTurn (.ListComp elt [⟨target, iter, [], 0⟩, ⟨target2, iter2, [], 0⟩] scope pos) 1 it acc env = (standAt iter2.pos >>= fun _ => pyNext it >>= fun r => match r with
   | none => pure (.done .next)
   | some v => letOwnedTupleGo target2 it v >>= fun _ => assign target2 env v >>= fun _ => rest0 elt env acc (again (.compLoop (.ListComp elt [⟨target, iter, [], 0⟩, ⟨target2, iter2, [], 0⟩] scope pos) 1 it acc env))) := by rfl
end
end
section
variable {Γ : Cx}
section
variable {n : Nat} {sc : Scope} {ρ : Vars} {σ σ' σ₀ σ₁ σ₂ : Store} {s s' s₀ s₁ s₂ : Shared} {F : Addr -> Prop} {env : Env} {L D I C : Addr} {acc : List V} {W : Addr -> Prop} {J : List V -> (Addr -> Prop) -> Heap -> Prop} {tgt : Expr} {xs : List V}
 {K : List V -> Store -> Prop} {Q : V -> Store -> Prop}
noncomputable def AccQ (acc : List V) (K : List V -> Store -> Prop) : V -> Store -> Prop := fun v σ => acc.length <= 1000000 /\ K (acc ++ [v]) σ
noncomputable def KeepQ (Γ : Cx) (n : Nat) (sc : Scope) (ρ : Vars) (elt : Expr) (acc : List V) (K : List V -> Store -> Prop) : Bool -> Store -> Prop
 | true, σ => AEval Γ n sc ρ elt σ (AccQ acc K)
 | false, σ => K acc σ
theorem AComp.rest0 {elt : Expr} (h : AEval Γ n sc ρ elt σ (AccQ acc K)) : AComp Γ n sc ρ (rest0 elt) acc σ K := by
 intro A s F env D k R hs hA hR S a hk
 unfold Mine.rest0
 refine wpAny_bind (wpAny_bind (seq_eval (α := Unit) hs hA hR S h fun v σ₁ x s₁ r R₁ S₁ T₁ q => wpAny_bind ?_))
 refine wpAny_mono (acc_append (R := fun _ s' => wpAny (Md Γ) A k R NoE s') hA.1 R₁ S₁ (a.trans T₁) r q.1 fun s₂ R₂ S₂ a₂ T₂ => ?_) (fun _ _ p => wpAny_pure p) fun _ _ e => e
 exact hk _ _ s₂ R₂ S₂ a₂ (T₁.toC.trans T₂) q.2
theorem AComp.rest1 {elt c : Expr} (h : ATest Γ n sc ρ c σ (KeepQ Γ n sc ρ elt acc K)) : AComp Γ n sc ρ (rest1 elt c) acc σ K := by
 intro A s F env D k R hs hA hR S a hk
 unfold Mine.rest1
 refine wpAny_bind (wpAny_tests_one (seq_test hs hA hR S h fun b σ₁ s₁ R₁ S₁ T₁ q => ?_))
 cases b with
 | false =>
  rw [if_neg (by decide)]
  exact hk _ _ s₁ R₁ S₁ (a.trans T₁) T₁.toC q
 | true =>
  rw [if_pos rfl]
  exact AComp.rest0 (K := K) q A s₁ F env D k R hs hA R₁ S₁ (a.trans T₁) fun acc' σ' s' R' S' a' T' => hk acc' σ' s' R' S' a' (T₁.toC.trans T')
theorem comp_start1 {A : Around} {elt : Expr} {g1 : Comprehension} {target2 iter2 : Expr} {scope : Scope} {pos : Pos} {it acc : Value} {R : Result -> Shared -> Prop}
  (h : wpAny (Md Γ) A (pyIter it) (fun it' s' => codeAny (Md Γ) A (.compLoop (.ListComp elt [g1, ⟨target2, iter2, [], 0⟩] scope pos) 1 it' acc env) R s') (notedBy (Md Γ) A env fun x s' => R (.error x) s') s)
  (h0 : codeAny (Md Γ) A (.compLoop (.ListComp elt [g1, ⟨target2, iter2, [], 0⟩] scope pos) 1 it acc env) R s) :
  codeAny (Md Γ) A (.compStart (.ListComp elt [g1, ⟨target2, iter2, [], 0⟩] scope pos) 1 it acc env) R s := by
 refine codeAny_of_tree ?_
 show wpAny _ _ ((compStart (.ListComp elt [g1, ⟨target2, iter2, [], 0⟩] scope pos) 1 it acc env).onRaise (fun x => do noteFrame x env; standAt theWindowsPlace)) _ _ s
 refine wpAny_notedAt ?_
 unfold compStart
 show wpAny _ _ (ask >>= _) _ _ s
 refine wpAny_bind (wpAny_askSetting (wpAny_ite ?_))
 split
 ·first
   | exact wpAny_bind (wpAny_pure (wpAny_pure (And.intro rfl h0)))
   | exact wpAny_pure (And.intro rfl h0)
 ·refine wpAny_bind (wpAny_rule ?_)
  show wpAny _ _ (standAt iter2.pos >>= _) _ _ s
  exact wpAny_bind (wpAny_standAt (wpAny_bind (wpAny_mono h (fun it' s' h' => wpAny_pure (And.intro rfl h')) fun _ _ x => x)))
theorem Around.mark_none (A : Around) : A.mark none = A := by cases A; rfl
theorem AComp.rest2 {elt target iter target2 iter2 : Expr} {scope : Scope} {pos : Pos}
  (h : AIt Γ n sc ρ target2 iter2 σ fun ys σ₁ => CompRun (CTurn Γ n sc ρ target2 (Mine.rest0 elt)) ys acc σ₁ K)
  (hf : ∀ env x, foldedSetIterable iter2 env x = pure x := by intro _ _; rfl) : AComp Γ n sc ρ (rest2 (.ListComp elt [⟨target, iter, [], 0⟩, ⟨target2, iter2, [], 0⟩] scope pos) iter2) acc σ K := by
 intro A s F env D k R hs hA hR S a hk
 unfold Mine.rest2
 refine wpAny_bind (wpAny_mono (h A s F env hs hA hR S) (fun x s₁ h₁ => ?_) fun _ _ e => e)
 refine wpAny_bind (wpAny_standAt (wpAny_bind (wpAny_of_eq (hf env x) (wpAny_bind (wpAny_holding (wpAny_mono h₁ (fun it s₂ h₂ => ?_) fun _ _ e => e))))))
 obtain ⟨I, ys, σ₁, W, J, rfl, S₂, T₂, X₂, q₂⟩ := h₂
 refine wpAny_bind (wpAny_runOwn (h := Option.none) ?_)
 rw [Around.mark_none]
 have go : codeAny (Md Γ) A (.compLoop (.ListComp elt [⟨target, iter, [], 0⟩, ⟨target2, iter2, [], 0⟩] scope pos) 1 (.ref I) (.ref D) env) (fun r s' => match r with | .ok f => wpAny (Md Γ) A k R NoE s' | .error e => cameBackBy (Md Γ) A env NoE e s') s₂ := by
  refine codeAny_mono (comp_walk (turn3 elt target iter target2 iter2 scope pos) hs hA (hR.trans T₂) S₂ (a.trans T₂) T₂.toC X₂ q₂) fun r s' p => ?_
  obtain ⟨rfl, acc', σ', R', S', a', T', q'⟩ := p
  exact hk acc' σ' s' R' S' a' T' q'
 exact comp_start1 (X₂.it.self A s₂ _ ys _ X₂.now go |> fun p => wpAny_mono p (fun _ _ p => p) fun _ _ e => e.elim) go
theorem dd_transP {b : Addr} {o : Obj} (T : Trans σ s σ' s') (hC : ∀ b o, s.heap.get? b = some o -> σ b = none -> b ≠ C) (nd : ¬ DD σ F b) (e : s.heap.get? b = some o) : ¬ DD σ' (prot F C) b := by
 rintro (q | q | q)
 ·rcases T.fresh b q with e' | e'
  ·exact nd (.inl e')
  ·rw [e'] at e; cases e
 ·exact nd (.inr q)
 ·exact hC b o e (dd_none nd) q
theorem VRel.transP {v : V} {x : Value} (T : Trans σ s σ' s') (hC : ∀ b o, s.heap.get? b = some o -> σ b = Option.none -> b ≠ C) (r : VRel Γ (DD σ F) s.heap v x) : VRel Γ (DD σ' (Mine.prot F C)) s'.heap v x :=
 r.mono (fun b o nd _ e => T.keep b o e (dd_none nd)) fun b o nd e => dd_transP T hC nd e
theorem FrameRel.transP (T : Trans σ s σ' s') (hC : ∀ b o, s.heap.get? b = some o -> σ b = none -> b ≠ C) (x : FrameRel Γ F σ s.heap env ρ) : FrameRel Γ (Mine.prot F C) σ' s'.heap env ρ where
 kind := x.kind
 globals := x.globals
 builtins := x.builtins
 prot := ⟨.inl x.prot.1, (x.trans T).prot.2⟩
 ns := by
  obtain ⟨m, n, r⟩ := x.ns
  exact ⟨m, Ns.get n fun o e => T.keep _ _ e x.prot.2.1, fun y v e k => let ⟨val, h1, h2⟩ := r y v e k; ⟨val, h1, h2.transP T hC⟩⟩
 cell y c hc := by
  obtain ⟨a, b, d, val, i, r⟩ := x.cell y c hc
  obtain ⟨a', _⟩ := (x.trans T).cell y c hc
  exact ⟨a', b, d, val, IsCell.get i fun o e => T.keep _ _ e a, fun v e => let ⟨u, h1, h2⟩ := r v e; ⟨u, h1, h2.transP T hC⟩⟩
 apart := x.apart
 has := x.has
 cellk := x.cellk
theorem FrameRel.unprot {h : Heap} (x : FrameRel Γ (Mine.prot F C) σ h env ρ) (p : F env.locals) : FrameRel Γ F σ h env ρ where
 kind := x.kind
 globals := x.globals
 builtins := x.builtins
 prot := ⟨p, x.prot.2⟩
 ns := by
  obtain ⟨m, n, r⟩ := x.ns
  exact ⟨m, n, fun y v e k => let ⟨val, h1, h2⟩ := r y v e k; ⟨val, h1, h2.unprot⟩⟩
 cell y c hc := by
  obtain ⟨a, b, d, val, i, r⟩ := x.cell y c hc
  exact ⟨a, b, d, val, i, fun v e => let ⟨u, h1, h2⟩ := r v e; ⟨u, h1, h2.unprot⟩⟩
 apart := x.apart
 has := x.has
 cellk := x.cellk
theorem VsRel.unprot {h : Heap} {vs : List V} {xs : List Value} (r : VsRel Γ (DD σ (Mine.prot F C)) h vs xs) : VsRel Γ (DD σ F) h vs xs := by
 induction vs generalizing xs with
 | nil => cases r; exact .nil
 | cons v vs ih => cases r with | cons a r => exact .cons a.unprot (ih r)
theorem prot_swap (F : Addr -> Prop) (a b : Addr) : prot (prot F a) b = prot (prot F b) a := by
 funext x
 unfold prot
 apply propext
 constructor
 ·rintro ((h | h) | h)
  ·exact .inl (.inl h)
  ·exact .inr h
  ·exact .inl (.inr h)
 ·rintro ((h | h) | h)
  ·exact .inl (.inl h)
  ·exact .inr h
  ·exact .inl (.inr h)
noncomputable def closes (cells : List (Str × Addr)) : List (Str × NameKind) -> List (Str × Addr) -> List (Str × Addr)
 | [], acc => acc
 | (x, k) :: r, acc => closes cells r (if k == .free then (match cells.lookup x with | some c => (x, c) :: acc | none => acc) else acc)
theorem closureFor_eq {scope : Scope} (h : ∀ p ∈ scope.names, p.2 = .free -> ∃ c, env.cells.lookup p.1 = some c) : closureFor scope env = pure (closes env.cells scope.names []) := by
 have key : ∀ (names : List (Str × NameKind)) (acc : List (Str × Addr)), (∀ p ∈ names, p.2 = .free -> ∃ c, env.cells.lookup p.1 = some c) ->
   (forIn names acc fun (x : Str × NameKind) (cs : List (Str × Addr)) => match x with
    | (name, kind) => if kind == .free then (do let a <- cellOf env name; pure (ForInStep.yield ((name, a) :: cs))) else (pure (ForInStep.yield cs) : Sem _)) = (pure (closes env.cells names acc) : Sem _) := by
  intro names
  induction names with
  | nil => intro acc _; rfl
  | cons p r ih =>
   intro acc h
   obtain ⟨x, k⟩ := p
   rw [List.forIn_cons]
   by_cases hk : k = .free
   ·subst hk
    obtain ⟨c, hc⟩ := h (x, .free) List.mem_cons_self rfl
    have hco : cellOf env x = pure c := by unfold cellOf; rw [show env.cells.lookup x = some c from hc]
    have this := ih ((x, c) :: acc) fun p hp => h p (List.mem_cons_of_mem _ hp)
    have e1 : closes env.cells ((x, .free) :: r) acc = closes env.cells r ((x, c) :: acc) := by
     show closes env.cells r (if (NameKind.free == NameKind.free) = true then (match env.cells.lookup x with | some c => (x, c) :: acc | none => acc) else acc) = _
     rw [show env.cells.lookup x = some c from hc, if_pos (by decide)]
    rw [e1, <- this]
    dsimp only
    rw [if_pos (by decide), hco]
    simp only [pure_bind]
   ·have hb : (k == NameKind.free) = false := by simpa using hk
    have this := ih acc fun p hp => h p (List.mem_cons_of_mem _ hp)
    have e1 : closes env.cells ((x, k) :: r) acc = closes env.cells r acc := by
     show closes env.cells r (if (k == NameKind.free) = true then _ else acc) = _
     rw [hb, if_neg (by decide)]
    rw [e1, <- this]
    dsimp only
    rw [hb]
    simp only [Bool.false_eq_true, if_false, pure_bind]
 unfold closureFor
 have := key scope.names [] h
 exact (congrArg (fun m => m >>= fun s => (pure s : Sem (List (Str × Addr)))) this).trans (pure_bind _ _)
theorem closes_mem {cells : List (Str × Addr)} {x : Str} {c : Addr} : ∀ (names : List (Str × NameKind)) (acc : List (Str × Addr)), (x, c) ∈ closes cells names acc -> (x, c) ∈ acc \/ ((x, NameKind.free) ∈ names /\ cells.lookup x = some c)
 | [], acc, h => .inl h
 | (y, k) :: r, acc, h => by
  unfold closes at h
  rcases closes_mem r _ h with h | h
  ·split at h
   ·rename_i hk
    split at h
    ·rename_i c' hc
     rcases List.mem_cons.mp h with e | h
     ·cases e; exact .inr ⟨by rw [beq_iff_eq.mp hk]; exact List.mem_cons_self, hc⟩
     ·exact .inl h
    ·exact .inl h
   ·exact .inl h
  ·exact .inr ⟨List.mem_cons_of_mem _ h.1, h.2⟩
theorem closes_acc {cells : List (Str × Addr)} {x : Str} : ∀ (names : List (Str × NameKind)) (acc : List (Str × Addr)), (∃ c, acc.lookup x = some c) -> ∃ c, (closes cells names acc).lookup x = some c
 | [], acc, h => h
 | (y, k) :: r, acc, h => by
  unfold closes
  refine closes_acc r _ ?_
  split
  ·split
   ·rw [List.lookup_cons]
    cases hb : x == y with
    | true => exact ⟨_, rfl⟩
    | false => exact h
   ·exact h
  ·exact h
theorem closes_has {cells : List (Str × Addr)} {x : Str} {c : Addr} (hc : cells.lookup x = some c) : ∀ (names : List (Str × NameKind)) (acc : List (Str × Addr)), (x, NameKind.free) ∈ names -> ∃ c, (closes cells names acc).lookup x = some c
 | [], acc, h => by cases h
 | (y, k) :: r, acc, h => by
  unfold closes
  rcases List.mem_cons.mp h with e | h
  ·cases e
   rw [if_pos (by decide), hc]
   exact closes_acc r _ ⟨c, by rw [List.lookup_cons, beq_self_eq_true]⟩
  ·exact closes_has hc r _ h
theorem closes_apart {cells : List (Str × Addr)} (ha : cells.Pairwise fun x y => x.2 ≠ y.2) : ∀ (names : List (Str × NameKind)) (acc : List (Str × Addr)), (names.map (·.1)).Nodup -> acc.Pairwise (fun x y => x.2 ≠ y.2) ->
  (∀ p ∈ acc, cells.lookup p.1 = some p.2 /\ p.1 ∉ names.map (·.1)) -> (closes cells names acc).Pairwise fun x y => x.2 ≠ y.2
 | [], acc, _, h, _ => h
 | (y, k) :: r, acc, hn, h, hd => by
  rw [List.map_cons, List.nodup_cons] at hn
  unfold closes
  have old : ∀ p ∈ acc, cells.lookup p.1 = some p.2 /\ p.1 ∉ r.map (·.1) := fun p hp => ⟨(hd p hp).1, fun m => (hd p hp).2 (List.mem_cons_of_mem _ m)⟩
  split
  ·split
   ·rename_i c hc
    refine closes_apart ha r _ hn.2 (List.pairwise_cons.mpr ⟨fun p hp e => ?_, h⟩) fun p hp => ?_
    ·have := hd p hp
     have hne : p.1 ≠ y := fun q => this.2 (by rw [q]; exact List.mem_cons_self)
     exact hne (name_of_addr ha (c := p.2) (mem_of_lookup this.1) (by rw [<- show c = p.2 from e]; exact mem_of_lookup hc))
    ·rcases List.mem_cons.mp hp with rfl | hp
     ·exact ⟨hc, hn.1⟩
     ·exact old p hp
   ·exact closes_apart ha r _ hn.2 h old
  ·exact closes_apart ha r _ hn.2 h old
end
end
section
variable {Γ : Cx}
theorem lookup_of_nodup {names : List (Str × NameKind)} (hn : (names.map (·.1)).Nodup) {x : Str} {k : NameKind} (h : (x, k) ∈ names) : names.lookup x = some k := by
 induction names with
 | nil => cases h
 | cons p r ih =>
  obtain ⟨y, j⟩ := p
  rw [List.map_cons, List.nodup_cons] at hn
  rw [List.lookup_cons]
  rcases List.mem_cons.mp h with e | h
  ·cases e; rw [beq_self_eq_true]
  ·have : x ≠ y := fun q => hn.1 (by rw [<- show x = y from q]; exact List.mem_map.mpr ⟨_, h, rfl⟩)
   rw [show (x == y) = false by simpa using this]
   exact ih hn.2 h
theorem mem_of_lookup' {names : List (Str × NameKind)} {x : Str} {k : NameKind} (h : names.lookup x = some k) : (x, k) ∈ names := by
 induction names with
 | nil => cases h
 | cons p r ih =>
  obtain ⟨y, j⟩ := p
  rw [List.lookup_cons] at h
  cases hb : x == y with
  | true => rw [hb] at h; cases h; rw [beq_iff_eq.mp hb]; exact List.mem_cons_self
  | false => rw [hb] at h; exact List.mem_cons_of_mem _ (ih h)
noncomputable def relK (sc : Scope) (x : Str) (k : NameKind) : NameKind := if (k == .free && sc.kind == .function && sc.names.lookup x == some .cell) then .cell else k
theorem relS_lookup (scope sc : Scope) (x : Str) : (relS scope sc).names.lookup x = (scope.names.lookup x).map (relK sc x) := by
 show List.lookup x (scope.names.map _) = _
 generalize scope.names = names
 induction names with
 | nil => rfl
 | cons p r ih =>
  obtain ⟨y, k⟩ := p
  rw [List.map_cons]
  show List.lookup x ((if (k == .free && sc.kind == .function && sc.names.lookup y == some .cell) = true then (y, NameKind.cell) else (y, k)) :: _) = _
  have e : (if (k == .free && sc.kind == .function && sc.names.lookup y == some .cell) = true then (y, NameKind.cell) else (y, k)) = (y, relK sc y k) := by unfold relK; split <;> rfl
  rw [e, List.lookup_cons, List.lookup_cons]
  cases hb : x == y with
  | true => rw [beq_iff_eq.mp hb]; rfl
  | false => exact ih
structure CompOk (scope sc : Scope) : Prop where
 k1 : scope.kind = .function
 k2 : sc.kind = .function
 nd : (scope.names.map (·.1)).Nodup
 nocell : ∀ p ∈ scope.names, p.2 ≠ .cell
 free : ∀ p ∈ scope.names, p.2 = .free -> sc.names.lookup p.1 = some .cell
theorem CompOk.of {scope sc : Scope} (h : compOk scope sc = true) : CompOk scope sc := by
 simp only [compOk, Bool.and_eq_true, beq_iff_eq, decide_eq_true_eq, List.all_eq_true, Bool.or_eq_true, bne_iff_ne, ne_eq] at h
 obtain ⟨⟨⟨h1, h2⟩, h3⟩, h4⟩ := h
 exact ⟨h1, h2, h3, fun p hp => (h4 p hp).1, fun p hp e => (h4 p hp).2.resolve_left fun q => q e⟩
section
variable {n : Nat} {sc : Scope} {ρ ρ₀ : Vars} {σ σ' σ₀ σ₁ σ₂ : Store} {s s' s₀ s₁ s₂ : Shared} {F : Addr -> Prop} {env : Env} {L D I C : Addr} {acc : List V} {W : Addr -> Prop} {J : List V -> (Addr -> Prop) -> Heap -> Prop} {tgt : Expr} {xs : List V}
 {K : List V -> Store -> Prop} {Q : V -> Store -> Prop}
theorem comp_frame {scope : Scope} {h' : Heap} (ok : CompOk scope sc) (hs : env.scope = sc) (hρ : ∀ x v, ρ₀.lookup x = some v -> ρ.lookup x = some v /\ scope.names.lookup x = some .free) (R : FrameRel Γ F σ s.heap env ρ) (S : St Γ F σ s)
  (hC : s.heap.get? C = none) (hD : s.heap.get? D = none) (k : ∀ b o, s.heap.get? b = some o -> h'.get? b = some o) (hn : h'.Ns C fun _ => none) :
  FrameRel Γ (prot (prot F C) D) σ h' (compEnvC scope (closes env.cells scope.names []) C env) ρ₀ where
 kind := ok.k1
 globals := R.globals
 builtins := R.builtins
 prot := ⟨.inl (.inr rfl), (S.out hC).1, (S.out hC).2.1⟩
 ns := ⟨_, hn, fun x v e ky => by
  have h1 := (hρ x v e).2
  have h2 : (relS scope env.scope).names.lookup x = some .local := ky
  rw [relS_lookup, h1, Option.map_some, relK] at h2
  split at h2 <;> cases h2⟩
 cell x c e := by
  have hm : (x, c) ∈ closes env.cells scope.names [] := mem_of_lookup e
  rcases closes_mem _ _ hm with h | ⟨hf, hc⟩
  ·cases h
  ·obtain ⟨a, b, d, val, i, r⟩ := R.cell x c hc
   have ic := IsCell.get i fun o e => k c o e
   refine ⟨a, b, fun q => ?_, val, ic, fun v ev => ?_⟩
   ·obtain ⟨o, ho, _⟩ := i
    rw [show c = C from q, hC] at ho; cases ho
   ·obtain ⟨u, h1, h2⟩ := r v (hρ x v ev).1
    refine ⟨u, h1, ?_⟩
    exact h2.mono (fun b o _ _ e => k b o e) fun b o nd e2 => by
     rintro (q | (q | q) | q)
     ·exact nd (.inl q)
     ·exact nd (.inr q)
     ·rw [q, hC] at e2; cases e2
     ·rw [q, hD] at e2; cases e2
 apart := closes_apart R.apart _ _ ok.nd .nil fun p hp => by cases hp
 has x h := by
  have : (x, NameKind.free) ∈ scope.names := by
   have h' : (relS scope env.scope).names.lookup x = some .cell \/ (relS scope env.scope).names.lookup x = some .free := h
   rw [relS_lookup] at h'
   cases e : scope.names.lookup x with
   | none => rw [e] at h'; rcases h' with h' | h' <;> cases h'
   | some k =>
    rw [e, Option.map_some, relK] at h'
    have hm := mem_of_lookup' e
    by_cases hk : k = .free
    ·subst hk; exact hm
    ·have hb : (k == NameKind.free) = false := by simpa using hk
     rw [hb, Bool.false_and, Bool.false_and, if_neg Bool.false_ne_true] at h'
     rcases h' with h' | h'
     ·cases h'; exact absurd rfl (ok.nocell _ hm)
     ·cases h'; exact hm
  obtain ⟨c, hc⟩ := R.has x (.inl (by rw [<- hs] at ok; exact ok.free _ this rfl))
  exact closes_has hc _ _ this
 cellk x c e ky := by
  have hm : (x, c) ∈ closes env.cells scope.names [] := mem_of_lookup e
  rcases closes_mem _ _ hm with h | ⟨hf, hc⟩
  ·cases h
  ·have h2 : (relS scope env.scope).names.lookup x = some .local := ky
   rw [relS_lookup, lookup_of_nodup ok.nd hf, Option.map_some, relK] at h2
   split at h2 <;> cases h2
structure BlockEnd (Γ : Cx) (F : Addr -> Prop) (env : Env) (ρ : Vars) (C D : Addr) (σ : Store) (s : Shared) (K : List V -> Store -> Prop) (s' : Shared) : Prop where
 ex : ∃ acc σ' m, s'.heap.Ns C m /\ C ≠ env.locals /\ (∀ x c, env.cells.lookup x = some c -> c ≠ C) /\ σ' C = none /\ Γ.h₀.get? C = none /\ ¬ F C /\ (∀ b o, s.heap.get? b = some o -> σ b = none -> b ≠ C) /\ FrameRel Γ (prot F C) σ' s'.heap env ρ /\ St Γ (prot F C) σ' s' /\
  VRel Γ (DD σ' (prot F C)) s'.heap (.lst acc) (.ref D) /\ Trans σ s σ' s' /\ K acc σ'
theorem comp_core {A : Around} {elt : Expr} {target iter : Expr} {ifs : List Expr} {gs : List Comprehension} {scope : Scope} {pos p : Pos} {rest : Env -> Value -> Sem Fin -> Sem Fin} {RR : Value -> Addr -> Result -> Shared -> Prop}
  (heq : ∀ it acc env, compTurn (.ListComp elt (⟨target, iter, ifs, 0⟩ :: gs) scope pos) 0 it acc env = (standAt p >>= fun _ => pyNext it >>= fun r => match r with
   | none => pure (.done .next)
   | some v => letOwnedTupleGo target it v >>= fun _ => assign target env v >>= fun _ => rest env acc (again (.compLoop (.ListComp elt (⟨target, iter, ifs, 0⟩ :: gs) scope pos) 0 it acc env))))
  (ok : CompOk scope sc) (hρ : ∀ x v, ρ₀.lookup x = some v -> ρ.lookup x = some v /\ scope.names.lookup x = some .free)
  (hs : env.scope = sc) (hA : Room n A) (R₀ : FrameRel Γ F σ s.heap env ρ) (S : St Γ F σ₁ s₂) (T : Trans σ s σ₁ s₂) (X : ItNow Γ F σ σ₁ s s₂ target I xs W J)
  (h : CompRun (CTurn Γ n (relS scope sc) ρ₀ target rest) xs [] σ₁ K)
  (hR : ∀ C D s', BlockEnd Γ F env ρ C D σ s K s' -> RR (.ref D) C (.ok .next) s') :
  wpAny (Md Γ) A (newList []) (fun acc s₃ => wpAny (Md Γ) A (newFunctionEnv scope env.globals (closes env.cells scope.names []) [] env.qual none .none (some env)) (fun cenv s₄ =>
   codeAny (Md Γ) A (.compStart (.ListComp elt (⟨target, iter, ifs, 0⟩ :: gs) scope pos) 0 (.ref I) acc { cenv with scope := relabel scope env }) (RR acc cenv.locals) s₄) NoE s₃) NoE s₂ := by
 have R := R₀.trans T
 refine wpAny_newObj_type (wpAny_newFunctionEnv ok.nocell (by intro y hy; simp at hy) (fun h₁ hns₁ hsb₁ => ?_) ok.k1)
 dsimp only at hns₁ hsb₁ ⊢
 generalize hH2 : s₂.heap.push { cls := .type "list", dict := none, data := .seq ([] : List Value).toArray } = H2 at hns₁ hsb₁ ⊢
 have hCs : H2.objs.size = s₂.heap.objs.size + 1 := by rw [<- hH2, Heap.size_push]
 have hDC : s₂.heap.objs.size ≠ H2.objs.size := by rw [hCs]; exact Nat.ne_of_lt (Nat.lt_succ_self _)
 have hD : s₂.heap.get? s₂.heap.objs.size = none := get_size _
 have hC : s₂.heap.get? H2.objs.size = none := get_none_of_lt (by rw [hCs]; exact Nat.le_succ _)
 have hC2 : H2.get? H2.objs.size = none := get_size _
 have up2 : ∀ b o, s₂.heap.get? b = some o -> H2.get? b = some o := fun b o e => hH2 ▸ Heap.get?_push_of_some _ e
 have up3 : ∀ b o, H2.get? b = some o -> h₁.get? b = some o := fun b o e => (hsb₁.2 b (fun q => by rw [q, hC2] at e; cases e)).trans (Heap.get?_push_of_some _ e)
 have up : ∀ b o, s₂.heap.get? b = some o -> h₁.get? b = some o := fun b o e => up3 b o (up2 b o e)
 have hDo : h₁.get? s₂.heap.objs.size = some (seqObj "list" #[] 0) := up3 _ _ (hH2 ▸ Heap.get?_push_size _ rfl)
 have hCo : ∃ o, h₁.get? H2.objs.size = some o := let ⟨o, _, _, e, _⟩ := hns₁; ⟨o, e⟩
 have S₅' : St Γ (prot (prot F s₂.heap.objs.size) H2.objs.size) σ₁ { s₂ with heap := h₁, toks := s₂.toks + ([] : List (Str × Value)).length } :=
  (S.prot (s' := { s₂ with heap := H2 }) hD up2 ⟨_, hH2 ▸ Heap.get?_push_size _ rfl⟩ rfl rfl).prot (s' := { s₂ with heap := h₁, toks := s₂.toks + ([] : List (Str × Value)).length }) hC2 up3 hCo rfl rfl
 have S₅ : St Γ (prot (prot F H2.objs.size) s₂.heap.objs.size) σ₁ { s₂ with heap := h₁, toks := s₂.toks + ([] : List (Str × Value)).length } := by rw [prot_swap]; exact S₅'
 have R₅ := comp_frame (h' := h₁) ok hs hρ R S hC hD up hns₁
 have a₅ : AccAt Γ (prot (prot F H2.objs.size) s₂.heap.objs.size) σ₁ h₁ s₂.heap.objs.size [] := ⟨_, _, hDo, (S.out hD).1, .inr rfl, (S.out hD).2.1, .nil⟩
 have HW := fun b w => X.it.hollow xs _ _ b X.now w
 have X₅ : ItNow Γ (prot (prot F H2.objs.size) s₂.heap.objs.size) σ σ₁ s { s₂ with heap := h₁, toks := s₂.toks + ([] : List (Str × Value)).length } target I xs W J := by
  refine ⟨X.it, fun b w => ?_, X.it.frame xs _ _ _ _ X.now (fun b o _ e => up b o e) fun b o nd _ e => ?_⟩
  ·obtain ⟨q1, q2, q3⟩ := X.new b w
   obtain ⟨o, vs, e, _⟩ := HW b w
   refine ⟨q1, q2, ?_⟩
   rintro ((z | z) | z)
   ·exact q3 z
   ·subst z; rw [hC] at e; cases e
   ·subst z; rw [hD] at e; cases e
  ·rintro (q | (q | q) | q)
   ·exact nd (.inl q)
   ·exact nd (.inr q)
   ·subst q; rw [hC] at e; cases e
   ·subst q; rw [hD] at e; cases e
 have T₅ : Trans σ s σ₁ { s₂ with heap := h₁, toks := s₂.toks + ([] : List (Str × Value)).length } := T.trans (Trans.grow up)
 have loop : codeAny (Md Γ) A (.compLoop (.ListComp elt (⟨target, iter, ifs, 0⟩ :: gs) scope pos) 0 (.ref I) (.ref s₂.heap.objs.size) (compEnvC scope (closes env.cells scope.names []) H2.objs.size env))
   (RR (.ref s₂.heap.objs.size) H2.objs.size) { s₂ with heap := h₁, toks := s₂.toks + ([] : List (Str × Value)).length } := by
  refine codeAny_mono (comp_walk (sc := relS scope sc) heq (by rw [<- hs]; rfl) hA R₅ S₅ a₅ T₅.toC X₅ h) fun r s' p => ?_
  obtain ⟨rfl, acc', σ', R', S', a', T', q'⟩ := p
  have hCs0 : ∀ b o, s.heap.get? b = some o -> σ b = none -> b ≠ H2.objs.size := fun b o e z q => by
   have := T.keep b o e z; rw [q, hC] at this; cases this
  have hDs0 : ∀ b o, s.heap.get? b = some o -> σ b = none -> b ≠ s₂.heap.objs.size := fun b o e z q => by
   have := T.keep b o e z; rw [q, hD] at this; cases this
  have T'' : Trans σ s σ' s' := ⟨fun b o e z => T'.keep b o e z (hCs0 b o e z) (hDs0 b o e z), T'.fresh⟩
  obtain ⟨m, hn, _⟩ := R'.ns
  obtain ⟨pF, pC, p0⟩ := R'.prot
  have RF := R₀.transP T'' hCs0
  have L1 : H2.objs.size ≠ env.locals := fun q => by
   obtain ⟨m, ⟨o, _, _, e, _⟩, _⟩ := R₀.ns
   exact hCs0 _ o e R₀.prot.2.1 q.symm
  obtain ⟨arr, m', d1, d2, d3, d4, d5⟩ := a'
  refine hR _ _ s' ⟨acc', σ', m, hn, L1, fun x c e q => ?_, pC, p0, (S.out hC).2.2, hCs0, RF, S'.unprot, .at ?_ (.lst d1 d5.unprot), T'', q'⟩
  ·obtain ⟨a, _, _, val, ⟨o, e', _⟩, _⟩ := R₀.cell x c e
   exact hCs0 _ o e' a q
  ·rintro (z | z | z)
   ·exact z d2
   ·exact (S.out hD).2.2 z
   ·exact hDC z
 exact codeAny_compStart_list loop (wpAny_mono (X₅.it.self A { s₂ with heap := h₁, toks := s₂.toks + ([] : List (Str × Value)).length } _ xs _ X₅.now loop) (fun _ _ p => p) fun _ _ e => e.elim)
theorem St.apartU (x : St Γ (Mine.prot F C) σ s) (n : σ C = none) (h0 : Γ.h₀.get? C = none) (nf : ¬ F C) (hs : Heap.SameBut C s.heap s'.heap) (g : s'.gens = s.gens) (os : s'.os = s.os) : St Γ F σ s' where
 base b o e := (hs.2 b (fun q => by subst q; rw [h0] at e; cases e)).trans (x.base b o e)
 rep b u e := (x.rep b u e).mono (fun c o m _ e => (hs.2 c (fun q => by subst q; exact m (.inr (.inr rfl)))).trans e) (fun _ _ n _ => dd_prot n)
  fun o e' => (hs.2 b (fun q => by subst q; rw [n] at e; cases e)).trans e'
 new := x.new
 fin b f := by
  obtain ⟨o, e⟩ := x.fin b (.inl f)
  exact ⟨o, (hs.2 b (fun q => by subst q; exact nf f)).trans e⟩
 off b f := x.off b (.inl f)
 low b f := x.low b (.inl f)
 gens := g.trans x.gens
 os := os.trans x.os
theorem comp_closure {scope : Scope} (ok : CompOk scope sc) (hs : env.scope = sc) (R : FrameRel Γ F σ s.heap env ρ) : closureFor scope env = pure (closes env.cells scope.names []) :=
 closureFor_eq fun p hp e => R.has p.1 (.inl (by subst hs; exact ok.free p hp e))
noncomputable def FrzQ (Q : V -> Store -> Prop) : List V -> Store -> Prop := fun acc σ => Q (.lst acc) σ
noncomputable def CompQ (Γ : Cx) (n : Nat) (sc : Scope) (ρ : Vars) (target : Expr) (rest : Env -> Value -> Sem Fin -> Sem Fin) (Q : V -> Store -> Prop) : List V -> Store -> Prop := fun xs σ => CompRun (CTurn Γ n sc ρ target rest) xs [] σ (FrzQ Q)
theorem AEval.listcompG {elt : Expr} {target iter : Expr} {ifs : List Expr} {gs : List Comprehension} {scope : Scope} {pos p : Pos} {rest : Env -> Value -> Sem Fin -> Sem Fin} (ρ₀ : Vars)
  (heq : ∀ it acc env, compTurn (.ListComp elt (⟨target, iter, ifs, 0⟩ :: gs) scope pos) 0 it acc env = (standAt p >>= fun _ => pyNext it >>= fun r => match r with
   | none => pure (.done .next)
   | some v => letOwnedTupleGo target it v >>= fun _ => assign target env v >>= fun _ => rest env acc (again (.compLoop (.ListComp elt (⟨target, iter, ifs, 0⟩ :: gs) scope pos) 0 it acc env))))
  (ok : compOk scope sc = true) (hρ : ∀ x v, ρ₀.lookup x = some v -> ρ.lookup x = some v /\ scope.names.lookup x = some .free)
  (h : AIt Γ n sc ρ target iter σ (CompQ Γ n (relS scope sc) ρ₀ target rest Q))
  (hf : ∀ env x, foldedSetIterable iter env x = pure x) : AEval Γ n sc ρ (.ListComp elt (⟨target, iter, ifs, 0⟩ :: gs) scope pos) σ Q := by
 intro A s F env hs hA hR S
 have ok' := CompOk.of ok
 rw [eval_ListComp]
 refine wpAny_comprehension_free (use := none) rfl (hf env) (comp_closure ok' hs hR) ok'.k1 (fun x hx e => by rw [<- e]; exact lookup_of_nodup ok'.nd hx)
  (wpAny_mono (h A s F env hs hA hR S) (fun x s₁ h₁ => wpAny_mono h₁ (fun it s₂ h₂ => ?_) fun _ _ e => e) fun _ _ e => e)
 obtain ⟨I, xs, σ₁, W, J, rfl, S₂, T₂, X₂, q₂⟩ := h₂
 refine comp_core (RR := fun acc C => compPost (Md Γ) A NoE none (Post Γ F σ s Q) acc C) heq ok' hρ hs hA hR S₂ T₂ X₂ q₂ fun C D s' b => ?_
 obtain ⟨acc, σ', m, hn, hL, hc, hσ, h0, hF, hC, RF, S', r, T', q⟩ := b
 refine ⟨m, hn, fun h' hs' => ⟨.lst acc, σ', (r.apart (.inr rfl) hs').unprot, ?_, ?_, q⟩⟩
 ·exact S'.apartU (s' := { s' with heap := h' }) hσ h0 hF hs' rfl rfl
 ·exact ⟨fun b o e z => (hs'.2 b (hC b o e z)).trans (T'.keep b o e z), T'.fresh⟩
theorem exec_listcompG {elt : Expr} {target iter : Expr} {ifs : List Expr} {gs : List Comprehension} {scope : Scope} {pos p py spos : Pos} {y : Str} {rest : Env -> Value -> Sem Fin -> Sem Fin} {Q : Fl -> Vars -> Store -> Prop} (ρ₀ : Vars)
  (heq : ∀ it acc env, compTurn (.ListComp elt (⟨target, iter, ifs, 0⟩ :: gs) scope pos) 0 it acc env = (standAt p >>= fun _ => pyNext it >>= fun r => match r with
   | none => pure (.done .next)
   | some v => letOwnedTupleGo target it v >>= fun _ => assign target env v >>= fun _ => rest env acc (again (.compLoop (.ListComp elt (⟨target, iter, ifs, 0⟩ :: gs) scope pos) 0 it acc env))))
  (hsw : ∀ env, env.scope = sc -> swapsWith (.ListComp elt (⟨target, iter, ifs, 0⟩ :: gs) scope pos) (some (.Name y py)) spos.line env = pure true)
  (hy : sc.names.lookup y = some .local)
  (ok : compOk scope sc = true) (hρ : ∀ x v, ρ₀.lookup x = some v -> ρ.lookup x = some v /\ scope.names.lookup x = some .free)
  (h : AIt Γ n sc ρ target iter σ fun xs σ₁ => CompRun (CTurn Γ n (relS scope sc) ρ₀ target rest) xs [] σ₁ fun acc σ₂ => Q .next ((y, .lst acc) :: ρ) σ₂)
  (hf : ∀ env x, foldedSetIterable iter env x = pure x) : AExec Γ n sc ρ (.Assign [.Name y py] (.ListComp elt (⟨target, iter, ifs, 0⟩ :: gs) scope pos) spos) σ Q := by
 intro A s F env hs hA hR S
 have ok' := CompOk.of ok
 rw [exec_Assign_Name_used _ _ _ _ (hsw env hs)]
 refine wpAny_bind (wpAny_standAt (wpAny_bind ?_))
 show wpAny _ A (do let _ <- comprehension (.ListComp elt (⟨target, iter, ifs, 0⟩ :: gs) scope pos) scope env _ (newList []) false (eval iter env) (some (assign (.Name y py) env))) _ _ s
 refine wpAny_bind (wpAny_mono (wpAny_comprehension_free (use := some (assign (.Name y py) env)) (Q := fun _ s' => PostX Γ F env σ s Q Flow.next s') rfl (hf env) (comp_closure ok' hs hR) ok'.k1 (fun x hx e => by rw [<- e]; exact lookup_of_nodup ok'.nd hx)
  (wpAny_mono (h A s F env hs hA hR S) (fun x s₁ h₁ => wpAny_mono h₁ (fun it s₂ h₂ => ?_) fun _ _ e => e) fun _ _ e => e)) (fun _ s' hq => wpAny_pure (wpAny_pure hq)) fun _ _ e => e)
 obtain ⟨I, xs, σ₁, W, J, rfl, S₂, T₂, X₂, q₂⟩ := h₂
 refine comp_core (RR := fun acc C => compPost (Md Γ) A NoE (some (assign (.Name y py) env)) (fun _ s' => PostX Γ F env σ s Q Flow.next s') acc C) heq ok' hρ hs hA hR S₂ T₂ X₂ q₂ fun C D s' b => ?_
 obtain ⟨acc, σ', m, hn, hL, hc, hσ, h0, hF, hC, RF, S', r, T', q⟩ := b
 show wpAny _ A (assign (.Name y py) env (.ref D)) _ _ _
 refine wpAny_assign_Name (store_local (by rw [hs]; exact hy) RF S' r fun s₃ R₃ S₃ hs₃ g₃ o₃ => ?_)
 refine ⟨m, hn.sameBut hs₃ hL, fun h' hs' => ?_⟩
 refine ⟨.next, (y, .lst acc) :: ρ, σ', .next, ?_, S₃.apartU (s' := { s₃ with heap := h' }) hσ h0 hF hs' rfl rfl, ⟨fun b o e z w => ?_, fun b w e => T'.fresh b e⟩, q⟩
 ·exact (R₃.apart' (.inr rfl) hs' hL hc).unprot hR.prot.1
 ·exact (hs'.2 b (hC b o e z)).trans ((hs₃.2 b (fun q => w (.inl q))).trans (T'.keep b o e z))
end
end
section
variable {Γ : Cx}
mutual
noncomputable def drawsV : V -> Nat
 | .tup vs => drawsVs vs + 1
 | _ => 1
noncomputable def drawsVs : List V -> Nat
 | [] => 0
 | v :: vs => drawsV v + drawsVs vs
end
noncomputable def eqV (a b : V) : Bool := @decide (a = b) (Classical.propDecidable _)
theorem eqV_iff {a b : V} : eqV a b = true ↔ a = b := @decide_eq_true_iff _ (Classical.propDecidable _)
theorem eqV_self (a : V) : eqV a a = true := eqV_iff.mpr rfl
theorem eqV_ne {a b : V} (h : a ≠ b) : eqV a b = false := by
 cases e : eqV a b with
 | false => rfl
 | true => exact absurd (eqV_iff.mp e) h
set_option genInjectivity false in
set_option genSizeOf false in
structure EK (prog : Program) (w : World) where
 is : Heap -> V -> Value -> Prop
 room : Around -> Prop
 fuel : Nat
 inj : ∀ {h : Heap} {v : Value} {x y : V}, is h x v -> is h y v -> x = y
 keeps : ∀ {h h' : Heap} {k : V} {v : Value}, is h k v -> (∀ a o, h.get? a = some o -> (∃ arr n, o.data = .seq arr n) -> h'.get? a = some o) -> is h' k v
 pyHash : ∀ {A : Around} {E : Value -> Shared -> Prop} {s : Shared} {k : V} {v : Value} {Q : Int -> Shared -> Prop}, room A -> is s.heap k v -> Q (hashV w k) { s with toks := s.toks + drawsV k } -> wpAny (model prog w) A (PySem.pyHash v) Q E s
 eqBool : ∀ {A : Around} {E : Value -> Shared -> Prop} {s : Shared} {x y : V} {u v : Value} {Q : Bool -> Shared -> Prop}, room A -> is s.heap x u -> is s.heap y v -> Q (eqV x y) s -> wpAny (model prog w) A (PySem.eqBool u v) Q E s
 quiet : ∀ {A : Around} {E : Value -> Shared -> Prop} {s : Shared} {n : Nat} {k : V} {v : Value} {Q : Bool -> Shared -> Prop}, fuel <= n -> is s.heap k v -> Q true s -> wpAny (model prog w) A (eqIsQuiet n v) Q E s
section
variable {prog : Program} {w : World} (K : EK prog w)
inductive ItemsE (h : Heap) : List V -> List Value -> Prop
 | nil : ItemsE h [] []
 | cons {k : V} {v : Value} {ks : List V} {vs : List Value} : K.is h k v -> ItemsE h ks vs -> ItemsE h (k :: ks) (v :: vs)
inductive TupIs (h : Heap) : V -> Value -> Prop
 | mk {a : Addr} {arr : Array Value} {x : Str} {t : Tok} {vs : List V} {xs : List Value} : h.IsTuple a arr -> arr.toList = .str x t :: xs -> ItemsE K h vs xs -> TupIs h (.tup (.str x :: vs)) (.ref a)
variable {K}
theorem ItemsE.inj {h : Heap} {x y : List V} {vs : List Value} (hx : ItemsE K h x vs) (hy : ItemsE K h y vs) : x = y := by
 induction hx generalizing y with
 | nil => cases hy; rfl
 | cons h1 _ ih => cases hy with | cons h2 t2 => rw [K.inj h1 h2, ih t2]
theorem ItemsE.keeps {h h' : Heap} {x : List V} {vs : List Value} (hx : ItemsE K h x vs) (k : ∀ a o, h.get? a = some o -> (∃ arr n, o.data = .seq arr n) -> h'.get? a = some o) : ItemsE K h' x vs := by
 induction hx with
 | nil => exact .nil
 | cons h1 _ ih => exact .cons (K.keeps h1 k) ih
theorem IsTuple_same {h : Heap} {a : Addr} {x y : Array Value} (hx : h.IsTuple a x) (hy : h.IsTuple a y) : x = y := by
 obtain ⟨o, ho, _, n, hd⟩ := hx
 obtain ⟨o', ho', _, n', hd'⟩ := hy
 rw [ho] at ho'; cases ho'; rw [hd] at hd'; cases hd'; rfl
theorem TupIs.inj {h : Heap} {x y : V} {v : Value} (hx : TupIs K h x v) (hy : TupIs K h y v) : x = y := by
 cases hx with
 | mk h1 h2 h3 =>
  cases hy with
  | mk g1 g2 g3 =>
   obtain rfl := IsTuple_same h1 g1
   rw [h2] at g2
   injection g2 with e1 e2
   injection e1 with e1 _
   subst e1 e2
   rw [h3.inj g3]
theorem TupIs.keeps {h h' : Heap} {x : V} {v : Value} (hx : TupIs K h x v) (k : ∀ a o, h.get? a = some o -> (∃ arr n, o.data = .seq arr n) -> h'.get? a = some o) : TupIs K h' x v := by
 cases hx with
 | mk h1 h2 h3 =>
  obtain ⟨o, ho, hc, m, hd⟩ := h1
  exact .mk ⟨o, k _ o ho ⟨_, _, hd⟩, hc, m, hd⟩ h2 (h3.keeps k)
theorem tup_pyHash (deep : Around -> Prop) (hdeep : ∀ A, deep A -> K.room A.in1 /\ A.units < cLine) {A : Around} {E : Value -> Shared -> Prop} {s : Shared} {k : V} {v : Value} {Q : Int -> Shared -> Prop} (hr : deep A) (hk : TupIs K s.heap k v)
  (h : Q (hashV w k) { s with toks := s.toks + drawsV k }) : wpAny (model prog w) A (PySem.pyHash v) Q E s := by
 obtain ⟨hr1, hu⟩ := hdeep A hr
 cases hk with
 | @mk a arr x t vs xs ht harr hi =>
 have hT : s.TypeIs (.ref a) "tuple" := let ⟨o, ho, hc, _⟩ := ht; ⟨o, ho, hc⟩
 obtain ⟨o, ho, _, n, hd⟩ := ht
 unfold PySem.pyHash
 first | unfold pyHashByItsType | skip
 first | refine wpAny_bind (wpAny_cRoomFor_or (.inr hu) ?_) | skip
 refine wpAny_bind (wpAny_specialOf hT F.slot_tuple_hash.lookup ?_)
 show wpAny _ _ (if (some (Value.builtin "tuple.__hash__") == some Value.none) = true then _ else _) Q E s
 rw [if_neg (by rw [beq_builtin_none]; exact Bool.false_ne_true)]
 refine wpAny_bind (wpAny_specialOf hT F.slot_tuple_hash.lookup ?_)
 show wpAny _ _ (callSpecialIfBoundUnlessNone? (.ref a) "__hash__" _ >>= _) Q E s
 refine wpAny_bind (wpAny_callSpecialIfBoundUnlessNone?_slot hT F.slot_tuple_hash (wpAny_call_entry F.slot_tuple_hash hT F.entry_tuple_hash ?_ (F.args_tuple_hash_1 _)))
 show wpAny _ _ (Builtin.Tuple.tupleItemsOf (.ref a) >>= _) _ _ s
 refine wpAny_bind (wpAny_tupleItemsOf ho hd ?_)
 refine wpAny_bind ?_
 rw [<- Array.forIn_toList, harr]
 refine wpAny_forIn_list _
  (fun rest (b : Array Int) s' => (rest = .str x t :: xs /\ b = #[] /\ s' = s) \/ (∃ done left, vs = done ++ left /\ ItemsE K s'.heap left rest /\ b.toList = hashStr w x :: hashVs w done /\ s' = { s with toks := s.toks + (drawsVs done + 1) }))
  _ ?_ ?_ _ _ (.inl ⟨rfl, rfl, rfl⟩)
 ·rintro y rest b s' (⟨hc, rfl, rfl⟩ | ⟨done, left, rfl, hl, hb, rfl⟩)
  ·cases hc
   refine wpAny_bind (wpAny_pyHash_str ?_)
   first
    | exact wpAny_pure (.inr ⟨[], vs, rfl, hi, rfl, rfl⟩)
    | exact wpAny_bind (wpAny_pure (wpAny_pure (.inr ⟨[], vs, rfl, hi, rfl, rfl⟩)))
  ·cases hl with
   | @cons k _ ks' _ h1 hl' =>
    have snoc : ∀ l : List V, hashVs w (l ++ [k]) = hashVs w l ++ [hashV w k] /\ drawsVs (l ++ [k]) = drawsVs l + drawsV k := by
     intro l
     induction l with
     | nil => exact ⟨rfl, (Nat.add_comm _ _)⟩
     | cons v l ih => exact ⟨congrArg (hashV w v :: ·) ih.1, (congrArg (drawsV v + ·) ih.2).trans (Nat.add_assoc ..).symm⟩
    refine wpAny_bind (K.pyHash hr1 h1 ?_)
    first
     | exact wpAny_pure (.inr ⟨done ++ [k], ks', by simp, hl', by simp [hb, (snoc done).1], by simp [(snoc done).2, Nat.add_assoc, Nat.add_comm, Nat.add_left_comm]⟩)
     | exact wpAny_bind (wpAny_pure (wpAny_pure (.inr ⟨done ++ [k], ks', by simp, hl', by simp [hb, (snoc done).1], by simp [(snoc done).2, Nat.add_assoc, Nat.add_comm, Nat.add_left_comm]⟩)))
 ·rintro b s' (⟨hc, _⟩ | ⟨done, left, rfl, hl, hb, rfl⟩)
  ·cases hc
  ·cases hl
   rw [List.append_nil] at h
   show wpAny _ _ (retInt (Builtin.Tuple.tupleHashOf b.toList)) _ _ _
   rw [hb]
   have hV : hashV w (.tup (.str x :: done)) = reduceHash (Builtin.Tuple.tupleHashOf (hashStr w x :: hashVs w done)) := rfl
   have hD : drawsV (.tup (.str x :: done)) = drawsVs done + 1 + 1 := by show 1 + drawsVs done + 1 = _; lia
   rw [hV, hD] at h
   refine wpAny_ret_mkInt ?_
   show wpAny _ _ (if (decide (-(2 : Int) ^ 63 <= Builtin.Tuple.tupleHashOf (hashStr w x :: hashVs w done)) && decide (Builtin.Tuple.tupleHashOf (hashStr w x :: hashVs w done) < 2 ^ 63)) = true then _ else _) Q E _
   unfold reduceHash at h
   by_cases hr : (decide (-(2 : Int) ^ 63 <= Builtin.Tuple.tupleHashOf (hashStr w x :: hashVs w done)) && decide (Builtin.Tuple.tupleHashOf (hashStr w x :: hashVs w done) < 2 ^ 63)) = true
   ·rw [if_pos hr]
    rw [if_pos hr] at h
    exact wpAny_pure (by simpa [Nat.add_assoc] using h)
   ·rw [if_neg hr]
    rw [if_neg hr] at h
    exact wpAny_bind (wpAny_rule (wpAny_pure (by simpa [Nat.add_assoc] using h)))
theorem eqV_congr {a b c d : V} (h : a = b ↔ c = d) : eqV a b = eqV c d := by
 cases e : eqV c d with
 | true => exact eqV_iff.mpr (h.mpr (eqV_iff.mp e))
 | false => exact eqV_ne fun q => by rw [eqV_iff.mpr (h.mp q)] at e; cases e
theorem tup_eq_tree (hroom : Around -> Prop) {A : Around} {s : Shared} {x y : V} {a b : Addr} {P : Fin -> Shared -> Prop} {E : Value -> Shared -> Prop} (hr : K.room A) (hx : TupIs K s.heap x (.ref a)) (hy : TupIs K s.heap y (.ref b))
  (h : P (.done (.ret (.bool (eqV x y)))) s) : wpAny (model prog w) A (Builtin.«tuple.__eq__» ⟨[.ref a, .ref b], []⟩) P E s := by
 cases hx with
 | @mk _ arr x t vs xs hta harr hia =>
 cases hy with
 | @mk _ brr y u ws ys htb hbrr hib =>
 have hTb : s.TypeIs (.ref b) "tuple" := let ⟨o, ho, hc, _⟩ := htb; ⟨o, ho, hc⟩
 obtain ⟨oa, hoa, _, na, hda⟩ := hta
 obtain ⟨ob, hob, _, nb, hdb⟩ := htb
 show wpAny _ _ (isInstance (.ref b) (.type "tuple") >>= _) _ _ s
 refine wpAny_bind (wpAny_isInstance hTb isSubtype_tuple_tuple ?_)
 simp only [Bool.not_true, Bool.false_eq_true, if_false]
 refine wpAny_bind (wpAny_tupleItemsOf hoa hda ?_)
 refine wpAny_bind (wpAny_tupleItemsOf hob hdb ?_)
 refine wpAny_bind ?_
 have hsz : (arr.size == brr.size) = (xs.length == ys.length) := by
  rw [<- Array.length_toList, <- Array.length_toList, harr, hbrr]; simp
 refine wpAny_forIn_list _
  (fun rest r s' => r.1 = none /\ s' = s /\ (rest = List.zip (Value.str x t :: xs) (Value.str y u :: ys) \/ ∃ x' y' xs' ys', rest = List.zip xs' ys' /\ ItemsE K s.heap x' xs' /\ ItemsE K s.heap y' ys' /\
   (V.tup x' = V.tup y' ↔ V.tup (.str x :: vs) = V.tup (.str y :: ws)) /\ (xs'.length == ys'.length) = (arr.size == brr.size)))
  _ ?_ ?_ _ _ ⟨rfl, rfl, .inl (by rw [harr, hbrr])⟩
 ·rintro ⟨v1, v2⟩ rest r s' ⟨hr', rfl, hz | ⟨x', y', xs', ys', hz, hx', hy', hdec, hlen⟩⟩
  ·simp only [List.zip_cons_cons, List.cons.injEq, Prod.mk.injEq] at hz
   obtain ⟨⟨rfl, rfl⟩, rfl⟩ := hz
   refine wpAny_bind (wpAny_eqBool_str ?_)
   by_cases hk : x = y
   ·subst hk
    rw [decide_eq_true rfl]
    simp only [Bool.not_true, Bool.false_eq_true, if_false]
    refine wpAny_pure ⟨rfl, rfl, .inr ⟨vs, ws, xs, ys, rfl, hia, hib, ?_, hsz.symm⟩⟩
    constructor
    ·intro e; injection e with e; rw [e]
    ·intro e; injection e with e; injection e with _ e; rw [e]
   ·rw [decide_eq_false hk]
    simp only [Bool.not_false, if_true]
    rw [eqV_ne (fun e => by injection e with e; injection e with e _; injection e with e; exact hk e)] at h
    exact wpAny_bind (wpAny_pure (wpAny_pure (wpAny_pure h)))
  ·cases hx' with
   | nil => simp at hz
   | @cons k1 u' x'' xs'' h1 hx'' =>
    cases hy' with
    | nil => simp at hz
    | @cons k2 v' y'' ys'' h2 hy'' =>
     simp only [List.zip_cons_cons, List.cons.injEq, Prod.mk.injEq] at hz
     obtain ⟨⟨rfl, rfl⟩, rfl⟩ := hz
     refine wpAny_bind (K.eqBool (x := k1) (y := k2) hr h1 h2 ?_)
     by_cases hk : k1 = k2
     ·subst hk
      rw [eqV_self]
      simp only [Bool.not_true, Bool.false_eq_true, if_false]
      refine wpAny_pure ⟨rfl, rfl, .inr ⟨x'', y'', xs'', ys'', rfl, hx'', hy'', ?_, by simpa using hlen⟩⟩
      rw [<- hdec]
      constructor
      ·intro e; injection e with e; rw [e]
      ·intro e; injection e with e; injection e with _ e; rw [e]
     ·rw [eqV_ne hk]
      simp only [Bool.not_false, if_true]
      have hf : eqV (V.tup (.str x :: vs)) (V.tup (.str y :: ws)) = false := eqV_ne fun e => by
       have := hdec.mpr e
       injection this with this
       injection this with this _
       exact hk this
      rw [hf] at h
      exact wpAny_bind (wpAny_pure (wpAny_pure (wpAny_pure h)))
 ·rintro ⟨r1, r2⟩ s' ⟨hr', rfl, hz | ⟨x', y', xs', ys', hz, hx', hy', hdec, hlen⟩⟩
  ·simp at hz
  simp only at hr'
  subst hr'
  refine wpAny_pure ?_
  have hfin : (arr.size == brr.size) = eqV (V.tup (.str x :: vs)) (V.tup (.str y :: ws)) := by
   rw [<- eqV_congr hdec, <- hlen]
   cases hx' with
   | nil =>
    cases hy' with
    | nil => simp [eqV_self]
    | cons _ _ => rw [eqV_ne (fun e => by injection e with e; cases e)]; simp
   | cons _ _ =>
    cases hy' with
    | nil => rw [eqV_ne (fun e => by injection e with e; cases e)]; simp
    | cons _ _ => simp at hz
  show P (.done (.ret (.bool (arr.size == brr.size)))) s'
  rw [hfin]; exact h
theorem tup_eqBool (deep : Around -> Prop) (hdeep : ∀ A, deep A -> K.room A.in1 /\ A.units < cLine) {A : Around} {E : Value -> Shared -> Prop} {s : Shared} {x y : V} {u v : Value} {Q : Bool -> Shared -> Prop} (hr : deep A)
  (hx : TupIs K s.heap x u) (hy : TupIs K s.heap y v) (h : Q (eqV x y) s) : wpAny (model prog w) A (PySem.eqBool u v) Q E s := by
 obtain ⟨hr1, hu⟩ := hdeep A hr
 have hx0 := hx
 have hy0 := hy
 cases hx with
 | @mk a arr x' t vs xs hta harr hia =>
 cases hy with
 | @mk b brr y' u ws ys htb hbrr hib =>
 have hTa : s.TypeIs (.ref a) "tuple" := let ⟨o, ho, hc, _⟩ := hta; ⟨o, ho, hc⟩
 have hTb : s.TypeIs (.ref b) "tuple" := let ⟨o, ho, hc, _⟩ := htb; ⟨o, ho, hc⟩
 unfold PySem.eqBool
 try with_reducible refine wpAny_holding ?_
 show wpAny _ _ (if (Value.ref a == Value.ref b) = true then _ else _) Q E s
 by_cases hab : (Value.ref a == Value.ref b) = true
 ·rw [if_pos hab]
  have e : a = b := by have := eq_of_beq hab; injection this
  subst e
  have := hx0.inj hy0
  rw [this, eqV_self] at h
  exact wpAny_bind (wpAny_rule (wpAny_pure h))
 ·rw [if_neg hab]
  exact wpAny_bind (wpAny_richCompare_same_room (op := .Eq) hTa hTb F.slot_tuple_eq
   (wpAny_call_entry F.slot_tuple_eq hTa F.entry_tuple_eq (tup_eq_tree (fun _ => True) hr1 hx0 hy0 ⟨_, rfl, (fun e => nomatch e), wpAny_truthy_bool h⟩) (F.args_tuple_eq_2 _ _)) hu)
theorem tup_quiet {A : Around} {E : Value -> Shared -> Prop} {s : Shared} {n : Nat} {k : V} {v : Value} {Q : Bool -> Shared -> Prop} (hn : K.fuel + 1 <= n) (hk : TupIs K s.heap k v) (h : Q true s) : wpAny (model prog w) A (eqIsQuiet n v) Q E s := by
 cases hk with
 | @mk a arr x t vs xs ht harr hi =>
 have hT : s.TypeIs (.ref a) "tuple" := let ⟨o, ho, hc, _⟩ := ht; ⟨o, ho, hc⟩
 obtain ⟨o, ho, _, m, hd⟩ := ht
 obtain ⟨n, rfl⟩ : ∃ j, n = j + 1 := ⟨n - 1, by lia⟩
 unfold eqIsQuiet
 refine wpAny_bind (wpAny_specialOf hT F.slot_tuple_eq.lookup ?_)
 show wpAny _ _ (isInstance (.ref a) (.type "tuple") >>= _) _ _ s
 refine wpAny_bind (wpAny_isInstance hT isSubtype_tuple_tuple ?_)
 simp only [Bool.not_true, Bool.false_eq_true, if_false]
 refine wpAny_bind (wpAny_seqItems ho hd ?_)
 refine wpAny_bind ?_
 show wpAny _ _ (forIn arr _ _) _ _ s
 rw [<- Array.forIn_toList, harr]
 refine wpAny_forIn_list _ (fun rest r s' => r.1 = none /\ s' = s /\ (rest = .str x t :: xs \/ ∃ ks, ItemsE K s.heap ks rest)) _ ?_ ?_ _ _ ⟨rfl, rfl, .inl rfl⟩
 ·rintro v rest r s' ⟨hr, rfl, hc | ⟨ks, hks⟩⟩
  ·cases hc
   rw [eqIsQuiet_byValue _ rfl]
   refine wpAny_bind (wpAny_pure ?_)
   simp only [Bool.not_true, Bool.false_eq_true, if_false]
   exact wpAny_pure ⟨rfl, rfl, .inr ⟨_, hi⟩⟩
  ·cases hks with
   | cons h1 hr2 =>
    refine wpAny_bind (K.quiet (by lia) h1 ?_)
    simp only [Bool.not_true, Bool.false_eq_true, if_false]
    exact wpAny_pure ⟨rfl, rfl, .inr ⟨_, hr2⟩⟩
 ·rintro ⟨r1, r2⟩ s' ⟨hr, rfl, _⟩
  simp only at hr
  subst hr
  exact wpAny_pure h
end
noncomputable def intE (prog : Program) (w : World) : EK prog w where
 is _ k v := ∃ i t, k = .int i /\ v = .int i t
 room _ := True
 fuel := 0
 inj := by rintro h v x y ⟨i, t, rfl, rfl⟩ ⟨j, u, rfl, e⟩; injection e with e _; rw [e]
 keeps := fun x _ => x
 pyHash := by
  rintro A E s k v Q _ ⟨i, t, rfl, rfl⟩ h
  refine wpAny_pyHash_int ?_
  have : hashV w (.int i) = hashInt i := rfl
  rw [this] at h; exact h
 eqBool := by
  rintro A E s x y u v Q _ ⟨i, t, rfl, rfl⟩ ⟨j, t', rfl, rfl⟩ h
  refine wpAny_eqBool_int ?_
  have : eqV (.int i) (.int j) = decide (i = j) := by
   by_cases e : i = j
   ·rw [e, eqV_self]; simp
   ·rw [eqV_ne (fun q => by injection q with q; exact e q)]; simp [e]
  rw [this] at h; exact h
 quiet := by
  rintro A E s n k v Q _ ⟨i, t, rfl, rfl⟩ h
  rw [eqIsQuiet_byValue _ rfl]; exact wpAny_pure h
noncomputable def noE (prog : Program) (w : World) : EK prog w where
 is _ _ _ := False
 room _ := True
 fuel := 0
 inj := fun h => h.elim
 keeps := fun x _ => x
 pyHash := fun _ h => h.elim
 eqBool := fun _ h => h.elim
 quiet := fun _ h => h.elim
noncomputable def treeE (prog : Program) (w : World) : Nat -> EK prog w
 | 0 => noE prog w
 | n + 1 => {
  is := TupIs (treeE prog w n)
  room := fun A => (treeE prog w n).room A.in1 /\ A.units < cLine
  fuel := (treeE prog w n).fuel + 1
  inj := fun a b => a.inj b
  keeps := fun a b => a.keeps b
  pyHash := fun r a h => tup_pyHash (fun A => (treeE prog w n).room A.in1 /\ A.units < cLine) (fun _ x => x) r a h
  eqBool := fun r a b h => tup_eqBool (fun A => (treeE prog w n).room A.in1 /\ A.units < cLine) (fun _ x => x) r a b h
  quiet := fun r a h => tup_quiet r a h }
theorem tree_room {prog : Program} {w : World} : ∀ {n : Nat} {A : Around}, A.units + n < cLine -> (treeE prog w n).room A
 | 0, _, _ => trivial
 | n + 1, A, h => ⟨tree_room (by show A.units + 1 + n < cLine; lia), by lia⟩
noncomputable def kindE {prog : Program} {w : World} (K : EK prog w) (hf : K.fuel + 1 <= 8) : @HeapKind prog w V (fun a b => Classical.propDecidable _) :=
 @HeapKind.mk prog w V (fun a b => Classical.propDecidable _) (fun h k a => TupIs K h k (.ref a)) (hashV w) drawsV (fun A => K.room A.in1 /\ A.units < cLine)
  (fun a b => a.inj b)
  (fun {h h' k a d o es ep} x ho hd hs => x.keeps fun b o' e hc => (hs.2 b (fun q => by subst q; rw [ho] at e; cases e; obtain ⟨_, _, hc⟩ := hc; rw [hd] at hc; cases hc)).trans e)
  (fun r a h => tup_pyHash (fun A => K.room A.in1 /\ A.units < cLine) (fun _ x => x) r a h)
  (fun r a b h => tup_eqBool (fun A => K.room A.in1 /\ A.units < cLine) (fun _ x => x) r a b h)
  (fun a h => tup_quiet hf a h)
end
section
variable {Γ : Cx}
section
variable {D : Addr -> Prop} {h : Heap} {prog : Program} {w : World}
theorem treeV_inv {n : Nat} {v : V} (x : treeV (n + 1) v) : ∃ s vs, v = .tup (.str s :: vs) /\ ∀ u ∈ vs, treeV n u := by
 cases v with
 | tup vs =>
  cases vs with
  | nil => exact x.elim
  | cons a vs =>
   cases a with
   | str s => exact ⟨s, vs, rfl, x⟩
   | _ => exact x.elim
 | _ => exact x.elim
theorem tree_is : ∀ {n : Nat} {v : V} {x : Value}, treeV n v -> VRel Γ D h v x -> (treeE Γ.prog Γ.w n).is h v x
 | 0, v, _, t, _ => t.elim
 | n + 1, v, x, t, r => by
  obtain ⟨s, vs, rfl, hv⟩ := treeV_inv t
  obtain ⟨a, arr, rfl, _, ht, rv⟩ := r.tup_inv
  generalize hl : arr.toList = l at rv
  cases rv with
  | cons r1 rv =>
   obtain ⟨t', rfl⟩ := r1.str_inv
   refine .mk ht hl ?_
   have go : ∀ {vs : List V} {xs : List Value}, (∀ u ∈ vs, treeV n u) -> VsRel Γ D h vs xs -> ItemsE (treeE Γ.prog Γ.w n) h vs xs := by
    intro vs
    induction vs with
    | nil => intro xs _ r; cases r; exact .nil
    | cons v vs ih =>
     intro xs hv r
     cases r with
     | cons a r => exact .cons (tree_is (hv _ List.mem_cons_self) a) (ih (fun u hu => hv u (List.mem_cons_of_mem _ hu)) r)
   exact go hv rv
noncomputable def famE (prog : Program) (w : World) : Kd -> EK prog w
 | .N => intE prog w
 | _ => treeE prog w 6
theorem tree_fuel {prog : Program} {w : World} : ∀ n, (treeE prog w n).fuel = n
 | 0 => rfl
 | n + 1 => by show (treeE prog w n).fuel + 1 = _; rw [tree_fuel n]
theorem fam_fuel {prog : Program} {w : World} (f : Kd) : (famE prog w f).fuel + 1 <= 8 := by
 cases f
 case N => show 0 + 1 <= 8; decide
 all_goals (show (treeE prog w 6).fuel + 1 <= 8; rw [tree_fuel 6]; decide)
theorem fam_room {prog : Program} {w : World} (f : Kd) {A : Around} (hA : A.units + 20 < cLine) : (famE prog w f).room A.in1 /\ A.units < cLine := by
 refine ⟨?_, by lia⟩
 cases f
 case N => exact trivial
 all_goals exact tree_room (n := 6) (by show A.units + 1 + 6 < cLine; lia)
noncomputable def isTup : Kd -> Prop
 | .N => True
 | .T => True
 | _ => False
theorem fam_is {f : Kd} {k : V} {x : Value} (hf : isTup f) (ok : keyOk f k) (r : VRel Γ D h k x) : ∃ a, x = .ref a /\ TupIs (famE Γ.prog Γ.w f) h k (.ref a) := by
 cases f with
 | N =>
  obtain ⟨s, is, rfl⟩ := ok
  obtain ⟨a, arr, rfl, _, ht, rv⟩ := r.tup_inv
  refine ⟨a, rfl, ?_⟩
  generalize hl : arr.toList = l at rv
  cases rv with
  | cons r1 rv =>
   obtain ⟨t', rfl⟩ := r1.str_inv
   refine .mk ht hl ?_
   have go : ∀ {is : List Int} {xs : List Value}, VsRel Γ D h (is.map .int) xs -> ItemsE (intE Γ.prog Γ.w) h (is.map .int) xs := by
    intro is
    induction is with
    | nil => intro xs r; cases r; exact .nil
    | cons v vs ih =>
     intro xs r
     cases r with
     | cons a r => obtain ⟨t, rfl⟩ := a.int_inv; exact .cons ⟨v, t, rfl, rfl⟩ (ih r)
   exact go rv
 | T =>
  have r' := r
  obtain ⟨s, vs, rfl, hv⟩ := treeV_inv (n := 6) ok
  obtain ⟨a, arr, rfl, _⟩ := r'.tup_inv
  exact ⟨a, rfl, tree_is (n := 7) ok r⟩
 | _ => exact hf.elim
noncomputable def didx (k : V) (es : List (V × V)) : Option Nat := es.findIdx? fun p => eqV p.1 k
noncomputable def dget (k : V) (es : List (V × V)) : Option V := (es.find? fun p => eqV p.1 k).map (·.2)
noncomputable def dput (k v : V) (es : List (V × V)) : List (V × V) := match didx k es with
 | some i => es.modify i fun p => (p.1, v)
 | .none => es ++ [(k, v)]
noncomputable def ddel (k : V) (es : List (V × V)) : List (V × V) := match didx k es with
 | some i => es.eraseIdx i
 | .none => es
theorem findIdx_rel {k : V} {p : DictEntry -> Bool} {f : Kd} {es : List (V × V)} {r : List DictEntry} (x : DRel Γ D h f es r) (hp : ∀ k' e, keyOk f k' -> VRel Γ D h k' e.key -> p e = eqV k' k) : r.findIdx? p = didx k es :=
 DRel.ind (P := fun es r => r.findIdx? p = didx k es) rfl (fun k' v e es r o _ a _ c ih => by
  unfold didx at *
  rw [List.findIdx?_cons, List.findIdx?_cons, hp k' e o a, ih]) x
theorem findIdx_arr {p : DictEntry -> Bool} (arr : Array DictEntry) : arr.findIdx? p = arr.toList.findIdx? p := by obtain ⟨l⟩ := arr; simp
theorem isInt_eqV {k' : V} {i : Int} {x : Value} (ok : keyOk .I k') (r : VRel Γ D h k' x) : (intKind Γ.prog Γ.w).is i x = eqV k' (.int i) := by
 obtain ⟨j, rfl⟩ := ok
 obtain ⟨t, rfl⟩ := r.int_inv
 show Value.isInt i (.int j t) = _
 by_cases e : j = i
 ·subst e; rw [eqV_self]; simp [Value.isInt]
 ·rw [eqV_ne (fun q => by injection q with q; exact e q)]; simp [Value.isInt, e]
theorem isStr_eqV {k' : V} {i : Str} {x : Value} (ok : keyOk .S k') (r : VRel Γ D h k' x) : (strKind Γ.prog Γ.w).is i x = eqV k' (.str i) := by
 obtain ⟨j, rfl⟩ := ok
 obtain ⟨t, rfl⟩ := r.str_inv
 show Value.isStrOf i (.str j t) = _
 by_cases e : j = i
 ·subst e; rw [eqV_self]; simp [Value.isStrOf]
 ·rw [eqV_ne (fun q => by injection q with q; exact e q)]; simp [Value.isStrOf, e]
theorem keysI {es : List (V × V)} {arr : Array DictEntry} (x : DRel Γ D h .I es arr.toList) : KeysOf (intKind Γ.prog Γ.w) arr := by
 have go : ∀ {es : List (V × V)} {r : List DictEntry}, DRel Γ D h .I es r -> ∀ e ∈ r, ∃ k, (intKind Γ.prog Γ.w).is k e.key = true /\ e.hash = (intKind Γ.prog Γ.w).hash k := by
  intro es
  induction es with
  | nil => intro r x e he; cases x; cases he
  | cons p es ih =>
   intro r x e he
   cases x with
   | cons o hh a _ c =>
    rcases List.mem_cons.mp he with rfl | he
    ·obtain ⟨i, rfl⟩ := o
     exact ⟨i, by rw [isInt_eqV ⟨i, rfl⟩ a, eqV_self], by rw [hh, hashV]; rfl⟩
    ·exact ih c e he
 exact fun e he => go x e (Array.mem_toList_iff.mpr he)
theorem keysS {es : List (V × V)} {arr : Array DictEntry} (x : DRel Γ D h .S es arr.toList) : KeysOf (strKind Γ.prog Γ.w) arr := by
 have go : ∀ {es : List (V × V)} {r : List DictEntry}, DRel Γ D h .S es r -> ∀ e ∈ r, ∃ k, (strKind Γ.prog Γ.w).is k e.key = true /\ e.hash = (strKind Γ.prog Γ.w).hash k := by
  intro es
  induction es with
  | nil => intro r x e he; cases x; cases he
  | cons p es ih =>
   intro r x e he
   cases x with
   | cons o hh a _ c =>
    rcases List.mem_cons.mp he with rfl | he
    ·obtain ⟨i, rfl⟩ := o
     exact ⟨i, by rw [isStr_eqV ⟨i, rfl⟩ a, eqV_self], by rw [hh, hashV]; rfl⟩
    ·exact ih c e he
 exact fun e he => go x e (Array.mem_toList_iff.mpr he)
noncomputable abbrev famK (Γ : Cx) (f : Kd) := kindE (famE Γ.prog Γ.w f) (fam_fuel f)
theorem heap_xs {f : Kd} (hf : isTup f) {es : List (V × V)} {r : List DictEntry} (x : DRel Γ D h f es r) : ∃ xs : List (V × Addr × Value), r = xs.map (@entryOfKey _ _ V (fun a b => Classical.propDecidable _) (famK Γ f)) /\
  (∀ x ∈ xs, TupIs (famE Γ.prog Γ.w f) h x.1 (.ref x.2.1)) /\ xs.map (·.1) = es.map (·.1) :=
 DRel.ind (P := fun es r => ∃ xs : List (V × Addr × Value), r = xs.map (@entryOfKey _ _ V (fun a b => Classical.propDecidable _) (famK Γ f)) /\ (∀ x ∈ xs, TupIs (famE Γ.prog Γ.w f) h x.1 (.ref x.2.1)) /\ xs.map (·.1) = es.map (·.1)) ⟨[], rfl, (fun _ h => by cases h), rfl⟩
  (fun k v e es r o hh a b c ih => by
   obtain ⟨xs, h1, h2, h3⟩ := ih
   obtain ⟨ad, ha, ht⟩ := fam_is hf o a
   refine ⟨(k, ad, e.val) :: xs, ?_, ?_, by rw [List.map_cons, List.map_cons, h3]⟩
   ·rw [List.map_cons, <- h1]
    obtain ⟨eh, ek, ev⟩ := e
    cases hh
    cases ha
    rfl
   ·exact List.forall_mem_cons.mpr ⟨ht, h2⟩) x
theorem didx_xs {k : V} : ∀ {es : List (V × V)} {xs : List (V × Addr × Value)}, xs.map (·.1) = es.map (·.1) -> didx k es = xs.findIdx? fun x => eqV x.1 k
 | [], [], _ => rfl
 | [], _ :: _, h => by cases h
 | _ :: _, [], h => by cases h
 | p :: es, x :: xs, h => by
  rw [List.map_cons, List.map_cons] at h
  injection h with h1 h2
  have ih := didx_xs (k := k) h2
  unfold didx at *
  rw [List.findIdx?_cons, List.findIdx?_cons, h1, ih]
variable {A : Around} {E : Value -> Shared -> Prop} {s : Shared}
theorem key_hash {f : Kd} {k : V} {x : Value} {R : Int -> Shared -> Prop} (hA : A.units + 20 < cLine) (ok : keyOk f k) (r : VRel Γ D s.heap k x) (h : ∀ tk, R (hashV Γ.w k) { s with toks := tk }) : wpAny (Md Γ) A (pyHash x) R E s := by
 cases f with
 | I => obtain ⟨i, rfl⟩ := ok; obtain ⟨t, rfl⟩ := r.int_inv; rw [hashV] at h; exact wpAny_pyHash_int (h _)
 | S => obtain ⟨i, rfl⟩ := ok; obtain ⟨t, rfl⟩ := r.str_inv; rw [hashV] at h; exact wpAny_pyHash_str (h _)
 | N =>
  obtain ⟨a, rfl, ht⟩ := fam_is (f := .N) trivial ok r
  exact @HeapKind.pyHash _ _ V (fun a b => Classical.propDecidable _) (famK Γ .N) _ _ _ _ _ _ (fam_room .N hA) ht (h _)
 | T =>
  obtain ⟨a, rfl, ht⟩ := fam_is (f := .T) trivial ok r
  exact @HeapKind.pyHash _ _ V (fun a b => Classical.propDecidable _) (famK Γ .T) _ _ _ _ _ _ (fam_room .T hA) ht (h _)
theorem look_heap {f : Kd} (hf : isTup f) {k : V} {x : Value} {d : Addr} {es : List (V × V)} {arr : Array DictEntry} {m : Nat} {R : Option Nat -> Shared -> Prop} (hA : A.units + 20 < cLine) (ok : keyOk f k) (r : VRel Γ D s.heap k x)
  (ho : s.heap.get? d = some { cls := .type "dict", data := .dict arr m }) (dr : DRel Γ D s.heap f es arr.toList) (nd : (es.map (·.1)).Nodup) (h : R (didx k es) s) : wpAny (Md Γ) A (dictFind d x (hashV Γ.w k)) R E s := by
 obtain ⟨a, rfl, ht⟩ := fam_is hf ok r
 obtain ⟨xs, h1, h2, h3⟩ := heap_xs hf dr
 rw [didx_xs h3.symm.symm] at h
 refine @wpAny_dictFind_heap _ _ V (fun a b => Classical.propDecidable _) (famK Γ f) _ _ _ d a _ arr m xs k _ (fam_room f hA) ht ho rfl h1 h2 (by rw [h3]; exact nd) (fun hno => ?_) fun j p hj => ?_
 ·have : (xs.findIdx? fun x => eqV x.1 k) = none := by
   rw [List.findIdx?_eq_none_iff]
   intro y hy
   obtain ⟨j, hj⟩ := List.mem_iff_getElem?.mp hy
   refine eqV_ne fun q => hno j y.2 (by rw [hj, <- q])
  rw [this] at h; exact h
 ·have : (xs.findIdx? fun x => eqV x.1 k) = some j := by
   rw [List.findIdx?_eq_some_iff_getElem]
   obtain ⟨hlt, he⟩ := List.getElem?_eq_some_iff.mp hj
   refine ⟨hlt, by rw [he, eqV_self], fun i hi => ?_⟩
   rw [Bool.not_eq_true]
   refine eqV_ne fun q => ?_
   have hi' : xs[i]? = some (k, (xs[i]'(Nat.lt_trans hi hlt)).2) := by rw [List.getElem?_eq_getElem (Nat.lt_trans hi hlt), <- q]
   have hnd : (xs.map (·.1)).Nodup := by rw [h3]; exact nd
   have e1 : (xs.map (·.1))[i]? = some k := by rw [List.getElem?_map, hi']; rfl
   have e2 : (xs.map (·.1))[j]? = some k := by rw [List.getElem?_map, hj]; rfl
   have := (List.getElem?_inj (List.getElem?_eq_some_iff.mp e1).1 hnd).mp (e1.trans e2.symm)
   lia
  rw [this] at h; exact h
theorem key_look {f : Kd} {k : V} {x : Value} {d : Addr} {es : List (V × V)} {arr : Array DictEntry} {m : Nat} {R : Option Nat -> Shared -> Prop} (hA : A.units + 20 < cLine) (ok : keyOk f k) (r : VRel Γ D s.heap k x)
  (ho : s.heap.get? d = some { cls := .type "dict", data := .dict arr m }) (dr : DRel Γ D s.heap f es arr.toList) (nd : (es.map (·.1)).Nodup) (h : R (didx k es) s) : wpAny (Md Γ) A (dictFind d x (hashV Γ.w k)) R E s := by
 cases f with
 | I =>
  obtain ⟨i, rfl⟩ := ok; obtain ⟨t, rfl⟩ := r.int_inv
  rw [hashV]
  refine wpAny_dictFind_of (knd := intKind Γ.prog Γ.w) (k := i) (by show Value.isInt i (.int i t) = true; simp [Value.isInt]) ho rfl (keysI dr) ?_
  rw [findIdx_arr, findIdx_rel dr fun k' e o a => isInt_eqV o a]; exact h
 | S =>
  obtain ⟨i, rfl⟩ := ok; obtain ⟨t, rfl⟩ := r.str_inv
  rw [hashV]
  refine wpAny_dictFind_of (knd := strKind Γ.prog Γ.w) (k := i) (by show Value.isStrOf i (.str i t) = true; simp [Value.isStrOf]) ho rfl (keysS dr) ?_
  rw [findIdx_arr, findIdx_rel dr fun k' e o a => isStr_eqV o a]; exact h
 | N => exact look_heap (f := .N) trivial hA ok r ho dr nd h
 | T => exact look_heap (f := .T) trivial hA ok r ho dr nd h
end
end
section
variable {Γ : Cx}
noncomputable def isObj : V -> Prop
 | .tup _ => True
 | .lst _ => True
 | .dct .. => True
 | .sI _ => True
 | .sS _ => True
 | _ => False
noncomputable def Den (σ : Store) (v o : V) : Prop := (∃ a, v = .ref a /\ σ a = some o) \/ (v = o /\ isObj o)
theorem Den.ref {σ : Store} {a : Addr} {o : V} (h : σ a = some o) : Den σ (.ref a) o := .inl ⟨a, rfl, h⟩
theorem Den.lst {σ : Store} {vs : List V} : Den σ (.lst vs) (.lst vs) := .inr ⟨rfl, trivial⟩
theorem Den.dct {σ : Store} {k : Kd} {es : List (V × V)} : Den σ (.dct k es) (.dct k es) := .inr ⟨rfl, trivial⟩
section
variable {n : Nat} {sc : Scope} {ρ : Vars} {σ σ₁ : Store} {Q Q' : V -> Store -> Prop} {F : Addr -> Prop} {s : Shared}
theorem Den.at {v o : V} {x : Value} (d : Den σ v o) (S : St Γ F σ s) (r : VRel Γ (DD σ F) s.heap v x) : ∃ a, x = .ref a /\ ORel Γ (DD σ F) s.heap o a := by
 rcases d with ⟨a, rfl, e⟩ | ⟨rfl, ho⟩
 ·obtain rfl := r.ref_inv
  exact ⟨a, rfl, S.rep a o e⟩
 ·cases r with
  | «at» _ o => exact ⟨_, rfl, o⟩
  | _ => exact ho.elim
theorem ORel.lst_is {D : Addr -> Prop} {h : Heap} {vs : List V} {a : Addr} (x : ORel Γ D h (.lst vs) a) : ∃ arr m, h.get? a = some (seqObj "list" arr m) /\ h.IsList a arr /\ VsRel Γ D h vs arr.toList := by
 obtain ⟨arr, m, e, r⟩ := x.lst_inv
 exact ⟨arr, m, e, ⟨_, e, rfl, m, rfl⟩, r⟩
theorem vs_size {D : Addr -> Prop} {h : Heap} {vs : List V} {arr : Array Value} (r : VsRel Γ D h vs arr.toList) : arr.size = vs.length := by rw [r.length, Array.length_toList]
theorem vs_get {D : Addr -> Prop} {h : Heap} {vs : List V} {arr : Array Value} (r : VsRel Γ D h vs arr.toList) {i : Nat} {v : V} (e : vs[i]? = some v) : ∃ y, arr[i]? = some y /\ VRel Γ D h v y := by
 obtain ⟨y, h1, h2⟩ := r.get e
 exact ⟨y, by simpa using h1, h2⟩
noncomputable def AItem (Γ : Cx) (n : Nat) (o i : V) (σ : Store) (Q : V -> Store -> Prop) : Prop :=
 ∀ A s F x y, Room n A -> St Γ F σ s -> VRel Γ (DD σ F) s.heap o x -> VRel Γ (DD σ F) s.heap i y ->
  ∃ T id, s.TypeIs x T /\ typeLookup (.type T) "__getitem__" = pure (some (.builtin id)) /\ wpAny (Md Γ) A (getItem x y) (Post Γ F σ s Q) NoE s
theorem sub_tail {A : Around} {value slice : Expr} {o i : Value} {T id : String} {ops : List Value} {R : Value -> Shared -> Prop} (hT : s.TypeIs o T)
  (hl : typeLookup (.type T) "__getitem__" = pure (some (.builtin id))) (h : wpAny (Md Γ) A (getItem o i) R NoE s)
  (hs : subscripted slice false o i = operate ops (getItem o i)) : wpAny (Md Γ) A (subscriptTail value slice o i) R NoE s := by
 unfold subscriptTail
 refine wpAny_bind ?_
 rw [getitemInPython_of_ne hT.not_modules]
 refine wpAny_bind (wpAny_specialOf hT hl ?_)
 have fin : wpAny (Md Γ) A (subscripted slice false o i) (fun r s₃ => wpAny (Md Γ) A (letTemporaryGo value o r >>= fun _ => pure r) R NoE s₃) NoE s := by
  rw [hs]
  exact wpAny_operating (wpAny_mono h (fun r s₃ h₃ => wpAny_bind (wpAny_letTemporaryGo (wpAny_pure h₃))) fun _ _ x => x)
 first
  | exact wpAny_pure (wpAny_bind fin)
  | exact wpAny_bind (wpAny_pure (wpAny_bind fin))
  | exact wpAny_bind fin
noncomputable def ItemQ (Γ : Cx) (n : Nat) (o : V) (Q : V -> Store -> Prop) : V -> Store -> Prop := fun i σ => AItem Γ n o i σ Q
noncomputable def SubQ (Γ : Cx) (n : Nat) (sc : Scope) (ρ : Vars) (e : Expr) (Q : V -> Store -> Prop) : V -> Store -> Prop := fun o σ => AEval Γ n sc ρ e σ (ItemQ Γ n o Q)
theorem AEval.sub {value slice : Expr} {pos : Pos} (h : AEval Γ n sc ρ value σ (SubQ Γ n sc ρ slice Q))
  (hs : ∀ o i, subscripted slice false o i = operate [o, i] (getItem o i) := by intro _ _; rfl) : AEval Γ n sc ρ (.Subscript value slice pos) σ Q := by
 intro A s F env he hA hR S
 refine Subscript_ (seq_eval (α := Unit) he hA hR S h fun o σ₁ x s₁ r R₁ S₁ T₁ h₁ => seq_eval (α := Unit) he hA R₁ S₁ h₁ fun i σ₂ y s₂ ri R₂ S₂ T₂ h₂ => ?_)
 obtain ⟨T, id, hT, hl, hg⟩ := h₂ A s₂ F x y hA S₂ (r.trans T₂) ri
 exact sub_tail hT hl (wpAny_mono hg (fun _ _ p => p.trans (T₁.trans T₂)) fun _ _ e => e) (hs x y)
theorem nat_lt {k : Nat} (h : k <= 1000000) : (k : Int) < 2 ^ 63 := by lia
theorem AItem.list {o : V} {vs : List V} {k : Nat} {v : V} (d : Den σ o (.lst vs)) (e : vs[k]? = some v) (hk : vs.length <= 1000000) (q : Q v σ) : AItem Γ n o (.int k) σ Q := by
 intro A s F x y hA S r ri
 obtain ⟨t, rfl⟩ := ri.int_inv
 obtain ⟨a, rfl, ro⟩ := d.at S r
 obtain ⟨arr, m, ho, hl, rv⟩ := ro.lst_is
 obtain ⟨z, hz, rz⟩ := vs_get rv e
 have hlt := (List.getElem?_eq_some_iff.mp e).1
 exact ⟨"list", _, hl.typeIs, slot_list_getitem.lookup, wpAny_getItem_list hl (Int.natCast_nonneg k) (nat_lt (by lia)) (by simpa using hz) (post_here rz S (Trans.refl _ _) q)⟩
theorem AItem.listLast {o : V} {vs : List V} {v : V} (d : Den σ o (.lst vs)) (e : vs.getLast? = some v) (hk : vs.length <= 1000000) (q : Q v σ) : AItem Γ n o (.int (-1)) σ Q := by
 intro A s F x y hA S r ri
 obtain ⟨t, rfl⟩ := ri.int_inv
 obtain ⟨a, rfl, ro⟩ := d.at S r
 obtain ⟨arr, m, ho, hl, rv⟩ := ro.lst_is
 rw [List.getLast?_eq_getElem?] at e
 obtain ⟨z, hz, rz⟩ := vs_get rv e
 have hlt := (List.getElem?_eq_some_iff.mp e).1
 have hsz := vs_size rv
 exact ⟨"list", _, hl.typeIs, slot_list_getitem.lookup, wpAny_getItem_list_neg hl (by lia) (by lia) (by lia) (by
  have : ((-1 : Int) + (arr.size : Int)).toNat = vs.length - 1 := by lia
  rw [this]; exact hz) (post_here rz S (Trans.refl _ _) q)⟩
theorem AItem.tuple {vs : List V} {k : Nat} {v : V} (e : vs[k]? = some v) (hk : vs.length <= 1000000) (q : Q v σ) : AItem Γ n (.tup vs) (.int k) σ Q := by
 intro A s F x y hA S r ri
 obtain ⟨t, rfl⟩ := ri.int_inv
 obtain ⟨a, arr, rfl, nd, ht, rv⟩ := r.tup_inv
 obtain ⟨z, hz, rz⟩ := vs_get rv e
 have hlt := (List.getElem?_eq_some_iff.mp e).1
 have hsz := vs_size rv
 have ht' : IsTup s.heap a arr := ht
 refine ⟨"tuple", _, ht'.typeIs, slot_tuple_getitem.lookup, getItem_tuple ht' (by lia) (nat_lt (by lia)) (j := k) ?_ hz (post_here rz S (Trans.refl _ _) q)⟩
 unfold seqIndex?
 have h1 : ¬ ((k : Int) < 0) := by lia
 have h2 : (0 <= (k : Int) /\ (k : Int) < (arr.size : Int)) := by lia
 simp only [h1, if_false]
 simp [hsz, hlt]
theorem AItem.str0 {x : Str} {c : Nat} (e : x.cps[0]? = some c) (q : Q (.str ⟨#[c]⟩) σ) : AItem Γ n (.str x) (.int 0) σ Q := by
 intro A s F x' y hA S r ri
 obtain ⟨t, rfl⟩ := ri.int_inv
 obtain ⟨u, rfl⟩ := r.str_inv
 have hlt : 0 < x.cps.size := (Array.getElem?_eq_some_iff.mp e).1
 refine ⟨"str", _, typeIs_str s x u, PySem.F.slot_str_getitem.lookup, getItem_str (c := c) (by decide) ?_ (post_here (.str _ _) (S.tok _) (Trans.tok _) q)⟩
 have hl : x.length = x.cps.size := rfl
 unfold seqIndex?
 simp [hl, hlt, (Array.getElem?_eq_some_iff.mp e).2]
noncomputable def TailQ (Q : V -> Store -> Prop) : V -> Store -> Prop := fun v σ => ∃ vs, v = .tup vs /\ 1 <= vs.length /\ vs.length <= 1000000 /\ Q (.tup (vs.drop 1)) σ
theorem TailQ.mk {Q : V -> Store -> Prop} {vs : List V} {σ : Store} (h1 : 1 <= vs.length) (h2 : vs.length <= 1000000) (q : Q (.tup (vs.drop 1)) σ) : TailQ Q (.tup vs) σ := ⟨vs, rfl, h1, h2, q⟩
theorem AEval.tail1 {value : Expr} {k : Nat} {p1 p pos : Pos} (h : AEval Γ n sc ρ value σ (TailQ Q)) :
  AEval Γ n sc ρ (.Subscript value (.Slice (some (.Constant (.int 1) k p1)) none none p) pos) σ Q := by
 intro A s F env he hA hR S
 refine Subscript_ (seq_eval (α := Unit) he hA hR S h fun v σ₁ x s₁ r R₁ S₁ T₁ h₁ => ?_)
 obtain ⟨vs, rfl, h1, h2, q⟩ := h₁
 obtain ⟨a, arr, rfl, nd, ht, rv⟩ := r.tup_inv
 have hsz := vs_size rv
 refine wpAny_Slice ?_
 refine evalPart_some_step (wpAny_Constant_int ?_)
 refine evalPart_none_step (evalPart_none_step ?_)
 have ht' : IsTup (s₁.heap.push { cls := .type "slice", data := .fields #[.int 1 s₁.toks, .none, .none] }) a arr := ht.push _
 refine sub_tail (s := { s₁ with heap := s₁.heap.push { cls := .type "slice", data := .fields #[.int 1 s₁.toks, .none, .none] }, toks := s₁.toks + 1 }) (ops := [.ref s₁.heap.objs.size, .ref a]) ht'.typeIs slot_tuple_getitem.lookup
  (getItem_tuple_from (a := 1) ht' (Heap.IsSliceOf.new ..) (by lia) (by lia) ?_ (by rw [hsz]; exact Nat.le_trans h2 (by decide))) rfl
 have S₂ : St Γ F σ₁ { s₁ with heap := s₁.heap.push { cls := .type "slice", data := .fields #[.int 1 s₁.toks, .none, .none] }, toks := s₁.toks + 1 } := (new_obj S₁ _).tok _
 have T₂ : Trans σ₁ s₁ σ₁ { s₁ with heap := s₁.heap.push { cls := .type "slice", data := .fields #[.int 1 s₁.toks, .none, .none] }, toks := s₁.toks + 1 } := (new_trans _).trans (Trans.tok _)
 refine ⟨.tup (vs.drop 1), σ₁, ?_, new_obj S₂ _, T₁.trans (T₂.trans (new_trans _)), q⟩
 exact frozen_seq S₂ (xs := arr.toList.drop 1) ((rv.drop 1).trans T₂) "tuple" (.inl rfl)
theorem sliceBounds_upto {b m : Nat} : sliceBounds none (some (b : Int)) none m = (((0 : Nat) : Int), ((min b m : Nat) : Int), 1) := by
 simp only [sliceBounds, Option.getD_none, show (1 : Int) > 0 by decide, if_true, if_neg (show ¬ ((b : Int) < 0) by lia)]
 congr 1
 congr 1
 lia
theorem pick_upto (items : Array Value) (b : Nat) : slicePick items none (some (b : Int)) none = (items.toList.take b).toArray := by
 unfold slicePick
 rw [sliceBounds_upto]
 simp only [sliceRange_one, pick_run]
 rw [List.drop_zero, Nat.sub_zero]
 congr 1
 by_cases h : b <= items.toList.length
 ·rw [Nat.min_eq_left (by simpa using h)]
 ·have h' : items.toList.length <= b := by lia
  rw [Nat.min_eq_right (by simpa using h'), List.take_of_length_le (by simp), List.take_of_length_le h']
theorem one_index {m : Nat} (h : 1 <= m) : Builtin.Str.strSliceIndices none (some 1) 1 m = [0] := by
 have e : Builtin.Str.strSliceIndices none (some 1) 1 m = Builtin.Str.strSliceIndices (some ((0 : Nat) : Int)) (some ((1 : Nat) : Int)) 1 m := by
  simp [Builtin.Str.strSliceIndices]
  have : max (0 : Int) (min 0 (m : Int)) = 0 := by lia
  rw [this]
 rw [e, PySem.StrLaws.strSliceIndices_plain (by lia) h]; rfl
noncomputable def HeadQ (Q : V -> Store -> Prop) : V -> Store -> Prop := fun v σ => ∃ (x : Str) (c : Nat), v = .str x /\ x.cps[0]? = some c /\ Q (.str ⟨#[c]⟩) σ
theorem AEval.head1 {value : Expr} {k : Nat} {p1 p pos : Pos} (h : AEval Γ n sc ρ value σ (HeadQ Q)) :
  AEval Γ n sc ρ (.Subscript value (.Slice none (some (.Constant (.int 1) k p1)) none p) pos) σ Q := by
 intro A s F env he hA hR S
 refine Subscript_ (seq_eval (α := Unit) he hA hR S h fun v σ₁ x s₁ r R₁ S₁ T₁ h₁ => ?_)
 obtain ⟨x, c, rfl, hc, q⟩ := h₁
 obtain ⟨t, rfl⟩ := r.str_inv
 have hlt : 0 < x.cps.size := (Array.getElem?_eq_some_iff.mp hc).1
 refine wpAny_Slice (evalPart_none_step ?_)
 refine evalPart_some_step (wpAny_Constant_int ?_)
 refine evalPart_none_step ?_
 refine sub_tail (s := { s₁ with heap := s₁.heap.push { cls := .type "slice", data := .fields #[.none, .int 1 s₁.toks, .none] }, toks := s₁.toks + 1 }) (ops := [.ref s₁.heap.objs.size, .str x t]) (typeIs_str _ x t) PySem.F.slot_str_getitem.lookup
  (wpAny_getItem_str_slice (l := none) (u := some (1, s₁.toks)) (st := none) ⟨_, Heap.get?_push_size _ rfl, rfl, rfl⟩ rfl ?_) rfl
 have fin : ∀ t' tk, Post Γ F σ s Q (.str ⟨#[c]⟩ t') { s₁ with heap := s₁.heap.push { cls := .type "slice", data := .fields #[.none, .int 1 s₁.toks, .none] }, toks := tk } :=
  fun t' tk => ⟨_, σ₁, .str _ _, (new_obj S₁ _).tok _, T₁.trans ((new_trans _).trans (Trans.tok _)), q⟩
 have hpick : slicePicked x none (some (1, s₁.toks)) none = [0] := one_index hlt
 unfold sliceMade
 rw [hpick]
 have hf : (List.filterMap (fun i => x.cps[i]?) [0]).toArray = #[c] := by simp [hc]
 split
 ·rename_i hz
  have h1 : x.cps.size = 1 := by
   simp only [Option.map_none, Option.getD_none, List.length_cons, List.length_nil, Bool.and_eq_true, beq_iff_eq] at hz
   exact hz.2.symm
  have hx : x = ⟨#[c]⟩ := by
   obtain ⟨a⟩ := x
   congr 1
   apply Array.ext
   ·simpa using h1
   ·intro i h2 h3
    have : i = 0 := by simp at h3; lia
    subst this
    simpa using (Array.getElem?_eq_some_iff.mp hc).2
  have := fin t (s₁.toks + 1)
  rw [<- hx] at this
  exact this
 ·rw [hf]
  refine ⟨?_, fin _ _⟩
  show 1 <= sizeLine
  decide
end
end
section
variable {Γ : Cx}
section
variable {D : Addr -> Prop} {h : Heap}
theorem find_of_idx {k : V} {es : List (V × V)} : dget k es = (didx k es).bind fun i => (es[i]?).map (·.2) := by
 unfold dget didx
 induction es with
 | nil => rfl
 | cons p es ih =>
  rw [List.find?_cons, List.findIdx?_cons]
  cases hb : eqV p.1 k with
  | true => rfl
  | false =>
   rw [if_neg Bool.false_ne_true]
   dsimp only
   rw [ih]
   cases List.findIdx? (fun p => eqV p.1 k) es <;> rfl
theorem DRel.at {f : Kd} {es : List (V × V)} {r : List DictEntry} (x : DRel Γ D h f es r) {i : Nat} {p : V × V} (e : es[i]? = some p) : ∃ e, r[i]? = some e /\ keyOk f p.1 /\ e.hash = hashV Γ.w p.1 /\ VRel Γ D h p.1 e.key /\ VRel Γ D h p.2 e.val :=
 DRel.ind (P := fun es r => ∀ i, es[i]? = some p -> ∃ e, r[i]? = some e /\ keyOk f p.1 /\ e.hash = hashV Γ.w p.1 /\ VRel Γ D h p.1 e.key /\ VRel Γ D h p.2 e.val) (fun _ e => by cases e)
  (fun _ _ _ _ _ o hh a b _ ih i e => by
   cases i with
   | zero => cases e; exact ⟨_, rfl, o, hh, a, b⟩
   | succ i => exact ih i e) x i e
theorem DRel.modify {v : V} {val : Value} (rv : VRel Γ D h v val) {f : Kd} {es : List (V × V)} {r : List DictEntry} (x : DRel Γ D h f es r) (i : Nat) : DRel Γ D h f (es.modify i fun p => (p.1, v)) (r.modify i fun e => { e with val := val }) :=
 DRel.ind (P := fun es r => ∀ i, DRel Γ D h f (es.modify i fun p => (p.1, v)) (r.modify i fun e => { e with val := val })) (fun i => by rw [List.modify_nil, List.modify_nil]; exact .nil)
  (fun _ _ _ _ _ o hh a b c ih i => by
   cases i with
   | zero => exact .cons o hh a rv c
   | succ i => exact .cons o hh a b (ih i)) x i
theorem DRel.snoc {f : Kd} {k v : V} {key val : Value} (ok : keyOk f k) (rk : VRel Γ D h k key) (rv : VRel Γ D h v val) {es : List (V × V)} {r : List DictEntry} (x : DRel Γ D h f es r) : DRel Γ D h f (es ++ [(k, v)]) (r ++ [⟨hashV Γ.w k, key, val⟩]) :=
 DRel.ind (P := fun es r => DRel Γ D h f (es ++ [(k, v)]) (r ++ [DictEntry.mk (hashV Γ.w k) key val])) (.cons ok rfl rk rv .nil) (fun _ _ _ _ _ o hh a b _ ih => .cons o hh a b ih) x
theorem DRel.erase {f : Kd} {es : List (V × V)} {r : List DictEntry} (x : DRel Γ D h f es r) (i : Nat) : DRel Γ D h f (es.eraseIdx i) (r.eraseIdx i) :=
 DRel.ind (P := fun es r => ∀ i, DRel Γ D h f (es.eraseIdx i) (r.eraseIdx i)) (fun _ => .nil)
  (fun _ _ _ _ _ o hh a b c ih i => by
   cases i with
   | zero => exact c
   | succ i => exact .cons o hh a b (ih i)) x i
theorem didx_none {k : V} {es : List (V × V)} (e : didx k es = none) : k ∉ es.map (·.1) := by
 unfold didx at e
 rw [List.findIdx?_eq_none_iff] at e
 intro m
 obtain ⟨p, hp, rfl⟩ := List.mem_map.mp m
 have := e p hp
 rw [eqV_self] at this; cases this
theorem dput_nodup {k v : V} {es : List (V × V)} (nd : (es.map (·.1)).Nodup) : ((dput k v es).map (·.1)).Nodup := by
 unfold dput
 cases e : didx k es with
 | some i =>
  have : (es.modify i fun p => (p.1, v)).map (·.1) = es.map (·.1) := by
   apply List.ext_getElem?
   intro j
   rw [List.getElem?_map, List.getElem?_map, List.getElem?_modify]
   by_cases q : i = j
   ·subst q; cases es[i]? <;> simp
   ·simp [q]
  show ((es.modify i fun p => (p.1, v)).map (·.1)).Nodup
  rw [this]; exact nd
 | none =>
  have hn := didx_none e
  show ((es ++ [(k, v)]).map (·.1)).Nodup
  rw [List.map_append, List.nodup_append]
  refine ⟨nd, by simp, fun a ha b hb => ?_⟩
  simp only [List.map_cons, List.map_nil, List.mem_singleton] at hb
  subst hb
  exact fun q => hn (q ▸ ha)
theorem ddel_nodup {k : V} {es : List (V × V)} (nd : (es.map (·.1)).Nodup) : ((ddel k es).map (·.1)).Nodup := by
 unfold ddel
 cases e : didx k es with
 | some i => exact List.Nodup.sublist ((List.eraseIdx_sublist es i).map _) nd
 | none => exact nd
theorem dput_len {k v : V} {es : List (V × V)} : (dput k v es).length <= es.length + 1 := by
 unfold dput
 cases didx k es with
 | some i => show (es.modify i _).length <= _; rw [List.length_modify]; lia
 | none => show (es ++ [(k, v)]).length <= _; simp
variable {A : Around} {E : Value -> Shared -> Prop} {s : Shared}
noncomputable abbrev dictObj (arr : Array DictEntry) (m : Nat) : Obj := { cls := .type "dict", data := .dict arr m }
theorem dict_size {f : Kd} {es : List (V × V)} {arr : Array DictEntry} (dr : DRel Γ D h f es arr.toList) : arr.size = es.length := by rw [DRel.length dr, Array.length_toList]
theorem dictGet_run {f : Kd} {k : V} {x : Value} {d : Addr} {es : List (V × V)} {arr : Array DictEntry} {m : Nat} {R : Option Value -> Shared -> Prop} (hA : A.units + 20 < cLine) (ok : keyOk f k) (r : VRel Γ D s.heap k x)
  (ho : s.heap.get? d = some (dictObj arr m)) (dr : DRel Γ D s.heap f es arr.toList) (nd : (es.map (·.1)).Nodup)
  (hn : dget k es = none -> ∀ tk, R none { s with toks := tk }) (hs : ∀ v, dget k es = some v -> ∀ val tk, VRel Γ D s.heap v val -> R (some val) { s with toks := tk }) : wpAny (Md Γ) A (dictGet d x) R E s := by
 unfold dictGet
 try with_reducible refine wpAny_holding ?_
 refine wpAny_bind (key_hash hA ok r fun tk => wpAny_bind (key_look (s := { s with toks := tk }) hA ok r ho dr nd ?_))
 rw [find_of_idx] at hn hs
 cases e : didx k es with
 | none => rw [e] at hn; exact wpAny_pure (hn rfl tk)
 | some i =>
  rw [e] at hs
  have hlt : i < es.length := (List.findIdx?_eq_some_iff_getElem.mp e).1
  obtain ⟨en, h1, _, _, _, h2⟩ := dr.at (List.getElem?_eq_getElem hlt)
  refine wpAny_bind (wpAny_dictEntries (s := { s with toks := tk }) ho rfl ?_)
  have h1' : arr[i]? = some en := by simpa using h1
  rw [h1']
  exact wpAny_pure (hs _ (by rw [Option.bind_some, List.getElem?_eq_getElem hlt]; rfl) _ _ h2)
theorem update_dict {d : Addr} {arr : Array DictEntry} {m : Nat} (ho : s.heap.get? d = some (dictObj arr m)) (f : Array DictEntry -> Array DictEntry) : (s.heap.update d (Obj.mapDict f)).get? d = some (dictObj (f arr) m) :=
 Heap.get?_update_self _ ho rfl
theorem update_dictKeys {d : Addr} {arr : Array DictEntry} {m : Nat} (ho : s.heap.get? d = some (dictObj arr m)) (f : Array DictEntry -> Array DictEntry) : (s.heap.update d (Obj.mapDictKeys f)).get? d = some (dictObj (f arr) (m + 1)) :=
 Heap.get?_update_self _ ho rfl
theorem dictSet_run {f : Kd} {k v : V} {x val : Value} {d : Addr} {es : List (V × V)} {arr : Array DictEntry} {m : Nat} {R : Unit -> Shared -> Prop} (hA : A.units + 20 < cLine) (ok : keyOk f k) (r : VRel Γ D s.heap k x) (rv : VRel Γ D s.heap v val)
  (ho : s.heap.get? d = some (dictObj arr m)) (dr : DRel Γ D s.heap f es arr.toList) (nd : (es.map (·.1)).Nodup) (hz : es.length <= 1000000)
  (hR : ∀ h' tk arr' m', Heap.SameBut d s.heap h' -> h'.get? d = some (dictObj arr' m') -> DRel Γ D s.heap f (dput k v es) arr'.toList -> R () { s with heap := h', toks := tk }) : wpAny (Md Γ) A (dictSet d x val) R E s := by
 unfold dictSet
 try with_reducible refine wpAny_holding ?_
 refine wpAny_bind (key_hash hA ok r fun tk => ?_)
 unfold dictSetHashed
 try with_reducible refine wpAny_holding ?_
 refine wpAny_bind (key_look (s := { s with toks := tk }) hA ok r ho dr nd ?_)
 cases e : didx k es with
 | some i =>
  refine wpAny_bind (wpAny_rule (wpAny_bind (wpAny_updateDict (s := { s with toks := tk }) ho rfl (wpAny_point (hR _ tk _ m (Heap.SameBut.update ..) (update_dict ho _) ?_)))))
  have : dput k v es = es.modify i fun p => (p.1, v) := by unfold dput; rw [e]
  rw [this]
  have := dr.modify rv i
  simpa using this
 | none =>
  refine wpAny_bind (wpAny_rule (wpAny_updateDictKeys (hz := (dict_size dr) ▸ Nat.le_trans hz (by decide)) (s := { s with toks := tk }) ho rfl (hR _ tk _ (m + 1) (Heap.SameBut.update ..) (update_dictKeys ho _) ?_)))
  ·have : dput k v es = es ++ [(k, v)] := by unfold dput; rw [e]
   rw [this, Array.toList_push]
   exact dr.snoc ok r rv
theorem dictDefault_run {f : Kd} {k v : V} {x val : Value} {d : Addr} {es : List (V × V)} {arr : Array DictEntry} {m : Nat} {R : Value -> Shared -> Prop} (hA : A.units + 20 < cLine) (ok : keyOk f k) (r : VRel Γ D s.heap k x) (rv : VRel Γ D s.heap v val)
  (ho : s.heap.get? d = some (dictObj arr m)) (dr : DRel Γ D s.heap f es arr.toList) (nd : (es.map (·.1)).Nodup) (hz : es.length <= 1000000)
  (hs : ∀ u, dget k es = some u -> ∀ uval tk, VRel Γ D s.heap u uval -> R uval { s with toks := tk })
  (hn : dget k es = none -> ∀ h' tk arr' m', Heap.SameBut d s.heap h' -> h'.get? d = some (dictObj arr' m') -> DRel Γ D s.heap f (dput k v es) arr'.toList -> R val { s with heap := h', toks := tk }) : wpAny (Md Γ) A (dictSetDefault d x val) R E s := by
 unfold dictSetDefault
 try with_reducible refine wpAny_holding ?_
 refine wpAny_bind (key_hash hA ok r fun tk => ?_)
 refine wpAny_bind (key_look (s := { s with toks := tk }) hA ok r ho dr nd ?_)
 rw [find_of_idx] at hs hn
 cases e : didx k es with
 | some i =>
  rw [e] at hs
  have hlt : i < es.length := (List.findIdx?_eq_some_iff_getElem.mp e).1
  obtain ⟨en, h1, _, _, _, h2⟩ := dr.at (List.getElem?_eq_getElem hlt)
  refine wpAny_bind (wpAny_dictEntries (s := { s with toks := tk }) ho rfl ?_)
  have h1' : arr[i]? = some en := by simpa using h1
  rw [h1']
  exact wpAny_bind (wpAny_rule (wpAny_pure (hs _ (by rw [Option.bind_some, List.getElem?_eq_getElem hlt]; rfl) _ _ h2)))
 | none =>
  rw [e] at hn
  refine wpAny_bind (wpAny_rule (wpAny_bind (wpAny_updateDictKeys (hz := (dict_size dr) ▸ Nat.le_trans hz (by decide)) (s := { s with toks := tk }) ho rfl (wpAny_pure (hn rfl _ tk _ (m + 1) (Heap.SameBut.update ..) (update_dictKeys ho _) ?_)))))
  ·have : dput k v es = es ++ [(k, v)] := by unfold dput; rw [e]
   rw [this, Array.toList_push]
   exact dr.snoc ok r rv
theorem takeOut_run {f : Kd} {k v : V} {x : Value} {d : Addr} {es : List (V × V)} {arr : Array DictEntry} {m : Nat} {R : Option DictEntry -> Shared -> Prop} (hA : A.units + 20 < cLine) (ok : keyOk f k) (r : VRel Γ D s.heap k x)
  (ho : s.heap.get? d = some (dictObj arr m)) (dr : DRel Γ D s.heap f es arr.toList) (nd : (es.map (·.1)).Nodup) (hz : es.length <= 1000000) (hv : dget k es = some v)
  (hs : ∀ e h' tk arr' m', VRel Γ D s.heap v e.val -> Heap.SameBut d s.heap h' -> h'.get? d = some (dictObj arr' m') -> DRel Γ D s.heap f (ddel k es) arr'.toList -> R (some e) { s with heap := h', toks := tk }) :
  wpAny (Md Γ) A (Builtin.Dict.takeOut d x) R E s := by
 unfold Builtin.Dict.takeOut
 try with_reducible refine wpAny_holding ?_
 refine wpAny_bind (key_hash hA ok r fun tk => ?_)
 refine wpAny_bind (key_look (s := { s with toks := tk }) hA ok r ho dr nd ?_)
 rw [find_of_idx] at hv
 cases e : didx k es with
 | none => rw [e] at hv; cases hv
 | some i =>
  rw [e, Option.bind_some] at hv
  have hlt : i < es.length := (List.findIdx?_eq_some_iff_getElem.mp e).1
  rw [List.getElem?_eq_getElem hlt] at hv
  obtain ⟨en, h1, _, _, _, h2⟩ := dr.at (List.getElem?_eq_getElem hlt)
  have hv' : es[i].2 = v := by simpa using hv
  rw [hv'] at h2
  refine wpAny_bind (wpAny_dictEntries (s := { s with toks := tk }) ho rfl ?_)
  have h1' : arr[i]? = some en := by simpa using h1
  rw [h1']
  refine wpAny_bind (wpAny_updateDictKeys (hz := (dict_size dr) ▸ Nat.le_trans hz (by decide)) (s := { s with toks := tk }) ho rfl (wpAny_pure (hs en _ tk _ (m + 1) h2 (Heap.SameBut.update ..) (update_dictKeys ho _) ?_)))
  ·have hd : ddel k es = es.eraseIdx i := by unfold ddel; rw [e]
   rw [hd]
   have := dr.erase i
   have e2 : (arr.eraseIdxIfInBounds i).toList = arr.toList.eraseIdx i := by obtain ⟨l⟩ := arr; simp
   rw [e2]; exact this
end
end
section
variable {Γ : Cx}
theorem Room.u20 {n : Nat} {A : Around} (r : Room n A) : A.units + 20 < cLine := by have := r.units1; lia
theorem Room.in20 {n : Nat} {A : Around} (r : Room n A) : A.in1.units + 20 < cLine := by have := r.units1; show A.units + 1 + 20 < cLine; lia
section
variable {n : Nat} {sc : Scope} {ρ : Vars} {σ σ₁ : Store} {Q Q' : V -> Store -> Prop} {F : Addr -> Prop} {s : Shared}
theorem wpAny_contains_dict {A : Around} {f : Kd} {k : V} {x : Value} {d : Addr} {es : List (V × V)} {arr : Array DictEntry} {m : Nat} {D : Addr -> Prop} {R : Bool -> Shared -> Prop} (hA : Room n A) (ok : keyOk f k) (r : VRel Γ D s.heap k x)
  (ho : s.heap.get? d = some (dictObj arr m)) (hd : (d == sysModules) = false) (dr : DRel Γ D s.heap f es arr.toList) (nd : (es.map (·.1)).Nodup)
  (h : ∀ tk, R (dget k es).isSome { s with toks := tk }) : wpAny (Md Γ) A (contains (.ref d) x) R NoE s := by
 have hT : s.TypeIs (.ref d) "dict" := ⟨_, ho, rfl⟩
 unfold contains
 try with_reducible refine wpAny_holding ?_
 refine wpAny_bind (wpAny_specialOf hT slot_dict_contains.lookup ?_)
 show wpAny _ _ (if (some (Value.builtin "dict.__contains__") == some Value.none) = true then _ else _) _ NoE s
 rw [if_neg (by rw [beq_builtin_none]; exact Bool.false_ne_true)]
 refine wpAny_bind (wpAny_callSpecialUnlessNone?_slot (name := Str.ofString "__contains__") hT slot_dict_contains
  (wpAny_call_entry slot_dict_contains hT entry_dict_contains ?_ (args_dict_contains _ _)))
 show wpAny _ _ (dictGet d x >>= _) _ _ s
 refine wpAny_bind (dictGet_run hA.in20 ok r ho dr nd (fun e tk => ?_) fun v e val tk rv => ?_)
 ·rw [e] at h
  show wpAny _ _ (Builtin.Dict.pendingKey? d x >>= _) _ _ _
  exact wpAny_bind (wpAny_pendingKey_other hd (wpAny_pure ⟨_, rfl, wpAny_truthy_bool (h tk)⟩))
 ·rw [e] at h
  show wpAny _ _ (ret (.bool true)) _ _ _
  exact wpAny_pure ⟨_, rfl, wpAny_truthy_bool (h tk)⟩
theorem AOp2.inD {f : Kd} {k d : V} {es : List (V × V)} (dn : Den σ d (.dct f es)) (ok : keyOk f k) (q : Q (.bool (dget k es).isSome) σ) : AOp2 Γ n (compareOp .In) k d σ Q := by
 intro A s F x y hA S rk rd
 obtain ⟨a, rfl, ro⟩ := dn.at S rd
 obtain ⟨arr, m, ho, hs, dr, nd⟩ := ro.dct_inv
 show wpAny _ _ (contains (.ref a) x >>= fun b => pure (Value.bool b)) _ NoE s
 exact wpAny_bind (wpAny_contains_dict hA ok rk ho hs dr nd fun tk => wpAny_pure (post_here (.bool _) (S.tok _) (Trans.tok _) q))
theorem AOp2.notInD {f : Kd} {k d : V} {es : List (V × V)} (dn : Den σ d (.dct f es)) (ok : keyOk f k) (q : Q (.bool (!(dget k es).isSome)) σ) : AOp2 Γ n (compareOp .NotIn) k d σ Q := by
 intro A s F x y hA S rk rd
 obtain ⟨a, rfl, ro⟩ := dn.at S rd
 obtain ⟨arr, m, ho, hs, dr, nd⟩ := ro.dct_inv
 show wpAny _ _ (contains (.ref a) x >>= fun b => pure (Value.bool (!b))) _ NoE s
 exact wpAny_bind (wpAny_contains_dict hA ok rk ho hs dr nd fun tk => wpAny_pure (post_here (.bool _) (S.tok _) (Trans.tok _) q))
theorem AItem.dict {f : Kd} {k d v : V} {es : List (V × V)} (dn : Den σ d (.dct f es)) (ok : keyOk f k) (hv : dget k es = some v) (q : Q v σ) : AItem Γ n d k σ Q := by
 intro A s F x y hA S rd rk
 obtain ⟨a, rfl, ro⟩ := dn.at S rd
 obtain ⟨arr, m, ho, hs, dr, nd⟩ := ro.dct_inv
 have hT : s.TypeIs (.ref a) "dict" := ⟨_, ho, rfl⟩
 refine ⟨"dict", _, hT, slot_dict_getitem.lookup, ?_⟩
 unfold getItem
 try with_reducible refine wpAny_holding ?_
 refine wpAny_bind (wpAny_sequenceKey hT (by decide) ?_)
 refine wpAny_bind (wpAny_callSpecial?_slot (name := Str.ofString "__getitem__") hT slot_dict_getitem
  (wpAny_call_entry slot_dict_getitem hT entry_dict_getitem ?_ (args_dict_getitem _ _)))
 show wpAny _ _ (dictGet a y >>= _) _ _ s
 refine wpAny_bind (dictGet_run hA.in20 ok rk ho dr nd (fun e => by rw [hv] at e; cases e) fun u e val tk rv => ?_)
 rw [hv] at e; cases e
 exact wpAny_pure ⟨_, rfl, wpAny_pure (post_here rv (S.tok _) (Trans.tok _) q)⟩
theorem St.dictUpd {d : Addr} {f : Kd} {es es' : List (V × V)} {h' : Heap} {tk : Nat} {arr' : Array DictEntry} {m' : Nat} (S : St Γ F σ s) (hd : σ d = some (.dct f es)) (hs : Heap.SameBut d s.heap h') (ho' : h'.get? d = some (dictObj arr' m'))
  (dr : DRel Γ (DD σ F) s.heap f es' arr'.toList) (nd : (es'.map (·.1)).Nodup) : St Γ F (put σ d (.dct f es')) { s with heap := h', toks := tk } /\ Trans σ s (put σ d (.dct f es')) { s with heap := h', toks := tk } := by
 have hne : σ d ≠ none := by rw [hd]; exact fun e => nomatch e
 obtain ⟨_, _, _, hsys, _, _⟩ := (S.rep _ _ hd).dct_inv
 have mono : ∀ b o, ¬ DD σ F b -> solid o = true -> s.heap.get? b = some o -> h'.get? b = some o :=
  fun b o nd _ e => (hs.2 b (fun q => by subst q; exact nd (.inl hne))).trans e
 exact ⟨S.upd (s' := { s with heap := h', toks := tk }) hne hs (.dct ho' hsys (dr.mono mono fun _ _ n _ => n) nd) rfl rfl, Trans.upd (s' := { s with heap := h', toks := tk }) hne hs⟩
theorem St.listUpd {d : Addr} {vs vs' : List V} {h' : Heap} {arr' : Array Value} {m' tk : Nat} (S : St Γ F σ s) (hd : σ d = some (.lst vs)) (hs : Heap.SameBut d s.heap h') (ho' : h'.get? d = some (seqObj "list" arr' m'))
  (dr : VsRel Γ (DD σ F) s.heap vs' arr'.toList) : St Γ F (put σ d (.lst vs')) { s with heap := h', toks := tk } /\ Trans σ s (put σ d (.lst vs')) { s with heap := h', toks := tk } := by
 have hne : σ d ≠ none := by rw [hd]; exact fun e => nomatch e
 have mono : ∀ b o, ¬ DD σ F b -> solid o = true -> s.heap.get? b = some o -> h'.get? b = some o :=
  fun b o nd _ e => (hs.2 b (fun q => by subst q; exact nd (.inl hne))).trans e
 exact ⟨S.upd (s' := { s with heap := h', toks := tk }) hne hs (.lst ho' (dr.mono mono fun _ _ n _ => n)) rfl rfl, Trans.upd (s' := { s with heap := h', toks := tk }) hne hs⟩
theorem VRel.upd {a : Addr} {o v : V} {x : Value} {h' : Heap} (ha : σ a ≠ Option.none) (hs : Heap.SameBut a s.heap h') (r : VRel Γ (DD σ F) s.heap v x) : VRel Γ (DD (Mine.put σ a o) F) h' v x :=
 r.mono (fun b o' nd _ e => (hs.2 b (fun q => by subst q; exact nd (.inl ha))).trans e) fun b o' nd e => by
  rintro (q | q)
  ·by_cases hb : b = a
   ·subst hb; exact nd (.inl ha)
   ·rw [put_ne σ o hb] at q; exact nd (.inl q)
  ·exact nd (.inr q)
theorem ASetItem.dict {f : Kd} {k v : V} {d : Addr} {es : List (V × V)} {Q : Store -> Prop} (hd : σ d = some (.dct f es)) (ok : keyOk f k) (hz : es.length <= 1000000) (q : Q (put σ d (.dct f (dput k v es)))) : ASetItem Γ n (.ref d) k v σ Q := by
 intro A s F x y z hA S rd rk rv
 obtain rfl := rd.ref_inv
 obtain ⟨arr, m, ho, hs, dr, nd⟩ := (S.rep _ _ hd).dct_inv
 have hT : s.TypeIs (.ref d) "dict" := ⟨_, ho, rfl⟩
 unfold setItem
 try with_reducible refine wpAny_holding ?_
 refine wpAny_bind (wpAny_sequenceKey hT (by decide) ?_)
 refine wpAny_bind (wpAny_callSpecial?_slot (name := Str.ofString "__setitem__") hT slot_dict_setitem
  (wpAny_call_entry slot_dict_setitem hT entry_dict_setitem ?_ (args_dict_setitem _ _ _)))
 show wpAny _ _ (Builtin.Dict.notOrdered "__setitem__" ⟨[.ref d, y, z], []⟩ >>= _) _ _ s
 refine wpAny_bind (wpAny_notOrdered_dict hT ?_)
 show wpAny _ _ (dictSet d y z >>= _) _ _ s
 refine wpAny_bind (dictSet_run hA.in20 ok rk rv ho dr nd hz fun h' tk arr' m' hs' ho' dr' => wpAny_pure ⟨.none, rfl, wpAny_pure ?_⟩)
 obtain ⟨S', T'⟩ := S.dictUpd (tk := tk) hd hs' ho' dr' (dput_nodup nd)
 exact ⟨_, S', T', q⟩
theorem ASetItem.list {v : V} {d : Addr} {vs : List V} {k : Nat} {Q : Store -> Prop} (hd : σ d = some (.lst vs)) (hk : k < vs.length) (hz : vs.length <= 1000000) (q : Q (put σ d (.lst (vs.set k v)))) : ASetItem Γ n (.ref d) (.int k) v σ Q := by
 intro A s F x y z hA S rd rk rv
 obtain rfl := rd.ref_inv
 obtain ⟨t, rfl⟩ := rk.int_inv
 obtain ⟨arr, m, ho, rs⟩ := (S.rep _ _ hd).lst_inv
 have hsz := vs_size rs
 have ho' : (s.heap.update d (Obj.mapSeq (·.setIfInBounds k z))).get? d = some (seqObj "list" (arr.setIfInBounds k z) m) := by
  have := PySem.IsL.update (h := s.heap) (l := d) (items := arr) (n := m) ho (·.setIfInBounds k z)
  simp only [Array.size_setIfInBounds, beq_self_eq_true, if_true] at this
  exact this
 have rs' : VsRel Γ (DD σ F) s.heap (vs.set k v) (arr.setIfInBounds k z).toList := by
  rw [Array.toList_setIfInBounds]; exact rs.set rv k
 refine ki_setAt ho (Int.natCast_nonneg k) (nat_lt (by lia)) (by lia) ?_
 rw [Int.toNat_natCast]
 obtain ⟨S', T'⟩ := S.listUpd (tk := s.toks) hd (Heap.SameBut.update ..) ho' rs'
 exact ⟨_, S', T', q⟩
theorem AMeth.blt {o : V} {T : String} {name : Str} {id : String} {Q : V -> List V -> Store -> Prop} (hT : ∀ F s x, St Γ F σ s -> VRel Γ (DD σ F) s.heap o x -> s.TypeIs x T /\ ∀ a, x = .ref a -> ∃ ob, s.heap.get? a = some ob /\ ob.dict = Option.none)
  (pa : PlainAttrs T) (slot : Slot T name id) (hty : typeOf (.builtin id) = pure (.type "method_descriptor")) (q : Q (.blt id) [o] σ) : AMeth Γ n o name σ Q := by
 intro A s F x pl hA S r
 obtain ⟨h1, h2⟩ := hT F s x S r
 exact getMethod_builtin h1 pa slot hty h2 ⟨.blt id, [o], σ, .blt id, .cons r .nil, S, Trans.refl _ _, q⟩
theorem dict_type {d : V} {f : Kd} {es : List (V × V)} (dn : Den σ d (.dct f es)) : ∀ F s x, St Γ F σ s -> VRel Γ (DD σ F) s.heap d x -> s.TypeIs x "dict" /\ ∀ a, x = .ref a -> ∃ ob, s.heap.get? a = some ob /\ ob.dict = none := fun F s x S r => by
 obtain ⟨a, rfl, ro⟩ := dn.at S r
 obtain ⟨arr, m, ho, _⟩ := ro.dct_inv
 exact ⟨⟨_, ho, rfl⟩, fun b e => by cases e; exact ⟨_, ho, rfl⟩⟩
theorem list_type {d : V} {vs : List V} (dn : Den σ d (.lst vs)) : ∀ F s x, St Γ F σ s -> VRel Γ (DD σ F) s.heap d x -> s.TypeIs x "list" /\ ∀ a, x = .ref a -> ∃ ob, s.heap.get? a = some ob /\ ob.dict = none := fun F s x S r => by
 obtain ⟨a, rfl, ro⟩ := dn.at S r
 obtain ⟨arr, m, ho, _⟩ := ro.lst_inv
 exact ⟨⟨_, ho, rfl⟩, fun b e => by cases e; exact ⟨_, ho, rfl⟩⟩
theorem str_type {t : Str} : ∀ F s x, St Γ F σ s -> VRel Γ (DD σ F) s.heap (.str t) x -> s.TypeIs x "str" /\ ∀ a, x = .ref a -> ∃ ob, s.heap.get? a = some ob /\ ob.dict = none := fun F s x S r => by
 obtain ⟨t, rfl⟩ := r.str_inv
 exact ⟨typeIs_str _ _ _, fun b e => by cases e⟩
end
end
section
variable {Γ : Cx}
section
variable {n : Nat} {sc : Scope} {ρ : Vars} {σ σ₁ : Store} {Q Q' : V -> Store -> Prop} {F : Addr -> Prop} {s : Shared}
theorem VsRel.one_inv {D : Addr -> Prop} {h : Heap} {a : V} {l : List Value} (r : VsRel Γ D h [a] l) : ∃ x, l = [x] /\ VRel Γ D h a x := by
 obtain ⟨x, l, rfl, r1, r'⟩ := r.cons_inv
 obtain rfl := r'.nil_inv
 exact ⟨_, rfl, r1⟩
theorem VsRel.two_inv {D : Addr -> Prop} {h : Heap} {a b : V} {l : List Value} (r : VsRel Γ D h [a, b] l) : ∃ x y, l = [x, y] /\ VRel Γ D h a x /\ VRel Γ D h b y := by
 obtain ⟨x, l, rfl, r1, r'⟩ := r.cons_inv
 obtain ⟨y, rfl, r2⟩ := r'.one_inv
 exact ⟨_, _, rfl, r1, r2⟩
theorem VsRel.three_inv {D : Addr -> Prop} {h : Heap} {a b c : V} {l : List Value} (r : VsRel Γ D h [a, b, c] l) : ∃ x y z, l = [x, y, z] /\ VRel Γ D h a x /\ VRel Γ D h b y /\ VRel Γ D h c z := by
 obtain ⟨x, l, rfl, r1, r'⟩ := r.cons_inv
 obtain ⟨y, z, rfl, r2, r3⟩ := r'.two_inv
 exact ⟨_, _, _, rfl, r1, r2, r3⟩
theorem ACall.dictGet {f : Kd} {d k dflt : V} {es : List (V × V)} (dn : Den σ d (.dct f es)) (ok : keyOk f k) (q : Q ((dget k es).getD dflt) σ) : ACall Γ n (.blt "dict.get") [d, k, dflt] σ Q := by
 intro A s F fv vals hA S rf rv
 obtain rfl := rf.blt_inv
 obtain ⟨x, y, z, rfl, rd, rk, rz⟩ := rv.three_inv
 obtain ⟨a, rfl, ro⟩ := dn.at S rd
 obtain ⟨arr, m, ho, hs, dr, nd⟩ := ro.dct_inv
 have hT : s.TypeIs (.ref a) "dict" := ⟨_, ho, rfl⟩
 refine wpAny_call_entry PySem.F.slot_dict_get hT PySem.F.entry_dict_get ?_ (PySem.F.args_dict_get_3 _ _ _)
 show wpAny _ _ (PySem.dictGet a y >>= _) _ _ s
 refine wpAny_bind (dictGet_run hA.in20 ok rk ho dr nd (fun e tk => ?_) fun v e val tk rv => ?_)
 ·rw [e] at q
  show wpAny _ _ (Builtin.Dict.missed a y >>= _) _ _ _
  exact wpAny_bind (wpAny_missed_other hs (wpAny_pure ⟨z, rfl, post_here rz (S.tok _) (Trans.tok _) q⟩))
 ·rw [e] at q
  exact wpAny_pure ⟨val, rfl, post_here rv (S.tok _) (Trans.tok _) q⟩
theorem ACall.dictSetdefault {f : Kd} {d : Addr} {k dflt : V} {es : List (V × V)} (hd : σ d = some (.dct f es)) (ok : keyOk f k) (hz : es.length <= 1000000)
  (q : match dget k es with | some u => Q u σ | .none => Q dflt (put σ d (.dct f (dput k dflt es)))) : ACall Γ n (.blt "dict.setdefault") [.ref d, k, dflt] σ Q := by
 intro A s F fv vals hA S rf rv
 obtain rfl := rf.blt_inv
 obtain ⟨x, y, z, rfl, rd, rk, rz⟩ := rv.three_inv
 obtain rfl := rd.ref_inv
 obtain ⟨arr, m, ho, hs, dr, nd⟩ := (S.rep _ _ hd).dct_inv
 have hT : s.TypeIs (.ref d) "dict" := ⟨_, ho, rfl⟩
 have hne : σ d ≠ none := by rw [hd]; exact fun e => nomatch e
 refine wpAny_call_entry PySem.F.slot_dict_setdefault hT PySem.F.entry_dict_setdefault ?_ (PySem.F.args_dict_setdefault_3 _ _ _)
 unfold Builtin.«dict.setdefault»
 refine wpAny_bind ?_
 unfold Builtin.Dict.keyAndDefault
 refine wpAny_bind (wpAny_notOrdered_dict hT ?_)
 show wpAny _ _ (pure (d, y, some z)) _ _ s
 refine wpAny_pure ?_
 show wpAny _ _ (if (d == sysModules) = true then _ else (dictSetDefault d y z >>= _)) _ _ s
 rw [if_neg (by rw [hs]; exact Bool.false_ne_true)]
 refine wpAny_bind (dictDefault_run hA.in20 ok rk rz ho dr nd hz (fun u e uval tk ru => ?_) fun e h' tk arr' m' hs' ho' dr' => ?_)
 ·rw [e] at q
  exact wpAny_pure ⟨_, rfl, post_here ru (S.tok _) (Trans.tok _) q⟩
 ·rw [e] at q
  obtain ⟨S', T'⟩ := S.dictUpd (tk := tk) hd hs' ho' dr' (dput_nodup nd)
  exact wpAny_pure ⟨_, rfl, dflt, _, rz.upd hne hs', S', T', q⟩
theorem ACall.dictPop {f : Kd} {d : Addr} {k v : V} {es : List (V × V)} (hd : σ d = some (.dct f es)) (ok : keyOk f k) (hi : f = .I) (hz : es.length <= 1000000) (hv : dget k es = some v)
  (q : Q v (put σ d (.dct f (ddel k es)))) : ACall Γ n (.blt "dict.pop") [.ref d, k] σ Q := by
 intro A s F fv vals hA S rf rv
 obtain rfl := rf.blt_inv
 obtain ⟨x, y, rfl, rd, rk⟩ := rv.two_inv
 obtain rfl := rd.ref_inv
 obtain ⟨arr, m, ho, hs, dr, nd⟩ := (S.rep _ _ hd).dct_inv
 have hT : s.TypeIs (.ref d) "dict" := ⟨_, ho, rfl⟩
 have hne : σ d ≠ none := by rw [hd]; exact fun e => nomatch e
 have hpart : (keyPart y).isSome = true := by
  subst hi
  obtain ⟨i, rfl⟩ := ok
  obtain ⟨t, rfl⟩ := rk.int_inv
  rfl
 refine wpAny_call_entry PySem.F.slot_dict_pop hT PySem.F.entry_dict_pop ?_ (PySem.F.args_dict_pop_2 _ _)
 unfold Builtin.«dict.pop»
 refine wpAny_bind ?_
 unfold Builtin.Dict.keyAndDefault
 refine wpAny_bind (wpAny_notOrdered_dict hT ?_)
 show wpAny _ _ (pure (d, y, none)) _ _ s
 refine wpAny_pure ?_
 simp only [hpart, if_true]
 refine wpAny_bind (wpAny_pure ?_)
 simp only [Bool.false_eq_true, if_false]
 refine wpAny_bind (takeOut_run hA.in20 ok rk ho dr nd hz hv fun e h' tk arr' m' rv hs' ho' dr' => ?_)
 simp only [Option.isNone_some, Bool.false_eq_true, if_false]
 obtain ⟨S', T'⟩ := S.dictUpd (tk := tk) hd hs' ho' dr' (ddel_nodup nd)
 exact wpAny_bind (wpAny_letGo (wpAny_pure ⟨_, rfl, v, _, rv.upd hne hs', S', T', q⟩))
theorem list_append_at {A : Around} {d : Addr} {vs : List V} {v : V} {x : Value} {R : Value -> Shared -> Prop} (hA : Room n A) (S : St Γ F σ s) (hd : σ d = some (.lst vs)) (rx : VRel Γ (DD σ F) s.heap v x) (hz : vs.length <= 1000000)
  (h : ∀ s', St Γ F (put σ d (.lst (vs ++ [v]))) s' -> Trans σ s (put σ d (.lst (vs ++ [v]))) s' -> R .none s') : wpAny (Md Γ) A (call (.builtin "list.append") [.ref d, x]) R NoE s := by
 obtain ⟨arr, m, ho, rs⟩ := (S.rep _ _ hd).lst_inv
 refine append_at ho (fun h' hs' ho' => ?_) (by rw [vs_size rs]; exact Nat.le_trans hz (by decide))
 obtain ⟨S', T'⟩ := S.listUpd (vs' := vs ++ [v]) (tk := s.toks) hd hs' ho' (by rw [Array.toList_push]; exact rs.append (.cons rx .nil))
 exact h _ S' T'
theorem ACall.append {d : Addr} {v : V} {vs : List V} (hd : σ d = some (.lst vs)) (hz : vs.length <= 1000000) (q : Q .none (put σ d (.lst (vs ++ [v])))) : ACall Γ n (.blt "list.append") [.ref d, v] σ Q := by
 intro A s F fv vals hA S rf rv
 obtain rfl := rf.blt_inv
 obtain ⟨x, y, rfl, rd, ry⟩ := rv.two_inv
 obtain rfl := rd.ref_inv
 exact list_append_at hA S hd ry hz fun s' S' T' => ⟨.none, _, .none, S', T', q⟩
theorem ACall.extend {d : Addr} {o : V} {vs us : List V} (hd : σ d = some (.lst vs)) (dn : Den σ o (.lst us)) (hz : vs.length + us.length <= 1000000) (q : Q .none (put σ d (.lst (vs ++ us)))) : ACall Γ n (.blt "list.extend") [.ref d, o] σ Q := by
 intro A s F fv vals hA S rf rv
 obtain rfl := rf.blt_inv
 obtain ⟨x, y, rfl, rd, ry⟩ := rv.two_inv
 obtain rfl := rd.ref_inv
 obtain ⟨b, rfl, ro⟩ := dn.at S ry
 obtain ⟨arr, m, ho, rs⟩ := (S.rep _ _ hd).lst_inv
 obtain ⟨brr, m2, ho2, rs2⟩ := ro.lst_inv
 have z1 := vs_size rs
 have z2 := vs_size rs2
 have hsl : (1000000 : Nat) <= sizeLine := by decide
 refine call_meets PySem.F.slot_list_extend ⟨_, ho, rfl⟩ PySem.F.entry_list_extend (PySem.F.args_list_extend_2 _ _)
  (PySem.AutoSeq1.list_extend_list_list_0 d arr m b brr m2 (extend_door (by lia)) (by lia) (by lia)) ⟨ho, ho2, ?_⟩
 have ho' := PySem.IsL.update (h := s.heap) (l := d) (items := arr) (n := m) ho (fun x => x ++ brr)
 obtain ⟨S', T'⟩ := S.listUpd (vs' := vs ++ us) (tk := s.toks) hd (Heap.SameBut.update ..) ho' (by rw [Array.toList_append]; exact rs.append rs2)
 exact ⟨.none, _, .none, S', T', q⟩
theorem ACall.pop {d : Addr} {v : V} {vs : List V} (hd : σ d = some (.lst (vs ++ [v]))) (hz : vs.length <= 900000) (q : Q v (put σ d (.lst vs))) : ACall Γ n (.blt "list.pop") [.ref d] σ Q := by
 intro A s F fv vals hA S rf rv
 obtain rfl := rf.blt_inv
 obtain ⟨x, rfl, rd⟩ := rv.one_inv
 obtain rfl := rd.ref_inv
 obtain ⟨arr, m, ho, rs⟩ := (S.rep _ _ hd).lst_inv
 have hne : σ d ≠ none := by rw [hd]; exact fun e => nomatch e
 have z1 := vs_size rs
 rw [List.length_append] at z1
 obtain ⟨ys, zs, hl, r1, r2⟩ := rs.split
 obtain ⟨y, rfl, ry⟩ := r2.one_inv
 have ei : arr = (ys ++ [y]).toArray := by rw [<- hl]
 have hsl : (1000000 : Nat) <= sizeLine := by decide
 have hy : arr[arr.size - 1]? = some y := by rw [ei]; simp
 refine call_meets PySem.F.slot_list_pop ⟨_, ho, rfl⟩ PySem.F.entry_list_pop (PySem.F.args_list_pop_1 _) (PySem.MeetsSeq.list_pop_last d arr m y hy (by simp at z1; lia)) ⟨ho, ?_⟩
 have ho' := PySem.IsL.update (h := s.heap) (l := d) (items := arr) (n := m) ho (fun xs => xs.eraseIdxIfInBounds (arr.size - 1))
 have e2 : (arr.eraseIdxIfInBounds (arr.size - 1)).toList = ys := by
  rw [ei]
  have : (ys ++ [y]).toArray.size - 1 = ys.length := by simp
  rw [this]
  have := kl_erase ys [] y
  rw [this]; simp
 obtain ⟨S', T'⟩ := S.listUpd (vs' := vs) (tk := s.toks) hd (Heap.SameBut.update ..) ho' (by rw [e2]; exact r1)
 exact ⟨v, _, ry.upd hne (Heap.SameBut.update ..), S', T', q⟩
theorem ACall.lenList {o : V} {vs : List V} (dn : Den σ o (.lst vs)) (hz : vs.length <= 1000000) (q : Q (.int vs.length) σ) : ACall Γ n (.blt "len") [o] σ Q := by
 intro A s F fv vals hA S rf rv
 obtain rfl := rf.blt_inv
 obtain ⟨x, rfl, rd⟩ := rv.one_inv
 obtain ⟨a, rfl, ro⟩ := dn.at S rd
 obtain ⟨arr, m, ho, hl, rs⟩ := ro.lst_is
 have z := vs_size rs
 refine call_len_list hl (by lia) (post_here (v := .int vs.length) ?_ (S.tok _) (Trans.tok _) q)
 rw [z]; exact .int _ _
theorem ACall.lenTuple {vs : List V} (hz : vs.length <= 1000000) (q : Q (.int vs.length) σ) : ACall Γ n (.blt "len") [.tup vs] σ Q := by
 intro A s F fv vals hA S rf rv
 obtain rfl := rf.blt_inv
 obtain ⟨x, rfl, rd⟩ := rv.one_inv
 obtain ⟨a, arr, rfl, nd, ht, rs⟩ := rd.tup_inv
 have z := vs_size rs
 refine len_tuple (show IsTup s.heap a arr from ht) (by lia) (post_here (v := .int vs.length) ?_ (S.tok _) (Trans.tok _) q)
 rw [z]; exact .int _ _
theorem St.keepAll {h' : Heap} {tk : Nat} (S : St Γ F σ s) (k : ∀ b o, s.heap.get? b = some o -> h'.get? b = some o) : St Γ F σ { s with heap := h', toks := tk } /\ Trans σ s σ { s with heap := h', toks := tk } :=
 ⟨S.grow (s' := { s with heap := h', toks := tk }) k rfl rfl, Trans.grow (s' := { s with heap := h', toks := tk }) k⟩
theorem ACall.tupleList {o : V} {vs : List V} (dn : Den σ o (.lst vs)) (hz : vs.length <= 1000000) (q : Q (.tup vs) σ) : ACall Γ n (.typ "tuple") [o] σ Q := by
 intro A s F fv vals hA S rf rv
 obtain rfl := rf.typ_inv
 obtain ⟨x, rfl, rd⟩ := rv.one_inv
 obtain ⟨a, rfl, ro⟩ := dn.at S rd
 obtain ⟨arr, m, ho, hl, rs⟩ := ro.lst_is
 refine call_tuple_list hl (fun h' k => ?_) (by rw [vs_size rs]; exact Nat.le_trans hz (by decide))
 obtain ⟨S', T'⟩ := S.keepAll (tk := s.toks) k
 refine ⟨.tup vs, σ, ?_, new_obj S' _, T'.trans (new_trans _), q⟩
 exact frozen_seq S' (xs := arr.toList) (rs.trans T') "tuple" (.inl rfl)
theorem ACall.tupleTuple {vs : List V} (q : Q (.tup vs) σ) : ACall Γ n (.typ "tuple") [.tup vs] σ Q := by
 intro A s F fv vals hA S rf rv
 obtain rfl := rf.typ_inv
 obtain ⟨x, rfl, rd⟩ := rv.one_inv
 obtain ⟨a, arr, rfl, nd, ht, rs⟩ := id rd.tup_inv
 exact call_tuple_same ht (post_here rd S (Trans.refl _ _) q)
end
end
section
open AutoSeq1 (wpAny_loadPart')
variable {Γ : Cx}
section
variable {prog : Program} {w : World} {A : Around} {E : Value -> Shared -> Prop} {s : Shared}
theorem nextOf_tuple_item {it l : Addr} {i : Nat} {items : Array Value} {x : Value} {Q : Value -> Shared -> Prop} (hit : s.heap.IsTupleIter it l i)
  (hl : s.heap.IsTuple l items) (hx : items[i]? = some x)
  (hQ : ∀ h', h'.IsTupleIter it l (i + 1) -> Heap.SameBut it s.heap h' -> Q x { s with heap := h' }) :
  wpAny (model prog w) A (Builtin.SmallTypes.nextOf (.ref it)) Q E s := by
 obtain ⟨o, ho, hc, hd⟩ := id hit
 obtain ⟨ol, hol, _, nl, hdl⟩ := hl
 unfold Builtin.SmallTypes.nextOf
 refine wpAny_bind (wpAny_callSpecial?_slot (name := Str.ofString "__next__") hit.typeIs PySem.F.slot_tuple_iterator_next
  (wpAny_call_entry PySem.F.slot_tuple_iterator_next hit.typeIs PySem.F.entry_tuple_iterator_next ?_ (PySem.F.args_tuple_iterator_next_1 _)))
 show wpAny _ _ (field (.ref it) 0 >>= _) _ _ s
 refine wpAny_bind (wpAny_field ho hd (x := .ref l) rfl ?_)
 show wpAny _ _ (if (Value.ref l == Value.none) = true then _ else _) _ _ s
 rw [if_neg (show ¬ ((Value.ref l == Value.none) = true) from Bool.false_ne_true)]
 show wpAny _ _ (field (.ref it) 1 >>= _) _ _ s
 refine wpAny_bind (wpAny_field ho hd (x := .int i 0) rfl ?_)
 show wpAny _ _ (seqItems? (.ref l) >>= _) _ _ s
 refine wpAny_bind (wpAny_seqItems hol hdl ?_)
 dsimp only
 rw [Int.toNat_natCast, hx]
 refine wpAny_bind (wpAny_setField ho hd (by simp) (wpAny_pure ⟨x, rfl, wpAny_pure (hQ _ ?_ (Heap.SameBut.update ..))⟩))
 exact ⟨_, Heap.get?_update_self _ ho (Obj.isFreed_of_fields (Obj.data_mapFields hd _)), (Obj.cls_mapFields ..).trans hc, by
  rw [Obj.data_mapFields hd]; simp [rawInt]⟩
theorem nextOf_tuple_end {it l : Addr} {i : Nat} {items : Array Value} {Q : Value -> Shared -> Prop} (hh : A.handled = none)
  (hit : s.heap.IsTupleIter it l i) (hl : s.heap.IsTuple l items) (hx : items[i]? = none)
  (hE : ∀ h' e, Heap.ExtBut it s.heap h' -> (∃ o, h'.get? e = some o /\ o.cls = .type "StopIteration") -> E (.ref e) { s with heap := h' }) :
  wpAny (model prog w) A (Builtin.SmallTypes.nextOf (.ref it)) Q E s := by
 obtain ⟨o, ho, hc, hd⟩ := id hit
 obtain ⟨ol, hol, _, nl, hdl⟩ := hl
 unfold Builtin.SmallTypes.nextOf
 refine wpAny_bind (wpAny_callSpecial?_slot (name := Str.ofString "__next__") hit.typeIs PySem.F.slot_tuple_iterator_next
  (wpAny_call_entry PySem.F.slot_tuple_iterator_next hit.typeIs PySem.F.entry_tuple_iterator_next ?_ (PySem.F.args_tuple_iterator_next_1 _)))
 show wpAny _ _ (field (.ref it) 0 >>= _) _ _ s
 refine wpAny_bind (wpAny_field ho hd (x := .ref l) rfl ?_)
 show wpAny _ _ (if (Value.ref l == Value.none) = true then _ else _) _ _ s
 rw [if_neg (show ¬ ((Value.ref l == Value.none) = true) from Bool.false_ne_true)]
 show wpAny _ _ (field (.ref it) 1 >>= _) _ _ s
 refine wpAny_bind (wpAny_field ho hd (x := .int i 0) rfl ?_)
 show wpAny _ _ (seqItems? (.ref l) >>= _) _ _ s
 refine wpAny_bind (wpAny_seqItems hol hdl ?_)
 dsimp only
 rw [Int.toNat_natCast, hx]
 refine wpAny_bind (wpAny_rule (wpAny_bind (wpAny_setField ho hd (by simp) ?_)))
 show wpAny _ _ (newExc (.type "StopIteration") [] >>= _) _ _ _
 refine wpAny_bind ?_
 simp only [newExc, newTuple]
 refine wpAny_bind (wpAny_newObj_type ?_ (by size_fits))
 refine wpAny_bind (m := firstArgMember _ _) (wpAny_of_eq (a := Value.none) (by first | rfl | (simp only [firstArgMember]; rfl)) ?_)
 refine wpAny_newObj_type ?_ (by size_fits)
 unfold raiseNew
 refine wpAny_bind (wpAny_handled ?_)
 first | rw [show A.in1.handled = none from hh] | rw [hh]
 refine wpAny_bind (wpAny_pure (wpAny_throw ?_))
 exact hE _ _ (((Heap.SameBut.update ..).extBut.push _).push _) ⟨_, Heap.get?_push_size _ rfl, rfl⟩
end
theorem IsTupleIter_at {h h' : Heap} {a l : Addr} {i : Nat} (x : h.IsTupleIter a l i) (e : ∀ o, h.get? a = some o -> h'.get? a = some o) : h'.IsTupleIter a l i := let ⟨o, ho, r⟩ := x; ⟨o, e o ho, r⟩
theorem drawsTuple {prog : Program} {w : World} {A : Around} (hh : A.handled = none) (it l : Addr) (hne : l ≠ it) (items : Array Value) :
  Draws prog w A it [it, l] items.size (fun i v => items[i]? = some v) (fun i h => h.IsTupleIter it l i /\ h.IsTuple l items) where
 live := fun _ _ st => let ⟨o, ho, _⟩ := st.1; ⟨o, ho⟩
 frame := fun _ _ _ st hk => ⟨IsTupleIter_at st.1 fun o e => hk it (by simp) o e, IsTuple_keep st.2 fun o e => hk l (by simp) o e⟩
 item := fun i s Q E hi st hQ => by
  refine nextOf_tuple_item st.1 st.2 (x := items[i]) (by simp [hi]) fun h' hit' hs' => ?_
  exact hQ _ h' s.toks (by simp [hi]) ⟨hit', st.2.extBut hs'.extBut hne⟩ hs'
 done := fun s Q E st hE => nextOf_tuple_end hh st.1 st.2 (by simp) hE
theorem pure_any {M : Model} {A : Around} {b : Bool} {Q : Bool -> Shared -> Prop} {E : Value -> Shared -> Prop} {s : Shared} (h1 : Q true s) (h0 : Q false s) : wpAny M A (pure b) Q E s := wpAny_pure (by cases b <;> assumption)
theorem meets_enumerate_newT (l : Addr) (items : Array Value) (n : Nat) (dct : Option Addr) (sl : Array (Option Value)) :
  Meets (Builtin.«enumerate.__new__» ⟨[.type "enumerate", .ref l], []⟩) (fun _ R s => s.heap.get? l = some { cls := .type "tuple", dict := dct, data := .seq items n, slots := sl } /\
   R (.ok (.ret (.ref (s.heap.push { cls := .type "tuple_iterator", data := .fields #[.ref l, .int 0 0] }).objs.size)))
    { s with heap := (s.heap.push { cls := .type "tuple_iterator", data := .fields #[.ref l, .int 0 0] }).push { cls := .type "enumerate", data := .fields #[.none, .bool false, .ref s.heap.objs.size, rawInt 0, .none, .none] } }) :=
 .of_wp fun prog w A R s h => by
  obtain ⟨hp, g, d, tk, os⟩ := s; obtain ⟨hl, h⟩ := h
  have hsub := sub_enumerate
  have hL : Heap.IsTuple (Shared.heap ⟨hp, g, d, tk, os⟩) l items := ⟨_, hl, rfl, n, rfl⟩
  wp_walk using wpAny_loadPart' hl
  refine wpAny_stack_any fun st => pure_any ?_ ?_
  ·wp_walk using wpAny_loadPart' hl, wpAny_pyIter_tuple hL
   exact ⟨_, rfl, h⟩
  ·wp_walk using wpAny_loadPart' hl, wpAny_pyIter_tuple hL
   exact ⟨_, rfl, h⟩
section
variable {prog : Program} {w : World} {A : Around} {E : Value -> Shared -> Prop} {s : Shared}
theorem call_enumerate_tuple {l : Addr} {items : Array Value} {Q : Value -> Shared -> Prop} (hL : s.heap.IsTuple l items)
  (h : ∀ h', IsEnum h' (s.heap.objs.size + 1) s.heap.objs.size 0 .none -> h'.IsTupleIter s.heap.objs.size l 0 -> h'.objs.size = s.heap.objs.size + 2 ->
   (∀ b o, s.heap.get? b = some o -> h'.get? b = some o) -> Q (.ref (s.heap.objs.size + 1)) { s with heap := h' }) :
  wpAny (model prog w) A (call (.type "enumerate") [.ref l]) Q E s := by
 obtain ⟨⟨c, dct, dt, sl⟩, hl, hc, n, hd⟩ := hL
 replace hc : c = .type "tuple" := hc
 replace hd : dt = .seq items n := hd
 subst hc hd
 refine callType_new PySem.F.called_enumerate (by decide) (PySem.F.typeCall_enumerate_1 _) (PySem.F.newCall_enumerate_1 _) (fun obj => PySem.F.args_object_init_2 obj _) PySem.F.entry_enumerate_new
  (meets_enumerate_newT l items n dct sl) ⟨hl, ?_⟩
 have hz : (s.heap.push { cls := .type "tuple_iterator", data := .fields #[.ref l, .int 0 0] }).objs.size = s.heap.objs.size + 1 := Heap.size_push ..
 show _ /\ _
 rw [hz]
 have he : IsEnum ((s.heap.push { cls := .type "tuple_iterator", data := .fields #[.ref l, .int 0 0] }).push
   { cls := .type "enumerate", data := .fields #[.none, .bool false, .ref s.heap.objs.size, rawInt 0, .none, .none] }) (s.heap.objs.size + 1) s.heap.objs.size 0 .none := by
  have := Heap.get?_push_size (s.heap.push { cls := .type "tuple_iterator", data := .fields #[.ref l, .int 0 0] })
   (o := { cls := .type "enumerate", data := .fields #[.none, .bool false, .ref s.heap.objs.size, rawInt 0, .none, .none] }) rfl
  rw [hz] at this; exact this
 refine ⟨⟨_, he, rfl⟩, h _ he ⟨_, Heap.get?_push_of_some _ (Heap.get?_push_size _ rfl), rfl, rfl⟩ (by rw [Heap.size_push, hz]) fun b o x => Heap.get?_push_of_some _ (Heap.get?_push_of_some _ x)⟩
end
noncomputable def enumV : Nat -> List V -> List V
 | _, [] => []
 | i, y :: ys => .tup [.int i, y] :: enumV (i + 1) ys
noncomputable def SrcAt (isT : Bool) (it l : Addr) (arr : Array Value) (i : Nat) (h : Heap) : Prop :=
 if isT then h.IsTupleIter it l i /\ h.IsTuple l arr else h.IsListIter it l i /\ ∃ m, h.get? l = some (seqObj "list" arr m)
theorem SrcAt.solid {isT : Bool} {it l : Addr} {arr : Array Value} {i : Nat} {h : Heap} (x : SrcAt isT it l arr i h) : ∃ o, h.get? l = some o /\ Mine.solid o = true := by
 cases isT with
 | true => exact IsTuple_solid x.2
 | false => obtain ⟨_, m, e⟩ := x; exact ⟨_, e, rfl⟩
theorem SrcAt.iter {isT : Bool} {it l : Addr} {arr : Array Value} {i : Nat} {h : Heap} (x : SrcAt isT it l arr i h) : ∃ o vs, h.get? it = some o /\ o.data = .fields vs /\ Mine.solid o = false := by
 cases isT with
 | true => obtain ⟨⟨o, h1, _, h2⟩, _⟩ := x; exact ⟨o, _, h1, h2, by unfold Mine.solid; rw [h2]⟩
 | false => obtain ⟨⟨o, h1, _, h2⟩, _⟩ := x; exact ⟨o, _, h1, h2, by unfold Mine.solid; rw [h2]⟩
theorem SrcAt.keep {isT : Bool} {it l : Addr} {arr : Array Value} {i : Nat} {h h' : Heap} (x : SrcAt isT it l arr i h) (k1 : ∀ o, h.get? it = some o -> h'.get? it = some o) (k2 : ∀ o, h.get? l = some o -> h'.get? l = some o) : SrcAt isT it l arr i h' := by
 cases isT with
 | true => exact ⟨IsTupleIter_at x.1 k1, IsTuple_keep x.2 k2⟩
 | false => obtain ⟨⟨o, h1, r⟩, m, e⟩ := x; exact ⟨⟨o, k1 o h1, r⟩, m, k2 _ e⟩
theorem SrcAt.draws {prog : Program} {w : World} {A : Around} (isT : Bool) (hh : A.handled = none) (it l : Addr) (hne : l ≠ it) (arr : Array Value) :
  Draws prog w A it [it, l] arr.size (fun i v => arr[i]? = some v) (fun i h => SrcAt isT it l arr i h) := by
 cases isT with
 | true => exact drawsTuple hh it l hne arr
 | false =>
  exact {
   live := fun _ _ st => let ⟨⟨o, ho, _⟩, _⟩ := st; ⟨o, ho⟩
   frame := fun _ _ _ st hk => SrcAt.keep (isT := false) st (fun o e => hk it (by simp) o e) fun o e => hk l (by simp) o e
   item := fun i s Q E hi st hQ => by
    obtain ⟨st1, m, e⟩ := st
    refine wpAny_nextOf_list_item st1 ⟨_, e, rfl, m, rfl⟩ (x := arr[i]) (by simp [hi]) fun h' hit' hs' => ?_
    exact hQ _ h' s.toks (by simp [hi]) ⟨hit', m, hs'.extBut _ _ hne e⟩ hs'
   done := fun s Q E st hE => by
    obtain ⟨st1, m, e⟩ := st
    exact wpAny_nextOf_list_end hh st1 ⟨_, e, rfl, m, rfl⟩ (by simp) hE }
inductive JE (Γ : Cx) (isT : Bool) (e it l : Addr) (arr : Array Value) (xs : List V) (D : Addr -> Prop) (h : Heap) : Prop
 | mk (i : Nat) (old : Value) (ys : List V) (hi : i <= arr.size) (he : IsEnum h e it i old) (hs : SrcAt isT it l arr i h) (nd : ¬ D l) (r : VsRel Γ D h ys (arr.toList.drop i)) (ex : xs = enumV i ys) : JE Γ isT e it l arr xs D h
theorem Iter.enum {elts : List Expr} {k : Nat} {pos : Pos} (isT : Bool) (e it l : Addr) (arr : Array Value) (hei : e ≠ it) (hle : l ≠ e) (hli : l ≠ it) : Iter Γ (.Tuple elts k pos) e (fun b => b = e \/ b = it) (JE Γ isT e it l arr) where
 frame xs D D' h h' j kk d := by
  obtain ⟨i, old, ys, hi, he, hs, nd, r, ex⟩ := j
  obtain ⟨o, ho, so⟩ := hs.solid
  refine ⟨i, old, ys, hi, kk _ _ (.inr (.inl rfl)) he, hs.keep (fun o e => kk _ _ (.inr (.inr rfl)) e) (fun o' e => kk _ _ (.inl ⟨nd, by rw [ho] at e; cases e; exact so⟩) e), d _ _ nd so ho, r.mono2 (fun b o nd so e => kk b o (.inl ⟨nd, so⟩) e) d, ex⟩
 hollow xs D h b j w := by
  obtain ⟨i, old, ys, hi, he, hs, nd, r, ex⟩ := j
  rcases w with rfl | rfl
  ·exact ⟨_, _, he, rfl, rfl⟩
  ·exact hs.iter
 self A s D xs R j h := by
  obtain ⟨i, old, ys, hi, he, hs, nd, r, ex⟩ := j
  exact wpAny_pyIter_enum he h
 done A s D R hA j hR := by
  obtain ⟨i, old, ys, hi, he, hs, nd, r, ex⟩ := j
  cases ys with
  | cons y ys => cases ex
  | nil =>
   have hsz : arr.size = i := by
    have : (arr.toList.drop i).length = 0 := by rw [<- r.length]; rfl
    rw [List.length_drop, Array.length_toList] at this; lia
   subst hsz
   refine wpAny_pyNext_enum_endD (SrcAt.draws isT (A := A.in1) hA it l hli arr) he hs fun h' hk => hR h' s.toks fun b o nb eb => hk b o (fun q => nb (.inr q)) eb
 item A s D x xs R hA j hD hR := by
  obtain ⟨i, old, ys, hi, he, hs, nd, r, ex⟩ := j
  cases ys with
  | nil => cases ex
  | cons y ys =>
   injection ex with ex1 ex2
   obtain ⟨z, hz, rz, rs⟩ := drop_cons r
   have hlt : i < arr.size := (Array.getElem?_eq_some_iff.mp hz).1
   have hfr : s.heap.get? s.heap.objs.size = none := get_size _
   refine wpAny_pyNext_enum_itemD (SrcAt.draws isT (A := A.in1) hA it l hli arr) he hs hlt hei (by simp; exact ⟨hei, Ne.symm hle⟩) fun x' h' tk hP ho hst hT hsz hk => hR _ _ fun R' kk => ?_
   have hx' : x' = z := by rw [hz] at hP; cases hP; rfl
   subst hx'
   refine wpAny_letOwnedTupleGo_enum ho fun h₃ he₃ hs₃ => ?_
   obtain ⟨o, hol, so⟩ := hs.solid
   have hee : e < s.heap.objs.size := Heap.lt_size he
   have keep : ∀ b o, ¬ (b = e \/ b = it) -> s.heap.get? b = some o -> h₃.get? b = some o := fun b o nb eb => (hs₃.2 b (fun q => nb (.inl q))).trans (hk b o (fun q => nb (.inl q)) (fun q => nb (.inr q)) eb)
   have nbs : ∀ b o, ¬ D b -> solid o = true -> s.heap.get? b = some o -> ¬ (b = e \/ b = it) := fun b o _ so eb q => by
    rcases q with rfl | rfl
    ·rw [he] at eb; cases eb; cases so
    ·obtain ⟨o', vs, h1, _, h3⟩ := hs.iter; rw [h1] at eb; cases eb; rw [so] at h3; cases h3
   have mono : ∀ b o, ¬ D b -> solid o = true -> s.heap.get? b = some o -> h₃.get? b = some o := fun b o nd so eb => keep b o (nbs b o nd so eb) eb
   refine kk h₃ (tk + 1) ?_ ⟨i + 1, x', ys, hlt, ?_, hst.keep (fun o eo => (hs₃.2 it (Ne.symm hei)).trans eo) (fun o eo => (hs₃.2 l hle).trans eo), nd, rs.mono mono (fun _ _ n _ => n), ex2⟩ keep
   ·rw [ex1]
    have hT₃ : h₃.get? s.heap.objs.size = some { cls := .type "tuple", data := .seq #[.int i tk, x'] } := (hs₃.2 _ (Nat.ne_of_gt hee)).trans hT
    refine .at (fun q => by obtain ⟨o, eo⟩ := hD _ q; rw [hfr] at eo; cases eo) (.tup ⟨_, hT₃, rfl, 0, rfl⟩ (.cons (.int _ _) (.cons (rz.mono mono fun _ _ n _ => n) .nil)))
   ·exact he₃
end
section
variable {Γ : Cx}
section
variable {n : Nat} {sc : Scope} {ρ : Vars} {σ : Store} {elts : List Expr} {k : Nat} {tp : Pos}
noncomputable def EnumQ (Q : List V -> Store -> Prop) : V -> Store -> Prop := fun v σ => ∃ xs, seqOf v = some xs /\ Q (enumV 0 xs) σ
theorem EnumQ.mk {Q : List V -> Store -> Prop} {v : V} {xs : List V} {σ : Store} (e : seqOf v = some xs) (q : Q (enumV 0 xs) σ) : EnumQ Q v σ := ⟨xs, e, q⟩
theorem AIt.enum {a : Expr} {p pos : Pos} {Q : List V -> Store -> Prop} (hk : sc.names.lookup (Str.ofString "enumerate") = some .globalImplicit) (hm : nsIn Γ.K mainGlobals (Str.ofString "enumerate") = some none)
  (h : AEval Γ n sc ρ a σ (EnumQ Q))
  (hst : ∀ env, starEach [a] env = [(false, eval a env)] := by intro _; rfl) : AIt Γ n sc ρ (.Tuple elts k tp) (.Call (.Name (Str.ofString "enumerate") p) [a] [] pos) σ Q := by
 intro A s F env hs hA hR S
 have key : AEval Γ n sc ρ (.Name (Str.ofString "enumerate") p) σ fun v σ' => v = .typ "enumerate" /\ σ' = σ := AEval.typ hk hm (by decide +kernel) (by decide +kernel) ⟨rfl, rfl⟩
 refine Call_ (seq_eval (α := Unit) hs hA hR S key fun f σ₁ fv s₁ rf R₁ S₁ T₁ hf => ?_)
 obtain ⟨rfl, rfl⟩ := hf
 obtain rfl := rf.typ_inv
 have hst' := hst env
 have hargs : backTo pos (starEach [a] env) = [(false, eval a env)] := by rw [hst']; rfl
 rw [hargs]
 refine PySem.callWith_type1 (seq_eval (α := Unit) hs hA R₁ S₁ h fun v σ₂ x s₂ r R₂ S₂ T₂ h₂ => ?_)
 obtain ⟨xs, hv, q⟩ := h₂
 have T : Trans σ₁ s σ₂ s₂ := T₁.trans T₂
 have fr1 := NewAt.of T S₂ (get_size s₂.heap)
 have fr2 := NewAt.of T S₂ (get_none_of_lt (Nat.le_succ s₂.heap.objs.size))
 have fin : ∀ (isT : Bool) (l : Addr) (arr : Array Value) (h' : Heap), l < s₂.heap.objs.size -> ¬ DD σ₂ F l -> VsRel Γ (DD σ₂ F) s₂.heap xs arr.toList -> IsEnum h' (s₂.heap.objs.size + 1) s₂.heap.objs.size 0 .none -> SrcAt isT s₂.heap.objs.size l arr 0 h' ->
   (∀ b o, s₂.heap.get? b = some o -> h'.get? b = some o) -> wpAny (Md Γ) A (pyIter (.ref (s₂.heap.objs.size + 1))) (PostI Γ F σ₁ s (.Tuple elts k tp) Q) NoE { s₂ with heap := h' } := by
  intro isT l arr h' hl nd rv he hsrc kk
  refine wpAny_pyIter_enum he ?_
  obtain ⟨S', T'⟩ := S₂.keepAll (tk := s₂.toks) kk
  refine ⟨_, enumV 0 xs, σ₂, fun b => b = s₂.heap.objs.size + 1 \/ b = s₂.heap.objs.size, JE Γ isT (s₂.heap.objs.size + 1) s₂.heap.objs.size l arr, rfl, S', T.trans T',
   ⟨Iter.enum isT _ _ l arr (Nat.succ_ne_self _) (Nat.ne_of_lt (Nat.lt_succ_of_lt hl)) (Nat.ne_of_lt hl), fun b w => ?_, 0, .none, xs, Nat.zero_le _, he, hsrc, nd, ?_, rfl⟩, q⟩
  ·rcases w with rfl | rfl
   ·exact fr2
   ·exact fr1
  ·rw [List.drop_zero]; exact rv.trans T'
 cases v <;> cases hv
 ·obtain ⟨l, arr, rfl, nd, ht, rv⟩ := r.tup_inv
  have hl : l < s₂.heap.objs.size := by obtain ⟨o, e, _⟩ := ht; exact Heap.lt_size e
  refine call_enumerate_tuple ht fun h' he hi _ kk => fin true l arr h' hl nd rv he ⟨hi, IsTuple_keep ht fun o e => kk _ _ e⟩ kk
 ·obtain ⟨l, arr, m, rfl, nd, ht, rv⟩ := r.lst_inv
  have hl : l < s₂.heap.objs.size := Heap.lt_size ht
  refine call_enumerate_list ⟨_, ht, rfl, m, rfl⟩ fun h' he hi _ kk => fin false l arr h' hl nd rv he ⟨hi, m, kk _ _ ht⟩ kk
end
section
variable {prog : Program} {w : World} {A : Around} {E : Value -> Shared -> Prop} {s : Shared}
theorem pyIter_view {v d : Addr} {arr : Array DictEntry} {m : Nat} {Q : Value -> Shared -> Prop} (hv : s.heap.IsItemsView v d) (ho : s.heap.get? d = some (dictObj arr m)) (hz : arr.size <= 1000000)
  (hQ : Q (.ref s.heap.objs.size) { s with heap := s.heap.push { cls := .type "dict_itemiterator", data := .fields #[.none, .bool false, .ref d, .int 0 0, .int arr.size 0, .int m 0, .none, .none] } }) :
  wpAny (model prog w) A (pyIter (.ref v)) Q E s := by
 obtain ⟨ov, hov, hcv, hdv⟩ := id hv
 refine wpAny_pyIter_slot hv.typeIs PySem.F.slot_dict_items_iter (wpAny_call_entry PySem.F.slot_dict_items_iter hv.typeIs PySem.F.entry_dict_items_iter ?_ (PySem.F.args_dict_items_iter_1 _))
 unfold Builtin.«dict_items.__iter__»
 refine wpAny_bind (wpAny_pure ?_)
 refine wpAny_bind ?_
 unfold Builtin.Dict_items.dictOf
 refine wpAny_bind (wpAny_field hov hdv (x := .ref d) rfl (wpAny_pure ?_))
 refine wpAny_bind ?_
 unfold Builtin.Dict_items.newIterator
 refine wpAny_bind (wpAny_dictEntries ho rfl ?_)
 refine wpAny_bind (wpAny_dictEpoch ho rfl ?_)
 have hown : Builtin.Dict_items.ownsTuple "dict_itemiterator" = true := by decide
 simp only [hown, if_true]
 refine wpAny_newObj_type (wpAny_pure ⟨_, rfl, "dict_itemiterator", _, ⟨_, Heap.get?_push_size _ rfl, rfl⟩, PySem.F.slot_dict_itemiterator_next.lookup, ?_⟩)
  (by simp only [sizeOk, Builtin.Dict_items.ownedTupleFields, List.size_toArray, List.length_append, List.length_cons, List.length_nil, sizeLine_eq]; lia)
 simpa [rawInt, Builtin.Dict_items.ownedTupleFields] using hQ
theorem pyNext_view {it d : Addr} {i m : Nat} {arr : Array DictEntry} {e : DictEntry} {ok ov : Value} {Q : Option Value -> Shared -> Prop} (hit : IsItemIter s.heap it d i arr.size m ok ov)
  (hod : s.heap.get? d = some (dictObj arr m)) (hx : arr[i]? = some e)
  (hQ : ∀ h', IsItemIterOut h' it d (i + 1) arr.size m e.key e.val s.heap.objs.size ->
   h'.get? s.heap.objs.size = some { cls := .type "tuple", data := .seq #[e.key, e.val] } -> h'.objs.size = s.heap.objs.size + 1 ->
   (∀ b o, b ≠ it -> s.heap.get? b = some o -> h'.get? b = some o) -> Q (some (.ref s.heap.objs.size)) { s with heap := h' }) :
  wpAny (model prog w) A (pyNext (.ref it)) Q E s := by
 obtain ⟨hp, g, dr, tk, os⟩ := s
 have hT : Shared.TypeIs ⟨hp, g, dr, tk, os⟩ (.ref it) "dict_itemiterator" := ⟨_, hit, rfl⟩
 unfold pyNext
 refine wpAny_bind (wpAny_attempt (wpAny_callSpecial?_slot (name := Str.ofString "__next__") hT PySem.F.slot_dict_itemiterator_next
  (wpAny_call_entry PySem.F.slot_dict_itemiterator_next hT PySem.F.entry_dict_itemiterator_next ?_ (PySem.F.args_dict_itemiterator_next_1 _))))
 refine wpAny_bind (wpAny_pure ?_)
 refine wpAny_bind ?_
 refine wpAny_bind ?_
 first | refine wpAny_bind (wpAny_typeNameOfWhole_itemiter hT (wpAny_pure ?_)) | refine wpAny_bind (wpAny_typeNameOf_itemiter hT (wpAny_pure ?_))
 refine wpAny_bind (wpAny_fieldsOf hit rfl ?_)
 have hown : Builtin.Dict_items.ownsTuple "dict_itemiterator" = true := by decide
 rw [if_pos hown]
 show wpAny _ _ (if (Value.ref d == Value.none) = true then _ else _) _ _ _
 rw [if_neg (show ¬ ((Value.ref d == Value.none) = true) from Bool.false_ne_true)]
 refine wpAny_bind (wpAny_pure ?_)
 refine wpAny_bind (wpAny_dictEntries hod rfl ?_)
 rw [if_neg (by simp)]
 refine wpAny_bind (wpAny_pure ?_)
 refine wpAny_bind (wpAny_dictEpoch hod rfl ?_)
 rw [if_neg (by simp)]
 refine wpAny_pure ?_
 obtain ⟨hlt, he⟩ := Array.getElem?_eq_some_iff.mp hx
 dsimp only
 rw [if_neg (show ¬ ((i : Int) < 0) from by lia), Int.toNat_natCast, hx]
 refine wpAny_bind ?_
 first | refine wpAny_bind (wpAny_typeNameOfWhole_itemiter hT (wpAny_pure ?_)) | refine wpAny_bind (wpAny_typeNameOf_itemiter hT (wpAny_pure ?_))
 refine wpAny_bind (wpAny_isOneOf_itemiter hT ?_)
 show wpAny _ _ (setField (.ref it) 3 (rawInt ((i : Int) + 1)) >>= _) _ _ ⟨hp, g, dr, tk, os⟩
 refine wpAny_bind (wpAny_setField_rec hit (by simp) fun h₁ he₁ hs₁ => ?_)
 replace hs₁ : Heap.SameBut it hp h₁ := hs₁
 replace he₁ : IsItemIter h₁ it d (i + 1) arr.size m ok ov := by
  have e : ((i + 1 : Nat) : Int) = (i : Int) + 1 := by lia
  unfold IsItemIter; rw [e]; simpa [rawInt] using he₁
 have hT₁ : Shared.TypeIs ⟨h₁, g, dr, tk, os⟩ (.ref it) "dict_itemiterator" := ⟨_, he₁, rfl⟩
 refine wpAny_bind (wpAny_holding ?_)
 refine wpAny_bind (wpAny_isOneOf_itemiter hT₁ ?_)
 refine wpAny_bind (wpAny_isOneOf_itemiter hT₁ ?_)
 show wpAny _ _ (Builtin.Dict_items.pairFromOwner (.ref it) 6 e.key e.val) _ _ ⟨h₁, g, dr, tk, os⟩
 unfold Builtin.Dict_items.pairFromOwner
 refine wpAny_bind (wpAny_newTuple ?_)
 have he₂ : IsItemIter (h₁.push { cls := .type "tuple", data := .seq #[e.key, e.val] }) it d (i + 1) arr.size m ok ov := Heap.get?_push_of_some _ he₁
 generalize hh₂ : h₁.push { cls := .type "tuple", data := .seq #[e.key, e.val] } = h₂ at he₂
 have hz₁ : h₁.objs.size = hp.objs.size := hs₁.1
 have hil : it < hp.objs.size := Heap.lt_size hit
 have ht₂ : h₂.get? hp.objs.size = some { cls := .type "tuple", data := .seq #[e.key, e.val] } := by rw [<- hh₂, <- hz₁]; exact Heap.get?_push_size _ rfl
 have hz₂ : h₂.objs.size = hp.objs.size + 1 := by rw [<- hh₂, Heap.size_push, hz₁]
 have hk₂ : ∀ b o, b ≠ it -> hp.get? b = some o -> h₂.get? b = some o := fun b o hb e => by rw [<- hh₂]; exact Heap.get?_push_of_some _ (hs₁.extBut b o hb e)
 show wpAny _ _ (Builtin.Dict_items.ownedTupleIsFree (.ref it) >>= _) _ _ ⟨h₂, g, dr, tk, os⟩
 rw [hz₁]
 clear hh₂ he₁ hs₁ hT₁ hz₁ h₁
 refine wpAny_bind ?_
 unfold Builtin.Dict_items.ownedTupleIsFree
 refine wpAny_bind (wpAny_field he₂ rfl (x := .none) rfl (wpAny_pure ?_))
 rw [if_pos rfl]
 refine wpAny_bind (wpAny_field he₂ rfl (x := ok) rfl ?_)
 refine wpAny_bind (wpAny_field he₂ rfl (x := ov) rfl ?_)
 refine wpAny_bind (wpAny_setField_rec he₂ (by simp) fun h₃ he₃ hs₃ => ?_)
 replace hs₃ : Heap.SameBut it h₂ h₃ := hs₃
 replace he₃ : IsItemIter h₃ it d (i + 1) arr.size m e.key ov := he₃
 refine wpAny_bind (wpAny_setField_rec he₃ (by simp) fun h₄ he₄ hs₄ => ?_)
 replace hs₄ : Heap.SameBut it h₃ h₄ := hs₄
 replace he₄ : IsItemIter h₄ it d (i + 1) arr.size m e.key e.val := he₄
 refine wpAny_bind (wpAny_setField_rec he₄ (by simp) fun h₅ he₅ hs₅ => ?_)
 replace hs₅ : Heap.SameBut it h₄ h₅ := hs₅
 replace he₅ : IsItemIterOut h₅ it d (i + 1) arr.size m e.key e.val hp.objs.size := he₅
 refine wpAny_bind (wpAny_setField_rec he₅ (by simp) fun h₆ he₆ hs₆ => ?_)
 replace hs₆ : Heap.SameBut it h₅ h₆ := hs₆
 replace he₆ : IsItemIterOut h₆ it d (i + 1) arr.size m e.key e.val hp.objs.size := he₆
 refine wpAny_bind (wpAny_letGo (wpAny_pure (wpAny_pure ⟨_, rfl, wpAny_pure (hQ h₆ he₆ ?_ ?_ ?_)⟩)))
 ·exact hs₆.extBut _ _ (Nat.ne_of_gt hil) (hs₅.extBut _ _ (Nat.ne_of_gt hil) (hs₄.extBut _ _ (Nat.ne_of_gt hil) (hs₃.extBut _ _ (Nat.ne_of_gt hil) ht₂)))
 ·show h₆.objs.size = hp.objs.size + 1
  rw [hs₆.1, hs₅.1, hs₄.1, hs₃.1, hz₂]
 ·exact fun b o hb e => hs₆.extBut b o hb (hs₅.extBut b o hb (hs₄.extBut b o hb (hs₃.extBut b o hb (hk₂ b o hb e))))
theorem pyNext_view_end {it d : Addr} {i m : Nat} {arr : Array DictEntry} {ok ov : Value} {Q : Option Value -> Shared -> Prop} (hh : A.handled = none) (hit : IsItemIter s.heap it d i arr.size m ok ov)
  (hod : s.heap.get? d = some (dictObj arr m)) (hx : arr[i]? = none)
  (hQ : ∀ h', Heap.ExtBut it s.heap h' -> Q none { s with heap := h' }) : wpAny (model prog w) A (pyNext (.ref it)) Q E s := by
 have hT : s.TypeIs (.ref it) "dict_itemiterator" := ⟨_, hit, rfl⟩
 unfold pyNext
 refine wpAny_bind (wpAny_attempt (wpAny_callSpecial?_slot (name := Str.ofString "__next__") hT PySem.F.slot_dict_itemiterator_next
  (wpAny_call_entry PySem.F.slot_dict_itemiterator_next hT PySem.F.entry_dict_itemiterator_next ?_ (PySem.F.args_dict_itemiterator_next_1 _))))
 refine wpAny_bind (wpAny_pure ?_)
 refine wpAny_bind ?_
 refine wpAny_bind ?_
 first | refine wpAny_bind (wpAny_typeNameOfWhole_itemiter hT (wpAny_pure ?_)) | refine wpAny_bind (wpAny_typeNameOf_itemiter hT (wpAny_pure ?_))
 refine wpAny_bind (wpAny_fieldsOf hit rfl ?_)
 have hown : Builtin.Dict_items.ownsTuple "dict_itemiterator" = true := by decide
 rw [if_pos hown]
 show wpAny _ _ (if (Value.ref d == Value.none) = true then _ else _) _ _ s
 rw [if_neg (show ¬ ((Value.ref d == Value.none) = true) from Bool.false_ne_true)]
 refine wpAny_bind (wpAny_pure ?_)
 refine wpAny_bind (wpAny_dictEntries hod rfl ?_)
 rw [if_neg (by simp)]
 refine wpAny_bind (wpAny_pure ?_)
 refine wpAny_bind (wpAny_dictEpoch hod rfl ?_)
 rw [if_neg (by simp)]
 refine wpAny_pure ?_
 dsimp only
 rw [if_neg (show ¬ ((i : Int) < 0) from by lia), Int.toNat_natCast, hx]
 refine wpAny_bind ?_
 first | refine wpAny_bind (wpAny_typeNameOfWhole_itemiter hT (wpAny_pure ?_)) | refine wpAny_bind (wpAny_typeNameOf_itemiter hT (wpAny_pure ?_))
 show wpAny _ _ (setField (.ref it) 2 .none >>= _) _ _ s
 refine wpAny_bind (wpAny_setField hit rfl (by simp) ?_)
 show wpAny _ _ (newExc (.type "StopIteration") [] >>= _) _ _ _
 refine wpAny_bind ?_
 simp only [newExc, newTuple]
 refine wpAny_bind (wpAny_newObj_type ?_ (by size_fits))
 refine wpAny_bind (m := firstArgMember _ _) (wpAny_of_eq (a := Value.none) (by first | rfl | (simp only [firstArgMember]; rfl)) ?_)
 refine wpAny_newObj_type ?_ (by size_fits)
 unfold raiseNew
 refine wpAny_bind (wpAny_handled ?_)
 rw [show A.in1.handled = none from hh]
 refine wpAny_bind (wpAny_pure (wpAny_throw ?_))
 refine wpAny_bind (wpAny_isInstance (T := "StopIteration") (b := true) ⟨_, Heap.get?_push_size _ rfl, rfl⟩ isSubtype_stop ?_)
 exact wpAny_pure (hQ _ (((Heap.SameBut.update ..).extBut.push _).push _))
end
end
section
variable {Γ : Cx}
noncomputable def pairV (p : V × V) : V := .tup [p.1, p.2]
inductive JD (Γ : Cx) (it d : Addr) (arr : Array DictEntry) (m : Nat) (xs : List V) (D : Addr -> Prop) (h : Heap) : Prop
 | mk (i : Nat) (ok ov : Value) (f : Kd) (es : List (V × V)) (hi : IsItemIter h it d i arr.size m ok ov) (nd : ¬ D d) (hd : h.get? d = some (dictObj arr m)) (r : DRel Γ D h f es (arr.toList.drop i)) (ex : xs = es.map pairV) : JD Γ it d arr m xs D h
theorem Iter.items {elts : List Expr} {k : Nat} {pos : Pos} (it d : Addr) (arr : Array DictEntry) (m : Nat) (hne : d ≠ it) : Iter Γ (.Tuple elts k pos) it (· = it) (JD Γ it d arr m) where
 frame xs D D' h h' j kk dd := by
  obtain ⟨i, ok, ov, f, es, hi, nd, hd, r, ex⟩ := j
  exact ⟨i, ok, ov, f, es, kk _ _ (.inr rfl) hi, dd _ _ nd rfl hd, kk _ _ (.inl ⟨nd, rfl⟩) hd, r.mono2 (fun b o nd so e => kk b o (.inl ⟨nd, so⟩) e) dd, ex⟩
 hollow xs D h b j w := by
  obtain ⟨i, ok, ov, f, es, hi, nd, hd, r, ex⟩ := j
  subst w
  exact ⟨_, _, hi, rfl, rfl⟩
 self A s D xs R j h := by
  obtain ⟨i, ok, ov, f, es, hi, nd, hd, r, ex⟩ := j
  exact kcp_self hi h
 done A s D R hA j hR := by
  obtain ⟨i, ok, ov, f, es, hi, nd, hd, r, ex⟩ := j
  cases es with
  | cons p es => cases ex
  | nil =>
   have hx : arr[i]? = none := by
    have : (arr.toList.drop i).length = 0 := by rw [<- r.length]; rfl
    rw [List.length_drop, Array.length_toList] at this
    simp; lia
   exact pyNext_view_end hA hi hd hx fun h' he => hR h' s.toks fun b o nb e => he b o nb e
 item A s D x xs R hA j hD hR := by
  obtain ⟨i, ok, ov, f, es, hi, nd, hd, r, ex⟩ := j
  cases es with
  | nil => cases ex
  | cons p es =>
   rw [List.map_cons] at ex
   injection ex with ex1 ex2
   have hlt : i < arr.toList.length := by
    rcases Nat.lt_or_ge i arr.toList.length with h | h
    ·exact h
    ·rw [List.drop_of_length_le h] at r; cases r
   rw [List.drop_eq_getElem_cons hlt] at r
   cases r with
   | cons o hh rk rv rest =>
    have hx : arr[i]? = some arr.toList[i] := by simp at hlt; simp [hlt]
    have hfr : s.heap.get? s.heap.objs.size = none := get_size _
    refine pyNext_view hi hd hx fun h' ho hT hsz hk => hR _ _ fun R' kk => ?_
    refine wpAny_letOwnedTupleGo_items ho fun h₃ he₃ hs₃ => ?_
    have hil : it < s.heap.objs.size := Heap.lt_size hi
    have keep : ∀ b o, b ≠ it -> s.heap.get? b = some o -> h₃.get? b = some o := fun b o nb eb => (hs₃.2 b nb).trans (hk b o nb eb)
    have mono : ∀ b o, ¬ D b -> solid o = true -> s.heap.get? b = some o -> h₃.get? b = some o := fun b o nd so eb => keep b o (fun q => by subst q; rw [hi] at eb; cases eb; cases so) eb
    refine kk h₃ s.toks ?_ ⟨i + 1, _, _, f, es, he₃, nd, keep _ _ hne hd, rest.mono mono (fun _ _ n _ => n), ex2⟩ keep
    rw [ex1]
    have hT₃ := (hs₃.2 _ (Nat.ne_of_gt hil)).trans hT
    exact .at (fun q => by obtain ⟨o, eo⟩ := hD _ q; rw [hfr] at eo; cases eo) (.tup ⟨_, hT₃, rfl, 0, rfl⟩ (.cons (rk.mono mono fun _ _ n _ => n) (.cons (rv.mono mono fun _ _ n _ => n) .nil)))
section
variable {n : Nat} {sc : Scope} {ρ : Vars} {σ : Store} {elts : List Expr} {k : Nat} {tp : Pos}
noncomputable def DItemsQ (Q : List V -> Store -> Prop) : V -> Store -> Prop := fun v σ => ∃ f es, v = .dct f es /\ es.length <= 1000000 /\ Q (es.map pairV) σ
theorem AIt.items {o : Expr} {apos pos : Pos} {Q : List V -> Store -> Prop}
  (h : AEval Γ n sc ρ o σ (DItemsQ Q))
  (he : ∀ env, eval (.Call (.Attribute o (Str.ofString "items") apos) [] [] pos) env = methDo o (Str.ofString "items") apos [] pos env := by intro _; rfl) : AIt Γ n sc ρ (.Tuple elts k tp) (.Call (.Attribute o (Str.ofString "items") apos) [] [] pos) σ Q := by
 intro A s F env hs hA hR S
 refine MethodCall_ (pl := (do return (<- importBound o env).getD true)) (seq_eval (α := Unit) hs hA hR S h fun v σ₁ x s₁ r R₁ S₁ T₁ h₁ => ?_) (he env)
 obtain ⟨f, es, rfl, hz, q⟩ := h₁
 cases r with
 | «at» nd ro =>
  rename_i d
  obtain ⟨arr, m, ho, hsys, dr, ndup⟩ := ro.dct_inv
  have hT : s₁.TypeIs (.ref d) "dict" := ⟨_, ho, rfl⟩
  refine getMethod_builtin hT PySem.F.plainAttrs_dict PySem.F.slot_dict_items PySem.F.type_dict_items (fun a e => by cases e; exact ⟨_, ho, rfl⟩) ?_
  refine callWith_method0 ?_
  refine wpAny_call_entry PySem.F.slot_dict_items hT PySem.F.entry_dict_items ?_ (PySem.F.args_dict_items_1 _)
  unfold Builtin.«dict.items»
  refine wpAny_bind ?_
  unfold Builtin.Dict.noArgs
  refine wpAny_bind (wpAny_notOrdered_dict hT ?_)
  show wpAny _ _ (pure d) _ _ s₁
  refine wpAny_pure ?_
  show wpAny _ _ (Builtin.Dict.showsAll d >>= _) _ _ s₁
  unfold Builtin.Dict.showsAll
  rw [if_neg (by rw [hsys]; exact Bool.false_ne_true)]
  refine wpAny_bind (wpAny_pure ?_)
  refine wpAny_bind (wpAny_newObj_type (wpAny_pure ⟨_, rfl, ?_⟩))
  have S₂ := new_obj S₁ { cls := .type "dict_items", data := .fields #[.ref d] }
  have T₂ : Trans σ s σ₁ { s₁ with heap := s₁.heap.push { cls := .type "dict_items", data := .fields #[.ref d] } } := T₁.trans (new_trans _)
  have ho₂ : (s₁.heap.push { cls := .type "dict_items", data := .fields #[.ref d] }).get? d = some (dictObj arr m) := Heap.get?_push_of_some _ ho
  refine pyIter_view (s := { s₁ with heap := s₁.heap.push { cls := .type "dict_items", data := .fields #[.ref d] } }) ⟨_, Heap.get?_push_size _ rfl, rfl, rfl⟩ ho₂ (by rw [dict_size dr]; exact hz) ?_
  have fr := NewAt.of T₂ S₂ (get_size (s₁.heap.push { cls := .type "dict_items", data := .fields #[.ref d] }))
  have hlt : d < (s₁.heap.push { cls := .type "dict_items", data := .fields #[.ref d] }).objs.size := Heap.lt_size ho₂
  refine ⟨_, es.map pairV, σ₁, (· = (s₁.heap.push { cls := .type "dict_items", data := .fields #[.ref d] }).objs.size), JD Γ _ d arr m, rfl, new_obj S₂ _, T₂.trans (new_trans _),
   ⟨Iter.items _ d arr m (Nat.ne_of_lt hlt), fun b w => by subst w; exact fr, 0, .none, .none, f, es, Heap.get?_push_size _ rfl, nd, Heap.get?_push_of_some _ ho₂, ?_, rfl⟩, q⟩
  rw [List.drop_zero]
  exact dr.mono (fun _ _ _ _ e => Heap.get?_push_of_some _ (Heap.get?_push_of_some _ e)) fun _ _ n _ => n
end
end
section
variable {Γ : Cx}
section
variable {n : Nat} {sc : Scope} {ρ : Vars} {σ σ₁ : Store} {Q Q' : V -> Store -> Prop} {F : Addr -> Prop} {s : Shared}
theorem AOp2.addI {a b : Int} (q : Q (.int (a + b)) σ) : AOp2 Γ n (binaryOp .Add) (.int a) (.int b) σ Q := by
 intro A s F x y hA S r1 r2
 obtain ⟨t, rfl⟩ := r1.int_inv; obtain ⟨u, rfl⟩ := r2.int_inv
 exact PySem.P.add_int (post_here (.int _ _) (S.tok _) (Trans.tok _) q)
theorem AOp2.subI {a b : Int} (q : Q (.int (a - b)) σ) : AOp2 Γ n (binaryOp .Sub) (.int a) (.int b) σ Q := by
 intro A s F x y hA S r1 r2
 obtain ⟨t, rfl⟩ := r1.int_inv; obtain ⟨u, rfl⟩ := r2.int_inv
 exact PySem.P.sub_int (post_here (.int _ _) (S.tok _) (Trans.tok _) q)
theorem AOp2.mulI {a b : Int} (hm : IntMulOk a b) (q : Q (.int (a * b)) σ) : AOp2 Γ n (binaryOp .Mult) (.int a) (.int b) σ Q := by
 intro A s F x y hA S r1 r2
 obtain ⟨t, rfl⟩ := r1.int_inv; obtain ⟨u, rfl⟩ := r2.int_inv
 exact PySem.P.mul_int (post_here (.int _ _) (S.tok _) (Trans.tok _) q) hm
theorem AOp2.modI {a b : Int} (hb : b ≠ 0) (q : Q (.int (a.fmod b)) σ) : AOp2 Γ n (binaryOp .Mod) (.int a) (.int b) σ Q := by
 intro A s F x y hA S r1 r2
 obtain ⟨t, rfl⟩ := r1.int_inv; obtain ⟨u, rfl⟩ := r2.int_inv
 exact mod_int' hb (post_here (.int _ _) (S.tok _) (Trans.tok _) q)
theorem AOp2.divI {a b : Int} (hb : b ≠ 0) (hz : b.natAbs < 1073741824) (q : Q (.int (a.fdiv b)) σ) : AOp2 Γ n (binaryOp .FloorDiv) (.int a) (.int b) σ Q := by
 intro A s F x y hA S r1 r2
 obtain ⟨t, rfl⟩ := r1.int_inv; obtain ⟨u, rfl⟩ := r2.int_inv
 exact floordiv_int hb (post_here (.int _ _) (S.tok _) (Trans.tok _) q) (.inl (PyProof.noPylong_small hz))
theorem AOp2.ltI {a b : Int} (q : Q (.bool (decide (a < b))) σ) : AOp2 Γ n (compareOp .Lt) (.int a) (.int b) σ Q := by
 intro A s F x y hA S r1 r2
 obtain ⟨t, rfl⟩ := r1.int_inv; obtain ⟨u, rfl⟩ := r2.int_inv
 exact PySem.P.lt_int (post_here (.bool _) S (Trans.refl _ _) q)
theorem AOp2.gtI {a b : Int} (q : Q (.bool (decide (a > b))) σ) : AOp2 Γ n (compareOp .Gt) (.int a) (.int b) σ Q := by
 intro A s F x y hA S r1 r2
 obtain ⟨t, rfl⟩ := r1.int_inv; obtain ⟨u, rfl⟩ := r2.int_inv
 exact PySem.P.gt_int (post_here (.bool _) S (Trans.refl _ _) q)
theorem AOp2.leI {a b : Int} (q : Q (.bool (decide (a <= b))) σ) : AOp2 Γ n (compareOp .LtE) (.int a) (.int b) σ Q := by
 intro A s F x y hA S r1 r2
 obtain ⟨t, rfl⟩ := r1.int_inv; obtain ⟨u, rfl⟩ := r2.int_inv
 exact PySem.P.le_int (post_here (.bool _) S (Trans.refl _ _) q)
theorem AOp2.eqI {a b : Int} (q : Q (.bool (decide (a = b))) σ) : AOp2 Γ n (compareOp .Eq) (.int a) (.int b) σ Q := by
 intro A s F x y hA S r1 r2
 obtain ⟨t, rfl⟩ := r1.int_inv; obtain ⟨u, rfl⟩ := r2.int_inv
 exact PySem.P.eq_int (post_here (v := .bool (decide (a = b))) (.bool _) S (Trans.refl _ _) q)
theorem AOp2.neI {a b : Int} (q : Q (.bool (!decide (a = b))) σ) : AOp2 Γ n (compareOp .NotEq) (.int a) (.int b) σ Q := by
 intro A s F x y hA S r1 r2
 obtain ⟨t, rfl⟩ := r1.int_inv; obtain ⟨u, rfl⟩ := r2.int_inv
 exact PySem.P.ne_int (post_here (v := .bool (!decide (a = b))) (.bool _) S (Trans.refl _ _) q)
theorem AOp2.eqS {a b : Str} (q : Q (.bool (decide (a = b))) σ) : AOp2 Γ n (compareOp .Eq) (.str a) (.str b) σ Q := by
 intro A s F x y hA S r1 r2
 obtain ⟨t, rfl⟩ := r1.str_inv; obtain ⟨u, rfl⟩ := r2.str_inv
 have : (a == b) = decide (a = b) := by rw [Bool.eq_iff_iff]; simp
 exact PyProof.Rows.eq_str (post_here (v := .bool (decide (a = b))) (by rw [this]; exact .bool _) S (Trans.refl _ _) q)
theorem AOp2.neS {a b : Str} (q : Q (.bool (!decide (a = b))) σ) : AOp2 Γ n (compareOp .NotEq) (.str a) (.str b) σ Q := by
 intro A s F x y hA S r1 r2
 obtain ⟨t, rfl⟩ := r1.str_inv; obtain ⟨u, rfl⟩ := r2.str_inv
 have : (a != b) = !decide (a = b) := by rw [Bool.eq_iff_iff]; simp
 exact PyProof.Rows.ne_str (post_here (v := .bool (!decide (a = b))) (by rw [this]; exact .bool _) S (Trans.refl _ _) q)
theorem AOp2.isB {a b : Bool} (q : Q (.bool (a == b)) σ) : AOp2 Γ n (compareOp .Is) (.bool a) (.bool b) σ Q := by
 intro A s F x y hA S r1 r2
 obtain rfl := r1.bool_inv; obtain rfl := r2.bool_inv
 exact is_bool (post_here (.bool _) S (Trans.refl _ _) q)
theorem AOp2.isNotB {a b : Bool} (q : Q (.bool (a != b)) σ) : AOp2 Γ n (compareOp .IsNot) (.bool a) (.bool b) σ Q := by
 intro A s F x y hA S r1 r2
 obtain rfl := r1.bool_inv; obtain rfl := r2.bool_inv
 exact isnot_bool (post_here (.bool _) S (Trans.refl _ _) q)
theorem AOp2.isNoneT (q : Q (.bool true) σ) : AOp2 Γ n (compareOp .Is) .none .none σ Q := by
 intro A s F x y hA S r1 r2
 obtain rfl := r1.none_inv; obtain rfl := r2.none_inv
 exact is_none_none (post_here (.bool _) S (Trans.refl _ _) q)
theorem AOp2.isNoneF {vs : List V} (q : Q (.bool false) σ) : AOp2 Γ n (compareOp .Is) (.tup vs) .none σ Q := by
 intro A s F x y hA S r1 r2
 obtain ⟨a, arr, rfl, _⟩ := r1.tup_inv; obtain rfl := r2.none_inv
 exact is_ref_none (post_here (.bool _) S (Trans.refl _ _) q)
theorem AOp2.addS {a b : Str} (hz : a.length + b.length <= 1000000) (q : Q (.str (a ++ b)) σ) : AOp2 Γ n (binaryOp .Add) (.str a) (.str b) σ Q := by
 intro A s F x y hA S r1 r2
 obtain ⟨t, rfl⟩ := r1.str_inv; obtain ⟨u, rfl⟩ := r2.str_inv
 exact SB.add (fun t' k => post_here (.str _ _) (S.tok _) (Trans.tok _) q) (Nat.le_trans hz (by decide))
theorem AOp2.inS {a b : Str} (q : Q (.bool (!(Builtin.Str.occurrences b a 0 b.length 1).isEmpty)) σ) : AOp2 Γ n (compareOp .In) (.str a) (.str b) σ Q := by
 intro A s F x y hA S r1 r2
 obtain ⟨t, rfl⟩ := r1.str_inv; obtain ⟨u, rfl⟩ := r2.str_inv
 exact PyProof.Rows.in_str (post_here (.bool _) S (Trans.refl _ _) q)
theorem AOp2.addT {vs us : List V} (hz : vs.length + us.length <= 1000000) (q : Q (.tup (vs ++ us)) σ) : AOp2 Γ n (binaryOp .Add) (.tup vs) (.tup us) σ Q := by
 intro A s F x y hA S r1 r2
 obtain ⟨a, arr, rfl, nd, ht, rv⟩ := id r1.tup_inv
 obtain ⟨b, brr, rfl, nd2, ht2, rv2⟩ := id r2.tup_inv
 have z1 := vs_size rv
 have z2 := vs_size rv2
 obtain ⟨⟨cls, dd, data, sl⟩, ho, hc, m, hd⟩ := id ht
 obtain ⟨⟨cls2, dd2, data2, sl2⟩, ho2, hc2, m2, hd2⟩ := id ht2
 simp only at hc hd hc2 hd2
 subst hc hd hc2 hd2
 have hsl : (1000000 : Nat) <= sizeLine := by decide
 by_cases hv : arr.isEmpty = true
 ·have hvs : vs = [] := by cases vs with | nil => rfl | cons _ _ => simp at hv; subst hv; simp at z1
  subst hvs
  exact concat_meets ⟨_, ho, rfl⟩ ⟨_, ho2, rfl⟩ noFill_tuple_add seq_tuple_add PySem.F.slot_tuple_add PySem.F.entry_tuple_add (PySem.F.args_tuple_add_2 _ _)
   (tuple_addW0 a b arr brr m m2 dd dd2 sl sl2 hv) ⟨ho, ho2, post_here (v := .tup us) r2 S (Trans.refl _ _) q⟩
 ·by_cases hw : brr.isEmpty = true
  ·have hvs : us = [] := by cases us with | nil => rfl | cons _ _ => simp at hw; subst hw; simp at z2
   subst hvs
   rw [List.append_nil] at q
   exact concat_meets ⟨_, ho, rfl⟩ ⟨_, ho2, rfl⟩ noFill_tuple_add seq_tuple_add PySem.F.slot_tuple_add PySem.F.entry_tuple_add (PySem.F.args_tuple_add_2 _ _)
    (tuple_addW1 a b arr brr m m2 dd dd2 sl sl2 hv hw) ⟨ho, ho2, post_here (v := .tup vs) r1 S (Trans.refl _ _) q⟩
  ·refine concat_meets ⟨_, ho, rfl⟩ ⟨_, ho2, rfl⟩ noFill_tuple_add seq_tuple_add PySem.F.slot_tuple_add PySem.F.entry_tuple_add (PySem.F.args_tuple_add_2 _ _)
    (tuple_addW2 a b arr brr m m2 dd dd2 sl sl2 hv hw (by lia)) ⟨ho, ho2, ?_⟩
   refine ⟨.tup (vs ++ us), σ, ?_, new_obj S _, new_trans _, q⟩
   have := frozen_seq S (vs := vs ++ us) (xs := arr.toList ++ brr.toList) (rv.append rv2) "tuple" (.inl rfl)
   rw [<- Array.toList_append, Array.toArray_toList] at this
   exact this
theorem add_lists {A : Around} {o p : V} {x y : Value} {vs us : List V} {R : Value -> Shared -> Prop} (S : St Γ F σ s) (d1 : Den σ o (.lst vs)) (d2 : Den σ p (.lst us)) (r1 : VRel Γ (DD σ F) s.heap o x) (r2 : VRel Γ (DD σ F) s.heap p y) (hz : vs.length + us.length <= 1000000)
  (h : ∀ zs, VsRel Γ (DD σ F) s.heap (vs ++ us) zs -> R (.ref s.heap.objs.size) { s with heap := s.heap.push (seqObj "list" zs.toArray 0) }) : wpAny (Md Γ) A (binaryOp .Add x y) R NoE s := by
 obtain ⟨a, rfl, ro1⟩ := d1.at S r1
 obtain ⟨b, rfl, ro2⟩ := d2.at S r2
 obtain ⟨arr, m, ho, rs⟩ := ro1.lst_inv
 obtain ⟨brr, m2, ho2, rs2⟩ := ro2.lst_inv
 have z1 := vs_size rs
 have z2 := vs_size rs2
 have hsl : (1000000 : Nat) <= sizeLine := by decide
 refine PySem.P.add_list (items := arr) (items2 := brr) (n := m) (n2 := m2) ho ho2 ?_ (by lia)
 have := h (arr.toList ++ brr.toList) (rs.append rs2)
 rw [<- Array.toList_append, Array.toArray_toList] at this
 exact this
theorem AOp2.addLF {o p : V} {vs us : List V} (d1 : Den σ o (.lst vs)) (d2 : Den σ p (.lst us)) (hz : vs.length + us.length <= 1000000) (q : Q (.lst (vs ++ us)) σ) : AOp2 Γ n (binaryOp .Add) o p σ Q := by
 intro A s F x y hA S r1 r2
 exact add_lists S d1 d2 r1 r2 hz fun zs rz => ⟨.lst (vs ++ us), σ, frozen_seq S rz "list" (.inr rfl), new_obj S _, new_trans _, q⟩
theorem AOp2.addL {o p : V} {vs us : List V} (d1 : Den σ o (.lst vs)) (d2 : Den σ p (.lst us)) (hz : vs.length + us.length <= 1000000) (q : ∀ a, σ a = none -> Q (.ref a) (put σ a (.lst (vs ++ us)))) : AOp2 Γ n (binaryOp .Add) o p σ Q := by
 intro A s F x y hA S r1 r2
 exact add_lists S d1 d2 r1 r2 hz fun zs rz => ⟨.ref _, _, .ref _, put_seq S rz, put_trans _, q _ (fresh_none S)⟩
noncomputable def LinkBQ (Γ : Cx) (n : Nat) (sc : Scope) (ρ : Vars) (r' : Expr) (op' : CmpOp) (b : V) (Q : Bool -> Store -> Prop) : Bool -> Store -> Prop
 | true, σ => AEval Γ n sc ρ r' σ (Op2Q Γ n (compareOp op') b (BoolQ Q))
 | false, σ => Q false σ
noncomputable def LinkRQ (Γ : Cx) (n : Nat) (sc : Scope) (ρ : Vars) (r' : Expr) (op op' : CmpOp) (a : V) (Q : Bool -> Store -> Prop) : V -> Store -> Prop := fun b σ => AOp2 Γ n (compareOp op) a b σ (BoolQ (LinkBQ Γ n sc ρ r' op' b Q))
noncomputable def LinkQ (Γ : Cx) (n : Nat) (sc : Scope) (ρ : Vars) (r r' : Expr) (op op' : CmpOp) (Q : Bool -> Store -> Prop) : V -> Store -> Prop := fun a σ => AEval Γ n sc ρ r σ (LinkRQ Γ n sc ρ r' op op' a Q)
theorem ATest.chain2 {l r r' : Expr} {op op' : CmpOp} {pos : Pos} {Q : Bool -> Store -> Prop}
  (h : AEval Γ n sc ρ l σ (LinkQ Γ n sc ρ r r' op op' Q))
  (hm : lastMarks (op :: op' :: []) (r :: r' :: []) = false := by with_unfolding_all rfl) : ATest Γ n sc ρ (.Compare l [op, op'] [r, r'] pos) σ Q := by
 intro A s F env he hA hR S
 refine isTrue_chain (seq_eval (α := Unit) he hA hR S h fun a σ₁ x s₁ ra R₁ S₁ T₁ h₁ => ?_) hm
 refine test_link (seq_eval (α := Unit) he hA R₁ S₁ h₁ fun b σ₂ y s₂ rb R₂ S₂ T₂ h₂ => ?_)
 refine wpAny_mono (h₂ A s₂ F x y hA S₂ (ra.trans T₂) rb) (fun val s₃ p => ?_) fun _ _ e => e
 obtain ⟨v, σ₃, r3, S₃, T₃, q⟩ := p
 obtain ⟨c, rfl⟩ := BoolQ.inv q
 obtain rfl := r3.bool_inv
 refine wpAny_truthy_bool ?_
 have T := (T₁.trans T₂).trans T₃
 cases c with
 | false => exact ⟨σ₃, S₃, T, q⟩
 | true =>
  refine test_last (seq_eval (α := Unit) he hA (R₂.trans T₃) S₃ q fun b' σ₄ y' s₄ rb' R₄ S₄ T₄ h₄ => ?_)
  refine wpAny_mono (h₄ A s₄ F y y' hA S₄ ((rb.trans T₃).trans T₄) rb') (fun val s₅ p => ?_) fun _ _ e => e
  obtain ⟨v, σ₅, r5, S₅, T₅, q⟩ := p
  obtain ⟨c, rfl⟩ := BoolQ.inv q
  obtain rfl := r5.bool_inv
  exact wpAny_truthy_bool ⟨σ₅, S₅, (T.trans T₄).trans T₅, q⟩
end
end
end Mine
namespace Mine
open PySem PySem.W PyProof.Rows PySem.Calls PySem.SeqAt
variable {Γ : Cx}
noncomputable def cmpOk : Nat -> V -> V -> Prop
 | _, .int _, .int _ => True
 | _, .str _, .str _ => True
 | n + 1, .tup vs, .tup us => ∀ (j : Nat) (a b : V), vs[j]? = some a -> us[j]? = some b -> cmpOk n a b
 | _, _, _ => False
section
variable {D : Addr -> Prop} {s : Shared}
theorem all_range {m : Nat} {e : Nat -> Bool} : ((List.range m).all e = true) ↔ ∀ j, j < m -> e j = true := by simp
theorem cmp_cases {n : Nat} {v u : V} (c : cmpOk n v u) : (∃ i j, v = .int i /\ u = .int j) \/ (∃ i j, v = .str i /\ u = .str j) \/ ∃ m vs us, n = m + 1 /\ v = .tup vs /\ u = .tup us /\ ∀ (j : Nat) (a b : V), vs[j]? = some a -> us[j]? = some b -> cmpOk m a b := by
 cases n <;> cases v <;> first | exact c.elim | (cases u <;> first | exact c.elim | exact .inl ⟨_, _, rfl, rfl⟩ | exact .inr (.inl ⟨_, _, rfl, rfl⟩) | exact .inr (.inr ⟨_, _, _, rfl, rfl, rfl, c⟩))
theorem cmp_inj : ∀ {n : Nat} {v u : V} {x : Value} {h : Heap}, cmpOk n v u -> VRel Γ D h v x -> VRel Γ D h u x -> v = u := by
 intro n
 induction n using Nat.strongRecOn with
 | ind n ih =>
  intro v u x h c r1 r2
  rcases cmp_cases c with ⟨i, j, rfl, rfl⟩ | ⟨i, j, rfl, rfl⟩ | ⟨n, vs, us, rfl, rfl, rfl, c⟩
  ·obtain ⟨t, rfl⟩ := r1.int_inv; obtain ⟨t', e⟩ := r2.int_inv; injection e with e _; rw [e]
  ·obtain ⟨t, rfl⟩ := r1.str_inv; obtain ⟨t', e⟩ := r2.str_inv; injection e with e _; rw [e]
  ·obtain ⟨a, arr, rfl, nd, ht, rv⟩ := r1.tup_inv
   obtain ⟨b, brr, e, nd2, ht2, rv2⟩ := r2.tup_inv
   injection e with e
   subst e
   obtain rfl := IsTuple_same ht ht2
   have z1 := vs_size rv
   have z2 := vs_size rv2
   congr 1
   apply List.ext_getElem?
   intro j
   by_cases hj : j < vs.length
   ·have hj2 : j < us.length := by lia
    have hc := c j vs[j] us[j] (List.getElem?_eq_getElem hj) (List.getElem?_eq_getElem hj2)
    obtain ⟨z, hz, rz⟩ := vs_get rv (List.getElem?_eq_getElem hj)
    obtain ⟨z', hz', rz'⟩ := vs_get rv2 (List.getElem?_eq_getElem hj2)
    rw [hz] at hz'; cases hz'
    rw [List.getElem?_eq_getElem hj, List.getElem?_eq_getElem hj2, ih n (Nat.lt_succ_self n) hc rz rz']
   ·rw [List.getElem?_eq_none (by lia), List.getElem?_eq_none (by lia)]
theorem eqV_int (i j : Int) : eqV (.int i) (.int j) = decide (i = j) := by
 by_cases e : i = j
 ·rw [e, eqV_self]; simp
 ·rw [eqV_ne (fun q => by injection q with q; exact e q)]; simp [e]
theorem eqV_str (i j : Str) : eqV (.str i) (.str j) = decide (i = j) := by
 by_cases e : i = j
 ·rw [e, eqV_self]; simp
 ·rw [eqV_ne (fun q => by injection q with q; exact e q)]; simp [e]
theorem eqAt_V : ∀ {n : Nat} {A : Around} {v u : V} {x y : Value}, cmpOk n v u -> A.units + n < cLine -> VRel Γ D s.heap v x -> VRel Γ D s.heap u y -> EqAt A s x y (eqV v u) := by
 intro n
 induction n using Nat.strongRecOn with
 | ind n ih =>
  intro A v u x y c hA r1 r2
  rcases cmp_cases c with ⟨i, j, rfl, rfl⟩ | ⟨i, j, rfl, rfl⟩ | ⟨n, vs, us, rfl, rfl, rfl, c⟩
  ·obtain ⟨t, rfl⟩ := r1.int_inv; obtain ⟨t', rfl⟩ := r2.int_inv
   rw [eqV_int]
   exact fun prog w E Q h => wpAny_eqBool_int h
  ·obtain ⟨t, rfl⟩ := r1.str_inv; obtain ⟨t', rfl⟩ := r2.str_inv
   rw [eqV_str]
   exact fun prog w E Q h => wpAny_eqBool_str h
  obtain ⟨a, arr, rfl, nd, ht, rv⟩ := r1.tup_inv
  obtain ⟨b, brr, rfl, nd2, ht2, rv2⟩ := r2.tup_inv
  have z1 := vs_size rv
  have z2 := vs_size rv2
  by_cases hab : a = b
  ·subst hab
   have := cmp_inj (n := n + 1) (v := .tup vs) (u := .tup us) c r1 r2
   rw [this, eqV_self]
   exact EqAt.same _
  ·refine EqAt.of_refs hab ?_
   have hA1 : A.in1.units + n < cLine := by show A.units + 1 + n < cLine; lia
   have key := RcAt.tuples (A := A) (s := s) (e := fun j => match vs[j]?, us[j]? with | some a, some b => eqV a b | _, _ => true) ht ht2 (show A.units < cLine by lia) fun j h1 h2 => ?_
   ·have : eqV (.tup vs) (.tup us) = ((List.range (min arr.size brr.size)).all (fun j => match vs[j]?, us[j]? with | some a, some b => eqV a b | _, _ => true) && arr.size == brr.size) := by
     rw [z1, z2]
     by_cases e : vs = us
     ·subst e
      rw [eqV_self]
      symm
      rw [Bool.and_eq_true]
      refine ⟨all_range.mpr fun j hj => ?_, by simp⟩
      cases vs[j]? with
      | none => rfl
      | some a => exact eqV_self a
     ·rw [eqV_ne (fun q => by injection q with q; exact e q)]
      symm
      rw [Bool.and_eq_false_iff]
      by_cases hl : vs.length = us.length
      ·left
       rw [<- Bool.not_eq_true, all_range]
       intro hall
       apply e
       apply List.ext_getElem?
       intro j
       by_cases hj : j < vs.length
       ·have := hall j (by lia)
        rw [List.getElem?_eq_getElem hj, List.getElem?_eq_getElem (show j < us.length by lia)] at this ⊢
        rw [eqV_iff.mp this]
       ·rw [List.getElem?_eq_none (by lia), List.getElem?_eq_none (by lia)]
      ·right; simp [hl]
    rw [this]
    exact key
   ·have hj1 : j < vs.length := by lia
    have hj2 : j < us.length := by lia
    obtain ⟨z, hz, rz⟩ := vs_get rv (List.getElem?_eq_getElem hj1)
    obtain ⟨z', hz', rz'⟩ := vs_get rv2 (List.getElem?_eq_getElem hj2)
    have hc := c j vs[j] us[j] (List.getElem?_eq_getElem hj1) (List.getElem?_eq_getElem hj2)
    have e := ih n (Nat.lt_succ_self n) (A := A.in1) hc hA1 rz rz'
    rw [List.getElem?_eq_getElem hj1, List.getElem?_eq_getElem hj2]
    have e1 : arr[j] = z := by rw [Array.getElem?_eq_getElem h1] at hz; cases hz; rfl
    have e2 : brr[j] = z' := by rw [Array.getElem?_eq_getElem h2] at hz'; cases hz'; rfl
    rw [e1, e2]; exact e
end
section
variable {n : Nat} {sc : Scope} {ρ : Vars} {σ σ₁ : Store} {Q Q' : V -> Store -> Prop} {F : Addr -> Prop} {s : Shared}
theorem Room.cmp {n : Nat} {A : Around} (r : Room n A) : A.in1.units + 20 < cLine := r.in20
theorem lists_eq {D : Addr -> Prop} {A : Around} {vs us : List V} {arr brr : Array Value} (hA : Room n A) (rv : VsRel Γ D s.heap vs arr.toList) (rv2 : VsRel Γ D s.heap us brr.toList)
  (hc : ∀ (j : Nat) (a b : V), vs[j]? = some a -> us[j]? = some b -> cmpOk 20 a b) (hl : vs.length = us.length) :
  ∃ e : Nat -> Bool, (∀ j (h1 : j < arr.size) (h2 : j < brr.size), EqAt A.in1 s arr[j] brr[j] (e j)) /\ ((List.range arr.size).all e = true ↔ vs = us) := by
 have z1 := vs_size rv
 have z2 := vs_size rv2
 refine ⟨fun j => match vs[j]?, us[j]? with | some a, some b => eqV a b | _, _ => true, fun j h1 h2 => ?_, ?_⟩
 ·have hj1 : j < vs.length := by lia
  have hj2 : j < us.length := by lia
  obtain ⟨z, hz, rz⟩ := vs_get rv (List.getElem?_eq_getElem hj1)
  obtain ⟨z', hz', rz'⟩ := vs_get rv2 (List.getElem?_eq_getElem hj2)
  have e := eqAt_V (A := A.in1) (hc j vs[j] us[j] (List.getElem?_eq_getElem hj1) (List.getElem?_eq_getElem hj2)) hA.cmp rz rz'
  dsimp only
  rw [List.getElem?_eq_getElem hj1, List.getElem?_eq_getElem hj2]
  have e1 : arr[j] = z := by rw [Array.getElem?_eq_getElem h1] at hz; cases hz; rfl
  have e2 : brr[j] = z' := by rw [Array.getElem?_eq_getElem h2] at hz'; cases hz'; rfl
  rw [e1, e2]; exact e
 ·rw [all_range]
  constructor
  ·intro hall
   apply List.ext_getElem?
   intro j
   by_cases hj : j < vs.length
   ·have := hall j (by lia)
    rw [List.getElem?_eq_getElem hj, List.getElem?_eq_getElem (show j < us.length by lia)] at this ⊢
    rw [eqV_iff.mp this]
   ·rw [List.getElem?_eq_none (by lia), List.getElem?_eq_none (by lia)]
  ·rintro rfl j _
   cases vs[j]? with
   | none => rfl
   | some a => exact eqV_self a
theorem AOp2.eqL {o p : V} {vs us : List V} (d1 : Den σ o (.lst vs)) (d2 : Den σ p (.lst us)) (hc : ∀ (j : Nat) (a b : V), vs[j]? = some a -> us[j]? = some b -> cmpOk 20 a b)
  (q : ∀ b : Bool, (b = true ↔ vs = us) -> Q (.bool b) σ) : AOp2 Γ n (compareOp .Eq) o p σ Q := by
 intro A s F x y hA S r1 r2
 obtain ⟨a, rfl, ro1⟩ := d1.at S r1
 obtain ⟨b, rfl, ro2⟩ := d2.at S r2
 obtain ⟨arr, m, ho, hl1, rs⟩ := ro1.lst_is
 obtain ⟨brr, m2, ho2, hl2, rs2⟩ := ro2.lst_is
 have z1 := vs_size rs
 have z2 := vs_size rs2
 by_cases hl : vs.length = us.length
 ·obtain ⟨e, he, hiff⟩ := lists_eq hA rs rs2 hc hl
  exact eq_listAt hl1 hl2 (by lia) hA.units he (post_here (.bool _) S (Trans.refl _ _) (q _ hiff))
 ·refine eq_list_lengthsAt hl1 hl2 (by simp; lia) hA.units (post_here (.bool _) S (Trans.refl _ _) (q false ⟨(fun e => nomatch e), (fun e => absurd (congrArg List.length e) hl)⟩))
theorem AOp2.neL {o p : V} {vs us : List V} (d1 : Den σ o (.lst vs)) (d2 : Den σ p (.lst us)) (hc : ∀ (j : Nat) (a b : V), vs[j]? = some a -> us[j]? = some b -> cmpOk 20 a b)
  (q : ∀ b : Bool, (b = true ↔ ¬ vs = us) -> Q (.bool b) σ) : AOp2 Γ n (compareOp .NotEq) o p σ Q := by
 intro A s F x y hA S r1 r2
 obtain ⟨a, rfl, ro1⟩ := d1.at S r1
 obtain ⟨b, rfl, ro2⟩ := d2.at S r2
 obtain ⟨arr, m, ho, hl1, rs⟩ := ro1.lst_is
 obtain ⟨brr, m2, ho2, hl2, rs2⟩ := ro2.lst_is
 have z1 := vs_size rs
 have z2 := vs_size rs2
 by_cases hl : vs.length = us.length
 ·obtain ⟨e, he, hiff⟩ := lists_eq hA rs rs2 hc hl
  refine RcNeAt.lists hl1 hl2 (by lia) hA.units he _ _ _ _ (post_here (.bool _) S (Trans.refl _ _) (q _ ?_))
  rw [<- hiff]; simp
 ·exact RcNeAt.lists_lengths hl1 hl2 (by simp; lia) hA.units _ _ _ _ (post_here (.bool _) S (Trans.refl _ _) (q true ⟨fun _ e => hl (by rw [e]), fun _ => rfl⟩))
theorem list_mem {D : Addr -> Prop} {A : Around} {vs : List V} {arr : Array Value} {v : V} {x : Value} (hA : Room n A) (rv : VsRel Γ D s.heap vs arr.toList) (rx : VRel Γ D s.heap v x) (hc : ∀ u ∈ vs, cmpOk 20 u v) :
  ∃ e : Value -> Bool, (∀ y, y ∈ arr -> EqAt A.in1 s y x (e y)) /\ (arr.any e = true ↔ v ∈ vs) := by
 have back : ∀ y, y ∈ arr.toList -> ∃ u ∈ vs, VRel Γ D s.heap u y := by
  intro y hy
  obtain ⟨j, hj⟩ := List.mem_iff_getElem?.mp hy
  have hlt : j < vs.length := by rw [rv.length]; exact (List.getElem?_eq_some_iff.mp hj).1
  obtain ⟨z, hz, rz⟩ := rv.get (List.getElem?_eq_getElem hlt)
  rw [hj] at hz; cases hz
  exact ⟨_, List.getElem_mem hlt, rz⟩
 refine ⟨fun y => @decide (VRel Γ D s.heap v y) (Classical.propDecidable _), fun y hy => ?_, ?_⟩
 ·obtain ⟨u, hu, ru⟩ := back y (Array.mem_toList_iff.mpr hy)
  have e := eqAt_V (A := A.in1) (hc u hu) hA.cmp ru rx
  have : eqV u v = @decide (VRel Γ D s.heap v y) (Classical.propDecidable _) := by
   by_cases q : u = v
   ·subst q
    rw [eqV_self]; exact (@decide_eq_true _ (Classical.propDecidable _) ru).symm
   ·rw [eqV_ne q]
    exact (@decide_eq_false _ (Classical.propDecidable _) fun r => q (cmp_inj (hc u hu) ru r)).symm
  dsimp only
  rw [<- this]; exact e
 ·rw [Array.any_eq_true]
  constructor
  ·rintro ⟨i, hi, he⟩
   have r := @of_decide_eq_true _ (Classical.propDecidable _) he
   obtain ⟨u, hu, ru⟩ := back arr[i] (by simp)
   rw [<- cmp_inj (hc u hu) ru r]; exact hu
  ·intro hm
   obtain ⟨j, hj⟩ := List.mem_iff_getElem?.mp hm
   obtain ⟨z, hz, rz⟩ := vs_get rv hj
   obtain ⟨hlt, e⟩ := Array.getElem?_eq_some_iff.mp hz
   exact ⟨j, hlt, @decide_eq_true _ (Classical.propDecidable _) (by rw [e]; exact rz)⟩
theorem AOp2.inL {o v : V} {vs : List V} (d1 : Den σ o (.lst vs)) (hc : ∀ u ∈ vs, cmpOk 20 u v) (q : ∀ b : Bool, (b = true ↔ v ∈ vs) -> Q (.bool b) σ) : AOp2 Γ n (compareOp .In) v o σ Q := by
 intro A s F x y hA S r1 r2
 obtain ⟨a, rfl, ro⟩ := d1.at S r2
 obtain ⟨arr, m, ho, hl, rs⟩ := ro.lst_is
 obtain ⟨e, he, hiff⟩ := list_mem hA rs r1 hc
 exact in_listAt e hl he (post_here (.bool _) S (Trans.refl _ _) (q _ hiff))
theorem AOp2.notInL {o v : V} {vs : List V} (d1 : Den σ o (.lst vs)) (hc : ∀ u ∈ vs, cmpOk 20 u v) (q : ∀ b : Bool, (b = true ↔ v ∉ vs) -> Q (.bool b) σ) : AOp2 Γ n (compareOp .NotIn) v o σ Q := by
 intro A s F x y hA S r1 r2
 obtain ⟨a, rfl, ro⟩ := d1.at S r2
 obtain ⟨arr, m, ho, hl, rs⟩ := ro.lst_is
 obtain ⟨e, he, hiff⟩ := list_mem hA rs r1 hc
 refine notIn_listAt e hl he (post_here (.bool _) S (Trans.refl _ _) (q _ ?_))
 rw [<- hiff]; simp
end
end Mine
namespace Mine
open PySem PySem.W PyProof.Rows PySem.Calls
section
variable {Γ : Cx}
section
variable {n : Nat} {sc : Scope} {ρ : Vars} {σ σ₁ : Store} {Q Q' : V -> Store -> Prop} {F : Addr -> Prop} {s : Shared}
theorem ints_of {D : Addr -> Prop} {h : Heap} {is : List Int} : ∀ {xs : List Value}, VsRel Γ D h (is.map .int) xs -> IntsAre xs is := by
 induction is with
 | nil => intro xs r; obtain rfl := r.nil_inv; exact .nil
 | cons i is ih => intro xs r; obtain ⟨y, ys, rfl, a, r'⟩ := r.cons_inv; obtain ⟨t, rfl⟩ := a.int_inv; exact .cons _ _ (ih r')
theorem of_ints {D : Addr -> Prop} {h : Heap} {is : List Int} {xs : List Value} (x : IntsAre xs is) : VsRel Γ D h (is.map .int) xs := by
 induction x with
 | nil => exact .nil
 | cons _ _ _ ih => exact .cons (.int _ _) ih
theorem ACall.sumI {o : V} {is : List Int} (dn : Den σ o (.lst (is.map .int))) (q : ∀ i, Q (.int i) σ) : ACall Γ n (.blt "sum") [o] σ Q := by
 intro A s F fv vals hA S rf rv
 obtain rfl := rf.blt_inv
 obtain ⟨x, rfl, rd⟩ := rv.one_inv
 obtain ⟨a, rfl, ro⟩ := dn.at S rd
 obtain ⟨arr, m, ho, hl, rs⟩ := ro.lst_is
 obtain ⟨xs, e⟩ := (ints_of rs).allInts.items
 rw [show (List.toArray arr.toList) = arr by simp] at e
 rw [e] at hl
 refine sum_intListG hA.1 hl fun h' tk t' hk => ?_
 obtain ⟨S', T'⟩ := S.keepAll (tk := tk) hk
 exact ⟨.int _, σ, .int _ _, S', T', q _⟩
theorem ACall.maxI {o : V} {is : List Int} (dn : Den σ o (.lst (is.map .int))) (hne : 0 < is.length) (q : ∀ i, Q (.int i) σ) : ACall Γ n (.blt "max") [o] σ Q := by
 intro A s F fv vals hA S rf rv
 obtain rfl := rf.blt_inv
 obtain ⟨x, rfl, rd⟩ := rv.one_inv
 obtain ⟨a, rfl, ro⟩ := dn.at S rd
 obtain ⟨arr, m, ho, hl, rs⟩ := ro.lst_is
 have z := vs_size rs
 obtain ⟨xs, e⟩ := (ints_of rs).allInts.items
 rw [show (List.toArray arr.toList) = arr by simp] at e
 rw [e] at hl
 have hsz : 0 < xs.size := by
  rw [e] at z
  rw [List.length_map] at z
  have : (intItems xs).size = xs.size := by simp [intItems]
  lia
 refine max_intList hA.1 hl hsz fun v h' tk hv hk => ?_
 obtain ⟨t, rfl⟩ := intItems_at hv
 obtain ⟨S', T'⟩ := S.keepAll (tk := tk) hk
 exact ⟨.int _, σ, .int _ _, S', T', q _⟩
theorem ACall.sortedI {o : V} {is : List Int} (dn : Den σ o (.lst (is.map .int))) (h64 : is.length < 64) (q : ∀ js : List Int, js.Perm is -> js.Pairwise (· <= ·) -> Q (.lst (js.map .int)) σ) : ACall Γ n (.blt "sorted") [o] σ Q := by
 intro A s F fv vals hA S rf rv
 obtain rfl := rf.blt_inv
 obtain ⟨x, rfl, rd⟩ := rv.one_inv
 obtain ⟨a, rfl, ro⟩ := dn.at S rd
 obtain ⟨arr, m, ho, hl, rs⟩ := ro.lst_is
 have hI := ints_of rs
 refine sorted_ints (vs := arr.toList) (by simpa using hl) hI (by rw [hI.length]; exact h64) fun out ns' a1 a2 a3 => ?_
 obtain ⟨e, he⟩ := sortedAll_at s.heap arr.toList out
 obtain ⟨S', T'⟩ := S.keepAll (h' := sortedAll s.heap arr.toList out) (tk := s.toks) fun _ _ => sortedAll_old
 refine ⟨.lst (ns'.map .int), σ, .at (fun w => ?_) (.lst he (of_ints (by simpa using a1))), S', T', q ns' a2 a3⟩
 rcases w with w | w
 ·cases q' : σ (s.heap.objs.size + 1) with
  | none => exact w q'
  | some v => obtain ⟨o, e⟩ := (S.rep _ _ q').ex; exact absurd (Heap.lt_size e) (Nat.not_lt.mpr (Nat.le_succ _))
 ·obtain ⟨o, e⟩ := S.fin _ w; exact absurd (Heap.lt_size e) (Nat.not_lt.mpr (Nat.le_succ _))
theorem ACall.strI {a : Int} (ha : a.natAbs.log2 < 1920) (q : Q (.str (toString a)) σ) : ACall Γ n (.typ "str") [.int a] σ Q := by
 intro A s F fv vals hA S rf rv
 obtain rfl := rf.typ_inv
 obtain ⟨x, rfl, rd⟩ := rv.one_inv
 obtain ⟨t, rfl⟩ := rd.int_inv
 exact PySem.P.str_of_int ha (post_here (.str _ _) (S.tok _) (Trans.tok _) q)
theorem ACall.isspace {x : Str} (q : Q (.bool (Txt.isspace x)) σ) : ACall Γ n (.blt "str.isspace") [.str x] σ Q := by
 intro A s F fv vals hA S rf rv
 obtain rfl := rf.blt_inv
 obtain ⟨y, rfl, rd⟩ := rv.one_inv
 obtain ⟨t, rfl⟩ := rd.str_inv
 exact SC.isspace (post_here (.bool _) S (Trans.refl _ _) q)
theorem ACall.listL {o : V} {vs : List V} (dn : Den σ o (.lst vs)) (hz : vs.length <= 1000000) (q : Q (.lst vs) σ) : ACall Γ n (.typ "list") [o] σ Q := by
 intro A s F fv vals hA S rf rv
 obtain rfl := rf.typ_inv
 obtain ⟨x, rfl, rd⟩ := rv.one_inv
 obtain ⟨a, rfl, ro⟩ := dn.at S rd
 obtain ⟨arr, m, ho, hl, rs⟩ := ro.lst_is
 refine call_list_seq (hsz := by rw [vs_size rs]; exact Nat.le_trans hz (by decide)) a (.inl rfl) ho rfl rfl fun h' c' hk hD => ?_
 obtain ⟨S', T'⟩ := S.keepAll (h' := h') (tk := s.toks) hk
 refine ⟨.lst vs, σ, .at (fresh_dd S) (.lst hD (rs.trans T')), S', T', q⟩
theorem AEval.dict0 {pos : Pos} {f : Kd} (q : ∀ a, σ a = none -> Q (.ref a) (put σ a (.dct f []))) : AEval Γ n sc ρ (.Dict [] [] pos) σ Q := by
 intro A s F env hs hA hR S
 refine wpAny_Dict_empty ?_
 have hd0 : s.heap.get? s.heap.objs.size = none := get_size _
 have hsys : (s.heap.objs.size == sysModules) = false := by
  obtain ⟨o, ho⟩ := Option.isSome_iff_exists.mp Γ.sysm
  have : s.heap.objs.size ≠ sysModules := fun e => by have := S.base _ _ ho; rw [<- e] at this; rw [hd0] at this; cases this
  simpa using this
 have S1 := S.alloc (s' := { s with heap := s.heap.push { cls := .type "dict", data := .dict #[] } }) (v := .dct f []) hd0 (fun b o e => Heap.get?_push_of_some _ e) (.dct (Heap.get?_push_size _ rfl) hsys .nil List.nodup_nil) rfl rfl
 exact ⟨.ref _, _, .ref _, S1, put_trans _, q _ (fresh_none S)⟩
theorem dd_adopt {a b : Addr} {v : V} : DD (put σ a v) F b ↔ DD σ (prot F a) b := by
 unfold DD put prot
 by_cases e : b = a
 ·subst e; simp
 ·simp [e]
theorem St.adopt {a : Addr} {v : V} (x : St Γ (Mine.prot F a) σ s) (h0 : Γ.h₀.get? a = none) (nf : ¬ F a) (r : ORel Γ (DD σ (Mine.prot F a)) s.heap v a) : St Γ F (put σ a v) s where
 base := x.base
 rep b u e := by
  have mono : ∀ {u : V} {b : Addr}, ORel Γ (DD σ (Mine.prot F a)) s.heap u b -> ORel Γ (DD (put σ a v) F) s.heap u b := fun r => r.mono (fun _ _ _ _ e => e) (fun _ _ n _ q => n (dd_adopt.mp q)) fun _ e => e
  by_cases q : b = a
  ·subst q; rw [put_self] at e; cases e; exact mono r
  ·rw [put_ne _ _ q] at e; exact mono (x.rep b u e)
 new b e := by
  by_cases q : b = a
  ·subst q; exact h0
  ·rw [put_ne _ _ q] at e; exact x.new b e
 fin b f := x.fin b (.inl f)
 off b f := by
  rw [put_ne _ _ (fun q => by subst q; exact nf f)]; exact x.off b (.inl f)
 low b f := x.low b (.inl f)
 gens := x.gens
 os := x.os
theorem VRel.adopt {a : Addr} {v u : V} {x : Value} {h : Heap} (r : VRel Γ (DD σ (Mine.prot F a)) h u x) : VRel Γ (DD (Mine.put σ a v) F) h u x := r.mono (fun _ _ _ _ e => e) fun _ _ n _ q => n (dd_adopt.mp q)
theorem AEval.dict1 {k v : Expr} {pos : Pos} (h : AEval Γ n sc ρ k σ fun kv σ₁ => AEval Γ n sc ρ v σ₁ fun vv σ₂ => ∃ i, kv = .int i /\ ∀ a, σ₂ a = none -> Q (.ref a) (put σ₂ a (.dct .I (dput (.int i) vv []))))
  (hsh : ∀ env, (evalEachOpt [some k] env).zip ((evalEach [v] env).map fun v => do let x <- v; standAt pos; pure x) = [((some (eval k env)), (do let x <- eval v env; standAt pos; pure x))] := by intro _; rfl) :
  AEval Γ n sc ρ (.Dict [some k] [v] pos) σ Q := by
 intro A s F env hs hA hR S
 rw [arm_eval_Dict, hsh env, show [((some (eval k env) : Option (Sem Value)), (do let x <- eval v env; standAt pos; pure x))] = ([(eval k env, (do let x <- eval v env; standAt pos; pure x))] : List (Sem Value × Sem Value)).map (fun p => (some p.1, p.2)) from rfl,
  dictDisplay_pairs _ (by simp) (by simp)]
 refine wpAny_bind (wpAny_standAt (wpAny_bind ?_))
 unfold subDict
 refine wpAny_bind (wpAny_alloc ?_)
 refine wpAny_bind (wpAny_holding ?_)
 rw [if_pos (by simp)]
 have hd0 : s.heap.get? s.heap.objs.size = none := get_size _
 have kk : ∀ b o, s.heap.get? b = some o -> (s.heap.push { cls := .type "dict", data := .dict #[] }).get? b = some o := fun b o e => Heap.get?_push_of_some _ e
 have S1 : St Γ (prot F s.heap.objs.size) σ { s with heap := s.heap.push { cls := .type "dict", data := .dict #[] } } := S.prot (s' := { s with heap := s.heap.push { cls := .type "dict", data := .dict #[] } }) hd0 kk ⟨_, Heap.get?_push_size _ rfl⟩ rfl rfl
 have T1 : Trans σ s σ { s with heap := s.heap.push { cls := .type "dict", data := .dict #[] } } := Trans.grow kk
 have R1 : FrameRel Γ (prot F s.heap.objs.size) σ (s.heap.push { cls := .type "dict", data := .dict #[] }) env ρ := hR.transP T1 fun b o e z q => by rw [q, hd0] at e; cases e
 have hsys : (s.heap.objs.size == sysModules) = false := by
  obtain ⟨o, ho⟩ := Option.isSome_iff_exists.mp Γ.sysm
  have : s.heap.objs.size ≠ sysModules := fun e => by have := S.base _ _ ho; rw [<- e] at this; rw [hd0] at this; cases this
  simpa using this
 refine wpAny_bind (evalPairs_cons (seq_eval (α := Unit) hs hA R1 S1 h fun kv σ₁ kx s₂ rk R₂ S₂ T₂ h₂ => ?_))
 refine wpAny_bind (seq_eval (α := Unit) hs hA R₂ S₂ h₂ fun vv σ₂ vx s₃ rv R₃ S₃ T₃ h₃ => wpAny_bind (wpAny_standAt (wpAny_pure (evalPairs_nil ?_))))
 obtain ⟨i, rfl, q⟩ := h₃
 have T : Trans σ s σ₂ s₃ := T1.trans (T₂.trans T₃)
 have hDn : σ₂ s.heap.objs.size = none := S₃.off _ (.inr rfl)
 have hD : s₃.heap.get? s.heap.objs.size = some (dictObj #[] 0) := (T₂.trans T₃).keep _ _ (Heap.get?_push_size _ rfl) (S1.off _ (.inr rfl))
 have S₄ : St Γ F (put σ₂ s.heap.objs.size (.dct .I [])) s₃ := S₃.adopt (S.out hd0).2.1 (S.out hd0).2.2 (.dct hD hsys .nil List.nodup_nil)
 refine wpAny_holding ?_
 refine wpAny_bind ?_
 rw [List.forIn_cons]
 refine wpAny_bind (wpAny_bind (dictSet_run (f := .I) hA.u20 ⟨i, rfl⟩ ((rk.trans T₃).adopt (v := .dct .I [])) (rv.adopt (v := .dct .I [])) hD .nil List.nodup_nil (Nat.zero_le _) fun h' tk arr' m' hs' ho' dr' => wpAny_pure ?_))
 dsimp only
 rw [List.forIn_nil]
 obtain ⟨S', T'⟩ := S₄.dictUpd (tk := tk) (put_self _ _ _) hs' ho' dr' (dput_nodup List.nodup_nil)
 refine wpAny_pure (wpAny_pure (wpAny_pure (wpAny_pure ⟨.ref _, _, .ref _, S', ?_, ?_⟩)))
 ·refine ⟨fun b o e z => ?_, fun b e => ?_⟩
  ·have hb : b ≠ s.heap.objs.size := fun q => by rw [q, hd0] at e; cases e
   exact (hs'.2 b hb).trans (T.keep b o e z)
  ·by_cases hb : b = s.heap.objs.size
   ·subst hb; exact .inr hd0
   ·rw [put_ne _ _ hb, put_ne _ _ hb] at e; exact T.fresh b e
 ·have e : put (put σ₂ s.heap.objs.size (.dct .I [])) s.heap.objs.size (.dct .I (dput (.int i) vv [])) = put σ₂ s.heap.objs.size (.dct .I (dput (.int i) vv [])) := by
   funext b; unfold put; by_cases hb : b = s.heap.objs.size <;> simp [hb]
  rw [e]
  exact q _ hDn
end
end
section
variable {Γ : Cx}
section
variable {n : Nat} {sc : Scope} {ρ : Vars} {σ σ₁ : Store} {Q Q' : V -> Store -> Prop} {F : Addr -> Prop} {s : Shared}
theorem AEval.joinedI {x : Str} {e : Expr} {k : Nat} {p1 p2 pos : Pos} (hx : x.length <= 1000) (h : AEval Γ n sc ρ e σ fun v σ₁ => ∃ i : Int, v = .int i /\ i.natAbs.log2 < 1920 /\ (Str.ofString (toString i)).length <= 1000 /\ Q (.str (x ++ Str.ofString (toString i))) σ₁) :
  AEval Γ n sc ρ (.JoinedStr [.Constant (.str x) k p1, .FormattedValue e (-1) none p2] pos) σ Q := by
 intro A s F env hs hA hR S
 have hsl : (1000000 : Nat) <= sizeLine := by decide
 have e0 : Str.empty ++ x = x := by cases x; show (⟨#[] ++ _⟩ : Str) = _; simp
 have hl : ∀ a b : Str, (a ++ b).length = a.length + b.length := fun a b => strLen_append a b
 refine JoinedStr_many (joinParts_cons (Calls.Constant_str ?_))
 refine ⟨by rw [e0]; lia, ?_⟩
 rw [e0]
 refine joinParts_cons (FormattedValue_plain (seq_eval (α := Unit) hs hA (hR.trans (Trans.tok (s.toks + 1))) (S.tok _) h fun v σ₁ y s₁ r R₁ S₁ T₁ h₁ => ?_))
 obtain ⟨i, rfl, hi, hz, q⟩ := h₁
 obtain ⟨t, rfl⟩ := r.int_inv
 refine formatField_int_small hi ?_
 refine ⟨by rw [hl]; exact Nat.le_trans (Nat.add_le_add hx hz) (Nat.le_trans (by decide) hsl), ?_⟩
 refine joinParts_nil ?_ (by rw [hl]; exact Nat.le_trans (Nat.add_le_add hx hz) (Nat.le_trans (by decide) hsl))
 refine ⟨_, σ₁, .str _ _, (S₁.tok _), ?_, q⟩
 exact (Trans.tok (s.toks + 1)).trans (T₁.trans (Trans.tok _))
end
section
variable {prog : Program} {w : World} {A : Around} {E : Value -> Shared -> Prop} {s : Shared}
theorem miss_keys_list : typeLookup (.type "list") "keys" = pure none := by rw [typeLookup_type, builtinLookup_eq_fast]; kernel_rfl
theorem getAttrQ_miss_list {a : Addr} {o : Obj} {xs : Array Value} {k : Nat} {Q : Option Value -> Shared -> Prop}
  (hx : s.heap.get? a = some o) (hc : o.cls = .type "list") (hdat : o.data = .seq xs k) (hd : o.dict = none) (hA : A.handled = none)
  (h : ∀ h' tk, (∀ b o, s.heap.get? b = some o -> h'.get? b = some o) -> Q none { s with heap := h', toks := tk }) :
  wpAny (model prog w) A (getAttr? (.ref a) "keys") Q E s := by
 obtain ⟨c, dct, dat, sl⟩ := o
 simp only at hc hdat hd
 subst hc hdat hd
 obtain ⟨hp, g, d, tk, os⟩ := s
 have hT : ∀ tk', (⟨hp, g, d, tk', os⟩ : Shared).TypeIs (.ref a) "list" := fun _ => ⟨_, hx, rfl⟩
 have f1 := sub_AttributeError
 have f3 := PySem.F.slot_list_getattribute.lookup
 have f4 := PySem.F.slot_list_getattribute.bind (.ref a)
 have f5 := am_list_getattr_none
 have hsz : (Str.ofString "keys").length + 100 <= sizeLine := by decide
 have hname : (["__module__", "__name__", "__qualname__", "__doc__", "__annotations__"] : List Str).contains (Str.ofString "keys") = false := by decide +kernel
 unfold getAttr? getAttrBy? getAttrBy
 repeat (any_goals (first | assumption | exact hT _ | ((with_reducible show wpAny _ _ (call (Value.builtin "list.__getattribute__") _ _) _ _ _); refine call_meets PySem.F.slot_list_getattribute (hT _) am_entry_list_getattribute (PySem.F.args_list_getattribute_2 _ _) (meets_getattribute_miss_list a xs k sl "keys" _ miss_keys_list hname hsz) ⟨hx, hA, fun h' tk' e hx' => ?_⟩) | wp_step))
 obtain ⟨t', u', he⟩ := hx'.there
 show wpAny _ _ (getattributeRaised _ _ _ _ _ _ _) _ _ _
 unfold getattributeRaised
 repeat (any_goals (first | assumption | wp_step))
 exact h _ _ hx'.keeps
end
theorem pairItems_tuple {prog : Program} {w : World} {A : Around} {E : Value -> Shared -> Prop} {s : Shared} {a : Addr} {arr : Array Value} {Q : List Value -> Shared -> Prop} (ht : s.heap.IsTuple a arr) (h : Q arr.toList s) :
  wpAny (model prog w) A (Builtin.Dict.pairItems (.ref a)) Q E s := by
 obtain ⟨o, ho, hc, n, hd⟩ := ht
 unfold Builtin.Dict.pairItems
 refine wpAny_bind (wpAny_typeOf (T := "tuple") ⟨o, ho, hc⟩ ?_)
 rw [if_pos (by decide)]
 exact wpAny_bind (wpAny_seqItems ho hd (wpAny_pure h))
theorem entry_update_loop : entryFor table "dict.update.loop" = some Builtin.«dict.update.loop» := entryFor_of_tree (by kernel_rfl)
theorem plain_update_loop : plainId "dict.update.loop" = true := by decide +kernel
section
variable {n : Nat} {σ σ₀ : Store} {F : Addr -> Prop} {s s₀ : Shared} {W : Addr -> Prop} {J : List V -> (Addr -> Prop) -> Heap -> Prop} {tgt : Expr} {I d : Addr}
noncomputable def dputs : List (V × V) -> List (V × V) -> List (V × V)
 | [], es => es
 | p :: ps, es => dputs ps (dput p.1 p.2 es)
noncomputable def Plain (Γ : Cx) (I : Addr) (W : Addr -> Prop) (J : List V -> (Addr -> Prop) -> Heap -> Prop) : Prop :=
 ∀ A s D x xs R, A.handled = none -> J (x :: xs) D s.heap -> (∀ b, D b -> ∃ o, s.heap.get? b = some o) ->
  (∀ val h₂ tk, VRel Γ D h₂ x val -> J xs D h₂ -> (∀ b o, ¬ W b -> s.heap.get? b = some o -> h₂.get? b = some o) -> R (some val) { s with heap := h₂, toks := tk }) -> wpAny (Md Γ) A (pyNext (.ref I)) R NoE s
theorem Plain.list {I l : Addr} (hne : l ≠ I) : Plain Γ I (· = I) (JL Γ I l) := by
 intro A s D x xs R hA j hD hR
 obtain ⟨i, arr, m, hit, nd, hl, r⟩ := j
 obtain ⟨y, hy, rx, rs⟩ := drop_cons r
 refine wpAny_pyNext_list_item hit ⟨_, hl, rfl, _, rfl⟩ hy fun h' hit' hs' => ?_
 have kk : ∀ b o, ¬ D b -> solid o = true -> s.heap.get? b = some o -> h'.get? b = some o := fun b o nd so e => hs'.extBut b o (by
  rintro rfl
  obtain ⟨o', ho', _, hd'⟩ := hit
  rw [e] at ho'; cases ho'; unfold solid at so; rw [hd'] at so; cases so) e
 exact hR y h' s.toks (rx.mono kk fun _ _ n _ => n) ⟨i + 1, arr, m, hit', nd, hs'.extBut _ _ hne hl, rs.mono kk fun _ _ n _ => n⟩ fun b o nb e => hs'.extBut b o nb e
theorem update_run (P : Plain Γ I W J) (it : Iter Γ tgt I W J) {f : Kd} :
  ∀ (ps : List (V × V)) (es : List (V × V)) (i : Nat) {A : Around} {s : Shared} {σ : Store} {R : Result -> Shared -> Prop}, Room n A -> St Γ F σ s -> σ d = some (.dct f es) -> (∀ p ∈ ps, keyOk f p.1) -> es.length + ps.length <= 1000000 ->
   (∀ b, W b -> NewAt Γ F σ₀ s₀ b) -> J (ps.map pairV) (DD σ F) s.heap -> Trans σ₀ s₀ σ s ->
   (∀ s', St Γ F (put σ d (.dct f (dputs ps es))) s' -> Trans σ₀ s₀ (put σ d (.dct f (dputs ps es))) s' -> R (.ok (.ret .none)) s') ->
   codeAny (Md Γ) A (.builtin "dict.update.loop" ⟨[.ref d, .ref I, rawInt i, .none], []⟩) R s := by
 intro ps
 induction ps with
 | nil =>
  intro es i A s σ R hA S hd hk hz N j T hR
  refine codeAny_builtin entry_update_loop ?_
  rw [Around.under_plainId plain_update_loop _]
  have H := fun b w => it.hollow _ _ _ b j w
  have he : put σ d (.dct f es) = σ := by funext b; unfold put; by_cases q : b = d; subst q; rw [if_pos rfl, hd]; rw [if_neg q]
  show wpAny _ _ (pyNext (.ref I) >>= _) _ _ s
  refine wpAny_bind (wpAny_mono (it.done A.in1 s _ _ hA.1 j fun h' tk k => ?_) (fun _ _ p => p) fun _ _ e => e.elim)
  have := hR { s with heap := h', toks := tk } (by show St Γ F (put σ d (.dct f es)) _; rw [he]; exact St.walk (s' := { s with heap := h', toks := tk }) S N H k rfl rfl) (by show Trans σ₀ s₀ (put σ d (.dct f es)) _; rw [he]; exact T.walk N k)
  exact wpAny_pure this
 | cons p ps ih =>
  intro es i A s σ R hA S hd hk hz N j T hR
  refine codeAny_builtin entry_update_loop ?_
  rw [Around.under_plainId plain_update_loop _]
  have H := fun b w => it.hollow _ _ _ b j w
  show wpAny _ _ (pyNext (.ref I) >>= _) _ _ s
  refine wpAny_bind (wpAny_mono (P A.in1 s _ _ _ _ hA.1 j (DD_alive S) fun val h₂ tk rx jx k => ?_) (fun _ _ p => p) fun _ _ e => e.elim)
  have S₂ : St Γ F σ { s with heap := h₂, toks := tk } := St.walk (s' := { s with heap := h₂, toks := tk }) S N H k rfl rfl
  have T₂ : Trans σ₀ s₀ σ { s with heap := h₂, toks := tk } := T.walk N k
  obtain ⟨a, arr, rfl, nd, ht, rv⟩ := rx.tup_inv
  obtain ⟨k1, v1, hl, rk, rv1⟩ := rv.two_inv
  show wpAny _ _ ((holding [Value.ref a] _) >>= _) _ _ _
  refine wpAny_bind (wpAny_holding (wpAny_bind (wpAny_tryCatch (pairItems_tuple ht ?_))))
  rw [hl]
  obtain ⟨darr, m, ho, hsys, dr, ndup⟩ := (S₂.rep _ _ hd).dct_inv
  have hne : σ d ≠ none := by rw [hd]; exact fun e => nomatch e
  refine wpAny_holding (dictSet_run (s := { s with heap := h₂, toks := tk }) hA.in20 (hk p List.mem_cons_self) rk rv1 ho dr ndup (by simp at hz; lia) fun h' tk' arr' m' hs' ho' dr' => ?_)
  obtain ⟨S', T'⟩ := St.dictUpd (s := { s with heap := h₂, toks := tk }) (tk := tk') S₂ hd hs' ho' dr' (dput_nodup ndup)
  refine wpAny_pure ⟨plainId_quiet plain_update_loop _, ?_⟩
  have jj : J (ps.map pairV) (DD (put σ d (.dct f (dput p.1 p.2 es))) F) h' := by
   refine it.frame _ _ _ _ _ jx (fun b o hb e => ?_) fun b o nd so e => ?_
   ·refine (hs'.2 b (fun q => ?_)).trans e
    subst q
    rcases hb with ⟨nd, _⟩ | w
    ·exact nd (.inl hne)
    ·obtain ⟨o', vs, h1, h2, _⟩ := it.hollow _ _ _ b jx w
     rw [ho] at h1; cases h1; cases h2
   ·rintro (q | q)
    ·by_cases hb : b = d
     ·subst hb; exact nd (.inl hne)
     ·rw [put_ne _ _ hb] at q; exact nd (.inl q)
    ·exact nd (.inr q)
  have e2 : ((i : Int) + 1) = ((i + 1 : Nat) : Int) := by push_cast; rfl
  show codeAny _ _ (.builtin "dict.update.loop" ⟨[.ref d, .ref I, rawInt ((i : Int) + 1), .none], []⟩) _ _
  rw [e2]
  refine ih (dput p.1 p.2 es) (i + 1) hA S' (put_self _ _ _) (fun q hq => hk q (List.mem_cons_of_mem _ hq)) (by have := dput_len (k := p.1) (v := p.2) (es := es); simp at hz; lia) N jj (T₂.trans T') fun s' S'' T'' => ?_
  have e3 : put (put σ d (.dct f (dput p.1 p.2 es))) d (.dct f (dputs ps (dput p.1 p.2 es))) = put σ d (.dct f (dputs (p :: ps) es)) := by
   funext b; unfold put; by_cases q : b = d <;> simp [q, dputs]
  rw [e3] at S'' T''
  exact hR s' S'' T''
end
end
section
variable {Γ : Cx}
theorem Room.in2 {n : Nat} {A : Around} (r : Room (n + 1) A) : Room n A.in1.in1 :=
 ⟨r.1, by have := r.2.1; show A.depth + 4 * n <= 900; lia, by have := r.2.2; show A.units + 1 + 1 + 60 * n <= 9000; lia⟩
section
variable {n : Nat} {sc : Scope} {ρ : Vars} {σ σ₁ : Store} {Q Q' : V -> Store -> Prop} {F : Addr -> Prop} {s : Shared}
theorem sys_ne {a : Addr} (S : St Γ F σ s) (e : s.heap.get? a = none) : (a == sysModules) = false := by
 obtain ⟨o, ho⟩ := Option.isSome_iff_exists.mp Γ.sysm
 have : a ≠ sysModules := fun q => by have := S.base _ _ ho; rw [<- q] at this; rw [e] at this; cases this
 simpa using this
theorem freeze_new {a : Addr} {v : V} {s' : Shared} (h0 : s.heap.get? a = none) (S₀ : St Γ F σ s) (S : St Γ F (put σ a v) s') (T : Trans σ s (put σ a v) s') (ho : isObj v) : VRel Γ (DD σ F) s'.heap v (.ref a) /\ St Γ F σ s' /\ Trans σ s σ s' := by
 have hn := (S₀.out h0).1
 have hd : del (put σ a v) a = σ := by
  funext b; unfold del put; by_cases q : b = a
  ·subst q; rw [if_pos rfl, hn]
  ·rw [if_neg q, if_neg q]
 have L : Le σ (put σ a v) := fun b u e => by
  have hb : b ≠ a := fun q => by rw [q, hn] at e; cases e
  rw [put_ne _ _ hb]; exact e
 have r := S.frozen (put_self σ a v) (S₀.out h0).2.2
 rw [hd] at r
 exact ⟨r, S.le L, T.le L⟩
theorem dict_from {A : Around} {l : Addr} {f : Kd} {I : Addr} {ps : List (V × V)} {R : Value -> Shared -> Prop} {fv : Value}
  (hA : Room (n + 1) A) (S : St Γ F σ s) (hk : ∀ p ∈ ps, keyOk f p.1) (hz : ps.length <= 1000000) (hT : ∀ s' σ', St Γ F σ' s' -> Trans σ s σ' s' -> ∃ T, s'.TypeIs fv T /\ (Value.type T == Value.type "dict") = false)
  (hmiss : ∀ s' σ' A' R', A'.handled = none -> St Γ F σ' s' -> Trans σ s σ' s' -> (∀ h' tk, (∀ b o, s'.heap.get? b = some o -> h'.get? b = some o) -> R' none { s' with heap := h', toks := tk }) -> wpAny (Md Γ) A' (getAttr? fv "keys") R' NoE s')
  (hiter : ∀ s' σ' A', A'.handled = none -> St Γ F σ' s' -> Trans σ s σ' s' -> ∀ R', (∀ I W J tgt s₃, Plain Γ I W J -> Iter Γ tgt I W J -> (∀ b, W b -> NewAt Γ F σ' s' b) -> J (ps.map pairV) (DD σ' F) s₃.heap -> St Γ F σ' s₃ -> Trans σ' s' σ' s₃ -> R' (.ref I) s₃) -> wpAny (Md Γ) A' (pyIter fv) R' NoE s')
  (hR : ∀ a s', VRel Γ (DD σ F) s'.heap (.dct f (dputs ps [])) (.ref a) -> St Γ F σ s' -> Trans σ s σ s' -> R (.ref a) s') :
  wpAny (Md Γ) A (call (.type "dict") [fv]) R NoE s := by
 have h0 : s.heap.get? s.heap.objs.size = none := get_size _
 refine callType_codes (Q₁ := fun obj s₁ => obj = .ref s.heap.objs.size /\ s₁ = { s with heap := s.heap.push { cls := .type "dict", data := .dict #[] } }) PySem.F.kt_called_dict (PySem.F.kt_typeCall_dict_1 _) PySem.F.entry_dict_init (kt_code_dict_new _ ⟨rfl, rfl⟩) ?_
 rintro obj s₁ ⟨rfl, rfl⟩
 have hD : (s.heap.push { cls := .type "dict", data := .dict #[] }).get? s.heap.objs.size = some (dictObj #[] 0) := Heap.get?_push_size _ rfl
 have S1 : St Γ F (put σ s.heap.objs.size (.dct f [])) { s with heap := s.heap.push { cls := .type "dict", data := .dict #[] } } :=
  S.alloc (s' := { s with heap := s.heap.push { cls := .type "dict", data := .dict #[] } }) (v := .dct f []) h0 (fun b o e => Heap.get?_push_of_some _ e) (.dct hD (sys_ne S h0) .nil List.nodup_nil) rfl rfl
 have T1 : Trans σ s (put σ s.heap.objs.size (.dct f [])) { s with heap := s.heap.push { cls := .type "dict", data := .dict #[] } } := put_trans _
 have hTd : ({ s with heap := s.heap.push { cls := .type "dict", data := .dict #[] } } : Shared).TypeIs (.ref s.heap.objs.size) "dict" := ⟨_, hD, rfl⟩
 have hA2 := hA.in2
 refine ⟨hTd, PySem.F.args_dict_init_2 _ _, ?_⟩
 unfold Builtin.«dict.__init__»
 refine wpAny_bind ?_
 unfold Builtin.Dict.selfAndRest
 refine wpAny_bind (wpAny_notOrdered_dict hTd ?_)
 show wpAny _ _ (pure (s.heap.objs.size, [fv])) _ _ _
 refine wpAny_pure ?_
 show wpAny _ _ (Builtin.Dict.updateFrom "dict.__init__" s.heap.objs.size fv [] .none) _ _ _
 unfold Builtin.Dict.updateFrom
 obtain ⟨T, hTT, hTne⟩ := hT _ _ S1 T1
 refine wpAny_bind (wpAny_typeOf hTT ?_)
 rw [if_pos (by rw [bne, hTne]; rfl)]
 refine wpAny_bind (wpAny_mono (hmiss _ _ A.in1.in1 _ hA2.1 S1 T1 fun h' tk kk => ?_) (fun _ _ p => p) fun _ _ e => e.elim)
 obtain ⟨S2, T2⟩ := S1.keepAll (h' := h') (tk := tk) kk
 have T12 := T1.trans T2
 refine wpAny_bind (wpAny_rule (wpAny_bind (wpAny_mono (hiter _ _ A.in1.in1 hA2.1 S2 T12 _ fun I W J tgt s₃ P it N j S3 T3 => ?_) (fun _ _ p => p) fun _ _ e => e.elim)))
 refine wpAny_pure ⟨plainId_quiet plain_update_loop _, ?_⟩
 have hA1 : Room n A.in1 := hA.in1
 have e0 : rawInt ((0 : Nat) : Int) = rawInt 0 := rfl
 refine update_run (d := s.heap.objs.size) P it ps [] 0 hA1 S3 (put_self _ _ _) hk (by simpa using hz) N j T3 fun s' S' T' => ?_
 have e1 : put (put σ s.heap.objs.size (.dct f [])) s.heap.objs.size (.dct f (dputs ps [])) = put σ s.heap.objs.size (.dct f (dputs ps [])) := by
  funext b; unfold put; by_cases q : b = s.heap.objs.size <;> simp [q]
 have TT := (T12.trans T')
 rw [e1] at S' TT
 obtain ⟨r, S4, T4⟩ := freeze_new h0 S S' TT trivial
 exact ⟨rfl, hR _ _ r S4 T4⟩
theorem ACall.dictL {o : V} {f : Kd} {ps : List (V × V)} (dn : Den σ o (.lst (ps.map pairV))) (hfr : o = .lst (ps.map pairV)) (hk : ∀ p ∈ ps, keyOk f p.1) (hz : ps.length <= 1000000) (q : Q (.dct f (dputs ps [])) σ) : ACall Γ (n + 1) (.typ "dict") [o] σ Q := by
 intro A s F fv vals hA S rf rv
 obtain rfl := rf.typ_inv
 obtain ⟨x, rfl, rd⟩ := rv.one_inv
 subst hfr
 obtain ⟨a, arr, m, rfl, nd, ho, rs⟩ := id rd.lst_inv
 refine dict_from (l := a) (I := a) (n := n) hA S hk hz (fun s' σ' S' T' => ?_) (fun s' σ' A' R' hh S' T' h => ?_) (fun s' σ' A' hh S' T' R' h => ?_) fun d s' r S' T' => ⟨_, σ, r, S', T', q⟩
 ·exact ⟨"list", ⟨_, T'.keep _ _ ho (dd_none nd), rfl⟩, by decide⟩
 ·exact wpAny_mono (getAttrQ_miss_list (T'.keep _ _ ho (dd_none nd)) rfl rfl rfl hh h) (fun _ _ p => p) fun _ _ e => e
 ·have ho' := T'.keep _ _ ho (dd_none nd)
  have rd' := rd.trans T'
  obtain ⟨a', arr', m', e, nd', ho'', rs'⟩ := rd'.lst_inv
  cases e
  have hne : a ≠ s'.heap.objs.size := Nat.ne_of_lt (Heap.lt_size ho'')
  refine wpAny_pyIter_list ⟨_, ho'', rfl, _, rfl⟩ (h _ (· = s'.heap.objs.size) (JL Γ s'.heap.objs.size a) (.Name (Str.ofString "x") ⟨0, 0, 0, 0⟩) _ (Plain.list hne) (Iter.list _ _ hne) (fun b w => ?_) ?_ (new_obj S' _) (new_trans _))
  ·subst w; exact NewAt.of (Trans.refl _ _) S' (get_size _)
  ·exact ⟨0, arr', m', ⟨_, Heap.get?_push_size _ rfl, rfl, rfl⟩, nd', Heap.get?_push_of_some _ ho'', olds_push _ rs'⟩
end
end
section
variable {Γ : Cx}
section
variable {n : Nat} {sc : Scope} {ρ : Vars} {σ σ₁ : Store} {Q Q' : V -> Store -> Prop} {F : Addr -> Prop} {s : Shared}
theorem fresh_at {a : Addr} (S : St Γ F σ s) (h : s.heap.get? a = none) : ¬ DD σ F a := by
 rintro (w | w)
 ·exact w (S.out h).1
 ·exact (S.out h).2.2 w
theorem sorted_ints_of {A : Around} {x : Value} {R : Value -> Shared -> Prop} {P : List Int -> Prop} (S : St Γ F σ s)
  (hcol : ∀ R' : List Value -> Shared -> Prop, (∀ h' tk vs is, (∀ b o, s.heap.get? b = some o -> h'.get? b = some o) -> IntsAre vs is -> is.length < 64 -> P is -> R' vs { s with heap := h', toks := tk }) -> wpAny (Md Γ) A.in1 (collect x) R' NoE s)
  (h : ∀ (is js : List Int) D s', P is -> js.Perm is -> js.Pairwise (· <= ·) -> VRel Γ (DD σ F) s'.heap (.lst (js.map .int)) (.ref D) -> St Γ F σ s' -> Trans σ s σ s' -> R (.ref D) s') :
  wpAny (Md Γ) A (call (.builtin "sorted") [x]) R NoE s := by
 refine call_function_entry kind_sorted plain_sorted entry_sorted (args_sorted1 _) ?_
 unfold Builtin.«sorted»
 refine wpAny_bind (m := checkCount "sorted" 1 1 _) (wpAny_pure ?_)
 refine wpAny_bind (hcol _ fun h' tk vs is kk hI h64 hP => ?_)
 have hl := hI.length
 refine wpAny_bind (wpAny_newList ?_ (by have : (1000000 : Nat) <= sizeLine := (by decide); lia))
 have ho : (h'.push (seqObj "list" vs.toArray 0)).get? h'.objs.size = some (seqObj "list" vs.toArray 0) := Heap.get?_push_size _ rfl
 refine wpAny_bind (wpAny_holding (wpAny_call_entry PyProof.Rows.slot_list_sort ⟨_, ho, rfl⟩ PyProof.Rows.entry_list_sort (list_sort_tree (n := 0) (vs := vs) ho hI (by lia) fun out ns' hI' hp hP' => ⟨.none, rfl, ?_⟩) (PyProof.Rows.args_list_sort _)))
 obtain ⟨c, hc⟩ := sortedHeap_at (vs := vs) (out := out) ho
 have kk' : ∀ b o, s.heap.get? b = some o -> (sortedHeap (h'.push (seqObj "list" vs.toArray 0)) h'.objs.size vs out).get? b = some o := fun b o e => by
  have e1 := Heap.get?_push_of_some (seqObj "list" vs.toArray 0) (kk b o e)
  have hb : b < h'.objs.size := Heap.lt_size (kk b o e)
  exact (sortedHeap_old (Nat.ne_of_lt hb) (by rw [Heap.size_push]; exact Nat.lt_succ_of_lt hb)).trans e1
 obtain ⟨S', T'⟩ := S.keepAll (h' := sortedHeap (h'.push (seqObj "list" vs.toArray 0)) h'.objs.size vs out) (tk := tk) kk'
 have hD : s.heap.get? h'.objs.size = none := by
  cases q : s.heap.get? h'.objs.size with
  | none => rfl
  | some o => exact absurd (Heap.lt_size (kk _ _ q)) (Nat.lt_irrefl _)
 refine wpAny_pure ⟨_, rfl, h is ns' _ _ hP hp hP' (.at (fresh_at S hD) (.lst hc ?_)) S' T'⟩
 exact of_ints hI'
theorem map_int_inj : ∀ {a b : List Int}, a.map V.int = b.map V.int -> a = b
 | [], [], _ => rfl
 | [], _ :: _, h => by cases h
 | _ :: _, [], h => by cases h
 | x :: a, y :: b, h => by
  rw [List.map_cons, List.map_cons] at h
  injection h with h1 h2
  injection h1 with h1
  rw [h1, map_int_inj h2]
theorem nodup_of_map {α β : Type} {f : α -> β} {l : List α} (h : (l.map f).Nodup) : l.Nodup := by
 unfold List.Nodup at *
 rw [List.pairwise_map] at h
 exact h.imp fun hne e => hne (by rw [e])
theorem pairsI {D : Addr -> Prop} {h : Heap} {es : List (V × V)} {r : List DictEntry} (x : DRel Γ D h .I es r) : ∃ kvs : List (Int × Value), Pairs (intKind Γ.prog Γ.w) r kvs /\ es.map (·.1) = kvs.map fun p => V.int p.1 :=
 DRel.ind (P := fun es r => ∃ kvs : List (Int × Value), Pairs (intKind Γ.prog Γ.w) r kvs /\ es.map (·.1) = kvs.map fun p => V.int p.1) ⟨[], .nil, rfl⟩ (fun k v e es r o hh a b c ih => by
  obtain ⟨kvs, h1, h2⟩ := ih
  obtain ⟨i, rfl⟩ := o
  exact ⟨(i, e.val) :: kvs, .cons (by rw [isInt_eqV ⟨i, rfl⟩ a, eqV_self]) rfl h1, by rw [List.map_cons, List.map_cons, h2]⟩) x
theorem ACall.sortedD {o : V} {es : List (V × V)} {is : List Int} (dn : Den σ o (.dct .I es)) (he : es.map (·.1) = is.map .int) (h64 : is.length < 64) (q : ∀ js : List Int, js.Perm is -> js.Pairwise (· <= ·) -> Q (.lst (js.map .int)) σ) : ACall Γ n (.blt "sorted") [o] σ Q := by
 intro A s F fv vals hA S rf rv
 obtain rfl := rf.blt_inv
 obtain ⟨x, rfl, rd⟩ := rv.one_inv
 obtain ⟨d, rfl, ro⟩ := dn.at S rd
 obtain ⟨arr, m, ho, hsys, dr, nd⟩ := ro.dct_inv
 obtain ⟨kvs, hp, hk⟩ := pairsI dr
 have hkv : kvs.map (·.1) = is := by
  have : (kvs.map (·.1)).map V.int = is.map V.int := by rw [<- he, hk, List.map_map]; rfl
  exact map_int_inj this
 have hat : s.heap.DictAt (intKind Γ.prog Γ.w) d kvs m := ⟨_, arr, ho, ⟨rfl, rfl, rfl⟩, rfl, keysI dr, hp, by
  rw [hk] at nd
  have : (kvs.map fun p => V.int p.1) = (kvs.map (·.1)).map V.int := by rw [List.map_map]; rfl
  rw [this] at nd
  exact nodup_of_map nd⟩
 have hlen : kvs.length = is.length := by rw [<- hkv, List.length_map]
 refine sorted_ints_of (P := fun js => js = is) S (fun R' hR' => ?_) fun is' js D s' hP hp' ho' r S' T' => ⟨_, σ, r, S', T', by subst hP; exact q js hp' ho'⟩
 have hsl : kvs.length <= sizeLine := by
  rw [hlen]
  have : (1000000 : Nat) <= sizeLine := by decide
  lia
 refine wpAny_mono (kdu_collect (kdl_dict (knd := intKind Γ.prog Γ.w) (kvs := kvs) (ep := m) hsys) hA.1 hat hsl fun h' tk acc kk hacc => ?_) (fun _ _ p => p) fun _ _ e => e
 refine hR' h' tk acc.toList is kk ?_ h64 rfl
 refine kdy_ints (by rw [Array.length_toList, hacc.1, hlen]) fun j v hj => ?_
 obtain ⟨k, y, hy, hki⟩ := hacc.2 j v (by simpa using hj)
 refine ⟨k, ?_, Value.isInt_shape hki⟩
 rw [<- hkv, List.getElem?_map, hy]; rfl
end
end
section
variable {Γ : Cx}
theorem TabOk.fits {led : Bool} {n : Nat} {t : SetTable} (h : TabOk led n t) (hn : n <= 2) : t.fits n = true := by
 unfold SetTable.fits SetTable.fill
 rw [h.size, h.dum]
 have := h.mask
 simp; lia
theorem TabOk.plain {led b : Bool} {n : Nat} {t : SetTable} (h : TabOk led n t) : TabOk led n { t with plain := b } := ⟨h.led, h.mask, h.dum, h.size, h.rise⟩
theorem TabOk.full {led : Bool} {n : Nat} {t : SetTable} (h : TabOk led n t) (hn : n <= 2) : t.tooFull = false := by
 unfold SetTable.tooFull SetTable.fill
 rw [h.size, h.dum]
 have := h.mask
 simp; lia
theorem has_nil (j : Nat) : SetTable.has #[] j = false := by simp [SetTable.has]
theorem probe_free {t : SetTable} (hd : t.dummies = #[]) {h : Int} : ∀ (fuel : Nat) (p : SetTable.Probe) {j : Nat} {d : Option Nat}, p.dummy = none -> SetTable.probe.go t (fun _ => h + 1) h fuel p = some (.empty j d) -> d = none /\ t.slot j = .empty
 | 0, p, j, d, hp, e => absurd (show (none : Option SetTable.Met) = some _ from e) fun q => nomatch q
 | fuel + 1, p, j, d, hp, e => by
  replace e : (match t.slot p.j with | .empty => some (.empty p.j p.dummy) | .dummy => SetTable.probe.go t (fun _ => h + 1) h fuel (t.advance { p with dummy := some p.j }) | .live i => if (h + 1 == h) = true then some (.candidate p.j i (t.advance p)) else SetTable.probe.go t (fun _ => h + 1) h fuel (t.advance p)) = some (.empty j d) := e
  cases hs : t.slot p.j with
  | empty =>
   rw [hs] at e
   injection e with e
   injection e with e1 e2
   subst e1; subst e2
   exact ⟨hp, hs⟩
  | dummy =>
   exfalso
   unfold SetTable.slot at hs
   rw [hd, has_nil] at hs
   dsimp only at hs
   split at hs
   ·cases hs
   ·simp at hs
  | live i =>
   rw [hs] at e
   have hne : (h + 1 == h) = false := by rw [beq_eq_false_iff_ne]; lia
   dsimp only at e
   rw [hne, if_neg Bool.false_ne_true] at e
   refine probe_free hd fuel _ ?_ e
   unfold SetTable.advance
   split <;> exact hp
theorem below_one (p j : Nat) : SetTable.below #[p] j = if p < j then 1 else 0 := by
 have e : SetTable.below #[p] j = (if (0 : Nat) < 1 then if (#[p] : Array Nat).getD 0 j < j then 1 else 0 else 0) := by kernel_rfl
 rw [e, if_pos Nat.zero_lt_one]; rfl
theorem slot_empty {t : SetTable} {j p : Nat} (hp : t.place = #[p]) (e : t.slot j = .empty) : j ≠ p := by
 rintro rfl
 unfold SetTable.slot at e
 rw [hp] at e
 have : SetTable.below #[j] j = 0 := by rw [below_one, if_neg (Nat.lt_irrefl _)]
 rw [this] at e
 simp at e
theorem standIn_ok {led : Bool} {t : SetTable} (hl : t.led = led) {n : Nat} (h1 : 1 <= n) (hn : n <= 2) : TabOk led n (t.standIn n) := by
 refine ⟨hl, ?_, rfl, ?_, fun p q e => ?_⟩
 ·show 7 <= 4 * n + 4
  lia
 ·show (Array.range n).size = n; simp
 ·have e' : Array.range n = #[p, q] := e
  have hs : n = 2 := by have := congrArg Array.size e'; simpa using this
  subst hs
  have : Array.range 2 = #[0, 1] := rfl
  rw [this] at e'
  injection e' with e'
  injection e' with e1 e2
  injection e2 with e2 _
  lia
theorem orStandIn_ok {led : Bool} {t : SetTable} {n : Nat} (h : TabOk led n t) (hn : n <= 2) : TabOk led n (t.orStandIn n) := by
 unfold SetTable.orStandIn
 rw [h.fits hn, if_pos rfl]; exact h
theorem put_ok {led : Bool} {n : Nat} {t : SetTable} (ht : TabOk led n t) (hn : n <= 1) {j : Nat} (hj : t.slot j = .empty) : TabOk led (n + 1) (t.put j).1 := by
 have hd : (t.put j).1.dummies = #[] := by
  unfold SetTable.put
  dsimp only
  rw [ht.dum, has_nil, if_neg Bool.false_ne_true]
 have hp : (t.put j).1.place = SetTable.insertAt t.place (SetTable.below t.place j) j := rfl
 by_cases h0 : n = 0
 ·subst h0
  have hpl : t.place = #[] := Array.eq_empty_of_size_eq_zero ht.size
  have hpl' : (t.put j).1.place = #[j] := by rw [hp, hpl]; rfl
  exact ⟨ht.led, ht.mask, hd, by rw [hpl']; rfl, fun p q e => by rw [hpl'] at e; have := congrArg Array.size e; simp at this⟩
 ·have h1 : n = 1 := by lia
  subst h1
  obtain ⟨p, hpl⟩ : ∃ p, t.place = #[p] := by
   have hs := ht.size
   obtain ⟨l, hl⟩ : ∃ l, t.place = l := ⟨_, rfl⟩
   rw [hl] at hs ⊢
   obtain ⟨l⟩ := l
   cases l with
   | nil => simp at hs
   | cons p l => cases l with
    | nil => exact ⟨p, rfl⟩
    | cons _ _ => simp at hs
  have hne := slot_empty hpl hj
  have hpl' : (t.put j).1.place = if p < j then #[p, j] else #[j, p] := by
   rw [hp, hpl, below_one]
   split <;> simp [SetTable.insertAt]
  refine ⟨ht.led, ht.mask, hd, by rw [hpl']; split <;> rfl, fun a b e => ?_⟩
  rw [hpl'] at e
  split at e
  ·injection e with e; injection e with e1 e2; injection e2 with e2 _; lia
  ·injection e with e; injection e with e1 e2; injection e2 with e2 _; lia
theorem layNew_small {led : Bool} {n : Nat} {t : SetTable} {es : Array (Int × Value)} (ht : TabOk led n t) (hs : es.size = n) (hn : n <= 1) (h : Int) (x : Value) : TabOk led (n + 1) (layNew t es h x).2.1 /\ (layNew t es h x).2.2.1 = false := by
 have hsz : (layNew t es h x).1.size = n + 1 := by
  have := layNew_perm t es h x
  have := this.length_eq
  rw [Array.length_toList, Array.toList_push, List.length_append, Array.length_toList, hs] at this
  simpa using this
 unfold layNew at *
 cases hf : t.freeSlot h with
 | none =>
  rw [hf] at hsz
  dsimp only
  rw [hs]
  exact ⟨standIn_ok ht.led (by lia) (by lia), rfl⟩
 | some r =>
  obtain ⟨slot, wd⟩ := r
  rw [hf] at hsz
  dsimp only at hsz ⊢
  unfold SetTable.freeSlot at hf
  split at hf
  ·rename_i j d hpr
   injection hf with hf
   injection hf with e1 e2
   obtain ⟨hd, hj⟩ := probe_free ht.dum _ _ rfl hpr
   subst hd
   subst e1; subst e2
   refine ⟨?_, rfl⟩
   rw [hsz]
   exact orStandIn_ok (put_ok ht hn hj) (by lia)
  ·cases hf
end
section
variable {Γ : Cx}
section
variable {prog : Program} {w : World} {K : Type} [DecidableEq K] {knd : KeyKind prog w K} {A : Around} {E : Value -> Shared -> Prop} {s : Shared} {led : Bool}
theorem set_tail {g : Bool -> Sem Unit} {a : Addr} {o : Obj} {es es1 : Array (Int × Value)} {ep : Nat} {t t2 : SetTable} (ho : s.heap.get? a = some o) (hd : o.data = .set es ep t) (hf : t2.tooFull = false) (hz : es1.size <= 2) {wasDummy : Bool} {R : Option Bool -> Shared -> Prop}
  (h : R (some true) { s with heap := s.heap.update a (Obj.putSet es1 t2) }) :
  wpAny (model prog w) A (do
    storeSet a es1 t2
    if (!wasDummy && t2.tooFull) = true then do
      g (relayAll t2 es1 (SetTable.grown es1.size)).2.2
      storeSet a (relayAll t2 es1 (SetTable.grown es1.size)).1 (relayAll t2 es1 (SetTable.grown es1.size)).2.1
      pure (some true)
     else pure (some true)) R E s := by
 refine wpAny_bind (wpAny_storeSet_of ho hd ?_ (Nat.le_trans hz (by decide)))
 rw [hf, Bool.and_false, if_neg Bool.false_ne_true]
 exact wpAny_pure h
theorem set_add {a : Addr} {o : Obj} {ks : List K} {k : K} {x : Value} {R : Bool -> Shared -> Prop} (ho : s.heap.get? a = some o) (hS : Set2 knd led o ks) (hkey : knd.is k x = true) (hsc : x.scannable = true) (hroom : k ∈ ks \/ ks.length <= 1)
  (h : ∀ b h' o', Heap.SameBut a s.heap h' -> h'.get? a = some o' -> Set2 knd led o' (if k ∈ ks then ks else ks ++ [k]) -> R b { s with heap := h' }) :
  wpAny (model prog w) A (setAddHashed a x (knd.hash k)) R E s := by
 have hS0 := hS
 obtain ⟨es, ep, t, rfl, hel, ht, hz, hmem, hnd, hlen⟩ := hS
 have hf := ht.fits hz
 have hd : ({ cls := .type "set", dict := none, data := .set es ep t } : Obj).data = .set es ep t := rfl
 unfold setAddHashed setAddHashedIn
 refine wpAny_holding (wpAny_bind (wpAny_setState_of ho hd hf ?_))
 dsimp only
 rw [byScan_of hsc (by unfold scanBound; lia) hel]
 simp only [↓reduceIte]
 unfold setAddByScan
 refine wpAny_bind ?_
 refine wpAny_bind (wpAny_rule ?_)
 refine wpAny_bind (wpAny_setScan_of hkey ho hd hf hel ?_)
 cases hr : List.findIdx? (fun e => knd.is k e.2) es.toList with
 | some j =>
  dsimp only
  obtain ⟨hj, hpj, _⟩ := List.findIdx?_eq_some_iff_getElem.mp hr
  have hk : k ∈ ks := (hmem k).mpr ⟨es.toList[j], List.getElem_mem hj, hpj⟩
  refine wpAny_pure (wpAny_pure ?_)
  have e : s = { s with heap := s.heap } := by cases s; rfl
  rw [e]
  exact h _ s.heap _ (Heap.SameBut.refl a s.heap) ho (by rw [if_pos hk]; exact hS0)
 | none =>
  dsimp only
  have hk : k ∉ ks := fun hk => by
   obtain ⟨e, he, hp⟩ := (hmem k).mp hk
   have := List.findIdx?_eq_none_iff.mp hr e he
   rw [hp] at this; exact Bool.noConfusion this
  have hn : es.size <= 1 := by rw [<- hlen]; exact hroom.resolve_left hk
  have hgw : ∀ (b : Bool) {s₁ : Shared} {Q' : Unit -> Shared -> Prop}, Q' () s₁ -> wpAny (model prog w) A (match b with | true => rule "set.scan.the-table-gave-way" | false => pure ()) Q' E s₁ :=
   fun b s₁ Q' hq => by cases b <;> first | exact wpAny_pure hq | exact wpAny_rule hq
  have hperm := layNew_perm t es (knd.hash k) x
  have hnew := layNew_small ht rfl hn (knd.hash k) x
  generalize hL : layNew t es (knd.hash k) x = L at hperm hnew ⊢
  obtain ⟨es1, t1, wasDummy, gave⟩ := L
  dsimp only at hperm hnew ⊢
  rw [Array.toList_push] at hperm
  have hsz1 : es1.size = es.size + 1 := by rw [<- Array.length_toList, hperm.length_eq, List.length_append, Array.length_toList]; rfl
  have hel1 : ElemsOf knd es1.toList := (hel.push hkey hsc).perm hperm
  have hmem1 : ∀ k', k' ∈ ks ++ [k] ↔ ∃ e ∈ es1.toList, knd.is k' e.2 = true := fun k' => by
   constructor
   ·intro hm
    rcases List.mem_append.mp hm with hm | hm
    ·obtain ⟨e, he, hp⟩ := (hmem k').mp hm
     exact ⟨e, hperm.mem_iff.mpr (List.mem_append_left _ he), hp⟩
    ·rw [List.mem_singleton.mp hm]
     exact ⟨_, hperm.mem_iff.mpr (List.mem_append_right _ (List.mem_singleton.mpr rfl)), hkey⟩
   ·rintro ⟨e, he, hp⟩
    rcases List.mem_append.mp (hperm.mem_iff.mp he) with he | he
    ·exact List.mem_append_left _ ((hmem k').mpr ⟨e, he, hp⟩)
    ·rw [List.mem_singleton.mp he] at hp
     rw [knd.inj x k' k hp hkey]; simp
  have hnd1 : (ks ++ [k]).Nodup := by
   rw [List.nodup_append]
   refine ⟨hnd, by simp, fun a ha b hb => ?_⟩
   rw [List.mem_singleton.mp hb]
   exact fun q => hk (q ▸ ha)
  have fin : ∀ t2 : SetTable, TabOk led (es.size + 1) t2 -> ∀ b, R b { s with heap := s.heap.update a (Obj.putSet es1 t2) } := fun t2 h2 b => by
   refine h b _ { cls := .type "set", dict := none, data := .set es1 (ep + 1) t2 } (Heap.SameBut.update ..) ?_ ?_
   ·have := Heap.get?_update_self (Obj.putSet es1 t2) ho (by rw [putSet_of es1 t2 hd]; rfl)
    rw [putSet_of es1 t2 hd] at this; exact this
   ·rw [if_neg hk]
    exact ⟨es1, ep + 1, t2, rfl, hel1, hsz1 ▸ h2, by lia, hmem1, hnd1, by rw [List.length_append, hlen, hsz1]; rfl⟩
  refine wpAny_bind (hgw _ ?_)
  split
  ·refine wpAny_bind ?_
   rw [hashByValue_scannable 8 hsc]
   refine wpAny_pure ?_
   have h2 : TabOk led (es.size + 1) (if plainKind x then t1 else { t1 with plain := false }) := by
    split
    ·exact hnew.1
    ·exact hnew.1.plain
   refine set_tail ho hd ?_ (by lia) (by dsimp only; exact wpAny_pure (fin _ h2 _))
   exact h2.full (by lia)
  ·refine wpAny_bind (wpAny_pure ?_)
   simp only [↓reduceIte]
   refine set_tail ho hd (hnew.1.full (by lia)) (by lia) (by dsimp only; exact wpAny_pure (fin _ hnew.1 _))
end
end
section
variable {Γ : Cx}
noncomputable def setAll {K : Type} [DecidableEq K] : List K -> List K -> List K
 | [], acc => acc
 | k :: r, acc => setAll r (if k ∈ acc then acc else acc ++ [k])
theorem setAll_mem {K : Type} [DecidableEq K] : ∀ (ks acc : List K) (k : K), k ∈ setAll ks acc ↔ k ∈ acc \/ k ∈ ks
 | [], acc, k => ⟨.inl, fun h => h.elim id fun q => nomatch q⟩
 | x :: ks, acc, k => by
  show _ ∈ setAll ks _ ↔ _
  rw [setAll_mem ks]
  by_cases h : x ∈ acc
  ·rw [if_pos h]
   constructor
   ·rintro (h' | h')
    ·exact .inl h'
    ·exact .inr (List.mem_cons_of_mem _ h')
   ·rintro (h' | h')
    ·exact .inl h'
    ·rcases List.mem_cons.mp h' with rfl | h'
     ·exact .inl h
     ·exact .inr h'
  ·rw [if_neg h, List.mem_append, List.mem_singleton, List.mem_cons, or_assoc]
theorem setAll_nodup {K : Type} [DecidableEq K] : ∀ (ks acc : List K), acc.Nodup -> (setAll ks acc).Nodup
 | [], acc, h => h
 | x :: ks, acc, h => by
  show (setAll ks _).Nodup
  refine setAll_nodup ks _ ?_
  split
  ·exact h
  ·rename_i hx
   rw [List.nodup_append]
   refine ⟨h, by simp, fun a ha b hb => ?_⟩
   rw [List.mem_singleton.mp hb]
   exact fun q => hx (q ▸ ha)
theorem two_room {K : Type} {u v k : K} {acc : List K} (nd : acc.Nodup) (hs : ∀ x ∈ acc, x = u \/ x = v) (hk : k = u \/ k = v) (hn : k ∉ acc) : acc.length <= 1 := by
 match acc, nd, hs, hn with
 | [], _, _, _ => simp
 | [_], _, _, _ => simp
 | a :: b :: r, nd, hs, hn =>
  exfalso
  have ha := hs a (by simp)
  have hb := hs b (by simp)
  have hab : a ≠ b := by
   rw [List.nodup_cons] at nd
   exact fun q => nd.1 (by rw [q]; simp)
  have h1 : k ≠ a := fun q => hn (by rw [q]; simp)
  have h2 : k ≠ b := fun q => hn (by rw [q]; simp)
  rcases hk with rfl | rfl <;> rcases ha with rfl | rfl <;> rcases hb with rfl | rfl <;> first | exact h1 rfl | exact h2 rfl | exact hab rfl
section
variable {K : Type} [DecidableEq K] {knd : KeyKind Γ.prog Γ.w K} {enc : K -> V} {σ : Store} {F : Addr -> Prop} {s₀ : Shared} {W : Addr -> Prop} {J : List V -> (Addr -> Prop) -> Heap -> Prop} {tgt : Expr} {I a : Addr} {led : Bool}
theorem entry_set_loop : entryFor table "set.update.loop" = some Builtin.«set.update.loop» := entryFor_of_tree (by kernel_rfl)
theorem plain_set_loop : plainId "set.update.loop" = true := by decide +kernel
theorem set_run (P : Plain Γ I W J) (it : Iter Γ tgt I W J) (henc : ∀ {D : Addr -> Prop} {h : Heap} {k : K} {x : Value}, VRel Γ D h (enc k) x -> knd.is k x = true /\ x.scannable = true) {u v : K}
  (S₀ : St Γ F σ s₀) (N : ∀ b, W b -> s₀.heap.get? b = none) :
  ∀ (ks acc : List K) {A : Around} {h : Heap} {tk : Nat} {R : Result -> Shared -> Prop}, A.handled = none -> (∀ b o, s₀.heap.get? b = some o -> h.get? b = some o) -> (∃ o, h.get? a = some o /\ Set2 knd led o acc) -> s₀.heap.get? a = none ->
   J (ks.map enc) (DD σ (prot F a)) h -> (∀ k ∈ ks, k = u \/ k = v) -> (∀ k ∈ acc, k = u \/ k = v) ->
   (∀ h' tk', (∀ b o, s₀.heap.get? b = some o -> h'.get? b = some o) -> (∃ o, h'.get? a = some o /\ Set2 knd led o (setAll ks acc)) -> R (.ok (.ret .none)) { s₀ with heap := h', toks := tk' }) ->
   codeAny (Md Γ) A (.builtin "set.update.loop" ⟨[.ref a, .ref I], []⟩) R { s₀ with heap := h, toks := tk } := by
 intro ks
 induction ks with
 | nil =>
  intro acc A h tk R hA kk hS h0 j hu hv hR
  refine codeAny_builtin entry_set_loop ?_
  rw [Around.under_plainId plain_set_loop _]
  obtain ⟨o, ho, hS2⟩ := hS
  have H := fun b w => it.hollow _ _ _ b j w
  show wpAny _ _ (pyNext (.ref I) >>= _) _ _ _
  refine wpAny_bind (wpAny_mono (it.done A.in1 { s₀ with heap := h, toks := tk } _ _ hA j fun h' tk' k => ?_) (fun _ _ p => p) fun _ _ e => e.elim)
  show wpAny _ A.in1 (ret Value.none) _ _ _
  refine wpAny_pure (hR h' tk' (fun b o e => k b o (fun w => by rw [N b w] at e; cases e) (kk b o e)) ⟨o, k a o (fun w => ?_) ho, hS2⟩)
  obtain ⟨o', vs, h1, h2, _⟩ := H a w
  obtain ⟨es, ep, t, rfl, _⟩ := hS2
  rw [ho] at h1; cases h1; cases h2
 | cons k ks ih =>
  intro acc A h tk R hA kk hS h0 j hu hv hR
  refine codeAny_builtin entry_set_loop ?_
  rw [Around.under_plainId plain_set_loop _]
  obtain ⟨o, ho, hS2⟩ := hS
  have H := fun b w => it.hollow _ _ _ b j w
  have hWa : ¬ W a := fun w => by
   obtain ⟨o', vs, h1, h2, _⟩ := H a w
   obtain ⟨es, ep, t, rfl, _⟩ := hS2
   rw [ho] at h1; cases h1; cases h2
  have alive : ∀ b, DD σ (prot F a) b -> ∃ o, h.get? b = some o := fun b d => by
   rcases d with d | d | rfl
   ·obtain ⟨o, e⟩ := DD_alive S₀ b (.inl d); exact ⟨o, kk _ _ e⟩
   ·obtain ⟨o, e⟩ := DD_alive S₀ b (.inr d); exact ⟨o, kk _ _ e⟩
   ·exact ⟨o, ho⟩
  show wpAny _ _ (pyNext (.ref I) >>= _) _ _ _
  refine wpAny_bind (wpAny_mono (P A.in1 { s₀ with heap := h, toks := tk } _ _ _ _ hA j alive fun val h₂ tk₂ rx jx k' => ?_) (fun _ _ p => p) fun _ _ e => e.elim)
  obtain ⟨hkey, hsc⟩ := henc rx
  have ho₂ : h₂.get? a = some o := k' a o hWa ho
  have kk₂ : ∀ b o, s₀.heap.get? b = some o -> h₂.get? b = some o := fun b o e => k' b o (fun w => by rw [N b w] at e; cases e) (kk b o e)
  show wpAny _ A.in1 (holding [val] (setAdd a val) >>= _) _ _ _
  refine wpAny_bind (wpAny_holding ?_)
  unfold setAdd
  refine wpAny_holding ?_
  refine wpAny_bind (knd.pyHash hkey ?_)
  have hroom : k ∈ acc \/ acc.length <= 1 := by
   by_cases q : k ∈ acc
   ·exact .inl q
   ·obtain ⟨_, _, _, _, _, _, _, _, hnd, _⟩ := hS2
    exact .inr (two_room hnd hv (hu k List.mem_cons_self) q)
  refine set_add (s := { s₀ with heap := h₂, toks := tk₂ + 1 }) ho₂ hS2 hkey hsc hroom fun b h' o' hs' ho' hS' => ?_
  refine wpAny_pure ⟨plainId_quiet plain_set_loop _, ?_⟩
  have jj : J (ks.map enc) (DD σ (prot F a)) h' := it.frame _ _ _ _ _ jx (fun b o hb e => by
    refine (hs'.2 b (fun q => ?_)).trans e
    subst q
    rcases hb with ⟨nd, _⟩ | w
    ·exact nd (.inr (.inr rfl))
    ·exact hWa w) fun b o nd _ _ => nd
  refine ih (if k ∈ acc then acc else acc ++ [k]) hA (fun b o e => (hs'.2 b (fun q => by subst q; rw [h0] at e; cases e)).trans (kk₂ b o e)) ⟨o', ho', hS'⟩ h0 jj (fun x hx => hu x (List.mem_cons_of_mem _ hx)) (fun x hx => ?_) hR
  split at hx
  ·exact hv x hx
  ·rcases List.mem_append.mp hx with hx | hx
   ·exact hv x hx
   ·rw [List.mem_singleton.mp hx]; exact hu k List.mem_cons_self
end
end
section
variable {Γ : Cx}
noncomputable abbrev freshSet (led : Bool) : Obj := { cls := .type "set", dict := none, data := .set #[] 0 (.fresh 0 0 led) }
section
variable {prog : Program} {w : World} {A : Around} {E : Value -> Shared -> Prop} {s : Shared}
theorem code_set_new (a : Value) {Q₁ : Value -> Shared -> Prop}
  (h : Q₁ (.ref s.heap.objs.size) { s with heap := s.heap.push (freshSet (ledOf w)) }) :
  codeAny (model prog w) A (.call (.builtin "set.__new__") ⟨[.type "set", a], []⟩) (wants Q₁ E) s := by
 refine codeAny_of_tree ?_
 show wpAny _ A.in1 (do checkBuiltinCall "set.__new__" ⟨[.type "set", a], []⟩; again (.builtin "set.__new__" ⟨[.type "set", a], []⟩)) _ _ s
 refine wpAny_bind (wpAny_of_eq (PySem.F.newCall_set_1 a) (wpAny_pure ⟨plainId_quiet PySem.F.plain_set_new _, codeAny_builtin PySem.F.entry_set_new ?_⟩))
 rw [Around.under_plainId PySem.F.plain_set_new _]
 unfold Builtin.«set.__new__» Builtin.Frozenset.newClass
 have hsub := sub_set_self
 obtain ⟨hp, g, d, tk, os⟩ := s
 dsimp only
 wp_walk
 refine wpAny_askSetting (wpAny_pure ?_)
 dsimp only
 simp only [newObj]
 refine wpAny_bind (wpAny_alloc (wpAny_pure ?_))
 exact wpAny_pure h
set_option maxHeartbeats 3200000 in
theorem call_set {l : Addr} {items : Array Value} {Q : Value -> Shared -> Prop}
  (hh : A.handled = none) (hl : s.heap.IsList l items)
  (hloop : ∀ A' R, A'.handled = none -> (∀ h' tk, (∀ b o, s.heap.get? b = some o -> h'.get? b = some o) -> Q (.ref s.heap.objs.size) { s with heap := h', toks := tk } -> R (.ok (.ret .none)) { s with heap := h', toks := tk }) ->
   codeAny (model prog w) A' (.builtin "set.update.loop" ⟨[.ref s.heap.objs.size, .ref (s.heap.push (freshSet (ledOf w))).objs.size], []⟩) R { s with heap := (s.heap.push (freshSet (ledOf w))).push { cls := .type "list_iterator", data := .fields #[.ref l, .int 0 0] } }) :
  wpAny (model prog w) A (call (.type "set") [.ref l]) Q E s := by
 obtain ⟨c, tl, hmro⟩ := PySem.F.called_set.mro
 have hmade := PySem.F.called_set.made
 have hsub := PySem.F.called_set.sub
 refine wpAny_call (codeAny_of_tree ?_)
 show wpAny _ _ (callAny (.type "set") _) _ _ _
 refine wpAny_pure ⟨Code.quiet_builtin _ (by decide +kernel), codeAny_builtin PySem.F.entry_type_call ?_⟩
 rw [Around.under_plain (weight_type_call_type "set" [.ref l] []) rfl]
 have h1 := PySem.F.called_set.notType
 have h2 := PySem.F.called_set.canCreate
 have hct := PySem.F.typeCall_set_1 (.ref l)
 repeat (any_goals (first | assumption | wp_step))
 refine codeAny_mono (code_set_new (.ref l) (E := E) (Q₁ := fun obj s₁ => obj = .ref s.heap.objs.size /\ s₁ = { s with heap := s.heap.push (freshSet (ledOf w)) }) ⟨rfl, rfl⟩) fun r s' hr => ?_
 cases r with
 | error e => exact hr
 | ok fl =>
  cases fl with
  | ret obj =>
   obtain ⟨rfl, rfl⟩ := hr
   have hS : (s.heap.push (freshSet (ledOf w))).get? s.heap.objs.size = some (freshSet (ledOf w)) := Heap.get?_push_size _ rfl
   have hT : Shared.TypeIs { s with heap := s.heap.push (freshSet (ledOf w)) } (.ref s.heap.objs.size) "set" := ⟨_, hS, rfl⟩
   have hli := PySem.F.called_set.init.lookup
   have hbi := PySem.F.called_set.init.bind (.ref s.heap.objs.size)
   repeat (any_goals (first | assumption | wp_step))
   refine codeAny_mono (codeAny_call_builtin (R := wants (fun r s₂ => r = .none /\ ∃ h' tk, s₂ = { s with heap := h', toks := tk } /\ Q (.ref s.heap.objs.size) { s with heap := h', toks := tk }) E) PySem.F.called_set.init.plain PySem.F.entry_set_init (check_set_init_1 hT ?_)) fun r₂ s₂ hr₂ => ?_
   ·obtain ⟨ol, hol, hcl, nl, hdl⟩ := hl
    obtain ⟨ocls, odict, odata, oslots⟩ := ol
    simp only at hcl hdl
    subst hcl; subst hdl
    have hol' : (s.heap.push (freshSet (ledOf w))).get? l = some { cls := .type "list", dict := odict, data := .seq items nl, slots := oslots } := Heap.get?_push_of_some _ hol
    have hsls := PySem.F.sub_list_set
    have hslf := PySem.F.sub_list_frozenset
    have hne : (Value.type "list" == Value.type "dict") = false := by decide
    have hl1 : (s.heap.push (freshSet (ledOf w))).IsList l items := ⟨_, hol', rfl, nl, rfl⟩
    unfold Builtin.«set.__init__» noKeywords Builtin.Frozenset.updateFrom
    generalize hPI : pyIter = PI
    wp_walk
    subst hPI
    refine wpAny_pyIter_list hl1 ?_
    refine wpAny_bind (wpAny_runValue ?_)
    refine codeAny_mono (hloop A.in1.in1 (fun r s' => r = .ok (.ret .none) /\ ∃ h' tk, s' = { s with heap := h', toks := tk } /\ Q (.ref s.heap.objs.size) { s with heap := h', toks := tk }) (by simp [hh]) fun h' tk _ q => ⟨rfl, h', tk, rfl, q⟩) fun r s' hr => ?_
    obtain ⟨rfl, h', tk, rfl, q⟩ := hr
    show wpAny _ _ _ _ _ _
    refine wpAny_pure ?_
    show wpAny _ _ (ret Value.none) _ _ _
    exact wpAny_pure ⟨rfl, h', tk, rfl, q⟩
   ·cases r₂ with
    | error e => exact hr₂
    | ok fl₂ =>
     cases fl₂ with
     | ret r =>
      obtain ⟨rfl, h', tk, rfl, q⟩ := hr₂
      repeat (any_goals (first | assumption | wp_step))
     | _ => exact hr₂.elim
  | _ => exact hr.elim
end
end
section
variable {Γ : Cx}
section
variable {n : Nat} {sc : Scope} {ρ : Vars} {σ σ₁ : Store} {Q Q' : V -> Store -> Prop} {F : Addr -> Prop} {s : Shared}
theorem fresh_tab (led : Bool) : TabOk led 0 (.fresh 0 0 led) := ⟨rfl, Nat.le_refl _, rfl, rfl, fun p q e => by have := congrArg Array.size e; cases this⟩
theorem fresh_set {prog : Program} {w : World} {K : Type} [DecidableEq K] (knd : KeyKind prog w K) (led : Bool) : Set2 knd led (freshSet led) [] :=
 ⟨#[], 0, _, rfl, fun e he => by simp at he, fresh_tab led, Nat.zero_le _, fun k => by simp, List.nodup_nil, rfl⟩
theorem call_setK {K : Type} [DecidableEq K] {knd : KeyKind Γ.prog Γ.w K} {enc : K -> V} {A : Around} {ks : List K} {u v : K} {x : Value} {R : Value -> Shared -> Prop}
  (henc : ∀ {D : Addr -> Prop} {h : Heap} {k : K} {x : Value}, VRel Γ D h (enc k) x -> knd.is k x = true /\ x.scannable = true) (hA : A.handled = none) (S : St Γ F σ s) (r : VRel Γ (DD σ F) s.heap (.lst (ks.map enc)) x) (h2 : ∀ k ∈ ks, k = u \/ k = v)
  (h : ∀ a s' o, s.heap.get? a = none -> s'.heap.get? a = some o -> Set2 knd (ledOf Γ.w) o (setAll ks []) -> St Γ F σ s' -> Trans σ s σ s' -> R (.ref a) s') : wpAny (Md Γ) A (call (.type "set") [x]) R NoE s := by
 obtain ⟨l, arr, m, rfl, nd, ho, rs⟩ := r.lst_inv
 have h0 : s.heap.get? s.heap.objs.size = none := get_size _
 have hlS : l < s.heap.objs.size := Heap.lt_size ho
 have hsz : (s.heap.push (freshSet (ledOf Γ.w))).objs.size = s.heap.objs.size + 1 := Heap.size_push ..
 have hne : l ≠ (s.heap.push (freshSet (ledOf Γ.w))).objs.size := by rw [hsz]; exact Nat.ne_of_lt (Nat.lt_succ_of_lt hlS)
 have up : ∀ b o, s.heap.get? b = some o -> ((s.heap.push (freshSet (ledOf Γ.w))).push { cls := .type "list_iterator", data := .fields #[.ref l, .int 0 0] }).get? b = some o := fun b o e => Heap.get?_push_of_some _ (Heap.get?_push_of_some _ e)
 refine call_set hA ⟨_, ho, rfl, m, rfl⟩ fun A' R' hA' hR => ?_
 refine set_run (σ := σ) (F := F) (s₀ := s) (a := s.heap.objs.size) (tgt := .Name (Str.ofString "x") ⟨0, 0, 0, 0⟩) (Plain.list hne) (Iter.list _ l hne) henc (u := u) (v := v) S (fun b w => ?_) ks [] hA' up
  ⟨_, Heap.get?_push_of_some _ (Heap.get?_push_size _ rfl), fresh_set knd (ledOf Γ.w)⟩ h0 ?_ h2 (fun k hk => by cases hk) fun h' tk kk hS => hR h' tk kk ?_
 ·subst w; exact get_none_of_lt (by rw [hsz]; exact Nat.le_succ _)
 ·refine ⟨0, arr, m, ⟨_, Heap.get?_push_size _ rfl, rfl, rfl⟩, ?_, up _ _ ho, ?_⟩
  ·rintro (q | q | q)
   ·exact nd (.inl q)
   ·exact nd (.inr q)
   ·exact absurd hlS (by rw [q]; exact Nat.lt_irrefl _)
  ·rw [List.drop_zero]
   exact rs.mono (fun b o _ _ e => up b o e) fun b o nd e => by
    rintro (q | q | q)
    ·exact nd (.inl q)
    ·exact nd (.inr q)
    ·rw [q, h0] at e; cases e
 ·obtain ⟨o, ho', hS2⟩ := hS
  obtain ⟨S', T'⟩ := S.keepAll (h' := h') (tk := tk) kk
  exact h _ _ o h0 ho' hS2 S' T'
theorem ACall.setI {is : List Int} {u v : Int} (h2 : ∀ k ∈ is, k = u \/ k = v) (q : Q (.sI (setAll is [])) σ) : ACall Γ n (.typ "set") [.lst (is.map .int)] σ Q := by
 intro A s F fv vals hA S rf rv
 obtain rfl := rf.typ_inv
 obtain ⟨x, rfl, rd⟩ := rv.one_inv
 refine call_setK (knd := intKind Γ.prog Γ.w) (enc := V.int) (u := u) (v := v) (fun r => ?_) hA.1 S rd h2 fun a s' o h0 ho hS S' T' => ⟨_, σ, .at (fresh_at S h0) (.sI ho hS), S', T', q⟩
 have h1 := (isInt_eqV ⟨_, rfl⟩ r).trans (eqV_self _)
 obtain ⟨t, rfl⟩ := r.int_inv
 exact ⟨h1, rfl⟩
theorem ACall.setS {is : List Str} {u v : Str} (h2 : ∀ k ∈ is, k = u \/ k = v) (q : Q (.sS (setAll is [])) σ) : ACall Γ n (.typ "set") [.lst (is.map .str)] σ Q := by
 intro A s F fv vals hA S rf rv
 obtain rfl := rf.typ_inv
 obtain ⟨x, rfl, rd⟩ := rv.one_inv
 refine call_setK (knd := strKind Γ.prog Γ.w) (enc := V.str) (u := u) (v := v) (fun r => ?_) hA.1 S rd h2 fun a s' o h0 ho hS S' T' => ⟨_, σ, .at (fresh_at S h0) (.sS ho hS), S', T', q⟩
 have h1 := (isStr_eqV ⟨_, rfl⟩ r).trans (eqV_self _)
 obtain ⟨t, rfl⟩ := r.str_inv
 exact ⟨h1, rfl⟩
end
end
section
variable {Γ : Cx}
theorem erase_perm {α : Type} : ∀ {l : List α} {i : Nat} (h : i < l.length), (l[i] :: l.eraseIdx i).Perm l
 | x :: l, 0, _ => by simp
 | x :: l, i + 1, h => by
  simp only [List.getElem_cons_succ, List.eraseIdx_cons_succ]
  exact (List.Perm.swap _ _ _).trans ((erase_perm (by simpa using h)).cons x)
theorem pick_go {α : Type} (next : Nat -> Nat) : ∀ (fuel k : Nat) (left : List α) (out : Array α), left.length <= fuel -> (pickOrder.go next fuel k left out).toList.Perm (out.toList ++ left) := by
 intro fuel
 induction fuel with
 | zero =>
  intro k left out h
  have : left = [] := List.eq_nil_of_length_eq_zero (Nat.le_zero.mp h)
  subst this
  rw [List.append_nil]; exact .refl _
 | succ fuel ih =>
  intro k left out h
  have e : ∀ o, left[next k % left.length]? = o -> pickOrder.go next (fuel + 1) k left out = (match o with | some x => pickOrder.go next fuel (k + 1) (left.eraseIdx (next k % left.length)) (out.push x) | none => out) := fun o h => by subst h; rfl
  cases hx : left[next k % left.length]? with
  | some x =>
   rw [e _ hx]
   have hlt : next k % left.length < left.length := by
    rcases Nat.lt_or_ge (next k % left.length) left.length with q | q
    ·exact q
    ·rw [List.getElem?_eq_none q] at hx; cases hx
   refine (ih _ _ _ ?_).trans ?_
   ·rw [List.length_eraseIdx_of_lt hlt]; lia
   ·rw [Array.toList_push, List.append_assoc]
    refine List.Perm.append_left _ ?_
    rw [List.getElem?_eq_getElem hlt] at hx
    injection hx with hx
    rw [<- hx]
    exact erase_perm hlt
  | none =>
   rw [e _ hx]
   have : left = [] := by
    cases left with
    | nil => rfl
    | cons x l =>
     exfalso
     have := List.getElem?_eq_none_iff.mp hx
     exact absurd (Nat.mod_lt (next k) (Nat.zero_lt_succ _)) (Nat.not_lt.mpr this)
   subst this
   rw [List.append_nil]
theorem pick_perm {α : Type} (next : Nat -> Nat) (xs : Array α) : (pickOrder next xs).toList.Perm xs.toList := by
 have := pick_go next xs.size 0 xs.toList #[] (by simp)
 simpa [pickOrder] using this
section
variable {prog : Program} {w : World} {A : Around} {E : Value -> Shared -> Prop} {s : Shared}
theorem wpAny_choose {src : Source} {n : Nat} {Q : Nat -> Shared -> Prop} (hn : n ≠ 0) (h : ∀ i, i < n -> Q i { s with drawn := s.drawn.bump src }) : wpAny (model prog w) A (choose src n) Q E s :=
 fun _ _ _ => ⟨hn, h _ (Nat.mod_lt _ (Nat.pos_of_ne_zero hn))⟩
theorem wpAny_drawOrder {α : Type} : ∀ (n : Nat) (xs : List α) {s : Shared} {Q : List α -> Shared -> Prop}, xs.length <= n -> (∀ ys dr, ys.Perm xs -> Q ys { s with drawn := dr }) -> wpAny (model prog w) A (drawOrder n xs) Q E s := by
 intro n
 induction n with
 | zero =>
  intro xs s Q hl h
  have : xs = [] := List.eq_nil_of_length_eq_zero (Nat.le_zero.mp hl)
  subst this
  show wpAny _ _ (pure []) _ _ _
  exact wpAny_pure (h [] s.drawn .nil)
 | succ n ih =>
  intro xs s Q hl h
  cases xs with
  | nil => exact wpAny_pure (h [] s.drawn .nil)
  | cons x xs =>
   show wpAny _ _ (choose .order (x :: xs).length >>= _) _ _ _
   refine wpAny_bind (wpAny_choose (by simp) fun i hi => ?_)
   rw [List.getElem?_eq_getElem hi]
   dsimp only
   refine wpAny_bind (ih _ ?_ fun ys dr hp => ?_)
   ·rw [List.length_eraseIdx_of_lt hi]; simp at hl ⊢; lia
   ·exact wpAny_pure (h _ dr ((hp.cons _).trans (erase_perm hi)))
theorem wpAny_byText {Q : Bool -> Shared -> Prop} (h : Q (!ledOf w) s) : wpAny (model prog w) A setsByText Q E s := by
 unfold setsByText
 refine wpAny_bind (wpAny_askSetting (wpAny_pure ?_))
 have e : (w.params.followText "set-order") = !ledOf w := by unfold ledOf; rw [Bool.not_not]
 show Q (w.params.followText "set-order") s
 rw [e]; exact h
theorem setDrawn_eq (a : Addr) : setDrawn a = (do
  let (es, _, t) <- setState a
  let byText <- setsByText
  return !byText && (!t.plain && decide (es.size > 1))) := rfl
noncomputable def mustLed (es : Array (Int × Value)) (t : SetTable) : Sem Unit := do
 if !t.led && !es.isEmpty then unsupported "set:maker-not-led"
theorem setNext_eq (a : Addr) (slot given ep : Nat) : setNext a slot given ep = (do
  let (es, epoch, t) <- setState a
  if <- setsByText then
   if epoch != ep then unsupported "set_iterator.__next__:elements-changed"
   return ((<- setWalk a)[given]?).map fun e => (e.2, slot)
  if (!t.plain && decide (es.size > 1)) then unsupported "set_iterator.__next__:the-table-is-plain-no-more"
  (mustLed es t)
  let i := SetTable.below t.place slot
  return match es[i]?, t.place[i]? with
   | some (_, x), some j => some (x, j + 1)
   | _, _ => none) := rfl
end
end
section
variable {Γ : Cx}
theorem slot_setit_next : Slot "set_iterator" "__next__" "set_iterator.__next__" :=
 .of (owner := "set_iterator") (n := "__next__") (by rw [typeLookup_type, builtinLookup_eq_fast]; kernel_rfl) (by decide +kernel) (by decide +kernel) (by decide +kernel)
  (by first | exact .inl (by decide +kernel) | exact .inr (by decide +kernel)) (by rw [isSubtype_type]; kernel_rfl)
theorem entry_setit_next : entryFor table "set_iterator.__next__" = some Builtin.«set_iterator.__next__» := entryFor_of_tree (by kernel_rfl)
theorem owner_setit : Manifest.owners.lookup (String.ofList ['r', 'o', 't', 'a', 'r', 'e', 't', 'i', '_', 't', 'e', 's'].reverse) = some Manifest.sig_set_iterator := by kernel_rfl
theorem args_setit_next (a : Value) : argsOk "set_iterator.__next__" ⟨[a], []⟩ := by
 unfold argsOk; rw [signature?_of (id := "set_iterator.__next__") (n := ['_', '_', 't', 'x', 'e', 'n', '_', '_']) (o := ['r', 'o', 't', 'a', 'r', 'e', 't', 'i', '_', 't', 'e', 's']) (by kernel_rfl) owner_setit]; kernel_rfl
theorem entry_set_iter : entryFor table "set.__iter__" = some Builtin.«frozenset.__iter__» :=
 entryFor_alias (id' := "frozenset.__iter__") (by kernel_rfl) rfl (by decide +kernel) (by kernel_rfl)
noncomputable abbrev setIt (first : Value) (i : Nat) (a : Addr) (n ep : Nat) : Obj := { cls := .type "set_iterator", data := .fields #[first, .int i 0, .ref a, .int n 0, .int ep 0] }
noncomputable abbrev setObj (es : Array (Int × Value)) (ep : Nat) (t : SetTable) : Obj := { cls := .type "set", dict := none, data := .set es ep t }
section
variable {prog : Program} {w : World} {A : Around} {E : Value -> Shared -> Prop} {s : Shared} {a I : Addr} {es : Array (Int × Value)} {ep i : Nat} {t : SetTable}
theorem raise_stop {α : Type} {Q : α -> Shared -> Prop} (hh : A.handled = none) (h : ∀ h' e, (∀ b o, s.heap.get? b = some o -> h'.get? b = some o) -> (∃ o, h'.get? e = some o /\ o.cls = .type "StopIteration") -> E (.ref e) { s with heap := h' }) :
  wpAny (model prog w) A (newExc (.type "StopIteration") [] >>= fun e => raiseNew e) Q E s := by
 refine wpAny_bind ?_
 simp only [newExc, newTuple]
 refine wpAny_bind (wpAny_newObj_type ?_ (by size_fits))
 refine wpAny_bind (m := firstArgMember _ _) (wpAny_of_eq (a := Value.none) (by first | rfl | (simp only [firstArgMember]; rfl)) ?_)
 refine wpAny_newObj_type ?_ (by size_fits)
 simp only [raiseNew]
 refine wpAny_bind (wpAny_handled ?_)
 rw [hh]
 refine wpAny_bind (wpAny_pure (wpAny_throw ?_))
 exact h _ _ (fun b o e => Heap.get?_push_of_some _ (Heap.get?_push_of_some _ e)) ⟨_, Heap.get?_push_size _ rfl, rfl⟩
theorem setEntries_of {Q : Array (Int × Value) -> Shared -> Prop} (ho : s.heap.get? a = some (setObj es ep t)) (hf : t.fits es.size = true) (h : Q es s) : wpAny (model prog w) A (setEntries a) Q E s := by
 unfold setEntries
 exact wpAny_bind (wpAny_setState_of ho rfl hf (wpAny_pure h))
theorem setit_next_int {k : Nat} {Q : Option Value -> Shared -> Prop} (hh : A.handled = none) (hI : s.heap.get? I = some (setIt (.int k 0) i a es.size ep)) (ho : s.heap.get? a = some (setObj es ep t)) (hf : t.fits es.size = true)
  {r : Option (Value × Nat)} (hn : ∀ A' (R : Option (Value × Nat) -> Shared -> Prop) E', R r s -> wpAny (model prog w) A' (setNext a k i ep) R E' s)
  (hsome : ∀ x nx, r = some (x, nx) -> ∀ h', h'.get? I = some (setIt (.int nx 0) (i + 1) a es.size ep) -> Heap.ExtBut I s.heap h' -> Q (some x) { s with heap := h' })
  (hnone : r = none -> ∀ h', Heap.ExtBut I s.heap h' -> Q none { s with heap := h' }) : wpAny (model prog w) A (pyNext (.ref I)) Q E s := by
 have hT : s.TypeIs (.ref I) "set_iterator" := ⟨_, hI, rfl⟩
 unfold pyNext
 refine wpAny_bind (wpAny_attempt (wpAny_callSpecial?_slot (name := Str.ofString "__next__") hT slot_setit_next
  (wpAny_call_entry slot_setit_next hT entry_setit_next ?_ (args_setit_next _))))
 unfold Builtin.«set_iterator.__next__»
 refine wpAny_bind (m := slotArgs "__next__" 0 _) (wpAny_pure ?_)
 refine wpAny_bind (wpAny_fieldsOf hI rfl ?_)
 dsimp only
 refine wpAny_bind (setEntries_of ho hf ?_)
 rw [if_neg (by simp)]
 refine wpAny_bind (hn _ _ _ ?_)
 cases r with
 | some p =>
  obtain ⟨x, nx⟩ := p
  dsimp only
  refine wpAny_bind (wpAny_setField_rec hI (by simp) fun h₁ h₁I h₁s => ?_)
  refine wpAny_bind (wpAny_setField_rec (s := { s with heap := h₁ }) h₁I (by simp) fun h₂ h₂I h₂s => ?_)
  refine wpAny_pure ⟨_, rfl, wpAny_pure (hsome x nx rfl h₂ ?_ fun b o e hb => ?_)⟩
  ·rw [h₂I]
   simp [rawInt, setIt]
  ·exact (h₂s.extBut) b o e (h₁s.extBut b o e hb)
 | none =>
  dsimp only
  refine wpAny_bind (wpAny_setField_rec hI (by simp) fun h₁ h₁I h₁s => ?_)
  refine raise_stop (by exact hh) fun h' e kk ⟨o, ho', hc⟩ => ?_
  refine wpAny_bind (wpAny_isInstance (T := "StopIteration") (b := true) ⟨o, ho', hc⟩ isSubtype_stop ?_)
  exact wpAny_pure (hnone rfl h' fun b o e hb => kk b o (h₁s.extBut b o e hb))
theorem setit_next_tup {p : Addr} {q : Nat} {places : List Nat} {Q : Option Value -> Shared -> Prop} (hh : A.handled = none) (hI : s.heap.get? I = some (setIt (.ref p) i a es.size ep)) (hp : s.heap.get? p = some (seqObj "tuple" (places.map fun i => rawInt (i : Nat)).toArray q))
  (ho : s.heap.get? a = some (setObj es ep t)) (hf : t.fits es.size = true) (hpl : ∀ j ∈ places, j < es.size)
  (hsome : ∀ j e, places[i]? = some j -> es[j]? = some e -> ∀ h', h'.get? I = some (setIt (.ref p) (i + 1) a es.size ep) -> Heap.ExtBut I s.heap h' -> Q (some e.2) { s with heap := h' })
  (hnone : places[i]? = none -> ∀ h', Heap.ExtBut I s.heap h' -> Q none { s with heap := h' }) : wpAny (model prog w) A (pyNext (.ref I)) Q E s := by
 have hT : s.TypeIs (.ref I) "set_iterator" := ⟨_, hI, rfl⟩
 unfold pyNext
 refine wpAny_bind (wpAny_attempt (wpAny_callSpecial?_slot (name := Str.ofString "__next__") hT slot_setit_next
  (wpAny_call_entry slot_setit_next hT entry_setit_next ?_ (args_setit_next _))))
 unfold Builtin.«set_iterator.__next__»
 refine wpAny_bind (m := slotArgs "__next__" 0 _) (wpAny_pure ?_)
 refine wpAny_bind (wpAny_fieldsOf hI rfl ?_)
 dsimp only
 refine wpAny_bind (setEntries_of ho hf ?_)
 rw [if_neg (by simp)]
 refine wpAny_bind (wpAny_seqItems hp rfl ?_)
 dsimp only
 cases hx : places[i]? with
 | some j =>
  have e1 : ((places.map fun i => rawInt (i : Nat)).toArray)[i]? = some (.int j 0) := by simp [hx, rawInt]
  rw [Int.toNat_natCast, e1]
  dsimp only
  have hj : j < es.size := hpl j (List.mem_of_getElem? hx)
  have hej : es[j]? = some es[j] := Array.getElem?_eq_getElem hj
  refine wpAny_bind ?_
  unfold setNextDrawn
  refine wpAny_bind (wpAny_setState_of ho rfl hf ?_)
  dsimp only
  rw [if_neg (by simp)]
  refine wpAny_bind (wpAny_pure ?_)
  rw [Int.toNat_natCast, hej]
  dsimp only
  refine wpAny_pure ?_
  refine wpAny_bind (wpAny_setField_rec hI (by simp) fun h₁ h₁I h₁s => ?_)
  refine wpAny_pure ⟨_, rfl, wpAny_pure (hsome j es[j] hx hej h₁ ?_ h₁s.extBut)⟩
  rw [h₁I]
  simp [rawInt, setIt]
 | none =>
  have e1 : ((places.map fun i => rawInt (i : Nat)).toArray)[i]? = none := by simp [hx]
  rw [Int.toNat_natCast, e1]
  dsimp only
  refine wpAny_bind (wpAny_setField_rec hI (by simp) fun h₁ h₁I h₁s => ?_)
  refine wpAny_bind (wpAny_setField_rec (s := { s with heap := h₁ }) h₁I (by simp) fun h₂ h₂I h₂s => ?_)
  refine raise_stop (by exact hh) fun h' e kk ⟨o, ho', hc⟩ => ?_
  refine wpAny_bind (wpAny_isInstance (T := "StopIteration") (b := true) ⟨o, ho', hc⟩ isSubtype_stop ?_)
  exact wpAny_pure (hnone hx h' fun b o e hb => kk b o (h₂s.extBut b o e (h₁s.extBut b o e hb)))
end
end
section
variable {Γ : Cx}
section
variable {prog : Program} {w : World} {A : Around} {E : Value -> Shared -> Prop} {s : Shared} {a I : Addr} {es : Array (Int × Value)} {ep i : Nat} {t : SetTable}
theorem below_nil (j : Nat) : SetTable.below #[] j = 0 := by simp [SetTable.below, SetTable.below.go]
theorem below_two {p q : Nat} (h : p < q) (j : Nat) : SetTable.below #[p, q] j = if q < j then 2 else if p < j then 1 else 0 := by
 rw [show SetTable.below #[p, q] j = SetTable.below.go #[p, q] j (1 + 1) 0 2 from rfl]
 by_cases h1 : q < j
 ·simp [SetTable.below.go, h1]
 ·by_cases h2 : p < j
  ·simp [SetTable.below.go, h1, h2]
  ·simp [SetTable.below.go, h1, h2]
theorem below_step (ht : TabOk led n t) (hn : n <= 2) {i : Nat} (hi : i < n) : ∃ j, t.place[i]? = some j /\ SetTable.below t.place (j + 1) = i + 1 := by
 have hs := ht.size
 have hr := ht.rise
 generalize t.place = l at hs hr ⊢
 obtain ⟨l⟩ := l
 match l, hs, hr with
 | [], hs, hr => simp at hs; lia
 | [p], hs, hr =>
  simp at hs
  have : i = 0 := by lia
  subst this
  refine ⟨p, rfl, ?_⟩
  rw [below_one, if_pos (Nat.lt_succ_self p)]
 | [p, q], hs, hr =>
  simp at hs
  have hpq := hr p q rfl
  have : i = 0 \/ i = 1 := by lia
  rcases this with rfl | rfl
  ·refine ⟨p, rfl, ?_⟩
   rw [below_two hpq, if_neg (by lia), if_pos (Nat.lt_succ_self p)]
  ·refine ⟨q, rfl, ?_⟩
   rw [below_two hpq, if_pos (Nat.lt_succ_self q)]
 | _ :: _ :: _ :: _, hs, hr => simp at hs; lia
theorem below_zero (ht : TabOk led n t) (hn : n <= 2) : SetTable.below t.place 0 = 0 := by
 have hs := ht.size
 have hr := ht.rise
 generalize t.place = l at hs hr ⊢
 obtain ⟨l⟩ := l
 match l, hs, hr with
 | [], hs, hr => exact below_nil 0
 | [p], hs, hr => rw [below_one, if_neg (Nat.not_lt_zero _)]
 | [p, q], hs, hr => rw [below_two (hr p q rfl), if_neg (Nat.not_lt_zero _), if_neg (Nat.not_lt_zero _)]
 | _ :: _ :: _ :: _, hs, hr => simp at hs; lia
inductive SetWay (w : World) (a : Addr) (es : Array (Int × Value)) (ep : Nat) (t : SetTable) (ys : List Value) (p : Addr) : Value -> Nat -> Heap -> Prop
 | text {h : Heap} {i : Nat} : ledOf w = false -> ys = (pickOrder (w.params.setOrder a ep) es).toList.map Prod.snd -> SetWay w a es ep t ys p (.int (0 : Nat) 0) i h
 | plain {h : Heap} {i k : Nat} : ledOf w = true -> (!t.plain && decide (es.size > 1)) = false -> ys = es.toList.map Prod.snd -> SetTable.below t.place k = i -> SetWay w a es ep t ys p (.int k 0) i h
 | drawn {h : Heap} {i q : Nat} {places : List Nat} : h.get? p = some (seqObj "tuple" (places.map fun i => rawInt (i : Nat)).toArray q) -> (∀ j ∈ places, j < es.size) ->
   (∀ i : Nat, ys[i]? = (places[i]?).bind fun j => (es[j]?).map Prod.snd) -> SetWay w a es ep t ys p (.ref p) i h
theorem pick_size {α : Type} (next : Nat -> Nat) (xs : Array α) : (pickOrder next xs).size = xs.size := by
 have := (pick_perm next xs).length_eq
 simpa using this
theorem walks_set (hh : A.handled = none) {p : Addr} {ys : List Value} (ht : TabOk (ledOf w) es.size t) (hn : es.size <= 2) (hl : ys.length = es.size) (ha : a ≠ I) (hp : p ≠ I)
  (hself : ∀ (s : Shared) (Q : Value -> Shared -> Prop) (E : Value -> Shared -> Prop), s.TypeIs (.ref I) "set_iterator" -> Q (.ref I) s -> wpAny (model prog w) A (pyIter (.ref I)) Q E s) :
  Walks prog w A I [I, a, p] [I] es.size (fun i v => ys[i]? = some v) (fun i h => (∃ first, h.get? I = some (setIt first i a es.size ep) /\ SetWay w a es ep t ys p first i h) /\ h.get? a = some (setObj es ep t)) where
 sub := fun b hb => by simp at hb; simp [hb]
 frame := fun i h h' st hk => by
  obtain ⟨⟨first, h1, h2⟩, h3⟩ := st
  refine ⟨⟨first, hk _ (by simp) _ h1, ?_⟩, hk _ (by simp) _ h3⟩
  cases h2 with
  | text e1 e2 => exact .text e1 e2
  | plain e1 e2 e3 e4 => exact .plain e1 e2 e3 e4
  | drawn e1 e2 e3 => exact .drawn (hk _ (by simp) _ e1) e2 e3
 item := fun i s Q E hi st hQ => by
  obtain ⟨⟨first, h1, h2⟩, h3⟩ := st
  have hf := ht.fits hn
  have hiy : i < ys.length := by rw [hl]; exact hi
  have out : ∀ h' : Heap, Heap.ExtBut I s.heap h' -> ∀ b o, b ∉ [I] -> s.heap.get? b = some o -> h'.get? b = some o := fun h' x b o hb e => x b o (fun q => hb (by simp [q])) e
  cases h2 with
  | text e1 e2 =>
   refine setit_next_int (r := some (ys[i], 0)) hh h1 h3 hf (fun A' R E' hR => ?_) (fun x nx e h' hI' hs' => ?_) fun e => nomatch e
   ·rw [setNext_eq]
    refine wpAny_bind (wpAny_setState_of h3 rfl hf ?_)
    refine wpAny_bind (wpAny_byText ?_)
    rw [e1]
    dsimp only
    rw [Bool.not_false, if_pos rfl, if_neg (by simp)]
    refine wpAny_bind ?_
    unfold setWalk
    refine wpAny_bind (wpAny_setState_of h3 rfl hf ?_)
    refine wpAny_bind (wpAny_byText ?_)
    rw [e1]
    rw [Bool.not_false, if_pos rfl]
    refine wpAny_bind (wpAny_askSetting (wpAny_pure (wpAny_pure ?_)))
    have : ((pickOrder (w.params.setOrder a ep) es)[i]?).map (fun e => (e.2, (0 : Nat))) = some (ys[i], 0) := by
     have h5 : ys[i]? = some ys[i] := List.getElem?_eq_getElem hiy
     generalize ys[i] = y at h5 ⊢
     rw [e2, List.getElem?_map] at h5
     rw [<- Array.getElem?_toList]
     cases q : (pickOrder (w.params.setOrder a ep) es).toList[i]? with
     | none => rw [q] at h5; cases h5
     | some e => rw [q] at h5; injection h5 with h5; subst h5; rfl
    show R (((pickOrder (w.params.setOrder a ep) es)[i]?).map (fun e => (e.2, (0 : Nat)))) s
    rw [this]; exact hR
   ·injection e with e; injection e with ex en
    subst ex; subst en
    refine hQ _ h' s.toks (List.getElem?_eq_getElem hiy) ⟨⟨_, hI', .text e1 e2⟩, hs' _ _ ha h3⟩ (out h' hs')
  | @plain _ _ k e1 e2 e3 e4 =>
   obtain ⟨j, hj, hb⟩ := below_step ht hn hi
   refine setit_next_int (r := some (ys[i], j + 1)) hh h1 h3 hf (fun A' R E' hR => ?_) (fun x nx e h' hI' hs' => ?_) fun e => nomatch e
   ·rw [setNext_eq]
    refine wpAny_bind (wpAny_setState_of h3 rfl hf ?_)
    refine wpAny_bind (wpAny_byText ?_)
    rw [e1]
    dsimp only
    rw [Bool.not_true, if_neg Bool.false_ne_true, e2, if_neg Bool.false_ne_true]
    refine wpAny_bind ?_
    unfold mustLed
    rw [ht.led, e1, Bool.not_true, Bool.false_and, if_neg Bool.false_ne_true]
    refine wpAny_pure ?_
    rw [e4, hj]
    have h5 : es[i]? = some es[i] := Array.getElem?_eq_getElem hi
    rw [h5]
    refine wpAny_pure ?_
    dsimp only
    have h6 : ys[i] = es[i].2 := by subst e3; simp
    rw [h6] at hR
    exact hR
   ·injection e with e; injection e with ex en
    subst ex; subst en
    exact hQ _ h' s.toks (List.getElem?_eq_getElem hiy) ⟨⟨_, hI', .plain e1 e2 e3 hb⟩, hs' _ _ ha h3⟩ (out h' hs')
  | @drawn _ _ q places e1 e2 e3 =>
   refine setit_next_tup hh h1 e1 h3 hf e2 (fun j e hj he h' hI' hs' => ?_) fun e => ?_
   ·refine hQ _ h' s.toks ?_ ⟨⟨_, hI', .drawn (hs' _ _ hp e1) e2 e3⟩, hs' _ _ ha h3⟩ (out h' hs')
    rw [e3, hj]
    show (es[j]?).map Prod.snd = _
    rw [he]; rfl
   ·exfalso
    have h5 : ys[i]? = some ys[i] := List.getElem?_eq_getElem hiy
    rw [e3, e] at h5; cases h5
 done := fun s Q E st hQ => by
  obtain ⟨⟨first, h1, h2⟩, h3⟩ := st
  have hf := ht.fits hn
  have out : ∀ h' : Heap, Heap.ExtBut I s.heap h' -> ∀ b o, b ∉ [I] -> s.heap.get? b = some o -> h'.get? b = some o := fun h' x b o hb e => x b o (fun q => hb (by simp [q])) e
  cases h2 with
  | text e1 e2 =>
   refine setit_next_int (r := none) hh h1 h3 hf (fun A' R E' hR => ?_) (fun x nx e => nomatch e) fun e h' hs' => hQ h' s.toks (out h' hs')
   rw [setNext_eq]
   refine wpAny_bind (wpAny_setState_of h3 rfl hf ?_)
   refine wpAny_bind (wpAny_byText ?_)
   rw [e1]
   dsimp only
   rw [Bool.not_false, if_pos rfl, if_neg (by simp)]
   refine wpAny_bind ?_
   unfold setWalk
   refine wpAny_bind (wpAny_setState_of h3 rfl hf ?_)
   refine wpAny_bind (wpAny_byText ?_)
   rw [e1]
   rw [Bool.not_false, if_pos rfl]
   refine wpAny_bind (wpAny_askSetting (wpAny_pure (wpAny_pure ?_)))
   have : ((pickOrder (w.params.setOrder a ep) es)[es.size]?).map (fun e => (e.2, (0 : Nat))) = none := by
    rw [Array.getElem?_eq_none (by rw [pick_size]; exact Nat.le_refl _)]; rfl
   show R (((pickOrder (w.params.setOrder a ep) es)[es.size]?).map (fun e => (e.2, (0 : Nat)))) s
   rw [this]; exact hR
  | @plain _ _ k e1 e2 e3 e4 =>
   refine setit_next_int (r := none) hh h1 h3 hf (fun A' R E' hR => ?_) (fun x nx e => nomatch e) fun e h' hs' => hQ h' s.toks (out h' hs')
   rw [setNext_eq]
   refine wpAny_bind (wpAny_setState_of h3 rfl hf ?_)
   refine wpAny_bind (wpAny_byText ?_)
   rw [e1]
   dsimp only
   rw [Bool.not_true, if_neg Bool.false_ne_true, e2, if_neg Bool.false_ne_true]
   refine wpAny_bind ?_
   unfold mustLed
   rw [ht.led, e1, Bool.not_true, Bool.false_and, if_neg Bool.false_ne_true]
   refine wpAny_pure ?_
   rw [e4, Array.getElem?_eq_none (Nat.le_refl _)]
   exact wpAny_pure hR
  | @drawn _ _ q places e1 e2 e3 =>
   refine setit_next_tup hh h1 e1 h3 hf e2 (fun j e hj he h' hI' hs' => ?_) fun e h' hs' => hQ h' s.toks (out h' hs')
   exfalso
   have h5 : ys[es.size]? = none := List.getElem?_eq_none (by rw [hl]; exact Nat.le_refl _)
   rw [e3, hj] at h5
   have : (es[j]?).map Prod.snd = none := h5
   rw [he] at this; cases this
 self := fun i s Q E st hQ => by
  obtain ⟨⟨first, h1, h2⟩, h3⟩ := st
  exact hself _ _ _ ⟨_, h1, rfl⟩ hQ
end
end
section
variable {Γ : Cx}
theorem slot_setit_iter : Slot "set_iterator" "__iter__" "set_iterator.__iter__" :=
 .of (owner := "set_iterator") (n := "__iter__") (by rw [typeLookup_type, builtinLookup_eq_fast]; kernel_rfl) (by decide +kernel) (by decide +kernel) (by decide +kernel)
  (by first | exact .inl (by decide +kernel) | exact .inr (by decide +kernel)) (by rw [isSubtype_type]; kernel_rfl)
theorem args_setit_iter (a : Value) : argsOk "set_iterator.__iter__" ⟨[a], []⟩ := by
 unfold argsOk; rw [signature?_of (id := "set_iterator.__iter__") (n := ['_', '_', 'r', 'e', 't', 'i', '_', '_']) (o := ['r', 'o', 't', 'a', 'r', 'e', 't', 'i', '_', 't', 'e', 's']) (by kernel_rfl) owner_setit]; kernel_rfl
theorem entry_setit_iter : entryFor table "set_iterator.__iter__" = some Builtin.«dict_keyiterator.__iter__» :=
 entryFor_alias (id' := "dict_keyiterator.__iter__") (by kernel_rfl) rfl (by decide +kernel) (by kernel_rfl)
theorem setit_self {prog : Program} {w : World} {A : Around} {I : Addr} (s : Shared) (Q : Value -> Shared -> Prop) (E : Value -> Shared -> Prop) (hT : s.TypeIs (.ref I) "set_iterator") (h : Q (.ref I) s) : wpAny (model prog w) A (pyIter (.ref I)) Q E s := by
 refine wpAny_pyIter_slot hT slot_setit_iter (wpAny_call_entry slot_setit_iter hT entry_setit_iter ?_ (args_setit_iter _))
 show wpAny _ _ (ret (.ref I)) _ _ s
 exact wpAny_pure ⟨_, rfl, "set_iterator", _, hT, slot_setit_next.lookup, h⟩
section
variable {prog : Program} {w : World} {A : Around} {E : Value -> Shared -> Prop} {s : Shared} {a I : Addr} {es : Array (Int × Value)} {ep i : Nat} {t : SetTable}
theorem set_iter {Q : Value -> Shared -> Prop} (ho : s.heap.get? a = some (setObj es ep t)) (ht : TabOk (ledOf w) es.size t) (hn : es.size <= 2)
  (h : ∀ h' dr (I p : Addr) (ys : List Value) first, (∀ b o, s.heap.get? b = some o -> h'.get? b = some o) -> ys.Perm (es.toList.map Prod.snd) -> s.heap.get? I = none -> p ≠ I -> (p = a \/ s.heap.get? p = none) -> h'.get? I = some (setIt first 0 a es.size ep) -> p < h'.objs.size ->
   SetWay w a es ep t ys p first 0 h' -> Q (.ref I) { s with heap := h', drawn := dr }) :
  wpAny (model prog w) A (pyIter (.ref a)) Q E s := by
 have hT : s.TypeIs (.ref a) "set" := ⟨_, ho, rfl⟩
 have hf := ht.fits hn
 have haI : a ≠ s.heap.objs.size := Nat.ne_of_lt (Heap.lt_size ho)
 refine wpAny_pyIter_slot hT PySem.F.slot_set_iter (wpAny_call_entry PySem.F.slot_set_iter hT entry_set_iter ?_ (PySem.F.args_set_iter_1 _))
 unfold Builtin.«frozenset.__iter__»
 refine wpAny_bind (m := Builtin.Frozenset.slot0 "__iter__" _) (wpAny_pure ?_)
 refine wpAny_bind ?_
 unfold Builtin.Frozenset.sizeOf
 refine wpAny_bind (setEntries_of ho hf (wpAny_pure ?_))
 rw [setDrawn_eq]
 refine wpAny_bind (wpAny_bind (wpAny_setState_of ho rfl hf ?_))
 refine wpAny_bind (wpAny_byText (wpAny_pure ?_))
 dsimp only
 rw [Bool.not_not]
 cases hl : ledOf w with
 | false =>
  rw [Bool.false_and, if_neg Bool.false_ne_true]
  refine wpAny_bind (wpAny_pure ?_)
  refine wpAny_bind ?_
  unfold setEpoch
  refine wpAny_bind (wpAny_setState_of ho rfl hf (wpAny_pure ?_))
  refine wpAny_bind ?_
  unfold newFields
  refine wpAny_newObj_type ?_
  refine wpAny_pure ⟨_, rfl, "set_iterator", _, ⟨_, Heap.get?_push_size _ rfl, rfl⟩, slot_setit_next.lookup, ?_⟩
  exact h _ s.drawn _ a ((pickOrder (w.params.setOrder a ep) es).toList.map Prod.snd) (.int (0 : Nat) 0) (fun b o e => Heap.get?_push_of_some _ e) ((pick_perm _ _).map _) (get_size _) haI (.inl rfl) (Heap.get?_push_size _ rfl)
   (Heap.lt_size (Heap.get?_push_of_some _ ho)) (.text hl rfl)
 | true =>
  rw [Bool.true_and]
  cases hd : (!t.plain && decide (es.size > 1)) with
  | false =>
   rw [if_neg Bool.false_ne_true]
   refine wpAny_bind (wpAny_pure ?_)
   refine wpAny_bind ?_
   unfold setEpoch
   refine wpAny_bind (wpAny_setState_of ho rfl hf (wpAny_pure ?_))
   refine wpAny_bind ?_
   unfold newFields
   refine wpAny_newObj_type ?_
   refine wpAny_pure ⟨_, rfl, "set_iterator", _, ⟨_, Heap.get?_push_size _ rfl, rfl⟩, slot_setit_next.lookup, ?_⟩
   exact h _ s.drawn _ a (es.toList.map Prod.snd) (.int (0 : Nat) 0) (fun b o e => Heap.get?_push_of_some _ e) (.refl _) (get_size _) haI (.inl rfl) (Heap.get?_push_size _ rfl)
    (Heap.lt_size (Heap.get?_push_of_some _ ho)) (.plain hl hd rfl (below_zero ht hn))
  | true =>
   rw [if_pos rfl]
   refine wpAny_bind (wpAny_drawOrder _ _ (Nat.le_of_eq List.length_range) fun ps dr hp => wpAny_bind ?_)
   refine wpAny_newTuple ?_ (by rw [List.length_map, hp.length_eq, List.length_range]; exact Nat.le_trans hn (by decide))
   refine wpAny_bind ?_
   unfold setEpoch
   refine wpAny_bind (wpAny_setState_of (Heap.get?_push_of_some _ ho) rfl hf (wpAny_pure ?_))
   refine wpAny_bind ?_
   unfold newFields
   refine wpAny_newObj_type ?_
   have hps : ∀ j ∈ ps, j < es.size := fun j hj => List.mem_range.mp (hp.mem_iff.mp hj)
   have up : ∀ b o, s.heap.get? b = some o -> ∀ o1 o2, ((s.heap.push o1).push o2).get? b = some o := fun b o e o1 o2 => Heap.get?_push_of_some _ (Heap.get?_push_of_some _ e)
   refine wpAny_pure ⟨_, rfl, "set_iterator", _, ⟨_, Heap.get?_push_size _ rfl, rfl⟩, slot_setit_next.lookup, ?_⟩
   refine h _ dr _ s.heap.objs.size (ps.map fun j => (es[j]?.map Prod.snd).getD .none) (.ref s.heap.objs.size) (fun b o e => up b o e _ _) ?_ (get_none_of_lt (by rw [Heap.size_push]; exact Nat.le_succ _)) ?_ (.inr (get_size _)) (Heap.get?_push_size _ rfl) ?_ ?_
   ·have e1 : es.toList.map Prod.snd = (List.range es.size).map fun j => (es[j]?.map Prod.snd).getD .none := by
     apply List.ext_getElem
     ·simp
     ·intro i h1 h2
      have : i < es.size := by simpa using h1
      simp [this]
    rw [e1]
    exact hp.map _
   ·rw [Heap.size_push]; exact Nat.ne_of_lt (Nat.lt_succ_self _)
   ·rw [Heap.size_push, Heap.size_push]; exact Nat.lt_succ_of_lt (Nat.lt_succ_self _)
   ·refine .drawn (q := 0) (places := ps) (Heap.get?_push_of_some _ (Heap.get?_push_size _ rfl)) hps fun i => ?_
    rw [List.getElem?_map]
    cases hx : ps[i]? with
    | none => rfl
    | some j =>
     have := hps j (List.mem_of_getElem? hx)
     show some ((es[j]?.map Prod.snd).getD .none) = es[j]?.map Prod.snd
     rw [Array.getElem?_eq_getElem this]; rfl
end
end
section
variable {Γ : Cx}
section
variable {prog : Program} {w : World} {A : Around} {E : Value -> Shared -> Prop} {s : Shared} {r : Addr} {es : Array (Int × Value)} {ep : Nat} {t : SetTable}
theorem hint_set {Q : Bool -> Shared -> Prop} (hT : s.TypeIs (.ref r) "set") (h : Q false s) : wpAny (model prog w) A (Builtin.List.listLengthHint (.ref r)) Q E s := by
 unfold Builtin.List.listLengthHint
 refine wpAny_bind (wpAny_specialOf hT PySem.F.slot_set_len.lookup ?_)
 generalize hid : ("set.__len__" : String) = id0
 wp_delta
 rw [show splitId id0 = some ("set", "__len__") from by subst hid; decide +kernel]
 subst hid
 refine wpAny_bind (wpAny_isInstance (T := "set") (b := true) hT (by rw [isSubtype_type]; kernel_rfl) ?_)
 refine wpAny_ite_split (fun hab => absurd hab (by decide)) (fun _ => ?_)
 refine wpAny_ite_split (fun _ => ?_) (fun hab => absurd (by decide +kernel) hab)
 refine wpAny_bind (wpAny_typeOf hT ?_)
 exact wpAny_pure h
theorem set_extend {R : Result -> Shared -> Prop} (hh : A.handled = none) (ho : s.heap.get? r = some (setObj es ep t)) (ht : TabOk (ledOf w) es.size t) (hn : es.size <= 2) (S : Addr) (hSr : S ≠ r) (res : Value) (c₀ : Nat) (hS : s.heap.get? S = some { cls := .type "list", data := .seq #[] c₀ })
  (hR : ∀ h' tk dr acc' c', (∀ b o, b ≠ S -> s.heap.get? b = some o -> h'.get? b = some o) -> h'.get? S = some { cls := .type "list", dict := none, data := .seq acc' c', slots := #[] } -> acc'.toList.Perm (es.toList.map Prod.snd) -> R (.ok (.ret res)) { s with heap := h', toks := tk, drawn := dr }) :
  wpAny (model prog w) A.in1 (Builtin.List.listExtendWith (.ref S) (.ref r) res)
   (fun fin s' => match fin with | .done f => R (.ok f) s' | .again c' => c'.quiet = true /\ codeAny (model prog w) A c' R s') (fun e s' => R (.error e) s') s := by
 have hT : s.TypeIs (.ref r) "set" := ⟨_, ho, rfl⟩
 have hsl : es.size <= sizeLine := Nat.le_trans hn (by decide)
 unfold Builtin.List.listExtendWith
 refine wpAny_bind (wpAny_typeOf (T := "set") hT ?_)
 have h1 : Builtin.List.listSameRef (.ref S) (.ref r) = false := by simp [Builtin.List.listSameRef, hSr]
 have h2 : (Value.type "set" == Value.type "list") = false := by decide
 have h3 : (Value.type "set" == Value.type "tuple") = false := by decide
 simp only [h1, h2, h3, Bool.or_false, Bool.false_eq_true, if_false]
 refine wpAny_bind (set_iter ho ht hn fun h₁ dr I p ys first kk hp hI0 hpI hpa hI hps hw => ?_)
 have ho₁ := kk _ _ ho
 have hS₁ := kk _ _ hS
 have hraI : r ≠ I := fun q => by rw [q, hI0] at ho; cases ho
 have hSI : S ≠ I := fun q => by rw [q, hI0] at hS; cases hS
 have hSp : S ≠ p := by
  rcases hpa with rfl | hpa
  ·exact hSr
  ·exact fun q => by rw [q, hpa] at hS; cases hS
 have hSf : S ∉ [I, r, p] := by simp only [List.mem_cons, List.not_mem_nil, or_false, not_or]; exact ⟨hSI, hSr, hSp⟩
 have hl : ys.length = es.size := by rw [hp.length_eq, List.length_map, Array.length_toList]
 have W := walks_set (w := w) (A := A.in1) (prog := prog) (p := p) (ep := ep) (ys := ys) (I := I) (a := r) (by exact hh) ht hn hl hraI hpI setit_self
 have key : ∀ (h : Heap) (c₁ tk : Nat), (∀ b o, b ≠ S -> h₁.get? b = some o -> h.get? b = some o) ->
   h.get? S = some { cls := .type "list", data := .seq #[] c₁ } -> codeAny (model prog w) A (.builtin "list.extend.loop" ⟨[.ref S, .ref I, res], []⟩) R { s with heap := h, toks := tk, drawn := dr } := by
  intro h c₁ tk hk hS₁
  have st0 : (∃ first, h.get? I = some (setIt first 0 r es.size ep) /\ SetWay w r es ep t ys p first 0 h) /\ h.get? r = some (setObj es ep t) :=
   W.frame 0 h₁ h ⟨⟨first, hI, hw⟩, ho₁⟩ fun b hb o e => hk b o (fun q => hSf (q ▸ hb)) e
  refine codeAny_extend_loopS W.toS hsl S hSf res es.size 0 _ #[] c₁ rfl (Nat.zero_le _) st0 hS₁ (ItemsOf.nil _) fun s' acc' c' hm hS' hacc => ?_
  rw [Moved.eq_with hm]
  refine hR s'.heap s'.toks dr acc' c' (fun b o hb e => hm.heap b o (fun hmem => ?_) (hk b o hb (kk _ _ e))) hS' ?_
  ·rcases List.mem_cons.mp hmem with e' | hmem
   ·exact hb e'
   ·rw [List.mem_singleton.mp hmem, hI0] at e; cases e
  ·have : acc'.toList = ys := by
    apply List.ext_getElem
    ·rw [Array.length_toList, hacc.1, hl]
    ·intro i h1 h2
     have : ys[i]? = some acc'.toList[i] := hacc.2 i acc'.toList[i] (by rw [<- Array.getElem?_toList]; exact List.getElem?_eq_getElem h1)
     rw [List.getElem?_eq_getElem h2] at this
     injection this with this
     exact this.symm
   rw [this]; exact hp
 refine wpAny_bind (wpAny_holding (hint_set ⟨_, ho₁, rfl⟩ ?_))
 refine wpAny_ite_split (fun _ => ?_) (fun _ => wpAny_pure ⟨plainId_quiet PySem.F.plain_extend_loop _, key _ c₀ _ (fun b o _ e => e) hS₁⟩)
 refine wpAny_bind (wpAny_rule ?_)
 refine wpAny_bind ?_
 show wpAny _ _ (updateSeq S (·.push .none) >>= fun _ => updateSeq S (·.pop)) _ _ _
 refine wpAny_bind (wpAny_updateSeq hS₁ rfl ?_)
 have hS₂ := Heap.get?_update_self (Obj.mapSeq (·.push Value.none)) hS₁ rfl
 refine wpAny_updateSeq (hz := by seq_fits) hS₂ rfl ?_
 have hS₃ := Heap.get?_update_self (Obj.mapSeq (·.pop)) hS₂ rfl
 refine wpAny_pure ⟨plainId_quiet PySem.F.plain_extend_loop _, key _ _ _ (fun b o hb e => ?_) hS₃⟩
 exact (Heap.get?_update_other _ _ (Ne.symm hb)).trans ((Heap.get?_update_other _ _ (Ne.symm hb)).trans e)
theorem set_collect {R : List Value -> Shared -> Prop} (hh : A.handled = none) (ho : s.heap.get? r = some (setObj es ep t)) (ht : TabOk (ledOf w) es.size t) (hn : es.size <= 2)
  (h : ∀ h' tk dr vs, (∀ b o, s.heap.get? b = some o -> h'.get? b = some o) -> vs.Perm (es.toList.map Prod.snd) -> R vs { s with heap := h', toks := tk, drawn := dr }) :
  wpAny (model prog w) A (collect (.ref r)) R E s := by
 unfold collect
 refine wpAny_bind (wpAny_runValue (codeAny_builtin entry_proto_collect' ?_))
 rw [Around.under_plainId PySem.F.plain_proto_collect _]
 show wpAny _ A.in1 (newList [] >>= fun l => again (.builtin "list.__iadd__" ⟨[l, .ref r], []⟩)) _ _ s
 refine wpAny_bind (wpAny_newObj_type ?_)
 refine wpAny_pure ⟨plainId_quiet PySem.F.plain_list_iadd _, codeAny_builtin entry_list_iadd' ?_⟩
 rw [Around.under_plainId PySem.F.plain_list_iadd _]
 have hS₁ : (s.heap.push { cls := .type "list", data := .seq ([] : List Value).toArray }).get? s.heap.objs.size = some { cls := .type "list", data := .seq #[] } := Heap.get?_push_size _ rfl
 show wpAny _ A.in1 (Builtin.List.listExtendWith (.ref s.heap.objs.size) (.ref r) (.ref s.heap.objs.size)) _ _ _
 have key := set_extend (prog := prog) (A := A) (s := { s with heap := s.heap.push { cls := .type "list", data := .seq ([] : List Value).toArray } })
  (R := fun (q : Result) (s' : Shared) => ∃ (h' : Heap) (tk : Nat) (dr : _) (acc' : Array Value) (c' : Nat), q = .ok (.ret (.ref s.heap.objs.size)) /\ s' = { s with heap := h', toks := tk, drawn := dr } /\
   (∀ b o, s.heap.get? b = some o -> h'.get? b = some o) /\ h'.get? s.heap.objs.size = some { cls := .type "list", dict := none, data := .seq acc' c', slots := #[] } /\ acc'.toList.Perm (es.toList.map Prod.snd))
  hh (Heap.get?_push_of_some _ ho) ht hn s.heap.objs.size (Nat.ne_of_gt (Heap.lt_size ho)) (.ref s.heap.objs.size) 0 hS₁
  (fun h' tk dr acc' c' hk hS' hacc => ⟨h', tk, dr, acc', c', rfl, rfl, fun b o e => hk b o (Nat.ne_of_lt (Heap.lt_size e)) (Heap.get?_push_of_some _ e), hS', hacc⟩)
 refine wpAny_mono key (fun fin s' x => ?_) fun e s' x => ?_
 ·cases fin with
  | done f =>
   obtain ⟨h', tk, dr, acc', c', e, rfl, hk, hS', hacc⟩ := x
   cases e
   show wpAny _ A (load s.heap.objs.size >>= _) _ _ _
   refine wpAny_bind (wpAny_load hS' ?_)
   exact wpAny_pure (h h' tk dr _ hk hacc)
  | again c₁ =>
   refine ⟨x.1, codeAny_mono x.2 fun q s₂ y => ?_⟩
   obtain ⟨h', tk, dr, acc', c', rfl, rfl, hk, hS', hacc⟩ := y
   show wpAny _ A (load s.heap.objs.size >>= _) _ _ _
   refine wpAny_bind (wpAny_load hS' ?_)
   exact wpAny_pure (h h' tk dr _ hk hacc)
 ·obtain ⟨_, _, _, _, _, e', _⟩ := x
  cases e'
end
theorem St.keepAllD {F : Addr -> Prop} {σ : Store} {s : Shared} {h' : Heap} {tk : Nat} {dr : _} (x : St Γ F σ s) (k : ∀ b o, s.heap.get? b = some o -> h'.get? b = some o) : St Γ F σ { s with heap := h', toks := tk, drawn := dr } /\ Trans σ s σ { s with heap := h', toks := tk, drawn := dr } :=
 ⟨x.grow k rfl rfl, Trans.grow k⟩
section
variable {n : Nat} {σ σ₁ : Store} {Q Q' : V -> Store -> Prop} {F : Addr -> Prop} {s : Shared}
theorem perm_of_sub {K : Type} [DecidableEq K] : ∀ {ks ls : List K}, ks.Nodup -> (∀ k ∈ ks, k ∈ ls) -> ls.length <= ks.length -> ls.Perm ks
 | [], ls, _, _, h => by
  have : ls = [] := List.eq_nil_of_length_eq_zero (Nat.le_zero.mp h)
  rw [this]
 | k :: ks, ls, nd, hs, h => by
  rw [List.nodup_cons] at nd
  have hk : k ∈ ls := hs k List.mem_cons_self
  refine (List.perm_cons_erase hk).trans (.cons _ (perm_of_sub nd.2 (fun x hx => ?_) ?_))
  ·exact (List.mem_erase_of_ne (fun q => nd.1 (by rw [<- q]; exact hx))).mpr (hs x (List.mem_cons_of_mem _ hx))
  ·rw [List.length_erase_of_mem hk]
   simp only [List.length_cons] at h
   lia
theorem set2_vals {prog : Program} {w : World} {K : Type} [DecidableEq K] {knd : KeyKind prog w K} {led : Bool} {es : Array (Int × Value)} {ep : Nat} {t : SetTable} {ks : List K} (h : Set2 knd led (setObj es ep t) ks) (f : Value -> K) (hf : ∀ k v, knd.is k v = true -> f v = k)
  {vs : List Value} (hp : vs.Perm (es.toList.map Prod.snd)) : (vs.map f).Perm ks /\ ∀ v ∈ vs, ∃ k, knd.is k v = true := by
 obtain ⟨es', ep', t', he, hel, ht, hz, hmem, hnd, hlen⟩ := h
 cases he
 refine ⟨perm_of_sub hnd (fun k hk => ?_) ?_, fun v hv => ?_⟩
 ·obtain ⟨e, he, hke⟩ := (hmem k).mp hk
  exact List.mem_map.mpr ⟨e.2, hp.mem_iff.mpr (List.mem_map.mpr ⟨e, he, rfl⟩), hf _ _ hke⟩
 ·rw [List.length_map, hp.length_eq, List.length_map, hlen, Array.length_toList]
  exact Nat.le_refl _
 ·obtain ⟨e, he, rfl⟩ := List.mem_map.mp (hp.mem_iff.mp hv)
  obtain ⟨⟨k, hk, _⟩, _⟩ := hel e he
  exact ⟨k, hk⟩
theorem Set2.parts {prog : Program} {w : World} {K : Type} [DecidableEq K] {knd : KeyKind prog w K} {led : Bool} {o : Obj} {ks : List K} (h : Set2 knd led o ks) : ∃ es ep t, o = setObj es ep t /\ TabOk led es.size t /\ es.size <= 2 :=
 let ⟨es, ep, t, e, _, ht, hz, _⟩ := h; ⟨es, ep, t, e, ht, hz⟩
end
end
section
variable {Γ : Cx}
section
variable {n : Nat} {σ σ₁ : Store} {Q Q' : V -> Store -> Prop} {F : Addr -> Prop} {s : Shared}
theorem sorted_of {A : Around} {x : Value} {enc : List V -> Prop} {R : Value -> Shared -> Prop} {PV : List Value -> Prop} (S : St Γ F σ s)
  (hcol : ∀ R' : List Value -> Shared -> Prop, (∀ h' tk dr vs, (∀ b o, s.heap.get? b = some o -> h'.get? b = some o) -> PV vs -> R' vs { s with heap := h', toks := tk, drawn := dr }) -> wpAny (Md Γ) A.in1 (collect x) R' NoE s)
  (hn : ∀ vs, PV vs -> vs.length < 64)
  (hsort : ∀ (A : Around) (s : Shared) (P : Fin -> Shared -> Prop) vs a, PV vs -> s.heap.get? a = some (seqObj "list" vs.toArray 0) ->
   (∀ (out : Array Value) ys, enc ys -> VsRel Γ (DD σ F) s.heap ys out.toList -> P (.done (.ret .none)) { s with heap := sortedHeap s.heap a vs out }) -> wpAny (Md Γ) A (Builtin.«list.sort» ⟨[.ref a], []⟩) P NoE s)
  (hflat : ∀ ys h h' D D' xs, enc ys -> VsRel Γ D h ys xs -> VsRel Γ D' h' ys xs)
  (h : ∀ ys D s', enc ys -> VRel Γ (DD σ F) s'.heap (.lst ys) (.ref D) -> St Γ F σ s' -> Trans σ s σ s' -> R (.ref D) s') :
  wpAny (Md Γ) A (call (.builtin "sorted") [x]) R NoE s := by
 refine call_function_entry kind_sorted plain_sorted entry_sorted (args_sorted1 _) ?_
 unfold Builtin.«sorted»
 refine wpAny_bind (m := checkCount "sorted" 1 1 _) (wpAny_pure ?_)
 refine wpAny_bind (hcol _ fun h' tk dr vs kk hP => ?_)
 have hl := hn vs hP
 refine wpAny_bind (wpAny_newList ?_ (by have : (1000000 : Nat) <= sizeLine := (by decide); lia))
 have ho : (h'.push (seqObj "list" vs.toArray 0)).get? h'.objs.size = some (seqObj "list" vs.toArray 0) := Heap.get?_push_size _ rfl
 refine wpAny_bind (wpAny_holding (wpAny_call_entry PyProof.Rows.slot_list_sort ⟨_, ho, rfl⟩ PyProof.Rows.entry_list_sort (hsort _ _ _ vs _ hP ho fun out ys he hr => ⟨.none, rfl, ?_⟩) (PyProof.Rows.args_list_sort _)))
 obtain ⟨c, hc⟩ := sortedHeap_at (vs := vs) (out := out) ho
 have kk' : ∀ b o, s.heap.get? b = some o -> (sortedHeap (h'.push (seqObj "list" vs.toArray 0)) h'.objs.size vs out).get? b = some o := fun b o e => by
  have e1 := Heap.get?_push_of_some (seqObj "list" vs.toArray 0) (kk b o e)
  have hb : b < h'.objs.size := Heap.lt_size (kk b o e)
  exact (sortedHeap_old (Nat.ne_of_lt hb) (by rw [Heap.size_push]; exact Nat.lt_succ_of_lt hb)).trans e1
 obtain ⟨S', T'⟩ := St.keepAllD (h' := sortedHeap (h'.push (seqObj "list" vs.toArray 0)) h'.objs.size vs out) (tk := tk) (dr := dr) S kk'
 have hD : s.heap.get? h'.objs.size = none := by
  cases q : s.heap.get? h'.objs.size with
  | none => rfl
  | some o => exact absurd (Heap.lt_size (kk _ _ q)) (Nat.lt_irrefl _)
 refine wpAny_pure ⟨_, rfl, h ys _ _ he (.at (fresh_at S hD) (.lst hc (hflat _ _ _ _ _ _ he hr))) S' T'⟩
noncomputable def intOf : Value -> Int
 | .int i _ => i
 | _ => 0
theorem is_int {prog : Program} {w : World} (k : Int) (v : Value) (h : (intKind prog w).is k v = true) : intOf v = k /\ ∃ i t, v = .int i t := by
 obtain ⟨t, rfl⟩ := Value.isInt_shape h
 exact ⟨rfl, _, _, rfl⟩
theorem is_str {prog : Program} {w : World} (k : Str) (v : Value) (h : (strKind prog w).is k v = true) : strOf v = k /\ ∃ i t, v = .str i t := by
 obtain ⟨t, rfl⟩ := Value.isStrOf_shape h
 exact ⟨rfl, _, _, rfl⟩
theorem strs_of {D : Addr -> Prop} {h : Heap} {is : List Str} : ∀ {xs : List Value}, VsRel Γ D h (is.map .str) xs -> StrsAre xs is := by
 induction is with
 | nil => intro xs r; obtain rfl := r.nil_inv; exact .nil
 | cons i is ih => intro xs r; obtain ⟨y, ys, rfl, a, r'⟩ := r.cons_inv; obtain ⟨t, rfl⟩ := a.str_inv; exact .cons _ _ (ih r')
theorem ints_map : ∀ (vs : List Value), (∀ v ∈ vs, ∃ i t, v = .int i t) -> IntsAre vs (vs.map intOf)
 | [], _ => .nil
 | v :: vs, h => by
  obtain ⟨i, t, rfl⟩ := h v List.mem_cons_self
  exact .cons i t (ints_map vs fun u hu => h u (List.mem_cons_of_mem _ hu))
theorem of_strs {D : Addr -> Prop} {h : Heap} {is : List Str} {xs : List Value} (x : StrsAre xs is) : VsRel Γ D h (is.map .str) xs := by
 induction x with
 | nil => exact .nil
 | cons x t _ ih => exact .cons (.str x t) ih
theorem ACall.sortedSI {ks : List Int} (q : ∀ js : List Int, js.Perm ks -> js.Pairwise (· <= ·) -> Q (.lst (js.map .int)) σ) : ACall Γ n (.blt "sorted") [.sI ks] σ Q := by
 intro A s F fv vals hA S rf rv
 obtain rfl := rf.blt_inv
 obtain ⟨x, rfl, rd⟩ := rv.one_inv
 cases rd with
 | «at» nd ro =>
  cases ro with
  | sI ho h2 =>
   obtain ⟨es, ep, t, rfl, ht, hz⟩ := h2.parts
   refine sorted_of (PV := fun vs => vs.Perm (es.toList.map Prod.snd)) (enc := fun ys => ∃ js : List Int, ys = js.map .int /\ js.Perm ks /\ js.Pairwise (· <= ·)) S (fun R' hR => set_collect (by exact hA.1) ho ht hz hR) (fun vs hp => ?_)
    (fun A s P vs a hp ha hP => ?_) (fun ys h h' D D' xs he hr => ?_) fun ys D s' he r S' T' => ?_
   ·rw [hp.length_eq, List.length_map, Array.length_toList]; lia
   ·obtain ⟨h3, h4⟩ := set2_vals h2 intOf (fun k v h => (is_int k v h).1) hp
    have hI := ints_map vs fun v hv => (let ⟨k, hk⟩ := h4 v hv; (is_int k v hk).2)
    have hlen : vs.length < 64 := by rw [hp.length_eq, List.length_map, Array.length_toList]; lia
    exact list_sort_tree (n := 0) (vs := vs) ha hI hlen fun out ns' hI' hp' ho' => hP out _ ⟨ns', rfl, hp'.trans h3, ho'⟩ (of_ints hI')
   ·obtain ⟨js, rfl, _⟩ := he
    exact of_ints (ints_of hr)
   ·obtain ⟨js, rfl, e1, e2⟩ := he
    exact ⟨_, σ, r, S', T', q js e1 e2⟩
theorem ACall.sortedSS {ks : List Str} (q : ∀ js : List Str, js.Perm ks -> sortedS js = true -> Q (.lst (js.map .str)) σ) : ACall Γ n (.blt "sorted") [.sS ks] σ Q := by
 intro A s F fv vals hA S rf rv
 obtain rfl := rf.blt_inv
 obtain ⟨x, rfl, rd⟩ := rv.one_inv
 cases rd with
 | «at» nd ro =>
  cases ro with
  | sS ho h2 =>
   obtain ⟨es, ep, t, rfl, ht, hz⟩ := h2.parts
   refine sorted_of (PV := fun vs => vs.Perm (es.toList.map Prod.snd)) (enc := fun ys => ∃ js : List Str, ys = js.map .str /\ js.Perm ks /\ sortedS js = true) S (fun R' hR => set_collect (by exact hA.1) ho ht hz hR) (fun vs hp => ?_)
    (fun A s P vs a hp ha hP => ?_) (fun ys h h' D D' xs he hr => ?_) fun ys D s' he r S' T' => ?_
   ·rw [hp.length_eq, List.length_map, Array.length_toList]; lia
   ·obtain ⟨h3, h4⟩ := set2_vals h2 strOf (fun k v h => (is_str k v h).1) hp
    have hI := strsAre_map vs fun v hv => (let ⟨k, hk⟩ := h4 v hv; (is_str k v hk).2)
    have hlen : vs.length < 64 := by rw [hp.length_eq, List.length_map, Array.length_toList]; lia
    refine list_sort_treeK strKind_oneLt (n := 0) (vs := vs) ha hI.keysOf (fun v₁ v₂ rest e => keyKind_strs (by rw [<- e]; exact hI)) hlen fun st' hp' hs' => ?_
    obtain ⟨ss', e1, e2, e3⟩ := sorted_out_str hI hp' hs'
    exact hP _ _ ⟨ss', rfl, e2.trans h3, e3⟩ (of_strs e1)
   ·obtain ⟨js, rfl, _⟩ := he
    exact of_strs (strs_of hr)
   ·obtain ⟨js, rfl, e1, e2⟩ := he
    exact ⟨_, σ, r, S', T', q js e1 e2⟩
end
end
section
variable {Γ : Cx}
noncomputable abbrev IsZip2 (h : Heap) (z TI TO : Addr) (f0 : Value) (b : Bool) : Prop :=
 h.get? z = some { cls := .type "zip", dict := none, data := .fields #[f0, .bool b, .bool false, .ref TI, .ref TO], slots := #[] }
section
variable {prog : Program} {w : World} {A : Around} {E : Value -> Shared -> Prop} {s : Shared}
theorem wpAny_alive {a : Addr} {Q : Option Obj -> Shared -> Prop} (h : Q (s.heap.get? a) s) : wpAny (model prog w) A (loadIfAlive a) Q E s := fun _ _ _ => h
theorem zip_notfree {z TI TO T : Addr} {oT : Obj} {f : Bool} {Q : Bool -> Shared -> Prop} (hz : IsZip2 s.heap z TI TO (rawInt T) f) (hT : s.heap.get? T = some oT)
  (hQ : ∀ h', IsZip2 h' z TI TO (rawInt T) true -> Heap.ExtBut z s.heap h' -> h'.objs.size = s.heap.objs.size -> Q false { s with heap := h' }) : wpAny (model prog w) A (Builtin.SmallTypes.ownedTupleIsFree (.ref z)) Q E s := by
 unfold Builtin.SmallTypes.ownedTupleIsFree
 refine wpAny_bind (wpAny_field hz rfl (x := rawInt T) rfl ?_)
 show wpAny _ _ (loadIfAlive ((T : Nat) : Int).toNat >>= _) _ _ _
 rw [Int.toNat_natCast]
 refine wpAny_bind (wpAny_alive ?_)
 rw [hT]
 dsimp only
 rw [if_neg (by simp)]
 refine wpAny_bind (wpAny_field hz rfl (x := .bool f) rfl ?_)
 cases f with
 | true =>
  rw [if_neg (by decide)]
  exact wpAny_pure (hQ s.heap hz (fun _ _ _ e => e) rfl)
 | false =>
  rw [if_pos (by decide)]
  refine wpAny_bind (wpAny_setField_rec hz (by simp) fun h' hz' hs' => ?_)
  exact wpAny_pure (hQ h' hz' hs'.extBut hs'.1)
theorem zip_next_item2 {z TI TO i1 i2 l1 l2 T : Addr} {oT : Obj} {f : Bool} {k1 k2 : Nat} {xs ys : Array Value} {x y : Value} {Q : Value -> Shared -> Prop} (D : ZipApart z TI TO i1 i2 l1 l2)
  (hz : IsZip2 s.heap z TI TO (rawInt T) f) (hT : s.heap.get? T = some oT) (hTI : IsPair s.heap TI (.ref i1) (.ref i2))
  (h1 : s.heap.IsListIter i1 l1 k1) (h2 : s.heap.IsListIter i2 l2 k2) (hl1 : s.heap.IsList l1 xs) (hl2 : s.heap.IsList l2 ys) (hx : xs[k1]? = some x) (hy : ys[k2]? = some y)
  (hQ : ∀ h', IsZip2 h' z TI TO (rawInt T) true -> h'.IsListIter i1 l1 (k1 + 1) -> h'.IsListIter i2 l2 (k2 + 1) -> IsPair h' s.heap.objs.size x y ->
   (∀ c o, c ≠ z -> c ≠ i1 -> c ≠ i2 -> s.heap.get? c = some o -> h'.get? c = some o) -> Q (.ref s.heap.objs.size) { s with heap := h' }) :
  wpAny (model prog w) A (Builtin.«zip.__next__» ⟨[.ref z], []⟩) (fun fin s' => ∃ v, fin = .done (.ret v) /\ Q v s') E s := by
 show wpAny _ _ (field (.ref z) 2 >>= _) _ _ _
 refine wpAny_bind (wpAny_field hz rfl (x := .bool false) rfl ?_)
 show wpAny _ _ (field (.ref z) 3 >>= _) _ _ _
 refine wpAny_bind (wpAny_field hz rfl (x := .ref TI) rfl ?_)
 refine wpAny_bind (wpAny_seqItems hTI rfl ?_)
 show wpAny _ _ (Builtin.SmallTypes.ownedTupleIsFree (.ref z) >>= _) _ _ _
 refine wpAny_bind ?_
 refine zip_notfree hz hT fun h₁ hz₁ hs₁ hsz₁ => ?_
 simp only [Bool.false_eq_true, if_false, List.forIn_toArray, List.forIn_cons, List.forIn_nil]
 refine wpAny_bind ?_
 refine wpAny_bind (wpAny_bind (wpAny_holding ?_))
 show wpAny _ _ (Builtin.SmallTypes.nextOf (.ref i1) >>= _) _ _ _
 refine wpAny_bind (wpAny_nextOf_list_item (h1.extBut hs₁ D.i1z) (hl1.extBut hs₁ D.l1z) hx fun h₂ h1₂ hs₂ => wpAny_pure ?_)
 dsimp only
 refine wpAny_pure ?_
 dsimp only
 refine wpAny_bind (wpAny_bind (wpAny_holding ?_))
 show wpAny _ _ (Builtin.SmallTypes.nextOf (.ref i2) >>= _) _ _ _
 refine wpAny_bind (wpAny_nextOf_list_item ((h2.extBut hs₁ D.i2z).extBut hs₂.extBut D.i12.symm) ((hl2.extBut hs₁ D.l2z).extBut hs₂.extBut D.l2i1) hy fun h₃ h2₃ hs₃ => wpAny_pure ?_)
 dsimp only
 refine wpAny_pure ?_
 dsimp only
 refine wpAny_pure ?_
 dsimp only
 refine wpAny_bind (wpAny_newTuple ?_ (show 2 <= sizeLine by decide))
 have hsz : h₃.objs.size = s.heap.objs.size := by rw [hs₃.1, hs₂.1, hsz₁]
 refine wpAny_pure ⟨_, rfl, ?_⟩
 show Q (.ref h₃.objs.size) _
 rw [hsz]
 have hz₃ : IsZip2 h₃ z TI TO (rawInt T) true := hs₃.extBut _ _ D.i2z.symm (hs₂.extBut _ _ D.i1z.symm hz₁)
 have h1₃ := h1₂.extBut hs₃.extBut D.i12
 refine hQ _ (Heap.get?_push_of_some _ hz₃) (h1₃.at fun o e => Heap.get?_push_of_some _ e) (h2₃.at fun o e => Heap.get?_push_of_some _ e) ?_ fun c o c1 c2 c3 e => Heap.get?_push_of_some _ (hs₃.extBut _ _ c3 (hs₂.extBut _ _ c2 (hs₁ _ _ c1 e)))
 rw [<- hsz]
 exact Heap.get?_push_size _ rfl
theorem zip_next_end2 {z TI TO i1 i2 l1 l2 T : Addr} {oT : Obj} {f : Bool} {k1 : Nat} {xs : Array Value} {Q : Fin -> Shared -> Prop} (hh : A.handled = none) (D : ZipApart z TI TO i1 i2 l1 l2)
  (hz : IsZip2 s.heap z TI TO (rawInt T) f) (hT : s.heap.get? T = some oT) (hTI : IsPair s.heap TI (.ref i1) (.ref i2))
  (h1 : s.heap.IsListIter i1 l1 k1) (hl1 : s.heap.IsList l1 xs) (hx : xs[k1]? = none)
  (hE : ∀ h' e, (∀ c o, c ≠ z -> c ≠ i1 -> s.heap.get? c = some o -> h'.get? c = some o) -> (∃ o, h'.get? e = some o /\ o.cls = .type "StopIteration") -> E (.ref e) { s with heap := h' }) :
  wpAny (model prog w) A (Builtin.«zip.__next__» ⟨[.ref z], []⟩) Q E s := by
 show wpAny _ _ (field (.ref z) 2 >>= _) _ _ _
 refine wpAny_bind (wpAny_field hz rfl (x := .bool false) rfl ?_)
 show wpAny _ _ (field (.ref z) 3 >>= _) _ _ _
 refine wpAny_bind (wpAny_field hz rfl (x := .ref TI) rfl ?_)
 refine wpAny_bind (wpAny_seqItems hTI rfl ?_)
 show wpAny _ _ (Builtin.SmallTypes.ownedTupleIsFree (.ref z) >>= _) _ _ _
 refine wpAny_bind ?_
 refine zip_notfree hz hT fun h₁ hz₁ hs₁ hsz₁ => ?_
 simp only [Bool.false_eq_true, if_false, List.forIn_toArray, List.forIn_cons, List.forIn_nil]
 refine wpAny_bind ?_
 refine wpAny_bind (wpAny_bind (wpAny_holding ?_))
 show wpAny _ _ (Builtin.SmallTypes.nextOf (.ref i1) >>= _) _ _ _
 refine wpAny_bind (wpAny_nextOf_list_end hh (h1.extBut hs₁ D.i1z) (hl1.extBut hs₁ D.l1z) hx fun h₂ e hs₂ he => ?_)
 exact hE h₂ e (fun c o c1 c2 x => hs₂ _ _ c2 (hs₁ _ _ c1 x)) he
theorem pyNext_zip_item2 {z TI TO i1 i2 l1 l2 T : Addr} {oT : Obj} {f : Bool} {k1 k2 : Nat} {xs ys : Array Value} {x y : Value} {Q : Option Value -> Shared -> Prop} (D : ZipApart z TI TO i1 i2 l1 l2)
  (hz : IsZip2 s.heap z TI TO (rawInt T) f) (hT : s.heap.get? T = some oT) (hTI : IsPair s.heap TI (.ref i1) (.ref i2))
  (h1 : s.heap.IsListIter i1 l1 k1) (h2 : s.heap.IsListIter i2 l2 k2) (hl1 : s.heap.IsList l1 xs) (hl2 : s.heap.IsList l2 ys) (hx : xs[k1]? = some x) (hy : ys[k2]? = some y)
  (hQ : ∀ h', IsZip2 h' z TI TO (rawInt T) true -> h'.IsListIter i1 l1 (k1 + 1) -> h'.IsListIter i2 l2 (k2 + 1) -> IsPair h' s.heap.objs.size x y ->
   (∀ c o, c ≠ z -> c ≠ i1 -> c ≠ i2 -> s.heap.get? c = some o -> h'.get? c = some o) -> Q (some (.ref s.heap.objs.size)) { s with heap := h' }) :
  wpAny (model prog w) A (pyNext (.ref z)) Q E s := by
 have hT' : s.TypeIs (.ref z) "zip" := ⟨_, hz, rfl⟩
 unfold pyNext
 exact wpAny_bind (wpAny_attempt (wpAny_callSpecial?_slot (name := Str.ofString "__next__") hT' PySem.F.slot_zip_next
  (wpAny_call_entry PySem.F.slot_zip_next hT' PySem.F.entry_zip_next
   (zip_next_item2 D hz hT hTI h1 h2 hl1 hl2 hx hy fun h' a1 a2 a3 a4 a5 => wpAny_pure (hQ h' a1 a2 a3 a4 a5)) (PySem.F.args_zip_next_1 _))))
theorem pyNext_zip_end2 {z TI TO i1 i2 l1 l2 T : Addr} {oT : Obj} {f : Bool} {k1 : Nat} {xs : Array Value} {Q : Option Value -> Shared -> Prop} (hh : A.handled = none) (D : ZipApart z TI TO i1 i2 l1 l2)
  (hz : IsZip2 s.heap z TI TO (rawInt T) f) (hT : s.heap.get? T = some oT) (hTI : IsPair s.heap TI (.ref i1) (.ref i2))
  (h1 : s.heap.IsListIter i1 l1 k1) (hl1 : s.heap.IsList l1 xs) (hx : xs[k1]? = none)
  (hQ : ∀ h', (∀ c o, c ≠ z -> c ≠ i1 -> s.heap.get? c = some o -> h'.get? c = some o) -> Q none { s with heap := h' }) :
  wpAny (model prog w) A (pyNext (.ref z)) Q E s := by
 have hT' : s.TypeIs (.ref z) "zip" := ⟨_, hz, rfl⟩
 unfold pyNext
 refine wpAny_bind (wpAny_attempt (wpAny_callSpecial?_slot (name := Str.ofString "__next__") hT' PySem.F.slot_zip_next
  (wpAny_call_entry PySem.F.slot_zip_next hT' PySem.F.entry_zip_next (zip_next_end2 hh D hz hT hTI h1 hl1 hx fun h' e hk he => ?_) (PySem.F.args_zip_next_1 _))))
 obtain ⟨o, ho, hc⟩ := he
 refine wpAny_bind (wpAny_isInstance (T := "StopIteration") (b := true) ⟨o, ho, hc⟩ isSubtype_stop ?_)
 exact wpAny_pure (hQ _ hk)
end
end
section
variable {Γ : Cx}
section
variable {n : Nat} {σ σ₀ : Store} {F : Addr -> Prop} {s s₀ s' : Shared} {W : Addr -> Prop} {J : List V -> (Addr -> Prop) -> Heap -> Prop} {I d : Addr}
structure Walk2 (Γ : Cx) (F : Addr -> Prop) (I : Addr) (W : Addr -> Prop) (J : List V -> (Addr -> Prop) -> Heap -> Prop) : Prop where
 item : ∀ A s σ x xs R, A.handled = none -> J (x :: xs) (DD σ F) s.heap -> (∀ b, DD σ F b -> ∃ o, s.heap.get? b = some o) ->
  (∀ val h₂ tk, VRel Γ (DD σ F) h₂ x val -> J xs (DD σ F) h₂ -> (∀ b o, ¬ W b -> s.heap.get? b = some o -> h₂.get? b = some o) -> R (some val) { s with heap := h₂, toks := tk }) -> wpAny (Md Γ) A (pyNext (.ref I)) R NoE s
 done : ∀ A s σ R, A.handled = none -> J [] (DD σ F) s.heap -> (∀ h' tk, (∀ b o, (¬ W b \/ F b) -> s.heap.get? b = some o -> h'.get? b = some o) -> R none { s with heap := h', toks := tk }) -> wpAny (Md Γ) A (pyNext (.ref I)) R NoE s
 frame : ∀ xs σ σ' h h', J xs (DD σ F) h -> (∀ b o, ((¬ DD σ F b /\ solid o = true) \/ W b) -> h.get? b = some o -> h'.get? b = some o) -> (∀ b o, ¬ DD σ F b -> solid o = true -> h.get? b = some o -> ¬ DD σ' F b) -> J xs (DD σ' F) h'
 hol : ∀ xs σ h b, J xs (DD σ F) h -> W b -> ∃ o, h.get? b = some o /\ (solid o = false \/ F b)
theorem St.walkG (S : St Γ F σ s) (N : ∀ b, W b -> (s₀.heap.get? b = none \/ σ₀ b ≠ none) /\ Γ.h₀.get? b = none) (H : ∀ b, W b -> ∃ o, s.heap.get? b = some o /\ (solid o = false \/ F b)) (H' : ∀ b, W b -> F b -> ∃ o, s'.heap.get? b = some o)
  (k : ∀ b o, ¬ W b -> s.heap.get? b = some o -> s'.heap.get? b = some o) (g : s'.gens = s.gens) (os : s'.os = s.os) : St Γ F σ s' where
 base b o e := k b o (fun w => by have := (N b w).2; rw [e] at this; cases this) (S.base b o e)
 rep a v e := by
  refine (S.rep a v e).mono (fun b o nd so e => k b o (fun w => ?_) e) (fun _ _ n _ => n) fun o e' => k a o (fun w => ?_) e'
  ·obtain ⟨o', h1, h3 | h3⟩ := H b w
   ·rw [e] at h1; cases h1; rw [so] at h3; cases h3
   ·exact nd (.inr h3)
  ·obtain ⟨o', h1, h3 | h3⟩ := H a w
   ·obtain ⟨o'', h4, h5⟩ := (S.rep a v e).sol
    rw [h4] at h1; cases h1; rw [h5] at h3; cases h3
   ·have := S.off a h3; rw [e] at this; cases this
 new := S.new
 fin a f := by
  obtain ⟨o, e⟩ := S.fin a f
  by_cases w : W a
  ·exact H' a w f
  ·exact ⟨o, k a o w e⟩
 off := S.off
 low := S.low
 gens := g.trans S.gens
 os := os.trans S.os
theorem Trans.walkG (T : Trans σ₀ s₀ σ s) (N : ∀ b, W b -> (s₀.heap.get? b = none \/ σ₀ b ≠ none) /\ Γ.h₀.get? b = none) (k : ∀ b o, ¬ W b -> s.heap.get? b = some o -> s'.heap.get? b = some o) : Trans σ₀ s₀ σ s' :=
 ⟨fun b o e n => k b o (fun w' => by rcases (N b w').1 with q | q; rw [q] at e; cases e; exact q n) (T.keep b o e n), T.fresh⟩
theorem update_runG (it : Walk2 Γ F I W J) {f : Kd} :
  ∀ (ps : List (V × V)) (es : List (V × V)) (i : Nat) {A : Around} {s : Shared} {σ : Store} {R : Result -> Shared -> Prop}, Room n A -> St Γ F σ s -> σ d = some (.dct f es) -> (∀ p ∈ ps, keyOk f p.1) -> es.length + ps.length <= 1000000 ->
   (∀ b, W b -> (s₀.heap.get? b = none \/ σ₀ b ≠ none) /\ Γ.h₀.get? b = none) -> J (ps.map pairV) (DD σ F) s.heap -> Trans σ₀ s₀ σ s ->
   (∀ s', St Γ F (put σ d (.dct f (dputs ps es))) s' -> Trans σ₀ s₀ (put σ d (.dct f (dputs ps es))) s' -> R (.ok (.ret .none)) s') ->
   codeAny (Md Γ) A (.builtin "dict.update.loop" ⟨[.ref d, .ref I, rawInt i, .none], []⟩) R s := by
 intro ps
 induction ps with
 | nil =>
  intro es i A s σ R hA S hd hk hz N j T hR
  refine codeAny_builtin entry_update_loop ?_
  rw [Around.under_plainId plain_update_loop _]
  have H := fun b w => it.hol _ _ _ b j w
  have he : put σ d (.dct f es) = σ := by funext b; unfold put; by_cases q : b = d; subst q; rw [if_pos rfl, hd]; rw [if_neg q]
  show wpAny _ _ (pyNext (.ref I) >>= _) _ _ s
  refine wpAny_bind (wpAny_mono (it.done A.in1 s _ _ hA.1 j fun h' tk k => ?_) (fun _ _ p => p) fun _ _ e => e.elim)
  have k1 : ∀ b o, ¬ W b -> s.heap.get? b = some o -> h'.get? b = some o := fun b o w e => k b o (.inl w) e
  have H' : ∀ b, W b -> F b -> ∃ o, h'.get? b = some o := fun b w f => let ⟨o, e, _⟩ := H b w; ⟨o, k b o (.inr f) e⟩
  have := hR { s with heap := h', toks := tk } (by show St Γ F (put σ d (.dct f es)) _; rw [he]; exact St.walkG (s' := { s with heap := h', toks := tk }) S N H H' k1 rfl rfl) (by show Trans σ₀ s₀ (put σ d (.dct f es)) _; rw [he]; exact T.walkG N k1)
  exact wpAny_pure this
 | cons p ps ih =>
  intro es i A s σ R hA S hd hk hz N j T hR
  refine codeAny_builtin entry_update_loop ?_
  rw [Around.under_plainId plain_update_loop _]
  have H := fun b w => it.hol _ _ _ b j w
  show wpAny _ _ (pyNext (.ref I) >>= _) _ _ s
  refine wpAny_bind (wpAny_mono (it.item A.in1 s _ _ _ _ hA.1 j (DD_alive S) fun val h₂ tk rx jx k => ?_) (fun _ _ p => p) fun _ _ e => e.elim)
  have H' : ∀ b, W b -> F b -> ∃ o, h₂.get? b = some o := fun b w f => let ⟨o, e, _⟩ := it.hol _ _ _ b jx w; ⟨o, e⟩
  have S₂ : St Γ F σ { s with heap := h₂, toks := tk } := St.walkG (s' := { s with heap := h₂, toks := tk }) S N H H' k rfl rfl
  have T₂ : Trans σ₀ s₀ σ { s with heap := h₂, toks := tk } := T.walkG N k
  obtain ⟨a, arr, rfl, nd, ht, rv⟩ := rx.tup_inv
  obtain ⟨k1, v1, hl, rk, rv1⟩ := rv.two_inv
  show wpAny _ _ ((holding [Value.ref a] _) >>= _) _ _ _
  refine wpAny_bind (wpAny_holding (wpAny_bind (wpAny_tryCatch (pairItems_tuple ht ?_))))
  rw [hl]
  obtain ⟨darr, m, ho, hsys, dr, ndup⟩ := (S₂.rep _ _ hd).dct_inv
  have hne : σ d ≠ none := by rw [hd]; exact fun e => nomatch e
  refine wpAny_holding (dictSet_run (s := { s with heap := h₂, toks := tk }) hA.in20 (hk p List.mem_cons_self) rk rv1 ho dr ndup (by simp at hz; lia) fun h' tk' arr' m' hs' ho' dr' => ?_)
  obtain ⟨S', T'⟩ := St.dictUpd (s := { s with heap := h₂, toks := tk }) (tk := tk') S₂ hd hs' ho' dr' (dput_nodup ndup)
  refine wpAny_pure ⟨plainId_quiet plain_update_loop _, ?_⟩
  have jj : J (ps.map pairV) (DD (put σ d (.dct f (dput p.1 p.2 es))) F) h' := by
   refine it.frame _ _ _ _ _ jx (fun b o hb e => ?_) fun b o nd so e => ?_
   ·refine (hs'.2 b (fun q => ?_)).trans e
    subst q
    rcases hb with ⟨nd, _⟩ | w
    ·exact nd (.inl hne)
    ·obtain ⟨o', h1, h2 | h2⟩ := it.hol _ _ _ b jx w
     ·rw [ho] at h1; cases h1; cases h2
     ·exact hne (S₂.off _ h2)
   ·rintro (q | q)
    ·by_cases hb : b = d
     ·subst hb; exact nd (.inl hne)
     ·rw [put_ne _ _ hb] at q; exact nd (.inl q)
    ·exact nd (.inr q)
  have e2 : ((i : Int) + 1) = ((i + 1 : Nat) : Int) := by push_cast; rfl
  show codeAny _ _ (.builtin "dict.update.loop" ⟨[.ref d, .ref I, rawInt ((i : Int) + 1), .none], []⟩) _ _
  rw [e2]
  refine ih (dput p.1 p.2 es) (i + 1) hA S' (put_self _ _ _) (fun q hq => hk q (List.mem_cons_of_mem _ hq)) (by have := dput_len (k := p.1) (v := p.2) (es := es); simp at hz; lia) N jj (T₂.trans T') fun s' S'' T'' => ?_
  have e3 : put (put σ d (.dct f (dput p.1 p.2 es))) d (.dct f (dputs ps (dput p.1 p.2 es))) = put σ d (.dct f (dputs (p :: ps) es)) := by
   funext b; unfold put; by_cases q : b = d <;> simp [q, dputs]
  rw [e3] at S'' T''
  exact hR s' S'' T''
theorem dict_fromG {A : Around} {f : Kd} {ps : List (V × V)} {R : Value -> Shared -> Prop} {fv : Value} {s₀ : Shared} {σ₀ : Store}
  (hA : Room (n + 1) A) (S : St Γ F σ s) (T₀ : Trans σ₀ s₀ σ s) (hk : ∀ p ∈ ps, keyOk f p.1) (hz : ps.length <= 1000000) (hT : ∀ s' σ', St Γ F σ' s' -> Trans σ s σ' s' -> ∃ T, s'.TypeIs fv T /\ (Value.type T == Value.type "dict") = false)
  (hmiss : ∀ s' σ' A' R', A'.handled = none -> St Γ F σ' s' -> (∀ b o, s.heap.get? b = some o -> s'.heap.get? b = some o) -> (∀ h' tk, (∀ b o, s'.heap.get? b = some o -> h'.get? b = some o) -> R' none { s' with heap := h', toks := tk }) -> wpAny (Md Γ) A' (getAttr? fv "keys") R' NoE s')
  (hiter : ∀ s' σ' A', A'.handled = none -> St Γ F σ' s' -> (∀ b o, s.heap.get? b = some o -> s'.heap.get? b = some o) -> (∀ b o, s.heap.get? b = some o -> ¬ DD σ F b -> ¬ DD σ' F b) -> ∀ R', (∀ I W J, Walk2 Γ F I W J -> (∀ b, W b -> (s₀.heap.get? b = none \/ σ₀ b ≠ none) /\ Γ.h₀.get? b = none) -> J (ps.map pairV) (DD σ' F) s'.heap -> R' (.ref I) s') -> wpAny (Md Γ) A' (pyIter fv) R' NoE s')
  (hR : ∀ a s', s.heap.get? a = none -> VRel Γ (DD σ F) s'.heap (.dct f (dputs ps [])) (.ref a) -> St Γ F σ s' -> Trans σ₀ s₀ σ s' -> R (.ref a) s') :
  wpAny (Md Γ) A (call (.type "dict") [fv]) R NoE s := by
 have h0 : s.heap.get? s.heap.objs.size = none := get_size _
 refine callType_codes (Q₁ := fun obj s₁ => obj = .ref s.heap.objs.size /\ s₁ = { s with heap := s.heap.push { cls := .type "dict", data := .dict #[] } }) PySem.F.kt_called_dict (PySem.F.kt_typeCall_dict_1 _) PySem.F.entry_dict_init (kt_code_dict_new _ ⟨rfl, rfl⟩) ?_
 rintro obj s₁ ⟨rfl, rfl⟩
 have hD : (s.heap.push { cls := .type "dict", data := .dict #[] }).get? s.heap.objs.size = some (dictObj #[] 0) := Heap.get?_push_size _ rfl
 have S1 : St Γ F (put σ s.heap.objs.size (.dct f [])) { s with heap := s.heap.push { cls := .type "dict", data := .dict #[] } } :=
  S.alloc (s' := { s with heap := s.heap.push { cls := .type "dict", data := .dict #[] } }) (v := .dct f []) h0 (fun b o e => Heap.get?_push_of_some _ e) (.dct hD (sys_ne S h0) .nil List.nodup_nil) rfl rfl
 have T1 : Trans σ s (put σ s.heap.objs.size (.dct f [])) { s with heap := s.heap.push { cls := .type "dict", data := .dict #[] } } := put_trans _
 have hTd : ({ s with heap := s.heap.push { cls := .type "dict", data := .dict #[] } } : Shared).TypeIs (.ref s.heap.objs.size) "dict" := ⟨_, hD, rfl⟩
 have hA2 := hA.in2
 refine ⟨hTd, PySem.F.args_dict_init_2 _ _, ?_⟩
 unfold Builtin.«dict.__init__»
 refine wpAny_bind ?_
 unfold Builtin.Dict.selfAndRest
 refine wpAny_bind (wpAny_notOrdered_dict hTd ?_)
 show wpAny _ _ (pure (s.heap.objs.size, [fv])) _ _ _
 refine wpAny_pure ?_
 show wpAny _ _ (Builtin.Dict.updateFrom "dict.__init__" s.heap.objs.size fv [] .none) _ _ _
 unfold Builtin.Dict.updateFrom
 obtain ⟨T, hTT, hTne⟩ := hT _ _ S1 T1
 refine wpAny_bind (wpAny_typeOf hTT ?_)
 rw [if_pos (by rw [bne, hTne]; rfl)]
 refine wpAny_bind (wpAny_mono (hmiss _ _ A.in1.in1 _ hA2.1 S1 (fun b o e => Heap.get?_push_of_some _ e) fun h' tk kk => ?_) (fun _ _ p => p) fun _ _ e => e.elim)
 obtain ⟨S2, T2⟩ := S1.keepAll (h' := h') (tk := tk) kk
 have T12 := T1.trans T2
 refine wpAny_bind (wpAny_rule (wpAny_bind (wpAny_mono (hiter _ _ A.in1.in1 hA2.1 S2 (fun b o e => kk b o (Heap.get?_push_of_some _ e)) (fun b o e nd => ?_) _ fun I W J it N j => ?_) (fun _ _ p => p) fun _ _ e => e.elim)))
 ·rintro (q | q)
  ·by_cases hb : b = s.heap.objs.size
   ·subst hb; rw [h0] at e; cases e
   ·rw [put_ne _ _ hb] at q; exact nd (.inl q)
  ·exact nd (.inr q)
 refine wpAny_pure ⟨plainId_quiet plain_update_loop _, ?_⟩
 have hA1 : Room n A.in1 := hA.in1
 have e0 : rawInt ((0 : Nat) : Int) = rawInt 0 := rfl
 refine update_runG (d := s.heap.objs.size) it ps [] 0 hA1 S2 (put_self _ _ _) hk (by simpa using hz) N j (T₀.trans T12) fun s' S' T' => ?_
 have e1 : put (put σ s.heap.objs.size (.dct f [])) s.heap.objs.size (.dct f (dputs ps [])) = put σ s.heap.objs.size (.dct f (dputs ps [])) := by
  funext b; unfold put; by_cases q : b = s.heap.objs.size <;> simp [q]
 rw [e1] at S' T'
 have hn := (S.out h0).1
 have hdl : del (put σ s.heap.objs.size (.dct f (dputs ps []))) s.heap.objs.size = σ := by
  funext b; unfold del put; by_cases q : b = s.heap.objs.size
  ·subst q; rw [if_pos rfl, hn]
  ·rw [if_neg q, if_neg q]
 have L : Le σ (put σ s.heap.objs.size (.dct f (dputs ps []))) := fun b u e => by
  have hb : b ≠ s.heap.objs.size := fun q => by rw [q, hn] at e; cases e
  rw [put_ne _ _ hb]; exact e
 have r := S'.frozen (put_self σ s.heap.objs.size (.dct f (dputs ps []))) (S.out h0).2.2
 rw [hdl] at r
 exact ⟨rfl, hR _ _ h0 r (S'.le L) (T'.le L)⟩
end
end
section
variable {Γ : Cx}
theorem zip_getattr_none : typeLookup (.type "zip") "__getattr__" = pure none := by rw [typeLookup_type, builtinLookup_eq_fast]; kernel_rfl
theorem entry_zip_getattribute : entryFor table "zip.__getattribute__" = some Builtin.«object.__getattribute__» :=
 entryFor_alias (id' := "object.__getattribute__") (by kernel_rfl) (by decide +kernel) (by decide +kernel) (by kernel_rfl)
theorem miss_keys_zip : typeLookup (.type "zip") "keys" = pure none := by rw [typeLookup_type, builtinLookup_eq_fast]; kernel_rfl
theorem meets_miss_zip (a : Addr) (vs : Array Value) (sl : Array (Option Value)) (name : Str) (u : Tok) (hmiss : typeLookup (.type "zip") name = pure none) (hname : (["__module__", "__name__", "__qualname__", "__doc__", "__annotations__"] : List Str).contains name = false) (hsz : name.length + 100 <= sizeLine := by size_fits) :
  Meets (Builtin.«object.__getattribute__» ⟨[.ref a, .str name u], []⟩) (fun A R s => s.heap.get? a = some { cls := .type "zip", dict := none, data := .fields vs, slots := sl } /\ raisesAttr (.ref a) name A R s) :=
 Meets.of_wp fun prog w A R s hs => by
  obtain ⟨hp, g, d, tk, os⟩ := s
  obtain ⟨hx, hs⟩ := hs
  have hT : (⟨hp, g, d, tk, os⟩ : Shared).TypeIs (.ref a) "zip" := ⟨_, hx, rfl⟩
  unfold Builtin.«object.__getattribute__»
  repeat (any_goals (first | assumption | wp_step))
  rw [hname, if_neg Bool.false_ne_true]
  repeat (any_goals (first | assumption | wp_step))
  exact wpAny_raiseAttrError hs.1 hs.2 (attrMsg_fits (by decide +kernel) hsz)
section
variable {prog : Program} {w : World} {A : Around} {E : Value -> Shared -> Prop} {s : Shared}
theorem getAttrQ_miss_zip {a : Addr} {o : Obj} {xs : Array Value} {Q : Option Value -> Shared -> Prop}
  (hx : s.heap.get? a = some o) (hc : o.cls = .type "zip") (hdat : o.data = .fields xs) (hd : o.dict = none) (hA : A.handled = none)
  (h : ∀ h' tk, (∀ b o, s.heap.get? b = some o -> h'.get? b = some o) -> Q none { s with heap := h', toks := tk }) :
  wpAny (model prog w) A (getAttr? (.ref a) "keys") Q E s := by
 obtain ⟨c, dct, dat, sl⟩ := o
 simp only at hc hdat hd
 subst hc hdat hd
 obtain ⟨hp, g, d, tk, os⟩ := s
 have hT : ∀ tk', (⟨hp, g, d, tk', os⟩ : Shared).TypeIs (.ref a) "zip" := fun _ => ⟨_, hx, rfl⟩
 have f1 := sub_AttributeError
 have f3 := PySem.F.slot_zip_getattribute.lookup
 have f4 := PySem.F.slot_zip_getattribute.bind (.ref a)
 have f5 := zip_getattr_none
 have hsz : (Str.ofString "keys").length + 100 <= sizeLine := by decide
 have hname : (["__module__", "__name__", "__qualname__", "__doc__", "__annotations__"] : List Str).contains (Str.ofString "keys") = false := by decide +kernel
 unfold getAttr? getAttrBy? getAttrBy
 repeat (any_goals (first | assumption | exact hT _ | ((with_reducible show wpAny _ _ (call (Value.builtin "zip.__getattribute__") _ _) _ _ _); refine call_meets PySem.F.slot_zip_getattribute (hT _) entry_zip_getattribute (PySem.F.args_zip_getattribute_2 _ _) (meets_miss_zip a xs sl "keys" _ miss_keys_zip hname hsz) ⟨hx, hA, fun h' tk' e hx' => ?_⟩) | wp_step))
 obtain ⟨t', u', he⟩ := hx'.there
 show wpAny _ _ (getattributeRaised _ _ _ _ _ _ _) _ _ _
 unfold getattributeRaised
 repeat (any_goals (first | assumption | wp_step))
 exact h _ _ hx'.keeps
theorem zip_next_end1 {z TI TO i1 i2 l1 l2 : Addr} {k1 : Nat} {xs : Array Value} {a b : Value} {Q : Fin -> Shared -> Prop} (hh : A.handled = none) (D : ZipApart z TI TO i1 i2 l1 l2)
  (hz : IsZip s.heap z TI TO .none) (hTI : IsPair s.heap TI (.ref i1) (.ref i2)) (hTO : IsPair s.heap TO a b)
  (h1 : s.heap.IsListIter i1 l1 k1) (hl1 : s.heap.IsList l1 xs) (hx : xs[k1]? = none)
  (hE : ∀ h' e, (∀ c o, c ≠ z -> c ≠ i1 -> s.heap.get? c = some o -> h'.get? c = some o) -> (∃ o, h'.get? e = some o /\ o.cls = .type "StopIteration") -> E (.ref e) { s with heap := h' }) :
  wpAny (model prog w) A (Builtin.«zip.__next__» ⟨[.ref z], []⟩) Q E s := by
 show wpAny _ _ (field (.ref z) 2 >>= _) _ _ _
 refine wpAny_bind (wpAny_field hz rfl (x := .bool false) rfl ?_)
 show wpAny _ _ (field (.ref z) 3 >>= _) _ _ _
 refine wpAny_bind (wpAny_field hz rfl (x := .ref TI) rfl ?_)
 refine wpAny_bind (wpAny_seqItems hTI rfl ?_)
 show wpAny _ _ (Builtin.SmallTypes.ownedTupleIsFree (.ref z) >>= _) _ _ _
 refine wpAny_bind ?_
 unfold Builtin.SmallTypes.ownedTupleIsFree
 refine wpAny_bind (wpAny_field hz rfl (x := .none) rfl (wpAny_pure ?_))
 simp only [if_true]
 refine wpAny_bind (wpAny_rule ?_)
 refine wpAny_bind (wpAny_field hz rfl (x := .ref TO) rfl ?_)
 refine wpAny_bind (wpAny_setField_rec hz (by simp) fun h₁ hz₁ hs₁ => ?_)
 replace hz₁ : IsZip h₁ z TI TO .ellipsis := hz₁
 refine wpAny_bind ?_
 simp only [List.zipIdx_cons, List.zipIdx_nil, List.forIn_cons, List.forIn_nil]
 refine wpAny_bind (wpAny_bind (wpAny_onRaise ?_))
 show wpAny _ _ (Builtin.SmallTypes.nextOf (.ref i1) >>= _) _ _ _
 refine wpAny_bind (wpAny_nextOf_list_end hh (h1.extBut hs₁.extBut D.i1z) (hl1.extBut hs₁.extBut D.l1z) hx fun h₂ e hs₂ he => ?_)
 obtain ⟨oe, hoe, hce⟩ := he
 have hz₂ : IsZip h₂ z TI TO .ellipsis := hs₂ _ _ D.i1z.symm hz₁
 have hez : e ≠ z := fun x => by subst x; rw [hz₂] at hoe; cases hoe; simp at hce
 refine wpAny_setField_rec hz₂ (by simp) fun h₃ _ hs₃ => hE h₃ e (fun c o c1 c3 x => hs₃.extBut _ _ c1 (hs₂ _ _ c3 (hs₁.extBut _ _ c1 x))) ⟨oe, hs₃.extBut _ _ hez hoe, hce⟩
theorem pyNext_zip_end1 {z TI TO i1 i2 l1 l2 : Addr} {k1 : Nat} {xs : Array Value} {a b : Value} {Q : Option Value -> Shared -> Prop} (hh : A.handled = none) (D : ZipApart z TI TO i1 i2 l1 l2)
  (hz : IsZip s.heap z TI TO .none) (hTI : IsPair s.heap TI (.ref i1) (.ref i2)) (hTO : IsPair s.heap TO a b)
  (h1 : s.heap.IsListIter i1 l1 k1) (hl1 : s.heap.IsList l1 xs) (hx : xs[k1]? = none)
  (hQ : ∀ h', (∀ c o, c ≠ z -> c ≠ i1 -> s.heap.get? c = some o -> h'.get? c = some o) -> Q none { s with heap := h' }) :
  wpAny (model prog w) A (pyNext (.ref z)) Q E s := by
 have hT' : s.TypeIs (.ref z) "zip" := ⟨_, hz, rfl⟩
 unfold pyNext
 refine wpAny_bind (wpAny_attempt (wpAny_callSpecial?_slot (name := Str.ofString "__next__") hT' PySem.F.slot_zip_next
  (wpAny_call_entry PySem.F.slot_zip_next hT' PySem.F.entry_zip_next (zip_next_end1 hh D hz hTI hTO h1 hl1 hx fun h' e hk he => ?_) (PySem.F.args_zip_next_1 _))))
 obtain ⟨o, ho, hc⟩ := he
 refine wpAny_bind (wpAny_isInstance (T := "StopIteration") (b := true) ⟨o, ho, hc⟩ isSubtype_stop ?_)
 exact wpAny_pure (hQ _ hk)
end
inductive JZ (Γ : Cx) (z TI TO i1 i2 l1 l2 : Addr) (xs : List V) (D : Addr -> Prop) (h : Heap) : Prop
 | mk (k : Nat) (f0 : Value) (b : Bool) (arr1 arr2 : Array Value) (n1 n2 : Nat) (ns fs : List V) (u v : Value) (hz : IsZip2 h z TI TO f0 b)
  (hf : (f0 = .none /\ b = false) \/ ∃ T oT, f0 = rawInt (T : Nat) /\ h.get? T = some oT /\ ¬ D T /\ solid oT = true) (hI : IsPair h TI (.ref i1) (.ref i2)) (hO : IsPair h TO u v) (h1 : h.IsListIter i1 l1 k) (h2 : h.IsListIter i2 l2 k)
  (g1 : h.get? l1 = some (seqObj "list" arr1 n1)) (g2 : h.get? l2 = some (seqObj "list" arr2 n2)) (d1 : ¬ D l1) (d2 : ¬ D l2) (dI : ¬ D TI) (r1 : VsRel Γ D h ns (arr1.toList.drop k)) (r2 : VsRel Γ D h fs (arr2.toList.drop k))
  (ex : xs = (ns.zip fs).map pairV) (le : ns.length <= fs.length) : JZ Γ z TI TO i1 i2 l1 l2 xs D h
end
section
variable {Γ : Cx}
theorem drop_end {D : Addr -> Prop} {h : Heap} {arr : Array Value} {k : Nat} (r : VsRel Γ D h [] (arr.toList.drop k)) : arr[k]? = none := by
 have : (arr.toList.drop k) = [] := by
  generalize arr.toList.drop k = l at r
  cases r; rfl
 have h1 := List.drop_eq_nil_iff.mp this
 rw [<- Array.getElem?_toList]
 exact List.getElem?_eq_none h1
section
variable {F : Addr -> Prop} {z TI TO i1 i2 l1 l2 : Addr}
theorem walk_zip (D : ZipApart z TI TO i1 i2 l1 l2) (hF : F TO) (hz' : ¬ F z) (hi' : ¬ F i1) : Walk2 Γ F z (fun b => b = z \/ b = TO \/ b = i1 \/ b = i2) (JZ Γ z TI TO i1 i2 l1 l2) where
 item A s σ x xs R hA j hD hR := by
  obtain ⟨k, f0, b, arr1, arr2, n1, n2, ns, fs, u, v, hz, hf, hTI, hTO, h1, h2, hl1, hl2, nd1, nd2, ndT, r1, r2, hx, hlen⟩ := j
  match ns, fs, r1, r2, hx, hlen with
  | [], _, _, _, hx, _ => simp at hx
  | _ :: _, [], _, _, _, hlen => simp at hlen
  | n :: ns, f :: fs, r1, r2, hx, hlen =>
   obtain ⟨y1, hy1, ry1, rs1⟩ := drop_cons r1
   obtain ⟨y2, hy2, ry2, rs2⟩ := drop_cons r2
   simp only [List.zip_cons_cons, List.map_cons, List.cons.injEq] at hx
   obtain ⟨rfl, rfl⟩ := hx
   have ndS : ¬ DD σ F s.heap.objs.size := fun q => by obtain ⟨o, e⟩ := hD _ q; rw [get_size] at e; cases e
   have nso : ∀ b o, ¬ DD σ F b -> solid o = true -> s.heap.get? b = some o -> b ≠ z /\ b ≠ TO /\ b ≠ i1 /\ b ≠ i2 := fun b o nd so e => by
    refine ⟨?_, ?_, ?_, ?_⟩
    ·rintro rfl; rw [hz] at e; cases e; cases so
    ·rintro rfl; exact nd (.inr hF)
    ·rintro rfl; obtain ⟨o', e', _, hd⟩ := h1; rw [e] at e'; cases e'; unfold solid at so; rw [hd] at so; cases so
    ·rintro rfl; obtain ⟨o', e', _, hd⟩ := h2; rw [e] at e'; cases e'; unfold solid at so; rw [hd] at so; cases so
   have fin : ∀ h' f0' b' u' v', IsZip2 h' z TI TO f0' b' -> ((f0' = .none /\ b' = false) \/ ∃ T oT, f0' = rawInt (T : Nat) /\ h'.get? T = some oT /\ ¬ DD σ F T /\ solid oT = true) -> IsPair h' TO u' v' -> h'.IsListIter i1 l1 (k + 1) -> h'.IsListIter i2 l2 (k + 1) -> IsPair h' s.heap.objs.size y1 y2 ->
     (∀ c o, c ≠ z -> c ≠ TO -> c ≠ i1 -> c ≠ i2 -> s.heap.get? c = some o -> h'.get? c = some o) -> R (some (.ref s.heap.objs.size)) { s with heap := h' } := fun h' f0' b' u' v' a1 a2 a3 a4 a5 a6 a7 => by
    have kk : ∀ b o, ¬ DD σ F b -> solid o = true -> s.heap.get? b = some o -> h'.get? b = some o := fun b o nd so e => by
     obtain ⟨q1, q2, q3, q4⟩ := nso b o nd so e
     exact a7 b o q1 q2 q3 q4 e
    refine hR (.ref s.heap.objs.size) h' s.toks ?_ ?_ fun b o w e => a7 b o (fun q => w (.inl q)) (fun q => w (.inr (.inl q))) (fun q => w (.inr (.inr (.inl q)))) (fun q => w (.inr (.inr (.inr q)))) e
    ·exact .at ndS (.tup ⟨_, a6, rfl, 0, rfl⟩ (.cons (ry1.mono kk fun _ _ n _ => n) (.cons (ry2.mono kk fun _ _ n _ => n) .nil)))
    ·refine ⟨k + 1, f0', b', arr1, arr2, n1, n2, ns, fs, u', v', a1, a2, kk _ _ ndT rfl hTI, a3, a4, a5, kk _ _ nd1 rfl hl1, kk _ _ nd2 rfl hl2, nd1, nd2, ndT, rs1.mono kk fun _ _ n _ => n, rs2.mono kk fun _ _ n _ => n, rfl, by simpa using hlen⟩
   rcases hf with ⟨rfl, rfl⟩ | ⟨T, oT, rfl, hT, ndTT, soT⟩
   ·refine wpAny_pyNext_zip_item D hz hTI hTO h1 h2 ⟨_, hl1, rfl, _, rfl⟩ ⟨_, hl2, rfl, _, rfl⟩ hy1 hy2 fun h' a1 a2 a3 a4 a5 a6 a7 => ?_
    exact fin h' _ false _ _ a1 (.inr ⟨_, _, rfl, a5, ndS, rfl⟩) a2 a3 a4 a5 a7
   ·refine pyNext_zip_item2 D hz hT hTI h1 h2 ⟨_, hl1, rfl, _, rfl⟩ ⟨_, hl2, rfl, _, rfl⟩ hy1 hy2 fun h' a1 a2 a3 a4 a5 => ?_
    obtain ⟨q1, q2, q3, q4⟩ := nso T oT ndTT soT hT
    exact fin h' _ true _ _ a1 (.inr ⟨T, oT, rfl, a5 _ _ q1 q3 q4 hT, ndTT, soT⟩) (a5 _ _ D.TOz D.TOi1 D.TOi2 hTO) a2 a3 a4 fun c o c1 c2 c3 c4 e => a5 c o c1 c3 c4 e
 done A s σ R hA j hR := by
  obtain ⟨k, f0, b, arr1, arr2, n1, n2, ns, fs, u, v, hz, hf, hTI, hTO, h1, h2, hl1, hl2, nd1, nd2, ndT, r1, r2, hx, hlen⟩ := j
  have hns : ns = [] := by
   match ns, fs, hx, hlen with
   | [], _, _, _ => rfl
   | _ :: _, [], _, hlen => simp at hlen
   | _ :: _, _ :: _, hx, _ => simp at hx
  subst hns
  have fin : ∀ h', (∀ c o, c ≠ z -> c ≠ i1 -> s.heap.get? c = some o -> h'.get? c = some o) -> R none { s with heap := h' } := fun h' kk => by
   refine hR h' s.toks fun b o w e => kk b o ?_ ?_ e
   ·rintro rfl
    rcases w with w | w
    ·exact w (.inl rfl)
    ·exact hz' w
   ·rintro rfl
    rcases w with w | w
    ·exact w (.inr (.inr (.inl rfl)))
    ·exact hi' w
  rcases hf with ⟨rfl, rfl⟩ | ⟨T, oT, rfl, hT, ndTT, soT⟩
  ·exact pyNext_zip_end1 hA D hz hTI hTO h1 ⟨_, hl1, rfl, _, rfl⟩ (drop_end r1) fin
  ·exact pyNext_zip_end2 hA D hz hT hTI h1 ⟨_, hl1, rfl, _, rfl⟩ (drop_end r1) fin
 frame xs σ σ' h h' j kk dd := by
  obtain ⟨k, f0, b, arr1, arr2, n1, n2, ns, fs, u, v, hz, hf, hTI, hTO, h1, h2, hl1, hl2, nd1, nd2, ndT, r1, r2, hx, hlen⟩ := j
  have km : ∀ b o, ¬ DD σ F b -> solid o = true -> h.get? b = some o -> h'.get? b = some o := fun b o nd so e => kk b o (.inl ⟨nd, so⟩) e
  refine ⟨k, f0, b, arr1, arr2, n1, n2, ns, fs, u, v, kk _ _ (.inr (.inl rfl)) hz, ?_, km _ _ ndT rfl hTI, kk _ _ (.inr (.inr (.inl rfl))) hTO, h1.at fun o e => kk _ _ (.inr (.inr (.inr (.inl rfl)))) e, h2.at fun o e => kk _ _ (.inr (.inr (.inr (.inr rfl)))) e,
   km _ _ nd1 rfl hl1, km _ _ nd2 rfl hl2, dd _ _ nd1 rfl hl1, dd _ _ nd2 rfl hl2, dd _ _ ndT rfl hTI, r1.mono2 km dd, r2.mono2 km dd, hx, hlen⟩
  rcases hf with hf | ⟨T, oT, rfl, hT, ndTT, soT⟩
  ·exact .inl hf
  ·exact .inr ⟨T, oT, rfl, km _ _ ndTT soT hT, dd _ _ ndTT soT hT, soT⟩
 hol xs σ h b j w := by
  obtain ⟨k, f0, b, arr1, arr2, n1, n2, ns, fs, u, v, hz, hf, hTI, hTO, h1, h2, hl1, hl2, nd1, nd2, ndT, r1, r2, hx, hlen⟩ := j
  rcases w with rfl | rfl | rfl | rfl
  ·exact ⟨_, hz, .inl rfl⟩
  ·exact ⟨_, hTO, .inr hF⟩
  ·obtain ⟨o, e, _, hd⟩ := h1; exact ⟨o, e, .inl (by unfold solid; rw [hd])⟩
  ·obtain ⟨o, e, _, hd⟩ := h2; exact ⟨o, e, .inl (by unfold solid; rw [hd])⟩
end
end
section
variable {Γ : Cx}
theorem zip_apart {m l1 l2 : Nat} (h1 : l1 < m) (h2 : l2 < m) : ZipApart (m + 4) (m + 2) (m + 3) m (m + 1) l1 l2 := by
 constructor <;> show (_ : Nat) ≠ _ <;> lia
section
variable {n : Nat} {sc : Scope} {ρ : Vars} {σ σ₁ : Store} {Q Q' : V -> Store -> Prop} {F : Addr -> Prop} {s : Shared}
theorem dict_zip {A A' : Around} {f : Kd} {ns fs : List V} {x y : Value} (hA : Room (n + 1) A) (hA' : Room (n + 1) A') (S : St Γ F σ s) (r1 : VRel Γ (DD σ F) s.heap (.lst ns) x) (r2 : VRel Γ (DD σ F) s.heap (.lst fs) y)
  (hk : ∀ p ∈ ns.zip fs, keyOk f p.1) (hl : ns.length <= fs.length) (hz : (ns.zip fs).length <= 1000000) (q : Q (.dct f (dputs (ns.zip fs) [])) σ) :
  wpAny (Md Γ) A (call (.type "zip") [x, y]) (fun v s₁ => Γ.K.In s₁.heap /\ wpAny (Md Γ) A' (call (.type "dict") [v]) (Post Γ F σ s Q) NoE s₁) NoE s := by
 obtain ⟨l1, arr1, n1, rfl, nd1, ho1, rs1⟩ := r1.lst_inv
 obtain ⟨l2, arr2, n2, rfl, nd2, ho2, rs2⟩ := r2.lst_inv
 refine call_zip_2 ⟨_, ho1, rfl, _, rfl⟩ ⟨_, ho2, rfl, _, rfl⟩ fun h' hz' hTI hTO h1 h2 hsz kk => ?_
 have D := zip_apart (m := s.heap.objs.size) (Heap.lt_size ho1) (Heap.lt_size ho2)
 have new : ∀ k : Nat, s.heap.get? (s.heap.objs.size + k) = none := fun k => get_none_of_lt (Nat.le_add_right _ _)
 have S₁ : St Γ (prot F (s.heap.objs.size + 3)) σ { s with heap := h' } := S.prot (s' := { s with heap := h' }) (new 3) kk ⟨_, hTO⟩ rfl rfl
 have T₀ : Trans σ s σ { s with heap := h' } := Trans.grow kk
 have ndn : ∀ k : Nat, ¬ DD σ F (s.heap.objs.size + k) := fun k d => by
  obtain ⟨o, e⟩ := DD_alive S _ d
  rw [new k] at e; cases e
 refine ⟨fun a o e => S₁.base _ _ (Γ.X a o e), ?_⟩
 refine dict_fromG (F := prot F (s.heap.objs.size + 3)) (f := f) (ps := ns.zip fs) (s₀ := s) (σ₀ := σ) hA' S₁ T₀ hk hz (fun s' σ' S' T' => ?_) (fun s' σ' A' R' hh S' kk' h => ?_) (fun s' σ' A' hh S' kk' dd R' h => ?_) fun a s' h0 r S' T' => ⟨_, σ, r.unprot, S'.unprot, T', q⟩
 ·exact ⟨"zip", ⟨_, T'.keep _ _ hz' (S.out (new 4)).1, rfl⟩, by decide⟩
 ·exact wpAny_mono (getAttrQ_miss_zip (kk' _ _ hz') rfl rfl rfl hh h) (fun _ _ p => p) fun _ _ e => e
 ·refine wpAny_pyIter_zip (kk' _ _ hz') (h _ _ _ (walk_zip D (.inr rfl) ?_ ?_) (fun b w => ?_) ?_)
  ·rintro (q | q)
   ·exact ndn 4 (.inr q)
   ·have : s.heap.objs.size + 4 = s.heap.objs.size + 3 := q
    lia
  ·rintro (q | q)
   ·exact ndn 0 (.inr q)
   ·have : s.heap.objs.size = s.heap.objs.size + 3 := q
    lia
  ·have : ∃ k : Nat, b = s.heap.objs.size + k := by rcases w with rfl | rfl | rfl | rfl; exact ⟨4, rfl⟩; exact ⟨3, rfl⟩; exact ⟨0, rfl⟩; exact ⟨1, rfl⟩
   obtain ⟨k, rfl⟩ := this
   exact ⟨.inl (new k), (S.out (new k)).2.1⟩
  ·have nn : ∀ b o, s.heap.get? b = some o -> ¬ DD σ F b -> ¬ DD σ' (prot F (s.heap.objs.size + 3)) b := fun b o e nd => dd _ _ (kk _ _ e) (prot_dd (new 3) nd e)
   have nT : ¬ DD σ (prot F (s.heap.objs.size + 3)) (s.heap.objs.size + 2) := by
    rintro (q | q | q)
    ·exact ndn 2 (.inl q)
    ·exact ndn 2 (.inr q)
    ·have : s.heap.objs.size + 2 = s.heap.objs.size + 3 := q
     lia
   refine ⟨0, .none, false, arr1, arr2, n1, n2, ns, fs, .none, .none, kk' _ _ hz', .inl ⟨rfl, rfl⟩, kk' _ _ hTI, kk' _ _ hTO, h1.at fun o e => kk' _ _ e, h2.at fun o e => kk' _ _ e, kk' _ _ (kk _ _ ho1), kk' _ _ (kk _ _ ho2), nn _ _ ho1 nd1, nn _ _ ho2 nd2, dd _ _ hTI nT, ?_, ?_, rfl, hl⟩
   ·rw [List.drop_zero]; exact rs1.mono (fun b o _ _ e => kk' _ _ (kk _ _ e)) fun b o nd e => nn b o e nd
   ·rw [List.drop_zero]; exact rs2.mono (fun b o _ _ e => kk' _ _ (kk _ _ e)) fun b o nd e => nn b o e nd
theorem AEval.dictzip {fd fz e1 e2 : Expr} {p1 p2 : Pos} {f : Kd}
  (h : AEval Γ (n + 1) sc ρ fd σ fun v1 σ₁ => v1 = .typ "dict" /\ AEval Γ (n + 1) sc ρ fz σ₁ fun v2 σ₂ => v2 = .typ "zip" /\ AArgs Γ (n + 1) sc ρ [e1, e2] σ₂ fun vs σ₃ =>
   ∃ ns fs : List V, vs = [.lst ns, .lst fs] /\ (∀ p ∈ ns.zip fs, keyOk f p.1) /\ ns.length <= fs.length /\ (ns.zip fs).length <= 1000000 /\ Q (.dct f (dputs (ns.zip fs) [])) σ₃)
  (he1 : ∀ env, eval (.Call fd [.Call fz [e1, e2] [] p2] [] p1) env = (do callWith p1 (<- eval fd env) [] (backTo p1 (starEach [.Call fz [e1, e2] [] p2] env)) (backToKw p1 (keywordEach [] env))) := by intro _; rfl)
  (he2 : ∀ env, eval (.Call fz [e1, e2] [] p2) env = (do callWith p2 (<- eval fz env) [] (backTo p2 (starEach [e1, e2] env)) (backToKw p2 (keywordEach [] env))) := by intro _; rfl)
  (hs1 : ∀ env, starEach [.Call fz [e1, e2] [] p2] env = [(false, eval (.Call fz [e1, e2] [] p2) env)] := by intro _; rfl)
  (hs2 : ∀ env, starEach [e1, e2] env = [(false, eval e1 env), (false, eval e2 env)] := by intro _; rfl) :
  AEval Γ (n + 1) sc ρ (.Call fd [.Call fz [e1, e2] [] p2] [] p1) σ Q := by
 intro A s F env hs hA hR S
 rw [he1]
 refine wpAny_bind (seq_eval (α := Unit) hs hA hR S h fun v1 σ₁ fv1 s₁ rf1 R₁ S₁ T₁ h₁ => ?_)
 obtain ⟨rfl, h₁⟩ := h₁
 obtain rfl := rf1.typ_inv
 rw [hs1]
 refine callWith_of (P := fun h => Γ.K.In h) rfl (fun h' X => ⟨.machine, .inr (.inl rfl), Looks.of_pure rfl⟩) (evalArgs_plain ?_)
 refine Calls.spliced_cons ?_
 show wpAny _ _ (eval (.Call fz [e1, e2] [] p2) env) _ _ _
 rw [he2]
 refine wpAny_bind (seq_eval (α := Unit) hs hA R₁ S₁ h₁ fun v2 σ₂ fv2 s₂ rf2 R₂ S₂ T₂ h₂ => ?_)
 obtain ⟨rfl, h₂⟩ := h₂
 obtain rfl := rf2.typ_inv
 have h3 := h₂ A s₂ F env p2 hs hA R₂ S₂
 rw [hs2] at h3 ⊢
 refine callWith_of (P := fun h => Γ.K.In h) rfl (fun h' X => ⟨.machine, .inr (.inl rfl), Looks.of_pure rfl⟩) (evalArgs_plain ?_)
 refine wpAny_mono h3 (fun vals s₃ p => ?_) fun _ _ e => e
 obtain ⟨vs, σ₃, rv, S₃, T₃, ns, fs, rfl, hk, hl, hz, q⟩ := p
 obtain ⟨x, y, rfl, rx, ry⟩ := rv.two_inv
 refine ⟨fun a o e => S₃.base _ _ (Γ.X a o e), ?_⟩
 refine wpAny_mono (dict_zip (Q := Q) hA hA S₃ rx ry hk hl hz q) (fun v s₄ p => ?_) fun _ _ e => e
 refine Calls.spliced_nil ⟨p.1, ?_⟩
 exact wpAny_mono p.2 (fun _ _ p => p.trans (T₁.trans (T₂.trans T₃))) fun _ _ e => e
end
end
section
variable {Γ : Cx}
section
variable {n : Nat} {sc : Scope} {ρ : Vars} {σ σ₁ : Store} {F : Addr -> Prop} {s s' : Shared}
theorem St.not_prot (S : St Γ F σ s) {a : Addr} {u : V} (e : σ a = some u) : ¬ F a := fun f => by rw [S.off a f] at e; cases e
theorem Post.freeze {Q : V -> Store -> Prop} {val : Value} (p : Post Γ F σ s (fun v σ' => ∃ a u, v = .ref a /\ σ' a = some u /\ Q u (del σ' a)) val s') : Post Γ F σ s Q val s' := by
 obtain ⟨v, σ', r, S, T, a, u, rfl, e, q⟩ := p
 obtain rfl := r.ref_inv
 exact ⟨u, del σ' a, S.frozen e (S.not_prot e), S.le (del_le _ _), T.le (del_le _ _), q⟩
theorem ACall.freeze {f : V} {vs : List V} {Q : V -> Store -> Prop} (h : ACall Γ n f vs σ fun v σ' => ∃ a u, v = .ref a /\ σ' a = some u /\ Q u (del σ' a)) : ACall Γ n f vs σ Q :=
 fun A s F fv vals hA S rf rv => wpAny_mono (h A s F fv vals hA S rf rv) (fun _ _ p => p.freeze) fun _ _ e => e
theorem FrameRel.freeze {env : Env} {x : Str} {a : Addr} {u : V} (R : FrameRel Γ F σ s.heap env ρ) (S : St Γ F σ s) (e : σ a = some u) (hx : ρ.lookup x = some (.ref a)) :
  FrameRel Γ F (del σ a) s.heap env ((x, u) :: ρ) := by
 have L := del_le σ a
 have dn : ∀ b, σ b = none -> del σ a b = none := fun b h => by unfold del; split <;> simp_all
 have fz := S.frozen e (S.not_prot e)
 refine ⟨R.kind, R.globals, R.builtins, ⟨R.prot.1, dn _ R.prot.2.1, R.prot.2.2⟩, ?_, ?_, R.apart, R.has, R.cellk⟩
 ·obtain ⟨m, hm, hv⟩ := R.ns
  refine ⟨m, hm, fun y v hy hk => ?_⟩
  rw [List.lookup_cons] at hy
  cases hb : y == x with
  | true =>
   rw [hb] at hy
   injection hy with hy
   subst hy
   obtain rfl := beq_iff_eq.mp hb
   obtain ⟨val, h1, h2⟩ := hv _ _ hx hk
   obtain rfl := h2.ref_inv
   exact ⟨_, h1, fz⟩
  | false =>
   rw [hb] at hy
   obtain ⟨val, h1, h2⟩ := hv y v hy hk
   exact ⟨val, h1, h2.le L⟩
 ·intro y c hc
  obtain ⟨h1, h2, h3, val, h4, h5⟩ := R.cell y c hc
  refine ⟨dn _ h1, h2, h3, val, h4, fun v hy => ?_⟩
  rw [List.lookup_cons] at hy
  cases hb : y == x with
  | true =>
   rw [hb] at hy
   injection hy with hy
   subst hy
   obtain rfl := beq_iff_eq.mp hb
   obtain ⟨w, h6, h7⟩ := h5 _ hx
   obtain rfl := h7.ref_inv
   exact ⟨_, h6, fz⟩
  | false =>
   rw [hb] at hy
   obtain ⟨w, h6, h7⟩ := h5 v hy
   exact ⟨w, h6, h7.le L⟩
theorem TransF.le_left {env : Env} {σ' : Store} {a : Addr} (T : TransF env (del σ a) s σ' s') : TransF env σ s σ' s' :=
 ⟨fun b o e n w => T.keep b o e (by unfold del; split <;> first | rfl | exact n) w, fun b w e => by
  rcases T.fresh b w e with h | h
  ·refine .inl fun q => h ?_
   unfold del; split <;> first | rfl | exact q
  ·exact .inr h⟩
theorem AExecs.freeze {b : List Stmt} {Q : Fl -> Vars -> Store -> Prop} {x : Str} {a : Addr} {u : V} (hx : ρ.lookup x = some (.ref a)) (e : σ a = some u) (h : AExecs Γ n sc ((x, u) :: ρ) b (del σ a) Q) : AExecs Γ n sc ρ b σ Q := by
 intro A s F env hs hA hR S
 refine wpAny_mono (h A s F env hs hA (hR.freeze S e hx) (S.le (del_le _ _))) (fun f s₁ p => ?_) fun _ _ e => e
 obtain ⟨fl, ρ', σ', r, R₁, S₁, T₁, q⟩ := p
 exact ⟨fl, ρ', σ', r, R₁, S₁, T₁.le_left, q⟩
end
end
section
noncomputable def CK (Γ : Cx) : Prop := Γ.K = Mine.KT Γ.w.params
noncomputable def fnOf (K : Frag) (a : Addr) : FuncData := match K.lookup a with
 | some o => match o.data with
  | .func fd => fd
  | _ => default
 | none => default
noncomputable def bodyOf (fd : FuncData) : List Stmt := match fd.body with
 | .stmts b => b
 | _ => []
noncomputable def isDef (K : Frag) (a : Addr) : Bool := match K.lookup a with
 | some o => match o.data with
  | .func fd => (match fd.body with | .stmts _ => true | _ => false) && fd.closure.isEmpty && scopeOk fd.scope && fd.globals == mainGlobals && fd.builtins == builtinsNs && codeIn K fd.code fd.qualname
  | _ => false
 | none => false
theorem isDef_spec {K : Frag} {a : Addr} (h : isDef K a = true) : ∃ o, K.lookup a = some o /\ o.data = .func (fnOf K a) /\ (fnOf K a).body = .stmts (bodyOf (fnOf K a)) /\ (fnOf K a).closure = [] /\ scopeOk (fnOf K a).scope = true /\ (fnOf K a).globals = mainGlobals /\ (fnOf K a).builtins = builtinsNs /\ codeIn K (fnOf K a).code (fnOf K a).qualname = true := by
 unfold isDef fnOf at *
 cases hl : K.lookup a with
 | none => rw [hl] at h; cases h
 | some o =>
  rw [hl] at h
  dsimp only at h ⊢
  cases hd : o.data with
  | func fd =>
   rw [hd] at h
   dsimp only at h ⊢
   simp only [Bool.and_eq_true, beq_iff_eq, List.isEmpty_iff] at h
   obtain ⟨⟨⟨⟨⟨h1, h2⟩, h3⟩, h4⟩, h5⟩, h6⟩ := h
   refine ⟨o, rfl, hd, ?_, h2, h3, h4, h5, h6⟩
   unfold bodyOf
   cases hb : fd.body with
   | stmts b => rfl
   | _ => rw [hb] at h1; cases h1
  | _ => rw [hd] at h; cases h
theorem ACall.def {Γ : Cx} {n : Nat} {σ : Store} {Q : V -> Store -> Prop} {fa : Addr} {names : List Str} {vs : List V} (hd : isDef Γ.K fa = true)
  (hbind : ∀ vals : List Value, vals.length = vs.length -> bindArgs (fnOf Γ.K fa) ⟨vals, []⟩ = pure (names.zip vals)) (hbk : bindsOk (fnOf Γ.K fa).scope names = true)
  (h : AExecs Γ n (fnOf Γ.K fa).scope ((names.zip vs).reverse) (bodyOf (fnOf Γ.K fa)) σ (RetQ Q)) : ACall Γ (n + 1) (.ref fa) vs σ Q := by
 obtain ⟨o, h1, h2, h3, h4, h5, h6, h7, h8⟩ := isDef_spec hd
 exact ACall.fn h1 h2 h3 h4 h5 h6 h7 h8 hbind hbk h
variable {Γ : Cx} {n : Nat} {σ : Store} {Q : V -> Store -> Prop}
theorem CK.ns (hK : CK Γ) {a : Addr} {x} {r : Option (Option Value)} (h : nsIn (Mine.KT Γ.w.params) a x = r) : nsIn Γ.K a x = r := by rw [hK]; exact h
theorem len2 {α : Type} {l : List α} (h : l.length = 2) : ∃ a b, l = [a, b] := by
 cases l with
 | nil => cases h
 | cons a l => obtain ⟨b, rfl⟩ := List.length_eq_one_iff.mp (Nat.succ.inj h); exact ⟨a, b, rfl⟩
theorem len3 {α : Type} {l : List α} (h : l.length = 3) : ∃ a b c, l = [a, b, c] := by
 cases l with
 | nil => cases h
 | cons a l => obtain ⟨b, c, rfl⟩ := len2 (Nat.succ.inj h); exact ⟨a, b, c, rfl⟩
theorem len4 {α : Type} {l : List α} (h : l.length = 4) : ∃ a b c d, l = [a, b, c, d] := by
 cases l with
 | nil => cases h
 | cons a l => obtain ⟨b, c, d, rfl⟩ := len3 (Nat.succ.inj h); exact ⟨a, b, c, d, rfl⟩
theorem lim_map {α β : Type} {f : α -> β} {l : List α} (h : l.length <= 1000000) : (l.map f).length <= 1000000 := by rw [List.length_map]; exact h
theorem lim_nil {α β : Type} {l : List α} (h : l.length <= 1000000) : ([] : List β).length + l.length <= 1000000 := by rw [List.length_nil, Nat.zero_add]; exact h
noncomputable def P0 : Params := { strHash := fun _ => 0, shareClass := fun _ => 0, mergeTok := fun t => t, idOf := fun _ => 0, idOfShared := fun _ _ => 0, followText := fun _ => false, idOfImm := fun _ => 0 }
noncomputable def fnA (a : Addr) : FuncData := fnOf (KT P0) a
noncomputable def scA (a : Addr) : Scope := (fnA a).scope
noncomputable def boA (a : Addr) : List Stmt := bodyOf (fnA a)
noncomputable def DefOk (a : Addr) : Prop := ∀ P, isDef (KT P) a = true /\ fnOf (KT P) a = fnA a
theorem CK.defs (hK : CK Γ) {fa : Addr} {names : List Str} {vs : List V} (hd : DefOk fa) (hb : ∀ vals : List Value, vals.length = vs.length -> bindArgs (fnA fa) ⟨vals, []⟩ = pure (names.zip vals))
  (hk : bindsOk (scA fa) names = true) (h : AExecs Γ n (scA fa) ((names.zip vs).reverse) (boA fa) σ (RetQ Q)) : ACall Γ (n + 1) (.ref fa) vs σ Q := by
 have e : Γ.K = Mine.KT Γ.w.params := hK
 obtain ⟨h1, h2⟩ := hd Γ.w.params
 rw [<- e] at h1 h2
 unfold scA at hk h
 unfold boA at h
 rw [<- h2] at hb hk h
 exact ACall.def h1 hb hk h
theorem CK.def1 (hK : CK Γ) {fa : Addr} {x : Str} {a : V} (hd : DefOk fa) (hb : ∀ v, bindArgs (fnA fa) ⟨[v], []⟩ = pure [(x, v)])
  (h : AExecs Γ n (scA fa) [(x, a)] (boA fa) σ (RetQ Q)) (hk : bindsOk (scA fa) [x] = true := by kernel_rfl) : ACall Γ (n + 1) (.ref fa) [a] σ Q :=
 hK.defs (names := [x]) hd (fun vals hv => by obtain ⟨v, rfl⟩ := List.length_eq_one_iff.mp hv; exact hb v) hk h
theorem CK.def2 (hK : CK Γ) {fa : Addr} {x y : Str} {a b : V} (hd : DefOk fa) (hb : ∀ v u, bindArgs (fnA fa) ⟨[v, u], []⟩ = pure [(x, v), (y, u)])
  (h : AExecs Γ n (scA fa) [(y, b), (x, a)] (boA fa) σ (RetQ Q)) (hk : bindsOk (scA fa) [x, y] = true := by kernel_rfl) : ACall Γ (n + 1) (.ref fa) [a, b] σ Q :=
 hK.defs (names := [x, y]) hd (fun vals hv => by obtain ⟨v, u, rfl⟩ := len2 hv; exact hb v u) hk h
theorem CK.def3 (hK : CK Γ) {fa : Addr} {x y z : Str} {a b c : V} (hd : DefOk fa) (hb : ∀ v u r, bindArgs (fnA fa) ⟨[v, u, r], []⟩ = pure [(x, v), (y, u), (z, r)])
  (h : AExecs Γ n (scA fa) [(z, c), (y, b), (x, a)] (boA fa) σ (RetQ Q)) (hk : bindsOk (scA fa) [x, y, z] = true := by kernel_rfl) : ACall Γ (n + 1) (.ref fa) [a, b, c] σ Q :=
 hK.defs (names := [x, y, z]) hd (fun vals hv => by obtain ⟨v, u, r, rfl⟩ := len3 hv; exact hb v u r) hk h
theorem CK.def4 (hK : CK Γ) {fa : Addr} {x y z w : Str} {a b c d : V} (hd : DefOk fa) (hb : ∀ v u r s, bindArgs (fnA fa) ⟨[v, u, r, s], []⟩ = pure [(x, v), (y, u), (z, r), (w, s)])
  (h : AExecs Γ n (scA fa) [(w, d), (z, c), (y, b), (x, a)] (boA fa) σ (RetQ Q)) (hk : bindsOk (scA fa) [x, y, z, w] = true := by kernel_rfl) : ACall Γ (n + 1) (.ref fa) [a, b, c, d] σ Q :=
 hK.defs (names := [x, y, z, w]) hd (fun vals hv => by obtain ⟨v, u, r, s, rfl⟩ := len4 hv; exact hb v u r s) hk h
noncomputable def nameOk (sc : Scope) (x : Str) (k : NameKind) : Bool := sc.names.lookup x == some k && (k == .local || k == .cell || k == .free) && !(x == ("__debug__" : Str)) && !(x == ("__classdict__" : Str))
theorem okN {sc : Scope} {x : Str} {k : NameKind} (h : nameOk sc x k = true) : sc.names.lookup x = some k /\ (k == .local || k == .cell || k == .free) = true /\ (x == ("__debug__" : Str)) = false /\ (x == ("__classdict__" : Str)) = false := by
 simp only [nameOk, Bool.and_eq_true, Bool.not_eq_true'] at h
 exact ⟨eq_of_beq h.1.1.1, h.1.1.2, h.1.2, h.2⟩
noncomputable def gloOk (sc : Scope) (x : Str) : Bool := sc.names.lookup x == some .globalImplicit && !(x == ("__debug__" : Str)) && !(x == ("__name__" : Str))
theorem okS {sc : Scope} {x : Str} (h : gloOk sc x = true) : sc.names.lookup x = some .globalImplicit /\ (x == ("__debug__" : Str)) = false /\ x ≠ ("__name__" : Str) := by
 simp only [gloOk, Bool.and_eq_true, Bool.not_eq_true'] at h
 exact ⟨eq_of_beq h.1.1, h.1.2, fun e => by rw [e] at h; exact absurd h.2 (by decide)⟩
section
variable {sc : Scope} {ρ : Vars} {x : Str} {p pos : Pos} {v : V}
theorem AEval.own {k : NameKind} (ok : nameOk sc x k = true) (hv : ρ.lookup x = some v) (q : Q v σ) : AEval Γ n sc ρ (.Name x p) σ Q :=
 let s := okN ok; AEval.name s.1 s.2.1 hv q s.2.2.1 s.2.2.2
theorem AEval.loc (hv : ρ.lookup x = some v) (q : Q v σ) (ok : nameOk sc x .local = true := by kernel_rfl) : AEval Γ n sc ρ (.Name x p) σ Q := AEval.own ok hv q
theorem AEval.cel (hv : ρ.lookup x = some v) (q : Q v σ) (ok : nameOk sc x .cell = true := by kernel_rfl) : AEval Γ n sc ρ (.Name x p) σ Q := AEval.own ok hv q
theorem AArgs.loc {es : List Expr} {Q : List V -> Store -> Prop} (hv : ρ.lookup x = some v) (q : AArgs Γ n sc ρ es σ (ConsQ v Q)) (ok : nameOk sc x .local = true := by kernel_rfl) : AArgs Γ n sc ρ (.Name x p :: es) σ Q :=
 AArgs.cons (AEval.own ok hv q)
theorem AArgs.cel {es : List Expr} {Q : List V -> Store -> Prop} (hv : ρ.lookup x = some v) (q : AArgs Γ n sc ρ es σ (ConsQ v Q)) (ok : nameOk sc x .cell = true := by kernel_rfl) : AArgs Γ n sc ρ (.Name x p :: es) σ Q :=
 AArgs.cons (AEval.own ok hv q)
theorem AAssign.loc {Q : Vars -> Store -> Prop} (q : Q ((x, v) :: ρ) σ) (ok : nameOk sc x .local = true := by kernel_rfl) : AAssign Γ n sc ρ (.Name x p) v σ Q := AAssign.name (okN ok).1 (.inl rfl) q
theorem AAssign.cel {Q : Vars -> Store -> Prop} (q : Q ((x, v) :: ρ) σ) (ok : nameOk sc x .cell = true := by kernel_rfl) : AAssign Γ n sc ρ (.Name x p) v σ Q := AAssign.name (okN ok).1 (.inr rfl) q
noncomputable def CallOf (x : Str) (p : Pos) (args : List Expr) (pos : Pos) (env : Env) : Sem Value := do callWith pos (<- eval (.Name x p) env) [] (backTo pos (starEach args env)) (backToKw pos (keywordEach [] env))
theorem CK.callG (hK : CK Γ) {a : Addr} {args : List Expr} (h : AArgs Γ n sc ρ args σ (FunQ Γ n (.ref a) [] Q)) (ok : gloOk sc x = true := by kernel_rfl) (hv : ∀ P, nsIn (KT P) mainGlobals x = some (some (.ref a)) := by intro _; kernel_rfl)
  (kp : ∀ P, keepIn (KT P) (.ref a) = true := by intro _; kernel_rfl) (he : ∀ env, eval (.Call (.Name x p) args [] pos) env = CallOf x p args pos env := by intro _; rfl) (hargs : plainArgs args = true := by exact rfl) : AEval Γ n sc ρ (.Call (.Name x p) args [] pos) σ Q :=
 AEval.call (AEval.glob (okS ok).1 (hK.ns (hv _)) ⟨by show keepIn Γ.K (.ref a) = true; rw [hK]; exact kp _, h⟩ (okS ok).2.1) he hargs
theorem CK.callB (hK : CK Γ) {id : String} {args : List Expr} (h : AArgs Γ n sc ρ args σ (FunQ Γ n (.blt id) [] Q)) (ok : gloOk sc x = true := by kernel_rfl) (hm : ∀ P, nsIn (KT P) mainGlobals x = some none := by intro _; kernel_rfl)
  (hb : bootBuiltins x = some (.builtin id) := by kernel_rfl) (he : ∀ env, eval (.Call (.Name x p) args [] pos) env = CallOf x p args pos env := by intro _; rfl) (hargs : plainArgs args = true := by exact rfl) : AEval Γ n sc ρ (.Call (.Name x p) args [] pos) σ Q :=
 AEval.call (AEval.blt (okS ok).1 (hK.ns (hm _)) hb (okS ok).2.2 ⟨trivial, h⟩ (okS ok).2.1) he hargs
theorem CK.callT (hK : CK Γ) {id : String} {args : List Expr} (h : AArgs Γ n sc ρ args σ (FunQ Γ n (.typ id) [] Q)) (ok : gloOk sc x = true := by kernel_rfl) (hm : ∀ P, nsIn (KT P) mainGlobals x = some none := by intro _; kernel_rfl)
  (hb : bootBuiltins x = some (.type id) := by kernel_rfl) (he : ∀ env, eval (.Call (.Name x p) args [] pos) env = CallOf x p args pos env := by intro _; rfl) (hargs : plainArgs args = true := by exact rfl) : AEval Γ n sc ρ (.Call (.Name x p) args [] pos) σ Q :=
 AEval.call (AEval.typ (okS ok).1 (hK.ns (hm _)) hb (okS ok).2.2 ⟨trivial, h⟩ (okS ok).2.1) he hargs
end
theorem def_74 : DefOk 74 := fun P => ⟨by kernel_rfl, by kernel_rfl⟩
theorem bind_74 (v : Value) : bindArgs (fnA 74) ⟨[v], []⟩ = pure [(Str.ofString "t", v)] := by kernel_rfl
noncomputable def isVar (op : Str) : Bool := op.cps[0]? == some 63
theorem qm_iff {op : Str} {c : Nat} (hc : op.cps[0]? = some c) : decide ((⟨#[c]⟩ : Str) = Str.ofString "?") = isVar op := by
 unfold isVar
 rw [hc]
 by_cases h : c = 63
 ·subst h; rfl
 ·rw [decide_eq_false (fun e => h (by injection e with e; injection e with e; injection e))]
  symm
  rw [beq_eq_false_iff_ne]
  exact fun e => h (by injection e)
theorem c_is_variable (hK : CK Γ) {op : Str} {kids : List V} (hz : kids.length <= 1000) {c : Nat} (hc : op.cps[0]? = some c)
  (q : Q (.bool (kids.isEmpty && isVar op)) σ) : ACall Γ (n + 1) (.ref 74) [.tup (.str op :: kids)] σ Q := by
 refine hK.def1 def_74 bind_74 ?_
 ·skip
  refine AExecs.cons (AExec.ret ?_)
  refine AEval.and2 (AEval.compare (hK.callB (id := "len") (AArgs.loc rfl (AArgs.nil (ACall.lenTuple ?_ (AEval.int (AOp2.eqI ?_)))))))
  ·simp; lia
  ·cases kids with
   | nil =>
    refine AEval.compare (AEval.head1 (AEval.sub (AEval.loc rfl (AEval.int (AItem.tuple (k := 0) (v := .str op) rfl (by simp) ⟨op, c, rfl, hc, AEval.strc (AOp2.eqS ?_)⟩)))))
    rw [qm_iff hc]
    exact q
   | cons k r =>
    have : decide ((((V.str op :: k :: r).length : Nat) : Int) = 1) = false := by rw [decide_eq_false_iff_not]; simp; lia
    rw [this]
    exact q
end
section
variable {Γ : Cx} {n : Nat} {σ : Store} {Q : V -> Store -> Prop}
theorem CompRun.mapE {α : Type} {turn : V -> List V -> Store -> (List V -> Store -> Prop) -> Prop} (g f : α -> V) : ∀ (xs : List α) (acc : List V) {K : List V -> Store -> Prop}, acc.length + xs.length <= 1000000 ->
  (∀ x ∈ xs, ∀ (acc : List V) (K : List V -> Store -> Prop), acc.length <= 1000000 -> K (acc ++ [f x]) σ -> turn (g x) acc σ K) -> K (acc ++ xs.map f) σ -> CompRun turn (xs.map g) acc σ K
 | [], acc, K, _, _, q => by simpa [CompRun] using q
 | x :: xs, acc, K, hz, ht, q => by
  refine ht x List.mem_cons_self acc _ (by simp at hz; lia) (CompRun.mapE g f xs (acc ++ [f x]) (by simp at hz ⊢; lia) (fun y hy => ht y (List.mem_cons_of_mem _ hy)) (by simpa using q))
theorem keeps_two {ρ : Vars} {x y : Str} {a b : V} (hx : ρ.lookup x = none) (hy : ρ.lookup y = none) : keepsV ρ ((y, b) :: (x, a) :: ρ) := by
 intro z v h
 have h1 : (z == y) = false := by rw [beq_eq_false_iff_ne]; rintro rfl; rw [hy] at h; cases h
 have h2 : (z == x) = false := by rw [beq_eq_false_iff_ne]; rintro rfl; rw [hx] at h; cases h
 rw [List.lookup_cons, h1, List.lookup_cons, h2]; exact h
theorem put_put (σ : Store) (a : Addr) (u v : V) : put (put σ a u) a v = put σ a v := by
 funext b; unfold put; by_cases q : b = a <;> simp [q]
theorem free_one {ρ : Vars} {x : Str} {v : V} {ns : List (Str × NameKind)} (hk : ns.lookup x = some .free) (hx : ρ.lookup x = some v) : ∀ y u, List.lookup y [(x, v)] = some u -> ρ.lookup y = some u /\ ns.lookup y = some .free := by
 intro y u h
 rw [List.lookup_cons] at h
 cases hb : y == x with
 | true => rw [hb] at h; cases h; obtain rfl := beq_iff_eq.mp hb; exact ⟨hx, hk⟩
 | false => rw [hb] at h; cases h
theorem ForRun.inv {turn : V -> Vars -> Store -> (Fl -> Vars -> Store -> Prop) -> Prop} {Q : Fl -> Vars -> Store -> Prop} (I : List V -> Vars -> Store -> Prop)
  (hstep : ∀ x xs ρ σ (K : Fl -> Vars -> Store -> Prop), I (x :: xs) ρ σ -> (∀ ρ' σ', I xs ρ' σ' -> K .next ρ' σ') -> turn x ρ σ K) (hend : ∀ ρ σ, I [] ρ σ -> Q .next ρ σ) : ∀ xs ρ σ, I xs ρ σ -> ForRun turn xs ρ σ Q
 | [], ρ, σ, h => hend ρ σ h
 | x :: xs, ρ, σ, h => hstep x xs ρ σ _ h fun ρ' σ' h' => ForRun.inv I hstep hend xs ρ' σ' h'
mutual
noncomputable def Tree.size : Tree -> Nat
 | .node _ kids => 1 + Tree.sizes kids
noncomputable def Tree.sizes : List Tree -> Nat
 | [] => 0
 | t :: r => Tree.size t + Tree.sizes r
end
mutual
noncomputable def Tree.height : Tree -> Nat
 | .node _ kids => Tree.heights kids
noncomputable def Tree.heights : List Tree -> Nat
 | [] => 0
 | t :: r => max (Tree.height t + 1) (Tree.heights r)
end
mutual
noncomputable def partsT : Tree -> List (List Int × Tree)
 | .node op kids => ([], .node op kids) :: partsK 0 kids
noncomputable def partsK : Nat -> List Tree -> List (List Int × Tree)
 | _, [] => []
 | i, t :: r => (partsT t).map (fun p => ((i : Int) :: p.1, p.2)) ++ partsK (i + 1) r
end
noncomputable def partV (p : List Int × Tree) : V := .tup [.tup (p.1.map .int), p.2.v]
mutual
theorem partsT_len : ∀ t : Tree, (partsT t).length = t.size
 | .node op kids => by rw [partsT, Tree.size, List.length_cons, partsK_len]; lia
theorem partsK_len : ∀ (i : Nat) (ts : List Tree), (partsK i ts).length = Tree.sizes ts
 | _, [] => rfl
 | i, t :: r => by rw [partsK, Tree.sizes, List.length_append, List.length_map, partsT_len t, partsK_len (i + 1) r]
end
theorem Tree.size_mem : ∀ {ts : List Tree} {t : Tree}, t ∈ ts -> t.size <= Tree.sizes ts
 | a :: r, t, h => by
  rw [Tree.sizes]
  rcases List.mem_cons.mp h with rfl | h
  ·lia
  ·have := Tree.size_mem h; lia
theorem Tree.height_mem : ∀ {ts : List Tree} {t : Tree}, t ∈ ts -> t.height + 1 <= Tree.heights ts
 | a :: r, t, h => by
  rw [Tree.heights]
  rcases List.mem_cons.mp h with rfl | h
  ·lia
  ·have := Tree.height_mem h; lia
theorem Tree.len_vs : ∀ ts : List Tree, (Tree.vs ts).length = ts.length
 | [] => rfl
 | t :: r => by rw [Tree.vs, List.length_cons, List.length_cons, Tree.len_vs r]
theorem Tree.len_sizes : ∀ ts : List Tree, ts.length <= Tree.sizes ts
 | [] => Nat.le_refl _
 | .node op kids :: r => by rw [Tree.sizes, Tree.size, List.length_cons]; have := Tree.len_sizes r; lia
mutual
theorem partsT_path : ∀ (t : Tree) (p : List Int × Tree), p ∈ partsT t -> p.1.length <= t.size
 | .node op kids, p, h => by
  rw [partsT] at h
  rw [Tree.size]
  rcases List.mem_cons.mp h with rfl | h
  ·simp
  ·have := partsK_path 0 kids p h; lia
theorem partsK_path : ∀ (i : Nat) (ts : List Tree) (p : List Int × Tree), p ∈ partsK i ts -> p.1.length <= 1 + Tree.sizes ts
 | i, [], p, h => by rw [partsK] at h; cases h
 | i, t :: r, p, h => by
  rw [partsK] at h
  rw [Tree.sizes]
  rcases List.mem_append.mp h with h | h
  ·obtain ⟨q, hq, rfl⟩ := List.mem_map.mp h
   have := partsT_path t q hq
   simp only [List.length_cons]; lia
  ·have := partsK_path (i + 1) r p h; lia
end
theorem del_put {σ : Store} {a : Addr} {v : V} (h : σ a = none) : del (put σ a v) a = σ := by
 funext b; unfold del put; by_cases q : b = a
 ·subst q; rw [if_pos rfl, h]
 ·rw [if_neg q, if_neg q]
theorem def_84 : DefOk 84 := fun P => ⟨by kernel_rfl, by kernel_rfl⟩
theorem bind_84 (v : Value) : bindArgs (fnA 84) ⟨[v], []⟩ = pure [(Str.ofString "t", v)] := by kernel_rfl
theorem c_parts (hK : CK Γ) : ∀ (n : Nat) {σ : Store} {Q : V -> Store -> Prop} (t : Tree), t.height < n -> t.size <= 1000 -> Q (.lst ((partsT t).map partV)) σ -> ACall Γ n (.ref 84) [t.v] σ Q := by
 intro n
 induction n with
 | zero => intro σ Q t hh; exact absurd hh (Nat.not_lt_zero _)
 | succ n ih =>
  intro σ Q t hh hs q
  obtain ⟨op, kids⟩ := t
  refine ACall.freeze (hK.def1 def_84 bind_84 ?_)
  ·skip
   refine AExecs.cons (AExec.assign ?_)
   refine AEval.list (AArgs.cons (AEval.tuple ?_))
   refine AArgs.cons (AEval.tuple (AArgs.nil ⟨lim rfl, ?_⟩))
   refine AArgs.loc rfl ?_
   refine AArgs.nil ⟨lim rfl, ?_⟩
   refine AArgs.nil ⟨lim rfl, fun a ha => ?_⟩
   refine AAssign.loc ?_
   refine AExecs.cons (AExec.for ?_)
   refine AIt.enum (by kernel_rfl) (hK.ns (by kernel_rfl)) (AEval.tail1 (AEval.loc rfl (TailQ.mk ?_ ?_ (EnumQ.mk rfl ?_))))
   ·simp
   ·have h1 := Tree.len_vs kids
    have h2 := Tree.len_sizes kids
    rw [Tree.size] at hs
    show (V.str op :: Tree.vs kids).length <= _
    rw [List.length_cons]; lia
   refine ForRun.inv (fun xs ρ σ' => ∃ i ks acc, xs = enumV i (Tree.vs ks) /\ ρ.lookup (Str.ofString "found") = some (.ref a) /\ (∀ t ∈ ks, t.height < n /\ t.size <= 1000) /\ σ' = put σ a (.lst (acc.map partV)) /\ acc ++ partsK i ks = partsT (.node op kids)) ?_ ?_ _ _ _ ⟨0, kids, [([], .node op kids)], rfl, rfl, ?_, rfl, rfl⟩
   ·rintro x xs ρ σ' K ⟨i, ks, acc, hx, hf, hks, rfl, hacc⟩ hK'
    cases ks with
    | nil => cases hx
    | cons k ks =>
     simp only [Tree.vs, enumV, List.cons.injEq] at hx
     obtain ⟨rfl, rfl⟩ := hx
     refine AAssign.tuple rfl rfl (AAssign.cel (AAssign.loc ?_))
     obtain ⟨hk1, hk2⟩ := hks k List.mem_cons_self
     have hf1 : List.lookup (Str.ofString "found") ((Str.ofString "kid", k.v) :: (Str.ofString "k", V.int i) :: ρ) = some (V.ref a) := hf
     refine AExecs.cons (AExec.expr ?_)
     refine AEval.meth (AEval.loc hf1 ?_)
     refine AMeth.blt (list_type (.ref (put_self _ _ _))) PySem.F.plainAttrs_list PySem.F.slot_list_extend PySem.F.type_list_extend ⟨trivial, ?_⟩
     refine AArgs.cons (AEval.listcompG [(Str.ofString "k", V.int i)] (turn0 _ _ _ _ _) (by kernel_rfl) ?_ ?_ ?_)
     ·exact free_one (by kernel_rfl) rfl
     ·refine AIt.val (hK.callG (a := 84) ?_)
      ·refine AArgs.loc rfl (AArgs.nil (ih k hk1 hk2 (WalkQ.mk rfl ?_)))
       refine CompRun.mapE partV (fun p => partV ((i : Int) :: p.1, p.2)) (partsT k) [] (by rw [partsT_len]; simp; lia) (fun p hp acc' K' hz' hK2 => ?_) ?_
       ·refine ALoc.pair rfl (by kernel_rfl) (by kernel_rfl) ⟨?_, AComp.rest0 (AEval.tuple (AArgs.cons (AEval.binop (AEval.tuple (AArgs.cel rfl (AArgs.nil ⟨lim rfl, ?_⟩))))))⟩
        ·exact keeps_two rfl rfl
        ·refine AEval.loc rfl (AOp2.addT ?_ ?_)
         ·have h1 := partsT_path k p hp
          simp only [List.length_map, List.length_singleton]
          lia
         ·exact AArgs.loc rfl (AArgs.nil ⟨lim rfl, hz', hK2⟩)
       ·refine AArgs.nil (ACall.extend (us := (partsT k).map fun p => partV ((i : Int) :: p.1, p.2)) (put_self _ _ _) .lst ?_ ?_)
        ·have h1 := congrArg List.length hacc
         rw [partsT_len, List.length_append] at h1
         simp only [List.length_map, partsT_len]
         lia
        ·rw [put_put, show ((partsT k).map fun p => partV ((i : Int) :: p.1, p.2)) = ((partsT k).map fun p => ((i : Int) :: p.1, p.2)).map partV from by rw [List.map_map]; rfl, <- List.map_append]
         refine AExecs.nil (hK' _ _ ⟨i + 1, ks, _, rfl, hf1, fun t ht => hks t (List.mem_cons_of_mem _ ht), rfl, ?_⟩)
         rw [<- hacc, partsK, List.append_assoc]
     ·intro _ _; rfl
   ·rintro ρ σ' ⟨i, ks, acc, hx, hf, hks, rfl, hacc⟩
    cases ks with
    | cons k ks => cases hx
    | nil =>
     refine AExecs.cons (AExec.ret (AEval.loc hf ?_))
     rw [partsK, List.append_nil] at hacc
     subst hacc
     refine ⟨a, _, rfl, put_self _ _ _, ?_⟩
     rw [del_put ha]; exact q
   ·intro t ht
    have h1 := Tree.height_mem ht
    have h2 := Tree.size_mem ht
    rw [Tree.height] at hh
    rw [Tree.size] at hs
    exact ⟨by lia, by lia⟩
end
section
variable {Γ : Cx} {n : Nat} {σ : Store} {Q : V -> Store -> Prop}
theorem def_79 : DefOk 79 := fun P => ⟨by kernel_rfl, by kernel_rfl⟩
theorem bind_79 (v : Value) : bindArgs (fnA 79) ⟨[v], []⟩ = pure [(Str.ofString "t", v)] := by kernel_rfl
theorem CompRun.filterE {α : Type} {turn : V -> List V -> Store -> (List V -> Store -> Prop) -> Prop} (g f : α -> V) (P : α -> Bool) : ∀ (xs : List α) (acc : List V) {K : List V -> Store -> Prop}, acc.length + xs.length <= 1000000 ->
  (∀ x ∈ xs, ∀ (acc : List V) (K : List V -> Store -> Prop), acc.length <= 1000000 -> K (if P x then acc ++ [f x] else acc) σ -> turn (g x) acc σ K) -> K (acc ++ (xs.filter P).map f) σ -> CompRun turn (xs.map g) acc σ K
 | [], acc, K, _, _, q => by simpa [CompRun] using q
 | x :: xs, acc, K, hz, ht, q => by
  refine ht x List.mem_cons_self acc _ (by simp at hz; lia) (CompRun.filterE g f P xs _ (by split <;> simp at hz ⊢ <;> lia) (fun y hy => ht y (List.mem_cons_of_mem _ hy)) ?_)
  rw [List.filter_cons] at q
  split <;> rename_i h
  ·rw [if_pos h] at q; simpa using q
  ·rw [if_neg h] at q; exact q
noncomputable def Tree.op : Tree -> Str
 | .node op _ => op
noncomputable def Tree.isVar : Tree -> Bool
 | .node op kids => kids.isEmpty && Mine.isVar op
noncomputable def varsT (t : Tree) : List Str := ((partsT t).filter fun p => p.2.isVar).map fun p => p.2.op
theorem c_variables (hK : CK Γ) (t : Tree) (hh : t.height < n + 1) (hs : t.size <= 1000) (hop : ∀ p ∈ partsT t, p.2.size <= 1000 /\ ∃ c, p.2.op.cps[0]? = some c) {u v : Str} (huv : ∀ k ∈ varsT t, k = u \/ k = v)
  (q : ∀ js : List Str, js.Perm (setAll (varsT t) []) -> sortedS js = true -> Q (.lst (js.map .str)) σ) : ACall Γ (n + 2) (.ref 79) [t.v] σ Q := by
 refine hK.def1 def_79 bind_79 ?_
 ·skip
  refine AExecs.cons (AExec.ret ?_)
  refine hK.callB (id := "sorted") ?_
  refine AArgs.cons (hK.callT (id := "set") ?_)
  refine AArgs.cons (AEval.listcompG [] (turn1 _ _ _ _ _ _) (by kernel_rfl) (fun x v h => by cases h) ?_ ?_)
  ·refine AIt.val (hK.callG (a := 84) ?_)
   ·refine AArgs.loc rfl (AArgs.nil (c_parts hK _ t hh hs (WalkQ.mk rfl ?_)))
    refine CompRun.filterE partV (fun p => .str p.2.op) (fun p => p.2.isVar) (partsT t) [] (by rw [partsT_len]; simp; lia) (fun p hp acc' K' hz' hK2 => ?_) ?_
    ·obtain ⟨hz1, c, hc⟩ := hop p hp
     obtain ⟨path, op, kids⟩ := p
     refine ALoc.pair rfl (by kernel_rfl) (by kernel_rfl) ⟨keeps_two rfl rfl, AComp.rest1 (ATest.value (hK.callG (a := 74) (AArgs.loc rfl (AArgs.nil ?_))))⟩
     ·have h1 := Tree.len_vs kids
      have h2 := Tree.len_sizes kids
      simp only [Tree.size] at hz1
      refine c_is_variable hK (kids := Tree.vs kids) (by lia) hc (ATruthy.bool ?_)
      have he : (Tree.vs kids).isEmpty = kids.isEmpty := by cases kids <;> rfl
      rw [he]
      cases hb : (kids.isEmpty && Mine.isVar op) with
      | true =>
       have hK3 : K' (acc' ++ [V.str op]) σ := by simpa [Tree.isVar, hb, Tree.op] using hK2
       exact AEval.sub (AEval.loc rfl (AEval.int (AItem.tuple (k := 0) (v := .str op) rfl (by rw [List.length_cons]; lia) ⟨hz', hK3⟩)))
      | false =>
       have hK3 : K' acc' σ := by simpa [Tree.isVar, hb] using hK2
       exact hK3
    ·refine AArgs.nil ?_
     have e : ([] ++ ((partsT t).filter fun p => p.2.isVar).map fun p => V.str p.2.op) = (varsT t).map .str := by rw [varsT, List.map_map]; rfl
     rw [e]
     exact ACall.setS huv (AArgs.nil (ACall.sortedSS q))
  ·intro _ _; rfl
end
section
variable {Γ : Cx} {n : Nat} {σ : Store} {Q : V -> Store -> Prop}
theorem def_195 : DefOk 195 := fun P => ⟨by kernel_rfl, by kernel_rfl⟩
theorem bind_195 (v u : Value) : bindArgs (fnA 195) ⟨[v, u], []⟩ = pure [(Str.ofString "pattern", v), (Str.ofString "table", u)] := by kernel_rfl
theorem def_67 : DefOk 67 := fun P => ⟨by kernel_rfl, by kernel_rfl⟩
theorem bind_67 (v : Value) : bindArgs (fnA 67) ⟨[v], []⟩ = pure [(Str.ofString "text", v)] := by kernel_rfl
theorem keepsV_refl {x : Str} {a : V} (_ : Unit := ()) : keepsV [] [(x, a)] := fun z v h => by cases h
noncomputable def opOk (op : Str) : Bool := !(decide (op = Str.ofString "")) && op.cps.all (· < 128) && decide (op.cps.size <= 1000) && op.cps.toList.all fun c => !Txt.isspace ⟨#[c]⟩ && (Builtin.Str.occurrences (Str.ofString "()[]{},:") ⟨#[c]⟩ 0 (Str.ofString "()[]{},:").length 1).isEmpty
theorem c_is_op (hK : CK Γ) {op : Str} (ho : opOk op = true) (q : Q (.bool true) σ) : ACall Γ (n + 1) (.ref 67) [.str op] σ Q := by
 unfold opOk at ho
 simp only [Bool.and_eq_true, List.all_eq_true, Bool.not_eq_true'] at ho
 obtain ⟨⟨⟨h1, h2⟩, h3⟩, h4⟩ := ho
 rw [decide_eq_true_iff] at h3
 refine hK.def1 def_67 bind_67 ?_
 ·skip
  refine AExecs.cons (AExec.ret ?_)
  refine AEval.and2 (AEval.compare (AEval.loc rfl (AEval.strc (AOp2.neS ?_))))
  rw [h1]
  refine AEval.compare (AEval.listcompG [] (turn1 _ _ _ _ _ _) (by kernel_rfl) (fun x v h => by cases h) ?_ ?_)
  ·refine AIt.val (AEval.loc rfl ⟨op.cps.toList.map fun c => V.str ⟨#[c]⟩, by simp only [walkOf]; rw [if_pos h2], ?_⟩)
   refine CompRun.filterE (fun c => V.str ⟨#[c]⟩) (fun c => V.str ⟨#[c]⟩) (fun _ => false) op.cps.toList [] (by simp; lia) (fun c hc acc' K' hz' hK2 => ?_) ?_
   ·obtain ⟨h5, h6⟩ := h4 c hc
    refine ALoc.name (by kernel_rfl) ⟨keepsV_refl, AComp.rest1 (ATest.or2 (ATest.value (AEval.meth (AEval.loc rfl (AMeth.blt str_type PySem.F.plainAttrs_str PySem.F.slot_str_isspace PySem.F.type_str_isspace ⟨trivial, AArgs.nil (ACall.isspace ?_)⟩)))))⟩
    refine ATruthy.bool ?_
    rw [h5]
    refine ATest.compare (AEval.loc rfl (AEval.strc (AOp2.inS ?_)))
    rw [h6]
    exact hK2
   ·refine AEval.listF (AArgs.nil ⟨lim rfl, AOp2.eqL .lst .lst (fun j a b _ h => ?_) fun b hb => ?_⟩)
    ·simp at h
    ·have : b = true := hb.mpr (by simp)
     subst this; exact q
  ·intro _ _; rfl
mutual
noncomputable def filledT (tab : List (Str × Tree)) : Tree -> Tree
 | .node op kids => if kids.isEmpty && isVar op then (tab.lookup op).getD (.node op kids) else .node op (filledK tab kids)
noncomputable def filledK (tab : List (Str × Tree)) : List Tree -> List Tree
 | [] => []
 | t :: r => filledT tab t :: filledK tab r
end
theorem filledK_map (tab : List (Str × Tree)) : ∀ ts, filledK tab ts = ts.map (filledT tab)
 | [] => rfl
 | t :: r => by rw [filledK, filledK_map tab r]; rfl
theorem Tree.vs_map : ∀ ts : List Tree, Tree.vs ts = ts.map Tree.v
 | [] => rfl
 | t :: r => by rw [Tree.vs, Tree.vs_map r]; rfl
noncomputable def tabV (tab : List (Str × Tree)) : List (V × V) := tab.map fun p => (.str p.1, p.2.v)
mutual
noncomputable def Tree.good : Tree -> Prop
 | .node op kids => (∃ c, op.cps[0]? = some c) /\ Tree.goods kids
noncomputable def Tree.goods : List Tree -> Prop
 | [] => True
 | t :: r => Tree.good t /\ Tree.goods r
end
theorem Tree.good_mem : ∀ {ts : List Tree} {t : Tree}, Tree.goods ts -> t ∈ ts -> t.good
 | a :: r, t, g, h => by
  rw [Tree.goods] at g
  rcases List.mem_cons.mp h with rfl | h
  ·exact g.1
  ·exact Tree.good_mem g.2 h
theorem keeps_one {ρ : Vars} {x : Str} {a : V} (hx : ρ.lookup x = none) : keepsV ρ ((x, a) :: ρ) := by
 intro z v h
 have h2 : (z == x) = false := by rw [beq_eq_false_iff_ne]; rintro rfl; rw [hx] at h; cases h
 rw [List.lookup_cons, h2]; exact h
theorem dget_tab {op : Str} : ∀ {tab : List (Str × Tree)} {d : Tree}, (dget (.str op) (tabV tab)).getD d.v = ((tab.lookup op).getD d).v
 | [], d => rfl
 | (k, t) :: r, d => by
  unfold dget tabV
  rw [List.map_cons, List.find?_cons, List.lookup_cons]
  by_cases h : op = k
  ·subst h
   rw [show (op == op) = true from by simp]
   rw [eqV_self]; rfl
  ·rw [show (op == k) = false from by simpa using h]
   rw [eqV_ne (fun e => h (by injection e with e; exact e.symm))]
   exact dget_tab
theorem c_filled (hK : CK Γ) {tab : List (Str × Tree)} : ∀ (n : Nat) {σ : Store} {Q : V -> Store -> Prop} (t : Tree), t.height < n -> t.size <= 1000 -> t.good -> Q (filledT tab t).v σ -> ACall Γ (n + 1) (.ref 195) [t.v, .dct .S (tabV tab)] σ Q := by
 intro n
 induction n with
 | zero => intro σ Q t hh; exact absurd hh (Nat.not_lt_zero _)
 | succ n ih =>
  intro σ Q t hh hs hop q
  obtain ⟨op, kids⟩ := t
  rw [Tree.good] at hop
  obtain ⟨⟨c, hc⟩, hgk⟩ := hop
  have h1 := Tree.len_vs kids
  have h2 := Tree.len_sizes kids
  have hz : 1 + Tree.sizes kids <= 1000 := hs
  refine hK.def2 def_195 bind_195 ?_
  ·skip
   refine AExecs.cons (AExec.if (ATest.value (hK.callG (a := 74) (AArgs.loc rfl (AArgs.nil ?_)))))
   ·refine c_is_variable hK (kids := Tree.vs kids) (by lia) hc (ATruthy.bool ?_)
    have he : (Tree.vs kids).isEmpty = kids.isEmpty := by cases kids <;> rfl
    rw [he]
    cases hb : (kids.isEmpty && Mine.isVar op) with
    | true =>
     have hq : Q (((tab.lookup op).getD (.node op kids)).v) σ := by simpa [filledT, hb] using q
     refine AExecs.cons (AExec.ret (AEval.meth (AEval.cel rfl (AMeth.blt (dict_type .dct) PySem.F.plainAttrs_dict PySem.F.slot_dict_get PySem.F.type_dict_get ⟨trivial, ?_⟩))))
     refine AArgs.cons (AEval.sub (AEval.loc rfl (AEval.int (AItem.tuple (k := 0) (v := .str op) rfl (by rw [List.length_cons]; lia) ?_))))
     refine AArgs.loc rfl (AArgs.nil (ACall.dictGet .dct ⟨_, rfl⟩ ?_))
     have hq' : Q ((dget (.str op) (tabV tab)).getD (Tree.node op kids).v) σ := by rw [dget_tab]; exact hq
     exact hq'
    | false =>
     have hq : Q (.tup (.str op :: (kids.map fun t => (filledT tab t).v))) σ := by
      have : filledT tab (.node op kids) = .node op (kids.map (filledT tab)) := by rw [filledT, hb, filledK_map]; rfl
      rw [this, Tree.v, Tree.vs_map, List.map_map] at q
      exact q
     refine AExecs.nil ?_
     refine AExecs.cons (AExec.ret (AEval.binop (AEval.tuple (AArgs.cons (AEval.sub (AEval.loc rfl (AEval.int (AItem.tuple (k := 0) (v := .str op) rfl (by rw [List.length_cons]; lia) (AArgs.nil ⟨lim rfl, ?_⟩)))))))))
     refine hK.callT (id := "tuple") ?_
     refine AArgs.cons (AEval.listcompG [(Str.ofString "table", .dct .S (tabV tab))] (turn0 _ _ _ _ _) (by kernel_rfl) (free_one (by kernel_rfl) rfl) ?_ ?_)
     ·refine AIt.val (AEval.tail1 (AEval.loc rfl (TailQ.mk ?_ ?_ (WalkQ.mk rfl ?_))))
      ·simp
      ·rw [List.length_cons]; lia
      ·rw [show (V.str op :: Tree.vs kids).drop 1 = kids.map Tree.v from Tree.vs_map kids]
       refine CompRun.mapE Tree.v (fun t => (filledT tab t).v) kids [] (lim_nil (by lia)) (fun p hp acc' K' hz' hK2 => ?_) ?_
       ·have e1 := Tree.height_mem hp
        have e2 := Tree.size_mem hp
        rw [Tree.height] at hh
        refine ALoc.name (by kernel_rfl) ⟨keeps_one rfl, AComp.rest0 (hK.callG (a := 195) ?_)⟩
        ·exact AArgs.loc rfl (AArgs.cel rfl (AArgs.nil (ih p (by lia) (by lia) (Tree.good_mem hgk hp) ⟨hz', hK2⟩)))
       ·refine AArgs.nil (ACall.tupleList .lst ?_ (AOp2.addT ?_ hq))
        ·simp; lia
        ·simp; lia
     ·intro _ _; rfl
end
section
variable {Γ : Cx} {n : Nat} {σ : Store} {Q : V -> Store -> Prop}
inductive Lab where
 | H | Hd | B | Bd | U | Ud | E | Fo | K | Ab | W | N | Nu | We | De | Ua | Ul | Um | use (c : Nat) | lot (i : Nat)
 deriving DecidableEq
noncomputable abbrev Loc := Lab -> Addr
noncomputable abbrev Nd := Str × List Nat
noncomputable def fixd : Lab -> Bool
 | .use _ => false
 | .lot _ => false
 | _ => true
set_option genInjectivity false in
set_option genSizeOf false in
structure HS where
 nodes : List Nd
 terms : List Tree
 wts : List Int
 dps : List Int
 par : List Nat
 lots : List (List V)
 ulV : List V
 merged : List V
 edges : List V
 forest : List V
 waiting : List Nat
 uses : Nat -> Option (List Nat)
 kn : Nd -> Option Nat
 num : Nd -> Option Nat
 numV : List (V × V)
 knV : List (V × V)
 abV : List (V × V)
noncomputable def natV (k : Nat) : V := .int (k : Int)
noncomputable def nodeV (nd : Nd) : V := .tup (.str nd.1 :: nd.2.map natV)
noncomputable def fieldsH (loc : Loc) : List (V × V) := [(.str "bank", .ref (loc .B)), (.str "unions", .ref (loc .U)), (.str "edges", .ref (loc .E)), (.str "forest", .ref (loc .Fo)), (.str "known", .ref (loc .K)), (.str "above", .ref (loc .Ab)), (.str "waiting", .ref (loc .W)), (.str "backs", .int 0)]
noncomputable def fieldsB (loc : Loc) : List (V × V) := [(.str "nodes", .ref (loc .N)), (.str "numbers", .ref (loc .Nu)), (.str "weights", .ref (loc .We)), (.str "depths", .ref (loc .De))]
noncomputable def fieldsU (loc : Loc) : List (V × V) := [(.str "above", .ref (loc .Ua)), (.str "lots", .ref (loc .Ul)), (.str "merged", .ref (loc .Um))]
noncomputable def img (loc : Loc) (hs : HS) : Lab -> Option V
 | .H => some (.inst 424 (loc .Hd))
 | .Hd => some (.dct .S (fieldsH loc))
 | .B => some (.inst 186 (loc .Bd))
 | .Bd => some (.dct .S (fieldsB loc))
 | .U => some (.inst 292 (loc .Ud))
 | .Ud => some (.dct .S (fieldsU loc))
 | .E => some (.lst hs.edges)
 | .Fo => some (.lst hs.forest)
 | .K => some (.dct .N hs.knV)
 | .Ab => some (.dct .I hs.abV)
 | .W => some (.lst (hs.waiting.map natV))
 | .N => some (.lst (hs.nodes.map nodeV))
 | .Nu => some (.dct .N hs.numV)
 | .We => some (.lst (hs.wts.map .int))
 | .De => some (.lst (hs.dps.map .int))
 | .Ua => some (.lst (hs.par.map natV))
 | .Ul => some (.lst hs.ulV)
 | .Um => some (.lst hs.merged)
 | .use c => (hs.uses c).map fun u => .lst (u.map natV)
 | .lot i => (hs.lots[i]?).map .lst
structure At (σ : Store) (loc : Loc) (hs : HS) : Prop where
 is : ∀ l v, img loc hs l = some v -> σ (loc l) = some v
 inj : ∀ l l', img loc hs l ≠ none -> img loc hs l' ≠ none -> loc l = loc l' -> l = l'
noncomputable def Off (loc : Loc) (hs : HS) (a : Addr) : Prop := ∀ l, img loc hs l ≠ none -> loc l ≠ a
structure Mv (σ : Store) (loc : Loc) (hs : HS) (σ' : Store) (loc' : Loc) (hs' : HS) : Prop where
 to : At σ' loc' hs'
 fr : ∀ a v, σ a = some v -> Off loc hs a -> σ' a = some v /\ Off loc' hs' a
 fx : ∀ l, fixd l = true -> loc' l = loc l
theorem Mv.refl {loc : Loc} {hs : HS} (A : At σ loc hs) : Mv σ loc hs σ loc hs := ⟨A, fun _ _ e o => ⟨e, o⟩, fun _ _ => rfl⟩
theorem Mv.trans {σ₁ σ₂ : Store} {loc loc₁ loc₂ : Loc} {hs hs₁ hs₂ : HS} (x : Mv σ loc hs σ₁ loc₁ hs₁) (y : Mv σ₁ loc₁ hs₁ σ₂ loc₂ hs₂) : Mv σ loc hs σ₂ loc₂ hs₂ :=
 ⟨y.to, fun a v e o => let ⟨e', o'⟩ := x.fr a v e o; y.fr a v e' o', fun l f => (y.fx l f).trans (x.fx l f)⟩
theorem At.put {loc : Loc} {hs hs' : HS} {l : Lab} {v : V} (A : At σ loc hs) (hl : img loc hs l ≠ none) (hi : ∀ l', img loc hs' l' = if l' = l then some v else img loc hs l') : Mv σ loc hs (put σ (loc l) v) loc hs' := by
 have live : ∀ l', img loc hs' l' ≠ none ↔ img loc hs l' ≠ none := fun l' => by
  rw [hi]; split
  ·rename_i e; subst e; exact ⟨fun _ => hl, fun _ e => nomatch e⟩
  ·exact Iff.rfl
 refine ⟨⟨fun l' v' e => ?_, fun l1 l2 h1 h2 => A.inj l1 l2 ((live _).mp h1) ((live _).mp h2)⟩, fun a u e o => ⟨?_, fun l' h' => o l' ((live _).mp h')⟩, fun _ _ => rfl⟩
 ·rw [hi] at e
  split at e
  ·rename_i q; subst q; cases e; exact put_self _ _ _
  ·rename_i q
   rw [put_ne _ _ (fun z => q (A.inj _ _ (by rw [e]; exact fun e => nomatch e) hl z))]; exact A.is _ _ e
 ·rw [put_ne _ _ (fun z => o l hl z.symm)]; exact e
noncomputable def upd (loc : Loc) (l : Lab) (a : Addr) : Loc := fun l' => if l' = l then a else loc l'
theorem At.off_none {loc : Loc} {hs : HS} {a : Addr} (A : At σ loc hs) (h : σ a = none) : Off loc hs a := fun l hl e => by
 cases q : img loc hs l with
 | none => exact hl q
 | some v => rw [<- e, A.is _ _ q] at h; cases h
theorem At.adopt {loc : Loc} {hs hs' : HS} {l : Lab} {a : Addr} {v : V} (A : At σ loc hs) (ha : σ a = some v) (ho : Off loc hs a) (hf : fixd l = false) (hi : ∀ l', img (upd loc l a) hs' l' = if l' = l then some v else img loc hs l') :
  At σ (upd loc l a) hs' /\ (∀ b, b ≠ a -> Off loc hs b -> Off (upd loc l a) hs' b) /\ (∀ l', fixd l' = true -> upd loc l a l' = loc l') := by
 have ne : ∀ l', l' ≠ l -> upd loc l a l' = loc l' := fun l' h => if_neg h
 have eq : upd loc l a l = a := if_pos rfl
 refine ⟨⟨fun l' v' e => ?_, fun l1 l2 h1 h2 e => ?_⟩, fun b hb o l' h' => ?_, fun l' f => ?_⟩
 ·rw [hi] at e
  split at e
  ·rename_i q; subst q; cases e; rw [eq]; exact ha
  ·rename_i q; rw [ne _ q]; exact A.is _ _ e
 ·rw [hi] at h1 h2
  by_cases q1 : l1 = l
  ·by_cases q2 : l2 = l
   ·rw [q1, q2]
   ·rw [if_neg q2] at h2
    rw [q1, eq, ne _ q2] at e
    exact absurd e.symm (ho _ h2)
  ·rw [if_neg q1] at h1
   by_cases q2 : l2 = l
   ·rw [q2, eq, ne _ q1] at e
    exact absurd e (ho _ h1)
   ·rw [if_neg q2] at h2
    rw [ne _ q1, ne _ q2] at e
    exact A.inj _ _ h1 h2 e
 ·rw [hi] at h'
  by_cases q : l' = l
  ·rw [q, eq]; exact hb.symm
  ·rw [if_neg q] at h'; rw [ne _ q]; exact o _ h'
 ·unfold upd
  split
  ·rename_i q; subst q; rw [f] at hf; cases hf
  ·rfl
theorem At.same {σ' : Store} {loc : Loc} {hs : HS} (A : At σ loc hs) (h : ∀ l, img loc hs l ≠ none -> σ' (loc l) = σ (loc l)) : At σ' loc hs :=
 ⟨fun l v e => (h l (by rw [e]; exact fun e => nomatch e)).trans (A.is l v e), A.inj⟩
theorem At.putOff {loc : Loc} {hs : HS} {a : Addr} {v : V} (A : At σ loc hs) (o : Off loc hs a) : At (Mine.put σ a v) loc hs := A.same fun l h => put_ne _ _ (o l h)
theorem At.delOff {loc : Loc} {hs : HS} {a : Addr} (A : At σ loc hs) (o : Off loc hs a) : At (del σ a) loc hs := A.same fun l h => by unfold del; rw [if_neg (o l h)]
theorem At.new {loc : Loc} {hs hs' : HS} {l : Lab} {a : Addr} {v : V} (A : At σ loc hs) (ha : σ a = none) (hf : fixd l = false) (hi : ∀ l', img (upd loc l a) hs' l' = if l' = l then some v else img loc hs l') :
  Mv σ loc hs (Mine.put σ a v) (upd loc l a) hs' := by
 have o := A.off_none ha
 obtain ⟨h1, h2, h3⟩ := (A.putOff (v := v) o).adopt (put_self _ _ _) o hf hi
 refine ⟨h1, fun b u e ob => ?_, h3⟩
 have : b ≠ a := fun q => by subst q; rw [ha] at e; cases e
 exact ⟨by rw [put_ne _ _ this]; exact e, h2 b this ob⟩
noncomputable def DN (es : List (V × V)) (f : Nd -> Option Nat) : Prop := ∀ nd, dget (nodeV nd) es = (f nd).map natV
theorem natV_inj {a b : Nat} (h : natV a = natV b) : a = b := by unfold natV at h; injection h with h; lia
theorem map_natV_inj : ∀ {a b : List Nat}, a.map natV = b.map natV -> a = b
 | [], [], _ => rfl
 | [], _ :: _, h => by cases h
 | _ :: _, [], h => by cases h
 | x :: a, y :: b, h => by
  rw [List.map_cons, List.map_cons] at h
  injection h with h1 h2
  rw [natV_inj h1, map_natV_inj h2]
theorem nodeV_inj {a b : Nd} (h : nodeV a = nodeV b) : a = b := by
 unfold nodeV at h
 injection h with h
 injection h with h1 h2
 injection h1 with h1
 exact Prod.ext h1 (map_natV_inj h2)
theorem nodeV_ok (nd : Nd) : keyOk .N (nodeV nd) := ⟨nd.1, nd.2.map (fun k : Nat => (k : Int)), by unfold nodeV; rw [List.map_map]; rfl⟩
section
open Classical
theorem dput_nil (k v : V) : dput k v [] = [(k, v)] := rfl
theorem dput_cons (k v k0 v0 : V) (r : List (V × V)) : dput k v ((k0, v0) :: r) = if k0 = k then (k0, v) :: r else (k0, v0) :: dput k v r := by
 unfold dput didx
 rw [List.findIdx?_cons]
 by_cases h : k0 = k
 ·subst h
  rw [if_pos rfl]
  simp only [eqV_self]
  rfl
 ·rw [if_neg h]
  simp only [eqV_ne h]
  cases q : List.findIdx? (fun p => eqV p.1 k) r with
  | none => simp
  | some i => simp
theorem dget_nil (k : V) : dget k [] = none := rfl
theorem dget_cons (k k0 v0 : V) (r : List (V × V)) : dget k ((k0, v0) :: r) = if k0 = k then some v0 else dget k r := by
 unfold dget
 rw [List.find?_cons]
 by_cases h : k0 = k
 ·subst h; rw [if_pos rfl]; simp only [eqV_self]; rfl
 ·rw [if_neg h]; simp only [eqV_ne h]
theorem dget_dput (k' k v : V) : ∀ es : List (V × V), dget k' (dput k v es) = if k = k' then some v else dget k' es
 | [] => by rw [dput_nil, dget_cons, dget_nil]
 | (k0, v0) :: r => by
  rw [dput_cons]
  by_cases h : k0 = k
  ·subst h
   rw [if_pos rfl, dget_cons, dget_cons]
   split <;> rfl
  ·rw [if_neg h, dget_cons, dget_cons, dget_dput k' k v r]
   by_cases h1 : k0 = k'
   ·subst h1; rw [if_pos rfl, if_pos rfl, if_neg (fun e => h e.symm)]
   ·rw [if_neg h1, if_neg h1]
theorem ddel_nil (k : V) : ddel k [] = [] := rfl
theorem ddel_cons (k k0 v0 : V) (r : List (V × V)) : ddel k ((k0, v0) :: r) = if k0 = k then r else (k0, v0) :: ddel k r := by
 unfold ddel didx
 rw [List.findIdx?_cons]
 by_cases h : k0 = k
 ·subst h
  rw [if_pos rfl]
  simp only [eqV_self]
  rfl
 ·rw [if_neg h]
  simp only [eqV_ne h]
  cases q : List.findIdx? (fun p => eqV p.1 k) r with
  | none => simp
  | some i => simp
theorem dget_ddel {k' k : V} (h : k ≠ k') : ∀ es : List (V × V), dget k' (ddel k es) = dget k' es
 | [] => by rw [ddel_nil]
 | (k0, v0) :: r => by
  rw [ddel_cons]
  by_cases h1 : k0 = k
  ·subst h1; rw [if_pos rfl, dget_cons, if_neg h]
  ·rw [if_neg h1, dget_cons, dget_cons, dget_ddel h r]
theorem ddel_len (k : V) : ∀ es : List (V × V), (ddel k es).length <= es.length
 | [] => Nat.le_refl _
 | (k0, v0) :: r => by
  rw [ddel_cons]
  have := ddel_len k r
  split <;> simp <;> lia
end
theorem DN.put {es : List (V × V)} {f : Nd -> Option Nat} (h : DN es f) (nd : Nd) (i : Nat) : DN (dput (nodeV nd) (natV i) es) fun x => if x = nd then some i else f x := by
 intro x
 rw [dget_dput]
 by_cases e : x = nd
 ·subst e; rw [if_pos rfl]; simp
 ·rw [if_neg (fun q => e (nodeV_inj q).symm)]; simp only [if_neg e]; exact h x
end
section
variable {Γ : Cx} {n : Nat} {σ : Store} {Q : V -> Store -> Prop} {sc : Scope} {ρ : Vars}
theorem AEval.fld {x attr : Str} {p pos : Pos} {k : NameKind} {a C d : Addr} {fs : List (V × V)} {v : V} (hk : sc.names.lookup x = some k) (hk' : (k == .local || k == .cell || k == .free) = true) (hv : ρ.lookup x = some (.ref a))
  (h1 : σ a = some (.inst C d)) (h2 : σ d = some (.dct .S fs)) (hf : clsField Γ.K C attr = true) (hg : fget attr fs = some v) (hn : notBlt v = true) (q : Q v σ)
  (hd : (x == ("__debug__" : Str)) = false := by decide) (hc : (x == ("__classdict__" : Str)) = false := by decide)
  (he : ∀ env, eval (.Attribute (.Name x p) attr pos) env = (do let o <- eval (.Name x p) env; standAt pos.atName; let r <- holding [o] (getAttr o attr true); letTemporaryGo (.Name x p) o r; pure r) := by intro _; rfl) : AEval Γ n sc ρ (.Attribute (.Name x p) attr pos) σ Q :=
 AEval.field (AEval.name hk hk' hv ⟨a, C, d, fs, v, rfl, h1, h2, hf, hg, hn, q⟩ hd hc) he
theorem CK.fld (hK : CK Γ) {C : Addr} {x} (h : clsField (Mine.KT Γ.w.params) C x = true) : clsField Γ.K C x = true := by rw [hK]; exact h
theorem CK.meth (hK : CK Γ) {C f : Addr} {x} (h : clsMeth (Mine.KT Γ.w.params) C x f = true) : clsMeth Γ.K C x f = true := by rw [hK]; exact h
theorem AEval.ownMeth {o : Expr} {name : Str} {apos pos : Pos} {args : List Expr} {a C d f : Addr} {fs : List (V × V)} (ho : AEval Γ n sc ρ o σ fun v σ' => v = .ref a /\ σ' = σ)
  (h1 : σ a = some (.inst C d)) (h2 : σ d = some (.dct .S fs)) (hm : clsMeth Γ.K C name f = true) (hn : fget name fs = none)
  (h : AArgs Γ n sc ρ args σ (FunQ Γ n (.ref f) [.ref a] Q))
  (he : ∀ env, eval (.Call (.Attribute o name apos) args [] pos) env = methDo o name apos args pos env := by intro _; rfl)
  (hargs : plainArgs args = true := by exact rfl) :
  AEval Γ n sc ρ (.Call (.Attribute o name apos) args [] pos) σ Q := by
 refine AEval.meth (ho.mono ?_) he hargs
 rintro v σ' ⟨rfl, rfl⟩
 refine AMeth.own h1 h2 hm hn ⟨?_, h⟩
 unfold clsMeth at hm
 simp only [Bool.and_eq_true] at hm
 exact hm.2
theorem AEval.ownN {x name : Str} {p apos pos : Pos} {k : NameKind} {args : List Expr} {a C d f : Addr} {fs : List (V × V)} (hk : sc.names.lookup x = some k) (hk' : (k == .local || k == .cell || k == .free) = true) (hv : ρ.lookup x = some (.ref a))
  (h1 : σ a = some (.inst C d)) (h2 : σ d = some (.dct .S fs)) (hm : clsMeth Γ.K C name f = true) (hn : fget name fs = none)
  (h : AArgs Γ n sc ρ args σ (FunQ Γ n (.ref f) [.ref a] Q)) (hd : (x == ("__debug__" : Str)) = false := by decide) (hc : (x == ("__classdict__" : Str)) = false := by decide)
  (he : ∀ env, eval (.Call (.Attribute (.Name x p) name apos) args [] pos) env = methDo (.Name x p) name apos args pos env := by intro _; rfl)
  (hargs : plainArgs args = true := by exact rfl) :
  AEval Γ n sc ρ (.Call (.Attribute (.Name x p) name apos) args [] pos) σ Q :=
 AEval.ownMeth (AEval.name hk hk' hv ⟨rfl, rfl⟩ hd hc) h1 h2 hm hn h he hargs
noncomputable def keysL : Lab -> List (Str × Lab)
 | .H => [("bank", .B), ("unions", .U), ("edges", .E), ("forest", .Fo), ("known", .K), ("above", .Ab), ("waiting", .W)]
 | .B => [("nodes", .N), ("numbers", .Nu), ("weights", .We), ("depths", .De)]
 | .U => [("above", .Ua), ("lots", .Ul), ("merged", .Um)]
 | _ => []
noncomputable def clsL : Lab -> Addr
 | .H => 424
 | .B => 186
 | _ => 292
noncomputable def dicL : Lab -> Lab
 | .H => .Hd
 | .B => .Bd
 | _ => .Ud
noncomputable def lastL : Lab -> List (V × V)
 | .H => [(.str "backs", .int 0)]
 | _ => []
noncomputable def isO : Lab -> Bool
 | .H => true
 | .B => true
 | .U => true
 | _ => false
noncomputable def cellsL (loc : Loc) (ks : List (Str × Lab)) : List (V × V) := ks.map fun p => (V.str p.1, V.ref (loc p.2))
theorem At.obj {loc : Loc} {hs : HS} (A : At σ loc hs) {o : Lab} (h : isO o = true) : σ (loc o) = some (.inst (clsL o) (loc (dicL o))) /\ σ (loc (dicL o)) = some (.dct .S (cellsL loc (keysL o) ++ lastL o)) := by
 cases o <;> first | exact ⟨A.is _ _ rfl, A.is _ _ rfl⟩ | cases h
theorem fget_lab {loc : Loc} {x : Str} {l : Lab} {r : List (V × V)} : ∀ {ks : List (Str × Lab)}, ks.lookup x = some l -> fget x (cellsL loc ks ++ r) = some (.ref (loc l))
 | [], h => nomatch h
 | (y, m) :: ks, h => by
  show (if y = x then some (V.ref (loc m)) else fget x (cellsL loc ks ++ r)) = _
  rw [List.lookup_cons] at h
  by_cases e : y = x
  ·rw [if_pos e]
   rw [show (x == y) = true from beq_iff_eq.mpr e.symm] at h
   injection h with h; rw [h]
  ·rw [if_neg e]
   rw [show (x == y) = false from beq_eq_false_iff_ne.mpr fun q => e q.symm] at h
   exact fget_lab h
theorem fget_nolab {loc : Loc} {x : Str} {r : List (V × V)} (hr : fget x r = none) : ∀ {ks : List (Str × Lab)}, ks.lookup x = none -> fget x (cellsL loc ks ++ r) = none
 | [], _ => hr
 | (y, m) :: ks, h => by
  show (if y = x then some (V.ref (loc m)) else fget x (cellsL loc ks ++ r)) = _
  rw [List.lookup_cons] at h
  by_cases e : y = x
  ·rw [show (x == y) = true from beq_iff_eq.mpr e.symm] at h; exact nomatch h
  ·rw [if_neg e]
   rw [show (x == y) = false from beq_eq_false_iff_ne.mpr fun q => e q.symm] at h
   exact fget_nolab hr h
noncomputable def fdOk (sc : Scope) (x : Str) (k : NameKind) (o l : Lab) (attr : Str) : Bool := nameOk sc x k && isO o && decide ((keysL o).lookup attr = some l)
noncomputable def omOk (sc : Scope) (x : Str) (k : NameKind) (o : Lab) (name : Str) : Bool := nameOk sc x k && isO o && (keysL o).lookup name == none && (fget name (lastL o)).isNone
theorem CK.fd (hK : CK Γ) {loc : Loc} {hs : HS} {x attr : Str} {p pos : Pos} (o l : Lab) (k : NameKind) (A : At σ loc hs) (hv : ρ.lookup x = some (.ref (loc o))) (q : Q (.ref (loc l)) σ)
  (ok : fdOk sc x k o l attr = true := by kernel_rfl) (hf : ∀ P, clsField (KT P) (clsL o) attr = true := by intro _; kernel_rfl)
  (he : ∀ env, eval (.Attribute (.Name x p) attr pos) env = (do let o <- eval (.Name x p) env; standAt pos.atName; let r <- holding [o] (getAttr o attr true); letTemporaryGo (.Name x p) o r; pure r) := by intro _; rfl) : AEval Γ n sc ρ (.Attribute (.Name x p) attr pos) σ Q := by
 simp only [fdOk, Bool.and_eq_true, decide_eq_true_eq] at ok
 obtain ⟨h1, h2⟩ := A.obj ok.1.2
 obtain ⟨g1, g2, g3, g4⟩ := okN ok.1.1
 exact AEval.fld g1 g2 hv h1 h2 (hK.fld (hf _)) (fget_lab ok.2) rfl q g3 g4 he
theorem CK.om (hK : CK Γ) {loc : Loc} {hs : HS} {x name : Str} {p apos pos : Pos} {args : List Expr} (o : Lab) (f : Addr) (k : NameKind) (A : At σ loc hs) (hv : ρ.lookup x = some (.ref (loc o)))
  (h : AArgs Γ n sc ρ args σ (FunQ Γ n (.ref f) [.ref (loc o)] Q)) (ok : omOk sc x k o name = true := by kernel_rfl) (hm : ∀ P, clsMeth (KT P) (clsL o) name f = true := by intro _; kernel_rfl)
  (he : ∀ env, eval (.Call (.Attribute (.Name x p) name apos) args [] pos) env = methDo (.Name x p) name apos args pos env := by intro _; rfl)
  (hargs : plainArgs args = true := by exact rfl) :
  AEval Γ n sc ρ (.Call (.Attribute (.Name x p) name apos) args [] pos) σ Q := by
 simp only [omOk, Bool.and_eq_true] at ok
 obtain ⟨h1, h2⟩ := A.obj ok.1.1.2
 obtain ⟨g1, g2, g3, g4⟩ := okN ok.1.1.1
 refine AEval.ownN g1 g2 hv h1 h2 (hK.meth (hm _)) (fget_nolab (Option.isNone_iff_eq_none.mp ok.2) (eq_of_beq ok.1.2)) h g3 g4 he hargs
noncomputable def root (par : List Nat) : Nat -> Nat -> Nat
 | 0, a => a
 | k + 1, a => if par.getD a a = a then a else root par k (par.getD a a)
noncomputable def rep (par : List Nat) (a : Nat) : Nat := root par a a
noncomputable def ParOk (par : List Nat) : Prop := ∀ i, par.getD i i <= i
theorem root_enough {par : List Nat} (hp : ParOk par) : ∀ (k m a : Nat), a <= k -> a <= m -> root par k a = root par m a
 | 0, 0, a, _, _ => rfl
 | 0, m + 1, a, h, _ => by
  obtain rfl : a = 0 := by lia
  have : par.getD 0 0 = 0 := by have := hp 0; lia
  rw [root, root, if_pos this]
 | k + 1, 0, a, _, h => by
  obtain rfl : a = 0 := by lia
  have : par.getD 0 0 = 0 := by have := hp 0; lia
  rw [root, root, if_pos this]
 | k + 1, m + 1, a, h1, h2 => by
  rw [root, root]
  split
  ·rfl
  ·rename_i e
   have := hp a
   exact root_enough hp k m _ (by lia) (by lia)
theorem rep_root {par : List Nat} {a : Nat} (h : par.getD a a = a) : rep par a = a := by
 unfold rep
 cases a with
 | zero => rfl
 | succ a => rw [root, if_pos h]
theorem rep_step {par : List Nat} (hp : ParOk par) (a : Nat) : rep par (par.getD a a) = rep par a := by
 by_cases h : par.getD a a = a
 ·rw [h]
 ·unfold rep
  cases a with
  | zero => exact absurd (by have := hp 0; lia) h
  | succ a =>
   have := hp (a + 1)
   rw [root_enough hp (a + 1) (a + 2) (a + 1) (Nat.le_refl _) (by lia), root, if_neg h]
   exact root_enough hp _ _ _ (Nat.le_refl _) (by lia)
theorem rep_ind {par : List Nat} (hp : ParOk par) {P : Nat -> Prop} (h0 : ∀ a, par.getD a a = a -> P a) (h1 : ∀ a, par.getD a a < a -> P (par.getD a a) -> P a) (a : Nat) : P a := by
 induction a using Nat.strongRecOn with
 | ind a ih =>
  by_cases h : par.getD a a = a
  ·exact h0 a h
  ·have : par.getD a a < a := by have := hp a; lia
   exact h1 a this (ih _ this)
theorem rep_le {par : List Nat} (hp : ParOk par) (a : Nat) : rep par a <= a :=
 rep_ind hp (P := fun a => rep par a <= a) (fun a h => by rw [rep_root h]; exact Nat.le_refl _) (fun a h ih => by rw [rep_step hp] at ih; lia) a
theorem rep_is {par : List Nat} (hp : ParOk par) (a : Nat) : par.getD (rep par a) (rep par a) = rep par a :=
 rep_ind hp (P := fun a => par.getD (rep par a) (rep par a) = rep par a) (fun a h => by rw [rep_root h]; exact h) (fun a h ih => by rw [rep_step hp] at ih; exact ih) a
theorem rep_rep {par : List Nat} (hp : ParOk par) (a : Nat) : rep par (rep par a) = rep par a := rep_root (rep_is hp a)
theorem def_249 : DefOk 249 := fun P => ⟨by kernel_rfl, by kernel_rfl⟩
theorem bind_249 (v u : Value) : bindArgs (fnA 249) ⟨[v, u], []⟩ = pure [(Str.ofString "self", v), (Str.ofString "a", u)] := by kernel_rfl
theorem c_find (hK : CK Γ) {loc : Loc} {hs : HS} (A : At σ loc hs) (hp : ParOk hs.par) (hz : hs.par.length <= 1000) {a : Nat} (ha : a < hs.par.length) (q : Q (natV (rep hs.par a)) σ) : ACall Γ (n + 1) (.ref 249) [.ref (loc .U), natV a] σ Q := by
 refine hK.def2 def_249 bind_249 ?_
 ·skip
  have above : ∀ {ρ : Vars} {x : Nat} {Q : V -> Store -> Prop}, ρ.lookup (Str.ofString "self") = some (.ref (loc .U)) -> ρ.lookup (Str.ofString "a") = some (natV x) -> x < hs.par.length -> Q (natV (hs.par.getD x x)) σ ->
    ∀ {p1 p2 p3 p4 : Pos}, AEval Γ n (scA 249) ρ (.Subscript (.Attribute (.Name (Str.ofString "self") p1) (Str.ofString "above") p2) (.Name (Str.ofString "a") p3) p4) σ Q := by
   intro ρ x Q h1 h2 h3 q p1 p2 p3 p4
   refine AEval.sub (hK.fd .U .Ua .local A h1 ?_)
   refine AEval.loc h2 (AItem.list (.ref (A.is .Ua _ rfl)) (v := natV (hs.par.getD x x)) ?_ (lim_map (by lia)) q)
   rw [List.getElem?_map, List.getD_eq_getElem?_getD, List.getElem?_eq_getElem h3]; rfl
  refine AExecs.cons (AExec.while (fun m ρ σ' => ∃ x, σ' = σ /\ m = x /\ ρ.lookup (Str.ofString "self") = some (.ref (loc .U)) /\ ρ.lookup (Str.ofString "a") = some (natV x) /\ x < hs.par.length /\ rep hs.par x = rep hs.par a) a ⟨a, rfl, rfl, rfl, rfl, ha, rfl⟩ ?_)
  rintro x ρ σ' ⟨_, rfl, rfl, h1, h2, h3, h4⟩
  refine ATest.compare (above h1 h2 h3 (AEval.loc h2 (AOp2.neI ?_)))
  by_cases e : hs.par.getD x x = x
  ·rw [e]
   simp only [decide_true, Bool.not_true, Bool.false_eq_true, if_false]
   refine AExecs.cons (AExec.ret (AEval.loc h2 ?_))
   rw [<- h4, rep_root e] at q; exact q
  ·have e' : (!decide (((hs.par.getD x x : Nat) : Int) = (x : Int))) = true := by rw [Bool.not_eq_true', decide_eq_false_iff_not]; lia
   rw [e']
   have hlt := hp x
   refine AExecs.cons (AExec.assign (above h1 h2 h3 (AAssign.loc ?_)))
   refine AExecs.nil ⟨hs.par.getD x x, by lia, hs.par.getD x x, rfl, rfl, h1, rfl, by lia, ?_⟩
   rw [rep_step hp]; exact h4
end
section
variable {Γ : Cx} {n : Nat} {σ : Store} {Q : V -> Store -> Prop} {sc : Scope} {ρ : Vars}
theorem def_117 : DefOk 117 := fun P => ⟨by kernel_rfl, by kernel_rfl⟩
theorem bind_117 (v u : Value) : bindArgs (fnA 117) ⟨[v, u], []⟩ = pure [(Str.ofString "self", v), (Str.ofString "op", u)] := by kernel_rfl
noncomputable def opGood (op : Str) : Prop := opOk op = true /\ ∃ c, op.cps[0]? = some c /\ c ≠ 63
theorem c_require (hK : CK Γ) {a : Addr} {op : Str} (ho : opGood op) (q : Q .none σ) : ACall Γ (n + 2) (.ref 117) [.ref a, .str op] σ Q := by
 obtain ⟨h1, c, h2, h3⟩ := ho
 refine hK.def2 def_117 bind_117 ?_
 ·skip
  refine AExecs.cons (AExec.if (ATest.or2 (ATest.not (ATest.value (hK.callG (a := 67) (AArgs.loc rfl (AArgs.nil (c_is_op hK h1 (ATruthy.bool ?_)))))))))
  ·show ATest _ _ _ _ _ _ _
   refine ATest.compare (AEval.sub (AEval.loc rfl (AEval.int (AItem.str0 h2 (AEval.strc (AOp2.eqS ?_))))))
   rw [decide_eq_false (fun e => h3 (by injection e with e; injection e with e; injection e))]
   exact AExecs.nil (AExecs.nil q)
theorem def_105 : DefOk 105 := fun P => ⟨by kernel_rfl, by kernel_rfl⟩
theorem bind_105 (v : Value) : bindArgs (fnA 105) ⟨[v], []⟩ = pure [(Str.ofString "self", v)] := by kernel_rfl
theorem c_bsize (hK : CK Γ) {loc : Loc} {hs : HS} (A : At σ loc hs) (hz : hs.nodes.length <= 1000) (q : Q (natV hs.nodes.length) σ) : ACall Γ (n + 1) (.ref 105) [.ref (loc .B)] σ Q := by
 refine hK.def1 def_105 bind_105 ?_
 ·skip
  refine AExecs.cons (AExec.ret ?_)
  refine hK.callB (id := "len") (AArgs.cons ?_)
  refine hK.fd .B .N .local A rfl ?_
  refine AArgs.nil (ACall.lenList (.ref (A.is .N _ rfl)) (lim_map (by lia)) ?_)
  rw [List.length_map]; exact q
noncomputable def takeS (hs : HS) (nd : Nd) (t : Tree) (w d : Int) : HS :=
 { hs with nodes := hs.nodes ++ [nd], terms := hs.terms ++ [t], wts := hs.wts ++ [w], dps := hs.dps ++ [d], num := fun x => if x = nd then some hs.nodes.length else hs.num x, numV := dput (nodeV nd) (natV hs.nodes.length) hs.numV }
theorem def_110 : DefOk 110 := fun P => ⟨by kernel_rfl, by kernel_rfl⟩
theorem bind_110 (v u r : Value) : bindArgs (fnA 110) ⟨[v, u, r], []⟩ = pure [(Str.ofString "self", v), (Str.ofString "op", u), (Str.ofString "kids", r)] := by kernel_rfl
theorem c_take (hK : CK Γ) {loc : Loc} {hs : HS} (A : At σ loc hs) (hd : DN hs.numV hs.num) {nd : Nd} (t : Tree) (hz : hs.nodes.length <= 1000) (hz2 : hs.numV.length <= 1000) (hz3 : nd.2.length <= 1000) (hw : hs.wts.length = hs.nodes.length) (hdp : hs.dps.length = hs.nodes.length)
  (q : match hs.num nd with | some i => Q (natV i) σ | none => opGood nd.1 /\ (∀ k ∈ nd.2, k < hs.nodes.length) /\ ∀ σ' w d, Mv σ loc hs σ' loc (takeS hs nd t w d) -> Q (natV hs.nodes.length) σ') :
  ACall Γ (n + 3) (.ref 110) [.ref (loc .B), .str nd.1, .tup (nd.2.map natV)] σ Q := by
 refine hK.def3 def_110 bind_110 ?_
 ·skip
  refine AExecs.cons (AExec.assign (AEval.binop (AEval.tuple (AArgs.loc rfl (AArgs.nil ⟨lim rfl, ?_⟩)))))
  refine hK.callT (id := "tuple") (AArgs.loc rfl (AArgs.nil (ACall.tupleTuple (AOp2.addT (by simp; lia) (AAssign.loc ?_)))))
  rw [show [V.str nd.1] ++ List.map natV nd.2 = V.str nd.1 :: nd.2.map natV from rfl]
  refine AExecs.cons (AExec.if (ATest.compare (AEval.loc rfl (hK.fd .B .Nu .cell A rfl (AOp2.inD (.ref (A.is .Nu _ rfl)) (nodeV_ok nd) ?_)))))
  have hd' : dget (V.tup (V.str nd.1 :: nd.2.map natV)) hs.numV = (hs.num nd).map natV := hd nd
  rw [hd']
  cases hn : hs.num nd with
  | some i =>
   rw [hn] at q hd'
   refine AExecs.cons (AExec.ret (AEval.sub (hK.fd .B .Nu .cell A rfl (AEval.loc rfl (AItem.dict (.ref (A.is .Nu _ rfl)) (nodeV_ok nd) hd' q)))))
  | none =>
   rw [hn] at q hd'
   obtain ⟨hop, hk, q⟩ := q
   refine AExecs.nil ?_
   refine AExecs.cons (AExec.expr (hK.om .B 117 .cell A rfl (AArgs.loc rfl (AArgs.nil (c_require hK hop ?_)))))
   refine AExecs.cons (AExec.for (AIt.val (AEval.tail1 (AEval.loc rfl (TailQ.mk (by simp) (by simp; lia) (WalkQ.mk rfl ?_))))))
   rw [show (V.str nd.1 :: nd.2.map natV).drop 1 = nd.2.map natV from rfl]
   refine ForRun.inv (fun xs ρ σ' => σ' = σ /\ ρ.lookup (Str.ofString "self") = some (.ref (loc .B)) /\ ρ.lookup (Str.ofString "node") = some (nodeV nd) /\ ∃ ks : List Nat, xs = ks.map natV /\ ∀ k ∈ ks, k < hs.nodes.length) ?_ ?_ _ _ _ ⟨rfl, rfl, rfl, nd.2, rfl, hk⟩
   ·rintro x xs ρ σ' K ⟨rfl, h1, h2, ks, h3, h4⟩ hK'
    cases ks with
    | nil => cases h3
    | cons k ks =>
     rw [List.map_cons] at h3
     injection h3 with h3 h5
     subst h3
     subst h5
     refine AAssign.loc ?_
     have h1' : List.lookup (Str.ofString "self") ((Str.ofString "kid", natV k) :: ρ) = some (V.ref (loc .B)) := h1
     have hlt := h4 k List.mem_cons_self
     refine AExecs.cons (AExec.if (ATest.not (ATest.chain2 (AEval.int (AEval.loc rfl (AOp2.leI ?_))))))
     rw [decide_eq_true (by lia)]
     refine hK.callB (id := "len") (AArgs.cons ?_)
     refine hK.fd .B .N .cell A h1' ?_
     refine AArgs.nil (ACall.lenList (.ref (A.is .N _ rfl)) (lim_map (by lia)) (AOp2.ltI ?_))
     rw [decide_eq_true (by simp; lia)]
     exact AExecs.nil (AExecs.nil (hK' _ _ ⟨rfl, h1', h2, ks, rfl, fun k hk => h4 k (List.mem_cons_of_mem _ hk)⟩))
   ·rintro ρ σ' ⟨rfl, h1, h2, -⟩
    refine AExecs.cons (AExec.assign (hK.callB (id := "len") (AArgs.cons ?_)))
    refine hK.fd .B .N .cell A h1 ?_
    refine AArgs.nil (ACall.lenList (.ref (A.is .N _ rfl)) (lim_map (by lia)) ?_)
    refine AAssign.sub (hK.fd .B .Nu .cell A h1 (AEval.loc h2 (ASetItem.dict (A.is .Nu _ rfl) (nodeV_ok nd) (by lia) ?_)))
    rw [List.length_map]
    have M1 := A.put (l := .Nu) (v := .dct .N (dput (nodeV nd) (natV hs.nodes.length) hs.numV)) (hs' := { hs with num := fun x => if x = nd then some hs.nodes.length else hs.num x, numV := dput (nodeV nd) (natV hs.nodes.length) hs.numV }) (fun e => nomatch e) (fun l' => by cases l' <;> rfl)
    have A1 := M1.to
    refine AExecs.cons (AExec.expr (AEval.meth (hK.fd .B .N .cell A1 h1 ?_)))
    refine AMeth.blt (list_type (.ref (A1.is .N _ rfl))) PySem.F.plainAttrs_list PySem.F.slot_list_append PySem.F.type_list_append ⟨trivial, AArgs.loc h2 (AArgs.nil (ACall.append (A1.is .N _ rfl) (lim_map (by lia)) ?_))⟩
    have M2 := A1.put (l := .N) (v := .lst ((hs.nodes ++ [nd]).map nodeV)) (hs' := { hs with nodes := hs.nodes ++ [nd], num := fun x => if x = nd then some hs.nodes.length else hs.num x, numV := dput (nodeV nd) (natV hs.nodes.length) hs.numV }) (fun e => nomatch e) (fun l' => by cases l' <;> rfl)
    have A2 := M2.to
    rw [List.map_append, List.map_singleton] at M2 A2
    refine AExecs.cons (AExec.expr (AEval.meth (hK.fd .B .We .cell A2 h1 ?_)))
    refine AMeth.blt (list_type (.ref (A2.is .We _ rfl))) PySem.F.plainAttrs_list PySem.F.slot_list_append PySem.F.type_list_append ⟨trivial, AArgs.cons (AEval.binop (AEval.int ?_))⟩
    refine hK.callB (id := "sum") (AArgs.cons ?_)
    refine AEval.listcompG [(Str.ofString "self", .ref (loc .B))] (turn0 _ _ _ _ _) (by kernel_rfl) (free_one (by kernel_rfl) h1) (AIt.val (AEval.tail1 (AEval.loc h2 (TailQ.mk (by simp) (by simp; lia) (WalkQ.mk rfl ?_))))) (fun _ _ => rfl)
    rw [show (V.str nd.1 :: nd.2.map natV).drop 1 = nd.2.map natV from rfl]
    refine CompRun.mapE natV (fun k => .int (hs.wts.getD k 0)) nd.2 [] (lim_nil (by lia)) (fun k hk0 acc' K' hz' hK2 => ?_) ?_
    ·have hlt := hk k hk0
     refine ALoc.name (by kernel_rfl) ⟨keeps_one rfl, AComp.rest0 (AEval.sub ?_)⟩
     refine hK.fd .B .We .cell A2 rfl ?_
     refine AEval.loc rfl (AItem.list (.ref (A2.is .We _ rfl)) (v := .int (hs.wts.getD k 0)) ?_ (lim_map (by lia)) ⟨hz', hK2⟩)
     show (hs.wts.map V.int)[k]? = _
     rw [List.getElem?_map, List.getD_eq_getElem?_getD, List.getElem?_eq_getElem (show k < hs.wts.length by lia)]; rfl
    rw [List.nil_append, show nd.2.map (fun k => V.int (hs.wts.getD k 0)) = (nd.2.map fun k => hs.wts.getD k 0).map V.int from by rw [List.map_map]; rfl]
    refine AArgs.nil (ACall.sumI .lst fun w0 => AOp2.addI (AArgs.nil (ACall.append (A2.is .We _ rfl) (lim_map (by lia)) ?_)))
    have M3 := A2.put (l := .We) (v := .lst ((hs.wts ++ [1 + w0]).map .int)) (hs' := { hs with nodes := hs.nodes ++ [nd], wts := hs.wts ++ [1 + w0], num := fun x => if x = nd then some hs.nodes.length else hs.num x, numV := dput (nodeV nd) (natV hs.nodes.length) hs.numV }) (fun e => nomatch e) (fun l' => by cases l' <;> rfl)
    have A3 := M3.to
    rw [List.map_append, List.map_singleton] at M3 A3
    refine AExecs.cons (AExec.expr (AEval.meth (hK.fd .B .De .cell A3 h1 ?_)))
    refine AMeth.blt (list_type (.ref (A3.is .De _ rfl))) PySem.F.plainAttrs_list PySem.F.slot_list_append PySem.F.type_list_append ⟨trivial, AArgs.cons (AEval.binop (AEval.int ?_))⟩
    refine hK.callB (id := "max") (AArgs.cons (AEval.binop ?_))
    refine AEval.listcompG [(Str.ofString "self", .ref (loc .B))] (turn0 _ _ _ _ _) (by kernel_rfl) (free_one (by kernel_rfl) h1) (AIt.val (AEval.tail1 (AEval.loc h2 (TailQ.mk (by simp) (by simp; lia) (WalkQ.mk rfl ?_))))) (fun _ _ => rfl)
    rw [show (V.str nd.1 :: nd.2.map natV).drop 1 = nd.2.map natV from rfl]
    refine CompRun.mapE natV (fun k => .int (hs.dps.getD k 0)) nd.2 [] (lim_nil (by lia)) (fun k hk0 acc' K' hz' hK2 => ?_) ?_
    ·have hlt := hk k hk0
     refine ALoc.name (by kernel_rfl) ⟨keeps_one rfl, AComp.rest0 (AEval.sub ?_)⟩
     refine hK.fd .B .De .cell A3 rfl ?_
     refine AEval.loc rfl (AItem.list (.ref (A3.is .De _ rfl)) (v := .int (hs.dps.getD k 0)) ?_ (lim_map (by lia)) ⟨hz', hK2⟩)
     show (hs.dps.map V.int)[k]? = _
     rw [List.getElem?_map, List.getD_eq_getElem?_getD, List.getElem?_eq_getElem (show k < hs.dps.length by lia)]; rfl
    rw [List.nil_append, show nd.2.map (fun k => V.int (hs.dps.getD k 0)) = (nd.2.map fun k => hs.dps.getD k 0).map V.int from by rw [List.map_map]; rfl]
    refine AEval.listF (AArgs.cons (AEval.int (AArgs.nil ⟨lim rfl, AOp2.addLF .lst .lst (by simp; lia) ?_⟩)))
    rw [show (nd.2.map fun k => hs.dps.getD k 0).map V.int ++ [V.int 0] = ((nd.2.map fun k => hs.dps.getD k 0) ++ [0]).map V.int from by rw [List.map_append]; rfl]
    refine AArgs.nil (ACall.maxI .lst (by simp) fun d0 => AOp2.addI (AArgs.nil (ACall.append (A3.is .De _ rfl) (lim_map (by lia)) ?_)))
    have M4 := A3.put (l := .De) (v := .lst ((hs.dps ++ [1 + d0]).map .int)) (hs' := takeS hs nd t (1 + w0) (1 + d0)) (fun e => nomatch e) (fun l' => by cases l' <;> rfl)
    have A4 := M4.to
    rw [List.map_append, List.map_singleton] at M4 A4
    refine AExecs.cons (AExec.ret (AEval.binop (hK.callB (id := "len") (AArgs.cons ?_))))
    refine hK.fd .B .N .cell A4 h1 ?_
    refine AArgs.nil (ACall.lenList (.ref (A4.is .N _ rfl)) (by simp [takeS]; lia) (AEval.int (AOp2.subI ?_)))
    have := q _ (1 + w0) (1 + d0) ((M1.trans M2).trans (M3.trans M4))
    have e : ((((takeS hs nd t (1 + w0) (1 + d0)).nodes.map nodeV).length : Nat) : Int) - 1 = (hs.nodes.length : Int) := by simp [takeS]
    rw [e]
    exact this
end
section
variable {Γ : Cx} {n : Nat} {σ : Store} {Q : V -> Store -> Prop} {sc : Scope} {ρ : Vars}
theorem def_143 : DefOk 143 := fun P => ⟨by kernel_rfl, by kernel_rfl⟩
theorem bind_143 (v u : Value) : bindArgs (fnA 143) ⟨[v, u], []⟩ = pure [(Str.ofString "self", v), (Str.ofString "n", u)] := by kernel_rfl
theorem c_op (hK : CK Γ) {loc : Loc} {hs : HS} (A : At σ loc hs) (hz : hs.nodes.length <= 1000) {i : Nat} {nd : Nd} (hi : hs.nodes[i]? = some nd) (hk : nd.2.length <= 1000) (q : Q (.str nd.1) σ) : ACall Γ (n + 1) (.ref 143) [.ref (loc .B), natV i] σ Q := by
 refine hK.def2 def_143 bind_143 ?_
 ·skip
  refine AExecs.cons (AExec.ret (AEval.sub (AEval.sub (hK.fd .B .N .local A rfl ?_))))
  refine AEval.loc rfl (AItem.list (.ref (A.is .N _ rfl)) (v := nodeV nd) ?_ (lim_map (by lia)) (AEval.int (AItem.tuple (k := 0) (v := .str nd.1) rfl (by simp; lia) q)))
  rw [List.getElem?_map, hi]; rfl
theorem def_150 : DefOk 150 := fun P => ⟨by kernel_rfl, by kernel_rfl⟩
theorem bind_150 (v u : Value) : bindArgs (fnA 150) ⟨[v, u], []⟩ = pure [(Str.ofString "self", v), (Str.ofString "n", u)] := by kernel_rfl
theorem c_kids (hK : CK Γ) {loc : Loc} {hs : HS} (A : At σ loc hs) (hz : hs.nodes.length <= 1000) {i : Nat} {nd : Nd} (hi : hs.nodes[i]? = some nd) (hk : nd.2.length <= 1000) (q : Q (.tup (nd.2.map natV)) σ) : ACall Γ (n + 1) (.ref 150) [.ref (loc .B), natV i] σ Q := by
 refine hK.def2 def_150 bind_150 ?_
 ·skip
  refine AExecs.cons (AExec.ret (AEval.tail1 (AEval.sub (hK.fd .B .N .local A rfl ?_))))
  refine AEval.loc rfl (AItem.list (.ref (A.is .N _ rfl)) (v := nodeV nd) ?_ (lim_map (by lia)) ⟨_, rfl, by simp, by simp; lia, q⟩)
  rw [List.getElem?_map, hi]; rfl
theorem def_346 : DefOk 346 := fun P => ⟨by kernel_rfl, by kernel_rfl⟩
theorem bind_346 (v u : Value) : bindArgs (fnA 346) ⟨[v, u], []⟩ = pure [(Str.ofString "self", v), (Str.ofString "n", u)] := by kernel_rfl
theorem c_hfind (hK : CK Γ) {loc : Loc} {hs : HS} (A : At σ loc hs) (hp : ParOk hs.par) (hz : hs.par.length <= 1000) {a : Nat} (ha : a < hs.par.length) (q : Q (natV (rep hs.par a)) σ) : ACall Γ (n + 2) (.ref 346) [.ref (loc .H), natV a] σ Q := by
 refine hK.def2 def_346 bind_346 ?_
 ·skip
  refine AExecs.cons (AExec.ret (AEval.ownMeth (f := 249) (a := loc .U) ?_ (A.is .U _ rfl) (A.is .Ud _ rfl) (hK.meth (by kernel_rfl)) (by kernel_rfl) (AArgs.loc rfl (AArgs.nil (c_find hK A hp hz ha q)))))
  exact hK.fd .H .U .local A rfl ⟨rfl, rfl⟩
theorem def_317 : DefOk 317 := fun P => ⟨by kernel_rfl, by kernel_rfl⟩
theorem bind_317 (v : Value) : bindArgs (fnA 317) ⟨[v], []⟩ = pure [(Str.ofString "self", v)] := by kernel_rfl
theorem c_hsize (hK : CK Γ) {loc : Loc} {hs : HS} (A : At σ loc hs) (hz : hs.nodes.length <= 1000) (q : Q (natV hs.nodes.length) σ) : ACall Γ (n + 2) (.ref 317) [.ref (loc .H)] σ Q := by
 refine hK.def1 def_317 bind_317 ?_
 ·skip
  refine AExecs.cons (AExec.ret (AEval.ownMeth (f := 105) (a := loc .B) ?_ (A.is .B _ rfl) (A.is .Bd _ rfl) (hK.meth (by kernel_rfl)) (by kernel_rfl) (AArgs.nil (c_bsize hK A hz q))))
  exact hK.fd .H .B .local A rfl ⟨rfl, rfl⟩
theorem def_353 : DefOk 353 := fun P => ⟨by kernel_rfl, by kernel_rfl⟩
theorem bind_353 (v u w : Value) : bindArgs (fnA 353) ⟨[v, u, w], []⟩ = pure [(Str.ofString "self", v), (Str.ofString "a", u), (Str.ofString "b", w)] := by kernel_rfl
theorem c_are_like (hK : CK Γ) {loc : Loc} {hs : HS} (A : At σ loc hs) (hp : ParOk hs.par) (hz : hs.par.length <= 1000) {a b : Nat} (ha : a < hs.par.length) (hb : b < hs.par.length) (q : Q (.bool (decide (rep hs.par a = rep hs.par b))) σ) : ACall Γ (n + 3) (.ref 353) [.ref (loc .H), natV a, natV b] σ Q := by
 refine hK.def3 def_353 bind_353 ?_
 ·skip
  refine AExecs.cons (AExec.ret (AEval.compare (hK.om .H 346 .local A rfl (AArgs.loc rfl (AArgs.nil (c_hfind hK A hp hz ha ?_))))))
  refine hK.om .H 346 .local A rfl (AArgs.loc rfl (AArgs.nil (c_hfind hK A hp hz hb (AOp2.eqI ?_))))
  have : decide (((rep hs.par a : Nat) : Int) = (rep hs.par b : Nat)) = decide (rep hs.par a = rep hs.par b) := decide_eq_decide.mpr (by lia)
  rw [this]; exact q
theorem def_381 : DefOk 381 := fun P => ⟨by kernel_rfl, by kernel_rfl⟩
theorem bind_381 (v : Value) : bindArgs (fnA 381) ⟨[v], []⟩ = pure [(Str.ofString "self", v)] := by kernel_rfl
theorem c_is_settled (hK : CK Γ) {loc : Loc} {hs : HS} (A : At σ loc hs) (hz : hs.waiting = []) (q : Q (.bool true) σ) : ACall Γ (n + 1) (.ref 381) [.ref (loc .H)] σ Q := by
 refine hK.def1 def_381 bind_381 ?_
 ·skip
  refine AExecs.cons (AExec.ret (AEval.compare ?_))
  refine hK.callB (id := "len") (AArgs.cons ?_)
  refine hK.fd .H .W .local A rfl ?_
  refine AArgs.nil (ACall.lenList (.ref (A.is .W _ rfl)) (by rw [hz]; simp) (AEval.int (AOp2.eqI ?_)))
  rw [hz]; exact q
theorem def_322 : DefOk 322 := fun P => ⟨by kernel_rfl, by kernel_rfl⟩
theorem bind_322 (v u : Value) : bindArgs (fnA 322) ⟨[v, u], []⟩ = pure [(Str.ofString "self", v), (Str.ofString "n", u)] := by kernel_rfl
noncomputable def sigOf (par : List Nat) (nd : Nd) : Nd := (nd.1, nd.2.map (rep par))
theorem c_node (hK : CK Γ) {loc : Loc} {hs : HS} (A : At σ loc hs) (hp : ParOk hs.par) (hz : hs.par.length <= 1000) (hz2 : hs.nodes.length <= 1000) {i : Nat} {nd : Nd} (hi : hs.nodes[i]? = some nd) (hkl : nd.2.length <= 1000) (hk : ∀ k ∈ nd.2, k < hs.par.length)
  (q : Q (nodeV (sigOf hs.par nd)) σ) : ACall Γ (n + 3) (.ref 322) [.ref (loc .H), natV i] σ Q := by
 refine hK.def2 def_322 bind_322 ?_
 ·skip
  refine AExecs.cons (AExec.ret (AEval.binop (AEval.tuple (AArgs.cons (AEval.ownMeth (f := 143) (a := loc .B) ?_ (A.is .B _ rfl) (A.is .Bd _ rfl) (hK.meth (by kernel_rfl)) (by kernel_rfl) (AArgs.loc rfl (AArgs.nil (c_op hK A hz2 hi hkl (AArgs.nil ⟨lim rfl, ?_⟩)))))))))
  ·exact hK.fd .H .B .cell A rfl ⟨rfl, rfl⟩
  refine hK.callT (id := "tuple") (AArgs.cons ?_)
  refine AEval.listcompG [(Str.ofString "self", .ref (loc .H))] (turn0 _ _ _ _ _) (by kernel_rfl) (free_one (by kernel_rfl) rfl) (AIt.val (AEval.ownMeth (f := 150) (a := loc .B) ?_ (A.is .B _ rfl) (A.is .Bd _ rfl) (hK.meth (by kernel_rfl)) (by kernel_rfl) (AArgs.loc rfl (AArgs.nil (c_kids hK A hz2 hi hkl (WalkQ.mk rfl ?_)))))) (fun _ _ => rfl)
  ·exact hK.fd .H .B .cell A rfl ⟨rfl, rfl⟩
  refine CompRun.mapE natV (fun k => natV (rep hs.par k)) nd.2 [] (lim_nil (by lia)) (fun k hk0 acc' K' hz' hK2 => ?_) ?_
  ·refine ALoc.name (by kernel_rfl) ⟨keeps_one rfl, AComp.rest0 ?_⟩
   exact hK.om .H 346 .cell A rfl (AArgs.loc rfl (AArgs.nil (c_hfind hK A hp hz (hk k hk0) ⟨hz', hK2⟩)))
  ·refine AArgs.nil (ACall.tupleList .lst (by simp; lia) (AOp2.addT (by simp; lia) ?_))
   have : V.tup ([V.str nd.1] ++ ([] ++ nd.2.map fun k => natV (rep hs.par k))) = nodeV (sigOf hs.par nd) := by unfold nodeV sigOf; simp [List.map_map]
   rw [this]; exact q
end
section
variable {Γ : Cx} {n : Nat} {σ : Store} {Q : V -> Store -> Prop} {sc : Scope} {ρ : Vars}
noncomputable def makeS (hs : HS) (a : Addr) : HS :=
 { hs with par := hs.par ++ [hs.par.length], lots := hs.lots ++ [[natV hs.lots.length]], ulV := hs.ulV ++ [.ref a] }
theorem def_235 : DefOk 235 := fun P => ⟨by kernel_rfl, by kernel_rfl⟩
theorem bind_235 (v : Value) : bindArgs (fnA 235) ⟨[v], []⟩ = pure [(Str.ofString "self", v)] := by kernel_rfl
theorem c_make (hK : CK Γ) {loc : Loc} {hs : HS} (A : At σ loc hs) (hz : hs.par.length <= 1000) (hl : hs.lots.length = hs.par.length) (hu : hs.ulV.length = hs.par.length)
  (q : ∀ σ' a, Mv σ loc hs σ' (upd loc (.lot hs.par.length) a) (makeS hs a) -> Q (natV hs.par.length) σ') : ACall Γ (n + 1) (.ref 235) [.ref (loc .U)] σ Q := by
 refine hK.def1 def_235 bind_235 ?_
 ·skip
  refine AExecs.cons (AExec.expr (AEval.meth (hK.fd .U .Ua .local A rfl ?_)))
  refine AMeth.blt (list_type (.ref (A.is .Ua _ rfl))) PySem.F.plainAttrs_list PySem.F.slot_list_append PySem.F.type_list_append ⟨trivial, AArgs.cons ?_⟩
  refine hK.callB (id := "len") (AArgs.cons ?_)
  refine hK.fd .U .Ua .local A rfl ?_
  refine AArgs.nil (ACall.lenList (.ref (A.is .Ua _ rfl)) (lim_map (by lia)) (AArgs.nil (ACall.append (A.is .Ua _ rfl) (lim_map (by lia)) ?_)))
  rw [show V.int ((hs.par.map natV).length : Nat) = natV hs.par.length from by rw [List.length_map]; rfl]
  have M1 := A.put (l := .Ua) (v := .lst ((hs.par ++ [hs.par.length]).map natV)) (hs' := { hs with par := hs.par ++ [hs.par.length] }) (fun e => nomatch e) (fun l' => by cases l' <;> rfl)
  have A1 := M1.to
  rw [List.map_append, List.map_singleton] at M1 A1
  refine AExecs.cons (AExec.expr (AEval.meth (hK.fd .U .Ul .local A1 rfl ?_)))
  refine AMeth.blt (list_type (.ref (A1.is .Ul _ rfl))) PySem.F.plainAttrs_list PySem.F.slot_list_append PySem.F.type_list_append ⟨trivial, AArgs.cons (AEval.list (AArgs.cons ?_))⟩
  refine hK.callB (id := "len") (AArgs.cons ?_)
  refine hK.fd .U .Ul .local A1 rfl ?_
  refine AArgs.nil (ACall.lenList (.ref (A1.is .Ul _ rfl)) (by show hs.ulV.length <= _; lia) (AArgs.nil ⟨lim rfl, fun a ha => ?_⟩))
  rw [show V.int ((({ hs with par := hs.par ++ [hs.par.length] } : HS).ulV.length : Nat) : Int) = natV hs.lots.length from by show natV hs.ulV.length = _; rw [hu, hl]]
  have M2 := A1.new (l := .lot hs.par.length) (v := .lst [natV hs.lots.length]) (hs' := { hs with par := hs.par ++ [hs.par.length], lots := hs.lots ++ [[natV hs.lots.length]] }) ha rfl (fun l' => by
   cases l' with
   | lot i =>
    show ((hs.lots ++ [[natV hs.lots.length]])[i]?).map V.lst = _
    by_cases h : i = hs.par.length
    ·subst h
     rw [if_pos rfl, <- hl, List.getElem?_append_right (Nat.le_refl _), Nat.sub_self]; rfl
    ·rw [if_neg (fun e => h (by injection e))]
     show _ = (hs.lots[i]?).map V.lst
     by_cases h2 : i < hs.lots.length
     ·rw [List.getElem?_append_left h2]
     ·rw [List.getElem?_eq_none (by simp; lia), List.getElem?_eq_none (by lia)]
   | _ => rfl)
  have A2 := M2.to
  refine AArgs.nil (ACall.append (A2.is .Ul _ rfl) (by show hs.ulV.length <= _; lia) ?_)
  have M3 := A2.put (l := .Ul) (v := .lst (hs.ulV ++ [.ref a])) (hs' := makeS hs a) (fun e => nomatch e) (fun l' => by cases l' <;> rfl)
  have A3 := M3.to
  refine AExecs.cons (AExec.ret (AEval.binop (hK.callB (id := "len") (AArgs.cons ?_))))
  refine hK.fd .U .Ua .local A3 rfl ?_
  refine AArgs.nil (ACall.lenList (.ref (A3.is .Ua _ rfl)) (by simp [makeS]; lia) (AEval.int (AOp2.subI ?_)))
  have e : ((((makeS hs a).par.map natV).length : Nat) : Int) - 1 = (hs.par.length : Int) := by simp [makeS]
  rw [e]
  exact q _ a (M1.trans (M2.trans M3))
theorem sorted2 {x y : Int} {js : List Int} (hp : js.Perm [x, y]) (hs : js.Pairwise (· <= ·)) : js = [min x y, max x y] := by
 have hl := hp.length_eq
 match js, hl with
 | [p, q], _ =>
  have h1 : p ∈ [x, y] := hp.mem_iff.mp List.mem_cons_self
  have h2 : q ∈ [x, y] := hp.mem_iff.mp (List.mem_cons_of_mem _ List.mem_cons_self)
  have h3 : x ∈ [p, q] := hp.mem_iff.mpr List.mem_cons_self
  have h4 : y ∈ [p, q] := hp.mem_iff.mpr (List.mem_cons_of_mem _ List.mem_cons_self)
  have h5 : p <= q := by simpa using hs
  simp only [List.mem_cons, List.not_mem_nil, or_false] at h1 h2 h3 h4
  have : p = min x y /\ q = max x y := by lia
  rw [this.1, this.2]
noncomputable def mergeS (hs : HS) (kept gone : Nat) : HS :=
 { hs with par := hs.par.set gone kept, lots := hs.lots.set kept (hs.lots.getD kept [] ++ hs.lots.getD gone []), merged := hs.merged ++ [.tup [natV kept, natV gone]] }
theorem def_256 : DefOk 256 := fun P => ⟨by kernel_rfl, by kernel_rfl⟩
theorem bind_256 (v u w : Value) : bindArgs (fnA 256) ⟨[v, u, w], []⟩ = pure [(Str.ofString "self", v), (Str.ofString "a", u), (Str.ofString "b", w)] := by kernel_rfl
theorem c_umerge (hK : CK Γ) {loc : Loc} {hs : HS} (A : At σ loc hs) (hp : ParOk hs.par) (hz : hs.par.length <= 1000) {a b : Nat} (ha : a < hs.par.length) (hb : b < hs.par.length)
  (hl : hs.lots.length = hs.par.length) (hu : hs.ulV.length = hs.par.length) (hul : ∀ i, i < hs.par.length -> hs.ulV[i]? = some (.ref (loc (.lot i)))) (hlot : ∀ l ∈ hs.lots, l.length <= 1000) (hm : hs.merged.length <= 1000000)
  (q : if rep hs.par a = rep hs.par b then Q .none σ else ∀ σ', Mv σ loc hs σ' loc (mergeS hs (min (rep hs.par a) (rep hs.par b)) (max (rep hs.par a) (rep hs.par b))) -> Q (.tup [natV (min (rep hs.par a) (rep hs.par b)), natV (max (rep hs.par a) (rep hs.par b))]) σ') :
  ACall Γ (n + 2) (.ref 256) [.ref (loc .U), natV a, natV b] σ Q := by
 refine hK.def3 def_256 bind_256 ?_
 ·skip
  refine AExecs.cons (AExec.assign (hK.callB (id := "sorted") (AArgs.cons (AEval.listF (AArgs.cons ?_)))))
  refine hK.om .U 249 .local A rfl (AArgs.loc rfl (AArgs.nil (c_find hK A hp hz ha (AArgs.cons ?_))))
  refine hK.om .U 249 .local A rfl (AArgs.loc rfl (AArgs.nil (c_find hK A hp hz hb (AArgs.nil ⟨lim rfl, AArgs.nil ?_⟩))))
  have hra := rep_le hp a
  have hrb := rep_le hp b
  refine ACall.sortedI (is := [((rep hs.par a : Nat) : Int), ((rep hs.par b : Nat) : Int)]) .lst (by simp) fun js hj1 hj2 => ?_
  obtain rfl := sorted2 hj1 hj2
  generalize hx : rep hs.par a = x at *
  generalize hy : rep hs.par b = y at *
  rw [show ([min (x : Int) (y : Int), max (x : Int) (y : Int)].map V.int) = [natV (min x y), natV (max x y)] from by
   unfold natV
   simp only [List.map_cons, List.map_nil]
   rw [show min (x : Int) (y : Int) = ((min x y : Nat) : Int) from by lia, show max (x : Int) (y : Int) = ((max x y : Nat) : Int) from by lia]]
  refine AAssign.tuple rfl rfl (AAssign.loc (AAssign.loc ?_))
  refine AExecs.cons (AExec.if (ATest.compare (AEval.loc rfl (AEval.loc rfl (AOp2.eqI ?_)))))
  by_cases e : x = y
  ·rw [if_pos e] at q
   rw [decide_eq_true (by lia)]
   exact AExecs.cons (AExec.ret (AEval.nonec q))
  ·rw [if_neg e] at q
   rw [decide_eq_false (by lia)]
   generalize hkept : min x y = kept at *
   generalize hgone : max x y = gone at *
   have h1 : kept < hs.par.length := by lia
   have h2 : gone < hs.par.length := by lia
   refine AExecs.nil ?_
   refine AExecs.cons (AExec.assign (AEval.loc rfl (AAssign.sub ?_)))
   refine hK.fd .U .Ua .local A rfl ?_
   refine AEval.loc rfl (ASetItem.list (A.is .Ua _ rfl) (by simp; lia) (by simp; lia) ?_)
   have M1 := A.put (l := .Ua) (v := .lst ((hs.par.set gone kept).map natV)) (hs' := { hs with par := hs.par.set gone kept }) (fun e => nomatch e) (fun l' => by cases l' <;> rfl)
   have A1 := M1.to
   rw [List.map_set] at M1 A1
   have ulot : ∀ {i : Nat} {x : Str} {ρ : Vars} {Q : V -> Store -> Prop}, ρ.lookup (Str.ofString "self") = some (.ref (loc .U)) -> (scA 256).names.lookup x = some .local -> ρ.lookup x = some (natV i) -> (x == ("__debug__" : Str)) = false -> (x == ("__classdict__" : Str)) = false -> i < hs.par.length -> Q (.ref (loc (.lot i))) (put σ (loc .Ua) (.lst ((hs.par.map natV).set gone (natV kept)))) ->
     ∀ {p1 p2 p3 p4 : Pos}, AEval Γ (n + 1) (scA 256) ρ (.Subscript (.Attribute (.Name (Str.ofString "self") p1) (Str.ofString "lots") p2) (.Name x p3) p4) (put σ (loc .Ua) (.lst ((hs.par.map natV).set gone (natV kept)))) Q := by
    intro i x ρ Q k1 k2 k3 k5 k6 k4 q p1 p2 p3 p4
    refine AEval.sub (hK.fd .U .Ul .local A1 k1 ?_)
    exact AEval.name (k := .local) k2 rfl k3 (AItem.list (.ref (A1.is .Ul _ rfl)) (hul i k4) (by show hs.ulV.length <= _; lia) q) k5 k6
   have g1 : hs.lots[kept]? = some (hs.lots.getD kept []) := by rw [List.getD_eq_getElem?_getD, List.getElem?_eq_getElem (by lia)]; rfl
   have g2 : hs.lots[gone]? = some (hs.lots.getD gone []) := by rw [List.getD_eq_getElem?_getD, List.getElem?_eq_getElem (by lia)]; rfl
   have i1 : img loc { hs with par := hs.par.set gone kept } (.lot kept) = some (.lst (hs.lots.getD kept [])) := by show (hs.lots[kept]?).map V.lst = _; rw [g1]; rfl
   have i2 : img loc { hs with par := hs.par.set gone kept } (.lot gone) = some (.lst (hs.lots.getD gone [])) := by show (hs.lots[gone]?).map V.lst = _; rw [g2]; rfl
   have z1 := hlot _ (List.mem_of_getElem? g1)
   have z2 := hlot _ (List.mem_of_getElem? g2)
   refine AExecs.cons (AExec.expr (AEval.meth (ulot rfl (by kernel_rfl) rfl (by decide) (by decide) h1 ?_)))
   refine AMeth.blt (list_type (.ref (A1.is _ _ i1))) PySem.F.plainAttrs_list PySem.F.slot_list_extend PySem.F.type_list_extend ⟨trivial, AArgs.cons (ulot rfl (by kernel_rfl) rfl (by decide) (by decide) h2 (AArgs.nil (ACall.extend (A1.is _ _ i1) (.ref (A1.is _ _ i2)) (by lia) ?_)))⟩
   have M2 := A1.put (l := .lot kept) (v := .lst (hs.lots.getD kept [] ++ hs.lots.getD gone [])) (hs' := { hs with par := hs.par.set gone kept, lots := hs.lots.set kept (hs.lots.getD kept [] ++ hs.lots.getD gone []) }) (by rw [i1]; exact fun e => nomatch e) (fun l' => by
    cases l' with
    | lot i =>
     show ((hs.lots.set kept _)[i]?).map V.lst = _
     by_cases h : i = kept
     ·subst h
      rw [if_pos rfl, List.getElem?_set_self (by lia)]; rfl
     ·rw [if_neg (fun e => h (by injection e)), List.getElem?_set_ne (fun e => h e.symm)]; rfl
    | _ => rfl)
   have A2 := M2.to
   refine AExecs.cons (AExec.expr (AEval.meth (hK.fd .U .Um .local A2 rfl ?_)))
   refine AMeth.blt (list_type (.ref (A2.is .Um _ rfl))) PySem.F.plainAttrs_list PySem.F.slot_list_append PySem.F.type_list_append ⟨trivial, AArgs.cons (AEval.tuple (AArgs.loc rfl (AArgs.loc rfl (AArgs.nil ⟨lim rfl, AArgs.nil (ACall.append (A2.is .Um _ rfl) hm ?_)⟩))))⟩
   have M3 := A2.put (l := .Um) (v := .lst (hs.merged ++ [.tup [natV kept, natV gone]])) (hs' := mergeS hs kept gone) (fun e => nomatch e) (fun l' => by cases l' <;> rfl)
   refine AExecs.cons (AExec.ret (AEval.tuple (AArgs.loc rfl (AArgs.loc rfl (AArgs.nil ⟨lim rfl, ?_⟩)))))
   exact q _ (M1.trans (M2.trans M3))
end
section
variable {Γ : Cx} {n : Nat} {σ : Store} {Q : V -> Store -> Prop} {sc : Scope} {ρ : Vars}
theorem At.drop {loc : Loc} {hs hs' : HS} (A : At σ loc hs) (hi : ∀ l, img loc hs' l = none \/ img loc hs' l = img loc hs l) : Mv σ loc hs σ loc hs' := by
 have lv : ∀ l, img loc hs' l ≠ none -> img loc hs l ≠ none := fun l h => by
  rcases hi l with e | e
  ·exact absurd e h
  ·rw [<- e]; exact h
 refine ⟨⟨fun l v e => ?_, fun l1 l2 h1 h2 => A.inj l1 l2 (lv _ h1) (lv _ h2)⟩, fun a v e o => ⟨e, fun l h => o l (lv _ h)⟩, fun _ _ => rfl⟩
 rcases hi l with e' | e'
 ·rw [e'] at e; cases e
 ·rw [e'] at e; exact A.is l v e
noncomputable def edgeS (hs : HS) (e : V) : HS := { hs with edges := hs.edges ++ [e] }
noncomputable def joinS (hs : HS) (kept gone : Nat) (e f : V) (a : Addr) : HS :=
 { mergeS hs kept gone with
  edges := hs.edges ++ [e], forest := hs.forest ++ [f], waiting := hs.waiting ++ (hs.uses gone).getD [],
  uses := fun c => if c = kept then some ((hs.uses kept).getD [] ++ (hs.uses gone).getD []) else if c = gone then none else hs.uses c,
  abV := dput (natV kept) (.ref a) (ddel (natV gone) hs.abV) }
structure Room2 (loc : Loc) (hs : HS) : Prop where
 par : ParOk hs.par
 pz : hs.par.length <= 1000
 lots : hs.lots.length = hs.par.length
 ulV : hs.ulV.length = hs.par.length
 link : ∀ i, i < hs.par.length -> hs.ulV[i]? = some (.ref (loc (.lot i)))
 lotz : ∀ l ∈ hs.lots, l.length <= 1000
 uses : ∀ c, c < hs.par.length -> hs.par.getD c c = c -> ∃ u, hs.uses c = some u /\ u.length <= 1000
 ulink : ∀ c, c < hs.par.length -> hs.par.getD c c = c -> dget (natV c) hs.abV = some (.ref (loc (.use c)))
 mz : hs.merged.length <= 100000
 ez : hs.edges.length <= 100000
 fz : hs.forest.length <= 100000
 wz : hs.waiting.length <= 100000
 az : hs.abV.length <= 100000
theorem def_367 : DefOk 367 := fun P => ⟨by kernel_rfl, by kernel_rfl⟩
theorem bind_367 (v u w r : Value) : bindArgs (fnA 367) ⟨[v, u, w, r], []⟩ = pure [(Str.ofString "self", v), (Str.ofString "a", u), (Str.ofString "b", w), (Str.ofString "reason", r)] := by kernel_rfl
theorem c_join (hK : CK Γ) {loc : Loc} {hs : HS} (A : At σ loc hs) (R : Room2 loc hs) {a b : Nat} (ha : a < hs.par.length) (hb : b < hs.par.length) {r : V}
  (q : if rep hs.par a = rep hs.par b then ∀ σ', Mv σ loc hs σ' loc (edgeS hs (.tup [natV a, natV b, r])) -> Q (.bool false) σ' else
   ∀ σ' f x, Mv σ loc hs σ' (upd loc (.use (min (rep hs.par a) (rep hs.par b))) x) (joinS hs (min (rep hs.par a) (rep hs.par b)) (max (rep hs.par a) (rep hs.par b)) (.tup [natV a, natV b, r]) f x) -> Q (.bool true) σ') :
  ACall Γ (n + 3) (.ref 367) [.ref (loc .H), natV a, natV b, r] σ Q := by
 refine hK.def4 def_367 bind_367 ?_
 ·skip
  refine AExecs.cons (AExec.expr (AEval.meth (hK.fd .H .E .local A rfl ?_)))
  refine AMeth.blt (list_type (.ref (A.is .E _ rfl))) PySem.F.plainAttrs_list PySem.F.slot_list_append PySem.F.type_list_append ⟨trivial, AArgs.cons (AEval.tuple (AArgs.loc rfl (AArgs.loc rfl (AArgs.loc rfl (AArgs.nil ⟨lim rfl, AArgs.nil (ACall.append (A.is .E _ rfl) (by have := R.ez; lia) ?_)⟩)))))⟩
  have M1 := A.put (l := .E) (v := .lst (hs.edges ++ [.tup [natV a, natV b, r]])) (hs' := edgeS hs (.tup [natV a, natV b, r])) (fun e => nomatch e) (fun l' => by cases l' <;> rfl)
  have A1 := M1.to
  refine AExecs.cons (AExec.assign (AEval.ownMeth (f := 256) (a := loc .U) (hK.fd .H .U .local A1 rfl ⟨rfl, rfl⟩) (A1.is .U _ rfl) (A1.is .Ud _ rfl) (hK.meth (by kernel_rfl)) (by kernel_rfl) ?_))
  refine AArgs.loc rfl (AArgs.loc rfl (AArgs.nil ?_))
  have hra := rep_le R.par a
  have hrb := rep_le R.par b
  have ka := rep_is R.par a
  have kb := rep_is R.par b
  refine c_umerge (hs := edgeS hs (.tup [natV a, natV b, r])) hK A1 R.par R.pz ha hb R.lots R.ulV R.link R.lotz (by have := R.mz; show hs.merged.length <= _; lia) ?_
  rw [show (edgeS hs (.tup [natV a, natV b, r])).par = hs.par from rfl]
  by_cases e : rep hs.par a = rep hs.par b
  ·rw [if_pos e] at q ⊢
   refine AAssign.loc ?_
   refine AExecs.cons (AExec.if (ATest.compare (AEval.loc rfl (AEval.nonec (AOp2.isNoneT ?_)))))
   exact AExecs.cons (AExec.ret (AEval.boolc (q _ M1)))
  ·rw [if_neg e] at q ⊢
   intro σ₂ M2
   have A2 := M2.to
   refine AAssign.loc ?_
   refine AExecs.cons (AExec.if (ATest.compare (AEval.loc rfl (AEval.nonec (AOp2.isNoneF ?_)))))
   refine AExecs.nil (AExecs.cons (AExec.assign (AEval.loc rfl ?_)))
   refine AAssign.tuple rfl rfl (AAssign.loc (AAssign.loc ?_))
   have hkept : min (rep hs.par a) (rep hs.par b) < hs.par.length /\ hs.par.getD (min (rep hs.par a) (rep hs.par b)) (min (rep hs.par a) (rep hs.par b)) = min (rep hs.par a) (rep hs.par b) := by
    rcases Nat.le_total (rep hs.par a) (rep hs.par b) with h | h
    ·rw [Nat.min_eq_left h]; exact ⟨by lia, ka⟩
    ·rw [Nat.min_eq_right h]; exact ⟨by lia, kb⟩
   have hgone : max (rep hs.par a) (rep hs.par b) < hs.par.length /\ hs.par.getD (max (rep hs.par a) (rep hs.par b)) (max (rep hs.par a) (rep hs.par b)) = max (rep hs.par a) (rep hs.par b) := by
    rcases Nat.le_total (rep hs.par a) (rep hs.par b) with h | h
    ·rw [Nat.max_eq_right h]; exact ⟨by lia, kb⟩
    ·rw [Nat.max_eq_left h]; exact ⟨by lia, ka⟩
   have hne : min (rep hs.par a) (rep hs.par b) ≠ max (rep hs.par a) (rep hs.par b) := by lia
   generalize min (rep hs.par a) (rep hs.par b) = kept at *
   generalize max (rep hs.par a) (rep hs.par b) = gone at *
   obtain ⟨uk, hu1, hu2⟩ := R.uses kept hkept.1 hkept.2
   obtain ⟨ug, hg1, hg2⟩ := R.uses gone hgone.1 hgone.2
   have l1 := R.ulink kept hkept.1 hkept.2
   have l2 := R.ulink gone hgone.1 hgone.2
   refine AExecs.cons (AExec.expr (AEval.meth (hK.fd .H .Fo .local A2 rfl ?_)))
   refine AMeth.blt (list_type (.ref (A2.is .Fo _ rfl))) PySem.F.plainAttrs_list PySem.F.slot_list_append PySem.F.type_list_append ⟨trivial, AArgs.cons (AEval.binop (hK.callB (id := "len") (AArgs.cons ?_)))⟩
   refine hK.fd .H .E .local A2 rfl ?_
   refine AArgs.nil (ACall.lenList (.ref (A2.is .E _ rfl)) (by have := R.ez; show (hs.edges ++ [_]).length <= _; simp; lia) (AEval.int (AOp2.subI (AArgs.nil (ACall.append (A2.is .Fo _ rfl) (by have := R.fz; show hs.forest.length <= _; lia) ?_)))))
   generalize V.int _ = f
   have M3 := A2.put (l := .Fo) (v := .lst (hs.forest ++ [f])) (hs' := { mergeS (edgeS hs (.tup [natV a, natV b, r])) kept gone with forest := hs.forest ++ [f] }) (fun e => nomatch e) (fun l' => by cases l' <;> rfl)
   have A3 := M3.to
   have ik : img loc { mergeS (edgeS hs (.tup [natV a, natV b, r])) kept gone with forest := hs.forest ++ [f] } (.use kept) = some (.lst (uk.map natV)) := by show (hs.uses kept).map _ = _; rw [hu1]; rfl
   have ig : img loc { mergeS (edgeS hs (.tup [natV a, natV b, r])) kept gone with forest := hs.forest ++ [f] } (.use gone) = some (.lst (ug.map natV)) := by show (hs.uses gone).map _ = _; rw [hg1]; rfl
   refine AExecs.cons (AExec.expr (AEval.meth (hK.fd .H .W .local A3 rfl ?_)))
   refine AMeth.blt (list_type (.ref (A3.is .W _ rfl))) PySem.F.plainAttrs_list PySem.F.slot_list_extend PySem.F.type_list_extend ⟨trivial, AArgs.cons (AEval.sub (hK.fd .H .Ab .local A3 rfl ?_))⟩
   refine AEval.loc rfl (AItem.dict (.ref (A3.is .Ab _ rfl)) ⟨_, rfl⟩ l2 (AArgs.nil (ACall.extend (A3.is .W _ rfl) (.ref (A3.is _ _ ig)) (by have := R.wz; show (hs.waiting.map natV).length + _ <= _; simp; lia) ?_)))
   have M4 := A3.put (l := .W) (v := .lst ((hs.waiting ++ ug).map natV)) (hs' := { mergeS (edgeS hs (.tup [natV a, natV b, r])) kept gone with forest := hs.forest ++ [f], waiting := hs.waiting ++ ug }) (fun e => nomatch e) (fun l' => by cases l' <;> rfl)
   rw [List.map_append] at M4
   have A4 := M4.to
   refine AExecs.cons (AExec.assign (AEval.binop (AEval.sub (hK.fd .H .Ab .local A4 rfl ?_))))
   refine AEval.loc rfl (AItem.dict (.ref (A4.is .Ab _ rfl)) ⟨_, rfl⟩ l1 ?_)
   refine AEval.meth (hK.fd .H .Ab .local A4 rfl ?_)
   refine AMeth.blt (dict_type (.ref (A4.is .Ab _ rfl))) PySem.F.plainAttrs_dict PySem.F.slot_dict_pop PySem.F.type_dict_pop ⟨trivial, AArgs.loc rfl (AArgs.nil (ACall.dictPop (A4.is .Ab _ rfl) ⟨_, rfl⟩ rfl (by have := R.az; show hs.abV.length <= _; lia) l2 ?_))⟩
   have M5 := A4.put (l := .Ab) (v := .dct .I (ddel (natV gone) hs.abV)) (hs' := { mergeS (edgeS hs (.tup [natV a, natV b, r])) kept gone with forest := hs.forest ++ [f], waiting := hs.waiting ++ ug, abV := ddel (natV gone) hs.abV }) (fun e => nomatch e) (fun l' => by cases l' <;> rfl)
   have A5 := M5.to
   refine AOp2.addL (.ref (A5.is (.use kept) _ ik)) (.ref (A5.is (.use gone) _ ig)) (by simp; lia) fun x hx => ?_
   have M6 := A5.new (l := .use kept) (a := x) (v := .lst ((uk ++ ug).map natV)) (hs' := { mergeS (edgeS hs (.tup [natV a, natV b, r])) kept gone with forest := hs.forest ++ [f], waiting := hs.waiting ++ ug, abV := ddel (natV gone) hs.abV, uses := fun c => if c = kept then some (uk ++ ug) else hs.uses c }) hx rfl (fun l' => by
    cases l' with
    | use c =>
     show ((if c = kept then some (uk ++ ug) else hs.uses c).map fun u => V.lst (u.map natV)) = _
     by_cases h : c = kept
     ·subst h; rw [if_pos rfl, if_pos rfl]; rfl
     ·rw [if_neg h, if_neg (fun e => h (by injection e))]; rfl
    | _ => rfl)
   have A6 := M6.to
   rw [List.map_append] at M6 A6
   refine AAssign.sub (hK.fd .H .Ab .local A6 rfl ?_)
   refine AEval.loc rfl (ASetItem.dict (A6.is .Ab _ rfl) ⟨_, rfl⟩ (by have := R.az; have := ddel_len (natV gone) hs.abV; show (ddel (natV gone) hs.abV).length <= _; lia) ?_)
   have M7 := A6.put (l := .Ab) (v := .dct .I (dput (natV kept) (.ref x) (ddel (natV gone) hs.abV))) (hs' := { mergeS (edgeS hs (.tup [natV a, natV b, r])) kept gone with forest := hs.forest ++ [f], waiting := hs.waiting ++ ug, abV := dput (natV kept) (.ref x) (ddel (natV gone) hs.abV), uses := fun c => if c = kept then some (uk ++ ug) else hs.uses c }) (fun e => nomatch e) (fun l' => by cases l' <;> rfl)
   have M8 := M7.to.drop (hs' := joinS hs kept gone (.tup [natV a, natV b, r]) f x) (fun l => by
    cases l with
    | use c =>
     show ((if c = kept then some ((hs.uses kept).getD [] ++ (hs.uses gone).getD []) else if c = gone then none else hs.uses c).map fun u => V.lst (u.map natV)) = none \/ ((if c = kept then some ((hs.uses kept).getD [] ++ (hs.uses gone).getD []) else if c = gone then none else hs.uses c).map fun u => V.lst (u.map natV)) = ((if c = kept then some (uk ++ ug) else hs.uses c).map fun u => V.lst (u.map natV))
     rw [hu1, hg1]
     by_cases h : c = kept
     ·rw [if_pos h, if_pos h]; exact .inr rfl
     ·rw [if_neg h, if_neg h]
      by_cases h2 : c = gone
      ·rw [if_pos h2]; exact .inl rfl
      ·rw [if_neg h2]; exact .inr rfl
    | W =>
     right
     show some (V.lst ((hs.waiting ++ (hs.uses gone).getD []).map natV)) = some (V.lst ((hs.waiting ++ ug).map natV))
     rw [hg1]; rfl
    | _ => exact .inr rfl)
   refine AExecs.cons (AExec.ret (AEval.boolc (q _ f x ?_)))
   exact M1.trans (M2.trans (M3.trans (M4.trans (M5.trans (M6.trans (M7.trans M8))))))
theorem def_360 : DefOk 360 := fun P => ⟨by kernel_rfl, by kernel_rfl⟩
theorem bind_360 (v u w r : Value) : bindArgs (fnA 360) ⟨[v, u, w, r], []⟩ = pure [(Str.ofString "self", v), (Str.ofString "a", u), (Str.ofString "b", w), (Str.ofString "reason", r)] := by kernel_rfl
theorem c_merge (hK : CK Γ) {loc : Loc} {hs : HS} (A : At σ loc hs) {a b : Nat} {r : V} (h : ACall Γ n (.ref 367) [.ref (loc .H), natV a, natV b, r] σ Q) :
  ACall Γ (n + 1) (.ref 360) [.ref (loc .H), natV a, natV b, r] σ Q := by
 refine hK.def4 def_360 bind_360 ?_
 ·skip
  refine AExecs.cons (AExec.ret (hK.om .H 367 .local A rfl ?_))
  exact AArgs.loc rfl (AArgs.loc rfl (AArgs.loc rfl (AArgs.nil h)))
end
section
noncomputable def sumN : Nat -> (Nat -> Nat) -> Nat
 | 0, _ => 0
 | n + 1, g => sumN n g + g n
theorem sumN_congr {g g' : Nat -> Nat} : ∀ {n : Nat}, (∀ i, i < n -> g i = g' i) -> sumN n g = sumN n g'
 | 0, _ => rfl
 | n + 1, h => by rw [sumN, sumN, sumN_congr fun i hi => h i (by lia), h n (by lia)]
theorem sumN_point {g g' : Nat -> Nat} {a : Nat} : ∀ {n : Nat}, a < n -> (∀ i, i < n -> i ≠ a -> g i = g' i) -> sumN n g' + g a = sumN n g + g' a
 | n + 1, ha, h => by
  rw [sumN, sumN]
  by_cases e : a = n
  ·subst e
   rw [sumN_congr (g := g) (g' := g') fun i hi => h i (by lia) (by lia)]; lia
  ·have := sumN_point (g := g) (g' := g') (a := a) (n := n) (by lia) fun i hi ne => h i (by lia) ne
   have := h n (by lia) (fun q => e q.symm)
   lia
theorem sumN_two {g g' : Nat -> Nat} {a b n : Nat} (ha : a < n) (hb : b < n) (hab : a ≠ b) (h : ∀ i, i < n -> i ≠ a -> i ≠ b -> g i = g' i) : sumN n g' + g a + g b = sumN n g + g' a + g' b := by
 have h1 := sumN_point (g := g) (g' := fun i => if i = a then g' a else g i) (a := a) ha fun i _ ne => by rw [if_neg ne]
 have h2 := sumN_point (g := fun i => if i = a then g' a else g i) (g' := g') (a := b) hb fun i hi ne => by
  by_cases e : i = a
  ·rw [if_pos e, e]
  ·rw [if_neg e]; exact h i hi e ne
 rw [if_pos rfl] at h1
 rw [if_neg (fun e => hab e.symm)] at h2
 lia
theorem sumN_le {g : Nat -> Nat} {a : Nat} : ∀ {n : Nat}, a < n -> g a <= sumN n g
 | n + 1, h => by
  rw [sumN]
  by_cases e : a = n
  ·subst e; lia
  ·have := sumN_le (g := g) (a := a) (n := n) (by lia); lia
noncomputable def sumR (par : List Nat) (f : Nat -> Nat) : Nat := sumN par.length fun i => if par.getD i i = i then f i else 0
theorem sumR_le {par : List Nat} {f : Nat -> Nat} {c : Nat} (hc : c < par.length) (hr : par.getD c c = c) : f c <= sumR par f := by
 have := sumN_le (g := fun i => if par.getD i i = i then f i else 0) hc
 rw [if_pos hr] at this
 exact this
theorem getD_set_ne {par : List Nat} {i j v : Nat} (h : i ≠ j) (d : Nat) : (par.set i v).getD j d = par.getD j d := by
 rw [List.getD_eq_getElem?_getD, List.getD_eq_getElem?_getD, List.getElem?_set_ne h]
theorem getD_set_self {par : List Nat} {i v : Nat} (h : i < par.length) (d : Nat) : (par.set i v).getD i d = v := by
 rw [List.getD_eq_getElem?_getD, List.getElem?_set_self h]; rfl
theorem sumR_merge {par : List Nat} {f f' : Nat -> Nat} {kept gone : Nat} (h1 : kept < gone) (h2 : gone < par.length) (rk : par.getD kept kept = kept) (rg : par.getD gone gone = gone) (hf : ∀ i, i < par.length -> i ≠ kept -> i ≠ gone -> f i = f' i) :
  sumR (par.set gone kept) f' + f kept + f gone = sumR par f + f' kept := by
 unfold sumR
 rw [List.length_set]
 have := sumN_two (g := fun i => if par.getD i i = i then f i else 0) (g' := fun i => if (par.set gone kept).getD i i = i then f' i else 0) (a := kept) (b := gone) (n := par.length) (by lia) h2 (by lia) fun i hi n1 n2 => by
  rw [getD_set_ne (fun e => n2 e.symm), hf i hi n1 n2]
 rw [if_pos rk, if_pos rg, getD_set_ne (by lia), if_pos rk, getD_set_self h2, if_neg (by lia)] at this
 exact this
theorem root_congr {par par' : List Nat} (h : ∀ i, par.getD i i = par'.getD i i) : ∀ k a, root par k a = root par' k a
 | 0, a => rfl
 | k + 1, a => by rw [root, root, h a, root_congr h k]
theorem rep_congr {par par' : List Nat} (h : ∀ i, par.getD i i = par'.getD i i) (a : Nat) : rep par a = rep par' a := root_congr h a a
theorem getD_snoc (par : List Nat) (i : Nat) : par.getD i i = (par ++ [par.length]).getD i i := by
 rw [List.getD_eq_getElem?_getD, List.getD_eq_getElem?_getD]
 by_cases h : i < par.length
 ·rw [List.getElem?_append_left h]
 ·rw [List.getElem?_eq_none (by lia)]
  by_cases e : i = par.length
  ·subst e; rw [List.getElem?_append_right (Nat.le_refl _), Nat.sub_self]; rfl
  ·rw [List.getElem?_eq_none (by simp; lia)]
theorem rep_snoc (par : List Nat) (a : Nat) : rep (par ++ [par.length]) a = rep par a := (rep_congr (getD_snoc par) a).symm
theorem parOk_snoc {par : List Nat} (h : ParOk par) : ParOk (par ++ [par.length]) := fun i => by rw [<- getD_snoc]; exact h i
theorem parOk_set {par : List Nat} (h : ParOk par) {kept gone : Nat} (h1 : kept < gone) (h2 : gone < par.length) : ParOk (par.set gone kept) := fun i => by
 by_cases e : i = gone
 ·subst e; rw [getD_set_self h2]; lia
 ·rw [getD_set_ne (fun q => e q.symm)]; exact h i
theorem rep_merge {par : List Nat} (hp : ParOk par) {kept gone : Nat} (h1 : kept < gone) (h2 : gone < par.length) (rk : par.getD kept kept = kept) (rg : par.getD gone gone = gone) (x : Nat) :
  rep (par.set gone kept) x = if rep par x = gone then kept else rep par x := by
 have hp' := parOk_set hp h1 h2
 have rk' : rep (par.set gone kept) kept = kept := rep_root (by rw [getD_set_ne (by lia)]; exact rk)
 refine rep_ind hp (P := fun x => rep (par.set gone kept) x = if rep par x = gone then kept else rep par x) (fun x hx => ?_) (fun x hx ih => ?_) x
 ·rw [rep_root hx]
  by_cases e : x = gone
  ·subst e
   rw [if_pos rfl, <- rep_step hp' x, getD_set_self h2]; exact rk'
  ·rw [if_neg e]
   exact rep_root (by rw [getD_set_ne (fun q => e q.symm)]; exact hx)
 ·have ne : x ≠ gone := fun e => by subst e; lia
  rw [<- rep_step hp' x, getD_set_ne (fun q => ne q.symm), ih, rep_step hp]
inductive Cl (told : List (Tree × Tree)) (T : List Tree) : Tree -> Tree -> Prop
 | refl (t : Tree) : Cl told T t t
 | symm {a b : Tree} : Cl told T a b -> Cl told T b a
 | trans {a b c : Tree} : Cl told T a b -> Cl told T b c -> Cl told T a c
 | told {a b : Tree} : (a, b) ∈ told -> Cl told T a b
 | cong {op : Str} {ts us : List Tree} : Tree.node op ts ∈ T -> Tree.node op us ∈ T -> ts.length = us.length -> (∀ (j : Nat) (t u : Tree), ts[j]? = some t -> us[j]? = some u -> Cl told T t u) -> Cl told T (.node op ts) (.node op us)
theorem Cl.mono {told told' : List (Tree × Tree)} {T : List Tree} (h : ∀ p ∈ told, p ∈ told') {a b : Tree} (c : Cl told T a b) : Cl told' T a b := by
 induction c with
 | refl t => exact .refl t
 | symm _ ih => exact .symm ih
 | trans _ _ ih1 ih2 => exact .trans ih1 ih2
 | told m => exact .told (h _ m)
 | cong h1 h2 h3 _ ih => exact .cong h1 h2 h3 ih
noncomputable def tm (hs : HS) (i : Nat) : Tree := hs.terms.getD i (.node ⟨#[]⟩ [])
noncomputable def kidsOk (hs : HS) (nd : Nd) (ts : List Tree) : Prop := ts.length = nd.2.length /\ ∀ (j k : Nat), nd.2[j]? = some k -> ts[j]? = some (tm hs k)
structure Inv (T : List Tree) (told : List (Tree × Tree)) (X : Nat -> Prop) (loc : Loc) (hs : HS) : Prop where
 par : ParOk hs.par
 pn : hs.par.length = hs.nodes.length
 lots : hs.lots.length = hs.par.length
 ulV : hs.ulV.length = hs.par.length
 link : ∀ i, i < hs.par.length -> hs.ulV[i]? = some (.ref (loc (.lot i)))
 lotz : ∀ l ∈ hs.lots, l.length <= hs.nodes.length
 lotS : sumR hs.par (fun i => (hs.lots.getD i []).length) <= hs.nodes.length
 uses : ∀ c, c < hs.par.length -> hs.par.getD c c = c -> ∃ u, hs.uses c = some u /\ ∀ i ∈ u, i < hs.nodes.length
 ulink : ∀ c, c < hs.par.length -> hs.par.getD c c = c -> dget (natV c) hs.abV = some (.ref (loc (.use c)))
 useS : sumR hs.par (fun c => ((hs.uses c).getD []).length) <= 2 * hs.nodes.length
 az : hs.abV.length <= hs.nodes.length
 tl : hs.terms.length = hs.nodes.length
 wl : hs.wts.length = hs.nodes.length
 dl : hs.dps.length = hs.nodes.length
 tn : hs.terms.Nodup
 tT : ∀ t ∈ hs.terms, t ∈ T
 node : ∀ (i : Nat) (nd : Nd), hs.nodes[i]? = some nd -> nd.2.length <= 2 /\ (∀ k ∈ nd.2, k < i) /\ ∃ ts, tm hs i = .node nd.1 ts /\ kidsOk hs nd ts
 numD : DN hs.numV hs.num
 num : ∀ (nd : Nd) (i : Nat), hs.num nd = some i ↔ hs.nodes[i]? = some nd
 numz : hs.numV.length <= hs.nodes.length
 knD : DN hs.knV hs.kn
 wait : ∀ i ∈ hs.waiting, i < hs.nodes.length
 U : ∀ (i : Nat) (nd : Nd) (k : Nat), hs.nodes[i]? = some nd -> k ∈ nd.2 -> ∃ u, hs.uses (rep hs.par k) = some u /\ i ∈ u
 C : ∀ (i : Nat) (nd : Nd), hs.nodes[i]? = some nd -> ¬ X i -> i ∈ hs.waiting \/ ∃ o, hs.kn (sigOf hs.par nd) = some o /\ rep hs.par o = rep hs.par i
 K : ∀ (sg : Nd) (o : Nat), hs.kn sg = some o -> o < hs.nodes.length /\ (∀ k ∈ sg.2, k < hs.nodes.length) /\ ∃ ks', hs.nodes[o]? = some (sg.1, ks') /\ ks'.length = sg.2.length /\ ∀ (j k k' : Nat), sg.2[j]? = some k -> ks'[j]? = some k' -> Cl told T (tm hs k) (tm hs k')
 S : ∀ i j, i < hs.nodes.length -> j < hs.nodes.length -> rep hs.par i = rep hs.par j -> Cl told T (tm hs i) (tm hs j)
noncomputable def roots (hs : HS) : Nat := sumR hs.par fun _ => 1
noncomputable def pot (hs : HS) : Nat := hs.knV.length + hs.waiting.length + hs.edges.length + hs.forest.length + hs.merged.length + 60 * roots hs
structure Ext (hs hs' : HS) : Prop where
 len : hs.nodes.length <= hs'.nodes.length
 nodes : ∀ (i : Nat) (nd : Nd), hs.nodes[i]? = some nd -> hs'.nodes[i]? = some nd
 tms : ∀ i, i < hs.nodes.length -> tm hs' i = tm hs i
 reps : ∀ i j, i < hs.nodes.length -> j < hs.nodes.length -> rep hs.par i = rep hs.par j -> rep hs'.par i = rep hs'.par j
theorem Ext.refl (hs : HS) : Ext hs hs := ⟨Nat.le_refl _, fun _ _ h => h, fun _ _ => rfl, fun _ _ _ _ h => h⟩
theorem Ext.trans {a b c : HS} (x : Ext a b) (y : Ext b c) : Ext a c where
 len := Nat.le_trans x.len y.len
 nodes i nd h := y.nodes i nd (x.nodes i nd h)
 tms i h := (y.tms i (Nat.lt_of_lt_of_le h x.len)).trans (x.tms i h)
 reps i j hi hj h := y.reps i j (Nat.lt_of_lt_of_le hi x.len) (Nat.lt_of_lt_of_le hj x.len) (x.reps i j hi hj h)
noncomputable def ToldOk (told : List (Tree × Tree)) (hs : HS) : Prop := ∀ p ∈ told, ∃ i j, i < hs.nodes.length /\ j < hs.nodes.length /\ tm hs i = p.1 /\ tm hs j = p.2 /\ rep hs.par i = rep hs.par j
theorem ToldOk.ext {told : List (Tree × Tree)} {hs hs' : HS} (h : ToldOk told hs) (x : Ext hs hs') : ToldOk told hs' := fun p hp => by
 obtain ⟨i, j, h1, h2, h3, h4, h5⟩ := h p hp
 exact ⟨i, j, Nat.lt_of_lt_of_le h1 x.len, Nat.lt_of_lt_of_le h2 x.len, (x.tms i h1).trans h3, (x.tms j h2).trans h4, x.reps i j h1 h2 h5⟩
variable {T : List Tree} {told : List (Tree × Tree)} {X : Nat -> Prop} {loc : Loc} {hs : HS}
theorem Inv.size (I : Inv T told X loc hs) : hs.nodes.length <= T.length := by
 rw [<- I.tl]; exact List.Nodup.length_le_of_subset I.tn fun t h => I.tT t h
theorem Inv.rep_lt (I : Inv T told X loc hs) {a : Nat} (h : a < hs.nodes.length) : rep hs.par a < hs.nodes.length := Nat.lt_of_le_of_lt (rep_le I.par a) h
theorem Inv.room (I : Inv T told X loc hs) (hT : T.length <= 28) (hp : pot hs <= 10000) : Room2 loc hs := by
 have hn := I.size
 have hpn := I.pn
 unfold pot at hp
 refine ⟨I.par, by lia, I.lots, I.ulV, I.link, fun l hl => by have := I.lotz l hl; lia, fun c hc hr => ?_, I.ulink, by lia, by lia, by lia, by lia, by have := I.az; lia⟩
 obtain ⟨u, h1, _⟩ := I.uses c hc hr
 refine ⟨u, h1, ?_⟩
 have h2 := sumR_le (f := fun c => ((hs.uses c).getD []).length) hc hr
 rw [h1] at h2
 have := I.useS
 simp only [Option.getD_some] at h2
 lia
theorem Inv.more (I : Inv T told X loc hs) {told' : List (Tree × Tree)} (h : ∀ p ∈ told, p ∈ told') : Inv T told' X loc hs :=
 { I with
  K := fun sg o e => by
   obtain ⟨h1, h0, ks', h2, h3, h4⟩ := I.K sg o e
   exact ⟨h1, h0, ks', h2, h3, fun j k k' e1 e2 => (h4 j k k' e1 e2).mono h⟩
  S := fun i j hi hj e => (I.S i j hi hj e).mono h }
end
section
variable {T : List Tree} {told : List (Tree × Tree)} {X : Nat -> Prop} {loc : Loc} {hs : HS}
theorem dput_len_has {k v u : V} : ∀ {es : List (V × V)}, dget k es = some v -> (dput k u es).length = es.length
 | [], h => by rw [dget_nil] at h; cases h
 | (k0, v0) :: r, h => by
  rw [dget_cons] at h
  rw [dput_cons]
  by_cases e : k0 = k
  ·simp [e]
  ·rw [if_neg e] at h ⊢
   have := dput_len_has (u := u) h
   simp; lia
theorem Inv.join (I : Inv T told X loc hs) {a b : Nat} (ha : a < hs.nodes.length) (hb : b < hs.nodes.length) (hne : rep hs.par a ≠ rep hs.par b) (hR : Cl told T (tm hs a) (tm hs b)) (e f : V) (x : Addr) {kept gone : Nat}
  (hk : kept = min (rep hs.par a) (rep hs.par b)) (hg : gone = max (rep hs.par a) (rep hs.par b)) :
  Inv T told X (upd loc (.use kept) x) (joinS hs kept gone e f x) /\ Ext hs (joinS hs kept gone e f x) /\ rep (joinS hs kept gone e f x).par a = rep (joinS hs kept gone e f x).par b /\ roots (joinS hs kept gone e f x) + 1 = roots hs /\ ((hs.uses gone).getD []).length <= 2 * hs.nodes.length /\
  (∀ (i : Nat) (nd : Nd), hs.nodes[i]? = some nd -> i ∈ (joinS hs kept gone e f x).waiting \/ sigOf (joinS hs kept gone e f x).par nd = sigOf hs.par nd) := by
 have ra := rep_is I.par a
 have rb := rep_is I.par b
 have la := I.rep_lt ha
 have lb := I.rep_lt hb
 have pn := I.pn
 have hkg : (rep hs.par a = kept /\ rep hs.par b = gone) \/ (rep hs.par a = gone /\ rep hs.par b = kept) := by lia
 have h1 : kept < gone := by lia
 have h2 : gone < hs.par.length := by lia
 have rk : hs.par.getD kept kept = kept := by rcases hkg with h | h <;> rw [<- h.1, <- h.2] at * <;> first | exact ra | exact rb
 have rg : hs.par.getD gone gone = gone := by rcases hkg with h | h <;> rw [<- h.1, <- h.2] at * <;> first | exact rb | exact ra
 have rm := rep_merge I.par h1 h2 rk rg
 have hp' := parOk_set I.par h1 h2
 have rmk : ∀ {i j : Nat}, rep hs.par i = rep hs.par j -> rep (hs.par.set gone kept) i = rep (hs.par.set gone kept) j := fun h => by rw [rm, rm, h]
 obtain ⟨uk, uk1, uk2⟩ := I.uses kept (by lia) rk
 obtain ⟨ug, ug1, ug2⟩ := I.uses gone h2 rg
 have hU' : ∀ c, (joinS hs kept gone e f x).uses c = if c = kept then some (uk ++ ug) else if c = gone then none else hs.uses c := fun c => by
  show (if c = kept then some ((hs.uses kept).getD [] ++ (hs.uses gone).getD []) else if c = gone then none else hs.uses c) = _
  rw [uk1, ug1]; rfl
 have hW' : (joinS hs kept gone e f x).waiting = hs.waiting ++ ug := by
  show hs.waiting ++ (hs.uses gone).getD [] = _
  rw [ug1]; rfl
 have hroot : ∀ c, c < hs.par.length -> (hs.par.set gone kept).getD c c = c -> c ≠ gone /\ hs.par.getD c c = c := fun c hc h => by
  have : c ≠ gone := fun q => by subst q; rw [getD_set_self h2] at h; lia
  exact ⟨this, by rw [getD_set_ne (fun q => this q.symm)] at h; exact h⟩
 have sU := sumR_merge (f := fun c => ((hs.uses c).getD []).length) (f' := fun c => (((joinS hs kept gone e f x).uses c).getD []).length) h1 h2 rk rg fun i _ n1 n2 => by
  rw [hU', if_neg n1, if_neg n2]
 rw [hU', if_pos rfl, uk1, ug1] at sU
 simp only [Option.getD_some, List.length_append] at sU
 have hUS := I.useS
 have sL := sumR_merge (f := fun i => (hs.lots.getD i []).length) (f' := fun i => ((joinS hs kept gone e f x).lots.getD i []).length) h1 h2 rk rg fun i _ n1 n2 => by
  show _ = ((hs.lots.set kept _).getD i []).length
  rw [List.getD_eq_getElem?_getD, List.getD_eq_getElem?_getD, List.getElem?_set_ne (fun q => n1 q.symm)]
 have lk : (joinS hs kept gone e f x).lots.getD kept [] = hs.lots.getD kept [] ++ hs.lots.getD gone [] := by
  show (hs.lots.set kept _).getD kept [] = _
  rw [List.getD_eq_getElem?_getD, List.getElem?_set_self (by rw [I.lots]; lia)]; rfl
 rw [lk, List.length_append] at sL
 have hLS := I.lotS
 have zug : ug.length <= 2 * hs.nodes.length := by
  have := sumR_le (f := fun c => ((hs.uses c).getD []).length) h2 rg
  rw [ug1] at this
  simp only [Option.getD_some] at this
  lia
 have hS' : ∀ i j, i < hs.nodes.length -> j < hs.nodes.length -> rep (hs.par.set gone kept) i = rep (hs.par.set gone kept) j -> Cl told T (tm hs i) (tm hs j) := by
  intro i j hi hj h
  rw [rm, rm] at h
  by_cases e1 : rep hs.par i = rep hs.par j
  ·exact I.S i j hi hj e1
  ·have cab : ∀ p q, p < hs.nodes.length -> q < hs.nodes.length -> rep hs.par p = kept -> rep hs.par q = gone -> Cl told T (tm hs p) (tm hs q) := fun p q hp hq e1 e2 => by
    rcases hkg with ⟨h3, h4⟩ | ⟨h3, h4⟩
    ·exact (I.S p a hp ha (by lia)).trans (hR.trans (I.S b q hb hq (by lia)))
    ·exact (I.S p b hp hb (by lia)).trans (hR.symm.trans (I.S a q ha hq (by lia)))
   by_cases e2 : rep hs.par i = gone
   ·rw [if_pos e2] at h
    rw [if_neg (by lia)] at h
    exact (cab j i hj hi h.symm e2).symm
   ·rw [if_neg e2] at h
    by_cases e3 : rep hs.par j = gone
    ·rw [if_pos e3] at h
     exact cab i j hi hj h e3
    ·rw [if_neg e3] at h
     exact absurd h e1
 have hsig : ∀ (i : Nat) (nd : Nd), hs.nodes[i]? = some nd -> i ∈ (joinS hs kept gone e f x).waiting \/ sigOf (joinS hs kept gone e f x).par nd = sigOf hs.par nd := by
  intro i nd hi
  rw [hW']
  by_cases q : ∃ k ∈ nd.2, rep hs.par k = gone
  ·obtain ⟨k, q1, q2⟩ := q
   obtain ⟨u, h5, h6⟩ := I.U i nd k hi q1
   rw [q2, ug1] at h5
   cases h5
   exact .inl (List.mem_append_right _ h6)
  ·right
   unfold sigOf
   refine Prod.ext rfl (List.map_congr_left fun k hk => ?_)
   show rep (hs.par.set gone kept) k = _
   rw [rm, if_neg (fun e => q ⟨k, hk, e⟩)]
 refine ⟨{
      par := hp', pn := by show (hs.par.set _ _).length = _; rw [List.length_set]; exact pn, lots := by show (hs.lots.set _ _).length = (hs.par.set _ _).length; rw [List.length_set, List.length_set]; exact I.lots,
      ulV := by show hs.ulV.length = (hs.par.set _ _).length; rw [List.length_set]; exact I.ulV
      link := fun i hi => I.link i (by have : i < (hs.par.set gone kept).length := hi; rw [List.length_set] at this; exact this)
      lotz := fun l hl => ?_, lotS := ?_, uses := fun c hc hr => ?_, ulink := fun c hc hr => ?_, useS := ?_, az := ?_, tl := I.tl, wl := I.wl, dl := I.dl, tn := I.tn, tT := I.tT, node := I.node, numD := I.numD, num := I.num, numz := I.numz, knD := I.knD
      wait := fun i hi => ?_, U := fun i nd k hi hk' => ?_, C := fun i nd hi hX => ?_, K := I.K, S := hS' }, ⟨Nat.le_refl _, fun _ _ h => h, fun _ _ => rfl, fun i j _ _ h => rmk h⟩, ?_, ?_, by rw [ug1]; exact zug, hsig⟩
 ·have hl' : l ∈ hs.lots.set kept (hs.lots.getD kept [] ++ hs.lots.getD gone []) := hl
  rcases List.mem_or_eq_of_mem_set hl' with h | h
  ·exact I.lotz l h
  ·subst h
   have := sumR_le (par := hs.par.set gone kept) (f := fun i => ((joinS hs kept gone e f x).lots.getD i []).length) (c := kept) (by rw [List.length_set]; lia) (by rw [getD_set_ne (by lia)]; exact rk)
   rw [lk, List.length_append] at this
   show (hs.lots.getD kept [] ++ hs.lots.getD gone []).length <= hs.nodes.length
   rw [List.length_append]; lia
 ·show sumR (hs.par.set gone kept) _ <= hs.nodes.length
  lia
 ·have hc' : c < hs.par.length := by have : c < (hs.par.set gone kept).length := hc; rw [List.length_set] at this; exact this
  obtain ⟨n1, n2⟩ := hroot c hc' hr
  rw [hU']
  by_cases q : c = kept
  ·rw [if_pos q]
   refine ⟨_, rfl, fun i hi => ?_⟩
   rcases List.mem_append.mp hi with h | h
   ·exact uk2 i h
   ·exact ug2 i h
  ·rw [if_neg q, if_neg n1]; exact I.uses c hc' n2
 ·have hc' : c < hs.par.length := by have : c < (hs.par.set gone kept).length := hc; rw [List.length_set] at this; exact this
  obtain ⟨n1, n2⟩ := hroot c hc' hr
  show dget (natV c) (dput (natV kept) (.ref x) (ddel (natV gone) hs.abV)) = _
  rw [dget_dput]
  by_cases q : c = kept
  ·subst q; rw [if_pos rfl]
   show _ = some (V.ref (if Lab.use c = Lab.use c then x else _))
   rw [if_pos rfl]
  ·rw [if_neg (fun e => q (natV_inj e).symm), dget_ddel (fun e => n1 (natV_inj e).symm), I.ulink c hc' n2]
   show _ = some (V.ref (if Lab.use c = Lab.use kept then x else _))
   rw [if_neg (fun e => q (by injection e))]
 ·show sumR (hs.par.set gone kept) _ <= 2 * hs.nodes.length
  lia
 ·show (dput (natV kept) (.ref x) (ddel (natV gone) hs.abV)).length <= hs.nodes.length
  have l1 := I.ulink gone h2 rg
  have l2 := I.ulink kept (by lia) rk
  rw [dput_len_has (v := .ref (loc (.use kept))) (by rw [dget_ddel (fun e => by have := natV_inj e; lia)]; exact l2)]
  have := ddel_len (natV gone) hs.abV
  have := I.az
  lia
 ·rw [hW'] at hi
  rcases List.mem_append.mp hi with h | h
  ·exact I.wait i h
  ·exact ug2 i h
 ·obtain ⟨u, h3, h4⟩ := I.U i nd k hi hk'
  show ∃ u, (joinS hs kept gone e f x).uses (rep (hs.par.set gone kept) k) = some u /\ i ∈ u
  rw [hU', rm]
  by_cases q : rep hs.par k = gone
  ·rw [if_pos q, if_pos rfl]
   rw [q, ug1] at h3
   cases h3
   exact ⟨_, rfl, List.mem_append_right _ h4⟩
  ·rw [if_neg q]
   by_cases q2 : rep hs.par k = kept
   ·rw [if_pos q2]
    rw [q2, uk1] at h3
    cases h3
    exact ⟨_, rfl, List.mem_append_left _ h4⟩
   ·rw [if_neg q2, if_neg q]
    exact ⟨u, h3, h4⟩
 ·rcases I.C i nd hi hX with h | ⟨o, h3, h4⟩
  ·rw [hW']; exact .inl (List.mem_append_left _ h)
  ·rcases hsig i nd hi with h | h
   ·exact .inl h
   ·exact .inr ⟨o, by rw [h]; exact h3, rmk h4⟩
 ·show rep (hs.par.set gone kept) a = rep (hs.par.set gone kept) b
  rw [rm, rm]
  rcases hkg with ⟨h3, h4⟩ | ⟨h3, h4⟩
  ·rw [h3, h4, if_neg (by lia), if_pos rfl]
  ·rw [h3, h4, if_pos rfl, if_neg (by lia)]
 ·have := sumR_merge (f := fun _ => 1) (f' := fun _ => 1) h1 h2 rk rg fun _ _ _ _ => rfl
  show sumR (hs.par.set gone kept) _ + 1 = sumR hs.par _
  lia
end
section
section
variable {T : List Tree} {told : List (Tree × Tree)} {X : Nat -> Prop} {loc : Loc} {hs : HS}
noncomputable def mu (hs : HS) : Nat := hs.waiting.length + 57 * roots hs
theorem lt_of_get {α : Type} {l : List α} {i : Nat} {a : α} (h : l[i]? = some a) : i < l.length := by
 obtain ⟨h1, _⟩ := List.getElem?_eq_some_iff.mp h; exact h1
theorem Inv.mem (I : Inv T told X loc hs) {i : Nat} (h : i < hs.nodes.length) : tm hs i ∈ T := by
 refine I.tT _ ?_
 unfold tm
 rw [List.getD_eq_getElem?_getD, List.getElem?_eq_getElem (by rw [I.tl]; exact h)]
 exact List.getElem_mem _
theorem Inv.weak (I : Inv T told X loc hs) {X' : Nat -> Prop} (h : ∀ i, X i -> X' i) : Inv T told X' loc hs :=
 { I with C := fun i nd hi hx => I.C i nd hi fun q => hx (h i q) }
theorem Inv.pop (I : Inv T told X loc hs) {w : List Nat} {i : Nat} (hw : hs.waiting = w ++ [i]) : Inv T told (fun j => X j \/ j = i) loc { hs with waiting := w } :=
 { I with
  wait := fun j hj => I.wait j (by rw [hw]; exact List.mem_append_left _ hj)
  C := fun j nd hj hx => by
   rcases I.C j nd hj (fun q => hx (.inl q)) with h | h
   ·rw [hw] at h
    rcases List.mem_append.mp h with h | h
    ·exact .inl h
    ·exact absurd (.inr (List.mem_singleton.mp h)) hx
   ·exact .inr h }
noncomputable def knownS (hs : HS) (sg : Nd) (i : Nat) : HS := { hs with kn := fun x => if x = sg then some i else hs.kn x, knV := dput (nodeV sg) (natV i) hs.knV }
theorem Inv.known (I : Inv T told X loc hs) {i : Nat} {nd : Nd} (hi : hs.nodes[i]? = some nd) (hn : hs.kn (sigOf hs.par nd) = none) : Inv T told (fun j => X j /\ j ≠ i) loc (knownS hs (sigOf hs.par nd) i) :=
 { I with
  knD := I.knD.put _ _
  C := fun j nd' hj hx => by
   show _ \/ ∃ o, (if sigOf hs.par nd' = sigOf hs.par nd then some i else hs.kn (sigOf hs.par nd')) = some o /\ rep hs.par o = rep hs.par j
   by_cases e : j = i
   ·subst e
    have : nd' = nd := by have hj' : hs.nodes[j]? = some nd' := hj; rw [hi] at hj'; injection hj' with hj'; exact hj'.symm
    subst this
    rw [if_pos rfl]
    exact .inr ⟨j, rfl, rfl⟩
   ·rcases I.C j nd' hj (fun q => hx ⟨q, e⟩) with h | ⟨o, h1, h2⟩
    ·exact .inl h
    ·refine .inr ⟨o, ?_, h2⟩
     rw [if_neg (fun q => by rw [q, hn] at h1; cases h1)]; exact h1
  K := fun sg o ho => by
   have ho' : (if sg = sigOf hs.par nd then some i else hs.kn sg) = some o := ho
   by_cases e : sg = sigOf hs.par nd
   ·rw [if_pos e] at ho'
    cases ho'
    subst e
    obtain ⟨h1, h2, _⟩ := I.node i nd hi
    have hin := lt_of_get hi
    refine ⟨hin, fun k hk => ?_, nd.2, hi, by unfold sigOf; rw [List.length_map], fun j k k' e1 e2 => ?_⟩
    ·obtain ⟨k', hk', rfl⟩ := List.mem_map.mp hk
     exact I.rep_lt (by have := h2 k' hk'; lia)
    ·unfold sigOf at e1
     rw [List.getElem?_map, e2] at e1
     cases e1
     have hk := h2 k' (List.mem_of_getElem? e2)
     have := I.rep_lt (a := k') (by lia)
     exact I.S _ _ this (by lia) (rep_rep I.par k')
   ·rw [if_neg e] at ho'
    exact I.K sg o ho' }
theorem Inv.alike (I : Inv T told X loc hs) {i o : Nat} {nd : Nd} (hi : hs.nodes[i]? = some nd) (ho : hs.kn (sigOf hs.par nd) = some o) : o < hs.nodes.length /\ Cl told T (tm hs o) (tm hs i) := by
 obtain ⟨h1, -, ks', h2, h3, h4⟩ := I.K _ o ho
 refine ⟨h1, ?_⟩
 obtain ⟨-, k1, ts, t1, t2, t3⟩ := I.node i nd hi
 obtain ⟨-, k2, us, u1, u2, u3⟩ := I.node o _ h2
 have hin := lt_of_get hi
 have m1 := I.mem hin
 have m2 := I.mem h1
 unfold sigOf at h2 h3 h4 u1 u2 u3
 simp only [List.length_map] at h3 u2
 rw [t1] at m1 ⊢
 rw [u1] at m2 ⊢
 refine .cong m2 m1 (by lia) fun j t u e1 e2 => ?_
 have hj := lt_of_get e1
 have g1 : ks'[j]? = some ks'[j] := List.getElem?_eq_getElem (by lia)
 have g2 : nd.2[j]? = some (nd.2[j]'(by lia)) := List.getElem?_eq_getElem (by lia)
 have f1 := u3 j _ g1
 have f2 := t3 j _ g2
 rw [e1] at f1
 rw [e2] at f2
 cases f1
 cases f2
 have f3 := h4 j (rep hs.par (nd.2[j]'(by lia))) _ (by rw [List.getElem?_map, g2]; rfl) g1
 have hk := k1 _ (List.mem_of_getElem? g2)
 have hr := I.rep_lt (a := nd.2[j]'(by lia)) (by lia)
 exact f3.symm.trans (I.S _ _ hr (by lia) (rep_rep I.par _))
end
end
section
theorem sumN_add {g h : Nat -> Nat} : ∀ {n : Nat}, sumN n (fun i => g i + h i) = sumN n g + sumN n h
 | 0 => rfl
 | n + 1 => by rw [sumN, sumN, sumN, sumN_add]; lia
theorem sumN_mono {g h : Nat -> Nat} : ∀ {n : Nat}, (∀ i, i < n -> g i <= h i) -> sumN n g <= sumN n h
 | 0, _ => Nat.le_refl _
 | n + 1, e => by
  rw [sumN, sumN]
  have := sumN_mono (g := g) (h := h) (n := n) fun i hi => e i (by lia)
  have := e n (by lia)
  lia
theorem sumN_zero : ∀ {n : Nat}, sumN n (fun _ => 0) = 0
 | 0 => rfl
 | n + 1 => by rw [sumN, sumN_zero]
theorem sumN_one (c : Nat) : ∀ {n : Nat}, sumN n (fun i => if i = c then 1 else 0) <= 1
 | 0 => Nat.zero_le _
 | n + 1 => by
  rw [sumN]
  by_cases e : n = c
  ·subst e
   rw [sumN_congr (g := fun i => if i = n then 1 else 0) (g' := fun _ => 0) fun i hi => if_neg (by lia), sumN_zero, if_pos rfl]; lia
  ·rw [if_neg e]; exact sumN_one c
theorem sumN_mem {n : Nat} : ∀ cs : List Nat, sumN n (fun i => if i ∈ cs then 1 else 0) <= cs.length
 | [] => by rw [sumN_congr (g' := fun _ => 0) fun i _ => if_neg (by simp), sumN_zero]; simp
 | c :: cs => by
  have h1 := sumN_mem (n := n) cs
  have h2 := sumN_one c (n := n)
  have h3 : sumN n (fun i => if i ∈ c :: cs then 1 else 0) <= sumN n (fun i => (if i = c then 1 else 0) + (if i ∈ cs then 1 else 0)) := sumN_mono fun i _ => by
   by_cases e1 : i = c
   ·subst e1; simp
   ·by_cases e2 : i ∈ cs <;> simp [e1, e2]
  rw [sumN_add] at h3
  simp only [List.length_cons]; lia
theorem sumR_snoc (par : List Nat) (f : Nat -> Nat) : sumR (par ++ [par.length]) f = sumR par f + f par.length := by
 unfold sumR
 rw [List.length_append, List.length_singleton, sumN]
 have e : (par ++ [par.length]).getD par.length par.length = par.length := by rw [<- getD_snoc]; rw [List.getD_eq_getElem?_getD, List.getElem?_eq_none (Nat.le_refl _)]; rfl
 rw [if_pos e]
 congr 1
 exact sumN_congr fun i _ => by rw [<- getD_snoc]
theorem getD_len (par : List Nat) : par.getD par.length par.length = par.length := by rw [List.getD_eq_getElem?_getD, List.getElem?_eq_none (Nat.le_refl _)]; rfl
variable {T : List Tree} {told : List (Tree × Tree)} {X : Nat -> Prop} {loc : Loc} {hs : HS}
theorem Inv.tm_inj (I : Inv T told X loc hs) {i j : Nat} (hi : i < hs.nodes.length) (hj : j < hs.nodes.length) (h : tm hs i = tm hs j) : i = j := by
 unfold tm at h
 rw [<- I.tl] at hi hj
 rw [List.getD_eq_getElem?_getD, List.getD_eq_getElem?_getD, List.getElem?_eq_getElem hi, List.getElem?_eq_getElem hj] at h
 exact (List.getElem_inj I.tn).mp h
theorem Inv.tm_mem (I : Inv T told X loc hs) {t : Tree} : t ∈ hs.terms ↔ ∃ i, i < hs.nodes.length /\ tm hs i = t := by
 constructor
 ·intro h
  obtain ⟨i, hi, rfl⟩ := List.getElem_of_mem h
  refine ⟨i, by rw [<- I.tl]; exact hi, ?_⟩
  unfold tm
  rw [List.getD_eq_getElem?_getD, List.getElem?_eq_getElem hi]; rfl
 ·rintro ⟨i, hi, rfl⟩
  unfold tm
  rw [List.getD_eq_getElem?_getD, List.getElem?_eq_getElem (by rw [I.tl]; exact hi)]
  exact List.getElem_mem _
theorem Inv.num_old (I : Inv T told X loc hs) {nd : Nd} {ts : List Tree} (hk : kidsOk hs nd ts) (hl : ∀ k ∈ nd.2, k < hs.nodes.length) :
  (∀ i, hs.num nd = some i -> i < hs.nodes.length /\ tm hs i = .node nd.1 ts) /\ (hs.num nd = none -> Tree.node nd.1 ts ∉ hs.terms) := by
 constructor
 ·intro i hi
  have hn := (I.num nd i).mp hi
  obtain ⟨-, -, us, h1, h2, h3⟩ := I.node i nd hn
  refine ⟨lt_of_get hn, ?_⟩
  rw [h1]
  congr 1
  obtain ⟨k1, k2⟩ := hk
  refine List.ext_getElem? fun j => ?_
  by_cases hj : j < nd.2.length
  ·have g := List.getElem?_eq_getElem hj
   rw [h3 j _ g, k2 j _ g]
  ·rw [List.getElem?_eq_none (by lia), List.getElem?_eq_none (by lia)]
 ·intro hn hm
  obtain ⟨i, hi, h0⟩ := I.tm_mem.mp hm
  have hg := List.getElem?_eq_getElem hi
  obtain ⟨-, hlt, us, h1, h2, h3⟩ := I.node i _ hg
  rw [h1] at h0
  injection h0 with h4 h5
  subst h5
  obtain ⟨k1, k2⟩ := hk
  have : hs.nodes[i] = nd := by
   refine Prod.ext h4 (List.ext_getElem? fun j => ?_)
   by_cases hj : j < nd.2.length
   ·have g := List.getElem?_eq_getElem hj
    have g' : hs.nodes[i].2[j]? = some (hs.nodes[i].2[j]'(by lia)) := List.getElem?_eq_getElem (by lia)
    have e1 := k2 j _ g
    have e2 := h3 j _ g'
    rw [e1] at e2
    injection e2 with e2
    rw [g, g', I.tm_inj (hl _ (List.getElem_mem _)) (by have := hlt _ (List.mem_of_getElem? g'); lia) e2]
   ·rw [List.getElem?_eq_none (by lia), List.getElem?_eq_none (by lia)]
  rw [this] at hg
  rw [(I.num nd i).mpr hg] at hn
  cases hn
noncomputable def growS (hs : HS) (nd : Nd) (t : Tree) (w d : Int) (a x : Addr) (cs : List Nat) : HS :=
 { makeS (takeS hs nd t w d) a with
  uses := fun c => if c ∈ cs then (hs.uses c).map (· ++ [hs.par.length]) else if c = hs.par.length then some [] else hs.uses c,
  abV := dput (natV hs.par.length) (.ref x) hs.abV }
theorem tm_snoc {hs hs' : HS} {t : Tree} (h : hs'.terms = hs.terms ++ [t]) {i : Nat} (hi : i < hs.terms.length) : tm hs' i = tm hs i := by
 unfold tm
 rw [h, List.getD_eq_getElem?_getD, List.getD_eq_getElem?_getD, List.getElem?_append_left hi]
theorem tm_last {hs hs' : HS} {t : Tree} (h : hs'.terms = hs.terms ++ [t]) {i : Nat} (hi : i = hs.terms.length) : tm hs' i = t := by
 unfold tm
 subst hi
 rw [h, List.getD_eq_getElem?_getD, List.getElem?_append_right (Nat.le_refl _), Nat.sub_self]; rfl
theorem get_snoc {α : Type} {l : List α} {x y : α} {i : Nat} : (l ++ [x])[i]? = some y ↔ l[i]? = some y \/ (i = l.length /\ x = y) := by
 by_cases h : i < l.length
 ·rw [List.getElem?_append_left h]
  exact ⟨.inl, fun e => e.elim id fun e => absurd e.1 (by lia)⟩
 ·rw [List.getElem?_eq_none (l := l) (by lia)]
  by_cases e : i = l.length
  ·subst e
   rw [List.getElem?_append_right (Nat.le_refl _), Nat.sub_self]
   simp
  ·rw [List.getElem?_eq_none (by simp; lia)]
   simp [e]
theorem Inv.grow (I : Inv T told (fun _ => False) loc hs) {nd : Nd} {ts : List Tree} (hT : Tree.node nd.1 ts ∈ T) (hk : kidsOk hs nd ts) (hl : ∀ k ∈ nd.2, k < hs.nodes.length) (h2 : nd.2.length <= 2) (hn : hs.num nd = none)
  {cs : List Nat} (c1 : ∀ k ∈ nd.2, rep hs.par k ∈ cs) (c2 : ∀ c ∈ cs, ∃ k ∈ nd.2, c = rep hs.par k) (c3 : cs.length <= 2) (w d : Int) (a x : Addr) :
  Inv T told (· = hs.nodes.length) (upd (upd loc (.lot hs.par.length) a) (.use hs.par.length) x) (growS hs nd (.node nd.1 ts) w d a x cs) /\ Ext hs (growS hs nd (.node nd.1 ts) w d a x cs) /\
   pot (growS hs nd (.node nd.1 ts) w d a x cs) = pot hs + 60 /\ tm (growS hs nd (.node nd.1 ts) w d a x cs) hs.nodes.length = .node nd.1 ts := by
 have pn := I.pn
 have tl := I.tl
 have nf := (I.num_old hk hl).2 hn
 have eN : (growS hs nd (.node nd.1 ts) w d a x cs).nodes = hs.nodes ++ [nd] := rfl
 have eP : (growS hs nd (.node nd.1 ts) w d a x cs).par = hs.par ++ [hs.par.length] := rfl
 have eT : (growS hs nd (.node nd.1 ts) w d a x cs).terms = hs.terms ++ [.node nd.1 ts] := rfl
 have eL : (growS hs nd (.node nd.1 ts) w d a x cs).lots = hs.lots ++ [[natV hs.lots.length]] := rfl
 have eU : ∀ c, (growS hs nd (.node nd.1 ts) w d a x cs).uses c = if c ∈ cs then (hs.uses c).map (· ++ [hs.par.length]) else if c = hs.par.length then some [] else hs.uses c := fun _ => rfl
 have eA : (growS hs nd (.node nd.1 ts) w d a x cs).abV = dput (natV hs.par.length) (.ref x) hs.abV := rfl
 have eK : (growS hs nd (.node nd.1 ts) w d a x cs).kn = hs.kn := rfl
 have eW : (growS hs nd (.node nd.1 ts) w d a x cs).waiting = hs.waiting := rfl
 have eV : (growS hs nd (.node nd.1 ts) w d a x cs).ulV = hs.ulV ++ [.ref a] := rfl
 have eM : ∀ nd', (growS hs nd (.node nd.1 ts) w d a x cs).num nd' = if nd' = nd then some hs.nodes.length else hs.num nd' := fun _ => rfl
 have eMV : (growS hs nd (.node nd.1 ts) w d a x cs).numV = dput (nodeV nd) (natV hs.nodes.length) hs.numV := rfl
 have epot : pot (growS hs nd (.node nd.1 ts) w d a x cs) = pot hs + 60 := by
  show hs.knV.length + hs.waiting.length + hs.edges.length + hs.forest.length + hs.merged.length + 60 * sumR (hs.par ++ [hs.par.length]) (fun _ => 1) = _
  rw [sumR_snoc]
  unfold pot roots
  lia
 have hcs : ∀ c ∈ cs, c < hs.par.length /\ hs.par.getD c c = c := fun c hc => by
  obtain ⟨k, hk1, rfl⟩ := c2 c hc
  exact ⟨by have := I.rep_lt (hl k hk1); lia, rep_is I.par k⟩
 have tms : ∀ i, i < hs.nodes.length -> tm (growS hs nd (.node nd.1 ts) w d a x cs) i = tm hs i := fun i hi => tm_snoc eT (by lia)
 have ewl : (growS hs nd (.node nd.1 ts) w d a x cs).wts.length = (growS hs nd (.node nd.1 ts) w d a x cs).nodes.length := by
  show (hs.wts ++ [w]).length = (hs.nodes ++ [nd]).length
  rw [List.length_append, List.length_append, I.wl]; rfl
 have edl : (growS hs nd (.node nd.1 ts) w d a x cs).dps.length = (growS hs nd (.node nd.1 ts) w d a x cs).nodes.length := by
  show (hs.dps ++ [d]).length = (hs.nodes ++ [nd]).length
  rw [List.length_append, List.length_append, I.dl]; rfl
 have eKD : DN (growS hs nd (.node nd.1 ts) w d a x cs).knV (growS hs nd (.node nd.1 ts) w d a x cs).kn := I.knD
 have tml : tm (growS hs nd (.node nd.1 ts) w d a x cs) hs.nodes.length = .node nd.1 ts := tm_last eT tl.symm
 generalize growS hs nd (.node nd.1 ts) w d a x cs = g at *
 have gl : g.nodes.length = hs.nodes.length + 1 := by rw [eN, List.length_append]; rfl
 have gp : g.par.length = hs.par.length + 1 := by rw [eP, List.length_append]; rfl
 have gr : ∀ c, rep g.par c = rep hs.par c := fun c => by rw [eP]; exact rep_snoc _ _
 have gd : ∀ c, g.par.getD c c = hs.par.getD c c := fun c => by rw [eP]; exact (getD_snoc _ _).symm
 have gs : ∀ nd', sigOf g.par nd' = sigOf hs.par nd' := fun nd' => Prod.ext rfl (List.map_congr_left fun k _ => gr k)
 refine ⟨{
      par := by rw [eP]; exact parOk_snoc I.par, pn := by lia, lots := by rw [eL, gp, List.length_append, I.lots]; rfl, ulV := by rw [eV, gp, List.length_append, I.ulV]; rfl, link := fun i hi => ?_,
      lotz := fun l h => ?_, lotS := ?_, uses := fun c hc hr => ?_, ulink := fun c hc hr => ?_, useS := ?_, az := ?_, tl := by rw [eT, gl, List.length_append, tl]; rfl, wl := ewl, dl := edl, tn := ?_, tT := fun t h => ?_,
      node := fun i nd' hi => ?_, numD := ?_, num := fun nd' i => ?_, numz := ?_, knD := eKD, wait := fun i hi => ?_, U := fun i nd' k hi hk' => ?_, C := fun i nd' hi hx => ?_, K := fun sg o ho => ?_, S := fun i j hi hj h => ?_ },
     ⟨by lia, fun i nd' h => by rw [eN]; exact get_snoc.mpr (.inl h), tms, fun i j _ _ h => by rw [gr, gr]; exact h⟩, epot, tml⟩
 ·rw [eV]
  by_cases e : i < hs.par.length
  ·rw [List.getElem?_append_left (by rw [I.ulV]; exact e), I.link i e]
   show _ = some (V.ref (if Lab.lot i = Lab.use _ then x else if Lab.lot i = Lab.lot _ then a else loc (.lot i)))
   rw [if_neg (fun h => nomatch h), if_neg (fun h => by injection h; lia)]
  ·have : i = hs.par.length := by lia
   subst this
   rw [<- I.ulV, List.getElem?_append_right (Nat.le_refl _), Nat.sub_self, I.ulV]
   show _ = some (V.ref (if Lab.lot _ = Lab.use _ then x else if Lab.lot _ = Lab.lot _ then a else loc (.lot _)))
   rw [if_neg (fun h => nomatch h), if_pos rfl]; rfl
 ·rw [eL] at h
  rcases List.mem_append.mp h with h | h
  ·have := I.lotz l h; lia
  ·rw [List.mem_singleton.mp h]; simp only [List.length_singleton]; lia
 ·rw [eP, sumR_snoc, eL]
  have e1 : sumR hs.par (fun i => ((hs.lots ++ [[natV hs.lots.length]]).getD i []).length) = sumR hs.par (fun i => (hs.lots.getD i []).length) := by
   refine sumN_congr fun i hi => ?_
   dsimp only
   rw [List.getD_eq_getElem?_getD (l := hs.lots ++ _), List.getElem?_append_left (by rw [I.lots]; exact hi), <- List.getD_eq_getElem?_getD]
  have e2 : ((hs.lots ++ [[natV hs.lots.length]]).getD hs.par.length []).length = 1 := by
   rw [List.getD_eq_getElem?_getD, <- I.lots, List.getElem?_append_right (Nat.le_refl _), Nat.sub_self]; rfl
  have := I.lotS
  rw [e1, e2, gl]; lia
 ·rw [eU]
  rw [gp] at hc
  rw [gd] at hr
  by_cases e1 : c ∈ cs
  ·obtain ⟨k, hk1, rfl⟩ := c2 c e1
   obtain ⟨h3, h4⟩ := hcs _ e1
   obtain ⟨u, h5, h6⟩ := I.uses _ h3 h4
   rw [if_pos e1, h5]
   refine ⟨_, rfl, fun i hi => ?_⟩
   rcases List.mem_append.mp hi with h | h
   ·have := h6 i h; lia
   ·rw [List.mem_singleton.mp h]; lia
  ·rw [if_neg e1]
   by_cases e2 : c = hs.par.length
   ·rw [if_pos e2]; exact ⟨[], rfl, fun i hi => nomatch hi⟩
   ·rw [if_neg e2]
    obtain ⟨u, h5, h6⟩ := I.uses c (by lia) hr
    exact ⟨u, h5, fun i hi => by have := h6 i hi; lia⟩
 ·rw [eA, dget_dput]
  rw [gp] at hc
  rw [gd] at hr
  by_cases e2 : c = hs.par.length
  ·subst e2
   rw [if_pos rfl]
   show _ = some (V.ref (if Lab.use _ = Lab.use _ then x else _))
   rw [if_pos rfl]
  ·rw [if_neg (fun h => e2 (natV_inj h).symm), I.ulink c (by lia) hr]
   show _ = some (V.ref (if Lab.use c = Lab.use _ then x else if Lab.use c = Lab.lot _ then a else loc (.use c)))
   rw [if_neg (fun h => by injection h; lia), if_neg (fun h => nomatch h)]
 ·rw [eP, sumR_snoc]
  have e1 : sumR hs.par (fun c => ((g.uses c).getD []).length) <= sumR hs.par (fun c => ((hs.uses c).getD []).length) + cs.length := by
   refine Nat.le_trans ?_ (Nat.add_le_add_left (sumN_mem (n := hs.par.length) cs) _)
   unfold sumR
   rw [<- sumN_add]
   refine sumN_mono fun c hc => ?_
   dsimp only
   rw [eU]
   by_cases e2 : hs.par.getD c c = c
   ·rw [if_pos e2, if_pos e2]
    by_cases e3 : c ∈ cs
    ·rw [if_pos e3, if_pos e3]
     cases hs.uses c with
     | none => simp
     | some u => simp
    ·rw [if_neg e3, if_neg e3, if_neg (by lia)]; exact Nat.le_add_right _ _
   ·rw [if_neg e2, if_neg e2]; lia
  have e2 : ((g.uses hs.par.length).getD []).length = 0 := by
   rw [eU, if_neg (fun h => by have := (hcs _ h).1; lia), if_pos rfl]; rfl
  have := I.useS
  rw [e2, gl]; lia
 ·rw [eA, gl]
  have := @dput_len (natV hs.par.length) (.ref x) hs.abV
  have := I.az
  lia
 ·rw [eT, List.nodup_append]
  refine ⟨I.tn, by simp, fun p hp q hq => ?_⟩
  rw [List.mem_singleton.mp hq]
  exact fun e => nf (e ▸ hp)
 ·rw [eT] at h
  rcases List.mem_append.mp h with h | h
  ·exact I.tT t h
  ·rw [List.mem_singleton.mp h]; exact hT
 ·rw [eN] at hi
  rcases get_snoc.mp hi with h | ⟨h, h'⟩
  ·obtain ⟨h3, h4, us, h5, h6, h7⟩ := I.node i nd' h
   have hi' := lt_of_get h
   exact ⟨h3, h4, us, by rw [tms i hi']; exact h5, h6, fun j k e => by rw [tms k (by have := h4 k (List.mem_of_getElem? e); lia)]; exact h7 j k e⟩
  ·subst h
   subst h'
   exact ⟨h2, hl, ts, tml, hk.1, fun j k e => by rw [tms k (hl k (List.mem_of_getElem? e))]; exact hk.2 j k e⟩
 ·rw [eMV]
  have := I.numD.put nd hs.nodes.length
  intro nd'
  rw [eM]
  exact this nd'
 ·rw [eM, eN]
  by_cases e : nd' = nd
  ·subst e
   rw [if_pos rfl, get_snoc]
   constructor
   ·intro h; injection h with h; exact .inr ⟨h.symm, rfl⟩
   ·rintro (h | ⟨h, _⟩)
    ·have := (I.num nd' i).mpr h; rw [hn] at this; cases this
    ·rw [h]
  ·rw [if_neg e, get_snoc, I.num]
   exact ⟨.inl, fun h => h.elim id fun h => absurd h.2.symm e⟩
 ·rw [eMV, gl]
  have := @dput_len (nodeV nd) (natV hs.nodes.length) hs.numV
  have := I.numz
  lia
 ·rw [eW] at hi
  have := I.wait i hi; lia
 ·rw [eN] at hi
  rw [gr, eU]
  rcases get_snoc.mp hi with h | ⟨h, h'⟩
  ·obtain ⟨u, h3, h4⟩ := I.U i nd' k h hk'
   have hlt := (I.node i nd' h).2.1 k hk'
   have hi' := lt_of_get h
   have hr := I.rep_lt (a := k) (by lia)
   by_cases e : rep hs.par k ∈ cs
   ·rw [if_pos e, h3]; exact ⟨_, rfl, List.mem_append_left _ h4⟩
   ·rw [if_neg e, if_neg (by lia)]; exact ⟨u, h3, h4⟩
  ·subst h
   subst h'
   have e := c1 k hk'
   obtain ⟨h3, h4⟩ := hcs _ e
   obtain ⟨u, h5, h6⟩ := I.uses _ h3 h4
   rw [if_pos e, h5]
   exact ⟨_, rfl, List.mem_append_right _ (by rw [pn]; simp)⟩
 ·rw [eN] at hi
  rw [gs, eK, eW, gr]
  rcases get_snoc.mp hi with h | ⟨h, h'⟩
  ·rcases I.C i nd' h id with h3 | ⟨o, h3, h4⟩
   ·exact .inl h3
   ·exact .inr ⟨o, h3, by rw [gr]; exact h4⟩
  ·exact absurd h hx
 ·rw [eK] at ho
  obtain ⟨h1, h0, ks', h2', h3, h4⟩ := I.K sg o ho
  have hlt := (I.node o _ h2').2.1
  refine ⟨by lia, fun k hk => by have := h0 k hk; lia, ks', by rw [eN]; exact get_snoc.mpr (.inl h2'), h3, fun j k k' e1 e2 => ?_⟩
  rw [tms k (h0 k (List.mem_of_getElem? e1)), tms k' (by have := hlt k' (List.mem_of_getElem? e2); lia)]
  exact h4 j k k' e1 e2
 ·rw [gr, gr] at h
  rw [gl] at hi hj
  have rl : rep hs.par hs.nodes.length = hs.nodes.length := by rw [<- pn]; exact rep_root (getD_len _)
  by_cases e1 : i = hs.nodes.length
  ·by_cases e2 : j = hs.nodes.length
   ·rw [e1, e2]; exact .refl _
   ·rw [e1, rl] at h
    have := I.rep_lt (a := j) (by lia)
    lia
  ·by_cases e2 : j = hs.nodes.length
   ·rw [e2, rl] at h
    have := I.rep_lt (a := i) (by lia)
    lia
   ·rw [tms i (by lia), tms j (by lia)]
    exact I.S i j (by lia) (by lia) h
end
section
variable {Γ : Cx} {n : Nat} {σ : Store} {Q : V -> Store -> Prop} {sc : Scope} {ρ : Vars} {T : List Tree} {told : List (Tree × Tree)} {X : Nat -> Prop} {loc : Loc} {hs : HS}
theorem joinS_pot (I : Inv T told X loc hs) (hT : T.length <= 28) {kept gone : Nat} {e f : V} {x : Addr} (h1 : roots (joinS hs kept gone e f x) + 1 = roots hs) (h2 : ((hs.uses gone).getD []).length <= 2 * hs.nodes.length) :
  pot (joinS hs kept gone e f x) <= pot hs /\ mu (joinS hs kept gone e f x) <= mu hs := by
 have := I.size
 have w : (joinS hs kept gone e f x).waiting.length = hs.waiting.length + ((hs.uses gone).getD []).length := by
  show (hs.waiting ++ (hs.uses gone).getD []).length = _; rw [List.length_append]
 have w1 : (joinS hs kept gone e f x).edges.length = hs.edges.length + 1 := by
  show (hs.edges ++ [e]).length = _; rw [List.length_append]; rfl
 have w2 : (joinS hs kept gone e f x).forest.length = hs.forest.length + 1 := by
  show (hs.forest ++ [f]).length = _; rw [List.length_append]; rfl
 have w3 : (joinS hs kept gone e f x).merged.length = hs.merged.length + 1 := by
  show (hs.merged ++ [_]).length = _; rw [List.length_append]; rfl
 have w4 : (joinS hs kept gone e f x).knV = hs.knV := rfl
 unfold pot mu
 rw [w, w1, w2, w3, w4]
 lia
theorem def_339 : DefOk 339 := fun P => ⟨by kernel_rfl, by kernel_rfl⟩
theorem bind_339 (v u : Value) : bindArgs (fnA 339) ⟨[v, u], []⟩ = pure [(Str.ofString "self", v), (Str.ofString "n", u)] := by kernel_rfl
structure Went (T : List Tree) (told : List (Tree × Tree)) (X : Nat -> Prop) (σ : Store) (loc : Loc) (hs : HS) (σ' : Store) (loc' : Loc) (hs' : HS) : Prop where
 mv : Mv σ loc hs σ' loc' hs'
 inv : Inv T told X loc' hs'
 ext : Ext hs hs'
theorem c_look_at (hK : CK Γ) (A : At σ loc hs) (I : Inv T told X loc hs) (hT : T.length <= 28) (hp : pot hs <= 9000) {i : Nat} {nd : Nd} (hi : hs.nodes[i]? = some nd)
  (q : ∀ σ' loc' hs', Went T told (fun j => X j /\ j ≠ i) σ loc hs σ' loc' hs' -> hs'.nodes = hs.nodes -> hs'.terms = hs.terms -> pot hs' <= pot hs + 1 -> mu hs' <= mu hs -> Q .none σ') : ACall Γ (n + 4) (.ref 339) [.ref (loc .H), natV i] σ Q := by
 have sz := I.size
 have pn := I.pn
 have hin := lt_of_get hi
 obtain ⟨k1, k2, k3⟩ := I.node i nd hi
 have kz : hs.knV.length <= 9000 := by unfold pot at hp; lia
 refine hK.def2 def_339 bind_339 ?_
 ·skip
  refine AExecs.cons (AExec.assign (AEval.meth (hK.fd .H .K .local A rfl ?_)))
  refine AMeth.blt (dict_type (.ref (A.is .K _ rfl))) PySem.F.plainAttrs_dict PySem.F.slot_dict_setdefault PySem.F.type_dict_setdefault ⟨trivial, AArgs.cons ?_⟩
  refine hK.om .H 322 .local A rfl (AArgs.loc rfl (AArgs.nil ?_))
  refine c_node hK A I.par (by lia) (by lia) hi (by lia) (fun k hk => by have := k2 k hk; lia) ?_
  refine AArgs.loc rfl (AArgs.nil ?_)
  refine ACall.dictSetdefault (A.is .K _ rfl) (nodeV_ok _) (by lia) ?_
  rw [I.knD]
  -- behind the look-up: the other node
  have tail : ∀ {σ₁ : Store} {hs₁ : HS} {X₁ : Nat -> Prop} {o : Nat} {ρ₁ : Vars}, Went T told X₁ σ loc hs σ₁ loc hs₁ -> hs₁.nodes = hs.nodes -> hs₁.terms = hs.terms -> pot hs₁ <= pot hs + 1 -> mu hs₁ <= mu hs -> o < hs.nodes.length -> Cl told T (tm hs₁ o) (tm hs₁ i) ->
    (∀ j, X₁ j -> X j) -> (∀ hs₂ loc₂, Inv T told X₁ loc₂ hs₂ -> hs₂.nodes = hs.nodes -> (∀ sg, hs₂.kn sg = hs₁.kn sg) -> (i ∈ hs₂.waiting \/ sigOf hs₂.par nd = sigOf hs₁.par nd) -> rep hs₂.par o = rep hs₂.par i -> Inv T told (fun j => X j /\ j ≠ i) loc₂ hs₂) ->
    ρ₁.lookup (Str.ofString "self") = some (.ref (loc .H)) -> ρ₁.lookup (Str.ofString "other") = some (natV o) -> ρ₁.lookup (Str.ofString "n") = some (natV i) ->
    AExecs Γ (n + 3) (scA 339) ρ₁ ((boA 339).drop 1) σ₁ (RetQ Q) := by
   intro σ₁ hs₁ X₁ o ρ₁ W hn ht hp1 hm1 ho hcl hX hfin g1 g2 g3
   have A1 := W.mv.to
   have I1 := W.inv
   have pn1 := I1.pn
   rw [hn] at pn1
   refine AExecs.cons (AExec.if (ATest.compare (hK.om .H 346 .local A1 g1 (AArgs.loc g2 (AArgs.nil (c_hfind hK A1 I1.par (by lia) (by lia) ?_))))))
   refine hK.om .H 346 .local A1 g1 (AArgs.loc g3 (AArgs.nil (c_hfind hK A1 I1.par (by lia) (by lia) ?_)))
   refine AOp2.neI ?_
   by_cases e : rep hs₁.par o = rep hs₁.par i
   ·rw [decide_eq_true (by lia)]
    exact AExecs.nil (AExecs.nil (q _ _ _ ⟨W.mv, hfin _ _ I1 hn (fun _ => rfl) (.inr rfl) e, W.ext⟩ hn ht hp1 hm1))
   ·rw [decide_eq_false (by lia)]
    refine AExecs.cons (AExec.expr (hK.om .H 367 .local A1 g1 ?_))
    refine AArgs.loc g2 (AArgs.loc g3 (AArgs.cons (AEval.tuple (AArgs.cons (AEval.strc (AArgs.nil ⟨lim rfl, AArgs.nil ?_⟩))))))
    refine c_join hK A1 (I1.room hT (by lia)) (by lia) (by lia) ?_
    rw [if_neg e]
    intro σ₂ f x M2
    obtain ⟨J1, J2, J3, J4, J5, J6⟩ := I1.join (a := o) (b := i) (by rw [hn]; lia) (by rw [hn]; lia) e hcl (.tup [natV o, natV i, .tup [.str "like"]]) f x rfl rfl
    obtain ⟨P1, P2⟩ := joinS_pot I1 hT J4 J5
    refine AExecs.nil (AExecs.nil (q _ _ _ ⟨W.mv.trans M2, hfin _ _ J1 hn (fun _ => rfl) (J6 i nd (by rw [hn]; exact hi)) J3, W.ext.trans J2⟩ hn ht (by lia) (by lia)))
  cases ho : hs.kn (sigOf hs.par nd) with
  | some o =>
   obtain ⟨o1, o2⟩ := I.alike hi ho
   refine AAssign.loc ?_
   refine tail (X₁ := X) (o := o) ⟨Mv.refl A, I, Ext.refl _⟩ rfl rfl (by lia) (by lia) o1 o2 (fun _ h => h) (fun hs₂ loc₂ I₂ hn2 hk2 hw hr => ?_) rfl rfl rfl
   refine { I₂ with C := fun j nd' hj hx => ?_ }
   by_cases e : j = i
   ·subst e
    have : nd' = nd := by rw [hn2, hi] at hj; injection hj with hj; exact hj.symm
    subst this
    rcases hw with h | h
    ·exact .inl h
    ·exact .inr ⟨o, by rw [h, hk2]; exact ho, hr⟩
   ·exact I₂.C j nd' hj fun h => hx ⟨h, e⟩
  | none =>
   refine AAssign.loc ?_
   have M := A.put (l := .K) (v := .dct .N (dput (nodeV (sigOf hs.par nd)) (natV i) hs.knV)) (hs' := knownS hs (sigOf hs.par nd) i) (fun e => nomatch e) (fun l' => by cases l' <;> rfl)
   have I1 := I.known hi ho
   have hl := @dput_len (nodeV (sigOf hs.par nd)) (natV i) hs.knV
   refine tail (X₁ := fun j => X j /\ j ≠ i) (hs₁ := knownS hs (sigOf hs.par nd) i) (o := i) ⟨M, I1, ⟨Nat.le_refl _, fun _ _ h => h, fun _ _ => rfl, fun _ _ _ _ h => h⟩⟩ rfl rfl ?_ (Nat.le_refl _) hin (.refl _) (fun _ h => h.1) (fun hs₂ loc₂ I₂ _ _ _ _ => I₂) rfl rfl rfl
   show (dput (nodeV (sigOf hs.par nd)) (natV i) hs.knV).length + hs.waiting.length + hs.edges.length + hs.forest.length + hs.merged.length + 60 * roots hs <= _
   unfold pot
   lia
theorem def_374 : DefOk 374 := fun P => ⟨by kernel_rfl, by kernel_rfl⟩
theorem bind_374 (v : Value) : bindArgs (fnA 374) ⟨[v], []⟩ = pure [(Str.ofString "self", v)] := by kernel_rfl
theorem c_settle (hK : CK Γ) (A : At σ loc hs) (I : Inv T told (fun _ => False) loc hs) (hT : T.length <= 28) (hp : pot hs <= 8000)
  (q : ∀ σ' loc' hs', Went T told (fun _ => False) σ loc hs σ' loc' hs' -> hs'.nodes = hs.nodes -> hs'.terms = hs.terms -> pot hs' <= pot hs -> hs'.waiting = [] -> (hs.waiting = [] -> σ' = σ /\ loc' = loc /\ hs' = hs) -> Q .none σ') : ACall Γ (n + 5) (.ref 374) [.ref (loc .H)] σ Q := by
 refine hK.def1 def_374 bind_374 ?_
 ·skip
  refine AExecs.cons (AExec.while (fun m ρ σ₁ => ∃ loc₁ hs₁, Went T told (fun _ => False) σ loc hs σ₁ loc₁ hs₁ /\ hs₁.nodes = hs.nodes /\ hs₁.terms = hs.terms /\ pot hs₁ <= pot hs /\ mu hs₁ = m /\ ρ.lookup (Str.ofString "self") = some (.ref (loc .H)) /\ (hs.waiting = [] -> σ₁ = σ /\ loc₁ = loc /\ hs₁ = hs)) (mu hs) ⟨loc, hs, ⟨Mv.refl A, I, Ext.refl _⟩, rfl, rfl, Nat.le_refl _, rfl, rfl, fun _ => ⟨rfl, rfl, rfl⟩⟩ ?_)
  rintro m ρ σ₁ ⟨loc₁, hs₁, W, hn, ht, hp1, hm, g1, hs0⟩
  have A1 := W.mv.to
  have I1 := W.inv
  have hH : loc₁ .H = loc .H := W.mv.fx .H rfl
  rw [<- hH] at g1
  have wz : hs₁.waiting.length <= 9000 := by unfold pot at hp1; unfold pot at hp; lia
  refine ATest.compare (hK.callB (id := "len") (AArgs.cons ?_))
  refine hK.fd .H .W .local A1 g1 ?_
  refine AArgs.nil (ACall.lenList (.ref (A1.is .W _ rfl)) (lim_map (by lia)) (AEval.int (AOp2.gtI ?_)))
  rw [List.length_map]
  rcases List.eq_nil_or_concat hs₁.waiting with e | ⟨w, i, e⟩
  ·rw [e]
   exact AExecs.nil (q _ _ _ W hn ht hp1 e hs0)
  ·rw [List.concat_eq_append] at e
   rw [decide_eq_true (by rw [e, List.length_append, List.length_singleton]; lia)]
   refine AExecs.cons (AExec.expr (hK.om .H 339 .local A1 g1 (AArgs.cons ?_)))
   refine AEval.meth (hK.fd .H .W .local A1 g1 ?_)
   have hw1 : σ₁ (loc₁ .W) = some (.lst (w.map natV ++ [natV i])) := by rw [A1.is .W _ rfl, e, List.map_append]; rfl
   refine AMeth.blt (list_type (.ref (A1.is .W _ rfl))) PySem.F.plainAttrs_list PySem.F.slot_list_pop PySem.F.type_list_pop ⟨trivial, AArgs.nil (ACall.pop hw1 (by rw [e] at wz; simp at wz ⊢; lia) (AArgs.nil ?_))⟩
   have M2 := A1.put (l := .W) (v := .lst (w.map natV)) (hs' := { hs₁ with waiting := w }) (fun e => nomatch e) (fun l' => by cases l' <;> rfl)
   have I2 := I1.pop e
   have hi : i < hs₁.nodes.length := I1.wait i (by rw [e]; simp)
   have hpot : pot { hs₁ with waiting := w } + 1 = pot hs₁ := by unfold pot; rw [e, List.length_append]; show _ + w.length + _ + _ + _ + 60 * roots hs₁ + 1 = _ ; simp only [List.length_singleton]; lia
   have hmu : mu { hs₁ with waiting := w } + 1 = mu hs₁ := by unfold mu; rw [e, List.length_append]; show w.length + 57 * roots hs₁ + 1 = _ ; simp only [List.length_singleton]; lia
   refine c_look_at (hs := { hs₁ with waiting := w }) hK M2.to I2 hT (by lia) (List.getElem?_eq_getElem hi) fun σ₂ loc₂ hs₂ W2 hn2 ht2 hp2 hm2 => ?_
   refine AExecs.nil ⟨mu hs₂, by lia, loc₂, hs₂, ⟨W.mv.trans (M2.trans W2.mv), W2.inv.weak fun j h => by rcases h.1 with h' | h'; exact h'; exact h.2 h', W.ext.trans ⟨W2.ext.len, W2.ext.nodes, W2.ext.tms, W2.ext.reps⟩⟩, by rw [hn2]; exact hn, by rw [ht2]; exact ht, by lia, rfl, by rw [<- hH]; exact g1, fun h0 => ?_⟩
   obtain ⟨_, _, rfl⟩ := hs0 h0
   rw [h0] at e
   simp at e
end
section
variable {Γ : Cx} {n : Nat} {σ : Store} {Q : V -> Store -> Prop} {sc : Scope} {ρ : Vars} {T : List Tree} {told : List (Tree × Tree)} {X : Nat -> Prop} {loc : Loc} {hs : HS}
theorem def_242 : DefOk 242 := fun P => ⟨by kernel_rfl, by kernel_rfl⟩
theorem bind_242 (v : Value) : bindArgs (fnA 242) ⟨[v], []⟩ = pure [(Str.ofString "self", v)] := by kernel_rfl
theorem c_usize (hK : CK Γ) (A : At σ loc hs) (hz : hs.par.length <= 1000) (q : Q (natV hs.par.length) σ) : ACall Γ (n + 1) (.ref 242) [.ref (loc .U)] σ Q := by
 refine hK.def1 def_242 bind_242 ?_
 ·skip
  refine AExecs.cons (AExec.ret ?_)
  refine hK.callB (id := "len") (AArgs.cons ?_)
  refine hK.fd .U .Ua .local A rfl ?_
  refine AArgs.nil (ACall.lenList (.ref (A.is .Ua _ rfl)) (lim_map (by lia)) ?_)
  rw [List.length_map]; exact q
theorem def_327 : DefOk 327 := fun P => ⟨by kernel_rfl, by kernel_rfl⟩
theorem bind_327 (v u r : Value) : bindArgs (fnA 327) ⟨[v, u, r], []⟩ = pure [(Str.ofString "self", v), (Str.ofString "op", u), (Str.ofString "numbers", r)] := by kernel_rfl
noncomputable def growU (hs : HS) (nd : Nd) (t : Tree) (w d : Int) (a x : Addr) (done : List Nat) : HS :=
 { makeS (takeS hs nd t w d) a with
  uses := fun c => if c ∈ done then (hs.uses c).map (· ++ [hs.par.length]) else if c = hs.par.length then some [] else hs.uses c,
  abV := dput (natV hs.par.length) (.ref x) hs.abV }
theorem two_mem {l : List Nat} (h : l.length <= 2) : ∃ u v, ∀ k ∈ l, k = u \/ k = v := by
 match l, h with
 | [], _ => exact ⟨0, 0, fun k hk => nomatch hk⟩
 | [a], _ => exact ⟨a, a, fun k hk => .inl (List.mem_singleton.mp hk)⟩
 | [a, b], _ => exact ⟨a, b, fun k hk => by simpa using hk⟩
theorem setAll_len {K : Type} [DecidableEq K] : ∀ (ks acc : List K), (setAll ks acc).length <= acc.length + ks.length
 | [], acc => Nat.le_refl _
 | k :: ks, acc => by
  rw [setAll, List.length_cons]
  by_cases h : k ∈ acc
  ·rw [if_pos h]
   have := setAll_len ks acc
   lia
  ·rw [if_neg h]
   have := setAll_len ks (acc ++ [k])
   rw [List.length_append, List.length_singleton] at this
   lia
theorem ints_nats : ∀ {js : List Int}, (∀ j ∈ js, 0 <= j) -> ∃ cs : List Nat, js = cs.map fun c : Nat => (c : Int)
 | [], _ => ⟨[], rfl⟩
 | j :: js, h => by
  obtain ⟨cs, e⟩ := ints_nats (js := js) fun x hx => h x (List.mem_cons_of_mem _ hx)
  have := h j List.mem_cons_self
  exact ⟨j.toNat :: cs, by rw [List.map_cons, <- e, Int.toNat_of_nonneg this]⟩
theorem c_add (hK : CK Γ) (A : At σ loc hs) (I : Inv T told (fun _ => False) loc hs) (hT : T.length <= 28) (hp : pot hs <= 8000) {nd : Nd} {ts : List Tree} (ho : opGood nd.1) (hTm : Tree.node nd.1 ts ∈ T) (hk : kidsOk hs nd ts) (hl : ∀ k ∈ nd.2, k < hs.nodes.length) (h2 : nd.2.length <= 2)
  (q : ∀ σ' loc' hs' i, Went T told (fun _ => False) σ loc hs σ' loc' hs' -> i < hs'.nodes.length -> tm hs' i = .node nd.1 ts -> pot hs' + 70 * hs.nodes.length <= pot hs + 70 * hs'.nodes.length -> (Tree.node nd.1 ts ∈ hs.terms -> σ' = σ /\ loc' = loc /\ hs' = hs) -> Q (natV i) σ') :
  ACall Γ (n + 5) (.ref 327) [.ref (loc .H), .str nd.1, .tup (nd.2.map natV)] σ Q := by
 have sz := I.size
 have pn := I.pn
 have nz := I.numz
 have hno := I.num_old hk hl
 refine hK.def3 def_327 bind_327 ?_
 ·skip
  refine AExecs.cons (AExec.assign (AEval.ownMeth (f := 110) (a := loc .B) (hK.fd .H .B .cell A rfl ⟨rfl, rfl⟩) (A.is .B _ rfl) (A.is .Bd _ rfl) (hK.meth (by kernel_rfl)) (by kernel_rfl) ?_))
  refine AArgs.loc rfl (AArgs.loc rfl (AArgs.nil ?_))
  refine c_take hK A I.numD (.node nd.1 ts) (by lia) (by lia) (by lia) I.wl I.dl ?_
  cases hn : hs.num nd with
  | some i =>
   obtain ⟨g1, g2⟩ := hno.1 i hn
   refine AAssign.loc ?_
   refine AExecs.cons (AExec.if (ATest.compare (AEval.loc rfl (AEval.ownMeth (f := 242) (a := loc .U) (hK.fd .H .U .cell A rfl ⟨rfl, rfl⟩) (A.is .U _ rfl) (A.is .Ud _ rfl) (hK.meth (by kernel_rfl)) (by kernel_rfl) (AArgs.nil (c_usize hK A (by lia) (AOp2.ltI ?_)))))))
   rw [decide_eq_true (by lia)]
   exact AExecs.cons (AExec.ret (AEval.loc rfl (q _ _ _ i ⟨Mv.refl A, I, Ext.refl _⟩ g1 g2 (Nat.le_refl _) fun _ => ⟨rfl, rfl, rfl⟩)))
  | none =>
   refine ⟨ho, hl, fun σ₁ w d M1 => ?_⟩
   have A1 := M1.to
   have nT := hno.2 hn
   refine AAssign.loc ?_
   refine AExecs.cons (AExec.if (ATest.compare (AEval.loc rfl (AEval.ownMeth (f := 242) (a := loc .U) (hK.fd .H .U .cell A1 rfl ⟨rfl, rfl⟩) (A1.is .U _ rfl) (A1.is .Ud _ rfl) (hK.meth (by kernel_rfl)) (by kernel_rfl) (AArgs.nil (c_usize hK A1 (by show hs.par.length <= _; lia) (AOp2.ltI ?_)))))))
   rw [decide_eq_false (by show ¬ ((hs.nodes.length : Nat) : Int) < (hs.par.length : Nat); lia)]
   refine AExecs.nil ?_
   refine AExecs.cons (AExec.expr (AEval.ownMeth (f := 235) (a := loc .U) (hK.fd .H .U .cell A1 rfl ⟨rfl, rfl⟩) (A1.is .U _ rfl) (A1.is .Ud _ rfl) (hK.meth (by kernel_rfl)) (by kernel_rfl) (AArgs.nil ?_)))
   refine c_make hK A1 (by show hs.par.length <= _; lia) I.lots I.ulV fun σ₂ a M2 => ?_
   have A2 := M2.to
   refine AExecs.cons (AExec.assign (AEval.list (AArgs.nil ⟨lim rfl, fun x hx => ?_⟩)))
   have M3 := A2.new (l := .use hs.par.length) (a := x) (v := .lst []) (hs' := { makeS (takeS hs nd (.node nd.1 ts) w d) a with uses := fun c => if c = hs.par.length then some [] else hs.uses c }) hx rfl (fun l' => by
    cases l' with
    | use c =>
     show ((if c = hs.par.length then some [] else hs.uses c).map fun u => V.lst (u.map natV)) = _
     by_cases h : c = hs.par.length
     ·subst h; rw [if_pos rfl, if_pos rfl]; rfl
     ·rw [if_neg h, if_neg (fun e => h (by injection e))]; rfl
    | _ => rfl)
   have A3 := M3.to
   refine AAssign.sub (hK.fd .H .Ab .cell A3 rfl (AEval.loc rfl (ASetItem.dict (A3.is .Ab _ rfl) ⟨_, rfl⟩ (by have := I.az; show hs.abV.length <= _; lia) ?_)))
   have M4 := A3.put (l := .Ab) (v := .dct .I (dput (natV hs.nodes.length) (.ref x) hs.abV)) (hs' := growU hs nd (.node nd.1 ts) w d a x []) (fun e => nomatch e) (fun l' => by
    cases l' with
    | Ab => show some (V.dct .I (dput (natV hs.par.length) (.ref x) hs.abV)) = some (V.dct .I (dput (natV hs.nodes.length) (.ref x) hs.abV)); rw [pn]
    | use c => show ((if c ∈ [] then (hs.uses c).map (· ++ [hs.par.length]) else if c = hs.par.length then some [] else hs.uses c).map fun u => V.lst (u.map natV)) = _; rw [if_neg (by simp)]; rfl
    | _ => rfl)
   have A4 := M4.to
   have M := M1.trans (M2.trans (M3.trans M4))
   have gp : ∀ done, (growU hs nd (.node nd.1 ts) w d a x done).par = hs.par ++ [hs.par.length] := fun _ => rfl
   have gpl : ∀ done, (growU hs nd (.node nd.1 ts) w d a x done).par.length = hs.par.length + 1 := fun _ => by rw [gp, List.length_append]; rfl
   refine AExecs.cons (AExec.for (AIt.val ?_))
   refine hK.callB (id := "sorted") (AArgs.cons ?_)
   refine hK.callT (id := "set") (AArgs.cons ?_)
   refine AEval.listcompG [(Str.ofString "self", .ref (loc .H))] (turn0 _ _ _ _ _) (by kernel_rfl) (free_one (by kernel_rfl) rfl) (AIt.val (AEval.loc rfl (WalkQ.mk rfl ?_))) (fun _ _ => rfl)
   refine CompRun.mapE natV (fun k => natV (rep hs.par k)) nd.2 [] (lim_nil (by lia)) (fun k hk0 acc' K' hz' hK2 => ?_) ?_
   ·refine ALoc.name (by kernel_rfl) ⟨keeps_one rfl, AComp.rest0 ?_⟩
    have hk1 := hl k hk0
    refine hK.om .H 346 .cell A4 rfl (AArgs.loc rfl (AArgs.nil (c_hfind hK A4 (by rw [gp]; exact parOk_snoc I.par) (by rw [gpl]; lia) (by rw [gpl]; lia) ?_)))
    rw [gp, rep_snoc]
    exact ⟨hz', hK2⟩
   ·rw [List.nil_append, show nd.2.map (fun k => natV (rep hs.par k)) = ((nd.2.map (rep hs.par)).map fun c : Nat => (c : Int)).map .int from by rw [List.map_map, List.map_map]; rfl]
    obtain ⟨u, v, huv⟩ := two_mem (l := nd.2.map (rep hs.par)) (by rw [List.length_map]; exact h2)
    refine AArgs.nil (ACall.setI (u := (u : Int)) (v := (v : Int)) (fun k hk => ?_) (AArgs.nil (ACall.sortedSI fun js hj1 hj2 => WalkQ.mk rfl ?_)))
    ·obtain ⟨c, hc, rfl⟩ := List.mem_map.mp hk
     rcases huv c hc with h | h
     ·exact .inl (by rw [h])
     ·exact .inr (by rw [h])
    have hjm : ∀ j, j ∈ js ↔ ∃ k ∈ nd.2, j = ((rep hs.par k : Nat) : Int) := fun j => by
     rw [hj1.mem_iff, setAll_mem]
     simp only [List.not_mem_nil, false_or, List.mem_map]
     constructor
     ·rintro ⟨c, ⟨k, h1, rfl⟩, rfl⟩; exact ⟨k, h1, rfl⟩
     ·rintro ⟨k, h1, rfl⟩; exact ⟨_, ⟨k, h1, rfl⟩, rfl⟩
    have hjn : js.Nodup := hj1.nodup_iff.mpr (setAll_nodup _ _ List.nodup_nil)
    have hjl : js.length <= 2 := by
     rw [hj1.length_eq]
     have := setAll_len ((nd.2.map (rep hs.par)).map fun c : Nat => (c : Int)) []
     simp only [List.length_map, List.length_nil] at this
     lia
    obtain ⟨cs, rfl⟩ := ints_nats (js := js) fun j hj => by
     obtain ⟨k, _, rfl⟩ := (hjm j).mp hj; lia
    have hcm : ∀ c, c ∈ cs ↔ ∃ k ∈ nd.2, c = rep hs.par k := fun c => by
     have h0 : c ∈ cs ↔ (c : Int) ∈ cs.map (fun c : Nat => (c : Int)) := by
      refine ⟨fun h => List.mem_map_of_mem h, fun h => ?_⟩
      obtain ⟨c', h1, h2⟩ := List.mem_map.mp h
      obtain rfl : c' = c := by lia
      exact h1
     rw [h0, hjm]
     exact ⟨fun ⟨k, h1, h2⟩ => ⟨k, h1, by lia⟩, fun ⟨k, h1, h2⟩ => ⟨k, h1, by lia⟩⟩
    have hcn : cs.Nodup := nodup_of_map hjn
    rw [List.length_map] at hjl
    rw [show (cs.map fun c : Nat => (c : Int)).map V.int = cs.map natV from by rw [List.map_map]; rfl]
    have hcr : ∀ c ∈ cs, c < hs.par.length /\ hs.par.getD c c = c := fun c hc => by
     obtain ⟨k, h1, rfl⟩ := (hcm c).mp hc
     exact ⟨by have := I.rep_lt (hl k h1); lia, rep_is I.par k⟩
    obtain ⟨J1, J2, J3, J4⟩ := I.grow (nd := nd) (ts := ts) (cs := cs) hTm hk hl h2 hn (fun k h => (hcm _).mpr ⟨k, h, rfl⟩) (fun c h => (hcm c).mp h) hjl w d a x
    refine ForRun.inv (fun xs ρ σ' => ∃ done rest, xs = rest.map natV /\ done ++ rest = cs /\ Mv σ loc hs σ' (upd (upd loc (.lot hs.par.length) a) (.use hs.par.length) x) (growU hs nd (.node nd.1 ts) w d a x done) /\ ρ.lookup (Str.ofString "self") = some (.ref (loc .H)) /\ ρ.lookup (Str.ofString "n") = some (natV hs.nodes.length)) ?_ ?_ _ _ _ ⟨[], cs, rfl, rfl, M, rfl, rfl⟩
    ·rintro y xs ρ σ' K ⟨done, rest, e1, e2, M5, g1, g2⟩ hK'
     cases rest with
     | nil => cases e1
     | cons c rest =>
      rw [List.map_cons] at e1
      injection e1 with e1 e3
      subst e1
      subst e3
      have A5 := M5.to
      have hc : c ∈ cs := by rw [<- e2]; simp
      have hcd : c ∉ done := fun h => by
       rw [<- e2, List.nodup_append] at hcn
       exact hcn.2.2 c h c List.mem_cons_self rfl
      obtain ⟨r1, r2⟩ := hcr c hc
      obtain ⟨u, u1, u2⟩ := I.uses c r1 r2
      have z1 := sumR_le (f := fun c => ((hs.uses c).getD []).length) r1 r2
      have z2 := I.useS
      rw [u1] at z1
      simp only [Option.getD_some] at z1
      refine AAssign.loc ?_
      have g1' : List.lookup (Str.ofString "self") ((Str.ofString "c", natV c) :: ρ) = some (V.ref (loc .H)) := g1
      have g2' : List.lookup (Str.ofString "n") ((Str.ofString "c", natV c) :: ρ) = some (natV hs.nodes.length) := g2
      have hu : ∀ loc', img loc' (growU hs nd (.node nd.1 ts) w d a x done) (.use c) = some (.lst (u.map natV)) := fun loc' => by
       show ((if c ∈ done then (hs.uses c).map (· ++ [hs.par.length]) else if c = hs.par.length then some [] else hs.uses c).map fun u => V.lst (u.map natV)) = _
       rw [if_neg hcd, if_neg (by lia), u1]; rfl
      have hlk : dget (natV c) (growU hs nd (.node nd.1 ts) w d a x done).abV = some (.ref ((upd (upd loc (.lot hs.par.length) a) (.use hs.par.length) x) (.use c))) := by
       show dget (natV c) (dput (natV hs.par.length) (.ref x) hs.abV) = some (V.ref (if Lab.use c = Lab.use _ then x else if Lab.use c = Lab.lot _ then a else loc (.use c)))
       rw [dget_dput, if_neg (fun e => by have := natV_inj e; lia), if_neg (fun e => by injection e; lia), if_neg (fun e => nomatch e)]
       exact I.ulink c r1 r2
      refine AExecs.cons (AExec.expr (AEval.meth (AEval.sub (hK.fd .H .Ab .cell A5 g1' ?_))))
      refine AEval.loc rfl (AItem.dict (.ref (A5.is .Ab _ rfl)) ⟨_, rfl⟩ hlk ?_)
      refine AMeth.blt (list_type (.ref (A5.is _ _ (hu _)))) PySem.F.plainAttrs_list PySem.F.slot_list_append PySem.F.type_list_append ⟨trivial, AArgs.loc g2' (AArgs.nil (ACall.append (A5.is _ _ (hu _)) (lim_map (by lia)) ?_))⟩
      have M6 := A5.put (l := .use c) (v := .lst ((u ++ [hs.nodes.length]).map natV)) (hs' := growU hs nd (.node nd.1 ts) w d a x (done ++ [c])) (by rw [hu]; exact fun e => nomatch e) (fun l' => by
       cases l' with
       | use c' =>
        show ((if c' ∈ done ++ [c] then (hs.uses c').map (· ++ [hs.par.length]) else if c' = hs.par.length then some [] else hs.uses c').map fun u => V.lst (u.map natV)) = _
        by_cases h : c' = c
        ·subst h
         rw [if_pos rfl, if_pos (by simp), u1, <- pn]; rfl
        ·rw [if_neg (show ¬ Lab.use c' = Lab.use c from fun e => h (by injection e))]
         show _ = ((if c' ∈ done then (hs.uses c').map (· ++ [hs.par.length]) else if c' = hs.par.length then some [] else hs.uses c').map fun u => V.lst (u.map natV))
         by_cases h2 : c' ∈ done
         ·rw [if_pos (by simp [h2]), if_pos h2]
         ·rw [if_neg (by simp [h2, h]), if_neg h2]
       | _ => rfl)
      rw [List.map_append, List.map_singleton] at M6
      exact AExecs.nil (hK' _ _ ⟨done ++ [c], rest, rfl, by rw [List.append_assoc]; exact e2, M5.trans M6, g1', g2'⟩)
    ·rintro ρ σ' ⟨done, rest, e1, e2, M5, g1, g2⟩
     cases rest with
     | cons c rest => cases e1
     | nil =>
      rw [List.append_nil] at e2
      subst e2
      have M6 : Mv σ loc hs σ' _ (growS hs nd (.node nd.1 ts) w d a x done) := M5
      have A6 := M6.to
      refine AExecs.cons (AExec.expr (hK.om .H 339 .cell A6 g1 (AArgs.loc g2 (AArgs.nil ?_))))
      refine c_look_at hK A6 J1 hT (by lia) (i := hs.nodes.length) (nd := nd) (get_snoc.mpr (.inr ⟨rfl, rfl⟩)) fun σ₇ loc₇ hs₇ W hn7 ht7 hp7 hm7 => ?_
      have hn7' : hs₇.nodes.length = hs.nodes.length + 1 := by rw [hn7]; show (hs.nodes ++ [nd]).length = _; rw [List.length_append]; rfl
      refine AExecs.cons (AExec.ret (AEval.loc g2 ?_))
      refine q _ _ _ hs.nodes.length ⟨M6.trans W.mv, W.inv.weak fun j h => h.2 h.1, J2.trans W.ext⟩ (by lia) ?_ (by lia) fun h => absurd h nT
      unfold tm at J4 ⊢
      rw [ht7]; exact J4
end
section
variable {Γ : Cx} {n : Nat} {σ : Store} {Q : V -> Store -> Prop} {sc : Scope} {ρ : Vars} {T : List Tree} {told : List (Tree × Tree)} {X : Nat -> Prop} {loc : Loc} {hs : HS}
theorem CompRun.inv {turn : V -> List V -> Store -> (List V -> Store -> Prop) -> Prop} {K : List V -> Store -> Prop} (I : List V -> List V -> Store -> Prop)
  (hstep : ∀ x xs acc σ (K : List V -> Store -> Prop), I (x :: xs) acc σ -> (∀ acc' σ', I xs acc' σ' -> K acc' σ') -> turn x acc σ K) (hend : ∀ acc σ, I [] acc σ -> K acc σ) : ∀ xs acc σ, I xs acc σ -> CompRun turn xs acc σ K
 | [], acc, σ, h => hend acc σ h
 | x :: xs, acc, σ, h => hstep x xs acc σ _ h fun acc' σ' h' => CompRun.inv I hstep hend xs acc' σ' h'
theorem Went.refl (A : At σ loc hs) (I : Inv T told X loc hs) : Went T told X σ loc hs σ loc hs := ⟨Mv.refl A, I, Ext.refl _⟩
theorem Went.trans {σ₁ σ₂ : Store} {loc₁ loc₂ : Loc} {hs₁ hs₂ : HS} {X' : Nat -> Prop} (x : Went T told X σ loc hs σ₁ loc₁ hs₁) (y : Went T told X' σ₁ loc₁ hs₁ σ₂ loc₂ hs₂) : Went T told X' σ loc hs σ₂ loc₂ hs₂ :=
 ⟨x.mv.trans y.mv, y.inv, x.ext.trans y.ext⟩
noncomputable def TOk (T : List Tree) : Prop := ∀ op ts, Tree.node op ts ∈ T -> opGood op /\ ts.length <= 2 /\ ∀ t ∈ ts, t ∈ T
theorem Inv.kid_mem (I : Inv T told X loc hs) {op : Str} {ts : List Tree} (h : Tree.node op ts ∈ hs.terms) {t : Tree} (ht : t ∈ ts) : t ∈ hs.terms := by
 obtain ⟨i, hi, h0⟩ := I.tm_mem.mp h
 obtain ⟨-, hlt, us, h1, h2, h3⟩ := I.node i _ (List.getElem?_eq_getElem hi)
 rw [h1] at h0
 injection h0 with h4 h5
 subst h5
 obtain ⟨j, hj, rfl⟩ := List.getElem_of_mem ht
 have g : hs.nodes[i].2[j]? = some (hs.nodes[i].2[j]'(by lia)) := List.getElem?_eq_getElem (by lia)
 have e := h3 j _ g
 rw [List.getElem?_eq_getElem hj] at e
 injection e with e
 rw [e]
 exact I.tm_mem.mpr ⟨_, by have := hlt _ (List.mem_of_getElem? g); lia, rfl⟩
theorem def_332 : DefOk 332 := fun P => ⟨by kernel_rfl, by kernel_rfl⟩
theorem bind_332 (v u : Value) : bindArgs (fnA 332) ⟨[v, u], []⟩ = pure [(Str.ofString "self", v), (Str.ofString "term", u)] := by kernel_rfl
inductive PutI (T : List Tree) (told : List (Tree × Tree)) (σ : Store) (loc : Loc) (hs : HS) (z : Nat) (op : Str) (ts : List Tree) (xs : List V) (acc : List V) (σ₁ : Store) : Prop
 | mk (rest : List Tree) (done : List Tree) (ks : List Nat) (loc₁ : Loc) (hs₁ : HS) (c5 : xs = rest.map Tree.v) (c6 : done ++ rest = ts) (c7 : acc = ks.map natV) (c8 : Went T told (fun _ => False) σ loc hs σ₁ loc₁ hs₁) (c9 : pot hs₁ <= 70 * hs₁.nodes.length + z) (c10 : done.length = ks.length) (c11 : (∀ k ∈ ks, k < hs₁.nodes.length)) (c12 : (∀ (j k : Nat), ks[j]? = some k -> done[j]? = some (tm hs₁ k))) (c13 : (Tree.node op ts ∈ hs.terms -> σ₁ = σ /\ loc₁ = loc /\ hs₁ = hs)) : PutI T told σ loc hs z op ts xs acc σ₁
theorem c_put (hK : CK Γ) (hT : T.length <= 28) (hTO : TOk T) {z : Nat} (hz : z <= 200) : ∀ (n : Nat) {σ : Store} {loc : Loc} {hs : HS} {Q : V -> Store -> Prop} (t : Tree), t.height < n -> t ∈ T -> At σ loc hs -> Inv T told (fun _ => False) loc hs -> pot hs <= 70 * hs.nodes.length + z ->
  (∀ σ' loc' hs' i, Went T told (fun _ => False) σ loc hs σ' loc' hs' -> i < hs'.nodes.length -> tm hs' i = t -> pot hs' <= 70 * hs'.nodes.length + z -> (t ∈ hs.terms -> σ' = σ /\ loc' = loc /\ hs' = hs) -> Q (natV i) σ') ->
  ACall Γ (n + 5) (.ref 332) [.ref (loc .H), t.v] σ Q := by
 intro n
 induction n with
 | zero => intro σ loc hs Q t hh; exact absurd hh (Nat.not_lt_zero _)
 | succ n ih =>
  intro σ loc hs Q t hh htT A I hp q
  obtain ⟨op, ts⟩ := t
  obtain ⟨ho, hts, hkT⟩ := hTO op ts htT
  refine hK.def2 def_332 bind_332 ?_
  ·skip
   have lvs := Tree.len_vs ts
   refine AExecs.cons (AExec.ret (hK.om .H 327 .cell A rfl ?_))
   refine AArgs.cons (AEval.sub (AEval.loc rfl (AEval.int (AItem.tuple (k := 0) (v := .str op) rfl (by rw [List.length_cons]; lia) (AArgs.cons ?_)))))
   refine hK.callT (id := "tuple") (AArgs.cons ?_)
   refine AEval.listcompG [(Str.ofString "self", .ref (loc .H))] (turn0 _ _ _ _ _) (by kernel_rfl) (free_one (by kernel_rfl) rfl) (AIt.val (AEval.tail1 (AEval.loc rfl (TailQ.mk (by simp) (by rw [List.length_cons]; lia) (WalkQ.mk rfl ?_))))) (fun _ _ => rfl)
   rw [show (V.str op :: Tree.vs ts).drop 1 = ts.map Tree.v from Tree.vs_map ts]
   refine CompRun.inv (PutI T told σ loc hs z op ts) ?_ ?_ _ _ _
    ⟨ts, [], [], loc, hs, rfl, rfl, rfl, Went.refl A I, hp, rfl, fun k hk => (nomatch hk), fun j k hk => (by simp at hk), fun _ => ⟨rfl, rfl, rfl⟩⟩
   ·rintro x xs acc σ₁ K ⟨rest, done, ks, loc₁, hs₁, e1, e2, rfl, W, hp1, hl, hlt, hg, hold⟩ hK'
    cases rest with
    | nil => cases e1
    | cons t rest =>
     rw [List.map_cons] at e1
     injection e1 with e1 e3
     subst e1
     subst e3
     have ht : t ∈ ts := by rw [<- e2]; simp
     have hth := Tree.height_mem ht
     rw [Tree.height] at hh
     have A1 := W.mv.to
     have hH : loc₁ .H = loc .H := W.mv.fx .H rfl
     refine ALoc.name (by kernel_rfl) ⟨keeps_one rfl, AComp.rest0 ?_⟩
     refine AEval.ownN (k := .cell) (f := 332) (a := loc .H) (by kernel_rfl) rfl rfl (by rw [<- hH]; exact A1.is .H _ rfl) (A1.is .Hd _ rfl) (hK.meth (by kernel_rfl)) (by kernel_rfl) (AArgs.loc rfl (AArgs.nil ?_))
     rw [<- hH]
     refine ih t (by lia) (hkT t ht) A1 W.inv hp1 fun σ₂ loc₂ hs₂ i W2 hi2 ht2 hp2 hold2 => ⟨?_, hK' _ _ ?_⟩
     ·have := congrArg List.length e2
      simp at this
      simp; lia
     ·refine ⟨rest, done ++ [t], ks ++ [i], loc₂, hs₂, rfl, by rw [List.append_assoc]; exact e2, by rw [List.map_append]; rfl, W.trans W2, hp2, by simp [hl], fun k hk => ?_, fun j k hk => ?_, fun hm => ?_⟩
      ·rcases List.mem_append.mp hk with h | h
       ·exact Nat.lt_of_lt_of_le (hlt k h) W2.ext.len
       ·rw [List.mem_singleton.mp h]; exact hi2
      ·rcases get_snoc.mp hk with h | ⟨h, h'⟩
       ·rw [W2.ext.tms k (hlt k (List.mem_of_getElem? h))]
        exact get_snoc.mpr (.inl (hg j k h))
       ·subst h'
        rw [ht2]
        exact get_snoc.mpr (.inr ⟨by lia, rfl⟩)
      ·obtain ⟨rfl, rfl, rfl⟩ := hold hm
       exact hold2 (I.kid_mem hm ht)
   ·rintro acc σ₁ ⟨rest, done, ks, loc₁, hs₁, e1, e2, rfl, W, hp1, hl, hlt, hg, hold⟩
    cases rest with
    | cons t rest => cases e1
    | nil =>
     rw [List.append_nil] at e2
     subst e2
     have A1 := W.mv.to
     have hH : loc₁ .H = loc .H := W.mv.fx .H rfl
     have sz := W.inv.size
     refine AArgs.nil (ACall.tupleList .lst (by simp; lia) (AArgs.nil ?_))
     rw [<- hH]
     refine (c_add (n := n) (nd := (op, ks)) (ts := done) hK A1 W.inv hT (by lia) ho htT ⟨hl, hg⟩ hlt (by show ks.length <= 2; lia) fun σ₂ loc₂ hs₂ i W2 hi2 ht2 hp2 hold2 => ?_)
     refine q _ _ _ i (W.trans W2) hi2 ht2 (by lia) fun hm => ?_
     obtain ⟨rfl, rfl, rfl⟩ := hold hm
     exact hold2 hm
end
section
variable {Γ : Cx} {n : Nat} {σ : Store} {Q : V -> Store -> Prop} {sc : Scope} {ρ : Vars} {T : List Tree} {told : List (Tree × Tree)} {X : Nat -> Prop} {loc : Loc} {hs : HS}
theorem ACall.lower {f : V} {vs : List V} (h : ACall Γ n f vs σ fun v σ' => ∃ σ₀, Le σ₀ σ' /\ Q v σ₀) : ACall Γ n f vs σ Q :=
 fun A s F fv vals hA S rf rv => wpAny_mono (h A s F fv vals hA S rf rv) (fun _ _ p => by
  obtain ⟨v, σ', r, S', T', σ₀, L, q⟩ := p
  exact ⟨v, σ₀, r.le L, S'.le L, T'.le L, q⟩) fun _ _ e => e
theorem le_put {a : Addr} {v : V} (h : σ a = none) : Le σ (put σ a v) := fun b u e => by
 rw [put_ne _ _ (fun q => by subst q; rw [h] at e; cases e)]; exact e
theorem put_comm {a b : Addr} (h : a ≠ b) (u v : V) : put (put σ a u) b v = put (put σ b v) a u := by
 funext c
 unfold put
 by_cases h1 : c = a
 ·subst h1; rw [if_neg h, if_pos rfl, if_pos rfl]
 ·by_cases h2 : c = b
  ·subst h2; rw [if_pos rfl, if_neg h1, if_pos rfl]
  ·rw [if_neg h2, if_neg h1, if_neg h1, if_neg h2]
noncomputable def bsV (bs : List Nat) : List (V × V) := bs.map fun k => (natV k, .bool true)
theorem dget_bs {k : Nat} : ∀ {bs : List Nat}, (dget (natV k) (bsV bs)).isSome = decide (k ∈ bs)
 | [] => rfl
 | b :: bs => by
  rw [bsV, List.map_cons, dget_cons]
  by_cases h : b = k
  ·subst h; rw [if_pos rfl]; simp
  ·rw [if_neg (fun e => h (natV_inj e))]
   have := dget_bs (k := k) (bs := bs)
   rw [bsV] at this
   rw [this]
   have h' : ¬ k = b := fun e => h e.symm
   simp [h']
theorem dput_bs {k : Nat} : ∀ {bs : List Nat}, k ∉ bs -> dput (natV k) (.bool true) (bsV bs) = bsV (bs ++ [k])
 | [], _ => rfl
 | b :: bs, h => by
  rw [bsV, List.map_cons, dput_cons, if_neg (fun e => h (by rw [natV_inj e]; exact List.mem_cons_self))]
  have := dput_bs (k := k) (bs := bs) fun q => h (List.mem_cons_of_mem _ q)
  rw [bsV] at this
  rw [this]; rfl
theorem kids_eq {nd : Nd} {ts : List Tree} (h : kidsOk hs nd ts) : ts = nd.2.map (tm hs) := by
 refine List.ext_getElem? fun j => ?_
 rw [List.getElem?_map]
 by_cases hj : j < nd.2.length
 ·have g := List.getElem?_eq_getElem hj
  rw [h.2 j _ g, g]; rfl
 ·rw [List.getElem?_eq_none (by have := h.1; lia), List.getElem?_eq_none (by lia)]; rfl
noncomputable def kidsAt (hs : HS) (k : Nat) : List Nat := (hs.nodes.getD k (⟨#[]⟩, [])).2
theorem nodup_len {l : List Nat} {N : Nat} (h : l.Nodup) (hl : ∀ k ∈ l, k < N) : l.length <= N := by
 have := List.Nodup.length_le_of_subset h (l₂ := List.range N) fun k hk => List.mem_range.mpr (hl k hk)
 rwa [List.length_range] at this
theorem def_162 : DefOk 162 := fun P => ⟨by kernel_rfl, by kernel_rfl⟩
theorem bind_162 (v u : Value) : bindArgs (fnA 162) ⟨[v, u], []⟩ = pure [(Str.ofString "self", v), (Str.ofString "n", u)] := by kernel_rfl
inductive TermW (loc : Loc) (hs : HS) (σ : Store) (b s : Addr) (i : Nat) (m : Nat) (ρ : Vars) (σ' : Store) : Prop
 | mk (bs : List Nat) (ss : List Nat) (c2 : σ' = put (put σ b (.dct .I (bsV bs))) s (.lst (ss.map natV))) (c3 : m = ss.length + 2 * (hs.nodes.length - bs.length)) (c4 : ρ.lookup (Str.ofString "self") = some (.ref (loc .B))) (c5 : ρ.lookup (Str.ofString "n") = some (natV i)) (c6 : ρ.lookup (Str.ofString "below") = some (.ref b)) (c7 : ρ.lookup (Str.ofString "stack") = some (.ref s)) (c8 : i ∈ bs) (c9 : bs.Nodup) (c10 : (∀ k ∈ bs, k < hs.nodes.length)) (c11 : (∀ k ∈ ss, k ∈ bs)) (c12 : ss.length <= 1000 + bs.length) (c13 : (∀ k ∈ bs, k ∉ ss -> ∀ j ∈ kidsAt hs k, j ∈ bs)) : TermW loc hs σ b s i m ρ σ'
inductive TermF (loc : Loc) (hs : HS) (σ : Store) (b s m : Addr) (i : Nat) (bs cs : List Nat) (xs : List V) (ρ : Vars) (σ' : Store) : Prop
 | mk (done : List Nat) (rest : List Nat) (es : List (V × V)) (c3 : xs = rest.map natV) (c4 : done ++ rest = cs) (c5 : σ' = put (put (put σ b (.dct .I (bsV bs))) s (.lst [])) m (.dct .I es)) (c6 : (∀ k ∈ done, dget (natV k) es = some (tm hs k).v)) (c7 : es.length <= done.length) (c8 : ρ.lookup (Str.ofString "self") = some (.ref (loc .B))) (c9 : ρ.lookup (Str.ofString "n") = some (natV i)) (c10 : ρ.lookup (Str.ofString "made") = some (.ref m)) : TermF loc hs σ b s m i bs cs xs ρ σ'
inductive TermG (loc : Loc) (hs : HS) (σ : Store) (b s : Addr) (i p : Nat) (bs w : List Nat) (xs : List V) (ρ : Vars) (σ' : Store) : Prop
 | mk (bs' : List Nat) (ss' : List Nat) (rest : List Nat) (c3 : xs = rest.map natV) (c4 : σ' = put (put σ b (.dct .I (bsV bs'))) s (.lst (ss'.map natV))) (c5 : ρ.lookup (Str.ofString "self") = some (.ref (loc .B))) (c6 : ρ.lookup (Str.ofString "n") = some (natV i)) (c7 : ρ.lookup (Str.ofString "below") = some (.ref b)) (c8 : ρ.lookup (Str.ofString "stack") = some (.ref s)) (c9 : i ∈ bs') (c10 : bs'.Nodup) (c11 : (∀ k ∈ bs', k < hs.nodes.length)) (c12 : (∀ k ∈ ss', k ∈ bs')) (c13 : ss'.length + bs.length = w.length + bs'.length) (c14 : (∀ k ∈ bs', k ∉ ss' -> k = p \/ ∀ j ∈ kidsAt hs k, j ∈ bs')) (c15 : (∀ j ∈ kidsAt hs p, j ∈ bs' \/ j ∈ rest)) (c16 : (∀ j ∈ rest, j < hs.nodes.length)) (c17 : w.length <= ss'.length) : TermG loc hs σ b s i p bs w xs ρ σ'
theorem c_term (hK : CK Γ) (A : At σ loc hs) (I : Inv T told X loc hs) (hT : T.length <= 28) {i : Nat} (hi : i < hs.nodes.length) (q : Q (tm hs i).v σ) : ACall Γ (n + 2) (.ref 162) [.ref (loc .B), natV i] σ Q := by
 have sz := I.size
 have hnode : ∀ k, k < hs.nodes.length -> ∃ nd, hs.nodes[k]? = some nd /\ nd.2 = kidsAt hs k /\ nd.2.length <= 2 /\ (∀ j ∈ nd.2, j < k) /\ (tm hs k).v = .tup (.str nd.1 :: nd.2.map fun j => (tm hs j).v) := fun k hk => by
  have g := List.getElem?_eq_getElem hk
  obtain ⟨h1, h2, ts, h3, h4⟩ := I.node k _ g
  refine ⟨_, g, ?_, h1, h2, ?_⟩
  ·unfold kidsAt; rw [List.getD_eq_getElem?_getD, g]; rfl
  ·rw [h3, kids_eq h4, Tree.v, Tree.vs_map, List.map_map]; rfl
 refine ACall.lower (hK.def2 def_162 bind_162 ?_)
 ·skip
  refine AExecs.cons (AExec.swap (names := ["below", "stack"]) (AEval.tuple (AArgs.cons (AEval.dict1 (AEval.loc rfl (AEval.boolc ⟨_, rfl, fun b hb => AArgs.cons (AEval.list (AArgs.loc rfl (AArgs.nil ⟨lim rfl, fun s hs0 => AArgs.nil ⟨lim rfl, _, rfl, rfl, ?_⟩⟩)))⟩))))) (by simp only [List.mem_cons, List.not_mem_nil, or_false]; rintro x (rfl | rfl) <;> kernel_rfl) (fun env he => by cases env; simp only at he; subst he; kernel_rfl))
  have hsb : s ≠ b := fun e => by subst e; rw [put_self] at hs0; cases hs0
  have hσs : σ s = none := by rw [put_ne _ _ hsb] at hs0; exact hs0
  have ob := A.off_none hb
  have os := A.off_none hσs
  have e0 : put (put σ b (.dct .I (dput (.int (i : Int)) (.bool true) []))) s (.lst [natV i]) = put (put σ b (.dct .I (bsV [i]))) s (.lst ([i].map natV)) := rfl
  rw [e0]
  have Ast : ∀ (bs : List (V × V)) (ss : List V), At (put (put σ b (.dct .I bs)) s (.lst ss)) loc hs := fun bs ss => (A.putOff ob).putOff os
  have stb : ∀ (bs : List (V × V)) (ss : List V), put (put σ b (.dct .I bs)) s (.lst ss) b = some (.dct .I bs) := fun bs ss => by rw [put_ne _ _ (fun e => hsb e.symm), put_self]
  have sts : ∀ (bs : List (V × V)) (ss : List V), put (put σ b (.dct .I bs)) s (.lst ss) s = some (.lst ss) := fun bs ss => put_self _ _ _
  have sps : ∀ (bs : List (V × V)) (ss ss' : List V), put (put (put σ b (.dct .I bs)) s (.lst ss)) s (.lst ss') = put (put σ b (.dct .I bs)) s (.lst ss') := fun bs ss ss' => put_put _ _ _ _
  have spb : ∀ (bs bs' : List (V × V)) (ss : List V), put (put (put σ b (.dct .I bs)) s (.lst ss)) b (.dct .I bs') = put (put σ b (.dct .I bs')) s (.lst ss) := fun bs bs' ss => by rw [put_comm hsb, put_put]
  refine AExecs.cons (AExec.while (TermW loc hs σ b s i) (1 + 2 * (hs.nodes.length - 1))
   ⟨[i], [i], rfl, rfl, rfl, rfl, rfl, rfl, by simp, by simp, by simpa using hi, by simp, by simp, fun k hk hn => absurd hk hn⟩ ?_)
  rintro m ρ σ' ⟨bs, ss, rfl, rfl, g1, g2, g3, g4, k1, k2, k3, k4, k5, k6⟩
  have hbl := nodup_len k2 k3
  refine ATest.compare (hK.callB (id := "len") (AArgs.loc g4 (AArgs.nil (ACall.lenList (.ref (sts _ _)) (lim_map (by lia)) (AEval.int (AOp2.gtI ?_))))))
  rw [List.length_map]
  rcases List.eq_nil_or_concat ss with e | ⟨w, p, e⟩
  ·subst e
   have Le0 : Le σ (put (put σ b (.dct .I (bsV bs))) s (.lst [])) := (le_put hb).trans (le_put (by rw [put_ne _ _ hsb]; exact hσs))
   refine AExecs.cons (AExec.assign (AEval.dict0 (f := .I) fun m hm => ?_))
   have hms : m ≠ s := fun e => by subst e; rw [sts] at hm; cases hm
   have hmb : m ≠ b := fun e => by subst e; rw [stb] at hm; cases hm
   have om := (Ast (bsV bs) []).off_none hm
   refine AAssign.cel ?_
   have Am : ∀ es : List (V × V), At (put (put (put σ b (.dct .I (bsV bs))) s (.lst [])) m (.dct .I es)) loc hs := fun es => (Ast _ _).putOff om
   have hclosed : ∀ k ∈ bs, ∀ j ∈ kidsAt hs k, j ∈ bs := fun k hk => k6 k hk (by simp)
   refine AExecs.cons (AExec.for (AIt.val (hK.callB (id := "sorted") (AArgs.loc g3 (AArgs.nil ?_)))))
   refine ACall.sortedD (es := bsV bs) (is := bs.map fun k : Nat => (k : Int)) (.ref (by rw [put_ne _ _ (fun e => hmb e.symm)]; exact stb _ _)) (by unfold bsV; rw [List.map_map, List.map_map]; rfl) (by rw [List.length_map]; lia) fun js hj1 hj2 => WalkQ.mk rfl ?_
   obtain ⟨cs, rfl⟩ := ints_nats (js := js) fun j hj => by
    obtain ⟨k, _, rfl⟩ := List.mem_map.mp (hj1.mem_iff.mp hj); lia
   have hcm : ∀ c, c ∈ cs ↔ c ∈ bs := fun c => by
    have h0 : ∀ l : List Nat, c ∈ l ↔ (c : Int) ∈ l.map (fun c : Nat => (c : Int)) := fun l => by
     refine ⟨fun h => List.mem_map_of_mem h, fun h => ?_⟩
     obtain ⟨c', h1, h2⟩ := List.mem_map.mp h
     obtain rfl : c' = c := by lia
     exact h1
    rw [h0 cs, h0 bs, hj1.mem_iff]
   have hcs : cs.Pairwise (· <= ·) := (List.pairwise_map.mp hj2).imp fun h => by lia
   have hcl : cs.length <= 28 := by
    have := hj1.length_eq
    rw [List.length_map, List.length_map] at this
    lia
   rw [show (cs.map fun c : Nat => (c : Int)).map V.int = cs.map natV from by rw [List.map_map]; rfl]
   refine ForRun.inv (TermF loc hs σ b s m i bs cs) ?_ ?_ _ _ _ ⟨[], cs, [], rfl, rfl, rfl, fun k hk => (nomatch hk), Nat.le_refl _, g1, g2, rfl⟩
   ·rintro x xs ρ σ' K ⟨done, rest, es, e1, e2, rfl, hd, hel, g5, g6, g7⟩ hK'
    cases rest with
    | nil => cases e1
    | cons c rest =>
     rw [List.map_cons] at e1
     injection e1 with e1 e3
     subst e1
     subst e3
     have hc : c ∈ cs := by rw [<- e2]; simp
     have hcb := (hcm c).mp hc
     have hcn := k3 c hcb
     obtain ⟨nd, n1, n2, n3, n4, n5⟩ := hnode c hcn
     have hdl : done.length <= 28 := by
      have := congrArg List.length e2
      rw [List.length_append] at this
      lia
     have hkd : ∀ j ∈ nd.2, dget (natV j) es = some (tm hs j).v := fun j hj => by
      refine hd j ?_
      have h1 : j ∈ cs := (hcm j).mpr (hclosed c hcb j (n2 ▸ hj))
      have h2 := n4 j hj
      rw [<- e2] at h1 hcs
      rcases List.mem_append.mp h1 with h | h
      ·exact h
      ·rcases List.mem_cons.mp h with h | h
       ·lia
       ·have := (List.pairwise_append.mp hcs).2.1
        have := (List.pairwise_cons.mp this).1 j h
        lia
     refine AAssign.loc ?_
     have g5' : List.lookup (Str.ofString "self") ((Str.ofString "k", natV c) :: ρ) = some (V.ref (loc .B)) := g5
     have g7' : List.lookup (Str.ofString "made") ((Str.ofString "k", natV c) :: ρ) = some (V.ref m) := g7
     refine AExecs.cons (AExec.assign (AEval.binop (AEval.tuple (AArgs.cons (hK.om .B 143 .local (Am _) g5' (AArgs.loc rfl (AArgs.nil (c_op hK (Am _) (by lia) n1 (by lia) (AArgs.nil ⟨lim rfl, ?_⟩)))))))))
     refine hK.callT (id := "tuple") (AArgs.cons ?_)
     refine AEval.listcompG [(Str.ofString "made", .ref m)] (turn0 _ _ _ _ _) (by kernel_rfl) (free_one (by kernel_rfl) g7') (AIt.val (hK.om .B 150 .local (Am _) g5' (AArgs.loc rfl (AArgs.nil (c_kids hK (Am _) (by lia) n1 (by lia) (WalkQ.mk rfl ?_)))))) (fun _ _ => rfl)
     refine CompRun.mapE natV (fun j => (tm hs j).v) nd.2 [] (lim_nil (by lia)) (fun j hj acc' K' hz' hK2 => ?_) ?_
     ·refine ALoc.name (by kernel_rfl) ⟨keeps_one rfl, AComp.rest0 ?_⟩
      exact AEval.sub (AEval.cel rfl (AEval.loc rfl (AItem.dict (.ref (put_self _ _ _)) ⟨_, rfl⟩ (hkd j hj) ⟨hz', hK2⟩)))
     ·refine AArgs.nil (ACall.tupleList .lst (by simp; lia) (AOp2.addT (by simp; lia) ?_))
      have : V.tup ([V.str nd.1] ++ ([] ++ nd.2.map fun j => (tm hs j).v)) = (tm hs c).v := by rw [n5]; rfl
      rw [this]
      refine AAssign.sub (AEval.cel g7' (AEval.loc rfl (ASetItem.dict (put_self _ _ _) ⟨_, rfl⟩ (by lia) ?_)))
      rw [put_put]
      refine AExecs.nil (hK' _ _ ⟨done ++ [c], rest, _, rfl, by rw [List.append_assoc]; exact e2, rfl, fun k hk => ?_, ?_, g5', g6, g7'⟩)
      ·show dget (natV k) (dput (natV c) (tm hs c).v es) = _
       rw [dget_dput]
       by_cases h : natV c = natV k
       ·rw [if_pos h, natV_inj h]
       ·rw [if_neg h]
        refine hd k ?_
        rcases List.mem_append.mp hk with h1 | h1
        ·exact h1
        ·exact absurd (by rw [List.mem_singleton.mp h1]) h
      ·have := @dput_len (natV c) (tm hs c).v es
       show (dput (natV c) (tm hs c).v es).length <= _
       rw [List.length_append, List.length_singleton]; lia
   ·rintro ρ σ' ⟨done, rest, es, e1, e2, rfl, hd, hel, g5, g6, g7⟩
    cases rest with
    | cons c rest => cases e1
    | nil =>
     rw [List.append_nil] at e2
     subst e2
     refine AExecs.cons (AExec.ret (AEval.sub (AEval.cel g7 (AEval.loc g6 (AItem.dict (.ref (put_self _ _ _)) ⟨_, rfl⟩ (hd i ((hcm i).mpr k1)) ⟨σ, Le0.trans (le_put hm), q⟩)))))
  ·rw [List.concat_eq_append] at e
   subst e
   rw [decide_eq_true (by rw [List.length_append, List.length_singleton]; lia)]
   have hp := k3 p (k4 p (by simp))
   obtain ⟨nd, n1, n2, n3, n4, n5⟩ := hnode p hp
   refine AExecs.cons (AExec.for (AIt.val (hK.om .B 150 .local (Ast _ _) g1 (AArgs.cons ?_))))
   refine AEval.meth (AEval.loc g4 ?_)
   have hw1 : put (put σ b (.dct .I (bsV bs))) s (.lst ((w ++ [p]).map natV)) s = some (.lst (w.map natV ++ [natV p])) := by rw [sts, List.map_append]; rfl
   refine AMeth.blt (list_type (.ref hw1)) PySem.F.plainAttrs_list PySem.F.slot_list_pop PySem.F.type_list_pop ⟨trivial, AArgs.nil (ACall.pop hw1 (by simp at k5 ⊢; lia) (AArgs.nil ?_))⟩
   rw [sps]
   refine c_kids hK (Ast _ _) (by lia) n1 (by lia) (WalkQ.mk rfl ?_)
   refine ForRun.inv (TermG loc hs σ b s i p bs w) ?_ ?_ _ _ _
    ⟨bs, w, nd.2, rfl, rfl, g1, g2, g3, g4, k1, k2, k3, fun k hk => k4 k (List.mem_append_left _ hk), by lia, fun k hk hn => ?_, fun j hj => .inr (n2 ▸ hj), fun j hj => by have := n4 j hj; lia, Nat.le_refl _⟩
   ·rintro x xs ρ σ' K ⟨bs', ss', rest, e1, rfl, f1, f2, f3, f4, l1, l2, l3, l4, l5, l6, l7, l8, l9⟩ hK'
    cases rest with
    | nil => cases e1
    | cons j rest =>
     rw [List.map_cons] at e1
     injection e1 with e1 e3
     subst e1
     subst e3
     have hbl' := nodup_len l2 l3
     refine AAssign.loc ?_
     have f3' : List.lookup (Str.ofString "below") ((Str.ofString "kid", natV j) :: ρ) = some (V.ref b) := f3
     have f4' : List.lookup (Str.ofString "stack") ((Str.ofString "kid", natV j) :: ρ) = some (V.ref s) := f4
     refine AExecs.cons (AExec.if (ATest.compare (AEval.loc rfl (AEval.loc f3' (AOp2.notInD (.ref (stb _ _)) ⟨_, rfl⟩ ?_)))))
     rw [dget_bs]
     by_cases hj : j ∈ bs'
     ·rw [decide_eq_true hj]
      exact AExecs.nil (AExecs.nil (hK' _ _ ⟨bs', ss', rest, rfl, rfl, f1, f2, f3', f4', l1, l2, l3, l4, l5, l6, fun q hq => (l7 q hq).elim .inl fun h => (List.mem_cons.mp h).elim (fun e => .inl (e ▸ hj)) .inr, fun q hq => l8 q (List.mem_cons_of_mem _ hq), l9⟩))
     ·rw [decide_eq_false hj]
      refine AExecs.cons (AExec.assign (AEval.boolc (AAssign.sub (AEval.loc f3' (AEval.loc rfl (ASetItem.dict (stb _ _) ⟨_, rfl⟩ (by unfold bsV; rw [List.length_map]; lia) ?_))))))
      rw [dput_bs hj, spb]
      refine AExecs.cons (AExec.expr (AEval.meth (AEval.loc f4' ?_)))
      refine AMeth.blt (list_type (.ref (sts _ _))) PySem.F.plainAttrs_list PySem.F.slot_list_append PySem.F.type_list_append ⟨trivial, AArgs.loc rfl (AArgs.nil (ACall.append (sts _ _) (by rw [List.length_map]; rw [List.length_append, List.length_singleton] at k5; lia) ?_))⟩
      rw [sps]
      refine AExecs.nil (AExecs.nil (hK' _ _ ⟨bs' ++ [j], ss' ++ [j], rest, rfl, by rw [List.map_append]; rfl, f1, f2, f3', f4', List.mem_append_left _ l1, ?_, ?_, ?_, by rw [List.length_append, List.length_append]; simp only [List.length_singleton]; lia, ?_, ?_, fun q hq => l8 q (List.mem_cons_of_mem _ hq), by rw [List.length_append]; lia⟩))
      ·rw [List.nodup_append]
       exact ⟨l2, by simp, fun a ha c hc e => hj (by rw [<- List.mem_singleton.mp hc, <- e]; exact ha)⟩
      ·intro k hk
       rcases List.mem_append.mp hk with h | h
       ·exact l3 k h
       ·rw [List.mem_singleton.mp h]; exact l8 j List.mem_cons_self
      ·intro k hk
       rcases List.mem_append.mp hk with h | h
       ·exact List.mem_append_left _ (l4 k h)
       ·exact List.mem_append_right _ h
      ·intro k hk hn
       rcases List.mem_append.mp hk with h | h
       ·rcases l6 k h fun q => hn (List.mem_append_left _ q) with h' | h'
        ·exact .inl h'
        ·exact .inr fun q hq => List.mem_append_left _ (h' q hq)
       ·exact absurd (List.mem_append_right _ h) hn
      ·intro q hq
       rcases l7 q hq with h | h
       ·exact .inl (List.mem_append_left _ h)
       ·rcases List.mem_cons.mp h with h | h
        ·exact .inl (by rw [h]; simp)
        ·exact .inr h
   ·rintro ρ σ' ⟨bs', ss', rest, e1, rfl, f1, f2, f3, f4, l1, l2, l3, l4, l5, l6, l7, l8, l9⟩
    cases rest with
    | cons c rest => cases e1
    | nil =>
     have hbl' := nodup_len l2 l3
     rw [List.length_append, List.length_singleton] at k5 ⊢
     refine AExecs.nil ⟨_, ?_, bs', ss', rfl, rfl, f1, f2, f3, f4, l1, l2, l3, l4, by lia, fun k hk hn => ?_⟩
     ·have : (fun (k : Nat) => k) (ss'.length + 2 * (hs.nodes.length - bs'.length)) < w.length + 1 + 2 * (hs.nodes.length - bs.length) := by simp only; lia
      exact this
     ·rcases l6 k hk hn with h | h
      ·subst h; exact fun j hj => (l7 j hj).elim id fun h => nomatch h
      ·exact h
   ·by_cases h : k = p
    ·exact .inl h
    ·exact .inr (k6 k hk fun q => (List.mem_append.mp q).elim hn fun q => h (List.mem_singleton.mp q))
end
section
variable {Γ : Cx} {n : Nat} {σ σ₀ : Store} {Q : V -> Store -> Prop} {sc : Scope} {ρ : Vars} {T : List Tree} {told : List (Tree × Tree)} {X : Nat -> Prop} {loc : Loc} {hs : HS}
theorem CK.code1 (hK : CK Γ) {fa : Addr} {x : Str} {a : V} (hd : DefOk fa) (hb : ∀ v, bindArgs (fnA fa) ⟨[v], []⟩ = pure [(x, v)])
  (h : AExecs Γ n (scA fa) [(x, a)] (boA fa) σ (RetQ Q)) (hk : bindsOk (scA fa) [x] = true := by kernel_rfl) : ACode Γ (n + 1) (.ref fa) [a] σ Q := by
 have e : Γ.K = Mine.KT Γ.w.params := hK
 obtain ⟨h1, h2⟩ := hd Γ.w.params
 rw [<- e] at h1 h2
 unfold scA at hk h
 unfold boA at h
 rw [<- h2] at hb hk h
 obtain ⟨o, g1, g2, g3, g4, g5, g6, g7, g8⟩ := isDef_spec h1
 exact ACode.fn (names := [x]) g1 g2 g3 g4 g5 g6 g7 g8 (fun vals hv => by obtain ⟨v, rfl⟩ := List.length_eq_one_iff.mp hv; exact hb v) hk h
structure AtG (σ₀ σ : Store) (loc : Loc) (im : Lab -> Option V) : Prop where
 is : ∀ l v, im l = some v -> σ (loc l) = some v
 inj : ∀ l l', im l ≠ none -> im l' ≠ none -> loc l = loc l' -> l = l'
 le : Le σ₀ σ
 off : ∀ l, im l ≠ none -> σ₀ (loc l) = none
theorem AtG.new {im : Lab -> Option V} {l : Lab} {a : Addr} {v : V} (g : AtG σ₀ σ loc im) (ha : σ a = none) (hl : im l = none) : AtG σ₀ (put σ a v) (upd loc l a) (fun l' => if l' = l then some v else im l') := by
 have live : ∀ l', im l' ≠ none -> loc l' ≠ a /\ l' ≠ l := fun l' h => by
  constructor
  ·intro e
   cases q : im l' with
   | none => exact h q
   | some u => rw [<- e, g.is _ _ q] at ha; cases ha
  ·intro e; subst e; exact h hl
 have u1 : upd loc l a l = a := if_pos rfl
 have u2 : ∀ l', l' ≠ l -> upd loc l a l' = loc l' := fun l' h => if_neg h
 refine ⟨fun l' u e => ?_, fun l1 l2 h1 h2 e => ?_, g.le.trans (le_put ha), fun l' h => ?_⟩
 ·have e : (if l' = l then some v else im l') = some u := e
  by_cases q : l' = l
  ·subst q; rw [if_pos rfl] at e; cases e; rw [u1, put_self]
  ·rw [if_neg q] at e
   rw [u2 _ q, put_ne _ _ (live l' (by rw [e]; exact fun e => nomatch e)).1]; exact g.is _ _ e
 ·have h1 : (if l1 = l then some v else im l1) ≠ none := h1
  have h2 : (if l2 = l then some v else im l2) ≠ none := h2
  by_cases q1 : l1 = l
  ·by_cases q2 : l2 = l
   ·rw [q1, q2]
   ·rw [if_neg q2] at h2
    rw [q1, u1, u2 _ q2] at e
    exact absurd e.symm (live _ h2).1
  ·rw [if_neg q1] at h1
   by_cases q2 : l2 = l
   ·rw [q2, u1, u2 _ q1] at e
    exact absurd e (live _ h1).1
   ·rw [if_neg q2] at h2
    rw [u2 _ q1, u2 _ q2] at e
    exact g.inj _ _ h1 h2 e
 ·have h : (if l' = l then some v else im l') ≠ none := h
  by_cases q : l' = l
  ·subst q
   rw [u1]
   cases e : σ₀ a with
   | none => rfl
   | some u => rw [g.le _ _ e] at ha; cases ha
  ·rw [if_neg q] at h
   rw [u2 _ q]; exact g.off _ h
theorem AtG.put {im : Lab -> Option V} {l : Lab} {v : V} (g : AtG σ₀ σ loc im) (hl : im l ≠ none) : AtG σ₀ (Mine.put σ (loc l) v) loc (fun l' => if l' = l then some v else im l') := by
 have live : ∀ l', (if l' = l then some v else im l') ≠ none -> im l' ≠ none := fun l' h => by
  by_cases q : l' = l
  ·subst q; exact hl
  ·rw [if_neg q] at h; exact h
 refine ⟨fun l' u e => ?_, fun l1 l2 h1 h2 e => g.inj _ _ (live _ h1) (live _ h2) e, fun b u e => ?_, fun l' h => g.off _ (live _ h)⟩
 ·have e : (if l' = l then some v else im l') = some u := e
  by_cases q : l' = l
  ·subst q; rw [if_pos rfl] at e; cases e; rw [put_self]
  ·rw [if_neg q] at e
   rw [put_ne _ _ (fun z => q (g.inj _ _ (by rw [e]; exact fun e => nomatch e) hl z))]; exact g.is _ _ e
 ·rw [put_ne _ _ (fun z => by rw [z, g.off _ hl] at e; cases e)]; exact g.le _ _ e
theorem AtG.congr {im im' : Lab -> Option V} (g : AtG σ₀ σ loc im) (h : ∀ l, im' l = im l) : AtG σ₀ σ loc im' := by
 have : im' = im := funext h
 rw [this]; exact g
theorem fput_len {name : Str} {v : V} : ∀ fs : List (V × V), (fput name v fs).length <= fs.length + 1
 | [] => Nat.le_refl _
 | (k, u) :: r => by
  have ih := fput_len (name := name) (v := v) r
  cases k
  case str s =>
   show (if s = name then (V.str s, v) :: r else (V.str s, u) :: fput name v r).length <= _
   split
   ·simp
   ·rw [List.length_cons, List.length_cons]; lia
  all_goals
   show (_ :: fput name v r).length <= _
   rw [List.length_cons, List.length_cons]; lia
noncomputable def imB (loc : Loc) (im : Lab -> Option V) : Lab -> Option V
 | .B => some (.inst 186 (loc .Bd))
 | .Bd => some (.dct .S (fieldsB loc))
 | .N => some (.lst [])
 | .Nu => some (.dct .N [])
 | .We => some (.lst [])
 | .De => some (.lst [])
 | l => im l
noncomputable def isB : Lab -> Bool
 | .B => true | .Bd => true | .N => true | .Nu => true | .We => true | .De => true
 | _ => false
theorem def_98 : DefOk 98 := fun P => ⟨by kernel_rfl, by kernel_rfl⟩
theorem bind_98 (v : Value) : bindArgs (fnA 98) ⟨[v], []⟩ = pure [(Str.ofString "self", v)] := by kernel_rfl
theorem c_bank_new (hK : CK Γ) {im : Lab -> Option V} (g : AtG σ₀ σ loc im) (hn : ∀ l, isB l = true -> im l = none)
  (q : ∀ σ' loc', AtG σ₀ σ' loc' (imB loc' im) -> (∀ l, isB l = false -> loc' l = loc l) -> Q (.ref (loc' .B)) σ') : ACall Γ (n + 2) (.ref 186) [] σ Q := by
 refine ACall.new (f := 98) (by rw [hK]; kernel_rfl) (by rw [hK]; kernel_rfl) (by rw [hK]; kernel_rfl) fun x d hxd hx hd => ?_
 have g1 := g.new (l := .Bd) (v := .dct .S []) hd (hn _ rfl)
 have g2 := g1.new (l := .B) (a := x) (v := .inst 186 d) (by rw [put_ne _ _ hxd]; exact hx) (hn .B rfl)
 refine hK.code1 def_98 bind_98 ?_
 ·skip
  refine AExecs.cons (AExec.assign (AEval.list (AArgs.nil ⟨lim rfl, fun a1 h1 => ?_⟩)))
  have g3 := g2.new (l := .N) (v := .lst []) h1 (hn .N rfl)
  refine AAssign.attr (AEval.loc rfl ⟨x, 186, d, [], rfl, g3.is .B _ rfl, g3.is .Bd _ rfl, by rw [hK]; kernel_rfl, by simp, ?_⟩)
  have g4 := g3.put (l := .Bd) (v := .dct .S (fput "nodes" (.ref a1) [])) (fun e => nomatch e)
  refine AExecs.cons (AExec.assign (AEval.dict0 (f := .N) fun a2 h2 => ?_))
  have g5 := g4.new (l := .Nu) (v := .dct .N []) h2 (hn .Nu rfl)
  have z1 := @fput_len "nodes" (.ref a1) []
  refine AAssign.attr (AEval.loc rfl ⟨x, 186, d, _, rfl, g5.is .B _ rfl, g5.is .Bd _ rfl, by rw [hK]; kernel_rfl, by simp at z1 ⊢; lia, ?_⟩)
  have g6 := g5.put (l := .Bd) (v := .dct .S (fput "numbers" (.ref a2) (fput "nodes" (.ref a1) []))) (fun e => nomatch e)
  refine AExecs.cons (AExec.assign (AEval.list (AArgs.nil ⟨lim rfl, fun a3 h3 => ?_⟩)))
  have g7 := g6.new (l := .We) (v := .lst []) h3 (hn .We rfl)
  have z2 := @fput_len "numbers" (.ref a2) (fput "nodes" (.ref a1) [])
  refine AAssign.attr (AEval.loc rfl ⟨x, 186, d, _, rfl, g7.is .B _ rfl, g7.is .Bd _ rfl, by rw [hK]; kernel_rfl, by simp at z1 z2 ⊢; lia, ?_⟩)
  have g8 := g7.put (l := .Bd) (v := .dct .S (fput "weights" (.ref a3) (fput "numbers" (.ref a2) (fput "nodes" (.ref a1) [])))) (fun e => nomatch e)
  refine AExecs.cons (AExec.assign (AEval.list (AArgs.nil ⟨lim rfl, fun a4 h4 => ?_⟩)))
  have g9 := g8.new (l := .De) (v := .lst []) h4 (hn .De rfl)
  have z3 := @fput_len "weights" (.ref a3) (fput "numbers" (.ref a2) (fput "nodes" (.ref a1) []))
  refine AAssign.attr (AEval.loc rfl ⟨x, 186, d, _, rfl, g9.is .B _ rfl, g9.is .Bd _ rfl, by rw [hK]; kernel_rfl, by simp at z1 z2 z3 ⊢; lia, ?_⟩)
  have g10 := g9.put (l := .Bd) (v := .dct .S (fput "depths" (.ref a4) (fput "weights" (.ref a3) (fput "numbers" (.ref a2) (fput "nodes" (.ref a1) []))))) (fun e => nomatch e)
  refine AExecs.nil ⟨rfl, q _ _ (g10.congr (im' := imB _ im) fun l => ?_) fun l hl => ?_⟩
  ·cases l <;> rfl
  ·cases l <;> first | rfl | cases hl
end
section
variable {Γ : Cx} {n : Nat} {σ σ₀ : Store} {Q : V -> Store -> Prop} {sc : Scope} {ρ : Vars} {T : List Tree} {told : List (Tree × Tree)} {X : Nat -> Prop} {loc : Loc} {hs : HS}
noncomputable def mix (p : Lab -> Bool) (a b : Loc) : Loc := fun l => if p l then a l else b l
theorem mix_eq {p : Lab -> Bool} {a b : Loc} (h : ∀ l, p l = false -> a l = b l) : mix p a b = a := by
 funext l
 unfold mix
 cases e : p l with
 | true => rfl
 | false => exact (h l e).symm
noncomputable def imU (loc : Loc) (im : Lab -> Option V) : Lab -> Option V
 | .U => some (.inst 292 (loc .Ud))
 | .Ud => some (.dct .S (fieldsU loc))
 | .Ua => some (.lst [])
 | .Ul => some (.lst [])
 | .Um => some (.lst [])
 | l => im l
noncomputable def isU : Lab -> Bool
 | .U => true | .Ud => true | .Ua => true | .Ul => true | .Um => true
 | _ => false
theorem def_228 : DefOk 228 := fun P => ⟨by kernel_rfl, by kernel_rfl⟩
theorem bind_228 (v : Value) : bindArgs (fnA 228) ⟨[v], []⟩ = pure [(Str.ofString "self", v)] := by kernel_rfl
theorem c_unions_new (hK : CK Γ) {im : Lab -> Option V} (g : AtG σ₀ σ loc im) (hn : ∀ l, isU l = true -> im l = none)
  (q : ∀ σ' loc', AtG σ₀ σ' loc' (imU loc' im) -> (∀ l, isU l = false -> loc' l = loc l) -> Q (.ref (loc' .U)) σ') : ACall Γ (n + 2) (.ref 292) [] σ Q := by
 refine ACall.new (f := 228) (by rw [hK]; kernel_rfl) (by rw [hK]; kernel_rfl) (by rw [hK]; kernel_rfl) fun x d hxd hx hd => ?_
 have g1 := g.new (l := .Ud) (v := .dct .S []) hd (hn _ rfl)
 have g2 := g1.new (l := .U) (a := x) (v := .inst 292 d) (by rw [put_ne _ _ hxd]; exact hx) (hn .U rfl)
 refine hK.code1 def_228 bind_228 ?_
 ·skip
  refine AExecs.cons (AExec.assign (AEval.list (AArgs.nil ⟨lim rfl, fun a1 h1 => ?_⟩)))
  have g3 := g2.new (l := .Ua) (v := .lst []) h1 (hn .Ua rfl)
  refine AAssign.attr (AEval.loc rfl ⟨x, 292, d, [], rfl, g3.is .U _ rfl, g3.is .Ud _ rfl, by rw [hK]; kernel_rfl, by simp, ?_⟩)
  have g4 := g3.put (l := .Ud) (v := .dct .S (fput "above" (.ref a1) [])) (fun e => nomatch e)
  refine AExecs.cons (AExec.assign (AEval.list (AArgs.nil ⟨lim rfl, fun a2 h2 => ?_⟩)))
  have g5 := g4.new (l := .Ul) (v := .lst []) h2 (hn .Ul rfl)
  have z1 := @fput_len "above" (.ref a1) []
  refine AAssign.attr (AEval.loc rfl ⟨x, 292, d, _, rfl, g5.is .U _ rfl, g5.is .Ud _ rfl, by rw [hK]; kernel_rfl, by simp at z1 ⊢; lia, ?_⟩)
  have g6 := g5.put (l := .Ud) (v := .dct .S (fput "lots" (.ref a2) (fput "above" (.ref a1) []))) (fun e => nomatch e)
  refine AExecs.cons (AExec.assign (AEval.list (AArgs.nil ⟨lim rfl, fun a3 h3 => ?_⟩)))
  have g7 := g6.new (l := .Um) (v := .lst []) h3 (hn .Um rfl)
  have z2 := @fput_len "lots" (.ref a2) (fput "above" (.ref a1) [])
  refine AAssign.attr (AEval.loc rfl ⟨x, 292, d, _, rfl, g7.is .U _ rfl, g7.is .Ud _ rfl, by rw [hK]; kernel_rfl, by simp at z1 z2 ⊢; lia, ?_⟩)
  have g8 := g7.put (l := .Ud) (v := .dct .S (fput "merged" (.ref a3) (fput "lots" (.ref a2) (fput "above" (.ref a1) [])))) (fun e => nomatch e)
  refine AExecs.nil ⟨rfl, q _ _ (g8.congr (im' := imU _ im) fun l => ?_) fun l hl => ?_⟩
  ·cases l <;> rfl
  ·cases l <;> first | rfl | cases hl
noncomputable def hs0 : HS := { nodes := [], terms := [], wts := [], dps := [], par := [], lots := [], ulV := [], merged := [], edges := [], forest := [], waiting := [], uses := fun _ => none, kn := fun _ => none, num := fun _ => none, numV := [], knV := [], abV := [] }
theorem AtG.fin {im : Lab -> Option V} (g : AtG σ₀ σ loc im) (h : ∀ l, img loc hs0 l = im l) : AtG σ₀ σ loc (img loc hs0) := g.congr h
theorem def_310 : DefOk 310 := fun P => ⟨by kernel_rfl, by kernel_rfl⟩
theorem bind_310 (v : Value) : bindArgs (fnA 310) ⟨[v], []⟩ = pure [(Str.ofString "self", v)] := by kernel_rfl
theorem c_heap_new (hK : CK Γ) (q : ∀ σ' loc, At σ' loc hs0 -> Le σ σ' -> (∀ a v, σ a = some v -> Off loc hs0 a) -> Q (.ref (loc .H)) σ') : ACall Γ (n + 4) (.ref 424) [] σ Q := by
 have g : AtG σ σ (fun _ => 0) (fun _ => none) := ⟨fun _ _ e => (nomatch e), fun _ _ h => absurd rfl h, Le.refl _, fun _ h => absurd rfl h⟩
 refine ACall.new (f := 310) (by rw [hK]; kernel_rfl) (by rw [hK]; kernel_rfl) (by rw [hK]; kernel_rfl) fun x d hxd hx hd => ?_
 have g1 := g.new (l := .Hd) (v := .dct .S []) hd rfl
 have g2 := g1.new (l := .H) (a := x) (v := .inst 424 d) (by rw [put_ne _ _ hxd]; exact hx) rfl
 refine hK.code1 def_310 bind_310 ?_
 ·skip
  refine AExecs.cons (AExec.assign (hK.callG (a := 186) (AArgs.nil ?_)))
  refine c_bank_new hK g2 (fun l h => by cases l <;> first | rfl | cases h) fun σ₁ l₁ g3 e3 => ?_
  rw [<- mix_eq e3] at g3
  refine AAssign.attr (AEval.loc rfl ⟨x, 424, d, [], rfl, g3.is .H _ rfl, g3.is .Hd _ rfl, by rw [hK]; kernel_rfl, by simp, ?_⟩)
  have g4 := g3.put (l := .Hd) (v := .dct .S (fput "bank" (.ref (l₁ .B)) [])) (fun e => nomatch e)
  refine AExecs.cons (AExec.assign (hK.callG (a := 292) (AArgs.nil ?_)))
  refine c_unions_new hK g4 (fun l h => by cases l <;> first | rfl | cases h) fun σ₂ l₂ g5 e5 => ?_
  rw [<- mix_eq e5] at g5
  have z1 := @fput_len "bank" (.ref (l₁ .B)) []
  refine AAssign.attr (AEval.loc rfl ⟨x, 424, d, _, rfl, g5.is .H _ rfl, g5.is .Hd _ rfl, by rw [hK]; kernel_rfl, by simp at z1 ⊢; lia, ?_⟩)
  have g6 := g5.put (l := .Hd) (v := .dct .S (fput "unions" (.ref (l₂ .U)) (fput "bank" (.ref (l₁ .B)) []))) (fun e => nomatch e)
  have z2 := @fput_len "unions" (.ref (l₂ .U)) (fput "bank" (.ref (l₁ .B)) [])
  generalize hf2 : fput "unions" (.ref (l₂ .U)) (fput "bank" (.ref (l₁ .B)) []) = f2 at *
  refine AExecs.cons (AExec.assign (AEval.list (AArgs.nil ⟨lim rfl, fun a3 h3 => ?_⟩)))
  have g7 := g6.new (l := .E) (v := .lst []) h3 rfl
  refine AAssign.attr (AEval.loc rfl ⟨x, 424, d, _, rfl, g7.is .H _ rfl, g7.is .Hd _ rfl, by rw [hK]; kernel_rfl, by simp at z1 z2 ⊢; lia, ?_⟩)
  have g8 := g7.put (l := .Hd) (v := .dct .S (fput "edges" (.ref a3) f2)) (fun e => nomatch e)
  have z3 := @fput_len "edges" (.ref a3) f2
  generalize hf3 : fput "edges" (.ref a3) f2 = f3 at *
  refine AExecs.cons (AExec.assign (AEval.list (AArgs.nil ⟨lim rfl, fun a4 h4 => ?_⟩)))
  have g9 := g8.new (l := .Fo) (v := .lst []) h4 rfl
  refine AAssign.attr (AEval.loc rfl ⟨x, 424, d, _, rfl, g9.is .H _ rfl, g9.is .Hd _ rfl, by rw [hK]; kernel_rfl, by simp at z1 z2 ⊢; lia, ?_⟩)
  have g10 := g9.put (l := .Hd) (v := .dct .S (fput "forest" (.ref a4) f3)) (fun e => nomatch e)
  have z4 := @fput_len "forest" (.ref a4) f3
  generalize hf4 : fput "forest" (.ref a4) f3 = f4 at *
  refine AExecs.cons (AExec.assign (AEval.dict0 (f := .N) fun a5 h5 => ?_))
  have g11 := g10.new (l := .K) (v := .dct .N []) h5 rfl
  refine AAssign.attr (AEval.loc rfl ⟨x, 424, d, _, rfl, g11.is .H _ rfl, g11.is .Hd _ rfl, by rw [hK]; kernel_rfl, by simp at z1 z2 ⊢; lia, ?_⟩)
  have g12 := g11.put (l := .Hd) (v := .dct .S (fput "known" (.ref a5) f4)) (fun e => nomatch e)
  have z5 := @fput_len "known" (.ref a5) f4
  generalize hf5 : fput "known" (.ref a5) f4 = f5 at *
  refine AExecs.cons (AExec.assign (AEval.dict0 (f := .I) fun a6 h6 => ?_))
  have g13 := g12.new (l := .Ab) (v := .dct .I []) h6 rfl
  refine AAssign.attr (AEval.loc rfl ⟨x, 424, d, _, rfl, g13.is .H _ rfl, g13.is .Hd _ rfl, by rw [hK]; kernel_rfl, by simp at z1 z2 ⊢; lia, ?_⟩)
  have g14 := g13.put (l := .Hd) (v := .dct .S (fput "above" (.ref a6) f5)) (fun e => nomatch e)
  have z6 := @fput_len "above" (.ref a6) f5
  generalize hf6 : fput "above" (.ref a6) f5 = f6 at *
  refine AExecs.cons (AExec.assign (AEval.list (AArgs.nil ⟨lim rfl, fun a7 h7 => ?_⟩)))
  have g15 := g14.new (l := .W) (v := .lst []) h7 rfl
  refine AAssign.attr (AEval.loc rfl ⟨x, 424, d, _, rfl, g15.is .H _ rfl, g15.is .Hd _ rfl, by rw [hK]; kernel_rfl, by simp at z1 z2 ⊢; lia, ?_⟩)
  have g16 := g15.put (l := .Hd) (v := .dct .S (fput "waiting" (.ref a7) f6)) (fun e => nomatch e)
  have z7 := @fput_len "waiting" (.ref a7) f6
  generalize hf7 : fput "waiting" (.ref a7) f6 = f7 at *
  refine AExecs.cons (AExec.assign (AEval.int ?_))
  refine AAssign.attr (AEval.loc rfl ⟨x, 424, d, _, rfl, g16.is .H _ rfl, g16.is .Hd _ rfl, by rw [hK]; kernel_rfl, by simp at z1 z2 ⊢; lia, ?_⟩)
  have g17 := g16.put (l := .Hd) (v := .dct .S (fput "backs" (.int 0) f7)) (fun e => nomatch e)
  have hf : fput "backs" (.int 0) f7 = [(.str "bank", .ref (l₁ .B)), (.str "unions", .ref (l₂ .U)), (.str "edges", .ref a3), (.str "forest", .ref a4), (.str "known", .ref a5), (.str "above", .ref a6), (.str "waiting", .ref a7), (.str "backs", .int 0)] := by
   rw [<- hf7, <- hf6, <- hf5, <- hf4, <- hf3, <- hf2]; kernel_rfl
  rw [hf] at g17 ⊢
  have G := g17.fin fun l => by cases l <;> rfl
  refine AExecs.nil ⟨rfl, q _ _ ⟨G.is, G.inj⟩ G.le fun a v e l hl h => ?_⟩
  rw [<- h, G.off l hl] at e; cases e
theorem inv0 (T : List Tree) (loc : Loc) : Inv T [] (fun _ => False) loc hs0 where
 par := fun i => Nat.le_refl _
 pn := rfl
 lots := rfl
 ulV := rfl
 link := fun i h => nomatch h
 lotz := fun l h => nomatch h
 lotS := Nat.le_refl _
 uses := fun c h => nomatch h
 ulink := fun c h => nomatch h
 useS := Nat.le_refl _
 az := Nat.le_refl _
 tl := rfl
 wl := rfl
 dl := rfl
 tn := List.nodup_nil
 tT := fun t h => nomatch h
 node := fun i nd h => nomatch h
 numD := fun nd => rfl
 num := fun nd i => ⟨fun h => (nomatch h), fun h => (nomatch h)⟩
 numz := Nat.le_refl _
 knD := fun nd => rfl
 wait := fun i h => nomatch h
 U := fun i nd k h => nomatch h
 C := fun i nd h => nomatch h
 K := fun sg o h => nomatch h
 S := fun i j h => nomatch h
end
section
variable {Γ : Cx} {n : Nat} {σ : Store} {Q : V -> Store -> Prop} {sc : Scope} {ρ : Vars} {F : Addr -> Prop} {s : Shared}
theorem unpack_ref {A : Around} {a : Addr} {vs : List V} {x : Value} {k : Nat} {R : List Value -> Shared -> Prop} (hA : A.handled = none) (S : St Γ F σ s) (r : VRel Γ (DD σ F) s.heap (.ref a) x) (hv : σ a = some (.lst vs)) (hk : k = vs.length)
  (h : ∀ xs s', VsRel Γ (DD σ F) s'.heap vs xs -> St Γ F σ s' -> Trans σ s σ s' -> R xs s') : wpAny (Md Γ) A (unpackItems x k none) R NoE s := by
 subst hk
 obtain rfl := r.ref_inv
 obtain ⟨arr, m, ht, rv⟩ := (S.rep a _ hv).lst_inv
 have : vs.length = arr.size := by rw [rv.length, Array.length_toList]
 rw [this]
 refine kun_itemsOf hA ⟨_, ht, rfl, _, rfl⟩ fun h' he => ?_
 have T : Trans σ s σ { s with heap := h' } := Trans.of_ext he
 exact h _ _ (rv.trans T) (S.grow (ext_keep (s' := { s with heap := h' }) he) rfl rfl) T
theorem AAssign.tupleRef {ts : List Expr} {k : Nat} {pos : Pos} {a : Addr} {vs : List V} {Q : Vars -> Store -> Prop} (hv : σ a = some (.lst vs)) (hl : ts.length = vs.length) (h : AAssigns Γ n sc ts ρ vs σ Q)
  (he : ∀ env, assignEach ts env = ts.map fun t => (false, assign t env) := by intro _; rfl) : AAssign Γ n sc ρ (.Tuple ts k pos) (.ref a) σ Q := by
 intro A s F env val hs hA hR S r
 show wpAny (Md Γ) A (do standAt pos; unpack val (assignEach ts env)) _ NoE s
 refine wpAny_bind (wpAny_standAt ?_)
 rw [he]
 unfold unpack
 have h1 : (List.map (fun t => (false, assign t env)) ts).findIdx? (·.1) = none := by
  rw [List.findIdx?_eq_none_iff]
  intro x hx
  obtain ⟨t, _, rfl⟩ := List.mem_map.mp hx
  rfl
 have h2 : (List.map (fun t => (false, assign t env)) ts).map (·.2) = ts.map fun t => assign t env := by rw [List.map_map]; rfl
 rw [h1, h2, List.length_map]
 refine wpAny_bind (wpAny_holding (unpack_ref hA.1 S r hv hl fun xs s₁ rv S₁ T₁ => ?_))
 exact assigns_run hs hA ts vs xs ρ σ s₁ _ (hR.trans T₁) S₁ rv h fun ρ' σ' s' a b c d => ⟨ρ', σ', a, b, T₁.toF.trans c, d⟩
noncomputable def tapeV (cells : List Int) (spot : Nat) : V := .lst [.lst (cells.map .int), natV spot]
theorem fmod_nat {a : Int} {m : Nat} (hm : 0 < m) : ∃ k : Nat, k < m /\ a.fmod (m : Int) = (k : Int) := by
 have h1 : 0 <= a.fmod (m : Int) := Int.fmod_nonneg_of_pos a (by lia)
 have h2 : a.fmod (m : Int) < (m : Int) := Int.fmod_lt_of_pos a (by lia)
 exact ⟨(a.fmod (m : Int)).toNat, by lia, by lia⟩
theorem def_436 : DefOk 436 := fun P => ⟨by kernel_rfl, by kernel_rfl⟩
theorem bind_436 (v u : Value) : bindArgs (fnA 436) ⟨[v, u], []⟩ = pure [(Str.ofString "tape", v), (Str.ofString "many", u)] := by kernel_rfl
theorem c_draw (hK : CK Γ) {tp : Addr} {cells : List Int} {spot m : Nat} (ht : σ tp = some (tapeV cells spot)) (hz : cells.length <= 1000) (hs : spot <= 10000) (hm : 0 < m) (q : ∀ k, k < m -> Q (natV k) (put σ tp (tapeV cells (spot + 1)))) :
  ACall Γ (n + 1) (.ref 436) [.ref tp, natV m] σ Q := by
 refine hK.def2 def_436 bind_436 ?_
 ·skip
  refine AExecs.cons (AExec.assign (AEval.loc rfl (AAssign.tupleRef ht rfl (AAssign.loc (AAssign.loc ?_)))))
  refine AExecs.cons (AExec.assign (AEval.binop (AEval.loc rfl (AEval.int (AOp2.addI (AAssign.sub (AEval.loc rfl (AEval.int (ASetItem.list (k := 1) ht (by simp) (by simp) ?_)))))))))
  have e1 : ([V.lst (cells.map .int), natV spot] : List V).set 1 (V.int ((spot : Int) + 1)) = [V.lst (cells.map .int), natV (spot + 1)] := rfl
  rw [e1]
  have fin : ∀ {a : Int} {ρ : Vars} {p : Pos}, ρ.lookup (Str.ofString "many") = some (natV m) -> AEval Γ n (scA 436) ρ (.Name (Str.ofString "many") p) (put σ tp (tapeV cells (spot + 1))) (fun b σ₁ => AOp2 Γ n (binaryOp .Mod) (.int a) b σ₁ fun v σ₂ => RetQ Q (.ret v) ρ σ₂) := by
   intro a ρ p hρ
   refine AEval.loc hρ (AOp2.modI (by lia) ?_)
   obtain ⟨k, h1, h2⟩ := fmod_nat (a := a) hm
   rw [h2]
   exact q k h1
  refine AExecs.cons (AExec.ret (AEval.binop (AEval.ifexp (ATest.compare (AEval.loc rfl ?_)))))
  refine hK.callB (id := "len") (AArgs.loc rfl (AArgs.nil (ACall.lenList .lst (lim_map (by lia)) (AOp2.ltI ?_))))
  rw [List.length_map]
  by_cases h : spot < cells.length
  ·rw [decide_eq_true (by lia)]
   refine AEval.sub (AEval.loc rfl (AEval.loc rfl (AItem.list .lst (v := .int cells[spot]) (by rw [List.getElem?_map, List.getElem?_eq_getElem h]; rfl) (lim_map (by lia)) ?_)))
   exact fin (by rfl)
  ·rw [decide_eq_false (by lia)]
   refine AEval.binop (AEval.binop (AEval.binop (AEval.binop (AEval.int (AEval.loc rfl ?_)))))
   refine AOp2.mulI (IntMulOk.of_left (intBits_le_64 (by lia) (by lia))) (AEval.loc rfl ?_)
   refine AOp2.mulI (IntMulOk.of_left (intBits_le_64 (by lia) (by lia))) (AEval.binop (AEval.loc rfl (AEval.int ?_)))
   refine AOp2.divI (by decide) (by decide) (AOp2.addI (AEval.int (AOp2.addI ?_)))
   exact fin (by rfl)
end
section
variable {Γ : Cx} {n : Nat} {σ : Store} {Q : V -> Store -> Prop} {sc : Scope} {ρ : Vars}
noncomputable def Shp (L : List Str) : Nat -> Tree -> Prop
 | 0, t => ∃ op ∈ L, t = .node op []
 | k + 1, t => (∃ op ∈ L, t = .node op []) \/ (∃ a, Shp L k a /\ t = .node "f" [a]) \/ (∃ a b, Shp L k a /\ Shp L k b /\ t = .node "g" [a, b])
noncomputable def dr : Nat -> Nat
 | 0 => 1
 | k + 1 => 2 + 2 * dr k
theorem Shp.leaf {L : List Str} {op : Str} (h : op ∈ L) : ∀ k, Shp L k (.node op [])
 | 0 => ⟨op, h, rfl⟩
 | k + 1 => .inl ⟨op, h, rfl⟩
theorem def_441 : DefOk 441 := fun P => ⟨by kernel_rfl, by kernel_rfl⟩
theorem bind_441 (v u w : Value) : bindArgs (fnA 441) ⟨[v, u, w], []⟩ = pure [(Str.ofString "tape", v), (Str.ofString "floors", u), (Str.ofString "leaves", w)] := by kernel_rfl
theorem put_same {a : Addr} {v : V} (h : σ a = some v) : put σ a v = σ := by
 funext b; unfold put; split
 ·rename_i e; rw [e, h]
 ·rfl
theorem free_cons {ρ ρ₁ : Vars} {x : Str} {v : V} {ns : List (Str × NameKind)} (hk : ns.lookup x = some .free) (hx : ρ.lookup x = some v) (h : ∀ y u, List.lookup y ρ₁ = some u -> ρ.lookup y = some u /\ ns.lookup y = some .free) :
  ∀ y u, List.lookup y ((x, v) :: ρ₁) = some u -> ρ.lookup y = some u /\ ns.lookup y = some .free := by
 intro y u hy
 rw [List.lookup_cons] at hy
 cases hb : y == x with
 | true => rw [hb] at hy; cases hy; obtain rfl := beq_iff_eq.mp hb; exact ⟨hx, hk⟩
 | false => rw [hb] at hy; exact h y u hy
theorem free_nil {ρ : Vars} {ns : List (Str × NameKind)} : ∀ y u, List.lookup y ([] : Vars) = some u -> ρ.lookup y = some u /\ ns.lookup y = some .free := fun y u h => nomatch h
theorem c_tree (hK : CK Γ) {tp : Addr} {cells : List Int} (hz : cells.length <= 1000) {L : List Str} (hL : 0 < L.length) (hL2 : L.length <= 100) : ∀ (k : Nat) {σ : Store} {Q : V -> Store -> Prop} {spot : Nat}, σ tp = some (tapeV cells spot) -> spot + dr k <= 10000 ->
  (∀ t spot', Shp L k t -> spot' <= spot + dr k -> Q t.v (put σ tp (tapeV cells spot'))) -> ACall Γ (k + 2) (.ref 441) [.ref tp, natV k, .tup (L.map .str)] σ Q := by
 suffices H : ∀ k, (∀ k', k = k' + 1 -> ∀ {σ : Store} {Q : V -> Store -> Prop} {spot : Nat}, σ tp = some (tapeV cells spot) -> spot + dr k' <= 10000 ->
   (∀ t spot', Shp L k' t -> spot' <= spot + dr k' -> Q t.v (put σ tp (tapeV cells spot'))) -> ACall Γ (k' + 2) (.ref 441) [.ref tp, natV k', .tup (L.map .str)] σ Q) ->
   ∀ {σ : Store} {Q : V -> Store -> Prop} {spot : Nat}, σ tp = some (tapeV cells spot) -> spot + dr k <= 10000 ->
  (∀ t spot', Shp L k t -> spot' <= spot + dr k -> Q t.v (put σ tp (tapeV cells spot'))) -> ACall Γ (k + 2) (.ref 441) [.ref tp, natV k, .tup (L.map .str)] σ Q by
  intro k
  induction k with
  | zero => exact H 0 fun k' e => by lia
  | succ k ih => exact H (k + 1) fun k' e => by (obtain rfl : k = k' := by lia); exact ih
 intro k ih σ Q spot ht hs q
 refine hK.def3 def_441 bind_441 ?_
 ·skip
  have cont : ∀ {w spot₁ : Nat} {σ₁ : Store}, σ₁ tp = some (tapeV cells spot₁) -> (∀ x, put σ₁ tp x = put σ tp x) -> spot₁ + 1 <= spot + dr k -> (w < 3 \/ ∃ k', k = k' + 1 /\ spot₁ <= spot + 1) ->
    AExecs Γ (k + 1) (scA 441) ((Str.ofString "way", natV w) :: [(Str.ofString "leaves", .tup (L.map .str)), (Str.ofString "floors", natV k), (Str.ofString "tape", .ref tp)]) ((boA 441).drop 1) σ₁ (RetQ Q) := by
   intro w spot₁ σ₁ ht1 hpp hs1 hw
   refine AExecs.cons (AExec.if (ATest.compare (AEval.loc rfl (AEval.int (AOp2.ltI ?_)))))
   by_cases h3 : w < 3
   ·rw [decide_eq_true (by lia)]
    refine AExecs.cons (AExec.ret (AEval.tuple (AArgs.cons (AEval.sub (AEval.cel rfl ?_)))))
    refine hK.callG (a := 436) (AArgs.cel rfl (AArgs.cons ?_))
    refine hK.callB (id := "len") (AArgs.cel rfl (AArgs.nil (ACall.lenTuple (by simp; lia) (AArgs.nil ?_))))
    rw [List.length_map]
    refine c_draw hK ht1 hz (by lia) hL fun j hj => ?_
    refine AItem.tuple (k := j) (v := .str L[j]) (by rw [List.getElem?_map, List.getElem?_eq_getElem hj]; rfl) (by simp; lia) (AArgs.nil ⟨lim rfl, ?_⟩)
    rw [hpp]
    exact q (.node L[j] []) (spot₁ + 1) (Shp.leaf (List.getElem_mem hj) k) hs1
   ·rw [decide_eq_false (by lia)]
    refine AExecs.nil ?_
    obtain ⟨k', rfl, hs2⟩ := hw.resolve_left h3
    refine AExecs.cons (exec_listcompG [(Str.ofString "leaves", .tup (L.map .str)), (Str.ofString "floors", natV (k' + 1)), (Str.ofString "tape", .ref tp)] (turn0 _ _ _ _ _) (fun env he => by cases env; simp only at he; subst he; kernel_rfl) (by kernel_rfl) (by kernel_rfl) (free_cons (by kernel_rfl) rfl (free_cons (by kernel_rfl) rfl (free_cons (by kernel_rfl) rfl free_nil))) ?_ (fun _ _ => rfl))
    have hdr : dr (k' + 1) = 2 + 2 * dr k' := rfl
    refine AIt.range1 (by kernel_rfl) (by rw [hK]; kernel_rfl) (AEval.ifexp (ATest.compare (AEval.loc rfl (AEval.int (AOp2.ltI ?_)))))
    have hsplit : ∀ {G : Bool -> Store -> Prop} {τ : Store}, (w < 5 -> G true τ) -> (¬ w < 5 -> G false τ) -> G (decide ((w : Int) < 5)) τ := fun h1 h2 => by
     by_cases h5 : w < 5
     ·rw [decide_eq_true (by lia)]; exact h1 h5
     ·rw [decide_eq_false (by lia)]; exact h2 h5
    show IfeQ _ _ _ _ _ _ _ _ _
    refine hsplit (fun h5 => AEval.int ⟨1, rfl, by decide, ?_⟩) (fun h5 => AEval.int ⟨2, rfl, by decide, ?_⟩)
    all_goals
     refine CompRun.inv (fun xs acc σ' => ∃ ts spot' M, ((M = 1 /\ w < 5) \/ (M = 2 /\ ¬ w < 5)) /\ xs.length + ts.length = M /\ acc = ts.map Tree.v /\ (∀ t ∈ ts, Shp L k' t) /\ σ' tp = some (tapeV cells spot') /\ (∀ x, put σ' tp x = put σ tp x) /\ σ' = put σ tp (tapeV cells spot') /\ spot' <= spot₁ + ts.length * dr k') ?_ ?_ _ _ _
      ⟨[], spot₁, _, by first | exact .inl ⟨rfl, h5⟩ | exact .inr ⟨rfl, h5⟩, rfl, rfl, fun t ht => (nomatch ht), ht1, hpp, by rw [<- hpp]; exact (put_same ht1).symm, by simp⟩
     ·rintro x xs acc σ' K ⟨ts, spot', M, hM, hl, rfl, hS, ht2, hpp2, -, hsp⟩ hK'
      have hM2 : ts.length <= 1 := by simp only [List.length_cons] at hl; lia
      have hmul : ts.length * dr k' <= 1 * dr k' := Nat.mul_le_mul_right _ hM2
      refine ALoc.name (by kernel_rfl) ⟨keeps_one rfl, AComp.rest0 (hK.callG (a := 441) ?_)⟩
      refine AArgs.cel rfl (AArgs.cons (AEval.binop (AEval.cel rfl (AEval.int (AOp2.subI (AArgs.cel rfl (AArgs.nil ?_)))))))
      rw [show V.int (((k' + 1 : Nat) : Int) - 1) = natV k' from by unfold natV; congr 1; lia]
      refine ih k' rfl ht2 (by lia) fun t spot'' h1 h2 => ⟨by simp; lia, hK' _ _ ⟨ts ++ [t], spot'', M, hM, by simp only [List.length_cons, List.length_append, List.length_nil] at hl ⊢; lia, by rw [List.map_append]; rfl, fun u hu => ?_, put_self _ _ _, fun x => by rw [put_put, hpp2], by rw [hpp2], ?_⟩⟩
      ·rcases List.mem_append.mp hu with h | h
       ·exact hS u h
       ·rw [List.mem_singleton.mp h]; exact h1
      ·rw [List.length_append, List.length_singleton, Nat.add_mul, Nat.one_mul]; lia
     ·rintro acc σ' ⟨ts, spot', M, hM, hl, rfl, hS, ht2, hpp2, e2, hsp⟩
      rw [List.length_nil, Nat.zero_add] at hl
      have hmul : ts.length * dr k' <= 2 * dr k' := Nat.mul_le_mul_right _ (by lia)
      refine AExecs.cons (AExec.ret (AEval.binop (AEval.tuple (AArgs.cons (AEval.ifexp (ATest.compare (AEval.loc rfl (AEval.int (AOp2.ltI ?_)))))))))
      show IfeQ _ _ _ _ _ _ _ _ _
      refine hsplit (fun h5 => AEval.strc (AArgs.nil ⟨lim rfl, ?_⟩)) (fun h5 => AEval.strc (AArgs.nil ⟨lim rfl, ?_⟩))
      all_goals
       refine hK.callT (id := "tuple") (AArgs.loc rfl (AArgs.nil (ACall.tupleList .lst (by simp; lia) (AOp2.addT (by simp; lia) ?_))))
       rw [e2]
       have ev : ∀ op : Str, V.tup ([V.str op] ++ ts.map Tree.v) = (Tree.node op ts).v := fun op => by rw [Tree.v, Tree.vs_map]; rfl
       rw [ev]
       refine q _ spot' ?_ (by lia)
       match ts, hl, hS with
       | [], hl, hS => simp only [List.length_nil] at hl; lia
       | [a], hl, hS => first | exact .inr (.inl ⟨a, hS a (by simp), rfl⟩) | (simp only [List.length_cons, List.length_nil] at hl; lia)
       | [a, b], hl, hS => first | exact .inr (.inr ⟨a, b, hS a (by simp), hS b (by simp), rfl⟩) | (simp only [List.length_cons, List.length_nil] at hl; lia)
       | a :: b :: c :: r, hl, hS => simp only [List.length_cons] at hl; lia
  cases k with
  | zero =>
   refine AExecs.cons (AExec.assign (AEval.ifexp (ATest.compare (AEval.cel rfl (AEval.int (AOp2.gtI ?_))))))
   rw [decide_eq_false (by simp)]
   refine AEval.int (AAssign.loc ?_)
   exact cont (w := 0) ht (fun _ => rfl) (Nat.le_refl _) (.inl (by lia))
  | succ k =>
   have hdr : dr (k + 1) = 2 + 2 * dr k := rfl
   refine AExecs.cons (AExec.assign (AEval.ifexp (ATest.compare (AEval.cel rfl (AEval.int (AOp2.gtI ?_))))))
   rw [decide_eq_true (by lia)]
   refine hK.callG (a := 436) (AArgs.cel rfl (AArgs.cons (AEval.int (AArgs.nil ?_))))
   refine c_draw (m := 6) hK ht hz (by lia) (by decide) fun w hw => ?_
   refine AAssign.loc ?_
   exact cont (put_self _ _ _) (fun _ => put_put _ _ _ _) (by lia) (.inr ⟨k, rfl, Nat.le_refl _⟩)
end
section
variable {Γ : Cx} {n : Nat} {σ : Store} {Q : V -> Store -> Prop} {sc : Scope} {ρ : Vars}
mutual
noncomputable def opsT : Tree -> List Str
 | .node op kids => op :: opsK kids
noncomputable def opsK : List Tree -> List Str
 | [] => []
 | t :: r => opsT t ++ opsK r
end
theorem opsK_append : ∀ (a b : List Tree), opsK (a ++ b) = opsK a ++ opsK b
 | [], b => rfl
 | t :: a, b => by rw [List.cons_append, opsK, opsK, opsK_append a b, List.append_assoc]
mutual
theorem opsT_len : ∀ t : Tree, (opsT t).length = t.size
 | .node op kids => by rw [opsT, Tree.size, List.length_cons, opsK_len]; lia
theorem opsK_len : ∀ ts : List Tree, (opsK ts).length = Tree.sizes ts
 | [] => rfl
 | t :: r => by rw [opsK, Tree.sizes, List.length_append, opsT_len t, opsK_len r]
end
theorem Tree.sizes_append : ∀ (a b : List Tree), Tree.sizes (a ++ b) = Tree.sizes a + Tree.sizes b
 | [], b => by rw [List.nil_append, Tree.sizes, Nat.zero_add]
 | t :: a, b => by rw [List.cons_append, Tree.sizes, Tree.sizes, Tree.sizes_append a b]; lia
theorem def_446 : DefOk 446 := fun P => ⟨by kernel_rfl, by kernel_rfl⟩
theorem bind_446 (v : Value) : bindArgs (fnA 446) ⟨[v], []⟩ = pure [(Str.ofString "tree", v)] := by kernel_rfl
theorem c_ops (hK : CK Γ) : ∀ (n : Nat) {σ : Store} {Q : V -> Store -> Prop} (t : Tree), t.height < n -> t.size <= 1000 -> Q (.lst ((opsT t).map .str)) σ -> ACall Γ n (.ref 446) [t.v] σ Q := by
 intro n
 induction n with
 | zero => intro σ Q t hh; exact absurd hh (Nat.not_lt_zero _)
 | succ n ih =>
  intro σ Q t hh hs q
  obtain ⟨op, kids⟩ := t
  have h1 := Tree.len_vs kids
  have h2 := Tree.len_sizes kids
  rw [Tree.size] at hs
  refine hK.def1 def_446 bind_446 ?_
  ·skip
   refine AExecs.cons (AExec.ret (AEval.binop (AEval.listF (AArgs.cons (AEval.sub (AEval.loc rfl (AEval.int (AItem.tuple (k := 0) (v := .str op) rfl (by rw [List.length_cons]; lia) (AArgs.nil ⟨lim rfl, ?_⟩)))))))))
   refine AEval.listcompG [] (turn2 _ _ _ _ _ _ _) (by kernel_rfl) free_nil (AIt.val (AEval.tail1 (AEval.loc rfl (TailQ.mk (by simp) (by rw [List.length_cons]; lia) (WalkQ.mk rfl ?_))))) (fun _ _ => rfl)
   rw [show (V.str op :: Tree.vs kids).drop 1 = kids.map Tree.v from Tree.vs_map kids]
   refine CompRun.inv (fun xs acc σ₁ => σ₁ = σ /\ ∃ done rest, xs = rest.map Tree.v /\ done ++ rest = kids /\ acc = (opsK done).map .str) ?_ ?_ _ _ _ ⟨rfl, [], kids, rfl, rfl, rfl⟩
   ·rintro x xs acc σ₁ K ⟨rfl, done, rest, e1, e2, rfl⟩ hK'
    cases rest with
    | nil => cases e1
    | cons k rest =>
     rw [List.map_cons] at e1
     injection e1 with e1 e3
     subst e1
     subst e3
     have hk : k ∈ kids := by rw [<- e2]; simp
     have a1 := Tree.height_mem hk
     have a2 := Tree.size_mem hk
     rw [Tree.height] at hh
     have a3 : Tree.sizes done + k.size <= Tree.sizes kids := by rw [<- e2, Tree.sizes_append, Tree.sizes]; lia
     refine ALoc.name (by kernel_rfl) ⟨keeps_one rfl, AComp.rest2 (AIt.val (hK.callG (a := 446) (AArgs.loc rfl (AArgs.nil (ih k (by lia) (by lia) (WalkQ.mk rfl ?_)))))) (fun _ _ => rfl)⟩
     refine CompRun.mapE V.str V.str (opsT k) _ (by rw [List.length_map, opsK_len, opsT_len]; lia) (fun o ho acc' K2 hz' hK2 => ?_) ?_
     ·exact ALoc.name (by kernel_rfl) ⟨keeps_one rfl, AComp.rest0 (AEval.loc rfl ⟨hz', hK2⟩)⟩
     ·exact hK' _ _ ⟨rfl, done ++ [k], rest, rfl, by rw [List.append_assoc]; exact e2, by rw [opsK_append, List.map_append]; simp only [opsK, List.append_nil]⟩
   ·rintro acc σ₁ ⟨rfl, done, rest, e1, e2, rfl⟩
    cases rest with
    | cons k rest => cases e1
    | nil =>
     rw [List.append_nil] at e2
     subst e2
     refine AOp2.addLF .lst .lst (by rw [List.length_map, opsK_len]; simp; lia) ?_
     exact q
mutual
noncomputable def laidT (tab : List (Str × Str)) : Tree -> Tree
 | .node op kids => .node ((tab.lookup op).getD op) (laidK tab kids)
noncomputable def laidK (tab : List (Str × Str)) : List Tree -> List Tree
 | [] => []
 | t :: r => laidT tab t :: laidK tab r
end
theorem laidK_map (tab : List (Str × Str)) : ∀ ts, laidK tab ts = ts.map (laidT tab)
 | [] => rfl
 | t :: r => by rw [laidK, laidK_map tab r]; rfl
noncomputable def tabS (tab : List (Str × Str)) : List (V × V) := tab.map fun p => (.str p.1, .str p.2)
theorem dget_tabS {op : Str} : ∀ {tab : List (Str × Str)} {d : Str}, (dget (.str op) (tabS tab)).getD (.str d) = .str ((tab.lookup op).getD d)
 | [], d => rfl
 | (k, t) :: r, d => by
  rw [tabS, List.map_cons, dget_cons, List.lookup_cons]
  by_cases h : op = k
  ·subst h
   rw [show (op == op) = true from by simp, if_pos rfl]; rfl
  ·rw [show (op == k) = false from by simpa using h, if_neg (fun e => h (by injection e with e; exact e.symm))]
   exact dget_tabS
theorem def_451 : DefOk 451 := fun P => ⟨by kernel_rfl, by kernel_rfl⟩
theorem bind_451 (v u : Value) : bindArgs (fnA 451) ⟨[v, u], []⟩ = pure [(Str.ofString "tree", v), (Str.ofString "table", u)] := by kernel_rfl
theorem c_laid (hK : CK Γ) {tab : List (Str × Str)} : ∀ (n : Nat) {σ : Store} {Q : V -> Store -> Prop} (t : Tree), t.height < n -> t.size <= 1000 -> Q (laidT tab t).v σ -> ACall Γ n (.ref 451) [t.v, .dct .S (tabS tab)] σ Q := by
 intro n
 induction n with
 | zero => intro σ Q t hh; exact absurd hh (Nat.not_lt_zero _)
 | succ n ih =>
  intro σ Q t hh hs q
  obtain ⟨op, kids⟩ := t
  have h1 := Tree.len_vs kids
  have h2 := Tree.len_sizes kids
  rw [Tree.size] at hs
  refine hK.def2 def_451 bind_451 ?_
  ·skip
   refine AExecs.cons (AExec.ret (AEval.binop (AEval.tuple (AArgs.cons ?_))))
   refine AEval.meth (AEval.cel rfl (AMeth.blt (dict_type .dct) PySem.F.plainAttrs_dict PySem.F.slot_dict_get PySem.F.type_dict_get ⟨trivial, ?_⟩))
   refine AArgs.cons (AEval.sub (AEval.loc rfl (AEval.int (AItem.tuple (k := 0) (v := .str op) rfl (by rw [List.length_cons]; lia) ?_))))
   refine AArgs.cons (AEval.sub (AEval.loc rfl (AEval.int (AItem.tuple (k := 0) (v := .str op) rfl (by rw [List.length_cons]; lia) (AArgs.nil (ACall.dictGet .dct ⟨_, rfl⟩ ?_))))))
   rw [dget_tabS]
   refine AArgs.nil ⟨lim rfl, ?_⟩
   refine hK.callT (id := "tuple") ?_
   refine AArgs.cons (AEval.listcompG [(Str.ofString "table", .dct .S (tabS tab))] (turn0 _ _ _ _ _) (by kernel_rfl) (free_one (by kernel_rfl) rfl) ?_ (fun _ _ => rfl))
   refine AIt.val (AEval.tail1 (AEval.loc rfl (TailQ.mk (by simp) (by rw [List.length_cons]; lia) (WalkQ.mk rfl ?_))))
   rw [show (V.str op :: Tree.vs kids).drop 1 = kids.map Tree.v from Tree.vs_map kids]
   refine CompRun.mapE Tree.v (fun t => (laidT tab t).v) kids [] (lim_nil (by lia)) (fun p hp acc' K' hz' hK2 => ?_) ?_
   ·have e1 := Tree.height_mem hp
    have e2 := Tree.size_mem hp
    rw [Tree.height] at hh
    refine ALoc.name (by kernel_rfl) ⟨keeps_one rfl, AComp.rest0 (hK.callG (a := 451) ?_)⟩
    ·exact AArgs.loc rfl (AArgs.cel rfl (AArgs.nil (ih p (by lia) (by lia) ⟨hz', hK2⟩)))
   ·refine AArgs.nil (ACall.tupleList .lst (by simp; lia) (AOp2.addT (by simp; lia) ?_))
    rw [laidT, Tree.v, laidK_map, Tree.vs_map, List.map_map] at q
    exact q
mutual
theorem Tree.v_inj : ∀ {a b : Tree}, a.v = b.v -> a = b
 | .node op ts, .node op' us, h => by
  rw [Tree.v, Tree.v] at h
  injection h with h
  injection h with h1 h2
  injection h1 with h1
  rw [h1, Tree.vs_inj h2]
theorem Tree.vs_inj : ∀ {a b : List Tree}, Tree.vs a = Tree.vs b -> a = b
 | [], [], _ => rfl
 | [], _ :: _, h => by rw [Tree.vs, Tree.vs] at h; cases h
 | _ :: _, [], h => by rw [Tree.vs, Tree.vs] at h; cases h
 | x :: a, y :: b, h => by
  rw [Tree.vs, Tree.vs] at h
  injection h with h1 h2
  rw [Tree.v_inj h1, Tree.vs_inj h2]
end
theorem mem_v {t : Tree} {l : List Tree} : t.v ∈ l.map Tree.v ↔ t ∈ l :=
 ⟨fun h => by obtain ⟨u, h1, h2⟩ := List.mem_map.mp h; rw [<- Tree.v_inj h2]; exact h1, fun h => List.mem_map_of_mem h⟩
theorem cmp_tree : ∀ (n : Nat) (t u : Tree), t.height < n -> cmpOk n t.v u.v
 | n + 1, .node op ts, .node op' us, h => by
  rw [Tree.v, Tree.v]
  show ∀ (j : Nat) (a b : V), (V.str op :: Tree.vs ts)[j]? = some a -> (V.str op' :: Tree.vs us)[j]? = some b -> cmpOk n a b
  intro j a b h1 h2
  cases j with
  | zero =>
   simp only [List.getElem?_cons_zero, Option.some.injEq] at h1 h2
   subst h1
   subst h2
   cases n <;> exact trivial
  | succ j =>
   simp only [List.getElem?_cons_succ] at h1 h2
   rw [Tree.vs_map, List.getElem?_map] at h1 h2
   cases e1 : ts[j]? with
   | none => rw [e1] at h1; cases h1
   | some x =>
    cases e2 : us[j]? with
    | none => rw [e2] at h2; cases h2
    | some y =>
     rw [e1] at h1
     rw [e2] at h2
     cases h1
     cases h2
     have := Tree.height_mem (List.mem_of_getElem? e1)
     rw [Tree.height] at h
     exact cmp_tree n x y (by lia)
mutual
noncomputable def subT : Tree -> List Tree
 | .node op kids => .node op kids :: subK kids
noncomputable def subK : List Tree -> List Tree
 | [] => []
 | t :: r => subT t ++ subK r
end
mutual
theorem subT_height {u : Tree} : ∀ t : Tree, u ∈ subT t -> u.height <= t.height
 | .node op kids, h => by
  rw [subT] at h
  rcases List.mem_cons.mp h with rfl | h
  ·exact Nat.le_refl _
  ·have := subK_height kids h
   rw [Tree.height]; lia
theorem subK_height {u : Tree} : ∀ ts : List Tree, u ∈ subK ts -> u.height + 1 <= Tree.heights ts
 | [], h => by rw [subK] at h; cases h
 | t :: r, h => by
  rw [subK] at h
  rw [Tree.heights]
  rcases List.mem_append.mp h with h | h
  ·have := subT_height t h; lia
  ·have := subK_height r h; lia
end
section
open Classical
mutual
noncomputable def gatherT : Tree -> List Tree -> List Tree
 | .node op kids, fs => if .node op kids ∈ gatherK kids fs then gatherK kids fs else gatherK kids fs ++ [.node op kids]
noncomputable def gatherK : List Tree -> List Tree -> List Tree
 | [], fs => fs
 | t :: r, fs => gatherK r (gatherT t fs)
end
mutual
theorem gatherT_len : ∀ (t : Tree) (fs : List Tree), (gatherT t fs).length <= fs.length + t.size
 | .node op kids, fs => by
  rw [gatherT, Tree.size]
  have := gatherK_len kids fs
  split
  ·lia
  ·rw [List.length_append, List.length_singleton]; lia
theorem gatherK_len : ∀ (ts : List Tree) (fs : List Tree), (gatherK ts fs).length <= fs.length + Tree.sizes ts
 | [], fs => by rw [gatherK, Tree.sizes]; lia
 | t :: r, fs => by
  rw [gatherK, Tree.sizes]
  have := gatherT_len t fs
  have := gatherK_len r (gatherT t fs)
  lia
end
mutual
theorem gatherT_mem {u : Tree} : ∀ (t : Tree) (fs : List Tree), u ∈ gatherT t fs ↔ u ∈ fs \/ u ∈ subT t
 | .node op kids, fs => by
  have h := gatherK_mem (u := u) kids fs
  rw [gatherT, subT]
  split
  ·rename_i hm
   rw [h, List.mem_cons]
   constructor
   ·rintro (h1 | h1)
    ·exact .inl h1
    ·exact .inr (.inr h1)
   ·rintro (h1 | rfl | h1)
    ·exact .inl h1
    ·exact h.mp hm
    ·exact .inr h1
  ·rw [List.mem_append, h, List.mem_singleton, List.mem_cons]
   constructor
   ·rintro ((h1 | h1) | h1)
    ·exact .inl h1
    ·exact .inr (.inr h1)
    ·exact .inr (.inl h1)
   ·rintro (h1 | h1 | h1)
    ·exact .inl (.inl h1)
    ·exact .inr h1
    ·exact .inl (.inr h1)
theorem gatherK_mem {u : Tree} : ∀ (ts : List Tree) (fs : List Tree), u ∈ gatherK ts fs ↔ u ∈ fs \/ u ∈ subK ts
 | [], fs => by rw [gatherK, subK]; simp
 | t :: r, fs => by
  rw [gatherK, subK, gatherK_mem r, gatherT_mem t, List.mem_append, or_assoc]
end
mutual
theorem gatherT_nodup : ∀ (t : Tree) (fs : List Tree), fs.Nodup -> (gatherT t fs).Nodup
 | .node op kids, fs, h => by
  have h1 := gatherK_nodup kids fs h
  rw [gatherT]
  split
  ·exact h1
  ·rename_i hm
   rw [List.nodup_append]
   exact ⟨h1, by simp, fun a ha b hb e => hm (by rw [<- List.mem_singleton.mp hb, <- e]; exact ha)⟩
theorem gatherK_nodup : ∀ (ts : List Tree) (fs : List Tree), fs.Nodup -> (gatherK ts fs).Nodup
 | [], fs, h => by rw [gatherK]; exact h
 | t :: r, fs, h => by rw [gatherK]; exact gatherK_nodup r _ (gatherT_nodup t fs h)
end
theorem gatherK_append : ∀ (a b fs : List Tree), gatherK (a ++ b) fs = gatherK b (gatherK a fs)
 | [], b, fs => by rw [List.nil_append]; simp only [gatherK]
 | t :: a, b, fs => by rw [List.cons_append]; simp only [gatherK]; exact gatherK_append a b _
theorem def_458 : DefOk 458 := fun P => ⟨by kernel_rfl, by kernel_rfl⟩
theorem bind_458 (v u : Value) : bindArgs (fnA 458) ⟨[v, u], []⟩ = pure [(Str.ofString "tree", v), (Str.ofString "found", u)] := by kernel_rfl
theorem c_gather (hK : CK Γ) {fa : Addr} : ∀ (n : Nat) {σ : Store} {Q : V -> Store -> Prop} {fs : List Tree} (t : Tree), t.height < n -> n <= 10 -> fs.length + t.size <= 1000 -> (∀ u ∈ fs, u.height < 10) -> σ fa = some (.lst (fs.map Tree.v)) ->
  (Q .none (put σ fa (.lst ((gatherT t fs).map Tree.v)))) -> ACall Γ n (.ref 458) [t.v, .ref fa] σ Q := by
 intro n
 induction n with
 | zero => intro σ Q fs t hh; exact absurd hh (Nat.not_lt_zero _)
 | succ n ih =>
  intro σ Q fs t hh hn hs hf hσ q
  obtain ⟨op, kids⟩ := t
  have h1 := Tree.len_vs kids
  have h2 := Tree.len_sizes kids
  rw [Tree.size] at hs
  refine hK.def2 def_458 bind_458 ?_
  ·skip
   refine AExecs.cons (AExec.for (AIt.val (AEval.tail1 (AEval.loc rfl (TailQ.mk (by simp) (by rw [List.length_cons]; lia) (WalkQ.mk rfl ?_))))))
   rw [show (V.str op :: Tree.vs kids).drop 1 = kids.map Tree.v from Tree.vs_map kids]
   refine ForRun.inv (fun xs ρ σ' => ∃ done rest, xs = rest.map Tree.v /\ done ++ rest = kids /\ σ' = put σ fa (.lst ((gatherK done fs).map Tree.v)) /\ (∀ u ∈ gatherK done fs, u.height < 10) /\ ρ.lookup (Str.ofString "found") = some (.ref fa) /\ ρ.lookup (Str.ofString "tree") = some (Tree.node op kids).v) ?_ ?_ _ _ _
    ⟨[], kids, rfl, rfl, by simp only [gatherK]; exact (put_same hσ).symm, by simp only [gatherK]; exact hf, rfl, rfl⟩
   ·rintro x xs ρ σ' K ⟨done, rest, e1, e2, rfl, hd, g1, g2⟩ hK'
    cases rest with
    | nil => cases e1
    | cons k rest =>
     rw [List.map_cons] at e1
     injection e1 with e1 e3
     subst e1
     subst e3
     have hk : k ∈ kids := by rw [<- e2]; simp
     have a1 := Tree.height_mem hk
     have a2 := Tree.size_mem hk
     rw [Tree.height] at hh
     have a3 : Tree.sizes done + k.size <= Tree.sizes kids := by rw [<- e2, Tree.sizes_append, Tree.sizes]; lia
     have a4 := gatherK_len done fs
     refine AAssign.loc ?_
     have g1' : List.lookup (Str.ofString "found") ((Str.ofString "kid", k.v) :: ρ) = some (V.ref fa) := g1
     have g2' : List.lookup (Str.ofString "tree") ((Str.ofString "kid", k.v) :: ρ) = some (Tree.node op kids).v := g2
     refine AExecs.cons (AExec.expr (hK.callG (a := 458) (AArgs.loc rfl (AArgs.loc g1' (AArgs.nil ?_)))))
     refine ih k (by lia) (by lia) (by lia) hd (put_self _ _ _) ?_
     rw [put_put]
     refine AExecs.nil (hK' _ _ ⟨done ++ [k], rest, rfl, by rw [List.append_assoc]; exact e2, ?_, ?_, g1', g2'⟩)
     ·rw [gatherK_append]; simp only [gatherK]
     ·rw [gatherK_append]; simp only [gatherK]
      intro u hu
      rcases (gatherT_mem k _).mp hu with h | h
      ·exact hd u h
      ·have := subT_height k h; lia
   ·rintro ρ σ' ⟨done, rest, e1, e2, rfl, hd, g1, g2⟩
    cases rest with
    | cons k rest => cases e1
    | nil =>
     rw [List.append_nil] at e2
     subst e2
     have a4 := gatherK_len done fs
     refine AExecs.cons (AExec.if (ATest.compare (AEval.loc g2 (AEval.loc g1 (AOp2.notInL (.ref (put_self _ _ _)) (fun u hu => ?_) fun b hb => ?_)))))
     ·obtain ⟨w, h3, rfl⟩ := List.mem_map.mp hu
      exact cmp_tree 20 w _ (by have := hd w h3; lia)
     rw [mem_v] at hb
     rw [gatherT] at q
     cases b with
     | true =>
      rw [if_neg (hb.mp rfl)] at q
      refine AExecs.cons (AExec.expr (AEval.meth (AEval.loc g1 ?_)))
      refine AMeth.blt (list_type (.ref (put_self _ _ _))) PySem.F.plainAttrs_list PySem.F.slot_list_append PySem.F.type_list_append ⟨trivial, AArgs.loc g2 (AArgs.nil (ACall.append (put_self _ _ _) (by rw [List.length_map]; lia) ?_))⟩
      rw [put_put]
      rw [List.map_append, List.map_singleton] at q
      exact AExecs.nil (AExecs.nil q)
     | false =>
      have : Tree.node op done ∈ gatherK done fs := Classical.not_not.mp fun h => by cases hb.mpr h
      rw [if_pos this] at q
      exact AExecs.nil (AExecs.nil q)
end
end
section
variable {Γ : Cx} {n : Nat} {σ : Store} {Q : V -> Store -> Prop} {sc : Scope} {ρ : Vars} {T : List Tree} {told : List (Tree × Tree)}
noncomputable def homeE (T : List Tree) (hf : Tree -> Nat) : List (V × V) := T.map fun t => (t.v, natV (hf t))
noncomputable def alike (hf : Tree -> Nat) : Tree -> Tree -> Prop
 | .node op ts, .node op' us => op = op' /\ ts.map hf = us.map hf
noncomputable def Pcl (told : List (Tree × Tree)) (hf : Tree -> Nat) (t u : Tree) : Prop := hf t = hf u \/ ¬ (alike hf t u \/ (t, u) ∈ told \/ (u, t) ∈ told)
noncomputable def sumT (T : List Tree) (hf : Tree -> Nat) : Nat := (T.map hf).sum
noncomputable def lower (hf : Tree -> Nat) (low high : Nat) : Tree -> Nat := fun t => if hf t = high then low else hf t
theorem sumT_le {hf : Tree -> Nat} {low high : Nat} (h : low <= high) : ∀ T : List Tree, sumT T (lower hf low high) <= sumT T hf
 | [] => Nat.le_refl _
 | t :: T => by
  have := sumT_le (hf := hf) h T
  unfold sumT at this ⊢
  rw [List.map_cons, List.map_cons, List.sum_cons, List.sum_cons]
  have : lower hf low high t <= hf t := by unfold lower; split <;> lia
  lia
theorem sumT_lt {hf : Tree -> Nat} {low high : Nat} (h : low < high) : ∀ {T : List Tree} {t : Tree}, t ∈ T -> hf t = high -> sumT T (lower hf low high) < sumT T hf
 | u :: T, t, hm, e => by
  have h1 := sumT_le (hf := hf) (Nat.le_of_lt h) T
  have h2 : lower hf low high u <= hf u := by unfold lower; split <;> lia
  rcases List.mem_cons.mp hm with rfl | hm
  ·have : lower hf low high t = low := by unfold lower; rw [if_pos e]
   unfold sumT at h1 ⊢
   rw [List.map_cons, List.map_cons, List.sum_cons, List.sum_cons]
   lia
  ·have := sumT_lt (hf := hf) h hm e
   unfold sumT at this ⊢
   rw [List.map_cons, List.map_cons, List.sum_cons, List.sum_cons]
   lia
noncomputable def Sound (told : List (Tree × Tree)) (T : List Tree) (hf : Tree -> Nat) : Prop := ∀ t ∈ T, ∀ u ∈ T, hf t = hf u -> Cl told T t u
theorem Sound.lower {hf : Tree -> Nat} (hS : Sound told T hf) {t u : Tree} (ht : t ∈ T) (hu : u ∈ T) (hne : hf t ≠ hf u) (hj : Cl told T t u) : Sound told T (lower hf (min (hf t) (hf u)) (max (hf t) (hf u))) := by
 intro a ha b hb e
 unfold Mine.lower at e
 have key : ∀ p ∈ T, ∀ q ∈ T, hf p = min (hf t) (hf u) -> hf q = max (hf t) (hf u) -> Cl told T p q := fun p hp q hq e1 e2 => by
  rcases Nat.le_total (hf t) (hf u) with h | h
  ·exact (hS p hp t ht (by lia)).trans (hj.trans (hS u hu q hq (by lia)))
  ·exact (hS p hp u hu (by lia)).trans (hj.symm.trans (hS t ht q hq (by lia)))
 by_cases e1 : hf a = max (hf t) (hf u)
 ·by_cases e2 : hf b = max (hf t) (hf u)
  ·exact hS a ha b hb (by lia)
  ·rw [if_pos e1, if_neg e2] at e
   exact (key b hb a ha e.symm e1).symm
 ·by_cases e2 : hf b = max (hf t) (hf u)
  ·rw [if_neg e1, if_pos e2] at e
   exact key a ha b hb e e2
  ·rw [if_neg e1, if_neg e2] at e
   exact hS a ha b hb e
theorem alike_cl {hf : Tree -> Nat} (hT : ∀ op ts, Tree.node op ts ∈ T -> ∀ t ∈ ts, t ∈ T) (hS : Sound told T hf) {t u : Tree} (ht : t ∈ T) (hu : u ∈ T) (h : alike hf t u) : Cl told T t u := by
 obtain ⟨op, ts⟩ := t
 obtain ⟨op', us⟩ := u
 obtain ⟨rfl, h2⟩ := h
 have hl := congrArg List.length h2
 rw [List.length_map, List.length_map] at hl
 refine .cong ht hu hl fun j a b e1 e2 => hS a (hT _ _ ht a (List.mem_of_getElem? e1)) b (hT _ _ hu b (List.mem_of_getElem? e2)) ?_
 have := congrArg (fun l : List Nat => l[j]?) h2
 simp only [List.getElem?_map, e1, e2] at this
 injection this
theorem closed_cl {hf : Tree -> Nat} (hT : ∀ op ts, Tree.node op ts ∈ T -> ∀ t ∈ ts, t ∈ T) (hD : ∀ p ∈ told, p.1 ∈ T /\ p.2 ∈ T) (hP : ∀ t ∈ T, ∀ u ∈ T, Pcl told hf t u) {t u : Tree} (h : Cl told T t u) : t = u \/ (t ∈ T /\ u ∈ T /\ hf t = hf u) := by
 induction h with
 | refl t => exact .inl rfl
 | symm _ ih =>
  rcases ih with rfl | ⟨h1, h2, h3⟩
  ·exact .inl rfl
  ·exact .inr ⟨h2, h1, h3.symm⟩
 | trans _ _ ih1 ih2 =>
  rcases ih1 with rfl | ⟨h1, h2, h3⟩
  ·exact ih2
  ·rcases ih2 with rfl | ⟨h4, h5, h6⟩
   ·exact .inr ⟨h1, h2, h3⟩
   ·exact .inr ⟨h1, h5, h3.trans h6⟩
 | told m =>
  obtain ⟨h1, h2⟩ := hD _ m
  rcases hP _ h1 _ h2 with h | h
  ·exact .inr ⟨h1, h2, h⟩
  ·exact absurd (.inr (.inl m)) h
 | cong h1 h2 h3 _ ih =>
  rename_i op ts us _
  right
  refine ⟨h1, h2, ?_⟩
  rcases hP _ h1 _ h2 with h | h
  ·exact h
  ·refine absurd (.inl ⟨rfl, ?_⟩) h
   refine List.ext_getElem? fun j => ?_
   rw [List.getElem?_map, List.getElem?_map]
   by_cases hj : j < ts.length
   ·have g1 := List.getElem?_eq_getElem hj
    have g2 : us[j]? = some (us[j]'(by lia)) := List.getElem?_eq_getElem (by lia)
    rw [g1, g2]
    rcases ih j _ _ g1 g2 with h | ⟨_, _, h⟩
    ·rw [h]
    ·show some (hf _) = some (hf _); rw [h]
   ·rw [List.getElem?_eq_none (by lia), List.getElem?_eq_none (by lia)]
theorem dget_home {hf : Tree -> Nat} {t : Tree} : ∀ {T : List Tree}, t ∈ T -> dget t.v (homeE T hf) = some (natV (hf t))
 | u :: T, h => by
  rw [homeE, List.map_cons, dget_cons]
  by_cases e : u = t
  ·subst e; rw [if_pos rfl]
  ·rw [if_neg (fun q => e (Tree.v_inj q))]
   exact dget_home ((List.mem_cons.mp h).resolve_left fun q => e q.symm)
theorem dput_new {k v : V} : ∀ {es : List (V × V)}, k ∉ es.map (·.1) -> dput k v es = es ++ [(k, v)]
 | [], _ => rfl
 | (k0, v0) :: r, h => by
  rw [List.map_cons] at h
  rw [dput_cons, if_neg (fun e => h (by rw [<- e]; exact List.mem_cons_self)), dput_new fun q => h (List.mem_cons_of_mem _ q)]
  rfl
theorem dputs_new : ∀ (ps es : List (V × V)), ((es ++ ps).map (·.1)).Nodup -> dputs ps es = es ++ ps
 | [], es, _ => by rw [dputs, List.append_nil]
 | p :: ps, es, h => by
  have h1 : p.1 ∉ es.map (·.1) := fun hm => by
   rw [List.map_append, List.nodup_append] at h
   exact h.2.2 _ hm _ (by rw [List.map_cons]; exact List.mem_cons_self) rfl
  rw [dputs, dput_new h1, dputs_new ps (es ++ [p]) (by rw [List.append_assoc]; exact h), List.append_assoc]; rfl
theorem home_nodup (hn : T.Nodup) (hf : Tree -> Nat) : ((homeE T hf).map (·.1)).Nodup := by
 unfold homeE
 rw [List.map_map]
 exact List.Pairwise.map _ (fun a b hab e => hab (Tree.v_inj e)) hn
theorem dputs_home (hn : T.Nodup) (hf : Tree -> Nat) : dputs (homeE T hf) [] = homeE T hf := by
 rw [dputs_new _ _ (by rw [List.nil_append]; exact home_nodup hn hf), List.nil_append]
theorem tree_v : ∀ (n : Nat) (t : Tree), t.height < n -> treeV n t.v
 | n + 1, .node op ts, h => by
  rw [Tree.v]
  show ∀ v ∈ Tree.vs ts, treeV n v
  intro v hv
  rw [Tree.vs_map] at hv
  obtain ⟨t, h1, rfl⟩ := List.mem_map.mp hv
  have := Tree.height_mem h1
  rw [Tree.height] at h
  exact tree_v n t (by lia)
open Classical in
theorem places (T : List Tree) (hn : T.Nodup) : ∃ hf : Tree -> Nat, ∀ i t, T[i]? = some t -> hf t = i := by
 refine ⟨fun t => if h : ∃ i, T[i]? = some t then Classical.choose h else 0, fun i t e => ?_⟩
 have h : ∃ i, T[i]? = some t := ⟨i, e⟩
 show (if h : ∃ i, T[i]? = some t then Classical.choose h else 0) = i
 rw [dif_pos h]
 have h1 := Classical.choose_spec h
 exact (List.getElem?_inj (lt_of_get h1) hn).mp (h1.trans e.symm)
end
section
variable {Γ : Cx} {n : Nat} {σ : Store} {Q : V -> Store -> Prop} {sc : Scope} {ρ : Vars} {T : List Tree} {told : List (Tree × Tree)}
noncomputable def toldV (told : List (Tree × Tree)) : List V := told.map fun p => .tup [p.1.v, p.2.v]
theorem toldV_mem {t u : Tree} : V.tup [t.v, u.v] ∈ toldV told ↔ (t, u) ∈ told := by
 unfold toldV
 constructor
 ·intro h
  obtain ⟨p, h1, h2⟩ := List.mem_map.mp h
  injection h2 with h2
  injection h2 with h3 h4
  injection h4 with h4 _
  have : p = (t, u) := Prod.ext (Tree.v_inj h3) (Tree.v_inj h4)
  rw [<- this]; exact h1
 ·exact fun h => List.mem_map.mpr ⟨(t, u), h, rfl⟩
theorem toldV_cmp {t u : Tree} (hh : ∀ p ∈ told, p.1.height < 10 /\ p.2.height < 10) : ∀ x ∈ toldV told, cmpOk 20 x (.tup [t.v, u.v]) := by
 intro x hx
 obtain ⟨p, h1, rfl⟩ := List.mem_map.mp hx
 obtain ⟨h2, h3⟩ := hh p h1
 show ∀ (j : Nat) (a b : V), [p.1.v, p.2.v][j]? = some a -> [t.v, u.v][j]? = some b -> cmpOk 19 a b
 intro j a b e1 e2
 match j with
 | 0 => cases e1; cases e2; exact cmp_tree 19 _ _ (by lia)
 | 1 => cases e1; cases e2; exact cmp_tree 19 _ _ (by lia)
 | j + 2 => simp at e1
theorem ints_cmp {a b : List Nat} : ∀ (j : Nat) (x y : V), (a.map natV)[j]? = some x -> (b.map natV)[j]? = some y -> cmpOk 20 x y := by
 intro j x y h1 h2
 rw [List.getElem?_map] at h1 h2
 cases e1 : a[j]? with
 | none => rw [e1] at h1; cases h1
 | some p =>
  cases e2 : b[j]? with
  | none => rw [e2] at h2; cases h2
  | some q =>
   rw [e1] at h1
   rw [e2] at h2
   cases h1
   cases h2
   exact trivial
theorem ATest.mono {e : Expr} {Q Q' : Bool -> Store -> Prop} (h : ATest Γ n sc ρ e σ Q) (m : ∀ v σ', Q v σ' -> Q' v σ') : ATest Γ n sc ρ e σ Q' :=
 fun A s F env a b c d => wpAny_mono (h A s F env a b c d) (fun _ _ ⟨σ', x, y, z⟩ => ⟨σ', x, y, m _ _ z⟩) fun _ _ e => e
theorem def_463 : DefOk 463 := fun P => ⟨by kernel_rfl, by kernel_rfl⟩
theorem bind_463 (v u : Value) : bindArgs (fnA 463) ⟨[v, u], []⟩ = pure [(Str.ofString "some", v), (Str.ofString "told", u)] := by kernel_rfl
inductive CloW (told : List (Tree × Tree)) (T : List Tree) (σ₁ : Store) (m : Nat) (ρ : Vars) (σ' : Store) : Prop
 | mk (c0 : σ' = σ₁) (hf : Tree -> Nat) (b : Bool) (c3 : m = 2 * sumT T hf + (if b then 1 else 0)) (c4 : Sound told T hf) (c5 : (b = false -> ∀ t ∈ T, ∀ u ∈ T, Pcl told hf t u)) (c6 : ρ.lookup (Str.ofString "some") = some (.lst (T.map Tree.v))) (c7 : ρ.lookup (Str.ofString "told") = some (.lst (toldV told))) (c8 : ρ.lookup (Str.ofString "home") = some (.dct .T (homeE T hf))) (c9 : ρ.lookup (Str.ofString "is_new") = some (.bool b)) : CloW told T σ₁ m ρ σ'
inductive CloF (told : List (Tree × Tree)) (T : List Tree) (σ₁ : Store) (hf : Tree -> Nat) (xs : List V) (ρ : Vars) (σ' : Store) : Prop
 | mk (c0 : σ' = σ₁) (hf' : Tree -> Nat) (b' : Bool) (done : List Tree) (rest : List Tree) (c5 : xs = rest.map Tree.v) (c6 : done ++ rest = T) (c7 : Sound told T hf') (c8 : (b' = true -> sumT T hf' < sumT T hf)) (c9 : (b' = false -> sumT T hf' = sumT T hf /\ ∀ t ∈ done, ∀ u ∈ T, Pcl told hf' t u)) (c10 : ρ.lookup (Str.ofString "some") = some (.lst (T.map Tree.v))) (c11 : ρ.lookup (Str.ofString "told") = some (.lst (toldV told))) (c12 : ρ.lookup (Str.ofString "home") = some (.dct .T (homeE T hf'))) (c13 : ρ.lookup (Str.ofString "is_new") = some (.bool b')) : CloF told T σ₁ hf xs ρ σ'
inductive CloG (told : List (Tree × Tree)) (T : List Tree) (σ₁ : Store) (hf : Tree -> Nat) (done : List Tree) (t : Tree) (xs : List V) (ρ : Vars) (σ' : Store) : Prop
 | mk (c0 : σ' = σ₁) (hf'' : Tree -> Nat) (b'' : Bool) (done' : List Tree) (rest' : List Tree) (c5 : xs = rest'.map Tree.v) (c6 : done' ++ rest' = T) (c7 : Sound told T hf'') (c8 : (b'' = true -> sumT T hf'' < sumT T hf)) (c9 : (b'' = false -> sumT T hf'' = sumT T hf /\ (∀ t ∈ done, ∀ u ∈ T, Pcl told hf'' t u) /\ ∀ u ∈ done', Pcl told hf'' t u)) (c10 : ρ.lookup (Str.ofString "some") = some (.lst (T.map Tree.v))) (c11 : ρ.lookup (Str.ofString "told") = some (.lst (toldV told))) (c12 : ρ.lookup (Str.ofString "home") = some (.dct .T (homeE T hf''))) (c13 : ρ.lookup (Str.ofString "is_new") = some (.bool b'')) (c14 : ρ.lookup (Str.ofString "tree") = some t.v) : CloG told T σ₁ hf done t xs ρ σ'
theorem c_closed (hK : CK Γ) (hT : ∀ op ts, Tree.node op ts ∈ T -> ts.length <= 2 /\ ∀ t ∈ ts, t ∈ T) (hh : ∀ t ∈ T, t.height < 7) (hn : T.Nodup) (hz : T.length <= 100) (hD : ∀ p ∈ told, p.1 ∈ T /\ p.2 ∈ T)
  (q : ∀ hf, (∀ t ∈ T, ∀ u ∈ T, (hf t = hf u ↔ Cl told T t u)) -> Q (.dct .T (homeE T hf)) σ) : ACall Γ (n + 3) (.ref 463) [.lst (T.map Tree.v), .lst (toldV told)] σ Q := by
 have hT2 : ∀ op ts, Tree.node op ts ∈ T -> ∀ t ∈ ts, t ∈ T := fun op ts h => (hT op ts h).2
 have htk : ∀ t ∈ T, keyOk .T t.v := fun t h => tree_v 7 t (hh t h)
 have hDh : ∀ p ∈ told, p.1.height < 10 /\ p.2.height < 10 := fun p hp => ⟨by have := hh _ (hD p hp).1; lia, by have := hh _ (hD p hp).2; lia⟩
 refine hK.def2 def_463 bind_463 ?_
 ·skip
  obtain ⟨hf0, hf0s⟩ := places T hn
  refine AExecs.cons (AExec.assign (AEval.tuple (AArgs.cons (hK.callT (id := "dict") (AArgs.cons ?_)))) (fun env he => by cases env; simp only at he; subst he; kernel_rfl) (fun env he => by cases env; simp only at he; subst he; kernel_rfl))
  refine AEval.listcompG [] (turn0 _ _ _ _ _) (by kernel_rfl) free_nil (AIt.enum (by kernel_rfl) (hK.ns (by kernel_rfl)) (AEval.loc rfl (EnumQ.mk rfl ?_))) (fun _ _ => rfl)
  refine CompRun.inv (fun xs acc σ' => σ' = σ /\ ∃ done rest, xs = enumV done.length (rest.map Tree.v) /\ done ++ rest = T /\ acc = (homeE done hf0).map pairV) ?_ ?_ _ _ _ ⟨rfl, [], T, rfl, rfl, rfl⟩
  ·rintro x xs acc σ₁ K ⟨rfl, done, rest, e1, e2, rfl⟩ hK'
   cases rest with
   | nil => cases e1
   | cons t rest =>
    rw [List.map_cons, enumV] at e1
    injection e1 with e1 e3
    subst e1
    subst e3
    have ht : hf0 t = done.length := hf0s _ _ (by rw [<- e2, List.getElem?_append_right (Nat.le_refl _), Nat.sub_self]; rfl)
    have hdl : done.length <= T.length := by rw [<- e2, List.length_append]; lia
    refine ALoc.pair rfl (by kernel_rfl) (by kernel_rfl) ⟨keeps_two rfl rfl, AComp.rest0 (AEval.tuple (AArgs.loc rfl (AArgs.loc rfl (AArgs.nil ⟨lim rfl, by simp [homeE]; lia, hK' _ _ ⟨rfl, done ++ [t], rest, by rw [List.length_append, List.length_singleton], by rw [List.append_assoc]; exact e2, ?_⟩⟩))))⟩
    unfold homeE
    rw [List.map_append, List.map_append, List.map_singleton, List.map_singleton, ht]; rfl
  rintro acc σ₁ ⟨rfl, done, rest, e1, e2, rfl⟩
  cases rest with
  | cons t rest => cases e1
  | nil =>
  rw [List.append_nil] at e2
  have e2' := e2.symm
  subst e2'
  refine AArgs.nil (ACall.dictL (f := .T) .lst rfl (fun p hp => ?_) (by unfold homeE; rw [List.length_map]; lia) ?_)
  ·obtain ⟨t, h1, rfl⟩ := List.mem_map.mp hp
   exact htk t h1
  rw [dputs_home hn]
  refine AArgs.cons (AEval.boolc (AArgs.nil ⟨lim rfl, ?_⟩))
  refine AAssign.tuple rfl rfl (AAssign.cel (AAssign.loc ?_))
  have hS0 : Sound told T hf0 := fun t ht u hu e => by
   obtain ⟨i, hi, rfl⟩ := List.getElem_of_mem ht
   obtain ⟨j, hj, rfl⟩ := List.getElem_of_mem hu
   have h1 := hf0s i _ (List.getElem?_eq_getElem hi)
   have h2 := hf0s j _ (List.getElem?_eq_getElem hj)
   obtain rfl : i = j := by lia
   exact .refl _
  refine AExecs.cons (AExec.while (CloW told T σ₁) _ ⟨rfl, hf0, true, rfl, hS0, (fun h => nomatch h), rfl, rfl, rfl, rfl⟩ ?_)
  rintro m ρ σ₁ ⟨rfl, hf, b, rfl, hS, hP, g1, g2, g3, g4⟩
  refine ATest.value (AEval.loc g4 (ATruthy.bool ?_))
  cases b with
  | false =>
   refine AExecs.cons (AExec.ret (AEval.cel g3 (q hf fun t ht u hu => ⟨hS t ht u hu, fun h => ?_⟩)))
   rcases closed_cl hT2 hD (hP rfl) h with rfl | ⟨_, _, h⟩
   ·rfl
   ·exact h
  | true =>
   refine AExecs.cons (AExec.assign (AEval.boolc (AAssign.loc ?_)))
   refine AExecs.cons (AExec.for (AIt.val (AEval.loc g1 (WalkQ.mk rfl ?_))))
   refine ForRun.inv (CloF told T σ₁ hf) ?_ ?_ _ _ _
    ⟨rfl, hf, false, [], T, rfl, rfl, hS, (fun h => nomatch h), fun _ => ⟨rfl, fun t ht => nomatch ht⟩, g1, g2, g3, rfl⟩
   ·rintro x xs ρ σ₁ K ⟨rfl, hf', b', done, rest, e1, e2, hS', hb1, hb2, f1, f2, f3, f4⟩ hK'
    cases rest with
    | nil => cases e1
    | cons t rest =>
     rw [List.map_cons] at e1
     injection e1 with e1 e3
     subst e1
     subst e3
     have ht : t ∈ T := by rw [<- e2]; simp
     refine AAssign.loc ?_
     refine AExecs.cons (AExec.for (AIt.val (AEval.loc f1 (WalkQ.mk rfl ?_))))
     refine ForRun.inv (CloG told T σ₁ hf done t) ?_ ?_ _ _ _
      ⟨rfl, hf', b', [], T, rfl, rfl, hS', hb1, fun h => ⟨(hb2 h).1, (hb2 h).2, fun u hu => nomatch hu⟩, f1, f2, f3, f4, rfl⟩
     ·rintro x xs ρ σ₁ K2 ⟨rfl, hf2, b2, done', rest', e4, e5, hS2, hb3, hb4, k1, k2, k3, k4, k5⟩ hK2'
      cases rest' with
      | nil => cases e4
      | cons u rest' =>
       rw [List.map_cons] at e4
       injection e4 with e4 e6
       subst e4
       subst e6
       have hu : u ∈ T := by rw [<- e5]; simp
       refine AAssign.loc ?_
       have k1' : List.lookup (Str.ofString "some") ((Str.ofString "late", u.v) :: ρ) = some (.lst (T.map Tree.v)) := k1
       have k2' : List.lookup (Str.ofString "told") ((Str.ofString "late", u.v) :: ρ) = some (.lst (toldV told)) := k2
       have k3' : List.lookup (Str.ofString "home") ((Str.ofString "late", u.v) :: ρ) = some (.dct .T (homeE T hf2)) := k3
       have k4' : List.lookup (Str.ofString "is_new") ((Str.ofString "late", u.v) :: ρ) = some (.bool b2) := k4
       have k5' : List.lookup (Str.ofString "tree") ((Str.ofString "late", u.v) :: ρ) = some t.v := k5
       have k6' : List.lookup (Str.ofString "late") ((Str.ofString "late", u.v) :: ρ) = some u.v := rfl
       generalize (Str.ofString "late", u.v) :: ρ = ρ' at k1' k2' k3' k4' k5' k6' ⊢
       refine AExecs.cons (AExec.assign (AEval.mono (Q := fun v σ' => σ' = σ₁ /\ ∃ c, v = .bool c /\ (c = true ↔ alike hf2 t u)) ?_ ?_))
       ·obtain ⟨op, ts⟩ := t
        obtain ⟨op', us⟩ := u
        obtain ⟨hts1, hts2⟩ := hT _ _ ht
        obtain ⟨hus1, hus2⟩ := hT _ _ hu
        have lts := Tree.len_vs ts
        have lus := Tree.len_vs us
        rw [Tree.v] at k5' k6'
        refine AEval.and2 (AEval.compare (AEval.sub (AEval.loc k5' (AEval.int (AItem.tuple (k := 0) (v := .str op) rfl (by rw [List.length_cons]; lia) ?_)))))
        refine AEval.sub (AEval.loc k6' (AEval.int (AItem.tuple (k := 0) (v := .str op') rfl (by rw [List.length_cons]; lia) (AOp2.eqS ?_))))
        by_cases ho : op = op'
        ·rw [decide_eq_true ho]
         refine AEval.compare (AEval.listcompG [(Str.ofString "home", .dct .T (homeE T hf2))] (turn0 _ _ _ _ _) (by kernel_rfl) (free_one (by kernel_rfl) k3') (AIt.val (AEval.tail1 (AEval.loc k5' (TailQ.mk (by simp) (by rw [List.length_cons]; lia) (WalkQ.mk rfl ?_))))) (fun _ _ => rfl))
         rw [show (V.str op :: Tree.vs ts).drop 1 = ts.map Tree.v from Tree.vs_map ts]
         refine CompRun.mapE Tree.v (fun t => natV (hf2 t)) ts [] (lim_nil (by lia)) (fun p hp acc' K' hz' hK2 => ?_) ?_
         ·exact ALoc.name (by kernel_rfl) ⟨keeps_one rfl, AComp.rest0 (AEval.sub (AEval.cel rfl (AEval.loc rfl (AItem.dict .dct (htk p (hts2 p hp)) (dget_home (hts2 p hp)) ⟨hz', hK2⟩))))⟩
         refine AEval.listcompG [(Str.ofString "home", .dct .T (homeE T hf2))] (turn0 _ _ _ _ _) (by kernel_rfl) (free_one (by kernel_rfl) k3') (AIt.val (AEval.tail1 (AEval.loc k6' (TailQ.mk (by simp) (by rw [List.length_cons]; lia) (WalkQ.mk rfl ?_))))) (fun _ _ => rfl)
         rw [show (V.str op' :: Tree.vs us).drop 1 = us.map Tree.v from Tree.vs_map us]
         refine CompRun.mapE Tree.v (fun t => natV (hf2 t)) us [] (lim_nil (by lia)) (fun p hp acc' K' hz' hK2 => ?_) ?_
         ·exact ALoc.name (by kernel_rfl) ⟨keeps_one rfl, AComp.rest0 (AEval.sub (AEval.cel rfl (AEval.loc rfl (AItem.dict .dct (htk p (hus2 p hp)) (dget_home (hus2 p hp)) ⟨hz', hK2⟩))))⟩
         rw [List.nil_append, List.nil_append, show ts.map (fun t => natV (hf2 t)) = (ts.map hf2).map natV from by rw [List.map_map]; rfl, show us.map (fun t => natV (hf2 t)) = (us.map hf2).map natV from by rw [List.map_map]; rfl]
         refine AOp2.eqL .lst .lst ints_cmp fun b hb => ⟨rfl, b, rfl, ?_⟩
         rw [hb]
         exact ⟨fun h => ⟨ho, map_natV_inj h⟩, fun h => by rw [h.2]⟩
        ·rw [decide_eq_false ho]
         exact ⟨rfl, false, rfl, fun h => (nomatch h), fun h => absurd h.1 ho⟩
       ·rintro v σ' ⟨rfl, c, rfl, hc⟩
        refine AAssign.loc ?_
        have j1 : List.lookup (Str.ofString "some") ((Str.ofString "is_alike", V.bool c) :: ρ') = some (.lst (T.map Tree.v)) := k1'
        have j2 : List.lookup (Str.ofString "told") ((Str.ofString "is_alike", V.bool c) :: ρ') = some (.lst (toldV told)) := k2'
        have j3 : List.lookup (Str.ofString "home") ((Str.ofString "is_alike", V.bool c) :: ρ') = some (.dct .T (homeE T hf2)) := k3'
        have j4 : List.lookup (Str.ofString "is_new") ((Str.ofString "is_alike", V.bool c) :: ρ') = some (.bool b2) := k4'
        have j5 : List.lookup (Str.ofString "tree") ((Str.ofString "is_alike", V.bool c) :: ρ') = some t.v := k5'
        have j6 : List.lookup (Str.ofString "late") ((Str.ofString "is_alike", V.bool c) :: ρ') = some u.v := k6'
        have j7 : List.lookup (Str.ofString "is_alike") ((Str.ofString "is_alike", V.bool c) :: ρ') = some (.bool c) := rfl
        generalize (Str.ofString "is_alike", V.bool c) :: ρ' = ρ2 at j1 j2 j3 j4 j5 j6 j7 ⊢
        refine AExecs.cons (AExec.if (ATest.mono (Q := fun b σ'' => σ'' = σ' /\ (b = true ↔ (hf2 t ≠ hf2 u /\ (alike hf2 t u \/ (t, u) ∈ told \/ (u, t) ∈ told)))) ?_ ?_))
        ·refine ATest.and2 (ATest.compare (AEval.sub (AEval.cel j3 (AEval.loc j5 (AItem.dict .dct (htk t ht) (dget_home ht) ?_)))))
         refine AEval.sub (AEval.cel j3 (AEval.loc j6 (AItem.dict .dct (htk u hu) (dget_home hu) (AOp2.neI ?_))))
         by_cases e : hf2 t = hf2 u
         ·rw [decide_eq_true (by lia)]
          exact ⟨rfl, fun h => (nomatch h), fun h => absurd e h.1⟩
         ·rw [decide_eq_false (by lia)]
          refine ATest.or3 (ATest.value (AEval.loc j7 (ATruthy.bool ?_)))
          cases c with
          | true => exact ⟨rfl, fun _ => ⟨e, .inl (hc.mp rfl)⟩, fun _ => rfl⟩
          | false =>
           have hna : ¬ alike hf2 t u := fun h => nomatch hc.mpr h
           refine ATest.compare (AEval.tuple (AArgs.loc j5 (AArgs.loc j6 (AArgs.nil ⟨lim rfl, AEval.loc j2 (AOp2.inL .lst (toldV_cmp hDh) fun b hb => ?_)⟩))))
           rw [toldV_mem] at hb
           cases b with
           | true => exact ⟨rfl, fun _ => ⟨e, .inr (.inl (hb.mp rfl))⟩, fun _ => rfl⟩
           | false =>
            have hnb : ¬ (t, u) ∈ told := fun h => nomatch hb.mpr h
            refine ATest.compare (AEval.tuple (AArgs.loc j6 (AArgs.loc j5 (AArgs.nil ⟨lim rfl, AEval.loc j2 (AOp2.inL .lst (toldV_cmp hDh) fun b' hb' => ?_)⟩))))
            rw [toldV_mem] at hb'
            refine ⟨rfl, fun h => ⟨e, .inr (.inr (hb'.mp h))⟩, fun h => ?_⟩
            rcases h.2 with h | h | h
            ·exact absurd h hna
            ·exact absurd h hnb
            ·exact hb'.mpr h
        ·rintro b3 σ'' ⟨rfl, hb5⟩
         cases b3 with
         | false =>
          have hPcl : Pcl told hf2 t u := by
           by_cases e : hf2 t = hf2 u
           ·exact .inl e
           ·exact .inr fun h => nomatch hb5.mpr ⟨e, h⟩
          refine AExecs.nil (AExecs.nil (hK2' _ _ ⟨rfl, hf2, b2, done' ++ [u], rest', rfl, by rw [List.append_assoc]; exact e5, hS2, hb3, fun h => ⟨(hb4 h).1, (hb4 h).2.1, fun w hw => ?_⟩, j1, j2, j3, j4, j5⟩))
          rcases List.mem_append.mp hw with h1 | h1
          ·exact (hb4 h).2.2 w h1
          ·rw [List.mem_singleton.mp h1]; exact hPcl
         | true =>
          obtain ⟨hne, hj⟩ := hb5.mp rfl
          have hcl : Cl told T t u := by
           rcases hj with h | h | h
           ·exact alike_cl hT2 hS2 ht hu h
           ·exact .told h
           ·exact (Cl.told h).symm
          refine AExecs.cons (AExec.assign (hK.callB (id := "sorted") (AArgs.cons (AEval.listF (AArgs.cons ?_)))))
          refine AEval.sub (AEval.cel j3 (AEval.loc j5 (AItem.dict .dct (htk t ht) (dget_home ht) (AArgs.cons ?_))))
          refine AEval.sub (AEval.cel j3 (AEval.loc j6 (AItem.dict .dct (htk u hu) (dget_home hu) (AArgs.nil ⟨lim rfl, AArgs.nil ?_⟩))))
          refine ACall.sortedI (is := [((hf2 t : Nat) : Int), ((hf2 u : Nat) : Int)]) .lst (by simp) fun js hj1 hj2 => ?_
          obtain rfl := sorted2 hj1 hj2
          rw [show ([min ((hf2 t : Nat) : Int) ((hf2 u : Nat) : Int), max ((hf2 t : Nat) : Int) ((hf2 u : Nat) : Int)].map V.int) = [natV (min (hf2 t) (hf2 u)), natV (max (hf2 t) (hf2 u))] from by
           unfold natV
           simp only [List.map_cons, List.map_nil]
           rw [show min ((hf2 t : Nat) : Int) ((hf2 u : Nat) : Int) = ((min (hf2 t) (hf2 u) : Nat) : Int) from by lia, show max ((hf2 t : Nat) : Int) ((hf2 u : Nat) : Int) = ((max (hf2 t) (hf2 u) : Nat) : Int) from by lia]]
          have hS3 := hS2.lower ht hu hne hcl
          have hlt : sumT T (lower hf2 (min (hf2 t) (hf2 u)) (max (hf2 t) (hf2 u))) < sumT T hf2 := by
           rcases Nat.le_total (hf2 t) (hf2 u) with h | h
           ·exact sumT_lt (by lia) hu (by lia)
           ·exact sumT_lt (by lia) ht (by lia)
          generalize min (hf2 t) (hf2 u) = low at *
          generalize max (hf2 t) (hf2 u) = high at *
          refine AAssign.tuple rfl rfl (AAssign.cel (AAssign.cel ?_))
          have j3' : List.lookup (Str.ofString "home") ((Str.ofString "high", natV high) :: (Str.ofString "low", natV low) :: ρ2) = some (.dct .T (homeE T hf2)) := j3
          refine AExecs.cons (AExec.assign (hK.callT (id := "dict") (AArgs.cons ?_)))
          refine AEval.listcompG [(Str.ofString "high", natV high), (Str.ofString "low", natV low)] (turn0 _ _ _ _ _) (by kernel_rfl) (free_cons (by kernel_rfl) rfl (free_cons (by kernel_rfl) rfl free_nil)) (AIt.items (AEval.cel j3' ⟨.T, _, rfl, by unfold homeE; rw [List.length_map]; lia, ?_⟩)) (fun _ _ => rfl)
          rw [show (homeE T hf2).map pairV = T.map fun t => pairV (t.v, natV (hf2 t)) from by unfold homeE; rw [List.map_map]; rfl]
          refine CompRun.mapE (fun t : Tree => pairV (t.v, natV (hf2 t))) (fun t => pairV (t.v, natV (lower hf2 low high t))) T [] (lim_nil (by lia)) (fun p hp acc' K' hz' hK3 => ?_) ?_
          ·refine ALoc.pair rfl (by kernel_rfl) (by kernel_rfl) ⟨keeps_two rfl rfl, AComp.rest0 (AEval.tuple (AArgs.loc rfl (AArgs.cons (AEval.ifexp (ATest.compare (AEval.loc rfl (AEval.cel rfl (AOp2.eqI ?_))))))))⟩
           have el : natV (lower hf2 low high p) = if hf2 p = high then natV low else natV (hf2 p) := by unfold lower; split <;> rfl
           by_cases e : hf2 p = high
           ·rw [decide_eq_true (by lia)]
            rw [el, if_pos e] at hK3
            exact AEval.cel rfl (AArgs.nil ⟨lim rfl, hz', hK3⟩)
           ·rw [decide_eq_false (by lia)]
            rw [el, if_neg e] at hK3
            exact AEval.loc rfl (AArgs.nil ⟨lim rfl, hz', hK3⟩)
          rw [List.nil_append, show T.map (fun t => pairV (t.v, natV (lower hf2 low high t))) = (homeE T (lower hf2 low high)).map pairV from by unfold homeE; rw [List.map_map]; rfl]
          refine AArgs.nil (ACall.dictL (f := .T) .lst rfl (fun p hp => ?_) (by unfold homeE; rw [List.length_map]; lia) ?_)
          ·obtain ⟨t, h1, rfl⟩ := List.mem_map.mp hp
           exact htk t h1
          rw [dputs_home hn]
          refine AAssign.cel ?_
          refine AExecs.cons (AExec.assign (AEval.boolc (AAssign.loc ?_)))
          refine AExecs.nil (AExecs.nil (hK2' _ _ ⟨rfl, lower hf2 low high, true, done' ++ [u], rest', rfl, by rw [List.append_assoc]; exact e5, hS3, fun _ => ?_, fun h => (nomatch h), j1, j2, rfl, rfl, j5⟩))
          cases b2 with
          | true => have := hb3 rfl; lia
          | false => have := (hb4 rfl).1; lia
     ·rintro ρ σ₁ ⟨rfl, hf2, b2, done', rest', e4, e5, hS2, hb3, hb4, k1, k2, k3, k4, k5⟩
      cases rest' with
      | cons u rest' => cases e4
      | nil =>
       rw [List.append_nil] at e5
       subst e5
       refine AExecs.nil (hK' _ _ ⟨rfl, hf2, b2, done ++ [t], rest, rfl, by rw [List.append_assoc]; exact e2, hS2, hb3, fun h => ⟨(hb4 h).1, fun a ha u hu => ?_⟩, k1, k2, k3, k4⟩)
       rcases List.mem_append.mp ha with h1 | h1
       ·exact (hb4 h).2.1 a h1 u hu
       ·rw [List.mem_singleton.mp h1]; exact (hb4 h).2.2 u hu
   ·rintro ρ σ₁ ⟨rfl, hf', b', done, rest, e1, e2, hS', hb1, hb2, f1, f2, f3, f4⟩
    cases rest with
    | cons t rest => cases e1
    | nil =>
     rw [List.append_nil] at e2
     subst e2
     refine AExecs.nil ⟨_, ?_, rfl, hf', b', rfl, hS', fun h => (hb2 h).2, f1, f2, f3, f4⟩
     cases b' with
     | true => have := hb1 rfl; simp; lia
     | false => have := (hb2 rfl).1; simp; lia
end
section
variable {Γ : Cx} {n : Nat} {σ : Store} {Q : V -> Store -> Prop} {sc : Scope} {ρ : Vars} {T : List Tree} {told : List (Tree × Tree)}
noncomputable def leafS (k : Nat) : Str := Str.ofString "leaf" ++ Str.ofString (toString (k : Int))
theorem leaf_len : ∀ k : Nat, k < 10 -> (Str.ofString (toString (k : Int))).length <= 1000 := by decide
theorem log_small {k : Nat} (h : k < 10) : ((k : Int)).natAbs.log2 < 1920 := by
 have : ∀ k : Nat, k < 10 -> ((k : Int)).natAbs.log2 < 1920 := by decide
 exact this k h
theorem dget_dputs {k : V} : ∀ (ps es : List (V × V)), (dget k (dputs ps es)).isSome = true ↔ (dget k es).isSome = true \/ k ∈ ps.map (·.1)
 | [], es => by rw [dputs]; simp
 | p :: ps, es => by
  rw [dputs, dget_dputs ps, List.map_cons, List.mem_cons]
  have h : (dget k (dput p.1 p.2 es)).isSome = true ↔ (dget k es).isSome = true \/ k = p.1 := by
   by_cases e : k = p.1
   ·have : dget k (dput p.1 p.2 es) = some p.2 := by rw [dget_dput, if_pos e.symm]
    rw [this]
    exact ⟨fun _ => .inr e, fun _ => rfl⟩
   ·have : dget k (dput p.1 p.2 es) = dget k es := by rw [dget_dput, if_neg (fun q => e q.symm)]
    rw [this]
    exact ⟨.inl, fun h => h.resolve_right e⟩
  rw [h, or_assoc]
mutual
theorem opsT_parts : ∀ t : Tree, (partsT t).map (fun p => p.2.op) = opsT t
 | .node op kids => by rw [partsT, opsT, List.map_cons, opsK_parts 0 kids]; rfl
theorem opsK_parts : ∀ (i : Nat) (ts : List Tree), (partsK i ts).map (fun p => p.2.op) = opsK ts
 | _, [] => by rw [partsK, opsK]; rfl
 | i, t :: r => by
  rw [partsK, opsK, List.map_append, List.map_map, opsK_parts (i + 1) r, <- opsT_parts t]; rfl
end
mutual
theorem parts_size : ∀ (t : Tree) (p : List Int × Tree), p ∈ partsT t -> p.2.size <= t.size
 | .node op kids, p, h => by
  rw [partsT] at h
  rcases List.mem_cons.mp h with rfl | h
  ·exact Nat.le_refl _
  ·have := parts_sizeK 0 kids p h
   rw [Tree.size]; lia
theorem parts_sizeK : ∀ (i : Nat) (ts : List Tree) (p : List Int × Tree), p ∈ partsK i ts -> p.2.size <= Tree.sizes ts
 | _, [], p, h => by rw [partsK] at h; cases h
 | i, t :: r, p, h => by
  rw [partsK] at h
  rw [Tree.sizes]
  rcases List.mem_append.mp h with h | h
  ·obtain ⟨q, hq, rfl⟩ := List.mem_map.mp h
   have := parts_size t q hq
   show q.2.size <= _
   lia
  ·have := parts_sizeK (i + 1) r p h; lia
end
noncomputable def fr (b0 b2 : Bool) : Nat -> Nat
 | 0 => if b0 then 1 else 0
 | _ => if b0 then (if b2 then 3 else 2) else 1
noncomputable def nf (b0 b2 : Bool) (k : Nat) : Nat := if (k = 0 /\ b0) \/ (k = 2 /\ b2) then k + 1 else k
noncomputable def tabG (b0 b2 : Bool) (js : List Str) : List (Str × Tree) := (js.zip [fr b0 b2 0, fr b0 b2 1]).map fun p => (p.1, .node (leafS p.2) [])
theorem fr_next (b0 b2 : Bool) : nf b0 b2 (fr b0 b2 0 + 1) = fr b0 b2 1 := by cases b0 <;> cases b2 <;> rfl
theorem fr_first (b0 b2 : Bool) : nf b0 b2 0 = fr b0 b2 0 := by cases b0 <;> cases b2 <;> rfl
theorem fr_le (b0 b2 : Bool) : fr b0 b2 0 <= 1 /\ fr b0 b2 1 <= 3 := by cases b0 <;> cases b2 <;> decide
structure Pat (t : Tree) : Prop where
 height : t.height <= 2
 size : t.size <= 7
 good : t.good
 hop : ∀ p ∈ partsT t, ∃ c, p.2.op.cps[0]? = some c
theorem def_200 : DefOk 200 := fun P => ⟨by kernel_rfl, by kernel_rfl⟩
theorem bind_200 (v : Value) : bindArgs (fnA 200) ⟨[v], []⟩ = pure [(Str.ofString "overlap", v)] := by kernel_rfl
inductive GroF (σ₁ : Store) (a : Addr) (b0 b2 : Bool) (js : List Str) (kns : List (V × V)) (p one other : Tree) (xs : List V) (ρ : Vars) (σ' : Store) : Prop
 | mk (done : List Str) (rest : List Str) (k : Nat) (c3 : xs = rest.map V.str) (c4 : done ++ rest = js) (c5 : σ' = put σ₁ a (.dct .S (tabV (tabG b0 b2 done)))) (c6 : ρ.lookup (Str.ofString "k") = some (natV k)) (c7 : k = (match done.length with | 0 => 0 | 1 => fr b0 b2 0 + 1 | _ => fr b0 b2 1 + 1)) (c8 : ρ.lookup (Str.ofString "known") = some (.dct .S kns)) (c9 : ρ.lookup (Str.ofString "table") = some (.ref a)) (c10 : ρ.lookup (Str.ofString "overlap") = some (.tup [.tup [], p.v, one.v, other.v])) : GroF σ₁ a b0 b2 js kns p one other xs ρ σ'
inductive GroW (σ₁ : Store) (a : Addr) (b0 b2 : Bool) (done : List Str) (kns : List (V × V)) (p one other : Tree) (k : Nat) (y : Str) (m : Nat) (ρ' : Vars) (σ' : Store) : Prop
 | mk (j : Nat) (c1 : σ' = put σ₁ a (.dct .S (tabV (tabG b0 b2 done)))) (c2 : m = 10 - j) (c3 : j <= 5) (c4 : ((j = k /\ j <= 4) \/ (nf b0 b2 j = j))) (c5 : nf b0 b2 j = nf b0 b2 k) (c6 : ρ'.lookup (Str.ofString "k") = some (natV j)) (c7 : ρ'.lookup (Str.ofString "known") = some (.dct .S kns)) (c8 : ρ'.lookup (Str.ofString "table") = some (.ref a)) (c9 : ρ'.lookup (Str.ofString "overlap") = some (.tup [.tup [], p.v, one.v, other.v])) (c10 : ρ'.lookup (Str.ofString "name") = some (.str y)) : GroW σ₁ a b0 b2 done kns p one other k y m ρ' σ'
theorem c_grounded (hK : CK Γ) {p one other : Tree} (hp : Pat p) (h1 : Pat one) (h2 : Pat other) {b0 b2 : Bool} (hkn : ∀ k, k < 6 -> (leafS k ∈ opsT p ++ opsT one ++ opsT other ↔ (k = 0 /\ b0 = true) \/ (k = 2 /\ b2 = true)))
  {u v : Str} (huv : ∀ k ∈ varsT p, k = u \/ k = v)
  (q : ∀ js : List Str, js.Perm (setAll (varsT p) []) -> sortedS js = true -> Q (.tup [(filledT (tabG b0 b2 js) one).v, (filledT (tabG b0 b2 js) other).v]) σ) :
  ACall Γ (n + 7) (.ref 200) [.tup [.tup [], p.v, one.v, other.v]] σ Q := by
 refine hK.def1 def_200 bind_200 ?_
 ·skip
  have ps := hp.size
  have os := h1.size
  have ts := h2.size
  have ph := hp.height
  have oh := h1.height
  have th := h2.height
  refine AExecs.cons (AExec.assign (hK.callT (id := "dict") (AArgs.cons ?_)))
  refine AEval.listcompG [] (turn2 _ _ _ _ _ _ _) (by kernel_rfl) free_nil (AIt.val (AEval.tail1 (AEval.loc rfl (TailQ.mk (Nat.le_of_ble_eq_true rfl) (lim rfl) (WalkQ.mk rfl ?_))))) (fun _ _ => rfl)
  rw [show [V.tup [], p.v, one.v, other.v].drop 1 = [p, one, other].map Tree.v from rfl]
  refine CompRun.inv (fun xs acc σ₁ => σ₁ = σ /\ ∃ done rest, xs = rest.map Tree.v /\ done ++ rest = [p, one, other] /\ acc = ((opsK done).map fun o => (V.str o, V.bool true)).map pairV) ?_ ?_ _ _ _ ⟨rfl, [], [p, one, other], rfl, rfl, rfl⟩
  ·rintro x xs acc σ₁ K ⟨rfl, done, rest, e1, e2, rfl⟩ hK'
   cases rest with
   | nil => cases e1
   | cons k rest =>
    rw [List.map_cons] at e1
    injection e1 with e1 e3
    subst e1
    subst e3
    have hk : k.height <= 2 /\ k.size <= 7 := by
     have : k ∈ [p, one, other] := by rw [<- e2]; simp
     rcases List.mem_cons.mp this with rfl | this
     ·exact ⟨ph, ps⟩
     rcases List.mem_cons.mp this with rfl | this
     ·exact ⟨oh, os⟩
     rw [List.mem_singleton.mp this]; exact ⟨th, ts⟩
    have hds : (opsK done).length <= 21 := by
     have := congrArg (fun l => (opsK l).length) e2
     simp only [opsK_append, List.length_append, opsK, opsT_len, List.length_nil] at this
     lia
    refine ALoc.name (by kernel_rfl) ⟨keeps_one rfl, AComp.rest2 (AIt.val (hK.callG (a := 84) (AArgs.loc rfl (AArgs.nil (c_parts hK _ k (by lia) (by lia) (WalkQ.mk rfl ?_)))))) (fun _ _ => rfl)⟩
    refine CompRun.mapE partV (fun q => pairV (V.str q.2.op, V.bool true)) (partsT k) _ (by rw [partsT_len]; simp; lia) (fun o ho acc' K2 hz' hK2 => ?_) ?_
    ·obtain ⟨path, op, kids⟩ := o
     have h3 := parts_size k _ ho
     have h4 := Tree.len_sizes kids
     have h5 := Tree.len_vs kids
     simp only [Tree.size] at h3
     exact ALoc.pair rfl (by kernel_rfl) (by kernel_rfl) ⟨keeps_two rfl rfl, AComp.rest0 (AEval.tuple (AArgs.cons (AEval.sub (AEval.loc rfl (AEval.int (AItem.tuple (k := 0) (v := .str op) rfl (by rw [List.length_cons]; lia) (AArgs.cons (AEval.boolc (AArgs.nil ⟨lim rfl, hz', hK2⟩)))))))))⟩
    ·refine hK' _ _ ⟨rfl, done ++ [k], rest, rfl, by rw [List.append_assoc]; exact e2, ?_⟩
     rw [opsK_append, List.map_append, List.map_append]
     congr 1
     simp only [opsK, List.append_nil]
     rw [<- opsT_parts, List.map_map, List.map_map]; rfl
  rintro acc σ₁ ⟨rfl, done, rest, e1, e2, rfl⟩
  cases rest with
  | cons t rest => cases e1
  | nil =>
  rw [List.append_nil] at e2
  subst e2
  have hol : (opsK [p, one, other]).length <= 21 := by rw [opsK_len]; simp only [Tree.sizes]; lia
  refine AArgs.nil (ACall.dictL (f := .S) .lst rfl (fun x hx => ?_) (by rw [List.length_map]; lia) ?_)
  ·obtain ⟨o, _, rfl⟩ := List.mem_map.mp hx
   exact ⟨o, rfl⟩
  have hknown : ∀ k, k < 6 -> ((dget (.str (leafS k)) (dputs ((opsK [p, one, other]).map fun o => (V.str o, V.bool true)) [])).isSome = true ↔ (k = 0 /\ b0 = true) \/ (k = 2 /\ b2 = true)) := fun k hk => by
   rw [dget_dputs, <- hkn k hk, List.map_map]
   have e : opsK [p, one, other] = opsT p ++ opsT one ++ opsT other := by simp only [opsK, List.append_nil, List.append_assoc]
   rw [e]
   constructor
   ·rintro (h | h)
    ·cases h
    ·obtain ⟨o, h3, h4⟩ := List.mem_map.mp h
     injection h4 with h4
     rw [<- h4]; exact h3
   ·exact fun h => .inr (List.mem_map.mpr ⟨_, h, rfl⟩)
  generalize dputs ((opsK [p, one, other]).map fun o => (V.str o, V.bool true)) [] = kns at hknown ⊢
  refine AAssign.loc ?_
  refine AExecs.cons (AExec.swap (names := ["table", "k"]) (AEval.tuple (AArgs.cons (AEval.dict0 (f := .S) fun a ha => AArgs.cons (AEval.int (AArgs.nil ⟨lim rfl, _, rfl, rfl, ?_⟩))))) (by simp only [List.mem_cons, List.not_mem_nil, or_false]; rintro x (rfl | rfl) <;> kernel_rfl) (fun env he => by cases env; simp only at he; subst he; kernel_rfl))
  refine AExecs.cons (AExec.for (AIt.val (hK.callG (a := 79) (AArgs.cons (AEval.sub (AEval.loc rfl (AEval.int (AItem.tuple (k := 1) (v := p.v) rfl (by simp) (AArgs.nil ?_)))))))))
  refine c_variables hK p (by lia) (by lia) (fun x hx => ⟨by have := parts_size p x hx; lia, hp.hop x hx⟩) huv fun js hj1 hj2 => WalkQ.mk rfl ?_
  have hjn : js.Nodup := hj1.nodup_iff.mpr (setAll_nodup _ _ List.nodup_nil)
  have hjl : js.length <= 2 := by
   have h3 := List.Nodup.length_le_of_subset hjn (l₂ := [u, v]) fun x hx => by
    have : x ∈ varsT p := by
     have := (setAll_mem _ _ x).mp (hj1.mem_iff.mp hx)
     exact this.resolve_left (by simp)
    rcases huv x this with rfl | rfl <;> simp
   exact h3
  refine ForRun.inv (GroF σ₁ a b0 b2 js kns p one other) ?_ ?_ _ _ _ ⟨[], js, 0, rfl, rfl, rfl, rfl, rfl, rfl, rfl, rfl⟩
  ·rintro x xs ρ σ₁ K ⟨done, rest, k, e1, e2, rfl, f1, f2, f3, f4, f5⟩ hK'
   cases rest with
   | nil => cases e1
   | cons y rest =>
    rw [List.map_cons] at e1
    injection e1 with e1 e3
    subst e1
    subst e3
    have hdl : done.length <= 1 := by
     have := congrArg List.length e2
     rw [List.length_append, List.length_cons] at this
     lia
    have hyd : y ∉ done := fun h => by
     rw [<- e2, List.nodup_append] at hjn
     exact hjn.2.2 y h y List.mem_cons_self rfl
    have hnf : nf b0 b2 k = fr b0 b2 done.length /\ k <= 4 := by
     have := fr_le b0 b2
     match hd : done.length with
     | 0 => rw [hd] at f2; have f2 : k = 0 := f2; rw [f2]; exact ⟨fr_first b0 b2, by lia⟩
     | 1 => rw [hd] at f2; simp only at f2; rw [f2]; exact ⟨fr_next b0 b2, by lia⟩
     | j + 2 => lia
    obtain ⟨hnf, hk4⟩ := hnf
    refine AAssign.loc ?_
    refine AExecs.cons (AExec.while (GroW σ₁ a b0 b2 done kns p one other k y) _ ⟨k, rfl, rfl, by lia, .inl ⟨rfl, hk4⟩, rfl, f1, f3, f4, f5, rfl⟩ ?_)
    rintro m ρ' σ' ⟨j, rfl, rfl, hj5, hjk, hjn2, t1, t2, t3, t4, t5⟩
    refine ATest.compare (AEval.joinedI (by decide) (AEval.loc t1 ⟨(j : Int), rfl, log_small (by lia), leaf_len j (by lia), AEval.loc t2 (AOp2.inD .dct ⟨_, rfl⟩ ?_)⟩))
    have hkj := hknown j (by lia)
    by_cases hin : (j = 0 /\ b0 = true) \/ (j = 2 /\ b2 = true)
    ·have h3 : (dget (V.str (Str.ofString "leaf" ++ Str.ofString (toString (j : Int)))) kns).isSome = true := hkj.mpr hin
     rw [h3]
     have hnj : nf b0 b2 j = j + 1 := by unfold nf; rw [if_pos hin]
     have hjk4 : j <= 4 := by
      rcases hjk with ⟨_, h⟩ | h
      ·exact h
      ·lia
     refine AExecs.cons (AExec.assign (AEval.binop (AEval.loc t1 (AEval.int (AOp2.addI (AAssign.loc ?_))))))
     have hn1 : nf b0 b2 (j + 1) = j + 1 := by
      unfold nf; rw [if_neg]
      rintro (⟨h, _⟩ | ⟨h, _⟩) <;> rcases hin with ⟨h', _⟩ | ⟨h', _⟩ <;> lia
     exact AExecs.nil ⟨10 - (j + 1), by lia, j + 1, rfl, rfl, by lia, .inr hn1, by rw [hn1, <- hjn2, hnj], rfl, t2, t3, t4, t5⟩
    ·have h3 : (dget (V.str (Str.ofString "leaf" ++ Str.ofString (toString (j : Int)))) kns).isSome = false := by
      rw [Bool.eq_false_iff]; exact fun h => hin (hkj.mp h)
     rw [h3]
     have hnj : nf b0 b2 j = j := by unfold nf; rw [if_neg hin]
     have hj : j = fr b0 b2 done.length := by rw [<- hnf, <- hjn2, hnj]
     refine AExecs.cons (AExec.assign (AEval.tuple (AArgs.cons (AEval.joinedI (by decide) (AEval.loc t1 ⟨(j : Int), rfl, log_small (by lia), leaf_len j (by lia), AArgs.nil ⟨lim rfl, ?_⟩⟩)))))
     refine AAssign.sub (AEval.loc t3 (AEval.loc t5 (ASetItem.dict (put_self _ _ _) ⟨_, rfl⟩ (by unfold tabV tabG; simp; lia) ?_)))
     rw [put_put]
     refine AExecs.cons (AExec.assign (AEval.binop (AEval.loc t1 (AEval.int (AOp2.addI (AAssign.loc ?_))))))
     refine AExecs.nil (hK' _ _ ⟨done ++ [y], rest, j + 1, rfl, by rw [List.append_assoc]; exact e2, ?_, rfl, ?_, t2, t3, t4⟩)
     ·congr 2
      have e5 : (V.tup [V.str (Str.ofString "leaf" ++ Str.ofString (toString (j : Int)))]) = (Tree.node (leafS j) []).v := rfl
      rw [e5, dput_new (fun hm => ?_)]
      ·match done, hdl, hj with
       | [], _, hj => simp only [tabG, tabV, List.zip_nil_left, List.map_nil, List.nil_append, List.zip_cons_cons, List.map_cons]; rw [hj]; rfl
       | [d], _, hj => simp only [tabG, tabV, List.zip_nil_left, List.map_nil, List.cons_append, List.nil_append, List.zip_cons_cons, List.map_cons]; rw [hj]; rfl
      ·unfold tabV tabG at hm
       rw [List.map_map, List.map_map] at hm
       obtain ⟨x, h6, h7⟩ := List.mem_map.mp hm
       have h8 : x.1 = y := by injection h7
       exact hyd (h8 ▸ (List.of_mem_zip h6).1)
     ·rw [hj]
      match done, hdl with
      | [], _ => rfl
      | [d], _ => rfl
  ·rintro ρ σ' ⟨done, rest, k, e1, e2, rfl, f1, f2, f3, f4, f5⟩
   cases rest with
   | cons t rest => cases e1
   | nil =>
    rw [List.append_nil] at e2
    subst e2
    refine AExecs.freeze f4 (put_self _ _ _) ?_
    rw [del_put ha]
    have f5' : List.lookup (Str.ofString "overlap") ((Str.ofString "table", V.dct .S (tabV (tabG b0 b2 done))) :: ρ) = some (.tup [.tup [], p.v, one.v, other.v]) := f5
    refine AExecs.cons (AExec.ret (AEval.tuple (AArgs.cons (hK.callG (a := 195) (AArgs.cons (AEval.sub (AEval.loc f5' (AEval.int (AItem.tuple (k := 2) (v := one.v) rfl (by simp) (AArgs.loc rfl (AArgs.nil ?_)))))))))))
    refine c_filled hK _ one (by lia) (by lia) h1.good (AArgs.cons (hK.callG (a := 195) (AArgs.cons (AEval.sub (AEval.loc f5' (AEval.int (AItem.tuple (k := 3) (v := other.v) rfl (by simp) (AArgs.loc rfl (AArgs.nil ?_)))))))))
    exact c_filled hK _ other (by lia) (by lia) h2.good (AArgs.nil ⟨lim rfl, q done hj1 hj2⟩)
end
section
variable {Γ : Cx} {n : Nat} {σ : Store} {Q : V -> Store -> Prop} {sc : Scope} {ρ : Vars} {T : List Tree} {told : List (Tree × Tree)} {X : Nat -> Prop} {loc : Loc} {hs : HS}
structure Ov (p one other s1 s2 : Tree) : Prop where
 hp : Pat p
 h1 : Pat one
 h2 : Pat other
 ex : ∃ (b0 b2 : Bool) (u v : Str), (∀ k, k < 6 -> (leafS k ∈ opsT p ++ opsT one ++ opsT other ↔ (k = 0 /\ b0 = true) \/ (k = 2 /\ b2 = true))) /\ (∀ k ∈ varsT p, k = u \/ k = v) /\
  ∀ js : List Str, js.Perm (setAll (varsT p) []) -> sortedS js = true -> filledT (tabG b0 b2 js) one = s1 /\ filledT (tabG b0 b2 js) other = s2
theorem def_207 : DefOk 207 := fun P => ⟨by kernel_rfl, by kernel_rfl⟩
theorem bind_207 (v u : Value) : bindArgs (fnA 207) ⟨[v, u], []⟩ = pure [(Str.ofString "heap", v), (Str.ofString "overlap", u)] := by kernel_rfl
theorem c_put_sides (hK : CK Γ) (hT : T.length <= 28) (hTO : TOk T) {z : Nat} (hz : z <= 200) (A : At σ loc hs) (I : Inv T told (fun _ => False) loc hs) (hp : pot hs <= 70 * hs.nodes.length + z)
  {p one other s1 s2 : Tree} (O : Ov p one other s1 s2) (h1 : s1 ∈ T) (h2 : s2 ∈ T) (hh1 : s1.height <= 2) (hh2 : s2.height <= 2)
  (q : ∀ σ' loc' hs' i j, Went T told (fun _ => False) σ loc hs σ' loc' hs' -> i < hs'.nodes.length -> j < hs'.nodes.length -> tm hs' i = s1 -> tm hs' j = s2 -> pot hs' <= 70 * hs'.nodes.length + z -> (s1 ∈ hs.terms -> s2 ∈ hs.terms -> σ' = σ /\ loc' = loc /\ hs' = hs) -> Q (.tup [natV i, natV j]) σ') :
  ACall Γ (n + 9) (.ref 207) [.ref (loc .H), .tup [.tup [], p.v, one.v, other.v]] σ Q := by
 refine hK.def2 def_207 bind_207 ?_
 ·skip
  obtain ⟨b0, b2, u, v, o1, o2, o3⟩ := O.ex
  refine AExecs.cons (AExec.assign (hK.callG (a := 200) (AArgs.loc rfl (AArgs.nil ?_))))
  refine c_grounded hK O.hp O.h1 O.h2 o1 o2 fun js j1 j2 => ?_
  obtain ⟨e1, e2⟩ := o3 js j1 j2
  rw [e1, e2]
  refine AAssign.tuple rfl rfl (AAssign.loc (AAssign.loc ?_))
  refine AExecs.cons (AExec.ret (AEval.tuple (AArgs.cons (hK.om .H 332 .local A rfl (AArgs.loc rfl (AArgs.nil ?_))))))
  refine c_put hK hT hTO hz (n + 3) s1 (by lia) h1 A I hp fun σ₁ loc₁ hs₁ i W1 hi1 ht1 hp1 hold1 => ?_
  have A1 := W1.mv.to
  have hH : loc₁ .H = loc .H := W1.mv.fx .H rfl
  refine AArgs.cons (AEval.ownN (k := .local) (f := 332) (a := loc .H) (by kernel_rfl) rfl rfl (by rw [<- hH]; exact A1.is .H _ rfl) (A1.is .Hd _ rfl) (hK.meth (by kernel_rfl)) (by kernel_rfl) (AArgs.loc rfl (AArgs.nil ?_)))
  rw [<- hH]
  refine c_put hK hT hTO hz (n + 3) s2 (by lia) h2 A1 W1.inv hp1 fun σ₂ loc₂ hs₂ j W2 hi2 ht2 hp2 hold2 => ?_
  refine AArgs.nil ⟨lim rfl, q _ _ _ i j (W1.trans W2) (Nat.lt_of_lt_of_le hi1 W2.ext.len) hi2 ((W2.ext.tms i hi1).trans ht1) ht2 hp2 fun m1 m2 => ?_⟩
  obtain ⟨rfl, rfl, rfl⟩ := hold1 m1
  exact hold2 m2
theorem def_214 : DefOk 214 := fun P => ⟨by kernel_rfl, by kernel_rfl⟩
theorem bind_214 (v u : Value) : bindArgs (fnA 214) ⟨[v, u], []⟩ = pure [(Str.ofString "heap", v), (Str.ofString "overlap", u)] := by kernel_rfl
theorem c_are_joined (hK : CK Γ) (hT : T.length <= 28) (hTO : TOk T) {z : Nat} (hz : z <= 200) (A : At σ loc hs) (I : Inv T told (fun _ => False) loc hs) (hp : pot hs <= 70 * hs.nodes.length + z)
  {p one other s1 s2 : Tree} (O : Ov p one other s1 s2) (h1 : s1 ∈ T) (h2 : s2 ∈ T) (hh1 : s1.height <= 2) (hh2 : s2.height <= 2)
  (q : ∀ σ' loc' hs' i j, Went T told (fun _ => False) σ loc hs σ' loc' hs' -> i < hs'.nodes.length -> j < hs'.nodes.length -> tm hs' i = s1 -> tm hs' j = s2 -> pot hs' <= 70 * hs'.nodes.length + z -> hs'.waiting = [] -> (s1 ∈ hs.terms -> s2 ∈ hs.terms -> hs.waiting = [] -> σ' = σ /\ loc' = loc /\ hs' = hs) -> Q (.bool (decide (rep hs'.par i = rep hs'.par j))) σ') :
  ACall Γ (n + 10) (.ref 214) [.ref (loc .H), .tup [.tup [], p.v, one.v, other.v]] σ Q := by
 refine hK.def2 def_214 bind_214 ?_
 ·skip
  refine AExecs.cons (AExec.assign (hK.callG (a := 207) (AArgs.loc rfl (AArgs.loc rfl (AArgs.nil ?_)))))
  refine c_put_sides hK hT hTO hz A I hp O h1 h2 hh1 hh2 fun σ₁ loc₁ hs₁ i j W1 hi1 hj1 ti1 tj1 hp1 hold1 => ?_
  have A1 := W1.mv.to
  have I1 := W1.inv
  have hH : loc₁ .H = loc .H := W1.mv.fx .H rfl
  have sz := I1.size
  refine AAssign.tuple rfl rfl (AAssign.loc (AAssign.loc ?_))
  refine AExecs.cons (AExec.expr (AEval.ownN (k := .local) (f := 374) (a := loc .H) (by kernel_rfl) rfl rfl (by rw [<- hH]; exact A1.is .H _ rfl) (A1.is .Hd _ rfl) (hK.meth (by kernel_rfl)) (by kernel_rfl) (AArgs.nil ?_)))
  rw [<- hH]
  refine c_settle hK A1 I1 hT (by lia) fun σ₂ loc₂ hs₂ W2 hn2 ht2 hp2 hw2 hold2 => ?_
  have A2 := W2.mv.to
  have I2 := W2.inv
  have hH2 : loc₂ .H = loc₁ .H := W2.mv.fx .H rfl
  have pn2 := I2.pn
  rw [hn2] at pn2
  have tm2 : ∀ k, tm hs₂ k = tm hs₁ k := fun k => by unfold tm; rw [ht2]
  refine AExecs.cons (AExec.ret (AEval.ownN (k := .local) (f := 353) (a := loc₁ .H) (by kernel_rfl) rfl rfl (by rw [<- hH2]; exact A2.is .H _ rfl) (A2.is .Hd _ rfl) (hK.meth (by kernel_rfl)) (by kernel_rfl) (AArgs.loc rfl (AArgs.loc rfl (AArgs.nil ?_)))))
  rw [<- hH2]
  refine c_are_like hK A2 I2.par (by lia) (by lia) (by lia) (q _ _ _ i j (W1.trans W2) (by rw [hn2]; exact hi1) (by rw [hn2]; exact hj1) (by rw [tm2]; exact ti1) (by rw [tm2]; exact tj1) (by rw [hn2]; lia) hw2 fun m1 m2 m3 => ?_)
  obtain ⟨rfl, rfl, rfl⟩ := hold1 m1 m2
  exact hold2 m3
end
section
section
variable {T : List Tree} {told : List (Tree × Tree)} {X : Nat -> Prop} {loc : Loc} {hs : HS}
theorem Inv.joined (I : Inv T told (fun _ => False) loc hs) (hw : hs.waiting = []) (hT : ∀ t ∈ T, t ∈ hs.terms) (hto : ToldOk told hs) {t u : Tree} (h : Cl told T t u) :
  t = u \/ ∃ i j, i < hs.nodes.length /\ j < hs.nodes.length /\ tm hs i = t /\ tm hs j = u /\ rep hs.par i = rep hs.par j := by
 induction h with
 | refl t => exact .inl rfl
 | symm _ ih =>
  rcases ih with rfl | ⟨i, j, h1, h2, h3, h4, h5⟩
  ·exact .inl rfl
  ·exact .inr ⟨j, i, h2, h1, h4, h3, h5.symm⟩
 | trans _ _ ih1 ih2 =>
  rcases ih1 with rfl | ⟨i, j, h1, h2, h3, h4, h5⟩
  ·exact ih2
  ·rcases ih2 with rfl | ⟨i', j', k1, k2, k3, k4, k5⟩
   ·exact .inr ⟨i, j, h1, h2, h3, h4, h5⟩
   ·have := I.tm_inj h2 k1 (h4.trans k3.symm)
    subst this
    exact .inr ⟨i, j', h1, k2, h3, k4, h5.trans k5⟩
 | told m =>
  obtain ⟨i, j, h1, h2, h3, h4, h5⟩ := hto _ m
  exact .inr ⟨i, j, h1, h2, h3, h4, h5⟩
 | cong m1 m2 hl _ ih =>
  rename_i op ts us _
  right
  obtain ⟨i, hi, ti⟩ := I.tm_mem.mp (hT _ m1)
  obtain ⟨j, hj, tj⟩ := I.tm_mem.mp (hT _ m2)
  refine ⟨i, j, hi, hj, ti, tj, ?_⟩
  have gi := List.getElem?_eq_getElem hi
  have gj := List.getElem?_eq_getElem hj
  obtain ⟨-, ki, ts', e1, k1⟩ := I.node i _ gi
  obtain ⟨-, kj, us', e2, k2⟩ := I.node j _ gj
  rw [ti] at e1
  rw [tj] at e2
  injection e1 with o1 e1
  injection e2 with o2 e2
  subst e1
  subst e2
  have hsig : sigOf hs.par hs.nodes[i] = sigOf hs.par hs.nodes[j] := by
   unfold sigOf
   refine Prod.ext (o1.symm.trans o2) (List.ext_getElem? fun p => ?_)
   rw [List.getElem?_map, List.getElem?_map]
   have l1 := k1.1
   have l2 := k2.1
   by_cases hp : p < ts.length
   ·have g1 : hs.nodes[i].2[p]? = some (hs.nodes[i].2[p]'(by lia)) := List.getElem?_eq_getElem (by lia)
    have g2 : hs.nodes[j].2[p]? = some (hs.nodes[j].2[p]'(by lia)) := List.getElem?_eq_getElem (by lia)
    have f1 := k1.2 p _ g1
    have f2 := k2.2 p _ g2
    have n1 := ki _ (List.mem_of_getElem? g1)
    have n2 := kj _ (List.mem_of_getElem? g2)
    rw [g1, g2]
    show some _ = some _
    congr 1
    rcases ih p _ _ f1 f2 with h | ⟨a, b, ha, hb, hta, htb, hr⟩
    ·rw [I.tm_inj (by lia) (by lia) h]
    ·rw [<- I.tm_inj ha (by lia) hta, <- I.tm_inj hb (by lia) htb]; exact hr
   ·rw [List.getElem?_eq_none (by lia), List.getElem?_eq_none (by lia)]
  rcases I.C i _ gi id with h | ⟨o, h1, h2⟩
  ·rw [hw] at h; cases h
  ·rcases I.C j _ gj id with h | ⟨o', h3, h4⟩
   ·rw [hw] at h; cases h
   ·rw [hsig, h3] at h1
    cases h1
    exact h2.symm.trans h4
theorem Inv.settled (I : Inv T told (fun _ => False) loc hs) (hw : hs.waiting = []) (hT : ∀ t ∈ T, t ∈ hs.terms) (hto : ToldOk told hs) {i j : Nat} (hi : i < hs.nodes.length) (hj : j < hs.nodes.length) :
  rep hs.par i = rep hs.par j ↔ Cl told T (tm hs i) (tm hs j) := by
 refine ⟨I.S i j hi hj, fun h => ?_⟩
 rcases I.joined hw hT hto h with h | ⟨a, b, h1, h2, h3, h4, h5⟩
 ·rw [I.tm_inj hi hj h]
 ·rw [<- I.tm_inj h1 hi h3, <- I.tm_inj h2 hj h4]; exact h5
end
theorem Shp.height {L : List Str} : ∀ {k : Nat} {t : Tree}, Shp L k t -> t.height <= k
 | 0, t, h => by
  obtain ⟨op, _, rfl⟩ := h
  rw [Tree.height, Tree.heights]; exact Nat.le_refl _
 | k + 1, t, h => by
  rcases h with ⟨op, _, rfl⟩ | ⟨a, ha, rfl⟩ | ⟨a, b, ha, hb, rfl⟩
  ·rw [Tree.height, Tree.heights]; lia
  ·have := Shp.height ha
   rw [Tree.height, Tree.heights, Tree.heights]; lia
  ·have := Shp.height ha
   have := Shp.height hb
   rw [Tree.height, Tree.heights, Tree.heights, Tree.heights]; lia
noncomputable def szb : Nat -> Nat
 | 0 => 1
 | k + 1 => 1 + 2 * szb k
theorem Shp.size {L : List Str} : ∀ {k : Nat} {t : Tree}, Shp L k t -> t.size <= szb k
 | 0, t, h => by
  obtain ⟨op, _, rfl⟩ := h
  rw [Tree.size, Tree.sizes]; exact Nat.le_refl _
 | k + 1, t, h => by
  have hz : szb (k + 1) = 1 + 2 * szb k := rfl
  rcases h with ⟨op, _, rfl⟩ | ⟨a, ha, rfl⟩ | ⟨a, b, ha, hb, rfl⟩
  ·rw [Tree.size, Tree.sizes]; lia
  ·have := Shp.size ha
   rw [Tree.size, Tree.sizes, Tree.sizes]; lia
  ·have := Shp.size ha
   have := Shp.size hb
   rw [Tree.size, Tree.sizes, Tree.sizes, Tree.sizes]; lia
noncomputable def okNs (L : List Str) (u : Tree) : Prop := ∃ op ts, u = .node op ts /\ ((op ∈ L /\ ts = []) \/ (op = "f" /\ ts.length = 1) \/ (op = "g" /\ ts.length = 2))
theorem Shp.subs {L : List Str} : ∀ {k : Nat} {t : Tree}, Shp L k t -> ∀ u ∈ subT t, okNs L u
 | 0, t, h, u, hu => by
  obtain ⟨op, ho, rfl⟩ := h
  rw [subT, subK] at hu
  rw [List.mem_singleton.mp hu]
  exact ⟨op, [], rfl, .inl ⟨ho, rfl⟩⟩
 | k + 1, t, h, u, hu => by
  rcases h with ⟨op, ho, rfl⟩ | ⟨a, ha, rfl⟩ | ⟨a, b, ha, hb, rfl⟩
  ·rw [subT, subK] at hu
   rw [List.mem_singleton.mp hu]
   exact ⟨op, [], rfl, .inl ⟨ho, rfl⟩⟩
  ·rw [subT, subK, subK, List.append_nil] at hu
   rcases List.mem_cons.mp hu with rfl | hu
   ·exact ⟨_, _, rfl, .inr (.inl ⟨rfl, rfl⟩)⟩
   ·exact Shp.subs ha u hu
  ·rw [subT, subK, subK, subK, List.append_nil] at hu
   rcases List.mem_cons.mp hu with rfl | hu
   ·exact ⟨_, _, rfl, .inr (.inr ⟨rfl, rfl⟩)⟩
   ·rcases List.mem_append.mp hu with hu | hu
    ·exact Shp.subs ha u hu
    ·exact Shp.subs hb u hu
theorem mem_subT (t : Tree) : t ∈ subT t := by obtain ⟨op, ts⟩ := t; rw [subT]; exact List.mem_cons_self
theorem mem_subK {t : Tree} : ∀ {ts : List Tree}, t ∈ ts -> t ∈ subK ts
 | a :: r, h => by
  rw [subK]
  rcases List.mem_cons.mp h with rfl | h
  ·exact List.mem_append_left _ (mem_subT _)
  ·exact List.mem_append_right _ (mem_subK h)
mutual
theorem subT_kid {op : Str} {ts : List Tree} {k : Tree} (hk : k ∈ ts) : ∀ t : Tree, Tree.node op ts ∈ subT t -> k ∈ subT t
 | .node o us, h => by
  rw [subT] at h ⊢
  rcases List.mem_cons.mp h with h | h
  ·injection h with _ h
   subst h
   exact List.mem_cons_of_mem _ (mem_subK hk)
  ·exact List.mem_cons_of_mem _ (subK_kid hk us h)
theorem subK_kid {op : Str} {ts : List Tree} {k : Tree} (hk : k ∈ ts) : ∀ us : List Tree, Tree.node op ts ∈ subK us -> k ∈ subK us
 | [], h => by rw [subK] at h; cases h
 | a :: r, h => by
  rw [subK] at h ⊢
  rcases List.mem_append.mp h with h | h
  ·exact List.mem_append_left _ (subT_kid hk a h)
  ·exact List.mem_append_right _ (subK_kid hk r h)
end
mutual
theorem parts_sub : ∀ (t : Tree) (p : List Int × Tree), p ∈ partsT t -> p.2 ∈ subT t
 | .node op kids, p, h => by
  rw [partsT] at h
  rw [subT]
  rcases List.mem_cons.mp h with rfl | h
  ·exact List.mem_cons_self
  ·exact List.mem_cons_of_mem _ (parts_subK 0 kids p h)
theorem parts_subK : ∀ (i : Nat) (ts : List Tree) (p : List Int × Tree), p ∈ partsK i ts -> p.2 ∈ subK ts
 | _, [], p, h => by rw [partsK] at h; cases h
 | i, t :: r, p, h => by
  rw [partsK] at h
  rw [subK]
  rcases List.mem_append.mp h with h | h
  ·obtain ⟨q, hq, rfl⟩ := List.mem_map.mp h
   exact List.mem_append_left _ (parts_sub t q hq)
  ·exact List.mem_append_right _ (parts_subK (i + 1) r p h)
end
mutual
theorem good_of_subs : ∀ t : Tree, (∀ u ∈ subT t, ∃ c, u.op.cps[0]? = some c) -> t.good
 | .node op kids, h => by
  rw [subT] at h
  rw [Tree.good]
  exact ⟨h _ List.mem_cons_self, goods_of_subs kids fun u hu => h u (List.mem_cons_of_mem _ hu)⟩
theorem goods_of_subs : ∀ ts : List Tree, (∀ u ∈ subK ts, ∃ c, u.op.cps[0]? = some c) -> Tree.goods ts
 | [], _ => by rw [Tree.goods]; trivial
 | t :: r, h => by
  rw [subK] at h
  rw [Tree.goods]
  exact ⟨good_of_subs t fun u hu => h u (List.mem_append_left _ hu), goods_of_subs r fun u hu => h u (List.mem_append_right _ hu)⟩
end
noncomputable def L5 : List Str := ["a", "leaf0", "leaf2", "?x", "?y"]
noncomputable def L7 : List Str := ["a", "leaf0", "leaf1", "leaf2", "leaf3", "leaf4", "leaf5"]
theorem L5_first : ∀ o ∈ L5, ∃ c, o.cps[0]? = some c := by
 intro o h
 simp only [L5, List.mem_cons, List.not_mem_nil, or_false] at h
 rcases h with rfl | rfl | rfl | rfl | rfl <;> exact ⟨_, rfl⟩
theorem Shp.pat {L : List Str} (hL : ∀ o ∈ L, o ∈ L5) {t : Tree} (h : Shp L 2 t) : Pat t := by
 have hs : ∀ u ∈ subT t, ∃ c, u.op.cps[0]? = some c := fun u hu => by
  obtain ⟨op, ts, rfl, (⟨h1, _⟩ | ⟨rfl, _⟩ | ⟨rfl, _⟩)⟩ := h.subs u hu
  ·exact L5_first op (hL op h1)
  ·exact ⟨102, rfl⟩
  ·exact ⟨103, rfl⟩
 exact ⟨h.height, h.size, good_of_subs t hs, fun p hp => hs _ (parts_sub t p hp)⟩
theorem good_f : opGood "f" := ⟨by decide +kernel, 102, rfl, by decide⟩
theorem good_g : opGood "g" := ⟨by decide +kernel, 103, rfl, by decide⟩
theorem L7_good : ∀ o ∈ L7, opGood o := by
 intro o h
 simp only [L7, List.mem_cons, List.not_mem_nil, or_false] at h
 rcases h with rfl | rfl | rfl | rfl | rfl | rfl | rfl <;> exact ⟨by decide +kernel, _, rfl, by decide⟩
theorem T_ok {roots : List Tree} (hr : ∀ t ∈ roots, Shp L7 2 t) : TOk (gatherK roots []) := by
 intro op ts h
 have h0 : ∀ {u : Tree}, u ∈ gatherK roots [] ↔ ∃ t ∈ roots, u ∈ subT t := fun {u} => by
  rw [gatherK_mem]
  have : ∀ l : List Tree, u ∈ subK l ↔ ∃ t ∈ l, u ∈ subT t := fun l => by
   induction l with
   | nil => rw [subK]; simp
   | cons a l ih => rw [subK, List.mem_append, ih]; simp
  rw [this]; simp
 obtain ⟨t, ht, hu⟩ := h0.mp h
 obtain ⟨op', ts', e, hc⟩ := (hr t ht).subs _ hu
 injection e with e1 e2
 subst e1
 subst e2
 refine ⟨?_, ?_, fun k hk => h0.mpr ⟨t, ht, subT_kid hk t hu⟩⟩
 ·rcases hc with ⟨h1, _⟩ | ⟨rfl, _⟩ | ⟨rfl, _⟩
  ·exact L7_good _ h1
  ·exact good_f
  ·exact good_g
 ·rcases hc with ⟨_, rfl⟩ | ⟨_, h⟩ | ⟨_, h⟩
  ·simp
  ·lia
  ·lia
theorem T_heights {roots : List Tree} (hr : ∀ t ∈ roots, Shp L7 2 t) : ∀ t ∈ gatherK roots [], t.height <= 2 := by
 intro u h
 rw [gatherK_mem] at h
 have : ∀ l : List Tree, u ∈ subK l -> ∃ t ∈ l, u ∈ subT t := fun l => by
  induction l with
  | nil => rw [subK]; simp
  | cons a l ih =>
   rw [subK, List.mem_append]
   rintro (h | h)
   ·exact ⟨a, by simp, h⟩
   ·obtain ⟨t, h1, h2⟩ := ih h; exact ⟨t, List.mem_cons_of_mem _ h1, h2⟩
 obtain ⟨t, ht, hu⟩ := this roots (h.resolve_left (by simp))
 have := subT_height t hu
 have := (hr t ht).height
 lia
theorem T_len {roots : List Tree} (hr : ∀ t ∈ roots, Shp L7 2 t) (hl : roots.length <= 4) : (gatherK roots []).length <= 28 := by
 have h1 := gatherK_len roots []
 have h2 : ∀ l : List Tree, (∀ t ∈ l, Shp L7 2 t) -> Tree.sizes l <= 7 * l.length := fun l => by
  induction l with
  | nil => intro _; rw [Tree.sizes]; lia
  | cons a l ih =>
   intro h
   have := (h a (by simp)).size
   have := ih fun t ht => h t (List.mem_cons_of_mem _ ht)
   rw [Tree.sizes, List.length_cons]
   have : szb 2 = 7 := rfl
   lia
 have := h2 roots hr
 simp only [List.length_nil] at h1
 lia
end
section
noncomputable def VX : Str := "?x"
noncomputable def VY : Str := "?y"
noncomputable def L3 : List Str := ["a", "leaf0", "leaf2"]
theorem canon {js : List Str} (hn : js.Nodup) (hm : ∀ m ∈ js, m = VX \/ m = VY) (hs : sortedS js = true) : js = (if VX ∈ js then [VX] else []) ++ (if VY ∈ js then [VY] else []) := by
 have hl : js.length <= 2 := List.Nodup.length_le_of_subset hn (l₂ := [VX, VY]) fun m h => by rcases hm m h with rfl | rfl <;> simp
 have hxy : VX ≠ VY := by decide
 match js, hl with
 | [], _ => simp
 | [a], _ =>
  rcases hm a (by simp) with rfl | rfl
  ·simp [hxy.symm]
  ·simp [hxy]
 | [a, b], _ =>
  rcases hm a (by simp) with rfl | rfl <;> rcases hm b (by simp) with rfl | rfl
  ·simp at hn
  ·simp
  ·exact absurd hs (by decide +kernel)
  ·simp at hn
theorem names_uniq {js ns l1 l2 : List Str} (h1 : js.Perm (setAll l1 [])) (h2 : sortedS js = true) (h3 : ns.Perm (setAll l2 [])) (h4 : sortedS ns = true) (h5 : ∀ x, x ∈ l1 ↔ x ∈ l2) (h6 : ∀ x ∈ l2, x = VX \/ x = VY) : js = ns := by
 have m1 : ∀ x, x ∈ js ↔ x ∈ l2 := fun x => by rw [h1.mem_iff, setAll_mem, <- h5]; simp
 have m2 : ∀ x, x ∈ ns ↔ x ∈ l2 := fun x => by rw [h3.mem_iff, setAll_mem]; simp
 have n1 : js.Nodup := h1.nodup_iff.mpr (setAll_nodup _ _ List.nodup_nil)
 have n2 : ns.Nodup := h3.nodup_iff.mpr (setAll_nodup _ _ List.nodup_nil)
 rw [canon n1 (fun m h => h6 m ((m1 m).mp h)) h2, canon n2 (fun m h => h6 m ((m2 m).mp h)) h4]
 simp only [m1, m2]
theorem L5_var : ∀ o ∈ L5, isVar o = true -> o = VX \/ o = VY := by
 intro o h hv
 simp only [L5, List.mem_cons, List.not_mem_nil, or_false] at h
 rcases h with rfl | rfl | rfl | rfl | rfl
 ·exact absurd hv (by decide)
 ·exact absurd hv (by decide)
 ·exact absurd hv (by decide)
 ·exact .inl rfl
 ·exact .inr rfl
theorem var_f : isVar "f" = false := by decide
theorem var_g : isVar "g" = false := by decide
theorem Shp.ops {L : List Str} {k : Nat} {t : Tree} (h : Shp L k t) {o : Str} (ho : o ∈ opsT t) : o ∈ L \/ o = "f" \/ o = "g" := by
 rw [<- opsT_parts] at ho
 obtain ⟨p, hp, rfl⟩ := List.mem_map.mp ho
 obtain ⟨op, ts, e, hc⟩ := h.subs _ (parts_sub t p hp)
 rw [e]
 rcases hc with ⟨h1, _⟩ | ⟨h1, _⟩ | ⟨h1, _⟩
 ·exact .inl h1
 ·exact .inr (.inl h1)
 ·exact .inr (.inr h1)
theorem vars_mem {L : List Str} {k : Nat} {t : Tree} (h : Shp L k t) (o : Str) : o ∈ varsT t ↔ o ∈ (opsT t).filter isVar := by
 rw [List.mem_filter]
 unfold varsT
 constructor
 ·intro ho
  obtain ⟨p, hp, rfl⟩ := List.mem_map.mp ho
  obtain ⟨h1, h2⟩ := List.mem_filter.mp hp
  refine ⟨by rw [<- opsT_parts]; exact List.mem_map_of_mem h1, ?_⟩
  obtain ⟨path, op, kids⟩ := p
  simp only [Tree.isVar, Bool.and_eq_true] at h2
  exact h2.2
 ·rintro ⟨h1, h2⟩
  rw [<- opsT_parts] at h1
  obtain ⟨p, hp, rfl⟩ := List.mem_map.mp h1
  refine List.mem_map.mpr ⟨p, List.mem_filter.mpr ⟨hp, ?_⟩, rfl⟩
  obtain ⟨op, ts, e, hc⟩ := h.subs _ (parts_sub t p hp)
  rw [e] at h2 ⊢
  rcases hc with ⟨_, rfl⟩ | ⟨rfl, _⟩ | ⟨rfl, _⟩
  ·show (([] : List Tree).isEmpty && Mine.isVar op) = true
   exact h2
  ·have h3 : isVar "f" = true := h2
   rw [var_f] at h3; cases h3
  ·have h3 : isVar "g" = true := h2
   rw [var_g] at h3; cases h3
theorem filled_laid {L : List Str} {tab : List (Str × Tree)} {tab' : List (Str × Str)} (h1 : ∀ op, tab.lookup op = (tab'.lookup op).map fun l => .node l []) (h2 : ∀ op, isVar op = false -> tab'.lookup op = none) :
  ∀ {k : Nat} {t : Tree}, Shp L k t -> filledT tab t = laidT tab' t := by
 have leaf : ∀ op, filledT tab (.node op []) = laidT tab' (.node op []) := fun op => by
  rw [filledT, laidT, laidK, filledK]
  show (if (true && isVar op) = true then _ else _) = _
  cases hv : isVar op with
  | true =>
   rw [if_pos (by rfl), h1]
   cases tab'.lookup op with
   | none => rfl
   | some l => rfl
  | false => rw [if_neg (by simp), h2 op hv]; rfl
 intro k
 induction k with
 | zero => rintro t ⟨op, _, rfl⟩; exact leaf op
 | succ k ih =>
  rintro t (⟨op, _, rfl⟩ | ⟨a, ha, rfl⟩ | ⟨a, b, ha, hb, rfl⟩)
  ·exact leaf op
  ·rw [filledT, laidT, filledK_map, laidK_map, h2 _ var_f]
   show Tree.node _ [filledT tab a] = Tree.node _ [laidT tab' a]
   rw [ih ha]; rfl
  ·rw [filledT, laidT, filledK_map, laidK_map, h2 _ var_g]
   show Tree.node _ [filledT tab a, filledT tab b] = Tree.node _ [laidT tab' a, laidT tab' b]
   rw [ih ha, ih hb]; rfl
theorem laid_shp {L L' : List Str} {tab' : List (Str × Str)} (h1 : ∀ op ∈ L, (tab'.lookup op).getD op ∈ L') (h2 : ∀ op, isVar op = false -> tab'.lookup op = none) : ∀ {k : Nat} {t : Tree}, Shp L k t -> Shp L' k (laidT tab' t) := by
 intro k
 induction k with
 | zero => rintro t ⟨op, ho, rfl⟩; rw [laidT, laidK]; exact ⟨_, h1 op ho, rfl⟩
 | succ k ih =>
  rintro t (⟨op, ho, rfl⟩ | ⟨a, ha, rfl⟩ | ⟨a, b, ha, hb, rfl⟩)
  ·rw [laidT, laidK]; exact .inl ⟨_, h1 op ho, rfl⟩
  ·rw [laidT, laidK_map, h2 _ var_f]; exact .inr (.inl ⟨_, ih ha, rfl⟩)
  ·rw [laidT, laidK_map, h2 _ var_g]; exact .inr (.inr ⟨_, _, ih ha, ih hb, rfl⟩)
noncomputable def freeK (b0 b2 : Bool) : List Nat := (List.range 6).filter fun k => !((k == 0 && b0) || (k == 2 && b2))
theorem freeK_eq (b0 b2 : Bool) : ∃ r, freeK b0 b2 = fr b0 b2 0 :: fr b0 b2 1 :: r /\ r.length <= 4 := by
 cases b0 <;> cases b2
 ·exact ⟨[2, 3, 4, 5], by decide, by decide⟩
 ·exact ⟨[3, 4, 5], by decide, by decide⟩
 ·exact ⟨[3, 4, 5], by decide, by decide⟩
 ·exact ⟨[4, 5], by decide, by decide⟩
noncomputable def tabL (b0 b2 : Bool) (ns : List Str) : List (Str × Str) := ns.zip ((freeK b0 b2).map leafS)
theorem lookup_map {α β : Type} (f : α -> β) (op : Str) : ∀ l : List (Str × α), (l.map fun p => (p.1, f p.2)).lookup op = (l.lookup op).map f
 | [] => rfl
 | (k, v) :: r => by
  rw [List.map_cons, List.lookup_cons, List.lookup_cons]
  cases op == k with
  | true => rfl
  | false => exact lookup_map f op r
theorem tabs_eq (b0 b2 : Bool) {ns : List Str} (hl : ns.length <= 2) : tabG b0 b2 ns = (tabL b0 b2 ns).map fun p => (p.1, .node p.2 []) := by
 obtain ⟨r, h1, _⟩ := freeK_eq b0 b2
 unfold tabG tabL
 rw [h1]
 match ns, hl with
 | [], _ => rfl
 | [a], _ => rfl
 | [a, b], _ => rfl
theorem leaf_L7 : ∀ k, k < 6 -> leafS k ∈ L7 := by decide +kernel
theorem leaf_not : ∀ k, k < 6 -> k ≠ 0 -> k ≠ 2 -> ∀ o, o ∈ L5 \/ o = "f" \/ o = "g" -> leafS k ≠ o := by
 intro k hk h0 h2 o ho
 have : ∀ k, k < 6 -> k ≠ 0 -> k ≠ 2 -> ∀ o ∈ L5 ++ [Str.ofString "f", Str.ofString "g"], leafS k ≠ o := by decide +kernel
 refine this k hk h0 h2 o ?_
 rcases ho with h | rfl | rfl
 ·exact List.mem_append_left _ h
 ·simp
 ·simp
theorem tabL_some (b0 b2 : Bool) {ns : List Str} (hl : ns.length <= 2) {op : Str} (h : op ∈ ns) : ∃ k, k < 6 /\ (tabL b0 b2 ns).lookup op = some (leafS k) := by
 obtain ⟨r, h1, _⟩ := freeK_eq b0 b2
 have hf := fr_le b0 b2
 unfold tabL
 rw [h1]
 match ns, hl with
 | [], _ => cases h
 | [a], _ =>
  rw [List.mem_singleton.mp h]
  exact ⟨fr b0 b2 0, by lia, by simp [List.lookup_cons]⟩
 | [a, b], _ =>
  by_cases e : op = a
  ·subst e; exact ⟨fr b0 b2 0, by lia, by simp [List.lookup_cons]⟩
  ·have : op = b := by simpa [e] using h
   subst this
   have e' : (op == a) = false := by simpa using e
   refine ⟨fr b0 b2 1, by lia, ?_⟩
   simp [List.lookup_cons, e']
theorem tabL_none (b0 b2 : Bool) {ns : List Str} {op : Str} (h : op ∉ ns) : (tabL b0 b2 ns).lookup op = none := by
 rw [List.lookup_eq_none_iff]
 intro p hp
 unfold tabL at hp
 have := (List.of_mem_zip hp).1
 have e : op ≠ p.1 := fun e => h (e ▸ this)
 simpa using e
theorem ov_of {p one other : Tree} {ns : List Str} (hp : Shp L5 2 p) (hn1 : ns.Perm (setAll ((opsT p).filter isVar) [])) (hn2 : sortedS ns = true) (h1 : Shp (L3 ++ ns) 2 one) (h2 : Shp (L3 ++ ns) 2 other) :
  ∃ b0 b2 : Bool, (∀ k, k < 6 -> (leafS k ∈ opsT p ++ opsT one ++ opsT other ↔ (k = 0 /\ b0 = true) \/ (k = 2 /\ b2 = true))) /\ ns.Nodup /\ ns.length <= 2 /\
   Ov p one other (laidT (tabL b0 b2 ns) one) (laidT (tabL b0 b2 ns) other) /\ Shp L7 2 (laidT (tabL b0 b2 ns) one) /\ Shp L7 2 (laidT (tabL b0 b2 ns) other) := by
 have hvar : ∀ x ∈ (opsT p).filter isVar, x = VX \/ x = VY := fun x hx => by
  obtain ⟨h3, h4⟩ := List.mem_filter.mp hx
  rcases hp.ops h3 with h | rfl | rfl
  ·exact L5_var x h h4
  ·exact absurd h4 (by decide)
  ·exact absurd h4 (by decide)
 have hnm : ∀ x, x ∈ ns ↔ x ∈ (opsT p).filter isVar := fun x => by rw [hn1.mem_iff, setAll_mem]; simp
 have hnn : ns.Nodup := hn1.nodup_iff.mpr (setAll_nodup _ _ List.nodup_nil)
 have hnl : ns.length <= 2 := List.Nodup.length_le_of_subset hnn (l₂ := [VX, VY]) fun m h => by rcases hvar m ((hnm m).mp h) with rfl | rfl <;> simp
 have hL : ∀ o ∈ L3 ++ ns, o ∈ L5 := fun o ho => by
  rcases List.mem_append.mp ho with h | h
  ·simp only [L3, List.mem_cons, List.not_mem_nil, or_false] at h
   rcases h with rfl | rfl | rfl <;> simp [L5]
  ·rcases hvar o ((hnm o).mp h) with rfl | rfl
   ·show VX ∈ L5; simp [L5, VX]
   ·show VY ∈ L5; simp [L5, VY]
 have hops : ∀ o ∈ opsT p ++ opsT one ++ opsT other, o ∈ L5 \/ o = "f" \/ o = "g" := fun o ho => by
  rcases List.mem_append.mp ho with h | h
  ·rcases List.mem_append.mp h with h | h
   ·exact hp.ops h
   ·exact (h1.ops h).imp (hL o) id
  ·exact (h2.ops h).imp (hL o) id
 refine ⟨decide (leafS 0 ∈ opsT p ++ opsT one ++ opsT other), decide (leafS 2 ∈ opsT p ++ opsT one ++ opsT other), ?_⟩
 have hkn : ∀ k, k < 6 -> (leafS k ∈ opsT p ++ opsT one ++ opsT other ↔ (k = 0 /\ decide (leafS 0 ∈ opsT p ++ opsT one ++ opsT other) = true) \/ (k = 2 /\ decide (leafS 2 ∈ opsT p ++ opsT one ++ opsT other) = true)) := fun k hk => by
  rw [decide_eq_true_iff, decide_eq_true_iff]
  constructor
  ·intro h
   by_cases e0 : k = 0
   ·subst e0; exact .inl ⟨rfl, h⟩
   ·by_cases e2 : k = 2
    ·subst e2; exact .inr ⟨rfl, h⟩
    ·exact absurd rfl (leaf_not k hk e0 e2 _ (hops _ h))
  ·rintro (⟨rfl, h⟩ | ⟨rfl, h⟩) <;> exact h
 generalize decide (leafS 0 ∈ opsT p ++ opsT one ++ opsT other) = b0 at *
 generalize decide (leafS 2 ∈ opsT p ++ opsT one ++ opsT other) = b2 at *
 have ht2 : ∀ op, isVar op = false -> (tabL b0 b2 ns).lookup op = none := fun op hv => tabL_none b0 b2 fun h => by
  have := (List.mem_filter.mp ((hnm op).mp h)).2
  rw [hv] at this; cases this
 have hL7 : ∀ op ∈ L3 ++ ns, ((tabL b0 b2 ns).lookup op).getD op ∈ L7 := fun op ho => by
  by_cases hm : op ∈ ns
  ·obtain ⟨k, hk, e⟩ := tabL_some b0 b2 hnl hm
   rw [e]; exact leaf_L7 k hk
  ·rw [tabL_none b0 b2 hm]
   have := (List.mem_append.mp ho).resolve_right hm
   simp only [L3, List.mem_cons, List.not_mem_nil, or_false] at this
   rcases this with rfl | rfl | rfl <;> simp [L7]
 refine ⟨hkn, hnn, hnl, ⟨hp.pat fun o h => h, h1.pat hL, h2.pat hL, b0, b2, VX, VY, hkn, fun k hk => hvar k ((vars_mem hp k).mp hk), fun js j1 j2 => ?_⟩, laid_shp hL7 ht2 h1, laid_shp hL7 ht2 h2⟩
 have := names_uniq j1 j2 hn1 hn2 (vars_mem hp) hvar
 subst this
 have ht1 : ∀ op, (tabG b0 b2 js).lookup op = ((tabL b0 b2 js).lookup op).map fun l => .node l [] := fun op => by
  rw [tabs_eq b0 b2 hnl]; exact lookup_map (fun l => Tree.node l []) op _
 exact ⟨filled_laid ht1 ht2 h1, filled_laid ht1 ht2 h2⟩
end
section
variable {Γ : Cx} {n : Nat} {σ : Store} {Q : V -> Store -> Prop} {sc : Scope} {ρ : Vars} {F : Addr -> Prop} {s : Shared} {T : List Tree} {told : List (Tree × Tree)} {loc : Loc} {hs : HS}
theorem AEval.uptoRef {value : Expr} {b k : Nat} {p1 p pos : Pos} (h : AEval Γ n sc ρ value σ fun v σ₁ => ∃ (a : Addr) (vals : List Value) (is : List Int), v = .ref a /\ Γ.h₀.IsList a vals.toArray /\ IntsAre vals is /\ vals.length <= 1000000 /\ Q (.lst ((is.map .int).take b)) σ₁) :
  AEval Γ n sc ρ (.Subscript value (.Slice none (some (.Constant (.int b) k p1)) none p) pos) σ Q := by
 intro A s F env he hA hR S
 refine Subscript_ (seq_eval (α := Unit) he hA hR S h fun v σ₁ x s₁ r R₁ S₁ T₁ h₁ => ?_)
 obtain ⟨a, vals, is, rfl, hl0, hi, h2, q⟩ := h₁
 obtain rfl := r.ref_inv
 have hl : s₁.heap.IsList a vals.toArray := by
  obtain ⟨o, h3, h4⟩ := hl0
  exact ⟨o, S₁.base _ _ h3, h4⟩
 have rv : VsRel Γ (DD σ₁ F) s₁.heap (is.map .int) vals := of_ints hi
 have hsz : vals.toArray.size = vals.length := by simp
 refine wpAny_Slice (evalPart_none_step ?_)
 refine evalPart_some_step (wpAny_Constant_int ?_)
 refine evalPart_none_step ?_
 have hl' : (s₁.heap.push { cls := .type "slice", data := .fields #[.none, .int b s₁.toks, .none] }).IsList a vals.toArray := hl.push _
 have S₂ : St Γ F σ₁ { s₁ with heap := s₁.heap.push { cls := .type "slice", data := .fields #[.none, .int b s₁.toks, .none] }, toks := s₁.toks + 1 } := (new_obj S₁ _).tok _
 have T₂ : Trans σ₁ s₁ σ₁ { s₁ with heap := s₁.heap.push { cls := .type "slice", data := .fields #[.none, .int b s₁.toks, .none] }, toks := s₁.toks + 1 } := (new_trans _).trans (Trans.tok _)
 refine sub_tail (s := { s₁ with heap := s₁.heap.push { cls := .type "slice", data := .fields #[.none, .int b s₁.toks, .none] }, toks := s₁.toks + 1 }) (ops := [.ref s₁.heap.objs.size, .ref a]) hl'.typeIs list_getitem_lookup
  (wpAny_getItem_list_slice hl' (Heap.IsSliceOf.new ..) .none (.int b _) .none (by simp) ?_ (by rw [hsz]; exact Nat.le_trans h2 (by decide))) rfl
 rw [pick_upto]
 refine ⟨.lst ((is.map .int).take b), σ₁, ?_, new_obj S₂ _, T₁.trans (T₂.trans (new_trans _)), q⟩
 exact frozen_seq S₂ (xs := vals.toArray.toList.take b) (by simpa using (rv.take b).trans T₂) "list" (.inr rfl)
theorem AEval.strs {x : Str} {pos : Pos} {a : Addr} {o : Obj} {arr : Array Value} {m : Nat} {L : List Str} (hk : sc.names.lookup x = some .globalImplicit) (hv : nsIn Γ.K mainGlobals x = some (some (.ref a))) (ho : Γ.K.lookup a = some o) (hc : o.cls = .type "tuple") (hd : o.data = .seq arr m)
  (hs : ∀ D h, VsRel Γ D h (L.map .str) arr.toList) (q : Q (.tup (L.map .str)) σ) (hd' : (x == ("__debug__" : Str)) = false := by decide) : AEval Γ n sc ρ (.Name x pos) σ Q := by
 have h0 : Γ.h₀.get? a = some o := Γ.X _ _ ho
 refine AEval.globv hk hv (fun F s S => .at ?_ (.tup (arr := arr) ⟨o, S.base _ _ h0, hc, m, hd⟩ (hs _ _))) q hd'
 rintro (h | h)
 ·rw [S.new a h] at h0; cases h0
 ·rw [S.low a h] at h0; cases h0
noncomputable def sc468 : Scope := scA 468
noncomputable def body468 (k : Nat) : List Stmt := (boA 468).drop k
theorem Inv.sub_mem {X : Nat -> Prop} (I : Inv T told X loc hs) : (∀ {t : Tree}, t ∈ hs.terms -> ∀ u ∈ subT t, u ∈ hs.terms) := by
 have h : ∀ (n : Nat) (t : Tree), t.height < n -> t ∈ hs.terms -> ∀ u ∈ subT t, u ∈ hs.terms := by
  intro n
  induction n with
  | zero => intro t h; lia
  | succ n ih =>
   rintro ⟨op, ts⟩ hh hm u hu
   rw [subT] at hu
   rcases List.mem_cons.mp hu with rfl | hu
   ·exact hm
   ·have : ∀ l : List Tree, (∀ t ∈ l, t ∈ ts) -> u ∈ subK l -> u ∈ hs.terms := fun l => by
     induction l with
     | nil => intro _ h; rw [subK] at h; cases h
     | cons a l ih2 =>
      intro hl h
      rw [subK] at h
      rcases List.mem_append.mp h with h | h
      ·have ha := hl a List.mem_cons_self
       have := Tree.height_mem ha
       rw [Tree.height] at hh
       exact ih a (by lia) (I.kid_mem hm ha) u h
      ·exact ih2 (fun t ht => hl t (List.mem_cons_of_mem _ ht)) h
    exact this ts (fun _ h => h) hu
 exact fun {t} hm u hu => h _ t (Nat.lt_succ_self _) hm u hu
theorem Ext.mem {X X' : Nat -> Prop} {loc' : Loc} {hs' : HS} (x : Ext hs hs') (I : Inv T told X loc hs) (I' : Inv T told X' loc' hs') {t : Tree} (h : t ∈ hs.terms) : t ∈ hs'.terms := by
 obtain ⟨i, hi, e⟩ := I.tm_mem.mp h
 exact I'.tm_mem.mpr ⟨i, Nat.lt_of_lt_of_le hi x.len, (x.tms i hi).trans e⟩
theorem law_end (hK : CK Γ) (hTO : TOk T) (hTn : T.Nodup) (hT : T.length <= 28) (hTh : ∀ t ∈ T, t.height <= 2) (A : At σ loc hs) (I : Inv T told (fun _ => False) loc hs) (hto : ToldOk told hs) (htT : ∀ p ∈ told, p.1 ∈ T /\ p.2 ∈ T)
  {z : Nat} (hz : z <= 200) (hp : pot hs <= 70 * hs.nodes.length + z) {p one other s1 s2 : Tree} (O : Ov p one other s1 s2) (h1 : s1 ∈ T) (h2 : s2 ∈ T) (hcov : ∀ t ∈ T, t ∈ hs.terms \/ t ∈ subT s1 \/ t ∈ subT s2)
  (g1 : ρ.lookup (Str.ofString "some") = some (.lst (T.map Tree.v))) (g2 : ρ.lookup (Str.ofString "told") = some (.lst (toldV told))) (g3 : ρ.lookup (Str.ofString "pattern") = some p.v) (g4 : ρ.lookup (Str.ofString "one") = some one.v) (g5 : ρ.lookup (Str.ofString "other") = some other.v)
  (g6 : ρ.lookup (Str.ofString "sides") = some (.lst [s1.v, s2.v])) (g7 : ρ.lookup (Str.ofString "heap") = some (.ref (loc .H))) (q : ∀ σ', Q (.bool true) σ') :
  AExecs Γ (n + 12) sc468 ρ (body468 12) σ (RetQ Q) := by
 have hh1 := hTh _ h1
 have hh2 := hTh _ h2
 have key : ∀ t ∈ T, keyOk .T t.v := fun t h => tree_v 7 t (by have := hTh t h; lia)
 refine AExecs.cons (AExec.swap (names := ["home", "overlap"]) (AEval.tuple (AArgs.cons (hK.callG (a := 463) (AArgs.loc g1 (AArgs.loc g2 (AArgs.nil ?_)))))) (by simp only [List.mem_cons, List.not_mem_nil, or_false]; rintro x (rfl | rfl) <;> kernel_rfl) (fun env he => by cases env; simp only at he; subst he; kernel_rfl))
 refine c_closed (n := n + 9) hK (fun op ts h => (hTO op ts h).2) (fun t h => by have := hTh t h; lia) hTn (by lia) htT fun hf hhf => ?_
 refine AArgs.cons (AEval.tuple (AArgs.cons (AEval.tuple (AArgs.nil ⟨lim rfl, AArgs.loc g3 (AArgs.loc g4 (AArgs.loc g5 (AArgs.nil ⟨lim rfl, AArgs.nil ⟨lim rfl, _, rfl, rfl, ?_⟩⟩)))⟩))))
 have f6 : List.lookup (Str.ofString "sides") ([Str.ofString "home", Str.ofString "overlap"].zip [V.dct .T (homeE T hf), V.tup [V.tup [], p.v, one.v, other.v]] ++ ρ) = some (.lst [s1.v, s2.v]) := g6
 have f7 : List.lookup (Str.ofString "heap") ([Str.ofString "home", Str.ofString "overlap"].zip [V.dct .T (homeE T hf), V.tup [V.tup [], p.v, one.v, other.v]] ++ ρ) = some (.ref (loc .H)) := g7
 have f8 : List.lookup (Str.ofString "home") ([Str.ofString "home", Str.ofString "overlap"].zip [V.dct .T (homeE T hf), V.tup [V.tup [], p.v, one.v, other.v]] ++ ρ) = some (.dct .T (homeE T hf)) := rfl
 have f9 : List.lookup (Str.ofString "overlap") ([Str.ofString "home", Str.ofString "overlap"].zip [V.dct .T (homeE T hf), V.tup [V.tup [], p.v, one.v, other.v]] ++ ρ) = some (V.tup [V.tup [], p.v, one.v, other.v]) := rfl
 generalize [Str.ofString "home", Str.ofString "overlap"].zip [V.dct .T (homeE T hf), V.tup [V.tup [], p.v, one.v, other.v]] ++ ρ = ρ1 at f6 f7 f8 f9 ⊢
 -- the sides, as the law's own closing has them
 have alike2 : ∀ {ρ2 : Vars} {σ2 : Store} {Q2 : V -> Store -> Prop} {m : Nat}, ρ2.lookup (Str.ofString "sides") = some (.lst [s1.v, s2.v]) -> ρ2.lookup (Str.ofString "home") = some (.dct .T (homeE T hf)) -> Q2 (.bool (decide (hf s1 = hf s2))) σ2 -> ∀ {p1 p2 p3 p4 p5 p6 p7 p8 p9 p10 p11 : Pos} {k1 k2 : Nat},
   AEval Γ m sc468 ρ2 (.Compare (.Subscript (.Name (Str.ofString "home") p1) (.Subscript (.Name (Str.ofString "sides") p2) (.Constant (.int 0) k1 p3) p4) p5) [.Eq] [.Subscript (.Name (Str.ofString "home") p6) (.Subscript (.Name (Str.ofString "sides") p7) (.Constant (.int 1) k2 p8) p9) p10] p11) σ2 Q2 := by
  intro ρ2 σ2 Q2 m e1 e2 q2 p1 p2 p3 p4 p5 p6 p7 p8 p9 p10 p11 k1 k2
  refine AEval.compare (AEval.sub (AEval.loc e2 (AEval.sub (AEval.loc e1 (AEval.int (AItem.list (k := 0) (v := s1.v) .lst rfl (by simp) (AItem.dict .dct (key s1 h1) (dget_home h1) ?_)))))))
  refine AEval.sub (AEval.loc e2 (AEval.sub (AEval.loc e1 (AEval.int (AItem.list (k := 1) (v := s2.v) .lst rfl (by simp) (AItem.dict .dct (key s2 h2) (dget_home h2) (AOp2.eqI ?_)))))))
  have : decide (((hf s1 : Nat) : Int) = (hf s2 : Nat)) = decide (hf s1 = hf s2) := decide_eq_decide.mpr (by lia)
  rw [this]; exact q2
 refine AExecs.cons (AExec.if (ATest.or2 (ATest.compare (hK.callG (a := 214) (AArgs.cel f7 (AArgs.loc f9 (AArgs.nil ?_)))))))
 refine c_are_joined (n := n + 2) hK hT hTO hz A I hp O h1 h2 hh1 hh2 fun σ1 loc1 hs1 i j W hi hj ti tj hp1 hw1 _ => ?_
 have A1 := W.mv.to
 have I1 := W.inv
 have hH : loc1 .H = loc .H := W.mv.fx .H rfl
 have sz := I1.size
 have m1 : s1 ∈ hs1.terms := I1.tm_mem.mpr ⟨i, hi, ti⟩
 have m2 : s2 ∈ hs1.terms := I1.tm_mem.mpr ⟨j, hj, tj⟩
 have hall : ∀ t ∈ T, t ∈ hs1.terms := fun t ht => by
  rcases hcov t ht with h | h | h
  ·exact W.ext.mem I I1 h
  ·exact I1.sub_mem m1 t h
  ·exact I1.sub_mem m2 t h
 have hto1 : ToldOk told hs1 := hto.ext W.ext
 have hJ : ∀ {i j : Nat}, i < hs1.nodes.length -> j < hs1.nodes.length -> tm hs1 i = s1 -> tm hs1 j = s2 -> decide (rep hs1.par i = rep hs1.par j) = decide (hf s1 = hf s2) := fun hi hj ti tj => decide_eq_decide.mpr (by
  rw [I1.settled hw1 hall hto1 hi hj, ti, tj]; exact (hhf s1 h1 s2 h2).symm)
 rw [hJ hi hj ti tj]
 rw [<- hH] at f7
 refine alike2 f6 f8 ?_
 refine AOp2.isNotB ?_
 rw [show (decide (hf s1 = hf s2) != decide (hf s1 = hf s2)) = false from by simp]
 refine ATest.not (ATest.value (hK.om .H 381 .cell A1 f7 (AArgs.nil (c_is_settled hK A1 hw1 (ATruthy.bool ?_)))))
 refine AExecs.nil ?_
 -- the sizes and the sides' numbers
 refine AExecs.cons (AExec.swap (names := ["many", "numbers"]) (AEval.tuple (AArgs.cons (hK.om .H 317 .cell A1 f7 (AArgs.nil (c_hsize hK A1 (by lia) (AArgs.cons (hK.callG (a := 207) (AArgs.cel f7 (AArgs.loc f9 (AArgs.nil ?_)))))))))) (by simp only [List.mem_cons, List.not_mem_nil, or_false]; rintro x (rfl | rfl) <;> kernel_rfl) (fun env he => by cases env; simp only at he; subst he; kernel_rfl))
 refine c_put_sides (n := n + 3) hK hT hTO hz A1 I1 hp1 O h1 h2 hh1 hh2 fun σ2 loc2 hs2 i2 j2 W2 hi2 hj2 ti2 tj2 hp2 hold2 => ?_
 obtain ⟨rfl, rfl, rfl⟩ := hold2 m1 m2
 refine AArgs.nil ⟨lim rfl, _, rfl, rfl, ?_⟩
 have d6 : List.lookup (Str.ofString "sides") ([Str.ofString "many", Str.ofString "numbers"].zip [natV hs2.nodes.length, V.tup [natV i2, natV j2]] ++ ρ1) = some (.lst [s1.v, s2.v]) := f6
 have d7 : List.lookup (Str.ofString "heap") ([Str.ofString "many", Str.ofString "numbers"].zip [natV hs2.nodes.length, V.tup [natV i2, natV j2]] ++ ρ1) = some (.ref (loc2 .H)) := f7
 have d8 : List.lookup (Str.ofString "home") ([Str.ofString "many", Str.ofString "numbers"].zip [natV hs2.nodes.length, V.tup [natV i2, natV j2]] ++ ρ1) = some (.dct .T (homeE T hf)) := f8
 have d9 : List.lookup (Str.ofString "overlap") ([Str.ofString "many", Str.ofString "numbers"].zip [natV hs2.nodes.length, V.tup [natV i2, natV j2]] ++ ρ1) = some (V.tup [V.tup [], p.v, one.v, other.v]) := f9
 have d10 : List.lookup (Str.ofString "many") ([Str.ofString "many", Str.ofString "numbers"].zip [natV hs2.nodes.length, V.tup [natV i2, natV j2]] ++ ρ1) = some (natV hs2.nodes.length) := rfl
 have d11 : List.lookup (Str.ofString "numbers") ([Str.ofString "many", Str.ofString "numbers"].zip [natV hs2.nodes.length, V.tup [natV i2, natV j2]] ++ ρ1) = some (V.tup [natV i2, natV j2]) := rfl
 generalize [Str.ofString "many", Str.ofString "numbers"].zip [natV hs2.nodes.length, V.tup [natV i2, natV j2]] ++ ρ1 = ρ2 at d6 d7 d8 d9 d10 d11 ⊢
 refine AExecs.cons (AExec.if (ATest.or2 (ATest.compare ?_)))
 refine AEval.listcompG [(Str.ofString "heap", .ref (loc2 .H))] (turn0 _ _ _ _ _) (by kernel_rfl) (free_one (by kernel_rfl) d7) (AIt.val (AEval.loc d11 (WalkQ.mk rfl ?_))) (fun _ _ => rfl)
 rw [show [natV i2, natV j2] = [i2, j2].map natV from rfl]
 refine CompRun.mapE natV (fun k => (tm hs2 k).v) [i2, j2] [] (by simp) (fun k hk acc' K' hz' hK2 => ?_) ?_
 ·refine ALoc.name (by kernel_rfl) ⟨keeps_one rfl, AComp.rest0 ?_⟩
  have hk2 : k < hs2.nodes.length := by
   simp only [List.mem_cons, List.not_mem_nil, or_false] at hk
   rcases hk with rfl | rfl <;> assumption
  refine AEval.ownMeth (f := 162) (a := loc2 .B) (hK.fd .H .B .cell A1 rfl ⟨rfl, rfl⟩) (A1.is .B _ rfl) (A1.is .Bd _ rfl) (hK.meth (by kernel_rfl)) (by kernel_rfl) (AArgs.loc rfl (AArgs.nil ?_))
  exact c_term (n := n + 10) hK A1 I1 hT hk2 ⟨hz', hK2⟩
 rw [show [] ++ [i2, j2].map (fun k => (tm hs2 k).v) = [s1.v, s2.v] from by simp only [List.nil_append, List.map_cons, List.map_nil]; rw [ti2, tj2]]
 refine AEval.loc d6 (AOp2.neL .lst .lst (fun k a b e1 e2 => ?_) fun b hb => ?_)
 ·match k with
  | 0 => cases e1; cases e2; exact cmp_tree 20 _ _ (by lia)
  | 1 => cases e1; cases e2; exact cmp_tree 20 _ _ (by lia)
  | k + 2 => simp at e1
 have hbf : b = false := by
  cases b with
  | false => rfl
  | true => exact absurd rfl (hb.mp rfl)
 subst hbf
 refine ATest.compare (hK.om .H 317 .cell A1 d7 (AArgs.nil (c_hsize hK A1 (by lia) (AEval.loc d10 (AOp2.neI ?_)))))
 rw [decide_eq_true rfl]
 refine AExecs.nil (AExecs.cons (AExec.ret (AEval.and2 (AEval.compare ?_))))
 refine hK.callG (a := 214) (AArgs.cel d7 (AArgs.loc d9 (AArgs.nil ?_)))
 refine c_are_joined (n := n + 2) hK hT hTO hz A1 I1 hp1 O h1 h2 hh1 hh2 fun σ3 loc3 hs3 i3 j3 W3 hi3 hj3 ti3 tj3 hp3 hw3 hold3 => ?_
 obtain ⟨rfl, rfl, rfl⟩ := hold3 m1 m2 hw1
 rw [hJ hi3 hj3 ti3 tj3]
 refine alike2 d6 d8 ?_
 refine AOp2.isB ?_
 rw [show (decide (hf s1 = hf s2) == decide (hf s1 = hf s2)) = true from by simp]
 refine AEval.compare (hK.om .H 317 .cell A1 d7 (AArgs.nil (c_hsize hK A1 (by lia) (AEval.loc d10 (AOp2.eqI ?_)))))
 rw [decide_eq_true rfl]
 exact q _
end
section
variable {Γ : Cx} {n : Nat} {σ : Store} {Q : V -> Store -> Prop} {sc : Scope} {ρ : Vars} {T : List Tree} {told : List (Tree × Tree)} {loc : Loc} {hs : HS}
theorem AEval.negc {i : Int} {k : Nat} {p pos : Pos} (q : Q (.int (-i)) σ) : AEval Γ n sc ρ (.UnaryOp .USub (.Constant (.int i) k p) pos) σ Q :=
 fun A s F env _ _ _ S => UnaryOp_ (wpAny_Constant_int (neg_int (post_here (.int _ _) ((S.tok _).tok _) ((Trans.tok _).trans (Trans.tok _)) q)))
structure LSt (T : List Tree) (cells : List Int) (tp ta : Addr) (h0 : Addr) (told : List (Tree × Tree)) (spot : Nat) (σ : Store) (loc : Loc) (hs : HS) : Prop where
 A : At σ loc hs
 I : Inv T told (fun _ => False) loc hs
 to : ToldOk told hs
 tT : ∀ p ∈ told, p.1 ∈ T /\ p.2 ∈ T
 po : pot hs <= 70 * hs.nodes.length + told.length
 tape : σ tp = some (tapeV cells spot)
 tl : σ ta = some (.lst (toldV told))
 otp : Off loc hs tp
 ota : Off loc hs ta
 H : loc .H = h0
theorem toldV_snoc (told : List (Tree × Tree)) (a b : Tree) : toldV (told ++ [(a, b)]) = toldV told ++ [.tup [a.v, b.v]] := by unfold toldV; rw [List.map_append]; rfl
noncomputable def lapBody : List Stmt := match body468 11 with
 | .For _ _ b _ _ :: _ => b
 | _ => []
theorem Inv.edge {X : Nat -> Prop} (I : Inv T told X loc hs) (e : V) : Inv T told X loc (edgeS hs e) := { I with }
theorem lap_turn (hK : CK Γ) (hTO : TOk T) (hT : T.length <= 28) (hT0 : 0 < T.length) (hTh : ∀ t ∈ T, t.height <= 2) {cells : List Int} (hc : cells.length <= 1000) {tp ta h0 : Addr} {spot lap : Nat} (hta : tp ≠ ta) (L : LSt T cells tp ta h0 told spot σ loc hs) (hs1 : spot <= 1000) (hlap : lap < 10) (htl : told.length < 10)
  {K : Fl -> Vars -> Store -> Prop} (g1 : ρ.lookup (Str.ofString "some") = some (.lst (T.map Tree.v))) (g2 : ρ.lookup (Str.ofString "told") = some (.ref ta)) (g3 : ρ.lookup (Str.ofString "tape") = some (.ref tp)) (g4 : ρ.lookup (Str.ofString "heap") = some (.ref h0)) (g5 : ρ.lookup (Str.ofString "lap") = some (natV lap))
  (hK' : ∀ told' σ' loc' hs' , told'.length = told.length + 1 -> LSt T cells tp ta h0 told' (spot + 3) σ' loc' hs' -> Ext hs hs' -> K .next ρ σ') : AExecs Γ (n + 11) sc468 ρ lapBody σ K := by
 have draw : ∀ {m : Nat} {σ1 : Store} {sp : Nat} {Q1 : V -> Store -> Prop}, σ1 tp = some (tapeV cells sp) -> sp <= 2000 -> (∀ (i : Nat) (t : Tree), T[i]? = some t -> Q1 t.v (put σ1 tp (tapeV cells (sp + 1)))) -> ∀ {p1 p2 p3 p4 p5 p6 p7 p8 : Pos},
   AEval Γ (n + 11) sc468 ρ (.Subscript (.Name (Str.ofString "some") p1) (.Call (.Name (Str.ofString "_law_draw") p2) [.Name (Str.ofString "tape") p3, .Call (.Name (Str.ofString "len") p4) [.Name (Str.ofString "some") p5] [] p6] [] p7) p8) σ1 Q1 := by
  intro m σ1 sp Q1 e1 e2 q1 p1 p2 p3 p4 p5 p6 p7 p8
  refine AEval.sub (AEval.loc g1 (hK.callG (a := 436) (AArgs.cel g3 (AArgs.cons ?_))))
  refine hK.callB (id := "len") (AArgs.loc g1 (AArgs.nil (ACall.lenList .lst (lim_map (by lia)) (AArgs.nil ?_))))
  rw [List.length_map]
  refine c_draw (m := T.length) hK e1 hc (by lia) hT0 fun k hk => ?_
  exact AItem.list (k := k) (v := T[k].v) .lst (by rw [List.getElem?_map, List.getElem?_eq_getElem hk]; rfl) (lim_map (by lia)) (q1 k _ (List.getElem?_eq_getElem hk))
 refine AExecs.cons (AExec.expr (AEval.meth (AEval.loc g2 ?_)))
 refine AMeth.blt (list_type (.ref L.tl)) PySem.F.plainAttrs_list PySem.F.slot_list_append PySem.F.type_list_append ⟨trivial, AArgs.cons (AEval.tuple (AArgs.cons (draw (m := 0) L.tape (by lia) fun i a ha => ?_)))⟩
 refine AArgs.cons (draw (m := 0) (put_self _ _ _) (by lia) fun j b hb => AArgs.nil ⟨lim rfl, AArgs.nil ?_⟩)
 rw [put_put]
 have ha' : a ∈ T := List.mem_of_getElem? ha
 have hb' : b ∈ T := List.mem_of_getElem? hb
 have zt : (toldV told).length = told.length := by unfold toldV; rw [List.length_map]
 refine ACall.append (d := ta) (vs := toldV told) (by rw [put_ne _ _ (fun e => hta e.symm)]; exact L.tl) (by lia) ?_
 rw [<- toldV_snoc]
 have A3 : At (put (put σ tp (tapeV cells (spot + 1 + 1))) ta (.lst (toldV (told ++ [(a, b)])))) loc hs := (L.A.putOff L.otp).putOff L.ota
 have t3 : put (put σ tp (tapeV cells (spot + 1 + 1))) ta (.lst (toldV (told ++ [(a, b)]))) tp = some (tapeV cells (spot + 2)) := by rw [put_ne _ _ hta, put_self]
 have l3 : put (put σ tp (tapeV cells (spot + 1 + 1))) ta (.lst (toldV (told ++ [(a, b)]))) ta = some (.lst (toldV (told ++ [(a, b)]))) := put_self _ _ _
 generalize put (put σ tp (tapeV cells (spot + 1 + 1))) ta (.lst (toldV (told ++ [(a, b)]))) = σ3 at A3 t3 l3 ⊢
 -- behind the merge
 have after : ∀ σ6 loc6 hs6, LSt T cells tp ta h0 (told ++ [(a, b)]) (spot + 2) σ6 loc6 hs6 -> Ext hs hs6 -> AExecs Γ (n + 11) sc468 ρ (lapBody.drop 2) σ6 K := by
  intro σ6 loc6 hs6 L6 E6
  have sz6 := L6.I.size
  refine AExecs.cons (AExec.if (ATest.compare (hK.callG (a := 436) (AArgs.cel g3 (AArgs.cons (AEval.int (AArgs.nil ?_)))))))
  refine c_draw (m := 2) hK L6.tape hc (by lia) (by decide) fun k hk => AEval.int (AOp2.eqI ?_)
  have A7 : At (put σ6 tp (tapeV cells (spot + 2 + 1))) loc6 hs6 := L6.A.putOff L6.otp
  have t7 : put σ6 tp (tapeV cells (spot + 2 + 1)) tp = some (tapeV cells (spot + 3)) := put_self _ _ _
  have l7 : put σ6 tp (tapeV cells (spot + 2 + 1)) ta = some (.lst (toldV (told ++ [(a, b)]))) := by rw [put_ne _ _ (fun e => hta e.symm)]; exact L6.tl
  generalize put σ6 tp (tapeV cells (spot + 2 + 1)) = σ7 at A7 t7 l7 ⊢
  have po6 := L6.po
  have hl : (told ++ [(a, b)]).length = told.length + 1 := by rw [List.length_append]; rfl
  by_cases hk1 : k = 1
  ·rw [decide_eq_true (by lia)]
   have hH6 := L6.H
   refine AExecs.cons (AExec.expr (AEval.ownN (k := .cell) (f := 374) (a := h0) (by kernel_rfl) rfl g4 (by rw [<- hH6]; exact A7.is .H _ rfl) (A7.is .Hd _ rfl) (hK.meth (by kernel_rfl)) (by kernel_rfl) (AArgs.nil ?_)))
   rw [<- hH6]
   refine c_settle (n := n + 6) hK A7 L6.I hT (by lia) fun σ8 loc8 hs8 W hn8 ht8 hp8 hw8 _ => ?_
   obtain ⟨t8, o8⟩ := W.mv.fr tp _ t7 L6.otp
   obtain ⟨l8, oa8⟩ := W.mv.fr ta _ l7 L6.ota
   refine AExecs.nil (AExecs.nil (hK' (told ++ [(a, b)]) σ8 loc8 hs8 hl ⟨W.mv.to, W.inv, L6.to.ext W.ext, L6.tT, by rw [hn8]; lia, t8, l8, o8, oa8, (W.mv.fx .H rfl).trans hH6⟩ (E6.trans W.ext)))
  ·rw [decide_eq_false (by lia)]
   exact AExecs.nil (AExecs.nil (hK' (told ++ [(a, b)]) σ7 loc6 hs6 hl ⟨A7, L6.I, L6.to, L6.tT, po6, t7, l7, L6.otp, L6.ota, L6.H⟩ E6))
 have hH := L.H
 have glast : (toldV (told ++ [(a, b)])).getLast? = some (.tup [a.v, b.v]) := by rw [toldV_snoc, List.getLast?_append]; rfl
 have zt' : (toldV (told ++ [(a, b)])).length = told.length + 1 := by rw [toldV_snoc, List.length_append, zt]; rfl
 refine AExecs.cons (AExec.expr (AEval.ownN (k := .cell) (f := 360) (a := h0) (by kernel_rfl) rfl g4 (by rw [<- hH]; exact A3.is .H _ rfl) (A3.is .Hd _ rfl) (hK.meth (by kernel_rfl)) (by kernel_rfl) (AArgs.cons ?_)))
 refine AEval.ownN (k := .cell) (f := 332) (a := h0) (by kernel_rfl) rfl g4 (by rw [<- hH]; exact A3.is .H _ rfl) (A3.is .Hd _ rfl) (hK.meth (by kernel_rfl)) (by kernel_rfl) (AArgs.cons (AEval.sub (AEval.sub (AEval.loc g2 (AEval.negc (AItem.listLast (.ref l3) glast (by lia) (AEval.int (AItem.tuple (k := 0) (v := a.v) rfl (by simp) (AArgs.nil ?_)))))))))
 rw [<- hH]
 refine c_put hK hT hTO (z := told.length) (by lia) (n + 6) a (by have := hTh a ha'; lia) ha' A3 L.I L.po fun σ4 loc4 hs4 i4 W4 hi4 ti4 hp4 _ => ?_
 have A4 := W4.mv.to
 have hH4 : loc4 .H = h0 := (W4.mv.fx .H rfl).trans hH
 obtain ⟨t4, o4⟩ := W4.mv.fr tp _ t3 L.otp
 obtain ⟨l4, oa4⟩ := W4.mv.fr ta _ l3 L.ota
 rw [hH]
 refine AArgs.cons (AEval.ownN (k := .cell) (f := 332) (a := h0) (by kernel_rfl) rfl g4 (by rw [<- hH4]; exact A4.is .H _ rfl) (A4.is .Hd _ rfl) (hK.meth (by kernel_rfl)) (by kernel_rfl) (AArgs.cons (AEval.sub (AEval.sub (AEval.loc g2 (AEval.negc (AItem.listLast (.ref l4) glast (by lia) (AEval.int (AItem.tuple (k := 1) (v := b.v) rfl (by simp) (AArgs.nil ?_))))))))))
 rw [<- hH4]
 refine c_put hK hT hTO (z := told.length) (by lia) (n + 6) b (by have := hTh b hb'; lia) hb' A4 W4.inv hp4 fun σ5 loc5 hs5 j5 W5 hj5 tj5 hp5 _ => ?_
 have A5 := W5.mv.to
 have I5 := W5.inv
 have hH5 : loc5 .H = h0 := (W5.mv.fx .H rfl).trans hH4
 obtain ⟨t5, o5⟩ := W5.mv.fr tp _ t4 o4
 obtain ⟨l5, oa5⟩ := W5.mv.fr ta _ l4 oa4
 have E5 : Ext hs hs5 := W4.ext.trans W5.ext
 have hi5 : i4 < hs5.nodes.length := Nat.lt_of_lt_of_le hi4 W5.ext.len
 have ti5 : tm hs5 i4 = a := (W5.ext.tms i4 hi4).trans ti4
 have sz5 := I5.size
 have pn5 := I5.pn
 refine AArgs.cons (AEval.tuple (AArgs.cons (AEval.strc (AArgs.cons (AEval.binop (AEval.strc ?_))))))
 refine hK.callT (id := "str") (AArgs.loc g5 (AArgs.nil (ACall.strI (log_small hlap) (AOp2.addS ?_ (AArgs.nil ⟨lim rfl, AArgs.nil ?_⟩)))))
 ·have := leaf_len lap hlap
  have e : (Str.ofString "t").length = 1 := by decide
  lia
 have hR : Cl (told ++ [(a, b)]) T (tm hs5 i4) (tm hs5 j5) := by rw [ti5, tj5]; exact .told (by simp)
 have I5' := I5.more (told' := told ++ [(a, b)]) fun p hp => List.mem_append_left _ hp
 have tT' : ∀ p ∈ told ++ [(a, b)], p.1 ∈ T /\ p.2 ∈ T := fun p hp => by
  rcases List.mem_append.mp hp with h | h
  ·exact L.tT p h
  ·rw [List.mem_singleton.mp h]; exact ⟨ha', hb'⟩
 have mkTo : ∀ {hs6 : HS}, Ext hs5 hs6 -> rep hs6.par i4 = rep hs6.par j5 -> ToldOk (told ++ [(a, b)]) hs6 := fun {hs6} x hr p hp => by
  rcases List.mem_append.mp hp with h | h
  ·exact (L.to.ext (E5.trans x)) p h
  ·rw [List.mem_singleton.mp h]
   exact ⟨i4, j5, Nat.lt_of_lt_of_le hi5 x.len, Nat.lt_of_lt_of_le hj5 x.len, (x.tms _ hi5).trans ti5, (x.tms _ hj5).trans tj5, hr⟩
 rw [show V.ref (loc4 .H) = V.ref (loc5 .H) from by rw [hH4, hH5]]
 refine c_merge (n := n + 10) hK A5 (c_join (n := n + 7) hK A5 (I5.room hT (by lia)) (by lia) (by lia) ?_)
 by_cases e : rep hs5.par i4 = rep hs5.par j5
 ·rw [if_pos e]
  intro σ6 M6
  obtain ⟨t6, o6⟩ := M6.fr tp _ t5 o5
  obtain ⟨l6, oa6⟩ := M6.fr ta _ l5 oa5
  have X6 : ∀ r, Ext hs5 (edgeS hs5 r) := fun r => ⟨Nat.le_refl _, fun _ _ h => h, fun _ _ => rfl, fun _ _ _ _ h => h⟩
  refine after σ6 loc5 _ ⟨M6.to, I5'.edge _, mkTo (X6 _) e, tT', ?_, t6, l6, o6, oa6, hH5⟩ (E5.trans (X6 _))
  have : ∀ r, pot (edgeS hs5 r) = pot hs5 + 1 := fun r => by
   show hs5.knV.length + hs5.waiting.length + (hs5.edges ++ [r]).length + hs5.forest.length + hs5.merged.length + 60 * roots hs5 = _
   rw [List.length_append, List.length_singleton]
   unfold pot; lia
  rw [this, List.length_append, List.length_singleton]
  show _ <= 70 * hs5.nodes.length + _
  lia
 ·rw [if_neg e]
  intro σ6 f x M6
  obtain ⟨t6, o6⟩ := M6.fr tp _ t5 o5
  obtain ⟨l6, oa6⟩ := M6.fr ta _ l5 oa5
  obtain ⟨J1, J2, J3, J4, J5, J6⟩ := I5'.join hi5 hj5 e hR _ f x rfl rfl
  obtain ⟨P1, P2⟩ := joinS_pot I5' hT J4 J5
  refine after σ6 _ _ ⟨M6.to, J1, mkTo J2 J3, tT', ?_, t6, l6, o6, oa6, (M6.fx .H rfl).trans hH5⟩ (E5.trans J2)
  rw [List.length_append, List.length_singleton]
  refine Nat.le_trans P1 ?_
  show _ <= 70 * hs5.nodes.length + _
  lia
end
section
variable {Γ : Cx} {n : Nat} {σ : Store} {Q : V -> Store -> Prop} {sc : Scope} {ρ : Vars} {T : List Tree} {told : List (Tree × Tree)} {loc : Loc} {hs : HS}
theorem Ext.mem2 {T' : List Tree} {told' : List (Tree × Tree)} {X X' : Nat -> Prop} {loc' : Loc} {hs' : HS} (x : Ext hs hs') (I : Inv T told X loc hs) (I' : Inv T' told' X' loc' hs') {t : Tree} (h : t ∈ hs.terms) : t ∈ hs'.terms := by
 obtain ⟨i, hi, e⟩ := I.tm_mem.mp h
 exact I'.tm_mem.mpr ⟨i, Nat.lt_of_lt_of_le hi x.len, (x.tms i hi).trans e⟩
inductive MidA (loc : Loc) (σ : Store) (sa ta tp : Addr) (t1 t2 s1 s2 p one other : Tree) (xs : List V) (ρ : Vars) (σ' : Store) : Prop
 | mk (done : List Tree) (rest : List Tree) (c2 : xs = rest.map Tree.v) (c3 : done ++ rest = [t1, t2, s1, s2]) (c4 : σ' = put σ sa (.lst ((gatherK done []).map Tree.v))) (c5 : (∀ u ∈ gatherK done [], u.height <= 2)) (c6 : (gatherK done []).length <= 7 * done.length) (c7 : ρ.lookup (Str.ofString "others") = some (.lst [t1.v, t2.v])) (c8 : ρ.lookup (Str.ofString "sides") = some (.lst [s1.v, s2.v])) (c9 : ρ.lookup (Str.ofString "heap") = some (.ref (loc .H))) (c10 : ρ.lookup (Str.ofString "some") = some (.ref sa)) (c11 : ρ.lookup (Str.ofString "told") = some (.ref ta)) (c12 : ρ.lookup (Str.ofString "tape") = some (.ref tp)) (c13 : ρ.lookup (Str.ofString "pattern") = some p.v) (c14 : ρ.lookup (Str.ofString "one") = some one.v) (c15 : ρ.lookup (Str.ofString "other") = some other.v) : MidA loc σ sa ta tp t1 t2 s1 s2 p one other xs ρ σ'
inductive MidB (T : List Tree) (loc : Loc) (σa : Store) (hs0 : HS) (ta tp : Addr) (t1 t2 s1 s2 p one other : Tree) (xs : List V) (ρ : Vars) (σ' : Store) : Prop
 | mk (done : List Tree) (rest : List Tree) (loc' : Loc) (hs' : HS) (c4 : xs = rest.map Tree.v) (c5 : done ++ rest = [t1, t2]) (c6 : Went T [] (fun _ => False) σa loc hs0 σ' loc' hs') (c7 : pot hs' <= 70 * hs'.nodes.length + 0) (c8 : (∀ t ∈ done, t ∈ hs'.terms)) (c9 : ρ.lookup (Str.ofString "sides") = some (.lst [s1.v, s2.v])) (c10 : ρ.lookup (Str.ofString "heap") = some (.ref (loc .H))) (c11 : ρ.lookup (Str.ofString "some") = some (.lst (T.map Tree.v))) (c12 : ρ.lookup (Str.ofString "told") = some (.ref ta)) (c13 : ρ.lookup (Str.ofString "tape") = some (.ref tp)) (c14 : ρ.lookup (Str.ofString "pattern") = some p.v) (c15 : ρ.lookup (Str.ofString "one") = some one.v) (c16 : ρ.lookup (Str.ofString "other") = some other.v) : MidB T loc σa hs0 ta tp t1 t2 s1 s2 p one other xs ρ σ'
inductive MidC (T : List Tree) (cells : List Int) (loc : Loc) (ta tp : Addr) (spot : Nat) (t1 t2 s1 s2 p one other : Tree) (xs : List V) (ρ : Vars) (σ' : Store) : Prop
 | mk (rest : List Nat) (told : List (Tree × Tree)) (spot' : Nat) (loc' : Loc) (hs' : HS) (c5 : xs = rest.map natV) (c6 : (∀ k ∈ rest, k < 4)) (c7 : told.length + rest.length <= 4) (c8 : LSt T cells tp ta (loc .H) told spot' σ' loc' hs') (c9 : spot' <= spot + 1 + 3 * told.length) (c10 : (∀ t ∈ [t1, t2], t ∈ hs'.terms)) (c11 : ρ.lookup (Str.ofString "sides") = some (.lst [s1.v, s2.v])) (c12 : ρ.lookup (Str.ofString "heap") = some (.ref (loc .H))) (c13 : ρ.lookup (Str.ofString "some") = some (.lst (T.map Tree.v))) (c14 : ρ.lookup (Str.ofString "told") = some (.ref ta)) (c15 : ρ.lookup (Str.ofString "tape") = some (.ref tp)) (c16 : ρ.lookup (Str.ofString "pattern") = some p.v) (c17 : ρ.lookup (Str.ofString "one") = some one.v) (c18 : ρ.lookup (Str.ofString "other") = some other.v) : MidC T cells loc ta tp spot t1 t2 s1 s2 p one other xs ρ σ'
theorem law_mid (hK : CK Γ) {t1 t2 s1 s2 p one other : Tree} (y1 : Shp L7 2 t1) (y2 : Shp L7 2 t2) (y3 : Shp L7 2 s1) (y4 : Shp L7 2 s2) (O : Ov p one other s1 s2) (A : At σ loc hs0) {sa ta tp : Addr} {cells : List Int} {spot : Nat}
  (hc : cells.length <= 1000) (hspot : spot <= 500) (e1 : σ sa = some (.lst [])) (e2 : σ ta = some (.lst [])) (e3 : σ tp = some (tapeV cells spot)) (hst : sa ≠ ta) (o1 : Off loc hs0 sa) (o2 : Off loc hs0 ta) (o3 : Off loc hs0 tp)
  (g1 : ρ.lookup (Str.ofString "others") = some (.lst [t1.v, t2.v])) (g2 : ρ.lookup (Str.ofString "sides") = some (.lst [s1.v, s2.v])) (g3 : ρ.lookup (Str.ofString "heap") = some (.ref (loc .H))) (g4 : ρ.lookup (Str.ofString "some") = some (.ref sa)) (g5 : ρ.lookup (Str.ofString "told") = some (.ref ta)) (g6 : ρ.lookup (Str.ofString "tape") = some (.ref tp))
  (g7 : ρ.lookup (Str.ofString "pattern") = some p.v) (g8 : ρ.lookup (Str.ofString "one") = some one.v) (g9 : ρ.lookup (Str.ofString "other") = some other.v) (q : ∀ σ', Q (.bool true) σ') :
  AExecs Γ (n + 12) sc468 ρ (body468 9) σ (RetQ Q) := by
 have htp1 : tp ≠ sa := fun e => by subst e; rw [e1] at e3; cases e3
 have htp2 : tp ≠ ta := fun e => by subst e; rw [e2] at e3; cases e3
 have hr : ∀ t ∈ [t1, t2, s1, s2], Shp L7 2 t := fun t ht => by
  simp only [List.mem_cons, List.not_mem_nil, or_false] at ht
  rcases ht with rfl | rfl | rfl | rfl <;> assumption
 have hsz : ∀ t ∈ [t1, t2, s1, s2], t.size <= 7 := fun t ht => (hr t ht).size
 have hht : ∀ t ∈ [t1, t2, s1, s2], t.height <= 2 := fun t ht => (hr t ht).height
 have hTO := T_ok hr
 have hTn : (gatherK [t1, t2, s1, s2] []).Nodup := gatherK_nodup _ _ List.nodup_nil
 have hTh := T_heights hr
 have hT := T_len hr (by simp)
 have hmem : ∀ u, u ∈ gatherK [t1, t2, s1, s2] [] ↔ u ∈ subT t1 \/ u ∈ subT t2 \/ u ∈ subT s1 \/ u ∈ subT s2 := fun u => by
  rw [gatherK_mem]; simp [subK]
 -- the terms are gathered
 refine AExecs.cons (AExec.for (AIt.val (AEval.binop (AEval.loc g1 (AEval.loc g2 (AOp2.addLF .lst .lst (by simp) (WalkQ.mk rfl ?_)))))))
 rw [show [t1.v, t2.v] ++ [s1.v, s2.v] = [t1, t2, s1, s2].map Tree.v from rfl]
 refine ForRun.inv (MidA loc σ sa ta tp t1 t2 s1 s2 p one other) ?_ ?_ _ _ _
  ⟨[], [t1, t2, s1, s2], rfl, rfl, by simp only [gatherK]; exact (put_same e1).symm, by simp [gatherK], by simp [gatherK], g1, g2, g3, g4, g5, g6, g7, g8, g9⟩
 ·rintro x xs ρ σ' K ⟨done, rest, a1, a2, rfl, a3, a4, g1, g2, g3, g4, g5, g6, g7, g8, g9⟩ hK'
  cases rest with
  | nil => cases a1
  | cons t rest =>
   rw [List.map_cons] at a1
   injection a1 with a1 a5
   subst a1
   subst a5
   have ht : t ∈ [t1, t2, s1, s2] := by rw [<- a2]; simp
   have z1 := hsz t ht
   have z2 := hht t ht
   have z3 : done.length <= 4 := by have := congrArg List.length a2; simp at this; lia
   refine AAssign.loc ?_
   have g4' : List.lookup (Str.ofString "some") ((Str.ofString "tree", t.v) :: ρ) = some (V.ref sa) := g4
   refine AExecs.cons (AExec.expr (hK.callG (a := 458) (AArgs.loc rfl (AArgs.loc g4' (AArgs.nil (ACall.le (n := 5) (by lia) ?_))))))
   refine c_gather hK 5 t (by lia) (by lia) (by lia) (fun u hu => by have := a3 u hu; lia) (put_self _ _ _) ?_
   rw [put_put]
   have hgk : gatherK (done ++ [t]) [] = gatherT t (gatherK done []) := by rw [gatherK_append]; simp only [gatherK]
   refine AExecs.nil (hK' _ _ ⟨done ++ [t], rest, rfl, by rw [List.append_assoc]; exact a2, by rw [hgk], ?_, ?_, g1, g2, g3, g4', g5, g6, g7, g8, g9⟩)
   ·rw [hgk]
    intro u hu
    rcases (gatherT_mem t _).mp hu with h | h
    ·exact a3 u h
    ·have := subT_height t h; lia
   ·rw [hgk]
    have := gatherT_len t (gatherK done [])
    rw [List.length_append, List.length_singleton]; lia
 rintro ρ σ' ⟨done, rest, a1, a2, rfl, -, -, g1, g2, g3, g4, g5, g6, g7, g8, g9⟩
 cases rest with
 | cons t rest => cases a1
 | nil =>
 rw [List.append_nil] at a2
 subst a2
 clear a1
 refine AExecs.freeze g4 (put_self _ _ _) ?_
 have hs1T : s1 ∈ gatherK [t1, t2, s1, s2] [] := (hmem s1).mpr (.inr (.inr (.inl (mem_subT s1))))
 have hs2T : s2 ∈ gatherK [t1, t2, s1, s2] [] := (hmem s2).mpr (.inr (.inr (.inr (mem_subT s2))))
 have ht1T : t1 ∈ gatherK [t1, t2, s1, s2] [] := (hmem t1).mpr (.inl (mem_subT t1))
 have ht2T : t2 ∈ gatherK [t1, t2, s1, s2] [] := (hmem t2).mpr (.inr (.inl (mem_subT t2)))
 have Aa : At (del (put σ sa (.lst ((gatherK [t1, t2, s1, s2] []).map Tree.v))) sa) loc hs0 := (A.putOff o1).delOff o1
 have ea : del (put σ sa (.lst ((gatherK [t1, t2, s1, s2] []).map Tree.v))) sa ta = some (.lst []) := by
  show (if ta = sa then none else put σ sa _ ta) = _
  rw [if_neg (fun e => hst e.symm), put_ne _ _ (fun e => hst e.symm)]; exact e2
 have eb : del (put σ sa (.lst ((gatherK [t1, t2, s1, s2] []).map Tree.v))) sa tp = some (tapeV cells spot) := by
  show (if tp = sa then none else put σ sa _ tp) = _
  rw [if_neg htp1, put_ne _ _ htp1]; exact e3
 have hcovT : ∀ t ∈ gatherK [t1, t2, s1, s2] [], t ∈ subT t1 \/ t ∈ subT t2 \/ t ∈ subT s1 \/ t ∈ subT s2 := fun t ht => (hmem t).mp ht
 generalize del (put σ sa (.lst ((gatherK [t1, t2, s1, s2] []).map Tree.v))) sa = σa at Aa ea eb ⊢
 generalize hTdef : gatherK [t1, t2, s1, s2] [] = T at *
 have f1 : List.lookup (Str.ofString "others") ((Str.ofString "some", V.lst (T.map Tree.v)) :: ρ) = some (.lst [t1.v, t2.v]) := g1
 have f2 : List.lookup (Str.ofString "sides") ((Str.ofString "some", V.lst (T.map Tree.v)) :: ρ) = some (.lst [s1.v, s2.v]) := g2
 have f3 : List.lookup (Str.ofString "heap") ((Str.ofString "some", V.lst (T.map Tree.v)) :: ρ) = some (.ref (loc .H)) := g3
 have f4 : List.lookup (Str.ofString "some") ((Str.ofString "some", V.lst (T.map Tree.v)) :: ρ) = some (.lst (T.map Tree.v)) := rfl
 have f5 : List.lookup (Str.ofString "told") ((Str.ofString "some", V.lst (T.map Tree.v)) :: ρ) = some (.ref ta) := g5
 have f6 : List.lookup (Str.ofString "tape") ((Str.ofString "some", V.lst (T.map Tree.v)) :: ρ) = some (.ref tp) := g6
 have f7 : List.lookup (Str.ofString "pattern") ((Str.ofString "some", V.lst (T.map Tree.v)) :: ρ) = some p.v := g7
 have f8 : List.lookup (Str.ofString "one") ((Str.ofString "some", V.lst (T.map Tree.v)) :: ρ) = some one.v := g8
 have f9 : List.lookup (Str.ofString "other") ((Str.ofString "some", V.lst (T.map Tree.v)) :: ρ) = some other.v := g9
 generalize (Str.ofString "some", V.lst (T.map Tree.v)) :: ρ = ρ1 at f1 f2 f3 f4 f5 f6 f7 f8 f9 ⊢
 have I0 := inv0 T loc
 -- the other terms are put
 refine AExecs.cons (AExec.for (AIt.val (AEval.loc f1 (WalkQ.mk rfl ?_))))
 rw [show [t1.v, t2.v] = [t1, t2].map Tree.v from rfl]
 refine ForRun.inv (MidB T loc σa hs0 ta tp t1 t2 s1 s2 p one other) ?_ ?_ _ _ _
  ⟨[], [t1, t2], loc, hs0, rfl, rfl, Went.refl Aa I0, Nat.le_refl _, fun t ht => (nomatch ht), f2, f3, f4, f5, f6, f7, f8, f9⟩
 ·rintro x xs ρ σ' K ⟨done, rest, loc', hs', a1, a2, W, hp, hd, g2, g3, g4, g5, g6, g7, g8, g9⟩ hK'
  cases rest with
  | nil => cases a1
  | cons t rest =>
   rw [List.map_cons] at a1
   injection a1 with a1 a5
   subst a1
   subst a5
   have ht : t ∈ [t1, t2] := by rw [<- a2]; simp
   have htT : t ∈ T := by
    simp only [List.mem_cons, List.not_mem_nil, or_false] at ht
    rcases ht with rfl | rfl <;> assumption
   have z2 := hTh t htT
   have A1 := W.mv.to
   have hH : loc' .H = loc .H := W.mv.fx .H rfl
   refine AAssign.loc ?_
   have g3' : List.lookup (Str.ofString "heap") ((Str.ofString "tree", t.v) :: ρ) = some (V.ref (loc .H)) := g3
   refine AExecs.cons (AExec.expr (AEval.ownN (k := .cell) (f := 332) (a := loc .H) (by kernel_rfl) rfl g3' (by rw [<- hH]; exact A1.is .H _ rfl) (A1.is .Hd _ rfl) (hK.meth (by kernel_rfl)) (by kernel_rfl) (AArgs.loc rfl (AArgs.nil ?_))))
   rw [<- hH]
   refine c_put hK hT hTO (z := 0) (by lia) (n + 7) t (by lia) htT A1 W.inv hp fun σ2 loc2 hs2 i W2 hi2 ti2 hp2 _ => ?_
   refine AExecs.nil (hK' _ _ ⟨done ++ [t], rest, loc2, hs2, rfl, by rw [List.append_assoc]; exact a2, W.trans W2, hp2, fun u hu => ?_, g2, g3, g4, g5, g6, g7, g8, g9⟩)
   rcases List.mem_append.mp hu with h | h
   ·exact W2.ext.mem W.inv W2.inv (hd u h)
   ·rw [List.mem_singleton.mp h]; exact W2.inv.tm_mem.mpr ⟨i, hi2, ti2⟩
 rintro ρ σ' ⟨done, rest, loc', hs', a1, a2, W, hp, hd, g2, g3, g4, g5, g6, g7, g8, g9⟩
 cases rest with
 | cons t rest => cases a1
 | nil =>
 rw [List.append_nil] at a2
 subst a2
 obtain ⟨ec, oc⟩ := W.mv.fr ta _ ea o2
 obtain ⟨ed, od⟩ := W.mv.fr tp _ eb o3
 have hH : loc' .H = loc .H := W.mv.fx .H rfl
 have L0 : LSt T cells tp ta (loc .H) [] spot σ' loc' hs' := ⟨W.mv.to, W.inv, fun p hp => (nomatch hp), fun p hp => (nomatch hp), hp, ed, ec, od, oc, hH⟩
 -- the pairs are told
 refine AExecs.cons (AExec.for (AIt.range1 (by kernel_rfl) (by rw [hK]; kernel_rfl) (hK.callG (a := 436) (AArgs.cel g6 (AArgs.cons (AEval.int (AArgs.nil ?_)))))))
 refine c_draw (m := 4) hK ed hc (by lia) (by decide) fun m hm => ⟨m, rfl, by lia, ?_⟩
 have L1 : LSt T cells tp ta (loc .H) [] (spot + 1) (put σ' tp (tapeV cells (spot + 1))) loc' hs' :=
  ⟨L0.A.putOff L0.otp, L0.I, L0.to, L0.tT, L0.po, put_self _ _ _, by rw [put_ne _ _ (fun e => htp2 e.symm)]; exact L0.tl, L0.otp, L0.ota, L0.H⟩
 refine ForRun.inv (MidC T cells loc ta tp spot t1 t2 s1 s2 p one other) ?_ ?_ _ _ _
  ⟨List.range m, [], spot + 1, loc', hs', rfl, fun k hk => by have := List.mem_range.mp hk; lia, by simp; lia, L1, by simp, hd, g2, g3, g4, g5, g6, g7, g8, g9⟩
 ·rintro x xs ρ σ' K ⟨rest, told, spot', loc', hs', a1, a2, a3, L, a4, a5, g2, g3, g4, g5, g6, g7, g8, g9⟩ hK'
  cases rest with
  | nil => cases a1
  | cons k rest =>
   rw [List.map_cons] at a1
   injection a1 with a1 a6
   subst a1
   subst a6
   rw [List.length_cons] at a3
   have hk := a2 k List.mem_cons_self
   refine AAssign.loc ?_
   refine lap_turn (n := n + 1) (lap := k) hK hTO hT (List.length_pos_of_mem hs1T) hTh hc htp2 L (by lia) (by lia) (by lia) g4 g5 g6 g3 rfl fun told' σ2 loc2 hs2 hl L2 E2 => ?_
   refine hK' _ _ ⟨rest, told', spot' + 3, loc2, hs2, rfl, fun j hj => a2 j (List.mem_cons_of_mem _ hj), by lia, L2, by lia, fun t ht => E2.mem2 L.I L2.I (a5 t ht), g2, g3, g4, g5, g6, g7, g8, g9⟩
 rintro ρ σ' ⟨rest, told, spot', loc', hs', a1, a2, a3, L, a4, a5, g2, g3, g4, g5, g6, g7, g8, g9⟩
 refine AExecs.freeze g5 L.tl ?_
 refine law_end (p := p) (one := one) (other := other) hK hTO hTn hT hTh (L.A.delOff L.ota) L.I L.to L.tT (z := told.length) (by lia) L.po O hs1T hs2T (fun t ht => ?_) g4 rfl g7 g8 g9 g2 (by rw [L.H]; exact g3) q
 rcases hcovT t ht with h | h | h | h
 ·exact .inl (L.I.sub_mem (a5 t1 (by simp)) t h)
 ·exact .inl (L.I.sub_mem (a5 t2 (by simp)) t h)
 ·exact .inr (.inl h)
 ·exact .inr (.inr h)
end
end Mine
namespace Mine
open PySem PySem.W PyProof.Rows PySem.Calls
variable {Γ : Cx} {n : Nat} {σ : Store} {Q : V -> Store -> Prop} {sc : Scope} {ρ : Vars} {T : List Tree} {told : List (Tree × Tree)} {loc : Loc} {hs : HS}
theorem Shp.mono {L L' : List Str} (h : ∀ o ∈ L, o ∈ L') : ∀ {k : Nat} {t : Tree}, Shp L k t -> Shp L' k t
 | 0, t, ⟨op, ho, e⟩ => ⟨op, h op ho, e⟩
 | k + 1, t, .inl ⟨op, ho, e⟩ => .inl ⟨op, h op ho, e⟩
 | k + 1, t, .inr (.inl ⟨a, ha, e⟩) => .inr (.inl ⟨a, Shp.mono h ha, e⟩)
 | k + 1, t, .inr (.inr ⟨a, b, ha, hb, e⟩) => .inr (.inr ⟨a, b, Shp.mono h ha, Shp.mono h hb, e⟩)
theorem two_run {turn : V -> List V -> Store -> (List V -> Store -> Prop) -> Prop} {K : List V -> Store -> Prop} {L : List Str} {tp : Addr} {cells : List Int} {sp : Nat} {x y : V}
  (ht : ∀ x (acc : List V) σ1 sp1 (K : List V -> Store -> Prop), σ1 tp = some (tapeV cells sp1) -> sp1 <= 900 -> acc.length <= 10 -> (∀ t sp2, Shp L 2 t -> sp2 <= sp1 + 10 -> K (acc ++ [t.v]) (put σ1 tp (tapeV cells sp2))) -> turn x acc σ1 K)
  (h : σ tp = some (tapeV cells sp)) (hs : sp <= 500) (q : ∀ a b sp2, Shp L 2 a -> Shp L 2 b -> sp2 <= sp + 20 -> K [a.v, b.v] (put σ tp (tapeV cells sp2))) : CompRun turn [x, y] [] σ K := by
 refine ht x [] σ sp _ h (by lia) (by simp) fun a sp1 ha h1 => ?_
 refine ht y [a.v] _ sp1 _ (put_self _ _ _) (by lia) (by simp) fun b sp2 hb h2 => ?_
 rw [put_put]
 exact q a b sp2 ha hb (by lia)
theorem str_mem {x : Str} {l : List Str} : V.str x ∈ l.map V.str ↔ x ∈ l :=
 ⟨fun h => by obtain ⟨y, h1, h2⟩ := List.mem_map.mp h; injection h2 with h2; rw [<- h2]; exact h1, fun h => List.mem_map_of_mem h⟩
noncomputable def LO : List Str := ["a", "leaf0", "leaf1", "leaf3"]
theorem LO_sub : ∀ o ∈ LO, o ∈ L7 := by
 intro o h
 simp only [LO, List.mem_cons, List.not_mem_nil, or_false] at h
 rcases h with rfl | rfl | rfl | rfl <;> simp [L7]
theorem look429 (P) : (Mine.KT P).lookup 429 = some { cls := .type "tuple", data := .seq #[.str "a" 717, .str "leaf0" 718, .str "leaf2" 719] } := by kernel_rfl
theorem AEval.leaves (hK : CK Γ) {pos : Pos} (hk : sc.names.lookup (Str.ofString "_law_leaves") = some .globalImplicit) (q : Q (.tup (L3.map .str)) σ) : AEval Γ n sc ρ (.Name (Str.ofString "_law_leaves") pos) σ Q := by
 refine AEval.strs (a := 429) hk (by rw [hK]; kernel_rfl) (by rw [hK]; exact look429 _) rfl rfl (fun D h => ?_) q
 exact .cons (.str _ _) (.cons (.str _ _) (.cons (.str _ _) .nil))
theorem dputs_tab {ns fs : List Str} (hn : ns.Nodup) (hl : ns.length <= fs.length) : dputs ((ns.map V.str).zip (fs.map V.str)) [] = tabS (ns.zip fs) := by
 have e : (ns.map V.str).zip (fs.map V.str) = tabS (ns.zip fs) := by
  unfold tabS
  rw [List.zip_map]; rfl
 rw [e, dputs_new _ _ ?_, List.nil_append]
 rw [List.nil_append]
 unfold tabS
 rw [List.map_map]
 have e2 : (ns.zip fs).map ((fun p : V × V => p.1) ∘ fun p : Str × Str => (V.str p.1, V.str p.2)) = ((ns.zip fs).map Prod.fst).map V.str := by rw [List.map_map]; rfl
 rw [e2, List.map_fst_zip hl]
 exact List.Pairwise.map _ (fun a b hab e => hab (by injection e)) hn
theorem def_468 : DefOk 468 := fun P => ⟨by kernel_rfl, by kernel_rfl⟩
theorem bind_468 (v : Value) : bindArgs (fnA 468) ⟨[v], []⟩ = pure [(Str.ofString "script", v)] := by kernel_rfl
theorem c_law (hK : CK Γ) {sp : Addr} {vals : List Value} {is : List Int} (hl : Γ.h₀.IsList sp vals.toArray) (hi : IntsAre vals is) (hz : vals.length <= 1000000) (q : ∀ σ', Q (.bool true) σ') : ACode Γ (n + 13) (.ref 468) [.ref sp] σ Q := by
 refine hK.code1 def_468 bind_468 ?_
 ·skip
  -- the tape
  refine AExecs.cons (AExec.assign (AEval.list (AArgs.cons (hK.callT (id := "list") (AArgs.cons (AEval.uptoRef (AEval.loc rfl ⟨sp, vals, is, rfl, hl, hi, hz, ?_⟩)))))))
  rw [<- List.map_take]
  have hcl : (is.take 50).length <= 50 := by rw [List.length_take]; lia
  generalize is.take 50 = cells at hcl ⊢
  refine AArgs.nil (ACall.listL .lst (by simp; lia) (AArgs.cons (AEval.int (AArgs.nil ⟨lim rfl, fun tp htp => ?_⟩))))
  refine AAssign.cel ?_
  have t0 : put σ tp (.lst [V.lst (cells.map V.int), V.int 0]) tp = some (tapeV cells 0) := put_self _ _ _
  generalize put σ tp (.lst [V.lst (cells.map V.int), V.int 0]) = σ0 at t0 ⊢
  -- the pattern
  refine AExecs.cons (AExec.assign (hK.callG (a := 441) (AArgs.cel rfl (AArgs.cons (AEval.int (AArgs.cons (AEval.binop (AEval.leaves hK (by kernel_rfl) ?_))))))))
  refine AEval.tuple (AArgs.cons (AEval.strc (AArgs.cons (AEval.strc (AArgs.nil ⟨lim rfl, AOp2.addT (by simp [L3]) (AArgs.nil (ACall.le (n := 4) (by lia) ?_))⟩)))))
  refine c_tree (L := L5) hK (by lia) (by decide) (by decide) 2 t0 (by decide) fun p spot1 hp hs1 => ?_
  rw [show 0 + dr 2 = 10 from rfl] at hs1
  have t1 : put σ0 tp (tapeV cells spot1) tp = some (tapeV cells spot1) := put_self _ _ _
  generalize put σ0 tp (tapeV cells spot1) = σ1 at t1 ⊢
  refine AAssign.loc ?_
  have hps := hp.size
  have hph := hp.height
  have hsz2 : szb 2 = 7 := rfl
  have hpv : ∀ x ∈ (opsT p).filter isVar, x = VX \/ x = VY := fun x hx => by
   obtain ⟨h3, h4⟩ := List.mem_filter.mp hx
   rcases hp.ops h3 with h | rfl | rfl
   ·exact L5_var x h h4
   ·rw [var_f] at h4; cases h4
   ·rw [var_g] at h4; cases h4
  have hfirst : ∀ o ∈ opsT p, ∃ c, o.cps[0]? = some c := fun o ho => by
   rcases hp.ops ho with h | rfl | rfl
   ·exact L5_first o h
   ·exact ⟨102, rfl⟩
   ·exact ⟨103, rfl⟩
  -- its names
  refine AExecs.cons (AExec.assign (hK.callB (id := "sorted") (AArgs.cons ?_)))
  refine hK.callT (id := "set") (AArgs.cons ?_)
  refine AEval.listcompG [] (turn1 _ _ _ _ _ _) (by kernel_rfl) free_nil (AIt.val (hK.callG (a := 446) (AArgs.loc rfl (AArgs.nil (c_ops hK _ p (by lia) (by lia) (WalkQ.mk rfl ?_)))))) (fun _ _ => rfl)
  refine CompRun.filterE V.str V.str isVar (opsT p) [] (by rw [opsT_len]; simp; lia) (fun o ho acc' K' hz' hK2 => ?_) ?_
  ·obtain ⟨c, hc⟩ := hfirst o ho
   refine ALoc.name (by kernel_rfl) ⟨keeps_one rfl, AComp.rest1 (ATest.compare (AEval.sub (AEval.loc rfl (AEval.int (AItem.str0 hc (AEval.strc (AOp2.eqS ?_)))))))⟩
   rw [qm_iff hc]
   cases hv : isVar o with
   | true =>
    rw [hv, if_pos rfl] at hK2
    exact AEval.loc rfl ⟨hz', hK2⟩
   | false =>
    rw [hv, if_neg Bool.false_ne_true] at hK2
    exact hK2
  rw [List.nil_append]
  refine AArgs.nil (ACall.setS hpv (AArgs.nil (ACall.sortedSS fun ns hn1 hn2 => ?_)))
  refine AAssign.cel ?_
  have hnm : ∀ x, x ∈ ns ↔ x ∈ (opsT p).filter isVar := fun x => by rw [hn1.mem_iff, setAll_mem]; simp
  have hnl : ns.length <= 2 := List.Nodup.length_le_of_subset (hn1.nodup_iff.mpr (setAll_nodup _ _ List.nodup_nil)) (l₂ := [VX, VY]) fun m h => by rcases hpv m ((hnm m).mp h) with rfl | rfl <;> simp
  -- the two trees
  refine AExecs.cons (AExec.assign (AEval.listcompG [(Str.ofString "names", .lst (ns.map .str)), (Str.ofString "tape", .ref tp)] (turn0 _ _ _ _ _) (by kernel_rfl) (free_cons (by kernel_rfl) rfl (free_cons (by kernel_rfl) rfl free_nil)) (AIt.range1 (by kernel_rfl) (by rw [hK]; kernel_rfl) (AEval.int ⟨2, rfl, by decide, ?_⟩)) (fun _ _ => rfl)))
  refine two_run (x := .int 0) (y := .int 1) (L := L3 ++ ns) (fun x acc σ2 sp1 K e1 e2 e3 hK2 => ?_) t1 (by lia) fun one other spot2 h1 h2 hs2 => ?_
  ·refine ALoc.name (by kernel_rfl) ⟨keeps_one rfl, AComp.rest0 (hK.callG (a := 441) (AArgs.cel rfl (AArgs.cons (AEval.int (AArgs.cons (AEval.binop (AEval.leaves hK (by kernel_rfl) ?_)))))))⟩
   refine hK.callT (id := "tuple") (AArgs.cel rfl (AArgs.nil (ACall.tupleList .lst (by simp; lia) (AOp2.addT (by simp [L3]; lia) ?_))))
   rw [<- List.map_append]
   refine AArgs.nil (ACall.le (n := 4) (by lia) ?_)
   exact c_tree (L := L3 ++ ns) hK (by lia) (by simp [L3]) (by simp [L3]; lia) 2 e1 (by rw [show dr 2 = 10 from rfl]; lia) fun t sp2 ht h3 => ⟨by lia, hK2 t sp2 ht (by rw [show dr 2 = 10 from rfl] at h3; exact h3)⟩
  have t2 : put σ1 tp (tapeV cells spot2) tp = some (tapeV cells spot2) := put_self _ _ _
  generalize put σ1 tp (tapeV cells spot2) = σ2 at t2 ⊢
  refine AAssign.tuple rfl rfl (AAssign.loc (AAssign.loc ?_))
  obtain ⟨b0, b2, hkn, hnn, -, O, y3, y4⟩ := ov_of hp hn1 hn2 h1 h2
  have h1s := h1.size
  have h1h := h1.height
  have h2s := h2.size
  have h2h := h2.height
  -- the ops that are taken
  refine AExecs.cons (AExec.assign (AEval.listcompG [] (turn2 _ _ _ _ _ _ _) (by kernel_rfl) free_nil (AIt.val (AEval.tuple ?_)) (fun _ _ => rfl)) (fun env he => by cases env; simp only at he; subst he; kernel_rfl))
  refine AArgs.loc rfl ?_
  refine AArgs.loc rfl ?_
  refine AArgs.loc rfl ?_
  refine AArgs.nil ⟨lim rfl, _, rfl, ?_⟩
  rw [show [p.v, one.v, other.v] = [p, one, other].map Tree.v from rfl]
  refine CompRun.inv (fun xs acc σ₁ => σ₁ = σ2 /\ ∃ done rest, xs = rest.map Tree.v /\ done ++ rest = [p, one, other] /\ acc = (opsK done).map .str) ?_ ?_ _ _ _ ⟨rfl, [], [p, one, other], rfl, rfl, rfl⟩
  ·rintro x xs acc σ₁ K ⟨rfl, done, rest, e1, e2, rfl⟩ hK'
   cases rest with
   | nil => cases e1
   | cons k rest =>
    rw [List.map_cons] at e1
    injection e1 with e1 e3
    subst e1
    subst e3
    have hk : k.height <= 2 /\ k.size <= 7 := by
     have : k ∈ [p, one, other] := by rw [<- e2]; simp
     rcases List.mem_cons.mp this with rfl | this
     ·exact ⟨hph, by lia⟩
     rcases List.mem_cons.mp this with rfl | this
     ·exact ⟨h1h, by lia⟩
     rw [List.mem_singleton.mp this]; exact ⟨h2h, by lia⟩
    have hds : (opsK done).length <= 21 := by
     have := congrArg (fun l => (opsK l).length) e2
     simp only [opsK_append, List.length_append, opsK, opsT_len, List.length_nil] at this
     lia
    refine ALoc.name (by kernel_rfl) ⟨keeps_one rfl, AComp.rest2 (AIt.val (hK.callG (a := 446) (AArgs.loc rfl (AArgs.nil (c_ops hK _ k (by lia) (by lia) (WalkQ.mk rfl ?_)))))) (fun _ _ => rfl)⟩
    refine CompRun.mapE V.str V.str (opsT k) _ (by rw [opsT_len]; simp; lia) (fun o ho acc' K2 hz' hK2 => ?_) ?_
    ·exact ALoc.name (by kernel_rfl) ⟨keeps_one rfl, AComp.rest0 (AEval.loc rfl ⟨hz', hK2⟩)⟩
    ·exact hK' _ _ ⟨rfl, done ++ [k], rest, rfl, by rw [List.append_assoc]; exact e2, by rw [opsK_append, List.map_append]; simp only [opsK, List.append_nil]⟩
  rintro acc σ₁ ⟨rfl, done, rest, e1, e2, rfl⟩
  cases rest with
  | cons t rest => cases e1
  | nil =>
  rw [List.append_nil] at e2
  subst e2
  clear e1
  have eops : opsK [p, one, other] = opsT p ++ opsT one ++ opsT other := by simp only [opsK, List.append_nil, List.append_assoc]
  rw [eops]
  refine AAssign.cel ?_
  -- the leaves that are free
  refine AExecs.cons (AExec.assign (AEval.listcompG [(Str.ofString "taken", .lst ((opsT p ++ opsT one ++ opsT other).map .str))] (turn1 _ _ _ _ _ _) (by kernel_rfl) (free_one (by kernel_rfl) rfl) ?_ (fun _ _ => rfl)) (fun env he => by cases env; simp only at he; subst he; kernel_rfl))
  refine AIt.range1 (by kernel_rfl) (by rw [hK]; kernel_rfl) (AEval.int ⟨6, rfl, by decide, ?_⟩)
  have leafE : ∀ {sc' : Scope} {ρ' : Vars} {k : Nat} {σ' : Store} {Q' : V -> Store -> Prop} {m : Nat}, (k < 6) -> sc'.names.lookup (Str.ofString "str") = some .globalImplicit -> sc'.names.lookup (Str.ofString "k") = some .local -> ρ'.lookup (Str.ofString "k") = some (natV k) -> Q' (.str (leafS k)) σ' -> ∀ {p1 p2 p3 p4 p5 : Pos} {k1 : Nat},
    AEval Γ m sc' ρ' (.BinOp (.Constant (.str (Str.ofString "leaf")) k1 p1) .Add (.Call (.Name (Str.ofString "str") p2) [.Name (Str.ofString "k") p3] [] p4) p5) σ' Q' := by
   intro sc' ρ' k σ' Q' m hk6 h1 h2 h3 hq p1 p2 p3 p4 p5 k1
   refine AEval.binop (AEval.strc (AEval.call (AEval.typ (id := "str") h1 (hK.ns (by kernel_rfl)) (by kernel_rfl) (by decide) ⟨trivial, AArgs.cons (AEval.name (k := .local) h2 rfl h3 (AArgs.nil (ACall.strI (log_small (by lia)) (AOp2.addS ?_ hq))))⟩)))
   have := leaf_len k (by lia)
   have e : (Str.ofString "leaf").length = 4 := by decide
   lia
  refine CompRun.filterE natV (fun k => .str (leafS k)) (fun k => !((k == 0 && b0) || (k == 2 && b2))) (List.range 6) [] (by simp) (fun k hk acc' K' hz' hK2 => ?_) ?_
  ·have hk6 := List.mem_range.mp hk
   refine ALoc.name (by kernel_rfl) ⟨keeps_one rfl, AComp.rest1 (ATest.compare (leafE hk6 (by kernel_rfl) (by kernel_rfl) rfl ?_))⟩
   refine AEval.cel rfl (AOp2.notInL .lst (fun u hu => ?_) fun b hb => ?_)
   ·obtain ⟨x, _, rfl⟩ := List.mem_map.mp hu
    exact trivial
   rw [str_mem, hkn k hk6] at hb
   have hbP : b = !((k == 0 && b0) || (k == 2 && b2)) := by
    cases hP : ((k == 0 && b0) || (k == 2 && b2)) with
    | true =>
     have h3 : (k = 0 /\ b0 = true) \/ (k = 2 /\ b2 = true) := by simpa using hP
     cases b with
     | true => exact absurd h3 (hb.mp rfl)
     | false => rfl
    | false =>
     have h3 : ¬ ((k = 0 /\ b0 = true) \/ (k = 2 /\ b2 = true)) := fun h => by
      have : ((k == 0 && b0) || (k == 2 && b2)) = true := by simpa using h
      rw [hP] at this; cases this
     rw [hb.mpr h3]; rfl
   rw [<- hbP] at hK2
   cases b with
   | true =>
    rw [if_pos rfl] at hK2
    exact leafE hk6 (by kernel_rfl) (by kernel_rfl) rfl ⟨hz', hK2⟩
   | false =>
    rw [if_neg Bool.false_ne_true] at hK2
    exact hK2
  rw [List.nil_append]
  refine AAssign.cel ?_
  rw [show ((List.range 6).filter fun k => !((k == 0 && b0) || (k == 2 && b2))).map (fun k => V.str (leafS k)) = ((freeK b0 b2).map leafS).map V.str from by rw [List.map_map]; rfl]
  -- the sides
  refine AExecs.cons (exec_listcompG [(Str.ofString "free", .lst (((freeK b0 b2).map leafS).map .str)), (Str.ofString "names", .lst (ns.map .str))] (turn0 _ _ _ _ _) (fun env he => by cases env; simp only at he; subst he; kernel_rfl) (by kernel_rfl) (by kernel_rfl) (free_cons (by kernel_rfl) rfl (free_cons (by kernel_rfl) rfl free_nil)) (AIt.val (AEval.tuple ?_)) (fun _ _ => rfl))
  refine AArgs.loc rfl ?_
  refine AArgs.loc rfl ?_
  refine AArgs.nil ⟨lim rfl, _, rfl, ?_⟩
  have hfl : ns.length <= ((freeK b0 b2).map leafS).length := by
   obtain ⟨r, h3, _⟩ := freeK_eq b0 b2
   rw [List.length_map, h3]; simp only [List.length_cons]; lia
  have hfl2 : ((freeK b0 b2).map leafS).length <= 6 := by
   obtain ⟨r, h3, h4⟩ := freeK_eq b0 b2
   rw [List.length_map, h3]; simp only [List.length_cons]; lia
  have hone : ∀ t ∈ [one, other], t.height <= 2 /\ t.size <= 7 := fun t ht => by
   simp only [List.mem_cons, List.not_mem_nil, or_false] at ht
   rcases ht with rfl | rfl
   ·exact ⟨h1h, by lia⟩
   ·exact ⟨h2h, by lia⟩
  rw [show [one.v, other.v] = [one, other].map Tree.v from rfl]
  refine CompRun.mapE Tree.v (fun t => (laidT (tabL b0 b2 ns) t).v) [one, other] [] (by simp) (fun t ht acc' K' hz' hK2 => ?_) ?_
  ·obtain ⟨z1, z2⟩ := hone t ht
   refine ALoc.name (by kernel_rfl) ⟨keeps_one rfl, AComp.rest0 ?_⟩
   refine hK.callG (a := 451) (AArgs.loc rfl (AArgs.cons ?_))
   refine AEval.dictzip (n := n + 11) (f := .S) ?_
   refine AEval.typ (id := "dict") (by kernel_rfl) (hK.ns (by kernel_rfl)) (by kernel_rfl) (by decide) ⟨rfl, ?_⟩
   refine AEval.typ (id := "zip") (by kernel_rfl) (hK.ns (by kernel_rfl)) (by kernel_rfl) (by decide) ⟨rfl, ?_⟩
   refine AArgs.cel rfl ?_
   refine AArgs.cel rfl ?_
   refine AArgs.nil ⟨_, _, rfl, fun x hx => ?_, by simpa using hfl, by rw [List.length_zip, List.length_map]; lia, ?_⟩
   ·obtain ⟨y, _, h4⟩ := List.mem_map.mp (List.of_mem_zip hx).1
    exact ⟨y, h4.symm⟩
   rw [dputs_tab hnn hfl]
   exact AArgs.nil (c_laid (tab := tabL b0 b2 ns) hK _ t (by lia) (by lia) ⟨hz', hK2⟩)
  rw [show [] ++ [one, other].map (fun t => (laidT (tabL b0 b2 ns) t).v) = [(laidT (tabL b0 b2 ns) one).v, (laidT (tabL b0 b2 ns) other).v] from rfl]
  generalize laidT (tabL b0 b2 ns) one = s1 at O y3 ⊢
  generalize laidT (tabL b0 b2 ns) other = s2 at O y4 ⊢
  -- the heap and the lists
  refine AExecs.cons (AExec.assign (AEval.tuple (AArgs.cons ?_)) (fun env he => by cases env; simp only at he; subst he; kernel_rfl) (fun env he => by cases env; simp only at he; subst he; kernel_rfl))
  refine hK.callG (a := 424) (AArgs.nil ?_)
  refine c_heap_new (n := n + 8) hK fun σ3 loc A3 L3 o3 => ?_
  have t3 := L3 _ _ t2
  have otp := o3 _ _ t2
  refine AArgs.cons (AEval.list (AArgs.nil ⟨lim rfl, fun sa hsa => AArgs.cons (AEval.list (AArgs.nil ⟨lim rfl, fun ta hta => AArgs.nil ⟨lim rfl, ?_⟩⟩))⟩))
  have osa := A3.off_none hsa
  have A4 := A3.putOff (v := .lst []) osa
  have ota := A4.off_none hta
  have A5 := A4.putOff (v := .lst []) ota
  have hst : sa ≠ ta := fun e => by subst e; rw [put_self] at hta; cases hta
  have htps : tp ≠ sa := fun e => by subst e; rw [hsa] at t3; cases t3
  have t4 : put σ3 sa (.lst []) tp = some (tapeV cells spot2) := by rw [put_ne _ _ htps]; exact t3
  have htpt : tp ≠ ta := fun e => by subst e; rw [hta] at t4; cases t4
  have t5 : put (put σ3 sa (.lst [])) ta (.lst []) tp = some (tapeV cells spot2) := by rw [put_ne _ _ htpt]; exact t4
  have u1 : put (put σ3 sa (.lst [])) ta (.lst []) sa = some (.lst []) := by rw [put_ne _ _ hst, put_self]
  have u2 : put (put σ3 sa (.lst [])) ta (.lst []) ta = some (.lst []) := put_self _ _ _
  generalize put (put σ3 sa (.lst [])) ta (.lst []) = σ5 at A5 t5 u1 u2 ⊢
  refine AAssign.tuple rfl rfl (AAssign.cel (AAssign.loc (AAssign.loc ?_)))
  -- the other terms
  refine AExecs.cons (exec_listcompG [(Str.ofString "tape", .ref tp)] (turn0 _ _ _ _ _) (fun env he => by cases env; simp only at he; subst he; kernel_rfl) (by kernel_rfl) (by kernel_rfl) (free_one (by kernel_rfl) rfl) (AIt.range1 (by kernel_rfl) (by rw [hK]; kernel_rfl) (AEval.int ⟨2, rfl, by decide, ?_⟩)) (fun _ _ => rfl))
  refine two_run (x := .int 0) (y := .int 1) (L := LO) (fun x acc σ2 sp1 K e1 e2 e3 hK2 => ?_) t5 (by lia) fun t1 t2 spot3 y1 y2 hs3 => ?_
  ·refine ALoc.name (by kernel_rfl) ⟨keeps_one rfl, AComp.rest0 ?_⟩
   refine hK.callG (a := 441) (AArgs.cel rfl (AArgs.cons (AEval.int (AArgs.cons (AEval.tuple ?_)))))
   refine AArgs.cons (AEval.strc (AArgs.cons (AEval.strc (AArgs.cons (AEval.strc (AArgs.cons (AEval.strc (AArgs.nil ⟨lim rfl, AArgs.nil (ACall.le (n := 4) (by lia) ?_)⟩))))))))
   exact c_tree (L := LO) hK (by lia) (by decide) (by decide) 2 e1 (by rw [show dr 2 = 10 from rfl]; lia) fun t sp2 ht h3 => ⟨by lia, hK2 t sp2 ht (by rw [show dr 2 = 10 from rfl] at h3; exact h3)⟩
  exact law_mid hK (Shp.mono LO_sub y1) (Shp.mono LO_sub y2) y3 y4 O (A5.putOff otp) (by lia) (by lia) (by rw [put_ne _ _ (fun e => htps e.symm)]; exact u1) (by rw [put_ne _ _ (fun e => htpt e.symm)]; exact u2) (put_self _ _ _) hst osa ota otp rfl rfl rfl rfl rfl rfl rfl rfl rfl q
end Mine
open PySem PySem.W PyProof.Rows
namespace Mine
theorem law_code {prog : Program} {w : World} {s₁ : Shared} {p : Program} {loose : List Str} {mean : ExcName -> Option Value} {mg mb : Str -> Option Value} {fa sa : Addr} {vals : List Value} {ns : List Int} (KX : (Mine.KT w.params).In s₁.heap) (T : Top p loose mean mg mb s₁.heap) (hs : s₁.heap.NoSeer)
  (hmg : mg (Str.ofString "law") = some (.ref fa)) (hg : s₁.gens = #[]) (hL : s₁.heap.IsList sa vals.toArray) (hI : IntsAre vals ns) (hlen : ¬ ((63 : Nat) : Int) < (ns.length : Nat)) :
  codeAny (model prog w) callerA (.call (.ref fa) ⟨[.ref sa], []⟩) (fun r s' => r = .ok (.ret (.bool true)) /\ (∀ b o, s₁.heap.get? b = some o -> s'.heap.get? b = some o) /\ s'.os = s₁.os /\ s'.gens = #[]) s₁ := by
 have hsys : (s₁.heap.get? sysModules).isSome = true := by
  obtain ⟨mm, ⟨o, es, ep, ho, _⟩, _⟩ := hs.mods
  rw [ho]; rfl
 let Γ : Cx := { prog := prog, w := w, K := Mine.KT w.params, h₀ := s₁.heap, os₀ := s₁.os, mg := mg, mb := mb, X := KX, g := T.g, b := T.b, bb := T.builtins, lim := T.nolimit, sysm := hsys }
 have hfa : fa = 468 := by
  have h : mg (Str.ofString "law") = some (.ref 468) := mg_of KX T.g (by kernel_rfl)
  rw [hmg] at h
  injection h with h
  injection h
 subst hfa
 have hv : vals.length <= 1000000 := by
  have : vals.length = ns.length := hI.length
  lia
 have S : St Γ (fun _ => False) (fun _ => none) s₁ := ⟨fun _ _ e => e, fun _ _ e => (nomatch e), fun _ e => absurd rfl e, fun _ f => f.elim, fun _ f => f.elim, fun _ f => f.elim, hg, rfl⟩
 have H := c_law (Γ := Γ) (n := 0) (σ := fun _ => none) (Q := fun v _ => v = .bool true) (rfl : CK Γ) hL hI hv (fun _ => rfl) callerA s₁ (fun _ => False) (.ref 468) [.ref sa] ⟨rfl, by decide, by decide⟩ S (.ref 468) (.cons (.ref sa) .nil)
 refine codeAny_mono H fun r s' P => ?_
 rcases r with _ | (_ | _ | _ | val)
 ·exact P.elim
 ·exact P.elim
 ·exact P.elim
 ·exact P.elim
 ·obtain ⟨v, σ', r, S', T', rfl⟩ := P
  obtain rfl := r.bool_inv
  exact ⟨rfl, fun b o e => T'.keep b o e rfl, S'.os, S'.gens⟩
end Mine
end
set_option maxHeartbeats 8000000
open PySem PySem.W PyProof.Rows
theorem Mine.op_ok : opening PySem.Challenge.pw_sa0030_01 = plainProg PySem.Challenge.pw_sa0030_01.main.scope.names := by rfl
theorem Mine.fm_ok : ∀ s, fenceModules? PySem.Challenge.pw_sa0030_01 s = some s := fun _ => rfl
theorem PySem.Challenge.cw_sa0030_01_holds : PySem.Challenge.rw_sa0030_01.Holds := by
 w_on
 refine holds_law Mine.said_ok fun said => ?_
 refine holds_open (q := Mine.view) (loose := []) (Xt := Mine.XtM) (XP := XL Mine.view []) (Yf := Hook.obs Mine.HkM) (Ya := Hook.val Mine.HkM) (YP := Hook.says Mine.HkM) (N := 5924) ?hl (Hook.of Mine.HkM) (Hook.keeps Mine.HkM) (fun s e => xl_of s (Bool.and_eq_true_iff.mp e).1) XL.keeps (by rfl) (by rfl) (by rfl) (fun s e => recFacts_of (Bool.and_eq_true_iff.mp e).2) (by rfl) (by first | assumption | decide +kernel) (by decide +kernel) ⟨rfl, rfl, rfl, rfl, rfl, by decide +kernel⟩ ?hw ?hc
 case hl => exact Mine.leftT Mine.op_ok (by rfl) Mine.fm_ok (by rfl) Mine.whole1 Mine.whole2
 case hw => w_witness2
 case hc =>
  intro w s₀ s₁ mg mb G Y fa o pm cd doc dV kV ho hd hcd hD hmg hg args vals as hpre hlay hrd hwl hlo
  have KX := kIn_of Y
  have T := G.T
  have hmg' : mg (Str.ofString "law") = some (.ref fa) := hmg
  clear ho hd hcd hD hmg
  wrow_args hpre hlay hrd hwl hlo
  refine enter_call ?_
  try refine codeAny_mono ?_ (fun _ _ g => GoodW.toG g)
  refine codeAny_mono (Mine.law_code KX T (T.seer (by decide +kernel)) hmg' hg (by assumption) (by assumption) (by assumption)) fun r s' p => ?_
  obtain ⟨rfl, h1, h2, h3⟩ := p
  exact ⟨.inl ⟨.bool true, .bool true, [], rfl, raisesW_false (by wrow_none_raised), .bool true, by wrow_post, unshared_nil⟩, h1, h2, h3⟩
