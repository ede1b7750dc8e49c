import PyProof.Rows.All
import Wide.All
import OpenK.AllK
import Wide.FinOn
import PySem.Challenge.RW_rg0213_01
open PySem PySem.W PyProof.Rows PySem.Calls PySem.Spec
set_option Elab.async false
set_option maxRecDepth 100000
set_option linter.all false
local macro_rules | `(tactic| walk_at $s:str) => `(tactic| k_extra $s)
local macro_rules | `(tactic| k_ne) => `(tactic| k_extra "k_ne")
local macro_rules | `(tactic| k_all) => `(tactic| k_extra "k_all")
local macro_rules | `(tactic| k_mem) => `(tactic| k_extra "k_mem")
local macro_rules | `(tactic| k_inst) => `(tactic| k_extra "k_inst")
local macro_rules | `(tactic| walk_at "pyIter ref") => `(tactic| k_extra "pit")
local macro_rules | `(tactic| k_enter) => `(tactic| k_extra "k_enter")
/- OB -/
section
namespace Mine
theorem ex1 {α0 : Sort _} {p : α0 → Prop} {b : Prop} (h : ∃ x0, p x0) (k : ∀ x0, p x0 → b) : b := h.elim fun x0 h => k x0 h
theorem ex2 {α0 : Sort _} {α1 : Sort _} {p : α0 → α1 → Prop} {b : Prop} (h : ∃ x0 x1, p x0 x1) (k : ∀ x0 x1, p x0 x1 → b) : b := h.elim fun x0 h => h.elim fun x1 h => k x0 x1 h
theorem ex3 {α0 : Sort _} {α1 : Sort _} {α2 : Sort _} {p : α0 → α1 → α2 → Prop} {b : Prop} (h : ∃ x0 x1 x2, p x0 x1 x2) (k : ∀ x0 x1 x2, p x0 x1 x2 → b) : b := h.elim fun x0 h => h.elim fun x1 h => h.elim fun x2 h => k x0 x1 x2 h
theorem ex4 {α0 : Sort _} {α1 : Sort _} {α2 : Sort _} {α3 : Sort _} {p : α0 → α1 → α2 → α3 → Prop} {b : Prop} (h : ∃ x0 x1 x2 x3, p x0 x1 x2 x3) (k : ∀ x0 x1 x2 x3, p x0 x1 x2 x3 → b) : b := h.elim fun x0 h => h.elim fun x1 h => h.elim fun x2 h => h.elim fun x3 h => k x0 x1 x2 x3 h
theorem ex5 {α0 : Sort _} {α1 : Sort _} {α2 : Sort _} {α3 : Sort _} {α4 : Sort _} {p : α0 → α1 → α2 → α3 → α4 → Prop} {b : Prop} (h : ∃ x0 x1 x2 x3 x4, p x0 x1 x2 x3 x4) (k : ∀ x0 x1 x2 x3 x4, p x0 x1 x2 x3 x4 → b) : b := h.elim fun x0 h => h.elim fun x1 h => h.elim fun x2 h => h.elim fun x3 h => h.elim fun x4 h => k x0 x1 x2 x3 x4 h
theorem ex6 {α0 : Sort _} {α1 : Sort _} {α2 : Sort _} {α3 : Sort _} {α4 : Sort _} {α5 : Sort _} {p : α0 → α1 → α2 → α3 → α4 → α5 → Prop} {b : Prop} (h : ∃ x0 x1 x2 x3 x4 x5, p x0 x1 x2 x3 x4 x5) (k : ∀ x0 x1 x2 x3 x4 x5, p x0 x1 x2 x3 x4 x5 → b) : b := h.elim fun x0 h => h.elim fun x1 h => h.elim fun x2 h => h.elim fun x3 h => h.elim fun x4 h => h.elim fun x5 h => k x0 x1 x2 x3 x4 x5 h
theorem ex7 {α0 : Sort _} {α1 : Sort _} {α2 : Sort _} {α3 : Sort _} {α4 : Sort _} {α5 : Sort _} {α6 : Sort _} {p : α0 → α1 → α2 → α3 → α4 → α5 → α6 → Prop} {b : Prop} (h : ∃ x0 x1 x2 x3 x4 x5 x6, p x0 x1 x2 x3 x4 x5 x6) (k : ∀ x0 x1 x2 x3 x4 x5 x6, p x0 x1 x2 x3 x4 x5 x6 → b) : b := h.elim fun x0 h => h.elim fun x1 h => h.elim fun x2 h => h.elim fun x3 h => h.elim fun x4 h => h.elim fun x5 h => h.elim fun x6 h => k x0 x1 x2 x3 x4 x5 x6 h
theorem ex8 {α0 : Sort _} {α1 : Sort _} {α2 : Sort _} {α3 : Sort _} {α4 : Sort _} {α5 : Sort _} {α6 : Sort _} {α7 : Sort _} {p : α0 → α1 → α2 → α3 → α4 → α5 → α6 → α7 → Prop} {b : Prop} (h : ∃ x0 x1 x2 x3 x4 x5 x6 x7, p x0 x1 x2 x3 x4 x5 x6 x7) (k : ∀ x0 x1 x2 x3 x4 x5 x6 x7, p x0 x1 x2 x3 x4 x5 x6 x7 → b) : b := h.elim fun x0 h => h.elim fun x1 h => h.elim fun x2 h => h.elim fun x3 h => h.elim fun x4 h => h.elim fun x5 h => h.elim fun x6 h => h.elim fun x7 h => k x0 x1 x2 x3 x4 x5 x6 x7 h
theorem ex9 {α0 : Sort _} {α1 : Sort _} {α2 : Sort _} {α3 : Sort _} {α4 : Sort _} {α5 : Sort _} {α6 : Sort _} {α7 : Sort _} {α8 : Sort _} {p : α0 → α1 → α2 → α3 → α4 → α5 → α6 → α7 → α8 → Prop} {b : Prop} (h : ∃ x0 x1 x2 x3 x4 x5 x6 x7 x8, p x0 x1 x2 x3 x4 x5 x6 x7 x8) (k : ∀ x0 x1 x2 x3 x4 x5 x6 x7 x8, p x0 x1 x2 x3 x4 x5 x6 x7 x8 → b) : b := h.elim fun x0 h => h.elim fun x1 h => h.elim fun x2 h => h.elim fun x3 h => h.elim fun x4 h => h.elim fun x5 h => h.elim fun x6 h => h.elim fun x7 h => h.elim fun x8 h => k x0 x1 x2 x3 x4 x5 x6 x7 x8 h
theorem ex10 {α0 : Sort _} {α1 : Sort _} {α2 : Sort _} {α3 : Sort _} {α4 : Sort _} {α5 : Sort _} {α6 : Sort _} {α7 : Sort _} {α8 : Sort _} {α9 : Sort _} {p : α0 → α1 → α2 → α3 → α4 → α5 → α6 → α7 → α8 → α9 → Prop} {b : Prop} (h : ∃ x0 x1 x2 x3 x4 x5 x6 x7 x8 x9, p x0 x1 x2 x3 x4 x5 x6 x7 x8 x9) (k : ∀ x0 x1 x2 x3 x4 x5 x6 x7 x8 x9, p x0 x1 x2 x3 x4 x5 x6 x7 x8 x9 → b) : b := h.elim fun x0 h => h.elim fun x1 h => h.elim fun x2 h => h.elim fun x3 h => h.elim fun x4 h => h.elim fun x5 h => h.elim fun x6 h => h.elim fun x7 h => h.elim fun x8 h => h.elim fun x9 h => k x0 x1 x2 x3 x4 x5 x6 x7 x8 x9 h
theorem an2 {a0 a1 b : Prop} (h : a0 ∧ a1) (k : a0 → a1 → b) : b := k h.1 h.2
theorem an3 {a0 a1 a2 b : Prop} (h : a0 ∧ a1 ∧ a2) (k : a0 → a1 → a2 → b) : b := k h.1 h.2.1 h.2.2
theorem an4 {a0 a1 a2 a3 b : Prop} (h : a0 ∧ a1 ∧ a2 ∧ a3) (k : a0 → a1 → a2 → a3 → b) : b := k h.1 h.2.1 h.2.2.1 h.2.2.2
theorem an5 {a0 a1 a2 a3 a4 b : Prop} (h : a0 ∧ a1 ∧ a2 ∧ a3 ∧ a4) (k : a0 → a1 → a2 → a3 → a4 → b) : b := k h.1 h.2.1 h.2.2.1 h.2.2.2.1 h.2.2.2.2
theorem an6 {a0 a1 a2 a3 a4 a5 b : Prop} (h : a0 ∧ a1 ∧ a2 ∧ a3 ∧ a4 ∧ a5) (k : a0 → a1 → a2 → a3 → a4 → a5 → b) : b := k h.1 h.2.1 h.2.2.1 h.2.2.2.1 h.2.2.2.2.1 h.2.2.2.2.2
theorem an7 {a0 a1 a2 a3 a4 a5 a6 b : Prop} (h : a0 ∧ a1 ∧ a2 ∧ a3 ∧ a4 ∧ a5 ∧ a6) (k : a0 → a1 → a2 → a3 → a4 → a5 → a6 → b) : b := k h.1 h.2.1 h.2.2.1 h.2.2.2.1 h.2.2.2.2.1 h.2.2.2.2.2.1 h.2.2.2.2.2.2
theorem an8 {a0 a1 a2 a3 a4 a5 a6 a7 b : Prop} (h : a0 ∧ a1 ∧ a2 ∧ a3 ∧ a4 ∧ a5 ∧ a6 ∧ a7) (k : a0 → a1 → a2 → a3 → a4 → a5 → a6 → a7 → b) : b := k h.1 h.2.1 h.2.2.1 h.2.2.2.1 h.2.2.2.2.1 h.2.2.2.2.2.1 h.2.2.2.2.2.2.1 h.2.2.2.2.2.2.2
theorem an9 {a0 a1 a2 a3 a4 a5 a6 a7 a8 b : Prop} (h : a0 ∧ a1 ∧ a2 ∧ a3 ∧ a4 ∧ a5 ∧ a6 ∧ a7 ∧ a8) (k : a0 → a1 → a2 → a3 → a4 → a5 → a6 → a7 → a8 → b) : b := k h.1 h.2.1 h.2.2.1 h.2.2.2.1 h.2.2.2.2.1 h.2.2.2.2.2.1 h.2.2.2.2.2.2.1 h.2.2.2.2.2.2.2.1 h.2.2.2.2.2.2.2.2
theorem an10 {a0 a1 a2 a3 a4 a5 a6 a7 a8 a9 b : Prop} (h : a0 ∧ a1 ∧ a2 ∧ a3 ∧ a4 ∧ a5 ∧ a6 ∧ a7 ∧ a8 ∧ a9) (k : a0 → a1 → a2 → a3 → a4 → a5 → a6 → a7 → a8 → a9 → b) : b := k h.1 h.2.1 h.2.2.1 h.2.2.2.1 h.2.2.2.2.1 h.2.2.2.2.2.1 h.2.2.2.2.2.2.1 h.2.2.2.2.2.2.2.1 h.2.2.2.2.2.2.2.2.1 h.2.2.2.2.2.2.2.2.2
theorem an11 {a0 a1 a2 a3 a4 a5 a6 a7 a8 a9 a10 b : Prop} (h : a0 ∧ a1 ∧ a2 ∧ a3 ∧ a4 ∧ a5 ∧ a6 ∧ a7 ∧ a8 ∧ a9 ∧ a10) (k : a0 → a1 → a2 → a3 → a4 → a5 → a6 → a7 → a8 → a9 → a10 → b) : b := k h.1 h.2.1 h.2.2.1 h.2.2.2.1 h.2.2.2.2.1 h.2.2.2.2.2.1 h.2.2.2.2.2.2.1 h.2.2.2.2.2.2.2.1 h.2.2.2.2.2.2.2.2.1 h.2.2.2.2.2.2.2.2.2.1 h.2.2.2.2.2.2.2.2.2.2
theorem an12 {a0 a1 a2 a3 a4 a5 a6 a7 a8 a9 a10 a11 b : Prop} (h : a0 ∧ a1 ∧ a2 ∧ a3 ∧ a4 ∧ a5 ∧ a6 ∧ a7 ∧ a8 ∧ a9 ∧ a10 ∧ a11) (k : a0 → a1 → a2 → a3 → a4 → a5 → a6 → a7 → a8 → a9 → a10 → a11 → b) : b := k h.1 h.2.1 h.2.2.1 h.2.2.2.1 h.2.2.2.2.1 h.2.2.2.2.2.1 h.2.2.2.2.2.2.1 h.2.2.2.2.2.2.2.1 h.2.2.2.2.2.2.2.2.1 h.2.2.2.2.2.2.2.2.2.1 h.2.2.2.2.2.2.2.2.2.2.1 h.2.2.2.2.2.2.2.2.2.2.2
theorem an13 {a0 a1 a2 a3 a4 a5 a6 a7 a8 a9 a10 a11 a12 b : Prop} (h : a0 ∧ a1 ∧ a2 ∧ a3 ∧ a4 ∧ a5 ∧ a6 ∧ a7 ∧ a8 ∧ a9 ∧ a10 ∧ a11 ∧ a12) (k : a0 → a1 → a2 → a3 → a4 → a5 → a6 → a7 → a8 → a9 → a10 → a11 → a12 → b) : b := k h.1 h.2.1 h.2.2.1 h.2.2.2.1 h.2.2.2.2.1 h.2.2.2.2.2.1 h.2.2.2.2.2.2.1 h.2.2.2.2.2.2.2.1 h.2.2.2.2.2.2.2.2.1 h.2.2.2.2.2.2.2.2.2.1 h.2.2.2.2.2.2.2.2.2.2.1 h.2.2.2.2.2.2.2.2.2.2.2.1 h.2.2.2.2.2.2.2.2.2.2.2.2
theorem ie3 {α0 : Sort _} {α1 : Sort _} {α2 : Sort _} {p : α0 → α1 → α2 → Prop} (x0 : α0) (x1 : α1) (x2 : α2) (h : p x0 x1 x2) : ∃ x0 x1 x2, p x0 x1 x2 := ⟨x0, x1, x2, h⟩
theorem ie4 {α0 : Sort _} {α1 : Sort _} {α2 : Sort _} {α3 : Sort _} {p : α0 → α1 → α2 → α3 → Prop} (x0 : α0) (x1 : α1) (x2 : α2) (x3 : α3) (h : p x0 x1 x2 x3) : ∃ x0 x1 x2 x3, p x0 x1 x2 x3 := ⟨x0, x1, x2, x3, h⟩
theorem ie5 {α0 : Sort _} {α1 : Sort _} {α2 : Sort _} {α3 : Sort _} {α4 : Sort _} {p : α0 → α1 → α2 → α3 → α4 → Prop} (x0 : α0) (x1 : α1) (x2 : α2) (x3 : α3) (x4 : α4) (h : p x0 x1 x2 x3 x4) : ∃ x0 x1 x2 x3 x4, p x0 x1 x2 x3 x4 := ⟨x0, x1, x2, x3, x4, h⟩
theorem ie6 {α0 : Sort _} {α1 : Sort _} {α2 : Sort _} {α3 : Sort _} {α4 : Sort _} {α5 : Sort _} {p : α0 → α1 → α2 → α3 → α4 → α5 → Prop} (x0 : α0) (x1 : α1) (x2 : α2) (x3 : α3) (x4 : α4) (x5 : α5) (h : p x0 x1 x2 x3 x4 x5) : ∃ x0 x1 x2 x3 x4 x5, p x0 x1 x2 x3 x4 x5 := ⟨x0, x1, x2, x3, x4, x5, h⟩
theorem ie7 {α0 : Sort _} {α1 : Sort _} {α2 : Sort _} {α3 : Sort _} {α4 : Sort _} {α5 : Sort _} {α6 : Sort _} {p : α0 → α1 → α2 → α3 → α4 → α5 → α6 → Prop} (x0 : α0) (x1 : α1) (x2 : α2) (x3 : α3) (x4 : α4) (x5 : α5) (x6 : α6) (h : p x0 x1 x2 x3 x4 x5 x6) : ∃ x0 x1 x2 x3 x4 x5 x6, p x0 x1 x2 x3 x4 x5 x6 := ⟨x0, x1, x2, x3, x4, x5, x6, h⟩
theorem ie8 {α0 : Sort _} {α1 : Sort _} {α2 : Sort _} {α3 : Sort _} {α4 : Sort _} {α5 : Sort _} {α6 : Sort _} {α7 : Sort _} {p : α0 → α1 → α2 → α3 → α4 → α5 → α6 → α7 → Prop} (x0 : α0) (x1 : α1) (x2 : α2) (x3 : α3) (x4 : α4) (x5 : α5) (x6 : α6) (x7 : α7) (h : p x0 x1 x2 x3 x4 x5 x6 x7) : ∃ x0 x1 x2 x3 x4 x5 x6 x7, p x0 x1 x2 x3 x4 x5 x6 x7 := ⟨x0, x1, x2, x3, x4, x5, x6, x7, h⟩
theorem ie9 {α0 : Sort _} {α1 : Sort _} {α2 : Sort _} {α3 : Sort _} {α4 : Sort _} {α5 : Sort _} {α6 : Sort _} {α7 : Sort _} {α8 : Sort _} {p : α0 → α1 → α2 → α3 → α4 → α5 → α6 → α7 → α8 → Prop} (x0 : α0) (x1 : α1) (x2 : α2) (x3 : α3) (x4 : α4) (x5 : α5) (x6 : α6) (x7 : α7) (x8 : α8) (h : p x0 x1 x2 x3 x4 x5 x6 x7 x8) : ∃ x0 x1 x2 x3 x4 x5 x6 x7 x8, p x0 x1 x2 x3 x4 x5 x6 x7 x8 := ⟨x0, x1, x2, x3, x4, x5, x6, x7, x8, h⟩
theorem ie10 {α0 : Sort _} {α1 : Sort _} {α2 : Sort _} {α3 : Sort _} {α4 : Sort _} {α5 : Sort _} {α6 : Sort _} {α7 : Sort _} {α8 : Sort _} {α9 : Sort _} {p : α0 → α1 → α2 → α3 → α4 → α5 → α6 → α7 → α8 → α9 → Prop} (x0 : α0) (x1 : α1) (x2 : α2) (x3 : α3) (x4 : α4) (x5 : α5) (x6 : α6) (x7 : α7) (x8 : α8) (x9 : α9) (h : p x0 x1 x2 x3 x4 x5 x6 x7 x8 x9) : ∃ x0 x1 x2 x3 x4 x5 x6 x7 x8 x9, p x0 x1 x2 x3 x4 x5 x6 x7 x8 x9 := ⟨x0, x1, x2, x3, x4, x5, x6, x7, x8, x9, h⟩
theorem ie11 {α0 : Sort _} {α1 : Sort _} {α2 : Sort _} {α3 : Sort _} {α4 : Sort _} {α5 : Sort _} {α6 : Sort _} {α7 : Sort _} {α8 : Sort _} {α9 : Sort _} {α10 : Sort _} {p : α0 → α1 → α2 → α3 → α4 → α5 → α6 → α7 → α8 → α9 → α10 → Prop} (x0 : α0) (x1 : α1) (x2 : α2) (x3 : α3) (x4 : α4) (x5 : α5) (x6 : α6) (x7 : α7) (x8 : α8) (x9 : α9) (x10 : α10) (h : p x0 x1 x2 x3 x4 x5 x6 x7 x8 x9 x10) : ∃ x0 x1 x2 x3 x4 x5 x6 x7 x8 x9 x10, p x0 x1 x2 x3 x4 x5 x6 x7 x8 x9 x10 := ⟨x0, x1, x2, x3, x4, x5, x6, x7, x8, x9, x10, h⟩
theorem ie12 {α0 : Sort _} {α1 : Sort _} {α2 : Sort _} {α3 : Sort _} {α4 : Sort _} {α5 : Sort _} {α6 : Sort _} {α7 : Sort _} {α8 : Sort _} {α9 : Sort _} {α10 : Sort _} {α11 : Sort _} {p : α0 → α1 → α2 → α3 → α4 → α5 → α6 → α7 → α8 → α9 → α10 → α11 → Prop} (x0 : α0) (x1 : α1) (x2 : α2) (x3 : α3) (x4 : α4) (x5 : α5) (x6 : α6) (x7 : α7) (x8 : α8) (x9 : α9) (x10 : α10) (x11 : α11) (h : p x0 x1 x2 x3 x4 x5 x6 x7 x8 x9 x10 x11) : ∃ x0 x1 x2 x3 x4 x5 x6 x7 x8 x9 x10 x11, p x0 x1 x2 x3 x4 x5 x6 x7 x8 x9 x10 x11 := ⟨x0, x1, x2, x3, x4, x5, x6, x7, x8, x9, x10, x11, h⟩
end Mine
end
/- HdA -/
section
open PySem PySem.W PyProof.Rows PySem.Calls PySem.Spec
namespace Mine
set_option maxRecDepth 100000
set_option maxHeartbeats 8000000
abbrev pick {α : Type} {y : α} (x : α) (_ : x = y) : α := x
noncomputable def stAt (i : Nat) : Stmt := PySem.Challenge.pw_rg0213_01.main.body.getD i (.Pass default)
noncomputable def stIn (i j : Nat) : Stmt := match stAt i with | .ClassDef _ _ _ b _ _ _ _ _ _ _ => b.getD j (.Pass default) | s => s
noncomputable def argsOf : Stmt → Arguments | .FunctionDef _ a _ _ _ _ _ _ _ _ => a | _ => default
noncomputable def bodyOf : Stmt → List Stmt | .FunctionDef _ _ b _ _ _ _ _ _ _ => b | _ => []
noncomputable def scopeOf : Stmt → Scope | .FunctionDef _ _ _ _ _ _ s _ _ _ => s | _ => default
noncomputable abbrev a37 : Arguments := @pick _ (argsOf (stIn 2 0)) _ (by conv => rhs; whnf)
noncomputable abbrev b37 : List Stmt := @pick _ (bodyOf (stIn 2 0)) _ (by conv => rhs; whnf)
noncomputable abbrev c37 : Scope := @pick _ (scopeOf (stIn 2 0)) _ (by conv => rhs; whnf)
noncomputable abbrev a66 : Arguments := @pick _ (argsOf (stIn 3 0)) _ (by conv => rhs; whnf)
noncomputable abbrev b66 : List Stmt := @pick _ (bodyOf (stIn 3 0)) _ (by conv => rhs; whnf)
noncomputable abbrev c66 : Scope := @pick _ (scopeOf (stIn 3 0)) _ (by conv => rhs; whnf)
noncomputable abbrev a144 : Arguments := @pick _ (argsOf (stAt 12)) _ (by conv => rhs; whnf)
noncomputable abbrev b144 : List Stmt := @pick _ (bodyOf (stAt 12)) _ (by conv => rhs; whnf)
noncomputable abbrev c144 : Scope := @pick _ (scopeOf (stAt 12)) _ (by conv => rhs; whnf)
noncomputable abbrev a151 : Arguments := @pick _ (argsOf (stAt 13)) _ (by conv => rhs; whnf)
noncomputable abbrev b151 : List Stmt := @pick _ (bodyOf (stAt 13)) _ (by conv => rhs; whnf)
noncomputable abbrev c151 : Scope := @pick _ (scopeOf (stAt 13)) _ (by conv => rhs; whnf)
noncomputable abbrev a158 : Arguments := @pick _ (argsOf (stAt 14)) _ (by conv => rhs; whnf)
noncomputable abbrev b158 : List Stmt := @pick _ (bodyOf (stAt 14)) _ (by conv => rhs; whnf)
noncomputable abbrev c158 : Scope := @pick _ (scopeOf (stAt 14)) _ (by conv => rhs; whnf)
noncomputable abbrev a165 : Arguments := @pick _ (argsOf (stAt 15)) _ (by conv => rhs; whnf)
noncomputable abbrev b165 : List Stmt := @pick _ (bodyOf (stAt 15)) _ (by conv => rhs; whnf)
noncomputable abbrev c165 : Scope := @pick _ (scopeOf (stAt 15)) _ (by conv => rhs; whnf)
noncomputable abbrev a172 : Arguments := @pick _ (argsOf (stAt 16)) _ (by conv => rhs; whnf)
noncomputable abbrev b172 : List Stmt := @pick _ (bodyOf (stAt 16)) _ (by conv => rhs; whnf)
noncomputable abbrev c172 : Scope := @pick _ (scopeOf (stAt 16)) _ (by conv => rhs; whnf)
noncomputable abbrev a186 : Arguments := @pick _ (argsOf (stIn 23 0)) _ (by conv => rhs; whnf)
noncomputable abbrev b186 : List Stmt := @pick _ (bodyOf (stIn 23 0)) _ (by conv => rhs; whnf)
noncomputable abbrev c186 : Scope := @pick _ (scopeOf (stIn 23 0)) _ (by conv => rhs; whnf)
noncomputable abbrev a214 : Arguments := @pick _ (argsOf (stIn 23 4)) _ (by conv => rhs; whnf)
noncomputable abbrev b214 : List Stmt := @pick _ (bodyOf (stIn 23 4)) _ (by conv => rhs; whnf)
noncomputable abbrev c214 : Scope := @pick _ (scopeOf (stIn 23 4)) _ (by conv => rhs; whnf)
noncomputable abbrev a228 : Arguments := @pick _ (argsOf (stIn 23 6)) _ (by conv => rhs; whnf)
noncomputable abbrev b228 : List Stmt := @pick _ (bodyOf (stIn 23 6)) _ (by conv => rhs; whnf)
noncomputable abbrev c228 : Scope := @pick _ (scopeOf (stIn 23 6)) _ (by conv => rhs; whnf)
noncomputable abbrev a242 : Arguments := @pick _ (argsOf (stIn 23 8)) _ (by conv => rhs; whnf)
noncomputable abbrev b242 : List Stmt := @pick _ (bodyOf (stIn 23 8)) _ (by conv => rhs; whnf)
noncomputable abbrev c242 : Scope := @pick _ (scopeOf (stIn 23 8)) _ (by conv => rhs; whnf)
noncomputable abbrev a249 : Arguments := @pick _ (argsOf (stIn 23 9)) _ (by conv => rhs; whnf)
noncomputable abbrev b249 : List Stmt := @pick _ (bodyOf (stIn 23 9)) _ (by conv => rhs; whnf)
noncomputable abbrev c249 : Scope := @pick _ (scopeOf (stIn 23 9)) _ (by conv => rhs; whnf)
noncomputable abbrev a277 : Arguments := @pick _ (argsOf (stIn 23 13)) _ (by conv => rhs; whnf)
noncomputable abbrev b277 : List Stmt := @pick _ (bodyOf (stIn 23 13)) _ (by conv => rhs; whnf)
noncomputable abbrev c277 : Scope := @pick _ (scopeOf (stIn 23 13)) _ (by conv => rhs; whnf)
noncomputable abbrev a284 : Arguments := @pick _ (argsOf (stIn 23 14)) _ (by conv => rhs; whnf)
noncomputable abbrev b284 : List Stmt := @pick _ (bodyOf (stIn 23 14)) _ (by conv => rhs; whnf)
noncomputable abbrev c284 : Scope := @pick _ (scopeOf (stIn 23 14)) _ (by conv => rhs; whnf)
noncomputable abbrev a291 : Arguments := @pick _ (argsOf (stIn 23 15)) _ (by conv => rhs; whnf)
noncomputable abbrev b291 : List Stmt := @pick _ (bodyOf (stIn 23 15)) _ (by conv => rhs; whnf)
noncomputable abbrev c291 : Scope := @pick _ (scopeOf (stIn 23 15)) _ (by conv => rhs; whnf)
noncomputable abbrev a298 : Arguments := @pick _ (argsOf (stIn 23 16)) _ (by conv => rhs; whnf)
noncomputable abbrev b298 : List Stmt := @pick _ (bodyOf (stIn 23 16)) _ (by conv => rhs; whnf)
noncomputable abbrev c298 : Scope := @pick _ (scopeOf (stIn 23 16)) _ (by conv => rhs; whnf)
noncomputable abbrev a305 : Arguments := @pick _ (argsOf (stIn 23 17)) _ (by conv => rhs; whnf)
noncomputable abbrev b305 : List Stmt := @pick _ (bodyOf (stIn 23 17)) _ (by conv => rhs; whnf)
noncomputable abbrev c305 : Scope := @pick _ (scopeOf (stIn 23 17)) _ (by conv => rhs; whnf)
noncomputable abbrev a319 : Arguments := @pick _ (argsOf (stIn 23 19)) _ (by conv => rhs; whnf)
noncomputable abbrev b319 : List Stmt := @pick _ (bodyOf (stIn 23 19)) _ (by conv => rhs; whnf)
noncomputable abbrev c319 : Scope := @pick _ (scopeOf (stIn 23 19)) _ (by conv => rhs; whnf)
noncomputable abbrev a368 : Arguments := @pick _ (argsOf (stIn 23 26)) _ (by conv => rhs; whnf)
noncomputable abbrev b368 : List Stmt := @pick _ (bodyOf (stIn 23 26)) _ (by conv => rhs; whnf)
noncomputable abbrev c368 : Scope := @pick _ (scopeOf (stIn 23 26)) _ (by conv => rhs; whnf)
noncomputable abbrev a375 : Arguments := @pick _ (argsOf (stIn 23 27)) _ (by conv => rhs; whnf)
noncomputable abbrev b375 : List Stmt := @pick _ (bodyOf (stIn 23 27)) _ (by conv => rhs; whnf)
noncomputable abbrev c375 : Scope := @pick _ (scopeOf (stIn 23 27)) _ (by conv => rhs; whnf)
noncomputable abbrev a382 : Arguments := @pick _ (argsOf (stIn 23 28)) _ (by conv => rhs; whnf)
noncomputable abbrev b382 : List Stmt := @pick _ (bodyOf (stIn 23 28)) _ (by conv => rhs; whnf)
noncomputable abbrev c382 : Scope := @pick _ (scopeOf (stIn 23 28)) _ (by conv => rhs; whnf)
noncomputable abbrev a499 : Arguments := @pick _ (argsOf (stAt 25)) _ (by conv => rhs; whnf)
noncomputable abbrev b499 : List Stmt := @pick _ (bodyOf (stAt 25)) _ (by conv => rhs; whnf)
noncomputable abbrev c499 : Scope := @pick _ (scopeOf (stAt 25)) _ (by conv => rhs; whnf)
noncomputable abbrev a513 : Arguments := @pick _ (argsOf (stIn 26 0)) _ (by conv => rhs; whnf)
noncomputable abbrev b513 : List Stmt := @pick _ (bodyOf (stIn 26 0)) _ (by conv => rhs; whnf)
noncomputable abbrev c513 : Scope := @pick _ (scopeOf (stIn 26 0)) _ (by conv => rhs; whnf)
noncomputable abbrev a604 : Arguments := @pick _ (argsOf (stIn 27 0)) _ (by conv => rhs; whnf)
noncomputable abbrev b604 : List Stmt := @pick _ (bodyOf (stIn 27 0)) _ (by conv => rhs; whnf)
noncomputable abbrev c604 : Scope := @pick _ (scopeOf (stIn 27 0)) _ (by conv => rhs; whnf)
noncomputable abbrev a611 : Arguments := @pick _ (argsOf (stIn 27 1)) _ (by conv => rhs; whnf)
noncomputable abbrev b611 : List Stmt := @pick _ (bodyOf (stIn 27 1)) _ (by conv => rhs; whnf)
noncomputable abbrev c611 : Scope := @pick _ (scopeOf (stIn 27 1)) _ (by conv => rhs; whnf)
noncomputable abbrev a632 : Arguments := @pick _ (argsOf (stIn 27 4)) _ (by conv => rhs; whnf)
noncomputable abbrev b632 : List Stmt := @pick _ (bodyOf (stIn 27 4)) _ (by conv => rhs; whnf)
noncomputable abbrev c632 : Scope := @pick _ (scopeOf (stIn 27 4)) _ (by conv => rhs; whnf)
noncomputable abbrev a720 : Arguments := @pick _ (argsOf (stAt 31)) _ (by conv => rhs; whnf)
noncomputable abbrev b720 : List Stmt := @pick _ (bodyOf (stAt 31)) _ (by conv => rhs; whnf)
noncomputable abbrev c720 : Scope := @pick _ (scopeOf (stAt 31)) _ (by conv => rhs; whnf)
noncomputable abbrev a727 : Arguments := @pick _ (argsOf (stAt 32)) _ (by conv => rhs; whnf)
noncomputable abbrev b727 : List Stmt := @pick _ (bodyOf (stAt 32)) _ (by conv => rhs; whnf)
noncomputable abbrev c727 : Scope := @pick _ (scopeOf (stAt 32)) _ (by conv => rhs; whnf)
noncomputable abbrev a734 : Arguments := @pick _ (argsOf (stAt 33)) _ (by conv => rhs; whnf)
noncomputable abbrev b734 : List Stmt := @pick _ (bodyOf (stAt 33)) _ (by conv => rhs; whnf)
noncomputable abbrev c734 : Scope := @pick _ (scopeOf (stAt 33)) _ (by conv => rhs; whnf)
noncomputable abbrev a739 : Arguments := @pick _ (argsOf (stAt 34)) _ (by conv => rhs; whnf)
noncomputable abbrev b739 : List Stmt := @pick _ (bodyOf (stAt 34)) _ (by conv => rhs; whnf)
noncomputable abbrev c739 : Scope := @pick _ (scopeOf (stAt 34)) _ (by conv => rhs; whnf)
noncomputable abbrev a746 : Arguments := @pick _ (argsOf (stAt 35)) _ (by conv => rhs; whnf)
noncomputable abbrev b746 : List Stmt := @pick _ (bodyOf (stAt 35)) _ (by conv => rhs; whnf)
noncomputable abbrev c746 : Scope := @pick _ (scopeOf (stAt 35)) _ (by conv => rhs; whnf)
noncomputable abbrev a753 : Arguments := @pick _ (argsOf (stAt 36)) _ (by conv => rhs; whnf)
noncomputable abbrev b753 : List Stmt := @pick _ (bodyOf (stAt 36)) _ (by conv => rhs; whnf)
noncomputable abbrev c753 : Scope := @pick _ (scopeOf (stAt 36)) _ (by conv => rhs; whnf)
noncomputable abbrev a760 : Arguments := @pick _ (argsOf (stAt 37)) _ (by conv => rhs; whnf)
noncomputable abbrev b760 : List Stmt := @pick _ (bodyOf (stAt 37)) _ (by conv => rhs; whnf)
noncomputable abbrev c760 : Scope := @pick _ (scopeOf (stAt 37)) _ (by conv => rhs; whnf)
noncomputable abbrev a767 : Arguments := @pick _ (argsOf (stAt 38)) _ (by conv => rhs; whnf)
noncomputable abbrev b767 : List Stmt := @pick _ (bodyOf (stAt 38)) _ (by conv => rhs; whnf)
noncomputable abbrev c767 : Scope := @pick _ (scopeOf (stAt 38)) _ (by conv => rhs; whnf)
noncomputable abbrev a775 : Arguments := @pick _ (argsOf (stAt 44)) _ (by conv => rhs; whnf)
noncomputable abbrev b775 : List Stmt := @pick _ (bodyOf (stAt 44)) _ (by conv => rhs; whnf)
noncomputable abbrev c775 : Scope := @pick _ (scopeOf (stAt 44)) _ (by conv => rhs; whnf)
noncomputable abbrev a782 : Arguments := @pick _ (argsOf (stAt 45)) _ (by conv => rhs; whnf)
noncomputable abbrev b782 : List Stmt := @pick _ (bodyOf (stAt 45)) _ (by conv => rhs; whnf)
noncomputable abbrev c782 : Scope := @pick _ (scopeOf (stAt 45)) _ (by conv => rhs; whnf)
noncomputable abbrev a789 : Arguments := @pick _ (argsOf (stAt 46)) _ (by conv => rhs; whnf)
noncomputable abbrev b789 : List Stmt := @pick _ (bodyOf (stAt 46)) _ (by conv => rhs; whnf)
noncomputable abbrev c789 : Scope := @pick _ (scopeOf (stAt 46)) _ (by conv => rhs; whnf)
noncomputable abbrev a810 : Arguments := @pick _ (argsOf (stAt 49)) _ (by conv => rhs; whnf)
noncomputable abbrev b810 : List Stmt := @pick _ (bodyOf (stAt 49)) _ (by conv => rhs; whnf)
noncomputable abbrev c810 : Scope := @pick _ (scopeOf (stAt 49)) _ (by conv => rhs; whnf)
noncomputable abbrev a817 : Arguments := @pick _ (argsOf (stAt 50)) _ (by conv => rhs; whnf)
noncomputable abbrev b817 : List Stmt := @pick _ (bodyOf (stAt 50)) _ (by conv => rhs; whnf)
noncomputable abbrev c817 : Scope := @pick _ (scopeOf (stAt 50)) _ (by conv => rhs; whnf)
noncomputable abbrev a824 : Arguments := @pick _ (argsOf (stAt 51)) _ (by conv => rhs; whnf)
noncomputable abbrev b824 : List Stmt := @pick _ (bodyOf (stAt 51)) _ (by conv => rhs; whnf)
noncomputable abbrev c824 : Scope := @pick _ (scopeOf (stAt 51)) _ (by conv => rhs; whnf)
noncomputable abbrev a831 : Arguments := @pick _ (argsOf (stAt 52)) _ (by conv => rhs; whnf)
noncomputable abbrev b831 : List Stmt := @pick _ (bodyOf (stAt 52)) _ (by conv => rhs; whnf)
noncomputable abbrev c831 : Scope := @pick _ (scopeOf (stAt 52)) _ (by conv => rhs; whnf)
noncomputable abbrev a836 : Arguments := @pick _ (argsOf (stAt 53)) _ (by conv => rhs; whnf)
noncomputable abbrev b836 : List Stmt := @pick _ (bodyOf (stAt 53)) _ (by conv => rhs; whnf)
noncomputable abbrev c836 : Scope := @pick _ (scopeOf (stAt 53)) _ (by conv => rhs; whnf)
noncomputable abbrev a843 : Arguments := @pick _ (argsOf (stAt 54)) _ (by conv => rhs; whnf)
noncomputable abbrev b843 : List Stmt := @pick _ (bodyOf (stAt 54)) _ (by conv => rhs; whnf)
noncomputable abbrev c843 : Scope := @pick _ (scopeOf (stAt 54)) _ (by conv => rhs; whnf)
noncomputable abbrev a850 : Arguments := @pick _ (argsOf (stAt 55)) _ (by conv => rhs; whnf)
noncomputable abbrev b850 : List Stmt := @pick _ (bodyOf (stAt 55)) _ (by conv => rhs; whnf)
noncomputable abbrev c850 : Scope := @pick _ (scopeOf (stAt 55)) _ (by conv => rhs; whnf)
noncomputable abbrev a855 : Arguments := @pick _ (argsOf (stAt 56)) _ (by conv => rhs; whnf)
noncomputable abbrev b855 : List Stmt := @pick _ (bodyOf (stAt 56)) _ (by conv => rhs; whnf)
noncomputable abbrev c855 : Scope := @pick _ (scopeOf (stAt 56)) _ (by conv => rhs; whnf)
noncomputable def heap : Params → Frag := fun P =>
(nat_lit 2,⟨.none,none,(.dict #[⟨(PyData.keyHash P "type.__subclasses__.Exception.0"),(.str "type.__subclasses__.Exception.0" 230),(.int 47 0)⟩,⟨(PyData.keyHash P "type.__subclasses__.Exception.n"),(.str "type.__subclasses__.Exception.n" 231),(.int 1 0)⟩] 2),#[]⟩) ::
(nat_lit 3,⟨(.type "dict"),none,(.dict #[⟨(PyData.keyHash P "__name__"),(.str "__name__" 165),(.str "law_rg0213_01" 1239)⟩,⟨(PyData.keyHash P "__doc__"),(.str "__doc__" 166),.none⟩,⟨(PyData.keyHash P "__package__"),(.str "__package__" 167),.none⟩,⟨(PyData.keyHash P "__loader__"),(.str "__loader__" 168),(.builtin "__main__.__loader__#opaque")⟩,⟨(PyData.keyHash P "__spec__"),(.str "__spec__" 169),.none⟩,⟨(PyData.keyHash P "__annotations__"),(.str "__annotations__" 170),(.ref 6)⟩,⟨(PyData.keyHash P "__builtins__"),(.str "__builtins__" 171),(.ref 4)⟩,⟨(PyData.keyHash P "__file__"),(.str "__file__" 173),(.str "/claim/cut.py" 172)⟩,⟨(PyData.keyHash P "__cached__"),(.str "__cached__" 174),.none⟩,⟨(PyData.keyHash P "_wall"),(.str "_wall" 193),(.ref 21)⟩,⟨(PyData.keyHash P "SmtError"),(.str "SmtError" 233),(.ref 47)⟩,⟨(PyData.keyHash P "SyntaxFault"),(.str "SyntaxFault" 268),(.ref 76)⟩,⟨(PyData.keyHash P "SortFault"),(.str "SortFault" 291),(.ref 95)⟩,⟨(PyData.keyHash P "LimitFault"),(.str "LimitFault" 314),(.ref 114)⟩,⟨(PyData.keyHash P "BLOCK"),(.str "BLOCK" 318),(.int 1000 317)⟩,⟨(PyData.keyHash P "ROUND"),(.str "ROUND" 321),(.int 10000000000000000000000000000000000000000000000000000000000000000000000000000000000000000000000000000000000000000000000000000000000000000000000000000000000000000000000000000000000000000000000000000000000000000000000000000000000000000000000000000000000000000000000000000000000000000000000000000000000000000000000000000000000000000000000000000000000000000000000000000000000000000000000000000000000000000000000000000000000000000000000000000000000000000000000000000000000000000000000000000000000000000000000000000000000000000000000000000000000000000000000000000000000000000000000000000000000000000000000000000000000000000000000000000000000000000000000000000000000000000000000000000000000000000000000000000000000000000000000000000000000000000000000000000000000000000000000000000000000000000000000000000000000000000000000000000000000000000000000000000000000000000000000000000000000000000000000000000000000000000000000000000000000000000000000000000000000000000000000000000000000000000000000000000000000000000 320)⟩,⟨(PyData.keyHash P "gcd_of"),(.str "gcd_of" 329),(.ref 123)⟩,⟨(PyData.keyHash P "ratio"),(.str "ratio" 338),(.ref 130)⟩,⟨(PyData.keyHash P "mul"),(.str "mul" 346),(.ref 137)⟩,⟨(PyData.keyHash P "is_whole"),(.str "is_whole" 353),(.ref 144)⟩,⟨(PyData.keyHash P "signed_text"),(.str "signed_text" 361),(.ref 151)⟩,⟨(PyData.keyHash P "figures_of"),(.str "figures_of" 370),(.ref 158)⟩,⟨(PyData.keyHash P "ratio_text"),(.str "ratio_text" 379),(.ref 165)⟩,⟨(PyData.keyHash P "real_text"),(.str "real_text" 388),(.ref 172)⟩,⟨(PyData.keyHash P "BOOL"),(.str "BOOL" 392),(.int 0 391)⟩,⟨(PyData.keyHash P "INT"),(.str "INT" 394),(.int 1 393)⟩,⟨(PyData.keyHash P "REAL"),(.str "REAL" 396),(.int 2 395)⟩,⟨(PyData.keyHash P "WIDEST"),(.str "WIDEST" 398),(.int 4096 397)⟩,⟨(PyData.keyHash P "MOST_BITS"),(.str "MOST_BITS" 402),(.int 65536 401)⟩,⟨(PyData.keyHash P "Bank"),(.str "Bank" 686),(.ref 385)⟩,⟨(PyData.keyHash P "BoolBank"),(.str "BoolBank" 819),(.ref 490)⟩,⟨(PyData.keyHash P "want_small"),(.str "want_small" 826),(.ref 499)⟩,⟨(PyData.keyHash P "NumberBank"),(.str "NumberBank" 940),(.ref 586)⟩,⟨(PyData.keyHash P "TermBank"),(.str "TermBank" 1096),(.ref 705)⟩,⟨(PyData.keyHash P "PLACED"),(.str "PLACED" 1105),(.ref 708)⟩,⟨(PyData.keyHash P "places_text"),(.str "places_text" 1111),(.ref 713)⟩,⟨(PyData.keyHash P "number_text_of"),(.str "number_text_of" 1119),(.ref 720)⟩,⟨(PyData.keyHash P "leaf_text"),(.str "leaf_text" 1128),(.ref 727)⟩,⟨(PyData.keyHash P "head_text"),(.str "head_text" 1137),(.ref 734)⟩,⟨(PyData.keyHash P "own_text"),(.str "own_text" 1143),(.ref 739)⟩,⟨(PyData.keyHash P "uses_of"),(.str "uses_of" 1154),(.ref 746)⟩,⟨(PyData.keyHash P "names_in"),(.str "names_in" 1164),(.ref 753)⟩,⟨(PyData.keyHash P "free_name"),(.str "free_name" 1173),(.ref 760)⟩,⟨(PyData.keyHash P "term_text"),(.str "term_text" 1190),(.ref 767)⟩,⟨(PyData.keyHash P "DIGITS"),(.str "DIGITS" 1192),(.str "0123456789" 1191)⟩,⟨(PyData.keyHash P "LETTERS"),(.str "LETTERS" 1194),(.str "abcdefghijklmnopqrstuvwxyzABCDEFGHIJKLMNOPQRSTUVWXYZ" 1193)⟩,⟨(PyData.keyHash P "MARKS"),(.str "MARKS" 1196),(.str "~!@$%^&*_-+=<>.?/" 1195)⟩,⟨(PyData.keyHash P "SIMPLE"),(.str "SIMPLE" 1199),(.str "abcdefghijklmnopqrstuvwxyzABCDEFGHIJKLMNOPQRSTUVWXYZ0123456789~!@$%^&*_-+=<>.?/" 1198)⟩,⟨(PyData.keyHash P "RESERVED"),(.str "RESERVED" 1213),(.ref 768)⟩,⟨(PyData.keyHash P "is_simple"),(.str "is_simple" 1221),(.ref 775)⟩,⟨(PyData.keyHash P "symbol_text"),(.str "symbol_text" 1228),(.ref 782)⟩,⟨(PyData.keyHash P "bits_text"),(.str "bits_text" 1238),(.ref 789)⟩,⟨(PyData.keyHash P "_law_names"),(.str "_law_names" 1264),(.ref 803)⟩,⟨(PyData.keyHash P "_law_scoop"),(.str "_law_scoop" 1273),(.ref 810)⟩,⟨(PyData.keyHash P "_law_value"),(.str "_law_value" 1284),(.ref 817)⟩,⟨(PyData.keyHash P "_law_leaf"),(.str "_law_leaf" 1299),(.ref 824)⟩,⟨(PyData.keyHash P "_law_figures"),(.str "_law_figures" 1308),(.ref 831)⟩,⟨(PyData.keyHash P "_law_number"),(.str "_law_number" 1314),(.ref 836)⟩,⟨(PyData.keyHash P "_law_is_due"),(.str "_law_is_due" 1322),(.ref 843)⟩,⟨(PyData.keyHash P "_law_is_refused"),(.str "_law_is_refused" 1332),(.ref 850)⟩,⟨(PyData.keyHash P "law"),(.str "law" 1338),(.ref 855)⟩] 61),#[]⟩) ::
(nat_lit 22,⟨(.type "tuple"),none,(.seq #[(.type "Exception")] 0),#[]⟩) ::
(nat_lit 25,⟨(.type "cell"),none,(.cell (some (.ref 47))),#[]⟩) ::
(nat_lit 30,⟨(.type "tuple"),none,(.seq #[(.ref 25)] 0),#[]⟩) ::
(nat_lit 31,⟨(.type "tuple"),none,(.seq #[(.str "__class__" 211)] 0),#[]⟩) ::
(nat_lit 33,⟨(.type "tuple"),none,(.seq #[(.str "self" 212),(.str "what" 213)] 0),#[]⟩) ::
(nat_lit 34,⟨(.type "tuple"),none,(.seq #[] 0),#[]⟩) ::
(nat_lit 36,⟨(.type "code"),none,(.fields #[(.str "__init__" 208),(.str "SmtError.__init__" 209),(.str "/claim/cut.py" 210),(.int 7 0),(.int 2 0),(.int 0 0),(.int 0 0),(.int 3 0),(.ref 31),(.bool true),(.int 181 0),(.ref 32),.none,(.ref 33),(.ref 34),(.ref 35),(.int 214 0),(.int 7 0),(.str "/claim/cut.py" 215)]),#[]⟩) ::
(nat_lit 37,⟨(.type "function"),none,(.func ⟨"__init__","SmtError.__init__",a37,(.stmts b37),c37,3,[("__class__",25)],.none,.none,.none,(.str "minismt.errors" 194),none,(.ref 36),(.ref 30),0⟩),#[]⟩) ::
(nat_lit 45,⟨(.type "tuple"),none,(.seq #[(.str "what" 224)] 0),#[]⟩) ::
(nat_lit 46,⟨(.type "dict"),none,(.dict #[⟨(PyData.keyHash P "__module__"),(.str "__module__" 203),(.str "minismt.errors" 194)⟩,⟨(PyData.keyHash P "__firstlineno__"),(.str "__firstlineno__" 207),(.int 5 206)⟩,⟨(PyData.keyHash P "__init__"),(.str "__init__" 216),(.ref 37)⟩,⟨(PyData.keyHash P "told"),(.str "told" 223),(.ref 44)⟩,⟨(PyData.keyHash P "__static_attributes__"),(.str "__static_attributes__" 225),(.ref 45)⟩,⟨(PyData.keyHash P "__weakref__"),(.str "__weakref__" 228),(.ref 48)⟩,⟨(PyData.keyHash P "__doc__"),(.str "__doc__" 229),.none⟩] 4),#[]⟩) ::
(nat_lit 47,⟨(.type "type"),none,(.cls ⟨"SmtError",[(.type "Exception")],[(.ref 47),(.type "Exception"),(.type "BaseException"),(.type "object")],46,"SmtError",true,[],[(.ref 76),(.ref 95),(.ref 114)],false,none,false⟩),#[(some (.ref 22)),none,(some (.str "SmtError" 196)),(some (.str "SmtError" 204)),(some (.builtin "Exception.__new__")),(some (.bool true))]⟩) ::
(nat_lit 48,⟨(.type "getset_descriptor"),none,(.fields #[(.str "__weakref__" 227),(.ref 47),(.builtin "ExceptionGroup.__weakref__"),.none]),#[]⟩) ::
(nat_lit 51,⟨(.type "tuple"),none,(.seq #[(.ref 47)] 0),#[]⟩) ::
(nat_lit 54,⟨(.type "cell"),none,(.cell (some (.ref 76))),#[]⟩) ::
(nat_lit 59,⟨(.type "tuple"),none,(.seq #[(.ref 54)] 0),#[]⟩) ::
(nat_lit 60,⟨(.type "tuple"),none,(.seq #[(.str "__class__" 249)] 0),#[]⟩) ::
(nat_lit 62,⟨(.type "tuple"),none,(.seq #[(.str "self" 250),(.str "what" 251),(.str "spot" 252)] 0),#[]⟩) ::
(nat_lit 63,⟨(.type "tuple"),none,(.seq #[] 0),#[]⟩) ::
(nat_lit 65,⟨(.type "code"),none,(.fields #[(.str "__init__" 246),(.str "SyntaxFault.__init__" 247),(.str "/claim/cut.py" 248),(.int 15 0),(.int 3 0),(.int 0 0),(.int 0 0),(.int 3 0),(.ref 60),(.bool true),(.int 181 0),(.ref 61),.none,(.ref 62),(.ref 63),(.ref 64),(.int 253 0),(.int 15 0),(.str "/claim/cut.py" 254)]),#[]⟩) ::
(nat_lit 66,⟨(.type "function"),none,(.func ⟨"__init__","SyntaxFault.__init__",a66,(.stmts b66),c66,3,[("__class__",54)],.none,.none,.none,(.str "minismt.errors" 194),none,(.ref 65),(.ref 59),0⟩),#[]⟩) ::
(nat_lit 74,⟨(.type "tuple"),none,(.seq #[(.str "spot" 263)] 0),#[]⟩) ::
(nat_lit 75,⟨(.type "dict"),none,(.dict #[⟨(PyData.keyHash P "__module__"),(.str "__module__" 241),(.str "minismt.errors" 194)⟩,⟨(PyData.keyHash P "__firstlineno__"),(.str "__firstlineno__" 245),(.int 13 244)⟩,⟨(PyData.keyHash P "__init__"),(.str "__init__" 255),(.ref 66)⟩,⟨(PyData.keyHash P "told"),(.str "told" 262),(.ref 73)⟩,⟨(PyData.keyHash P "__static_attributes__"),(.str "__static_attributes__" 264),(.ref 74)⟩,⟨(PyData.keyHash P "__doc__"),(.str "__doc__" 266),.none⟩] 3),#[]⟩) ::
(nat_lit 76,⟨(.type "type"),none,(.cls ⟨"SyntaxFault",[(.ref 47)],[(.ref 76),(.ref 47),(.type "Exception"),(.type "BaseException"),(.type "object")],75,"SyntaxFault",true,[],[],false,none,false⟩),#[(some (.ref 51)),none,(some (.str "SyntaxFault" 234)),(some (.str "SyntaxFault" 242)),(some (.builtin "Exception.__new__")),(some (.bool true))]⟩) ::
(nat_lit 79,⟨(.type "tuple"),none,(.seq #[(.ref 47)] 0),#[]⟩) ::
(nat_lit 93,⟨(.type "tuple"),none,(.seq #[] 0),#[]⟩) ::
(nat_lit 94,⟨(.type "dict"),none,(.dict #[⟨(PyData.keyHash P "__module__"),(.str "__module__" 276),(.str "minismt.errors" 194)⟩,⟨(PyData.keyHash P "__firstlineno__"),(.str "__firstlineno__" 280),(.int 21 279)⟩,⟨(PyData.keyHash P "told"),(.str "told" 287),(.ref 92)⟩,⟨(PyData.keyHash P "__static_attributes__"),(.str "__static_attributes__" 288),(.ref 93)⟩,⟨(PyData.keyHash P "__doc__"),(.str "__doc__" 289),.none⟩] 2),#[]⟩) ::
(nat_lit 95,⟨(.type "type"),none,(.cls ⟨"SortFault",[(.ref 47)],[(.ref 95),(.ref 47),(.type "Exception"),(.type "BaseException"),(.type "object")],94,"SortFault",true,[],[],false,none,false⟩),#[(some (.ref 79)),none,(some (.str "SortFault" 269)),(some (.str "SortFault" 277)),(some (.builtin "Exception.__new__")),(some (.bool true))]⟩) ::
(nat_lit 98,⟨(.type "tuple"),none,(.seq #[(.ref 47)] 0),#[]⟩) ::
(nat_lit 112,⟨(.type "tuple"),none,(.seq #[] 0),#[]⟩) ::
(nat_lit 113,⟨(.type "dict"),none,(.dict #[⟨(PyData.keyHash P "__module__"),(.str "__module__" 299),(.str "minismt.errors" 194)⟩,⟨(PyData.keyHash P "__firstlineno__"),(.str "__firstlineno__" 303),(.int 25 302)⟩,⟨(PyData.keyHash P "told"),(.str "told" 310),(.ref 111)⟩,⟨(PyData.keyHash P "__static_attributes__"),(.str "__static_attributes__" 311),(.ref 112)⟩,⟨(PyData.keyHash P "__doc__"),(.str "__doc__" 312),.none⟩] 2),#[]⟩) ::
(nat_lit 114,⟨(.type "type"),none,(.cls ⟨"LimitFault",[(.ref 47)],[(.ref 114),(.ref 47),(.type "Exception"),(.type "BaseException"),(.type "object")],113,"LimitFault",true,[],[],false,none,false⟩),#[(some (.ref 98)),none,(some (.str "LimitFault" 292)),(some (.str "LimitFault" 300)),(some (.builtin "Exception.__new__")),(some (.bool true))]⟩) ::
(nat_lit 138,⟨(.type "tuple"),none,(.seq #[] 0),#[]⟩) ::
(nat_lit 140,⟨(.type "tuple"),none,(.seq #[(.str "a" 350)] 0),#[]⟩) ::
(nat_lit 141,⟨(.type "tuple"),none,(.seq #[] 0),#[]⟩) ::
(nat_lit 143,⟨(.type "code"),none,(.fields #[(.str "is_whole" 347),(.str "is_whole" 348),(.str "/claim/cut.py" 349),(.int 48 0),(.int 1 0),(.int 0 0),(.int 0 0),(.int 3 0),(.ref 138),(.bool true),(.int 181 0),(.ref 139),.none,(.ref 140),(.ref 141),(.ref 142),(.int 351 0),(.int 48 0),(.str "/claim/cut.py" 352)]),#[]⟩) ::
(nat_lit 144,⟨(.type "function"),none,(.func ⟨"is_whole","is_whole",a144,(.stmts b144),c144,3,[],.none,.none,.none,(.str "minismt.ratios" 315),none,(.ref 143),.none,0⟩),#[]⟩) ::
(nat_lit 145,⟨(.type "tuple"),none,(.seq #[] 0),#[]⟩) ::
(nat_lit 147,⟨(.type "tuple"),none,(.seq #[(.str "text" 357),(.str "is_below" 358)] 0),#[]⟩) ::
(nat_lit 148,⟨(.type "tuple"),none,(.seq #[] 0),#[]⟩) ::
(nat_lit 150,⟨(.type "code"),none,(.fields #[(.str "signed_text" 354),(.str "signed_text" 355),(.str "/claim/cut.py" 356),(.int 50 0),(.int 2 0),(.int 0 0),(.int 0 0),(.int 3 0),(.ref 145),(.bool true),(.int 181 0),(.ref 146),.none,(.ref 147),(.ref 148),(.ref 149),(.int 359 0),(.int 50 0),(.str "/claim/cut.py" 360)]),#[]⟩) ::
(nat_lit 151,⟨(.type "function"),none,(.func ⟨"signed_text","signed_text",a151,(.stmts b151),c151,3,[],.none,.none,.none,(.str "minismt.ratios" 315),none,(.ref 150),.none,0⟩),#[]⟩) ::
(nat_lit 152,⟨(.type "tuple"),none,(.seq #[] 0),#[]⟩) ::
(nat_lit 154,⟨(.type "tuple"),none,(.seq #[(.str "number" 365),(.str "blocks" 366),(.str "text" 367)] 0),#[]⟩) ::
(nat_lit 155,⟨(.type "tuple"),none,(.seq #[] 0),#[]⟩) ::
(nat_lit 157,⟨(.type "code"),none,(.fields #[(.str "figures_of" 362),(.str "figures_of" 363),(.str "/claim/cut.py" 364),(.int 52 0),(.int 1 0),(.int 0 0),(.int 0 0),(.int 3 0),(.ref 152),(.bool true),(.int 181 0),(.ref 153),.none,(.ref 154),(.ref 155),(.ref 156),(.int 368 0),(.int 52 0),(.str "/claim/cut.py" 369)]),#[]⟩) ::
(nat_lit 158,⟨(.type "function"),none,(.func ⟨"figures_of","figures_of",a158,(.stmts b158),c158,3,[],.none,.none,.none,(.str "minismt.ratios" 315),none,(.ref 157),.none,0⟩),#[]⟩) ::
(nat_lit 159,⟨(.type "tuple"),none,(.seq #[] 0),#[]⟩) ::
(nat_lit 161,⟨(.type "tuple"),none,(.seq #[(.str "a" 374),(.str "top" 375),(.str "bottom" 376)] 0),#[]⟩) ::
(nat_lit 162,⟨(.type "tuple"),none,(.seq #[] 0),#[]⟩) ::
(nat_lit 164,⟨(.type "code"),none,(.fields #[(.str "ratio_text" 371),(.str "ratio_text" 372),(.str "/claim/cut.py" 373),(.int 60 0),(.int 1 0),(.int 0 0),(.int 0 0),(.int 3 0),(.ref 159),(.bool true),(.int 181 0),(.ref 160),.none,(.ref 161),(.ref 162),(.ref 163),(.int 377 0),(.int 60 0),(.str "/claim/cut.py" 378)]),#[]⟩) ::
(nat_lit 165,⟨(.type "function"),none,(.func ⟨"ratio_text","ratio_text",a165,(.stmts b165),c165,3,[],.none,.none,.none,(.str "minismt.ratios" 315),none,(.ref 164),.none,0⟩),#[]⟩) ::
(nat_lit 166,⟨(.type "tuple"),none,(.seq #[] 0),#[]⟩) ::
(nat_lit 168,⟨(.type "tuple"),none,(.seq #[(.str "a" 383),(.str "top" 384),(.str "bottom" 385)] 0),#[]⟩) ::
(nat_lit 169,⟨(.type "tuple"),none,(.seq #[] 0),#[]⟩) ::
(nat_lit 171,⟨(.type "code"),none,(.fields #[(.str "real_text" 380),(.str "real_text" 381),(.str "/claim/cut.py" 382),(.int 63 0),(.int 1 0),(.int 0 0),(.int 0 0),(.int 3 0),(.ref 166),(.bool true),(.int 181 0),(.ref 167),.none,(.ref 168),(.ref 169),(.ref 170),(.int 386 0),(.int 63 0),(.str "/claim/cut.py" 387)]),#[]⟩) ::
(nat_lit 172,⟨(.type "function"),none,(.func ⟨"real_text","real_text",a172,(.stmts b172),c172,3,[],.none,.none,.none,(.str "minismt.ratios" 315),none,(.ref 171),.none,0⟩),#[]⟩) ::
(nat_lit 180,⟨(.type "tuple"),none,(.seq #[] 0),#[]⟩) ::
(nat_lit 182,⟨(.type "tuple"),none,(.seq #[(.str "self" 418)] 0),#[]⟩) ::
(nat_lit 183,⟨(.type "tuple"),none,(.seq #[] 0),#[]⟩) ::
(nat_lit 185,⟨(.type "code"),none,(.fields #[(.str "__init__" 415),(.str "Bank.__init__" 416),(.str "/claim/cut.py" 417),(.int 74 0),(.int 1 0),(.int 0 0),(.int 0 0),(.int 3 0),(.ref 180),(.bool true),(.int 181 0),(.ref 181),.none,(.ref 182),(.ref 183),(.ref 184),(.int 419 0),(.int 74 0),(.str "/claim/cut.py" 420)]),#[]⟩) ::
(nat_lit 186,⟨(.type "function"),none,(.func ⟨"__init__","Bank.__init__",a186,(.stmts b186),c186,3,[],.none,.none,.none,(.str "minismt.terms" 389),none,(.ref 185),.none,0⟩),#[]⟩) ::
(nat_lit 208,⟨(.type "tuple"),none,(.seq #[] 0),#[]⟩) ::
(nat_lit 210,⟨(.type "tuple"),none,(.seq #[(.str "self" 449),(.str "s" 450)] 0),#[]⟩) ::
(nat_lit 211,⟨(.type "tuple"),none,(.seq #[] 0),#[]⟩) ::
(nat_lit 213,⟨(.type "code"),none,(.fields #[(.str "is_number_sort" 446),(.str "Bank.is_number_sort" 447),(.str "/claim/cut.py" 448),(.int 98 0),(.int 2 0),(.int 0 0),(.int 0 0),(.int 3 0),(.ref 208),(.bool true),(.int 181 0),(.ref 209),.none,(.ref 210),(.ref 211),(.ref 212),(.int 451 0),(.int 98 0),(.str "/claim/cut.py" 452)]),#[]⟩) ::
(nat_lit 214,⟨(.type "function"),none,(.func ⟨"is_number_sort","Bank.is_number_sort",a214,(.stmts b214),c214,3,[],.none,.none,.none,(.str "minismt.terms" 389),none,(.ref 213),.none,0⟩),#[]⟩) ::
(nat_lit 222,⟨(.type "tuple"),none,(.seq #[] 0),#[]⟩) ::
(nat_lit 224,⟨(.type "tuple"),none,(.seq #[(.str "self" 465),(.str "name" 466),(.str "arg_sorts" 467),(.str "result" 468)] 0),#[]⟩) ::
(nat_lit 225,⟨(.type "tuple"),none,(.seq #[] 0),#[]⟩) ::
(nat_lit 227,⟨(.type "code"),none,(.fields #[(.str "declare_fun" 462),(.str "Bank.declare_fun" 463),(.str "/claim/cut.py" 464),(.int 104 0),(.int 4 0),(.int 0 0),(.int 0 0),(.int 3 0),(.ref 222),(.bool true),(.int 181 0),(.ref 223),.none,(.ref 224),(.ref 225),(.ref 226),(.int 469 0),(.int 104 0),(.str "/claim/cut.py" 470)]),#[]⟩) ::
(nat_lit 228,⟨(.type "function"),none,(.func ⟨"declare_fun","Bank.declare_fun",a228,(.stmts b228),c228,3,[],.none,.none,.none,(.str "minismt.terms" 389),none,(.ref 227),.none,0⟩),#[]⟩) ::
(nat_lit 236,⟨(.type "tuple"),none,(.seq #[] 0),#[]⟩) ::
(nat_lit 238,⟨(.type "tuple"),none,(.seq #[(.str "self" 485),(.str "name" 486),(.str "s" 487)] 0),#[]⟩) ::
(nat_lit 239,⟨(.type "tuple"),none,(.seq #[] 0),#[]⟩) ::
(nat_lit 241,⟨(.type "code"),none,(.fields #[(.str "fresh_const" 482),(.str "Bank.fresh_const" 483),(.str "/claim/cut.py" 484),(.int 113 0),(.int 3 0),(.int 0 0),(.int 0 0),(.int 3 0),(.ref 236),(.bool true),(.int 181 0),(.ref 237),.none,(.ref 238),(.ref 239),(.ref 240),(.int 488 0),(.int 113 0),(.str "/claim/cut.py" 489)]),#[]⟩) ::
(nat_lit 242,⟨(.type "function"),none,(.func ⟨"fresh_const","Bank.fresh_const",a242,(.stmts b242),c242,3,[],.none,.none,.none,(.str "minismt.terms" 389),none,(.ref 241),.none,0⟩),#[]⟩) ::
(nat_lit 243,⟨(.type "tuple"),none,(.seq #[] 0),#[]⟩) ::
(nat_lit 245,⟨(.type "tuple"),none,(.seq #[(.str "self" 494),(.str "f" 495)] 0),#[]⟩) ::
(nat_lit 246,⟨(.type "tuple"),none,(.seq #[] 0),#[]⟩) ::
(nat_lit 248,⟨(.type "code"),none,(.fields #[(.str "fun_name" 491),(.str "Bank.fun_name" 492),(.str "/claim/cut.py" 493),(.int 116 0),(.int 2 0),(.int 0 0),(.int 0 0),(.int 3 0),(.ref 243),(.bool true),(.int 181 0),(.ref 244),.none,(.ref 245),(.ref 246),(.ref 247),(.int 496 0),(.int 116 0),(.str "/claim/cut.py" 497)]),#[]⟩) ::
(nat_lit 249,⟨(.type "function"),none,(.func ⟨"fun_name","Bank.fun_name",a249,(.stmts b249),c249,3,[],.none,.none,.none,(.str "minismt.terms" 389),none,(.ref 248),.none,0⟩),#[]⟩) ::
(nat_lit 271,⟨(.type "tuple"),none,(.seq #[] 0),#[]⟩) ::
(nat_lit 273,⟨(.type "tuple"),none,(.seq #[(.str "self" 525),(.str "t" 526)] 0),#[]⟩) ::
(nat_lit 274,⟨(.type "tuple"),none,(.seq #[] 0),#[]⟩) ::
(nat_lit 276,⟨(.type "code"),none,(.fields #[(.str "op" 522),(.str "Bank.op" 523),(.str "/claim/cut.py" 524),(.int 128 0),(.int 2 0),(.int 0 0),(.int 0 0),(.int 3 0),(.ref 271),(.bool true),(.int 181 0),(.ref 272),.none,(.ref 273),(.ref 274),(.ref 275),(.int 527 0),(.int 128 0),(.str "/claim/cut.py" 528)]),#[]⟩) ::
(nat_lit 277,⟨(.type "function"),none,(.func ⟨"op","Bank.op",a277,(.stmts b277),c277,3,[],.none,.none,.none,(.str "minismt.terms" 389),none,(.ref 276),.none,0⟩),#[]⟩) ::
(nat_lit 278,⟨(.type "tuple"),none,(.seq #[] 0),#[]⟩) ::
(nat_lit 280,⟨(.type "tuple"),none,(.seq #[(.str "self" 533),(.str "t" 534)] 0),#[]⟩) ::
(nat_lit 281,⟨(.type "tuple"),none,(.seq #[] 0),#[]⟩) ::
(nat_lit 283,⟨(.type "code"),none,(.fields #[(.str "args" 530),(.str "Bank.args" 531),(.str "/claim/cut.py" 532),(.int 131 0),(.int 2 0),(.int 0 0),(.int 0 0),(.int 3 0),(.ref 278),(.bool true),(.int 181 0),(.ref 279),.none,(.ref 280),(.ref 281),(.ref 282),(.int 535 0),(.int 131 0),(.str "/claim/cut.py" 536)]),#[]⟩) ::
(nat_lit 284,⟨(.type "function"),none,(.func ⟨"args","Bank.args",a284,(.stmts b284),c284,3,[],.none,.none,.none,(.str "minismt.terms" 389),none,(.ref 283),.none,0⟩),#[]⟩) ::
(nat_lit 285,⟨(.type "tuple"),none,(.seq #[] 0),#[]⟩) ::
(nat_lit 287,⟨(.type "tuple"),none,(.seq #[(.str "self" 541),(.str "t" 542)] 0),#[]⟩) ::
(nat_lit 288,⟨(.type "tuple"),none,(.seq #[] 0),#[]⟩) ::
(nat_lit 290,⟨(.type "code"),none,(.fields #[(.str "sort" 538),(.str "Bank.sort" 539),(.str "/claim/cut.py" 540),(.int 134 0),(.int 2 0),(.int 0 0),(.int 0 0),(.int 3 0),(.ref 285),(.bool true),(.int 181 0),(.ref 286),.none,(.ref 287),(.ref 288),(.ref 289),(.int 543 0),(.int 134 0),(.str "/claim/cut.py" 544)]),#[]⟩) ::
(nat_lit 291,⟨(.type "function"),none,(.func ⟨"sort","Bank.sort",a291,(.stmts b291),c291,3,[],.none,.none,.none,(.str "minismt.terms" 389),none,(.ref 290),.none,0⟩),#[]⟩) ::
(nat_lit 292,⟨(.type "tuple"),none,(.seq #[] 0),#[]⟩) ::
(nat_lit 294,⟨(.type "tuple"),none,(.seq #[(.str "self" 549),(.str "t" 550)] 0),#[]⟩) ::
(nat_lit 295,⟨(.type "tuple"),none,(.seq #[] 0),#[]⟩) ::
(nat_lit 297,⟨(.type "code"),none,(.fields #[(.str "data" 546),(.str "Bank.data" 547),(.str "/claim/cut.py" 548),(.int 137 0),(.int 2 0),(.int 0 0),(.int 0 0),(.int 3 0),(.ref 292),(.bool true),(.int 181 0),(.ref 293),.none,(.ref 294),(.ref 295),(.ref 296),(.int 551 0),(.int 137 0),(.str "/claim/cut.py" 552)]),#[]⟩) ::
(nat_lit 298,⟨(.type "function"),none,(.func ⟨"data","Bank.data",a298,(.stmts b298),c298,3,[],.none,.none,.none,(.str "minismt.terms" 389),none,(.ref 297),.none,0⟩),#[]⟩) ::
(nat_lit 299,⟨(.type "tuple"),none,(.seq #[] 0),#[]⟩) ::
(nat_lit 301,⟨(.type "tuple"),none,(.seq #[(.str "self" 557),(.str "t" 558)] 0),#[]⟩) ::
(nat_lit 302,⟨(.type "tuple"),none,(.seq #[] 0),#[]⟩) ::
(nat_lit 304,⟨(.type "code"),none,(.fields #[(.str "width" 554),(.str "Bank.width" 555),(.str "/claim/cut.py" 556),(.int 140 0),(.int 2 0),(.int 0 0),(.int 0 0),(.int 3 0),(.ref 299),(.bool true),(.int 181 0),(.ref 300),.none,(.ref 301),(.ref 302),(.ref 303),(.int 559 0),(.int 140 0),(.str "/claim/cut.py" 560)]),#[]⟩) ::
(nat_lit 305,⟨(.type "function"),none,(.func ⟨"width","Bank.width",a305,(.stmts b305),c305,3,[],.none,.none,.none,(.str "minismt.terms" 389),none,(.ref 304),.none,0⟩),#[]⟩) ::
(nat_lit 313,⟨(.type "tuple"),none,(.seq #[] 0),#[]⟩) ::
(nat_lit 315,⟨(.type "tuple"),none,(.seq #[(.str "self" 572),(.str "op" 573),(.str "args" 574),(.str "sort" 575),(.str "data" 576),(.str "key" 577),(.str "found" 578)] 0),#[]⟩) ::
(nat_lit 316,⟨(.type "tuple"),none,(.seq #[] 0),#[]⟩) ::
(nat_lit 318,⟨(.type "code"),none,(.fields #[(.str "make" 569),(.str "Bank.make" 570),(.str "/claim/cut.py" 571),(.int 146 0),(.int 5 0),(.int 0 0),(.int 0 0),(.int 3 0),(.ref 313),(.bool true),(.int 181 0),(.ref 314),.none,(.ref 315),(.ref 316),(.ref 317),(.int 579 0),(.int 146 0),(.str "/claim/cut.py" 580)]),#[]⟩) ::
(nat_lit 319,⟨(.type "function"),none,(.func ⟨"make","Bank.make",a319,(.stmts b319),c319,3,[],.none,.none,.none,(.str "minismt.terms" 389),none,(.ref 318),.none,0⟩),#[]⟩) ::
(nat_lit 362,⟨(.type "tuple"),none,(.seq #[] 0),#[]⟩) ::
(nat_lit 364,⟨(.type "tuple"),none,(.seq #[(.str "self" 638),(.str "holds" 639)] 0),#[]⟩) ::
(nat_lit 365,⟨(.type "tuple"),none,(.seq #[] 0),#[]⟩) ::
(nat_lit 367,⟨(.type "code"),none,(.fields #[(.str "bool_term" 635),(.str "Bank.bool_term" 636),(.str "/claim/cut.py" 637),(.int 177 0),(.int 2 0),(.int 0 0),(.int 0 0),(.int 3 0),(.ref 362),(.bool true),(.int 181 0),(.ref 363),.none,(.ref 364),(.ref 365),(.ref 366),(.int 640 0),(.int 177 0),(.str "/claim/cut.py" 641)]),#[]⟩) ::
(nat_lit 368,⟨(.type "function"),none,(.func ⟨"bool_term","Bank.bool_term",a368,(.stmts b368),c368,3,[],.none,.none,.none,(.str "minismt.terms" 389),none,(.ref 367),.none,0⟩),#[]⟩) ::
(nat_lit 369,⟨(.type "tuple"),none,(.seq #[] 0),#[]⟩) ::
(nat_lit 371,⟨(.type "tuple"),none,(.seq #[(.str "self" 646),(.str "t" 647)] 0),#[]⟩) ::
(nat_lit 372,⟨(.type "tuple"),none,(.seq #[] 0),#[]⟩) ::
(nat_lit 374,⟨(.type "code"),none,(.fields #[(.str "parts" 643),(.str "Bank.parts" 644),(.str "/claim/cut.py" 645),(.int 180 0),(.int 2 0),(.int 0 0),(.int 0 0),(.int 3 0),(.ref 369),(.bool true),(.int 181 0),(.ref 370),.none,(.ref 371),(.ref 372),(.ref 373),(.int 648 0),(.int 180 0),(.str "/claim/cut.py" 649)]),#[]⟩) ::
(nat_lit 375,⟨(.type "function"),none,(.func ⟨"parts","Bank.parts",a375,(.stmts b375),c375,3,[],.none,.none,.none,(.str "minismt.terms" 389),none,(.ref 374),.none,0⟩),#[]⟩) ::
(nat_lit 376,⟨(.type "tuple"),none,(.seq #[] 0),#[]⟩) ::
(nat_lit 378,⟨(.type "tuple"),none,(.seq #[(.str "self" 654),(.str "some" 655),(.str "found" 656),(.str "done" 657),(.str "root" 658),(.str "stack" 659),(.str "t" 660),(.str "is_open" 661),(.str "part" 662)] 0),#[]⟩) ::
(nat_lit 379,⟨(.type "tuple"),none,(.seq #[] 0),#[]⟩) ::
(nat_lit 381,⟨(.type "code"),none,(.fields #[(.str "parts_of_all" 651),(.str "Bank.parts_of_all" 652),(.str "/claim/cut.py" 653),(.int 183 0),(.int 2 0),(.int 0 0),(.int 0 0),(.int 3 0),(.ref 376),(.bool true),(.int 181 0),(.ref 377),.none,(.ref 378),(.ref 379),(.ref 380),(.int 663 0),(.int 183 0),(.str "/claim/cut.py" 664)]),#[]⟩) ::
(nat_lit 382,⟨(.type "function"),none,(.func ⟨"parts_of_all","Bank.parts_of_all",a382,(.stmts b382),c382,3,[],.none,.none,.none,(.str "minismt.terms" 389),none,(.ref 381),.none,0⟩),#[]⟩) ::
(nat_lit 383,⟨(.type "tuple"),none,(.seq #[(.str "false_number" 666),(.str "fresh_count" 667),(.str "fun_args" 668),(.str "fun_names" 669),(.str "fun_results" 670),(.str "numbers" 671),(.str "sort_names" 672),(.str "sort_widths" 673),(.str "term_args" 674),(.str "term_datas" 675),(.str "term_ops" 676),(.str "term_sorts" 677),(.str "true_number" 678)] 0),#[]⟩) ::
(nat_lit 384,⟨(.type "dict"),none,(.dict #[⟨(PyData.keyHash P "__module__"),(.str "__module__" 410),(.str "minismt.terms" 389)⟩,⟨(PyData.keyHash P "__firstlineno__"),(.str "__firstlineno__" 414),(.int 72 413)⟩,⟨(PyData.keyHash P "__init__"),(.str "__init__" 421),(.ref 186)⟩,⟨(PyData.keyHash P "sort_name"),(.str "sort_name" 429),(.ref 193)⟩,⟨(PyData.keyHash P "declare_sort"),(.str "declare_sort" 437),(.ref 200)⟩,⟨(PyData.keyHash P "width_of"),(.str "width_of" 445),(.ref 207)⟩,⟨(PyData.keyHash P "is_number_sort"),(.str "is_number_sort" 453),(.ref 214)⟩,⟨(PyData.keyHash P "is_free_sort"),(.str "is_free_sort" 461),(.ref 221)⟩,⟨(PyData.keyHash P "declare_fun"),(.str "declare_fun" 471),(.ref 228)⟩,⟨(PyData.keyHash P "fresh_fun"),(.str "fresh_fun" 481),(.ref 235)⟩,⟨(PyData.keyHash P "fresh_const"),(.str "fresh_const" 490),(.ref 242)⟩,⟨(PyData.keyHash P "fun_name"),(.str "fun_name" 498),(.ref 249)⟩,⟨(PyData.keyHash P "fun_arg_sorts"),(.str "fun_arg_sorts" 506),(.ref 256)⟩,⟨(PyData.keyHash P "fun_result"),(.str "fun_result" 514),(.ref 263)⟩,⟨(PyData.keyHash P "fun_count"),(.str "fun_count" 521),(.ref 270)⟩,⟨(PyData.keyHash P "op"),(.str "op" 529),(.ref 277)⟩,⟨(PyData.keyHash P "args"),(.str "args" 537),(.ref 284)⟩,⟨(PyData.keyHash P "sort"),(.str "sort" 545),(.ref 291)⟩,⟨(PyData.keyHash P "data"),(.str "data" 553),(.ref 298)⟩,⟨(PyData.keyHash P "width"),(.str "width" 561),(.ref 305)⟩,⟨(PyData.keyHash P "size"),(.str "size" 568),(.ref 312)⟩,⟨(PyData.keyHash P "make"),(.str "make" 581),(.ref 319)⟩,⟨(PyData.keyHash P "find_made"),(.str "find_made" 592),(.ref 326)⟩,⟨(PyData.keyHash P "is_value"),(.str "is_value" 600),(.ref 333)⟩,⟨(PyData.keyHash P "want"),(.str "want" 610),(.ref 340)⟩,⟨(PyData.keyHash P "want_all"),(.str "want_all" 620),(.ref 347)⟩,⟨(PyData.keyHash P "true_term"),(.str "true_term" 627),(.ref 354)⟩,⟨(PyData.keyHash P "false_term"),(.str "false_term" 634),(.ref 361)⟩,⟨(PyData.keyHash P "bool_term"),(.str "bool_term" 642),(.ref 368)⟩,⟨(PyData.keyHash P "parts"),(.str "parts" 650),(.ref 375)⟩,⟨(PyData.keyHash P "parts_of_all"),(.str "parts_of_all" 665),(.ref 382)⟩,⟨(PyData.keyHash P "__static_attributes__"),(.str "__static_attributes__" 679),(.ref 383)⟩,⟨(PyData.keyHash P "__dict__"),(.str "__dict__" 681),(.ref 386)⟩,⟨(PyData.keyHash P "__weakref__"),(.str "__weakref__" 683),(.ref 387)⟩,⟨(PyData.keyHash P "__doc__"),(.str "__doc__" 684),.none⟩] 4),#[]⟩) ::
(nat_lit 385,⟨(.type "type"),none,(.cls ⟨"Bank",[(.type "object")],[(.ref 385),(.type "object")],384,"Bank",true,[],[(.ref 490)],false,none,false⟩),#[none,none,(some (.str "Bank" 403)),(some (.str "Bank" 411)),(some (.builtin "object.__new__")),(some (.bool true))]⟩) ::
(nat_lit 386,⟨(.type "getset_descriptor"),none,(.fields #[(.str "__dict__" 680),(.ref 385),(.builtin "function.__dict__"),(.builtin "function.__dict__#set")]),#[]⟩) ::
(nat_lit 387,⟨(.type "getset_descriptor"),none,(.fields #[(.str "__weakref__" 682),(.ref 385),(.builtin "ExceptionGroup.__weakref__"),.none]),#[]⟩) ::
(nat_lit 390,⟨(.type "tuple"),none,(.seq #[(.ref 385)] 0),#[]⟩) ::
(nat_lit 488,⟨(.type "tuple"),none,(.seq #[] 0),#[]⟩) ::
(nat_lit 489,⟨(.type "dict"),none,(.dict #[⟨(PyData.keyHash P "__module__"),(.str "__module__" 694),(.str "minismt.terms" 389)⟩,⟨(PyData.keyHash P "__firstlineno__"),(.str "__firstlineno__" 698),(.int 200 697)⟩,⟨(PyData.keyHash P "not_of"),(.str "not_of" 706),(.ref 403)⟩,⟨(PyData.keyHash P "and_of"),(.str "and_of" 714),(.ref 410)⟩,⟨(PyData.keyHash P "or_of"),(.str "or_of" 722),(.ref 417)⟩,⟨(PyData.keyHash P "xor_of"),(.str "xor_of" 731),(.ref 424)⟩,⟨(PyData.keyHash P "implies_of"),(.str "implies_of" 740),(.ref 431)⟩,⟨(PyData.keyHash P "iff"),(.str "iff" 749),(.ref 438)⟩,⟨(PyData.keyHash P "eq"),(.str "eq" 758),(.ref 445)⟩,⟨(PyData.keyHash P "distinct"),(.str "distinct" 766),(.ref 452)⟩,⟨(PyData.keyHash P "ite"),(.str "ite" 776),(.ref 459)⟩,⟨(PyData.keyHash P "app"),(.str "app" 788),(.ref 466)⟩,⟨(PyData.keyHash P "folded"),(.str "folded" 797),(.ref 473)⟩,⟨(PyData.keyHash P "with_args"),(.str "with_args" 806),(.ref 480)⟩,⟨(PyData.keyHash P "replaced"),(.str "replaced" 815),(.ref 487)⟩,⟨(PyData.keyHash P "__static_attributes__"),(.str "__static_attributes__" 816),(.ref 488)⟩,⟨(PyData.keyHash P "__doc__"),(.str "__doc__" 817),.none⟩] 2),#[]⟩) ::
(nat_lit 490,⟨(.type "type"),none,(.cls ⟨"BoolBank",[(.ref 385)],[(.ref 490),(.ref 385),(.type "object")],489,"BoolBank",true,[],[(.ref 586)],false,none,false⟩),#[(some (.ref 390)),none,(some (.str "BoolBank" 687)),(some (.str "BoolBank" 695)),(some (.builtin "object.__new__")),(some (.bool true))]⟩) ::
(nat_lit 493,⟨(.type "tuple"),none,(.seq #[] 0),#[]⟩) ::
(nat_lit 495,⟨(.type "tuple"),none,(.seq #[(.str "value" 823)] 0),#[]⟩) ::
(nat_lit 496,⟨(.type "tuple"),none,(.seq #[] 0),#[]⟩) ::
(nat_lit 498,⟨(.type "code"),none,(.fields #[(.str "want_small" 820),(.str "want_small" 821),(.str "/claim/cut.py" 822),(.int 245 0),(.int 1 0),(.int 0 0),(.int 0 0),(.int 3 0),(.ref 493),(.bool true),(.int 181 0),(.ref 494),.none,(.ref 495),(.ref 496),(.ref 497),(.int 824 0),(.int 245 0),(.str "/claim/cut.py" 825)]),#[]⟩) ::
(nat_lit 499,⟨(.type "function"),none,(.func ⟨"want_small","want_small",a499,(.stmts b499),c499,3,[],.none,.none,.none,(.str "minismt.terms" 389),none,(.ref 498),.none,0⟩),#[]⟩) ::
(nat_lit 500,⟨(.type "tuple"),none,(.seq #[(.ref 490)] 0),#[]⟩) ::
(nat_lit 507,⟨(.type "tuple"),none,(.seq #[] 0),#[]⟩) ::
(nat_lit 509,⟨(.type "tuple"),none,(.seq #[(.str "self" 842),(.str "value" 843),(.str "s" 844)] 0),#[]⟩) ::
(nat_lit 510,⟨(.type "tuple"),none,(.seq #[] 0),#[]⟩) ::
(nat_lit 512,⟨(.type "code"),none,(.fields #[(.str "num" 839),(.str "NumberBank.num" 840),(.str "/claim/cut.py" 841),(.int 250 0),(.int 3 0),(.int 0 0),(.int 0 0),(.int 3 0),(.ref 507),(.bool true),(.int 181 0),(.ref 508),.none,(.ref 509),(.ref 510),(.ref 511),(.int 845 0),(.int 250 0),(.str "/claim/cut.py" 846)]),#[]⟩) ::
(nat_lit 513,⟨(.type "function"),none,(.func ⟨"num","NumberBank.num",a513,(.stmts b513),c513,3,[],.none,.none,.none,(.str "minismt.terms" 389),none,(.ref 512),.none,0⟩),#[]⟩) ::
(nat_lit 584,⟨(.type "tuple"),none,(.seq #[] 0),#[]⟩) ::
(nat_lit 585,⟨(.type "dict"),none,(.dict #[⟨(PyData.keyHash P "__module__"),(.str "__module__" 834),(.str "minismt.terms" 389)⟩,⟨(PyData.keyHash P "__firstlineno__"),(.str "__firstlineno__" 838),(.int 248 837)⟩,⟨(PyData.keyHash P "num"),(.str "num" 847),(.ref 513)⟩,⟨(PyData.keyHash P "want_number"),(.str "want_number" 856),(.ref 520)⟩,⟨(PyData.keyHash P "plus"),(.str "plus" 864),(.ref 527)⟩,⟨(PyData.keyHash P "times_num"),(.str "times_num" 874),(.ref 534)⟩,⟨(PyData.keyHash P "times"),(.str "times" 883),(.ref 541)⟩,⟨(PyData.keyHash P "over_num"),(.str "over_num" 892),(.ref 548)⟩,⟨(PyData.keyHash P "negative"),(.str "negative" 900),(.ref 555)⟩,⟨(PyData.keyHash P "minus"),(.str "minus" 909),(.ref 562)⟩,⟨(PyData.keyHash P "le"),(.str "le" 918),(.ref 569)⟩,⟨(PyData.keyHash P "lt"),(.str "lt" 927),(.ref 576)⟩,⟨(PyData.keyHash P "with_args"),(.str "with_args" 936),(.ref 583)⟩,⟨(PyData.keyHash P "__static_attributes__"),(.str "__static_attributes__" 937),(.ref 584)⟩,⟨(PyData.keyHash P "__doc__"),(.str "__doc__" 938),.none⟩] 2),#[]⟩) ::
(nat_lit 586,⟨(.type "type"),none,(.cls ⟨"NumberBank",[(.ref 490)],[(.ref 586),(.ref 490),(.ref 385),(.type "object")],585,"NumberBank",true,[],[(.ref 705)],false,none,false⟩),#[(some (.ref 500)),none,(some (.str "NumberBank" 827)),(some (.str "NumberBank" 835)),(some (.builtin "object.__new__")),(some (.bool true))]⟩) ::
(nat_lit 589,⟨(.type "tuple"),none,(.seq #[(.ref 586)] 0),#[]⟩) ::
(nat_lit 592,⟨(.type "cell"),none,(.cell (some (.ref 705))),#[]⟩) ::
(nat_lit 597,⟨(.type "tuple"),none,(.seq #[(.ref 592)] 0),#[]⟩) ::
(nat_lit 598,⟨(.type "tuple"),none,(.seq #[(.str "__class__" 956)] 0),#[]⟩) ::
(nat_lit 600,⟨(.type "tuple"),none,(.seq #[(.str "self" 957)] 0),#[]⟩) ::
(nat_lit 601,⟨(.type "tuple"),none,(.seq #[] 0),#[]⟩) ::
(nat_lit 603,⟨(.type "code"),none,(.fields #[(.str "__init__" 953),(.str "TermBank.__init__" 954),(.str "/claim/cut.py" 955),(.int 300 0),(.int 1 0),(.int 0 0),(.int 0 0),(.int 3 0),(.ref 598),(.bool true),(.int 181 0),(.ref 599),.none,(.ref 600),(.ref 601),(.ref 602),(.int 958 0),(.int 300 0),(.str "/claim/cut.py" 959)]),#[]⟩) ::
(nat_lit 604,⟨(.type "function"),none,(.func ⟨"__init__","TermBank.__init__",a604,(.stmts b604),c604,3,[("__class__",592)],.none,.none,.none,(.str "minismt.terms" 389),none,(.ref 603),(.ref 597),0⟩),#[]⟩) ::
(nat_lit 605,⟨(.type "tuple"),none,(.seq #[] 0),#[]⟩) ::
(nat_lit 607,⟨(.type "tuple"),none,(.seq #[(.str "self" 964),(.str "width" 965)] 0),#[]⟩) ::
(nat_lit 608,⟨(.type "tuple"),none,(.seq #[] 0),#[]⟩) ::
(nat_lit 610,⟨(.type "code"),none,(.fields #[(.str "bv_sort" 961),(.str "TermBank.bv_sort" 962),(.str "/claim/cut.py" 963),(.int 304 0),(.int 2 0),(.int 0 0),(.int 0 0),(.int 3 0),(.ref 605),(.bool true),(.int 181 0),(.ref 606),.none,(.ref 607),(.ref 608),(.ref 609),(.int 966 0),(.int 304 0),(.str "/claim/cut.py" 967)]),#[]⟩) ::
(nat_lit 611,⟨(.type "function"),none,(.func ⟨"bv_sort","TermBank.bv_sort",a611,(.stmts b611),c611,3,[],.none,.none,.none,(.str "minismt.terms" 389),none,(.ref 610),.none,0⟩),#[]⟩) ::
(nat_lit 626,⟨(.type "tuple"),none,(.seq #[] 0),#[]⟩) ::
(nat_lit 628,⟨(.type "tuple"),none,(.seq #[(.str "self" 989),(.str "value" 990),(.str "width" 991),(.str "s" 992)] 0),#[]⟩) ::
(nat_lit 629,⟨(.type "tuple"),none,(.seq #[] 0),#[]⟩) ::
(nat_lit 631,⟨(.type "code"),none,(.fields #[(.str "bv_num" 986),(.str "TermBank.bv_num" 987),(.str "/claim/cut.py" 988),(.int 322 0),(.int 3 0),(.int 0 0),(.int 0 0),(.int 3 0),(.ref 626),(.bool true),(.int 181 0),(.ref 627),.none,(.ref 628),(.ref 629),(.ref 630),(.int 993 0),(.int 322 0),(.str "/claim/cut.py" 994)]),#[]⟩) ::
(nat_lit 632,⟨(.type "function"),none,(.func ⟨"bv_num","TermBank.bv_num",a632,(.stmts b632),c632,3,[],.none,.none,.none,(.str "minismt.terms" 389),none,(.ref 631),.none,0⟩),#[]⟩) ::
(nat_lit 703,⟨(.type "tuple"),none,(.seq #[(.str "bv_numbers" 1091)] 0),#[]⟩) ::
(nat_lit 704,⟨(.type "dict"),none,(.dict #[⟨(PyData.keyHash P "__module__"),(.str "__module__" 948),(.str "minismt.terms" 389)⟩,⟨(PyData.keyHash P "__firstlineno__"),(.str "__firstlineno__" 952),(.int 298 951)⟩,⟨(PyData.keyHash P "__init__"),(.str "__init__" 960),(.ref 604)⟩,⟨(PyData.keyHash P "bv_sort"),(.str "bv_sort" 968),(.ref 611)⟩,⟨(PyData.keyHash P "find_bv_sort"),(.str "find_bv_sort" 976),(.ref 618)⟩,⟨(PyData.keyHash P "want_bits"),(.str "want_bits" 985),(.ref 625)⟩,⟨(PyData.keyHash P "bv_num"),(.str "bv_num" 995),(.ref 632)⟩,⟨(PyData.keyHash P "bv_one"),(.str "bv_one" 1004),(.ref 639)⟩,⟨(PyData.keyHash P "bv_two"),(.str "bv_two" 1014),(.ref 646)⟩,⟨(PyData.keyHash P "concat"),(.str "concat" 1023),(.ref 653)⟩,⟨(PyData.keyHash P "extract"),(.str "extract" 1033),(.ref 660)⟩,⟨(PyData.keyHash P "zero_extend"),(.str "zero_extend" 1042),(.ref 667)⟩,⟨(PyData.keyHash P "sign_extend"),(.str "sign_extend" 1051),(.ref 674)⟩,⟨(PyData.keyHash P "want_place"),(.str "want_place" 1061),(.ref 681)⟩,⟨(PyData.keyHash P "bit"),(.str "bit" 1070),(.ref 688)⟩,⟨(PyData.keyHash P "carry"),(.str "carry" 1080),(.ref 695)⟩,⟨(PyData.keyHash P "below"),(.str "below" 1090),(.ref 702)⟩,⟨(PyData.keyHash P "__static_attributes__"),(.str "__static_attributes__" 1092),(.ref 703)⟩,⟨(PyData.keyHash P "__doc__"),(.str "__doc__" 1094),.none⟩] 3),#[]⟩) ::
(nat_lit 705,⟨(.type "type"),none,(.cls ⟨"TermBank",[(.ref 586)],[(.ref 705),(.ref 586),(.ref 490),(.ref 385),(.type "object")],704,"TermBank",true,[],[],false,none,false⟩),#[(some (.ref 589)),none,(some (.str "TermBank" 941)),(some (.str "TermBank" 949)),(some (.builtin "object.__new__")),(some (.bool true))]⟩) ::
(nat_lit 708,⟨(.type "tuple"),none,(.seq #[(.str "extract" 1099),(.str "zero_extend" 1100),(.str "sign_extend" 1101),(.str "bit" 1102),(.str "carry" 1103),(.str "below" 1104)] 0),#[]⟩) ::
(nat_lit 714,⟨(.type "tuple"),none,(.seq #[] 0),#[]⟩) ::
(nat_lit 716,⟨(.type "tuple"),none,(.seq #[(.str "value" 1115),(.str "s" 1116)] 0),#[]⟩) ::
(nat_lit 717,⟨(.type "tuple"),none,(.seq #[] 0),#[]⟩) ::
(nat_lit 719,⟨(.type "code"),none,(.fields #[(.str "number_text_of" 1112),(.str "number_text_of" 1113),(.str "/claim/cut.py" 1114),(.int 380 0),(.int 2 0),(.int 0 0),(.int 0 0),(.int 3 0),(.ref 714),(.bool true),(.int 181 0),(.ref 715),.none,(.ref 716),(.ref 717),(.ref 718),(.int 1117 0),(.int 380 0),(.str "/claim/cut.py" 1118)]),#[]⟩) ::
(nat_lit 720,⟨(.type "function"),none,(.func ⟨"number_text_of","number_text_of",a720,(.stmts b720),c720,3,[],.none,.none,.none,(.str "minismt.texts" 1097),none,(.ref 719),.none,0⟩),#[]⟩) ::
(nat_lit 721,⟨(.type "tuple"),none,(.seq #[] 0),#[]⟩) ::
(nat_lit 723,⟨(.type "tuple"),none,(.seq #[(.str "bank" 1123),(.str "t" 1124),(.str "op" 1125)] 0),#[]⟩) ::
(nat_lit 724,⟨(.type "tuple"),none,(.seq #[] 0),#[]⟩) ::
(nat_lit 726,⟨(.type "code"),none,(.fields #[(.str "leaf_text" 1120),(.str "leaf_text" 1121),(.str "/claim/cut.py" 1122),(.int 382 0),(.int 2 0),(.int 0 0),(.int 0 0),(.int 3 0),(.ref 721),(.bool true),(.int 181 0),(.ref 722),.none,(.ref 723),(.ref 724),(.ref 725),(.int 1126 0),(.int 382 0),(.str "/claim/cut.py" 1127)]),#[]⟩) ::
(nat_lit 727,⟨(.type "function"),none,(.func ⟨"leaf_text","leaf_text",a727,(.stmts b727),c727,3,[],.none,.none,.none,(.str "minismt.texts" 1097),none,(.ref 726),.none,0⟩),#[]⟩) ::
(nat_lit 728,⟨(.type "tuple"),none,(.seq #[] 0),#[]⟩) ::
(nat_lit 730,⟨(.type "tuple"),none,(.seq #[(.str "bank" 1132),(.str "t" 1133),(.str "op" 1134)] 0),#[]⟩) ::
(nat_lit 731,⟨(.type "tuple"),none,(.seq #[] 0),#[]⟩) ::
(nat_lit 733,⟨(.type "code"),none,(.fields #[(.str "head_text" 1129),(.str "head_text" 1130),(.str "/claim/cut.py" 1131),(.int 391 0),(.int 2 0),(.int 0 0),(.int 0 0),(.int 3 0),(.ref 728),(.bool true),(.int 181 0),(.ref 729),.none,(.ref 730),(.ref 731),(.ref 732),(.int 1135 0),(.int 391 0),(.str "/claim/cut.py" 1136)]),#[]⟩) ::
(nat_lit 734,⟨(.type "function"),none,(.func ⟨"head_text","head_text",a734,(.stmts b734),c734,3,[],.none,.none,.none,(.str "minismt.texts" 1097),none,(.ref 733),.none,0⟩),#[]⟩) ::
(nat_lit 735,⟨(.type "tuple"),none,(.seq #[] 0),#[]⟩) ::
(nat_lit 738,⟨(.type "code"),none,(.fields #[(.str "own_text" 1138),(.str "own_text" 1139),(.str "/claim/cut.py" 1140),(.int 398 0),(.int 3 0),(.int 0 0),(.int 0 0),(.int 3 0),(.ref 735),(.bool true),(.int 181 0),(.ref 736),.none,.none,.none,(.ref 737),(.int 1141 0),(.int 398 0),(.str "/claim/cut.py" 1142)]),#[]⟩) ::
(nat_lit 739,⟨(.type "function"),none,(.func ⟨"own_text","own_text",a739,(.stmts b739),c739,3,[],.none,.none,.none,(.str "minismt.texts" 1097),none,(.ref 738),.none,0⟩),#[]⟩) ::
(nat_lit 740,⟨(.type "tuple"),none,(.seq #[] 0),#[]⟩) ::
(nat_lit 742,⟨(.type "tuple"),none,(.seq #[(.str "bank" 1147),(.str "some" 1148),(.str "found" 1149),(.str "t" 1150),(.str "one" 1151)] 0),#[]⟩) ::
(nat_lit 743,⟨(.type "tuple"),none,(.seq #[] 0),#[]⟩) ::
(nat_lit 745,⟨(.type "code"),none,(.fields #[(.str "uses_of" 1144),(.str "uses_of" 1145),(.str "/claim/cut.py" 1146),(.int 403 0),(.int 2 0),(.int 0 0),(.int 0 0),(.int 3 0),(.ref 740),(.bool true),(.int 181 0),(.ref 741),.none,(.ref 742),(.ref 743),(.ref 744),(.int 1152 0),(.int 403 0),(.str "/claim/cut.py" 1153)]),#[]⟩) ::
(nat_lit 746,⟨(.type "function"),none,(.func ⟨"uses_of","uses_of",a746,(.stmts b746),c746,3,[],.none,.none,.none,(.str "minismt.texts" 1097),none,(.ref 745),.none,0⟩),#[]⟩) ::
(nat_lit 747,⟨(.type "tuple"),none,(.seq #[] 0),#[]⟩) ::
(nat_lit 749,⟨(.type "tuple"),none,(.seq #[(.str "bank" 1158),(.str "some" 1159),(.str "found" 1160),(.str "t" 1161)] 0),#[]⟩) ::
(nat_lit 750,⟨(.type "tuple"),none,(.seq #[] 0),#[]⟩) ::
(nat_lit 752,⟨(.type "code"),none,(.fields #[(.str "names_in" 1155),(.str "names_in" 1156),(.str "/claim/cut.py" 1157),(.int 409 0),(.int 2 0),(.int 0 0),(.int 0 0),(.int 3 0),(.ref 747),(.bool true),(.int 181 0),(.ref 748),.none,(.ref 749),(.ref 750),(.ref 751),(.int 1162 0),(.int 409 0),(.str "/claim/cut.py" 1163)]),#[]⟩) ::
(nat_lit 753,⟨(.type "function"),none,(.func ⟨"names_in","names_in",a753,(.stmts b753),c753,3,[],.none,.none,.none,(.str "minismt.texts" 1097),none,(.ref 752),.none,0⟩),#[]⟩) ::
(nat_lit 754,⟨(.type "tuple"),none,(.seq #[] 0),#[]⟩) ::
(nat_lit 756,⟨(.type "tuple"),none,(.seq #[(.str "taken" 1168),(.str "many" 1169),(.str "k" 1170)] 0),#[]⟩) ::
(nat_lit 757,⟨(.type "tuple"),none,(.seq #[] 0),#[]⟩) ::
(nat_lit 759,⟨(.type "code"),none,(.fields #[(.str "free_name" 1165),(.str "free_name" 1166),(.str "/claim/cut.py" 1167),(.int 415 0),(.int 2 0),(.int 0 0),(.int 0 0),(.int 3 0),(.ref 754),(.bool true),(.int 181 0),(.ref 755),.none,(.ref 756),(.ref 757),(.ref 758),(.int 1171 0),(.int 415 0),(.str "/claim/cut.py" 1172)]),#[]⟩) ::
(nat_lit 760,⟨(.type "function"),none,(.func ⟨"free_name","free_name",a760,(.stmts b760),c760,3,[],.none,.none,.none,(.str "minismt.texts" 1097),none,(.ref 759),.none,0⟩),#[]⟩) ::
(nat_lit 761,⟨(.type "tuple"),none,(.seq #[] 0),#[]⟩) ::
(nat_lit 763,⟨(.type "tuple"),none,(.seq #[(.str "bank" 1177),(.str "t" 1178),(.str "order" 1179),(.str "uses" 1180),(.str "taken" 1181),(.str "shown" 1182),(.str "lets" 1183),(.str "many" 1184),(.str "part" 1185),(.str "text" 1186),(.str "name" 1187)] 0),#[]⟩) ::
(nat_lit 764,⟨(.type "tuple"),none,(.seq #[] 0),#[]⟩) ::
(nat_lit 766,⟨(.type "code"),none,(.fields #[(.str "term_text" 1174),(.str "term_text" 1175),(.str "/claim/cut.py" 1176),(.int 420 0),(.int 2 0),(.int 0 0),(.int 0 0),(.int 3 0),(.ref 761),(.bool true),(.int 181 0),(.ref 762),.none,(.ref 763),(.ref 764),(.ref 765),(.int 1188 0),(.int 420 0),(.str "/claim/cut.py" 1189)]),#[]⟩) ::
(nat_lit 767,⟨(.type "function"),none,(.func ⟨"term_text","term_text",a767,(.stmts b767),c767,3,[],.none,.none,.none,(.str "minismt.texts" 1097),none,(.ref 766),.none,0⟩),#[]⟩) ::
(nat_lit 768,⟨(.type "tuple"),none,(.seq #[(.str "!" 1200),(.str "_" 1201),(.str "as" 1202),(.str "BINARY" 1203),(.str "DECIMAL" 1204),(.str "exists" 1205),(.str "forall" 1206),(.str "HEXADECIMAL" 1207),(.str "let" 1208),(.str "match" 1209),(.str "NUMERAL" 1210),(.str "par" 1211),(.str "STRING" 1212)] 0),#[]⟩) ::
(nat_lit 769,⟨(.type "tuple"),none,(.seq #[] 0),#[]⟩) ::
(nat_lit 771,⟨(.type "tuple"),none,(.seq #[(.str "name" 1217),(.str "sign" 1218)] 0),#[]⟩) ::
(nat_lit 772,⟨(.type "tuple"),none,(.seq #[] 0),#[]⟩) ::
(nat_lit 774,⟨(.type "code"),none,(.fields #[(.str "is_simple" 1214),(.str "is_simple" 1215),(.str "/claim/cut.py" 1216),(.int 437 0),(.int 1 0),(.int 0 0),(.int 0 0),(.int 3 0),(.ref 769),(.bool true),(.int 181 0),(.ref 770),.none,(.ref 771),(.ref 772),(.ref 773),(.int 1219 0),(.int 437 0),(.str "/claim/cut.py" 1220)]),#[]⟩) ::
(nat_lit 775,⟨(.type "function"),none,(.func ⟨"is_simple","is_simple",a775,(.stmts b775),c775,3,[],.none,.none,.none,(.str "minismt.texts" 1097),none,(.ref 774),.none,0⟩),#[]⟩) ::
(nat_lit 776,⟨(.type "tuple"),none,(.seq #[] 0),#[]⟩) ::
(nat_lit 778,⟨(.type "tuple"),none,(.seq #[(.str "name" 1225)] 0),#[]⟩) ::
(nat_lit 779,⟨(.type "tuple"),none,(.seq #[] 0),#[]⟩) ::
(nat_lit 781,⟨(.type "code"),none,(.fields #[(.str "symbol_text" 1222),(.str "symbol_text" 1223),(.str "/claim/cut.py" 1224),(.int 444 0),(.int 1 0),(.int 0 0),(.int 0 0),(.int 3 0),(.ref 776),(.bool true),(.int 181 0),(.ref 777),.none,(.ref 778),(.ref 779),(.ref 780),(.int 1226 0),(.int 444 0),(.str "/claim/cut.py" 1227)]),#[]⟩) ::
(nat_lit 782,⟨(.type "function"),none,(.func ⟨"symbol_text","symbol_text",a782,(.stmts b782),c782,3,[],.none,.none,.none,(.str "minismt.texts" 1097),none,(.ref 781),.none,0⟩),#[]⟩) ::
(nat_lit 783,⟨(.type "tuple"),none,(.seq #[] 0),#[]⟩) ::
(nat_lit 785,⟨(.type "tuple"),none,(.seq #[(.str "value" 1232),(.str "width" 1233),(.str "digits" 1234),(.str "place" 1235)] 0),#[]⟩) ::
(nat_lit 786,⟨(.type "tuple"),none,(.seq #[] 0),#[]⟩) ::
(nat_lit 788,⟨(.type "code"),none,(.fields #[(.str "bits_text" 1229),(.str "bits_text" 1230),(.str "/claim/cut.py" 1231),(.int 452 0),(.int 2 0),(.int 0 0),(.int 0 0),(.int 3 0),(.ref 783),(.bool true),(.int 181 0),(.ref 784),.none,(.ref 785),(.ref 786),(.ref 787),(.int 1236 0),(.int 452 0),(.str "/claim/cut.py" 1237)]),#[]⟩) ::
(nat_lit 789,⟨(.type "function"),none,(.func ⟨"bits_text","bits_text",a789,(.stmts b789),c789,3,[],.none,.none,.none,(.str "minismt.texts" 1097),none,(.ref 788),.none,0⟩),#[]⟩) ::
(nat_lit 790,⟨(.type "tuple"),none,(.seq #[(.str "a" 1241),(.str "a" 1242)] 0),#[]⟩) ::
(nat_lit 791,⟨(.type "tuple"),none,(.seq #[(.str "A-1" 1243),(.str "A-1" 1244)] 0),#[]⟩) ::
(nat_lit 792,⟨(.type "tuple"),none,(.seq #[(.str "<=" 1245),(.str "<=" 1246)] 0),#[]⟩) ::
(nat_lit 793,⟨(.type "tuple"),none,(.seq #[(.str "b c" 1247),(.str "|b c|" 1248)] 0),#[]⟩) ::
(nat_lit 794,⟨(.type "tuple"),none,(.seq #[(.str "" 1249),(.str "||" 1250)] 0),#[]⟩) ::
(nat_lit 795,⟨(.type "tuple"),none,(.seq #[(.str "let" 1251),(.str "let" 1252)] 0),#[]⟩) ::
(nat_lit 796,⟨(.type "tuple"),none,(.seq #[(.str "|let|" 1253),(.str "|let|" 1254)] 0),#[]⟩) ::
(nat_lit 797,⟨(.type "tuple"),none,(.seq #[(.str "7" 1255),(.str "|7|" 1256)] 0),#[]⟩) ::
(nat_lit 798,⟨(.type "tuple"),none,(.seq #[(.str "é" 1257),(.str "|é|" 1258)] 0),#[]⟩) ::
(nat_lit 799,⟨(.type "tuple"),none,(.seq #[(.str ":k" 1259),(.str "|:k|" 1260)] 0),#[]⟩) ::
(nat_lit 800,⟨(.type "tuple"),none,(.seq #[(.str "x|y" 1261),.none] 0),#[]⟩) ::
(nat_lit 801,⟨(.type "tuple"),none,(.seq #[(.str "p\\q" 1262),.none] 0),#[]⟩) ::
(nat_lit 802,⟨(.type "tuple"),none,(.seq #[(.str "|a|" 1263),.none] 0),#[]⟩) ::
(nat_lit 803,⟨(.type "tuple"),none,(.seq #[(.ref 790),(.ref 791),(.ref 792),(.ref 793),(.ref 794),(.ref 795),(.ref 796),(.ref 797),(.ref 798),(.ref 799),(.ref 800),(.ref 801),(.ref 802)] 0),#[]⟩) ::
(nat_lit 804,⟨(.type "tuple"),none,(.seq #[] 0),#[]⟩) ::
(nat_lit 806,⟨(.type "tuple"),none,(.seq #[(.str "bin_here" 1268),(.str "many" 1269),(.str "at" 1270)] 0),#[]⟩) ::
(nat_lit 807,⟨(.type "tuple"),none,(.seq #[] 0),#[]⟩) ::
(nat_lit 809,⟨(.type "code"),none,(.fields #[(.str "_law_scoop" 1265),(.str "_law_scoop" 1266),(.str "/claim/cut.py" 1267),(.int 459 0),(.int 2 0),(.int 0 0),(.int 0 0),(.int 3 0),(.ref 804),(.bool true),(.int 181 0),(.ref 805),.none,(.ref 806),(.ref 807),(.ref 808),(.int 1271 0),(.int 459 0),(.str "/claim/cut.py" 1272)]),#[]⟩) ::
(nat_lit 810,⟨(.type "function"),none,(.func ⟨"_law_scoop","_law_scoop",a810,(.stmts b810),c810,3,[],.none,.none,.none,(.str "law_rg0213_01" 1239),none,(.ref 809),.none,0⟩),#[]⟩) ::
(nat_lit 811,⟨(.type "tuple"),none,(.seq #[] 0),#[]⟩) ::
(nat_lit 813,⟨(.type "tuple"),none,(.seq #[(.str "bin_here" 1277),(.str "is_real" 1278),(.str "way" 1279),(.str "top" 1280),(.str "bottom" 1281)] 0),#[]⟩) ::
(nat_lit 814,⟨(.type "tuple"),none,(.seq #[] 0),#[]⟩) ::
(nat_lit 816,⟨(.type "code"),none,(.fields #[(.str "_law_value" 1274),(.str "_law_value" 1275),(.str "/claim/cut.py" 1276),(.int 463 0),(.int 2 0),(.int 0 0),(.int 0 0),(.int 3 0),(.ref 811),(.bool true),(.int 181 0),(.ref 812),.none,(.ref 813),(.ref 814),(.ref 815),(.int 1282 0),(.int 463 0),(.str "/claim/cut.py" 1283)]),#[]⟩) ::
(nat_lit 817,⟨(.type "function"),none,(.func ⟨"_law_value","_law_value",a817,(.stmts b817),c817,3,[],.none,.none,.none,(.str "law_rg0213_01" 1239),none,(.ref 816),.none,0⟩),#[]⟩) ::
(nat_lit 818,⟨(.type "tuple"),none,(.seq #[] 0),#[]⟩) ::
(nat_lit 820,⟨(.type "tuple"),none,(.seq #[(.str "bin_here" 1288),(.str "bank" 1289),(.str "constants" 1290),(.str "way" 1291),(.str "value" 1292),(.str "wide" 1293),(.str "is_true" 1294),(.str "name" 1295),(.str "text" 1296)] 0),#[]⟩) ::
(nat_lit 821,⟨(.type "tuple"),none,(.seq #[] 0),#[]⟩) ::
(nat_lit 823,⟨(.type "code"),none,(.fields #[(.str "_law_leaf" 1285),(.str "_law_leaf" 1286),(.str "/claim/cut.py" 1287),(.int 470 0),(.int 3 0),(.int 0 0),(.int 0 0),(.int 3 0),(.ref 818),(.bool true),(.int 181 0),(.ref 819),.none,(.ref 820),(.ref 821),(.ref 822),(.int 1297 0),(.int 470 0),(.str "/claim/cut.py" 1298)]),#[]⟩) ::
(nat_lit 824,⟨(.type "function"),none,(.func ⟨"_law_leaf","_law_leaf",a824,(.stmts b824),c824,3,[],.none,.none,.none,(.str "law_rg0213_01" 1239),none,(.ref 823),.none,0⟩),#[]⟩) ::
(nat_lit 825,⟨(.type "tuple"),none,(.seq #[] 0),#[]⟩) ::
(nat_lit 827,⟨(.type "tuple"),none,(.seq #[(.str "text" 1303),(.str "found" 1304),(.str "k" 1305)] 0),#[]⟩) ::
(nat_lit 828,⟨(.type "tuple"),none,(.seq #[] 0),#[]⟩) ::
(nat_lit 830,⟨(.type "code"),none,(.fields #[(.str "_law_figures" 1300),(.str "_law_figures" 1301),(.str "/claim/cut.py" 1302),(.int 486 0),(.int 1 0),(.int 0 0),(.int 0 0),(.int 3 0),(.ref 825),(.bool true),(.int 181 0),(.ref 826),.none,(.ref 827),(.ref 828),(.ref 829),(.int 1306 0),(.int 486 0),(.str "/claim/cut.py" 1307)]),#[]⟩) ::
(nat_lit 831,⟨(.type "function"),none,(.func ⟨"_law_figures","_law_figures",a831,(.stmts b831),c831,3,[],.none,.none,.none,(.str "law_rg0213_01" 1239),none,(.ref 830),.none,0⟩),#[]⟩) ::
(nat_lit 832,⟨(.type "tuple"),none,(.seq #[] 0),#[]⟩) ::
(nat_lit 835,⟨(.type "code"),none,(.fields #[(.str "_law_number" 1309),(.str "_law_number" 1310),(.str "/claim/cut.py" 1311),(.int 493 0),(.int 1 0),(.int 0 0),(.int 0 0),(.int 3 0),(.ref 832),(.bool true),(.int 181 0),(.ref 833),.none,.none,.none,(.ref 834),(.int 1312 0),(.int 493 0),(.str "/claim/cut.py" 1313)]),#[]⟩) ::
(nat_lit 836,⟨(.type "function"),none,(.func ⟨"_law_number","_law_number",a836,(.stmts b836),c836,3,[],.none,.none,.none,(.str "law_rg0213_01" 1239),none,(.ref 835),.none,0⟩),#[]⟩) ::
(nat_lit 837,⟨(.type "tuple"),none,(.seq #[] 0),#[]⟩) ::
(nat_lit 839,⟨(.type "tuple"),none,(.seq #[(.str "text" 1318),(.str "due" 1319)] 0),#[]⟩) ::
(nat_lit 840,⟨(.type "tuple"),none,(.seq #[] 0),#[]⟩) ::
(nat_lit 842,⟨(.type "code"),none,(.fields #[(.str "_law_is_due" 1315),(.str "_law_is_due" 1316),(.str "/claim/cut.py" 1317),(.int 505 0),(.int 2 0),(.int 0 0),(.int 0 0),(.int 3 0),(.ref 837),(.bool true),(.int 181 0),(.ref 838),.none,(.ref 839),(.ref 840),(.ref 841),(.int 1320 0),(.int 505 0),(.str "/claim/cut.py" 1321)]),#[]⟩) ::
(nat_lit 843,⟨(.type "function"),none,(.func ⟨"_law_is_due","_law_is_due",a843,(.stmts b843),c843,3,[],.none,.none,.none,(.str "law_rg0213_01" 1239),none,(.ref 842),.none,0⟩),#[]⟩) ::
(nat_lit 844,⟨(.type "tuple"),none,(.seq #[] 0),#[]⟩) ::
(nat_lit 846,⟨(.type "tuple"),none,(.seq #[(.str "bank" 1326),(.str "t" 1327),(.str "way" 1328),(.str "fault" 1329)] 0),#[]⟩) ::
(nat_lit 847,⟨(.type "tuple"),none,(.seq #[] 0),#[]⟩) ::
(nat_lit 849,⟨(.type "code"),none,(.fields #[(.str "_law_is_refused" 1323),(.str "_law_is_refused" 1324),(.str "/claim/cut.py" 1325),(.int 511 0),(.int 3 0),(.int 0 0),(.int 0 0),(.int 3 0),(.ref 844),(.bool true),(.int 181 0),(.ref 845),.none,(.ref 846),(.ref 847),(.ref 848),(.int 1330 0),(.int 511 0),(.str "/claim/cut.py" 1331)]),#[]⟩) ::
(nat_lit 850,⟨(.type "function"),none,(.func ⟨"_law_is_refused","_law_is_refused",a850,(.stmts b850),c850,3,[],.none,.none,.none,(.str "law_rg0213_01" 1239),none,(.ref 849),.none,0⟩),#[]⟩) ::
(nat_lit 851,⟨(.type "tuple"),none,(.seq #[] 0),#[]⟩) ::
(nat_lit 854,⟨(.type "code"),none,(.fields #[(.str "law" 1333),(.str "law" 1334),(.str "/claim/cut.py" 1335),(.int 522 0),(.int 1 0),(.int 0 0),(.int 0 0),(.int 3 0),(.ref 851),(.bool true),(.int 181 0),(.ref 852),.none,.none,.none,(.ref 853),(.int 1336 0),(.int 522 0),(.str "/claim/cut.py" 1337)]),#[]⟩) ::
(nat_lit 855,⟨(.type "function"),none,(.func ⟨"law","law",a855,(.stmts b855),c855,3,[],.none,.none,.none,(.str "law_rg0213_01" 1239),none,(.ref 854),.none,0⟩),#[]⟩) :: []
noncomputable abbrev pw : Program := PySem.Challenge.pw_rg0213_01
noncomputable def view : Program := PySem.W.view pw [56]
noncomputable def loose : List Str := [Str.ofString "_wall", Str.ofString "SmtError", Str.ofString "SyntaxFault", Str.ofString "SortFault", Str.ofString "LimitFault", Str.ofString "BLOCK", Str.ofString "ROUND", Str.ofString "gcd_of", Str.ofString "ratio", Str.ofString "mul", Str.ofString "is_whole", Str.ofString "signed_text", Str.ofString "figures_of", Str.ofString "ratio_text", Str.ofString "real_text", Str.ofString "BOOL", Str.ofString "INT", Str.ofString "REAL", Str.ofString "WIDEST", Str.ofString "MOST_BITS", Str.ofString "Bank", Str.ofString "BoolBank", Str.ofString "want_small", Str.ofString "NumberBank", Str.ofString "TermBank", Str.ofString "PLACED", Str.ofString "places_text", Str.ofString "number_text_of", Str.ofString "leaf_text", Str.ofString "head_text", Str.ofString "own_text", Str.ofString "uses_of", Str.ofString "names_in", Str.ofString "free_name", Str.ofString "term_text", Str.ofString "DIGITS", Str.ofString "LETTERS", Str.ofString "MARKS", Str.ofString "SIMPLE", Str.ofString "RESERVED", Str.ofString "is_simple", Str.ofString "symbol_text", Str.ofString "bits_text", Str.ofString "_law_names", Str.ofString "_law_scoop", Str.ofString "_law_value", Str.ofString "_law_leaf", Str.ofString "_law_figures", Str.ofString "_law_number", Str.ofString "_law_is_due", Str.ofString "_law_is_refused"]
theorem fill : PySem.Challenge.rw_rg0213_01 = PySem.Challenge.rw_rg0213_01 ∧ heap = heap := by k_fill; exact ⟨rfl, rfl⟩
end Mine
end
/- HdB -/
section
open PySem PySem.W PyProof.Rows PySem.Calls PySem.Spec
namespace Mine
set_option maxRecDepth 100000
set_option maxHeartbeats 8000000
noncomputable def runT (ok : Nat → Option Value → Thread → Bool) (go : SharedT → Thread → Option (SharedT × Thread)) (n₀ : Nat) (ann : Option Value) : Nat → SharedT → Thread → Option SharedT
  | 0, _, _ => none
  | n + 1, s, t => match through t with
    | true => some s
    | false => match ok n₀ ann t with
      | false => none
      | true => match go s t with
        | some (s', t') => runT ok go n₀ ann n s' t'
        | none => none
theorem runT_of {tb : String → Option Builtin} {p : Program} {w : World} {n₀ : Nat} {ann : Option Value} : ∀ {n : Nat} {s r : SharedT} {t : Thread}, runT stepOk (stepT (denote tb) p w) n₀ ann n s t = some r → topRun tb p w n₀ ann n s.abs t = some r.abs
  | 0, _, _, _, h => by cases h
  | n + 1, s, r, t, h => by
    unfold runT at h
    unfold topRun
    cases he : through t with
    | true => rw [he] at h; cases h; rfl
    | false =>
      rw [he] at h
      cases hk : stepOk n₀ ann t with
      | false => rw [hk] at h; cases h
      | true =>
        rw [hk] at h
        cases hs : stepT (denote tb) p w s t with
        | none => rw [hs] at h; cases h
        | some r' => obtain ⟨s₂, t₂⟩ := r'; rw [hs] at h; rw [stepT_spec hs]; exact runT_of h
noncomputable def addrs : List Addr := [2, 3, 22, 25, 30, 31, 33, 34, 36, 37, 45, 46, 47, 48, 51, 54, 59, 60, 62, 63, 65, 66, 74, 75, 76, 79, 93, 94, 95, 98, 112, 113, 114, 138, 140, 141, 143, 144, 145, 147, 148, 150, 151, 152, 154, 155, 157, 158, 159, 161, 162, 164, 165, 166, 168, 169, 171, 172, 180, 182, 183, 185, 186, 208, 210, 211, 213, 214, 222, 224, 225, 227, 228, 236, 238, 239, 241, 242, 243, 245, 246, 248, 249, 271, 273, 274, 276, 277, 278, 280, 281, 283, 284, 285, 287, 288, 290, 291, 292, 294, 295, 297, 298, 299, 301, 302, 304, 305, 313, 315, 316, 318, 319, 362, 364, 365, 367, 368, 369, 371, 372, 374, 375, 376, 378, 379, 381, 382, 383, 384, 385, 386, 387, 390, 488, 489, 490, 493, 495, 496, 498, 499, 500, 507, 509, 510, 512, 513, 584, 585, 586, 589, 592, 597, 598, 600, 601, 603, 604, 605, 607, 608, 610, 611, 626, 628, 629, 631, 632, 703, 704, 705, 708, 714, 716, 717, 719, 720, 721, 723, 724, 726, 727, 728, 730, 731, 733, 734, 735, 738, 739, 740, 742, 743, 745, 746, 747, 749, 750, 752, 753, 754, 756, 757, 759, 760, 761, 763, 764, 766, 767, 768, 769, 771, 772, 774, 775, 776, 778, 779, 781, 782, 783, 785, 786, 788, 789, 790, 791, 792, 793, 794, 795, 796, 797, 798, 799, 800, 801, 802, 803, 804, 806, 807, 809, 810, 811, 813, 814, 816, 817, 818, 820, 821, 823, 824, 825, 827, 828, 830, 831, 832, 835, 836, 837, 839, 840, 842, 843, 844, 846, 847, 849, 850, 851, 854, 855]
theorem addrs_eq (P : Params) : addrs = (heap P).map (·.1) := rfl
noncomputable def hook : Hook := kHook heap addrs addrs_eq
noncomputable def boot (P : Params) : BT := (.node (boot_o_0 P) (.node (boot_o_1 P) (.node (boot_o_3 P) (.node (boot_o_7 P) .nil .nil) .nil) (.node (boot_o_5 P) (.node (boot_o_9 P) .nil .nil) .nil)) (.node (boot_o_2 P) (.node (boot_o_4 P) (.node (boot_o_8 P) .nil .nil) .nil) (.node (boot_o_6 P) (.node (boot_o_10 P) .nil .nil) .nil)))
theorem boot_eq (P : Params) : absHeap (boot P) 11 {} = boot_heap P := rfl
abbrev rw1 : OpenRow := PySem.Challenge.rw_rg0213_01.row
noncomputable def xt : Shared → Bool := fun s => xlAt view [] s && recOk (RowW.records rw1.toRowW) s
noncomputable def go (w : World) : SharedT → Thread → Option (SharedT × Thread) := PySem.W.Fast.tw10156331382660048174 (PySem.W.Fast.tw11892475500146522536 PySem.W.Fast.tw14364793385576792824) pw w
noncomputable def ran (w : World) (os : OsState) : Option SharedT := runT PySem.W.Fast.tw6613529449190102663 (go w) 11 (some (.ref 6)) 6000 ⟨boot w.params, 11, {}, #[], boot_drawn, boot_toks, os⟩ (topStub pw)
noncomputable def mods : List Str := importedModules pw.main.body

theorem run_all : ∀ w : World, (fun os => (ran w os).map fun r => ((staticsOk mods (boot_heap w.params) r.abs.heap && namesBound pw r.abs.heap && gensDone r.abs && laidKept (boot_heap w.params) r.abs.heap), PySem.W.Fast.tw4187177175401517315 view loose mods xt true r.abs, hook.obs r.abs)) = fun _ => some (true, openGood view loose, hook.val w) := fun w => by kernel_rfl
theorem boot_size : ∀ w : World, ((boot_heap w.params).isNs mainGlobals && (#[] : Array GenState).size == 0, (boot_heap w.params).objs.size, (boot_heap w.params).nsMap mainGlobals "__annotations__") = (true, 11, some (.ref 6)) := fun w => by kernel_rfl
theorem opens : opening pw = plainProg pw.main.scope.names := by kernel_rfl
theorem fences : ∀ s, fenceModules? pw s = some s := fun s => by kernel_rfl
theorem ran_is (w : World) (os : OsState) : ran w os = runT stepOk (stepT (denote treeTable) pw w) 11 (some (.ref 6)) 6000 ⟨boot w.params, 11, {}, #[], boot_drawn, boot_toks, os⟩ (topStub pw) := by
  unfold ran go
  rw [← PySem.W.Fast.te6613529449190102663, ← PySem.W.Fast.te10156331382660048174, ← PySem.W.Fast.te11892475500146522536, ← PySem.W.Fast.te14364793385576792824]
theorem left_of {p q : Program} {loose mods : List Str} {Xt : Shared → Bool} {α : Type} {Yf : Shared → α} {Ya : World → α} {N m₀ n : Nat} {ann : Option Value} {T₀ : Params → BT} {life : Life} {H₀ : Params → Heap} {gs₀ : Array GenState} {d₀ : Drawn} {k₀ : Nat} (hm : importedModules p.main.body = mods)
    (open_ : ∀ w : World, (fencedOpening treeTable p w N).map (fun s => (s.heap, s.gens, s.drawn, s.toks)) = some (H₀ w.params, gs₀, d₀, k₀))
    (size : ∀ w : World, ((H₀ w.params).isNs mainGlobals && gs₀.size == 0, (H₀ w.params).objs.size, (H₀ w.params).nsMap mainGlobals "__annotations__") = (true, m₀, ann))
    (h0 : ∀ P, absHeap (T₀ P) n life = H₀ P)
    (run : ∀ (w : World), (fun os => (runT stepOk (stepT (denote treeTable) p w) m₀ ann N ⟨T₀ w.params, n, life, gs₀, d₀, k₀, os⟩ (topStub p)).map fun r =>
      ((staticsOk mods (H₀ w.params) r.abs.heap && namesBound p r.abs.heap && gensDone r.abs && laidKept (H₀ w.params) r.abs.heap), openSeen q loose mods Xt true r.abs, Yf r.abs)) = fun _ => some (true, openGood q loose, Ya w)) : LeftO p q loose Xt Yf Ya N := fun w => by
  subst hm
  (refine Mine.ex1 (Option.map_eq_some_iff.mp (open_ w)) fun on0 om0 => Mine.an2 om0 fun e e' => ?_; clear om0; obtain ⟨h, gs, d, k, os⟩ := on0)
  obtain ⟨rfl, rfl, rfl, rfl⟩ : h = H₀ w.params ∧ gs = gs₀ ∧ d = d₀ ∧ k = k₀ := by simpa using e'
  obtain ⟨z1, z2, z3⟩ : _ ∧ _ ∧ _ := by simpa only [Prod.mk.injEq] using size w
  (refine Mine.ex1 (Option.map_eq_some_iff.mp (congrFun (run w) os)) fun r om0 => Mine.an2 om0 fun hr l => ?_; clear om0)
  obtain ⟨l1, l2, l3⟩ : _ ∧ _ ∧ _ := by simpa only [Prod.mk.injEq] using l
  have q := runT_of hr
  have ab : SharedT.abs ⟨T₀ w.params, n, life, gs, d, k, os⟩ = ⟨H₀ w.params, gs, d, k, os⟩ := by
    unfold SharedT.abs
    rw [← h0]
  rw [ab] at q
  have t : topFrom treeTable p w N ⟨H₀ w.params, gs, d, k, os⟩ = some r.abs := by
    unfold topFrom
    dsimp only
    rw [z1, z2, z3, q]
    show (match staticsOk (importedModules p.main.body) (H₀ w.params) r.abs.heap && namesBound p r.abs.heap && gensDone r.abs && laidKept (H₀ w.params) r.abs.heap with | true => _ | false => _) = _
    rw [l1]
  unfold openEnds
  rw [e]
  show (topFrom treeTable p w N _).map _ = _
  rw [t]
  exact congrArg some (Prod.ext l2 l3)
theorem run_is : ∀ w : World, (fun os => (runT stepOk (stepT (denote treeTable) pw w) 11 (some (.ref 6)) 6000 ⟨boot w.params, 11, {}, #[], boot_drawn, boot_toks, os⟩ (topStub pw)).map fun r =>
      ((staticsOk mods (boot_heap w.params) r.abs.heap && namesBound pw r.abs.heap && gensDone r.abs && laidKept (boot_heap w.params) r.abs.heap), openSeen view loose mods xt true r.abs, hook.obs r.abs)) = fun _ => some (true, openGood view loose, hook.val w) := fun w => by
  have e := run_all w
  unfold ran go at e
  rw [← PySem.W.Fast.te6613529449190102663, ← PySem.W.Fast.te10156331382660048174, ← PySem.W.Fast.te11892475500146522536, ← PySem.W.Fast.te14364793385576792824, ← PySem.W.Fast.te4187177175401517315] at e
  exact e
theorem left : LeftO pw view loose xt hook.obs hook.val 6000 := left_of rfl (boot_open (p := pw) (N := 6000) opens rfl fences) boot_size boot_eq run_is
theorem said : OpenLaw.wellSaid PySem.Challenge.rw_rg0213_01 = true := (congrFun PySem.W.Fast.te9446332074065402090 _).trans (by kernel_rfl)
end Mine
end
/- Base -/
section
open PySem PySem.W PyProof.Rows PySem.Calls PySem.Spec
namespace Mine
set_option maxRecDepth 100000

noncomputable def Stay (foot : List (Addr × Obj)) (h h' : Heap) (tl : List (Addr × Obj)) : Prop :=
  ∀ b o, h.get? b = some o → (∀ p ∈ foot, p.1 ≠ b) → h'.get? b = some o ∧ ∀ p ∈ tl, p.1 ≠ b

noncomputable def Runs (prog : Program) (w : World) (n : Nat) (f : Addr) (vs : List Value) (news : List (Addr × Obj)) (Ret : Value → List (Addr × Obj) → Prop) : Prop :=
  ∀ (mean : ExcName → Option Value) (mg mb : Str → Option Value) (dp un : Nat) (gd : Option (List Code)) (cn : Str) (cs : Scope) (a : Addr) (ccd : Value) (cl : List (Str × Addr)) (outer : List Env) (A₀ : Around) (base h₀ : Heap) (L : Addr) (m : Str → Option Value) (s : Shared)
    (Q E : Value → Shared → Prop),
    Below A₀ base outer h₀ → Fr h₀ L s.heap m → (Mine.heap w.params).In h₀ → News h₀ L s.heap news → Top Mine.view (looseW Mine.view Mine.loose) mean mg mb h₀ → cs.kind = .function →
    dp + n < recursionLimit → un + 8 * n < cLine →
    (∀ r tl h' tk', Fr h₀ L h' m → News h₀ L h' tl → Stay news s.heap h' tl → Ret r tl → Q r { s with heap := h', toks := tk' }) →
    wpAny (model prog w) (ktrTop dp un gd cn cs L a ccd cl outer) (call (.ref f) vs) Q E s

theorem Runs.useR {prog : Program} {w : World} {n : Nat} {f : Addr} {vs : List Value} {foot other news : List (Addr × Obj)} {Ret : Value → List (Addr × Obj) → Prop} (C : Runs prog w n f vs foot Ret)
    {mean : ExcName → Option Value} {mg mb : Str → Option Value} {dp un : Nat} {gd : Option (List Code)} {cn : Str} {cs : Scope} {a : Addr} {ccd : Value} {cl : List (Str × Addr)} {outer : List Env} {A₀ : Around} {base h₀ : Heap} {L : Addr} {m : Str → Option Value} {hp0 : Heap} {gs0 : Array GenState} {dr0 : Drawn} {tk0 : Nat} {os0 : OsState}
    {Q E : Value → Shared → Prop} (B : Below A₀ base outer h₀) (F : Fr h₀ L hp0 m) (X : (Mine.heap w.params).In h₀) (N : News h₀ L hp0 news)
    (T : Top Mine.view (looseW Mine.view Mine.loose) mean mg mb h₀) (hk : cs.kind = .function)
    (hd : dp + n < recursionLimit) (hu : un + 8 * n < cLine) (hf : ∀ p ∈ foot, p ∈ news) (ho : ∀ p ∈ other, p ∈ news ∧ ∀ q ∈ foot, q.1 ≠ p.1)
    (ret : ∀ r tl h' tk', Fr h₀ L h' m → News h₀ L h' (tl ++ other) → (∀ p ∈ tl, ∀ q ∈ other, p.1 ≠ q.1) → Ret r tl → Q r ⟨h', gs0, dr0, tk', os0⟩) :
    wpAny (model prog w) (ktrTop dp un gd cn cs L a ccd cl outer) (call (.ref f) vs) Q E ⟨hp0, gs0, dr0, tk0, os0⟩ :=
  C _ _ _ _ _ _ _ _ _ _ _ _ _ _ _ _ _ _ _ _ B F X (fun p hp => N p (hf p hp)) T hk hd hu fun r tl h' tk' F' N' S' R' =>
    ret r tl h' tk' F' (fun p hp => by
      rcases List.mem_append.mp hp with hp | hp
      · exact N' p hp
      · exact ⟨(S' _ _ (N p (ho p hp).1).1 (ho p hp).2).1, (N p (ho p hp).1).2⟩)
      (fun p hp q hq => (S' _ _ (N q (ho q hq).1).1 (ho q hq).2).2 p hp) R'

noncomputable def ConEnd (Ret : Value → List (Addr × Obj) → Prop) (v : Value) (news : List (Addr × Obj)) : Prop := ∃ tl, Ret v tl ∧ ∀ p ∈ tl, p ∈ news

noncomputable def Grows (foot : List (Addr × Obj)) (h g : Heap) : Prop := ∀ b o, h.get? b = some o → (∀ p ∈ foot, p.1 ≠ b) → g.get? b = some o

theorem leave_con {h₀ g : Heap} {L L' : Addr} {m m' : Str → Option Value} {hp : Heap} {gs : Array GenState} {dr : Drawn} {os : OsState} {s' : Shared} {foot news' : List (Addr × Obj)} {Ret : Value → List (Addr × Obj) → Prop} {v : Value} {Q E : Value → Shared → Prop}
    (hret : ∀ r tl h' tk', Fr h₀ L h' m → News h₀ L h' tl → Stay foot hp h' tl → Ret r tl → Q r ⟨h', gs, dr, tk', os⟩)
    (S : Grows foot hp g) (F' : Fr g L' s'.heap m') (N' : News g L' s'.heap news') (hs' : s' = ⟨s'.heap, gs, dr, s'.toks, os⟩) (e : ConEnd Ret v news') :
    LeaveK h₀ L m g (fun r s' => match r with | .ok (.ret v) => Q v s' | .ok _ => False | .error e => E e s') v s' := by
  (refine Mine.ex1 e fun tl om0 => Mine.an2 om0 fun hR hs => ?_; clear om0; (try clear e))
  have N2 : News g L' s'.heap tl := fun p hp => N' p (hs p hp)
  refine ⟨L', m', tl, F', N2, fun F N => ?_⟩
  have := hret v tl s'.heap s'.toks F N (fun b o e n => ⟨F'.keep b o (S b o e n), fun p hp q => by have := (N2 p hp).2.2; rw [q, S b o e n] at this; cases this⟩) hR
  rw [← hs'] at this
  exact this

section
variable {prog : Program} {w : World} {A A₀ : Around} {s : Shared} {K : Frag} {L : Addr} {h₀ base : Heap} {m mg mb : Str → Option Value} {news : List (Addr × Obj)} {p : Program} {loose : List Str} {mean : ExcName → Option Value}
theorem code_defS {hp0 : Heap} {gs0 : Array GenState} {dr0 : Drawn} {tk0 : Nat} {os0 : OsState} {env : Env} {outer : List Env} {R : Result → Shared → Prop} {name qual : Str} {params : Arguments} {body : List Stmt} {scope : Scope} {dV kV doc pm cdv ct oc : Value} {an od : Option Addr} {osl : Array (Option Value)} {f : Addr} {args : Args} {binds : List (Str × Value)}
    (B : Below A₀ base outer h₀) (F : Fr h₀ L hp0 m) (X₀ : K.In h₀) (N : News h₀ L hp0 news) (T : Top p loose mean mg mb h₀) (hA : A.frames = some (env :: outer)) (hf : env.frame = some L) (hke : env.scope.kind = .function)
    (ho : K.lookup f = some ⟨oc, od, .func (fnOf name qual params body scope dV kV doc pm an cdv ct), osl⟩) (hcd : codeIn K cdv qual = true) (hroom : A.depth < recursionLimit)
    (hbind : BindsTo ⟨hp0, gs0, dr0, tk0, os0⟩ (fnOf name qual params body scope dV kV doc pm an cdv ct) args binds) (hloc : ∀ y ∈ binds, scope.names.lookup y.1 = some .local)
    (h : ∀ g L' h₁ tk, Fr h₀ L g m → Fr g L' h₁ (fun y => binds.reverse.lookup y) → News g L' h₁ news → Below A base (env :: outer) g → K.In g → Top p loose mean mg mb g → Grows news hp0 g → hp0.objs.size ≤ L' →
      wpAny (model prog w) (A.deeper (envOf qual scope L' f cdv)) (execs body (envOf qual scope L' f cdv))
        (fun fl s' => LeaveK h₀ L m g R (match fl with | .ret v => v | _ => .none) s')
        (fun e s' => wpAny (model prog w) (A.deeper (envOf qual scope L' f cdv)) (leaving (envOf qual scope L' f cdv) e) (fun _ s'' => R (.error e) s'') (fun e' s'' => R (.error e') s'') s')
        ⟨h₁, gs0, dr0, tk, os0⟩)
    (hco : scope.isCoroutine = false) (hgen : scope.isGenerator = false) (hk : scope.kind = .function)
    (hcell : ∀ x ∈ scope.names, x.2 ≠ .cell) : codeAny (model prog w) A (.call (.ref f) args) R ⟨hp0, gs0, dr0, tk0, os0⟩ := by
  (refine Mine.an4 (groundX (R := R) (s := ⟨hp0, gs0, dr0, tk0, os0⟩) B F N hA hf hke) fun FG BG st lv => ?_)
  refine codeAny_call_def (fd := fnOf name qual params body scope dV kV doc pm an cdv ct) (body := body) (binds := binds) hroom ((X₀.keeps F.keep) _ _ ho) rfl (T.nolimit.keeps F.keep) (codeRec_of (X₀.keeps F.keep) hcd) rfl hbind hcell hloc (fun h₁ hns hk₁ => ?_) hco hgen hk
  exact wpAny_mono (h _ hp0.objs.size h₁ _ FG ⟨hns, fun b o e => hk₁ b o (of_hideAll _ e), Nat.le_of_eq (hideAll_size _ _)⟩
    (fun p hp => ⟨hk₁ _ _ (N p hp).1, Nat.ne_of_lt (Heap.lt_size (N p hp).1), hideAll_none _ (List.mem_map_of_mem hp)⟩) BG (X₀.keeps st) (T.keeps st)
      (fun b o e n => hideAll_get _ e fun q => by (refine Mine.ex1 (List.mem_map.mp q) fun p om0 => Mine.an2 om0 fun hp oq2 => ?_; clear om0; subst oq2); exact n p hp rfl) (Nat.le_refl _)) (fun fl s' hl => lv _ _ hl) fun _ _ y => y
theorem code_defE {hp0 : Heap} {gs0 : Array GenState} {dr0 : Drawn} {tk0 : Nat} {os0 : OsState} {env : Env} {outer : List Env} {R : Result → Shared → Prop} {name qual : Str} {params : Arguments} {body : List Stmt} {scope : Scope} {dV kV doc pm cdv ct oc : Value} {an od : Option Addr} {osl : Array (Option Value)} {f : Addr} {args : Args} {binds : List (Str × Value)}
    (B : Below A₀ base outer h₀) (F : Fr h₀ L hp0 m) (X₀ : K.In h₀) (N : News h₀ L hp0 news) (T : Top p loose mean mg mb h₀) (hA : A.frames = some (env :: outer)) (hf : env.frame = some L) (hke : env.scope.kind = .function)
    (ho : K.lookup f = some ⟨oc, od, .func (fnOf name qual params body scope dV kV doc pm an cdv ct), osl⟩) (hcd : codeIn K cdv qual = true) (hroom : A.depth < recursionLimit)
    (hbind : BindsTo ⟨hp0, gs0, dr0, tk0, os0⟩ (fnOf name qual params body scope dV kV doc pm an cdv ct) args binds) (hloc : ∀ y ∈ binds, scope.names.lookup y.1 = some .local)
    (h : ∀ g L' h₁ tk, Fr h₀ L g m → Fr g L' h₁ (fun y => binds.reverse.lookup y) → News g L' h₁ news → Below A base (env :: outer) g → K.In g → Top p loose mean mg mb g →
      wpAny (model prog w) (A.deeper (envOf qual scope L' f cdv)) (execs body (envOf qual scope L' f cdv))
        (fun fl s' => LeaveK h₀ L m g R (match fl with | .ret v => v | _ => .none) s')
        (fun e s' => wpAny (model prog w) (A.deeper (envOf qual scope L' f cdv)) (leaving (envOf qual scope L' f cdv) e) (fun _ s'' => R (.error e) s'') (fun e' s'' => R (.error e') s'') s')
        ⟨h₁, gs0, dr0, tk, os0⟩)
    (hco : scope.isCoroutine = false) (hgen : scope.isGenerator = false) (hk : scope.kind = .function)
    (hcell : ∀ x ∈ scope.names, x.2 ≠ .cell) : codeAny (model prog w) A (.call (.ref f) args) R ⟨hp0, gs0, dr0, tk0, os0⟩ :=
  code_defS B F X₀ N T hA hf hke ho hcd hroom hbind hloc (fun g L' h₁ tk a b c d e f _ _ => h g L' h₁ tk a b c d e f) hco hgen hk hcell
theorem code_defQ {hp0 : Heap} {gs0 : Array GenState} {dr0 : Drawn} {tk0 : Nat} {os0 : OsState} {env : Env} {outer : List Env} {Q E : Value → Shared → Prop} {name qual : Str} {params : Arguments} {body : List Stmt} {scope : Scope} {dV kV doc pm cdv ct oc : Value} {an od : Option Addr} {osl : Array (Option Value)} {f : Addr} {args : Args} {binds : List (Str × Value)}
    (B : Below A₀ base outer h₀) (F : Fr h₀ L hp0 m) (X₀ : K.In h₀) (N : News h₀ L hp0 news) (T : Top p loose mean mg mb h₀) (hA : A.frames = some (env :: outer)) (hf : env.frame = some L) (hke : env.scope.kind = .function)
    (ho : K.lookup f = some ⟨oc, od, .func (fnOf name qual params body scope dV kV doc pm an cdv ct), osl⟩) (hcd : codeIn K cdv qual = true) (hroom : A.depth < recursionLimit)
    (hbind : BindsTo ⟨hp0, gs0, dr0, tk0, os0⟩ (fnOf name qual params body scope dV kV doc pm an cdv ct) args binds) (hloc : ∀ y ∈ binds, scope.names.lookup y.1 = some .local)
    (h : ∀ g L' h₁ tk, Fr h₀ L g m → Fr g L' h₁ (fun y => binds.reverse.lookup y) → News g L' h₁ news → Below A base (env :: outer) g → K.In g → Top p loose mean mg mb g → Grows news hp0 g → hp0.objs.size ≤ L' →
      (let qk : Flow → Shared → Prop := fun fl s' => LeaveK h₀ L m g (fun r s' => match r with | .ok (.ret v) => Q v s' | .ok _ => False | .error e => E e s') (match fl with | .ret v => v | _ => .none) s'
      let ek : Value → Shared → Prop := fun e s' => wpAny (model prog w) (A.deeper (envOf qual scope L' f cdv)) (leaving (envOf qual scope L' f cdv) e) (fun _ s'' => E e s'') (fun e' s'' => E e' s'') s'
      wpAny (model prog w) (A.deeper (envOf qual scope L' f cdv)) (execs body (envOf qual scope L' f cdv)) qk ek ⟨h₁, gs0, dr0, tk, os0⟩))
    (hco : scope.isCoroutine = false) (hgen : scope.isGenerator = false) (hk : scope.kind = .function)
    (hcell : ∀ x ∈ scope.names, x.2 ≠ .cell) : codeAny (model prog w) A (.call (.ref f) args) (fun r s' => match r with | .ok (.ret v) => Q v s' | .ok _ => False | .error e => E e s') ⟨hp0, gs0, dr0, tk0, os0⟩ :=
  code_defS (R := (fun r s' => match r with | .ok (.ret v) => Q v s' | .ok _ => False | .error e => E e s')) B F X₀ N T hA hf hke ho hcd hroom hbind hloc h hco hgen hk hcell
theorem code_defEQ {hp0 : Heap} {gs0 : Array GenState} {dr0 : Drawn} {tk0 : Nat} {os0 : OsState} {env : Env} {outer : List Env} {Q E : Value → Shared → Prop} {name qual : Str} {params : Arguments} {body : List Stmt} {scope : Scope} {dV kV doc pm cdv ct oc : Value} {an od : Option Addr} {osl : Array (Option Value)} {f : Addr} {args : Args} {binds : List (Str × Value)}
    (B : Below A₀ base outer h₀) (F : Fr h₀ L hp0 m) (X₀ : K.In h₀) (N : News h₀ L hp0 news) (T : Top p loose mean mg mb h₀) (hA : A.frames = some (env :: outer)) (hf : env.frame = some L) (hke : env.scope.kind = .function)
    (ho : K.lookup f = some ⟨oc, od, .func (fnOf name qual params body scope dV kV doc pm an cdv ct), osl⟩) (hcd : codeIn K cdv qual = true) (hroom : A.depth < recursionLimit)
    (hbind : BindsTo ⟨hp0, gs0, dr0, tk0, os0⟩ (fnOf name qual params body scope dV kV doc pm an cdv ct) args binds) (hloc : ∀ y ∈ binds, scope.names.lookup y.1 = some .local)
    (h : ∀ g L' h₁ tk, Fr h₀ L g m → Fr g L' h₁ (fun y => binds.reverse.lookup y) → News g L' h₁ news → Below A base (env :: outer) g → K.In g → Top p loose mean mg mb g →
      (let qk : Flow → Shared → Prop := fun fl s' => LeaveK h₀ L m g (fun r s' => match r with | .ok (.ret v) => Q v s' | .ok _ => False | .error e => E e s') (match fl with | .ret v => v | _ => .none) s'
      let ek : Value → Shared → Prop := fun e s' => wpAny (model prog w) (A.deeper (envOf qual scope L' f cdv)) (leaving (envOf qual scope L' f cdv) e) (fun _ s'' => E e s'') (fun e' s'' => E e' s'') s'
      wpAny (model prog w) (A.deeper (envOf qual scope L' f cdv)) (execs body (envOf qual scope L' f cdv)) qk ek ⟨h₁, gs0, dr0, tk, os0⟩))
    (hco : scope.isCoroutine = false) (hgen : scope.isGenerator = false) (hk : scope.kind = .function)
    (hcell : ∀ x ∈ scope.names, x.2 ≠ .cell) : codeAny (model prog w) A (.call (.ref f) args) (fun r s' => match r with | .ok (.ret v) => Q v s' | .ok _ => False | .error e => E e s') ⟨hp0, gs0, dr0, tk0, os0⟩ :=
  code_defE (R := (fun r s' => match r with | .ok (.ret v) => Q v s' | .ok _ => False | .error e => E e s')) B F X₀ N T hA hf hke ho hcd hroom hbind hloc h hco hgen hk hcell
end

theorem ends_of {Ret : Value → List (Addr × Obj) → Prop} {v : Value} {tl news : List (Addr × Obj)} (h : Ret v tl) (hs : ∀ p ∈ tl, p ∈ news) : ConEnd Ret v news := ⟨tl, h, hs⟩
theorem stored_bin (x y v : Value) : stored [(Str.ofString "cells", x), (Str.ofString "at", y)] (Str.ofString "at") v = [(Str.ofString "cells", x), (Str.ofString "at", v)] := by
  have h : ¬ (Str.ofString "cells" = Str.ofString "at") := by decide +kernel
  simp [stored, h]
noncomputable def Below' (d : Addr) (l : List Addr) : Prop := ∀ a ∈ l, @LT.lt Nat _ a d
theorem below_of {d : Addr} {news : List (Addr × Obj)} (h : ∀ p ∈ news, @LT.lt Nat _ p.1 d) : Below' d (news.map (·.1)) := fun a ha => by
  (refine Mine.ex1 (List.mem_map.mp ha) fun p om0 => Mine.an2 om0 fun hp oq2 => ?_; clear om0; subst oq2)
  exact h p hp
theorem ne_below {a d : Addr} {l : List Addr} (h : Below' d l) (m : a ∈ l) : a ≠ d := Nat.ne_of_lt (h a m)
theorem lt_below {a d : Addr} {l : List Addr} (h : Below' d l) (m : a ∈ l) : @LT.lt Nat _ a d := h a m
theorem ne_above {a d : Addr} {l : List Addr} (h : Below' d l) (m : a ∈ l) : d ≠ a := Nat.ne_of_gt (h a m)
theorem all_below {d : Addr} {l : List Addr} {r : List (Addr × Obj)} (h : Below' d l) (e : r.map (·.1) = l) : ∀ p ∈ r, p.1 ≠ d := fun p hp => Nat.ne_of_lt (h _ (e ▸ List.mem_map_of_mem hp))
section
variable {prog : Program} {w : World} {A : Around} {E : Value → Shared → Prop} {hp0 h₀ : Heap} {gs0 : Array GenState} {dr0 : Drawn} {tk0 : Nat} {os0 : OsState} {L : Addr} {m : Str → Option Value} {news : List (Addr × Obj)} {addrs : List Addr} {vs : List Value} {Q : Value → Shared → Prop}
theorem newTupleS (F : Fr h₀ L hp0 m) (N : News h₀ L hp0 news) (e : news.map (·.1) = addrs) (hz : vs.length ≤ sizeLine)
    (h : ∀ D h', Below' D addrs → Fr h₀ L h' m → News h₀ L h' ((D, ({ cls := .type "tuple", data := .seq vs.toArray } : Obj)) :: news) → Q (.ref D) ⟨h', gs0, dr0, tk0, os0⟩) : wpAny (model prog w) A (newTuple vs) Q E ⟨hp0, gs0, dr0, tk0, os0⟩ :=
  kup_newTuple F N (fun D h' F' N' l => h D h' (e ▸ below_of l) F' N') hz
theorem newListS (F : Fr h₀ L hp0 m) (N : News h₀ L hp0 news) (e : news.map (·.1) = addrs) (hz : vs.length ≤ sizeLine)
    (h : ∀ D h', Below' D addrs → Fr h₀ L h' m → News h₀ L h' ((D, PySem.W.listOf vs.toArray 0) :: news) → Q (.ref D) ⟨h', gs0, dr0, tk0, os0⟩) : wpAny (model prog w) A (newList vs) Q E ⟨hp0, gs0, dr0, tk0, os0⟩ :=
  newList_K F N (fun D h' F' N' l => h D h' (e ▸ below_of l) F' N') hz
theorem newDictS {env : Env} {pos : Pos} (F : Fr h₀ L hp0 m) (N : News h₀ L hp0 news) (hbig : h₀.NoLimit) (e : news.map (·.1) = addrs)
    (h : ∀ d h' o, Below' d addrs → (d == sysModules) = false → o.IsDictOf (strKind prog w) [] → o.IsDictOf (intKind prog w) [] → Fr h₀ L h' m → News h₀ L h' ((d, o) :: news) → Q (.ref d) ⟨h', gs0, dr0, tk0, os0⟩) : wpAny (model prog w) A (eval (.Dict [] [] pos) env) Q E ⟨hp0, gs0, dr0, tk0, os0⟩ :=
  newDict_K F N hbig (fun d h' o F' N' l lo hs _ hi _ => h d h' o (e ▸ below_of l) lo hs hi F' N')
end
section
variable {α : Type} {x a b c d e f g h i j k l m n o p q s t u v w y : α} {r : List α}
theorem m0 : x ∈ x :: r := .head _
theorem m1 : x ∈ a :: x :: r := .tail _ m0
theorem m2 : x ∈ a :: b :: x :: r := .tail _ m1
theorem m3 : x ∈ a :: b :: c :: x :: r := .tail _ m2
theorem m4 : x ∈ a :: b :: c :: d :: x :: r := .tail _ m3
theorem m5 : x ∈ a :: b :: c :: d :: e :: x :: r := .tail _ m4
theorem m6 : x ∈ a :: b :: c :: d :: e :: f :: x :: r := .tail _ m5
theorem m7 : x ∈ a :: b :: c :: d :: e :: f :: g :: x :: r := .tail _ m6
theorem m8 : x ∈ a :: b :: c :: d :: e :: f :: g :: h :: x :: r := .tail _ m7
theorem m9 : x ∈ a :: b :: c :: d :: e :: f :: g :: h :: i :: x :: r := .tail _ m8
theorem m10 : x ∈ a :: b :: c :: d :: e :: f :: g :: h :: i :: j :: x :: r := .tail _ m9
theorem m11 : x ∈ a :: b :: c :: d :: e :: f :: g :: h :: i :: j :: k :: x :: r := .tail _ m10
theorem m12 : x ∈ a :: b :: c :: d :: e :: f :: g :: h :: i :: j :: k :: l :: x :: r := .tail _ m11
theorem m13 : x ∈ a :: b :: c :: d :: e :: f :: g :: h :: i :: j :: k :: l :: m :: x :: r := .tail _ m12
theorem m14 : x ∈ a :: b :: c :: d :: e :: f :: g :: h :: i :: j :: k :: l :: m :: n :: x :: r := .tail _ m13
theorem m15 : x ∈ a :: b :: c :: d :: e :: f :: g :: h :: i :: j :: k :: l :: m :: n :: o :: x :: r := .tail _ m14
theorem m16 : x ∈ a :: b :: c :: d :: e :: f :: g :: h :: i :: j :: k :: l :: m :: n :: o :: p :: x :: r := .tail _ m15
theorem m17 : x ∈ a :: b :: c :: d :: e :: f :: g :: h :: i :: j :: k :: l :: m :: n :: o :: p :: q :: x :: r := .tail _ m16
theorem m18 : x ∈ a :: b :: c :: d :: e :: f :: g :: h :: i :: j :: k :: l :: m :: n :: o :: p :: q :: s :: x :: r := .tail _ m17
theorem m19 : x ∈ a :: b :: c :: d :: e :: f :: g :: h :: i :: j :: k :: l :: m :: n :: o :: p :: q :: s :: t :: x :: r := .tail _ m18
theorem m20 : x ∈ a :: b :: c :: d :: e :: f :: g :: h :: i :: j :: k :: l :: m :: n :: o :: p :: q :: s :: t :: u :: x :: r := .tail _ m19
theorem m21 : x ∈ a :: b :: c :: d :: e :: f :: g :: h :: i :: j :: k :: l :: m :: n :: o :: p :: q :: s :: t :: u :: v :: x :: r := .tail _ m20
theorem m22 : x ∈ a :: b :: c :: d :: e :: f :: g :: h :: i :: j :: k :: l :: m :: n :: o :: p :: q :: s :: t :: u :: v :: w :: x :: r := .tail _ m21
theorem m23 : x ∈ a :: b :: c :: d :: e :: f :: g :: h :: i :: j :: k :: l :: m :: n :: o :: p :: q :: s :: t :: u :: v :: w :: y :: x :: r := .tail _ m22
end
theorem or13 : ∀ i, i < 13 → i = 0 ∨ i = 1 ∨ i = 2 ∨ i = 3 ∨ i = 4 ∨ i = 5 ∨ i = 6 ∨ i = 7 ∨ i = 8 ∨ i = 9 ∨ i = 10 ∨ i = 11 ∨ i = 12 := by decide
theorem or10 (i : Nat) : i = 0 ∨ i = 1 ∨ i = 2 ∨ i = 3 ∨ i = 4 ∨ i = 5 ∨ i = 6 ∨ i = 7 ∨ i = 8 ∨ i = 9 ∨ 10 ≤ i := by
  rcases Nat.lt_or_ge i 10 with h | h
  · exact (by decide : ∀ i, i < 10 → i = 0 ∨ i = 1 ∨ i = 2 ∨ i = 3 ∨ i = 4 ∨ i = 5 ∨ i = 6 ∨ i = 7 ∨ i = 8 ∨ i = 9 ∨ 10 ≤ i) i h
  · iterate 10 (refine .inr ?_)
    exact h
theorem ten_fig : ∀ c, c < 58 → 48 ≤ c → c ∈ [48, 49, 50, 51, 52, 53, 54, 55, 56, 57] := by decide
theorem toNat_abs {a : Int} (h : 0 ≤ a) : a.toNat = a.natAbs := by (refine Mine.ex1 (Int.eq_ofNat_of_zero_le h) fun n oq1 => ?_; subst oq1); rfl
theorem seq_at {i : Int} {n : Nat} (h0 : 0 ≤ i) (h : i.toNat < n) : seqIndex? i n = some i.toNat := by
  (refine Mine.ex1 (Int.eq_ofNat_of_zero_le h0) fun k oq1 => ?_; subst oq1)
  unfold seqIndex?
  rw [if_neg (Int.not_lt.mpr h0)]
  exact if_pos (by rw [decide_eq_true h0, decide_eq_true (show (k : Int) < (n : Int) from Int.ofNat_lt.mpr h)]; rfl)
section
variable {x y a b c d e f g n N L M : Nat}
theorem r0 (h : x + N < L) : x < L := Nat.lt_of_le_of_lt (Nat.le_add_right _ _) h
theorem r1 (h : x + N < L) (q : Nat.ble a N = true) : x + a < L := Nat.lt_of_le_of_lt (Nat.add_le_add_left (Nat.le_of_ble_eq_true q) x) h
theorem r2 (h : x + N < L) (q : Nat.ble (a + b) N = true) : x + a + b < L := Nat.add_assoc x a b ▸ r1 h q
theorem r3 (h : x + N < L) (q : Nat.ble (a + b + c) N = true) : x + a + b + c < L := Nat.add_assoc x a b ▸ r2 (a := a + b) (b := c) h q
theorem r4 (h : x + N < L) (q : Nat.ble (a + b + c + d) N = true) : x + a + b + c + d < L := Nat.add_assoc x a b ▸ r3 (a := a + b) (b := c) (c := d) h q
theorem r5 (h : x + N < L) (q : Nat.ble (a + b + c + d + e) N = true) : x + a + b + c + d + e < L := Nat.add_assoc x a b ▸ r4 (a := a + b) (b := c) (c := d) (d := e) h q
theorem r6 (h : x + N < L) (q : Nat.ble (a + b + c + d + e + f) N = true) : x + a + b + c + d + e + f < L := Nat.add_assoc x a b ▸ r5 (a := a + b) (b := c) (c := d) (d := e) (e := f) h q
theorem n1 (h : x < (OfNat.ofNat N : Nat)) (q : Nat.ble N M = true) : x < M := Nat.lt_of_lt_of_le h (Nat.le_of_ble_eq_true q)
theorem n2 (h : x ≤ (OfNat.ofNat N : Nat)) (q : Nat.ble N M = true) : x ≤ M := Nat.le_trans h (Nat.le_of_ble_eq_true q)
theorem n3 (h : x < (OfNat.ofNat N : Nat)) (q : Nat.ble N M = true) : x ≤ M := Nat.le_of_lt (n1 h q)
theorem n4 (h : x ≤ (OfNat.ofNat N : Nat)) (q : Nat.ble (N + 1) M = true) : x < M := Nat.lt_of_le_of_lt h (Nat.le_of_ble_eq_true q)
theorem n5 (h : x ≤ y) (h2 : y ≤ (OfNat.ofNat N : Nat)) (q : Nat.ble N M = true) : x ≤ M := n2 (Nat.le_trans h h2) q
theorem n7 (h : x ≤ y) : x ≤ y + 1 := Nat.le_succ_of_le h
theorem n8 (h : x ≤ y + 1) (h2 : y ≤ n) : x ≤ n + 1 := Nat.le_trans h (Nat.succ_le_succ h2)
theorem n9 (h : x < (OfNat.ofNat N : Nat)) (q : Nat.ble (a + b * N + c) M = true) : a + b * x + c ≤ M := Nat.le_trans (Nat.add_le_add_right (Nat.add_le_add_left (Nat.mul_le_mul_left b (Nat.le_of_lt h)) a) c) (Nat.le_of_ble_eq_true q)
theorem n10 (h : x < (OfNat.ofNat N : Nat)) (q : Nat.ble (a + b * N) M = true) : a + b * x ≤ M := n9 (c := 0) h q
theorem n11 (h : x ≤ y) (h2 : y < (OfNat.ofNat N : Nat)) (q : Nat.ble N M = true) : x ≤ M := n2 (Nat.le_trans h (Nat.le_of_lt h2)) q
theorem n12 (h : x < y) (h2 : y ≤ (OfNat.ofNat N : Nat)) (q : Nat.ble N M = true) : x < M := n1 (Nat.lt_of_lt_of_le h h2) q
theorem n13 (h : x = y) (h2 : y ≤ n + a) (h3 : n ≤ (OfNat.ofNat N : Nat)) (q : Nat.ble (N + a) M = true) : x ≤ M := h ▸ n2 (Nat.le_trans h2 (Nat.add_le_add_right h3 a)) q
theorem n14 (h : y = x) (h2 : y ≤ n + a) (h3 : n ≤ (OfNat.ofNat N : Nat)) (q : Nat.ble (N + a) M = true) : x ≤ M := n13 h.symm h2 h3 q
theorem n15 (h2 : x ≤ n + a) (h3 : n ≤ (OfNat.ofNat N : Nat)) (q : Nat.ble (N + a) M = true) : x ≤ M := n13 rfl h2 h3 q
theorem n16 (h : x ≤ y) (h2 : y ≤ (OfNat.ofNat N : Nat)) (q : Nat.ble (N + 1) M = true) : x + 1 ≤ M := Nat.le_trans (Nat.succ_le_succ (Nat.le_trans h h2)) (Nat.le_of_ble_eq_true q)
theorem v0 (h : x < y) : x ≠ y := Nat.ne_of_lt h
theorem v1 (h : x + 1 < y) : x ≠ y := Nat.ne_of_lt (Nat.lt_of_succ_lt h)
theorem v2 (h : x + 1 + 1 < y) : x ≠ y := v1 (Nat.lt_of_succ_lt h)
theorem v3 : x + 1 ≠ x := Nat.ne_of_gt (Nat.lt_succ_self x)
theorem v4 : x + 1 + 1 ≠ x := Nat.ne_of_gt (Nat.lt_succ_of_lt (Nat.lt_succ_self x))
theorem v5 : x ≠ x + 1 := Nat.ne_of_lt (Nat.lt_succ_self x)
theorem v6 : x ≠ x + 1 + 1 := Nat.ne_of_lt (Nat.lt_succ_of_lt (Nat.lt_succ_self x))
theorem v7 {M : Int} (h : x < y) (h2 : y ≤ (OfNat.ofNat N : Nat)) (q : decide ((N : Int) ≤ M) = true) : (x : Int) < M := Int.lt_of_lt_of_le (Int.ofNat_lt.mpr (Nat.lt_of_lt_of_le h h2)) (of_decide_eq_true q)
theorem v8 {M : Int} (h : x < (OfNat.ofNat N : Nat)) (q : decide ((N : Int) ≤ M) = true) : (x : Int) < M := Int.lt_of_lt_of_le (Int.ofNat_lt.mpr h) (of_decide_eq_true q)
theorem v9 {M : Int} (h : x ≤ (OfNat.ofNat N : Nat)) (q : decide ((N : Int) < M) = true) : (x : Int) < M := Int.lt_of_le_of_lt (Int.ofNat_le.mpr h) (of_decide_eq_true q)
theorem w1 {M : Int} (h : x ≤ (OfNat.ofNat N : Nat)) (q : decide ((N : Int) ≤ M) = true) : (x : Int) ≤ M := Int.le_trans (Int.ofNat_le.mpr h) (of_decide_eq_true q)
theorem w2 {M : Int} (h : x < y) (h1 : y ≤ n) (h2 : n ≤ (OfNat.ofNat N : Nat)) (q : decide ((N : Int) ≤ M) = true) : (x : Int) < M := v7 (Nat.lt_of_lt_of_le h h1) h2 q
theorem w3 {i : Int} (h : 0 ≤ i) (h2 : i < (OfNat.ofNat N : Nat)) : i.toNat < N := (Int.toNat_lt h).mpr h2
theorem n6 (h : x = y) (h2 : y ≤ (OfNat.ofNat N : Nat)) (q : Nat.ble N M = true) : x ≤ M := h ▸ n2 h2 q
end
section
variable {x y n N M : Int}
theorem i0 {N : Nat} (h : x < (OfNat.ofNat N : Int)) (q : decide ((OfNat.ofNat N : Int) ≤ M) = true) : x < M := Int.lt_of_lt_of_le h (of_decide_eq_true q)
theorem i1 {N : Nat} (h : x < (OfNat.ofNat N : Int)) (q : decide ((OfNat.ofNat N : Int) + 1 ≤ M) = true) : x + 1 < M := i0 (Int.add_lt_add_right h 1) q
theorem i2 {N : Nat} (h : x < (OfNat.ofNat N : Int)) (q : decide ((OfNat.ofNat N : Int) + 1 + 1 ≤ M) = true) : x + 1 + 1 < M := i1 (Int.add_lt_add_right h 1) q
theorem i3 {N : Nat} (h : x < (OfNat.ofNat N : Int)) (q : decide ((OfNat.ofNat N : Int) + 1 + 1 + 1 ≤ M) = true) : x + 1 + 1 + 1 < M := i2 (Int.add_lt_add_right h 1) q
theorem i4 {N : Nat} (h : x < (OfNat.ofNat N : Int)) (q : decide ((OfNat.ofNat N : Int) + 1 + 1 + 1 + 1 ≤ M) = true) : x + 1 + 1 + 1 + 1 < M := i3 (Int.add_lt_add_right h 1) q
theorem i5 {N : Nat} (h : x < (OfNat.ofNat N : Int)) (q : decide ((OfNat.ofNat N : Int) + 1 + 1 + 1 + 1 + 1 ≤ M) = true) : x + 1 + 1 + 1 + 1 + 1 < M := i4 (Int.add_lt_add_right h 1) q
theorem i6 {N : Nat} (h : x < (OfNat.ofNat N : Int)) (q : decide ((OfNat.ofNat N : Int) ≤ M) = true) : x ≤ M := Int.le_of_lt (i0 h q)
theorem i7 (h : 0 ≤ x) (q : decide (M < 0) = true) : M < x := Int.lt_of_lt_of_le (of_decide_eq_true q) h
theorem i8 (h : y ≤ x) (h2 : 1 ≤ y) : 0 ≤ x := Int.le_trans (by decide) (Int.le_trans h2 h)
theorem i9 (h : 1 ≤ x) : 0 ≤ x := Int.le_trans (by decide) h
theorem i10 {N : Nat} (h : x ≤ (OfNat.ofNat N : Int)) (q : decide ((OfNat.ofNat N : Int) < M) = true) : x < M := Int.lt_of_le_of_lt h (of_decide_eq_true q)
theorem i11 (h : 1 ≤ x) (q : decide (M < 1) = true) : M < x := Int.lt_of_lt_of_le (of_decide_eq_true q) h
theorem i12 {N : Nat} (h : x ≤ (OfNat.ofNat N : Int)) (q : decide ((OfNat.ofNat N : Int) ≤ M) = true) : x ≤ M := Int.le_trans h (of_decide_eq_true q)
theorem i13 (h : 0 ≤ x) (q : decide (M ≤ 0) = true) : M ≤ x := Int.le_trans (of_decide_eq_true q) h
theorem up0 (h : 0 ≤ x) : 0 ≤ x + 1 := Int.le_trans h (Int.le_add_one (Int.le_refl x))
theorem up1 (h : 0 ≤ x) : 0 ≤ 1 + x := by (first | lia | omega)
theorem up2 (h : 0 ≤ x) : 1 ≤ 1 + x := by (first | lia | omega)
theorem up3 (h : x ≤ y) : x ≤ y + 1 := Int.le_add_one h
theorem up4 {N : Nat} (h : x < (OfNat.ofNat N : Int)) (q : decide ((OfNat.ofNat N : Int) ≤ M) = true) : 1 + x ≤ M := by have := i0 h q; (first | lia | omega)
theorem t1 (q : decide (1 ≤ n) = true) : x + 1 ≤ x + n := Int.add_le_add_left (of_decide_eq_true q) x
theorem t2 (q : decide (2 ≤ n) = true) : x + 1 + 1 ≤ x + n := by have := of_decide_eq_true q; (first | lia | omega)
theorem t3 (q : decide (3 ≤ n) = true) : x + 1 + 1 + 1 ≤ x + n := by have := of_decide_eq_true q; (first | lia | omega)
theorem t4 (q : decide (4 ≤ n) = true) : x + 1 + 1 + 1 + 1 ≤ x + n := by have := of_decide_eq_true q; (first | lia | omega)
theorem t5 (q : decide (5 ≤ n) = true) : x + 1 + 1 + 1 + 1 + 1 ≤ x + n := by have := of_decide_eq_true q; (first | lia | omega)
theorem t6 (q : decide (6 ≤ n) = true) : x + 1 + 1 + 1 + 1 + 1 + 1 ≤ x + n := by have := of_decide_eq_true q; (first | lia | omega)
end
end Mine
open PySem PySem.W PyProof.Rows PySem.Calls PySem.Spec Mine
end
local macro_rules | `(tactic| k_lt $h:ident) => `(tactic| ((replace $h := Mine.below_of $h); (dsimp only [List.map] at $h:ident)))
/- T1 -/
section
open PySem PySem.W PyProof.Rows PySem.Calls PySem.Spec
namespace Mine
set_option maxRecDepth 100000
set_option maxHeartbeats 8000000 

theorem scoop_runs {prog : Program} {w : World} {b c : Addr} {cn : Nat} {at' many : Int} {ta tm : Tok} {cells : List Int} {vs : List Value} {o : Obj}
    (hd : o.IsDictOf (PySem.strKind prog w) [("cells", .ref c), ("at", .int at' ta)]) (hcb : c ≠ b) (hv : IntsAre vs cells) (hl : cells.length ≤ 63) (h0 : 0 ≤ at') (h1 : at' < 1000) (hm : 1 ≤ many) :
    Runs prog w 1 810 [.ref b, .int many tm] [(b, o), (c, PySem.W.listOf vs.toArray cn)]
      fun r tl => ∃ i t t' o', r = .int i t ∧ 0 ≤ i ∧ i < many ∧ o'.IsDictOf (PySem.strKind prog w) [("cells", .ref c), ("at", .int (at' + 1) t')] ∧ tl = [(b, o'), (c, PySem.W.listOf vs.toArray cn)] := by
  k_with_none
  k_with "om" => first | (with_reducible first | assumption | exact Mine.r0 (by assumption) | exact Int.natCast_nonneg _ | exact Mine.i11 (by assumption) (by k_dflt exact rfl) | exact Int.le_refl _ | exact Nat.le_refl _) | (first | lia | omega)
  k_with "rm" => first | ((try dsimp only [depth_under_make, depth_under_kw, depth_in1, depth_deeper, depth_caller, units_in1, units_deeper, Around.mark_units, units_caller, units_under_make, ktrTop]); walk_at "om") | ktr_room | ktr_units
  k_with "con_enter" => (refine' Mine.code_defQ ?k1z29 ?k2z29 ?k3z29 ?k4z29 ?k5z29 ?kAz29 ?kFz29 ?kKz29 ?k6z29 ?k7z29 ?k8z29 ?k9z29 ?kBz29 ?_ ?c2z29 ?c3z29 ?c4z29 ?c5z29; (case kAz29 => exact rfl); (case kFz29 => exact rfl); (case kKz29 => assumption); (case k1z29 => k_asm); (case k2z29 => k_asm); (case k3z29 => k_asm); (case k4z29 => k_asm); (case k5z29 => k_asm); (case k6z29 => k_is); (case k7z29 => k_is); (case k8z29 => walk_at "rm"); (case k9z29 => first | exact BindsTo.of_eq (binds := []) rfl | exact BindsTo.of_eq (binds := [(_, _)]) rfl | exact BindsTo.of_eq (binds := [(_, _), (_, _)]) rfl | exact BindsTo.of_eq (binds := [(_, _), (_, _), (_, _)]) rfl | exact BindsTo.of_eq (binds := [(_, _), (_, _), (_, _), (_, _)]) rfl | exact BindsTo.of_eq (binds := [(_, _), (_, _), (_, _), (_, _), (_, _)]) rfl | exact BindsTo.of_eq rfl); (case c5z29 => decide); (case kBz29 => exact locs rfl); (case c2z29 => exact rfl); (case c3z29 => exact rfl); (case c4z29 => exact rfl); k_whole; intro g' L' h' tk' FG' F' N' B' X' T' S' hL' qk ek)
  k_with "LeaveK" => (k_dflt (refine' Mine.leave_con ?hrz24 ?hSz24 ?hFz24 ?hNz24 ?hqz24 ?_; (case hrz24 => assumption); (case hSz24 => assumption); (case hFz24 => k_asm); (case hNz24 => k_asm); (case hqz24 => exact rfl); k_whole))
  k_with "k_all" => assumption
  k_with "subscriptTail" => (k_here; (with_reducible show wpAny _ _ (subscriptTail _ _ (Value.ref _) (Value.str _ _)) _ _ _); k_dflt (refine' kda_item (knd := PySem.strKind _ _) ?Nz25 ?pz25 ?dz25 (strKind_is _ _ _ _) ?vz25 ?_; (case Nz25 => k_asm); (case pz25 => k_mem); (case dz25 => k_asm); (case vz25 => first | rfl | assumption); k_whole))
  k_with "setItem ref str" => (k_here; k_dflt (refine' kda_set (knd := PySem.strKind _ _) ?Fz26 ?Nz26 ?Uz26 ?dz26 (strKind_is _ _ _ _) ?zz26 ?_; (case Fz26 => k_asm); (case Nz26 => k_asm); (case Uz26 => k_updF); (case dz26 => k_asm); (case zz26 => first | (rw [sizeLine_eq]; exact Nat.le_of_ble_eq_true (by with_unfolding_all rfl)) | (rw [sizeLine_eq]; (first | lia | omega)))); intro h' o' F' N' hd'; (try rw [Mine.stored_bin] at hd'); (try dsimp only at N'))
  k_with "key mem" => fail
  k_with "k_mem" => (k_whole; walk_at "key mem")
  k_with "k_ne" => ((refine neN ?_; (try dsimp only)); first | (refine' Mine.ne_below ?kb9z33 ?km9z33; (case kb9z33 => with_reducible assumption); (case km9z33 => walk_at "key mem")) | (refine' Mine.ne_above ?kb9z33 ?km9z33; (case kb9z33 => with_reducible assumption); (case km9z33 => walk_at "key mem")) | walk_at "ne find" | (first | lia | omega))
  k_with "k_all" => (refine' Mine.all_below ?kb9z30 ?km9z30; (case kb9z30 => with_reducible assumption); (case km9z30 => exact rfl))
  k_with "ne find" => first | with_reducible assumption | (refine Ne.symm ?_; with_reducible assumption) | (refine Nat.ne_of_lt ?_; with_reducible assumption) | (refine Nat.ne_of_gt ?_; with_reducible assumption) | ((with_reducible rename _ ∧ _ => hc9); have hc8 := hc9.1; have hc7 := hc9.2; clear hc9; walk_at "ne find")
  k_with "spliced" => (k_here; (refine PyProof.Rows.args_nil ?_); (try dsimp only [List.cons_append, List.nil_append]); (with_reducible show _ ∧ _))
  unfold Runs
  intro mean mg mb dp un gd cn' cs a ccd cl outer A₀ base h₀ L m s Q E B F X N T hk hd hu hret
  rcases s with ⟨hp0, gs0, dr0, tk0, os0⟩
  dsimp only at F N hret
  refine wpAny_call ?_
  k_dflt (k_extra "con_enter")
  k_steps
  all_goals exact ends_of (Mine.ie4 _ _ _ _ ⟨rfl, Int.fmod_nonneg_of_pos _ (by walk_at "om"), Int.fmod_lt_of_pos _ (by walk_at "om"), by assumption, rfl⟩) fun p hp => hp

theorem scoop_use {prog : Program} {w : World} {b c : Addr} {cn : Nat} {at' many : Int} {ta tm : Tok} {cells : List Int} {vs : List Value} {o : Obj} {g : Obj → List (Addr × Obj)} {news : List (Addr × Obj)}
    {mean : ExcName → Option Value} {mg mb : Str → Option Value} {dp un : Nat} {gd : Option (List Code)} {cn' : Str} {cs : Scope} {a : Addr} {ccd : Value} {cl : List (Str × Addr)} {outer : List Env} {A₀ : Around} {base h₀ : Heap} {L : Addr} {m : Str → Option Value} {hp0 : Heap} {gs0 : Array GenState} {dr0 : Drawn} {tk0 : Nat} {os0 : OsState}
    {Q E : Value → Shared → Prop} (B : Below A₀ base outer h₀) (F : Fr h₀ L hp0 m) (X : (Mine.heap w.params).In h₀) (N : News h₀ L hp0 news)
    (T : Top Mine.view (looseW Mine.view Mine.loose) mean mg mb h₀) (hk : cs.kind = .function)
    (U : UpdF b o news g) (hd : o.IsDictOf (PySem.strKind prog w) [("cells", .ref c), ("at", .int at' ta)]) (hc : (c, PySem.W.listOf vs.toArray cn) ∈ news) (hcb : c ≠ b) (hv : IntsAre vs cells) (hl : cells.length ≤ 63) (h0 : 0 ≤ at') (h1 : at' < 1000) (hm : 1 ≤ many)
    (hd' : dp + 1 < recursionLimit) (hu : un + 8 < cLine)
    (ret : ∀ i t t' o' h' tk', Fr h₀ L h' m → News h₀ L h' (g o') → o'.IsDictOf (PySem.strKind prog w) [("cells", .ref c), ("at", .int (at' + 1) t')] → 0 ≤ i → i < many → Q (.int i t) ⟨h', gs0, dr0, tk', os0⟩) :
    wpAny (model prog w) (ktrTop dp un gd cn' cs L a ccd cl outer) (call (.ref 810) [.ref b, .int many tm]) Q E ⟨hp0, gs0, dr0, tk0, os0⟩ := by
  (refine Mine.ex2 U.split fun pre post om0 => Mine.an4 om0 fun oq2 hg ha hb => ?_; clear om0; subst oq2)
  have hbm : (b, o) ∈ pre ++ (b, o) :: post := List.mem_append_right _ (.head _)
  refine scoop_runs (o := o) (cn := cn) hd hcb hv hl h0 h1 hm _ _ _ _ _ _ _ _ _ _ _ _ _ _ _ _ _ _ _ _ B F X (fun p hp => ?_) T hk hd' hu fun r tl h' tk' F' N' S' R' => ?_
  · rcases List.mem_cons.mp hp with rfl | hp
    · exact N _ hbm
    · rcases List.mem_cons.mp hp with rfl | hp
      · exact N _ hc
      · cases hp
  · (refine Mine.ex4 R' fun i t t' o' om0 => Mine.an5 om0 fun oq4 i0 i1 d' oq8 => ?_; clear om0; (try clear R'); subst oq4; subst oq8)
    refine ret i t t' o' h' tk' F' (fun p hp => ?_) d' i0 i1
    rw [hg o'] at hp
    have key : ∀ p, p ∈ pre ++ (b, o) :: post → p.1 ≠ b → h'.get? p.1 = some p.2 ∧ p.1 ≠ L ∧ h₀.get? p.1 = none := fun p hp hne => by
      refine ⟨?_, (N p hp).2⟩
      by_cases hpc : p.1 = c
      · have e1 := (N p hp).1
        have e2 := (N _ hc).1
        rw [hpc] at e1
        rw [e1] at e2
        have e3 := (N' (c, PySem.W.listOf vs.toArray cn) (.tail _ (.head _))).1
        rw [hpc, Option.some.inj e2]; exact e3
      · refine (S' _ _ (N p hp).1 fun q hq => ?_).1
        rcases List.mem_cons.mp hq with rfl | hq
        · exact fun e => hne e.symm
        · rcases List.mem_cons.mp hq with rfl | hq
          · exact fun e => hpc e.symm
          · cases hq
    rcases List.mem_append.mp hp with hp | hp
    · exact key p (List.mem_append_left _ hp) (ha p hp)
    · rcases List.mem_cons.mp hp with rfl | hp
      · exact N' _ (.head _)
      · exact key p (List.mem_append_right _ (.tail _ hp)) (hb p hp)
end Mine
open PySem PySem.W PyProof.Rows PySem.Calls PySem.Spec Mine
end
/- T2 -/
section
open PySem PySem.W PyProof.Rows PySem.Calls PySem.Spec
namespace Mine
set_option maxRecDepth 100000
set_option maxHeartbeats 8000000 

noncomputable def Small (k : Nat) (a : Int) : Prop := a.natAbs < 2 ^ k
theorem Small.mono {k l : Nat} {a : Int} (h : Small k a) (hkl : k ≤ l) : Small l a := Nat.lt_of_lt_of_le h (Nat.pow_le_pow_right (by decide) hkl)
theorem Small.neg {k : Nat} {a : Int} (h : Small k a) : Small k (0 - a) := by
  unfold Small at *
  have : (0 - a).natAbs = a.natAbs := by rw [Int.zero_sub, Int.natAbs_neg]
  rw [this]; exact h
theorem Small.mul {k l : Nat} {a b : Int} (ha : Small k a) (hb : Small l b) : Small (k + l) (a * b) := by
  unfold Small at *
  rw [Int.natAbs_mul, Nat.pow_add]
  exact Nat.mul_lt_mul_of_lt_of_le ha (Nat.le_of_lt hb) (Nat.two_pow_pos _)
theorem Small.add {k : Nat} {a b : Int} (ha : Small k a) (hb : Small k b) : Small (k + 1) (a + b) := by
  unfold Small at *
  rw [Nat.pow_succ, Nat.mul_two]
  exact Nat.lt_of_le_of_lt (Int.natAbs_add_le a b) (Nat.add_lt_add ha hb)
theorem small_of_lt {k n : Nat} {a : Int} (h0 : 0 ≤ a) (h1 : a < (n : Int)) (h2 : n ≤ 2 ^ k) : Small k a := by
  unfold Small
  generalize 2 ^ k = z at *
  (first | lia | omega)
theorem small_ten {i : Int} {n : Nat} (h : i < (n : Int)) (h0 : 0 ≤ i) : Small (4 * n) ((10 : Int) ^ i.toNat) := by
  unfold Small
  rw [Int.natAbs_pow]
  have e : (10 : Int).natAbs = 10 := rfl
  rw [e]
  have h1 : i.toNat ≤ n := by (first | lia | omega)
  calc 10 ^ i.toNat ≤ 10 ^ n := Nat.pow_le_pow_right (by decide) h1
    _ < 2 ^ (4 * n) := by
      rw [Nat.pow_mul]
      have : n ≠ 0 := by (first | lia | omega)
      exact Nat.pow_lt_pow_left (by decide) this
theorem Small.log2 {k : Nat} {a : Int} (h : Small k a) (hk : 0 < k) : a.natAbs.log2 < k := by
  rcases Nat.eq_zero_or_pos a.natAbs with h0 | hp
  · rw [h0]; exact hk
  · exact (Nat.log2_lt (Nat.ne_of_gt hp)).mpr h
theorem Small.bits {k : Nat} {a : Int} (h : Small k a) (hk : 0 < k) : Builtin.Int.intBits a ≤ k := by
  unfold Builtin.Int.intBits
  split
  · (first | lia | omega)
  · have := h.log2 hk; (first | lia | omega)
theorem mulOk_small {k l : Nat} {a b : Int} (ha : Small k a) (hb : Small l b) (hk : 0 < k) (hl : 0 < l) (hkl : k + l ≤ 100000) : IntMulOk a b := by
  unfold IntMulOk
  have h1 := ha.bits hk
  have h2 := hb.bits hl
  have : Builtin.Int.intTooBig (Builtin.Int.intBits a + Builtin.Int.intBits b) = false := by
    unfold Builtin.Int.intTooBig
    refine decide_eq_false ?_
    have : (100000 : Int) < (bitsLine : Nat) := by decide
    (first | lia | omega)
  rw [this]; simp
theorem small_top1 {i : Int} (h0 : 0 ≤ i) (h1 : i < 100) : Small 20002 i := (small_of_lt (k := 7) (n := 100) h0 (by (first | lia | omega)) (by decide)).mono (by decide)
theorem small_top2 {i j : Int} (h0 : 0 ≤ i) (h1 : i < 5000) (j0 : 0 ≤ j) (j1 : j < 1000) : Small 20002 ((10 : Int) ^ i.toNat + j) :=
  (Small.add (k := 20000) (small_ten (n := 5000) h1 h0) ((small_of_lt (k := 10) (n := 1000) j0 (by (first | lia | omega)) (by decide)).mono (by decide))).mono (by decide)
theorem small_bot {j : Int} {k : Int} (k0 : 0 ≤ k) (k1 : k < 1500) (j0 : 0 ≤ j) (j1 : j < 4) : Small 6002 ([1, 1, 3, (10 : Int) ^ k.toNat + 2].getD j.toNat 0) := by
  have hs : ∀ n : Int, 0 ≤ n → n < 4 → Small 6002 n := fun n h0 h1 => (small_of_lt (k := 2) (n := 4) h0 (by (first | lia | omega)) (by decide)).mono (by decide)
  have h4 : Small 6002 ((10 : Int) ^ k.toNat + 2) := (Small.add (k := 6000) (small_ten (n := 1500) k1 k0) ((small_of_lt (k := 2) (n := 4) (by decide) (by decide) (by decide)).mono (by decide))).mono (by decide)
  have hj : j = 0 ∨ j = 1 ∨ j = 2 ∨ j = 3 := by (first | lia | omega)
  rcases hj with rfl | rfl | rfl | rfl
  · exact hs 1 (by decide) (by decide)
  · exact hs 1 (by decide) (by decide)
  · exact hs 3 (by decide) (by decide)
  · exact h4
theorem bot_pos {j : Int} {k : Int} (j0 : 0 ≤ j) (j1 : j < 4) : 1 ≤ [1, 1, 3, (10 : Int) ^ k.toNat + 2].getD j.toNat 0 := by
  have h : (0 : Int) < 10 ^ k.toNat := Int.pow_pos (by decide)
  have hj : j = 0 ∨ j = 1 ∨ j = 2 ∨ j = 3 := by (first | lia | omega)
  rcases hj with rfl | rfl | rfl | rfl
  · exact (by decide : (1 : Int) ≤ 1)
  · exact (by decide : (1 : Int) ≤ 1)
  · exact (by decide : (1 : Int) ≤ 3)
  · show (1 : Int) ≤ 10 ^ k.toNat + 2; (first | lia | omega)

structure GoodNum (isReal : Bool) (top bottom : Int) : Prop where
  pos : 1 ≤ bottom
  int : isReal = false → bottom = 1
  top0 : bottom ≠ 1 → top ≠ 0
  small : Small 26010 top
  smallb : Small 26010 bottom

theorem good_int {t : Int} (h : Small 20002 t) : GoodNum false t 1 :=
  ⟨by decide, fun _ => rfl, fun h => absurd rfl h, h.mono (by decide), (small_of_lt (k := 1) (n := 2) (by decide) (by decide) (by decide)).mono (by decide)⟩
theorem good_whole {t b : Int} (h : Small 20002 t) (hb : 1 ≤ b) (h1 : ¬ 1 < b) (hs : Small 6002 b) : GoodNum true t b :=
  ⟨hb, fun h => (nomatch h), fun h => absurd (by (first | lia | omega)) h, h.mono (by decide), hs.mono (by decide)⟩
theorem good_broken {t b : Int} (h : Small 20002 t) (h0 : 0 ≤ t) (h1 : 1 < b) (hs : Small 6002 b) : GoodNum true (t * b + 1) b := by
  have hm : 0 ≤ t * b := Int.mul_nonneg h0 (by (first | lia | omega))
  refine ⟨by (first | lia | omega), fun h => (nomatch h), fun _ => by (first | lia | omega), ?_, hs.mono (by decide)⟩
  exact (Small.add (k := 26004) (h.mul hs) ((small_of_lt (k := 1) (n := 2) (by decide) (by decide) (by decide)).mono (by decide))).mono (by decide)
theorem GoodNum.neg {r : Bool} {t b : Int} (h : GoodNum r t b) : GoodNum r (0 - t) b := ⟨h.pos, h.int, fun q => by have := h.top0 q; (first | lia | omega), h.small.neg, h.smallb⟩

noncomputable def Mark (_ : Bool) : Prop := True
noncomputable def NumPost (prog : Program) (w : World) (g : Heap) (L : Addr) (mm : Str → Option Value) (b c : Addr) (cc : Obj) (gs : Array GenState) (dr : Drawn) (os : OsState) (PP : Int → Int → Prop) (v : Value) (s' : Shared) : Prop :=
  ∃ t tt h' tk' o' ap tp, v = .int t tt ∧ s' = ⟨h', gs, dr, tk', os⟩ ∧ Fr g L h' mm ∧ News g L h' [(b, o'), (c, cc)] ∧ o'.IsDictOf (PySem.strKind prog w) [("cells", .ref c), ("at", .int ap tp)] ∧ PP t ap
section
variable {prog : Program} {w : World} {A : Around} {E : Value → Shared → Prop} {g hp h' : Heap} {gs : Array GenState} {dr : Drawn} {tk tk' : Nat} {os : OsState} {L b c : Addr} {mm : Str → Option Value} {o o' cc : Obj} {PP : Int → Int → Prop} {e : Sem Value} {Q : Value → Shared → Prop} {t ap at' : Int} {tt ta tp : Tok} {isReal : Bool}
theorem numPost_of {news : List (Addr × Obj)} (F : Fr g L h' mm) (N : News g L h' news) (hb : (b, o') ∈ news) (hc : (c, cc) ∈ news) (d : o'.IsDictOf (PySem.strKind prog w) [("cells", .ref c), ("at", .int ap tp)]) (p : PP t ap) : NumPost prog w g L mm b c cc gs dr os PP (.int t tt) ⟨h', gs, dr, tk', os⟩ :=
  (Mine.ie7 _ _ _ _ _ _ _ ⟨rfl, rfl, F, List.forall_mem_cons.mpr ⟨N _ hb, List.forall_mem_cons.mpr ⟨N _ hc, List.forall_mem_nil _⟩⟩, d, p⟩)
theorem cut_num (PP : Int → Int → Prop) (h1 : wpAny (model prog w) A e (NumPost prog w g L mm b c cc gs dr os PP) E ⟨hp, gs, dr, tk, os⟩)
    (h2 : ∀ t tt h' tk' o' ap tp, PP t ap → o'.IsDictOf (PySem.strKind prog w) [("cells", .ref c), ("at", .int ap tp)] → Fr g L h' mm → News g L h' [(b, o'), (c, cc)] → Q (.int t tt) ⟨h', gs, dr, tk', os⟩) : wpAny (model prog w) A e Q E ⟨hp, gs, dr, tk, os⟩ :=
  wpAny_mono h1 (fun v s' h => by (refine Mine.ex7 h fun t tt h' tk' o' ap tp om0 => Mine.an6 om0 fun e1 e2 F N d p => ?_; clear om0; (try clear h)); subst e1; subst e2; exact h2 _ _ _ _ _ _ _ p d F N) fun _ _ y => y
theorem cut_top (F : Fr g L hp mm) (N : News g L hp [(b, o), (c, cc)]) (d : o.IsDictOf (PySem.strKind prog w) [("cells", .ref c), ("at", .int at' ta)])
    (h1 : wpAny (model prog w) A e (NumPost prog w g L mm b c cc gs dr os (fun t ap => 0 ≤ t ∧ Small 20002 t ∧ 0 ≤ ap ∧ ap < 904 ∧ at' ≤ ap ∧ ap ≤ at' + 2)) E ⟨hp, gs, dr, tk, os⟩)
    (h2 : ∀ t tt h' tk' o' ap tp, 0 ≤ t → Small 20002 t → 0 ≤ ap → ap < 904 → at' ≤ ap → ap ≤ at' + 2 → o'.IsDictOf (PySem.strKind prog w) [("cells", .ref c), ("at", .int ap tp)] → Fr g L h' mm → News g L h' [(b, o'), (c, cc)] → Q (.int t tt) ⟨h', gs, dr, tk', os⟩) : wpAny (model prog w) A e Q E ⟨hp, gs, dr, tk, os⟩ :=
  cut_num _ h1 fun t tt h' tk' o' ap tp p => h2 t tt h' tk' o' ap tp p.1 p.2.1 p.2.2.1 p.2.2.2.1 p.2.2.2.2.1 p.2.2.2.2.2
theorem cut_bot (_ : Mark isReal) (F : Fr g L hp mm) (N : News g L hp [(b, o), (c, cc)]) (d : o.IsDictOf (PySem.strKind prog w) [("cells", .ref c), ("at", .int at' ta)])
    (h1 : wpAny (model prog w) A e (NumPost prog w g L mm b c cc gs dr os (fun t ap => 1 ≤ t ∧ Small 6002 t ∧ (isReal = false → t = 1) ∧ 0 ≤ ap ∧ ap < 907 ∧ at' ≤ ap ∧ ap ≤ at' + 2)) E ⟨hp, gs, dr, tk, os⟩)
    (h2 : ∀ t tt h' tk' o' ap tp, 1 ≤ t → Small 6002 t → (isReal = false → t = 1) → 0 ≤ ap → ap < 907 → at' ≤ ap → ap ≤ at' + 2 → o'.IsDictOf (PySem.strKind prog w) [("cells", .ref c), ("at", .int ap tp)] → Fr g L h' mm → News g L h' [(b, o'), (c, cc)] → Q (.int t tt) ⟨h', gs, dr, tk', os⟩) : wpAny (model prog w) A e Q E ⟨hp, gs, dr, tk, os⟩ :=
  cut_num _ h1 fun t tt h' tk' o' ap tp p => h2 t tt h' tk' o' ap tp p.1 p.2.1 p.2.2.1 p.2.2.2.1 p.2.2.2.2.1 p.2.2.2.2.2.1 p.2.2.2.2.2.2
end
theorem good_any {r : Bool} {t b : Int} (h : Small 20002 t) (hb : 1 ≤ b) (h1 : ¬ 1 < b) (hs : Small 6002 b) : GoodNum r t b :=
  have e : b = 1 := Int.le_antisymm (Int.not_lt.mp h1) hb
  ⟨hb, fun _ => e, fun h => absurd e h, h.mono (by decide), hs.mono (by decide)⟩
theorem good_brokenR {r : Bool} {t b : Int} (h : Small 20002 t) (h0 : 0 ≤ t) (h1 : 1 < b) (hs : Small 6002 b) (hr : r = false → b = 1) : GoodNum r (t * b + 1) b := by
  cases r with
  | true => exact good_broken h h0 h1 hs
  | false => exact absurd (hr rfl) (fun e => by rw [e] at h1; exact absurd h1 (by decide))
theorem small_one : Small 6002 1 := (small_of_lt (k := 1) (n := 2) (by decide) (by decide) (by decide)).mono (by decide)
theorem at_one {a p q : Int} (h1 : a + 1 ≤ p) (h2 : p ≤ q) : a ≤ q + 1 := by (first | lia | omega)
theorem at_six {a p q : Int} (h1 : p ≤ a + 1 + 2) (h2 : q ≤ p + 2) : q + 1 ≤ a + 6 := by (first | lia | omega)

theorem value_runs {prog : Program} {w : World} {b c : Addr} {cn : Nat} {at' : Int} {ta : Tok} {cells : List Int} {vs : List Value} {o : Obj} {isReal : Bool}
    (hd : o.IsDictOf (PySem.strKind prog w) [("cells", .ref c), ("at", .int at' ta)]) (hcb : c ≠ b) (hv : IntsAre vs cells) (hl : cells.length ≤ 63) (h0 : 0 ≤ at') (h1 : at' < 900) :
    Runs prog w 2 817 [.ref b, .bool isReal] [(b, o), (c, PySem.W.listOf vs.toArray cn)]
      fun r tl => ∃ x top bottom t1 t2 o' ap tp, r = .ref x ∧ GoodNum isReal top bottom ∧ at' ≤ ap ∧ ap ≤ at' + 6 ∧ o'.IsDictOf (PySem.strKind prog w) [("cells", .ref c), ("at", .int ap tp)] ∧
        tl = [(x, { cls := .type "tuple", data := .seq #[.int top t1, .int bottom t2] }), (b, o'), (c, PySem.W.listOf vs.toArray cn)] := by
  unfold Runs
  intro mean mg mb dp un gd cn' cs a ccd cl outer A₀ base h₀ L m s Q E B F X N T hk hd hu hret
  rcases s with ⟨hp0, gs0, dr0, tk0, os0⟩
  dsimp only at F N hret
  have hMark : Mark isReal := trivial
  k_with_none
  k_with "om" => first | (with_reducible first | assumption | exact Mine.r2 (by assumption) (by k_dflt exact rfl) | exact Mine.r0 (by assumption) | exact Mine.i0 (by assumption) (by k_dflt exact rfl) | exact Mine.i1 (by assumption) (by k_dflt exact rfl) | exact Mine.i2 (by assumption) (by k_dflt exact rfl) | exact Mine.i3 (by assumption) (by k_dflt exact rfl) | exact Mine.t1 (by k_dflt exact rfl) | exact Mine.t2 (by k_dflt exact rfl) | exact Int.natCast_nonneg _ | exact Int.le_refl _ | exact Nat.le_refl _ | (refine' Mine.ne_above ?kb8z18 ?km8z18; (case kb8z18 => with_reducible assumption); (case km8z18 => walk_at "key mem")) | (refine Mine.up0 ?_; walk_at "om") | (refine Mine.up3 ?_; walk_at "om")) | (first | lia | omega)
  k_with "rm" => first | ((try dsimp only [depth_under_make, depth_under_kw, depth_in1, depth_deeper, depth_caller, units_in1, units_deeper, Around.mark_units, units_caller, units_under_make, ktrTop]); walk_at "om") | ktr_room | ktr_units
  k_with "con_enter" => (refine' Mine.code_defQ ?k1z29 ?k2z29 ?k3z29 ?k4z29 ?k5z29 ?kAz29 ?kFz29 ?kKz29 ?k6z29 ?k7z29 ?k8z29 ?k9z29 ?kBz29 ?_ ?c2z29 ?c3z29 ?c4z29 ?c5z29; (case kAz29 => exact rfl); (case kFz29 => exact rfl); (case kKz29 => assumption); (case k1z29 => k_asm); (case k2z29 => k_asm); (case k3z29 => k_asm); (case k4z29 => k_asm); (case k5z29 => k_asm); (case k6z29 => k_is); (case k7z29 => k_is); (case k8z29 => walk_at "rm"); (case k9z29 => first | exact BindsTo.of_eq (binds := []) rfl | exact BindsTo.of_eq (binds := [(_, _)]) rfl | exact BindsTo.of_eq (binds := [(_, _), (_, _)]) rfl | exact BindsTo.of_eq (binds := [(_, _), (_, _), (_, _)]) rfl | exact BindsTo.of_eq (binds := [(_, _), (_, _), (_, _), (_, _)]) rfl | exact BindsTo.of_eq (binds := [(_, _), (_, _), (_, _), (_, _), (_, _)]) rfl | exact BindsTo.of_eq rfl); (case c5z29 => decide); (case kBz29 => exact locs rfl); (case c2z29 => exact rfl); (case c3z29 => exact rfl); (case c4z29 => exact rfl); k_whole; intro g' L' h' tk' FG' F' N' B' X' T' S' hL' qk ek)
  k_with "newTuple" => (k_here; k_dflt (refine' Mine.newTupleS ?Fz21 ?Nz21 ?ez21 ?zz21 ?_; (case Fz21 => k_asm); (case Nz21 => k_asm); (case ez21 => (dsimp only [List.map]; (try exact rfl))); (case zz21 => kmk_size)); intro D' h' l1 F' N'; (try k_sweep))
  k_with "LeaveK" => (k_dflt (refine' Mine.leave_con ?hrz24 ?hSz24 ?hFz24 ?hNz24 ?hqz24 ?_; (case hrz24 => assumption); (case hSz24 => assumption); (case hFz24 => k_asm); (case hNz24 => k_asm); (case hqz24 => exact rfl); k_whole))
  k_with "k_all" => assumption
  k_with "key mem" => with_reducible first | exact Mine.m0 | exact Mine.m1 | exact Mine.m2
  k_with "k_mem" => (k_whole; walk_at "key mem")
  k_with "k_ne" => ((refine neN ?_; (try dsimp only)); first | (refine' Mine.ne_below ?kb9z33 ?km9z33; (case kb9z33 => with_reducible assumption); (case km9z33 => walk_at "key mem")) | (refine' Mine.ne_above ?kb9z33 ?km9z33; (case kb9z33 => with_reducible assumption); (case km9z33 => walk_at "key mem")) | walk_at "ne find" | (first | lia | omega))
  k_with "k_all" => (refine' Mine.all_below ?kb9z30 ?km9z30; (case kb9z30 => with_reducible assumption); (case km9z30 => exact rfl))
  k_with "ne find" => first | with_reducible assumption | (refine Ne.symm ?_; with_reducible assumption) | (refine Nat.ne_of_lt ?_; with_reducible assumption) | (refine Nat.ne_of_gt ?_; with_reducible assumption) | ((with_reducible rename _ ∧ _ => hc9); have hc8 := hc9.1; have hc7 := hc9.2; clear hc9; walk_at "ne find")
  k_with "spliced" => (k_here; (refine PyProof.Rows.args_nil ?_); (try dsimp only [List.cons_append, List.nil_append]); (with_reducible show _ ∧ _))
  k_with "call ref" => (k_here; (with_reducible show wpAny _ _ (call (Value.ref 810) _) _ _ _); k_dflt (refine' Mine.scoop_use ?k1z125 ?k2z125 ?k3z125 ?k4z125 ?k5z125 ?kKz125 ?Uz125 ?dz125 ?cz125 ?cbz125 ?vz125 ?lz125 ?p0z125 ?p1z125 ?pmz125 ?kdz125 ?kuz125 ?_; (case k1z125 => k_asm); (case k2z125 => k_asm); (case k3z125 => k_asm); (case k4z125 => k_asm); (case k5z125 => k_asm); (case kKz125 => first | exact rfl | assumption); (case Uz125 => k_updF); (case dz125 => assumption); (case cz125 => k_mem); (case cbz125 => first | assumption | k_ne); (case vz125 => assumption); (case lz125 => assumption); (case p0z125 => walk_at "om"); (case p1z125 => walk_at "om"); (case pmz125 => decide); (case kdz125 => walk_at "rm"); (case kuz125 => walk_at "rm")); intro i' t' t2' o' h' tk' F' N' hd' i0' i1'; (try dsimp only at N'); (try k_sweep))
  k_with "binaryOp Mult int int" => (with_reducible refine mul_int ?_ (mulOk_small (by assumption : Small 20002 _) (by assumption : Small 6002 _) (by decide) (by decide) (by decide)))
  k_with "eval IfExp" => (k_here; (fail_if_success (with_reducible show wpAny _ _ _ (NumPost _ _ _ _ _ _ _ _ _ _ _ _) _ _)); (with_reducible show wpAny _ _ (eval (Expr.IfExp (Expr.Compare (Expr.Name _ _) _ _ _) _ _ _) _) _ _ _); k_dflt (refine' Mine.cut_top ?Fz131 ?Nz131 ?dz131 ?_ ?_; (case Fz131 => k_asm); (case Nz131 => k_asm); (case dz131 => assumption)); rotate_left; intro t1 tt1 h' tk' o' ap tp p1 p2 p3 p4 p5 p6 d' F' N'; rotate_left)
  k_with "eval IfExp" => (k_here; (fail_if_success (with_reducible show wpAny _ _ _ (NumPost _ _ _ _ _ _ _ _ _ _ _ _) _ _)); (with_reducible show wpAny _ _ (eval (Expr.IfExp (Expr.Name _ _) _ _ _) _) _ _ _); k_dflt (refine' Mine.cut_bot ?mkz132 ?Fz132 ?Nz132 ?dz132 ?_ ?_; (case mkz132 => with_reducible assumption); (case Fz132 => k_asm); (case Nz132 => k_asm); (case dz132 => assumption)); rotate_left; intro t2 tt2 h' tk' o' ap tp p1 p2 p3 p4 p5 p6 p7 d' F' N'; rotate_left)
  k_with "NumPost" => (k_dflt (refine' Mine.numPost_of ?Fz133 ?Nz133 ?hbz133 ?hcz133 ?dz133 ?pz133; (case Fz133 => k_asm); (case Nz133 => k_asm); (case hbz133 => k_mem); (case hcz133 => k_mem); (case dz133 => assumption); (case pz133 => k_extra "num post")))
  k_with "num post" => (refine ⟨?_, ?_, ?_, ?_, ?_, ?_⟩; all_goals first | walk_at "om" | exact small_top1 (by walk_at "om") (by walk_at "om") | exact small_top2 (by walk_at "om") (by walk_at "om") (by walk_at "om") (by walk_at "om") | exact Int.add_nonneg (Int.le_of_lt (Int.pow_pos (by decide))) (by walk_at "om"))
  k_with "num post" => (refine ⟨?_, ?_, ?_, ?_, ?_, ?_, ?_⟩; all_goals first | walk_at "om" | exact small_one | exact small_bot (by walk_at "om") (by walk_at "om") (by walk_at "om") (by walk_at "om") | exact bot_pos (by walk_at "om") (by walk_at "om") | exact fun _ => rfl | exact fun q => absurd q (by assumption) | exact fun q => (by simp_all))
  refine wpAny_call ?_
  k_dflt (k_extra "con_enter")
  k_steps
  all_goals try (refine ends_of (Mine.ie8 _ _ _ _ _ _ _ _ ⟨rfl, ?_, at_one (by assumption) (by assumption), at_six (by assumption) (by assumption), by assumption, rfl⟩) (by repeat' (first | exact List.forall_mem_nil _ | refine List.forall_mem_cons.mpr ⟨by k_mem, ?_⟩)))
  all_goals first
    | exact good_brokenR (by assumption) (by assumption) (by assumption) (by assumption) (by assumption)
    | exact GoodNum.neg (good_brokenR (by assumption) (by assumption) (by assumption) (by assumption) (by assumption))
    | exact good_any (by assumption) (by assumption) (by assumption) (by assumption)
    | exact GoodNum.neg (good_any (by assumption) (by assumption) (by assumption) (by assumption))
    | skip
end Mine
end
/- PL -/
section
open PySem PySem.W PyProof.Rows PySem.Calls PySem.Spec PySem.NumText
namespace Mine
set_option maxRecDepth 100000

noncomputable abbrev lc (x : Str) : List Nat := x.cps.toList
theorem lc_len (x : Str) : (lc x).length = x.length := Array.length_toList
theorem lc_app (x y : Str) : lc (x ++ y) = lc x ++ lc y := KT.app_list x y
theorem lc_inj {x y : Str} (h : lc x = lc y) : x = y := by
  cases x; cases y; simp only [lc] at h
  exact congrArg Str.mk (Array.toList_inj.mp h)
theorem lc_empty : lc Str.empty = [] := rfl

noncomputable def digs (n : Nat) : List Nat := (Nat.toDigits 10 n).map Char.toNat
theorem lc_num (n : Nat) : lc (Str.ofString (toString (n : Int))) = digs n := KIN.signs_num n
theorem digs_val (n : Nat) : digitsVal (digs n) = n := KIN.val_back n
theorem digs_all (n : Nat) : AllDigits (digs n) := by
  intro c hc
  (refine Mine.ex1 (List.mem_map.mp hc) fun ch om0 => Mine.an2 om0 fun hch e => ?_; clear om0)
  have r := digit_range (Nat.isDigit_of_mem_toDigits (by decide) (by decide) hch)
  rw [← e]; exact r
theorem digs_ne (n : Nat) : digs n ≠ [] := by
  unfold digs
  intro e
  have h := toDigits_len_ge 10 n
  rw [List.map_eq_nil_iff.mp e] at h
  exact absurd h (by decide)
theorem digs_zero : digs 0 = [48] := rfl
theorem snoc_ind {P : List Nat → Prop} (h0 : P []) (h1 : ∀ b c, P b → P (b ++ [c])) (l : List Nat) : P l := by
  have : ∀ r : List Nat, P r.reverse := by
    intro r
    induction r with
    | nil => exact h0
    | cons c r ih => rw [List.reverse_cons]; exact h1 _ _ ih
  have := this l.reverse
  rwa [List.reverse_reverse] at this
theorem val_app (a b : List Nat) : digitsVal (a ++ b) = digitsVal a * 10 ^ b.length + digitsVal b := by
  induction b using snoc_ind with
  | h0 => simp [digitsVal]
  | h1 b c ih =>
    rw [← List.append_assoc, digitsVal_snoc, ih, digitsVal_snoc, List.length_append, List.length_singleton, Nat.pow_succ, Nat.add_mul, Nat.mul_assoc]
    (first | lia | omega)
theorem val_lt {cs : List Nat} (h : AllDigits cs) : digitsVal cs < 10 ^ cs.length := by
  induction cs using snoc_ind with
  | h0 => decide
  | h1 b c ih =>
    have hb : AllDigits b := fun d hd => h d (List.mem_append_left _ hd)
    have hc := h c (List.mem_append_right _ (List.mem_singleton.mpr rfl))
    have := ih hb
    rw [digitsVal_snoc, List.length_append, List.length_singleton, Nat.pow_succ]
    (first | lia | omega)
theorem val_zeros (k : Nat) : digitsVal (List.replicate k 48) = 0 := by
  induction k with
  | zero => rfl
  | succ k ih => rw [List.replicate_succ, digitsVal_zero, ih]
theorem AllDigits.app {a b : List Nat} (ha : AllDigits a) (hb : AllDigits b) : AllDigits (a ++ b) := fun c hc => (List.mem_append.mp hc).elim (ha c) (hb c)
theorem all_zeros (k : Nat) : AllDigits (List.replicate k 48) := fun c hc => by rw [List.eq_of_mem_replicate hc]; decide

theorem map_toNat_ofNat {cs : List Nat} (h : AllDigits cs) : (cs.map Char.ofNat).map Char.toNat = cs := by
  rw [List.map_map]
  refine (List.map_congr_left fun c hc => ?_).trans (List.map_id cs)
  have := h c hc
  have key : ∀ d : Nat, d ≤ 57 → 48 ≤ d → (Char.ofNat d).toNat = d := by decide
  exact key c this.2 this.1
noncomputable def Plain (cs : List Nat) : Prop := cs = [48] ∨ ∃ c r, cs = c :: r ∧ 49 ≤ c
theorem digs_of {cs : List Nat} (h : AllDigits cs) (hp : Plain cs) : digs (digitsVal cs) = cs := by
  rcases hp with rfl | ⟨c, r, rfl, hc⟩
  · rfl
  · unfold digs
    rw [toDigits_digitsVal r.length (c :: r) rfl h (.inr ⟨c, r, rfl, hc⟩)]
    exact map_toNat_ofNat h
theorem digs_plain (n : Nat) : Plain (digs n) := by
  have ha := digs_all n
  have hv := digs_val n
  have hne := digs_ne n
  have key : digs n = (match (digs n).dropWhile (· == 48) with
    | [] => [48]
    | c :: r => c :: r) := by
    have e := toDigits_all (digs n) ha
    rw [hv] at e
    have e2 : digs n = (match (digs n).dropWhile (· == 48) with
      | [] => ['0']
      | c :: r => (c :: r).map Char.ofNat).map Char.toNat := congrArg (List.map Char.toNat) e
    refine e2.trans ?_
    have hd : AllDigits ((digs n).dropWhile (· == 48)) := fun c hc => ha c ((List.dropWhile_sublist _).subset hc)
    cases hq : (digs n).dropWhile (· == 48) with
    | nil => rfl
    | cons c r => rw [hq] at hd; exact map_toNat_ofNat hd
  cases hq : (digs n).dropWhile (· == 48) with
  | nil => rw [hq] at key; exact .inl key
  | cons c r =>
    rw [hq] at key
    refine .inr ⟨c, r, key, ?_⟩
    have h1 : c ≠ 48 := by
      intro e
      have := List.head?_dropWhile_not (fun x => x == 48) (digs n)
      rw [hq] at this
      simp [e] at this
    have h2 := ha c (by rw [key]; exact .head _)
    (first | lia | omega)
theorem digs_len {n k : Nat} (h : n < 10 ^ k) (hk : 0 < k) : (digs n).length ≤ k := by
  rcases digs_plain n with e | ⟨c, r, e, hc⟩
  · rw [e]; exact hk
  · have h1 : 10 ^ r.length ≤ n := by
      have hv := digs_val n
      rw [e] at hv
      have : digitsVal ([c] ++ r) = digitsVal [c] * 10 ^ r.length + digitsVal r := val_app [c] r
      have e1 : digitsVal [c] = c - 48 := by show 0 * 10 + (c - 48) = _; (first | lia | omega)
      rw [e1] at this
      have e2 : digitsVal ([c] ++ r) = n := hv
      have : 1 * 10 ^ r.length ≤ (c - 48) * 10 ^ r.length := Nat.mul_le_mul_right _ (by (first | lia | omega))
      (first | lia | omega)
    rw [e, List.length_cons]
    have : 10 ^ r.length < 10 ^ k := Nat.lt_of_le_of_lt h1 h
    have := (Nat.pow_lt_pow_iff_right (a := 10) (by decide)).mp this
    (first | lia | omega)
theorem digs_head_pos {n : Nat} (h : n ≠ 0) : ∃ c r, digs n = c :: r ∧ 49 ≤ c := by
  rcases digs_plain n with e | h'
  · have := digs_val n; rw [e] at this; exact absurd this.symm (by simpa [digitsVal] using h)
  · exact h'
end Mine
end
/- Tx -/
section
open PySem PySem.W PyProof.Rows PySem.Calls PySem.Spec PySem.NumText
namespace Mine
set_option maxRecDepth 100000
theorem nodig {p : Program} {loose : List Str} {mean : ExcName → Option Value} {mg mb : Str → Option Value} {h₀ h : Heap} {L : Addr} {m : Str → Option Value} (T : Top p loose mean mg mb h₀) (F : Fr h₀ L h m) : h.NoDigits :=
  let ⟨mc, h1, h2⟩ := T.nodigits; ⟨mc, h1.keeps F.keep, h2⟩
theorem ten_line : 2 ^ 14000 ≤ 10 ^ 4300 := by decide +kernel
theorem str_small {prog : Program} {w : World} {A : Around} {E : Value → Shared → Prop} {s : Shared} {a : Int} {t : Tok} {Q : Value → Shared → Prop} {p : Program} {loose : List Str} {mean : ExcName → Option Value} {mg mb : Str → Option Value} {h₀ : Heap} {L : Addr} {m : Str → Option Value}
    (hh : A.handled = none) (T : Top p loose mean mg mb h₀) (F : Fr h₀ L s.heap m) (hs : Small 14000 a) (h : Q (.str (Str.ofString (toString a)) s.toks) { s with toks := s.toks + 1 }) :
    wpAny (model prog w) A (call (.type "str") [.int a t]) Q E s :=
  str_of_int_or hh (nodig T F) (fun _ => h) fun hge => absurd (Nat.lt_of_lt_of_le hs ten_line) (Nat.not_lt.mpr hge)

theorem bind1 {m : Str → Option Value} {a : Str} {v : Value} (h : m a = some v) : m = fun y => if y = a then some v else m y := by
  funext y
  by_cases e : y = a
  · rw [if_pos e, e, h]
  · rw [if_neg e]
theorem bind2 {m : Str → Option Value} {a b : Str} {v u : Value} (h : m a = some v) (h' : m b = some u) : m = fun y => if y = a then some v else if y = b then some u else m y := by
  funext y
  by_cases e : y = a
  · rw [if_pos e, e, h]
  · rw [if_neg e]
    by_cases e' : y = b
    · rw [if_pos e', e', h']
    · rw [if_neg e']
theorem bind3 {m : Str → Option Value} {a b c : Str} {v u x : Value} (h : m a = some v) (h' : m b = some u) (h'' : m c = some x) : m = fun y => if y = a then some v else if y = b then some u else if y = c then some x else m y := by
  funext y
  by_cases e : y = a
  · rw [if_pos e, e, h]
  · rw [if_neg e]
    by_cases e' : y = b
    · rw [if_pos e', e', h']
    · rw [if_neg e']
      by_cases e2 : y = c
      · rw [if_pos e2, e2, h'']
      · rw [if_neg e2]
theorem mul_zero_text (i : Int) : lc (Txt.mul (Str.ofString "0") i) = List.replicate i.toNat 48 := by
  have e0 : (Str.ofString "0") = ⟨#[48]⟩ := by decide +kernel
  rw [e0]
  unfold Txt.mul
  have key : ∀ n : Nat, ((List.replicate n (#[48] : Array Nat)).foldl (· ++ ·) #[]).toList = List.replicate n 48 := by
    intro n
    have g : ∀ (n : Nat) (a : Array Nat), ((List.replicate n (#[48] : Array Nat)).foldl (· ++ ·) a).toList = a.toList ++ List.replicate n 48 := by
      intro n
      induction n with
      | zero => intro a; simp
      | succ n ih => intro a; rw [List.replicate_succ, List.foldl_cons, ih]; simp [List.replicate_succ]
    rw [g]; rfl
  split
  · have : i.toNat = 0 := by (first | lia | omega)
    rw [this]; rfl
  · split
    · rename_i h1 h2
      have : i = 1 := by simpa [Str.length] using h2
      subst this; rfl
    · exact key _
theorem flat_foldl (acc : Array Nat) : ∀ rest : List Str, (rest.foldl (fun a p => a ++ (Str.ofString "").cps ++ p.cps) acc).toList = acc.toList ++ (rest.map lc).flatten := by
  intro rest
  have e0 : (Str.ofString "").cps = #[] := by decide +kernel
  induction rest generalizing acc with
  | nil => simp
  | cons a r ih => rw [List.foldl_cons, ih, e0]; simp
theorem lc_join : ∀ l : List Str, lc (Txt.join (Str.ofString "") l) = (l.map lc).flatten := by
  intro l
  show lc (Builtin.Str.glued (Str.ofString "") l) = _
  rw [StrLaws.glued_eq_join]
  cases l with
  | nil => rfl
  | cons x r =>
    rw [← StrLaws.glued_cons]
    exact flat_foldl x.cps r

section
variable {prog : Program} {w : World} {A : Around} {E : Value → Shared → Prop} {s : Shared} {t u : Tok} {Q : Value → Shared → Prop}
theorem str_digs {p : Program} {loose : List Str} {mean : ExcName → Option Value} {mg mb : Str → Option Value} {h₀ : Heap} {L : Addr} {m : Str → Option Value} {a : Int} {K : Nat}
    (hh : A.handled = none) (T : Top p loose mean mg mb h₀) (F : Fr h₀ L s.heap m) (ha : 0 ≤ a) (hs : a.toNat < 10 ^ K) (hK : 0 < K) (hK2 : K ≤ 4000)
    (h : ∀ x t' k, lc x = digs a.toNat → x.length ≤ K → Q (.str x t') { s with toks := k }) :
    wpAny (model prog w) A (call (.type "str") [.int a t]) Q E s := by
  (refine Mine.ex1 (Int.eq_ofNat_of_zero_le ha) fun n oq1 => ?_; subst oq1)
  rw [Int.toNat_natCast] at hs h
  refine str_of_int_or hh (nodig T F) (fun _ => h _ _ _ (lc_num n) ?_) fun hge => absurd (Nat.lt_of_lt_of_le hs (Nat.pow_le_pow_right (by decide) (Nat.le_trans hK2 (by decide)))) (Nat.not_lt.mpr hge)
  rw [← lc_len, lc_num]
  exact digs_len hs hK
theorem len_hashb : (Str.ofString "#b").length = 2 := by decide
theorem len_bar : (Str.ofString "|").length = 1 := by decide
theorem len_txt {x : Str} (hx : x.length ≤ 16777216) (h : ∀ t' k, Q (.int x.length t') { s with toks := k }) : wpAny (model prog w) A (call (.builtin "len") [.str x t]) Q E s :=
  P.len_str (by (first | lia | omega)) (h _ _)
theorem mul_txt {i : Int} (h0 : 0 ≤ i) (h1 : i ≤ 1000000) (h : ∀ z t' k, lc z = List.replicate i.toNat 48 → z.length = i.toNat → Q (.str z t') { s with toks := k }) :
    wpAny (model prog w) A (binaryOp .Mult (.str (Str.ofString "0") t) (.int i u)) Q E s :=
  SB.mul (mulOk_of 1 1000000 (by decide) h1 (by (first | lia | omega)) (by decide) (by decide)) fun t' k => h _ _ _ (mul_zero_text i) (by rw [← lc_len, mul_zero_text, List.length_replicate])
theorem add_txt {x y : Str} (hsz : x.length + y.length ≤ 16777216) (h : ∀ z t' k, z = x ++ y → z.length = x.length + y.length → Q (.str z t') { s with toks := k }) :
    wpAny (model prog w) A (binaryOp .Add (.str x t) (.str y u)) Q E s :=
  PyProof.Rows.add_str (fun t' tk => h _ _ _ rfl (strLen_append x y)) (by rw [sizeLine_eq]; exact hsz)
theorem strsAre_values : ∀ l : List (Str × Tok), StrsAre (strValues l) (l.map (·.1))
  | [] => .nil
  | _ :: r => .cons _ _ (strsAre_values r)
theorem join_txt {D : Addr} {l : List (Str × Tok)} (hl : s.heap.IsList D (strValues l).toArray) {B : Nat} (hB : ∀ x ∈ l, x.1.length ≤ B) (hn : l.length * B ≤ 16777216)
    (h : ∀ z t' k, lc z = (l.map fun x => lc x.1).flatten → z.length ≤ l.length * B → Q (.str z t') { s with toks := k }) :
    wpAny (model prog w) A (call (.builtin "str.join") [.str (Str.ofString "") t, .ref D]) Q E s := by
  have e0 : (Str.ofString "").length = 0 := by decide
  have el : lc (Txt.join (Str.ofString "") (l.map (·.1))) = (l.map fun x => lc x.1).flatten := by rw [lc_join, List.map_map]; rfl
  refine join_list hl (strsAre_values l) ?_ fun t' k => h _ t' k el ?_
  · rw [e0, Nat.mul_zero]
    have := StrLaws.sumLen_le (B := B) (l.map (·.1)) (fun y hy => by (refine Mine.ex1 (List.mem_map.mp hy) fun x om0 => Mine.an2 om0 fun hx oq2 => ?_; clear om0; subst oq2); exact hB x hx)
    rw [List.length_map] at this
    (first | lia | omega)
  · rw [← lc_len, el]
    clear el h hn hl
    induction l with
    | nil => simp
    | cons a r ih =>
      have h1 := ih fun x hx => hB x (.tail _ hx)
      have h2 := hB a (.head _)
      simp only [List.map_cons, List.flatten_cons, List.length_append, List.length_cons, Nat.add_mul, lc_len] at *
      (first | lia | omega)
theorem strValues_push (l : List (Str × Tok)) (x : Str) (t : Tok) : (strValues l).toArray.push (.str x t) = (strValues (l ++ [(x, t)])).toArray := by simp [strValues]
theorem strValues_rev (l : List (Str × Tok)) : (strValues l).reverse = strValues l.reverse := by simp [strValues]
theorem strValues_size (l : List (Str × Tok)) : (strValues l).toArray.size = l.length := by simp [strValues]
theorem strValues_rev' (l : List (Str × Tok)) : (strValues l).toArray.toList.reverse = strValues l.reverse := by simp [strValues]
end
section
variable {prog : Program} {w : World} {A : Around} {E : Value → Shared → Prop} {s : Shared} {env : Env} {h₀ : Heap} {x : Str} {body : List Stmt} {Q : Flow → Shared → Prop}
theorem range_inv {r : Addr} {a₀ b₀ st : Int} {t₀ u₀ v₀ : Tok} {n : Nat} {m₀ : Str → Option Value} {news : List (Addr × Obj)} (J : Nat → (Str → Option Value) → List (Addr × Obj) → Prop)
    (hh : A.handled = none) (hr : IsRange s.heap r a₀ b₀ st t₀ u₀ v₀) (hsmall : Builtin.Range.small a₀ b₀ st = true) (hn : Builtin.Range.rangeSize a₀ b₀ st = (n : Int)) (F : Fr h₀ env.locals s.heap m₀) (N : News h₀ env.locals s.heap news) (hj : J 0 m₀ news)
    (turn : ∀ i t m₁ nx h tk own, i < n → OwnOff own (nx.map (·.1)) → J i m₁ nx → Fr h₀ env.locals h (fun y => if y = x then some (.int (a₀ + (i : Int) * st) t) else m₁ y) → News h₀ env.locals h (nx ++ own) →
      wpAny (model prog w) A (execs body env) (InvPostN h₀ env.locals (J (i + 1)) own (nx.map (·.1)) { s with heap := h, toks := tk } Q) E { s with heap := h, toks := tk })
    (done : ∀ m₁ nx h tk, J n m₁ nx → Fr h₀ env.locals h m₁ → News h₀ env.locals h nx → Q .next { s with heap := h, toks := tk }) :
    wpAny (model prog w) A (pyIter (.ref r)) (fun it s₂ => LoopAtV prog w A h₀ env x body Q E it s₂) E s := by
  refine wpAny_pyIter_range hr hsmall ?_
  have W : Walks prog w A s.heap.objs.size [s.heap.objs.size] [s.heap.objs.size] n (fun i v => i < n ∧ ∃ t, v = .int (a₀ + i * st) t)
      (fun i h => IsRangeIter h s.heap.objs.size (a₀ + (i : Nat) * st) ((n : Int) - (i : Nat)) st) := (Walks.range hh _ a₀ st n).bound
  refine loop_invN J W ?_ ?_ ?_ ?_ (by show IsRangeIter _ _ _ _ _; rw [hn]; simpa using Heap.get?_push_size _ rfl) (F.push _) (fun p hp => ⟨Heap.get?_push_of_some _ (N p hp).1, (N p hp).2⟩) hj ?_ ?_
  · intro hm
    exact absurd F.ns.lt ((List.mem_singleton.mp hm) ▸ Nat.lt_irrefl _)
  · intro b hb
    rw [List.mem_singleton.mp hb]
    exact next_is_new F
  · intro p hp hI
    exact absurd (Heap.lt_size (N p hp).1) ((List.mem_singleton.mp hI) ▸ Nat.lt_irrefl _)
  · intro p hp hI
    exact absurd (Heap.lt_size (N p hp).1) ((List.mem_singleton.mp hI) ▸ Nat.lt_irrefl _)
  · rintro i v m₁ nx h tk own hi ⟨_, t, rfl⟩ ha hoff hJ F₁ N₁
    rw [← ha] at hoff ⊢
    exact turn i t m₁ nx h tk own hi hoff hJ F₁ N₁
  · intro m₁ nx h tk hJ F₁ N₁
    exact done m₁ nx h tk hJ F₁ N₁
end
theorem in_topstrs {prog : Program} {w : World} {A : Around} {E : Value → Shared → Prop} {s : Shared} {K : Frag} {h₀ : Heap} {L a : Addr} {m : Str → Option Value} {l : List Value} {dd : Option Addr} {sl : Array (Option Value)} {n : Nat} {ys : List Str} {x : Str} {u : Tok} {Q : Value → Shared → Prop}
    (F : Fr h₀ L s.heap m) (X : K.In h₀) (hl : K.lookup a = some ⟨.type "tuple", dd, .seq l.toArray n, sl⟩) (hi : StrsAre l ys) (b : Bool) (hb : ys.any (· == x) = b) (h : Q (.bool b) s) :
    wpAny (model prog w) A (compareOp .In (.str x u) (.ref a)) Q E s :=
  in_tuple_strs (tupK (X.keeps F.keep) hl) hi (by rw [hb]; exact h)
section
variable {prog : Program} {w : World} {A : Around} {E : Value → Shared → Prop} {s : Shared} {x y : Str} {t u : Tok} {Q : Value → Shared → Prop}
theorem in_lit (b : Bool) (hb : (!(Builtin.Str.occurrences x y 0 x.length 1).isEmpty) = b) (h : Q (.bool b) s) : wpAny (model prog w) A (compareOp .In (.str y u) (.str x t)) Q E s := P.in_str (by rw [hb]; exact h)
theorem notin_lit (b : Bool) (hb : (!(!(Builtin.Str.occurrences x y 0 x.length 1).isEmpty)) = b) (h : Q (.bool b) s) : wpAny (model prog w) A (compareOp .NotIn (.str y u) (.str x t)) Q E s := P.notIn_str (by rw [hb]; exact h)
theorem eq_lit (b : Bool) (hb : (x.cps.toList == y.cps.toList) = b) (h : Q (.bool b) s) : wpAny (model prog w) A (compareOp .Eq (.str x t) (.str y u)) Q E s := P.eq_str (by rw [hb]; exact h)
theorem ne_lit (b : Bool) (hb : (x.cps.toList != y.cps.toList) = b) (h : Q (.bool b) s) : wpAny (model prog w) A (compareOp .NotEq (.str x t) (.str y u)) Q E s := P.ne_str (by rw [hb]; exact h)
theorem len_lit (n : Nat) (hn : x.length = n) (hn2 : n ≤ 1000000) (h : ∀ t' k, Q (.int n t') { s with toks := k }) : wpAny (model prog w) A (call (.builtin "len") [.str x t]) Q E s := by
  subst hn
  exact P.len_str (by (first | lia | omega)) (h _ _)
end
end Mine
open PySem PySem.W PyProof.Rows PySem.Calls PySem.Spec Mine
end
local macro_rules | `(tactic| k_room) => `(tactic| walk_at "rm")
/- T3 -/
section
open PySem PySem.W PyProof.Rows PySem.Calls PySem.Spec PySem.NumText
namespace Mine
set_option maxRecDepth 100000
set_option maxHeartbeats 8000000 

noncomputable def FigJ (n : Nat) (k : Nat) (m : Str → Option Value) (news : List (Addr × Obj)) : Prop :=
  ∃ (tn : Tok) (ba : Addr) (l : List (Str × Tok)) (e : Nat) (C : List Nat), m "number" = some (.int k tn) ∧ m "blocks" = some (.ref ba) ∧ news = [(ba, PySem.W.listOf (strValues l).toArray e)] ∧
    C = ((l.map fun x => lc x.1).reverse).flatten ∧ k * 10 ^ C.length + digitsVal C = n ∧ AllDigits C ∧ (∀ x ∈ l, x.1.length = 1000) ∧ C.length = 1000 * l.length ∧ l.length ≤ 8 ∧ (l = [] ∨ 1 ≤ k)

structure RFacts (R : Int) : Prop where
  eq : R = 10 ^ 1000
theorem RFacts.pos {R : Int} (h : RFacts R) : 0 < R := by rw [h.eq]; exact Int.pow_pos (by decide)
theorem RFacts.log {R : Int} (h : RFacts R) : R.natAbs.log2 < 9000 := by rw [h.eq]; decide +kernel
theorem RFacts.lt {R : Int} (h : RFacts R) {a : Int} (ha : ¬ R ≤ a) : a.toNat < 10 ^ 1000 := by
  rw [h.eq] at ha
  have : ((10 : Int) ^ 1000).toNat = 10 ^ 1000 := by decide +kernel
  (first | lia | omega)
theorem RFacts.mod_lt {R : Int} (h : RFacts R) (a : Int) : (a.fmod R).toNat < 10 ^ 1000 := by
  have h1 := Int.fmod_lt_of_pos a h.pos
  have h2 := Int.fmod_nonneg_of_pos a h.pos
  rw [h.eq] at *
  have : ((10 : Int) ^ 1000).toNat = 10 ^ 1000 := by decide +kernel
  (first | lia | omega)

theorem RFacts.fdiv {R : Int} (h : RFacts R) (k : Nat) : (k : Int).fdiv R = ((k / 10 ^ 1000 : Nat) : Int) := by
  have e : R = ((10 ^ 1000 : Nat) : Int) := by rw [h.eq]; exact (Int.natCast_pow 10 1000).symm
  rw [e]; exact (Int.ofNat_fdiv _ _).symm
theorem RFacts.fmod {R : Int} (h : RFacts R) (k : Nat) : (k : Int).fmod R = ((k % 10 ^ 1000 : Nat) : Int) := by
  have e : R = ((10 ^ 1000 : Nat) : Int) := by rw [h.eq]; exact (Int.natCast_pow 10 1000).symm
  rw [e]; exact (Int.ofNat_fmod _ _).symm
theorem fig_text {k : Nat} {R : Int} (hR : RFacts R) {x y z : Str} (hx : lc x = digs ((k : Int).fmod R).toNat) (hl : x.length ≤ 1000) (hy : lc y = List.replicate (1000 - (x.length : Int)).toNat 48) (hz : z = y ++ x) :
    z.length = 1000 ∧ AllDigits (lc z) ∧ digitsVal (lc z) = k % 10 ^ 1000 := by
  rw [hR.fmod, Int.toNat_natCast] at hx
  have ez : lc z = lc y ++ lc x := by rw [hz]; exact lc_app y x
  refine ⟨?_, ?_, ?_⟩
  · rw [← lc_len, ez, List.length_append, hy, List.length_replicate, lc_len]; (first | lia | omega)
  · rw [ez, hy, hx]; exact AllDigits.app (all_zeros _) (digs_all _)
  · rw [ez, val_app, hy, val_zeros, Nat.zero_mul, Nat.zero_add, hx, digs_val]
theorem fig_bound {n j c : Nat} (hn : Small 26010 (n : Int)) (hj : 1 ≤ j) (h : j * 10 ^ (1000 * c) ≤ n) : c ≤ 7 := by
  refine Nat.le_of_not_lt fun hc => ?_
  have h1 : 10 ^ (1000 * 8) ≤ n := Nat.le_trans (Nat.pow_le_pow_right (by decide) (by (first | lia | omega))) (Nat.le_trans (Nat.le_mul_of_pos_left _ hj) h)
  have h2 : n < 2 ^ 26010 := hn
  have h3 : 2 ^ 26010 ≤ 10 ^ (1000 * 8) := by decide +kernel
  exact absurd (Nat.lt_of_lt_of_le h2 (Nat.le_trans h3 h1)) (Nat.lt_irrefl _)
theorem fig_turn {n k : Nat} {R : Int} (hR : RFacts R) (hn : Small 26010 (n : Int)) {l : List (Str × Tok)} {C : List Nat} {x y z : Str} {t : Tok} (hx : lc x = digs ((k : Int).fmod R).toNat) (hl : x.length ≤ 1000) (hy : lc y = List.replicate (1000 - (x.length : Int)).toNat 48) (hz : z = y ++ x)
    (hC : C = ((l.map fun x => lc x.1).reverse).flatten) (hv : k * 10 ^ C.length + digitsVal C = n) (hall : AllDigits C) (hlen : ∀ x ∈ l, x.1.length = 1000) (hCl : C.length = 1000 * l.length) (hle : R ≤ (k : Int)) :
    k / 10 ^ 1000 < k ∧ ∃ C', C' = (((l ++ [(z, t)]).map fun x => lc x.1).reverse).flatten ∧ (k / 10 ^ 1000) * 10 ^ C'.length + digitsVal C' = n ∧ AllDigits C' ∧ (∀ x ∈ l ++ [(z, t)], x.1.length = 1000) ∧ C'.length = 1000 * (l ++ [(z, t)]).length ∧ (l ++ [(z, t)]).length ≤ 8 ∧ 1 ≤ k / 10 ^ 1000 := by
  (refine Mine.an3 (fig_text hR hx hl hy hz) fun z1 z2 z3 => ?_)
  have hk : 10 ^ 1000 ≤ k := by
    have e : R = ((10 ^ 1000 : Nat) : Int) := by rw [hR.eq]; exact (Int.natCast_pow 10 1000).symm
    rw [e] at hle; exact Int.ofNat_le.mp hle
  have hp : 0 < 10 ^ 1000 := Nat.pow_pos (by decide)
  have hk1 : 1 ≤ k / 10 ^ 1000 := (Nat.one_le_div_iff hp).mpr hk
  have hlt : k / 10 ^ 1000 < k := Nat.div_lt_self (Nat.lt_of_lt_of_le hp hk) (Nat.one_lt_pow (by decide) (by decide))
  have zl : (lc z).length = 1000 := by rw [lc_len]; exact z1
  have hval : (k / 10 ^ 1000) * 10 ^ (lc z ++ C).length + digitsVal (lc z ++ C) = n := by
    rw [List.length_append, zl, Nat.pow_add, val_app, z3, ← Nat.mul_assoc, ← Nat.add_assoc, ← Nat.add_mul, Nat.mul_comm (k / 10 ^ 1000), Nat.div_add_mod, hv]
  have hlen' : (lc z ++ C).length = 1000 * (l ++ [(z, t)]).length := by
    rw [List.length_append, List.length_append, zl, hCl]; simp only [List.length_cons, List.length_nil]; (first | lia | omega)
  refine ⟨hlt, lc z ++ C, ?_, hval, AllDigits.app z2 hall, ?_, hlen', ?_, hk1⟩
  · rw [hC]; simp
  · intro q hq
    rcases List.mem_append.mp hq with hq | hq
    · exact hlen q hq
    · rw [List.mem_singleton.mp hq]; exact z1
  · rw [hlen'] at hval
    have := fig_bound hn hk1 (by rw [← hval]; exact Nat.le_add_right _ _ : (k / 10 ^ 1000) * 10 ^ (1000 * (l ++ [(z, t)]).length) ≤ n)
    (first | lia | omega)
theorem fig_end {n k : Nat} {R : Int} {l : List (Str × Tok)} {C : List Nat} {x z : Str} {t : Tok} (hx : lc x = digs (k : Int).toNat)
    (hC : C = ((l.map fun x => lc x.1).reverse).flatten) (hv : k * 10 ^ C.length + digitsVal C = n) (hall : AllDigits C) (hl1 : l = [] ∨ 1 ≤ k)
    (hz : lc z = ((l ++ [(x, t)]).reverse.map fun x => lc x.1).flatten) : lc z = digs n := by
  rw [Int.toNat_natCast] at hx
  have e : lc z = digs k ++ C := by rw [hz, hC, ← hx]; simp
  have hval : digitsVal (digs k ++ C) = n := by rw [val_app, digs_val, hv]
  rw [e, ← hval]
  refine (digs_of (AllDigits.app (digs_all k) hall) ?_).symm
  rcases hl1 with rfl | h
  · rw [hC]; simpa using digs_plain k
  · (first | (refine Mine.ex2 (digs_head_pos (show k ≠ 0 by (first | lia | omega))) fun c r om0 => Mine.an2 om0 fun e hc => ?_; clear om0) | obtain ⟨c, r, e, hc⟩ := digs_head_pos (show k ≠ 0 by (first | lia | omega)))
    exact .inr ⟨c, r ++ C, by rw [e]; rfl, hc⟩


theorem figures_runs {prog : Program} {w : World} {n : Nat} {t : Tok} {R : Int} {rt : Tok} (hn : Small 26010 n) (hR : RFacts R) (hin : nsIn (Mine.heap w.params) mainGlobals (Str.ofString "ROUND") = some (some (.int R rt))) :
    Runs prog w 1 158 [.int n t] []
      fun r tl => ∃ x t', r = .str x t' ∧ lc x = digs n ∧ tl = [] := by
  unfold Runs
  intro mean mg mb dp un gd cn' cs a ccd cl outer A₀ base h₀ L m s Q E B F X N T hk hd hu hret
  rcases s with ⟨hp0, gs0, dr0, tk0, os0⟩
  dsimp only at F N hret
  have hR0 := hR.pos
  have hRl := hR.log
  k_with_none
  k_with "om" => first | (with_reducible first | assumption | exact Mine.r0 (by assumption) | exact Mine.n2 (by assumption) (by k_dflt exact rfl) | exact Int.natCast_nonneg _ | exact Int.le_refl _ | exact Nat.le_refl _) | (first | lia | omega)
  k_with "rm" => first | ((try dsimp only [depth_under_make, depth_under_kw, depth_in1, depth_deeper, depth_caller, units_in1, units_deeper, Around.mark_units, units_caller, units_under_make, ktrTop]); walk_at "om") | ktr_room | ktr_units
  k_with "con_enter" => (refine' Mine.code_defQ ?k1z29 ?k2z29 ?k3z29 ?k4z29 ?k5z29 ?kAz29 ?kFz29 ?kKz29 ?k6z29 ?k7z29 ?k8z29 ?k9z29 ?kBz29 ?_ ?c2z29 ?c3z29 ?c4z29 ?c5z29; (case kAz29 => exact rfl); (case kFz29 => exact rfl); (case kKz29 => assumption); (case k1z29 => k_asm); (case k2z29 => k_asm); (case k3z29 => k_asm); (case k4z29 => k_asm); (case k5z29 => k_asm); (case k6z29 => k_is); (case k7z29 => k_is); (case k8z29 => walk_at "rm"); (case k9z29 => first | exact BindsTo.of_eq (binds := []) rfl | exact BindsTo.of_eq (binds := [(_, _)]) rfl | exact BindsTo.of_eq (binds := [(_, _), (_, _)]) rfl | exact BindsTo.of_eq (binds := [(_, _), (_, _), (_, _)]) rfl | exact BindsTo.of_eq (binds := [(_, _), (_, _), (_, _), (_, _)]) rfl | exact BindsTo.of_eq (binds := [(_, _), (_, _), (_, _), (_, _), (_, _)]) rfl | exact BindsTo.of_eq rfl); (case c5z29 => decide); (case kBz29 => exact locs rfl); (case c2z29 => exact rfl); (case c3z29 => exact rfl); (case c4z29 => exact rfl); k_whole; intro g' L' h' tk' FG' F' N' B' X' T' S' hL' qk ek)
  k_with "newList" => (k_here; k_dflt (refine' Mine.newListS ?Fz22 ?Nz22 ?ez22 ?zz22 ?_; (case Fz22 => k_asm); (case Nz22 => k_asm); (case ez22 => (dsimp only [List.map]; (try exact rfl))); (case zz22 => size_fits); k_whole); intro l' h' l1 F' N'; (try k_sweep))
  k_with "LeaveK" => (k_dflt (refine' Mine.leave_con ?hrz24 ?hSz24 ?hFz24 ?hNz24 ?hqz24 ?_; (case hrz24 => assumption); (case hSz24 => assumption); (case hFz24 => k_asm); (case hNz24 => k_asm); (case hqz24 => exact rfl); k_whole))
  k_with "k_all" => assumption
  k_with "key mem" => fail
  k_with "k_mem" => (k_whole; walk_at "key mem")
  k_with "k_ne" => ((refine neN ?_; (try dsimp only)); first | (refine' Mine.ne_below ?kb9z33 ?km9z33; (case kb9z33 => with_reducible assumption); (case km9z33 => walk_at "key mem")) | (refine' Mine.ne_above ?kb9z33 ?km9z33; (case kb9z33 => with_reducible assumption); (case km9z33 => walk_at "key mem")) | walk_at "ne find" | (first | lia | omega))
  k_with "k_all" => (refine' Mine.all_below ?kb9z30 ?km9z30; (case kb9z30 => with_reducible assumption); (case km9z30 => exact rfl))
  k_with "ne find" => first | with_reducible assumption | (refine Ne.symm ?_; with_reducible assumption) | (refine Nat.ne_of_lt ?_; with_reducible assumption) | (refine Nat.ne_of_gt ?_; with_reducible assumption) | ((with_reducible rename _ ∧ _ => hc9); have hc8 := hc9.1; have hc7 := hc9.2; clear hc9; walk_at "ne find")
  k_with "spliced" => (k_here; (refine PyProof.Rows.args_nil ?_); (try dsimp only [List.cons_append, List.nil_append]); (with_reducible show _ ∧ _))
  k_with "exec While Compare cons nil" => k_extra "my while"
  k_with "eval Name" => (k_here; (with_reducible show wpAny _ _ (eval (Expr.Name (Str.ofString "ROUND") _) _) _ _ _); (with_reducible rename Fr _ _ _ _ => kF); k_dflt (refine' name_K kF ?k1z168 ?k2z168 ?k3z168 ?_; (case k1z168 => k_asm); (case k2z168 => k_asm); (case k3z168 => assumption); k_whole))
  k_with "call type:str" => (k_here; (with_reducible show wpAny _ _ (call (Value.type "str") [Value.int _ _]) _ _ _); k_dflt (refine' Mine.str_digs ?hz169 ?Tz169 ?Fz169 ?az169 ?sz169 ?k1z169 ?k2z169 ?_; (case hz169 => exact rfl); (case Tz169 => k_asm); (case Fz169 => k_asm); (case sz169 => k_extra "small"); (case az169 => k_extra "nonneg"); (case k1z169 => decide); (case k2z169 => decide)); intro x' t' k' hx' hl')
  k_with "call builtin:len" => (k_here; (with_reducible show wpAny _ _ (call (Value.builtin "len") [Value.str _ _]) _ _ _); (fail_if_success (with_reducible show wpAny _ _ (call (Value.builtin "len") [Value.str (PySem.Str.ofString _) _]) _ _ _)); (refine Mine.len_txt (by walk_at "om") ?_); intro t' k')
  k_with "binaryOp Mult str int" => (k_here; (with_reducible show wpAny _ _ (binaryOp Operator.Mult (Value.str (Str.ofString "0") _) (Value.int _ _)) _ _ _); (refine Mine.mul_txt (by walk_at "om") (by walk_at "om") ?_); intro x' t' k' hx' hl')
  k_with "binaryOp Add str str" => (k_here; (with_reducible show wpAny _ _ (binaryOp Operator.Add (Value.str _ _) (Value.str _ _)) _ _ _); (refine Mine.add_txt (by first | walk_at "om" | (simp only [Mine.len_hashb, Mine.len_bar]; walk_at "om")) ?_); intro x' t' k' hx' hl')
  k_with "call builtin:list.append" => (k_here; (with_reducible show wpAny _ _ (call (Value.builtin _) [Value.ref _, _]) _ _ _); k_dflt (refine' append_K ?k1z154 ?k2z154 ?k3z154 ?_ ?zz154; (case k1z154 => k_asm); (case k2z154 => k_asm); (case k3z154 => k_upd); (case zz154 => first | (rw [Mine.strValues_size, sizeLine_eq]; walk_at "om") | k_extra "room"); k_whole); intro h' F' N'; (try rw [Mine.strValues_push] at N'); (try k_sweep))
  k_with "call builtin:str.join" => (k_here; (with_reducible show wpAny _ _ (call (Value.builtin "str.join") [Value.str _ _, Value.ref _]) _ _ _); k_dflt (refine' Mine.join_txt ?lz155 ?Bz155 ?nz155 ?_; (case lz155 => is_list); (case Bz155 => k_extra "join each"); (case nz155 => k_extra "join all"); k_whole); intro z' t' k' hz' hlz')
  k_with "subscriptTail Name Slice ref ref" => (k_here; (with_reducible show wpAny _ _ (subscriptTail _ (PySem.Expr.Slice none none (some _) _) (Value.ref _) (Value.ref _)) _ _ _); k_dflt (refine' krv_lit ?Fz156 ?Nz156 ?lz156 ?kz156 ?ez156 ?_ ?sz156 ?tz156 ?zz156; (case Fz156 => k_asm); (case Nz156 => k_asm); (case lz156 => kmk_list); (case kz156 => exact IsPart.int _ _); (case ez156 => exact Mine.strValues_rev' _); (case sz156 => with_unfolding_all rfl); (case tz156 => kmk_pure); (case zz156 => (rw [Mine.strValues_size, sizeLine_eq]; (try simp only [List.length_append, List.length_cons, List.length_nil]); walk_at "om"))); intro D' h' F' N' l1; (try k_lt l1); (try k_sweep))
  k_with "binaryOp FloorDiv int int" => (k_here; (with_reducible refine floordiv_int ?kbez134 ?_ (Or.inl (PyProof.noPylong_of_log2 ?kbpz134))); (case kbez134 => walk_at "om"); (case kbpz134 => assumption))
  k_with "my while" => ((with_reducible rename Fr _ _ _ _ => kF); (with_reducible rename News _ _ _ _ => kN); (k_dflt (refine' While_inv2 (n₀ := n) (FigJ n) kF kN ?j ?turn ?e)); (case e => passes_own); (case j => exact ⟨_, _, [], _, [], rfl, rfl, rfl, rfl, by simp [digitsVal], (fun c hc => nomatch hc), (fun c hc => nomatch hc), rfl, by decide, .inl rfl⟩); (intro k m₁ news₁ h₁ tk₁ F₁ N₁ J₁); ((k_dflt (refine Mine.ex5 J₁ fun tn ba l e C om0 => Mine.an10 om0 fun hm1 hm2 oq7 hC hv hall hlen hCl hl8 hl1 => ?_); clear om0; (try clear J₁); subst oq7)); (rw [bind2 hm1 hm2] at F₁))
  k_with "small" => first | exact hR.mod_lt _ | exact hR.lt (by walk_at "om")
  k_with "nonneg" => first | exact Int.fmod_nonneg_of_pos _ hR0 | walk_at "om"
  refine wpAny_call ?_
  k_dflt (k_extra "con_enter")
  k_with "join each" => (intro q hq; rcases List.mem_append.mp (List.mem_reverse.mp hq) with hq | hq <;> first | exact Nat.le_of_eq (hlen q hq) | (rw [List.mem_singleton.mp hq]; assumption))
  k_with "join all" => (rw [List.length_reverse, List.length_append]; simp only [List.length_cons, List.length_nil]; walk_at "om")
  k_steps
  · (first | (refine Mine.an2 (fig_turn hR hn (by assumption) (by assumption) (by assumption) (by assumption) hC hv hall hlen hCl (by assumption)) fun j0 om0 => Mine.ex1 om0 fun C' om1 => Mine.an7 om1 fun j1 j2 j3 j4 j5 j6 j7 => ?_; clear om0 om1) | obtain ⟨j0, C', j1, j2, j3, j4, j5, j6, j7⟩ := fig_turn hR hn (by assumption) (by assumption) (by assumption) (by assumption) hC hv hall hlen hCl (by assumption))
    refine Mine.ie5 _ _ _ _ _ ⟨rfl, by assumption, by assumption, j0, Mine.ie5 _ ba _ _ C' ⟨congrArg (fun z => some (Value.int z _)) (hR.fdiv k), rfl, rfl, j1, j2, j3, j4, j5, j6, .inr j7⟩⟩
  · exact ends_of ⟨_, _, rfl, fig_end (R := R) (by assumption) hC hv hall hl1 (by assumption), rfl⟩ (List.forall_mem_nil _)

theorem rnd_ex (w : World) : ∃ (R : Int) (rt : Tok), RFacts R ∧ nsIn (Mine.heap w.params) mainGlobals (Str.ofString "ROUND") = some (some (.int R rt)) := by
  refine ⟨_, _, ?_, by k_is⟩
  exact ⟨by decide +kernel⟩

noncomputable abbrev Reads0 (prog : Program) (w : World) (n : Nat) (f : Addr) (vs : List Value) (foot : List (Addr × Obj)) (P : Value → Prop) : Prop := Runs prog w n f vs foot (fun r tl => P r ∧ tl = foot)

theorem Runs.useC {prog : Program} {w : World} {n : Nat} {f : Addr} {vs : List Value} {foot news : List (Addr × Obj)} {P : Value → Prop} (C : Reads0 prog w n f vs foot P)
    {mean : ExcName → Option Value} {mg mb : Str → Option Value} {dp un : Nat} {gd : Option (List Code)} {cn : Str} {cs : Scope} {a : Addr} {ccd : Value} {cl : List (Str × Addr)} {outer : List Env} {A₀ : Around} {base h₀ : Heap} {L : Addr} {m : Str → Option Value} {hp0 : Heap} {gs0 : Array GenState} {dr0 : Drawn} {tk0 : Nat} {os0 : OsState}
    {Q E : Value → Shared → Prop} (B : Below A₀ base outer h₀) (F : Fr h₀ L hp0 m) (X : (Mine.heap w.params).In h₀) (N : News h₀ L hp0 news)
    (T : Top Mine.view (looseW Mine.view Mine.loose) mean mg mb h₀) (hk : cs.kind = .function)
    (hd : dp + n < recursionLimit) (hu : un + 8 * n < cLine) (hf : ∀ p ∈ foot, p ∈ news)
    (ret : ∀ r h' tk', Fr h₀ L h' m → News h₀ L h' news → P r → Q r ⟨h', gs0, dr0, tk', os0⟩) :
    wpAny (model prog w) (ktrTop dp un gd cn cs L a ccd cl outer) (call (.ref f) vs) Q E ⟨hp0, gs0, dr0, tk0, os0⟩ := by
  refine C _ _ _ _ _ _ _ _ _ _ _ _ _ _ _ _ _ _ _ _ B F X (fun p hp => N p (hf p hp)) T hk hd hu fun r tl h' tk' F' N' S' R' => ?_
  (refine Mine.an2 R' fun hP oq1 => ?_; (try clear R'); subst oq1)
  refine ret r h' tk' F' (fun p hp => ?_) hP
  by_cases hq : ∃ q ∈ tl, q.1 = p.1
  · (refine Mine.ex1 hq fun q om0 => Mine.an2 om0 fun hq e => ?_; clear om0)
    have e1 := (N p hp).1
    have e2 := (N q (hf q hq)).1
    rw [e, e1] at e2
    have e3 := (N' q hq)
    rw [e, ← Option.some.inj e2] at e3
    exact e3
  · exact ⟨(S' _ _ (N p hp).1 fun q h e => hq ⟨q, h, e⟩).1, (N p hp).2⟩

theorem Runs.useT {prog : Program} {w : World} {n : Nat} {f : Addr} {vs : List Value} {foot news : List (Addr × Obj)} {P : Str → Prop} (C : Reads0 prog w n f vs foot (fun r => ∃ x t', r = .str x t' ∧ P x))
    {mean : ExcName → Option Value} {mg mb : Str → Option Value} {dp un : Nat} {gd : Option (List Code)} {cn : Str} {cs : Scope} {a : Addr} {ccd : Value} {cl : List (Str × Addr)} {outer : List Env} {A₀ : Around} {base h₀ : Heap} {L : Addr} {m : Str → Option Value} {hp0 : Heap} {gs0 : Array GenState} {dr0 : Drawn} {tk0 : Nat} {os0 : OsState}
    {Q E : Value → Shared → Prop} (B : Below A₀ base outer h₀) (F : Fr h₀ L hp0 m) (X : (Mine.heap w.params).In h₀) (N : News h₀ L hp0 news)
    (T : Top Mine.view (looseW Mine.view Mine.loose) mean mg mb h₀) (hk : cs.kind = .function)
    (hd : dp + n < recursionLimit) (hu : un + 8 * n < cLine) (hf : ∀ p ∈ foot, p ∈ news)
    (ret : ∀ x t' h' tk', Fr h₀ L h' m → News h₀ L h' news → P x → Q (.str x t') ⟨h', gs0, dr0, tk', os0⟩) :
    wpAny (model prog w) (ktrTop dp un gd cn cs L a ccd cl outer) (call (.ref f) vs) Q E ⟨hp0, gs0, dr0, tk0, os0⟩ :=
  Runs.useC C B F X N T hk hd hu hf fun r h' tk' F' N' hP => by obtain ⟨x, t', e, hx⟩ := hP; subst e; exact ret x t' h' tk' F' N' hx
theorem figures_reads {prog : Program} {w : World} {n : Int} {t : Tok} (h0 : 0 ≤ n) (hn : Small 26010 n) : Reads0 prog w 1 158 [.int n t] [] (fun r => ∃ x t', r = .str x t' ∧ lc x = digs n.toNat ∧ x.length ≤ 8000) := by
  (refine Mine.ex2 (rnd_ex w) fun R rt om0 => Mine.an2 om0 fun hR hin => ?_; clear om0)
  (refine Mine.ex1 (Int.eq_ofNat_of_zero_le h0) fun k oq1 => ?_; subst oq1)
  intro mean mg mb dp un gd cn cs a ccd cl outer A₀ base h₀ L m s Q E B F X N T hk hd hu ret
  rcases s with ⟨hp0, gs0, dr0, tk0, os0⟩
  dsimp only at F N ret
  refine figures_runs (prog := prog) (t := t) hn hR hin _ _ _ _ _ _ _ _ _ _ _ _ _ _ _ _ _ _ _ _ B F X N T hk hd hu fun r tl h' tk' F' N' S' R' => ?_
  (refine Mine.ex2 R' fun x t' om0 => Mine.an3 om0 fun oq2 hx oq4 => ?_; clear om0; (try clear R'); subst oq2; subst oq4)
  refine ret _ _ h' tk' F' N' S' ⟨⟨x, t', rfl, by rw [hx, Int.toNat_natCast], ?_⟩, rfl⟩
  rw [← lc_len, hx]
  have h2 : k < 2 ^ 26010 := hn
  have h3 : 2 ^ 26010 ≤ 10 ^ 8000 := by decide +kernel
  exact digs_len (Nat.lt_of_lt_of_le h2 h3) (by decide)
end Mine
open PySem PySem.W PyProof.Rows PySem.Calls PySem.Spec Mine
end
/- TT -/
section
open PySem PySem.W PyProof.Rows PySem.Calls PySem.Spec PySem.NumText PySem.Builtin PySem.Builtin.Str
namespace Mine
set_option maxRecDepth 100000

noncomputable def clip (n : Nat) (i : Int) : Nat := (max 0 (min (if i < 0 then i + n else i) (n : Int))).toNat
theorem clip_le (n : Nat) (i : Int) : clip n i ≤ n := Int.toNat_le.mpr (Int.max_le.mpr ⟨Int.natCast_nonneg n, Int.min_le_right _ _⟩)
theorem cl_nat {k n : Nat} (h : k ≤ n) : max (0 : Int) (min (k : Int) (n : Int)) = k := by rw [Int.min_eq_left (Int.ofNat_le.mpr h), Int.max_eq_right (Int.natCast_nonneg k)]
theorem clip_nat {k n : Nat} (h : k ≤ n) : clip n (k : Int) = k := by unfold clip; rw [if_neg (Int.not_lt.mpr (Int.natCast_nonneg k)), cl_nat h]; rfl
theorem clip_ge {k n : Nat} (h : n ≤ k) : clip n (k : Int) = n := by unfold clip; rw [if_neg (Int.not_lt.mpr (Int.natCast_nonneg k)), Int.min_eq_right (Int.ofNat_le.mpr h), Int.max_eq_right (Int.natCast_nonneg n)]; rfl
theorem clip_neg {k m : Nat} (hk : 0 < k) : clip (m + k) (-(k : Int)) = m := by
  have e : -(k : Int) + ((m + k : Nat) : Int) = m := by rw [Int.natCast_add, Int.add_comm, Int.add_neg_cancel_right]
  unfold clip; rw [if_pos (Int.neg_neg_of_pos (Int.ofNat_lt.mpr hk)), e, cl_nat (Nat.le_add_right m k)]; rfl
theorem slice_idx (l u : Int) (n : Nat) : strSliceIndices (some l) (some u) 1 n = strSliceIndices (some ((clip n l : Nat) : Int)) (some ((clip n u : Nat) : Int)) 1 n := by
  have key : ∀ i : Int, max (0 : Int) (min (if i < 0 then i + n else i) (n : Int)) = max (0 : Int) (min (if ((clip n i : Nat) : Int) < 0 then ((clip n i : Nat) : Int) + n else ((clip n i : Nat) : Int)) (n : Int)) := by
    intro i
    rw [if_neg (Int.not_lt.mpr (Int.natCast_nonneg _)), cl_nat (clip_le n i)]
    exact (Int.toNat_of_nonneg (Int.le_max_left _ _)).symm
  simp only [strSliceIndices, show ((1 : Int) > 0) = True from by simp, if_true]
  rw [key l, key u]
theorem sliceIdx_gt {a b n : Nat} (h : b < a) (ha : a ≤ n) : strSliceIndices (some (a : Int)) (some (b : Int)) 1 n = [] := by
  have h1 : ¬ ((a : Int) < 0) := Int.not_lt.mpr (Int.natCast_nonneg a)
  have h2 : ¬ ((b : Int) < 0) := Int.not_lt.mpr (Int.natCast_nonneg b)
  have e1 := cl_nat ha
  have e2 := cl_nat (Nat.le_trans (Nat.le_of_lt h) ha)
  have h3 : ¬ ((a : Int) < b) := Int.not_lt.mpr (Int.ofNat_le.mpr (Nat.le_of_lt h))
  simp only [strSliceIndices, sliceRange, h1, h2, if_false, e1, e2, show ((1 : Int) > 0) = True from by simp, if_true, h3]
  rfl
theorem lc_sliceText (x : Str) (l u : Int) : lc (StrLaws.sliceText x (some l) (some u)) = ((lc x).drop (clip x.length l)).take (clip x.length u - clip x.length l) := by
  have e : StrLaws.sliceText x (some l) (some u) = StrLaws.sliceText x (some ((clip x.length l : Nat) : Int)) (some ((clip x.length u : Nat) : Int)) := by
    unfold StrLaws.sliceText; rw [slice_idx]
  rw [e]
  by_cases h : clip x.length l ≤ clip x.length u
  · rw [StrLaws.sliceText_nat x h (clip_le _ _)]
  · have h' : clip x.length u < clip x.length l := Nat.lt_of_not_le h
    have e0 : clip x.length u - clip x.length l = 0 := Nat.sub_eq_zero_of_le (Nat.le_of_lt h')
    have hn := clip_le x.length l
    unfold StrLaws.sliceText
    rw [sliceIdx_gt h' hn, e0]
    have : ((1 : Int) == 1 && ([] : List Nat).length == x.length) = false := by
      have : ¬ (0 = x.length) := Nat.ne_of_lt (Nat.lt_of_lt_of_le (Nat.lt_of_le_of_lt (Nat.zero_le _) h') hn)
      simp [this]
    rw [this]
    simp
theorem slice_is (x : Str) (l u : Option Int) : Txt.slice x l u = StrLaws.sliceText x l u := rfl
theorem lc_ss (x : Str) (l u : Int) : lc (Txt.slice x (some l) (some u)) = ((lc x).drop (clip x.length l)).take (clip x.length u - clip x.length l) := lc_sliceText x l u
theorem lc_ns (x : Str) (u : Int) : lc (Txt.slice x none (some u)) = (lc x).take (clip x.length u) := by
  have e : Txt.slice x none (some u) = StrLaws.sliceText x (some 0) (some u) := by rw [slice_is]; unfold StrLaws.sliceText; rw [StrLaws.sliceIdx_none_lo]
  rw [e, lc_sliceText]
  have : clip x.length 0 = 0 := clip_nat (Nat.zero_le _)
  rw [this]; rfl
theorem lc_sn (x : Str) (l : Int) : lc (Txt.slice x (some l) none) = (lc x).drop (clip x.length l) := by
  have e : Txt.slice x (some l) none = StrLaws.sliceText x (some l) (some (x.length : Int)) := by rw [slice_is]; unfold StrLaws.sliceText; rw [StrLaws.sliceIdx_none_hi]
  rw [e, lc_sliceText]
  have : clip x.length (x.length : Int) = x.length := clip_nat (Nat.le_refl _)
  rw [this]
  refine List.take_of_length_le ?_
  rw [List.length_drop, lc_len]
  exact Nat.le_refl _
theorem split_two {x : Str} {a b : List Nat} {c : Nat} (hx : lc x = a ++ [c] ++ b) (ha : c ∉ a) (hb : c ∉ b) : ∃ p q, Txt.split x ⟨#[c]⟩ = [p, q] ∧ lc p = a ∧ lc q = b := by
  have hf := StrLaws.split_free x c
  have hj := StrLaws.join_split x ⟨#[c]⟩
  generalize Txt.split x ⟨#[c]⟩ = ps at hf hj
  have one : ∀ (a b a' b' : List Nat), c ∉ a → c ∉ a' → a ++ [c] ++ b = a' ++ [c] ++ b' → a = a' ∧ b = b' := by
    intro a
    induction a with
    | nil =>
      intro b a' b' _ h' e
      cases a' with
      | nil => simpa using e
      | cons d r => simp at e; exact absurd (by rw [e.1]; exact List.mem_cons_self) h'
    | cons d r ih =>
      intro b a' b' h h' e
      cases a' with
      | nil => simp at e; exact absurd (by rw [e.1]; exact List.mem_cons_self) h
      | cons d' r' =>
        simp only [List.cons_append, List.cons.injEq] at e
        (refine Mine.an2 e fun e1 e2 => ?_; (try clear e))
        (refine Mine.an2 (ih b r' b' (fun q => h (.tail _ q)) (fun q => h' (.tail _ q)) e2) fun h1 h2 => ?_)
        exact ⟨by rw [e1, h1], h2⟩
  have hj' := congrArg lc hj
  rw [hx] at hj'
  match ps with
  | [] =>
    exact absurd hj' (by
      intro e
      have : (lc (Str.join ⟨#[c]⟩ [])).length = (a ++ [c] ++ b).length := by rw [e]
      simp [Str.join, Str.empty] at this)
  | [p] =>
    have e : lc (Str.join ⟨#[c]⟩ [p]) = lc p := by simp [Str.join]
    rw [e] at hj'
    exact absurd (show c ∈ lc p by rw [hj']; simp) (hf p List.mem_cons_self)
  | p :: q :: r =>
    have e : lc (Str.join ⟨#[c]⟩ (p :: q :: r)) = lc p ++ [c] ++ lc (Str.join ⟨#[c]⟩ (q :: r)) := by
      simp only [Str.join]
      rw [lc_app, lc_app]
    rw [e] at hj'
    (refine Mine.an2 (one _ _ _ _ (hf p List.mem_cons_self) ha hj') fun h1 h2 => ?_)
    cases r with
    | nil =>
      have e : lc (Str.join ⟨#[c]⟩ [q]) = lc q := by simp [Str.join]
      rw [e] at h2
      exact ⟨p, q, rfl, h1, h2⟩
    | cons q2 r2 =>
      have e : lc (Str.join ⟨#[c]⟩ (q :: q2 :: r2)) = lc q ++ [c] ++ lc (Str.join ⟨#[c]⟩ (q2 :: r2)) := by
        simp only [Str.join]
        rw [lc_app, lc_app]
      rw [e] at h2
      exact absurd (by rw [← h2]; simp) hb
theorem strip_all {x y : Str} (h : ∀ c ∈ lc x, c ∈ lc y) : Txt.stripChars x y = Str.empty := by
  have hg : ∀ c ∈ lc x, y.cps.contains c = true := fun c hc => by
    rw [Array.contains_iff_mem]; exact Array.mem_toList_iff.mp (h c hc)
  have lo : stripLo y.cps.contains true x = x.length := by
    simp only [stripLo, if_true]
    rw [NumText.takeWhile_all hg]; exact lc_len x
  unfold Txt.stripChars
  rw [PyProof.Rows.stripBy_eq, lo]
  have e : lc (strSub x x.length (stripHi y.cps.contains true x x.length)) = [] := by
    show (strSub x x.length _).cps.toList = []
    rw [StrLaws.strSub_toList, List.drop_of_length_le (Nat.le_of_eq (lc_len x)), List.take_nil]
  exact lc_inj (e.trans lc_empty.symm)
end Mine
end
/- IT -/
section
open PySem PySem.W PyProof.Rows PySem.Calls PySem.Spec PySem.NumText
namespace Mine
set_option maxRecDepth 100000
theorem wp_digits {M : Model} {A : Around} {E : Value → Shared → Prop} {s : Shared} {Q : Nat → Shared → Prop} (hn : s.heap.NoDigits) (h : Q 4300 s) : wpAny M A Builtin.intMaxStrDigits Q E s := by
  (refine Mine.ex1 hn fun mc om0 => Mine.an2 om0 fun hns hnone => ?_; clear om0; (try clear hn))
  unfold Builtin.intMaxStrDigits
  refine wpAny_bind (wpAny_nsGet hns ?_)
  rw [hnone]
  exact wpAny_pure h
theorem wp_long {M : Model} {A : Around} {E : Value → Shared → Prop} {s : Shared} {Q : Value → Shared → Prop} {v : Value} {text : List Nat} {n : Int} {base : Nat} (hn : s.heap.NoDigits)
    (hs : ¬ (text.takeWhile (· != 0)).length ≤ 640) (hr : (int_private% "readNumeral") 4300 base (text.takeWhile (· != 0)) = (int_private% "Numeral.value") n)
    (ha : ((text.takeWhile (· != 0)).length == text.length) = true) (h : Q (.int n s.toks) { s with toks := s.toks + 1 }) :
    wpAny M A ((int_private% "intFromText") v text base) Q E s := by
  obtain ⟨hp, g, d, tk, os⟩ := s
  repeat (any_goals (first
    | assumption
    | (with_reducible refine wp_digits hn ?_)
    | (with_reducible refine wpAny_ite_false (decide_eq_false hs) ?_)
    | (with_reducible refine wpAny_ite_true (decide_eq_true ha) ?_)
    | wp_step))
  all_goals (try rw [hr])
  all_goals (try dsimp only)
  repeat (any_goals (first
    | assumption
    | (with_reducible refine wp_digits hn ?_)
    | (with_reducible refine wpAny_ite_false (decide_eq_false hs) ?_)
    | (with_reducible refine wpAny_ite_true (decide_eq_true ha) ?_)
    | wp_step))
theorem wp_short {M : Model} {A : Around} {E : Value → Shared → Prop} {s : Shared} {Q : Value → Shared → Prop} {v : Value} {text : List Nat} {n : Int} {base : Nat}
    (hs : (text.takeWhile (· != 0)).length ≤ 640) (hr : (int_private% "readNumeral") 0 base (text.takeWhile (· != 0)) = (int_private% "Numeral.value") n)
    (ha : ((text.takeWhile (· != 0)).length == text.length) = true) (h : Q (.int n s.toks) { s with toks := s.toks + 1 }) :
    wpAny M A ((int_private% "intFromText") v text base) Q E s := by
  obtain ⟨hp, g, d, tk, os⟩ := s
  repeat (any_goals (first
    | assumption
    | (with_reducible refine wpAny_ite_true (decide_eq_true hs) ?_)
    | (with_reducible refine wpAny_ite_true (decide_eq_true ha) ?_)
    | wp_step))
  all_goals (try rw [hr])
  all_goals (try dsimp only)
  repeat (any_goals (first
    | assumption
    | (with_reducible refine wpAny_ite_true (decide_eq_true hs) ?_)
    | (with_reducible refine wpAny_ite_true (decide_eq_true ha) ?_)
    | wp_step))

noncomputable def bitsVal (cs : List Nat) : Nat := cs.foldl (fun acc c => acc * 2 + (c - 48)) 0
noncomputable def AllBits (cs : List Nat) : Prop := ∀ c ∈ cs, c = 48 ∨ c = 49
theorem AllBits.digs {cs : List Nat} (h : AllBits cs) : AllDigits cs := fun c hc => by rcases h c hc with e | e <;> subst e <;> decide
theorem step_bit {ds : Array Nat} {b : Bool} {c : Nat} (h : c = 48 ∨ c = 49) : NumText.step 2 (ds, b) c = some (ds.push (c - 48), true) := by
  unfold NumText.step
  have h' : 48 ≤ c ∧ c ≤ 57 := by (first | lia | omega)
  rw [if_neg (by rw [beq_iff_eq]; (first | lia | omega)), digit_of h']
  exact if_pos (by (first | lia | omega))
theorem foldl_bits : ∀ (cs : List Nat) (ds : Array Nat), AllBits cs → cs.foldlM (NumText.step 2) (ds, true) = some (cs.foldl (fun acc c => acc.push (c - 48)) ds, true)
  | [], _, _ => rfl
  | c :: cs, ds, h => by
    rw [List.foldlM_cons, step_bit (h c List.mem_cons_self)]
    show cs.foldlM (NumText.step 2) (ds.push (c - 48), true) = _
    exact foldl_bits cs (ds.push (c - 48)) fun d hd => h d (.tail _ hd)
theorem bits_of {cs : List Nat} (h : AllBits cs) (hne : cs ≠ []) : digits? 2 cs = some (cs.foldl (fun acc c => acc.push (c - 48)) #[]) := by
  cases cs with
  | nil => exact absurd rfl hne
  | cons c cs =>
    unfold digits?
    rw [List.foldlM_cons, step_bit (h c List.mem_cons_self)]
    show (cs.foldlM (NumText.step 2) ((#[] : Array Nat).push (c - 48), true)).bind _ = _
    rw [foldl_bits cs _ fun d hd => h d (.tail _ hd)]
    rfl
theorem push_bits : ∀ (cs : List Nat) (ds : Array Nat), (cs.foldl (fun acc c => acc.push (c - 48)) ds).foldl (fun acc d => acc * 2 + d) 0 = cs.foldl (fun acc c => acc * 2 + (c - 48)) (ds.foldl (fun acc d => acc * 2 + d) 0)
  | [], _ => rfl
  | c :: cs, ds => by
    rw [List.foldl_cons, push_bits cs (ds.push (c - 48)), List.foldl_cons]
    congr 1
    simp
theorem prefix_none {t : List Nat} (h : AllDigits t) : prefix? t = none := by
  unfold prefix?
  split
  · rename_i c r
    have hc := h c (.tail _ (.head _))
    have h1 : (c == 120 || c == 88) = false := by rw [beq_eq_false_iff_ne.mpr (by (first | lia | omega)), beq_eq_false_iff_ne.mpr (by (first | lia | omega))]; rfl
    have h2 : (c == 111 || c == 79) = false := by rw [beq_eq_false_iff_ne.mpr (by (first | lia | omega)), beq_eq_false_iff_ne.mpr (by (first | lia | omega))]; rfl
    have h3 : (c == 98 || c == 66) = false := by rw [beq_eq_false_iff_ne.mpr (by (first | lia | omega)), beq_eq_false_iff_ne.mpr (by (first | lia | omega))]; rfl
    rw [h1, h2, h3]; rfl
  · rfl
theorem based_two {t : List Nat} (h : AllDigits t) : based 2 t = (2, false, t) := by
  unfold based
  rw [prefix_none h]; rfl
theorem read_bits {cs : List Nat} (h : AllBits cs) (hne : cs ≠ []) : (int_private% "readNumeral") 0 2 cs = (int_private% "Numeral.value") ((bitsVal cs : Nat) : Int) := by
  have hd := h.digs
  refine (readNumeral_eq 0 2 cs).trans ?_
  have e1 : cs.dropWhile blank = cs := dropWhile_digits hd
  have e2 : sign cs = (false, cs) := by
    cases cs with
    | nil => exact absurd rfl hne
    | cons c cs => have := hd.head; exact sign_of (by (first | lia | omega)) (by (first | lia | omega))
  have e3 : (cs.reverse.dropWhile blank).reverse = cs := by rw [dropWhile_digits hd.reverse, List.reverse_reverse]
  rw [e1, e2]
  simp only [based_two hd]
  rw [e3, bits_of h hne]
  unfold judge
  refine (if_neg (by simp)).trans ((if_neg (by simp)).trans ?_)
  have e4 := push_bits cs #[]
  simp only [Bool.false_and, Bool.false_eq_true, if_false]
  exact congrArg (fun z : Nat => (int_private% "Numeral.value") (z : Int)) e4

theorem meets_int1 {x : PySem.Str} {u : Tok} {n : Int} (hx : x.length ≤ 4300) (hn : PySem.intText? x = some n) : Meets (Builtin.«int.__new__» ⟨[.type "int", .str x u], []⟩) (fun _ R s => s.heap.NoDigits ∧ R (.ok (.ret (.int n s.toks))) { s with toks := s.toks + 1 }) := by
  intro prog w A R s ⟨hd, h⟩
  have go : ∀ Q : Value → Shared → Prop, Q (.int n s.toks) { s with toks := s.toks + 1 } → wpAny (model prog w) A.in1 ((int_private% "intFromText") (.str x u) (numTextOf x) 10) Q (fun e s' => R (.error e) s') s := by
    intro Q hq
    by_cases hs : (numSeenOf x).length ≤ 640
    · rcases read0 x hs with ⟨m, h1, h2, h3⟩ | ⟨h1, _⟩
      · rw [hn] at h1
        injection h1 with h1
        subst h1
        exact wp_short hs h3 h2 hq
      · rw [hn] at h1
        cases h1
    · rcases read4300 x (by rw [sizeLine_eq]; (first | lia | omega)) with ⟨m, h1, h2, h3⟩ | ⟨h1, _⟩
      · rw [hn] at h1
        injection h1 with h1
        subst h1
        exact wp_long hd hs h3 h2 hq
      · rw [hn] at h1
        cases h1
  clear hd hn hx
  obtain ⟨hp, g, d, tk, os⟩ := s
  have f1 := F.conv_sub_int
  have f2 := F.madeHere_int
  have f3 := KIN.str_int
  have f4 := KIN.str_idx
  have f5 := KIN.str_trunc
  have f6 : typeOf (.str x u) = pure (.type "str") := rfl
  repeat (any_goals (first
    | assumption
    | ((with_reducible show wpAny _ _ ((int_private% "intFromText") _ _ _) _ _ _); refine go _ ?_)
    | wp_step))
theorem meets_int2 {x : PySem.Str} {u u2 : Tok} {n : Nat} (hb : AllBits x.cps.toList) (hne : x.cps.toList ≠ []) (hx : x.length ≤ 640) (hn : bitsVal x.cps.toList = n) : Meets (Builtin.«int.__new__» ⟨[.type "int", .str x u, .int 2 u2], []⟩) (fun _ R s => R (.ok (.ret (.int n s.toks))) { s with toks := s.toks + 1 }) := by
  intro prog w A R s h
  subst hn
  have go : ∀ (s₁ : Shared) (Q : Value → Shared → Prop), Q (.int (bitsVal x.cps.toList : Nat) s₁.toks) { s₁ with toks := s₁.toks + 1 } → wpAny (model prog w) A.in1 ((int_private% "intFromText") (.str x u) (numTextOf x) (2 : Int).toNat) Q (fun e s' => R (.error e) s') s₁ := by
    intro s₁ Q hq
    (refine Mine.an2 (numText_signs (x := x) fun c hc => .inr (hb.digs c hc)) fun e1 e2 => ?_)
    refine wp_short ?_ ?_ ?_ hq
    · show (numSeenOf x).length ≤ 640
      rw [e2]; rw [show x.cps.toList.length = x.length from Array.length_toList]; exact hx
    · show (int_private% "readNumeral") 0 2 (numSeenOf x) = _
      rw [e2]; exact read_bits hb hne
    · show ((numSeenOf x).length == (numTextOf x).length) = true
      rw [e1, e2]; simp
  clear hb hne hx
  obtain ⟨hp, g, d, tk, os⟩ := s
  have f1 := F.conv_sub_int
  have f2 := F.madeHere_int
  have f3 := KIN.str_int
  have f4 := KIN.str_idx
  have f5 := KIN.str_trunc
  have f6 : typeOf (.str x u) = pure (.type "str") := rfl
  repeat (any_goals (first
    | assumption
    | ((with_reducible show wpAny _ _ ((int_private% "intFromText") _ _ _) _ _ _); refine go _ _ ?_)
    | wp_step))
section
variable {prog : Program} {w : World} {A : Around} {E : Value → Shared → Prop} {s : Shared} {Q : Value → Shared → Prop} {x : PySem.Str} {t u : Tok}
theorem int_text {n : Int} (hd : s.heap.NoDigits) (hx : x.length ≤ 4300) (hn : PySem.intText? x = some n) (h : ∀ t' k, Q (.int n t') { s with toks := k }) : wpAny (model prog w) A (call (.type "int") [.str x t]) Q E s :=
  call_int_1 (meets_int1 hx hn) ⟨hd, typeIs_int _ _ _, h _ _⟩
theorem typeCall_int_2 (a b : Value) : checkTypeCall "int" ⟨[a, b], []⟩ = pure () := by kernel_rfl
theorem newCall_int_2 (a b : Value) : checkBuiltinCall "int.__new__" ⟨[.type "int", a, b], []⟩ = pure () := by kernel_rfl
theorem args_object_init_3 (a b c : Value) : argsOk "object.__init__" ⟨[a, b, c], []⟩ := by
  kernel_rfl
theorem int_bits {n : Nat} (hb : AllBits x.cps.toList) (hne : x.cps.toList ≠ []) (hx : x.length ≤ 640) (hn : bitsVal x.cps.toList = n) (h : ∀ t' k, Q (.int n t') { s with toks := k }) : wpAny (model prog w) A (call (.type "int") [.str x t, .int 2 u]) Q E s :=
  callType_new F.called_int F.newNe_int (typeCall_int_2 _ _) (newCall_int_2 _ _) (fun obj => args_object_init_3 obj _ _) F.entry_int_new (meets_int2 hb hne hx hn) ⟨typeIs_int _ _ _, h _ _⟩
end
end Mine
end
/- Cut -/
section
open PySem PySem.W PyProof.Rows PySem.Calls PySem.Spec PySem.NumText
namespace Mine
set_option maxRecDepth 100000
section
variable {prog : Program} {w : World} {A : Around} {E : Value → Shared → Prop} {s : Shared} {value slice : PySem.Expr} {x : PySem.Str} {t u : Tok} {h₀ : Heap} {L : Addr} {m : Str → Option Value} {news : List (Addr × Obj)} {Q : Value → Shared → Prop}
theorem cut_ns {j : Int} {uj : Tok} (hF : Fr h₀ L s.heap m) (hN : News h₀ L s.heap news) (hx : x.length ≤ 16777216)
    (h : ∀ h' t' k y, Fr h₀ L h' m → News h₀ L h' news → lc y = (lc x).take (clip x.length j) → y.length ≤ x.length → Q (.str y t') { s with heap := h', toks := k })
    (hs : subscripted slice false (.str x t) (.ref s.heap.objs.size) = operate [.ref s.heap.objs.size, .str x t] (getItem (.str x t) (.ref s.heap.objs.size)))
    (ht : ∀ r, letTemporaryGo value (.str x t) r = pure ()) :
    wpAny (model prog w) A (subscriptTail value slice (.str x t) (.ref s.heap.objs.size)) Q E { s with heap := s.heap.push { cls := .type "slice", data := .fields #[.none, .int j uj, .none] } } :=
  slice_strN_ns hF hN (fun h' t' k F N => h h' t' k _ F N (lc_ns x j) (PyProof.Txt.length_slice_le _ _ _)) hs ht (by rw [sizeLine_eq]; exact hx)
theorem cut_sn {j : Int} {uj : Tok} (hF : Fr h₀ L s.heap m) (hN : News h₀ L s.heap news) (hx : x.length ≤ 16777216)
    (h : ∀ h' t' k y, Fr h₀ L h' m → News h₀ L h' news → lc y = (lc x).drop (clip x.length j) → y.length ≤ x.length → Q (.str y t') { s with heap := h', toks := k })
    (hs : subscripted slice false (.str x t) (.ref s.heap.objs.size) = operate [.ref s.heap.objs.size, .str x t] (getItem (.str x t) (.ref s.heap.objs.size)))
    (ht : ∀ r, letTemporaryGo value (.str x t) r = pure ()) :
    wpAny (model prog w) A (subscriptTail value slice (.str x t) (.ref s.heap.objs.size)) Q E { s with heap := s.heap.push { cls := .type "slice", data := .fields #[.int j uj, .none, .none] } } :=
  slice_strN_sn hF hN (fun h' t' k F N => h h' t' k _ F N (lc_sn x j) (PyProof.Txt.length_slice_le _ _ _)) hs ht (by rw [sizeLine_eq]; exact hx)
theorem cut_ss {i j : Int} {ui uj : Tok} (hF : Fr h₀ L s.heap m) (hN : News h₀ L s.heap news) (hx : x.length ≤ 16777216)
    (h : ∀ h' t' k y, Fr h₀ L h' m → News h₀ L h' news → lc y = ((lc x).drop (clip x.length i)).take (clip x.length j - clip x.length i) → y.length ≤ x.length → Q (.str y t') { s with heap := h', toks := k })
    (hs : subscripted slice false (.str x t) (.ref s.heap.objs.size) = operate [.ref s.heap.objs.size, .str x t] (getItem (.str x t) (.ref s.heap.objs.size)))
    (ht : ∀ r, letTemporaryGo value (.str x t) r = pure ()) :
    wpAny (model prog w) A (subscriptTail value slice (.str x t) (.ref s.heap.objs.size)) Q E { s with heap := s.heap.push { cls := .type "slice", data := .fields #[.int i ui, .int j uj, .none] } } :=
  slice_strN_ss hF hN (fun h' t' k F N => h h' t' k _ F N (lc_ss x i j) (PyProof.Txt.length_slice_le _ _ _)) hs ht (by rw [sizeLine_eq]; exact hx)
theorem sign_txt {i : Int} {c : Nat} (h1 : -(x.length : Int) ≤ i) (h2 : i < x.length) (hx : x.length ≤ 16777216) (hc : (lc x)[(if i < 0 then i + x.length else i).toNat]? = some c)
    (h : ∀ t' k y, lc y = [c] → y.length ≤ 1 → Q (.str y t') { s with toks := k })
    (hs : subscripted slice false (.str x t) (.int i u) = operate [.str x t, .int i u] (getItem (.str x t) (.int i u)))
    (ht : ∀ r, letTemporaryGo value (.str x t) r = pure ()) :
    wpAny (model prog w) A (subscriptTail value slice (.str x t) (.int i u)) Q E s := by
  refine item_str (fitsSsize_of (N := 9223372036854775808) (by (first | lia | omega)) (by (first | lia | omega)) (Int.le_refl _)) h1 h2 (fun e => h _ _ _ ?_ (by (first | lia | omega))) hs ht
  have e : Txt.charAt x i = some c := by
    unfold Txt.charAt
    by_cases h0 : i < 0
    · rw [if_pos h0] at hc
      exact StrLaws.at_neg h0 h1 (by rw [← Array.getElem?_toList]; exact hc)
    · rw [if_neg h0] at hc
      exact StrLaws.at_nonneg (by (first | lia | omega)) (by rw [← Array.getElem?_toList]; exact hc)
  show [(Txt.charAt x i).getD 0] = [c]
  rw [e]; rfl
theorem sign_first {c : Nat} {r : List Nat} (h : lc x = c :: r) : (lc x)[(if (0 : Int) < 0 then 0 + (x.length : Int) else 0).toNat]? = some c := by
  rw [if_neg (by decide), h]; rfl
theorem sign_last {c : Nat} {r : List Nat} (h : lc x = r ++ [c]) : (lc x)[(if (-1 : Int) < 0 then -1 + (x.length : Int) else -1).toNat]? = some c := by
  have hl : x.length = r.length + 1 := by rw [← lc_len, h, List.length_append]; rfl
  have e : (-1 + (x.length : Int)).toNat = r.length := by (first | lia | omega)
  rw [if_pos (by decide), e, h]; simp
theorem strip_txt {z : Str} (hx : x.length ≤ 16777216) (hall : ∀ c ∈ lc x, c ∈ lc z) (h : ∀ t' k, Q (.str Str.empty t') { s with toks := k }) : wpAny (model prog w) A (call (.builtin "str.strip") [.str x t, .str z u]) Q E s :=
  SC.stripChars (fun t' k => by rw [strip_all hall]; exact h t' k) (by rw [sizeLine_eq]; exact hx)
end
end Mine
open PySem PySem.W PyProof.Rows PySem.Calls PySem.Spec Mine
end
/- F1 -/
section
open PySem PySem.W PyProof.Rows PySem.Calls PySem.Spec PySem.NumText
namespace Mine
set_option maxRecDepth 100000
set_option maxHeartbeats 4000000 

structure Figs (cs : List Nat) (n : Nat) : Prop where
  all : AllDigits cs
  plain : Plain cs
  val : digitsVal cs = n
  len : cs.length ≤ 8000
theorem figs_digs {n : Nat} (h : n < 10 ^ 8000) : Figs (digs n) n := ⟨digs_all n, digs_plain n, digs_val n, digs_len h (by decide)⟩
theorem Figs.ne {cs : List Nat} {n : Nat} (h : Figs cs n) : cs ≠ [] := by
  rcases h.plain with e | ⟨c, r, e, _⟩ <;> rw [e] <;> exact fun q => nomatch q
theorem Figs.pos {cs : List Nat} {n : Nat} (h : Figs cs n) : 0 < cs.length := List.length_pos_iff.mpr h.ne
noncomputable def FJ (x : Str) (i : Nat) (m : Str → Option Value) (news : List (Addr × Obj)) : Prop :=
  ∃ (tx tv : Tok) (v : Int), m "text" = some (.str x tx) ∧ m "found" = some (.int v tv) ∧ news = [] ∧ v = (digitsVal ((lc x).take (700 * i)) : Int)
theorem rangeSize_700 (n : Int) (h : 0 ≤ n) : Builtin.Range.rangeSize 0 n 700 = (((n.toNat + 699) / 700 : Nat) : Int) := by
  (refine Mine.ex1 (Int.eq_ofNat_of_zero_le h) fun k oq1 => ?_; subst oq1)
  unfold Builtin.Range.rangeSize
  rw [if_pos (by decide)]
  cases k with
  | zero => rfl
  | succ j =>
    have hj : (0 : Int) < ((j + 1 : Nat) : Int) := Int.ofNat_lt.mpr (Nat.succ_pos j)
    rw [if_pos hj]
    have e : ((j + 1 : Nat) : Int) - 0 - 1 = (j : Int) := by rw [Int.sub_zero]; exact Int.add_sub_cancel (j : Int) 1
    rw [e]
    show ((j / 700 : Nat) : Int) + 1 = (((j + 700) / 700 : Nat) : Int)
    rw [Nat.add_div_right j (by decide)]; rfl
theorem small_700 {n : Int} (h : 0 ≤ n) (h1 : n ≤ 8000) : Builtin.Range.small 0 n 700 = true := by
  unfold Builtin.Range.small
  rw [rangeSize_700 n h]
  simp only [Builtin.Range.rangeFitsLong, Bool.and_eq_true, Bool.or_eq_true, decide_eq_true_eq, beq_iff_eq, show ((700 : Int) > 0) by decide, if_true]
  (first | lia | omega)
theorem eq_lists {x y : Str} (h : lc x = lc y) : (x.cps.toList == y.cps.toList) = true := by show (lc x == lc y) = true; rw [h]; simp
theorem eq_lists_not {x y : Str} (h : lc x ≠ lc y) : (x.cps.toList == y.cps.toList) = false := by show (lc x == lc y) = false; simpa using h
theorem ne_lists {x y : Str} (h : lc x = lc y) : (x.cps.toList != y.cps.toList) = false := by show (lc x != lc y) = false; rw [h]; simp
theorem ne_lists_not {x y : Str} (h : lc x ≠ lc y) : (x.cps.toList != y.cps.toList) = true := by show (lc x != lc y) = true; simpa using h
theorem lc_zero : lc (Str.ofString "0") = [48] := by decide +kernel
theorem lc_mt : lc (Str.ofString "") = [] := by decide +kernel
theorem lc_figs : lc (Str.ofString "0123456789") = [48, 49, 50, 51, 52, 53, 54, 55, 56, 57] := by decide +kernel
theorem Figs.strip {x : Str} {n : Nat} (h : Figs (lc x) n) : ∀ c ∈ lc x, c ∈ lc (Str.ofString "0123456789") := fun c hc => by
  rw [lc_figs]
  have := h.all c hc
  exact ten_fig c (Nat.lt_succ_of_le this.2) this.1
theorem not_zero {y : Str} {c : Nat} (h : lc y = [c]) (hc : 49 ≤ c) : (y.cps.toList == (Str.ofString "0").cps.toList) = false :=
  eq_lists_not (by rw [h, lc_zero]; intro q; have := (List.cons.inj q).1; (first | lia | omega))
theorem fig_more {cs y : List Nat} {k n : Nat} (hk : k = n) (hy : y = (cs.drop k).take 700) : (digitsVal (cs.take n) : Int) * 10 ^ y.length + (digitsVal y : Int) = (digitsVal (cs.take (n + 700)) : Int) := by
  subst hk
  have e : cs.take (k + 700) = cs.take k ++ y := by rw [hy, List.take_add]
  rw [e, val_app]
  push_cast
  rfl
theorem cut700 {x y : Str} {i : Nat} (hi : i < (x.length + 699) / 700) (h : lc y = ((lc x).drop (clip x.length (0 + (i : Int) * 700))).take (clip x.length (0 + (i : Int) * 700 + 700) - clip x.length (0 + (i : Int) * 700))) :
    lc y = ((lc x).drop (700 * i)).take 700 ∧ y.length ≤ 700 ∧ lc y ≠ [] := by
  have h7 : 700 * i ≤ x.length := by (first | lia | omega)
  have c1 : (0 + (i : Int) * 700) = ((700 * i : Nat) : Int) := by rw [Int.zero_add, Int.mul_comm]; rfl
  have c2 : (0 + (i : Int) * 700 + 700) = ((700 * i + 700 : Nat) : Int) := by rw [c1]; rfl
  have e1 : clip x.length (0 + (i : Int) * 700) = 700 * i := by rw [c1]; exact clip_nat h7
  have e2 : lc y = ((lc x).drop (700 * i)).take 700 := by
    rw [h, e1]
    by_cases hc : 700 * i + 700 ≤ x.length
    · have : clip x.length (0 + (i : Int) * 700 + 700) = 700 * i + 700 := by rw [c2]; exact clip_nat hc
      rw [this, Nat.add_sub_cancel_left]
    · have : clip x.length (0 + (i : Int) * 700 + 700) = x.length := by rw [c2]; exact clip_ge (Nat.le_of_lt (Nat.lt_of_not_le hc))
      rw [this, List.take_of_length_le (by rw [List.length_drop, lc_len]; exact Nat.le_refl _), List.take_of_length_le (by rw [List.length_drop, lc_len]; (first | lia | omega))]
  have e3 : y.length = min 700 (x.length - 700 * i) := by rw [← lc_len, e2, List.length_take, List.length_drop, lc_len]
  refine ⟨e2, by (first | lia | omega), fun q => ?_⟩
  rw [← lc_len, q] at e3
  simp only [List.length_nil] at e3
  (first | lia | omega)
theorem int700 {x y : Str} {i n : Nat} (hx : Figs (lc x) n) (h : lc y = ((lc x).drop (700 * i)).take 700) (hl : y.length ≤ 700) (hn : lc y ≠ []) : PySem.intText? y = some ((digitsVal (lc y) : Nat) : Int) :=
  intText_digits (fun c hc => hx.all c (List.mem_of_mem_drop (List.mem_of_mem_take (show c ∈ _ from h ▸ (show c ∈ lc y from hc))))) hn (by (first | lia | omega))
theorem fig_small {x : Str} {n i : Nat} (hx : Figs (lc x) n) {v : Int} (hv : v = (digitsVal ((lc x).take (700 * i)) : Int)) : Small 32000 v := by
  have h1 : digitsVal ((lc x).take (700 * i)) < 10 ^ ((lc x).take (700 * i)).length := val_lt fun c hc => hx.all c (List.mem_of_mem_take hc)
  have h2 : ((lc x).take (700 * i)).length ≤ 8000 := by rw [List.length_take]; have := hx.len; (first | lia | omega)
  have h3 : 10 ^ ((lc x).take (700 * i)).length ≤ 10 ^ 8000 := Nat.pow_le_pow_right (by decide) h2
  have h4 : 10 ^ 8000 ≤ 2 ^ 32000 := by
    rw [show 32000 = 4 * 8000 from rfl, Nat.pow_mul]
    exact Nat.pow_le_pow_left (by decide) 8000
  subst hv
  unfold Small
  rw [Int.natAbs_natCast]
  exact Nat.lt_of_lt_of_le h1 (Nat.le_trans h3 h4)
theorem fig_end1 {x : Str} {n : Nat} (hx : Figs (lc x) n) {v : Int} (hv : v = (digitsVal ((lc x).take (700 * ((x.length + 699) / 700))) : Int)) : v = n := by
  rw [hv, List.take_of_length_le (by rw [lc_len]; (first | lia | omega)), hx.val]
theorem fig_turn1 {x y z : Str} {i : Nat} {v : Int} (hv : v = (digitsVal ((lc x).take (700 * i)) : Int)) (hy : lc y = ((lc x).drop (700 * i)).take 700) (hz : lc z = ((lc x).drop (700 * i)).take 700) :
    v * 10 ^ ((y.length : Int)).toNat + ((digitsVal (lc z) : Nat) : Int) = (digitsVal ((lc x).take (700 * (i + 1))) : Int) := by
  have e : y.length = (lc z).length := by rw [← lc_len, hy, hz]
  rw [hv, Int.toNat_natCast, e, fig_more rfl hz, Nat.mul_succ]
theorem figures_law {prog : Program} {w : World} {x : Str} {n : Nat} {t : Tok} (hx : Figs (lc x) n) :
    Reads0 prog w 1 831 [.str x t] [] (fun r => ∃ t', r = .int n t') := by
  have hl := hx.len
  have hp := hx.pos
  rw [lc_len] at hl hp
  unfold Reads0 Runs
  intro mean mg mb dp un gd cn' cs a ccd cl outer A₀ base h₀ L m s Q E B F X N T hk hd hu hret
  rcases s with ⟨hp0, gs0, dr0, tk0, os0⟩
  dsimp only at F N hret
  k_with_none
  k_with "om" => first | (with_reducible first | assumption | exact Mine.r0 (by assumption) | exact Mine.n2 (by assumption) (by k_dflt exact rfl) | exact Mine.v9 (by assumption) (by k_dflt exact rfl) | exact Mine.w1 (by assumption) (by k_dflt exact rfl) | exact Int.natCast_nonneg _ | exact Int.le_refl _ | exact Nat.le_refl _) | (first | lia | omega)
  k_with "rm" => first | ((try dsimp only [depth_under_make, depth_under_kw, depth_in1, depth_deeper, depth_caller, units_in1, units_deeper, Around.mark_units, units_caller, units_under_make, ktrTop]); walk_at "om") | ktr_room | ktr_units
  k_with "con_enter" => (refine' Mine.code_defQ ?k1z29 ?k2z29 ?k3z29 ?k4z29 ?k5z29 ?kAz29 ?kFz29 ?kKz29 ?k6z29 ?k7z29 ?k8z29 ?k9z29 ?kBz29 ?_ ?c2z29 ?c3z29 ?c4z29 ?c5z29; (case kAz29 => exact rfl); (case kFz29 => exact rfl); (case kKz29 => assumption); (case k1z29 => k_asm); (case k2z29 => k_asm); (case k3z29 => k_asm); (case k4z29 => k_asm); (case k5z29 => k_asm); (case k6z29 => k_is); (case k7z29 => k_is); (case k8z29 => walk_at "rm"); (case k9z29 => first | exact BindsTo.of_eq (binds := []) rfl | exact BindsTo.of_eq (binds := [(_, _)]) rfl | exact BindsTo.of_eq (binds := [(_, _), (_, _)]) rfl | exact BindsTo.of_eq (binds := [(_, _), (_, _), (_, _)]) rfl | exact BindsTo.of_eq (binds := [(_, _), (_, _), (_, _), (_, _)]) rfl | exact BindsTo.of_eq (binds := [(_, _), (_, _), (_, _), (_, _), (_, _)]) rfl | exact BindsTo.of_eq rfl); (case c5z29 => decide); (case kBz29 => exact locs rfl); (case c2z29 => exact rfl); (case c3z29 => exact rfl); (case c4z29 => exact rfl); k_whole; intro g' L' h' tk' FG' F' N' B' X' T' S' hL' qk ek)
  k_with "LeaveK" => (k_dflt (refine' Mine.leave_con ?hrz24 ?hSz24 ?hFz24 ?hNz24 ?hqz24 ?_; (case hrz24 => assumption); (case hSz24 => assumption); (case hFz24 => k_asm); (case hNz24 => k_asm); (case hqz24 => exact rfl); k_whole))
  k_with "k_all" => assumption
  k_with "key mem" => fail
  k_with "k_mem" => (k_whole; walk_at "key mem")
  k_with "k_ne" => ((refine neN ?_; (try dsimp only)); first | (refine' Mine.ne_below ?kb9z33 ?km9z33; (case kb9z33 => with_reducible assumption); (case km9z33 => walk_at "key mem")) | (refine' Mine.ne_above ?kb9z33 ?km9z33; (case kb9z33 => with_reducible assumption); (case km9z33 => walk_at "key mem")) | walk_at "ne find" | (first | lia | omega))
  k_with "k_all" => (refine' Mine.all_below ?kb9z30 ?km9z30; (case kb9z30 => with_reducible assumption); (case km9z30 => exact rfl))
  k_with "ne find" => first | with_reducible assumption | (refine Ne.symm ?_; with_reducible assumption) | (refine Nat.ne_of_lt ?_; with_reducible assumption) | (refine Nat.ne_of_gt ?_; with_reducible assumption) | ((with_reducible rename _ ∧ _ => hc9); have hc8 := hc9.1; have hc7 := hc9.2; clear hc9; walk_at "ne find")
  k_with "spliced" => (k_here; (refine PyProof.Rows.args_nil ?_); (try dsimp only [List.cons_append, List.nil_append]); (with_reducible show _ ∧ _))
  k_with "pit" => k_extra "my iter"
  k_with "call builtin:len" => (k_here; (with_reducible show wpAny _ _ (call (Value.builtin "len") [Value.str _ _]) _ _ _); (fail_if_success (with_reducible show wpAny _ _ (call (Value.builtin "len") [Value.str (PySem.Str.ofString _) _]) _ _ _)); (refine Mine.len_txt (by walk_at "om") ?_); intro t' k')
  k_with "call type:range" => k_extra "my range"
  k_with "call builtin:str.strip" => (k_here; (with_reducible show wpAny _ _ (call (Value.builtin "str.strip") [Value.str _ _, Value.str _ _]) _ _ _); (refine Mine.strip_txt (by walk_at "om") (by k_extra "strip") ?_); intro t' k')
  k_with "call type:int" => (k_here; (with_reducible show wpAny _ _ (call (Value.type "int") [Value.str _ _]) _ _ _); k_dflt (refine' Mine.int_text ?nz41 ?lz41 ?vz41 ?_; (case nz41 => k_extra "nodig"); (case lz41 => walk_at "om"); (case vz41 => k_extra "int text")); intro t' k')
  k_with "compareOp Eq str str" => (k_here; (with_reducible show wpAny _ _ (compareOp CmpOp.Eq (Value.str _ _) (Value.str _ _)) _ _ _); first | (refine Mine.eq_lit true (by k_extra "str eq") ?_) | (refine Mine.eq_lit false (by k_extra "str eq") ?_))
  k_with "compareOp NotEq str str" => (k_here; (with_reducible show wpAny _ _ (compareOp CmpOp.NotEq (Value.str _ _) (Value.str _ _)) _ _ _); first | (refine Mine.ne_lit true (by k_extra "str ne") ?_) | (refine Mine.ne_lit false (by k_extra "str ne") ?_))
  k_with "subscriptTail Name Constant str int" => (k_here; (with_reducible show wpAny _ _ (subscriptTail _ _ (Value.str _ _) (Value.int _ _)) _ _ _); (refine' Mine.sign_txt ?az44 ?bz44 ?zz44 ?cz44 ?_ (by with_unfolding_all rfl) (by intro _; with_unfolding_all rfl); (case az44 => walk_at "om"); (case bz44 => walk_at "om"); (case zz44 => walk_at "om"); (case cz44 => k_extra "sign")); intro t' k' y' hy' hly')
  k_with "subscriptTail Name Slice str ref" => (k_here; (with_reducible show wpAny _ _ (subscriptTail _ (Expr.Slice _ _ _ _) (Value.str _ _) (Value.ref _)) _ _ _); (with_reducible rename Fr _ _ _ _ => F'); (with_reducible rename News _ _ _ _ => N'); (first | ((with_reducible show wpAny _ _ (subscriptTail _ (Expr.Slice none (some _) none _) _ _) _ _ _); (refine Mine.cut_ns (s := ⟨_, _, _, _, _⟩) F' N' (by walk_at "om") ?_ (by with_unfolding_all rfl) (by intro _; with_unfolding_all rfl))) | ((with_reducible show wpAny _ _ (subscriptTail _ (Expr.Slice (some _) none none _) _ _) _ _ _); (refine Mine.cut_sn (s := ⟨_, _, _, _, _⟩) F' N' (by walk_at "om") ?_ (by with_unfolding_all rfl) (by intro _; with_unfolding_all rfl))) | ((with_reducible show wpAny _ _ (subscriptTail _ (Expr.Slice (some _) (some _) none _) _ _) _ _ _); (refine Mine.cut_ss (s := ⟨_, _, _, _, _⟩) F' N' (by walk_at "om") ?_ (by with_unfolding_all rfl) (by intro _; with_unfolding_all rfl)))); clear F' N'; intro h' t' k' y' F' N' hy' hly'; (try (k_extra "cut then")))
  k_with "binaryOp Mult int int" => (with_reducible refine mul_int ?_ (mulOk_small (fig_small (by assumption) (by assumption)) (small_ten (n := 701) (by walk_at "om") (by walk_at "om")) (by decide) (by decide) (by decide)))
  k_with "my range" => ((rename Fr _ _ _ _ => F'); (rename News _ _ _ _ => N'); (with_unfolding_all refine range3_rows F' N' (by decide) ?_ (Or.inl (PyProof.noPylong_of_log2 (by decide +kernel)))); intro hr1 kr1 tr1 tr2 tr3 rgX F'' N'' kr2)
  k_with "my iter" => ((with_reducible show wpAny _ _ (pyIter (Value.ref _)) (fun it s₂ => LoopAtV _ _ _ _ _ _ _ _ _ it s₂) _ _); (with_unfolding_all refine' range_inv (n := (x.length + 699) / 700) (FJ x) (by rfl) rgX ?sm ?sz F'' N'' ?j ?_ ?_); (case j => exact ⟨_, _, _, rfl, rfl, rfl, by simp [digitsVal]⟩); (case sm => exact small_700 (by walk_at "om") (by walk_at "om")); (case sz => exact rangeSize_700 _ (by walk_at "om")); rotate_left; (intro m₁ nx h tk J₁ F₁ N₁); ((k_dflt (refine Mine.ex3 J₁ fun tx tv v om0 => Mine.an4 om0 fun hm1 hm2 oq5 hv => ?_); clear om0; (try clear J₁); subst oq5)); (rw [bind2 hm1 hm2] at F₁); rotate_left; (intro i ti m₁ nx h tk own hi off J₁ F₁ N₁); ((k_dflt (refine Mine.ex3 J₁ fun tx tv v om0 => Mine.an4 om0 fun hm1 hm2 oq5 hv => ?_); clear om0; (try clear J₁); subst oq5)); (rw [bind2 hm1 hm2] at F₁); (simp only [List.nil_append] at N₁))
  k_with "strip" => exact hx.strip
  k_with "cut then" => (have hcut := cut700 hi (by assumption); (k_dflt (refine Mine.an3 hcut fun hcut hcl hcn => ?_)))
  k_with "int text" => exact int700 hx hcut hcl hcn
  k_with "nodig" => exact nodig (by assumption) (by assumption)
  rcases hx.plain with hz | ⟨c1, r1, hz, hz1⟩
  · k_with "sign" => exact sign_first hz
    k_with "str ne" => first | exact (by decide +kernel : (Str.empty.cps.toList != (Str.ofString "").cps.toList) = false) | exact ne_lists (by rw [hz, lc_zero])
    k_with "str eq" => first | exact eq_lists_not (by rw [hz, lc_mt]; exact List.cons_ne_nil _ _) | exact eq_lists ((by assumption : lc _ = [48]).trans lc_zero.symm)
    refine wpAny_call ?_
    k_dflt (k_extra "con_enter")
    k_steps
    · exact InvEndN.intro (by assumption) (by assumption) ⟨_, _, _, rfl, rfl, rfl, fig_turn1 hv (by assumption) (by assumption)⟩ rfl (List.forall_mem_nil _) (fun p hp => hp)
    · exact ends_of ⟨⟨_, congrArg (Value.int · _) (fig_end1 hx hv)⟩, rfl⟩ (List.forall_mem_nil _)
  · k_with "sign" => exact sign_first hz
    k_with "str ne" => exact (by decide +kernel : (Str.empty.cps.toList != (Str.ofString "").cps.toList) = false)
    k_with "str eq" => first | exact eq_lists_not (by rw [hz, lc_mt]; exact List.cons_ne_nil _ _) | exact not_zero (by assumption) hz1
    refine wpAny_call ?_
    k_dflt (k_extra "con_enter")
    k_steps
    · exact InvEndN.intro (by assumption) (by assumption) ⟨_, _, _, rfl, rfl, rfl, fig_turn1 hv (by assumption) (by assumption)⟩ rfl (List.forall_mem_nil _) (fun p hp => hp)
    · exact ends_of ⟨⟨_, congrArg (Value.int · _) (fig_end1 hx hv)⟩, rfl⟩ (List.forall_mem_nil _)
end Mine
end
/- T4 -/
section
open PySem PySem.W PyProof.Rows PySem.Calls PySem.Spec PySem.NumText
namespace Mine
set_option maxRecDepth 100000
set_option maxHeartbeats 8000000 
noncomputable abbrev pairObj (a b : Int) (t u : Tok) : Obj := { cls := .type "tuple", data := .seq #[.int a t, .int b u] }
noncomputable abbrev pairN (n : Nat) (a b : Int) (t u : Tok) : Obj := { cls := .type "tuple", data := .seq #[.int a t, .int b u] n }

theorem small_abs {k : Nat} {a : Int} (h : Small k a) : Small k (if a < 0 then -a else a) := by
  unfold Small at *
  split
  · have : (-a).natAbs = a.natAbs := Int.natAbs_neg a
    rw [this]; exact h
  · exact h
theorem abs_ge (a : Int) : 0 ≤ (if a < 0 then -a else a) := by
  by_cases h : a < 0
  · rw [if_pos h]; (first | lia | omega)
  · rw [if_neg h]; (first | lia | omega)
theorem abs_toNat (a : Int) : (if a < 0 then -a else a).toNat = a.natAbs := by
  split
  · rename_i h; rw [← Int.natAbs_neg]; exact toNat_abs (Int.neg_nonneg_of_nonpos (Int.le_of_lt h))
  · rename_i h; exact toNat_abs (Int.not_lt.mp h)
noncomputable def dot0 : List Nat := [46, 48]
noncomputable def coreText (r : Bool) (top bottom : Int) : List Nat :=
  if bottom = 1 then digs top.natAbs ++ (if r then dot0 else []) else [40, 47, 32] ++ digs top.natAbs ++ (if r then dot0 else []) ++ [32] ++ digs bottom.toNat ++ (if r then dot0 else []) ++ [41]
noncomputable def numText (r : Bool) (top bottom : Int) : List Nat := if top < 0 then [40, 45, 32] ++ coreText r top bottom ++ [41] else coreText r top bottom
theorem lc_neg : lc (Str.ofString "(- ") = [40, 45, 32] := by decide +kernel
theorem lc_frac : lc (Str.ofString "(/ ") = [40, 47, 32] := by decide +kernel
theorem lc_close : lc (Str.ofString ")") = [41] := by decide +kernel
theorem lc_close0 : lc (Str.ofString ".0)") = dot0 ++ [41] := by decide +kernel
theorem lc_dot0 : lc (Str.ofString ".0") = dot0 := by decide +kernel
theorem lc_mid : lc (Str.ofString ".0 ") = dot0 ++ [32] := by decide +kernel
theorem lc_sp : lc (Str.ofString " ") = [32] := by decide +kernel

theorem len_neg : (Str.ofString "(- ").length = 3 := by decide
theorem len_frac : (Str.ofString "(/ ").length = 3 := by decide
theorem len_close : (Str.ofString ")").length = 1 := by decide
theorem len_close0 : (Str.ofString ".0)").length = 3 := by decide
theorem len_dot0 : (Str.ofString ".0").length = 2 := by decide
theorem len_mid : (Str.ofString ".0 ").length = 3 := by decide
theorem len_sp : (Str.ofString " ").length = 1 := by decide
theorem len_empty : Str.empty.length = 0 := rfl

theorem signed_reads {prog : Program} {w : World} {x : Str} {t : Tok} {b : Bool} (hx : x.length ≤ 20000) :
    Reads0 prog w 1 151 [.str x t, .bool b] [] (fun r => ∃ y t', r = .str y t' ∧ lc y = (if b then [40, 45, 32] ++ lc x ++ [41] else lc x)) := by
  unfold Reads0 Runs
  intro mean mg mb dp un gd cn' cs a ccd cl outer A₀ base h₀ L m s Q E B F X N T hk hd hu hret
  rcases s with ⟨hp0, gs0, dr0, tk0, os0⟩
  dsimp only at F N hret
  k_with_none
  k_with "om" => first | (with_reducible first | assumption | exact Mine.r0 (by assumption) | exact Int.natCast_nonneg _ | exact Int.le_refl _ | exact Nat.le_refl _) | (first | lia | omega)
  k_with "rm" => first | ((try dsimp only [depth_under_make, depth_under_kw, depth_in1, depth_deeper, depth_caller, units_in1, units_deeper, Around.mark_units, units_caller, units_under_make, ktrTop]); walk_at "om") | ktr_room | ktr_units
  k_with "con_enter" => (refine' Mine.code_defQ ?k1z29 ?k2z29 ?k3z29 ?k4z29 ?k5z29 ?kAz29 ?kFz29 ?kKz29 ?k6z29 ?k7z29 ?k8z29 ?k9z29 ?kBz29 ?_ ?c2z29 ?c3z29 ?c4z29 ?c5z29; (case kAz29 => exact rfl); (case kFz29 => exact rfl); (case kKz29 => assumption); (case k1z29 => k_asm); (case k2z29 => k_asm); (case k3z29 => k_asm); (case k4z29 => k_asm); (case k5z29 => k_asm); (case k6z29 => k_is); (case k7z29 => k_is); (case k8z29 => walk_at "rm"); (case k9z29 => first | exact BindsTo.of_eq (binds := []) rfl | exact BindsTo.of_eq (binds := [(_, _)]) rfl | exact BindsTo.of_eq (binds := [(_, _), (_, _)]) rfl | exact BindsTo.of_eq (binds := [(_, _), (_, _), (_, _)]) rfl | exact BindsTo.of_eq (binds := [(_, _), (_, _), (_, _), (_, _)]) rfl | exact BindsTo.of_eq (binds := [(_, _), (_, _), (_, _), (_, _), (_, _)]) rfl | exact BindsTo.of_eq rfl); (case c5z29 => decide); (case kBz29 => exact locs rfl); (case c2z29 => exact rfl); (case c3z29 => exact rfl); (case c4z29 => exact rfl); k_whole; intro g' L' h' tk' FG' F' N' B' X' T' S' hL' qk ek)
  k_with "LeaveK" => (k_dflt (refine' Mine.leave_con ?hrz24 ?hSz24 ?hFz24 ?hNz24 ?hqz24 ?_; (case hrz24 => assumption); (case hSz24 => assumption); (case hFz24 => k_asm); (case hNz24 => k_asm); (case hqz24 => exact rfl); k_whole))
  k_with "k_all" => assumption
  k_with "key mem" => fail
  k_with "k_mem" => (k_whole; walk_at "key mem")
  k_with "k_ne" => ((refine neN ?_; (try dsimp only)); first | (refine' Mine.ne_below ?kb9z33 ?km9z33; (case kb9z33 => with_reducible assumption); (case km9z33 => walk_at "key mem")) | (refine' Mine.ne_above ?kb9z33 ?km9z33; (case kb9z33 => with_reducible assumption); (case km9z33 => walk_at "key mem")) | walk_at "ne find" | (first | lia | omega))
  k_with "k_all" => (refine' Mine.all_below ?kb9z30 ?km9z30; (case kb9z30 => with_reducible assumption); (case km9z30 => exact rfl))
  k_with "ne find" => first | with_reducible assumption | (refine Ne.symm ?_; with_reducible assumption) | (refine Nat.ne_of_lt ?_; with_reducible assumption) | (refine Nat.ne_of_gt ?_; with_reducible assumption) | ((with_reducible rename _ ∧ _ => hc9); have hc8 := hc9.1; have hc7 := hc9.2; clear hc9; walk_at "ne find")
  k_with "spliced" => (k_here; (refine PyProof.Rows.args_nil ?_); (try dsimp only [List.cons_append, List.nil_append]); (with_reducible show _ ∧ _))
  refine wpAny_call ?_
  k_dflt (k_extra "con_enter")
  k_steps
  · subst_vars
    exact ends_of ⟨⟨_, _, rfl, by rw [lc_app, lc_app, lc_app, lc_neg, lc_close, lc_empty]; rfl⟩, rfl⟩ (List.forall_mem_nil _)
  · subst_vars
    exact ends_of ⟨⟨_, _, rfl, rfl⟩, rfl⟩ (List.forall_mem_nil _)

theorem real_end1 {top bottom : Int} {x y : Str} (hx : lc x = digs (if top < 0 then -top else top).toNat) (hb : bottom = 1)
    (hy : lc y = if decide (top < 0) = true then [40, 45, 32] ++ lc (Str.empty ++ x ++ Str.ofString ".0") ++ [41] else lc (Str.empty ++ x ++ Str.ofString ".0")) : lc y = numText true top bottom := by
  rw [abs_toNat] at hx
  rw [hy, lc_app, lc_app, lc_empty, hx, lc_dot0]
  unfold numText coreText
  simp only [decide_eq_true_eq, hb, if_true, List.nil_append]
theorem real_end2 {top bottom : Int} {x z y : Str} (hx : lc x = digs (if top < 0 then -top else top).toNat) (hz : lc z = digs bottom.toNat) (hb : bottom ≠ 1)
    (hy : lc y = if decide (top < 0) = true then [40, 45, 32] ++ lc (Str.empty ++ Str.ofString "(/ " ++ x ++ Str.ofString ".0 " ++ z ++ Str.ofString ".0)") ++ [41] else lc (Str.empty ++ Str.ofString "(/ " ++ x ++ Str.ofString ".0 " ++ z ++ Str.ofString ".0)")) :
    lc y = numText true top bottom := by
  rw [abs_toNat] at hx
  have e : lc (Str.empty ++ Str.ofString "(/ " ++ x ++ Str.ofString ".0 " ++ z ++ Str.ofString ".0)") = coreText true top bottom := by
    rw [lc_app, lc_app, lc_app, lc_app, lc_app, lc_empty, hx, hz, lc_frac, lc_mid, lc_close0]
    unfold coreText
    simp only [hb, if_false, if_true, List.nil_append, List.append_assoc]
  rw [hy, e]
  unfold numText
  simp only [decide_eq_true_eq]
theorem ratio_end {top : Int} {x y : Str} (hx : lc x = digs (if top < 0 then -top else top).toNat)
    (hy : lc y = if decide (top < 0) = true then [40, 45, 32] ++ lc x ++ [41] else lc x) : lc y = numText false top 1 := by
  rw [abs_toNat] at hx
  rw [hy, hx]
  unfold numText coreText
  simp

theorem real_reads {prog : Program} {w : World} {v : Addr} {top bottom : Int} {nn : Nat} {t u : Tok} (g : GoodNum true top bottom) :
    Reads0 prog w 2 172 [.ref v] [(v, pairN nn top bottom t u)] (fun r => ∃ x t', r = .str x t' ∧ lc x = numText true top bottom) := by
  unfold Reads0 Runs
  intro mean mg mb dp un gd cn' cs a ccd cl outer A₀ base h₀ L m s Q E B F X N T hk hd hu hret
  rcases s with ⟨hp0, gs0, dr0, tk0, os0⟩
  dsimp only at F N hret
  k_with_none
  k_with "om" => first | (with_reducible first | assumption | exact Mine.r2 (by assumption) (by k_dflt exact rfl) | exact Mine.r0 (by assumption) | exact Int.natCast_nonneg _ | exact Mine.i9 (by assumption) | exact Int.le_refl _ | exact Nat.le_refl _) | (first | lia | omega)
  k_with "rm" => first | ((try dsimp only [depth_under_make, depth_under_kw, depth_in1, depth_deeper, depth_caller, units_in1, units_deeper, Around.mark_units, units_caller, units_under_make, ktrTop]); walk_at "om") | ktr_room | ktr_units
  k_with "con_enter" => (refine' Mine.code_defQ ?k1z29 ?k2z29 ?k3z29 ?k4z29 ?k5z29 ?kAz29 ?kFz29 ?kKz29 ?k6z29 ?k7z29 ?k8z29 ?k9z29 ?kBz29 ?_ ?c2z29 ?c3z29 ?c4z29 ?c5z29; (case kAz29 => exact rfl); (case kFz29 => exact rfl); (case kKz29 => assumption); (case k1z29 => k_asm); (case k2z29 => k_asm); (case k3z29 => k_asm); (case k4z29 => k_asm); (case k5z29 => k_asm); (case k6z29 => k_is); (case k7z29 => k_is); (case k8z29 => walk_at "rm"); (case k9z29 => first | exact BindsTo.of_eq (binds := []) rfl | exact BindsTo.of_eq (binds := [(_, _)]) rfl | exact BindsTo.of_eq (binds := [(_, _), (_, _)]) rfl | exact BindsTo.of_eq (binds := [(_, _), (_, _), (_, _)]) rfl | exact BindsTo.of_eq (binds := [(_, _), (_, _), (_, _), (_, _)]) rfl | exact BindsTo.of_eq (binds := [(_, _), (_, _), (_, _), (_, _), (_, _)]) rfl | exact BindsTo.of_eq rfl); (case c5z29 => decide); (case kBz29 => exact locs rfl); (case c2z29 => exact rfl); (case c3z29 => exact rfl); (case c4z29 => exact rfl); k_whole; intro g' L' h' tk' FG' F' N' B' X' T' S' hL' qk ek)
  k_with "newTuple" => (k_here; k_dflt (refine' Mine.newTupleS ?Fz21 ?Nz21 ?ez21 ?zz21 ?_; (case Fz21 => k_asm); (case Nz21 => k_asm); (case ez21 => (dsimp only [List.map]; (try exact rfl))); (case zz21 => kmk_size)); intro D' h' l1 F' N'; (try k_sweep))
  k_with "LeaveK" => (k_dflt (refine' Mine.leave_con ?hrz24 ?hSz24 ?hFz24 ?hNz24 ?hqz24 ?_; (case hrz24 => assumption); (case hSz24 => assumption); (case hFz24 => k_asm); (case hNz24 => k_asm); (case hqz24 => exact rfl); k_whole))
  k_with "k_all" => assumption
  k_with "key mem" => with_reducible first | exact Mine.m0 | exact Mine.m1
  k_with "k_mem" => (k_whole; walk_at "key mem")
  k_with "k_ne" => ((refine neN ?_; (try dsimp only)); first | (refine' Mine.ne_below ?kb9z33 ?km9z33; (case kb9z33 => with_reducible assumption); (case km9z33 => walk_at "key mem")) | (refine' Mine.ne_above ?kb9z33 ?km9z33; (case kb9z33 => with_reducible assumption); (case km9z33 => walk_at "key mem")) | walk_at "ne find" | (first | lia | omega))
  k_with "k_all" => (refine' Mine.all_below ?kb9z30 ?km9z30; (case kb9z30 => with_reducible assumption); (case km9z30 => exact rfl))
  k_with "ne find" => first | with_reducible assumption | (refine Ne.symm ?_; with_reducible assumption) | (refine Nat.ne_of_lt ?_; with_reducible assumption) | (refine Nat.ne_of_gt ?_; with_reducible assumption) | ((with_reducible rename _ ∧ _ => hc9); have hc8 := hc9.1; have hc7 := hc9.2; clear hc9; walk_at "ne find")
  k_with "spliced" => (k_here; (refine PyProof.Rows.args_nil ?_); (try dsimp only [List.cons_append, List.nil_append]); (with_reducible show _ ∧ _))
  k_with "call ref" => (k_here; (with_reducible show wpAny _ _ (call (Value.ref 158) _) _ _ _); k_dflt (refine' Mine.Runs.useT (Mine.figures_reads ?az135 ?bz135) ?k1z135 ?k2z135 ?k3z135 ?k4z135 ?k5z135 ?kKz135 ?kdz135 ?kuz135 ?kfz135 ?_; (case k1z135 => k_asm); (case k2z135 => k_asm); (case k3z135 => k_asm); (case k4z135 => k_asm); (case k5z135 => k_asm); (case kKz135 => first | exact rfl | assumption); (case az135 => k_extra "nonneg"); (case bz135 => k_extra "small"); (case kfz135 => exact List.forall_mem_nil _); (case kdz135 => walk_at "rm"); (case kuz135 => walk_at "rm")); intro x' t' h' tk' F' N' hP'; (obtain ⟨hx', hl'⟩ := hP'); (try k_sweep))
  k_with "call ref" => (k_here; (with_reducible show wpAny _ _ (call (Value.ref 151) _) _ _ _); k_dflt (refine' Mine.Runs.useT (Mine.signed_reads ?az136) ?k1z136 ?k2z136 ?k3z136 ?k4z136 ?k5z136 ?kKz136 ?kdz136 ?kuz136 ?kfz136 ?_; (case k1z136 => k_asm); (case k2z136 => k_asm); (case k3z136 => k_asm); (case k4z136 => k_asm); (case k5z136 => k_asm); (case kKz136 => first | exact rfl | assumption); (case az136 => first | walk_at "om" | (simp only [strLen_append, len_neg, len_frac, len_close, len_close0, len_dot0, len_mid, len_sp, len_empty]; walk_at "om")); (case kfz136 => exact List.forall_mem_nil _); (case kdz136 => walk_at "rm"); (case kuz136 => walk_at "rm")); intro x' t' h' tk' F' N' hx'; (try k_sweep))
  have gp := g.pos
  k_with "nonneg" => first | exact abs_ge _ | walk_at "om"
  k_with "small" => first | exact small_abs g.small | exact g.smallb
  refine wpAny_call ?_
  k_dflt (k_extra "con_enter")
  k_steps
  · exact ends_of ⟨⟨_, _, rfl, real_end1 (by assumption) (by assumption) (by assumption)⟩, rfl⟩ (by repeat' (first | exact List.forall_mem_nil _ | refine List.forall_mem_cons.mpr ⟨by k_mem, ?_⟩))
  · exact ends_of ⟨⟨_, _, rfl, real_end2 (by assumption) (by assumption) (by assumption) (by assumption)⟩, rfl⟩ (by repeat' (first | exact List.forall_mem_nil _ | refine List.forall_mem_cons.mpr ⟨by k_mem, ?_⟩))

theorem ratio_reads {prog : Program} {w : World} {v : Addr} {top bottom : Int} {nn : Nat} {t u : Tok} (g : GoodNum false top bottom) :
    Reads0 prog w 2 165 [.ref v] [(v, pairN nn top bottom t u)] (fun r => ∃ x t', r = .str x t' ∧ lc x = numText false top bottom) := by
  have hb := g.int rfl
  subst hb
  unfold Reads0 Runs
  intro mean mg mb dp un gd cn' cs a ccd cl outer A₀ base h₀ L m s Q E B F X N T hk hd hu hret
  rcases s with ⟨hp0, gs0, dr0, tk0, os0⟩
  dsimp only at F N hret
  k_with_none
  k_with "om" => first | (with_reducible first | assumption | exact Mine.r2 (by assumption) (by k_dflt exact rfl) | exact Mine.r0 (by assumption) | exact Mine.n2 (by assumption) (by k_dflt exact rfl) | exact Int.natCast_nonneg _ | exact Mine.i9 (by assumption) | exact Int.le_refl _ | exact Nat.le_refl _) | (first | lia | omega)
  k_with "rm" => first | ((try dsimp only [depth_under_make, depth_under_kw, depth_in1, depth_deeper, depth_caller, units_in1, units_deeper, Around.mark_units, units_caller, units_under_make, ktrTop]); walk_at "om") | ktr_room | ktr_units
  k_with "con_enter" => (refine' Mine.code_defQ ?k1z29 ?k2z29 ?k3z29 ?k4z29 ?k5z29 ?kAz29 ?kFz29 ?kKz29 ?k6z29 ?k7z29 ?k8z29 ?k9z29 ?kBz29 ?_ ?c2z29 ?c3z29 ?c4z29 ?c5z29; (case kAz29 => exact rfl); (case kFz29 => exact rfl); (case kKz29 => assumption); (case k1z29 => k_asm); (case k2z29 => k_asm); (case k3z29 => k_asm); (case k4z29 => k_asm); (case k5z29 => k_asm); (case k6z29 => k_is); (case k7z29 => k_is); (case k8z29 => walk_at "rm"); (case k9z29 => first | exact BindsTo.of_eq (binds := []) rfl | exact BindsTo.of_eq (binds := [(_, _)]) rfl | exact BindsTo.of_eq (binds := [(_, _), (_, _)]) rfl | exact BindsTo.of_eq (binds := [(_, _), (_, _), (_, _)]) rfl | exact BindsTo.of_eq (binds := [(_, _), (_, _), (_, _), (_, _)]) rfl | exact BindsTo.of_eq (binds := [(_, _), (_, _), (_, _), (_, _), (_, _)]) rfl | exact BindsTo.of_eq rfl); (case c5z29 => decide); (case kBz29 => exact locs rfl); (case c2z29 => exact rfl); (case c3z29 => exact rfl); (case c4z29 => exact rfl); k_whole; intro g' L' h' tk' FG' F' N' B' X' T' S' hL' qk ek)
  k_with "newTuple" => (k_here; k_dflt (refine' Mine.newTupleS ?Fz21 ?Nz21 ?ez21 ?zz21 ?_; (case Fz21 => k_asm); (case Nz21 => k_asm); (case ez21 => (dsimp only [List.map]; (try exact rfl))); (case zz21 => kmk_size)); intro D' h' l1 F' N'; (try k_sweep))
  k_with "LeaveK" => (k_dflt (refine' Mine.leave_con ?hrz24 ?hSz24 ?hFz24 ?hNz24 ?hqz24 ?_; (case hrz24 => assumption); (case hSz24 => assumption); (case hFz24 => k_asm); (case hNz24 => k_asm); (case hqz24 => exact rfl); k_whole))
  k_with "k_all" => assumption
  k_with "key mem" => with_reducible first | exact Mine.m0 | exact Mine.m1
  k_with "k_mem" => (k_whole; walk_at "key mem")
  k_with "k_ne" => ((refine neN ?_; (try dsimp only)); first | (refine' Mine.ne_below ?kb9z33 ?km9z33; (case kb9z33 => with_reducible assumption); (case km9z33 => walk_at "key mem")) | (refine' Mine.ne_above ?kb9z33 ?km9z33; (case kb9z33 => with_reducible assumption); (case km9z33 => walk_at "key mem")) | walk_at "ne find" | (first | lia | omega))
  k_with "k_all" => (refine' Mine.all_below ?kb9z30 ?km9z30; (case kb9z30 => with_reducible assumption); (case km9z30 => exact rfl))
  k_with "ne find" => first | with_reducible assumption | (refine Ne.symm ?_; with_reducible assumption) | (refine Nat.ne_of_lt ?_; with_reducible assumption) | (refine Nat.ne_of_gt ?_; with_reducible assumption) | ((with_reducible rename _ ∧ _ => hc9); have hc8 := hc9.1; have hc7 := hc9.2; clear hc9; walk_at "ne find")
  k_with "spliced" => (k_here; (refine PyProof.Rows.args_nil ?_); (try dsimp only [List.cons_append, List.nil_append]); (with_reducible show _ ∧ _))
  k_with "call ref" => (k_here; (with_reducible show wpAny _ _ (call (Value.ref 158) _) _ _ _); k_dflt (refine' Mine.Runs.useT (Mine.figures_reads ?az135 ?bz135) ?k1z135 ?k2z135 ?k3z135 ?k4z135 ?k5z135 ?kKz135 ?kdz135 ?kuz135 ?kfz135 ?_; (case k1z135 => k_asm); (case k2z135 => k_asm); (case k3z135 => k_asm); (case k4z135 => k_asm); (case k5z135 => k_asm); (case kKz135 => first | exact rfl | assumption); (case az135 => k_extra "nonneg"); (case bz135 => k_extra "small"); (case kfz135 => exact List.forall_mem_nil _); (case kdz135 => walk_at "rm"); (case kuz135 => walk_at "rm")); intro x' t' h' tk' F' N' hP'; (obtain ⟨hx', hl'⟩ := hP'); (try k_sweep))
  k_with "call ref" => (k_here; (with_reducible show wpAny _ _ (call (Value.ref 151) _) _ _ _); k_dflt (refine' Mine.Runs.useT (Mine.signed_reads ?az136) ?k1z136 ?k2z136 ?k3z136 ?k4z136 ?k5z136 ?kKz136 ?kdz136 ?kuz136 ?kfz136 ?_; (case k1z136 => k_asm); (case k2z136 => k_asm); (case k3z136 => k_asm); (case k4z136 => k_asm); (case k5z136 => k_asm); (case kKz136 => first | exact rfl | assumption); (case az136 => first | walk_at "om" | (simp only [strLen_append, len_neg, len_frac, len_close, len_close0, len_dot0, len_mid, len_sp, len_empty]; walk_at "om")); (case kfz136 => exact List.forall_mem_nil _); (case kdz136 => walk_at "rm"); (case kuz136 => walk_at "rm")); intro x' t' h' tk' F' N' hx'; (try k_sweep))
  have gp := g.pos
  k_with "nonneg" => first | exact abs_ge _ | walk_at "om"
  k_with "small" => first | exact small_abs g.small | exact g.smallb
  refine wpAny_call ?_
  k_dflt (k_extra "con_enter")
  k_steps
  · exact ends_of ⟨⟨_, _, rfl, ratio_end (by assumption) (by assumption)⟩, rfl⟩ (by repeat' (first | exact List.forall_mem_nil _ | refine List.forall_mem_cons.mpr ⟨by k_mem, ?_⟩))


theorem numtext_reads {prog : Program} {w : World} {v : Addr} {r : Bool} {top bottom : Int} {nn : Nat} {t u t' : Tok} (g : GoodNum r top bottom) :
    Reads0 prog w 3 720 [.ref v, .int (if r then 2 else 1) t'] [(v, pairN nn top bottom t u)] (fun z => ∃ x t', z = .str x t' ∧ lc x = numText r top bottom) := by
  cases r
  case' false => show Reads0 prog w 3 720 [.ref v, .int 1 t'] _ _
  case' true => show Reads0 prog w 3 720 [.ref v, .int 2 t'] _ _
  all_goals (
    unfold Reads0 Runs
    intro mean mg mb dp un gd cn' cs a ccd cl outer A₀ base h₀ L m s Q E B F X N T hk hd hu hret
    rcases s with ⟨hp0, gs0, dr0, tk0, os0⟩
    dsimp only at F N hret
    k_with_none
    k_with "om" => first | (with_reducible first | assumption | exact Mine.r2 (by assumption) (by k_dflt exact rfl) | exact Mine.r0 (by assumption) | exact Int.natCast_nonneg _ | exact Int.le_refl _ | exact Nat.le_refl _) | (first | lia | omega)
    k_with "rm" => first | ((try dsimp only [depth_under_make, depth_under_kw, depth_in1, depth_deeper, depth_caller, units_in1, units_deeper, Around.mark_units, units_caller, units_under_make, ktrTop]); walk_at "om") | ktr_room | ktr_units
    k_with "con_enter" => (refine' Mine.code_defQ ?k1z29 ?k2z29 ?k3z29 ?k4z29 ?k5z29 ?kAz29 ?kFz29 ?kKz29 ?k6z29 ?k7z29 ?k8z29 ?k9z29 ?kBz29 ?_ ?c2z29 ?c3z29 ?c4z29 ?c5z29; (case kAz29 => exact rfl); (case kFz29 => exact rfl); (case kKz29 => assumption); (case k1z29 => k_asm); (case k2z29 => k_asm); (case k3z29 => k_asm); (case k4z29 => k_asm); (case k5z29 => k_asm); (case k6z29 => k_is); (case k7z29 => k_is); (case k8z29 => walk_at "rm"); (case k9z29 => first | exact BindsTo.of_eq (binds := []) rfl | exact BindsTo.of_eq (binds := [(_, _)]) rfl | exact BindsTo.of_eq (binds := [(_, _), (_, _)]) rfl | exact BindsTo.of_eq (binds := [(_, _), (_, _), (_, _)]) rfl | exact BindsTo.of_eq (binds := [(_, _), (_, _), (_, _), (_, _)]) rfl | exact BindsTo.of_eq (binds := [(_, _), (_, _), (_, _), (_, _), (_, _)]) rfl | exact BindsTo.of_eq rfl); (case c5z29 => decide); (case kBz29 => exact locs rfl); (case c2z29 => exact rfl); (case c3z29 => exact rfl); (case c4z29 => exact rfl); k_whole; intro g' L' h' tk' FG' F' N' B' X' T' S' hL' qk ek)
    k_with "LeaveK" => (k_dflt (refine' Mine.leave_con ?hrz24 ?hSz24 ?hFz24 ?hNz24 ?hqz24 ?_; (case hrz24 => assumption); (case hSz24 => assumption); (case hFz24 => k_asm); (case hNz24 => k_asm); (case hqz24 => exact rfl); k_whole))
    k_with "k_all" => assumption
    k_with "key mem" => with_reducible first | exact Mine.m0
    k_with "k_mem" => (k_whole; walk_at "key mem")
    k_with "k_ne" => ((refine neN ?_; (try dsimp only)); first | (refine' Mine.ne_below ?kb9z33 ?km9z33; (case kb9z33 => with_reducible assumption); (case km9z33 => walk_at "key mem")) | (refine' Mine.ne_above ?kb9z33 ?km9z33; (case kb9z33 => with_reducible assumption); (case km9z33 => walk_at "key mem")) | walk_at "ne find" | (first | lia | omega))
    k_with "k_all" => (refine' Mine.all_below ?kb9z30 ?km9z30; (case kb9z30 => with_reducible assumption); (case km9z30 => exact rfl))
    k_with "ne find" => first | with_reducible assumption | (refine Ne.symm ?_; with_reducible assumption) | (refine Nat.ne_of_lt ?_; with_reducible assumption) | (refine Nat.ne_of_gt ?_; with_reducible assumption) | ((with_reducible rename _ ∧ _ => hc9); have hc8 := hc9.1; have hc7 := hc9.2; clear hc9; walk_at "ne find")
    k_with "spliced" => (k_here; (refine PyProof.Rows.args_nil ?_); (try dsimp only [List.cons_append, List.nil_append]); (with_reducible show _ ∧ _))
    k_with "call ref" => (k_here; (with_reducible show wpAny _ _ (call (Value.ref 172) _) _ _ _); k_dflt (refine' Mine.Runs.useT (Mine.real_reads ?az137) ?k1z137 ?k2z137 ?k3z137 ?k4z137 ?k5z137 ?kKz137 ?kdz137 ?kuz137 ?kfz137 ?_; (case k1z137 => k_asm); (case k2z137 => k_asm); (case k3z137 => k_asm); (case k4z137 => k_asm); (case k5z137 => k_asm); (case kKz137 => first | exact rfl | assumption); (case kfz137 => exact List.forall_mem_cons.mpr ⟨by k_mem, List.forall_mem_nil _⟩); (case az137 => assumption); (case kdz137 => walk_at "rm"); (case kuz137 => walk_at "rm")); intro x' t' h' tk' F' N' hx'; (try k_sweep))
    k_with "call ref" => (k_here; (with_reducible show wpAny _ _ (call (Value.ref 165) _) _ _ _); k_dflt (refine' Mine.Runs.useT (Mine.ratio_reads ?az138) ?k1z138 ?k2z138 ?k3z138 ?k4z138 ?k5z138 ?kKz138 ?kdz138 ?kuz138 ?kfz138 ?_; (case k1z138 => k_asm); (case k2z138 => k_asm); (case k3z138 => k_asm); (case k4z138 => k_asm); (case k5z138 => k_asm); (case kKz138 => first | exact rfl | assumption); (case kfz138 => exact List.forall_mem_cons.mpr ⟨by k_mem, List.forall_mem_nil _⟩); (case az138 => assumption); (case kdz138 => walk_at "rm"); (case kuz138 => walk_at "rm")); intro x' t' h' tk' F' N' hx'; (try k_sweep))
    refine wpAny_call ?_
    k_dflt (k_extra "con_enter")
    k_steps
    all_goals exact ends_of ⟨⟨_, _, rfl, by assumption⟩, rfl⟩ (by repeat' (first | exact List.forall_mem_nil _ | refine List.forall_mem_cons.mpr ⟨by k_mem, ?_⟩)))
end Mine
end
/- F2 -/
section
open PySem PySem.W PyProof.Rows PySem.Calls PySem.Spec PySem.NumText
namespace Mine
set_option maxRecDepth 100000
set_option maxHeartbeats 4000000 
noncomputable abbrev tup (xs : List Value) (n : Nat := 0) : Obj := { cls := .type "tuple", data := .seq xs.toArray n }
noncomputable def NumRet (top bottom : Int) (r : Bool) (v : Value) (tl : List (Addr × Obj)) : Prop := ∃ a t1 t2, v = .ref a ∧ tl = [(a, tup [.int top t1, .int bottom t2, .bool r])]

theorem take_ne {x y : Str} {c k d : Nat} {r e : List Nat} (hx : lc x = c :: r) (hy : lc y = (lc x).take k) (hc : c ≠ d) : lc y ≠ d :: e := by
  rw [hy, hx]
  cases k with
  | zero => exact fun q => nomatch q
  | succ k => rw [List.take_succ_cons]; exact fun q => hc (List.cons.inj q).1
theorem lc_dz : lc (Str.ofString ".0") = [46, 48] := by decide +kernel
theorem lc_mi : lc (Str.ofString "(- ") = [40, 45, 32] := by decide +kernel
theorem lc_sl : lc (Str.ofString "(/ ") = [40, 47, 32] := by decide +kernel
theorem not_mi {x y : Str} {c k : Nat} {r : List Nat} (hx : lc x = c :: r) (hc : c ≠ 40) (hy : lc y = (lc x).take k) : (y.cps.toList == (Str.ofString "(- ").cps.toList) = false :=
  eq_lists_not (by rw [lc_mi]; exact take_ne hx hy hc)
theorem not_sl {x y : Str} {c k : Nat} {r : List Nat} (hx : lc x = c :: r) (hc : c ≠ 40) (hy : lc y = (lc x).take k) : (y.cps.toList == (Str.ofString "(/ ").cps.toList) = false :=
  eq_lists_not (by rw [lc_sl]; exact take_ne hx hy hc)
theorem is_dz {x y : Str} {cs : List Nat} (hx : lc x = cs ++ dot0) (hy : lc y = (lc x).drop (clip x.length (-2))) : (y.cps.toList == (Str.ofString ".0").cps.toList) = true := by
  refine eq_lists ?_
  have hl : x.length = cs.length + 2 := by rw [← lc_len, hx, List.length_append]; rfl
  have e : clip x.length (-2) = cs.length := by rw [hl]; exact clip_neg (k := 2) (by decide)
  rw [hy, hx, e, lc_dz, List.drop_left]; rfl
theorem not_dz {x y : Str} {k : Nat} (hx : AllDigits (lc x)) (hy : lc y = (lc x).drop k) : (y.cps.toList == (Str.ofString ".0").cps.toList) = false := by
  refine eq_lists_not ?_
  rw [lc_dz]
  intro q
  have h1 : 46 ∈ lc y := by rw [q]; exact .head _
  rw [hy] at h1
  have := hx 46 (List.mem_of_mem_drop h1)
  (first | lia | omega)
theorem cut_dz {x y : Str} {cs : List Nat} (hx : lc x = cs ++ dot0) (hy : lc y = (lc x).take (clip x.length (-2))) : lc y = cs := by
  have hl : x.length = cs.length + 2 := by rw [← lc_len, hx, List.length_append]; rfl
  have e : clip x.length (-2) = cs.length := by rw [hl]; exact clip_neg (k := 2) (by decide)
  rw [hy, hx, e, List.take_left]
theorem Figs.head {cs : List Nat} {n : Nat} (h : Figs cs n) : ∃ c r, cs = c :: r ∧ c ≠ 40 := by
  (refine Mine.ex2 (List.exists_cons_of_ne_nil h.ne) fun c r e => ?_)
  refine ⟨c, r, e, ?_⟩
  have := h.all c (by rw [e]; exact .head _)
  (first | lia | omega)
end Mine
open PySem PySem.W PyProof.Rows PySem.Calls PySem.Spec Mine
namespace Mine
theorem number0 {prog : Program} {w : World} {x : Str} {t : Tok} {cs : List Nat} {n : Nat} {r : Bool} (hx : lc x = cs ++ (if r then dot0 else [])) (hf : Figs cs n) :
    Runs prog w 2 836 [.str x t] [] (NumRet n 1 r) := by
  have hl := hf.len
  (refine Mine.ex2 hf.head fun c rs om0 => Mine.an2 om0 fun hc hc0 => ?_; clear om0)
  have hlx : x.length ≤ 8002 := by rw [← lc_len, hx, List.length_append]; cases r <;> simp [dot0] <;> (first | lia | omega)
  cases r with
  | true =>
    simp only [if_true] at hx
    have hx2 := hx
    rw [hc, List.cons_append] at hx2
    unfold Runs
    intro mean mg mb dp un gd cn' cs a ccd cl outer A₀ base h₀ L m s Q E B F X N T hk hd hu hret
    rcases s with ⟨hp0, gs0, dr0, tk0, os0⟩
    dsimp only at F N hret
    k_with_none
    k_with "om" => first | (with_reducible first | assumption | exact Mine.r2 (by assumption) (by k_dflt exact rfl) | exact Mine.r0 (by assumption) | exact Mine.n2 (by assumption) (by k_dflt exact rfl) | exact Int.natCast_nonneg _ | exact Int.le_refl _ | exact Nat.le_refl _) | (first | lia | omega)
    k_with "rm" => first | ((try dsimp only [depth_under_make, depth_under_kw, depth_in1, depth_deeper, depth_caller, units_in1, units_deeper, Around.mark_units, units_caller, units_under_make, ktrTop]); walk_at "om") | ktr_room | ktr_units
    k_with "con_enter" => (refine' Mine.code_defQ ?k1z29 ?k2z29 ?k3z29 ?k4z29 ?k5z29 ?kAz29 ?kFz29 ?kKz29 ?k6z29 ?k7z29 ?k8z29 ?k9z29 ?kBz29 ?_ ?c2z29 ?c3z29 ?c4z29 ?c5z29; (case kAz29 => exact rfl); (case kFz29 => exact rfl); (case kKz29 => assumption); (case k1z29 => k_asm); (case k2z29 => k_asm); (case k3z29 => k_asm); (case k4z29 => k_asm); (case k5z29 => k_asm); (case k6z29 => k_is); (case k7z29 => k_is); (case k8z29 => walk_at "rm"); (case k9z29 => first | exact BindsTo.of_eq (binds := []) rfl | exact BindsTo.of_eq (binds := [(_, _)]) rfl | exact BindsTo.of_eq (binds := [(_, _), (_, _)]) rfl | exact BindsTo.of_eq (binds := [(_, _), (_, _), (_, _)]) rfl | exact BindsTo.of_eq (binds := [(_, _), (_, _), (_, _), (_, _)]) rfl | exact BindsTo.of_eq (binds := [(_, _), (_, _), (_, _), (_, _), (_, _)]) rfl | exact BindsTo.of_eq rfl); (case c5z29 => decide); (case kBz29 => exact locs rfl); (case c2z29 => exact rfl); (case c3z29 => exact rfl); (case c4z29 => exact rfl); k_whole; intro g' L' h' tk' FG' F' N' B' X' T' S' hL' qk ek)
    k_with "newTuple" => (k_here; k_dflt (refine' Mine.newTupleS ?Fz21 ?Nz21 ?ez21 ?zz21 ?_; (case Fz21 => k_asm); (case Nz21 => k_asm); (case ez21 => (dsimp only [List.map]; (try exact rfl))); (case zz21 => kmk_size)); intro D' h' l1 F' N'; (try k_sweep))
    k_with "LeaveK" => (k_dflt (refine' Mine.leave_con ?hrz24 ?hSz24 ?hFz24 ?hNz24 ?hqz24 ?_; (case hrz24 => assumption); (case hSz24 => assumption); (case hFz24 => k_asm); (case hNz24 => k_asm); (case hqz24 => exact rfl); k_whole))
    k_with "k_all" => assumption
    k_with "key mem" => fail
    k_with "k_mem" => (k_whole; walk_at "key mem")
    k_with "k_ne" => ((refine neN ?_; (try dsimp only)); first | (refine' Mine.ne_below ?kb9z33 ?km9z33; (case kb9z33 => with_reducible assumption); (case km9z33 => walk_at "key mem")) | (refine' Mine.ne_above ?kb9z33 ?km9z33; (case kb9z33 => with_reducible assumption); (case km9z33 => walk_at "key mem")) | walk_at "ne find" | (first | lia | omega))
    k_with "k_all" => (refine' Mine.all_below ?kb9z30 ?km9z30; (case kb9z30 => with_reducible assumption); (case km9z30 => exact rfl))
    k_with "ne find" => first | with_reducible assumption | (refine Ne.symm ?_; with_reducible assumption) | (refine Nat.ne_of_lt ?_; with_reducible assumption) | (refine Nat.ne_of_gt ?_; with_reducible assumption) | ((with_reducible rename _ ∧ _ => hc9); have hc8 := hc9.1; have hc7 := hc9.2; clear hc9; walk_at "ne find")
    k_with "spliced" => (k_here; (refine PyProof.Rows.args_nil ?_); (try dsimp only [List.cons_append, List.nil_append]); (with_reducible show _ ∧ _))
    k_with "compareOp Eq str str" => (k_here; (with_reducible show wpAny _ _ (compareOp CmpOp.Eq (Value.str _ _) (Value.str _ _)) _ _ _); first | (refine Mine.eq_lit true (by k_extra "str eq") ?_) | (refine Mine.eq_lit false (by k_extra "str eq") ?_))
    k_with "subscriptTail Name Slice str ref" => (k_here; (with_reducible show wpAny _ _ (subscriptTail _ (Expr.Slice _ _ _ _) (Value.str _ _) (Value.ref _)) _ _ _); (with_reducible rename Fr _ _ _ _ => F'); (with_reducible rename News _ _ _ _ => N'); (first | ((with_reducible show wpAny _ _ (subscriptTail _ (Expr.Slice none (some _) none _) _ _) _ _ _); (refine Mine.cut_ns (s := ⟨_, _, _, _, _⟩) F' N' (by walk_at "om") ?_ (by with_unfolding_all rfl) (by intro _; with_unfolding_all rfl))) | ((with_reducible show wpAny _ _ (subscriptTail _ (Expr.Slice (some _) none none _) _ _) _ _ _); (refine Mine.cut_sn (s := ⟨_, _, _, _, _⟩) F' N' (by walk_at "om") ?_ (by with_unfolding_all rfl) (by intro _; with_unfolding_all rfl))) | ((with_reducible show wpAny _ _ (subscriptTail _ (Expr.Slice (some _) (some _) none _) _ _) _ _ _); (refine Mine.cut_ss (s := ⟨_, _, _, _, _⟩) F' N' (by walk_at "om") ?_ (by with_unfolding_all rfl) (by intro _; with_unfolding_all rfl)))); clear F' N'; intro h' t' k' y' F' N' hy' hly'; (try (k_extra "cut then")))
    k_with "call ref" => (k_here; (with_reducible show wpAny _ _ (call (Value.ref 831) _) _ _ _); k_dflt (refine' Mine.Runs.useC (Mine.figures_law ?hxz48) ?k1z48 ?k2z48 ?k3z48 ?k4z48 ?k5z48 ?kKz48 ?kdz48 ?kuz48 ?kfz48 ?_; (case k1z48 => k_asm); (case k2z48 => k_asm); (case k3z48 => k_asm); (case k4z48 => k_asm); (case k5z48 => k_asm); (case kKz48 => first | exact rfl | assumption); (case hxz48 => k_extra "figs"); (case kfz48 => exact List.forall_mem_nil _); (case kdz48 => walk_at "rm"); (case kuz48 => walk_at "rm")); intro r' h' tk' F' N' hP'; ((k_dflt (refine Mine.ex1 hP' fun t' e' => ?_); (try clear hP'))); (subst e'); (try k_sweep))
    k_with "str eq" => first | exact not_mi hx2 hc0 (by assumption) | exact not_sl hx2 hc0 (by assumption) | exact is_dz hx (by assumption)
    k_with "figs" => (rw [cut_dz hx (by assumption)]; exact hf)
    refine wpAny_call ?_
    k_dflt (k_extra "con_enter")
    k_steps
    all_goals exact ends_of ⟨_, _, _, rfl, rfl⟩ (fun q hq => hq)
  | false =>
    simp only [Bool.false_eq_true, if_false, List.append_nil] at hx
    have hx2 := hx
    rw [hc] at hx2
    have ha := hf.all
    rw [← hx] at ha
    unfold Runs
    intro mean mg mb dp un gd cn' cs a ccd cl outer A₀ base h₀ L m s Q E B F X N T hk hd hu hret
    rcases s with ⟨hp0, gs0, dr0, tk0, os0⟩
    dsimp only at F N hret
    k_with_none
    k_with "om" => first | (with_reducible first | assumption | exact Mine.r2 (by assumption) (by k_dflt exact rfl) | exact Mine.r0 (by assumption) | exact Mine.n2 (by assumption) (by k_dflt exact rfl) | exact Int.natCast_nonneg _ | exact Int.le_refl _ | exact Nat.le_refl _) | (first | lia | omega)
    k_with "rm" => first | ((try dsimp only [depth_under_make, depth_under_kw, depth_in1, depth_deeper, depth_caller, units_in1, units_deeper, Around.mark_units, units_caller, units_under_make, ktrTop]); walk_at "om") | ktr_room | ktr_units
    k_with "con_enter" => (refine' Mine.code_defQ ?k1z29 ?k2z29 ?k3z29 ?k4z29 ?k5z29 ?kAz29 ?kFz29 ?kKz29 ?k6z29 ?k7z29 ?k8z29 ?k9z29 ?kBz29 ?_ ?c2z29 ?c3z29 ?c4z29 ?c5z29; (case kAz29 => exact rfl); (case kFz29 => exact rfl); (case kKz29 => assumption); (case k1z29 => k_asm); (case k2z29 => k_asm); (case k3z29 => k_asm); (case k4z29 => k_asm); (case k5z29 => k_asm); (case k6z29 => k_is); (case k7z29 => k_is); (case k8z29 => walk_at "rm"); (case k9z29 => first | exact BindsTo.of_eq (binds := []) rfl | exact BindsTo.of_eq (binds := [(_, _)]) rfl | exact BindsTo.of_eq (binds := [(_, _), (_, _)]) rfl | exact BindsTo.of_eq (binds := [(_, _), (_, _), (_, _)]) rfl | exact BindsTo.of_eq (binds := [(_, _), (_, _), (_, _), (_, _)]) rfl | exact BindsTo.of_eq (binds := [(_, _), (_, _), (_, _), (_, _), (_, _)]) rfl | exact BindsTo.of_eq rfl); (case c5z29 => decide); (case kBz29 => exact locs rfl); (case c2z29 => exact rfl); (case c3z29 => exact rfl); (case c4z29 => exact rfl); k_whole; intro g' L' h' tk' FG' F' N' B' X' T' S' hL' qk ek)
    k_with "newTuple" => (k_here; k_dflt (refine' Mine.newTupleS ?Fz21 ?Nz21 ?ez21 ?zz21 ?_; (case Fz21 => k_asm); (case Nz21 => k_asm); (case ez21 => (dsimp only [List.map]; (try exact rfl))); (case zz21 => kmk_size)); intro D' h' l1 F' N'; (try k_sweep))
    k_with "LeaveK" => (k_dflt (refine' Mine.leave_con ?hrz24 ?hSz24 ?hFz24 ?hNz24 ?hqz24 ?_; (case hrz24 => assumption); (case hSz24 => assumption); (case hFz24 => k_asm); (case hNz24 => k_asm); (case hqz24 => exact rfl); k_whole))
    k_with "k_all" => assumption
    k_with "key mem" => fail
    k_with "k_mem" => (k_whole; walk_at "key mem")
    k_with "k_ne" => ((refine neN ?_; (try dsimp only)); first | (refine' Mine.ne_below ?kb9z33 ?km9z33; (case kb9z33 => with_reducible assumption); (case km9z33 => walk_at "key mem")) | (refine' Mine.ne_above ?kb9z33 ?km9z33; (case kb9z33 => with_reducible assumption); (case km9z33 => walk_at "key mem")) | walk_at "ne find" | (first | lia | omega))
    k_with "k_all" => (refine' Mine.all_below ?kb9z30 ?km9z30; (case kb9z30 => with_reducible assumption); (case km9z30 => exact rfl))
    k_with "ne find" => first | with_reducible assumption | (refine Ne.symm ?_; with_reducible assumption) | (refine Nat.ne_of_lt ?_; with_reducible assumption) | (refine Nat.ne_of_gt ?_; with_reducible assumption) | ((with_reducible rename _ ∧ _ => hc9); have hc8 := hc9.1; have hc7 := hc9.2; clear hc9; walk_at "ne find")
    k_with "spliced" => (k_here; (refine PyProof.Rows.args_nil ?_); (try dsimp only [List.cons_append, List.nil_append]); (with_reducible show _ ∧ _))
    k_with "compareOp Eq str str" => (k_here; (with_reducible show wpAny _ _ (compareOp CmpOp.Eq (Value.str _ _) (Value.str _ _)) _ _ _); first | (refine Mine.eq_lit true (by k_extra "str eq") ?_) | (refine Mine.eq_lit false (by k_extra "str eq") ?_))
    k_with "subscriptTail Name Slice str ref" => (k_here; (with_reducible show wpAny _ _ (subscriptTail _ (Expr.Slice _ _ _ _) (Value.str _ _) (Value.ref _)) _ _ _); (with_reducible rename Fr _ _ _ _ => F'); (with_reducible rename News _ _ _ _ => N'); (first | ((with_reducible show wpAny _ _ (subscriptTail _ (Expr.Slice none (some _) none _) _ _) _ _ _); (refine Mine.cut_ns (s := ⟨_, _, _, _, _⟩) F' N' (by walk_at "om") ?_ (by with_unfolding_all rfl) (by intro _; with_unfolding_all rfl))) | ((with_reducible show wpAny _ _ (subscriptTail _ (Expr.Slice (some _) none none _) _ _) _ _ _); (refine Mine.cut_sn (s := ⟨_, _, _, _, _⟩) F' N' (by walk_at "om") ?_ (by with_unfolding_all rfl) (by intro _; with_unfolding_all rfl))) | ((with_reducible show wpAny _ _ (subscriptTail _ (Expr.Slice (some _) (some _) none _) _ _) _ _ _); (refine Mine.cut_ss (s := ⟨_, _, _, _, _⟩) F' N' (by walk_at "om") ?_ (by with_unfolding_all rfl) (by intro _; with_unfolding_all rfl)))); clear F' N'; intro h' t' k' y' F' N' hy' hly'; (try (k_extra "cut then")))
    k_with "call ref" => (k_here; (with_reducible show wpAny _ _ (call (Value.ref 831) _) _ _ _); k_dflt (refine' Mine.Runs.useC (Mine.figures_law ?hxz48) ?k1z48 ?k2z48 ?k3z48 ?k4z48 ?k5z48 ?kKz48 ?kdz48 ?kuz48 ?kfz48 ?_; (case k1z48 => k_asm); (case k2z48 => k_asm); (case k3z48 => k_asm); (case k4z48 => k_asm); (case k5z48 => k_asm); (case kKz48 => first | exact rfl | assumption); (case hxz48 => k_extra "figs"); (case kfz48 => exact List.forall_mem_nil _); (case kdz48 => walk_at "rm"); (case kuz48 => walk_at "rm")); intro r' h' tk' F' N' hP'; ((k_dflt (refine Mine.ex1 hP' fun t' e' => ?_); (try clear hP'))); (subst e'); (try k_sweep))
    k_with "str eq" => first | exact not_mi hx2 hc0 (by assumption) | exact not_sl hx2 hc0 (by assumption) | exact not_dz ha (by assumption)
    k_with "figs" => (rw [hx]; exact hf)
    refine wpAny_call ?_
    k_dflt (k_extra "con_enter")
    k_steps
    all_goals exact ends_of ⟨_, _, _, rfl, rfl⟩ (fun q hq => hq)
end Mine
end
/- F3 -/
section

open PySem PySem.W PyProof.Rows PySem.Calls PySem.Spec PySem.NumText
namespace Mine
set_option maxRecDepth 100000
set_option maxHeartbeats 4000000
theorem is_txt {x y : Str} {l : List Nat} (hx : lc x = l) (hy : lc y = l) : (x.cps.toList == y.cps.toList) = true := eq_lists (hx.trans hy.symm)
theorem is_sl {x y : Str} {r : List Nat} (hx : lc x = [40, 47, 32] ++ r) (hy : lc y = (lc x).take (clip x.length 3)) : (y.cps.toList == (Str.ofString "(/ ").cps.toList) = true := by
  have e : clip x.length 3 = 3 := by
    have : x.length = 3 + r.length := by rw [← lc_len, hx, List.length_append]; rfl
    exact clip_nat (k := 3) (this ▸ Nat.le_add_right _ _)
  exact is_txt (by rw [hy, hx, e]; rfl) lc_sl
theorem not_mi2 {x y : Str} {r : List Nat} (hx : lc x = [40, 47, 32] ++ r) (hy : lc y = (lc x).take (clip x.length 3)) : (y.cps.toList == (Str.ofString "(- ").cps.toList) = false := by
  have e : clip x.length 3 = 3 := by
    have : x.length = 3 + r.length := by rw [← lc_len, hx, List.length_append]; rfl
    exact clip_nat (k := 3) (this ▸ Nat.le_add_right _ _)
  refine eq_lists_not ?_
  rw [hy, hx, e, lc_mi]
  exact fun q => absurd (List.cons.inj (List.cons.inj q).2).1 (by decide)
theorem inner_cut {x y : Str} {p r : List Nat} {c : Nat} (hp : p.length = 3) (hx : lc x = p ++ r ++ [c]) (hy : lc y = ((lc x).drop (clip x.length 3)).take (clip x.length (-1) - clip x.length 3)) : lc y = r := by
  have hl : x.length = 3 + r.length + 1 := by rw [← lc_len, hx, List.length_append, List.length_append, hp]; rfl
  have e1 : clip x.length 3 = 3 := clip_nat (k := 3) (by rw [hl, Nat.add_assoc]; exact Nat.le_add_right _ _)
  have e2 : clip x.length (-1) = 3 + r.length := by rw [hl]; exact clip_neg (k := 1) (by decide)
  rw [hy, hx, e1, e2, List.append_assoc, ← hp, List.drop_left]
  have : p.length + r.length - p.length = r.length := Nat.add_sub_cancel_left ..
  rw [this, List.take_left]
section
variable {prog : Program} {w : World} {A : Around} {E : Value → Shared → Prop} {s : Shared} {x : PySem.Str} {t u : Tok} {h₀ : Heap} {L : Addr} {m : Str → Option Value} {news : List (Addr × Obj)} {Q : Value → Shared → Prop}
theorem split_txt {a b : List Nat} (F : Fr h₀ L s.heap m) (N : News h₀ L s.heap news) (hx : lc x = a ++ [32] ++ b) (ha : 32 ∉ a) (hb : 32 ∉ b) (hsz : x.length ≤ 1000000)
    (h : ∀ D p q tp tq h' k, lc p = a → lc q = b → Fr h₀ L h' m → News h₀ L h' ((D, PySem.W.listOf #[.str p tp, .str q tq] 0) :: news) → (∀ p ∈ news, p.1 < D) → Q (.ref D) { s with heap := h', toks := k }) :
    wpAny (model prog w) A (call (.builtin "str.split") [.str x t, .str (Str.ofString " ") u]) Q E s := by
  refine KSpl.split1 F N (by decide) (fun D l h' k e _ F' N' hl => ?_) (by rw [sizeLine_eq]; (first | lia | omega))
  have e0 : (Str.ofString " ") = ⟨#[32]⟩ := by decide +kernel
  rw [e0] at e
  (refine Mine.ex2 (split_two hx ha hb) fun p q om0 => Mine.an3 om0 fun e1 hp hq => ?_; clear om0)
  rw [e1] at e
  (refine Mine.ex2 (KSpl.cons_of e) fun tp l1 om0 => Mine.an2 om0 fun oq2 e2 => ?_; clear om0; subst oq2)
  (refine Mine.ex2 (KSpl.cons_of e2) fun tq l2 om0 => Mine.an2 om0 fun oq2 e3 => ?_; clear om0; subst oq2)
  have e4 := KSpl.nil_of e3
  subst e4
  exact h D p q tp tq h' k hp hq F' N' hl
end
theorem Runs.use0 {prog : Program} {w : World} {n : Nat} {f : Addr} {vs : List Value} {news : List (Addr × Obj)} {Ret : Value → List (Addr × Obj) → Prop} (C : Runs prog w n f vs [] Ret)
    {mean : ExcName → Option Value} {mg mb : Str → Option Value} {dp un : Nat} {gd : Option (List Code)} {cn : Str} {cs : Scope} {a : Addr} {ccd : Value} {cl : List (Str × Addr)} {outer : List Env} {A₀ : Around} {base h₀ : Heap} {L : Addr} {m : Str → Option Value} {hp0 : Heap} {gs0 : Array GenState} {dr0 : Drawn} {tk0 : Nat} {os0 : OsState}
    {Q E : Value → Shared → Prop} (B : Below A₀ base outer h₀) (F : Fr h₀ L hp0 m) (X : (Mine.heap w.params).In h₀) (N : News h₀ L hp0 news)
    (T : Top Mine.view (looseW Mine.view Mine.loose) mean mg mb h₀) (hk : cs.kind = .function)
    (hd : dp + n < recursionLimit) (hu : un + 8 * n < cLine)
    (ret : ∀ r tl h' tk', Fr h₀ L h' m → News h₀ L h' (tl ++ news) → (∀ p ∈ tl, ∀ q ∈ news, @Ne Nat p.1 q.1) → (∀ b o, hp0.get? b = some o → h'.get? b = some o) → Ret r tl → Q r ⟨h', gs0, dr0, tk', os0⟩) :
    wpAny (model prog w) (ktrTop dp un gd cn cs L a ccd cl outer) (call (.ref f) vs) Q E ⟨hp0, gs0, dr0, tk0, os0⟩ :=
  C _ _ _ _ _ _ _ _ _ _ _ _ _ _ _ _ _ _ _ _ B F X (fun p hp => nomatch hp) T hk hd hu fun r tl h' tk' F' N' S' R' =>
    ret r tl h' tk' F' (fun p hp => by
      rcases List.mem_append.mp hp with hp | hp
      · exact N' p hp
      · exact ⟨(S' _ _ (N p hp).1 fun q hq => nomatch hq).1, (N p hp).2⟩)
      (fun p hp q hq => (S' _ _ (N q hq).1 fun q hq => nomatch hq).2 p hp) (fun b o e => (S' b o e fun q hq => nomatch hq).1) R'
theorem elt_on {s₂ H h : Heap} (E : InElt s₂ H) (K : ∀ b o, H.get? b = some o → h.get? b = some o) : InElt s₂ h := fun b o e => K b o (E b o e)
theorem none_in_two {prog : Program} {w : World} {A : Around} {E : Value → Shared → Prop} {s : Shared} {h₀ : Heap} {L : Addr} {news : List (Addr × Obj)} {D a b : Addr} {n : Nat} {xs ys : Array Value} {na nb : Nat} {Q : Value → Shared → Prop}
    (N : News h₀ L s.heap news) (hD : (D, PySem.W.listOf #[.ref a, .ref b] n) ∈ news) (ha : (a, { cls := .type "tuple", data := .seq xs na }) ∈ news) (hb : (b, { cls := .type "tuple", data := .seq ys nb }) ∈ news) (hu : A.units + 1 < cLine) (h : Q (.bool false) s) :
    wpAny (model prog w) A (compareOp .In .none (.ref D)) Q E s := by
  refine SeqAt.in_listAt (fun _ => false) (News.isList N hD) (fun y hy => ?_) (by simpa using h)
  have hu' : A.in1.units < cLine := by rw [Around.in1_units]; exact hu
  simp only [List.mem_toArray, List.mem_cons, List.not_mem_nil, or_false] at hy
  rcases hy with rfl | rfl
  · exact SeqAt.EqAt.tuple_none ⟨_, (N _ ha).1, rfl, _, rfl⟩ hu'
  · exact SeqAt.EqAt.tuple_none ⟨_, (N _ hb).1, rfl, _, rfl⟩ hu'
theorem num_end {top bottom : Int} {r : Bool} {D : Addr} {t1 t2 : Tok} {news : List (Addr × Obj)} : ConEnd (NumRet top bottom r) (.ref D) ((D, tup [.int top t1, .int bottom t2, .bool r]) :: news) :=
  ends_of ⟨D, t1, t2, rfl, rfl⟩ (List.forall_mem_cons.mpr ⟨List.Mem.head _, List.forall_mem_nil _⟩)
theorem item_tup {prog : Program} {w : World} {A : Around} {E : Value → Shared → Prop} {s : Shared} {h₀ : Heap} {L : Addr} {news : List (Addr × Obj)} {value slice : PySem.Expr} {a : Addr} {n : Nat} {xs : Array Value} {i : Int} {u : Tok} {v : Value} {Q : Value → Shared → Prop}
    (N : News h₀ L s.heap news) (p : (a, { cls := .type "tuple", data := .seq xs n }) ∈ news) (h0 : 0 ≤ i) (h1 : i < 1000) (hx : xs[i.toNat]? = some v) (h : Q v s)
    (hs : subscripted slice false (.ref a) (.int i u) = operate [.ref a, .int i u] (getItem (.ref a) (.int i u))) (hg : ∀ r, letTemporaryGo value (.ref a) r = pure ()) :
    wpAny (model prog w) A (subscriptTail value slice (.ref a) (.int i u)) Q E s := by
  have hlt : i.toNat < xs.size := by
    rcases Nat.lt_or_ge i.toNat xs.size with q | q
    · exact q
    · rw [Array.getElem?_eq_none q] at hx; cases hx
  refine item_tuple (News.isTup N p) (by (first | lia | omega)) (by (first | lia | omega)) (j := i.toNat) ?_ hx h hs hg
  exact seq_at h0 hlt
section
variable {prog : Program} {w : World} {A : Around} {E : Value → Shared → Prop} {s : Shared} {h₀ : Heap} {L : Addr} {news : List (Addr × Obj)} {value slice : PySem.Expr} {a : Addr} {n : Nat} {r : List Value} {u : Tok} {v v0 v1 : Value} {Q : Value → Shared → Prop}
theorem item_tup0 (N : News h₀ L s.heap news) (p : (a, { cls := .type "tuple", data := .seq (v :: r).toArray n }) ∈ news) (h : Q v s)
    (hs : subscripted slice false (.ref a) (.int 0 u) = operate [.ref a, .int 0 u] (getItem (.ref a) (.int 0 u))) (hg : ∀ r, letTemporaryGo value (.ref a) r = pure ()) :
    wpAny (model prog w) A (subscriptTail value slice (.ref a) (.int 0 u)) Q E s := item_tup N p (by decide) (by decide) rfl h hs hg
theorem item_tup1 (N : News h₀ L s.heap news) (p : (a, { cls := .type "tuple", data := .seq (v0 :: v :: r).toArray n }) ∈ news) (h : Q v s)
    (hs : subscripted slice false (.ref a) (.int 1 u) = operate [.ref a, .int 1 u] (getItem (.ref a) (.int 1 u))) (hg : ∀ r, letTemporaryGo value (.ref a) r = pure ()) :
    wpAny (model prog w) A (subscriptTail value slice (.ref a) (.int 1 u)) Q E s := item_tup N p (by decide) (by decide) rfl h hs hg
theorem item_tup2 (N : News h₀ L s.heap news) (p : (a, { cls := .type "tuple", data := .seq (v0 :: v1 :: v :: r).toArray n }) ∈ news) (h : Q v s)
    (hs : subscripted slice false (.ref a) (.int 2 u) = operate [.ref a, .int 2 u] (getItem (.ref a) (.int 2 u))) (hg : ∀ r, letTemporaryGo value (.ref a) r = pure ()) :
    wpAny (model prog w) A (subscriptTail value slice (.ref a) (.int 2 u)) Q E s := item_tup N p (by decide) (by decide) rfl h hs hg
end
section
variable {prog : Program} {w : World} {A : Around} {E : Value → Shared → Prop} {s : Shared} {h₀ : Heap} {L : Addr} {news : List (Addr × Obj)} {value slice : PySem.Expr} {a : Addr} {n : Nat} {r : List Value} {u : Tok} {v v0 v1 : Value} {Q : Value → Shared → Prop}
theorem item_lst0 (N : News h₀ L s.heap news) (p : (a, { cls := .type "list", data := .seq (v :: r).toArray n }) ∈ news) (h : Q v s)
    (hs : subscripted slice false (.ref a) (.int 0 u) = operate [.ref a, .int 0 u] (getItem (.ref a) (.int 0 u))) (hg : ∀ r, letTemporaryGo value (.ref a) r = pure ()) :
    wpAny (model prog w) A (subscriptTail value slice (.ref a) (.int 0 u)) Q E s := item_list (News.isList N p) (by decide) (by decide) rfl h hs hg
theorem item_lst1 (N : News h₀ L s.heap news) (p : (a, { cls := .type "list", data := .seq (v0 :: v :: r).toArray n }) ∈ news) (h : Q v s)
    (hs : subscripted slice false (.ref a) (.int 1 u) = operate [.ref a, .int 1 u] (getItem (.ref a) (.int 1 u))) (hg : ∀ r, letTemporaryGo value (.ref a) r = pure ()) :
    wpAny (model prog w) A (subscriptTail value slice (.ref a) (.int 1 u)) Q E s := item_list (News.isList N p) (by decide) (by decide) rfl h hs hg
end
theorem no_sp {cs : List Nat} {n : Nat} (h : Figs cs n) : 32 ∉ cs ++ dot0 := fun hc => by
  rcases List.mem_append.mp hc with hc | hc
  · have := h.all 32 hc; (first | lia | omega)
  · simp [dot0] at hc
end Mine
open PySem PySem.W PyProof.Rows PySem.Calls PySem.Spec Mine
namespace Mine
set_option maxHeartbeats 4000000 in
theorem number1 {prog : Program} {w : World} {x : Str} {t : Tok} {ca cb : List Nat} {a b : Nat} (hx : lc x = [40, 47, 32] ++ (ca ++ dot0 ++ [32] ++ (cb ++ dot0)) ++ [41]) (hfa : Figs ca a) (hfb : Figs cb b) (ha : 1 ≤ a) (hb : 1 < b) :
    Runs prog w 14 836 [.str x t] [] (NumRet a b true) := by
  have hla := hfa.len
  have hlb := hfb.len
  have hlx : x.length ≤ 16100 := by rw [← lc_len, hx]; simp only [List.length_append, List.length_cons, List.length_nil, dot0]; (first | lia | omega)
  have hlx2 : 1 ≤ x.length := by rw [← lc_len, hx]; simp only [List.length_append, List.length_cons, List.length_nil, dot0]; (first | lia | omega)
  have hx2 : lc x = [40, 47, 32] ++ ((ca ++ dot0 ++ [32] ++ (cb ++ dot0)) ++ [41]) := by rw [hx, List.append_assoc]
  unfold Runs
  intro mean mg mb dp un gd cn' cs aa ccd cl outer A₀ base h₀ L m s Q E B F X N T hk hd hu hret
  rcases s with ⟨hp0, gs0, dr0, tk0, os0⟩
  dsimp only at F N hret
  k_with_none
  k_with "om" => first | (with_reducible first | assumption | exact Mine.r2 (by assumption) (by k_dflt exact rfl) | exact Mine.r0 (by assumption) | exact Mine.n2 (by assumption) (by k_dflt exact rfl) | exact Mine.n5 (by assumption) (by assumption) (by k_dflt exact rfl) | exact Int.natCast_nonneg _ | exact Int.le_refl _ | exact Nat.le_refl _) | (first | lia | omega)
  k_with "rm" => first | ((try dsimp only [depth_under_make, depth_under_kw, depth_in1, depth_deeper, depth_caller, units_in1, units_deeper, Around.mark_units, units_caller, units_under_make, ktrTop]); walk_at "om") | ktr_room | ktr_units
  k_with "con_enter" => (refine' Mine.code_defQ ?k1z29 ?k2z29 ?k3z29 ?k4z29 ?k5z29 ?kAz29 ?kFz29 ?kKz29 ?k6z29 ?k7z29 ?k8z29 ?k9z29 ?kBz29 ?_ ?c2z29 ?c3z29 ?c4z29 ?c5z29; (case kAz29 => exact rfl); (case kFz29 => exact rfl); (case kKz29 => assumption); (case k1z29 => k_asm); (case k2z29 => k_asm); (case k3z29 => k_asm); (case k4z29 => k_asm); (case k5z29 => k_asm); (case k6z29 => k_is); (case k7z29 => k_is); (case k8z29 => walk_at "rm"); (case k9z29 => first | exact BindsTo.of_eq (binds := []) rfl | exact BindsTo.of_eq (binds := [(_, _)]) rfl | exact BindsTo.of_eq (binds := [(_, _), (_, _)]) rfl | exact BindsTo.of_eq (binds := [(_, _), (_, _), (_, _)]) rfl | exact BindsTo.of_eq (binds := [(_, _), (_, _), (_, _), (_, _)]) rfl | exact BindsTo.of_eq (binds := [(_, _), (_, _), (_, _), (_, _), (_, _)]) rfl | exact BindsTo.of_eq rfl); (case c5z29 => decide); (case kBz29 => exact locs rfl); (case c2z29 => exact rfl); (case c3z29 => exact rfl); (case c4z29 => exact rfl); k_whole; intro g' L' h' tk' FG' F' N' B' X' T' S' hL' qk ek)
  k_with "newTuple" => (k_here; k_dflt (refine' Mine.newTupleS ?Fz21 ?Nz21 ?ez21 ?zz21 ?_; (case Fz21 => k_asm); (case Nz21 => k_asm); (case ez21 => (dsimp only [List.map]; (try exact rfl))); (case zz21 => kmk_size)); intro D' h' l1 F' N'; (try k_sweep))
  k_with "newList" => (k_here; k_dflt (refine' Mine.newListS ?Fz22 ?Nz22 ?ez22 ?zz22 ?_; (case Fz22 => k_asm); (case Nz22 => k_asm); (case ez22 => (dsimp only [List.map]; (try exact rfl))); (case zz22 => size_fits); k_whole); intro l' h' l1 F' N'; (try k_sweep))
  k_with "LeaveK" => (k_dflt (refine' Mine.leave_con ?hrz24 ?hSz24 ?hFz24 ?hNz24 ?hqz24 ?_; (case hrz24 => assumption); (case hSz24 => assumption); (case hFz24 => k_asm); (case hNz24 => k_asm); (case hqz24 => exact rfl); k_whole))
  k_with "k_all" => assumption
  k_with "key mem" => with_reducible first | exact Mine.m0 | exact Mine.m1 | exact Mine.m2 | exact Mine.m3 | exact Mine.m4 | exact Mine.m5 | exact Mine.m6
  k_with "k_mem" => (k_whole; walk_at "key mem")
  k_with "k_ne" => ((refine neN ?_; (try dsimp only)); first | (refine' Mine.ne_below ?kb9z33 ?km9z33; (case kb9z33 => with_reducible assumption); (case km9z33 => walk_at "key mem")) | (refine' Mine.ne_above ?kb9z33 ?km9z33; (case kb9z33 => with_reducible assumption); (case km9z33 => walk_at "key mem")) | walk_at "ne find" | (first | lia | omega))
  k_with "k_all" => (refine' Mine.all_below ?kb9z30 ?km9z30; (case kb9z30 => with_reducible assumption); (case km9z30 => exact rfl))
  k_with "ne find" => first | with_reducible assumption | (refine Ne.symm ?_; with_reducible assumption) | (refine Nat.ne_of_lt ?_; with_reducible assumption) | (refine Nat.ne_of_gt ?_; with_reducible assumption) | ((with_reducible rename _ ∧ _ => hc9); have hc8 := hc9.1; have hc7 := hc9.2; clear hc9; walk_at "ne find")
  k_with "spliced" => (k_here; (refine PyProof.Rows.args_nil ?_); (try dsimp only [List.cons_append, List.nil_append]); (with_reducible show _ ∧ _))
  k_with "compareOp Eq str str" => (k_here; (with_reducible show wpAny _ _ (compareOp CmpOp.Eq (Value.str _ _) (Value.str _ _)) _ _ _); first | (refine Mine.eq_lit true (by k_extra "str eq") ?_) | (refine Mine.eq_lit false (by k_extra "str eq") ?_))
  k_with "subscriptTail Name UnaryOp str int" => (k_here; (with_reducible show wpAny _ _ (subscriptTail _ _ (Value.str _ _) (Value.int _ _)) _ _ _); (refine' Mine.sign_txt ?az45 ?bz45 ?zz45 ?cz45 ?_ (by with_unfolding_all rfl) (by intro _; with_unfolding_all rfl); (case az45 => walk_at "om"); (case bz45 => walk_at "om"); (case zz45 => walk_at "om"); (case cz45 => k_extra "sign")); intro t' k' y' hy' hly')
  k_with "subscriptTail Name Slice str ref" => (k_here; (with_reducible show wpAny _ _ (subscriptTail _ (Expr.Slice _ _ _ _) (Value.str _ _) (Value.ref _)) _ _ _); (with_reducible rename Fr _ _ _ _ => F'); (with_reducible rename News _ _ _ _ => N'); (first | ((with_reducible show wpAny _ _ (subscriptTail _ (Expr.Slice none (some _) none _) _ _) _ _ _); (refine Mine.cut_ns (s := ⟨_, _, _, _, _⟩) F' N' (by walk_at "om") ?_ (by with_unfolding_all rfl) (by intro _; with_unfolding_all rfl))) | ((with_reducible show wpAny _ _ (subscriptTail _ (Expr.Slice (some _) none none _) _ _) _ _ _); (refine Mine.cut_sn (s := ⟨_, _, _, _, _⟩) F' N' (by walk_at "om") ?_ (by with_unfolding_all rfl) (by intro _; with_unfolding_all rfl))) | ((with_reducible show wpAny _ _ (subscriptTail _ (Expr.Slice (some _) (some _) none _) _ _) _ _ _); (refine Mine.cut_ss (s := ⟨_, _, _, _, _⟩) F' N' (by walk_at "om") ?_ (by with_unfolding_all rfl) (by intro _; with_unfolding_all rfl)))); clear F' N'; intro h' t' k' y' F' N' hy' hly'; (try (k_extra "cut then")))
  k_with "call ref" => (k_here; (with_reducible show wpAny _ _ (call (Value.ref 836) _) _ _ _); k_dflt (refine' Mine.Runs.use0 (Mine.number0 (r := true) ?hxz49 ?hfz49) ?k1z49 ?k2z49 ?k3z49 ?k4z49 ?k5z49 ?kKz49 ?kdz49 ?kuz49 ?_; (case k1z49 => k_asm); (case k2z49 => k_asm); (case k3z49 => k_asm); (case k4z49 => k_asm); (case k5z49 => k_asm); (case kKz49 => first | exact rfl | assumption); (case hxz49 => k_extra "num text"); (case hfz49 => k_extra "num figs"); (case kdz49 => walk_at "rm"); (case kuz49 => walk_at "rm")); intro r9 tl9 h9 tk9 F9 N9 f9 K9 R9; unfold Mine.NumRet at R9; (k_dflt (refine Mine.ex3 R9 fun a9 u9 v9 om0 => Mine.an2 om0 fun e9 e9' => ?_); clear om0; (try clear R9)); subst e9; subst e9'; simp only [List.cons_append, List.nil_append] at N9; (try simp only [List.forall_mem_cons, List.not_mem_nil, false_implies, implies_true, and_true] at f9); (try (have cE9 := Mine.elt_on (by with_reducible assumption) K9)); clear K9; (try k_unmd))
  k_with "call builtin:str.split" => (k_here; (with_reducible show wpAny _ _ (call (Value.builtin "str.split") [Value.str _ _, Value.str _ _]) _ _ _); k_dflt (refine' Mine.split_txt ?Fz50 ?Nz50 ?xz50 ?az50 ?bz50 ?zz50 ?_; (case Fz50 => k_asm); (case Nz50 => k_asm); (case xz50 => k_extra "split x"); (case az50 => k_extra "split a"); (case bz50 => k_extra "split b"); (case zz50 => walk_at "om")); intro D' p' q' tp' tq' h' k' hp' hq' F' N' l1'; (try k_lt l1'))
  k_with "subscriptTail Name Constant ref int" => (k_here; (with_reducible show wpAny _ _ (subscriptTail _ _ (Value.ref _) (Value.int 0 _)) _ _ _); k_dflt (refine' Mine.item_tup0 ?Nz54 ?pz54 ?_ (by with_unfolding_all rfl) (by intro _; with_unfolding_all rfl); (case Nz54 => k_asm); (case pz54 => k_mem); k_whole))
  k_with "subscriptTail Name Constant ref int" => (k_here; (with_reducible show wpAny _ _ (subscriptTail _ _ (Value.ref _) (Value.int 1 _)) _ _ _); k_dflt (refine' Mine.item_tup1 ?Nz55 ?pz55 ?_ (by with_unfolding_all rfl) (by intro _; with_unfolding_all rfl); (case Nz55 => k_asm); (case pz55 => k_mem); k_whole))
  k_with "subscriptTail Name Constant ref int" => (k_here; (with_reducible show wpAny _ _ (subscriptTail _ _ (Value.ref _) (Value.int 2 _)) _ _ _); k_dflt (refine' Mine.item_tup2 ?Nz56 ?pz56 ?_ (by with_unfolding_all rfl) (by intro _; with_unfolding_all rfl); (case Nz56 => k_asm); (case pz56 => k_mem); k_whole))
  k_with "subscriptTail Name Constant ref int" => (k_here; (with_reducible show wpAny _ _ (subscriptTail _ _ (Value.ref _) (Value.int 0 _)) _ _ _); k_dflt (refine' Mine.item_lst0 ?Nz60 ?pz60 ?_ (by with_unfolding_all rfl) (by intro _; with_unfolding_all rfl); (case Nz60 => k_asm); (case pz60 => k_mem); k_whole))
  k_with "subscriptTail Name Constant ref int" => (k_here; (with_reducible show wpAny _ _ (subscriptTail _ _ (Value.ref _) (Value.int 1 _)) _ _ _); k_dflt (refine' Mine.item_lst1 ?Nz61 ?pz61 ?_ (by with_unfolding_all rfl) (by intro _; with_unfolding_all rfl); (case Nz61 => k_asm); (case pz61 => k_mem); k_whole))
  k_with "compareOp NotEq ref ref" => (k_here; (with_reducible show wpAny _ _ (compareOp CmpOp.NotEq (Value.ref _) (Value.ref _)) _ _ _); k_dflt ((refine ne_dataH (by ked_read) (by ked_read) (by ked_shaped) (by ked_shaped) (by walk_at "rm") ?_); ked_norm))
  k_with "compareOp In none ref" => (k_here; k_dflt (refine' Mine.none_in_two ?Nz53 ?dz53 ?az53 ?bz53 ?uz53 ?_; (case Nz53 => k_asm); (case dz53 => k_mem); (case az53 => k_mem); (case bz53 => k_mem); (case uz53 => walk_at "rm")))
  k_with "str eq" => first | exact not_mi2 hx2 (by assumption) | exact is_sl hx2 (by assumption) | exact is_txt (by assumption) (by decide +kernel : lc (Str.ofString ")") = [41])
  k_with "sign" => exact sign_last hx
  k_with "split x" => exact inner_cut rfl hx (by assumption)
  k_with "split a" => exact no_sp hfa
  k_with "split b" => exact no_sp hfb
  k_with "num text" => first | exact (by assumption : lc _ = ca ++ dot0) | exact (by assumption : lc _ = cb ++ dot0)
  k_with "num figs" => first | exact hfa | exact hfb
  refine wpAny_call ?_
  k_dflt (k_extra "con_enter")
  k_steps
  all_goals first | (exfalso; walk_at "om") | ((try dsimp only); exact num_end)
end Mine
end
/- F4 -/
section
open PySem PySem.W PyProof.Rows PySem.Calls PySem.Spec PySem.NumText
namespace Mine
set_option maxRecDepth 100000
set_option maxHeartbeats 4000000
theorem is_mi {x y : Str} {r : List Nat} (hx : lc x = [40, 45, 32] ++ r) (hy : lc y = (lc x).take (clip x.length 3)) : (y.cps.toList == (Str.ofString "(- ").cps.toList) = true := by
  have e : clip x.length 3 = 3 := by
    have : x.length = 3 + r.length := by rw [← lc_len, hx, List.length_append]; rfl
    exact clip_nat (k := 3) (this ▸ Nat.le_add_right _ _)
  exact is_txt (by rw [hy, hx, e]; rfl) lc_mi
theorem number2 {prog : Program} {w : World} {x : Str} {t : Tok} {core : List Nat} {a b : Int} {r : Bool} {n : Nat} (hx : lc x = [40, 45, 32] ++ core ++ [41]) (hcl : core.length ≤ 17000) (ha : 1 ≤ a)
    (C : ∀ (y : Str) (t : Tok), lc y = core → Runs prog w n 836 [.str y t] [] (NumRet a b r)) :
    Runs prog w (n + 2) 836 [.str x t] [] (NumRet (0 - a) b r) := by
  have hlx : x.length ≤ 17100 := by rw [← lc_len, hx]; simp only [List.length_append, List.length_cons, List.length_nil]; (first | lia | omega)
  have hlx2 : 1 ≤ x.length := by rw [← lc_len, hx]; simp only [List.length_append, List.length_cons, List.length_nil]; (first | lia | omega)
  have hx2 : lc x = [40, 45, 32] ++ (core ++ [41]) := by rw [hx, List.append_assoc]
  unfold Runs
  intro mean mg mb dp un gd cn' cs aa ccd cl outer A₀ base h₀ L m s Q E B F X N T hk hd hu hret
  rcases s with ⟨hp0, gs0, dr0, tk0, os0⟩
  dsimp only at F N hret
  k_with_none
  k_with "om" => first | (with_reducible first | assumption | exact Mine.r0 (by assumption) | exact Mine.n2 (by assumption) (by k_dflt exact rfl) | exact Int.natCast_nonneg _ | exact Int.le_refl _ | exact Nat.le_refl _) | (first | lia | omega)
  k_with "rm" => first | ((try dsimp only [depth_under_make, depth_under_kw, depth_in1, depth_deeper, depth_caller, units_in1, units_deeper, Around.mark_units, units_caller, units_under_make, ktrTop]); walk_at "om") | ktr_room | ktr_units
  k_with "con_enter" => (refine' Mine.code_defQ ?k1z29 ?k2z29 ?k3z29 ?k4z29 ?k5z29 ?kAz29 ?kFz29 ?kKz29 ?k6z29 ?k7z29 ?k8z29 ?k9z29 ?kBz29 ?_ ?c2z29 ?c3z29 ?c4z29 ?c5z29; (case kAz29 => exact rfl); (case kFz29 => exact rfl); (case kKz29 => assumption); (case k1z29 => k_asm); (case k2z29 => k_asm); (case k3z29 => k_asm); (case k4z29 => k_asm); (case k5z29 => k_asm); (case k6z29 => k_is); (case k7z29 => k_is); (case k8z29 => walk_at "rm"); (case k9z29 => first | exact BindsTo.of_eq (binds := []) rfl | exact BindsTo.of_eq (binds := [(_, _)]) rfl | exact BindsTo.of_eq (binds := [(_, _), (_, _)]) rfl | exact BindsTo.of_eq (binds := [(_, _), (_, _), (_, _)]) rfl | exact BindsTo.of_eq (binds := [(_, _), (_, _), (_, _), (_, _)]) rfl | exact BindsTo.of_eq (binds := [(_, _), (_, _), (_, _), (_, _), (_, _)]) rfl | exact BindsTo.of_eq rfl); (case c5z29 => decide); (case kBz29 => exact locs rfl); (case c2z29 => exact rfl); (case c3z29 => exact rfl); (case c4z29 => exact rfl); k_whole; intro g' L' h' tk' FG' F' N' B' X' T' S' hL' qk ek)
  k_with "newTuple" => (k_here; k_dflt (refine' Mine.newTupleS ?Fz21 ?Nz21 ?ez21 ?zz21 ?_; (case Fz21 => k_asm); (case Nz21 => k_asm); (case ez21 => (dsimp only [List.map]; (try exact rfl))); (case zz21 => kmk_size)); intro D' h' l1 F' N'; (try k_sweep))
  k_with "LeaveK" => (k_dflt (refine' Mine.leave_con ?hrz24 ?hSz24 ?hFz24 ?hNz24 ?hqz24 ?_; (case hrz24 => assumption); (case hSz24 => assumption); (case hFz24 => k_asm); (case hNz24 => k_asm); (case hqz24 => exact rfl); k_whole))
  k_with "k_all" => assumption
  k_with "key mem" => fail
  k_with "k_mem" => (k_whole; walk_at "key mem")
  k_with "k_ne" => ((refine neN ?_; (try dsimp only)); first | (refine' Mine.ne_below ?kb9z33 ?km9z33; (case kb9z33 => with_reducible assumption); (case km9z33 => walk_at "key mem")) | (refine' Mine.ne_above ?kb9z33 ?km9z33; (case kb9z33 => with_reducible assumption); (case km9z33 => walk_at "key mem")) | walk_at "ne find" | (first | lia | omega))
  k_with "k_all" => (refine' Mine.all_below ?kb9z30 ?km9z30; (case kb9z30 => with_reducible assumption); (case km9z30 => exact rfl))
  k_with "ne find" => first | with_reducible assumption | (refine Ne.symm ?_; with_reducible assumption) | (refine Nat.ne_of_lt ?_; with_reducible assumption) | (refine Nat.ne_of_gt ?_; with_reducible assumption) | ((with_reducible rename _ ∧ _ => hc9); have hc8 := hc9.1; have hc7 := hc9.2; clear hc9; walk_at "ne find")
  k_with "spliced" => (k_here; (refine PyProof.Rows.args_nil ?_); (try dsimp only [List.cons_append, List.nil_append]); (with_reducible show _ ∧ _))
  k_with "compareOp Eq str str" => (k_here; (with_reducible show wpAny _ _ (compareOp CmpOp.Eq (Value.str _ _) (Value.str _ _)) _ _ _); first | (refine Mine.eq_lit true (by k_extra "str eq") ?_) | (refine Mine.eq_lit false (by k_extra "str eq") ?_))
  k_with "subscriptTail Name UnaryOp str int" => (k_here; (with_reducible show wpAny _ _ (subscriptTail _ _ (Value.str _ _) (Value.int _ _)) _ _ _); (refine' Mine.sign_txt ?az45 ?bz45 ?zz45 ?cz45 ?_ (by with_unfolding_all rfl) (by intro _; with_unfolding_all rfl); (case az45 => walk_at "om"); (case bz45 => walk_at "om"); (case zz45 => walk_at "om"); (case cz45 => k_extra "sign")); intro t' k' y' hy' hly')
  k_with "subscriptTail Name Slice str ref" => (k_here; (with_reducible show wpAny _ _ (subscriptTail _ (Expr.Slice _ _ _ _) (Value.str _ _) (Value.ref _)) _ _ _); (with_reducible rename Fr _ _ _ _ => F'); (with_reducible rename News _ _ _ _ => N'); (first | ((with_reducible show wpAny _ _ (subscriptTail _ (Expr.Slice none (some _) none _) _ _) _ _ _); (refine Mine.cut_ns (s := ⟨_, _, _, _, _⟩) F' N' (by walk_at "om") ?_ (by with_unfolding_all rfl) (by intro _; with_unfolding_all rfl))) | ((with_reducible show wpAny _ _ (subscriptTail _ (Expr.Slice (some _) none none _) _ _) _ _ _); (refine Mine.cut_sn (s := ⟨_, _, _, _, _⟩) F' N' (by walk_at "om") ?_ (by with_unfolding_all rfl) (by intro _; with_unfolding_all rfl))) | ((with_reducible show wpAny _ _ (subscriptTail _ (Expr.Slice (some _) (some _) none _) _ _) _ _ _); (refine Mine.cut_ss (s := ⟨_, _, _, _, _⟩) F' N' (by walk_at "om") ?_ (by with_unfolding_all rfl) (by intro _; with_unfolding_all rfl)))); clear F' N'; intro h' t' k' y' F' N' hy' hly'; (try (k_extra "cut then")))
  k_with "subscriptTail Name Constant ref int" => (k_here; (with_reducible show wpAny _ _ (subscriptTail _ _ (Value.ref _) (Value.int 0 _)) _ _ _); k_dflt (refine' Mine.item_tup0 ?Nz54 ?pz54 ?_ (by with_unfolding_all rfl) (by intro _; with_unfolding_all rfl); (case Nz54 => k_asm); (case pz54 => k_mem); k_whole))
  k_with "subscriptTail Name Constant ref int" => (k_here; (with_reducible show wpAny _ _ (subscriptTail _ _ (Value.ref _) (Value.int 1 _)) _ _ _); k_dflt (refine' Mine.item_tup1 ?Nz55 ?pz55 ?_ (by with_unfolding_all rfl) (by intro _; with_unfolding_all rfl); (case Nz55 => k_asm); (case pz55 => k_mem); k_whole))
  k_with "subscriptTail Name Constant ref int" => (k_here; (with_reducible show wpAny _ _ (subscriptTail _ _ (Value.ref _) (Value.int 2 _)) _ _ _); k_dflt (refine' Mine.item_tup2 ?Nz56 ?pz56 ?_ (by with_unfolding_all rfl) (by intro _; with_unfolding_all rfl); (case Nz56 => k_asm); (case pz56 => k_mem); k_whole))
  k_with "call ref" => (k_here; (with_reducible show wpAny _ _ (call (Value.ref 836) _) _ _ _); k_extra "num call")
  k_with "str eq" => first | exact is_mi hx2 (by assumption) | exact is_txt (by assumption) (by decide +kernel : lc (Str.ofString ")") = [41])
  k_with "sign" => exact sign_last hx
  k_with "num call" => (k_dflt (refine' Mine.Runs.use0 (C _ _ ?hx) ?k1 ?k2 ?k3 ?k4 ?k5 ?kK ?kd ?ku ?_; (case k1 => k_asm); (case k2 => k_asm); (case k3 => k_asm); (case k4 => k_asm); (case k5 => k_asm); (case kK => first | exact rfl | assumption); (case hx => exact inner_cut rfl hx (by assumption)); (case kd => walk_at "rm"); (case ku => walk_at "rm")); intro r9 tl9 h9 tk9 F9 N9 f9 K9 R9; unfold Mine.NumRet at R9; (k_dflt (refine Mine.ex3 R9 fun a9 u9 v9 om0 => Mine.an2 om0 fun e9 e9' => ?_); clear om0; (try clear R9)); subst e9; subst e9'; simp only [List.cons_append, List.nil_append] at N9; clear K9 f9; (try k_unmd))
  refine wpAny_call ?_
  k_dflt (k_extra "con_enter")
  k_steps
  all_goals first | (exfalso; walk_at "om") | ((try dsimp only); exact num_end)
end Mine
end
/- HK -/
section
open PySem PySem.W PyProof.Rows PySem.Calls PySem.Spec
namespace Mine
set_option maxRecDepth 100000

noncomputable abbrev BKey := Str × Int × Int × Option Int
noncomputable abbrev tupO (xs : List Value) (n : Nat) : Obj := { cls := .type "tuple", data := .seq xs.toArray n }
noncomputable def DatIs (h : Heap) (p : Int × Option Int) (dv : Value) : Prop :=
  match p with
  | (x, none) => ∃ t, dv = .int x t
  | (x, some y) => ∃ da od nd t t', dv = .ref da ∧ h.get? da = some od ∧ od.cls = .type "tuple" ∧ od.data = .seq #[.int x t, .int y t'] nd
noncomputable def KeyIs (h : Heap) (k : BKey) (a : Addr) : Prop :=
  PyData.strOk k.1 = true ∧ ∃ o n t1 e oe ne t2 dv, h.get? a = some o ∧ o.cls = .type "tuple" ∧ o.data = .seq #[.str k.1 t1, .ref e, .int k.2.1 t2, dv] n ∧ h.get? e = some oe ∧ oe.cls = .type "tuple" ∧ oe.data = .seq #[] ne ∧ DatIs h k.2.2 dv
noncomputable def datPy : Int × Option Int → PyData
  | (x, none) => .int x
  | (x, some y) => .tuple [.int x, .int y]
noncomputable def keyPy (k : BKey) : PyData := .tuple [.str k.1, .tuple [], .int k.2.1, datPy k.2.2]
theorem DatIs.reads {h : Heap} {p : Int × Option Int} {dv : Value} (x : DatIs h p dv) : Reads h dv (datPy p) [] := by
  obtain ⟨a, b⟩ := p
  cases b with
  | none => (refine Mine.ex1 x fun t oq1 => ?_; (try clear x); subst oq1); exact .int _ _
  | some b =>
    (refine Mine.ex5 x fun da od nd t t' om0 => Mine.an4 om0 fun oq5 h1 h2 h3 => ?_; clear om0; (try clear x); subst oq5)
    exact .tuple h1 h2 h3 (.cons (as := []) (bs := []) (.int _ _) (.cons (as := []) (bs := []) (.int _ _) .nil))
theorem KeyIs.reads {h : Heap} {k : BKey} {a : Addr} (x : KeyIs h k a) : Reads h (.ref a) (keyPy k) [] := by
  (refine Mine.an2 x fun _ om0 => Mine.ex8 om0 fun o n t1 e oe ne t2 dv om1 => Mine.an7 om1 fun h1 h2 h3 h4 h5 h6 h7 => ?_; clear om0 om1; (try clear x))
  exact .tuple h1 h2 h3 (.cons (as := []) (bs := []) (.str _ _) (.cons (as := []) (bs := []) (.tuple h4 h5 h6 .nil) (.cons (as := []) (bs := []) (.int _ _) (.cons (as := []) (bs := []) h7.reads .nil))))
theorem datPy_inj {p q : Int × Option Int} (h : datPy p = datPy q) : p = q := by
  obtain ⟨a, b⟩ := p
  obtain ⟨c, d⟩ := q
  cases b <;> cases d <;> simp_all [datPy]
theorem keyPy_inj {x y : BKey} (h : keyPy x = keyPy y) : x = y := by
  obtain ⟨a, b, p⟩ := x
  obtain ⟨c, d, q⟩ := y
  simp only [keyPy, PyData.tuple.injEq, List.cons.injEq, PyData.str.injEq, PyData.int.injEq, and_true, true_and] at h
  rw [h.1, h.2.1, datPy_inj h.2.2]
theorem datPy_lay (p : Int × Option Int) : (datPy p).canLay0 = true := by
  obtain ⟨a, b⟩ := p
  cases b <;> simp [datPy, PyData.canLay0, PyData.canLayAll0]
theorem keyPy_lay {k : BKey} (hk : PyData.strOk k.1 = true) : (keyPy k).canLay0 = true := by
  simp [keyPy, PyData.canLay0, PyData.canLayAll0, datPy_lay, hk]
theorem keyPy_depth (k : BKey) : (keyPy k).depth ≤ 4 := by
  obtain ⟨a, b, c, d⟩ := k
  cases d <;> simp [keyPy, datPy, PyData.depth, PyData.depthAll]
theorem datEqv (p q : Int × Option Int) : PyData.eqv (datPy p) (datPy q) = decide (p = q) := by
  obtain ⟨a, b⟩ := p
  obtain ⟨c, d⟩ := q
  cases b <;> cases d <;> simp [datPy, PyData.eqv, PyData.eqvAll]
  · by_cases h1 : a = c <;> simp [h1]
  · rename_i u v; by_cases h1 : a = c <;> by_cases h2 : u = v <;> simp [h1, h2]
theorem keyEqv (x y : BKey) : PyData.eqv (keyPy x) (keyPy y) = decide (x = y) := by
  obtain ⟨a, b, p⟩ := x
  obtain ⟨c, d, q⟩ := y
  simp only [keyPy, PyData.eqv, PyData.eqvAll, datEqv]
  by_cases h1 : a = c <;> by_cases h2 : b = d <;> by_cases h3 : p = q <;> simp [h1, h2, h3]

section
variable {prog : Program} {w : World} {A : Around} {E : Value → Shared → Prop} {s : Shared}
noncomputable def Hashes (prog : Program) (w : World) (r : Nat) (h : Heap) (v : Value) (hv : Int) (n : Nat) : Prop :=
  ∀ (A : Around) (E : Value → Shared → Prop) (s : Shared) (Q : Int → Shared → Prop), A.units + r < cLine → s.heap = h → Q hv { s with toks := s.toks + n } → wpAny (model prog w) A (pyHash v) Q E s
inductive HashAll (prog : Program) (w : World) (r : Nat) (h : Heap) : List Value → List Int → Nat → Prop
  | nil : HashAll prog w r h [] [] 0
  | cons {v : Value} {hv : Int} {n : Nat} {vs : List Value} {hs : List Int} {m : Nat} : Hashes prog w r h v hv n → HashAll prog w r h vs hs m → HashAll prog w r h (v :: vs) (hv :: hs) (n + m)
theorem hash_tuple {a : Addr} {o : Obj} {items : Array Value} {n m : Nat} {hs : List Int} {r : Nat} {Q : Int → Shared → Prop} (hu : A.units + r + 1 < cLine) (ho : s.heap.get? a = some o) (hc : o.cls = .type "tuple") (hd : o.data = .seq items n) (hi : HashAll prog w r s.heap items.toList hs m)
    (h : Q (reduceHash (Builtin.Tuple.tupleHashOf hs)) { s with toks := s.toks + (m + 1) }) :
    wpAny (model prog w) A (pyHash (.ref a)) Q E s := by
  have hT : s.TypeIs (.ref a) "tuple" := ⟨o, ho, hc⟩
  unfold pyHash
  first | unfold pyHashByItsType | skip
  first | refine wpAny_bind (wpAny_cRoomFor_or (.inr (by (first | lia | omega))) ?_) | skip
  refine wpAny_bind (wpAny_specialOf hT F.slot_tuple_hash.lookup ?_)
  show wpAny _ _ (if (some (Value.builtin "tuple.__hash__") == some Value.none) = true then _ else _) Q E s
  rw [if_neg (by rw [beq_builtin_none]; exact Bool.false_ne_true)]
  refine wpAny_bind (wpAny_specialOf hT F.slot_tuple_hash.lookup ?_)
  show wpAny _ _ (callSpecialIfBoundUnlessNone? (.ref a) "__hash__" _ >>= _) Q E s
  refine wpAny_bind (wpAny_callSpecialIfBoundUnlessNone?_slot hT F.slot_tuple_hash (wpAny_call_entry F.slot_tuple_hash hT F.entry_tuple_hash ?_ (F.args_tuple_hash_1 _)))
  show wpAny _ _ (Builtin.Tuple.tupleItemsOf (.ref a) >>= _) _ _ s
  refine wpAny_bind (wpAny_tupleItemsOf ho hd ?_)
  refine wpAny_bind ?_
  rw [← Array.forIn_toList]
  refine wpAny_forIn_list _
    (fun rest (b : Array Int) s' => ∃ hs1 hs2 m1 m2, hs = hs1 ++ hs2 ∧ m = m1 + m2 ∧ HashAll prog w r s.heap rest hs2 m2 ∧ b.toList = hs1 ∧ s' = { s with toks := s.toks + m1 })
    _ ?_ ?_ _ _ ⟨[], hs, 0, m, rfl, by (first | lia | omega), hi, rfl, rfl⟩
  · rintro x rest b s' ⟨hs1, hs2, m1, m2, rfl, rfl, hl, hb, rfl⟩
    cases hl with
    | @cons _ hv k _ hs' m' h1 hl' =>
      refine wpAny_bind (h1 _ _ _ _ (by simp only [Around.in1_units]; (first | lia | omega)) rfl ?_)
      first
        | exact wpAny_pure ⟨hs1 ++ [hv], hs', m1 + k, m', by simp, by (first | lia | omega), hl', by simp [hb], by simp [Nat.add_assoc]⟩
        | exact wpAny_bind (wpAny_pure (wpAny_pure ⟨hs1 ++ [hv], hs', m1 + k, m', by simp, by (first | lia | omega), hl', by simp [hb], by simp [Nat.add_assoc]⟩))
  · rintro b s' ⟨hs1, hs2, m1, m2, rfl, rfl, hl, hb, rfl⟩
    cases hl
    rw [List.append_nil] at h
    show wpAny _ _ (retInt (Builtin.Tuple.tupleHashOf b.toList)) _ _ _
    rw [hb]
    refine wpAny_ret_mkInt ?_
    show wpAny _ _ (if (decide (-(2 : Int) ^ 63 ≤ Builtin.Tuple.tupleHashOf hs1) && decide (Builtin.Tuple.tupleHashOf hs1 < 2 ^ 63)) = true then _ else _) Q E _
    unfold reduceHash at h
    by_cases hr : (decide (-(2 : Int) ^ 63 ≤ Builtin.Tuple.tupleHashOf hs1) && decide (Builtin.Tuple.tupleHashOf hs1 < 2 ^ 63)) = true
    · rw [if_pos hr]
      rw [if_pos hr] at h
      exact wpAny_pure (by simpa [Nat.add_assoc] using h)
    · rw [if_neg hr]
      rw [if_neg hr] at h
      exact wpAny_bind (wpAny_rule (wpAny_pure (by simpa [Nat.add_assoc] using h)))

theorem hashes_int (prog : Program) (w : World) (r : Nat) (h : Heap) (i : Int) (t : Tok) : Hashes prog w r h (.int i t) ((intKind prog w).hash i) 1 := fun _ _ _ _ _ _ q => (intKind prog w).pyHash (intKind_is _ _ _ _) q
theorem hashes_str (prog : Program) (w : World) (r : Nat) (h : Heap) (x : Str) (t : Tok) : Hashes prog w r h (.str x t) ((strKind prog w).hash x) 1 := fun _ _ _ _ _ _ q => (strKind prog w).pyHash (strKind_is _ _ _ _) q
noncomputable def emptyHash : Int := reduceHash (Builtin.Tuple.tupleHashOf [])
theorem hashes_empty (prog : Program) (w : World) {h : Heap} {e : Addr} {oe : Obj} {ne : Nat} (h4 : h.get? e = some oe) (h5 : oe.cls = .type "tuple") (h6 : oe.data = .seq #[] ne) : Hashes prog w 2 h (.ref e) emptyHash 1 := by
  intro A E s Q hu hs q
  subst hs
  exact hash_tuple (r := 0) (m := 0) (hs := []) (by (first | lia | omega)) h4 h5 h6 .nil q
noncomputable def datHash (prog : Program) (w : World) : Int × Option Int → Int
  | (x, none) => (intKind prog w).hash x
  | (x, some y) => reduceHash (Builtin.Tuple.tupleHashOf [(intKind prog w).hash x, (intKind prog w).hash y])
noncomputable def datDraws : Int × Option Int → Nat
  | (_, none) => 1
  | (_, some _) => 3
theorem hashes_dat {h : Heap} {p : Int × Option Int} {dv : Value} (x : DatIs h p dv) : Hashes prog w 2 h dv (datHash prog w p) (datDraws p) := by
  obtain ⟨a, b⟩ := p
  cases b with
  | none => (refine Mine.ex1 x fun t oq1 => ?_; (try clear x); subst oq1); exact hashes_int _ _ _ _ _ _
  | some b =>
    (refine Mine.ex5 x fun da od nd t t' om0 => Mine.an4 om0 fun oq5 h1 h2 h3 => ?_; clear om0; (try clear x); subst oq5)
    intro A E s Q hu hs q
    subst hs
    exact hash_tuple (r := 0) (m := 1 + (1 + 0)) (by (first | lia | omega)) h1 h2 h3 (.cons (hashes_int _ _ _ _ _ _) (.cons (hashes_int _ _ _ _ _ _) .nil)) q
noncomputable def keyHashB (prog : Program) (w : World) (k : BKey) : Int := reduceHash (Builtin.Tuple.tupleHashOf [(strKind prog w).hash k.1, emptyHash, (intKind prog w).hash k.2.1, datHash prog w k.2.2])
noncomputable def keyDraws (k : BKey) : Nat := 1 + (1 + (1 + (datDraws k.2.2 + 0))) + 1
theorem key_hash {k : BKey} {a : Addr} {Q : Int → Shared → Prop} (hu : A.units + 8 < cLine) (x : KeyIs s.heap k a) (h : Q (keyHashB prog w k) { s with toks := s.toks + keyDraws k }) : wpAny (model prog w) A (pyHash (.ref a)) Q E s := by
  (refine Mine.an2 x fun _ om0 => Mine.ex8 om0 fun o n t1 e oe ne t2 dv om1 => Mine.an7 om1 fun h1 h2 h3 h4 h5 h6 h7 => ?_; clear om0 om1; (try clear x))
  exact hash_tuple (r := 2) (by (first | lia | omega)) h1 h2 h3 (.cons (hashes_str _ _ _ _ _ _) (.cons (hashes_empty _ _ h4 h5 h6) (.cons (hashes_int _ _ _ _ _ _) (.cons (hashes_dat h7) .nil)))) h
theorem key_eq {x y : BKey} {a b : Addr} {Q : Bool → Shared → Prop} (hu : A.units + 8 < cLine) (hx : KeyIs s.heap x a) (hy : KeyIs s.heap y b) (h : Q (decide (x = y)) s) : wpAny (model prog w) A (eqBool (.ref a) (.ref b)) Q E s := by
  refine SeqAt.eqBoolOverData prog w A E s _ _ _ _ _ _ Q hx.reads hy.reads (keyPy_lay hx.1) (keyPy_lay hy.1) ?_ (by rw [keyEqv]; exact h)
  have := keyPy_depth x
  have := Nat.min_le_left (keyPy x).depth (keyPy y).depth
  (first | lia | omega)
theorem quiet_tuple {d : Nat} {a : Addr} {o : Obj} {items : Array Value} {n : Nat} {Q : Bool → Shared → Prop} (ho : s.heap.get? a = some o) (hc : o.cls = .type "tuple") (hd : o.data = .seq items n)
    (hi : ∀ v ∈ items.toList, ∀ (A : Around) (Q' : Bool → Shared → Prop), Q' true s → wpAny (model prog w) A (eqIsQuiet d v) Q' E s) (h : Q true s) : wpAny (model prog w) A (eqIsQuiet (d + 1) (.ref a)) Q E s := by
  have hT : s.TypeIs (.ref a) "tuple" := ⟨o, ho, hc⟩
  unfold eqIsQuiet
  refine wpAny_bind (wpAny_specialOf hT F.slot_tuple_eq.lookup ?_)
  show wpAny _ _ (isInstance (.ref a) (.type "tuple") >>= _) _ _ s
  refine wpAny_bind (wpAny_isInstance hT isSubtype_tuple_tuple ?_)
  simp only [Bool.not_true, Bool.false_eq_true, if_false]
  refine wpAny_bind (wpAny_seqItems ho hd ?_)
  refine wpAny_bind ?_
  show wpAny _ _ (forIn items _ _) _ _ s
  rw [← Array.forIn_toList]
  refine wpAny_forIn_list _ (fun rest r s' => r.1 = none ∧ s' = s ∧ ∀ v ∈ rest, v ∈ items.toList) _ ?_ ?_ _ _ ⟨rfl, rfl, fun _ hv => hv⟩
  · rintro v rest r s' ⟨hr, rfl, hall⟩
    refine wpAny_bind (hi v (hall v List.mem_cons_self) _ _ ?_)
    simp only [Bool.not_true, Bool.false_eq_true, if_false]
    exact wpAny_pure ⟨rfl, rfl, fun u hu' => hall u (List.mem_cons_of_mem _ hu')⟩
  · rintro ⟨r1, r2⟩ s' ⟨hr, rfl, _⟩
    simp only at hr
    subst hr
    exact wpAny_pure h
theorem quiet_val {d : Nat} {v : Value} {Q : Bool → Shared → Prop} (hv : carriedByValue v = true) (h : Q true s) : wpAny (model prog w) A (eqIsQuiet d v) Q E s := by
  rw [eqIsQuiet_byValue d hv]; exact wpAny_pure h
theorem key_quiet {k : BKey} {a : Addr} {Q : Bool → Shared → Prop} (x : KeyIs s.heap k a) (h : Q true s) : wpAny (model prog w) A (eqIsQuiet 8 (.ref a)) Q E s := by
  (refine Mine.an2 x fun _ om0 => Mine.ex8 om0 fun o n t1 e oe ne t2 dv om1 => Mine.an7 om1 fun h1 h2 h3 h4 h5 h6 h7 => ?_; clear om0 om1; (try clear x))
  refine quiet_tuple (d := 7) h1 h2 h3 (fun v hv A' Q' q => ?_) h
  simp only [List.mem_cons, List.not_mem_nil, or_false] at hv
  rcases hv with rfl | rfl | rfl | rfl
  · exact quiet_val rfl q
  · exact quiet_tuple (d := 6) h4 h5 h6 (fun v hv => by simp at hv) q
  · exact quiet_val rfl q
  · revert h7
    obtain ⟨c, b⟩ := k.2.2
    intro h7
    cases b with
    | none => (refine Mine.ex1 h7 fun t oq1 => ?_; (try clear h7); subst oq1); exact quiet_val rfl q
    | some b =>
      (refine Mine.ex5 h7 fun da od nd t t' om0 => Mine.an4 om0 fun oq5 g1 g2 g3 => ?_; clear om0; (try clear h7); subst oq5)
      refine quiet_tuple (d := 6) g1 g2 g3 (fun v hv A'' Q'' q' => ?_) q
      simp only [List.mem_cons, List.not_mem_nil, or_false] at hv
      rcases hv with rfl | rfl <;> exact quiet_val rfl q'
end
theorem tup_ne_dict {h : Heap} {a d : Addr} {o o' : Obj} {xs : Array Value} {n : Nat} {es : Array DictEntry} {ep : Nat} (h1 : h.get? a = some o) (h2 : o.data = .seq xs n) (h3 : h.get? d = some o') (h4 : o'.data = .dict es ep) : a ≠ d := by
  rintro rfl
  rw [h1] at h3
  cases h3
  rw [h2] at h4
  cases h4
theorem KeyIs.keeps {h h' : Heap} {k : BKey} {a d : Addr} {o : Obj} {es : Array DictEntry} {ep : Nat} (x : KeyIs h k a) (ho : h.get? d = some o) (hd : o.data = .dict es ep) (hs : Heap.SameBut d h h') : KeyIs h' k a := by
  (refine Mine.an2 x fun h0 om0 => Mine.ex8 om0 fun o' n t1 e oe ne t2 dv om1 => Mine.an7 om1 fun h1 h2 h3 h4 h5 h6 h7 => ?_; clear om0 om1; (try clear x))
  refine ⟨h0, o', n, t1, e, oe, ne, t2, dv, (hs.2 _ (tup_ne_dict h1 h3 ho hd)).trans h1, h2, h3, (hs.2 _ (tup_ne_dict h4 h6 ho hd)).trans h4, h5, h6, ?_⟩
  revert h7
  obtain ⟨c, b⟩ := k.2.2
  intro h7
  cases b with
  | none => exact h7
  | some b =>
    (refine Mine.ex5 h7 fun da od nd t t' om0 => Mine.an4 om0 fun e' g1 g2 g3 => ?_; clear om0; (try clear h7))
    exact ⟨da, od, nd, t, t', e', (hs.2 _ (tup_ne_dict g1 g3 ho hd)).trans g1, g2, g3⟩
noncomputable def bankKind (prog : Program) (w : World) : HeapKind prog w BKey where
  is := KeyIs
  hash := keyHashB prog w
  draws := keyDraws
  room := fun A => A.units + 8 < cLine
  inj := fun hx hy => keyPy_inj (SeqAt.Reads.unique _ _ _ _ _ (keyPy_lay hx.1) hx.reads hy.reads)
  keeps := fun x ho hd hs => x.keeps ho hd hs
  pyHash := fun hu hk h => key_hash hu hk h
  eqBool := fun hu hx hy h => key_eq hu hx hy h
  quiet := fun hk h => key_quiet hk h
end Mine
end
/- T5 -/
section
open PySem PySem.W PyProof.Rows PySem.Calls PySem.Spec PySem.NumText
namespace Mine
set_option maxRecDepth 100000
set_option maxHeartbeats 8000000 

noncomputable def bitc (v p : Nat) : Nat := if (v / 2 ^ p) % 2 = 1 then 49 else 48
noncomputable def bitsTo (v n i : Nat) : List Nat := (List.range i).map fun j => bitc v (n - 1 - j)
noncomputable def BitJ (v n : Nat) (i : Nat) (m : Str → Option Value) (news : List (Addr × Obj)) : Prop :=
  ∃ (tv : Tok) (ba : Addr) (l : List (Str × Tok)) (e : Nat), m "value" = some (.int v tv) ∧ m "digits" = some (.ref ba) ∧ news = [(ba, PySem.W.listOf (strValues l).toArray e)] ∧
    (l.map fun x => lc x.1).flatten = bitsTo v n i ∧ l.length = i ∧ ∀ x ∈ l, x.1.length ≤ 1

theorem bit_fact {v n i : Nat} (hi : i < n) : ((v : Int).fdiv (2 ^ ((n : Int) - 1 + (i : Int) * -1).toNat)).fmod 2 = ((v / 2 ^ (n - 1 - i) % 2 : Nat) : Int) := by
  have e1 : ((n : Int) - 1 + (i : Int) * -1).toNat = n - 1 - i := by
    (refine Mine.ex1 (Nat.exists_eq_add_of_lt hi) fun k oq1 => ?_; subst oq1)
    have h1 : ((i + k + 1 : Nat) : Int) - 1 + (i : Int) * -1 = ((k : Nat) : Int) := by rw [Int.mul_neg, Int.mul_one, Int.natCast_add, Int.natCast_add]; show (i : Int) + k + 1 - 1 + -(i : Int) = k; rw [Int.add_sub_cancel, Int.add_comm (i : Int), Int.add_neg_cancel_right]
    rw [h1, Nat.add_sub_cancel, Nat.add_sub_cancel_left]; rfl
  have e2 : (2 : Int) ^ (n - 1 - i) = ((2 ^ (n - 1 - i) : Nat) : Int) := (Int.natCast_pow 2 _).symm
  rw [e1, e2, ← Int.ofNat_fdiv]
  exact (Int.ofNat_fmod _ 2).symm
theorem bit_step {v n i : Nat} {l : List (Str × Tok)} {z : Str} {t : Tok} (hi : i < n) (hl : (l.map fun x => lc x.1).flatten = bitsTo v n i) (hll : l.length = i) (h1 : ∀ x ∈ l, x.1.length ≤ 1) (hz : lc z = [bitc v (n - 1 - i)]) :
    ((l ++ [(z, t)]).map fun x => lc x.1).flatten = bitsTo v n (i + 1) ∧ (l ++ [(z, t)]).length = i + 1 ∧ ∀ x ∈ l ++ [(z, t)], x.1.length ≤ 1 := by
  refine ⟨?_, by simp [hll], fun x hx => ?_⟩
  · rw [List.map_append, List.flatten_append, hl]
    unfold bitsTo
    rw [List.range_succ, List.map_append]
    simp [hz]
  · rcases List.mem_append.mp hx with hx | hx
    · exact h1 x hx
    · rw [List.mem_singleton.mp hx, ← lc_len, hz]; exact Nat.le_refl _
theorem bit_one {v n i : Nat} (hi : i < n) (h : ((v : Int).fdiv (2 ^ ((n : Int) - 1 + (i : Int) * -1).toNat)).fmod 2 = 1) : lc (Str.ofString "1") = [bitc v (n - 1 - i)] := by
  rw [bit_fact hi] at h
  have : v / 2 ^ (n - 1 - i) % 2 = 1 := by (first | lia | omega)
  unfold bitc; rw [if_pos this]; decide +kernel
theorem bit_nil {v n i : Nat} (hi : i < n) (h : ((v : Int).fdiv (2 ^ ((n : Int) - 1 + (i : Int) * -1).toNat)).fmod 2 ≠ 1) : lc (Str.ofString "0") = [bitc v (n - 1 - i)] := by
  rw [bit_fact hi] at h
  have : ¬ v / 2 ^ (n - 1 - i) % 2 = 1 := by (first | lia | omega)
  unfold bitc; rw [if_neg this]; decide +kernel
theorem lc_hashb : lc (Str.ofString "#b") = [35, 98] := by decide +kernel
theorem bits_end {v n : Nat} {l : List (Str × Tok)} {z y : Str} (hy : y = Str.ofString "#b" ++ z) (hz : lc z = (l.map fun x => lc x.1).flatten) (hl : (l.map fun x => lc x.1).flatten = bitsTo v n n) : lc y = [35, 98] ++ bitsTo v n n := by
  rw [hy, lc_app, lc_hashb, hz, hl]
theorem bitsTo_len (v n i : Nat) : (bitsTo v n i).length = i := by unfold bitsTo; simp

theorem bits_reads {prog : Program} {w : World} {v n : Nat} {t t' : Tok} (hv : v < 2 ^ 70) (n0 : 1 ≤ n) (hn : n ≤ 70) :
    Reads0 prog w 1 789 [.int v t, .int n t'] [] (fun r => ∃ y t', r = .str y t' ∧ lc y = [35, 98] ++ bitsTo v n n) := by
  unfold Reads0 Runs
  intro mean mg mb dp un gd cn' cs a ccd cl outer A₀ base h₀ L m s Q E B F X N T hk hd hu hret
  rcases s with ⟨hp0, gs0, dr0, tk0, os0⟩
  dsimp only at F N hret
  k_with_none
  k_with "om" => first | (with_reducible first | assumption | exact Mine.r0 (by assumption) | exact Int.natCast_nonneg _ | exact Int.le_refl _ | exact Nat.le_refl _) | (first | lia | omega)
  k_with "rm" => first | ((try dsimp only [depth_under_make, depth_under_kw, depth_in1, depth_deeper, depth_caller, units_in1, units_deeper, Around.mark_units, units_caller, units_under_make, ktrTop]); walk_at "om") | ktr_room | ktr_units
  k_with "con_enter" => (refine' Mine.code_defQ ?k1z29 ?k2z29 ?k3z29 ?k4z29 ?k5z29 ?kAz29 ?kFz29 ?kKz29 ?k6z29 ?k7z29 ?k8z29 ?k9z29 ?kBz29 ?_ ?c2z29 ?c3z29 ?c4z29 ?c5z29; (case kAz29 => exact rfl); (case kFz29 => exact rfl); (case kKz29 => assumption); (case k1z29 => k_asm); (case k2z29 => k_asm); (case k3z29 => k_asm); (case k4z29 => k_asm); (case k5z29 => k_asm); (case k6z29 => k_is); (case k7z29 => k_is); (case k8z29 => walk_at "rm"); (case k9z29 => first | exact BindsTo.of_eq (binds := []) rfl | exact BindsTo.of_eq (binds := [(_, _)]) rfl | exact BindsTo.of_eq (binds := [(_, _), (_, _)]) rfl | exact BindsTo.of_eq (binds := [(_, _), (_, _), (_, _)]) rfl | exact BindsTo.of_eq (binds := [(_, _), (_, _), (_, _), (_, _)]) rfl | exact BindsTo.of_eq (binds := [(_, _), (_, _), (_, _), (_, _), (_, _)]) rfl | exact BindsTo.of_eq rfl); (case c5z29 => decide); (case kBz29 => exact locs rfl); (case c2z29 => exact rfl); (case c3z29 => exact rfl); (case c4z29 => exact rfl); k_whole; intro g' L' h' tk' FG' F' N' B' X' T' S' hL' qk ek)
  k_with "newList" => (k_here; k_dflt (refine' Mine.newListS ?Fz22 ?Nz22 ?ez22 ?zz22 ?_; (case Fz22 => k_asm); (case Nz22 => k_asm); (case ez22 => (dsimp only [List.map]; (try exact rfl))); (case zz22 => size_fits); k_whole); intro l' h' l1 F' N'; (try k_sweep))
  k_with "LeaveK" => (k_dflt (refine' Mine.leave_con ?hrz24 ?hSz24 ?hFz24 ?hNz24 ?hqz24 ?_; (case hrz24 => assumption); (case hSz24 => assumption); (case hFz24 => k_asm); (case hNz24 => k_asm); (case hqz24 => exact rfl); k_whole))
  k_with "k_all" => assumption
  k_with "key mem" => fail
  k_with "k_mem" => (k_whole; walk_at "key mem")
  k_with "k_ne" => ((refine neN ?_; (try dsimp only)); first | (refine' Mine.ne_below ?kb9z33 ?km9z33; (case kb9z33 => with_reducible assumption); (case km9z33 => walk_at "key mem")) | (refine' Mine.ne_above ?kb9z33 ?km9z33; (case kb9z33 => with_reducible assumption); (case km9z33 => walk_at "key mem")) | walk_at "ne find" | (first | lia | omega))
  k_with "k_all" => (refine' Mine.all_below ?kb9z30 ?km9z30; (case kb9z30 => with_reducible assumption); (case km9z30 => exact rfl))
  k_with "ne find" => first | with_reducible assumption | (refine Ne.symm ?_; with_reducible assumption) | (refine Nat.ne_of_lt ?_; with_reducible assumption) | (refine Nat.ne_of_gt ?_; with_reducible assumption) | ((with_reducible rename _ ∧ _ => hc9); have hc8 := hc9.1; have hc7 := hc9.2; clear hc9; walk_at "ne find")
  k_with "spliced" => (k_here; (refine PyProof.Rows.args_nil ?_); (try dsimp only [List.cons_append, List.nil_append]); (with_reducible show _ ∧ _))
  k_with "pit" => k_extra "my iter"
  k_with "binaryOp Add str str" => (k_here; (with_reducible show wpAny _ _ (binaryOp Operator.Add (Value.str _ _) (Value.str _ _)) _ _ _); (refine Mine.add_txt (by first | walk_at "om" | (simp only [Mine.len_hashb, Mine.len_bar]; walk_at "om")) ?_); intro x' t' k' hx' hl')
  k_with "call builtin:list.append" => (k_here; (with_reducible show wpAny _ _ (call (Value.builtin _) [Value.ref _, _]) _ _ _); k_dflt (refine' append_K ?k1z154 ?k2z154 ?k3z154 ?_ ?zz154; (case k1z154 => k_asm); (case k2z154 => k_asm); (case k3z154 => k_upd); (case zz154 => first | (rw [Mine.strValues_size, sizeLine_eq]; walk_at "om") | k_extra "room"); k_whole); intro h' F' N'; (try rw [Mine.strValues_push] at N'); (try k_sweep))
  k_with "call builtin:str.join" => (k_here; (with_reducible show wpAny _ _ (call (Value.builtin "str.join") [Value.str _ _, Value.ref _]) _ _ _); k_dflt (refine' Mine.join_txt ?lz155 ?Bz155 ?nz155 ?_; (case lz155 => is_list); (case Bz155 => k_extra "join each"); (case nz155 => k_extra "join all"); k_whole); intro z' t' k' hz' hlz')
  k_with "call type:range" => k_extra "my range"
  k_with "my range" => ((rename Fr _ _ _ _ => F'); (rename News _ _ _ _ => N'); (with_unfolding_all refine range3_rows F' N' (by decide) ?_ (Or.inl (PyProof.noPylong_of_log2 (by decide +kernel)))); intro hr1 kr1 tr1 tr2 tr3 rgX F'' N'' kr2)
  k_with "my iter" => ((with_reducible show wpAny _ _ (pyIter (Value.ref _)) (fun it s₂ => LoopAtV _ _ _ _ _ _ _ _ _ it s₂) _ _); (with_unfolding_all refine' range_inv (n := n) (BitJ v n) (by rfl) rgX ?sm ?sz F'' N'' ?j ?turn ?done); (case j => exact ⟨_, _, [], _, rfl, rfl, rfl, rfl, rfl, fun _ h => nomatch h⟩); (case sm => exact small_down (by walk_at "om") (by walk_at "om") (by walk_at "om") (by walk_at "om")); (case sz => (rw [rangeSize_down]; split <;> walk_at "om")); rotate_left; (intro m₁ nx h tk J₁ F₁ N₁); ((k_dflt (refine Mine.ex4 J₁ fun tv ba l e om0 => Mine.an6 om0 fun hm1 hm2 oq6 hl hll h1 => ?_); clear om0; (try clear J₁); subst oq6)); (rw [bind2 hm1 hm2] at F₁); rotate_left; (intro i ti m₁ nx h tk own hi off J₁ F₁ N₁); ((k_dflt (refine Mine.ex4 J₁ fun tv ba l e om0 => Mine.an6 om0 fun hm1 hm2 oq6 hl hll h1 => ?_); clear om0; (try clear J₁); subst oq6)); (rw [bind2 hm1 hm2] at F₁); (simp only [List.cons_append, List.nil_append] at N₁); (have hoff : ∀ p ∈ own, p.1 ≠ ba := fun p hp => off p hp ba (.head _)))
  k_with "join each" => exact h1
  k_with "join all" => walk_at "om"
  refine wpAny_call ?_
  k_dflt (k_extra "con_enter")
  k_steps
  · (first | (refine Mine.an3 (bit_step (t := _) hi hl hll h1 (bit_one hi (by assumption))) fun e1 e2 e3 => ?_) | obtain ⟨e1, e2, e3⟩ := bit_step (t := _) hi hl hll h1 (bit_one hi (by assumption)))
    exact InvEndN.intro (by assumption) (by assumption) ⟨tv, ba, _, _, rfl, rfl, rfl, e1, e2, e3⟩ rfl (List.forall_mem_cons.mpr ⟨.head _, List.forall_mem_nil _⟩) (fun p hp => .tail _ hp)
  · (first | (refine Mine.an3 (bit_step (t := _) hi hl hll h1 (bit_nil hi (by assumption))) fun e1 e2 e3 => ?_) | obtain ⟨e1, e2, e3⟩ := bit_step (t := _) hi hl hll h1 (bit_nil hi (by assumption)))
    exact InvEndN.intro (by assumption) (by assumption) ⟨tv, ba, _, _, rfl, rfl, rfl, e1, e2, e3⟩ rfl (List.forall_mem_cons.mpr ⟨.head _, List.forall_mem_nil _⟩) (fun p hp => .tail _ hp)
  · exact ends_of ⟨⟨_, _, rfl, bits_end (by assumption) (by assumption) hl⟩, rfl⟩ (List.forall_mem_nil _)
end Mine
end
/- Bank -/
section
open PySem PySem.W PyProof.Rows PySem.Calls PySem.Spec
namespace Mine
set_option maxRecDepth 100000

structure Bk where
  A : Nat → Addr
  hs : Nat → Int
  ks : Nat → Tok
  nd : Nat
  e : Nat → Nat
  fr : Value
  tn : Value
  fn : Value
  names : Array Value
  widths : Array Value
  fnames : Array Value
  fargs : Array Value
  fres : Array Value
  ops : Array Value
  targs : Array Value
  sorts : Array Value
  datas : Array Value
  num : Obj
  bv : Obj

noncomputable def Bk.dic (B : Bk) : Obj := dictOf [⟨B.hs 0, .str (Str.ofString "sort_names") (B.ks 0), .ref (B.A 2)⟩, ⟨B.hs 1, .str (Str.ofString "sort_widths") (B.ks 1), .ref (B.A 3)⟩, ⟨B.hs 2, .str (Str.ofString "fun_names") (B.ks 2), .ref (B.A 4)⟩,
     ⟨B.hs 3, .str (Str.ofString "fun_args") (B.ks 3), .ref (B.A 5)⟩, ⟨B.hs 4, .str (Str.ofString "fun_results") (B.ks 4), .ref (B.A 6)⟩, ⟨B.hs 5, .str (Str.ofString "fresh_count") (B.ks 5), B.fr⟩,
     ⟨B.hs 6, .str (Str.ofString "term_ops") (B.ks 6), .ref (B.A 7)⟩, ⟨B.hs 7, .str (Str.ofString "term_args") (B.ks 7), .ref (B.A 8)⟩, ⟨B.hs 8, .str (Str.ofString "term_sorts") (B.ks 8), .ref (B.A 9)⟩,
     ⟨B.hs 9, .str (Str.ofString "term_datas") (B.ks 9), .ref (B.A 10)⟩, ⟨B.hs 10, .str (Str.ofString "numbers") (B.ks 10), .ref (B.A 11)⟩, ⟨B.hs 11, .str (Str.ofString "true_number") (B.ks 11), B.tn⟩,
     ⟨B.hs 12, .str (Str.ofString "false_number") (B.ks 12), B.fn⟩, ⟨B.hs 13, .str (Str.ofString "bv_numbers") (B.ks 13), .ref (B.A 12)⟩] B.nd
noncomputable def Bk.led (B : Bk) : List (Addr × Obj) :=
  [(B.A 1, instObj 705 (B.A 0)),
   (B.A 0, B.dic),
   (B.A 2, PySem.W.listOf B.names (B.e 2)), (B.A 3, PySem.W.listOf B.widths (B.e 3)), (B.A 4, PySem.W.listOf B.fnames (B.e 4)), (B.A 5, PySem.W.listOf B.fargs (B.e 5)), (B.A 6, PySem.W.listOf B.fres (B.e 6)),
   (B.A 7, PySem.W.listOf B.ops (B.e 7)), (B.A 8, PySem.W.listOf B.targs (B.e 8)), (B.A 9, PySem.W.listOf B.sorts (B.e 9)), (B.A 10, PySem.W.listOf B.datas (B.e 10)),
   (B.A 11, B.num), (B.A 12, B.bv)]

noncomputable def DatL (news : List (Addr × Obj)) (p : Int × Option Int) (dv : Value) : Prop :=
  match p with
  | (x, none) => ∃ t, dv = .int x t
  | (x, some y) => ∃ da n t t', dv = .ref da ∧ (da, tupO [.int x t, .int y t'] n) ∈ news
noncomputable def KeyL (news : List (Addr × Obj)) (k : BKey) (a : Addr) : Prop :=
  PyData.strOk k.1 = true ∧ ∃ n t1 e ne t2 dv, (a, tupO [.str k.1 t1, .ref e, .int k.2.1 t2, dv] n) ∈ news ∧ (e, tupO [] ne) ∈ news ∧ DatL news k.2.2 dv
theorem DatL.mono {news news' : List (Addr × Obj)} {p : Int × Option Int} {dv : Value} (h : DatL news p dv) (hs : ∀ q ∈ news, q ∈ news') : DatL news' p dv := by
  obtain ⟨a, b⟩ := p
  cases b with
  | none => exact h
  | some b => (refine Mine.ex4 h fun da n t t' om0 => Mine.an2 om0 fun e m => ?_; clear om0; (try clear h)); exact ⟨da, n, t, t', e, hs _ m⟩
theorem KeyL.mono {news news' : List (Addr × Obj)} {k : BKey} {a : Addr} (h : KeyL news k a) (hs : ∀ q ∈ news, q ∈ news') : KeyL news' k a := by
  (refine Mine.an2 h fun h0 om0 => Mine.ex6 om0 fun n t1 e ne t2 dv om1 => Mine.an3 om1 fun h1 h2 h3 => ?_; clear om0 om1; (try clear h))
  exact ⟨h0, n, t1, e, ne, t2, dv, hs _ h1, hs _ h2, h3.mono hs⟩
theorem DatL.is {h₀ h : Heap} {L : Addr} {news : List (Addr × Obj)} {p : Int × Option Int} {dv : Value} (N : News h₀ L h news) (x : DatL news p dv) : DatIs h p dv := by
  obtain ⟨a, b⟩ := p
  cases b with
  | none => exact x
  | some b => (refine Mine.ex4 x fun da n t t' om0 => Mine.an2 om0 fun e m => ?_; clear om0; (try clear x)); exact ⟨da, _, n, t, t', e, (N _ m).1, rfl, rfl⟩
theorem KeyL.is {h₀ h : Heap} {L : Addr} {news : List (Addr × Obj)} {k : BKey} {a : Addr} (N : News h₀ L h news) (x : KeyL news k a) : KeyIs h k a := by
  (refine Mine.an2 x fun h0 om0 => Mine.ex6 om0 fun n t1 e ne t2 dv om1 => Mine.an3 om1 fun h1 h2 h3 => ?_; clear om0 om1; (try clear x))
  exact ⟨h0, _, n, t1, e, _, ne, t2, dv, (N _ h1).1, rfl, rfl, (N _ h2).1, rfl, rfl, h3.is N⟩

noncomputable def IsDictH (prog : Program) (w : World) (o : Obj) (xs : List (BKey × Addr × Value)) : Prop :=
  ∃ es ep, o.ExactDict ∧ o.data = .dict es ep ∧ es.toList = xs.map (entryOfKey (bankKind prog w)) ∧ (xs.map (·.1)).Nodup
section
variable {prog : Program} {w : World} {A : Around} {E : Value → Shared → Prop} {s : Shared} {h₀ : Heap} {L d a : Addr} {m : Str → Option Value} {news : List (Addr × Obj)} {g : Obj → List (Addr × Obj)} {o : Obj} {xs : List (BKey × Addr × Value)} {k : BKey} {v : Value}
theorem dictH_at (N : News h₀ L s.heap news) (hp : (d, o) ∈ news) (hd : IsDictH prog w o xs) (hx : ∀ x ∈ xs, KeyL news x.1 x.2.1) : s.heap.DictOfH (bankKind prog w) d xs := by
  (refine Mine.ex2 hd fun es ep om0 => Mine.an4 om0 fun h1 h2 h3 h4 => ?_; clear om0; (try clear hd))
  exact ⟨o, es, ep, (N _ hp).1, h1, h2, h3, fun x hx' => (hx x hx').is N, h4⟩
theorem num_get {dflt : Value} {Q : Value → Shared → Prop} (N : News h₀ L s.heap news) (hp : (d, o) ∈ news) (hd : IsDictH prog w o xs) (hx : ∀ x ∈ xs, KeyL news x.1 x.2.1) (hk : KeyL news k a) (lo : (d == sysModules) = false) (hu : A.units + 9 < cLine)
    (hv : ((atKey xs k).map (·.2)).getD dflt = v) (h : ∀ tk, Q v { s with toks := tk }) : wpAny (model prog w) A (call (.builtin "dict.get") [.ref d, .ref a, dflt]) Q E s :=
  have hD := dictH_at N hp hd hx
  call_meetsIn PySem.F.slot_dict_get hD.typeIs PySem.F.entry_dict_get (PySem.F.args_dict_get_3 _ _ _) (meetsH_dict_get_default (bankKind prog w) d a lo dflt) ⟨(by show A.units + 1 + 8 < cLine; (first | lia | omega) : (bankKind prog w).room A.in1), k, xs, hk.is N, hD, by rw [hv]; exact h _⟩
theorem get_none {dflt : Value} (h : atKey xs k = none) : ((atKey xs k).map (·.2)).getD dflt = dflt := by rw [h]; rfl
theorem get_some {dflt : Value} {a : Addr} (h : atKey xs k = some (a, v)) : ((atKey xs k).map (·.2)).getD dflt = v := by rw [h]; rfl
theorem num_method {pl : Sem Bool} {Q : Value × List Value → Shared → Prop} (N : News h₀ L s.heap news) (hp : (d, o) ∈ news) (hd : IsDictH prog w o xs) (h : Q (.builtin "dict.get", [.ref d]) s) : wpAny (model prog w) A (getMethod (.ref d) "get" pl) Q E s := by
  (refine Mine.ex2 hd fun es ep om0 => Mine.an4 om0 fun h1 h2 h3 h4 => ?_; clear om0; (try clear hd))
  exact getMethod_builtin ⟨o, (N _ hp).1, h1.1⟩ PySem.F.plainAttrs_dict PySem.F.slot_dict_get PySem.F.type_dict_get (fun b e => by injection e with e; subst e; exact ⟨o, (N _ hp).1, h1.2.1⟩) h
theorem num_set {hp0 : Heap} {gs0 : Array GenState} {dr0 : Drawn} {tk0 : Nat} {os0 : OsState} {Q : Unit → Shared → Prop} (F : Fr h₀ L hp0 m) (N : News h₀ L hp0 news) (U : UpdF d o news g) (hd : IsDictH prog w o xs) (hx : ∀ x ∈ xs, KeyL news x.1 x.2.1) (hk : KeyL news k a) (hu : A.units + 9 < cLine) (hsz : xs.length ≤ 1000000)
    (h : ∀ h' o' tk, Fr h₀ L h' m → News h₀ L h' (g o') → IsDictH prog w o' (storedH xs k a v) → Q () ⟨h', gs0, dr0, tk, os0⟩) : wpAny (model prog w) A (setItem (.ref d) (.ref a) v) Q E ⟨hp0, gs0, dr0, tk0, os0⟩ := by
  (refine Mine.ex2 U.split fun pre post om0 => Mine.an4 om0 fun oq2 hg ha hb => ?_; clear om0; subst oq2)
  have hm := N (d, o) (List.mem_append_right _ (.head _))
  refine wpAny_setItem_heap (hsz := by rw [sizeLine_eq]; (first | lia | omega)) (by show A.units + 1 + 8 < cLine; (first | lia | omega) : (bankKind prog w).room A.in1) (hk.is N) (dictH_at N (List.mem_append_right _ (.head _)) hd hx) fun h' hmm hs => ?_
  (refine Mine.ex3 hmm fun o' es ep om0 => Mine.an6 om0 fun ho' h1 h2 h3 _ h4 => ?_; clear om0; (try clear hmm))
  exact h h' o' _ (F.change hs hm.2.1 hm.2.2) (hg o' ▸ N.setIn ha hb hs ho') ⟨es, ep, h1, h2, h3, h4⟩
end

structure BkOK (prog : Program) (w : World) (c : Nat) (B : Bk) (xs : List (BKey × Addr × Value)) (imms : List (Addr × Obj)) : Prop where
  mono : ∀ i j, i < j → j < 13 → B.A i < B.A j
  apart : ∀ p ∈ imms, ∀ i, i < 13 → p.1 ≠ B.A i
  lo : (B.A 11 == sysModules) = false
  lo2 : (B.A 12 == sysModules) = false
  s1 : B.targs.size = B.ops.size
  s2 : B.sorts.size = B.ops.size
  s3 : B.datas.size = B.ops.size
  s4 : B.ops.size ≤ c
  s5 : 1 ≤ B.ops.size
  num : IsDictH prog w B.num xs
  keys : ∀ x ∈ xs, KeyL imms x.1 x.2.1
  vals : ∀ x ∈ xs, ∃ (i : Nat) (t t1 t2 : Tok) (e : Addr) (ne : Nat) (dv : Value), x.2.2 = .int i t ∧ 1 ≤ i ∧ B.ops[i]? = some (.str x.1.1 t1) ∧ B.targs[i]? = some (.ref e) ∧ (e, tupO [] ne) ∈ imms ∧ B.sorts[i]? = some (.int x.1.2.1 t2) ∧ B.datas[i]? = some dv ∧ DatL imms x.1.2.2 dv
  len : xs.length ≤ c

theorem apart1 {imms : List (Addr × Obj)} {A : Nat → Addr} (h : ∀ p ∈ imms, ∀ i, i < 13 → p.1 ≠ A i) (i : Nat) (hi : i < 13) : ∀ p ∈ imms, p.1 ≠ A i := fun p hp => h p hp i hi
theorem mono_ne {A : Nat → Addr} (h : ∀ i j, i < j → j < 13 → A i < A j) {i j : Nat} (hij : i < j) (hj : j < 13) : A i ≠ A j := Nat.ne_of_lt (h i j hij hj)
theorem mono_ne' {A : Nat → Addr} (h : ∀ i j, i < j → j < 13 → A i < A j) {i j : Nat} (hij : i < j) (hj : j < 13) : A j ≠ A i := Nat.ne_of_gt (h i j hij hj)

structure Grow (B : Bk) (xs : List (BKey × Addr × Value)) (imms : List (Addr × Obj)) (B' : Bk) (xs' : List (BKey × Addr × Value)) (imms' : List (Addr × Obj)) : Prop where
  A : B'.A = B.A
  names : B'.names = B.names
  widths : B'.widths = B.widths
  fnames : B'.fnames = B.fnames
  fargs : B'.fargs = B.fargs
  fres : B'.fres = B.fres
  bv : B'.bv = B.bv
  tn : B'.tn = B.tn
  fn : B'.fn = B.fn
  imms : ∀ p ∈ imms, p ∈ imms'
  at' : ∀ k v, atKey xs k = some v → atKey xs' k = some v
  back : ∀ k v, atKey xs' k = some v → atKey xs k = some v ∨ ∃ i t, v.2 = .int i t ∧ i = (B.ops.size : Int)
theorem Grow.refl (B : Bk) (xs : List (BKey × Addr × Value)) (imms : List (Addr × Obj)) : Grow B xs imms B xs imms := ⟨rfl, rfl, rfl, rfl, rfl, rfl, rfl, rfl, rfl, fun _ h => h, fun _ _ h => h, fun _ _ h => .inl h⟩

noncomputable def Bk.added (B : Bk) (op : Str) (t1 : Tok) (ea : Addr) (sort : Int) (t2 : Tok) (dv : Value) (o : Obj) : Bk :=
  { B with ops := B.ops.push (.str op t1), targs := B.targs.push (.ref ea), sorts := B.sorts.push (.int sort t2), datas := B.datas.push dv, num := o,
           e := fun i => if i = 7 then B.e 7 + 1 else if i = 8 then B.e 8 + 1 else if i = 9 then B.e 9 + 1 else if i = 10 then B.e 10 + 1 else B.e i }

theorem atKey_snoc {xs : List (BKey × Addr × Value)} {k : BKey} {p : Addr × Value} (h : atKey xs k = none) : atKey (xs ++ [(k, p)]) k = some p := by
  unfold atKey at *
  rw [List.find?_append]
  have : xs.find? (fun x => decide (x.1 = k)) = none := by
    cases e : xs.find? (fun x => decide (x.1 = k)) with
    | none => rfl
    | some x => rw [e] at h; cases h
  rw [this]
  simp
theorem atKey_app {xs ys : List (BKey × Addr × Value)} {k : BKey} {v : Addr × Value} (h : atKey xs k = some v) : atKey (xs ++ ys) k = some v := by
  unfold atKey at *
  rw [List.find?_append]
  cases e : xs.find? (fun x => decide (x.1 = k)) with
  | none => rw [e] at h; cases h
  | some x => rw [e] at h; exact h
theorem atKey_mem {xs : List (BKey × Addr × Value)} {k : BKey} {v : Addr × Value} (h : atKey xs k = some v) : (k, v) ∈ xs := by
  unfold atKey at h
  cases e : xs.find? (fun x => decide (x.1 = k)) with
  | none => rw [e] at h; cases h
  | some x =>
    rw [e] at h
    have h1 := List.mem_of_find?_eq_some e
    have h2 := List.find?_some e
    simp only [decide_eq_true_eq] at h2
    simp only [Option.map_some, Option.some.injEq] at h
    rw [← h2, ← h]; exact h1

theorem make_new {prog : Program} {w : World} {c : Nat} {B : Bk} {xs : List (BKey × Addr × Value)} {imms : List (Addr × Obj)} {op : Str} {t1 t2 : Tok} {ea : Addr} {ne : Nat} {sort : Int} {p : Int × Option Int} {dv : Value} {D : Addr} {o : Obj} {tk : Tok}
    (ok : BkOK prog w c B xs imms) (hop : PyData.strOk op = true) (hea : (ea, tupO [] ne) ∈ imms) (hdv : DatL imms p dv) (hat : atKey xs (op, sort, p) = none)
    (hD : ∀ i, i < 13 → B.A i < D) (hd : IsDictH prog w o (storedH xs (op, sort, p) D (.int (B.ops.size : Int) tk))) :
    ∃ xs', BkOK prog w (c + 1) (B.added op t1 ea sort t2 dv o) xs' ((D, tupO [.str op t1, .ref ea, .int sort t2, dv] 0) :: imms) ∧
      Grow B xs imms (B.added op t1 ea sort t2 dv o) xs' ((D, tupO [.str op t1, .ref ea, .int sort t2, dv] 0) :: imms) ∧ atKey xs' (op, sort, p) = some (D, .int (B.ops.size : Int) tk) := by
  have sub : ∀ q ∈ imms, q ∈ (D, tupO [.str op t1, .ref ea, .int sort t2, dv] 0) :: imms := fun q hq => .tail _ hq
  refine ⟨xs ++ [((op, sort, p), D, .int (B.ops.size : Int) tk)], ?_, ?_, atKey_snoc hat⟩
  · refine ⟨ok.mono, ?_, ok.lo, ok.lo2, ?_, ?_, ?_, ?_, ?_, ?_, ?_, ?_, ?_⟩
    · intro q hq i hi
      rcases List.mem_cons.mp hq with rfl | hq
      · exact Nat.ne_of_gt (hD i hi)
      · exact ok.apart q hq i hi
    · show (B.targs.push _).size = (B.ops.push _).size; rw [Array.size_push, Array.size_push, ok.s1]
    · show (B.sorts.push _).size = (B.ops.push _).size; rw [Array.size_push, Array.size_push, ok.s2]
    · show (B.datas.push _).size = (B.ops.push _).size; rw [Array.size_push, Array.size_push, ok.s3]
    · show (B.ops.push _).size ≤ c + 1; rw [Array.size_push]; have := ok.s4; (first | lia | omega)
    · show 1 ≤ (B.ops.push _).size; rw [Array.size_push]; (first | lia | omega)
    · rw [storedH_new hat] at hd; exact hd
    · intro x hx
      rcases List.mem_append.mp hx with hx | hx
      · exact (ok.keys x hx).mono sub
      · rw [List.mem_singleton.mp hx]
        exact ⟨hop, 0, t1, ea, ne, t2, dv, .head _, sub _ hea, hdv.mono sub⟩
    · intro x hx
      rcases List.mem_append.mp hx with hx | hx
      · (refine Mine.ex7 (ok.vals x hx) fun i t u1 u2 e ne' dv' om0 => Mine.an8 om0 fun h1 h2 h3 h4 h5 h6 h7 h8 => ?_; clear om0)
        have keep : ∀ (a : Array Value) (v y : Value), a[i]? = some y → (a.push v)[i]? = some y := fun a v y h => by
          have hlt : i < a.size := by
            rcases Nat.lt_or_ge i a.size with q | q
            · exact q
            · rw [Array.getElem?_eq_none q] at h; cases h
          rw [Array.getElem?_push, if_neg (Nat.ne_of_lt hlt)]; exact h
        exact ⟨i, t, u1, u2, e, ne', dv', h1, h2, keep _ _ _ h3, keep _ _ _ h4, sub _ h5, keep _ _ _ h6, keep _ _ _ h7, h8.mono sub⟩
      · rw [List.mem_singleton.mp hx]
        have last : ∀ (a : Array Value) (v : Value), a.size = B.ops.size → (a.push v)[B.ops.size]? = some v := fun a v h => by
          rw [← h, Array.getElem?_push, if_pos rfl]
        exact ⟨B.ops.size, tk, t1, t2, ea, ne, dv, rfl, ok.s5, last _ _ rfl, last _ _ ok.s1, sub _ hea, last _ _ ok.s2, last _ _ ok.s3, hdv.mono sub⟩
    · have := ok.len; rw [List.length_append]; simp only [List.length_cons, List.length_nil]; (first | lia | omega)
  · refine ⟨rfl, rfl, rfl, rfl, rfl, rfl, rfl, rfl, rfl, sub, fun k v h => atKey_app h, fun k v h => ?_⟩
    by_cases hk : k = (op, sort, p)
    · subst hk
      rw [atKey_snoc hat] at h
      have := Option.some.inj h
      subst this
      exact .inr ⟨_, _, rfl, rfl⟩
    · left
      unfold atKey at *
      rw [List.find?_append] at h
      cases e : xs.find? (fun x => decide (x.1 = k)) with
      | some x => rw [e] at h; exact h
      | none =>
        rw [e] at h
        have hk' : ¬ (op, sort, p) = k := fun q => hk q.symm
        simp [hk'] at h
theorem BkOK.le {prog : Program} {w : World} {c d : Nat} {B : Bk} {xs : List (BKey × Addr × Value)} {imms : List (Addr × Obj)} (ok : BkOK prog w c B xs imms) (h : c ≤ d) : BkOK prog w d B xs imms :=
  { ok with s4 := Nat.le_trans ok.s4 h, len := Nat.le_trans ok.len h }

theorem BkOK.more {prog : Program} {w : World} {c : Nat} {B : Bk} {xs : List (BKey × Addr × Value)} {imms imms' : List (Addr × Obj)} (ok : BkOK prog w c B xs imms) (hs : ∀ p ∈ imms, p ∈ imms') (ha : ∀ p ∈ imms', ∀ i, i < 13 → p.1 ≠ B.A i) : BkOK prog w c B xs imms' :=
  { ok with
    apart := ha
    keys := fun x hx => (ok.keys x hx).mono hs
    vals := fun x hx => (by (refine Mine.ex7 (ok.vals x hx) fun i t u1 u2 e ne' dv' om0 => Mine.an8 om0 fun h1 h2 h3 h4 h5 h6 h7 h8 => ?_; clear om0); exact ⟨i, t, u1, u2, e, ne', dv', h1, h2, h3, h4, hs _ h5, h6, h7, h8.mono hs⟩) }
theorem Grow.trans0 {B B' : Bk} {xs xs' : List (BKey × Addr × Value)} {imms imms1 imms' : List (Addr × Obj)} (g : Grow B xs imms1 B' xs' imms') (hs : ∀ p ∈ imms, p ∈ imms1) : Grow B xs imms B' xs' imms' :=
  { g with imms := fun p hp => g.imms p (hs p hp) }
noncomputable def MakeRet (prog : Program) (w : World) (c : Nat) (B : Bk) (xs : List (BKey × Addr × Value)) (imms : List (Addr × Obj)) (k : BKey) (r : Value) (tl : List (Addr × Obj)) : Prop :=
  ∃ (i : Nat) (t t' : Tok) (B' : Bk) (xs' : List (BKey × Addr × Value)) (imms' : List (Addr × Obj)) (a : Addr), r = .int i t ∧ tl = B'.led ++ imms' ∧ BkOK prog w (c + 1) B' xs' imms' ∧ Grow B xs imms B' xs' imms' ∧ atKey xs' k = some (a, .int i t')
theorem make_use {prog : Program} {w : World} {n : Nat} {f : Addr} {vs : List Value} {foot other news : List (Addr × Obj)} {c : Nat} {BB : Bk} {xs : List (BKey × Addr × Value)} {imms : List (Addr × Obj)} {k : BKey} (C : Runs prog w n f vs foot (MakeRet prog w c BB xs imms k))
    {mean : ExcName → Option Value} {mg mb : Str → Option Value} {dp un : Nat} {gd : Option (List Code)} {cn : Str} {cs : Scope} {a : Addr} {ccd : Value} {cl : List (Str × Addr)} {outer : List Env} {A₀ : Around} {base h₀ : Heap} {L : Addr} {m : Str → Option Value} {hp0 : Heap} {gs0 : Array GenState} {dr0 : Drawn} {tk0 : Nat} {os0 : OsState}
    {Q E : Value → Shared → Prop} (B : Below A₀ base outer h₀) (F : Fr h₀ L hp0 m) (X : (Mine.heap w.params).In h₀) (N : News h₀ L hp0 news)
    (T : Top Mine.view (looseW Mine.view Mine.loose) mean mg mb h₀) (hk : cs.kind = .function)
    (hd : dp + n < recursionLimit) (hu : un + 8 * n < cLine) (hf : ∀ p ∈ foot, p ∈ news) (ho : ∀ p ∈ other, p ∈ news ∧ ∀ q ∈ foot, q.1 ≠ p.1)
    (ret : ∀ (i : Nat) (t t' : Tok) (B' : Bk) (xs' : List (BKey × Addr × Value)) (imms' : List (Addr × Obj)) (a : Addr) (h' : Heap) (tk' : Nat), BkOK prog w (c + 1) B' xs' imms' → Grow BB xs imms B' xs' imms' → atKey xs' k = some (a, .int i t') → Fr h₀ L h' m → News h₀ L h' ((B'.led ++ imms') ++ other) → Q (.int i t) ⟨h', gs0, dr0, tk', os0⟩) :
    wpAny (model prog w) (ktrTop dp un gd cn cs L a ccd cl outer) (call (.ref f) vs) Q E ⟨hp0, gs0, dr0, tk0, os0⟩ :=
  C.useR B F X N T hk hd hu hf ho (fun r tl h' tk' F' N' _ R => by
    (refine Mine.ex7 R fun i t t' B' xs' imms' a om0 => Mine.an5 om0 fun e1 e2 ok gr hat => ?_; clear om0; (try clear R))
    subst e1; subst e2
    exact ret i t t' B' xs' imms' a h' tk' ok gr hat F' N')
theorem apart_cons {B : Bk} {imms : List (Addr × Obj)} {a : Addr} {o : Obj} (h : ∀ p ∈ imms, ∀ i, i < 13 → p.1 ≠ B.A i) (ha : ∀ i, i < 13 → B.A i < a) : ∀ p ∈ (a, o) :: imms, ∀ i, i < 13 → p.1 ≠ B.A i := by
  intro p hp i hi
  rcases List.mem_cons.mp hp with rfl | hp
  · exact Nat.ne_of_gt (ha i hi)
  · exact h p hp i hi
theorem lt13 {A : Nat → Addr} {a : Addr} (h0 : A 0 < a) (h1 : A 1 < a) (h2 : A 2 < a) (h3 : A 3 < a) (h4 : A 4 < a) (h5 : A 5 < a) (h6 : A 6 < a) (h7 : A 7 < a) (h8 : A 8 < a) (h9 : A 9 < a) (h10 : A 10 < a) (h11 : A 11 < a) (h12 : A 12 < a) : ∀ i, i < 13 → A i < a := by
  intro i hi
  have : i = 0 ∨ i = 1 ∨ i = 2 ∨ i = 3 ∨ i = 4 ∨ i = 5 ∨ i = 6 ∨ i = 7 ∨ i = 8 ∨ i = 9 ∨ i = 10 ∨ i = 11 ∨ i = 12 := or13 _ (by assumption)
  rcases this with rfl | rfl | rfl | rfl | rfl | rfl | rfl | rfl | rfl | rfl | rfl | rfl | rfl <;> assumption
theorem lt13b {A : Nat → Addr} {a : Addr} {l : List Addr} (h : Below' a (A 1 :: A 0 :: A 2 :: A 3 :: A 4 :: A 5 :: A 6 :: A 7 :: A 8 :: A 9 :: A 10 :: A 11 :: A 12 :: l)) : ∀ i, i < 13 → A i < a :=
  lt13 (h _ m1) (h _ m0) (h _ m2) (h _ m3) (h _ m4) (h _ m5) (h _ m6) (h _ m7) (h _ m8) (h _ m9) (h _ m10) (h _ m11) (h _ m12)
theorem below_tail {a x : Addr} {l : List Addr} (h : Below' a (x :: l)) : Below' a l := fun b hb => h b (.tail _ hb)

structure BvOK (prog : Program) (w : World) (c : Nat) (B : Bk) (kvs : List (Int × Value)) : Prop where
  bv : B.bv.IsDictOf (intKind prog w) kvs
  n1 : B.names.size = B.widths.size
  n2 : B.names.size ≤ c + 3
  n3 : 3 ≤ B.names.size
  len : kvs.length ≤ c
  vals : ∀ x ∈ kvs, ∃ (j : Nat) (t t' : Tok), x.2 = .int j t ∧ 3 ≤ j ∧ B.widths[j]? = some (.int x.1 t')
theorem valueAt_mem {kvs : List (Int × Value)} {k : Int} {v : Value} (h : valueAt kvs k = some v) : (k, v) ∈ kvs := by
  unfold valueAt at h
  cases e : kvs.find? (fun kv => kv.1 = k) with
  | none => rw [e] at h; cases h
  | some x =>
    rw [e] at h
    have h1 := List.mem_of_find?_eq_some e
    have h2 := List.find?_some e
    simp only [decide_eq_true_eq] at h2
    simp only [Option.map_some, Option.some.injEq] at h
    rw [← h2, ← h]; exact h1
theorem stored_absent {K : Type} [DecidableEq K] {kvs : List (K × Value)} {k : K} {v : Value} (h : valueAt kvs k = none) : stored kvs k v = kvs ++ [(k, v)] := by
  have : kvs.any (fun kv => decide (kv.1 = k)) = false := by
    rw [List.any_eq_false]
    intro x hx hk
    unfold valueAt at h
    rw [Option.map_eq_none_iff, List.find?_eq_none] at h
    exact h x hx (by simpa using hk)
  unfold stored
  rw [this]; rfl
theorem valueAt_snoc {K : Type} [DecidableEq K] {kvs : List (K × Value)} {k : K} {v : Value} (h : valueAt kvs k = none) : valueAt (kvs ++ [(k, v)]) k = some v := by
  unfold valueAt at *
  rw [Option.map_eq_none_iff] at h
  rw [List.find?_append, h]
  simp
theorem valueAt_stored {K : Type} [DecidableEq K] {kvs : List (K × Value)} {k : K} {v : Value} (h : valueAt kvs k = none) : valueAt (stored kvs k v) k = some v := by rw [stored_absent h]; exact valueAt_snoc h
theorem valueAt_app {K : Type} [DecidableEq K] {kvs ys : List (K × Value)} {k : K} {v : Value} (h : valueAt kvs k = some v) : valueAt (kvs ++ ys) k = some v := by
  unfold valueAt at *
  rw [List.find?_append]
  cases e : kvs.find? (fun kv => kv.1 = k) with
  | none => rw [e] at h; cases h
  | some x => rw [e] at h; exact h
noncomputable def Bk.sorted (B : Bk) (nm : Str) (t1 : Tok) (wd : Int) (t2 : Tok) (o : Obj) : Bk :=
  { B with names := B.names.push (.str nm t1), widths := B.widths.push (.int wd t2), bv := o, e := fun i => if i = 2 then B.e 2 + 1 else if i = 3 then B.e 3 + 1 else B.e i }
theorem push_keep {a : Array Value} {v y : Value} {i : Nat} (h : a[i]? = some y) : (a.push v)[i]? = some y := by
  have hlt : i < a.size := by
    rcases Nat.lt_or_ge i a.size with q | q
    · exact q
    · rw [Array.getElem?_eq_none q] at h; cases h
  rw [Array.getElem?_push, if_neg (Nat.ne_of_lt hlt)]; exact h
theorem push_last {a : Array Value} {v : Value} {n : Nat} (h : a.size = n) : (a.push v)[n]? = some v := by rw [← h, Array.getElem?_push, if_pos rfl]
theorem bv_new {prog : Program} {w : World} {c : Nat} {B : Bk} {kvs : List (Int × Value)} {t3 : Tok} {wd : Int} {o : Obj} {z : Int} (ok : BvOK prog w c B kvs) (h : valueAt kvs wd = none)
    (hd : o.IsDictOf (intKind prog w) (stored kvs wd (.int z t3))) (hz : z = (B.names.size : Int)) (nm : Str) (t1 t2 : Tok) : BvOK prog w (c + 1) (B.sorted nm t1 wd t2 o) (stored kvs wd (.int (B.names.size : Int) t3)) := by
  subst hz
  have n1 := ok.n1
  have n2 := ok.n2
  have n3 := ok.n3
  refine ⟨hd, ?_, ?_, ?_, ?_, ?_⟩
  · show (B.names.push _).size = (B.widths.push _).size; rw [Array.size_push, Array.size_push, n1]
  · show (B.names.push _).size ≤ _; rw [Array.size_push]; (first | lia | omega)
  · show 3 ≤ (B.names.push _).size; rw [Array.size_push]; (first | lia | omega)
  · rw [stored_absent h, List.length_append]; have := ok.len; simp only [List.length_cons, List.length_nil]; (first | lia | omega)
  · intro x hx
    rw [stored_absent h] at hx
    rcases List.mem_append.mp hx with hx | hx
    · (refine Mine.ex3 (ok.vals x hx) fun j t t' om0 => Mine.an3 om0 fun a1 a2 a3 => ?_; clear om0)
      exact ⟨j, t, t', a1, a2, push_keep a3⟩
    · rw [List.mem_singleton.mp hx]
      exact ⟨B.names.size, t3, t2, rfl, n3, push_last n1.symm⟩
theorem BkOK.sorted {prog : Program} {w : World} {c : Nat} {B : Bk} {xs : List (BKey × Addr × Value)} {imms : List (Addr × Obj)} {nm : Str} {t1 t2 : Tok} {wd : Int} {o : Obj} (ok : BkOK prog w c B xs imms) : BkOK prog w c (B.sorted nm t1 wd t2 o) xs imms :=
  ⟨ok.mono, ok.apart, ok.lo, ok.lo2, ok.s1, ok.s2, ok.s3, ok.s4, ok.s5, ok.num, ok.keys, ok.vals, ok.len⟩
theorem BvOK.le {prog : Program} {w : World} {c d : Nat} {B : Bk} {kvs : List (Int × Value)} (ok : BvOK prog w c B kvs) (h : c ≤ d) : BvOK prog w d B kvs :=
  ⟨ok.bv, ok.n1, Nat.le_trans ok.n2 (by (first | lia | omega)), ok.n3, Nat.le_trans ok.len h, ok.vals⟩
theorem BvOK.grow {prog : Program} {w : World} {c : Nat} {B B' : Bk} {xs xs' : List (BKey × Addr × Value)} {imms imms' : List (Addr × Obj)} {kvs : List (Int × Value)} (ok : BvOK prog w c B kvs) (g : Grow B xs imms B' xs' imms') : BvOK prog w c B' kvs :=
  ⟨by rw [g.bv]; exact ok.bv, by rw [g.names, g.widths]; exact ok.n1, by rw [g.names]; exact ok.n2, by rw [g.names]; exact ok.n3, ok.len, by rw [g.widths]; exact ok.vals⟩
structure BvGrow (B : Bk) (kvs : List (Int × Value)) (B' : Bk) (kvs' : List (Int × Value)) : Prop where
  A : B'.A = B.A
  fnames : B'.fnames = B.fnames
  fargs : B'.fargs = B.fargs
  fres : B'.fres = B.fres
  ops : B'.ops = B.ops
  targs : B'.targs = B.targs
  sorts : B'.sorts = B.sorts
  datas : B'.datas = B.datas
  tn : B'.tn = B.tn
  fn : B'.fn = B.fn
  at' : ∀ k v, valueAt kvs k = some v → valueAt kvs' k = some v
  widths : ∀ (i : Nat) v, B.widths[i]? = some v → B'.widths[i]? = some v
noncomputable def SortRet (prog : Program) (w : World) (c : Nat) (B : Bk) (xs : List (BKey × Addr × Value)) (imms : List (Addr × Obj)) (kvs : List (Int × Value)) (wd : Int) (r : Value) (tl : List (Addr × Obj)) : Prop :=
  ∃ (j : Nat) (t t' : Tok) (B' : Bk) (kvs' : List (Int × Value)), r = .int j t ∧ tl = B'.led ++ imms ∧ BkOK prog w c B' xs imms ∧ BvOK prog w (c + 1) B' kvs' ∧ BvGrow B kvs B' kvs' ∧ valueAt kvs' wd = some (.int j t')
theorem sort_end {prog : Program} {w : World} {c : Nat} {B : Bk} {xs : List (BKey × Addr × Value)} {imms : List (Addr × Obj)} {kvs : List (Int × Value)} {nm : Str} {t1 t2 t3 t4 : Tok} {wd : Int} {o : Obj} {z : Int} (ok : BkOK prog w c B xs imms) (bv : BvOK prog w c B kvs) (hat : valueAt kvs wd = none)
    (hd : o.IsDictOf (intKind prog w) (stored kvs wd (.int z t3))) (hz : z = (B.names.size : Int)) : ConEnd (SortRet prog w c B xs imms kvs wd) (.int z t4) ((B.sorted nm t1 wd t2 o).led ++ imms) := by
  have h9 := bv_new bv hat hd hz nm t1 t2
  subst hz
  refine ends_of (Mine.ie5 _ _ _ (B.sorted nm t1 wd t2 o) _ ⟨rfl, rfl, ok.sorted, h9, ⟨rfl, rfl, rfl, rfl, rfl, rfl, rfl, rfl, rfl, rfl, fun k v h => ?_, fun i v h => push_keep h⟩, valueAt_stored hat⟩) (fun q hq => hq)
  rw [stored_absent hat]; exact valueAt_app h
end Mine
open PySem PySem.W PyProof.Rows PySem.Calls PySem.Spec Mine
namespace Mine
theorem kda_getItem {prog : Program} {w : World} {K : Type} [DecidableEq K] {knd : KeyKind prog w K} {A : Around} {E : Value → Shared → Prop} {s : Shared} {h₀ : Heap} {L d : Addr} {news : List (Addr × Obj)} {o : Obj} {kvs : List (K × Value)} {k : K} {key v : Value} {Q : Value → Shared → Prop}
    (N : News h₀ L s.heap news) (hp : (d, o) ∈ news) (hd : o.IsDictOf knd kvs) (hkey : knd.is k key = true) (hl : valueAt kvs k = some v) (h : Q v { s with toks := s.toks + 1 }) : wpAny (model prog w) A (getItem (.ref d) key) Q E s :=
  wpAny_getItem_of hkey (kda_dict N hp hd).mapOf hl h
end Mine
end
/- TR -/
section
open PySem PySem.W PyProof.Rows PySem.Calls PySem.Spec
namespace Mine
set_option maxRecDepth 100000
set_option maxHeartbeats 8000000
noncomputable def RawLed (es : List DictEntry) (nd : Nat) (a0 a1 a7 a8 a9 a10 a11 : Addr) (ops targs sorts datas : Array Value) (e7 e8 e9 e10 : Nat) (num : Obj) (W : List (Addr × Obj)) : List (Addr × Obj) :=
  (a1, instObj 705 a0) :: (a0, dictOf es nd) :: (a7, PySem.W.listOf ops e7) :: (a8, PySem.W.listOf targs e8) :: (a9, PySem.W.listOf sorts e9) :: (a10, PySem.W.listOf datas e10) :: (a11, num) :: W
inductive RawRet (prog : Program) (w : World) (es : List DictEntry) (nd : Nat) (a0 a1 a7 a8 a9 a10 a11 : Addr) (ops targs sorts datas : Array Value) (e7 e8 e9 e10 : Nat) (xs : List (BKey × Addr × Value)) (op : Str) (t1 : Tok) (ea : Addr) (sort : Int) (t2 : Tok) (p : Int × Option Int) (dv : Value) (W : List (Addr × Obj)) : Value → List (Addr × Obj) → Prop
  | mk {D : Addr} {num' : Obj} {t u : Tok} (hd : IsDictH prog w num' (storedH xs (op, sort, p) D (.int (ops.size : Int) u))) (hD : Below' D (a1 :: a0 :: a7 :: a8 :: a9 :: a10 :: a11 :: W.map (·.1))) :
    RawRet prog w es nd a0 a1 a7 a8 a9 a10 a11 ops targs sorts datas e7 e8 e9 e10 xs op t1 ea sort t2 p dv W (.int (ops.size : Int) t)
      ((D, tupO [.str op t1, .ref ea, .int sort t2, dv] 0) :: RawLed es nd a0 a1 a7 a8 a9 a10 a11 (ops.push (.str op t1)) (targs.push (.ref ea)) (sorts.push (.int sort t2)) (datas.push dv) (e7 + 1) (e8 + 1) (e9 + 1) (e10 + 1) num' W)
theorem make_raw {prog : Program} {w : World} {es : List DictEntry} {nd : Nat} {a0 a1 a7 a8 a9 a10 a11 : Addr} {ops targs sorts datas : Array Value} {e7 e8 e9 e10 : Nat} {num : Obj} {xs : List (BKey × Addr × Value)} {W : List (Addr × Obj)} {op : Str} {t1 t2 : Tok} {ea : Addr} {ne : Nat} {sort : Int} {p : Int × Option Int} {dv : Value}
    (g11 : getL (Str.ofString "numbers") es = some (some (.ref a11))) (g7 : getL (Str.ofString "term_ops") es = some (some (.ref a7))) (g8 : getL (Str.ofString "term_args") es = some (some (.ref a8))) (g9 : getL (Str.ofString "term_sorts") es = some (some (.ref a9))) (g10 : getL (Str.ofString "term_datas") es = some (some (.ref a10)))
    (hnum : IsDictH prog w num xs) (hkeys : ∀ x ∈ xs, KeyL W x.1 x.2.1) (lo : (a11 == sysModules) = false) (hxs : xs.length ≤ 1000) (z1 : targs.size = ops.size) (z2 : sorts.size = ops.size) (z3 : datas.size = ops.size) (z4 : ops.size ≤ 1000) (z5 : 1 ≤ ops.size)
    (m1 : @LT.lt Nat _ a0 a1) (m2 : @LT.lt Nat _ a1 a7) (m3 : @LT.lt Nat _ a7 a8) (m4 : @LT.lt Nat _ a8 a9) (m5 : @LT.lt Nat _ a9 a10) (m6 : @LT.lt Nat _ a10 a11)
    (w0 : ∀ q ∈ W, q.1 ≠ a0) (w1 : ∀ q ∈ W, q.1 ≠ a1) (w7 : ∀ q ∈ W, q.1 ≠ a7) (w8 : ∀ q ∈ W, q.1 ≠ a8) (w9 : ∀ q ∈ W, q.1 ≠ a9) (w10 : ∀ q ∈ W, q.1 ≠ a10) (w11 : ∀ q ∈ W, q.1 ≠ a11)
    (hop : PyData.strOk op = true) (hea : (ea, tupO [] ne) ∈ W) (hdv : DatL W p dv) (hat : atKey xs (op, sort, p) = none) :
    Runs prog w 2 319 [.ref a1, .str op t1, .ref ea, .int sort t2, dv] (RawLed es nd a0 a1 a7 a8 a9 a10 a11 ops targs sorts datas e7 e8 e9 e10 num W)
      (RawRet prog w es nd a0 a1 a7 a8 a9 a10 a11 ops targs sorts datas e7 e8 e9 e10 xs op t1 ea sort t2 p dv W) := by
  have n01 : Below' a1 [a0] := fun a ha => by cases ha with | head => exact m1 | tail _ h => cases h
  have n7 : Below' a7 [a1, a0] := fun a ha => by
    rcases List.mem_cons.mp ha with rfl | h
    · exact m2
    · exact Nat.lt_trans (n01 a h) m2
  have n8 : Below' a8 [a7, a1, a0] := fun a ha => by
    rcases List.mem_cons.mp ha with rfl | h
    · exact m3
    · exact Nat.lt_trans (n7 a h) m3
  have n9 : Below' a9 [a8, a7, a1, a0] := fun a ha => by
    rcases List.mem_cons.mp ha with rfl | h
    · exact m4
    · exact Nat.lt_trans (n8 a h) m4
  have n10 : Below' a10 [a9, a8, a7, a1, a0] := fun a ha => by
    rcases List.mem_cons.mp ha with rfl | h
    · exact m5
    · exact Nat.lt_trans (n9 a h) m5
  have n11 : Below' a11 [a10, a9, a8, a7, a1, a0] := fun a ha => by
    rcases List.mem_cons.mp ha with rfl | h
    · exact m6
    · exact Nat.lt_trans (n10 a h) m6
  unfold Runs
  intro mean mg mb dp un gd cn' cs a ccd cl outer A₀ base h₀ L m s Q E B' F X N T hk hd hu hret
  rcases s with ⟨hp0, gs0, dr0, tk0, os0⟩
  unfold RawLed at N hret
  dsimp only at F N hret
  k_with_none
  k_with "om" => first | (with_reducible first | assumption | exact Mine.r2 (by assumption) (by k_dflt exact rfl) | exact Mine.r0 (by assumption) | exact Mine.n2 (by assumption) (by k_dflt exact rfl) | exact Mine.v9 (by assumption) (by k_dflt exact rfl) | exact Int.natCast_nonneg _ | exact Int.le_refl _ | exact Nat.le_refl _ | (refine' Mine.ne_below ?kb8z18 ?km8z18; (case kb8z18 => with_reducible assumption); (case km8z18 => walk_at "key mem")) | (refine' Mine.ne_above ?kb8z18 ?km8z18; (case kb8z18 => with_reducible assumption); (case km8z18 => walk_at "key mem"))) | (first | lia | omega)
  k_with "rm" => first | ((try dsimp only [depth_under_make, depth_under_kw, depth_in1, depth_deeper, depth_caller, units_in1, units_deeper, Around.mark_units, units_caller, units_under_make, ktrTop]); walk_at "om") | ktr_room | ktr_units
  k_with "con_enter" => (refine' Mine.code_defQ ?k1z29 ?k2z29 ?k3z29 ?k4z29 ?k5z29 ?kAz29 ?kFz29 ?kKz29 ?k6z29 ?k7z29 ?k8z29 ?k9z29 ?kBz29 ?_ ?c2z29 ?c3z29 ?c4z29 ?c5z29; (case kAz29 => exact rfl); (case kFz29 => exact rfl); (case kKz29 => assumption); (case k1z29 => k_asm); (case k2z29 => k_asm); (case k3z29 => k_asm); (case k4z29 => k_asm); (case k5z29 => k_asm); (case k6z29 => k_is); (case k7z29 => k_is); (case k8z29 => walk_at "rm"); (case k9z29 => first | exact BindsTo.of_eq (binds := []) rfl | exact BindsTo.of_eq (binds := [(_, _)]) rfl | exact BindsTo.of_eq (binds := [(_, _), (_, _)]) rfl | exact BindsTo.of_eq (binds := [(_, _), (_, _), (_, _)]) rfl | exact BindsTo.of_eq (binds := [(_, _), (_, _), (_, _), (_, _)]) rfl | exact BindsTo.of_eq (binds := [(_, _), (_, _), (_, _), (_, _), (_, _)]) rfl | exact BindsTo.of_eq rfl); (case c5z29 => decide); (case kBz29 => exact locs rfl); (case c2z29 => exact rfl); (case c3z29 => exact rfl); (case c4z29 => exact rfl); k_whole; intro g' L' h' tk' FG' F' N' B' X' T' S' hL' qk ek)
  k_with "newTuple" => (k_here; k_dflt (refine' Mine.newTupleS ?Fz21 ?Nz21 ?ez21 ?zz21 ?_; (case Fz21 => k_asm); (case Nz21 => k_asm); (case ez21 => (dsimp only [List.map]; (try exact rfl))); (case zz21 => kmk_size)); intro D' h' l1 F' N'; (try k_sweep))
  k_with "LeaveK" => (k_dflt (refine' Mine.leave_con ?hrz24 ?hSz24 ?hFz24 ?hNz24 ?hqz24 ?_; (case hrz24 => assumption); (case hSz24 => assumption); (case hFz24 => k_asm); (case hNz24 => k_asm); (case hqz24 => exact rfl); k_whole))
  k_with "k_all" => assumption
  k_with "key mem" => with_reducible first | exact Mine.m0 | exact Mine.m1 | exact Mine.m2 | exact Mine.m3 | exact Mine.m4 | exact Mine.m5 | exact Mine.m6
  k_with "k_mem" => (k_whole; walk_at "key mem")
  k_with "k_ne" => ((refine neN ?_; (try dsimp only)); first | (refine' Mine.ne_below ?kb9z33 ?km9z33; (case kb9z33 => with_reducible assumption); (case km9z33 => walk_at "key mem")) | (refine' Mine.ne_above ?kb9z33 ?km9z33; (case kb9z33 => with_reducible assumption); (case km9z33 => walk_at "key mem")) | walk_at "ne find" | (first | lia | omega))
  k_with "k_all" => (refine' Mine.all_below ?kb9z30 ?km9z30; (case kb9z30 => with_reducible assumption); (case km9z30 => exact rfl))
  k_with "ne find" => first | with_reducible assumption | (refine Ne.symm ?_; with_reducible assumption) | (refine Nat.ne_of_lt ?_; with_reducible assumption) | (refine Nat.ne_of_gt ?_; with_reducible assumption) | ((with_reducible rename _ ∧ _ => hc9); have hc8 := hc9.1; have hc7 := hc9.2; clear hc9; walk_at "ne find")
  k_with "spliced" => (k_here; (refine PyProof.Rows.args_nil ?_); (try dsimp only [List.cons_append, List.nil_append]); (with_reducible show _ ∧ _))
  k_with "call builtin:list.append" => (k_here; (with_reducible show wpAny _ _ (call (Value.builtin _) [Value.ref _, _]) _ _ _); k_dflt (refine' append_K ?k1z154 ?k2z154 ?k3z154 ?_ ?zz154; (case k1z154 => k_asm); (case k2z154 => k_asm); (case k3z154 => k_upd); (case zz154 => first | (rw [Mine.strValues_size, sizeLine_eq]; walk_at "om") | k_extra "room"); k_whole); intro h' F' N'; (try rw [Mine.strValues_push] at N'); (try k_sweep))
  k_with "call builtin:dict.get" => (k_here; (with_reducible show wpAny _ _ (call (Value.builtin _) [Value.ref _, Value.ref _, Value.int _ _]) _ _ _); k_dflt (refine' Mine.num_get ?Nz6 ?pz6 ?dz6 ?xz6 ?kz6 ?loz6 ?uz6 ?vz6 ?_; (case Nz6 => k_asm); (case pz6 => k_mem); (case dz6 => k_extra "num dict"); (case xz6 => k_extra "num keys"); (case kz6 => k_extra "num key"); (case loz6 => assumption); (case uz6 => k_extra "num units"); (case vz6 => k_extra "num value")); intro tk')
  k_with "setItem ref ref" => (k_here; (with_reducible show wpAny _ _ (setItem (Value.ref _) (Value.ref _) (Value.int _ _)) _ _ _); k_dflt (refine' Mine.num_set ?Fz7 ?Nz7 ?Uz7 ?dz7 ?xz7 ?kz7 ?uz7 ?zz7 ?_; (case Fz7 => k_asm); (case Nz7 => k_asm); (case Uz7 => k_updF); (case dz7 => k_extra "num dict"); (case xz7 => k_extra "num keys"); (case kz7 => k_extra "num key"); (case uz7 => k_extra "num units"); (case zz7 => walk_at "om")); intro h' o' tk' F' N' hD'; (try dsimp only at N'))
  k_with "getMethod ref" => (k_here; (with_reducible show wpAny _ _ (getMethod (Value.ref _) (Str.ofString "get") _) _ _ _); k_dflt (refine' Mine.num_method ?Nz8 ?pz8 ?dz8 ?_; (case Nz8 => k_asm); (case pz8 => k_mem); (case dz8 => k_extra "num dict")))
  k_with "call builtin:len" => (k_here; (with_reducible show wpAny _ _ (call (Value.builtin "len") [Value.ref _]) _ _ _); k_dflt (refine' PyProof.Rows.len_list (News.isList ?Nz9 ?pz9) ?zz9 ?_; (case Nz9 => k_asm); (case pz9 => k_mem); (case zz9 => k_extra "len list")))
  k_with "k_mem" => assumption
  k_with "getAttr ref" => (k_here; k_dflt (refine' get_own ?k1 ?k2 ?k3 ?k4 ?k5 ?k6 ?k7 ?k8 ?k9 ?_; (case k1 => k_asm); (case k2 => k_asm); (case k3 => k_inst); (case k4 => k_is); (case k5 => k_is); (case k6 => k_is); (case k7 => k_is); (case k8 => with_reducible assumption); (case k9 => k_handed); k_whole))
  k_with "num dict" => assumption
  k_with "num keys" => exact fun x hx => (hkeys x hx).mono (fun q hq => by repeat (first | exact hq | refine List.mem_cons_of_mem _ ?_))
  k_with "num key" => (show KeyL _ (op, sort, p) _; exact ⟨hop, 0, t1, ea, ne, t2, dv, List.Mem.head _, (by repeat (first | exact hea | refine List.mem_cons_of_mem _ ?_)), hdv.mono (fun q hq => by repeat (first | exact hq | refine List.mem_cons_of_mem _ ?_))⟩)
  k_with "num units" => walk_at "rm"
  k_with "len list" => walk_at "om"
  k_with "room" => (rw [sizeLine_eq]; walk_at "om")
  k_with "num value" => exact get_none hat
  refine wpAny_call ?_
  k_dflt (k_extra "con_enter")
  k_steps
  all_goals exact ends_of (.mk (by assumption) (by assumption)) (fun _ h => h)
theorem raw_use {prog : Program} {w : World} {n : Nat} {f : Addr} {vs : List Value} {foot news : List (Addr × Obj)} {es : List DictEntry} {nd : Nat} {a0 a1 a7 a8 a9 a10 a11 : Addr} {ops targs sorts datas : Array Value} {e7 e8 e9 e10 : Nat} {xs : List (BKey × Addr × Value)} {op : Str} {t1 : Tok} {ea : Addr} {sort : Int} {t2 : Tok} {p : Int × Option Int} {dv : Value} {W : List (Addr × Obj)} (C : Runs prog w n f vs foot (RawRet prog w es nd a0 a1 a7 a8 a9 a10 a11 ops targs sorts datas e7 e8 e9 e10 xs op t1 ea sort t2 p dv W))
    {mean : ExcName → Option Value} {mg mb : Str → Option Value} {dp un : Nat} {gd : Option (List Code)} {cn : Str} {cs : Scope} {a : Addr} {ccd : Value} {cl : List (Str × Addr)} {outer : List Env} {A₀ : Around} {base h₀ : Heap} {L : Addr} {m : Str → Option Value} {hp0 : Heap} {gs0 : Array GenState} {dr0 : Drawn} {tk0 : Nat} {os0 : OsState}
    {Q E : Value → Shared → Prop} (B : Below A₀ base outer h₀) (F : Fr h₀ L hp0 m) (X : (Mine.heap w.params).In h₀) (N : News h₀ L hp0 news)
    (T : Top Mine.view (looseW Mine.view Mine.loose) mean mg mb h₀) (hk : cs.kind = .function)
    (hd : dp + n < recursionLimit) (hu : un + 8 * n < cLine) (hf : ∀ p ∈ foot, p ∈ news)
    (ret : ∀ (D : Addr) (num' : Obj) (t u : Tok) (h' : Heap) (tk' : Nat), IsDictH prog w num' (storedH xs (op, sort, p) D (.int (ops.size : Int) u)) → Below' D (a1 :: a0 :: a7 :: a8 :: a9 :: a10 :: a11 :: W.map (·.1)) → Fr h₀ L h' m →
      News h₀ L h' ((D, tupO [.str op t1, .ref ea, .int sort t2, dv] 0) :: (a1, instObj 705 a0) :: (a0, dictOf es nd) :: (a7, PySem.W.listOf (ops.push (.str op t1)) (e7 + 1)) :: (a8, PySem.W.listOf (targs.push (.ref ea)) (e8 + 1)) :: (a9, PySem.W.listOf (sorts.push (.int sort t2)) (e9 + 1)) :: (a10, PySem.W.listOf (datas.push dv) (e10 + 1)) :: (a11, num') :: W) → Q (.int (ops.size : Int) t) ⟨h', gs0, dr0, tk', os0⟩) :
    wpAny (model prog w) (ktrTop dp un gd cn cs L a ccd cl outer) (call (.ref f) vs) Q E ⟨hp0, gs0, dr0, tk0, os0⟩ :=
  C.useR (other := []) B F X N T hk hd hu hf (List.forall_mem_nil _) (fun r tl h' tk' F' N' _ R => by
    cases R with
    | mk a b => exact ret _ _ _ _ h' tk' a b F' (fun p hp => N' p (List.mem_append_left _ hp)))
theorem Runs.conv {prog : Program} {w : World} {n : Nat} {f : Addr} {vs : List Value} {foot foot' : List (Addr × Obj)} {Ret Ret' : Value → List (Addr × Obj) → Prop} (C : Runs prog w n f vs foot Ret) (hf : ∀ p ∈ foot, p ∈ foot') (hr : ∀ r tl, Ret r tl → ∃ tl', Ret' r tl' ∧ ∀ p ∈ tl', p ∈ tl) : Runs prog w n f vs foot' Ret' :=
  fun _ _ _ _ _ _ _ _ _ _ _ _ _ _ _ _ _ _ _ _ B F X N T hk hd hu ret => C _ _ _ _ _ _ _ _ _ _ _ _ _ _ _ _ _ _ _ _ B F X (fun p hp => N p (hf p hp)) T hk hd hu fun r tl h' tk' F' N' S' R' => by
    (refine Mine.ex1 (hr r tl R') fun tl' om0 => Mine.an2 om0 fun R2 sub => ?_; clear om0)
    exact ret r tl' h' tk' F' (fun p hp => N' p (sub p hp)) (fun b o e n => ⟨(S' b o e fun p hp => n p (hf p hp)).1, fun p hp => (S' b o e fun p hp => n p (hf p hp)).2 p (sub p hp)⟩) R2
noncomputable def Bk.ents (B : Bk) : List DictEntry := [⟨B.hs 0, .str (Str.ofString "sort_names") (B.ks 0), .ref (B.A 2)⟩, ⟨B.hs 1, .str (Str.ofString "sort_widths") (B.ks 1), .ref (B.A 3)⟩, ⟨B.hs 2, .str (Str.ofString "fun_names") (B.ks 2), .ref (B.A 4)⟩,
     ⟨B.hs 3, .str (Str.ofString "fun_args") (B.ks 3), .ref (B.A 5)⟩, ⟨B.hs 4, .str (Str.ofString "fun_results") (B.ks 4), .ref (B.A 6)⟩, ⟨B.hs 5, .str (Str.ofString "fresh_count") (B.ks 5), B.fr⟩,
     ⟨B.hs 6, .str (Str.ofString "term_ops") (B.ks 6), .ref (B.A 7)⟩, ⟨B.hs 7, .str (Str.ofString "term_args") (B.ks 7), .ref (B.A 8)⟩, ⟨B.hs 8, .str (Str.ofString "term_sorts") (B.ks 8), .ref (B.A 9)⟩,
     ⟨B.hs 9, .str (Str.ofString "term_datas") (B.ks 9), .ref (B.A 10)⟩, ⟨B.hs 10, .str (Str.ofString "numbers") (B.ks 10), .ref (B.A 11)⟩, ⟨B.hs 11, .str (Str.ofString "true_number") (B.ks 11), B.tn⟩,
     ⟨B.hs 12, .str (Str.ofString "false_number") (B.ks 12), B.fn⟩, ⟨B.hs 13, .str (Str.ofString "bv_numbers") (B.ks 13), .ref (B.A 12)⟩]
noncomputable def Bk.rest (B : Bk) (imms : List (Addr × Obj)) : List (Addr × Obj) := (B.A 2, PySem.W.listOf B.names (B.e 2)) :: (B.A 3, PySem.W.listOf B.widths (B.e 3)) :: (B.A 4, PySem.W.listOf B.fnames (B.e 4)) :: (B.A 5, PySem.W.listOf B.fargs (B.e 5)) :: (B.A 6, PySem.W.listOf B.fres (B.e 6)) :: (B.A 12, B.bv) :: imms
theorem rest_ne {B : Bk} {imms : List (Addr × Obj)} (mono : ∀ i j, i < j → j < 13 → B.A i < B.A j) (apart : ∀ p ∈ imms, ∀ i, i < 13 → p.1 ≠ B.A i) {i : Nat} (hi : i < 13) (h2 : i ≠ 2) (h3 : i ≠ 3) (h4 : i ≠ 4) (h5 : i ≠ 5) (h6 : i ≠ 6) (h7 : i ≠ 12) : ∀ q ∈ B.rest imms, q.1 ≠ B.A i := by
  have key : ∀ j, j < 13 → i ≠ j → B.A j ≠ B.A i := fun j hj ne => by
    rcases Nat.lt_or_gt_of_ne ne with h | h
    · exact Nat.ne_of_gt (mono _ _ h hj)
    · exact Nat.ne_of_lt (mono _ _ h hi)
  unfold Bk.rest
  exact List.forall_mem_cons.mpr ⟨key 2 (by decide) h2, List.forall_mem_cons.mpr ⟨key 3 (by decide) h3, List.forall_mem_cons.mpr ⟨key 4 (by decide) h4, List.forall_mem_cons.mpr ⟨key 5 (by decide) h5, List.forall_mem_cons.mpr ⟨key 6 (by decide) h6, List.forall_mem_cons.mpr ⟨key 12 (by decide) h7, fun q hq => apart q hq i hi⟩⟩⟩⟩⟩⟩
theorem raw_keys {B : Bk} {imms : List (Addr × Obj)} {x : BKey × Addr × Value} (h : KeyL imms x.1 x.2.1) : KeyL (B.rest imms) x.1 x.2.1 := h.mono fun q hq => .tail _ (.tail _ (.tail _ (.tail _ (.tail _ (.tail _ hq)))))
end Mine
end
/- T7 -/
section
open PySem PySem.W PyProof.Rows PySem.Calls PySem.Spec
namespace Mine
set_option maxRecDepth 100000
set_option maxHeartbeats 8000000 

theorem dic_added (B : Bk) (op : Str) (t1 : Tok) (ea : Addr) (sort : Int) (t2 : Tok) (dv : Value) (o : Obj) : (B.added op t1 ea sort t2 dv o).dic = B.dic := rfl
theorem make_runs {prog : Program} {w : World} {c : Nat} {B : Bk} {xs : List (BKey × Addr × Value)} {imms : List (Addr × Obj)} {op : Str} {t1 t2 : Tok} {ea : Addr} {ne : Nat} {sort : Int} {p : Int × Option Int} {dv : Value}
    (ok : BkOK prog w c B xs imms) (hc : c ≤ 1000) (hop : PyData.strOk op = true) (hea : (ea, tupO [] ne) ∈ imms) (hdv : DatL imms p dv) :
    Runs prog w 2 319 [.ref (B.A 1), .str op t1, .ref ea, .int sort t2, dv] (B.led ++ imms)
      (MakeRet prog w c B xs imms (op, sort, p)) := by
  have mono := ok.mono
  have apart := ok.apart
  have lo := ok.lo
  have z1 := ok.s1
  have z2 := ok.s2
  have z3 := ok.s3
  have z4 := ok.s4
  have z5 := ok.len
  cases hat : atKey xs (op, sort, p) with
  | none =>
    refine (make_raw (es := B.ents) (nd := B.nd) (a0 := B.A 0) (a1 := B.A 1) (a7 := B.A 7) (a8 := B.A 8) (a9 := B.A 9) (a10 := B.A 10) (a11 := B.A 11) (ops := B.ops) (targs := B.targs) (sorts := B.sorts) (datas := B.datas) (e7 := B.e 7) (e8 := B.e 8) (e9 := B.e 9) (e10 := B.e 10) (num := B.num) (xs := xs) (W := B.rest imms)
      (by rfl) (by rfl) (by rfl) (by rfl) (by rfl) ok.num (fun x hx => raw_keys (ok.keys x hx)) lo (Nat.le_trans z5 hc) z1 z2 z3 (Nat.le_trans z4 hc) ok.s5 (mono _ _ (by decide) (by decide)) (mono _ _ (by decide) (by decide)) (mono _ _ (by decide) (by decide)) (mono _ _ (by decide) (by decide)) (mono _ _ (by decide) (by decide)) (mono _ _ (by decide) (by decide))
      (rest_ne mono apart (by decide) (by decide) (by decide) (by decide) (by decide) (by decide) (by decide)) (rest_ne mono apart (by decide) (by decide) (by decide) (by decide) (by decide) (by decide) (by decide)) (rest_ne mono apart (by decide) (by decide) (by decide) (by decide) (by decide) (by decide) (by decide)) (rest_ne mono apart (by decide) (by decide) (by decide) (by decide) (by decide) (by decide) (by decide)) (rest_ne mono apart (by decide) (by decide) (by decide) (by decide) (by decide) (by decide) (by decide)) (rest_ne mono apart (by decide) (by decide) (by decide) (by decide) (by decide) (by decide) (by decide)) (rest_ne mono apart (by decide) (by decide) (by decide) (by decide) (by decide) (by decide) (by decide))
      hop (.tail _ (.tail _ (.tail _ (.tail _ (.tail _ (.tail _ hea)))))) (hdv.mono fun q hq => .tail _ (.tail _ (.tail _ (.tail _ (.tail _ (.tail _ hq)))))) hat).conv ?_ ?_
    · unfold RawLed Bk.rest
      exact List.forall_mem_cons.mpr ⟨m0, List.forall_mem_cons.mpr ⟨m1, List.forall_mem_cons.mpr ⟨m7, List.forall_mem_cons.mpr ⟨m8, List.forall_mem_cons.mpr ⟨m9, List.forall_mem_cons.mpr ⟨m10, List.forall_mem_cons.mpr ⟨m11, List.forall_mem_cons.mpr ⟨m2, List.forall_mem_cons.mpr ⟨m3, List.forall_mem_cons.mpr ⟨m4, List.forall_mem_cons.mpr ⟨m5, List.forall_mem_cons.mpr ⟨m6, List.forall_mem_cons.mpr ⟨m12, fun q hq => List.mem_append_right _ hq⟩⟩⟩⟩⟩⟩⟩⟩⟩⟩⟩⟩⟩
    · intro r tl R
      cases R with
      | mk hDict hD =>
        unfold Bk.rest at hD
        (refine Mine.ex1 (make_new (t1 := t1) (t2 := t2) ok hop hea hdv hat (hd := hDict) (lt13 (hD _ m1) (hD _ m0) (hD _ m7) (hD _ m8) (hD _ m9) (hD _ m10) (hD _ m11) (hD _ m2) (hD _ m3) (hD _ m4) (hD _ m5) (hD _ m6) (hD _ m12))) fun xs' om0 => Mine.an3 om0 fun h1 h2 h3 => ?_; clear om0)
        refine ⟨_, Mine.ie7 _ _ _ _ xs' _ _ ⟨rfl, rfl, h1, h2, h3⟩, ?_⟩
        unfold RawLed Bk.rest
        dsimp only [Bk.led, dic_added, Bk.added, List.cons_append, List.nil_append]
        exact List.forall_mem_cons.mpr ⟨m1, List.forall_mem_cons.mpr ⟨m2, List.forall_mem_cons.mpr ⟨m8, List.forall_mem_cons.mpr ⟨m9, List.forall_mem_cons.mpr ⟨m10, List.forall_mem_cons.mpr ⟨m11, List.forall_mem_cons.mpr ⟨m12, List.forall_mem_cons.mpr ⟨m3, List.forall_mem_cons.mpr ⟨m4, List.forall_mem_cons.mpr ⟨m5, List.forall_mem_cons.mpr ⟨m6, List.forall_mem_cons.mpr ⟨m7, List.forall_mem_cons.mpr ⟨m13, List.forall_mem_cons.mpr ⟨m0, fun q hq => .tail _ (.tail _ (.tail _ (.tail _ (.tail _ (.tail _ (.tail _ (.tail _ (.tail _ (.tail _ (.tail _ (.tail _ (.tail _ (.tail _ hq)))))))))))))⟩⟩⟩⟩⟩⟩⟩⟩⟩⟩⟩⟩⟩⟩
  | some q =>
    obtain ⟨a', v'⟩ := q
    (refine Mine.ex7 (ok.vals _ (atKey_mem hat)) fun i t u1 u2 e ne' dv' om0 => Mine.an8 om0 fun h1 h2 h3 h4 h5 h6 h7 h8 => ?_; clear om0)
    simp only at h1
    subst h1
    unfold Runs
    intro mean mg mb dp un gd cn' cs a ccd cl outer A₀ base h₀ L m s Q E B' F X N T hk hd hu hret
    rcases s with ⟨hp0, gs0, dr0, tk0, os0⟩
    dsimp only at F N hret
    simp only [Bk.led, List.cons_append, List.nil_append] at N hret
    k_with_none
    k_with "om" => first | (with_reducible first | assumption | exact Mine.r2 (by assumption) (by k_dflt exact rfl) | exact Mine.r0 (by assumption) | exact Mine.n5 (by assumption) (by assumption) (by k_dflt exact rfl) | exact Int.natCast_nonneg _ | exact Int.le_refl _ | exact Nat.le_refl _ | (refine' Mine.ne_above ?kb8z18 ?km8z18; (case kb8z18 => with_reducible assumption); (case km8z18 => walk_at "key mem"))) | (first | lia | omega)
    k_with "rm" => first | ((try dsimp only [depth_under_make, depth_under_kw, depth_in1, depth_deeper, depth_caller, units_in1, units_deeper, Around.mark_units, units_caller, units_under_make, ktrTop]); walk_at "om") | ktr_room | ktr_units
    k_with "con_enter" => (refine' Mine.code_defQ ?k1z29 ?k2z29 ?k3z29 ?k4z29 ?k5z29 ?kAz29 ?kFz29 ?kKz29 ?k6z29 ?k7z29 ?k8z29 ?k9z29 ?kBz29 ?_ ?c2z29 ?c3z29 ?c4z29 ?c5z29; (case kAz29 => exact rfl); (case kFz29 => exact rfl); (case kKz29 => assumption); (case k1z29 => k_asm); (case k2z29 => k_asm); (case k3z29 => k_asm); (case k4z29 => k_asm); (case k5z29 => k_asm); (case k6z29 => k_is); (case k7z29 => k_is); (case k8z29 => walk_at "rm"); (case k9z29 => first | exact BindsTo.of_eq (binds := []) rfl | exact BindsTo.of_eq (binds := [(_, _)]) rfl | exact BindsTo.of_eq (binds := [(_, _), (_, _)]) rfl | exact BindsTo.of_eq (binds := [(_, _), (_, _), (_, _)]) rfl | exact BindsTo.of_eq (binds := [(_, _), (_, _), (_, _), (_, _)]) rfl | exact BindsTo.of_eq (binds := [(_, _), (_, _), (_, _), (_, _), (_, _)]) rfl | exact BindsTo.of_eq rfl); (case c5z29 => decide); (case kBz29 => exact locs rfl); (case c2z29 => exact rfl); (case c3z29 => exact rfl); (case c4z29 => exact rfl); k_whole; intro g' L' h' tk' FG' F' N' B' X' T' S' hL' qk ek)
    k_with "newTuple" => (k_here; k_dflt (refine' Mine.newTupleS ?Fz21 ?Nz21 ?ez21 ?zz21 ?_; (case Fz21 => k_asm); (case Nz21 => k_asm); (case ez21 => (dsimp only [List.map]; (try exact rfl))); (case zz21 => kmk_size)); intro D' h' l1 F' N'; (try k_sweep))
    k_with "LeaveK" => (k_dflt (refine' Mine.leave_con ?hrz24 ?hSz24 ?hFz24 ?hNz24 ?hqz24 ?_; (case hrz24 => assumption); (case hSz24 => assumption); (case hFz24 => k_asm); (case hNz24 => k_asm); (case hqz24 => exact rfl); k_whole))
    k_with "k_all" => assumption
    k_with "key mem" => with_reducible first | exact Mine.m0 | exact Mine.m1 | exact Mine.m2 | exact Mine.m3 | exact Mine.m4 | exact Mine.m5 | exact Mine.m6 | exact Mine.m7 | exact Mine.m8 | exact Mine.m9 | exact Mine.m10 | exact Mine.m11 | exact Mine.m12 | exact Mine.m13
    k_with "k_mem" => (k_whole; walk_at "key mem")
    k_with "k_ne" => ((refine neN ?_; (try dsimp only)); first | (refine' Mine.ne_below ?kb9z33 ?km9z33; (case kb9z33 => with_reducible assumption); (case km9z33 => walk_at "key mem")) | (refine' Mine.ne_above ?kb9z33 ?km9z33; (case kb9z33 => with_reducible assumption); (case km9z33 => walk_at "key mem")) | walk_at "ne find" | (first | lia | omega))
    k_with "k_all" => (refine' Mine.all_below ?kb9z30 ?km9z30; (case kb9z30 => with_reducible assumption); (case km9z30 => exact rfl))
    k_with "ne find" => first | with_reducible assumption | (refine Ne.symm ?_; with_reducible assumption) | (refine Nat.ne_of_lt ?_; with_reducible assumption) | (refine Nat.ne_of_gt ?_; with_reducible assumption) | ((with_reducible rename _ ∧ _ => hc9); have hc8 := hc9.1; have hc7 := hc9.2; clear hc9; walk_at "ne find")
    k_with "spliced" => (k_here; (refine PyProof.Rows.args_nil ?_); (try dsimp only [List.cons_append, List.nil_append]); (with_reducible show _ ∧ _))
    k_with "call builtin:list.append" => (k_here; (with_reducible show wpAny _ _ (call (Value.builtin _) [Value.ref _, _]) _ _ _); k_dflt (refine' append_K ?k1z154 ?k2z154 ?k3z154 ?_ ?zz154; (case k1z154 => k_asm); (case k2z154 => k_asm); (case k3z154 => k_upd); (case zz154 => first | (rw [Mine.strValues_size, sizeLine_eq]; walk_at "om") | k_extra "room"); k_whole); intro h' F' N'; (try rw [Mine.strValues_push] at N'); (try k_sweep))
    k_with "k_ne" => (refine neN ?_; (try dsimp only); first | exact mono_ne (by assumption) (by decide) (by decide) | exact mono_ne' (by assumption) (by decide) (by decide) | assumption | exact Ne.symm (by assumption))
    k_with "k_all" => exact apart1 (by assumption) _ (by decide)
    k_with "call builtin:dict.get" => (k_here; (with_reducible show wpAny _ _ (call (Value.builtin _) [Value.ref _, Value.ref _, Value.int _ _]) _ _ _); k_dflt (refine' Mine.num_get ?Nz6 ?pz6 ?dz6 ?xz6 ?kz6 ?loz6 ?uz6 ?vz6 ?_; (case Nz6 => k_asm); (case pz6 => k_mem); (case dz6 => k_extra "num dict"); (case xz6 => k_extra "num keys"); (case kz6 => k_extra "num key"); (case loz6 => assumption); (case uz6 => k_extra "num units"); (case vz6 => k_extra "num value")); intro tk')
    k_with "setItem ref ref" => (k_here; (with_reducible show wpAny _ _ (setItem (Value.ref _) (Value.ref _) (Value.int _ _)) _ _ _); k_dflt (refine' Mine.num_set ?Fz7 ?Nz7 ?Uz7 ?dz7 ?xz7 ?kz7 ?uz7 ?zz7 ?_; (case Fz7 => k_asm); (case Nz7 => k_asm); (case Uz7 => k_updF); (case dz7 => k_extra "num dict"); (case xz7 => k_extra "num keys"); (case kz7 => k_extra "num key"); (case uz7 => k_extra "num units"); (case zz7 => walk_at "om")); intro h' o' tk' F' N' hD'; (try dsimp only at N'))
    k_with "getMethod ref" => (k_here; (with_reducible show wpAny _ _ (getMethod (Value.ref _) (Str.ofString "get") _) _ _ _); k_dflt (refine' Mine.num_method ?Nz8 ?pz8 ?dz8 ?_; (case Nz8 => k_asm); (case pz8 => k_mem); (case dz8 => k_extra "num dict")))
    k_with "call builtin:len" => (k_here; (with_reducible show wpAny _ _ (call (Value.builtin "len") [Value.ref _]) _ _ _); k_dflt (refine' PyProof.Rows.len_list (News.isList ?Nz9 ?pz9) ?zz9 ?_; (case Nz9 => k_asm); (case pz9 => k_mem); (case zz9 => k_extra "len list")))
    k_with "k_mem" => assumption
    k_with "num dict" => exact ok.num
    k_with "num keys" => exact fun x hx => (ok.keys x hx).mono (fun q hq => by repeat (first | exact hq | refine List.mem_cons_of_mem _ ?_))
    k_with "num key" => (show KeyL _ (op, sort, p) _; exact ⟨hop, 0, t1, ea, ne, t2, dv, List.Mem.head _, (by repeat (first | exact hea | refine List.mem_cons_of_mem _ ?_)), hdv.mono (fun q hq => by repeat (first | exact hq | refine List.mem_cons_of_mem _ ?_))⟩)
    k_with "num units" => walk_at "rm"
    k_with "len list" => walk_at "om"
    k_with "room" => (rw [sizeLine_eq]; walk_at "om")
    k_with "num value" => exact get_some hat
    refine wpAny_call ?_
    k_dflt (k_extra "con_enter")
    k_steps
    all_goals first | (exfalso; walk_at "om") | exact ends_of (Mine.ie7 i _ _ B xs imms _ ⟨rfl, rfl, ok.le (Nat.le_succ _), Grow.refl _ _ _, hat⟩) (fun q hq => .tail _ hq)
end Mine
open PySem PySem.W PyProof.Rows PySem.Calls PySem.Spec Mine
end
/- T8 -/
section
open PySem PySem.W PyProof.Rows PySem.Calls PySem.Spec
namespace Mine
set_option maxRecDepth 100000
set_option maxHeartbeats 8000000 

theorem shift_small {prog : Program} {w : World} {A : Around} {E : Value → Shared → Prop} {s : Shared} {a : Int} {t u : Tok} {Q : Value → Shared → Prop} (h0 : 0 ≤ a) (hs : Small 65536 a) (h : ∀ t' k, Q (.int 0 t') { s with toks := k }) :
    wpAny (model prog w) A (binaryOp .RShift (.int a t) (.int 65536 u)) Q E s := by
  refine rshift_int (by decide) ?_
  have e : a.fdiv (2 ^ (65536 : Int).toNat) = 0 := by
    (refine Mine.ex1 (Int.eq_ofNat_of_zero_le h0) fun n oq1 => ?_; subst oq1)
    have h1 : n < 2 ^ 65536 := hs
    have e1 : (2 : Int) ^ (65536 : Int).toNat = ((2 ^ 65536 : Nat) : Int) := (Int.natCast_pow 2 65536).symm
    rw [e1]
    refine (Int.ofNat_fdiv n (2 ^ 65536)).symm.trans ?_
    rw [Nat.div_eq_of_lt h1]; rfl
  rw [e]
  exact h _ _

theorem num_runs {prog : Program} {w : World} {c : Nat} {B : Bk} {xs : List (BKey × Addr × Value)} {imms : List (Addr × Obj)} {r : Bool} {top bottom : Int} {t u ts : Tok} {v : Addr}
    (ok : BkOK prog w c B xs imms) (hc : c ≤ 1000) (g : GoodNum r top bottom) (hv : (v, pairObj top bottom t u) ∈ imms) :
    Runs prog w 4 513 [.ref (B.A 1), .ref v, .int (if r then 2 else 1) ts] (B.led ++ imms)
      (MakeRet prog w c B xs imms (Str.ofString "num", (if r then 2 else 1), top, some bottom)) := by
  cases r
  case' false =>
    have hb := g.int rfl
    subst hb
    show Runs prog w 4 513 [.ref (B.A 1), .ref v, .int 1 ts] (B.led ++ imms) (MakeRet prog w c B xs imms (Str.ofString "num", 1, top, some 1))
  case' true => show Runs prog w 4 513 [.ref (B.A 1), .ref v, .int 2 ts] (B.led ++ imms) (MakeRet prog w c B xs imms (Str.ofString "num", 2, top, some bottom))
  all_goals (
    have mono := ok.mono
    have apart := ok.apart
    have lo := ok.lo
    have gp := g.pos
    have gs := small_abs g.small
    have gb := g.smallb
    unfold Runs
    intro mean mg mb dp un gd cn' cs a ccd cl outer A₀ base h₀ L m s Q E B' F X N T hk hd hu hret
    rcases s with ⟨hp0, gs0, dr0, tk0, os0⟩
    dsimp only [Bk.led, List.cons_append, List.nil_append] at F N hret
    k_with_none
    k_with "om" => first | (with_reducible first | assumption | exact Mine.r1 (by assumption) (by k_dflt exact rfl) | exact Mine.r2 (by assumption) (by k_dflt exact rfl) | exact Mine.r0 (by assumption) | exact Int.natCast_nonneg _ | exact Mine.i9 (by assumption) | exact Int.le_refl _ | exact Nat.le_refl _) | (first | lia | omega)
    k_with "rm" => first | ((try dsimp only [depth_under_make, depth_under_kw, depth_in1, depth_deeper, depth_caller, units_in1, units_deeper, Around.mark_units, units_caller, units_under_make, ktrTop]); walk_at "om") | ktr_room | ktr_units
    k_with "con_enter" => (refine' Mine.code_defQ ?k1z29 ?k2z29 ?k3z29 ?k4z29 ?k5z29 ?kAz29 ?kFz29 ?kKz29 ?k6z29 ?k7z29 ?k8z29 ?k9z29 ?kBz29 ?_ ?c2z29 ?c3z29 ?c4z29 ?c5z29; (case kAz29 => exact rfl); (case kFz29 => exact rfl); (case kKz29 => assumption); (case k1z29 => k_asm); (case k2z29 => k_asm); (case k3z29 => k_asm); (case k4z29 => k_asm); (case k5z29 => k_asm); (case k6z29 => k_is); (case k7z29 => k_is); (case k8z29 => walk_at "rm"); (case k9z29 => first | exact BindsTo.of_eq (binds := []) rfl | exact BindsTo.of_eq (binds := [(_, _)]) rfl | exact BindsTo.of_eq (binds := [(_, _), (_, _)]) rfl | exact BindsTo.of_eq (binds := [(_, _), (_, _), (_, _)]) rfl | exact BindsTo.of_eq (binds := [(_, _), (_, _), (_, _), (_, _)]) rfl | exact BindsTo.of_eq (binds := [(_, _), (_, _), (_, _), (_, _), (_, _)]) rfl | exact BindsTo.of_eq rfl); (case c5z29 => decide); (case kBz29 => exact locs rfl); (case c2z29 => exact rfl); (case c3z29 => exact rfl); (case c4z29 => exact rfl); k_whole; intro g' L' h' tk' FG' F' N' B' X' T' S' hL' qk ek)
    k_with "k_enter" => k_dflt (refine' Mine.code_defEQ ?k1z31 ?k2z31 ?k3z31 ?k4z31 ?k5z31 ?kAz31 ?kFz31 ?kKz31 ?k6z31 ?k7z31 ?k8z31 ?k9z31 ?kBz31 ?_ ?c2z31 ?c3z31 ?c4z31 ?c5z31; (case kAz31 => exact rfl); (case kFz31 => exact rfl); (case kKz31 => first | exact rfl | assumption); (case k1z31 => k_asm); (case k2z31 => k_asm); (case k3z31 => k_asm); (case k4z31 => k_asm); (case k5z31 => k_asm); (case k6z31 => k_is); (case k7z31 => k_is); (case k8z31 => walk_at "rm"); (case k9z31 => first | exact BindsTo.of_eq (binds := []) rfl | exact BindsTo.of_eq (binds := [(_, _)]) rfl | exact BindsTo.of_eq (binds := [(_, _), (_, _)]) rfl | exact BindsTo.of_eq (binds := [(_, _), (_, _), (_, _)]) rfl | exact BindsTo.of_eq (binds := [(_, _), (_, _), (_, _), (_, _)]) rfl | exact BindsTo.of_eq (binds := [(_, _), (_, _), (_, _), (_, _), (_, _)]) rfl | exact BindsTo.of_eq rfl); (case c5z31 => decide); (case kBz31 => exact locs rfl); (case c2z31 => exact rfl); (case c3z31 => exact rfl); (case c4z31 => exact rfl); k_whole; intro g' L' h' tk' FG' F' N' B' X' T' qk ek)
    k_with "newTuple" => (k_here; k_dflt (refine' Mine.newTupleS ?Fz21 ?Nz21 ?ez21 ?zz21 ?_; (case Fz21 => k_asm); (case Nz21 => k_asm); (case ez21 => (dsimp only [List.map]; (try exact rfl))); (case zz21 => kmk_size)); intro D' h' l1 F' N'; (try k_sweep))
    k_with "LeaveK" => (k_dflt (refine' Mine.leave_con ?hrz24 ?hSz24 ?hFz24 ?hNz24 ?hqz24 ?_; (case hrz24 => assumption); (case hSz24 => assumption); (case hFz24 => k_asm); (case hNz24 => k_asm); (case hqz24 => exact rfl); k_whole))
    k_with "k_all" => assumption
    k_with "key mem" => with_reducible first | exact Mine.m0 | exact Mine.m1 | exact Mine.m2 | exact Mine.m3 | exact Mine.m4 | exact Mine.m5 | exact Mine.m6 | exact Mine.m7 | exact Mine.m8 | exact Mine.m9 | exact Mine.m10 | exact Mine.m11 | exact Mine.m12 | exact Mine.m13
    k_with "k_mem" => (k_whole; walk_at "key mem")
    k_with "k_ne" => ((refine neN ?_; (try dsimp only)); first | (refine' Mine.ne_below ?kb9z33 ?km9z33; (case kb9z33 => with_reducible assumption); (case km9z33 => walk_at "key mem")) | (refine' Mine.ne_above ?kb9z33 ?km9z33; (case kb9z33 => with_reducible assumption); (case km9z33 => walk_at "key mem")) | walk_at "ne find" | (first | lia | omega))
    k_with "k_all" => (refine' Mine.all_below ?kb9z30 ?km9z30; (case kb9z30 => with_reducible assumption); (case km9z30 => exact rfl))
    k_with "ne find" => first | with_reducible assumption | (refine Ne.symm ?_; with_reducible assumption) | (refine Nat.ne_of_lt ?_; with_reducible assumption) | (refine Nat.ne_of_gt ?_; with_reducible assumption) | ((with_reducible rename _ ∧ _ => hc9); have hc8 := hc9.1; have hc7 := hc9.2; clear hc9; walk_at "ne find")
    k_with "spliced" => (k_here; (refine PyProof.Rows.args_nil ?_); (try dsimp only [List.cons_append, List.nil_append]); (with_reducible show _ ∧ _))
    k_with "k_mem" => assumption
    k_with "call ref" => (k_here; (with_reducible show wpAny _ _ (call (Value.ref 319) _) _ _ _); k_dflt (refine' Mine.make_use (other := []) (Mine.make_runs ?okz149 ?cz149 ?opz149 ?eaz149 ?dvz149) ?k1z149 ?k2z149 ?k3z149 ?k4z149 ?k5z149 ?kKz149 ?kdz149 ?kuz149 ?kfz149 ?koz149 ?_; (case k1z149 => k_asm); (case k2z149 => k_asm); (case k3z149 => k_asm); (case k4z149 => k_asm); (case k5z149 => k_asm); (case kKz149 => first | exact rfl | assumption); (case okz149 => k_extra "make ok"); (case cz149 => assumption); (case opz149 => decide +kernel); (case eaz149 => k_extra "make ea"); (case dvz149 => k_extra "make dv"); (case kfz149 => k_extra "make foot"); (case koz149 => exact List.forall_mem_nil _); (case kdz149 => walk_at "rm"); (case kuz149 => walk_at "rm")); (k_extra "make then"))
    k_with "binaryOp RShift int int" => (k_here; (with_reducible refine Mine.shift_small ?az150 ?bz150 ?_); (case az150 => k_extra "nonneg"); (case bz150 => k_extra "small"); intro t' k')
    k_with "nonneg" => first | exact abs_ge _ | walk_at "om"
    k_with "small" => first | exact gs.mono (by decide) | exact gb.mono (by decide)
    k_with "make ok" => (exact ok.more (imms' := (_, tupO [] 0) :: imms) (fun p hp => .tail _ hp) (apart_cons apart (lt13b (by assumption))))
    k_with "make ea" => exact List.Mem.head _
    k_with "make foot" => (simp only [Bk.led, List.cons_append, List.nil_append]; repeat' (first | refine List.forall_mem_cons.mpr ⟨by k_mem, ?_⟩ | (intro q hq; repeat (first | exact hq | refine List.mem_cons_of_mem _ ?_))))
    k_with "make then" => (intro i t9 t9' B2 xs2 imms2 a2 h9 tk9 ok2 g2 at2 F9 N9; simp only [List.append_nil] at N9)
    k_with "make dv" => first | (show DatL _ (top, some 1) _; exact ⟨v, 0, t, u, rfl, .tail _ hv⟩) | (show DatL _ (top, some bottom) _; exact ⟨v, 0, t, u, rfl, .tail _ hv⟩)
    refine wpAny_call ?_
    k_dflt (k_extra "con_enter")
    k_steps
    all_goals exact ends_of (Mine.ie7 i _ _ B2 xs2 imms2 a2 ⟨rfl, rfl, ok2, g2.trans0 (fun p hp => .tail _ hp), at2⟩) (fun q hq => hq))
end Mine
end
/- T9 -/
section
open PySem PySem.W PyProof.Rows PySem.Calls PySem.Spec
namespace Mine
set_option maxRecDepth 100000
set_option maxHeartbeats 8000000 

theorem sort_runs {prog : Program} {w : World} {c : Nat} {B : Bk} {xs : List (BKey × Addr × Value)} {imms : List (Addr × Obj)} {kvs : List (Int × Value)} {wd : Int} {t : Tok}
    (ok : BkOK prog w c B xs imms) (bv : BvOK prog w c B kvs) (hc : c ≤ 1000) (h1 : 1 ≤ wd) (h2 : wd ≤ 70) :
    Runs prog w 2 611 [.ref (B.A 1), .int wd t] (B.led ++ imms) (SortRet prog w c B xs imms kvs wd) := by
  have mono := ok.mono
  have apart := ok.apart
  have lo := ok.lo2
  have n1 := bv.n1
  have n2 := bv.n2
  have n3 := bv.n3
  have n4 := bv.len
  unfold Runs
  intro mean mg mb dp un gd cn' cs a ccd cl outer A₀ base h₀ L m s Q E B' F X N T hk hd hu hret
  rcases s with ⟨hp0, gs0, dr0, tk0, os0⟩
  dsimp only at F N hret
  simp only [Bk.led, List.cons_append, List.nil_append] at N hret
  k_with_none
  k_with "om" => first | (with_reducible first | assumption | exact Mine.r0 (by assumption) | exact Mine.n5 (by assumption) (by assumption) (by k_dflt exact rfl) | exact Mine.n14 (by assumption) (by assumption) (by assumption) (by k_dflt exact rfl) | exact Mine.n15 (by assumption) (by assumption) (by k_dflt exact rfl) | exact Int.natCast_nonneg _ | exact Int.le_refl _ | exact Nat.le_refl _) | (first | lia | omega)
  k_with "rm" => first | ((try dsimp only [depth_under_make, depth_under_kw, depth_in1, depth_deeper, depth_caller, units_in1, units_deeper, Around.mark_units, units_caller, units_under_make, ktrTop]); walk_at "om") | ktr_room | ktr_units
  k_with "con_enter" => (refine' Mine.code_defQ ?k1z29 ?k2z29 ?k3z29 ?k4z29 ?k5z29 ?kAz29 ?kFz29 ?kKz29 ?k6z29 ?k7z29 ?k8z29 ?k9z29 ?kBz29 ?_ ?c2z29 ?c3z29 ?c4z29 ?c5z29; (case kAz29 => exact rfl); (case kFz29 => exact rfl); (case kKz29 => assumption); (case k1z29 => k_asm); (case k2z29 => k_asm); (case k3z29 => k_asm); (case k4z29 => k_asm); (case k5z29 => k_asm); (case k6z29 => k_is); (case k7z29 => k_is); (case k8z29 => walk_at "rm"); (case k9z29 => first | exact BindsTo.of_eq (binds := []) rfl | exact BindsTo.of_eq (binds := [(_, _)]) rfl | exact BindsTo.of_eq (binds := [(_, _), (_, _)]) rfl | exact BindsTo.of_eq (binds := [(_, _), (_, _), (_, _)]) rfl | exact BindsTo.of_eq (binds := [(_, _), (_, _), (_, _), (_, _)]) rfl | exact BindsTo.of_eq (binds := [(_, _), (_, _), (_, _), (_, _), (_, _)]) rfl | exact BindsTo.of_eq rfl); (case c5z29 => decide); (case kBz29 => exact locs rfl); (case c2z29 => exact rfl); (case c3z29 => exact rfl); (case c4z29 => exact rfl); k_whole; intro g' L' h' tk' FG' F' N' B' X' T' S' hL' qk ek)
  k_with "LeaveK" => (k_dflt (refine' Mine.leave_con ?hrz24 ?hSz24 ?hFz24 ?hNz24 ?hqz24 ?_; (case hrz24 => assumption); (case hSz24 => assumption); (case hFz24 => k_asm); (case hNz24 => k_asm); (case hqz24 => exact rfl); k_whole))
  k_with "k_all" => assumption
  k_with "key mem" => fail
  k_with "k_mem" => (k_whole; walk_at "key mem")
  k_with "k_ne" => ((refine neN ?_; (try dsimp only)); first | (refine' Mine.ne_below ?kb9z33 ?km9z33; (case kb9z33 => with_reducible assumption); (case km9z33 => walk_at "key mem")) | (refine' Mine.ne_above ?kb9z33 ?km9z33; (case kb9z33 => with_reducible assumption); (case km9z33 => walk_at "key mem")) | walk_at "ne find" | (first | lia | omega))
  k_with "k_all" => (refine' Mine.all_below ?kb9z30 ?km9z30; (case kb9z30 => with_reducible assumption); (case km9z30 => exact rfl))
  k_with "ne find" => first | with_reducible assumption | (refine Ne.symm ?_; with_reducible assumption) | (refine Nat.ne_of_lt ?_; with_reducible assumption) | (refine Nat.ne_of_gt ?_; with_reducible assumption) | ((with_reducible rename _ ∧ _ => hc9); have hc8 := hc9.1; have hc7 := hc9.2; clear hc9; walk_at "ne find")
  k_with "spliced" => (k_here; (refine PyProof.Rows.args_nil ?_); (try dsimp only [List.cons_append, List.nil_append]); (with_reducible show _ ∧ _))
  k_with "call builtin:list.append" => (k_here; (with_reducible show wpAny _ _ (call (Value.builtin _) [Value.ref _, _]) _ _ _); k_dflt (refine' append_K ?k1z154 ?k2z154 ?k3z154 ?_ ?zz154; (case k1z154 => k_asm); (case k2z154 => k_asm); (case k3z154 => k_upd); (case zz154 => first | (rw [Mine.strValues_size, sizeLine_eq]; walk_at "om") | k_extra "room"); k_whole); intro h' F' N'; (try rw [Mine.strValues_push] at N'); (try k_sweep))
  k_with "k_ne" => (refine neN ?_; (try dsimp only); first | exact mono_ne (by assumption) (by decide) (by decide) | exact mono_ne' (by assumption) (by decide) (by decide) | assumption | exact Ne.symm (by assumption))
  k_with "k_all" => exact apart1 (by assumption) _ (by decide)
  k_with "call builtin:len" => (k_here; (with_reducible show wpAny _ _ (call (Value.builtin "len") [Value.ref _]) _ _ _); k_dflt (refine' PyProof.Rows.len_list (News.isList ?Nz9 ?pz9) ?zz9 ?_; (case Nz9 => k_asm); (case pz9 => k_mem); (case zz9 => k_extra "len list")))
  k_with "k_mem" => assumption
  k_with "compareOp NotIn int ref" => (k_here; k_dflt (refine' kdg_notin (knd := PySem.intKind _ _) ?Nz11 ?pz11 ?dz11 ?loz11 (intKind_is _ _ _ _) _ ?hbz11 ?_; (case Nz11 => k_asm); (case pz11 => k_mem); (case dz11 => k_extra "bv dict"); (case loz11 => assumption); (case hbz11 => k_extra "bv has")))
  k_with "setItem ref int" => (k_here; k_dflt (refine' kda_set (knd := PySem.intKind _ _) ?Fz12 ?Nz12 ?Uz12 ?dz12 (intKind_is _ _ _ _) ?zz12 ?_; (case Fz12 => k_asm); (case Nz12 => k_asm); (case Uz12 => k_updF); (case dz12 => k_extra "bv dict"); (case zz12 => (rw [sizeLine_eq]; walk_at "om"))); intro h' o' F' N' hd'; (try dsimp only at N'))
  k_with "subscriptTail" => (k_here; (with_reducible show wpAny _ _ (subscriptTail _ _ (Value.ref _) (Value.int _ _)) _ _ _); k_dflt (refine' kda_item (knd := PySem.intKind _ _) ?Nz13 ?pz13 ?dz13 (intKind_is _ _ _ _) ?vz13 ?_; (case Nz13 => k_asm); (case pz13 => k_mem); (case dz13 => k_extra "bv dict"); (case vz13 => k_extra "bv at"); k_whole))
  k_with "getItem ref int" => (k_here; k_dflt (refine' Mine.kda_getItem (knd := PySem.intKind _ _) ?Nz14 ?pz14 ?dz14 (intKind_is _ _ _ _) ?vz14 ?_; (case Nz14 => k_asm); (case pz14 => k_mem); (case dz14 => k_extra "bv dict"); (case vz14 => k_extra "bv at"); k_whole))
  k_with "room" => (rw [sizeLine_eq]; walk_at "om")
  k_with "len list" => (first | walk_at "om" | (rw [Array.size_push]; walk_at "om"))
  k_with "bv dict" => (first | assumption | exact bv.bv)
  cases hat : valueAt kvs wd with
  | none =>
    k_with "bv has" => exact (by simp [hat] : (valueAt kvs wd).isSome = false)
    k_with "bv at" => exact valueAt_stored hat
    refine wpAny_call ?_
    k_dflt (k_extra "con_enter")
    k_steps
    have hDict := (by assumption : Obj.IsDictOf (intKind prog w) _ (stored kvs wd _))
    exact sort_end ok bv hat hDict (by rw [Array.size_push]; walk_at "om")
  | some v =>
    (refine Mine.ex3 (bv.vals _ (valueAt_mem hat)) fun j t1 t2 om0 => Mine.an3 om0 fun e1 e2 e3 => ?_; clear om0)
    simp only at e1
    subst e1
    k_with "bv has" => exact (by simp [hat] : (valueAt kvs wd).isSome = true)
    k_with "bv at" => exact hat
    refine wpAny_call ?_
    k_dflt (k_extra "con_enter")
    k_steps
    all_goals exact ends_of (Mine.ie5 j _ _ B kvs ⟨rfl, rfl, ok, bv.le (Nat.le_succ _), ⟨rfl, rfl, rfl, rfl, rfl, rfl, rfl, rfl, rfl, rfl, fun _ _ h => h, fun _ _ h => h⟩, hat⟩) (fun q hq => hq)
end Mine
end
/- Bank2 -/
section
open PySem PySem.W PyProof.Rows PySem.Calls PySem.Spec
namespace Mine
set_option maxRecDepth 100000

structure BS where
  B : Bk
  xs : List (BKey × Addr × Value)
  imms : List (Addr × Obj)
  kvs : List (Int × Value)
noncomputable def BS.led (S : BS) : List (Addr × Obj) := S.B.led ++ S.imms

structure SOK (prog : Program) (w : World) (c : Nat) (S : BS) : Prop where
  bk : BkOK prog w c S.B S.xs S.imms
  bv : BvOK prog w c S.B S.kvs
  f1 : S.B.fargs.size = S.B.fnames.size
  f2 : S.B.fres.size = S.B.fnames.size
  f3 : S.B.fnames.size ≤ c
theorem SOK.le {prog : Program} {w : World} {c d : Nat} {S : BS} (h : SOK prog w c S) (hc : c ≤ d) : SOK prog w d S := ⟨h.bk.le hc, h.bv.le hc, h.f1, h.f2, Nat.le_trans h.f3 hc⟩
structure Ext (S S' : BS) : Prop where
  A : S'.B.A = S.B.A
  tn : S'.B.tn = S.B.tn
  fn : S'.B.fn = S.B.fn
  imms : ∀ p ∈ S.imms, p ∈ S'.imms
  at' : ∀ k v, atKey S.xs k = some v → atKey S'.xs k = some v
  bv : ∀ k v, valueAt S.kvs k = some v → valueAt S'.kvs k = some v
  fnames : ∀ (i : Nat) v, S.B.fnames[i]? = some v → S'.B.fnames[i]? = some v
theorem Ext.refl (S : BS) : Ext S S := ⟨rfl, rfl, rfl, fun _ h => h, fun _ _ h => h, fun _ _ h => h, fun _ _ h => h⟩
theorem Ext.trans {S S' S'' : BS} (g : Ext S S') (h : Ext S' S'') : Ext S S'' :=
  ⟨h.A.trans g.A, h.tn.trans g.tn, h.fn.trans g.fn, fun p hp => h.imms p (g.imms p hp), fun k v e => h.at' k v (g.at' k v e), fun k v e => h.bv k v (g.bv k v e), fun i v e => h.fnames i v (g.fnames i v e)⟩
theorem Grow.ext {B B' : Bk} {xs xs' : List (BKey × Addr × Value)} {imms imms' : List (Addr × Obj)} {kvs : List (Int × Value)} (g : Grow B xs imms B' xs' imms') : Ext ⟨B, xs, imms, kvs⟩ ⟨B', xs', imms', kvs⟩ :=
  ⟨g.A, g.tn, g.fn, g.imms, g.at', fun _ _ h => h, fun i v h => by show B'.fnames[i]? = some v; rw [g.fnames]; exact h⟩
theorem SOK.grow {prog : Program} {w : World} {c : Nat} {B B' : Bk} {xs xs' : List (BKey × Addr × Value)} {imms imms' : List (Addr × Obj)} {kvs : List (Int × Value)} (h : SOK prog w c ⟨B, xs, imms, kvs⟩) (g : Grow B xs imms B' xs' imms') (ok : BkOK prog w (c + 1) B' xs' imms') : SOK prog w (c + 1) ⟨B', xs', imms', kvs⟩ :=
  ⟨ok, (h.bv.grow g).le (Nat.le_succ _), by show B'.fargs.size = B'.fnames.size; rw [g.fargs, g.fnames]; exact h.f1, by show B'.fres.size = B'.fnames.size; rw [g.fres, g.fnames]; exact h.f2, by show B'.fnames.size ≤ _; rw [g.fnames]; exact Nat.le_succ_of_le h.f3⟩
theorem BvGrow.ext {B B' : Bk} {xs : List (BKey × Addr × Value)} {imms : List (Addr × Obj)} {kvs kvs' : List (Int × Value)} (g : BvGrow B kvs B' kvs') : Ext ⟨B, xs, imms, kvs⟩ ⟨B', xs, imms, kvs'⟩ :=
  ⟨g.A, g.tn, g.fn, fun _ h => h, fun _ _ h => h, g.at', fun i v h => by show B'.fnames[i]? = some v; rw [g.fnames]; exact h⟩
theorem SOK.sortG {prog : Program} {w : World} {c : Nat} {B B' : Bk} {xs : List (BKey × Addr × Value)} {imms : List (Addr × Obj)} {kvs kvs' : List (Int × Value)} (h : SOK prog w c ⟨B, xs, imms, kvs⟩) (g : BvGrow B kvs B' kvs') (ok : BkOK prog w c B' xs imms) (bv : BvOK prog w (c + 1) B' kvs') : SOK prog w (c + 1) ⟨B', xs, imms, kvs'⟩ :=
  ⟨ok.le (Nat.le_succ _), bv, by show B'.fargs.size = B'.fnames.size; rw [g.fargs, g.fnames]; exact h.f1, by show B'.fres.size = B'.fnames.size; rw [g.fres, g.fnames]; exact h.f2, by show B'.fnames.size ≤ _; rw [g.fnames]; exact Nat.le_succ_of_le h.f3⟩

noncomputable def TermRet (prog : Program) (w : World) (c : Nat) (S : BS) (P : BS → BKey → Prop) (r : Value) (tl : List (Addr × Obj)) : Prop :=
  ∃ (i : Nat) (t t' : Tok) (S' : BS) (a : Addr) (k : BKey), r = .int i t ∧ tl = S'.led ∧ SOK prog w c S' ∧ Ext S S' ∧ atKey S'.xs k = some (a, .int i t') ∧ P S' k
end Mine
open PySem PySem.W PyProof.Rows PySem.Calls PySem.Spec Mine
end
/- T10 -/
section
open PySem PySem.W PyProof.Rows PySem.Calls PySem.Spec
namespace Mine
set_option maxRecDepth 100000
set_option maxHeartbeats 8000000 

theorem bvnum_runs {prog : Program} {w : World} {c : Nat} {S : BS} {v wd : Nat} {t1 t2 : Tok}
    (ok : SOK prog w c S) (hc : c ≤ 900) (h1 : 1 ≤ wd) (h2 : wd ≤ 70) (hv : v < 2 ^ wd) :
    Runs prog w 4 632 [.ref (S.B.A 1), .int v t1, .int wd t2] S.led
      (TermRet prog w (c + 2) S fun S' k => ∃ (j : Nat) (t : Tok), valueAt S'.kvs wd = some (.int j t) ∧ k = (Str.ofString "bvnum", (j : Int), (v : Int), none)) := by
  obtain ⟨B, xs, imms, kvs⟩ := S
  have mono := ok.bk.mono
  have apart := ok.bk.apart
  have okb := ok.bk
  have okv := ok.bv
  have c2 : c ≤ 1000 := by (first | lia | omega)
  simp only at mono apart okb okv
  have hmod : ((v : Int)).fmod (1 * 2 ^ ((wd : Int)).toNat) = v := by
    rw [Int.one_mul, Int.toNat_natCast]
    have e : (2 : Int) ^ wd = ((2 ^ wd : Nat) : Int) := (Int.natCast_pow 2 wd).symm
    rw [e]
    exact (Int.ofNat_fmod v (2 ^ wd)).symm.trans (by rw [Nat.mod_eq_of_lt hv])
  unfold Runs
  intro mean mg mb dp un gd cn' cs a ccd cl outer A₀ base h₀ L m s Q E B' F X N T hk hd hu hret
  rcases s with ⟨hp0, gs0, dr0, tk0, os0⟩
  dsimp only at F N hret
  simp only [BS.led, Bk.led, List.cons_append, List.nil_append] at N hret
  k_with_none
  k_with "om" => first | (with_reducible first | assumption | exact Mine.r2 (by assumption) (by k_dflt exact rfl) | exact Mine.r0 (by assumption) | exact Mine.n2 (by assumption) (by k_dflt exact rfl) | exact Mine.w1 (by assumption) (by k_dflt exact rfl) | exact Int.natCast_nonneg _ | exact Int.le_refl _ | exact Nat.le_refl _) | (first | lia | omega)
  k_with "rm" => first | ((try dsimp only [depth_under_make, depth_under_kw, depth_in1, depth_deeper, depth_caller, units_in1, units_deeper, Around.mark_units, units_caller, units_under_make, ktrTop]); walk_at "om") | ktr_room | ktr_units
  k_with "con_enter" => (refine' Mine.code_defQ ?k1z29 ?k2z29 ?k3z29 ?k4z29 ?k5z29 ?kAz29 ?kFz29 ?kKz29 ?k6z29 ?k7z29 ?k8z29 ?k9z29 ?kBz29 ?_ ?c2z29 ?c3z29 ?c4z29 ?c5z29; (case kAz29 => exact rfl); (case kFz29 => exact rfl); (case kKz29 => assumption); (case k1z29 => k_asm); (case k2z29 => k_asm); (case k3z29 => k_asm); (case k4z29 => k_asm); (case k5z29 => k_asm); (case k6z29 => k_is); (case k7z29 => k_is); (case k8z29 => walk_at "rm"); (case k9z29 => first | exact BindsTo.of_eq (binds := []) rfl | exact BindsTo.of_eq (binds := [(_, _)]) rfl | exact BindsTo.of_eq (binds := [(_, _), (_, _)]) rfl | exact BindsTo.of_eq (binds := [(_, _), (_, _), (_, _)]) rfl | exact BindsTo.of_eq (binds := [(_, _), (_, _), (_, _), (_, _)]) rfl | exact BindsTo.of_eq (binds := [(_, _), (_, _), (_, _), (_, _), (_, _)]) rfl | exact BindsTo.of_eq rfl); (case c5z29 => decide); (case kBz29 => exact locs rfl); (case c2z29 => exact rfl); (case c3z29 => exact rfl); (case c4z29 => exact rfl); k_whole; intro g' L' h' tk' FG' F' N' B' X' T' S' hL' qk ek)
  k_with "newTuple" => (k_here; k_dflt (refine' Mine.newTupleS ?Fz21 ?Nz21 ?ez21 ?zz21 ?_; (case Fz21 => k_asm); (case Nz21 => k_asm); (case ez21 => (dsimp only [List.map]; (try exact rfl))); (case zz21 => kmk_size)); intro D' h' l1 F' N'; (try k_sweep))
  k_with "LeaveK" => (k_dflt (refine' Mine.leave_con ?hrz24 ?hSz24 ?hFz24 ?hNz24 ?hqz24 ?_; (case hrz24 => assumption); (case hSz24 => assumption); (case hFz24 => k_asm); (case hNz24 => k_asm); (case hqz24 => exact rfl); k_whole))
  k_with "k_all" => assumption
  k_with "key mem" => with_reducible first | exact Mine.m0 | exact Mine.m1 | exact Mine.m2 | exact Mine.m3 | exact Mine.m4 | exact Mine.m5 | exact Mine.m6 | exact Mine.m7 | exact Mine.m8 | exact Mine.m9 | exact Mine.m10 | exact Mine.m11 | exact Mine.m12 | exact Mine.m13
  k_with "k_mem" => (k_whole; walk_at "key mem")
  k_with "k_ne" => ((refine neN ?_; (try dsimp only)); first | (refine' Mine.ne_below ?kb9z33 ?km9z33; (case kb9z33 => with_reducible assumption); (case km9z33 => walk_at "key mem")) | (refine' Mine.ne_above ?kb9z33 ?km9z33; (case kb9z33 => with_reducible assumption); (case km9z33 => walk_at "key mem")) | walk_at "ne find" | (first | lia | omega))
  k_with "k_all" => (refine' Mine.all_below ?kb9z30 ?km9z30; (case kb9z30 => with_reducible assumption); (case km9z30 => exact rfl))
  k_with "ne find" => first | with_reducible assumption | (refine Ne.symm ?_; with_reducible assumption) | (refine Nat.ne_of_lt ?_; with_reducible assumption) | (refine Nat.ne_of_gt ?_; with_reducible assumption) | ((with_reducible rename _ ∧ _ => hc9); have hc8 := hc9.1; have hc7 := hc9.2; clear hc9; walk_at "ne find")
  k_with "spliced" => (k_here; (refine PyProof.Rows.args_nil ?_); (try dsimp only [List.cons_append, List.nil_append]); (with_reducible show _ ∧ _))
  k_with "k_mem" => assumption
  k_with "call ref" => (k_here; (with_reducible show wpAny _ _ (call (Value.ref 319) _) _ _ _); k_dflt (refine' Mine.make_use (other := []) (Mine.make_runs ?okz149 ?cz149 ?opz149 ?eaz149 ?dvz149) ?k1z149 ?k2z149 ?k3z149 ?k4z149 ?k5z149 ?kKz149 ?kdz149 ?kuz149 ?kfz149 ?koz149 ?_; (case k1z149 => k_asm); (case k2z149 => k_asm); (case k3z149 => k_asm); (case k4z149 => k_asm); (case k5z149 => k_asm); (case kKz149 => first | exact rfl | assumption); (case okz149 => k_extra "make ok"); (case cz149 => assumption); (case opz149 => decide +kernel); (case eaz149 => k_extra "make ea"); (case dvz149 => k_extra "make dv"); (case kfz149 => k_extra "make foot"); (case koz149 => exact List.forall_mem_nil _); (case kdz149 => walk_at "rm"); (case kuz149 => walk_at "rm")); (k_extra "make then"))
  k_with "call ref" => (k_here; (with_reducible show wpAny _ _ (call (Value.ref 611) _) _ _ _); k_dflt (refine' Mine.Runs.useR (other := []) (Mine.sort_runs ?okz5 ?bvz5 ?cz5 ?h1z5 ?h2z5) ?k1z5 ?k2z5 ?k3z5 ?k4z5 ?k5z5 ?kKz5 ?kdz5 ?kuz5 ?kfz5 ?koz5 ?_; (case k1z5 => k_asm); (case k2z5 => k_asm); (case k3z5 => k_asm); (case k4z5 => k_asm); (case k5z5 => k_asm); (case kKz5 => first | exact rfl | assumption); (case okz5 => assumption); (case bvz5 => assumption); (case cz5 => walk_at "om"); (case h1z5 => walk_at "om"); (case h2z5 => walk_at "om"); (case kfz5 => exact fun _ h => h); (case koz5 => exact List.forall_mem_nil _); (case kdz5 => walk_at "rm"); (case kuz5 => walk_at "rm")); (k_extra "sort then"))
  k_with "sort then" => (intro r9 tl9 h9 tk9 F9 N9 f9 R9; unfold SortRet at R9; (k_dflt (refine Mine.ex5 R9 fun j s9 s9' B2 kvs2 om0 => Mine.an6 om0 fun e1 e2 ok2 bv2 g2 at2 => ?_); clear om0; (try clear R9)); subst e1; subst e2; simp only [List.append_nil, Bk.led, List.cons_append, List.nil_append] at N9; clear mono apart; have mono := ok2.mono; have apart := ok2.apart; have eA := g2.A; rw [← eA] at F9)
  k_with "make ok" => (exact ok2.more (imms' := (_, tupO [] 0) :: imms) (fun p hp => .tail _ hp) (apart_cons apart (lt13b (by assumption))))
  k_with "make ea" => exact List.Mem.head _
  k_with "make dv" => (show DatL _ (v, none) _; exact ⟨_, congrArg (fun z => Value.int z _) hmod⟩)
  k_with "make foot" => (simp only [Bk.led, List.cons_append, List.nil_append]; repeat' (first | refine List.forall_mem_cons.mpr ⟨by k_mem, ?_⟩ | (intro q hq; repeat (first | exact hq | refine List.mem_cons_of_mem _ ?_))))
  k_with "make then" => (intro i t9 t9' B3 xs3 imms3 a3 h9 tk9 ok3 g3 at3 F9 N9; simp only [List.append_nil] at N9)
  refine wpAny_call ?_
  k_dflt (k_extra "con_enter")
  k_steps
  all_goals exact ends_of (Mine.ie6 i _ _ ⟨B3, xs3, imms3, kvs2⟩ a3 _ ⟨rfl, rfl, (ok.sortG g2 ok2 bv2).grow (g3.trans0 (fun p hp => .tail _ hp)) (ok3.le (Nat.le_succ _)), g2.ext.trans (g3.trans0 (fun p hp => .tail _ hp)).ext, at3, ⟨j, _, at2, rfl⟩⟩) (fun q hq => hq)
end Mine
end
/- T11 -/
section
open PySem PySem.W PyProof.Rows PySem.Calls PySem.Spec
namespace Mine
set_option maxRecDepth 100000
set_option maxHeartbeats 8000000 

theorem Runs.mono {prog : Program} {w : World} {n : Nat} {f : Addr} {vs : List Value} {foot : List (Addr × Obj)} {Ret Ret' : Value → List (Addr × Obj) → Prop} (C : Runs prog w n f vs foot Ret) (h : ∀ r tl, Ret r tl → Ret' r tl) : Runs prog w n f vs foot Ret' :=
  fun _ _ _ _ _ _ _ _ _ _ _ _ _ _ _ _ _ _ _ _ B F X N T hk hd hu ret => C _ _ _ _ _ _ _ _ _ _ _ _ _ _ _ _ _ _ _ _ B F X N T hk hd hu fun r tl h' tk' F' N' S' R' => ret r tl h' tk' F' N' S' (h r tl R')
theorem numterm_runs {prog : Program} {w : World} {c : Nat} {S : BS} {r : Bool} {top bottom : Int} {t u ts : Tok} {v : Addr}
    (ok : SOK prog w c S) (hc : c ≤ 1000) (g : GoodNum r top bottom) (hv : (v, pairObj top bottom t u) ∈ S.imms) :
    Runs prog w 4 513 [.ref (S.B.A 1), .ref v, .int (if r then 2 else 1) ts] S.led (TermRet prog w (c + 1) S fun _ k => k = (Str.ofString "num", (if r then 2 else 1), top, some bottom)) := by
  obtain ⟨B, xs, imms, kvs⟩ := S
  refine (num_runs ok.bk hc g hv).mono fun r tl h => ?_
  (refine Mine.ex7 h fun i t t' B' xs' imms' a om0 => Mine.an5 om0 fun h1 h2 h3 h4 h5 => ?_; clear om0; (try clear h))
  exact ⟨i, t, t', ⟨B', xs', imms', kvs⟩, a, _, h1, h2, ok.grow h4 h3, h4.ext, h5, rfl⟩

noncomputable def Bk.funned (B : Bk) (nm : Str) (t1 : Tok) (ta : Value) (srt : Int) (t2 : Tok) : Bk :=
  { B with fnames := B.fnames.push (.str nm t1), fargs := B.fargs.push ta, fres := B.fres.push (.int srt t2), e := fun i => if i = 4 then B.e 4 + 1 else if i = 5 then B.e 5 + 1 else if i = 6 then B.e 6 + 1 else B.e i }
theorem SOK.funned {prog : Program} {w : World} {c : Nat} {B : Bk} {xs : List (BKey × Addr × Value)} {imms : List (Addr × Obj)} {kvs : List (Int × Value)} (ok : SOK prog w c ⟨B, xs, imms, kvs⟩) (nm : Str) (t1 : Tok) (ta : Value) (srt : Int) (t2 : Tok) :
    SOK prog w (c + 1) ⟨B.funned nm t1 ta srt t2, xs, imms, kvs⟩ ∧ Ext ⟨B, xs, imms, kvs⟩ ⟨B.funned nm t1 ta srt t2, xs, imms, kvs⟩ := by
  obtain ⟨bk, bv, f1, f2, f3⟩ := ok
  have bk := bk.le (Nat.le_succ c)
  have bv := bv.le (Nat.le_succ c)
  refine ⟨⟨⟨bk.mono, bk.apart, bk.lo, bk.lo2, bk.s1, bk.s2, bk.s3, bk.s4, bk.s5, bk.num, bk.keys, bk.vals, bk.len⟩, ⟨bv.bv, bv.n1, bv.n2, bv.n3, bv.len, bv.vals⟩, ?_, ?_, ?_⟩, ⟨rfl, rfl, rfl, fun _ h => h, fun _ _ h => h, fun _ _ h => h, fun i v h => push_keep h⟩⟩
  · show (B.fargs.push _).size = (B.fnames.push _).size; rw [Array.size_push, Array.size_push]; exact congrArg (· + 1) f1
  · show (B.fres.push _).size = (B.fnames.push _).size; rw [Array.size_push, Array.size_push]; exact congrArg (· + 1) f2
  · show (B.fnames.push _).size ≤ _; rw [Array.size_push]; exact Nat.succ_le_succ f3
noncomputable def DeclRet (prog : Program) (w : World) (c : Nat) (S : BS) (nm : Str) (r : Value) (tl : List (Addr × Obj)) : Prop :=
  ∃ (f : Nat) (t t1 : Tok) (B' : Bk), r = .int f t ∧ tl = B'.led ++ S.imms ∧ SOK prog w (c + 1) ⟨B', S.xs, S.imms, S.kvs⟩ ∧ Ext S ⟨B', S.xs, S.imms, S.kvs⟩ ∧ B'.fnames[f]? = some (.str nm t1)
theorem decl_end {prog : Program} {w : World} {c : Nat} {B : Bk} {xs : List (BKey × Addr × Value)} {imms : List (Addr × Obj)} {kvs : List (Int × Value)} {nm : Str} {t1 : Tok} {ta : Value} {srt : Int} {t2 t : Tok} {z : Int} (ok : SOK prog w c ⟨B, xs, imms, kvs⟩) (hz : z = (B.fnames.size : Int)) :
    ConEnd (DeclRet prog w c ⟨B, xs, imms, kvs⟩ nm) (.int z t) ((B.funned nm t1 ta srt t2).led ++ imms) := by
  subst hz
  exact ends_of (Mine.ie4 _ _ t1 _ ⟨rfl, rfl, (ok.funned nm t1 ta srt t2).1, (ok.funned nm t1 ta srt t2).2, push_last rfl⟩) (fun q hq => hq)

theorem decl_runs {prog : Program} {w : World} {c : Nat} {B : Bk} {xs : List (BKey × Addr × Value)} {imms : List (Addr × Obj)} {kvs : List (Int × Value)} {nm : Str} {srt : Int} {t1 t2 : Tok} {ea : Addr} {ne : Nat}
    (ok : SOK prog w c ⟨B, xs, imms, kvs⟩) (hc : c ≤ 1000) (hea : (ea, tupO [] ne) ∈ imms) :
    Runs prog w 2 228 [.ref (B.A 1), .str nm t1, .ref ea, .int srt t2] (B.led ++ imms) (DeclRet prog w c ⟨B, xs, imms, kvs⟩ nm) := by
  have mono := ok.bk.mono
  have apart := ok.bk.apart
  have f1 := ok.f1
  have f2 := ok.f2
  have f3 := ok.f3
  simp only at mono apart f1 f2 f3
  unfold Runs
  intro mean mg mb dp un gd cn' cs a ccd cl outer A₀ base h₀ L m s Q E B' F X N T hk hd hu hret
  rcases s with ⟨hp0, gs0, dr0, tk0, os0⟩
  dsimp only at F N hret
  simp only [Bk.led, List.cons_append, List.nil_append] at N hret
  k_with_none
  k_with "om" => first | (with_reducible first | assumption | exact Mine.r0 (by assumption) | exact Mine.n5 (by assumption) (by assumption) (by k_dflt exact rfl) | exact Int.natCast_nonneg _ | exact Int.le_refl _ | exact Nat.le_refl _) | (first | lia | omega)
  k_with "rm" => first | ((try dsimp only [depth_under_make, depth_under_kw, depth_in1, depth_deeper, depth_caller, units_in1, units_deeper, Around.mark_units, units_caller, units_under_make, ktrTop]); walk_at "om") | ktr_room | ktr_units
  k_with "con_enter" => (refine' Mine.code_defQ ?k1z29 ?k2z29 ?k3z29 ?k4z29 ?k5z29 ?kAz29 ?kFz29 ?kKz29 ?k6z29 ?k7z29 ?k8z29 ?k9z29 ?kBz29 ?_ ?c2z29 ?c3z29 ?c4z29 ?c5z29; (case kAz29 => exact rfl); (case kFz29 => exact rfl); (case kKz29 => assumption); (case k1z29 => k_asm); (case k2z29 => k_asm); (case k3z29 => k_asm); (case k4z29 => k_asm); (case k5z29 => k_asm); (case k6z29 => k_is); (case k7z29 => k_is); (case k8z29 => walk_at "rm"); (case k9z29 => first | exact BindsTo.of_eq (binds := []) rfl | exact BindsTo.of_eq (binds := [(_, _)]) rfl | exact BindsTo.of_eq (binds := [(_, _), (_, _)]) rfl | exact BindsTo.of_eq (binds := [(_, _), (_, _), (_, _)]) rfl | exact BindsTo.of_eq (binds := [(_, _), (_, _), (_, _), (_, _)]) rfl | exact BindsTo.of_eq (binds := [(_, _), (_, _), (_, _), (_, _), (_, _)]) rfl | exact BindsTo.of_eq rfl); (case c5z29 => decide); (case kBz29 => exact locs rfl); (case c2z29 => exact rfl); (case c3z29 => exact rfl); (case c4z29 => exact rfl); k_whole; intro g' L' h' tk' FG' F' N' B' X' T' S' hL' qk ek)
  k_with "LeaveK" => (k_dflt (refine' Mine.leave_con ?hrz24 ?hSz24 ?hFz24 ?hNz24 ?hqz24 ?_; (case hrz24 => assumption); (case hSz24 => assumption); (case hFz24 => k_asm); (case hNz24 => k_asm); (case hqz24 => exact rfl); k_whole))
  k_with "k_all" => assumption
  k_with "key mem" => fail
  k_with "k_mem" => (k_whole; walk_at "key mem")
  k_with "k_ne" => ((refine neN ?_; (try dsimp only)); first | (refine' Mine.ne_below ?kb9z33 ?km9z33; (case kb9z33 => with_reducible assumption); (case km9z33 => walk_at "key mem")) | (refine' Mine.ne_above ?kb9z33 ?km9z33; (case kb9z33 => with_reducible assumption); (case km9z33 => walk_at "key mem")) | walk_at "ne find" | (first | lia | omega))
  k_with "k_all" => (refine' Mine.all_below ?kb9z30 ?km9z30; (case kb9z30 => with_reducible assumption); (case km9z30 => exact rfl))
  k_with "ne find" => first | with_reducible assumption | (refine Ne.symm ?_; with_reducible assumption) | (refine Nat.ne_of_lt ?_; with_reducible assumption) | (refine Nat.ne_of_gt ?_; with_reducible assumption) | ((with_reducible rename _ ∧ _ => hc9); have hc8 := hc9.1; have hc7 := hc9.2; clear hc9; walk_at "ne find")
  k_with "spliced" => (k_here; (refine PyProof.Rows.args_nil ?_); (try dsimp only [List.cons_append, List.nil_append]); (with_reducible show _ ∧ _))
  k_with "call builtin:list.append" => (k_here; (with_reducible show wpAny _ _ (call (Value.builtin _) [Value.ref _, _]) _ _ _); k_dflt (refine' append_K ?k1z154 ?k2z154 ?k3z154 ?_ ?zz154; (case k1z154 => k_asm); (case k2z154 => k_asm); (case k3z154 => k_upd); (case zz154 => first | (rw [Mine.strValues_size, sizeLine_eq]; walk_at "om") | k_extra "room"); k_whole); intro h' F' N'; (try rw [Mine.strValues_push] at N'); (try k_sweep))
  k_with "k_ne" => (refine neN ?_; (try dsimp only); first | exact mono_ne (by assumption) (by decide) (by decide) | exact mono_ne' (by assumption) (by decide) (by decide) | assumption | exact Ne.symm (by assumption))
  k_with "k_all" => exact apart1 (by assumption) _ (by decide)
  k_with "call builtin:len" => (k_here; (with_reducible show wpAny _ _ (call (Value.builtin "len") [Value.ref _]) _ _ _); k_dflt (refine' PyProof.Rows.len_list (News.isList ?Nz9 ?pz9) ?zz9 ?_; (case Nz9 => k_asm); (case pz9 => k_mem); (case zz9 => k_extra "len list")))
  k_with "k_mem" => assumption
  k_with "call type:tuple" => (k_here; (with_reducible show wpAny _ _ (call (Value.type _) [Value.ref _]) _ _ _); k_dflt (refine' call_tuple_tup (News.isTup ?Nz104 ?pz104) ?_; (case Nz104 => k_asm); (case pz104 => k_extra "tup")))
  k_with "room" => (rw [sizeLine_eq]; walk_at "om")
  k_with "tup" => (repeat (first | exact hea | refine List.mem_cons_of_mem _ ?_))
  k_with "len list" => (first | walk_at "om" | (rw [Array.size_push]; walk_at "om"))
  refine wpAny_call ?_
  k_dflt (k_extra "con_enter")
  k_steps
  all_goals exact decl_end ok (by rw [Array.size_push]; walk_at "om")
end Mine
open PySem PySem.W PyProof.Rows PySem.Calls PySem.Spec Mine
end
/- T12 -/
section
open PySem PySem.W PyProof.Rows PySem.Calls PySem.Spec
namespace Mine
set_option maxRecDepth 100000
set_option maxHeartbeats 8000000 

theorem SOK.moreI {prog : Program} {w : World} {c : Nat} {B : Bk} {xs : List (BKey × Addr × Value)} {imms imms' : List (Addr × Obj)} {kvs : List (Int × Value)} (ok : SOK prog w c ⟨B, xs, imms, kvs⟩) (hs : ∀ p ∈ imms, p ∈ imms') (ha : ∀ p ∈ imms', ∀ i, i < 13 → p.1 ≠ B.A i) : SOK prog w c ⟨B, xs, imms', kvs⟩ :=
  ⟨ok.bk.more hs ha, ok.bv, ok.f1, ok.f2, ok.f3⟩
theorem Ext.moreI {B : Bk} {xs : List (BKey × Addr × Value)} {imms imms' : List (Addr × Obj)} {kvs : List (Int × Value)} {S : BS} (g : Ext ⟨B, xs, imms', kvs⟩ S) (hs : ∀ p ∈ imms, p ∈ imms') : Ext ⟨B, xs, imms, kvs⟩ S :=
  ⟨g.A, g.tn, g.fn, fun p hp => g.imms p (hs p hp), g.at', g.bv, g.fnames⟩

theorem fresh_runs {prog : Program} {w : World} {c : Nat} {S : BS} {nm : Str} {srt : Int} {t1 t2 : Tok}
    (ok : SOK prog w c S) (hc : c ≤ 900) :
    Runs prog w 4 242 [.ref (S.B.A 1), .str nm t1, .int srt t2] S.led
      (TermRet prog w (c + 2) S fun S' k => ∃ (f : Nat) (t : Tok), S'.B.fnames[f]? = some (.str nm t) ∧ k = (Str.ofString "app", srt, (f : Int), none)) := by
  obtain ⟨B, xs, imms, kvs⟩ := S
  have mono := ok.bk.mono
  have apart := ok.bk.apart
  have c2 : c ≤ 1000 := by (first | lia | omega)
  have c3 : c + 1 ≤ 1000 := by (first | lia | omega)
  simp only at mono apart
  unfold Runs
  intro mean mg mb dp un gd cn' cs a ccd cl outer A₀ base h₀ L m s Q E B' F X N T hk hd hu hret
  rcases s with ⟨hp0, gs0, dr0, tk0, os0⟩
  dsimp only at F N hret
  simp only [BS.led, Bk.led, List.cons_append, List.nil_append] at N hret
  k_with_none
  k_with "om" => first | (with_reducible first | assumption | exact Mine.r2 (by assumption) (by k_dflt exact rfl) | exact Mine.r0 (by assumption) | exact Mine.n2 (by assumption) (by k_dflt exact rfl) | exact Int.natCast_nonneg _ | exact Int.le_refl _ | exact Nat.le_refl _) | (first | lia | omega)
  k_with "rm" => first | ((try dsimp only [depth_under_make, depth_under_kw, depth_in1, depth_deeper, depth_caller, units_in1, units_deeper, Around.mark_units, units_caller, units_under_make, ktrTop]); walk_at "om") | ktr_room | ktr_units
  k_with "con_enter" => (refine' Mine.code_defQ ?k1z29 ?k2z29 ?k3z29 ?k4z29 ?k5z29 ?kAz29 ?kFz29 ?kKz29 ?k6z29 ?k7z29 ?k8z29 ?k9z29 ?kBz29 ?_ ?c2z29 ?c3z29 ?c4z29 ?c5z29; (case kAz29 => exact rfl); (case kFz29 => exact rfl); (case kKz29 => assumption); (case k1z29 => k_asm); (case k2z29 => k_asm); (case k3z29 => k_asm); (case k4z29 => k_asm); (case k5z29 => k_asm); (case k6z29 => k_is); (case k7z29 => k_is); (case k8z29 => walk_at "rm"); (case k9z29 => first | exact BindsTo.of_eq (binds := []) rfl | exact BindsTo.of_eq (binds := [(_, _)]) rfl | exact BindsTo.of_eq (binds := [(_, _), (_, _)]) rfl | exact BindsTo.of_eq (binds := [(_, _), (_, _), (_, _)]) rfl | exact BindsTo.of_eq (binds := [(_, _), (_, _), (_, _), (_, _)]) rfl | exact BindsTo.of_eq (binds := [(_, _), (_, _), (_, _), (_, _), (_, _)]) rfl | exact BindsTo.of_eq rfl); (case c5z29 => decide); (case kBz29 => exact locs rfl); (case c2z29 => exact rfl); (case c3z29 => exact rfl); (case c4z29 => exact rfl); k_whole; intro g' L' h' tk' FG' F' N' B' X' T' S' hL' qk ek)
  k_with "newTuple" => (k_here; k_dflt (refine' Mine.newTupleS ?Fz21 ?Nz21 ?ez21 ?zz21 ?_; (case Fz21 => k_asm); (case Nz21 => k_asm); (case ez21 => (dsimp only [List.map]; (try exact rfl))); (case zz21 => kmk_size)); intro D' h' l1 F' N'; (try k_sweep))
  k_with "LeaveK" => (k_dflt (refine' Mine.leave_con ?hrz24 ?hSz24 ?hFz24 ?hNz24 ?hqz24 ?_; (case hrz24 => assumption); (case hSz24 => assumption); (case hFz24 => k_asm); (case hNz24 => k_asm); (case hqz24 => exact rfl); k_whole))
  k_with "k_all" => assumption
  k_with "key mem" => with_reducible first | exact Mine.m0 | exact Mine.m1 | exact Mine.m2 | exact Mine.m3 | exact Mine.m4 | exact Mine.m5 | exact Mine.m6 | exact Mine.m7 | exact Mine.m8 | exact Mine.m9 | exact Mine.m10 | exact Mine.m11 | exact Mine.m12 | exact Mine.m13 | exact Mine.m14
  k_with "k_mem" => (k_whole; walk_at "key mem")
  k_with "k_ne" => ((refine neN ?_; (try dsimp only)); first | (refine' Mine.ne_below ?kb9z33 ?km9z33; (case kb9z33 => with_reducible assumption); (case km9z33 => walk_at "key mem")) | (refine' Mine.ne_above ?kb9z33 ?km9z33; (case kb9z33 => with_reducible assumption); (case km9z33 => walk_at "key mem")) | walk_at "ne find" | (first | lia | omega))
  k_with "k_all" => (refine' Mine.all_below ?kb9z30 ?km9z30; (case kb9z30 => with_reducible assumption); (case km9z30 => exact rfl))
  k_with "ne find" => first | with_reducible assumption | (refine Ne.symm ?_; with_reducible assumption) | (refine Nat.ne_of_lt ?_; with_reducible assumption) | (refine Nat.ne_of_gt ?_; with_reducible assumption) | ((with_reducible rename _ ∧ _ => hc9); have hc8 := hc9.1; have hc7 := hc9.2; clear hc9; walk_at "ne find")
  k_with "spliced" => (k_here; (refine PyProof.Rows.args_nil ?_); (try dsimp only [List.cons_append, List.nil_append]); (with_reducible show _ ∧ _))
  k_with "k_mem" => assumption
  k_with "call ref" => (k_here; (with_reducible show wpAny _ _ (call (Value.ref 319) _) _ _ _); k_dflt (refine' Mine.make_use (other := []) (Mine.make_runs ?okz149 ?cz149 ?opz149 ?eaz149 ?dvz149) ?k1z149 ?k2z149 ?k3z149 ?k4z149 ?k5z149 ?kKz149 ?kdz149 ?kuz149 ?kfz149 ?koz149 ?_; (case k1z149 => k_asm); (case k2z149 => k_asm); (case k3z149 => k_asm); (case k4z149 => k_asm); (case k5z149 => k_asm); (case kKz149 => first | exact rfl | assumption); (case okz149 => k_extra "make ok"); (case cz149 => assumption); (case opz149 => decide +kernel); (case eaz149 => k_extra "make ea"); (case dvz149 => k_extra "make dv"); (case kfz149 => k_extra "make foot"); (case koz149 => exact List.forall_mem_nil _); (case kdz149 => walk_at "rm"); (case kuz149 => walk_at "rm")); (k_extra "make then"))
  k_with "call ref" => (k_here; (with_reducible show wpAny _ _ (call (Value.ref 228) _) _ _ _); k_dflt (refine' Mine.Runs.useR (other := []) (Mine.decl_runs (kvs := _) ?okz105 ?cz105 ?eaz105) ?k1z105 ?k2z105 ?k3z105 ?k4z105 ?k5z105 ?kKz105 ?kdz105 ?kuz105 ?kfz105 ?koz105 ?_; (case k1z105 => k_asm); (case k2z105 => k_asm); (case k3z105 => k_asm); (case k4z105 => k_asm); (case k5z105 => k_asm); (case kKz105 => first | exact rfl | assumption); (case okz105 => k_extra "decl ok"); (case cz105 => assumption); (case eaz105 => k_extra "decl ea"); (case kfz105 => k_extra "decl foot"); (case koz105 => exact List.forall_mem_nil _); (case kdz105 => walk_at "rm"); (case kuz105 => walk_at "rm")); (k_extra "decl then"))
  k_with "decl ok" => exact ok.moreI (imms' := (_, tupO [] 0) :: (_, tupO [] 0) :: imms) (fun p hp => .tail _ (.tail _ hp)) (apart_cons (apart_cons apart (lt13b (by assumption))) (lt13b (below_tail (by assumption))))
  k_with "make ok" => (have okk := ok2.bk; dsimp only at okk; exact okk)
  k_with "make ea" => exact .tail _ (.head _)
  k_with "make dv" => (show DatL _ ((f : Int), none) _; exact ⟨_, rfl⟩)
  k_with "make foot" => (simp only [Bk.led, List.cons_append, List.nil_append]; exact fun _ h => h)
  k_with "make then" => (intro i t9 t9' B3 xs3 imms3 a3 h9 tk9 ok3 g3 at3 F9 N9; simp only [List.append_nil] at N9)
  k_with "decl ea" => exact List.Mem.head _
  k_with "decl foot" => (simp only [Bk.led, List.cons_append, List.nil_append]; repeat' (first | refine List.forall_mem_cons.mpr ⟨by k_mem, ?_⟩ | (intro q hq; repeat (first | exact hq | refine List.mem_cons_of_mem _ ?_))))
  k_with "decl then" => (intro r9 tl9 h9 tk9 F9 N9 f9 R9; unfold DeclRet at R9; dsimp only at R9; (k_dflt (refine Mine.ex4 R9 fun f s9 s9' B2 om0 => Mine.an5 om0 fun e1 e2 ok2 g2 at2 => ?_); clear om0; (try clear R9)); subst e1; subst e2; simp only [List.append_nil, Bk.led, List.cons_append, List.nil_append] at N9; clear mono apart; have mono := ok2.bk.mono; have apart := ok2.bk.apart; have eA := g2.A; simp only at mono apart eA; rw [← eA] at F9; rw [← eA])
  refine wpAny_call ?_
  k_dflt (k_extra "con_enter")
  k_steps
  all_goals exact ends_of (Mine.ie6 i _ _ ⟨B3, xs3, imms3, kvs⟩ a3 _ ⟨rfl, rfl, ok2.grow g3 ok3, (g2.moreI (fun p hp => .tail _ (.tail _ hp))).trans g3.ext, at3, ⟨f, s9', by show B3.fnames[f]? = _; rw [g3.fnames]; exact at2, rfl⟩⟩) (fun q hq => hq)
end Mine
end
/- T13 -/
section
open PySem PySem.W PyProof.Rows PySem.Calls PySem.Spec
namespace Mine
set_option maxRecDepth 100000
set_option maxHeartbeats 8000000 

noncomputable def opTF (b : Bool) : Str := if b then Str.ofString "true" else Str.ofString "false"
noncomputable def TF (S : BS) : Prop :=
  (∃ (i : Nat) (t t' : Tok) (a : Addr), S.B.tn = .int i t ∧ atKey S.xs (Str.ofString "true", 0, 0, none) = some (a, .int i t')) ∧
  (∃ (i : Nat) (t t' : Tok) (a : Addr), S.B.fn = .int i t ∧ atKey S.xs (Str.ofString "false", 0, 0, none) = some (a, .int i t'))
theorem TF.ext {S S' : BS} (h : TF S) (g : Ext S S') : TF S' := by
  (refine Mine.an2 h fun on0 on1 => ?_; (try clear h); obtain ⟨i, t, t', a, e1, e2⟩ := on0; obtain ⟨j, u, u', b, e3, e4⟩ := on1)
  exact ⟨⟨i, t, t', a, by rw [g.tn]; exact e1, g.at' _ _ e2⟩, ⟨j, u, u', b, by rw [g.fn]; exact e3, g.at' _ _ e4⟩⟩

theorem bool_runs {prog : Program} {w : World} {c : Nat} {S : BS} {b : Bool} (ok : SOK prog w c S) (tf : TF S) :
    Runs prog w 2 368 [.ref (S.B.A 1), .bool b] S.led (TermRet prog w (c + 2) S fun _ k => k = (opTF b, 0, 0, none)) := by
  obtain ⟨B, xs, imms, kvs⟩ := S
  have mono := ok.bk.mono
  have apart := ok.bk.apart
  (refine Mine.an2 tf fun on0 on1 => ?_; (try clear tf); obtain ⟨i, t, t', a', e1, e2⟩ := on0; obtain ⟨j, u, u', b', e3, e4⟩ := on1)
  simp only at mono apart e1 e2 e3 e4
  have ok2 := ok.le (Nat.le_add_right c 2)
  unfold Runs
  intro mean mg mb dp un gd cn' cs a ccd cl outer A₀ base h₀ L m s Q E B' F X N T hk hd hu hret
  rcases s with ⟨hp0, gs0, dr0, tk0, os0⟩
  dsimp only at F N hret
  simp only [BS.led, Bk.led, Bk.dic, List.cons_append, List.nil_append] at N hret
  rw [e1, e3] at N hret
  k_with_none
  k_with "om" => first | (with_reducible first | assumption | exact Mine.r0 (by assumption) | exact Int.natCast_nonneg _ | exact Int.le_refl _ | exact Nat.le_refl _) | (first | lia | omega)
  k_with "rm" => first | ((try dsimp only [depth_under_make, depth_under_kw, depth_in1, depth_deeper, depth_caller, units_in1, units_deeper, Around.mark_units, units_caller, units_under_make, ktrTop]); walk_at "om") | ktr_room | ktr_units
  k_with "con_enter" => (refine' Mine.code_defQ ?k1z29 ?k2z29 ?k3z29 ?k4z29 ?k5z29 ?kAz29 ?kFz29 ?kKz29 ?k6z29 ?k7z29 ?k8z29 ?k9z29 ?kBz29 ?_ ?c2z29 ?c3z29 ?c4z29 ?c5z29; (case kAz29 => exact rfl); (case kFz29 => exact rfl); (case kKz29 => assumption); (case k1z29 => k_asm); (case k2z29 => k_asm); (case k3z29 => k_asm); (case k4z29 => k_asm); (case k5z29 => k_asm); (case k6z29 => k_is); (case k7z29 => k_is); (case k8z29 => walk_at "rm"); (case k9z29 => first | exact BindsTo.of_eq (binds := []) rfl | exact BindsTo.of_eq (binds := [(_, _)]) rfl | exact BindsTo.of_eq (binds := [(_, _), (_, _)]) rfl | exact BindsTo.of_eq (binds := [(_, _), (_, _), (_, _)]) rfl | exact BindsTo.of_eq (binds := [(_, _), (_, _), (_, _), (_, _)]) rfl | exact BindsTo.of_eq (binds := [(_, _), (_, _), (_, _), (_, _), (_, _)]) rfl | exact BindsTo.of_eq rfl); (case c5z29 => decide); (case kBz29 => exact locs rfl); (case c2z29 => exact rfl); (case c3z29 => exact rfl); (case c4z29 => exact rfl); k_whole; intro g' L' h' tk' FG' F' N' B' X' T' S' hL' qk ek)
  k_with "LeaveK" => (k_dflt (refine' Mine.leave_con ?hrz24 ?hSz24 ?hFz24 ?hNz24 ?hqz24 ?_; (case hrz24 => assumption); (case hSz24 => assumption); (case hFz24 => k_asm); (case hNz24 => k_asm); (case hqz24 => exact rfl); k_whole))
  k_with "k_all" => assumption
  k_with "key mem" => fail
  k_with "k_mem" => (k_whole; walk_at "key mem")
  k_with "k_ne" => ((refine neN ?_; (try dsimp only)); first | (refine' Mine.ne_below ?kb9z33 ?km9z33; (case kb9z33 => with_reducible assumption); (case km9z33 => walk_at "key mem")) | (refine' Mine.ne_above ?kb9z33 ?km9z33; (case kb9z33 => with_reducible assumption); (case km9z33 => walk_at "key mem")) | walk_at "ne find" | (first | lia | omega))
  k_with "k_all" => (refine' Mine.all_below ?kb9z30 ?km9z30; (case kb9z30 => with_reducible assumption); (case km9z30 => exact rfl))
  k_with "ne find" => first | with_reducible assumption | (refine Ne.symm ?_; with_reducible assumption) | (refine Nat.ne_of_lt ?_; with_reducible assumption) | (refine Nat.ne_of_gt ?_; with_reducible assumption) | ((with_reducible rename _ ∧ _ => hc9); have hc8 := hc9.1; have hc7 := hc9.2; clear hc9; walk_at "ne find")
  k_with "spliced" => (k_here; (refine PyProof.Rows.args_nil ?_); (try dsimp only [List.cons_append, List.nil_append]); (with_reducible show _ ∧ _))
  k_with "k_mem" => assumption
  cases b with
  | true =>
    refine wpAny_call ?_
    k_dflt (k_extra "con_enter")
    k_steps
    exact ends_of (Mine.ie6 i _ _ ⟨B, xs, imms, kvs⟩ a' _ ⟨rfl, rfl, ok2, Ext.refl _, e2, rfl⟩) (fun q hq => by simp only [BS.led, Bk.led, Bk.dic, List.cons_append, List.nil_append] at hq; rw [e1, e3] at hq; exact hq)
  | false =>
    refine wpAny_call ?_
    k_dflt (k_extra "con_enter")
    k_steps
    exact ends_of (Mine.ie6 j _ _ ⟨B, xs, imms, kvs⟩ b' _ ⟨rfl, rfl, ok2, Ext.refl _, e4, rfl⟩) (fun q hq => by simp only [BS.led, Bk.led, Bk.dic, List.cons_append, List.nil_append] at hq; rw [e1, e3] at hq; exact hq)
end Mine
end
/- Leaf -/
section
open PySem PySem.W PyProof.Rows PySem.Calls PySem.Spec
namespace Mine
set_option maxRecDepth 100000

inductive Leaf where
  | num (r : Bool) (top bottom : Int)
  | bits (v wd : Nat)
  | name (i : Nat)
  | tf (b : Bool)

noncomputable def nameAt (i : Nat) : Str :=
  [Str.ofString "a", Str.ofString "A-1", Str.ofString "<=", Str.ofString "b c", Str.ofString "", Str.ofString "let", Str.ofString "|let|", Str.ofString "7", Str.ofString "é", Str.ofString ":k", Str.ofString "x|y", Str.ofString "p\\q", Str.ofString "|a|"].getD i Str.empty
noncomputable def textAt (i : Nat) : Option Str :=
  [some (Str.ofString "a"), some (Str.ofString "A-1"), some (Str.ofString "<="), some (Str.ofString "|b c|"), some (Str.ofString "||"), some (Str.ofString "let"), some (Str.ofString "|let|"), some (Str.ofString "|7|"), some (Str.ofString "|é|"), some (Str.ofString "|:k|"), none, none, none].getD i none
noncomputable def optV (x : Option Str) (t : Tok) : Value := match x with | some s => .str s t | none => .none
noncomputable def Leaf.Is (S : BS) (cs : List (Str × Value)) (t : Nat) : Leaf → Prop
  | .num r top bottom => GoodNum r top bottom ∧ ∃ a t', atKey S.xs (Str.ofString "num", (if r then 2 else 1), top, some bottom) = some (a, .int t t')
  | .bits v wd => 1 ≤ wd ∧ wd ≤ 70 ∧ v < 2 ^ wd ∧ ∃ (j : Nat) (tj : Tok) (a : Addr) (t' : Tok), valueAt S.kvs wd = some (.int j tj) ∧ atKey S.xs (Str.ofString "bvnum", (j : Int), (v : Int), none) = some (a, .int t t')
  | .name i => i < 13 ∧ (∃ u, valueAt cs (nameAt i) = some (.int t u)) ∧ ∃ (f : Nat) (tf : Tok) (srt : Int) (a : Addr) (t' : Tok), S.B.fnames[f]? = some (.str (nameAt i) tf) ∧ atKey S.xs (Str.ofString "app", srt, (f : Int), none) = some (a, .int t t')
  | .tf b => ∃ a t', atKey S.xs (opTF b, 0, 0, none) = some (a, .int t t')
noncomputable def Leaf.Due (imms : List (Addr × Obj)) (o : Obj) : Leaf → Prop
  | .num r top bottom => ∃ v t u n t1, o = tupO [.str (Str.ofString "number") t1, .ref v, .bool r] n ∧ (v, pairObj top bottom t u) ∈ imms
  | .bits v wd => ∃ n t1 t2 t3, o = tupO [.str (Str.ofString "bits") t1, .int v t2, .int wd t3] n
  | .name i => ∃ n t1 t2, o = tupO [.str (Str.ofString "word") t1, optV (textAt i) t2] n
  | .tf b => ∃ n t1 t2, o = tupO [.str (Str.ofString "word") t1, .str (opTF b) t2] n
noncomputable def ConsOK (S : BS) (cs : List (Str × Value)) : Prop := ∀ i, i < 13 → ∀ v, valueAt cs (nameAt i) = some v → ∃ (t : Nat) (u : Tok), v = .int t u ∧ (Leaf.name i).Is S cs t
theorem Leaf.Is.ext {S S' : BS} {cs cs' : List (Str × Value)} {t : Nat} {l : Leaf} (h : l.Is S cs t) (g : Ext S S') (hc : ∀ k v, valueAt cs k = some v → valueAt cs' k = some v) : l.Is S' cs' t := by
  cases l with
  | num r x y => (refine Mine.an2 h fun h1 om0 => Mine.ex2 om0 fun a t' h2 => ?_; clear om0; (try clear h)); exact ⟨h1, a, t', g.at' _ _ h2⟩
  | bits v wd => (refine Mine.an4 h fun h1 h2 h3 om0 => Mine.ex4 om0 fun j tj a t' om1 => Mine.an2 om1 fun h4 h5 => ?_; clear om0 om1; (try clear h)); exact ⟨h1, h2, h3, j, tj, a, t', g.bv _ _ h4, g.at' _ _ h5⟩
  | name i => (refine Mine.an3 h fun h1 on1 om0 => Mine.ex5 om0 fun f tf srt a t' om1 => Mine.an2 om1 fun h4 h5 => ?_; clear om0 om1; (try clear h); obtain ⟨u, h2⟩ := on1); exact ⟨h1, ⟨u, hc _ _ h2⟩, f, tf, srt, a, t', g.fnames _ _ h4, g.at' _ _ h5⟩
  | tf b => (refine Mine.ex2 h fun a t' h2 => ?_; (try clear h)); exact ⟨a, t', g.at' _ _ h2⟩
theorem ConsOK.ext {S S' : BS} {cs : List (Str × Value)} (h : ConsOK S cs) (g : Ext S S') : ConsOK S' cs := fun i hi v hv => by
  (refine Mine.ex2 (h i hi v hv) fun t u om0 => Mine.an2 om0 fun e l => ?_; clear om0)
  exact ⟨t, u, e, l.ext g fun _ _ h => h⟩
noncomputable def Bin (prog : Program) (w : World) (c : Addr) (at' : Int) (ta : Tok) (o : Obj) : Prop := o.IsDictOf (PySem.strKind prog w) [("cells", .ref c), ("at", .int at' ta)]
noncomputable def LeafRet (prog : Program) (w : World) (k : Nat) (S : BS) (cs : List (Str × Value)) (b c cd : Addr) (cells : Obj) (at' : Int) (r : Value) (tl : List (Addr × Obj)) : Prop :=
  ∃ (x d : Addr) (t : Nat) (tt : Tok) (S' : BS) (o' co' dO : Obj) (ap : Int) (tp : Tok) (cs' : List (Str × Value)) (l : Leaf), r = .ref x ∧ tl = (x, tupO [.int t tt, .ref d] 0) :: (d, dO) :: (b, o') :: (c, cells) :: (cd, co') :: S'.led ∧ Bin prog w c ap tp o' ∧ at' ≤ ap ∧ ap ≤ at' + 10 ∧
    SOK prog w (k + 2) S' ∧ Ext S S' ∧ co'.IsDictOf (strKind prog w) cs' ∧ cs'.length ≤ cs.length + 1 ∧ (∀ k v, valueAt cs k = some v → valueAt cs' k = some v) ∧ ConsOK S' cs' ∧ l.Is S' cs' t ∧ l.Due S'.imms dO ∧
    (∀ p ∈ S'.led, p.1 ≠ b ∧ p.1 ≠ c ∧ p.1 ≠ cd)
noncomputable def BS.rest (S : BS) : List (Addr × Obj) :=
   [(S.B.A 2, PySem.W.listOf S.B.names (S.B.e 2)), (S.B.A 3, PySem.W.listOf S.B.widths (S.B.e 3)), (S.B.A 4, PySem.W.listOf S.B.fnames (S.B.e 4)), (S.B.A 5, PySem.W.listOf S.B.fargs (S.B.e 5)), (S.B.A 6, PySem.W.listOf S.B.fres (S.B.e 6)),
   (S.B.A 7, PySem.W.listOf S.B.ops (S.B.e 7)), (S.B.A 8, PySem.W.listOf S.B.targs (S.B.e 8)), (S.B.A 9, PySem.W.listOf S.B.sorts (S.B.e 9)), (S.B.A 10, PySem.W.listOf S.B.datas (S.B.e 10)),
   (S.B.A 11, S.B.num), (S.B.A 12, S.B.bv)] ++ S.imms
theorem BS.led_eq (S : BS) : S.led = (S.B.A 1, instObj 705 (S.B.A 0)) :: (S.B.A 0, S.B.dic) :: S.rest := rfl
theorem other2 {b c cd : Addr} {o cells co : Obj} {S : BS} {news : List (Addr × Obj)} (hap : ∀ p ∈ S.led, p.1 ≠ b ∧ p.1 ≠ c ∧ p.1 ≠ cd) (hdb : cd ≠ b) (hdc : cd ≠ c) (h1 : (cd, co) ∈ news) (h2 : ∀ p ∈ S.led, p ∈ news) :
    ∀ p ∈ (cd, co) :: S.led, p ∈ news ∧ ∀ q ∈ [(b, o), (c, cells)], q.1 ≠ p.1 := by
  intro p hp
  rcases List.mem_cons.mp hp with rfl | hp
  · refine ⟨h1, fun q hq => ?_⟩
    rcases List.mem_cons.mp hq with rfl | hq
    · exact Ne.symm hdb
    · rcases List.mem_cons.mp hq with rfl | hq
      · exact Ne.symm hdc
      · cases hq
  · refine ⟨h2 p hp, fun q hq => ?_⟩
    rcases List.mem_cons.mp hq with rfl | hq
    · exact Ne.symm (hap p hp).1
    · rcases List.mem_cons.mp hq with rfl | hq
      · exact Ne.symm (hap p hp).2.1
      · cases hq
theorem other3 {b c cd : Addr} {o cells co : Obj} {led : List (Addr × Obj)} {news : List (Addr × Obj)} (hap : ∀ p ∈ led, p.1 ≠ b ∧ p.1 ≠ c ∧ p.1 ≠ cd) (h1 : (b, o) ∈ news) (h2 : (c, cells) ∈ news) (h3 : (cd, co) ∈ news) :
    ∀ p ∈ [(b, o), (c, cells), (cd, co)], p ∈ news ∧ ∀ q ∈ led, q.1 ≠ p.1 := by
  intro p hp
  rcases List.mem_cons.mp hp with rfl | hp
  · exact ⟨h1, fun q hq => (hap q hq).1⟩
  · rcases List.mem_cons.mp hp with rfl | hp
    · exact ⟨h2, fun q hq => (hap q hq).2.1⟩
    · rcases List.mem_cons.mp hp with rfl | hp
      · exact ⟨h3, fun q hq => (hap q hq).2.2⟩
      · cases hp
theorem bvnum_int {prog : Program} {w : World} {c : Nat} {S : BS} {v wd : Int} {t1 t2 : Tok}
    (ok : SOK prog w c S) (hc : c ≤ 900) (h0 : 0 ≤ v) (h1 : 1 ≤ wd) (h2 : wd ≤ 70) (hv : v < 2 ^ wd.toNat) :
    Runs prog w 4 632 [.ref (S.B.A 1), .int v t1, .int wd t2] S.led
      (TermRet prog w (c + 2) S fun S' k => ∃ (j : Nat) (t : Tok), valueAt S'.kvs (wd.toNat : Int) = some (.int j t) ∧ k = (Str.ofString "bvnum", (j : Int), (v.toNat : Int), none)) := by
  (refine Mine.ex1 (Int.eq_ofNat_of_zero_le h0) fun v oq1 => ?_; subst oq1)
  (first | (refine Mine.ex1 (Int.eq_ofNat_of_zero_le (Int.le_trans (by decide) h1)) fun wd oq1 => ?_; subst oq1) | obtain ⟨wd, rfl⟩ := Int.eq_ofNat_of_zero_le (Int.le_trans (by decide) h1))
  simp only [Int.ofNat_eq_natCast, Int.toNat_natCast] at *
  exact bvnum_runs ok hc (by (first | lia | omega)) (by (first | lia | omega)) (by
    have e : (2 : Int) ^ wd = ((2 ^ wd : Nat) : Int) := (Int.natCast_pow 2 wd).symm
    rw [e] at hv; exact Int.ofNat_lt.mp hv)
theorem apart_fresh {S : BS} {v : Addr} (h : ∀ p ∈ S.led, p.1 ≠ v) : ∀ i, i < 13 → v ≠ S.B.A i := by
  intro i hi
  have : i = 0 ∨ i = 1 ∨ i = 2 ∨ i = 3 ∨ i = 4 ∨ i = 5 ∨ i = 6 ∨ i = 7 ∨ i = 8 ∨ i = 9 ∨ i = 10 ∨ i = 11 ∨ i = 12 := or13 _ (by assumption)
  rw [BS.led_eq, BS.rest] at h
  simp only [List.cons_append, List.nil_append, List.forall_mem_cons] at h
  (refine Mine.an13 h fun h1 h0 h2 h3 h4 h5 h6 h7 h8 h9 h10 h11 om0 => Mine.an2 om0 fun h12 _ => ?_; clear om0; (try clear h))
  rcases this with rfl | rfl | rfl | rfl | rfl | rfl | rfl | rfl | rfl | rfl | rfl | rfl | rfl <;> (apply Ne.symm; assumption)
theorem SOK.fresh {prog : Program} {w : World} {k : Nat} {S : BS} (ok : SOK prog w k S) {v : Addr} {o : Obj} (h : ∀ p ∈ S.led, p.1 ≠ v) : SOK prog w k ⟨S.B, S.xs, (v, o) :: S.imms, S.kvs⟩ :=
  SOK.moreI (imms := S.imms) ok (fun p hp => .tail _ hp) (fun p hp i hi => by
    rcases List.mem_cons.mp hp with rfl | hp
    · exact apart_fresh h i hi
    · exact ok.bk.apart p hp i hi)
theorem led_fresh {S : BS} {v : Addr} {o : Obj} {p : Addr × Obj} (hp : p ∈ (⟨S.B, S.xs, (v, o) :: S.imms, S.kvs⟩ : BS).led) : p = (v, o) ∨ p ∈ S.led := by
  rcases List.mem_append.mp hp with hp | hp
  · exact .inr (List.mem_append_left _ hp)
  · rcases List.mem_cons.mp hp with hp | hp
    · exact .inl hp
    · exact .inr (List.mem_append_right _ hp)
theorem numfresh_runs {prog : Program} {w : World} {c : Nat} {S : BS} {r : Bool} {top bottom : Int} {t u ts : Tok} {v : Addr}
    (ok : SOK prog w c S) (hc : c ≤ 1000) (g : GoodNum r top bottom) (hv : ∀ p ∈ S.led, p.1 ≠ v) :
    Runs prog w 4 513 [.ref (S.B.A 1), .ref v, .int (if r then 2 else 1) ts] (BS.led ⟨S.B, S.xs, (v, pairObj top bottom t u) :: S.imms, S.kvs⟩)
      (TermRet prog w (c + 1) S fun S' k => k = (Str.ofString "num", (if r then 2 else 1), top, some bottom) ∧ (v, pairObj top bottom t u) ∈ S'.imms) :=
  (numterm_runs (ok.fresh hv) hc g (.head _)).mono fun _ _ h => by
    (refine Mine.ex6 h fun i t t' S' a k om0 => Mine.an6 om0 fun h1 h2 h3 h4 h5 h6 => ?_; clear om0; (try clear h))
    exact ⟨i, t, t', S', a, k, h1, h2, h3, h4.moreI (fun p hp => .tail _ hp), h5, h6, h4.imms _ (.head _)⟩
theorem News.swap {h₀ h : Heap} {L : Addr} {A B : List (Addr × Obj)} (N : News h₀ L h (A ++ B)) : News h₀ L h (B ++ A) := fun p hp => N p (by rcases List.mem_append.mp hp with h | h; exact List.mem_append_right _ h; exact List.mem_append_left _ h)
theorem term_use {prog : Program} {w : World} {n : Nat} {f : Addr} {vs : List Value} {foot rest news : List (Addr × Obj)} {nn : Nat} {S : BS} {P : BS → BKey → Prop} {b c cd : Addr} {o oc od : Obj} (C : Runs prog w n f vs foot (TermRet prog w nn S P))
    {mean : ExcName → Option Value} {mg mb : Str → Option Value} {dp un : Nat} {gd : Option (List Code)} {cn : Str} {cs : Scope} {a : Addr} {ccd : Value} {cl : List (Str × Addr)} {outer : List Env} {A₀ : Around} {base h₀ : Heap} {L : Addr} {m : Str → Option Value} {hp0 : Heap} {gs0 : Array GenState} {dr0 : Drawn} {tk0 : Nat} {os0 : OsState}
    {Q E : Value → Shared → Prop} (B : Below A₀ base outer h₀) (F : Fr h₀ L hp0 m) (X : (Mine.heap w.params).In h₀) (N : News h₀ L hp0 news)
    (T : Top Mine.view (looseW Mine.view Mine.loose) mean mg mb h₀) (hk : cs.kind = .function)
    (hd : dp + n < recursionLimit) (hu : un + 8 * n < cLine) (hf : ∀ p ∈ foot, p ∈ news) (ho : ∀ p ∈ (b, o) :: (c, oc) :: (cd, od) :: rest, p ∈ news ∧ ∀ q ∈ foot, q.1 ≠ p.1)
    (ret : ∀ (i : Nat) (t t' : Tok) (S' : BS) (a : Addr) (key : BKey) (W : List (Addr × Obj)) (h' : Heap) (tk' : Nat), SOK prog w nn S' → Ext S S' → atKey S'.xs key = some (a, .int i t') → P S' key → (∀ p ∈ S'.led, p.1 ≠ b ∧ p.1 ≠ c ∧ p.1 ≠ cd) → S'.led = W →
      (∀ p ∈ W, p.1 ≠ b) → (∀ p ∈ W, p.1 ≠ c) → (∀ p ∈ W, p.1 ≠ cd) → Fr h₀ L h' m → News h₀ L h' (((b, o) :: (c, oc) :: (cd, od) :: rest) ++ W) → Q (.int i t) ⟨h', gs0, dr0, tk', os0⟩) :
    wpAny (model prog w) (ktrTop dp un gd cn cs L a ccd cl outer) (call (.ref f) vs) Q E ⟨hp0, gs0, dr0, tk0, os0⟩ :=
  C.useR B F X N T hk hd hu hf ho (fun r tl h' tk' F' N' f R => by
    (refine Mine.ex6 R fun i t t' S' a key om0 => Mine.an6 om0 fun e1 e2 ok ex hat hP => ?_; clear om0; (try clear R))
    subst e1; subst e2
    have hap : ∀ p ∈ S'.led, p.1 ≠ b ∧ p.1 ≠ c ∧ p.1 ≠ cd := fun p hp => ⟨f p hp _ m0, f p hp _ m1, f p hp _ m2⟩
    exact ret i t t' S' a key _ h' tk' ok ex hat hP hap rfl (fun p hp => (hap p hp).1) (fun p hp => (hap p hp).2.1) (fun p hp => (hap p hp).2.2) F' (News.swap N'))
end Mine
end
/- Names -/
section
open PySem PySem.W PyProof.Rows PySem.Calls PySem.Spec
namespace Mine
set_option maxRecDepth 100000
set_option maxHeartbeats 1600000
theorem name_tups {w : World} {h : Heap} (X : (Mine.heap w.params).In h) :
    ∃ items, IsTup h 803 items ∧ items.size = 13 ∧ ∀ j, j < 13 → ∃ (a : Addr) (t t' : Tok), items[j]? = some (.ref a) ∧ IsTup h a #[.str (nameAt j) t, optV (textAt j) t'] := by
  refine ⟨_, ⟨_, X _ _ (by k_is), rfl, _, rfl⟩, rfl, fun j hj => ?_⟩
  have : j = 0 ∨ j = 1 ∨ j = 2 ∨ j = 3 ∨ j = 4 ∨ j = 5 ∨ j = 6 ∨ j = 7 ∨ j = 8 ∨ j = 9 ∨ j = 10 ∨ j = 11 ∨ j = 12 := or13 _ (by assumption)
  rcases this with rfl | rfl | rfl | rfl | rfl | rfl | rfl | rfl | rfl | rfl | rfl | rfl | rfl <;> first | exact ⟨_, _, _, rfl, ⟨_, X _ _ (by k_is), rfl, _, rfl⟩⟩ | exact ⟨_, _, 0, rfl, ⟨_, X _ _ (by k_is), rfl, _, rfl⟩⟩

theorem names_item {prog : Program} {w : World} {A : Around} {E Q : Value → Shared → Prop} {s : Shared} {h₀ : Heap} {L : Addr} {m : Str → Option Value} {value slice : Expr} {i : Int} {u : Tok}
    (F : Fr h₀ L s.heap m) (X : (Mine.heap w.params).In h₀) (h0 : 0 ≤ i) (h1 : i < 13)
    (h : ∀ (a : Addr) (t t' : Tok), IsTup s.heap a #[.str (nameAt i.toNat) t, optV (textAt i.toNat) t'] → Q (.ref a) s)
    (hs : subscripted slice false (.ref 803) (.int i u) = operate [.ref 803, .int i u] (getItem (.ref 803) (.int i u))) (hg : ∀ r, letTemporaryGo value (.ref 803) r = pure ()) :
    wpAny (model prog w) A (subscriptTail value slice (.ref 803) (.int i u)) Q E s := by
  (refine Mine.ex1 (name_tups (X.keeps F.keep)) fun items om0 => Mine.an3 om0 fun ht hsz hn => ?_; clear om0)
  (first | (refine Mine.ex3 (hn i.toNat (by (first | lia | omega))) fun a t t' om0 => Mine.an2 om0 fun hx hp => ?_; clear om0) | obtain ⟨a, t, t', hx, hp⟩ := hn i.toNat (by (first | lia | omega)))
  refine item_tuple ht (by (first | lia | omega)) (by (first | lia | omega)) (j := i.toNat) ?_ hx (h a t t' hp) hs hg
  rw [hsz]
  exact seq_at h0 ((Int.toNat_lt h0).mpr h1)
end Mine
end
/- T14 -/
section
open PySem PySem.W PyProof.Rows PySem.Calls PySem.Spec
namespace Mine
set_option maxRecDepth 100000
set_option maxHeartbeats 1600000 



theorem News.ne_obj {h₀ h : Heap} {L a b : Addr} {x y : Obj} {news : List (Addr × Obj)} (N : News h₀ L h news) (h1 : (a, x) ∈ news) (h2 : (b, y) ∈ news) (hne : x ≠ y) : a ≠ b := fun e => by
  have e1 := (N _ h1).1
  have e2 := (N _ h2).1
  simp only at e1 e2
  rw [e, e2] at e1
  exact hne (Option.some.inj e1).symm
theorem pair_ne_dict {K : Type} [DecidableEq K] {prog : Program} {w : World} {knd : KeyKind prog w K} {kvs : List (K × Value)} {o : Obj} {x y : Int} {t u : Tok} (h : o.IsDictOf knd kvs) : pairObj x y t u ≠ o := fun e => by
  (refine Mine.ex2 h fun _ _ om0 => Mine.an2 om0 fun h1 _ => ?_; clear om0; (try clear h))
  rw [← e] at h1
  exact absurd (show Value.type "tuple" = Value.type "dict" from h1.1) (by decide)
theorem pair_ne_list {x y : Int} {t u : Tok} {vs : Array Value} {n : Nat} : pairObj x y t u ≠ PySem.W.listOf vs n := fun e => by
  have := congrArg Obj.cls e
  exact absurd (show Value.type "tuple" = Value.type "list" from this) (by decide)
theorem hap_fresh {S : BS} {v b c cd : Addr} {o : Obj} (hap : ∀ p ∈ S.led, p.1 ≠ b ∧ p.1 ≠ c ∧ p.1 ≠ cd) (h1 : v ≠ b) (h2 : v ≠ c) (h3 : v ≠ cd) : ∀ p ∈ (⟨S.B, S.xs, (v, o) :: S.imms, S.kvs⟩ : BS).led, p.1 ≠ b ∧ p.1 ≠ c ∧ p.1 ≠ cd := fun p hp => by
  rcases led_fresh hp with rfl | hp
  · exact ⟨h1, h2, h3⟩
  · exact hap p hp
theorem leaf_bits {S : BS} {cs : List (Str × Value)} {v wd : Int} {t : Nat} {j : Nat} {tj t' : Tok} {a : Addr} {k : BKey} (h0 : 0 ≤ v) (h1 : 1 ≤ wd) (h2 : wd ≤ 70) (h3 : v < 2 ^ wd.toNat) (h4 : valueAt S.kvs (wd.toNat : Int) = some (.int j tj)) (hk : k = (Str.ofString "bvnum", (j : Int), (v.toNat : Int), none)) (h5 : atKey S.xs k = some (a, .int t t')) :
    (Leaf.bits v.toNat wd.toNat).Is S cs t := by
  subst hk
  refine ⟨by (first | lia | omega), by (first | lia | omega), ?_, j, tj, a, t', h4, h5⟩
  have e : ((2 : Int) ^ wd.toNat) = ((2 ^ wd.toNat : Nat) : Int) := (Int.natCast_pow 2 _).symm
  rw [e] at h3
  (first | lia | omega)
theorem due_bits {imms : List (Addr × Obj)} {v wd : Int} {n : Nat} {t1 t2 t3 : Tok} (h0 : 0 ≤ v) (h1 : 1 ≤ wd) : (Leaf.bits v.toNat wd.toNat).Due imms (tupO [.str (Str.ofString "bits") t1, .int v t2, .int wd t3] n) :=
  ⟨n, t1, t2, t3, by rw [Int.toNat_of_nonneg h0, Int.toNat_of_nonneg (by (first | lia | omega) : (0 : Int) ≤ wd)]⟩
theorem opTF_eq {i : Int} : opTF (i == 1) = if i = 1 then Str.ofString "true" else Str.ofString "false" := by
  unfold opTF; by_cases h : i = 1 <;> simp [h]
theorem valueAt_keep {K : Type} [DecidableEq K] {kvs : List (K × Value)} {k k' : K} {v v' : Value} (h0 : valueAt kvs k = none) (h : valueAt kvs k' = some v') : valueAt (stored kvs k v) k' = some v' := by
  rw [stored_absent h0]; exact valueAt_app h
theorem cons_new {S S' : BS} {cs : List (Str × Value)} {i : Nat} {t : Nat} {u t' : Tok} {a : Addr} {f : Nat} {tf : Tok} {srt : Int} {k : BKey} (hi : i < 13) (hc : ConsOK S cs) (g : Ext S S') (h0 : valueAt cs (nameAt i) = none) (h1 : S'.B.fnames[f]? = some (.str (nameAt i) tf)) (hk : k = (Str.ofString "app", srt, (f : Int), none)) (h2 : atKey S'.xs k = some (a, .int t t')) :
    ConsOK S' (stored cs (nameAt i) (.int t u)) ∧ (Leaf.name i).Is S' (stored cs (nameAt i) (.int t u)) t := by
  subst hk
  have me : (Leaf.name i).Is S' (stored cs (nameAt i) (.int t u)) t := ⟨hi, ⟨u, valueAt_stored h0⟩, f, tf, srt, a, t', h1, h2⟩
  refine ⟨fun j hj v hv => ?_, me⟩
  by_cases e : nameAt j = nameAt i
  · rw [e, valueAt_stored h0] at hv
    injection hv with hv
    refine ⟨t, u, hv.symm, ⟨hj, ⟨u, by rw [e]; exact valueAt_stored h0⟩, f, tf, srt, a, t', by rw [e]; exact h1, h2⟩⟩
  · rw [stored_absent h0] at hv
    have : valueAt cs (nameAt j) = some v := by
      unfold valueAt at *
      rw [List.find?_append] at hv
      cases e2 : cs.find? (fun kv => kv.1 = nameAt j) with
      | some x => rw [e2] at hv; exact hv
      | none => rw [e2] at hv; simp [Ne.symm e] at hv
    (refine Mine.ex2 (hc j hj v this) fun t9 u9 om0 => Mine.an2 om0 fun e9 l9 => ?_; clear om0)
    exact ⟨t9, u9, e9, l9.ext g fun _ _ h => valueAt_keep h0 h⟩
theorem len_stored {K : Type} [DecidableEq K] {kvs : List (K × Value)} {k : K} {v : Value} (h0 : valueAt kvs k = none) : (stored kvs k v).length ≤ kvs.length + 1 := by
  rw [stored_absent h0, List.length_append]; exact Nat.le_refl _
theorem good_eq {i x y : Int} (g : GoodNum (i == 1) x y) (h : i = 1) : GoodNum true x y := by subst h; exact g
theorem good_ne {i x y : Int} (g : GoodNum (i == 1) x y) (h : ¬ i = 1) : GoodNum false x y := by
  have e : (i == 1) = false := by simpa using h
  rw [e] at g; exact g
theorem notin_two {prog : Program} {w : World} {K : Type} [DecidableEq K] {knd : KeyKind prog w K} {A : Around} {E : Value → Shared → Prop} {s : Shared} {h₀ : Heap} {L d : Addr} {news : List (Addr × Obj)} {o : Obj} {kvs : List (K × Value)} {k : K} {key : Value} {Q : Value → Shared → Prop}
    (N : News h₀ L s.heap news) (hp : (d, o) ∈ news) (hd : o.IsDictOf knd kvs) (lo : (d == sysModules) = false) (hkey : knd.is k key = true) (h1 : valueAt kvs k = none → Q (.bool true) { s with toks := s.toks + 1 }) (h2 : ∀ v, valueAt kvs k = some v → Q (.bool false) { s with toks := s.toks + 1 }) :
    wpAny (model prog w) A (compareOp .NotIn key (.ref d)) Q E s := by
  cases e : valueAt kvs k with
  | none => exact kdg_notin N hp hd lo hkey false (by simp [e]) (h1 e)
  | some v => exact kdg_notin N hp hd lo hkey true (by simp [e]) (h2 v e)

theorem leaf_end {prog : Program} {w : World} {k : Nat} {S S2 : BS} {cs cs' : List (Str × Value)} {b c cd x d : Addr} {cells o' co' dO : Obj} {at' ap : Int} {tp tt : Tok} {t : Nat} {l : Leaf} (h1 : Bin prog w c ap tp o') (h2 : at' ≤ ap) (h3 : ap ≤ at' + 10) (h4 : SOK prog w (k + 2) S2) (h5 : Ext S S2)
    (h6 : co'.IsDictOf (strKind prog w) cs') (h7 : cs'.length ≤ cs.length + 1) (h8 : ∀ k v, valueAt cs k = some v → valueAt cs' k = some v) (h9 : ConsOK S2 cs') (h10 : l.Is S2 cs' t) (h11 : l.Due S2.imms dO) (h12 : ∀ p ∈ S2.led, p.1 ≠ b ∧ p.1 ≠ c ∧ p.1 ≠ cd) :
    ConEnd (LeafRet prog w k S cs b c cd cells at') (.ref x) ((x, tupO [.int t tt, .ref d] 0) :: (d, dO) :: (b, o') :: (c, cells) :: (cd, co') :: S2.led) :=
  ends_of (Mine.ie12 x d t tt S2 o' co' dO ap tp cs' l ⟨rfl, rfl, h1, h2, h3, h4, h5, h6, h7, h8, h9, h10, h11, h12⟩) (fun _ h => h)
theorem due_num {imms : List (Addr × Obj)} {i top bottom : Int} {r : Bool} {v : Addr} {t1 t u : Tok} (h : (i == 1) = r) (hv : (v, pairObj top bottom t u) ∈ imms) : (Leaf.num r top bottom).Due imms (tupO [.str (Str.ofString "number") t1, .ref v, .bool (i == 1)] 0) := by
  rw [h]; exact ⟨v, t, u, 0, t1, rfl, hv⟩
theorem leaf_tf {S : BS} {cs : List (Str × Value)} {t : Nat} {t' : Tok} {a : Addr} {k : BKey} {b : Bool} (hk : k = (opTF b, 0, 0, none)) (h5 : atKey S.xs k = some (a, .int t t')) : (Leaf.tf b).Is S cs t := by subst hk; exact ⟨a, t', h5⟩
theorem leaf_runs {prog : Program} {w : World} {k : Nat} {S : BS} {cs : List (Str × Value)} {b c cd : Addr} {cn : Nat} {at' : Int} {ta : Tok} {cells : List Int} {vs : List Value} {o co : Obj}
    (hd : Bin prog w c at' ta o) (hcb : c ≠ b) (hdb : cd ≠ b) (hdc : cd ≠ c) (hv : IntsAre vs cells) (hl : cells.length ≤ 63) (h0 : 0 ≤ at') (h1 : at' < 800)
    (ok : SOK prog w k S) (tf : TF S) (hk9 : k ≤ 800) (hcd : co.IsDictOf (strKind prog w) cs) (hlo : (cd == sysModules) = false) (hcs : ConsOK S cs) (hlen : cs.length ≤ 800) (hap : ∀ p ∈ S.led, p.1 ≠ b ∧ p.1 ≠ c ∧ p.1 ≠ cd) :
    Runs prog w 6 824 [.ref b, .ref (S.B.A 1), .ref cd] ((b, o) :: (c, PySem.W.listOf vs.toArray cn) :: (cd, co) :: S.led) (LeafRet prog w k S cs b c cd (PySem.W.listOf vs.toArray cn) at') := by
  unfold Runs
  intro mean mg mb dp un gd cn' cs' a ccd cl outer A₀ base h₀ L m s Q E B' F X N T hk hd' hu hret
  rcases s with ⟨hp0, gs0, dr0, tk0, os0⟩
  dsimp only at F N hret
  unfold Bin at hd
  rw [S.led_eq] at N hret
  obtain ⟨W, hW⟩ : ∃ W, S.rest = W := ⟨_, rfl⟩
  have q1 := hap (S.B.A 1, instObj 705 (S.B.A 0)) (by rw [S.led_eq]; exact .head _)
  have q0 := hap (S.B.A 0, S.B.dic) (by rw [S.led_eq]; exact .tail _ (.head _))
  (refine Mine.an3 q1 fun q1b q1c q1d => ?_; (try clear q1))
  (refine Mine.an3 q0 fun q0b q0c q0d => ?_; (try clear q0))
  simp only at q1b q1c q1d q0b q0c q0d
  have q01 := mono_ne ok.bk.mono (i := 0) (j := 1) (by decide) (by decide)
  have hWr : ∀ p ∈ W, p ∈ S.led := fun p hp => by rw [S.led_eq, hW]; exact .tail _ (.tail _ hp)
  have hWb : ∀ p ∈ W, p.1 ≠ b := fun p hp => (hap p (hWr p hp)).1
  have hWc : ∀ p ∈ W, p.1 ≠ c := fun p hp => (hap p (hWr p hp)).2.1
  have hWd : ∀ p ∈ W, p.1 ≠ cd := fun p hp => (hap p (hWr p hp)).2.2
  rw [hW] at N hret
  k_with_none
  k_with "om" => first | (with_reducible first | assumption | exact Mine.r2 (by assumption) (by k_dflt exact rfl) | exact Mine.r0 (by assumption) | exact Mine.n2 (by assumption) (by k_dflt exact rfl) | exact Mine.i0 (by assumption) (by k_dflt exact rfl) | exact Mine.i1 (by assumption) (by k_dflt exact rfl) | exact Mine.i2 (by assumption) (by k_dflt exact rfl) | exact Mine.i3 (by assumption) (by k_dflt exact rfl) | exact Mine.up2 (by assumption) | exact Mine.up4 (by assumption) (by k_dflt exact rfl) | exact Mine.t2 (by k_dflt exact rfl) | exact Mine.t3 (by k_dflt exact rfl) | exact Mine.t4 (by k_dflt exact rfl) | exact Int.natCast_nonneg _ | exact Int.le_refl _ | exact Nat.le_refl _ | (refine' Mine.ne_above ?kb8z18 ?km8z18; (case kb8z18 => with_reducible assumption); (case km8z18 => walk_at "key mem")) | (refine Mine.up0 ?_; walk_at "om") | (refine Mine.up3 ?_; walk_at "om")) | (first | lia | omega)
  k_with "rm" => first | ((try dsimp only [depth_under_make, depth_under_kw, depth_in1, depth_deeper, depth_caller, units_in1, units_deeper, Around.mark_units, units_caller, units_under_make, ktrTop]); walk_at "om") | ktr_room | ktr_units
  k_with "con_enter" => (refine' Mine.code_defQ ?k1z29 ?k2z29 ?k3z29 ?k4z29 ?k5z29 ?kAz29 ?kFz29 ?kKz29 ?k6z29 ?k7z29 ?k8z29 ?k9z29 ?kBz29 ?_ ?c2z29 ?c3z29 ?c4z29 ?c5z29; (case kAz29 => exact rfl); (case kFz29 => exact rfl); (case kKz29 => assumption); (case k1z29 => k_asm); (case k2z29 => k_asm); (case k3z29 => k_asm); (case k4z29 => k_asm); (case k5z29 => k_asm); (case k6z29 => k_is); (case k7z29 => k_is); (case k8z29 => walk_at "rm"); (case k9z29 => first | exact BindsTo.of_eq (binds := []) rfl | exact BindsTo.of_eq (binds := [(_, _)]) rfl | exact BindsTo.of_eq (binds := [(_, _), (_, _)]) rfl | exact BindsTo.of_eq (binds := [(_, _), (_, _), (_, _)]) rfl | exact BindsTo.of_eq (binds := [(_, _), (_, _), (_, _), (_, _)]) rfl | exact BindsTo.of_eq (binds := [(_, _), (_, _), (_, _), (_, _), (_, _)]) rfl | exact BindsTo.of_eq rfl); (case c5z29 => decide); (case kBz29 => exact locs rfl); (case c2z29 => exact rfl); (case c3z29 => exact rfl); (case c4z29 => exact rfl); k_whole; intro g' L' h' tk' FG' F' N' B' X' T' S' hL' qk ek)
  k_with "newTuple" => (k_here; k_dflt (refine' Mine.newTupleS ?Fz21 ?Nz21 ?ez21 ?zz21 ?_; (case Fz21 => k_asm); (case Nz21 => k_asm); (case ez21 => (dsimp only [List.map]; (try exact rfl))); (case zz21 => kmk_size)); intro D' h' l1 F' N'; (try k_sweep))
  k_with "LeaveK" => (k_dflt (refine' Mine.leave_con ?hrz24 ?hSz24 ?hFz24 ?hNz24 ?hqz24 ?_; (case hrz24 => assumption); (case hSz24 => assumption); (case hFz24 => k_asm); (case hNz24 => k_asm); (case hqz24 => exact rfl); k_whole))
  k_with "k_all" => assumption
  k_with "subscriptTail" => (k_here; (with_reducible show wpAny _ _ (subscriptTail _ _ (Value.ref _) (Value.str _ _)) _ _ _); k_dflt (refine' kda_item (knd := PySem.strKind _ _) ?Nz25 ?pz25 ?dz25 (strKind_is _ _ _ _) ?vz25 ?_; (case Nz25 => k_asm); (case pz25 => k_mem); (case dz25 => k_asm); (case vz25 => first | rfl | assumption); k_whole))
  k_with "setItem ref str" => (k_here; k_dflt (refine' kda_set (knd := PySem.strKind _ _) ?Fz26 ?Nz26 ?Uz26 ?dz26 (strKind_is _ _ _ _) ?zz26 ?_; (case Fz26 => k_asm); (case Nz26 => k_asm); (case Uz26 => k_updF); (case dz26 => k_asm); (case zz26 => first | (rw [sizeLine_eq]; exact Nat.le_of_ble_eq_true (by with_unfolding_all rfl)) | (rw [sizeLine_eq]; (first | lia | omega)))); intro h' o' F' N' hd'; (try rw [Mine.stored_bin] at hd'); (try dsimp only at N'))
  k_with "key mem" => with_reducible first | exact Mine.m0 | exact Mine.m2
  k_with "k_mem" => (k_whole; walk_at "key mem")
  k_with "k_ne" => ((refine neN ?_; (try dsimp only)); first | (refine' Mine.ne_below ?kb9z33 ?km9z33; (case kb9z33 => with_reducible assumption); (case km9z33 => walk_at "key mem")) | (refine' Mine.ne_above ?kb9z33 ?km9z33; (case kb9z33 => with_reducible assumption); (case km9z33 => walk_at "key mem")) | walk_at "ne find" | (first | lia | omega))
  k_with "k_all" => (refine' Mine.all_below ?kb9z30 ?km9z30; (case kb9z30 => with_reducible assumption); (case km9z30 => exact rfl))
  k_with "ne find" => first | with_reducible assumption | (refine Ne.symm ?_; with_reducible assumption) | (refine Nat.ne_of_lt ?_; with_reducible assumption) | (refine Nat.ne_of_gt ?_; with_reducible assumption) | ((with_reducible rename _ ∧ _ => hc9); have hc8 := hc9.1; have hc7 := hc9.2; clear hc9; walk_at "ne find")
  k_with "spliced" => (k_here; (refine PyProof.Rows.args_nil ?_); (try dsimp only [List.cons_append, List.nil_append]); (with_reducible show _ ∧ _))
  k_with "call ref" => (k_here; (with_reducible show wpAny _ _ (call (Value.ref 810) _) _ _ _); k_dflt (refine' Mine.scoop_use ?k1z125 ?k2z125 ?k3z125 ?k4z125 ?k5z125 ?kKz125 ?Uz125 ?dz125 ?cz125 ?cbz125 ?vz125 ?lz125 ?p0z125 ?p1z125 ?pmz125 ?kdz125 ?kuz125 ?_; (case k1z125 => k_asm); (case k2z125 => k_asm); (case k3z125 => k_asm); (case k4z125 => k_asm); (case k5z125 => k_asm); (case kKz125 => first | exact rfl | assumption); (case Uz125 => k_updF); (case dz125 => assumption); (case cz125 => k_mem); (case cbz125 => first | assumption | k_ne); (case vz125 => assumption); (case lz125 => assumption); (case p0z125 => walk_at "om"); (case p1z125 => walk_at "om"); (case pmz125 => decide); (case kdz125 => walk_at "rm"); (case kuz125 => walk_at "rm")); intro i' t' t2' o' h' tk' F' N' hd' i0' i1'; (try dsimp only at N'); (try k_sweep))
  k_with "k_ne" => (refine neN ?_; (try dsimp only); first | exact mono_ne (by assumption) (by decide) (by decide) | exact mono_ne' (by assumption) (by decide) (by decide) | assumption | exact Ne.symm (by assumption))
  k_with "k_mem" => assumption
  k_with "call ref" => (k_here; (with_reducible show wpAny _ _ (call (Value.ref 817) _) _ _ _); k_dflt (refine' Mine.Runs.useR (other := _) (Mine.value_runs ?dz106 ?cbz106 ?vz106 ?lz106 ?p0z106 ?p1z106) ?k1z106 ?k2z106 ?k3z106 ?k4z106 ?k5z106 ?kKz106 ?kdz106 ?kuz106 ?kfz106 ?koz106 ?_; (case k1z106 => k_asm); (case k2z106 => k_asm); (case k3z106 => k_asm); (case k4z106 => k_asm); (case k5z106 => k_asm); (case kKz106 => first | exact rfl | assumption); (case dz106 => assumption); (case cbz106 => first | assumption | k_ne); (case vz106 => assumption); (case lz106 => assumption); (case p0z106 => walk_at "om"); (case p1z106 => walk_at "om"); (case kfz106 => k_extra "value foot"); (case koz106 => k_extra "value other"); (case kdz106 => walk_at "rm"); (case kuz106 => walk_at "rm")); (k_extra "value then"))
  k_with "call ref" => (k_here; (with_reducible show wpAny _ _ (call (Value.ref 513) _) _ _ _); k_dflt (refine' Mine.term_use (rest := _) (Mine.numfresh_runs (r := true) ?okz107 ?hcz107 ?gz107 ?hvz107) ?k1z107 ?k2z107 ?k3z107 ?k4z107 ?k5z107 ?kKz107 ?kdz107 ?kuz107 ?kfz107 ?koz107 ?_; (case k1z107 => k_asm); (case k2z107 => k_asm); (case k3z107 => k_asm); (case k4z107 => k_asm); (case k5z107 => k_asm); (case kKz107 => first | exact rfl | assumption); (case okz107 => assumption); (case hcz107 => walk_at "om"); (case gz107 => k_extra "num g"); (case hvz107 => assumption); (case kfz107 => k_extra "num foot"); (case koz107 => k_extra "num other"); (case kdz107 => walk_at "rm"); (case kuz107 => walk_at "rm")); (k_extra "num then"))
  k_with "call ref" => (k_here; (with_reducible show wpAny _ _ (call (Value.ref 513) _) _ _ _); k_dflt (refine' Mine.term_use (rest := _) (Mine.numfresh_runs (r := false) ?okz108 ?hcz108 ?gz108 ?hvz108) ?k1z108 ?k2z108 ?k3z108 ?k4z108 ?k5z108 ?kKz108 ?kdz108 ?kuz108 ?kfz108 ?koz108 ?_; (case k1z108 => k_asm); (case k2z108 => k_asm); (case k3z108 => k_asm); (case k4z108 => k_asm); (case k5z108 => k_asm); (case kKz108 => first | exact rfl | assumption); (case okz108 => assumption); (case hcz108 => walk_at "om"); (case gz108 => k_extra "num g"); (case hvz108 => assumption); (case kfz108 => k_extra "num foot"); (case koz108 => k_extra "num other"); (case kdz108 => walk_at "rm"); (case kuz108 => walk_at "rm")); (k_extra "num then"))
  k_with "call ref" => (k_here; (with_reducible show wpAny _ _ (call (Value.ref 632) _) _ _ _); k_dflt (refine' Mine.term_use (rest := _) (Mine.bvnum_int ?okz109 ?hcz109 ?h0z109 ?h1z109 ?h2z109 ?hvz109) ?k1z109 ?k2z109 ?k3z109 ?k4z109 ?k5z109 ?kKz109 ?kdz109 ?kuz109 ?kfz109 ?koz109 ?_; (case k1z109 => k_asm); (case k2z109 => k_asm); (case k3z109 => k_asm); (case k4z109 => k_asm); (case k5z109 => k_asm); (case kKz109 => first | exact rfl | assumption); (case okz109 => assumption); (case hcz109 => walk_at "om"); (case h0z109 => k_extra "bvn 0"); (case h1z109 => walk_at "om"); (case h2z109 => walk_at "om"); (case hvz109 => k_extra "bvn v"); (case kfz109 => k_extra "led foot"); (case koz109 => k_extra "led other"); (case kdz109 => walk_at "rm"); (case kuz109 => walk_at "rm")); (k_extra "bvn then"))
  k_with "call ref" => (k_here; (with_reducible show wpAny _ _ (call (Value.ref 242) _) _ _ _); k_dflt (refine' Mine.term_use (rest := _) (Mine.fresh_runs ?okz110 ?hcz110) ?k1z110 ?k2z110 ?k3z110 ?k4z110 ?k5z110 ?kKz110 ?kdz110 ?kuz110 ?kfz110 ?koz110 ?_; (case k1z110 => k_asm); (case k2z110 => k_asm); (case k3z110 => k_asm); (case k4z110 => k_asm); (case k5z110 => k_asm); (case kKz110 => first | exact rfl | assumption); (case okz110 => assumption); (case hcz110 => walk_at "om"); (case kfz110 => k_extra "led foot"); (case koz110 => k_extra "led other"); (case kdz110 => walk_at "rm"); (case kuz110 => walk_at "rm")); (k_extra "fresh then"))
  k_with "call ref" => (k_here; (with_reducible show wpAny _ _ (call (Value.ref 368) _) _ _ _); k_dflt (refine' Mine.term_use (rest := _) (Mine.bool_runs ?okz111 ?tfz111) ?k1z111 ?k2z111 ?k3z111 ?k4z111 ?k5z111 ?kKz111 ?kdz111 ?kuz111 ?kfz111 ?koz111 ?_; (case k1z111 => k_asm); (case k2z111 => k_asm); (case k3z111 => k_asm); (case k4z111 => k_asm); (case k5z111 => k_asm); (case kKz111 => first | exact rfl | assumption); (case okz111 => assumption); (case tfz111 => assumption); (case kfz111 => k_extra "led foot"); (case koz111 => k_extra "led other"); (case kdz111 => walk_at "rm"); (case kuz111 => walk_at "rm")); (k_extra "bool then"))
  k_with "subscriptTail" => (k_here; (with_reducible show wpAny _ _ (subscriptTail _ _ (Value.ref 803) (Value.int _ _)) _ _ _); k_dflt (refine' Mine.names_item ?Fz112 ?Xz112 ?p0z112 ?p1z112 ?_ (by with_unfolding_all rfl) (by intro _; with_unfolding_all rfl); (case Fz112 => k_asm); (case Xz112 => k_asm); (case p0z112 => walk_at "om"); (case p1z112 => walk_at "om"); k_whole); intro a' t' t2' hp')
  k_with "compareOp NotIn str ref" => (k_here; k_dflt (refine' notin_two (knd := PySem.strKind _ _) ?Nz113 ?pz113 ?dz113 ?loz113 (strKind_is _ _ _ _) ?_ ?_; (case Nz113 => k_asm); (case pz113 => k_mem); (case dz113 => assumption); (case loz113 => assumption); k_whole))
  k_with "subscriptTail" => (k_here; (with_reducible show wpAny _ _ (subscriptTail _ _ (Value.ref _) (Value.str _ _)) _ _ _); k_dflt (refine' kda_item (knd := PySem.strKind _ _) ?Nz114 ?pz114 ?dz114 (strKind_is _ _ _ _) ?vz114 ?_; (case Nz114 => k_asm); (case pz114 => k_mem); (case dz114 => k_asm); (case vz114 => exact valueAt_stored (by assumption)); k_whole))
  k_with "value foot" => exact List.forall_mem_cons.mpr ⟨by k_mem, List.forall_mem_cons.mpr ⟨by k_mem, List.forall_mem_nil _⟩⟩
  k_with "value other" => (refine other2 (co := co) hap hdb hdc ?_ ?_; k_mem; (intro p hp; rw [S.led_eq, hW] at hp; (repeat (first | exact hp | refine List.Mem.tail _ ?_))))
  k_with "value then" => (intro r9 tl9 h9 tk9 F9 N9 f9 R9; (k_dflt (refine Mine.ex8 R9 fun v top bottom t1 t2 o9 ap tp om0 => Mine.an6 om0 fun e1 gn l1 l2 hd9 e2 => ?_); clear om0; (try clear R9)); subst e1; subst e2; rw [S.led_eq, hW] at N9; simp only [List.cons_append, List.nil_append] at N9; have hvW : ∀ p ∈ S.led, p.1 ≠ v := fun p hp => (f9 _ List.mem_cons_self _ (List.mem_cons_of_mem _ hp)).symm; have hvd : v ≠ cd := f9 _ List.mem_cons_self _ List.mem_cons_self; have hvb : v ≠ b := Mine.News.ne_obj N9 List.mem_cons_self (List.mem_cons_of_mem _ List.mem_cons_self) (pair_ne_dict hd9); have hvc : v ≠ c := Mine.News.ne_obj N9 List.mem_cons_self (List.mem_cons_of_mem _ (List.mem_cons_of_mem _ List.mem_cons_self)) pair_ne_list; have hap2 := hap_fresh (o := pairObj top bottom t1 t2) hap hvb hvc hvd)
  k_with "num g" => (first | exact good_eq gn (by walk_at "om") | exact good_ne gn (by walk_at "om") | exact good_ne gn (by assumption))
  k_with "num foot" => (intro p hp; rcases led_fresh hp with rfl | hp; k_mem; rw [S.led_eq, hW] at hp; (repeat (first | exact hp | refine List.Mem.tail _ ?_)))
  k_with "led foot" => (intro p hp; rw [S.led_eq, hW] at hp; (repeat (first | exact hp | refine List.Mem.tail _ ?_)))
  k_with "num other" => (refine' other3 (b := b) (c := c) (cd := cd) (co := co) (cells := PySem.W.listOf vs.toArray cn) hap2 ?m1 ?m2 ?m3; (case m1 => (repeat (first | exact List.Mem.head _ | refine List.Mem.tail _ ?_))); (case m2 => (repeat (first | exact List.Mem.head _ | refine List.Mem.tail _ ?_))); (case m3 => (repeat (first | exact List.Mem.head _ | refine List.Mem.tail _ ?_))))
  k_with "led other" => (refine' other3 (b := b) (c := c) (cd := cd) (co := co) (cells := PySem.W.listOf vs.toArray cn) hap ?m1 ?m2 ?m3; (case m1 => (repeat (first | exact List.Mem.head _ | refine List.Mem.tail _ ?_))); (case m2 => (repeat (first | exact List.Mem.head _ | refine List.Mem.tail _ ?_))); (case m3 => (repeat (first | exact List.Mem.head _ | refine List.Mem.tail _ ?_))))
  k_with "bvn 0" => exact Int.fmod_nonneg_of_pos _ (Int.pow_pos (by decide))
  k_with "bvn v" => exact Int.fmod_lt_of_pos _ (Int.pow_pos (by decide))
  k_with "num then" => (intro i9 u9 u9' S2 a9 k9 W2 h9 tk9 ok2 g2 at2 P2 hapS hW2 hW2b hW2c hW2d F9 N9; dsimp only [List.cons_append, List.nil_append] at N9)
  k_with "bvn then" => (intro i9 u9 u9' S2 a9 k9 W2 h9 tk9 ok2 g2 at2 P2 hapS hW2 hW2b hW2c hW2d F9 N9; dsimp only [List.cons_append, List.nil_append] at N9)
  k_with "fresh then" => (intro i9 u9 u9' S2 a9 k9 W2 h9 tk9 ok2 g2 at2 P2 hapS hW2 hW2b hW2c hW2d F9 N9; dsimp only [List.cons_append, List.nil_append] at N9)
  k_with "bool then" => (intro i9 u9 u9' S2 a9 k9 W2 h9 tk9 ok2 g2 at2 P2 hapS hW2 hW2b hW2c hW2d F9 N9; dsimp only [List.cons_append, List.nil_append] at N9)
  refine wpAny_call ?_
  k_dflt (k_extra "con_enter")
  k_steps
  · subst hW2
    exact leaf_end (l := .num true top bottom) (cs' := cs) (by assumption) (by walk_at "om") (by walk_at "om") (ok2.le (by walk_at "om")) g2 hcd (Nat.le_succ _) (fun _ _ h => h) (hcs.ext g2) ⟨good_eq gn (by walk_at "om"), a9, u9', P2.1 ▸ at2⟩ (due_num (beq_iff_eq.mpr (by walk_at "om")) P2.2) hapS
  · subst hW2
    exact leaf_end (l := .num false top bottom) (cs' := cs) (by assumption) (by walk_at "om") (by walk_at "om") (ok2.le (by walk_at "om")) g2 hcd (Nat.le_succ _) (fun _ _ h => h) (hcs.ext g2) ⟨good_ne gn (by walk_at "om"), a9, u9', P2.1 ▸ at2⟩ (due_num (beq_eq_false_iff_ne.mpr (by walk_at "om")) P2.2) hapS
  · subst hW2
    (refine Mine.ex2 P2 fun j9 t9 om0 => Mine.an2 om0 fun P3 P4 => ?_; clear om0; (try clear P2))
    exact leaf_end (l := .bits _ _) (cs' := cs) (by assumption) (by walk_at "om") (by walk_at "om") ok2 g2 hcd (Nat.le_succ _) (fun _ _ h => h) (hcs.ext g2) (leaf_bits (Int.fmod_nonneg_of_pos _ (Int.pow_pos (by decide))) (by walk_at "om") (by walk_at "om") (Int.fmod_lt_of_pos _ (Int.pow_pos (by decide))) P3 P4 at2) (due_bits (Int.fmod_nonneg_of_pos _ (Int.pow_pos (by decide))) (by walk_at "om")) hapS
  · subst hW2
    exact leaf_end (l := .tf true) (cs' := cs) (by assumption) (by walk_at "om") (by walk_at "om") ok2 g2 hcd (Nat.le_succ _) (fun _ _ h => h) (hcs.ext g2) (leaf_tf (b := true) (by rw [P2, beq_iff_eq.mpr (by walk_at "om")]) at2) ⟨0, _, _, rfl⟩ hapS
  · subst hW2
    exact leaf_end (l := .tf false) (cs' := cs) (by assumption) (by walk_at "om") (by walk_at "om") ok2 g2 hcd (Nat.le_succ _) (fun _ _ h => h) (hcs.ext g2) (leaf_tf (b := false) (by rw [P2, beq_eq_false_iff_ne.mpr (by walk_at "om")]) at2) ⟨0, _, _, rfl⟩ hapS
  · subst hW2
    (refine Mine.ex2 P2 fun f9 t9 om0 => Mine.an2 om0 fun P3 P4 => ?_; clear om0; (try clear P2))
    have hn9 := (by assumption : valueAt cs (nameAt _) = none)
    have hc9 := cons_new (u := u9) (by walk_at "om") hcs g2 hn9 P3 P4 at2
    exact leaf_end (l := .name _) (by assumption) (by walk_at "om") (by walk_at "om") ok2 g2 (by assumption) (len_stored hn9) (fun _ _ h => valueAt_keep hn9 h) hc9.1 hc9.2 ⟨0, _, _, rfl⟩ hapS
  · have hn9 := (by assumption : valueAt cs (nameAt _) = some _)
    (first | (refine Mine.ex2 (hcs _ (by walk_at "om") _ hn9) fun t9 u9 om0 => Mine.an2 om0 fun e9 l9 => ?_; clear om0) | obtain ⟨t9, u9, e9, l9⟩ := hcs _ (by walk_at "om") _ hn9)
    subst hW
    rw [e9]
    exact leaf_end (l := .name _) (by assumption) (by walk_at "om") (by walk_at "om") (ok.le (Nat.le_add_right _ _)) (Ext.refl S) hcd (Nat.le_succ _) (fun _ _ h => h) hcs l9 ⟨0, _, _, rfl⟩ hap
end Mine
end
/- T6 -/
section
open PySem PySem.W PyProof.Rows PySem.Calls PySem.Spec PySem.NumText
namespace Mine
set_option maxRecDepth 100000
set_option maxHeartbeats 8000000 
noncomputable def RES : List Str := [Str.ofString "!", Str.ofString "_", Str.ofString "as", Str.ofString "BINARY", Str.ofString "DECIMAL", Str.ofString "exists", Str.ofString "forall", Str.ofString "HEXADECIMAL", Str.ofString "let", Str.ofString "match", Str.ofString "NUMERAL", Str.ofString "par", Str.ofString "STRING"]
noncomputable def isRes (x : Str) : Bool := RES.any (· == x)
theorem in_RES {prog : Program} {w : World} {A : Around} {E : Value → Shared → Prop} {s : Shared} {x : Str} {u : Tok} {h₀ : Heap} {L : Addr} {m : Str → Option Value} {Q : Value → Shared → Prop} (F : Fr h₀ L s.heap m) (X : (Mine.heap w.params).In h₀)
    (h : Q (.bool (isRes x)) s) : wpAny (model prog w) A (compareOp .In (.str x u) (.ref 768)) Q E s :=
  in_tuple_strs (items := #[.str "!" 1200, .str "_" 1201, .str "as" 1202, .str "BINARY" 1203, .str "DECIMAL" 1204, .str "exists" 1205, .str "forall" 1206, .str "HEXADECIMAL" 1207, .str "let" 1208, .str "match" 1209, .str "NUMERAL" 1210, .str "par" 1211, .str "STRING" 1212]) (ys := RES) (tupK (X.keeps F.keep) (by k_is)) (by unfold RES; repeat constructor) h
noncomputable def inS (c : Str) : Bool := !(Builtin.Str.occurrences (Str.ofString "abcdefghijklmnopqrstuvwxyzABCDEFGHIJKLMNOPQRSTUVWXYZ0123456789~!@$%^&*_-+=<>.?/") c 0 (Str.ofString "abcdefghijklmnopqrstuvwxyzABCDEFGHIJKLMNOPQRSTUVWXYZ0123456789~!@$%^&*_-+=<>.?/").length 1).isEmpty
noncomputable abbrev sDIG (nm : Str) : Bool := (Builtin.Str.occurrences (Str.ofString "0123456789") (Txt.item nm 0) 0 (Str.ofString "0123456789").length 1).isEmpty
noncomputable def simpleB (nm : Str) : Bool := !(nm == Str.ofString "") && !isRes nm && sDIG nm && (List.map (fun c => ({ cps := #[c] } : Str)) nm.cps.toList).all inS
theorem strRest_all {prog : Program} {w : World} {A : Around} {E : Value → Shared → Prop} {h₀ : Heap} {env : Env} {x : Str} {body : List Stmt} {Q : Flow → Shared → Prop} {s : Shared} {I : Addr} {p : Str → Bool} {b : Bool}
    (z : b = true → ∀ m, StrRest prog w A E h₀ env x body Q s I [] m []) (st : ∀ c r m, (p c && r.all p) = b → (∀ m', r.all p = b → StrRest prog w A E h₀ env x body Q s I r m' []) → StrRest prog w A E h₀ env x body Q s I (c :: r) m []) :
    ∀ l m, l.all p = b → StrRest prog w A E h₀ env x body Q s I l m [] := by
  intro l
  induction l with
  | nil => exact fun m h => z h.symm m
  | cons c r ih => exact fun m h => st c r m h ih
theorem sb1 {nm : Str} (h : (nm == Str.ofString "") = true) : Value.bool false = .bool (simpleB nm) := by unfold simpleB; rw [h]; rfl
theorem sb2 {nm : Str} (h : isRes nm = true) : Value.bool false = .bool (simpleB nm) := by unfold simpleB; rw [h]; cases nm == Str.ofString "" <;> rfl
theorem sb3 {nm : Str} (h : sDIG nm = false) : Value.bool false = .bool (simpleB nm) := by unfold simpleB; rw [h]; cases nm == Str.ofString "" <;> cases isRes nm <;> rfl
theorem sb4 {nm : Str} (h1 : (nm == Str.ofString "") = false) (h2 : isRes nm = false) (h3 : sDIG nm = true) : (List.map (fun c => ({ cps := #[c] } : Str)) nm.cps.toList).all inS = simpleB nm := by unfold simpleB; rw [h1, h2, h3]; rfl
theorem sb5 {nm c : Str} {r : List Str} (hb : (inS c && r.all inS) = simpleB nm) (h : (Builtin.Str.occurrences (Str.ofString "abcdefghijklmnopqrstuvwxyzABCDEFGHIJKLMNOPQRSTUVWXYZ0123456789~!@$%^&*_-+=<>.?/") c 0 (Str.ofString "abcdefghijklmnopqrstuvwxyzABCDEFGHIJKLMNOPQRSTUVWXYZ0123456789~!@$%^&*_-+=<>.?/").length 1).isEmpty = true) : Value.bool false = .bool (simpleB nm) := by
  rw [← hb]; unfold inS; rw [h]; rfl
theorem sb6 {nm c : Str} {r : List Str} (hb : (inS c && r.all inS) = simpleB nm) (h : (Builtin.Str.occurrences (Str.ofString "abcdefghijklmnopqrstuvwxyzABCDEFGHIJKLMNOPQRSTUVWXYZ0123456789~!@$%^&*_-+=<>.?/") c 0 (Str.ofString "abcdefghijklmnopqrstuvwxyzABCDEFGHIJKLMNOPQRSTUVWXYZ0123456789~!@$%^&*_-+=<>.?/").length 1).isEmpty = false) : r.all inS = simpleB nm := by
  rw [← hb]; unfold inS; rw [h]; rfl
theorem simple_0 {prog : Program} {w : World} {nm : Str} {t : Tok} : Reads0 prog w 1 775 [.str nm t] [] (fun r => r = .bool (simpleB nm)) := by
  unfold Reads0 Runs
  intro mean mg mb dp un gd cn' cs a ccd cl outer A₀ base h₀ L m s Q E B F X N T hk hd hu hret
  rcases s with ⟨hp0, gs0, dr0, tk0, os0⟩
  dsimp only at F N hret
  k_with_none
  k_with "om" => first | (with_reducible first | assumption | exact Mine.r0 (by assumption) | exact Int.natCast_nonneg _ | exact Int.le_refl _ | exact Nat.le_refl _) | (first | lia | omega)
  k_with "rm" => first | ((try dsimp only [depth_under_make, depth_under_kw, depth_in1, depth_deeper, depth_caller, units_in1, units_deeper, Around.mark_units, units_caller, units_under_make, ktrTop]); walk_at "om") | ktr_room | ktr_units
  k_with "con_enter" => (refine' Mine.code_defQ ?k1z29 ?k2z29 ?k3z29 ?k4z29 ?k5z29 ?kAz29 ?kFz29 ?kKz29 ?k6z29 ?k7z29 ?k8z29 ?k9z29 ?kBz29 ?_ ?c2z29 ?c3z29 ?c4z29 ?c5z29; (case kAz29 => exact rfl); (case kFz29 => exact rfl); (case kKz29 => assumption); (case k1z29 => k_asm); (case k2z29 => k_asm); (case k3z29 => k_asm); (case k4z29 => k_asm); (case k5z29 => k_asm); (case k6z29 => k_is); (case k7z29 => k_is); (case k8z29 => walk_at "rm"); (case k9z29 => first | exact BindsTo.of_eq (binds := []) rfl | exact BindsTo.of_eq (binds := [(_, _)]) rfl | exact BindsTo.of_eq (binds := [(_, _), (_, _)]) rfl | exact BindsTo.of_eq (binds := [(_, _), (_, _), (_, _)]) rfl | exact BindsTo.of_eq (binds := [(_, _), (_, _), (_, _), (_, _)]) rfl | exact BindsTo.of_eq (binds := [(_, _), (_, _), (_, _), (_, _), (_, _)]) rfl | exact BindsTo.of_eq rfl); (case c5z29 => decide); (case kBz29 => exact locs rfl); (case c2z29 => exact rfl); (case c3z29 => exact rfl); (case c4z29 => exact rfl); k_whole; intro g' L' h' tk' FG' F' N' B' X' T' S' hL' qk ek)
  k_with "LeaveK" => (k_dflt (refine' Mine.leave_con ?hrz24 ?hSz24 ?hFz24 ?hNz24 ?hqz24 ?_; (case hrz24 => assumption); (case hSz24 => assumption); (case hFz24 => k_asm); (case hNz24 => k_asm); (case hqz24 => exact rfl); k_whole))
  k_with "k_all" => assumption
  k_with "key mem" => with_reducible first | exact Mine.m0
  k_with "k_mem" => (k_whole; walk_at "key mem")
  k_with "k_ne" => ((refine neN ?_; (try dsimp only)); first | (refine' Mine.ne_below ?kb9z33 ?km9z33; (case kb9z33 => with_reducible assumption); (case km9z33 => walk_at "key mem")) | (refine' Mine.ne_above ?kb9z33 ?km9z33; (case kb9z33 => with_reducible assumption); (case km9z33 => walk_at "key mem")) | walk_at "ne find" | (first | lia | omega))
  k_with "k_all" => (refine' Mine.all_below ?kb9z30 ?km9z30; (case kb9z30 => with_reducible assumption); (case km9z30 => exact rfl))
  k_with "ne find" => first | with_reducible assumption | (refine Ne.symm ?_; with_reducible assumption) | (refine Nat.ne_of_lt ?_; with_reducible assumption) | (refine Nat.ne_of_gt ?_; with_reducible assumption) | ((with_reducible rename _ ∧ _ => hc9); have hc8 := hc9.1; have hc7 := hc9.2; clear hc9; walk_at "ne find")
  k_with "spliced" => (k_here; (refine PyProof.Rows.args_nil ?_); (try dsimp only [List.cons_append, List.nil_append]); (with_reducible show _ ∧ _))
  k_with "compareOp In str ref" => (k_here; (with_reducible show wpAny _ _ (compareOp CmpOp.In (Value.str _ _) (Value.ref 768)) _ _ _); k_dflt (refine' Mine.in_RES ?Fz139 ?Xz139 ?_; (case Fz139 => k_asm); (case Xz139 => k_asm)); k_whole)
  k_with "exec For Name Name cons nil" => (k_here; (with_reducible show wpAny _ _ (exec (Stmt.For _ _ _ [] _) _) _ _ _); (rename Fr _ _ _ _ => lF'); (with_unfolding_all refine' For_invVF lF' ?k1z140 ?k2z140 ?_; (case k1z140 => exact rfl); (case k2z140 => exact rfl); k_whole))
  k_with "pyIter str" => (k_here; (rename Fr _ _ _ _ => lF'); (rename News _ _ _ _ => lN'); (with_unfolding_all refine iter_strUnr (by rfl) lF' lN' rfl ?_); clear lF' lN'; intro i' l1)
  refine wpAny_call ?_
  k_dflt (k_extra "con_enter")
  k_steps
  all_goals first | (refine strRest_all (p := inS) (b := simpleB nm) ?z ?st _ _ (sb4 (by assumption) (by assumption) (by assumption))) | exact ends_of ⟨sb1 (by assumption), rfl⟩ (List.forall_mem_nil _) | exact ends_of ⟨sb2 (by assumption), rfl⟩ (List.forall_mem_nil _) | exact ends_of ⟨sb3 (by assumption), rfl⟩ (List.forall_mem_nil _)
  case st => (intro c r m hb ih; k_steps; all_goals first | exact ends_of ⟨sb5 hb (by assumption), rfl⟩ (List.forall_mem_nil _) | exact ih _ (sb6 hb (by assumption)))
  case z => (intro hb m; k_steps; all_goals exact ends_of ⟨congrArg Value.bool hb.symm, rfl⟩ (List.forall_mem_nil _))
theorem simple_use {prog : Program} {w : World} {nm : Str} {t : Tok} {b : Bool} (hb : simpleB nm = b) {news : List (Addr × Obj)} {mean : ExcName → Option Value} {mg mb : Str → Option Value} {dp un : Nat} {gd : Option (List Code)} {cn : Str} {cs : Scope} {a : Addr} {ccd : Value} {cl : List (Str × Addr)} {outer : List Env} {A₀ : Around} {base h₀ : Heap} {L : Addr} {m : Str → Option Value} {hp0 : Heap} {gs0 : Array GenState} {dr0 : Drawn} {tk0 : Nat} {os0 : OsState}
    {Q E : Value → Shared → Prop} (B : Below A₀ base outer h₀) (F : Fr h₀ L hp0 m) (X : (Mine.heap w.params).In h₀) (N : News h₀ L hp0 news)
    (T : Top Mine.view (looseW Mine.view Mine.loose) mean mg mb h₀) (hk : cs.kind = .function)
    (hd : dp + 1 < recursionLimit) (hu : un + 8 * 1 < cLine)
    (ret : ∀ h' tk', Fr h₀ L h' m → News h₀ L h' news → Q (.bool b) ⟨h', gs0, dr0, tk', os0⟩) :
    wpAny (model prog w) (ktrTop dp un gd cn cs L a ccd cl outer) (call (.ref 775) [.str nm t]) Q E ⟨hp0, gs0, dr0, tk0, os0⟩ :=
  Runs.useR (other := news) (simple_0 (nm := nm) (t := t)) B F X N T hk hd hu (fun _ h => absurd h List.not_mem_nil) (fun p hp => ⟨hp, fun _ h => absurd h List.not_mem_nil⟩)
    fun r tl h' tk' F' N' _ R' => by (refine Mine.an2 R' fun oq0 oq1 => ?_; (try clear R'); subst oq0; subst oq1); subst hb; exact ret h' tk' F' N'
theorem in_RESb {prog : Program} {w : World} {A : Around} {E : Value → Shared → Prop} {s : Shared} {x : Str} {u : Tok} {h₀ : Heap} {L : Addr} {m : Str → Option Value} {Q : Value → Shared → Prop} {b : Bool} (hb : isRes x = b) (F : Fr h₀ L s.heap m) (X : (Mine.heap w.params).In h₀)
    (h : Q (.bool b) s) : wpAny (model prog w) A (compareOp .In (.str x u) (.ref 768)) Q E s := in_RES F X (hb ▸ h)
theorem symA {prog : Program} {w : World} {nm : Str} {t : Tok} (hr : isRes nm = true) : Reads0 prog w 2 782 [.str nm t] [] (fun r => ∃ t', r = .str nm t') := by
  unfold Reads0 Runs
  intro mean mg mb dp un gd cn' cs a ccd cl outer A₀ base h₀ L m s Q E B F X N T hk hd hu hret
  rcases s with ⟨hp0, gs0, dr0, tk0, os0⟩
  dsimp only at F N hret
  k_with_none
  k_with "om" => first | (with_reducible first | assumption | exact Mine.r0 (by assumption) | exact Int.natCast_nonneg _ | exact Int.le_refl _ | exact Nat.le_refl _) | (first | lia | omega)
  k_with "rm" => first | ((try dsimp only [depth_under_make, depth_under_kw, depth_in1, depth_deeper, depth_caller, units_in1, units_deeper, Around.mark_units, units_caller, units_under_make, ktrTop]); walk_at "om") | ktr_room | ktr_units
  k_with "con_enter" => (refine' Mine.code_defQ ?k1z29 ?k2z29 ?k3z29 ?k4z29 ?k5z29 ?kAz29 ?kFz29 ?kKz29 ?k6z29 ?k7z29 ?k8z29 ?k9z29 ?kBz29 ?_ ?c2z29 ?c3z29 ?c4z29 ?c5z29; (case kAz29 => exact rfl); (case kFz29 => exact rfl); (case kKz29 => assumption); (case k1z29 => k_asm); (case k2z29 => k_asm); (case k3z29 => k_asm); (case k4z29 => k_asm); (case k5z29 => k_asm); (case k6z29 => k_is); (case k7z29 => k_is); (case k8z29 => walk_at "rm"); (case k9z29 => first | exact BindsTo.of_eq (binds := []) rfl | exact BindsTo.of_eq (binds := [(_, _)]) rfl | exact BindsTo.of_eq (binds := [(_, _), (_, _)]) rfl | exact BindsTo.of_eq (binds := [(_, _), (_, _), (_, _)]) rfl | exact BindsTo.of_eq (binds := [(_, _), (_, _), (_, _), (_, _)]) rfl | exact BindsTo.of_eq (binds := [(_, _), (_, _), (_, _), (_, _), (_, _)]) rfl | exact BindsTo.of_eq rfl); (case c5z29 => decide); (case kBz29 => exact locs rfl); (case c2z29 => exact rfl); (case c3z29 => exact rfl); (case c4z29 => exact rfl); k_whole; intro g' L' h' tk' FG' F' N' B' X' T' S' hL' qk ek)
  k_with "LeaveK" => (k_dflt (refine' Mine.leave_con ?hrz24 ?hSz24 ?hFz24 ?hNz24 ?hqz24 ?_; (case hrz24 => assumption); (case hSz24 => assumption); (case hFz24 => k_asm); (case hNz24 => k_asm); (case hqz24 => exact rfl); k_whole))
  k_with "k_all" => assumption
  k_with "key mem" => fail
  k_with "k_mem" => (k_whole; walk_at "key mem")
  k_with "k_ne" => ((refine neN ?_; (try dsimp only)); first | (refine' Mine.ne_below ?kb9z33 ?km9z33; (case kb9z33 => with_reducible assumption); (case km9z33 => walk_at "key mem")) | (refine' Mine.ne_above ?kb9z33 ?km9z33; (case kb9z33 => with_reducible assumption); (case km9z33 => walk_at "key mem")) | walk_at "ne find" | (first | lia | omega))
  k_with "k_all" => (refine' Mine.all_below ?kb9z30 ?km9z30; (case kb9z30 => with_reducible assumption); (case km9z30 => exact rfl))
  k_with "ne find" => first | with_reducible assumption | (refine Ne.symm ?_; with_reducible assumption) | (refine Nat.ne_of_lt ?_; with_reducible assumption) | (refine Nat.ne_of_gt ?_; with_reducible assumption) | ((with_reducible rename _ ∧ _ => hc9); have hc8 := hc9.1; have hc7 := hc9.2; clear hc9; walk_at "ne find")
  k_with "spliced" => (k_here; (refine PyProof.Rows.args_nil ?_); (try dsimp only [List.cons_append, List.nil_append]); (with_reducible show _ ∧ _))
  k_with "compareOp In str ref" => (k_here; (with_reducible show wpAny _ _ (compareOp CmpOp.In (Value.str _ _) (Value.ref 768)) _ _ _); k_dflt (refine' Mine.in_RESb ?hbz142 ?Fz142 ?Xz142 ?_; (case hbz142 => first | assumption | decide +kernel); (case Fz142 => k_asm); (case Xz142 => k_asm)); k_whole)
  k_with "call ref" => (k_here; (with_reducible show wpAny _ _ (call (Value.ref 775) _) _ _ _); k_dflt (refine' Mine.simple_use ?hbz143 ?k1z143 ?k2z143 ?k3z143 ?k4z143 ?k5z143 ?kKz143 ?kdz143 ?kuz143 ?_; (case hbz143 => first | assumption | decide +kernel); (case k1z143 => k_asm); (case k2z143 => k_asm); (case k3z143 => k_asm); (case k4z143 => k_asm); (case k5z143 => k_asm); (case kKz143 => exact rfl); (case kdz143 => walk_at "rm"); (case kuz143 => walk_at "rm")); intro h' tk' F' N')
  refine wpAny_call ?_
  k_dflt (k_extra "con_enter")
  k_steps
  all_goals exact ends_of ⟨⟨_, rfl⟩, rfl⟩ (List.forall_mem_nil _)
theorem symB {prog : Program} {w : World} {nm : Str} {t : Tok} (hr : isRes nm = false) (hs : simpleB nm = true) : Reads0 prog w 2 782 [.str nm t] [] (fun r => ∃ t', r = .str nm t') := by
  unfold Reads0 Runs
  intro mean mg mb dp un gd cn' cs a ccd cl outer A₀ base h₀ L m s Q E B F X N T hk hd hu hret
  rcases s with ⟨hp0, gs0, dr0, tk0, os0⟩
  dsimp only at F N hret
  k_with_none
  k_with "om" => first | (with_reducible first | assumption | exact Mine.r2 (by assumption) (by k_dflt exact rfl) | exact Mine.r0 (by assumption) | exact Int.natCast_nonneg _ | exact Int.le_refl _ | exact Nat.le_refl _) | (first | lia | omega)
  k_with "rm" => first | ((try dsimp only [depth_under_make, depth_under_kw, depth_in1, depth_deeper, depth_caller, units_in1, units_deeper, Around.mark_units, units_caller, units_under_make, ktrTop]); walk_at "om") | ktr_room | ktr_units
  k_with "con_enter" => (refine' Mine.code_defQ ?k1z29 ?k2z29 ?k3z29 ?k4z29 ?k5z29 ?kAz29 ?kFz29 ?kKz29 ?k6z29 ?k7z29 ?k8z29 ?k9z29 ?kBz29 ?_ ?c2z29 ?c3z29 ?c4z29 ?c5z29; (case kAz29 => exact rfl); (case kFz29 => exact rfl); (case kKz29 => assumption); (case k1z29 => k_asm); (case k2z29 => k_asm); (case k3z29 => k_asm); (case k4z29 => k_asm); (case k5z29 => k_asm); (case k6z29 => k_is); (case k7z29 => k_is); (case k8z29 => walk_at "rm"); (case k9z29 => first | exact BindsTo.of_eq (binds := []) rfl | exact BindsTo.of_eq (binds := [(_, _)]) rfl | exact BindsTo.of_eq (binds := [(_, _), (_, _)]) rfl | exact BindsTo.of_eq (binds := [(_, _), (_, _), (_, _)]) rfl | exact BindsTo.of_eq (binds := [(_, _), (_, _), (_, _), (_, _)]) rfl | exact BindsTo.of_eq (binds := [(_, _), (_, _), (_, _), (_, _), (_, _)]) rfl | exact BindsTo.of_eq rfl); (case c5z29 => decide); (case kBz29 => exact locs rfl); (case c2z29 => exact rfl); (case c3z29 => exact rfl); (case c4z29 => exact rfl); k_whole; intro g' L' h' tk' FG' F' N' B' X' T' S' hL' qk ek)
  k_with "LeaveK" => (k_dflt (refine' Mine.leave_con ?hrz24 ?hSz24 ?hFz24 ?hNz24 ?hqz24 ?_; (case hrz24 => assumption); (case hSz24 => assumption); (case hFz24 => k_asm); (case hNz24 => k_asm); (case hqz24 => exact rfl); k_whole))
  k_with "k_all" => assumption
  k_with "key mem" => fail
  k_with "k_mem" => (k_whole; walk_at "key mem")
  k_with "k_ne" => ((refine neN ?_; (try dsimp only)); first | (refine' Mine.ne_below ?kb9z33 ?km9z33; (case kb9z33 => with_reducible assumption); (case km9z33 => walk_at "key mem")) | (refine' Mine.ne_above ?kb9z33 ?km9z33; (case kb9z33 => with_reducible assumption); (case km9z33 => walk_at "key mem")) | walk_at "ne find" | (first | lia | omega))
  k_with "k_all" => (refine' Mine.all_below ?kb9z30 ?km9z30; (case kb9z30 => with_reducible assumption); (case km9z30 => exact rfl))
  k_with "ne find" => first | with_reducible assumption | (refine Ne.symm ?_; with_reducible assumption) | (refine Nat.ne_of_lt ?_; with_reducible assumption) | (refine Nat.ne_of_gt ?_; with_reducible assumption) | ((with_reducible rename _ ∧ _ => hc9); have hc8 := hc9.1; have hc7 := hc9.2; clear hc9; walk_at "ne find")
  k_with "spliced" => (k_here; (refine PyProof.Rows.args_nil ?_); (try dsimp only [List.cons_append, List.nil_append]); (with_reducible show _ ∧ _))
  k_with "compareOp In str ref" => (k_here; (with_reducible show wpAny _ _ (compareOp CmpOp.In (Value.str _ _) (Value.ref 768)) _ _ _); k_dflt (refine' Mine.in_RESb ?hbz142 ?Fz142 ?Xz142 ?_; (case hbz142 => first | assumption | decide +kernel); (case Fz142 => k_asm); (case Xz142 => k_asm)); k_whole)
  k_with "call ref" => (k_here; (with_reducible show wpAny _ _ (call (Value.ref 775) _) _ _ _); k_dflt (refine' Mine.simple_use ?hbz143 ?k1z143 ?k2z143 ?k3z143 ?k4z143 ?k5z143 ?kKz143 ?kdz143 ?kuz143 ?_; (case hbz143 => first | assumption | decide +kernel); (case k1z143 => k_asm); (case k2z143 => k_asm); (case k3z143 => k_asm); (case k4z143 => k_asm); (case k5z143 => k_asm); (case kKz143 => exact rfl); (case kdz143 => walk_at "rm"); (case kuz143 => walk_at "rm")); intro h' tk' F' N')
  refine wpAny_call ?_
  k_dflt (k_extra "con_enter")
  k_steps
  all_goals try exact ends_of ⟨⟨_, rfl⟩, rfl⟩ (List.forall_mem_nil _)
theorem len_short {prog : Program} {w : World} {A : Around} {E : Value → Shared → Prop} {s : Shared} {x : Str} {t : Tok} {Q : Value → Shared → Prop} (hl : x.length ≤ 5) (h : ∀ t' k', Q (.int x.length t') { s with toks := k' }) : wpAny (model prog w) A (call (.builtin "len") [.str x t]) Q E s :=
  P.len_str (by (first | lia | omega)) (h _ _)
noncomputable abbrev occ (x y : Str) : Bool := (Builtin.Str.occurrences x y 0 x.length 1).isEmpty
theorem gt_short {prog : Program} {w : World} {A : Around} {E : Value → Shared → Prop} {s : Shared} {n : Nat} {t u : Tok} {Q : Value → Shared → Prop} (hl : n ≤ 2) (h : Q (.bool false) s) : wpAny (model prog w) A (compareOp .Gt (.int n t) (.int 2 u)) Q E s :=
  gt_int (by rw [decide_eq_false (by (first | lia | omega))]; exact h)
theorem gt_long {prog : Program} {w : World} {A : Around} {E : Value → Shared → Prop} {s : Shared} {n : Nat} {t u : Tok} {Q : Value → Shared → Prop} (hl : 2 < n) (h : Q (.bool true) s) : wpAny (model prog w) A (compareOp .Gt (.int n t) (.int 2 u)) Q E s :=
  gt_int (by rw [decide_eq_true (by (first | lia | omega))]; exact h)
theorem eq_b {prog : Program} {w : World} {A : Around} {E : Value → Shared → Prop} {s : Shared} {x y : Str} {b : Bool} {t u : Tok} {Q : Value → Shared → Prop} (hb : (x == y) = b) (h : Q (.bool b) s) : wpAny (model prog w) A (compareOp .Eq (.str x t) (.str y u)) Q E s := eq_str (hb ▸ h)
theorem in_b {prog : Program} {w : World} {A : Around} {E : Value → Shared → Prop} {s : Shared} {x y : Str} {b : Bool} {t u : Tok} {Q : Value → Shared → Prop} (hb : occ x y = b) (h : Q (.bool !b) s) : wpAny (model prog w) A (compareOp .In (.str y u) (.str x t)) Q E s := P.in_str (by subst hb; exact h)
theorem add_b1 {prog : Program} {w : World} {A : Around} {E : Value → Shared → Prop} {s : Shared} {y : Str} {t u : Tok} {Q : Value → Shared → Prop} (hl : y.length ≤ 5) (h : ∀ t' k', Q (.str (Str.ofString "|" ++ y) t') { s with toks := k' }) : wpAny (model prog w) A (binaryOp .Add (.str (Str.ofString "|") t) (.str y u)) Q E s :=
  SBL.add (fun t' c g => h t' c) (by rw [sizeLine_eq]; rw [show (Str.ofString "|").length = 1 from rfl]; (first | lia | omega))
theorem add_b2 {prog : Program} {w : World} {A : Around} {E : Value → Shared → Prop} {s : Shared} {y : Str} {t u : Tok} {Q : Value → Shared → Prop} (hl : y.length ≤ 5) (h : ∀ t' k', Q (.str (Str.ofString "|" ++ y ++ Str.ofString "|") t') { s with toks := k' }) : wpAny (model prog w) A (binaryOp .Add (.str (Str.ofString "|" ++ y) t) (.str (Str.ofString "|") u)) Q E s :=
  SBL.add (fun t' c g => h t' c) (by rw [sizeLine_eq, PySem.Str.length_append]; rw [show (Str.ofString "|").length = 1 from rfl]; (first | lia | omega))
theorem add_b3 {prog : Program} {w : World} {A : Around} {E : Value → Shared → Prop} {s : Shared} {y : Str} {t u : Tok} {Q : Value → Shared → Prop} (hl : y.length ≤ 5) (h : ∀ t' k', Q (.str (Str.ofString "no symbol is called " ++ y) t') { s with toks := k' }) : wpAny (model prog w) A (binaryOp .Add (.str (Str.ofString "no symbol is called ") t) (.str y u)) Q E s :=
  SBL.add (fun t' c g => h t' c) (by rw [sizeLine_eq]; rw [show (Str.ofString "no symbol is called ").length = 20 from rfl]; (first | lia | omega))
theorem symD {prog : Program} {w : World} {nm out : Str} {t : Tok} (hr : isRes nm = false) (hs : simpleB nm = false) (hl : nm.length ≤ 5) (h2 : nm.length ≤ 2) (hb : occ nm (Str.ofString "|") = true) (hc : occ nm (Str.ofString "\\") = true) (ho : Str.ofString "|" ++ nm ++ Str.ofString "|" = out) : Reads0 prog w 2 782 [.str nm t] [] (fun r => ∃ t', r = .str (out) t') := by
  unfold Reads0 Runs
  intro mean mg mb dp un gd cn' cs a ccd cl outer A₀ base h₀ L m s Q E B F X N T hk hd hu hret
  rcases s with ⟨hp0, gs0, dr0, tk0, os0⟩
  dsimp only at F N hret
  k_with_none
  k_with "om" => first | (with_reducible first | assumption | exact Mine.r2 (by assumption) (by k_dflt exact rfl) | exact Mine.r0 (by assumption) | exact Int.natCast_nonneg _ | exact Int.le_refl _ | exact Nat.le_refl _) | (first | lia | omega)
  k_with "rm" => first | ((try dsimp only [depth_under_make, depth_under_kw, depth_in1, depth_deeper, depth_caller, units_in1, units_deeper, Around.mark_units, units_caller, units_under_make, ktrTop]); walk_at "om") | ktr_room | ktr_units
  k_with "con_enter" => (refine' Mine.code_defQ ?k1z29 ?k2z29 ?k3z29 ?k4z29 ?k5z29 ?kAz29 ?kFz29 ?kKz29 ?k6z29 ?k7z29 ?k8z29 ?k9z29 ?kBz29 ?_ ?c2z29 ?c3z29 ?c4z29 ?c5z29; (case kAz29 => exact rfl); (case kFz29 => exact rfl); (case kKz29 => assumption); (case k1z29 => k_asm); (case k2z29 => k_asm); (case k3z29 => k_asm); (case k4z29 => k_asm); (case k5z29 => k_asm); (case k6z29 => k_is); (case k7z29 => k_is); (case k8z29 => walk_at "rm"); (case k9z29 => first | exact BindsTo.of_eq (binds := []) rfl | exact BindsTo.of_eq (binds := [(_, _)]) rfl | exact BindsTo.of_eq (binds := [(_, _), (_, _)]) rfl | exact BindsTo.of_eq (binds := [(_, _), (_, _), (_, _)]) rfl | exact BindsTo.of_eq (binds := [(_, _), (_, _), (_, _), (_, _)]) rfl | exact BindsTo.of_eq (binds := [(_, _), (_, _), (_, _), (_, _), (_, _)]) rfl | exact BindsTo.of_eq rfl); (case c5z29 => decide); (case kBz29 => exact locs rfl); (case c2z29 => exact rfl); (case c3z29 => exact rfl); (case c4z29 => exact rfl); k_whole; intro g' L' h' tk' FG' F' N' B' X' T' S' hL' qk ek)
  k_with "LeaveK" => (k_dflt (refine' Mine.leave_con ?hrz24 ?hSz24 ?hFz24 ?hNz24 ?hqz24 ?_; (case hrz24 => assumption); (case hSz24 => assumption); (case hFz24 => k_asm); (case hNz24 => k_asm); (case hqz24 => exact rfl); k_whole))
  k_with "k_all" => assumption
  k_with "key mem" => fail
  k_with "k_mem" => (k_whole; walk_at "key mem")
  k_with "k_ne" => ((refine neN ?_; (try dsimp only)); first | (refine' Mine.ne_below ?kb9z33 ?km9z33; (case kb9z33 => with_reducible assumption); (case km9z33 => walk_at "key mem")) | (refine' Mine.ne_above ?kb9z33 ?km9z33; (case kb9z33 => with_reducible assumption); (case km9z33 => walk_at "key mem")) | walk_at "ne find" | (first | lia | omega))
  k_with "k_all" => (refine' Mine.all_below ?kb9z30 ?km9z30; (case kb9z30 => with_reducible assumption); (case km9z30 => exact rfl))
  k_with "ne find" => first | with_reducible assumption | (refine Ne.symm ?_; with_reducible assumption) | (refine Nat.ne_of_lt ?_; with_reducible assumption) | (refine Nat.ne_of_gt ?_; with_reducible assumption) | ((with_reducible rename _ ∧ _ => hc9); have hc8 := hc9.1; have hc7 := hc9.2; clear hc9; walk_at "ne find")
  k_with "spliced" => (k_here; (refine PyProof.Rows.args_nil ?_); (try dsimp only [List.cons_append, List.nil_append]); (with_reducible show _ ∧ _))
  k_with "compareOp In str ref" => (k_here; (with_reducible show wpAny _ _ (compareOp CmpOp.In (Value.str _ _) (Value.ref 768)) _ _ _); k_dflt (refine' Mine.in_RESb ?hbz142 ?Fz142 ?Xz142 ?_; (case hbz142 => first | assumption | decide +kernel); (case Fz142 => k_asm); (case Xz142 => k_asm)); k_whole)
  k_with "call ref" => (k_here; (with_reducible show wpAny _ _ (call (Value.ref 775) _) _ _ _); k_dflt (refine' Mine.simple_use ?hbz143 ?k1z143 ?k2z143 ?k3z143 ?k4z143 ?k5z143 ?kKz143 ?kdz143 ?kuz143 ?_; (case hbz143 => first | assumption | decide +kernel); (case k1z143 => k_asm); (case k2z143 => k_asm); (case k3z143 => k_asm); (case k4z143 => k_asm); (case k5z143 => k_asm); (case kKz143 => exact rfl); (case kdz143 => walk_at "rm"); (case kuz143 => walk_at "rm")); intro h' tk' F' N')
  k_with "call builtin:len" => (k_here; (with_reducible show wpAny _ _ (call (Value.builtin "len") [Value.str _ _]) _ _ _); (refine Mine.len_short (by assumption) ?_); intro t' k')
  k_with "compareOp Gt int int" => (k_here; k_dflt (first | refine Mine.gt_short (by assumption) ?_ | refine Mine.gt_long (by assumption) ?_))
  k_with "compareOp Eq str str" => (k_here; (refine Mine.eq_b (by assumption) ?_))
  k_with "compareOp In str str" => (k_here; (refine Mine.in_b (by assumption) ?_))
  k_with "binaryOp Add str str" => (k_here; (first | refine Mine.add_b1 (by assumption) ?_ | refine Mine.add_b2 (by assumption) ?_ | refine Mine.add_b3 (by assumption) ?_); intro t' k')
  refine wpAny_call ?_
  k_dflt (k_extra "con_enter")
  k_steps
  all_goals exact ends_of ⟨⟨_, congrArg (fun x => Value.str x _) ho⟩, rfl⟩ (List.forall_mem_nil _)
theorem symF {prog : Program} {w : World} {nm out : Str} {t : Tok} (hr : isRes nm = false) (hs : simpleB nm = false) (hl : nm.length ≤ 5) (h2 : 2 < nm.length) (h3 : (Txt.item nm 0 == Str.ofString "|") = false) (hb : occ nm (Str.ofString "|") = true) (hc : occ nm (Str.ofString "\\") = true) (ho : Str.ofString "|" ++ nm ++ Str.ofString "|" = out) : Reads0 prog w 2 782 [.str nm t] [] (fun r => ∃ t', r = .str (out) t') := by
  unfold Reads0 Runs
  intro mean mg mb dp un gd cn' cs a ccd cl outer A₀ base h₀ L m s Q E B F X N T hk hd hu hret
  rcases s with ⟨hp0, gs0, dr0, tk0, os0⟩
  dsimp only at F N hret
  k_with_none
  k_with "om" => first | (with_reducible first | assumption | exact Mine.r2 (by assumption) (by k_dflt exact rfl) | exact Mine.r0 (by assumption) | exact Int.natCast_nonneg _ | exact Int.le_refl _ | exact Nat.le_refl _) | (first | lia | omega)
  k_with "rm" => first | ((try dsimp only [depth_under_make, depth_under_kw, depth_in1, depth_deeper, depth_caller, units_in1, units_deeper, Around.mark_units, units_caller, units_under_make, ktrTop]); walk_at "om") | ktr_room | ktr_units
  k_with "con_enter" => (refine' Mine.code_defQ ?k1z29 ?k2z29 ?k3z29 ?k4z29 ?k5z29 ?kAz29 ?kFz29 ?kKz29 ?k6z29 ?k7z29 ?k8z29 ?k9z29 ?kBz29 ?_ ?c2z29 ?c3z29 ?c4z29 ?c5z29; (case kAz29 => exact rfl); (case kFz29 => exact rfl); (case kKz29 => assumption); (case k1z29 => k_asm); (case k2z29 => k_asm); (case k3z29 => k_asm); (case k4z29 => k_asm); (case k5z29 => k_asm); (case k6z29 => k_is); (case k7z29 => k_is); (case k8z29 => walk_at "rm"); (case k9z29 => first | exact BindsTo.of_eq (binds := []) rfl | exact BindsTo.of_eq (binds := [(_, _)]) rfl | exact BindsTo.of_eq (binds := [(_, _), (_, _)]) rfl | exact BindsTo.of_eq (binds := [(_, _), (_, _), (_, _)]) rfl | exact BindsTo.of_eq (binds := [(_, _), (_, _), (_, _), (_, _)]) rfl | exact BindsTo.of_eq (binds := [(_, _), (_, _), (_, _), (_, _), (_, _)]) rfl | exact BindsTo.of_eq rfl); (case c5z29 => decide); (case kBz29 => exact locs rfl); (case c2z29 => exact rfl); (case c3z29 => exact rfl); (case c4z29 => exact rfl); k_whole; intro g' L' h' tk' FG' F' N' B' X' T' S' hL' qk ek)
  k_with "LeaveK" => (k_dflt (refine' Mine.leave_con ?hrz24 ?hSz24 ?hFz24 ?hNz24 ?hqz24 ?_; (case hrz24 => assumption); (case hSz24 => assumption); (case hFz24 => k_asm); (case hNz24 => k_asm); (case hqz24 => exact rfl); k_whole))
  k_with "k_all" => assumption
  k_with "key mem" => fail
  k_with "k_mem" => (k_whole; walk_at "key mem")
  k_with "k_ne" => ((refine neN ?_; (try dsimp only)); first | (refine' Mine.ne_below ?kb9z33 ?km9z33; (case kb9z33 => with_reducible assumption); (case km9z33 => walk_at "key mem")) | (refine' Mine.ne_above ?kb9z33 ?km9z33; (case kb9z33 => with_reducible assumption); (case km9z33 => walk_at "key mem")) | walk_at "ne find" | (first | lia | omega))
  k_with "k_all" => (refine' Mine.all_below ?kb9z30 ?km9z30; (case kb9z30 => with_reducible assumption); (case km9z30 => exact rfl))
  k_with "ne find" => first | with_reducible assumption | (refine Ne.symm ?_; with_reducible assumption) | (refine Nat.ne_of_lt ?_; with_reducible assumption) | (refine Nat.ne_of_gt ?_; with_reducible assumption) | ((with_reducible rename _ ∧ _ => hc9); have hc8 := hc9.1; have hc7 := hc9.2; clear hc9; walk_at "ne find")
  k_with "spliced" => (k_here; (refine PyProof.Rows.args_nil ?_); (try dsimp only [List.cons_append, List.nil_append]); (with_reducible show _ ∧ _))
  k_with "compareOp In str ref" => (k_here; (with_reducible show wpAny _ _ (compareOp CmpOp.In (Value.str _ _) (Value.ref 768)) _ _ _); k_dflt (refine' Mine.in_RESb ?hbz142 ?Fz142 ?Xz142 ?_; (case hbz142 => first | assumption | decide +kernel); (case Fz142 => k_asm); (case Xz142 => k_asm)); k_whole)
  k_with "call ref" => (k_here; (with_reducible show wpAny _ _ (call (Value.ref 775) _) _ _ _); k_dflt (refine' Mine.simple_use ?hbz143 ?k1z143 ?k2z143 ?k3z143 ?k4z143 ?k5z143 ?kKz143 ?kdz143 ?kuz143 ?_; (case hbz143 => first | assumption | decide +kernel); (case k1z143 => k_asm); (case k2z143 => k_asm); (case k3z143 => k_asm); (case k4z143 => k_asm); (case k5z143 => k_asm); (case kKz143 => exact rfl); (case kdz143 => walk_at "rm"); (case kuz143 => walk_at "rm")); intro h' tk' F' N')
  k_with "call builtin:len" => (k_here; (with_reducible show wpAny _ _ (call (Value.builtin "len") [Value.str _ _]) _ _ _); (refine Mine.len_short (by assumption) ?_); intro t' k')
  k_with "compareOp Gt int int" => (k_here; k_dflt (first | refine Mine.gt_short (by assumption) ?_ | refine Mine.gt_long (by assumption) ?_))
  k_with "compareOp Eq str str" => (k_here; (refine Mine.eq_b (by assumption) ?_))
  k_with "compareOp In str str" => (k_here; (refine Mine.in_b (by assumption) ?_))
  k_with "binaryOp Add str str" => (k_here; (first | refine Mine.add_b1 (by assumption) ?_ | refine Mine.add_b2 (by assumption) ?_ | refine Mine.add_b3 (by assumption) ?_); intro t' k')
  refine wpAny_call ?_
  k_dflt (k_extra "con_enter")
  k_steps
  all_goals exact ends_of ⟨⟨_, congrArg (fun x => Value.str x _) ho⟩, rfl⟩ (List.forall_mem_nil _)
theorem symE {prog : Program} {w : World} {nm out : Str} {t : Tok} (hr : isRes nm = false) (hs : simpleB nm = false) (hl : nm.length ≤ 5) (h2 : 2 < nm.length) (h3 : (Txt.item nm 0 == Str.ofString "|") = true) (h4 : (Txt.item nm (-1) == Str.ofString "|") = true) (h5 : isRes (Txt.slice nm (some 1) (some (-1))) = true) (ho : nm = out) : Reads0 prog w 2 782 [.str nm t] [] (fun r => ∃ t', r = .str (out) t') := by
  unfold Reads0 Runs
  intro mean mg mb dp un gd cn' cs a ccd cl outer A₀ base h₀ L m s Q E B F X N T hk hd hu hret
  rcases s with ⟨hp0, gs0, dr0, tk0, os0⟩
  dsimp only at F N hret
  k_with_none
  k_with "om" => first | (with_reducible first | assumption | exact Mine.r2 (by assumption) (by k_dflt exact rfl) | exact Mine.r0 (by assumption) | exact Int.natCast_nonneg _ | exact Int.le_refl _ | exact Nat.le_refl _) | (first | lia | omega)
  k_with "rm" => first | ((try dsimp only [depth_under_make, depth_under_kw, depth_in1, depth_deeper, depth_caller, units_in1, units_deeper, Around.mark_units, units_caller, units_under_make, ktrTop]); walk_at "om") | ktr_room | ktr_units
  k_with "con_enter" => (refine' Mine.code_defQ ?k1z29 ?k2z29 ?k3z29 ?k4z29 ?k5z29 ?kAz29 ?kFz29 ?kKz29 ?k6z29 ?k7z29 ?k8z29 ?k9z29 ?kBz29 ?_ ?c2z29 ?c3z29 ?c4z29 ?c5z29; (case kAz29 => exact rfl); (case kFz29 => exact rfl); (case kKz29 => assumption); (case k1z29 => k_asm); (case k2z29 => k_asm); (case k3z29 => k_asm); (case k4z29 => k_asm); (case k5z29 => k_asm); (case k6z29 => k_is); (case k7z29 => k_is); (case k8z29 => walk_at "rm"); (case k9z29 => first | exact BindsTo.of_eq (binds := []) rfl | exact BindsTo.of_eq (binds := [(_, _)]) rfl | exact BindsTo.of_eq (binds := [(_, _), (_, _)]) rfl | exact BindsTo.of_eq (binds := [(_, _), (_, _), (_, _)]) rfl | exact BindsTo.of_eq (binds := [(_, _), (_, _), (_, _), (_, _)]) rfl | exact BindsTo.of_eq (binds := [(_, _), (_, _), (_, _), (_, _), (_, _)]) rfl | exact BindsTo.of_eq rfl); (case c5z29 => decide); (case kBz29 => exact locs rfl); (case c2z29 => exact rfl); (case c3z29 => exact rfl); (case c4z29 => exact rfl); k_whole; intro g' L' h' tk' FG' F' N' B' X' T' S' hL' qk ek)
  k_with "LeaveK" => (k_dflt (refine' Mine.leave_con ?hrz24 ?hSz24 ?hFz24 ?hNz24 ?hqz24 ?_; (case hrz24 => assumption); (case hSz24 => assumption); (case hFz24 => k_asm); (case hNz24 => k_asm); (case hqz24 => exact rfl); k_whole))
  k_with "k_all" => assumption
  k_with "key mem" => fail
  k_with "k_mem" => (k_whole; walk_at "key mem")
  k_with "k_ne" => ((refine neN ?_; (try dsimp only)); first | (refine' Mine.ne_below ?kb9z33 ?km9z33; (case kb9z33 => with_reducible assumption); (case km9z33 => walk_at "key mem")) | (refine' Mine.ne_above ?kb9z33 ?km9z33; (case kb9z33 => with_reducible assumption); (case km9z33 => walk_at "key mem")) | walk_at "ne find" | (first | lia | omega))
  k_with "k_all" => (refine' Mine.all_below ?kb9z30 ?km9z30; (case kb9z30 => with_reducible assumption); (case km9z30 => exact rfl))
  k_with "ne find" => first | with_reducible assumption | (refine Ne.symm ?_; with_reducible assumption) | (refine Nat.ne_of_lt ?_; with_reducible assumption) | (refine Nat.ne_of_gt ?_; with_reducible assumption) | ((with_reducible rename _ ∧ _ => hc9); have hc8 := hc9.1; have hc7 := hc9.2; clear hc9; walk_at "ne find")
  k_with "spliced" => (k_here; (refine PyProof.Rows.args_nil ?_); (try dsimp only [List.cons_append, List.nil_append]); (with_reducible show _ ∧ _))
  k_with "compareOp In str ref" => (k_here; (with_reducible show wpAny _ _ (compareOp CmpOp.In (Value.str _ _) (Value.ref 768)) _ _ _); k_dflt (refine' Mine.in_RESb ?hbz142 ?Fz142 ?Xz142 ?_; (case hbz142 => first | assumption | decide +kernel); (case Fz142 => k_asm); (case Xz142 => k_asm)); k_whole)
  k_with "call ref" => (k_here; (with_reducible show wpAny _ _ (call (Value.ref 775) _) _ _ _); k_dflt (refine' Mine.simple_use ?hbz143 ?k1z143 ?k2z143 ?k3z143 ?k4z143 ?k5z143 ?kKz143 ?kdz143 ?kuz143 ?_; (case hbz143 => first | assumption | decide +kernel); (case k1z143 => k_asm); (case k2z143 => k_asm); (case k3z143 => k_asm); (case k4z143 => k_asm); (case k5z143 => k_asm); (case kKz143 => exact rfl); (case kdz143 => walk_at "rm"); (case kuz143 => walk_at "rm")); intro h' tk' F' N')
  k_with "call builtin:len" => (k_here; (with_reducible show wpAny _ _ (call (Value.builtin "len") [Value.str _ _]) _ _ _); (refine Mine.len_short (by assumption) ?_); intro t' k')
  k_with "compareOp Gt int int" => (k_here; k_dflt (first | refine Mine.gt_short (by assumption) ?_ | refine Mine.gt_long (by assumption) ?_))
  k_with "compareOp Eq str str" => (k_here; (refine Mine.eq_b (by assumption) ?_))
  k_with "compareOp In str str" => (k_here; (refine Mine.in_b (by assumption) ?_))
  k_with "binaryOp Add str str" => (k_here; (first | refine Mine.add_b1 (by assumption) ?_ | refine Mine.add_b2 (by assumption) ?_ | refine Mine.add_b3 (by assumption) ?_); intro t' k')
  refine wpAny_call ?_
  k_dflt (k_extra "con_enter")
  k_steps
  all_goals exact ends_of ⟨⟨_, congrArg (fun x => Value.str x _) ho⟩, rfl⟩ (List.forall_mem_nil _)
theorem sym_0 {prog : Program} {w : World} {t : Tok} : Reads0 prog w 2 782 [.str (Str.ofString "a") t] [] (fun r => ∃ t', r = .str (Str.ofString "a") t') := symB (by decide +kernel) (by decide +kernel)
theorem sym_1 {prog : Program} {w : World} {t : Tok} : Reads0 prog w 2 782 [.str (Str.ofString "A-1") t] [] (fun r => ∃ t', r = .str (Str.ofString "A-1") t') := symB (by decide +kernel) (by decide +kernel)
theorem sym_2 {prog : Program} {w : World} {t : Tok} : Reads0 prog w 2 782 [.str (Str.ofString "<=") t] [] (fun r => ∃ t', r = .str (Str.ofString "<=") t') := symB (by decide +kernel) (by decide +kernel)
theorem sym_3 {prog : Program} {w : World} {t : Tok} : Reads0 prog w 2 782 [.str (Str.ofString "b c") t] [] (fun r => ∃ t', r = .str (Str.ofString "|b c|") t') := symF (by decide +kernel) (by decide +kernel) (by decide) (by decide) (by decide +kernel) (by decide +kernel) (by decide +kernel) (by decide +kernel)
theorem sym_4 {prog : Program} {w : World} {t : Tok} : Reads0 prog w 2 782 [.str (Str.ofString "") t] [] (fun r => ∃ t', r = .str (Str.ofString "||") t') := symD (by decide +kernel) (by decide +kernel) (by decide) (by decide) (by decide +kernel) (by decide +kernel) (by decide +kernel)
theorem sym_5 {prog : Program} {w : World} {t : Tok} : Reads0 prog w 2 782 [.str (Str.ofString "let") t] [] (fun r => ∃ t', r = .str (Str.ofString "let") t') := symA (by decide +kernel)
theorem sym_6 {prog : Program} {w : World} {t : Tok} : Reads0 prog w 2 782 [.str (Str.ofString "|let|") t] [] (fun r => ∃ t', r = .str (Str.ofString "|let|") t') := symE (by decide +kernel) (by decide +kernel) (by decide) (by decide) (by decide +kernel) (by decide +kernel) (by decide +kernel) rfl
theorem sym_7 {prog : Program} {w : World} {t : Tok} : Reads0 prog w 2 782 [.str (Str.ofString "7") t] [] (fun r => ∃ t', r = .str (Str.ofString "|7|") t') := symD (by decide +kernel) (by decide +kernel) (by decide) (by decide) (by decide +kernel) (by decide +kernel) (by decide +kernel)
theorem sym_8 {prog : Program} {w : World} {t : Tok} : Reads0 prog w 2 782 [.str (Str.ofString "é") t] [] (fun r => ∃ t', r = .str (Str.ofString "|é|") t') := symD (by decide +kernel) (by decide +kernel) (by decide) (by decide) (by decide +kernel) (by decide +kernel) (by decide +kernel)
theorem sym_9 {prog : Program} {w : World} {t : Tok} : Reads0 prog w 2 782 [.str (Str.ofString ":k") t] [] (fun r => ∃ t', r = .str (Str.ofString "|:k|") t') := symD (by decide +kernel) (by decide +kernel) (by decide) (by decide) (by decide +kernel) (by decide +kernel) (by decide +kernel)
end Mine
end
/- T15 -/
section
open PySem PySem.W PyProof.Rows PySem.Calls PySem.Spec
namespace Mine
set_option maxRecDepth 100000
set_option maxHeartbeats 4000000 

theorem Reads0.monoP {prog : Program} {w : World} {n : Nat} {f : Addr} {vs : List Value} {foot : List (Addr × Obj)} {P P' : Value → Prop} (C : Reads0 prog w n f vs foot P) (h : ∀ r, P r → P' r) : Reads0 prog w n f vs foot P' :=
  Runs.mono C fun r _ hr => ⟨h r hr.1, hr.2⟩
theorem sym_ok {prog : Program} {w : World} {i : Nat} {t : Tok} {ch : List Nat} (hch : (textAt i).map lc = some ch) : Reads0 prog w 2 782 [.str (nameAt i) t] [] (fun r => ∃ x t', r = .str x t' ∧ lc x = ch) := by
  have : i = 0 ∨ i = 1 ∨ i = 2 ∨ i = 3 ∨ i = 4 ∨ i = 5 ∨ i = 6 ∨ i = 7 ∨ i = 8 ∨ i = 9 ∨ 10 ≤ i := or10 i
  rcases this with rfl | rfl | rfl | rfl | rfl | rfl | rfl | rfl | rfl | rfl | h
  · exact Reads0.monoP sym_0 fun r ⟨t', e⟩ => ⟨_, t', e, Option.some.inj hch⟩
  · exact Reads0.monoP sym_1 fun r ⟨t', e⟩ => ⟨_, t', e, Option.some.inj hch⟩
  · exact Reads0.monoP sym_2 fun r ⟨t', e⟩ => ⟨_, t', e, Option.some.inj hch⟩
  · exact Reads0.monoP sym_3 fun r ⟨t', e⟩ => ⟨_, t', e, Option.some.inj hch⟩
  · exact Reads0.monoP sym_4 fun r ⟨t', e⟩ => ⟨_, t', e, Option.some.inj hch⟩
  · exact Reads0.monoP sym_5 fun r ⟨t', e⟩ => ⟨_, t', e, Option.some.inj hch⟩
  · exact Reads0.monoP sym_6 fun r ⟨t', e⟩ => ⟨_, t', e, Option.some.inj hch⟩
  · exact Reads0.monoP sym_7 fun r ⟨t', e⟩ => ⟨_, t', e, Option.some.inj hch⟩
  · exact Reads0.monoP sym_8 fun r ⟨t', e⟩ => ⟨_, t', e, Option.some.inj hch⟩
  · exact Reads0.monoP sym_9 fun r ⟨t', e⟩ => ⟨_, t', e, Option.some.inj hch⟩
  · exfalso
    have : textAt i = none := by
      by_cases h1 : i = 10
      · subst h1; rfl
      · by_cases h2 : i = 11
        · subst h2; rfl
        · by_cases h3 : i = 12
          · subst h3; rfl
          · unfold textAt
            rw [List.getD_eq_getElem?_getD, List.getElem?_eq_none (by simp only [List.length_cons, List.length_nil]; (first | lia | omega))]; rfl
    rw [this] at hch; cases hch

theorem term_at {prog : Program} {w : World} {c : Nat} {S : BS} {k : BKey} {a : Addr} {t : Nat} {t' : Tok} (ok : SOK prog w c S) (h : atKey S.xs k = some (a, .int t t')) :
    ∃ (t1 t2 : Tok) (e : Addr) (ne : Nat) (dv : Value), 1 ≤ t ∧ t < c ∧ S.B.ops[t]? = some (.str k.1 t1) ∧ S.B.targs[t]? = some (.ref e) ∧ (e, tupO [] ne) ∈ S.imms ∧ S.B.sorts[t]? = some (.int k.2.1 t2) ∧ S.B.datas[t]? = some dv ∧ DatL S.imms k.2.2 dv := by
  (refine Mine.ex7 (ok.bk.vals _ (atKey_mem h)) fun i u t1 t2 e ne dv om0 => Mine.an8 om0 fun h1 h2 h3 h4 h5 h6 h7 h8 => ?_; clear om0)
  simp only at h1
  injection h1 with h1 _
  have h1 : t = i := Int.ofNat.inj h1
  subst h1
  have hlt : t < S.B.ops.size := by
    rcases Nat.lt_or_ge t S.B.ops.size with q | q
    · exact q
    · rw [Array.getElem?_eq_none q] at h3; cases h3
  exact ⟨t1, t2, e, ne, dv, h2, Nat.lt_of_lt_of_le hlt ok.bk.s4, h3, h4, h5, h6, h7, h8⟩

noncomputable def Leaf.chars : Leaf → Option (List Nat)
  | .num r t b => some (numText r t b)
  | .bits v wd => some ([35, 98] ++ bitsTo v wd wd)
  | .name i => (textAt i).map lc
  | .tf b => some (lc (opTF b))
noncomputable def LTxt (ch : List Nat) (z : Value) : Prop := ∃ x t', z = .str x t' ∧ lc x = ch


theorem some_lt {a : Array Value} {i : Nat} {v : Value} (h : a[i]? = some v) : i < a.size := by
  rcases Nat.lt_or_ge i a.size with q | q
  · exact q
  · rw [Array.getElem?_eq_none q] at h; cases h
theorem leaftext_reads {prog : Program} {w : World} {c : Nat} {S : BS} {cs : List (Str × Value)} {l : Leaf} {t : Nat} {tt : Tok} {ch : List Nat} (ok : SOK prog w c S) (hc : c ≤ 1000) (hl : l.Is S cs t) (hch : l.chars = some ch) :
    Reads0 prog w 5 727 [.ref (S.B.A 1), .int t tt] S.led (LTxt ch) := by
  obtain ⟨B, xs, imms, kvs⟩ := S
  have mono := ok.bk.mono
  have apart := ok.bk.apart
  have bvv := ok.bv.vals
  have n1 := ok.bv.n1
  have n2 := ok.bv.n2
  have f3 := ok.f3
  simp only at mono apart bvv n1 n2 f3
  unfold Reads0 Runs LTxt
  intro mean mg mb dp un gd cn' cs' a ccd cl outer A₀ base h₀ L m s Q E B' F X N T hk hd hu hret
  rcases s with ⟨hp0, gs0, dr0, tk0, os0⟩
  dsimp only at F N hret
  simp only [BS.led, Bk.led, List.cons_append, List.nil_append] at N hret
  k_with_none
  k_with "om" => first | (with_reducible first | assumption | exact Mine.r1 (by assumption) (by k_dflt exact rfl) | exact Mine.r2 (by assumption) (by k_dflt exact rfl) | exact Mine.r0 (by assumption) | exact Mine.v7 (by assumption) (by assumption) (by k_dflt exact rfl) | exact Mine.w2 (by assumption) (by assumption) (by assumption) (by k_dflt exact rfl) | exact Int.natCast_nonneg _ | exact Int.le_refl _ | exact Nat.le_refl _) | (first | lia | omega)
  k_with "rm" => first | ((try dsimp only [depth_under_make, depth_under_kw, depth_in1, depth_deeper, depth_caller, units_in1, units_deeper, Around.mark_units, units_caller, units_under_make, ktrTop]); walk_at "om") | ktr_room | ktr_units
  k_with "con_enter" => (refine' Mine.code_defQ ?k1z29 ?k2z29 ?k3z29 ?k4z29 ?k5z29 ?kAz29 ?kFz29 ?kKz29 ?k6z29 ?k7z29 ?k8z29 ?k9z29 ?kBz29 ?_ ?c2z29 ?c3z29 ?c4z29 ?c5z29; (case kAz29 => exact rfl); (case kFz29 => exact rfl); (case kKz29 => assumption); (case k1z29 => k_asm); (case k2z29 => k_asm); (case k3z29 => k_asm); (case k4z29 => k_asm); (case k5z29 => k_asm); (case k6z29 => k_is); (case k7z29 => k_is); (case k8z29 => walk_at "rm"); (case k9z29 => first | exact BindsTo.of_eq (binds := []) rfl | exact BindsTo.of_eq (binds := [(_, _)]) rfl | exact BindsTo.of_eq (binds := [(_, _), (_, _)]) rfl | exact BindsTo.of_eq (binds := [(_, _), (_, _), (_, _)]) rfl | exact BindsTo.of_eq (binds := [(_, _), (_, _), (_, _), (_, _)]) rfl | exact BindsTo.of_eq (binds := [(_, _), (_, _), (_, _), (_, _), (_, _)]) rfl | exact BindsTo.of_eq rfl); (case c5z29 => decide); (case kBz29 => exact locs rfl); (case c2z29 => exact rfl); (case c3z29 => exact rfl); (case c4z29 => exact rfl); k_whole; intro g' L' h' tk' FG' F' N' B' X' T' S' hL' qk ek)
  k_with "k_enter" => k_dflt (refine' Mine.code_defEQ ?k1z31 ?k2z31 ?k3z31 ?k4z31 ?k5z31 ?kAz31 ?kFz31 ?kKz31 ?k6z31 ?k7z31 ?k8z31 ?k9z31 ?kBz31 ?_ ?c2z31 ?c3z31 ?c4z31 ?c5z31; (case kAz31 => exact rfl); (case kFz31 => exact rfl); (case kKz31 => first | exact rfl | assumption); (case k1z31 => k_asm); (case k2z31 => k_asm); (case k3z31 => k_asm); (case k4z31 => k_asm); (case k5z31 => k_asm); (case k6z31 => k_is); (case k7z31 => k_is); (case k8z31 => walk_at "rm"); (case k9z31 => first | exact BindsTo.of_eq (binds := []) rfl | exact BindsTo.of_eq (binds := [(_, _)]) rfl | exact BindsTo.of_eq (binds := [(_, _), (_, _)]) rfl | exact BindsTo.of_eq (binds := [(_, _), (_, _), (_, _)]) rfl | exact BindsTo.of_eq (binds := [(_, _), (_, _), (_, _), (_, _)]) rfl | exact BindsTo.of_eq (binds := [(_, _), (_, _), (_, _), (_, _), (_, _)]) rfl | exact BindsTo.of_eq rfl); (case c5z31 => decide); (case kBz31 => exact locs rfl); (case c2z31 => exact rfl); (case c3z31 => exact rfl); (case c4z31 => exact rfl); k_whole; intro g' L' h' tk' FG' F' N' B' X' T' qk ek)
  k_with "LeaveK" => (k_dflt (refine' Mine.leave_con ?hrz24 ?hSz24 ?hFz24 ?hNz24 ?hqz24 ?_; (case hrz24 => assumption); (case hSz24 => assumption); (case hFz24 => k_asm); (case hNz24 => k_asm); (case hqz24 => exact rfl); k_whole))
  k_with "k_all" => assumption
  k_with "key mem" => fail
  k_with "k_mem" => (k_whole; walk_at "key mem")
  k_with "k_ne" => ((refine neN ?_; (try dsimp only)); first | (refine' Mine.ne_below ?kb9z33 ?km9z33; (case kb9z33 => with_reducible assumption); (case km9z33 => walk_at "key mem")) | (refine' Mine.ne_above ?kb9z33 ?km9z33; (case kb9z33 => with_reducible assumption); (case km9z33 => walk_at "key mem")) | walk_at "ne find" | (first | lia | omega))
  k_with "k_all" => (refine' Mine.all_below ?kb9z30 ?km9z30; (case kb9z30 => with_reducible assumption); (case km9z30 => exact rfl))
  k_with "ne find" => first | with_reducible assumption | (refine Ne.symm ?_; with_reducible assumption) | (refine Nat.ne_of_lt ?_; with_reducible assumption) | (refine Nat.ne_of_gt ?_; with_reducible assumption) | ((with_reducible rename _ ∧ _ => hc9); have hc8 := hc9.1; have hc7 := hc9.2; clear hc9; walk_at "ne find")
  k_with "spliced" => (k_here; (refine PyProof.Rows.args_nil ?_); (try dsimp only [List.cons_append, List.nil_append]); (with_reducible show _ ∧ _))
  k_with "compareOp Eq str str" => (k_here; first | (refine Mine.eq_lit true (by decide +kernel) ?_) | (refine Mine.eq_lit false (by decide +kernel) ?_))
  k_with "subscriptTail" => (k_here; (with_reducible show wpAny _ _ (subscriptTail _ _ (Value.ref _) (Value.int _ _)) _ _ _); k_dflt (refine' PyProof.Rows.item_list (News.isList ?Nz10 ?pz10) ?az10 ?bz10 ?xz10 ?_; (case Nz10 => k_asm); (case pz10 => k_mem); (case xz10 => k_extra "item"); (case az10 => walk_at "om"); (case bz10 => walk_at "om")))
  k_with "k_mem" => assumption
  k_with "call ref" => (k_here; (with_reducible show wpAny _ _ (call (Value.ref 720) _) _ _ _); k_dflt (refine' Mine.Runs.useT (Mine.numtext_reads (r := true) ?gz115) ?k1z115 ?k2z115 ?k3z115 ?k4z115 ?k5z115 ?kKz115 ?kdz115 ?kuz115 ?kfz115 ?_; (case k1z115 => k_asm); (case k2z115 => k_asm); (case k3z115 => k_asm); (case k4z115 => k_asm); (case k5z115 => k_asm); (case kKz115 => first | exact rfl | assumption); (case gz115 => assumption); (case kfz115 => k_extra "num foot"); (case kdz115 => walk_at "rm"); (case kuz115 => walk_at "rm")); intro x' t' h' tk' F' N' hx'; (try k_sweep))
  k_with "call ref" => (k_here; (with_reducible show wpAny _ _ (call (Value.ref 720) _) _ _ _); k_dflt (refine' Mine.Runs.useT (Mine.numtext_reads (r := false) ?gz116) ?k1z116 ?k2z116 ?k3z116 ?k4z116 ?k5z116 ?kKz116 ?kdz116 ?kuz116 ?kfz116 ?_; (case k1z116 => k_asm); (case k2z116 => k_asm); (case k3z116 => k_asm); (case k4z116 => k_asm); (case k5z116 => k_asm); (case kKz116 => first | exact rfl | assumption); (case gz116 => assumption); (case kfz116 => k_extra "num foot"); (case kdz116 => walk_at "rm"); (case kuz116 => walk_at "rm")); intro x' t' h' tk' F' N' hx'; (try k_sweep))
  k_with "call ref" => (k_here; (with_reducible show wpAny _ _ (call (Value.ref 789) _) _ _ _); k_dflt (refine' Mine.Runs.useT (Mine.bits_reads ?h1z117 ?h2z117 ?h3z117) ?k1z117 ?k2z117 ?k3z117 ?k4z117 ?k5z117 ?kKz117 ?kdz117 ?kuz117 ?kfz117 ?_; (case k1z117 => k_asm); (case k2z117 => k_asm); (case k3z117 => k_asm); (case k4z117 => k_asm); (case k5z117 => k_asm); (case kKz117 => first | exact rfl | assumption); (case h1z117 => assumption); (case h2z117 => walk_at "om"); (case h3z117 => walk_at "om"); (case kfz117 => exact List.forall_mem_nil _); (case kdz117 => walk_at "rm"); (case kuz117 => walk_at "rm")); intro x' t' h' tk' F' N' hx'; (try k_sweep))
  k_with "call ref" => (k_here; (with_reducible show wpAny _ _ (call (Value.ref 782) _) _ _ _); k_dflt (refine' Mine.Runs.useT (Mine.sym_ok ?h1z118) ?k1z118 ?k2z118 ?k3z118 ?k4z118 ?k5z118 ?kKz118 ?kdz118 ?kuz118 ?kfz118 ?_; (case k1z118 => k_asm); (case k2z118 => k_asm); (case k3z118 => k_asm); (case k4z118 => k_asm); (case k5z118 => k_asm); (case kKz118 => first | exact rfl | assumption); (case h1z118 => assumption); (case kfz118 => exact List.forall_mem_nil _); (case kdz118 => walk_at "rm"); (case kuz118 => walk_at "rm")); intro x' t' h' tk' F' N' hx'; (try k_sweep))
  k_with "item" => assumption
  cases l with
  | num r top bottom =>
    (refine Mine.an2 hl fun g om0 => Mine.ex2 om0 fun a9 t9 hat => ?_; clear om0; (try clear hl))
    (refine Mine.ex5 (term_at ok hat) fun t1 t2 e ne dv om0 => Mine.an8 om0 fun i1 i2 o1 o2 o3 o4 o5 o6 => ?_; clear om0)
    (refine Mine.ex4 o6 fun da n9 u1 u2 om0 => Mine.an2 om0 fun oq4 o7 => ?_; clear om0; (try clear o6); subst oq4)
    simp only at o1 o2 o3 o4 o5
    have hch := Option.some.inj hch
    subst hch
    k_with "num foot" => exact List.forall_mem_cons.mpr ⟨(by repeat (first | assumption | refine List.Mem.tail _ ?_)), List.forall_mem_nil _⟩
    cases r with
    | true =>
      have o4 : B.sorts[t]? = some (.int 2 t2) := o4
      refine wpAny_call ?_
      k_dflt (k_extra "con_enter")
      k_steps
      all_goals exact ends_of ⟨⟨_, _, rfl, by assumption⟩, rfl⟩ (fun q hq => hq)
    | false =>
      have o4 : B.sorts[t]? = some (.int 1 t2) := o4
      refine wpAny_call ?_
      k_dflt (k_extra "con_enter")
      k_steps
      all_goals exact ends_of ⟨⟨_, _, rfl, by assumption⟩, rfl⟩ (fun q hq => hq)
  | bits v wd =>
    (refine Mine.an4 hl fun w1 w2 w3 om0 => Mine.ex4 om0 fun j tj a9 t9 om1 => Mine.an2 om1 fun hkv hat => ?_; clear om0 om1; (try clear hl))
    (refine Mine.ex5 (term_at ok hat) fun t1 t2 e ne dv om0 => Mine.an8 om0 fun i1 i2 o1 o2 o3 o4 o5 o6 => ?_; clear om0)
    (refine Mine.ex1 o6 fun u1 oq1 => ?_; (try clear o6); subst oq1)
    simp only at o1 o2 o3 o4 o5 hkv
    have hch := Option.some.inj hch
    subst hch
    (refine Mine.ex3 (bvv _ (valueAt_mem hkv)) fun j' s1 s2 om0 => Mine.an3 om0 fun e1 e2 e3 => ?_; clear om0)
    simp only at e1
    injection e1 with e1 _
    have e1 : j = j' := Int.ofNat.inj e1
    subst e1
    have w4 : v < 2 ^ 70 := Nat.lt_of_lt_of_le w3 (Nat.pow_le_pow_right (by decide) w2)
    have w5 := some_lt e3
    refine wpAny_call ?_
    k_dflt (k_extra "con_enter")
    k_steps
    all_goals exact ends_of ⟨⟨_, _, rfl, by assumption⟩, rfl⟩ (fun q hq => hq)
  | name i =>
    (refine Mine.an3 hl fun hi _ om0 => Mine.ex5 om0 fun f tf srt a9 t9 om1 => Mine.an2 om1 fun hf hat => ?_; clear om0 om1; (try clear hl))
    (refine Mine.ex5 (term_at ok hat) fun t1 t2 e ne dv om0 => Mine.an8 om0 fun i1 i2 o1 o2 o3 o4 o5 o6 => ?_; clear om0)
    (refine Mine.ex1 o6 fun u1 oq1 => ?_; (try clear o6); subst oq1)
    simp only at o1 o2 o3 o4 o5 hf
    have hch : (textAt i).map lc = some ch := hch
    have w5 := some_lt hf
    refine wpAny_call ?_
    k_dflt (k_extra "con_enter")
    k_steps
    all_goals exact ends_of ⟨⟨_, _, rfl, by assumption⟩, rfl⟩ (fun q hq => hq)
  | tf b =>
    (refine Mine.ex2 hl fun a9 t9 hat => ?_; (try clear hl))
    (refine Mine.ex5 (term_at ok hat) fun t1 t2 e ne dv om0 => Mine.an8 om0 fun i1 i2 o1 o2 o3 o4 o5 o6 => ?_; clear om0)
    simp only at o1 o2 o3 o4 o5
    have hch := Option.some.inj hch
    subst hch
    cases b with
    | true =>
      have o1 : B.ops[t]? = some (.str (Str.ofString "true") t1) := o1
      refine wpAny_call ?_
      k_dflt (k_extra "con_enter")
      k_steps
      all_goals exact ends_of ⟨⟨_, _, rfl, rfl⟩, rfl⟩ (fun q hq => hq)
    | false =>
      have o1 : B.ops[t]? = some (.str (Str.ofString "false") t1) := o1
      refine wpAny_call ?_
      k_dflt (k_extra "con_enter")
      k_steps
      all_goals exact ends_of ⟨⟨_, _, rfl, rfl⟩, rfl⟩ (fun q hq => hq)
end Mine
end
/- F5 -/
section
open PySem PySem.W PyProof.Rows PySem.Calls PySem.Spec PySem.NumText
namespace Mine
set_option maxRecDepth 100000
set_option maxHeartbeats 4000000
theorem Runs.up {prog : Program} {w : World} {n n' : Nat} {f : Addr} {vs : List Value} {foot : List (Addr × Obj)} {Ret : Value → List (Addr × Obj) → Prop} (C : Runs prog w n f vs foot Ret) (h : n ≤ n') : Runs prog w n' f vs foot Ret :=
  fun _ _ _ _ _ _ _ _ _ _ _ _ _ _ _ _ _ _ _ _ B F X N T hk hd hu ret => C _ _ _ _ _ _ _ _ _ _ _ _ _ _ _ _ _ _ _ _ B F X N T hk (by (first | lia | omega)) (by (first | lia | omega)) ret
theorem ten_two : 2 ^ 26010 ≤ 10 ^ 8000 := by decide +kernel
theorem figs_small {a : Int} (h : Small 26010 a) : Figs (digs a.natAbs) a.natAbs := figs_digs (Nat.lt_of_lt_of_le h ten_two)
theorem num_core {prog : Program} {w : World} {r : Bool} {top bottom : Int} (g : GoodNum r top bottom) (y : Str) (t : Tok) (hy : lc y = coreText r top bottom) : Runs prog w 14 836 [.str y t] [] (NumRet top.natAbs bottom r) := by
  unfold coreText at hy
  by_cases hb : bottom = 1
  · rw [if_pos hb] at hy
    subst hb
    exact (number0 hy (figs_small g.small)).up (by decide)
  · rw [if_neg hb] at hy
    have hr : r = true := by
      cases r with
      | true => rfl
      | false => exact absurd (g.int rfl) hb
    subst hr
    have hp := g.pos
    have h0 := g.top0 hb
    have e : bottom = (bottom.natAbs : Int) := (Int.natAbs_of_nonneg (Int.le_trans (by decide) hp)).symm
    have e2 : bottom.toNat = bottom.natAbs := toNat_abs (Int.le_trans (by decide) hp)
    rw [e2] at hy
    have := number1 (prog := prog) (w := w) (x := y) (t := t) (by rw [hy]; simp [List.append_assoc]) (figs_small g.small) (figs_small g.smallb) (Int.natAbs_pos.mpr h0) (Nat.lt_of_le_of_ne (Int.natAbs_pos.mpr (by intro q; rw [q] at hp; exact absurd hp (by decide))) (fun q => hb (by rw [e, ← q]; rfl)))
    rw [← e] at this
    exact this
theorem num_law {prog : Program} {w : World} {r : Bool} {top bottom : Int} (g : GoodNum r top bottom) {x : Str} {t : Tok} (hx : lc x = numText r top bottom) : Runs prog w 16 836 [.str x t] [] (NumRet top bottom r) := by
  unfold numText at hx
  by_cases hn : top < 0
  · rw [if_pos hn] at hx
    have hl : (coreText r top bottom).length ≤ 17000 := by
      have h1 := (figs_small g.small).len
      have h2 := (figs_small g.smallb).len
      have hp := g.pos
      have e2 : bottom.toNat = bottom.natAbs := toNat_abs (Int.le_trans (by decide) hp)
      unfold coreText
      rw [e2]
      split <;> cases r <;> simp only [List.length_append, List.length_cons, List.length_nil, dot0, if_true, if_false, Bool.false_eq_true] <;> (first | lia | omega)
    have := number2 (prog := prog) (w := w) (x := x) (t := t) hx hl (a := top.natAbs) (b := bottom) (r := r) (Int.ofNat_le.mpr (Int.natAbs_pos.mpr (Int.ne_of_lt hn))) (num_core g)
    have e : (0 : Int) - (top.natAbs : Int) = top := by rw [Int.ofNat_natAbs_of_nonpos (Int.le_of_lt hn), Int.zero_sub, Int.neg_neg]
    rw [e] at this
    exact this
  · rw [if_neg hn] at hx
    have := (num_core (prog := prog) (w := w) g x t hx).up (n' := 16) (by decide)
    have e : (top.natAbs : Int) = top := by (first | lia | omega)
    rw [e] at this
    exact this
theorem bits_all (v n i : Nat) : AllBits (bitsTo v n i) := fun c hc => by
  unfold bitsTo at hc
  (refine Mine.ex1 (List.mem_map.mp hc) fun j om0 => Mine.an2 om0 fun _ oq2 => ?_; clear om0; subst oq2)
  unfold bitc
  split
  · exact .inr rfl
  · exact .inl rfl
theorem bits_val {v n : Nat} (h : v < 2 ^ n) : ∀ i, i ≤ n → bitsVal (bitsTo v n i) = v / 2 ^ (n - i)
  | 0, _ => by rw [Nat.sub_zero, Nat.div_eq_of_lt h]; rfl
  | i + 1, hi => by
    have ih := bits_val h i (Nat.le_of_lt hi)
    have e : bitsTo v n (i + 1) = bitsTo v n i ++ [bitc v (n - 1 - i)] := by unfold bitsTo; rw [List.range_succ, List.map_append]; rfl
    have e2 : bitsVal (bitsTo v n i ++ [bitc v (n - 1 - i)]) = bitsVal (bitsTo v n i) * 2 + (bitc v (n - 1 - i) - 48) := by unfold bitsVal; rw [List.foldl_append]; rfl
    rw [e, e2, ih]
    have e3 : n - i = (n - 1 - i) + 1 := by rw [Nat.sub_right_comm]; exact (Nat.sub_add_cancel (Nat.sub_pos_of_lt hi)).symm
    have e4 : n - (i + 1) = n - 1 - i := by rw [Nat.sub_sub, Nat.add_comm]
    rw [e3, e4, Nat.pow_succ, ← Nat.div_div_eq_div_mul]
    unfold bitc
    generalize v / 2 ^ (n - 1 - i) = z
    have hz := Nat.div_add_mod z 2
    split
    · rename_i h1
      rw [h1] at hz; rw [Nat.mul_comm]; exact hz
    · rename_i h1
      rw [(Nat.mod_two_eq_zero_or_one z).resolve_right h1] at hz; rw [Nat.mul_comm]; exact hz
theorem lc_hb : lc (Str.ofString "#b") = [35, 98] := by decide +kernel
theorem lc_01 : lc (Str.ofString "01") = [48, 49] := by decide +kernel
theorem is_hb {x y : Str} {r : List Nat} (hx : lc x = [35, 98] ++ r) (hy : lc y = (lc x).take (clip x.length 2)) : (y.cps.toList == (Str.ofString "#b").cps.toList) = true := by
  have e : clip x.length 2 = 2 := by
    have : x.length = 2 + r.length := by rw [← lc_len, hx, List.length_append]; rfl
    exact clip_nat (k := 2) (this ▸ Nat.le_add_right _ _)
  exact is_txt (by rw [hy, hx, e]; rfl) lc_hb
theorem cut_hb {x y : Str} {r : List Nat} (hx : lc x = [35, 98] ++ r) (hy : lc y = (lc x).drop (clip x.length 2)) : lc y = r := by
  have e : clip x.length 2 = 2 := by
    have : x.length = 2 + r.length := by rw [← lc_len, hx, List.length_append]; rfl
    exact clip_nat (k := 2) (this ▸ Nat.le_add_right _ _)
  rw [hy, hx, e]; rfl
theorem bA {y : Str} {v n : Nat} (h : lc y = bitsTo v n n) : AllBits y.cps.toList := by show AllBits (lc y); rw [h]; exact bits_all _ _ _
theorem bN {y : Str} {v n : Nat} (h : lc y = bitsTo v n n) (hn : 1 ≤ n) : y.cps.toList ≠ [] := by
  show lc y ≠ []
  rw [h]
  intro q
  have := congrArg List.length q
  rw [bitsTo_len, List.length_nil] at this
  (first | lia | omega)
theorem bV {y : Str} {v n : Nat} (h : lc y = bitsTo v n n) (hv : v < 2 ^ n) : bitsVal y.cps.toList = v := by
  show bitsVal (lc y) = v
  rw [h, bits_val hv n (Nat.le_refl _), Nat.sub_self, Nat.pow_zero, Nat.div_one]
theorem strip_bits {y : Str} {v n : Nat} (hy : lc y = bitsTo v n n) : ∀ c ∈ lc y, c ∈ lc (Str.ofString "01") := fun c hc => by
  rw [hy] at hc
  rw [lc_01]
  rcases bits_all v n n c hc with rfl | rfl <;> decide
end Mine
open PySem PySem.W PyProof.Rows PySem.Calls PySem.Spec Mine
namespace Mine
theorem due_num_law {prog : Program} {w : World} {r : Bool} {top bottom : Int} (g : GoodNum r top bottom) {x : Str} {t : Tok} (hx : lc x = numText r top bottom) {d v : Addr} {n : Nat} {t1 u1 u2 : Tok} {imms : List (Addr × Obj)} (hv : (v, pairObj top bottom u1 u2) ∈ imms) :
    Reads0 prog w 30 843 [.str x t, .ref d] ((d, tupO [.str (Str.ofString "number") t1, .ref v, .bool r] n) :: imms) (fun z => z = .bool true) := by
  unfold Reads0 Runs
  intro mean mg mb dp un gd cn' cs aa ccd cl outer A₀ base h₀ L m s Q E B F X N T hk hd hu hret
  rcases s with ⟨hp0, gs0, dr0, tk0, os0⟩
  dsimp only at F N hret
  k_with_none
  k_with "om" => first | (with_reducible first | assumption | exact Mine.r2 (by assumption) (by k_dflt exact rfl) | exact Mine.r0 (by assumption) | exact Int.natCast_nonneg _ | exact Int.le_refl _ | exact Nat.le_refl _) | (first | lia | omega)
  k_with "rm" => first | ((try dsimp only [depth_under_make, depth_under_kw, depth_in1, depth_deeper, depth_caller, units_in1, units_deeper, Around.mark_units, units_caller, units_under_make, ktrTop]); walk_at "om") | ktr_room | ktr_units
  k_with "con_enter" => (refine' Mine.code_defQ ?k1z29 ?k2z29 ?k3z29 ?k4z29 ?k5z29 ?kAz29 ?kFz29 ?kKz29 ?k6z29 ?k7z29 ?k8z29 ?k9z29 ?kBz29 ?_ ?c2z29 ?c3z29 ?c4z29 ?c5z29; (case kAz29 => exact rfl); (case kFz29 => exact rfl); (case kKz29 => assumption); (case k1z29 => k_asm); (case k2z29 => k_asm); (case k3z29 => k_asm); (case k4z29 => k_asm); (case k5z29 => k_asm); (case k6z29 => k_is); (case k7z29 => k_is); (case k8z29 => walk_at "rm"); (case k9z29 => first | exact BindsTo.of_eq (binds := []) rfl | exact BindsTo.of_eq (binds := [(_, _)]) rfl | exact BindsTo.of_eq (binds := [(_, _), (_, _)]) rfl | exact BindsTo.of_eq (binds := [(_, _), (_, _), (_, _)]) rfl | exact BindsTo.of_eq (binds := [(_, _), (_, _), (_, _), (_, _)]) rfl | exact BindsTo.of_eq (binds := [(_, _), (_, _), (_, _), (_, _), (_, _)]) rfl | exact BindsTo.of_eq rfl); (case c5z29 => decide); (case kBz29 => exact locs rfl); (case c2z29 => exact rfl); (case c3z29 => exact rfl); (case c4z29 => exact rfl); k_whole; intro g' L' h' tk' FG' F' N' B' X' T' S' hL' qk ek)
  k_with "newTuple" => (k_here; k_dflt (refine' Mine.newTupleS ?Fz21 ?Nz21 ?ez21 ?zz21 ?_; (case Fz21 => k_asm); (case Nz21 => k_asm); (case ez21 => (dsimp only [List.map]; (try exact rfl))); (case zz21 => kmk_size)); intro D' h' l1 F' N'; (try k_sweep))
  k_with "LeaveK" => (k_dflt (refine' Mine.leave_con ?hrz24 ?hSz24 ?hFz24 ?hNz24 ?hqz24 ?_; (case hrz24 => assumption); (case hSz24 => assumption); (case hFz24 => k_asm); (case hNz24 => k_asm); (case hqz24 => exact rfl); k_whole))
  k_with "k_all" => assumption
  k_with "key mem" => fail
  k_with "k_mem" => (k_whole; walk_at "key mem")
  k_with "k_ne" => ((refine neN ?_; (try dsimp only)); first | (refine' Mine.ne_below ?kb9z33 ?km9z33; (case kb9z33 => with_reducible assumption); (case km9z33 => walk_at "key mem")) | (refine' Mine.ne_above ?kb9z33 ?km9z33; (case kb9z33 => with_reducible assumption); (case km9z33 => walk_at "key mem")) | walk_at "ne find" | (first | lia | omega))
  k_with "k_all" => (refine' Mine.all_below ?kb9z30 ?km9z30; (case kb9z30 => with_reducible assumption); (case km9z30 => exact rfl))
  k_with "ne find" => first | with_reducible assumption | (refine Ne.symm ?_; with_reducible assumption) | (refine Nat.ne_of_lt ?_; with_reducible assumption) | (refine Nat.ne_of_gt ?_; with_reducible assumption) | ((with_reducible rename _ ∧ _ => hc9); have hc8 := hc9.1; have hc7 := hc9.2; clear hc9; walk_at "ne find")
  k_with "spliced" => (k_here; (refine PyProof.Rows.args_nil ?_); (try dsimp only [List.cons_append, List.nil_append]); (with_reducible show _ ∧ _))
  k_with "compareOp Eq str str" => (k_here; first | (refine Mine.eq_lit true (by decide +kernel) ?_) | (refine Mine.eq_lit false (by decide +kernel) ?_))
  k_with "subscriptTail Name Constant ref int" => (k_here; (with_reducible show wpAny _ _ (subscriptTail _ _ (Value.ref _) (Value.int 0 _)) _ _ _); k_dflt (refine' Mine.item_tup0 ?Nz54 ?pz54 ?_ (by with_unfolding_all rfl) (by intro _; with_unfolding_all rfl); (case Nz54 => k_asm); (case pz54 => k_mem); k_whole))
  k_with "subscriptTail Name Constant ref int" => (k_here; (with_reducible show wpAny _ _ (subscriptTail _ _ (Value.ref _) (Value.int 1 _)) _ _ _); k_dflt (refine' Mine.item_tup1 ?Nz55 ?pz55 ?_ (by with_unfolding_all rfl) (by intro _; with_unfolding_all rfl); (case Nz55 => k_asm); (case pz55 => k_mem); k_whole))
  k_with "subscriptTail Name Constant ref int" => (k_here; (with_reducible show wpAny _ _ (subscriptTail _ _ (Value.ref _) (Value.int 2 _)) _ _ _); k_dflt (refine' Mine.item_tup2 ?Nz56 ?pz56 ?_ (by with_unfolding_all rfl) (by intro _; with_unfolding_all rfl); (case Nz56 => k_asm); (case pz56 => k_mem); k_whole))
  k_with "compareOp Eq ref ref" => (k_here; (with_reducible show wpAny _ _ (compareOp CmpOp.Eq (Value.ref _) (Value.ref _)) _ _ _); k_dflt ((refine eq_dataH (by ked_read) (by ked_read) (by ked_shaped) (by ked_shaped) (by walk_at "rm") ?_); ked_norm))
  k_with "k_mem" => assumption
  k_with "call ref" => (k_here; (with_reducible show wpAny _ _ (call (Value.ref 836) _) _ _ _); k_extra "num call")
  k_with "num call" => (k_dflt (refine' Mine.Runs.use0 (num_law g hx) ?k1 ?k2 ?k3 ?k4 ?k5 ?kK ?kd ?ku ?_; (case k1 => k_asm); (case k2 => k_asm); (case k3 => k_asm); (case k4 => k_asm); (case k5 => k_asm); (case kK => first | exact rfl | assumption); (case kd => walk_at "rm"); (case ku => walk_at "rm")); intro r9 tl9 h9 tk9 F9 N9 f9 K9 R9; unfold Mine.NumRet at R9; (k_dflt (refine Mine.ex3 R9 fun a9 u9 v9 om0 => Mine.an2 om0 fun e9 e9' => ?_); clear om0; (try clear R9)); subst e9; subst e9'; simp only [List.cons_append, List.nil_append] at N9; clear K9 f9; (try k_unmd))
  refine wpAny_call ?_
  k_dflt (k_extra "con_enter")
  k_steps
  all_goals exact ends_of ⟨rfl, rfl⟩ (fun q hq => .tail _ (.tail _ hq))
theorem due_bits_law {prog : Program} {w : World} {v wd : Nat} (h1 : 1 ≤ wd) (h2 : wd ≤ 70) (h3 : v < 2 ^ wd) {x : Str} {t : Tok} (hx : lc x = [35, 98] ++ bitsTo v wd wd) {d : Addr} {n : Nat} {t1 t2 t3 : Tok} {imms : List (Addr × Obj)} :
    Reads0 prog w 30 843 [.str x t, .ref d] ((d, tupO [.str (Str.ofString "bits") t1, .int v t2, .int wd t3] n) :: imms) (fun z => z = .bool true) := by
  have hl : x.length = wd + 2 := by rw [← lc_len, hx, List.length_append, bitsTo_len]; simp only [List.length_cons, List.length_nil]; (first | lia | omega)
  unfold Reads0 Runs
  intro mean mg mb dp un gd cn' cs aa ccd cl outer A₀ base h₀ L m s Q E B F X N T hk hd hu hret
  rcases s with ⟨hp0, gs0, dr0, tk0, os0⟩
  dsimp only at F N hret
  k_with_none
  k_with "om" => first | (with_reducible first | assumption | exact Mine.r0 (by assumption) | exact Int.natCast_nonneg _ | exact Int.le_refl _ | exact Nat.le_refl _) | (first | lia | omega)
  k_with "rm" => first | ((try dsimp only [depth_under_make, depth_under_kw, depth_in1, depth_deeper, depth_caller, units_in1, units_deeper, Around.mark_units, units_caller, units_under_make, ktrTop]); walk_at "om") | ktr_room | ktr_units
  k_with "con_enter" => (refine' Mine.code_defQ ?k1z29 ?k2z29 ?k3z29 ?k4z29 ?k5z29 ?kAz29 ?kFz29 ?kKz29 ?k6z29 ?k7z29 ?k8z29 ?k9z29 ?kBz29 ?_ ?c2z29 ?c3z29 ?c4z29 ?c5z29; (case kAz29 => exact rfl); (case kFz29 => exact rfl); (case kKz29 => assumption); (case k1z29 => k_asm); (case k2z29 => k_asm); (case k3z29 => k_asm); (case k4z29 => k_asm); (case k5z29 => k_asm); (case k6z29 => k_is); (case k7z29 => k_is); (case k8z29 => walk_at "rm"); (case k9z29 => first | exact BindsTo.of_eq (binds := []) rfl | exact BindsTo.of_eq (binds := [(_, _)]) rfl | exact BindsTo.of_eq (binds := [(_, _), (_, _)]) rfl | exact BindsTo.of_eq (binds := [(_, _), (_, _), (_, _)]) rfl | exact BindsTo.of_eq (binds := [(_, _), (_, _), (_, _), (_, _)]) rfl | exact BindsTo.of_eq (binds := [(_, _), (_, _), (_, _), (_, _), (_, _)]) rfl | exact BindsTo.of_eq rfl); (case c5z29 => decide); (case kBz29 => exact locs rfl); (case c2z29 => exact rfl); (case c3z29 => exact rfl); (case c4z29 => exact rfl); k_whole; intro g' L' h' tk' FG' F' N' B' X' T' S' hL' qk ek)
  k_with "LeaveK" => (k_dflt (refine' Mine.leave_con ?hrz24 ?hSz24 ?hFz24 ?hNz24 ?hqz24 ?_; (case hrz24 => assumption); (case hSz24 => assumption); (case hFz24 => k_asm); (case hNz24 => k_asm); (case hqz24 => exact rfl); k_whole))
  k_with "k_all" => assumption
  k_with "key mem" => fail
  k_with "k_mem" => (k_whole; walk_at "key mem")
  k_with "k_ne" => ((refine neN ?_; (try dsimp only)); first | (refine' Mine.ne_below ?kb9z33 ?km9z33; (case kb9z33 => with_reducible assumption); (case km9z33 => walk_at "key mem")) | (refine' Mine.ne_above ?kb9z33 ?km9z33; (case kb9z33 => with_reducible assumption); (case km9z33 => walk_at "key mem")) | walk_at "ne find" | (first | lia | omega))
  k_with "k_all" => (refine' Mine.all_below ?kb9z30 ?km9z30; (case kb9z30 => with_reducible assumption); (case km9z30 => exact rfl))
  k_with "ne find" => first | with_reducible assumption | (refine Ne.symm ?_; with_reducible assumption) | (refine Nat.ne_of_lt ?_; with_reducible assumption) | (refine Nat.ne_of_gt ?_; with_reducible assumption) | ((with_reducible rename _ ∧ _ => hc9); have hc8 := hc9.1; have hc7 := hc9.2; clear hc9; walk_at "ne find")
  k_with "spliced" => (k_here; (refine PyProof.Rows.args_nil ?_); (try dsimp only [List.cons_append, List.nil_append]); (with_reducible show _ ∧ _))
  k_with "call builtin:len" => (k_here; (with_reducible show wpAny _ _ (call (Value.builtin "len") [Value.str _ _]) _ _ _); (fail_if_success (with_reducible show wpAny _ _ (call (Value.builtin "len") [Value.str (PySem.Str.ofString _) _]) _ _ _)); (refine Mine.len_txt (by walk_at "om") ?_); intro t' k')
  k_with "compareOp Eq str str" => (k_here; first | (refine Mine.eq_lit true (by decide +kernel) ?_) | (refine Mine.eq_lit false (by decide +kernel) ?_))
  k_with "call builtin:str.strip" => (k_here; (with_reducible show wpAny _ _ (call (Value.builtin "str.strip") [Value.str _ _, Value.str _ _]) _ _ _); (refine Mine.strip_txt (by walk_at "om") (by k_extra "strip") ?_); intro t' k')
  k_with "compareOp Eq str str" => (k_here; (with_reducible show wpAny _ _ (compareOp CmpOp.Eq (Value.str _ _) (Value.str _ _)) _ _ _); first | (refine Mine.eq_lit true (by k_extra "str eq") ?_) | (refine Mine.eq_lit false (by k_extra "str eq") ?_))
  k_with "subscriptTail Name Slice str ref" => (k_here; (with_reducible show wpAny _ _ (subscriptTail _ (Expr.Slice _ _ _ _) (Value.str _ _) (Value.ref _)) _ _ _); (with_reducible rename Fr _ _ _ _ => F'); (with_reducible rename News _ _ _ _ => N'); (first | ((with_reducible show wpAny _ _ (subscriptTail _ (Expr.Slice none (some _) none _) _ _) _ _ _); (refine Mine.cut_ns (s := ⟨_, _, _, _, _⟩) F' N' (by walk_at "om") ?_ (by with_unfolding_all rfl) (by intro _; with_unfolding_all rfl))) | ((with_reducible show wpAny _ _ (subscriptTail _ (Expr.Slice (some _) none none _) _ _) _ _ _); (refine Mine.cut_sn (s := ⟨_, _, _, _, _⟩) F' N' (by walk_at "om") ?_ (by with_unfolding_all rfl) (by intro _; with_unfolding_all rfl))) | ((with_reducible show wpAny _ _ (subscriptTail _ (Expr.Slice (some _) (some _) none _) _ _) _ _ _); (refine Mine.cut_ss (s := ⟨_, _, _, _, _⟩) F' N' (by walk_at "om") ?_ (by with_unfolding_all rfl) (by intro _; with_unfolding_all rfl)))); clear F' N'; intro h' t' k' y' F' N' hy' hly'; (try (k_extra "cut then")))
  k_with "subscriptTail Name Constant ref int" => (k_here; (with_reducible show wpAny _ _ (subscriptTail _ _ (Value.ref _) (Value.int 0 _)) _ _ _); k_dflt (refine' Mine.item_tup0 ?Nz54 ?pz54 ?_ (by with_unfolding_all rfl) (by intro _; with_unfolding_all rfl); (case Nz54 => k_asm); (case pz54 => k_mem); k_whole))
  k_with "subscriptTail Name Constant ref int" => (k_here; (with_reducible show wpAny _ _ (subscriptTail _ _ (Value.ref _) (Value.int 1 _)) _ _ _); k_dflt (refine' Mine.item_tup1 ?Nz55 ?pz55 ?_ (by with_unfolding_all rfl) (by intro _; with_unfolding_all rfl); (case Nz55 => k_asm); (case pz55 => k_mem); k_whole))
  k_with "subscriptTail Name Constant ref int" => (k_here; (with_reducible show wpAny _ _ (subscriptTail _ _ (Value.ref _) (Value.int 2 _)) _ _ _); k_dflt (refine' Mine.item_tup2 ?Nz56 ?pz56 ?_ (by with_unfolding_all rfl) (by intro _; with_unfolding_all rfl); (case Nz56 => k_asm); (case pz56 => k_mem); k_whole))
  k_with "k_mem" => assumption
  k_with "call type:int" => (k_here; (with_reducible show wpAny _ _ (call (Value.type "int") [Value.str _ _, Value.int _ _]) _ _ _); k_dflt (refine' Mine.int_bits ?az64 ?bz64 ?cz64 ?dz64 ?_; (case az64 => k_extra "bits all"); (case bz64 => k_extra "bits ne"); (case cz64 => walk_at "om"); (case dz64 => k_extra "bits val")); intro t' k')
  k_with "str eq" => first | exact is_hb hx (by assumption) | exact (by decide +kernel : (Str.empty.cps.toList == (Str.ofString "").cps.toList) = true)
  k_with "strip" => exact strip_bits (cut_hb hx (by assumption))
  k_with "bits all" => exact bA (cut_hb hx (by assumption))
  k_with "bits ne" => exact bN (cut_hb hx (by assumption)) h1
  k_with "bits val" => exact bV (cut_hb hx (by assumption)) h3
  refine wpAny_call ?_
  k_dflt (k_extra "con_enter")
  k_steps
  all_goals first | (exfalso; walk_at "om") | exact ends_of ⟨rfl, rfl⟩ (fun q hq => hq) | exact ends_of ⟨congrArg Value.bool (beq_self_eq_true _), rfl⟩ (fun q hq => hq)
theorem due_word_law {prog : Program} {w : World} {x y : Str} {t : Tok} (hx : lc x = lc y) {d : Addr} {n : Nat} {t1 t2 : Tok} {imms : List (Addr × Obj)} :
    Reads0 prog w 30 843 [.str x t, .ref d] ((d, tupO [.str (Str.ofString "word") t1, .str y t2] n) :: imms) (fun z => z = .bool true) := by
  unfold Reads0 Runs
  intro mean mg mb dp un gd cn' cs aa ccd cl outer A₀ base h₀ L m s Q E B F X N T hk hd hu hret
  rcases s with ⟨hp0, gs0, dr0, tk0, os0⟩
  dsimp only at F N hret
  k_with_none
  k_with "om" => first | (with_reducible first | assumption | exact Mine.r0 (by assumption) | exact Int.natCast_nonneg _ | exact Int.le_refl _ | exact Nat.le_refl _) | (first | lia | omega)
  k_with "rm" => first | ((try dsimp only [depth_under_make, depth_under_kw, depth_in1, depth_deeper, depth_caller, units_in1, units_deeper, Around.mark_units, units_caller, units_under_make, ktrTop]); walk_at "om") | ktr_room | ktr_units
  k_with "con_enter" => (refine' Mine.code_defQ ?k1z29 ?k2z29 ?k3z29 ?k4z29 ?k5z29 ?kAz29 ?kFz29 ?kKz29 ?k6z29 ?k7z29 ?k8z29 ?k9z29 ?kBz29 ?_ ?c2z29 ?c3z29 ?c4z29 ?c5z29; (case kAz29 => exact rfl); (case kFz29 => exact rfl); (case kKz29 => assumption); (case k1z29 => k_asm); (case k2z29 => k_asm); (case k3z29 => k_asm); (case k4z29 => k_asm); (case k5z29 => k_asm); (case k6z29 => k_is); (case k7z29 => k_is); (case k8z29 => walk_at "rm"); (case k9z29 => first | exact BindsTo.of_eq (binds := []) rfl | exact BindsTo.of_eq (binds := [(_, _)]) rfl | exact BindsTo.of_eq (binds := [(_, _), (_, _)]) rfl | exact BindsTo.of_eq (binds := [(_, _), (_, _), (_, _)]) rfl | exact BindsTo.of_eq (binds := [(_, _), (_, _), (_, _), (_, _)]) rfl | exact BindsTo.of_eq (binds := [(_, _), (_, _), (_, _), (_, _), (_, _)]) rfl | exact BindsTo.of_eq rfl); (case c5z29 => decide); (case kBz29 => exact locs rfl); (case c2z29 => exact rfl); (case c3z29 => exact rfl); (case c4z29 => exact rfl); k_whole; intro g' L' h' tk' FG' F' N' B' X' T' S' hL' qk ek)
  k_with "LeaveK" => (k_dflt (refine' Mine.leave_con ?hrz24 ?hSz24 ?hFz24 ?hNz24 ?hqz24 ?_; (case hrz24 => assumption); (case hSz24 => assumption); (case hFz24 => k_asm); (case hNz24 => k_asm); (case hqz24 => exact rfl); k_whole))
  k_with "k_all" => assumption
  k_with "key mem" => fail
  k_with "k_mem" => (k_whole; walk_at "key mem")
  k_with "k_ne" => ((refine neN ?_; (try dsimp only)); first | (refine' Mine.ne_below ?kb9z33 ?km9z33; (case kb9z33 => with_reducible assumption); (case km9z33 => walk_at "key mem")) | (refine' Mine.ne_above ?kb9z33 ?km9z33; (case kb9z33 => with_reducible assumption); (case km9z33 => walk_at "key mem")) | walk_at "ne find" | (first | lia | omega))
  k_with "k_all" => (refine' Mine.all_below ?kb9z30 ?km9z30; (case kb9z30 => with_reducible assumption); (case km9z30 => exact rfl))
  k_with "ne find" => first | with_reducible assumption | (refine Ne.symm ?_; with_reducible assumption) | (refine Nat.ne_of_lt ?_; with_reducible assumption) | (refine Nat.ne_of_gt ?_; with_reducible assumption) | ((with_reducible rename _ ∧ _ => hc9); have hc8 := hc9.1; have hc7 := hc9.2; clear hc9; walk_at "ne find")
  k_with "spliced" => (k_here; (refine PyProof.Rows.args_nil ?_); (try dsimp only [List.cons_append, List.nil_append]); (with_reducible show _ ∧ _))
  k_with "compareOp Eq str str" => (k_here; first | (refine Mine.eq_lit true (by decide +kernel) ?_) | (refine Mine.eq_lit false (by decide +kernel) ?_))
  k_with "compareOp Eq str str" => (k_here; (with_reducible show wpAny _ _ (compareOp CmpOp.Eq (Value.str _ _) (Value.str _ _)) _ _ _); first | (refine Mine.eq_lit true (by k_extra "str eq") ?_) | (refine Mine.eq_lit false (by k_extra "str eq") ?_))
  k_with "subscriptTail Name Constant ref int" => (k_here; (with_reducible show wpAny _ _ (subscriptTail _ _ (Value.ref _) (Value.int 0 _)) _ _ _); k_dflt (refine' Mine.item_tup0 ?Nz54 ?pz54 ?_ (by with_unfolding_all rfl) (by intro _; with_unfolding_all rfl); (case Nz54 => k_asm); (case pz54 => k_mem); k_whole))
  k_with "subscriptTail Name Constant ref int" => (k_here; (with_reducible show wpAny _ _ (subscriptTail _ _ (Value.ref _) (Value.int 1 _)) _ _ _); k_dflt (refine' Mine.item_tup1 ?Nz55 ?pz55 ?_ (by with_unfolding_all rfl) (by intro _; with_unfolding_all rfl); (case Nz55 => k_asm); (case pz55 => k_mem); k_whole))
  k_with "k_mem" => assumption
  k_with "str eq" => exact eq_lists hx
  refine wpAny_call ?_
  k_dflt (k_extra "con_enter")
  k_steps
  all_goals exact ends_of ⟨rfl, rfl⟩ (fun q hq => hq)
theorem due_law {prog : Program} {w : World} {S : BS} {cs : List (Str × Value)} {l : Leaf} {ti : Nat} (hl : l.Is S cs ti) {x : Str} {t : Tok} {ch : List Nat} (hx : lc x = ch) (hch : l.chars = some ch) {d : Addr} {dO : Obj} {imms : List (Addr × Obj)} (hdue : l.Due imms dO) :
    Reads0 prog w 30 843 [.str x t, .ref d] ((d, dO) :: imms) (fun z => z = .bool true) := by
  cases l with
  | num r top bottom =>
    (refine Mine.ex5 hdue fun v u1 u2 n t1 om0 => Mine.an2 om0 fun oq5 hv => ?_; clear om0; (try clear hdue); subst oq5)
    exact due_num_law hl.1 (hx.trans (Option.some.inj hch).symm) hv
  | bits v wd =>
    (refine Mine.ex4 hdue fun n t1 t2 t3 oq4 => ?_; (try clear hdue); subst oq4)
    exact due_bits_law hl.1 hl.2.1 hl.2.2.1 (hx.trans (Option.some.inj hch).symm)
  | name i =>
    (refine Mine.ex3 hdue fun n t1 t2 oq3 => ?_; (try clear hdue); subst oq3)
    have hch : (textAt i).map lc = some ch := hch
    cases ht : textAt i with
    | none => rw [ht] at hch; cases hch
    | some y =>
      rw [ht] at hch
      exact due_word_law (hx.trans (Option.some.inj hch).symm)
  | tf b =>
    (refine Mine.ex3 hdue fun n t1 t2 oq3 => ?_; (try clear hdue); subst oq3)
    exact due_word_law (hx.trans (Option.some.inj hch).symm)
end Mine
end
/- HdC -/
section
open PySem PySem.W PyProof.Rows PySem.Calls PySem.Spec
namespace Mine
set_option maxRecDepth 100000
set_option maxHeartbeats 8000000
theorem holds_of {d : DefRec} {kwd : List (Str × Expr)}
    (hdef : defOf view rw1.name = some (d, kwd)) (hp : rw1.prog.theDef rw1.name = some (d.params, d.body, d.scope)) (hk : kwWritten? d.params.kwonlyargs d.params.kw_defaults = some kwd) (call : WalkO view loose (XL view []) hook.says rw1.toRowW d kwd fun f vs => PySem.call f vs) : PySem.Challenge.rw_rg0213_01.Holds :=
  holds_law said fun k1 => holds_open (r := rw1) (q := view) (loose := loose) (Xt := xt) (XP := XL view []) (Yf := hook.obs) (Ya := hook.val) (YP := hook.says) (d := d) (kwd := kwd) (N := 6000)
    left hook.of hook.keeps (fun s e => xl_of s (Bool.and_eq_true_iff.mp e).1) XL.keeps hdef hp hk (fun s e => recFacts_of (Bool.and_eq_true_iff.mp e).2) (by rfl) k1 (by decide +kernel) ⟨rfl, rfl, rfl, rfl, rfl, by decide +kernel⟩ (by w_witness2) call
end Mine
end
/- Cell -/
section
open PySem PySem.W PyProof.Rows PySem.Calls PySem.Spec
namespace Mine
set_option maxRecDepth 100000
section
variable {prog : Program} {w : World} {A A₀ : Around} {s : Shared} {K : Frag} {L : Addr} {h₀ base : Heap} {m mg mb : Str → Option Value} {news : List (Addr × Obj)} {p : Program} {loose : List Str} {mean : ExcName → Option Value}
theorem code_defCS {hp0 : Heap} {gs0 : Array GenState} {dr0 : Drawn} {tk0 : Nat} {os0 : OsState} {env : Env} {outer : List Env} {R : Result → Shared → Prop} {name qual : Str} {params : Arguments} {body : List Stmt} {scope : Scope} {dV kV doc pm cdv ct oc : Value} {an od : Option Addr} {osl : Array (Option Value)} {f : Addr} {args : Args} {binds : List (Str × Value)}
    (B : Below A₀ base outer h₀) (F : Fr h₀ L hp0 m) (X₀ : K.In h₀) (N : News h₀ L hp0 news) (T : Top p loose mean mg mb h₀) (hA : A.frames = some (env :: outer)) (hf : env.frame = some L) (hke : env.scope.kind = .function)
    (ho : K.lookup f = some ⟨oc, od, .func (fnOf name qual params body scope dV kV doc pm an cdv ct), osl⟩) (hcd : codeIn K cdv qual = true) (hroom : A.depth < recursionLimit)
    (hbind : BindsTo ⟨hp0, gs0, dr0, tk0, os0⟩ (fnOf name qual params body scope dV kV doc pm an cdv ct) args binds) (hkind : (binds.all fun y => scope.names.lookup y.1 == some .local || scope.names.lookup y.1 == some .cell) = true)
    (hnd : ((cellsFrom 0 scope.names []).map (·.1)).Nodup)
    (h : ∀ g L' h₁ tk cells, Fr h₀ L g m → Fr g L' h₁ (bindL (envOfC qual scope L' f cdv).kindOf binds fun _ => none) → News g L' h₁ (cells ++ news) →
      CellsAre (bindC (envOfC qual scope L' f cdv).kindOf binds fun _ => none) (cellsFrom (L' + 1) scope.names []) cells → Below A base (env :: outer) g → K.In g → Top p loose mean mg mb g → Grows news hp0 g → (∀ p ∈ news, p.1 < L') →
      wpAny (model prog w) (A.deeper (envOfC qual scope L' f cdv)) (execs body (envOfC qual scope L' f cdv))
        (fun fl s' => LeaveK h₀ L m g R (match fl with | .ret v => v | _ => .none) s')
        (fun e s' => wpAny (model prog w) (A.deeper (envOfC qual scope L' f cdv)) (leaving (envOfC qual scope L' f cdv) e) (fun _ s'' => R (.error e) s'') (fun e' s'' => R (.error e') s'') s')
        ⟨h₁, gs0, dr0, tk, os0⟩)
    (hco : scope.isCoroutine = false) (hgen : scope.isGenerator = false) (hk : scope.kind = .function) : codeAny (model prog w) A (.call (.ref f) args) R ⟨hp0, gs0, dr0, tk0, os0⟩ := by
  (refine Mine.an4 (groundX (R := R) (s := ⟨hp0, gs0, dr0, tk0, os0⟩) B F N hA hf hke) fun FG BG st lv => ?_)
  refine codeAny_call_function (fd := fnOf name qual params body scope dV kV doc pm an cdv ct) (body := body) hroom ((X₀.keeps F.keep) _ _ ho) rfl hco hgen rfl (codeRec_of (X₀.keeps F.keep) hcd) (hbind _ _ _ _ ?_)
  refine wpAny_newFunctionEnv_cells hk (kindsX hkind _) fun env' he s' x => ?_
  subst he
  refine ⟨(T.nolimit.keeps F.keep).keeps x.toInCall.keep, codeAny_func ?_⟩
  (refine Mine.ex2 x.done fun h₁ tk om0 => Mine.an2 om0 fun oq2 _ => ?_; clear om0; subst oq2)
  have hk₁ := x.toInCall.keep
  (refine Mine.ex1 (Cl.news (h₀ := hp0) (Nat.le_refl _) fun n c hm => ⟨x.cell n c (lookup_of_mem_nodup (cellsFrom_names scope.names 0 (hp0.objs.size + 1) [] [] rfl ▸ hnd) hm), x.above n c hm⟩) fun cells om0 => Mine.an2 om0 fun NC Y => ?_; clear om0)
  have fresh : ∀ p ∈ cells, (hideAll hp0 (news.map (·.1))).get? p.1 = none := fun p hp => by
    cases q : (hideAll hp0 (news.map (·.1))).get? p.1 with
    | none => rfl
    | some o => have := of_hideAll _ q; rw [(NC p hp).2.2] at this; cases this
  have N₁ : News (hideAll hp0 (news.map (·.1))) hp0.objs.size h₁ (cells ++ news) := fun p hp => by
    rcases List.mem_append.mp hp with hp | hp
    · exact ⟨(NC p hp).1, (NC p hp).2.1, fresh p hp⟩
    · exact ⟨hk₁ _ _ (N p hp).1, Nat.ne_of_lt (Heap.lt_size (N p hp).1), hideAll_none _ (List.mem_map_of_mem hp)⟩
  have G : Grows news hp0 (hideAll hp0 (news.map (·.1))) := fun b o e n => hideAll_get _ e fun q => by
    (refine Mine.ex1 (List.mem_map.mp q) fun p om0 => Mine.an2 om0 fun hp oq2 => ?_; clear om0; subst oq2)
    exact n p hp rfl
  exact wpAny_mono (h _ hp0.objs.size h₁ tk cells FG ⟨x.toInCall.ns, fun b o e => hk₁ b o (of_hideAll _ e), Nat.le_of_eq (hideAll_size _ _)⟩ N₁ Y BG (X₀.keeps st) (T.keeps st) G (fun p hp => Heap.lt_size (N p hp).1)) (fun fl s' hl => lv _ _ hl) fun _ _ y => y
end
end Mine
open PySem PySem.W PyProof.Rows PySem.Calls PySem.Spec Mine
end
/- T16 -/
section
open PySem PySem.W PyProof.Rows PySem.Calls PySem.Spec
namespace Mine
set_option maxRecDepth 100000
set_option maxHeartbeats 4000000 


theorem owntext_reads {prog : Program} {w : World} {c : Nat} {S : BS} {cs : List (Str × Value)} {l : Leaf} {t : Nat} {tt : Tok} {sh : Addr} {ch : List Nat} {a9 : Addr} {t9 : Tok} {k9 : BKey} (ok : SOK prog w c S) (hc : c ≤ 1000) (hl : l.Is S cs t) (hat : atKey S.xs k9 = some (a9, .int t t9)) (hch : l.chars = some ch) :
    Reads0 prog w 6 739 [.ref (S.B.A 1), .int t tt, .ref sh] S.led (LTxt ch) := by
  obtain ⟨B, xs, imms, kvs⟩ := S
  have mono := ok.bk.mono
  have apart := ok.bk.apart
  simp only at mono apart
  unfold Reads0 Runs LTxt
  intro mean mg mb dp un gd cn' cs' a ccd cl outer A₀ base h₀ L m s Q E B' F X N T hk hd hu hret
  rcases s with ⟨hp0, gs0, dr0, tk0, os0⟩
  dsimp only at F N hret
  simp only [BS.led, Bk.led, List.cons_append, List.nil_append] at N hret
  (refine Mine.ex5 (term_at ok hat) fun t1 t2 e ne dv om0 => Mine.an8 om0 fun i1 i2 o1 o2 o3 o4 o5 o6 => ?_; clear om0)
  simp only at o1 o2 o3 o4 o5
  k_with_none
  k_with "om" => first | (with_reducible first | assumption | exact Mine.r1 (by assumption) (by k_dflt exact rfl) | exact Mine.r2 (by assumption) (by k_dflt exact rfl) | exact Mine.r0 (by assumption) | exact Mine.v7 (by assumption) (by assumption) (by k_dflt exact rfl) | exact Int.natCast_nonneg _ | exact Int.le_refl _ | exact Nat.le_refl _) | (first | lia | omega)
  k_with "rm" => first | ((try dsimp only [depth_under_make, depth_under_kw, depth_in1, depth_deeper, depth_caller, units_in1, units_deeper, Around.mark_units, units_caller, units_under_make, ktrTop]); walk_at "om") | ktr_room | ktr_units
  k_with "k_enter" => k_dflt (refine' Mine.code_defEQ ?k1z31 ?k2z31 ?k3z31 ?k4z31 ?k5z31 ?kAz31 ?kFz31 ?kKz31 ?k6z31 ?k7z31 ?k8z31 ?k9z31 ?kBz31 ?_ ?c2z31 ?c3z31 ?c4z31 ?c5z31; (case kAz31 => exact rfl); (case kFz31 => exact rfl); (case kKz31 => first | exact rfl | assumption); (case k1z31 => k_asm); (case k2z31 => k_asm); (case k3z31 => k_asm); (case k4z31 => k_asm); (case k5z31 => k_asm); (case k6z31 => k_is); (case k7z31 => k_is); (case k8z31 => walk_at "rm"); (case k9z31 => first | exact BindsTo.of_eq (binds := []) rfl | exact BindsTo.of_eq (binds := [(_, _)]) rfl | exact BindsTo.of_eq (binds := [(_, _), (_, _)]) rfl | exact BindsTo.of_eq (binds := [(_, _), (_, _), (_, _)]) rfl | exact BindsTo.of_eq (binds := [(_, _), (_, _), (_, _), (_, _)]) rfl | exact BindsTo.of_eq (binds := [(_, _), (_, _), (_, _), (_, _), (_, _)]) rfl | exact BindsTo.of_eq rfl); (case c5z31 => decide); (case kBz31 => exact locs rfl); (case c2z31 => exact rfl); (case c3z31 => exact rfl); (case c4z31 => exact rfl); k_whole; intro g' L' h' tk' FG' F' N' B' X' T' qk ek)
  k_with "LeaveK" => (k_dflt (refine' Mine.leave_con ?hrz24 ?hSz24 ?hFz24 ?hNz24 ?hqz24 ?_; (case hrz24 => assumption); (case hSz24 => assumption); (case hFz24 => k_asm); (case hNz24 => k_asm); (case hqz24 => exact rfl); k_whole))
  k_with "k_all" => assumption
  k_with "key mem" => fail
  k_with "k_mem" => (k_whole; walk_at "key mem")
  k_with "k_ne" => ((refine neN ?_; (try dsimp only)); first | (refine' Mine.ne_below ?kb9z33 ?km9z33; (case kb9z33 => with_reducible assumption); (case km9z33 => walk_at "key mem")) | (refine' Mine.ne_above ?kb9z33 ?km9z33; (case kb9z33 => with_reducible assumption); (case km9z33 => walk_at "key mem")) | walk_at "ne find" | (first | lia | omega))
  k_with "k_all" => (refine' Mine.all_below ?kb9z30 ?km9z30; (case kb9z30 => with_reducible assumption); (case km9z30 => exact rfl))
  k_with "ne find" => first | with_reducible assumption | (refine Ne.symm ?_; with_reducible assumption) | (refine Nat.ne_of_lt ?_; with_reducible assumption) | (refine Nat.ne_of_gt ?_; with_reducible assumption) | ((with_reducible rename _ ∧ _ => hc9); have hc8 := hc9.1; have hc7 := hc9.2; clear hc9; walk_at "ne find")
  k_with "spliced" => (k_here; (refine PyProof.Rows.args_nil ?_); (try dsimp only [List.cons_append, List.nil_append]); (with_reducible show _ ∧ _))
  k_with "subscriptTail" => (k_here; (with_reducible show wpAny _ _ (subscriptTail _ _ (Value.ref _) (Value.int _ _)) _ _ _); k_dflt (refine' PyProof.Rows.item_list (News.isList ?Nz10 ?pz10) ?az10 ?bz10 ?xz10 ?_; (case Nz10 => k_asm); (case pz10 => k_mem); (case xz10 => k_extra "item"); (case az10 => walk_at "om"); (case bz10 => walk_at "om")))
  k_with "k_mem" => assumption
  k_with "con_enterC" => (refine' Mine.code_defCS ?k1z34 ?k2z34 ?k3z34 ?k4z34 ?k5z34 ?kAz34 ?kFz34 ?kKz34 ?k6z34 ?k7z34 ?k8z34 ?k9z34 ?kBz34 ?kDz34 ?_ ?c2z34 ?c3z34 ?c4z34; (case kAz34 => exact rfl); (case kFz34 => exact rfl); (case kKz34 => assumption); (case k1z34 => k_asm); (case k2z34 => k_asm); (case k3z34 => k_asm); (case k4z34 => k_asm); (case k5z34 => k_asm); (case k6z34 => k_is); (case k7z34 => k_is); (case k8z34 => walk_at "rm"); (case k9z34 => first | exact BindsTo.of_eq (binds := []) rfl | exact BindsTo.of_eq (binds := [(_, _)]) rfl | exact BindsTo.of_eq (binds := [(_, _), (_, _)]) rfl | exact BindsTo.of_eq (binds := [(_, _), (_, _), (_, _)]) rfl | exact BindsTo.of_eq (binds := [(_, _), (_, _), (_, _), (_, _)]) rfl | exact BindsTo.of_eq (binds := [(_, _), (_, _), (_, _), (_, _), (_, _)]) rfl | exact BindsTo.of_eq rfl); (case kBz34 => exact rfl); (case kDz34 => decide +kernel); (case c2z34 => exact rfl); (case c3z34 => exact rfl); (case c4z34 => exact rfl); k_whole; intro g' L' h' tk' cells' FG' F' N' Y' B' X' T' S' l1; (try k_lt l1); k_cells Y'; (try simp only [List.cons_append, List.nil_append] at N'); (try dsimp only); (try k_fold))
  k_with "call ref" => (k_here; (with_reducible show wpAny _ _ (call (Value.ref 727) _) _ _ _); k_extra "leaf call")
  k_with "call builtin:len" => (k_here; (with_reducible show wpAny _ _ (call (Value.builtin "len") [Value.ref _]) _ _ _); k_dflt (refine' PyProof.Rows.len_tuple (News.isTup ?Nz120 ?pz120) ?zz120 ?_; (case Nz120 => k_asm); (case pz120 => k_extra "tup"); (case zz120 => decide)))
  k_with "item" => assumption
  k_with "leaf call" => (k_dflt (refine' Mine.Runs.useC (Mine.leaftext_reads ok hc hl hch) ?k1 ?k2 ?k3 ?k4 ?k5 ?kK ?kd ?ku ?kf ?_; (case k1 => k_asm); (case k2 => k_asm); (case k3 => k_asm); (case k4 => k_asm); (case k5 => k_asm); (case kK => first | exact rfl | assumption); (case kf => (simp only [BS.led, Bk.led, List.cons_append, List.nil_append]; intro p9 hp9; refine List.mem_cons_of_mem _ ?_; exact hp9)); (case kd => walk_at "rm"); (case ku => walk_at "rm")); intro r9 h9 tk9 F9 N9 hP9; unfold Mine.LTxt at hP9; (k_dflt (refine Mine.ex2 hP9 fun x9 u9 om0 => Mine.an2 om0 fun e9 hx9 => ?_); clear om0; (try clear hP9)); subst e9)
  k_with "tup" => (repeat (first | exact o3 | refine List.mem_cons_of_mem _ ?_))
  refine wpAny_call ?_
  k_dflt (k_extra "con_enterC")
  k_steps
  all_goals exact ends_of ⟨⟨_, _, rfl, by assumption⟩, rfl⟩ (fun q hq => .tail _ hq)
end Mine
end
/- RV -/
section
open PySem PySem.W PyProof.Rows PySem.Calls PySem.Spec
namespace Mine
set_option maxRecDepth 100000
theorem slot_rev_init : Slot "reversed" "__init__" "object.__init__" :=
  .of (owner := "object") (n := "__init__") (by rw [typeLookup_type, builtinLookup_eq_fast]; kernel_rfl) (by decide +kernel) (by decide +kernel) (by decide +kernel)
    (by first | exact .inl (by decide +kernel) | exact .inr (by decide +kernel)) (by rw [isSubtype_type]; kernel_rfl)
theorem called_rev : TypeCalled "reversed" "reversed.__new__" "object.__init__" :=
  ⟨by decide +kernel, by decide +kernel, ⟨_, _, F.mro_reversed⟩, F.made_reversed, by decide +kernel, F.sub_reversed_self, slot_rev_init⟩
theorem slot_rev_next : Slot "reversed" "__next__" "reversed.__next__" :=
  .of (owner := "reversed") (n := "__next__") (by rw [typeLookup_type, builtinLookup_eq_fast]; kernel_rfl) (by decide +kernel) (by decide +kernel) (by decide +kernel)
    (by first | exact .inl (by decide +kernel) | exact .inr (by decide +kernel)) (by rw [isSubtype_type]; kernel_rfl)
theorem entry_rev_next : entryFor table "reversed.__next__" = some Builtin.«reversed.__next__» := entryFor_of_tree (by kernel_rfl)
theorem slot_rev_iter : Slot "reversed" "__iter__" "reversed.__iter__" :=
  .of (owner := "reversed") (n := "__iter__") (by rw [typeLookup_type, builtinLookup_eq_fast]; kernel_rfl) (by decide +kernel) (by decide +kernel) (by decide +kernel)
    (by first | exact .inl (by decide +kernel) | exact .inr (by decide +kernel)) (by rw [isSubtype_type]; kernel_rfl)
theorem args_rev_next_1 (a : Value) : argsOk "reversed.__next__" ⟨[a], []⟩ := by kernel_rfl
theorem args_rev_iter_1 (a : Value) : argsOk "reversed.__iter__" ⟨[a], []⟩ := by kernel_rfl
theorem entry_rev_iter : entryFor table "reversed.__iter__" = some Builtin.«dict_keyiterator.__iter__» :=
  entryFor_alias (id' := "dict_keyiterator.__iter__") (by kernel_rfl) (by first | rfl | decide +kernel | (unfold String.splitOn; simp +decide [String.splitOnAux])) (by decide +kernel) (by kernel_rfl)
theorem tuple_no_rev : typeLookup (.type "tuple") "__reversed__" = pure none := by rw [typeLookup_type, builtinLookup_eq_fast]; kernel_rfl
theorem sub_tuple_dict : isSubtype (.type "tuple") (.type "dict") = pure false := by rw [isSubtype_type]; kernel_rfl
noncomputable def revNil (e : Addr) : Obj := { cls := .type "reversed", data := .fields #[.ref e, rawInt (-1)] }
theorem meets_rev_new {e : Addr} : Meets (Builtin.«reversed.__new__» ⟨[.type "reversed", .ref e], []⟩) (fun _ R s => s.heap.IsTuple e #[] ∧ ∀ k, R (.ok (.ret (.ref s.heap.objs.size))) { s with heap := s.heap.push (revNil e), toks := k }) := by
  intro prog w A R s ⟨hl, h⟩
  have hT : s.TypeIs (.ref e) "tuple" := let ⟨o, ho, hc, _⟩ := hl; ⟨o, ho, hc⟩
  unfold Builtin.«reversed.__new__»
  refine wpAny_bind (wpAny_of_eq (newClass_reversed _) ?_)
  try dsimp only
  refine wpAny_bind (wpAny_of_eq (a := ()) (by first | rfl | kernel_rfl) ?_)
  refine wpAny_bind (wpAny_of_eq (a := ()) (by first | rfl | kernel_rfl) ?_)
  try dsimp only
  refine wpAny_bind (wpAny_specialOf hT tuple_no_rev ?_)
  try dsimp only
  refine wpAny_bind ?_
  refine wpAny_bind ?_
  refine wpAny_isInstance hT sub_tuple_dict ?_
  simp only [Bool.false_eq_true, if_false]
  refine wpAny_bind (wpAny_specialOf hT F.slot_tuple_getitem.lookup ?_)
  dsimp only
  rw [if_pos (by decide)]
  refine wpAny_pure ?_
  simp only [Bool.not_true, Bool.false_eq_true, if_false]
  refine wpAny_bind (PyProof.Rows.len_tuple hl (by decide) ?_)
  refine wpAny_bind (wpAny_of_eq (a := some (0 : Int)) rfl ?_)
  dsimp only
  refine wpAny_bind ?_
  show wpAny _ _ (newObj (.type "reversed") (.fields #[.ref e, rawInt (-1)])) _ _ _
  refine wpAny_newObj_type ?_
  exact wpAny_pure (h _)
theorem call_rev_nil {prog : Program} {w : World} {A : Around} {E : Value → Shared → Prop} {s : Shared} {e : Addr} {Q : Value → Shared → Prop} (hl : s.heap.IsTuple e #[])
    (h : ∀ k, Q (.ref s.heap.objs.size) { s with heap := s.heap.push (revNil e), toks := k }) : wpAny (model prog w) A (call (.type "reversed") [.ref e]) Q E s :=
  callType_new called_rev (by decide) (F.typeCall_reversed_1 _) (F.newCall_reversed_1 _) (fun obj => F.args_object_init_2 obj _) F.entry_reversed_new meets_rev_new
    ⟨hl, fun k => ⟨⟨_, Heap.get?_push_size _ rfl, rfl⟩, h k⟩⟩
section
variable {prog : Program} {w : World} {A : Around} {E : Value → Shared → Prop} {s : Shared}
theorem iter_rev_nil {it e : Addr} {Q : Value → Shared → Prop} (hit : s.heap.get? it = some (revNil e)) (h : Q (.ref it) s) : wpAny (model prog w) A (pyIter (.ref it)) Q E s := by
  have hT : s.TypeIs (.ref it) "reversed" := ⟨_, hit, rfl⟩
  refine wpAny_pyIter_slot hT slot_rev_iter (wpAny_call_entry slot_rev_iter hT entry_rev_iter ?_ (args_rev_iter_1 _))
  show wpAny _ _ (ret (.ref it)) _ _ s
  exact wpAny_pure ⟨_, rfl, "reversed", _, hT, slot_rev_next.lookup, h⟩
theorem next_rev_nil {it e : Addr} {Q : Option Value → Shared → Prop} (hh : A.handled = none) (hit : s.heap.get? it = some (revNil e))
    (hQ : ∀ h', Heap.ExtBut it s.heap h' → Q none { s with heap := h' }) : wpAny (model prog w) A (pyNext (.ref it)) Q E s := by
  have hT : s.TypeIs (.ref it) "reversed" := ⟨_, hit, rfl⟩
  unfold pyNext
  refine wpAny_bind (wpAny_attempt (wpAny_callSpecial?_slot (name := Str.ofString "__next__") hT slot_rev_next
    (wpAny_call_entry slot_rev_next hT entry_rev_next ?_ (args_rev_next_1 _))))
  unfold Builtin.«reversed.__next__»
  refine wpAny_bind (wpAny_of_eq (a := (Value.ref it, [])) rfl ?_)
  try dsimp only
  refine wpAny_bind (wpAny_field hit rfl (x := .ref e) rfl ?_)
  refine wpAny_bind (wpAny_field hit rfl (x := rawInt (-1)) rfl ?_)
  show wpAny _ _ (if (-1 : Int) < 0 then _ else _) _ _ s
  rw [if_pos (by decide)]
  refine wpAny_bind (wpAny_rule ?_)
  refine wpAny_bind ?_
  refine wpAny_bind (wpAny_setField_rec (cls := .type "reversed") (vs := #[.ref e, rawInt (-1)]) hit (by simp) fun h1 e1 s1 => ?_)
  refine wpAny_setField_rec e1 (by simp) fun h2 e2 s2 => ?_
  refine wpAny_bind ?_
  unfold Builtin.SmallTypes.stopIteration
  refine wpAny_bind ?_
  simp only [newExc, newTuple]
  refine wpAny_bind (wpAny_newObj_type ?_ (by size_fits))
  refine wpAny_bind (m := firstArgMember _ _) (wpAny_of_eq (a := Value.none) (by first | rfl | (simp only [firstArgMember]; rfl)) ?_)
  refine wpAny_newObj_type ?_ (by size_fits)
  simp only [raiseNew]
  refine wpAny_bind (wpAny_handled ?_)
  first | rw [show A.in1.handled = none from hh] | rw [hh]
  refine wpAny_bind (wpAny_pure (wpAny_throw ?_))
  refine wpAny_bind (wpAny_isInstance (T := "StopIteration") (b := true) ⟨_, Heap.get?_push_size _ rfl, rfl⟩ isSubtype_stop ?_)
  exact wpAny_pure (hQ _ (((s1.extBut.trans s2.extBut).push _).push _))
end
theorem walks_rev_nil {prog : Program} {w : World} {A : Around} (hh : A.handled = none) (I e : Addr) : Walks prog w A I [I] [I] 0 (fun _ _ => True) (fun _ h => h.get? I = some (revNil e)) where
  sub := fun b hb => hb
  frame := fun _ _ _ x hk => hk I (List.mem_singleton.mpr rfl) _ x
  item := fun i s Q E hi x hQ => absurd hi (Nat.not_lt_zero _)
  done := fun s Q E x hQ => next_rev_nil hh x fun h' he' => hQ h' s.toks fun b o hb eo => he' b o (fun h => hb (by simp [h])) eo
  self := fun _ _ _ _ x hQ => iter_rev_nil x hQ
section
variable {prog : Program} {w : World} {A : Around} {E : Value → Shared → Prop} {s : Shared} {env : Env} {h₀ : Heap} {L : Addr} {m : Str → Option Value} {x : Str} {body : List Stmt}
theorem rev_call {e : Addr} {n : Nat} {news : List (Addr × Obj)} {Q : Value → Shared → Prop} (F : Fr h₀ L s.heap m) (N : News h₀ L s.heap news) (he : (e, { cls := .type "tuple", data := .seq #[] n }) ∈ news)
    (h : ∀ D h' k, Fr h₀ L h' m → News h₀ L h' ((D, revNil e) :: news) → (∀ p ∈ news, p.1 < D) → Q (.ref D) { s with heap := h', toks := k }) : wpAny (model prog w) A (call (.type "reversed") [.ref e]) Q E s :=
  call_rev_nil (News.isTup N he) fun k => h _ _ _ (F.push _) (News.push F N _) fun p hp => Heap.lt_size (N p hp).1
theorem rev_loop {I e : Addr} {m₀ : Str → Option Value} {news : List (Addr × Obj)} {Q : Flow → Shared → Prop} (hh : A.handled = none) (F : Fr h₀ env.locals s.heap m₀) (N : News h₀ env.locals s.heap ((I, revNil e) :: news)) (hof : ∀ p ∈ news, p.1 ≠ I)
    (done : ∀ h tk, Fr h₀ env.locals h m₀ → News h₀ env.locals h news → Q .next { s with heap := h, toks := tk }) :
    wpAny (model prog w) A (pyIter (.ref I)) (fun it s₂ => LoopAtV prog w A h₀ env x body Q E it s₂) E s := by
  have hI := N _ (List.mem_cons_self ..)
  refine iter_rev_nil hI.1 ?_
  refine loop_invN (fun _ m₁ nx => m₁ = m₀ ∧ nx = news) (walks_rev_nil hh I e) ?_ ?_ ?_ ?_ hI.1 F (fun p hp => N p (List.mem_cons_of_mem _ hp)) ⟨rfl, rfl⟩ ?_ ?_
  · intro hm
    exact hI.2.1 (List.mem_singleton.mp hm).symm
  · intro b hb
    rw [List.mem_singleton.mp hb]
    exact hI.2.2
  · intro p hp hq
    exact hof p hp (List.mem_singleton.mp hq)
  · intro p hp hq
    exact hof p hp (List.mem_singleton.mp hq)
  · rintro i v m₁ nx h tk own hi
    exact absurd hi (Nat.not_lt_zero _)
  · rintro m₁ nx h tk ⟨rfl, rfl⟩ F₁ N₁
    exact done h tk F₁ N₁
theorem tup_nil_loop {e : Addr} {n : Nat} {m₀ : Str → Option Value} {news : List (Addr × Obj)} {Q : Flow → Shared → Prop} (hh : A.handled = none) (F : Fr h₀ env.locals s.heap m₀) (N : News h₀ env.locals s.heap news) (he : (e, { cls := .type "tuple", data := .seq #[] n }) ∈ news)
    (done : ∀ h tk, Fr h₀ env.locals h m₀ → News h₀ env.locals h news → Q .next { s with heap := h, toks := tk }) :
    wpAny (model prog w) A (pyIter (.ref e)) (fun it s₂ => LoopAtV prog w A h₀ env x body Q E it s₂) E s := by
  have hT : s.heap.IsTuple e #[] := News.isTup N he
  have hax := N _ he
  have hlt : e < s.heap.objs.size := Heap.lt_size hax.1
  have hne : e ≠ s.heap.objs.size := Nat.ne_of_lt hlt
  refine wpAny_pyIter_tuple hT ?_
  refine Mine.ie9 s.heap.objs.size _ _ 0 _ _ m₀ news (fun _ m₁ nx => m₁ = m₀ ∧ nx = news) ⟨rfl, Walks.tuple (prog := prog) (w := w) hh s.heap.objs.size e hne #[], ?_, ?_, ?_, ⟨⟨_, Heap.get?_push_size _ rfl, rfl, rfl⟩, hT.push _⟩, F.push _, (fun p hp => ⟨Heap.get?_push_of_some _ (N p hp).1, (N p hp).2⟩), ⟨rfl, rfl⟩, ?_, ?_⟩
  · intro hm
    rcases List.mem_cons.mp hm with q | q
    · exact absurd F.ns.lt (q ▸ Nat.lt_irrefl _)
    · exact hax.2.1 (List.mem_singleton.mp q).symm
  · intro b hb
    rw [List.mem_singleton.mp hb]
    exact next_is_new F
  · intro p hp hI
    exact absurd (Heap.lt_size (N p hp).1) ((List.mem_singleton.mp hI) ▸ Nat.lt_irrefl _)
  · intro i v m₁ news₁ s₁ own _ hin
    exact absurd hin (Nat.not_lt_zero _)
  · rintro h' tk m' news' F' N' _ ⟨rfl, rfl⟩
    exact done h' tk F' N'
end
end Mine
end
/- T17 -/
section
open PySem PySem.W PyProof.Rows PySem.Calls PySem.Spec
namespace Mine
set_option maxRecDepth 100000
set_option maxHeartbeats 4000000
noncomputable def Bk.foot3 (B : Bk) (e : Addr) (ne : Nat) : List (Addr × Obj) := [(B.A 1, instObj 705 (B.A 0)), (B.A 0, B.dic), (B.A 8, PySem.W.listOf B.targs (B.e 8)), (e, tupO [] ne)]
theorem parts_runs {prog : Program} {w : World} {B : Bk} {t : Nat} {tt : Tok} {e : Addr} {ne : Nat} (m1 : B.A 0 < B.A 1) (m2 : B.A 1 < B.A 8) (e0 : e ≠ B.A 0) (e1 : e ≠ B.A 1) (e8 : e ≠ B.A 8) (i2 : t < 1000) (o2 : B.targs[t]? = some (.ref e)) :
    Runs prog w 20 375 [.ref (B.A 1), .int t tt] (B.foot3 e ne) (fun r tl => ∃ a t' e', r = .ref a ∧ (∀ q ∈ B.foot3 e ne, q.1 ≠ a) ∧ tl = (a, PySem.W.listOf #[.int t t'] e') :: B.foot3 e ne) := by
  unfold Runs
  intro mean mg mb dp un gd cn' cs' a ccd cl outer A₀ base h₀ L m s Q E B' F X N T hk hd hu hret
  rcases s with ⟨hp0, gs0, dr0, tk0, os0⟩
  dsimp only at F N hret
  unfold Bk.foot3 at N hret
  k_with_none
  k_with "om" => first | (with_reducible first | assumption | exact Mine.r1 (by assumption) (by k_dflt exact rfl) | exact Mine.r0 (by assumption) | exact Mine.v8 (by assumption) (by k_dflt exact rfl) | exact Int.natCast_nonneg _ | exact Int.le_refl _ | exact Nat.le_refl _ | (refine' Mine.ne_below ?kb8z18 ?km8z18; (case kb8z18 => with_reducible assumption); (case km8z18 => walk_at "key mem")) | (refine' Mine.ne_above ?kb8z18 ?km8z18; (case kb8z18 => with_reducible assumption); (case km8z18 => walk_at "key mem"))) | (first | lia | omega)
  k_with "rm" => first | ((try dsimp only [depth_under_make, depth_under_kw, depth_in1, depth_deeper, depth_caller, units_in1, units_deeper, Around.mark_units, units_caller, units_under_make, ktrTop]); walk_at "om") | ktr_room | ktr_units
  k_with "con_enter" => (refine' Mine.code_defQ ?k1z29 ?k2z29 ?k3z29 ?k4z29 ?k5z29 ?kAz29 ?kFz29 ?kKz29 ?k6z29 ?k7z29 ?k8z29 ?k9z29 ?kBz29 ?_ ?c2z29 ?c3z29 ?c4z29 ?c5z29; (case kAz29 => exact rfl); (case kFz29 => exact rfl); (case kKz29 => assumption); (case k1z29 => k_asm); (case k2z29 => k_asm); (case k3z29 => k_asm); (case k4z29 => k_asm); (case k5z29 => k_asm); (case k6z29 => k_is); (case k7z29 => k_is); (case k8z29 => walk_at "rm"); (case k9z29 => first | exact BindsTo.of_eq (binds := []) rfl | exact BindsTo.of_eq (binds := [(_, _)]) rfl | exact BindsTo.of_eq (binds := [(_, _), (_, _)]) rfl | exact BindsTo.of_eq (binds := [(_, _), (_, _), (_, _)]) rfl | exact BindsTo.of_eq (binds := [(_, _), (_, _), (_, _), (_, _)]) rfl | exact BindsTo.of_eq (binds := [(_, _), (_, _), (_, _), (_, _), (_, _)]) rfl | exact BindsTo.of_eq rfl); (case c5z29 => decide); (case kBz29 => exact locs rfl); (case c2z29 => exact rfl); (case c3z29 => exact rfl); (case c4z29 => exact rfl); k_whole; intro g' L' h' tk' FG' F' N' B' X' T' S' hL' qk ek)
  k_with "k_enter" => k_dflt (refine' Mine.code_defEQ ?k1z31 ?k2z31 ?k3z31 ?k4z31 ?k5z31 ?kAz31 ?kFz31 ?kKz31 ?k6z31 ?k7z31 ?k8z31 ?k9z31 ?kBz31 ?_ ?c2z31 ?c3z31 ?c4z31 ?c5z31; (case kAz31 => exact rfl); (case kFz31 => exact rfl); (case kKz31 => first | exact rfl | assumption); (case k1z31 => k_asm); (case k2z31 => k_asm); (case k3z31 => k_asm); (case k4z31 => k_asm); (case k5z31 => k_asm); (case k6z31 => k_is); (case k7z31 => k_is); (case k8z31 => walk_at "rm"); (case k9z31 => first | exact BindsTo.of_eq (binds := []) rfl | exact BindsTo.of_eq (binds := [(_, _)]) rfl | exact BindsTo.of_eq (binds := [(_, _), (_, _)]) rfl | exact BindsTo.of_eq (binds := [(_, _), (_, _), (_, _)]) rfl | exact BindsTo.of_eq (binds := [(_, _), (_, _), (_, _), (_, _)]) rfl | exact BindsTo.of_eq (binds := [(_, _), (_, _), (_, _), (_, _), (_, _)]) rfl | exact BindsTo.of_eq rfl); (case c5z31 => decide); (case kBz31 => exact locs rfl); (case c2z31 => exact rfl); (case c3z31 => exact rfl); (case c4z31 => exact rfl); k_whole; intro g' L' h' tk' FG' F' N' B' X' T' qk ek)
  k_with "newTuple" => (k_here; k_dflt (refine' Mine.newTupleS ?Fz21 ?Nz21 ?ez21 ?zz21 ?_; (case Fz21 => k_asm); (case Nz21 => k_asm); (case ez21 => (dsimp only [List.map]; (try exact rfl))); (case zz21 => kmk_size)); intro D' h' l1 F' N'; (try k_sweep))
  k_with "newList" => (k_here; k_dflt (refine' Mine.newListS ?Fz22 ?Nz22 ?ez22 ?zz22 ?_; (case Fz22 => k_asm); (case Nz22 => k_asm); (case ez22 => (dsimp only [List.map]; (try exact rfl))); (case zz22 => size_fits); k_whole); intro l' h' l1 F' N'; (try k_sweep))
  k_with "eval Dict nil nil" => (k_here; k_dflt (refine' Mine.newDictS ?Fz23 ?Nz23 (TopRead.nolimit (by k_asm)) ?ez23 ?_; (case Fz23 => k_asm); (case Nz23 => k_asm); (case ez23 => (dsimp only [List.map]; (try exact rfl))); k_whole); intro d' h' o' l1 lo' hs' hi' F' N'; (try k_sweep))
  k_with "LeaveK" => (k_dflt (refine' Mine.leave_con ?hrz24 ?hSz24 ?hFz24 ?hNz24 ?hqz24 ?_; (case hrz24 => assumption); (case hSz24 => assumption); (case hFz24 => k_asm); (case hNz24 => k_asm); (case hqz24 => exact rfl); k_whole))
  k_with "k_all" => assumption
  k_with "key mem" => with_reducible first | exact Mine.m0 | exact Mine.m1 | exact Mine.m2 | exact Mine.m3 | exact Mine.m4 | exact Mine.m5 | exact Mine.m6 | exact Mine.m7 | exact Mine.m8 | exact Mine.m9 | exact Mine.m10 | exact Mine.m11
  k_with "k_mem" => (k_whole; walk_at "key mem")
  k_with "k_ne" => ((refine neN ?_; (try dsimp only)); first | (refine' Mine.ne_below ?kb9z33 ?km9z33; (case kb9z33 => with_reducible assumption); (case km9z33 => walk_at "key mem")) | (refine' Mine.ne_above ?kb9z33 ?km9z33; (case kb9z33 => with_reducible assumption); (case km9z33 => walk_at "key mem")) | walk_at "ne find" | (first | lia | omega))
  k_with "k_all" => (refine' Mine.all_below ?kb9z30 ?km9z30; (case kb9z30 => with_reducible assumption); (case km9z30 => exact rfl))
  k_with "ne find" => first | with_reducible assumption | (refine Ne.symm ?_; with_reducible assumption) | (refine Nat.ne_of_lt ?_; with_reducible assumption) | (refine Nat.ne_of_gt ?_; with_reducible assumption) | ((with_reducible rename _ ∧ _ => hc9); have hc8 := hc9.1; have hc7 := hc9.2; clear hc9; walk_at "ne find")
  k_with "spliced" => (k_here; (refine PyProof.Rows.args_nil ?_); (try dsimp only [List.cons_append, List.nil_append]); (with_reducible show _ ∧ _))
  k_with "subscriptTail" => (k_here; (with_reducible show wpAny _ _ (subscriptTail _ _ (Value.ref _) (Value.int _ _)) _ _ _); k_dflt (refine' PyProof.Rows.item_list (News.isList ?Nz10 ?pz10) ?az10 ?bz10 ?xz10 ?_; (case Nz10 => k_asm); (case pz10 => k_mem); (case xz10 => k_extra "item"); (case az10 => walk_at "om"); (case bz10 => walk_at "om")))
  k_with "k_mem" => assumption
  k_with "subscriptTail Attribute Name Name ref int" => (k_here; (with_reducible show wpAny _ _ (subscriptTail _ _ (Value.ref _) (Value.int _ _)) _ _ _); k_dflt (refine' PyProof.Rows.item_list (News.isList ?Nz121 ?pz121) ?az121 ?bz121 ?xz121 ?_; (case Nz121 => k_asm); (case pz121 => k_mem); (case xz121 => k_extra "item"); (case az121 => walk_at "om"); (case bz121 => walk_at "om")))
  k_with "call type:reversed" => (k_here; (with_reducible show wpAny _ _ (call (Value.type _) [Value.ref _]) _ _ _); k_dflt (refine' Mine.rev_call ?Fz122 ?Nz122 ?ez122 ?_; (case Fz122 => k_asm); (case Nz122 => k_asm); (case ez122 => k_mem)); intro D' h' k' F' N' l1; (try k_lt l1); (try k_sweep))
  k_with "pit" => ((with_reducible show wpAny _ _ (pyIter (Value.ref _)) (fun it s₂ => LoopAtV _ _ _ _ _ _ _ _ _ it s₂) _ _); k_dflt (refine' Mine.rev_loop ?hhz123 ?Fz123 ?Nz123 ?oz123 ?_; (case hhz123 => exact rfl); (case Fz123 => k_asm); (case Nz123 => k_asm); (case oz123 => k_all)); intro h' tk' F' N'; (try k_sweep))
  k_with "item" => assumption
  k_with "setItem ref int" => (k_here; k_dflt (refine' kda_set (knd := PySem.intKind _ _) ?F ?N ?U ?d (intKind_is _ _ _ _) ?z ?_; (case F => k_asm); (case N => k_asm); (case U => k_updF); (case d => k_asm); (case z => rw [sizeLine_eq]; exact Nat.le_of_ble_eq_true (by with_unfolding_all rfl))); intro h' o' F' N' hd'; (try dsimp only at N'))
  refine wpAny_call ?_
  k_dflt (k_extra "con_enter")
  k_steps
  all_goals (refine' ends_of ⟨_, tt, 1, rfl, ?n9, rfl⟩ ?_; (case n9 => (refine List.forall_mem_cons.mpr ⟨neN (by dsimp only; walk_at "om"), List.forall_mem_cons.mpr ⟨neN (by dsimp only; walk_at "om"), List.forall_mem_cons.mpr ⟨neN (by dsimp only; walk_at "om"), List.forall_mem_cons.mpr ⟨neN (by dsimp only; walk_at "om"), List.forall_mem_nil _⟩⟩⟩⟩)); repeat' (first | exact List.forall_mem_nil _ | refine List.forall_mem_cons.mpr ⟨by k_mem, ?_⟩))
end Mine
end
/- T18 -/
section
open PySem PySem.W PyProof.Rows PySem.Calls PySem.Spec
namespace Mine
set_option maxRecDepth 100000
set_option maxHeartbeats 4000000
noncomputable def Bk.foot4 (B : Bk) (a e : Addr) (ne n : Nat) (t : Nat) (tt : Tok) : List (Addr × Obj) := [(a, PySem.W.listOf #[.int t tt] n), (B.A 1, instObj 705 (B.A 0)), (B.A 0, B.dic), (B.A 8, PySem.W.listOf B.targs (B.e 8)), (e, tupO [] ne)]
theorem uses_runs {prog : Program} {w : World} {B : Bk} {t : Nat} {tt : Tok} {a e : Addr} {ne n : Nat} (m1 : B.A 0 < B.A 1) (m2 : B.A 1 < B.A 8) (e0 : e ≠ B.A 0) (e1 : e ≠ B.A 1) (e8 : e ≠ B.A 8) (a0 : a ≠ B.A 0) (a1 : a ≠ B.A 1) (a8 : a ≠ B.A 8) (ae : a ≠ e) (i2 : t < 1000) (o2 : B.targs[t]? = some (.ref e)) :
    Runs prog w 20 746 [.ref (B.A 1), .ref a] (B.foot4 a e ne n t tt) (fun r tl => ∃ d o, r = .ref d ∧ o.IsDictOf (intKind prog w) [] ∧ (d == sysModules) = false ∧ (∀ q ∈ B.foot4 a e ne n t tt, d ≠ q.1) ∧ tl = (d, o) :: B.foot4 a e ne n t tt) := by
  unfold Runs
  intro mean mg mb dp un gd cn' cs' aa ccd cl outer A₀ base h₀ L m s Q E B' F X N T hk hd hu hret
  rcases s with ⟨hp0, gs0, dr0, tk0, os0⟩
  dsimp only at F N hret
  unfold Bk.foot4 at N hret
  k_with_none
  k_with "om" => first | (with_reducible first | assumption | exact Mine.r1 (by assumption) (by k_dflt exact rfl) | exact Mine.r0 (by assumption) | exact Mine.v8 (by assumption) (by k_dflt exact rfl) | exact Int.natCast_nonneg _ | exact Int.le_refl _ | exact Nat.le_refl _ | (refine' Mine.ne_below ?kb8z18 ?km8z18; (case kb8z18 => with_reducible assumption); (case km8z18 => walk_at "key mem")) | (refine' Mine.ne_above ?kb8z18 ?km8z18; (case kb8z18 => with_reducible assumption); (case km8z18 => walk_at "key mem"))) | (first | lia | omega)
  k_with "rm" => first | ((try dsimp only [depth_under_make, depth_under_kw, depth_in1, depth_deeper, depth_caller, units_in1, units_deeper, Around.mark_units, units_caller, units_under_make, ktrTop]); walk_at "om") | ktr_room | ktr_units
  k_with "con_enter" => (refine' Mine.code_defQ ?k1z29 ?k2z29 ?k3z29 ?k4z29 ?k5z29 ?kAz29 ?kFz29 ?kKz29 ?k6z29 ?k7z29 ?k8z29 ?k9z29 ?kBz29 ?_ ?c2z29 ?c3z29 ?c4z29 ?c5z29; (case kAz29 => exact rfl); (case kFz29 => exact rfl); (case kKz29 => assumption); (case k1z29 => k_asm); (case k2z29 => k_asm); (case k3z29 => k_asm); (case k4z29 => k_asm); (case k5z29 => k_asm); (case k6z29 => k_is); (case k7z29 => k_is); (case k8z29 => walk_at "rm"); (case k9z29 => first | exact BindsTo.of_eq (binds := []) rfl | exact BindsTo.of_eq (binds := [(_, _)]) rfl | exact BindsTo.of_eq (binds := [(_, _), (_, _)]) rfl | exact BindsTo.of_eq (binds := [(_, _), (_, _), (_, _)]) rfl | exact BindsTo.of_eq (binds := [(_, _), (_, _), (_, _), (_, _)]) rfl | exact BindsTo.of_eq (binds := [(_, _), (_, _), (_, _), (_, _), (_, _)]) rfl | exact BindsTo.of_eq rfl); (case c5z29 => decide); (case kBz29 => exact locs rfl); (case c2z29 => exact rfl); (case c3z29 => exact rfl); (case c4z29 => exact rfl); k_whole; intro g' L' h' tk' FG' F' N' B' X' T' S' hL' qk ek)
  k_with "k_enter" => k_dflt (refine' Mine.code_defEQ ?k1z31 ?k2z31 ?k3z31 ?k4z31 ?k5z31 ?kAz31 ?kFz31 ?kKz31 ?k6z31 ?k7z31 ?k8z31 ?k9z31 ?kBz31 ?_ ?c2z31 ?c3z31 ?c4z31 ?c5z31; (case kAz31 => exact rfl); (case kFz31 => exact rfl); (case kKz31 => first | exact rfl | assumption); (case k1z31 => k_asm); (case k2z31 => k_asm); (case k3z31 => k_asm); (case k4z31 => k_asm); (case k5z31 => k_asm); (case k6z31 => k_is); (case k7z31 => k_is); (case k8z31 => walk_at "rm"); (case k9z31 => first | exact BindsTo.of_eq (binds := []) rfl | exact BindsTo.of_eq (binds := [(_, _)]) rfl | exact BindsTo.of_eq (binds := [(_, _), (_, _)]) rfl | exact BindsTo.of_eq (binds := [(_, _), (_, _), (_, _)]) rfl | exact BindsTo.of_eq (binds := [(_, _), (_, _), (_, _), (_, _)]) rfl | exact BindsTo.of_eq (binds := [(_, _), (_, _), (_, _), (_, _), (_, _)]) rfl | exact BindsTo.of_eq rfl); (case c5z31 => decide); (case kBz31 => exact locs rfl); (case c2z31 => exact rfl); (case c3z31 => exact rfl); (case c4z31 => exact rfl); k_whole; intro g' L' h' tk' FG' F' N' B' X' T' qk ek)
  k_with "eval Dict nil nil" => (k_here; k_dflt (refine' Mine.newDictS ?Fz23 ?Nz23 (TopRead.nolimit (by k_asm)) ?ez23 ?_; (case Fz23 => k_asm); (case Nz23 => k_asm); (case ez23 => (dsimp only [List.map]; (try exact rfl))); k_whole); intro d' h' o' l1 lo' hs' hi' F' N'; (try k_sweep))
  k_with "LeaveK" => (k_dflt (refine' Mine.leave_con ?hrz24 ?hSz24 ?hFz24 ?hNz24 ?hqz24 ?_; (case hrz24 => assumption); (case hSz24 => assumption); (case hFz24 => k_asm); (case hNz24 => k_asm); (case hqz24 => exact rfl); k_whole))
  k_with "k_all" => assumption
  k_with "key mem" => with_reducible first | exact Mine.m0 | exact Mine.m1 | exact Mine.m2 | exact Mine.m3 | exact Mine.m4 | exact Mine.m5 | exact Mine.m6
  k_with "k_mem" => (k_whole; walk_at "key mem")
  k_with "k_ne" => ((refine neN ?_; (try dsimp only)); first | (refine' Mine.ne_below ?kb9z33 ?km9z33; (case kb9z33 => with_reducible assumption); (case km9z33 => walk_at "key mem")) | (refine' Mine.ne_above ?kb9z33 ?km9z33; (case kb9z33 => with_reducible assumption); (case km9z33 => walk_at "key mem")) | walk_at "ne find" | (first | lia | omega))
  k_with "k_all" => (refine' Mine.all_below ?kb9z30 ?km9z30; (case kb9z30 => with_reducible assumption); (case km9z30 => exact rfl))
  k_with "ne find" => first | with_reducible assumption | (refine Ne.symm ?_; with_reducible assumption) | (refine Nat.ne_of_lt ?_; with_reducible assumption) | (refine Nat.ne_of_gt ?_; with_reducible assumption) | ((with_reducible rename _ ∧ _ => hc9); have hc8 := hc9.1; have hc7 := hc9.2; clear hc9; walk_at "ne find")
  k_with "spliced" => (k_here; (refine PyProof.Rows.args_nil ?_); (try dsimp only [List.cons_append, List.nil_append]); (with_reducible show _ ∧ _))
  k_with "subscriptTail" => (k_here; (with_reducible show wpAny _ _ (subscriptTail _ _ (Value.ref _) (Value.int _ _)) _ _ _); k_dflt (refine' PyProof.Rows.item_list (News.isList ?Nz10 ?pz10) ?az10 ?bz10 ?xz10 ?_; (case Nz10 => k_asm); (case pz10 => k_mem); (case xz10 => k_extra "item"); (case az10 => walk_at "om"); (case bz10 => walk_at "om")))
  k_with "k_mem" => assumption
  k_with "pit" => ((with_reducible show wpAny _ _ (pyIter (Value.ref _)) (fun it s₂ => LoopAtV _ _ _ _ _ _ _ _ _ it s₂) _ _); k_dflt (refine' Mine.tup_nil_loop ?hhz124 ?Fz124 ?Nz124 ?ez124 ?_; (case hhz124 => exact rfl); (case Fz124 => k_asm); (case Nz124 => k_asm); (case ez124 => k_mem)); intro h' tk' F' N'; (try k_sweep))
  k_with "item" => assumption
  refine wpAny_call ?_
  k_dflt (k_extra "con_enter")
  k_steps
  all_goals (refine' ends_of ⟨_, _, rfl, by assumption, by assumption, ?n9, rfl⟩ ?_; (case n9 => (refine List.forall_mem_cons.mpr ⟨neN (by dsimp only; walk_at "om"), List.forall_mem_cons.mpr ⟨neN (by dsimp only; walk_at "om"), List.forall_mem_cons.mpr ⟨neN (by dsimp only; walk_at "om"), List.forall_mem_cons.mpr ⟨neN (by dsimp only; walk_at "om"), List.forall_mem_cons.mpr ⟨neN (by dsimp only; walk_at "om"), List.forall_mem_nil _⟩⟩⟩⟩⟩)); repeat' (first | exact List.forall_mem_nil _ | refine List.forall_mem_cons.mpr ⟨by k_mem, ?_⟩))
noncomputable def Bk.foot5 (B : Bk) (a : Addr) (n : Nat) (t : Nat) (tt : Tok) : List (Addr × Obj) := [(a, PySem.W.listOf #[.int t tt] n), (B.A 1, instObj 705 (B.A 0)), (B.A 0, B.dic), (B.A 4, PySem.W.listOf B.fnames (B.e 4)), (B.A 7, PySem.W.listOf B.ops (B.e 7)), (B.A 10, PySem.W.listOf B.datas (B.e 10))]
theorem names_runs {prog : Program} {w : World} {B : Bk} {t : Nat} {tt t1 : Tok} {a : Addr} {n : Nat} {op : Str} {b : Bool} (mono : ∀ i j, i < j → j < 13 → B.A i < B.A j) (a0 : a ≠ B.A 0) (a1 : a ≠ B.A 1) (a4 : a ≠ B.A 4) (a7 : a ≠ B.A 7) (a10 : a ≠ B.A 10) (i2 : t < 1000)
    (o1 : B.ops[t]? = some (.str op t1)) (hop : (op.cps.toList == (Str.ofString "app").cps.toList) = b) (hb : b = true → ∃ (f : Nat) (tf tn : Tok) (nm : Str), f < 1000 ∧ B.datas[t]? = some (.int f tf) ∧ B.fnames[f]? = some (.str nm tn)) :
    Runs prog w 20 753 [.ref (B.A 1), .ref a] (B.foot5 a n t tt) (fun r tl => ∃ d, r = .ref d ∧ tl = B.foot5 a n t tt) := by
  unfold Runs
  intro mean mg mb dp un gd cn' cs' aa ccd cl outer A₀ base h₀ L m s Q E B' F X N T hk hd hu hret
  rcases s with ⟨hp0, gs0, dr0, tk0, os0⟩
  dsimp only at F N hret
  unfold Bk.foot5 at N hret
  k_with_none
  k_with "om" => first | (with_reducible first | assumption | exact Mine.r1 (by assumption) (by k_dflt exact rfl) | exact Mine.r0 (by assumption) | exact Mine.v8 (by assumption) (by k_dflt exact rfl) | exact Int.natCast_nonneg _ | exact Int.le_refl _ | exact Nat.le_refl _ | (refine' Mine.ne_below ?kb8z18 ?km8z18; (case kb8z18 => with_reducible assumption); (case km8z18 => walk_at "key mem")) | (refine' Mine.ne_above ?kb8z18 ?km8z18; (case kb8z18 => with_reducible assumption); (case km8z18 => walk_at "key mem"))) | (first | lia | omega)
  k_with "rm" => first | ((try dsimp only [depth_under_make, depth_under_kw, depth_in1, depth_deeper, depth_caller, units_in1, units_deeper, Around.mark_units, units_caller, units_under_make, ktrTop]); walk_at "om") | ktr_room | ktr_units
  k_with "con_enter" => (refine' Mine.code_defQ ?k1z29 ?k2z29 ?k3z29 ?k4z29 ?k5z29 ?kAz29 ?kFz29 ?kKz29 ?k6z29 ?k7z29 ?k8z29 ?k9z29 ?kBz29 ?_ ?c2z29 ?c3z29 ?c4z29 ?c5z29; (case kAz29 => exact rfl); (case kFz29 => exact rfl); (case kKz29 => assumption); (case k1z29 => k_asm); (case k2z29 => k_asm); (case k3z29 => k_asm); (case k4z29 => k_asm); (case k5z29 => k_asm); (case k6z29 => k_is); (case k7z29 => k_is); (case k8z29 => walk_at "rm"); (case k9z29 => first | exact BindsTo.of_eq (binds := []) rfl | exact BindsTo.of_eq (binds := [(_, _)]) rfl | exact BindsTo.of_eq (binds := [(_, _), (_, _)]) rfl | exact BindsTo.of_eq (binds := [(_, _), (_, _), (_, _)]) rfl | exact BindsTo.of_eq (binds := [(_, _), (_, _), (_, _), (_, _)]) rfl | exact BindsTo.of_eq (binds := [(_, _), (_, _), (_, _), (_, _), (_, _)]) rfl | exact BindsTo.of_eq rfl); (case c5z29 => decide); (case kBz29 => exact locs rfl); (case c2z29 => exact rfl); (case c3z29 => exact rfl); (case c4z29 => exact rfl); k_whole; intro g' L' h' tk' FG' F' N' B' X' T' S' hL' qk ek)
  k_with "k_enter" => k_dflt (refine' Mine.code_defEQ ?k1z31 ?k2z31 ?k3z31 ?k4z31 ?k5z31 ?kAz31 ?kFz31 ?kKz31 ?k6z31 ?k7z31 ?k8z31 ?k9z31 ?kBz31 ?_ ?c2z31 ?c3z31 ?c4z31 ?c5z31; (case kAz31 => exact rfl); (case kFz31 => exact rfl); (case kKz31 => first | exact rfl | assumption); (case k1z31 => k_asm); (case k2z31 => k_asm); (case k3z31 => k_asm); (case k4z31 => k_asm); (case k5z31 => k_asm); (case k6z31 => k_is); (case k7z31 => k_is); (case k8z31 => walk_at "rm"); (case k9z31 => first | exact BindsTo.of_eq (binds := []) rfl | exact BindsTo.of_eq (binds := [(_, _)]) rfl | exact BindsTo.of_eq (binds := [(_, _), (_, _)]) rfl | exact BindsTo.of_eq (binds := [(_, _), (_, _), (_, _)]) rfl | exact BindsTo.of_eq (binds := [(_, _), (_, _), (_, _), (_, _)]) rfl | exact BindsTo.of_eq (binds := [(_, _), (_, _), (_, _), (_, _), (_, _)]) rfl | exact BindsTo.of_eq rfl); (case c5z31 => decide); (case kBz31 => exact locs rfl); (case c2z31 => exact rfl); (case c3z31 => exact rfl); (case c4z31 => exact rfl); k_whole; intro g' L' h' tk' FG' F' N' B' X' T' qk ek)
  k_with "eval Dict nil nil" => (k_here; k_dflt (refine' Mine.newDictS ?Fz23 ?Nz23 (TopRead.nolimit (by k_asm)) ?ez23 ?_; (case Fz23 => k_asm); (case Nz23 => k_asm); (case ez23 => (dsimp only [List.map]; (try exact rfl))); k_whole); intro d' h' o' l1 lo' hs' hi' F' N'; (try k_sweep))
  k_with "LeaveK" => (k_dflt (refine' Mine.leave_con ?hrz24 ?hSz24 ?hFz24 ?hNz24 ?hqz24 ?_; (case hrz24 => assumption); (case hSz24 => assumption); (case hFz24 => k_asm); (case hNz24 => k_asm); (case hqz24 => exact rfl); k_whole))
  k_with "k_all" => assumption
  k_with "setItem ref str" => (k_here; k_dflt (refine' kda_set (knd := PySem.strKind _ _) ?Fz26 ?Nz26 ?Uz26 ?dz26 (strKind_is _ _ _ _) ?zz26 ?_; (case Fz26 => k_asm); (case Nz26 => k_asm); (case Uz26 => k_updF); (case dz26 => k_asm); (case zz26 => first | (rw [sizeLine_eq]; exact Nat.le_of_ble_eq_true (by with_unfolding_all rfl)) | (rw [sizeLine_eq]; (first | lia | omega)))); intro h' o' F' N' hd'; (try rw [Mine.stored_bin] at hd'); (try dsimp only at N'))
  k_with "key mem" => with_reducible first | exact Mine.m0 | exact Mine.m1 | exact Mine.m2 | exact Mine.m3 | exact Mine.m4 | exact Mine.m5 | exact Mine.m6 | exact Mine.m7
  k_with "k_mem" => (k_whole; walk_at "key mem")
  k_with "k_ne" => ((refine neN ?_; (try dsimp only)); first | (refine' Mine.ne_below ?kb9z33 ?km9z33; (case kb9z33 => with_reducible assumption); (case km9z33 => walk_at "key mem")) | (refine' Mine.ne_above ?kb9z33 ?km9z33; (case kb9z33 => with_reducible assumption); (case km9z33 => walk_at "key mem")) | walk_at "ne find" | (first | lia | omega))
  k_with "k_all" => (refine' Mine.all_below ?kb9z30 ?km9z30; (case kb9z30 => with_reducible assumption); (case km9z30 => exact rfl))
  k_with "ne find" => first | with_reducible assumption | (refine Ne.symm ?_; with_reducible assumption) | (refine Nat.ne_of_lt ?_; with_reducible assumption) | (refine Nat.ne_of_gt ?_; with_reducible assumption) | ((with_reducible rename _ ∧ _ => hc9); have hc8 := hc9.1; have hc7 := hc9.2; clear hc9; walk_at "ne find")
  k_with "spliced" => (k_here; (refine PyProof.Rows.args_nil ?_); (try dsimp only [List.cons_append, List.nil_append]); (with_reducible show _ ∧ _))
  k_with "subscriptTail" => (k_here; (with_reducible show wpAny _ _ (subscriptTail _ _ (Value.ref _) (Value.int _ _)) _ _ _); k_dflt (refine' PyProof.Rows.item_list (News.isList ?Nz10 ?pz10) ?az10 ?bz10 ?xz10 ?_; (case Nz10 => k_asm); (case pz10 => k_mem); (case xz10 => k_extra "item"); (case az10 => walk_at "om"); (case bz10 => walk_at "om")))
  k_with "k_mem" => assumption
  k_with "compareOp Eq str str" => (k_here; (with_reducible show wpAny _ _ (compareOp CmpOp.Eq (Value.str _ _) (Value.str _ _)) _ _ _); first | (refine Mine.eq_lit true (by k_extra "str eq") ?_) | (refine Mine.eq_lit false (by k_extra "str eq") ?_))
  k_with "item" => assumption
  k_with "str eq" => exact hop
  cases b with
  | false =>
    refine wpAny_call ?_
    k_dflt (k_extra "con_enter")
    k_steps
    all_goals (refine ends_of ⟨_, rfl, rfl⟩ ?_; repeat' (first | exact List.forall_mem_nil _ | refine List.forall_mem_cons.mpr ⟨by k_mem, ?_⟩))
  | true =>
    (refine Mine.ex4 (hb rfl) fun f tf tn nm om0 => Mine.an3 om0 fun i3 o5 o6 => ?_; clear om0)
    refine wpAny_call ?_
    k_dflt (k_extra "con_enter")
    k_steps
    all_goals (refine ends_of ⟨_, rfl, rfl⟩ ?_; repeat' (first | exact List.forall_mem_nil _ | refine List.forall_mem_cons.mpr ⟨by k_mem, ?_⟩))
end Mine
end
/- T19 -/
section
open PySem PySem.W PyProof.Rows PySem.Calls PySem.Spec
namespace Mine
set_option maxRecDepth 100000
set_option maxHeartbeats 4000000
theorem Runs.useK {prog : Program} {w : World} {n : Nat} {f : Addr} {vs : List Value} {foot news : List (Addr × Obj)} {Ret : Value → List (Addr × Obj) → Prop} {P : Value → List (Addr × Obj) → Prop} (C : Runs prog w n f vs foot Ret) (hR : ∀ r tl, Ret r tl → ∃ nw, tl = nw ++ foot ∧ (∀ p ∈ nw, ∀ q ∈ foot, p.1 ≠ q.1) ∧ P r nw)
    {mean : ExcName → Option Value} {mg mb : Str → Option Value} {dp un : Nat} {gd : Option (List Code)} {cn : Str} {cs : Scope} {a : Addr} {ccd : Value} {cl : List (Str × Addr)} {outer : List Env} {A₀ : Around} {base h₀ : Heap} {L : Addr} {m : Str → Option Value} {hp0 : Heap} {gs0 : Array GenState} {dr0 : Drawn} {tk0 : Nat} {os0 : OsState}
    {Q E : Value → Shared → Prop} (B : Below A₀ base outer h₀) (F : Fr h₀ L hp0 m) (X : (Mine.heap w.params).In h₀) (N : News h₀ L hp0 news)
    (T : Top Mine.view (looseW Mine.view Mine.loose) mean mg mb h₀) (hk : cs.kind = .function)
    (hd : dp + n < recursionLimit) (hu : un + 8 * n < cLine) (hf : ∀ p ∈ foot, p ∈ news)
    (ret : ∀ r nw h' tk', Fr h₀ L h' m → News h₀ L h' (nw ++ news) → (∀ p ∈ nw, ∀ q ∈ news, p.1 ≠ q.1) → P r nw → Q r ⟨h', gs0, dr0, tk', os0⟩) :
    wpAny (model prog w) (ktrTop dp un gd cn cs L a ccd cl outer) (call (.ref f) vs) Q E ⟨hp0, gs0, dr0, tk0, os0⟩ := by
  refine C _ _ _ _ _ _ _ _ _ _ _ _ _ _ _ _ _ _ _ _ B F X (fun p hp => N p (hf p hp)) T hk hd hu fun r tl h' tk' F' N' S' R' => ?_
  (refine Mine.ex1 (hR r tl R') fun nw om0 => Mine.an3 om0 fun oq1 hne hP => ?_; clear om0; subst oq1)
  refine ret r nw h' tk' F' (fun p hp => ?_) (fun p hp q hq => ?_) hP
  rcases List.mem_append.mp hp with hp | hp
  · exact N' p (List.mem_append_left _ hp)
  · by_cases hq : ∃ q ∈ foot, q.1 = p.1
    · (refine Mine.ex1 hq fun q om0 => Mine.an2 om0 fun hq e => ?_; clear om0)
      have e1 := (N p hp).1
      have e2 := (N q (hf q hq)).1
      rw [e, e1] at e2
      have e3 := (N' q (List.mem_append_right _ hq))
      rw [e, ← Option.some.inj e2] at e3
      exact e3
    · exact ⟨(S' _ _ (N p hp).1 fun q h e => hq ⟨q, h, e⟩).1, (N p hp).2⟩
  · by_cases hz : ∃ z ∈ foot, z.1 = q.1
    · (refine Mine.ex1 hz fun z om0 => Mine.an2 om0 fun hz e => ?_; clear om0)
      rw [← e]; exact hne p hp z hz
    · exact (S' _ _ (N q hq).1 fun z h e => hz ⟨z, h, e⟩).2 p (List.mem_append_left _ hp)
section
variable {prog : Program} {w : World} {A : Around} {E : Value → Shared → Prop} {s : Shared} {env : Env} {h₀ : Heap} {x : Str} {body : List Stmt}
theorem one_loop {ax : Addr} {v : Value} {n : Nat} {m₀ : Str → Option Value} {full news : List (Addr × Obj)} {Q : Flow → Shared → Prop} (J : (Str → Option Value) → List (Addr × Obj) → Prop) (hh : A.handled = none) (F : Fr h₀ env.locals s.heap m₀) (N : News h₀ env.locals s.heap full)
    (ha : (ax, PySem.W.listOf #[v] n) ∈ full) (hsub : ∀ p ∈ news, p ∈ full) (hoff : ∀ p ∈ news, p.1 ≠ ax)
    (turn : ∀ h tk own, OwnOff own (news.map (·.1)) → Fr h₀ env.locals h (fun y => if y = x then some v else m₀ y) → News h₀ env.locals h (news ++ own) →
      wpAny (model prog w) A (execs body env) (InvPostN h₀ env.locals J own (news.map (·.1)) { s with heap := h, toks := tk } Q) E { s with heap := h, toks := tk })
    (done : ∀ m₁ nx h tk, J m₁ nx → Fr h₀ env.locals h m₁ → News h₀ env.locals h nx → Q .next { s with heap := h, toks := tk }) :
    wpAny (model prog w) A (pyIter (.ref ax)) (fun it s₂ => LoopAtV prog w A h₀ env x body Q E it s₂) E s := by
  have hL : s.heap.IsList ax #[v] := News.isList N ha
  have hax := N _ ha
  have hlt : ax < s.heap.objs.size := Heap.lt_size hax.1
  have hne : ax ≠ s.heap.objs.size := Nat.ne_of_lt hlt
  refine wpAny_pyIter_list hL ?_
  refine loop_invN (fun i m nx => (i = 0 ∧ m = m₀ ∧ nx = news) ∨ (i = 1 ∧ J m nx)) (Walks.list hh s.heap.objs.size ax hne #[v]) ?_ ?_ ?_ ?_ ⟨⟨_, Heap.get?_push_size _ rfl, rfl, rfl⟩, hL.push _⟩ (F.push _) (fun p hp => ⟨Heap.get?_push_of_some _ (N p (hsub p hp)).1, (N p (hsub p hp)).2⟩) (.inl ⟨rfl, rfl, rfl⟩) ?_ ?_
  · intro hm
    rcases List.mem_cons.mp hm with q | q
    · exact absurd F.ns.lt (q ▸ Nat.lt_irrefl _)
    · exact hax.2.1 (List.mem_singleton.mp q).symm
  · intro b hb
    rw [List.mem_singleton.mp hb]
    exact next_is_new F
  · intro p hp hI
    exact absurd (Heap.lt_size (N p (hsub p hp)).1) ((List.mem_singleton.mp hI) ▸ Nat.lt_irrefl _)
  · intro p hp hI
    rcases List.mem_cons.mp hI with q | q
    · exact absurd (Heap.lt_size (N p (hsub p hp)).1) (q ▸ Nat.lt_irrefl _)
    · exact hoff p hp (List.mem_singleton.mp q)
  · rintro i u m₁ nx h tk own hi hv ha' off hJ F₁ N₁
    have hi0 : i = 0 := by simpa using hi
    subst hi0
    have hu : u = v := by simpa using hv.symm
    subst hu
    rcases hJ with ⟨_, rfl, rfl⟩ | ⟨h1, _⟩
    · refine wpAny_mono (turn h tk own off F₁ N₁) (fun f s₂ p => ?_) fun _ _ e => e
      have fin : InvEndN h₀ env.locals J own (nx.map (·.1)) { s with heap := h, toks := tk } s₂ → InvEndN h₀ env.locals (fun m nx' => (0 + 1 = 0 ∧ m = m₁ ∧ nx' = nx) ∨ (0 + 1 = 1 ∧ J m nx')) own (nx.map (·.1)) { s with heap := h, toks := tk } s₂ :=
        fun ⟨h', tk', m', news', nx', e1, e2, e3, e4, e5, e6, e7⟩ => ⟨h', tk', m', news', nx', e1, e2, e3, e4, e5, e6, .inr ⟨rfl, e7⟩⟩
      cases f with
      | ret v => exact p
      | brk => exact p
      | next => exact fin p
      | cont => exact fin p
    · exact absurd h1 (by decide)
  · rintro m₁ nx h tk hJ F₁ N₁
    rcases hJ with ⟨h0, _⟩ | ⟨_, hj⟩
    · exact absurd h0 (by simp)
    · exact done m₁ nx h tk hj F₁ N₁
end
theorem allLt_ne {d : Addr} : ∀ {l : List (Addr × Obj)}, AllLt d l → ∀ p ∈ l, p.1 ≠ d
  | [], _, p, hp => nomatch hp
  | q :: r, h, p, hp => by
    rcases List.mem_cons.mp hp with rfl | hp
    · exact Nat.ne_of_lt h.1
    · exact allLt_ne h.2 p hp
noncomputable def ShownJ (prog : Program) (w : World) (t : Nat) (ch : List Nat) (sh lt : Addr) (mk : Obj → List (Addr × Obj)) (m : Str → Option Value) (nx : List (Addr × Obj)) : Prop :=
  ∃ (tx tt : Tok) (x : Str) (o' : Obj), lc x = ch ∧ o'.IsDictOf (intKind prog w) [((t : Int), .str x tx)] ∧ m "shown" = some (.ref sh) ∧ m "lets" = some (.ref lt) ∧ m "t" = some (.int t tt) ∧ nx = mk o'
section
variable {prog : Program} {w : World} {A : Around} {E : Value → Shared → Prop} {s : Shared} {env : Env} {h₀ : Heap} {x : Str} {body : List Stmt}
theorem shown_loop {D3 lt sh D1 du ar a1 a0 : Addr} {o3 o o1 ou p1 p0 : Obj} {W : List (Addr × Obj)} {v : Value} {n el t : Nat} {ch : List Nat} {m₀ : Str → Option Value} {Q : Flow → Shared → Prop} (hh : A.handled = none) (F : Fr h₀ env.locals s.heap m₀)
    (N : News h₀ env.locals s.heap ((D3, o3) :: (lt, PySem.W.listOf #[] el) :: (sh, o) :: (D1, o1) :: (du, ou) :: (ar, PySem.W.listOf #[v] n) :: (a1, p1) :: (a0, p0) :: W))
    (q1 : Below' sh (D1 :: du :: ar :: a1 :: a0 :: W.map (·.1))) (q2 : Below' lt (sh :: D1 :: du :: ar :: a1 :: a0 :: W.map (·.1)))
    (f8 : du ≠ ar) (f1 : a1 ≠ ar) (f0 : a0 ≠ ar) (fW : ∀ p ∈ W, p.1 ≠ ar)
    (turn : ∀ h tk own Z, (∀ p ∈ W, p ∈ Z) → (∀ p ∈ own, p ∈ Z) → (∀ p ∈ Z, p.1 ≠ sh) → Fr h₀ env.locals h (fun y => if y = x then some v else m₀ y) → News h₀ env.locals h ((lt, PySem.W.listOf #[] el) :: (sh, o) :: (du, ou) :: (a1, p1) :: (a0, p0) :: Z) →
      wpAny (model prog w) A (execs body env) (InvPostN h₀ env.locals (ShownJ prog w t ch sh lt fun o' => (lt, PySem.W.listOf #[] el) :: (sh, o') :: (du, ou) :: (a1, p1) :: (a0, p0) :: W) own (lt :: sh :: du :: a1 :: a0 :: W.map (·.1)) { s with heap := h, toks := tk } Q) E { s with heap := h, toks := tk })
    (done : ∀ m₁ h tk tx tt y o', lc y = ch → o'.IsDictOf (intKind prog w) [((t : Int), .str y tx)] → m₁ "shown" = some (.ref sh) → m₁ "lets" = some (.ref lt) → m₁ "t" = some (.int t tt) → Fr h₀ env.locals h m₁ →
      News h₀ env.locals h ((lt, PySem.W.listOf #[] el) :: (sh, o') :: (du, ou) :: (a1, p1) :: (a0, p0) :: W) → Q .next { s with heap := h, toks := tk }) :
    wpAny (model prog w) A (pyIter (.ref ar)) (fun it s₂ => LoopAtV prog w A h₀ env x body Q E it s₂) E s := by
  refine one_loop (news := (lt, PySem.W.listOf #[] el) :: (sh, o) :: (du, ou) :: (a1, p1) :: (a0, p0) :: W) (ShownJ prog w t ch sh lt fun o' => (lt, PySem.W.listOf #[] el) :: (sh, o') :: (du, ou) :: (a1, p1) :: (a0, p0) :: W) hh F N (v := v) (n := n) ?_ ?_ ?_ ?_ ?_
  · repeat (first | exact List.Mem.head _ | refine List.Mem.tail _ ?_)
  · refine List.forall_mem_cons.mpr ⟨.tail _ (.head _), List.forall_mem_cons.mpr ⟨.tail _ (.tail _ (.head _)), List.forall_mem_cons.mpr ⟨.tail _ (.tail _ (.tail _ (.tail _ (.head _)))), List.forall_mem_cons.mpr ⟨.tail _ (.tail _ (.tail _ (.tail _ (.tail _ (.tail _ (.head _)))))), List.forall_mem_cons.mpr ⟨.tail _ (.tail _ (.tail _ (.tail _ (.tail _ (.tail _ (.tail _ (.head _))))))), fun p hp => ?_⟩⟩⟩⟩⟩
    exact .tail _ (.tail _ (.tail _ (.tail _ (.tail _ (.tail _ (.tail _ (.tail _ hp)))))))
  · exact List.forall_mem_cons.mpr ⟨(Nat.ne_of_lt (q2 _ m3)).symm, List.forall_mem_cons.mpr ⟨(Nat.ne_of_lt (q1 _ m2)).symm, List.forall_mem_cons.mpr ⟨f8, List.forall_mem_cons.mpr ⟨f1, List.forall_mem_cons.mpr ⟨f0, fW⟩⟩⟩⟩⟩
  · intro h tk own off F₁ N₁
    refine turn h tk own (W ++ own) (fun p hp => List.mem_append_left _ hp) (fun p hp => List.mem_append_right _ hp) (fun p hp => ?_) F₁ N₁
    rcases List.mem_append.mp hp with hp | hp
    · exact Nat.ne_of_lt (q1 _ (.tail _ (.tail _ (.tail _ (.tail _ (.tail _ (List.mem_map_of_mem hp)))))))
    · exact off p hp sh (.tail _ (.head _))
  · rintro m₁ nx h tk ⟨tx, tt, y, o', h1, h2, h3, h4, h5, rfl⟩ F₁ N₁
    exact done m₁ h tk tx tt y o' h1 h2 h3 h4 h5 F₁ N₁
end
end Mine
end
/- T20 -/
section
open PySem PySem.W PyProof.Rows PySem.Calls PySem.Spec
namespace Mine
set_option maxRecDepth 100000
set_option maxHeartbeats 4000000
noncomputable def PartsP (t : Nat) (r : Value) (nw : List (Addr × Obj)) : Prop := ∃ a t' e', r = .ref a ∧ nw = [(a, PySem.W.listOf #[.int t t'] e')]
noncomputable def UsesP (prog : Program) (w : World) (r : Value) (nw : List (Addr × Obj)) : Prop := ∃ d o, r = .ref d ∧ o.IsDictOf (intKind prog w) [] ∧ (d == sysModules) = false ∧ nw = [(d, o)]
noncomputable def NamesP (r : Value) (nw : List (Addr × Obj)) : Prop := ∃ d, r = .ref d ∧ nw = []
theorem mono_lt {A : Nat → Addr} (h : ∀ i j, i < j → j < 13 → A i < A j) {i j : Nat} (hij : i < j) (hj : j < 13) : A i < A j := h i j hij hj
theorem bank_mem (S : BS) : (S.B.A 4, PySem.W.listOf S.B.fnames (S.B.e 4)) ∈ S.rest ∧ (S.B.A 7, PySem.W.listOf S.B.ops (S.B.e 7)) ∈ S.rest ∧ (S.B.A 8, PySem.W.listOf S.B.targs (S.B.e 8)) ∈ S.rest ∧ (S.B.A 10, PySem.W.listOf S.B.datas (S.B.e 10)) ∈ S.rest := by
  k_with_none
  k_with "om" => first | (with_reducible first | assumption | exact Int.natCast_nonneg _ | exact Int.le_refl _ | exact Nat.le_refl _) | (first | lia | omega)
  k_with "rm" => first | ((try dsimp only [depth_under_make, depth_under_kw, depth_in1, depth_deeper, depth_caller, units_in1, units_deeper, Around.mark_units, units_caller, units_under_make, ktrTop]); walk_at "om") | ktr_room | ktr_units
  k_with "k_all" => assumption
  k_with "key mem" => fail
  k_with "k_mem" => (k_whole; walk_at "key mem")
  k_with "k_ne" => ((refine neN ?_; (try dsimp only)); first | (refine' Mine.ne_below ?kb9z33 ?km9z33; (case kb9z33 => with_reducible assumption); (case km9z33 => walk_at "key mem")) | (refine' Mine.ne_above ?kb9z33 ?km9z33; (case kb9z33 => with_reducible assumption); (case km9z33 => walk_at "key mem")) | walk_at "ne find" | (first | lia | omega))
  k_with "k_all" => (refine' Mine.all_below ?kb9z30 ?km9z30; (case kb9z30 => with_reducible assumption); (case km9z30 => exact rfl))
  k_with "ne find" => first | with_reducible assumption | (refine Ne.symm ?_; with_reducible assumption) | (refine Nat.ne_of_lt ?_; with_reducible assumption) | (refine Nat.ne_of_gt ?_; with_reducible assumption) | ((with_reducible rename _ ∧ _ => hc9); have hc8 := hc9.1; have hc7 := hc9.2; clear hc9; walk_at "ne find")
  k_with "spliced" => (k_here; (refine PyProof.Rows.args_nil ?_); (try dsimp only [List.cons_append, List.nil_append]); (with_reducible show _ ∧ _))
  k_with "k_mem" => assumption
  unfold BS.rest
  refine ⟨?_, ?_, ?_, ?_⟩ <;> (repeat (first | exact List.Mem.head _ | refine List.Mem.tail _ ?_))
theorem sub_two {x y : Addr × Obj} {W Z : List (Addr × Obj)} (h : ∀ p ∈ W, p ∈ Z) {p : Addr × Obj} (hp : p ∈ x :: y :: W) : p ∈ x :: y :: Z := by
  rcases List.mem_cons.mp hp with rfl | hp
  · exact .head _
  · rcases List.mem_cons.mp hp with rfl | hp
    · exact .tail _ (.head _)
    · exact .tail _ (.tail _ (h _ hp))
theorem one_at {t : Int} {v : Value} : valueAt [(t, v)] t = some v := by simp [valueAt]
theorem term_end {y x z : Str} {ch : List Nat} (hy : lc y = ch) (hx : x = Txt.join (Str.ofString "") [] ++ y) (hz : z = x ++ Txt.mul (Str.ofString ")") 0) : lc z = ch := by
  have e1 : lc (Txt.join (Str.ofString "") []) = [] := by decide +kernel
  have e2 : lc (Txt.mul (Str.ofString ")") 0) = [] := by decide +kernel
  rw [hz, lc_app, hx, lc_app, e1, e2, hy, List.nil_append, List.append_nil]
theorem imms_mem (S : BS) {p : Addr × Obj} (h : p ∈ S.imms) : p ∈ S.rest := List.mem_append_right _ h
theorem termtext_reads {prog : Program} {w : World} {c : Nat} {S : BS} {cs : List (Str × Value)} {l : Leaf} {t : Nat} {tt : Tok} {ch : List Nat} {a9 : Addr} {t9 : Tok} {k9 : BKey} {b : Bool} (ok : SOK prog w c S) (hc : c ≤ 1000) (hl : l.Is S cs t) (hat : atKey S.xs k9 = some (a9, .int t t9)) (hch : l.chars = some ch) (hcl : ch.length ≤ 100000)
    (hop : (k9.1.cps.toList == (Str.ofString "app").cps.toList) = b) (hb : b = true → ∃ (f : Nat) (tf tn : Tok) (nm : Str), f < 1000 ∧ S.B.datas[t]? = some (.int f tf) ∧ S.B.fnames[f]? = some (.str nm tn)) :
    Reads0 prog w 30 767 [.ref (S.B.A 1), .int t tt] S.led (LTxt ch) := by
  unfold Reads0 Runs LTxt
  intro mean mg mb dp un gd cn' cs' a ccd cl outer A₀ base h₀ L m s Q E B' F X N T hk hd hu hret
  rcases s with ⟨hp0, gs0, dr0, tk0, os0⟩
  dsimp only at F N hret
  rw [S.led_eq] at N hret
  have hj0 : (Txt.join (Str.ofString "") []).length = 0 := by decide +kernel
  have hm0 : (Txt.mul (Str.ofString ")") 0).length = 0 := by decide +kernel
  have mono := ok.bk.mono
  have apart := ok.bk.apart
  (refine Mine.ex5 (term_at ok hat) fun t1 t2 e ne dv om0 => Mine.an8 om0 fun i1 i2 o1 o2 o3 o4 o5 o6 => ?_; clear om0)
  (refine Mine.an4 (bank_mem S) fun b4 b7 b8 b10 => ?_)
  have be := imms_mem S o3
  obtain ⟨W, hW⟩ : ∃ W, S.rest = W := ⟨_, rfl⟩
  have hWl : ∀ p ∈ W, p ∈ S.led := fun p hp => by rw [S.led_eq, hW]; exact .tail _ (.tail _ hp)
  rw [hW] at N hret b4 b7 b8 b10 be
  k_with_none
  k_with "om" => first | (with_reducible first | assumption | exact Mine.r2 (by assumption) (by k_dflt exact rfl) | exact Mine.r0 (by assumption) | exact Mine.n12 (by assumption) (by assumption) (by k_dflt exact rfl) | exact Int.natCast_nonneg _ | exact Int.le_refl _ | exact Nat.le_refl _ | (refine' Mine.ne_below ?kb8z18 ?km8z18; (case kb8z18 => with_reducible assumption); (case km8z18 => walk_at "key mem")) | (refine' Mine.ne_above ?kb8z18 ?km8z18; (case kb8z18 => with_reducible assumption); (case km8z18 => walk_at "key mem"))) | (first | lia | omega)
  k_with "rm" => first | ((try dsimp only [depth_under_make, depth_under_kw, depth_in1, depth_deeper, depth_caller, units_in1, units_deeper, Around.mark_units, units_caller, units_under_make, ktrTop]); walk_at "om") | ktr_room | ktr_units
  k_with "con_enter" => (refine' Mine.code_defQ ?k1z29 ?k2z29 ?k3z29 ?k4z29 ?k5z29 ?kAz29 ?kFz29 ?kKz29 ?k6z29 ?k7z29 ?k8z29 ?k9z29 ?kBz29 ?_ ?c2z29 ?c3z29 ?c4z29 ?c5z29; (case kAz29 => exact rfl); (case kFz29 => exact rfl); (case kKz29 => assumption); (case k1z29 => k_asm); (case k2z29 => k_asm); (case k3z29 => k_asm); (case k4z29 => k_asm); (case k5z29 => k_asm); (case k6z29 => k_is); (case k7z29 => k_is); (case k8z29 => walk_at "rm"); (case k9z29 => first | exact BindsTo.of_eq (binds := []) rfl | exact BindsTo.of_eq (binds := [(_, _)]) rfl | exact BindsTo.of_eq (binds := [(_, _), (_, _)]) rfl | exact BindsTo.of_eq (binds := [(_, _), (_, _), (_, _)]) rfl | exact BindsTo.of_eq (binds := [(_, _), (_, _), (_, _), (_, _)]) rfl | exact BindsTo.of_eq (binds := [(_, _), (_, _), (_, _), (_, _), (_, _)]) rfl | exact BindsTo.of_eq rfl); (case c5z29 => decide); (case kBz29 => exact locs rfl); (case c2z29 => exact rfl); (case c3z29 => exact rfl); (case c4z29 => exact rfl); k_whole; intro g' L' h' tk' FG' F' N' B' X' T' S' hL' qk ek)
  k_with "newTuple" => (k_here; k_dflt (refine' Mine.newTupleS ?Fz21 ?Nz21 ?ez21 ?zz21 ?_; (case Fz21 => k_asm); (case Nz21 => k_asm); (case ez21 => (dsimp only [List.map]; (try exact rfl))); (case zz21 => kmk_size)); intro D' h' l1 F' N'; (try k_sweep))
  k_with "newList" => (k_here; k_dflt (refine' Mine.newListS ?Fz22 ?Nz22 ?ez22 ?zz22 ?_; (case Fz22 => k_asm); (case Nz22 => k_asm); (case ez22 => (dsimp only [List.map]; (try exact rfl))); (case zz22 => size_fits); k_whole); intro l' h' l1 F' N'; (try k_sweep))
  k_with "eval Dict nil nil" => (k_here; k_dflt (refine' Mine.newDictS ?Fz23 ?Nz23 (TopRead.nolimit (by k_asm)) ?ez23 ?_; (case Fz23 => k_asm); (case Nz23 => k_asm); (case ez23 => (dsimp only [List.map]; (try exact rfl))); k_whole); intro d' h' o' l1 lo' hs' hi' F' N'; (try k_sweep))
  k_with "LeaveK" => (k_dflt (refine' Mine.leave_con ?hrz24 ?hSz24 ?hFz24 ?hNz24 ?hqz24 ?_; (case hrz24 => assumption); (case hSz24 => assumption); (case hFz24 => k_asm); (case hNz24 => k_asm); (case hqz24 => exact rfl); k_whole))
  k_with "k_all" => assumption
  k_with "key mem" => with_reducible first | exact Mine.m0 | exact Mine.m1 | exact Mine.m2 | exact Mine.m3 | exact Mine.m4
  k_with "k_mem" => (k_whole; walk_at "key mem")
  k_with "k_ne" => ((refine neN ?_; (try dsimp only)); first | (refine' Mine.ne_below ?kb9z33 ?km9z33; (case kb9z33 => with_reducible assumption); (case km9z33 => walk_at "key mem")) | (refine' Mine.ne_above ?kb9z33 ?km9z33; (case kb9z33 => with_reducible assumption); (case km9z33 => walk_at "key mem")) | walk_at "ne find" | (first | lia | omega))
  k_with "k_all" => (refine' Mine.all_below ?kb9z30 ?km9z30; (case kb9z30 => with_reducible assumption); (case km9z30 => exact rfl))
  k_with "ne find" => first | with_reducible assumption | (refine Ne.symm ?_; with_reducible assumption) | (refine Nat.ne_of_lt ?_; with_reducible assumption) | (refine Nat.ne_of_gt ?_; with_reducible assumption) | ((with_reducible rename _ ∧ _ => hc9); have hc8 := hc9.1; have hc7 := hc9.2; clear hc9; walk_at "ne find")
  k_with "spliced" => (k_here; (refine PyProof.Rows.args_nil ?_); (try dsimp only [List.cons_append, List.nil_append]); (with_reducible show _ ∧ _))
  k_with "exec For Name Name cons nil" => k_extra "my for"
  k_with "pit" => k_extra "my iter"
  k_with "binaryOp Add str str" => (k_here; (with_reducible show wpAny _ _ (binaryOp Operator.Add (Value.str _ _) (Value.str _ _)) _ _ _); (refine Mine.add_txt (by first | walk_at "om" | (simp only [Mine.len_hashb, Mine.len_bar]; walk_at "om")) ?_); intro x' t' k' hx' hl')
  k_with "k_mem" => assumption
  k_with "subscriptTail" => (k_here; (with_reducible show wpAny _ _ (subscriptTail _ _ (Value.ref _) (Value.int _ _)) _ _ _); k_dflt (refine' kda_item (knd := PySem.intKind _ _) ?Nz13 ?pz13 ?dz13 (intKind_is _ _ _ _) ?vz13 ?_; (case Nz13 => k_asm); (case pz13 => k_mem); (case dz13 => k_extra "bv dict"); (case vz13 => k_extra "bv at"); k_whole))
  k_with "call ref" => (k_here; (with_reducible show wpAny _ _ (call (Value.ref 375) _) _ _ _); k_extra "parts call")
  k_with "call ref" => (k_here; (with_reducible show wpAny _ _ (call (Value.ref 746) _) _ _ _); k_extra "uses call")
  k_with "call ref" => (k_here; (with_reducible show wpAny _ _ (call (Value.ref 753) _) _ _ _); k_extra "names call")
  k_with "call ref" => (k_here; (with_reducible show wpAny _ _ (call (Value.ref 739) _) _ _ _); k_extra "own call")
  k_with "parts call" => (k_dflt (refine' Mine.Runs.useK (P := PartsP t) (Mine.parts_runs (ne := ne) (mono_lt mono (by decide) (by decide)) (mono_lt mono (by decide) (by decide)) (apart _ o3 0 (by decide)) (apart _ o3 1 (by decide)) (apart _ o3 8 (by decide)) (by walk_at "om") o2) ?R ?k1 ?k2 ?k3 ?k4 ?k5 ?kK ?kd ?ku ?kf ?_; (case k1 => k_asm); (case k2 => k_asm); (case k3 => k_asm); (case k4 => k_asm); (case k5 => k_asm); (case kK => first | exact rfl | assumption); (case R => exact fun r tl ⟨a, t', e', h1, h2, h3⟩ => ⟨[(a, PySem.W.listOf #[.int t t'] e')], h3, (fun p hp q hq => by rw [List.mem_singleton.mp hp]; exact (h2 q hq).symm), a, t', e', h1, rfl⟩); (case kf => exact List.forall_mem_cons.mpr ⟨by k_mem, List.forall_mem_cons.mpr ⟨by k_mem, List.forall_mem_cons.mpr ⟨by k_mem, List.forall_mem_cons.mpr ⟨by k_mem, List.forall_mem_nil _⟩⟩⟩⟩); (case kd => walk_at "rm"); (case ku => walk_at "rm")); intro r9 nw9 h9 tk9 F9 N9 f9 P9; unfold Mine.PartsP at P9; (k_dflt (refine Mine.ex3 P9 fun ar tr er om0 => Mine.an2 om0 fun e9 e9' => ?_); clear om0; (try clear P9)); subst e9; subst e9'; simp only [List.cons_append, List.nil_append] at N9)
  k_with "uses call" => (k_dflt (refine' Mine.Runs.useK (P := UsesP prog w) (Mine.uses_runs (ne := ne) (n := er) (tt := tr) (mono_lt mono (by decide) (by decide)) (mono_lt mono (by decide) (by decide)) (apart _ o3 0 (by decide)) (apart _ o3 1 (by decide)) (apart _ o3 8 (by decide)) (f9 _ (.head _) _ (.tail _ (.head _))) (f9 _ (.head _) _ (.head _)) (f9 _ (.head _) _ (.tail _ (.tail _ b8))) (f9 _ (.head _) _ (.tail _ (.tail _ be))) (by walk_at "om") o2) ?R ?k1 ?k2 ?k3 ?k4 ?k5 ?kK ?kd ?ku ?kf ?_; (case k1 => k_asm); (case k2 => k_asm); (case k3 => k_asm); (case k4 => k_asm); (case k5 => k_asm); (case kK => first | exact rfl | assumption); (case R => exact fun r tl ⟨d, o, h1, h2, h3, h4, h5⟩ => ⟨[(d, o)], h5, (fun p hp q hq => by rw [List.mem_singleton.mp hp]; exact h4 q hq), d, o, h1, h2, h3, rfl⟩); (case kf => exact List.forall_mem_cons.mpr ⟨by k_mem, List.forall_mem_cons.mpr ⟨by k_mem, List.forall_mem_cons.mpr ⟨by k_mem, List.forall_mem_cons.mpr ⟨by k_mem, List.forall_mem_cons.mpr ⟨by k_mem, List.forall_mem_nil _⟩⟩⟩⟩⟩); (case kd => walk_at "rm"); (case ku => walk_at "rm")); intro r8 nw8 h8 tk8 F8 N8 f8 P8; unfold Mine.UsesP at P8; (k_dflt (refine Mine.ex2 P8 fun du ou om0 => Mine.an4 om0 fun e8 hou lou e8' => ?_); clear om0; (try clear P8)); subst e8; subst e8'; simp only [List.cons_append, List.nil_append] at N8)
  k_with "names call" => (k_dflt (refine' Mine.Runs.useK (P := NamesP) (Mine.names_runs (n := er) (tt := tr) mono (f9 _ (.head _) _ (.tail _ (.head _))) (f9 _ (.head _) _ (.head _)) (f9 _ (.head _) _ (.tail _ (.tail _ b4))) (f9 _ (.head _) _ (.tail _ (.tail _ b7))) (f9 _ (.head _) _ (.tail _ (.tail _ b10))) (by walk_at "om") o1 hop hb) ?R ?k1 ?k2 ?k3 ?k4 ?k5 ?kK ?kd ?ku ?kf ?_; (case k1 => k_asm); (case k2 => k_asm); (case k3 => k_asm); (case k4 => k_asm); (case k5 => k_asm); (case kK => first | exact rfl | assumption); (case R => exact fun r tl ⟨d, h1, h2⟩ => ⟨[], h2, (fun p hp => nomatch hp), d, h1, rfl⟩); (case kf => exact List.forall_mem_cons.mpr ⟨by k_mem, List.forall_mem_cons.mpr ⟨by k_mem, List.forall_mem_cons.mpr ⟨by k_mem, List.forall_mem_cons.mpr ⟨by k_mem, List.forall_mem_cons.mpr ⟨by k_mem, List.forall_mem_cons.mpr ⟨by k_mem, List.forall_mem_nil _⟩⟩⟩⟩⟩⟩); (case kd => walk_at "rm"); (case ku => walk_at "rm")); intro r7 nw7 h7 tk7 F7 N7 f7 P7; unfold Mine.NamesP at P7; (k_dflt (refine Mine.ex1 P7 fun dn om0 => Mine.an2 om0 fun e7 e7' => ?_); clear om0; (try clear P7)); subst e7; subst e7'; simp only [List.nil_append] at N7; clear f7)
  k_with "own call" => (k_dflt (refine' Mine.Runs.useC (Mine.owntext_reads ok hc hl hat hch) ?k1 ?k2 ?k3 ?k4 ?k5 ?kK ?kd ?ku ?kf ?_; (case k1 => k_asm); (case k2 => k_asm); (case k3 => k_asm); (case k4 => k_asm); (case k5 => k_asm); (case kK => first | exact rfl | assumption); (case kf => (intro p hp; rw [S.led_eq, hW] at hp; (repeat (first | exact sub_two hWZ hp | refine List.Mem.tail _ ?_)))); (case kd => walk_at "rm"); (case ku => walk_at "rm")); intro r6 h6 tk6 F6 N6 hP6; unfold Mine.LTxt at hP6; (k_dflt (refine Mine.ex2 hP6 fun x6 u6 om0 => Mine.an2 om0 fun e6 hx6 => ?_); clear om0; (try clear hP6)); subst e6)
  k_with "my iter" => ((with_reducible show wpAny _ _ (pyIter (Value.ref _)) (fun it s₂ => LoopAtV _ _ _ _ _ _ _ _ _ it s₂) _ _); (with_reducible rename Fr _ _ _ _ => kF); (with_reducible rename News _ _ _ _ => kN); (k_dflt (refine' shown_loop (t := t) (ch := ch) (by rfl) kF kN ?q1 ?q2 (f8 _ (.head _) _ (.head _)) (f9 _ (.head _) _ (.head _)).symm (f9 _ (.head _) _ (.tail _ (.head _))).symm (fun p hp => (f9 _ (.head _) p (.tail _ (.tail _ hp))).symm) ?_ ?_)); (case q1 => assumption); (case q2 => assumption); rotate_left; (intro m5 h5 tk5 tx5 tt5 y5 o5 hy5 hd5 ms5 ml5 mt5 F5 N5); (have hyl5 : y5.length ≤ 100000 := by rw [← lc_len, hy5]; exact hcl); (rw [bind3 ms5 ml5 mt5] at F5); rotate_left; (intro h4 tk4 own4 Z4 hWZ hOZ hZs F4 N4))
  k_with "bv dict" => assumption
  k_with "bv at" => exact one_at
  k_with "my for" => ((rename Fr _ _ _ _ => lF'); (with_unfolding_all refine' For_invVF lF' ?k1 ?k2 ?_; (case k1 => exact rfl); (case k2 => exact rfl); k_whole))
  refine wpAny_call ?_
  k_dflt (k_extra "con_enter")
  k_steps
  · refine' InvEndN.intro (by assumption) (by assumption) ⟨_, _, x6, _, hx6, by assumption, rfl, rfl, rfl, rfl⟩ rfl ?_ ?_
    · refine List.forall_mem_cons.mpr ⟨by k_mem, List.forall_mem_cons.mpr ⟨by k_mem, List.forall_mem_cons.mpr ⟨by k_mem, List.forall_mem_cons.mpr ⟨by k_mem, List.forall_mem_cons.mpr ⟨by k_mem, fun p hp => ?_⟩⟩⟩⟩⟩
      repeat (first | exact hWZ _ hp | refine List.Mem.tail _ ?_)
    · intro p hp
      repeat (first | exact hOZ _ hp | refine List.Mem.tail _ ?_)
  · exact ends_of ⟨⟨_, _, rfl, term_end hy5 (by assumption) (by assumption)⟩, rfl⟩ (fun q hq => .tail _ (.tail _ (.tail _ hq)))
end Mine
end
/- PA -/
section
open PySem PySem.W PyProof.Rows PySem.Calls PySem.Spec PySem.NumText
namespace Mine
noncomputable def ND (x : List Nat) : Prop := ∀ c r, x = c :: r → ¬ (48 ≤ c ∧ c ≤ 57)
theorem nd_nil : ND [] := fun _ _ h => nomatch h
theorem nd_cons {c : Nat} {r : List Nat} (h : ¬ (48 ≤ c ∧ c ≤ 57)) : ND (c :: r) := fun _ _ e => by injection e with e _; subst e; exact h
theorem dsplit : ∀ {a b x y : List Nat}, AllDigits a → AllDigits b → ND x → ND y → a ++ x = b ++ y → a = b ∧ x = y
  | [], [], _, _, _, _, _, _, h => ⟨rfl, h⟩
  | [], c :: b, _, _, _, hb, hx, _, h => absurd (hb c (.head _)) (hx c _ h)
  | c :: a, [], _, _, ha, _, _, hy, h => absurd (ha c (.head _)) (hy c _ h.symm)
  | c :: a, d :: b, _, _, ha, hb, hx, hy, h => by
    injection h with h1 h2
    (refine Mine.an2 (dsplit (fun z hz => ha z (.tail _ hz)) (fun z hz => hb z (.tail _ hz)) hx hy h2) fun e1 e2 => ?_)
    exact ⟨by rw [h1, e1], e2⟩
theorem digs_inj {n m : Nat} (h : digs n = digs m) : n = m := by rw [← digs_val n, ← digs_val m, h]
noncomputable def suf (r : Bool) : List Nat := if r then dot0 else []
theorem suf_nd (r : Bool) {z : List Nat} (h : ND z) : ND (suf r ++ z) := by
  cases r with
  | true => exact nd_cons (by decide)
  | false => exact h
theorem digs_head (n : Nat) (z : List Nat) : ∃ c r, digs n ++ z = c :: r ∧ 48 ≤ c ∧ c ≤ 57 := by
  have h1 := digs_ne n
  have h2 := digs_all n
  cases e : digs n with
  | nil => exact absurd e h1
  | cons c r => rw [e] at h2; exact ⟨c, r ++ z, rfl, h2 c (.head _)⟩
theorem core_one (r : Bool) (t : Int) : coreText r t 1 = digs t.natAbs ++ suf r := by unfold coreText suf; rw [if_pos rfl]
theorem core_two (r : Bool) (t : Int) {b : Int} (h : b ≠ 1) : coreText r t b = 40 :: 47 :: 32 :: (digs t.natAbs ++ (suf r ++ (32 :: (digs b.toNat ++ (suf r ++ [41]))))) := by
  unfold coreText suf; rw [if_neg h]
  simp only [List.append_assoc, List.cons_append, List.nil_append]
theorem core_inj {r r' : Bool} {t t' b b' : Int} (hb : 1 ≤ b) (hb' : 1 ≤ b') (h : coreText r t b = coreText r' t' b') : r = r' ∧ t.natAbs = t'.natAbs ∧ b = b' := by
  by_cases h1 : b = 1
  · subst h1
    rw [core_one] at h
    by_cases h2 : b' = 1
    · subst h2
      rw [core_one] at h
      (first | (refine Mine.an2 (dsplit (digs_all _) (digs_all _) (by have := suf_nd r nd_nil; rwa [List.append_nil] at this) (by have := suf_nd r' nd_nil; rwa [List.append_nil] at this) h) fun e1 e2 => ?_) | obtain ⟨e1, e2⟩ := dsplit (digs_all _) (digs_all _) (by have := suf_nd r nd_nil; rwa [List.append_nil] at this) (by have := suf_nd r' nd_nil; rwa [List.append_nil] at this) h)
      refine ⟨?_, digs_inj e1, rfl⟩
      cases r <;> cases r' <;> first | rfl | cases e2
    · rw [core_two _ _ h2] at h
      (refine Mine.ex2 (digs_head t.natAbs (suf r)) fun c z om0 => Mine.an2 om0 fun e hc => ?_; clear om0)
      rw [e] at h; injection h with h _; (first | lia | omega)
  · rw [core_two _ _ h1] at h
    by_cases h2 : b' = 1
    · subst h2
      rw [core_one] at h
      (refine Mine.ex2 (digs_head t'.natAbs (suf r')) fun c z om0 => Mine.an2 om0 fun e hc => ?_; clear om0)
      rw [e] at h; injection h with h _; (first | lia | omega)
    · rw [core_two _ _ h2] at h
      injection h with _ h; injection h with _ h; injection h with _ h
      (first | (refine Mine.an2 (dsplit (digs_all _) (digs_all _) (suf_nd r (nd_cons (by decide))) (suf_nd r' (nd_cons (by decide))) h) fun e1 e2 => ?_) | obtain ⟨e1, e2⟩ := dsplit (digs_all _) (digs_all _) (suf_nd r (nd_cons (by decide))) (suf_nd r' (nd_cons (by decide))) h)
      have hr : r = r' := by
        cases r <;> cases r' <;> first | rfl | (injection e2 with e2 _; exact absurd e2 (by decide))
      subst hr
      have e3 := List.append_cancel_left e2
      injection e3 with _ e3
      (first | (refine Mine.an2 (dsplit (digs_all _) (digs_all _) (suf_nd r (nd_cons (by decide))) (suf_nd r (nd_cons (by decide))) e3) fun e4 _ => ?_) | obtain ⟨e4, _⟩ := dsplit (digs_all _) (digs_all _) (suf_nd r (nd_cons (by decide))) (suf_nd r (nd_cons (by decide))) e3)
      have := digs_inj e4
      exact ⟨rfl, digs_inj e1, by (first | lia | omega)⟩
theorem core_sign {r : Bool} {t b : Int} {z : List Nat} (h : coreText r t b = 40 :: 45 :: z) : False := by
  by_cases h1 : b = 1
  · subst h1
    rw [core_one] at h
    (refine Mine.ex2 (digs_head t.natAbs (suf r)) fun c y om0 => Mine.an2 om0 fun e hc => ?_; clear om0)
    rw [e] at h; injection h with h _; (first | lia | omega)
  · rw [core_two _ _ h1] at h
    injection h with _ h; injection h with h _; exact absurd h (by decide)
theorem num_neg (r : Bool) {t b : Int} (h : t < 0) : numText r t b = 40 :: 45 :: (32 :: (coreText r t b ++ [41])) := by
  unfold numText; rw [if_pos h]; simp only [List.cons_append, List.nil_append]
theorem num_pos (r : Bool) {t b : Int} (h : ¬ t < 0) : numText r t b = coreText r t b := by unfold numText; rw [if_neg h]
theorem num_inj {r r' : Bool} {t t' b b' : Int} (hb : 1 ≤ b) (hb' : 1 ≤ b') (h : numText r t b = numText r' t' b') : r = r' ∧ t = t' ∧ b = b' := by
  by_cases h1 : t < 0
  · rw [num_neg r h1] at h
    by_cases h2 : t' < 0
    · rw [num_neg r' h2] at h
      injection h with _ h; injection h with _ h; injection h with _ h
      (refine Mine.an3 (core_inj hb hb' (List.append_cancel_right h)) fun e1 e2 e3 => ?_)
      exact ⟨e1, by (first | lia | omega), e3⟩
    · rw [num_pos r' h2] at h
      exact (core_sign h.symm).elim
  · rw [num_pos r h1] at h
    by_cases h2 : t' < 0
    · rw [num_neg r' h2] at h
      exact (core_sign h).elim
    · rw [num_pos r' h2] at h
      (refine Mine.an3 (core_inj hb hb' h) fun e1 e2 e3 => ?_)
      exact ⟨e1, by (first | lia | omega), e3⟩
theorem num_head {r : Bool} {t b : Int} : ∃ c z, numText r t b = c :: z ∧ (c = 40 ∨ (48 ≤ c ∧ c ≤ 57)) := by
  by_cases h1 : t < 0
  · rw [num_neg r h1]; exact ⟨_, _, rfl, .inl rfl⟩
  · rw [num_pos r h1]
    by_cases h2 : b = 1
    · subst h2; rw [core_one]
      (refine Mine.ex2 (digs_head t.natAbs (suf r)) fun c y om0 => Mine.an2 om0 fun e hc => ?_; clear om0)
      exact ⟨c, y, e, .inr hc⟩
    · rw [core_two _ _ h2]; exact ⟨_, _, rfl, .inl rfl⟩
theorem bits_inj {v v' wd wd' : Nat} (h : v < 2 ^ wd) (h' : v' < 2 ^ wd') (e : bitsTo v wd wd = bitsTo v' wd' wd') : wd = wd' ∧ v = v' := by
  have hl : wd = wd' := by rw [← bitsTo_len v wd wd, e, bitsTo_len]
  subst hl
  have h1 := bits_val h wd (Nat.le_refl _)
  have h2 := bits_val h' wd (Nat.le_refl _)
  rw [e, h2, Nat.sub_self, Nat.pow_zero, Nat.div_one, Nat.div_one] at h1
  exact ⟨rfl, h1.symm⟩
end Mine
end
/- PB -/
section
open PySem PySem.W PyProof.Rows PySem.Calls PySem.Spec PySem.NumText
namespace Mine
noncomputable def okHead : Option (List Nat) → Bool
  | none => true
  | some [] => false
  | some (c :: _) => decide (c ≠ 40) && decide (c ≠ 35) && !(decide (48 ≤ c) && decide (c ≤ 57))
theorem name_heads : ∀ i, i < 13 → okHead ((textAt i).map lc) = true := by decide +kernel
theorem name_apart : ∀ i, i < 13 → ∀ j, j < 13 → (textAt i).map lc = (textAt j).map lc → (textAt i).map lc = none ∨ i = j := by decide +kernel
theorem name_tf : ∀ i, i < 13 → ∀ b, (textAt i).map lc ≠ some (lc (opTF b)) := by decide +kernel
theorem tf_apart : ∀ a b, lc (opTF a) = lc (opTF b) → a = b := by decide +kernel
theorem tf_heads : ∀ b, okHead (some (lc (opTF b))) = true := by decide +kernel
theorem ok_num {ch : Option (List Nat)} (h : okHead ch = true) {r : Bool} {t b : Int} (e : ch = some (numText r t b)) : False := by
  (refine Mine.ex2 (num_head (r := r) (t := t) (b := b)) fun c z om0 => Mine.an2 om0 fun e1 e2 => ?_; clear om0)
  rw [e, e1] at h
  simp only [okHead, Bool.and_eq_true, decide_eq_true_eq, Bool.not_eq_true', Bool.and_eq_false_iff, decide_eq_false_iff_not] at h
  (first | lia | omega)
theorem ok_bits {ch : Option (List Nat)} (h : okHead ch = true) {z : List Nat} (e : ch = some ([35, 98] ++ z)) : False := by
  rw [e] at h
  simp only [okHead, List.cons_append, Bool.and_eq_true, decide_eq_true_eq] at h
  exact h.1.2 rfl
theorem num_bits {r : Bool} {t b : Int} {z : List Nat} (e : numText r t b = [35, 98] ++ z) : False := by
  (refine Mine.ex2 (num_head (r := r) (t := t) (b := b)) fun c y om0 => Mine.an2 om0 fun e1 e2 => ?_; clear om0)
  rw [e1] at e
  injection e with e _
  (first | lia | omega)
theorem at_same {S : BS} {k : BKey} {a a' : Addr} {t t' : Nat} {u u' : Tok} (h : atKey S.xs k = some (a, .int t u)) (h' : atKey S.xs k = some (a', .int t' u')) : t = t' := by
  rw [h] at h'
  injection h' with h'
  injection h' with _ h'
  injection h' with h' _
  (first | lia | omega)
theorem chars_inj {S : BS} {cs : List (Str × Value)} {t t' : Nat} {l l' : Leaf} {ch : List Nat} (h : l.Is S cs t) (h' : l'.Is S cs t') (e : l.chars = some ch) (e' : l'.chars = some ch) : t = t' := by
  have e9 : l.chars = l'.chars := e.trans e'.symm
  cases l with
  | num r x y =>
    (refine Mine.an2 h fun g om0 => Mine.ex2 om0 fun a u h1 => ?_; clear om0; (try clear h))
    cases l' with
    | num r' x' y' =>
      (refine Mine.an2 h' fun g' om0 => Mine.ex2 om0 fun a' u' h1' => ?_; clear om0; (try clear h'))
      (refine Mine.an3 (num_inj g.pos g'.pos (Option.some.inj e9)) fun q1 q2 q3 => ?_)
      subst q1; subst q2; subst q3
      exact at_same h1 h1'
    | bits v wd => exact (num_bits (Option.some.inj e9)).elim
    | name i => exact (ok_num (name_heads i h'.1) e9.symm).elim
    | tf b => exact (ok_num (tf_heads b) e9.symm).elim
  | bits v wd =>
    (refine Mine.an4 h fun h1 h2 h3 om0 => Mine.ex4 om0 fun j tj a u om1 => Mine.an2 om1 fun h4 h5 => ?_; clear om0 om1; (try clear h))
    cases l' with
    | num r' x' y' => exact (num_bits (Option.some.inj e9).symm).elim
    | bits v' wd' =>
      (refine Mine.an4 h' fun h1' h2' h3' om0 => Mine.ex4 om0 fun j' tj' a' u' om1 => Mine.an2 om1 fun h4' h5' => ?_; clear om0 om1; (try clear h'))
      (refine Mine.an2 (bits_inj h3 h3' (List.append_cancel_left (Option.some.inj e9))) fun q1 q2 => ?_)
      subst q1; subst q2
      rw [h4] at h4'
      injection h4' with h4'
      injection h4' with h4' _
      have : j = j' := by (first | lia | omega)
      subst this
      exact at_same h5 h5'
    | name i => exact (ok_bits (name_heads i h'.1) e9.symm).elim
    | tf b => exact (ok_bits (tf_heads b) e9.symm).elim
  | name i =>
    (refine Mine.an3 h fun h1 on1 _ => ?_; (try clear h); obtain ⟨u, h2⟩ := on1)
    cases l' with
    | num r' x' y' => exact (ok_num (name_heads i h1) e9).elim
    | bits v wd => exact (ok_bits (name_heads i h1) e9).elim
    | name i' =>
      (refine Mine.an3 h' fun h1' on1 _ => ?_; (try clear h'); obtain ⟨u', h2'⟩ := on1)
      rcases name_apart i h1 i' h1' e9 with q | q
      · rw [show (textAt i).map lc = some ch from e] at q; cases q
      · subst q
        rw [h2] at h2'
        injection h2' with h2'
        injection h2' with h2' _
        (first | lia | omega)
    | tf b => exact (name_tf i h1 b e9).elim
  | tf b =>
    (refine Mine.ex2 h fun a u h1 => ?_; (try clear h))
    cases l' with
    | num r' x' y' => exact (ok_num (tf_heads b) e9).elim
    | bits v wd => exact (ok_bits (tf_heads b) e9).elim
    | name i => exact (name_tf i h'.1 b e9.symm).elim
    | tf b' =>
      (refine Mine.ex2 h' fun a' u' h1' => ?_; (try clear h'))
      have := tf_apart b b' (Option.some.inj e9)
      subst this
      exact at_same h1 h1'
end Mine
end
/- PC -/
section
open PySem PySem.W PyProof.Rows PySem.Calls PySem.Spec PySem.NumText
namespace Mine
noncomputable def Uniq (imms : List (Addr × Obj)) : Prop := ∀ a o o', (a, o) ∈ imms → (a, o') ∈ imms → o = o'
theorem News.uniq {h₀ h : Heap} {L : Addr} {news : List (Addr × Obj)} (N : News h₀ L h news) : Uniq news := fun a o o' h1 h2 => by
  have e1 := (N _ h1).1
  have e2 := (N _ h2).1
  exact Option.some.inj (e1.symm.trans e2)
theorem datL_same {imms : List (Addr × Obj)} (hu : Uniq imms) {p p' : Int × Option Int} {dv : Value} (h : DatL imms p dv) (h' : DatL imms p' dv) : p = p' := by
  obtain ⟨x, y⟩ := p
  obtain ⟨x', y'⟩ := p'
  cases y with
  | none =>
    (refine Mine.ex1 h fun t e => ?_; (try clear h))
    cases y' with
    | none => (refine Mine.ex1 h' fun t' e' => ?_; (try clear h')); rw [e] at e'; injection e' with e' _; rw [e']
    | some y' => (refine Mine.ex4 h' fun da n t1 t2 om0 => Mine.an2 om0 fun e' m => ?_; clear om0; (try clear h')); rw [e] at e'; cases e'
  | some y =>
    (refine Mine.ex4 h fun da n t1 t2 om0 => Mine.an2 om0 fun e m => ?_; clear om0; (try clear h))
    cases y' with
    | none => (refine Mine.ex1 h' fun t' e' => ?_; (try clear h')); rw [e] at e'; cases e'
    | some y' =>
      (refine Mine.ex4 h' fun da' n' t1' t2' om0 => Mine.an2 om0 fun e' m' => ?_; clear om0; (try clear h'))
      rw [e] at e'
      injection e' with e'
      subst e'
      have q := congrArg Obj.data (hu _ _ _ m m')
      unfold tupO at q
      injection q with q
      simp only [List.toArray, Array.mk.injEq, List.cons.injEq, Value.int.injEq] at q
      simp at q
      (refine Mine.an2 q fun q1 q2 => ?_; (try clear q))
      simp only [q1.1, q2.1]
theorem keys_same {prog : Program} {w : World} {c : Nat} {B : Bk} {xs : List (BKey × Addr × Value)} {imms : List (Addr × Obj)} (ok : BkOK prog w c B xs imms) (hu : Uniq imms) {k k' : BKey} {a a' : Addr} {t : Nat} {u u' : Tok} (h : atKey xs k = some (a, .int t u)) (h' : atKey xs k' = some (a', .int t u')) : k = k' := by
  (refine Mine.ex7 (ok.vals _ (atKey_mem h)) fun i t0 t1 t2 e ne dv om0 => Mine.an8 om0 fun q1 _ q2 _ _ q3 q4 q5 => ?_; clear om0)
  (refine Mine.ex7 (ok.vals _ (atKey_mem h')) fun i' t0' t1' t2' e' ne' dv' om0 => Mine.an8 om0 fun r1 _ r2 _ _ r3 r4 r5 => ?_; clear om0)
  simp only at q1 r1
  injection q1 with q1 _
  injection r1 with r1 _
  have hi : i = t := by (first | lia | omega)
  have hi' : i' = t := by (first | lia | omega)
  subst hi; subst hi'
  rw [q2] at r2
  rw [q3] at r3
  rw [q4] at r4
  injection r2 with r2; injection r2 with r2 _
  injection r3 with r3; injection r3 with r3 _
  injection r4 with r4
  rw [← r4] at r5
  have q6 := datL_same hu q5 r5
  obtain ⟨k1, k2, k3⟩ := k
  obtain ⟨k1', k2', k3'⟩ := k'
  simp only at r2 r3 q6
  rw [r2, r3, q6]
theorem names_one : ∀ i, i < 13 → ∀ j, j < 13 → lc (nameAt i) = lc (nameAt j) → i = j := by decide +kernel
theorem ops_apart : lc (Str.ofString "num") ≠ lc (Str.ofString "bvnum") ∧ lc (Str.ofString "num") ≠ lc (Str.ofString "app") ∧ lc (Str.ofString "bvnum") ≠ lc (Str.ofString "app") ∧
    (∀ b, lc (opTF b) ≠ lc (Str.ofString "num")) ∧ (∀ b, lc (opTF b) ≠ lc (Str.ofString "bvnum")) ∧ (∀ b, lc (opTF b) ≠ lc (Str.ofString "app")) := by decide +kernel
theorem op_ne {k k' : BKey} (h : lc k.1 ≠ lc k'.1) (e : k = k') : False := h (by rw [e])
theorem chars_same {prog : Program} {w : World} {c : Nat} {S : BS} {cs : List (Str × Value)} {t : Nat} {l l' : Leaf} (ok : SOK prog w c S) (hu : Uniq S.imms) (h : l.Is S cs t) (h' : l'.Is S cs t) : l.chars = l'.chars := by
  (refine Mine.an6 ops_apart fun o1 o2 o3 o4 o5 o6 => ?_; (try clear ops_apart))
  cases l with
  | num r x y =>
    (refine Mine.an2 h fun g om0 => Mine.ex2 om0 fun a u h1 => ?_; clear om0; (try clear h))
    cases l' with
    | num r' x' y' =>
      (refine Mine.an2 h' fun g' om0 => Mine.ex2 om0 fun a' u' h1' => ?_; clear om0; (try clear h'))
      have q := keys_same ok.bk hu h1 h1'
      simp only [Prod.mk.injEq, Option.some.injEq, true_and] at q
      (refine Mine.an3 q fun q1 q2 q3 => ?_; (try clear q))
      have : r = r' := by cases r <;> cases r' <;> first | rfl | exact absurd q1 (by decide)
      subst this; subst q2; subst q3; rfl
    | bits v wd => (refine Mine.an4 h' fun _ _ _ om0 => Mine.ex4 om0 fun _ _ _ _ om1 => Mine.an2 om1 fun _ h5 => ?_; clear om0 om1; (try clear h')); exact (op_ne o1 (keys_same ok.bk hu h1 h5)).elim
    | name i => (refine Mine.an3 h' fun _ _ om0 => Mine.ex5 om0 fun _ _ _ _ _ om1 => Mine.an2 om1 fun _ h5 => ?_; clear om0 om1; (try clear h')); exact (op_ne o2 (keys_same ok.bk hu h1 h5)).elim
    | tf b => (refine Mine.ex2 h' fun _ _ h5 => ?_; (try clear h')); exact (op_ne (o4 b) (keys_same ok.bk hu h5 h1)).elim
  | bits v wd =>
    (refine Mine.an4 h fun h1 h2 h3 om0 => Mine.ex4 om0 fun j tj a u om1 => Mine.an2 om1 fun h4 h5 => ?_; clear om0 om1; (try clear h))
    cases l' with
    | num r' x' y' => (refine Mine.an2 h' fun _ om0 => Mine.ex2 om0 fun _ _ h6 => ?_; clear om0; (try clear h')); exact (op_ne o1 (keys_same ok.bk hu h6 h5)).elim
    | bits v' wd' =>
      (refine Mine.an4 h' fun h1' h2' h3' om0 => Mine.ex4 om0 fun j' tj' a' u' om1 => Mine.an2 om1 fun h4' h5' => ?_; clear om0 om1; (try clear h'))
      have q := keys_same ok.bk hu h5 h5'
      simp only [Prod.mk.injEq, true_and, and_true] at q
      (refine Mine.an2 q fun q1 q2 => ?_; (try clear q))
      have qj : j = j' := by (first | lia | omega)
      have qv : v = v' := by (first | lia | omega)
      subst qj; subst qv
      (refine Mine.ex3 (ok.bv.vals _ (valueAt_mem h4)) fun i1 s1 s2 om0 => Mine.an3 om0 fun e1 _ e2 => ?_; clear om0)
      (refine Mine.ex3 (ok.bv.vals _ (valueAt_mem h4')) fun i2 s3 s4 om0 => Mine.an3 om0 fun e3 _ e4 => ?_; clear om0)
      simp only at e1 e3 e2 e4
      injection e1 with e1 _
      injection e3 with e3 _
      have p1 : i1 = j := by (first | lia | omega)
      have p2 : i2 = j := by (first | lia | omega)
      subst p1; subst p2
      rw [e2] at e4
      injection e4 with e4
      injection e4 with e4 _
      have : wd = wd' := by (first | lia | omega)
      subst this; rfl
    | name i => (refine Mine.an3 h' fun _ _ om0 => Mine.ex5 om0 fun _ _ _ _ _ om1 => Mine.an2 om1 fun _ h6 => ?_; clear om0 om1; (try clear h')); exact (op_ne o3 (keys_same ok.bk hu h5 h6)).elim
    | tf b => (refine Mine.ex2 h' fun _ _ h6 => ?_; (try clear h')); exact (op_ne (o5 b) (keys_same ok.bk hu h6 h5)).elim
  | name i =>
    (refine Mine.an3 h fun h1 h2 om0 => Mine.ex5 om0 fun f tf srt a u om1 => Mine.an2 om1 fun h4 h5 => ?_; clear om0 om1; (try clear h))
    cases l' with
    | num r' x' y' => (refine Mine.an2 h' fun _ om0 => Mine.ex2 om0 fun _ _ h6 => ?_; clear om0; (try clear h')); exact (op_ne o2 (keys_same ok.bk hu h6 h5)).elim
    | bits v wd => (refine Mine.an4 h' fun _ _ _ om0 => Mine.ex4 om0 fun _ _ _ _ om1 => Mine.an2 om1 fun _ h6 => ?_; clear om0 om1; (try clear h')); exact (op_ne o3 (keys_same ok.bk hu h6 h5)).elim
    | name i' =>
      (refine Mine.an3 h' fun h1' h2' om0 => Mine.ex5 om0 fun f' tf' srt' a' u' om1 => Mine.an2 om1 fun h4' h5' => ?_; clear om0 om1; (try clear h'))
      have q := keys_same ok.bk hu h5 h5'
      simp only [Prod.mk.injEq, true_and, and_true] at q
      have qf : f = f' := by (first | lia | omega)
      subst qf
      rw [h4] at h4'
      injection h4' with h4'
      injection h4' with h4' _
      have : i = i' := names_one i h1 i' h1' (by rw [h4'])
      subst this; rfl
    | tf b => (refine Mine.ex2 h' fun _ _ h6 => ?_; (try clear h')); exact (op_ne (o6 b) (keys_same ok.bk hu h6 h5)).elim
  | tf b =>
    (refine Mine.ex2 h fun a u h1 => ?_; (try clear h))
    cases l' with
    | num r' x' y' => (refine Mine.an2 h' fun _ om0 => Mine.ex2 om0 fun _ _ h6 => ?_; clear om0; (try clear h')); exact (op_ne (o4 b) (keys_same ok.bk hu h1 h6)).elim
    | bits v wd => (refine Mine.an4 h' fun _ _ _ om0 => Mine.ex4 om0 fun _ _ _ _ om1 => Mine.an2 om1 fun _ h6 => ?_; clear om0 om1; (try clear h')); exact (op_ne (o5 b) (keys_same ok.bk hu h1 h6)).elim
    | name i => (refine Mine.an3 h' fun _ _ om0 => Mine.ex5 om0 fun _ _ _ _ _ om1 => Mine.an2 om1 fun _ h6 => ?_; clear om0 om1; (try clear h')); exact (op_ne (o6 b) (keys_same ok.bk hu h1 h6)).elim
    | tf b' =>
      (refine Mine.ex2 h' fun a' u' h1' => ?_; (try clear h'))
      have q := keys_same ok.bk hu h1 h1'
      have : lc (opTF b) = lc (opTF b') := congrArg (fun k : BKey => lc k.1) q
      show some (lc (opTF b)) = some (lc (opTF b')); rw [this]
end Mine
end
/- RA -/
section
open PySem PySem.W PyProof.Rows PySem.Calls PySem.Spec
namespace Mine
set_option maxRecDepth 100000
theorem dict_mapFields (f : Array Value → Array Value) (o : Obj) : (Obj.mapFields f o).dict = o.dict := by
  obtain ⟨c, d, dt, sl⟩ := o; cases dt <;> rfl
noncomputable def TrD (h base : Heap) (e : Addr) (cls : Value) (D : Addr) (fl : Value) : Prop :=
  ∃ oe vs T oT ts, h.get? e = some oe ∧ (oe.cls = cls ∧ oe.dict = some D) ∧ oe.data = .fields vs ∧ vs[1]? = some (.ref T) ∧ base.get? T = none ∧ T ≠ e ∧ h.get? T = some oT ∧ oT.data = .fields ts ∧ ts[3]? = some fl
noncomputable def Flown (base : Heap) (l : List Env) (e : Addr) (cls : Value) (D : Addr) (fl : Value) (h : Heap) : Prop :=
  base.StaysIn h ∧ base.get? e = none ∧ h.FunFrames base l ∧ TrD h base e cls D fl
theorem notRec {h : Heap} {b a : Addr} {o oa : Obj} {vs : Array Value} (ha : h.get? a = some oa) (hd : oa.data = .fields vs) (hb : h.get? b = some o) (hn : ∀ vs, o.data ≠ .fields vs) : b ≠ a := fun q => by
  subst q
  have := ha.symm.trans hb
  injection this with this
  subst this
  exact hn vs hd
section
variable {M : Model} {A : Around} {E : Value → Shared → Prop} {s : Shared}
theorem entryD {base : Heap} {env : Env} {outer : List Env} {L e D : Addr} {oe : Obj} {vs : Array Value} {head : Value} {hadNext : Bool} {Q : Unit → Shared → Prop}
    (hfr : A.frames = some (env :: outer)) (hl : s.heap.FunFrames base (env :: outer)) (hf : env.frame = some L)
    (he : s.heap.get? e = some oe) (hkb : base.StaysIn s.heap) (hen : base.get? e = none) (hD : oe.dict = some D) (hd : oe.data = .fields vs) (hsz : 1 < vs.size)
    (h : ∀ h', Flown base (env :: outer) e oe.cls D (rawInt L) h' → s.heap.UpToSlots h' → Q () { s with heap := h' }) :
    wpAny M A (do let a ← frameOf env; let pl ← entryPlaceOf L hadNext; let b ← EntryCells.newEntry head a .none (rawInt L) .none pl; setField (.ref e) 1 b) Q E s := by
  have out : e ∉ (env :: outer).filterMap (·.frame) := fun hm => by
    (refine Mine.an2 (hl.mem hm) fun _ om0 => Mine.ex1 om0 fun o om1 => Mine.an2 om1 fun ho hn => ?_; clear om0 om1)
    exact notRec he hd ho hn rfl
  refine wpAny_bind (wpAny_frameOf_fun hfr hl hf fun h₁ hs₁ => ?_)
  (refine Mine.an3 hs₁ fun _ alike slots => ?_; (try clear hs₁))
  refine wpAny_bind (wpAny_entryPlaceOf fun pl hpl => ?_)
  unfold EntryCells.newEntry newFields
  refine wpAny_bind (wpAny_newObj_type ?_ (hpl.sizeOk5 _ _ _ _ _))
  generalize ho : ({ cls := .type "traceback", dict := none, data := .fields ([head, .ref L, .none, rawInt L, .none] ++ (if pl.isEmpty then List.replicate 6 Value.none else pl)).toArray } : Obj) = oT
  have he₁ : h₁.get? e = some oe := (alike e out).trans he
  have kb : base.StaysIn h₁ := fun b o q => (alike b fun hm => by rw [(hl.mem hm).1] at q; cases q).trans (hkb b o q)
  have hTe : h₁.objs.size ≠ e := Nat.ne_of_gt (Heap.lt_size he₁)
  have he₂ : (h₁.push oT).get? e = some oe := Heap.get?_push_of_some _ he₁
  have hnf : oT.isFreed = false := by rw [← ho]; rfl
  refine wpAny_setField he₂ hd hsz ?_
  have hd₃ := Obj.data_mapFields hd (·.setIfInBounds 1 (Value.ref h₁.objs.size))
  have he₃ := Heap.get?_update_self (Obj.mapFields (·.setIfInBounds 1 (Value.ref h₁.objs.size))) he₂ (Obj.isFreed_of_fields hd₃)
  have hT₃ := (Heap.get?_update_other (h₁.push oT) (Obj.mapFields (·.setIfInBounds 1 (Value.ref h₁.objs.size))) (Ne.symm hTe)).trans (Heap.get?_push_size h₁ hnf)
  have keep : ∀ b o, b ≠ e → h₁.get? b = some o → ((h₁.push oT).update e (Obj.mapFields (·.setIfInBounds 1 (Value.ref h₁.objs.size)))).get? b = some o := fun b o q hb =>
    (Heap.get?_update_other _ _ (Ne.symm q)).trans (Heap.get?_push_of_some _ hb)
  refine h _ ⟨fun b o q => keep b o (fun z => by rw [z, hen] at q; cases q) (kb b o q), hen, hl.of_keeps fun b o hb hn => ?_, ?_⟩ fun b o hb hn => ?_
  · (refine Mine.ex1 (slots b o hb) fun sl hs => ?_)
    exact ⟨_, keep b _ (notRec he hd hb hn) hs, rfl⟩
  · refine ⟨_, _, h₁.objs.size, _, ([head, .ref L, .none, rawInt L, .none] ++ (if pl.isEmpty then List.replicate 6 Value.none else pl)).toArray, he₃, ⟨Obj.cls_mapFields _ _, (dict_mapFields _ _).trans hD⟩, hd₃, by simp [hsz], kb.fresh, hTe, hT₃, by rw [← ho], ?_⟩
    first | (simp; done) | (rcases hpl with rfl | ⟨_, _, _, _, _, _, _, rfl⟩ <;> simp)
  · (refine Mine.ex1 (slots b o hb) fun sl hs => ?_)
    exact ⟨sl, keep b _ (notRec he hd hb hn) hs⟩

theorem setFlightD {base : Heap} {l : List Env} {e D : Addr} {cls fl : Value} {Q : Unit → Shared → Prop} (x : Flown base l e cls D fl s.heap)
    (h : ∀ h', Flown base l e cls D .none h' → s.heap.UpToSlots h' → Q () { s with heap := h' }) : wpAny M A (setFlight (.ref e) none) Q E s := by
  (refine Mine.an4 x fun hkb hen hl om0 => Mine.ex5 om0 fun oe vs T oT ts om1 => Mine.an9 om1 fun he hcd hd h1 hnT hTe hT hdT h3 => ?_; clear om0 om1; (try clear x))
  have n3 : 3 < ts.size := (Array.getElem?_eq_some_iff.mp h3).1
  unfold setFlight
  refine wpAny_bind (wpAny_field he hd h1 ?_)
  rw [if_pos (show (Value.ref T != Value.none) = true from by simp)]
  refine wpAny_setField hT hdT n3 ?_
  have other : ∀ b, b ≠ T → (s.heap.update T (Obj.mapFields (·.setIfInBounds 3 ((none : Option Addr).elim Value.none fun f => rawInt f)))).get? b = s.heap.get? b := fun b q => Heap.get?_update_other _ _ (Ne.symm q)
  refine h _ ⟨fun b o q => (other b fun z => by rw [z, hnT] at q; cases q).trans (hkb b o q), hen, hl.of_keeps fun b o hb hn => ⟨o, (other b (notRec hT hdT hb hn)).trans hb, rfl⟩, ?_⟩
    fun b o hb hn => ⟨o.slots, (other b (notRec hT hdT hb hn)).trans hb⟩
  exact ⟨oe, vs, T, _, _, (other e (Ne.symm hTe)).trans he, hcd, hd, h1, hnT, hTe, Heap.get?_update_self _ hT (Obj.isFreed_of_fields (Obj.data_mapFields hdT _)), Obj.data_mapFields hdT _, by simp [n3]⟩

theorem noteFirstD {base : Heap} {env : Env} {outer : List Env} {L e D : Addr} {oe : Obj} {vs : Array Value} {Q : Unit → Shared → Prop}
    (hfr : A.frames = some (env :: outer)) (hl : s.heap.FunFrames base (env :: outer)) (hf : env.frame = some L)
    (he : s.heap.get? e = some oe) (hkb : base.StaysIn s.heap) (hen : base.get? e = none) (hD : oe.dict = some D) (hd : oe.data = .fields vs) (h1 : vs[1]? = some .none)
    (h : ∀ h', Flown base (env :: outer) e oe.cls D (rawInt L) h' → s.heap.UpToSlots h' → Q () { s with heap := h' }) : wpAny M A (noteFrame (.ref e) env) Q E s := by
  unfold noteFrame
  simp only [hf]
  refine wpAny_bind (wpAny_field he hd h1 ?_)
  rw [if_neg (by decide)]
  exact entryD hfr hl hf he hkb hen hD hd (Array.getElem?_eq_some_iff.mp h1).1 h

theorem noteNextD {base : Heap} {env : Env} {outer : List Env} {L e D : Addr} {cls : Value} {Q : Unit → Shared → Prop}
    (hfr : A.frames = some (env :: outer)) (hf : env.frame = some L) (x : Flown base (env :: outer) e cls D .none s.heap)
    (h : ∀ h', Flown base (env :: outer) e cls D (rawInt L) h' → s.heap.UpToSlots h' → Q () { s with heap := h' }) : wpAny M A (noteFrame (.ref e) env) Q E s := by
  (refine Mine.an4 x fun hkb hen hl om0 => Mine.ex5 om0 fun oe vs T oT ts om1 => Mine.an9 om1 fun he on9 hd h1 hnT hTe hT hdT h3 => ?_; clear om0 om1; (try clear x); obtain ⟨hc, hD⟩ := on9)
  subst hc
  unfold noteFrame
  simp only [hf]
  refine wpAny_bind (wpAny_field he hd h1 ?_)
  rw [if_pos (show (Value.ref T != Value.none) = true from by simp)]
  refine wpAny_bind (wpAny_field hT hdT h3 ?_)
  rw [if_neg (show ¬ ((Value.none == rawInt L) = true) from by simp [rawInt])]
  refine wpAny_bind (wpAny_setField hT hdT (Array.getElem?_eq_some_iff.mp h3).1 ?_)
  have other : ∀ b, b ≠ T → (s.heap.update T (Obj.mapFields (·.setIfInBounds 3 Value.none))).get? b = s.heap.get? b := fun b q => Heap.get?_update_other _ _ (Ne.symm q)
  refine entryD hfr (hl.of_keeps fun b o hb hn => ⟨o, (other b (notRec hT hdT hb hn)).trans hb, rfl⟩) hf ((other e (Ne.symm hTe)).trans he)
    (fun b o q => (other b fun z => by rw [z, hnT] at q; cases q).trans (hkb b o q)) hen hD hd (Array.getElem?_eq_some_iff.mp h1).1
    fun h' x1 x2 => h h' x1 fun b o hb hn => x2 b o ((other b (notRec hT hdT hb hn)).trans hb) hn

theorem noteAgainD {base : Heap} {l : List Env} {env : Env} {L e D : Addr} {cls : Value} {Q : Unit → Shared → Prop} (hf : env.frame = some L) (x : Flown base l e cls D (rawInt L) s.heap) (h : Q () s) :
    wpAny M A (noteFrame (.ref e) env) Q E s := by
  (refine Mine.an4 x fun hkb hen hl om0 => Mine.ex5 om0 fun oe vs T oT ts om1 => Mine.an9 om1 fun he hcd hd h1 hnT hTe hT hdT h3 => ?_; clear om0 om1; (try clear x))
  unfold noteFrame
  simp only [hf]
  refine wpAny_bind (wpAny_field he hd h1 ?_)
  rw [if_pos (show (Value.ref T != Value.none) = true from by simp)]
  refine wpAny_bind (wpAny_field hT hdT h3 ?_)
  rw [if_pos (show (rawInt L == rawInt L) = true from by simp)]
  exact wpAny_pure h
theorem Flown.pop {base h : Heap} {env : Env} {l : List Env} {e D : Addr} {cls fl : Value} (x : Flown base (env :: l) e cls D fl h) : Flown base l e cls D fl h :=
  let ⟨k1, k2, ⟨_, _, k3⟩, k4⟩ := x; ⟨k1, k2, k3, k4⟩
theorem Flown.base {base B h : Heap} {l : List Env} {e D : Addr} {cls fl : Value} (k : base.StaysIn B) (x : Flown B l e cls D fl h) : Flown base l e cls D fl h := by
  (refine Mine.an4 x fun f1 f2 f3 om0 => Mine.ex5 om0 fun oe vs T oT ts om1 => Mine.an6 om1 fun a1 a2 a3 a4 a5 a6 => ?_; clear om0 om1; (try clear x))
  exact ⟨fun b o q => f1 b o (k b o q), fresh_of_stays k f2, funFrames_base k f3, oe, vs, T, oT, ts, a1, a2, a3, a4, fresh_of_stays k a5, a6⟩
end

noncomputable def RaisedD (h₁ : Heap) (l : List Env) (e C D : Addr) (oD : Obj) (h' : Heap) : Prop :=
  ∃ B, (∀ b o, h₁.get? b = some o → b ∉ l.filterMap (·.frame) → B.get? b = some o) ∧ B.get? D = some oD ∧ h₁.get? D = none ∧ h₁.get? e = none ∧ Flown B l e (.ref C) D .none h' ∧ h₁.UpToSlots h'

section
variable {M : Model} {A : Around} {E : Value → Shared → Prop} {s' : Shared} {base g h₁ h : Heap} {l : List Env} {L a e D C : Addr} {m : Str → Option Value} {env : Env} {Q : Unit → Shared → Prop} {news : List (Addr × Obj)} {oe oD : Obj} {vs : Array Value}
theorem leave_raiseD (K : Below A base l g) (F : Fr g L s'.heap m) (hf : env.frame = some L) (hk : env.scope.kind = .function) (N : News g L s'.heap news) (hen : (e, oe) ∈ news) (hDn : (D, oD) ∈ news) (hne : D ≠ e)
    (hc : oe.cls = .ref C) (hd : oe.dict = some D) (hv : oe.data = .fields vs) (h1 : vs[1]? = some .none)
    (S : ∀ b o, h₁.get? b = some o → s'.heap.get? b = some o) (hL : h₁.objs.size ≤ L) (fe : h₁.get? e = none) (fD : h₁.get? D = none)
    (hQ : ∀ h', RaisedD h₁ l e C D oD h' → Q () { s' with heap := h' }) : wpAny M (A.deeper env) (leaving env (.ref e)) Q E s' := by
  have K' := pushX K F hf hk
  have he := (N _ hen).1
  have nf : ∀ q ∈ news, q.1 ∉ (env :: l).filterMap (·.frame) := fun q hq hm => by
    rw [List.filterMap_cons, hf] at hm
    rcases List.mem_cons.mp hm with z | hm
    · exact (N q hq).2.1 z
    · (refine Mine.ex1 ((K.frames.mem hm).2) fun o om0 => Mine.an2 om0 fun ho _ => ?_; clear om0)
      rw [(N q hq).2.2] at ho; cases ho
  generalize hB : hideAll s'.heap (e :: (env :: l).filterMap (·.frame)) = B
  have st : B.StaysIn s'.heap := fun b o q => by rw [← hB] at q; exact of_hideAll _ q
  have Be : B.get? e = none := by rw [← hB]; exact hideAll_none _ (.head _)
  have FB : s'.heap.FunFrames B (env :: l) := by rw [← hB]; exact funFrames_hide K'.frames fun en he' b hb => List.mem_cons_of_mem _ (List.mem_filterMap.mpr ⟨en, he', hb⟩)
  have B1 : ∀ b o, h₁.get? b = some o → b ∉ l.filterMap (·.frame) → B.get? b = some o := fun b o hb hn => by
    rw [← hB]
    refine hideAll_get _ (S b o hb) fun hm => ?_
    rw [List.filterMap_cons, hf] at hm
    rcases List.mem_cons.mp hm with z | hm
    · rw [z, fe] at hb; cases hb
    rcases List.mem_cons.mp hm with z | hm
    · exact absurd (Heap.lt_size hb) (by rw [z]; exact Nat.not_lt.mpr hL)
    · exact hn hm
  have BD : B.get? D = some oD := by
    rw [← hB]
    refine hideAll_get _ (N _ hDn).1 fun hm => ?_
    rcases List.mem_cons.mp hm with z | hm
    · exact hne z
    · exact nf _ hDn hm
  unfold leaving
  refine wpAny_bind (noteFirstD K'.stack FB hf he st Be hd hv h1 fun h₂ x₂ u₂ => ?_)
  refine setFlightD x₂ fun h₃ x₃ u₃ => ?_
  rw [hc] at x₃
  exact hQ h₃ ⟨B, B1, BD, fD, fe, x₃.pop, ((Heap.UpToSlots.of_keeps S).trans u₂).trans u₃⟩

theorem leave_onD (K : Below A base l g) (hf : env.frame = some L) (R : RaisedD h (env :: l) e C D oD s'.heap)
    (S : ∀ b o, h₁.get? b = some o → h.get? b = some o) (hne : ∀ b o, h₁.get? b = some o → b ≠ L)
    (hQ : ∀ h', RaisedD h₁ l e C D oD h' → Q () { s' with heap := h' }) : wpAny M (A.deeper env) (leaving env (.ref e)) Q E s' := by
  (refine Mine.ex1 R fun B om0 => Mine.an6 om0 fun B1 BD fD fe x u => ?_; clear om0; (try clear R))
  have no : ∀ b, h.get? b = none → h₁.get? b = none := fun b q => by
    cases z : h₁.get? b with
    | none => rfl
    | some o => rw [S b o z] at q; cases q
  unfold leaving
  refine wpAny_bind (noteNextD (Around.frames_deeper K.stack) hf x fun h₂ x₂ u₂ => ?_)
  refine setFlightD x₂ fun h₃ x₃ u₃ => ?_
  refine hQ h₃ ⟨B, fun b o hb hn => B1 b o (S b o hb) fun hm => ?_, BD, no _ fD, no _ fe, x₃.pop, (((Heap.UpToSlots.of_keeps S).trans u).trans u₂).trans u₃⟩
  rw [List.filterMap_cons, hf] at hm
  rcases List.mem_cons.mp hm with z | hm
  · exact hne b o hb z
  · exact hn hm
end

noncomputable def Above (bm bmB : List Value) : Prop := ∀ X, bm.contains (.type X) = bmB.contains (.type X)
noncomputable def aboveIn (bmB : List Value) : List Value → Bool
  | .ref _ :: r => aboveIn bmB r
  | l => l == bmB
theorem above_of {bmB : List Value} : ∀ {l : List Value}, aboveIn bmB l = true → Above l bmB
  | .ref _ :: r, e => fun X => by rw [List.contains_cons, above_of (l := r) e X]; rfl
  | [], e => fun X => by rw [← beq_iff_eq.mp (show ([] == bmB) = true from e)]
  | .type a :: r, e => fun X => by rw [← beq_iff_eq.mp (show ((Value.type a :: r) == bmB) = true from e)]
  | .int _ _ :: r, e => fun X => by rw [← beq_iff_eq.mp (show ((_ :: r) == bmB) = true from e)]
  | v :: r, e => fun X => by cases v <;> first | (rw [← beq_iff_eq.mp (show ((_ :: r) == bmB) = true from e)]) | (rw [List.contains_cons, above_of (l := r) e X]; rfl)
noncomputable abbrev excs : List Value := [.type "Exception", .type "BaseException", .type "object"]
noncomputable def excIn2 (K : Frag) (C : Addr) (newId : String) : Prop :=
  ∃ nm qn N bs bm hdct sn sub ab col dd k0 k1 k2 k3 k5, K.lookup C = some (excClassObj nm qn C N bs bm hdct sn sub ab col dd k0 k1 k2 k3 k5 newId) ∧ aboveIn excs bm = true
theorem exc_of_in {K : Frag} {C : Addr} {newId : String} {h : Heap} (X : K.In h) (q : excIn2 K C newId) :
    ∃ nm qn N bs bm hdct sn sub ab col dd k0 k1 k2 k3 k5, h.get? C = some (excClassObj nm qn C N bs bm hdct sn sub ab col dd k0 k1 k2 k3 k5 newId) ∧ Above bm excs := by
  (refine Mine.ex10 q fun nm qn N bs bm hdct sn sub ab col om0 => Mine.ex6 om0 fun dd k0 k1 k2 k3 k5 om1 => Mine.an2 om1 fun ho hb => ?_; clear om0 om1; (try clear q))
  exact Mine.ie8 nm qn N bs bm hdct sn sub (Mine.ie8 ab col dd k0 k1 k2 k3 k5 ⟨X _ _ ho, above_of hb⟩)

section
variable {prog : Program} {w : World} {A : Around} {E : Value → Shared → Prop} {s' : Shared} {base g h₀ h : Heap} {l : List Env} {L a e D C : Addr} {m : Str → Option Value} {name : Str} {scope : Scope} {cd : Value} {oD : Obj}
  {n : Str} {b₀ : Stmt} {suite : List Stmt} {pos np : Pos} {rest : List ExceptHandler} {Q : Flow → Shared → Prop} {news : List (Addr × Obj)} {KF : Frag} {newId : String}
  {p : Program} {loose : List Str} {mg mb : Str → Option Value} {x : Str}
theorem caught_D {ev : Env} {Lc : Addr} {oc : Obj} (K : Below A base [ev] g) (F : Fr g L h m) (hs : h₀.StaysIn h) (hL : h₀.objs.size ≤ L) (hev : ev.frame = some Lc) (hl : h₀.get? Lc = none) (hoc : h.get? Lc = some oc) (hocd : ∀ vs, oc.data ≠ .fields vs) (hLc : Lc ≠ L)
    (R : RaisedD h (envOf name scope L a cd :: [ev]) e C D oD s'.heap) 
    (N : ∀ q ∈ news, h.get? q.1 = some q.2 ∧ q.1 ≠ L ∧ h₀.get? q.1 = none ∧ q.1 ≠ Lc) 
    (X : KF.In h₀) (T : TopRead p loose mg mb h₀) (ex : nsIn KF mainGlobals x = some (some (.ref C))) (q : excIn2 KF C newId)
    (k : ∀ h' tk oe vs sl, Fr h₀ L h' (fun y => if y = n then some (.ref e) else m y) → News h₀ L h' ((e, oe) :: (D, oD) :: (Lc, { oc with slots := sl }) :: news) → oe.cls = .ref C → oe.dict = some D → oe.data = .fields vs →
      wpAny (model prog w) ((A.deeper (envOf name scope L a cd)).mark (some (.ref e))) (execs (b₀ :: suite) (envOf name scope L a cd))
        (fun f s₄ => wpAny (model prog w) (A.deeper (envOf name scope L a cd)) (do bindName (envOf name scope L a cd) n .none; unbindBehindTheSuite (envOf name scope L a cd) n pos) (fun _ s₅ => Q f s₅) E s₄)
        (AsSuiteRaised (model prog w) ((A.deeper (envOf name scope L a cd)).mark (some (.ref e))) (envOf name scope L a cd) n pos (notedBy (model prog w) ((A.deeper (envOf name scope L a cd)).mark (some (.ref e))) (envOf name scope L a cd) (cameBackBy (model prog w) (A.deeper (envOf name scope L a cd)) (envOf name scope L a cd) E)))
        { s' with heap := h', toks := tk })
    (hk : scope.kind = .function) (hlo : (envOf name scope L a cd).kindOf n = some .local) (hx : (envOf name scope L a cd).kindOf x = some .globalImplicit) (hd : (x == ("__debug__" : Str)) = false) :
    wpAny (model prog w) (A.deeper (envOf name scope L a cd)) (noteFrame (.ref e) (envOf name scope L a cd))
      (fun _ s₂ => wpAny (model prog w) (A.deeper (envOf name scope L a cd)) (setFlight (.ref e) none) (fun _ s₃ =>
        wpAny (model prog w) (A.deeper (envOf name scope L a cd)) (handleBy (.ref e) (envOf name scope L a cd) (.ExceptHandler (some (.Name x np)) (some n) (b₀ :: suite) pos :: rest)) Q E s₃) E s₂) E s' := by
  (refine Mine.ex1 R fun B om0 => Mine.an6 om0 fun B1 BD fD fe xx u => ?_; clear om0; (try clear R))
  have fr : ∀ b, b ∈ (envOf name scope L a cd :: [ev]).filterMap (·.frame) → b = L ∨ b = Lc := fun b hm => by
    rcases List.mem_cons.mp (show b ∈ L :: [ev].filterMap (·.frame) from hm) with y | hm
    · exact .inl y
    · rw [List.filterMap_cons, hev] at hm
      rcases List.mem_cons.mp hm with y | hm
      · exact .inr y
      · cases hm
  have B0 : h₀.StaysIn B := fun b o z => B1 b o (hs b o z) fun hm => by
    rcases fr b hm with y | y
    · exact absurd (Heap.lt_size z) (by rw [y]; exact Nat.not_lt.mpr hL)
    · rw [y, hl] at z; cases z
  have no : ∀ b, h.get? b = none → h₀.get? b = none := fun b y => by
    cases z : h₀.get? b with
    | none => rfl
    | some o => rw [hs b o z] at y; cases y
  (refine Mine.ex3 F.ns fun oF esF epF om0 => Mine.an2 om0 fun hoF _ => ?_; clear om0)
  refine noteNextD (Around.frames_deeper K.stack) rfl xx fun h₄ x₄ u₄ => ?_
  refine setFlightD x₄ fun h₅ x₅ u₅ => ?_
  have F₀ : Fr h₀ L h m := ⟨F.ns, hs, hL⟩
  have F₅ : Fr h₀ L h₅ m := F₀.of_stays (fun b o z => x₅.1 b o (B0 b o z)) ((u.trans u₄).trans u₅)
  have X₅ := X.keeps F₅.keep
  (refine Mine.ex5 x₅.2.2.2 fun oe vs Tr oT ts om0 => Mine.an4 om0 fun he on6 hev' _ => ?_; clear om0; obtain ⟨hec, hed⟩ := on6)
  refine wpAny_handleBy_cons (codeAny_handlers_test (name_K F₅ X T ex ?_ hk hx hd)) (by intro q; cases q)
  (refine Mine.ex10 (exc_of_in X₅ q) fun nm qn N' bs bm hdct sn sub ab col om0 => Mine.ex6 om0 fun dd k0 k1 k2 k3 k5 om1 => Mine.an2 om1 fun hC hb => ?_; clear om0 om1)
  refine wpAny_excMatches_sub_self hC he hec ((hb _).trans (by decide)) (codeAny_handlers_suite_as ?_)
  refine setFlightD x₅ fun h₆ x₆ u₆ => ?_
  have uu := ((u.trans u₄).trans u₅).trans u₆
  have F₆ : Fr h₀ L h₆ m := F₀.of_stays (fun b o z => x₆.1 b o (B0 b o z)) uu
  (refine Mine.ex5 x₆.2.2.2 fun oe' vs' Tr' oT' ts' om0 => Mine.an4 om0 fun he' on6 hev'' _ => ?_; clear om0; obtain ⟨hec', hed'⟩ := on6)
  (refine Mine.ex1 (uu _ _ hoc hocd) fun sl hsl => ?_)
  have NN : News h₀ L h₆ ((e, oe') :: (D, oD) :: (Lc, { oc with slots := sl }) :: news) := fun r hr => by
    rcases List.mem_cons.mp hr with rfl | hr
    · exact ⟨he', (fun z => by rw [show e = L from z, hoF] at fe; cases fe), no _ fe⟩
    rcases List.mem_cons.mp hr with rfl | hr
    · exact ⟨x₆.1 _ _ BD, (fun z => by rw [show D = L from z, hoF] at fD; cases fD), no _ fD⟩
    rcases List.mem_cons.mp hr with rfl | hr
    · exact ⟨hsl, hLc, hl⟩
    · (refine Mine.an4 (N r hr) fun n1 n2 n3 n4 => ?_)
      exact ⟨x₆.1 _ _ (B1 _ _ n1 fun hm => (fr _ hm).elim n2 n4), n2, n3⟩
  refine stN F₆ NN (fun h₇ F₇ N₇ => ?_) hk hlo
  exact k h₇ _ oe' vs' sl F₇ N₇ hec' hed' hev''
end
end Mine
end
/- RB -/
section
open PySem PySem.W PyProof.Rows PySem.Calls PySem.Spec
namespace Mine
set_option maxRecDepth 100000
set_option maxHeartbeats 4000000
namespace F
theorem slot_wrapper_get : Slot "wrapper_descriptor" "__get__" "wrapper_descriptor.__get__" := .of (owner := "wrapper_descriptor") (n := "__get__") (by rw [typeLookup_type, builtinLookup_eq_fast]; kernel_rfl) (by decide +kernel) (by decide +kernel) (by decide +kernel)
  (by first | exact .inl (by decide +kernel) | exact .inr (by decide +kernel)) (by rw [isSubtype_type]; kernel_rfl)
theorem entry_wrapper_get : entryFor table "wrapper_descriptor.__get__" = some Builtin.«wrapper_descriptor.__get__» := entryFor_of_tree (by kernel_rfl)
theorem args_wrapper (a b c : Value) : argsOk "wrapper_descriptor.__get__" ⟨[a, b, c], []⟩ := by unfold argsOk; kernel_rfl
end F
section
variable {prog : Program} {w : World} {M : Model} {A : Around} {E : Value → Shared → Prop} {R : Result → Shared → Prop} {h : Heap} {g : Array GenState} {d : Drawn} {t : Nat} {os : OsState}
variable {nm q : Str} {C N : Addr} {bs bm bmB : List Value} {hdct : Bool} {sn : List Str} {sub : List Value} {ab : Bool} {col : Option Bool} {dd : Option Addr} {k0 k1 k2 k3 k5 : Option Value} {B newId initId : String}
theorem check_newX (F : ExcBaseFacts B newId initId bmB) (T : Above bm bmB) {rest : List Value} {Q : Unit → Shared → Prop} (hC : h.get? C = some (excClassObj nm q C N bs bm hdct sn sub ab col dd k0 k1 k2 k3 k5 newId))
    (hq : Q () ⟨h, g, d, t, os⟩) : wpAny M A (checkBuiltinCall newId ⟨.ref C :: rest, []⟩) Q E ⟨h, g, d, t, os⟩ := by
  have hcont : (Value.ref C :: bm).contains (.type B) = true := by rw [List.contains_cons, T, F.hasB, Bool.or_true]
  have hstar := F.noStar
  simp only [checkBuiltinCall, F.newKind, F.newSplit, F.newRow]
  repeat (first | refine wpAny_loadPart_at hC ?_ | (refine wpAny_isSubtype_exc hC ?_; rw [hcont]) | refine wpAny_staticBase_exc hC ?_ | refine wpAny_madeBy_exc hC ?_ | simp only [bne_self_eq_false, Bool.false_eq_true, if_false] | wp_step)
  exact hq
theorem newX (F : ExcBaseFacts B newId initId bmB) (T : Above bm bmB) {rest : List Value} (hC : h.get? C = some (excClassObj nm q C N bs bm hdct sn sub ab col dd k0 k1 k2 k3 k5 newId))
    (hq : R (.ok (.ret (.ref (h.objs.size + 1)))) ⟨(h.push { cls := .type "tuple", data := .seq rest.toArray }).push
      { cls := .ref C, data := .fields #[.ref h.objs.size, .none, .none, .none, .bool false, .none] }, g, d, t, os⟩) (hrest : rest.length ≤ sizeLine) :
    codeAny (model prog w) A (.builtin newId ⟨.ref C :: rest, []⟩) R ⟨h, g, d, t, os⟩ := by
  have hends := F.ends
  have hcB : (Value.ref C :: bm).contains (.type B) = true := by rw [List.contains_cons, T, F.hasB, Bool.or_true]
  have hcA : (Value.ref C :: bm).contains (.type "AttributeError") = false := by rw [List.contains_cons, T, F.noAttr]; rfl
  have hcN : (Value.ref C :: bm).contains (.type "NameError") = false := by rw [List.contains_cons, T, F.noName]; rfl
  refine codeAny_builtinAt F.entry ?_
  unfold Builtin.«BaseException.__new__»
  refine PySem.wpAt_bind ?_
  show PySem.wpAt _ _ _ (stack >>= _) _ _ _
  refine PySem.wpAt_bind (PySem.wpAt_stack fun p below => PySem.wpAt_of_wpAny ?_)
  wp_walk
  refine PySem.wpAt_of_wpAny ?_
  rw [F.owner]
  repeat (first | with_reducible refine wpAny_madeHere_exc F.canon hC ?_ | with_reducible refine wpAny_loadPart_at hC ?_ | (with_reducible refine wpAny_isSubtype_exc hC ?_; first | rw [hcB] | rw [hcA] | rw [hcN]) | wp_step)
  show R _ _
  rw [Heap.size_push]
  exact hq
noncomputable abbrev excObj (C t : Addr) (D : Option Addr) : Obj := { cls := .ref C, dict := D, data := .fields #[.ref t, .none, .none, .none, .bool false, .none] }
noncomputable abbrev tupObj (l : List Value) : Obj := { cls := .type "tuple", data := .seq l.toArray }

theorem type_callX (F : ExcBaseFacts B newId initId bmB) (T : Above bm bmB) {rest : List Value} {fI : Addr} {oI : Obj} {Q : Fin → Shared → Prop}
    (hC : h.get? C = some (excClassObj nm q C N bs bm hdct sn sub ab col dd k0 k1 k2 k3 k5 newId)) (hi : ∀ M, Looks M h (typeLookup (.ref C) "__init__") (some (.ref fI)))
    (hfI : h.get? fI = some oI) (hfc : oI.cls = .type "function")
    (hq : wpAny (model prog w) A (call (.ref fI) (.ref (h.objs.size + 1) :: rest)) (fun r s' => r = .none ∧ Q (.done (.ret (.ref (h.objs.size + 1)))) s') E ⟨(h.push (tupObj rest)).push (excObj C h.objs.size none), g, d, t, os⟩) (hrest : rest.length ≤ sizeLine) :
    wpAny (model prog w) A (Builtin.«type.__call__» ⟨.ref C :: rest, []⟩) Q E ⟨h, g, d, t, os⟩ := by
  repeat (first | with_reducible refine wpAny_loadPart_at hC ?_ | with_reducible refine wpAny_madeBy_exc hC ?_ | wp_step)
  refine codeAny_call_builtin_code (Code.quiet_builtin _ F.quiet) (check_newX F T hC ?_)
  refine newX F T hC ?_ hrest
  show wpAny _ _ _ _ _ _
  have hC₁ := Heap.get?_push_of_some (excObj C h.objs.size none) (Heap.get?_push_of_some (tupObj rest) hC)
  have hfI₁ := Heap.get?_push_of_some (excObj C h.objs.size none) (Heap.get?_push_of_some (tupObj rest) hfI)
  have hget : ((h.push (tupObj rest)).push (excObj C h.objs.size none)).get? (h.objs.size + 1) = some (excObj C h.objs.size none) := by heap_get
  have hi₁ := (hi (model prog w)).keeps fun b o e => Heap.get?_push_of_some (excObj C h.objs.size none) (Heap.get?_push_of_some (tupObj rest) e)
  have hcC : (Value.ref C :: bm).contains (.ref C) = true := by simp
  unfold isInstance
  repeat (first | with_reducible refine wpAny_loadPart_at hget ?_ | (with_reducible refine wpAny_isSubtype_exc hC₁ ?_; rw [hcC]) | wp_step)
  show wpAny _ _ (typeLookup (.ref C) _) _ _ _
  refine hi₁.at ?_
  refine wpAny_holding (wpAny_bind ?_)
  unfold bindSpecial
  refine wpAny_bind (wpAny_typeOf (T := "function") ⟨_, hfI₁, hfc⟩ ?_)
  rw [if_pos (by decide)]
  refine wpAny_pure (wpAny_bind (wpAny_mono hq (fun r s' hr => ?_) fun _ _ x => x))
  (refine Mine.an2 hr fun oq0 hQ => ?_; (try clear hr); subst oq0)
  wp_walk
  exact hQ

theorem call_excX (F : ExcBaseFacts B newId initId bmB) (T : Above bm bmB) {rest : List Value} {fI : Addr} {oI : Obj} {Q : Value → Shared → Prop}
    (hC : h.get? C = some (excClassObj nm q C N bs bm hdct sn sub ab col dd k0 k1 k2 k3 k5 newId)) (hi : ∀ M, Looks M h (typeLookup (.ref C) "__init__") (some (.ref fI)))
    (hfI : h.get? fI = some oI) (hfc : oI.cls = .type "function")
    (hq : wpAny (model prog w) (A.under (.builtin "type.__call__" ⟨.ref C :: rest, []⟩)) (call (.ref fI) (.ref (h.objs.size + 1) :: rest)) (fun r s' => r = .none ∧ Q (.ref (h.objs.size + 1)) s') E ⟨(h.push (tupObj rest)).push (excObj C h.objs.size none), g, d, t, os⟩) (hrest : rest.length ≤ sizeLine) :
    wpAny (model prog w) A (call (.ref C) rest) Q E ⟨h, g, d, t, os⟩ := by
  have f1 := tc_lookup
  have f2 := tc_bind (.ref C)
  have hT : (⟨h, g, d, t, os⟩ : Shared).TypeIs (.ref C) "type" := ⟨_, hC, rfl⟩
  refine wpAny_call (codeAny_of_tree ?_)
  show wpAny _ _ (callAny (.ref C) _) _ _ _
  repeat (any_goals (first | assumption | with_reducible refine wpAny_loadPart_at hC ?_ | wp_step))
  refine ⟨rfl, ?_⟩
  refine codeAny_call_builtin_at (Code.quiet_builtin _ (by decide +kernel)) entry_typeCall (wpAny_check_type_call_sub hC (type_callX F T hC hi hfI hfc ?_ hrest))
  exact hq
end
end Mine
end
/- RC -/
section
open PySem PySem.W PyProof.Rows PySem.Calls PySem.Spec
namespace Mine
set_option maxRecDepth 100000
set_option maxHeartbeats 4000000
section
variable {prog : Program} {w : World} {M : Model} {A : Around} {E : Value → Shared → Prop} {R : Result → Shared → Prop} {h : Heap} {g : Array GenState} {d : Drawn} {t : Nat} {os : OsState}
variable {C : Addr}
noncomputable abbrev mwObj (e : Addr) : Obj := { cls := .type "method-wrapper", data := .fields #[.builtin "Exception.__init__", .ref e] }
theorem exc_type : typeOf (.builtin "Exception.__init__") = pure (.type "wrapper_descriptor") := by kernel_rfl
theorem get_superX {so D x : Addr} {ox : Obj} {l₀ l : List Value} {K : Frag} {pl : Sem Bool} {Q : Value × List Value → Shared → Prop}
    (hso : h.get? so = some { cls := .type "super", dict := none, data := .fields #[.ref D, .ref x, .ref C], slots := #[] }) (hno : Looks (model prog w) h (opaqueClassAbove (.ref C)) none)
    (hm : Looks (model prog w) h (mroOf (.ref C)) l₀) (hl : (l₀.dropWhile (· != .ref D)).drop 1 = l) (X : K.In h)
    (hf : alongIn K "__init__" l = some (some (.builtin "Exception.__init__"))) (hx : h.get? x = some ox) (hxc : ox.cls = .ref C) (hsub : Looks (model prog w) h (isSubtype (.ref C) (.type "Exception")) true) (hxC : x ≠ C)
    (hq : Q (.ref h.objs.size, []) ⟨h.push (mwObj x), g, d, t + 1, os⟩) :
    wpAny (model prog w) A (getMethod (.ref so) "__init__" pl) Q E ⟨h, g, d, t, os⟩ := by
  have hlk := PySem.F.ks_slot_super_ga.lookup
  have hcan := PySem.F.ks_canon_super_ga
  have hT : ∀ t', (⟨h, g, d, t', os⟩ : Shared).TypeIs (.ref so) "super" := fun _ => ⟨_, hso, rfl⟩
  unfold getMethod
  refine wpAny_bind (wpAny_specialOf (hT _) hlk ?_)
  show wpAny _ _ (if (Manifest.canonical "super.__getattribute__" != "object.__getattribute__") = true then _ else _) _ _ _
  rw [if_pos hcan]
  unfold getAttr getAttrBy
  refine wpAny_bind (wpAny_bind (wpAny_mkText (wpAny_holding (wpAny_bind (wpAny_typeOf (hT _) (wpAny_bind (wpAny_of_eq hlk ?_)))))))
  show wpAny _ _ (getAttrByItsOwn (.ref so) (.str "__init__" t) (.type "super") (.builtin "super.__getattribute__") true false) _ _ _
  unfold getAttrByItsOwn hookBefore callGetattribute boundAndCalled
  refine wpAny_bind (wpAny_of_eq (show (if onTheHeap (.type "super") then typeLookup (.type "super") "__getattr__" else pure none) = pure none from rfl) ?_)
  refine wpAny_bind (wpAny_attempt (wpAny_holding ?_))
  show wpAny _ _ (bindSpecial (.builtin "super.__getattribute__") (.ref so) >>= _) _ _ _
  refine wpAny_bind (wpAny_of_eq (PySem.F.ks_slot_super_ga.bind _) ?_)
  refine wpAny_mono (Q := fun v s' => v = .ref h.objs.size ∧ s' = ⟨h.push (mwObj x), g, d, t + 1, os⟩) (E := fun _ _ => False)
    (wpAny_call_entry PySem.F.ks_slot_super_ga (hT _) PySem.F.ks_entry_super_ga (?_) (PySem.F.ks_gaArgs_super _ _)) (fun v s' hv => ?_) fun _ _ z => z.elim
  · have hne : (Value.ref x == Value.ref C) = false := by simp [hxC]
    have g0 := looks_field (M := model prog w) hso 0 (v := .ref D) rfl
    have g1 := looks_field (M := model prog w) hso 1 (v := .ref x) rfl
    have g2 := looks_field (M := model prog w) hso 2 (v := .ref C) rfl
    have hTw : ∀ t', (⟨h, g, d, t', os⟩ : Shared).TypeIs (.builtin "Exception.__init__") "wrapper_descriptor" := fun _ => by exact exc_type
    have hown : ".".intercalate ("Exception.__init__".cutAt '.').dropLast = "Exception" := by decide +kernel
    unfold Builtin.«super.__getattribute__»
    have hlg : Looks (model prog w) h (typeLookup (.type "wrapper_descriptor") "__get__") (some (.builtin "wrapper_descriptor.__get__")) := Looks.of_pure F.slot_wrapper_get.lookup
    have hty : Looks (model prog w) h (typeOf (.builtin "Exception.__init__")) (.type "wrapper_descriptor") := Looks.of_pure exc_type
    have hin : Looks (model prog w) h (isInstance (.ref x) (.type "Exception")) true := ((Looks.ld hx).andThen (by rw [hxc]; exact .now)).andThen hsub
    repeat (first | (with_reducible refine Looks.at hm ?_; rw [hl]) | (refine ks_forIn_along X (fun _ _ => rfl) rfl ?_ hf) | (with_reducible refine wpAny_call_entry F.slot_wrapper_get (hTw _) F.entry_wrapper_get ?_ (F.args_wrapper _ _ _)) | lk)
    simp only [hne, Bool.false_eq_true, if_false, show (Value.ref x == Value.none) = false from rfl, show (Value.ref C == Value.none) = false from rfl, Option.isNone_some, Bool.false_and]
    refine wpAny_bind (wpAny_pure ?_)
    have hsub' : Looks (model prog w) h (isSubtype ox.cls (.type (".".intercalate ("Exception.__init__".cutAt '.').dropLast))) true := by rw [hown, hxc]; exact hsub
    have hinst : Looks (model prog w) h (isInstance (.ref x) (.type (".".intercalate ("Exception.__init__".cutAt '.').dropLast))) true := ((Looks.ld hx).andThen .now).andThen hsub'
    repeat lk
    exact ⟨_, rfl, wpAny_bind (wpAny_pure (wpAny_pure (wpAny_pure ⟨_, rfl, rfl, rfl⟩)))⟩
  · (refine Mine.an2 hv fun oq0 oq1 => ?_; (try clear hv); subst oq0; subst oq1)
    exact wpAny_pure (wpAny_pure hq)
end
section
variable {prog : Program} {w : World} {A : Around} {E : Value → Shared → Prop} {s : Shared} {h₀ : Heap} {L C e tO u : Addr} {m : Str → Option Value} {news : List (Addr × Obj)}
theorem callWith_at {pos : Pos} {M : Model} {first : List Value} {args : List (Bool × Sem Value)} {Q : Value → Shared → Prop} (hplain : args.any (·.1) = false)
    (h : wpAny M A (evalArgs (.ref u) true args []) (fun x s₁ => s₁.heap.get? u = some (mwObj e) ∧ wpAny M A (call (.ref u) (first ++ x.pos) x.kw) Q E s₁) E s) : wpAny M A (callWith pos (.ref u) first args []) Q E s := by
  unfold callWith
  refine wpAny_bind (wpAny_holding (wpAny_mono h (fun x s₁ h₁ => wpAny_bind (wpAny_standAt ?_)) fun _ _ x => x))
  (refine Mine.an2 h₁ fun ho hcall => ?_; (try clear h₁))
  simp only [hplain, List.any_nil, Bool.or_false]
  refine wpAny_bind (m := keeperOf (.ref u)) ?_
  unfold keeperOf
  refine wpAny_bind (wpAny_load ho ?_)
  simp only [show (Value.type "method-wrapper" != Value.type "method") = true by decide, show (Value.type "method-wrapper" == Value.type "builtin_function_or_method" || Value.type "method-wrapper" == Value.type "method-wrapper") = true by decide, if_true]
  refine wpAny_pure ?_
  exact wpAny_bind (wpAny_mono hcall (fun r s₂ hr => wpAny_bind (wpAny_holding (wpAny_point (wpAny_pure hr)))) fun _ _ x => x)
theorem callWith_mw {pos : Pos} {M : Model} {first : List Value} {env : Env} {x : Expr} {rest : List Expr} {Q : Value → Shared → Prop} (_N : News h₀ L s.heap news) (_hm : (u, mwObj e) ∈ news)
    (h : wpAny M A (spliced (backTo pos (starEach (x :: rest) env))) (fun vs s₁ => s₁.heap.get? u = some (mwObj e) ∧ wpAny M A (call (.ref u) (first ++ vs)) Q E s₁) E s)
    (he : starEach (x :: rest) env = (false, eval x env) :: starEach rest env) (hplain : (backTo pos (starEach rest env)).any (·.1) = false) :
    wpAny M A (callWith pos (.ref u) first (backTo pos (starEach (x :: rest) env)) []) Q E s := by
  rw [he] at h ⊢
  refine callWith_at (e := e) (by show (false || (backTo pos (starEach rest env)).any (·.1)) = false; rw [hplain]; rfl) ?_
  exact evalArgs_plain h
end
section
variable {prog : Program} {w : World} {M : Model} {A : Around} {E : Value → Shared → Prop} {h : Heap} {g : Array GenState} {d : Drawn} {t : Nat} {os : OsState}
variable {nm q : Str} {C N : Addr} {bs bm bmB : List Value} {hdct : Bool} {sn : List Str} {sub : List Value} {ab : Bool} {col : Option Bool} {dd : Option Addr} {k0 k1 k2 k3 k5 : Option Value} {newId : String}
theorem bound_check {e : Addr} {oe : Obj} {rest : List Value} {Q : Unit → Shared → Prop} 
    (hC : h.get? C = some (excClassObj nm q C N bs bm hdct sn sub ab col dd k0 k1 k2 k3 k5 newId)) (he : h.get? e = some oe) (hcls : oe.cls = .ref C) (hq : Q () ⟨h, g, d, t, os⟩) :
    wpAny M A (checkBoundCall "Exception.__init__" ⟨.ref e :: rest, []⟩) Q E ⟨h, g, d, t, os⟩ := by
  have FB := PySem.F.excBase_Exception
  unfold checkBoundCall
  rw [FB.initRow, FB.initKind]
  simp only [show (Manifest.AttrKind.slot != Manifest.AttrKind.method && Manifest.AttrKind.slot != Manifest.AttrKind.classMethod) = true from rfl, if_true]
  repeat (first | (with_reducible refine wpAny_loadPart_at he ?_; rw [hcls]) | with_reducible refine wpAny_loadPart_at hC ?_ | wp_step)
  refine wpAny_onRaise ?_
  rw [show ∀ (a b : String) (n : Nat), Bind.check ⟨.positional, "*", "Exception", .self, [⟨"args", .varPos, false⟩]⟩ a b n (List.map (fun x => x.fst) ({ pos := Value.ref e :: rest } : Args).kw) = pure () from
    fun a b n => check_star_args _ _ _ _ _ _]
  exact wpAny_pure hq
end
section
variable {prog : Program} {w : World} {A : Around} {E : Value → Shared → Prop} {s : Shared} {h₀ : Heap} {L C e tO u : Addr} {m : Str → Option Value} {news : List (Addr × Obj)} {K : Frag} {newId : String}
theorem call_mw {v : Value} {Q : Value → Shared → Prop} {news' : Addr → List (Addr × Obj)} (F : Fr h₀ L s.heap m) (X₀ : K.In h₀) (N : News h₀ L s.heap news) (hq : (u, mwObj e) ∈ news) (U : ∀ t, Upd e (excObj C tO none) (excObj C t none) news (news' t)) (qx : excIn2 K C newId)
    (h : ∀ h' t, Fr h₀ L h' m → News h₀ L h' ((t, tupObj [v]) :: news' t) → (∀ p ∈ news, p.1 < t) → Q .none { s with heap := h' }) : wpAny (model prog w) A (call (.ref u) [v]) Q E s := by
  have FB := PySem.F.excBase_Exception
  (refine Mine.ex10 (exc_of_in (X₀.keeps F.keep) qx) fun nm qn N' bs bm hdct sn sub ab col om0 => Mine.ex6 om0 fun dd k0 k1 k2 k3 k5 om1 => Mine.an2 om1 fun hC _ => ?_; clear om0 om1)
  (refine Mine.ex2 ((U 0).split) fun pre post om0 => Mine.an4 om0 fun hn _ h1 h2 => ?_; clear om0)
  have he0 : s.heap.get? e = some (excObj C tO none) := (N (e, excObj C tO none) (by rw [hn]; simp)).1
  obtain ⟨hh, g, d, t, os⟩ := s
  refine wpAny_call (codeAny_of_tree ?_)
  show wpAny _ A.in1 (callAny (.ref u) ⟨[v], []⟩) _ _ _
  simp only [callAny]
  refine wpAny_bind (wpAny_load (N _ hq).1 ?_)
  simp only [show (Value.type "method-wrapper" == Value.type "method" || Value.type "method-wrapper" == Value.type "builtin_function_or_method" || Value.type "method-wrapper" == Value.type "method-wrapper") = true by decide, if_true]
  show wpAny _ _ (if (Value.type "method-wrapper" != Value.type "method") = true then _ else _) _ _ _
  rw [if_pos (by decide)]
  refine wpAny_bind (bound_check hC he0 rfl ?_)
  refine wpAny_pure ⟨Code.quiet_builtin _ (by decide +kernel), codeAny_builtin FB.initEntry ?_⟩
  have N1 := News.push F N (tupObj [v])
  have F1 := F.push (tupObj [v])
  have he : (hh.push (tupObj [v])).get? e = some (excObj C tO none) := (N1 (e, excObj C tO none) (by rw [hn]; simp)).1
  (refine Mine.ex2 ((U hh.objs.size).split) fun pre post om0 => Mine.an4 om0 fun hn hn' h1 h2 => ?_; clear om0)
  have hlt : ∀ p ∈ news, p.1 < hh.objs.size := fun p hp => Heap.lt_size (N p hp).1
  have N2 : News h₀ L (hh.push (tupObj [v])) (((hh.objs.size, tupObj [v]) :: pre) ++ (e, excObj C tO none) :: post) := by rw [List.cons_append, ← hn]; exact N1
  obtain ⟨F3, N3⟩ := news_upd (f := Obj.mapFields fun x => x.setIfInBounds 0 (Value.ref hh.objs.size)) F1 N2 (fun p hp => by
    rcases List.mem_cons.mp hp with rfl | hp
    · exact Nat.ne_of_gt (hlt (e, excObj C tO none) (by rw [hn]; simp))
    · exact h1 p hp) h2 (o' := excObj C hh.objs.size none) rfl rfl
  unfold Builtin.«BaseException.__init__»
  wp_walk
  refine h _ hh.objs.size F3 (fun p hp => N3 p ?_) hlt
  rw [hn'] at hp
  exact hp
end
end Mine
end
/- RD -/
section
open PySem PySem.W PyProof.Rows PySem.Calls PySem.Spec Builtin Builtin.ObjectAttr
namespace Mine
set_option maxRecDepth 100000
set_option maxHeartbeats 4000000
noncomputable def AttrObj (o : Obj) (mA : Str → Option Value) : Prop := ∃ es ep, o.data = .dict es ep ∧ StrKeys es ∧ UniqKeys es ∧ ∀ n, nsFind es n = mA n
theorem attr_ns {h : Heap} {D : Addr} {o : Obj} {mA : Str → Option Value} (e : h.get? D = some o) (x : AttrObj o mA) : h.Ns1 D mA := let ⟨es, ep, r⟩ := x; ⟨o, es, ep, e, r⟩
theorem ns_attr {h : Heap} {D : Addr} {mA : Str → Option Value} (x : h.Ns1 D mA) : ∃ o, h.get? D = some o ∧ AttrObj o mA := let ⟨o, es, ep, e, r⟩ := x; ⟨o, e, es, ep, r⟩
noncomputable def plainExc (K : Frag) (C : Addr) : Bool := (clsIn K C).any fun cd => aboveIn excs cd.mro && cd.hasDict
theorem excs_refuse (self : Value) : ∀ {l : List Value}, aboveIn excs l = true → refuseLoop self "__setattr__" l = pure ()
  | .ref c :: r, e => by rw [refuseLoop_ref]; exact excs_refuse self (l := r) e
  | [], e => by rw [beq_iff_eq.mp (show ([] == excs) = true from e)]; exact PySem.F.store_Exception.passes self
  | .type a :: r, e => by rw [beq_iff_eq.mp (show ((Value.type a :: r) == excs) = true from e)]; exact PySem.F.store_Exception.passes self
  | .int _ _ :: r, e => by rw [beq_iff_eq.mp (show ((_ :: r) == excs) = true from e)]; exact PySem.F.store_Exception.passes self
  | v :: r, e => by cases v <;> first | (rw [beq_iff_eq.mp (show ((_ :: r) == excs) = true from e)]; exact PySem.F.store_Exception.passes self) | (rw [refuseLoop_ref]; exact excs_refuse self (l := r) e)
section
variable {prog : Program} {w : World} {A : Around} {E : Value → Shared → Prop} {R : Result → Shared → Prop} {s : Shared} {h₀ : Heap} {L C e t x D : Addr} {m : Str → Option Value} {news : List (Addr × Obj)} {K : Frag} {name : Str} {v : Value} {oD : Obj} {mA : Str → Option Value}
theorem InstAt.exc0 {h : Heap} (N : News h₀ L h news) (h1 : (x, excObj C t none) ∈ news) : InstAt h x (excObj C t none) C none := ⟨(N _ h1).1, rfl, rfl, trivial⟩
theorem InstAt.exc1 {h : Heap} (N : News h₀ L h news) (h1 : (x, excObj C t (some D)) ∈ news) (h2 : (D, oD) ∈ news) : InstAt h x (excObj C t (some D)) C (some oD) := ⟨(N _ h1).1, rfl, rfl, (N _ h2).1⟩
theorem osa_openX {ox : Obj} {od : Option Obj} {tk : Tok} (X : K.In s.heap) (I : InstAt s.heap x ox C od) (hp : plainExc K C = true) (ht : takerIn K C name = some none)
    (h : ∀ b, wpAny (model prog w) A.in1 (storeInOwnDict (.ref x) (.ref C) (.str name tk) name v b)
      (fun fin s' => match fin with | .done f => R (.ok f) s' | .again c' => c'.quiet = true ∧ codeAny (model prog w) A c' R s') (fun e s' => R (.error e) s') s) :
    codeAny (model prog w) A (.call (.builtin "object.__setattr__") ⟨[.ref x, .str name tk, v], []⟩) R s := by
  have SF := PySem.F.store_object
  (refine Mine.ex1 (any_some hp) fun cd om0 => Mine.an2 om0 fun hc ho => ?_; clear om0)
  simp only [Bool.and_eq_true] at ho
  have ab := above_of ho.1
  have ne : cd.mro.isEmpty = false := by cases q : cd.mro with | nil => have := ho.1; rw [q] at this; cases this | cons _ _ => rfl
  have sub : Looks (model prog w) s.heap (isInstance (.ref x) (.type "object")) true := I.type.andThen (looks_mroIn X (by unfold mroIn; rw [hc, Option.bind_some, if_neg (by rw [ne]; decide), ab]; rfl))
  refine codeAny_call_builtin SF.slot.plain SF.entry (@check_slot (model prog w) _ _ s "object.__setattr__" "object" "__setattr__" (.ref x) [.str name tk, v] [] _ SF.kind SF.split sub (SF.args (.ref x) (.str name tk) v) ?_)
  (refine Mine.ex1 (Option.bind_eq_some_iff.mp ht) fun attr om0 => Mine.an2 om0 fun ha hr => ?_; clear om0)
  have hm : Looks (model prog w) s.heap (mroOf (.ref C)) cd.mro := (looks_clsIn X hc).andThen .now
  have L3 : Looks (model prog w) s.heap (storeTaker? attr) none := by
    cases attr with
    | none => exact .now
    | some a =>
      (refine Mine.ex1 (Option.map_eq_some_iff.mp hr) fun b om0 => Mine.an2 om0 fun hb hr => ?_; clear om0)
      refine (looks_takesIn X hb).andThen ?_
      cases b
      · exact .now
      · cases hr
  rw [osa_eq, refuse_eq]
  refine wpAny_bind (wpAny_bind (I.type.here (wpAny_bind (hm.here ?_))))
  rw [excs_refuse _ ho.1]
  refine wpAny_pure (wpAny_bind (I.type.here (wpAny_bind ((looks_findIn X ha).here (wpAny_bind (L3.here ?_))))))
  exact h _
theorem set_exc_new {Q : Unit → Shared → Prop} {news' : Addr → List (Addr × Obj)} (F : Fr h₀ L s.heap m) (X₀ : K.In h₀) (N : News h₀ L s.heap news) (U : ∀ D, Upd x (excObj C t none) (excObj C t (some D)) news (news' D))
    (hs : findIn K (.ref C) "__setattr__" = some (some (.builtin "object.__setattr__"))) (hp : plainExc K C = true) (ht : takerIn K C name = some none)
    (h : ∀ h' tk D oD, Fr h₀ L h' m → News h₀ L h' ((D, oD) :: news' D) → (∀ p ∈ news, p.1 < D) → AttrObj oD (fun y => if y = name then some v else none) → Q () { s with heap := h', toks := tk }) :
    wpAny (model prog w) A (setAttr (.ref x) name v) Q E s := by
  (refine Mine.ex2 ((U 0).split) fun pre post om0 => Mine.an4 om0 fun hn _ h1 h2 => ?_; clear om0)
  have hm : (x, excObj C t none) ∈ news := by rw [hn]; simp
  have X := X₀.keeps F.keep
  have I := InstAt.exc0 N hm
  (refine Mine.ex1 (any_some hp) fun cd om0 => Mine.an2 om0 fun hc ho => ?_; clear om0)
  simp only [Bool.and_eq_true] at ho
  refine set_plain X I hs (osa_openX (s := { s with toks := s.toks + 1 }) X I hp ht fun b => ?_)
  have hx := (N _ hm).1
  obtain ⟨hh, g, d, tk, os⟩ := s
  refine wpAny_bind (wpAny_pure (wpAny_bind (wpAny_bind (wpAny_loadPart hx (wpAny_bind (Looks.at (looks_clsIn (h := hh) X hc) ?_))))))
  rw [ho.2]
  show wpAny _ _ (do let d ← alloc { cls := .type "dict", data := .dict #[] }; update x fun o => { o with dict := some d }; dictMade (.ref C) x d) _ _ _
  have N1 := News.push F N { cls := .type "dict", data := .dict #[] }
  have F1 := F.push { cls := .type "dict", data := .dict #[] }
  have hx₁ : (hh.push { cls := .type "dict", data := .dict #[] }).get? x = some (excObj C t none) := Heap.get?_push_of_some _ hx
  refine wpAny_bind (wpAny_alloc' ?_)
  refine wpAny_bind (wpAny_update' hx₁ ?_)
  refine wpAny_pure ?_
  (refine Mine.ex2 ((U hh.objs.size).split) fun pre post om0 => Mine.an4 om0 fun hn hn' h1 h2 => ?_; clear om0)
  have hlt : ∀ p ∈ news, p.1 < hh.objs.size := fun p hp => Heap.lt_size (N p hp).1
  have N2 : News h₀ L (hh.push { cls := .type "dict", data := .dict #[] }) (((hh.objs.size, { cls := .type "dict", data := .dict #[] }) :: pre) ++ (x, excObj C t none) :: post) := by rw [List.cons_append, ← hn]; exact N1
  obtain ⟨F3, N3⟩ := news_upd (f := fun o => { o with dict := some hh.objs.size }) F1 N2 (fun p hp => by
    rcases List.mem_cons.mp hp with rfl | hp
    · exact Nat.ne_of_gt (hlt _ hm)
    · exact h1 p hp) h2 (o' := excObj C t (some hh.objs.size)) rfl rfl
  have hnd : ((hh.push { cls := .type "dict", data := .dict #[] }).update x fun o => { o with dict := some hh.objs.size }).Ns hh.objs.size (fun _ => none) :=
    ⟨_, #[], _, (N3 _ (List.mem_append_left _ (.head _))).1, rfl, fun e he => absurd he (by simp), fun _ => rfl⟩
  show wpAny _ _ (storeInDict hh.objs.size (.str name tk) name v) _ _ _
  unfold storeInDict newKeyGuard
  refine wpAny_bind (wpAny_pure (wpAny_bind (wpAny_nsSet1 (Heap.Ns1.of_empty hnd) fun h' hn1 hs' => ?_)))
  (refine Mine.ex3 (hn1.count (Within.cons name v Within.nil)) fun oD esD epD om0 => Mine.an3 om0 fun hoD hdD hcD => ?_; clear om0)
  refine wpAny_bind (wpAny_lookBehind hoD (by rw [hdD]; exact pastItsLine_dict (Nat.le_trans hcD (by rw [List.length_cons, List.length_nil, sizeLine_eq]; (first | lia | omega)))) ?_)
  wp_walk
  (refine Mine.ex1 (ns_attr hn1) fun oD' om0 => Mine.an2 om0 fun hD1 hD2 => ?_; clear om0)
  have hL : L ≠ hh.objs.size := fun z => (N3 (hh.objs.size, { cls := .type "dict", data := .dict #[] }) (List.mem_append_left _ (.head _))).2.1 z.symm
  refine h _ _ hh.objs.size oD' ?_ ?_ hlt hD2
  · exact ⟨F3.ns.sameBut hs' hL, fun b o q => (hs'.2 b (fun z => by have := (N3 (hh.objs.size, { cls := .type "dict", data := .dict #[] }) (List.mem_append_left _ (.head _))).2.2; rw [← z] at this; rw [this] at q; cases q)).trans (F3.keep b o q), F3.above⟩
  · intro p hp
    rcases List.mem_cons.mp hp with rfl | hp
    · exact ⟨hD1, (N3 (hh.objs.size, { cls := .type "dict", data := .dict #[] }) (List.mem_append_left _ (.head _))).2⟩
    · rw [hn'] at hp
      have hp3 : p ∈ (((hh.objs.size, ({ cls := .type "dict", data := .dict #[] } : Obj)) :: pre) ++ (x, excObj C t (some hh.objs.size)) :: post) := List.mem_cons_of_mem _ hp
      have hpn : p.1 ≠ hh.objs.size := by
        rcases List.mem_append.mp hp with hp | hp
        · exact Nat.ne_of_lt (hlt p (by rw [hn]; exact List.mem_append_left _ hp))
        · rcases List.mem_cons.mp hp with rfl | hp
          · exact Nat.ne_of_lt (hlt (x, excObj C t none) hm)
          · exact Nat.ne_of_lt (hlt p (by rw [hn]; exact List.mem_append_right _ (List.mem_cons_of_mem _ hp)))
      exact ⟨(hs'.2 _ hpn).trans (N3 p hp3).1, (N3 p hp3).2⟩
theorem set_exc_old {Q : Unit → Shared → Prop} {news' : Obj → List (Addr × Obj)} {ns : List Str} (F : Fr h₀ L s.heap m) (X₀ : K.In h₀) (N : News h₀ L s.heap news) (hm : (x, excObj C t (some D)) ∈ news) (U : UpdF D oD news news') (ha : AttrObj oD mA) (hw : Within mA ns) (hsz : ns.length < 1000)
    (hs : findIn K (.ref C) "__setattr__" = some (some (.builtin "object.__setattr__"))) (hp : plainExc K C = true) (ht : takerIn K C name = some none)
    (h : ∀ h' tk oD', Fr h₀ L h' m → News h₀ L h' (news' oD') → AttrObj oD' (fun y => if y = name then some v else mA y) → Q () { s with heap := h', toks := tk }) :
    wpAny (model prog w) A (setAttr (.ref x) name v) Q E s := by
  (refine Mine.ex2 U.split fun pre post om0 => Mine.an4 om0 fun hn hn' h1 h2 => ?_; clear om0)
  have hd : (D, oD) ∈ news := by rw [hn]; simp
  have X := X₀.keeps F.keep
  have I := InstAt.exc1 N hm hd
  (refine Mine.ex1 (any_some hp) fun cd om0 => Mine.an2 om0 fun hc ho => ?_; clear om0)
  simp only [Bool.and_eq_true] at ho
  refine set_plain X I hs (osa_openX (s := { s with toks := s.toks + 1 }) X I hp ht fun b => ?_)
  have hx := (N _ hm).1
  have hD := N _ hd
  obtain ⟨hh, g, d, tk, os⟩ := s
  refine wpAny_bind (wpAny_pure (wpAny_bind (wpAny_bind (wpAny_loadPart hx (wpAny_bind (Looks.at (looks_clsIn (h := hh) X hc) ?_))))))
  rw [ho.2]
  refine wpAny_pure (a := some D) ?_
  show wpAny _ _ (storeInDict D (.str name tk) name v) _ _ _
  unfold storeInDict newKeyGuard
  refine wpAny_bind (wpAny_pure (wpAny_bind (wpAny_nsSet1 (attr_ns hD.1 ha) fun h' hn1 hs' => ?_)))
  (refine Mine.ex3 (hn1.count (Within.cons name v hw)) fun oD1 esD epD om0 => Mine.an3 om0 fun hoD hdD hcD => ?_; clear om0)
  refine wpAny_bind (wpAny_lookBehind hoD (by rw [hdD]; exact pastItsLine_dict (Nat.le_trans hcD (by rw [List.length_cons, sizeLine_eq]; (first | lia | omega)))) ?_)
  wp_walk
  (refine Mine.ex1 (ns_attr hn1) fun oD' om0 => Mine.an2 om0 fun hD1 hD2 => ?_; clear om0)
  refine h _ _ oD' ?_ ?_ hD2
  · exact ⟨F.ns.sameBut hs' (fun z => hD.2.1 z.symm), fun b o q => (hs'.2 b (fun z => by have := hD.2.2; rw [← z] at this; rw [show h₀.get? b = none from this] at q; cases q)).trans (F.keep b o q), F.above⟩
  · intro p hp
    rw [hn'] at hp
    rcases List.mem_append.mp hp with hp | hp
    · exact ⟨(hs'.2 _ (h1 p hp)).trans (N p (by rw [hn]; exact List.mem_append_left _ hp)).1, (N p (by rw [hn]; exact List.mem_append_left _ hp)).2⟩
    · rcases List.mem_cons.mp hp with rfl | hp
      · exact ⟨hD1, hD.2⟩
      · exact ⟨(hs'.2 _ (h2 p hp)).trans (N p (by rw [hn]; exact List.mem_append_right _ (List.mem_cons_of_mem _ hp))).1, (N p (by rw [hn]; exact List.mem_append_right _ (List.mem_cons_of_mem _ hp))).2⟩
theorem make_exc {fI : Addr} {rest : List Value} {Q : Value → Shared → Prop} (F : Fr h₀ L s.heap m) (X₀ : K.In h₀) (N : News h₀ L s.heap news) (qx : excIn2 K C "Exception.__new__")
    (hi : findIn K (.ref C) "__init__" = some (some (.ref fI))) (hf : typeIn K (.ref fI) = some (.type "function")) (hrest : rest.length ≤ sizeLine)
    (h : ∀ x t h', Fr h₀ L h' m → News h₀ L h' ((x, excObj C t none) :: (t, tupObj rest) :: news) → (∀ p ∈ news, p.1 < t) → t < x →
      wpAny (model prog w) (A.under (.builtin "type.__call__" ⟨.ref C :: rest, []⟩)) (call (.ref fI) (.ref x :: rest)) (fun r s' => r = .none ∧ Q (.ref x) s') E { s with heap := h' }) :
    wpAny (model prog w) A (call (.ref C) rest) Q E s := by
  have X := X₀.keeps F.keep
  (refine Mine.ex10 (exc_of_in X qx) fun nm qn N' bs bm hdct sn sub ab col om0 => Mine.ex6 om0 fun dd k0 k1 k2 k3 k5 om1 => Mine.an2 om1 fun hC ab' => ?_; clear om0 om1)
  (refine Mine.ex1 (Option.map_eq_some_iff.mp (show (K.lookup fI).map (·.cls) = some (.type "function") from hf)) fun oI om0 => Mine.an2 om0 fun hoI hcI => ?_; clear om0)
  obtain ⟨hh, g, d, tk, os⟩ := s
  have N2 := (N.push F (tupObj rest)).push (F.push _) (excObj C hh.objs.size none)
  rw [Heap.size_push] at N2
  exact call_excX PySem.F.excBase_Exception ab' hC (fun M => looks_findIn X hi) (X _ _ hoI) hcI (h _ _ _ ((F.push _).push _) N2 (fun p hp => Heap.lt_size (N p hp).1) (Nat.lt_succ_self _)) hrest
theorem raise_exc {env : Env} {y : Sem Value} {Q : Flow → Shared → Prop} {newId : String} (qx : excIn2 K C newId) (hh : A.handled = none)
    (h : wpAny (model prog w) A y (fun v s₁ => ∃ e t d, v = .ref e ∧ K.In s₁.heap ∧ s₁.heap.get? e = some (excObj C t d) ∧ E (.ref e) s₁) E s) :
    wpAny (model prog w) A (raiseStmt env (some y) none) Q E s := by
  unfold raiseStmt
  refine wpAny_bind (wpAny_mono h (fun v s₁ h₁ => ?_) fun _ _ x => x)
  (refine Mine.ex3 h₁ fun e t d om0 => Mine.an4 om0 fun oq3 X he hE => ?_; clear om0; (try clear h₁); subst oq3)
  (refine Mine.ex10 (exc_of_in X qx) fun nm qn N' bs bm hdct sn sub ab col om0 => Mine.ex6 om0 fun dd k0 k1 k2 k3 k5 om1 => Mine.an2 om1 fun hC ab' => ?_; clear om0 om1)
  have hcB : (Value.ref C :: bm).contains (.type "BaseException") = true := by rw [List.contains_cons, ab']; rfl
  obtain ⟨hp, g, d, tk, os⟩ := s₁
  repeat (first | with_reducible refine wpAny_loadPart_at he ?_ | with_reducible refine wpAny_loadPart_at hC ?_ | (with_reducible refine wpAny_isSubtype_exc hC ?_; rw [hcB]) | wp_step)
  exact wpAny_raiseNew_none hh hE
end
end Mine
end
/- RE -/
section
open PySem PySem.W PyProof.Rows PySem.Calls PySem.Spec Builtin Builtin.ObjectAttr
namespace Mine
set_option maxRecDepth 100000
set_option maxHeartbeats 4000000
theorem attr_look {o : Obj} {mA : Str → Option Value} {name : Str} {v : Value} (a : AttrObj o mA) (e : mA name = some v) : lookIn name o = some (some v) := by
  (refine Mine.ex2 a fun es ep om0 => Mine.an4 om0 fun hd _ _ hf => ?_; clear om0; (try clear a))
  have := (hf name).trans e
  unfold lookIn
  rw [hd]
  unfold nsFind findBy at this
  rw [← Array.find?_toList] at this
  dsimp only
  cases q : es.toList.find? (·.key.isStr name) with
  | none => rw [q] at this; cases this
  | some en => rw [q] at this; dsimp only; exact congrArg some this
section
variable {prog : Program} {w : World} {A : Around} {E : Value → Shared → Prop} {R : Result → Shared → Prop} {s : Shared} {h₀ : Heap} {L C e t x D : Addr} {m : Str → Option Value} {news : List (Addr × Obj)} {K : Frag} {name : Str} {v : Value} {ox oD : Obj} {mA : Str → Option Value} {vs : Array Value}
theorem InstAt.excD {h : Heap} (N : News h₀ L h news) (h1 : (x, ox) ∈ news) (h2 : (D, oD) ∈ news) (hc : ox.cls = .ref C) (hd : ox.dict = some D) (hv : ox.data = .fields vs) : InstAt h x ox C (some oD) := ⟨(N _ h1).1, hc, by unfold notCls; rw [hv], by rw [hd]; exact (N _ h2).1⟩
theorem bga_kind : builtinKind "BaseException.__getattribute__" = some .slot := by decide +kernel
theorem bga_split : splitId "BaseException.__getattribute__" = some ("BaseException", "__getattribute__") := by decide +kernel
theorem get_exc {expr : Bool} {Q : Value → Shared → Prop} (X : K.In s.heap) (I : InstAt s.heap x ox C (some oD)) (ha : lookIn name oD = some (some v))
    (hg : findIn K (.ref C) "__getattribute__" = some (some (.builtin "BaseException.__getattribute__"))) (hk : findIn K (.ref C) "__getattr__" = some none) (hp : mroIn K C (.type "BaseException") = some true)
    (hh : hasDictIn K C = true) (hn : findIn K (.ref C) name = some none) (hv : handedIn v = true) (h : Q v { s with toks := s.toks + 1 }) : wpAny (model prog w) A (getAttr (.ref x) name expr) Q E s := by
  have FX := PySem.F.attr_Exception
  obtain ⟨hh', g, d, tk, os⟩ := s
  have L0 := I.type (M := model prog w)
  have L1 := looks_find (M := model prog w) X I (findObj_own hh hn rfl ha)
  have L2 := looks_findIn (M := model prog w) X hg
  have L3 := looks_findIn (M := model prog w) X hk
  have L4 : Looks (model prog w) hh' (isInstance (.ref x) (.type "BaseException")) true := L0.andThen (looks_mroIn X hp)
  unfold getAttr getAttrBy
  refine wpAny_bind (wpAny_mkText (wpAny_holding (wpAny_bind (L0.at (wpAny_bind (L2.at ?_))))))
  unfold getAttrByItsOwn hookBefore callGetattribute boundAndCalled
  have hx0 : (expr && onTheHeap (Value.builtin "BaseException.__getattribute__")) = false := by cases expr <;> rfl
  have hx1 : (onTheHeap (Value.ref C) && Value.builtin "BaseException.__getattribute__" == Value.builtin "object.__getattribute__") = false := by
    rw [show (Value.builtin "BaseException.__getattribute__" == Value.builtin "object.__getattribute__") = false by decide +kernel]; rfl
  dsimp only
  rw [hx1, hx0]
  rw [if_neg (by decide), if_pos (show onTheHeap (Value.ref C) = true from rfl), if_neg (by decide)]
  refine wpAny_bind (L3.at ?_)
  rw [FX.ga.bind]
  refine wpAny_bind (wpAny_attempt (wpAny_holding (wpAny_bind (wpAny_pure ?_))))
  refine wpAny_mono (Q := fun r s' => r = v ∧ s' = ⟨hh', g, d, tk + 1, os⟩) (E := fun _ _ => False) ?_ (fun r s' z => ?_) fun _ _ z => z.elim
  · refine wpAny_call (codeAny_call_builtin FX.ga.plain PySem.F.entry_bexc_ga (@check_slot (model prog w) _ _ ⟨hh', g, d, tk + 1, os⟩ "BaseException.__getattribute__" "BaseException" "__getattribute__" (.ref x) [.str name tk] [] _ bga_kind bga_split L4 (PySem.F.args_bexc_ga _ _) ?_))
    unfold Builtin.«object.__getattribute__»
    refine wpAny_bind (wpAny_of_eq (a := (Value.ref x, [Value.str name tk])) (by rfl) ?_)
    dsimp only
    refine wpAny_bind (wpAny_pure (wpAny_bind (L0.at (wpAny_bind (L1.at ?_)))))
    dsimp only
    refine wpAny_pure ?_
    exact ⟨rfl, rfl⟩
  · (refine Mine.an2 z fun oq0 oq1 => ?_; (try clear z); subst oq0; subst oq1)
    dsimp only
    rw [handedOut_of hv]; exact wpAny_pure h
theorem meth_mw {so : Addr} {ox : Obj} {od : Option Obj} {pl : Sem Bool} {Q : Value × List Value → Shared → Prop} (F : Fr h₀ L s.heap m) (X₀ : K.In h₀) (N : News h₀ L s.heap news) (hso : (so, ks_superObj D x C) ∈ news) (I : InstAt s.heap x ox C od)
    (ho : nsIn K cStatics "thirdparty.any" = some none) (hm : ks_superIn K C D "__init__" = some (some (.builtin "Exception.__init__"))) (hp : mroIn K C (.type "Exception") = some true)
    (h : ∀ q h', Fr h₀ L h' m → News h₀ L h' ((q, mwObj x) :: news) → (∀ p ∈ news, p.1 < q) → Q (.ref q, []) { s with heap := h', toks := s.toks + 1 }) : wpAny (model prog w) A (getMethod (.ref so) "__init__" pl) Q E s := by
  have X : K.In s.heap := X₀.keeps F.keep
  obtain ⟨hh, g, d, t, os⟩ := s
  cases hc : clsIn K C with
  | none => unfold ks_superIn at hm; rw [hc] at hm; cases hm
  | some cd =>
    unfold ks_superIn at hm
    rw [hc] at hm
    refine get_superX (N _ hso).1 (looks_opaque X ho) (l₀ := cd.mro) ((looks_clsIn X hc).andThen .now) rfl X hm I.at_ I.cls (looks_mroIn X hp) (ks_ne X I hc) ?_
    exact h _ _ (F.push _) (N.push F _) (fun p hp => Heap.lt_size (N p hp).1)
end
end Mine
end
/- R1 -/
section
open PySem PySem.W PyProof.Rows PySem.Calls PySem.Spec
namespace Mine
set_option maxRecDepth 100000
set_option maxHeartbeats 8000000
noncomputable abbrev PR1 : Program := PySem.Challenge.rw_rg0213_01.row.prog
noncomputable def Raises (prog : Program) (w : World) (n : Nat) (f : Addr) (vs : List Value) (news : List (Addr × Obj)) : Prop :=
  ∀ (mean : ExcName → Option Value) (mg mb : Str → Option Value) (dp un : Nat) (gd : Option (List Code)) (cn : Str) (cs : Scope) (a : Addr) (ccd : Value) (cl : List (Str × Addr)) (outer : List Env) (A₀ : Around) (base h₀ : Heap) (L : Addr) (m : Str → Option Value) (s : Shared)
    (Q E : Value → Shared → Prop),
    Below A₀ base outer h₀ → Fr h₀ L s.heap m → (Mine.heap w.params).In h₀ → News h₀ L s.heap news → Top Mine.view (looseW Mine.view Mine.loose) mean mg mb h₀ → cs.kind = .function →
    dp + n < recursionLimit → un + 8 * n < cLine →
    (∀ e D oD tz h' tk', lookIn (Str.ofString "spot") oD = some (some (.int 0 tz)) → RaisedD s.heap (envX cn cs L a ccd cl :: outer) e 76 D oD h' → E (.ref e) { s with heap := h', toks := tk' }) →
    wpAny (model prog w) (ktrTop dp un gd cn cs L a ccd cl outer) (call (.ref f) vs) Q E s

noncomputable def RaisableX (K : Frag) (C : Addr) (E : Value → Shared → Prop) (v : Value) (s₁ : Shared) : Prop := ∃ e t d, v = .ref e ∧ K.In s₁.heap ∧ s₁.heap.get? e = some (excObj C t d) ∧ E (.ref e) s₁
theorem Raise_exc {prog : Program} {w : World} {A : Around} {E : Value → Shared → Prop} {s : Shared} {env : Env} {K : Frag} {C : Addr} {y : Expr} {pos : Pos} {h₀ : Heap} {Q : Flow → Shared → Prop} (_X : K.In h₀) (qx : excIn2 K C "Exception.__new__") (hh : A.handled = none)
    (h : wpAny (model prog w) A (eval y env) (RaisableX K C E) E s) : wpAny (model prog w) A (exec (.Raise (some y) none pos) env) Q E s := by
  show wpAny _ _ (do standAt pos; raiseStmt env (some (do let v ← eval y env; standAt pos; pure v)) none) _ _ _
  exact wpAny_bind (wpAny_standAt (raise_exc (newId := "Exception.__new__") qx hh (wpAny_bind (wpAny_mono h (fun v s₁ h₁ => wpAny_bind (wpAny_standAt (wpAny_pure h₁))) fun _ _ x => x))))
theorem qx76 (w : World) : excIn2 (Mine.heap w.params) 76 "Exception.__new__" := Mine.ie8 _ _ _ _ _ _ _ _ (Mine.ie8 _ _ _ _ _ _ _ _ ⟨by k_is, rfl⟩)
theorem pe76 (w : World) : plainExc (Mine.heap w.params) 76 = true := by kernel_rfl
theorem sa76 (w : World) : findIn (Mine.heap w.params) (.ref 76) "__setattr__" = some (some (.builtin "object.__setattr__")) := by kernel_rfl
theorem tw76 (w : World) : takerIn (Mine.heap w.params) 76 "what" = some none := by kernel_rfl
theorem ts76 (w : World) : takerIn (Mine.heap w.params) 76 "spot" = some none := by kernel_rfl
theorem me76 (w : World) : mroIn (Mine.heap w.params) 76 (.type "Exception") = some true := by kernel_rfl
theorem mb76 (w : World) : mroIn (Mine.heap w.params) 76 (.type "BaseException") = some true := by kernel_rfl
theorem hd76 (w : World) : hasDictIn (Mine.heap w.params) 76 = true := by kernel_rfl
theorem ga76 (w : World) : findIn (Mine.heap w.params) (.ref 76) "__getattribute__" = some (some (.builtin "BaseException.__getattribute__")) := by kernel_rfl
theorem gn76 (w : World) : findIn (Mine.heap w.params) (.ref 76) "__getattr__" = some none := by kernel_rfl
theorem sp76 (w : World) : findIn (Mine.heap w.params) (.ref 76) "spot" = some none := by kernel_rfl
theorem su76 (w : World) : ks_superIn (Mine.heap w.params) 76 47 "__init__" = some (some (.builtin "Exception.__init__")) := by kernel_rfl
theorem tp76 (w : World) : nsIn (Mine.heap w.params) cStatics "thirdparty.any" = some none := by kernel_rfl
theorem two_of {h₀ h : Heap} {L : Addr} {a b : Addr × Obj} {news : List (Addr × Obj)} (N : News h₀ L h news) (ha : a ∈ news) (hb : b ∈ news) : News h₀ L h [a, b] := fun p hp => by
  rcases List.mem_cons.mp hp with rfl | hp
  · exact N _ ha
  · rcases List.mem_cons.mp hp with rfl | hp
    · exact N _ hb
    · cases hp
theorem get_of {h₀ h : Heap} {L u : Addr} {o : Obj} {news : List (Addr × Obj)} (N : News h₀ L h news) (hm : (u, o) ∈ news) : h.get? u = some o := (N _ hm).1
theorem within0 {v : Value} : Within (fun y => if y = Str.ofString "what" then some v else none) [Str.ofString "what"] := Within.cons _ _ Within.nil
theorem fault_new {w : World} {mean : ExcName → Option Value} {mg mb : Str → Option Value} {dp un : Nat} {gd : Option (List Code)} {cn : Str} {cs : Scope} {a : Addr} {ccd : Value} {cl : List (Str × Addr)} {outer : List Env} {A₀ : Around} {base h₀ : Heap} {L : Addr} {m : Str → Option Value} {s : Shared}
    {Q E : Value → Shared → Prop} {x : Str} {tx t0 : Tok} (B' : Below A₀ base outer h₀) (F : Fr h₀ L s.heap m) (X : (Mine.heap w.params).In h₀) (N : News h₀ L s.heap [])
    (T : Top Mine.view (looseW Mine.view Mine.loose) mean mg mb h₀) (hk : cs.kind = .function)
    (hd : dp + 5 < recursionLimit) (hu : un + 40 < cLine)
    (hret : ∀ e t D oD tz h' tk', Fr h₀ L h' m → News h₀ L h' [(e, excObj 76 t (some D)), (D, oD)] → D ≠ e → lookIn (Str.ofString "spot") oD = some (some (.int 0 tz)) → Q (.ref e) { s with heap := h', toks := tk' }) :
    wpAny (model PySem.Challenge.rw_rg0213_01.row.prog w) (ktrTop dp un gd cn cs L a ccd cl outer) (call (.ref 76) [.str x tx, .int 0 t0]) Q E s := by
  k_with_none
  k_with "om" => first | (with_reducible first | assumption | exact Mine.r1 (by assumption) (by k_dflt exact rfl) | exact Mine.r2 (by assumption) (by k_dflt exact rfl) | exact Int.natCast_nonneg _ | exact Int.le_refl _ | exact Nat.le_refl _ | (refine' Mine.ne_above ?kb8z18 ?km8z18; (case kb8z18 => with_reducible assumption); (case km8z18 => walk_at "key mem"))) | (first | lia | omega)
  k_with "rm" => first | ((try dsimp only [depth_under_make, depth_under_kw, depth_in1, depth_deeper, depth_caller, units_in1, units_deeper, Around.mark_units, units_caller, units_under_make, ktrTop]); walk_at "om") | ktr_room | ktr_units
  k_with "k_all" => assumption
  k_with "key mem" => with_reducible first | exact Mine.m0 | exact Mine.m1 | exact Mine.m2 | exact Mine.m3 | exact Mine.m4 | exact Mine.m5
  k_with "k_mem" => (k_whole; walk_at "key mem")
  k_with "k_ne" => ((refine neN ?_; (try dsimp only)); first | (refine' Mine.ne_below ?kb9z33 ?km9z33; (case kb9z33 => with_reducible assumption); (case km9z33 => walk_at "key mem")) | (refine' Mine.ne_above ?kb9z33 ?km9z33; (case kb9z33 => with_reducible assumption); (case km9z33 => walk_at "key mem")) | walk_at "ne find" | (first | lia | omega))
  k_with "k_all" => (refine' Mine.all_below ?kb9z30 ?km9z30; (case kb9z30 => with_reducible assumption); (case km9z30 => exact rfl))
  k_with "ne find" => first | with_reducible assumption | (refine Ne.symm ?_; with_reducible assumption) | (refine Nat.ne_of_lt ?_; with_reducible assumption) | (refine Nat.ne_of_gt ?_; with_reducible assumption) | ((with_reducible rename _ ∧ _ => hc9); have hc8 := hc9.1; have hc7 := hc9.2; clear hc9; walk_at "ne find")
  k_with "spliced" => (k_here; (refine PyProof.Rows.args_nil ?_); (try dsimp only [List.cons_append, List.nil_append]); (with_reducible show _ ∧ _))
  k_with "k_mem" => assumption
  k_with "k_inst" => first | (refine' Mine.InstAt.exc1 ?Nz90 ?h1z90 ?h2z90; (case Nz90 => k_asm); (case h1z90 => k_mem); (case h2z90 => k_mem)) | (refine' Mine.InstAt.exc0 ?Nz90 ?h1z90; (case Nz90 => k_asm); (case h1z90 => k_mem))
  k_with "getMethod ref" => (k_here; (with_reducible show wpAny _ _ (getMethod (Value.ref _) (Str.ofString "__init__") _) _ _ _); k_dflt (refine' Mine.meth_mw (D := 47) ?k1z83 ?k2z83 ?k3z83 ?k4z83 ?k5z83 (tp76 _) ?k6z83 ?k7z83 ?_; (case k1z83 => k_asm); (case k2z83 => k_asm); (case k3z83 => k_asm); (case k4z83 => k_mem); (case k6z83 => exact su76 _); (case k7z83 => exact me76 _); (case k5z83 => k_inst); intro q' h' F' N' l1; (try k_lt l1)))
  k_with "callWith ref" => (k_here; (with_reducible show wpAny _ _ (callWith _ (Value.ref _) _ (backTo _ (starEach (_ :: _) _)) []) _ _ _); k_dflt (refine' Mine.callWith_mw ?k1z84 ?k2z84 ?_ rfl rfl; (case k1z84 => k_asm); (case k2z84 => k_mem); k_whole))
  k_with "And" => ((with_reducible show Heap.get? _ _ = some _ ∧ _); k_dflt (refine ⟨Mine.get_of (by k_asm) (by k_mem), ?_⟩); (try dsimp only [List.nil_append, List.cons_append]))
  k_with "call ref" => (k_here; (with_reducible show wpAny _ _ (call (Value.ref _) [_]) _ _ _); k_dflt (refine' Mine.call_mw ?k1z86 ?k2z86 ?k3z86 ?k4z86 ?k5z86 (qx76 _) ?_; (case k1z86 => k_asm); (case k2z86 => k_asm); (case k3z86 => k_asm); (case k4z86 => k_mem); (case k5z86 => intro t9; k_upd); intro h' t' F' N' l1; (try k_lt l1)))
  k_with "setAttr ref" => (k_here; (with_reducible show wpAny _ _ (setAttr (Value.ref _) _ _) _ _ _); k_dflt (first | (refine' Mine.set_exc_new ?k1z87 ?k2z87 ?k3z87 ?k4z87 (sa76 _) (pe76 _) (tw76 _) ?_; (case k1z87 => k_asm); (case k2z87 => k_asm); (case k3z87 => k_asm); (case k4z87 => intro t9; k_upd); intro h' tk' D' oD' F' N' l1 ha'; (try k_lt l1)) | (refine' Mine.set_exc_old ?k1z87 ?k2z87 ?k3z87 ?k4z87 ?k5z87 ?k6z87 within0 (by decide) (sa76 _) (pe76 _) (ts76 _) ?_; (case k1z87 => k_asm); (case k2z87 => k_asm); (case k3z87 => k_asm); (case k4z87 => k_mem); (case k5z87 => k_updF); (case k6z87 => assumption); intro h' tk' oD' F' N' ha')))
  k_dflt (refine' Mine.make_exc ?k1 ?k2 ?k3 ?k4 ?k5 ?k6 ?k7 ?_; (case k1 => k_asm); (case k2 => k_asm); (case k3 => k_asm); (case k4 => exact qx76 _); (case k5 => k_is); (case k6 => k_is); (case k7 => size_fits); intro x' t' h' F' N' l1 l2; (try k_lt l1); (try k_lt2 l2); refine wpAny_call ?_; (refine' ks_code_super ?k1 ?k2 ?k3 ?k4 ?k5 ?kA ?kF ?kK ?k6 ?k7 ?k8 ?k9 ?kB ?_ ?c1 ?c2 ?c3 ?c4; (case kA => exact rfl); (case kF => exact rfl); (case kK => first | exact rfl | assumption); (case k1 => k_asm); (case k2 => k_asm); (case k3 => k_asm); (case k4 => k_asm); (case k5 => k_asm); (case k6 => k_is); (case k7 => k_is); (case k8 => walk_at "rm"); (case k9 => exact BindsTo.of_eq rfl); (case kB => exact locs rfl); (case c1 => decide); (case c2 => exact rfl); (case c3 => exact rfl); (case c4 => exact rfl); intro g' L' h' FG' F' N' B' X' T' l1; (try k_lt l1); (try dsimp only); (try k_lift B')))
  k_steps
  refine hret x' _ _ _ t0 _ _ (by assumption) (two_of (by assumption) (by k_mem) (by k_mem)) ?_ (attr_look (by assumption) (if_pos rfl))
  refine neN ?_
  walk_at "om"
theorem raise_end {M : Model} {A : Around} {K : Frag} {base g h₁ : Heap} {l : List Env} {L e t D : Addr} {m : Str → Option Value} {env : Env} {oD : Obj} {s' : Shared} {Q : Value → Unit → Shared → Prop} {E : Value → Value → Shared → Prop}
    (X : K.In g) (B : Below A base l g) (F : Fr g L s'.heap m) (hf : env.frame = some L) (hk : env.scope.kind = .function) (N : News g L s'.heap [(e, excObj 76 t (some D)), (D, oD)]) (ne : D ≠ e) (S : Grows [] h₁ g) (hL : h₁.objs.size ≤ L)
    (hQ : ∀ h', RaisedD h₁ l e 76 D oD h' → Q (.ref e) () { s' with heap := h' }) : RaisableX K 76 (fun x s₁ => wpAny M (A.deeper env) (leaving env x) (Q x) (E x) s₁) (.ref e) s' := by
  have up : ∀ b o, h₁.get? b = some o → g.get? b = some o := fun b o z => S b o z (fun p hp => absurd hp List.not_mem_nil)
  have no : ∀ b, g.get? b = none → h₁.get? b = none := fun b z => by
    cases q : h₁.get? b with
    | none => rfl
    | some o => rw [up b o q] at z; cases z
  refine ⟨e, t, some D, rfl, X.keeps F.keep, (N _ (.head _)).1, ?_⟩
  exact leave_raiseD B F hf hk N (.head _) (.tail _ (.head _)) ne rfl rfl rfl rfl (fun b o z => F.keep b o (up b o z)) hL (no _ (N _ (.head _)).2.2) (no _ (N _ (.tail _ (.head _))).2.2) hQ
theorem symrA {w : World} {nm : Str} {t : Tok} (hr : isRes nm = false) (hs : simpleB nm = false) (hl : nm.length ≤ 5) (h2 : 2 < nm.length) (h3 : (Txt.item nm 0 == Str.ofString "|") = false) (hb : occ nm (Str.ofString "|") = false) : Raises PySem.Challenge.rw_rg0213_01.row.prog w 8 782 [.str nm t] [] := by
  unfold Raises
  intro mean mg mb dp un gd cn' cs a ccd cl outer A₀ base h₀ L m s Q E B F X N T hk hd hu hret
  rcases s with ⟨hp0, gs0, dr0, tk0, os0⟩
  dsimp only at F N hret
  k_with_none
  k_with "om" => first | (with_reducible first | assumption | exact Mine.r2 (by assumption) (by k_dflt exact rfl) | exact Mine.r0 (by assumption) | exact Int.natCast_nonneg _ | exact Int.le_refl _ | exact Nat.le_refl _) | (first | lia | omega)
  k_with "rm" => first | ((try dsimp only [depth_under_make, depth_under_kw, depth_in1, depth_deeper, depth_caller, units_in1, units_deeper, Around.mark_units, units_caller, units_under_make, ktrTop]); walk_at "om") | ktr_room | ktr_units
  k_with "con_enter" => (refine' Mine.code_defQ ?k1z29 ?k2z29 ?k3z29 ?k4z29 ?k5z29 ?kAz29 ?kFz29 ?kKz29 ?k6z29 ?k7z29 ?k8z29 ?k9z29 ?kBz29 ?_ ?c2z29 ?c3z29 ?c4z29 ?c5z29; (case kAz29 => exact rfl); (case kFz29 => exact rfl); (case kKz29 => assumption); (case k1z29 => k_asm); (case k2z29 => k_asm); (case k3z29 => k_asm); (case k4z29 => k_asm); (case k5z29 => k_asm); (case k6z29 => k_is); (case k7z29 => k_is); (case k8z29 => walk_at "rm"); (case k9z29 => first | exact BindsTo.of_eq (binds := []) rfl | exact BindsTo.of_eq (binds := [(_, _)]) rfl | exact BindsTo.of_eq (binds := [(_, _), (_, _)]) rfl | exact BindsTo.of_eq (binds := [(_, _), (_, _), (_, _)]) rfl | exact BindsTo.of_eq (binds := [(_, _), (_, _), (_, _), (_, _)]) rfl | exact BindsTo.of_eq (binds := [(_, _), (_, _), (_, _), (_, _), (_, _)]) rfl | exact BindsTo.of_eq rfl); (case c5z29 => decide); (case kBz29 => exact locs rfl); (case c2z29 => exact rfl); (case c3z29 => exact rfl); (case c4z29 => exact rfl); k_whole; intro g' L' h' tk' FG' F' N' B' X' T' S' hL' qk ek)
  k_with "k_all" => assumption
  k_with "key mem" => fail
  k_with "k_mem" => (k_whole; walk_at "key mem")
  k_with "k_ne" => ((refine neN ?_; (try dsimp only)); first | (refine' Mine.ne_below ?kb9z33 ?km9z33; (case kb9z33 => with_reducible assumption); (case km9z33 => walk_at "key mem")) | (refine' Mine.ne_above ?kb9z33 ?km9z33; (case kb9z33 => with_reducible assumption); (case km9z33 => walk_at "key mem")) | walk_at "ne find" | (first | lia | omega))
  k_with "k_all" => (refine' Mine.all_below ?kb9z30 ?km9z30; (case kb9z30 => with_reducible assumption); (case km9z30 => exact rfl))
  k_with "ne find" => first | with_reducible assumption | (refine Ne.symm ?_; with_reducible assumption) | (refine Nat.ne_of_lt ?_; with_reducible assumption) | (refine Nat.ne_of_gt ?_; with_reducible assumption) | ((with_reducible rename _ ∧ _ => hc9); have hc8 := hc9.1; have hc7 := hc9.2; clear hc9; walk_at "ne find")
  k_with "spliced" => (k_here; (refine PyProof.Rows.args_nil ?_); (try dsimp only [List.cons_append, List.nil_append]); (with_reducible show _ ∧ _))
  k_with "k_mem" => assumption
  k_with "compareOp In str ref" => (k_here; (with_reducible show wpAny _ _ (compareOp CmpOp.In (Value.str _ _) (Value.ref 768)) _ _ _); k_dflt (refine' Mine.in_RESb ?hbz142 ?Fz142 ?Xz142 ?_; (case hbz142 => first | assumption | decide +kernel); (case Fz142 => k_asm); (case Xz142 => k_asm)); k_whole)
  k_with "call ref" => (k_here; (with_reducible show wpAny _ _ (call (Value.ref 775) _) _ _ _); k_dflt (refine' Mine.simple_use ?hbz143 ?k1z143 ?k2z143 ?k3z143 ?k4z143 ?k5z143 ?kKz143 ?kdz143 ?kuz143 ?_; (case hbz143 => first | assumption | decide +kernel); (case k1z143 => k_asm); (case k2z143 => k_asm); (case k3z143 => k_asm); (case k4z143 => k_asm); (case k5z143 => k_asm); (case kKz143 => exact rfl); (case kdz143 => walk_at "rm"); (case kuz143 => walk_at "rm")); intro h' tk' F' N')
  k_with "call builtin:len" => (k_here; (with_reducible show wpAny _ _ (call (Value.builtin "len") [Value.str _ _]) _ _ _); (refine Mine.len_short (by assumption) ?_); intro t' k')
  k_with "compareOp Gt int int" => (k_here; k_dflt (first | refine Mine.gt_short (by assumption) ?_ | refine Mine.gt_long (by assumption) ?_))
  k_with "compareOp Eq str str" => (k_here; (refine Mine.eq_b (by assumption) ?_))
  k_with "compareOp In str str" => (k_here; (refine Mine.in_b (by assumption) ?_))
  k_with "binaryOp Add str str" => (k_here; (first | refine Mine.add_b1 (by assumption) ?_ | refine Mine.add_b2 (by assumption) ?_ | refine Mine.add_b3 (by assumption) ?_); intro t' k')
  k_with "k_inst" => first | (refine' Mine.InstAt.exc1 ?Nz90 ?h1z90 ?h2z90; (case Nz90 => k_asm); (case h1z90 => k_mem); (case h2z90 => k_mem)) | (refine' Mine.InstAt.exc0 ?Nz90 ?h1z90; (case Nz90 => k_asm); (case h1z90 => k_mem))
  k_with "call ref" => (k_here; (with_reducible show wpAny _ _ (call (Value.ref 76) [Value.str _ _, Value.int _ _]) _ _ _); k_dflt (refine' Mine.fault_new ?k1z88 ?k2z88 ?k3z88 (fun _ h => absurd h List.not_mem_nil) ?k5z88 ?kKz88 ?kdz88 ?kuz88 ?_; (case k1z88 => k_asm); (case k2z88 => k_asm); (case k3z88 => k_asm); (case k5z88 => k_asm); (case kKz88 => exact rfl); (case kdz88 => walk_at "rm"); (case kuz88 => walk_at "rm"); intro e' t' D' oD' tz' h' tk' F' N' ne' hl'))
  k_with "exec Raise some none" => (k_here; k_dflt (refine' Mine.Raise_exc ?Xz89 ?qxz89 ?hhz89 ?_; (case Xz89 => k_asm); (case qxz89 => exact qx76 _); (case hhz89 => rfl); k_whole))
  refine wpAny_call ?_
  k_dflt (k_extra "con_enter")
  k_steps
  all_goals refine raise_end (by assumption) (by assumption) (by assumption) rfl rfl (by assumption) (by assumption) (by assumption) (by assumption) (fun h' R => ?_)
  all_goals exact hret _ _ _ _ _ _ (by assumption) R
theorem symrB {w : World} {nm : Str} {t : Tok} (hr : isRes nm = false) (hs : simpleB nm = false) (hl : nm.length ≤ 5) (h2 : 2 < nm.length) (h3 : (Txt.item nm 0 == Str.ofString "|") = false) (hb : occ nm (Str.ofString "|") = true) (hc : occ nm (Str.ofString "\\") = false) : Raises PySem.Challenge.rw_rg0213_01.row.prog w 8 782 [.str nm t] [] := by
  unfold Raises
  intro mean mg mb dp un gd cn' cs a ccd cl outer A₀ base h₀ L m s Q E B F X N T hk hd hu hret
  rcases s with ⟨hp0, gs0, dr0, tk0, os0⟩
  dsimp only at F N hret
  k_with_none
  k_with "om" => first | (with_reducible first | assumption | exact Mine.r2 (by assumption) (by k_dflt exact rfl) | exact Mine.r0 (by assumption) | exact Int.natCast_nonneg _ | exact Int.le_refl _ | exact Nat.le_refl _) | (first | lia | omega)
  k_with "rm" => first | ((try dsimp only [depth_under_make, depth_under_kw, depth_in1, depth_deeper, depth_caller, units_in1, units_deeper, Around.mark_units, units_caller, units_under_make, ktrTop]); walk_at "om") | ktr_room | ktr_units
  k_with "con_enter" => (refine' Mine.code_defQ ?k1z29 ?k2z29 ?k3z29 ?k4z29 ?k5z29 ?kAz29 ?kFz29 ?kKz29 ?k6z29 ?k7z29 ?k8z29 ?k9z29 ?kBz29 ?_ ?c2z29 ?c3z29 ?c4z29 ?c5z29; (case kAz29 => exact rfl); (case kFz29 => exact rfl); (case kKz29 => assumption); (case k1z29 => k_asm); (case k2z29 => k_asm); (case k3z29 => k_asm); (case k4z29 => k_asm); (case k5z29 => k_asm); (case k6z29 => k_is); (case k7z29 => k_is); (case k8z29 => walk_at "rm"); (case k9z29 => first | exact BindsTo.of_eq (binds := []) rfl | exact BindsTo.of_eq (binds := [(_, _)]) rfl | exact BindsTo.of_eq (binds := [(_, _), (_, _)]) rfl | exact BindsTo.of_eq (binds := [(_, _), (_, _), (_, _)]) rfl | exact BindsTo.of_eq (binds := [(_, _), (_, _), (_, _), (_, _)]) rfl | exact BindsTo.of_eq (binds := [(_, _), (_, _), (_, _), (_, _), (_, _)]) rfl | exact BindsTo.of_eq rfl); (case c5z29 => decide); (case kBz29 => exact locs rfl); (case c2z29 => exact rfl); (case c3z29 => exact rfl); (case c4z29 => exact rfl); k_whole; intro g' L' h' tk' FG' F' N' B' X' T' S' hL' qk ek)
  k_with "k_all" => assumption
  k_with "key mem" => fail
  k_with "k_mem" => (k_whole; walk_at "key mem")
  k_with "k_ne" => ((refine neN ?_; (try dsimp only)); first | (refine' Mine.ne_below ?kb9z33 ?km9z33; (case kb9z33 => with_reducible assumption); (case km9z33 => walk_at "key mem")) | (refine' Mine.ne_above ?kb9z33 ?km9z33; (case kb9z33 => with_reducible assumption); (case km9z33 => walk_at "key mem")) | walk_at "ne find" | (first | lia | omega))
  k_with "k_all" => (refine' Mine.all_below ?kb9z30 ?km9z30; (case kb9z30 => with_reducible assumption); (case km9z30 => exact rfl))
  k_with "ne find" => first | with_reducible assumption | (refine Ne.symm ?_; with_reducible assumption) | (refine Nat.ne_of_lt ?_; with_reducible assumption) | (refine Nat.ne_of_gt ?_; with_reducible assumption) | ((with_reducible rename _ ∧ _ => hc9); have hc8 := hc9.1; have hc7 := hc9.2; clear hc9; walk_at "ne find")
  k_with "spliced" => (k_here; (refine PyProof.Rows.args_nil ?_); (try dsimp only [List.cons_append, List.nil_append]); (with_reducible show _ ∧ _))
  k_with "k_mem" => assumption
  k_with "compareOp In str ref" => (k_here; (with_reducible show wpAny _ _ (compareOp CmpOp.In (Value.str _ _) (Value.ref 768)) _ _ _); k_dflt (refine' Mine.in_RESb ?hbz142 ?Fz142 ?Xz142 ?_; (case hbz142 => first | assumption | decide +kernel); (case Fz142 => k_asm); (case Xz142 => k_asm)); k_whole)
  k_with "call ref" => (k_here; (with_reducible show wpAny _ _ (call (Value.ref 775) _) _ _ _); k_dflt (refine' Mine.simple_use ?hbz143 ?k1z143 ?k2z143 ?k3z143 ?k4z143 ?k5z143 ?kKz143 ?kdz143 ?kuz143 ?_; (case hbz143 => first | assumption | decide +kernel); (case k1z143 => k_asm); (case k2z143 => k_asm); (case k3z143 => k_asm); (case k4z143 => k_asm); (case k5z143 => k_asm); (case kKz143 => exact rfl); (case kdz143 => walk_at "rm"); (case kuz143 => walk_at "rm")); intro h' tk' F' N')
  k_with "call builtin:len" => (k_here; (with_reducible show wpAny _ _ (call (Value.builtin "len") [Value.str _ _]) _ _ _); (refine Mine.len_short (by assumption) ?_); intro t' k')
  k_with "compareOp Gt int int" => (k_here; k_dflt (first | refine Mine.gt_short (by assumption) ?_ | refine Mine.gt_long (by assumption) ?_))
  k_with "compareOp Eq str str" => (k_here; (refine Mine.eq_b (by assumption) ?_))
  k_with "compareOp In str str" => (k_here; (refine Mine.in_b (by assumption) ?_))
  k_with "binaryOp Add str str" => (k_here; (first | refine Mine.add_b1 (by assumption) ?_ | refine Mine.add_b2 (by assumption) ?_ | refine Mine.add_b3 (by assumption) ?_); intro t' k')
  k_with "k_inst" => first | (refine' Mine.InstAt.exc1 ?Nz90 ?h1z90 ?h2z90; (case Nz90 => k_asm); (case h1z90 => k_mem); (case h2z90 => k_mem)) | (refine' Mine.InstAt.exc0 ?Nz90 ?h1z90; (case Nz90 => k_asm); (case h1z90 => k_mem))
  k_with "call ref" => (k_here; (with_reducible show wpAny _ _ (call (Value.ref 76) [Value.str _ _, Value.int _ _]) _ _ _); k_dflt (refine' Mine.fault_new ?k1z88 ?k2z88 ?k3z88 (fun _ h => absurd h List.not_mem_nil) ?k5z88 ?kKz88 ?kdz88 ?kuz88 ?_; (case k1z88 => k_asm); (case k2z88 => k_asm); (case k3z88 => k_asm); (case k5z88 => k_asm); (case kKz88 => exact rfl); (case kdz88 => walk_at "rm"); (case kuz88 => walk_at "rm"); intro e' t' D' oD' tz' h' tk' F' N' ne' hl'))
  k_with "exec Raise some none" => (k_here; k_dflt (refine' Mine.Raise_exc ?Xz89 ?qxz89 ?hhz89 ?_; (case Xz89 => k_asm); (case qxz89 => exact qx76 _); (case hhz89 => rfl); k_whole))
  refine wpAny_call ?_
  k_dflt (k_extra "con_enter")
  k_steps
  all_goals refine raise_end (by assumption) (by assumption) (by assumption) rfl rfl (by assumption) (by assumption) (by assumption) (by assumption) (fun h' R => ?_)
  all_goals exact hret _ _ _ _ _ _ (by assumption) R
theorem symr_0 {w : World} {t : Tok} : Raises PySem.Challenge.rw_rg0213_01.row.prog w 8 782 [.str (Str.ofString "x|y") t] [] := symrA (by decide +kernel) (by decide +kernel) (by decide) (by decide) (by decide +kernel) (by decide +kernel)
theorem symr_1 {w : World} {t : Tok} : Raises PySem.Challenge.rw_rg0213_01.row.prog w 8 782 [.str (Str.ofString "p\\q") t] [] := symrB (by decide +kernel) (by decide +kernel) (by decide) (by decide) (by decide +kernel) (by decide +kernel) (by decide +kernel)
theorem symr_2 {w : World} {t : Tok} : Raises PySem.Challenge.rw_rg0213_01.row.prog w 8 782 [.str (Str.ofString "|a|") t] [] := by
  unfold Raises
  intro mean mg mb dp un gd cn' cs a ccd cl outer A₀ base h₀ L m s Q E B F X N T hk hd hu hret
  rcases s with ⟨hp0, gs0, dr0, tk0, os0⟩
  dsimp only at F N hret
  k_with_none
  k_with "om" => first | (with_reducible first | assumption | exact Mine.r1 (by assumption) (by k_dflt exact rfl) | exact Mine.r2 (by assumption) (by k_dflt exact rfl) | exact Mine.r0 (by assumption) | exact Int.natCast_nonneg _ | exact Int.le_refl _ | exact Nat.le_refl _) | (first | lia | omega)
  k_with "rm" => first | ((try dsimp only [depth_under_make, depth_under_kw, depth_in1, depth_deeper, depth_caller, units_in1, units_deeper, Around.mark_units, units_caller, units_under_make, ktrTop]); walk_at "om") | ktr_room | ktr_units
  k_with "con_enter" => (refine' Mine.code_defQ ?k1z29 ?k2z29 ?k3z29 ?k4z29 ?k5z29 ?kAz29 ?kFz29 ?kKz29 ?k6z29 ?k7z29 ?k8z29 ?k9z29 ?kBz29 ?_ ?c2z29 ?c3z29 ?c4z29 ?c5z29; (case kAz29 => exact rfl); (case kFz29 => exact rfl); (case kKz29 => assumption); (case k1z29 => k_asm); (case k2z29 => k_asm); (case k3z29 => k_asm); (case k4z29 => k_asm); (case k5z29 => k_asm); (case k6z29 => k_is); (case k7z29 => k_is); (case k8z29 => walk_at "rm"); (case k9z29 => first | exact BindsTo.of_eq (binds := []) rfl | exact BindsTo.of_eq (binds := [(_, _)]) rfl | exact BindsTo.of_eq (binds := [(_, _), (_, _)]) rfl | exact BindsTo.of_eq (binds := [(_, _), (_, _), (_, _)]) rfl | exact BindsTo.of_eq (binds := [(_, _), (_, _), (_, _), (_, _)]) rfl | exact BindsTo.of_eq (binds := [(_, _), (_, _), (_, _), (_, _), (_, _)]) rfl | exact BindsTo.of_eq rfl); (case c5z29 => decide); (case kBz29 => exact locs rfl); (case c2z29 => exact rfl); (case c3z29 => exact rfl); (case c4z29 => exact rfl); k_whole; intro g' L' h' tk' FG' F' N' B' X' T' S' hL' qk ek)
  k_with "k_all" => assumption
  k_with "key mem" => fail
  k_with "k_mem" => (k_whole; walk_at "key mem")
  k_with "k_ne" => ((refine neN ?_; (try dsimp only)); first | (refine' Mine.ne_below ?kb9z33 ?km9z33; (case kb9z33 => with_reducible assumption); (case km9z33 => walk_at "key mem")) | (refine' Mine.ne_above ?kb9z33 ?km9z33; (case kb9z33 => with_reducible assumption); (case km9z33 => walk_at "key mem")) | walk_at "ne find" | (first | lia | omega))
  k_with "k_all" => (refine' Mine.all_below ?kb9z30 ?km9z30; (case kb9z30 => with_reducible assumption); (case km9z30 => exact rfl))
  k_with "ne find" => first | with_reducible assumption | (refine Ne.symm ?_; with_reducible assumption) | (refine Nat.ne_of_lt ?_; with_reducible assumption) | (refine Nat.ne_of_gt ?_; with_reducible assumption) | ((with_reducible rename _ ∧ _ => hc9); have hc8 := hc9.1; have hc7 := hc9.2; clear hc9; walk_at "ne find")
  k_with "spliced" => (k_here; (refine PyProof.Rows.args_nil ?_); (try dsimp only [List.cons_append, List.nil_append]); (with_reducible show _ ∧ _))
  k_with "compareOp In str ref" => (k_here; k_dflt (first | (refine' Mine.in_topstrs ?Fz158 ?Xz158 ?lz158 ?iz158 true ?bz158 ?_; (case Fz158 => k_asm); (case Xz158 => k_asm); (case lz158 => k_is); (case iz158 => repeat constructor); (case bz158 => decide +kernel)) | (refine' Mine.in_topstrs ?Fz158 ?Xz158 ?lz158 ?iz158 false ?bz158 ?_; (case Fz158 => k_asm); (case Xz158 => k_asm); (case lz158 => k_is); (case iz158 => repeat constructor); (case bz158 => decide +kernel))))
  k_with "compareOp In str str" => (k_here; first | (refine Mine.in_lit true (by decide +kernel) ?_) | (refine Mine.in_lit false (by decide +kernel) ?_))
  k_with "compareOp NotIn str str" => (k_here; first | (refine Mine.notin_lit true (by decide +kernel) ?_) | (refine Mine.notin_lit false (by decide +kernel) ?_))
  k_with "compareOp Eq str str" => (k_here; first | (refine Mine.eq_lit true (by decide +kernel) ?_) | (refine Mine.eq_lit false (by decide +kernel) ?_))
  k_with "exec For Name Name cons nil" => (k_here; (with_reducible show wpAny _ _ (exec (Stmt.For _ _ _ [] _) _) _ _ _); k_strName; (rename Fr _ _ _ _ => lF'); (with_unfolding_all refine' For_invVF lF' ?k1z164 ?k2z164 ?_; (case k1z164 => exact rfl); (case k2z164 => exact rfl); k_whole); k_dflt (refine ld lF' (by rfl) ?_); k_strUnr)
  k_with "k_mem" => assumption
  k_with "compareOp In str ref" => (k_here; (with_reducible show wpAny _ _ (compareOp CmpOp.In (Value.str _ _) (Value.ref 768)) _ _ _); k_dflt (refine' Mine.in_RESb ?hbz142 ?Fz142 ?Xz142 ?_; (case hbz142 => first | assumption | decide +kernel); (case Fz142 => k_asm); (case Xz142 => k_asm)); k_whole)
  k_with "call ref" => (k_here; (with_reducible show wpAny _ _ (call (Value.ref 775) _) _ _ _); k_dflt (refine' Mine.simple_use ?hbz143 ?k1z143 ?k2z143 ?k3z143 ?k4z143 ?k5z143 ?kKz143 ?kdz143 ?kuz143 ?_; (case hbz143 => first | assumption | decide +kernel); (case k1z143 => k_asm); (case k2z143 => k_asm); (case k3z143 => k_asm); (case k4z143 => k_asm); (case k5z143 => k_asm); (case kKz143 => exact rfl); (case kdz143 => walk_at "rm"); (case kuz143 => walk_at "rm")); intro h' tk' F' N')
  k_with "k_inst" => first | (refine' Mine.InstAt.exc1 ?Nz90 ?h1z90 ?h2z90; (case Nz90 => k_asm); (case h1z90 => k_mem); (case h2z90 => k_mem)) | (refine' Mine.InstAt.exc0 ?Nz90 ?h1z90; (case Nz90 => k_asm); (case h1z90 => k_mem))
  k_with "call ref" => (k_here; (with_reducible show wpAny _ _ (call (Value.ref 76) [Value.str _ _, Value.int _ _]) _ _ _); k_dflt (refine' Mine.fault_new ?k1z88 ?k2z88 ?k3z88 (fun _ h => absurd h List.not_mem_nil) ?k5z88 ?kKz88 ?kdz88 ?kuz88 ?_; (case k1z88 => k_asm); (case k2z88 => k_asm); (case k3z88 => k_asm); (case k5z88 => k_asm); (case kKz88 => exact rfl); (case kdz88 => walk_at "rm"); (case kuz88 => walk_at "rm"); intro e' t' D' oD' tz' h' tk' F' N' ne' hl'))
  k_with "exec Raise some none" => (k_here; k_dflt (refine' Mine.Raise_exc ?Xz89 ?qxz89 ?hhz89 ?_; (case Xz89 => k_asm); (case qxz89 => exact qx76 _); (case hhz89 => rfl); k_whole))
  refine wpAny_call ?_
  k_dflt (k_extra "con_enter")
  k_steps
  all_goals refine raise_end (by assumption) (by assumption) (by assumption) rfl rfl (by assumption) (by assumption) (by assumption) (by assumption) (fun h' R => ?_)
  all_goals exact hret _ _ _ _ _ _ (by assumption) R
end Mine
end
/- R2 -/
section
open PySem PySem.W PyProof.Rows PySem.Calls PySem.Spec
namespace Mine
set_option maxRecDepth 100000
set_option maxHeartbeats 8000000
theorem Raises.use {prog : Program} {w : World} {n : Nat} {f : Addr} {vs : List Value} {foot news : List (Addr × Obj)} (C : Raises prog w n f vs foot)
    {mean : ExcName → Option Value} {mg mb : Str → Option Value} {dp un : Nat} {gd : Option (List Code)} {cn : Str} {cs : Scope} {a : Addr} {ccd : Value} {cl : List (Str × Addr)} {outer : List Env} {A₀ : Around} {base h₀ : Heap} {L : Addr} {m : Str → Option Value} {s : Shared}
    {Q E : Value → Shared → Prop} (B : Below A₀ base outer h₀) (F : Fr h₀ L s.heap m) (X : (Mine.heap w.params).In h₀) (N : News h₀ L s.heap news)
    (T : Top Mine.view (looseW Mine.view Mine.loose) mean mg mb h₀) (hk : cs.kind = .function)
    (hd : dp + n < recursionLimit) (hu : un + 8 * n < cLine) (hf : ∀ p ∈ foot, p ∈ news)
    (ret : ∀ e D oD tz h' tk', lookIn (Str.ofString "spot") oD = some (some (.int 0 tz)) → RaisedD s.heap (envX cn cs L a ccd cl :: outer) e 76 D oD h' → E (.ref e) { s with heap := h', toks := tk' }) :
    wpAny (model prog w) (ktrTop dp un gd cn cs L a ccd cl outer) (call (.ref f) vs) Q E s :=
  C _ _ _ _ _ _ _ _ _ _ _ _ _ _ _ _ _ _ _ _ B F X (fun p hp => N p (hf p hp)) T hk hd hu ret
theorem on_end {M : Model} {A : Around} {E : Value → Shared → Prop} {s' : Shared} {base g h h₀ h₁ : Heap} {l : List Env} {L L₀ e D C : Addr} {m : Str → Option Value} {env : Env} {oD : Obj} {foot news : List (Addr × Obj)} {Q : Unit → Shared → Prop}
    (R : RaisedD h (env :: l) e C D oD s'.heap) (B : Below A base l g) (hf : env.frame = some L) (F : Fr g L h m) (N : News h₀ L₀ h₁ foot) (S : Grows foot h₁ g) (N' : News g L h news) (sub : ∀ p ∈ foot, p ∈ news)
    (hQ : ∀ h', RaisedD h₁ l e C D oD h' → Q () { s' with heap := h' }) : wpAny M (A.deeper env) (leaving env (.ref e)) Q E s' := by
  refine leave_onD B hf R (fun b o z => ?_) (fun b o z => ?_) hQ
  · by_cases q : ∃ p ∈ foot, p.1 = b
    · (refine Mine.ex1 q fun p om0 => Mine.an2 om0 fun hp oq2 => ?_; clear om0; (try clear q); subst oq2)
      rw [(N p hp).1] at z
      rw [← Option.some.inj z]
      exact (N' p (sub p hp)).1
    · exact F.keep b o (S b o z fun p hp e => q ⟨p, hp, e⟩)
  · by_cases q : ∃ p ∈ foot, p.1 = b
    · (refine Mine.ex1 q fun p om0 => Mine.an2 om0 fun hp oq2 => ?_; clear om0; (try clear q); subst oq2)
      exact (N' p (sub p hp)).2.1
    · intro e
      have := Heap.lt_size (S b o z fun p hp e => q ⟨p, hp, e⟩)
      exact absurd this (by rw [e]; exact Nat.not_lt.mpr F.above)
theorem sym_raises {w : World} {i : Nat} {t : Tok} (hi : i < 13) (hn : textAt i = none) : Raises PySem.Challenge.rw_rg0213_01.row.prog w 8 782 [.str (nameAt i) t] [] := by
  have : i = 0 ∨ i = 1 ∨ i = 2 ∨ i = 3 ∨ i = 4 ∨ i = 5 ∨ i = 6 ∨ i = 7 ∨ i = 8 ∨ i = 9 ∨ i = 10 ∨ i = 11 ∨ i = 12 := or13 _ (by assumption)
  rcases this with rfl | rfl | rfl | rfl | rfl | rfl | rfl | rfl | rfl | rfl | rfl | rfl | rfl
  · cases hn
  · cases hn
  · cases hn
  · cases hn
  · cases hn
  · cases hn
  · cases hn
  · cases hn
  · cases hn
  · cases hn
  · exact symr_0
  · exact symr_1
  · exact symr_2
theorem leaf_raises {w : World} {c : Nat} {S : BS} {cs : List (Str × Value)} {i t : Nat} {tt : Tok} (ok : SOK PySem.Challenge.rw_rg0213_01.row.prog w c S) (hc : c ≤ 1000) (hl : (Leaf.name i).Is S cs t) (hn : textAt i = none) :
    Raises PySem.Challenge.rw_rg0213_01.row.prog w 11 727 [.ref (S.B.A 1), .int t tt] S.led := by
  obtain ⟨B, xs, imms, kvs⟩ := S
  have mono := ok.bk.mono
  have apart := ok.bk.apart
  have f3 := ok.f3
  simp only at mono apart f3
  unfold Raises
  intro mean mg mb dp un gd cn' cs' a ccd cl outer A₀ base h₀ L m s Q E B' F X N T hk hd hu hret
  rcases s with ⟨hp0, gs0, dr0, tk0, os0⟩
  dsimp only at F N hret
  simp only [BS.led, Bk.led, List.cons_append, List.nil_append] at N
  k_with_none
  k_with "om" => first | (with_reducible first | assumption | exact Mine.r1 (by assumption) (by k_dflt exact rfl) | exact Mine.r2 (by assumption) (by k_dflt exact rfl) | exact Mine.r0 (by assumption) | exact Mine.v7 (by assumption) (by assumption) (by k_dflt exact rfl) | exact Mine.w2 (by assumption) (by assumption) (by assumption) (by k_dflt exact rfl) | exact Int.natCast_nonneg _ | exact Int.le_refl _ | exact Nat.le_refl _) | (first | lia | omega)
  k_with "rm" => first | ((try dsimp only [depth_under_make, depth_under_kw, depth_in1, depth_deeper, depth_caller, units_in1, units_deeper, Around.mark_units, units_caller, units_under_make, ktrTop]); walk_at "om") | ktr_room | ktr_units
  k_with "con_enter" => (refine' Mine.code_defQ ?k1z29 ?k2z29 ?k3z29 ?k4z29 ?k5z29 ?kAz29 ?kFz29 ?kKz29 ?k6z29 ?k7z29 ?k8z29 ?k9z29 ?kBz29 ?_ ?c2z29 ?c3z29 ?c4z29 ?c5z29; (case kAz29 => exact rfl); (case kFz29 => exact rfl); (case kKz29 => assumption); (case k1z29 => k_asm); (case k2z29 => k_asm); (case k3z29 => k_asm); (case k4z29 => k_asm); (case k5z29 => k_asm); (case k6z29 => k_is); (case k7z29 => k_is); (case k8z29 => walk_at "rm"); (case k9z29 => first | exact BindsTo.of_eq (binds := []) rfl | exact BindsTo.of_eq (binds := [(_, _)]) rfl | exact BindsTo.of_eq (binds := [(_, _), (_, _)]) rfl | exact BindsTo.of_eq (binds := [(_, _), (_, _), (_, _)]) rfl | exact BindsTo.of_eq (binds := [(_, _), (_, _), (_, _), (_, _)]) rfl | exact BindsTo.of_eq (binds := [(_, _), (_, _), (_, _), (_, _), (_, _)]) rfl | exact BindsTo.of_eq rfl); (case c5z29 => decide); (case kBz29 => exact locs rfl); (case c2z29 => exact rfl); (case c3z29 => exact rfl); (case c4z29 => exact rfl); k_whole; intro g' L' h' tk' FG' F' N' B' X' T' S' hL' qk ek)
  k_with "k_enter" => k_dflt (refine' Mine.code_defEQ ?k1z31 ?k2z31 ?k3z31 ?k4z31 ?k5z31 ?kAz31 ?kFz31 ?kKz31 ?k6z31 ?k7z31 ?k8z31 ?k9z31 ?kBz31 ?_ ?c2z31 ?c3z31 ?c4z31 ?c5z31; (case kAz31 => exact rfl); (case kFz31 => exact rfl); (case kKz31 => first | exact rfl | assumption); (case k1z31 => k_asm); (case k2z31 => k_asm); (case k3z31 => k_asm); (case k4z31 => k_asm); (case k5z31 => k_asm); (case k6z31 => k_is); (case k7z31 => k_is); (case k8z31 => walk_at "rm"); (case k9z31 => first | exact BindsTo.of_eq (binds := []) rfl | exact BindsTo.of_eq (binds := [(_, _)]) rfl | exact BindsTo.of_eq (binds := [(_, _), (_, _)]) rfl | exact BindsTo.of_eq (binds := [(_, _), (_, _), (_, _)]) rfl | exact BindsTo.of_eq (binds := [(_, _), (_, _), (_, _), (_, _)]) rfl | exact BindsTo.of_eq (binds := [(_, _), (_, _), (_, _), (_, _), (_, _)]) rfl | exact BindsTo.of_eq rfl); (case c5z31 => decide); (case kBz31 => exact locs rfl); (case c2z31 => exact rfl); (case c3z31 => exact rfl); (case c4z31 => exact rfl); k_whole; intro g' L' h' tk' FG' F' N' B' X' T' qk ek)
  k_with "k_all" => assumption
  k_with "key mem" => fail
  k_with "k_mem" => (k_whole; walk_at "key mem")
  k_with "k_ne" => ((refine neN ?_; (try dsimp only)); first | (refine' Mine.ne_below ?kb9z33 ?km9z33; (case kb9z33 => with_reducible assumption); (case km9z33 => walk_at "key mem")) | (refine' Mine.ne_above ?kb9z33 ?km9z33; (case kb9z33 => with_reducible assumption); (case km9z33 => walk_at "key mem")) | walk_at "ne find" | (first | lia | omega))
  k_with "k_all" => (refine' Mine.all_below ?kb9z30 ?km9z30; (case kb9z30 => with_reducible assumption); (case km9z30 => exact rfl))
  k_with "ne find" => first | with_reducible assumption | (refine Ne.symm ?_; with_reducible assumption) | (refine Nat.ne_of_lt ?_; with_reducible assumption) | (refine Nat.ne_of_gt ?_; with_reducible assumption) | ((with_reducible rename _ ∧ _ => hc9); have hc8 := hc9.1; have hc7 := hc9.2; clear hc9; walk_at "ne find")
  k_with "spliced" => (k_here; (refine PyProof.Rows.args_nil ?_); (try dsimp only [List.cons_append, List.nil_append]); (with_reducible show _ ∧ _))
  k_with "compareOp Eq str str" => (k_here; first | (refine Mine.eq_lit true (by decide +kernel) ?_) | (refine Mine.eq_lit false (by decide +kernel) ?_))
  k_with "subscriptTail" => (k_here; (with_reducible show wpAny _ _ (subscriptTail _ _ (Value.ref _) (Value.int _ _)) _ _ _); k_dflt (refine' PyProof.Rows.item_list (News.isList ?Nz10 ?pz10) ?az10 ?bz10 ?xz10 ?_; (case Nz10 => k_asm); (case pz10 => k_mem); (case xz10 => k_extra "item"); (case az10 => walk_at "om"); (case bz10 => walk_at "om")))
  k_with "k_mem" => assumption
  k_with "call ref" => (k_here; (with_reducible show wpAny _ _ (call (Value.ref 782) _) _ _ _); k_dflt (refine' Mine.Raises.use (Mine.sym_raises ?h1z91 ?h2z91) ?k1z91 ?k2z91 ?k3z91 ?k4z91 ?k5z91 ?kKz91 ?kdz91 ?kuz91 ?kfz91 ?_; (case k1z91 => k_asm); (case k2z91 => k_asm); (case k3z91 => k_asm); (case k4z91 => k_asm); (case k5z91 => k_asm); (case kKz91 => first | exact rfl | assumption); (case h1z91 => assumption); (case h2z91 => assumption); (case kfz91 => exact List.forall_mem_nil _); (case kdz91 => walk_at "rm"); (case kuz91 => walk_at "rm")); intro e' D' oD' tz' h' tk' hl' hR')
  k_with "item" => assumption
  (refine Mine.an3 hl fun hi _ om0 => Mine.ex5 om0 fun f tf srt a9 t9 om1 => Mine.an2 om1 fun hf hat => ?_; clear om0 om1; (try clear hl))
  (refine Mine.ex5 (term_at ok hat) fun t1 t2 e ne dv om0 => Mine.an8 om0 fun i1 i2 o1 o2 o3 o4 o5 o6 => ?_; clear om0)
  (refine Mine.ex1 o6 fun u1 oq1 => ?_; (try clear o6); subst oq1)
  simp only at o1 o2 o3 o4 o5 hf
  have w5 := some_lt hf
  refine wpAny_call ?_
  k_dflt (k_extra "con_enter")
  k_steps
  all_goals refine on_end (by assumption) (by assumption) rfl (by assumption) N (by assumption) (by assumption) (fun p hp => hp) (fun h' R => ?_)
  all_goals exact hret _ _ _ _ _ _ (by assumption) R
theorem own_raises {w : World} {c : Nat} {S : BS} {cs : List (Str × Value)} {i t : Nat} {tt : Tok} {sh : Addr} (ok : SOK PySem.Challenge.rw_rg0213_01.row.prog w c S) (hc : c ≤ 1000) (hl : (Leaf.name i).Is S cs t) (hn : textAt i = none) :
    Raises PySem.Challenge.rw_rg0213_01.row.prog w 12 739 [.ref (S.B.A 1), .int t tt, .ref sh] S.led := by
  have hl0 := hl
  (refine Mine.an3 hl fun hi _ om0 => Mine.ex5 om0 fun f tf srt a9 t9 om1 => Mine.an2 om1 fun hf hat => ?_; clear om0 om1; (try clear hl))
  obtain ⟨B, xs, imms, kvs⟩ := S
  have mono := ok.bk.mono
  have apart := ok.bk.apart
  simp only at mono apart
  unfold Raises
  intro mean mg mb dp un gd cn' cs' a ccd cl outer A₀ base h₀ L m s Q E B' F X N T hk hd hu hret
  rcases s with ⟨hp0, gs0, dr0, tk0, os0⟩
  dsimp only at F N hret
  simp only [BS.led, Bk.led, List.cons_append, List.nil_append] at N
  (refine Mine.ex5 (term_at ok hat) fun t1 t2 e ne dv om0 => Mine.an8 om0 fun i1 i2 o1 o2 o3 o4 o5 o6 => ?_; clear om0)
  simp only at o1 o2 o3 o4 o5
  k_with_none
  k_with "om" => first | (with_reducible first | assumption | exact Mine.r1 (by assumption) (by k_dflt exact rfl) | exact Mine.r2 (by assumption) (by k_dflt exact rfl) | exact Mine.r0 (by assumption) | exact Mine.v7 (by assumption) (by assumption) (by k_dflt exact rfl) | exact Int.natCast_nonneg _ | exact Int.le_refl _ | exact Nat.le_refl _) | (first | lia | omega)
  k_with "rm" => first | ((try dsimp only [depth_under_make, depth_under_kw, depth_in1, depth_deeper, depth_caller, units_in1, units_deeper, Around.mark_units, units_caller, units_under_make, ktrTop]); walk_at "om") | ktr_room | ktr_units
  k_with "k_enter" => k_dflt (refine' Mine.code_defEQ ?k1z31 ?k2z31 ?k3z31 ?k4z31 ?k5z31 ?kAz31 ?kFz31 ?kKz31 ?k6z31 ?k7z31 ?k8z31 ?k9z31 ?kBz31 ?_ ?c2z31 ?c3z31 ?c4z31 ?c5z31; (case kAz31 => exact rfl); (case kFz31 => exact rfl); (case kKz31 => first | exact rfl | assumption); (case k1z31 => k_asm); (case k2z31 => k_asm); (case k3z31 => k_asm); (case k4z31 => k_asm); (case k5z31 => k_asm); (case k6z31 => k_is); (case k7z31 => k_is); (case k8z31 => walk_at "rm"); (case k9z31 => first | exact BindsTo.of_eq (binds := []) rfl | exact BindsTo.of_eq (binds := [(_, _)]) rfl | exact BindsTo.of_eq (binds := [(_, _), (_, _)]) rfl | exact BindsTo.of_eq (binds := [(_, _), (_, _), (_, _)]) rfl | exact BindsTo.of_eq (binds := [(_, _), (_, _), (_, _), (_, _)]) rfl | exact BindsTo.of_eq (binds := [(_, _), (_, _), (_, _), (_, _), (_, _)]) rfl | exact BindsTo.of_eq rfl); (case c5z31 => decide); (case kBz31 => exact locs rfl); (case c2z31 => exact rfl); (case c3z31 => exact rfl); (case c4z31 => exact rfl); k_whole; intro g' L' h' tk' FG' F' N' B' X' T' qk ek)
  k_with "k_all" => assumption
  k_with "key mem" => fail
  k_with "k_mem" => (k_whole; walk_at "key mem")
  k_with "k_ne" => ((refine neN ?_; (try dsimp only)); first | (refine' Mine.ne_below ?kb9z33 ?km9z33; (case kb9z33 => with_reducible assumption); (case km9z33 => walk_at "key mem")) | (refine' Mine.ne_above ?kb9z33 ?km9z33; (case kb9z33 => with_reducible assumption); (case km9z33 => walk_at "key mem")) | walk_at "ne find" | (first | lia | omega))
  k_with "k_all" => (refine' Mine.all_below ?kb9z30 ?km9z30; (case kb9z30 => with_reducible assumption); (case km9z30 => exact rfl))
  k_with "ne find" => first | with_reducible assumption | (refine Ne.symm ?_; with_reducible assumption) | (refine Nat.ne_of_lt ?_; with_reducible assumption) | (refine Nat.ne_of_gt ?_; with_reducible assumption) | ((with_reducible rename _ ∧ _ => hc9); have hc8 := hc9.1; have hc7 := hc9.2; clear hc9; walk_at "ne find")
  k_with "spliced" => (k_here; (refine PyProof.Rows.args_nil ?_); (try dsimp only [List.cons_append, List.nil_append]); (with_reducible show _ ∧ _))
  k_with "subscriptTail" => (k_here; (with_reducible show wpAny _ _ (subscriptTail _ _ (Value.ref _) (Value.int _ _)) _ _ _); k_dflt (refine' PyProof.Rows.item_list (News.isList ?Nz10 ?pz10) ?az10 ?bz10 ?xz10 ?_; (case Nz10 => k_asm); (case pz10 => k_mem); (case xz10 => k_extra "item"); (case az10 => walk_at "om"); (case bz10 => walk_at "om")))
  k_with "k_mem" => assumption
  k_with "con_enterC" => (refine' Mine.code_defCS ?k1z34 ?k2z34 ?k3z34 ?k4z34 ?k5z34 ?kAz34 ?kFz34 ?kKz34 ?k6z34 ?k7z34 ?k8z34 ?k9z34 ?kBz34 ?kDz34 ?_ ?c2z34 ?c3z34 ?c4z34; (case kAz34 => exact rfl); (case kFz34 => exact rfl); (case kKz34 => assumption); (case k1z34 => k_asm); (case k2z34 => k_asm); (case k3z34 => k_asm); (case k4z34 => k_asm); (case k5z34 => k_asm); (case k6z34 => k_is); (case k7z34 => k_is); (case k8z34 => walk_at "rm"); (case k9z34 => first | exact BindsTo.of_eq (binds := []) rfl | exact BindsTo.of_eq (binds := [(_, _)]) rfl | exact BindsTo.of_eq (binds := [(_, _), (_, _)]) rfl | exact BindsTo.of_eq (binds := [(_, _), (_, _), (_, _)]) rfl | exact BindsTo.of_eq (binds := [(_, _), (_, _), (_, _), (_, _)]) rfl | exact BindsTo.of_eq (binds := [(_, _), (_, _), (_, _), (_, _), (_, _)]) rfl | exact BindsTo.of_eq rfl); (case kBz34 => exact rfl); (case kDz34 => decide +kernel); (case c2z34 => exact rfl); (case c3z34 => exact rfl); (case c4z34 => exact rfl); k_whole; intro g' L' h' tk' cells' FG' F' N' Y' B' X' T' S' l1; (try k_lt l1); k_cells Y'; (try simp only [List.cons_append, List.nil_append] at N'); (try dsimp only); (try k_fold))
  k_with "call ref" => (k_here; (with_reducible show wpAny _ _ (call (Value.ref 727) _) _ _ _); k_extra "leaf call")
  k_with "call builtin:len" => (k_here; (with_reducible show wpAny _ _ (call (Value.builtin "len") [Value.ref _]) _ _ _); k_dflt (refine' PyProof.Rows.len_tuple (News.isTup ?Nz93 ?pz93) ?zz93 ?_; (case Nz93 => k_asm); (case pz93 => k_extra "tup"); (case zz93 => decide)))
  k_with "item" => assumption
  k_with "leaf call" => (k_dflt (refine' Mine.Raises.use (Mine.leaf_raises ok hc hl0 hn) ?k1 ?k2 ?k3 ?k4 ?k5 ?kK ?kd ?ku ?kf ?_; (case k1 => k_asm); (case k2 => k_asm); (case k3 => k_asm); (case k4 => k_asm); (case k5 => k_asm); (case kK => first | exact rfl | assumption); (case kf => (simp only [BS.led, Bk.led, List.cons_append, List.nil_append]; intro p9 hp9; refine List.mem_cons_of_mem _ ?_; exact hp9)); (case kd => walk_at "rm"); (case ku => walk_at "rm")); intro e' D' oD' tz' h' tk' hl' hR')
  k_with "tup" => (repeat (first | exact o3 | refine List.mem_cons_of_mem _ ?_))
  refine wpAny_call ?_
  k_dflt (k_extra "con_enterC")
  k_steps
  all_goals refine on_end (by assumption) (by assumption) rfl (by assumption) N (by assumption) (by assumption) (fun p hp => .tail _ hp) (fun h' R => ?_)
  all_goals exact hret _ _ _ _ _ _ (by assumption) R
end Mine
end
/- R3 -/
section
open PySem PySem.W PyProof.Rows PySem.Calls PySem.Spec
namespace Mine
set_option maxRecDepth 100000
set_option maxHeartbeats 8000000
section
variable {prog : Program} {w : World} {A : Around} {E : Value → Shared → Prop} {s : Shared} {env : Env} {h₀ : Heap} {x : Str} {body : List Stmt}
theorem shown_loopR {D3 lt sh D1 du ar a1 a0 : Addr} {o3 o o1 ou p1 p0 : Obj} {W : List (Addr × Obj)} {v : Value} {n el : Nat} {m₀ : Str → Option Value} {Q : Flow → Shared → Prop} (hh : A.handled = none) (F : Fr h₀ env.locals s.heap m₀)
    (N : News h₀ env.locals s.heap ((D3, o3) :: (lt, PySem.W.listOf #[] el) :: (sh, o) :: (D1, o1) :: (du, ou) :: (ar, PySem.W.listOf #[v] n) :: (a1, p1) :: (a0, p0) :: W))
    (q1 : Below' sh (D1 :: du :: ar :: a1 :: a0 :: W.map (·.1))) (q2 : Below' lt (sh :: D1 :: du :: ar :: a1 :: a0 :: W.map (·.1)))
    (f8 : du ≠ ar) (f1 : a1 ≠ ar) (f0 : a0 ≠ ar) (fW : ∀ p ∈ W, p.1 ≠ ar)
    (turn : ∀ h tk own Z, (∀ p ∈ W, p ∈ Z) → (∀ p ∈ own, p ∈ Z) → (∀ p ∈ Z, p.1 ≠ sh) → Fr h₀ env.locals h (fun y => if y = x then some v else m₀ y) → News h₀ env.locals h ((lt, PySem.W.listOf #[] el) :: (sh, o) :: (du, ou) :: (a1, p1) :: (a0, p0) :: Z) →
      wpAny (model prog w) A (execs body env) (InvPostN h₀ env.locals (fun _ _ => False) own (lt :: sh :: du :: a1 :: a0 :: W.map (·.1)) { s with heap := h, toks := tk } Q) E { s with heap := h, toks := tk }) :
    wpAny (model prog w) A (pyIter (.ref ar)) (fun it s₂ => LoopAtV prog w A h₀ env x body Q E it s₂) E s := by
  refine one_loop (news := (lt, PySem.W.listOf #[] el) :: (sh, o) :: (du, ou) :: (a1, p1) :: (a0, p0) :: W) (fun _ _ => False) hh F N (v := v) (n := n) ?_ ?_ ?_ ?_ ?_
  · repeat (first | exact List.Mem.head _ | refine List.Mem.tail _ ?_)
  · refine List.forall_mem_cons.mpr ⟨.tail _ (.head _), List.forall_mem_cons.mpr ⟨.tail _ (.tail _ (.head _)), List.forall_mem_cons.mpr ⟨.tail _ (.tail _ (.tail _ (.tail _ (.head _)))), List.forall_mem_cons.mpr ⟨.tail _ (.tail _ (.tail _ (.tail _ (.tail _ (.tail _ (.head _)))))), List.forall_mem_cons.mpr ⟨.tail _ (.tail _ (.tail _ (.tail _ (.tail _ (.tail _ (.tail _ (.head _))))))), fun p hp => ?_⟩⟩⟩⟩⟩
    exact .tail _ (.tail _ (.tail _ (.tail _ (.tail _ (.tail _ (.tail _ (.tail _ hp)))))))
  · exact List.forall_mem_cons.mpr ⟨(Nat.ne_of_lt (q2 _ m3)).symm, List.forall_mem_cons.mpr ⟨(Nat.ne_of_lt (q1 _ m2)).symm, List.forall_mem_cons.mpr ⟨f8, List.forall_mem_cons.mpr ⟨f1, List.forall_mem_cons.mpr ⟨f0, fW⟩⟩⟩⟩⟩
  · intro h tk own off F₁ N₁
    refine turn h tk own (W ++ own) (fun p hp => List.mem_append_left _ hp) (fun p hp => List.mem_append_right _ hp) (fun p hp => ?_) F₁ N₁
    rcases List.mem_append.mp hp with hp | hp
    · exact Nat.ne_of_lt (q1 _ (.tail _ (.tail _ (.tail _ (.tail _ (.tail _ (List.mem_map_of_mem hp)))))))
    · exact off p hp sh (.tail _ (.head _))
  · rintro m₁ nx h tk q
    exact q.elim
end
theorem term_raises {w : World} {c : Nat} {S : BS} {cs : List (Str × Value)} {i t : Nat} {tt : Tok} (ok : SOK PySem.Challenge.rw_rg0213_01.row.prog w c S) (hc : c ≤ 1000) (hl : (Leaf.name i).Is S cs t) (hn : textAt i = none) :
    Raises PySem.Challenge.rw_rg0213_01.row.prog w 36 767 [.ref (S.B.A 1), .int t tt] S.led := by
  have hl0 := hl
  (refine Mine.an3 hl fun hi _ om0 => Mine.ex5 om0 fun f tf srt a9 t9 om1 => Mine.an2 om1 fun hf hat => ?_; clear om0 om1; (try clear hl))
  unfold Raises
  intro mean mg mb dp un gd cn' cs' a ccd cl outer A₀ base h₀ L m s Q E B' F X N T hk hd hu hret
  rcases s with ⟨hp0, gs0, dr0, tk0, os0⟩
  dsimp only at F N hret
  rw [S.led_eq] at N
  have hj0 : (Txt.join (Str.ofString "") []).length = 0 := by decide +kernel
  have hm0 : (Txt.mul (Str.ofString ")") 0).length = 0 := by decide +kernel
  have mono := ok.bk.mono
  have apart := ok.bk.apart
  (refine Mine.ex5 (term_at ok hat) fun t1 t2 e ne dv om0 => Mine.an8 om0 fun i1 i2 o1 o2 o3 o4 o5 o6 => ?_; clear om0)
  (refine Mine.ex1 o6 fun u1 oq1 => ?_; (try clear o6); subst oq1)
  have hop : ((Str.ofString "app").cps.toList == (Str.ofString "app").cps.toList) = true := by decide +kernel
  have hb : true = true → ∃ (f : Nat) (tf tn : Tok) (nm : Str), f < 1000 ∧ S.B.datas[t]? = some (.int f tf) ∧ S.B.fnames[f]? = some (.str nm tn) := fun _ =>
    ⟨f, u1, tf, nameAt i, Nat.lt_of_lt_of_le (some_lt hf) (Nat.le_trans ok.f3 hc), o5, hf⟩
  (refine Mine.an4 (bank_mem S) fun b4 b7 b8 b10 => ?_)
  have be := imms_mem S o3
  obtain ⟨W, hW⟩ : ∃ W, S.rest = W := ⟨_, rfl⟩
  have hWl : ∀ p ∈ W, p ∈ S.led := fun p hp => by rw [S.led_eq, hW]; exact .tail _ (.tail _ hp)
  rw [hW] at N b4 b7 b8 b10 be
  k_with_none
  k_with "om" => first | (with_reducible first | assumption | exact Mine.r2 (by assumption) (by k_dflt exact rfl) | exact Mine.r0 (by assumption) | exact Mine.n12 (by assumption) (by assumption) (by k_dflt exact rfl) | exact Int.natCast_nonneg _ | exact Int.le_refl _ | exact Nat.le_refl _) | (first | lia | omega)
  k_with "rm" => first | ((try dsimp only [depth_under_make, depth_under_kw, depth_in1, depth_deeper, depth_caller, units_in1, units_deeper, Around.mark_units, units_caller, units_under_make, ktrTop]); walk_at "om") | ktr_room | ktr_units
  k_with "con_enter" => (refine' Mine.code_defQ ?k1z29 ?k2z29 ?k3z29 ?k4z29 ?k5z29 ?kAz29 ?kFz29 ?kKz29 ?k6z29 ?k7z29 ?k8z29 ?k9z29 ?kBz29 ?_ ?c2z29 ?c3z29 ?c4z29 ?c5z29; (case kAz29 => exact rfl); (case kFz29 => exact rfl); (case kKz29 => assumption); (case k1z29 => k_asm); (case k2z29 => k_asm); (case k3z29 => k_asm); (case k4z29 => k_asm); (case k5z29 => k_asm); (case k6z29 => k_is); (case k7z29 => k_is); (case k8z29 => walk_at "rm"); (case k9z29 => first | exact BindsTo.of_eq (binds := []) rfl | exact BindsTo.of_eq (binds := [(_, _)]) rfl | exact BindsTo.of_eq (binds := [(_, _), (_, _)]) rfl | exact BindsTo.of_eq (binds := [(_, _), (_, _), (_, _)]) rfl | exact BindsTo.of_eq (binds := [(_, _), (_, _), (_, _), (_, _)]) rfl | exact BindsTo.of_eq (binds := [(_, _), (_, _), (_, _), (_, _), (_, _)]) rfl | exact BindsTo.of_eq rfl); (case c5z29 => decide); (case kBz29 => exact locs rfl); (case c2z29 => exact rfl); (case c3z29 => exact rfl); (case c4z29 => exact rfl); k_whole; intro g' L' h' tk' FG' F' N' B' X' T' S' hL' qk ek)
  k_with "newTuple" => (k_here; k_dflt (refine' Mine.newTupleS ?Fz21 ?Nz21 ?ez21 ?zz21 ?_; (case Fz21 => k_asm); (case Nz21 => k_asm); (case ez21 => (dsimp only [List.map]; (try exact rfl))); (case zz21 => kmk_size)); intro D' h' l1 F' N'; (try k_sweep))
  k_with "newList" => (k_here; k_dflt (refine' Mine.newListS ?Fz22 ?Nz22 ?ez22 ?zz22 ?_; (case Fz22 => k_asm); (case Nz22 => k_asm); (case ez22 => (dsimp only [List.map]; (try exact rfl))); (case zz22 => size_fits); k_whole); intro l' h' l1 F' N'; (try k_sweep))
  k_with "eval Dict nil nil" => (k_here; k_dflt (refine' Mine.newDictS ?Fz23 ?Nz23 (TopRead.nolimit (by k_asm)) ?ez23 ?_; (case Fz23 => k_asm); (case Nz23 => k_asm); (case ez23 => (dsimp only [List.map]; (try exact rfl))); k_whole); intro d' h' o' l1 lo' hs' hi' F' N'; (try k_sweep))
  k_with "k_all" => assumption
  k_with "key mem" => with_reducible first | exact Mine.m0 | exact Mine.m1 | exact Mine.m2 | exact Mine.m3
  k_with "k_mem" => (k_whole; walk_at "key mem")
  k_with "k_ne" => ((refine neN ?_; (try dsimp only)); first | (refine' Mine.ne_below ?kb9z33 ?km9z33; (case kb9z33 => with_reducible assumption); (case km9z33 => walk_at "key mem")) | (refine' Mine.ne_above ?kb9z33 ?km9z33; (case kb9z33 => with_reducible assumption); (case km9z33 => walk_at "key mem")) | walk_at "ne find" | (first | lia | omega))
  k_with "k_all" => (refine' Mine.all_below ?kb9z30 ?km9z30; (case kb9z30 => with_reducible assumption); (case km9z30 => exact rfl))
  k_with "ne find" => first | with_reducible assumption | (refine Ne.symm ?_; with_reducible assumption) | (refine Nat.ne_of_lt ?_; with_reducible assumption) | (refine Nat.ne_of_gt ?_; with_reducible assumption) | ((with_reducible rename _ ∧ _ => hc9); have hc8 := hc9.1; have hc7 := hc9.2; clear hc9; walk_at "ne find")
  k_with "spliced" => (k_here; (refine PyProof.Rows.args_nil ?_); (try dsimp only [List.cons_append, List.nil_append]); (with_reducible show _ ∧ _))
  k_with "exec For Name Name cons nil" => k_extra "my for"
  k_with "pit" => k_extra "my iter"
  k_with "k_mem" => assumption
  k_with "call ref" => (k_here; (with_reducible show wpAny _ _ (call (Value.ref 375) _) _ _ _); k_extra "parts call")
  k_with "call ref" => (k_here; (with_reducible show wpAny _ _ (call (Value.ref 746) _) _ _ _); k_extra "uses call")
  k_with "call ref" => (k_here; (with_reducible show wpAny _ _ (call (Value.ref 753) _) _ _ _); k_extra "names call")
  k_with "call ref" => (k_here; (with_reducible show wpAny _ _ (call (Value.ref 739) _) _ _ _); k_extra "own call")
  k_with "parts call" => (k_dflt (refine' Mine.Runs.useK (P := PartsP t) (Mine.parts_runs (ne := ne) (mono_lt mono (by decide) (by decide)) (mono_lt mono (by decide) (by decide)) (apart _ o3 0 (by decide)) (apart _ o3 1 (by decide)) (apart _ o3 8 (by decide)) (by walk_at "om") o2) ?R ?k1 ?k2 ?k3 ?k4 ?k5 ?kK ?kd ?ku ?kf ?_; (case k1 => k_asm); (case k2 => k_asm); (case k3 => k_asm); (case k4 => k_asm); (case k5 => k_asm); (case kK => first | exact rfl | assumption); (case R => exact fun r tl ⟨a, t', e', h1, h2, h3⟩ => ⟨[(a, PySem.W.listOf #[.int t t'] e')], h3, (fun p hp q hq => by rw [List.mem_singleton.mp hp]; exact (h2 q hq).symm), a, t', e', h1, rfl⟩); (case kf => exact List.forall_mem_cons.mpr ⟨by k_mem, List.forall_mem_cons.mpr ⟨by k_mem, List.forall_mem_cons.mpr ⟨by k_mem, List.forall_mem_cons.mpr ⟨by k_mem, List.forall_mem_nil _⟩⟩⟩⟩); (case kd => walk_at "rm"); (case ku => walk_at "rm")); intro r9 nw9 h9 tk9 F9 N9 f9 P9; unfold Mine.PartsP at P9; (k_dflt (refine Mine.ex3 P9 fun ar tr er om0 => Mine.an2 om0 fun e9 e9' => ?_); clear om0; (try clear P9)); subst e9; subst e9'; simp only [List.cons_append, List.nil_append] at N9)
  k_with "uses call" => (k_dflt (refine' Mine.Runs.useK (P := UsesP PySem.Challenge.rw_rg0213_01.row.prog w) (Mine.uses_runs (ne := ne) (n := er) (tt := tr) (mono_lt mono (by decide) (by decide)) (mono_lt mono (by decide) (by decide)) (apart _ o3 0 (by decide)) (apart _ o3 1 (by decide)) (apart _ o3 8 (by decide)) (f9 _ (.head _) _ (.tail _ (.head _))) (f9 _ (.head _) _ (.head _)) (f9 _ (.head _) _ (.tail _ (.tail _ b8))) (f9 _ (.head _) _ (.tail _ (.tail _ be))) (by walk_at "om") o2) ?R ?k1 ?k2 ?k3 ?k4 ?k5 ?kK ?kd ?ku ?kf ?_; (case k1 => k_asm); (case k2 => k_asm); (case k3 => k_asm); (case k4 => k_asm); (case k5 => k_asm); (case kK => first | exact rfl | assumption); (case R => exact fun r tl ⟨d, o, h1, h2, h3, h4, h5⟩ => ⟨[(d, o)], h5, (fun p hp q hq => by rw [List.mem_singleton.mp hp]; exact h4 q hq), d, o, h1, h2, h3, rfl⟩); (case kf => exact List.forall_mem_cons.mpr ⟨by k_mem, List.forall_mem_cons.mpr ⟨by k_mem, List.forall_mem_cons.mpr ⟨by k_mem, List.forall_mem_cons.mpr ⟨by k_mem, List.forall_mem_cons.mpr ⟨by k_mem, List.forall_mem_nil _⟩⟩⟩⟩⟩); (case kd => walk_at "rm"); (case ku => walk_at "rm")); intro r8 nw8 h8 tk8 F8 N8 f8 P8; unfold Mine.UsesP at P8; (k_dflt (refine Mine.ex2 P8 fun du ou om0 => Mine.an4 om0 fun e8 hou lou e8' => ?_); clear om0; (try clear P8)); subst e8; subst e8'; simp only [List.cons_append, List.nil_append] at N8)
  k_with "names call" => (k_dflt (refine' Mine.Runs.useK (P := NamesP) (Mine.names_runs (n := er) (tt := tr) mono (f9 _ (.head _) _ (.tail _ (.head _))) (f9 _ (.head _) _ (.head _)) (f9 _ (.head _) _ (.tail _ (.tail _ b4))) (f9 _ (.head _) _ (.tail _ (.tail _ b7))) (f9 _ (.head _) _ (.tail _ (.tail _ b10))) (by walk_at "om") o1 hop hb) ?R ?k1 ?k2 ?k3 ?k4 ?k5 ?kK ?kd ?ku ?kf ?_; (case k1 => k_asm); (case k2 => k_asm); (case k3 => k_asm); (case k4 => k_asm); (case k5 => k_asm); (case kK => first | exact rfl | assumption); (case R => exact fun r tl ⟨d, h1, h2⟩ => ⟨[], h2, (fun p hp => nomatch hp), d, h1, rfl⟩); (case kf => exact List.forall_mem_cons.mpr ⟨by k_mem, List.forall_mem_cons.mpr ⟨by k_mem, List.forall_mem_cons.mpr ⟨by k_mem, List.forall_mem_cons.mpr ⟨by k_mem, List.forall_mem_cons.mpr ⟨by k_mem, List.forall_mem_cons.mpr ⟨by k_mem, List.forall_mem_nil _⟩⟩⟩⟩⟩⟩); (case kd => walk_at "rm"); (case ku => walk_at "rm")); intro r7 nw7 h7 tk7 F7 N7 f7 P7; unfold Mine.NamesP at P7; (k_dflt (refine Mine.ex1 P7 fun dn om0 => Mine.an2 om0 fun e7 e7' => ?_); clear om0; (try clear P7)); subst e7; subst e7'; simp only [List.nil_append] at N7; clear f7)
  k_with "own call" => (k_dflt (refine' Mine.Raises.use (Mine.own_raises ok hc hl0 hn) ?k1 ?k2 ?k3 ?k4 ?k5 ?kK ?kd ?ku ?kf ?_; (case k1 => k_asm); (case k2 => k_asm); (case k3 => k_asm); (case k4 => k_asm); (case k5 => k_asm); (case kK => first | exact rfl | assumption); (case kf => (intro p hp; rw [S.led_eq, hW] at hp; (repeat (first | exact sub_two hWZ hp | refine List.Mem.tail _ ?_)))); (case kd => walk_at "rm"); (case ku => walk_at "rm")); intro e' D' oD' tz' h' tk' hl' hR')
  k_with "my iter" => ((with_reducible show wpAny _ _ (pyIter (Value.ref _)) (fun it s₂ => LoopAtV _ _ _ _ _ _ _ _ _ it s₂) _ _); (with_reducible rename Fr _ _ _ _ => kF); (with_reducible rename News _ _ _ _ => kN); (k_dflt (refine' shown_loopR (by rfl) kF kN ?q1 ?q2 (f8 _ (.head _) _ (.head _)) (f9 _ (.head _) _ (.head _)).symm (f9 _ (.head _) _ (.tail _ (.head _))).symm (fun p hp => (f9 _ (.head _) p (.tail _ (.tail _ hp))).symm) ?_)); (case q1 => assumption); (case q2 => assumption); (intro h4 tk4 own4 Z4 hWZ hOZ hZs F4 N4))
  k_with "bv dict" => assumption
  k_with "bv at" => exact one_at
  k_with "my for" => ((rename Fr _ _ _ _ => lF'); (with_unfolding_all refine' For_invVF lF' ?k1 ?k2 ?_; (case k1 => exact rfl); (case k2 => exact rfl); k_whole))
  refine wpAny_call ?_
  k_dflt (k_extra "con_enter")
  k_steps
  all_goals refine on_end (by assumption) (by assumption) rfl (by assumption) N (by assumption) (by assumption) (fun p hp => by (repeat (first | exact sub_two hWZ hp | refine List.Mem.tail _ ?_))) (fun h' R => ?_)
  all_goals exact hret _ _ _ _ _ _ (by assumption) R
end Mine
end
/- R4 -/
section
open PySem PySem.W PyProof.Rows PySem.Calls PySem.Spec
namespace Mine
set_option maxRecDepth 100000
set_option maxHeartbeats 8000000
section
variable {prog : Program} {w : World} {A A₀ : Around} {s : Shared} {K : Frag} {L : Addr} {h₀ base : Heap} {m mg mb : Str → Option Value} {news : List (Addr × Obj)} {p : Program} {loose : List Str} {mean : ExcName → Option Value}
theorem code_defT {hp0 : Heap} {gs0 : Array GenState} {dr0 : Drawn} {tk0 : Nat} {os0 : OsState} {env : Env} {outer : List Env} {R : Result → Shared → Prop} {name qual : Str} {params : Arguments} {body : List Stmt} {scope : Scope} {dV kV doc pm cdv ct oc : Value} {an od : Option Addr} {osl : Array (Option Value)} {f : Addr} {args : Args} {binds : List (Str × Value)}
    (B : Below A₀ base outer h₀) (F : Fr h₀ L hp0 m) (X₀ : K.In h₀) (N : News h₀ L hp0 news) (T : Top p loose mean mg mb h₀) (hA : A.frames = some (env :: outer)) (hf : env.frame = some L) (hke : env.scope.kind = .function)
    (ho : K.lookup f = some ⟨oc, od, .func (fnOf name qual params body scope dV kV doc pm an cdv ct), osl⟩) (hcd : codeIn K cdv qual = true) (hroom : A.depth < recursionLimit)
    (hbind : BindsTo ⟨hp0, gs0, dr0, tk0, os0⟩ (fnOf name qual params body scope dV kV doc pm an cdv ct) args binds) (hloc : ∀ y ∈ binds, scope.names.lookup y.1 = some .local)
    (h : ∀ g L' h₁ tk, Fr h₀ L g m → Fr g L' h₁ (fun y => binds.reverse.lookup y) → News g L' h₁ news → Below A base (env :: outer) g → K.In g → Top p loose mean mg mb g → Grows news hp0 g → hp0.objs.size ≤ L' →
      wpAny (model prog w) (A.deeper (envOf qual scope L' f cdv)) (execs body (envOf qual scope L' f cdv))
        (fun fl s' => R (.ok (.ret (match fl with | .ret v => v | _ => .none))) s')
        (fun e s' => wpAny (model prog w) (A.deeper (envOf qual scope L' f cdv)) (leaving (envOf qual scope L' f cdv) e) (fun _ s'' => R (.error e) s'') (fun e' s'' => R (.error e') s'') s')
        ⟨h₁, gs0, dr0, tk, os0⟩)
    (hco : scope.isCoroutine = false) (hgen : scope.isGenerator = false) (hk : scope.kind = .function)
    (hcell : ∀ x ∈ scope.names, x.2 ≠ .cell) : codeAny (model prog w) A (.call (.ref f) args) R ⟨hp0, gs0, dr0, tk0, os0⟩ := by
  (refine Mine.an4 (groundX (R := R) (s := ⟨hp0, gs0, dr0, tk0, os0⟩) B F N hA hf hke) fun FG BG st lv => ?_)
  refine codeAny_call_def (fd := fnOf name qual params body scope dV kV doc pm an cdv ct) (body := body) (binds := binds) hroom ((X₀.keeps F.keep) _ _ ho) rfl (T.nolimit.keeps F.keep) (codeRec_of (X₀.keeps F.keep) hcd) rfl hbind hcell hloc (fun h₁ hns hk₁ => ?_) hco hgen hk
  exact h _ hp0.objs.size h₁ _ FG ⟨hns, fun b o e => hk₁ b o (of_hideAll _ e), Nat.le_of_eq (hideAll_size _ _)⟩
    (fun p hp => ⟨hk₁ _ _ (N p hp).1, Nat.ne_of_lt (Heap.lt_size (N p hp).1), hideAll_none _ (List.mem_map_of_mem hp)⟩) BG (X₀.keeps st) (T.keeps st)
      (fun b o e n => hideAll_get _ e fun q => by (refine Mine.ex1 (List.mem_map.mp q) fun p om0 => Mine.an2 om0 fun hp oq2 => ?_; clear om0; subst oq2); exact n p hp rfl) (Nat.le_refl _)
end
theorem back_frame {h₀ h h' : Heap} {L L' e D : Addr} {m m' : Str → Option Value} {oe oD oc : Obj} {sl : Array (Option Value)} {full : List (Addr × Obj)} (F : Fr h₀ L h m) (hoc : h.get? L = some oc) (F' : Fr h₀ L' h' m') (N : News h₀ L h full) (N' : News h₀ L' h' ((e, oe) :: (D, oD) :: (L, { oc with slots := sl }) :: full)) :
    Fr h₀ L h' m ∧ News h₀ L h' full := by
  (refine Mine.ex3 F.ns fun oL es ep om0 => Mine.an3 om0 fun hL hd r => ?_; clear om0)
  have : oL = oc := Option.some.inj (hL.symm.trans hoc)
  subst this
  exact ⟨⟨⟨_, es, ep, (N' _ (.tail _ (.tail _ (.head _)))).1, hd, r⟩, F'.keep, F.above⟩, fun p hp => ⟨(N' p (.tail _ (.tail _ (.tail _ hp)))).1, (N p hp).2⟩⟩
theorem refused_0 {w : World} {c : Nat} {S : BS} {css : List (Str × Value)} {i t : Nat} {tt tw : Tok} (ok : SOK PySem.Challenge.rw_rg0213_01.row.prog w c S) (hc : c ≤ 1000) (hl : (Leaf.name i).Is S css t) (hn : textAt i = none)
    {mean : ExcName → Option Value} {mg mb : Str → Option Value} {dp un : Nat} {gd : Option (List Code)} {cn : Str} {cs : Scope} {a : Addr} {ccd : Value} {cl : List (Str × Addr)} {A₀ : Around} {base h₀ : Heap} {L : Addr} {m : Str → Option Value} {s : Shared}
    {Q E : Value → Shared → Prop} {full : List (Addr × Obj)} (B : Below A₀ base [] h₀) (F : Fr h₀ L s.heap m) (X : (Mine.heap w.params).In h₀) (N : News h₀ L s.heap full) (sub : ∀ p ∈ S.led, p ∈ full)
    (T : Top Mine.view (looseW Mine.view Mine.loose) mean mg mb h₀) (hk : cs.kind = .function)
    (hd : dp + 40 < recursionLimit) (hu : un + 330 < cLine)
    (hret : ∀ h' tk', Fr h₀ L h' m → News h₀ L h' full → Q (.bool true) { s with heap := h', toks := tk' }) :
    wpAny (model PySem.Challenge.rw_rg0213_01.row.prog w) (ktrTop dp un gd cn cs L a ccd cl []) (call (.ref 850) [.ref (S.B.A 1), .int t tt, .int 0 tw]) Q E s := by
  (refine Mine.ex3 (id F.ns) fun oc esL epL om0 => Mine.an3 om0 fun hoc hod _ => ?_; clear om0)
  k_with_none
  k_with "om" => first | (with_reducible first | assumption | exact Mine.r2 (by assumption) (by k_dflt exact rfl) | exact Mine.r0 (by assumption) | exact Int.natCast_nonneg _ | exact Int.le_refl _ | exact Nat.le_refl _) | (first | lia | omega)
  k_with "rm" => first | ((try dsimp only [depth_under_make, depth_under_kw, depth_in1, depth_deeper, depth_caller, units_in1, units_deeper, Around.mark_units, units_caller, units_under_make, ktrTop]); walk_at "om") | ktr_room | ktr_units
  k_with "k_all" => assumption
  k_with "key mem" => fail
  k_with "k_mem" => (k_whole; walk_at "key mem")
  k_with "k_ne" => ((refine neN ?_; (try dsimp only)); first | (refine' Mine.ne_below ?kb9z33 ?km9z33; (case kb9z33 => with_reducible assumption); (case km9z33 => walk_at "key mem")) | (refine' Mine.ne_above ?kb9z33 ?km9z33; (case kb9z33 => with_reducible assumption); (case km9z33 => walk_at "key mem")) | walk_at "ne find" | (first | lia | omega))
  k_with "k_all" => (refine' Mine.all_below ?kb9z30 ?km9z30; (case kb9z30 => with_reducible assumption); (case km9z30 => exact rfl))
  k_with "ne find" => first | with_reducible assumption | (refine Ne.symm ?_; with_reducible assumption) | (refine Nat.ne_of_lt ?_; with_reducible assumption) | (refine Nat.ne_of_gt ?_; with_reducible assumption) | ((with_reducible rename _ ∧ _ => hc9); have hc8 := hc9.1; have hc7 := hc9.2; clear hc9; walk_at "ne find")
  k_with "spliced" => (k_here; (refine PyProof.Rows.args_nil ?_); (try dsimp only [List.cons_append, List.nil_append]); (with_reducible show _ ∧ _))
  k_with "k_mem" => assumption
  k_with "call ref" => (k_here; (with_reducible show wpAny _ _ (call (Value.ref 727) _) _ _ _); k_extra "leaf call")
  k_with "noteFrame ref" => k_extra "catch"
  k_with "con_enterT" => (refine' Mine.code_defT ?k1z103 ?k2z103 ?k3z103 ?k4z103 ?k5z103 ?kAz103 ?kFz103 ?kKz103 ?k6z103 ?k7z103 ?k8z103 ?k9z103 ?kBz103 ?_ ?c2z103 ?c3z103 ?c4z103 ?c5z103; (case kAz103 => exact rfl); (case kFz103 => exact rfl); (case kKz103 => assumption); (case k1z103 => k_asm); (case k2z103 => k_asm); (case k3z103 => k_asm); (case k4z103 => k_asm); (case k5z103 => k_asm); (case k6z103 => k_is); (case k7z103 => k_is); (case k8z103 => walk_at "rm"); (case k9z103 => first | exact BindsTo.of_eq (binds := []) rfl | exact BindsTo.of_eq (binds := [(_, _)]) rfl | exact BindsTo.of_eq (binds := [(_, _), (_, _)]) rfl | exact BindsTo.of_eq (binds := [(_, _), (_, _), (_, _)]) rfl | exact BindsTo.of_eq (binds := [(_, _), (_, _), (_, _), (_, _)]) rfl | exact BindsTo.of_eq (binds := [(_, _), (_, _), (_, _), (_, _), (_, _)]) rfl | exact BindsTo.of_eq rfl); (case c5z103 => decide); (case kBz103 => exact locs rfl); (case c2z103 => exact rfl); (case c3z103 => exact rfl); (case c4z103 => exact rfl); k_whole)
  k_with "getAttr ref" => (k_here; (with_reducible show wpAny _ _ (getAttr (Value.ref _) (Str.ofString "spot") _) _ _ _); k_extra "spot")
  k_with "leaf call" => (k_dflt (refine' Mine.Raises.use (Mine.leaf_raises ok hc hl hn) ?k1 ?k2 ?k3 ?k4 ?k5 ?kK ?kd ?ku ?kf ?_; (case k1 => k_asm); (case k2 => k_asm); (case k3 => k_asm); (case k4 => k_asm); (case k5 => k_asm); (case kK => first | exact rfl | assumption); (case kf => exact sub); (case kd => walk_at "rm"); (case ku => walk_at "rm")); intro e' D' oD' tz' h' tk' hl' hR')
  k_with "own call" => (k_dflt (refine' Mine.Raises.use (Mine.own_raises ok hc hl hn) ?k1 ?k2 ?k3 ?k4 ?k5 ?kK ?kd ?ku ?kf ?_; (case k1 => k_asm); (case k2 => k_asm); (case k3 => k_asm); (case k4 => k_asm); (case k5 => k_asm); (case kK => first | exact rfl | assumption); (case kf => exact fun p hp => .tail _ (sub p hp)); (case kd => walk_at "rm"); (case ku => walk_at "rm")); intro e' D' oD' tz' h' tk' hl' hR')
  k_with "term call" => (k_dflt (refine' Mine.Raises.use (Mine.term_raises ok hc hl hn) ?k1 ?k2 ?k3 ?k4 ?k5 ?kK ?kd ?ku ?kf ?_; (case k1 => k_asm); (case k2 => k_asm); (case k3 => k_asm); (case k4 => k_asm); (case k5 => k_asm); (case kK => first | exact rfl | assumption); (case kf => exact sub); (case kd => walk_at "rm"); (case ku => walk_at "rm")); intro e' D' oD' tz' h' tk' hl' hR')
  k_with "catch" => (k_dflt (refine' Mine.caught_D (C := 76) (h₀ := h₀) (news := full) (newId := "Exception.__new__") (KF := Mine.heap w.params) (R := hR') B₁ ?F ?hs ?hL rfl ?hl ?hoc ?hocd ?hLc ?N X (topRead_of T) ?ex (qx76 _) ?_ rfl rfl rfl (by decide); (case F => assumption); (case hs => exact fun b o e => Fr.keep (by assumption) b o (e4 b o e)); (case hL => exact e1); (case hl => exact Heap.get?_none_of_le F.above); (case hoc => exact Fr.keep (by assumption) L oc e5); (case hocd => exact fun vs q => by rw [hod] at q; cases q); (case hLc => exact e2); (case N => exact fun q hq => ⟨get_of (by assumption) (by first | exact hq | exact .tail _ hq), e3 q hq, (N q hq).2.2, (N q hq).2.1⟩); (case ex => kernel_rfl)); intro h6 tk6 oe6 vs6 sl6 F6 N6 c6 d6 v6)
  k_with "spot" => (k_dflt (refine' Mine.get_exc (X.keeps F6.keep) (Mine.InstAt.excD N6 (.head _) (.tail _ (.head _)) c6 d6 v6) hl' (ga76 _) (gn76 _) (mb76 _) (hd76 _) (sp76 _) rfl ?_; k_whole))
  refine wpAny_call ?_
  k_dflt (k_extra "con_enterT")
  intro g L' h₁ tk₁ FG F₁ N₁ B₁ X₁ T₁ S₁ hL₁
  have e1 := Nat.le_trans FG.above (Nat.le_of_lt (Nat.lt_of_lt_of_le FG.ns.lt F₁.above))
  have e2 := Nat.ne_of_lt (Nat.lt_of_lt_of_le FG.ns.lt F₁.above)
  have e3 : ∀ q ∈ full, q.1 ≠ L' := fun q hq => (N₁ q hq).2.1
  have e4 := FG.keep
  have e5 := S₁ L oc hoc (fun p hp => (N p hp).2.1)
  (try dsimp only)
  (try k_fold)
  k_steps
  all_goals refine hret _ _ ?_ ?_
  · exact (back_frame F hoc (by assumption) N (by assumption)).1
  · exact (back_frame F hoc (by assumption) N (by assumption)).2
theorem refused_1 {w : World} {c : Nat} {S : BS} {css : List (Str × Value)} {i t : Nat} {tt tw : Tok} (ok : SOK PySem.Challenge.rw_rg0213_01.row.prog w c S) (hc : c ≤ 1000) (hl : (Leaf.name i).Is S css t) (hn : textAt i = none)
    {mean : ExcName → Option Value} {mg mb : Str → Option Value} {dp un : Nat} {gd : Option (List Code)} {cn : Str} {cs : Scope} {a : Addr} {ccd : Value} {cl : List (Str × Addr)} {A₀ : Around} {base h₀ : Heap} {L : Addr} {m : Str → Option Value} {s : Shared}
    {Q E : Value → Shared → Prop} {full : List (Addr × Obj)} (B : Below A₀ base [] h₀) (F : Fr h₀ L s.heap m) (X : (Mine.heap w.params).In h₀) (N : News h₀ L s.heap full) (sub : ∀ p ∈ S.led, p ∈ full)
    (T : Top Mine.view (looseW Mine.view Mine.loose) mean mg mb h₀) (hk : cs.kind = .function)
    (hd : dp + 40 < recursionLimit) (hu : un + 330 < cLine)
    (hret : ∀ h' tk', Fr h₀ L h' m → News h₀ L h' full → Q (.bool true) { s with heap := h', toks := tk' }) :
    wpAny (model PySem.Challenge.rw_rg0213_01.row.prog w) (ktrTop dp un gd cn cs L a ccd cl []) (call (.ref 850) [.ref (S.B.A 1), .int t tt, .int 1 tw]) Q E s := by
  (refine Mine.ex3 (id F.ns) fun oc esL epL om0 => Mine.an3 om0 fun hoc hod _ => ?_; clear om0)
  k_with_none
  k_with "om" => first | (with_reducible first | assumption | exact Mine.r2 (by assumption) (by k_dflt exact rfl) | exact Mine.r0 (by assumption) | exact Int.natCast_nonneg _ | exact Int.le_refl _ | exact Nat.le_refl _) | (first | lia | omega)
  k_with "rm" => first | ((try dsimp only [depth_under_make, depth_under_kw, depth_in1, depth_deeper, depth_caller, units_in1, units_deeper, Around.mark_units, units_caller, units_under_make, ktrTop]); walk_at "om") | ktr_room | ktr_units
  k_with "eval Dict nil nil" => (k_here; k_dflt (refine' Mine.newDictS ?Fz23 ?Nz23 (TopRead.nolimit (by k_asm)) ?ez23 ?_; (case Fz23 => k_asm); (case Nz23 => k_asm); (case ez23 => (dsimp only [List.map]; (try exact rfl))); k_whole); intro d' h' o' l1 lo' hs' hi' F' N'; (try k_sweep))
  k_with "k_all" => assumption
  k_with "key mem" => fail
  k_with "k_mem" => (k_whole; walk_at "key mem")
  k_with "k_ne" => ((refine neN ?_; (try dsimp only)); first | (refine' Mine.ne_below ?kb9z33 ?km9z33; (case kb9z33 => with_reducible assumption); (case km9z33 => walk_at "key mem")) | (refine' Mine.ne_above ?kb9z33 ?km9z33; (case kb9z33 => with_reducible assumption); (case km9z33 => walk_at "key mem")) | walk_at "ne find" | (first | lia | omega))
  k_with "k_all" => (refine' Mine.all_below ?kb9z30 ?km9z30; (case kb9z30 => with_reducible assumption); (case km9z30 => exact rfl))
  k_with "ne find" => first | with_reducible assumption | (refine Ne.symm ?_; with_reducible assumption) | (refine Nat.ne_of_lt ?_; with_reducible assumption) | (refine Nat.ne_of_gt ?_; with_reducible assumption) | ((with_reducible rename _ ∧ _ => hc9); have hc8 := hc9.1; have hc7 := hc9.2; clear hc9; walk_at "ne find")
  k_with "spliced" => (k_here; (refine PyProof.Rows.args_nil ?_); (try dsimp only [List.cons_append, List.nil_append]); (with_reducible show _ ∧ _))
  k_with "k_mem" => assumption
  k_with "call ref" => (k_here; (with_reducible show wpAny _ _ (call (Value.ref 739) _) _ _ _); k_extra "own call")
  k_with "noteFrame ref" => k_extra "catch"
  k_with "con_enterT" => (refine' Mine.code_defT ?k1z103 ?k2z103 ?k3z103 ?k4z103 ?k5z103 ?kAz103 ?kFz103 ?kKz103 ?k6z103 ?k7z103 ?k8z103 ?k9z103 ?kBz103 ?_ ?c2z103 ?c3z103 ?c4z103 ?c5z103; (case kAz103 => exact rfl); (case kFz103 => exact rfl); (case kKz103 => assumption); (case k1z103 => k_asm); (case k2z103 => k_asm); (case k3z103 => k_asm); (case k4z103 => k_asm); (case k5z103 => k_asm); (case k6z103 => k_is); (case k7z103 => k_is); (case k8z103 => walk_at "rm"); (case k9z103 => first | exact BindsTo.of_eq (binds := []) rfl | exact BindsTo.of_eq (binds := [(_, _)]) rfl | exact BindsTo.of_eq (binds := [(_, _), (_, _)]) rfl | exact BindsTo.of_eq (binds := [(_, _), (_, _), (_, _)]) rfl | exact BindsTo.of_eq (binds := [(_, _), (_, _), (_, _), (_, _)]) rfl | exact BindsTo.of_eq (binds := [(_, _), (_, _), (_, _), (_, _), (_, _)]) rfl | exact BindsTo.of_eq rfl); (case c5z103 => decide); (case kBz103 => exact locs rfl); (case c2z103 => exact rfl); (case c3z103 => exact rfl); (case c4z103 => exact rfl); k_whole)
  k_with "getAttr ref" => (k_here; (with_reducible show wpAny _ _ (getAttr (Value.ref _) (Str.ofString "spot") _) _ _ _); k_extra "spot")
  k_with "leaf call" => (k_dflt (refine' Mine.Raises.use (Mine.leaf_raises ok hc hl hn) ?k1 ?k2 ?k3 ?k4 ?k5 ?kK ?kd ?ku ?kf ?_; (case k1 => k_asm); (case k2 => k_asm); (case k3 => k_asm); (case k4 => k_asm); (case k5 => k_asm); (case kK => first | exact rfl | assumption); (case kf => exact sub); (case kd => walk_at "rm"); (case ku => walk_at "rm")); intro e' D' oD' tz' h' tk' hl' hR')
  k_with "own call" => (k_dflt (refine' Mine.Raises.use (Mine.own_raises ok hc hl hn) ?k1 ?k2 ?k3 ?k4 ?k5 ?kK ?kd ?ku ?kf ?_; (case k1 => k_asm); (case k2 => k_asm); (case k3 => k_asm); (case k4 => k_asm); (case k5 => k_asm); (case kK => first | exact rfl | assumption); (case kf => exact fun p hp => .tail _ (sub p hp)); (case kd => walk_at "rm"); (case ku => walk_at "rm")); intro e' D' oD' tz' h' tk' hl' hR')
  k_with "term call" => (k_dflt (refine' Mine.Raises.use (Mine.term_raises ok hc hl hn) ?k1 ?k2 ?k3 ?k4 ?k5 ?kK ?kd ?ku ?kf ?_; (case k1 => k_asm); (case k2 => k_asm); (case k3 => k_asm); (case k4 => k_asm); (case k5 => k_asm); (case kK => first | exact rfl | assumption); (case kf => exact sub); (case kd => walk_at "rm"); (case ku => walk_at "rm")); intro e' D' oD' tz' h' tk' hl' hR')
  k_with "catch" => (k_dflt (refine' Mine.caught_D (C := 76) (h₀ := h₀) (news := full) (newId := "Exception.__new__") (KF := Mine.heap w.params) (R := hR') B₁ ?F ?hs ?hL rfl ?hl ?hoc ?hocd ?hLc ?N X (topRead_of T) ?ex (qx76 _) ?_ rfl rfl rfl (by decide); (case F => assumption); (case hs => exact fun b o e => Fr.keep (by assumption) b o (e4 b o e)); (case hL => exact e1); (case hl => exact Heap.get?_none_of_le F.above); (case hoc => exact Fr.keep (by assumption) L oc e5); (case hocd => exact fun vs q => by rw [hod] at q; cases q); (case hLc => exact e2); (case N => exact fun q hq => ⟨get_of (by assumption) (by first | exact hq | exact .tail _ hq), e3 q hq, (N q hq).2.2, (N q hq).2.1⟩); (case ex => kernel_rfl)); intro h6 tk6 oe6 vs6 sl6 F6 N6 c6 d6 v6)
  k_with "spot" => (k_dflt (refine' Mine.get_exc (X.keeps F6.keep) (Mine.InstAt.excD N6 (.head _) (.tail _ (.head _)) c6 d6 v6) hl' (ga76 _) (gn76 _) (mb76 _) (hd76 _) (sp76 _) rfl ?_; k_whole))
  refine wpAny_call ?_
  k_dflt (k_extra "con_enterT")
  intro g L' h₁ tk₁ FG F₁ N₁ B₁ X₁ T₁ S₁ hL₁
  have e1 := Nat.le_trans FG.above (Nat.le_of_lt (Nat.lt_of_lt_of_le FG.ns.lt F₁.above))
  have e2 := Nat.ne_of_lt (Nat.lt_of_lt_of_le FG.ns.lt F₁.above)
  have e3 : ∀ q ∈ full, q.1 ≠ L' := fun q hq => (N₁ q hq).2.1
  have e4 := FG.keep
  have e5 := S₁ L oc hoc (fun p hp => (N p hp).2.1)
  (try dsimp only)
  (try k_fold)
  k_steps
  all_goals refine hret _ _ ?_ ?_
  · exact (back_frame F hoc (by assumption) N (by assumption)).1
  · exact (back_frame F hoc (by assumption) N (by assumption)).2
theorem refused_2 {w : World} {c : Nat} {S : BS} {css : List (Str × Value)} {i t : Nat} {tt tw : Tok} (ok : SOK PySem.Challenge.rw_rg0213_01.row.prog w c S) (hc : c ≤ 1000) (hl : (Leaf.name i).Is S css t) (hn : textAt i = none)
    {mean : ExcName → Option Value} {mg mb : Str → Option Value} {dp un : Nat} {gd : Option (List Code)} {cn : Str} {cs : Scope} {a : Addr} {ccd : Value} {cl : List (Str × Addr)} {A₀ : Around} {base h₀ : Heap} {L : Addr} {m : Str → Option Value} {s : Shared}
    {Q E : Value → Shared → Prop} {full : List (Addr × Obj)} (B : Below A₀ base [] h₀) (F : Fr h₀ L s.heap m) (X : (Mine.heap w.params).In h₀) (N : News h₀ L s.heap full) (sub : ∀ p ∈ S.led, p ∈ full)
    (T : Top Mine.view (looseW Mine.view Mine.loose) mean mg mb h₀) (hk : cs.kind = .function)
    (hd : dp + 40 < recursionLimit) (hu : un + 330 < cLine)
    (hret : ∀ h' tk', Fr h₀ L h' m → News h₀ L h' full → Q (.bool true) { s with heap := h', toks := tk' }) :
    wpAny (model PySem.Challenge.rw_rg0213_01.row.prog w) (ktrTop dp un gd cn cs L a ccd cl []) (call (.ref 850) [.ref (S.B.A 1), .int t tt, .int 2 tw]) Q E s := by
  (refine Mine.ex3 (id F.ns) fun oc esL epL om0 => Mine.an3 om0 fun hoc hod _ => ?_; clear om0)
  k_with_none
  k_with "om" => first | (with_reducible first | assumption | exact Mine.r2 (by assumption) (by k_dflt exact rfl) | exact Mine.r0 (by assumption) | exact Int.natCast_nonneg _ | exact Int.le_refl _ | exact Nat.le_refl _) | (first | lia | omega)
  k_with "rm" => first | ((try dsimp only [depth_under_make, depth_under_kw, depth_in1, depth_deeper, depth_caller, units_in1, units_deeper, Around.mark_units, units_caller, units_under_make, ktrTop]); walk_at "om") | ktr_room | ktr_units
  k_with "k_all" => assumption
  k_with "key mem" => fail
  k_with "k_mem" => (k_whole; walk_at "key mem")
  k_with "k_ne" => ((refine neN ?_; (try dsimp only)); first | (refine' Mine.ne_below ?kb9z33 ?km9z33; (case kb9z33 => with_reducible assumption); (case km9z33 => walk_at "key mem")) | (refine' Mine.ne_above ?kb9z33 ?km9z33; (case kb9z33 => with_reducible assumption); (case km9z33 => walk_at "key mem")) | walk_at "ne find" | (first | lia | omega))
  k_with "k_all" => (refine' Mine.all_below ?kb9z30 ?km9z30; (case kb9z30 => with_reducible assumption); (case km9z30 => exact rfl))
  k_with "ne find" => first | with_reducible assumption | (refine Ne.symm ?_; with_reducible assumption) | (refine Nat.ne_of_lt ?_; with_reducible assumption) | (refine Nat.ne_of_gt ?_; with_reducible assumption) | ((with_reducible rename _ ∧ _ => hc9); have hc8 := hc9.1; have hc7 := hc9.2; clear hc9; walk_at "ne find")
  k_with "spliced" => (k_here; (refine PyProof.Rows.args_nil ?_); (try dsimp only [List.cons_append, List.nil_append]); (with_reducible show _ ∧ _))
  k_with "k_mem" => assumption
  k_with "call ref" => (k_here; (with_reducible show wpAny _ _ (call (Value.ref 767) _) _ _ _); k_extra "term call")
  k_with "noteFrame ref" => k_extra "catch"
  k_with "con_enterT" => (refine' Mine.code_defT ?k1z103 ?k2z103 ?k3z103 ?k4z103 ?k5z103 ?kAz103 ?kFz103 ?kKz103 ?k6z103 ?k7z103 ?k8z103 ?k9z103 ?kBz103 ?_ ?c2z103 ?c3z103 ?c4z103 ?c5z103; (case kAz103 => exact rfl); (case kFz103 => exact rfl); (case kKz103 => assumption); (case k1z103 => k_asm); (case k2z103 => k_asm); (case k3z103 => k_asm); (case k4z103 => k_asm); (case k5z103 => k_asm); (case k6z103 => k_is); (case k7z103 => k_is); (case k8z103 => walk_at "rm"); (case k9z103 => first | exact BindsTo.of_eq (binds := []) rfl | exact BindsTo.of_eq (binds := [(_, _)]) rfl | exact BindsTo.of_eq (binds := [(_, _), (_, _)]) rfl | exact BindsTo.of_eq (binds := [(_, _), (_, _), (_, _)]) rfl | exact BindsTo.of_eq (binds := [(_, _), (_, _), (_, _), (_, _)]) rfl | exact BindsTo.of_eq (binds := [(_, _), (_, _), (_, _), (_, _), (_, _)]) rfl | exact BindsTo.of_eq rfl); (case c5z103 => decide); (case kBz103 => exact locs rfl); (case c2z103 => exact rfl); (case c3z103 => exact rfl); (case c4z103 => exact rfl); k_whole)
  k_with "getAttr ref" => (k_here; (with_reducible show wpAny _ _ (getAttr (Value.ref _) (Str.ofString "spot") _) _ _ _); k_extra "spot")
  k_with "leaf call" => (k_dflt (refine' Mine.Raises.use (Mine.leaf_raises ok hc hl hn) ?k1 ?k2 ?k3 ?k4 ?k5 ?kK ?kd ?ku ?kf ?_; (case k1 => k_asm); (case k2 => k_asm); (case k3 => k_asm); (case k4 => k_asm); (case k5 => k_asm); (case kK => first | exact rfl | assumption); (case kf => exact sub); (case kd => walk_at "rm"); (case ku => walk_at "rm")); intro e' D' oD' tz' h' tk' hl' hR')
  k_with "own call" => (k_dflt (refine' Mine.Raises.use (Mine.own_raises ok hc hl hn) ?k1 ?k2 ?k3 ?k4 ?k5 ?kK ?kd ?ku ?kf ?_; (case k1 => k_asm); (case k2 => k_asm); (case k3 => k_asm); (case k4 => k_asm); (case k5 => k_asm); (case kK => first | exact rfl | assumption); (case kf => exact fun p hp => .tail _ (sub p hp)); (case kd => walk_at "rm"); (case ku => walk_at "rm")); intro e' D' oD' tz' h' tk' hl' hR')
  k_with "term call" => (k_dflt (refine' Mine.Raises.use (Mine.term_raises ok hc hl hn) ?k1 ?k2 ?k3 ?k4 ?k5 ?kK ?kd ?ku ?kf ?_; (case k1 => k_asm); (case k2 => k_asm); (case k3 => k_asm); (case k4 => k_asm); (case k5 => k_asm); (case kK => first | exact rfl | assumption); (case kf => exact sub); (case kd => walk_at "rm"); (case ku => walk_at "rm")); intro e' D' oD' tz' h' tk' hl' hR')
  k_with "catch" => (k_dflt (refine' Mine.caught_D (C := 76) (h₀ := h₀) (news := full) (newId := "Exception.__new__") (KF := Mine.heap w.params) (R := hR') B₁ ?F ?hs ?hL rfl ?hl ?hoc ?hocd ?hLc ?N X (topRead_of T) ?ex (qx76 _) ?_ rfl rfl rfl (by decide); (case F => assumption); (case hs => exact fun b o e => Fr.keep (by assumption) b o (e4 b o e)); (case hL => exact e1); (case hl => exact Heap.get?_none_of_le F.above); (case hoc => exact Fr.keep (by assumption) L oc e5); (case hocd => exact fun vs q => by rw [hod] at q; cases q); (case hLc => exact e2); (case N => exact fun q hq => ⟨get_of (by assumption) (by first | exact hq | exact .tail _ hq), e3 q hq, (N q hq).2.2, (N q hq).2.1⟩); (case ex => kernel_rfl)); intro h6 tk6 oe6 vs6 sl6 F6 N6 c6 d6 v6)
  k_with "spot" => (k_dflt (refine' Mine.get_exc (X.keeps F6.keep) (Mine.InstAt.excD N6 (.head _) (.tail _ (.head _)) c6 d6 v6) hl' (ga76 _) (gn76 _) (mb76 _) (hd76 _) (sp76 _) rfl ?_; k_whole))
  refine wpAny_call ?_
  k_dflt (k_extra "con_enterT")
  intro g L' h₁ tk₁ FG F₁ N₁ B₁ X₁ T₁ S₁ hL₁
  have e1 := Nat.le_trans FG.above (Nat.le_of_lt (Nat.lt_of_lt_of_le FG.ns.lt F₁.above))
  have e2 := Nat.ne_of_lt (Nat.lt_of_lt_of_le FG.ns.lt F₁.above)
  have e3 : ∀ q ∈ full, q.1 ≠ L' := fun q hq => (N₁ q hq).2.1
  have e4 := FG.keep
  have e5 := S₁ L oc hoc (fun p hp => (N p hp).2.1)
  (try dsimp only)
  (try k_fold)
  k_steps
  all_goals refine hret _ _ ?_ ?_
  · exact (back_frame F hoc (by assumption) N (by assumption)).1
  · exact (back_frame F hoc (by assumption) N (by assumption)).2
end Mine
end
/- LB -/
section
open PySem PySem.W PyProof.Rows PySem.Calls PySem.Spec
namespace Mine
set_option maxRecDepth 100000
noncomputable abbrev LP : Program := PySem.Challenge.rw_rg0213_01.row.prog
noncomputable def Some1 (v : Value) : Prop := (∃ b, v = .ref b) ∨ (∃ i u, v = .int i u) ∨ ∃ x u, v = .str x u
theorem due_cases {imms : List (Addr × Obj)} {o : Obj} {l : Leaf} {S : BS} {cs : List (Str × Value)} {t : Nat} (_hl : l.Is S cs t) (h : l.Due imms o) :
    (∃ i n t1, l = .name i ∧ textAt i = none ∧ o = { cls := .type "tuple", data := .seq ([.str (Str.ofString "word") t1, .none] : List Value).toArray n }) ∨
    (∃ ch v0 v1 r n, l.chars = some ch ∧ o = { cls := .type "tuple", data := .seq (v0 :: v1 :: r : List Value).toArray n } ∧ Some1 v1) := by
  cases l with
  | num r top bottom =>
    (refine Mine.ex5 h fun v t u n t1 om0 => Mine.an2 om0 fun oq5 _ => ?_; clear om0; (try clear h); subst oq5)
    exact .inr ⟨_, _, _, _, _, rfl, rfl, .inl ⟨_, rfl⟩⟩
  | bits v wd =>
    (refine Mine.ex4 h fun n t1 t2 t3 oq4 => ?_; (try clear h); subst oq4)
    exact .inr ⟨_, _, _, _, _, rfl, rfl, .inr (.inl ⟨_, _, rfl⟩)⟩
  | name i =>
    (refine Mine.ex3 h fun n t1 t2 oq3 => ?_; (try clear h); subst oq3)
    cases q : textAt i with
    | none => exact .inl ⟨i, n, t1, rfl, q, rfl⟩
    | some x => exact .inr ⟨lc x, _, _, _, n, by show (textAt i).map lc = _; rw [q]; rfl, rfl, .inr (.inr ⟨_, _, rfl⟩)⟩
  | tf b =>
    (refine Mine.ex3 h fun n t1 t2 oq3 => ?_; (try clear h); subst oq3)
    exact .inr ⟨_, _, _, _, _, rfl, rfl, .inr (.inr ⟨_, _, rfl⟩)⟩
theorem is_some1 {M : Model} {A : Around} {E : Value → Shared → Prop} {s : Shared} {v : Value} {Q : Value → Shared → Prop} (h : Some1 v) (hq : Q (.bool false) s) : wpAny M A (compareOp .Is v .none) Q E s := by
  show wpAny M A (do return Value.bool (← isSame v .none)) Q E s
  rcases h with ⟨b, rfl⟩ | ⟨i, u, rfl⟩ | ⟨x, u, rfl⟩ <;> exact wpAny_bind (wpAny_pure (wpAny_pure hq))
theorem lap_other {S : BS} {b c cd sd k1 k2 k3 : Nat} {o co so oc ct cs cb : Obj} {own : List (Addr × Obj)} 
    (hap : ∀ p ∈ S.led, p.1 ≠ sd ∧ p.1 ≠ cd ∧ p.1 ≠ b ∧ p.1 ≠ c ∧ p.1 ≠ k3 ∧ p.1 ≠ k2 ∧ p.1 ≠ k1) (off : OwnOff own (((sd, so) :: (cd, co) :: (b, o) :: (c, oc) :: (k3, ct) :: (k2, cs) :: (k1, cb) :: S.led : List (Addr × Obj)).map (·.1)))
    (q1 : sd ≠ b) (q2 : sd ≠ c) (q3 : sd ≠ cd) (q4 : k3 ≠ b ∧ k3 ≠ c ∧ k3 ≠ cd) (q5 : k2 ≠ b ∧ k2 ≠ c ∧ k2 ≠ cd) (q6 : k1 ≠ b ∧ k1 ≠ c ∧ k1 ≠ cd) :
    ∀ p ∈ (sd, so) :: (k3, ct) :: (k2, cs) :: (k1, cb) :: own, p ∈ (sd, so) :: (cd, co) :: (b, o) :: (c, oc) :: (k3, ct) :: (k2, cs) :: (k1, cb) :: (S.led ++ own) ∧ ∀ q ∈ (b, o) :: (c, oc) :: (cd, co) :: S.led, q.1 ≠ p.1 := by
  have key : ∀ x : Nat, x ≠ b → x ≠ c → x ≠ cd → (∀ p ∈ S.led, p.1 ≠ x) → ∀ q ∈ (b, o) :: (c, oc) :: (cd, co) :: S.led, q.1 ≠ x := fun x h1 h2 h3 h4 q hq => by
    rcases List.mem_cons.mp hq with rfl | hq
    · exact Ne.symm h1
    · rcases List.mem_cons.mp hq with rfl | hq
      · exact Ne.symm h2
      · rcases List.mem_cons.mp hq with rfl | hq
        · exact Ne.symm h3
        · exact h4 q hq
  have hm : ∀ q ∈ (b, o) :: (c, oc) :: (cd, co) :: S.led, q.1 ∈ (((sd, so) :: (cd, co) :: (b, o) :: (c, oc) :: (k3, ct) :: (k2, cs) :: (k1, cb) :: S.led : List (Addr × Obj)).map (·.1)) :=
    List.forall_mem_cons.mpr ⟨.tail _ (.tail _ (.head _)), List.forall_mem_cons.mpr ⟨.tail _ (.tail _ (.tail _ (.head _))), List.forall_mem_cons.mpr ⟨.tail _ (.head _), fun q hq => .tail _ (.tail _ (.tail _ (.tail _ (.tail _ (.tail _ (.tail _ (List.mem_map_of_mem hq)))))))⟩⟩⟩
  exact List.forall_mem_cons.mpr ⟨⟨.head _, key _ q1 q2 q3 fun p hp => (hap p hp).1⟩, List.forall_mem_cons.mpr ⟨⟨.tail _ (.tail _ (.tail _ (.tail _ (.head _)))), key _ q4.1 q4.2.1 q4.2.2 fun p hp => (hap p hp).2.2.2.2.1⟩, List.forall_mem_cons.mpr ⟨⟨.tail _ (.tail _ (.tail _ (.tail _ (.tail _ (.head _))))), key _ q5.1 q5.2.1 q5.2.2 fun p hp => (hap p hp).2.2.2.2.2.1⟩, List.forall_mem_cons.mpr ⟨⟨.tail _ (.tail _ (.tail _ (.tail _ (.tail _ (.tail _ (.head _)))))), key _ q6.1 q6.2.1 q6.2.2 fun p hp => (hap p hp).2.2.2.2.2.2⟩, fun p hp => ⟨.tail _ (.tail _ (.tail _ (.tail _ (.tail _ (.tail _ (.tail _ (List.mem_append_right _ hp))))))), fun q hq => Ne.symm (off p hp _ (hm q hq))⟩⟩⟩⟩⟩
theorem lap_behind {S : BS} {h₀ h : Heap} {L b c cd sd k1 k2 k3 x d : Nat} {o co so oc ct cs cb ox od oc0 o0 co0 : Obj} {S0 : BS} {own : List (Addr × Obj)}
    (N : News h₀ L h (((x, ox) :: (d, od) :: (b, o) :: (c, oc) :: (cd, co) :: S.led) ++ ((sd, so) :: (k3, ct) :: (k2, cs) :: (k1, cb) :: own)))
    (ap : ∀ p ∈ (x, ox) :: (d, od) :: (b, o) :: (c, oc) :: (cd, co) :: S.led, ∀ q ∈ (sd, so) :: (k3, ct) :: (k2, cs) :: (k1, cb) :: own, p.1 ≠ q.1) (hS : ∀ p ∈ S.led, p.1 ≠ b ∧ p.1 ≠ c ∧ p.1 ≠ cd)
    (off : OwnOff own (((sd, so) :: (cd, co0) :: (b, o0) :: (c, oc0) :: (k3, ct) :: (k2, cs) :: (k1, cb) :: S0.led : List (Addr × Obj)).map (·.1))) :
    ∃ W, News h₀ L h ((x, ox) :: (d, od) :: (sd, so) :: (cd, co) :: (b, o) :: (c, oc) :: (k3, ct) :: (k2, cs) :: (k1, cb) :: W) ∧ (∀ p ∈ S.led, p ∈ W) ∧ (∀ p ∈ own, p ∈ W) ∧ (∀ p ∈ W, p.1 ≠ sd) ∧ (∀ p ∈ W, p.1 ≠ k3) ∧ (x ≠ sd ∧ d ≠ sd ∧ x ≠ k3 ∧ d ≠ k3) ∧ (∀ p ∈ S.led, ∀ q ∈ own, p.1 ≠ q.1) ∧
      (∀ p ∈ S.led, p.1 ≠ sd ∧ p.1 ≠ cd ∧ p.1 ≠ b ∧ p.1 ≠ c ∧ p.1 ≠ k3 ∧ p.1 ≠ k2 ∧ p.1 ≠ k1) := by
  have inS : ∀ p ∈ S.led, p ∈ ((x, ox) :: (d, od) :: (b, o) :: (c, oc) :: (cd, co) :: S.led) := fun p hp => .tail _ (.tail _ (.tail _ (.tail _ (.tail _ (hp)))))
  have sds : (sd, so) ∈ ((sd, so) :: (k3, ct) :: (k2, cs) :: (k1, cb) :: own) := .head _
  have k3s : (k3, ct) ∈ ((sd, so) :: (k3, ct) :: (k2, cs) :: (k1, cb) :: own) := .tail _ (.head _)
  have k2s : (k2, cs) ∈ ((sd, so) :: (k3, ct) :: (k2, cs) :: (k1, cb) :: own) := .tail _ (.tail _ (.head _))
  have k1s : (k1, cb) ∈ ((sd, so) :: (k3, ct) :: (k2, cs) :: (k1, cb) :: own) := .tail _ (.tail _ (.tail _ (.head _)))
  have sub : ∀ p ∈ (x, ox) :: (d, od) :: (sd, so) :: (cd, co) :: (b, o) :: (c, oc) :: (k3, ct) :: (k2, cs) :: (k1, cb) :: (S.led ++ own), p ∈ ((x, ox) :: (d, od) :: (b, o) :: (c, oc) :: (cd, co) :: S.led) ++ ((sd, so) :: (k3, ct) :: (k2, cs) :: (k1, cb) :: own) :=
    List.forall_mem_cons.mpr ⟨List.mem_append_left _ (.head _), List.forall_mem_cons.mpr ⟨List.mem_append_left _ (.tail _ (.head _)), List.forall_mem_cons.mpr ⟨List.mem_append_right _ sds, List.forall_mem_cons.mpr ⟨List.mem_append_left _ (.tail _ (.tail _ (.tail _ (.tail _ (.head _))))), List.forall_mem_cons.mpr ⟨List.mem_append_left _ (.tail _ (.tail _ (.head _))), List.forall_mem_cons.mpr ⟨List.mem_append_left _ (.tail _ (.tail _ (.tail _ (.head _)))), List.forall_mem_cons.mpr ⟨List.mem_append_right _ k3s, List.forall_mem_cons.mpr ⟨List.mem_append_right _ k2s, List.forall_mem_cons.mpr ⟨List.mem_append_right _ k1s, fun p hp => (List.mem_append.mp hp).elim (fun h => List.mem_append_left _ (inS p h)) fun h => List.mem_append_right _ (.tail _ (.tail _ (.tail _ (.tail _ (h)))))⟩⟩⟩⟩⟩⟩⟩⟩⟩
  refine ⟨S.led ++ own, fun p hp => N p (sub p hp), fun p hp => List.mem_append_left _ hp, fun p hp => List.mem_append_right _ hp, fun p hp => ?_, fun p hp => ?_, ⟨ap _ (.head _) _ sds, ap _ (.tail _ (.head _)) _ sds, ap _ (.head _) _ k3s, ap _ (.tail _ (.head _)) _ k3s⟩, fun p hp q hq => ap p (inS p hp) q (.tail _ (.tail _ (.tail _ (.tail _ (hq))))), fun p hp => ?_⟩
  · rcases List.mem_append.mp hp with hp | hp
    · exact ap p (inS p hp) _ sds
    · exact off p hp sd (.head _)
  · rcases List.mem_append.mp hp with hp | hp
    · exact ap p (inS p hp) _ k3s
    · exact off p hp k3 (.tail _ (.tail _ (.tail _ (.tail _ (.head _)))))
  · exact ⟨ap p (inS p hp) _ sds, (hS p hp).2.2, (hS p hp).1, (hS p hp).2.1, ap p (inS p hp) _ k3s, ap p (inS p hp) _ k2s, ap p (inS p hp) _ k1s⟩
noncomputable def SeenOK (S : BS) (css seen : List (Str × Value)) : Prop := ∀ p ∈ seen, ∃ (l : Leaf) (t : Nat) (tt : Tok) (ch : List Nat), p.2 = .int t tt ∧ l.Is S css t ∧ l.chars = some ch ∧ lc p.1 = ch
inductive LapJ (w : World) (L : Nat) (i : Nat) (m : Str → Option Value) : List (Addr × Obj) → Prop
  | mk {S : BS} {b c cd sd : Nat} {vs : List Value} {cells : List Int} {o co so cb cs ct : Obj} {at' : Int} {ta : Tok} {css seen : List (Str × Value)} {tv : Option Value}
    (m1 : m (Str.ofString "bin_here") = some (.ref b)) (m2 : m (Str.ofString "constants") = some (.ref cd)) (e1 : cb.data = .cell (some (.ref (S.B.A 1)))) (e2 : cs.data = .cell (some (.ref sd))) (e3 : ct.data = .cell tv)
    (hb : Bin LP w c at' ta o) (h0 : 0 ≤ at') (h1 : at' ≤ 10 * (i : Int)) (hv : IntsAre vs cells) (hl : cells.length ≤ 63) (ok : SOK LP w (3 + 2 * i) S) (tf : TF S)
    (hcd : co.IsDictOf (strKind LP w) css) (hcl : css.length ≤ i) (hcons : ConsOK S css) (lcd : (cd == sysModules) = false) (hsd : so.IsDictOf (strKind LP w) seen) (hsk : SeenOK S css seen) (hsl : seen.length ≤ i) (lsd : (sd == sysModules) = false)
    (hap : ∀ p ∈ S.led, p.1 ≠ sd ∧ p.1 ≠ cd ∧ p.1 ≠ b ∧ p.1 ≠ c ∧ p.1 ≠ L + 1 + 1 + 1 ∧ p.1 ≠ L + 1 + 1 ∧ p.1 ≠ L + 1)
    (q1 : L + 1 + 1 + 1 < b) (q2 : L + 1 + 1 + 1 < cd) (q3 : L + 1 + 1 + 1 < sd) (q4 : c ≠ L + 1 + 1 + 1) (q5 : c ≠ L + 1 + 1) (q6 : c ≠ L + 1) (q7 : c ≠ b) (q8 : cd ≠ b) (q9 : cd ≠ c) (q10 : sd ≠ b) (q11 : sd ≠ c) (q12 : sd ≠ cd) :
    LapJ w L i m ((sd, so) :: (cd, co) :: (b, o) :: (c, LCg.lst vs) :: (L + 1 + 1 + 1, ct) :: (L + 1 + 1, cs) :: (L + 1, cb) :: S.led)
theorem imms_led (S : BS) {p : Addr × Obj} (h : p ∈ S.imms) : p ∈ S.led := by
  rw [S.led_eq]; exact .tail _ (.tail _ (imms_mem S h))
theorem app_num : ((Str.ofString "num").cps.toList == (Str.ofString "app").cps.toList) = false := by decide +kernel
theorem app_bv : ((Str.ofString "bvnum").cps.toList == (Str.ofString "app").cps.toList) = false := by decide +kernel
theorem app_app : ((Str.ofString "app").cps.toList == (Str.ofString "app").cps.toList) = true := by decide +kernel
theorem app_tf (b : Bool) : ((opTF b).cps.toList == (Str.ofString "app").cps.toList) = false := by cases b <;> decide +kernel
theorem leaf_key {w : World} {c t : Nat} {S : BS} {cs : List (Str × Value)} {l : Leaf} (ok : SOK LP w c S) (hc : c ≤ 1000) (hl : l.Is S cs t) : ∃ (k9 : BKey) (a9 : Addr) (t9 : Tok) (b : Bool), atKey S.xs k9 = some (a9, .int t t9) ∧
    (k9.1.cps.toList == (Str.ofString "app").cps.toList) = b ∧ (b = true → ∃ (f : Nat) (tf tn : Tok) (nm : Str), f < 1000 ∧ S.B.datas[t]? = some (.int f tf) ∧ S.B.fnames[f]? = some (.str nm tn)) := by
  cases l with
  | num r x y =>
    (refine Mine.an2 hl fun _ om0 => Mine.ex2 om0 fun a t' h => ?_; clear om0; (try clear hl))
    exact ⟨_, a, t', false, h, app_num, fun q => by cases q⟩
  | bits v wd =>
    (refine Mine.an4 hl fun _ _ _ om0 => Mine.ex4 om0 fun j tj a t' om1 => Mine.an2 om1 fun _ h => ?_; clear om0 om1; (try clear hl))
    exact ⟨_, a, t', false, h, app_bv, fun q => by cases q⟩
  | name i =>
    (refine Mine.an3 hl fun _ _ om0 => Mine.ex5 om0 fun f tf srt a9 t9 om1 => Mine.an2 om1 fun hf hat => ?_; clear om0 om1; (try clear hl))
    (refine Mine.ex5 (term_at ok hat) fun t1 t2 e ne dv om0 => Mine.an8 om0 fun i1 i2 o1 o2 o3 o4 o5 o6 => ?_; clear om0)
    (refine Mine.ex1 o6 fun u1 oq1 => ?_; (try clear o6); subst oq1)
    exact ⟨_, a9, t9, true, hat, app_app, fun _ => ⟨f, u1, tf, nameAt i, Nat.lt_of_lt_of_le (some_lt hf) (Nat.le_trans ok.f3 hc), o5, hf⟩⟩
  | tf b =>
    (refine Mine.ex2 hl fun a t' h => ?_; (try clear hl))
    exact ⟨_, a, t', false, h, app_tf b, fun q => by cases q⟩
theorem same_ne {w : World} {A : Around} {E : Value → Shared → Prop} {s : Shared} {x y : Str} {t u : Tok} {Q : Value → Shared → Prop} (e : lc x = lc y) (h : Q (.bool false) s) : wpAny (model LP w) A (compareOp .NotEq (.str x t) (.str y u)) Q E s := by
  refine P.ne_str ?_
  have : (x.cps.toList != y.cps.toList) = false := by rw [show x.cps.toList = y.cps.toList from e]; simp
  rw [this]; exact h
theorem seen_ext {S S' : BS} {cs cs' seen : List (Str × Value)} (h : SeenOK S cs seen) (g : Ext S S') (hc : ∀ k v, valueAt cs k = some v → valueAt cs' k = some v) : SeenOK S' cs' seen := fun p hp => by
  (refine Mine.ex4 (h p hp) fun l t tt ch om0 => Mine.an4 om0 fun e1 e2 e3 e4 => ?_; clear om0)
  exact ⟨l, t, tt, ch, e1, e2.ext g hc, e3, e4⟩
theorem seen_there {S : BS} {cs seen : List (Str × Value)} {x : Str} {v : Value} {l : Leaf} {t : Nat} {ch : List Nat} (h : SeenOK S cs seen) (hv : valueAt seen x = some v) (hl : l.Is S cs t) (hc : l.chars = some ch) (hx : lc x = ch) : ∃ u, v = .int t u := by
  obtain ⟨p, hp, e⟩ : ∃ p ∈ seen, p = (x, v) := by
    unfold valueAt at hv
    (refine Mine.ex1 (Option.map_eq_some_iff.mp hv) fun p om0 => Mine.an2 om0 fun q1 q2 => ?_; clear om0)
    have q3 := List.find?_some q1
    exact ⟨p, List.mem_of_find?_eq_some q1, Prod.ext (of_decide_eq_true q3) q2⟩
  subst e
  (refine Mine.ex4 (h _ hp) fun l' t' tt ch' om0 => Mine.an4 om0 fun e1 e2 e3 e4 => ?_; clear om0)
  have : t' = t := chars_inj e2 hl (e3.trans (by rw [← hx, ← e4])) hc
  subst this
  exact ⟨tt, e1⟩
theorem small_digs {a : Int} (h : Small 26010 a) : (digs a.natAbs).length ≤ 8000 := by
  exact digs_len (k := 8000) (Nat.lt_of_lt_of_le (show a.natAbs < 2 ^ 26010 from h) ten_two) (by decide)
theorem core_len {r : Bool} {x y : Int} (g : GoodNum r x y) : (coreText r x y).length ≤ 17000 := by
  have h1 := small_digs g.smallb
  have h2 := small_digs g.small
  have h3 : y.toNat = y.natAbs := toNat_abs (Int.le_trans (by decide) g.pos)
  unfold coreText
  split
  · cases r <;> simp [dot0] <;> (first | lia | omega)
  · rw [h3]
    cases r <;> simp [dot0] <;> (first | lia | omega)
theorem chars_len {S : BS} {cs : List (Str × Value)} {t : Nat} {l : Leaf} {ch : List Nat} (hl : l.Is S cs t) (hc : l.chars = some ch) : ch.length ≤ 100000 := by
  cases l with
  | num r x y =>
    have := Option.some.inj hc
    subst this
    have := core_len hl.1
    unfold numText
    split
    · simp; (first | lia | omega)
    · (first | lia | omega)
  | bits v wd =>
    have := Option.some.inj hc
    subst this
    have h2 := hl.2.1
    rw [List.length_append, bitsTo_len]
    simp; (first | lia | omega)
  | name i =>
    have hi := hl.1
    have hc : (textAt i).map lc = some ch := hc
    have : i = 0 ∨ i = 1 ∨ i = 2 ∨ i = 3 ∨ i = 4 ∨ i = 5 ∨ i = 6 ∨ i = 7 ∨ i = 8 ∨ i = 9 ∨ i = 10 ∨ i = 11 ∨ i = 12 := or13 _ (by assumption)
    rcases this with rfl | rfl | rfl | rfl | rfl | rfl | rfl | rfl | rfl | rfl | rfl | rfl | rfl <;> first | (rw [← Option.some.inj hc]; decide +kernel) | cases hc
  | tf b =>
    have := Option.some.inj hc
    subst this
    cases b <;> decide +kernel
theorem seen_put {S : BS} {cs seen : List (Str × Value)} {x : Str} {l : Leaf} {t : Nat} {tt : Tok} {ch : List Nat} (h : SeenOK S cs seen) (hl : l.Is S cs t) (hc : l.chars = some ch) (hx : lc x = ch) : SeenOK S cs (stored seen x (.int t tt)) := by
  intro p hp
  unfold stored at hp
  split at hp
  · (refine Mine.ex1 (List.mem_map.mp hp) fun q om0 => Mine.an2 om0 fun hq oq2 => ?_; clear om0; subst oq2)
    split
    · rename_i e
      exact ⟨l, t, tt, ch, rfl, hl, hc, by rw [e]; exact hx⟩
    · exact h q hq
  · rcases List.mem_append.mp hp with hp | hp
    · exact h p hp
    · rw [List.mem_singleton.mp hp]
      exact ⟨l, t, tt, ch, rfl, hl, hc, hx⟩
theorem stored_le {seen : List (Str × Value)} {x : Str} {v : Value} {n : Nat} (h : seen.length ≤ n) : (stored seen x v).length ≤ n + 1 := by
  unfold stored
  split
  · rw [List.length_map]; (first | lia | omega)
  · rw [List.length_append]; simp; (first | lia | omega)
theorem lapJ_next {w : World} {L i : Nat} {m : Str → Option Value} {S S9 : BS} {b c cd sd : Nat} {vs : List Value} {cells : List Int} {o co so cb cs ct : Obj} {at1 at9 : Int} {ta : Tok} {css seen : List (Str × Value)} {tv : Option Value}
    (m1 : m (Str.ofString "bin_here") = some (.ref b)) (m2 : m (Str.ofString "constants") = some (.ref cd)) (e1 : cb.data = .cell (some (.ref (S9.B.A 1)))) (e2 : cs.data = .cell (some (.ref sd))) (e3 : ct.data = .cell tv)
    (hb : Bin LP w c at9 ta o) (h0 : 0 ≤ at1) (h1 : at1 ≤ 10 * (i : Int)) (b1 : at1 ≤ at9) (b2 : at9 ≤ at1 + 10) (hv : IntsAre vs cells) (hl : cells.length ≤ 63) (ok : SOK LP w (3 + 2 * i + 2) S9) (tf : TF S) (ex : Ext S S9)
    (hcd : co.IsDictOf (strKind LP w) css) (hcl : css.length ≤ i + 1) (hcons : ConsOK S9 css) (lcd : (cd == sysModules) = false) (hsd : so.IsDictOf (strKind LP w) seen) (hsk : SeenOK S9 css seen) (hsl : seen.length ≤ i + 1) (lsd : (sd == sysModules) = false)
    (hap : ∀ p ∈ S9.led, p.1 ≠ sd ∧ p.1 ≠ cd ∧ p.1 ≠ b ∧ p.1 ≠ c ∧ p.1 ≠ L + 1 + 1 + 1 ∧ p.1 ≠ L + 1 + 1 ∧ p.1 ≠ L + 1)
    (q1 : L + 1 + 1 + 1 < b) (q2 : L + 1 + 1 + 1 < cd) (q3 : L + 1 + 1 + 1 < sd) (q4 : c ≠ L + 1 + 1 + 1) (q5 : c ≠ L + 1 + 1) (q6 : c ≠ L + 1) (q7 : c ≠ b) (q8 : cd ≠ b) (q9 : cd ≠ c) (q10 : sd ≠ b) (q11 : sd ≠ c) (q12 : sd ≠ cd) :
    LapJ w L (i + 1) m ((sd, so) :: (cd, co) :: (b, o) :: (c, LCg.lst vs) :: (L + 1 + 1 + 1, ct) :: (L + 1 + 1, cs) :: (L + 1, cb) :: S9.led) :=
  .mk m1 m2 e1 e2 e3 hb (Int.le_trans h0 b1) (by push_cast; (first | lia | omega)) hv hl ok (tf.ext ex) hcd hcl hcons lcd hsd hsk hsl lsd hap q1 q2 q3 q4 q5 q6 q7 q8 q9 q10 q11 q12
theorem lap_sub {S9 : BS} {W Z : List (Addr × Obj)} {a1 a2 a3 a4 a5 a6 a7 : Addr × Obj} (h : ∀ p ∈ S9.led, p ∈ W) (hz : ∀ p ∈ a1 :: a2 :: a3 :: a4 :: a5 :: a6 :: a7 :: W, p ∈ Z) : ∀ p ∈ a1 :: a2 :: a3 :: a4 :: a5 :: a6 :: a7 :: S9.led, p ∈ Z := fun p hp => hz p (by
  simp only [List.mem_cons] at hp ⊢
  rcases hp with e | e | e | e | e | e | e | hp <;> first | simp [e] | simp [h p hp])
noncomputable def GrowEnd (h₀ : Heap) (L : Addr) (J : (Str → Option Value) → List (Addr × Obj) → Prop) (own : List (Addr × Obj)) (s₁ s₂ : Shared) : Prop :=
  ∃ h' tk m' nx, s₂ = { s₁ with heap := h', toks := tk } ∧ Fr h₀ L h' m' ∧ News h₀ L h' (own ++ nx) ∧ (∀ p ∈ nx, ∀ q ∈ own, p.1 ≠ q.1) ∧ J m' nx
noncomputable def GrowPost (h₀ : Heap) (L : Addr) (J : (Str → Option Value) → List (Addr × Obj) → Prop) (own : List (Addr × Obj)) (s₁ : Shared) (Q : Flow → Shared → Prop) (f : Flow) (s₂ : Shared) : Prop :=
  match f with
  | .ret v => Q (.ret v) s₂
  | .brk => Q .next s₂
  | _ => GrowEnd h₀ L J own s₁ s₂
section
variable {prog : Program} {w : World} {A : Around} {E : Value → Shared → Prop} {s : Shared} {env : Env} {h₀ : Heap} {x : Str} {body : List Stmt} {Q : Flow → Shared → Prop}
theorem range_grow {r : Addr} {a₀ b₀ st : Int} {t₀ u₀ v₀ : Tok} {n : Nat} {m₀ : Str → Option Value} {news : List (Addr × Obj)} (J : Nat → (Str → Option Value) → List (Addr × Obj) → Prop)
    (hh : A.handled = none) (hr : IsRange s.heap r a₀ b₀ st t₀ u₀ v₀) (hsmall : Builtin.Range.small a₀ b₀ st = true) (hn : Builtin.Range.rangeSize a₀ b₀ st = (n : Int)) (F : Fr h₀ env.locals s.heap m₀) (N : News h₀ env.locals s.heap news) (hj : J 0 m₀ news)
    (turn : ∀ i t m₁ nx h tk own, i < n → OwnOff own (nx.map (·.1)) → J i m₁ nx → Fr h₀ env.locals h (fun y => if y = x then some (.int (a₀ + (i : Int) * st) t) else m₁ y) → News h₀ env.locals h (nx ++ own) →
      wpAny (model prog w) A (execs body env) (GrowPost h₀ env.locals (J (i + 1)) own { s with heap := h, toks := tk } Q) E { s with heap := h, toks := tk })
    (done : ∀ m₁ nx h tk, J n m₁ nx → Fr h₀ env.locals h m₁ → News h₀ env.locals h nx → Q .next { s with heap := h, toks := tk }) :
    wpAny (model prog w) A (pyIter (.ref r)) (fun it s₂ => LoopAtV prog w A h₀ env x body Q E it s₂) E s := by
  refine wpAny_pyIter_range hr hsmall ?_
  have W : Walks prog w A s.heap.objs.size [s.heap.objs.size] [s.heap.objs.size] n (fun i v => i < n ∧ ∃ t, v = .int (a₀ + i * st) t)
      (fun i h => IsRangeIter h s.heap.objs.size (a₀ + (i : Nat) * st) ((n : Int) - (i : Nat)) st) := (Walks.range hh _ a₀ st n).bound
  have hI : h₀.get? s.heap.objs.size = none := next_is_new F
  refine Mine.ie9 _ _ _ n _ _ m₀ news J ⟨rfl, W, fun hm => absurd F.ns.lt ((List.mem_singleton.mp hm) ▸ Nat.lt_irrefl _), fun b hb => by rw [List.mem_singleton.mp hb]; exact hI, fun p hp hq => absurd (Heap.lt_size (N p hp).1) ((List.mem_singleton.mp hq) ▸ Nat.lt_irrefl _), by show IsRangeIter _ _ _ _ _; rw [hn]; simpa using Heap.get?_push_size _ rfl, F.push _, fun p hp => ⟨Heap.get?_push_of_some _ (N p hp).1, (N p hp).2⟩, hj, ?_, fun h' tk m' news' F' N' _ hJ => done m' news' h' tk hJ F' N'⟩
  rintro i v m₁ nx s₁ own ⟨h, tk, rfl⟩ hin ⟨_, t, rfl⟩ hJ hoff hown _ hall hst F₁ N₁
  have hsep : OwnOff own (nx.map (·.1)) := by
    intro p hp b hb e
    (refine Mine.ex1 (List.mem_map.mp hb) fun q om0 => Mine.an2 om0 fun hq oq2 => ?_; clear om0; subst oq2)
    exact hoff q hq (e ▸ hown p hp)
  have hIown : ∃ o, (s.heap.objs.size, o) ∈ own := by
    have hst' : IsRangeIter h s.heap.objs.size _ _ _ := hst
    unfold IsRangeIter at hst'
    exact ⟨_, hall _ (.head _) hI _ hst'⟩
  have N₂ : News h₀ env.locals h (nx ++ own) := fun p hp => N₁ p ((List.mem_append.mp hp).elim (fun h => List.mem_append.mpr (.inr h)) fun h => List.mem_append.mpr (.inl h))
  refine wpAny_mono (turn i t m₁ nx h tk own hin hsep hJ F₁ N₂) (fun f s₂ p => ?_) fun _ _ e => e
  have fin : GrowEnd h₀ env.locals (J (i + 1)) own { s with heap := h, toks := tk } s₂ → LoopStepU h₀ env.locals [s.heap.objs.size] own (J (i + 1)) { s with heap := h, toks := tk } .next s₂ := by
    rintro ⟨h', tk', m', nx', e, F', N', ha, hm⟩
    (refine Mine.ex1 hIown fun o ho => ?_; (try clear hIown))
    exact ⟨rfl, h', tk', m', nx', e, F', N', fun p hp hq => ha p hp _ ho (List.mem_singleton.mp hq), hm⟩
  cases f with
  | ret v => exact p
  | brk => exact p
  | next => exact fin p
  | cont => exact fin p
end
theorem grow_lap {S S0 : BS} {h₀ h' : Heap} {Lr b c cd sd k1 k2 k3 tk : Nat} {o co so oc ct cs cb oc0 o0 co0 so0 ct0 : Obj} {own W Z : List (Addr × Obj)} {m' : Str → Option Value} {J : (Str → Option Value) → List (Addr × Obj) → Prop} {s₁ : Shared}
    (F : Fr h₀ Lr h' m') (N : News h₀ Lr h' Z) (sub : ∀ p ∈ (sd, so) :: (cd, co) :: (b, o) :: (c, oc) :: (k3, ct) :: (k2, cs) :: (k1, cb) :: W, p ∈ Z) (w1 : ∀ p ∈ S.led, p ∈ W) (w2 : ∀ p ∈ own, p ∈ W)
    (off : OwnOff own (((sd, so0) :: (cd, co0) :: (b, o0) :: (c, oc0) :: (k3, ct0) :: (k2, cs) :: (k1, cb) :: S0.led : List (Addr × Obj)).map (·.1))) (apo : ∀ p ∈ S.led, ∀ q ∈ own, p.1 ≠ q.1)
    (hJ : J m' ((sd, so) :: (cd, co) :: (b, o) :: (c, oc) :: (k3, ct) :: (k2, cs) :: (k1, cb) :: S.led)) : GrowEnd h₀ Lr J own s₁ { s₁ with heap := h', toks := tk } := by
  have all : ∀ p ∈ ((sd, so) :: (cd, co) :: (b, o) :: (c, oc) :: (k3, ct) :: (k2, cs) :: (k1, cb) :: S.led : List (Addr × Obj)), ∀ q ∈ own, p.1 ≠ q.1 :=
    List.forall_mem_cons.mpr ⟨fun q hq => Ne.symm (off q hq _ (.head _)), List.forall_mem_cons.mpr ⟨fun q hq => Ne.symm (off q hq _ (.tail _ (.head _))), List.forall_mem_cons.mpr ⟨fun q hq => Ne.symm (off q hq _ (.tail _ (.tail _ (.head _)))), List.forall_mem_cons.mpr ⟨fun q hq => Ne.symm (off q hq _ (.tail _ (.tail _ (.tail _ (.head _))))), List.forall_mem_cons.mpr ⟨fun q hq => Ne.symm (off q hq _ (.tail _ (.tail _ (.tail _ (.tail _ (.head _)))))), List.forall_mem_cons.mpr ⟨fun q hq => Ne.symm (off q hq _ (.tail _ (.tail _ (.tail _ (.tail _ (.tail _ (.head _))))))), List.forall_mem_cons.mpr ⟨fun q hq => Ne.symm (off q hq _ (.tail _ (.tail _ (.tail _ (.tail _ (.tail _ (.tail _ (.head _)))))))), apo⟩⟩⟩⟩⟩⟩⟩
  refine ⟨h', tk, m', _, rfl, F, fun p hp => N p ?_, all, hJ⟩
  rcases List.mem_append.mp hp with hp | hp
  · exact sub p (.tail _ (.tail _ (.tail _ (.tail _ (.tail _ (.tail _ (.tail _ (w2 p hp))))))))
  · exact lap_sub w1 sub p hp
theorem comp_end {h₀ : Heap} {L I C D : Addr} {m : Str → Option Value} {s₁ : Shared} {oI oC oD : Obj} {rest : Value → List (Addr × Obj) → Prop} {y : Value} {h' : Heap} {tk : Nat} {news' : List (Addr × Obj)}
    (F : Fr h₀ L h' m) (N : News h₀ L h' ((I, oI) :: (C, oC) :: (D, oD) :: news')) (off : LCg.Off3 I C D news') (r : rest y news') : LCg.CompEnd h₀ L m s₁ I oI C oC D oD (fun _ => True) rest y { s₁ with heap := h', toks := tk } :=
  LCg.CompEnd.intro F N news' (fun p hp => hp) off trivial r
end Mine
end
/- LC -/
section
open PySem PySem.W PyProof.Rows PySem.Calls PySem.Spec
namespace Mine
set_option maxRecDepth 100000
section
variable {prog : Program} {w : World} {A : Around} {E : Value → Shared → Prop} {s : Shared} {h₀ : Heap} {L : Addr} {m : Str → Option Value} {env : Env} {kvs : List (Str × Value)} {d : Addr} {o : Obj} {news : List (Addr × Obj)}
noncomputable abbrev DSrc (kvs : List (Str × Value)) (i : Nat) (v : Value) : Prop := ∃ k x, kvs[i]? = some (k, x) ∧ ∃ t, v = .str k t
noncomputable def DTurn (prog : Program) (w : World) (A : Around) (h₀ : Heap) (L : Addr) (m : Str → Option Value) (env : Env) (kvs : List (Str × Value)) (news : List (Addr × Obj)) (elt : Expr) (x : Str) (scope : Scope) (cl : List (Str × Addr)) (s : Shared) : Prop :=
  ∀ (i : Nat) k y t I oI C oC D m₂ h tk (ys : List Value) (E' : Value → Shared → Prop), kvs[i]? = some (k, y) → LCg.NsObj oC m₂ → m₂ x = some (.str k t) → Fr h₀ L h m → News h₀ L h ((I, oI) :: (C, oC) :: (D, LCg.lst ys) :: news) →
    wpAny (model prog w) A (eval elt (compEnvC scope cl C env)) (fun z s' => z = y ∧ ∃ h' tk', s' = { s with heap := h', toks := tk' } ∧ Fr h₀ L h' m ∧ News h₀ L h' ((I, oI) :: (C, oC) :: (D, LCg.lst ys) :: news)) E' { s with heap := h, toks := tk }
theorem rest_D {elt : Expr} {x : Str} {scope : Scope} {cl : List (Str × Addr)} {S : List (Addr × Obj) → Prop} {P : Nat → Value → Prop} {Fin : List Value → List (Addr × Obj) → Prop} (hP : ∀ i v, P i v → DSrc kvs i v) (hS : S news)
    (turn : DTurn prog w A h₀ L m env kvs news elt x scope cl s) (fin : Fin (kvs.map (·.2)) news) : ∀ k i, i + k = kvs.length → LCg.CompRest prog w A h₀ L m env elt x scope cl s S P Fin k i ((kvs.take i).map (·.2)) news
  | 0, i, e => by
    have : i = kvs.length := by (first | lia | omega)
    subst this
    refine LCg.CompRest.zero ?_
    rw [List.take_length]; exact fin
  | k + 1, i, e => by
    refine LCg.CompRest.succ ?_
    intro v I oI C oC D m₂ h tk E' hv hC hx F N off ne
    (refine Mine.ex2 (hP i v hv) fun kk y om0 => Mine.an2 om0 fun hk om1 => Mine.ex1 om1 fun t oq4 => ?_; clear om0 om1; subst oq4)
    refine wpAny_mono (turn i kk y t I oI C oC D m₂ h tk _ E' hk hC hx F N) (fun z s' hz => ?_) fun _ _ q => q
    (refine Mine.an2 hz fun oq0 om0 => Mine.ex2 om0 fun h' tk' om1 => Mine.an3 om1 fun oq3 F' N' => ?_; clear om0 om1; (try clear hz); subst oq0; subst oq3)
    refine ⟨h', tk', news, rfl, F', N', off, hS, ?_⟩
    have e2 : (kvs.take i).map (·.2) ++ [z] = (kvs.take (i + 1)).map (·.2) := by
      rw [List.take_add_one, hk]; simp
    show LCg.CompRest prog w A h₀ L m env elt x scope cl s S P Fin k (i + 1) ((kvs.take i).map (·.2) ++ [z]) news
    rw [e2]
    exact rest_D hP hS turn fin k (i + 1) (by (first | lia | omega))
theorem ListComp_D {elt iter : Expr} {x : Str} {px : Pos} {scope : Scope} {cl : List (Str × Addr)} {pos : Pos} {Q : Value → Shared → Prop} (_F₀ : Fr h₀ L s.heap m) (_N₀ : News h₀ L s.heap news)
    (hclos : closureFor scope env = pure cl) (hcell : ∀ y ∈ scope.names, y.2 ≠ .cell) (hkind : scope.kind = .function)
    (hnames : ∀ y ∈ scope.names, y.2 = .local → scope.names.lookup y.1 = some .local) (hx : scope.names.lookup x = some .local)
    (hh : A.handled = none) (lo : (d == sysModules) = false) (hsz : kvs.length ≤ sizeLine) (ho : o.IsDictOf (PySem.strKind prog w) kvs) (hm : (d, o) ∈ news)
    (h : wpAny (model prog w) A (eval iter env) (fun xv s₁ => xv = .ref d ∧ Fr h₀ L s₁.heap m ∧ News h₀ L s₁.heap news ∧
      ∀ g, DTurn prog w A h₀ L m env kvs news elt x scope cl { s₁ with heap := g } ∧ LCg.FinE h₀ L m { s₁ with heap := g } Q (kvs.map (·.2)) news) E s)
    (hs : ∀ x, foldedSetIterable iter env x = pure x) :
    wpAny (model prog w) A (eval (.ListComp elt [⟨.Name x px, iter, [], 0⟩] scope pos) env) Q E s := by
  rw [eval_ListComp]
  refine wpAny_comprehension_free (use := none) rfl hs hclos hkind hnames (wpAny_mono h (fun xv s₁ h₁ => ?_) fun _ _ e => e)
  (refine Mine.an4 h₁ fun oq0 F N R => ?_; (try clear h₁); subst oq0)
  have hD := kda_dict N hm ho
  obtain ⟨ep, hAt⟩ : ∃ ep, ∀ g : Heap, g.get? d = some o → g.DictAt (PySem.strKind prog w) d kvs ep := by
    (refine Mine.ex2 ho fun es ep r => ?_; (try clear ho))
    exact ⟨ep, fun g e => ⟨o, es, e, r⟩⟩
  have hd0 := (N _ hm).1
  have hlt : d < s₁.heap.objs.size := Heap.lt_size hd0
  refine wpAny_pyIter_dict lo (hAt _ hd0) ?_
  obtain ⟨gI, hgI⟩ : ∃ gI, gI = s₁.heap.push { cls := .type "dict_keyiterator", data := .fields #[.ref d, .int 0 0, .int kvs.length 0, .int ep 0] } := ⟨_, rfl⟩
  have up : ∀ b o', s₁.heap.get? b = some o' → (s₁.heap.push { cls := .type "dict_keyiterator", data := .fields #[.ref d, .int 0 0, .int kvs.length 0, .int ep 0] }).get? b = some o' := fun b o e => Heap.get?_push_of_some _ e
  rw [← hgI]
  rw [← hgI] at up
  refine LCg.block_U (Fin := LCg.FinE h₀ L m { s₁ with heap := gI } Q) (P := fun i v => ∃ k x, kvs[i]? = some (k, x) ∧ (PySem.strKind prog w).is k v = true) (S := fun nw => (d, o) ∈ nw) (Walks.dictKeys hh s₁.heap.objs.size d (Nat.ne_of_lt hlt) kvs ep) hsz (fun i h st => by (refine Mine.ex1 st.1 fun o om0 => Mine.an2 om0 fun e _ => ?_; clear om0); exact ⟨o, e⟩)
    (fun i h h' o' nw st e e' _ N' S => ⟨st.1.at fun o2 e2 => by rw [e] at e2; cases e2; exact e', hAt _ (N' _ S).1⟩) hcell hkind hx ⟨⟨_, by rw [hgI]; exact Heap.get?_push_size _ rfl, rfl, rfl⟩, hAt _ (up _ _ hd0)⟩ (fun b hb => ?_)
    (F.keeps up) (N.grown up) (Nat.ne_of_lt F.ns.lt) (next_is_new F) (fun p hp => Nat.ne_of_lt (Heap.lt_size (N p hp).1)) hm (rest_D (fun i v ⟨k, x, e, q⟩ => ⟨k, x, e, Value.isStrOf_shape q⟩) hm (R gI).1 (R gI).2 kvs.length 0 (by (first | lia | omega))) ?_
  · show b < gI.objs.size
    rw [hgI, Heap.size_push]
    rcases List.mem_cons.mp hb with rfl | hb
    · exact Nat.lt_succ_self _
    · rw [List.mem_singleton.mp hb]; exact Nat.lt_succ_of_lt hlt
  · intro D C h tk m' ys news' F' N' o1 hn hC₀ hD₀ hCL hDL hCD offC fin
    refine ⟨m', hn, fun h'' hs'' => fin D h'' tk (F'.change hs'' hCL hC₀) (fun p hp => ?_) o1⟩
    refine ⟨hs''.extBut _ _ ?_ (N' p hp).1, (N' p hp).2⟩
    rcases List.mem_cons.mp hp with rfl | hp
    · exact Ne.symm hCD
    · exact offC p hp
end
end Mine
end
/- LD -/
section
open PySem PySem.W PyProof.Rows PySem.Calls PySem.Spec
namespace Mine
set_option maxRecDepth 100000
theorem nodup_inj {α : Type} {l : List α} (h : l.Nodup) {i j : Nat} (hi : i < l.length) (hj : j < l.length) (e : l[i] = l[j]) : i = j := by
  have hp := List.pairwise_iff_getElem.mp h
  rcases Nat.lt_trichotomy i j with q | q | q
  · exact absurd e (hp i j hi hj q)
  · exact q
  · exact absurd e.symm (hp j i hj hi q)
theorem nodup_first {ns : List Int} (h : ns.Nodup) : ∀ i, i ≤ ns.length → firstMet (fun j => ns.getD j 0) i = ns.take i
  | 0, _ => by rw [firstMet_zero, List.take_zero]
  | i + 1, hi => by
    rw [firstMet_succ, nodup_first h i (by (first | lia | omega))]
    have hlt : i < ns.length := by (first | lia | omega)
    have e : ns.getD i 0 = ns[i] := by rw [List.getD_eq_getElem?_getD, List.getElem?_eq_getElem hlt]; rfl
    have hn : ns[i] ∉ ns.take i := fun hm => by
      obtain ⟨j, hj, q⟩ := List.getElem_of_mem hm
      rw [List.length_take] at hj
      rw [List.getElem_take] at q
      have := nodup_inj h _ _ q
      (first | lia | omega)
    rw [e, List.take_add_one, List.getElem?_eq_getElem hlt]
    unfold step_dedup
    simp [hn]
theorem set_news {prog : Program} {w : World} {A : Around} {E : Value → Shared → Prop} {s : Shared} {h₀ : Heap} {L D : Addr} {m : Str → Option Value} {vs : List Value} {ns : List Int} {news : List (Addr × Obj)} {Q : Value → Shared → Prop} (F : Fr h₀ L s.heap m) (N : News h₀ L s.heap news)
    (hm : (D, LCg.lst vs) ∈ news) (hh : A.handled = none) (hi : IntsAre vs ns) (hnd : ns.Nodup) (hb : ns.length + 1 < scanBound)
    (h : ∀ h' (tk : Nat) o S, Fr h₀ L h' m → News h₀ L h' ((s.heap.objs.size, o) :: news) → o.SetObjOf (intKind prog w) S ns.length → Q (.ref s.heap.objs.size) { s with heap := h', toks := tk }) :
    wpAny (model prog w) A (call (.type "set") [.ref D]) Q E s := by
  have hl : s.heap.IsList D vs.toArray := News.isList N hm
  have hvn : vs.length = ns.length := IntsAre.length hi
  have hsz : vs.toArray.size = vs.length := List.size_toArray
  refine PySem.call_set_list (items := vs.toArray) (ns := ns) hh hl (by simpa using hi) (by rw [hsz, hvn]; exact hb) fun h' tk hS hk => ?_
  rw [hsz, hvn] at hS
  (refine Mine.ex1 hS.objOf fun o om0 => Mine.an2 om0 fun ho hso => ?_; clear om0)
  (refine Mine.ex3 F.ns fun oL _ _ om0 => Mine.an2 om0 fun hL _ => ?_; clear om0)
  have hLlt : L < s.heap.objs.size := Heap.lt_size hL
  have e : (firstMet (fun i => ns.getD i 0) ns.length).length = ns.length := by rw [nodup_first hnd _ (Nat.le_refl _), List.take_length]
  rw [e] at hso
  refine h h' tk o _ ⟨F.ns.at' fun o' e => hk L o' hLlt e, fun b o' e => hk b o' (Heap.lt_size (F.keep b o' e)) (F.keep b o' e), F.above⟩ (fun p hp => ?_) hso
  rcases List.mem_cons.mp hp with rfl | hp
  · exact ⟨ho, Nat.ne_of_gt hLlt, next_is_new F⟩
  · exact ⟨hk _ _ (Heap.lt_size (N p hp).1) (N p hp).1, (N p hp).2.1, (N p hp).2.2⟩
theorem at_key {kvs : List (Str × Value)} (h : (kvs.map (·.1)).Nodup) {i : Nat} {k : Str} {y : Value} (e : kvs[i]? = some (k, y)) : valueAt kvs k = some y := by
  have hm := List.mem_of_getElem? e
  unfold valueAt
  cases q : kvs.find? (fun kv => decide (kv.1 = k)) with
  | none =>
    have := List.find?_eq_none.mp q _ hm
    simp at this
  | some p =>
    have q0 := List.find?_some q
    have q1 : p.1 = k := of_decide_eq_true q0
    obtain ⟨j, hj⟩ := List.getElem?_of_mem (List.mem_of_find?_eq_some q)
    have e1 : (kvs.map (·.1))[i]? = some k := by rw [List.getElem?_map, e]; rfl
    have e2 : (kvs.map (·.1))[j]? = some k := by rw [List.getElem?_map, hj]; exact congrArg some q1
    obtain ⟨l1, e1⟩ := List.getElem?_eq_some_iff.mp e1
    obtain ⟨l2, e2⟩ := List.getElem?_eq_some_iff.mp e2
    have : i = j := nodup_inj h l1 l2 (e1.trans e2.symm)
    subst this
    rw [hj] at e
    rw [Option.some.inj e]; rfl
theorem dict_nodup {prog : Program} {w : World} {o : Obj} {kvs : List (Str × Value)} (h : o.IsDictOf (PySem.strKind prog w) kvs) : (kvs.map (·.1)).Nodup := h.choose_spec.choose_spec.2.2.2.2
noncomputable def valI : Value → Int
  | .int i _ => i
  | _ => 0
theorem seen_ints {S : BS} {cs : List (Str × Value)} : ∀ {seen : List (Str × Value)}, SeenOK S cs seen → IntsAre (seen.map (·.2)) (seen.map fun p => valI p.2)
  | [], _ => .nil
  | (k, v) :: r, h => by
    (refine Mine.ex4 (h _ (.head _)) fun l t tt ch om0 => Mine.an2 om0 fun e1 _ => ?_; clear om0)
    simp only at e1
    subst e1
    exact .cons _ _ (seen_ints fun p hp => h p (.tail _ hp))
theorem seen_nodup {w : World} {c : Nat} {S : BS} {cs seen : List (Str × Value)} (ok : SOK LP w c S) (hu : Uniq S.imms) (h : SeenOK S cs seen) (hk : (seen.map (·.1)).Nodup) : (seen.map fun p => valI p.2).Nodup := by
  unfold List.Nodup at hk ⊢
  rw [List.pairwise_map] at hk ⊢
  refine List.Pairwise.imp_of_mem (fun {p q} hp hq hne => ?_) hk
  intro e
  (refine Mine.ex4 (h p hp) fun l t tt ch om0 => Mine.an4 om0 fun e1 e2 e3 e4 => ?_; clear om0)
  (refine Mine.ex4 (h q hq) fun l' t' tt' ch' om0 => Mine.an4 om0 fun e1' e2' e3' e4' => ?_; clear om0)
  rw [e1, e1'] at e
  have ht : t = t' := Int.ofNat.inj e
  subst ht
  have := chars_same ok hu e2 e2'
  rw [e3, e3'] at this
  have hch := Option.some.inj this
  refine hne ?_
  have : lc p.1 = lc q.1 := by rw [e4, e4', hch]
  obtain ⟨⟨⟨a⟩⟩, _⟩ := p
  obtain ⟨⟨⟨b⟩⟩, _⟩ := q
  simp [lc] at this ⊢
  exact this
theorem imms_uniq {h₀ h : Heap} {L : Addr} {news : List (Addr × Obj)} {S : BS} (N : News h₀ L h news) (hs : ∀ p ∈ S.led, p ∈ news) : Uniq S.imms := fun a o o' h1 h2 => News.uniq N a o o' (hs _ (imms_led S h1)) (hs _ (imms_led S h2))
end Mine
end
/- BO -/
section
open PySem PySem.W PyProof.Rows PySem.Calls PySem.Spec
namespace Mine
theorem mono_list {l : List Nat} (h : l.Pairwise (· < ·)) (i j : Nat) (hij : i < j) (hj : j < l.length) : l.getD i 0 < l.getD j 0 := by
  have hi : i < l.length := Nat.lt_trans hij hj
  rw [List.getD_eq_getElem?_getD, List.getD_eq_getElem?_getD, List.getElem?_eq_getElem hi, List.getElem?_eq_getElem hj]
  exact List.pairwise_iff_getElem.mp h i j hi hj hij
noncomputable abbrev kT : BKey := (Str.ofString "true", 0, 0, none)
noncomputable abbrev kF : BKey := (Str.ofString "false", 0, 0, none)
theorem kTF : ¬ kT = kF := by decide +kernel
theorem two_keys {a b : Addr} {v u : Value} : storedH (storedH [] kT a v) kF b u = [(kT, a, v), (kF, b, u)] := by
  rw [storedH_new (xs := []) rfl, storedH_new]
  · rfl
  · unfold atKey
    simp only [List.nil_append, List.find?_cons, List.find?_nil]
    rw [decide_eq_false kTF]
    rfl
theorem bank_made {prog : Program} {w : World} {l : List Nat} (hp : l.Pairwise (· < ·)) (hl : l.length = 13) {aT aF e0 eT eF : Addr} {n1 n2 : Nat} {imms : List (Addr × Obj)} {t0 t1 t2 s0 s1 s2 d0 d1 d2 u1 u2 u3 u4 : Tok} {B : Bk}
    (hnum : IsDictH prog w B.num (storedH (storedH [] kT aT (.int 1 u1)) kF aF (.int 2 u2))) (hbv : B.bv.IsDictOf (intKind prog w) [])
    (hT : KeyL imms kT aT) (hF : KeyL imms kF aF) (hE : (eT, tupO [] n1) ∈ imms) (hG : (eF, tupO [] n2) ∈ imms) (hap : ∀ p ∈ imms, ∀ a ∈ l, p.1 ≠ a)
    (lo : (l.getD 11 0 == sysModules) = false) (lo2 : (l.getD 12 0 == sysModules) = false) (hA : B.A = fun i => l.getD i 0)
    (ho : B.ops = #[.str (Str.ofString "") t0, .str (Str.ofString "true") t1, .str (Str.ofString "false") t2]) (ha : B.targs = #[.ref e0, .ref eT, .ref eF]) (hs : B.sorts = #[.int 0 s0, .int 0 s1, .int 0 s2]) (hd : B.datas = #[.int 0 d0, .int 0 d1, .int 0 d2])
    (hnm : B.names.size = 3) (hw : B.widths.size = 3) (hfn : B.fnames.size = 0) (hfa : B.fargs.size = 0) (hfr : B.fres.size = 0) (htn : B.tn = .int 1 u3) (hff : B.fn = .int 2 u4) :
    SOK prog w 3 ⟨B, [(kT, aT, .int 1 u1), (kF, aF, .int 2 u2)], imms, []⟩ ∧ TF ⟨B, [(kT, aT, .int 1 u1), (kF, aF, .int 2 u2)], imms, []⟩ := by
  rw [two_keys] at hnum
  refine ⟨⟨⟨?_, ?_, ?_, ?_, ?_, ?_, ?_, ?_, ?_, hnum, ?_, ?_, ?_⟩, ⟨hbv, ?_, ?_, ?_, ?_, ?_⟩, ?_, ?_, ?_⟩, ?_⟩
  · intro i j hij hj; show B.A i < B.A j; rw [hA]; exact mono_list hp i j hij (by (first | lia | omega))
  · intro p hp' i hi
    show p.1 ≠ B.A i
    rw [hA]
    refine hap p hp' _ ?_
    show l.getD i 0 ∈ l
    rw [List.getD_eq_getElem?_getD, List.getElem?_eq_getElem (by (first | lia | omega))]
    exact List.getElem_mem _
  · show (B.A 11 == sysModules) = false; rw [hA]; exact lo
  · show (B.A 12 == sysModules) = false; rw [hA]; exact lo2
  · show B.targs.size = B.ops.size; rw [ha, ho]; rfl
  · show B.sorts.size = B.ops.size; rw [hs, ho]; rfl
  · show B.datas.size = B.ops.size; rw [hd, ho]; rfl
  · show B.ops.size ≤ 3; rw [ho]; exact Nat.le_refl _
  · show 1 ≤ B.ops.size; rw [ho]; exact (by decide : 1 ≤ 3)
  · intro x hx
    rcases List.mem_cons.mp hx with rfl | hx
    · exact hT
    · rw [List.mem_singleton.mp hx]; exact hF
  · intro x hx
    show ∃ (i : Nat) (t t1 t2 : Tok) (e : Addr) (ne : Nat) (dv : Value), x.2.2 = .int i t ∧ 1 ≤ i ∧ B.ops[i]? = some (.str x.1.1 t1) ∧ B.targs[i]? = some (.ref e) ∧ (e, tupO [] ne) ∈ imms ∧ B.sorts[i]? = some (.int x.1.2.1 t2) ∧ B.datas[i]? = some dv ∧ DatL imms x.1.2.2 dv
    rw [ho, ha, hs, hd]
    rcases List.mem_cons.mp hx with rfl | hx
    · exact ⟨1, u1, t1, s1, eT, n1, _, rfl, by decide, rfl, rfl, hE, rfl, rfl, ⟨_, rfl⟩⟩
    · rw [List.mem_singleton.mp hx]
      exact ⟨2, u2, t2, s2, eF, n2, _, rfl, by decide, rfl, rfl, hG, rfl, rfl, ⟨_, rfl⟩⟩
  · exact (by decide : 2 ≤ 3)
  · show B.names.size = B.widths.size; rw [hnm, hw]
  · show B.names.size ≤ 3 + 3; rw [hnm]; decide
  · show 3 ≤ B.names.size; rw [hnm]; decide
  · exact Nat.zero_le _
  · intro x hx; cases hx
  · show B.fargs.size = B.fnames.size; rw [hfa, hfn]
  · show B.fres.size = B.fnames.size; rw [hfr, hfn]
  · show B.fnames.size ≤ 3; rw [hfn]; decide
  · refine ⟨⟨1, u3, u1, aT, htn, ?_⟩, ⟨2, u4, u2, aF, hff, ?_⟩⟩
    · unfold atKey
      show Option.map _ (List.find? _ [(kT, aT, Value.int 1 u1), (kF, aF, Value.int 2 u2)]) = _
      rw [List.find?_cons, decide_eq_true rfl]; rfl
    · unfold atKey
      show Option.map _ (List.find? _ [(kT, aT, Value.int 1 u1), (kF, aF, Value.int 2 u2)]) = _
      rw [List.find?_cons, decide_eq_false kTF, List.find?_cons, decide_eq_true rfl]; rfl
theorem key_new {news : List (Addr × Obj)} {op : Str} {t1 t2 t : Tok} {e a : Addr} {n ne : Nat} {sort x : Int} (h : PyData.strOk op = true) (h1 : (a, tupO [.str op t1, .ref e, .int sort t2, .int x t] n) ∈ news) (h2 : (e, tupO [] ne) ∈ news) : KeyL news (op, sort, (x, none)) a :=
  ⟨h, n, t1, e, ne, t2, _, h1, h2, t, rfl⟩
noncomputable def Asc : List Nat → Prop
  | [] => True
  | a :: r => AscFrom a r
where AscFrom : Nat → List Nat → Prop
  | _, [] => True
  | a, b :: r => a < b ∧ AscFrom b r
theorem Asc.lt : ∀ {a : Nat} {l : List Nat}, Asc.AscFrom a l → ∀ x ∈ l, a < x
  | _, [], _, x, h => nomatch h
  | a, b :: r, h, x, hx => by
    rcases List.mem_cons.mp hx with rfl | hx
    · exact h.1
    · exact Nat.lt_trans h.1 (Asc.lt h.2 x hx)
theorem Asc.pw : ∀ {a : Nat} {l : List Nat}, Asc.AscFrom a l → (a :: l).Pairwise (· < ·)
  | _, [], _ => List.Pairwise.cons (fun _ h => nomatch h) .nil
  | _, _ :: _, h => List.Pairwise.cons (Asc.lt h) (Asc.pw h.2)
noncomputable def pickB : List Bool → List Nat → List Nat
  | true :: bs, a :: l => a :: pickB bs l
  | false :: bs, _ :: l => pickB bs l
  | _, _ => []
theorem pickB_sub : ∀ (bs : List Bool) (l : List Nat), (pickB bs l).Sublist l
  | [], [] => .slnil
  | [], _ :: l => List.nil_sublist _
  | true :: bs, [] => .slnil
  | false :: bs, [] => .slnil
  | true :: bs, _ :: l => .cons_cons _ (pickB_sub bs l)
  | false :: bs, _ :: l => .cons _ (pickB_sub bs l)
theorem pickB_apart : ∀ (bs : List Bool) (l : List Nat), l.Pairwise (· < ·) → ∀ a ∈ pickB bs l, ∀ b ∈ pickB (bs.map not) l, a ≠ b
  | [], [], _, a, ha, _, _ => nomatch ha
  | [], _ :: _, _, a, ha, _, _ => nomatch ha
  | true :: _, [], _, a, ha, _, _ => nomatch ha
  | false :: _, [], _, a, ha, _, _ => nomatch ha
  | true :: bs, x :: l, h, a, ha, b, hb => by
    (refine Mine.an2 (List.pairwise_cons.mp h) fun h1 h2 => ?_)
    rcases List.mem_cons.mp ha with rfl | ha
    · exact Nat.ne_of_lt (h1 b ((pickB_sub _ l).subset hb))
    · exact pickB_apart bs l h2 a ha b hb
  | false :: bs, x :: l, h, a, ha, b, hb => by
    (refine Mine.an2 (List.pairwise_cons.mp h) fun h1 h2 => ?_)
    rcases List.mem_cons.mp hb with rfl | hb
    · exact Nat.ne_of_gt (h1 a ((pickB_sub _ l).subset ha))
    · exact pickB_apart bs l h2 a ha b hb
theorem mW {α : Type} {x a b c d e f g h i j k l m n o p q s u v : α} {r : List α} (hx : x ∈ r) : x ∈ a :: b :: c :: d :: e :: f :: g :: h :: i :: j :: k :: l :: m :: n :: o :: p :: q :: s :: u :: v :: r := by
  repeat refine List.mem_cons_of_mem _ ?_
  exact hx
theorem bank_end {prog : Program} {w : World} {h₀ h : Heap} {L : Addr} {d x so q a2 a3 a4 a5 a6 a7 e0 a8 a9 a10 a11 eT tT eF tF a12 : Nat} {oq os nu bv : Obj} {W : List (Addr × Obj)} {nd e2 e3 e4 e5 e6 e7 e8 e9 e10 : Nat} {r2 r3 r4 r5 r6 r7 r8 r9 r10 : Array Value} {h0 h1 h2 h3 h4 h5 h6 h7 h8 h9 h10 h11 h12 h13 : Int} {k0 k1 k2 k3 k4 k5 k6 k7 k8 k9 k10 k11 k12 k13 t0 t1 t2 s0 s1 s2 d0 d1 d2 u1 u2 u3 u4 : Tok} {fr : Value}
    (N9 : News h₀ L h ((a12, bv) :: (tF, tupO [.str (Str.ofString "false") t2, .ref eF, .int 0 s2, .int 0 d2] 0) :: (x, instObj 705 d) :: (d, dictOf [⟨h0, .str (Str.ofString "sort_names") k0, .ref a2⟩, ⟨h1, .str (Str.ofString "sort_widths") k1, .ref a3⟩, ⟨h2, .str (Str.ofString "fun_names") k2, .ref a4⟩, ⟨h3, .str (Str.ofString "fun_args") k3, .ref a5⟩, ⟨h4, .str (Str.ofString "fun_results") k4, .ref a6⟩, ⟨h5, .str (Str.ofString "fresh_count") k5, fr⟩, ⟨h6, .str (Str.ofString "term_ops") k6, .ref a7⟩, ⟨h7, .str (Str.ofString "term_args") k7, .ref a8⟩, ⟨h8, .str (Str.ofString "term_sorts") k8, .ref a9⟩, ⟨h9, .str (Str.ofString "term_datas") k9, .ref a10⟩, ⟨h10, .str (Str.ofString "numbers") k10, .ref a11⟩, ⟨h11, .str (Str.ofString "true_number") k11, .int 1 u3⟩, ⟨h12, .str (Str.ofString "false_number") k12, .int 2 u4⟩, ⟨h13, .str (Str.ofString "bv_numbers") k13, .ref a12⟩] nd) :: (a7, PySem.W.listOf r7 e7) :: (a8, PySem.W.listOf r8 e8) :: (a9, PySem.W.listOf r9 e9) :: (a10, PySem.W.listOf r10 e10) :: (a11, nu) :: (eF, tupO [] 0) :: (tT, tupO [.str (Str.ofString "true") t1, .ref eT, .int 0 s1, .int 0 d1] 0) :: (eT, tupO [] 0) :: (e0, tupO [] 0) :: (a6, PySem.W.listOf r6 e6) :: (a5, PySem.W.listOf r5 e5) :: (a4, PySem.W.listOf r4 e4) :: (a3, PySem.W.listOf r3 e3) :: (a2, PySem.W.listOf r2 e2) :: (q, oq) :: (so, os) :: W))
    (hnum : IsDictH prog w nu (storedH (storedH [] kT tT (.int 1 u1)) kF tF (.int 2 u2))) (hbv : bv.IsDictOf (intKind prog w) [])
    (lo : (a11 == sysModules) = false) (lo2 : (a12 == sysModules) = false) (hW : ∀ p ∈ W, @LT.lt Nat _ p.1 d) (c0 : d < x) (c1 : x < so) (c2 : so < q) (c3 : q < a2) (c4 : a2 < a3) (c5 : a3 < a4) (c6 : a4 < a5) (c7 : a5 < a6) (c8 : a6 < a7) (c9 : a7 < e0) (c10 : e0 < a8) (c11 : a8 < a9) (c12 : a9 < a10) (c13 : a10 < a11) (c14 : a11 < eT) (c15 : eT < tT) (c16 : tT < eF) (c17 : eF < tF) (c18 : tF < a12)
    (ho : r7 = #[.str (Str.ofString "") t0, .str (Str.ofString "true") t1, .str (Str.ofString "false") t2]) (ha : r8 = #[.ref e0, .ref eT, .ref eF]) (hs : r9 = #[.int 0 s0, .int 0 s1, .int 0 s2]) (hd : r10 = #[.int 0 d0, .int 0 d1, .int 0 d2])
    (hnm : r2.size = 3) (hw : r3.size = 3) (hfn : r4.size = 0) (hfa : r5.size = 0) (hfr : r6.size = 0) :
    ∃ S : BS, S.B.A 1 = x ∧ News h₀ L h (S.led ++ W) ∧ SOK prog w 3 S ∧ TF S ∧ (∀ p ∈ S.led, ∀ q ∈ W, p.1 ≠ q.1) := by
  have N : News h₀ L h ((a12, bv) :: (tF, tupO [.str (Str.ofString "false") t2, .ref eF, .int 0 s2, .int 0 d2] 0) :: (eF, tupO [] 0) :: (tT, tupO [.str (Str.ofString "true") t1, .ref eT, .int 0 s1, .int 0 d1] 0) :: (eT, tupO [] 0) :: (a11, nu) :: (a10, PySem.W.listOf r10 e10) :: (a9, PySem.W.listOf r9 e9) :: (a8, PySem.W.listOf r8 e8) :: (e0, tupO [] 0) :: (a7, PySem.W.listOf r7 e7) :: (a6, PySem.W.listOf r6 e6) :: (a5, PySem.W.listOf r5 e5) :: (a4, PySem.W.listOf r4 e4) :: (a3, PySem.W.listOf r3 e3) :: (a2, PySem.W.listOf r2 e2) :: (q, oq) :: (so, os) :: (x, instObj 705 d) :: (d, dictOf [⟨h0, .str (Str.ofString "sort_names") k0, .ref a2⟩, ⟨h1, .str (Str.ofString "sort_widths") k1, .ref a3⟩, ⟨h2, .str (Str.ofString "fun_names") k2, .ref a4⟩, ⟨h3, .str (Str.ofString "fun_args") k3, .ref a5⟩, ⟨h4, .str (Str.ofString "fun_results") k4, .ref a6⟩, ⟨h5, .str (Str.ofString "fresh_count") k5, fr⟩, ⟨h6, .str (Str.ofString "term_ops") k6, .ref a7⟩, ⟨h7, .str (Str.ofString "term_args") k7, .ref a8⟩, ⟨h8, .str (Str.ofString "term_sorts") k8, .ref a9⟩, ⟨h9, .str (Str.ofString "term_datas") k9, .ref a10⟩, ⟨h10, .str (Str.ofString "numbers") k10, .ref a11⟩, ⟨h11, .str (Str.ofString "true_number") k11, .int 1 u3⟩, ⟨h12, .str (Str.ofString "false_number") k12, .int 2 u4⟩, ⟨h13, .str (Str.ofString "bv_numbers") k13, .ref a12⟩] nd) :: W) := fun p hp => N9 p ((by exact List.forall_mem_cons.mpr ⟨m0, List.forall_mem_cons.mpr ⟨m1, List.forall_mem_cons.mpr ⟨m9, List.forall_mem_cons.mpr ⟨m10, List.forall_mem_cons.mpr ⟨m11, List.forall_mem_cons.mpr ⟨m8, List.forall_mem_cons.mpr ⟨m7, List.forall_mem_cons.mpr ⟨m6, List.forall_mem_cons.mpr ⟨m5, List.forall_mem_cons.mpr ⟨m12, List.forall_mem_cons.mpr ⟨m4, List.forall_mem_cons.mpr ⟨m13, List.forall_mem_cons.mpr ⟨m14, List.forall_mem_cons.mpr ⟨m15, List.forall_mem_cons.mpr ⟨m16, List.forall_mem_cons.mpr ⟨m17, List.forall_mem_cons.mpr ⟨m18, List.forall_mem_cons.mpr ⟨m19, List.forall_mem_cons.mpr ⟨m2, List.forall_mem_cons.mpr ⟨m3, fun p hp => mW hp⟩⟩⟩⟩⟩⟩⟩⟩⟩⟩⟩⟩⟩⟩⟩⟩⟩⟩⟩⟩ : ∀ p ∈ (a12, bv) :: (tF, tupO [.str (Str.ofString "false") t2, .ref eF, .int 0 s2, .int 0 d2] 0) :: (eF, tupO [] 0) :: (tT, tupO [.str (Str.ofString "true") t1, .ref eT, .int 0 s1, .int 0 d1] 0) :: (eT, tupO [] 0) :: (a11, nu) :: (a10, PySem.W.listOf r10 e10) :: (a9, PySem.W.listOf r9 e9) :: (a8, PySem.W.listOf r8 e8) :: (e0, tupO [] 0) :: (a7, PySem.W.listOf r7 e7) :: (a6, PySem.W.listOf r6 e6) :: (a5, PySem.W.listOf r5 e5) :: (a4, PySem.W.listOf r4 e4) :: (a3, PySem.W.listOf r3 e3) :: (a2, PySem.W.listOf r2 e2) :: (q, oq) :: (so, os) :: (x, instObj 705 d) :: (d, dictOf [⟨h0, .str (Str.ofString "sort_names") k0, .ref a2⟩, ⟨h1, .str (Str.ofString "sort_widths") k1, .ref a3⟩, ⟨h2, .str (Str.ofString "fun_names") k2, .ref a4⟩, ⟨h3, .str (Str.ofString "fun_args") k3, .ref a5⟩, ⟨h4, .str (Str.ofString "fun_results") k4, .ref a6⟩, ⟨h5, .str (Str.ofString "fresh_count") k5, fr⟩, ⟨h6, .str (Str.ofString "term_ops") k6, .ref a7⟩, ⟨h7, .str (Str.ofString "term_args") k7, .ref a8⟩, ⟨h8, .str (Str.ofString "term_sorts") k8, .ref a9⟩, ⟨h9, .str (Str.ofString "term_datas") k9, .ref a10⟩, ⟨h10, .str (Str.ofString "numbers") k10, .ref a11⟩, ⟨h11, .str (Str.ofString "true_number") k11, .int 1 u3⟩, ⟨h12, .str (Str.ofString "false_number") k12, .int 2 u4⟩, ⟨h13, .str (Str.ofString "bv_numbers") k13, .ref a12⟩] nd) :: W, p ∈ _) p hp)
  have pw : [d, x, so, q, a2, a3, a4, a5, a6, a7, e0, a8, a9, a10, a11, eT, tT, eF, tF, a12].Pairwise (· < ·) := Asc.pw ⟨c0, c1, c2, c3, c4, c5, c6, c7, c8, c9, c10, c11, c12, c13, c14, c15, c16, c17, c18, trivial⟩
  have lo0 : ∀ z ∈ [d, x, so, q, a2, a3, a4, a5, a6, a7, e0, a8, a9, a10, a11, eT, tT, eF, tF, a12], d ≤ z := fun z hz => by
    rcases List.mem_cons.mp hz with rfl | hz
    · exact Nat.le_refl _
    · exact Nat.le_of_lt ((List.pairwise_cons.mp pw).1 z hz)
  have key := bank_made (prog := prog) (w := w) (l := [d, x, a2, a3, a4, a5, a6, a7, a8, a9, a10, a11, a12]) (imms := [(tF, tupO [.str (Str.ofString "false") t2, .ref eF, .int 0 s2, .int 0 d2] 0), (eF, tupO [] 0), (tT, tupO [.str (Str.ofString "true") t1, .ref eT, .int 0 s1, .int 0 d1] 0), (eT, tupO [] 0), (e0, tupO [] 0), (q, oq), (so, os)])
    (B := ⟨fun i => [d, x, a2, a3, a4, a5, a6, a7, a8, a9, a10, a11, a12].getD i 0, fun i => [h0, h1, h2, h3, h4, h5, h6, h7, h8, h9, h10, h11, h12, h13].getD i 0, fun i => [k0, k1, k2, k3, k4, k5, k6, k7, k8, k9, k10, k11, k12, k13].getD i 0, nd, fun i => [0, 0, e2, e3, e4, e5, e6, e7, e8, e9, e10].getD i 0, fr, .int 1 u3, .int 2 u4, r2, r3, r4, r5, r6, r7, r8, r9, r10, nu, bv⟩)
    (List.Pairwise.sublist (l₁ := pickB [true, true, false, false, true, true, true, true, true, true, false, true, true, true, true, false, false, false, false, true] [d, x, so, q, a2, a3, a4, a5, a6, a7, e0, a8, a9, a10, a11, eT, tT, eF, tF, a12]) (pickB_sub [true, true, false, false, true, true, true, true, true, true, false, true, true, true, true, false, false, false, false, true] [d, x, so, q, a2, a3, a4, a5, a6, a7, e0, a8, a9, a10, a11, eT, tT, eF, tF, a12]) pw) rfl hnum hbv
    (key_new (by decide +kernel) m2 m3) (key_new (by decide +kernel) m0 m1)
    (eT := eT) (eF := eF) (n1 := 0) (n2 := 0) m3 m1
    (fun p hp a ha => (pickB_apart [true, true, false, false, true, true, true, true, true, true, false, true, true, true, true, false, false, false, false, true] [d, x, so, q, a2, a3, a4, a5, a6, a7, e0, a8, a9, a10, a11, eT, tT, eF, tF, a12] pw a ha p.1 (List.mem_reverse.mp (List.mem_map_of_mem (f := (·.1)) hp))).symm)
    lo lo2 rfl ho ha hs hd hnm hw hfn hfa hfr rfl rfl
  refine ⟨_, ?_, ?_, key.1, key.2, ?_⟩
  · rfl
  · intro p hp'
    rcases List.mem_append.mp hp' with hp' | hp'
    · exact N p ((List.forall_mem_cons.mpr ⟨m18, List.forall_mem_cons.mpr ⟨m19, List.forall_mem_cons.mpr ⟨m15, List.forall_mem_cons.mpr ⟨m14, List.forall_mem_cons.mpr ⟨m13, List.forall_mem_cons.mpr ⟨m12, List.forall_mem_cons.mpr ⟨m11, List.forall_mem_cons.mpr ⟨m10, List.forall_mem_cons.mpr ⟨m8, List.forall_mem_cons.mpr ⟨m7, List.forall_mem_cons.mpr ⟨m6, List.forall_mem_cons.mpr ⟨m5, List.forall_mem_cons.mpr ⟨m0, List.forall_mem_cons.mpr ⟨m1, List.forall_mem_cons.mpr ⟨m2, List.forall_mem_cons.mpr ⟨m3, List.forall_mem_cons.mpr ⟨m4, List.forall_mem_cons.mpr ⟨m9, List.forall_mem_cons.mpr ⟨m16, List.forall_mem_cons.mpr ⟨m17, List.forall_mem_nil _⟩⟩⟩⟩⟩⟩⟩⟩⟩⟩⟩⟩⟩⟩⟩⟩⟩⟩⟩⟩ : ∀ p ∈ (BS.led _), p ∈ _) p hp')
    · exact N p (mW hp')
  · intro p hp' z hz
    have hk : p.1 ∈ [x, d, a2, a3, a4, a5, a6, a7, a8, a9, a10, a11, a12, tF, eF, tT, eT, e0, q, so] := List.mem_map_of_mem (f := (·.1)) hp'
    refine Nat.ne_of_gt (Nat.lt_of_lt_of_le (hW z hz) (lo0 p.1 ?_))
    exact (List.forall_mem_cons.mpr ⟨m1, List.forall_mem_cons.mpr ⟨m0, List.forall_mem_cons.mpr ⟨m4, List.forall_mem_cons.mpr ⟨m5, List.forall_mem_cons.mpr ⟨m6, List.forall_mem_cons.mpr ⟨m7, List.forall_mem_cons.mpr ⟨m8, List.forall_mem_cons.mpr ⟨m9, List.forall_mem_cons.mpr ⟨m11, List.forall_mem_cons.mpr ⟨m12, List.forall_mem_cons.mpr ⟨m13, List.forall_mem_cons.mpr ⟨m14, List.forall_mem_cons.mpr ⟨m19, List.forall_mem_cons.mpr ⟨m18, List.forall_mem_cons.mpr ⟨m17, List.forall_mem_cons.mpr ⟨m16, List.forall_mem_cons.mpr ⟨m15, List.forall_mem_cons.mpr ⟨m10, List.forall_mem_cons.mpr ⟨m3, List.forall_mem_cons.mpr ⟨m2, List.forall_mem_nil _⟩⟩⟩⟩⟩⟩⟩⟩⟩⟩⟩⟩⟩⟩⟩⟩⟩⟩⟩⟩ : ∀ k ∈ [x, d, a2, a3, a4, a5, a6, a7, a8, a9, a10, a11, a12, tF, eF, tT, eT, e0, q, so], k ∈ _) p.1 hk
end Mine
end
/- TR2 -/
section
open PySem PySem.W PyProof.Rows PySem.Calls PySem.Spec
namespace Mine
set_option maxRecDepth 100000
set_option maxHeartbeats 4000000
theorem pw_lt {l r : List Nat} {a b : Nat} (pw : l.Pairwise (· < ·)) (k : Nat) (e : l.drop k = a :: r) (hb : b ∈ r) : a < b := by
  have h := pw.sublist (List.drop_sublist k l)
  rw [e] at h
  exact (List.pairwise_cons.mp h).1 b hb
theorem raw_apart {a0 a1 a7 a8 a9 a10 a11 eT : Addr} {p0 p1 p2 p3 p4 p5 p6 p7 : Addr × Obj} {T : List (Addr × Obj)} {oe : Obj} (pw : ([a0, a1, p7.1, p6.1, p5.1, p4.1, p3.1, p2.1, p1.1, a7, p0.1, a8, a9, a10, a11, eT] : List Nat).Pairwise (· < ·)) (hT : ∀ p ∈ T, @LT.lt Nat _ p.1 a0) :
    ∀ q ∈ (eT, oe) :: p0 :: p1 :: p2 :: p3 :: p4 :: p5 :: p6 :: p7 :: T, ∀ a ∈ ([a0, a1, a7, a8, a9, a10, a11] : List Nat), q.1 ≠ a := by
  have key : ∀ a ∈ ([a0, a1, a7, a8, a9, a10, a11] : List Nat), ∀ b ∈ ([p7.1, p6.1, p5.1, p4.1, p3.1, p2.1, p1.1, p0.1, eT] : List Nat), b ≠ a := fun a ha b hb => (pickB_apart [true, true, false, false, false, false, false, false, false, true, false, true, true, true, true, false] [a0, a1, p7.1, p6.1, p5.1, p4.1, p3.1, p2.1, p1.1, a7, p0.1, a8, a9, a10, a11, eT] pw a ha b hb).symm
  have le : ∀ a ∈ ([a0, a1, a7, a8, a9, a10, a11] : List Nat), @LE.le Nat _ a0 a := fun a ha => by
    rcases List.mem_cons.mp ((pickB_sub [true, true, false, false, false, false, false, false, false, true, false, true, true, true, true, false] [a0, a1, p7.1, p6.1, p5.1, p4.1, p3.1, p2.1, p1.1, a7, p0.1, a8, a9, a10, a11, eT]).subset ha) with rfl | h
    · exact Nat.le_refl _
    · exact Nat.le_of_lt ((List.pairwise_cons.mp pw).1 a h)
  exact List.forall_mem_cons.mpr ⟨fun a ha => key a ha _ m8, List.forall_mem_cons.mpr ⟨fun a ha => key a ha _ m7, List.forall_mem_cons.mpr ⟨fun a ha => key a ha _ m6, List.forall_mem_cons.mpr ⟨fun a ha => key a ha _ m5, List.forall_mem_cons.mpr ⟨fun a ha => key a ha _ m4, List.forall_mem_cons.mpr ⟨fun a ha => key a ha _ m3, List.forall_mem_cons.mpr ⟨fun a ha => key a ha _ m2, List.forall_mem_cons.mpr ⟨fun a ha => key a ha _ m1, List.forall_mem_cons.mpr ⟨fun a ha => key a ha _ m0,
    fun q hq a ha => Nat.ne_of_lt (Nat.lt_of_lt_of_le (hT q hq) (le a ha))⟩⟩⟩⟩⟩⟩⟩⟩⟩
theorem raw_use1 {prog : Program} {w : World} {es : List DictEntry} {nd : Nat} {a0 a1 a7 a8 a9 a10 a11 eT : Addr} {p0 p1 p2 p3 p4 p5 p6 p7 : Addr × Obj} {T : List (Addr × Obj)} {ops targs sorts datas : Array Value} {e7 e8 e9 e10 : Nat} {num : Obj} {op : Str} {t1 t2 : Tok} {sort x : Int} {tx : Tok}
    {mean : ExcName → Option Value} {mg mb : Str → Option Value} {dp un : Nat} {gd : Option (List Code)} {cn : Str} {cs : Scope} {a : Addr} {ccd : Value} {cl : List (Str × Addr)} {outer : List Env} {A₀ : Around} {base h₀ : Heap} {L : Addr} {m : Str → Option Value} {hp0 : Heap} {gs0 : Array GenState} {dr0 : Drawn} {tk0 : Nat} {os0 : OsState}
    {Q E : Value → Shared → Prop} (B : Below A₀ base outer h₀) (F : Fr h₀ L hp0 m) (X : (Mine.heap w.params).In h₀) (N : News h₀ L hp0 ((eT, tupO [] 0) :: (a11, num) :: (a10, PySem.W.listOf datas e10) :: (a9, PySem.W.listOf sorts e9) :: (a8, PySem.W.listOf targs e8) :: p0 :: (a7, PySem.W.listOf ops e7) :: p1 :: p2 :: p3 :: p4 :: p5 :: p6 :: p7 :: (a1, instObj 705 a0) :: (a0, dictOf es nd) :: T))
    (T' : Top Mine.view (looseW Mine.view Mine.loose) mean mg mb h₀) (hk : cs.kind = .function)
    (hd : dp + 2 < recursionLimit) (hu : un + 8 * 2 < cLine)
    (g11 : getL (Str.ofString "numbers") es = some (some (.ref a11))) (g7 : getL (Str.ofString "term_ops") es = some (some (.ref a7))) (g8 : getL (Str.ofString "term_args") es = some (some (.ref a8))) (g9 : getL (Str.ofString "term_sorts") es = some (some (.ref a9))) (g10 : getL (Str.ofString "term_datas") es = some (some (.ref a10)))
    (hnum : IsDictH prog w num []) (lo : (a11 == sysModules) = false) (z1 : targs.size = ops.size) (z2 : sorts.size = ops.size) (z3 : datas.size = ops.size) (z4 : ops.size ≤ 1000) (z5 : 1 ≤ ops.size) {i : Int} (hi : (ops.size : Int) = i) (asc : Asc [a0, a1, p7.1, p6.1, p5.1, p4.1, p3.1, p2.1, p1.1, a7, p0.1, a8, a9, a10, a11, eT]) (hT : ∀ p ∈ T, @LT.lt Nat _ p.1 a0) (hop : PyData.strOk op = true)
    (ret : ∀ (D : Addr) (num' : Obj) (t u : Tok) (h' : Heap) (tk' : Nat), IsDictH prog w num' (storedH [] (op, sort, x, none) D (.int i u)) → Below' D (a1 :: a0 :: a7 :: a8 :: a9 :: a10 :: a11 :: ((eT, tupO [] 0) :: p0 :: p1 :: p2 :: p3 :: p4 :: p5 :: p6 :: p7 :: T : List (Addr × Obj)).map (·.1)) → (∀ q ∈ (eT, tupO [] 0) :: p0 :: p1 :: p2 :: p3 :: p4 :: p5 :: p6 :: p7 :: T, ∀ a ∈ ([a0, a1, a7, a8, a9, a10, a11] : List Nat), q.1 ≠ a) → Fr h₀ L h' m →
      News h₀ L h' ((D, tupO [.str op t1, .ref eT, .int sort t2, .int x tx] 0) :: (a1, instObj 705 a0) :: (a0, dictOf es nd) :: (a7, PySem.W.listOf (ops.push (.str op t1)) (e7 + 1)) :: (a8, PySem.W.listOf (targs.push (.ref eT)) (e8 + 1)) :: (a9, PySem.W.listOf (sorts.push (.int sort t2)) (e9 + 1)) :: (a10, PySem.W.listOf (datas.push (.int x tx)) (e10 + 1)) :: (a11, num') :: (eT, tupO [] 0) :: p0 :: p1 :: p2 :: p3 :: p4 :: p5 :: p6 :: p7 :: T) → Q (.int i t) ⟨h', gs0, dr0, tk', os0⟩) :
    wpAny (model prog w) (ktrTop dp un gd cn cs L a ccd cl outer) (call (.ref 319) [.ref a1, .str op t1, .ref eT, .int sort t2, .int x tx]) Q E ⟨hp0, gs0, dr0, tk0, os0⟩ := by
  have pw := Asc.pw asc
  have ap := raw_apart (oe := tupO [] 0) pw hT
  subst hi
  have C := make_raw (prog := prog) (w := w) (W := (eT, tupO [] 0) :: p0 :: p1 :: p2 :: p3 :: p4 :: p5 :: p6 :: p7 :: T) (ne := 0) (t1 := t1) (t2 := t2) (e7 := e7) (e8 := e8) (e9 := e9) (e10 := e10) (nd := nd) g11 g7 g8 g9 g10 hnum (fun x hx => nomatch hx) lo (Nat.zero_le _) z1 z2 z3 z4 z5
    (pw_lt pw 0 rfl m0) (pw_lt pw 1 rfl m7) (pw_lt pw 9 rfl m1) (pw_lt pw 11 rfl m0) (pw_lt pw 12 rfl m0) (pw_lt pw 13 rfl m0)
    (fun q hq => ap q hq _ m0) (fun q hq => ap q hq _ m1) (fun q hq => ap q hq _ m2) (fun q hq => ap q hq _ m3) (fun q hq => ap q hq _ m4) (fun q hq => ap q hq _ m5) (fun q hq => ap q hq _ m6) hop m0 (p := (x, none)) ⟨tx, rfl⟩ (show atKey [] (op, sort, x, none) = none from rfl)
  exact raw_use C B F X N T' hk hd hu (by
    unfold RawLed
    exact List.forall_mem_cons.mpr ⟨m14, List.forall_mem_cons.mpr ⟨m15, List.forall_mem_cons.mpr ⟨m6, List.forall_mem_cons.mpr ⟨m4, List.forall_mem_cons.mpr ⟨m3, List.forall_mem_cons.mpr ⟨m2, List.forall_mem_cons.mpr ⟨m1, List.forall_mem_cons.mpr ⟨m0, List.forall_mem_cons.mpr ⟨m5, List.forall_mem_cons.mpr ⟨m7, List.forall_mem_cons.mpr ⟨m8, List.forall_mem_cons.mpr ⟨m9, List.forall_mem_cons.mpr ⟨m10, List.forall_mem_cons.mpr ⟨m11, List.forall_mem_cons.mpr ⟨m12, List.forall_mem_cons.mpr ⟨m13, fun q hq => (by repeat (first | exact hq | refine List.mem_cons_of_mem _ ?_))⟩⟩⟩⟩⟩⟩⟩⟩⟩⟩⟩⟩⟩⟩⟩⟩)
    (fun D num' t u h' tk' hd' hD F' N' => ret D num' t u h' tk' hd' hD ap F' N')
theorem raw_use2 {prog : Program} {w : World} {es : List DictEntry} {nd : Nat} {a0 a1 a7 a8 a9 a10 a11 eT : Addr} {pT : Addr × Obj} {W1 : List (Addr × Obj)} {xs : List (BKey × Addr × Value)} {ops targs sorts datas : Array Value} {e7 e8 e9 e10 : Nat} {num : Obj} {op : Str} {t1 t2 : Tok} {sort x : Int} {tx : Tok}
    {mean : ExcName → Option Value} {mg mb : Str → Option Value} {dp un : Nat} {gd : Option (List Code)} {cn : Str} {cs : Scope} {a : Addr} {ccd : Value} {cl : List (Str × Addr)} {outer : List Env} {A₀ : Around} {base h₀ : Heap} {L : Addr} {m : Str → Option Value} {hp0 : Heap} {gs0 : Array GenState} {dr0 : Drawn} {tk0 : Nat} {os0 : OsState}
    {Q E : Value → Shared → Prop} (B : Below A₀ base outer h₀) (F : Fr h₀ L hp0 m) (X : (Mine.heap w.params).In h₀) (N : News h₀ L hp0 ((eT, tupO [] 0) :: pT :: (a1, instObj 705 a0) :: (a0, dictOf es nd) :: (a7, PySem.W.listOf ops e7) :: (a8, PySem.W.listOf targs e8) :: (a9, PySem.W.listOf sorts e9) :: (a10, PySem.W.listOf datas e10) :: (a11, num) :: W1))
    (T' : Top Mine.view (looseW Mine.view Mine.loose) mean mg mb h₀) (hk : cs.kind = .function)
    (hd : dp + 2 < recursionLimit) (hu : un + 8 * 2 < cLine)
    (g11 : getL (Str.ofString "numbers") es = some (some (.ref a11))) (g7 : getL (Str.ofString "term_ops") es = some (some (.ref a7))) (g8 : getL (Str.ofString "term_args") es = some (some (.ref a8))) (g9 : getL (Str.ofString "term_sorts") es = some (some (.ref a9))) (g10 : getL (Str.ofString "term_datas") es = some (some (.ref a10)))
    (hnum : IsDictH prog w num xs) (hkeys : ∀ x ∈ xs, KeyL ((eT, tupO [] 0) :: pT :: W1) x.1 x.2.1) (hxs : xs.length ≤ 1000) (hat : atKey xs (op, sort, x, none) = none) (lo : (a11 == sysModules) = false) (z1 : targs.size = ops.size) (z2 : sorts.size = ops.size) (z3 : datas.size = ops.size) (z4 : ops.size ≤ 1000) (z5 : 1 ≤ ops.size) {i : Int} (hi : (ops.size : Int) = i) (asc : Asc [a0, a1, a7, a8, a9, a10, a11]) (ap1 : ∀ q ∈ W1, ∀ a ∈ ([a0, a1, a7, a8, a9, a10, a11] : List Nat), q.1 ≠ a) (bT : Below' pT.1 (a1 :: a0 :: a7 :: a8 :: a9 :: a10 :: a11 :: W1.map (·.1))) (bF : Below' eT (pT.1 :: a1 :: a0 :: a7 :: a8 :: a9 :: a10 :: a11 :: W1.map (·.1))) (hop : PyData.strOk op = true)
    (ret : ∀ (D : Addr) (num' : Obj) (t u : Tok) (h' : Heap) (tk' : Nat), IsDictH prog w num' (storedH xs (op, sort, x, none) D (.int i u)) → Below' D (a1 :: a0 :: a7 :: a8 :: a9 :: a10 :: a11 :: ((eT, tupO [] 0) :: pT :: W1 : List (Addr × Obj)).map (·.1)) → Fr h₀ L h' m →
      News h₀ L h' ((D, tupO [.str op t1, .ref eT, .int sort t2, .int x tx] 0) :: (a1, instObj 705 a0) :: (a0, dictOf es nd) :: (a7, PySem.W.listOf (ops.push (.str op t1)) (e7 + 1)) :: (a8, PySem.W.listOf (targs.push (.ref eT)) (e8 + 1)) :: (a9, PySem.W.listOf (sorts.push (.int sort t2)) (e9 + 1)) :: (a10, PySem.W.listOf (datas.push (.int x tx)) (e10 + 1)) :: (a11, num') :: (eT, tupO [] 0) :: pT :: W1) → Q (.int i t) ⟨h', gs0, dr0, tk', os0⟩) :
    wpAny (model prog w) (ktrTop dp un gd cn cs L a ccd cl outer) (call (.ref 319) [.ref a1, .str op t1, .ref eT, .int sort t2, .int x tx]) Q E ⟨hp0, gs0, dr0, tk0, os0⟩ := by
  have pw := Asc.pw asc
  have ap : ∀ q ∈ (eT, tupO [] 0) :: pT :: W1, ∀ a ∈ ([a0, a1, a7, a8, a9, a10, a11] : List Nat), q.1 ≠ a := List.forall_mem_cons.mpr
    ⟨List.forall_mem_cons.mpr ⟨Nat.ne_of_gt (bF _ m2), List.forall_mem_cons.mpr ⟨Nat.ne_of_gt (bF _ m1), List.forall_mem_cons.mpr ⟨Nat.ne_of_gt (bF _ m3), List.forall_mem_cons.mpr ⟨Nat.ne_of_gt (bF _ m4), List.forall_mem_cons.mpr ⟨Nat.ne_of_gt (bF _ m5), List.forall_mem_cons.mpr ⟨Nat.ne_of_gt (bF _ m6), List.forall_mem_cons.mpr ⟨Nat.ne_of_gt (bF _ m7), List.forall_mem_nil _⟩⟩⟩⟩⟩⟩⟩,
     List.forall_mem_cons.mpr ⟨List.forall_mem_cons.mpr ⟨Nat.ne_of_gt (bT _ m1), List.forall_mem_cons.mpr ⟨Nat.ne_of_gt (bT _ m0), List.forall_mem_cons.mpr ⟨Nat.ne_of_gt (bT _ m2), List.forall_mem_cons.mpr ⟨Nat.ne_of_gt (bT _ m3), List.forall_mem_cons.mpr ⟨Nat.ne_of_gt (bT _ m4), List.forall_mem_cons.mpr ⟨Nat.ne_of_gt (bT _ m5), List.forall_mem_cons.mpr ⟨Nat.ne_of_gt (bT _ m6), List.forall_mem_nil _⟩⟩⟩⟩⟩⟩⟩, ap1⟩⟩
  subst hi
  have C := make_raw (prog := prog) (w := w) (W := (eT, tupO [] 0) :: pT :: W1) (ne := 0) (t1 := t1) (t2 := t2) (e7 := e7) (e8 := e8) (e9 := e9) (e10 := e10) (nd := nd) g11 g7 g8 g9 g10 hnum hkeys lo hxs z1 z2 z3 z4 z5
    (pw_lt pw 0 rfl m0) (pw_lt pw 1 rfl m0) (pw_lt pw 2 rfl m0) (pw_lt pw 3 rfl m0) (pw_lt pw 4 rfl m0) (pw_lt pw 5 rfl m0)
    (fun q hq => ap q hq _ m0) (fun q hq => ap q hq _ m1) (fun q hq => ap q hq _ m2) (fun q hq => ap q hq _ m3) (fun q hq => ap q hq _ m4) (fun q hq => ap q hq _ m5) (fun q hq => ap q hq _ m6) hop m0 (p := (x, none)) ⟨tx, rfl⟩ hat
  exact raw_use C B F X N T' hk hd hu (by
    unfold RawLed
    exact List.forall_mem_cons.mpr ⟨m2, List.forall_mem_cons.mpr ⟨m3, List.forall_mem_cons.mpr ⟨m4, List.forall_mem_cons.mpr ⟨m5, List.forall_mem_cons.mpr ⟨m6, List.forall_mem_cons.mpr ⟨m7, List.forall_mem_cons.mpr ⟨m8, List.forall_mem_cons.mpr ⟨m0, List.forall_mem_cons.mpr ⟨m1, fun q hq => .tail _ (.tail _ (.tail _ (.tail _ (.tail _ (.tail _ (.tail _ (.tail _ (.tail _ hq))))))))⟩⟩⟩⟩⟩⟩⟩⟩⟩)
    (fun D num' t u h' tk' hd' hD F' N' => ret D num' t u h' tk' hd' hD F' N')
end Mine
end
/- BN -/
section
open PySem PySem.W PyProof.Rows PySem.Calls PySem.Spec
namespace Mine
set_option maxRecDepth 100000
set_option maxHeartbeats 8000000
section
variable {prog : Program} {w : World} {A : Around} {E : Value → Shared → Prop} {hp0 : Heap} {gs0 : Array GenState} {dr0 : Drawn} {tk0 : Nat} {os0 : OsState} {K : Frag} {x C dx L : Addr} {h₀ : Heap} {m : Str → Option Value} {news : List (Addr × Obj)} {ox : Obj} {es : List DictEntry} {n n' : Nat} {name : Str} {v : Value}
theorem setDictS {es' : Int → Tok → List DictEntry} {news' : Int → Tok → List (Addr × Obj)} {Q : Unit → Shared → Prop} (F : Fr h₀ L hp0 m) (X₀ : K.In h₀) (N : News h₀ L hp0 news) (I : InstAt hp0 x ox C (some (dictOf es n))) (hd : ox.dict = some dx)
    (hs : findIn K (.ref C) "__setattr__" = some (some (.builtin "object.__setattr__"))) (hp : plainOver K C = true) (ht : takerIn K C name = some none) (hh : hasDictIn K C = true) (hl : (getL name es).isSome = true)
    (e : ∀ q t, (putL name q (.str name t) v es, putN name es n) = (es' q t, n')) (U : ∀ q t, Upd dx (dictOf es n) (dictOf (es' q t) n') news (news' q t)) (hz : ∀ q t, (es' q t).length ≤ 1000)
    (h : ∀ q t h' k, Fr h₀ L h' m → News h₀ L h' (news' q t) → Q () ⟨h', gs0, dr0, k, os0⟩) : wpAny (model prog w) A (setAttr (.ref x) name v) Q E ⟨hp0, gs0, dr0, tk0, os0⟩ :=
  set_dict (s := ⟨hp0, gs0, dr0, tk0, os0⟩) F X₀ N I hd hs hp ht hh hl (e _ _) (U _ _) (hz _ _) (fun h' F' N' => h _ _ h' _ F' N')
end
theorem isH_nil {prog : Program} {w : World} {o : Obj} (h : o.IsDictOf (PySem.strKind prog w) []) : IsDictH prog w o [] := by
  (refine Mine.ex2 h fun es ep om0 => Mine.an5 om0 fun h1 h2 _ h3 _ => ?_; clear om0; (try clear h))
  refine ⟨es, ep, h1, h2, ?_, List.nodup_nil⟩
  cases hq : es.toList with
  | nil => rfl
  | cons a r => rw [hq] at h3; cases h3
theorem keys0 {news : List (Addr × Obj)} : ∀ x ∈ ([] : List (BKey × Addr × Value)), KeyL news x.1 x.2.1 := fun x hx => by cases hx
theorem keys1 {news : List (Addr × Obj)} {k : BKey} {a : Addr} {v : Value} (h : KeyL news k a) : ∀ x ∈ storedH [] k a v, KeyL news x.1 x.2.1 := by
  intro x hx
  rw [storedH_new rfl] at hx
  cases hx with
  | head => exact h
  | tail _ q => cases q
theorem one_none {a : Addr} {v : Value} : atKey (storedH [] (Str.ofString "true", (0 : Int), ((0 : Int), (none : Option Int))) a v) (Str.ofString "false", (0 : Int), ((0 : Int), (none : Option Int))) = none := by
  rw [storedH_new rfl]
  unfold atKey
  simp only [List.nil_append, List.find?_cons, List.find?_nil]
  rw [decide_eq_false (by decide +kernel)]
  rfl
theorem len0 : ([] : List (BKey × Addr × Value)).length ≤ 1000000 := by decide
theorem len1 {k : BKey} {a : Addr} {v : Value} : (storedH [] k a v).length ≤ 1000000 := by rw [storedH_new rfl]; show 1 ≤ 1000000; decide
theorem below_all {d : Addr} {l : List Addr} {r : List (Addr × Obj)} (h : Below' d l) (e : r.map (·.1) = l) : ∀ p ∈ r, @LT.lt Nat _ p.1 d := fun p hp => h _ (e ▸ List.mem_map_of_mem hp)
noncomputable abbrev PR : Program := PySem.Challenge.rw_rg0213_01.row.prog
theorem bank_new {w : World} {mean : ExcName → Option Value} {mg mb : Str → Option Value} {dp un : Nat} {gd : Option (List Code)} {cn : Str} {cs : Scope} {a : Addr} {ccd : Value} {cl : List (Str × Addr)} {outer : List Env} {A₀ : Around} {base h₀ : Heap} {L : Addr} {m : Str → Option Value} {s : Shared}
    {Q E : Value → Shared → Prop} {b c y1 y2 y3 : Addr} {ob oc oy1 oy2 oy3 : Obj} (B' : Below A₀ base outer h₀) (F : Fr h₀ L s.heap m) (X : (Mine.heap w.params).In h₀) (N : News h₀ L s.heap [(b, ob), (c, oc), (y1, oy1), (y2, oy2), (y3, oy3)])
    (T : Top Mine.view (looseW Mine.view Mine.loose) mean mg mb h₀) (hk : cs.kind = .function)
    (hd : dp + 20 < recursionLimit) (hu : un + 160 < cLine)
    (hret : ∀ (S : BS) h' tk', Fr h₀ L h' m → News h₀ L h' (S.led ++ [(b, ob), (c, oc), (y1, oy1), (y2, oy2), (y3, oy3)]) → SOK PySem.Challenge.rw_rg0213_01.row.prog w 3 S → TF S → (∀ p ∈ S.led, ∀ q ∈ [(b, ob), (c, oc), (y1, oy1), (y2, oy2), (y3, oy3)], p.1 ≠ q.1) → Q (.ref (S.B.A 1)) { s with heap := h', toks := tk' }) :
    wpAny (model PySem.Challenge.rw_rg0213_01.row.prog w) (ktrTop dp un gd cn cs L a ccd cl outer) (call (.ref 705) []) Q E s := by
  rcases s with ⟨hp0, gs0, dr0, tk0, os0⟩
  dsimp only at F N hret
  k_with_none
  k_with "om" => first | (with_reducible first | assumption | exact Mine.r1 (by assumption) (by k_dflt exact rfl) | exact Mine.r2 (by assumption) (by k_dflt exact rfl) | exact Mine.r4 (by assumption) (by k_dflt exact rfl) | exact Int.natCast_nonneg _ | exact Int.le_refl _ | exact Nat.le_refl _ | (refine' Mine.lt_below ?kb8z18 ?km8z18; (case kb8z18 => with_reducible assumption); (case km8z18 => walk_at "key mem")) | (refine' Mine.ne_above ?kb8z18 ?km8z18; (case kb8z18 => with_reducible assumption); (case km8z18 => walk_at "key mem"))) | (first | lia | omega)
  k_with "rm" => first | ((try dsimp only [depth_under_make, depth_under_kw, depth_in1, depth_deeper, depth_caller, units_in1, units_deeper, Around.mark_units, units_caller, units_under_make, ktrTop]); walk_at "om") | ktr_room | ktr_units
  k_with "newTuple" => (k_here; k_dflt (refine' Mine.newTupleS ?Fz21 ?Nz21 ?ez21 ?zz21 ?_; (case Fz21 => k_asm); (case Nz21 => k_asm); (case ez21 => (dsimp only [List.map]; (try exact rfl))); (case zz21 => kmk_size)); intro D' h' l1 F' N'; (try k_sweep))
  k_with "newList" => (k_here; k_dflt (refine' Mine.newListS ?Fz22 ?Nz22 ?ez22 ?zz22 ?_; (case Fz22 => k_asm); (case Nz22 => k_asm); (case ez22 => (dsimp only [List.map]; (try exact rfl))); (case zz22 => size_fits); k_whole); intro l' h' l1 F' N'; (try k_sweep))
  k_with "eval Dict nil nil" => (k_here; k_dflt (refine' Mine.newDictS ?Fz23 ?Nz23 (TopRead.nolimit (by k_asm)) ?ez23 ?_; (case Fz23 => k_asm); (case Nz23 => k_asm); (case ez23 => (dsimp only [List.map]; (try exact rfl))); k_whole); intro d' h' o' l1 lo' hs' hi' F' N'; (try k_sweep))
  k_with "k_all" => assumption
  k_with "key mem" => with_reducible first | exact Mine.m0 | exact Mine.m1 | exact Mine.m2 | exact Mine.m3 | exact Mine.m4 | exact Mine.m5 | exact Mine.m6 | exact Mine.m7 | exact Mine.m8 | exact Mine.m9 | exact Mine.m10 | exact Mine.m11 | exact Mine.m12 | exact Mine.m13
  k_with "k_mem" => (k_whole; walk_at "key mem")
  k_with "k_ne" => ((refine neN ?_; (try dsimp only)); first | (refine' Mine.ne_below ?kb9z33 ?km9z33; (case kb9z33 => with_reducible assumption); (case km9z33 => walk_at "key mem")) | (refine' Mine.ne_above ?kb9z33 ?km9z33; (case kb9z33 => with_reducible assumption); (case km9z33 => walk_at "key mem")) | walk_at "ne find" | (first | lia | omega))
  k_with "k_all" => (refine' Mine.all_below ?kb9z30 ?km9z30; (case kb9z30 => with_reducible assumption); (case km9z30 => exact rfl))
  k_with "ne find" => first | with_reducible assumption | (refine Ne.symm ?_; with_reducible assumption) | (refine Nat.ne_of_lt ?_; with_reducible assumption) | (refine Nat.ne_of_gt ?_; with_reducible assumption) | ((with_reducible rename _ ∧ _ => hc9); have hc8 := hc9.1; have hc7 := hc9.2; clear hc9; walk_at "ne find")
  k_with "spliced" => (k_here; (refine PyProof.Rows.args_nil ?_); (try dsimp only [List.cons_append, List.nil_append]); (with_reducible show _ ∧ _))
  k_with "call builtin:list.append" => (k_here; (with_reducible show wpAny _ _ (call (Value.builtin _) [Value.ref _, _]) _ _ _); k_dflt (refine' append_K ?k1z154 ?k2z154 ?k3z154 ?_ ?zz154; (case k1z154 => k_asm); (case k2z154 => k_asm); (case k3z154 => k_upd); (case zz154 => first | (rw [Mine.strValues_size, sizeLine_eq]; walk_at "om") | k_extra "room"); k_whole); intro h' F' N'; (try rw [Mine.strValues_push] at N'); (try k_sweep))
  k_with "k_mem" => assumption
  k_with "call ref" => (k_here; (with_reducible show wpAny _ _ (call (Value.ref 705) _) _ _ _); k_dflt (refine' call_cls ?k1z0 ?k2z0 ?k3z0 ?k4z0 ?k5z0 ?k6z0 ?_; (case k1z0 => k_asm); (case k2z0 => k_asm); (case k3z0 => k_asm); (case k4z0 => k_is); (case k5z0 => k_is); (case k6z0 => k_is); intro x' d' h' F' N' l1 l2; (try k_lt l1); (try k_lt2 l2); (refine' ks_code_super ?k1z0 ?k2z0 ?k3z0 ?k4z0 ?k5z0 ?kAz0 ?kFz0 ?kKz0 ?k6z0 ?k7z0 ?k8z0 ?k9z0 ?kBz0 ?_ ?c1z0 ?c2z0 ?c3z0 ?c4z0; (case kAz0 => exact rfl); (case kFz0 => exact rfl); (case kKz0 => first | exact rfl | assumption); (case k1z0 => k_asm); (case k2z0 => k_asm); (case k3z0 => k_asm); (case k4z0 => k_asm); (case k5z0 => k_asm); (case k6z0 => k_is); (case k7z0 => k_is); (case k8z0 => k_room); (case k9z0 => exact BindsTo.of_eq rfl); (case kBz0 => exact locs rfl); (case c1z0 => decide); (case c2z0 => exact rfl); (case c3z0 => exact rfl); (case c4z0 => exact rfl); intro g' L' h' FG' F' N' B' X' T' l1; (try k_lt l1); (try dsimp only); (try k_lift B'))))
  k_with "setItem ref ref" => (k_here; (with_reducible show wpAny _ _ (setItem (Value.ref _) (Value.ref _) (Value.int _ _)) _ _ _); k_dflt (refine' Mine.num_set ?Fz1 ?Nz1 ?Uz1 ?dz1 ?xz1 ?kz1 ?uz1 ?zz1 ?_; (case Fz1 => k_asm); (case Nz1 => k_asm); (case Uz1 => k_updF); (case dz1 => k_extra "num dict"); (case xz1 => k_extra "num keys"); (case kz1 => k_extra "num key"); (case uz1 => k_extra "num units"); (case zz1 => first | exact len0 | exact len1)); intro h' o' tk' F' N' hD'; (try dsimp only at N'))
  k_with "setAttr ref" => (k_here; k_dflt (refine' Mine.setDictS ?k1z2 ?k2z2 ?k3z2 ?k4z2 ?k5z2 ?k6z2 ?k7z2 ?k8z2 ?k9z2 ?k10z2 ?k11z2 ?k12z2 ?k13z2 ?_; (case k1z2 => k_asm); (case k2z2 => k_asm); (case k3z2 => k_asm); (case k4z2 => k_inst); (case k5z2 => exact rfl); (case k6z2 => k_is); (case k7z2 => k_is); (case k8z2 => k_is); (case k9z2 => k_is); (case k10z2 => k_get); (case k11z2 => (intro q9 t9; k_put)); (case k12z2 => (intro q9 t9; k_upd)); (case k13z2 => exact fun _ _ => Nat.le_of_ble_eq_true rfl); k_whole); intro q' t' h' k' F' N'; (try dsimp only at N'); (try k_sweep))
  k_with "call ref" => (k_here; (with_reducible show wpAny _ _ (call (Value.ref 319) _) _ _ _); k_dflt (refine' Mine.raw_use1 (i := 1) ?k1z3 ?k2z3 ?k3z3 ?k4z3 ?k5z3 ?kKz3 ?kdz3 ?kuz3 ?g11z3 ?g7z3 ?g8z3 ?g9z3 ?g10z3 ?hnz3 ?loz3 ?z1z3 ?z2z3 ?z3z3 ?z4z3 ?z5z3 ?hiz3 ?ascz3 ?hTz3 ?opz3 ?_; (case k1z3 => k_asm); (case k2z3 => k_asm); (case k3z3 => k_asm); (case k4z3 => k_asm); (case k5z3 => k_asm); (case kKz3 => first | exact rfl | assumption); (case g11z3 => k_get); (case g7z3 => k_get); (case g8z3 => k_get); (case g9z3 => k_get); (case g10z3 => k_get); (case hnz3 => exact isH_nil (by assumption)); (case loz3 => assumption); (case z1z3 => exact rfl); (case z2z3 => exact rfl); (case z3z3 => exact rfl); (case z4z3 => exact Nat.le_of_ble_eq_true rfl); (case z5z3 => exact Nat.le_of_ble_eq_true rfl); (case hiz3 => exact rfl); (case ascz3 => exact ⟨by walk_at "om", by walk_at "om", by walk_at "om", by walk_at "om", by walk_at "om", by walk_at "om", by walk_at "om", by walk_at "om", by walk_at "om", by walk_at "om", by walk_at "om", by walk_at "om", by walk_at "om", by walk_at "om", by walk_at "om", trivial⟩); (case hTz3 => exact below_all (by assumption) rfl); (case opz3 => decide +kernel); (case kdz3 => walk_at "rm"); (case kuz3 => walk_at "rm")); intro D' o' t' u' h' k' hd' l1 ap' F' N'; dsimp only [List.map] at l1)
  k_with "call ref" => (k_here; (with_reducible show wpAny _ _ (call (Value.ref 319) _) _ _ _); k_dflt (refine' Mine.raw_use2 (i := 2) ?k1z4 ?k2z4 ?k3z4 ?k4z4 ?k5z4 ?kKz4 ?kdz4 ?kuz4 ?g11z4 ?g7z4 ?g8z4 ?g9z4 ?g10z4 ?hnz4 ?hkz4 ?hxz4 ?hatz4 ?loz4 ?z1z4 ?z2z4 ?z3z4 ?z4z4 ?z5z4 ?hiz4 ?ascz4 ?apz4 ?bTz4 ?bFz4 ?opz4 ?_; (case k1z4 => k_asm); (case k2z4 => k_asm); (case k3z4 => k_asm); (case k4z4 => k_asm); (case k5z4 => k_asm); (case kKz4 => first | exact rfl | assumption); (case g11z4 => k_get); (case g7z4 => k_get); (case g8z4 => k_get); (case g9z4 => k_get); (case g10z4 => k_get); (case hnz4 => assumption); (case loz4 => assumption); (case z1z4 => exact rfl); (case z2z4 => exact rfl); (case z3z4 => exact rfl); (case z4z4 => exact Nat.le_of_ble_eq_true rfl); (case z5z4 => exact Nat.le_of_ble_eq_true rfl); (case hiz4 => exact rfl); (case ascz4 => exact ⟨by walk_at "om", by walk_at "om", by walk_at "om", by walk_at "om", by walk_at "om", by walk_at "om", trivial⟩); (case apz4 => assumption); (case bTz4 => assumption); (case bFz4 => assumption); (case hkz4 => exact keys1 (key_new (by decide +kernel) (by repeat (first | exact List.Mem.head _ | refine List.mem_cons_of_mem _ ?_)) (by repeat (first | exact List.Mem.head _ | refine List.mem_cons_of_mem _ ?_)))); (case hxz4 => (rw [storedH_new rfl]; show 1 ≤ 1000; decide)); (case hatz4 => exact one_none); (case opz4 => decide +kernel); (case kdz4 => walk_at "rm"); (case kuz4 => walk_at "rm")); intro D' o' t' u' h' k' hd' l1 F' N'; dsimp only [List.map] at l1)
  k_with "num dict" => (first | assumption | exact isH_nil (by assumption))
  k_with "num units" => (simp only [units_deeper, units_under_make]; show un + _ + 3 + 3 + 3 + 9 < cLine; have hcL9 := cLine_is; walk_at "om")
  k_with "len list" => decide
  k_with "room" => (rw [sizeLine_eq]; decide)
  k_with "num keys" => first | exact keys0 | exact keys1 (key_new (by decide +kernel) (by repeat (first | exact List.Mem.head _ | refine List.mem_cons_of_mem _ ?_)) (by repeat (first | exact List.Mem.head _ | refine List.mem_cons_of_mem _ ?_)))
  k_with "num key" => first | (show KeyL _ (Str.ofString "true", (0 : Int), ((0 : Int), (none : Option Int))) _; exact key_new (by decide +kernel) (List.Mem.head _) (by repeat (first | exact List.Mem.head _ | refine List.mem_cons_of_mem _ ?_))) | (show KeyL _ (Str.ofString "false", (0 : Int), ((0 : Int), (none : Option Int))) _; exact key_new (by decide +kernel) (List.Mem.head _) (by repeat (first | exact List.Mem.head _ | refine List.mem_cons_of_mem _ ?_)))
  k_with "wpAt" => (k_dflt (ks_step "exec Expr"; refine ks_wpAt_Expr_any ?_))
  k_with "wpAt" => (k_dflt (ks_step "eval Call"; refine ks_wpAt_MethodCall ?_))
  k_with "num value" => first | exact get_none rfl | exact get_none one_none
  iterate 60 (any_goals (first | (k_unfold; (try dsimp only)) | (k_end; wrow_close) | walk1 | (dsimp only; walk1)))
  iterate 200 (try (any_goals (first | (k_unfold; (try dsimp only)) | (k_end; wrow_close) | walk1 | (dsimp only; walk1))))
  obtain ⟨S, e1, e2, e3, e4, e5⟩ := bank_end (prog := PySem.Challenge.rw_rg0213_01.row.prog) (w := w) (h₀ := h₀) (L := L) (W := [(b, ob), (c, oc), (y1, oy1), (y2, oy2), (y3, oy3)]) (by assumption) (by assumption) (by assumption) (by assumption) (by assumption) (by intro p hp; simp only [List.mem_cons, List.not_mem_nil, or_false] at hp; rcases hp with rfl | rfl | rfl | rfl | rfl <;> (refine ltN ?_; dsimp only; walk_at "om")) (ltN (by walk_at "om")) (ltN (by walk_at "om")) (ltN (by walk_at "om")) (ltN (by walk_at "om")) (ltN (by walk_at "om")) (ltN (by walk_at "om")) (ltN (by walk_at "om")) (ltN (by walk_at "om")) (ltN (by walk_at "om")) (ltN (by walk_at "om")) (ltN (by walk_at "om")) (ltN (by walk_at "om")) (ltN (by walk_at "om")) (ltN (by walk_at "om")) (ltN (by walk_at "om")) (ltN (by walk_at "om")) (ltN (by walk_at "om")) (ltN (by walk_at "om")) (ltN (by walk_at "om")) rfl rfl rfl rfl rfl rfl rfl rfl rfl
  rw [← e1]
  exact hret S _ _ (by assumption) e2 e3 e4 e5
end Mine
end
/- L1 -/
section
open PySem PySem.W PyProof.Rows PySem.Calls PySem.Spec
namespace Mine
set_option maxRecDepth 100000
set_option maxHeartbeats 8000000
theorem five_of {h₀ h : Heap} {L : Addr} {a b c d e : Addr × Obj} {news : List (Addr × Obj)} (N : News h₀ L h news) (ha : a ∈ news) (hb : b ∈ news) (hc : c ∈ news) (hd : d ∈ news) (he : e ∈ news) : News h₀ L h [a, b, c, d, e] := fun p hp => by
  simp only [List.mem_cons, List.not_mem_nil, or_false] at hp
  rcases hp with rfl | rfl | rfl | rfl | rfl
  · exact N _ ha
  · exact N _ hb
  · exact N _ hc
  · exact N _ hd
  · exact N _ he
theorem five_first {h₀ h : Heap} {L : Addr} {a b c d e : Addr × Obj} {led : List (Addr × Obj)} (N : News h₀ L h (led ++ [a, b, c, d, e])) (ap : ∀ p ∈ led, ∀ q ∈ [a, b, c, d, e], p.1 ≠ q.1) :
    News h₀ L h (a :: b :: c :: d :: e :: led) ∧ (∀ p ∈ led, p.1 ≠ a.1) ∧ (∀ p ∈ led, p.1 ≠ b.1) ∧ (∀ p ∈ led, p.1 ≠ c.1) ∧ (∀ p ∈ led, p.1 ≠ d.1) ∧ (∀ p ∈ led, p.1 ≠ e.1) := by
  refine ⟨fun p hp => N p ?_, fun p hp => ap p hp _ (by simp), fun p hp => ap p hp _ (by simp), fun p hp => ap p hp _ (by simp), fun p hp => ap p hp _ (by simp), fun p hp => ap p hp _ (by simp)⟩
  simp only [List.mem_cons, List.mem_append, List.not_mem_nil, or_false] at hp ⊢
  rcases hp with h | h | h | h | h | h <;> simp only [h, true_or, or_true]
theorem cons_nil (S : BS) : ConsOK S [] := fun i _ v h => by cases h
theorem hb_of {w : World} {o : Obj} {l l' : List (Str × Value)} (h : o.IsDictOf (PySem.strKind PySem.Challenge.rw_rg0213_01.row.prog w) l) (e : l = l') : o.IsDictOf (strKind LP w) l' := e ▸ h
theorem ne_bc : ¬ (Str.ofString "bin_here" = Str.ofString "constants") := by decide +kernel
theorem lapJ_start {w : World} {L : Nat} {m : Str → Option Value} {S : BS} {b c cd sd : Nat} {vs : List Value} {cells : List Int} {o co so cb cs ct : Obj} {tv : Option Value} {ta : Tok}
    (ok : SOK LP w 3 S) (tf : TF S) (m1 : m (Str.ofString "bin_here") = some (.ref b)) (m2 : m (Str.ofString "constants") = some (.ref cd)) (e1 : cb.data = .cell (some (.ref (S.B.A 1)))) (e2 : cs.data = .cell (some (.ref sd))) (e3 : ct.data = .cell tv)
    (hb : Bin LP w c 0 ta o) (hv : IntsAre vs cells) (hl : cells.length ≤ 63) (hcd : co.IsDictOf (strKind LP w) []) (lcd : (cd == sysModules) = false) (hsd : so.IsDictOf (strKind LP w) []) (lsd : (sd == sysModules) = false)
    (qa9 : Below' cd (b :: c :: (L + 1 + 1 + 1) :: (L + 1 + 1) :: (L + 1) :: S.led.map (·.1))) (qb9 : Below' sd (cd :: b :: c :: (L + 1 + 1 + 1) :: (L + 1 + 1) :: (L + 1) :: S.led.map (·.1)))
    {x : Nat} (qc : x ≠ c ∧ b ≠ c ∧ L + 1 + 1 + 1 ≠ c ∧ L + 1 + 1 ≠ c ∧ L + 1 ≠ c) (qd9 : Below' b [L + 1 + 1 + 1, L + 1 + 1, L + 1])
    (ap1 : ∀ p ∈ S.led, p.1 ≠ b) (ap2 : ∀ p ∈ S.led, p.1 ≠ c) (ap3 : ∀ p ∈ S.led, p.1 ≠ L + 1 + 1 + 1) (ap4 : ∀ p ∈ S.led, p.1 ≠ L + 1 + 1) (ap5 : ∀ p ∈ S.led, p.1 ≠ L + 1) :
    LapJ w L 0 m ((sd, so) :: (cd, co) :: (b, o) :: (c, LCg.lst vs) :: (L + 1 + 1 + 1, ct) :: (L + 1 + 1, cs) :: (L + 1, cb) :: S.led) := by
  have hap : ∀ p ∈ S.led, p.1 ≠ sd ∧ p.1 ≠ cd ∧ p.1 ≠ b ∧ p.1 ≠ c ∧ p.1 ≠ L + 1 + 1 + 1 ∧ p.1 ≠ L + 1 + 1 ∧ p.1 ≠ L + 1 :=
    fun p hp => ⟨Nat.ne_of_lt (qb9 _ (.tail _ (.tail _ (.tail _ (.tail _ (.tail _ (.tail _ (List.mem_map_of_mem hp)))))))), Nat.ne_of_lt (qa9 _ (.tail _ (.tail _ (.tail _ (.tail _ (.tail _ (List.mem_map_of_mem hp))))))), ap1 p hp, ap2 p hp, ap3 p hp, ap4 p hp, ap5 p hp⟩
  exact .mk m1 m2 e1 e2 e3 hb (Int.le_refl 0) (by simp) hv hl ok tf hcd (Nat.le_refl 0) (cons_nil S) lcd hsd (fun p hp => absurd hp List.not_mem_nil) (Nat.le_refl 0) lsd hap
    (qd9 _ Mine.m0) (qa9 _ Mine.m2) (qb9 _ Mine.m3) qc.2.2.1.symm qc.2.2.2.1.symm qc.2.2.2.2.symm qc.2.1.symm (Nat.ne_of_gt (qa9 _ Mine.m0)) (Nat.ne_of_gt (qa9 _ Mine.m1)) (Nat.ne_of_gt (qb9 _ Mine.m1)) (Nat.ne_of_gt (qb9 _ Mine.m2)) (Nat.ne_of_gt (qb9 _ Mine.m0))
theorem lapJ_turn {P : Prop} {w : World} {L i LL : Nat} {m : Str → Option Value} {nx own : List (Addr × Obj)} {h₀ h : Heap} (J : LapJ w L i m nx) (off : OwnOff own (nx.map (·.1))) (N : News h₀ LL h (nx ++ own))
    (k : ∀ (S : BS) (b c cd sd : Nat) (vs : List Value) (cells : List Int) (o co so cb cs ct : Obj) (at' : Int) (ta : Tok) (css seen : List (Str × Value)) (tv : Option Value), m (Str.ofString "bin_here") = some (.ref b) → m (Str.ofString "constants") = some (.ref cd) → cb.data = .cell (some (.ref (S.B.A 1))) → cs.data = .cell (some (.ref sd)) → ct.data = .cell tv →
      Bin LP w c at' ta o → 0 ≤ at' → at' ≤ 10 * (i : Int) → IntsAre vs cells → cells.length ≤ 63 → SOK LP w (3 + 2 * i) S → TF S →
      co.IsDictOf (strKind LP w) css → css.length ≤ i → ConsOK S css → (cd == sysModules) = false → so.IsDictOf (strKind LP w) seen → SeenOK S css seen → seen.length ≤ i → (sd == sysModules) = false →
      (∀ p ∈ S.led, p.1 ≠ sd ∧ p.1 ≠ cd ∧ p.1 ≠ b ∧ p.1 ≠ c ∧ p.1 ≠ L + 1 + 1 + 1 ∧ p.1 ≠ L + 1 + 1 ∧ p.1 ≠ L + 1) →
      L + 1 + 1 + 1 < b → L + 1 + 1 + 1 < cd → L + 1 + 1 + 1 < sd → c ≠ L + 1 + 1 + 1 → c ≠ L + 1 + 1 → c ≠ L + 1 → c ≠ b → cd ≠ b → cd ≠ c → sd ≠ b → sd ≠ c → sd ≠ cd →
      OwnOff own (((sd, so) :: (cd, co) :: (b, o) :: (c, LCg.lst vs) :: (L + 1 + 1 + 1, ct) :: (L + 1 + 1, cs) :: (L + 1, cb) :: S.led : List (Addr × Obj)).map (·.1)) → News h₀ LL h ((sd, so) :: (cd, co) :: (b, o) :: (c, LCg.lst vs) :: (L + 1 + 1 + 1, ct) :: (L + 1 + 1, cs) :: (L + 1, cb) :: (S.led ++ own)) → P) : P := by
  cases J with
  | mk m1 m2 e1 e2 e3 hb h0 h1 hv hl ok tf hcd hcl hcons lcd hsd hsk hsl lsd hap q1 q2 q3 q4 q5 q6 q7 q8 q9 q10 q11 q12 => exact k _ _ _ _ _ _ _ _ _ _ _ _ _ _ _ _ _ _ m1 m2 e1 e2 e3 hb h0 h1 hv hl ok tf hcd hcl hcons lcd hsd hsk hsl lsd hap q1 q2 q3 q4 q5 q6 q7 q8 q9 q10 q11 q12 off N
theorem lapJ_done {P : Prop} {w : World} {L i LL : Nat} {m : Str → Option Value} {nx : List (Addr × Obj)} {h₀ h : Heap} (J : LapJ w L i m nx) (N : News h₀ LL h nx)
    (k : ∀ (S : BS) (b c cd sd : Nat) (vs : List Value) (cells : List Int) (o co so cb cs ct : Obj) (at' : Int) (ta : Tok) (css seen : List (Str × Value)) (tv : Option Value), m (Str.ofString "bin_here") = some (.ref b) → m (Str.ofString "constants") = some (.ref cd) → cb.data = .cell (some (.ref (S.B.A 1))) → cs.data = .cell (some (.ref sd)) → ct.data = .cell tv →
      Bin LP w c at' ta o → 0 ≤ at' → at' ≤ 10 * (i : Int) → IntsAre vs cells → cells.length ≤ 63 → SOK LP w (3 + 2 * i) S → TF S →
      co.IsDictOf (strKind LP w) css → css.length ≤ i → ConsOK S css → (cd == sysModules) = false → so.IsDictOf (strKind LP w) seen → SeenOK S css seen → seen.length ≤ i → (sd == sysModules) = false →
      (∀ p ∈ S.led, p.1 ≠ sd ∧ p.1 ≠ cd ∧ p.1 ≠ b ∧ p.1 ≠ c ∧ p.1 ≠ L + 1 + 1 + 1 ∧ p.1 ≠ L + 1 + 1 ∧ p.1 ≠ L + 1) →
      L + 1 + 1 + 1 < b → L + 1 + 1 + 1 < cd → L + 1 + 1 + 1 < sd → c ≠ L + 1 + 1 + 1 → c ≠ L + 1 + 1 → c ≠ L + 1 → c ≠ b → cd ≠ b → cd ≠ c → sd ≠ b → sd ≠ c → sd ≠ cd →
      News h₀ LL h ((sd, so) :: (cd, co) :: (b, o) :: (c, LCg.lst vs) :: (L + 1 + 1 + 1, ct) :: (L + 1 + 1, cs) :: (L + 1, cb) :: S.led) → P) : P := by
  cases J with
  | mk m1 m2 e1 e2 e3 hb h0 h1 hv hl ok tf hcd hcl hcons lcd hsd hsk hsl lsd hap q1 q2 q3 q4 q5 q6 q7 q8 q9 q10 q11 q12 => exact k _ _ _ _ _ _ _ _ _ _ _ _ _ _ _ _ _ _ m1 m2 e1 e2 e3 hb h0 h1 hv hl ok tf hcd hcl hcons lcd hsd hsk hsl lsd hap q1 q2 q3 q4 q5 q6 q7 q8 q9 q10 q11 q12 N
theorem leaf_call {w : World} {mean : ExcName → Option Value} {mg mb : Str → Option Value} {dp un : Nat} {gd : Option (List Code)} {cn : Str} {cs : Scope} {a : Addr} {ccd : Value} {cl : List (Str × Addr)} {outer : List Env} {A₀ : Around} {base h₀ : Heap} {L : Addr} {LL : Nat} {m : Str → Option Value}
    {hp0 : Heap} {gs0 : Array GenState} {dr0 : Drawn} {tk0 : Nat} {os0 : OsState} {Q E : Value → Shared → Prop} {kk : Nat} {S : BS} {b c cd sd : Nat} {vs : List Value} {cells : List Int} {o co so cb cs0 ct : Obj} {at' : Int} {ta : Tok} {css : List (Str × Value)} {own : List (Addr × Obj)}
    (hbin : Bin LP w c at' ta o) (q7 : c ≠ b) (q8 : cd ≠ b) (q9 : cd ≠ c) (hiv : IntsAre vs cells) (hcl : cells.length ≤ 63) (h0 : 0 ≤ at') (h1 : at' < 800) (ok : SOK LP w kk S) (tf : TF S) (hk9 : kk ≤ 800) (hcd : co.IsDictOf (strKind LP w) css) (lcd : (cd == sysModules) = false) (hcons : ConsOK S css) (hlen : css.length ≤ 800)
    (hap : ∀ p ∈ S.led, p.1 ≠ sd ∧ p.1 ≠ cd ∧ p.1 ≠ b ∧ p.1 ≠ c ∧ p.1 ≠ LL + 1 + 1 + 1 ∧ p.1 ≠ LL + 1 + 1 ∧ p.1 ≠ LL + 1)
    (off : OwnOff own (((sd, so) :: (cd, co) :: (b, o) :: (c, LCg.lst vs) :: (LL + 1 + 1 + 1, ct) :: (LL + 1 + 1, cs0) :: (LL + 1, cb) :: S.led : List (Addr × Obj)).map (·.1)))
    (q10 : sd ≠ b) (q11 : sd ≠ c) (q12 : sd ≠ cd) (p4 : LL + 1 + 1 + 1 ≠ b ∧ LL + 1 + 1 + 1 ≠ c ∧ LL + 1 + 1 + 1 ≠ cd) (p5 : LL + 1 + 1 ≠ b ∧ LL + 1 + 1 ≠ c ∧ LL + 1 + 1 ≠ cd) (p6 : LL + 1 ≠ b ∧ LL + 1 ≠ c ∧ LL + 1 ≠ cd) (e1 : cb.data = .cell (some (.ref (S.B.A 1))))
    (B : Below A₀ base outer h₀) (F : Fr h₀ L hp0 m) (X : (Mine.heap w.params).In h₀) (N : News h₀ L hp0 ((sd, so) :: (cd, co) :: (b, o) :: (c, LCg.lst vs) :: (LL + 1 + 1 + 1, ct) :: (LL + 1 + 1, cs0) :: (LL + 1, cb) :: (S.led ++ own))) (T : Top Mine.view (looseW Mine.view Mine.loose) mean mg mb h₀)
    (hk : cs.kind = .function) (hd : dp + 6 < recursionLimit) (hu : un + 8 * 6 < cLine)
    (ret1 : ∀ (x d : Nat) (t : Nat) (tt : Tok) (S9 : BS) (o9 co9 : Obj) (at9 : Int) (tp9 : Tok) (cs9 : List (Str × Value)) (W : List (Addr × Obj)) (h' : Heap) (tk' : Nat) (i8 n8 : Nat) (t8 : Tok), Bin LP w c at9 tp9 o9 → at' ≤ at9 → at9 ≤ at' + 10 → SOK LP w (kk + 2) S9 → Ext S S9 → co9.IsDictOf (strKind LP w) cs9 → cs9.length ≤ css.length + 1 → (∀ k v, valueAt css k = some v → valueAt cs9 k = some v) → ConsOK S9 cs9 →
      (∀ p ∈ S9.led, p ∈ W) → (∀ p ∈ own, p ∈ W) → (∀ p ∈ W, p.1 ≠ sd) → (∀ p ∈ W, p.1 ≠ LL + 1 + 1 + 1) → x ≠ sd → d ≠ sd → x ≠ LL + 1 + 1 + 1 → d ≠ LL + 1 + 1 + 1 → (∀ p ∈ S9.led, ∀ q ∈ own, p.1 ≠ q.1) →
      (∀ p ∈ S9.led, p.1 ≠ sd ∧ p.1 ≠ cd ∧ p.1 ≠ b ∧ p.1 ≠ c ∧ p.1 ≠ LL + 1 + 1 + 1 ∧ p.1 ≠ LL + 1 + 1 ∧ p.1 ≠ LL + 1) → cb.data = .cell (some (.ref (S9.B.A 1))) → (Leaf.name i8).Is S9 cs9 t → textAt i8 = none → Fr h₀ L h' m → News h₀ L h' ((x, tupO [.int t tt, .ref d] 0) :: (d, ({ cls := .type "tuple", data := .seq ([.str (Str.ofString "word") t8, .none] : List Value).toArray n8 } : Obj)) :: (sd, so) :: (cd, co9) :: (b, o9) :: (c, LCg.lst vs) :: (LL + 1 + 1 + 1, ct) :: (LL + 1 + 1, cs0) :: (LL + 1, cb) :: W) → Q (.ref x) ⟨h', gs0, dr0, tk', os0⟩)
    (ret2 : ∀ (x d : Nat) (t : Nat) (tt : Tok) (S9 : BS) (o9 co9 : Obj) (at9 : Int) (tp9 : Tok) (cs9 : List (Str × Value)) (W : List (Addr × Obj)) (h' : Heap) (tk' : Nat) (k9 : BKey) (a9 : Addr) (t9 : Tok) (b9 : Bool) (l9 : Leaf) (ch8 : List Nat) (v8 u8 : Value) (r8 : List Value) (n8 : Nat), Bin LP w c at9 tp9 o9 → at' ≤ at9 → at9 ≤ at' + 10 → SOK LP w (kk + 2) S9 → Ext S S9 → co9.IsDictOf (strKind LP w) cs9 → cs9.length ≤ css.length + 1 → (∀ k v, valueAt css k = some v → valueAt cs9 k = some v) → ConsOK S9 cs9 →
      (∀ p ∈ S9.led, p ∈ W) → (∀ p ∈ own, p ∈ W) → (∀ p ∈ W, p.1 ≠ sd) → (∀ p ∈ W, p.1 ≠ LL + 1 + 1 + 1) → x ≠ sd → d ≠ sd → x ≠ LL + 1 + 1 + 1 → d ≠ LL + 1 + 1 + 1 → (∀ p ∈ S9.led, ∀ q ∈ own, p.1 ≠ q.1) →
      (∀ p ∈ S9.led, p.1 ≠ sd ∧ p.1 ≠ cd ∧ p.1 ≠ b ∧ p.1 ≠ c ∧ p.1 ≠ LL + 1 + 1 + 1 ∧ p.1 ≠ LL + 1 + 1 ∧ p.1 ≠ LL + 1) → cb.data = .cell (some (.ref (S9.B.A 1))) →
      atKey S9.xs k9 = some (a9, .int t t9) → (k9.1.cps.toList == (Str.ofString "app").cps.toList) = b9 → (b9 = true → ∃ (f : Nat) (tf tn : Tok) (nm : Str), f < 1000 ∧ S9.B.datas[t]? = some (.int f tf) ∧ S9.B.fnames[f]? = some (.str nm tn)) →
      l9.Is S9 cs9 t → l9.Due S9.imms ({ cls := .type "tuple", data := .seq (v8 :: u8 :: r8 : List Value).toArray n8 } : Obj) → l9.chars = some ch8 → Some1 u8 → Fr h₀ L h' m → News h₀ L h' ((x, tupO [.int t tt, .ref d] 0) :: (d, ({ cls := .type "tuple", data := .seq (v8 :: u8 :: r8 : List Value).toArray n8 } : Obj)) :: (sd, so) :: (cd, co9) :: (b, o9) :: (c, LCg.lst vs) :: (LL + 1 + 1 + 1, ct) :: (LL + 1 + 1, cs0) :: (LL + 1, cb) :: W) → Q (.ref x) ⟨h', gs0, dr0, tk', os0⟩) :
    wpAny (model LP w) (ktrTop dp un gd cn cs L a ccd cl outer) (call (.ref 824) [.ref b, .ref (S.B.A 1), .ref cd]) Q E ⟨hp0, gs0, dr0, tk0, os0⟩ := by
  refine Runs.useR (leaf_runs (vs := vs) (cells := cells) (cn := vs.length) hbin q7 q8 q9 hiv hcl h0 h1 ok tf hk9 hcd lcd hcons hlen (fun p hp => ⟨(hap p hp).2.2.1, (hap p hp).2.2.2.1, (hap p hp).2.1⟩)) B F X N T hk hd hu ?_
    (lap_other (co := co) (o := o) (oc := LCg.lst vs) hap off q10 q11 q12 p4 p5 p6) ?_
  · intro p hp; simp only [List.mem_cons, List.mem_append] at hp ⊢; rcases hp with h | h | h | h <;> simp [h]
  · intro r9 tl9 h9 tk9 F9 N9 ap9 R9
    unfold LeafRet at R9
    (refine Mine.ex10 R9 fun x9 d9 t9 tt9 S9 o9 co9 dO9 at9 tp9 om0 => Mine.ex2 om0 fun cs9 l9 om1 => Mine.an13 om1 fun e9 e9' hbin9 hb1 hb2 ok9 ex9 hcd9 hcl9 hcm9 hcons9 hl9 om2 => Mine.an2 om2 fun hdue9 hS9 => ?_; clear om0 om1 om2; (try clear R9))
    subst e9; subst e9'
    (refine Mine.ex1 (lap_behind (S0 := S) (co0 := co) (o0 := o) (oc0 := LCg.lst vs) N9 ap9 hS9 off) fun W om0 => Mine.an8 om0 fun NW w1 w2 w3 w4 on6 apo hap9 => ?_; clear om0; obtain ⟨w5, w6, w7, w8⟩ := on6)
    rw [← ex9.A] at e1
    (first | (refine Mine.ex4 (leaf_key ok9 (Nat.le_trans (Nat.add_le_add_right hk9 2) (by decide)) hl9) fun k9 a9' t9' b9 om0 => Mine.an3 om0 fun hat9 hop9 hb9 => ?_; clear om0) | obtain ⟨k9, a9', t9', b9, hat9, hop9, hb9⟩ := leaf_key ok9 (Nat.le_trans (Nat.add_le_add_right hk9 2) (by decide)) hl9)
    rcases due_cases hl9 hdue9 with ⟨i8, n8, t8, rfl, hn8, rfl⟩ | ⟨ch8, v8, u8, r8, n8, hch8, rfl, hs8⟩
    · exact ret1 _ _ _ _ _ _ _ _ _ _ _ _ _ _ _ _ hbin9 hb1 hb2 ok9 ex9 hcd9 hcl9 hcm9 hcons9 w1 w2 w3 w4 w5 w6 w7 w8 apo hap9 e1 hl9 hn8 F9 NW
    · exact ret2 _ _ _ _ _ _ _ _ _ _ _ _ _ _ _ _ _ _ _ _ _ _ _ hbin9 hb1 hb2 ok9 ex9 hcd9 hcl9 hcm9 hcons9 w1 w2 w3 w4 w5 w6 w7 w8 apo hap9 e1 hat9 hop9 hb9 hl9 hdue9 hch8 hs8 F9 NW
local macro_rules | `(tactic| k_qdec) => `(tactic| decide +kernel)
theorem lawx : PySem.Challenge.rw_rg0213_01.Holds := Mine.holds_of rfl rfl rfl (by
  k_with_none
  k_with "om" => first | (with_reducible first | assumption | exact Mine.n2 (by assumption) (by k_dflt exact rfl) | exact Mine.n7 (by assumption) | exact Mine.n8 (by assumption) (by assumption) | exact Mine.n9 (by assumption) (by k_dflt exact rfl) | exact Mine.n10 (by assumption) (by k_dflt exact rfl) | exact Mine.n11 (by assumption) (by assumption) (by k_dflt exact rfl) | exact Mine.v1 (by assumption) | exact Mine.v2 (by assumption) | exact (Mine.v1 (by assumption)).symm | exact (Mine.v2 (by assumption)).symm | exact Mine.v9 (by assumption) (by k_dflt exact rfl) | exact Int.natCast_nonneg _ | exact Int.le_refl _ | exact Nat.le_refl _ | (refine' Mine.ne_above ?kb8z18 ?km8z18; (case kb8z18 => with_reducible assumption); (case km8z18 => walk_at "key mem"))) | omega
  k_with "rm" => first | ((try dsimp only [depth_under_make, depth_under_kw, depth_in1, depth_deeper, depth_caller, units_in1, units_deeper, Around.mark_units, units_caller, units_under_make, ktrTop]); walk_at "om") | ktr_room | ktr_units
  k_with "newTuple" => (k_here; k_dflt (refine' Mine.newTupleS ?Fz21 ?Nz21 ?ez21 ?zz21 ?_; (case Fz21 => k_asm); (case Nz21 => k_asm); (case ez21 => (dsimp only [List.map]; (try exact rfl))); (case zz21 => kmk_size)); intro D' h' l1 F' N'; (try k_sweep))
  k_with "newList" => (k_here; k_dflt (refine' Mine.newListS ?Fz22 ?Nz22 ?ez22 ?zz22 ?_; (case Fz22 => k_asm); (case Nz22 => k_asm); (case ez22 => (dsimp only [List.map]; (try exact rfl))); (case zz22 => size_fits); k_whole); intro l' h' l1 F' N'; (try k_sweep))
  k_with "eval Dict nil nil" => (k_here; k_dflt (refine' Mine.newDictS ?Fz23 ?Nz23 (TopRead.nolimit (by k_asm)) ?ez23 ?_; (case Fz23 => k_asm); (case Nz23 => k_asm); (case ez23 => (dsimp only [List.map]; (try exact rfl))); k_whole); intro d' h' o' l1 lo' hs' hi' F' N'; (try k_sweep))
  k_with "k_all" => assumption
  k_with "subscriptTail" => (k_here; (with_reducible show wpAny _ _ (subscriptTail _ _ (Value.ref _) (Value.str _ _)) _ _ _); k_dflt (refine' kda_item (knd := PySem.strKind _ _) ?Nz25 ?pz25 ?dz25 (strKind_is _ _ _ _) ?vz25 ?_; (case Nz25 => k_asm); (case pz25 => k_mem); (case dz25 => k_asm); (case vz25 => first | rfl | assumption); k_whole))
  k_with "key mem" => with_reducible first | exact Mine.m0 | exact Mine.m1 | exact Mine.m2 | exact Mine.m3 | exact Mine.m4 | exact Mine.m5 | exact Mine.m6
  k_with "k_mem" => (k_whole; walk_at "key mem")
  k_with "k_ne" => ((refine neN ?_; (try dsimp only)); first | (refine' Mine.ne_below ?kb9z33 ?km9z33; (case kb9z33 => with_reducible assumption); (case km9z33 => walk_at "key mem")) | (refine' Mine.ne_above ?kb9z33 ?km9z33; (case kb9z33 => with_reducible assumption); (case km9z33 => walk_at "key mem")) | walk_at "ne find" | omega)
  k_with "k_all" => (refine' Mine.all_below ?kb9z30 ?km9z30; (case kb9z30 => with_reducible assumption); (case km9z30 => exact rfl))
  k_with "ne find" => first | with_reducible assumption | (refine Ne.symm ?_; with_reducible assumption) | (refine Nat.ne_of_lt ?_; with_reducible assumption) | (refine Nat.ne_of_gt ?_; with_reducible assumption) | ((with_reducible rename _ ∧ _ => hc9); have hc8 := hc9.1; have hc7 := hc9.2; clear hc9; walk_at "ne find")
  k_with "spliced" => (k_here; (refine PyProof.Rows.args_nil ?_); (try dsimp only [List.cons_append, List.nil_append]); (with_reducible show _ ∧ _))
  k_with "exec For Name Call cons nil" => k_extra "my for"
  k_with "pit" => k_extra "my iter"
  k_with "call type:range" => k_extra "my range"
  k_with "subscriptTail Name Constant ref int" => (k_here; (with_reducible show wpAny _ _ (subscriptTail _ _ (Value.ref _) (Value.int 1 _)) _ _ _); k_dflt (refine' Mine.item_tup1 ?Nz55 ?pz55 ?_ (by with_unfolding_all rfl) (by intro _; with_unfolding_all rfl); (case Nz55 => k_asm); (case pz55 => k_mem); k_whole))
  k_with "compareOp NotEq ref ref" => (k_here; (with_reducible show wpAny _ _ (compareOp CmpOp.NotEq (Value.ref _) (Value.ref _)) _ _ _); k_dflt ((refine ne_dataH (by ked_read) (by ked_read) (by ked_shaped) (by ked_shaped) (by walk_at "rm") ?_); ked_norm))
  k_with "k_mem" => assumption
  k_with "call ref" => (k_here; (with_reducible show wpAny _ _ (call (Value.ref 705) _) _ _ _); k_extra "bank call")
  k_with "call ref" => (k_here; (with_reducible show wpAny _ _ (call (Value.ref 824) _) _ _ _); k_extra "leaf call")
  k_with "call ref" => (k_here; (with_reducible show wpAny _ _ (call (Value.ref 843) _) _ _ _); k_extra "due call")
  k_with "call ref" => (k_here; (with_reducible show wpAny _ _ (call (Value.ref 739) _) _ _ _); k_extra "own call")
  k_with "call ref" => (k_here; (with_reducible show wpAny _ _ (call (Value.ref 767) _) _ _ _); k_extra "term call")
  k_with "call builtin:dict.setdefault" => (k_here; (with_reducible show wpAny _ _ (call (Value.builtin "dict.setdefault") _) _ _ _); k_extra "setdef")
  k_with "compareOp NotEq str str" => (k_here; k_extra "strne")
  k_with "eval ListComp" => (k_here; k_extra "comp seen")
  k_with "And" => (k_extra "comp and")
  k_with "DTurn" => (k_extra "turn")
  k_with "call type:set cons nil" => (k_extra "set")
  k_with "call builtin:len" => (k_extra "len")
  k_with "CompEnd" => (k_extra "comp end")
  k_with "compareOp Is" => (k_here; k_extra "is")
  k_with "call ref" => (k_here; (with_reducible show wpAny _ _ (call (Value.ref 850) _) _ _ _); k_extra "refused call")
  k_with "call ref" => (k_here; (with_reducible show wpAny _ _ (call (Value.ref 727) _) _ _ _); k_extra "text call")
  k_with "bank call" => ((k_dflt (refine' Mine.bank_new ?k1 ?k2 ?k3 (Mine.five_of ?k4 (.tail _ (.tail _ (.head _))) (.head _) (.tail _ (.tail _ (.tail _ (.head _)))) (.tail _ (.tail _ (.tail _ (.tail _ (.head _))))) (.tail _ (.tail _ (.tail _ (.tail _ (.tail _ (.head _))))))) ?k5 ?kK ?kd ?ku ?_; (case k1 => k_asm); (case k2 => k_asm); (case k3 => k_asm); (case k4 => k_asm); (case k5 => k_asm); (case kK => exact rfl); (case kd => walk_at "rm"); (case ku => walk_at "rm")); intro S hB tkB FB NB0 ok tf apB0; (k_dflt (refine Mine.an6 (five_first NB0 apB0) fun NB ap1 ap2 ap3 ap4 ap5 => ?_)); clear NB0 apB0; dsimp only at ap1 ap2 ap3 ap4 ap5))
  k_with "my for" => ((rename Fr _ _ _ _ => lF'); (with_unfolding_all refine' For_invVF lF' ?k1 ?k2 ?_; (case k1 => exact rfl); (case k2 => exact rfl); k_whole))
  k_with "my range" => ((rename Fr _ _ _ _ => F'); (rename News _ _ _ _ => N'); (with_unfolding_all refine range1_rows F' N' ?_); intro hr1 kr1 tr1 tr2 tr3 rgX F'' N'' kr2)
  k_with "my iter" => (((with_reducible show wpAny _ _ (pyIter (Value.ref _)) (fun it s₂ => LoopAtV _ _ _ _ _ _ _ _ _ it s₂) _ _); (k_dflt refine' range_grow (n := 6) (LapJ _ _) (by rfl) rgX ?sm ?sz F'' (fun p hp => N'' p (.tail _ hp)) ?j ?turn ?done); (case sm => decide); (case sz => decide); (case j => (refine' lapJ_start ok tf ?m1 ?m2 ?e1 ?e2 ?e3 ?hb ?hv ?hl ?hcd ?lcd ?hsd ?lsd ?qa ?qb ?qc ?qd ap1 ap2 ap3 ap4 ap5; (case m1 => (rw [if_neg ne_bc, if_pos rfl])); (case m2 => (rw [if_pos rfl])); (case e1 => assumption); (case e2 => assumption); (case e3 => assumption); (case hv => assumption); (case hl => (rw [List.length_map, List.length_take]; walk_at "om")); (case hb => (rename Obj.IsDictOf _ _ (strPairs _) => hdB; unfold Bin; refine hb_of hdB rfl)); (case hcd => with_reducible assumption); (case lcd => with_reducible assumption); (case hsd => with_reducible assumption); (case lsd => with_reducible assumption); (case qa => with_reducible assumption); (case qb => with_reducible assumption); (case qc => with_reducible assumption); (case qd => with_reducible assumption))); (rotate_left; (intro m₁ nx h tk J₁ F₁ N₁); (k_dflt (refine' Mine.lapJ_done J₁ N₁ ?_)); (clear J₁ N₁); (intro S1 b1 c1 cd1 sd1 vs1 cells1 o1 co1 so1 cb1 cs1 ct1 at1 ta1 css1 seen1 tv1 hm1 hm2 e1 e2 e3 hbin h0 h1 hiv hcl ok1 tf1 hcd hcl2 hcons lcd hsd hsk hsl lsd hap q1 q2 q3 q4 q5 q6 q7 q8 q9 q10 q11 q12 N₁); (rw [bind2 hm1 hm2] at F₁); (have hdone : True := trivial)); rotate_left; (intro i ti m₁ nx h tk own hi off J₁ F₁ N₁); (k_dflt (refine' Mine.lapJ_turn J₁ off N₁ ?_)); (clear J₁ off N₁); (intro S1 b1 c1 cd1 sd1 vs1 cells1 o1 co1 so1 cb1 cs1 ct1 at1 ta1 css1 seen1 tv1 hm1 hm2 e1 e2 e3 hbin h0 h1 hiv hcl ok1 tf1 hcd hcl2 hcons lcd hsd hsk hsl lsd hap q1 q2 q3 q4 q5 q6 q7 q8 q9 q10 q11 q12 off N₁); (rw [bind2 hm1 hm2] at F₁)))
  k_with "leaf call" => ((k_dflt (refine' Mine.leaf_call (vs := vs1) (cells := cells1) hbin q7 q8 q9 hiv hcl h0 (by walk_at "om") ok1 tf1 (by walk_at "om") hcd lcd hcons (by walk_at "om") hap off q10 q11 q12 ⟨Nat.ne_of_lt q1, Ne.symm q4, Nat.ne_of_lt q2⟩ ⟨Mine.v1 q1, Ne.symm q5, Mine.v1 q2⟩ ⟨Mine.v2 q1, Ne.symm q6, Mine.v2 q2⟩ e1 ?k1 ?k2 ?k3 ?k4 ?k5 ?kK ?kd ?ku ?_ ?_; (case k1 => k_asm); (case k2 => k_asm); (case k3 => k_asm); (case k4 => k_asm); (case k5 => k_asm); (case kK => exact rfl); (case kd => walk_at "rm"); (case ku => walk_at "rm")); (clear e1); (intro x9 d9 t9 tt9 S9 o9 co9 at9 tp9 cs9 W h9 tk9 i8 n8 t8 hbin9 hb1 hb2 ok9 ex9 hcd9 hcl9 hcm9 hcons9 w1 w2 w3 w4 w5 w6 w7 w8 apo hap9 e1 hl9 hn8 F9 NW); rotate_left; (clear e1); (intro x9 d9 t9 tt9 S9 o9 co9 at9 tp9 cs9 W h9 tk9 k9 a9' t9' b9 l9 ch8 v8 u8 r8 n8 hbin9 hb1 hb2 ok9 ex9 hcd9 hcl9 hcm9 hcons9 w1 w2 w3 w4 w5 w6 w7 w8 apo hap9 e1 hat9 hop9 hb9 hl9 hdue9 hch8 hs8 F9 NW); rotate_left))
  k_with "is" => (refine Mine.is_some1 hs8 ?_)
  k_with "text call" => ((k_dflt (refine' Mine.Runs.useC (Mine.leaftext_reads ok9 (by walk_at "om") hl9 hch8) ?k1 ?k2 ?k3 ?k4 ?k5 ?kK ?kd ?ku ?kf ?_; (case k1 => k_asm); (case k2 => k_asm); (case k3 => k_asm); (case k4 => k_asm); (case k5 => k_asm); (case kK => exact rfl); (case kd => walk_at "rm"); (case ku => walk_at "rm"); (case kf => exact (fun p hp => by (repeat (first | exact w1 p hp | refine List.mem_cons_of_mem _ ?_))))); intro r6 h6 tk6 F6 N6 hP6; (unfold Mine.LTxt at hP6); ((k_dflt (refine Mine.ex2 hP6 fun x6 u6 om0 => Mine.an2 om0 fun e6 hx6 => ?_); clear om0; (try clear hP6))); (subst e6)))
  k_with "due call" => ((k_dflt (refine' Mine.Runs.useC (Mine.due_law hl9 hx6 hch8 hdue9) ?k1 ?k2 ?k3 ?k4 ?k5 ?kK ?kd ?ku ?kf ?_; (case k1 => k_asm); (case k2 => k_asm); (case k3 => k_asm); (case k4 => k_asm); (case k5 => k_asm); (case kK => exact rfl); (case kd => walk_at "rm"); (case ku => walk_at "rm"); (case kf => exact (fun p hp => by (rcases List.mem_cons.mp hp with rfl | hp; (· k_mem); (· (repeat (first | exact w1 p (imms_led S9 hp) | refine List.mem_cons_of_mem _ ?_))))))); intro r7 h7 tk7 F7 N7 hP7; (subst hP7)))
  k_with "setdef" => (first | (have hz9 : valueAt seen1 x6 = none := hv9; ((rename News _ _ _ _ => kN); (rename Fr _ _ _ _ => kF); k_dflt (refine' kob_setdef_new (knd := PySem.strKind _ _) kF kN ?U hsd lsd (strKind_is _ _ _ _) (PySem.F.args_dict_setdefault_3 _ _ _) hv9 ?z ?_; (case U => k_updF); (case z => (rw [sizeLine_eq]; walk_at "om"))); intro h8 o8 F8 N8 hd8; (try dsimp only at N8))) | (have hz9 : valueAt seen1 x6 = some v9 := hv9; ((rename News _ _ _ _ => kN); ((k_dflt (refine Mine.ex1 (seen_there (seen_ext hsk ex9 hcm9) hv9 hl9 hch8 hx6) fun u8' e8' => ?_))); (subst e8'); (k_dflt (refine' kob_setdef_there (knd := PySem.strKind _ _) kN ?U hsd lsd (strKind_is _ _ _ _) (PySem.F.args_dict_setdefault_3 _ _ _) hv9 ?z ?_; (case U => k_mem); (case z => (rw [sizeLine_eq]; walk_at "om")))))) | (rcases hv9 : valueAt seen1 x6 with _ | v9))
  k_with "own call" => ((k_dflt (refine' Mine.Runs.useC (Mine.owntext_reads ok9 (by walk_at "om") hl9 hat9 hch8) ?k1 ?k2 ?k3 ?k4 ?k5 ?kK ?kd ?ku ?kf ?_; (case k1 => k_asm); (case k2 => k_asm); (case k3 => k_asm); (case k4 => k_asm); (case k5 => k_asm); (case kK => exact rfl); (case kd => walk_at "rm"); (case ku => walk_at "rm"); (case kf => exact (fun p hp => by (repeat (first | exact w1 p hp | refine List.mem_cons_of_mem _ ?_))))); intro r10 h10 tk10 F10 N10 hP10; (unfold Mine.LTxt at hP10); ((k_dflt (refine Mine.ex2 hP10 fun x10 u10 om0 => Mine.an2 om0 fun e10 hx10 => ?_); clear om0; (try clear hP10))); (subst e10)))
  k_with "term call" => ((k_dflt (refine' Mine.Runs.useC (Mine.termtext_reads ok9 (by walk_at "om") hl9 hat9 hch8 (chars_len hl9 hch8) hop9 hb9) ?k1 ?k2 ?k3 ?k4 ?k5 ?kK ?kd ?ku ?kf ?_; (case k1 => k_asm); (case k2 => k_asm); (case k3 => k_asm); (case k4 => k_asm); (case k5 => k_asm); (case kK => exact rfl); (case kd => walk_at "rm"); (case ku => walk_at "rm"); (case kf => exact (fun p hp => by (repeat (first | exact w1 p hp | refine List.mem_cons_of_mem _ ?_))))); intro r11 h11 tk11 F11 N11 hP11; (unfold Mine.LTxt at hP11); ((k_dflt (refine Mine.ex2 hP11 fun x11 u11 om0 => Mine.an2 om0 fun e11 hx11 => ?_); clear om0; (try clear hP11))); (subst e11)))
  k_with "strne" => (first | refine Mine.same_ne (hx11.trans hx6.symm) ?_ | refine Mine.same_ne (hx10.trans hx6.symm) ?_)
  k_with "refused call" => (((first | (k_dflt (refine' Mine.refused_0 ok9 (by walk_at "om") hl9 hn8 ?k1 ?k2 ?k3 ?k4 ?sub ?k5 ?kK ?kd ?ku ?_; (case k1 => k_asm); (case k2 => k_asm); (case k3 => k_asm); (case k4 => k_asm); (case k5 => k_asm); (case kK => exact rfl); (case kd => walk_at "rm"); (case ku => walk_at "rm"); (case sub => exact (fun p hp => by (repeat (first | exact w1 p hp | refine List.mem_cons_of_mem _ ?_)))))) | (k_dflt (refine' Mine.refused_1 ok9 (by walk_at "om") hl9 hn8 ?k1 ?k2 ?k3 ?k4 ?sub ?k5 ?kK ?kd ?ku ?_; (case k1 => k_asm); (case k2 => k_asm); (case k3 => k_asm); (case k4 => k_asm); (case k5 => k_asm); (case kK => exact rfl); (case kd => walk_at "rm"); (case ku => walk_at "rm"); (case sub => exact (fun p hp => by (repeat (first | exact w1 p hp | refine List.mem_cons_of_mem _ ?_)))))) | (k_dflt (refine' Mine.refused_2 ok9 (by walk_at "om") hl9 hn8 ?k1 ?k2 ?k3 ?k4 ?sub ?k5 ?kK ?kd ?ku ?_; (case k1 => k_asm); (case k2 => k_asm); (case k3 => k_asm); (case k4 => k_asm); (case k5 => k_asm); (case kK => exact rfl); (case kd => walk_at "rm"); (case ku => walk_at "rm"); (case sub => exact (fun p hp => by (repeat (first | exact w1 p hp | refine List.mem_cons_of_mem _ ?_))))))); intro h12 tk12 F12 N12))
  k_with "comp end" => (have hz12 := F12; (refine' Mine.comp_end F12 N12 ?off ?_; (case off => ((simp only [LCg.Off3, and_true]); with_reducible assumption))))
  k_with "comp seen" => (have hz := hdone; (k_dflt (refine' Mine.ListComp_D (d := sd1) (o := so1) (kvs := seen1) F₁ N₁ ?c1 ?c2 ?c3 ?c4 ?c5 rfl lsd ?c6 hsd (.head _) ?_ (by intro _; rfl); (case c1 => with_unfolding_all rfl); (case c2 => decide); (case c3 => rfl); (case c4 => decide); (case c5 => rfl); (case c6 => (rw [sizeLine_eq]; walk_at "om")))))
  k_with "comp and" => (have hz := hdone; first | exact ⟨rfl, h7, _, rfl, F7, N7⟩ | refine ⟨rfl, F₁, N₁, fun g9 => ⟨?_, ?_⟩⟩)
  k_with "turn" => (have hz := hdone; ((k_dflt (unfold Mine.DTurn)); intro i7 k7 y7 t7 I7 oI7 C7 oC7 D7 m7 h7 tk7 ys7 E7 hk7 hC7 hx7 F7 N7; have hv7 := at_key (dict_nodup hsd) hk7))
  k_with "set" => (have hz := hdone; ((rename Fr _ _ _ _ => FS); (rename News _ _ _ _ => NS); k_dflt (refine' Mine.set_news FS NS (.head _) rfl (seen_ints hsk) (seen_nodup ok1 (imms_uniq N₁ ?uu9) hsk (dict_nodup hsd)) ?bb9 ?_; (case uu9 => exact fun p hp => by (repeat (first | exact hp | refine List.mem_cons_of_mem _ ?_))); (case bb9 => (rw [List.length_map]; unfold scanBound; walk_at "om"))); intro h13 tk13 o13 S13 F13 N13 hso13))
  k_with "len" => (have hz := hdone; (first | (k_dflt (refine' len_sl1 (own := []) N13 hso13 ?lf1 ?_; (case lf1 => (rw [List.length_map]; walk_at "om")))) | (k_dflt (refine' kda_len (knd := PySem.strKind _ _) N13 ?lm2 hsd lsd ?lf2 ?_; (case lm2 => k_mem); (case lf2 => walk_at "om")))))
  k_go0
  all_goals (try k_fold)
  k_steps
  all_goals (try (exfalso; first | walk_at "om" | exact absurd rfl (by assumption)))
  all_goals (try (show GrowEnd _ _ _ _ _ _))
  · rename Fr _ _ _ _ => FZ
    rename News _ _ _ _ => NZ
    refine grow_lap FZ NZ (fun p hp => by (repeat (first | exact hp | refine List.mem_cons_of_mem _ ?_))) w1 w2 off apo (lapJ_next ?_ ?_ e1 e2 (by assumption) hbin9 h0 h1 hb1 hb2 hiv hcl ok9 tf1 ex9 hcd9 (by walk_at "om") hcons9 lcd hsd (seen_ext hsk ex9 hcm9) (by walk_at "om") lsd hap9 q1 q2 q3 q4 q5 q6 q7 q8 q9 q10 q11 q12)
    · rfl
    · rfl
  · refine grow_lap F11 N11 (fun p hp => by (repeat (first | exact hp | refine List.mem_cons_of_mem _ ?_))) w1 w2 off apo (lapJ_next ?_ ?_ e1 e2 (by assumption) hbin9 h0 h1 hb1 hb2 hiv hcl ok9 tf1 ex9 hcd9 (by walk_at "om") hcons9 lcd hd8 (seen_put (seen_ext hsk ex9 hcm9) hl9 hch8 hx6) (stored_le hsl) lsd hap9 q1 q2 q3 q4 q5 q6 q7 q8 q9 q10 q11 q12)
    · rfl
    · rfl
  · refine grow_lap F11 N11 (fun p hp => by (repeat (first | exact hp | refine List.mem_cons_of_mem _ ?_))) w1 w2 off apo (lapJ_next ?_ ?_ e1 e2 (by assumption) hbin9 h0 h1 hb1 hb2 hiv hcl ok9 tf1 ex9 hcd9 (by walk_at "om") hcons9 lcd hsd (seen_ext hsk ex9 hcm9) (by walk_at "om") lsd hap9 q1 q2 q3 q4 q5 q6 q7 q8 q9 q10 q11 q12)
    · rfl
    · rfl
)
end Mine
end
set_option maxHeartbeats 8000000 in
theorem PySem.Challenge.cw_rg0213_01_holds : PySem.Challenge.rw_rg0213_01.Holds := by
  exact Mine.lawx
