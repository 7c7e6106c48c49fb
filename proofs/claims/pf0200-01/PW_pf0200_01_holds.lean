import PyProof.Rows.All
import Wide.All
import OpenK.AllK
import Wide.FinOn
import Lean
import PySem.Challenge.RW_pf0200_01
set_option linter.unusedVariables false
set_option compiler.extract_closed false
section
open PySem PySem.W PyProof.Rows
set_option Elab.async false
namespace Pf
/-! ## the objects of the top, written out by the library's own head (its walk comes at the end, in law_holds) -/
section
local macro_rules | `(tactic| o_head $_) => `(tactic| assumption)
set_option maxRecDepth 100000 in
theorem ob (h : PySem.Challenge.rw_pf0200_01.row.Holds) : PySem.Challenge.rw_pf0200_01.row.Holds := by
  k_head
end
end Pf
end
section
open PySem PySem.W PySem.Calls PyProof.Rows
set_option Elab.async false
namespace Pf
/-! ## a datum at which S fails, if there is one -/
theorem ex_eps {α : Type} (n : Nonempty α) (S : α → Prop) : Nonempty { x : α // S x → ∀ a, S a } :=
  Classical.byCases (fun h : ∃ a, ¬ S a => h.elim fun a q => ⟨⟨a, fun z => absurd z q⟩⟩) fun h => n.elim fun d => ⟨⟨d, fun _ a => Classical.byContradiction fun q => h ⟨a, q⟩⟩⟩
noncomputable def eps {α : Type} (n : Nonempty α) (S : α → Prop) : α := (Classical.choice (ex_eps n S)).1
theorem eps_all {α : Type} {n : Nonempty α} {S : α → Prop} (h : S (eps n S)) : ∀ a, S a := (Classical.choice (ex_eps n S)).2 h

def Ap1 {α1 : Type} (S : α1 → Prop) (a1 : α1) : Prop := S a1
theorem Ap1.mk {α1 : Type} {S : α1 → Prop} {a1} (h : S a1) : Ap1 S a1 := h
noncomputable def eps1 {α1 : Type} [i1 : Nonempty α1] (S : α1 → Prop) : α1 := eps inferInstance fun p => S p
theorem lift1 {α1 : Type} [i1 : Nonempty α1] {S : α1 → Prop} (h : Ap1 S (eps1 S)) : ∀ a1, S a1 := fun a1 => eps_all (S := fun p : α1 => S p) h a1
def Ap2 {α1 α2 : Type} (S : α1 → α2 → Prop) (a1 : α1) (a2 : α2) : Prop := S a1 a2
theorem Ap2.mk {α1 α2 : Type} {S : α1 → α2 → Prop} {a1 a2} (h : S a1 a2) : Ap2 S a1 a2 := h
noncomputable def eps2 {α1 α2 : Type} [i1 : Nonempty α1] [i2 : Nonempty α2] (S : α1 → α2 → Prop) : α1 × α2 := eps inferInstance fun p => S p.1 p.2
theorem lift2 {α1 α2 : Type} [i1 : Nonempty α1] [i2 : Nonempty α2] {S : α1 → α2 → Prop} (h : Ap2 S (eps2 S).1 (eps2 S).2) : ∀ a1 a2, S a1 a2 := fun a1 a2 => eps_all (S := fun p : α1 × α2 => S p.1 p.2) h (a1, a2)
def Ap3 {α1 α2 α3 : Type} (S : α1 → α2 → α3 → Prop) (a1 : α1) (a2 : α2) (a3 : α3) : Prop := S a1 a2 a3
theorem Ap3.mk {α1 α2 α3 : Type} {S : α1 → α2 → α3 → Prop} {a1 a2 a3} (h : S a1 a2 a3) : Ap3 S a1 a2 a3 := h
noncomputable def eps3 {α1 α2 α3 : Type} [i1 : Nonempty α1] [i2 : Nonempty α2] [i3 : Nonempty α3] (S : α1 → α2 → α3 → Prop) : α1 × α2 × α3 := eps inferInstance fun p => S p.1 p.2.1 p.2.2
theorem lift3 {α1 α2 α3 : Type} [i1 : Nonempty α1] [i2 : Nonempty α2] [i3 : Nonempty α3] {S : α1 → α2 → α3 → Prop} (h : Ap3 S (eps3 S).1 (eps3 S).2.1 (eps3 S).2.2) : ∀ a1 a2 a3, S a1 a2 a3 := fun a1 a2 a3 => eps_all (S := fun p : α1 × α2 × α3 => S p.1 p.2.1 p.2.2) h (a1, a2, a3)
def Ap4 {α1 α2 α3 α4 : Type} (S : α1 → α2 → α3 → α4 → Prop) (a1 : α1) (a2 : α2) (a3 : α3) (a4 : α4) : Prop := S a1 a2 a3 a4
theorem Ap4.mk {α1 α2 α3 α4 : Type} {S : α1 → α2 → α3 → α4 → Prop} {a1 a2 a3 a4} (h : S a1 a2 a3 a4) : Ap4 S a1 a2 a3 a4 := h
noncomputable def eps4 {α1 α2 α3 α4 : Type} [i1 : Nonempty α1] [i2 : Nonempty α2] [i3 : Nonempty α3] [i4 : Nonempty α4] (S : α1 → α2 → α3 → α4 → Prop) : α1 × α2 × α3 × α4 := eps inferInstance fun p => S p.1 p.2.1 p.2.2.1 p.2.2.2
theorem lift4 {α1 α2 α3 α4 : Type} [i1 : Nonempty α1] [i2 : Nonempty α2] [i3 : Nonempty α3] [i4 : Nonempty α4] {S : α1 → α2 → α3 → α4 → Prop} (h : Ap4 S (eps4 S).1 (eps4 S).2.1 (eps4 S).2.2.1 (eps4 S).2.2.2) : ∀ a1 a2 a3 a4, S a1 a2 a3 a4 := fun a1 a2 a3 a4 => eps_all (S := fun p : α1 × α2 × α3 × α4 => S p.1 p.2.1 p.2.2.1 p.2.2.2) h (a1, a2, a3, a4)
def Ap5 {α1 α2 α3 α4 α5 : Type} (S : α1 → α2 → α3 → α4 → α5 → Prop) (a1 : α1) (a2 : α2) (a3 : α3) (a4 : α4) (a5 : α5) : Prop := S a1 a2 a3 a4 a5
theorem Ap5.mk {α1 α2 α3 α4 α5 : Type} {S : α1 → α2 → α3 → α4 → α5 → Prop} {a1 a2 a3 a4 a5} (h : S a1 a2 a3 a4 a5) : Ap5 S a1 a2 a3 a4 a5 := h
noncomputable def eps5 {α1 α2 α3 α4 α5 : Type} [i1 : Nonempty α1] [i2 : Nonempty α2] [i3 : Nonempty α3] [i4 : Nonempty α4] [i5 : Nonempty α5] (S : α1 → α2 → α3 → α4 → α5 → Prop) : α1 × α2 × α3 × α4 × α5 := eps inferInstance fun p => S p.1 p.2.1 p.2.2.1 p.2.2.2.1 p.2.2.2.2
theorem lift5 {α1 α2 α3 α4 α5 : Type} [i1 : Nonempty α1] [i2 : Nonempty α2] [i3 : Nonempty α3] [i4 : Nonempty α4] [i5 : Nonempty α5] {S : α1 → α2 → α3 → α4 → α5 → Prop} (h : Ap5 S (eps5 S).1 (eps5 S).2.1 (eps5 S).2.2.1 (eps5 S).2.2.2.1 (eps5 S).2.2.2.2) : ∀ a1 a2 a3 a4 a5, S a1 a2 a3 a4 a5 := fun a1 a2 a3 a4 a5 => eps_all (S := fun p : α1 × α2 × α3 × α4 × α5 => S p.1 p.2.1 p.2.2.1 p.2.2.2.1 p.2.2.2.2) h (a1, a2, a3, a4, a5)
def Ap6 {α1 α2 α3 α4 α5 α6 : Type} (S : α1 → α2 → α3 → α4 → α5 → α6 → Prop) (a1 : α1) (a2 : α2) (a3 : α3) (a4 : α4) (a5 : α5) (a6 : α6) : Prop := S a1 a2 a3 a4 a5 a6
theorem Ap6.mk {α1 α2 α3 α4 α5 α6 : Type} {S : α1 → α2 → α3 → α4 → α5 → α6 → Prop} {a1 a2 a3 a4 a5 a6} (h : S a1 a2 a3 a4 a5 a6) : Ap6 S a1 a2 a3 a4 a5 a6 := h
noncomputable def eps6 {α1 α2 α3 α4 α5 α6 : Type} [i1 : Nonempty α1] [i2 : Nonempty α2] [i3 : Nonempty α3] [i4 : Nonempty α4] [i5 : Nonempty α5] [i6 : Nonempty α6] (S : α1 → α2 → α3 → α4 → α5 → α6 → Prop) : α1 × α2 × α3 × α4 × α5 × α6 := eps inferInstance fun p => S p.1 p.2.1 p.2.2.1 p.2.2.2.1 p.2.2.2.2.1 p.2.2.2.2.2
theorem lift6 {α1 α2 α3 α4 α5 α6 : Type} [i1 : Nonempty α1] [i2 : Nonempty α2] [i3 : Nonempty α3] [i4 : Nonempty α4] [i5 : Nonempty α5] [i6 : Nonempty α6] {S : α1 → α2 → α3 → α4 → α5 → α6 → Prop} (h : Ap6 S (eps6 S).1 (eps6 S).2.1 (eps6 S).2.2.1 (eps6 S).2.2.2.1 (eps6 S).2.2.2.2.1 (eps6 S).2.2.2.2.2) : ∀ a1 a2 a3 a4 a5 a6, S a1 a2 a3 a4 a5 a6 := fun a1 a2 a3 a4 a5 a6 => eps_all (S := fun p : α1 × α2 × α3 × α4 × α5 × α6 => S p.1 p.2.1 p.2.2.1 p.2.2.2.1 p.2.2.2.2.1 p.2.2.2.2.2) h (a1, a2, a3, a4, a5, a6)
def Ap7 {α1 α2 α3 α4 α5 α6 α7 : Type} (S : α1 → α2 → α3 → α4 → α5 → α6 → α7 → Prop) (a1 : α1) (a2 : α2) (a3 : α3) (a4 : α4) (a5 : α5) (a6 : α6) (a7 : α7) : Prop := S a1 a2 a3 a4 a5 a6 a7
theorem Ap7.mk {α1 α2 α3 α4 α5 α6 α7 : Type} {S : α1 → α2 → α3 → α4 → α5 → α6 → α7 → Prop} {a1 a2 a3 a4 a5 a6 a7} (h : S a1 a2 a3 a4 a5 a6 a7) : Ap7 S a1 a2 a3 a4 a5 a6 a7 := h
noncomputable def eps7 {α1 α2 α3 α4 α5 α6 α7 : Type} [i1 : Nonempty α1] [i2 : Nonempty α2] [i3 : Nonempty α3] [i4 : Nonempty α4] [i5 : Nonempty α5] [i6 : Nonempty α6] [i7 : Nonempty α7] (S : α1 → α2 → α3 → α4 → α5 → α6 → α7 → Prop) : α1 × α2 × α3 × α4 × α5 × α6 × α7 := eps inferInstance fun p => S p.1 p.2.1 p.2.2.1 p.2.2.2.1 p.2.2.2.2.1 p.2.2.2.2.2.1 p.2.2.2.2.2.2
theorem lift7 {α1 α2 α3 α4 α5 α6 α7 : Type} [i1 : Nonempty α1] [i2 : Nonempty α2] [i3 : Nonempty α3] [i4 : Nonempty α4] [i5 : Nonempty α5] [i6 : Nonempty α6] [i7 : Nonempty α7] {S : α1 → α2 → α3 → α4 → α5 → α6 → α7 → Prop} (h : Ap7 S (eps7 S).1 (eps7 S).2.1 (eps7 S).2.2.1 (eps7 S).2.2.2.1 (eps7 S).2.2.2.2.1 (eps7 S).2.2.2.2.2.1 (eps7 S).2.2.2.2.2.2) : ∀ a1 a2 a3 a4 a5 a6 a7, S a1 a2 a3 a4 a5 a6 a7 := fun a1 a2 a3 a4 a5 a6 a7 => eps_all (S := fun p : α1 × α2 × α3 × α4 × α5 × α6 × α7 => S p.1 p.2.1 p.2.2.1 p.2.2.2.1 p.2.2.2.2.1 p.2.2.2.2.2.1 p.2.2.2.2.2.2) h (a1, a2, a3, a4, a5, a6, a7)
def Ap8 {α1 α2 α3 α4 α5 α6 α7 α8 : Type} (S : α1 → α2 → α3 → α4 → α5 → α6 → α7 → α8 → Prop) (a1 : α1) (a2 : α2) (a3 : α3) (a4 : α4) (a5 : α5) (a6 : α6) (a7 : α7) (a8 : α8) : Prop := S a1 a2 a3 a4 a5 a6 a7 a8
theorem Ap8.mk {α1 α2 α3 α4 α5 α6 α7 α8 : Type} {S : α1 → α2 → α3 → α4 → α5 → α6 → α7 → α8 → Prop} {a1 a2 a3 a4 a5 a6 a7 a8} (h : S a1 a2 a3 a4 a5 a6 a7 a8) : Ap8 S a1 a2 a3 a4 a5 a6 a7 a8 := h
noncomputable def eps8 {α1 α2 α3 α4 α5 α6 α7 α8 : Type} [i1 : Nonempty α1] [i2 : Nonempty α2] [i3 : Nonempty α3] [i4 : Nonempty α4] [i5 : Nonempty α5] [i6 : Nonempty α6] [i7 : Nonempty α7] [i8 : Nonempty α8] (S : α1 → α2 → α3 → α4 → α5 → α6 → α7 → α8 → Prop) : α1 × α2 × α3 × α4 × α5 × α6 × α7 × α8 := eps inferInstance fun p => S p.1 p.2.1 p.2.2.1 p.2.2.2.1 p.2.2.2.2.1 p.2.2.2.2.2.1 p.2.2.2.2.2.2.1 p.2.2.2.2.2.2.2
theorem lift8 {α1 α2 α3 α4 α5 α6 α7 α8 : Type} [i1 : Nonempty α1] [i2 : Nonempty α2] [i3 : Nonempty α3] [i4 : Nonempty α4] [i5 : Nonempty α5] [i6 : Nonempty α6] [i7 : Nonempty α7] [i8 : Nonempty α8] {S : α1 → α2 → α3 → α4 → α5 → α6 → α7 → α8 → Prop} (h : Ap8 S (eps8 S).1 (eps8 S).2.1 (eps8 S).2.2.1 (eps8 S).2.2.2.1 (eps8 S).2.2.2.2.1 (eps8 S).2.2.2.2.2.1 (eps8 S).2.2.2.2.2.2.1 (eps8 S).2.2.2.2.2.2.2) : ∀ a1 a2 a3 a4 a5 a6 a7 a8, S a1 a2 a3 a4 a5 a6 a7 a8 := fun a1 a2 a3 a4 a5 a6 a7 a8 => eps_all (S := fun p : α1 × α2 × α3 × α4 × α5 × α6 × α7 × α8 => S p.1 p.2.1 p.2.2.1 p.2.2.2.1 p.2.2.2.2.1 p.2.2.2.2.2.1 p.2.2.2.2.2.2.1 p.2.2.2.2.2.2.2) h (a1, a2, a3, a4, a5, a6, a7, a8)
def Ap9 {α1 α2 α3 α4 α5 α6 α7 α8 α9 : Type} (S : α1 → α2 → α3 → α4 → α5 → α6 → α7 → α8 → α9 → Prop) (a1 : α1) (a2 : α2) (a3 : α3) (a4 : α4) (a5 : α5) (a6 : α6) (a7 : α7) (a8 : α8) (a9 : α9) : Prop := S a1 a2 a3 a4 a5 a6 a7 a8 a9
theorem Ap9.mk {α1 α2 α3 α4 α5 α6 α7 α8 α9 : Type} {S : α1 → α2 → α3 → α4 → α5 → α6 → α7 → α8 → α9 → Prop} {a1 a2 a3 a4 a5 a6 a7 a8 a9} (h : S a1 a2 a3 a4 a5 a6 a7 a8 a9) : Ap9 S a1 a2 a3 a4 a5 a6 a7 a8 a9 := h
noncomputable def eps9 {α1 α2 α3 α4 α5 α6 α7 α8 α9 : Type} [i1 : Nonempty α1] [i2 : Nonempty α2] [i3 : Nonempty α3] [i4 : Nonempty α4] [i5 : Nonempty α5] [i6 : Nonempty α6] [i7 : Nonempty α7] [i8 : Nonempty α8] [i9 : Nonempty α9] (S : α1 → α2 → α3 → α4 → α5 → α6 → α7 → α8 → α9 → Prop) : α1 × α2 × α3 × α4 × α5 × α6 × α7 × α8 × α9 := eps inferInstance fun p => S p.1 p.2.1 p.2.2.1 p.2.2.2.1 p.2.2.2.2.1 p.2.2.2.2.2.1 p.2.2.2.2.2.2.1 p.2.2.2.2.2.2.2.1 p.2.2.2.2.2.2.2.2
theorem lift9 {α1 α2 α3 α4 α5 α6 α7 α8 α9 : Type} [i1 : Nonempty α1] [i2 : Nonempty α2] [i3 : Nonempty α3] [i4 : Nonempty α4] [i5 : Nonempty α5] [i6 : Nonempty α6] [i7 : Nonempty α7] [i8 : Nonempty α8] [i9 : Nonempty α9] {S : α1 → α2 → α3 → α4 → α5 → α6 → α7 → α8 → α9 → Prop} (h : Ap9 S (eps9 S).1 (eps9 S).2.1 (eps9 S).2.2.1 (eps9 S).2.2.2.1 (eps9 S).2.2.2.2.1 (eps9 S).2.2.2.2.2.1 (eps9 S).2.2.2.2.2.2.1 (eps9 S).2.2.2.2.2.2.2.1 (eps9 S).2.2.2.2.2.2.2.2) : ∀ a1 a2 a3 a4 a5 a6 a7 a8 a9, S a1 a2 a3 a4 a5 a6 a7 a8 a9 := fun a1 a2 a3 a4 a5 a6 a7 a8 a9 => eps_all (S := fun p : α1 × α2 × α3 × α4 × α5 × α6 × α7 × α8 × α9 => S p.1 p.2.1 p.2.2.1 p.2.2.2.1 p.2.2.2.2.1 p.2.2.2.2.2.1 p.2.2.2.2.2.2.1 p.2.2.2.2.2.2.2.1 p.2.2.2.2.2.2.2.2) h (a1, a2, a3, a4, a5, a6, a7, a8, a9)
def Ap10 {α1 α2 α3 α4 α5 α6 α7 α8 α9 α10 : Type} (S : α1 → α2 → α3 → α4 → α5 → α6 → α7 → α8 → α9 → α10 → Prop) (a1 : α1) (a2 : α2) (a3 : α3) (a4 : α4) (a5 : α5) (a6 : α6) (a7 : α7) (a8 : α8) (a9 : α9) (a10 : α10) : Prop := S a1 a2 a3 a4 a5 a6 a7 a8 a9 a10
theorem Ap10.mk {α1 α2 α3 α4 α5 α6 α7 α8 α9 α10 : Type} {S : α1 → α2 → α3 → α4 → α5 → α6 → α7 → α8 → α9 → α10 → Prop} {a1 a2 a3 a4 a5 a6 a7 a8 a9 a10} (h : S a1 a2 a3 a4 a5 a6 a7 a8 a9 a10) : Ap10 S a1 a2 a3 a4 a5 a6 a7 a8 a9 a10 := h
noncomputable def eps10 {α1 α2 α3 α4 α5 α6 α7 α8 α9 α10 : Type} [i1 : Nonempty α1] [i2 : Nonempty α2] [i3 : Nonempty α3] [i4 : Nonempty α4] [i5 : Nonempty α5] [i6 : Nonempty α6] [i7 : Nonempty α7] [i8 : Nonempty α8] [i9 : Nonempty α9] [i10 : Nonempty α10] (S : α1 → α2 → α3 → α4 → α5 → α6 → α7 → α8 → α9 → α10 → Prop) : α1 × α2 × α3 × α4 × α5 × α6 × α7 × α8 × α9 × α10 := eps inferInstance fun p => S p.1 p.2.1 p.2.2.1 p.2.2.2.1 p.2.2.2.2.1 p.2.2.2.2.2.1 p.2.2.2.2.2.2.1 p.2.2.2.2.2.2.2.1 p.2.2.2.2.2.2.2.2.1 p.2.2.2.2.2.2.2.2.2
theorem lift10 {α1 α2 α3 α4 α5 α6 α7 α8 α9 α10 : Type} [i1 : Nonempty α1] [i2 : Nonempty α2] [i3 : Nonempty α3] [i4 : Nonempty α4] [i5 : Nonempty α5] [i6 : Nonempty α6] [i7 : Nonempty α7] [i8 : Nonempty α8] [i9 : Nonempty α9] [i10 : Nonempty α10] {S : α1 → α2 → α3 → α4 → α5 → α6 → α7 → α8 → α9 → α10 → Prop} (h : Ap10 S (eps10 S).1 (eps10 S).2.1 (eps10 S).2.2.1 (eps10 S).2.2.2.1 (eps10 S).2.2.2.2.1 (eps10 S).2.2.2.2.2.1 (eps10 S).2.2.2.2.2.2.1 (eps10 S).2.2.2.2.2.2.2.1 (eps10 S).2.2.2.2.2.2.2.2.1 (eps10 S).2.2.2.2.2.2.2.2.2) : ∀ a1 a2 a3 a4 a5 a6 a7 a8 a9 a10, S a1 a2 a3 a4 a5 a6 a7 a8 a9 a10 := fun a1 a2 a3 a4 a5 a6 a7 a8 a9 a10 => eps_all (S := fun p : α1 × α2 × α3 × α4 × α5 × α6 × α7 × α8 × α9 × α10 => S p.1 p.2.1 p.2.2.1 p.2.2.2.1 p.2.2.2.2.1 p.2.2.2.2.2.1 p.2.2.2.2.2.2.1 p.2.2.2.2.2.2.2.1 p.2.2.2.2.2.2.2.2.1 p.2.2.2.2.2.2.2.2.2) h (a1, a2, a3, a4, a5, a6, a7, a8, a9, a10)
def Ap11 {α1 α2 α3 α4 α5 α6 α7 α8 α9 α10 α11 : Type} (S : α1 → α2 → α3 → α4 → α5 → α6 → α7 → α8 → α9 → α10 → α11 → Prop) (a1 : α1) (a2 : α2) (a3 : α3) (a4 : α4) (a5 : α5) (a6 : α6) (a7 : α7) (a8 : α8) (a9 : α9) (a10 : α10) (a11 : α11) : Prop := S a1 a2 a3 a4 a5 a6 a7 a8 a9 a10 a11
theorem Ap11.mk {α1 α2 α3 α4 α5 α6 α7 α8 α9 α10 α11 : Type} {S : α1 → α2 → α3 → α4 → α5 → α6 → α7 → α8 → α9 → α10 → α11 → Prop} {a1 a2 a3 a4 a5 a6 a7 a8 a9 a10 a11} (h : S a1 a2 a3 a4 a5 a6 a7 a8 a9 a10 a11) : Ap11 S a1 a2 a3 a4 a5 a6 a7 a8 a9 a10 a11 := h
noncomputable def eps11 {α1 α2 α3 α4 α5 α6 α7 α8 α9 α10 α11 : Type} [i1 : Nonempty α1] [i2 : Nonempty α2] [i3 : Nonempty α3] [i4 : Nonempty α4] [i5 : Nonempty α5] [i6 : Nonempty α6] [i7 : Nonempty α7] [i8 : Nonempty α8] [i9 : Nonempty α9] [i10 : Nonempty α10] [i11 : Nonempty α11] (S : α1 → α2 → α3 → α4 → α5 → α6 → α7 → α8 → α9 → α10 → α11 → Prop) : α1 × α2 × α3 × α4 × α5 × α6 × α7 × α8 × α9 × α10 × α11 := eps inferInstance fun p => S p.1 p.2.1 p.2.2.1 p.2.2.2.1 p.2.2.2.2.1 p.2.2.2.2.2.1 p.2.2.2.2.2.2.1 p.2.2.2.2.2.2.2.1 p.2.2.2.2.2.2.2.2.1 p.2.2.2.2.2.2.2.2.2.1 p.2.2.2.2.2.2.2.2.2.2
theorem lift11 {α1 α2 α3 α4 α5 α6 α7 α8 α9 α10 α11 : Type} [i1 : Nonempty α1] [i2 : Nonempty α2] [i3 : Nonempty α3] [i4 : Nonempty α4] [i5 : Nonempty α5] [i6 : Nonempty α6] [i7 : Nonempty α7] [i8 : Nonempty α8] [i9 : Nonempty α9] [i10 : Nonempty α10] [i11 : Nonempty α11] {S : α1 → α2 → α3 → α4 → α5 → α6 → α7 → α8 → α9 → α10 → α11 → Prop} (h : Ap11 S (eps11 S).1 (eps11 S).2.1 (eps11 S).2.2.1 (eps11 S).2.2.2.1 (eps11 S).2.2.2.2.1 (eps11 S).2.2.2.2.2.1 (eps11 S).2.2.2.2.2.2.1 (eps11 S).2.2.2.2.2.2.2.1 (eps11 S).2.2.2.2.2.2.2.2.1 (eps11 S).2.2.2.2.2.2.2.2.2.1 (eps11 S).2.2.2.2.2.2.2.2.2.2) : ∀ a1 a2 a3 a4 a5 a6 a7 a8 a9 a10 a11, S a1 a2 a3 a4 a5 a6 a7 a8 a9 a10 a11 := fun a1 a2 a3 a4 a5 a6 a7 a8 a9 a10 a11 => eps_all (S := fun p : α1 × α2 × α3 × α4 × α5 × α6 × α7 × α8 × α9 × α10 × α11 => S p.1 p.2.1 p.2.2.1 p.2.2.2.1 p.2.2.2.2.1 p.2.2.2.2.2.1 p.2.2.2.2.2.2.1 p.2.2.2.2.2.2.2.1 p.2.2.2.2.2.2.2.2.1 p.2.2.2.2.2.2.2.2.2.1 p.2.2.2.2.2.2.2.2.2.2) h (a1, a2, a3, a4, a5, a6, a7, a8, a9, a10, a11)
def Ap12 {α1 α2 α3 α4 α5 α6 α7 α8 α9 α10 α11 α12 : Type} (S : α1 → α2 → α3 → α4 → α5 → α6 → α7 → α8 → α9 → α10 → α11 → α12 → Prop) (a1 : α1) (a2 : α2) (a3 : α3) (a4 : α4) (a5 : α5) (a6 : α6) (a7 : α7) (a8 : α8) (a9 : α9) (a10 : α10) (a11 : α11) (a12 : α12) : Prop := S a1 a2 a3 a4 a5 a6 a7 a8 a9 a10 a11 a12
theorem Ap12.mk {α1 α2 α3 α4 α5 α6 α7 α8 α9 α10 α11 α12 : Type} {S : α1 → α2 → α3 → α4 → α5 → α6 → α7 → α8 → α9 → α10 → α11 → α12 → Prop} {a1 a2 a3 a4 a5 a6 a7 a8 a9 a10 a11 a12} (h : S a1 a2 a3 a4 a5 a6 a7 a8 a9 a10 a11 a12) : Ap12 S a1 a2 a3 a4 a5 a6 a7 a8 a9 a10 a11 a12 := h
noncomputable def eps12 {α1 α2 α3 α4 α5 α6 α7 α8 α9 α10 α11 α12 : Type} [i1 : Nonempty α1] [i2 : Nonempty α2] [i3 : Nonempty α3] [i4 : Nonempty α4] [i5 : Nonempty α5] [i6 : Nonempty α6] [i7 : Nonempty α7] [i8 : Nonempty α8] [i9 : Nonempty α9] [i10 : Nonempty α10] [i11 : Nonempty α11] [i12 : Nonempty α12] (S : α1 → α2 → α3 → α4 → α5 → α6 → α7 → α8 → α9 → α10 → α11 → α12 → Prop) : α1 × α2 × α3 × α4 × α5 × α6 × α7 × α8 × α9 × α10 × α11 × α12 := eps inferInstance fun p => S p.1 p.2.1 p.2.2.1 p.2.2.2.1 p.2.2.2.2.1 p.2.2.2.2.2.1 p.2.2.2.2.2.2.1 p.2.2.2.2.2.2.2.1 p.2.2.2.2.2.2.2.2.1 p.2.2.2.2.2.2.2.2.2.1 p.2.2.2.2.2.2.2.2.2.2.1 p.2.2.2.2.2.2.2.2.2.2.2
theorem lift12 {α1 α2 α3 α4 α5 α6 α7 α8 α9 α10 α11 α12 : Type} [i1 : Nonempty α1] [i2 : Nonempty α2] [i3 : Nonempty α3] [i4 : Nonempty α4] [i5 : Nonempty α5] [i6 : Nonempty α6] [i7 : Nonempty α7] [i8 : Nonempty α8] [i9 : Nonempty α9] [i10 : Nonempty α10] [i11 : Nonempty α11] [i12 : Nonempty α12] {S : α1 → α2 → α3 → α4 → α5 → α6 → α7 → α8 → α9 → α10 → α11 → α12 → Prop} (h : Ap12 S (eps12 S).1 (eps12 S).2.1 (eps12 S).2.2.1 (eps12 S).2.2.2.1 (eps12 S).2.2.2.2.1 (eps12 S).2.2.2.2.2.1 (eps12 S).2.2.2.2.2.2.1 (eps12 S).2.2.2.2.2.2.2.1 (eps12 S).2.2.2.2.2.2.2.2.1 (eps12 S).2.2.2.2.2.2.2.2.2.1 (eps12 S).2.2.2.2.2.2.2.2.2.2.1 (eps12 S).2.2.2.2.2.2.2.2.2.2.2) : ∀ a1 a2 a3 a4 a5 a6 a7 a8 a9 a10 a11 a12, S a1 a2 a3 a4 a5 a6 a7 a8 a9 a10 a11 a12 := fun a1 a2 a3 a4 a5 a6 a7 a8 a9 a10 a11 a12 => eps_all (S := fun p : α1 × α2 × α3 × α4 × α5 × α6 × α7 × α8 × α9 × α10 × α11 × α12 => S p.1 p.2.1 p.2.2.1 p.2.2.2.1 p.2.2.2.2.1 p.2.2.2.2.2.1 p.2.2.2.2.2.2.1 p.2.2.2.2.2.2.2.1 p.2.2.2.2.2.2.2.2.1 p.2.2.2.2.2.2.2.2.2.1 p.2.2.2.2.2.2.2.2.2.2.1 p.2.2.2.2.2.2.2.2.2.2.2) h (a1, a2, a3, a4, a5, a6, a7, a8, a9, a10, a11, a12)
def Ap13 {α1 α2 α3 α4 α5 α6 α7 α8 α9 α10 α11 α12 α13 : Type} (S : α1 → α2 → α3 → α4 → α5 → α6 → α7 → α8 → α9 → α10 → α11 → α12 → α13 → Prop) (a1 : α1) (a2 : α2) (a3 : α3) (a4 : α4) (a5 : α5) (a6 : α6) (a7 : α7) (a8 : α8) (a9 : α9) (a10 : α10) (a11 : α11) (a12 : α12) (a13 : α13) : Prop := S a1 a2 a3 a4 a5 a6 a7 a8 a9 a10 a11 a12 a13
theorem Ap13.mk {α1 α2 α3 α4 α5 α6 α7 α8 α9 α10 α11 α12 α13 : Type} {S : α1 → α2 → α3 → α4 → α5 → α6 → α7 → α8 → α9 → α10 → α11 → α12 → α13 → Prop} {a1 a2 a3 a4 a5 a6 a7 a8 a9 a10 a11 a12 a13} (h : S a1 a2 a3 a4 a5 a6 a7 a8 a9 a10 a11 a12 a13) : Ap13 S a1 a2 a3 a4 a5 a6 a7 a8 a9 a10 a11 a12 a13 := h
noncomputable def eps13 {α1 α2 α3 α4 α5 α6 α7 α8 α9 α10 α11 α12 α13 : Type} [i1 : Nonempty α1] [i2 : Nonempty α2] [i3 : Nonempty α3] [i4 : Nonempty α4] [i5 : Nonempty α5] [i6 : Nonempty α6] [i7 : Nonempty α7] [i8 : Nonempty α8] [i9 : Nonempty α9] [i10 : Nonempty α10] [i11 : Nonempty α11] [i12 : Nonempty α12] [i13 : Nonempty α13] (S : α1 → α2 → α3 → α4 → α5 → α6 → α7 → α8 → α9 → α10 → α11 → α12 → α13 → Prop) : α1 × α2 × α3 × α4 × α5 × α6 × α7 × α8 × α9 × α10 × α11 × α12 × α13 := eps inferInstance fun p => S p.1 p.2.1 p.2.2.1 p.2.2.2.1 p.2.2.2.2.1 p.2.2.2.2.2.1 p.2.2.2.2.2.2.1 p.2.2.2.2.2.2.2.1 p.2.2.2.2.2.2.2.2.1 p.2.2.2.2.2.2.2.2.2.1 p.2.2.2.2.2.2.2.2.2.2.1 p.2.2.2.2.2.2.2.2.2.2.2.1 p.2.2.2.2.2.2.2.2.2.2.2.2
theorem lift13 {α1 α2 α3 α4 α5 α6 α7 α8 α9 α10 α11 α12 α13 : Type} [i1 : Nonempty α1] [i2 : Nonempty α2] [i3 : Nonempty α3] [i4 : Nonempty α4] [i5 : Nonempty α5] [i6 : Nonempty α6] [i7 : Nonempty α7] [i8 : Nonempty α8] [i9 : Nonempty α9] [i10 : Nonempty α10] [i11 : Nonempty α11] [i12 : Nonempty α12] [i13 : Nonempty α13] {S : α1 → α2 → α3 → α4 → α5 → α6 → α7 → α8 → α9 → α10 → α11 → α12 → α13 → Prop} (h : Ap13 S (eps13 S).1 (eps13 S).2.1 (eps13 S).2.2.1 (eps13 S).2.2.2.1 (eps13 S).2.2.2.2.1 (eps13 S).2.2.2.2.2.1 (eps13 S).2.2.2.2.2.2.1 (eps13 S).2.2.2.2.2.2.2.1 (eps13 S).2.2.2.2.2.2.2.2.1 (eps13 S).2.2.2.2.2.2.2.2.2.1 (eps13 S).2.2.2.2.2.2.2.2.2.2.1 (eps13 S).2.2.2.2.2.2.2.2.2.2.2.1 (eps13 S).2.2.2.2.2.2.2.2.2.2.2.2) : ∀ a1 a2 a3 a4 a5 a6 a7 a8 a9 a10 a11 a12 a13, S a1 a2 a3 a4 a5 a6 a7 a8 a9 a10 a11 a12 a13 := fun a1 a2 a3 a4 a5 a6 a7 a8 a9 a10 a11 a12 a13 => eps_all (S := fun p : α1 × α2 × α3 × α4 × α5 × α6 × α7 × α8 × α9 × α10 × α11 × α12 × α13 => S p.1 p.2.1 p.2.2.1 p.2.2.2.1 p.2.2.2.2.1 p.2.2.2.2.2.1 p.2.2.2.2.2.2.1 p.2.2.2.2.2.2.2.1 p.2.2.2.2.2.2.2.2.1 p.2.2.2.2.2.2.2.2.2.1 p.2.2.2.2.2.2.2.2.2.2.1 p.2.2.2.2.2.2.2.2.2.2.2.1 p.2.2.2.2.2.2.2.2.2.2.2.2) h (a1, a2, a3, a4, a5, a6, a7, a8, a9, a10, a11, a12, a13)
def Ap15 {α1 α2 α3 α4 α5 α6 α7 α8 α9 α10 α11 α12 α13 α14 α15 : Type} (S : α1 → α2 → α3 → α4 → α5 → α6 → α7 → α8 → α9 → α10 → α11 → α12 → α13 → α14 → α15 → Prop) (a1 : α1) (a2 : α2) (a3 : α3) (a4 : α4) (a5 : α5) (a6 : α6) (a7 : α7) (a8 : α8) (a9 : α9) (a10 : α10) (a11 : α11) (a12 : α12) (a13 : α13) (a14 : α14) (a15 : α15) : Prop := S a1 a2 a3 a4 a5 a6 a7 a8 a9 a10 a11 a12 a13 a14 a15
theorem Ap15.mk {α1 α2 α3 α4 α5 α6 α7 α8 α9 α10 α11 α12 α13 α14 α15 : Type} {S : α1 → α2 → α3 → α4 → α5 → α6 → α7 → α8 → α9 → α10 → α11 → α12 → α13 → α14 → α15 → Prop} {a1 a2 a3 a4 a5 a6 a7 a8 a9 a10 a11 a12 a13 a14 a15} (h : S a1 a2 a3 a4 a5 a6 a7 a8 a9 a10 a11 a12 a13 a14 a15) : Ap15 S a1 a2 a3 a4 a5 a6 a7 a8 a9 a10 a11 a12 a13 a14 a15 := h
noncomputable def eps15 {α1 α2 α3 α4 α5 α6 α7 α8 α9 α10 α11 α12 α13 α14 α15 : Type} [i1 : Nonempty α1] [i2 : Nonempty α2] [i3 : Nonempty α3] [i4 : Nonempty α4] [i5 : Nonempty α5] [i6 : Nonempty α6] [i7 : Nonempty α7] [i8 : Nonempty α8] [i9 : Nonempty α9] [i10 : Nonempty α10] [i11 : Nonempty α11] [i12 : Nonempty α12] [i13 : Nonempty α13] [i14 : Nonempty α14] [i15 : Nonempty α15] (S : α1 → α2 → α3 → α4 → α5 → α6 → α7 → α8 → α9 → α10 → α11 → α12 → α13 → α14 → α15 → Prop) : α1 × α2 × α3 × α4 × α5 × α6 × α7 × α8 × α9 × α10 × α11 × α12 × α13 × α14 × α15 := eps inferInstance fun p => S p.1 p.2.1 p.2.2.1 p.2.2.2.1 p.2.2.2.2.1 p.2.2.2.2.2.1 p.2.2.2.2.2.2.1 p.2.2.2.2.2.2.2.1 p.2.2.2.2.2.2.2.2.1 p.2.2.2.2.2.2.2.2.2.1 p.2.2.2.2.2.2.2.2.2.2.1 p.2.2.2.2.2.2.2.2.2.2.2.1 p.2.2.2.2.2.2.2.2.2.2.2.2.1 p.2.2.2.2.2.2.2.2.2.2.2.2.2.1 p.2.2.2.2.2.2.2.2.2.2.2.2.2.2
theorem lift15 {α1 α2 α3 α4 α5 α6 α7 α8 α9 α10 α11 α12 α13 α14 α15 : Type} [i1 : Nonempty α1] [i2 : Nonempty α2] [i3 : Nonempty α3] [i4 : Nonempty α4] [i5 : Nonempty α5] [i6 : Nonempty α6] [i7 : Nonempty α7] [i8 : Nonempty α8] [i9 : Nonempty α9] [i10 : Nonempty α10] [i11 : Nonempty α11] [i12 : Nonempty α12] [i13 : Nonempty α13] [i14 : Nonempty α14] [i15 : Nonempty α15] {S : α1 → α2 → α3 → α4 → α5 → α6 → α7 → α8 → α9 → α10 → α11 → α12 → α13 → α14 → α15 → Prop} (h : Ap15 S (eps15 S).1 (eps15 S).2.1 (eps15 S).2.2.1 (eps15 S).2.2.2.1 (eps15 S).2.2.2.2.1 (eps15 S).2.2.2.2.2.1 (eps15 S).2.2.2.2.2.2.1 (eps15 S).2.2.2.2.2.2.2.1 (eps15 S).2.2.2.2.2.2.2.2.1 (eps15 S).2.2.2.2.2.2.2.2.2.1 (eps15 S).2.2.2.2.2.2.2.2.2.2.1 (eps15 S).2.2.2.2.2.2.2.2.2.2.2.1 (eps15 S).2.2.2.2.2.2.2.2.2.2.2.2.1 (eps15 S).2.2.2.2.2.2.2.2.2.2.2.2.2.1 (eps15 S).2.2.2.2.2.2.2.2.2.2.2.2.2.2) : ∀ a1 a2 a3 a4 a5 a6 a7 a8 a9 a10 a11 a12 a13 a14 a15, S a1 a2 a3 a4 a5 a6 a7 a8 a9 a10 a11 a12 a13 a14 a15 := fun a1 a2 a3 a4 a5 a6 a7 a8 a9 a10 a11 a12 a13 a14 a15 => eps_all (S := fun p : α1 × α2 × α3 × α4 × α5 × α6 × α7 × α8 × α9 × α10 × α11 × α12 × α13 × α14 × α15 => S p.1 p.2.1 p.2.2.1 p.2.2.2.1 p.2.2.2.2.1 p.2.2.2.2.2.1 p.2.2.2.2.2.2.1 p.2.2.2.2.2.2.2.1 p.2.2.2.2.2.2.2.2.1 p.2.2.2.2.2.2.2.2.2.1 p.2.2.2.2.2.2.2.2.2.2.1 p.2.2.2.2.2.2.2.2.2.2.2.1 p.2.2.2.2.2.2.2.2.2.2.2.2.1 p.2.2.2.2.2.2.2.2.2.2.2.2.2.1 p.2.2.2.2.2.2.2.2.2.2.2.2.2.2) h (a1, a2, a3, a4, a5, a6, a7, a8, a9, a10, a11, a12, a13, a14, a15)
def Ap17 {α1 α2 α3 α4 α5 α6 α7 α8 α9 α10 α11 α12 α13 α14 α15 α16 α17 : Type} (S : α1 → α2 → α3 → α4 → α5 → α6 → α7 → α8 → α9 → α10 → α11 → α12 → α13 → α14 → α15 → α16 → α17 → Prop) (a1 : α1) (a2 : α2) (a3 : α3) (a4 : α4) (a5 : α5) (a6 : α6) (a7 : α7) (a8 : α8) (a9 : α9) (a10 : α10) (a11 : α11) (a12 : α12) (a13 : α13) (a14 : α14) (a15 : α15) (a16 : α16) (a17 : α17) : Prop := S a1 a2 a3 a4 a5 a6 a7 a8 a9 a10 a11 a12 a13 a14 a15 a16 a17
theorem Ap17.mk {α1 α2 α3 α4 α5 α6 α7 α8 α9 α10 α11 α12 α13 α14 α15 α16 α17 : Type} {S : α1 → α2 → α3 → α4 → α5 → α6 → α7 → α8 → α9 → α10 → α11 → α12 → α13 → α14 → α15 → α16 → α17 → Prop} {a1 a2 a3 a4 a5 a6 a7 a8 a9 a10 a11 a12 a13 a14 a15 a16 a17} (h : S a1 a2 a3 a4 a5 a6 a7 a8 a9 a10 a11 a12 a13 a14 a15 a16 a17) : Ap17 S a1 a2 a3 a4 a5 a6 a7 a8 a9 a10 a11 a12 a13 a14 a15 a16 a17 := h
noncomputable def eps17 {α1 α2 α3 α4 α5 α6 α7 α8 α9 α10 α11 α12 α13 α14 α15 α16 α17 : Type} [i1 : Nonempty α1] [i2 : Nonempty α2] [i3 : Nonempty α3] [i4 : Nonempty α4] [i5 : Nonempty α5] [i6 : Nonempty α6] [i7 : Nonempty α7] [i8 : Nonempty α8] [i9 : Nonempty α9] [i10 : Nonempty α10] [i11 : Nonempty α11] [i12 : Nonempty α12] [i13 : Nonempty α13] [i14 : Nonempty α14] [i15 : Nonempty α15] [i16 : Nonempty α16] [i17 : Nonempty α17] (S : α1 → α2 → α3 → α4 → α5 → α6 → α7 → α8 → α9 → α10 → α11 → α12 → α13 → α14 → α15 → α16 → α17 → Prop) : α1 × α2 × α3 × α4 × α5 × α6 × α7 × α8 × α9 × α10 × α11 × α12 × α13 × α14 × α15 × α16 × α17 := eps inferInstance fun p => S p.1 p.2.1 p.2.2.1 p.2.2.2.1 p.2.2.2.2.1 p.2.2.2.2.2.1 p.2.2.2.2.2.2.1 p.2.2.2.2.2.2.2.1 p.2.2.2.2.2.2.2.2.1 p.2.2.2.2.2.2.2.2.2.1 p.2.2.2.2.2.2.2.2.2.2.1 p.2.2.2.2.2.2.2.2.2.2.2.1 p.2.2.2.2.2.2.2.2.2.2.2.2.1 p.2.2.2.2.2.2.2.2.2.2.2.2.2.1 p.2.2.2.2.2.2.2.2.2.2.2.2.2.2.1 p.2.2.2.2.2.2.2.2.2.2.2.2.2.2.2.1 p.2.2.2.2.2.2.2.2.2.2.2.2.2.2.2.2
theorem lift17 {α1 α2 α3 α4 α5 α6 α7 α8 α9 α10 α11 α12 α13 α14 α15 α16 α17 : Type} [i1 : Nonempty α1] [i2 : Nonempty α2] [i3 : Nonempty α3] [i4 : Nonempty α4] [i5 : Nonempty α5] [i6 : Nonempty α6] [i7 : Nonempty α7] [i8 : Nonempty α8] [i9 : Nonempty α9] [i10 : Nonempty α10] [i11 : Nonempty α11] [i12 : Nonempty α12] [i13 : Nonempty α13] [i14 : Nonempty α14] [i15 : Nonempty α15] [i16 : Nonempty α16] [i17 : Nonempty α17] {S : α1 → α2 → α3 → α4 → α5 → α6 → α7 → α8 → α9 → α10 → α11 → α12 → α13 → α14 → α15 → α16 → α17 → Prop} (h : Ap17 S (eps17 S).1 (eps17 S).2.1 (eps17 S).2.2.1 (eps17 S).2.2.2.1 (eps17 S).2.2.2.2.1 (eps17 S).2.2.2.2.2.1 (eps17 S).2.2.2.2.2.2.1 (eps17 S).2.2.2.2.2.2.2.1 (eps17 S).2.2.2.2.2.2.2.2.1 (eps17 S).2.2.2.2.2.2.2.2.2.1 (eps17 S).2.2.2.2.2.2.2.2.2.2.1 (eps17 S).2.2.2.2.2.2.2.2.2.2.2.1 (eps17 S).2.2.2.2.2.2.2.2.2.2.2.2.1 (eps17 S).2.2.2.2.2.2.2.2.2.2.2.2.2.1 (eps17 S).2.2.2.2.2.2.2.2.2.2.2.2.2.2.1 (eps17 S).2.2.2.2.2.2.2.2.2.2.2.2.2.2.2.1 (eps17 S).2.2.2.2.2.2.2.2.2.2.2.2.2.2.2.2) : ∀ a1 a2 a3 a4 a5 a6 a7 a8 a9 a10 a11 a12 a13 a14 a15 a16 a17, S a1 a2 a3 a4 a5 a6 a7 a8 a9 a10 a11 a12 a13 a14 a15 a16 a17 := fun a1 a2 a3 a4 a5 a6 a7 a8 a9 a10 a11 a12 a13 a14 a15 a16 a17 => eps_all (S := fun p : α1 × α2 × α3 × α4 × α5 × α6 × α7 × α8 × α9 × α10 × α11 × α12 × α13 × α14 × α15 × α16 × α17 => S p.1 p.2.1 p.2.2.1 p.2.2.2.1 p.2.2.2.2.1 p.2.2.2.2.2.1 p.2.2.2.2.2.2.1 p.2.2.2.2.2.2.2.1 p.2.2.2.2.2.2.2.2.1 p.2.2.2.2.2.2.2.2.2.1 p.2.2.2.2.2.2.2.2.2.2.1 p.2.2.2.2.2.2.2.2.2.2.2.1 p.2.2.2.2.2.2.2.2.2.2.2.2.1 p.2.2.2.2.2.2.2.2.2.2.2.2.2.1 p.2.2.2.2.2.2.2.2.2.2.2.2.2.2.1 p.2.2.2.2.2.2.2.2.2.2.2.2.2.2.2.1 p.2.2.2.2.2.2.2.2.2.2.2.2.2.2.2.2) h (a1, a2, a3, a4, a5, a6, a7, a8, a9, a10, a11, a12, a13, a14, a15, a16, a17)
def Ap22 {α1 α2 α3 α4 α5 α6 α7 α8 α9 α10 α11 α12 α13 α14 α15 α16 α17 α18 α19 α20 α21 α22 : Type} (S : α1 → α2 → α3 → α4 → α5 → α6 → α7 → α8 → α9 → α10 → α11 → α12 → α13 → α14 → α15 → α16 → α17 → α18 → α19 → α20 → α21 → α22 → Prop) (a1 : α1) (a2 : α2) (a3 : α3) (a4 : α4) (a5 : α5) (a6 : α6) (a7 : α7) (a8 : α8) (a9 : α9) (a10 : α10) (a11 : α11) (a12 : α12) (a13 : α13) (a14 : α14) (a15 : α15) (a16 : α16) (a17 : α17) (a18 : α18) (a19 : α19) (a20 : α20) (a21 : α21) (a22 : α22) : Prop := S a1 a2 a3 a4 a5 a6 a7 a8 a9 a10 a11 a12 a13 a14 a15 a16 a17 a18 a19 a20 a21 a22
theorem Ap22.mk {α1 α2 α3 α4 α5 α6 α7 α8 α9 α10 α11 α12 α13 α14 α15 α16 α17 α18 α19 α20 α21 α22 : Type} {S : α1 → α2 → α3 → α4 → α5 → α6 → α7 → α8 → α9 → α10 → α11 → α12 → α13 → α14 → α15 → α16 → α17 → α18 → α19 → α20 → α21 → α22 → Prop} {a1 a2 a3 a4 a5 a6 a7 a8 a9 a10 a11 a12 a13 a14 a15 a16 a17 a18 a19 a20 a21 a22} (h : S a1 a2 a3 a4 a5 a6 a7 a8 a9 a10 a11 a12 a13 a14 a15 a16 a17 a18 a19 a20 a21 a22) : Ap22 S a1 a2 a3 a4 a5 a6 a7 a8 a9 a10 a11 a12 a13 a14 a15 a16 a17 a18 a19 a20 a21 a22 := h
noncomputable def eps22 {α1 α2 α3 α4 α5 α6 α7 α8 α9 α10 α11 α12 α13 α14 α15 α16 α17 α18 α19 α20 α21 α22 : Type} [i1 : Nonempty α1] [i2 : Nonempty α2] [i3 : Nonempty α3] [i4 : Nonempty α4] [i5 : Nonempty α5] [i6 : Nonempty α6] [i7 : Nonempty α7] [i8 : Nonempty α8] [i9 : Nonempty α9] [i10 : Nonempty α10] [i11 : Nonempty α11] [i12 : Nonempty α12] [i13 : Nonempty α13] [i14 : Nonempty α14] [i15 : Nonempty α15] [i16 : Nonempty α16] [i17 : Nonempty α17] [i18 : Nonempty α18] [i19 : Nonempty α19] [i20 : Nonempty α20] [i21 : Nonempty α21] [i22 : Nonempty α22] (S : α1 → α2 → α3 → α4 → α5 → α6 → α7 → α8 → α9 → α10 → α11 → α12 → α13 → α14 → α15 → α16 → α17 → α18 → α19 → α20 → α21 → α22 → Prop) : α1 × α2 × α3 × α4 × α5 × α6 × α7 × α8 × α9 × α10 × α11 × α12 × α13 × α14 × α15 × α16 × α17 × α18 × α19 × α20 × α21 × α22 := eps inferInstance fun p => S p.1 p.2.1 p.2.2.1 p.2.2.2.1 p.2.2.2.2.1 p.2.2.2.2.2.1 p.2.2.2.2.2.2.1 p.2.2.2.2.2.2.2.1 p.2.2.2.2.2.2.2.2.1 p.2.2.2.2.2.2.2.2.2.1 p.2.2.2.2.2.2.2.2.2.2.1 p.2.2.2.2.2.2.2.2.2.2.2.1 p.2.2.2.2.2.2.2.2.2.2.2.2.1 p.2.2.2.2.2.2.2.2.2.2.2.2.2.1 p.2.2.2.2.2.2.2.2.2.2.2.2.2.2.1 p.2.2.2.2.2.2.2.2.2.2.2.2.2.2.2.1 p.2.2.2.2.2.2.2.2.2.2.2.2.2.2.2.2.1 p.2.2.2.2.2.2.2.2.2.2.2.2.2.2.2.2.2.1 p.2.2.2.2.2.2.2.2.2.2.2.2.2.2.2.2.2.2.1 p.2.2.2.2.2.2.2.2.2.2.2.2.2.2.2.2.2.2.2.1 p.2.2.2.2.2.2.2.2.2.2.2.2.2.2.2.2.2.2.2.2.1 p.2.2.2.2.2.2.2.2.2.2.2.2.2.2.2.2.2.2.2.2.2
theorem lift22 {α1 α2 α3 α4 α5 α6 α7 α8 α9 α10 α11 α12 α13 α14 α15 α16 α17 α18 α19 α20 α21 α22 : Type} [i1 : Nonempty α1] [i2 : Nonempty α2] [i3 : Nonempty α3] [i4 : Nonempty α4] [i5 : Nonempty α5] [i6 : Nonempty α6] [i7 : Nonempty α7] [i8 : Nonempty α8] [i9 : Nonempty α9] [i10 : Nonempty α10] [i11 : Nonempty α11] [i12 : Nonempty α12] [i13 : Nonempty α13] [i14 : Nonempty α14] [i15 : Nonempty α15] [i16 : Nonempty α16] [i17 : Nonempty α17] [i18 : Nonempty α18] [i19 : Nonempty α19] [i20 : Nonempty α20] [i21 : Nonempty α21] [i22 : Nonempty α22] {S : α1 → α2 → α3 → α4 → α5 → α6 → α7 → α8 → α9 → α10 → α11 → α12 → α13 → α14 → α15 → α16 → α17 → α18 → α19 → α20 → α21 → α22 → Prop} (h : Ap22 S (eps22 S).1 (eps22 S).2.1 (eps22 S).2.2.1 (eps22 S).2.2.2.1 (eps22 S).2.2.2.2.1 (eps22 S).2.2.2.2.2.1 (eps22 S).2.2.2.2.2.2.1 (eps22 S).2.2.2.2.2.2.2.1 (eps22 S).2.2.2.2.2.2.2.2.1 (eps22 S).2.2.2.2.2.2.2.2.2.1 (eps22 S).2.2.2.2.2.2.2.2.2.2.1 (eps22 S).2.2.2.2.2.2.2.2.2.2.2.1 (eps22 S).2.2.2.2.2.2.2.2.2.2.2.2.1 (eps22 S).2.2.2.2.2.2.2.2.2.2.2.2.2.1 (eps22 S).2.2.2.2.2.2.2.2.2.2.2.2.2.2.1 (eps22 S).2.2.2.2.2.2.2.2.2.2.2.2.2.2.2.1 (eps22 S).2.2.2.2.2.2.2.2.2.2.2.2.2.2.2.2.1 (eps22 S).2.2.2.2.2.2.2.2.2.2.2.2.2.2.2.2.2.1 (eps22 S).2.2.2.2.2.2.2.2.2.2.2.2.2.2.2.2.2.2.1 (eps22 S).2.2.2.2.2.2.2.2.2.2.2.2.2.2.2.2.2.2.2.1 (eps22 S).2.2.2.2.2.2.2.2.2.2.2.2.2.2.2.2.2.2.2.2.1 (eps22 S).2.2.2.2.2.2.2.2.2.2.2.2.2.2.2.2.2.2.2.2.2) : ∀ a1 a2 a3 a4 a5 a6 a7 a8 a9 a10 a11 a12 a13 a14 a15 a16 a17 a18 a19 a20 a21 a22, S a1 a2 a3 a4 a5 a6 a7 a8 a9 a10 a11 a12 a13 a14 a15 a16 a17 a18 a19 a20 a21 a22 := fun a1 a2 a3 a4 a5 a6 a7 a8 a9 a10 a11 a12 a13 a14 a15 a16 a17 a18 a19 a20 a21 a22 => eps_all (S := fun p : α1 × α2 × α3 × α4 × α5 × α6 × α7 × α8 × α9 × α10 × α11 × α12 × α13 × α14 × α15 × α16 × α17 × α18 × α19 × α20 × α21 × α22 => S p.1 p.2.1 p.2.2.1 p.2.2.2.1 p.2.2.2.2.1 p.2.2.2.2.2.1 p.2.2.2.2.2.2.1 p.2.2.2.2.2.2.2.1 p.2.2.2.2.2.2.2.2.1 p.2.2.2.2.2.2.2.2.2.1 p.2.2.2.2.2.2.2.2.2.2.1 p.2.2.2.2.2.2.2.2.2.2.2.1 p.2.2.2.2.2.2.2.2.2.2.2.2.1 p.2.2.2.2.2.2.2.2.2.2.2.2.2.1 p.2.2.2.2.2.2.2.2.2.2.2.2.2.2.1 p.2.2.2.2.2.2.2.2.2.2.2.2.2.2.2.1 p.2.2.2.2.2.2.2.2.2.2.2.2.2.2.2.2.1 p.2.2.2.2.2.2.2.2.2.2.2.2.2.2.2.2.2.1 p.2.2.2.2.2.2.2.2.2.2.2.2.2.2.2.2.2.2.1 p.2.2.2.2.2.2.2.2.2.2.2.2.2.2.2.2.2.2.2.1 p.2.2.2.2.2.2.2.2.2.2.2.2.2.2.2.2.2.2.2.2.1 p.2.2.2.2.2.2.2.2.2.2.2.2.2.2.2.2.2.2.2.2.2) h (a1, a2, a3, a4, a5, a6, a7, a8, a9, a10, a11, a12, a13, a14, a15, a16, a17, a18, a19, a20, a21, a22)
/-! ## the same of what there is; what is taken apart ahead of a goal -/
def ApX {α : Type} (P : α → Prop) (G : Prop) (a : α) : Prop := P a → G
theorem ApX.mk {α : Type} {P : α → Prop} {G : Prop} {a : α} (h : P a → G) : ApX P G a := h
theorem exI {α : Type} [n : Nonempty α] {P : α → Prop} {G : Prop} (h : ApX P G (eps n fun a => ¬ P a)) : (∃ a, P a) → G := fun ⟨a, q⟩ => h (Classical.byContradiction fun z => eps_all (S := fun a => ¬ P a) z a q)
theorem andI {A B G : Prop} (h : A → B → G) : A ∧ B → G := fun ⟨a, b⟩ => h a b
theorem prodI {α β : Type} {S : α × β → Prop} (h : ∀ a b, S (a, b)) : ∀ p, S p := fun p => h p.1 p.2
theorem mpI {A G : Prop} (a : A) (h : A → G) : G := h a
theorem nW : Nonempty World := ⟨⟨fun _ _ => 0, { strHash := fun _ => 0, shareClass := fun _ => 0, mergeTok := id, idOf := fun _ => 0, idOfShared := fun _ _ => 0, followText := fun _ => false, idOfImm := fun _ => 0 }⟩⟩
theorem nS : Nonempty Shared := ⟨{}⟩
theorem nA : Nonempty Around := ⟨{}⟩
end Pf
end
section
set_option compiler.extract_closed false
namespace Pf.Ln
open Lean
/-! ## lines of one's own, as rows of a text: "KEY => (head part ..)", read when a key is asked for -/
def nd (k : Name) (xs : List Syntax) : Syntax := .node .none k ⟨xs⟩
def tm (s : String) : Syntax := .atom .none s
def nl (xs : List Syntax) : Syntax := nd `null xs
def sq (xs : List Syntax) : Syntax := nd `Lean.Parser.Tactic.tacticSeq [nd `Lean.Parser.Tactic.tacticSeq1Indented [nl (xs.flatMap fun x => [x, nl []])]]
/-- the heads: word, shape, kind ('T': of the word's own name under Lean.Parser.Tactic) -/
def heads : String := "refine' 0 T refine 0 T exact 0 T show 0 T assumption 0 T omega a T lia a T decide a T dsimp b T k_is 0 PySem.W.tacticK_is k_unfold 0 PySem.W.tacticK_unfold walk1 0 PyProof.Rows.tacticWalk1 size_fits 0 tacticSize_fits k_dflt 0 PySem.W.tacticK_dflt_ at w PyProof.Rows.tacticWalk_at_ with_unfolding_all 1 Lean.Parser.Tactic.withUnfoldingAll with_reducible 1 Lean.Parser.Tactic.withReducible try 1 Lean.Parser.Tactic.tacticTry_ repeat' 1 T fail_if_success 1 Lean.Parser.Tactic.failIfSuccess rfl 0 Lean.Parser.Tactic.tacticRfl repeat 1 Lean.Parser.Tactic.tacticRepeat_ subst i T done 0 T seq p Lean.Parser.Tactic.paren first f T intro i T case c T is n Lean.Parser.Term.namedArgument of o Lean.Parser.Term.anonymousCtor fun l Lean.Parser.Term.fun simp s T simponly b Lean.Parser.Tactic.simp decidek k Lean.Parser.Tactic.decide boot_by_name 0 PyProof.Rows.tacticBoot_by_name asc y Lean.Parser.Term.typeAscription all q Lean.Parser.Term.forall"
def find : List String → String → Option (String × String)
  | w :: s :: k :: r, h => if w == h then some (s, k) else find r h
  | _, _ => none
def node (h : Syntax) (xs : List Syntax) : Syntax :=
  match h with
  | .ident _ w _ _ =>
    let w := w.toString
    match find (heads.splitOn " ") w with
    | none => nd `Lean.Parser.Term.app [h, nl xs]
    | some (s, k) =>
      let k := if k == "T" then .str `Lean.Parser.Tactic w else k.toName
      let oc := nd `Lean.Parser.Tactic.optConfig [nl []]
      let a := tm w
      nd k <|
        if s == "0" then a :: xs
        else if s == "1" then [a, sq xs]
        else if s == "a" then [a, oc]
        else if s == "b" then [a, oc, nl [], nl [tm "only"], nl (if xs.isEmpty then [] else [tm "[", nl ((xs.map fun x => nd `Lean.Parser.Tactic.simpLemma [nl [], nl [], x]).intersperse (tm ",")), tm "]"]), nl []]
        else if s == "s" then [a, oc, nl [], nl [], nl [], nl []]
        else if s == "k" then [a, nd `Lean.Parser.Tactic.optConfig [nl [nd `Lean.Parser.Tactic.configItem [nd `Lean.Parser.Tactic.posConfigItem (tm "+" :: xs)]]]]
        else if s == "y" then [nd `Lean.Parser.Term.hygienicLParen [tm "(", nd `hygieneInfo [.ident .none "".toRawSubstring .anonymous []]], xs[0]!, tm ":", nl [xs[1]!], tm ")"]
        else if s == "q" then [a, nl xs.dropLast, nl [], tm ",", xs.getLast!]
        else if s == "p" then [tm "(", sq xs, tm ")"]
        else if s == "f" then [a, nl (xs.map fun x => nd `group [tm "|", sq [x]])]
        else if s == "i" then [a, nl xs]
        else if s == "c" then [a, nl ((xs.dropLast.map fun x => nd `Lean.Parser.Tactic.caseArg [nd `Lean.binderIdent [x], nl []]).intersperse (tm "|")), tm "=>", sq (xs.drop (xs.length - 1))]
        else if s == "n" then [tm "(", xs[0]!, tm ":=", xs[1]!, tm ")"]
        else if s == "o" then [tm "⟨", nl (xs.intersperse (tm ",")), tm "⟩"]
        else if s == "l" then [a, nd `Lean.Parser.Term.basicFun [nl xs.dropLast, nl [], tm "=>", xs.getLast!]]
        else [tm "walk_at", nd `str [tm ("\"pf " ++ xs[0]!.getId.toString ++ "\"")]]
  | _ => nd `Lean.Parser.Term.app [h, nl xs]
def word (sc : Name → Name) (w : String) : Syntax :=
  let lo (w : String) : Syntax := let x := sc w.toName; .ident .none x.toString.toRawSubstring x []
  let c := w.front
  let r := (w.drop 1).toString
  if w == "_" then nd `Lean.Parser.Term.hole [tm w]
  else if c == '?' then nd `Lean.Parser.Term.syntheticHole [tm "?", if r == "_" then tm r else lo r]
  else if c == '%' then lo r
  else if c == '"' then nd `str [tm w]
  else if c.isDigit then nd `num [tm w]
  else .ident .none w.toRawSubstring w.toName []
def step (sc : Name → Name) (st : List (List Syntax)) (w : String) : List (List Syntax) :=
  if w == "(" then [] :: st
  else if w == ")" then match st with
    | xs :: t :: r => match xs.reverse with
      | h :: ys => (node h ys :: t) :: r
      | [] => st
    | _ => st
  else match st with
    | t :: r => (word sc w :: t) :: r
    | [] => []
def parse (sc : Name → Name) (r : String) : Option Syntax :=
  match (((r.replace "(" "( ").replace ")" " )").splitOn " ").foldl (step sc) [[]] with
  | [[t]] => some t
  | _ => none
def run (rows : String) (k : TSyntax `str) : MacroM Syntax := do
  let key := k.getString ++ " => "
  let some r := (rows.splitOn "\n").find? fun r => r.startsWith key | Macro.throwUnsupported
  let c ← read
  let some t := parse (fun n => addMacroScope c.quotContext n c.currMacroScope) (r.drop key.length).toString | Macro.throwUnsupported
  return nd `Lean.Parser.Tactic.paren [tm "(", sq [t], tm ")"]
/-! the words of auto-params -/
def au (r : String) : Syntax := sq [(parse id r).getD .missing]
def a_K : Syntax := au "(at K)"
def a_R : Syntax := au "(at R)"
def a_at : Syntax := au "(at at)"
def a_do : Syntax := au "(at do)"
def a_hd : Syntax := au "(at hd)"
def a_hkey : Syntax := au "(at hkey)"
def a_hm : Syntax := au "(at hm)"
def a_key : Syntax := au "(at key)"
def a_mem : Syntax := au "(at mem)"
def a_mk : Syntax := au "(at mk)"
def a_nm : Syntax := au "(at nm)"
def a_om : Syntax := au "(at om)"
def a_own : Syntax := au "(at own)"
def a_ra : Syntax := au "(at ra)"
def a_rkey : Syntax := au "(at rkey)"
def a_rtab : Syntax := au "(at rtab)"
def a_see : Syntax := au "(at see)"
def a_sz : Syntax := au "(at sz)"
def a_tab : Syntax := au "(at tab)"
def a_tabI : Syntax := au "(at tabI)"
def a_val : Syntax := au "(at val)"
def a_xr : Syntax := au "(at xr)"
def a_as : Syntax := au "(assumption)"
def a_de : Syntax := au "(decide)"
def a_ki : Syntax := au "(k_is)"
def a_rf : Syntax := au "(exact rfl)"
def a_nb : Syntax := au "(exact (Nat.le_of_ble_eq_true rfl))"
def a_dk : Syntax := au "(decidek kernel)"
def a_li : Syntax := au "(lia)"
def a_wr : Syntax := au "(with_unfolding_all (rfl))"
def a_cn : Syntax := au "(exact (List.cons_ne_nil _ _))"
def a_ll : Syntax := au "(first (exact (Nat.lt_of_sub_pos rfl)) (seq (simp) (done)) (lia) (seq (simp) (lia)))"
def a_bo : Syntax := au "(boot_by_name)"
def a_rl : Syntax := au "(rfl)"
def a_pl : Syntax := au "(seq (refine' (Or.inl (PyProof.noPylong_of_log2 ?l))) (case l (decidek kernel)))"
/-! the rows, by stages -/
def rows1 : String := "pf D => (first (seq (refine (exI ?_)) (refine ((asc ?f (all %a (ApX _ _ %a))) _)) (intro %a) (refine (ApX.mk ?_))) (seq (refine (andI ?_)) (intro %a)))
pf DR => (seq (refine (andI ?_)) (intro %a) (subst %a))
pf DP => (seq (refine (exI ?_)) (refine ((asc ?f (all %a (ApX _ _ %a))) _)) (refine (prodI ?_)) (intro %a %b) (refine (ApX.mk ?_)))
pf sz => (first (exact (Nat.le_of_ble_eq_true rfl)) (decide) (size_fits) (seq (simponly sizeLine_eq) (lia)))
pf xr => (seq (intro %x) (with_unfolding_all (rfl)))
pf do => (first (decide) (lia))
pf ra => (first (exact rfl) (assumption))
pf hm => (repeat (first (exact (List.Mem.head _)) (refine (List.Mem.tail _ ?_))))
pf om => (first (seq (refine' (room ?r1 ?r2)) (case %r1 (with_reducible (assumption))) (case %r2 (exact rfl))) (seq (try (dsimp)) (lia)))
pf hd => (first (exact rfl) (seq (refine' (Up.handled ?u1)) (case %u1 (assumption))))
pf nm => (first (exact rfl) (with_reducible (assumption)) (exact upd_eq) (seq (refine' (upd_ne ?n1 ?n2)) (case %n1 (decide)) (case %n2 (at nm))))
pf enter => (seq (case %ho %hcd (k_is)) (case %hb (at hb)) (case %hkd %hok (exact rfl)) (case %hnd (decidek kernel)) (case %c2 %c3 %c4 (exact rfl)))
pf at => (with_reducible (assumption))
pf chain => (first (with_reducible (assumption)) (seq (refine' (StaysIn.trans ?v1 ?v2)) (case %v1 (with_reducible (assumption))) (case %v2 (at chain))))
pf own => (first (with_reducible (assumption)) (seq (refine' (isL.up ?u1 ?u2)) (case %u1 (with_reducible (assumption))) (case %u2 (at chain))) (seq (refine' (isD.up ?u1 ?u2)) (case %u1 (with_reducible (assumption))) (case %u2 (at chain))))
pf stay => (first (seq (refine' (At.own ?v1)) (case %v1 (with_reducible (assumption)))) (seq (refine' (At.base ?v1)) (case %v1 (with_reducible (assumption)))) (seq (refine' (StaysIn.trans ?v1 ?v2)) (case %v1 (with_reducible (assumption))) (case %v2 (at stay))))
pf see => (first (with_reducible (assumption)) (seq (refine' (Inst.up ?u1 ?u3)) (case %u1 (with_reducible (assumption))) (case %u3 (at stay))) (seq (refine' (isL.up ?u1 ?u3)) (case %u1 (with_reducible (assumption))) (case %u3 (at stay))) (seq (refine' (isT.up ?u1 ?u3)) (case %u1 (with_reducible (assumption))) (case %u3 (at stay))) (seq (refine' (isR.up ?u1 ?u3)) (case %u1 (with_reducible (assumption))) (case %u3 (at stay))) (seq (refine' (isD.up ?u1 ?u3)) (case %u1 (with_reducible (assumption))) (case %u3 (at stay))) (seq (refine' (seeT.at ?u1 ?u3)) (case %u1 %u3 (with_reducible (assumption)))))
pf K => (seq (refine' (Frag.In.keeps ?u1 (At.base ?u3))) (case %u1 %u3 (with_reducible (assumption))))
eval Name => (with_unfolding_all (first (refine' (At.name_l (is h ?_))) (refine' (At.name_c (is h ?_))) (refine' (At.name_g (is h ?_))) (refine' (At.name_b (is h ?_))) (refine' (At.name_f (is h ?_)))))
storeName => (with_unfolding_all (first (seq (refine' (At.store_l (is h ?_))) (intro %h' %Z')) (seq (refine' (At.store_c (is h ?_))) (intro %h' %Z'))))
getAttr ref => (with_unfolding_all (k_dflt (seq (first (refine' (inst_attr (is h ?_))) (seq (refine' (inst_bound (is h ?_))) (intro %q' %h' %r' %Z' %e' %S' %s' %f' %f''))))))
getMethod ref => (first (with_unfolding_all (k_dflt (seq (refine' (inst_meth (is h ?_)))))) (seq (with_reducible (show (wpAny _ _ (getMethod (Value.ref _) (PySem.Str.ofString \"append\") _) _ _ _))) (with_unfolding_all (refine' (list_meth PySem.F.slot_list_append PySem.F.type_list_append (is h ?_))))) (seq (with_reducible (show (wpAny _ _ (getMethod (Value.ref _) (PySem.Str.ofString \"extend\") _) _ _ _))) (with_unfolding_all (refine' (list_meth PySem.F.slot_list_extend PySem.F.type_list_extend (is h ?_))))) (seq (with_reducible (show (wpAny _ _ (getMethod (Value.ref _) (PySem.Str.ofString \"pop\") _) _ _ _))) (with_unfolding_all (refine' (list_meth PySem.F.slot_list_pop PySem.F.type_list_pop (is h ?_))))) (seq (with_reducible (show (wpAny _ _ (getMethod (Value.ref _) (PySem.Str.ofString \"get\") _) _ _ _))) (with_unfolding_all (first (refine' (dict_meth (is h ?_) (is knd (intKind prg _)))) (refine' (dict_meth (is h ?_) (is knd (strKind prg _))))))))
pf key => (first (exact (intKind_is prg _ _ _)) (exact (strKind_is prg _ _ _)))
pf val => (first (with_reducible (assumption)) (exact rfl))
subscriptTail => (with_unfolding_all (first (seq (with_reducible (show (wpAny _ _ (subscriptTail _ _ (Value.ref _) (Value.int _ _)) _ _ _))) (first (refine' (item_list (is h ?_))) (refine' (item_row (is h ?_))) (refine' (item_tup (is h ?_))) (refine' (dict_item (is h ?_) (is knd (intKind prg _)))))) (seq (with_reducible (show (wpAny _ _ (subscriptTail _ _ (Value.ref _) (Value.str _ _)) _ _ _))) (refine' (dict_item (is h ?_) (is knd (strKind prg _)))))))
pf sides => (seq (case %hz %hS (at at)) (case %hs (at in)) (case %hU (assumption)) (case %hd %hu (at om)))
pf go => (repeat' (first (seq (k_unfold) (try (dsimp))) (seq (with_reducible (show (wpAny _ _ (getMethod (Value.ref _) _ _) _ _ _))) (first (seq (with_unfolding_all (k_dflt (seq (refine' (inst_meth (is h ?_)))))) (try (dsimp))) (seq (fail_if_success (with_reducible (show (wpAny _ _ (getMethod (Value.ref _) (PySem.Str.ofString \"alpha\") _) _ _ _)))) (fail_if_success (with_reducible (show (wpAny _ _ (getMethod (Value.ref _) (PySem.Str.ofString \"put\") _) _ _ _)))) (fail_if_success (with_reducible (show (wpAny _ _ (getMethod (Value.ref _) (PySem.Str.ofString \"top\") _) _ _ _)))) (walk1) (try (dsimp))))) (seq (fail_if_success (with_reducible (show (wpAny _ _ (getMethod (Value.ref _) _ _) _ _ _)))) (first (seq (walk1) (try (dsimp))) (seq (dsimp) (walk1))))))
newTuple => (with_unfolding_all (seq (refine' (new_tuple (is h ?_))) (intro %a' %h' %Z' %n' %t' %s' %f')))
assign Tuple => (with_unfolding_all (seq (refine' (unpack_t (is h ?_))) (intro %h' %Z' %s') (dsimp assignEach List.map_cons List.map_nil)))
unpackItems ref => (with_unfolding_all (seq (refine' (unpack_i (is h ?_))) (intro %h' %Z' %s')))
execs cons => (with_reducible (refine (wpAny_execs_cons ?_)))
execs nil => (with_reducible (refine (wpAny_execs_nil ?_)))
exec Return some => (with_reducible (refine (wpAny_Return_some ?_)))
exec Expr => (with_reducible (refine (wpAny_Expr_any ?_)))
exec If => (with_reducible (refine (wpAny_If ?_)))
exec Assign => (seq (with_reducible (refine' (wpAny_Assign_Name ?_ ?hs))) (case %hs (with_unfolding_all (rfl))))
eval BinOp => (with_reducible (refine (wpAny_BinOp ?_)))
eval Compare => (first (with_reducible (refine (wpAny_Compare1 ?_))) (seq (with_reducible (refine (Compare_chain ?_ ?km))) (case %km (with_unfolding_all (rfl)))))
isTrue Compare => (first (with_reducible (refine (wpAny_isTrue_Compare1 ?_))) (seq (with_reducible (refine (isTrue_chain ?_ ?km))) (case %km (with_unfolding_all (rfl)))))
testChain => (first (with_reducible (refine (test_link ?_))) (with_reducible (refine (test_last ?_))))
compareChain => (first (with_reducible (refine (chain_link ?_))) (with_reducible (refine (chain_last ?_))))
spliced => (first (with_reducible (refine (spliced_more ?_))) (with_reducible (refine (spliced_none ?_))))
pf in => (first (with_reducible (assumption)) (exact (fun _ %q (Or.inl %q))) (exact (fun _ %q (False.elim (List.not_mem_nil %q)))) (at in2))
pf mem => (first (exact (Or.inl (List.Mem.head _))) (seq (refine (Or.inr ?_)) (assumption)) (assumption) (seq (refine (Or.inl ?_)) (assumption)))
call type:range => (with_unfolding_all (first (seq (refine' (range_2 (is h ?_))) (intro %rr %h' %tk %v' %Z' %n' %R' %s')) (seq (refine' (range_1 (is h ?_))) (intro %rr %h' %tk %u' %v' %Z' %n' %R' %s'))))
call type:tuple => (with_unfolding_all (seq (refine' (tuple_of (is h ?_))) (intro %a' %h' %Z' %n' %t' %s' %f')))
eval ListComp => (with_unfolding_all (refine' (lcomp (is h ?_))))
pf for => (with_unfolding_all (seq (refine' (loop ?k0 ?k1 ?_ ?k2)) (case %k0 (at at)) (case %k1 (at hd)) (case %k2 (seq (intro %x) (with_unfolding_all (rfl))))))
pyIter ref => (refine' (Stop.mk ?_))
And => (with_unfolding_all (seq (refine' (of ?a1 ?_)) (case %a1 (first (at K) (seq (refine' (And.intro ?b1 ?b2)) (case %b1 (seq (refine' (At.own ?v1 _ _ ?v2)) (case %v1 %v2 (with_reducible (assumption))))) (case %b2 (at K)))))))
callWith ref => (with_unfolding_all (first (seq (refine' (callWith_K ?k1 ?k2 ?_)) (case %k1 (at at)) (case %k2 (first (k_is) (with_reducible (assumption))))) (seq (refine' (callWith_K0 ?k1 ?k2 ?_)) (case %k1 (at K)) (case %k2 (k_is))) (at bm)))
pf bm => (seq (refine' (callWith_bm (is f 199) (is K (Pf.ob.heap_1 _)) ?k1 ?_ ?k3 ?k4)) (case %k1 (k_is)) (case %k3 %k4 (exact rfl)))
exec For Name Attribute cons nil => (at for)
exec For Name Call cons nil => (at for)
exec For Name Name cons nil => (at for)
exec For Tuple Call cons nil => (at for)
exec Assign cons => (seq (with_reducible (refine' (wpAny_Assign_Name ?_ ?hs))) (case %hs (with_unfolding_all (rfl))))
exec Assign cons ListComp => (with_unfolding_all (refine' (lcomp_to (is h ?_))))
exec Assign cons DictComp => (seq (with_reducible (refine' (wpAny_Assign_Name ?_ ?hs))) (case %hs (with_unfolding_all (rfl))))
exec Assign cons Dict => (seq (with_reducible (refine' (wpAny_Assign_Name ?_ ?hs))) (case %hs (with_unfolding_all (rfl))))
setItem ref int => (with_unfolding_all (first (seq (refine' (list_set (is h ?_))) (intro %h' %r' %Z' %R' %S' %l')) (seq (refine' (dict_set (is h ?_) (is knd (intKind prg _)))) (intro %h' %r' %tk %Z' %R' %S' %l')) (seq (refine' (dict_set (is h ?_) (is knd (strKind prg _)))) (intro %h' %r' %tk %Z' %R' %S' %l'))))
exec While Compare => (refine' (Stop.mk ?_))
call builtin:len => (with_unfolding_all (first (refine' (len_0 (is h ?_))) (refine' (len_1 (is h ?_))) (refine' (len_2 (is h ?_))) (refine' (len_list (is h ?_)))))
call builtin:list.append => (with_unfolding_all (seq (refine' (list_append (is h ?_))) (intro %h' %r' %Z' %R' %S' %l')))
call builtin:list.extend => (with_unfolding_all (seq (refine' (list_extend (is h ?_))) (intro %h' %r' %Z' %R' %S' %l')))
call builtin:list.pop => (with_unfolding_all (seq (refine' (list_popl (is h ?_))) (intro %h' %r' %Z' %R' %S' %l')))
compareOp Eq ref ref => (with_unfolding_all (first (refine' (eq_nil0 (is h ?_))) (refine' (eq_nilc (is h ?_))) (refine' (eq_nil (is h ?_)))))
compareOp NotEq ref ref => (with_unfolding_all (first (refine' (ne_nil0 (is h ?_))) (refine' (ne_nilc (is h ?_))) (refine' (ne_nil (is h ?_)))))
newList => (with_unfolding_all (seq (refine' (own_list (is h ?_))) (intro %a' %h' %r' %Z' %R' %S' %s' %f' %f'')))
call type:list => (with_unfolding_all (seq (refine' (own_of (is h ?_))) (intro %a' %h' %r' %Z' %R' %S' %s' %f' %f'')))
binaryOp Add ref ref => (with_unfolding_all (seq (refine' (own_add (is h ?_))) (intro %a' %h' %r' %Z' %R' %S' %s' %f' %f'')))
binaryOp Mult ref int => (with_unfolding_all (seq (refine' (own_times (is h ?_))) (intro %a' %h' %r' %Z' %R' %S' %s' %f' %f'')))
eval Dict nil nil => (with_unfolding_all (seq (refine' (dict_new (is h ?_))) (intro %a' %h' %r' %Z' %lo' %e' %S' %s' %f' %f'')))
pf mk => (first (with_reducible (assumption)) (seq (refine' (Mk.up ?u1 ?u2)) (case %u1 %u2 (with_reducible (assumption)))))
setAttr ref => (with_unfolding_all (seq (refine' (set_attr (is h ?_))) (intro %h' %r' %k %tk %Z' %M' %S' %s')))
call builtin:dict.get => (with_unfolding_all (first (refine' (dict_get (is h ?_) (is knd (intKind prg _)))) (refine' (dict_get (is h ?_) (is knd (strKind prg _))))))
call builtin:sorted => (with_unfolding_all (seq (refine' (own_sorted (is h ?_))) (intro %vs' %ns' %hi' %hp' %a' %h' %r' %Z' %R' %S' %s' %f' %f'')))
setItem ref str => (with_unfolding_all (seq (refine' (dict_set (is h ?_) (is knd (strKind prg _)))) (intro %h' %r' %tk %Z' %R' %S' %l')))
callWith => (first (with_reducible (refine (PyProof.Rows.callWith_method0 ?_))) (with_reducible (refine (PyProof.Rows.callWith_builtin1 ?_))) (with_reducible (refine (PyProof.Rows.callWith_method1 ?_))))"
def rows2 : String := "compareOp NotEq ref ref => (with_unfolding_all (first (refine' (ne_nilR0 (is h ?_))) (refine' (ne_nilRc (is h ?_))) (refine' (ne_nil0 (is h ?_))) (refine' (ne_nilc (is h ?_))) (refine' (ne_nil (is h ?_)))))
eval Dict => (with_unfolding_all (seq (refine' (disp_new (is h ?_))) (intro %a' %h' %r' %Z' %lo' %e' %S' %s' %f' %f'')))
pf R => (first (with_reducible (assumption)) (seq (refine' (isR.up ?u1 ?u3)) (case %u1 (with_reducible (assumption))) (case %u3 (at stay))))
newTuple => (with_unfolding_all (seq (refine' (own_tuple (is h ?_))) (intro %a' %h' %r' %Z' %R' %S' %s' %f' %f'')))
call type:tuple => (with_unfolding_all (seq (refine' (own_tuple_of (is h ?_))) (intro %a' %h' %r' %Z' %R' %S' %s' %f' %f'')))
binaryOp Add ref ref => (with_unfolding_all (first (seq (refine' (own_add (is h ?_))) (intro %a' %h' %r' %Z' %R' %S' %s' %f' %f'')) (seq (refine' (own_tadd (is h ?_))) (intro %a' %h' %r' %Z' %R' %S' %s' %f' %f''))))
pf hkey => (first (with_reducible (assumption)) (seq (refine' (isKey.up ?u1 ?u3)) (case %u1 (with_reducible (assumption))) (case %u3 (at stay))) (seq (refine' (isT.key ?u1)) (case %u1 (at see))))
pf rkey => (first (with_reducible (assumption)) (seq (refine' (isKey.up ?u1 ?u3)) (case %u1 (with_reducible (assumption))) (case %u3 (at chain))) (seq (refine' (isT.key ?u1)) (case %u1 (first (with_reducible (assumption)) (seq (refine' (isT.up ?w1 ?w3)) (case %w1 (with_reducible (assumption))) (case %w3 (at chain)))))))
pf tab => (first (with_reducible (assumption)) (seq (refine' (isP.up ?u1 ?u3)) (case %u1 (with_reducible (assumption))) (case %u3 (at stay))))
pf rtab => (first (with_reducible (assumption)) (seq (refine' (isP.up ?u1 ?u3)) (case %u1 (with_reducible (assumption))) (case %u3 (at chain))))
setItem ref ref => (with_unfolding_all (seq (refine' (tab_set (is h ?_))) (intro %h' %r' %tk %Z' %R' %S' %l')))
subscriptTail => (seq (with_reducible (show (wpAny _ _ (subscriptTail _ _ (Value.ref _) (Value.ref _)) _ _ _))) (with_unfolding_all (refine' (tab_item (is h ?_)))))
call builtin:dict.get => (seq (show (wpAny _ _ (call _ (List.cons (Value.ref _) (List.cons (Value.ref _) (List.cons _ List.nil)))) _ _ _)) (with_unfolding_all (refine' (tab_get (is h ?_)))))
getMethod ref => (seq (with_reducible (show (wpAny _ _ (getMethod (Value.ref _) (PySem.Str.ofString \"get\") _) _ _ _))) (with_unfolding_all (refine' (tab_meth (is h ?_)))))
exec Assign cons DictComp => (with_unfolding_all (refine' (dcomp3_to (is h ?_))))
eval DictComp => (with_unfolding_all (refine' (dcomp1 (is h ?_))))"
def rows3 : String := "call type:range => (with_unfolding_all (seq (refine' (range_3 (is h ?_))) (intro %rr %h' %tk %v' %Z' %n' %R' %s')))
pf tabI => (first (with_reducible (assumption)) (seq (refine' (TabI.up ?u1 ?u3)) (case %u1 (with_reducible (assumption))) (case %u3 (at stay))))
call builtin:dict.get => (seq (show (wpAny _ _ (call _ (List.cons (Value.ref _) (List.cons (Value.ref _) (List.cons (Value.int 0 _) List.nil)))) _ _ _)) (with_unfolding_all (seq (refine' (tabI_get (is h ?_))) (intro %t' %tk'))))
getMethod ref => (seq (with_reducible (show (wpAny _ _ (getMethod (Value.ref _) (PySem.Str.ofString \"get\") _) _ _ _))) (with_unfolding_all (refine' (tabI_meth (is h ?_)))))
exec Assign cons BoolOp => (refine' (Stop.mk ?_))"
def rows4 : String := "exec For Name Name cons nil => (with_unfolding_all (refine' (loop_tab (is h ?_))))
eval DictComp => (with_unfolding_all (refine' (dcomp1 (is h ?_) (is t1 (PySem.Expr.Name \"a\" (of 0 0 0 0))) (is i1 (PySem.Expr.Name \"a\" (of 0 0 0 0))) (is t2 (PySem.Expr.Name \"a\" (of 0 0 0 0))) (is i2 (PySem.Expr.Name \"a\" (of 0 0 0 0))))))"
def rows5 : String := "pf toExpr => (repeat' (seq (fail_if_success (with_reducible (show (wpAny _ _ (exec (PySem.Stmt.Expr _ _) _) _ _ _)))) (first (seq (k_unfold) (try (dsimp))) (seq (walk1) (try (dsimp))) (seq (dsimp) (walk1)))))
pf toIf => (repeat' (seq (fail_if_success (with_reducible (show (wpAny _ _ (exec (PySem.Stmt.If _ _ _ _) _) _ _ _)))) (first (seq (k_unfold) (try (dsimp))) (seq (walk1) (try (dsimp))) (seq (dsimp) (walk1)))))
pf toAssign => (repeat' (seq (fail_if_success (with_reducible (show (wpAny _ _ (exec (PySem.Stmt.Assign _ (PySem.Expr.IfExp _ _ _ _) _) _) _ _ _)))) (first (seq (k_unfold) (try (dsimp))) (seq (walk1) (try (dsimp))) (seq (dsimp) (walk1)))))
pf toTry => (repeat' (seq (fail_if_success (with_reducible (show (wpAny _ _ (exec (PySem.Stmt.Try _ _ _ _ _) _) _ _ _)))) (first (seq (k_unfold) (try (dsimp))) (seq (walk1) (try (dsimp))) (seq (dsimp) (walk1)))))
setItem ref ref => (refine' (Stop.mk ?_))"
end Pf.Ln

end
section
open PySem PySem.W PySem.Calls PyProof.Rows
set_option Elab.async false
set_option compiler.extract_closed false
set_option maxRecDepth 100000
namespace Pf

/-! ## partial heaps -/
noncomputable def hole : Obj := { cls := .none, data := .freed }
noncomputable def mkHeap (n : Nat) (f : Addr → Option Obj) : Heap := ⟨Array.ofFn fun i : Fin n => (f i).getD hole, {}⟩

theorem get_mk {n : Nat} {f : Addr → Option Obj} (hf : ∀ a o, f a = some o → a < n ∧ o.isFreed = false) (a : Addr) : (mkHeap n f).get? a = f a := by
  cases e : f a with
  | some o =>
    obtain ⟨h1, h2⟩ := hf a o e
    refine Heap.get?_some_iff.mpr ⟨?_, h2⟩
    unfold mkHeap
    simp only [Array.getElem?_ofFn, h1, dite_true]
    rw [e]; rfl
  | none =>
    cases q : (mkHeap n f).get? a with
    | none => rfl
    | some o =>
      exfalso
      obtain ⟨h1, h2⟩ := Heap.get?_some_iff.mp q
      unfold mkHeap at h1
      simp only [Array.getElem?_ofFn] at h1
      split at h1
      · rw [e] at h1
        cases h1
        cases h2
      · cases h1
theorem size_mk {n : Nat} {f : Addr → Option Obj} : (mkHeap n f).objs.size = n := by unfold mkHeap; simp

/-- all of h that is not in r -/
noncomputable def minus (h r : Heap) : Heap := mkHeap h.objs.size fun a => if (r.get? a).isSome then none else h.get? a
theorem get_minus (h r : Heap) (a : Addr) : (minus h r).get? a = if (r.get? a).isSome then none else h.get? a := by
  refine get_mk (fun a o e => ?_) a
  split at e
  · cases e
  · exact ⟨Heap.lt_size e, (Heap.get?_some_iff.mp e).2⟩
theorem size_minus (h r : Heap) : (minus h r).objs.size = h.objs.size := size_mk
theorem minus_stays (h r : Heap) : (minus h r).StaysIn h := fun b o e => by
  rw [get_minus] at e
  split at e
  · cases e
  · exact e
theorem minus_some {h r : Heap} {a : Addr} {o : Obj} (e : h.get? a = some o) (n : r.get? a = none) : (minus h r).get? a = some o := by
  rw [get_minus, n, if_neg (by simp), e]
theorem minus_none {h r : Heap} {a : Addr} {o : Obj} (e : r.get? a = some o) : (minus h r).get? a = none := by
  rw [get_minus, e]; rfl

/-- r with o at a -/
noncomputable def put (r : Heap) (a : Addr) (o : Obj) : Heap := mkHeap (max r.objs.size (a + 1)) fun b => if b = a then (if o.isFreed then none else some o) else r.get? b
theorem get_put (r : Heap) (a : Addr) (o : Obj) (b : Addr) : (put r a o).get? b = if b = a then (if o.isFreed then none else some o) else r.get? b := by
  refine get_mk (fun c x e => ?_) b
  split at e
  · rename_i h; subst h
    split at e
    · cases e
    · rename_i h; cases e; exact ⟨Nat.lt_of_lt_of_le (Nat.lt_succ_self _) (Nat.le_max_right _ _), by simpa using h⟩
  · exact ⟨Nat.lt_of_lt_of_le (Heap.lt_size e) (Nat.le_max_left _ _), (Heap.get?_some_iff.mp e).2⟩
theorem put_self (r : Heap) (a : Addr) {o : Obj} (hf : o.isFreed = false) : (put r a o).get? a = some o := by rw [get_put, if_pos rfl, hf]; rfl
theorem put_ne (r : Heap) {a b : Addr} (o : Obj) (hb : b ≠ a) : (put r a o).get? b = r.get? b := by rw [get_put, if_neg hb]

/-- nothing is in both -/
noncomputable def Disj (r g : Heap) : Prop := ∀ a o, r.get? a = some o → g.get? a = none
theorem disj_minus (h r : Heap) : Disj r (minus h r) := fun _ _ e => minus_none e
theorem Disj.mono {r g g' : Heap} (x : Disj r g) (k : g'.StaysIn g) : Disj r g' := fun a o e => by
  cases q : g'.get? a with
  | none => rfl
  | some o' => have := x a o e; rw [k _ _ q] at this; cases this
theorem Disj.right {r g : Heap} (x : Disj r g) {a : Addr} {o : Obj} (e : g.get? a = some o) : r.get? a = none := by
  cases q : r.get? a with
  | none => rfl
  | some o' => have := x a o' q; rw [e] at this; cases this

/-- all but the objects named stay as they stood -/
noncomputable def Keep (as : List Addr) (h h' : Heap) : Prop := ∀ b o, b ∉ as → h.get? b = some o → h'.get? b = some o
theorem Keep.refl (as : List Addr) (h : Heap) : Keep as h h := fun _ _ _ e => e
theorem Keep.mono {as bs : List Addr} {h h' : Heap} (k : Keep as h h') (s : ∀ a ∈ as, a ∈ bs) : Keep bs h h' := fun b o n e => k b o (fun q => n (s b q)) e
theorem Keep.trans {as : List Addr} {h h' h'' : Heap} (k : Keep as h h') (k' : Keep as h' h'') : Keep as h h'' := fun b o n e => k' b o n (k b o n e)
/-- later changes to what is not of r do not count -/
theorem Keep.then {as bs : List Addr} {r r' r'' : Heap} (k : Keep as r r') (k' : Keep bs r' r'') (s : ∀ a ∈ bs, a ∈ as ∨ r.get? a = none) : Keep as r r'' := fun b o n e =>
  k' b o (fun q => (s b q).elim n fun z => by rw [z] at e; cases e) (k b o n e)
/-- what is owned goes on: what is named may change, all else stays; nothing goes -/
structure Step (as : List Addr) (r r' : Heap) : Prop where
  keep : Keep as r r'
  sub : ∀ a, r'.get? a = none → r.get? a = none
  tup : ∀ a o, r.get? a = some o → o.cls = .type "tuple" → r'.get? a = some o
theorem Step.refl (as : List Addr) (r : Heap) : Step as r r := ⟨Keep.refl _ _, fun _ e => e, fun _ _ e _ => e⟩
theorem Step.mono {as bs : List Addr} {r r' : Heap} (x : Step as r r') (s : ∀ a ∈ as, a ∈ bs) : Step bs r r' := ⟨x.keep.mono s, x.sub, x.tup⟩
theorem Step.trans {as : List Addr} {r r' r'' : Heap} (x : Step as r r') (y : Step as r' r'') : Step as r r'' := ⟨x.keep.trans y.keep, fun a e => x.sub a (y.sub a e), fun a o e c => y.tup a o (x.tup a o e c) c⟩
theorem Step.then {as bs : List Addr} {r r' r'' : Heap} (x : Step as r r') (y : Step bs r' r'') (s : ∀ a ∈ bs, a ∈ as ∨ r.get? a = none) : Step as r r'' := ⟨x.keep.then y.keep s, fun a e => x.sub a (y.sub a e), fun a o e c => y.tup a o (x.tup a o e c) c⟩
/-- the same of one move -/
noncomputable def Loc (as : List Addr) (r r' : Heap) : Prop := Step as r r'
/-- what is frozen stays -/
theorem Step.fz {as : List Addr} {f r r' : Heap} (x : Step as r r') (k : f.StaysIn r) (n : ∀ a ∈ as, f.get? a = none) : f.StaysIn r' := fun b o e =>
  x.keep b o (fun q => by rw [n b q] at e; cases e) (k b o e)
theorem Step.nil {r r' : Heap} (x : Step [] r r') : r.StaysIn r' := fun b o e => x.keep b o (fun q => nomatch q) e
theorem Step.of_stays {as : List Addr} {r r' : Heap} (x : r.StaysIn r') : Step as r r' := by
  refine ⟨fun b o _ e => x b o e, fun a e => ?_, fun a o e _ => x a o e⟩
  cases q : r.get? a with
  | none => rfl
  | some o => rw [x _ _ q] at e; cases e
theorem Keep.nil {h h' : Heap} (k : Keep [] h h') : h.StaysIn h' := fun b o e => k b o (fun q => nomatch q) e
theorem keep_put {r : Heap} {a : Addr} {o : Obj} : Keep [a] r (put r a o) := fun b x n e => (put_ne r o (fun (q : b = a) => n (by rw [q]; exact .head _))).trans e
theorem stays_put {r : Heap} {a : Addr} {o : Obj} (h : r.get? a = none) : r.StaysIn (put r a o) := fun b x e => by
  rw [put_ne]; exact e
  rintro rfl; rw [h] at e; cases e

theorem step_new {as : List Addr} {r : Heap} {a : Addr} {o : Obj} (h : r.get? a = none) : Step as r (put r a o) := .of_stays (stays_put h)
theorem step_old {as : List Addr} {r : Heap} {a : Addr} {o o' : Obj} (h : a ∈ as) (hf : o.isFreed = false) (ho : r.get? a = some o') (hc : o'.cls ≠ .type "tuple") : Step as r (put r a o) :=
  ⟨keep_put.mono fun b hb => by rw [List.mem_singleton.mp hb]; exact h, fun b e => by
    by_cases q : b = a
    · subst q; rw [put_self _ _ hf] at e; cases e
    · rwa [put_ne _ _ q] at e, fun b x e c => by
    by_cases q : b = a
    · subst q; rw [ho] at e; cases e; exact absurd c hc
    · rwa [put_ne _ _ q]⟩
theorem StaysIn.trans {a b c : Heap} (x : a.StaysIn b) (y : b.StaysIn c) : a.StaysIn c := fun _ _ e => y _ _ (x _ _ e)
theorem stays_push (h : Heap) (o : Obj) : h.StaysIn (h.push o) := fun _ _ e => Heap.get?_push_of_some _ e
theorem stays_same {a : Addr} {r h h' : Heap} (x : r.StaysIn h) (hs : Heap.SameBut a h h') (n : r.get? a = none) : r.StaysIn h' := fun b o e =>
  (hs.2 b (by rintro rfl; rw [n] at e; cases e)).trans (x b o e)

/-- the top stands -/
noncomputable def TopE (h : Heap) : Prop := ∃ (p : Program) (loose : List Str) (mean : ExcName → Option Value) (mg mb : Str → Option Value), Top p loose mean mg mb h
theorem TopE.keeps {h h' : Heap} (t : TopE h) (k : h.StaysIn h') : TopE h' := by
  obtain ⟨p, l, a, b, c, T⟩ := t
  exact ⟨p, l, a, b, c, T.keeps k⟩
theorem TopE.nolimit {h : Heap} (t : TopE h) : h.NoLimit := by
  obtain ⟨_, _, _, _, _, T⟩ := t
  exact T.nolimit
/-- what lies below a call: the frames, the written part, the top -/
structure Cx (w : World) (env : Env) (outer : List Env) (base g : Heap) : Prop where
  stays : base.StaysIn g
  frames : g.FunFrames base (env :: outer)
  kb : (Pf.ob.heap_1 w.params).In base
  topb : TopE base
theorem Cx.k {w : World} {env : Env} {outer : List Env} {base g : Heap} (x : Cx w env outer base g) : (Pf.ob.heap_1 w.params).In g := x.kb.keeps x.stays
theorem Cx.mono {w : World} {env : Env} {outer : List Env} {base g g' : Heap} (x : Cx w env outer base g) (k : g.StaysIn g') : Cx w env outer base g' :=
  ⟨StaysIn.trans x.stays k, x.frames.of_keeps fun b o e _ => ⟨o, k b o e, rfl⟩, x.kb, x.topb⟩

abbrev arnd (dp un : Nat) (gd : Option (List Code)) (env : Env) (outer : List Env) : Around := { handled := none, depth := dp, frames := some (env :: outer), guards := gd, units := un }
abbrev prg : Program := PySem.Challenge.rw_pf0200_01.row.prog

/-- a call of a def: r is what it may touch, as what it may change, n how deep it goes; Post of what it gives back and what is owned then -/
structure Call (w : World) (r : Heap) (as : List Addr) (f : Value) (args : List Value) (n : Nat) (Post : Value → Heap → Prop) : Prop where
  live : ∀ a ∈ as, ∃ o, r.get? a = some o
  run : ∀ (dp un : Nat) (gd : Option (List Code)) (env : Env) (outer : List Env) (base : Heap) (s : Shared) (R : Result → Shared → Prop),
    r.StaysIn s.heap → Cx w env outer base (minus s.heap r) → dp + 4 * n < recursionLimit → un + 20 * n < cLine →
    (∀ v h' tk' r', r'.StaysIn h' → Keep as s.heap h' → Step as r r' → Disj r' (minus s.heap r) → Post v r' → R (.ok (.ret v)) { s with heap := h', toks := tk' }) →
    codeAny (model prg w) (arnd dp un gd env outer) (.call f ⟨args, []⟩) R s

theorem Call.post {w : World} {r : Heap} {as : List Addr} {f : Value} {args : List Value} {n : Nat} {P P' : Value → Heap → Prop} (c : Call w r as f args n P) (h : ∀ v r', Step as r r' → P v r' → P' v r') : Call w r as f args n P' :=
  ⟨c.live, fun dp un gd env outer base s R hr hx hd hu q => c.run dp un gd env outer base s R hr hx hd hu fun v h' tk' r' a b c d e => q v h' tk' r' a b c d (h v r' c e)⟩
theorem Call.more {w : World} {r : Heap} {as bs : List Addr} {f : Value} {args : List Value} {n : Nat} {P : Value → Heap → Prop} (c : Call w r as f args n P) (h : ∀ a ∈ as, a ∈ bs) (hl : ∀ a ∈ bs, ∃ o, r.get? a = some o) : Call w r bs f args n P :=
  ⟨hl, fun dp un gd env outer base s R hr hx hd hu q => c.run dp un gd env outer base s R hr hx hd hu fun v h' tk' r' a b c d e => q v h' tk' r' a (b.mono h) (c.mono h) d e⟩
end Pf
end
section
open PySem PySem.W PySem.Calls PyProof.Rows
set_option Elab.async false
set_option compiler.extract_closed false
set_option maxRecDepth 100000
namespace Pf

/-! ## where a body stands -/
/-- g: what stays as it is; cs: the frame's own cells; m: what the names hold; r: what is owned; h: the heap -/
structure At (w : World) (g : Heap) (cs : List Addr) (env : Env) (m : Str → Option Value) (r h : Heap) : Prop where
  base : g.StaysIn h
  own : r.StaysIn h
  ns : ∃ mL, h.Ns env.locals mL ∧ ∀ x, env.kindOf x = some .local → mL x = m x
  cell : ∀ x c, env.cells.lookup x = some c → h.IsCell c (m x) ∧ (c ∈ cs ∨ ∃ o, g.get? c = some o)
  csr : ∀ c ∈ cs, r.get? c = none ∧ g.get? c = none ∧ c ≠ env.locals ∧ ∃ x, env.cells.lookup x = some c
  loc : r.get? env.locals = none ∧ g.get? env.locals = none
  rg : Disj r g
  ap : cs ≠ [] → env.cells.Pairwise fun x y => x.2 ≠ y.2
  kc : ∀ x c, env.cells.lookup x = some c → env.kindOf x ≠ some .local

/-- the ground of a body's calls -/
noncomputable def UpO (w : World) (g : Heap) (env fenv : Env) (outer : List Env) (base : Heap) : Prop :=
  ∀ gx : Heap, g.StaysIn gx → (∃ o, gx.get? env.locals = some o ∧ ∀ vs, o.data ≠ .fields vs) → Cx w fenv outer base gx
theorem UpO.mono {w : World} {g g' : Heap} {env fenv : Env} {outer : List Env} {base : Heap} (u : UpO w g env fenv outer base) (k : g.StaysIn g') : UpO w g' env fenv outer base :=
  fun gx h q => u gx (StaysIn.trans k h) q
/-- the same, of what is around a body -/
noncomputable def Up (w : World) (g : Heap) (env : Env) (A : Around) (base : Heap) : Prop :=
  ∃ (dp un : Nat) (gd : Option (List Code)) (fenv : Env) (outer : List Env), A = arnd dp un gd fenv outer ∧ UpO w g env fenv outer base
theorem Up.mono {w : World} {g g' : Heap} {env : Env} {A : Around} {base : Heap} (u : Up w g env A base) (k : g.StaysIn g') : Up w g' env A base := by
  obtain ⟨dp, un, gd, fenv, outer, e, u⟩ := u
  exact ⟨dp, un, gd, fenv, outer, e, u.mono k⟩
theorem Up.sub {w : World} {g g' : Heap} {env env' : Env} {A : Around} {base : Heap} (u : Up w g env A base) (k : ∀ gx : Heap, g'.StaysIn gx → g.StaysIn gx ∧ ∃ o, gx.get? env.locals = some o ∧ ∀ vs, o.data ≠ .fields vs) : Up w g' env' A base := by
  obtain ⟨dp, un, gd, fenv, outer, e, u⟩ := u
  exact ⟨dp, un, gd, fenv, outer, e, fun gx h _ => u gx (k gx h).1 (k gx h).2⟩
theorem Up.handled {w : World} {g : Heap} {env : Env} {A : Around} {base : Heap} (u : Up w g env A base) : A.handled = none := by obtain ⟨_, _, _, _, _, rfl, _⟩ := u; rfl

noncomputable def valOf : Flow → Value
  | .ret v => v
  | _ => .none
abbrev never : Value → Shared → Prop := fun _ _ => False

theorem bindL_eq {kindOf : Str → Option NameKind} {x : Str} (hx : kindOf x = some .local) : ∀ (binds : List (Str × Value)) (m : Str → Option Value), bindL kindOf binds m x = (binds.reverse.lookup x).or (m x)
  | [], m => by simp [bindL]
  | (n, v) :: r, m => by
    unfold bindL
    rw [bindL_eq hx r, List.reverse_cons, List.lookup_append]
    by_cases e : x = n
    · subst e
      rw [if_pos hx]
      simp [List.lookup]
    · have e' : (x == n) = false := by simpa using e
      have hl : List.lookup x [(n, v)] = none := by simp [List.lookup, e']
      rw [hl]
      split
      · simp [e]
      · simp
theorem bindC_eq {kindOf : Str → Option NameKind} {x : Str} (hx : kindOf x ≠ some .local) : ∀ (binds : List (Str × Value)) (m : Str → Option Value), bindC kindOf binds m x = (binds.reverse.lookup x).or (m x)
  | [], m => by simp [bindC]
  | (n, v) :: r, m => by
    unfold bindC
    rw [bindC_eq hx r, List.reverse_cons, List.lookup_append]
    by_cases e : x = n
    · subst e
      rw [if_neg hx]
      simp [List.lookup]
    · have e' : (x == n) = false := by simpa using e
      have hl : List.lookup x [(n, v)] = none := by simp [List.lookup, e']
      rw [hl]
      split
      · simp
      · simp [e]

theorem cellsKind {x : Str} {c : Addr} : ∀ (names : List (Str × NameKind)) (n : Nat) (acc : List (Str × Addr)), (x, c) ∈ cellsFrom n names acc → (x, c) ∈ acc ∨ (x, NameKind.cell) ∈ names
  | [], n, acc, h => .inl h
  | (y, k) :: r, n, acc, h => by
    unfold cellsFrom at h
    split at h
    · rename_i hk
      have hk : k = .cell := by simpa using hk
      rcases cellsKind r _ _ h with h | h
      · rcases List.mem_cons.mp h with e | h
        · cases e; subst hk; exact .inr (.head _)
        · exact .inl h
      · exact .inr (.tail _ h)
    · rcases cellsKind r _ _ h with h | h
      · exact .inl h
      · exact .inr (.tail _ h)

noncomputable def okCells (scope : Scope) : Bool := scope.names.all fun x => x.2 != .cell || scope.names.lookup x.1 == some .cell

/-- what a body is shown for -/
noncomputable def EnterP (w : World) (r : Heap) (as : List Addr) (k : Nat) (Post : Value → Heap → Prop) (qual : Str) (scope : Scope) (f : Addr) (cdv : Value) (body : List Stmt) (binds : List (Str × Value))
    (A : Around) (base g h₁ : Heap) (tk₁ : Nat) (L : Addr) (s : Shared) (Q : Value → Shared → Prop) : Prop :=
      A.depth + 4 * k + 3 < recursionLimit → A.units + 20 * k + 17 < cLine → (Pf.ob.heap_1 w.params).In g → TopE g → Up w g (envOfC qual scope L f cdv) A base →
      At w g ((cellsFrom (L + 1) scope.names []).map (·.2)) (envOfC qual scope L f cdv) (fun y => binds.reverse.lookup y) r h₁ → Step as r r →
      (∀ v h' tk' r' m', At w g ((cellsFrom (L + 1) scope.names []).map (·.2)) (envOfC qual scope L f cdv) m' r' h' → Step as r r' → Post v r' → Q v { s with heap := h', toks := tk' }) →
      wpAny (model prg w) A (execs body (envOfC qual scope L f cdv)) (fun fl s' => Q (valOf fl) s') never { s with heap := h₁, toks := tk₁ }
theorem enter {w : World} {r : Heap} {as : List Addr} {f : Addr} {args : List Value} {k : Nat} {Post : Value → Heap → Prop}
    {name qual : Str} {params : Arguments} {body : List Stmt} {scope : Scope} {dV kV doc pm cdv ct oc : Value} {an od : Option Addr} {osl : Array (Option Value)} (binds : List (Str × Value))
    (ho : (Pf.ob.heap_1 w.params).lookup f = some ⟨oc, od, .func (fnOf name qual params body scope dV kV doc pm an cdv ct), osl⟩) (hcd : codeIn (Pf.ob.heap_1 w.params) cdv qual = true)
    (hbind : ∀ s : Shared, (Pf.ob.heap_1 w.params).In s.heap → BindsTo s (fnOf name qual params body scope dV kV doc pm an cdv ct) ⟨args, []⟩ binds)
    (hkind : (binds.all fun y => scope.names.lookup y.1 == some .local || scope.names.lookup y.1 == some .cell) = true)
    (hok : okCells scope = true) (hnd : ((cellsFrom 0 scope.names []).map (·.1)).Nodup)
    (hco : scope.isCoroutine = false) (hgen : scope.isGenerator = false) (hk : scope.kind = .function) (hlive : ∀ a ∈ as, ∃ o, r.get? a = some o)
    (h : ∀ (A : Around) (base g h₁ : Heap) (tk₁ : Nat) (L : Addr) (s : Shared) (Q : Value → Shared → Prop),
      EnterP w r as k Post qual scope f cdv body binds A base g h₁ tk₁ L s Q) :
    Call w r as (.ref f) args (k + 1) Post := by
  refine ⟨hlive, ?_⟩
  intro dp un gd env outer base s R hr hx hdp hun hret
  obtain ⟨st, fr, Kb, Tb⟩ := hx
  have K := Kb.keeps st
  have T := Tb.keeps st
  have KK : (Pf.ob.heap_1 w.params).In s.heap := K.keeps (minus_stays _ _)
  refine codeAny_call_function (by show dp < _; lia) (KK _ _ ho) rfl hco hgen rfl (codeRec_of KK hcd) (hbind s KK _ _ _ _ ?_)
  refine wpAny_newFunctionEnv_cells hk (kindsX hkind _) fun env' he s' x => ?_
  subst he
  refine ⟨(T.nolimit.keeps (minus_stays _ _)).keeps x.toInCall.keep, codeAny_func ?_⟩
  obtain ⟨h₁, tk, rfl, _⟩ := x.done
  have hk₁ := x.toInCall.keep
  have fresh : ∀ (z : Heap), z.StaysIn s.heap → ∀ a, s.heap.objs.size ≤ a → z.get? a = none := fun z hz a ha => by
    cases e : z.get? a with
    | none => rfl
    | some o => exact absurd (Heap.lt_size (hz _ _ e)) (Nat.not_lt.mpr ha)
  have inCs : ∀ x c, (cellsFrom (s.heap.objs.size + 1) scope.names []).lookup x = some c → s.heap.objs.size < c := fun y c e => x.above y c (mem_of_lookup e)
  have kc : ∀ y c, (envOfC qual scope s.heap.objs.size f cdv).cells.lookup y = some c → (envOfC qual scope s.heap.objs.size f cdv).kindOf y ≠ some .local := fun y c e => by
    have hm := mem_of_lookup e
    rcases cellsKind scope.names _ [] hm with q | q
    · cases q
    · have := List.all_eq_true.mp hok _ q
      simp only [bne_self_eq_false, Bool.false_or, beq_iff_eq] at this
      show scope.names.lookup y ≠ _
      rw [this]; decide
  have Z : At w (minus s.heap r) ((cellsFrom (s.heap.objs.size + 1) scope.names []).map (·.2)) (envOfC qual scope s.heap.objs.size f cdv) (fun y => binds.reverse.lookup y) r h₁ := by
    refine ⟨fun b o e => hk₁ b o (minus_stays _ _ b o e), fun b o e => hk₁ b o (hr b o e), ⟨_, x.toInCall.ns, fun y hy => ?_⟩, fun y c e => ⟨?_, .inl (List.mem_map.mpr ⟨(y, c), mem_of_lookup e, rfl⟩)⟩, fun c hc => ?_, ⟨?_, ?_⟩, disj_minus _ _, fun _ => x.apart, kc⟩
    · exact (bindL_eq hy binds _).trans (by simp)
    · have hkd := kc y c e
      have q := x.cell y c e
      have q2 := bindC_eq (kindOf := (envOfC qual scope s.heap.objs.size f cdv).kindOf) hkd binds (fun _ => none)
      rw [Option.or_none] at q2
      exact q2 ▸ q
    · obtain ⟨⟨y, c'⟩, hm, rfl⟩ := List.mem_map.mp hc
      have hlt : s.heap.objs.size < c' := x.above y c' hm
      exact ⟨fresh r hr _ (Nat.le_of_lt hlt), fresh _ (minus_stays _ _) _ (Nat.le_of_lt hlt), Nat.ne_of_gt hlt, y, lookup_of_mem_nodup (cellsFrom_names scope.names 0 (s.heap.objs.size + 1) [] [] rfl ▸ hnd) hm⟩
    · exact fresh r hr _ (Nat.le_refl _)
    · exact fresh _ (minus_stays _ _) _ (Nat.le_refl _)
  refine wpAny_mono (h (arnd (dp + 1) (un + 3) gd (envOfC qual scope s.heap.objs.size f cdv) (env :: outer)) base (minus s.heap r) h₁ tk s.heap.objs.size s (fun v s' => R (.ok (.ret v)) s') (show dp + 1 + 4 * k + 3 < _ by lia) (show un + 3 + 20 * k + 17 < _ by lia) K T ⟨_, _, _, _, _, rfl, ?_⟩ Z (Step.refl _ _) (fun v h' tk' r' m' Z' kp hp => ?_)) (fun fl s' hl => ?_) fun _ _ x => x.elim
  · intro gx hg ⟨o, ho, hnf⟩
    refine ⟨StaysIn.trans st hg, ⟨by show scope.kind ≠ .module; rw [hk]; decide, ⟨_, o, rfl, ?_, ho, hnf⟩, fr.of_keeps fun b o e _ => ⟨o, hg b o e, rfl⟩⟩, Kb, Tb⟩
    exact fresh base (StaysIn.trans st (minus_stays _ _)) _ (Nat.le_refl _)
  · refine hret v h' tk' r' Z'.own (fun b o hb e => ?_) kp Z'.rg hp
    cases q : r.get? b with
    | some o' =>
      have : o' = o := Option.some.inj ((hr b o' q).symm.trans e)
      subst this
      exact Z'.own b o' (kp.keep b o' hb q)
    | none => exact Z'.base b o (minus_some e q)
  · cases fl <;> exact hl

theorem room {d a b c L : Nat} (h : d + a + b < L) (e : Nat.ble c (a + b) = true) : d + c < L := by
  have := Nat.le_of_ble_eq_true e
  lia
/-- a call from a body -/
theorem At.call {w : World} {r : Heap} {as : List Addr} {f : Value} {args : List Value} {n : Nat} {Post : Value → Heap → Prop} (C : Call w r as f args n Post)
    {g : Heap} {cs : List Addr} {env : Env} {m : Str → Option Value} {s : Shared} {A : Around} {base : Heap} {Q E : Value → Shared → Prop}
    {as₀ : List Addr} {r₀ : Heap} (Z : At w g cs env m r s.heap) (S : Step as₀ r₀ r) (hs : ∀ a ∈ as, a ∈ as₀ ∨ r₀.get? a = none) (U : Up w g env A base) (hd : A.depth + 4 * n < recursionLimit) (hu : A.units + 20 * n < cLine)
    (h : ∀ v h' tk' r', At w g cs env m r' h' → Step as₀ r₀ r' → Loc as r r' → (∀ a o, r'.get? a = some o → r.get? a = none → s.heap.get? a = none) → Post v r' → Q v { s with heap := h', toks := tk' }) :
    wpAny (model prg w) A (call f args) Q E s := by
  obtain ⟨dp, un, gd, fenv, outer, rfl, U⟩ := U
  obtain ⟨mL, hns, hmL⟩ := Z.ns
  have offr : ∀ {a : Addr}, r.get? a = none → a ∉ as := fun e q => by obtain ⟨o, ho⟩ := C.live _ q; rw [e] at ho; cases ho
  have gm : g.StaysIn (minus s.heap r) := fun b o e => minus_some (Z.base b o e) (Z.rg.right e)
  obtain ⟨oL, es, ep, hL, hd1, hd2, hd3⟩ := hns
  refine wpAny_call (C.run dp un gd fenv outer base s _ Z.own (U _ gm ⟨oL, minus_some hL Z.loc.1, fun vs q => by rw [hd1] at q; cases q⟩) hd hu fun v h' tk' r' a1 a2 a3 a4 a5 => ?_)
  have live : ∀ {a : Addr} {o : Obj}, s.heap.get? a = some o → r.get? a = none → r'.get? a = none := fun e n => a4.right (minus_some e n)
  refine h v h' tk' r' ⟨fun b o e => a2 b o (offr (Z.rg.right e)) (Z.base b o e), a1, ⟨mL, ⟨oL, es, ep, a2 _ _ (offr Z.loc.1) hL, hd1, hd2, hd3⟩, hmL⟩, fun x c e => ?_, fun c hc => ?_, ⟨live hL Z.loc.1, Z.loc.2⟩, a4.mono gm, Z.ap, Z.kc⟩ (S.then a3 hs) a3 (fun a o e n => ?_) a5
  · obtain ⟨⟨oc, hc, hdc⟩, hin⟩ := Z.cell x c e
    refine ⟨⟨oc, a2 _ _ (offr ?_) hc, hdc⟩, hin⟩
    rcases hin with q | ⟨o, q⟩
    · exact (Z.csr c q).1
    · exact Z.rg.right q
  · obtain ⟨h1, h2, h3, x, hx⟩ := Z.csr c hc
    obtain ⟨⟨o, q, _⟩, _⟩ := Z.cell x c hx
    exact ⟨live q h1, h2, h3, x, hx⟩
  · cases q : s.heap.get? a with
    | none => rfl
    | some o' => rw [live q n] at e; cases e

/-! ## how it goes on -/
section
variable {w : World} {g : Heap} {cs : List Addr} {env : Env} {m : Str → Option Value} {r h h' : Heap} {a : Addr} {o o' : Obj}
theorem At.grow (Z : At w g cs env m r h) (k : h.StaysIn h') : At w g cs env m r h' :=
  ⟨StaysIn.trans Z.base k, StaysIn.trans Z.own k, let ⟨mL, x, y⟩ := Z.ns; ⟨mL, x.keeps k, y⟩, fun x c e => ⟨(Z.cell x c e).1.keeps k, (Z.cell x c e).2⟩, Z.csr, Z.loc, Z.rg, Z.ap, Z.kc⟩
theorem At.push (Z : At w g cs env m r h) (o : Obj) : At w g cs env m r (h.push o) := Z.grow (stays_push h o)
theorem At.fresh (Z : At w g cs env m r h) : r.get? h.objs.size = none ∧ g.get? h.objs.size = none ∧ h.objs.size ≠ env.locals ∧ h.objs.size ∉ cs := by
  have no : ∀ (z : Heap), z.StaysIn h → z.get? h.objs.size = none := fun z hz => by
    cases e : z.get? h.objs.size with
    | none => rfl
    | some o => exact absurd (Heap.lt_size (hz _ _ e)) (Nat.lt_irrefl _)
  obtain ⟨mL, ⟨oL, _, _, hL, _⟩, _⟩ := Z.ns
  refine ⟨no r Z.own, no g Z.base, Nat.ne_of_gt (Heap.lt_size hL), fun hc => ?_⟩
  obtain ⟨_, _, _, x, hx⟩ := Z.csr _ hc
  exact absurd (Z.cell x _ hx).1.lt (Nat.lt_irrefl _)
theorem At.adopt (Z : At w g cs env m r h) (e : h.get? a = some o) (hg : g.get? a = none) (hL : a ≠ env.locals) (hc : a ∉ cs) : At w g cs env m (put r a o) h := by
  have hf := (Heap.get?_some_iff.mp e).2
  refine ⟨Z.base, fun b x q => ?_, Z.ns, Z.cell, fun c hcs => ?_, ⟨?_, Z.loc.2⟩, fun b x q => ?_, Z.ap, Z.kc⟩
  · by_cases hb : b = a
    · subst hb; rw [put_self _ _ hf] at q; cases q; exact e
    · rw [put_ne _ _ hb] at q; exact Z.own b x q
  · obtain ⟨h1, h2⟩ := Z.csr c hcs
    refine ⟨?_, h2⟩
    rw [put_ne _ _ (by rintro rfl; exact hc hcs)]; exact h1
  · rw [put_ne _ _ (Ne.symm hL)]; exact Z.loc.1
  · by_cases hb : b = a
    · subst hb; exact hg
    · rw [put_ne _ _ hb] at q; exact Z.rg b x q
theorem At.new (Z : At w g cs env m r h) (o : Obj) (hf : autoParam (o.isFreed = false) Ln.a_rl) : At w g cs env m (put r h.objs.size o) (h.push o) :=
  let ⟨_, h2, h3, h4⟩ := Z.fresh; (Z.push o).adopt (Heap.get?_push_size h hf) h2 h3 h4
theorem At.chg (Z : At w g cs env m r h) (ra : r.get? a = some o) (hs : Heap.SameBut a h h') (e : h'.get? a = some o') : At w g cs env m (put r a o') h' := by
  have hf := (Heap.get?_some_iff.mp e).2
  have hg : g.get? a = none := Z.rg _ _ ra
  have hL : a ≠ env.locals := by rintro rfl; rw [Z.loc.1] at ra; cases ra
  refine ⟨stays_same Z.base hs hg, fun b x q => ?_, ?_, fun x c q => ⟨(Z.cell x c q).1.sameBut hs ?_, (Z.cell x c q).2⟩, fun c hcs => ?_, ⟨?_, Z.loc.2⟩, fun b x q => ?_, Z.ap, Z.kc⟩
  · by_cases hb : b = a
    · subst hb; rw [put_self _ _ hf] at q; cases q; exact e
    · rw [put_ne _ _ hb] at q; exact (hs.2 b hb).trans (Z.own b x q)
  · obtain ⟨mL, x, y⟩ := Z.ns; exact ⟨mL, x.sameBut hs (Ne.symm hL), y⟩
  · rintro rfl
    rcases (Z.cell x c q).2 with z | ⟨o2, z⟩
    · rw [(Z.csr c z).1] at ra; cases ra
    · rw [z] at hg; cases hg
  · obtain ⟨h1, h2⟩ := Z.csr c hcs
    refine ⟨?_, h2⟩
    rw [put_ne _ _ (by rintro rfl; rw [h1] at ra; cases ra)]; exact h1
  · rw [put_ne _ _ (Ne.symm hL)]; exact Z.loc.1
  · by_cases hb : b = a
    · subst hb; exact hg
    · rw [put_ne _ _ hb] at q; exact Z.rg b x q
theorem At.frame (Z : At w g cs env m r h) {m' mL : Str → Option Value} (hn : h'.Ns env.locals mL) (hm : ∀ x, env.kindOf x = some .local → mL x = m' x) (hs : Heap.SameBut env.locals h h')
    (hc : ∀ x, env.kindOf x ≠ some .local → m' x = m x) : At w g cs env m' r h' := by
  refine ⟨stays_same Z.base hs Z.loc.2, stays_same Z.own hs Z.loc.1, ⟨mL, hn, hm⟩, fun x c q => ⟨?_, (Z.cell x c q).2⟩, Z.csr, Z.loc, Z.rg, Z.ap, Z.kc⟩
  rw [hc x (Z.kc x c q)]
  refine (Z.cell x c q).1.sameBut hs ?_
  rcases (Z.cell x c q).2 with z | ⟨o2, z⟩
  · exact (Z.csr c z).2.2.1
  · rintro rfl; rw [Z.loc.2] at z; cases z
end

/-- a name's new value -/
noncomputable def upd (m : Str → Option Value) (x : Str) (v : Value) : Str → Option Value := fun y => if y = x then some v else m y

section
variable {w : World} {M : Model} {A : Around} {E : Value → Shared → Prop} {s : Shared} {g : Heap} {cs : List Addr} {env : Env} {m : Str → Option Value} {r : Heap} {x : Str} {v : Value} {pos : Pos} {c : Addr}
theorem At.name_l {Q : Value → Shared → Prop} (Z : autoParam (At w g cs env m r s.heap) Ln.a_at) (hv : autoParam (m x = some v) Ln.a_nm) (h : Q v s) (hk : autoParam (env.scope.kind = .function) Ln.a_rf) (hl : autoParam (env.kindOf x = some .local) Ln.a_rf) (hd : autoParam ((x == ("__debug__" : Str)) = false) Ln.a_de) :
    wpAny M A (eval (.Name x pos) env) Q E s :=
  let ⟨_, hn, hm⟩ := Z.ns
  wpAny_Name (wpAny_loadName_local hk hl hn ((hm x hl).trans hv) h) hd
theorem At.name_c {Q : Value → Shared → Prop} (Z : autoParam (At w g cs env m r s.heap) Ln.a_at) (hv : autoParam (m x = some v) Ln.a_nm) (h : Q v s) (hk : autoParam (env.scope.kind = .function) Ln.a_rf) (hl : autoParam (env.kindOf x = some .cell) Ln.a_rf) (hc : autoParam (env.cells.lookup x = some c) Ln.a_rf) (hd : autoParam ((x == ("__debug__" : Str)) = false) Ln.a_de) :
    wpAny M A (eval (.Name x pos) env) Q E s := wpAny_Name (wpAny_loadName_cell hk hl hc (hv ▸ (Z.cell x c hc).1) h) hd
theorem At.name_f {Q : Value → Shared → Prop} (Z : autoParam (At w g cs env m r s.heap) Ln.a_at) (hv : autoParam (m x = some v) Ln.a_nm) (h : Q v s) (hk : autoParam (env.scope.kind = .function) Ln.a_rf) (hl : autoParam (env.kindOf x = some .free) Ln.a_rf) (hc : autoParam (env.cells.lookup x = some c) Ln.a_rf) (hd : autoParam ((x == ("__debug__" : Str)) = false) Ln.a_de) (hn : autoParam ((x == ("__classdict__" : Str)) = false) Ln.a_de) :
    wpAny M A (eval (.Name x pos) env) Q E s := wpAny_Name (wpAny_loadName_free hk hl hc (hv ▸ (Z.cell x c hc).1) h hn) hd
theorem At.name_g {K : Frag} {Q : Value → Shared → Prop} (Z : autoParam (At w g cs env m r s.heap) Ln.a_at) (X : autoParam (K.In g) Ln.a_at) (T : autoParam (TopE g) Ln.a_at) (e : autoParam (nsIn K mainGlobals x = some (some v)) Ln.a_ki) (h : Q v s)
    (hg : autoParam (env.globals = mainGlobals) Ln.a_rf) (hk : autoParam (env.scope.kind = .function) Ln.a_rf) (hx : autoParam (env.kindOf x = some .globalImplicit) Ln.a_rf) (hd : autoParam ((x == ("__debug__" : Str)) = false) Ln.a_de) : wpAny M A (eval (.Name x pos) env) Q E s :=
  let ⟨_, _, _, _, _, T⟩ := T
  Name_function_global hk hx (loadGlobal_global (env := env) (by rw [hg]; exact T.g.keeps Z.base) (mg_of X T.g e) h) hd
theorem At.name_b {K : Frag} {Q : Value → Shared → Prop} (Z : autoParam (At w g cs env m r s.heap) Ln.a_at) (X : autoParam (K.In g) Ln.a_at) (T : autoParam (TopE g) Ln.a_at) (e : autoParam (nsIn K mainGlobals x = some none) Ln.a_ki) (hv : autoParam (bootBuiltins x = some v) Ln.a_bo) (h : Q v s)
    (hg : autoParam (env.globals = mainGlobals) Ln.a_rf) (hb : autoParam (env.builtins = builtinsNs) Ln.a_rf) (hk : autoParam (env.scope.kind = .function) Ln.a_rf) (hx : autoParam (env.kindOf x = some .globalImplicit) Ln.a_rf) (hd : autoParam ((x == ("__debug__" : Str)) = false) Ln.a_de) (hn : autoParam (x ≠ "__name__") Ln.a_de) : wpAny M A (eval (.Name x pos) env) Q E s :=
  let ⟨_, _, _, _, _, T⟩ := T
  Name_function_global hk hx (loadGlobal_builtin (env := env) (by rw [hg]; exact T.g.keeps Z.base) (mg_none_of X T.g e) (by rw [hb]; exact T.b.keeps Z.base) ((T.builtins x hn).trans hv) h) hd

theorem At.store_l {Q : Unit → Shared → Prop} (Z : autoParam (At w g cs env m r s.heap) Ln.a_at) (hl : autoParam (env.kindOf x = some .local) Ln.a_rf) (hk : autoParam (env.scope.kind = .function) Ln.a_rf)
    (h : ∀ h', At w g cs env (upd m x v) r h' → Q () { s with heap := h', toks := s.toks + 1 }) : wpAny M A (storeName env x v) Q E s := by
  obtain ⟨mL, hn, hm⟩ := Z.ns
  refine wpAny_storeName_local hl hn (fun h' hn' hs => h h' (Z.frame hn' (fun y hy => ?_) hs fun y hy => ?_)) (by rw [hk]; rfl)
  · unfold upd; rw [hm y hy]
  · unfold upd; rw [if_neg]; rintro rfl; exact hy hl
theorem At.store_c {Q : Unit → Shared → Prop} (Z : autoParam (At w g cs env m r s.heap) Ln.a_at) (hl : autoParam (env.kindOf x = some .cell) Ln.a_rf) (hk : autoParam (env.scope.kind = .function) Ln.a_rf) (hc : autoParam (env.cells.lookup x = some c) Ln.a_rf) (hcs : autoParam (c ∈ cs) Ln.a_hm)
    (h : ∀ h', At w g cs env (upd m x v) r h' → Q () { s with heap := h' }) : wpAny M A (storeName env x v) Q E s := by
  refine wpAny_storeName_cell hk hl hc (Z.cell x c hc).1 fun h' hc' hs => h h' ?_
  obtain ⟨c1, c2, c3, _⟩ := Z.csr c hcs
  obtain ⟨mL, hn, hm⟩ := Z.ns
  refine ⟨stays_same Z.base hs c2, stays_same Z.own hs c1, ⟨mL, hn.sameBut hs (Ne.symm c3), fun y hy => ?_⟩, fun y c' e => ⟨?_, (Z.cell y c' e).2⟩, Z.csr, Z.loc, Z.rg, Z.ap, Z.kc⟩
  · unfold upd; rw [if_neg, hm y hy]; rintro rfl; rw [hl] at hy; cases hy
  · by_cases q : y = x
    · subst q
      rw [hc] at e; cases e
      unfold upd; rw [if_pos rfl]; exact hc'
    · unfold upd; rw [if_neg q]
      exact (Z.cell y c' e).1.sameBut hs fun z => q (name_of_addr (Z.ap (by rintro rfl; cases hcs)) (mem_of_lookup e) (z ▸ mem_of_lookup hc))
end
end Pf
end
section
open PySem PySem.W PySem.Calls PyProof.Rows
set_option Elab.async false
set_option compiler.extract_closed false
set_option maxRecDepth 100000
namespace Pf
/-! ## objects of classes, lists, tuples -/
abbrev listO (vs : List Value) (n : Nat) : Obj := { cls := .type "list", data := .seq vs.toArray n }
abbrev tupO (vs : List Value) (n : Nat) : Obj := { cls := .type "tuple", data := .seq vs.toArray n }
noncomputable def isL (h : Heap) (a : Addr) (vs : List Value) : Prop := ∃ n, h.get? a = some (listO vs n)
noncomputable def isT (h : Heap) (a : Addr) (vs : List Value) : Prop := ∃ n, h.get? a = some (tupO vs n)
theorem isL.up {h h' : Heap} {a : Addr} {vs : List Value} (x : isL h a vs) (k : h.StaysIn h') : isL h' a vs := by
  obtain ⟨n, e⟩ := x
  exact ⟨n, k _ _ e⟩
theorem isT.up {h h' : Heap} {a : Addr} {vs : List Value} (x : isT h a vs) (k : h.StaysIn h') : isT h' a vs := by
  obtain ⟨n, e⟩ := x
  exact ⟨n, k _ _ e⟩
theorem isL.list {h : Heap} {a : Addr} {vs : List Value} (x : isL h a vs) : h.IsList a vs.toArray := by
  obtain ⟨n, e⟩ := x
  exact ⟨_, e, rfl, n, rfl⟩
theorem isL.plain {h : Heap} {a : Addr} {vs : List Value} (x : isL h a vs) : h.PlainList a vs.toArray := by
  obtain ⟨n, e⟩ := x
  exact ⟨n, e⟩
theorem isL.of_plain {h : Heap} {a : Addr} {vs : List Value} (x : h.PlainList a vs.toArray) : isL h a vs := by
  obtain ⟨n, e⟩ := x
  exact ⟨n, e⟩
theorem isT.tup {h : Heap} {a : Addr} {vs : List Value} (x : isT h a vs) : IsTup h a vs.toArray := by
  obtain ⟨n, e⟩ := x
  exact ⟨_, e, rfl, n, rfl⟩

/-- an object of a class: its class, its dict -/
structure Ins (h : Heap) (x C : Addr) (od : Obj) : Prop where
  at_ : ∃ dx, h.get? x = some (instObj C dx) ∧ h.get? dx = some od
theorem Ins.up {h h' : Heap} {x C : Addr} {od : Obj} (i : Ins h x C od) (k : h.StaysIn h') : Ins h' x C od := let ⟨dx, a, b⟩ := i.at_; ⟨dx, k _ _ a, k _ _ b⟩
theorem Ins.inst {h : Heap} {x C : Addr} {od : Obj} (i : Ins h x C od) : ∃ ox, InstAt h x ox C (some od) := let ⟨_, a, b⟩ := i.at_; ⟨_, a, rfl, rfl, b⟩
/-- an attribute -/
abbrev Has (od : Obj) (name : Str) (v : Value) : Prop := lookIn name od = some (some v)
abbrev Lacks (od : Obj) (name : Str) : Prop := lookIn name od = some none
noncomputable def HasI (od : Obj) (name : Str) (i : Int) : Prop := ∃ t, Has od name (.int i t)

section
variable {w : World} {A : Around} {E : Value → Shared → Prop} {s : Shared} {K : Frag} {x C : Addr} {od : Obj} {name : Str} {v : Value}
theorem get_attr {expr : Bool} {Q : Value → Shared → Prop} {attr : Option Value} (X : K.In s.heap) (I : Ins s.heap x C od) (hg : plainGet K C name = true) (hh : hasDictIn K C = true)
    (ha : findIn K (.ref C) name = some attr) (hn : noGet K attr = true) (hl : Has od name v) (hv : handedIn v = true) (h : Q v { s with toks := s.toks + 1 }) : wpAny (model prg w) A (getAttr (.ref x) name expr) Q E s :=
  let ⟨_, i⟩ := I.inst
  get_value X i (plainGet_of hg).1 (findObj_own hh ha hn hl) hv h
theorem get_meth {pl : Sem Bool} {Q : Value × List Value → Shared → Prop} {f : Addr} (X : K.In s.heap) (I : Ins s.heap x C od) (hg : plainGet K C name = true)
    (hf : findIn K (.ref C) name = some (some (.ref f))) (ht : isFn K (.ref f) = true) (hl : Lacks od name) (h : Q (.ref f, [.ref x]) s) : wpAny (model prg w) A (getMethod (.ref x) name pl) Q E s :=
  let ⟨_, i⟩ := I.inst
  method_fn X i (plainGet_of hg).1 (plainGet_of hg).2 hf (beq_iff_eq.mp ht) (by show (lookIn name od).map _ = _; rw [hl]; rfl) h
end

section
variable {w : World} {A : Around} {E : Value → Shared → Prop} {s : Shared} {value slice : PySem.Expr} {l : Addr} {vs : List Value} {k : Int} {u : Tok} {v : Value} {Q : Value → Shared → Prop}
theorem item_list (hl : autoParam (isL s.heap l vs) Ln.a_see) (h0 : autoParam (0 ≤ k) Ln.a_do) (hhi : autoParam (k < 2 ^ 63) Ln.a_do) (hx : autoParam (vs[k.toNat]? = some v) Ln.a_ra) (h : Q v s)
    (hs : autoParam (subscripted slice false (.ref l) (.int k u) = operate [.ref l, .int k u] (getItem (.ref l) (.int k u))) Ln.a_wr) : wpAny (model prg w) A (subscriptTail value slice (.ref l) (.int k u)) Q E s :=
  tail_any hl.list.typeIs slot_list_getitem.lookup (wpAny_getItem_list hl.list h0 hhi (by simpa using hx) h) hs
theorem item_tup {j : Nat} (hl : autoParam (isT s.heap l vs) Ln.a_see) (hj : autoParam (seqIndex? k vs.length = some j) Ln.a_rf) (hx : autoParam (vs[j]? = some v) Ln.a_rf) (h : Q v s) (hlo : autoParam (-(2 ^ 63) ≤ k) Ln.a_de) (hhi : autoParam (k < 2 ^ 63) Ln.a_de)
    (hs : autoParam (subscripted slice false (.ref l) (.int k u) = operate [.ref l, .int k u] (getItem (.ref l) (.int k u))) Ln.a_wr) : wpAny (model prg w) A (subscriptTail value slice (.ref l) (.int k u)) Q E s :=
  item_tupleT hl.tup hlo hhi hj hx h hs
end

/-- an address of the call's own -/
structure New (g : Heap) (cs : List Addr) (env : Env) (r : Heap) (a : Addr) : Prop where
  nr : r.get? a = none
  ng : g.get? a = none
  nl : a ≠ env.locals
  nc : a ∉ cs
section
variable {w : World} {A : Around} {E : Value → Shared → Prop} {s : Shared} {g : Heap} {cs : List Addr} {env : Env} {m : Str → Option Value} {r : Heap} {vs : List Value}
theorem new_tuple {Q : Value → Shared → Prop} (Z : autoParam (At w g cs env m r s.heap) Ln.a_at) (hsz : autoParam (vs.length ≤ sizeLine) Ln.a_sz)
    (h : ∀ a h', At w g cs env m r h' → New g cs env r a → isT h' a vs → s.heap.StaysIn h' → s.heap.get? a = none → Q (.ref a) { s with heap := h' }) : wpAny (model prg w) A (newTuple vs) Q E s := by
  refine wpAny_newObj_type (h s.heap.objs.size _ (Z.push _) ⟨Z.fresh.1, Z.fresh.2.1, Z.fresh.2.2.1, Z.fresh.2.2.2⟩ ⟨0, Heap.get?_push_size _ rfl⟩ (stays_push _ _) ?_) (by show vs.toArray.size ≤ sizeLine; rw [List.size_toArray]; exact hsz)
  cases q : s.heap.get? s.heap.objs.size with
  | none => rfl
  | some o => exact absurd (Heap.lt_size q) (Nat.lt_irrefl _)
theorem new_list {Q : Value → Shared → Prop} (Z : At w g cs env m r s.heap) (hsz : vs.length ≤ sizeLine)
    (h : ∀ a h', At w g cs env m r h' → New g cs env r a → isL h' a vs → s.heap.StaysIn h' → s.heap.get? a = none → Q (.ref a) { s with heap := h' }) : wpAny (model prg w) A (newList vs) Q E s := by
  refine wpAny_newObj_type (h s.heap.objs.size _ (Z.push _) ⟨Z.fresh.1, Z.fresh.2.1, Z.fresh.2.2.1, Z.fresh.2.2.2⟩ ⟨0, Heap.get?_push_size _ rfl⟩ (stays_push _ _) ?_) (by show vs.toArray.size ≤ sizeLine; rw [List.size_toArray]; exact hsz)
  cases q : s.heap.get? s.heap.objs.size with
  | none => rfl
  | some o => exact absurd (Heap.lt_size q) (Nat.lt_irrefl _)
theorem At.own_new {h : Heap} {a : Addr} {o : Obj} (Z : At w g cs env m r h) (n : New g cs env r a) (e : h.get? a = some o) : At w g cs env m (put r a o) h := Z.adopt e n.ng n.nl n.nc
theorem unpack_i {t : Addr} {n : Nat} {Q : List Value → Shared → Prop} (hh : autoParam (A.handled = none) Ln.a_hd) (Z : autoParam (At w g cs env m r s.heap) Ln.a_at) (ht : autoParam (isT s.heap t vs) Ln.a_see) (hn : autoParam (n = vs.length) Ln.a_rf)
    (h : ∀ h', At w g cs env m r h' → s.heap.StaysIn h' → Q vs { s with heap := h' }) : wpAny (model prg w) A (unpackItems (.ref t) n none) Q E s := by
  subst hn
  have := unpackItems_tuple (prog := prg) (w := w) (A := A) (E := E) (Q := Q) hh ht.tup fun h' he => by
    have k : s.heap.StaysIn h' := fun b o e => he b o (Nat.ne_of_lt (Heap.lt_size e)) e
    have := h h' (Z.grow k) k
    simpa using this
  simpa using this
theorem unpack_t {elts : List PySem.Expr} {x1 : Nat} {pos : Pos} {t : Addr} {Q : Unit → Shared → Prop} (hh : autoParam (A.handled = none) Ln.a_hd) (Z : autoParam (At w g cs env m r s.heap) Ln.a_at) (ht : autoParam (isT s.heap t vs) Ln.a_see)
    (hn : autoParam ((assignEach elts env).length = vs.length) Ln.a_rf) (hstar : autoParam ((assignEach elts env).findIdx? (·.1) = none) Ln.a_rf)
    (h : ∀ h', At w g cs env m r h' → s.heap.StaysIn h' → wpAny (model prg w) A (assignInOrder ((assignEach elts env).map (·.2)) vs) Q E { s with heap := h' }) :
    wpAny (model prg w) A (assign (.Tuple elts x1 pos) env (.ref t)) Q E s :=
  assign_Tuple_tuple hh ht.tup (by simpa using hn) hstar fun h' he => by
    have k : s.heap.StaysIn h' := fun b o e => he b o (Nat.ne_of_lt (Heap.lt_size e)) e
    have := h h' (Z.grow k) k
    simpa using this
end
end Pf
end
section
open PySem PySem.W PySem.Calls PyProof.Rows
set_option Elab.async false
set_option compiler.extract_closed false
set_option maxRecDepth 100000
namespace Pf
/-! ## iterators -/
structure Wk (w : World) (I : Addr) (fp : List Addr) (n : Nat) (P : Nat → Value → Prop) (St : Nat → Heap → Prop) : Prop where
  walks : ∀ A : Around, A.handled = none → Walks prg w A I fp [I] n P St
  go : ∀ (A : Around) (target : PySem.Expr) (i : Nat) (v : Value) (s : Shared) (Q : Unit → Shared → Prop) (E : Value → Shared → Prop), St i s.heap → Q () s → wpAny (model prg w) A (letOwnedTupleGo target (.ref I) v) Q E s
  live : ∀ (i : Nat) (h : Heap), St i h → ∃ o, h.get? I = some o

noncomputable def owners : List String := ["enumerate", "zip", "dict_itemiterator", "dict_reverseitemiterator", "odict_iterator", "itertools.zip_longest", "itertools.pairwise"]
theorem letGo {w : World} {A : Around} {target : PySem.Expr} {I : Addr} {v : Value} {s : Shared} {Q : Unit → Shared → Prop} {E : Value → Shared → Prop} {o : Obj} {T : String} (ho : s.heap.get? I = some o) (hc : o.cls = .type T) (hT : owners.contains T = false) (h : Q () s) :
    wpAny (model prg w) A (letOwnedTupleGo target (.ref I) v) Q E s := by
  have core : ∀ a : Addr, wpAny (model prg w) A (do
      let o ← load I
      match o.cls, o.data with
      | .type n, .fields vs =>
        if owners.contains n && vs[0]? == some (rawInt a) then
          rule "for.unpacks-the-owned-tuple"
          updateField I 0 .none
      | _, _ => pure () : Sem Unit) Q E s := by
    intro a
    refine wpAny_bind (wpAny_load ho ?_)
    rw [hc]
    cases o.data <;> first | exact wpAny_pure h | skip
    dsimp only
    rw [if_neg (by rw [hT, Bool.false_and]; decide)]
    exact wpAny_pure h
  unfold letOwnedTupleGo
  split <;> first | exact wpAny_pure h | skip
  all_goals (cases v <;> first | exact wpAny_pure h | exact core _)

theorem Wk.list {w : World} (I ax : Addr) (hne : ax ≠ I) (vs : List Value) : Wk w I [I, ax] vs.length (fun i v => vs[i]? = some v) (fun i h => h.IsListIter I ax i ∧ h.IsList ax vs.toArray) where
  walks := fun A hh => by simpa using Walks.list (prog := prg) (w := w) (A := A) hh I ax hne vs.toArray
  go := fun A target i v s Q E st h => let ⟨o, ho, hc, _⟩ := st.1; letGo ho hc (by decide) h
  live := fun i h st => let ⟨o, ho, _⟩ := st.1; ⟨o, ho⟩
theorem Wk.tuple {w : World} (I ax : Addr) (hne : ax ≠ I) (vs : List Value) : Wk w I [I, ax] vs.length (fun i v => vs[i]? = some v) (fun i h => h.IsTupleIter I ax i ∧ h.IsTuple ax vs.toArray) where
  walks := fun A hh => by simpa using Walks.tuple (prog := prg) (w := w) (A := A) hh I ax hne vs.toArray
  go := fun A target i v s Q E st h => let ⟨o, ho, hc, _⟩ := st.1; letGo ho hc (by decide) h
  live := fun i h st => let ⟨o, ho, _⟩ := st.1; ⟨o, ho⟩
theorem Wk.range {w : World} (I : Addr) (a : Int) (n : Nat) : Wk w I [I] n (fun i v => ∃ t, v = .int (a + (i : Int)) t) (fun i h => IsRangeIter h I (a + (i : Nat) * 1) ((n : Int) - (i : Nat)) 1) where
  walks := fun A hh => LCg.range_walks (prog := prg) (w := w) (A := A) hh a n
  go := fun A target i v s Q E st h => letGo st rfl (by decide) h
  live := fun i h st => ⟨_, st⟩

section
variable {w : World} {g g' : Heap} {cs : List Addr} {env : Env} {m : Str → Option Value} {r h h' : Heap} {a : Addr} {o o' : Obj}
/-- all of h that the frame does not turn and r does not hold -/
noncomputable def over (h r : Heap) (L : Addr) (cs : List Addr) : Heap := mkHeap h.objs.size fun a => if (r.get? a).isSome || a == L || cs.contains a then none else h.get? a
theorem get_over (h r : Heap) (L : Addr) (cs : List Addr) (a : Addr) : (over h r L cs).get? a = if (r.get? a).isSome || a == L || cs.contains a then none else h.get? a := by
  refine get_mk (fun a o e => ?_) a
  split at e
  · cases e
  · exact ⟨Heap.lt_size e, (Heap.get?_some_iff.mp e).2⟩
theorem over_some {L : Addr} (e : h.get? a = some o) (hr : r.get? a = none) (hL : a ≠ L) (hc : a ∉ cs) : (over h r L cs).get? a = some o := by
  rw [get_over, if_neg, e]
  simp [hr, hL, hc]
theorem over_stays {L : Addr} : (over h r L cs).StaysIn h := fun b o e => by
  rw [get_over] at e
  split at e
  · cases e
  · exact e
theorem over_none {L : Addr} (q : (∃ o, r.get? a = some o) ∨ a = L ∨ a ∈ cs) : (over h r L cs).get? a = none := by
  rw [get_over, if_pos]
  rcases q with ⟨o, q⟩ | q | q
  · simp [q]
  · simp [q]
  · simp [q]
theorem At.over_base (Z : At w g cs env m r h) : g.StaysIn (over h r env.locals cs) := fun b o e =>
  over_some (Z.base b o e) (Z.rg.right e) (by rintro rfl; rw [Z.loc.2] at e; cases e) (fun hc => by rw [(Z.csr b hc).2.1] at e; cases e)
theorem At.rebase (Z : At w g cs env m r h) : At w (over h r env.locals cs) cs env m r h :=
  ⟨over_stays, Z.own, Z.ns, fun x c e => ⟨(Z.cell x c e).1, (Z.cell x c e).2.elim .inl fun ⟨o, q⟩ => .inr ⟨o, Z.over_base c o q⟩⟩, fun c hc => ⟨(Z.csr c hc).1, over_none (.inr (.inr hc)), (Z.csr c hc).2.2⟩,
    ⟨Z.loc.1, over_none (.inr (.inl rfl))⟩, fun b o e => over_none (.inl ⟨o, e⟩), Z.ap, Z.kc⟩
theorem At.weaken {m₀ : Str → Option Value} {r₀ h₀ : Heap} (Z₀ : At w g cs env m₀ r₀ h₀) (k : g.StaysIn g') (Z : At w g' cs env m r h) : At w g cs env m r h :=
  ⟨StaysIn.trans k Z.base, Z.own, Z.ns, fun x c e => ⟨(Z.cell x c e).1, (Z₀.cell x c e).2⟩, fun c hc => ⟨(Z.csr c hc).1, (Z₀.csr c hc).2.1, (Z.csr c hc).2.2⟩, ⟨Z.loc.1, Z₀.loc.2⟩, Z.rg.mono k, Z.ap, Z.kc⟩
theorem At.but (Z : At w g cs env m r h) (k : ∀ b o, b ≠ a → h.get? b = some o → h'.get? b = some o) (hr : r.get? a = none) (hg : g.get? a = none) (hL : a ≠ env.locals) (hc : a ∉ cs) : At w g cs env m r h' := by
  obtain ⟨mL, ⟨oL, es, ep, q, x⟩, y⟩ := Z.ns
  refine ⟨fun b o e => k b o (by rintro rfl; rw [hg] at e; cases e) (Z.base b o e), fun b o e => k b o (by rintro rfl; rw [hr] at e; cases e) (Z.own b o e), ⟨mL, ⟨oL, es, ep, k _ _ (Ne.symm hL) q, x⟩, y⟩, fun x c e => ?_, Z.csr, Z.loc, Z.rg, Z.ap, Z.kc⟩
  obtain ⟨⟨oc, q1, q2⟩, q3⟩ := Z.cell x c e
  refine ⟨⟨oc, k _ _ ?_ q1, q2⟩, q3⟩
  rintro rfl
  rcases q3 with z | ⟨o2, z⟩
  · exact hc z
  · rw [hg] at z; cases z
end

/-- a turn of a loop ends: it goes on, or gives back -/
noncomputable def TurnEnd (w : World) (g : Heap) (cs : List Addr) (env : Env) (J : (Str → Option Value) → Heap → Prop) (Kr : Value → Heap → Prop) (s : Shared) (f : Flow) (s' : Shared) : Prop :=
  (f = .next ∧ ∃ h' tk' m' r', s' = { s with heap := h', toks := tk' } ∧ At w g cs env m' r' h' ∧ J m' r') ∨ (∃ v, f = .ret v ∧ ∃ h' tk' m' r', s' = { s with heap := h', toks := tk' } ∧ At w g cs env m' r' h' ∧ Kr v r')
theorem TurnEnd.on {w : World} {g : Heap} {cs : List Addr} {env : Env} {J : (Str → Option Value) → Heap → Prop} {Kr : Value → Heap → Prop} {s : Shared} {h' : Heap} {tk' : Tok} {m' : Str → Option Value} {r' : Heap} (Z : At w g cs env m' r' h') (j : J m' r') : TurnEnd w g cs env J Kr s .next { s with heap := h', toks := tk' } :=
  .inl ⟨rfl, h', tk', m', r', rfl, Z, j⟩
theorem TurnEnd.ret {w : World} {g : Heap} {cs : List Addr} {env : Env} {J : (Str → Option Value) → Heap → Prop} {Kr : Value → Heap → Prop} {s : Shared} {v : Value} {h' : Heap} {tk' : Tok} {m' : Str → Option Value} {r' : Heap} (Z : At w g cs env m' r' h') (j : Kr v r') : TurnEnd w g cs env J Kr s (.ret v) { s with heap := h', toks := tk' } :=
  .inr ⟨v, rfl, h', tk', m', r', rfl, Z, j⟩

theorem TurnEnd.kon {w : World} {g : Heap} {cs : List Addr} {env : Env} {J : (Str → Option Value) → Heap → Prop} {Kr : Value → Heap → Prop} {s : Shared} {QT : Flow → Shared → Prop} (kt : ∀ fl s', TurnEnd w g cs env J Kr s fl s' → QT fl s') {h' : Heap} {tk' : Tok} {m' : Str → Option Value} {r' : Heap} (Z : At w g cs env m' r' h') (j : J m' r') : QT .next { s with heap := h', toks := tk' } :=
  kt _ _ (.on Z j)
theorem TurnEnd.kret {w : World} {g : Heap} {cs : List Addr} {env : Env} {J : (Str → Option Value) → Heap → Prop} {Kr : Value → Heap → Prop} {s : Shared} {QT : Flow → Shared → Prop} (kt : ∀ fl s', TurnEnd w g cs env J Kr s fl s' → QT fl s') {v : Value} {h' : Heap} {tk' : Tok} {m' : Str → Option Value} {r' : Heap} (Z : At w g cs env m' r' h') (j : Kr v r') : QT (.ret v) { s with heap := h', toks := tk' } :=
  kt _ _ (.ret Z j)

inductive ForAt (w : World) (A : Around) (g : Heap) (cs : List Addr) (env : Env) (target : PySem.Expr) (B : Sem Flow) (Q : Flow → Shared → Prop) (it : Value) (s : Shared) : Prop
  | mk (I : Addr) (fp : List Addr) (n : Nat) (P : Nat → Value → Prop) (St : Nat → Heap → Prop) (m : Str → Option Value) (r : Heap) (J : Nat → (Str → Option Value) → Heap → Prop) (Kr : Value → Heap → Prop)
    (h1 : it = .ref I)
    (h2 : Wk w I fp n P St)
    (h3 : St 0 s.heap)
    (h4 : At w g cs env m r s.heap)
    (h5 : (r.get? I = none ∧ g.get? I = none ∧ I ≠ env.locals ∧ I ∉ cs))
    (h6 : (∀ b ∈ fp, b ≠ env.locals ∧ b ∉ cs ∧ ∃ o, s.heap.get? b = some o))
    (h7 : (∀ i m' r', J i m' r' → ∀ b ∈ fp, ∀ o, r.get? b = some o → r'.get? b = some o))
    (h8 : J 0 m r)
    (h9 : (∀ i v m₁ r₁ h tk gB, i < n → P i v → J i m₁ r₁ → g.StaysIn gB → At w gB cs env m₁ r₁ h →
      wpAny (model prg w) A (assign target env v) (fun _ s' => wpAny (model prg w) A B (TurnEnd w gB cs env (J (i + 1)) Kr s) never s') never { s with heap := h, toks := tk }))
    (h10 : (∀ m' r' h tk, J n m' r' → At w g cs env m' r' h → Q .next { s with heap := h, toks := tk }))
    (h11 : (∀ v m' r' h tk, Kr v r' → At w g cs env m' r' h → Q (.ret v) { s with heap := h, toks := tk })) : ForAt w A g cs env target B Q it s

theorem for_ {w : World} {A : Around} {g : Heap} {cs : List Addr} {env : Env} {target iter : PySem.Expr} {body : List Stmt} {pos : Pos} {Q : Flow → Shared → Prop} {s : Shared} (hA : A.handled = none)
    (h : wpAny (model prg w) A (eval iter env) (fun xv s₁ => wpAny (model prg w) A (pyIter xv) (fun it s₂ => ForAt w A g cs env target (execs body env) Q it s₂) never s₁) never s)
    (hs : ∀ x, foldedSetIterable iter env x = pure x) : wpAny (model prg w) A (exec (.For target iter body [] pos) env) Q never s := by
  revert hA h hs
  revert w A g cs env target iter body pos Q s
  refine no_implicit_lambda% (lift11 (i1 := Pf.nW) (i2 := Pf.nA) (i11 := Pf.nS) ?_); refine (?x1 : ∀ a0 a1 a2 a3 a4 a5 a6 a7 a8 a9 a10, Ap11 _ a0 a1 a2 a3 a4 a5 a6 a7 a8 a9 a10) _ _ _ _ _ _ _ _ _ _ _; intro w A g cs env target iter body pos Q s; refine Ap11.mk ?_
  intro hA h hs
  refine wpAny_For (wpAny_mono h (fun xv s₁ h₁ => wpAny_mono h₁ (fun it s₂ h₂ => ?_) fun _ _ e => e) fun _ _ e => e) hs
  obtain ⟨I, fp, n, P, St, m, r, J, Kr, rfl, W, st0, Z, ⟨hI1, hI2, hI3, hI4⟩, hfp, hsrc, hJ0, turn, done, done2⟩ := h₂
  have WA := W.walks A hA
  have toE : ∀ {α : Type} {t : Sem α} {Q : α → Shared → Prop} {s : Shared} {E : Value → Shared → Prop}, wpAny (model prg w) A t Q never s → wpAny (model prg w) A t Q E s := fun h => wpAny_mono h (fun _ _ x => x) fun _ _ x => x.elim
  refine codeAny_forLoop_any (fun k s' => ∃ h' tk m' r' i, s' = { s₂ with heap := h', toks := tk } ∧ St i h' ∧ At w g cs env m' r' h' ∧ J i m' r' ∧ i ≤ n ∧ k = n + 1 - i ∧
      (∀ b ∈ fp, (∃ o, h'.get? b = some o) ∧ (r.get? b = none → r'.get? b = none))) ?_ (n + 1) ⟨s₂.heap, s₂.toks, m, r, 0, rfl, st0, Z, hJ0, Nat.zero_le _, rfl, fun b hb => ⟨(hfp b hb).2.2, id⟩⟩
  rintro k s' ⟨h', tk, m', r', i, rfl, hst, Z', hJ, hi, rfl, hK⟩
  have hIfp : I ∈ fp := WA.sub I (by simp)
  have hI1' : r'.get? I = none := (hK I hIfp).2 hI1
  by_cases hlt : i < n
  · refine WA.item i _ _ _ hlt hst fun v h₁ tk₁ hP hst₁ hk₁ => ?_
    have Z₁ : At w g cs env m' r' h₁ := Z'.but (fun b o hb e => hk₁ b o (by simpa using hb) e) hI1' hI2 hI3 hI4
    refine W.go A target (i + 1) v _ _ _ hst₁ (toE (wpAny_mono (turn i v m' r' h₁ tk₁ _ hlt hP hJ Z₁.over_base Z₁.rebase) (fun _ s₃ h₃ => toE (wpAny_mono h₃ (fun f s₄ h₄ => ?_) fun _ _ e => e)) fun _ _ e => e))
    obtain ⟨rfl, h₂', tk₂, m₂, r₂, rfl, Z₂, hJ₂⟩ | ⟨v', rfl, h₂', tk₂, m₂, r₂, rfl, Z₂, hJ₂⟩ := h₄
    case inr => exact done2 v' m₂ r₂ h₂' tk₂ hJ₂ (Z.weaken Z₁.over_base Z₂)
    have keepfp : ∀ b ∈ fp, ∀ o, h₁.get? b = some o → h₂'.get? b = some o := fun b hb o e => by
      cases q : r'.get? b with
      | none => exact Z₂.base b o (over_some e q (hfp b hb).1 (hfp b hb).2.1)
      | some o' =>
        have e' := Z₁.own b o' q
        rw [e] at e'; cases e'
        cases q2 : r.get? b with
        | none => rw [(hK b hb).2 q2] at q; cases q
        | some o2 =>
          have q3 := hsrc i m' r' hJ b hb o2 q2
          rw [q] at q3; cases q3
          exact Z₂.own b o (hsrc (i + 1) m₂ r₂ hJ₂ b hb o q2)
    refine ⟨n + 1 - (i + 1), by lia, h₂', tk₂, m₂, r₂, i + 1, rfl, WA.frame _ _ _ hst₁ keepfp, Z.weaken Z₁.over_base Z₂, hJ₂, hlt, rfl, fun b hb => ?_⟩
    obtain ⟨o, hl⟩ : ∃ o, h₁.get? b = some o := by
      by_cases q : b = I
      · subst q; exact W.live _ _ hst₁
      · obtain ⟨o, e⟩ := (hK b hb).1
        exact ⟨o, hk₁ b o (by simpa using q) e⟩
    refine ⟨⟨o, keepfp b hb o hl⟩, fun q => ?_⟩
    have q1 := (hK b hb).2 q
    exact Z₂.rg.right (over_some hl q1 (hfp b hb).1 (hfp b hb).2.1)
  · have hin : i = n := by lia
    subst hin
    refine WA.done _ _ _ hst fun h₁ tk₁ hk₁ => wpAny_execs_nil ?_
    exact done m' r' h₁ tk₁ hJ (Z'.but (fun b o hb e => hk₁ b o (by simpa using hb) e) hI1' hI2 hI3 hI4)

noncomputable def WhileEnd (w : World) (g : Heap) (cs : List Addr) (env : Env) (J : Nat → (Str → Option Value) → Heap → Prop) (n : Nat) (Q : Flow → Shared → Prop) (s : Shared) (f : Flow) (s' : Shared) : Prop :=
  (f = .next ∧ ∃ k h' tk' m' r', k < n ∧ s' = { s with heap := h', toks := tk' } ∧ At w g cs env m' r' h' ∧ J k m' r') ∨ (∃ v, f = .ret v ∧ Q (.ret v) s')
theorem WhileEnd.on {w : World} {g : Heap} {cs : List Addr} {env : Env} {J : Nat → (Str → Option Value) → Heap → Prop} {n k : Nat} {Q : Flow → Shared → Prop} {s : Shared} {h' : Heap} {tk' : Tok} {m' : Str → Option Value} {r' : Heap} (hk : k < n) (Z : At w g cs env m' r' h') (j : J k m' r') :
    WhileEnd w g cs env J n Q s .next { s with heap := h', toks := tk' } := .inl ⟨rfl, k, h', tk', m', r', hk, rfl, Z, j⟩
theorem WhileEnd.kon {w : World} {g : Heap} {cs : List Addr} {env : Env} {J : Nat → (Str → Option Value) → Heap → Prop} {n : Nat} {Q QT : Flow → Shared → Prop} {s : Shared} (kt : ∀ fl s', WhileEnd w g cs env J n Q s fl s' → QT fl s') {k : Nat} {h' : Heap} {tk' : Tok} {m' : Str → Option Value} {r' : Heap} (hk : k < n) (Z : At w g cs env m' r' h') (j : J k m' r') : QT .next { s with heap := h', toks := tk' } := kt _ _ (.on hk Z j)
theorem WhileEnd.kret {w : World} {g : Heap} {cs : List Addr} {env : Env} {J : Nat → (Str → Option Value) → Heap → Prop} {n : Nat} {Q QT : Flow → Shared → Prop} {s s' : Shared} (kt : ∀ fl s', WhileEnd w g cs env J n Q s fl s' → QT fl s') {v : Value} (q : Q (.ret v) s') : QT (.ret v) s' := kt _ _ (.inr ⟨v, rfl, q⟩)
noncomputable def Prmwhile__turn (w : World) (A : Around) (g : Heap) (cs : List Addr) (env : Env) (test : PySem.Expr) (body : List Stmt) (Q : Flow → Shared → Prop) (s : Shared) (J : Nat → (Str → Option Value) → Heap → Prop) (n : Nat) (m₁ : Str → Option Value) (r₁ : Heap) (h : Heap) (tk : Tok) (QT : Flow → Shared → Prop) : Prop :=
  (∀ fl s', WhileEnd w g cs env J n Q s fl s' → QT fl s') → J n m₁ r₁ → At w g cs env m₁ r₁ h → wpAny (model prg w) A (isTrue test env (eval test env)) (fun b s₂ =>
      if b = true then wpAny (model prg w) A (execs body env) QT never s₂ else Q .next s₂) never { s with heap := h, toks := tk }
theorem while_ {w : World} {A : Around} {g : Heap} {cs : List Addr} {env : Env} {test : PySem.Expr} {body : List Stmt} {pos : Pos} {Q : Flow → Shared → Prop} {s : Shared} {m : Str → Option Value} {r : Heap} (Z : At w g cs env m r s.heap)
    (J : Nat → (Str → Option Value) → Heap → Prop) (n : Nat) (j0 : J n m r)
    (turn : ∀ n m₁ r₁ h tk QT, Prmwhile__turn w A g cs env test body Q s J n m₁ r₁ h tk QT) :
    wpAny (model prg w) A (exec (.While test body [] pos) env) Q never s := by
  have toE : ∀ {α : Type} {t : Sem α} {Q : α → Shared → Prop} {s : Shared} {E : Value → Shared → Prop}, wpAny (model prg w) A t Q never s → wpAny (model prg w) A t Q E s := fun h => wpAny_mono h (fun _ _ x => x) fun _ _ x => x.elim
  refine wpAny_While (codeAny_whileLoop (fun n s' => ∃ h' tk m' r', s' = { s with heap := h', toks := tk } ∧ At w g cs env m' r' h' ∧ J n m' r') ?_ n ⟨s.heap, s.toks, m, r, rfl, Z, j0⟩)
  rintro k s' ⟨h', tk, m', r', rfl, Z', hJ⟩
  refine toE (wpAny_mono (turn k m' r' h' tk _ (fun _ _ q => q) hJ Z') (fun b s₂ h₂ => ?_) fun _ _ e => e)
  cases b with
  | false => exact wpAny_execs_nil h₂
  | true =>
    refine toE (wpAny_mono h₂ (fun f s₃ h₃ => ?_) fun _ _ e => e)
    rcases h₃ with ⟨rfl, k', h'', tk'', m'', r'', hk, rfl, Z'', j⟩ | ⟨v, rfl, q⟩
    · exact ⟨k', hk, h'', tk'', m'', r'', rfl, Z'', j⟩
    · exact q
end Pf
end
section
open PySem PySem.W PySem.Calls PyProof.Rows
set_option Elab.async false
set_option compiler.extract_closed false
set_option maxRecDepth 100000
namespace Pf
/-! ## comprehensions -/
noncomputable def clos (env : Env) : List (Str × NameKind) → List (Str × Addr) → Option (List (Str × Addr))
  | [], acc => some acc
  | (n, k) :: r, acc => if k = .free then (env.cells.lookup n).bind fun a => clos env r ((n, a) :: acc) else clos env r acc
theorem clos_go {env : Env} : ∀ {names : List (Str × NameKind)} {acc cl : List (Str × Addr)}, clos env names acc = some cl →
    (forIn names acc fun (x : Str × NameKind) (cs : List (Str × Addr)) => if (x.2 == .free) = true then (do let a ← cellOf env x.1; pure (ForInStep.yield ((x.1, a) :: cs)) : Sem _) else pure (ForInStep.yield cs)) = pure cl
  | [], acc, cl, h => by cases h; rfl
  | (n, k) :: r, acc, cl, h => by
    unfold clos at h
    rw [List.forIn_cons]
    by_cases hk : k = .free
    · subst hk
      rw [if_pos rfl] at h
      obtain ⟨a, ha, h⟩ := Option.bind_eq_some_iff.mp h
      have e : cellOf env n = pure a := by unfold cellOf; rw [ha]
      simp only [beq_self_eq_true, if_true, e]
      exact clos_go h
    · rw [if_neg hk] at h
      have hk' : (k == .free) = false := by simpa using hk
      simp only [hk', Bool.false_eq_true, if_false]
      exact clos_go h
theorem clos_eq {env : Env} {scope : Scope} {cl : List (Str × Addr)} (h : clos env scope.names [] = some cl) : closureFor scope env = pure cl := by
  unfold closureFor
  have := clos_go h
  exact congrArg (fun t => t >>= fun cs => pure cs) this
theorem clos_in {env : Env} : ∀ {names : List (Str × NameKind)} {acc cl : List (Str × Addr)}, clos env names acc = some cl → ∀ x c, (x, c) ∈ cl → (x, c) ∈ acc ∨ (env.cells.lookup x = some c ∧ (x, NameKind.free) ∈ names)
  | [], acc, cl, h, x, c, hm => by cases h; exact .inl hm
  | (n, k) :: r, acc, cl, h, x, c, hm => by
    unfold clos at h
    by_cases hk : k = .free
    · subst hk
      rw [if_pos rfl] at h
      obtain ⟨a, ha, h⟩ := Option.bind_eq_some_iff.mp h
      rcases clos_in h x c hm with q | q
      · rcases List.mem_cons.mp q with q | q
        · cases q; exact .inr ⟨ha, .head _⟩
        · exact .inl q
      · exact .inr ⟨q.1, .tail _ q.2⟩
    · rw [if_neg hk] at h
      rcases clos_in h x c hm with q | q
      · exact .inl q
      · exact .inr ⟨q.1, .tail _ q.2⟩
noncomputable def okFree (scope : Scope) : Bool := scope.names.all fun x => x.2 != .free || scope.names.lookup x.1 == some .free
theorem relabel_free {env : Env} : ∀ {names : List (Str × NameKind)} {x : Str}, names.lookup x = some .free →
    (names.map fun (n, k) => if (k == NameKind.free && env.scope.kind == .function && env.kindOf n == some .cell) then (n, NameKind.cell) else (n, k)).lookup x ≠ some .local
  | [], _, h => by simp at h
  | (n, k) :: r, x, h => by
    have ih := @relabel_free env r x
    show List.lookup x ((if (k == NameKind.free && env.scope.kind == .function && env.kindOf n == some .cell) = true then (n, NameKind.cell) else (n, k)) :: _) ≠ _
    cases hx : x == n with
    | true =>
      simp only [List.lookup_cons, hx] at h
      cases h
      split <;> (simp only [List.lookup_cons, hx]; simp)
    | false =>
      simp only [List.lookup_cons, hx] at h
      split <;> (simp only [List.lookup_cons, hx]; exact ih h)

section
variable {w : World} {g : Heap} {cs : List Addr} {env : Env} {m : Str → Option Value} {r r' h h' : Heap}
/-- all that a piece of the way leaves alone -/
theorem At.carry (Z : At w g cs env m r h) (ex : Addr → Prop) (hex : ∀ b, ex b → g.get? b = none ∧ b ≠ env.locals ∧ b ∉ cs) (k : ∀ b o, ¬ ex b → r.get? b = none → h.get? b = some o → h'.get? b = some o ∧ r'.get? b = none)
    (own : r'.StaysIn h') : At w g cs env m r' h' := by
  obtain ⟨mL, ⟨oL, es, ep, q, x⟩, y⟩ := Z.ns
  have kg : ∀ b o, g.get? b = some o → h'.get? b = some o ∧ r'.get? b = none := fun b o e => k b o (fun z => by rw [(hex b z).1] at e; cases e) (Z.rg.right e) (Z.base b o e)
  have kL := k _ _ (fun z => (hex _ z).2.1 rfl) Z.loc.1 q
  refine ⟨fun b o e => (kg b o e).1, own, ⟨mL, ⟨oL, es, ep, kL.1, x⟩, y⟩, fun x c e => ?_, fun c hc => ?_, ⟨kL.2, Z.loc.2⟩, fun b o e => ?_, Z.ap, Z.kc⟩
  · obtain ⟨⟨oc, q1, q2⟩, q3⟩ := Z.cell x c e
    refine ⟨⟨oc, ?_, q2⟩, q3⟩
    rcases q3 with z | ⟨o2, z⟩
    · exact (k _ _ (fun y => (hex _ y).2.2 z) (Z.csr c z).1 q1).1
    · have := Z.base c o2 z
      rw [q1] at this; cases this
      exact (kg c oc z).1
  · obtain ⟨c1, c2, c3, x, hx⟩ := Z.csr c hc
    obtain ⟨⟨oc, q1, _⟩, _⟩ := Z.cell x c hx
    exact ⟨(k _ _ (fun y => (hex _ y).2.2 hc) c1 q1).2, c2, c3, x, hx⟩
  · cases q : g.get? b with
    | none => rfl
    | some o' => rw [(kg b o' q).2] at e; cases e
end

theorem compLoop_any {w : World} {A : Around} {R : Result → Shared → Prop} {s : Shared} {elt target iter : PySem.Expr} {scope : Scope} {pos : Pos} {it acc : Value} {env : Env} (I : Nat → Shared → Prop)
    (turn : ∀ n s, I n s → wpAny (model prg w) A (pyNext it) (fun r s₁ => match r with
      | none => R (.ok .next) s₁
      | some v => wpAny (model prg w) A (letOwnedTupleGo target it v) (fun _ s₂' => wpAny (model prg w) A (assign target env v) (fun _ s₂ => wpAny (model prg w) A (eval elt env) (fun x s₃ =>
          wpAny (model prg w) A (call (.builtin "list.append") [acc, x]) (fun _ s₄ => ∃ m, m < n ∧ I m s₄) (notedBy (model prg w) A env fun e s' => R (.error e) s') s₃)
          (notedBy (model prg w) A env fun e s' => R (.error e) s') s₂) (notedBy (model prg w) A env fun e s' => R (.error e) s') s₂') (notedBy (model prg w) A env fun e s' => R (.error e) s') s₁) (notedBy (model prg w) A env fun e s' => R (.error e) s') s)
    (n : Nat) (h : I n s) : codeAny (model prg w) A (.compLoop (.ListComp elt [⟨target, iter, [], 0⟩] scope pos) 0 it acc env) R s := by
  refine codeAny_loop rfl I (fun n s hI => ?_) n h
  show wpAny _ _ ((compTurn (.ListComp elt [⟨target, iter, [], 0⟩] scope pos) 0 it acc env).onRaise (fun x => do noteFrame x env; theTreesLotGoes x)) _ _ s
  refine wpAny_noted ?_
  rw [compTurn_list1]
  refine wpAny_bind (wpAny_standAt (wpAny_bind (wpAny_mono (turn n s hI) (fun r s₁ h₁ => ?_) fun _ _ h' => h')))
  cases r with
  | none => exact wpAny_pure h₁
  | some v =>
    exact wpAny_bind (wpAny_mono h₁ (fun _ s₂' h₁' => wpAny_bind (wpAny_mono h₁' (fun _ s₂ h₂ => wpAny_bind (wpAny_bind (wpAny_mono h₂ (fun x s₃ h₃ => wpAny_bind (wpAny_mono h₃
      (fun _ s₄ h₄ => wpAny_pure (wpAny_pure ⟨rfl, h₄⟩)) fun _ _ h' => h')) fun _ _ h' => h'))) fun _ _ h' => h')) fun _ _ h' => h')

abbrev cenvOf (scope : Scope) (cl : List (Str × Addr)) (C : Addr) (env : Env) : Env := compEnvC scope cl C env

/-- what the names hold when it is done: of use, the list goes to a name at once -/
noncomputable def useM (use : Option Str) (m : Str → Option Value) (D : Addr) : Str → Option Value := match use with
  | none => m
  | some y => upd m y (.ref D)
noncomputable def useS (env : Env) (py : Pos) (use : Option Str) : Option (Value → Sem Unit) := use.map fun y => assign (.Name y py) env
/-- an element stands -/
noncomputable def ElemEnd (w : World) (g : Heap) (env : Env) (J : Heap → Value → Prop) (s : Shared) (y : Value) (s'' : Shared) : Prop := ∃ h' tk' m' r', s'' = { s with heap := h', toks := tk' } ∧ At w g [] env m' r' h' ∧ J r' y
theorem ElemEnd.mk {w : World} {g : Heap} {env : Env} {J : Heap → Value → Prop} {s : Shared} {y : Value} {h' : Heap} {tk' : Tok} {m' : Str → Option Value} {r' : Heap} (Z : At w g [] env m' r' h') (j : J r' y) : ElemEnd w g env J s y { s with heap := h', toks := tk' } := ⟨h', tk', m', r', rfl, Z, j⟩
inductive CompAt (w : World) (A : Around) (g : Heap) (cs : List Addr) (env : Env) (base : Heap) (scope : Scope) (cl : List (Str × Addr)) (target elt : PySem.Expr) (use : Option Str) (Q : Value → Shared → Prop) (it : Value) (s : Shared) : Prop
  | mk (I : Addr) (fp : List Addr) (n : Nat) (P : Nat → Value → Prop) (St : Nat → Heap → Prop) (m : Str → Option Value) (r : Heap) (J : Nat → Heap → List Value → Prop)
    (h1 : it = .ref I)
    (h2 : Wk w I fp n P St)
    (h3 : St 0 s.heap)
    (h4 : At w g cs env m r s.heap)
    (h5 : (r.get? I = none ∧ g.get? I = none ∧ I ≠ env.locals ∧ I ∉ cs))
    (h6 : (∀ b ∈ fp, ∃ o, s.heap.get? b = some o))
    (h7 : (∀ i r' ys, J i r' ys → ∀ b ∈ fp, ∀ o, r.get? b = some o → r'.get? b = some o))
    (h8 : J 0 r [])
    (h9 : n ≤ sizeLine)
    (h10 : (∀ i v r₁ ys h tk gB C mC, i < n → P i v → J i r₁ ys → g.StaysIn gB → At w gB [] (cenvOf scope cl C env) mC r₁ h → (∀ x c, cl.lookup x = some c → mC x = m x) → Up w gB (cenvOf scope cl C env) A base →
      wpAny (model prg w) A (assign target (cenvOf scope cl C env) v) (fun _ s' => wpAny (model prg w) A (eval elt (cenvOf scope cl C env)) (ElemEnd w gB (cenvOf scope cl C env) (fun r' y => J (i + 1) r' (ys ++ [y])) s) never s') never { s with heap := h, toks := tk }))
    (h11 : (∀ D k ys r' h tk, J n r' ys → ys.length = n → s.heap.get? D = none → r'.get? D = none → At w g cs env (useM use m D) (put r' D (listO ys k)) h → Q (.ref D) { s with heap := h, toks := tk })) : CompAt w A g cs env base scope cl target elt use Q it s

theorem comp_core {w : World} {A : Around} {g : Heap} {cs : List Addr} {env : Env} {base : Heap} {target elt iter : PySem.Expr} {scope : Scope} {cl : List (Str × Addr)} {pos pos2 py : Pos} {use : Option Str} {Q : Value → Shared → Prop} {s : Shared}
    (U : Up w g env A base) (hclos : clos env scope.names [] = some cl) (hfree : okFree scope = true) (hcell : ∀ y ∈ scope.names, y.2 ≠ .cell) (hkind : scope.kind = .function)
    (hnames : ∀ y ∈ scope.names, y.2 = .local → scope.names.lookup y.1 = some .local) (huse : ∀ y, use = some y → env.kindOf y = some .local ∧ env.scope.kind = .function ∧ ∀ a b s, Q a s → Q b s)
    (h : wpAny (model prg w) A (eval iter env) (fun xv s₁ => wpAny (model prg w) A (pyIter xv) (fun it s₂ => CompAt w A g cs env base scope cl target elt use Q it s₂) never s₁) never s)
    (hs : ∀ x, foldedSetIterable iter env x = pure x) : wpAny (model prg w) A (comprehension (.ListComp elt [⟨target, iter, [], 0⟩] scope pos) scope env pos2 (newList []) false (eval iter env) (useS env py use)) Q never s := by
  revert U hclos hfree hcell hkind hnames huse h hs
  revert w A g cs env base target elt iter scope cl pos pos2 py use Q s
  refine no_implicit_lambda% (lift17 (i1 := Pf.nW) (i2 := Pf.nA) (i17 := Pf.nS) ?_); refine (?x1 : ∀ a0 a1 a2 a3 a4 a5 a6 a7 a8 a9 a10 a11 a12 a13 a14 a15 a16, Ap17 _ a0 a1 a2 a3 a4 a5 a6 a7 a8 a9 a10 a11 a12 a13 a14 a15 a16) _ _ _ _ _ _ _ _ _ _ _ _ _ _ _ _ _; intro w A g cs env base target elt iter scope cl pos pos2 py use Q s; refine Ap17.mk ?_
  intro U hclos hfree hcell hkind hnames huse h hs
  refine wpAny_comprehension_free rfl hs (clos_eq hclos) hkind hnames (wpAny_mono h (fun xv s₁ h₁ => wpAny_mono h₁ (fun it s₂ h₂ => ?_) fun _ _ e => e) fun _ _ e => e)
  obtain ⟨I, fp, n, P, St, m, r, J, rfl, W, st0, Z, ⟨hI1, hI2, hI3, hI4⟩, hfp, hsrc, hJ0, hsz, turn, done⟩ := h₂
  have WA := W.walks A U.handled
  have toE : ∀ {α : Type} {t : Sem α} {Q : α → Shared → Prop} {s : Shared} {E : Value → Shared → Prop}, wpAny (model prg w) A t Q never s → wpAny (model prg w) A t Q E s := fun h => wpAny_mono h (fun _ _ x => x) fun _ _ x => x.elim
  obtain ⟨mL, ⟨oL, eL, epL, hL, hLd, hLr⟩, hmL⟩ := Z.ns
  have hIs := W.live _ _ st0
  refine wpAny_newObj_type (wpAny_newFunctionEnv hcell (by intro y hy; simp at hy) (fun h₁ hns₁ hsb₁ => ?_) hkind)
  dsimp only at hns₁ hsb₁ ⊢
  generalize hH2 : s₂.heap.push { cls := .type "list", dict := none, data := .seq ([] : List Value).toArray } = H2 at hns₁ hsb₁ ⊢
  have hC : H2.objs.size = s₂.heap.objs.size + 1 := by rw [← hH2, Heap.size_push]
  have fresh : ∀ (z : Heap), z.StaysIn s₂.heap → ∀ a, s₂.heap.objs.size ≤ a → z.get? a = none := fun z hz a ha => by
    cases e : z.get? a with
    | none => rfl
    | some o => exact absurd (Heap.lt_size (hz _ _ e)) (Nat.not_lt.mpr ha)
  have refl2 : s₂.heap.StaysIn s₂.heap := fun _ _ e => e
  have below : ∀ b, b < s₂.heap.objs.size → b ≠ H2.objs.size ∧ b ≠ s₂.heap.objs.size := fun b hb => ⟨by rw [hC]; exact Nat.ne_of_lt (Nat.lt_succ_of_lt hb), Nat.ne_of_lt hb⟩
  have old : ∀ b o, s₂.heap.get? b = some o → h₁.get? b = some o := fun b o e => hsb₁.extBut b o (below b (Heap.lt_size e)).1 (Heap.get?_push_of_some _ (hH2 ▸ Heap.get?_push_of_some _ e))
  have hDC : s₂.heap.objs.size ≠ H2.objs.size := by rw [hC]; exact Nat.ne_of_lt (Nat.lt_succ_self _)
  have hacc : h₁.PlainList s₂.heap.objs.size #[] := ⟨_, hsb₁.extBut _ _ hDC (Heap.get?_push_of_some _ (hH2 ▸ Heap.get?_push_size _ rfl))⟩
  generalize hD : s₂.heap.objs.size = D at hns₁ hsb₁ below hDC hacc fresh ⊢
  generalize hCC : H2.objs.size = C at hns₁ hsb₁ below hDC hacc hC ⊢
  have hfI : I ∈ fp := WA.sub I (by simp)
  -- what stays over the whole loop
  let g₁ : Heap := over s₂.heap r I []
  have hg₁ : ∀ b o, g₁.get? b = some o ↔ (s₂.heap.get? b = some o ∧ r.get? b = none ∧ b ≠ I) := fun b o => by
    show (over s₂.heap r I []).get? b = some o ↔ _
    rw [get_over]
    constructor
    · intro e
      split at e
      · cases e
      · rename_i z
        simp at z
        exact ⟨e, z.1, z.2⟩
    · rintro ⟨e, q1, q2⟩
      rw [if_neg (by simp [q1, q2]), e]
  have gg₁ : g.StaysIn g₁ := fun b o e => (hg₁ b o).mpr ⟨Z.base b o e, Z.rg.right e, by rintro rfl; rw [hI2] at e; cases e⟩
  have hLg : g₁.get? env.locals = some oL := (hg₁ _ _).mpr ⟨hL, Z.loc.1, Ne.symm hI3⟩
  have Up₁ : ∀ (gB : Heap), g₁.StaysIn gB → Up w gB (cenvOf scope cl C env) A base := fun gB hgB => U.sub fun gx hgx =>
    ⟨StaysIn.trans gg₁ (StaysIn.trans hgB hgx), oL, hgx _ _ (hgB _ _ hLg), fun vs q => by rw [hLd] at q; cases q⟩
  have hcl := clos_in hclos
  have clk : ∀ x c, cl.lookup x = some c → env.cells.lookup x = some c ∧ scope.names.lookup x = some .free := fun x c e => by
    rcases hcl x c (mem_of_lookup e) with q | q
    · cases q
    · refine ⟨q.1, ?_⟩
      have := List.all_eq_true.mp hfree _ q.2
      simpa using this
  have st1 : St 0 h₁ := WA.frame _ _ _ st0 fun b hb o e => old b o e
  let m₁ : Str → Option Value := fun x => if (cl.lookup x).isSome then m x else none
  have hm₁ : ∀ x c, cl.lookup x = some c → m₁ x = m x := fun x c e => by show (if (cl.lookup x).isSome then m x else none) = m x; rw [e]; rfl
  have Z₁ : At w g₁ [] (cenvOf scope cl C env) m₁ r h₁ := by
    refine ⟨fun b o e => old b o ((hg₁ b o).mp e).1, fun b o e => old b o (Z.own b o e), ⟨_, hns₁, fun x hx => ?_⟩, fun x c e => ?_, fun c hc => (nomatch hc), ⟨fresh r Z.own C (by rw [hC]; lia), ?_⟩, fun b o e => ?_, fun q => absurd rfl q, fun x c e => ?_⟩
    · show List.lookup x [].reverse = if (cl.lookup x).isSome then m x else none
      cases q : cl.lookup x with
      | none => rfl
      | some c => exact absurd hx (relabel_free (clk x c q).2)
    · obtain ⟨⟨oc, q1, q2⟩, q3⟩ := Z.cell x c (clk x c e).1
      rw [hm₁ x c e]
      refine ⟨⟨oc, old c oc q1, q2⟩, .inr ⟨oc, (hg₁ c oc).mpr ⟨q1, ?_, ?_⟩⟩⟩
      · rcases q3 with z | ⟨o2, z⟩
        · exact (Z.csr c z).1
        · exact Z.rg.right z
      · rintro rfl
        rcases q3 with z | ⟨o2, z⟩
        · exact hI4 z
        · rw [hI2] at z; cases z
    · show g₁.get? C = none
      cases q : g₁.get? C with
      | none => rfl
      | some o => have := fresh s₂.heap refl2 C (by rw [hC]; lia); rw [((hg₁ C o).mp q).1] at this; cases this
    · cases q : g₁.get? b with
      | none => rfl
      | some o2 => rw [((hg₁ b o2).mp q).2.1] at e; cases e
    · exact relabel_free (clk x c e).2
  have hDf : ∀ b ∈ fp, b ≠ D ∧ b ≠ C := fun b hb => by
    obtain ⟨o, e⟩ := hfp b hb
    have := below b (hD ▸ Heap.lt_size e)
    exact ⟨this.2, this.1⟩
  have rD : r.get? D = none := fresh r Z.own D (Nat.le_refl _)
  have gD : ∀ b o, g₁.get? b = some o → b ≠ D ∧ b ≠ C := fun b o e => by
    have := below b (hD ▸ Heap.lt_size ((hg₁ b o).mp e).1)
    exact ⟨this.2, this.1⟩
  have loop : ∀ s₃ : Shared, s₃ = { s₂ with heap := h₁, toks := s₂.toks + ([] : List (Str × Value)).length } →
      codeAny (model prg w) A (.compLoop (.ListComp elt [⟨target, iter, [], 0⟩] scope pos) 0 (.ref I) (.ref D) (cenvOf scope cl C env)) (compPost (model prg w) A never (useS env py use) Q (.ref D) C) s₃ := by
    rintro s₃ rfl
    refine compLoop_any (fun k s' => ∃ h' tk mC r' ys i, s' = { s₂ with heap := h', toks := tk } ∧ St i h' ∧ At w g₁ [] (cenvOf scope cl C env) mC r' h' ∧ (∀ x c, cl.lookup x = some c → mC x = m x) ∧ J i r' ys ∧ ys.length = i ∧ h'.PlainList D ys.toArray ∧ r'.get? D = none ∧ i ≤ n ∧ k = n + 1 - i ∧
      (∀ b ∈ fp, (∃ o, h'.get? b = some o) ∧ (r.get? b = none → r'.get? b = none))) ?_ (n + 1)
      ⟨h₁, _, m₁, r, [], 0, rfl, st1, Z₁, hm₁, hJ0, rfl, hacc, rD, Nat.zero_le _, rfl, fun b hb => ⟨let ⟨o, e⟩ := hfp b hb; ⟨o, old b o e⟩, id⟩⟩
    rintro k s' ⟨h', tk, mC, r', ys, i, rfl, hst, Z', hmC, hJ, hlen, hDl, hrD, hi, rfl, hK⟩
    have hI1' : r'.get? I = none := (hK I hfI).2 hI1
    have hIg : g₁.get? I = none := by
      cases q : g₁.get? I with
      | none => rfl
      | some o => exact absurd rfl ((hg₁ I o).mp q).2.2
    have step : ∀ h₂, (∀ b o, b ∉ [I] → h'.get? b = some o → h₂.get? b = some o) → At w g₁ [] (cenvOf scope cl C env) mC r' h₂ ∧ h₂.PlainList D ys.toArray := fun h₂ hk₂ =>
      ⟨Z'.but (fun b o hb e => hk₂ b o (by simpa using hb) e) hI1' hIg (hDf I hfI).2 (fun q => nomatch q), let ⟨k, e⟩ := hDl; ⟨k, hk₂ _ _ (by simpa using Ne.symm (hDf I hfI).1) e⟩⟩
    by_cases hlt : i < n
    · refine WA.item i _ _ _ hlt hst fun v h₂ tk₂ hP hst₂ hk₂ => ?_
      obtain ⟨Z₂, hDl₂⟩ := step h₂ hk₂
      refine W.go A target (i + 1) v _ _ _ hst₂ (toE (wpAny_mono (turn i v r' ys h₂ tk₂ _ C mC hlt hP hJ (StaysIn.trans gg₁ Z₂.over_base) Z₂.rebase hmC (Up₁ _ Z₂.over_base)) (fun _ s₃ h₃ => toE (wpAny_mono h₃ (fun y s₄ h₄ => ?_) fun _ _ e => e)) fun _ _ e => e))
      obtain ⟨h₃', tk₃, m₃, r₃, rfl, Z₃, hJ₃⟩ := h₄
      have base3 : ∀ b o, h₂.get? b = some o → r'.get? b = none → b ≠ C → h₃'.get? b = some o ∧ r₃.get? b = none := fun b o e q1 q2 =>
        have z := over_some (L := C) (cs := []) e q1 q2 (fun q => nomatch q)
        ⟨Z₃.base b o z, Z₃.rg.right z⟩
      obtain ⟨kD, eD⟩ := hDl₂
      have hDl₃ : h₃'.PlainList D ys.toArray := ⟨kD, (base3 D _ eD hrD hDC).1⟩
      have rD₃ : r₃.get? D = none := (base3 D _ eD hrD hDC).2
      refine toE (wpAny_list_append_plain (hsz := by simp [hlen]; lia) hDl₃ fun h₅ hl₅ hs₅ => ?_)
      have keepfp : ∀ b ∈ fp, ∀ o, h₂.get? b = some o → h₅.get? b = some o := fun b hb o e => by
        refine (hs₅.2 b (hDf b hb).1).trans ?_
        cases q : r'.get? b with
        | none => exact (base3 b o e q (hDf b hb).2).1
        | some o' =>
          have e' := Z₂.own b o' q
          rw [e] at e'; cases e'
          cases q2 : r.get? b with
          | none => rw [(hK b hb).2 q2] at q; cases q
          | some o2 =>
            have q3 := hsrc i r' ys hJ b hb o2 q2
            rw [q] at q3; cases q3
            exact Z₃.own b o (hsrc (i + 1) r₃ _ hJ₃ b hb o q2)
      have mC₃ : ∀ x c, cl.lookup x = some c → m₃ x = m x := fun x c e => by
        obtain ⟨⟨oc, q1, q2⟩, _⟩ := Z₂.cell x c e
        obtain ⟨⟨od, q3, q4⟩, _⟩ := Z₃.cell x c e
        obtain ⟨⟨oe, q5, q6⟩, q7⟩ := Z₁.cell x c e
        rcases q7 with z | ⟨o7, z⟩
        · cases z
        · have a1 := Z₂.base c o7 z
          rw [q1] at a1; cases a1
          have a2 := (base3 c oc q1 (Z₂.rg.right z) (gD c oc z).2).1
          rw [q3] at a2; cases a2
          have q8 := q2.symm.trans q4
          injection q8 with q8
          exact q8.symm.trans (hmC x c e)
      refine ⟨n + 1 - (i + 1), by lia, h₅, tk₃, m₃, r₃, ys ++ [y], i + 1, rfl, WA.frame _ _ _ hst₂ keepfp, ?_, mC₃, hJ₃, by simp [hlen], by simpa using hl₅, rD₃, hlt, rfl, fun b hb => ?_⟩
      · exact (Z'.weaken Z₂.over_base Z₃).but (a := D) (fun b o hb e => (hs₅.2 b hb).trans e) rD₃ (by
          cases q : g₁.get? D with
          | none => rfl
          | some o => exact absurd rfl (gD D o q).1) hDC (fun q => nomatch q)
      · obtain ⟨o, hl⟩ : ∃ o, h₂.get? b = some o := by
          by_cases q : b = I
          · subst q; exact W.live _ _ hst₂
          · obtain ⟨o, e⟩ := (hK b hb).1
            exact ⟨o, hk₂ b o (by simpa using q) e⟩
        exact ⟨⟨o, keepfp b hb o hl⟩, fun q => (base3 b o hl ((hK b hb).2 q) (hDf b hb).2).2⟩
    · have hin : i = n := by lia
      subst hin
      refine WA.done _ _ _ hst fun h₂ tk₂ hk₂ => ?_
      obtain ⟨Z₂, kD, eD⟩ := step h₂ hk₂
      obtain ⟨mC', hnC, _⟩ := Z₂.ns
      have Zo : At w g cs env m (put r' D (listO ys kD)) h₂ := Z.carry (fun b => b = I) (fun b hb => by subst hb; exact ⟨hI2, hI3, hI4⟩) (fun b o hb q e => by
        have z := (hg₁ b o).mpr ⟨e, q, hb⟩
        obtain ⟨z1, z2⟩ := gD b o z
        exact ⟨Z₂.base b o z, by rw [put_ne _ _ z1]; exact Z₂.rg.right z⟩) fun b o e => by
        by_cases hb : b = D
        · subst hb; rw [put_self _ _ rfl] at e; cases e; exact eD
        · rw [put_ne _ _ hb] at e
          exact Z₂.own b o e
      have hCr : (put r' D (listO ys kD)).get? C = none := by rw [put_ne _ _ (Ne.symm hDC)]; exact Z₂.loc.1
      have hCs : s₂.heap.get? C = none := fresh s₂.heap refl2 C (by rw [hC]; lia)
      have hCg : g.get? C = none := by
        cases q : g.get? C with
        | none => rfl
        | some o => rw [Z.base C o q] at hCs; cases hCs
      have hCL : C ≠ env.locals := by rintro rfl; rw [hL] at hCs; cases hCs
      have hCc : C ∉ cs := fun hc => by
        obtain ⟨_, _, _, x, hx⟩ := Z.csr _ hc
        obtain ⟨⟨oc, q, _⟩, _⟩ := Z.cell x _ hx
        rw [hCs] at q; cases q
      cases use with
      | none =>
        refine ⟨mC', hnC, fun h₃ hs₃ => ?_⟩
        exact done D kD ys r' h₃ tk₂ hJ hlen (fresh _ refl2 _ (Nat.le_refl _)) hrD (Zo.but (fun b o hb e => (hs₃.2 b hb).trans e) hCr hCg hCL hCc)
      | some y =>
        obtain ⟨u1, u2, u3⟩ := huse y rfl
        show wpAny _ _ (assign (.Name y py) env (.ref D)) _ _ _
        obtain ⟨oC, esC, epC, qC, qd⟩ := hnC
        have Zb := Zo.rebase
        refine wpAny_assign_Name (At.store_l (s := { s₂ with heap := h₂, toks := tk₂ }) Zb u1 u2 fun h₄ Z₄ => ?_)
        refine ⟨mC', ⟨oC, esC, epC, Z₄.base C oC (over_some qC hCr hCL hCc), qd⟩, fun h₃ hs₃ => ?_⟩
        refine u3 _ _ _ (done D kD ys r' h₃ _ hJ hlen (fresh _ refl2 _ (Nat.le_refl _)) hrD ((Zo.weaken Zo.over_base Z₄).but (fun b o hb e => (hs₃.2 b hb).trans e) hCr hCg hCL hCc))
  exact codeAny_compStart_list (loop _ rfl) (toE (WA.self 0 _ _ _ st1 (loop _ rfl)))

theorem listcomp {w : World} {A : Around} {g : Heap} {cs : List Addr} {env : Env} {base : Heap} {target elt iter : PySem.Expr} {scope : Scope} {cl : List (Str × Addr)} {pos : Pos} {Q : Value → Shared → Prop} {s : Shared}
    (U : Up w g env A base) (hclos : clos env scope.names [] = some cl) (hfree : okFree scope = true) (hcell : ∀ y ∈ scope.names, y.2 ≠ .cell) (hkind : scope.kind = .function)
    (hnames : ∀ y ∈ scope.names, y.2 = .local → scope.names.lookup y.1 = some .local)
    (h : wpAny (model prg w) A (eval iter env) (fun xv s₁ => wpAny (model prg w) A (pyIter xv) (fun it s₂ => CompAt w A g cs env base scope cl target elt none Q it s₂) never s₁) never s)
    (hs : ∀ x, foldedSetIterable iter env x = pure x) : wpAny (model prg w) A (eval (.ListComp elt [⟨target, iter, [], 0⟩] scope pos) env) Q never s := by
  rw [eval_ListComp]
  exact comp_core (py := pos) (use := none) U hclos hfree hcell hkind hnames (fun _ e => nomatch e) h hs
theorem listcomp_to {w : World} {A : Around} {g : Heap} {cs : List Addr} {env : Env} {base : Heap} {target elt iter : PySem.Expr} {scope : Scope} {cl : List (Str × Addr)} {y : Str} {pos py spos : Pos} {Q : Flow → Shared → Prop} {s : Shared}
    (hsw : swapsWith (.ListComp elt [⟨target, iter, [], 0⟩] scope pos) (some (.Name y py)) spos.line env = pure true) (hy : env.kindOf y = some .local) (hyk : env.scope.kind = .function)
    (U : Up w g env A base) (hclos : clos env scope.names [] = some cl) (hfree : okFree scope = true) (hcell : ∀ y ∈ scope.names, y.2 ≠ .cell) (hkind : scope.kind = .function)
    (hnames : ∀ y ∈ scope.names, y.2 = .local → scope.names.lookup y.1 = some .local)
    (h : wpAny (model prg w) A (eval iter env) (fun xv s₁ => wpAny (model prg w) A (pyIter xv) (fun it s₂ => CompAt w A g cs env base scope cl target elt (some y) (fun _ => Q .next) it s₂) never s₁) never s)
    (hs : ∀ x, foldedSetIterable iter env x = pure x) : wpAny (model prg w) A (exec (.Assign [.Name y py] (.ListComp elt [⟨target, iter, [], 0⟩] scope pos) spos) env) Q never s := by
  rw [exec_Assign_Name_used _ _ _ _ hsw]
  refine wpAny_bind (wpAny_standAt (wpAny_bind ?_))
  show wpAny _ _ (do let _ ← comprehension (.ListComp elt [⟨target, iter, [], 0⟩] scope pos) scope env _ (newList []) false (eval iter env) (some (assign (.Name y py) env))) _ _ s
  exact wpAny_bind (wpAny_mono (comp_core (py := py) (use := some y) (Q := fun _ => Q .next) U hclos hfree hcell hkind hnames (fun z e => by cases e; exact ⟨hy, hyk, fun _ _ _ q => q⟩) h hs) (fun _ s' hq => wpAny_pure (wpAny_pure hq)) fun _ _ e => e)
end Pf
end
section
open PySem PySem.W PySem.Calls PyProof.Rows
set_option Elab.async false
set_option compiler.extract_closed false
set_option maxRecDepth 100000
namespace Pf
/-! ## what an object of a class holds -/
abbrev Attrs := List (Str × Int × Tok × Value)
noncomputable def entA (x : Str × Int × Tok × Value) : DictEntry := ⟨x.2.1, .str x.1 x.2.2.1, x.2.2.2⟩
noncomputable def attrsO (l : Attrs) (n : Nat) : Obj := { cls := .type "dict", data := .dict (l.map entA).toArray n }
theorem empty_attrs : emptyDict = attrsO [] 0 := rfl
theorem putName_new {l : Attrs} {n : Nat} {name : Str} {k : Int} {tk : Tok} {v : Value} (h : (l.any fun x => x.1 == name) = false) :
    Obj.putName name k (.str name tk) v (attrsO l n) = attrsO (l ++ [(name, k, tk, v)]) (n + 1) := by
  rw [Obj.putName_eq]
  have e : (l.map entA).toArray.findIdx? (·.key.isStr name) = none := by
    rw [Array.findIdx?_eq_none_iff]
    intro x hx
    obtain ⟨y, hy, rfl⟩ := List.mem_map.mp (show x ∈ l.map entA from Array.mem_toList_iff.mpr hx)
    have := List.any_eq_false.mp h y hy
    simpa [entA, Value.isStr] using this
  show (match (l.map entA).toArray.findIdx? (·.key.isStr name) with
    | some i => (⟨.type "dict", none, .dict ((l.map entA).toArray.modify i fun e => { e with val := v }) n, #[]⟩ : Obj)
    | none => ⟨.type "dict", none, .dict ((l.map entA).toArray.push ⟨k, .str name tk, v⟩) (n + 1), #[]⟩) = _
  rw [e]
  simp [attrsO, entA]
theorem lookIn_attrs {l : Attrs} {n : Nat} {name : Str} : lookIn name (attrsO l n) = some ((l.find? (·.1 == name)).map (·.2.2.2)) := by
  unfold lookIn attrsO
  simp only [List.find?_map]
  have e : ((fun x : DictEntry => x.key.isStr name) ∘ entA) = fun x => x.1 == name := rfl
  rw [e]
  have e2 : ((l.map entA).any (·.refKey)) = false := by
    rw [List.any_eq_false]
    intro x hx
    obtain ⟨y, hy, rfl⟩ := List.mem_map.mp hx
    simp [entA, DictEntry.refKey]
  cases q : l.find? (·.1 == name) with
  | none => simp [e2]
  | some a => rfl

/-- an object that is being made -/
structure Mk (r : Heap) (x C dx : Addr) (l : Attrs) : Prop where
  x : r.get? x = some (instObj C dx)
  d : ∃ n, r.get? dx = some (attrsO l n)
theorem Mk.ins {r : Heap} {x C dx : Addr} {l : Attrs} (m : Mk r x C dx l) : ∃ n, Ins r x C (attrsO l n) := let ⟨n, e⟩ := m.d; ⟨n, dx, m.x, e⟩
theorem Mk.up {r r' : Heap} {x C dx : Addr} {l : Attrs} (m : Mk r x C dx l) (k : r.StaysIn r') : Mk r' x C dx l := ⟨k _ _ m.x, let ⟨n, e⟩ := m.d; ⟨n, k _ _ e⟩⟩
theorem Mk.ne {r : Heap} {x C dx : Addr} {l : Attrs} (m : Mk r x C dx l) : x ≠ dx := by
  rintro rfl
  obtain ⟨n, e⟩ := m.d
  rw [m.x] at e
  cases e
theorem Ins.of_mk {r : Heap} {x C dx : Addr} {l : Attrs} {n : Nat} (m : Mk r x C dx l) (e : r.get? dx = some (attrsO l n)) : Ins r x C (attrsO l n) := ⟨dx, m.x, e⟩

section
variable {w : World} {A : Around} {E : Value → Shared → Prop} {s : Shared} {K : Frag} {x C dx : Addr} {name : Str} {v : Value} {g : Heap} {cs : List Addr} {env : Env} {m : Str → Option Value} {r r₀ : Heap} {as : List Addr} {l : Attrs}
theorem set_attr {Q : Unit → Shared → Prop} (X : autoParam (K.In s.heap) Ln.a_K) (Z : autoParam (At w g cs env m r s.heap) Ln.a_at) (M : autoParam (Mk r x C dx l) Ln.a_mk) (S : autoParam (Step as r₀ r) Ln.a_at) (hm : autoParam (dx ∈ as ∨ r₀.get? dx = none) Ln.a_mem)
    (hs : autoParam (findIn K (.ref C) "__setattr__" = some (some (.builtin "object.__setattr__"))) Ln.a_ki) (hp : autoParam (plainOver K C = true) Ln.a_ki) (ht : autoParam (takerIn K C name = some none) Ln.a_ki) (hhd : autoParam (hasDictIn K C = true) Ln.a_ki)
    (hn : autoParam ((l.any fun y => y.1 == name) = false) Ln.a_rf) (hz : autoParam (l.length ≤ 900) Ln.a_nb)
    (h : ∀ h' r' k tk, At w g cs env m r' h' → Mk r' x C dx (l ++ [(name, k, tk, v)]) → Step as r₀ r' → Loc [dx] r r' → Q () { s with heap := h', toks := s.toks + 1 + 1 }) :
    wpAny (model prg w) A (setAttr (.ref x) name v) Q E s := by
  obtain ⟨n, hd⟩ := M.d
  obtain ⟨hh, gn, dr, t, os⟩ := s
  have I : InstAt hh x (instObj C dx) C (some (attrsO l n)) := ⟨Z.own _ _ M.x, rfl, rfl, Z.own _ _ hd⟩
  refine set_plain (s := ⟨hh, gn, dr, t, os⟩) X I hs (osa_open (s := ⟨hh, gn, dr, t + 1, os⟩) (tk := t) X I hp ht fun b => ?_)
  obtain ⟨cd, hc, hd'⟩ := any_some hhd
  have D := Z.own _ _ hd
  have X' := Z.own _ _ M.x
  have Lc : Looks (model prg w) hh (classData C) cd := looks_clsIn X hc
  refine wpAny_bind (wpAny_pure (wpAny_bind (wpAny_bind (wpAny_loadPart X' (wpAny_bind ?_)))))
  refine Lc.here ?_
  rw [hd']
  refine wpAny_pure (a := some dx) (wpAny_bind (wpAny_pure (wpAny_bind ?_)))
  unfold nsSet
  refine wpAny_bind (wpAny_bind (wpAny_askSetting (wpAny_pure (wpAny_bind (wpAny_mkText (wpAny_bind (wpAny_loadPart D ?_)))))))
  dsimp only [attrsO]
  have c : (!((l.map entA).toArray).any (·.key.isStr name) && ((l.map entA).toArray).any (·.refKey)) = false := by
    rw [← Array.any_toList, ← Array.any_toList]
    have e2 : ((l.map entA).any (·.refKey)) = false := by
      rw [List.any_eq_false]
      intro x hx
      obtain ⟨y, hy, rfl⟩ := List.mem_map.mp hx
      simp [entA, DictEntry.refKey]
    rw [e2, Bool.and_false]
  rw [aRefKeyMayBeTheName_at, c]
  refine wpAny_updatePart D ?_
  have e := putName_new (n := n) (k := PyData.keyHash w.params name) (tk := t + 1) (v := v) hn
  have self : (hh.update dx (Obj.putName name (PyData.keyHash w.params name) (.str name (t + 1)) v)).get? dx = some (attrsO (l ++ [(name, PyData.keyHash w.params name, t + 1, v)]) (n + 1)) := by
    rw [Heap.get?_update_self _ D (by rw [e]; rfl), e]
  have but : Heap.SameBut dx hh (hh.update dx (Obj.putName name (PyData.keyHash w.params name) (.str name (t + 1)) v)) := Heap.SameBut.update ..
  refine wpAny_bind (wpAny_lookBehind self (pastItsLine_dict (by simp [attrsO]; rw [sizeLine_eq]; lia)) ?_)
  refine wpAny_pure (h _ (put r dx (attrsO (l ++ [(name, PyData.keyHash w.params name, t + 1, v)]) (n + 1))) _ _ (Z.chg hd but self) ⟨?_, n + 1, put_self _ _ rfl⟩ (S.then (bs := [dx]) (step_old (.head _) rfl hd (by simp [attrsO])) ?_) (step_old (.head _) rfl hd (by simp [attrsO])))
  · rw [put_ne _ _ M.ne]; exact M.x
  · intro a ha
    rw [List.mem_singleton.mp ha]; exact hm
end

/-- a class that is called: its __init__ -/
theorem Call.make {w : World} {r : Heap} {as : List Addr} {C fI : Addr} {args : List Value} {n : Nat} {Post : Value → Heap → Prop} (hlive : ∀ a ∈ as, ∃ o, r.get? a = some o)
    (hm : makesIn (Pf.ob.heap_1 w.params) C = true) (hi : findIn (Pf.ob.heap_1 w.params) (.ref C) "__init__" = some (some (.ref fI))) (hf : typeIn (Pf.ob.heap_1 w.params) (.ref fI) = some (.type "function"))
    (c : ∀ r₁ x dx, r.StaysIn r₁ → Mk r₁ x C dx [] → r.get? x = none → r.get? dx = none → Call w r₁ (dx :: as) (.ref fI) (.ref x :: args) n (fun v r' => v = .none ∧ Post (.ref x) r')) :
    Call w r as (.ref C) args (n + 1) Post := by
  refine ⟨hlive, ?_⟩
  intro dp un gd env outer base s R hr hx hdp hun hret
  obtain ⟨h, gn, d, t, os⟩ := s
  have fr : ∀ (z : Heap), z.StaysIn h → ∀ a, h.objs.size ≤ a → z.get? a = none := fun z hz a ha => by
    cases e : z.get? a with
    | none => rfl
    | some o => exact absurd (Heap.lt_size (hz _ _ e)) (Nat.not_lt.mpr ha)
  have refl : h.StaysIn h := fun _ _ e => e
  have X : (Pf.ob.heap_1 w.params).In h := hx.k.keeps (minus_stays _ _)
  refine make_core (makes_of X hm) (looks_findIn X hi) (fun self => bind_fn X self hf) (.inl rfl) ?_
  have nx : r.get? (h.objs.size + 1) = none := fr r hr _ (Nat.le_succ _)
  have nd : r.get? h.objs.size = none := fr r hr _ (Nat.le_refl _)
  let r₁ := put (put r h.objs.size emptyDict) (h.objs.size + 1) (instObj C h.objs.size)
  have k₁ : r.StaysIn r₁ := StaysIn.trans (stays_put nd) (stays_put (by rw [put_ne _ _ (Nat.succ_ne_self _)]; exact nx))
  have M : Mk r₁ (h.objs.size + 1) C h.objs.size [] := ⟨put_self _ _ rfl, 0, by show (put _ _ _).get? _ = _; rw [put_ne _ _ (Nat.ne_of_lt (Nat.lt_succ_self _)), put_self _ _ rfl]; rfl⟩
  have kh : h.StaysIn ((h.push emptyDict).push (instObj C h.objs.size)) := StaysIn.trans (stays_push _ _) (stays_push _ _)
  have own : r₁.StaysIn ((h.push emptyDict).push (instObj C h.objs.size)) := fun b o e => by
    by_cases q : b = h.objs.size + 1
    · subst q
      have := put_self (put r h.objs.size emptyDict) (h.objs.size + 1) (o := instObj C h.objs.size) rfl
      rw [show r₁.get? _ = _ from this] at e; cases e
      heap_get
    · rw [show r₁.get? b = _ from put_ne _ _ q] at e
      by_cases q' : b = h.objs.size
      · subst q'
        rw [put_self _ _ rfl] at e; cases e
        heap_get
      · rw [put_ne _ _ q'] at e
        exact kh _ _ (hr _ _ e)
  have km : (minus h r).StaysIn (minus ((h.push emptyDict).push (instObj C h.objs.size)) r₁) := fun b o e => by
    have e' := minus_stays _ _ _ _ e
    refine minus_some (kh _ _ e') ?_
    have hb := Heap.lt_size e'
    show (put _ _ _).get? b = none
    rw [put_ne _ _ (Nat.ne_of_lt (Nat.lt_succ_of_lt hb)), put_ne _ _ (Nat.ne_of_lt hb)]
    rw [get_minus] at e
    split at e
    · cases e
    · rename_i z; cases q : r.get? b with
      | none => rfl
      | some o => rw [q] at z; simp at z
  refine (c r₁ _ _ k₁ M nx nd).run (dp + 1) (un + 1) gd env outer base _ _ own (hx.mono km) (by lia) (by lia) fun v h' tk' r' a1 a2 a3 a4 a5 => ?_
  have s1 : Step as r r₁ := .of_stays k₁
  refine ⟨a5.1, hret (.ref (h.objs.size + 1)) h' tk' r' a1 (fun b o hb e => a2 b o ?_ (kh _ _ e)) (s1.then a3 ?_) (a4.mono km) a5.2⟩
  · intro q
    rcases List.mem_cons.mp q with q | q
    · exact absurd (Heap.lt_size e) (by rw [q]; exact Nat.lt_irrefl _)
    · exact hb q
  · intro a ha
    rcases List.mem_cons.mp ha with q | q
    · exact .inr (by rw [q]; exact nd)
    · exact .inl q
end Pf
end
section
open PySem PySem.W PySem.Calls PyProof.Rows
set_option Elab.async false
set_option compiler.extract_closed false
set_option maxRecDepth 100000
namespace Pf
theorem Wk.steps {w : World} (I : Addr) (a c : Int) (n : Nat) : Wk w I [I] n (fun i v => ∃ t, v = .int (a + (i : Int) * c) t) (fun i h => IsRangeIter h I (a + (i : Nat) * c) ((n : Int) - (i : Nat)) c) where
  walks := fun A hh => Walks.range (prog := prg) (w := w) (A := A) hh I a c n
  go := fun A target i v s Q E st h => letGo st rfl (by decide) h
  live := fun i h st => ⟨_, st⟩

section
variable {w : World} {A : Around} {E : Value → Shared → Prop} {s : Shared} {g : Heap} {cs : List Addr} {env : Env} {m : Str → Option Value} {r : Heap} {vs : List Value}
theorem no_size (h : Heap) : h.get? h.objs.size = none := by
  cases q : h.get? h.objs.size with
  | none => rfl
  | some o => exact absurd (Heap.lt_size q) (Nat.lt_irrefl _)
theorem At.pushed (Z : At w g cs env m r s.heap) : New g cs env r s.heap.objs.size := ⟨Z.fresh.1, Z.fresh.2.1, Z.fresh.2.2.1, Z.fresh.2.2.2⟩
theorem range_2 {a b : Int} {t u : Tok} {Q : Value → Shared → Prop} (Z : autoParam (At w g cs env m r s.heap) Ln.a_at)
    (h : ∀ rr h' tk v, At w g cs env m r h' → New g cs env r rr → IsRange h' rr a b 1 t u v → s.heap.StaysIn h' → Q (.ref rr) { s with heap := h', toks := tk }) :
    wpAny (model prg w) A (call (.type "range") [.int a t, .int b u]) Q E s :=
  call_range_2 (h _ _ _ _ (Z.push _) Z.pushed (IsRange.new _ _ _ _ _ _ _) (stays_push _ _))
theorem range_1 {b : Int} {u : Tok} {Q : Value → Shared → Prop} (Z : autoParam (At w g cs env m r s.heap) Ln.a_at)
    (h : ∀ rr h' tk t v, At w g cs env m r h' → New g cs env r rr → IsRange h' rr 0 b 1 t u v → s.heap.StaysIn h' → Q (.ref rr) { s with heap := h', toks := tk }) :
    wpAny (model prg w) A (call (.type "range") [.int b u]) Q E s :=
  call_range_1 (h _ _ _ _ _ (Z.push _) Z.pushed (IsRange.new _ _ _ _ _ _ _) (stays_push _ _))
theorem At.apart {h : Heap} {ax : Addr} {o : Obj} {items : Array Value} {n : Nat} (Z : At w g cs env m r h) (e : h.get? ax = some o) (hd : o.data = .seq items n) : ax ≠ env.locals ∧ ax ∉ cs := by
  constructor
  · rintro rfl
    obtain ⟨mL, ⟨oL, es, ep, q, hd', _⟩, _⟩ := Z.ns
    rw [e] at q; cases q
    rw [hd] at hd'; cases hd'
  · intro hc
    obtain ⟨_, _, _, x, hx⟩ := Z.csr _ hc
    obtain ⟨⟨oc, q, hd'⟩, _⟩ := Z.cell x _ hx
    rw [e] at q; cases q
    rw [hd] at hd'; cases hd'

variable {target : PySem.Expr} {B : Sem Flow} {Q : Flow → Shared → Prop}
noncomputable def Prmfor_range_done (w : World) (s : Shared) (g : Heap) (cs : List Addr) (env : Env) (Q : Flow → Shared → Prop) (n : Nat) (J : Nat → (Str → Option Value) → Heap → Prop) (m' : Str → Option Value) (r' : Heap) (h : Heap) (tk : Tok) : Prop :=
  J n m' r' → At w g cs env m' r' h → Q .next { s with heap := h, toks := tk }
noncomputable def Prmfor_range_turn (w : World) (A : Around) (s : Shared) (g : Heap) (cs : List Addr) (env : Env) (target : PySem.Expr) (B : Sem Flow) (a : Int) (c : Int) (n : Nat) (J : Nat → (Str → Option Value) → Heap → Prop) (Kr : Value → Heap → Prop) (i : Nat) (t : Tok) (m₁ : Str → Option Value) (r₁ : Heap) (h : Heap) (tk : Tok) (gB : Heap) (QT : Flow → Shared → Prop) : Prop :=
  (∀ fl s', TurnEnd w gB cs env (J (i + 1)) Kr s fl s' → QT fl s') → i < n → J i m₁ r₁ → g.StaysIn gB → At w gB cs env m₁ r₁ h →
      wpAny (model prg w) A (assign target env (.int (a + (i : Int) * c) t)) (fun _ s' => wpAny (model prg w) A B QT never s') never { s with heap := h, toks := tk }
theorem for_range {rr : Addr} {a b c : Int} {n : Nat} {t u v : Tok} (hr : IsRange s.heap rr a b c t u v) (hsm : Builtin.Range.small a b c = true) (hn : Builtin.Range.rangeSize a b c = (n : Int)) (Z : At w g cs env m r s.heap)
    (J : Nat → (Str → Option Value) → Heap → Prop) (Kr : Value → Heap → Prop) (j0 : J 0 m r)
    (turn : ∀ i t m₁ r₁ h tk gB QT, Prmfor_range_turn w A s g cs env target B a c n J Kr i t m₁ r₁ h tk gB QT)
    (done : ∀ m' r' h tk, Prmfor_range_done w s g cs env Q n J m' r' h tk) (done2 : ∀ v m' r' h tk, Kr v r' → At w g cs env m' r' h → Q (.ret v) { s with heap := h, toks := tk }) :
    wpAny (model prg w) A (pyIter (.ref rr)) (fun it s₂ => ForAt w A g cs env target B Q it s₂) never s := by
  have N := Z.pushed
  refine wpAny_pyIter_range hr hsm ⟨s.heap.objs.size, [s.heap.objs.size], n, _, _, m, r, J, Kr, rfl, Wk.steps s.heap.objs.size a c n, ?_, Z.push _, ⟨N.nr, N.ng, N.nl, N.nc⟩, ?_, ?_, j0, ?_, done, done2⟩
  · show (s.heap.push _).get? _ = _
    rw [Heap.get?_push_size _ rfl, hn]
    simp
  · intro b hb
    rw [List.mem_singleton.mp hb]
    exact ⟨N.nl, N.nc, _, Heap.get?_push_size _ rfl⟩
  · intro i m' r' _ b hb o e
    rw [List.mem_singleton.mp hb, N.nr] at e; cases e
  · rintro i v m₁ r₁ h tk gB hi ⟨t, rfl⟩ hJ hg Z₁
    exact turn i t m₁ r₁ h tk gB _ (fun _ _ q => q) hi hJ hg Z₁

noncomputable def Prmfor_list_done (w : World) (s : Shared) (g : Heap) (cs : List Addr) (env : Env) (vs : List Value) (Q : Flow → Shared → Prop) (J : Nat → (Str → Option Value) → Heap → Prop) (m' : Str → Option Value) (r' : Heap) (h : Heap) (tk : Tok) : Prop :=
  J vs.length m' r' → At w g cs env m' r' h → Q .next { s with heap := h, toks := tk }
noncomputable def Prmfor_list_turn (w : World) (A : Around) (s : Shared) (g : Heap) (cs : List Addr) (env : Env) (vs : List Value) (target : PySem.Expr) (B : Sem Flow) (J : Nat → (Str → Option Value) → Heap → Prop) (Kr : Value → Heap → Prop) (i : Nat) (v : Value) (m₁ : Str → Option Value) (r₁ : Heap) (h : Heap) (tk : Tok) (gB : Heap) (QT : Flow → Shared → Prop) : Prop :=
  (∀ fl s', TurnEnd w gB cs env (J (i + 1)) Kr s fl s' → QT fl s') → vs[i]? = some v → J i m₁ r₁ → g.StaysIn gB → At w gB cs env m₁ r₁ h →
      wpAny (model prg w) A (assign target env v) (fun _ s' => wpAny (model prg w) A B QT never s') never { s with heap := h, toks := tk }
theorem for_list {ax : Addr} {vs : List Value} (hl : isL s.heap ax vs) (Z : At w g cs env m r s.heap)
    (J : Nat → (Str → Option Value) → Heap → Prop) (Kr : Value → Heap → Prop) (hsrc : ∀ i m' r', J i m' r' → ∀ o, r.get? ax = some o → r'.get? ax = some o) (j0 : J 0 m r)
    (turn : ∀ i v m₁ r₁ h tk gB QT, Prmfor_list_turn w A s g cs env vs target B J Kr i v m₁ r₁ h tk gB QT)
    (done : ∀ m' r' h tk, Prmfor_list_done w s g cs env vs Q J m' r' h tk) (done2 : ∀ v m' r' h tk, Kr v r' → At w g cs env m' r' h → Q (.ret v) { s with heap := h, toks := tk }) :
    wpAny (model prg w) A (pyIter (.ref ax)) (fun it s₂ => ForAt w A g cs env target B Q it s₂) never s := by
  have N := Z.pushed
  have hl' := hl
  obtain ⟨k, e⟩ := hl
  have hne : ax ≠ s.heap.objs.size := by rintro rfl; rw [no_size] at e; cases e
  have ap := Z.apart e rfl
  have e' := Heap.get?_push_of_some ({ cls := .type "list_iterator", data := .fields #[.ref ax, .int 0 0] } : Obj) e
  refine wpAny_pyIter_list hl'.list ⟨s.heap.objs.size, [s.heap.objs.size, ax], vs.length, _, _, m, r, J, Kr, rfl, Wk.list s.heap.objs.size ax hne vs, ⟨⟨_, Heap.get?_push_size _ rfl, rfl, rfl⟩, _, e', rfl, k, rfl⟩, Z.push _, ⟨N.nr, N.ng, N.nl, N.nc⟩, ?_, ?_, j0, ?_, done, done2⟩
  · intro b hb
    rcases List.mem_cons.mp hb with rfl | hb
    · exact ⟨N.nl, N.nc, _, Heap.get?_push_size _ rfl⟩
    · rw [List.mem_singleton.mp hb]
      exact ⟨ap.1, ap.2, _, e'⟩
  · intro i m' r' hJ b hb o eo
    rcases List.mem_cons.mp hb with rfl | hb
    · rw [N.nr] at eo; cases eo
    · rw [List.mem_singleton.mp hb] at eo ⊢
      exact hsrc i m' r' hJ o eo
  · intro i v m₁ r₁ h tk gB hi hv hJ hg Z₁
    exact turn i v m₁ r₁ h tk gB _ (fun _ _ q => q) hv hJ hg Z₁
end

section
variable {w : World} {A : Around} {s : Shared} {g : Heap} {cs : List Addr} {env : Env} {base : Heap} {m : Str → Option Value} {r : Heap} {scope : Scope} {cl : List (Str × Addr)} {target elt : PySem.Expr} {use : Option Str} {Q : Value → Shared → Prop}
noncomputable def Prmcomp_range_turn (w : World) (A : Around) (s : Shared) (g : Heap) (env : Env) (base : Heap) (m : Str → Option Value) (scope : Scope) (cl : List (Str × Addr)) (target : PySem.Expr) (elt : PySem.Expr) (a : Int) (c : Int) (n : Nat) (J : Nat → Heap → List Value → Prop) (i : Nat) (t : Tok) (r₁ : Heap) (ys : List Value) (h : Heap) (tk : Tok) (gB : Heap) (C : Addr) (mC : Str → Option Value) : Prop :=
  i < n → J i r₁ ys → g.StaysIn gB → At w gB [] (cenvOf scope cl C env) mC r₁ h → (∀ x c, cl.lookup x = some c → mC x = m x) → Up w gB (cenvOf scope cl C env) A base →
      wpAny (model prg w) A (assign target (cenvOf scope cl C env) (.int (a + (i : Int) * c) t)) (fun _ s' => wpAny (model prg w) A (eval elt (cenvOf scope cl C env)) (ElemEnd w gB (cenvOf scope cl C env) (fun r' y => J (i + 1) r' (ys ++ [y])) s) never s') never { s with heap := h, toks := tk }
noncomputable def Prmcomp_range_done (w : World) (s : Shared) (g : Heap) (cs : List Addr) (env : Env) (m : Str → Option Value) (use : Option Str) (Q : Value → Shared → Prop) (n : Nat) (J : Nat → Heap → List Value → Prop) (D : Addr) (k : Nat) (ys : List Value) (r' : Heap) (h : Heap) (tk : Tok) : Prop :=
  J n r' ys → ys.length = n → s.heap.get? D = none → r'.get? D = none → At w g cs env (useM use m D) (put r' D (listO ys k)) h → Q (.ref D) { s with heap := h, toks := tk }
theorem comp_range {rr : Addr} {a b c : Int} {n : Nat} {t u v : Tok} (hr : IsRange s.heap rr a b c t u v) (hsm : Builtin.Range.small a b c = true) (hn : Builtin.Range.rangeSize a b c = (n : Int)) (hsz : n ≤ sizeLine) (Z : At w g cs env m r s.heap)
    (J : Nat → Heap → List Value → Prop) (j0 : J 0 r [])
    (turn : ∀ i t r₁ ys h tk gB C mC, Prmcomp_range_turn w A s g env base m scope cl target elt a c n J i t r₁ ys h tk gB C mC)
    (done : ∀ D k ys r' h tk, Prmcomp_range_done w s g cs env m use Q n J D k ys r' h tk) :
    wpAny (model prg w) A (pyIter (.ref rr)) (fun it s₂ => CompAt w A g cs env base scope cl target elt use Q it s₂) never s := by
  have N := Z.pushed
  refine wpAny_pyIter_range hr hsm ⟨s.heap.objs.size, [s.heap.objs.size], n, _, _, m, r, J, rfl, Wk.steps s.heap.objs.size a c n, ?_, Z.push _, ⟨N.nr, N.ng, N.nl, N.nc⟩, ?_, ?_, j0, hsz, ?_, fun D k ys r' h tk a1 a2 a3 a4 a5 => done D k ys r' h tk a1 a2 ?_ a4 a5⟩
  · show (s.heap.push _).get? _ = _
    rw [Heap.get?_push_size _ rfl, hn]
    simp
  · intro b hb
    rw [List.mem_singleton.mp hb]
    exact ⟨_, Heap.get?_push_size _ rfl⟩
  · intro i r' ys _ b hb o e
    rw [List.mem_singleton.mp hb, N.nr] at e; cases e
  · rintro i v r₁ ys h tk gB C mC hi ⟨t, rfl⟩ hJ hg Z₁ hc hU
    exact turn i t r₁ ys h tk gB C mC hi hJ hg Z₁ hc hU
  · cases q : s.heap.get? D with
    | none => rfl
    | some o => rw [Heap.get?_push_of_some _ q] at a3; cases a3

noncomputable def Prmcomp_list_turn (w : World) (A : Around) (s : Shared) (g : Heap) (env : Env) (base : Heap) (m : Str → Option Value) (scope : Scope) (cl : List (Str × Addr)) (target : PySem.Expr) (elt : PySem.Expr) (vs : List Value) (J : Nat → Heap → List Value → Prop) (i : Nat) (v : Value) (r₁ : Heap) (ys : List Value) (h : Heap) (tk : Tok) (gB : Heap) (C : Addr) (mC : Str → Option Value) : Prop :=
  vs[i]? = some v → J i r₁ ys → g.StaysIn gB → At w gB [] (cenvOf scope cl C env) mC r₁ h → (∀ x c, cl.lookup x = some c → mC x = m x) → Up w gB (cenvOf scope cl C env) A base →
      wpAny (model prg w) A (assign target (cenvOf scope cl C env) v) (fun _ s' => wpAny (model prg w) A (eval elt (cenvOf scope cl C env)) (ElemEnd w gB (cenvOf scope cl C env) (fun r' y => J (i + 1) r' (ys ++ [y])) s) never s') never { s with heap := h, toks := tk }
noncomputable def Prmcomp_list_done (w : World) (s : Shared) (g : Heap) (cs : List Addr) (env : Env) (m : Str → Option Value) (use : Option Str) (Q : Value → Shared → Prop) (vs : List Value) (J : Nat → Heap → List Value → Prop) (D : Addr) (k : Nat) (ys : List Value) (r' : Heap) (h : Heap) (tk : Tok) : Prop :=
  J vs.length r' ys → ys.length = vs.length → s.heap.get? D = none → r'.get? D = none → At w g cs env (useM use m D) (put r' D (listO ys k)) h → Q (.ref D) { s with heap := h, toks := tk }
theorem comp_list {ax : Addr} {vs : List Value} (hl : isL s.heap ax vs) (hsz : vs.length ≤ sizeLine) (Z : At w g cs env m r s.heap)
    (J : Nat → Heap → List Value → Prop) (hsrc : ∀ i r' ys, J i r' ys → ∀ o, r.get? ax = some o → r'.get? ax = some o) (j0 : J 0 r [])
    (turn : ∀ i v r₁ ys h tk gB C mC, Prmcomp_list_turn w A s g env base m scope cl target elt vs J i v r₁ ys h tk gB C mC)
    (done : ∀ D k ys r' h tk, Prmcomp_list_done w s g cs env m use Q vs J D k ys r' h tk) :
    wpAny (model prg w) A (pyIter (.ref ax)) (fun it s₂ => CompAt w A g cs env base scope cl target elt use Q it s₂) never s := by
  have N := Z.pushed
  have hl' := hl
  obtain ⟨k, e⟩ := hl
  have hne : ax ≠ s.heap.objs.size := by rintro rfl; rw [no_size] at e; cases e
  have e' := Heap.get?_push_of_some ({ cls := .type "list_iterator", data := .fields #[.ref ax, .int 0 0] } : Obj) e
  refine wpAny_pyIter_list hl'.list ⟨s.heap.objs.size, [s.heap.objs.size, ax], vs.length, _, _, m, r, J, rfl, Wk.list s.heap.objs.size ax hne vs, ⟨⟨_, Heap.get?_push_size _ rfl, rfl, rfl⟩, _, e', rfl, k, rfl⟩, Z.push _, ⟨N.nr, N.ng, N.nl, N.nc⟩, ?_, ?_, j0, hsz, ?_, fun D k ys r' h tk a1 a2 a3 a4 a5 => done D k ys r' h tk a1 a2 ?_ a4 a5⟩
  · intro b hb
    rcases List.mem_cons.mp hb with rfl | hb
    · exact ⟨_, Heap.get?_push_size _ rfl⟩
    · rw [List.mem_singleton.mp hb]
      exact ⟨_, e'⟩
  · intro i r' ys hJ b hb o eo
    rcases List.mem_cons.mp hb with rfl | hb
    · rw [N.nr] at eo; cases eo
    · rw [List.mem_singleton.mp hb] at eo ⊢
      exact hsrc i r' ys hJ o eo
  · intro i v r₁ ys h tk gB C mC hi hv hJ hg Z₁ hc hU
    exact turn i v r₁ ys h tk gB C mC hv hJ hg Z₁ hc hU
  · cases q : s.heap.get? D with
    | none => rfl
    | some o => rw [Heap.get?_push_of_some _ q] at a3; cases a3

noncomputable def Prmcomp_tuple_turn (w : World) (A : Around) (s : Shared) (g : Heap) (env : Env) (base : Heap) (m : Str → Option Value) (scope : Scope) (cl : List (Str × Addr)) (target : PySem.Expr) (elt : PySem.Expr) (vs : List Value) (J : Nat → Heap → List Value → Prop) (i : Nat) (v : Value) (r₁ : Heap) (ys : List Value) (h : Heap) (tk : Tok) (gB : Heap) (C : Addr) (mC : Str → Option Value) : Prop :=
  vs[i]? = some v → J i r₁ ys → g.StaysIn gB → At w gB [] (cenvOf scope cl C env) mC r₁ h → (∀ x c, cl.lookup x = some c → mC x = m x) → Up w gB (cenvOf scope cl C env) A base →
      wpAny (model prg w) A (assign target (cenvOf scope cl C env) v) (fun _ s' => wpAny (model prg w) A (eval elt (cenvOf scope cl C env)) (ElemEnd w gB (cenvOf scope cl C env) (fun r' y => J (i + 1) r' (ys ++ [y])) s) never s') never { s with heap := h, toks := tk }
noncomputable def Prmcomp_tuple_done (w : World) (s : Shared) (g : Heap) (cs : List Addr) (env : Env) (m : Str → Option Value) (use : Option Str) (Q : Value → Shared → Prop) (vs : List Value) (J : Nat → Heap → List Value → Prop) (D : Addr) (k : Nat) (ys : List Value) (r' : Heap) (h : Heap) (tk : Tok) : Prop :=
  J vs.length r' ys → ys.length = vs.length → s.heap.get? D = none → r'.get? D = none → At w g cs env (useM use m D) (put r' D (listO ys k)) h → Q (.ref D) { s with heap := h, toks := tk }
theorem comp_tuple {ax : Addr} {vs : List Value} (hl : isT s.heap ax vs) (hsz : vs.length ≤ sizeLine) (Z : At w g cs env m r s.heap)
    (J : Nat → Heap → List Value → Prop) (hsrc : ∀ i r' ys, J i r' ys → ∀ o, r.get? ax = some o → r'.get? ax = some o) (j0 : J 0 r [])
    (turn : ∀ i v r₁ ys h tk gB C mC, Prmcomp_tuple_turn w A s g env base m scope cl target elt vs J i v r₁ ys h tk gB C mC)
    (done : ∀ D k ys r' h tk, Prmcomp_tuple_done w s g cs env m use Q vs J D k ys r' h tk) :
    wpAny (model prg w) A (pyIter (.ref ax)) (fun it s₂ => CompAt w A g cs env base scope cl target elt use Q it s₂) never s := by
  have N := Z.pushed
  have hl' := hl.tup
  obtain ⟨k, e⟩ := hl
  have hne : ax ≠ s.heap.objs.size := by rintro rfl; rw [no_size] at e; cases e
  have e' := Heap.get?_push_of_some ({ cls := .type "tuple_iterator", data := .fields #[.ref ax, .int 0 0] } : Obj) e
  refine wpAny_pyIter_tuple hl' ⟨s.heap.objs.size, [s.heap.objs.size, ax], vs.length, _, _, m, r, J, rfl, Wk.tuple s.heap.objs.size ax hne vs, ⟨⟨_, Heap.get?_push_size _ rfl, rfl, rfl⟩, _, e', rfl, k, rfl⟩, Z.push _, ⟨N.nr, N.ng, N.nl, N.nc⟩, ?_, ?_, j0, hsz, ?_, fun D k ys r' h tk a1 a2 a3 a4 a5 => done D k ys r' h tk a1 a2 ?_ a4 a5⟩
  · intro b hb
    rcases List.mem_cons.mp hb with rfl | hb
    · exact ⟨_, Heap.get?_push_size _ rfl⟩
    · rw [List.mem_singleton.mp hb]
      exact ⟨_, e'⟩
  · intro i r' ys hJ b hb o eo
    rcases List.mem_cons.mp hb with rfl | hb
    · rw [N.nr] at eo; cases eo
    · rw [List.mem_singleton.mp hb] at eo ⊢
      exact hsrc i r' ys hJ o eo
  · intro i v r₁ ys h tk gB C mC hi hv hJ hg Z₁ hc hU
    exact turn i v r₁ ys h tk gB C mC hv hJ hg Z₁ hc hU
  · cases q : s.heap.get? D with
    | none => rfl
    | some o => rw [Heap.get?_push_of_some _ q] at a3; cases a3
end
end Pf
end
section
open PySem PySem.W PySem.Calls PyProof.Rows PySem.SeqAt
set_option Elab.async false
set_option compiler.extract_closed false
set_option maxRecDepth 100000
namespace Pf
/-! ## lists and tuples that are made, read, changed -/
section
variable {w : World} {A : Around} {E : Value → Shared → Prop} {s : Shared} {g : Heap} {cs : List Addr} {env : Env} {m : Str → Option Value} {r r₀ : Heap} {as : List Addr} {vs ws : List Value} {l b : Addr} {Q : Value → Shared → Prop}

theorem At.chg_list {h h' : Heap} (Z : At w g cs env m r h) (rl : isL r l vs) (hs : Heap.SameBut l h h') (hl : isL h' l ws) (S : Step as r₀ r) (hm : l ∈ as ∨ r₀.get? l = none) :
    ∃ r', At w g cs env m r' h' ∧ isL r' l ws ∧ Step as r₀ r' ∧ Loc [l] r r' := by
  obtain ⟨n, e⟩ := rl
  obtain ⟨k, e'⟩ := hl
  have st : Step [l] r (put r l (listO ws k)) := step_old (.head _) rfl e (by simp)
  exact ⟨_, Z.chg e hs e', ⟨k, put_self _ _ rfl⟩, S.then st (fun a ha => by rw [List.mem_singleton.mp ha]; exact hm), st⟩
theorem At.take {h : Heap} {a : Addr} {o : Obj} (Z : At w g cs env m r h) (N : New g cs env r a) (e : h.get? a = some o) (S : Step as r₀ r) :
    ∃ r', At w g cs env m r' h ∧ r'.get? a = some o ∧ Step as r₀ r' ∧ Loc [] r r' ∧ r.StaysIn r' := by
  have hf := (Heap.get?_some_iff.mp e).2
  exact ⟨_, Z.own_new N e, put_self _ _ hf, S.then (bs := []) (step_new N.nr) (fun a ha => nomatch ha), step_new N.nr, stays_put N.nr⟩

theorem mapSeq_list {f : Array Value → Array Value} {n : Nat} (hf : f vs.toArray = ws.toArray) : ∃ k, Obj.mapSeq f (listO vs n) = listO ws k := by
  obtain ⟨k, e⟩ := Obj.data_mapSeq (o := listO vs n) rfl f
  refine ⟨k, ?_⟩
  have hc : (Obj.mapSeq f (listO vs n)).cls = .type "list" := Obj.cls_mapSeq ..
  have hd : (Obj.mapSeq f (listO vs n)).dict = none := rfl
  have hs : (Obj.mapSeq f (listO vs n)).slots = #[] := rfl
  cases q : Obj.mapSeq f (listO vs n) with
  | mk c d dt sl =>
    rw [q] at e hc hd hs
    dsimp only at e hc hd hs
    subst hc hd hs
    rw [e, hf]
theorem tuple_of (Z : autoParam (At w g cs env m r s.heap) Ln.a_at) (hl : autoParam (isL s.heap l vs) Ln.a_see) (hsz : autoParam (vs.length ≤ sizeLine) Ln.a_sz)
    (h : ∀ a h', At w g cs env m r h' → New g cs env r a → isT h' a vs → s.heap.StaysIn h' → s.heap.get? a = none → Q (.ref a) { s with heap := h' }) : wpAny (model prg w) A (call (.type "tuple") [.ref l]) Q E s :=
  call_tuple_list hl.list (fun h' hk => by
    have Z' : At w g cs env m r h' := Z.grow hk
    refine h _ _ (Z'.push _) ⟨Z'.fresh.1, Z'.fresh.2.1, Z'.fresh.2.2.1, Z'.fresh.2.2.2⟩ ⟨0, Heap.get?_push_size _ rfl⟩ (StaysIn.trans hk (stays_push _ _)) ?_
    cases q : s.heap.get? h'.objs.size with
    | none => rfl
    | some o => exact absurd (Heap.lt_size (hk _ _ q)) (Nat.lt_irrefl _)) (by simpa using hsz)
theorem list_of (Z : At w g cs env m r s.heap) (hl : isL s.heap l vs) (hsz : vs.length ≤ sizeLine)
    (h : ∀ a h', At w g cs env m r h' → New g cs env r a → isL h' a vs → s.heap.StaysIn h' → s.heap.get? a = none → Q (.ref a) { s with heap := h' }) : wpAny (model prg w) A (call (.type "list") [.ref l]) Q E s := by
  obtain ⟨n, e⟩ := hl
  exact call_list_seq l (.inl rfl) e rfl rfl (fun h' c' hk q => h _ h' (Z.grow hk) Z.pushed ⟨c', q⟩ hk (no_size _)) (by simpa using hsz)
theorem list_add (Z : At w g cs env m r s.heap) (hl : isL s.heap l vs) (hb : isL s.heap b ws) (hsz : vs.length + ws.length ≤ sizeLine)
    (h : ∀ a h', At w g cs env m r h' → New g cs env r a → isL h' a (vs ++ ws) → s.heap.StaysIn h' → s.heap.get? a = none → Q (.ref a) { s with heap := h' }) : wpAny (model prg w) A (binaryOp .Add (.ref l) (.ref b)) Q E s := by
  obtain ⟨n, e⟩ := hl
  obtain ⟨n2, e2⟩ := hb
  refine concat_meets ⟨_, e, rfl⟩ ⟨_, e2, rfl⟩ noFill_list_add seq_list_add PySem.F.slot_list_add PySem.F.entry_list_add (PySem.F.args_list_add_2 _ _) (list_addW l b vs.toArray ws.toArray n n2 none none #[] #[] (by simpa using hsz)) ⟨e, e2, ?_⟩
  exact h _ _ (Z.push _) Z.pushed ⟨0, by rw [Heap.get?_push_size _ rfl]; simp⟩ (stays_push _ _) (no_size _)
theorem list_times {x : Int} {u : Tok} (Z : At w g cs env m r s.heap) {v : Value} (hl : isL s.heap l [v]) (hlo : -(2 ^ 62) ≤ x) (hhi : x ≤ 2 ^ 20)
    (h : ∀ a h', At w g cs env m r h' → New g cs env r a → isL h' a (List.replicate x.toNat v) → s.heap.StaysIn h' → s.heap.get? a = none → Q (.ref a) { s with heap := h' }) : wpAny (model prg w) A (binaryOp .Mult (.ref l) (.int x u)) Q E s := by
  obtain ⟨n, e⟩ := hl
  refine wpAny_binaryOp_repeat_ref (T := "list") (U := "int") (by decide) ⟨_, e, rfl⟩ (fun s' => typeIs_int s' x u) noFill_list_mul F.fills_int_mul F.slot_int_rmul repeat_list F.slot_int_index.lookup
    (call_meets F.slot_int_rmul (typeIs_int s x u) F.entry_int_rmul (F.args_int_rmul_2 _ _) (int___rmul___int_list x u l [v].toArray n)
      ⟨e, rfl, ⟨_, e, rfl⟩, call_meets F.slot_list_mul ⟨_, e, rfl⟩ F.entry_list_mul (F.args_list_mul_2 _ _)
        (AutoListH.list___mul___list_int_3 l [v].toArray n x u (by simp [Builtin.List.listFitsIndex]; lia) (by simp; lia) (by simp [Builtin.List.listTooLong, sizeLine]; lia))
        ⟨e, ?_⟩⟩)
  refine h _ _ (Z.push _) Z.pushed ⟨0, ?_⟩ (stays_push _ _) (no_size _)
  rw [Heap.get?_push_size _ rfl]
  have : ∀ k : Nat, List.foldl (fun x1 x2 => x1 ++ x2) #[] (List.replicate k #[v]) = (List.replicate k v).toArray := by
    intro k
    have : ∀ (k : Nat) (acc : Array Value), List.foldl (fun x1 x2 => x1 ++ x2) acc (List.replicate k #[v]) = acc ++ (List.replicate k v).toArray := by
      intro k
      induction k with
      | zero => intro acc; simp
      | succ k ih => intro acc; rw [List.replicate_succ, List.foldl_cons, ih, List.replicate_succ]; apply Array.toList_inj.mp; simp
    simpa using this k #[]
  simp [this]
theorem list_append {x : Value} (Z : autoParam (At w g cs env m r s.heap) Ln.a_at) (rl : autoParam (isL r l vs) Ln.a_own) (hsz : autoParam (vs.length ≤ sizeLine) Ln.a_sz) (S : autoParam (Step as r₀ r) Ln.a_at) (hm : autoParam (l ∈ as ∨ r₀.get? l = none) Ln.a_mem)
    (h : ∀ h' r', At w g cs env m r' h' → isL r' l (vs ++ [x]) → Step as r₀ r' → Loc [l] r r' → Q .none { s with heap := h' }) : wpAny (model prg w) A (call (.builtin "list.append") [.ref l, x]) Q E s :=
  wpAny_list_append_plain (rl.up Z.own).plain (fun h' hl hs => by
    obtain ⟨r', a1, a2, a3, a4⟩ := Z.chg_list rl hs (isL.of_plain (by simpa using hl)) S hm
    exact h h' r' a1 a2 a3 a4) (by simpa using hsz)
theorem list_extend (Z : autoParam (At w g cs env m r s.heap) Ln.a_at) (rl : autoParam (isL r l vs) Ln.a_own) (hb : autoParam (isL s.heap b ws) Ln.a_see) (hsz : autoParam (vs.length + ws.length ≤ 2 ^ 20) Ln.a_li) (S : autoParam (Step as r₀ r) Ln.a_at) (hm : autoParam (l ∈ as ∨ r₀.get? l = none) Ln.a_mem)
    (h : ∀ h' r', At w g cs env m r' h' → isL r' l (vs ++ ws) → Step as r₀ r' → Loc [l] r r' → Q .none { s with heap := h' }) : wpAny (model prg w) A (call (.builtin "list.extend") [.ref l, .ref b]) Q E s := by
  obtain ⟨n, e⟩ := id rl
  obtain ⟨n2, e2⟩ := hb
  have e' := Z.own _ _ e
  refine call_meets F.slot_list_extend ⟨_, e', rfl⟩ F.entry_list_extend (F.args_list_extend_2 _ _) (AutoSeq1.list_extend_list_list_0 l vs.toArray n b ws.toArray n2 (by simp [Builtin.List.listTooLong, sizeLine]; lia) (by simp [sizeLine]; lia) (by simp [sizeLine]; lia)) ⟨e', e2, ?_⟩
  have self := Heap.get?_update_self (Obj.mapSeq fun x => x ++ ws.toArray) e' rfl
  obtain ⟨k, hk⟩ := mapSeq_list (vs := vs) (ws := vs ++ ws) (n := n) (f := fun x => x ++ ws.toArray) (by simp)
  obtain ⟨r', a1, a2, a3, a4⟩ := Z.chg_list rl (Heap.SameBut.update ..) (ws := vs ++ ws) ⟨k, by rw [self, hk]⟩ S hm
  exact h _ r' a1 a2 a3 a4
theorem list_popl {y : Value} (Z : autoParam (At w g cs env m r s.heap) Ln.a_at) (rl : autoParam (isL r l (vs ++ [y])) Ln.a_own) (hsz : autoParam (vs.length ≤ 2 ^ 20) Ln.a_li) (S : autoParam (Step as r₀ r) Ln.a_at) (hm : autoParam (l ∈ as ∨ r₀.get? l = none) Ln.a_mem)
    (h : ∀ h' r', At w g cs env m r' h' → isL r' l vs → Step as r₀ r' → Loc [l] r r' → Q y { s with heap := h' }) : wpAny (model prg w) A (call (.builtin "list.pop") [.ref l]) Q E s := by
  obtain ⟨n, e⟩ := id rl
  have e' := Z.own _ _ e
  refine call_meets F.slot_list_pop ⟨_, e', rfl⟩ F.entry_list_pop (F.args_list_pop_1 _) (MeetsSeq.list_pop_last l (vs ++ [y]).toArray n y (by simp) (by simp [sizeLine]; lia)) ⟨e', ?_⟩
  have self := Heap.get?_update_self (Obj.mapSeq fun xs => xs.eraseIdxIfInBounds ((vs ++ [y]).toArray.size - 1)) e' rfl
  obtain ⟨k, hk⟩ := mapSeq_list (vs := vs ++ [y]) (ws := vs) (n := n) (f := fun xs => xs.eraseIdxIfInBounds ((vs ++ [y]).toArray.size - 1)) (by
    apply Array.toList_inj.mp
    simp [Array.eraseIdxIfInBounds, List.eraseIdx_append_of_length_le])
  obtain ⟨r', a1, a2, a3, a4⟩ := Z.chg_list rl (Heap.SameBut.update ..) (ws := vs) ⟨k, by rw [self, hk]⟩ S hm
  exact h _ r' a1 a2 a3 a4
noncomputable def isR (h : Heap) (a : Addr) (vs : List Value) : Prop := h.IsList a vs.toArray
theorem isR.up {h h' : Heap} {a : Addr} {vs : List Value} (x : isR h a vs) (k : h.StaysIn h') : isR h' a vs := by
  obtain ⟨o, e, q⟩ := x
  exact ⟨o, k _ _ e, q⟩
theorem isL.row {h : Heap} {a : Addr} {vs : List Value} (x : isL h a vs) : isR h a vs := x.list
theorem list_set {k : Int} {t : Tok} {v : Value} {Q : Unit → Shared → Prop} (Z : autoParam (At w g cs env m r s.heap) Ln.a_at) (rl : autoParam (isR r l vs) Ln.a_at) (h0 : autoParam (0 ≤ k) Ln.a_li) (hn : autoParam (k < vs.length) Ln.a_li) (hfit : autoParam (k < 2 ^ 63) Ln.a_li) (S : autoParam (Step as r₀ r) Ln.a_at) (hm : autoParam (l ∈ as ∨ r₀.get? l = none) Ln.a_mem)
    (h : ∀ h' r', At w g cs env m r' h' → isR r' l (vs.set k.toNat v) → Step as r₀ r' → Loc [l] r r' → Q () { s with heap := h' }) : wpAny (model prg w) A (setItem (.ref l) (.int k t) v) Q E s := by
  obtain ⟨o, e, c, n, d⟩ := id rl
  refine wpAny_setItem_list (rl.up Z.own) h0 hfit (by simpa using hn) fun h' hl hs => ?_
  obtain ⟨o', e', c', n', d'⟩ := hl
  have hf := (Heap.get?_some_iff.mp e').2
  have st : Step [l] r (put r l o') := step_old (.head _) hf e (by rw [c]; decide)
  refine h h' _ (Z.chg e hs e') ⟨o', put_self _ _ hf, c', n', ?_⟩ (S.then st (fun a ha => by rw [List.mem_singleton.mp ha]; exact hm)) st
  rw [d']; simp
theorem item_row {value slice : PySem.Expr} {k : Int} {u : Tok} {v : Value} (hl : autoParam (isR s.heap l vs) Ln.a_see) (h0 : autoParam (0 ≤ k) Ln.a_do) (hhi : autoParam (k < 2 ^ 63) Ln.a_do) (hx : autoParam (vs[k.toNat]? = some v) Ln.a_ra) (h : Q v s)
    (hs : autoParam (subscripted slice false (.ref l) (.int k u) = operate [.ref l, .int k u] (getItem (.ref l) (.int k u))) Ln.a_wr) : wpAny (model prg w) A (subscriptTail value slice (.ref l) (.int k u)) Q E s :=
  tail_any (Heap.IsList.typeIs hl) slot_list_getitem.lookup (wpAny_getItem_list hl h0 hhi (by simpa using hx) h) hs
theorem item_last {value slice : PySem.Expr} {u : Tok} {v : Value} (hl : isL s.heap l (vs ++ [v])) (h : Q v s)
    (hs : subscripted slice false (.ref l) (.int (-1) u) = operate [.ref l, .int (-1) u] (getItem (.ref l) (.int (-1) u))) : wpAny (model prg w) A (subscriptTail value slice (.ref l) (.int (-1) u)) Q E s :=
  tail_any hl.list.typeIs slot_list_getitem.lookup (wpAny_getItem_list_neg hl.list (by decide) (by simp; lia) (by decide) (by rw [show (-1 + ((vs ++ [v]).toArray.size : Int)).toNat = vs.length by simp; lia]; simp) h) hs
theorem len_list (hl : autoParam (isL s.heap l vs) Ln.a_see) (hfit : autoParam (vs.length < 2 ^ 62) Ln.a_ll) (h : Q (.int vs.length (s.toks + 1)) { s with toks := s.toks + 1 + 1 }) : wpAny (model prg w) A (call (.builtin "len") [.ref l]) Q E s :=
  call_len_list hl.list (by simp; lia) (by simpa using h)

theorem len_0 (hl : autoParam (isL s.heap l []) Ln.a_see) (h : Q (.int 0 (s.toks + 1)) { s with toks := s.toks + 1 + 1 }) : wpAny (model prg w) A (call (.builtin "len") [.ref l]) Q E s := len_list hl (by decide) h
theorem len_1 {v : Value} (hl : autoParam (isL s.heap l [v]) Ln.a_see) (h : Q (.int 1 (s.toks + 1)) { s with toks := s.toks + 1 + 1 }) : wpAny (model prg w) A (call (.builtin "len") [.ref l]) Q E s := len_list hl (by simp) h
theorem len_2 {v u : Value} (hl : autoParam (isL s.heap l [v, u]) Ln.a_see) (h : Q (.int 2 (s.toks + 1)) { s with toks := s.toks + 1 + 1 }) : wpAny (model prg w) A (call (.builtin "len") [.ref l]) Q E s := len_list hl (by simp) h
/-! ## lists held against each other -/
theorem all_range {α : Type} [DecidableEq α] {xs ys : List α} {n : Nat} (hx : xs.length = n) (hy : ys.length = n) : (List.range n).all (fun j => decide (xs[j]? = ys[j]?)) = decide (xs = ys) := by
  by_cases e : xs = ys
  · subst e; simp
  · rw [decide_eq_false e]
    rw [List.all_eq_false]
    refine Classical.byContradiction fun z => e (List.ext_getElem? fun j => ?_)
    by_cases hj : j < n
    · refine Classical.byContradiction fun q => z ⟨j, List.mem_range.mpr hj, ?_⟩
      simpa using q
    · rw [List.getElem?_eq_none (by lia), List.getElem?_eq_none (by lia)]
theorem ne_gen {α : Type} [DecidableEq α] (xs ys : List α) (hl : isL s.heap l vs) (hb : isL s.heap b ws) (hu : A.units < cLine) (hx : xs.length = vs.length) (hy : ys.length = ws.length)
    (he : ∀ (j : Nat) (x y : α) (a c : Value), xs[j]? = some x → ys[j]? = some y → vs[j]? = some a → ws[j]? = some c → EqAt A.in1 s a c (decide (x = y))) (h : Q (.bool (decide (xs ≠ ys))) s) :
    wpAny (model prg w) A (compareOp .NotEq (.ref l) (.ref b)) Q E s := by
  by_cases hz : vs.length = ws.length
  · refine RcNeAt.lists (e := fun j => decide (xs[j]? = ys[j]?)) hl.list hb.list (by simpa using hz) hu (fun j h1 h2 => ?_) prg w E Q ?_
    · have h1' : j < vs.length := by simpa using h1
      have h2' : j < ws.length := by simpa using h2
      have := he j xs[j] ys[j] vs[j] ws[j] (by simp [hx, h1']) (by simp [hy, h2']) (by simp [h1']) (by simp [h2'])
      rw [List.getElem?_eq_getElem (by lia), List.getElem?_eq_getElem (by lia)]
      simpa using this
    · rw [show vs.toArray.size = vs.length from rfl, all_range hx (hy.trans hz.symm)]
      simpa using h
  · refine RcNeAt.lists_lengths hl.list hb.list (by simpa using hz) hu prg w E Q ?_
    have e : decide (xs ≠ ys) = true := by
      have : xs ≠ ys := fun e => hz (by rw [← hx, ← hy, e])
      simpa using this
    rw [e] at h
    exact h
theorem eq_gen {α : Type} [DecidableEq α] (xs ys : List α) (hl : isL s.heap l vs) (hb : isL s.heap b ws) (hu : A.units < cLine) (hx : xs.length = vs.length) (hy : ys.length = ws.length)
    (he : ∀ (j : Nat) (x y : α) (a c : Value), xs[j]? = some x → ys[j]? = some y → vs[j]? = some a → ws[j]? = some c → EqAt A.in1 s a c (decide (x = y))) (h : Q (.bool (decide (xs = ys))) s) :
    wpAny (model prg w) A (compareOp .Eq (.ref l) (.ref b)) Q E s := by
  by_cases hz : vs.length = ws.length
  · refine RcAt.lists (e := fun j => decide (xs[j]? = ys[j]?)) hl.list hb.list (by simpa using hz) hu (fun j h1 h2 => ?_) prg w E Q ?_
    · have h1' : j < vs.length := by simpa using h1
      have h2' : j < ws.length := by simpa using h2
      have := he j xs[j] ys[j] vs[j] ws[j] (by simp [hx, h1']) (by simp [hy, h2']) (by simp [h1']) (by simp [h2'])
      rw [List.getElem?_eq_getElem (by lia), List.getElem?_eq_getElem (by lia)]
      simpa using this
    · rw [show vs.toArray.size = vs.length from rfl, all_range hx (hy.trans hz.symm)]
      simpa using h
  · refine RcAt.lists_lengths hl.list hb.list (by simpa using hz) hu prg w E Q ?_
    rw [decide_eq_false (fun e => hz (by rw [← hx, ← hy, e]))] at h
    exact h
theorem eqAt_int {a b : Int} {t u : Tok} : EqAt A s (.int a t) (.int b u) (decide (a = b)) := fun prog w E Q h => wpAny_eqBool_int (by rw [show (a == b) = decide (a = b) from rfl]; exact h)

/-- ints in a row -/
theorem IntsAre.len {vs : List Value} {ns : List Int} (h : IntsAre vs ns) : vs.length = ns.length := by
  induction h with
  | nil => rfl
  | cons _ _ _ ih => simp [ih]
theorem IntsAre.get {vs : List Value} {ns : List Int} (h : IntsAre vs ns) : ∀ {j : Nat} {v : Value} {n : Int}, vs[j]? = some v → ns[j]? = some n → ∃ t, v = .int n t := by
  induction h with
  | nil => intro j v n e; simp at e
  | cons n t _ ih =>
    intro j v k e e'
    cases j with
    | zero => simp at e e'; exact ⟨t, by rw [← e, ← e']⟩
    | succ j => exact ih (by simpa using e) (by simpa using e')
theorem ne_ints {ns ms : List Int} (hl : isL s.heap l vs) (hb : isL s.heap b ws) (hu : A.units < cLine) (hx : IntsAre vs ns) (hy : IntsAre ws ms) (h : Q (.bool (decide (ns ≠ ms))) s) :
    wpAny (model prg w) A (compareOp .NotEq (.ref l) (.ref b)) Q E s :=
  ne_gen ns ms hl hb hu (IntsAre.len hx).symm (IntsAre.len hy).symm (fun j x y a c h1 h2 h3 h4 => by
    obtain ⟨t, rfl⟩ := IntsAre.get hx h3 h1
    obtain ⟨u, rfl⟩ := IntsAre.get hy h4 h2
    exact eqAt_int) h
theorem ne_nil (hl : autoParam (isL s.heap l vs) Ln.a_see) (hb : autoParam (isL s.heap b []) Ln.a_see) (hu : autoParam (A.units < cLine) Ln.a_om) (h : Q (.bool (decide (vs ≠ []))) s) :
    wpAny (model prg w) A (compareOp .NotEq (.ref l) (.ref b)) Q E s :=
  ne_gen (List.replicate vs.length ()) [] hl hb hu (by simp) rfl (fun j x y a c h1 h2 h3 h4 => by simp at h4) (by cases vs <;> simpa [List.replicate_succ] using h)
theorem eq_nil (hl : autoParam (isL s.heap l vs) Ln.a_see) (hb : autoParam (isL s.heap b []) Ln.a_see) (hu : autoParam (A.units < cLine) Ln.a_om) (h : Q (.bool (decide (vs = []))) s) :
    wpAny (model prg w) A (compareOp .Eq (.ref l) (.ref b)) Q E s :=
  eq_gen (List.replicate vs.length ()) [] hl hb hu (by simp) rfl (fun j x y a c h1 h2 h3 h4 => by simp at h4) (by cases vs <;> simpa [List.replicate_succ] using h)
end
end Pf
namespace Pf
theorem isL_put (r : Heap) (D : Addr) (ys : List Value) (k : Nat) : isL (put r D (listO ys k)) D ys := ⟨k, put_self _ _ rfl⟩
/-- a tuple that is owned or stays -/
noncomputable def seeT (r g : Heap) (a : Addr) (vs : List Value) : Prop := isT r a vs ∨ isT g a vs
theorem seeT.at {w : World} {g : Heap} {cs : List Addr} {env : Env} {m : Str → Option Value} {r h : Heap} {a : Addr} {vs : List Value} (x : seeT r g a vs) (Z : At w g cs env m r h) : isT h a vs := x.elim (fun q => q.up Z.own) fun q => q.up Z.base
theorem isT.step {as : List Addr} {r r' : Heap} {a : Addr} {vs : List Value} (x : isT r a vs) (S : Step as r r') : isT r' a vs := by
  obtain ⟨n, e⟩ := x
  exact ⟨n, S.tup _ _ e rfl⟩
theorem seeT.step {as : List Addr} {r r' g g' : Heap} {a : Addr} {vs : List Value} (x : seeT r g a vs) (S : Step as r r') (k : g.StaysIn g') : seeT r' g' a vs := x.imp (fun q => q.step S) fun q => q.up k
/-- an object of a class and what it holds -/
noncomputable def Inst (h : Heap) (x C : Addr) (vals : List (Str × Value)) : Prop := ∃ od, Ins h x C od ∧ ∀ name, lookIn name od = some (vals.lookup name)
theorem Inst.up {h h' : Heap} {x C : Addr} {vals : List (Str × Value)} (i : Inst h x C vals) (k : h.StaysIn h') : Inst h' x C vals := by
  obtain ⟨od, a, b⟩ := i
  exact ⟨od, a.up k, b⟩
theorem Mk.inst {r : Heap} {x C dx : Addr} {l : Attrs} (m : Mk r x C dx l) : Inst r x C (l.map fun y => (y.1, y.2.2.2)) := by
  obtain ⟨n, e⟩ := m.d
  refine ⟨_, Ins.of_mk m e, fun name => ?_⟩
  rw [lookIn_attrs]
  congr 1
  clear e m
  induction l with
  | nil => rfl
  | cons y l ih =>
    rw [List.find?_cons, List.map_cons, List.lookup_cons]
    by_cases q : y.1 = name
    · subst q; simp
    · have q1 : (y.1 == name) = false := by simpa using q
      have q2 : (name == y.1) = false := by simpa using fun e => q e.symm
      rw [q1, q2]; exact ih
section
variable {w : World} {A : Around} {E : Value → Shared → Prop} {s : Shared} {K : Frag} {x C : Addr} {vals : List (Str × Value)} {name : Str} {v : Value}
theorem inst_attr {expr : Bool} {Q : Value → Shared → Prop} {attr : Option Value} (X : autoParam (K.In s.heap) Ln.a_K) (I : autoParam (Inst s.heap x C vals) Ln.a_see) (hg : autoParam (plainGet K C name = true) Ln.a_ki) (hh : autoParam (hasDictIn K C = true) Ln.a_ki)
    (ha : autoParam (findIn K (.ref C) name = some attr) Ln.a_ki) (hn : autoParam (noGet K attr = true) Ln.a_ki) (hl : autoParam (vals.lookup name = some v) Ln.a_rf) (hv : autoParam (handedIn v = true) Ln.a_rf) (h : Q v { s with toks := s.toks + 1 }) : wpAny (model prg w) A (getAttr (.ref x) name expr) Q E s :=
  let ⟨_, i, q⟩ := I
  get_attr X i hg hh ha hn ((q name).trans (congrArg some hl)) hv h
theorem inst_meth {pl : Sem Bool} {Q : Value × List Value → Shared → Prop} {f : Addr} (X : autoParam (K.In s.heap) Ln.a_K) (I : autoParam (Inst s.heap x C vals) Ln.a_see) (hg : autoParam (plainGet K C name = true) Ln.a_ki)
    (hf : autoParam (findIn K (.ref C) name = some (some (.ref f))) Ln.a_ki) (ht : autoParam (isFn K (.ref f) = true) Ln.a_ki) (hl : autoParam (vals.lookup name = none) Ln.a_rf) (h : Q (.ref f, [.ref x]) s) : wpAny (model prg w) A (getMethod (.ref x) name pl) Q E s :=
  let ⟨_, i, q⟩ := I
  get_meth X i hg hf ht ((q name).trans (congrArg some hl)) h
theorem list_meth {pl : Sem Bool} {Q : Value × List Value → Shared → Prop} {id : String} {l : Addr} {vs : List Value} (slot : Slot "list" name id) (hty : typeOf (.builtin id) = pure (.type "method_descriptor")) (hl : autoParam (isL s.heap l vs) Ln.a_see)
    (h : Q (.builtin id, [.ref l]) s) : wpAny (model prg w) A (getMethod (.ref l) name pl) Q E s :=
  getMethod_list_of slot hty hl.list (let ⟨_, e⟩ := hl; ⟨_, e, rfl⟩) h
end
theorem upd_eq {m : Str → Option Value} {x : Str} {v : Value} : upd m x v x = some v := if_pos rfl
theorem upd_ne {m : Str → Option Value} {x y : Str} {v u : Value} (h : (y == x) = false) (e : m y = some u) : upd m x v y = some u := by
  unfold upd
  rw [if_neg (by simpa using h)]
  exact e
noncomputable def Stop (P : Prop) : Prop := P
theorem Stop.mk {P : Prop} (h : Stop P) : P := h
theorem lcomp {w : World} {A : Around} {g : Heap} {cs : List Addr} {env : Env} {base : Heap} {target elt iter : PySem.Expr} {scope : Scope} {cl : List (Str × Addr)} {pos : Pos} {Q : Value → Shared → Prop} {s : Shared} {m : Str → Option Value} {r : Heap}
    (Z : autoParam (At w g cs env m r s.heap) Ln.a_at) (U : autoParam (Up w g env A base) Ln.a_as) (hclos : autoParam (clos env scope.names [] = some cl) Ln.a_rf) (hfree : autoParam (okFree scope = true) Ln.a_dk) (hcell : autoParam (∀ y ∈ scope.names, y.2 ≠ .cell) Ln.a_dk) (hkind : autoParam (scope.kind = .function) Ln.a_rf)
    (hnames : autoParam (∀ y ∈ scope.names, y.2 = .local → scope.names.lookup y.1 = some .local) Ln.a_dk)
    (h : wpAny (model prg w) A (eval iter env) (fun xv s₁ => wpAny (model prg w) A (pyIter xv) (fun it s₂ => CompAt w A g cs env base scope cl target elt none Q it s₂) never s₁) never s)
    (hs : autoParam (∀ x, foldedSetIterable iter env x = pure x) Ln.a_xr) : wpAny (model prg w) A (eval (.ListComp elt [⟨target, iter, [], 0⟩] scope pos) env) Q never s := listcomp U hclos hfree hcell hkind hnames h hs
theorem lcomp_to {w : World} {A : Around} {g : Heap} {cs : List Addr} {env : Env} {base : Heap} {target elt iter : PySem.Expr} {scope : Scope} {cl : List (Str × Addr)} {y : Str} {pos py spos : Pos} {Q : Flow → Shared → Prop} {s : Shared} {m : Str → Option Value} {r : Heap}
    (Z : autoParam (At w g cs env m r s.heap) Ln.a_at) (hsw : autoParam (swapsWith (.ListComp elt [⟨target, iter, [], 0⟩] scope pos) (some (.Name y py)) spos.line env = pure true) Ln.a_rf) (hy : autoParam (env.kindOf y = some .local) Ln.a_rf) (hyk : autoParam (env.scope.kind = .function) Ln.a_rf)
    (U : autoParam (Up w g env A base) Ln.a_as) (hclos : autoParam (clos env scope.names [] = some cl) Ln.a_rf) (hfree : autoParam (okFree scope = true) Ln.a_dk) (hcell : autoParam (∀ y ∈ scope.names, y.2 ≠ .cell) Ln.a_dk) (hkind : autoParam (scope.kind = .function) Ln.a_rf)
    (hnames : autoParam (∀ y ∈ scope.names, y.2 = .local → scope.names.lookup y.1 = some .local) Ln.a_dk)
    (h : wpAny (model prg w) A (eval iter env) (fun xv s₁ => wpAny (model prg w) A (pyIter xv) (fun it s₂ => CompAt w A g cs env base scope cl target elt (some y) (fun _ => Q .next) it s₂) never s₁) never s)
    (hs : autoParam (∀ x, foldedSetIterable iter env x = pure x) Ln.a_xr) : wpAny (model prg w) A (exec (.Assign [.Name y py] (.ListComp elt [⟨target, iter, [], 0⟩] scope pos) spos) env) Q never s := listcomp_to hsw hy hyk U hclos hfree hcell hkind hnames h hs
theorem loop {w : World} {A : Around} {g : Heap} {cs : List Addr} {env : Env} {target iter : PySem.Expr} {body : List Stmt} {pos : Pos} {Q : Flow → Shared → Prop} {s : Shared} {m : Str → Option Value} {r : Heap} (Z : At w g cs env m r s.heap) (hA : A.handled = none)
    (h : wpAny (model prg w) A (eval iter env) (fun xv s₁ => wpAny (model prg w) A (pyIter xv) (fun it s₂ => ForAt w A g cs env target (execs body env) Q it s₂) never s₁) never s)
    (hs : ∀ x, foldedSetIterable iter env x = pure x) : wpAny (model prg w) A (exec (.For target iter body [] pos) env) Q never s := for_ hA h hs
end Pf
end
section
open PySem PySem.W PySem.Calls PyProof.Rows PySem.SeqAt
set_option Elab.async false
set_option compiler.extract_closed false
set_option maxRecDepth 100000
namespace Pf
/-! ## dicts -/
section
variable {w : World} {A : Around} {E : Value → Shared → Prop} {s : Shared} {g : Heap} {cs : List Addr} {env : Env} {m : Str → Option Value} {r r₀ : Heap} {as : List Addr} {d : Addr} {Q : Value → Shared → Prop}
variable {K : Type} [DecidableEq K] {knd : KeyKind prg w K} {kvs : List (K × Value)}

noncomputable def isD (knd : KeyKind prg w K) (h : Heap) (d : Addr) (kvs : List (K × Value)) : Prop := (d == sysModules) = false ∧ h.DictOf knd d kvs
theorem isD.up {h h' : Heap} (x : isD knd h d kvs) (k : h.StaysIn h') : isD knd h' d kvs := by
  obtain ⟨a, o, es, ep, e, q⟩ := x
  exact ⟨a, o, es, ep, k _ _ e, q⟩
theorem isD.step {h h' : Heap} (x : isD knd h d kvs) (S : Step as h h') (n : d ∉ as) : isD knd h' d kvs := by
  obtain ⟨a, o, es, ep, e, q⟩ := x
  exact ⟨a, o, es, ep, S.keep _ _ n e, q⟩
theorem chg_dict {h h' : Heap} {kvs' : List (K × Value)} (Z : At w g cs env m r h) (rd : isD knd r d kvs) (hs : Heap.SameBut d h h') (hd : h'.DictOf knd d kvs') (S : Step as r₀ r) (hm : d ∈ as ∨ r₀.get? d = none) :
    ∃ r', At w g cs env m r' h' ∧ isD knd r' d kvs' ∧ Step as r₀ r' ∧ Loc [d] r r' := by
  obtain ⟨lo, o, es, ep, e, c, _⟩ := rd
  obtain ⟨o', es', ep', e', q⟩ := hd
  have hf := (Heap.get?_some_iff.mp e').2
  have st : Step [d] r (put r d o') := step_old (.head _) hf e (by rw [c.1]; decide)
  exact ⟨_, Z.chg e hs e', ⟨lo, o', es', ep', put_self _ _ hf, q⟩, S.then st (fun a ha => by rw [List.mem_singleton.mp ha]; exact hm), st⟩
theorem At.noMod {h : Heap} (Z : At w g cs env m r h) (T : TopE g) : (h.objs.size == sysModules) = false :=
  beq_eq_false_iff_ne.mpr (Nat.ne_of_gt (modules_low (T.nolimit.keeps Z.base)))
theorem isD.of_empty {h : Heap} (lo : (d == sysModules) = false) (e : h.get? d = some emptyDict) : isD knd h d [] :=
  ⟨lo, emptyDict, #[], 0, e, ⟨rfl, rfl, rfl⟩, rfl, fun _ hx => by simp at hx, .nil, List.nodup_nil⟩
theorem dict_new {pos : Pos} (Z : autoParam (At w g cs env m r s.heap) Ln.a_at) (T : autoParam (TopE g) Ln.a_at) (S : autoParam (Step as r₀ r) Ln.a_at)
    (h : ∀ a h' r', At w g cs env m r' h' → (a == sysModules) = false → r'.get? a = some emptyDict → Step as r₀ r' → r.StaysIn r' → r.get? a = none → r₀.get? a = none → Q (.ref a) { s with heap := h' }) : wpAny (model prg w) A (eval (.Dict [] [] pos) env) Q E s :=
  wpAny_Dict_empty (by
    obtain ⟨r', a1, a2, a3, a4, a5⟩ := (Z.push emptyDict).take Z.pushed (Heap.get?_push_size _ rfl) S
    exact h _ _ r' a1 (Z.noMod T) a2 a3 a5 Z.pushed.nr (S.sub _ Z.pushed.nr))
theorem dict_item {value slice : PySem.Expr} {k : K} {key v : Value} (hd : autoParam (isD knd s.heap d kvs) Ln.a_see) (hk : autoParam (knd.is k key = true) Ln.a_key) (hv : autoParam (valueAt kvs k = some v) Ln.a_val) (h : Q v { s with toks := s.toks + 1 })
    (hs : autoParam (subscripted slice false (.ref d) key = operate [.ref d, key] (getItem (.ref d) key)) Ln.a_wr) : wpAny (model prg w) A (subscriptTail value slice (.ref d) key) Q E s :=
  tail_any hd.2.typeIs slot_dict_getitem.lookup (wpAny_getItem_of hk hd.2.mapOf hv h) hs
theorem dict_set {k : K} {key v : Value} {Q : Unit → Shared → Prop} (Z : autoParam (At w g cs env m r s.heap) Ln.a_at) (rd : autoParam (isD knd r d kvs) Ln.a_own) (hk : autoParam (knd.is k key = true) Ln.a_key) (hsz : autoParam (kvs.length ≤ 1000) Ln.a_li) (S : autoParam (Step as r₀ r) Ln.a_at) (hm : autoParam (d ∈ as ∨ r₀.get? d = none) Ln.a_mem)
    (h : ∀ h' r' tk, At w g cs env m r' h' → isD knd r' d (stored kvs k v) → Step as r₀ r' → Loc [d] r r' → Q () { s with heap := h', toks := tk }) : wpAny (model prg w) A (setItem (.ref d) key v) Q E s :=
  wpAny_setItem_pairs hk (rd.up Z.own).2 (fun h' hd hs => by
    obtain ⟨r', a1, a2, a3, a4⟩ := chg_dict Z rd hs hd S hm
    exact h h' r' _ a1 a2 a3 a4) (by rw [sizeLine_eq]; lia)
theorem dict_get {k : K} {key dflt : Value} (hd : autoParam (isD knd s.heap d kvs) Ln.a_see) (hk : autoParam (knd.is k key = true) Ln.a_key) (h : Q ((valueAt kvs k).getD dflt) { s with toks := s.toks + 1 }) :
    wpAny (model prg w) A (call (.builtin "dict.get") [.ref d, key, dflt]) Q E s :=
  call_meetsIn PySem.F.slot_dict_get hd.2.typeIs PySem.F.entry_dict_get (PySem.F.args_dict_get_3 _ _ _) (meets_dict_get_default knd d hk hd.1 dflt) ⟨_, hd.2.mapOf, h⟩
theorem dict_meth {pl : Sem Bool} {Q : Value × List Value → Shared → Prop} (hd : autoParam (isD knd s.heap d kvs) Ln.a_see) (h : Q (.builtin "dict.get", [.ref d]) s) : wpAny (model prg w) A (getMethod (.ref d) "get" pl) Q E s :=
  getMethod_builtin hd.2.typeIs PySem.F.plainAttrs_dict F.slot_dict_get PySem.F.type_dict_get hd.2.mapOf.noDict h
theorem valueAt_stored {k j : K} {v : Value} : valueAt (stored kvs k v) j = if j = k then some v else valueAt kvs j := by
  unfold stored valueAt
  split
  · rename_i hany
    rw [List.find?_map]
    by_cases e : j = k
    · subst e
      rw [if_pos rfl]
      obtain ⟨kv, h1, h2⟩ := List.any_eq_true.mp hany
      have h2 : kv.1 = j := by simpa using h2
      cases q : kvs.find? fun kv => decide (kv.1 = j) with
      | none =>
        have := List.find?_eq_none.mp q kv h1
        simp [h2] at this
      | some kv' =>
        have hq := List.find?_some q
        have e1 : (fun x : K × Value => decide (x.1 = j)) ∘ (fun kv => if kv.1 = j then (kv.1, v) else kv) = fun x => decide (x.1 = j) := by
          funext x
          by_cases z : x.1 = j <;> simp [z]
        have hq' : kv'.1 = j := by simpa using hq
        rw [e1, q]
        simp [hq']
    · rw [if_neg e]
      have e1 : (fun x : K × Value => decide (x.1 = j)) ∘ (fun kv => if kv.1 = k then (kv.1, v) else kv) = fun x => decide (x.1 = j) := by
        funext x
        by_cases z : x.1 = k <;> simp [z]
      rw [e1]
      cases q : kvs.find? fun kv => decide (kv.1 = j) with
      | none => rfl
      | some kv' =>
        have hq : kv'.1 = j := by simpa using List.find?_some q
        have : ¬ kv'.1 = k := fun z => e (hq ▸ z)
        simp [this]
  · rename_i hany
    rw [List.find?_append]
    by_cases e : j = k
    · subst e
      rw [if_pos rfl]
      have : kvs.find? (fun kv => decide (kv.1 = j)) = none := by
        rw [List.find?_eq_none]
        intro x hx hxj
        exact hany (List.any_eq_true.mpr ⟨x, hx, hxj⟩)
      simp [this]
    · rw [if_neg e]
      have e' : ¬ k = j := fun z => e z.symm
      simp [e']
theorem stored_len {k : K} {v : Value} : (stored kvs k v).length ≤ kvs.length + 1 := by
  unfold stored; split <;> simp
end

section
variable {w : World} {K : Type} [DecidableEq K] {knd : KeyKind prg w K}
theorem Wk.dict (I d : Addr) (hne : d ≠ I) (kvs : List (K × Value)) (ep : Nat) : Wk w I [I, d] kvs.length (fun i v => ∃ k x, kvs[i]? = some (k, x) ∧ knd.is k v = true) (fun i h => h.IsKeyIter I d i kvs.length ep ∧ h.DictAt knd d kvs ep) where
  walks := fun A hh => Walks.dictKeys (prog := prg) (w := w) (A := A) hh I d hne kvs ep
  go := fun A target i v s Q E st h => let ⟨o, ho, hc, _⟩ := st.1; letGo ho hc (by decide) h
  live := fun i h st => let ⟨o, ho, _⟩ := st.1; ⟨o, ho⟩
variable {A : Around} {s : Shared} {g : Heap} {cs : List Addr} {env : Env} {base : Heap} {m : Str → Option Value} {r : Heap} {scope : Scope} {cl : List (Str × Addr)} {target elt : PySem.Expr} {use : Option Str} {Q : Value → Shared → Prop}
noncomputable def Prmcomp_dict_turn (w : World) {K : Type} [DecidableEq K] (knd : KeyKind prg w K) (A : Around) (s : Shared) (g : Heap) (env : Env) (base : Heap) (m : Str → Option Value) (scope : Scope) (cl : List (Str × Addr)) (target : PySem.Expr) (elt : PySem.Expr) (kvs : List (K × Value)) (J : Nat → Heap → List Value → Prop) (i : Nat) (k : K) (x : Value) (v : Value) (r₁ : Heap) (ys : List Value) (h : Heap) (tk : Tok) (gB : Heap) (C : Addr) (mC : Str → Option Value) : Prop :=
  kvs[i]? = some (k, x) → knd.is k v = true → J i r₁ ys → g.StaysIn gB → At w gB [] (cenvOf scope cl C env) mC r₁ h → (∀ x c, cl.lookup x = some c → mC x = m x) → Up w gB (cenvOf scope cl C env) A base →
      wpAny (model prg w) A (assign target (cenvOf scope cl C env) v) (fun _ s' => wpAny (model prg w) A (eval elt (cenvOf scope cl C env)) (ElemEnd w gB (cenvOf scope cl C env) (fun r' y => J (i + 1) r' (ys ++ [y])) s) never s') never { s with heap := h, toks := tk }
noncomputable def Prmcomp_dict_done (w : World) {K : Type} [DecidableEq K] (s : Shared) (g : Heap) (cs : List Addr) (env : Env) (m : Str → Option Value) (use : Option Str) (Q : Value → Shared → Prop) (kvs : List (K × Value)) (J : Nat → Heap → List Value → Prop) (D : Addr) (k : Nat) (ys : List Value) (r' : Heap) (h : Heap) (tk : Tok) : Prop :=
  J kvs.length r' ys → ys.length = kvs.length → s.heap.get? D = none → r'.get? D = none → At w g cs env (useM use m D) (put r' D (listO ys k)) h → Q (.ref D) { s with heap := h, toks := tk }
theorem comp_dict {d : Addr} {kvs : List (K × Value)} (hd : isD knd s.heap d kvs) (hsz : kvs.length ≤ sizeLine) (Z : At w g cs env m r s.heap)
    (J : Nat → Heap → List Value → Prop) (hsrc : ∀ i r' ys, J i r' ys → ∀ o, r.get? d = some o → r'.get? d = some o) (j0 : J 0 r [])
    (turn : ∀ i k x v r₁ ys h tk gB C mC, Prmcomp_dict_turn w knd A s g env base m scope cl target elt kvs J i k x v r₁ ys h tk gB C mC)
    (done : ∀ D k ys r' h tk, Prmcomp_dict_done w s g cs env m use Q kvs J D k ys r' h tk) :
    wpAny (model prg w) A (pyIter (.ref d)) (fun it s₂ => CompAt w A g cs env base scope cl target elt use Q it s₂) never s := by
  have N := Z.pushed
  obtain ⟨lo, hd⟩ := hd
  obtain ⟨ep, hat⟩ := hd.dictAt
  obtain ⟨o, es, e, hrest⟩ := id hat
  have hne : d ≠ s.heap.objs.size := by rintro rfl; rw [no_size] at e; cases e
  refine wpAny_pyIter_dict lo hat ⟨s.heap.objs.size, [s.heap.objs.size, d], kvs.length, _, _, m, r, J, rfl, Wk.dict s.heap.objs.size d hne kvs ep, ⟨⟨_, Heap.get?_push_size _ rfl, rfl, rfl⟩, hat.push _⟩, Z.push _, ⟨N.nr, N.ng, N.nl, N.nc⟩, ?_, ?_, j0, hsz, ?_, fun D k ys r' h tk a1 a2 a3 a4 a5 => done D k ys r' h tk a1 a2 ?_ a4 a5⟩
  · intro b hb
    rcases List.mem_cons.mp hb with rfl | hb
    · exact ⟨_, Heap.get?_push_size _ rfl⟩
    · rw [List.mem_singleton.mp hb]
      exact ⟨_, Heap.get?_push_of_some _ e⟩
  · intro i r' ys hJ b hb o' eo
    rcases List.mem_cons.mp hb with rfl | hb
    · rw [N.nr] at eo; cases eo
    · rw [List.mem_singleton.mp hb] at eo ⊢
      exact hsrc i r' ys hJ o' eo
  · rintro i v r₁ ys h tk gB C mC hi ⟨k, x, h1, h2⟩ hJ hg Z₁ hc hU
    exact turn i k x v r₁ ys h tk gB C mC h1 h2 hJ hg Z₁ hc hU
  · cases q : s.heap.get? D with
    | none => rfl
    | some o' => rw [Heap.get?_push_of_some _ q] at a3; cases a3
end

/-! ## new lists, owned at once -/
section
variable {w : World} {A : Around} {E : Value → Shared → Prop} {s : Shared} {g : Heap} {cs : List Addr} {env : Env} {m : Str → Option Value} {r r₀ : Heap} {as : List Addr} {vs ws : List Value} {l b : Addr} {Q : Value → Shared → Prop}
/-- what is done with a new list -/
noncomputable def Own (w : World) (g : Heap) (cs : List Addr) (env : Env) (m : Str → Option Value) (r r₀ : Heap) (as : List Addr) (vs : List Value) (Q : Value → Shared → Prop) (s : Shared) : Prop :=
  ∀ a h' r', At w g cs env m r' h' → isL r' a vs → Step as r₀ r' → r.StaysIn r' → r.get? a = none → r₀.get? a = none → Q (.ref a) { s with heap := h' }
theorem Own.take (o : Own w g cs env m r r₀ as vs Q s) (S : Step as r₀ r) {a : Addr} {h' : Heap} (Z : At w g cs env m r h') (N : New g cs env r a) (hl : isL h' a vs) : Q (.ref a) { s with heap := h' } := by
  obtain ⟨n, e⟩ := hl
  obtain ⟨r', a1, a2, a3, a4, a5⟩ := Z.take N e S
  exact o a h' r' a1 ⟨n, a2⟩ a3 a5 N.nr (S.sub _ N.nr)
theorem own_list (Z : autoParam (At w g cs env m r s.heap) Ln.a_at) (S : autoParam (Step as r₀ r) Ln.a_at) (hsz : autoParam (vs.length ≤ sizeLine) Ln.a_sz) (h : Own w g cs env m r r₀ as vs Q s) : wpAny (model prg w) A (newList vs) Q E s :=
  new_list Z hsz fun _ _ a1 a2 a3 _ _ => h.take S a1 a2 a3
theorem own_of (Z : autoParam (At w g cs env m r s.heap) Ln.a_at) (S : autoParam (Step as r₀ r) Ln.a_at) (hl : autoParam (isL s.heap l vs) Ln.a_see) (hsz : autoParam (vs.length ≤ sizeLine) Ln.a_sz) (h : Own w g cs env m r r₀ as vs Q s) : wpAny (model prg w) A (call (.type "list") [.ref l]) Q E s :=
  list_of Z hl hsz fun _ _ a1 a2 a3 _ _ => h.take S a1 a2 a3
theorem own_add (Z : autoParam (At w g cs env m r s.heap) Ln.a_at) (S : autoParam (Step as r₀ r) Ln.a_at) (hl : autoParam (isL s.heap l vs) Ln.a_see) (hb : autoParam (isL s.heap b ws) Ln.a_see) (hsz : autoParam (vs.length + ws.length ≤ sizeLine) Ln.a_sz) (h : Own w g cs env m r r₀ as (vs ++ ws) Q s) : wpAny (model prg w) A (binaryOp .Add (.ref l) (.ref b)) Q E s :=
  list_add Z hl hb hsz fun _ _ a1 a2 a3 _ _ => h.take S a1 a2 a3
theorem own_times {x : Int} {u : Tok} {v : Value} (Z : autoParam (At w g cs env m r s.heap) Ln.a_at) (S : autoParam (Step as r₀ r) Ln.a_at) (hl : autoParam (isL s.heap l [v]) Ln.a_see) (hlo : autoParam (-(2 ^ 62) ≤ x) Ln.a_li) (hhi : autoParam (x ≤ 2 ^ 20) Ln.a_li) (h : Own w g cs env m r r₀ as (List.replicate x.toNat v) Q s) : wpAny (model prg w) A (binaryOp .Mult (.ref l) (.int x u)) Q E s :=
  list_times Z hl hlo hhi fun _ _ a1 a2 a3 _ _ => h.take S a1 a2 a3
theorem At.beyond {h : Heap} (Z : At w g cs env m r h) {a : Addr} (ha : h.objs.size ≤ a) : New g cs env r a := by
  have no : ∀ (z : Heap), z.StaysIn h → z.get? a = none := fun z hz => by
    cases e : z.get? a with
    | none => rfl
    | some o => exact absurd (Heap.lt_size (hz _ _ e)) (Nat.not_lt.mpr ha)
  obtain ⟨mL, ⟨oL, _, _, hL, _⟩, _⟩ := Z.ns
  refine ⟨no r Z.own, no g Z.base, Nat.ne_of_gt (Nat.lt_of_lt_of_le (Heap.lt_size hL) ha), fun hc => ?_⟩
  obtain ⟨_, _, _, x, hx⟩ := Z.csr _ hc
  exact absurd (Nat.lt_of_lt_of_le (Z.cell x _ hx).1.lt ha) (Nat.lt_irrefl _)
theorem own_sorted {ns : List Int} (Z : autoParam (At w g cs env m r s.heap) Ln.a_at) (S : autoParam (Step as r₀ r) Ln.a_at) (hl : autoParam (isL s.heap l vs) Ln.a_see) (hI : autoParam (IntsAre vs ns) Ln.a_at) (h64 : autoParam (vs.length < 64) Ln.a_li)
    (h : ∀ vs' ns', IntsAre vs' ns' → ns'.Perm ns → Own w g cs env m r r₀ as vs' Q s) : wpAny (model prg w) A (call (.builtin "sorted") [.ref l]) Q E s :=
  sorted_ints hl.list hI h64 fun out ns' h1 h2 _ => by
    obtain ⟨e, he⟩ := sortedAll_at s.heap vs out
    exact (h out.toList ns' h1 h2).take S (Z.grow fun _ _ => sortedAll_old) (Z.beyond (Nat.le_succ _)) ⟨e, by rw [he]⟩
end

section
variable {w : World} {A : Around} {E : Value → Shared → Prop} {s : Shared} {vs : List Value} {l b : Addr} {v : Value} {Q : Value → Shared → Prop}
theorem ne_nil0 (hl : autoParam (isL s.heap l []) Ln.a_see) (hb : autoParam (isL s.heap b []) Ln.a_see) (hu : autoParam (A.units < cLine) Ln.a_om) (h : Q (.bool false) s) : wpAny (model prg w) A (compareOp .NotEq (.ref l) (.ref b)) Q E s := ne_nil hl hb hu (by simpa using h)
theorem ne_nilc (hl : autoParam (isL s.heap l (v :: vs)) Ln.a_see) (hb : autoParam (isL s.heap b []) Ln.a_see) (hu : autoParam (A.units < cLine) Ln.a_om) (h : Q (.bool true) s) : wpAny (model prg w) A (compareOp .NotEq (.ref l) (.ref b)) Q E s := ne_nil hl hb hu (by simpa using h)
theorem eq_nil0 (hl : autoParam (isL s.heap l []) Ln.a_see) (hb : autoParam (isL s.heap b []) Ln.a_see) (hu : autoParam (A.units < cLine) Ln.a_om) (h : Q (.bool true) s) : wpAny (model prg w) A (compareOp .Eq (.ref l) (.ref b)) Q E s := eq_nil hl hb hu (by simpa using h)
theorem eq_nilc (hl : autoParam (isL s.heap l (v :: vs)) Ln.a_see) (hb : autoParam (isL s.heap b []) Ln.a_see) (hu : autoParam (A.units < cLine) Ln.a_om) (h : Q (.bool false) s) : wpAny (model prg w) A (compareOp .Eq (.ref l) (.ref b)) Q E s := eq_nil hl hb hu (by simpa using h)
end
theorem Mk.step {as : List Addr} {r r' : Heap} {x C dx : Addr} {l : Attrs} (m : Mk r x C dx l) (S : Step as r r') (h1 : x ∉ as) (h2 : dx ∉ as) : Mk r' x C dx l := ⟨S.keep _ _ h1 m.x, let ⟨n, e⟩ := m.d; ⟨n, S.keep _ _ h2 e⟩⟩

/-! ## methods that are handed on -/
theorem findObj_fn {K : Frag} {C : Addr} {od : Obj} {name : Str} {a g : Value} (hh : hasDictIn K C = true) (ha : findIn K (.ref C) name = some (some a)) (hg : specialIn K a "__get__" = some (some g)) (ht : takesIn K a = some false)
    (hc : copiedNames.contains name = false) (hl : lookIn name od = some none) : findObj K C (some od) name = some (.bind g a) := by
  obtain ⟨cd, hc', hd⟩ := any_some hh
  have ho : PySem.W.ownOf cd (some od) name = some none := by unfold PySem.W.ownOf; rw [if_pos hd]; exact hl
  unfold findObj
  rw [hc', Option.bind_some, ha, Option.bind_some]
  simp only [hg, ht, Option.bind_some, ho, hc, Bool.false_and, Bool.false_eq_true, if_false]
section
variable {w : World} {A : Around} {E : Value → Shared → Prop} {s : Shared} {g : Heap} {cs : List Addr} {env : Env} {m : Str → Option Value} {r r₀ : Heap} {as : List Addr} {K : Frag} {x C f : Addr} {vals : List (Str × Value)} {name : Str} {Q : Value → Shared → Prop}
theorem inst_bound {expr : Bool} (X : autoParam (K.In s.heap) Ln.a_K) (Z : autoParam (At w g cs env m r s.heap) Ln.a_at) (S : autoParam (Step as r₀ r) Ln.a_at) (I : autoParam (Inst s.heap x C vals) Ln.a_see) (hg : autoParam (plainGet K C name = true) Ln.a_ki) (hh : autoParam (hasDictIn K C = true) Ln.a_ki)
    (ha : autoParam (findIn K (.ref C) name = some (some (.ref f))) Ln.a_ki) (hs : autoParam (specialIn K (.ref f) "__get__" = some (some (.builtin "function.__get__"))) Ln.a_ki) (ht : autoParam (takesIn K (.ref f) = some false) Ln.a_ki) (hc : autoParam (copiedNames.contains name = false) Ln.a_dk)
    (hf : autoParam (typeIn K (.ref f) = some (.type "function")) Ln.a_ki) (hl : autoParam (vals.lookup name = none) Ln.a_rf)
    (h : ∀ q h' r', At w g cs env m r' h' → r'.get? q = some (methodObj (.ref f) (.ref x)) → Step as r₀ r' → r.StaysIn r' → r.get? q = none → r₀.get? q = none → Q (.ref q) { s with heap := h', toks := s.toks + 1 }) :
    wpAny (model prg w) A (getAttr (.ref x) name expr) Q E s := by
  obtain ⟨od, i, q⟩ := I
  obtain ⟨ox, ii⟩ := i.inst
  refine get_bind X ii (plainGet_of hg).1 (findObj_fn hh ha hs ht hc ((q name).trans (congrArg some hl))) (plainGet_of hg).2 (wpAny_call (fn_get (s := { s with toks := s.toks + 1 }) X hf (handed_on rfl ?_)))
  obtain ⟨r', a1, a2, a3, a4, a5⟩ := (Z.push (methodObj (.ref f) (.ref x))).take Z.pushed (Heap.get?_push_size _ rfl) S
  exact h _ _ r' a1 a2 a3 a5 Z.pushed.nr (S.sub _ Z.pushed.nr)
theorem callWith_bm {pos : Pos} {q : Addr} {self : Value} {first : List Value} {e : PySem.Expr} {rest : List PySem.Expr} (hf : fnIn K f = true)
    (h : wpAny (model prg w) A (spliced (backTo pos (starEach (e :: rest) env))) (fun vs s₁ => MethP K q f self s₁.heap ∧ wpAny (model prg w) A (call (.ref q) (first ++ vs)) Q E s₁) E s)
    (he : starEach (e :: rest) env = (false, eval e env) :: starEach rest env) (hplain : (backTo pos (starEach rest env)).any (·.1) = false) :
    wpAny (model prg w) A (callWith pos (.ref q) first (backTo pos (starEach (e :: rest) env)) []) Q E s := by
  rw [he] at h ⊢
  exact callWith_of (by show ((false || (backTo pos (starEach rest env)).any (·.1)) || false) = false; rw [hplain]; rfl) (keeps_M hf) (evalArgs_plain h)
end
theorem Call.bound {w : World} {r : Heap} {as : List Addr} {f bm : Addr} {self : Value} {args : List Value} {n : Nat} {Post : Value → Heap → Prop} (hb : r.get? bm = some (methodObj (.ref f) self)) (C : Call w r as (.ref f) (self :: args) n Post) : Call w r as (.ref bm) args n Post :=
  ⟨C.live, fun dp un gd env outer base s R hr hx hd hu hret => method_call (hr _ _ hb) (C.run dp un gd env outer base s R hr hx hd hu hret)⟩
end Pf
end
section
open PySem PySem.W PySem.Calls PyProof.Rows PySem.SeqAt
set_option Elab.async false
set_option compiler.extract_closed false
set_option maxRecDepth 100000
namespace Pf
/-! ## dicts by pairs -/
abbrev tK (w : World) : HeapKind prg w (List Int) := tupleKind (intKind prg w)
abbrev Ents := List (List Int × Addr × Value)
/-- a dict by tuples of ints, of an epoch -/
noncomputable def KAt (w : World) (h : Heap) (d : Addr) (xs : Ents) (ep : Nat) : Prop :=
  (d == sysModules) = false ∧ ∃ o es, h.get? d = some o ∧ o.ExactDict ∧ o.data = .dict es ep ∧ es.toList = xs.map (entryOfKey (tK w)) ∧ (∀ x ∈ xs, (tK w).is h x.1 x.2.1) ∧ (xs.map (·.1)).Nodup
noncomputable def isP (w : World) (h : Heap) (d : Addr) (xs : Ents) : Prop := ∃ ep, KAt w h d xs ep
noncomputable def isKey (w : World) (h : Heap) (a : Addr) (ks : List Int) : Prop := (tK w).is h ks a
section
variable {w : World} {h h' : Heap} {d a : Addr} {xs : Ents} {ep : Nat} {ks : List Int} {as : List Addr}
theorem isKey.up (x : isKey w h a ks) (k : h.StaysIn h') : isKey w h' a ks := by
  obtain ⟨o, it, n, e, q⟩ := x
  exact ⟨o, it, n, k _ _ e, q⟩
theorem isKey.step (x : isKey w h a ks) (S : Step as h h') : isKey w h' a ks := by
  obtain ⟨o, it, n, e, c, q⟩ := x
  exact ⟨o, it, n, S.tup _ _ e c, c, q⟩
theorem isT.key {p q : Int} {t u : Tok} (x : isT h a [.int p t, .int q u]) : isKey w h a [p, q] := by
  obtain ⟨n, e⟩ := x
  exact ⟨_, _, n, e, rfl, rfl, .cons (intKind_is prg w p t) (.cons (intKind_is prg w q u) .nil)⟩
theorem KAt.up (x : KAt w h d xs ep) (k : h.StaysIn h') : KAt w h' d xs ep := by
  obtain ⟨lo, o, es, e, c, q1, q2, q3, q4⟩ := x
  exact ⟨lo, o, es, k _ _ e, c, q1, q2, fun y hy => isKey.up (q3 y hy) k, q4⟩
theorem isP.up (x : isP w h d xs) (k : h.StaysIn h') : isP w h' d xs := by
  obtain ⟨ep, x⟩ := x
  exact ⟨ep, x.up k⟩
theorem KAt.step (x : KAt w h d xs ep) (S : Step as h h') (n : d ∉ as) : KAt w h' d xs ep := by
  obtain ⟨lo, o, es, e, c, q1, q2, q3, q4⟩ := x
  exact ⟨lo, o, es, S.keep _ _ n e, c, q1, q2, fun y hy => isKey.step (q3 y hy) S, q4⟩
theorem isP.step (x : isP w h d xs) (S : Step as h h') (n : d ∉ as) : isP w h' d xs := by
  obtain ⟨ep, x⟩ := x
  exact ⟨ep, x.step S n⟩
theorem KAt.dict (x : KAt w h d xs ep) : h.DictOfH (tK w) d xs := by
  obtain ⟨_, o, es, e, c, q1, q2, q3, q4⟩ := x
  exact ⟨o, es, ep, e, c, q1, q2, q3, q4⟩
theorem isP.dict (x : isP w h d xs) : h.DictOfH (tK w) d xs := by
  obtain ⟨_, x⟩ := x
  exact x.dict
theorem isP.lo (x : isP w h d xs) : (d == sysModules) = false := by
  obtain ⟨_, x⟩ := x
  exact x.1
theorem isP.live (x : isP w h d xs) : ∃ o, h.get? d = some o := by
  obtain ⟨_, _, o, _, e, _⟩ := x
  exact ⟨o, e⟩
theorem isP.of_empty (lo : (d == sysModules) = false) (e : h.get? d = some emptyDict) : isP w h d [] := ⟨0, lo, emptyDict, #[], e, ⟨rfl, rfl, rfl⟩, rfl, rfl, fun _ hx => by simp at hx, List.nodup_nil⟩
theorem isP.nodup (x : isP w h d xs) : (xs.map (·.1)).Nodup := by
  obtain ⟨_, _, _, _, _, _, _, _, _, q⟩ := x
  exact q
theorem isP.key (x : isP w h d xs) {y : List Int × Addr × Value} (hy : y ∈ xs) : isKey w h y.2.1 y.1 := by
  obtain ⟨_, _, _, _, _, _, _, _, q, _⟩ := x
  exact q y hy
end
theorem mem_put {xs : Ents} {k : List Int} {v : Value} {x : List Int × Addr × Value} (h : x ∈ xs.map (putAt k v)) : ∃ y ∈ xs, x.1 = y.1 ∧ x.2.1 = y.2.1 := by
  obtain ⟨y, hy, rfl⟩ := List.mem_map.mp h
  refine ⟨y, hy, ?_⟩
  unfold putAt
  split <;> exact ⟨rfl, rfl⟩
theorem mem_stored {xs : Ents} {k : List Int} {a : Addr} {v : Value} {x : List Int × Addr × Value} (h : x ∈ storedH xs k a v) : (∃ y ∈ xs, x.1 = y.1 ∧ x.2.1 = y.2.1) ∨ (x.1 = k ∧ x.2.1 = a) := by
  unfold storedH at h
  split at h
  · exact .inl (mem_put h)
  · rcases List.mem_append.mp h with h | h
    · exact .inl ⟨x, h, rfl, rfl⟩
    · rw [List.mem_singleton.mp h]; exact .inr ⟨rfl, rfl⟩
theorem storedH_len {xs : Ents} {k : List Int} {a : Addr} {v : Value} : (storedH xs k a v).length ≤ xs.length + 1 := by
  unfold storedH; split <;> simp
theorem atKey_put {xs : Ents} {k j : List Int} {v : Value} {p : Addr × Value} (h : atKey xs k = some p) : (atKey (xs.map (putAt k v)) j).map (·.2) = if j = k then some v else (atKey xs j).map (·.2) := by
  induction xs with
  | nil => cases h
  | cons x xs ih =>
    unfold atKey at h ih ⊢
    rw [List.map_cons, List.find?_cons, List.find?_cons]
    rw [List.find?_cons] at h
    by_cases q : x.1 = k
    · by_cases z : j = k
      · subst z; simp [putAt, q]
      · have e1 : ¬ k = j := fun e => z e.symm
        simp only [putAt, q, if_true, e1, decide_false]
        rw [if_neg z]
        by_cases hm : k ∈ xs.map (·.1)
        · obtain ⟨y, hy, hyk⟩ := List.mem_map.mp hm
          have : (xs.find? fun x => decide (x.1 = k)).map (·.2) ≠ none := by
            rw [ne_eq, Option.map_eq_none_iff, List.find?_eq_none]
            intro hh; exact hh y hy (by simpa using hyk)
          obtain ⟨p', hp'⟩ := Option.ne_none_iff_exists'.mp this
          have ih' := @ih
          simp only [if_neg z] at ih'
          clear ih h
          induction xs with
          | nil => rfl
          | cons y ys ih2 =>
            exact (by
              have key : ∀ (l : Ents), (Option.map (fun x : Addr × Value => x.2) (Option.map (fun x : List Int × Addr × Value => x.2) (List.find? (fun x => decide (x.1 = j)) (l.map (putAt k v))))) = Option.map (fun x : Addr × Value => x.2) (Option.map (fun x : List Int × Addr × Value => x.2) (List.find? (fun x => decide (x.1 = j)) l)) := by
                intro l
                induction l with
                | nil => rfl
                | cons a l ihl =>
                  rw [List.map_cons, List.find?_cons, List.find?_cons]
                  by_cases qa : a.1 = k
                  · have : ¬ a.1 = j := by rw [qa]; exact e1
                    simp [putAt, qa, e1]; simpa using ihl
                  · by_cases qj : a.1 = j
                    · simp [putAt, qa, qj, z]
                    · simp [putAt, qa, qj]; simpa using ihl
              exact key _)
        · rw [map_putAt_of_not_mem xs k v hm]
    · have hp : putAt k v x = x := by simp [putAt, q]
      rw [hp]
      by_cases z : x.1 = j
      · have : ¬ j = k := by rw [← z]; exact q
        simp [z, this]
      · simp only [z, decide_false]
        simp only [q, decide_false] at h
        exact ih h
theorem atKey_stored {xs : Ents} {k j : List Int} {a : Addr} {v : Value} : (atKey (storedH xs k a v) j).map (·.2) = if j = k then some v else (atKey xs j).map (·.2) := by
  unfold storedH
  split
  · rename_i h
    obtain ⟨p, e⟩ := Option.isSome_iff_exists.mp h
    exact atKey_put e
  · rename_i h
    have h : atKey xs k = none := by simpa using h
    unfold atKey at h ⊢
    rw [List.find?_append]
    by_cases z : j = k
    · subst z
      have : xs.find? (fun x => decide (x.1 = j)) = none := by simpa using h
      simp [this]
    · have e1 : ¬ k = j := fun e => z e.symm
      simp [z, e1]

section
variable {w : World} {A : Around} {E : Value → Shared → Prop} {s : Shared} {g : Heap} {cs : List Addr} {env : Env} {m : Str → Option Value} {r r₀ : Heap} {as : List Addr} {d a : Addr} {xs : Ents} {ep : Nat} {k : List Int} {v : Value}
theorem chg_tab {h h' : Heap} {ys : Ents} {ep' : Nat} (Z : At w g cs env m r h) (rd : KAt w r d xs ep) (hs : Heap.SameBut d h h') (hd : KAt w h' d ys ep') (hk : ∀ y ∈ ys, (∃ x ∈ xs, y.1 = x.1 ∧ y.2.1 = x.2.1) ∨ isKey w r y.2.1 y.1) (S : Step as r₀ r) (hm : d ∈ as ∨ r₀.get? d = none) :
    ∃ r', At w g cs env m r' h' ∧ KAt w r' d ys ep' ∧ Step as r₀ r' ∧ Loc [d] r r' := by
  obtain ⟨lo, o, es, e, c, q1, q2, q3, q4⟩ := rd
  obtain ⟨_, o', es', e', c', p1, p2, p3, p4⟩ := hd
  have hf := (Heap.get?_some_iff.mp e').2
  have st : Step [d] r (put r d o') := step_old (.head _) hf e (by rw [c.1]; decide)
  refine ⟨_, Z.chg e hs e', ⟨lo, o', es', put_self _ _ hf, c', p1, p2, fun y hy => ?_, p4⟩, S.then st (fun a ha => by rw [List.mem_singleton.mp ha]; exact hm), st⟩
  rcases hk y hy with ⟨x, hx, z1, z2⟩ | z
  · rw [z1, z2]; exact isKey.step (w := w) (q3 x hx) st
  · exact isKey.step z st
theorem tab_put {Q : Unit → Shared → Prop} (Z : At w g cs env m r s.heap) (rd : isP w r d xs) (hk : isKey w r a k) (hsz : xs.length ≤ 1000) (hu : A.units < cLine) (S : Step as r₀ r) (hm : d ∈ as ∨ r₀.get? d = none)
    (h : ∀ h' r' tk, At w g cs env m r' h' → isP w r' d (storedH xs k a v) → Step as r₀ r' → Loc [d] r r' → Q () { s with heap := h', toks := tk }) : wpAny (model prg w) A (dictSet d (.ref a) v) Q E s :=
  wpAny_dictSet_heap (knd := tK w) hu (hk.up Z.own) (rd.up Z.own).dict (fun h' hd hs => by
    obtain ⟨ep, rd⟩ := rd
    obtain ⟨o', es', ep', q⟩ := hd
    obtain ⟨r', a1, a2, a3, a4⟩ := chg_tab Z rd hs (ys := storedH xs k a v) ⟨rd.1, o', es', q⟩ (fun y hy => (mem_stored hy).imp id fun z => by rw [z.1, z.2]; exact hk) S hm
    exact h h' r' _ a1 ⟨_, a2⟩ a3 a4) (by rw [sizeLine_eq]; lia)
theorem tab_set {Q : Unit → Shared → Prop} (Z : autoParam (At w g cs env m r s.heap) Ln.a_at) (rd : autoParam (isP w r d xs) Ln.a_rtab) (hk : autoParam (isKey w r a k) Ln.a_rkey) (hsz : autoParam (xs.length ≤ 1000) Ln.a_li) (hu : autoParam (A.units + 1 < cLine) Ln.a_om) (S : autoParam (Step as r₀ r) Ln.a_at) (hm : autoParam (d ∈ as ∨ r₀.get? d = none) Ln.a_mem)
    (h : ∀ h' r' tk, At w g cs env m r' h' → isP w r' d (storedH xs k a v) → Step as r₀ r' → Loc [d] r r' → Q () { s with heap := h', toks := tk }) : wpAny (model prg w) A (setItem (.ref d) (.ref a) v) Q E s :=
  wpAny_setItem_heap (knd := tK w) (tupleKind_room_in1 hu) (hk.up Z.own) (rd.up Z.own).dict (fun h' hd hs => by
    obtain ⟨ep, rd⟩ := rd
    obtain ⟨o', es', ep', q⟩ := hd
    obtain ⟨r', a1, a2, a3, a4⟩ := chg_tab Z rd hs (ys := storedH xs k a v) ⟨rd.1, o', es', q⟩ (fun y hy => (mem_stored hy).imp id fun z => by rw [z.1, z.2]; exact hk) S hm
    exact h h' r' _ a1 ⟨_, a2⟩ a3 a4) (by rw [sizeLine_eq]; lia)
/-- a value at a key that is there: the epoch stays -/
theorem tab_over {p : Addr × Value} {Q : Unit → Shared → Prop} (Z : At w g cs env m r s.heap) (rd : KAt w r d xs ep) (hk : isKey w r a k) (hp : atKey xs k = some p) (hu : A.units + 1 < cLine) (S : Step as r₀ r) (hm : d ∈ as ∨ r₀.get? d = none)
    (h : ∀ h' r' tk, At w g cs env m r' h' → KAt w r' d (xs.map (putAt k v)) ep → Step as r₀ r' → Loc [d] r r' → Q () { s with heap := h', toks := tk }) : wpAny (model prg w) A (setItem (.ref d) (.ref a) v) Q E s := by
  have rh := rd.up Z.own
  have hT := rh.dict.typeIs (s := s)
  have hkey : (tK w).is s.heap k a := hk.up Z.own
  unfold setItem
  try with_reducible refine wpAny_holding ?_
  refine wpAny_bind (wpAny_sequenceKey hT (by decide) ?_)
  refine wpAny_bind (wpAny_callSpecial?_slot (name := Str.ofString "__setitem__") hT slot_dict_setitem
    (wpAny_call_entry slot_dict_setitem hT entry_dict_setitem ?_ (args_dict_setitem _ _ _)))
  show wpAny _ _ (Builtin.Dict.notOrdered "__setitem__" ⟨[.ref d, .ref a, v], []⟩ >>= _) _ _ s
  refine wpAny_bind (wpAny_notOrdered_dict hT ?_)
  show wpAny _ _ (dictSet d (.ref a) v >>= _) _ _ s
  obtain ⟨lo, o, es, ho, hc, hd, he, his, hn⟩ := rh
  refine wpAny_bind ?_
  unfold dictSet
  try with_reducible refine wpAny_holding ?_
  refine wpAny_bind ((tK w).pyHash (tupleKind_room_in1 hu) hkey ?_)
  unfold dictSetHashed
  try with_reducible refine wpAny_holding ?_
  refine wpAny_bind (wpAny_dictFind_heap (s := { s with toks := s.toks + (tK w).draws k }) (tupleKind_room_in1 hu) hkey ho hd he his hn ?_ ?_)
  · intro hno
    rw [atKey_none_of_get hno] at hp; exact nomatch hp
  · intro j p' hj
    refine wpAny_bind (wpAny_rule (wpAny_bind (wpAny_updateDict (s := { s with toks := s.toks + (tK w).draws k }) ho hd (wpAny_point ?_))))
    refine wpAny_pure ⟨.none, rfl, wpAny_pure ?_⟩
    have K' : KAt w (s.heap.update d (Obj.mapDict fun es => es.modify j fun e => { e with val := v })) d (xs.map (putAt k v)) ep := by
      refine ⟨lo, _, _, Heap.get?_update_self _ ho (Obj.isFreed_of_dict (Obj.data_mapDict hd _)), hc.mapDict _, Obj.data_mapDict hd _, ?_, ?_, ?_⟩
      · have := modify_map_putAt (entryOfKey (tK w)) (fun e : DictEntry => { e with val := v }) k v (fun _ _ => rfl) hn hj
        rw [← he] at this
        obtain ⟨l⟩ := es
        simpa using this
      · intro x hx
        obtain ⟨y, hy, z1, z2⟩ := mem_put hx
        rw [z1, z2]
        exact (tK w).keeps (his y hy) ho hd (Heap.SameBut.update ..)
      · rw [keys_map_putAt]; exact hn
    obtain ⟨r', a1, a2, a3, a4⟩ := chg_tab Z rd (Heap.SameBut.update ..) K' (fun y hy => .inl (mem_put hy)) S hm
    exact h _ r' _ a1 a2 a3 a4
theorem tab_item {value slice : PySem.Expr} {p : Addr × Value} {Q : Value → Shared → Prop} (hd : autoParam (isP w s.heap d xs) Ln.a_tab) (hk : autoParam (isKey w s.heap a k) Ln.a_hkey) (hu : autoParam (A.units + 1 < cLine) Ln.a_om) (hp : autoParam (atKey xs k = some p) Ln.a_at) (h : Q p.2 { s with toks := s.toks + (tK w).draws k })
    (hs : autoParam (subscripted slice false (.ref d) (.ref a) = operate [.ref d, .ref a] (getItem (.ref d) (.ref a))) Ln.a_wr) : wpAny (model prg w) A (subscriptTail value slice (.ref d) (.ref a)) Q E s :=
  tail_any hd.dict.typeIs slot_dict_getitem.lookup (wpAny_getItem_heap (knd := tK w) (tupleKind_room_in1 hu) hk hd.dict hp h) hs
theorem tab_get {dflt : Value} {Q : Value → Shared → Prop} (hd : autoParam (isP w s.heap d xs) Ln.a_tab) (hk : autoParam (isKey w s.heap a k) Ln.a_hkey) (hu : autoParam (A.units + 1 < cLine) Ln.a_om) (h : Q (((atKey xs k).map (·.2)).getD dflt) { s with toks := s.toks + (tK w).draws k }) :
    wpAny (model prg w) A (call (.builtin "dict.get") [.ref d, .ref a, dflt]) Q E s :=
  call_meetsIn PySem.F.slot_dict_get hd.dict.typeIs PySem.F.entry_dict_get (PySem.F.args_dict_get_3 _ _ _) (meetsH_dict_get_default (tK w) d a hd.lo dflt) ⟨tupleKind_room_in1 hu, k, xs, hk, hd.dict, h⟩
theorem tab_meth {pl : Sem Bool} {Q : Value × List Value → Shared → Prop} (hd : autoParam (isP w s.heap d xs) Ln.a_tab) (h : Q (.builtin "dict.get", [.ref d]) s) : wpAny (model prg w) A (getMethod (.ref d) "get" pl) Q E s :=
  getMethod_builtin hd.dict.typeIs PySem.F.plainAttrs_dict F.slot_dict_get PySem.F.type_dict_get (dictOfH_noDict hd.dict) h
end

/-! ## over the keys of a dict whose values are stored meanwhile -/
section
variable {w : World} {A : Around} {E : Value → Shared → Prop} {s : Shared} {it d : Addr} {i n ep : Nat} {od : Obj} {es : Array DictEntry} {e : DictEntry}
theorem iter_tab {Q : Value → Shared → Prop} (hd : (d == sysModules) = false) (ho : s.heap.get? d = some od) (hc : od.ExactDict) (hdat : od.data = .dict es ep) (hn : es.size = n)
    (hQ : Q (.ref s.heap.objs.size) { s with heap := s.heap.push { cls := .type "dict_keyiterator", data := .fields #[.ref d, .int 0 0, .int n 0, .int ep 0] } }) :
    wpAny (model prg w) A (pyIter (.ref d)) Q E s := by
  have hT : s.TypeIs (.ref d) "dict" := ⟨od, ho, hc.1⟩
  refine wpAny_pyIter_slot hT F.slot_dict_iter (wpAny_call_entry F.slot_dict_iter hT F.entry_dict_iter ?_ (F.args_dict_iter_1 _))
  unfold Builtin.«dict.__iter__»
  refine wpAny_bind ?_
  unfold Builtin.Dict.dictSlotNone
  refine wpAny_bind (wpAny_notOrdered_dict hT ?_)
  show wpAny _ _ (pure (Value.ref d)) _ _ s
  refine wpAny_pure ?_
  show wpAny _ _ (Builtin.Dict.showsAll d >>= _) _ _ s
  unfold Builtin.Dict.showsAll
  rw [if_neg (by rw [hd]; exact Bool.false_ne_true)]
  refine wpAny_bind (wpAny_pure ?_)
  refine wpAny_bind (wpAny_dictEntries ho hdat ?_)
  refine wpAny_bind (wpAny_dictEpoch ho hdat ?_)
  refine wpAny_bind (wpAny_newObj_type (wpAny_pure ⟨_, rfl, "dict_keyiterator", _, ⟨_, Heap.get?_push_size _ rfl, rfl⟩, F.slot_dict_keyiterator_next.lookup, ?_⟩))
  simpa [rawInt, hn] using hQ
theorem next_tab {Q : Option Value → Shared → Prop} (hit : s.heap.IsKeyIter it d i n ep) (hod : s.heap.get? d = some od) (hdd : od.data = .dict es ep) (hsz : es.size = n) (he : es[i]? = some e)
    (hQ : ∀ h', h'.IsKeyIter it d (i + 1) n ep → Heap.SameBut it s.heap h' → Q (some e.key) { s with heap := h' }) :
    wpAny (model prg w) A (pyNext (.ref it)) Q E s := by
  obtain ⟨o, ho, hc, hd⟩ := id hit
  unfold pyNext
  refine wpAny_bind (wpAny_attempt (wpAny_callSpecial?_slot (name := Str.ofString "__next__") hit.typeIs F.slot_dict_keyiterator_next
    (wpAny_call_entry F.slot_dict_keyiterator_next hit.typeIs F.entry_dict_keyiterator_next ?_ (F.args_dict_keyiterator_next_1 _))))
  refine wpAny_bind (wpAny_pure ?_)
  refine wpAny_bind ?_
  refine wpAny_bind ?_
  first | refine wpAny_bind (wpAny_typeNameOfWhole_keyiter hit.typeIs (wpAny_pure ?_)) | refine wpAny_bind (wpAny_typeNameOf_keyiter hit.typeIs (wpAny_pure ?_))
  refine wpAny_bind (wpAny_fieldsOf ho hd ?_)
  have hown : Builtin.Dict_items.ownsTuple "dict_keyiterator" = false := by decide
  simp only [hown, Bool.false_eq_true, if_false]
  show wpAny _ _ (if (Value.ref d == Value.none) = true then _ else _) _ _ s
  rw [if_neg (show ¬ ((Value.ref d == Value.none) = true) from Bool.false_ne_true)]
  refine wpAny_bind (wpAny_pure ?_)
  refine wpAny_bind (wpAny_dictEntries hod hdd ?_)
  rw [if_neg (by rw [hsz]; simp)]
  refine wpAny_bind (wpAny_pure ?_)
  refine wpAny_bind (wpAny_dictEpoch hod hdd ?_)
  rw [if_neg (by simp)]
  refine wpAny_pure ?_
  simp only [show ¬ ((i : Int) < 0) from by lia, if_false, Int.toNat_natCast, he]
  refine wpAny_bind ?_
  first | refine wpAny_bind (wpAny_typeNameOfWhole_keyiter hit.typeIs (wpAny_pure ?_)) | refine wpAny_bind (wpAny_typeNameOf_keyiter hit.typeIs (wpAny_pure ?_))
  refine wpAny_bind (wpAny_isOneOf_keyiter hit.typeIs ?_)
  show wpAny _ _ (setField (.ref it) 1 (rawInt ((i : Int) + 1)) >>= _) _ _ s
  refine wpAny_bind (wpAny_setField ho hd (by simp) ?_)
  have hit' : (s.heap.update it (Obj.mapFields (·.setIfInBounds 1 (rawInt ((i : Int) + 1))))).IsKeyIter it d (i + 1) n ep :=
    ⟨_, Heap.get?_update_self _ ho (Obj.isFreed_of_fields (Obj.data_mapFields hd _)), (Obj.cls_mapFields ..).trans hc, by rw [Obj.data_mapFields hd]; simp [rawInt]⟩
  refine wpAny_bind (wpAny_holding ?_)
  refine wpAny_bind (wpAny_isOneOf_keyiter (s := { s with heap := s.heap.update it (Obj.mapFields (·.setIfInBounds 1 (rawInt ((i : Int) + 1)))) }) hit'.typeIs ?_)
  show wpAny _ _ (pure e.key) _ _ _
  exact wpAny_pure (wpAny_pure ⟨_, rfl, wpAny_pure (hQ _ hit' (Heap.SameBut.update ..))⟩)
theorem next_tab_end {Q : Option Value → Shared → Prop} (hh : A.handled = none) (hit : s.heap.IsKeyIter it d i n ep) (hod : s.heap.get? d = some od) (hdd : od.data = .dict es ep) (hsz : es.size = n) (hge : n ≤ i)
    (hQ : ∀ h', Heap.ExtBut it s.heap h' → Q none { s with heap := h' }) : wpAny (model prg w) A (pyNext (.ref it)) Q E s := by
  obtain ⟨o, ho, hc, hd⟩ := id hit
  unfold pyNext
  refine wpAny_bind (wpAny_attempt (wpAny_callSpecial?_slot (name := Str.ofString "__next__") hit.typeIs F.slot_dict_keyiterator_next
    (wpAny_call_entry F.slot_dict_keyiterator_next hit.typeIs F.entry_dict_keyiterator_next ?_ (F.args_dict_keyiterator_next_1 _))))
  refine wpAny_bind (wpAny_pure ?_)
  refine wpAny_bind ?_
  refine wpAny_bind ?_
  first | refine wpAny_bind (wpAny_typeNameOfWhole_keyiter hit.typeIs (wpAny_pure ?_)) | refine wpAny_bind (wpAny_typeNameOf_keyiter hit.typeIs (wpAny_pure ?_))
  refine wpAny_bind (wpAny_fieldsOf ho hd ?_)
  have hown : Builtin.Dict_items.ownsTuple "dict_keyiterator" = false := by decide
  simp only [hown, Bool.false_eq_true, if_false]
  show wpAny _ _ (if (Value.ref d == Value.none) = true then _ else _) _ _ s
  rw [if_neg (show ¬ ((Value.ref d == Value.none) = true) from Bool.false_ne_true)]
  refine wpAny_bind (wpAny_pure ?_)
  refine wpAny_bind (wpAny_dictEntries hod hdd ?_)
  rw [if_neg (by rw [hsz]; simp)]
  refine wpAny_bind (wpAny_pure ?_)
  refine wpAny_bind (wpAny_dictEpoch hod hdd ?_)
  rw [if_neg (by simp)]
  refine wpAny_pure ?_
  have hge : es.size ≤ i := by lia
  simp only [show ¬ ((i : Int) < 0) from by lia, if_false, Int.toNat_natCast, Array.getElem?_eq_none hge]
  refine wpAny_bind ?_
  first | refine wpAny_bind (wpAny_typeNameOfWhole_keyiter hit.typeIs (wpAny_pure ?_)) | refine wpAny_bind (wpAny_typeNameOf_keyiter hit.typeIs (wpAny_pure ?_))
  show wpAny _ _ (setField (.ref it) 0 .none >>= _) _ _ s
  refine wpAny_bind (wpAny_setField ho hd (by simp) ?_)
  show wpAny _ _ (newExc (.type "StopIteration") [] >>= _) _ _ _
  refine wpAny_bind ?_
  simp only [newExc, newTuple]
  refine wpAny_bind (wpAny_newObj_type ?_ (by size_fits))
  refine wpAny_bind (m := firstArgMember _ _) (wpAny_of_eq (a := Value.none) (by first | rfl | (simp only [firstArgMember]; rfl)) ?_)
  refine wpAny_newObj_type ?_ (by size_fits)
  simp only [raiseNew]
  refine wpAny_bind (wpAny_handled ?_)
  rw [show A.in1.handled = none from hh]
  refine wpAny_bind (wpAny_pure (wpAny_throw ?_))
  refine wpAny_bind (wpAny_isInstance (T := "StopIteration") (b := true) ⟨_, Heap.get?_push_size _ rfl, rfl⟩ isSubtype_stop ?_)
  exact wpAny_pure (hQ _ (((Heap.SameBut.update ..).extBut.push _).push _))
end
end Pf
end
section
open PySem PySem.W PySem.Calls PyProof.Rows PySem.SeqAt
set_option Elab.async false
set_option compiler.extract_closed false
set_option maxRecDepth 100000
namespace Pf
section
variable {w : World} {A : Around} {E : Value → Shared → Prop} {s : Shared} {g : Heap} {cs : List Addr} {env : Env} {m : Str → Option Value} {r r₀ : Heap} {as : List Addr} {d : Addr}
/-! ## a dict that is written out -/
theorem disp_new {keys : List (Option PySem.Expr)} {values : List PySem.Expr} {pos : Pos} {Q : Value → Shared → Prop} (Z : autoParam (At w g cs env m r s.heap) Ln.a_at) (T : autoParam (TopE g) Ln.a_at) (S : autoParam (Step as r₀ r) Ln.a_at)
    (hall : autoParam (keys.all (·.isSome) = true) Ln.a_rf) (hl : autoParam (keys.length = values.length) Ln.a_rf) (h0 : autoParam (keys ≠ []) Ln.a_cn) (hlen : autoParam (keys.length ≤ 15) Ln.a_nb)
    (h : ∀ a h' r', At w g cs env m r' h' → (a == sysModules) = false → r'.get? a = some emptyDict → Step as r₀ r' → r.StaysIn r' → r.get? a = none → r₀.get? a = none →
      wpAny (model prg w) A (evalPairs (pairTrees keys values env pos)) (fun vs s₁ => wpAny (model prg w) A (storeAll a vs) (fun _ s₂ => Q (.ref a) s₂) E s₁) E { s with heap := h' }) :
    wpAny (model prg w) A (eval (.Dict keys values pos) env) Q E s :=
  wpAny_Dict_any hall hl h0 hlen (by
    obtain ⟨r', a1, a2, a3, a4, a5⟩ := (Z.push emptyDict).take Z.pushed (Heap.get?_push_size _ rfl) S
    exact h _ _ r' a1 (Z.noMod T) a2 a3 a5 Z.pushed.nr (S.sub _ Z.pushed.nr))
theorem store_nil {Q : PUnit → Shared → Prop} (h : Q PUnit.unit s) : wpAny (model prg w) A (storeAll d []) Q E s := by
  unfold storeAll
  rw [List.forIn_nil]
  exact wpAny_pure h
theorem store_cons {K : Type} [DecidableEq K] {knd : KeyKind prg w K} {kvs : List (K × Value)} {k : K} {key v : Value} {vs : List (Value × Value)} {Q : PUnit → Shared → Prop} (Z : At w g cs env m r s.heap) (rd : isD knd r d kvs) (hk : knd.is k key = true) (hsz : kvs.length ≤ 1000) (S : Step as r₀ r) (hm : d ∈ as ∨ r₀.get? d = none)
    (h : ∀ h' r' tk, At w g cs env m r' h' → isD knd r' d (stored kvs k v) → Step as r₀ r' → Loc [d] r r' → wpAny (model prg w) A (storeAll d vs) Q E { s with heap := h', toks := tk }) : wpAny (model prg w) A (storeAll d ((key, v) :: vs)) Q E s := by
  show wpAny _ _ (forIn ((key, v) :: vs) PUnit.unit _) _ _ _
  rw [List.forIn_cons]
  refine wpAny_bind (wpAny_bind (wpAny_dictSet_pairs hk (rd.up Z.own).2 (fun h' hd hs => wpAny_pure ?_) (by rw [sizeLine_eq]; lia)))
  obtain ⟨r', a1, a2, a3, a4⟩ := chg_dict Z rd hs hd S hm
  exact h h' r' _ a1 a2 a3 a4
/-! ## new tuples, owned at once -/
noncomputable def OwnT (w : World) (g : Heap) (cs : List Addr) (env : Env) (m : Str → Option Value) (r r₀ : Heap) (as : List Addr) (vs : List Value) (Q : Value → Shared → Prop) (s : Shared) : Prop :=
  ∀ a h' r', At w g cs env m r' h' → isT r' a vs → Step as r₀ r' → r.StaysIn r' → r.get? a = none → r₀.get? a = none → Q (.ref a) { s with heap := h' }
theorem OwnT.take {vs : List Value} {Q : Value → Shared → Prop} (o : OwnT w g cs env m r r₀ as vs Q s) (S : Step as r₀ r) {a : Addr} {h' : Heap} (Z : At w g cs env m r h') (N : New g cs env r a) (hl : isT h' a vs) : Q (.ref a) { s with heap := h' } := by
  obtain ⟨n, e⟩ := hl
  obtain ⟨r', a1, a2, a3, a4, a5⟩ := Z.take N e S
  exact o a h' r' a1 ⟨n, a2⟩ a3 a5 N.nr (S.sub _ N.nr)
theorem own_tuple {vs : List Value} {Q : Value → Shared → Prop} (Z : autoParam (At w g cs env m r s.heap) Ln.a_at) (S : autoParam (Step as r₀ r) Ln.a_at) (hsz : autoParam (vs.length ≤ sizeLine) Ln.a_sz) (h : OwnT w g cs env m r r₀ as vs Q s) : wpAny (model prg w) A (newTuple vs) Q E s :=
  new_tuple Z hsz fun _ _ a1 a2 a3 _ _ => h.take S a1 a2 a3
theorem own_tuple_of {vs : List Value} {l : Addr} {Q : Value → Shared → Prop} (Z : autoParam (At w g cs env m r s.heap) Ln.a_at) (S : autoParam (Step as r₀ r) Ln.a_at) (hl : autoParam (isL s.heap l vs) Ln.a_see) (hsz : autoParam (vs.length ≤ sizeLine) Ln.a_sz) (h : OwnT w g cs env m r r₀ as vs Q s) : wpAny (model prg w) A (call (.type "tuple") [.ref l]) Q E s :=
  tuple_of Z hl hsz fun _ _ a1 a2 a3 _ _ => h.take S a1 a2 a3
theorem own_tadd {v u : Value} {vs ws : List Value} {l b : Addr} {Q : Value → Shared → Prop} (Z : autoParam (At w g cs env m r s.heap) Ln.a_at) (S : autoParam (Step as r₀ r) Ln.a_at) (hl : autoParam (isT s.heap l (v :: vs)) Ln.a_see) (hb : autoParam (isT s.heap b (u :: ws)) Ln.a_see) (hsz : autoParam ((v :: vs).length + (u :: ws).length ≤ sizeLine) Ln.a_sz) (h : OwnT w g cs env m r r₀ as ((v :: vs) ++ (u :: ws)) Q s) :
    wpAny (model prg w) A (binaryOp .Add (.ref l) (.ref b)) Q E s := by
  obtain ⟨n, e⟩ := hl
  obtain ⟨n2, e2⟩ := hb
  refine concat_meets ⟨_, e, rfl⟩ ⟨_, e2, rfl⟩ noFill_tuple_add seq_tuple_add PySem.F.slot_tuple_add PySem.F.entry_tuple_add (PySem.F.args_tuple_add_2 _ _) (tuple_addW2 l b (v :: vs).toArray (u :: ws).toArray n n2 none none #[] #[] (by simp) (by simp) (by simpa using hsz)) ⟨e, e2, ?_⟩
  exact h.take S (Z.push _) Z.pushed ⟨0, by rw [Heap.get?_push_size _ rfl]; simp⟩
/-! ## lists that are only known by what they hold -/
variable {vs ws : List Value} {l b : Addr} {Q : Value → Shared → Prop}
theorem ne_nilR (hl : isR s.heap l vs) (hb : isL s.heap b []) (hu : A.units < cLine) (h : Q (.bool (decide (vs ≠ []))) s) : wpAny (model prg w) A (compareOp .NotEq (.ref l) (.ref b)) Q E s := by
  cases vs with
  | nil =>
    refine RcNeAt.lists (e := fun _ => true) hl hb.list rfl hu (fun j h1 h2 => ?_) prg w E Q ?_
    · exact absurd h1 (by simp)
    · simpa using h
  | cons v vs =>
    refine RcNeAt.lists_lengths hl hb.list (by simp) hu prg w E Q ?_
    simpa using h
theorem ne_nilR0 (hl : autoParam (isR s.heap l []) Ln.a_R) (hb : autoParam (isL s.heap b []) Ln.a_see) (hu : autoParam (A.units < cLine) Ln.a_om) (h : Q (.bool false) s) : wpAny (model prg w) A (compareOp .NotEq (.ref l) (.ref b)) Q E s := ne_nilR hl hb hu (by simpa using h)
theorem ne_nilRc {v : Value} (hl : autoParam (isR s.heap l (v :: vs)) Ln.a_R) (hb : autoParam (isL s.heap b []) Ln.a_see) (hu : autoParam (A.units < cLine) Ln.a_om) (h : Q (.bool true) s) : wpAny (model prg w) A (compareOp .NotEq (.ref l) (.ref b)) Q E s := ne_nilR hl hb hu (by simpa using h)
end
end Pf
end
section
open PySem PySem.W PySem.Calls PyProof.Rows PySem.SeqAt
set_option Elab.async false
set_option compiler.extract_closed false
set_option maxRecDepth 100000
set_option linter.unusedVariables false
namespace Pf
/-! ## dict comprehensions -/
noncomputable def emitLast (kx vx : PySem.Expr) (D : Addr) (env : Env) : Sem Unit := do
  let kv ← eval kx env
  let vv ← holding [kv] (eval vx env)
  standAt { kx.pos with endLine := vx.pos.endLine, endCol := vx.pos.endCol }
  holding [kv, vv] (dictSet D kv vv)
noncomputable def emitNest (e : PySem.Expr) (depth : Nat) (iter : PySem.Expr) (D : Addr) (env : Env) : Sem Unit := do
  let x ← eval iter env
  standAt iter.pos
  let x ← foldedSetIterable iter env x
  let _ ← runOwn (.compStart e (depth + 1) (← holding [x] (pyIter x)) (.ref D) env) env
noncomputable def turnOf (e : PySem.Expr) (depth : Nat) (target iter : PySem.Expr) (emit : Sem Unit) (it : Value) (D : Addr) (env : Env) : Sem Fin := do
  standAt iter.pos
  match ← pyNext it with
  | none => pure (.done .next)
  | some v =>
    letOwnedTupleGo target it v
    assign target env v
    emit
    again (.compLoop e depth it (.ref D) env)
section
variable {kx vx t0 i0 t1 i1 t2 i2 : PySem.Expr} {scope : Scope} {pos : Pos} {it : Value} {D : Addr} {env : Env}
theorem turn1 : compTurn (.DictComp kx vx [⟨t0, i0, [], 0⟩] scope pos) 0 it (.ref D) env = turnOf (.DictComp kx vx [⟨t0, i0, [], 0⟩] scope pos) 0 t0 i0 (emitLast kx vx D env) it D env := rfl
theorem turn3_0 : compTurn (.DictComp kx vx [⟨t0, i0, [], 0⟩, ⟨t1, i1, [], 0⟩, ⟨t2, i2, [], 0⟩] scope pos) 0 it (.ref D) env = turnOf (.DictComp kx vx [⟨t0, i0, [], 0⟩, ⟨t1, i1, [], 0⟩, ⟨t2, i2, [], 0⟩] scope pos) 0 t0 i0 (emitNest (.DictComp kx vx [⟨t0, i0, [], 0⟩, ⟨t1, i1, [], 0⟩, ⟨t2, i2, [], 0⟩] scope pos) 0 i1 D env) it D env := by
  have flat : compTurn (.DictComp kx vx [⟨t0, i0, [], 0⟩, ⟨t1, i1, [], 0⟩, ⟨t2, i2, [], 0⟩] scope pos) 0 it (.ref D) env = (do
      standAt i0.pos
      match ← pyNext it with
      | none => pure (.done .next)
      | some v =>
        letOwnedTupleGo t0 it v
        assign t0 env v
        let x ← eval i1 env
        standAt i1.pos
        let x ← foldedSetIterable i1 env x
        let _ ← runOwn (.compStart (.DictComp kx vx [⟨t0, i0, [], 0⟩, ⟨t1, i1, [], 0⟩, ⟨t2, i2, [], 0⟩] scope pos) (0 + 1) (← holding [x] (pyIter x)) (.ref D) env) env
        again (.compLoop (.DictComp kx vx [⟨t0, i0, [], 0⟩, ⟨t1, i1, [], 0⟩, ⟨t2, i2, [], 0⟩] scope pos) 0 it (.ref D) env)) := rfl
  rw [flat]
  unfold turnOf emitNest
  refine congrArg _ (funext fun _ => congrArg _ (funext fun r => ?_))
  cases r with
  | none => rfl
  | some v => simp only [LawfulMonad.bind_assoc, LawfulMonad.pure_bind]
theorem turn3_1 : compTurn (.DictComp kx vx [⟨t0, i0, [], 0⟩, ⟨t1, i1, [], 0⟩, ⟨t2, i2, [], 0⟩] scope pos) 1 it (.ref D) env = turnOf (.DictComp kx vx [⟨t0, i0, [], 0⟩, ⟨t1, i1, [], 0⟩, ⟨t2, i2, [], 0⟩] scope pos) 1 t1 i1 (emitNest (.DictComp kx vx [⟨t0, i0, [], 0⟩, ⟨t1, i1, [], 0⟩, ⟨t2, i2, [], 0⟩] scope pos) 1 i2 D env) it D env := by
  have flat : compTurn (.DictComp kx vx [⟨t0, i0, [], 0⟩, ⟨t1, i1, [], 0⟩, ⟨t2, i2, [], 0⟩] scope pos) 1 it (.ref D) env = (do
      standAt i1.pos
      match ← pyNext it with
      | none => pure (.done .next)
      | some v =>
        letOwnedTupleGo t1 it v
        assign t1 env v
        let x ← eval i2 env
        standAt i2.pos
        let x ← foldedSetIterable i2 env x
        let _ ← runOwn (.compStart (.DictComp kx vx [⟨t0, i0, [], 0⟩, ⟨t1, i1, [], 0⟩, ⟨t2, i2, [], 0⟩] scope pos) (1 + 1) (← holding [x] (pyIter x)) (.ref D) env) env
        again (.compLoop (.DictComp kx vx [⟨t0, i0, [], 0⟩, ⟨t1, i1, [], 0⟩, ⟨t2, i2, [], 0⟩] scope pos) 1 it (.ref D) env)) := rfl
  rw [flat]
  unfold turnOf emitNest
  refine congrArg _ (funext fun _ => congrArg _ (funext fun r => ?_))
  cases r with
  | none => rfl
  | some v => simp only [LawfulMonad.bind_assoc, LawfulMonad.pure_bind]
theorem turn3_2 : compTurn (.DictComp kx vx [⟨t0, i0, [], 0⟩, ⟨t1, i1, [], 0⟩, ⟨t2, i2, [], 0⟩] scope pos) 2 it (.ref D) env = turnOf (.DictComp kx vx [⟨t0, i0, [], 0⟩, ⟨t1, i1, [], 0⟩, ⟨t2, i2, [], 0⟩] scope pos) 2 t2 i2 (emitLast kx vx D env) it D env := rfl
end
theorem unbind_pure {A : Around} {E : Value → Shared → Prop} {w : World} {s : Shared} {m : Sem Unit} {f : Flow} {Q : Flow → Shared → Prop} (h : wpAny (model prg w) A (m >>= fun _ => pure f) Q E s) : wpAny (model prg w) A m (fun _ s' => Q f s') E s := fun Γ p hΓ => by
  have := h Γ p hΓ
  simpa only [Sem.wp_bind', Sem.wp_pure'] using this
section
variable {w : World} {A : Around} {g : Heap} {cs : List Addr} {env : Env} {e target iter : PySem.Expr} {emit : Sem Unit} {depth : Nat} {D : Addr} {Q : Flow → Shared → Prop} {s : Shared} {it : Value}
theorem emit_last {kx vx : PySem.Expr} (h : wpAny (model prg w) A (eval kx env) (fun kv s₁ => wpAny (model prg w) A (eval vx env) (fun vv s₂ => wpAny (model prg w) A (dictSet D kv vv) (fun _ s₃ => Q .next s₃) never s₂) never s₁) never s) :
    wpAny (model prg w) A (emitLast kx vx D env >>= fun _ => pure Flow.next) Q never s :=
  wpAny_bind (wpAny_bind (wpAny_mono h (fun kv s₄ h₄ => wpAny_bind (wpAny_holding (wpAny_mono h₄ (fun vv s₅ h₅ => wpAny_bind (wpAny_standAt (wpAny_holding (wpAny_mono h₅ (fun _ s₆ h₆ => wpAny_pure h₆) fun _ _ h' => h')))) fun _ _ h' => h'))) fun _ _ h' => h'))
theorem compLoop_for {kx vx : PySem.Expr} {gens : List Comprehension} {scope : Scope} {pos : Pos} {R : Result → Shared → Prop} (he : e = .DictComp kx vx gens scope pos) (hA : A.handled = none) (hT : ∀ it, compTurn e depth it (.ref D) env = turnOf e depth target iter emit it D env)
    (h : ForAt w A g cs env target (emit >>= fun _ => pure Flow.next) Q it s) (hR : ∀ s', Q .next s' → R (.ok .next) s') : codeAny (model prg w) A (.compLoop e depth it (.ref D) env) R s := by
  obtain ⟨I, fp, n, P, St, m, r, J, Kr, rfl, W, st0, Z, ⟨hI1, hI2, hI3, hI4⟩, hfp, hsrc, hJ0, turn, done, done2⟩ := h
  have WA := W.walks A hA
  have toE : ∀ {α : Type} {t : Sem α} {Q : α → Shared → Prop} {s : Shared} {E : Value → Shared → Prop}, wpAny (model prg w) A t Q never s → wpAny (model prg w) A t Q E s := fun h => wpAny_mono h (fun _ _ x => x) fun _ _ x => x.elim
  refine codeAny_loop rfl (fun k s' => ∃ h' tk m' r' i, s' = { s with heap := h', toks := tk } ∧ St i h' ∧ At w g cs env m' r' h' ∧ J i m' r' ∧ i ≤ n ∧ k = n + 1 - i ∧
      (∀ b ∈ fp, (∃ o, h'.get? b = some o) ∧ (r.get? b = none → r'.get? b = none))) ?_ (n + 1) ⟨s.heap, s.toks, m, r, 0, rfl, st0, Z, hJ0, Nat.zero_le _, rfl, fun b hb => ⟨(hfp b hb).2.2, id⟩⟩
  rintro k s' ⟨h', tk, m', r', i, rfl, hst, Z', hJ, hi, rfl, hK⟩
  subst he
  show wpAny _ A ((compTurn (.DictComp kx vx gens scope pos) depth (.ref I) (.ref D) env).onRaise (fun x => do noteFrame x env; theTreesLotGoes x)) _ _ _
  refine wpAny_noted ?_
  rw [hT]
  unfold turnOf
  have hIfp : I ∈ fp := WA.sub I (by simp)
  have hI1' : r'.get? I = none := (hK I hIfp).2 hI1
  by_cases hlt : i < n
  · refine wpAny_bind (wpAny_standAt (wpAny_bind (WA.item i _ _ _ hlt hst fun v h₁ tk₁ hP hst₁ hk₁ => ?_)))
    have Z₁ : At w g cs env m' r' h₁ := Z'.but (fun b o hb e => hk₁ b o (by simpa using hb) e) hI1' hI2 hI3 hI4
    refine wpAny_bind (W.go A target (i + 1) v _ _ _ hst₁ (wpAny_bind (toE (wpAny_mono (turn i v m' r' h₁ tk₁ _ hlt hP hJ Z₁.over_base Z₁.rebase) (fun _ s₃ h₃ => wpAny_bind (toE (wpAny_mono (unbind_pure h₃) (fun _ s₄ h₄ => ?_) fun _ _ e => e))) fun _ _ e => e))))
    obtain ⟨_, h₂', tk₂, m₂, r₂, rfl, Z₂, hJ₂⟩ | ⟨v', q, _⟩ := h₄
    case inr => cases q
    have keepfp : ∀ b ∈ fp, ∀ o, h₁.get? b = some o → h₂'.get? b = some o := fun b hb o e => by
      cases q : r'.get? b with
      | none => exact Z₂.base b o (over_some e q (hfp b hb).1 (hfp b hb).2.1)
      | some o' =>
        have e' := Z₁.own b o' q
        rw [e] at e'; cases e'
        cases q2 : r.get? b with
        | none => rw [(hK b hb).2 q2] at q; cases q
        | some o2 =>
          have q3 := hsrc i m' r' hJ b hb o2 q2
          rw [q] at q3; cases q3
          exact Z₂.own b o (hsrc (i + 1) m₂ r₂ hJ₂ b hb o q2)
    refine wpAny_pure ⟨rfl, n + 1 - (i + 1), by lia, h₂', tk₂, m₂, r₂, i + 1, rfl, WA.frame _ _ _ hst₁ keepfp, Z.weaken Z₁.over_base Z₂, hJ₂, hlt, rfl, fun b hb => ?_⟩
    obtain ⟨o, hl⟩ : ∃ o, h₁.get? b = some o := by
      by_cases q : b = I
      · subst q; exact W.live _ _ hst₁
      · obtain ⟨o, e⟩ := (hK b hb).1
        exact ⟨o, hk₁ b o (by simpa using q) e⟩
    refine ⟨⟨o, keepfp b hb o hl⟩, fun q => ?_⟩
    have q1 := (hK b hb).2 q
    exact Z₂.rg.right (over_some hl q1 (hfp b hb).1 (hfp b hb).2.1)
  · have hin : i = n := by lia
    subst hin
    refine wpAny_bind (wpAny_standAt (wpAny_bind (WA.done _ _ _ hst fun h₁ tk₁ hk₁ => wpAny_pure (hR _ ?_))))
    exact done m' r' h₁ tk₁ hJ (Z'.but (fun b o hb e => hk₁ b o (by simpa using hb) e) hI1' hI2 hI3 hI4)
theorem ForAt.self {B : Sem Flow} {X : Value → Shared → Prop} {E : Value → Shared → Prop} (hA : A.handled = none) (h : ForAt w A g cs env target B Q it s) (hX : X it s) : wpAny (model prg w) A (pyIter it) X E s := by
  obtain ⟨I, fp, n, P, St, m, r, J, Kr, rfl, W, st0, _⟩ := h
  exact (W.walks A hA).self 0 s _ _ st0 hX
theorem compStart_for {kx vx : PySem.Expr} {gens : List Comprehension} {scope : Scope} {pos : Pos} {R : Result → Shared → Prop} (he : e = .DictComp kx vx gens scope pos) (hg : gens[depth]? = some ⟨target, iter, [], 0⟩) (hA : A.handled = none) (hT : ∀ it, compTurn e depth it (.ref D) env = turnOf e depth target iter emit it D env)
    (h : ForAt w A g cs env target (emit >>= fun _ => pure Flow.next) Q it s) (hR : ∀ s', Q .next s' → R (.ok .next) s') : codeAny (model prg w) A (.compStart e depth it (.ref D) env) R s := by
  have L := compLoop_for he hA hT h hR
  subst he
  refine codeAny_of_tree ?_
  show wpAny _ A ((compStart (.DictComp kx vx gens scope pos) depth it (.ref D) env).onRaise (fun x => do noteFrame x env; standAt theWindowsPlace)) _ _ s
  refine wpAny_notedAt ?_
  have hc : (clausesOf (.DictComp kx vx gens scope pos))[depth]? = some ⟨target, iter, [], 0⟩ := hg
  unfold compStart
  rw [hc]
  show wpAny _ A (ask >>= _) _ _ s
  refine wpAny_bind (wpAny_askSetting (wpAny_ite ?_))
  split
  · first
      | exact wpAny_bind (wpAny_pure (wpAny_pure (And.intro rfl L)))
      | exact wpAny_pure (And.intro rfl L)
  · first
      | exact wpAny_bind (wpAny_rule (wpAny_bind (wpAny_standAt (wpAny_bind (h.self hA (wpAny_pure (And.intro rfl L)))))))
      | (refine wpAny_bind (wpAny_rule ?_); show wpAny _ _ (standAt iter.pos >>= _) _ _ s; exact wpAny_bind (wpAny_standAt (wpAny_bind (h.self hA (wpAny_pure (And.intro rfl L))))))
theorem emit_nest {kx vx : PySem.Expr} {gens : List Comprehension} {scope : Scope} {pos : Pos} (he : e = .DictComp kx vx gens scope pos) (hg : gens[depth + 1]? = some ⟨target, iter, [], 0⟩) (hA : A.handled = none) (hT : ∀ it, compTurn e (depth + 1) it (.ref D) env = turnOf e (depth + 1) target iter emit it D env)
    (hs : ∀ x, foldedSetIterable iter env x = pure x)
    (h : wpAny (model prg w) A (eval iter env) (fun xv s₁ => wpAny (model prg w) A (pyIter xv) (fun it s₂ => ForAt w A g cs env target (emit >>= fun _ => pure Flow.next) (fun _ => Q .next) it s₂) never s₁) never s) :
    wpAny (model prg w) A (emitNest e depth iter D env >>= fun _ => pure Flow.next) Q never s := by
  refine wpAny_bind ?_
  unfold emitNest
  refine wpAny_bind (wpAny_mono h (fun xv s₁ h₁ => wpAny_bind (wpAny_standAt (wpAny_bind (wpAny_of_eq (hs xv) (wpAny_bind (wpAny_holding (wpAny_mono h₁ (fun it s₂ h₂ => ?_) fun _ _ e => e))))))) fun _ _ e => e)
  refine wpAny_bind (wpAny_runOwn (compStart_for (A := A) (R := fun r s' => match r with | .ok f => wpAny (model prg w) A (pure ()) (fun _ s' => wpAny (model prg w) A (pure Flow.next) Q never s') never s' | .error e => cameBackBy (model prg w) A env never e s') he hg hA hT h₂ fun s' q => wpAny_pure (wpAny_pure q)))
end

/-- a first loop's end -/
noncomputable def DEnd (w : World) (g : Heap) (env : Env) (Fin : Heap → Prop) (s : Shared) (f : Flow) (s' : Shared) : Prop := f = .next ∧ ∃ h tk m' r', s' = { s with heap := h, toks := tk } ∧ At w g [] env m' r' h ∧ Fin r'
theorem DEnd.mk {w : World} {g : Heap} {env : Env} {Fin : Heap → Prop} {s : Shared} {h : Heap} {tk : Tok} {m' : Str → Option Value} {r' : Heap} (Z : At w g [] env m' r' h) (q : Fin r') : DEnd w g env Fin s .next { s with heap := h, toks := tk } := ⟨rfl, h, tk, m', r', rfl, Z, q⟩
inductive DCompAt (w : World) (A : Around) (g : Heap) (cs : List Addr) (env : Env) (base : Heap) (scope : Scope) (cl : List (Str × Addr)) (target : PySem.Expr) (B : Env → Addr → Sem Flow) (use : Option Str) (Q : Value → Shared → Prop) (it : Value) (s : Shared) : Prop
  | mk (I : Addr) (fp : List Addr) (n : Nat) (P : Nat → Value → Prop) (St : Nat → Heap → Prop) (m : Str → Option Value) (r : Heap)
    (h1 : it = .ref I)
    (h2 : Wk w I fp n P St)
    (h3 : St 0 s.heap)
    (h4 : At w g cs env m r s.heap)
    (h5 : (r.get? I = none ∧ g.get? I = none ∧ I ≠ env.locals ∧ I ∉ cs))
    (h6 : (∀ b ∈ fp, ∃ o, s.heap.get? b = some o))
    (h7 : (∀ D C g₁ h tk mC, s.heap.get? D = none → (D == sysModules) = false → r.get? D = none → g.StaysIn g₁ → At w g₁ [] (cenvOf scope cl C env) mC (put r D emptyDict) h → (∀ x c, cl.lookup x = some c → mC x = m x) →
      Up w g₁ (cenvOf scope cl C env) A base → St 0 h → (put r D emptyDict).get? I = none → g₁.get? I = none → I ≠ C → (∀ b ∈ fp, b ≠ C ∧ b ≠ D ∧ ∃ o, h.get? b = some o) →
      ForAt w A g₁ [] (cenvOf scope cl C env) target (B (cenvOf scope cl C env) D) (DEnd w g₁ (cenvOf scope cl C env) (fun r' => ∀ h₃ tk₃, At w g cs env (useM use m D) r' h₃ → Q (.ref D) { s with heap := h₃, toks := tk₃ }) s) (.ref I) { s with heap := h, toks := tk })) : DCompAt w A g cs env base scope cl target B use Q it s
theorem dcomp_core {w : World} {A : Around} {g : Heap} {cs : List Addr} {env : Env} {base : Heap} {kx vx target iter : PySem.Expr} {rest : List Comprehension} {scope : Scope} {cl : List (Str × Addr)} {pos pos2 py : Pos} {use : Option Str} {emit : Env → Addr → Sem Unit} {Q : Value → Shared → Prop} {s : Shared}
    (T : TopE g)
    (U : Up w g env A base) (hclos : clos env scope.names [] = some cl) (hfree : okFree scope = true) (hcell : ∀ y ∈ scope.names, y.2 ≠ .cell) (hkind : scope.kind = .function)
    (hnames : ∀ y ∈ scope.names, y.2 = .local → scope.names.lookup y.1 = some .local) (huse : ∀ y, use = some y → env.kindOf y = some .local ∧ env.scope.kind = .function ∧ ∀ a b s, Q a s → Q b s)
    (hT : ∀ it D env, compTurn (.DictComp kx vx (⟨target, iter, [], 0⟩ :: rest) scope pos) 0 it (.ref D) env = turnOf (.DictComp kx vx (⟨target, iter, [], 0⟩ :: rest) scope pos) 0 target iter (emit env D) it D env)
    (h : wpAny (model prg w) A (eval iter env) (fun xv s₁ => wpAny (model prg w) A (pyIter xv) (fun it s₂ => DCompAt w A g cs env base scope cl target (fun env D => emit env D >>= fun _ => pure Flow.next) use Q it s₂) never s₁) never s)
    (hs : ∀ x, foldedSetIterable iter env x = pure x) : wpAny (model prg w) A (comprehension (.DictComp kx vx (⟨target, iter, [], 0⟩ :: rest) scope pos) scope env pos2 newDict false (eval iter env) (useS env py use)) Q never s := by
  refine wpAny_comprehension_free rfl hs (clos_eq hclos) hkind hnames (wpAny_mono h (fun xv s₁ h₁ => wpAny_mono h₁ (fun it s₂ h₂ => ?_) fun _ _ e => e) fun _ _ e => e)
  obtain ⟨I, fp, n, P, St, m, r, rfl, W, st0, Z, ⟨hI1, hI2, hI3, hI4⟩, hfp, body⟩ := h₂
  have WA := W.walks A U.handled
  have toE : ∀ {α : Type} {t : Sem α} {Q : α → Shared → Prop} {s : Shared} {E : Value → Shared → Prop}, wpAny (model prg w) A t Q never s → wpAny (model prg w) A t Q E s := fun h => wpAny_mono h (fun _ _ x => x) fun _ _ x => x.elim
  obtain ⟨mL, ⟨oL, eL, epL, hL, hLd, hLr⟩, hmL⟩ := Z.ns
  have hIs := W.live _ _ st0
  simp only [newDict, newObj]
  refine wpAny_bind (wpAny_alloc (wpAny_pure (wpAny_newFunctionEnv hcell (by intro y hy; simp at hy) (fun h₁ hns₁ hsb₁ => ?_) hkind)))
  dsimp only at hns₁ hsb₁ ⊢
  have lo : (s₂.heap.objs.size == sysModules) = false := Z.noMod T
  generalize hH2 : s₂.heap.push _ = H2 at hns₁ hsb₁ ⊢
  have hC : H2.objs.size = s₂.heap.objs.size + 1 := by rw [← hH2, Heap.size_push]
  have fresh : ∀ (z : Heap), z.StaysIn s₂.heap → ∀ a, s₂.heap.objs.size ≤ a → z.get? a = none := fun z hz a ha => by
    cases e : z.get? a with
    | none => rfl
    | some o => exact absurd (Heap.lt_size (hz _ _ e)) (Nat.not_lt.mpr ha)
  have refl2 : s₂.heap.StaysIn s₂.heap := fun _ _ e => e
  have below : ∀ b, b < s₂.heap.objs.size → b ≠ H2.objs.size ∧ b ≠ s₂.heap.objs.size := fun b hb => ⟨by rw [hC]; exact Nat.ne_of_lt (Nat.lt_succ_of_lt hb), Nat.ne_of_lt hb⟩
  have old : ∀ b o, s₂.heap.get? b = some o → h₁.get? b = some o := fun b o e => hsb₁.extBut b o (below b (Heap.lt_size e)).1 (Heap.get?_push_of_some _ (hH2 ▸ Heap.get?_push_of_some _ e))
  have hDC : s₂.heap.objs.size ≠ H2.objs.size := by rw [hC]; exact Nat.ne_of_lt (Nat.lt_succ_self _)
  have hacc : h₁.get? s₂.heap.objs.size = some emptyDict := hsb₁.extBut _ _ hDC (Heap.get?_push_of_some _ (hH2 ▸ Heap.get?_push_size _ rfl))
  generalize hD : s₂.heap.objs.size = D at hns₁ hsb₁ below hDC hacc fresh lo ⊢
  generalize hCC : H2.objs.size = C at hns₁ hsb₁ below hDC hacc hC ⊢
  have hfI : I ∈ fp := WA.sub I (by simp)
  let g₁ : Heap := over s₂.heap r I []
  have hg₁ : ∀ b o, g₁.get? b = some o ↔ (s₂.heap.get? b = some o ∧ r.get? b = none ∧ b ≠ I) := fun b o => by
    show (over s₂.heap r I []).get? b = some o ↔ _
    rw [get_over]
    constructor
    · intro e
      split at e
      · cases e
      · rename_i z
        simp at z
        exact ⟨e, z.1, z.2⟩
    · rintro ⟨e, q1, q2⟩
      rw [if_neg (by simp [q1, q2]), e]
  have gg₁ : g.StaysIn g₁ := fun b o e => (hg₁ b o).mpr ⟨Z.base b o e, Z.rg.right e, by rintro rfl; rw [hI2] at e; cases e⟩
  have hLg : g₁.get? env.locals = some oL := (hg₁ _ _).mpr ⟨hL, Z.loc.1, Ne.symm hI3⟩
  have Up₁ : Up w g₁ (cenvOf scope cl C env) A base := U.sub fun gx hgx =>
    ⟨StaysIn.trans gg₁ hgx, oL, hgx _ _ hLg, fun vs q => by rw [hLd] at q; cases q⟩
  have hcl := clos_in hclos
  have clk : ∀ x c, cl.lookup x = some c → env.cells.lookup x = some c ∧ scope.names.lookup x = some .free := fun x c e => by
    rcases hcl x c (mem_of_lookup e) with q | q
    · cases q
    · refine ⟨q.1, ?_⟩
      have := List.all_eq_true.mp hfree _ q.2
      simpa using this
  have st1 : St 0 h₁ := WA.frame _ _ _ st0 fun b hb o e => old b o e
  let m₁ : Str → Option Value := fun x => if (cl.lookup x).isSome then m x else none
  have hm₁ : ∀ x c, cl.lookup x = some c → m₁ x = m x := fun x c e => by show (if (cl.lookup x).isSome then m x else none) = m x; rw [e]; rfl
  have rD : r.get? D = none := fresh r Z.own D (Nat.le_refl _)
  have gDn : g₁.get? D = none := by
    cases q : g₁.get? D with
    | none => rfl
    | some o => have := fresh s₂.heap refl2 D (Nat.le_refl _); rw [((hg₁ D o).mp q).1] at this; cases this
  have gCn : g₁.get? C = none := by
    cases q : g₁.get? C with
    | none => rfl
    | some o => have := fresh s₂.heap refl2 C (by rw [hC]; lia); rw [((hg₁ C o).mp q).1] at this; cases this
  have Z₁ : At w g₁ [] (cenvOf scope cl C env) m₁ (put r D emptyDict) h₁ := by
    refine ⟨fun b o e => old b o ((hg₁ b o).mp e).1, fun b o e => ?_, ⟨_, hns₁, fun x hx => ?_⟩, fun x c e => ?_, fun c hc => (nomatch hc), ⟨?_, gCn⟩, fun b o e => ?_, fun q => absurd rfl q, fun x c e => ?_⟩
    · by_cases hb : b = D
      · subst hb; rw [put_self _ _ rfl] at e; cases e; exact hacc
      · rw [put_ne _ _ hb] at e; exact old b o (Z.own b o e)
    · show List.lookup x [].reverse = if (cl.lookup x).isSome then m x else none
      cases q : cl.lookup x with
      | none => rfl
      | some c => exact absurd hx (relabel_free (clk x c q).2)
    · obtain ⟨⟨oc, q1, q2⟩, q3⟩ := Z.cell x c (clk x c e).1
      rw [hm₁ x c e]
      refine ⟨⟨oc, old c oc q1, q2⟩, .inr ⟨oc, (hg₁ c oc).mpr ⟨q1, ?_, ?_⟩⟩⟩
      · rcases q3 with z | ⟨o2, z⟩
        · exact (Z.csr c z).1
        · exact Z.rg.right z
      · rintro rfl
        rcases q3 with z | ⟨o2, z⟩
        · exact hI4 z
        · rw [hI2] at z; cases z
    · show (put r D emptyDict).get? C = none
      rw [put_ne _ _ (Ne.symm hDC)]; exact fresh r Z.own C (by rw [hC]; lia)
    · by_cases hb : b = D
      · subst hb; exact gDn
      · rw [put_ne _ _ hb] at e
        cases q : g₁.get? b with
        | none => rfl
        | some o2 => rw [((hg₁ b o2).mp q).2.1] at e; cases e
    · exact relabel_free (clk x c e).2
  have hDf : ∀ b ∈ fp, b ≠ D ∧ b ≠ C := fun b hb => by
    obtain ⟨o, e⟩ := hfp b hb
    have := below b (hD ▸ Heap.lt_size e)
    exact ⟨this.2, this.1⟩
  have hIg : g₁.get? I = none := by
    cases q : g₁.get? I with
    | none => rfl
    | some o => exact absurd rfl ((hg₁ I o).mp q).2.2
  have F := body D C g₁ h₁ (s₂.toks + ([] : List (Str × Value)).length) m₁ (fresh s₂.heap refl2 D (Nat.le_refl _)) lo rD gg₁ Z₁ hm₁ Up₁ st1 (by rw [put_ne _ _ (hDf I hfI).1]; exact hI1) hIg (hDf I hfI).2 (fun b hb => ⟨(hDf b hb).2, (hDf b hb).1, let ⟨o, e⟩ := hfp b hb; ⟨o, old b o e⟩⟩)
  refine compStart_for (A := A) rfl rfl U.handled (fun it => hT it D _) F fun s' hq => ?_
  obtain ⟨_, h₂, tk₂, m', r', rfl, Z₂, hq⟩ := hq
  obtain ⟨mC', hnC, _⟩ := Z₂.ns
  have Zo : At w g cs env m r' h₂ := Z.carry (fun b => b = I) (fun b hb => by subst hb; exact ⟨hI2, hI3, hI4⟩) (fun b o hb q e => by
    have z := (hg₁ b o).mpr ⟨e, q, hb⟩
    exact ⟨Z₂.base b o z, Z₂.rg.right z⟩) Z₂.own
  have hCr : r'.get? C = none := Z₂.loc.1
  have hCs : s₂.heap.get? C = none := fresh s₂.heap refl2 C (by rw [hC]; lia)
  have hCg : g.get? C = none := by
    cases q : g.get? C with
    | none => rfl
    | some o => rw [Z.base C o q] at hCs; cases hCs
  have hCL : C ≠ env.locals := by rintro rfl; rw [hL] at hCs; cases hCs
  have hCc : C ∉ cs := fun hc => by
    obtain ⟨_, _, _, x, hx⟩ := Z.csr _ hc
    obtain ⟨⟨oc, q, _⟩, _⟩ := Z.cell x _ hx
    rw [hCs] at q; cases q
  cases use with
  | none =>
    refine ⟨mC', hnC, fun h₃ hs₃ => ?_⟩
    exact hq h₃ tk₂ (Zo.but (fun b o hb e => (hs₃.2 b hb).trans e) hCr hCg hCL hCc)
  | some y =>
    obtain ⟨u1, u2, u3⟩ := huse y rfl
    show wpAny _ _ (assign (.Name y py) env (.ref D)) _ _ _
    obtain ⟨oC, esC, epC, qC, qd⟩ := hnC
    have Zb := Zo.rebase
    refine wpAny_assign_Name (At.store_l (s := { s₂ with heap := h₂, toks := tk₂ }) Zb u1 u2 fun h₄ Z₄ => ?_)
    refine ⟨mC', ⟨oC, esC, epC, Z₄.base C oC (over_some qC hCr hCL hCc), qd⟩, fun h₃ hs₃ => ?_⟩
    refine u3 _ _ _ (hq h₃ _ ((Zo.weaken Zo.over_base Z₄).but (fun b o hb e => (hs₃.2 b hb).trans e) hCr hCg hCL hCc))
theorem dcomp1 {w : World} {A : Around} {g : Heap} {cs : List Addr} {env : Env} {base : Heap} {kx vx target iter t1 i1 t2 i2 : PySem.Expr} {scope : Scope} {cl : List (Str × Addr)} {pos : Pos} {s : Shared} {m : Str → Option Value} {r : Heap}
    {Q : Value → Shared → Prop} (Z : autoParam (At w g cs env m r s.heap) Ln.a_at) (T : autoParam (TopE g) Ln.a_at) (U : autoParam (Up w g env A base) Ln.a_as) (hclos : autoParam (clos env scope.names [] = some cl) Ln.a_rf) (hfree : autoParam (okFree scope = true) Ln.a_dk) (hcell : autoParam (∀ y ∈ scope.names, y.2 ≠ .cell) Ln.a_dk) (hkind : autoParam (scope.kind = .function) Ln.a_rf)
    (hnames : autoParam (∀ y ∈ scope.names, y.2 = .local → scope.names.lookup y.1 = some .local) Ln.a_dk)
    (h : wpAny (model prg w) A (eval iter env) (fun xv s₁ => wpAny (model prg w) A (pyIter xv) (fun it s₂ => DCompAt w A g cs env base scope cl target (fun env D => emitLast kx vx D env >>= fun _ => pure Flow.next) none Q it s₂) never s₁) never s)
    (hs : autoParam (∀ x, foldedSetIterable iter env x = pure x) Ln.a_xr) : wpAny (model prg w) A (eval (.DictComp kx vx [⟨target, iter, [], 0⟩] scope pos) env) Q never s := by
  rw [arm_eval_DictComp]
  exact dcomp_core (py := pos) (use := none) (emit := fun env D => emitLast kx vx D env) T U hclos hfree hcell hkind hnames (fun _ e => nomatch e) (fun it D env => turn1) h hs
theorem dcomp3_to {w : World} {A : Around} {g : Heap} {cs : List Addr} {env : Env} {base : Heap} {kx vx target iter t1 i1 t2 i2 : PySem.Expr} {scope : Scope} {cl : List (Str × Addr)} {pos : Pos} {s : Shared} {m : Str → Option Value} {r : Heap}
    {y : Str} {py spos : Pos} {Q : Flow → Shared → Prop} (Z : autoParam (At w g cs env m r s.heap) Ln.a_at) (T : autoParam (TopE g) Ln.a_at) (U : autoParam (Up w g env A base) Ln.a_as) (hclos : autoParam (clos env scope.names [] = some cl) Ln.a_rf) (hfree : autoParam (okFree scope = true) Ln.a_dk) (hcell : autoParam (∀ y ∈ scope.names, y.2 ≠ .cell) Ln.a_dk) (hkind : autoParam (scope.kind = .function) Ln.a_rf)
    (hnames : autoParam (∀ y ∈ scope.names, y.2 = .local → scope.names.lookup y.1 = some .local) Ln.a_dk)
    (hsw : autoParam (swapsWith (.DictComp kx vx [⟨target, iter, [], 0⟩, ⟨t1, i1, [], 0⟩, ⟨t2, i2, [], 0⟩] scope pos) (some (.Name y py)) spos.line env = pure true) Ln.a_rf) (hy : autoParam (env.kindOf y = some .local) Ln.a_rf) (hyk : autoParam (env.scope.kind = .function) Ln.a_rf)
    (h : wpAny (model prg w) A (eval iter env) (fun xv s₁ => wpAny (model prg w) A (pyIter xv) (fun it s₂ => DCompAt w A g cs env base scope cl target (fun env D => emitNest (.DictComp kx vx [⟨target, iter, [], 0⟩, ⟨t1, i1, [], 0⟩, ⟨t2, i2, [], 0⟩] scope pos) 0 i1 D env >>= fun _ => pure Flow.next) (some y) (fun _ => Q .next) it s₂) never s₁) never s)
    (hs : autoParam (∀ x, foldedSetIterable iter env x = pure x) Ln.a_xr) : wpAny (model prg w) A (exec (.Assign [.Name y py] (.DictComp kx vx [⟨target, iter, [], 0⟩, ⟨t1, i1, [], 0⟩, ⟨t2, i2, [], 0⟩] scope pos) spos) env) Q never s := by
  rw [exec_Assign_Name_used _ _ _ _ hsw]
  refine wpAny_bind (wpAny_standAt (wpAny_bind ?_))
  show wpAny _ _ (do let _ ← comprehension (.DictComp kx vx [⟨target, iter, [], 0⟩, ⟨t1, i1, [], 0⟩, ⟨t2, i2, [], 0⟩] scope pos) scope env _ newDict false (eval iter env) (some (assign (.Name y py) env))) _ _ s
  exact wpAny_bind (wpAny_mono (dcomp_core (py := py) (use := some y) (emit := fun env D => emitNest (.DictComp kx vx [⟨target, iter, [], 0⟩, ⟨t1, i1, [], 0⟩, ⟨t2, i2, [], 0⟩] scope pos) 0 i1 D env) (Q := fun _ => Q .next) T U hclos hfree hcell hkind hnames (fun z e => by cases e; exact ⟨hy, hyk, fun _ _ _ q => q⟩) (fun it D env => turn3_0) h hs) (fun _ s' hq => wpAny_pure (wpAny_pure hq)) fun _ _ e => e)
section
variable {w : World} {A : Around} {g : Heap} {cs : List Addr} {env : Env} {base : Heap} {scope : Scope} {cl : List (Str × Addr)} {target : PySem.Expr} {B : Env → Addr → Sem Flow} {use : Option Str} {Q : Value → Shared → Prop} {s : Shared} {m : Str → Option Value} {r : Heap}
noncomputable def Prmdcomp_list_done (w : World) (g : Heap) (cs : List Addr) (env : Env) (use : Option Str) (Q : Value → Shared → Prop) (s : Shared) (m : Str → Option Value) (r : Heap) (vs : List Value) (J : Addr → Nat → (Str → Option Value) → Heap → Prop) (D : Addr) (m' : Str → Option Value) (r' : Heap) (h : Heap) (tk : Tok) : Prop :=
  r.get? D = none → J D vs.length m' r' → At w g cs env (useM use m D) r' h → Q (.ref D) { s with heap := h, toks := tk }
noncomputable def Prmdcomp_list_turn (w : World) (A : Around) (g : Heap) (env : Env) (base : Heap) (scope : Scope) (cl : List (Str × Addr)) (target : PySem.Expr) (B : Env → Addr → Sem Flow) (s : Shared) (r : Heap) (vs : List Value) (J : Addr → Nat → (Str → Option Value) → Heap → Prop) (D : Addr) (C : Addr) (i : Nat) (v : Value) (m₁ : Str → Option Value) (r₁ : Heap) (h : Heap) (tk : Tok) (gB : Heap) (QT : Flow → Shared → Prop) : Prop :=
  (∀ fl s', TurnEnd w gB [] (cenvOf scope cl C env) (J D (i + 1)) (fun _ _ => False) s fl s' → QT fl s') → vs[i]? = some v → r.get? D = none → J D i m₁ r₁ → g.StaysIn gB → At w gB [] (cenvOf scope cl C env) m₁ r₁ h → Up w gB (cenvOf scope cl C env) A base →
      wpAny (model prg w) A (assign target (cenvOf scope cl C env) v) (fun _ s' => wpAny (model prg w) A (B (cenvOf scope cl C env) D) QT never s') never { s with heap := h, toks := tk }
theorem dcomp_list {ax : Addr} {vs : List Value} (hl : isL s.heap ax vs) (Z : At w g cs env m r s.heap) (J : Addr → Nat → (Str → Option Value) → Heap → Prop)
    (hsrc : ∀ D i m' r', r.get? D = none → J D i m' r' → ∀ o, r.get? ax = some o → r'.get? ax = some o)
    (j0 : ∀ D mC, (D == sysModules) = false → r.get? D = none → (∀ x c, cl.lookup x = some c → mC x = m x) → J D 0 mC (put r D emptyDict))
    (turn : ∀ D C i v m₁ r₁ h tk gB QT, Prmdcomp_list_turn w A g env base scope cl target B s r vs J D C i v m₁ r₁ h tk gB QT)
    (done : ∀ D m' r' h tk, Prmdcomp_list_done w g cs env use Q s m r vs J D m' r' h tk) :
    wpAny (model prg w) A (pyIter (.ref ax)) (fun it s₂ => DCompAt w A g cs env base scope cl target B use Q it s₂) never s := by
  have N := Z.pushed
  have hl' := hl
  obtain ⟨k, e⟩ := hl
  have hne : ax ≠ s.heap.objs.size := by rintro rfl; rw [no_size] at e; cases e
  have e' := Heap.get?_push_of_some ({ cls := .type "list_iterator", data := .fields #[.ref ax, .int 0 0] } : Obj) e
  have W := Wk.list (w := w) s.heap.objs.size ax hne vs
  refine wpAny_pyIter_list hl'.list ⟨s.heap.objs.size, [s.heap.objs.size, ax], vs.length, _, _, m, r, rfl, W, ⟨⟨_, Heap.get?_push_size _ rfl, rfl, rfl⟩, _, e', rfl, k, rfl⟩, Z.push _, ⟨N.nr, N.ng, N.nl, N.nc⟩, ?_, ?_⟩
  · intro b hb
    rcases List.mem_cons.mp hb with rfl | hb
    · exact ⟨_, Heap.get?_push_size _ rfl⟩
    · rw [List.mem_singleton.mp hb]
      exact ⟨_, e'⟩
  · intro D C g₁ h tk mC hD lo rD gg Z₁ hm U₁ st hI hIg hIC hfp
    refine ⟨s.heap.objs.size, [s.heap.objs.size, ax], vs.length, _, _, mC, _, J D, fun _ _ => False, rfl, W, st, Z₁, ⟨hI, hIg, hIC, fun q => nomatch q⟩, fun b hb => ⟨(hfp b hb).1, (fun q => nomatch q), (hfp b hb).2.2⟩, ?_, j0 D mC lo rD hm, ?_, ?_, fun _ _ _ _ _ q => q.elim⟩
    · intro i m' r' hJ b hb o eo
      rw [put_ne _ _ (hfp b hb).2.1] at eo
      rcases List.mem_cons.mp hb with rfl | hb
      · rw [N.nr] at eo; cases eo
      · rw [List.mem_singleton.mp hb] at eo ⊢
        exact hsrc D i m' r' rD hJ o eo
    · intro i v m₁ r₁ h' tk' gB hi hv hJ hg Z₂
      exact turn D C i v m₁ r₁ h' tk' gB _ (fun _ _ q => q) hv rD hJ (StaysIn.trans gg hg) Z₂ (U₁.mono hg)
    · intro m' r' h' tk' hJ Z'
      exact DEnd.mk Z' fun h₃ tk₃ Z₃ => done D m' r' h₃ tk₃ rD hJ Z₃
noncomputable def Prmdcomp_dict_done (w : World) (g : Heap) (cs : List Addr) (env : Env) (use : Option Str) (Q : Value → Shared → Prop) (s : Shared) (m : Str → Option Value) (r : Heap) {K : Type} [DecidableEq K] (kvs : List (K × Value)) (J : Addr → Nat → (Str → Option Value) → Heap → Prop) (D : Addr) (m' : Str → Option Value) (r' : Heap) (h : Heap) (tk : Tok) : Prop :=
  r.get? D = none → J D kvs.length m' r' → At w g cs env (useM use m D) r' h → Q (.ref D) { s with heap := h, toks := tk }
noncomputable def Prmdcomp_dict_turn (w : World) (A : Around) (g : Heap) (env : Env) (base : Heap) (scope : Scope) (cl : List (Str × Addr)) (target : PySem.Expr) (B : Env → Addr → Sem Flow) (s : Shared) (r : Heap) {K : Type} [DecidableEq K] (knd : KeyKind prg w K) (kvs : List (K × Value)) (J : Addr → Nat → (Str → Option Value) → Heap → Prop) (D : Addr) (C : Addr) (i : Nat) (k : K) (x : Value) (v : Value) (m₁ : Str → Option Value) (r₁ : Heap) (h : Heap) (tk : Tok) (gB : Heap) (QT : Flow → Shared → Prop) : Prop :=
  (∀ fl s', TurnEnd w gB [] (cenvOf scope cl C env) (J D (i + 1)) (fun _ _ => False) s fl s' → QT fl s') → kvs[i]? = some (k, x) → knd.is k v = true → r.get? D = none → J D i m₁ r₁ → g.StaysIn gB → At w gB [] (cenvOf scope cl C env) m₁ r₁ h → Up w gB (cenvOf scope cl C env) A base →
      wpAny (model prg w) A (assign target (cenvOf scope cl C env) v) (fun _ s' => wpAny (model prg w) A (B (cenvOf scope cl C env) D) QT never s') never { s with heap := h, toks := tk }
theorem dcomp_dict {K : Type} [DecidableEq K] {knd : KeyKind prg w K} {d : Addr} {kvs : List (K × Value)} (hd : isD knd s.heap d kvs) (Z : At w g cs env m r s.heap) (J : Addr → Nat → (Str → Option Value) → Heap → Prop)
    (hsrc : ∀ D i m' r', r.get? D = none → J D i m' r' → ∀ o, r.get? d = some o → r'.get? d = some o)
    (j0 : ∀ D mC, (D == sysModules) = false → r.get? D = none → (∀ x c, cl.lookup x = some c → mC x = m x) → J D 0 mC (put r D emptyDict))
    (turn : ∀ D C i k x v m₁ r₁ h tk gB QT, Prmdcomp_dict_turn w A g env base scope cl target B s r knd kvs J D C i k x v m₁ r₁ h tk gB QT)
    (done : ∀ D m' r' h tk, Prmdcomp_dict_done w g cs env use Q s m r kvs J D m' r' h tk) :
    wpAny (model prg w) A (pyIter (.ref d)) (fun it s₂ => DCompAt w A g cs env base scope cl target B use Q it s₂) never s := by
  have N := Z.pushed
  obtain ⟨lo, hd⟩ := hd
  obtain ⟨ep, hat⟩ := hd.dictAt
  obtain ⟨o, es, e, hrest⟩ := id hat
  have hne : d ≠ s.heap.objs.size := by rintro rfl; rw [no_size] at e; cases e
  have W := Wk.dict (w := w) (knd := knd) s.heap.objs.size d hne kvs ep
  refine wpAny_pyIter_dict lo hat ⟨s.heap.objs.size, [s.heap.objs.size, d], kvs.length, _, _, m, r, rfl, W, ⟨⟨_, Heap.get?_push_size _ rfl, rfl, rfl⟩, hat.push _⟩, Z.push _, ⟨N.nr, N.ng, N.nl, N.nc⟩, ?_, ?_⟩
  · intro b hb
    rcases List.mem_cons.mp hb with rfl | hb
    · exact ⟨_, Heap.get?_push_size _ rfl⟩
    · rw [List.mem_singleton.mp hb]
      exact ⟨_, Heap.get?_push_of_some _ e⟩
  · intro D C g₁ h tk mC hD lo' rD gg Z₁ hm U₁ st hI hIg hIC hfp
    refine ⟨s.heap.objs.size, [s.heap.objs.size, d], kvs.length, _, _, mC, _, J D, fun _ _ => False, rfl, W, st, Z₁, ⟨hI, hIg, hIC, fun q => nomatch q⟩, fun b hb => ⟨(hfp b hb).1, (fun q => nomatch q), (hfp b hb).2.2⟩, ?_, j0 D mC lo' rD hm, ?_, ?_, fun _ _ _ _ _ q => q.elim⟩
    · intro i m' r' hJ b hb o eo
      rw [put_ne _ _ (hfp b hb).2.1] at eo
      rcases List.mem_cons.mp hb with rfl | hb
      · rw [N.nr] at eo; cases eo
      · rw [List.mem_singleton.mp hb] at eo ⊢
        exact hsrc D i m' r' rD hJ o eo
    · rintro i v m₁ r₁ h' tk' gB hi ⟨k, x, h1, h2⟩ hJ hg Z₂
      exact turn D C i k x v m₁ r₁ h' tk' gB _ (fun _ _ q => q) h1 h2 rD hJ (StaysIn.trans gg hg) Z₂ (U₁.mono hg)
    · intro m' r' h' tk' hJ Z'
      exact DEnd.mk Z' fun h₃ tk₃ Z₃ => done D m' r' h₃ tk₃ rD hJ Z₃
end
end Pf
end
section
open PySem PySem.W PySem.Calls PyProof.Rows
set_option Elab.async false
set_option compiler.extract_closed false
set_option maxRecDepth 100000
namespace Pf
/-! ## a cut behind a statement; slices; lists of tuples held against each other -/
section
variable {w : World} {A : Around} {E : Value → Shared → Prop} {s : Shared} {g : Heap} {cs : List Addr} {env : Env} {m : Str → Option Value} {r r₀ : Heap} {as : List Addr} {vs ws zs : List Value} {l b : Addr}
noncomputable def Prmcut_turn_h2 (w : World) (s : Shared) (g : Heap) (cs : List Addr) (env : Env) (Q : Flow → Shared → Prop) (P : (Str → Option Value) → Heap → Prop) (h' : Heap) (tk : Tok) (m' : Str → Option Value) (r' : Heap) : Prop :=
  At w g cs env m' r' h' → P m' r' → Q .next { s with heap := h', toks := tk }
theorem cut_turn {st : Stmt} {Q : Flow → Shared → Prop} (P : (Str → Option Value) → Heap → Prop)
    (h1 : wpAny (model prg w) A (exec st env) (TurnEnd w g cs env P (fun _ _ => False) s) never s) (h2 : ∀ h' tk m' r', Prmcut_turn_h2 w s g cs env Q P h' tk m' r') :
    wpAny (model prg w) A (exec st env) Q never s :=
  wpAny_mono h1 (fun f s' h => by
    obtain ⟨rfl, h', tk, m', r', rfl, Z, p⟩ | ⟨v, _, _, _, _, _, _, _, q⟩ := h
    · exact h2 h' tk m' r' Z p
    · exact q.elim) fun _ _ q => q
theorem cut_at {st : Stmt} {Q : Flow → Shared → Prop} (_ : At w g cs env m r s.heap) (P : (Str → Option Value) → Heap → Prop)
    (h1 : ∀ QT : Flow → Shared → Prop, (∀ fl s', TurnEnd w g cs env P (fun _ _ => False) s fl s' → QT fl s') → wpAny (model prg w) A (exec st env) QT never s) (h2 : ∀ h' tk m' r', At w g cs env m' r' h' → P m' r' → Q .next { s with heap := h', toks := tk }) :
    wpAny (model prg w) A (exec st env) Q never s := cut_turn P (h1 _ fun _ _ q => q) h2
theorem slice_l {value slice : PySem.Expr} {sl : Addr} {vl vu : Value} {lo hi : Option Int} {Q : Value → Shared → Prop} (Z : At w g cs env m r s.heap) (S : Step as r₀ r) (hl : isL s.heap l vs) (hsl : s.heap.IsSliceOf sl vl vu .none) (pl : IsPart vl lo) (pu : IsPart vu hi)
    (e : (slicePick vs.toArray lo hi none).toList = zs) (hz : vs.length ≤ sizeLine) (h : Own w g cs env m r r₀ as zs Q s)
    (hs : subscripted slice false (.ref l) (.ref sl) = operate [.ref sl, .ref l] (getItem (.ref l) (.ref sl))) (ht : ∀ r, letTemporaryGo value (.ref l) r = pure ()) :
    wpAny (model prg w) A (subscriptTail value slice (.ref l) (.ref sl)) Q E s := by
  refine subscriptTail_ops hl.list.typeIs list_getitem_lookup (wpAny_getItem_list_slice hl.list hsl pl pu .none (by simp) ?_ (by simpa using hz)) hs ht
  refine h.take S (Z.push _) ⟨Z.fresh.1, Z.fresh.2.1, Z.fresh.2.2.1, Z.fresh.2.2.2⟩ ⟨0, ?_⟩
  rw [← e]
  exact Heap.get?_push_size _ rfl
theorem ne_same {Q : Value → Shared → Prop} (hl : isL s.heap l vs) (hb : isL s.heap b ws) (hu : A.units < cLine) (hz : vs.length = ws.length)
    (he : ∀ (j : Nat) (a c : Value), vs[j]? = some a → ws[j]? = some c → PySem.SeqAt.EqAt A.in1 s a c true) (h : Q (.bool false) s) : wpAny (model prg w) A (compareOp .NotEq (.ref l) (.ref b)) Q E s :=
  ne_gen (List.replicate vs.length ()) (List.replicate vs.length ()) hl hb hu (by simp) (by simpa using hz) (fun j _ _ a c _ _ h3 h4 => by simpa using he j a c h3 h4) (by simpa using h)
theorem eqAt_tups {A : Around} {a c : Addr} {ts us : List Value} (ha : isT s.heap a ts) (hc : isT s.heap c us) (hu : A.units < cLine) (hz : ts.length = us.length) (he : ∀ (j : Nat) (x y : Value), ts[j]? = some x → us[j]? = some y → PySem.SeqAt.EqAt A.in1 s x y true) :
    PySem.SeqAt.EqAt A s (.ref a) (.ref c) true := by
  by_cases q : a = c
  · subst q; exact PySem.SeqAt.EqAt.same _
  · have ha' : s.heap.IsTuple a ts.toArray := let ⟨n, e⟩ := ha; ⟨_, e, rfl, n, rfl⟩
    have hc' : s.heap.IsTuple c us.toArray := let ⟨n, e⟩ := hc; ⟨_, e, rfl, n, rfl⟩
    have z := PySem.SeqAt.RcAt.tuples (A := A) (e := fun _ => true) ha' hc' hu (fun j h1 h2 => he j _ _ (by simp [show j < ts.length by simpa using h1]) (by simp [show j < us.length by simpa using h2]))
    have e : ((List.range (min ts.toArray.size us.toArray.size)).all (fun _ => true) && ts.toArray.size == us.toArray.size) = true := by simp [hz]
    rw [e] at z
    exact PySem.SeqAt.EqAt.of_refs q z
end
end Pf
end
section
open PySem PySem.W PySem.Calls PyProof.Rows
set_option Elab.async false
set_option compiler.extract_closed false
set_option maxRecDepth 100000
set_option maxHeartbeats 8000000
set_option rowWalk.seconds 0
set_option pp.deepTerms false
set_option pp.deepTerms.threshold 6
set_option linter.unusedVariables false
namespace Pf
example : PySem.Challenge.rw_pf0200_01 = PySem.Challenge.rw_pf0200_01 ∧ Pf.ob.heap_1 = Pf.ob.heap_1 := by
  k_fill
  exact ⟨rfl, rfl⟩
local macro_rules | `(tactic| walk_at $s:str) => Ln.run Ln.rows1 s
local macro_rules | `(tactic| walk_at "pf hb") => `(tactic| (intro s KK; first | exact BindsTo.of_eq rfl | exact binds_K KK rfl (by k_is) rfl rfl rfl))
local macro_rules | `(tactic| walk_at "pf in2") => `(tactic| (intro a q; simp only [List.mem_cons, List.mem_singleton, List.not_mem_nil, or_false] at q ⊢; simp_all; done))
/-! ## ints -/
/-- the product by 255, the nearest -/
noncomputable def wt (n a : Int) : Int := (2 * n * a + 255).fdiv 510

theorem weighted_spec (w : World) (r : Heap) (n a : Int) (t u : Tok) (h2 : 0 ≤ a) (h3 : a ≤ 255) :
    Call w r [] (.ref 28) [.int n t, .int a u] 1 (fun v r' => r = r' ∧ ∃ t, v = .int (wt n a) t) := by
  revert h2 h3
  revert w r n a t u
  refine lift6 (i1 := Pf.nW) ?_; refine (?x1 : ∀ a0 a1 a2 a3 a4 a5, Ap6 _ a0 a1 a2 a3 a4 a5) _ _ _ _ _ _; intro w r n a t u; refine Ap6.mk ?_
  intro h2 h3
  refine' enter [("n", .int n t), ("alpha", .int a u)] ?ho ?hcd ?hb ?hkd ?hok ?hnd ?c2 ?c3 ?c4 (fun _ h => nomatch h) ?_
  walk_at "pf enter"
  refine lift8 (i1 := Pf.nA) (i7 := Pf.nS) ?_; refine (?x4 : ∀ a0 a1 a2 a3 a4 a5 a6 a7, Ap8 _ a0 a1 a2 a3 a4 a5 a6 a7) _ _ _ _ _ _ _ _; intro A base g h₁ tk₁ L s Q; refine Ap8.mk ?_
  intro hd hu X T U Z S hret
  walk_at "pf go"
  refine' hret _ _ _ _ _ ?e1 ?e2 ?e3
  case e1 => assumption
  case e2 => assumption
  case e3 => exact ⟨rfl, _, rfl⟩

theorem wt_alt (one other : Int) : (one * other).fdiv 255 + (if decide (2 * (one * other).fmod 255 ≥ 255) = true then 1 else 0) = wt one other := by
  unfold wt
  rw [show 2 * one * other = 2 * (one * other) from Int.mul_assoc ..]
  generalize one * other = p
  rw [Int.fdiv_eq_ediv_of_nonneg _ (by decide), Int.fmod_eq_emod_of_nonneg _ (by decide), Int.fdiv_eq_ediv_of_nonneg _ (by decide)]
  by_cases h : 2 * (p % 255) ≥ 255
  · rw [if_pos (by simpa using h)]; lia
  · rw [if_neg (by simpa using h)]; lia

theorem times_spec (w : World) (r : Heap) (n a : Int) (t u : Tok) (h2 : 0 ≤ a) (h3 : a ≤ 255) :
    Call w r [] (.ref 541) [.int n t, .int a u] 1 (fun v r' => r = r' ∧ ∃ t, v = .int (wt n a) t) := by
  revert h2 h3
  revert w r n a t u
  refine lift6 (i1 := Pf.nW) ?_; refine (?x2 : ∀ a0 a1 a2 a3 a4 a5, Ap6 _ a0 a1 a2 a3 a4 a5) _ _ _ _ _ _; intro w r n a t u; refine Ap6.mk ?_
  intro h2 h3
  refine' enter [("one", .int n t), ("other", .int a u)] ?ho ?hcd ?hb ?hkd ?hok ?hnd ?c2 ?c3 ?c4 (fun _ h => nomatch h) ?_
  walk_at "pf enter"
  refine lift8 (i1 := Pf.nA) (i7 := Pf.nS) ?_; refine (?x5 : ∀ a0 a1 a2 a3 a4 a5 a6 a7, Ap8 _ a0 a1 a2 a3 a4 a5 a6 a7) _ _ _ _ _ _ _ _; intro A base g h₁ tk₁ L s Q; refine Ap8.mk ?_
  intro hd hu X T U Z S hret
  walk_at "pf go"
  refine' hret _ _ _ _ _ ?e1 ?e2 ?e3
  case e1 => assumption
  case e2 => assumption
  case e3 => exact ⟨rfl, _, congrArg (Value.int · _) (wt_alt n a)⟩

theorem mixed_spec (w : World) (r : Heap) (a b c d : Int) (t u x y : Tok) (h2 : 0 ≤ b) (h3 : b ≤ 255) (h4 : -1000 ≤ d) (h5 : d ≤ 1000) :
    Call w r [] (.ref 307) [.int a t, .int b u, .int c x, .int d y] 1 (fun v r' => r = r' ∧ ∃ t, v = .int ((2 * (a * b + c * d) + 255).fdiv 510) t) := by
  revert h2 h3 h4 h5
  revert w r a b c d t u x y
  refine lift10 (i1 := Pf.nW) ?_; refine (?x3 : ∀ a0 a1 a2 a3 a4 a5 a6 a7 a8 a9, Ap10 _ a0 a1 a2 a3 a4 a5 a6 a7 a8 a9) _ _ _ _ _ _ _ _ _ _; intro w r a b c d t u x y; refine Ap10.mk ?_
  intro h2 h3 h4 h5
  refine' enter [("one", .int a t), ("first", .int b u), ("other", .int c x), ("second", .int d y)] ?ho ?hcd ?hb ?hkd ?hok ?hnd ?c2 ?c3 ?c4 (fun _ h => nomatch h) ?_
  walk_at "pf enter"
  refine lift8 (i1 := Pf.nA) (i7 := Pf.nS) ?_; refine (?x6 : ∀ a0 a1 a2 a3 a4 a5 a6 a7, Ap8 _ a0 a1 a2 a3 a4 a5 a6 a7) _ _ _ _ _ _ _ _; intro A base g h₁ tk₁ L s Q; refine Ap8.mk ?_
  intro hd hu X T U Z S hret
  walk_at "pf go"
  refine' hret _ _ _ _ _ ?e1 ?e2 ?e3
  case e1 => assumption
  case e2 => assumption
  case e3 => exact ⟨rfl, _, rfl⟩
/-! ## colours -/
structure C4 where
  a : Int
  b : Int
  c : Int
  d : Int
  deriving DecidableEq, Inhabited
noncomputable def C4.Ok (x : C4) : Prop := 0 ≤ x.a ∧ x.a ≤ x.d ∧ 0 ≤ x.b ∧ x.b ≤ x.d ∧ 0 ≤ x.c ∧ x.c ≤ x.d ∧ x.d ≤ 255
noncomputable def isCol (h : Heap) (a : Addr) (c : C4) : Prop := ∃ t0 t1 t2 t3, isT h a [.int c.a t0, .int c.b t1, .int c.c t2, .int c.d t3]
theorem isCol.up {h h' : Heap} {a : Addr} {c : C4} (x : isCol h a c) (k : h.StaysIn h') : isCol h' a c := by
  obtain ⟨t0, t1, t2, t3, e⟩ := x
  exact ⟨t0, t1, t2, t3, e.up k⟩
theorem isCol.step {as : List Addr} {r r' : Heap} {a : Addr} {c : C4} (x : isCol r a c) (S : Step as r r') : isCol r' a c := by
  obtain ⟨t0, t1, t2, t3, e⟩ := x
  exact ⟨t0, t1, t2, t3, e.step S⟩
abbrev zero4 : C4 := ⟨0, 0, 0, 0⟩
/-- a value that is a colour: one that is owned, or the empty one -/
noncomputable def Col (r : Heap) (v : Value) (c : C4) : Prop := ∃ a, v = .ref a ∧ (isCol r a c ∨ (a = 228 ∧ c = zero4))
theorem Col.step {as : List Addr} {r r' : Heap} {v : Value} {c : C4} (x : Col r v c) (S : Step as r r') : Col r' v c := by
  obtain ⟨a, e, q⟩ := x
  exact ⟨a, e, q.imp (fun z => z.step S) id⟩
theorem nothing_in (w : World) {g : Heap} (X : (Pf.ob.heap_1 w.params).In g) : isCol g 228 zero4 := by
  obtain ⟨t0, t1, t2, t3, n, e⟩ : ∃ t0 t1 t2 t3 n, (Pf.ob.heap_1 w.params).lookup 228 = some (tupO [.int 0 t0, .int 0 t1, .int 0 t2, .int 0 t3] n) := ⟨_, _, _, _, _, by k_is⟩
  exact ⟨t0, t1, t2, t3, n, X _ _ e⟩

noncomputable def Sees (r g : Heap) (a : Addr) (c : C4) : Prop := isCol r a c ∨ isCol g a c
theorem Sees.at {w : World} {g : Heap} {cs : List Addr} {env : Env} {m : Str → Option Value} {r h : Heap} {a : Addr} {c : C4} (x : Sees r g a c) (Z : At w g cs env m r h) : isCol h a c := x.elim (fun q => q.up Z.own) fun q => q.up Z.base
theorem Sees.step {as : List Addr} {r r' g g' : Heap} {a : Addr} {c : C4} (x : Sees r g a c) (S : Step as r r') (k : g.StaysIn g') : Sees r' g' a c := x.imp (fun q => q.step S) fun q => q.up k
theorem Sees.open {r g : Heap} {a : Addr} {c : C4} (x : Sees r g a c) : ∃ t0 t1 t2 t3, seeT r g a [.int c.a t0, .int c.b t1, .int c.c t2, .int c.d t3] := by
  rcases x with ⟨t0, t1, t2, t3, e⟩ | ⟨t0, t1, t2, t3, e⟩
  · exact ⟨t0, t1, t2, t3, .inl e⟩
  · exact ⟨t0, t1, t2, t3, .inr e⟩
theorem Col.sees {w : World} {r g : Heap} {v : Value} {c : C4} (x : Col r v c) (X : (Pf.ob.heap_1 w.params).In g) : ∃ a, v = .ref a ∧ Sees r g a c := by
  obtain ⟨a, rfl, q⟩ := x
  refine ⟨a, rfl, q.imp id ?_⟩
  rintro ⟨rfl, rfl⟩
  exact nothing_in w X
noncomputable def dim (c : C4) (al : Int) : C4 := ⟨wt c.a al, wt c.b al, wt c.c al, wt c.d al⟩
theorem wt_nonneg {n a : Int} (h : 0 ≤ n) (h2 : 0 ≤ a) : 0 ≤ wt n a := by
  unfold wt
  rw [Int.fdiv_eq_ediv_of_nonneg _ (by decide)]
  have := Int.mul_nonneg (show 0 ≤ 2 * n by lia) h2
  lia
theorem wt_mono {n k a : Int} (h : n ≤ k) (h2 : 0 ≤ a) : wt n a ≤ wt k a := by
  unfold wt
  rw [Int.fdiv_eq_ediv_of_nonneg _ (by decide), Int.fdiv_eq_ediv_of_nonneg _ (by decide)]
  have := Int.mul_le_mul_of_nonneg_right (show 2 * n ≤ 2 * k by lia) h2
  lia
theorem wt_le {n a : Int} (h : 0 ≤ n) (h1 : n ≤ 255) (h3 : a ≤ 255) : wt n a ≤ 255 := by
  unfold wt
  rw [Int.fdiv_eq_ediv_of_nonneg _ (by decide)]
  have := Int.mul_le_mul_of_nonneg_left h3 (show 0 ≤ 2 * n by lia)
  lia
theorem dim_ok {c : C4} {al : Int} (h : c.Ok) (h2 : 0 ≤ al) (h3 : al ≤ 255) : (dim c al).Ok := by
  obtain ⟨a1, a2, b1, b2, c1, c2, d2⟩ := h
  exact ⟨wt_nonneg a1 h2, wt_mono a2 h2, wt_nonneg b1 h2, wt_mono b2 h2, wt_nonneg c1 h2, wt_mono c2 h2, wt_le (by lia) d2 h3⟩

theorem ints4 {ys : List Value} {a b c d : Int} (h : IntsAre ys [a, b, c, d]) : ∃ u0 u1 u2 u3, ys = [.int a u0, .int b u1, .int c u2, .int d u3] := by
  rcases h with _ | ⟨_, u0, h⟩ 
  rcases h with _ | ⟨_, u1, h⟩ 
  rcases h with _ | ⟨_, u2, h⟩ 
  rcases h with _ | ⟨_, u3, h⟩ 
  cases h
  exact ⟨u0, u1, u2, u3, rfl⟩
theorem dimmed_spec (w : World) (r : Heap) (v : Value) (c : C4) (al : Int) (t : Tok) (hc : Col r v c) (h2 : 0 ≤ al) (h3 : al ≤ 255) :
    Call w r [] (.ref 33) [v, .int al t] 2 (fun v' r' => Col r' v' (dim c al)) := by
  revert hc h2 h3
  revert w r v c al t
  refine lift6 (i1 := Pf.nW) ?_; refine (?x7 : ∀ a0 a1 a2 a3 a4 a5, Ap6 _ a0 a1 a2 a3 a4 a5) _ _ _ _ _ _; intro w r v c al t; refine Ap6.mk ?_
  intro hc h2 h3
  refine' enter [("colour", v), ("alpha", .int al t)] ?ho ?hcd ?hb ?hkd ?hok ?hnd ?c2 ?c3 ?c4 (fun _ h => nomatch h) ?_
  walk_at "pf enter"
  refine lift8 (i1 := Pf.nA) (i7 := Pf.nS) ?_; refine (?x8 : ∀ a0 a1 a2 a3 a4 a5 a6 a7, Ap8 _ a0 a1 a2 a3 a4 a5 a6 a7) _ _ _ _ _ _ _ _; intro A base g h₁ tk₁ L s Q; refine Ap8.mk ?_
  intro hd hu X T U Z S hret
  refine mpI (hc.sees X) ?_
  walk_at "pf D"
  rename_i a
  walk_at "pf DR"
  intro sa
  walk_at "pf go"
  obtain ⟨t0, t1, t2, t3, st⟩ := sa.at Z
  refine' comp_tuple st (by simp [sizeLine_eq]) Z (fun i r' ys => r = r' ∧ IntsAre ys (([c.a, c.b, c.c, c.d].map (wt · al)).take i)) (fun i r' ys h o e => by rw [← h.1]; exact e) ⟨rfl, .nil⟩ ?turn ?done
  case turn =>
    rintro i v _ ys h tk gB C mC hv ⟨rfl, hJ⟩ hg Z₁ hcl U₁
    obtain ⟨n, t', rfl, hn⟩ : ∃ n t', v = .int n t' ∧ [c.a, c.b, c.c, c.d][i]? = some n := by
      rcases i with _ | _ | _ | _ | i <;> simp at hv <;> exact ⟨_, _, hv.symm, rfl⟩
    have hal : mC "alpha" = some (.int al t) := (hcl "alpha" _ rfl).trans rfl
    have X₁ := X.keeps hg
    have T₁ := T.keeps hg
    clear U X T
    walk_at "pf go"
    refine' At.call (weighted_spec w r n al t' t h2 h3) ?hz ?hS ?hs ?hU ?hd ?hu ?_
    walk_at "pf sides"
    rintro v h' tk' r' Z' S' _ fr ⟨rfl, t'', rfl⟩
    (try dsimp only)
    refine ElemEnd.mk Z' ⟨rfl, ?_⟩
    rw [List.take_add_one, List.getElem?_map, hn]
    exact hJ.append (.cons _ _ .nil)
  case done =>
    rintro D k ys _ h tk ⟨rfl, hJ⟩ hlen hD hrD Z'
    have S' : Step [] r (put r D (listO ys k)) := step_new hrD
    have hl : isL (put r D (listO ys k)) D ys := ⟨k, put_self _ _ rfl⟩
    have hz : ys.length = 4 := hlen
    walk_at "pf go"
    rename_i a' h' Z' n' t' s' f'
    obtain ⟨n, e⟩ := t'
    obtain ⟨r', Z₂, e₂, S₂, _⟩ := Z'.take n' e S'
    refine hret _ _ _ _ _ Z₂ S₂ ⟨_, rfl, .inl ?_⟩
    obtain ⟨u0, u1, u2, u3, rfl⟩ := ints4 hJ
    exact ⟨u0, u1, u2, u3, n, e₂⟩
/-! ## pairs -/
noncomputable def PairS (r : Heap) (x : Addr) (one al other be : Int) : Prop := ∃ t1 t2 t3 t4, Inst r x 359 [("one", .int one t1), ("alpha", .int al t2), ("other", .int other t3), ("beta", .int be t4)]
theorem pair_init (w : World) (r : Heap) (x dx : Addr) (one al other be : Int) (t1 t2 t3 t4 : Tok) (M : Mk r x 359 dx []) :
    Call w r [dx] (.ref 321) [.ref x, .int one t1, .int al t2, .int other t3, .int be t4] 1 (fun v r' => v = .none ∧ PairS r' x one al other be) := by
  revert M
  revert w r x dx one al other be t1 t2 t3 t4
  refine lift12 (i1 := Pf.nW) ?_; refine (?x9 : ∀ a0 a1 a2 a3 a4 a5 a6 a7 a8 a9 a10 a11, Ap12 _ a0 a1 a2 a3 a4 a5 a6 a7 a8 a9 a10 a11) _ _ _ _ _ _ _ _ _ _ _ _; intro w r x dx one al other be t1 t2 t3 t4; refine Ap12.mk ?_
  intro M
  refine' enter [("self", .ref x), ("one", .int one t1), ("alpha", .int al t2), ("other", .int other t3), ("beta", .int be t4)] ?ho ?hcd ?hb ?hkd ?hok ?hnd ?c2 ?c3 ?c4 (fun a ha => by rw [List.mem_singleton.mp ha]; exact ⟨_, M.d.choose_spec⟩) ?_
  walk_at "pf enter"
  refine lift8 (i1 := Pf.nA) (i7 := Pf.nS) ?_; refine (?x14 : ∀ a0 a1 a2 a3 a4 a5 a6 a7, Ap8 _ a0 a1 a2 a3 a4 a5 a6 a7) _ _ _ _ _ _ _ _; intro A base g h₁ tk₁ L s Q; refine Ap8.mk ?_
  intro hd hu X T U Z S hret
  walk_at "pf go"
  refine' hret _ _ _ _ _ ?e1 ?e2 ?e3
  case e1 => assumption
  case e2 => assumption
  case e3 => exact ⟨rfl, _, _, _, _, Mk.inst (by assumption)⟩

theorem pair_make (w : World) (r : Heap) (one al other be : Int) (t1 t2 t3 t4 : Tok) :
    Call w r [] (.ref 359) [.int one t1, .int al t2, .int other t3, .int be t4] 2 (fun v r' => ∃ x, v = .ref x ∧ PairS r' x one al other be) :=
  Call.make (fun _ h => nomatch h) (by k_is) (by k_is) (by k_is) fun r₁ x dx hk M hx hd => (pair_init w r₁ x dx one al other be t1 t2 t3 t4 M).post fun v r' _ h => ⟨h.1, x, rfl, h.2⟩

theorem first_spec (w : World) (r : Heap) (x : Addr) (one al other be : Int) (P : PairS r x one al other be) (h1 : 0 ≤ be) (h2 : be ≤ 255) :
    Call w r [] (.ref 328) [.ref x] 1 (fun v r' => r = r' ∧ ∃ t, v = .int (one * be) t) := by
  revert P h1 h2
  revert w r x one al other be
  refine lift7 (i1 := Pf.nW) ?_; refine (?x10 : ∀ a0 a1 a2 a3 a4 a5 a6, Ap7 _ a0 a1 a2 a3 a4 a5 a6) _ _ _ _ _ _ _; intro w r x one al other be; refine Ap7.mk ?_
  intro P h1 h2
  revert P
  walk_at "pf D"
  rename_i t1
  walk_at "pf D"
  rename_i t2
  walk_at "pf D"
  rename_i t3
  walk_at "pf D"
  rename_i t4
  intro I
  refine' enter [("self", .ref x)] ?ho ?hcd ?hb ?hkd ?hok ?hnd ?c2 ?c3 ?c4 (fun _ h => nomatch h) ?_
  walk_at "pf enter"
  refine lift8 (i1 := Pf.nA) (i7 := Pf.nS) ?_; refine (?x15 : ∀ a0 a1 a2 a3 a4 a5 a6 a7, Ap8 _ a0 a1 a2 a3 a4 a5 a6 a7) _ _ _ _ _ _ _ _; intro A base g h₁ tk₁ L s Q; refine Ap8.mk ?_
  intro hd hu X T U Z S hret
  walk_at "pf go"
  refine' hret _ _ _ _ _ ?e1 ?e2 ?e3
  case e1 => assumption
  case e2 => assumption
  case e3 => exact ⟨rfl, _, rfl⟩
theorem second_spec (w : World) (r : Heap) (x : Addr) (one al other be : Int) (P : PairS r x one al other be) (h1 : 0 ≤ al) (h2 : al ≤ 255) :
    Call w r [] (.ref 335) [.ref x] 1 (fun v r' => r = r' ∧ ∃ t, v = .int (other * al) t) := by
  revert P h1 h2
  revert w r x one al other be
  refine lift7 (i1 := Pf.nW) ?_; refine (?x11 : ∀ a0 a1 a2 a3 a4 a5 a6, Ap7 _ a0 a1 a2 a3 a4 a5 a6) _ _ _ _ _ _ _; intro w r x one al other be; refine Ap7.mk ?_
  intro P h1 h2
  revert P
  walk_at "pf D"
  rename_i t1
  walk_at "pf D"
  rename_i t2
  walk_at "pf D"
  rename_i t3
  walk_at "pf D"
  rename_i t4
  intro I
  refine' enter [("self", .ref x)] ?ho ?hcd ?hb ?hkd ?hok ?hnd ?c2 ?c3 ?c4 (fun _ h => nomatch h) ?_
  walk_at "pf enter"
  refine lift8 (i1 := Pf.nA) (i7 := Pf.nS) ?_; refine (?x16 : ∀ a0 a1 a2 a3 a4 a5 a6 a7, Ap8 _ a0 a1 a2 a3 a4 a5 a6 a7) _ _ _ _ _ _ _ _; intro A base g h₁ tk₁ L s Q; refine Ap8.mk ?_
  intro hd hu X T U Z S hret
  walk_at "pf go"
  refine' hret _ _ _ _ _ ?e1 ?e2 ?e3
  case e1 => assumption
  case e2 => assumption
  case e3 => exact ⟨rfl, _, rfl⟩
theorem product_spec (w : World) (r : Heap) (x : Addr) (one al other be : Int) (P : PairS r x one al other be) (h1 : 0 ≤ one) (h2 : one ≤ 255) :
    Call w r [] (.ref 342) [.ref x] 1 (fun v r' => r = r' ∧ ∃ t, v = .int (one * other) t) := by
  revert P h1 h2
  revert w r x one al other be
  refine lift7 (i1 := Pf.nW) ?_; refine (?x12 : ∀ a0 a1 a2 a3 a4 a5 a6, Ap7 _ a0 a1 a2 a3 a4 a5 a6) _ _ _ _ _ _ _; intro w r x one al other be; refine Ap7.mk ?_
  intro P h1 h2
  revert P
  walk_at "pf D"
  rename_i t1
  walk_at "pf D"
  rename_i t2
  walk_at "pf D"
  rename_i t3
  walk_at "pf D"
  rename_i t4
  intro I
  refine' enter [("self", .ref x)] ?ho ?hcd ?hb ?hkd ?hok ?hnd ?c2 ?c3 ?c4 (fun _ h => nomatch h) ?_
  walk_at "pf enter"
  refine lift8 (i1 := Pf.nA) (i7 := Pf.nS) ?_; refine (?x17 : ∀ a0 a1 a2 a3 a4 a5 a6 a7, Ap8 _ a0 a1 a2 a3 a4 a5 a6 a7) _ _ _ _ _ _ _ _; intro A base g h₁ tk₁ L s Q; refine Ap8.mk ?_
  intro hd hu X T U Z S hret
  walk_at "pf go"
  refine' hret _ _ _ _ _ ?e1 ?e2 ?e3
  case e1 => assumption
  case e2 => assumption
  case e3 => exact ⟨rfl, _, rfl⟩

/-- what a mode tells -/
inductive Mode where
  | normal | multiply | screen
  deriving Inhabited
noncomputable def Mode.name : Mode → Str
  | .normal => "normal"
  | .multiply => "multiply"
  | .screen => "screen"
noncomputable def told (md : Mode) (one al other be : Int) : Int := match md with
  | .normal => one * be
  | .multiply => one * other
  | .screen => one * be + other * al - one * other
theorem inner_spec (w : World) (r : Heap) (md : Mode) (t : Tok) (x : Addr) (one al other be : Int) (P : PairS r x one al other be) (a1 : 0 ≤ al) (a2 : al ≤ 255) (b1 : 0 ≤ be) (b2 : be ≤ 255) (h1 : 0 ≤ one) (h2 : one ≤ 255) :
    Call w r [] (.ref 370) [.str md.name t, .ref x] 2 (fun v r' => r = r' ∧ ∃ t, v = .int (told md one al other be) t) := by
  revert P a1 a2 b1 b2 h1 h2
  revert w r md t x one al other be
  refine lift9 (i1 := Pf.nW) ?_; refine (?x13 : ∀ a0 a1 a2 a3 a4 a5 a6 a7 a8, Ap9 _ a0 a1 a2 a3 a4 a5 a6 a7 a8) _ _ _ _ _ _ _ _ _; intro w r md t x one al other be; refine Ap9.mk ?_
  intro P a1 a2 b1 b2 h1 h2
  have P' := P
  revert P
  walk_at "pf D"
  rename_i t1
  walk_at "pf D"
  rename_i t2
  walk_at "pf D"
  rename_i t3
  walk_at "pf D"
  rename_i t4
  intro I
  cases md
  · refine' enter [("mode", .str Mode.normal.name t), ("pair", .ref x)] ?ho ?hcd ?hb ?hkd ?hok ?hnd ?c2 ?c3 ?c4 (fun _ h => nomatch h) ?_
    walk_at "pf enter"
    refine lift8 (i1 := Pf.nA) (i7 := Pf.nS) ?_; refine (?x18 : ∀ a0 a1 a2 a3 a4 a5 a6 a7, Ap8 _ a0 a1 a2 a3 a4 a5 a6 a7) _ _ _ _ _ _ _ _; intro A base g h₁ tk₁ L s Q; refine Ap8.mk ?_
    intro hd hu X T U Z S hret
    walk_at "pf go"
    refine' At.call (first_spec w r x one al other be P' b1 b2) ?hz ?hS ?hs ?hU ?hd ?hu ?_
    walk_at "pf sides"
    rintro v h' tk' r' Z' S' _ fr ⟨rfl, t'', rfl⟩
    (try dsimp only)
    walk_at "pf go"
    refine' hret _ _ _ _ _ ?e1 ?e2 ?e3
    case e1 => assumption
    case e2 => assumption
    case e3 => exact ⟨rfl, _, rfl⟩
  · refine' enter [("mode", .str Mode.multiply.name t), ("pair", .ref x)] ?ho ?hcd ?hb ?hkd ?hok ?hnd ?c2 ?c3 ?c4 (fun _ h => nomatch h) ?_
    walk_at "pf enter"
    refine lift8 (i1 := Pf.nA) (i7 := Pf.nS) ?_; refine (?x19 : ∀ a0 a1 a2 a3 a4 a5 a6 a7, Ap8 _ a0 a1 a2 a3 a4 a5 a6 a7) _ _ _ _ _ _ _ _; intro A base g h₁ tk₁ L s Q; refine Ap8.mk ?_
    intro hd hu X T U Z S hret
    walk_at "pf go"
    refine' At.call (product_spec w r x one al other be P' h1 h2) ?hz ?hS ?hs ?hU ?hd ?hu ?_
    walk_at "pf sides"
    rintro v h' tk' r' Z' S' _ fr ⟨rfl, t'', rfl⟩
    (try dsimp only)
    walk_at "pf go"
    refine' hret _ _ _ _ _ ?e1 ?e2 ?e3
    case e1 => assumption
    case e2 => assumption
    case e3 => exact ⟨rfl, _, rfl⟩
  · refine' enter [("mode", .str Mode.screen.name t), ("pair", .ref x)] ?ho ?hcd ?hb ?hkd ?hok ?hnd ?c2 ?c3 ?c4 (fun _ h => nomatch h) ?_
    walk_at "pf enter"
    refine lift8 (i1 := Pf.nA) (i7 := Pf.nS) ?_; refine (?x20 : ∀ a0 a1 a2 a3 a4 a5 a6 a7, Ap8 _ a0 a1 a2 a3 a4 a5 a6 a7) _ _ _ _ _ _ _ _; intro A base g h₁ tk₁ L s Q; refine Ap8.mk ?_
    intro hd hu X T U Z S hret
    walk_at "pf go"
    refine' At.call (first_spec w r x one al other be P' b1 b2) ?hz ?hS ?hs ?hU ?hd ?hu ?_
    walk_at "pf sides"
    rintro v h' tk' r' Z' S' _ fr ⟨rfl, t'', rfl⟩
    (try dsimp only)
    walk_at "pf go"
    refine' At.call (second_spec w r x one al other be P' a1 a2) ?hz ?hS ?hs ?hU ?hd ?hu ?_
    walk_at "pf sides"
    rintro v h' tk' r' Z' S' _ fr ⟨rfl, t'', rfl⟩
    (try dsimp only)
    walk_at "pf go"
    refine' At.call (product_spec w r x one al other be P' h1 h2) ?hz ?hS ?hs ?hU ?hd ?hu ?_
    walk_at "pf sides"
    rintro v h' tk' r' Z' S' _ fr ⟨rfl, t'', rfl⟩
    (try dsimp only)
    walk_at "pf go"
    refine' hret _ _ _ _ _ ?e1 ?e2 ?e3
    case e1 => assumption
    case e2 => assumption
    case e3 => exact ⟨rfl, _, rfl⟩
/-! ## two colours -/
noncomputable def bp (md : Mode) (one al other be : Int) : Int := (2 * (told md one al other be + one * (255 - be) + other * (255 - al)) + 255).fdiv 510
theorem part_spec (w : World) (r : Heap) (md : Mode) (one al other be : Int) (t t1 t2 t3 t4 : Tok) (a1 : 0 ≤ al) (a2 : al ≤ 255) (b1 : 0 ≤ be) (b2 : be ≤ 255) (h1 : 0 ≤ one) (h2 : one ≤ 255) (o1 : 0 ≤ other) (o2 : other ≤ 255) :
    Call w r [] (.ref 377) [.str md.name t, .int one t1, .int al t2, .int other t3, .int be t4] 3 (fun v r' => ∃ t, v = .int (bp md one al other be) t) := by
  revert a1 a2 b1 b2 h1 h2 o1 o2
  revert w r md one al other be t t1 t2 t3 t4
  refine lift12 (i1 := Pf.nW) ?_; refine (?x21 : ∀ a0 a1 a2 a3 a4 a5 a6 a7 a8 a9 a10 a11, Ap12 _ a0 a1 a2 a3 a4 a5 a6 a7 a8 a9 a10 a11) _ _ _ _ _ _ _ _ _ _ _ _; intro w r md one al other be t t1 t2 t3 t4; refine Ap12.mk ?_
  intro a1 a2 b1 b2 h1 h2 o1 o2
  refine' enter [("mode", .str md.name t), ("one", .int one t1), ("alpha", .int al t2), ("other", .int other t3), ("beta", .int be t4)] ?ho ?hcd ?hb ?hkd ?hok ?hnd ?c2 ?c3 ?c4 (fun _ h => nomatch h) ?_
  walk_at "pf enter"
  refine lift8 (i1 := Pf.nA) (i7 := Pf.nS) ?_; refine (?x24 : ∀ a0 a1 a2 a3 a4 a5 a6 a7, Ap8 _ a0 a1 a2 a3 a4 a5 a6 a7) _ _ _ _ _ _ _ _; intro A base g h₁ tk₁ L s Q; refine Ap8.mk ?_
  intro hd hu X T U Z S hret
  walk_at "pf go"
  refine' At.call (pair_make w r one al other be t1 t2 t3 t4) ?hz ?hS ?hs ?hU ?hd ?hu ?_
  walk_at "pf sides"
  rintro v h' tk' r' Z' S' _ fr ⟨x, rfl, P⟩
  (try dsimp only)
  walk_at "pf go"
  refine' At.call (inner_spec w r' md t x one al other be P a1 a2 b1 b2 h1 h2) ?hz ?hS ?hs ?hU ?hd ?hu ?_
  walk_at "pf sides"
  rintro v h' tk' r' Z' S' _ fr ⟨rfl, t'', rfl⟩
  (try dsimp only)
  walk_at "pf go"
  refine' hret _ _ _ _ _ ?e1 ?e2 ?e3
  case e1 => assumption
  case e2 => assumption
  case e3 => exact ⟨_, rfl⟩

noncomputable def bl (md : Mode) (x y : C4) : C4 := ⟨bp md x.a x.d y.a y.d, bp md x.b x.d y.b y.d, bp md x.c x.d y.c y.d, (2 * (x.d * 255 + y.d * (255 - x.d)) + 255).fdiv 510⟩
theorem ints3 {ys : List Value} {a b c : Int} (h : IntsAre ys [a, b, c]) : ∃ u0 u1 u2, ys = [.int a u0, .int b u1, .int c u2] := by
  rcases h with _ | ⟨_, u0, h⟩ 
  rcases h with _ | ⟨_, u1, h⟩ 
  rcases h with _ | ⟨_, u2, h⟩ 
  cases h
  exact ⟨u0, u1, u2, rfl⟩
theorem blended_spec (w : World) (r : Heap) (md : Mode) (t : Tok) (v1 v2 : Value) (x y : C4) (hx : Col r v1 x) (hy : Col r v2 y) (ox : x.Ok) (oy : y.Ok) :
    Call w r [] (.ref 382) [.str md.name t, v1, v2] 4 (fun v r' => Col r' v (bl md x y)) := by
  revert hx hy ox oy
  revert w r md t v1 v2 x y
  refine lift8 (i1 := Pf.nW) ?_; refine (?x22 : ∀ a0 a1 a2 a3 a4 a5 a6 a7, Ap8 _ a0 a1 a2 a3 a4 a5 a6 a7) _ _ _ _ _ _ _ _; intro w r md t v1 v2 x y; refine Ap8.mk ?_
  intro hx hy ox oy
  revert ox
  walk_at "pf D"
  rename_i x1
  walk_at "pf D"
  rename_i x2
  walk_at "pf D"
  rename_i x3
  walk_at "pf D"
  rename_i x4
  walk_at "pf D"
  rename_i x5
  walk_at "pf D"
  rename_i x6
  intro x7
  revert oy
  walk_at "pf D"
  rename_i y1
  walk_at "pf D"
  rename_i y2
  walk_at "pf D"
  rename_i y3
  walk_at "pf D"
  rename_i y4
  walk_at "pf D"
  rename_i y5
  walk_at "pf D"
  rename_i y6
  intro y7
  refine' enter [("mode", .str md.name t), ("above", v1), ("below", v2)] ?ho ?hcd ?hb ?hkd ?hok ?hnd ?c2 ?c3 ?c4 (fun _ h => nomatch h) ?_
  walk_at "pf enter"
  refine lift8 (i1 := Pf.nA) (i7 := Pf.nS) ?_; refine (?x25 : ∀ a0 a1 a2 a3 a4 a5 a6 a7, Ap8 _ a0 a1 a2 a3 a4 a5 a6 a7) _ _ _ _ _ _ _ _; intro A base g h₁ tk₁ L s Q; refine Ap8.mk ?_
  intro hd hu X T U Z S hret
  refine mpI (hx.sees X) ?_
  walk_at "pf D"
  rename_i a
  walk_at "pf DR"
  intro sa
  refine mpI (hy.sees X) ?_
  walk_at "pf D"
  rename_i b
  walk_at "pf DR"
  intro sb
  refine mpI (sa.open) ?_
  walk_at "pf D"
  rename_i t0
  walk_at "pf D"
  rename_i t1
  walk_at "pf D"
  rename_i t2
  walk_at "pf D"
  rename_i t3
  intro stx
  refine mpI (sb.open) ?_
  walk_at "pf D"
  rename_i u0
  walk_at "pf D"
  rename_i u1
  walk_at "pf D"
  rename_i u2
  walk_at "pf D"
  rename_i u3
  intro sty
  walk_at "pf go"
  rename_i rr h' tk u' v' Z' n' R' s'
  refine' comp_range (n := 3) R' (small_one (by decide) (by decide) (by decide) (by decide)) rfl (by rw [sizeLine_eq]; decide) (by assumption) (fun i r' ys => Step [] r r' ∧ IntsAre ys (([bp md x.a x.d y.a y.d, bp md x.b x.d y.b y.d, bp md x.c x.d y.c y.d]).take i)) ⟨Step.refl _ _, .nil⟩ ?turn ?done
  case turn =>
    rintro i ti r₁ ys h tk gB C mC hi ⟨S₁, hJ⟩ hg Z₁ hcl U₁
    have e1 : mC "mode" = some (.str md.name t) := (hcl "mode" _ rfl).trans rfl
    have e2 : mC "above" = some (.ref a) := (hcl "above" _ rfl).trans rfl
    have e3 : mC "below" = some (.ref b) := (hcl "below" _ rfl).trans rfl
    have e4 : mC "alpha" = some (.int x.d t3) := (hcl "alpha" _ rfl).trans rfl
    have e5 : mC "beta" = some (.int y.d u3) := (hcl "beta" _ rfl).trans rfl
    have X₁ := X.keeps hg
    have T₁ := T.keeps hg
    have stx' := stx.step S₁ hg
    have sty' := sty.step S₁ hg
    clear U X T stx sty Z Z'
    generalize hk : (0 + (i : Int) * 1) = k
    rcases i with _ | _ | _ | i
    · obtain rfl : k = 0 := by lia
      walk_at "pf go"
      refine' At.call (part_spec w r₁ md x.a x.d y.a y.d t t0 t3 u0 u3 (by lia) (by lia) (by lia) (by lia) (by lia) (by lia) (by lia) (by lia)) ?hz ?hS ?hs ?hU ?hd ?hu ?_
      walk_at "pf sides"
      rintro v h' tk' r' Z' S' _ fr ⟨t'', rfl⟩
      (try dsimp only)
      exact ElemEnd.mk Z' ⟨S', hJ.append (.cons _ _ .nil)⟩
    · obtain rfl : k = 1 := by lia
      walk_at "pf go"
      refine' At.call (part_spec w r₁ md x.b x.d y.b y.d t t1 t3 u1 u3 (by lia) (by lia) (by lia) (by lia) (by lia) (by lia) (by lia) (by lia)) ?hz ?hS ?hs ?hU ?hd ?hu ?_
      walk_at "pf sides"
      rintro v h' tk' r' Z' S' _ fr ⟨t'', rfl⟩
      (try dsimp only)
      exact ElemEnd.mk Z' ⟨S', hJ.append (.cons _ _ .nil)⟩
    · obtain rfl : k = 2 := by lia
      walk_at "pf go"
      refine' At.call (part_spec w r₁ md x.c x.d y.c y.d t t2 t3 u2 u3 (by lia) (by lia) (by lia) (by lia) (by lia) (by lia) (by lia) (by lia)) ?hz ?hS ?hs ?hU ?hd ?hu ?_
      walk_at "pf sides"
      rintro v h' tk' r' Z' S' _ fr ⟨t'', rfl⟩
      (try dsimp only)
      exact ElemEnd.mk Z' ⟨S', hJ.append (.cons _ _ .nil)⟩
    · lia
  case done =>
    rintro D k ys r' h tk ⟨S₁, hJ⟩ hlen hD hrD Z₁
    have S₂ : Step [] r (put r' D (listO ys k)) := S₁.then (bs := []) (step_new hrD) (fun a ha => nomatch ha)
    have hl := isL_put r' D ys k
    obtain ⟨v0, v1, v2, rfl⟩ := ints3 hJ
    dsimp only [useM] at Z₁
    clear Z Z'
    walk_at "pf go"
    refine' At.call (mixed_spec w (put r' D (listO _ k)) x.d 255 y.d (255 - x.d) _ _ _ _ (by lia) (by lia) (by lia) (by lia)) ?hz ?hS ?hs ?hU ?hd ?hu ?_
    walk_at "pf sides"
    rintro v h' tk' r' Z' S' _ fr ⟨rfl, t'', rfl⟩
    (try dsimp only)
    walk_at "pf go"
    rename_i a' h' Z' n' t' s' f'
    obtain ⟨n, e⟩ := t'
    obtain ⟨r', Z₂, e₂, S₂, _⟩ := Z'.take n' e S₂
    exact hret _ _ _ _ _ Z₂ S₂ ⟨_, rfl, .inl ⟨_, _, _, _, n, e₂⟩⟩

theorem told_bounds (md : Mode) {a x b y : Int} (ha : 0 ≤ a) (hax : a ≤ x) (hx : x ≤ 255) (hb : 0 ≤ b) (hby : b ≤ y) (hy : y ≤ 255) :
    0 ≤ told md a x b y + a * (255 - y) + b * (255 - x) ∧ told md a x b y + a * (255 - y) + b * (255 - x) ≤ 255 * x + 255 * y - x * y := by
  have p1 : 0 ≤ a * y := Int.mul_nonneg ha (by lia)
  have p2 : 0 ≤ a * (255 - y) := Int.mul_nonneg ha (by lia)
  have p3 : 0 ≤ b * (255 - x) := Int.mul_nonneg hb (by lia)
  have p4 : 0 ≤ a * b := Int.mul_nonneg ha hb
  have p5 : b * (255 - x) ≤ y * (255 - x) := Int.mul_le_mul_of_nonneg_right hby (by lia)
  have p6 : a * (255 - y) ≤ x * (255 - y) := Int.mul_le_mul_of_nonneg_right hax (by lia)
  have p7 : a * y ≤ x * y := Int.mul_le_mul_of_nonneg_right hax (by lia)
  have p8 : a * b ≤ x * y := Int.mul_le_mul hax hby hb (by lia)
  have p9 : 0 ≤ b * x := Int.mul_nonneg hb (by lia)
  have q1 : (x - a) * (255 - b) ≥ 0 := Int.mul_nonneg (by lia) (by lia)
  have q2 : (y - b) * (255 - x) ≥ 0 := Int.mul_nonneg (by lia) (by lia)
  have q3 : 0 ≤ a * (y - b) := Int.mul_nonneg ha (by lia)
  have d1 : a * (255 - y) = 255 * a - a * y := by rw [Int.mul_sub, Int.mul_comm a 255]
  have d2 : b * (255 - x) = 255 * b - b * x := by rw [Int.mul_sub, Int.mul_comm b 255]
  have d3 : y * (255 - x) = 255 * y - x * y := by rw [Int.mul_sub, Int.mul_comm y 255, Int.mul_comm y x]
  have d4 : x * (255 - y) = 255 * x - x * y := by rw [Int.mul_sub, Int.mul_comm x 255]
  have d5 : (x - a) * (255 - b) = 255 * x - x * b - 255 * a + a * b := by rw [Int.sub_mul, Int.mul_sub, Int.mul_sub, Int.mul_comm x 255, Int.mul_comm a 255]; lia
  have d6 : (y - b) * (255 - x) = 255 * y - x * y - 255 * b + b * x := by rw [Int.sub_mul, d2, d3]; lia
  have d7 : a * (y - b) = a * y - a * b := Int.mul_sub ..
  have d8 : x * b = b * x := Int.mul_comm ..
  cases md
  · simp only [told]; lia
  · simp only [told]; lia
  · simp only [told]; lia
theorem bp_bounds (md : Mode) {a x b y : Int} (ha : 0 ≤ a) (hax : a ≤ x) (hx : x ≤ 255) (hb : 0 ≤ b) (hby : b ≤ y) (hy : y ≤ 255) :
    0 ≤ bp md a x b y ∧ bp md a x b y ≤ (2 * (x * 255 + y * (255 - x)) + 255).fdiv 510 := by
  obtain ⟨h1, h2⟩ := told_bounds md ha hax hx hb hby hy
  unfold bp
  rw [Int.fdiv_eq_ediv_of_nonneg _ (by decide), Int.fdiv_eq_ediv_of_nonneg _ (by decide)]
  have d3 : y * (255 - x) = 255 * y - x * y := by rw [Int.mul_sub, Int.mul_comm y 255, Int.mul_comm y x]
  generalize told md a x b y + a * (255 - y) + b * (255 - x) = p at *
  generalize x * y = q at *
  lia
theorem bl_ok (md : Mode) {x y : C4} (hx : x.Ok) (hy : y.Ok) : (bl md x y).Ok := by
  obtain ⟨x1, x2, x3, x4, x5, x6, x7⟩ := hx
  obtain ⟨y1, y2, y3, y4, y5, y6, y7⟩ := hy
  have A := bp_bounds md x1 x2 x7 y1 y2 y7
  have B := bp_bounds md x3 x4 x7 y3 y4 y7
  have C := bp_bounds md x5 x6 x7 y5 y6 y7
  refine ⟨A.1, A.2, B.1, B.2, C.1, C.2, ?_⟩
  show (2 * (x.d * 255 + y.d * (255 - x.d)) + 255).fdiv 510 ≤ 255
  rw [Int.fdiv_eq_ediv_of_nonneg _ (by decide)]
  have : y.d * (255 - x.d) ≤ 255 * (255 - x.d) := Int.mul_le_mul_of_nonneg_right y7 (by lia)
  lia

noncomputable def sc (c : C4) (al : Int) : C4 := if al = 255 then c else dim c al
noncomputable def la (md : Mode) (c : C4) (al : Int) (y : C4) : C4 := bl md (sc c al) y
theorem sc_ok {c : C4} {al : Int} (h : c.Ok) (h2 : 0 ≤ al) (h3 : al ≤ 255) : (sc c al).Ok := by
  unfold sc; split
  · exact h
  · exact dim_ok h h2 h3
theorem la_ok (md : Mode) {c y : C4} {al : Int} (h : c.Ok) (hy : y.Ok) (h2 : 0 ≤ al) (h3 : al ≤ 255) : (la md c al y).Ok := bl_ok md (sc_ok h h2 h3) hy
theorem laid_spec (w : World) (r : Heap) (md : Mode) (t ta : Tok) (v1 v2 : Value) (c y : C4) (al : Int) (hx : Col r v1 c) (hy : Col r v2 y) (ox : c.Ok) (oy : y.Ok) (h2 : 0 ≤ al) (h3 : al ≤ 255) :
    Call w r [] (.ref 389) [.str md.name t, v1, .int al ta, v2] 5 (fun v r' => Col r' v (la md c al y)) := by
  revert hx hy ox oy h2 h3
  revert w r md t ta v1 v2 c y al
  refine lift10 (i1 := Pf.nW) ?_; refine (?x23 : ∀ a0 a1 a2 a3 a4 a5 a6 a7 a8 a9, Ap10 _ a0 a1 a2 a3 a4 a5 a6 a7 a8 a9) _ _ _ _ _ _ _ _ _ _; intro w r md t ta v1 v2 c y al; refine Ap10.mk ?_
  intro hx hy ox oy h2 h3
  refine' enter [("mode", .str md.name t), ("colour", v1), ("alpha", .int al ta), ("below", v2)] ?ho ?hcd ?hb ?hkd ?hok ?hnd ?c2 ?c3 ?c4 (fun _ h => nomatch h) ?_
  walk_at "pf enter"
  refine lift8 (i1 := Pf.nA) (i7 := Pf.nS) ?_; refine (?x26 : ∀ a0 a1 a2 a3 a4 a5 a6 a7, Ap8 _ a0 a1 a2 a3 a4 a5 a6 a7) _ _ _ _ _ _ _ _; intro A base g h₁ tk₁ L s Q; refine Ap8.mk ?_
  intro hd hu X T U Z S hret
  walk_at "pf go"
  · rename_i q
    refine' At.call (blended_spec w r md t v1 v2 c y hx hy ox oy) ?hz ?hS ?hs ?hU ?hd ?hu ?_
    walk_at "pf sides"
    rintro v h' tk' r' Z' S' _ fr P
    (try dsimp only)
    walk_at "pf go"
    refine' hret _ _ _ _ _ ?e1 ?e2 ?e3
    case e1 => assumption
    case e2 => assumption
    case e3 => exact (by unfold la sc; rw [if_pos (by simpa using q)]; exact P)
  · rename_i q
    refine' At.call (dimmed_spec w r v1 c al ta hx h2 h3) ?hz ?hS ?hs ?hU ?hd ?hu ?_
    walk_at "pf sides"
    rintro v h' tk' r' Z' S' l' fr P
    (try dsimp only)
    walk_at "pf go"
    refine' At.call (blended_spec w r' md t v v2 (dim c al) y P (hy.step l') (dim_ok ox h2 h3) oy) ?hz ?hS ?hs ?hU ?hd ?hu ?_
    walk_at "pf sides"
    rintro v h' tk' r' Z' S' _ fr P
    (try dsimp only)
    walk_at "pf go"
    refine' hret _ _ _ _ _ ?e1 ?e2 ?e3
    case e1 => assumption
    case e2 => assumption
    case e3 => exact (by unfold la sc; rw [if_neg (by simpa using q)]; exact P)
/-! ## grids -/
noncomputable def Grid (r : Heap) (rs : List Addr) (wd ht : Nat) (P : Nat → Nat → Value → Prop) : Prop :=
  rs.length = ht ∧ rs.Nodup ∧ ∀ i a, rs[i]? = some a → ∃ vs, isR r a vs ∧ vs.length = wd ∧ ∀ j v, vs[j]? = some v → P i j v
theorem isR.step {as : List Addr} {r r' : Heap} {a : Addr} {vs : List Value} (x : isR r a vs) (S : Step as r r') (n : a ∉ as) : isR r' a vs := by
  obtain ⟨o, e, q⟩ := x
  exact ⟨o, S.keep _ _ n e, q⟩
theorem isL.step {as : List Addr} {r r' : Heap} {a : Addr} {vs : List Value} (x : isL r a vs) (S : Step as r r') (n : a ∉ as) : isL r' a vs := by
  obtain ⟨o, e⟩ := x
  exact ⟨o, S.keep _ _ n e⟩
theorem Grid.imp {r r' : Heap} {rs : List Addr} {wd ht : Nat} {P P' : Nat → Nat → Value → Prop} (G : Grid r rs wd ht P) (k : ∀ a vs, a ∈ rs → isR r a vs → isR r' a vs) (h : ∀ i j v, i < ht → j < wd → P i j v → P' i j v) : Grid r' rs wd ht P' := by
  obtain ⟨g1, g2, g3⟩ := G
  refine ⟨g1, g2, fun i a e => ?_⟩
  obtain ⟨vs, a1, a2, a3⟩ := g3 i a e
  refine ⟨vs, k a vs (List.mem_of_getElem? e) a1, a2, fun j v q => h i j v ?_ ?_ (a3 j v q)⟩
  · rw [← g1]; exact (List.getElem?_eq_some_iff.mp e).1
  · rw [← a2]; exact (List.getElem?_eq_some_iff.mp q).1
theorem Grid.set {r r' : Heap} {rs : List Addr} {wd ht : Nat} {P P' : Nat → Nat → Value → Prop} (G : Grid r rs wd ht P) {i j : Nat} {a : Addr} {vs : List Value} {v : Value} (hi : rs[i]? = some a)
    (hw : vs.length = wd) (hvs : ∀ j v, vs[j]? = some v → P i j v) (hR : isR r' a (vs.set j v)) (S : Step [a] r r') (hP : ∀ i' j' u, ¬ (i' = i ∧ j' = j) → P i' j' u → P' i' j' u) (hv : P' i j v) : Grid r' rs wd ht P' := by
  obtain ⟨g1, g2, g3⟩ := G
  refine ⟨g1, g2, fun i' a' e => ?_⟩
  by_cases q : i' = i
  · subst q
    rw [hi] at e; cases e
    refine ⟨_, hR, by simpa using hw, fun j' u hu => ?_⟩
    rw [List.getElem?_set] at hu
    split at hu
    · rename_i z; subst z
      split at hu
      · cases hu; exact hv
      · cases hu
    · rename_i z
      exact hP _ _ _ (fun z' => z z'.2.symm) (hvs _ _ hu)
  · obtain ⟨vs', a1, a2, a3⟩ := g3 i' a' e
    have hne : a' ≠ a := by
      rintro rfl
      exact q ((List.getElem?_inj (List.getElem?_eq_some_iff.mp e).1 g2).mp (e.trans hi.symm))
    exact ⟨vs', a1.step S (by simpa using hne), a2, fun j' u hu => hP _ _ _ (fun z => q z.1) (a3 _ _ hu)⟩
theorem Grid.live {r : Heap} {rs : List Addr} {wd ht : Nat} {P : Nat → Nat → Value → Prop} (G : Grid r rs wd ht P) : ∀ a ∈ rs, ∃ o, r.get? a = some o := fun a ha => by
  obtain ⟨i, e⟩ := List.mem_iff_getElem?.mp ha
  obtain ⟨vs, ⟨o, q, _⟩, _⟩ := G.2.2 i a e
  exact ⟨o, q⟩
theorem Grid.at {r : Heap} {rs : List Addr} {wd ht : Nat} {P : Nat → Nat → Value → Prop} (G : Grid r rs wd ht P) {i j : Nat} (hi : i < ht) (hj : j < wd) :
    ∃ a vs v, rs[i]? = some a ∧ (rs.map Value.ref)[i]? = some (.ref a) ∧ isR r a vs ∧ vs.length = wd ∧ vs[j]? = some v ∧ P i j v ∧ (∀ j v, vs[j]? = some v → P i j v) := by
  obtain ⟨g1, g2, g3⟩ := G
  have e : rs[i]? = some rs[i] := List.getElem?_eq_getElem (by lia)
  obtain ⟨vs, a1, a2, a3⟩ := g3 _ _ e
  have e' : vs[j]? = some vs[j] := List.getElem?_eq_getElem (by lia)
  exact ⟨_, vs, _, e, by rw [List.getElem?_map, e]; rfl, a1, a2, e', a3 _ _ e', a3⟩

/-- r without the objects named -/
noncomputable def cut (r : Heap) (as : List Addr) : Heap := mkHeap r.objs.size fun a => if as.contains a then none else r.get? a
theorem get_cut (r : Heap) (as : List Addr) (a : Addr) : (cut r as).get? a = if as.contains a then none else r.get? a := by
  refine get_mk (fun a o e => ?_) a
  split at e
  · cases e
  · exact ⟨Heap.lt_size e, (Heap.get?_some_iff.mp e).2⟩
theorem cut_stays {r : Heap} {as : List Addr} : (cut r as).StaysIn r := fun a o e => by
  rw [get_cut] at e; split at e
  · cases e
  · exact e
theorem cut_none {r : Heap} {as : List Addr} {a : Addr} (h : a ∈ as) : (cut r as).get? a = none := by rw [get_cut, if_pos (by simpa using h)]
theorem cut_get {r : Heap} {as : List Addr} {a : Addr} {o : Obj} (e : r.get? a = some o) (h : a ∉ as) : (cut r as).get? a = some o := by rw [get_cut, if_neg (by simpa using h)]; exact e
theorem none_of_stays {r r' : Heap} (k : r.StaysIn r') {a : Addr} (e : r'.get? a = none) : r.get? a = none := by
  cases q : r.get? a with
  | none => rfl
  | some o => rw [k _ _ q] at e; cases e

/-! ## maps of alphas -/
abbrev inb (l t wd ht a b : Int) : Prop := 0 ≤ a - l ∧ a - l < wd ∧ 0 ≤ b - t ∧ b - t < ht
noncomputable def isInt (n : Int) (v : Value) : Prop := ∃ t, v = .int n t
noncomputable def AMap (r : Heap) (x : Addr) (rs : List Addr) (l t wd ht : Int) (F : Int → Int → Int) : Prop :=
  (0 ≤ wd ∧ wd ≤ 100 ∧ 0 ≤ ht ∧ ht ≤ 100) ∧
  (∃ f D t1 t2 t3 t4, f.StaysIn r ∧ (∀ a ∈ rs, f.get? a = none) ∧ Inst f x 125 [("left", .int l t1), ("top", .int t t2), ("width", .int wd t3), ("height", .int ht t4), ("alphas", .ref D)] ∧ isL f D (rs.map .ref)) ∧
  Grid r rs wd.toNat ht.toNat (fun i j => isInt (F (l + (j : Int)) (t + (i : Int))))
theorem AMap.up {r r' : Heap} {x : Addr} {rs : List Addr} {l t wd ht : Int} {F : Int → Int → Int} (M : AMap r x rs l t wd ht F) (k : r.StaysIn r') : AMap r' x rs l t wd ht F :=
  ⟨M.1, let ⟨f, D, t1, t2, t3, t4, a, b⟩ := M.2.1; ⟨f, D, t1, t2, t3, t4, StaysIn.trans a k, b⟩, M.2.2.imp (fun _ _ _ q => q.up k) fun _ _ _ _ _ q => q⟩
theorem is_in_spec (w : World) (r : Heap) (x : Addr) (rs : List Addr) (l t wd ht : Int) (F : Int → Int → Int) (a b : Int) (ta tb : Tok) (M : AMap r x rs l t wd ht F) :
    Call w r [] (.ref 108) [.ref x, .int a ta, .int b tb] 1 (fun v r' => r = r' ∧ v = .bool (decide (inb l t wd ht a b))) := by
  revert M
  revert w r x rs l t wd ht F a b ta tb
  refine lift13 (i1 := Pf.nW) ?_; refine (?x27 : ∀ a0 a1 a2 a3 a4 a5 a6 a7 a8 a9 a10 a11 a12, Ap13 _ a0 a1 a2 a3 a4 a5 a6 a7 a8 a9 a10 a11 a12) _ _ _ _ _ _ _ _ _ _ _ _ _; intro w r x rs l t wd ht F a b ta tb; refine Ap13.mk ?_
  intro M
  revert M
  walk_at "pf D"
  refine andI ?_
  walk_at "pf D"
  rename_i f
  walk_at "pf D"
  rename_i D
  walk_at "pf D"
  rename_i t1
  walk_at "pf D"
  rename_i t2
  walk_at "pf D"
  rename_i t3
  walk_at "pf D"
  rename_i t4
  walk_at "pf D"
  rename_i kf
  walk_at "pf D"
  walk_at "pf D"
  rename_i I
  intro _ _
  have I' := I.up kf
  refine' enter [("self", .ref x), ("x", .int a ta), ("y", .int b tb)] ?ho ?hcd ?hb ?hkd ?hok ?hnd ?c2 ?c3 ?c4 (fun _ h => nomatch h) ?_
  walk_at "pf enter"
  refine lift8 (i1 := Pf.nA) (i7 := Pf.nS) ?_; refine (?x31 : ∀ a0 a1 a2 a3 a4 a5 a6 a7, Ap8 _ a0 a1 a2 a3 a4 a5 a6 a7) _ _ _ _ _ _ _ _; intro A base g h₁ tk₁ L s Q; refine Ap8.mk ?_
  intro hd hu X T U Z S hret
  walk_at "pf go"
  all_goals (refine' hret _ _ _ _ _ (by assumption) (by assumption) ⟨rfl, congrArg Value.bool (decide_eq_decide.mpr ?_)⟩; (try simp only [decide_eq_true_eq, decide_eq_false_iff_not, Bool.not_eq_true] at *); (try unfold inb); lia)
theorem alpha_spec (w : World) (r : Heap) (x : Addr) (rs : List Addr) (l t wd ht : Int) (F : Int → Int → Int) (a b : Int) (ta tb : Tok) (M : AMap r x rs l t wd ht F) :
    Call w r [] (.ref 115) [.ref x, .int a ta, .int b tb] 2 (fun v r' => r = r' ∧ isInt (if inb l t wd ht a b then F a b else 0) v) := by
  revert M
  revert w r x rs l t wd ht F a b ta tb
  refine lift13 (i1 := Pf.nW) ?_; refine (?x28 : ∀ a0 a1 a2 a3 a4 a5 a6 a7 a8 a9 a10 a11 a12, Ap13 _ a0 a1 a2 a3 a4 a5 a6 a7 a8 a9 a10 a11 a12) _ _ _ _ _ _ _ _ _ _ _ _ _; intro w r x rs l t wd ht F a b ta tb; refine Ap13.mk ?_
  intro M
  have M' := M
  revert M
  refine andI ?_
  walk_at "pf D"
  rename_i w1
  walk_at "pf D"
  rename_i w2
  walk_at "pf D"
  rename_i h1
  intro h2
  refine andI ?_
  walk_at "pf D"
  rename_i f
  walk_at "pf D"
  rename_i D
  walk_at "pf D"
  rename_i t1
  walk_at "pf D"
  rename_i t2
  walk_at "pf D"
  rename_i t3
  walk_at "pf D"
  rename_i t4
  walk_at "pf D"
  rename_i kf
  walk_at "pf D"
  walk_at "pf D"
  rename_i I
  intro hD G
  have I' := I.up kf
  have hD' := hD.up kf
  refine' enter [("self", .ref x), ("x", .int a ta), ("y", .int b tb)] ?ho ?hcd ?hb ?hkd ?hok ?hnd ?c2 ?c3 ?c4 (fun _ h => nomatch h) ?_
  walk_at "pf enter"
  refine lift8 (i1 := Pf.nA) (i7 := Pf.nS) ?_; refine (?x32 : ∀ a0 a1 a2 a3 a4 a5 a6 a7, Ap8 _ a0 a1 a2 a3 a4 a5 a6 a7) _ _ _ _ _ _ _ _; intro A base g h₁ tk₁ L s Q; refine Ap8.mk ?_
  intro hd hu X T U Z S hret
  walk_at "pf go"
  refine' At.call (is_in_spec w r x rs l t wd ht F a b ta tb M') ?hz ?hS ?hs ?hU ?hd ?hu ?_
  walk_at "pf sides"
  rintro v h' tk' r' Z' S' _ fr ⟨rfl, rfl⟩
  (try dsimp only)
  by_cases q : inb l t wd ht a b
  · rw [decide_eq_true q]
    have q0 := q
    obtain ⟨q1, q2, q3, q4⟩ := q
    obtain ⟨ra, vs, v, e1, e2, e3, e4, e5, ⟨tv, rfl⟩, _⟩ := G.at (i := (b - t).toNat) (j := (a - l).toNat) (by lia) (by lia)
    walk_at "pf go"
    refine' hret _ _ _ _ _ ?e1 ?e2 ?e3
    case e1 => assumption
    case e2 => assumption
    case e3 => exact ⟨rfl, tv, by rw [if_pos q0, show l + ((a - l).toNat : Int) = a by lia, show t + ((b - t).toNat : Int) = b by lia]; rfl⟩
  · rw [decide_eq_false q]
    walk_at "pf go"
    refine' hret _ _ _ _ _ ?e1 ?e2 ?e3
    case e1 => assumption
    case e2 => assumption
    case e3 => exact ⟨rfl, _, by rw [if_neg q]; rfl⟩
noncomputable def updF {α : Type} (F : Int → Int → α) (a b : Int) (v : α) : Int → Int → α := fun a' b' => if a' = a ∧ b' = b then v else F a' b'
theorem put_spec (w : World) (r : Heap) (x : Addr) (rs : List Addr) (l t wd ht : Int) (F : Int → Int → Int) (a b al : Int) (ta tb tl : Tok) (M : AMap r x rs l t wd ht F) (q : inb l t wd ht a b) (a1 : 0 ≤ al) (a2 : al ≤ 255) :
    Call w r rs (.ref 122) [.ref x, .int a ta, .int b tb, .int al tl] 2 (fun v r' => AMap r' x rs l t wd ht (updF F a b al)) := by
  revert M q a1 a2
  revert w r x rs l t wd ht F a b al ta tb tl
  refine lift15 (i1 := Pf.nW) ?_; refine (?x29 : ∀ a0 a1 a2 a3 a4 a5 a6 a7 a8 a9 a10 a11 a12 a13 a14, Ap15 _ a0 a1 a2 a3 a4 a5 a6 a7 a8 a9 a10 a11 a12 a13 a14) _ _ _ _ _ _ _ _ _ _ _ _ _ _ _; intro w r x rs l t wd ht F a b al ta tb tl; refine Ap15.mk ?_
  intro M q a1 a2
  have M' := M
  revert M
  refine andI ?_
  walk_at "pf D"
  rename_i w1
  walk_at "pf D"
  rename_i w2
  walk_at "pf D"
  rename_i h1
  intro h2
  refine andI ?_
  walk_at "pf D"
  rename_i f
  walk_at "pf D"
  rename_i D
  walk_at "pf D"
  rename_i t1
  walk_at "pf D"
  rename_i t2
  walk_at "pf D"
  rename_i t3
  walk_at "pf D"
  rename_i t4
  walk_at "pf D"
  rename_i kf
  walk_at "pf D"
  rename_i nf
  walk_at "pf D"
  rename_i I
  intro hD G
  have I' := I.up kf
  have hD' := hD.up kf
  refine' enter [("self", .ref x), ("x", .int a ta), ("y", .int b tb), ("alpha", .int al tl)] ?ho ?hcd ?hb ?hkd ?hok ?hnd ?c2 ?c3 ?c4 (G.live) ?_
  walk_at "pf enter"
  refine lift8 (i1 := Pf.nA) (i7 := Pf.nS) ?_; refine (?x30 : ∀ a0 a1 a2 a3 a4 a5 a6 a7, Ap8 _ a0 a1 a2 a3 a4 a5 a6 a7) _ _ _ _ _ _ _ _; intro A base g h₁ tk₁ L s Q; refine Ap8.mk ?_
  intro hd hu X T U Z S hret
  walk_at "pf go"
  refine' At.call (is_in_spec w r x rs l t wd ht F a b ta tb M') ?hz ?hS ?hs ?hU ?hd ?hu ?_
  walk_at "pf sides"
  rintro v h' tk' r' Z' S' _ fr ⟨rfl, rfl⟩
  (try dsimp only)
  rw [decide_eq_true q]
  obtain ⟨q1, q2, q3, q4⟩ := q
  obtain ⟨ra, vs, v, e1, e2, e3, e4, e5, _, e6⟩ := G.at (i := (b - t).toNat) (j := (a - l).toNat) (by lia) (by lia)
  have em : ra ∈ rs := List.mem_of_getElem? e1
  walk_at "pf go"
  rename_i h' r' Z' R' S' l'
  have hrs : Step rs r r' := S'
  refine hret _ _ _ _ _ Z' S' ⟨⟨w1, w2, h1, h2⟩, ⟨f, D, t1, t2, t3, t4, Step.fz hrs kf nf, nf, I, hD⟩, G.set e1 e4 e6 R' l' (fun i' j' u hn hu => ?_) ⟨tl, ?_⟩⟩
  · unfold updF
    rw [if_neg (fun z => hn (by lia))]
    exact hu
  · unfold updF
    rw [if_pos (by lia)]
theorem size_to (a b : Int) : Builtin.Range.rangeSize a b 1 = ((b - a).toNat : Int) := by
  rw [rangeSize_one]; split <;> lia
/-- fresh lists in a row -/
noncomputable def Fresh (r₀ r : Heap) (rs : List Addr) (P : Nat → Heap → Addr → Prop) : Prop := rs.Nodup ∧ ∀ i a, rs[i]? = some a → r₀.get? a = none ∧ P i r a
theorem Fresh.snoc {r₀ r r' : Heap} {rs : List Addr} {P : Nat → Heap → Addr → Prop} {a : Addr} (F : Fresh r₀ r rs P) (hr : ∀ b ∈ rs, ∃ o, r.get? b = some o) (ha : r.get? a = none) (h₀ : r₀.get? a = none) (hP : P rs.length r' a) (up : ∀ i b, rs[i]? = some b → P i r b → P i r' b) : Fresh r₀ r' (rs ++ [a]) P := by
  refine ⟨?_, fun i b e => ?_⟩
  · rw [List.nodup_append]
    refine ⟨F.1, by simp, fun x hx y hy => ?_⟩
    rw [List.mem_singleton.mp hy]
    rintro rfl
    obtain ⟨o, q⟩ := hr _ hx
    rw [ha] at q; cases q
  · rcases Nat.lt_or_ge i rs.length with q | q
    · rw [List.getElem?_append_left q] at e
      exact ⟨(F.2 i b e).1, up i b e (F.2 i b e).2⟩
    · have : i = rs.length := by
        have := (List.getElem?_eq_some_iff.mp e).1
        simp at this; lia
      subst this
      simp at e; subst e
      exact ⟨h₀, hP⟩
theorem map_init (w : World) (r : Heap) (x dx : Addr) (l t wd ht : Int) (t1 t2 t3 t4 : Tok) (M : Mk r x 125 dx []) (w1 : 0 ≤ wd) (w2 : wd ≤ 100) (h1 : 0 ≤ ht) (h2 : ht ≤ 100) :
    Call w r [dx] (.ref 101) [.ref x, .int l t1, .int t t2, .int wd t3, .int ht t4] 1 (fun v r' => v = .none ∧ ∃ rs, AMap r' x rs l t wd ht (fun _ _ => 0) ∧ ∀ a ∈ rs, r.get? a = none) := by
  revert M w1 w2 h1 h2
  revert w r x dx l t wd ht t1 t2 t3 t4
  refine lift12 (i1 := Pf.nW) ?_; refine (?x33 : ∀ a0 a1 a2 a3 a4 a5 a6 a7 a8 a9 a10 a11, Ap12 _ a0 a1 a2 a3 a4 a5 a6 a7 a8 a9 a10 a11) _ _ _ _ _ _ _ _ _ _ _ _; intro w r x dx l t wd ht t1 t2 t3 t4; refine Ap12.mk ?_
  intro M w1 w2 h1 h2
  refine' enter [("self", .ref x), ("left", .int l t1), ("top", .int t t2), ("width", .int wd t3), ("height", .int ht t4)] ?ho ?hcd ?hb ?hkd ?hok ?hnd ?c2 ?c3 ?c4 (fun a ha => by rw [List.mem_singleton.mp ha]; exact ⟨_, M.d.choose_spec⟩) ?_
  walk_at "pf enter"
  refine lift8 (i1 := Pf.nA) (i7 := Pf.nS) ?_; refine (?x34 : ∀ a0 a1 a2 a3 a4 a5 a6 a7, Ap8 _ a0 a1 a2 a3 a4 a5 a6 a7) _ _ _ _ _ _ _ _; intro A base g h₁ tk₁ L s Q; refine Ap8.mk ?_
  intro hd hu X T U Z S hret
  walk_at "pf go"
  rename_i hm rm km tkm Zm Mm Sm lm rr hh tkk uu vv Zr nr Rr sr
  have hlen0 : ∀ {i : Nat} {rs : List Addr}, rs.length = i → True := fun _ => trivial
  refine' comp_range (n := (ht - 0).toNat) Rr (small_one (by lia) (by lia) (by lia) (by lia)) (size_to 0 ht) (by rw [sizeLine_eq]; lia) Zr
    (fun i r' ys => ∃ rs, ys = rs.map .ref ∧ rs.length = i ∧ Fresh rm r' rs (fun _ r' a => ∃ vs, isR r' a vs ∧ vs.length = wd.toNat ∧ ∀ (j : Nat) (v : Value), vs[j]? = some v → isInt 0 v) ∧ Step [] rm r') ⟨[], rfl, rfl, ⟨.nil, fun _ _ e => by simp at e⟩, Step.refl _ _⟩ ?turn ?done
  case turn =>
    rintro i ti r₁ ys h tk gB C mC hi ⟨rs, rfl, hl, F, S₁⟩ hg Z₁ hcl U₁
    have e1 : mC "width" = some (.int wd t3) := (hcl "width" _ rfl).trans rfl
    have X₁ := X.keeps hg
    have T₁ := T.keeps hg
    clear U X T Z Zr Zm
    walk_at "pf go"
    rename_i a0 h0 r0 Z0 R0 S0 s0 f0 f0' a' h' r' Z' R' S' s' f' f''
    have k₂ : r₁.StaysIn r' := StaysIn.trans s0 s'
    refine ElemEnd.mk Z' ⟨rs ++ [a'], by simp, by simp [hl], F.snoc (fun b hb => ?_) (none_of_stays s0 f') f'' ⟨_, R'.row, by simp, fun j v q => ?_⟩ ?_, S'⟩
    · obtain ⟨j, q⟩ := List.mem_iff_getElem?.mp hb
      obtain ⟨_, ⟨o, q1, _⟩, _⟩ := (F.2 j b q).2
      exact ⟨o, q1⟩
    · obtain ⟨_, q⟩ := List.getElem?_eq_some_iff.mp q
      rw [List.getElem_replicate] at q
      exact ⟨_, q.symm⟩
    · rintro _ b _ ⟨vs, q1, q2⟩
      exact ⟨vs, q1.up k₂, q2⟩
  case done =>
    rintro D k ys r₁ h tk ⟨rs, rfl, hl, F, S₁⟩ hlen hD hrD Z₁
    have S₂ : Step [dx] r (put r₁ D (listO (rs.map .ref) k)) := (Sm.then S₁ (fun a ha => nomatch ha)).then (bs := []) (step_new hrD) (fun a ha => nomatch ha)
    have kk : rm.StaysIn (put r₁ D (listO (rs.map .ref) k)) := StaysIn.trans S₁.nil (stays_put hrD)
    have M₂ := Mm.up kk
    dsimp only [useM] at Z₁
    clear Z Zr Zm
    walk_at "pf go"
    rename_i h' r' k' tk' Z' M' S' l'
    have frs : ∀ a ∈ rs, rm.get? a = none ∧ ∃ vs, isR r₁ a vs ∧ vs.length = wd.toNat ∧ ∀ (j : Nat) (v : Value), vs[j]? = some v → isInt 0 v := fun a ha => by
      obtain ⟨i, e⟩ := List.mem_iff_getElem?.mp ha
      exact F.2 i a e
    have xo : x ∉ rs := fun z => by have := (frs x z).1; rw [Mm.x] at this; cases this
    have dxo : dx ∉ rs := fun z => by have := (frs dx z).1; obtain ⟨n, q⟩ := Mm.d; rw [q] at this; cases this
    have Do : D ∉ rs := fun z => by obtain ⟨_, vs, ⟨o, q, _⟩, _⟩ := frs D z; rw [hrD] at q; cases q
    have Dd : D ≠ dx := by rintro rfl; obtain ⟨n, q⟩ := Mm.d; rw [S₁.nil _ _ q] at hrD; cases hrD
    have Mc : Mk (cut r' rs) x 125 dx _ := ⟨cut_get M'.x xo, let ⟨n, q⟩ := M'.d; ⟨n, cut_get q dxo⟩⟩
    have hD' : isL (cut r' rs) D (rs.map .ref) := let ⟨n, q⟩ := (isL_put r₁ D (rs.map .ref) k).step l' (by simpa using Dd); ⟨n, cut_get q Do⟩
    refine hret _ _ _ _ _ Z' S' ⟨rfl, rs, ⟨⟨w1, w2, h1, h2⟩, ⟨_, D, _, _, _, _, cut_stays, fun a ha => cut_none ha, Mc.inst, hD'⟩, by simpa using hl, F.1, fun i a e => ?_⟩, fun a ha => Sm.sub _ (frs a ha).1⟩
    obtain ⟨q0, vs, q1, q2, q3⟩ := F.2 i a e
    refine ⟨vs, (q1.up (stays_put hrD)).step l' ?_, q2, q3⟩
    rintro z
    rw [List.mem_singleton.mp z] at q0
    obtain ⟨n, q⟩ := Mm.d
    rw [q] at q0; cases q0
theorem map_make (w : World) (r : Heap) (l t wd ht : Int) (t1 t2 t3 t4 : Tok) (w1 : 0 ≤ wd) (w2 : wd ≤ 100) (h1 : 0 ≤ ht) (h2 : ht ≤ 100) :
    Call w r [] (.ref 125) [.int l t1, .int t t2, .int wd t3, .int ht t4] 2 (fun v r' => ∃ x rs, v = .ref x ∧ AMap r' x rs l t wd ht (fun _ _ => 0) ∧ ∀ a ∈ rs, r.get? a = none) :=
  Call.make (fun _ h => nomatch h) (by k_is) (by k_is) (by k_is) fun r₁ x dx hk M hx hd => (map_init w r₁ x dx l t wd ht t1 t2 t3 t4 M w1 w2 h1 h2).post fun v r' _ h =>
    ⟨h.1, x, let ⟨rs, a, b⟩ := h.2; ⟨rs, rfl, a, fun y hy => none_of_stays hk (b y hy)⟩⟩
/-! ## regions -/
noncomputable def SpanAt (r : Heap) (ax : Addr) (sp : Option (Int × Int)) : Prop := match sp with
  | none => isL r ax []
  | some (a, b) => ∃ p t u, isL r ax [.ref p] ∧ isT r p [.int a t, .int b u]
noncomputable def inSpan (sp : Option (Int × Int)) (x : Int) : Bool := match sp with
  | none => false
  | some (a, b) => decide (a ≤ x ∧ x < b)
theorem holds_none (w : World) (r : Heap) (ax : Addr) (x : Int) (tx : Tok) (H : isL r ax []) :
    Call w r [] (.ref 445) [.ref ax, .int x tx] 1 (fun v r' => r = r' ∧ v = .bool false) := by
  revert H
  revert w r ax x tx
  refine lift5 (i1 := Pf.nW) ?_; refine (?x35 : ∀ a0 a1 a2 a3 a4, Ap5 _ a0 a1 a2 a3 a4) _ _ _ _ _; intro w r ax x tx; refine Ap5.mk ?_
  intro H
  refine' enter [("spans", .ref ax), ("x", .int x tx)] ?ho ?hcd ?hb ?hkd ?hok ?hnd ?c2 ?c3 ?c4 (fun _ h => nomatch h) ?_
  walk_at "pf enter"
  refine lift8 (i1 := Pf.nA) (i7 := Pf.nS) ?_; refine (?x37 : ∀ a0 a1 a2 a3 a4 a5 a6 a7, Ap8 _ a0 a1 a2 a3 a4 a5 a6 a7) _ _ _ _ _ _ _ _; intro A base g h₁ tk₁ L s Q; refine Ap8.mk ?_
  intro hd hu X T U Z S hret
  walk_at "pf go"
  refine' while_ ?z (fun n m' r' => ∃ tl th, r = r' ∧ m' "low" = some (.int 0 tl) ∧ m' "high" = some (.int 0 th) ∧ m' "spans" = some (.ref ax) ∧ m' "x" = some (.int x tx)) 0 ?j0 ?_
  case z => walk_at "pf at"
  case j0 => exact ⟨_, _, rfl, rfl, rfl, rfl, rfl⟩
  rintro n m₁ _ h tk QT kt ⟨tl, th, rfl, e1, e2, e3, e4⟩ Z₁
  clear Z
  walk_at "pf go"
  refine' hret _ _ _ _ _ ?e1 ?e2 ?e3
  case e1 => assumption
  case e2 => assumption
  case e3 => exact ⟨rfl, rfl⟩
theorem holds_one (w : World) (r : Heap) (ax p : Addr) (a b x : Int) (t u tx : Tok) (H : isL r ax [.ref p]) (H' : isT r p [.int a t, .int b u]) :
    Call w r [] (.ref 445) [.ref ax, .int x tx] 1 (fun v r' => r = r' ∧ v = .bool (decide (a ≤ x ∧ x < b))) := by
  revert H H'
  revert w r ax p a b x t u tx
  refine lift10 (i1 := Pf.nW) ?_; refine (?x36 : ∀ a0 a1 a2 a3 a4 a5 a6 a7 a8 a9, Ap10 _ a0 a1 a2 a3 a4 a5 a6 a7 a8 a9) _ _ _ _ _ _ _ _ _ _; intro w r ax p a b x t u tx; refine Ap10.mk ?_
  intro H H'
  refine' enter [("spans", .ref ax), ("x", .int x tx)] ?ho ?hcd ?hb ?hkd ?hok ?hnd ?c2 ?c3 ?c4 (fun _ h => nomatch h) ?_
  walk_at "pf enter"
  refine lift8 (i1 := Pf.nA) (i7 := Pf.nS) ?_; refine (?x38 : ∀ a0 a1 a2 a3 a4 a5 a6 a7, Ap8 _ a0 a1 a2 a3 a4 a5 a6 a7) _ _ _ _ _ _ _ _; intro A base g h₁ tk₁ L s Q; refine Ap8.mk ?_
  intro hd hu X T U Z S hret
  walk_at "pf go"
  refine' while_ ?z (fun n m' r' => ∃ lo hi tl th, r = r' ∧ m' "low" = some (.int lo tl) ∧ m' "high" = some (.int hi th) ∧ m' "spans" = some (.ref ax) ∧ m' "x" = some (.int x tx) ∧ ((n = 1 ∧ lo = 0 ∧ hi = 1) ∨ (lo = hi ∧ lo = if b ≤ x then 1 else 0))) 1 ?j0 ?_
  case z => walk_at "pf at"
  case j0 => exact ⟨_, _, _, _, rfl, rfl, rfl, rfl, rfl, .inl ⟨rfl, rfl, rfl⟩⟩
  rintro n m₁ _ h tk QT kt ⟨lo, hi, tl, th, rfl, e1, e2, e3, e4, e5⟩ Z₁
  clear Z
  rcases e5 with ⟨rfl, rfl, rfl⟩ | ⟨rfl, rfl⟩
  · walk_at "pf go"
    · rename_i q h'' Z''
      refine' WhileEnd.kon kt (k := 0) (by decide) Z'' ⟨1, 1, _, _, rfl, by walk_at "pf nm", by walk_at "pf nm", by walk_at "pf nm", by walk_at "pf nm", .inr ⟨rfl, ?_⟩⟩
      rw [if_pos (by simpa using q)]
    · rename_i q h'' Z''
      refine' WhileEnd.kon kt (k := 0) (by decide) Z'' ⟨0, 0, _, _, rfl, by walk_at "pf nm", by walk_at "pf nm", by walk_at "pf nm", by walk_at "pf nm", .inr ⟨rfl, ?_⟩⟩
      rw [if_neg (by simpa using q)]
  · by_cases q : b ≤ x
    · rw [if_pos q] at e1 e2
      walk_at "pf go"
      refine' hret _ _ _ _ _ ?e1 ?e2 ?e3
      case e1 => assumption
      case e2 => assumption
      case e3 => exact ⟨rfl, congrArg Value.bool (decide_eq_false (by lia)).symm⟩
    · rw [if_neg q] at e1 e2
      walk_at "pf go"
      refine' hret _ _ _ _ _ ?e1 ?e2 ?e3
      case e1 => assumption
      case e2 => assumption
      case e3 => exact ⟨rfl, congrArg Value.bool (decide_eq_decide.mpr (by lia))⟩
abbrev iK (w : World) := intKind prg w
abbrev sK (w : World) := strKind prg w
/-- rows of spans by height -/
noncomputable def RowsOf (w : World) (r : Heap) (d : Addr) (Sp : Int → Option (Int × Int)) : Prop :=
  ∃ kvs, isD (iK w) r d kvs ∧ kvs.length ≤ 60 ∧ (∀ y v, valueAt kvs y = some v → ∃ ax, v = .ref ax ∧ SpanAt r ax (Sp y)) ∧ ∀ y, valueAt kvs y = none → Sp y = none
theorem SpanAt.up {r r' : Heap} {ax : Addr} {sp : Option (Int × Int)} (x : SpanAt r ax sp) (k : r.StaysIn r') : SpanAt r' ax sp := by
  cases sp with
  | none => exact isL.up x k
  | some p => obtain ⟨q, t, u, a, b⟩ := x; exact ⟨q, t, u, a.up k, b.up k⟩
theorem RowsOf.up {w : World} {r r' : Heap} {d : Addr} {Sp : Int → Option (Int × Int)} (x : RowsOf w r d Sp) (k : r.StaysIn r') : RowsOf w r' d Sp := by
  obtain ⟨kvs, a, b, c, e⟩ := x
  exact ⟨kvs, a.up k, b, fun y v q => let ⟨ax, p1, p2⟩ := c y v q; ⟨ax, p1, p2.up k⟩, e⟩
theorem holds_spec (w : World) (r : Heap) (ax : Addr) (sp : Option (Int × Int)) (x : Int) (tx : Tok) (H : SpanAt r ax sp) :
    Call w r [] (.ref 445) [.ref ax, .int x tx] 1 (fun v r' => r = r' ∧ v = .bool (inSpan sp x)) := by
  cases sp with
  | none => exact holds_none w r ax x tx H
  | some p => obtain ⟨q, t, u, a, b⟩ := H; exact holds_one w r ax q p.1 p.2 x t u tx a b
theorem region_holds (w : World) (r : Heap) (x d : Addr) (Sp : Int → Option (Int × Int)) (a b : Int) (ta tb : Tok) (I : Inst r x 509 [("rows", .ref d)]) (R : RowsOf w r d Sp) :
    Call w r [] (.ref 485) [.ref x, .int a ta, .int b tb] 2 (fun v _ => v = .bool (inSpan (Sp b) a)) := by
  revert I R
  revert w r x d Sp a b ta tb
  refine lift9 (i1 := Pf.nW) ?_; refine (?x39 : ∀ a0 a1 a2 a3 a4 a5 a6 a7 a8, Ap9 _ a0 a1 a2 a3 a4 a5 a6 a7 a8) _ _ _ _ _ _ _ _ _; intro w r x d Sp a b ta tb; refine Ap9.mk ?_
  intro I R
  revert R
  walk_at "pf D"
  rename_i kvs
  walk_at "pf D"
  rename_i D
  walk_at "pf D"
  walk_at "pf D"
  rename_i c1
  intro c2
  refine' enter [("self", .ref x), ("x", .int a ta), ("y", .int b tb)] ?ho ?hcd ?hb ?hkd ?hok ?hnd ?c2 ?c3 ?c4 (fun _ h => nomatch h) ?_
  walk_at "pf enter"
  refine lift8 (i1 := Pf.nA) (i7 := Pf.nS) ?_; refine (?x41 : ∀ a0 a1 a2 a3 a4 a5 a6 a7, Ap8 _ a0 a1 a2 a3 a4 a5 a6 a7) _ _ _ _ _ _ _ _; intro A base g h₁ tk₁ L s Q; refine Ap8.mk ?_
  intro hd hu X T U Z S hret
  walk_at "pf go"
  rename_i a' h' r' Z' R' S' s' f' f''
  obtain ⟨ax, e, sp⟩ : ∃ ax, (valueAt kvs b).getD (.ref a') = .ref ax ∧ SpanAt r' ax (Sp b) := by
    cases q : valueAt kvs b with
    | none => exact ⟨a', rfl, by rw [c2 b q]; exact R'⟩
    | some v => obtain ⟨ax, rfl, h⟩ := c1 b v q; exact ⟨ax, rfl, h.up s'⟩
  rw [e]
  refine' At.call (holds_spec w r' ax (Sp b) a ta sp) ?hz ?hS ?hs ?hU ?hd ?hu ?_
  walk_at "pf sides"
  rintro v h' tk' r' Z' S' _ fr ⟨rfl, rfl⟩
  (try dsimp only)
  walk_at "pf go"
  refine' hret _ _ _ _ _ ?e1 ?e2 ?e3
  case e1 => assumption
  case e2 => assumption
  case e3 => exact rfl
/-- a clip's layer: a region, or a map -/
noncomputable def RegC (w : World) (r : Heap) (x : Addr) (Sp : Int → Option (Int × Int)) : Prop := ∃ y d, Inst r x 153 [("region", .ref y)] ∧ Inst r y 509 [("rows", .ref d)] ∧ RowsOf w r d Sp
theorem RegC.up {w : World} {r r' : Heap} {x : Addr} {Sp : Int → Option (Int × Int)} (R : RegC w r x Sp) (k : r.StaysIn r') : RegC w r' x Sp := by
  obtain ⟨y, d, a, b, c⟩ := R
  exact ⟨y, d, a.up k, b.up k, c.up k⟩
noncomputable def Lay (w : World) (r : Heap) (x : Addr) (f : Int → Int → Int) : Prop :=
  (∀ a b, 0 ≤ f a b ∧ f a b ≤ 255) ∧ ((∃ Sp, RegC w r x Sp ∧ ∀ a b, f a b = if inSpan (Sp b) a = true then 255 else 0) ∨ (∃ rs l t wd ht F, AMap r x rs l t wd ht F ∧ ∀ a b, f a b = if inb l t wd ht a b then F a b else 0))
theorem Lay.up {w : World} {r r' : Heap} {x : Addr} {f : Int → Int → Int} (L : Lay w r x f) (k : r.StaysIn r') : Lay w r' x f :=
  ⟨L.1, L.2.imp (fun ⟨Sp, a, b⟩ => ⟨Sp, a.up k, b⟩) fun ⟨rs, l, t, wd, ht, F, a, b⟩ => ⟨rs, l, t, wd, ht, F, a.up k, b⟩⟩
theorem regc_alpha (w : World) (r : Heap) (x : Addr) (Sp : Int → Option (Int × Int)) (a b : Int) (ta tb : Tok) (R : RegC w r x Sp) :
    Call w r [] (.ref 150) [.ref x, .int a ta, .int b tb] 3 (fun v _ => isInt (if inSpan (Sp b) a = true then 255 else 0) v) := by
  revert R
  revert w r x Sp a b ta tb
  refine lift8 (i1 := Pf.nW) ?_; refine (?x40 : ∀ a0 a1 a2 a3 a4 a5 a6 a7, Ap8 _ a0 a1 a2 a3 a4 a5 a6 a7) _ _ _ _ _ _ _ _; intro w r x Sp a b ta tb; refine Ap8.mk ?_
  intro R
  revert R
  walk_at "pf D"
  rename_i y
  walk_at "pf D"
  rename_i d
  walk_at "pf D"
  rename_i I
  walk_at "pf D"
  rename_i I'
  intro D
  refine' enter [("self", .ref x), ("x", .int a ta), ("y", .int b tb)] ?ho ?hcd ?hb ?hkd ?hok ?hnd ?c2 ?c3 ?c4 (fun _ h => nomatch h) ?_
  walk_at "pf enter"
  refine lift8 (i1 := Pf.nA) (i7 := Pf.nS) ?_; refine (?x42 : ∀ a0 a1 a2 a3 a4 a5 a6 a7, Ap8 _ a0 a1 a2 a3 a4 a5 a6 a7) _ _ _ _ _ _ _ _; intro A base g h₁ tk₁ L s Q; refine Ap8.mk ?_
  intro hd hu X T U Z S hret
  walk_at "pf go"
  refine' At.call (region_holds w r y d Sp a b ta tb I' D) ?hz ?hS ?hs ?hU ?hd ?hu ?_
  walk_at "pf sides"
  rintro v h' tk' r' Z' S' _ fr rfl
  (try dsimp only)
  cases q : inSpan (Sp b) a
  · walk_at "pf go"
    refine' hret _ _ _ _ _ ?e1 ?e2 ?e3
    case e1 => assumption
    case e2 => assumption
    case e3 => exact ⟨_, by rw [q]; rfl⟩
  · walk_at "pf go"
    refine' hret _ _ _ _ _ ?e1 ?e2 ?e3
    case e1 => assumption
    case e2 => assumption
    case e3 => exact ⟨_, by rw [q]; rfl⟩
theorem Call.deep {w : World} {r : Heap} {as : List Addr} {f : Value} {args : List Value} {n k : Nat} {P : Value → Heap → Prop} (c : Call w r as f args n P) (h : n ≤ k) : Call w r as f args k P :=
  ⟨c.live, fun dp un gd env outer base s R hr hx hd hu q => c.run dp un gd env outer base s R hr hx (by lia) (by lia) q⟩
/-- the method of a layer, whatever it is -/
theorem lay_meth {w : World} {A : Around} {E : Value → Shared → Prop} {s : Shared} {pl : Sem Bool} {Q : Value × List Value → Shared → Prop} {r : Heap} {x : Addr} {f : Int → Int → Int} (X : (Pf.ob.heap_1 w.params).In s.heap) (k : r.StaysIn s.heap) (y : Lay w r x f)
    (h : ∀ fn : Addr, keepIn (Pf.ob.heap_1 w.params) (.ref fn) = true → (∀ p q tp tq, Call w r [] (.ref fn) [.ref x, .int p tp, .int q tq] 3 (fun v _ => isInt (f p q) v)) → Q (.ref fn, [.ref x]) s) : wpAny (model prg w) A (getMethod (.ref x) "alpha" pl) Q E s := by
  rcases y.2 with ⟨Sp, R, e⟩ | ⟨rs, l, t, wd, ht, F, M, e⟩
  · obtain ⟨yy, d, I, _, _⟩ := id R
    refine inst_meth X (I.up k) (by k_is) (by k_is) (by k_is) rfl (h 150 (by k_is) fun p q tp tq => ?_)
    exact (regc_alpha w r x Sp p q tp tq R).post fun v r' _ hv => by rw [e]; exact hv
  · obtain ⟨ff, D, t1, t2, t3, t4, kf, _, I, _⟩ := id M.2.1
    refine inst_meth X ((I.up kf).up k) (by k_is) (by k_is) (by k_is) rfl (h 115 (by k_is) fun p q tp tq => ?_)
    exact ((alpha_spec w r x rs l t wd ht F p q tp tq M).deep (by decide)).post fun v r' _ hv => by rw [e]; exact hv.2
theorem region_init (w : World) (r : Heap) (x dx d : Addr) (Sp : Int → Option (Int × Int)) (M : Mk r x 509 dx []) (R : RowsOf w r d Sp) (hne : d ≠ dx) :
    Call w r [dx] (.ref 457) [.ref x, .ref d] 1 (fun v r' => v = .none ∧ ∃ d', Inst r' x 509 [("rows", .ref d')] ∧ RowsOf w r' d' Sp) := by
  revert M R hne
  revert w r x dx d Sp
  refine lift6 (i1 := Pf.nW) ?_; refine (?x43 : ∀ a0 a1 a2 a3 a4 a5, Ap6 _ a0 a1 a2 a3 a4 a5) _ _ _ _ _ _; intro w r x dx d Sp; refine Ap6.mk ?_
  intro M R hne
  revert R
  walk_at "pf D"
  rename_i kvs
  walk_at "pf D"
  rename_i D
  walk_at "pf D"
  rename_i hz
  walk_at "pf D"
  rename_i c1
  intro c2
  refine' enter [("self", .ref x), ("rows", .ref d)] ?ho ?hcd ?hb ?hkd ?hok ?hnd ?c2 ?c3 ?c4 (fun a ha => by rw [List.mem_singleton.mp ha]; exact ⟨_, M.d.choose_spec⟩) ?_
  walk_at "pf enter"
  refine lift8 (i1 := Pf.nA) (i7 := Pf.nS) ?_; refine (?x45 : ∀ a0 a1 a2 a3 a4 a5 a6 a7, Ap8 _ a0 a1 a2 a3 a4 a5 a6 a7) _ _ _ _ _ _ _ _; intro A base g h₁ tk₁ L s Q; refine Ap8.mk ?_
  intro hd hu X T U Z S hret
  walk_at "pf go"
  rename_i d2 hA rA ZA loA eA SA sA fA fA' hB rB kB tkB ZB MB SB lB
  have dne : d2 ≠ dx := by rintro rfl; obtain ⟨n, q⟩ := M.d; rw [q] at fA; cases fA
  have E2 : isD (iK w) rB d2 [] := (isD.of_empty loA eA).step lB (by simpa using dne)
  have D2 : isD (iK w) rB d kvs := (D.up sA).step lB (by simpa using hne)
  clear Z ZA
  refine' comp_dict (D2.up ZB.own) (by rw [sizeLine_eq]; lia) ZB (fun i r' ys => rB = r' ∧ IntsAre ys ((kvs.map (·.1)).take i)) (fun i r' ys h o e => by rw [← h.1]; exact e) ⟨rfl, .nil⟩ ?turn ?done
  case turn =>
    rintro i k xv v _ ys h tk gB C mC hx hk ⟨rfl, hJ⟩ hg Z₁ hcl U₁
    obtain ⟨t, rfl⟩ := Value.isInt_shape hk
    have X₁ := X.keeps hg
    have T₁ := T.keeps hg
    clear U X T ZB
    walk_at "pf go"
    rename_i hh Zh
    refine ElemEnd.mk Zh ⟨rfl, ?_⟩
    rw [List.take_add_one, List.getElem?_map, hx]
    exact hJ.append (.cons _ _ .nil)
  case done =>
    rintro D' k ys _ h tk ⟨rfl, hJ⟩ hlen hD hrD Z₁
    have Sd : Step [dx] r (put rB D' (listO ys k)) := SB.then (bs := []) (step_new hrD) (fun a ha => nomatch ha)
    have hl := isL_put rB D' ys k
    rw [List.take_of_length_le (by simp)] at hJ
    have kk : rB.StaysIn (put rB D' (listO ys k)) := stays_put hrD
    dsimp only [useM] at Z₁
    clear ZB
    walk_at "pf go"
    rename_i vs ns hI hP lx hC rC ZC RC SC sC fC fC'
    have kB : rB.StaysIn rC := StaysIn.trans kk sC
    have MC := MB.up kB
    have f0 : (cut r [dx]).get? dx = none := cut_none (List.mem_singleton.mpr rfl)
    have fz : ∀ {r'}, Step [dx] r r' → (cut r [dx]).StaysIn r' := fun S => S.fz cut_stays (fun a ha => by rw [List.mem_singleton.mp ha]; exact f0)
    have D0 : isD (iK w) (cut r [dx]) d kvs := let ⟨lo, o, es, ep, e, q⟩ := D; ⟨lo, o, es, ep, cut_get e (by simpa using hne), q⟩
    have sp0 : ∀ {ax sp}, SpanAt r ax sp → SpanAt (cut r [dx]) ax sp := by
      intro ax sp h
      obtain ⟨n, q⟩ := M.d
      have off : ∀ {a : Addr} {o : Obj}, r.get? a = some o → o.cls ≠ .type "dict" → a ∉ [dx] := fun e hc z => by
        rw [List.mem_singleton.mp z, q] at e; cases e; exact hc rfl
      cases sp with
      | none => obtain ⟨n, e⟩ := h; exact ⟨n, cut_get e (off e (by simp))⟩
      | some p => obtain ⟨q, t, u, ⟨n, e⟩, n', e'⟩ := h; exact ⟨q, t, u, ⟨n, cut_get e (off e (by simp))⟩, n', cut_get e' (off e' (by simp))⟩
    have xne : x ≠ d2 := by rintro rfl; rw [M.x] at fA; cases fA
    have lne : lx ≠ d2 := by
      rintro rfl
      obtain ⟨_, o, es, ep, e, _⟩ := E2
      rw [kk _ _ e] at fC; cases fC
    refine' for_list (RC.up ZC.own) ZC (fun i m' r' => m' "self" = some (.ref x) ∧ m' "rows" = some (.ref d) ∧ Step [dx] r r' ∧ (∃ l, Mk r' x 509 dx l ∧ l.map (fun y => (y.1, y.2.2.2)) = ([("rows", .ref d2)] : List (Str × Value))) ∧ (∀ o, rC.get? lx = some o → r'.get? lx = some o) ∧
      ∃ kv2, isD (iK w) r' d2 kv2 ∧ kv2.length ≤ i ∧ (∀ y v, valueAt kv2 y = some v → ∃ ax, v = .ref ax ∧ SpanAt r' ax (Sp y)) ∧ (∀ j y, j < i → ns[j]? = some y → valueAt kv2 y = none → Sp y = none)) (fun _ _ => False)
      (fun i m' r' h => h.2.2.2.2.1) ⟨rfl, rfl, SC, ⟨_, MC, rfl⟩, fun _ e => e, [], E2.up kB, Nat.le_refl _, ⟨fun y v (q : valueAt [] y = some v) => by simp [valueAt] at q, fun j y hj => absurd hj (Nat.not_lt_zero _)⟩⟩ ?turn ?done ?done2
    case done2 => exact fun _ _ _ _ _ h => h.elim
    case done =>
      rintro m' r' h tk ⟨_, _, S', ⟨la, M₁, hla⟩, _, kv2, a1, a2, a3, a4⟩ Z'
      clear Z₁ ZC
      walk_at "pf go"
      refine hret _ _ _ _ _ Z' S' ⟨rfl, d2, by have := M₁.inst; rwa [hla] at this, kv2, a1, ?_, a3, fun y q => ?_⟩
      · have := IntsAre.len hI; have := hP.length_eq; simp at this; lia
      · by_cases hy : y ∈ kvs.map (·.1)
        · obtain ⟨j, hj⟩ := List.mem_iff_getElem?.mp (hP.mem_iff.mpr hy)
          exact a4 j y (by rw [IntsAre.len hI]; exact (List.getElem?_eq_some_iff.mp hj).1) hj q
        · refine c2 y ?_
          unfold valueAt
          rw [Option.map_eq_none_iff, List.find?_eq_none]
          intro kv h1 h2
          exact hy (List.mem_map.mpr ⟨kv, h1, by simpa using h2⟩)
    case turn =>
      rintro i v m₁ r₁ h tk gB QT kt hv ⟨e1, e2, S₁, ⟨la, M₁, hla⟩, hsrc, kv2, a1, a2, a3, a4⟩ hg Z₂
      have I₁ : Inst r₁ x 509 [("rows", .ref d2)] := hla ▸ M₁.inst
      have D₁ : isD (iK w) r₁ d kvs := D0.up (fz S₁)
      obtain ⟨y, t, rfl, hy⟩ : ∃ y t, v = .int y t ∧ ns[i]? = some y := by
        have hlt : i < ns.length := by rw [← IntsAre.len hI]; exact (List.getElem?_eq_some_iff.mp hv).1
        have := IntsAre.get hI hv (List.getElem?_eq_getElem hlt)
        exact ⟨_, this.choose, this.choose_spec, List.getElem?_eq_getElem hlt⟩
      obtain ⟨vv, hvv⟩ : ∃ v, valueAt kvs y = some v := by
        have : y ∈ kvs.map (·.1) := hP.mem_iff.mp (List.mem_of_getElem? hy)
        cases q : valueAt kvs y with
        | some v => exact ⟨v, rfl⟩
        | none =>
          exfalso
          obtain ⟨kv, h1, h2⟩ := List.mem_map.mp this
          unfold valueAt at q
          rw [Option.map_eq_none_iff, List.find?_eq_none] at q
          exact absurd h2 (by simpa using q kv h1)
      obtain ⟨ax, rfl, sp⟩ := c1 y vv hvv
      have sp₁ := (sp0 sp).up (fz S₁)
      have X₁ := X.keeps hg
      have T₁ := T.keeps hg
      clear U X T Z₁ ZC
      have hlast : ∀ j z, j < i + 1 → ns[j]? = some z → (j < i ∧ ns[j]? = some z) ∨ z = y := fun j z hj hz => by
        by_cases q : j < i
        · exact .inl ⟨q, hz⟩
        · have : j = i := by lia
          subst this; rw [hy] at hz; cases hz; exact .inr rfl
      cases hs : Sp y with
      | none =>
        rw [hs] at sp₁
        have hax : isL r₁ ax [] := sp₁
        walk_at "pf go"
        rename_i a' h' r' Z' R' S' s' f' f''
        refine TurnEnd.kon kt Z' ⟨by walk_at "pf nm", by walk_at "pf nm", S', ⟨la, M₁.up s', hla⟩, fun o e => s' _ _ (hsrc o e), kv2, a1.up s', by lia, fun y v q => let ⟨ax, p1, p2⟩ := a3 y v q; ⟨ax, p1, p2.up s'⟩, fun j z hj hz q => ?_⟩
        rcases hlast j z hj hz with ⟨h1, h2⟩ | rfl
        · exact a4 j z h1 h2 q
        · exact hs
      | some p =>
        rw [hs] at sp₁
        obtain ⟨q, t1, t2, hax, hq⟩ := sp₁
        have hi60 : kv2.length ≤ 60 := by
          have := (List.getElem?_eq_some_iff.mp hy).1
          have := hP.length_eq; simp at this; lia
        walk_at "pf go"
        rename_i a0 h0 r0 Z0 R0 S0 s0 f0' f0'' a1' h1 r1 Z1 R1 S1 s1 f1 f1' h' r' tk' Z' R' S' l'
        have kk2 : r₁.StaysIn r1 := StaysIn.trans s0 s1
        have dead : ∀ {a : Addr} {o : Obj}, r1.get? a = some o → a ≠ d2 → r'.get? a = some o := fun e n => Step.keep l' _ _ (by simpa using n) e
        have ld : ∀ {a : Addr} {vs : List Value}, isL r1 a vs → a ≠ d2 := fun h z => by
          obtain ⟨_, o, es, ep, e, c, _⟩ := a1.up kk2
          obtain ⟨n, e'⟩ := h
          rw [z, e] at e'; cases e'; exact absurd c.1 (by simp)
        have td : ∀ {a : Addr} {vs : List Value}, isT r1 a vs → a ≠ d2 := fun h z => by
          obtain ⟨_, o, es, ep, e, c, _⟩ := a1.up kk2
          obtain ⟨n, e'⟩ := h
          rw [z, e] at e'; cases e'; exact absurd c.1 (by simp)
        have sup : ∀ {ax sp}, SpanAt r1 ax sp → SpanAt r' ax sp := by
          intro ax sp h
          cases sp with
          | none => obtain ⟨n, e⟩ := id h; exact ⟨n, dead e (ld h)⟩
          | some p => obtain ⟨q, t, u, a, b⟩ := h; obtain ⟨n, e⟩ := id a; obtain ⟨n', e'⟩ := id b; exact ⟨q, t, u, ⟨n, dead e (ld a)⟩, n', dead e' (td b)⟩
        refine TurnEnd.kon kt Z' ⟨by walk_at "pf nm", by walk_at "pf nm", S', ⟨la, (M₁.up kk2).step l' (by simpa using xne) (by simpa using Ne.symm dne), hla⟩, fun o e => dead (kk2 _ _ (hsrc o e)) lne, _, R', ?_, fun z v qz => ?_, fun j z hj hz qz => ?_⟩
        · exact Nat.le_trans stored_len (by lia)
        · rw [valueAt_stored] at qz
          split at qz
          · rename_i ez; subst ez
            cases qz
            exact ⟨_, rfl, by rw [hs]; exact sup (sp := some p) ⟨q, t1, t2, R1, hq.up kk2⟩⟩
          · obtain ⟨ax', p1, p2⟩ := a3 z v qz
            exact ⟨ax', p1, sup (p2.up kk2)⟩
        · rw [valueAt_stored] at qz
          split at qz
          · cases qz
          · rename_i ez
            rcases hlast j z hj hz with ⟨h1, h2⟩ | rfl
            · exact a4 j z h1 h2 qz
            · exact absurd rfl ez
theorem region_make (w : World) (r : Heap) (d : Addr) (Sp : Int → Option (Int × Int)) (R : RowsOf w r d Sp) :
    Call w r [] (.ref 509) [.ref d] 2 (fun v r' => ∃ x d', v = .ref x ∧ Inst r' x 509 [("rows", .ref d')] ∧ RowsOf w r' d' Sp) :=
  Call.make (fun _ h => nomatch h) (by k_is) (by k_is) (by k_is) fun r₁ x dx hk M hx hd => (region_init w r₁ x dx d Sp M (R.up hk) (by
    rintro rfl
    obtain ⟨kvs, ⟨_, o, es, ep, e, _⟩, _⟩ := R
    rw [hd] at e; cases e)).post fun v r' _ h => ⟨h.1, x, let ⟨d', a, b⟩ := h.2; ⟨d', rfl, a, b⟩⟩
theorem regc_init (w : World) (r : Heap) (x dx y d : Addr) (Sp : Int → Option (Int × Int)) (M : Mk r x 153 dx []) (I : Inst r y 509 [("rows", .ref d)]) (R : RowsOf w r d Sp) (f : Heap) (kf : f.StaysIn r) (hf : f.get? dx = none) (If : Inst f y 509 [("rows", .ref d)]) (Rf : RowsOf w f d Sp) :
    Call w r [dx] (.ref 143) [.ref x, .ref y] 1 (fun v r' => v = .none ∧ RegC w r' x Sp) := by
  revert M I R kf hf If Rf
  revert w r x dx y d Sp f
  refine lift8 (i1 := Pf.nW) ?_; refine (?x44 : ∀ a0 a1 a2 a3 a4 a5 a6 a7, Ap8 _ a0 a1 a2 a3 a4 a5 a6 a7) _ _ _ _ _ _ _ _; intro w r x dx y d Sp f; refine Ap8.mk ?_
  intro M I R kf hf If Rf
  refine' enter [("self", .ref x), ("region", .ref y)] ?ho ?hcd ?hb ?hkd ?hok ?hnd ?c2 ?c3 ?c4 (fun a ha => by rw [List.mem_singleton.mp ha]; exact ⟨_, M.d.choose_spec⟩) ?_
  walk_at "pf enter"
  refine lift8 (i1 := Pf.nA) (i7 := Pf.nS) ?_; refine (?x46 : ∀ a0 a1 a2 a3 a4 a5 a6 a7, Ap8 _ a0 a1 a2 a3 a4 a5 a6 a7) _ _ _ _ _ _ _ _; intro A base g h₁ tk₁ L s Q; refine Ap8.mk ?_
  intro hd hu X T U Z S hret
  walk_at "pf go"
  rename_i h' r' k' tk' Z' M' S' l'
  have kf' : f.StaysIn r' := Step.fz l' kf (fun a ha => by rw [List.mem_singleton.mp ha]; exact hf)
  refine' hret _ _ _ _ _ ?e1 ?e2 ?e3
  case e1 => assumption
  case e2 => assumption
  case e3 => exact ⟨rfl, y, d, Mk.inst M', If.up kf', Rf.up kf'⟩
theorem regc_make (w : World) (r : Heap) (y d : Addr) (Sp : Int → Option (Int × Int)) (I : Inst r y 509 [("rows", .ref d)]) (R : RowsOf w r d Sp) :
    Call w r [] (.ref 153) [.ref y] 2 (fun v r' => ∃ x, v = .ref x ∧ RegC w r' x Sp) :=
  Call.make (fun _ h => nomatch h) (by k_is) (by k_is) (by k_is) fun r₁ x dx hk M hx hd => (regc_init w r₁ x dx y d Sp M (I.up hk) (R.up hk) r hk hd I R).post fun v r' _ h => ⟨h.1, x, rfl, h.2⟩
/-! ## clips -/
noncomputable def ClipC (r : Heap) (x : Addr) (ls : List Addr) : Prop := ∃ D, Inst r x 202 [("layers", .ref D)] ∧ isL r D (ls.map .ref)
theorem ClipC.up {r r' : Heap} {x : Addr} {ls : List Addr} (c : ClipC r x ls) (k : r.StaysIn r') : ClipC r' x ls := by
  obtain ⟨D, a, b⟩ := c
  exact ⟨D, a.up k, b.up k⟩
theorem clip_init (w : World) (r : Heap) (x dx l : Addr) (ls : List Addr) (M : Mk r x 202 dx []) (H : isL r l (ls.map .ref)) (hz : ls.length ≤ 10) :
    Call w r [dx] (.ref 171) [.ref x, .ref l] 1 (fun v r' => v = .none ∧ ClipC r' x ls) := by
  revert M H hz
  revert w r x dx l ls
  refine lift6 (i1 := Pf.nW) ?_; refine (?x47 : ∀ a0 a1 a2 a3 a4 a5, Ap6 _ a0 a1 a2 a3 a4 a5) _ _ _ _ _ _; intro w r x dx l ls; refine Ap6.mk ?_
  intro M H hz
  have hz' : (ls.map Value.ref).length ≤ 10 := by simpa using hz
  refine' enter [("self", .ref x), ("layers", .ref l)] ?ho ?hcd ?hb ?hkd ?hok ?hnd ?c2 ?c3 ?c4 (fun a ha => by rw [List.mem_singleton.mp ha]; exact ⟨_, M.d.choose_spec⟩) ?_
  walk_at "pf enter"
  refine lift8 (i1 := Pf.nA) (i7 := Pf.nS) ?_; refine (?x51 : ∀ a0 a1 a2 a3 a4 a5 a6 a7, Ap8 _ a0 a1 a2 a3 a4 a5 a6 a7) _ _ _ _ _ _ _ _; intro A base g h₁ tk₁ L s Q; refine Ap8.mk ?_
  intro hd hu X T U Z S hret
  walk_at "pf go"
  rename_i a1 h1 r1 Z1 R1 S1 s1 f1 f1' h' r' k' tk' Z' M' S' l'
  have hne : a1 ≠ dx := by rintro rfl; obtain ⟨n, q⟩ := M.d; rw [q] at f1; cases f1
  refine' hret _ _ _ _ _ ?e1 ?e2 ?e3
  case e1 => assumption
  case e2 => assumption
  case e3 => exact ⟨rfl, a1, Mk.inst M', R1.step l' (by simpa using hne)⟩
theorem clip_make (w : World) (r : Heap) (l : Addr) (ls : List Addr) (H : isL r l (ls.map .ref)) (hz : ls.length ≤ 10) :
    Call w r [] (.ref 202) [.ref l] 2 (fun v r' => ∃ x, v = .ref x ∧ ClipC r' x ls) :=
  Call.make (fun _ h => nomatch h) (by k_is) (by k_is) (by k_is) fun r₁ x dx hk M hx hd => (clip_init w r₁ x dx l ls M (H.up hk) hz).post fun v r' _ h => ⟨h.1, x, rfl, h.2⟩
theorem is_open_spec (w : World) (r : Heap) (x : Addr) (ls : List Addr) (C : ClipC r x ls) :
    Call w r [] (.ref 178) [.ref x] 1 (fun v _ => v = .bool (decide (ls = []))) := by
  revert C
  revert w r x ls
  refine lift4 (i1 := Pf.nW) ?_; refine (?x48 : ∀ a0 a1 a2 a3, Ap4 _ a0 a1 a2 a3) _ _ _ _; intro w r x ls; refine Ap4.mk ?_
  intro C
  revert C
  walk_at "pf D"
  rename_i D
  walk_at "pf D"
  rename_i I
  intro H
  refine' enter [("self", .ref x)] ?ho ?hcd ?hb ?hkd ?hok ?hnd ?c2 ?c3 ?c4 (fun _ h => nomatch h) ?_
  walk_at "pf enter"
  refine lift8 (i1 := Pf.nA) (i7 := Pf.nS) ?_; refine (?x52 : ∀ a0 a1 a2 a3 a4 a5 a6 a7, Ap8 _ a0 a1 a2 a3 a4 a5 a6 a7) _ _ _ _ _ _ _ _; intro A base g h₁ tk₁ L s Q; refine Ap8.mk ?_
  intro hd hu X T U Z S hret
  cases ls with
  | nil =>
    have H' : isL r D [] := H
    walk_at "pf go"
    refine' hret _ _ _ _ _ ?e1 ?e2 ?e3
    case e1 => assumption
    case e2 => assumption
    case e3 => exact rfl
  | cons a ls =>
    have H' : isL r D (.ref a :: ls.map .ref) := H
    walk_at "pf go"
    refine' hret _ _ _ _ _ ?e1 ?e2 ?e3
    case e1 => assumption
    case e2 => assumption
    case e3 => exact (congrArg Value.bool (by simp))
theorem within_spec (w : World) (r : Heap) (x y : Addr) (ls : List Addr) (C : ClipC r x ls) (hz : ls.length ≤ 5) :
    Call w r [] (.ref 185) [.ref x, .ref y] 3 (fun v r' => ∃ x', v = .ref x' ∧ ClipC r' x' (ls ++ [y])) := by
  revert C hz
  revert w r x y ls
  refine lift5 (i1 := Pf.nW) ?_; refine (?x49 : ∀ a0 a1 a2 a3 a4, Ap5 _ a0 a1 a2 a3 a4) _ _ _ _ _; intro w r x y ls; refine Ap5.mk ?_
  intro C hz
  revert C
  walk_at "pf D"
  rename_i D
  walk_at "pf D"
  rename_i I
  intro H
  have hz' : (ls.map Value.ref).length + [Value.ref y].length ≤ 10 := by simp; lia
  refine' enter [("self", .ref x), ("layer", .ref y)] ?ho ?hcd ?hb ?hkd ?hok ?hnd ?c2 ?c3 ?c4 (fun _ h => nomatch h) ?_
  walk_at "pf enter"
  refine lift8 (i1 := Pf.nA) (i7 := Pf.nS) ?_; refine (?x53 : ∀ a0 a1 a2 a3 a4 a5 a6 a7, Ap8 _ a0 a1 a2 a3 a4 a5 a6 a7) _ _ _ _ _ _ _ _; intro A base g h₁ tk₁ L s Q; refine Ap8.mk ?_
  intro hd hu X T U Z S hret
  walk_at "pf go"
  rename_i a1 h1 r1 Z1 R1 S1 s1 f1 f1' a2 h2 r2 Z2 R2 S2 s2 f2 f2'
  refine' At.call (clip_make w r2 a2 (ls ++ [y]) (by simpa using R2) (by simp; lia)) ?hz ?hS ?hs ?hU ?hd ?hu ?_
  walk_at "pf sides"
  rintro v h' tk' r' Z' S' _ fr ⟨x', rfl, C'⟩
  (try dsimp only)
  walk_at "pf go"
  refine' hret _ _ _ _ _ ?e1 ?e2 ?e3
  case e1 => assumption
  case e2 => assumption
  case e3 => exact ⟨x', rfl, C'⟩
theorem both_spec (w : World) (r : Heap) (x y : Addr) (ls ks : List Addr) (C : ClipC r x ls) (C' : ClipC r y ks) (hz : ls.length ≤ 5) (hz2 : ks.length ≤ 5) :
    Call w r [] (.ref 192) [.ref x, .ref y] 3 (fun v r' => ∃ x', v = .ref x' ∧ ClipC r' x' (ls ++ ks)) := by
  revert C C' hz hz2
  revert w r x y ls ks
  refine lift6 (i1 := Pf.nW) ?_; refine (?x50 : ∀ a0 a1 a2 a3 a4 a5, Ap6 _ a0 a1 a2 a3 a4 a5) _ _ _ _ _ _; intro w r x y ls ks; refine Ap6.mk ?_
  intro C C' hz hz2
  revert C
  walk_at "pf D"
  rename_i D
  walk_at "pf D"
  rename_i I
  intro H
  revert C'
  walk_at "pf D"
  rename_i D'
  walk_at "pf D"
  rename_i I'
  intro H'
  have hz' : (ls.map Value.ref).length + (ks.map Value.ref).length ≤ 10 := by simp; lia
  refine' enter [("self", .ref x), ("other", .ref y)] ?ho ?hcd ?hb ?hkd ?hok ?hnd ?c2 ?c3 ?c4 (fun _ h => nomatch h) ?_
  walk_at "pf enter"
  refine lift8 (i1 := Pf.nA) (i7 := Pf.nS) ?_; refine (?x54 : ∀ a0 a1 a2 a3 a4 a5 a6 a7, Ap8 _ a0 a1 a2 a3 a4 a5 a6 a7) _ _ _ _ _ _ _ _; intro A base g h₁ tk₁ L s Q; refine Ap8.mk ?_
  intro hd hu X T U Z S hret
  walk_at "pf go"
  rename_i a2 h2 r2 Z2 R2 S2 s2 f2 f2'
  refine' At.call (clip_make w r2 a2 (ls ++ ks) (by simpa using R2) (by simp; lia)) ?hz ?hS ?hs ?hU ?hd ?hu ?_
  walk_at "pf sides"
  rintro v h' tk' r' Z' S' _ fr ⟨x', rfl, C'⟩
  (try dsimp only)
  walk_at "pf go"
  refine' hret _ _ _ _ _ ?e1 ?e2 ?e3
  case e1 => assumption
  case e2 => assumption
  case e3 => exact ⟨x', rfl, C'⟩
noncomputable def clf (fs : List (Int → Int → Int)) (a b : Int) : Int := fs.foldl (fun acc f => wt acc (f a b)) 255
theorem clf_zero (fs : List (Int → Int → Int)) (a b : Int) : fs.foldl (fun acc f => wt acc (f a b)) 0 = 0 := by
  induction fs with
  | nil => rfl
  | cons f fs ih =>
    rw [List.foldl_cons]
    have : wt 0 (f a b) = 0 := by unfold wt; simp
    rw [this]; exact ih
noncomputable def Lays (w : World) (r : Heap) (ls : List Addr) (fs : List (Int → Int → Int)) : Prop := ls.length = fs.length ∧ ∀ (i : Nat) (a : Addr) (f : Int → Int → Int), ls[i]? = some a → fs[i]? = some f → Lay w r a f
theorem Lays.up {w : World} {r r' : Heap} {ls : List Addr} {fs : List (Int → Int → Int)} (L : Lays w r ls fs) (k : r.StaysIn r') : Lays w r' ls fs := ⟨L.1, fun i a f h1 h2 => (L.2 i a f h1 h2).up k⟩
theorem clip_alpha_m (w : World) (r : Heap) (x : Addr) (ls : List Addr) (fs : List (Int → Int → Int)) (a b : Int) (ta tb : Tok) (C : ClipC r x ls) (Ly : Lays w r ls fs) :
    Call w r [] (.ref 199) [.ref x, .int a ta, .int b tb] 4 (fun v _ => isInt (clf fs a b) v) := by
  revert C Ly
  revert w r x ls fs a b ta tb
  refine lift9 (i1 := Pf.nW) ?_; refine (?x55 : ∀ a0 a1 a2 a3 a4 a5 a6 a7 a8, Ap9 _ a0 a1 a2 a3 a4 a5 a6 a7 a8) _ _ _ _ _ _ _ _ _; intro w r x ls fs a b ta tb; refine Ap9.mk ?_
  intro C Ly
  revert C
  walk_at "pf D"
  rename_i D
  walk_at "pf D"
  rename_i I
  intro H
  refine' enter [("self", .ref x), ("x", .int a ta), ("y", .int b tb)] ?ho ?hcd ?hb ?hkd ?hok ?hnd ?c2 ?c3 ?c4 (fun _ h => nomatch h) ?_
  walk_at "pf enter"
  refine lift8 (i1 := Pf.nA) (i7 := Pf.nS) ?_; refine (?x56 : ∀ a0 a1 a2 a3 a4 a5 a6 a7, Ap8 _ a0 a1 a2 a3 a4 a5 a6 a7) _ _ _ _ _ _ _ _; intro A base g h₁ tk₁ L s Q; refine Ap8.mk ?_
  intro hd hu X T U Z S hret
  walk_at "pf go"
  refine' for_list (H.up (At.own (by assumption))) (by assumption) (fun i m' r' => m' "self" = some (.ref x) ∧ m' "x" = some (.int a ta) ∧ m' "y" = some (.int b tb) ∧ (∃ t, m' "found" = some (.int (clf (fs.take i) a b) t)) ∧ Step [] r r') (fun v r' => isInt (clf fs a b) v ∧ Step [] r r')
    (fun i m' r' h o e => h.2.2.2.2.nil _ _ e) ⟨rfl, rfl, rfl, ⟨_, rfl⟩, S⟩ ?turn ?done ?done2
  case done =>
    rintro m' r' h tk ⟨e1, e2, e3, ⟨t, e4⟩, S'⟩ Z'
    have hlen : (ls.map Value.ref).length = fs.length := by simp [Ly.1]
    rw [hlen, List.take_length] at e4
    clear Z
    walk_at "pf go"
    refine' hret _ _ _ _ _ ?e1 ?e2 ?e3
    case e1 => assumption
    case e2 => assumption
    case e3 => exact ⟨_, rfl⟩
  case done2 =>
    rintro v m' r' h tk ⟨q, S'⟩ Z'
    exact hret _ _ _ _ _ Z' S' q
  case turn =>
    rintro i v m₁ r₁ h tk gB QT kt hv ⟨e1, e2, e3, ⟨t, e4⟩, S₁⟩ hg Z₁
    obtain ⟨y, rfl, hy⟩ : ∃ y, v = .ref y ∧ ls[i]? = some y := by
      rw [List.getElem?_map] at hv
      cases q : ls[i]? with
      | none => rw [q] at hv; cases hv
      | some y => rw [q] at hv; exact ⟨y, (Option.some.inj hv).symm, rfl⟩
    have hi : i < fs.length := by rw [← Ly.1]; exact (List.getElem?_eq_some_iff.mp hy).1
    obtain ⟨f, hf⟩ : ∃ f, fs[i]? = some f := ⟨_, List.getElem?_eq_getElem hi⟩
    have Lf := (Ly.2 i y f hy hf).up S₁.nil
    have hb := Lf.1
    have hstep : clf (fs.take (i + 1)) a b = wt (clf (fs.take i) a b) (f a b) := by
      rw [List.take_add_one, hf]; simp [clf]
    have X₁ := X.keeps hg
    have T₁ := T.keeps hg
    have U₁ := U.mono hg
    clear U X T Z
    generalize hacc : clf (fs.take i) a b = acc at *
    have h0 : acc = 0 → clf fs a b = 0 := by
      rintro rfl
      have e : clf fs a b = (fs.drop i).foldl (fun acc f => wt acc (f a b)) (clf (fs.take i) a b) := by
        unfold clf
        rw [← List.foldl_append, List.take_append_drop]
      rw [e, hacc, clf_zero]
    walk_at "pf go"
    · have q : acc = 0 := by assumption
      exact TurnEnd.kret kt (by assumption) ⟨⟨_, by rw [h0 q]⟩, S₁⟩
    · refine' lay_meth ?gx ?gk (Lf) ?_
      case gx => walk_at "pf K"
      case gk => exact At.own (by assumption)
      intro fn hfn Cf
      (try dsimp only)
      walk_at "pf go"
      refine' At.call (Cf a b _ _) ?hz ?hS ?hs ?hU ?hd ?hu ?_
      walk_at "pf sides"
      rintro v h' tk' r' Z' S' _ fr ⟨t2, rfl⟩
      (try dsimp only)
      walk_at "pf go"
      refine' At.call (weighted_spec w r' acc (f a b) t t2 (hb a b).1 (hb a b).2) ?hz ?hS ?hs ?hU ?hd ?hu ?_
      walk_at "pf sides"
      rintro v h' tk' r' Z' S' _ fr ⟨rfl, t3, rfl⟩
      (try dsimp only)
      walk_at "pf go"
      rename_i h'' Z''
      exact TurnEnd.kon kt Z'' ⟨by walk_at "pf nm", by walk_at "pf nm", by walk_at "pf nm", ⟨t3, by rw [hstep]; exact upd_eq⟩, S'⟩
noncomputable def ClipV (w : World) (r : Heap) (v : Value) (fs : List (Int → Int → Int)) : Prop := (v = .none ∧ fs = []) ∨ (∃ x ls, v = .ref x ∧ ClipC r x ls ∧ Lays w r ls fs)
theorem ClipV.up {w : World} {r r' : Heap} {v : Value} {fs : List (Int → Int → Int)} (C : ClipV w r v fs) (k : r.StaysIn r') : ClipV w r' v fs := C.imp id fun ⟨x, ls, a, b, c⟩ => ⟨x, ls, a, b.up k, c.up k⟩
theorem alpha_of (w : World) (r : Heap) (v : Value) (fs : List (Int → Int → Int)) (a b : Int) (ta tb : Tok) (C : ClipV w r v fs) :
    Call w r [] (.ref 213) [v, .int a ta, .int b tb] 5 (fun v _ => isInt (clf fs a b) v) := by
  revert C
  revert w r v fs a b ta tb
  refine lift8 (i1 := Pf.nW) ?_; refine (?x57 : ∀ a0 a1 a2 a3 a4 a5 a6 a7, Ap8 _ a0 a1 a2 a3 a4 a5 a6 a7) _ _ _ _ _ _ _ _; intro w r v fs a b ta tb; refine Ap8.mk ?_
  intro C
  rcases C with ⟨rfl, rfl⟩ | ⟨x, ls, rfl, C, Ly⟩
  · refine' enter [("clip", .none), ("x", .int a ta), ("y", .int b tb)] ?ho ?hcd ?hb ?hkd ?hok ?hnd ?c2 ?c3 ?c4 (fun _ h => nomatch h) ?_
    walk_at "pf enter"
    refine lift8 (i1 := Pf.nA) (i7 := Pf.nS) ?_; refine (?x61 : ∀ a0 a1 a2 a3 a4 a5 a6 a7, Ap8 _ a0 a1 a2 a3 a4 a5 a6 a7) _ _ _ _ _ _ _ _; intro A base g h₁ tk₁ L s Q; refine Ap8.mk ?_
    intro hd hu X T U Z S hret
    walk_at "pf go"
    refine' hret _ _ _ _ _ ?e1 ?e2 ?e3
    case e1 => assumption
    case e2 => assumption
    case e3 => exact ⟨_, rfl⟩
  · obtain ⟨D, I, H⟩ := id C
    refine' enter [("clip", .ref x), ("x", .int a ta), ("y", .int b tb)] ?ho ?hcd ?hb ?hkd ?hok ?hnd ?c2 ?c3 ?c4 (fun _ h => nomatch h) ?_
    walk_at "pf enter"
    refine lift8 (i1 := Pf.nA) (i7 := Pf.nS) ?_; refine (?x62 : ∀ a0 a1 a2 a3 a4 a5 a6 a7, Ap8 _ a0 a1 a2 a3 a4 a5 a6 a7) _ _ _ _ _ _ _ _; intro A base g h₁ tk₁ L s Q; refine Ap8.mk ?_
    intro hd hu X T U Z S hret
    walk_at "pf go"
    refine' At.call (clip_alpha_m w r x ls fs a b ta tb C Ly) ?hz ?hS ?hs ?hU ?hd ?hu ?_
    walk_at "pf sides"
    rintro v h' tk' r' Z' S' _ fr P
    (try dsimp only)
    walk_at "pf go"
    refine' hret _ _ _ _ _ ?e1 ?e2 ?e3
    case e1 => assumption
    case e2 => assumption
    case e3 => exact P
theorem clipped_none (w : World) (r : Heap) (y : Addr) : Call w r [] (.ref 220) [.none, .ref y] 4 (fun v r' => ∃ x, v = .ref x ∧ ClipC r' x [y]) := by
  revert w r y
  refine lift3 (i1 := Pf.nW) ?_; refine (?x58 : ∀ a0 a1 a2, Ap3 _ a0 a1 a2) _ _ _; intro w r y; refine Ap3.mk ?_
  refine' enter [("clip", .none), ("layer", .ref y)] ?ho ?hcd ?hb ?hkd ?hok ?hnd ?c2 ?c3 ?c4 (fun _ h => nomatch h) ?_
  walk_at "pf enter"
  refine lift8 (i1 := Pf.nA) (i7 := Pf.nS) ?_; refine (?x63 : ∀ a0 a1 a2 a3 a4 a5 a6 a7, Ap8 _ a0 a1 a2 a3 a4 a5 a6 a7) _ _ _ _ _ _ _ _; intro A base g h₁ tk₁ L s Q; refine Ap8.mk ?_
  intro hd hu X T U Z S hret
  walk_at "pf go"
  rename_i a2 h2 r2 Z2 R2 S2 s2 f2 f2'
  refine' At.call (clip_make w r2 a2 [y] R2 (by simp)) ?hz ?hS ?hs ?hU ?hd ?hu ?_
  walk_at "pf sides"
  rintro v h' tk' r' Z' S' _ fr ⟨x', rfl, C'⟩
  (try dsimp only)
  walk_at "pf go"
  refine' hret _ _ _ _ _ ?e1 ?e2 ?e3
  case e1 => assumption
  case e2 => assumption
  case e3 => exact ⟨x', rfl, C'⟩
theorem clipped_some (w : World) (r : Heap) (x y : Addr) (ls : List Addr) (C : ClipC r x ls) (hz : ls.length ≤ 5) : Call w r [] (.ref 220) [.ref x, .ref y] 4 (fun v r' => ∃ x', v = .ref x' ∧ ClipC r' x' (ls ++ [y])) := by
  revert C hz
  revert w r x y ls
  refine lift5 (i1 := Pf.nW) ?_; refine (?x59 : ∀ a0 a1 a2 a3 a4, Ap5 _ a0 a1 a2 a3 a4) _ _ _ _ _; intro w r x y ls; refine Ap5.mk ?_
  intro C hz
  refine mpI (id C) ?_
  walk_at "pf D"
  rename_i D
  walk_at "pf D"
  rename_i I
  intro H
  refine' enter [("clip", .ref x), ("layer", .ref y)] ?ho ?hcd ?hb ?hkd ?hok ?hnd ?c2 ?c3 ?c4 (fun _ h => nomatch h) ?_
  walk_at "pf enter"
  refine lift8 (i1 := Pf.nA) (i7 := Pf.nS) ?_; refine (?x64 : ∀ a0 a1 a2 a3 a4 a5 a6 a7, Ap8 _ a0 a1 a2 a3 a4 a5 a6 a7) _ _ _ _ _ _ _ _; intro A base g h₁ tk₁ L s Q; refine Ap8.mk ?_
  intro hd hu X T U Z S hret
  walk_at "pf go"
  refine' At.call (within_spec w r x y ls C hz) ?hz ?hS ?hs ?hU ?hd ?hu ?_
  walk_at "pf sides"
  rintro v h' tk' r' Z' S' _ fr ⟨x', rfl, C'⟩
  (try dsimp only)
  walk_at "pf go"
  refine' hret _ _ _ _ _ ?e1 ?e2 ?e3
  case e1 => assumption
  case e2 => assumption
  case e3 => exact ⟨x', rfl, C'⟩
theorem clf_bounds {fs : List (Int → Int → Int)} {a b : Int} (h : ∀ f ∈ fs, 0 ≤ f a b ∧ f a b ≤ 255) : 0 ≤ clf fs a b ∧ clf fs a b ≤ 255 := by
  have : ∀ (fs : List (Int → Int → Int)) (acc : Int), (∀ f ∈ fs, 0 ≤ f a b ∧ f a b ≤ 255) → 0 ≤ acc → acc ≤ 255 → 0 ≤ fs.foldl (fun acc f => wt acc (f a b)) acc ∧ fs.foldl (fun acc f => wt acc (f a b)) acc ≤ 255 := by
    intro fs
    induction fs with
    | nil => intro acc _ h1 h2; exact ⟨h1, h2⟩
    | cons f fs ih =>
      intro acc h h1 h2
      rw [List.foldl_cons]
      have hf := h f (List.mem_cons_self)
      exact ih _ (fun g hg => h g (List.mem_cons_of_mem _ hg)) (wt_nonneg h1 hf.1) (wt_le h1 h2 hf.2)
  exact this fs 255 h (by decide) (by decide)
theorem ClipV.bounds {w : World} {r : Heap} {v : Value} {fs : List (Int → Int → Int)} (C : ClipV w r v fs) (a b : Int) : 0 ≤ clf fs a b ∧ clf fs a b ≤ 255 := by
  refine clf_bounds fun f hf => ?_
  rcases C with ⟨_, rfl⟩ | ⟨x, ls, _, _, Ly⟩
  · cases hf
  · obtain ⟨i, e⟩ := List.mem_iff_getElem?.mp hf
    have hi : i < ls.length := by rw [Ly.1]; exact (List.getElem?_eq_some_iff.mp e).1
    exact (Ly.2 i _ f (List.getElem?_eq_getElem hi) e).1 a b

theorem flat_spec (w : World) (r : Heap) (v : Value) (fs : List (Int → Int → Int)) (l t wd ht : Int) (t1 t2 t3 t4 : Tok) (C : ClipV w r v fs) (w1 : 0 ≤ wd) (w2 : wd ≤ 100) (h1 : 0 ≤ ht) (h2 : ht ≤ 100) (l1 : -1000 ≤ l) (l2 : l ≤ 1000) (u1 : -1000 ≤ t) (u2 : t ≤ 1000) :
    Call w r [] (.ref 227) [v, .int l t1, .int t t2, .int wd t3, .int ht t4] 6 (fun v r' => ∃ x, v = .ref x ∧ Lay w r' x (fun a b => if inb l t wd ht a b then clf fs a b else 0)) := by
  revert C w1 w2 h1 h2 l1 l2 u1 u2
  revert w r v fs l t wd ht t1 t2 t3 t4
  refine lift12 (i1 := Pf.nW) ?_; refine (?x60 : ∀ a0 a1 a2 a3 a4 a5 a6 a7 a8 a9 a10 a11, Ap12 _ a0 a1 a2 a3 a4 a5 a6 a7 a8 a9 a10 a11) _ _ _ _ _ _ _ _ _ _ _ _; intro w r v fs l t wd ht t1 t2 t3 t4; refine Ap12.mk ?_
  intro C w1 w2 h1 h2 l1 l2 u1 u2
  refine' enter [("clip", v), ("left", .int l t1), ("top", .int t t2), ("width", .int wd t3), ("height", .int ht t4)] ?ho ?hcd ?hb ?hkd ?hok ?hnd ?c2 ?c3 ?c4 (fun _ h => nomatch h) ?_
  walk_at "pf enter"
  refine lift8 (i1 := Pf.nA) (i7 := Pf.nS) ?_; refine (?x65 : ∀ a0 a1 a2 a3 a4 a5 a6 a7, Ap8 _ a0 a1 a2 a3 a4 a5 a6 a7) _ _ _ _ _ _ _ _; intro A base g h₁ tk₁ L s Q; refine Ap8.mk ?_
  intro hd hu X T U Z S hret
  walk_at "pf go"
  refine' At.call (map_make w r l t wd ht t1 t2 t3 t4 w1 w2 h1 h2) ?hz ?hS ?hs ?hU ?hd ?hu ?_
  walk_at "pf sides"
  rintro v' h' tk' r1 Z1 S1 _ fr ⟨x, rs, rfl, Am, hrs⟩
  (try dsimp only)
  have hfr : ∀ a ∈ rs, a ∈ ([] : List Addr) ∨ r.get? a = none := fun a ha => .inr (hrs a ha)
  walk_at "pf go"
  rename_i rr hh tkk vv Zr nr Rr sr
  have rsz : ∀ a b : Int, Builtin.Range.rangeSize a b 1 = ((b - a).toNat : Int) := size_to
  refine' for_range (n := (t + ht - t).toNat) Rr (small_one (by lia) (by lia) (by lia) (by lia)) (size_to _ _) Zr
    (fun i m' r' => (m' "found" = some (.ref x) ∧ m' "clip" = some v ∧ m' "left" = some (.int l t1) ∧ m' "width" = some (.int wd t3)) ∧ Step [] r r' ∧ ∃ F, AMap r' x rs l t wd ht F ∧ ∀ a b, inb l t wd ht a b → b < t + (i : Int) → F a b = clf fs a b) (fun _ _ => False)
    ⟨⟨rfl, rfl, rfl, rfl⟩, S1, _, Am, fun a b q q' => by obtain ⟨_, _, q3, _⟩ := q; lia⟩ ?turn ?done (fun _ _ _ _ _ h => h.elim)
  case done =>
    rintro m' r' h tk ⟨⟨e1, e2, e3, e4⟩, S', F, A', hF⟩ Z'
    clear Z Z1 Zr
    walk_at "pf go"
    refine hret _ _ _ _ _ (by assumption) S' ⟨x, rfl, fun a b => ?_, .inr ⟨rs, l, t, wd, ht, F, A', fun a b => ?_⟩⟩
    · dsimp only
      split
      · exact C.bounds a b
      · lia
    · dsimp only
      by_cases q : inb l t wd ht a b
      · rw [if_pos q, if_pos q]
        exact (hF a b q (by obtain ⟨_, _, q3, q4⟩ := q; lia)).symm
      · rw [if_neg q, if_neg q]
  case turn =>
    rintro i ti m₁ r₁ h tk gB QT kt hi ⟨⟨e1, e2, e3, e4⟩, S₁, F, A₁, hF⟩ hg Z₂
    have X₁ := X.keeps hg
    have T₁ := T.keeps hg
    have U₁ := U.mono hg
    clear X T U Z Z1 Zr
    walk_at "pf go"
    rename_i rr' hh' tkk' vv' Zr' nr' Rr' sr'
    refine' for_range (n := (l + wd - l).toNat) Rr' (small_one (by lia) (by lia) (by lia) (by lia)) (size_to _ _) Zr'
      (fun k m' r' => (m' "found" = some (.ref x) ∧ m' "clip" = some v ∧ m' "left" = some (.int l t1) ∧ m' "width" = some (.int wd t3) ∧ ∃ ty, m' "y" = some (.int (t + (i : Int)) ty)) ∧ Step [] r r' ∧ ∃ F, AMap r' x rs l t wd ht F ∧ ∀ a b, inb l t wd ht a b → b < t + (i : Int) ∨ (b = t + (i : Int) ∧ a < l + (k : Int)) → F a b = clf fs a b) (fun _ _ => False)
      ⟨⟨by walk_at "pf nm", by walk_at "pf nm", by walk_at "pf nm", by walk_at "pf nm", ti, by rw [show t + (i : Int) = t + (i : Int) * 1 by lia]; exact upd_eq⟩, S₁, F, A₁, fun a b q q' => hF a b q (by obtain ⟨q1, _, _, _⟩ := q; lia)⟩ ?turn2 ?done2 (fun _ _ _ _ _ h => h.elim)
    case done2 =>
      rintro m' r' h tk ⟨⟨e1, e2, e3, e4, _⟩, S', F', A', hF'⟩ Z'
      clear Z₂ Zr'
      walk_at "pf go"
      refine TurnEnd.kon kt (by assumption) ⟨⟨e1, e2, e3, e4⟩, S', F', A', fun a b q q' => hF' a b q ?_⟩
      obtain ⟨q1, q2, q3, q4⟩ := q
      lia
    case turn2 =>
      rintro k tk' m₂ r₂ h tk gC QT kt hk ⟨⟨e1, e2, e3, e4, ty, e5⟩, S₂, F', A₂, hF'⟩ hgC Z₃
      have X₂ := X₁.keeps hgC
      have T₂ := T₁.keeps hgC
      have U₂ := U₁.mono hgC
      obtain ⟨f0, D0, q1, q2, q3, q4, kf, nf, I3, _⟩ := A₂.2.1
      have I3' := I3.up kf
      clear X₁ T₁ U₁ Z₂ Zr'
      walk_at "pf go"
      refine' At.call (alpha_of w r₂ v fs (l + (k : Int) * 1) (t + (i : Int)) tk' ty (C.up S₂.nil)) ?hz ?hS ?hs ?hU ?hd ?hu ?_
      walk_at "pf sides"
      rintro v2 h' tk2 r' Z' S' Lc fr' ⟨tt, rfl⟩
      (try dsimp only)
      walk_at "pf go"
      refine' At.call (put_spec w r' x rs l t wd ht F' (l + (k : Int) * 1) (t + (i : Int)) _ tk' ty tt (A₂.up (Step.nil Lc)) (by unfold inb; lia) (C.bounds _ _).1 (C.bounds _ _).2) ?hz ?hS ?hs ?hU ?hd ?hu ?_
      walk_at "pf sides"
      rintro v3 h' tk3 r'' Z'' S'' Lc2 fr2 A''
      (try dsimp only)
      walk_at "pf go"
      refine TurnEnd.kon kt (by assumption) ⟨⟨by walk_at "pf nm", by walk_at "pf nm", by walk_at "pf nm", by walk_at "pf nm", ty, by walk_at "pf nm"⟩, S'', _, A'', fun a b q q' => ?_⟩
      unfold updF
      by_cases z : a = l + (k : Int) * 1 ∧ b = t + (i : Int)
      · rw [if_pos z, z.1, z.2]
      · rw [if_neg z]
        refine hF' a b q ?_
        lia
/-! ## canvases -/
noncomputable def only (r : Heap) (as : List Addr) : Heap := mkHeap r.objs.size fun a => if as.contains a then r.get? a else none
theorem get_only (r : Heap) (as : List Addr) (a : Addr) : (only r as).get? a = if as.contains a then r.get? a else none := by
  refine get_mk (fun a o e => ?_) a
  split at e
  · exact ⟨Heap.lt_size e, (Heap.get?_some_iff.mp e).2⟩
  · cases e
theorem only_stays {r : Heap} {as : List Addr} : (only r as).StaysIn r := fun a o e => by
  rw [get_only] at e; split at e
  · exact e
  · cases e
theorem only_none {r : Heap} {as : List Addr} {a : Addr} (h : a ∉ as) : (only r as).get? a = none := by rw [get_only, if_neg (by simpa using h)]
theorem only_get {r : Heap} {as : List Addr} {a : Addr} {o : Obj} (e : r.get? a = some o) (h : a ∈ as) : (only r as).get? a = some o := by rw [get_only, if_pos (by simpa using h)]; exact e
theorem only_some {r : Heap} {as : List Addr} {a : Addr} {o : Obj} (e : (only r as).get? a = some o) : a ∈ as := by
  rw [get_only] at e; split at e
  · rename_i h; simpa using h
  · cases e
noncomputable def CSk (r : Heap) (x : Addr) (rs : List Addr) (l t wd ht : Int) : Prop :=
  (1 ≤ wd ∧ wd ≤ 100 ∧ 1 ≤ ht ∧ ht ≤ 100 ∧ -1000 ≤ l ∧ l ≤ 1000 ∧ -1000 ≤ t ∧ t ≤ 1000) ∧ ∃ D t1 t2 t3 t4, Inst r x 296 [("width", .int wd t1), ("height", .int ht t2), ("left", .int l t3), ("top", .int t t4), ("cells", .ref D)] ∧ isL r D (rs.map .ref)
theorem CSk.up {r r' : Heap} {x : Addr} {rs : List Addr} {l t wd ht : Int} (c : CSk r x rs l t wd ht) (k : r.StaysIn r') : CSk r' x rs l t wd ht := by
  obtain ⟨b, D, t1, t2, t3, t4, i, d⟩ := c
  exact ⟨b, D, t1, t2, t3, t4, i.up k, d.up k⟩
noncomputable def Cells (r : Heap) (rs : List Addr) (l t wd ht : Int) (F : Int → Int → C4) : Prop := Grid r rs wd.toNat ht.toNat (fun i j v => Col r v (F (l + (j : Int)) (t + (i : Int))))
theorem Cells.step {as : List Addr} {r r' : Heap} {rs : List Addr} {l t wd ht : Int} {F : Int → Int → C4} (c : Cells r rs l t wd ht F) (S : Step as r r') (n : ∀ a ∈ rs, a ∉ as) : Cells r' rs l t wd ht F :=
  c.imp (fun a vs h q => q.step S (n a h)) fun _ _ _ _ _ q => q.step S
theorem Cells.ext {r : Heap} {rs : List Addr} {l t wd ht : Int} {F F' : Int → Int → C4} (c : Cells r rs l t wd ht F) (h : ∀ a b, inb l t wd ht a b → F a b = F' a b) : Cells r rs l t wd ht F' :=
  c.imp (fun _ _ _ q => q) fun i j v hi hj q => by rw [← h _ _ (by unfold inb; lia)]; exact q
theorem canvas_init (w : World) (r : Heap) (x dx : Addr) (l t wd ht : Int) (t1 t2 t3 t4 : Tok) (M : Mk r x 296 dx []) (w1 : 1 ≤ wd) (w2 : wd ≤ 100) (h1 : 1 ≤ ht) (h2 : ht ≤ 100) :
    Call w r [dx] (.ref 241) [.ref x, .int wd t1, .int ht t2, .int l t3, .int t t4] 1 (fun v r' => v = .none ∧ ∃ rs D k1 k2 k3 k4 k5 tk1 tk2 tk3 tk4 tk5,
      Mk r' x 296 dx [("width", k1, tk1, .int wd t1), ("height", k2, tk2, .int ht t2), ("left", k3, tk3, .int l t3), ("top", k4, tk4, .int t t4), ("cells", k5, tk5, .ref D)] ∧ isL r' D (rs.map .ref) ∧ r.get? D = none ∧ D ∉ rs ∧ (∀ a ∈ rs, r.get? a = none) ∧ Cells r' rs l t wd ht (fun _ _ => zero4)) := by
  revert M w1 w2 h1 h2
  revert w r x dx l t wd ht t1 t2 t3 t4
  refine lift12 (i1 := Pf.nW) ?_; refine (?x66 : ∀ a0 a1 a2 a3 a4 a5 a6 a7 a8 a9 a10 a11, Ap12 _ a0 a1 a2 a3 a4 a5 a6 a7 a8 a9 a10 a11) _ _ _ _ _ _ _ _ _ _ _ _; intro w r x dx l t wd ht t1 t2 t3 t4; refine Ap12.mk ?_
  intro M w1 w2 h1 h2
  refine' enter [("self", .ref x), ("width", .int wd t1), ("height", .int ht t2), ("left", .int l t3), ("top", .int t t4)] ?ho ?hcd ?hb ?hkd ?hok ?hnd ?c2 ?c3 ?c4 (fun a ha => by rw [List.mem_singleton.mp ha]; exact ⟨_, M.d.choose_spec⟩) ?_
  walk_at "pf enter"
  refine lift8 (i1 := Pf.nA) (i7 := Pf.nS) ?_; refine (?x67 : ∀ a0 a1 a2 a3 a4 a5 a6 a7, Ap8 _ a0 a1 a2 a3 a4 a5 a6 a7) _ _ _ _ _ _ _ _; intro A base g h₁ tk₁ L s Q; refine Ap8.mk ?_
  intro hd hu X T U Z S hret
  walk_at "pf go"
  rename_i hm rm km tkm Zm Mm Sm lm rr hh tkk uu vv Zr nr Rr sr
  refine' comp_range (n := (ht - 0).toNat) Rr (small_one (by lia) (by lia) (by lia) (by lia)) (size_to 0 ht) (by rw [sizeLine_eq]; lia) Zr
    (fun i r' ys => ∃ rs, ys = rs.map .ref ∧ rs.length = i ∧ Fresh rm r' rs (fun _ r' a => ∃ vs, isR r' a vs ∧ vs.length = wd.toNat ∧ ∀ (j : Nat) (v : Value), vs[j]? = some v → v = .ref 228) ∧ Step [] rm r') ⟨[], rfl, rfl, ⟨.nil, fun _ _ e => by simp at e⟩, Step.refl _ _⟩ ?turn ?done
  case turn =>
    rintro i ti r₁ ys h tk gB C mC hi ⟨rs, rfl, hl, F, S₁⟩ hg Z₁ hcl U₁
    have e1 : mC "width" = some (.int wd t1) := (hcl "width" _ rfl).trans rfl
    have X₁ := X.keeps hg
    have T₁ := T.keeps hg
    clear U X T Z Zr Zm
    walk_at "pf go"
    rename_i a0 h0 r0 Z0 R0 S0 s0 f0 f0' a' h' r' Z' R' S' s' f' f''
    have k₂ : r₁.StaysIn r' := StaysIn.trans s0 s'
    refine ElemEnd.mk Z' ⟨rs ++ [a'], by simp, by simp [hl], F.snoc (fun b hb => ?_) (none_of_stays s0 f') f'' ⟨_, R'.row, by simp, fun j v q => ?_⟩ ?_, S'⟩
    · obtain ⟨j, q⟩ := List.mem_iff_getElem?.mp hb
      obtain ⟨_, ⟨o, q1, _⟩, _⟩ := (F.2 j b q).2
      exact ⟨o, q1⟩
    · obtain ⟨_, q⟩ := List.getElem?_eq_some_iff.mp q
      rw [List.getElem_replicate] at q
      exact q.symm
    · rintro _ b _ ⟨vs, q1, q2⟩
      exact ⟨vs, q1.up k₂, q2⟩
  case done =>
    rintro D k ys r₁ h tk ⟨rs, rfl, hl, F, S₁⟩ hlen hD hrD Z₁
    have S₂ : Step [dx] r (put r₁ D (listO (rs.map .ref) k)) := (Sm.then S₁ (fun a ha => nomatch ha)).then (bs := []) (step_new hrD) (fun a ha => nomatch ha)
    have kk : rm.StaysIn (put r₁ D (listO (rs.map .ref) k)) := StaysIn.trans S₁.nil (stays_put hrD)
    have M₂ := Mm.up kk
    dsimp only [useM] at Z₁
    clear Z Zr Zm
    walk_at "pf go"
    rename_i h' r' k' tk' Z' M' S' l'
    have frs : ∀ a ∈ rs, rm.get? a = none ∧ ∃ vs, isR r₁ a vs ∧ vs.length = wd.toNat ∧ ∀ (j : Nat) (v : Value), vs[j]? = some v → v = .ref 228 := fun a ha => by
      obtain ⟨i, e⟩ := List.mem_iff_getElem?.mp ha
      exact F.2 i a e
    have Do : D ∉ rs := fun z => by obtain ⟨_, vs, ⟨o, q, _⟩, _⟩ := frs D z; rw [hrD] at q; cases q
    have Dd : D ≠ dx := by rintro rfl; obtain ⟨n, q⟩ := Mm.d; rw [S₁.nil _ _ q] at hrD; cases hrD
    refine hret _ _ _ _ _ Z' S' ⟨rfl, rs, D, _, _, _, _, _, _, _, _, _, _, M', (isL_put r₁ D (rs.map .ref) k).step l' (by simpa using Dd), Sm.sub _ (none_of_stays S₁.nil hrD), Do, fun a ha => Sm.sub _ (frs a ha).1, by simpa using hl, F.1, fun i a e => ?_⟩
    obtain ⟨q0, vs, q1, q2, q3⟩ := F.2 i a e
    refine ⟨vs, (q1.up (stays_put hrD)).step l' ?_, q2, fun j v q => ⟨228, q3 j v q, .inr ⟨rfl, rfl⟩⟩⟩
    rintro z
    rw [List.mem_singleton.mp z] at q0
    obtain ⟨n, q⟩ := Mm.d
    rw [q] at q0; cases q0
/-- a new canvas -/
noncomputable def NewCanvas (w : World) (r : Heap) (l t wd ht : Int) (v : Value) (r' : Heap) : Prop :=
  ∃ x rs f, v = .ref x ∧ f.StaysIn r' ∧ CSk f x rs l t wd ht ∧ (∀ a ∈ rs, f.get? a = none ∧ r.get? a = none) ∧ (∀ a o, f.get? a = some o → r.get? a = none) ∧ Cells r' rs l t wd ht (fun _ _ => zero4)
theorem canvas_make (w : World) (r : Heap) (l t wd ht : Int) (t1 t2 t3 t4 : Tok) (w1 : 1 ≤ wd) (w2 : wd ≤ 100) (h1 : 1 ≤ ht) (h2 : ht ≤ 100) (l1 : -1000 ≤ l) (l2 : l ≤ 1000) (u1 : -1000 ≤ t) (u2 : t ≤ 1000) :
    Call w r [] (.ref 296) [.int wd t1, .int ht t2, .int l t3, .int t t4] 2 (NewCanvas w r l t wd ht) :=
  Call.make (fun _ h => nomatch h) (by k_is) (by k_is) (by k_is) fun r₁ x dx hk M hx hd => (canvas_init w r₁ x dx l t wd ht t1 t2 t3 t4 M w1 w2 h1 h2).post fun v r' _ h => by
    obtain ⟨e, rs, D, k1, k2, k3, k4, k5, tk1, tk2, tk3, tk4, tk5, M', hD, hD0, hDr, hrs, hc⟩ := h
    obtain ⟨n, q⟩ := M.d
    have hxr : x ∉ rs := fun z => by have := hrs x z; rw [M.x] at this; cases this
    have hdr : dx ∉ rs := fun z => by have := hrs dx z; rw [q] at this; cases this
    have Mo : Mk (only r' [x, dx, D]) x 296 dx _ := ⟨only_get M'.x (by simp), let ⟨n, q⟩ := M'.d; ⟨n, only_get q (by simp)⟩⟩
    refine ⟨e, x, rs, only r' [x, dx, D], rfl, only_stays, ⟨⟨w1, w2, h1, h2, l1, l2, u1, u2⟩, D, _, _, _, _, Mo.inst, let ⟨n, q⟩ := hD; ⟨n, only_get q (by simp)⟩⟩, fun a ha => ⟨only_none ?_, none_of_stays hk (hrs a ha)⟩, fun a o e => ?_, hc⟩
    · intro z
      simp only [List.mem_cons, List.not_mem_nil, or_false] at z
      rcases z with rfl | rfl | rfl
      · exact hxr ha
      · exact hdr ha
      · exact hDr ha
    · have z := only_some e
      simp only [List.mem_cons, List.not_mem_nil, or_false] at z
      rcases z with rfl | rfl | rfl
      · exact hx
      · exact hd
      · exact none_of_stays hk hD0
theorem cholds_spec (w : World) (r : Heap) (x : Addr) (rs : List Addr) (l t wd ht : Int) (a b : Int) (ta tb : Tok) (K : CSk r x rs l t wd ht) :
    Call w r [] (.ref 248) [.ref x, .int a ta, .int b tb] 1 (fun v r' => r = r' ∧ v = .bool (decide (inb l t wd ht a b))) := by
  revert K
  revert w r x rs l t wd ht a b ta tb
  refine lift12 (i1 := Pf.nW) ?_; refine (?x68 : ∀ a0 a1 a2 a3 a4 a5 a6 a7 a8 a9 a10 a11, Ap12 _ a0 a1 a2 a3 a4 a5 a6 a7 a8 a9 a10 a11) _ _ _ _ _ _ _ _ _ _ _ _; intro w r x rs l t wd ht a b ta tb; refine Ap12.mk ?_
  intro K
  revert K
  walk_at "pf D"
  walk_at "pf D"
  rename_i D
  walk_at "pf D"
  rename_i t1
  walk_at "pf D"
  rename_i t2
  walk_at "pf D"
  rename_i t3
  walk_at "pf D"
  rename_i t4
  walk_at "pf D"
  rename_i I
  intro _
  refine' enter [("self", .ref x), ("x", .int a ta), ("y", .int b tb)] ?ho ?hcd ?hb ?hkd ?hok ?hnd ?c2 ?c3 ?c4 (fun _ h => nomatch h) ?_
  walk_at "pf enter"
  refine lift8 (i1 := Pf.nA) (i7 := Pf.nS) ?_; refine (?x74 : ∀ a0 a1 a2 a3 a4 a5 a6 a7, Ap8 _ a0 a1 a2 a3 a4 a5 a6 a7) _ _ _ _ _ _ _ _; intro A base g h₁ tk₁ L s Q; refine Ap8.mk ?_
  intro hd hu X T U Z S hret
  walk_at "pf go"
  all_goals (refine' hret _ _ _ _ _ (by assumption) (by assumption) ⟨rfl, congrArg Value.bool (decide_eq_decide.mpr ?_)⟩; (try simp only [decide_eq_true_eq, decide_eq_false_iff_not, Bool.not_eq_true] at *); (try unfold inb); lia)
theorem cget_spec (w : World) (r : Heap) (x : Addr) (rs : List Addr) (l t wd ht : Int) (F : Int → Int → C4) (a b : Int) (ta tb : Tok) (K : CSk r x rs l t wd ht) (G : Cells r rs l t wd ht F) :
    Call w r [] (.ref 255) [.ref x, .int a ta, .int b tb] 2 (fun v r' => r = r' ∧ Col r v (if inb l t wd ht a b then F a b else zero4)) := by
  revert K G
  revert w r x rs l t wd ht F a b ta tb
  refine lift13 (i1 := Pf.nW) ?_; refine (?x69 : ∀ a0 a1 a2 a3 a4 a5 a6 a7 a8 a9 a10 a11 a12, Ap13 _ a0 a1 a2 a3 a4 a5 a6 a7 a8 a9 a10 a11 a12) _ _ _ _ _ _ _ _ _ _ _ _ _; intro w r x rs l t wd ht F a b ta tb; refine Ap13.mk ?_
  intro K G
  have K' := K
  revert K
  refine andI ?_
  walk_at "pf D"
  rename_i w1
  walk_at "pf D"
  rename_i w2
  walk_at "pf D"
  rename_i h1
  walk_at "pf D"
  rename_i h2
  walk_at "pf D"
  rename_i l1
  walk_at "pf D"
  rename_i l2
  walk_at "pf D"
  rename_i u1
  intro u2
  walk_at "pf D"
  rename_i D
  walk_at "pf D"
  rename_i t1
  walk_at "pf D"
  rename_i t2
  walk_at "pf D"
  rename_i t3
  walk_at "pf D"
  rename_i t4
  walk_at "pf D"
  rename_i I
  intro hD
  refine' enter [("self", .ref x), ("x", .int a ta), ("y", .int b tb)] ?ho ?hcd ?hb ?hkd ?hok ?hnd ?c2 ?c3 ?c4 (fun _ h => nomatch h) ?_
  walk_at "pf enter"
  refine lift8 (i1 := Pf.nA) (i7 := Pf.nS) ?_; refine (?x75 : ∀ a0 a1 a2 a3 a4 a5 a6 a7, Ap8 _ a0 a1 a2 a3 a4 a5 a6 a7) _ _ _ _ _ _ _ _; intro A base g h₁ tk₁ L s Q; refine Ap8.mk ?_
  intro hd hu X T U Z S hret
  walk_at "pf go"
  refine' At.call (cholds_spec w r x rs l t wd ht a b ta tb K') ?hz ?hS ?hs ?hU ?hd ?hu ?_
  walk_at "pf sides"
  rintro v h' tk' r' Z' S' _ fr ⟨rfl, rfl⟩
  (try dsimp only)
  by_cases q : inb l t wd ht a b
  · rw [decide_eq_true q]
    have q0 := q
    obtain ⟨q1, q2, q3, q4⟩ := q
    obtain ⟨ra, vs, v, e1, e2, e3, e4, e5, pv, _⟩ := Grid.at G (i := (b - t).toNat) (j := (a - l).toNat) (by lia) (by lia)
    rw [show l + ((a - l).toNat : Int) = a by lia, show t + ((b - t).toNat : Int) = b by lia] at pv
    walk_at "pf go"
    refine' hret _ _ _ _ _ ?e1 ?e2 ?e3
    case e1 => assumption
    case e2 => assumption
    case e3 => exact ⟨rfl, by rw [if_pos q0]; exact pv⟩
  · rw [decide_eq_false q]
    walk_at "pf go"
    refine' hret _ _ _ _ _ ?e1 ?e2 ?e3
    case e1 => assumption
    case e2 => assumption
    case e3 => exact ⟨rfl, by rw [if_neg q]; exact ⟨228, rfl, .inr ⟨rfl, rfl⟩⟩⟩
theorem cput_spec (w : World) (r : Heap) (x : Addr) (rs : List Addr) (l t wd ht : Int) (F : Int → Int → C4) (a b : Int) (c : C4) (v : Value) (ta tb : Tok) (K : CSk r x rs l t wd ht) (G : Cells r rs l t wd ht F) (q : inb l t wd ht a b) (hc : Col r v c) :
    Call w r rs (.ref 262) [.ref x, .int a ta, .int b tb, v] 2 (fun _ r' => Cells r' rs l t wd ht (updF F a b c)) := by
  revert K G q hc
  revert w r x rs l t wd ht F a b c v ta tb
  refine lift15 (i1 := Pf.nW) ?_; refine (?x70 : ∀ a0 a1 a2 a3 a4 a5 a6 a7 a8 a9 a10 a11 a12 a13 a14, Ap15 _ a0 a1 a2 a3 a4 a5 a6 a7 a8 a9 a10 a11 a12 a13 a14) _ _ _ _ _ _ _ _ _ _ _ _ _ _ _; intro w r x rs l t wd ht F a b c v ta tb; refine Ap15.mk ?_
  intro K G q hc
  have K' := K
  revert K
  refine andI ?_
  walk_at "pf D"
  rename_i w1
  walk_at "pf D"
  rename_i w2
  walk_at "pf D"
  rename_i h1
  walk_at "pf D"
  rename_i h2
  walk_at "pf D"
  rename_i l1
  walk_at "pf D"
  rename_i l2
  walk_at "pf D"
  rename_i u1
  intro u2
  walk_at "pf D"
  rename_i D
  walk_at "pf D"
  rename_i t1
  walk_at "pf D"
  rename_i t2
  walk_at "pf D"
  rename_i t3
  walk_at "pf D"
  rename_i t4
  walk_at "pf D"
  rename_i I
  intro hD
  refine' enter [("self", .ref x), ("x", .int a ta), ("y", .int b tb), ("colour", v)] ?ho ?hcd ?hb ?hkd ?hok ?hnd ?c2 ?c3 ?c4 (Grid.live G) ?_
  walk_at "pf enter"
  refine lift8 (i1 := Pf.nA) (i7 := Pf.nS) ?_; refine (?x73 : ∀ a0 a1 a2 a3 a4 a5 a6 a7, Ap8 _ a0 a1 a2 a3 a4 a5 a6 a7) _ _ _ _ _ _ _ _; intro A base g h₁ tk₁ L s Q; refine Ap8.mk ?_
  intro hd hu X T U Z S hret
  walk_at "pf go"
  refine' At.call (cholds_spec w r x rs l t wd ht a b ta tb K') ?hz ?hS ?hs ?hU ?hd ?hu ?_
  walk_at "pf sides"
  rintro v' h' tk' r' Z' S' _ fr ⟨rfl, rfl⟩
  (try dsimp only)
  rw [decide_eq_true q]
  obtain ⟨q1, q2, q3, q4⟩ := q
  obtain ⟨ra, vs, v0, e1, e2, e3, e4, e5, _, e6⟩ := Grid.at G (i := (b - t).toNat) (j := (a - l).toNat) (by lia) (by lia)
  have em : ra ∈ rs := List.mem_of_getElem? e1
  walk_at "pf go"
  rename_i h' r' Z' R' S' l'
  refine hret _ _ _ _ _ Z' S' (Grid.set G e1 e4 e6 R' l' (fun i' j' u hn hu => ?_) ?_)
  · unfold updF
    rw [if_neg (fun z => hn (by lia))]
    exact Col.step hu l'
  · unfold updF
    rw [if_pos (by lia)]
    exact hc.step l'
theorem like_spec (w : World) (r : Heap) (x : Addr) (rs : List Addr) (l t wd ht : Int) (K : CSk r x rs l t wd ht) :
    Call w r [] (.ref 286) [.ref x] 3 (NewCanvas w r l t wd ht) := by
  revert K
  revert w r x rs l t wd ht
  refine lift8 (i1 := Pf.nW) ?_; refine (?x71 : ∀ a0 a1 a2 a3 a4 a5 a6 a7, Ap8 _ a0 a1 a2 a3 a4 a5 a6 a7) _ _ _ _ _ _ _ _; intro w r x rs l t wd ht; refine Ap8.mk ?_
  intro K
  revert K
  refine andI ?_
  walk_at "pf D"
  rename_i w1
  walk_at "pf D"
  rename_i w2
  walk_at "pf D"
  rename_i h1
  walk_at "pf D"
  rename_i h2
  walk_at "pf D"
  rename_i l1
  walk_at "pf D"
  rename_i l2
  walk_at "pf D"
  rename_i u1
  intro u2
  walk_at "pf D"
  rename_i D
  walk_at "pf D"
  rename_i t1
  walk_at "pf D"
  rename_i t2
  walk_at "pf D"
  rename_i t3
  walk_at "pf D"
  rename_i t4
  walk_at "pf D"
  rename_i I
  intro hD
  refine' enter [("self", .ref x)] ?ho ?hcd ?hb ?hkd ?hok ?hnd ?c2 ?c3 ?c4 (fun _ h => nomatch h) ?_
  walk_at "pf enter"
  refine lift8 (i1 := Pf.nA) (i7 := Pf.nS) ?_; refine (?x76 : ∀ a0 a1 a2 a3 a4 a5 a6 a7, Ap8 _ a0 a1 a2 a3 a4 a5 a6 a7) _ _ _ _ _ _ _ _; intro A base g h₁ tk₁ L s Q; refine Ap8.mk ?_
  intro hd hu X T U Z S hret
  walk_at "pf go"
  refine' At.call (canvas_make w r l t wd ht _ _ _ _ w1 w2 h1 h2 l1 l2 u1 u2) ?hz ?hS ?hs ?hU ?hd ?hu ?_
  walk_at "pf sides"
  rintro v h' tk' r' Z' S' _ fr P
  (try dsimp only)
  walk_at "pf go"
  refine' hret _ _ _ _ _ ?e1 ?e2 ?e3
  case e1 => assumption
  case e2 => assumption
  case e3 => exact P
noncomputable def places (l t wd ht : Int) : List (Int × Int) := (List.range ht.toNat).flatMap fun (i : Nat) => (List.range wd.toNat).map fun (j : Nat) => (l + (j : Int), t + (i : Int))
noncomputable def PlacesAre (r : Heap) (vs : List Value) (ps : List (Int × Int)) : Prop := vs.length = ps.length ∧ ∀ (i : Nat) (v : Value) (p : Int × Int), vs[i]? = some v → ps[i]? = some p → ∃ a t u, v = .ref a ∧ isT r a [.int p.1 t, .int p.2 u]
theorem PlacesAre.step {as : List Addr} {r r' : Heap} {vs : List Value} {ps : List (Int × Int)} (P : PlacesAre r vs ps) (S : Step as r r') : PlacesAre r' vs ps := ⟨P.1, fun i v p h1 h2 => let ⟨a, t, u, e, q⟩ := P.2 i v p h1 h2; ⟨a, t, u, e, q.step S⟩⟩
theorem PlacesAre.append {r : Heap} {vs ws : List Value} {ps qs : List (Int × Int)} (P : PlacesAre r vs ps) (P' : PlacesAre r ws qs) : PlacesAre r (vs ++ ws) (ps ++ qs) := by
  refine ⟨by simp [P.1, P'.1], fun i v p h1 h2 => ?_⟩
  rcases Nat.lt_or_ge i vs.length with q | q
  · rw [List.getElem?_append_left q] at h1
    rw [List.getElem?_append_left (by rw [← P.1]; exact q)] at h2
    exact P.2 i v p h1 h2
  · rw [List.getElem?_append_right q] at h1
    rw [List.getElem?_append_right (by rw [← P.1]; exact q), ← P.1] at h2
    exact P'.2 _ v p h1 h2
theorem PlacesAre.nil {r : Heap} : PlacesAre r [] [] := ⟨rfl, fun i v p h => by simp at h⟩
theorem PlacesAre.one {r : Heap} {a : Addr} {x y : Int} {t u : Tok} (h : isT r a [.int x t, .int y u]) : PlacesAre r [.ref a] [(x, y)] := ⟨rfl, fun i v p h1 h2 => by
  cases i with
  | zero => simp at h1 h2; subst h1; subst h2; exact ⟨a, t, u, rfl, h⟩
  | succ i => simp at h1⟩
theorem places_spec (w : World) (r : Heap) (x : Addr) (rs : List Addr) (l t wd ht : Int) (K : CSk r x rs l t wd ht) :
    Call w r [] (.ref 279) [.ref x] 1 (fun v r' => ∃ D vs, v = .ref D ∧ isL r' D vs ∧ PlacesAre r' vs (places l t wd ht) ∧ r.get? D = none) := by
  revert K
  revert w r x rs l t wd ht
  refine lift8 (i1 := Pf.nW) ?_; refine (?x72 : ∀ a0 a1 a2 a3 a4 a5 a6 a7, Ap8 _ a0 a1 a2 a3 a4 a5 a6 a7) _ _ _ _ _ _ _ _; intro w r x rs l t wd ht; refine Ap8.mk ?_
  intro K
  revert K
  refine andI ?_
  walk_at "pf D"
  rename_i w1
  walk_at "pf D"
  rename_i w2
  walk_at "pf D"
  rename_i h1
  walk_at "pf D"
  rename_i h2
  walk_at "pf D"
  rename_i l1
  walk_at "pf D"
  rename_i l2
  walk_at "pf D"
  rename_i u1
  intro u2
  walk_at "pf D"
  rename_i D
  walk_at "pf D"
  rename_i t1
  walk_at "pf D"
  rename_i t2
  walk_at "pf D"
  rename_i t3
  walk_at "pf D"
  rename_i t4
  walk_at "pf D"
  rename_i I
  intro hD
  refine' enter [("self", .ref x)] ?ho ?hcd ?hb ?hkd ?hok ?hnd ?c2 ?c3 ?c4 (fun _ h => nomatch h) ?_
  walk_at "pf enter"
  refine lift8 (i1 := Pf.nA) (i7 := Pf.nS) ?_; refine (?x77 : ∀ a0 a1 a2 a3 a4 a5 a6 a7, Ap8 _ a0 a1 a2 a3 a4 a5 a6 a7) _ _ _ _ _ _ _ _; intro A base g h₁ tk₁ L s Q; refine Ap8.mk ?_
  intro hd hu X T U Z S hret
  walk_at "pf go"
  rename_i lx hA rA ZA RA SA sA fA fA' hB ZB rr hC tkC vC ZC nC RC sC
  refine' for_range (n := (t + ht - t).toNat) RC (small_one (by lia) (by lia) (by lia) (by lia)) (size_to _ _) ZC
    (fun i m' r' => m' "self" = some (.ref x) ∧ m' "found" = some (.ref lx) ∧ Step [] r r' ∧ ∃ vs, isL r' lx vs ∧ vs.length ≤ i * 100 ∧ PlacesAre r' vs ((List.range i).flatMap fun (i : Nat) => (List.range wd.toNat).map fun (j : Nat) => (l + (j : Int), t + (i : Int)))) (fun _ _ => False)
    ⟨rfl, rfl, SA, [], RA, by simp, .nil⟩ ?turn ?done (fun _ _ _ _ _ h => h.elim)
  case done =>
    rintro m' r' h tk ⟨e1, e2, S', vs, a1, a2, a3⟩ Z'
    clear Z ZA ZB ZC
    walk_at "pf go"
    rw [show (t + ht - t).toNat = ht.toNat by lia] at a3
    refine' hret _ _ _ _ _ ?e1 ?e2 ?e3
    case e1 => assumption
    case e2 => assumption
    case e3 => exact ⟨lx, vs, rfl, a1, a3, fA'⟩
  case turn =>
    rintro i ti m₁ r₁ h tk gB QT kt hi ⟨e1, e2, S₁, vs, R₁, a2, a3⟩ hg Z₁
    have X₁ := X.keeps hg
    have T₁ := T.keeps hg
    have U₁ := U.mono hg
    have I₁ := I.up S₁.nil
    clear X T U Z ZA ZB ZC
    walk_at "pf go"
    rename_i hE ZE rr' hC' tkC' vC' ZC' nC' RC' sC'
    refine' comp_range (n := (l + wd - l).toNat) RC' (small_one (by lia) (by lia) (by lia) (by lia)) (size_to _ _) (by rw [sizeLine_eq]; lia) ZC'
      (fun k r' ys => Step [] r₁ r' ∧ PlacesAre r' ys ((List.range k).map fun (j : Nat) => (l + (j : Int), t + (i : Int)))) ⟨Step.refl _ _, .nil⟩ ?turn2 ?done2
    case turn2 =>
      rintro k tk2 r₂ ys h tk' gC C mC hk ⟨S₂, hP⟩ hgC Z₂ hcl U₂
      have ey : mC "y" = some (.int (t + (i : Int) * 1) ti) := (hcl "y" _ rfl).trans upd_eq
      have X₂ := X₁.keeps hgC
      have T₂ := T₁.keeps hgC
      clear X₁ T₁ U₁ ZE ZC' Z₁
      walk_at "pf go"
      rename_i a' h' Z' n' t' s' f'
      obtain ⟨n, e⟩ := t'
      obtain ⟨r', Z₃, e₃, S₃, L₃, k₃⟩ := Z'.take n' e S₂
      refine ElemEnd.mk Z₃ ⟨S₃, ?_⟩
      rw [List.range_succ, List.map_append]
      refine (hP.step L₃).append ?_
      have := PlacesAre.one (r := r') (a := a') (x := l + (k : Int) * 1) (y := t + (i : Int) * 1) ⟨n, e₃⟩
      simpa using this
    case done2 =>
      rintro D' k ys r₂ h tk' ⟨S₂, hP⟩ hlen hD' hrD Z₂
      have S₃ : Step [] r (put r₂ D' (listO ys k)) := (S₁.trans S₂).trans (step_new hrD)
      have Rx : isL (put r₂ D' (listO ys k)) lx vs := (R₁.up S₂.nil).up (stays_put hrD)
      have Ry := isL_put r₂ D' ys k
      have hP' : PlacesAre (put r₂ D' (listO ys k)) vs _ := (a3.step S₂).step (as := []) (step_new hrD)
      have hP2 : PlacesAre (put r₂ D' (listO ys k)) ys _ := hP.step (as := []) (step_new hrD)
      dsimp only [useM] at Z₂
      clear ZE ZC' Z₁
      walk_at "pf go"
      rename_i h' r' Z' R' S' l'
      refine TurnEnd.kon kt Z' ⟨by walk_at "pf nm", by walk_at "pf nm", S', _, R', by simp; lia, ?_⟩
      rw [List.range_succ, List.flatMap_append]
      refine (hP'.step l').append ?_
      have := hP2.step l'
      rw [show (l + wd - l).toNat = wd.toNat by lia] at this
      simpa using this
/-! ## layers -/
theorem layers_init (w : World) (r : Heap) (x dx : Addr) (v : Value) (M : Mk r x 434 dx []) :
    Call w r [dx] (.ref 403) [.ref x, v] 1 (fun u r' => u = .none ∧ ∃ St k tk, Mk r' x 434 dx [("stack", k, tk, .ref St)] ∧ isL r' St [v] ∧ r.get? St = none) := by
  revert M
  revert w r x dx v
  refine lift5 (i1 := Pf.nW) ?_; refine (?x78 : ∀ a0 a1 a2 a3 a4, Ap5 _ a0 a1 a2 a3 a4) _ _ _ _ _; intro w r x dx v; refine Ap5.mk ?_
  intro M
  refine' enter [("self", .ref x), ("canvas", v)] ?ho ?hcd ?hb ?hkd ?hok ?hnd ?c2 ?c3 ?c4 (fun a ha => by rw [List.mem_singleton.mp ha]; exact ⟨_, M.d.choose_spec⟩) ?_
  walk_at "pf enter"
  refine lift8 (i1 := Pf.nA) (i7 := Pf.nS) ?_; refine (?x81 : ∀ a0 a1 a2 a3 a4 a5 a6 a7, Ap8 _ a0 a1 a2 a3 a4 a5 a6 a7) _ _ _ _ _ _ _ _; intro A base g h₁ tk₁ L s Q; refine Ap8.mk ?_
  intro hd hu X T U Z S hret
  walk_at "pf go"
  rename_i a1 h1 r1 Z1 R1 S1 s1 f1 f1' h' r' k' tk' Z' M' S' l'
  have hne : a1 ≠ dx := by rintro rfl; obtain ⟨n, q⟩ := M.d; rw [q] at f1; cases f1
  refine' hret _ _ _ _ _ ?e1 ?e2 ?e3
  case e1 => assumption
  case e2 => assumption
  case e3 => exact ⟨rfl, a1, _, _, M', R1.step l' (by simpa using hne), f1'⟩
theorem layers_make (w : World) (r : Heap) (v : Value) :
    Call w r [] (.ref 434) [v] 2 (fun u r' => ∃ x St f, u = .ref x ∧ f.StaysIn r' ∧ Inst f x 434 [("stack", .ref St)] ∧ isL r' St [v] ∧ r.get? St = none ∧ f.get? St = none ∧ ∀ a o, f.get? a = some o → r.get? a = none) :=
  Call.make (fun _ h => nomatch h) (by k_is) (by k_is) (by k_is) fun r₁ x dx hk M hx hd => (layers_init w r₁ x dx v M).post fun u r' _ h => by
    obtain ⟨e, St, k, tk, M', hL, hS⟩ := h
    obtain ⟨n, q⟩ := M.d
    have Mo : Mk (only r' [x, dx]) x 434 dx _ := ⟨only_get M'.x (by simp), let ⟨n, q⟩ := M'.d; ⟨n, only_get q (by simp)⟩⟩
    refine ⟨e, x, St, only r' [x, dx], rfl, only_stays, Mo.inst, hL, none_of_stays hk hS, only_none (fun z => ?_), fun a o e => ?_⟩
    · simp only [List.mem_cons, List.not_mem_nil, or_false] at z
      rcases z with rfl | rfl
      · rw [M.x] at hS; cases hS
      · rw [q] at hS; cases hS
    · have z := only_some e
      simp only [List.mem_cons, List.not_mem_nil, or_false] at z
      rcases z with rfl | rfl
      · exact hx
      · exact hd
theorem top_spec (w : World) (r : Heap) (x St : Addr) (vs : List Value) (v : Value) (I : Inst r x 434 [("stack", .ref St)]) (H : isL r St (vs ++ [v])) :
    Call w r [] (.ref 410) [.ref x] 1 (fun u r' => r = r' ∧ u = v) := by
  revert I H
  revert w r x St vs v
  refine lift6 (i1 := Pf.nW) ?_; refine (?x79 : ∀ a0 a1 a2 a3 a4 a5, Ap6 _ a0 a1 a2 a3 a4 a5) _ _ _ _ _ _; intro w r x St vs v; refine Ap6.mk ?_
  intro I H
  refine' enter [("self", .ref x)] ?ho ?hcd ?hb ?hkd ?hok ?hnd ?c2 ?c3 ?c4 (fun _ h => nomatch h) ?_
  walk_at "pf enter"
  refine lift8 (i1 := Pf.nA) (i7 := Pf.nS) ?_; refine (?x82 : ∀ a0 a1 a2 a3 a4 a5 a6 a7, Ap8 _ a0 a1 a2 a3 a4 a5 a6 a7) _ _ _ _ _ _ _ _; intro A base g h₁ tk₁ L s Q; refine Ap8.mk ?_
  intro hd hu X T U Z S hret
  walk_at "pf go"
  refine' item_last ?k1 ?_ ?k5
  case k1 => walk_at "pf see"
  case k5 => with_unfolding_all rfl
  (try dsimp only)
  refine' hret _ _ _ _ _ ?e1 ?e2 ?e3
  case e1 => assumption
  case e2 => assumption
  case e3 => exact ⟨rfl, rfl⟩
theorem depth_spec (w : World) (r : Heap) (x St : Addr) (vs : List Value) (I : Inst r x 434 [("stack", .ref St)]) (H : isL r St vs) (hz : vs.length ≤ 100) :
    Call w r [] (.ref 417) [.ref x] 1 (fun u r' => r = r' ∧ isInt ((vs.length : Int) - 1) u) := by
  revert I H hz
  revert w r x St vs
  refine lift5 (i1 := Pf.nW) ?_; refine (?x80 : ∀ a0 a1 a2 a3 a4, Ap5 _ a0 a1 a2 a3 a4) _ _ _ _ _; intro w r x St vs; refine Ap5.mk ?_
  intro I H hz
  refine' enter [("self", .ref x)] ?ho ?hcd ?hb ?hkd ?hok ?hnd ?c2 ?c3 ?c4 (fun _ h => nomatch h) ?_
  walk_at "pf enter"
  refine lift8 (i1 := Pf.nA) (i7 := Pf.nS) ?_; refine (?x83 : ∀ a0 a1 a2 a3 a4 a5 a6 a7, Ap8 _ a0 a1 a2 a3 a4 a5 a6 a7) _ _ _ _ _ _ _ _; intro A base g h₁ tk₁ L s Q; refine Ap8.mk ?_
  intro hd hu X T U Z S hret
  walk_at "pf go"
  refine' hret _ _ _ _ _ ?e1 ?e2 ?e3
  case e1 => assumption
  case e2 => assumption
  case e3 => exact ⟨rfl, _, rfl⟩
theorem push_spec (w : World) (r : Heap) (x St c : Addr) (vs : List Value) (rs : List Addr) (l t wd ht : Int) (f : Heap) (kf : f.StaysIn r) (hf : f.get? St = none) (I : Inst f x 434 [("stack", .ref St)]) (H : isL r St (vs ++ [.ref c])) (hz : vs.length ≤ 20) (K : CSk f c rs l t wd ht) :
    Call w r [St] (.ref 424) [.ref x] 4 (fun _ r' => ∃ n rn fn, isL r' St (vs ++ [.ref c] ++ [.ref n]) ∧ fn.StaysIn r' ∧ CSk fn n rn l t wd ht ∧ (∀ a ∈ rn, fn.get? a = none ∧ r.get? a = none) ∧ (∀ a o, fn.get? a = some o → r.get? a = none) ∧ Cells r' rn l t wd ht (fun _ _ => zero4)) := by
  revert kf hf I H hz K
  revert w r x St c vs rs l t wd ht f
  refine lift12 (i1 := Pf.nW) ?_; refine (?x84 : ∀ a0 a1 a2 a3 a4 a5 a6 a7 a8 a9 a10 a11, Ap12 _ a0 a1 a2 a3 a4 a5 a6 a7 a8 a9 a10 a11) _ _ _ _ _ _ _ _ _ _ _ _; intro w r x St c vs rs l t wd ht f; refine Ap12.mk ?_
  intro kf hf I H hz K
  have I' := I.up kf
  have K' := K.up kf
  refine mpI (id K') ?_
  walk_at "pf D"
  walk_at "pf D"
  rename_i D0
  walk_at "pf D"
  rename_i t1
  walk_at "pf D"
  rename_i t2
  walk_at "pf D"
  rename_i t3
  walk_at "pf D"
  rename_i t4
  walk_at "pf D"
  rename_i Ic
  intro _
  have hz' : (vs ++ [Value.ref c]).length ≤ 50 := by simp; lia
  refine mpI (id H) ?_
  walk_at "pf D"
  rename_i nS
  intro eS
  refine' enter [("self", .ref x)] ?ho ?hcd ?hb ?hkd ?hok ?hnd ?c2 ?c3 ?c4 (fun a ha => by rw [List.mem_singleton.mp ha]; exact ⟨_, eS⟩) ?_
  walk_at "pf enter"
  refine lift8 (i1 := Pf.nA) (i7 := Pf.nS) ?_; refine (?x85 : ∀ a0 a1 a2 a3 a4 a5 a6 a7, Ap8 _ a0 a1 a2 a3 a4 a5 a6 a7) _ _ _ _ _ _ _ _; intro A base g h₁ tk₁ L s Q; refine Ap8.mk ?_
  intro hd hu X T U Z S hret
  walk_at "pf go"
  refine' At.call (top_spec w r x St vs (.ref c) I' H) ?hz ?hS ?hs ?hU ?hd ?hu ?_
  walk_at "pf sides"
  rintro v h' tk' r1 Z1 S1 _ fr ⟨rfl, rfl⟩
  (try dsimp only)
  walk_at "pf go"
  refine' At.call (like_spec w r c rs l t wd ht K') ?hz ?hS ?hs ?hU ?hd ?hu ?_
  walk_at "pf sides"
  rintro v h' tk' r1 Z1 S1 L1 fr ⟨n, rn, fn, rfl, kn, Kn, hrn, hfn, Gn⟩
  (try dsimp only)
  have H1 : isL r1 St (vs ++ [.ref c]) := H.up (Step.nil L1)
  have hmem : St ∈ [St] := .head _
  walk_at "pf go"
  rename_i h' r' Z' R' S' l'
  refine hret _ _ _ _ _ (by assumption) S' ⟨n, rn, fn, R', Step.fz l' kn (fun a ha => ?_), Kn, hrn, hfn, Gn.step l' (fun a ha z => ?_)⟩
  · rw [List.mem_singleton.mp ha]
    cases q : fn.get? St with
    | none => rfl
    | some o => have := hfn _ _ q; rw [eS] at this; cases this
  · have := (hrn a ha).2
    rw [List.mem_singleton.mp z, eS] at this; cases this
theorem places_get {l t wd ht : Int} {p : Int × Int} : p ∈ places l t wd ht ↔ inb l t wd ht p.1 p.2 := by
  unfold places inb
  simp only [List.mem_flatMap, List.mem_range, List.mem_map]
  constructor
  · rintro ⟨i, hi, j, hj, rfl⟩
    dsimp only
    lia
  · rintro ⟨h1, h2, h3, h4⟩
    refine ⟨(p.2 - t).toNat, by lia, (p.1 - l).toNat, by lia, ?_⟩
    apply Prod.ext <;> dsimp only <;> lia
theorem places_nodup {l t wd ht : Int} : (places l t wd ht).Nodup := by
  unfold places List.Nodup
  rw [List.pairwise_flatMap]
  have rp : ∀ n, (List.range n).Pairwise (· ≠ ·) := fun n => List.nodup_range
  refine ⟨fun i _ => ?_, (rp _).imp ?_⟩
  · rw [List.pairwise_map]
    refine (rp _).imp ?_
    intro a b h e
    have := congrArg Prod.fst e
    dsimp only at this
    lia
  · intro a b h p h1 q h2 e
    obtain ⟨j, _, rfl⟩ := List.mem_map.mp h1
    obtain ⟨k, _, rfl⟩ := List.mem_map.mp h2
    have := congrArg Prod.snd e
    dsimp only at this
    lia
/-- the clip that a group ends by -/
noncomputable def CM (w : World) (f : Heap) (cv : Value) (co : Option (List (Int → Int → Int))) : Prop :=
  (cv = .none ∧ co = none) ∨ (∃ bm y ls fs, cv = .ref bm ∧ co = some fs ∧ f.get? bm = some (methodObj (.ref 199) (.ref y)) ∧ ClipC f y ls ∧ Lays w f ls fs ∧ ∀ p q, 0 ≤ clf fs p q ∧ clf fs p q ≤ 255)
noncomputable def alo (op : Int) (co : Option (List (Int → Int → Int))) (p q : Int) : Int := match co with
  | none => op
  | some fs => wt op (clf fs p q)
theorem CM.bounds {w : World} {f : Heap} {cv : Value} {co : Option (List (Int → Int → Int))} (c : CM w f cv co) {op : Int} (h1 : 0 ≤ op) (h2 : op ≤ 255) (p q : Int) : 0 ≤ alo op co p q ∧ alo op co p q ≤ 255 := by
  rcases c with ⟨_, rfl⟩ | ⟨bm, y, ls, fs, _, rfl, _, _, _, hb⟩
  · exact ⟨h1, h2⟩
  · exact ⟨wt_nonneg h1 (hb p q).1, wt_le h1 h2 (hb p q).2⟩
noncomputable def popG (md : Mode) (op : Int) (co : Option (List (Int → Int → Int))) (FA FB : Int → Int → C4) (ps : List (Int × Int)) : Int → Int → C4 := fun p q => if (p, q) ∈ ps then la md (FA p q) (alo op co p q) (FB p q) else FB p q
theorem pop_spec (w : World) (r : Heap) (x St a b : Addr) (vs : List Value) (rsA rsB : List Addr) (l t wd ht : Int) (FA FB : Int → Int → C4) (f : Heap) (kf : f.StaysIn r) (hf : ∀ y ∈ St :: rsB, f.get? y = none)
    (I : Inst f x 434 [("stack", .ref St)]) (H : isL r St (vs ++ [.ref b] ++ [.ref a])) (hz : vs.length ≤ 20) (Ka : CSk f a rsA l t wd ht) (Kb : CSk f b rsB l t wd ht) (GA : Cells r rsA l t wd ht FA) (GB : Cells r rsB l t wd ht FB)
    (hAB : ∀ y ∈ rsA, y ∉ rsB) (hSA : St ∉ rsA) (hSB : St ∉ rsB) (okA : ∀ p q, (FA p q).Ok) (okB : ∀ p q, (FB p q).Ok) (op : Int) (to tm : Tok) (o1 : 0 ≤ op) (o2 : op ≤ 255) (md : Mode) (cv : Value) (co : Option (List (Int → Int → Int))) (hc : CM w f cv co) :
    Call w r (St :: rsB) (.ref 431) [.ref x, .int op to, .str md.name tm, cv] 8 (fun v r' => v = .none ∧ isL r' St (vs ++ [.ref b]) ∧ Cells r' rsB l t wd ht (popG md op co FA FB (places l t wd ht)) ∧ Cells r' rsA l t wd ht FA) := by
  revert kf hf I H hz Ka Kb GA GB hAB hSA hSB okA okB o1 o2 hc
  revert w r x St a b vs rsA rsB l t wd ht FA FB f op to tm md cv co
  refine lift22 (i1 := Pf.nW) ?_; refine (?x86 : ∀ a0 a1 a2 a3 a4 a5 a6 a7 a8 a9 a10 a11 a12 a13 a14 a15 a16 a17 a18 a19 a20 a21, Ap22 _ a0 a1 a2 a3 a4 a5 a6 a7 a8 a9 a10 a11 a12 a13 a14 a15 a16 a17 a18 a19 a20 a21) _ _ _ _ _ _ _ _ _ _ _ _ _ _ _ _ _ _ _ _ _ _; intro w r x St a b vs rsA rsB l t wd ht FA FB f op to tm md cv co; refine Ap22.mk ?_
  intro kf hf I H hz Ka Kb GA GB hAB hSA hSB okA okB o1 o2 hc
  have I' := I.up kf
  have hlen : (((vs ++ [Value.ref b] ++ [Value.ref a]).length : Nat) : Int) - 1 = (vs.length : Int) + 1 := by simp; lia
  have hz' : (vs ++ [Value.ref b]).length ≤ 100 := by simp; lia
  have bnd := hc.bounds o1 o2
  refine' enter [("self", .ref x), ("opacity", .int op to), ("mode", .str md.name tm), ("clip", cv)] ?ho ?hcd ?hb ?hkd ?hok ?hnd ?c2 ?c3 ?c4 (fun y hy => by rcases List.mem_cons.mp hy with rfl | hy; exact ⟨_, H.choose_spec⟩; exact Grid.live GB y hy) ?_
  walk_at "pf enter"
  refine lift8 (i1 := Pf.nA) (i7 := Pf.nS) ?_; refine (?x87 : ∀ a0 a1 a2 a3 a4 a5 a6 a7, Ap8 _ a0 a1 a2 a3 a4 a5 a6 a7) _ _ _ _ _ _ _ _; intro A base g h₁ tk₁ L s Q; refine Ap8.mk ?_
  intro hd hu X T U Z S hret
  walk_at "pf go"
  refine' At.call (depth_spec w r x St _ I' H (by simp; lia)) ?hz ?hS ?hs ?hU ?hd ?hu ?_
  walk_at "pf sides"
  rintro v h' tk' r1 Z1 S1 _ fr ⟨rfl, td, rfl⟩
  (try dsimp only)
  rw [hlen]
  have hmem : St ∈ St :: rsB := .head _
  walk_at "pf go"
  · exfalso; lia
  rename_i h' r1 Z1 R1 S1 l1 hq Zq
  have kf1 : f.StaysIn r1 := Step.fz S1 kf hf
  have I1 := I.up kf1
  clear I'
  walk_at "pf go"
  refine' At.call (top_spec w r1 x St vs (.ref b) I1 R1) ?hz ?hS ?hs ?hU ?hd ?hu ?_
  walk_at "pf sides"
  rintro v h' tk' r' Z' S' _ fr ⟨rfl, rfl⟩
  (try dsimp only)
  have Ka1 := Ka.up kf1
  obtain ⟨_, Da0, tc1, tc2, tc3, tc4, Ia0, _⟩ := id Ka1
  walk_at "pf go"
  refine' At.call (places_spec w r1 a rsA l t wd ht (Ka.up kf1)) ?hz ?hS ?hs ?hU ?hd ?hu ?_
  walk_at "pf sides"
  rintro v h' tk' r2 Z2 S2 L2 fr ⟨D, pv, rfl, hD, hP, hDn⟩
  (try dsimp only)
  walk_at "pf go"
  rename_i Zx
  have kf2 : f.StaysIn r2 := Step.fz S2 kf hf
  have dead1 : ∀ y ∈ St :: rsB, ∃ o, r1.get? y = some o := fun y hy => by
    rcases List.mem_cons.mp hy with rfl | hy
    · exact ⟨_, R1.choose_spec⟩
    · obtain ⟨o, e⟩ := Grid.live GB y hy
      exact ⟨o, Step.keep l1 _ _ (fun z => hSB (List.mem_singleton.mp z ▸ hy)) e⟩
  have hDB : D ∉ rsB := fun z => by obtain ⟨o, e⟩ := dead1 D (.tail _ z); rw [hDn] at e; cases e
  have GA2 : Cells r2 rsA l t wd ht FA := (GA.step l1 (fun y hy z => hSA (List.mem_singleton.mp z ▸ hy))).step L2 (fun _ _ z => nomatch z)
  have GB2 : Cells r2 rsB l t wd ht FB := (GB.step l1 (fun y hy z => hSB (List.mem_singleton.mp z ▸ hy))).step L2 (fun _ _ z => nomatch z)
  have R2 : isL r2 St (vs ++ [.ref b]) := R1.up (Step.nil L2)
  refine' for_list (hD.up (At.own (by assumption))) (by assumption) (fun i m' r' => (m' "opacity" = some (.int op to) ∧ m' "mode" = some (.str md.name tm) ∧ m' "clip" = some cv ∧ m' "above" = some (.ref a) ∧ m' "below" = some (.ref b)) ∧ Step (St :: rsB) r r' ∧ Step rsB r2 r' ∧ Cells r' rsB l t wd ht (popG md op co FA FB ((places l t wd ht).take i))) (fun _ _ => False)
    (fun i m' r' h o e => h.2.2.1.keep _ _ hDB e) ⟨⟨rfl, rfl, rfl, rfl, rfl⟩, S2, Step.refl _ _, GB2.ext (fun p q _ => by simp [popG])⟩ ?turn ?done (fun _ _ _ _ _ h => h.elim)
  case done =>
    rintro m' r' h tk ⟨_, S', L', G'⟩ Z'
    clear Z
    walk_at "pf go"
    rw [hP.1, List.take_length] at G'
    refine' hret _ _ _ _ _ ?e1 ?e2 ?e3
    case e1 => assumption
    case e2 => assumption
    case e3 => exact ⟨rfl, R2.step L' hSB, G', GA2.step L' hAB⟩
  case turn =>
    rintro i v m₁ r₁ h tk gB QT kt hv ⟨⟨e1, e2, e3, e4, e5⟩, S₁, L₁, G₁⟩ hg Z₁
    have hi : i < (places l t wd ht).length := by rw [← hP.1]; exact (List.getElem?_eq_some_iff.mp hv).1
    obtain ⟨⟨p, q⟩, hpq⟩ : ∃ p, (places l t wd ht)[i]? = some p := ⟨_, List.getElem?_eq_getElem hi⟩
    obtain ⟨pa, tp, tq, rfl, hT⟩ := hP.2 i v _ hv hpq
    have hT₁ := hT.step L₁
    have hin : inb l t wd ht p q := places_get.mp (List.mem_of_getElem? hpq)
    have hnot : (p, q) ∉ (places l t wd ht).take i := fun z => by
      obtain ⟨j, hj⟩ := List.mem_iff_getElem?.mp z
      have hj' : j < i := by have := (List.getElem?_eq_some_iff.mp hj).1; simp at this; lia
      rw [List.getElem?_take_of_lt hj'] at hj
      exact absurd ((List.getElem?_inj (List.getElem?_eq_some_iff.mp hj).1 places_nodup).mp (hj.trans hpq.symm)) (by lia)
    have kf₁ : f.StaysIn r₁ := Step.fz S₁ kf hf
    have GA₁ := GA2.step L₁ hAB
    change Loc rsB r2 r₁ at L₁
    have Ka₁ := Ka.up kf₁
    have Kb₁ := Kb.up kf₁
    obtain ⟨_, Da, ta1, ta2, ta3, ta4, Ia, _⟩ := id Ka₁
    obtain ⟨_, Db, tb1, tb2, tb3, tb4, Ib, _⟩ := id Kb₁
    have X₁ := X.keeps hg
    have T₁ := T.keeps hg
    have U₁ := U.mono hg
    have fin : ∀ r', Cells r' rsB l t wd ht (updF (popG md op co FA FB ((places l t wd ht).take i)) p q (la md (FA p q) (alo op co p q) (FB p q))) → Cells r' rsB l t wd ht (popG md op co FA FB ((places l t wd ht).take (i + 1))) := fun r' G => G.ext (fun p' q' _ => by
      unfold updF popG
      rw [List.take_add_one, hpq]
      by_cases z : p' = p ∧ q' = q
      · obtain ⟨rfl, rfl⟩ := z
        rw [if_pos ⟨rfl, rfl⟩, if_pos (by simp)]
      · rw [if_neg z]
        by_cases z2 : (p', q') ∈ (places l t wd ht).take i
        · rw [if_pos z2, if_pos (by simp [z2])]
        · rw [if_neg z2, if_neg]
          intro z3
          rcases List.mem_append.mp z3 with z3 | z3
          · exact z2 z3
          · simp at z3; exact z z3)
    have hB : popG md op co FA FB ((places l t wd ht).take i) p q = FB p q := by unfold popG; rw [if_neg hnot]
    clear X T U Z Zx
    have hin' : ∀ y ∈ rsB, y ∈ St :: rsB ∨ r.get? y = none := fun y hy => .inl (.tail _ hy)
    rcases hc with ⟨rfl, rfl⟩ | ⟨bm, y, ls, fs, rfl, rfl, hbm, Cy, Ly, hcb⟩
    · walk_at "pf go"
      refine' At.call (cget_spec w r₁ a rsA l t wd ht FA p q tp tq Ka₁ GA₁) ?hz ?hS ?hs ?hU ?hd ?hu ?_
      walk_at "pf sides"
      rintro v1 h' tk' r' Z' S' _ fr ⟨rfl, c1⟩
      (try dsimp only)
      rw [if_pos hin] at c1
      walk_at "pf go"
      refine' At.call (cget_spec w r₁ b rsB l t wd ht _ p q tp tq Kb₁ G₁) ?hz ?hS ?hs ?hU ?hd ?hu ?_
      walk_at "pf sides"
      rintro v2 h' tk' r' Z' S' _ fr ⟨rfl, c2⟩
      (try dsimp only)
      rw [if_pos hin, hB] at c2
      walk_at "pf go"
      refine' At.call (laid_spec w r₁ md tm _ v1 v2 (FA p q) (FB p q) op c1 c2 (okA p q) (okB p q) o1 o2) ?hz ?hS ?hs ?hU ?hd ?hu ?_
      walk_at "pf sides"
      rintro v3 h' tk' r' Z' S' L' fr c3
      (try dsimp only)
      walk_at "pf go"
      refine' At.call (cput_spec w r' b rsB l t wd ht _ p q (la md (FA p q) op (FB p q)) v3 tp tq (Kb₁.up (Step.nil L')) (G₁.step L' (fun _ _ z ↦ nomatch z)) hin c3) ?hz ?hS ?hs ?hU ?hd ?hu ?_
      walk_at "pf sides"
      rintro v4 h' tk' r'' Z'' S'' L'' fr G''
      (try dsimp only)
      walk_at "pf go"
      exact TurnEnd.kon kt (by assumption) ⟨⟨by walk_at "pf nm", by walk_at "pf nm", by walk_at "pf nm", by walk_at "pf nm", by walk_at "pf nm"⟩, S'', Step.trans (Step.then (as := rsB) (bs := []) L₁ L' (fun _ z => nomatch z)) L'', fin _ G''⟩
    · have hbm₁ := kf₁ _ _ hbm
      walk_at "pf go"
      refine' At.call (Call.bound hbm₁ (clip_alpha_m w r₁ y ls fs p q tp tq (Cy.up kf₁) (Ly.up kf₁))) ?hz ?hS ?hs ?hU ?hd ?hu ?_
      walk_at "pf sides"
      rintro v0 h' tk' r3 Z3 S3 L3 fr ⟨tt, rfl⟩
      (try dsimp only)
      have s3 : r₁.StaysIn r3 := Step.nil L3
      have hb0 := bnd p q
      walk_at "pf go"
      refine' At.call (weighted_spec w r3 op (clf fs p q) to tt (hcb p q).1 (hcb p q).2) ?hz ?hS ?hs ?hU ?hd ?hu ?_
      walk_at "pf sides"
      rintro v h' tk' r' Z' S' _ fr ⟨rfl, t5, rfl⟩
      (try dsimp only)
      have Ka3 := Ka₁.up s3
      have Kb3 := Kb₁.up s3
      have GA3 : Cells r3 rsA l t wd ht FA := GA₁.step L3 (fun _ _ z => nomatch z)
      have G3 : Cells r3 rsB l t wd ht _ := G₁.step L3 (fun _ _ z => nomatch z)
      walk_at "pf go"
      refine' At.call (cget_spec w r3 a rsA l t wd ht FA p q tp tq Ka3 GA3) ?hz ?hS ?hs ?hU ?hd ?hu ?_
      walk_at "pf sides"
      rintro v1 h' tk' r' Z' S' _ fr ⟨rfl, c1⟩
      (try dsimp only)
      rw [if_pos hin] at c1
      walk_at "pf go"
      refine' At.call (cget_spec w r3 b rsB l t wd ht _ p q tp tq Kb3 G3) ?hz ?hS ?hs ?hU ?hd ?hu ?_
      walk_at "pf sides"
      rintro v2 h' tk' r' Z' S' _ fr ⟨rfl, c2⟩
      (try dsimp only)
      rw [if_pos hin, hB] at c2
      walk_at "pf go"
      refine' At.call (laid_spec w r3 md tm _ v1 v2 (FA p q) (FB p q) _ c1 c2 (okA p q) (okB p q) hb0.1 hb0.2) ?hz ?hS ?hs ?hU ?hd ?hu ?_
      walk_at "pf sides"
      rintro v3 h' tk' r' Z' S' L' fr c3
      (try dsimp only)
      walk_at "pf go"
      refine' At.call (cput_spec w r' b rsB l t wd ht _ p q (la md (FA p q) _ (FB p q)) v3 tp tq (Kb3.up (Step.nil L')) (G3.step L' (fun _ _ z ↦ nomatch z)) hin c3) ?hz ?hS ?hs ?hU ?hd ?hu ?_
      walk_at "pf sides"
      rintro v4 h' tk' r'' Z'' S'' L'' fr G''
      (try dsimp only)
      walk_at "pf go"
      exact TurnEnd.kon kt (by assumption) ⟨⟨by walk_at "pf nm", by walk_at "pf nm", by walk_at "pf nm", by walk_at "pf nm", by walk_at "pf nm"⟩, S'', Step.trans (Step.then (as := rsB) (bs := []) (Step.then (as := rsB) (bs := []) L₁ L3 (fun _ z => nomatch z)) L' (fun _ z => nomatch z)) L'', fin _ G''⟩
/-! ## the law's draws -/
noncomputable def Src (w : World) (r : Heap) (src : Addr) : Prop := ∃ kvs fi st t1 t2, isD (sK w) r src kvs ∧ kvs.length = 2 ∧ valueAt kvs "figures" = some (.int fi t1) ∧ valueAt kvs "stir" = some (.int st t2) ∧ 0 ≤ fi ∧ 0 ≤ st ∧ st < 2147483648
theorem stored_same {K : Type} [DecidableEq K] {kvs : List (K × Value)} {k : K} {u v : Value} (h : valueAt kvs k = some u) : (stored kvs k v).length = kvs.length := by
  unfold stored
  rw [if_pos, List.length_map]
  unfold valueAt at h
  obtain ⟨kv, q, _⟩ := Option.map_eq_some_iff.mp h
  exact List.any_eq_true.mpr ⟨kv, List.mem_of_find?_eq_some q, List.find?_some (p := fun kv : K × Value => decide (kv.1 = k)) q⟩
theorem at_self {w : World} {K : Type} [DecidableEq K] {knd : KeyKind prg w K} {r : Heap} {d : Addr} {kvs : List (K × Value)} {k : K} {v : Value} (_R : isD knd r d (stored kvs k v)) : valueAt (stored kvs k v) k = some v := by
  rw [valueAt_stored, if_pos rfl]
theorem next_spec (w : World) (r : Heap) (src : Addr) (top : Int) (tt : Tok) (H : Src w r src) (h1 : 1 ≤ top) (h2 : top ≤ 1000) :
    Call w r [src] (.ref 527) [.ref src, .int top tt] 1 (fun v r' => Src w r' src ∧ ∃ n, isInt n v ∧ 0 ≤ n ∧ n < top) := by
  revert H h1 h2
  revert w r src top tt
  refine lift5 (i1 := Pf.nW) ?_; refine (?x88 : ∀ a0 a1 a2 a3 a4, Ap5 _ a0 a1 a2 a3 a4) _ _ _ _ _; intro w r src top tt; refine Ap5.mk ?_
  intro H h1 h2
  revert H
  walk_at "pf D"
  rename_i kvs
  walk_at "pf D"
  rename_i fi
  walk_at "pf D"
  rename_i st
  walk_at "pf D"
  rename_i t1
  walk_at "pf D"
  rename_i t2
  walk_at "pf D"
  rename_i D
  walk_at "pf D"
  rename_i hz
  walk_at "pf D"
  rename_i v1
  walk_at "pf D"
  rename_i v2
  walk_at "pf D"
  rename_i f1
  walk_at "pf D"
  rename_i s1
  intro s2
  refine' enter [("source", .ref src), ("top", .int top tt)] ?ho ?hcd ?hb ?hkd ?hok ?hnd ?c2 ?c3 ?c4 (fun a ha => by rw [List.mem_singleton.mp ha]; obtain ⟨_, o, es, ep, e, _⟩ := D; exact ⟨o, e⟩) ?_
  walk_at "pf enter"
  refine lift8 (i1 := Pf.nA) (i7 := Pf.nS) ?_; refine (?x89 : ∀ a0 a1 a2 a3 a4 a5 a6 a7, Ap8 _ a0 a1 a2 a3 a4 a5 a6 a7) _ _ _ _ _ _ _ _; intro A base g h₁ tk₁ L s Q; refine Ap8.mk ?_
  intro hd hu X T U Z S hret
  walk_at "pf go"
  · rename_i hq h0 Z0 hA rA tkA ZA RA SA lA hB ZB
    refine hret _ _ _ _ _ ZB SA ⟨⟨_, fi.fdiv top, st, _, t2, RA, ?_, by rw [valueAt_stored]; rfl, by rw [valueAt_stored]; exact v2, ?_, s1, s2⟩, _, ⟨_, rfl⟩, ?_, ?_⟩
    · rw [stored_same v1]; exact hz
    · rw [Int.fdiv_eq_ediv_of_nonneg _ (by lia)]; exact Int.ediv_nonneg f1 (by lia)
    · rw [Int.fmod_eq_emod_of_nonneg _ (by lia)]; exact Int.emod_nonneg _ (by lia)
    · rw [Int.fmod_eq_emod_of_nonneg _ (by lia)]; exact Int.emod_lt_of_pos _ (by lia)
  · rename_i hA rA tkA ZA RA SA lA
    have v3 := at_self RA
    walk_at "pf go"
    refine hret _ _ _ _ _ ZA SA ⟨⟨_, fi, _, t1, _, RA, ?_, by rw [valueAt_stored]; exact v1, v3, f1, ?_, ?_⟩, _, ⟨_, rfl⟩, ?_, ?_⟩
    all_goals have hm0 : (0 : Int) ≤ (st * 16807 + 12345).fmod 2147483647 := by rw [Int.fmod_eq_emod_of_nonneg _ (by lia)]; exact Int.emod_nonneg _ (by lia)
    · rw [stored_same v2]; exact hz
    · exact hm0
    · rw [Int.fmod_eq_emod_of_nonneg _ (by lia)]; have := Int.emod_lt_of_pos (st * 16807 + 12345) (show (0 : Int) < 2147483647 by lia); lia
    · rw [Int.fdiv_eq_ediv_of_nonneg _ (by lia), Int.fmod_eq_emod_of_nonneg _ (by lia)]; exact Int.emod_nonneg _ (by lia)
    · rw [Int.fdiv_eq_ediv_of_nonneg _ (by lia), Int.fmod_eq_emod_of_nonneg _ (by lia)]; exact Int.emod_lt_of_pos _ (by lia)
local macro_rules | `(tactic| walk_at $s:str) => Ln.run Ln.rows2 s
/-! ## where the law's draws come from -/
noncomputable def Script (r : Heap) (a : Addr) (ns : List Int) : Prop := ∃ vs, isR r a vs ∧ IntsAre vs ns
theorem src_end {w : World} {A : Around} {E : Value → Shared → Prop} {s : Shared} {g : Heap} {cs : List Addr} {env : Env} {m : Str → Option Value} {r r₀ : Heap} {d : Addr} {fi st : Int} {k1 k2 t1 t2 : Tok} {Q : PUnit → Shared → Prop} (Z : At w g cs env m r s.heap) (lo : (d == sysModules) = false) (e : r.get? d = some emptyDict)
    (S : Step [] r₀ r) (hm : r₀.get? d = none) (hf : 0 ≤ fi) (hs : 0 ≤ st) (hs2 : st < 2147483648) (h : ∀ h' r' tk, At w g cs env m r' h' → Src w r' d → Step [] r₀ r' → Q PUnit.unit { s with heap := h', toks := tk }) :
    wpAny (model prg w) A (storeAll d [(.str "figures" k1, .int fi t1), (.str "stir" k2, .int st t2)]) Q E s := by
  refine store_cons (knd := sK w) Z (isD.of_empty lo e) (strKind_is prg _ _ _) (by simp) S (.inr hm) fun h1 r1 tk1 Z1 R1 S1 l1 => ?_
  refine store_cons (knd := sK w) Z1 R1 (strKind_is prg _ _ _) (by have := stored_len (kvs := ([] : List (Str × Value))) (k := ("figures" : Str)) (v := .int fi t1); simp at this; lia) S1 (.inr hm) fun h2 r2 tk2 Z2 R2 S2 l2 => store_nil ?_
  refine h h2 r2 _ Z2 ⟨_, fi, st, t1, t2, R2, rfl, ?_, ?_, hf, hs, hs2⟩ S2
  · rw [valueAt_stored, if_neg (by decide), valueAt_stored, if_pos rfl]
  · rw [valueAt_stored, if_pos rfl]
theorem fm_ok (b : Int) : 0 ≤ b.fmod 1000003 + 71 ∧ b.fmod 1000003 + 71 < 2147483648 := by
  rw [Int.fmod_eq_emod_of_nonneg _ (by lia)]
  lia
theorem Src.up {w : World} {r r' : Heap} {src : Addr} (H : Src w r src) (k : r.StaysIn r') : Src w r' src := by
  obtain ⟨kvs, fi, st, t1, t2, D, q⟩ := H
  exact ⟨kvs, fi, st, t1, t2, D.up k, q⟩
theorem Src.step {w : World} {as : List Addr} {r r' : Heap} {src : Addr} (H : Src w r src) (S : Step as r r') (n : src ∉ as) : Src w r' src := by
  obtain ⟨kvs, fi, st, t1, t2, D, q⟩ := H
  exact ⟨kvs, fi, st, t1, t2, D.step S n, q⟩
theorem Src.live {w : World} {r : Heap} {src : Addr} (H : Src w r src) : ∃ o, r.get? src = some o := by
  obtain ⟨_, _, _, _, _, ⟨_, o, _, _, e, _⟩, _⟩ := H
  exact ⟨o, e⟩
theorem ne_live {r : Heap} {a b : Addr} (h : r.get? a = none) (l : ∃ o, r.get? b = some o) : a ≠ b := by
  rintro rfl; obtain ⟨o, e⟩ := l; rw [e] at h; cases h
theorem pick_spec (w : World) (r : Heap) (src ax : Addr) (vs : List Value) (H : Src w r src) (L₀ : isL r ax vs) (h1 : 1 ≤ vs.length) (h2 : vs.length ≤ 100) (hne : ax ≠ src) :
    Call w r [src] (.ref 534) [.ref src, .ref ax] 2 (fun v r' => Src w r' src ∧ ∃ i : Nat, vs[i]? = some v) := by
  revert H L₀ h1 h2 hne
  revert w r src ax vs
  refine lift5 (i1 := Pf.nW) ?_; refine (?x90 : ∀ a0 a1 a2 a3 a4, Ap5 _ a0 a1 a2 a3 a4) _ _ _ _ _; intro w r src ax vs; refine Ap5.mk ?_
  intro H L₀ h1 h2 hne
  refine' enter [("source", .ref src), ("things", .ref ax)] ?ho ?hcd ?hb ?hkd ?hok ?hnd ?c2 ?c3 ?c4 (fun a ha => by rw [List.mem_singleton.mp ha]; obtain ⟨_, _, _, _, _, ⟨_, o, es, ep, e, _⟩, _⟩ := H; exact ⟨o, e⟩) ?_
  walk_at "pf enter"
  refine lift8 (i1 := Pf.nA) (i7 := Pf.nS) ?_; refine (?x92 : ∀ a0 a1 a2 a3 a4 a5 a6 a7, Ap8 _ a0 a1 a2 a3 a4 a5 a6 a7) _ _ _ _ _ _ _ _; intro A base g h₁ tk₁ L s Q; refine Ap8.mk ?_
  intro hd hu X T U Z S hret
  walk_at "pf go"
  refine' At.call (next_spec w r src vs.length _ H (by lia) (by lia)) ?hz ?hS ?hs ?hU ?hd ?hu ?_
  walk_at "pf sides"
  rintro v h' tk' r1 Z1 S1 L1 fr ⟨H1, n, ⟨t, rfl⟩, n0, n1⟩
  (try dsimp only)
  have hn : n.toNat < vs.length := by lia
  have hv : vs[n.toNat]? = some vs[n.toNat] := List.getElem?_eq_getElem hn
  have L₁ : isL r1 ax vs := L₀.step L1 (by simpa using hne)
  walk_at "pf go"
  refine' hret _ _ _ _ _ ?e1 ?e2 ?e3
  case e1 => assumption
  case e2 => assumption
  case e3 => exact ⟨H1, _, hv⟩
theorem ints_in {vs : List Value} {ns : List Int} (h : IntsAre vs ns) {i : Nat} {v : Value} (e : vs[i]? = some v) : ∃ n t, v = .int n t ∧ n ∈ ns := by
  have hi : i < ns.length := by rw [← IntsAre.len h]; exact (List.getElem?_eq_some_iff.mp e).1
  obtain ⟨t, q⟩ := IntsAre.get h e (List.getElem?_eq_getElem hi)
  exact ⟨_, t, q, List.getElem_mem hi⟩
theorem ints_snoc {vs : List Value} {ns : List Int} {n : Int} {t : Tok} (h : IntsAre vs ns) : IntsAre (vs ++ [.int n t]) (ns ++ [n]) := by
  induction h with
  | nil => exact .cons _ _ .nil
  | cons a u _ ih => exact .cons a u ih
theorem ints_3 {vs : List Value} {ns : List Int} (h : IntsAre vs ns) (hl : vs.length = 3) : ∃ a b c t u v, vs = [.int a t, .int b u, .int c v] ∧ ns = [a, b, c] := by
  cases h with
  | nil => cases hl
  | cons a t h =>
    cases h with
    | nil => cases hl
    | cons b u h =>
      cases h with
      | nil => cases hl
      | cons c v h =>
        cases h with
        | nil => exact ⟨a, b, c, t, u, v, rfl, rfl⟩
        | cons d x h => simp at hl
theorem colour_spec (w : World) (r : Heap) (src : Addr) (H : Src w r src) :
    Call w r [src] (.ref 546) [.ref src] 3 (fun v r' => Src w r' src ∧ ∃ c, Col r' v c ∧ c.Ok) := by
  revert H
  revert w r src
  refine lift3 (i1 := Pf.nW) ?_; refine (?x91 : ∀ a0 a1 a2, Ap3 _ a0 a1 a2) _ _ _; intro w r src; refine Ap3.mk ?_
  intro H
  refine' enter [("source", .ref src)] ?ho ?hcd ?hb ?hkd ?hok ?hnd ?c2 ?c3 ?c4 (fun a ha => by rw [List.mem_singleton.mp ha]; exact H.live) ?_
  walk_at "pf enter"
  refine lift8 (i1 := Pf.nA) (i7 := Pf.nS) ?_; refine (?x93 : ∀ a0 a1 a2 a3 a4 a5 a6 a7, Ap8 _ a0 a1 a2 a3 a4 a5 a6 a7) _ _ _ _ _ _ _ _; intro A base g h₁ tk₁ L s Q; refine Ap8.mk ?_
  intro hd hu X T U Z S hret
  walk_at "pf go"
  rename_i a1 h1 r1 Z1 R1 S1 s1 f1 f1'
  refine' At.call (pick_spec w r1 src a1 _ (H.up s1) R1 (by simp) (by simp) (ne_live f1 H.live)) ?hz ?hS ?hs ?hU ?hd ?hu ?_
  walk_at "pf sides"
  rintro v h' tk' r2 Z2 S2 L2 fr ⟨H2, i, hi⟩
  (try dsimp only)
  obtain ⟨al, ta, rfl, hal⟩ := ints_in (.cons _ _ (.cons _ _ (.cons _ _ (.cons _ _ .nil)))) hi
  have a0 : 0 ≤ al ∧ al ≤ 255 := by simp at hal; lia
  clear Z Z1
  walk_at "pf go"
  rename_i h3 Z3 rr h4 tk4 u4 v4 Z4 n4 R4 s4
  refine' comp_range (n := ((3 : Int) - 0).toNat) R4 (small_one (by lia) (by lia) (by lia) (by lia)) (size_to 0 3) (by rw [sizeLine_eq]; lia) Z4
    (fun i r' ys => Step [src] r2 r' ∧ Src w r' src ∧ ∃ ns, IntsAre ys ns ∧ ∀ n ∈ ns, 0 ≤ n ∧ n ≤ al) ⟨Step.refl _ _, H2, [], .nil, fun _ h => nomatch h⟩ ?turn ?done
  case turn =>
    rintro i ti r₁ ys h tk gB C mC hi ⟨S₁, H₁, ns, I₁, b₁⟩ hg Z₁ hcl U₁
    have e1 : mC "source" = some (.ref src) := (hcl "source" _ rfl).trans rfl
    have e2 : mC "alpha" = some (.int al ta) := (hcl "alpha" _ rfl).trans rfl
    have X₁ := X.keeps hg
    have T₁ := T.keeps hg
    clear U X T Z3 Z4
    walk_at "pf go"
    refine' At.call (next_spec w r₁ src (al + 1) _ H₁ (by lia) (by lia)) ?hz ?hS ?hs ?hU ?hd ?hu ?_
    walk_at "pf sides"
    rintro v h' tk' r' Z' S' L' fr ⟨H', n, ⟨t, rfl⟩, n0, n1⟩
    (try dsimp only)
    refine ElemEnd.mk Z' ⟨S', H', _, ints_snoc I₁, fun k hk => ?_⟩
    rcases List.mem_append.mp hk with q | q
    · exact b₁ k q
    · rw [List.mem_singleton.mp q]; lia
  case done =>
    rintro D k ys r₁ h tk ⟨S₁, H₁, ns, I₁, b₁⟩ hlen hD hrD Z₁
    dsimp only [useM] at Z₁
    obtain ⟨ca, cb, cc, ua, ub, uc, rfl, rfl⟩ := ints_3 I₁ hlen
    have S₂ : Step [src] r (put r₁ D (listO [.int ca ua, .int cb ub, .int cc uc] k)) := (Step.trans S2 S₁).then (bs := []) (step_new hrD) (fun a ha => nomatch ha)
    have hD₂ := isL_put r₁ D [.int ca ua, .int cb ub, .int cc uc] k
    have H₂ := H₁.up (stays_put (o := listO [.int ca ua, .int cb ub, .int cc uc] k) hrD)
    clear Z3 Z4
    walk_at "pf go"
    rename_i a5 h5 r5 Z5 R5 S5 s5 f5 f5' a6 h6 r6 Z6 R6 S6 s6 f6 f6' a7 h7 r7 Z7 R7 S7 s7 f7 f7'
    have q1 := b₁ ca (by simp)
    have q2 := b₁ cb (by simp)
    have q3 := b₁ cc (by simp)
    refine' hret _ _ _ _ _ ?e1 ?e2 ?e3
    case e1 => assumption
    case e2 => assumption
    case e3 => exact ⟨((H₂.up s5).up s6).up s7, ⟨ca, cb, cc, al⟩, ⟨a7, rfl, .inl ⟨_, _, _, _, R7⟩⟩, q1.1, q1.2, q2.1, q2.2, q3.1, q3.2, a0.2⟩
theorem upd_okF {F : Int → Int → C4} {a b : Int} {c : C4} (h : ∀ p q, (F p q).Ok) (hc : c.Ok) : ∀ p q, (updF F a b c p q).Ok := fun p q => by
  unfold updF; split
  · exact hc
  · exact h p q
theorem zero4_ok : zero4.Ok := by unfold C4.Ok; simp
theorem law_canvas (w : World) (r : Heap) (src : Addr) (H : Src w r src) :
    Call w r [src] (.ref 553) [.ref src] 4 (fun v r' => ∃ x rs f l t wd ht F, v = .ref x ∧ f.StaysIn r' ∧ CSk f x rs l t wd ht ∧ (∀ a ∈ rs, f.get? a = none ∧ r.get? a = none) ∧ (∀ a o, f.get? a = some o → r.get? a = none) ∧ Cells r' rs l t wd ht F ∧ (∀ p q, (F p q).Ok) ∧ Src w r' src ∧ wd ≤ 4 ∧ ht ≤ 3) := by
  revert H
  revert w r src
  refine lift3 (i1 := Pf.nW) ?_; refine (?x94 : ∀ a0 a1 a2, Ap3 _ a0 a1 a2) _ _ _; intro w r src; refine Ap3.mk ?_
  intro H
  refine' enter [("source", .ref src)] ?ho ?hcd ?hb ?hkd ?hok ?hnd ?c2 ?c3 ?c4 (fun a ha => by rw [List.mem_singleton.mp ha]; exact H.live) ?_
  walk_at "pf enter"
  refine lift8 (i1 := Pf.nA) (i7 := Pf.nS) ?_; refine (?x95 : ∀ a0 a1 a2 a3 a4 a5 a6 a7, Ap8 _ a0 a1 a2 a3 a4 a5 a6 a7) _ _ _ _ _ _ _ _; intro A base g h₁ tk₁ L s Q; refine Ap8.mk ?_
  intro hd hu X T U Z S hret
  walk_at "pf go"
  refine' At.call (next_spec w r src 4 _ H (by lia) (by lia)) ?hz ?hS ?hs ?hU ?hd ?hu ?_
  walk_at "pf sides"
  rintro v h' tk' r1 Z1 S1 L1 fr ⟨H1, n1, ⟨t1, rfl⟩, b1, b1'⟩
  (try dsimp only)
  clear Z
  walk_at "pf go"
  refine' At.call (next_spec w r1 src 3 _ H1 (by lia) (by lia)) ?hz ?hS ?hs ?hU ?hd ?hu ?_
  walk_at "pf sides"
  rintro v h' tk' r2 Z2 S2 L2 fr ⟨H2, n2, ⟨t2, rfl⟩, b2, b2'⟩
  (try dsimp only)
  clear Z1
  walk_at "pf go"
  rename_i a3 h3 r3 Z3 R3 S3 s3 f3 f3' h4 Z4 s4 h5 Z5 h6 Z6
  have H3 := H2.up s3
  clear Z2 Z3 Z4 Z5
  refine' At.call (next_spec w r3 src 7 _ H3 (by lia) (by lia)) ?hz ?hS ?hs ?hU ?hd ?hu ?_
  walk_at "pf sides"
  rintro v h' tk' r4 Z4 S4 L4 fr ⟨H4, n3, ⟨t3, rfl⟩, b3, b3'⟩
  (try dsimp only)
  clear Z6
  walk_at "pf go"
  refine' At.call (next_spec w r4 src 7 _ H4 (by lia) (by lia)) ?hz ?hS ?hs ?hU ?hd ?hu ?_
  walk_at "pf sides"
  rintro v h' tk' r5 Z5 S5 L5 fr ⟨H5, n4, ⟨t4, rfl⟩, b4, b4'⟩
  (try dsimp only)
  clear Z4
  walk_at "pf go"
  refine' At.call (canvas_make w r5 (n3 - 3) (n4 - 3) (1 + n1) (1 + n2) _ _ _ _ (by lia) (by lia) (by lia) (by lia) (by lia) (by lia) (by lia) (by lia)) ?hz ?hS ?hs ?hU ?hd ?hu ?_
  walk_at "pf sides"
  rintro v h' tk' r6 Z6 S6 L6 fr ⟨x, rs, f, rfl, kf, K, hrs, hf, G⟩
  (try dsimp only)
  have H6 := H5.up (Step.nil L6)
  have fsrc : f.get? src = none := by
    cases q : f.get? src with
    | none => rfl
    | some o => have := hf _ _ q; obtain ⟨o', e⟩ := H5.live; rw [e] at this; cases this
  have srs : src ∉ rs := fun z => by have := (hrs src z).2; obtain ⟨o', e⟩ := H5.live; rw [e] at this; cases this
  have K6 := K.up kf
  obtain ⟨_, Dx, u1, u2, u3, u4, Ix, _⟩ := id K6
  clear Z5
  walk_at "pf go"
  refine' At.call (places_spec w r6 x rs _ _ _ _ K6) ?hz ?hS ?hs ?hU ?hd ?hu ?_
  walk_at "pf sides"
  rintro v h' tk' r7 Z7 S7 L7 fr ⟨D, vs, rfl, hD, hP, hDn⟩
  (try dsimp only)
  have H7 := H6.up (Step.nil L7)
  have kf7 : f.StaysIn r7 := StaysIn.trans kf (Step.nil L7)
  have K7 := K.up kf7
  have G7 : Cells r7 rs (n3 - 3) (n4 - 3) (1 + n1) (1 + n2) _ := G.step L7 (fun _ _ z => nomatch z)
  have Ds : D ∉ src :: rs := fun z => by
    rcases List.mem_cons.mp z with rfl | z
    · obtain ⟨o', e⟩ := H6.live; rw [e] at hDn; cases hDn
    · obtain ⟨o', e⟩ := Grid.live G D z; rw [e] at hDn; cases hDn
  have n5 : ∀ a, r5.get? a = none → r.get? a = none := fun a e => S5.sub _ e
  have hfr : ∀ a ∈ rs, a ∈ [src] ∨ r.get? a = none := fun a ha => .inr (n5 a (hrs a ha).2)
  refine' for_list (hD.up (At.own (by assumption))) (by assumption) (fun i m' r' => (m' "source" = some (.ref src) ∧ m' "canvas" = some (.ref x)) ∧ Step [src] r r' ∧ Step (src :: rs) r7 r' ∧ Src w r' src ∧ ∃ F, Cells r' rs (n3 - 3) (n4 - 3) (1 + n1) (1 + n2) F ∧ ∀ p q, (F p q).Ok) (fun _ _ => False)
    (fun i m' r' h o e => h.2.2.1.keep _ _ Ds e) ⟨⟨rfl, rfl⟩, S7, Step.refl _ _, H7, _, G7, fun _ _ => zero4_ok⟩ ?turn ?done (fun _ _ _ _ _ h => h.elim)
  case done =>
    rintro m' r' h tk ⟨⟨e1, e2⟩, S', L', H', F, G', hF⟩ Z'
    clear Z6 Z7
    walk_at "pf go"
    refine' hret _ _ _ _ _ ?e1 ?e2 ?e3
    case e1 => assumption
    case e2 => assumption
    case e3 => exact ⟨x, rs, f, _, _, _, _, F, rfl, Step.fz L' kf7 (fun a ha => by rcases List.mem_cons.mp ha with rfl | ha; exact fsrc; exact (hrs a ha).1), K, fun a ha => ⟨(hrs a ha).1, n5 a (hrs a ha).2⟩, fun a o e => n5 a (hf a o e), G', hF, H', by lia, by lia⟩
  case turn =>
    rintro i v m₁ r₁ h tk gB QT kt hv ⟨⟨e1, e2⟩, S₁, L₁, H₁, F, G₁, hF⟩ hg Z₁
    have hi : i < (places (n3 - 3) (n4 - 3) (1 + n1) (1 + n2)).length := by rw [← hP.1]; exact (List.getElem?_eq_some_iff.mp hv).1
    obtain ⟨⟨p, q⟩, hpq⟩ : ∃ p, (places (n3 - 3) (n4 - 3) (1 + n1) (1 + n2))[i]? = some p := ⟨_, List.getElem?_eq_getElem hi⟩
    obtain ⟨pa, tp, tq, rfl, hT⟩ := hP.2 i v _ hv hpq
    have hT₁ := hT.step L₁
    have hin : inb (n3 - 3) (n4 - 3) (1 + n1) (1 + n2) p q := places_get.mp (List.mem_of_getElem? hpq)
    have kf₁ : f.StaysIn r₁ := Step.fz L₁ kf7 (fun a ha => by rcases List.mem_cons.mp ha with rfl | ha; exact fsrc; exact (hrs a ha).1)
    change Loc _ _ _ at L₁
    have Ic := (K.up kf₁)
    obtain ⟨_, Dx', _, _, _, _, Ix', _⟩ := id Ic
    have X₁ := X.keeps hg
    have T₁ := T.keeps hg
    have U₁ := U.mono hg
    clear X T U Z6 Z7 Ix K6 K7
    walk_at "pf go"
    refine' At.call (colour_spec w r₁ src H₁) ?hz ?hS ?hs ?hU ?hd ?hu ?_
    walk_at "pf sides"
    rintro v1 h' tk' r' Z' S' L' fr ⟨H', c, hc, okc⟩
    (try dsimp only)
    have kf' : f.StaysIn r' := Step.fz L' kf₁ (fun a ha => by rw [List.mem_singleton.mp ha]; exact fsrc)
    have G' : Cells r' rs (n3 - 3) (n4 - 3) (1 + n1) (1 + n2) F := G₁.step L' (fun y hy z => srs (List.mem_singleton.mp z ▸ hy))
    clear Z₁
    walk_at "pf go"
    refine' At.call (cput_spec w r' x rs _ _ _ _ F p q c v1 _ _ (K.up kf') G' hin hc) ?hz ?hS ?hs ?hU ?hd ?hu ?_
    walk_at "pf sides"
    rintro v2 h' tk' r'' Z'' S'' L'' fr G''
    (try dsimp only)
    walk_at "pf go"
    have hsr : ∀ a ∈ rs, a ∈ src :: rs ∨ r7.get? a = none := fun a ha => .inl (.tail _ ha)
    exact TurnEnd.kon kt (by assumption) ⟨⟨by walk_at "pf nm", by walk_at "pf nm"⟩, S'', Step.then (as := src :: rs) (Step.then (as := src :: rs) L₁ L' (fun a ha => .inl (by rw [List.mem_singleton.mp ha]; exact .head _))) L'' hsr, H'.step L'' srs, _, G'', upd_okF hF okc⟩
/-! ## a canvas that is painted -/
noncomputable def keyOf (p : Int × Int) : List Int := [p.1, p.2]
/-- a table of colours by places -/
noncomputable def TabC (w : World) (r : Heap) (d : Addr) (ps : List (Int × Int)) (F : Int → Int → C4) : Prop :=
  ∃ xs : Ents, isP w r d xs ∧ xs.map (·.1) = ps.map keyOf ∧ ∀ p q, (p, q) ∈ ps → ∃ a v, atKey xs [p, q] = some (a, v) ∧ Col r v (F p q)
theorem TabC.step {w : World} {as : List Addr} {r r' : Heap} {d : Addr} {ps : List (Int × Int)} {F : Int → Int → C4} (T : TabC w r d ps F) (S : Step as r r') (n : d ∉ as) : TabC w r' d ps F := by
  obtain ⟨xs, P, k, c⟩ := T
  exact ⟨xs, P.step S n, k, fun p q h => let ⟨a, v, e, x⟩ := c p q h; ⟨a, v, e, x.step S⟩⟩
theorem atKey_none {xs : Ents} {k : List Int} (h : k ∉ xs.map (·.1)) : atKey xs k = none := by
  unfold atKey
  rw [Option.map_eq_none_iff, List.find?_eq_none]
  intro x hx e
  exact h (List.mem_map.mpr ⟨x, hx, by simpa using e⟩)
theorem keyOf_inj {p q : Int × Int} (h : keyOf p = keyOf q) : p = q := by
  unfold keyOf at h
  simp only [List.cons.injEq, and_true] at h
  exact Prod.ext h.1 h.2
theorem TabC.add {w : World} {r r' : Heap} {d a : Addr} {ps : List (Int × Int)} {F : Int → Int → C4} {p q : Int} {c : C4} {v : Value} {xs : Ents} (k : xs.map (·.1) = ps.map keyOf) (hc : ∀ p q, (p, q) ∈ ps → ∃ a v, atKey xs [p, q] = some (a, v) ∧ Col r' v (F p q))
    (n : (p, q) ∉ ps) (P : isP w r' d (storedH xs [p, q] a v)) (hv : Col r' v c) : TabC w r' d (ps ++ [(p, q)]) (updF F p q c) ∧ atKey (storedH xs [p, q] a v) [p, q] = some (a, v) := by
  have hn : [p, q] ∉ xs.map (·.1) := by
    rw [k]
    intro z
    obtain ⟨y, hy, e⟩ := List.mem_map.mp z
    have := keyOf_inj (p := y) (q := (p, q)) e
    exact n (this ▸ hy)
  have e0 := atKey_none hn
  have es : storedH xs [p, q] a v = xs ++ [([p, q], a, v)] := storedH_new e0 a v
  have hs : atKey (storedH xs [p, q] a v) [p, q] = some (a, v) := by
    rw [es]; unfold atKey at e0 ⊢
    rw [List.find?_append]
    have : xs.find? (fun x => decide (x.1 = [p, q])) = none := by simpa using e0
    rw [this]; simp
  refine ⟨⟨_, P, by rw [es]; simp [k, keyOf], fun p' q' h => ?_⟩, hs⟩
  by_cases z : p' = p ∧ q' = q
  · obtain ⟨rfl, rfl⟩ := z
    refine ⟨a, v, hs, ?_⟩
    unfold updF; rw [if_pos ⟨rfl, rfl⟩]; exact hv
  · have hin : (p', q') ∈ ps := by
      rcases List.mem_append.mp h with h | h
      · exact h
      · simp at h; exact absurd h z
    obtain ⟨a', v', e, x⟩ := hc p' q' hin
    refine ⟨a', v', ?_, by unfold updF; rw [if_neg z]; exact x⟩
    rw [es]; unfold atKey at e ⊢
    rw [List.find?_append]
    obtain ⟨y, e1, e2⟩ := Option.map_eq_some_iff.mp e
    rw [e1]; simp [e2]
theorem take_snoc {α : Type} {l : List α} {i : Nat} {x : α} (h : l[i]? = some x) : l.take (i + 1) = l.take i ++ [x] := by
  rw [List.take_add_one, h]; rfl
theorem not_taken {l t wd ht : Int} {p : Int × Int} {i : Nat} (hpq : (places l t wd ht)[i]? = some p) : p ∉ (places l t wd ht).take i := fun z => by
  obtain ⟨j, hj⟩ := List.mem_iff_getElem?.mp z
  have hj' : j < i := by have := (List.getElem?_eq_some_iff.mp hj).1; simp at this; lia
  rw [List.getElem?_take_of_lt hj'] at hj
  exact absurd ((List.getElem?_inj (List.getElem?_eq_some_iff.mp hj).1 places_nodup).mp (hj.trans hpq.symm)) (by lia)
theorem mem_taken {α : Type} {l : List α} {i : Nat} {x : α} (h : x ∈ l.take i) : x ∈ l := List.mem_of_mem_take h
theorem places_len {l t wd ht : Int} : (places l t wd ht).length = ht.toNat * wd.toNat := by
  unfold places
  rw [List.length_flatMap]
  simp [List.map_const', List.sum_replicate_nat]
theorem painted_spec (w : World) (r : Heap) (src x : Addr) (rs : List Addr) (l t wd ht : Int) (F0 : Int → Int → C4) (f : Heap) (kf : f.StaysIn r) (fsrc : f.get? src = none) (hrs : ∀ a ∈ rs, f.get? a = none) (K : CSk f x rs l t wd ht) (G : Cells r rs l t wd ht F0) (ok0 : ∀ p q, (F0 p q).Ok) (H : Src w r src) (srs : src ∉ rs) (b1 : wd ≤ 4) (b2 : ht ≤ 3) :
    Call w r (src :: rs) (.ref 570) [.ref src, .ref x] 4 (fun v r' => ∃ d F, v = .ref d ∧ r.get? d = none ∧ Src w r' src ∧ Cells r' rs l t wd ht F ∧ (∀ p q, (F p q).Ok) ∧ TabC w r' d (places l t wd ht) F) := by
  revert kf fsrc hrs K G ok0 H srs b1 b2
  revert w r src x rs l t wd ht F0 f
  refine lift11 (i1 := Pf.nW) ?_; refine (?x96 : ∀ a0 a1 a2 a3 a4 a5 a6 a7 a8 a9 a10, Ap11 _ a0 a1 a2 a3 a4 a5 a6 a7 a8 a9 a10) _ _ _ _ _ _ _ _ _ _ _; intro w r src x rs l t wd ht F0 f; refine Ap11.mk ?_
  intro kf fsrc hrs K G ok0 H srs b1 b2
  refine' enter [("source", .ref src), ("canvas", .ref x)] ?ho ?hcd ?hb ?hkd ?hok ?hnd ?c2 ?c3 ?c4 (fun a ha => by rcases List.mem_cons.mp ha with rfl | ha; exact H.live; exact Grid.live G a ha) ?_
  walk_at "pf enter"
  refine lift8 (i1 := Pf.nA) (i7 := Pf.nS) ?_; refine (?x97 : ∀ a0 a1 a2 a3 a4 a5 a6 a7, Ap8 _ a0 a1 a2 a3 a4 a5 a6 a7) _ _ _ _ _ _ _ _; intro A base g h₁ tk₁ L s Q; refine Ap8.mk ?_
  intro hd hu X T U Z S hret
  have K1 := K.up kf
  refine mpI (id K1) ?_
  refine andI ?_
  walk_at "pf D"
  rename_i bw
  walk_at "pf D"
  walk_at "pf D"
  rename_i bh
  intro _
  walk_at "pf D"
  rename_i Dx
  walk_at "pf D"
  rename_i u1
  walk_at "pf D"
  rename_i u2
  walk_at "pf D"
  rename_i u3
  walk_at "pf D"
  rename_i u4
  walk_at "pf D"
  rename_i Ix
  intro _
  walk_at "pf go"
  rename_i a1 h1 r1 Z1 lo1 e1 S1 s1 f1 f1' h2 Z2
  have kf1 : f.StaysIn r1 := StaysIn.trans kf s1
  refine' At.call (places_spec w r1 x rs _ _ _ _ (K.up kf1)) ?hz ?hS ?hs ?hU ?hd ?hu ?_
  walk_at "pf sides"
  rintro v h' tk' r7 Z7 S7 L7 fr ⟨D, vs, rfl, hD, hP, hDn⟩
  (try dsimp only)
  have H7 := (H.up s1).up (Step.nil L7)
  have kf7 : f.StaysIn r7 := StaysIn.trans kf1 (Step.nil L7)
  have G7 : Cells r7 rs l t wd ht F0 := (G.step (Step.of_stays (as := []) s1) (fun _ _ z => nomatch z)).step L7 (fun _ _ z => nomatch z)
  have P1 : isP w r1 a1 [] := isP.of_empty lo1 e1
  have P7 : isP w r7 a1 [] := P1.up (Step.nil L7)
  have lv : ∀ a ∈ src :: rs, ∃ o, r.get? a = some o := fun a ha => by rcases List.mem_cons.mp ha with rfl | ha; exact H.live; exact Grid.live G a ha
  have an : a1 ∉ src :: rs := fun z => by obtain ⟨o, e⟩ := lv a1 z; rw [e] at f1; cases f1
  have Ds : D ∉ src :: a1 :: rs := fun z => by
    have : ∃ o, r1.get? D = some o := by
      rcases List.mem_cons.mp z with rfl | z
      · obtain ⟨o, e⟩ := H.live; exact ⟨o, s1 _ _ e⟩
      rcases List.mem_cons.mp z with rfl | z
      · exact ⟨_, e1⟩
      · obtain ⟨o, e⟩ := Grid.live G D z; exact ⟨o, s1 _ _ e⟩
    obtain ⟨o, e⟩ := this; rw [e] at hDn; cases hDn
  have fa : f.get? a1 = none := none_of_stays kf f1
  have hn12 : (places l t wd ht).length ≤ 12 := by
    rw [places_len]
    have q1 : ht.toNat ≤ 3 := by lia
    have q2 : wd.toNat ≤ 4 := by lia
    exact Nat.le_trans (Nat.mul_le_mul q1 q2) (by lia)
  refine' for_list (hD.up (At.own (by assumption))) (by assumption) (fun i m' r' => (m' "source" = some (.ref src) ∧ m' "canvas" = some (.ref x) ∧ m' "colours" = some (.ref a1)) ∧ Step (src :: rs) r r' ∧ Step (src :: a1 :: rs) r7 r' ∧ Src w r' src ∧ ∃ F, Cells r' rs l t wd ht F ∧ (∀ p q, (F p q).Ok) ∧ TabC w r' a1 ((places l t wd ht).take i) F) (fun _ _ => False)
    (fun i m' r' h o e => h.2.2.1.keep _ _ Ds e) ⟨⟨rfl, rfl, rfl⟩, S7, Step.refl _ _, H7, _, G7, ok0, [], P7, rfl, fun _ _ z => by simp at z⟩ ?turn ?done (fun _ _ _ _ _ h => h.elim)
  case done =>
    rintro m' r' h tk ⟨⟨e1, e2, e3⟩, S', L', H', F, G', hF, TC⟩ Z'
    rw [hP.1, List.take_length] at TC
    clear Z1 Z2 Z7
    walk_at "pf go"
    refine' hret _ _ _ _ _ ?e1 ?e2 ?e3
    case e1 => assumption
    case e2 => assumption
    case e3 => exact ⟨a1, F, rfl, f1, H', G', hF, TC⟩
  case turn =>
    rintro i v m₁ r₁ h tk gB QT kt hv ⟨⟨e1, e2, e3⟩, S₁, L₁, H₁, F, G₁, hF, xs, P₁, kx, cx⟩ hg Z₁
    have hi : i < (places l t wd ht).length := by rw [← hP.1]; exact (List.getElem?_eq_some_iff.mp hv).1
    obtain ⟨⟨p, q⟩, hpq⟩ : ∃ p, (places l t wd ht)[i]? = some p := ⟨_, List.getElem?_eq_getElem hi⟩
    obtain ⟨pa, tp, tq, rfl, hT⟩ := hP.2 i v _ hv hpq
    have hT₁ := hT.step L₁
    have hin : inb l t wd ht p q := places_get.mp (List.mem_of_getElem? hpq)
    have kf₁ : f.StaysIn r₁ := Step.fz L₁ kf7 (fun a ha => by
      rcases List.mem_cons.mp ha with rfl | ha
      · exact fsrc
      rcases List.mem_cons.mp ha with rfl | ha
      · exact fa
      · exact hrs a ha)
    change Loc _ _ _ at L₁
    have xl : xs.length ≤ 1000 := by
      have := congrArg List.length kx
      simp at this; lia
    have hmem : src ∈ src :: rs := .head _
    obtain ⟨_, Dx', _, _, _, _, Ix', _⟩ := id (K.up kf₁)
    have X₁ := X.keeps hg
    have T₁ := T.keeps hg
    have U₁ := U.mono hg
    clear X T U Z1 Z2 Z7 Ix K1 P7 P1
    walk_at "pf go"
    refine' At.call (colour_spec w r₁ src H₁) ?hz ?hS ?hs ?hU ?hd ?hu ?_
    walk_at "pf sides"
    rintro v1 h' tk' r' Z' S' L' fr ⟨H', c, hc, okc⟩
    (try dsimp only)
    have kf' : f.StaysIn r' := Step.fz L' kf₁ (fun a ha => by rw [List.mem_singleton.mp ha]; exact fsrc)
    have G' : Cells r' rs l t wd ht F := G₁.step L' (fun y hy z => srs (List.mem_singleton.mp z ▸ hy))
    have nas : a1 ∉ [src] := fun z => an (List.mem_singleton.mp z ▸ List.Mem.head _)
    have P' : isP w r' a1 xs := P₁.step L' nas
    clear Z₁ P₁
    walk_at "pf go"
    rename_i aK hK rK ZK RK SK sK fK fK' hS rS tkS ZS RS SS lS
    have kfK : f.StaysIn rK := StaysIn.trans kf' sK
    have kfS : f.StaysIn rS := Step.fz lS kfK (fun a ha => by rw [List.mem_singleton.mp ha]; exact fa)
    obtain ⟨_, DxS, _, _, _, _, IxS, _⟩ := id (K.up kfS)
    have fin := TabC.add (w := w) (r := r') (r' := rS) kx (fun p' q' hh => let ⟨a, v, e, c⟩ := cx p' q' hh; ⟨a, v, e, ((c.step L').step (Step.of_stays (as := []) sK)).step lS⟩) (not_taken hpq) RS ((hc.step (Step.of_stays (as := []) sK)).step lS)
    obtain ⟨fin1, fin2⟩ := fin
    have nrs : ∀ a ∈ rs, a ∉ [a1] := fun a ha z => an (List.mem_singleton.mp z ▸ List.Mem.tail _ ha)
    have GS : Cells rS rs l t wd ht F := (G'.step (Step.of_stays (as := []) sK) (fun _ _ z => nomatch z)).step lS nrs
    have HS : Src w rS src := (H'.up sK).step lS (fun z => an (List.mem_singleton.mp z ▸ List.Mem.head _))
    walk_at "pf go"
    rename_i aT hT' rT ZT RT ST sT fT fT'
    have hcT : Col rT v1 c := ((hc.step (Step.of_stays (as := []) sK)).step lS).step (Step.of_stays (as := []) sT)
    have GT : Cells rT rs l t wd ht F := GS.step (Step.of_stays (as := []) sT) (fun _ _ z => nomatch z)
    have hsr : ∀ a ∈ rs, a ∈ src :: rs ∨ r.get? a = none := fun a ha => .inl (.tail _ ha)
    refine' At.call (cput_spec w rT x rs _ _ _ _ F p q c v1 _ _ (K.up (StaysIn.trans kfS sT)) GT hin hcT) ?hz ?hS ?hs ?hU ?hd ?hu ?_
    walk_at "pf sides"
    rintro v2 h' tk' r'' Z'' S'' L'' fr G''
    (try dsimp only)
    walk_at "pf go"
    have hsr7 : ∀ a ∈ rs, a ∈ src :: a1 :: rs ∨ r7.get? a = none := fun a ha => .inl (.tail _ (.tail _ ha))
    have L7a : Step (src :: a1 :: rs) r7 r' := Step.then (as := src :: a1 :: rs) L₁ L' (fun a ha => .inl (by rw [List.mem_singleton.mp ha]; exact .head _))
    have L7b : Step (src :: a1 :: rs) r7 rS := Step.then (as := src :: a1 :: rs) (Step.then (as := src :: a1 :: rs) (bs := []) L7a (Step.of_stays sK) (fun _ z => nomatch z)) lS (fun a ha => .inl (by rw [List.mem_singleton.mp ha]; exact .tail _ (.head _)))
    have L7c : Step (src :: a1 :: rs) r7 r'' := Step.then (as := src :: a1 :: rs) (Step.then (as := src :: a1 :: rs) (bs := []) L7b (Step.of_stays sT) (fun _ z => nomatch z)) L'' hsr7
    refine TurnEnd.kon kt (by assumption) ⟨⟨by walk_at "pf nm", by walk_at "pf nm", by walk_at "pf nm"⟩, S'', L7c, (HS.up sT).step L'' srs, _, G'', upd_okF hF okc, ?_⟩
    rw [take_snoc hpq]
    exact (fin1.step (Step.of_stays (as := []) sT) (fun z => nomatch z)).step L'' (fun z => an (.tail _ z))
/-! ## a call sees a part -/
noncomputable def joinH (a b : Heap) : Heap := mkHeap (max a.objs.size b.objs.size) fun x => (a.get? x).or (b.get? x)
theorem get_join (a b : Heap) (x : Addr) : (joinH a b).get? x = (a.get? x).or (b.get? x) := by
  refine get_mk (fun y o e => ?_) x
  cases q : a.get? y with
  | some o' =>
    rw [q] at e
    have e : o' = o := by simpa using e
    subst e
    exact ⟨Nat.lt_of_lt_of_le (Heap.lt_size q) (Nat.le_max_left _ _), (Heap.get?_some_iff.mp q).2⟩
  | none =>
    rw [q] at e
    have e : b.get? y = some o := by simpa using e
    exact ⟨Nat.lt_of_lt_of_le (Heap.lt_size e) (Nat.le_max_right _ _), (Heap.get?_some_iff.mp e).2⟩
/-- what a part turned into -/
structure Part (r r₁ r' r₁' : Heap) (as : List Addr) : Prop where
  sub : r₁'.StaysIn r'
  step : Step as r₁ r₁'
  off : ∀ a o, r.get? a = some o → r₁.get? a = none → r₁'.get? a = none
theorem Call.frame {w : World} {r r₁ : Heap} {as : List Addr} {f : Value} {args : List Value} {n : Nat} {P : Value → Heap → Prop} (C : Call w r₁ as f args n P) (k : r₁.StaysIn r) :
    Call w r as f args n (fun v r' => ∃ r₁', P v r₁' ∧ Part r r₁ r' r₁' as) := by
  refine ⟨fun a ha => let ⟨o, e⟩ := C.live a ha; ⟨o, k _ _ e⟩, fun dp un gd env outer base s R hr hx hd hu q => ?_⟩
  have ms : (minus s.heap r).StaysIn (minus s.heap r₁) := fun b o e => by
    have e1 := minus_stays _ _ b o e
    refine minus_some e1 ?_
    cases z : r₁.get? b with
    | none => rfl
    | some o' => rw [minus_none (k _ _ z)] at e; cases e
  refine C.run dp un gd env outer base s R (StaysIn.trans k hr) (hx.mono ms) hd hu fun v h' tk' r₁' a1 a2 a3 a4 a5 => ?_
  have live : ∀ {a : Addr}, r₁.get? a = none → a ∉ as := fun e q => by obtain ⟨o, ho⟩ := C.live _ q; rw [e] at ho; cases ho
  have off : ∀ a o, r.get? a = some o → r₁.get? a = none → r₁'.get? a = none := fun a o e n => a4.right (minus_some (hr _ _ e) n)
  refine q v h' tk' (joinH r₁' r) (fun b o e => ?_) a2 ⟨fun b o hb e => ?_, fun a e => ?_, fun a o e c => ?_⟩ (fun a o e => ?_) ⟨r₁', a5, fun b o e => by rw [get_join, e]; rfl, a3, off⟩
  · rw [get_join] at e
    cases z : r₁'.get? b with
    | some o' => rw [z] at e; cases e; exact a1 _ _ z
    | none =>
      rw [z] at e
      have e : r.get? b = some o := by simpa using e
      exact a2 b o (live (a3.sub _ z)) (hr _ _ e)
  · rw [get_join]
    cases z : r₁'.get? b with
    | some o' =>
      have h1 := a1 _ _ z
      rw [a2 b o hb (hr _ _ e)] at h1
      cases h1; rfl
    | none => simpa using e
  · rw [get_join] at e
    cases z : r₁'.get? a with
    | some o' => rw [z] at e; cases e
    | none => rw [z] at e; simpa using e
  · rw [get_join]
    cases z : r₁.get? a with
    | some o' =>
      have := k _ _ z
      rw [e] at this; cases this
      rw [a3.tup _ _ z c]; rfl
    | none => rw [off a o e z]; simpa using e
  · cases z : r.get? a with
    | some o' => exact minus_none z
    | none =>
      rw [get_join, z] at e
      have e : r₁'.get? a = some o := by simpa using e
      have z1 : r₁.get? a = none := none_of_stays k z
      cases zs : s.heap.get? a with
      | none =>
        cases y : (minus s.heap r).get? a with
        | none => rfl
        | some o2 => have := minus_stays _ _ _ _ y; rw [zs] at this; cases this
      | some o2 => have := a4.right (minus_some zs z1); rw [e] at this; cases this
noncomputable def nilH : Heap := mkHeap 0 fun _ => none
theorem get_nil (a : Addr) : nilH.get? a = none := get_mk (fun _ _ e => by cases e) a
theorem nil_stays (r : Heap) : nilH.StaysIn r := fun b o e => by rw [get_nil] at e; cases e
theorem stays_cut {f r : Heap} {as : List Addr} (k : f.StaysIn r) (n : ∀ a ∈ as, f.get? a = none) : f.StaysIn (cut r as) := fun b o e => cut_get (k _ _ e) fun z => by rw [n b z] at e; cases e
theorem isKey.cut {w : World} {r : Heap} {as : List Addr} {a : Addr} {ks : List Int} (x : isKey w r a ks) (n : ∀ b ∈ as, ∀ o, r.get? b = some o → o.cls ≠ .type "tuple") : isKey w (cut r as) a ks := by
  obtain ⟨o, it, k, e, c, q⟩ := x
  exact ⟨o, it, k, cut_get e fun z => n a z o e c, c, q⟩
theorem isP.cut {w : World} {r : Heap} {as : List Addr} {d : Addr} {xs : Ents} (x : isP w r d xs) (hd : d ∉ as) (n : ∀ b ∈ as, ∀ o, r.get? b = some o → o.cls ≠ .type "tuple") : isP w (cut r as) d xs := by
  obtain ⟨ep, lo, o, es, e, c, q1, q2, q3, q4⟩ := x
  exact ⟨ep, lo, o, es, cut_get e hd, c, q1, q2, fun y hy => isKey.cut (w := w) (q3 y hy) n, q4⟩
theorem isD.cut {w : World} {K : Type} [DecidableEq K] {knd : KeyKind prg w K} {r : Heap} {as : List Addr} {d : Addr} {kvs : List (K × Value)} (x : isD knd r d kvs) (hd : d ∉ as) : isD knd (cut r as) d kvs := by
  obtain ⟨a, o, es, ep, e, q⟩ := x
  exact ⟨a, o, es, ep, cut_get e hd, q⟩
theorem isD.notTup {w : World} {K : Type} [DecidableEq K] {knd : KeyKind prg w K} {r : Heap} {d : Addr} {kvs : List (K × Value)} (x : isD knd r d kvs) : ∀ o, r.get? d = some o → o.cls ≠ .type "tuple" := fun o e => by
  obtain ⟨_, o', es, ep, e', c, _⟩ := x
  rw [e] at e'; cases e'
  rw [c.1]; decide
theorem isP.notTup {w : World} {r : Heap} {d : Addr} {xs : Ents} (x : isP w r d xs) : ∀ o, r.get? d = some o → o.cls ≠ .type "tuple" := fun o e => by
  obtain ⟨_, _, o', es, e', c, _⟩ := x
  rw [e] at e'; cases e'
  rw [c.1]; decide
theorem Src.notTup {w : World} {r : Heap} {src : Addr} (H : Src w r src) : ∀ o, r.get? src = some o → o.cls ≠ .type "tuple" := by
  obtain ⟨_, _, _, _, _, D, _⟩ := H
  exact D.notTup
theorem not_live {f r : Heap} {a : Addr} (h : r.get? a = none) (k : f.StaysIn r) : f.get? a = none := none_of_stays k h
/-! ## tables of ints by places -/
noncomputable def TabI (w : World) (r : Heap) (d : Addr) (n : Nat) (G : Int → Int → Int) : Prop :=
  ∃ xs : Ents, isP w r d xs ∧ xs.length ≤ n ∧ ∀ p q, (∃ t, (atKey xs [p, q]).map (·.2) = some (.int (G p q) t)) ∨ ((atKey xs [p, q]).map (·.2) = none ∧ G p q = 0)
theorem TabI.up {w : World} {r r' : Heap} {d : Addr} {n : Nat} {G : Int → Int → Int} (T : TabI w r d n G) (k : r.StaysIn r') : TabI w r' d n G := by
  obtain ⟨xs, P, q⟩ := T
  exact ⟨xs, P.up k, q⟩
theorem TabI.step {w : World} {as : List Addr} {r r' : Heap} {d : Addr} {n : Nat} {G : Int → Int → Int} (T : TabI w r d n G) (S : Step as r r') (h : d ∉ as) : TabI w r' d n G := by
  obtain ⟨xs, P, q⟩ := T
  exact ⟨xs, P.step S h, q⟩
theorem TabI.cut {w : World} {r : Heap} {as : List Addr} {d : Addr} {n : Nat} {G : Int → Int → Int} (T : TabI w r d n G) (hd : d ∉ as) (h : ∀ b ∈ as, ∀ o, r.get? b = some o → o.cls ≠ .type "tuple") : TabI w (cut r as) d n G := by
  obtain ⟨xs, P, q⟩ := T
  exact ⟨xs, P.cut hd h, q⟩
theorem TabI.more {w : World} {r : Heap} {d : Addr} {n k : Nat} {G : Int → Int → Int} (T : TabI w r d n G) (h : n ≤ k) : TabI w r d k G := by
  obtain ⟨xs, P, l, q⟩ := T
  exact ⟨xs, P, by lia, q⟩
theorem TabI.nil {w : World} {r : Heap} {d : Addr} (P : isP w r d []) : TabI w r d 0 (fun _ _ => 0) := ⟨[], P, Nat.le_refl _, fun _ _ => .inr ⟨rfl, rfl⟩⟩
theorem TabI.add {w : World} {r' : Heap} {d a : Addr} {n : Nat} {G : Int → Int → Int} {xs : Ents} {p q z : Int} {t : Tok} (hl : xs.length ≤ n) (h : ∀ p q, (∃ t, (atKey xs [p, q]).map (·.2) = some (.int (G p q) t)) ∨ ((atKey xs [p, q]).map (·.2) = none ∧ G p q = 0))
    (P : isP w r' d (storedH xs [p, q] a (.int z t))) : TabI w r' d (n + 1) (updF G p q z) := by
  refine ⟨_, P, Nat.le_trans storedH_len (by lia), fun p' q' => ?_⟩
  rw [atKey_stored]
  unfold updF
  by_cases e : p' = p ∧ q' = q
  · obtain ⟨rfl, rfl⟩ := e
    rw [if_pos rfl, if_pos ⟨rfl, rfl⟩]
    exact .inl ⟨t, rfl⟩
  · have e' : ¬ [p', q'] = [p, q] := fun z => e (by simpa using z)
    rw [if_neg e', if_neg e]
    exact h p' q'
theorem TabI.ext {w : World} {r : Heap} {d : Addr} {n : Nat} {G G' : Int → Int → Int} (T : TabI w r d n G) (h : ∀ p q, G p q = G' p q) : TabI w r d n G' := by
  have : G = G' := funext fun p => funext fun q => h p q
  rw [← this]; exact T
section
variable {w : World} {A : Around} {E : Value → Shared → Prop} {s : Shared} {g : Heap} {cs : List Addr} {env : Env} {m : Str → Option Value} {r : Heap} {d a : Addr} {n : Nat} {G : Int → Int → Int} {p q : Int}
theorem tabI_get {u : Tok} {Q : Value → Shared → Prop} (T : autoParam (TabI w s.heap d n G) Ln.a_tabI) (hk : autoParam (isKey w s.heap a [p, q]) Ln.a_hkey) (hu : autoParam (A.units + 1 < cLine) Ln.a_om) (h : ∀ t tk, Q (.int (G p q) t) { s with toks := tk }) : wpAny (model prg w) A (call (.builtin "dict.get") [.ref d, .ref a, .int 0 u]) Q E s := by
  obtain ⟨xs, P, _, hx⟩ := T
  refine tab_get P hk hu ?_
  rcases hx p q with ⟨t, e⟩ | ⟨e, e0⟩
  · rw [e]; exact h t _
  · rw [e]
    have := h u (s.toks + (tK w).draws [p, q])
    rw [e0] at this; exact this
theorem tabI_meth {pl : Sem Bool} {Q : Value × List Value → Shared → Prop} (T : autoParam (TabI w s.heap d n G) Ln.a_tabI) (h : Q (.builtin "dict.get", [.ref d]) s) : wpAny (model prg w) A (getMethod (.ref d) "get" pl) Q E s := by
  obtain ⟨_, P, _⟩ := T
  exact tab_meth P h
theorem range_3 {x y z : Int} {t u v : Tok} {Q : Value → Shared → Prop} (hz : autoParam (z ≠ 0) Ln.a_de) (hp : autoParam (Builtin.divisionGoesByPylong (y - x) z = false ∨ PySem.PylongRoom (model prg w) A s) Ln.a_pl) (Z : autoParam (At w g cs env m r s.heap) Ln.a_at)
    (h : ∀ rr h' tk v, At w g cs env m r h' → New g cs env r rr → IsRange h' rr x y z t u v → s.heap.StaysIn h' → Q (.ref rr) { s with heap := h', toks := tk }) :
    wpAny (model prg w) A (call (.type "range") [.int x t, .int y u, .int z v]) Q E s :=
  call_range_3 hz (h _ _ _ _ (Z.push _) Z.pushed (IsRange.new _ _ _ _ _ _ _) (stays_push _ _)) hp
end
theorem wt_255 {a : Int} : wt 255 a = a := by
  unfold wt
  rw [Int.fdiv_eq_ediv_of_nonneg _ (by lia)]
  lia
theorem wt_comm (a b : Int) : wt a b = wt b a := by
  unfold wt
  rw [show 2 * a * b = 2 * b * a by rw [Int.mul_assoc, Int.mul_comm a b, ← Int.mul_assoc]]
theorem clf_two (f g : Int → Int → Int) (a b : Int) : clf [f, g] a b = wt (f a b) (g a b) := by
  show wt (wt 255 (f a b)) (g a b) = _
  rw [wt_255]
theorem clf_one (f : Int → Int → Int) (a b : Int) : clf [f] a b = f a b := by
  show wt 255 (f a b) = _
  exact wt_255
/-! ## the law's layers -/
noncomputable def SpansOf (f : Heap) (kvs : List (Int × Value)) (Sp : Int → Option (Int × Int)) : Prop :=
  (∀ y v, valueAt kvs y = some v → ∃ ax, v = .ref ax ∧ SpanAt f ax (Sp y)) ∧ (∀ y, valueAt kvs y = none → Sp y = none) ∧ ∀ y a b, Sp y = some (a, b) → -4 ≤ a ∧ a ≤ 4 ∧ a < b ∧ b ≤ 8
noncomputable def updS (Sp : Int → Option (Int × Int)) (y : Int) (sp : Option (Int × Int)) : Int → Option (Int × Int) := fun z => if z = y then sp else Sp z
theorem SpansOf.nil {f : Heap} : SpansOf f [] (fun _ => none) := ⟨fun _ _ e => (nomatch e), fun _ _ => rfl, fun _ _ _ e => (nomatch e)⟩
theorem SpansOf.up {f f' : Heap} {kvs : List (Int × Value)} {Sp : Int → Option (Int × Int)} (x : SpansOf f kvs Sp) (k : f.StaysIn f') : SpansOf f' kvs Sp := ⟨fun y v e => let ⟨ax, a, b⟩ := x.1 y v e; ⟨ax, a, b.up k⟩, x.2⟩
theorem SpansOf.add {f : Heap} {kvs : List (Int × Value)} {Sp : Int → Option (Int × Int)} {y : Int} {sp : Option (Int × Int)} {ax : Addr} (x : SpansOf f kvs Sp) (h : SpanAt f ax sp) (hb : ∀ a b, sp = some (a, b) → -4 ≤ a ∧ a ≤ 4 ∧ a < b ∧ b ≤ 8) :
    SpansOf f (stored kvs y (.ref ax)) (updS Sp y sp) := by
  obtain ⟨x1, x2, x3⟩ := x
  unfold updS
  refine ⟨fun z v e => ?_, fun z e => ?_, fun z a b e => ?_⟩ <;> dsimp only at e ⊢
  · rw [valueAt_stored] at e
    by_cases q : z = y
    · rw [if_pos q] at e ⊢; cases e; exact ⟨ax, rfl, h⟩
    · rw [if_neg q] at e ⊢; exact x1 z v e
  · rw [valueAt_stored] at e
    by_cases q : z = y
    · rw [if_pos q] at e; cases e
    · rw [if_neg q] at e ⊢; exact x2 z e
  · by_cases q : z = y
    · rw [if_pos q] at e; exact hb a b e
    · rw [if_neg q] at e; exact x3 z a b e
theorem isT.cut {r : Heap} {as : List Addr} {a : Addr} {vs : List Value} (x : isT r a vs) (n : ∀ b ∈ as, ∀ o, r.get? b = some o → o.cls ≠ .type "tuple") : isT (cut r as) a vs := by
  obtain ⟨k, e⟩ := x
  exact ⟨k, cut_get e fun z => n a z _ e rfl⟩
theorem isL.cut {r : Heap} {as : List Addr} {a : Addr} {vs : List Value} (x : isL r a vs) (n : a ∉ as) : isL (cut r as) a vs := by
  obtain ⟨k, e⟩ := x
  exact ⟨k, cut_get e n⟩
theorem SpanAt.cut {r : Heap} {as : List Addr} {a : Addr} {sp : Option (Int × Int)} (x : SpanAt r a sp) (h : a ∉ as) (n : ∀ b ∈ as, ∀ o, r.get? b = some o → o.cls ≠ .type "tuple") : SpanAt (cut r as) a sp := by
  cases sp with
  | none => exact isL.cut x h
  | some p => obtain ⟨q, t, u, y, z⟩ := x; exact ⟨q, t, u, y.cut h, z.cut n⟩
theorem SpanAt.step {as : List Addr} {r r' : Heap} {a : Addr} {sp : Option (Int × Int)} (x : SpanAt r a sp) (S : Step as r r') (h : a ∉ as) : SpanAt r' a sp := by
  cases sp with
  | none => exact isL.step x S h
  | some p => obtain ⟨q, t, u, y, z⟩ := x; exact ⟨q, t, u, y.step S h, z.step S⟩
theorem spans_next {f rA rB : Heap} {src a1 a2 ax : Addr} {y : Int} {sp : Option (Int × Int)} {kvs : List (Int × Value)} {Sp : Int → Option (Int × Int)} (kf : f.StaysIn rA) (fs : f.get? src = none ∧ f.get? a1 = none ∧ f.get? a2 = none) (l : Step [a1] rA rB) (Ss : SpansOf f kvs Sp) (hA : SpanAt rA ax sp)
    (h1 : ax ≠ src) (h2 : ax ≠ a1) (h3 : ax ≠ a2) (n : ∀ b ∈ [src, a1, a2], ∀ o, rB.get? b = some o → o.cls ≠ .type "tuple") (hb : ∀ a b, sp = some (a, b) → -4 ≤ a ∧ a ≤ 4 ∧ a < b ∧ b ≤ 8) :
    ∃ f', f'.StaysIn rB ∧ (f'.get? src = none ∧ f'.get? a1 = none ∧ f'.get? a2 = none) ∧ SpansOf f' (stored kvs y (.ref ax)) (updS Sp y sp) := by
  have fn : ∀ a ∈ [src, a1, a2], f.get? a = none := fun a ha => by
    simp only [List.mem_cons, List.not_mem_nil, or_false] at ha
    rcases ha with rfl | rfl | rfl
    · exact fs.1
    · exact fs.2.1
    · exact fs.2.2
  have kB : f.StaysIn rB := Step.fz l kf fun a ha => by rw [List.mem_singleton.mp ha]; exact fs.2.1
  exact ⟨cut rB [src, a1, a2], cut_stays, ⟨cut_none (by simp), cut_none (by simp), cut_none (by simp)⟩, (Ss.up (stays_cut kB fn)).add ((hA.step l (by simpa using h2)).cut (by simp [h1, h2, h3]) n) hb⟩
inductive LM1 (src a1 a2 : Addr) (m' : Str → Option Value) : Prop
  | mk (h1 : m' "source" = some (.ref src)) (h2 : m' "rows" = some (.ref a1)) (h3 : m' "alphas" = some (.ref a2)) : LM1 src a1 a2 m'
inductive LJ1 (w : World) (r : Heap) (src a1 a2 : Addr) (i : Nat) (m' : Str → Option Value) (r' : Heap) : Prop
  | mk (h1 : LM1 src a1 a2 m') (h2 : Step [src] r r') (kvs : List (Int × Value)) (Sp : Int → Option (Int × Int)) (f : Heap) (h3 : isD (iK w) r' a1 kvs) (h4 : kvs.length ≤ i) (h5 : f.StaysIn r')
    (h6 : f.get? src = none ∧ f.get? a1 = none ∧ f.get? a2 = none) (h7 : SpansOf f kvs Sp) (h8 : Src w r' src) (h9 : isP w r' a2 []) : LJ1 w r src a1 a2 i m' r'
inductive LM2 (src a1 a2 x : Addr) (l : Int) (tl : Tok) (m' : Str → Option Value) : Prop
  | mk (h1 : m' "source" = some (.ref src)) (h2 : m' "rows" = some (.ref a1)) (h3 : m' "alphas" = some (.ref a2)) (h4 : m' "alpha_map" = some (.ref x)) (h5 : m' "left" = some (.int l tl)) : LM2 src a1 a2 x l tl m'
inductive LJ2 (w : World) (r : Heap) (src a1 a2 x : Addr) (rs : List Addr) (fr : Heap) (l t wd ht : Int) (tl tw : Tok) (N : Nat) (m' : Str → Option Value) (r' : Heap) : Prop
  | mk (h1 : LM2 src a1 a2 x l tl m') (h2 : Step [src] r r') (h3 : Src w r' src) (h4 : fr.StaysIn r') (fm : Heap) (F G : Int → Int → Int) (h5 : fm.StaysIn r') (h6 : fm.get? src = none ∧ fm.get? a2 = none)
    (h7 : AMap fm x rs l t wd ht F) (h8 : TabI w r' a2 N G) (h9 : ∀ p q, G p q = if inb l t wd ht p q then F p q else 0) (h10 : ∀ p q, 0 ≤ G p q ∧ G p q ≤ 255) : LJ2 w r src a1 a2 x rs fr l t wd ht tl tw N m' r'
inductive LJ3 (w : World) (rb : Heap) (D a1 : Addr) (N : Nat) (G : Int → Int → Int) (m' : Str → Option Value) (r' : Heap) : Prop
  | mk (h1 : m' "rows" = some (.ref a1)) (h2 : Step [D] (put rb D emptyDict) r') (h3 : TabI w r' D N G) : LJ3 w rb D a1 N G m' r'
noncomputable def upTo (kvs : List (Int × Value)) (Sp : Int → Option (Int × Int)) (i : Nat) (p q : Int) : Prop := q ∈ (kvs.map (·.1)).take i ∧ inSpan (Sp q) p = true
theorem if2 {a b : Prop} [Decidable a] [Decidable b] (h : a ↔ b) : (if a then (255 : Int) else 0) = if b then 255 else 0 := by
  by_cases z : a
  · rw [if_pos z, if_pos (h.mp z)]
  · rw [if_neg z, if_neg fun q => z (h.mpr q)]
theorem intKey_of {w : World} {k : Int} {v : Value} (h : (iK w).is k v = true) : ∃ t, v = .int k t := by
  have h' : Value.isInt k v = true := h
  cases v <;> simp [Value.isInt] at h'
  rename_i n t
  exact ⟨t, by rw [h']⟩
theorem upTo_succ {kvs : List (Int × Value)} {Sp : Int → Option (Int × Int)} {i : Nat} {y : Int} {x : Value} (h : kvs[i]? = some (y, x)) (p q : Int) : upTo kvs Sp (i + 1) p q ↔ upTo kvs Sp i p q ∨ (q = y ∧ inSpan (Sp y) p = true) := by
  unfold upTo
  have e : (kvs.map (·.1))[i]? = some y := by rw [List.getElem?_map, h]; rfl
  rw [take_snoc e, List.mem_append, List.mem_singleton]
  constructor
  · rintro ⟨z | rfl, b⟩
    · exact .inl ⟨z, b⟩
    · exact .inr ⟨rfl, b⟩
  · rintro (⟨z, b⟩ | ⟨rfl, b⟩)
    · exact ⟨.inl z, b⟩
    · exact ⟨.inr rfl, b⟩
theorem isD.nodup {w : World} {K : Type} [DecidableEq K] {knd : KeyKind prg w K} {r : Heap} {d : Addr} {kvs : List (K × Value)} (x : isD knd r d kvs) : (kvs.map (·.1)).Nodup := by
  obtain ⟨_, _, _, _, _, _, _, _, _, q⟩ := x
  exact q
inductive LayersOf (w : World) (f : Heap) (ll tl x0 x1 d0 d1 : Addr) (G0 G1 : Int → Int → Int) : Prop
  | mk (h1 : isL f ll [.ref x0, .ref x1]) (h2 : isL f tl [.ref d0, .ref d1]) (h3 : Lay w f x0 G0) (h4 : Lay w f x1 G1) (h5 : TabI w f d0 100 G0) (h6 : TabI w f d1 100 G1) (h7 : G1 9 9 = 0) : LayersOf w f ll tl x0 x1 d0 d1 G0 G1
open Classical in
theorem layers_facts {kvs : List (Int × Value)} {Sp : Int → Option (Int × Int)} {G0 : Int → Int → Int} (h : ∀ p q, G0 p q = if upTo kvs Sp kvs.length p q then 255 else 0) (hn : ∀ y, valueAt kvs y = none → Sp y = none) : ∀ p q, G0 p q = if inSpan (Sp q) p = true then 255 else 0 := fun p q => by
  rw [h p q]
  refine if2 ?_
  unfold upTo
  have e : (kvs.map (·.1)).take kvs.length = kvs.map (·.1) := List.take_of_length_le (by simp)
  rw [e]
  constructor
  · exact fun z => z.2
  · intro z
    refine ⟨?_, z⟩
    cases hv : valueAt kvs q with
    | none => rw [hn q hv] at z; cases z
    | some v =>
      unfold valueAt at hv
      obtain ⟨kv, e1, _⟩ := Option.map_eq_some_iff.mp hv
      have := List.find?_some (p := fun kv : Int × Value => decide (kv.1 = q)) e1
      exact List.mem_map.mpr ⟨kv, List.mem_of_find?_eq_some e1, by simpa using this⟩
open Classical in
theorem law_layers (w : World) (r : Heap) (src : Addr) (H : Src w r src) :
    Call w r [src] (.ref 558) [.ref src] 4 (fun v r' => ∃ tp ll tl x0 x1 d0 d1 G0 G1 f, v = .ref tp ∧ f.StaysIn r' ∧ f.get? src = none ∧ Src w r' src ∧ isT f tp [.ref ll, .ref tl] ∧ LayersOf w f ll tl x0 x1 d0 d1 G0 G1) := by
  revert H
  revert w r src
  refine lift3 (i1 := Pf.nW) ?_; refine (?x98 : ∀ a0 a1 a2, Ap3 _ a0 a1 a2) _ _ _; intro w r src; refine Ap3.mk ?_
  intro H
  refine' enter [("source", .ref src)] ?ho ?hcd ?hb ?hkd ?hok ?hnd ?c2 ?c3 ?c4 (fun a ha => by rw [List.mem_singleton.mp ha]; exact H.live) ?_
  walk_at "pf enter"
  refine lift8 (i1 := Pf.nA) (i7 := Pf.nS) ?_; refine (?x99 : ∀ a0 a1 a2 a3 a4 a5 a6 a7, Ap8 _ a0 a1 a2 a3 a4 a5 a6 a7) _ _ _ _ _ _ _ _; intro A base g h₁ tk₁ L s Q; refine Ap8.mk ?_
  intro hd hu X T U Z S hret
  walk_at "pf go"
  rename_i a1 h1 r1 Z1 lo1 e1 S1 s1 f1 f1' a2 h2 r2 Z2 lo2 e2 S2 s2 f2 f2' a3 h3 r3 Z3 R3 S3 s3 f3 f3' h4 Z4 s4 h5 Z5 h6 Z6 rr h7 tk7 v7 Z7 n7 R7 s7
  have D3 : isD (iK w) r3 a1 [] := ((isD.of_empty lo1 e1).up s2).up s3
  have P3 : isP w r3 a2 [] := (isP.of_empty lo2 e2).up s3
  have H3 : Src w r3 src := ((H.up s1).up s2).up s3
  have n1 : a1 ≠ src := ne_live f1 H.live
  have n2 : a2 ≠ src := ne_live f2 (H.up s1).live
  have n12 : a2 ≠ a1 := ne_live f2 ⟨_, e1⟩
  have N3 : nilH.get? src = none ∧ nilH.get? a1 = none ∧ nilH.get? a2 = none := ⟨get_nil _, get_nil _, get_nil _⟩
  have hsr : ∀ a ∈ [src], a ∈ [src] ∨ r.get? a = none := fun a ha => .inl ha
  refine' for_range (n := ((5 : Int) - (-3)).toNat) R7 (small_one (by lia) (by lia) (by lia) (by lia)) (size_to _ _) Z7
    (LJ1 w r src a1 a2) (fun _ _ => False)
    ⟨⟨rfl, rfl, rfl⟩, S3, [], fun _ => none, nilH, D3, Nat.le_refl 0, nil_stays r3, N3, SpansOf.nil, H3, P3⟩ ?turn ?done (fun _ _ _ _ _ h => h.elim)
  case turn =>
    rintro i ti m₁ r₁ h tk gB QT kt hi ⟨⟨e1', e2', e3'⟩, S₁, kvs, Sp, f, D₁, kl, kf, ⟨fs, fa1, fa2⟩, Ss, H₁, P₁⟩ hg Z₁
    have X₁ := X.keeps hg
    have T₁ := T.keeps hg
    have U₁ := U.mono hg
    have ka1 : a1 ∉ [src] := fun z => n1 (List.mem_singleton.mp z)
    have ka2 : a2 ∉ [src] := fun z => n2 (List.mem_singleton.mp z)
    have kfs : ∀ a ∈ [src], f.get? a = none := fun a ha => by rw [List.mem_singleton.mp ha]; exact fs
    clear X T U Z Z1 Z2 Z3 Z4 Z5 Z6 Z7
    walk_at "pf go"
    refine' At.call (next_spec w r₁ src 9 _ H₁ (by lia) (by lia)) ?hz ?hS ?hs ?hU ?hd ?hu ?_
    walk_at "pf sides"
    rintro v h' tk' r4 Z4 S4 L4 fr ⟨H4, n4, ⟨t4, rfl⟩, b4, b4'⟩
    (try dsimp only)
    clear Z₁
    walk_at "pf go"
    refine' At.call (next_spec w r4 src 3 _ H4 (by lia) (by lia)) ?hz ?hS ?hs ?hU ?hd ?hu ?_
    walk_at "pf sides"
    rintro v h' tk' r5 Z5 S5 L5 fr ⟨H5, n5, ⟨t5, rfl⟩, b5, b5'⟩
    (try dsimp only)
    clear Z4
    have D5 := (D₁.step L4 ka1).step L5 ka1
    have P5 := (P₁.step L4 ka2).step L5 ka2
    have kf5 : f.StaysIn r5 := Step.fz L5 (Step.fz L4 kf kfs) kfs
    walk_at "pf go"
    · refine' At.call (next_spec w r5 src 4 _ H5 (by lia) (by lia)) ?hz ?hS ?hs ?hU ?hd ?hu ?_
      walk_at "pf sides"
      rintro v h' tk' r6 Z6 S6 L6 fr ⟨H6, n6, ⟨t6, rfl⟩, b6, b6'⟩
      (try dsimp only)
      clear Z5
      have D6 := D5.step L6 ka1
      have P6 := P5.step L6 ka2
      have kf6 : f.StaysIn r6 := Step.fz L6 kf5 kfs
      walk_at "pf go"
      rename_i aq hq rq Zq Rq Sq sq fq fq' al hl' rl Zl Rl Sl sl fl fl' hd' rd tkd Zd Rd Sd ld
      have nq : al ≠ src := ne_live fl (H6.up sq).live
      have nq1 : al ≠ a1 := ne_live fl (let ⟨_, o, es, ep, e, _⟩ := D6.up sq; ⟨o, e⟩)
      have nq2 : al ≠ a2 := ne_live fl (P6.up sq).live
      have Hd : Src w rd src := ((H6.up sq).up sl).step ld (fun z => n1 (List.mem_singleton.mp z).symm)
      have Pd : isP w rd a2 [] := ((P6.up sq).up sl).step ld (fun z => n12 (List.mem_singleton.mp z))
      obtain ⟨f', q1, q2, q3⟩ := spans_next (y := -3 + (i : Int) * 1) (sp := some (n4 - 4, n4 - 4 + 1 + n6)) (StaysIn.trans (StaysIn.trans kf6 sq) sl) ⟨fs, fa1, fa2⟩ ld Ss ⟨aq, _, _, Rl, Rq.up sl⟩ nq nq1 nq2 (fun b hb => by
        simp only [List.mem_cons, List.not_mem_nil, or_false] at hb
        rcases hb with rfl | rfl | rfl
        · exact Hd.notTup
        · exact Rd.notTup
        · exact Pd.notTup) (fun a b e => by cases e; lia)
      exact TurnEnd.kon kt (by assumption) ⟨⟨by walk_at "pf nm", by walk_at "pf nm", by walk_at "pf nm"⟩, Sd, _, _, f', Rd, Nat.le_trans stored_len (by lia), q1, q2, q3, Hd, Pd⟩
    · rename_i al hl' rl Zl Rl Sl sl fl fl' hd' rd tkd Zd Rd Sd ld
      have nq : al ≠ src := ne_live fl H5.live
      have nq1 : al ≠ a1 := ne_live fl (let ⟨_, o, es, ep, e, _⟩ := D5; ⟨o, e⟩)
      have nq2 : al ≠ a2 := ne_live fl P5.live
      have Hd : Src w rd src := (H5.up sl).step ld (fun z => n1 (List.mem_singleton.mp z).symm)
      have Pd : isP w rd a2 [] := (P5.up sl).step ld (fun z => n12 (List.mem_singleton.mp z))
      obtain ⟨f', q1, q2, q3⟩ := spans_next (y := -3 + (i : Int) * 1) (sp := none) (StaysIn.trans kf5 sl) ⟨fs, fa1, fa2⟩ ld Ss Rl nq nq1 nq2 (fun b hb => by
        simp only [List.mem_cons, List.not_mem_nil, or_false] at hb
        rcases hb with rfl | rfl | rfl
        · exact Hd.notTup
        · exact Rd.notTup
        · exact Pd.notTup) (fun a b e => by cases e)
      exact TurnEnd.kon kt (by assumption) ⟨⟨by walk_at "pf nm", by walk_at "pf nm", by walk_at "pf nm"⟩, Sd, _, _, f', Rd, Nat.le_trans stored_len (by lia), q1, q2, q3, Hd, Pd⟩
  case done =>
    rintro m' r' h tk ⟨⟨e1', e2', e3'⟩, S₁, kvs, Sp, f, D₁, kl, kf, ⟨fs, fa1, fa2⟩, Ss, H₁, P₁⟩ Z₁
    clear Z1 Z2 Z3 Z4 Z5 Z6 Z7
    have kl8 : kvs.length ≤ 8 := kl
    have frs : ∀ a ∈ [src], (cut r' [src, a2]).get? a = none := fun a ha => by rw [List.mem_singleton.mp ha]; exact cut_none (by simp)
    have fra : (cut r' [src, a2]).get? a2 = none := cut_none (by simp)
    have kfr : (cut r' [src, a2]).StaysIn r' := cut_stays
    have Rw : RowsOf w (cut r' [src, a2]) a1 Sp := ⟨kvs, D₁.cut (by simp [n1, Ne.symm n12]), by lia, fun y v e => let ⟨ax, q1, q2⟩ := Ss.1 y v e; ⟨ax, q1, q2.up (stays_cut kf (fun a ha => by
      simp only [List.mem_cons, List.not_mem_nil, or_false] at ha
      rcases ha with rfl | rfl
      · exact fs
      · exact fa2))⟩, Ss.2.1⟩
    have Dk : isD (iK w) (cut r' [src, a2]) a1 kvs := D₁.cut (by simp [n1, Ne.symm n12])
    have Sk := Ss.2.2
    have Sn := Ss.2.1
    have Sv : ∀ y v, valueAt kvs y = some v → ∃ ax, v = .ref ax ∧ SpanAt (cut r' [src, a2]) ax (Sp y) := let ⟨kvs', q1, q2, q3, q4⟩ := Rw; fun y v e => by
      obtain ⟨ax, z1, z2⟩ := Ss.1 y v e
      exact ⟨ax, z1, z2.up (stays_cut kf (fun a ha => by
        simp only [List.mem_cons, List.not_mem_nil, or_false] at ha
        rcases ha with rfl | rfl
        · exact fs
        · exact fa2))⟩
    generalize cut r' [src, a2] = fr at frs fra kfr Rw Dk Sv
    have T0 : TabI w r' a2 0 (fun _ _ => 0) := TabI.nil P₁
    have ka2 : a2 ∉ [src] := fun z => n2 (List.mem_singleton.mp z)
    clear kf fs fa1 fa2 Ss D₁ P₁
    walk_at "pf go"
    refine' At.call (next_spec w r' src 6 _ H₁ (by lia) (by lia)) ?hz ?hS ?hs ?hU ?hd ?hu ?_
    walk_at "pf sides"
    rintro v h' tk' r4 Z4 S4 L4 fx4 ⟨H4, n4, ⟨t4, rfl⟩, b4, b4'⟩
    (try dsimp only)
    clear Z₁
    walk_at "pf go"
    refine' At.call (next_spec w r4 src 6 _ H4 (by lia) (by lia)) ?hz ?hS ?hs ?hU ?hd ?hu ?_
    walk_at "pf sides"
    rintro v h' tk' r5 Z5 S5 L5 fx5 ⟨H5, n5, ⟨t5, rfl⟩, b5, b5'⟩
    (try dsimp only)
    clear Z4
    have k5 : fr.StaysIn r5 := Step.fz L5 (Step.fz L4 kfr frs) frs
    have T5 := (T0.step L4 ka2).step L5 ka2
    walk_at "pf go"
    rename_i a6 h6 r6 Z6 R6 S6 s6 f6 f6' h7 Z7 s7 h8 Z8 h9 Z9
    have H6 := H5.up s6
    have T6 := T5.up s6
    have k6 : fr.StaysIn r6 := StaysIn.trans k5 s6
    clear Z5 Z6 Z7 Z8
    refine' At.call (next_spec w r6 src 4 _ H6 (by lia) (by lia)) ?hz ?hS ?hs ?hU ?hd ?hu ?_
    walk_at "pf sides"
    rintro v h' tk' r7 Z7 S7 L7 fx7 ⟨H7, n7, ⟨t7, rfl⟩, b7, b7'⟩
    (try dsimp only)
    clear Z9
    walk_at "pf go"
    refine' At.call (next_spec w r7 src 3 _ H7 (by lia) (by lia)) ?hz ?hS ?hs ?hU ?hd ?hu ?_
    walk_at "pf sides"
    rintro v h' tk' r8 Z8 S8 L8 fx8 ⟨H8, n8, ⟨t8, rfl⟩, b8, b8'⟩
    (try dsimp only)
    clear Z7
    have k8 : fr.StaysIn r8 := Step.fz L8 (Step.fz L7 k6 frs) frs
    have T8 := (T6.step L7 ka2).step L8 ka2
    walk_at "pf go"
    refine' At.call ((map_make w nilH (n4 - 3) (n5 - 3) n7 (1 + n8) _ _ _ _ (by lia) (by lia) (by lia) (by lia)).frame (nil_stays r8)) ?hz ?hS ?hs ?hU ?hd ?hu ?_
    walk_at "pf sides"
    rintro v h' tk' r9 Z9 S9 L9 fx9 ⟨fm, ⟨x, rs, rfl, Am, hrs⟩, Pm⟩
    (try dsimp only)
    clear Z8
    have s9 : r8.StaysIn r9 := Step.nil L9
    have H9 := H8.up s9
    have T9 := T8.up s9
    have k9 : fr.StaysIn r9 := StaysIn.trans k8 s9
    have fms : fm.get? src = none := let ⟨o, e⟩ := H8.live; Pm.off src o e (get_nil _)
    have fma : fm.get? a2 = none := let ⟨_, P, _⟩ := T8; let ⟨o, e⟩ := P.live; Pm.off a2 o e (get_nil _)
    have hrs8 : ∀ a ∈ rs, r8.get? a = none := fun a ha => by
      cases q : r8.get? a with
      | none => rfl
      | some o => have := Pm.off a o q (get_nil _); obtain ⟨o', e⟩ := Grid.live Am.2.2 a ha; rw [this] at e; cases e
    have hrf : ∀ a ∈ rs, fr.get? a = none := fun a ha => none_of_stays k8 (hrs8 a ha)
    have hrr : ∀ a ∈ rs, a ∈ [src] ∨ r.get? a = none := fun a ha => .inr (S8.sub _ (hrs8 a ha))
    have srs : src ∉ rs := fun z => by have := hrs8 src z; obtain ⟨o, e⟩ := H8.live; rw [e] at this; cases this
    have ars : a2 ∉ rs := fun z => by have := hrs8 a2 z; obtain ⟨_, P, _⟩ := T8; obtain ⟨o, e⟩ := P.live; rw [e] at this; cases this
    obtain ⟨f0, D0, q1, q2, q3, q4, kf0, nf0, I0, _⟩ := Am.2.1
    have I9 := I0.up (StaysIn.trans kf0 Pm.sub)
    walk_at "pf go"
    rename_i hA ZA rr hR tkR vR ZR nR RR sR
    have T9' := T9
    clear Z9 ZA T9'
    have kfm9 := Pm.sub
    clear Pm I9 I0
    generalize hl : n4 - 3 = l at *
    generalize ht : n5 - 3 = t at *
    refine' for_range (n := (t + (1 + n8) - t).toNat) RR (small_one (by lia) (by lia) (by lia) (by lia)) (size_to _ _) ZR
      (fun i => LJ2 w r src a1 a2 x rs fr l t n7 (1 + n8) _ t7 (i * 3)) (fun _ _ => False)
      ⟨⟨by walk_at "pf nm", by walk_at "pf nm", by walk_at "pf nm", by walk_at "pf nm", by walk_at "pf nm"⟩, S9, H9, k9, fm, _, _, kfm9, ⟨fms, fma⟩, Am, T9.more (by lia), fun p q => by simp, fun p q => by lia⟩ ?turn2 ?done2 (fun _ _ _ _ _ h => h.elim)
    case turn2 =>
      rintro i ti m₁ r₁ h tk gB QT kt hi ⟨⟨u1, u2, u3, u4, u5⟩, S₁, H₁', k₁, fm₁, F₁, G₁, kfm₁, ⟨fs₁, fa₁⟩, Am₁, T₁', hG, hb⟩ hg Z₁
      have X₁ := X.keeps hg
      have T₁ := T.keeps hg
      have U₁ := U.mono hg
      obtain ⟨f0', D0', q1', q2', q3', q4', kf0', nf0', I0', _⟩ := Am₁.2.1
      have I₁ := I0'.up (StaysIn.trans kf0' kfm₁)
      clear X T U Z ZR
      walk_at "pf go"
      rename_i hx Zx rr2 hR2 tkR2 vR2 ZR2 nR2 RR2 sR2
      refine' for_range (n := (l + n7 - l).toNat) RR2 (small_one (by lia) (by lia) (by lia) (by lia)) (size_to _ _) ZR2
        (fun k m' r' => LJ2 w r src a1 a2 x rs fr l t n7 (1 + n8) _ t7 (i * 3 + k) m' r' ∧ ∃ ty, m' "y" = some (.int (t + (i : Int)) ty)) (fun _ _ => False)
        ⟨⟨⟨by walk_at "pf nm", by walk_at "pf nm", by walk_at "pf nm", by walk_at "pf nm", by walk_at "pf nm"⟩, S₁, H₁', k₁, fm₁, F₁, G₁, kfm₁, ⟨fs₁, fa₁⟩, Am₁, T₁', hG, hb⟩, ti, by rw [show t + (i : Int) = t + (i : Int) * 1 by lia]; exact upd_eq⟩ ?turn3 ?done3 (fun _ _ _ _ _ h => h.elim)
      case done3 =>
        rintro m2 r2 h tk ⟨⟨⟨v1, v2, v3, v4, v5⟩, S₂, H₂, k₂, fm₂, F₂, G₂, kfm₂, fn₂, Am₂, T₂, hG₂, hb₂⟩, _⟩ Z₂
        clear Zx ZR2 Z₁
        walk_at "pf go"
        exact TurnEnd.kon kt (by assumption) ⟨⟨v1, v2, v3, v4, v5⟩, S₂, H₂, k₂, fm₂, F₂, G₂, kfm₂, fn₂, Am₂, T₂.more (by lia), hG₂, hb₂⟩
      case turn3 =>
        rintro k tk2 m₂ r₂ h tk gC QT kt hk ⟨⟨⟨v1, v2, v3, v4, v5⟩, S₂, H₂, k₂, fm₂, F₂, G₂, kfm₂, ⟨fs₂, fa₂⟩, Am₂, ⟨xs, P₂, xl, hx⟩, hG₂, hb₂⟩, ty, v6⟩ hgC Z₂
        have X₂ := X₁.keeps hgC
        have T₂ := T₁.keeps hgC
        have U₂ := U₁.mono hgC
        clear X₁ T₁ U₁ Zx ZR2 Z₁
        have hk3 : (k : Int) < n7 := by lia
        have hi3 : (i : Int) < 1 + n8 := by lia
        have xl' : xs.length ≤ 1000 := by lia
        have hin : inb l t n7 (1 + n8) (l + (k : Int) * 1) (t + (i : Int)) := by unfold inb; lia
        walk_at "pf go"
        rename_i hz Zz al hl' rl Zl Rl Sl sl fl fl'
        refine' At.call (pick_spec w rl src al _ (H₂.up sl) Rl (by simp) (by simp) (ne_live fl H₂.live)) ?hz ?hS ?hs ?hU ?hd ?hu ?_
        walk_at "pf sides"
        rintro v h' tk' r5 Z5 S5 L5 fx5 ⟨H5, j, hj⟩
        (try dsimp only)
        obtain ⟨n, tn, rfl, hn⟩ := ints_in (.cons _ _ (.cons _ _ (.cons _ _ (.cons _ _ (.cons _ _ .nil))))) hj
        have hn2 : 0 ≤ n ∧ n ≤ 255 := by simp at hn; lia
        have ka2 : a2 ∉ [src] := fun z => n2 (List.mem_singleton.mp z)
        have P5 : isP w r5 a2 xs := (P₂.up sl).step L5 ka2
        have kfm5 : fm₂.StaysIn r5 := Step.fz L5 (StaysIn.trans kfm₂ sl) (fun a ha => by rw [List.mem_singleton.mp ha]; exact fs₂)
        have k5' : fr.StaysIn r5 := Step.fz L5 (StaysIn.trans k₂ sl) frs
        clear Z₂ Zz Zl
        walk_at "pf go"
        rename_i aK hK rK ZK RK SK sK fK fK' hS rS tkS ZS RS SS lS
        have kfmK : fm₂.StaysIn rK := StaysIn.trans kfm5 sK
        have kfmS : fm₂.StaysIn rS := Step.fz lS kfmK (fun a ha => by rw [List.mem_singleton.mp ha]; exact fa₂)
        have kfrS : fr.StaysIn rS := Step.fz lS (StaysIn.trans k5' sK) (fun a ha => by rw [List.mem_singleton.mp ha]; exact fra)
        have HS : Src w rS src := (H5.up sK).step lS (fun z => n2 (List.mem_singleton.mp z).symm)
        have TS := TabI.add (w := w) xl hx RS
        obtain ⟨⟨ak, vk⟩, hk1, hk2⟩ := Option.map_eq_some_iff.mp ((atKey_stored (xs := xs) (k := [l + (k : Int) * 1, t + (i : Int)]) (j := [l + (k : Int) * 1, t + (i : Int)]) (a := aK) (v := .int n tn)).trans (if_pos rfl))
        dsimp only at hk2
        subst hk2
        obtain ⟨f0s, D0s, p1s, p2s, p3s, p4s, kf0s, nf0s, I0s, _⟩ := Am₂.2.1
        have I0S := I0s.up (StaysIn.trans kf0s kfmS)
        clear ZK
        walk_at "pf go"
        rename_i aT hT' rT ZT RT ST sT fT fT'
        refine' At.call ((put_spec w fm₂ x rs l t n7 (1 + n8) F₂ (l + (k : Int) * 1) (t + (i : Int)) n _ _ tn Am₂ hin hn2.1 hn2.2).frame (StaysIn.trans kfmS sT)) ?hz ?hS ?hs ?hU ?hd ?hu ?_
        walk_at "pf sides"
        rintro v3 h' tk3 r'' Z'' S'' L'' fx6 ⟨fm', Am', Pm'⟩
        (try dsimp only)
        clear ZT ZS
        walk_at "pf go"
        have HT : Src w r'' src := (HS.up sT).step L'' srs
        have fs' : fm'.get? src = none := let ⟨o, e⟩ := (HS.up sT).live; Pm'.off src o e fs₂
        have fa' : fm'.get? a2 = none := let ⟨o, e⟩ := (RS.up sT).live; Pm'.off a2 o e fa₂
        refine TurnEnd.kon kt (by assumption) ⟨⟨⟨by walk_at "pf nm", by walk_at "pf nm", by walk_at "pf nm", by walk_at "pf nm", by walk_at "pf nm"⟩, S'', HT, Step.fz L'' (StaysIn.trans kfrS sT) hrf, fm', _, _, Pm'.sub, ⟨fs', fa'⟩, Am', (TS.up sT).step L'' ars, fun p q => ?_, fun p q => ?_⟩, ty, by walk_at "pf nm"⟩
        · unfold updF
          by_cases z : p = l + (k : Int) * 1 ∧ q = t + (i : Int)
          · rw [if_pos z, if_pos z, if_pos]; rw [z.1, z.2]; exact hin
          · rw [if_neg z, if_neg z]; exact hG₂ p q
        · unfold updF
          split
          · exact hn2
          · exact hb₂ p q
    case done2 =>
      rintro m3 r3' h tk ⟨⟨v1, v2, v3, v4, v5⟩, S₃, H₃', k₃, fm₃, F₃, G₃, kfm₃, ⟨fs₃, fa₃⟩, Am₃, T₃, hG₃, hb₃⟩ Z₃
      clear ZR
      have T₃ : TabI w r3' a2 9 G₃ := T₃.more (by lia)
      have e0 : isD (iK w) r3' a1 kvs := Dk.up k₃
      walk_at "pf go"
      refine' dcomp_dict (knd := iK w) (e0.up (At.own (by assumption))) (by assumption) (fun D i m' r' => ∃ G, LJ3 w r3' D a1 (i * 12) G m' r' ∧ ∀ p q, G p q = if upTo kvs Sp i p q then 255 else 0)
        (fun D i m' r' hD h o e => by
          obtain ⟨G, ⟨_, S, _⟩, _⟩ := h
          have hne : a1 ≠ D := by rintro rfl; rw [hD] at e; cases e
          exact S.keep _ _ (by simpa using hne) (by rw [put_ne _ _ hne]; exact e))
        (fun D mC lo hD hm => ⟨fun _ _ => 0, ⟨(hm "rows" _ rfl).trans (by walk_at "pf nm"), Step.refl _ _, TabI.nil (isP.of_empty lo (put_self _ _ rfl))⟩, fun p q => by rw [if_neg]; unfold upTo; simp⟩) ?turn4 ?done4
      case turn4 =>
        rintro D C i y x v m₁ r₁ h tk gB QT kt hi hv hD ⟨G, ⟨e1, S₁, T₁⟩, hG⟩ hg Z₁ U₁
        obtain ⟨ty, rfl⟩ := intKey_of hv
        have X₁ := X.keeps hg
        have T₁' := T.keeps hg
        clear X T U Z₃ Z
        refine wpAny_assign_Name (At.store_l Z₁ rfl rfl fun h' Z' => ?_)
        have hval := valueAt_of_get Dk.nodup hi
        obtain ⟨ax, rfl, hsp⟩ := Sv y x hval
        have frD : ∀ a ∈ [D], fr.get? a = none := fun a ha => by rw [List.mem_singleton.mp ha]; exact none_of_stays k₃ hD
        have kfr₁ : fr.StaysIn r₁ := Step.fz S₁ (StaysIn.trans k₃ (stays_put hD)) frD
        have e1d := Dk.up kfr₁
        refine' emit_nest (g := gB) (cs := []) rfl rfl (Up.handled (by assumption)) (fun it => turn3_1) (fun x => rfl) ?_
        walk_at "pf go"
        cases hsy : Sp y with
        | none =>
          rw [hsy] at hsp
          have hL₁ : isL r₁ ax [] := isL.up hsp kfr₁
          refine' for_list (hL₁.up (At.own (by assumption))) (by assumption) (fun k m' r' => r' = r₁ ∧ m' "rows" = some (.ref a1)) (fun _ _ => False) (fun k m' r' h o e => by rw [h.1]; exact e) ⟨rfl, by walk_at "pf nm"⟩ (fun i v m₁ r₁ h tk gB QT kt hv => by simp at hv) ?done5 (fun _ _ _ _ _ h => h.elim)
          rintro m' r' h2 tk2 ⟨rfl, e2⟩ Z2
          refine TurnEnd.kon kt Z2 ⟨G, ⟨e2, S₁, T₁.more (by lia)⟩, fun p q => ?_⟩
          rw [hG p q]
          have := upTo_succ (Sp := Sp) hi p q
          rw [hsy] at this
          simp only [inSpan, Bool.false_eq_true, and_false, or_false] at this
          simp only [this]
        | some ab =>
          obtain ⟨a, b⟩ := ab
          rw [hsy] at hsp
          obtain ⟨qa, t1, t2, hL, hQ⟩ := hsp
          have hL₁ : isL r₁ ax [.ref qa] := isL.up hL kfr₁
          have bab := Sk y a b hsy
          have axD : ax ≠ D := by
            rintro rfl
            obtain ⟨n, e⟩ := hL
            rw [frD ax (.head _)] at e; cases e
          have src6 : ∀ (k : Nat) (m' : Str → Option Value) (r' : Heap), (∃ G, LJ3 w r3' D a1 (i * 12 + k * 12) G m' r' ∧ (∃ ty, m' "y" = some (.int y ty)) ∧ ∀ p q, G p q = if upTo kvs Sp i p q ∨ (1 ≤ k ∧ q = y ∧ a ≤ p ∧ p < b) then 255 else 0) → ∀ o, r₁.get? ax = some o → r'.get? ax = some o := by
            rintro k m' r' ⟨G', ⟨_, S', _⟩, _⟩ o e
            obtain ⟨n, e'⟩ := hL
            have h1 := S'.keep ax _ (by simpa using axD) (by rw [put_ne _ _ axD]; exact k₃ _ _ e')
            rw [kfr₁ _ _ e'] at e
            cases e; exact h1
          refine' for_list (hL₁.up (At.own (by assumption))) (by assumption) (fun k m' r' => ∃ G, LJ3 w r3' D a1 (i * 12 + k * 12) G m' r' ∧ (∃ ty, m' "y" = some (.int y ty)) ∧ ∀ p q, G p q = if upTo kvs Sp i p q ∨ (1 ≤ k ∧ q = y ∧ a ≤ p ∧ p < b) then 255 else 0) (fun _ _ => False)
            src6 ⟨G, ⟨by walk_at "pf nm", S₁, T₁⟩, ⟨ty, upd_eq⟩, fun p q => by rw [hG p q]; simp⟩ ?turn6 ?done6 (fun _ _ _ _ _ h => h.elim)
          case done6 =>
            rintro m' r' h2 tk2 ⟨G', ⟨e2, S2, T2⟩, _, hG2⟩ Z2
            refine TurnEnd.kon kt Z2 ⟨G', ⟨e2, S2, T2.more (by simp; lia)⟩, fun p q => ?_⟩
            rw [hG2 p q]
            have := upTo_succ (Sp := Sp) hi p q
            rw [hsy] at this
            simp only [inSpan, decide_eq_true_eq] at this
            simp only [this, List.length_cons, List.length_nil, Nat.zero_add, Nat.le_refl, true_and]
          case turn6 =>
            rintro k v m₂ r₂ h tk gC QT kt hv ⟨G', ⟨e2, S2, T2⟩, ⟨ty', e3⟩, hG2⟩ hgC Z₂
            obtain ⟨rfl, rfl⟩ : k = 0 ∧ v = .ref qa := by
              cases k with
              | zero => simp at hv; exact ⟨rfl, hv.symm⟩
              | succ k => simp at hv
            have X₂ := X₁.keeps hgC
            have T₂ := T₁'.keeps hgC
            have hQ₂ : isT r₂ qa [.int a t1, .int b t2] := isT.up hQ (Step.fz S2 (StaysIn.trans k₃ (stays_put hD)) frD)
            clear X₁ T₁' Z' Z₁
            walk_at "pf go"
            rename_i hu Zu su hf Zf he Ze
            refine' emit_nest (g := gC) (cs := []) rfl rfl (Up.handled (by assumption)) (fun it => turn3_2) (fun x => rfl) ?_
            clear Z₂ Zu Zf
            walk_at "pf go"
            rename_i rr6 h6' tk6' v6' Z6' n6' R6' s6'
            refine' for_range (n := (b - a).toNat) R6' (small_one (by lia) (by lia) (by lia) (by lia)) (size_to _ _) Z6'
              (fun k m' r' => ∃ G, LJ3 w r3' D a1 (i * 12 + k) G m' r' ∧ (∃ ty, m' "y" = some (.int y ty)) ∧ ∀ p q, G p q = if upTo kvs Sp i p q ∨ (q = y ∧ a ≤ p ∧ p < a + (k : Int)) then 255 else 0) (fun _ _ => False)
              ⟨G', ⟨by walk_at "pf nm", S2, T2.more (by lia)⟩, ⟨ty', by walk_at "pf nm"⟩, fun p q => by rw [hG2 p q]; refine if2 ?_; constructor <;> rintro (h | h) <;> first | exact .inl h | (exfalso; lia)⟩ ?turn7 ?done7 (fun _ _ _ _ _ h => h.elim)
            case done7 =>
              rintro m' r' h2 tk2 ⟨G3, ⟨e2', S3', T3⟩, ⟨ty3, e3'⟩, hG3⟩ Z3'
              refine TurnEnd.kon kt Z3' ⟨G3, ⟨e2', S3', T3.more (by lia)⟩, ⟨ty3, e3'⟩, fun p q => ?_⟩
              rw [hG3 p q]
              refine if2 ?_
              constructor <;> rintro (h | h) <;> first | exact .inl h | exact .inr (by lia)
            case turn7 =>
              rintro k tk7' m₃ r₃ h tk gE QT kt hk ⟨G3, ⟨e2', S3', ⟨xs, P3', xl, hxs⟩⟩, ⟨ty3, e3'⟩, hG3⟩ hgE Z₃
              have X₃ := X₂.keeps hgE
              have T₃' := T₂.keeps hgE
              have il : i < kvs.length := (List.getElem?_eq_some_iff.mp hi).1
              have xl' : xs.length ≤ 1000 := by lia
              clear X₂ T₂ Z6' Ze
              refine wpAny_assign_Name (At.store_l Z₃ rfl rfl fun h' Z' => ?_)
              refine' emit_last ?_
              walk_at "pf go"
              rename_i aK hK rK ZK RK SK sK fK fK'
              refine tab_put ZK (P3'.up sK) (isT.key RK) xl' (by (try dsimp only); lia) SK (.inl (.head _)) fun h5 r5 tk5 Z5 R5 S5 l5 => ?_
              refine TurnEnd.kon kt Z5 ⟨_, ⟨by walk_at "pf nm", S5, TabI.add xl hxs R5⟩, ⟨ty3, by walk_at "pf nm"⟩, fun p q => ?_⟩
              unfold updF
              by_cases z : p = a + (k : Int) * 1 ∧ q = y
              · rw [if_pos z, if_pos]; exact .inr (by lia)
              · rw [if_neg z, hG3 p q]
                refine if2 ?_
                constructor <;> rintro (h | h) <;> first | exact .inl h | exact .inr (by lia)
      case done4 =>
        rintro D m4 r4' h4 tk4 hD ⟨G0, ⟨_, S4', T4⟩, hG0⟩ Z4'
        dsimp only [useM] at Z4'
        have frD : ∀ a ∈ [D], fr.get? a = none := fun a ha => by rw [List.mem_singleton.mp ha]; exact none_of_stays k₃ hD
        have fmD : ∀ a ∈ [D], fm₃.get? a = none := fun a ha => by rw [List.mem_singleton.mp ha]; exact none_of_stays kfm₃ hD
        have kfr4 : fr.StaysIn r4' := Step.fz S4' (StaysIn.trans k₃ (stays_put hD)) frD
        have kfm4 : fm₃.StaysIn r4' := Step.fz S4' (StaysIn.trans kfm₃ (stays_put hD)) fmD
        have sD : src ∉ [D] := by simpa using Ne.symm (ne_live hD H₃'.live)
        have aD : a2 ∉ [D] := by simpa using Ne.symm (ne_live hD (let ⟨_, P, _⟩ := T₃; P.live))
        have Ha : Src w r4' src := (H₃'.up (stays_put hD)).step S4' sD
        have Ta : TabI w r4' a2 9 G₃ := (T₃.up (stays_put hD)).step S4' aD
        have Sa : Step [src] r r4' := Step.then (bs := [D]) (Step.then (bs := []) S₃ (step_new hD) (fun _ z => nomatch z)) S4' (fun a ha => .inr (by rw [List.mem_singleton.mp ha]; exact S₃.sub _ hD))
        have frs' : fr.get? src = none := frs src (.head _)
        clear Z₃
        walk_at "pf go"
        refine' At.call ((region_make w fr a1 Sp Rw).frame kfr4) ?hz ?hS ?hs ?hU ?hd ?hu ?_
        walk_at "pf sides"
        rintro v h' tk' r5 Z5 S5 L5 fx5 ⟨fR, ⟨y0, d', rfl, I', R'⟩, PR⟩
        (try dsimp only)
        have fRs : fR.get? src = none := let ⟨o, e⟩ := Ha.live; PR.off src o e frs'
        clear Z4'
        walk_at "pf go"
        refine' At.call ((regc_make w fR y0 d' Sp I' R').frame PR.sub) ?hz ?hS ?hs ?hU ?hd ?hu ?_
        walk_at "pf sides"
        rintro v h' tk' r6 Z6 S6 L6 fx6 ⟨fC, ⟨x0, rfl, RC⟩, PC⟩
        (try dsimp only)
        have Hb : Src w r6 src := (Ha.up (Step.nil L5)).up (Step.nil L6)
        have fCs : fC.get? src = none := let ⟨o, e⟩ := (Ha.up (Step.nil L5)).live; PC.off src o e fRs
        have Tb := (Ta.up (Step.nil L5)).up (Step.nil L6)
        have Tc := (T4.up (Step.nil L5)).up (Step.nil L6)
        have kfm6 := StaysIn.trans (StaysIn.trans kfm4 (Step.nil L5)) (Step.nil L6)
        clear Z5
        walk_at "pf go"
        rename_i al hl7 rl Zl Rl Sl sl fl fl' am hm7 rm Zm Rm Sm sm fm7 fm7' aT hT7 rT ZT RT ST sT fT7 fT7'
        have nls : al ≠ src := ne_live fl Hb.live
        have nms : am ≠ src := ne_live fm7 (Hb.up sl).live
        have HT := ((Hb.up sl).up sm).up sT
        have nt : ∀ b ∈ [src], ∀ o, rT.get? b = some o → o.cls ≠ .type "tuple" := fun b hb => by rw [List.mem_singleton.mp hb]; exact HT.notTup
        have hf1 : ∀ a ∈ [src], fC.get? a = none := fun a ha => by rw [List.mem_singleton.mp ha]; exact fCs
        have hf2 : ∀ a ∈ [src], fm₃.get? a = none := fun a ha => by rw [List.mem_singleton.mp ha]; exact fs₃
        have nDs : D ∉ [src] := by simpa using ne_live hD H₃'.live
        have nas : a2 ∉ [src] := by simpa using n2
        have hG0' := layers_facts hG0 Sn
        refine' hret _ _ _ _ _ ?e1 ?e2 ?e3
        case e1 => assumption
        case e2 => assumption
        case e3 => exact ⟨aT, al, am, x0, x, D, a2, G0, G₃, cut rT [src], rfl, cut_stays, cut_none (.head _), HT, RT.cut nt, ((Rl.up sm).up sT).cut (by simpa using nls), (Rm.up sT).cut (by simpa using nms), ⟨fun a b => by rw [hG0' a b]; split <;> lia, .inl ⟨Sp, RC.up (stays_cut (StaysIn.trans (StaysIn.trans (StaysIn.trans PC.sub sl) sm) sT) hf1), hG0'⟩⟩, ⟨hb₃, .inr ⟨rs, l, t, n7, 1 + n8, F₃, Am₃.up (stays_cut (StaysIn.trans (StaysIn.trans (StaysIn.trans kfm6 sl) sm) sT) hf2), hG₃⟩⟩,
          ((((Tc.up sl).up sm).up sT).cut nDs nt).more (by lia), ((((Tb.up sl).up sm).up sT).cut nas nt).more (by lia), by rw [hG₃ 9 9, if_neg]; unfold inb; lia⟩
local macro_rules | `(tactic| walk_at $s:str) => Ln.run Ln.rows3 s
/-! ## clips answer as they should -/
theorem ne_ints0 {w : World} {A : Around} {E : Value → Shared → Prop} {s : Shared} {vs ws : List Value} {l b : Addr} {ns ms : List Int} {Q : Value → Shared → Prop} (hl : isL s.heap l vs) (hb : isL s.heap b ws) (hu : A.units < cLine) (hx : IntsAre vs ns) (hy : IntsAre ws ms) (e : ns = ms) (h : Q (.bool false) s) :
    wpAny (model prg w) A (compareOp .NotEq (.ref l) (.ref b)) Q E s :=
  ne_ints hl hb hu hx hy (by rw [decide_eq_false (not_not_intro e)]; exact h)
/-- a statement ends as told -/
noncomputable def StEnd (w : World) (g : Heap) (cs : List Addr) (env : Env) (m : Str → Option Value) (r : Heap) (s : Shared) (f : Flow) (s' : Shared) : Prop := f = .next ∧ ∃ h' tk, s' = { s with heap := h', toks := tk } ∧ At w g cs env m r h'
theorem StEnd.mk {w : World} {g : Heap} {cs : List Addr} {env : Env} {m : Str → Option Value} {r : Heap} {s : Shared} {h' : Heap} {tk : Tok} (Z : At w g cs env m r h') : StEnd w g cs env m r s .next { s with heap := h', toks := tk } := ⟨rfl, h', tk, rfl, Z⟩
theorem cut_stmt {w : World} {A : Around} {g : Heap} {cs : List Addr} {env : Env} {m : Str → Option Value} {r : Heap} {s : Shared} {st : Stmt} {Q : Flow → Shared → Prop} (Z : At w g cs env m r s.heap) (x : Str) (v : Value)
    (h1 : wpAny (model prg w) A (exec st env) (StEnd w g cs env (upd m x v) r s) never s) (h2 : ∀ h' tk, At w g cs env (upd m x v) r h' → Q .next { s with heap := h', toks := tk }) :
    Stop (wpAny (model prg w) A (exec st env) Q never s) :=
  wpAny_mono h1 (fun f s' ⟨e, h', tk, e', Z'⟩ => by subst e e'; exact h2 h' tk Z') fun _ _ q => q
inductive LM4 (ll tl xf xw cb ck : Addr) (l t wd ht : Int) (ul ut uw uh : Tok) (m' : Str → Option Value) : Prop
  | mk (h1 : m' "layers" = some (.ref ll)) (h2 : m' "told" = some (.ref tl)) (h3 : m' "both" = some (.ref cb)) (h4 : m' "back" = some (.ref ck)) (h5 : m' "flat" = some (.ref xf)) (h6 : m' "whole" = some (.ref xw))
    (h7 : m' "left" = some (.int l ul)) (h8 : m' "up" = some (.int t ut)) (h9 : m' "wide" = some (.int wd uw)) (h10 : m' "high" = some (.int ht uh)) : LM4 ll tl xf xw cb ck l t wd ht ul ut uw uh m'
inductive LJ4 (r : Heap) (src ll tl xf xw cb ck : Addr) (rB : Heap) (l t wd ht : Int) (ul ut uw uh : Tok) (m' : Str → Option Value) (r' : Heap) : Prop
  | mk (h1 : LM4 ll tl xf xw cb ck l t wd ht ul ut uw uh m') (h2 : Step [src] r r') (h3 : rB.StaysIn r') : LJ4 r src ll tl xf xw cb ck rB l t wd ht ul ut uw uh m' r'
theorem law_clips (w : World) (r : Heap) (src ll tl x0 x1 d0 d1 : Addr) (G0 G1 : Int → Int → Int) (f : Heap) (kf : f.StaysIn r) (fs : f.get? src = none) (H : Src w r src) (LO : LayersOf w f ll tl x0 x1 d0 d1 G0 G1) :
    Call w r [src] (.ref 563) [.ref src, .ref ll, .ref tl] 7 (fun v r' => v = .bool true ∧ Src w r' src) := by
  revert kf fs H LO
  revert w r src ll tl x0 x1 d0 d1 G0 G1 f
  refine lift12 (i1 := Pf.nW) ?_; refine (?x100 : ∀ a0 a1 a2 a3 a4 a5 a6 a7 a8 a9 a10 a11, Ap12 _ a0 a1 a2 a3 a4 a5 a6 a7 a8 a9 a10 a11) _ _ _ _ _ _ _ _ _ _ _ _; intro w r src ll tl x0 x1 d0 d1 G0 G1 f; refine Ap12.mk ?_
  intro kf fs H LO
  obtain ⟨L0, L1, y0, y1, T0, T1, g9⟩ := id LO -- keep
  have L0r := L0.up kf
  refine' enter [("source", .ref src), ("layers", .ref ll), ("told", .ref tl)] ?ho ?hcd ?hb ?hkd ?hok ?hnd ?c2 ?c3 ?c4 (fun a ha => by rw [List.mem_singleton.mp ha]; exact H.live) ?_
  walk_at "pf enter"
  refine lift8 (i1 := Pf.nA) (i7 := Pf.nS) ?_; refine (?x101 : ∀ a0 a1 a2 a3 a4 a5 a6 a7, Ap8 _ a0 a1 a2 a3 a4 a5 a6 a7) _ _ _ _ _ _ _ _; intro A base g h₁ tk₁ L s Q; refine Ap8.mk ?_
  intro hd hu X T U Z S hret
  walk_at "pf go"
  rename_i a1 h1 r1 Z1 R1 S1 s1 f1 f1'
  have liv1 : ∃ o, r1.get? src = some o := (H.up s1).live
  refine' At.call ((clip_make w (only r1 [a1]) a1 [x0] (let ⟨n, q⟩ := R1; ⟨n, only_get q (.head _)⟩) (by simp)).frame only_stays) ?hz ?hS ?hs ?hU ?hd ?hu ?_
  walk_at "pf sides"
  rintro v h' tk' r2 Z2 S2 L2 fx2 ⟨g1, ⟨c0, rfl, C0⟩, P1⟩
  (try dsimp only)
  have g1s : g1.get? src = none := let ⟨o, e⟩ := liv1; P1.off src o e (only_none (by simpa using Ne.symm (ne_live f1 H.live)))
  have s2 : r1.StaysIn r2 := Step.nil L2
  have L02 := (L0r.up s1).up s2
  clear Z1
  walk_at "pf go"
  refine' At.call ((clipped_some w g1 c0 x1 [x0] C0 (by simp)).frame P1.sub) ?hz ?hS ?hs ?hU ?hd ?hu ?_
  walk_at "pf sides"
  rintro v h' tk' r3 Z3 S3 L3 fx3 ⟨g2, ⟨cb, rfl, CB⟩, P2⟩
  (try dsimp only)
  have s3 : r2.StaysIn r3 := Step.nil L3
  have g2s : g2.get? src = none := let ⟨o, e⟩ := liv1; P2.off src o (s2 _ _ e) g1s
  have L03 := L02.up s3
  clear Z2
  walk_at "pf go"
  rename_i hb0 Zb0 a3 h3 r4 Z4 R4 S4 s4 f4 f4'
  have L04 := L03.up s4
  have liv4 : ∃ o, r4.get? src = some o := let ⟨o, e⟩ := liv1; ⟨o, s4 _ _ (s3 _ _ (s2 _ _ e))⟩
  have liv3 : ∃ o, r3.get? src = some o := let ⟨o, e⟩ := liv1; ⟨o, s3 _ _ (s2 _ _ e)⟩
  refine' At.call ((clip_make w (only r4 [a3]) a3 [x1] (let ⟨n, q⟩ := R4; ⟨n, only_get q (.head _)⟩) (by simp)).frame only_stays) ?hz ?hS ?hs ?hU ?hd ?hu ?_
  walk_at "pf sides"
  rintro v h' tk' r5 Z5 S5 L5 fx5 ⟨g3, ⟨ca, rfl, CA⟩, P3⟩
  (try dsimp only)
  have s5 : r4.StaysIn r5 := Step.nil L5
  have g3s : g3.get? src = none := let ⟨o, e⟩ := liv4; P3.off src o e (only_none (by simpa using Ne.symm (ne_live f4 liv3)))
  have L05 := L04.up s5
  obtain ⟨Da, Ia, _⟩ := id CA
  have Ia5 := Ia.up P3.sub
  have liv5 : ∃ o, r5.get? src = some o := let ⟨o, e⟩ := liv4; ⟨o, s5 _ _ e⟩
  clear Z3 Z4 Zb0
  walk_at "pf go"
  rename_i a6 h6 r6 Z6 R6 S6 s6 f6 f6'
  have liv6 : ∃ o, r6.get? src = some o := let ⟨o, e⟩ := liv5; ⟨o, s6 _ _ e⟩
  refine' At.call ((clip_make w (only r6 [a6]) a6 [x0] (let ⟨n, q⟩ := R6; ⟨n, only_get q (.head _)⟩) (by simp)).frame only_stays) ?hz ?hS ?hs ?hU ?hd ?hu ?_
  walk_at "pf sides"
  rintro v h' tk' r7 Z7 S7 L7 fx7 ⟨g4, ⟨cc, rfl, CC⟩, P4⟩
  (try dsimp only)
  have s7 : r6.StaysIn r7 := Step.nil L7
  have g4s : g4.get? src = none := let ⟨o, e⟩ := liv6; P4.off src o e (only_none (by simpa using Ne.symm (ne_live f6 liv5)))
  have f2 : ∀ {k : Heap}, k.get? src = none → ∀ a ∈ [src], k.get? a = none := fun e a ha => by rw [List.mem_singleton.mp ha]; exact e
  have k37 : g3.StaysIn (cut r7 [src]) := stays_cut (StaysIn.trans (StaysIn.trans P3.sub s6) s7) (f2 g3s)
  have k47 : g4.StaysIn (cut r7 [src]) := stays_cut P4.sub (f2 g4s)
  clear Z5 Z6
  walk_at "pf go"
  refine' At.call ((both_spec w (cut r7 [src]) ca cc [x1] [x0] (CA.up k37) (CC.up k47) (by simp) (by simp)).frame cut_stays) ?hz ?hS ?hs ?hU ?hd ?hu ?_
  walk_at "pf sides"
  rintro v h' tk' r8 Z8 S8 L8 fx8 ⟨g5, ⟨ck, rfl, CK⟩, P5⟩
  (try dsimp only)
  have s8 : r7.StaysIn r8 := Step.nil L8
  have liv7 : ∃ o, r7.get? src = some o := let ⟨o, e⟩ := liv6; ⟨o, s7 _ _ e⟩
  have g5s : g5.get? src = none := let ⟨o, e⟩ := liv7; P5.off src o e (cut_none (.head _))
  have kb : r.StaysIn r8 := StaysIn.trans s1 (StaysIn.trans s2 (StaysIn.trans s3 (StaysIn.trans s4 (StaysIn.trans s5 (StaysIn.trans s6 (StaysIn.trans s7 s8))))))
  have kf8 : f.StaysIn (cut r8 [src]) := stays_cut (StaysIn.trans kf kb) (f2 fs)
  have CBF : ClipC (cut r8 [src]) cb [x0, x1] := CB.up (stays_cut (StaysIn.trans P2.sub (StaysIn.trans s4 (StaysIn.trans s5 (StaysIn.trans s6 (StaysIn.trans s7 s8))))) (f2 g2s))
  have CKF : ClipC (cut r8 [src]) ck [x1, x0] := CK.up (stays_cut P5.sub (f2 g5s))
  have L0F := L0.up kf8
  have L1F := L1.up kf8
  have y0F := y0.up kf8
  have y1F := y1.up kf8
  have T0F := T0.up kf8
  have T1F := T1.up kf8
  have Fs : (cut r8 [src]).get? src = none := cut_none (.head _)
  have kF8 : (cut r8 [src]).StaysIn r8 := cut_stays
  have H8 : Src w r8 src := H.up kb
  generalize cut r8 [src] = F at kf8 CBF CKF L0F L1F y0F y1F T0F T1F Fs kF8
  have Fsl := f2 Fs
  clear Z7 s1 s2 s3 s4 s5 s6 s7 s8 kb kf8 P1 P2 P3 P4 P5 k37 k47 L0r L02 L03 L04 L05 CA CB CC CK C0 L5 L2 L3 L7 L8 R1 R4 R6 fx2 fx3 fx5 fx7 fx8 Ia Ia5 S1 S2 S3 S4 S5 S6 S7 kf L0 L1 y0 y1 T0 T1 liv1 liv3 liv4 liv5 liv6 liv7
  walk_at "pf go"
  refine' At.call (next_spec w r8 src 5 _ H8 (by lia) (by lia)) ?hz ?hS ?hs ?hU ?hd ?hu ?_
  walk_at "pf sides"
  rintro v h' tk' r1 Z1 S1 L1 fx1 ⟨H1, n1, ⟨t1, rfl⟩, b1, b1'⟩
  (try dsimp only)
  have kF1 := Step.fz L1 kF8 Fsl
  clear Z8
  walk_at "pf go"
  refine' At.call (next_spec w r1 src 5 _ H1 (by lia) (by lia)) ?hz ?hS ?hs ?hU ?hd ?hu ?_
  walk_at "pf sides"
  rintro v h' tk' r2 Z2 S2 L2 fx2 ⟨H2, n2, ⟨t2, rfl⟩, b2, b2'⟩
  (try dsimp only)
  have kF2 := Step.fz L2 kF1 Fsl
  clear Z1
  walk_at "pf go"
  rename_i a3 h3 r3 Z3 R3 S3 s3 f3 f3' hu Zu su hs1 Zs1 hs2 Zs2
  have kF3 := StaysIn.trans kF2 s3
  have H3 := H2.up s3
  clear Z2 Z3 Zu Zs1
  refine' At.call (next_spec w r3 src 5 _ H3 (by lia) (by lia)) ?hz ?hS ?hs ?hU ?hd ?hu ?_
  walk_at "pf sides"
  rintro v h' tk' r4 Z4 S4 L4 fx4 ⟨H4, n4, ⟨t4, rfl⟩, b4, b4'⟩
  (try dsimp only)
  have kF4 := Step.fz L4 kF3 Fsl
  clear Zs2
  walk_at "pf go"
  refine' At.call (next_spec w r4 src 4 _ H4 (by lia) (by lia)) ?hz ?hS ?hs ?hU ?hd ?hu ?_
  walk_at "pf sides"
  rintro v h' tk' r5 Z5 S5 L5 fx5 ⟨H5, n5, ⟨t5, rfl⟩, b5, b5'⟩
  (try dsimp only)
  have kF5 := Step.fz L5 kF4 Fsl
  clear Z4
  walk_at "pf go"
  rename_i a6 h6 r6 Z6 R6 S6 s6 f6 f6' hu Zu su hs1 Zs1 hs2 Zs2
  have kF6 := StaysIn.trans kF5 s6
  have H6 := H5.up s6
  clear Z5 Z6 Zu Zs1
  have lys : Lays w F [x0, x1] [G0, G1] := ⟨rfl, fun i a g e1 e2 => by
    rcases i with _ | _ | i
    · simp at e1 e2; subst e1 e2; exact y0F
    · simp at e1 e2; subst e1 e2; exact y1F
    · simp at e1⟩
  have lys' : Lays w F [x1, x0] [G1, G0] := ⟨rfl, fun i a g e1 e2 => by
    rcases i with _ | _ | i
    · simp at e1 e2; subst e1 e2; exact y1F
    · simp at e1 e2; subst e1 e2; exact y0F
    · simp at e1⟩
  refine' At.call (flat_spec w r6 (.ref cb) [G0, G1] (n1 - 4) (n2 - 2) n4 n5 _ _ _ _ (.inr ⟨cb, _, rfl, CBF.up kF6, lys.up kF6⟩) (by lia) (by lia) (by lia) (by lia) (by lia) (by lia) (by lia) (by lia)) ?hz ?hS ?hs ?hU ?hd ?hu ?_
  walk_at "pf sides"
  rintro v h' tk' r7 Z7 S7 L7 fx7 ⟨xf, rfl, Lf⟩
  (try dsimp only)
  clear Zs2
  walk_at "pf go"
  refine' At.call (flat_spec w r7 .none [] (n1 - 4) (n2 - 2) n4 n5 _ _ _ _ (.inl ⟨rfl, rfl⟩) (by lia) (by lia) (by lia) (by lia) (by lia) (by lia) (by lia) (by lia)) ?hz ?hS ?hs ?hU ?hd ?hu ?_
  walk_at "pf sides"
  rintro v h' tk' r9 Z9 S9 L9 fx9 ⟨xw, rfl, Lw⟩
  (try dsimp only)
  have s7 : r6.StaysIn r7 := Step.nil L7
  have s9 : r7.StaysIn r9 := Step.nil L9
  clear Z7
  walk_at "pf go"
  rename_i aB hB rB ZB RB SB sB fB fB' hu Zu su hs1 Zs1 hs2 Zs2 rr hR tkR vR ZR nR RR sR
  have kFB : F.StaysIn rB := StaysIn.trans kF6 (StaysIn.trans s7 (StaysIn.trans s9 sB))
  have HB : Src w rB src := H6.up (StaysIn.trans s7 (StaysIn.trans s9 sB))
  have LfB := Lf.up (StaysIn.trans s9 sB)
  have LwB := Lw.up sB
  clear Z9 ZB Zu Zs1 Zs2 kF1 kF2 kF3 kF4 kF5 kF6 H1 H2 H3 H4 H5 H6 H8 S1 S2 S3 S4 S5 S6 S7 S8 S9 L1 L2 L4 L5 L7 L9 fx1 fx2 fx4 fx5 fx7 fx9 Lf Lw kF8
  generalize hl : n1 - 4 = l at *
  generalize ht : n2 - 2 = t at *
  refine' for_range (n := ((6 : Int) - (-4)).toNat) RR (small_one (by lia) (by lia) (by lia) (by lia)) (size_to _ _) ZR
    (fun i => LJ4 r src ll tl xf xw cb ck rB l t n4 n5 _ _ t4 t5) (fun _ _ => False)
    ⟨⟨by walk_at "pf nm", by walk_at "pf nm", by walk_at "pf nm", by walk_at "pf nm", by walk_at "pf nm", by walk_at "pf nm", by walk_at "pf nm", by walk_at "pf nm", by walk_at "pf nm", by walk_at "pf nm"⟩, SB, fun _ _ e => e⟩ ?turn ?done (fun _ _ _ _ _ h => h.elim)
  case done =>
    rintro m' r' h tk ⟨⟨e1, e2, e3, e4, e5, e6, e7, e8, e9, e10⟩, S', kB⟩ Z'
    have kF' := StaysIn.trans kFB kB
    have H' := HB.up kB
    have L0' := L0F.up kF'
    obtain ⟨Dc, Ic, _⟩ := id (CBF.up kF')
    clear ZR
    walk_at "pf go"
    refine' At.call (is_open_spec w r' cb [x0, x1] (CBF.up kF')) ?hz ?hS ?hs ?hU ?hd ?hu ?_
    walk_at "pf sides"
    rintro v h' tk' r1 Z1 S1 L1 fx1 rfl
    (try dsimp only)
    rw [show decide ([x0, x1] = []) = false by simp]
    have L01 := L0'.up (Step.nil L1)
    clear Z'
    walk_at "pf go"
    rename_i a2 h2 r2 Z2 R2 S2 s2 f2x f2x'
    refine' At.call (clip_make w r2 a2 [] R2 (by simp)) ?hz ?hS ?hs ?hU ?hd ?hu ?_
    walk_at "pf sides"
    rintro v h' tk' r3 Z3 S3 L3 fx3 ⟨c3, rfl, C3⟩
    (try dsimp only)
    obtain ⟨D3, I3, _⟩ := id C3
    clear Z1
    walk_at "pf go"
    refine' At.call (is_open_spec w r3 c3 [] C3) ?hz ?hS ?hs ?hU ?hd ?hu ?_
    walk_at "pf sides"
    rintro v h' tk' r4 Z4 S4 L4 fx4 rfl
    (try dsimp only)
    rw [show decide (([] : List Addr) = []) = true by simp]
    have s04 : r'.StaysIn r4 := StaysIn.trans (Step.nil L1) (StaysIn.trans s2 (StaysIn.trans (Step.nil L3) (Step.nil L4)))
    have L04 := L0'.up s04
    clear Z2 Z3
    walk_at "pf go"
    refine' At.call (clipped_none w r4 x1) ?hz ?hS ?hs ?hU ?hd ?hu ?_
    walk_at "pf sides"
    rintro v h' tk' r5 Z5 S5 L5 fx5 ⟨c5, rfl, C5⟩
    (try dsimp only)
    have s05 : r'.StaysIn r5 := StaysIn.trans s04 (Step.nil L5)
    have ly5 : Lays w r5 [x1] [G1] := ⟨rfl, fun i a g e1 e2 => by
      rcases i with _ | i
      · simp at e1 e2; subst e1 e2; exact y1F.up (StaysIn.trans kF' s05)
      · simp at e1⟩
    clear Z4
    walk_at "pf go"
    refine' At.call (alpha_of w r5 (.ref c5) [G1] 9 9 _ _ (.inr ⟨c5, [x1], rfl, C5, ly5⟩)) ?hz ?hS ?hs ?hU ?hd ?hu ?_
    walk_at "pf sides"
    rintro v h' tk' r6 Z6 S6 L6 fx6 ⟨t6, rfl⟩
    (try dsimp only)
    rw [clf_one, g9]
    clear Z5
    walk_at "pf go"
    refine' hret _ _ _ _ _ ?e1 ?e2 ?e3
    case e1 => assumption
    case e2 => assumption
    case e3 => exact ⟨rfl, H'.up (StaysIn.trans s05 (Step.nil L6))⟩
  case turn =>
    rintro i ti m₁ r₁ h tk gB QT kt hi ⟨⟨e1, e2, e3, e4, e5, e6, e7, e8, e9, e10⟩, S₁, kB₁⟩ hg Z₁
    have X₁ := X.keeps hg
    have T₁ := T.keeps hg
    have U₁ := U.mono hg
    clear X T U Z ZR
    walk_at "pf go"
    rename_i hy Zy rr2 hR2 tkR2 vR2 ZR2 nR2 RR2 sR2
    refine' for_range (n := 6) RR2 (by decide) (by decide) ZR2
      (fun k m' r' => LJ4 r src ll tl xf xw cb ck rB l t n4 n5 _ _ t4 t5 m' r' ∧ ∃ ty, m' "y" = some (.int (-4 + (i : Int)) ty)) (fun _ _ => False)
      ⟨⟨⟨by walk_at "pf nm", by walk_at "pf nm", by walk_at "pf nm", by walk_at "pf nm", by walk_at "pf nm", by walk_at "pf nm", by walk_at "pf nm", by walk_at "pf nm", by walk_at "pf nm", by walk_at "pf nm"⟩, S₁, kB₁⟩, ti, by rw [show -4 + (i : Int) = -4 + (i : Int) * 1 by lia]; exact upd_eq⟩ ?turn2 ?done2 (fun _ _ _ _ _ h => h.elim)
    case done2 =>
      rintro m' r' h tk ⟨⟨⟨e1, e2, e3, e4, e5, e6, e7, e8, e9, e10⟩, S', kB⟩, _⟩ Z'
      clear Z₁ Zy ZR2
      walk_at "pf go"
      exact TurnEnd.kon kt (by assumption) ⟨⟨e1, e2, e3, e4, e5, e6, e7, e8, e9, e10⟩, S', kB⟩
    case turn2 =>
      rintro k tx m₂ r₂ h tk gC QT kt hk ⟨⟨⟨e1, e2, e3, e4, e5, e6, e7, e8, e9, e10⟩, S₂, kB₂⟩, ty, ey⟩ hgC Z₂
      have X₂ := X₁.keeps hgC
      have T₂ := T₁.keeps hgC
      have U₂ := U₁.mono hgC
      have kF₂ := StaysIn.trans kFB kB₂
      have L0₂ := L0F.up kF₂
      have L1₂ := L1F.up kF₂
      have T0₂ := T0F.up kF₂
      have T1₂ := T1F.up kF₂
      clear X₁ T₁ U₁ Z₁ Zy ZR2
      generalize hp : -5 + (k : Int) * 2 = p
      generalize hq : -4 + (i : Int) = q at *
      have bd0 := y0F.1 p q
      have bd1 := y1F.1 p q
      walk_at "pf go"
      rename_i hx Zx aX hX rX ZX RX SX sX fX fX' v1 k1 aY hY rY ZY RY SY sY fY fY' v2 k2 aP hP rP ZP RP SP sP fP fP' hQ ZQ sQ hO1 ZO1 hO2 ZO2
      have k2P : r₂.StaysIn rP := StaysIn.trans sX (StaysIn.trans sY sP)
      clear Zx ZX ZY ZP ZQ ZO1 Z₂ RX RY SX SY RP
      refine' At.call (times_spec w rP (G0 p q) (G1 p q) _ _ bd1.1 bd1.2) ?hz ?hS ?hs ?hU ?hd ?hu ?_
      walk_at "pf sides"
      rintro v h' tk' r' Z' S' _ fr ⟨rfl, tdue, rfl⟩
      (try dsimp only)
      clear ZO2
      have L0P := L0₂.up k2P
      generalize hdue : wt (G0 p q) (G1 p q) = due
      walk_at "pf go"
      rename_i hD ZD aL hL rL ZL RL SL sL fL fL' aM hM rM ZM RM SM sM fM fM'
      have kFM : F.StaysIn rM := StaysIn.trans kF₂ (StaysIn.trans k2P (StaysIn.trans sL sM))
      have kBM : rB.StaysIn rM := StaysIn.trans kB₂ (StaysIn.trans k2P (StaysIn.trans sL sM))
      clear ZD ZL RL SL
      refine' comp_list (RM.up (At.own ZM)) (by simp [sizeLine_eq]) ZM (fun i r' ys => Step [src] r r' ∧ rM.StaysIn r' ∧ ∃ ns, IntsAre ys ns ∧ ns = [G0 p q, G1 p q, due, due].take i) (fun i r' ys h o e => h.2.1 _ _ e) ⟨SM, fun _ _ e => e, [], .nil, rfl⟩ ?turn3 ?done3
      case turn3 =>
        rintro i v r₁ ys h tk gB C mC hv ⟨S₁, k₁, ns, I₁, hns⟩ hg Z₁ hcl U₁
        have ex : mC "x" = some (.int p tx) := (hcl "x" _ rfl).trans (by walk_at "pf nm")
        have ey' : mC "y" = some (.int q ty) := (hcl "y" _ rfl).trans (by walk_at "pf nm")
        have X₁ := X₂.keeps hg
        have T₁ := T₂.keeps hg
        have kE : F.StaysIn r₁ := StaysIn.trans kFM k₁
        clear X₂ T₂ U₂ ZM
        rcases i with _ | _ | _ | _ | i
        · simp at hv; subst hv; subst hns
          have yE := y0F.up kE
          walk_at "pf go"
          refine' lay_meth ?gx ?gk (yE) ?_
          case gx => walk_at "pf K"
          case gk => exact At.own (by assumption)
          intro fn hfn Cf
          (try dsimp only)
          walk_at "pf go"
          refine' At.call (Cf p q _ _) ?hz ?hS ?hs ?hU ?hd ?hu ?_
          walk_at "pf sides"
          rintro v h' tk' r' Z' S' L' fr ⟨t2, rfl⟩
          (try dsimp only)
          exact ElemEnd.mk Z' ⟨S', StaysIn.trans k₁ (Step.nil L'), _, ints_snoc I₁, rfl⟩
        · simp at hv; subst hv; subst hns
          have yE := y1F.up kE
          walk_at "pf go"
          refine' lay_meth ?gx ?gk (yE) ?_
          case gx => walk_at "pf K"
          case gk => exact At.own (by assumption)
          intro fn hfn Cf
          (try dsimp only)
          walk_at "pf go"
          refine' At.call (Cf p q _ _) ?hz ?hS ?hs ?hU ?hd ?hu ?_
          walk_at "pf sides"
          rintro v h' tk' r' Z' S' L' fr ⟨t2, rfl⟩
          (try dsimp only)
          exact ElemEnd.mk Z' ⟨S', StaysIn.trans k₁ (Step.nil L'), _, ints_snoc I₁, rfl⟩
        · simp at hv; subst hv; subst hns
          obtain ⟨Dc, Ic, _⟩ := id (CBF.up kE)
          walk_at "pf go"
          refine' At.call (clip_alpha_m w r₁ cb [x0, x1] [G0, G1] p q _ _ (CBF.up kE) (lys.up kE)) ?hz ?hS ?hs ?hU ?hd ?hu ?_
          walk_at "pf sides"
          rintro v h' tk' r' Z' S' L' fr ⟨t2, rfl⟩
          (try dsimp only)
          rw [clf_two, hdue]
          exact ElemEnd.mk Z' ⟨S', StaysIn.trans k₁ (Step.nil L'), _, ints_snoc I₁, rfl⟩
        · simp at hv; subst hv; subst hns
          obtain ⟨Dc, Ic, _⟩ := id (CKF.up kE)
          walk_at "pf go"
          refine' At.call (clip_alpha_m w r₁ ck [x1, x0] [G1, G0] p q _ _ (CKF.up kE) (lys'.up kE)) ?hz ?hS ?hs ?hU ?hd ?hu ?_
          walk_at "pf sides"
          rintro v h' tk' r' Z' S' L' fr ⟨t2, rfl⟩
          (try dsimp only)
          rw [clf_two, wt_comm, hdue]
          exact ElemEnd.mk Z' ⟨S', StaysIn.trans k₁ (Step.nil L'), _, ints_snoc I₁, rfl⟩
        · simp at hv
      case done3 =>
        rintro D kD ys r₃ h tk ⟨S₃, k₃, ns, I₃, rfl⟩ hlen hD hrD Z₃
        dsimp only [useM] at Z₃
        have S₄ : Step [src] r (put r₃ D (listO ys kD)) := S₃.then (bs := []) (step_new hrD) (fun a ha => nomatch ha)
        have hD₄ := isL_put r₃ D ys kD
        have kFD : F.StaysIn (put r₃ D (listO ys kD)) := StaysIn.trans kFM (StaysIn.trans k₃ (stays_put hrD))
        have kBD : rB.StaysIn (put r₃ D (listO ys kD)) := StaysIn.trans kBM (StaysIn.trans k₃ (stays_put hrD))
        clear ZM
        walk_at "pf go"
        rename_i aN hN rN ZN RN SN sN fN fN'
        have IN : IntsAre [Value.int (G0 p q) v1, Value.int (G1 p q) v2, Value.int due tdue, Value.int due tdue] [G0 p q, G1 p q, due, due] := .cons _ _ (.cons _ _ (.cons _ _ (.cons _ _ .nil)))
        refine ne_ints ((hD₄.up sN).up (At.own ZN)) (RN.up (At.own ZN)) (by (try dsimp only); lia) I₃ IN ?_
        have e0 : decide (([G0 p q, G1 p q, due, due].take ([Value.ref x0, Value.ref x1] ++ [Value.ref cb, Value.ref ck]).length) ≠ [G0 p q, G1 p q, due, due]) = false := by simp
        rw [e0]
        clear Z₃
        walk_at "pf go"
        refine' cut_stmt ZN "is_in" (.bool (decide (inb l t n4 n5 p q))) ?isin ?rest
        case isin =>
          refine wpAny_Assign_Name ?_ (by with_unfolding_all rfl)
          walk_at "pf go"
          all_goals
            refine StEnd.mk ?_
            first
              | (have e : decide (inb l t n4 n5 p q) = decide (q < t + n5) := by (apply decide_eq_decide.mpr; unfold inb; lia)
                 rw [e]; assumption)
              | (have e : decide (inb l t n4 n5 p q) = decide (t ≤ q) := by (apply decide_eq_decide.mpr; unfold inb; lia)
                 rw [e]; assumption)
              | (have e : decide (inb l t n4 n5 p q) = decide (p < l + n4) := by (apply decide_eq_decide.mpr; unfold inb; lia)
                 rw [e]; assumption)
              | (have e : decide (inb l t n4 n5 p q) = decide (l ≤ p) := by (apply decide_eq_decide.mpr; unfold inb; lia)
                 rw [e]; assumption)
        case rest =>
          intro h5 tk5 Z5
          generalize hib : decide (inb l t n4 n5 p q) = ib at Z5
          clear ZN
          have kN1 : rB.StaysIn rN := StaysIn.trans kBD sN
          have yf := LfB.up kN1
          walk_at "pf go"
          refine' lay_meth ?gx ?gk (yf) ?_
          case gx => walk_at "pf K"
          case gk => exact At.own (by assumption)
          intro fn1 hfn1 C1
          (try dsimp only)
          walk_at "pf go"
          refine' At.call (C1 p q _ _) ?hz ?hS ?hs ?hU ?hd ?hu ?_
          walk_at "pf sides"
          rintro v h' tk' r' Z' S' L' fr ⟨tz1, rfl⟩
          (try dsimp only)
          have kN2 : rB.StaysIn r' := StaysIn.trans kN1 (Step.nil L')
          have yw := LwB.up kN2
          walk_at "pf go"
          refine' lay_meth ?gx ?gk (yw) ?_
          case gx => walk_at "pf K"
          case gk => exact At.own (by assumption)
          intro fn2 hfn2 C2
          (try dsimp only)
          walk_at "pf go"
          refine' At.call (C2 p q _ _) ?hz ?hS ?hs ?hU ?hd ?hu ?_
          walk_at "pf sides"
          rintro v h' tk' r' Z' S' L' fr ⟨tz2, rfl⟩
          (try dsimp only)
          walk_at "pf go"
          rename_i aU hU rU ZU RU SU sU fU fU' aV hV rV ZV RV SV sV fV fV'
          refine' ne_ints0 ((RU.up sV).up (At.own ZV)) (RV.up (At.own ZV)) ?hu8 (.cons _ _ (.cons _ _ .nil)) (.cons _ _ (.cons _ _ .nil)) ?e8 ?_
          case hu8 => ((try dsimp only); lia)
          case e8 =>
            by_cases z : inb l t n4 n5 p q
            · have z' : ib = true := by rw [← hib]; exact decide_eq_true z
              subst z'
              simp only [if_pos z, clf_two, hdue]
              simp [clf]
            · have z' : ib = false := by rw [← hib]; exact decide_eq_false z
              subst z'
              simp only [if_neg z]
              simp
          clear ZU
          walk_at "pf go"
          exact TurnEnd.kon kt (by assumption) ⟨⟨⟨by walk_at "pf nm", by walk_at "pf nm", by walk_at "pf nm", by walk_at "pf nm", by walk_at "pf nm", by walk_at "pf nm", by walk_at "pf nm", by walk_at "pf nm", by walk_at "pf nm", by walk_at "pf nm"⟩, SV, StaysIn.trans kN2 (StaysIn.trans (Step.nil L') (StaysIn.trans sU sV))⟩, ty, by walk_at "pf nm"⟩
/-! ## over a dict by pairs whose values are stored meanwhile -/
noncomputable def keysOf (xs : Ents) : List (List Int × Addr) := xs.map fun x => (x.1, x.2.1)
inductive TabLoop (w : World) (A : Around) (g : Heap) (cs : List Addr) (env : Env) (target : PySem.Expr) (B : Sem Flow) (Q : Flow → Shared → Prop) (xv : Value) (s : Shared) : Prop
  | mk (d : Addr) (ks : List (List Int × Addr)) (ep : Nat) (m : Str → Option Value) (r : Heap) (J : Nat → (Str → Option Value) → Heap → Prop)
    (h1 : xv = .ref d)
    (h2 : At w g cs env m r s.heap)
    (h3 : (∀ i m' r', J i m' r' → ∃ xs, KAt w r' d xs ep ∧ keysOf xs = ks))
    (h4 : J 0 m r)
    (h5 : (∀ i k a m₁ r₁ h tk gB (QT : Flow → Shared → Prop), (∀ fl s', TurnEnd w gB cs env (J (i + 1)) (fun _ _ => False) s fl s' → QT fl s') → ks[i]? = some (k, a) → J i m₁ r₁ → g.StaysIn gB → At w gB cs env m₁ r₁ h →
      wpAny (model prg w) A (assign target env (.ref a)) (fun _ s' => wpAny (model prg w) A B QT never s') never { s with heap := h, toks := tk }))
    (h6 : (∀ m' r' h tk, J ks.length m' r' → At w g cs env m' r' h → Q .next { s with heap := h, toks := tk })) : TabLoop w A g cs env target B Q xv s
theorem loop_tab {w : World} {A : Around} {g : Heap} {cs : List Addr} {env : Env} {target iter : PySem.Expr} {body : List Stmt} {pos : Pos} {Q : Flow → Shared → Prop} {s : Shared} {m : Str → Option Value} {r : Heap} (Z : autoParam (At w g cs env m r s.heap) Ln.a_at) (hA : autoParam (A.handled = none) Ln.a_hd)
    (h : wpAny (model prg w) A (eval iter env) (fun xv s₁ => TabLoop w A g cs env target (execs body env) Q xv s₁) never s)
    (hs : autoParam (∀ x, foldedSetIterable iter env x = pure x) Ln.a_xr) : wpAny (model prg w) A (exec (.For target iter body [] pos) env) Q never s := by
  clear Z
  have toE : ∀ {α : Type} {t : Sem α} {Q : α → Shared → Prop} {s : Shared} {E : Value → Shared → Prop}, wpAny (model prg w) A t Q never s → wpAny (model prg w) A t Q E s := fun h => wpAny_mono h (fun _ _ x => x) fun _ _ x => x.elim
  refine wpAny_For (wpAny_mono h (fun xv s₁ h₁ => ?_) fun _ _ e => e) hs
  obtain ⟨d, ks, ep, m, r, J, rfl, Z, hkey, hJ0, turn, done⟩ := h₁
  obtain ⟨xs₀, K0, hk0⟩ := hkey 0 m r hJ0
  obtain ⟨lo, o, es, ho, hc, hd, he, _⟩ := K0.up Z.own
  have hn : es.size = ks.length := by rw [← hk0, size_of_entries he]; simp [keysOf]
  have N := Z.pushed
  refine toE (iter_tab lo ho hc hd hn ?_)
  generalize hI : s₁.heap.objs.size = I at *
  refine codeAny_forLoop_any (fun k s' => ∃ h' tk m' r' i, s' = { s₁ with heap := h', toks := tk } ∧ h'.IsKeyIter I d i ks.length ep ∧ At w g cs env m' r' h' ∧ J i m' r' ∧ i ≤ ks.length ∧ k = ks.length + 1 - i ∧ r'.get? I = none) ?_ (ks.length + 1)
    ⟨_, s₁.toks, m, r, 0, rfl, ⟨_, by rw [← hI]; exact Heap.get?_push_size _ rfl, rfl, rfl⟩, Z.push _, hJ0, Nat.zero_le _, rfl, N.nr⟩
  rintro k s' ⟨h', tk, m', r', i, rfl, hit, Z', hJ, hi, rfl, hrI⟩
  obtain ⟨xs, K, hk⟩ := hkey i m' r' hJ
  obtain ⟨_, o', es', ho', _, hd', he', _⟩ := K.up Z'.own
  have hn' : es'.size = ks.length := by rw [← hk, size_of_entries he']; simp [keysOf]
  by_cases hlt : i < ks.length
  · obtain ⟨⟨kk, a⟩, hka⟩ : ∃ p, ks[i]? = some p := ⟨_, List.getElem?_eq_getElem hlt⟩
    have hx : ∃ v, xs[i]? = some (kk, a, v) := by
      rw [← hk] at hka
      unfold keysOf at hka
      rw [List.getElem?_map] at hka
      obtain ⟨⟨k1, a1, v⟩, e1, e2⟩ := Option.map_eq_some_iff.mp hka
      cases e2
      exact ⟨v, e1⟩
    obtain ⟨v, hx⟩ := hx
    have hee : es'[i]? = some (entryOfKey (tK w) (kk, a, v)) := by rw [entry_at he' i, hx]; rfl
    refine next_tab hit ho' hd' hn' hee fun h₁ hit₁ hs₁ => ?_
    have Z₁ : At w g cs env m' r' h₁ := Z'.but (fun b o hb e => (hs₁.2 b hb).trans e) hrI N.ng N.nl N.nc
    obtain ⟨oI, hoI, hcI, hdI⟩ := id hit₁
    refine letGo hoI hcI (by decide) (toE (wpAny_mono (turn i kk a m' r' h₁ tk _ _ (fun _ _ q => q) hka hJ Z₁.over_base Z₁.rebase) (fun _ s₃ h₃ => toE (wpAny_mono h₃ (fun f s₄ h₄ => ?_) fun _ _ e => e)) fun _ _ e => e))
    obtain ⟨rfl, h₂', tk₂, m₂, r₂, rfl, Z₂, hJ₂⟩ | ⟨v', rfl, h₂', tk₂, m₂, r₂, rfl, Z₂, hJ₂⟩ := h₄
    case inr => exact hJ₂.elim
    have oI₂ := over_some (L := env.locals) (cs := cs) hoI hrI N.nl N.nc
    exact ⟨ks.length + 1 - (i + 1), by lia, h₂', tk₂, m₂, r₂, i + 1, rfl, hit₁.at (fun o e => by rw [hoI] at e; cases e; exact Z₂.base _ _ oI₂), Z.weaken Z₁.over_base Z₂, hJ₂, hlt, rfl, Z₂.rg.right oI₂⟩
  · have hin : i = ks.length := by lia
    subst hin
    refine next_tab_end hA hit ho' hd' hn' (Nat.le_refl _) fun h₁ hs₁ => wpAny_execs_nil ?_
    exact done m' r' h₁ tk hJ (Z'.but (fun b o hb e => hs₁ b o hb e) hrI N.ng N.nl N.nc)
/-! ## a call that need only come to its end -/
structure CallF (w : World) (r : Heap) (f : Value) (args : List Value) (n : Nat) (P : Value → Prop) : Prop where
  run : ∀ (dp un : Nat) (gd : Option (List Code)) (env : Env) (outer : List Env) (base : Heap) (s : Shared) (R : Result → Shared → Prop),
    r.StaysIn s.heap → Cx w env outer base (minus s.heap r) → dp + 4 * n < recursionLimit → un + 20 * n < cLine →
    (∀ v h' tk', base.StaysIn h' → P v → R (.ok (.ret v)) { s with heap := h', toks := tk' }) →
    codeAny (model prg w) (arnd dp un gd env outer) (.call f ⟨args, []⟩) R s
theorem callF_at {w : World} {r : Heap} {f : Value} {args : List Value} {n : Nat} {P : Value → Prop} (C : CallF w r f args n P)
    {g : Heap} {cs : List Addr} {env : Env} {m : Str → Option Value} {s : Shared} {A : Around} {base : Heap} {Q E : Value → Shared → Prop}
    (Z : At w g cs env m r s.heap) (U : Up w g env A base) (hd : A.depth + 4 * n < recursionLimit) (hu : A.units + 20 * n < cLine) (h : ∀ v h' tk', base.StaysIn h' → P v → Q v { s with heap := h', toks := tk' }) :
    wpAny (model prg w) A (call f args) Q E s := by
  obtain ⟨dp, un, gd, fenv, outer, rfl, U⟩ := U
  obtain ⟨mL, ⟨oL, es, ep, hL, hd1, hd2, hd3⟩, hmL⟩ := Z.ns
  have gm : g.StaysIn (minus s.heap r) := fun b o e => minus_some (Z.base b o e) (Z.rg.right e)
  exact wpAny_call (C.run dp un gd fenv outer base s _ Z.own (U _ gm ⟨oL, minus_some hL Z.loc.1, fun vs q => by rw [hd1] at q; cases q⟩) hd hu h)
theorem enterF {w : World} {r : Heap} {f : Addr} {args : List Value} {k : Nat} {P : Value → Prop}
    {name qual : Str} {params : Arguments} {body : List Stmt} {scope : Scope} {dV kV doc pm cdv ct oc : Value} {an od : Option Addr} {osl : Array (Option Value)} (binds : List (Str × Value))
    (ho : (Pf.ob.heap_1 w.params).lookup f = some ⟨oc, od, .func (fnOf name qual params body scope dV kV doc pm an cdv ct), osl⟩) (hcd : codeIn (Pf.ob.heap_1 w.params) cdv qual = true)
    (hbind : ∀ s : Shared, (Pf.ob.heap_1 w.params).In s.heap → BindsTo s (fnOf name qual params body scope dV kV doc pm an cdv ct) ⟨args, []⟩ binds)
    (hkind : (binds.all fun y => scope.names.lookup y.1 == some .local || scope.names.lookup y.1 == some .cell) = true)
    (hok : okCells scope = true) (hnd : ((cellsFrom 0 scope.names []).map (·.1)).Nodup)
    (hco : scope.isCoroutine = false) (hgen : scope.isGenerator = false) (hk : scope.kind = .function)
    (h : ∀ (A : Around) (base g h₁ : Heap) (tk₁ : Nat) (L : Addr) (s : Shared) (Q : Value → Shared → Prop),
      (∃ outer, A.frames = some (envOfC qual scope L f cdv :: outer)) → A.depth + 4 * k + 3 < recursionLimit → A.units + 20 * k + 17 < cLine → (Pf.ob.heap_1 w.params).In g → TopE g → Up w g (envOfC qual scope L f cdv) A base →
      At w g ((cellsFrom (L + 1) scope.names []).map (·.2)) (envOfC qual scope L f cdv) (fun y => binds.reverse.lookup y) r h₁ →
      (∀ v h' tk', base.StaysIn h' → P v → Q v { s with heap := h', toks := tk' }) →
      wpAny (model prg w) A (execs body (envOfC qual scope L f cdv)) (fun fl s' => Q (valOf fl) s') never { s with heap := h₁, toks := tk₁ }) :
    CallF w r (.ref f) args (k + 1) P := by
  refine ⟨?_⟩
  intro dp un gd env outer base s R hr hx hdp hun hret
  obtain ⟨st, fr, Kb, Tb⟩ := hx
  have K := Kb.keeps st
  have T := Tb.keeps st
  have KK : (Pf.ob.heap_1 w.params).In s.heap := K.keeps (minus_stays _ _)
  refine codeAny_call_function (by show dp < _; lia) (KK _ _ ho) rfl hco hgen rfl (codeRec_of KK hcd) (hbind s KK _ _ _ _ ?_)
  refine wpAny_newFunctionEnv_cells hk (kindsX hkind _) fun env' he s' x => ?_
  subst he
  refine ⟨(T.nolimit.keeps (minus_stays _ _)).keeps x.toInCall.keep, codeAny_func ?_⟩
  obtain ⟨h₁, tk, rfl, _⟩ := x.done
  have hk₁ := x.toInCall.keep
  have fresh : ∀ (z : Heap), z.StaysIn s.heap → ∀ a, s.heap.objs.size ≤ a → z.get? a = none := fun z hz a ha => by
    cases e : z.get? a with
    | none => rfl
    | some o => exact absurd (Heap.lt_size (hz _ _ e)) (Nat.not_lt.mpr ha)
  have kc : ∀ y c, (envOfC qual scope s.heap.objs.size f cdv).cells.lookup y = some c → (envOfC qual scope s.heap.objs.size f cdv).kindOf y ≠ some .local := fun y c e => by
    have hm := mem_of_lookup e
    rcases cellsKind scope.names _ [] hm with q | q
    · cases q
    · have := List.all_eq_true.mp hok _ q
      simp only [bne_self_eq_false, Bool.false_or, beq_iff_eq] at this
      show scope.names.lookup y ≠ _
      rw [this]; decide
  have Z : At w (minus s.heap r) ((cellsFrom (s.heap.objs.size + 1) scope.names []).map (·.2)) (envOfC qual scope s.heap.objs.size f cdv) (fun y => binds.reverse.lookup y) r h₁ := by
    refine ⟨fun b o e => hk₁ b o (minus_stays _ _ b o e), fun b o e => hk₁ b o (hr b o e), ⟨_, x.toInCall.ns, fun y hy => ?_⟩, fun y c e => ⟨?_, .inl (List.mem_map.mpr ⟨(y, c), mem_of_lookup e, rfl⟩)⟩, fun c hc => ?_, ⟨?_, ?_⟩, disj_minus _ _, fun _ => x.apart, kc⟩
    · exact (bindL_eq hy binds _).trans (by simp)
    · have hkd := kc y c e
      have q := x.cell y c e
      have q2 := bindC_eq (kindOf := (envOfC qual scope s.heap.objs.size f cdv).kindOf) hkd binds (fun _ => none)
      rw [Option.or_none] at q2
      exact q2 ▸ q
    · obtain ⟨⟨y, c'⟩, hm, rfl⟩ := List.mem_map.mp hc
      have hlt : s.heap.objs.size < c' := x.above y c' hm
      exact ⟨fresh r hr _ (Nat.le_of_lt hlt), fresh _ (minus_stays _ _) _ (Nat.le_of_lt hlt), Nat.ne_of_gt hlt, y, lookup_of_mem_nodup (cellsFrom_names scope.names 0 (s.heap.objs.size + 1) [] [] rfl ▸ hnd) hm⟩
    · exact fresh r hr _ (Nat.le_refl _)
    · exact fresh _ (minus_stays _ _) _ (Nat.le_refl _)
  refine wpAny_mono (h (arnd (dp + 1) (un + 3) gd (envOfC qual scope s.heap.objs.size f cdv) (env :: outer)) base (minus s.heap r) h₁ tk s.heap.objs.size s (fun v s' => R (.ok (.ret v)) s') ⟨_, rfl⟩ (show dp + 1 + 4 * k + 3 < _ by lia) (show un + 3 + 20 * k + 17 < _ by lia) K T ⟨_, _, _, _, _, rfl, ?_⟩ Z (fun v h' tk' hb hp => hret v h' tk' hb hp)) (fun fl s' hl => ?_) fun _ _ x => x.elim
  · intro gx hg ⟨o, ho, hnf⟩
    refine ⟨StaysIn.trans st hg, ⟨by show scope.kind ≠ .module; rw [hk]; decide, ⟨_, o, rfl, ?_, ho, hnf⟩, fr.of_keeps fun b o e _ => ⟨o, hg b o e, rfl⟩⟩, Kb, Tb⟩
    exact fresh base (StaysIn.trans st (minus_stays _ _)) _ (Nat.le_refl _)
  · cases fl <;> exact hl
/-! ## a stack of groups -/
structure Lv where
  c : Addr
  rs : List Addr
  d : Addr
  F : Int → Int → C4
  deriving Inhabited
noncomputable def muts (St sk : Addr) (lv : List Lv) : List Addr := St :: sk :: lv.flatMap fun v => v.d :: v.rs
structure GS (w : World) (r₀ r f : Heap) (l t wd ht : Int) (gx src St sk : Addr) (lv : List Lv) : Prop where
  kf : f.StaysIn r
  fsrc : f.get? src = none
  off : ∀ a ∈ muts St sk lv, f.get? a = none
  fresh : ∀ a ∈ muts St sk lv, r₀.get? a = none
  nd : (src :: muts St sk lv).Nodup
  I : Inst f gx 434 [("stack", .ref St)]
  K : ∀ v ∈ lv, CSk f v.c v.rs l t wd ht
  C : ∀ v ∈ lv, Cells r v.rs l t wd ht v.F
  T : ∀ v ∈ lv, TabC w r v.d (places l t wd ht) v.F
  ok : ∀ v ∈ lv, ∀ p q, (v.F p q).Ok
  S : isL r St (lv.map fun v => .ref v.c)
  k : isL r sk (lv.tail.map fun v => .ref v.d)
  H : Src w r src
section
variable {w : World} {r₀ r r' f : Heap} {l t wd ht : Int} {gx src St sk : Addr} {lv : List Lv}
theorem mem_muts {a : Addr} : a ∈ muts St sk lv ↔ a = St ∨ a = sk ∨ ∃ v ∈ lv, a = v.d ∨ a ∈ v.rs := by
  unfold muts
  simp [List.mem_flatMap]
theorem TabC.live {d : Addr} {ps : List (Int × Int)} {F : Int → Int → C4} (T : TabC w r d ps F) : ∃ o, r.get? d = some o := by
  obtain ⟨_, P, _⟩ := T
  exact P.live
theorem GS.live (G : GS w r₀ r f l t wd ht gx src St sk lv) : ∀ a ∈ src :: muts St sk lv, ∃ o, r.get? a = some o := fun a ha => by
  rcases List.mem_cons.mp ha with rfl | ha
  · exact G.H.live
  · rcases mem_muts.mp ha with rfl | rfl | ⟨v, hv, rfl | h⟩
    · obtain ⟨n, e⟩ := G.S; exact ⟨_, e⟩
    · obtain ⟨n, e⟩ := G.k; exact ⟨_, e⟩
    · exact (G.T v hv).live
    · exact Grid.live (G.C v hv) a h
/-- all goes on but what is told anew -/
theorem GS.next {as : List Addr} (G : GS w r₀ r f l t wd ht gx src St sk lv) (S : Step as r r') (n : ∀ a ∈ as, a ∉ muts St sk lv ∧ f.get? a = none) (H : Src w r' src) : GS w r₀ r' f l t wd ht gx src St sk lv where
  kf := Step.fz S G.kf fun a ha => (n a ha).2
  fsrc := G.fsrc
  off := G.off
  fresh := G.fresh
  nd := G.nd
  I := G.I
  K := G.K
  C := fun v hv => (G.C v hv).step S fun a ha z => (n a z).1 (mem_muts.mpr (.inr (.inr ⟨v, hv, .inr ha⟩)))
  T := fun v hv => (G.T v hv).step S fun z => (n _ z).1 (mem_muts.mpr (.inr (.inr ⟨v, hv, .inl rfl⟩)))
  ok := G.ok
  S := G.S.step S fun z => (n _ z).1 (mem_muts.mpr (.inl rfl))
  k := G.k.step S fun z => (n _ z).1 (mem_muts.mpr (.inr (.inl rfl)))
  H := H
theorem GS.draw (G : GS w r₀ r f l t wd ht gx src St sk lv) (S : Step [src] r r') (H : Src w r' src) : GS w r₀ r' f l t wd ht gx src St sk lv :=
  G.next S (fun a ha => by rw [List.mem_singleton.mp ha]; exact ⟨(List.nodup_cons.mp G.nd).1, G.fsrc⟩) H
theorem GS.up (G : GS w r₀ r f l t wd ht gx src St sk lv) (k : r.StaysIn r') : GS w r₀ r' f l t wd ht gx src St sk lv :=
  G.next (Step.of_stays (as := []) k) (fun a ha => nomatch ha) (G.H.up k)
theorem GS.grow (G : GS w r₀ r f l t wd ht gx src St sk lv) (hl : lv ≠ []) {r1 r2 r3 fn : Heap} {n d : Addr} {rn : List Addr} {F : Int → Int → C4} (L1 : Step [St] r r1) (S1 : isL r1 St ((lv.map fun v => .ref v.c) ++ [.ref n])) (kn : fn.StaysIn r1) (Kn : CSk fn n rn l t wd ht)
    (hrn : ∀ a ∈ rn, fn.get? a = none ∧ r.get? a = none) (hfn : ∀ a o, fn.get? a = some o → r.get? a = none) (L2 : Step (src :: rn) r1 r2) (hd : r1.get? d = none) (H2 : Src w r2 src) (C2 : Cells r2 rn l t wd ht F) (okF : ∀ p q, (F p q).Ok) (T2 : TabC w r2 d (places l t wd ht) F)
    (rl : ∀ a ∈ rn, ∃ o, r1.get? a = some o) (L3 : Step [sk] r2 r3) (k3 : isL r3 sk ((lv.tail.map fun v => .ref v.d) ++ [.ref d])) (fr : ∀ a, r.get? a = none → r₀.get? a = none) : ∃ f', GS w r₀ r3 f' l t wd ht gx src St sk (lv ++ [⟨n, rn, d, F⟩]) := by
  have lv1 : ∀ a ∈ src :: muts St sk lv, ∃ o, r1.get? a = some o := fun a ha => by
    cases q : r1.get? a with
    | some o => exact ⟨o, rfl⟩
    | none => have := L1.sub a q; obtain ⟨o, e⟩ := G.live a ha; rw [e] at this; cases this
  have hm : muts St sk (lv ++ [⟨n, rn, d, F⟩]) = muts St sk lv ++ (d :: rn) := by unfold muts; simp
  have dold : d ∉ src :: muts St sk lv := fun z => by obtain ⟨o, e⟩ := lv1 d z; rw [e] at hd; cases hd
  have drn : d ∉ rn := fun z => by obtain ⟨o, e⟩ := rl d z; rw [e] at hd; cases hd
  have rnold : ∀ a ∈ rn, a ∉ src :: muts St sk lv := fun a ha z => by obtain ⟨o, e⟩ := G.live a z; rw [(hrn a ha).2] at e; cases e
  have off2 : ∀ a ∈ src :: (muts St sk lv ++ (d :: rn)), f.get? a = none := fun a ha => by
    rcases List.mem_cons.mp ha with rfl | ha
    · exact G.fsrc
    rcases List.mem_append.mp ha with ha | ha
    · exact G.off a ha
    rcases List.mem_cons.mp ha with rfl | ha
    · exact none_of_stays G.kf (L1.sub _ hd)
    · exact none_of_stays G.kf (hrn a ha).2
  have offn : ∀ a ∈ src :: (muts St sk lv ++ (d :: rn)), fn.get? a = none := fun a ha => by
    have old : ∀ b ∈ src :: muts St sk lv, fn.get? b = none := fun b hb => by
      cases q : fn.get? b with
      | none => rfl
      | some o => have := hfn b o q; obtain ⟨o', e⟩ := G.live b hb; rw [e] at this; cases this
    rcases List.mem_cons.mp ha with rfl | ha
    · exact old _ (.head _)
    rcases List.mem_append.mp ha with ha | ha
    · exact old a (.tail _ ha)
    rcases List.mem_cons.mp ha with rfl | ha
    · exact none_of_stays kn hd
    · exact (hrn a ha).1
  have sm : St ∈ muts St sk lv := .head _
  have km : sk ∈ muts St sk lv := .tail _ (.head _)
  have s1 : ∀ a ∈ [St], f.get? a = none := fun a ha => by rw [List.mem_singleton.mp ha]; exact G.off _ sm
  have s2 : ∀ a ∈ src :: rn, f.get? a = none := fun a ha => by
    rcases List.mem_cons.mp ha with rfl | ha
    · exact G.fsrc
    · exact none_of_stays G.kf (hrn a ha).2
  have s3 : ∀ a ∈ [sk], f.get? a = none := fun a ha => by rw [List.mem_singleton.mp ha]; exact G.off _ km
  have n2 : ∀ a ∈ src :: rn, fn.get? a = none := fun a ha => by
    rcases List.mem_cons.mp ha with rfl | ha
    · exact offn _ (.head _)
    · exact (hrn a ha).1
  have n3 : ∀ a ∈ [sk], fn.get? a = none := fun a ha => by rw [List.mem_singleton.mp ha]; exact offn _ (.tail _ (List.mem_append_left _ km))
  have kf3 : f.StaysIn r3 := Step.fz L3 (Step.fz L2 (Step.fz L1 G.kf s1) s2) s3
  have kn3 : fn.StaysIn r3 := Step.fz L3 (Step.fz L2 kn n2) n3
  have nd1 := List.nodup_cons.mp G.nd
  have nd2 := List.nodup_cons.mp nd1.2
  have Stsk : St ≠ sk := fun e => nd2.1 (by rw [e]; exact .head _)
  have skrn : ∀ a ∈ rn, a ∉ [sk] := fun a ha z => rnold a ha (by rw [List.mem_singleton.mp z]; exact .tail _ km)
  have St2 : St ∉ src :: rn := fun z => by
    rcases List.mem_cons.mp z with rfl | z
    · exact nd1.1 sm
    · exact rnold St z (.tail _ sm)
  refine ⟨cut r3 (src :: (muts St sk lv ++ (d :: rn))), cut_stays, cut_none (.head _), ?_, ?_, ?_, G.I.up (stays_cut kf3 off2), ?_, ?_, ?_, ?_, ?_, ?_, ?_⟩
  · rw [hm]; exact fun a ha => cut_none (.tail _ ha)
  · rw [hm]; intro a ha
    rcases List.mem_append.mp ha with ha | ha
    · exact G.fresh a ha
    rcases List.mem_cons.mp ha with rfl | ha
    · exact fr _ (L1.sub _ hd)
    · exact fr _ (hrn a ha).2
  · rw [hm, ← List.cons_append, List.nodup_append]
    refine ⟨G.nd, List.nodup_cons.mpr ⟨drn, C2.2.1⟩, fun a ha b hb e => ?_⟩
    subst e
    rcases List.mem_cons.mp hb with rfl | hb
    · exact dold ha
    · exact rnold a hb ha
  · intro v hv
    rcases List.mem_append.mp hv with hv | hv
    · exact (G.K v hv).up (stays_cut kf3 off2)
    · rw [List.mem_singleton.mp hv]; exact Kn.up (stays_cut kn3 offn)
  · intro v hv
    rcases List.mem_append.mp hv with hv | hv
    · have inm : ∀ a ∈ v.rs, a ∈ muts St sk lv := fun a ha => mem_muts.mpr (.inr (.inr ⟨v, hv, .inr ha⟩))
      refine (((G.C v hv).step L1 fun a ha z => ?_).step L2 fun a ha z => ?_).step L3 fun a ha z => ?_
      · have e := List.mem_singleton.mp z; subst e
        exact nd2.1 (.tail _ (List.mem_flatMap.mpr ⟨v, hv, .tail _ ha⟩))
      · rcases List.mem_cons.mp z with rfl | z
        · exact nd1.1 (inm _ ha)
        · exact rnold a z (.tail _ (inm a ha))
      · have e := List.mem_singleton.mp z; subst e
        exact (List.nodup_cons.mp nd2.2).1 (List.mem_flatMap.mpr ⟨v, hv, .tail _ ha⟩)
    · rw [List.mem_singleton.mp hv]; exact C2.step L3 skrn
  · intro v hv
    rcases List.mem_append.mp hv with hv | hv
    · have inm : v.d ∈ muts St sk lv := mem_muts.mpr (.inr (.inr ⟨v, hv, .inl rfl⟩))
      refine (((G.T v hv).step L1 fun z => ?_).step L2 fun z => ?_).step L3 fun z => ?_
      · have e := List.mem_singleton.mp z
        exact nd2.1 (by rw [← e]; exact .tail _ (List.mem_flatMap.mpr ⟨v, hv, .head _⟩))
      · rcases List.mem_cons.mp z with e | z
        · exact nd1.1 (e ▸ inm)
        · exact rnold _ z (.tail _ inm)
      · have e := List.mem_singleton.mp z
        exact (List.nodup_cons.mp nd2.2).1 (by rw [← e]; exact List.mem_flatMap.mpr ⟨v, hv, .head _⟩)
    · rw [List.mem_singleton.mp hv]; exact T2.step L3 fun z => dold (by rw [List.mem_singleton.mp z]; exact .tail _ km)
  · intro v hv
    rcases List.mem_append.mp hv with hv | hv
    · exact G.ok v hv
    · rw [List.mem_singleton.mp hv]; exact okF
  · rw [List.map_append]
    exact (S1.step L2 St2).step L3 (by simpa using Stsk)
  · rw [List.tail_append_of_ne_nil hl, List.map_append]; exact k3
  · exact H2.step L3 fun z => nd1.1 (by rw [List.mem_singleton.mp z]; exact km)
/-- a group has ended: the top goes, what was below it has another look -/
theorem GS.pop {lv : List Lv} {B A : Lv} (G : GS w r₀ r f l t wd ht gx src St sk (lv ++ [B] ++ [A])) {r1 r2 r3 f' : Heap} {F' : Int → Int → C4} (L1 : Step (St :: B.rs) r r1) (S1 : isL r1 St ((lv ++ [B]).map fun v => .ref v.c)) (C1 : Cells r1 B.rs l t wd ht F') (ok1 : ∀ p q, (F' p q).Ok)
    (L2 : Step [sk] r1 r2) (k2 : isL r2 sk ((lv ++ [B]).tail.map fun v => .ref v.d)) (L3 : Step [B.d] r2 r3) (T3 : TabC w r3 B.d (places l t wd ht) F') : GS w r₀ r3 f l t wd ht gx src St sk (lv ++ [⟨B.c, B.rs, B.d, F'⟩]) := by
  have nd1 := List.nodup_cons.mp G.nd
  have nd2 := List.nodup_cons.mp nd1.2
  have nd3 := List.nodup_cons.mp nd2.2
  have hm : muts St sk (lv ++ [⟨B.c, B.rs, B.d, F'⟩]) = muts St sk (lv ++ [B]) := by unfold muts; simp
  have hsub : ∀ a ∈ muts St sk (lv ++ [B]), a ∈ muts St sk (lv ++ [B] ++ [A]) := fun a ha => by
    rcases mem_muts.mp ha with h | h | ⟨v, hv, h⟩
    · exact mem_muts.mpr (.inl h)
    · exact mem_muts.mpr (.inr (.inl h))
    · exact mem_muts.mpr (.inr (.inr ⟨v, List.mem_append_left _ hv, h⟩))
  have Bm : B ∈ lv ++ [B] ++ [A] := List.mem_append_left _ (List.mem_append_right _ (.head _))
  have ndf : ((lv ++ [B] ++ [A]).flatMap fun v => v.d :: v.rs).Nodup := nd3.2
  have ndB : ∀ v ∈ lv, ∀ a, a ∈ v.d :: v.rs → a ∉ B.d :: B.rs := fun v hv a ha hb => by
    rw [List.flatMap_append, List.flatMap_append, List.nodup_append, List.nodup_append] at ndf
    exact ndf.1.2.2 a (List.mem_flatMap.mpr ⟨v, hv, ha⟩) a (by simpa using hb) rfl
  have ndBB : B.d ∉ B.rs := by
    rw [List.flatMap_append, List.flatMap_append, List.nodup_append, List.nodup_append] at ndf
    have := ndf.1.2.1
    simp only [List.flatMap_cons, List.flatMap_nil, List.append_nil] at this
    exact (List.nodup_cons.mp this).1
  have inB : ∀ a ∈ B.d :: B.rs, a ∈ (lv ++ [B] ++ [A]).flatMap fun v => v.d :: v.rs := fun a ha => List.mem_flatMap.mpr ⟨B, Bm, ha⟩
  have Bd : B.d ∈ muts St sk (lv ++ [B] ++ [A]) := mem_muts.mpr (.inr (.inr ⟨B, Bm, .inl rfl⟩))
  have o1 : ∀ a ∈ St :: B.rs, f.get? a = none := fun a ha => by
    rcases List.mem_cons.mp ha with rfl | ha
    · exact G.off _ (.head _)
    · exact G.off a (mem_muts.mpr (.inr (.inr ⟨B, Bm, .inr ha⟩)))
  have o2 : ∀ a ∈ [sk], f.get? a = none := fun a ha => by rw [List.mem_singleton.mp ha]; exact G.off _ (.tail _ (.head _))
  have o3 : ∀ a ∈ [B.d], f.get? a = none := fun a ha => by rw [List.mem_singleton.mp ha]; exact G.off _ Bd
  have skB : ∀ a ∈ B.d :: B.rs, a ≠ sk := fun a ha e => nd3.1 (by rw [← e]; exact inB a ha)
  have StB : ∀ a ∈ B.d :: B.rs, a ≠ St := fun a ha e => nd2.1 (by rw [← e]; exact .tail _ (inB a ha))
  have St3 : St ≠ sk := fun e => nd2.1 (by rw [e]; exact .head _)
  have srcm : ∀ a ∈ muts St sk (lv ++ [B] ++ [A]), a ≠ src := fun a ha e => nd1.1 (e ▸ ha)
  refine ⟨Step.fz L3 (Step.fz L2 (Step.fz L1 G.kf o1) o2) o3, G.fsrc, ?_, ?_, ?_, G.I, ?_, ?_, ?_, ?_, ?_, ?_, ?_⟩
  · rw [hm]; exact fun a ha => G.off a (hsub a ha)
  · rw [hm]; exact fun a ha => G.fresh a (hsub a ha)
  · rw [hm]
    have : (src :: muts St sk (lv ++ [B])).Sublist (src :: muts St sk (lv ++ [B] ++ [A])) := by
      unfold muts
      rw [List.flatMap_append (xs := lv ++ [B])]
      exact .cons_cons _ (.cons_cons _ (.cons_cons _ (List.sublist_append_left _ _)))
    exact G.nd.sublist this
  · intro v hv
    rcases List.mem_append.mp hv with hv | hv
    · exact G.K v (List.mem_append_left _ (List.mem_append_left _ hv))
    · rw [List.mem_singleton.mp hv]; exact G.K B Bm
  · intro v hv
    rcases List.mem_append.mp hv with hv | hv
    · have vm : v ∈ lv ++ [B] ++ [A] := List.mem_append_left _ (List.mem_append_left _ hv)
      have inv : ∀ a ∈ v.rs, a ∈ (lv ++ [B] ++ [A]).flatMap fun v => v.d :: v.rs := fun a ha => List.mem_flatMap.mpr ⟨v, vm, .tail _ ha⟩
      refine (((G.C v vm).step L1 fun a ha z => ?_).step L2 fun a ha z => ?_).step L3 fun a ha z => ?_
      · rcases List.mem_cons.mp z with rfl | z
        · exact nd2.1 (.tail _ (inv _ ha))
        · exact ndB v hv a (.tail _ ha) (.tail _ z)
      · have e := List.mem_singleton.mp z; subst e; exact nd3.1 (inv _ ha)
      · exact ndB v hv a (.tail _ ha) (by rw [List.mem_singleton.mp z]; exact .head _)
    · rw [List.mem_singleton.mp hv]
      exact (C1.step L2 fun a ha z => skB a (.tail _ ha) (List.mem_singleton.mp z)).step L3 fun a ha z => ndBB (by rw [← List.mem_singleton.mp z]; exact ha)
  · intro v hv
    rcases List.mem_append.mp hv with hv | hv
    · have vm : v ∈ lv ++ [B] ++ [A] := List.mem_append_left _ (List.mem_append_left _ hv)
      have inv : v.d ∈ (lv ++ [B] ++ [A]).flatMap fun v => v.d :: v.rs := List.mem_flatMap.mpr ⟨v, vm, .head _⟩
      refine (((G.T v vm).step L1 fun z => ?_).step L2 fun z => ?_).step L3 fun z => ?_
      · rcases List.mem_cons.mp z with e | z
        · exact nd2.1 (by rw [← e]; exact .tail _ inv)
        · exact ndB v hv _ (.head _) (.tail _ z)
      · exact nd3.1 (by rw [← List.mem_singleton.mp z]; exact inv)
      · exact ndB v hv _ (.head _) (by rw [List.mem_singleton.mp z]; exact .head _)
    · rw [List.mem_singleton.mp hv]; exact T3
  · intro v hv
    rcases List.mem_append.mp hv with hv | hv
    · exact G.ok v (List.mem_append_left _ (List.mem_append_left _ hv))
    · rw [List.mem_singleton.mp hv]; exact ok1
  · have e : ((lv ++ [(⟨B.c, B.rs, B.d, F'⟩ : Lv)]).map fun v => Value.ref v.c) = (lv ++ [B]).map fun v => .ref v.c := by simp
    rw [e]
    exact (S1.step L2 (by simpa using St3)).step L3 (by simpa using fun e => StB _ (.head _) e.symm)
  · have e : ((lv ++ [(⟨B.c, B.rs, B.d, F'⟩ : Lv)]).tail.map fun v => Value.ref v.d) = (lv ++ [B]).tail.map fun v => .ref v.d := by
      cases lv <;> simp
    rw [e]
    exact k2.step L3 (by simpa using fun e => skB _ (.head _) e.symm)
  · refine ((G.H.step L1 fun z => ?_).step L2 fun z => ?_).step L3 fun z => ?_
    · rcases List.mem_cons.mp z with e | z
      · exact srcm St (.head _) e.symm
      · exact srcm src (mem_muts.mpr (.inr (.inr ⟨B, Bm, .inr z⟩))) rfl
    · exact srcm sk (.tail _ (.head _)) (List.mem_singleton.mp z).symm
    · exact srcm B.d Bd (List.mem_singleton.mp z).symm
end
local macro_rules | `(tactic| walk_at $s:str) => Ln.run Ln.rows4 s
/-! ## groups answer as they should -/
theorem GS.init {w : World} {r₀ r fc fg : Heap} {l t wd ht : Int} {gx src St sk x d : Addr} {rs : List Addr} {F : Int → Int → C4} (kc : fc.StaysIn r) (kg : fg.StaysIn r) (oc : ∀ a ∈ [src, St, sk, d] ++ rs, fc.get? a = none) (og : ∀ a ∈ [src, St, sk, d] ++ rs, fg.get? a = none)
    (nd : ([src, St, sk, d] ++ rs).Nodup) (fr : ∀ a ∈ [St, sk, d] ++ rs, r₀.get? a = none) (I : Inst fg gx 434 [("stack", .ref St)]) (K : CSk fc x rs l t wd ht) (C : Cells r rs l t wd ht F) (T : TabC w r d (places l t wd ht) F) (ok : ∀ p q, (F p q).Ok)
    (S : isL r St [.ref x]) (k : isL r sk []) (H : Src w r src) : ∃ f, GS w r₀ r f l t wd ht gx src St sk [⟨x, rs, d, F⟩] := by
  have hm : muts St sk [⟨x, rs, d, F⟩] = [St, sk, d] ++ rs := by unfold muts; simp
  refine ⟨cut r ([src, St, sk, d] ++ rs), cut_stays, cut_none (.head _), ?_, ?_, ?_, I.up (stays_cut kg og), ?_, ?_, ?_, ?_, S, k, H⟩
  · rw [hm]; exact fun a ha => cut_none (.tail _ ha)
  · rw [hm]; exact fr
  · rw [hm]; exact nd
  · intro v hv; rw [List.mem_singleton.mp hv]; exact K.up (stays_cut kc oc)
  · intro v hv; rw [List.mem_singleton.mp hv]; exact C
  · intro v hv; rw [List.mem_singleton.mp hv]; exact T
  · intro v hv; rw [List.mem_singleton.mp hv]; exact ok
inductive N7 (src ll tl x d gx sk : Addr) (m' : Str → Option Value) : Prop
  | mk (h1 : m' "source" = some (.ref src)) (h2 : m' "layers" = some (.ref ll)) (h3 : m' "told" = some (.ref tl)) (h4 : m' "canvas" = some (.ref x)) (h5 : m' "below" = some (.ref d)) (h6 : m' "groups" = some (.ref gx)) (h7 : m' "stack" = some (.ref sk)) : N7 src ll tl x d gx sk m'
inductive LG1 (w : World) (r : Heap) (src ll tl gx St sk x d : Addr) (rs : List Addr) (l t wd ht : Int) (i : Nat) (m' : Str → Option Value) (r' : Heap) : Prop
  | mk (h1 : N7 src ll tl x d gx sk m') (h2 : Step [src] r r') (f : Heap) (lv : List Lv) (F : Int → Int → C4) (h3 : GS w r r' f l t wd ht gx src St sk lv) (h4 : lv.length = 1 + i) (h5 : lv.head? = some ⟨x, rs, d, F⟩) (h6 : i ≤ 20) : LG1 w r src ll tl gx St sk x d rs l t wd ht i m' r'
theorem last_of {α : Type} {l : List α} {n : Nat} (h : l.length = 1 + n) : ∃ l' b, l = l' ++ [b] := by
  have : l ≠ [] := by rintro rfl; simp at h; lia
  exact ⟨l.dropLast, l.getLast this, (List.dropLast_concat_getLast this).symm⟩
theorem GS.offs {w : World} {r₀ r f : Heap} {l t wd ht : Int} {gx src St sk : Addr} {lv : List Lv} (G : GS w r₀ r f l t wd ht gx src St sk lv) : ∀ a ∈ src :: muts St sk lv, f.get? a = none := fun a ha => by
  rcases List.mem_cons.mp ha with rfl | ha
  · exact G.fsrc
  · exact G.off a ha
/-- all that does not change is frozen -/
theorem GS.refreeze {w : World} {r₀ r f : Heap} {l t wd ht : Int} {gx src St sk : Addr} {lv : List Lv} (G : GS w r₀ r f l t wd ht gx src St sk lv) : GS w r₀ r (cut r (src :: muts St sk lv)) l t wd ht gx src St sk lv := by
  have k := stays_cut G.kf G.offs
  exact ⟨cut_stays, cut_none (.head _), fun a ha => cut_none (.tail _ ha), G.fresh, G.nd, G.I.up k, fun v hv => (G.K v hv).up k, G.C, G.T, G.ok, G.S, G.k, G.H⟩
theorem Inst.same {h : Heap} {x C : Addr} {vs ws : List (Str × Value)} (I : Inst h x C vs) (J : Inst h x C ws) (name : Str) : vs.lookup name = ws.lookup name := by
  obtain ⟨o1, ⟨⟨d1, a1, b1⟩⟩, c1⟩ := I
  obtain ⟨o2, ⟨⟨d2, a2, b2⟩⟩, c2⟩ := J
  rw [a1] at a2
  have e : d1 = d2 := by have := Option.some.inj a2; simp [instObj] at this; exact this
  subst e
  rw [b1] at b2
  have e := Option.some.inj b2
  subst e
  have := (c1 name).symm.trans (c2 name)
  simpa using this
theorem CSk.rows {f : Heap} {c : Addr} {rs rs' : List Addr} {l t wd ht : Int} (K : CSk f c rs l t wd ht) (K' : CSk f c rs' l t wd ht) : rs = rs' := by
  obtain ⟨_, D, t1, t2, t3, t4, I, ⟨n, e⟩⟩ := K
  obtain ⟨_, D', u1, u2, u3, u4, I', ⟨n', e'⟩⟩ := K'
  have z : some (Value.ref D) = some (Value.ref D') := I.same I' "cells"
  have z : D = D' := by simpa using z
  subst z
  rw [e] at e'
  have z := Option.some.inj e'
  have z : (rs.map Value.ref) = rs'.map Value.ref := by
    have := congrArg Obj.data z
    simp at this
    exact this.1
  exact List.map_inj_right (fun _ _ h => by injection h) |>.mp z
section
variable {w : World} {r₀ r f : Heap} {l t wd ht : Int} {gx src St sk : Addr} {lv : List Lv} {B A : Lv}
/-- no two groups are one canvas -/
theorem GS.apart {Z : Lv} (G : GS w r₀ r f l t wd ht gx src St sk (Z :: lv)) {v : Lv} (hv : v ∈ lv) : v.c ≠ Z.c := fun e => by
  have K1 := G.K Z (.head _)
  have K2 := G.K v (.tail _ hv)
  rw [e] at K2
  have er := CSk.rows K1 K2
  have nd := (List.nodup_cons.mp (List.nodup_cons.mp (List.nodup_cons.mp G.nd).2).2).2
  rw [List.flatMap_cons, List.nodup_append] at nd
  obtain ⟨⟨b1, _, b3, _⟩, _⟩ := id K1
  have lz : Z.rs.length = ht.toNat := (G.C Z (.head _)).1
  cases q : Z.rs with
  | nil => rw [q] at lz; simp at lz; lia
  | cons a rs =>
    refine nd.2.2 a (.tail _ (by rw [q]; exact .head _)) a (List.mem_flatMap.mpr ⟨v, hv, .tail _ ?_⟩) rfl
    rw [← er, q]; exact .head _
structure Two (r f : Heap) (St sk src : Addr) (lv : List Lv) (B A : Lv) : Prop where
  ab : ∀ y ∈ A.rs, y ∉ B.rs
  sa : St ∉ A.rs
  sb : St ∉ B.rs
  off : ∀ y ∈ St :: B.rs, f.get? y = none
  S : isL r St (lv.map (fun v => .ref v.c) ++ [.ref B.c] ++ [.ref A.c])
  k : isL r sk ((lv ++ [B]).tail.map (fun v => .ref v.d) ++ [.ref A.d])
  skB : sk ∉ St :: B.rs
  dA : A.d ∉ St :: B.rs
  dB : B.d ∉ St :: B.rs
  dk : A.d ≠ sk
  dk' : B.d ≠ sk
  dd : A.d ≠ B.d
  ds : src ∉ St :: B.rs
theorem GS.two (G : GS w r₀ r f l t wd ht gx src St sk (lv ++ [B] ++ [A])) : Two r f St sk src lv B A := by
  have nd1 := List.nodup_cons.mp G.nd
  have nd2 := List.nodup_cons.mp nd1.2
  have nd3 := List.nodup_cons.mp nd2.2
  have ndf : ((lv ++ [B] ++ [A]).flatMap fun v => v.d :: v.rs).Nodup := nd3.2
  have Bm : B ∈ lv ++ [B] ++ [A] := List.mem_append_left _ (List.mem_append_right _ (.head _))
  have Am : A ∈ lv ++ [B] ++ [A] := List.mem_append_right _ (.head _)
  have inB : ∀ a ∈ B.d :: B.rs, a ∈ (lv ++ [B] ++ [A]).flatMap fun v => v.d :: v.rs := fun a ha => List.mem_flatMap.mpr ⟨B, Bm, ha⟩
  have inA : ∀ a ∈ A.d :: A.rs, a ∈ (lv ++ [B] ++ [A]).flatMap fun v => v.d :: v.rs := fun a ha => List.mem_flatMap.mpr ⟨A, Am, ha⟩
  rw [List.flatMap_append, List.flatMap_append, List.nodup_append, List.nodup_append] at ndf
  have hAB : ∀ a ∈ A.d :: A.rs, a ∉ B.d :: B.rs := fun a ha hb => ndf.2.2 a (List.mem_append_right _ (by simpa using hb)) a (by simpa using ha) rfl
  have hBB : B.d ∉ B.rs := by
    have := ndf.1.2.1
    simp only [List.flatMap_cons, List.flatMap_nil, List.append_nil] at this
    exact (List.nodup_cons.mp this).1
  have nS : ∀ a ∈ (lv ++ [B] ++ [A]).flatMap fun v => v.d :: v.rs, a ≠ St := fun a ha e => nd2.1 (by rw [← e]; exact .tail _ ha)
  have nk : ∀ a ∈ (lv ++ [B] ++ [A]).flatMap fun v => v.d :: v.rs, a ≠ sk := fun a ha e => nd3.1 (by rw [← e]; exact ha)
  refine ⟨fun y hy hb => hAB y (.tail _ hy) (.tail _ hb), fun z => nS St (inA St (.tail _ z)) rfl, fun z => nS St (inB St (.tail _ z)) rfl, fun y hy => ?_, ?_, ?_, ?_, ?_, ?_, ?_, ?_, ?_, ?_⟩
  · rcases List.mem_cons.mp hy with rfl | hy
    · exact G.off _ (.head _)
    · exact G.off y (mem_muts.mpr (.inr (.inr ⟨B, Bm, .inr hy⟩)))
  · have := G.S; simpa using this
  · have := G.k
    rw [List.tail_append_of_ne_nil (by simp), List.map_append] at this
    exact this
  · intro z
    rcases List.mem_cons.mp z with e | z
    · exact nd2.1 (by rw [← e]; exact .head _)
    · exact nk sk (inB sk (.tail _ z)) rfl
  · intro z
    rcases List.mem_cons.mp z with e | z
    · exact nS _ (inA _ (.head _)) e
    · exact hAB _ (.head _) (.tail _ z)
  · intro z
    rcases List.mem_cons.mp z with e | z
    · exact nS _ (inB _ (.head _)) e
    · exact hBB z
  · exact nk _ (inA _ (.head _))
  · exact nk _ (inB _ (.head _))
  · exact fun e => hAB A.d (.head _) (by rw [e]; exact .head _)
  · intro z
    rcases List.mem_cons.mp z with e | z
    · exact nd1.1 (by rw [e]; exact .head _)
    · exact nd1.1 (mem_muts.mpr (.inr (.inr ⟨B, Bm, .inr z⟩)))
end
/-- the clip that was drawn -/
noncomputable def CS (w : World) (f : Heap) (x0 x1 : Addr) (G0 G1 : Int → Int → Int) (cv : Value) (co : Option (List (Int → Int → Int))) : Prop :=
  (cv = .none ∧ co = none) ∨ (∃ y ls fs, cv = .ref y ∧ co = some fs ∧ ClipC f y ls ∧ Lays w f ls fs ∧ ((ls = [x0, x1] ∧ fs = [G0, G1]) ∨ (ls = [x0] ∧ fs = [G0])))
theorem CS.up {w : World} {f f' : Heap} {x0 x1 : Addr} {G0 G1 : Int → Int → Int} {cv : Value} {co : Option (List (Int → Int → Int))} (c : CS w f x0 x1 G0 G1 cv co) (k : f.StaysIn f') : CS w f' x0 x1 G0 G1 cv co :=
  c.imp id fun ⟨y, ls, fs, a, b, c, d, e⟩ => ⟨y, ls, fs, a, b, c.up k, d.up k, e⟩
theorem lays_two {w : World} {f : Heap} {x0 x1 : Addr} {G0 G1 : Int → Int → Int} (y0 : Lay w f x0 G0) (y1 : Lay w f x1 G1) : Lays w f [x0, x1] [G0, G1] := ⟨rfl, fun i a g e1 e2 => by
  rcases i with _ | _ | i
  · simp at e1 e2; subst e1 e2; exact y0
  · simp at e1 e2; subst e1 e2; exact y1
  · simp at e1⟩
theorem lays_one {w : World} {f : Heap} {x0 : Addr} {G0 : Int → Int → Int} (y0 : Lay w f x0 G0) : Lays w f [x0] [G0] := ⟨rfl, fun i a g e1 e2 => by
  rcases i with _ | i
  · simp at e1 e2; subst e1 e2; exact y0
  · simp at e1⟩
theorem wt_255r {n : Int} : wt n 255 = n := by rw [wt_comm]; exact wt_255
theorem sc_dim {c : C4} {al : Int} : sc c al = dim c al := by
  unfold sc
  split
  · rename_i h; subst h; unfold dim; simp only [wt_255r]
  · rfl
theorem keysOf_put {xs : Ents} {k : List Int} {v : Value} : keysOf (xs.map (putAt k v)) = keysOf xs := by
  unfold keysOf
  rw [List.map_map]
  refine List.map_congr_left fun x _ => ?_
  obtain ⟨a, b, c⟩ := x
  simp only [Function.comp, putAt]
  split <;> rfl
theorem eqAt_cols {A : Around} {s : Shared} {a c : Addr} {x : C4} (ha : isCol s.heap a x) (hc : isCol s.heap c x) (hu : A.units < cLine) : PySem.SeqAt.EqAt A s (.ref a) (.ref c) true := by
  obtain ⟨t0, t1, t2, t3, ha⟩ := ha
  obtain ⟨u0, u1, u2, u3, hc⟩ := hc
  refine eqAt_tups ha hc hu rfl fun j y z h1 h2 => ?_
  rcases j with _ | _ | _ | _ | j
  · simp at h1 h2; subst h1 h2; simpa using eqAt_int (A := A.in1) (s := s) (a := x.a) (b := x.a) (t := t0) (u := u0)
  · simp at h1 h2; subst h1 h2; simpa using eqAt_int (A := A.in1) (s := s) (a := x.b) (b := x.b) (t := t1) (u := u1)
  · simp at h1 h2; subst h1 h2; simpa using eqAt_int (A := A.in1) (s := s) (a := x.c) (b := x.c) (t := t2) (u := u2)
  · simp at h1 h2; subst h1 h2; simpa using eqAt_int (A := A.in1) (s := s) (a := x.d) (b := x.d) (t := t3) (u := u3)
  · simp at h1
/-- colours in a row -/
noncomputable def ColsAre (r : Heap) (ys : List Value) (ps : List (Int × Int)) (F : Int → Int → C4) (i : Nat) : Prop := ys.length = i ∧ ∀ (j : Nat) (v : Value) (p : Int × Int), ys[j]? = some v → ps[j]? = some p → Col r v (F p.1 p.2)
theorem ColsAre.nil {r : Heap} {ps : List (Int × Int)} {F : Int → Int → C4} : ColsAre r [] ps F 0 := ⟨rfl, fun j v p h => by simp at h⟩
theorem ColsAre.snoc {r : Heap} {ys : List Value} {ps : List (Int × Int)} {F : Int → Int → C4} {i : Nat} {v : Value} {p q : Int} (h : ColsAre r ys ps F i) (hp : ps[i]? = some (p, q)) (c : Col r v (F p q)) : ColsAre r (ys ++ [v]) ps F (i + 1) := by
  obtain ⟨hl, h⟩ := h
  refine ⟨by simp [hl], fun j v' p' h1 h2 => ?_⟩
  by_cases z : j < ys.length
  · rw [List.getElem?_append_left z] at h1; exact h j v' p' h1 h2
  · have e : j = i := by have := (List.getElem?_eq_some_iff.mp h1).1; simp at this; lia
    subst e
    rw [List.getElem?_append_right (by lia)] at h1
    simp [hl] at h1
    rw [hp] at h2
    cases h2; subst h1; exact c
theorem ColsAre.step {as : List Addr} {r r' : Heap} {ys : List Value} {ps : List (Int × Int)} {F : Int → Int → C4} {i : Nat} (h : ColsAre r ys ps F i) (S : Step as r r') : ColsAre r' ys ps F i := ⟨h.1, fun j v p h1 h2 => (h.2 j v p h1 h2).step S⟩
theorem popG_ok {md : Mode} {op : Int} {co : Option (List (Int → Int → Int))} {FA FB : Int → Int → C4} {ps : List (Int × Int)} (okA : ∀ p q, (FA p q).Ok) (okB : ∀ p q, (FB p q).Ok) (bnd : ∀ p q, 0 ≤ alo op co p q ∧ alo op co p q ≤ 255) : ∀ p q, (popG md op co FA FB ps p q).Ok := fun p q => by
  unfold popG
  split
  · exact la_ok md (okA p q) (okB p q) (bnd p q).1 (bnd p q).2
  · exact okB p q
theorem CSk.obj {f : Heap} {c : Addr} {rs : List Addr} {l t wd ht : Int} (K : CSk f c rs l t wd ht) : ∃ dx, f.get? c = some (instObj 296 dx) := by
  obtain ⟨_, _, _, _, _, _, ⟨_, ⟨⟨dx, a, _⟩⟩, _⟩, _⟩ := K
  exact ⟨dx, a⟩
/-! ## a fault that is made, raised, caught -/
abbrev tailSF : List Value := [.ref 50, .type "Exception", .type "BaseException", .type "object"]
abbrev SF63 : Obj := excClassObj "SheetFault" "SheetFault" 63 62 [.ref 50] tailSF true [] [] false none none (some (.ref 54)) none (some (.str "SheetFault" 243)) (some (.str "SheetFault" 251)) (some (.bool true)) "Exception.__new__"
theorem sf_at (w : World) : (Pf.ob.heap_1 w.params).lookup 63 = some SF63 := by k_is
abbrev excO (t : Addr) (d : Option Addr) : Obj := { cls := .ref 63, dict := d, data := .fields #[.ref t, .none, .none, .none, .bool false, .none] }
theorem exc_new {w : World} {A : Around} {R : Result → Shared → Prop} {h : Heap} {gn : Array GenState} {dr : Drawn} {t : Nat} {os : OsState} {rest : List Value} (hC : h.get? 63 = some SF63) (hz : rest.length ≤ sizeLine)
    (hq : R (.ok (.ret (.ref (h.objs.size + 1)))) ⟨(h.push { cls := .type "tuple", data := .seq rest.toArray }).push (excO h.objs.size none), gn, dr, t, os⟩) :
    codeAny (model prg w) A (.builtin "Exception.__new__" ⟨.ref 63 :: rest, []⟩) R ⟨h, gn, dr, t, os⟩ := by
  have F := PySem.F.excBase_Exception
  have e0 := F.ends
  have c1 : (Value.ref 63 :: tailSF).contains (.type "Exception") = true := by decide
  have c2 : (Value.ref 63 :: tailSF).contains (.type "AttributeError") = false := by decide
  have c3 : (Value.ref 63 :: tailSF).contains (.type "NameError") = false := by decide
  refine codeAny_builtinAt F.entry ?_
  unfold Builtin.«BaseException.__new__»
  refine PySem.wpAt_bind ?_
  show PySem.wpAt _ _ _ (stack >>= _) _ _ _
  refine PySem.wpAt_bind (PySem.wpAt_stack fun p below => PySem.wpAt_of_wpAny ?_)
  wp_walk
  refine PySem.wpAt_of_wpAny ?_
  rw [F.owner]
  repeat (first
    | with_reducible refine wpAny_madeHere_exc F.canon hC ?_
    | with_reducible refine wpAny_loadPart_at hC ?_
    | (with_reducible refine wpAny_isSubtype_exc hC ?_; first | rw [c1] | rw [c2] | rw [c3])
    | wp_step)
  show R _ _
  rw [Heap.size_push]
  exact hq
theorem exc_core {w : World} {A : Around} {E : Value → Shared → Prop} {h : Heap} {gn : Array GenState} {dr : Drawn} {t : Nat} {os : OsState} {rest : List Value} {Q : Fin → Shared → Prop} (X : (Pf.ob.heap_1 w.params).In h) (hz : rest.length ≤ sizeLine)
    (hq : wpAny (model prg w) A (call (.ref 47) (.ref (h.objs.size + 1) :: rest)) (fun r s' => r = .none ∧ Q (.done (.ret (.ref (h.objs.size + 1)))) s') E ⟨(h.push { cls := .type "tuple", data := .seq rest.toArray }).push (excO h.objs.size none), gn, dr, t, os⟩) :
    wpAny (model prg w) A (Builtin.«type.__call__» ⟨.ref 63 :: rest, []⟩) Q E ⟨h, gn, dr, t, os⟩ := by
  have F := PySem.F.excBase_Exception
  have hC := X _ _ (sf_at w)
  have hi : findIn (Pf.ob.heap_1 w.params) (.ref 63) "__init__" = some (some (.ref 47)) := by k_is
  have hf : typeIn (Pf.ob.heap_1 w.params) (.ref 47) = some (.type "function") := by k_is
  repeat (first | with_reducible refine wpAny_loadPart_at hC ?_ | with_reducible refine wpAny_madeBy_exc hC ?_ | wp_step)
  refine codeAny_call_builtin_code (Code.quiet_builtin _ F.quiet) (wpAny_check_new_subU (bmB := tailSF) F (by decide) .base hC ?_)
  refine exc_new hC hz ?_
  show wpAny _ _ _ _ _ _
  have k2 : h.StaysIn ((h.push { cls := .type "tuple", data := .seq rest.toArray }).push (excO h.objs.size none)) := StaysIn.trans (stays_push _ _) (stays_push _ _)
  have X2 : (Pf.ob.heap_1 w.params).In ((h.push { cls := .type "tuple", data := .seq rest.toArray }).push (excO h.objs.size none)) := X.keeps k2
  have hC2 := X2 _ _ (sf_at w)
  have he : ((h.push { cls := .type "tuple", data := .seq rest.toArray }).push (excO h.objs.size none)).get? (h.objs.size + 1) = some (excO h.objs.size none) := by heap_get
  have c1 : (Value.ref 63 :: tailSF).contains (.ref 63) = true := by decide
  unfold isInstance
  repeat (first | with_reducible refine wpAny_loadPart_at he ?_ | (with_reducible refine wpAny_isSubtype_exc hC2 ?_; rw [c1]) | wp_step)
  show wpAny _ _ (typeLookup (.ref 63) _) _ _ _
  refine (looks_findIn X2 hi).here ?_
  refine wpAny_holding (wpAny_bind ((bind_fn X2 (.ref (h.objs.size + 1)) hf).here ?_))
  refine wpAny_bind (wpAny_mono hq (fun r s' hr => ?_) fun _ _ x => x)
  obtain ⟨rfl, hQ⟩ := hr
  wp_walk
  exact hQ
theorem exc_inst {h : Heap} {x t : Addr} (hx : h.get? x = some (excO t none)) : InstAt h x (excO t none) 63 none := ⟨hx, rfl, rfl, trivial⟩
theorem osa_exc {w : World} {A : Around} {s : Shared} {R : Result → Shared → Prop} {x t : Addr} {name : Str} {tk : Tok} {v : Value} (X : (Pf.ob.heap_1 w.params).In s.heap) (hx : s.heap.get? x = some (excO t none)) (hf : findIn (Pf.ob.heap_1 w.params) (.ref 63) name = some none)
    (h : wpAny (model prg w) A.in1 (Builtin.ObjectAttr.storeInOwnDict (.ref x) (.ref 63) (.str name tk) name v false) (fun fin s' => match fin with | .done f => R (.ok f) s' | .again c' => c'.quiet = true ∧ codeAny (model prg w) A c' R s') (fun e s' => R (.error e) s') s) :
    codeAny (model prg w) A (.call (.builtin "object.__setattr__") ⟨[.ref x, .str name tk, v], []⟩) R s := by
  have SF := PySem.F.store_Exception
  have hC := X _ _ (sf_at w)
  have I := exc_inst hx
  have hobj : (Value.ref 63 :: tailSF).contains (.type "object") = true := by decide
  have ho : Looks (model prg w) s.heap (isInstance (.ref x) (.type "object")) true := fun A₁ Q₁ E₁ s₁ hk hq => by
    obtain ⟨hh, gn, dr, tt, os⟩ := s₁
    have hx' := hk _ _ hx
    have hC' := hk _ _ hC
    unfold isInstance
    repeat (first | with_reducible refine wpAny_loadPart_at hx' ?_ | (with_reducible refine wpAny_isSubtype_exc hC' ?_; rw [hobj]) | wp_step)
    exact hq
  refine codeAny_call_builtin SF.slot.plain SF.entry (@check_slot (model prg w) _ _ s "object.__setattr__" "object" "__setattr__" (.ref x) [.str name tk, v] [] _ SF.kind SF.split ho (SF.args (.ref x) (.str name tk) v) ?_)
  obtain ⟨hh, gn, dr, tt, os⟩ := s
  rw [osa_eq, PySem.refuse_eq]
  refine wpAny_bind (wpAny_bind (I.type.here (wpAny_bind (wpAny_mroOf_exc hC ?_))))
  rw [refuseLoop_ref, refuseLoop_ref, SF.passes]
  refine wpAny_pure (wpAny_bind (I.type.here (wpAny_bind ((looks_findIn X hf).here (wpAny_bind (wpAny_pure ?_))))))
  exact h
theorem set_exc {w : World} {A : Around} {E : Value → Shared → Prop} {s : Shared} {g : Heap} {cs : List Addr} {env : Env} {m : Str → Option Value} {r r₀ : Heap} {as : List Addr} {x t : Addr} {v : Value} {Q : Unit → Shared → Prop} (X : (Pf.ob.heap_1 w.params).In s.heap) (Z : At w g cs env m r s.heap)
    (he : r.get? x = some (excO t none)) (S : Step as r₀ r) (hm : x ∈ as ∨ r₀.get? x = none) (h : ∀ h' r' tk dx, At w g cs env m r' h' → r'.get? x = some (excO t (some dx)) → Step as r₀ r' → Q () { s with heap := h', toks := tk }) :
    wpAny (model prg w) A (setAttr (.ref x) "message" v) Q E s := by
  obtain ⟨hh, gn, dr, tt, os⟩ := s
  have hx := Z.own _ _ he
  have hC := X _ _ (sf_at w)
  refine set_plain (s := ⟨hh, gn, dr, tt, os⟩) X (exc_inst hx) (by k_is) (osa_exc (s := ⟨hh, gn, dr, tt + 1, os⟩) X hx (by k_is) ?_)
  have hc : clsIn (Pf.ob.heap_1 w.params) 63 = some { name := "SheetFault", bases := [.ref 50], mro := .ref 63 :: tailSF, ns := 62, qualname := "SheetFault" } := by k_is
  have Lc := looks_clsIn (M := model prg w) X hc
  refine wpAny_bind (wpAny_pure (wpAny_bind (wpAny_bind (wpAny_loadPart hx (wpAny_bind ?_)))))
  refine Lc _ _ _ _ (fun _ _ e => e) ?_
  refine wpAny_bind ?_
  have hx1 : (hh.push emptyDict).get? x = some (excO t none) := Heap.get?_push_of_some _ hx
  refine wpAny_alloc' (wpAny_bind (wpAny_update' hx1 (wpAny_pure ?_)))
  have hxs : x ≠ hh.objs.size := Nat.ne_of_lt (Heap.lt_size hx)
  have rs : r.get? hh.objs.size = none := Z.fresh.1
  have sb : Heap.SameBut x (hh.push emptyDict) ((hh.push emptyDict).update x fun o => { cls := o.cls, dict := some hh.objs.size, data := o.data, slots := o.slots }) := Heap.SameBut.update ..
  have gx : ((hh.push emptyDict).update x fun o => { cls := o.cls, dict := some hh.objs.size, data := o.data, slots := o.slots }).get? x = some (excO t (some hh.objs.size)) := Heap.get?_update_self _ hx1 rfl
  have gd : ((hh.push emptyDict).update x fun o => { cls := o.cls, dict := some hh.objs.size, data := o.data, slots := o.slots }).get? hh.objs.size = some emptyDict := (sb.2 _ hxs.symm).trans (Heap.get?_push_size _ rfl)
  have rx : (put r hh.objs.size emptyDict).get? x = some (excO t none) := by rw [put_ne _ _ hxs]; exact he
  have Z2 := (Z.new emptyDict).chg rx sb gx
  have rd : (put (put r hh.objs.size emptyDict) x (excO t (some hh.objs.size))).get? hh.objs.size = some emptyDict := by rw [put_ne _ _ hxs.symm]; exact put_self _ _ rfl
  have hnd : ((hh.push emptyDict).update x fun o => { cls := o.cls, dict := some hh.objs.size, data := o.data, slots := o.slots }).Ns hh.objs.size (fun _ => none) := ⟨_, #[], _, gd, rfl, fun e he => absurd he (by simp), fun _ => rfl⟩
  show wpAny _ _ (Builtin.ObjectAttr.storeInDict hh.objs.size _ _ v) _ _ _
  unfold Builtin.ObjectAttr.storeInDict Builtin.ObjectAttr.newKeyGuard
  refine wpAny_bind (wpAny_pure (wpAny_bind (wpAny_nsSet1 (Heap.Ns1.of_empty hnd) fun h' hn' hs => ?_)))
  obtain ⟨oD, esD, epD, hoD, hdD, hcD⟩ := hn'.count (Within.cons "message" v Within.nil)
  refine wpAny_bind (wpAny_lookBehind hoD (by rw [hdD]; exact pastItsLine_dict (Nat.le_trans hcD (by rw [List.length_cons, List.length_nil, sizeLine_eq]; lia))) ?_)
  wp_walk
  have Z3 := Z2.chg rd hs hoD
  have s1 : Step [x, hh.objs.size] r (put (put (put r hh.objs.size emptyDict) x (excO t (some hh.objs.size))) hh.objs.size oD) :=
    Step.trans (Step.trans (step_new rs) (step_old (.head _) rfl rx (by simp))) (step_old (.tail _ (.head _)) (Heap.get?_some_iff.mp hoD).2 rd (by simp))
  refine h _ _ _ hh.objs.size Z3 ?_ (S.then s1 fun a ha => ?_)
  · rw [put_ne _ _ hxs]; exact put_self _ _ rfl
  · rcases List.mem_cons.mp ha with rfl | ha
    · exact hm
    · exact .inr (by rw [List.mem_singleton.mp ha]; exact S.sub _ rs)
theorem exc_init (w : World) (r : Heap) (x t : Addr) (v : Value) (he : r.get? x = some (excO t none)) : Call w r [x] (.ref 47) [.ref x, v] 1 (fun u r' => u = .none ∧ ∃ dx, r'.get? x = some (excO t (some dx))) := by
  revert he
  revert w r x t v
  refine lift5 (i1 := Pf.nW) ?_; refine (?x102 : ∀ a0 a1 a2 a3 a4, Ap5 _ a0 a1 a2 a3 a4) _ _ _ _ _; intro w r x t v; refine Ap5.mk ?_
  intro he
  refine' enter [("self", .ref x), ("message", v)] ?ho ?hcd ?hb ?hkd ?hok ?hnd ?c2 ?c3 ?c4 (fun a ha => by rw [List.mem_singleton.mp ha]; exact ⟨_, he⟩) ?_
  walk_at "pf enter"
  refine lift8 (i1 := Pf.nA) (i7 := Pf.nS) ?_; refine (?x103 : ∀ a0 a1 a2 a3 a4 a5 a6 a7, Ap8 _ a0 a1 a2 a3 a4 a5 a6 a7) _ _ _ _ _ _ _ _; intro A base g h₁ tk₁ L s Q; refine Ap8.mk ?_
  intro hd hu X T U Z S hret
  walk_at "pf go"
  refine set_exc (by walk_at "pf K") (by assumption) he S (.inl (.head _)) fun h' r' tk dx Z' e' S' => ?_
  (try dsimp only)
  walk_at "pf go"
  refine' hret _ _ _ _ _ ?e1 ?e2 ?e3
  case e1 => assumption
  case e2 => assumption
  case e3 => exact ⟨rfl, dx, e'⟩
/-- a fault that is made: its __init__ -/
theorem Call.excMake {w : World} {r : Heap} {msg : Value} : Call w r [] (.ref 63) [msg] 2 (fun v r' => ∃ e t dx, v = .ref e ∧ r.get? e = none ∧ r'.get? e = some (excO t (some dx))) := by
  refine ⟨(fun _ h => nomatch h), ?_⟩
  intro dp un gd env outer base s R hr hx hdp hun hret
  obtain ⟨h, gn, d, t, os⟩ := s
  have fr : ∀ (z : Heap), z.StaysIn h → ∀ a, h.objs.size ≤ a → z.get? a = none := fun z hz a ha => by
    cases e : z.get? a with
    | none => rfl
    | some o => exact absurd (Heap.lt_size (hz _ _ e)) (Nat.not_lt.mpr ha)
  have X : (Pf.ob.heap_1 w.params).In h := hx.k.keeps (minus_stays _ _)
  have hC := X _ _ (sf_at w)
  have f1 := tc_lookup
  have f2 := tc_bind (.ref 63)
  have hT : (⟨h, gn, d, t, os⟩ : Shared).TypeIs (.ref 63) "type" := ⟨_, hC, rfl⟩
  refine codeAny_of_tree ?_
  show wpAny _ _ (callAny (.ref 63) _) _ _ _
  repeat (any_goals (first | assumption | with_reducible refine wpAny_loadPart_at hC ?_ | wp_step))
  refine ⟨rfl, ?_⟩
  refine codeAny_call_builtin_at (Code.quiet_builtin _ (by decide +kernel)) entry_typeCall (wpAny_check_type_call_sub hC (exc_core X (by simp [sizeLine_eq]) ?_))
  have nx : r.get? (h.objs.size + 1) = none := fr r hr _ (Nat.le_succ _)
  have nd : r.get? h.objs.size = none := fr r hr _ (Nat.le_refl _)
  let r₁ := put (put r h.objs.size (tupO [msg] 0)) (h.objs.size + 1) (excO h.objs.size none)
  have k₁ : r.StaysIn r₁ := StaysIn.trans (stays_put nd) (stays_put (by rw [put_ne _ _ (Nat.succ_ne_self _)]; exact nx))
  have he : r₁.get? (h.objs.size + 1) = some (excO h.objs.size none) := put_self _ _ rfl
  have kh : h.StaysIn ((h.push (tupO [msg] 0)).push (excO h.objs.size none)) := StaysIn.trans (stays_push _ _) (stays_push _ _)
  have own : r₁.StaysIn ((h.push (tupO [msg] 0)).push (excO h.objs.size none)) := fun b o e => by
    by_cases q : b = h.objs.size + 1
    · subst q
      rw [he] at e; cases e
      heap_get
    · rw [show r₁.get? b = _ from put_ne _ _ q] at e
      by_cases q' : b = h.objs.size
      · subst q'
        rw [put_self _ _ rfl] at e; cases e
        heap_get
      · rw [put_ne _ _ q'] at e
        exact kh _ _ (hr _ _ e)
  have km : (minus h r).StaysIn (minus ((h.push (tupO [msg] 0)).push (excO h.objs.size none)) r₁) := fun b o e => by
    have e' := minus_stays _ _ _ _ e
    refine minus_some (kh _ _ e') ?_
    have hb := Heap.lt_size e'
    show (put _ _ _).get? b = none
    rw [put_ne _ _ (Nat.ne_of_lt (Nat.lt_succ_of_lt hb)), put_ne _ _ (Nat.ne_of_lt hb)]
    rw [get_minus] at e
    split at e
    · cases e
    · rename_i z; cases q : r.get? b with
      | none => rfl
      | some o => rw [q] at z; simp at z
  refine wpAny_call ((exc_init w r₁ _ _ msg he).run (dp + 1) (un + 1) gd env outer base _ _ own (hx.mono km) (by lia) (by lia) fun v h' tk' r' a1 a2 a3 a4 a5 => ?_)
  obtain ⟨a5, dx, a6⟩ := a5
  have s1 : Step [] r r₁ := .of_stays k₁
  refine ⟨a5, hret (.ref (h.objs.size + 1)) h' tk' r' a1 (fun b o hb e => a2 b o ?_ (kh _ _ e)) (s1.then a3 ?_) (a4.mono km) ⟨_, _, dx, rfl, nx, a6⟩⟩
  · intro q
    exact absurd (Heap.lt_size e) (by rw [List.mem_singleton.mp q]; exact Nat.not_lt.mpr (Nat.le_succ _))
  · intro a ha
    exact .inr (by rw [List.mem_singleton.mp ha]; exact nx)
theorem raise_e {w : World} {A : Around} {E : Value → Shared → Prop} {s : Shared} {env : Env} {x : Sem Value} {Q : Flow → Shared → Prop} (hh : A.handled = none)
    (h : wpAny (model prg w) A x (fun v s₁ => ∃ e t dx, v = .ref e ∧ (Pf.ob.heap_1 w.params).In s₁.heap ∧ s₁.heap.get? e = some (excO t (some dx)) ∧ E (.ref e) s₁) E s) : wpAny (model prg w) A (raiseStmt env (some x) none) Q E s := by
  unfold raiseStmt
  refine wpAny_bind (wpAny_mono h (fun v s₁ h₁ => ?_) fun _ _ x => x)
  obtain ⟨e, t, dx, rfl, X, he, hE⟩ := h₁
  obtain ⟨hp, gn, d, tk, os⟩ := s₁
  have hC := X _ _ (sf_at w)
  have hcB : (Value.ref 63 :: tailSF).contains (.type "BaseException") = true := by decide
  repeat (first | with_reducible refine wpAny_loadPart_at he ?_ | with_reducible refine wpAny_loadPart_at hC ?_ | (with_reducible refine wpAny_isSubtype_exc hC ?_; rw [hcB]) | wp_step)
  exact wpAny_raiseNew_none hh hE
/-- all that is no frame -/
abbrev noFr (h : Heap) (l : List Env) : Heap := hideAll h (l.filterMap (·.frame))
/-- a call that ends by a fault -/
structure CallX (w : World) (r : Heap) (f : Value) (args : List Value) (n : Nat) : Prop where
  run : ∀ (dp un : Nat) (gd : Option (List Code)) (env : Env) (outer : List Env) (base : Heap) (s : Shared) (R : Result → Shared → Prop),
    r.StaysIn s.heap → Cx w env outer base (minus s.heap r) → dp + 4 * n < recursionLimit → un + 20 * n < cLine →
    (∀ e t h' tk', Heap.FlyingW (noFr s.heap (env :: outer)) (env :: outer) e (.ref 63) (.ref t) h' → s.heap.UpToSlots h' → R (.error (.ref e)) { s with heap := h', toks := tk' }) →
    codeAny (model prg w) (arnd dp un gd env outer) (.call f ⟨args, []⟩) R s
theorem all_stay {w : World} {cs : List Addr} {env : Env} {m : Str → Option Value} {r r' h h' : Heap} (hr : r.StaysIn h) (k : r.StaysIn r') (Z : At w (minus h r) cs env m r' h') : h.StaysIn h' := fun b o e => by
  cases q : r.get? b with
  | some o' =>
    have := hr b o' q
    rw [e] at this; cases this
    exact Z.own _ _ (k _ _ q)
  | none => exact Z.base _ _ (minus_some e q)
theorem enterX {w : World} {r : Heap} {f : Addr} {args : List Value} {k : Nat}
    {name qual : Str} {params : Arguments} {body : List Stmt} {scope : Scope} {dV kV doc pm cdv ct oc : Value} {an od : Option Addr} {osl : Array (Option Value)} (binds : List (Str × Value))
    (ho : (Pf.ob.heap_1 w.params).lookup f = some ⟨oc, od, .func (fnOf name qual params body scope dV kV doc pm an cdv ct), osl⟩) (hcd : codeIn (Pf.ob.heap_1 w.params) cdv qual = true)
    (hbind : ∀ s : Shared, (Pf.ob.heap_1 w.params).In s.heap → BindsTo s (fnOf name qual params body scope dV kV doc pm an cdv ct) ⟨args, []⟩ binds)
    (hkind : (binds.all fun y => scope.names.lookup y.1 == some .local || scope.names.lookup y.1 == some .cell) = true)
    (hok : okCells scope = true) (hnd : ((cellsFrom 0 scope.names []).map (·.1)).Nodup)
    (hco : scope.isCoroutine = false) (hgen : scope.isGenerator = false) (hk : scope.kind = .function)
    (h : ∀ (A : Around) (base g h₁ : Heap) (tk₁ : Nat) (L : Addr) (s : Shared) (EX : Value → Shared → Prop),
      A.depth + 4 * k + 3 < recursionLimit → A.units + 20 * k + 17 < cLine → (Pf.ob.heap_1 w.params).In g → TopE g → Up w g (envOfC qual scope L f cdv) A base →
      At w g ((cellsFrom (L + 1) scope.names []).map (·.2)) (envOfC qual scope L f cdv) (fun y => binds.reverse.lookup y) r h₁ →
      (∀ e t dx h' tk' r' m', At w g ((cellsFrom (L + 1) scope.names []).map (·.2)) (envOfC qual scope L f cdv) m' r' h' → Step [] r r' → r.get? e = none → r'.get? e = some (excO t (some dx)) → EX (.ref e) { s with heap := h', toks := tk' }) →
      wpAny (model prg w) A (execs body (envOfC qual scope L f cdv)) (fun _ _ => False) EX { s with heap := h₁, toks := tk₁ }) :
    CallX w r (.ref f) args (k + 1) := by
  refine ⟨?_⟩
  intro dp un gd env outer base s R hr hx hdp hun hret
  obtain ⟨st, fr, Kb, Tb⟩ := hx
  have K := Kb.keeps st
  have T := Tb.keeps st
  have KK : (Pf.ob.heap_1 w.params).In s.heap := K.keeps (minus_stays _ _)
  refine codeAny_call_function (by show dp < _; lia) (KK _ _ ho) rfl hco hgen rfl (codeRec_of KK hcd) (hbind s KK _ _ _ _ ?_)
  refine wpAny_newFunctionEnv_cells hk (kindsX hkind _) fun env' he s' x => ?_
  subst he
  refine ⟨(T.nolimit.keeps (minus_stays _ _)).keeps x.toInCall.keep, codeAny_func ?_⟩
  obtain ⟨h₁, tk, rfl, _⟩ := x.done
  have hk₁ := x.toInCall.keep
  have fresh : ∀ (z : Heap), z.StaysIn s.heap → ∀ a, s.heap.objs.size ≤ a → z.get? a = none := fun z hz a ha => by
    cases e : z.get? a with
    | none => rfl
    | some o => exact absurd (Heap.lt_size (hz _ _ e)) (Nat.not_lt.mpr ha)
  have kc : ∀ y c, (envOfC qual scope s.heap.objs.size f cdv).cells.lookup y = some c → (envOfC qual scope s.heap.objs.size f cdv).kindOf y ≠ some .local := fun y c e => by
    have hm := mem_of_lookup e
    rcases cellsKind scope.names _ [] hm with q | q
    · cases q
    · have := List.all_eq_true.mp hok _ q
      simp only [bne_self_eq_false, Bool.false_or, beq_iff_eq] at this
      show scope.names.lookup y ≠ _
      rw [this]; decide
  have Z : At w (minus s.heap r) ((cellsFrom (s.heap.objs.size + 1) scope.names []).map (·.2)) (envOfC qual scope s.heap.objs.size f cdv) (fun y => binds.reverse.lookup y) r h₁ := by
    refine ⟨fun b o e => hk₁ b o (minus_stays _ _ b o e), fun b o e => hk₁ b o (hr b o e), ⟨_, x.toInCall.ns, fun y hy => ?_⟩, fun y c e => ⟨?_, .inl (List.mem_map.mpr ⟨(y, c), mem_of_lookup e, rfl⟩)⟩, fun c hc => ?_, ⟨?_, ?_⟩, disj_minus _ _, fun _ => x.apart, kc⟩
    · exact (bindL_eq hy binds _).trans (by simp)
    · have hkd := kc y c e
      have q := x.cell y c e
      have q2 := bindC_eq (kindOf := (envOfC qual scope s.heap.objs.size f cdv).kindOf) hkd binds (fun _ => none)
      rw [Option.or_none] at q2
      exact q2 ▸ q
    · obtain ⟨⟨y, c'⟩, hm, rfl⟩ := List.mem_map.mp hc
      have hlt : s.heap.objs.size < c' := x.above y c' hm
      exact ⟨fresh r hr _ (Nat.le_of_lt hlt), fresh _ (minus_stays _ _) _ (Nat.le_of_lt hlt), Nat.ne_of_gt hlt, y, lookup_of_mem_nodup (cellsFrom_names scope.names 0 (s.heap.objs.size + 1) [] [] rfl ▸ hnd) hm⟩
    · exact fresh r hr _ (Nat.le_refl _)
    · exact fresh _ (minus_stays _ _) _ (Nat.le_refl _)
  refine wpAny_mono (h (arnd (dp + 1) (un + 3) gd (envOfC qual scope s.heap.objs.size f cdv) (env :: outer)) base (minus s.heap r) h₁ tk s.heap.objs.size s (fun e s' => wpAny (model prg w) ((arnd dp un gd env outer).deeper (envOfC qual scope s.heap.objs.size f cdv)) (leaving (envOfC qual scope s.heap.objs.size f cdv) e) (fun _ s'' => R (.error e) s'') (fun e' s'' => R (.error e') s'') s') (show dp + 1 + 4 * k + 3 < _ by lia) (show un + 3 + 20 * k + 17 < _ by lia) K T ⟨_, _, _, _, _, rfl, ?_⟩ Z (fun e t dx h' tk' r' m' Z' S' en eo => ?_)) (fun _ _ q => q.elim) fun _ _ q => q
  · intro gx hg ⟨o, ho, hnf⟩
    refine ⟨StaysIn.trans st hg, ⟨by show scope.kind ≠ .module; rw [hk]; decide, ⟨_, o, rfl, ?_, ho, hnf⟩, fr.of_keeps fun b o e _ => ⟨o, hg b o e, rfl⟩⟩, Kb, Tb⟩
    exact fresh base (StaysIn.trans st (minus_stays _ _)) _ (Nat.le_refl _)
  · have all : s.heap.StaysIn h' := all_stay hr S'.nil Z'
    have bB : (noFr s.heap (env :: outer)).StaysIn s.heap := fun b o q => of_hideAll _ q
    have fB : s.heap.FunFrames (noFr s.heap (env :: outer)) (env :: outer) := funFrames_hide (base := base) (fr.of_keeps fun b o q _ => ⟨o, minus_stays _ _ b o q, rfl⟩) fun v hv a ha => List.mem_filterMap.mpr ⟨v, hv, ha⟩
    obtain ⟨mL, ⟨oL, es, ep, hL, hd1, hd2, hd3⟩, _⟩ := Z'.ns
    have eB : (noFr s.heap (env :: outer)).get? e = none := by
      cases q : (noFr s.heap (env :: outer)).get? e with
      | none => rfl
      | some o =>
        have q2 := minus_some (bB _ _ q) en
        rw [Z'.rg _ _ eo] at q2; cases q2
    have F1 : h'.FunFrames (noFr s.heap (env :: outer)) (envOfC qual scope s.heap.objs.size f cdv :: env :: outer) :=
      ⟨by show scope.kind ≠ .module; rw [hk]; decide, ⟨s.heap.objs.size, oL, rfl, fresh _ bB _ (Nat.le_refl _), hL, fun vs q => by rw [hd1] at q; cases q⟩, fB.of_keeps fun b o q _ => ⟨o, all b o q, rfl⟩⟩
    refine wpAny_leaving_firstW (base := noFr s.heap (env :: outer)) (env := envOfC qual scope s.heap.objs.size f cdv) (outer := env :: outer) (oe := excO t (some dx)) (a0 := .ref t) rfl F1 rfl (Z'.own _ _ eo) (StaysIn.trans bB all) eB rfl rfl rfl fun h'' hL => ?_
    obtain ⟨k1, ⟨_, _, k2⟩, k3, k4⟩ := hL
    exact hret e t h'' tk' ⟨k1, eB, k2, k3⟩ ((Heap.UpToSlots.of_keeps all).trans k4)
local macro_rules | `(tactic| walk_at "exec Raise some none") => `(tactic| refine' Stop.mk ?_)
theorem pop_raise (w : World) (r : Heap) (x St : Addr) (v0 a1 a2 a3 : Value) (I : Inst r x 434 [("stack", .ref St)]) (H : isL r St [v0]) : CallX w r (.ref 431) [.ref x, a1, a2, a3] 4 := by
  refine' enterX [("self", .ref x), ("opacity", a1), ("mode", a2), ("clip", a3)] ?ho ?hcd ?hb ?hkd ?hok ?hnd ?c2 ?c3 ?c4 ?_
  walk_at "pf enter"
  intro A base g h₁ tk₁ L s EX hd hu X T U Z hret
  k_fold
  have S : Step [] r r := Step.refl _ _
  walk_at "pf go"
  refine' At.call (depth_spec w r x St [v0] I H (by simp)) ?hz ?hS ?hs ?hU ?hd ?hu ?_
  walk_at "pf sides"
  rintro v h' tk' r1 Z1 S1 L1 fr ⟨rfl, td, rfl⟩
  (try dsimp only)
  rw [show (([v0].length : Nat) : Int) - 1 = 0 by simp]
  clear Z
  walk_at "pf go"
  show wpAny _ _ (exec (PySem.Stmt.Raise _ _ _) _) _ _ _
  rw [arm_exec_Raise]
  refine wpAny_bind (wpAny_standAt (raise_e U.handled (wpAny_bind (wpAny_mono ?_ (fun v s₃ h₃ => wpAny_bind (wpAny_standAt (wpAny_pure h₃))) fun _ _ x => x))))
  walk_at "pf go"
  refine' At.call ((Call.excMake (w := w) (r := r) (msg := _))) ?hz ?hS ?hs ?hU ?hd ?hu ?_
  walk_at "pf sides"
  rintro v h' tk' r2 Z2 S2 L2 fx2 ⟨e, t, dx, rfl, en, eo⟩
  (try dsimp only)
  exact ⟨e, t, dx, rfl, X.keeps Z2.base, Z2.own _ _ eo, hret e t dx _ _ r2 _ Z2 S2 en eo⟩
abbrev arndM (hv : Option Value) (dp un : Nat) (gd : Option (List Code)) (env : Env) (outer : List Env) : Around := { handled := hv, depth := dp, frames := some (env :: outer), guards := gd, units := un }
/-- a call that may stand behind an except -/
structure CallM (w : World) (r : Heap) (f : Value) (args : List Value) (n : Nat) (P : Value → Prop) : Prop where
  run : ∀ (hv : Option Value) (dp un : Nat) (gd : Option (List Code)) (env : Env) (outer : List Env) (base : Heap) (s : Shared) (R : Result → Shared → Prop),
    r.StaysIn s.heap → Cx w env outer base (minus s.heap r) → dp + 4 * n < recursionLimit → un + 20 * n < cLine →
    (∀ v h' tk', base.StaysIn h' → P v → R (.ok (.ret v)) { s with heap := h', toks := tk' }) →
    codeAny (model prg w) (arndM hv dp un gd env outer) (.call f ⟨args, []⟩) R s
theorem callM_at {w : World} {r : Heap} {f : Value} {args : List Value} {n : Nat} {P : Value → Prop} (C : CallM w r f args n P)
    {g : Heap} {cs : List Addr} {env fenv : Env} {m : Str → Option Value} {s : Shared} {outer : List Env} {base : Heap} {hv : Option Value} {dp un : Nat} {gd : Option (List Code)} {Q E : Value → Shared → Prop}
    (Z : At w g cs env m r s.heap) (U : UpO w g env fenv outer base) (hd : dp + 4 * n < recursionLimit) (hu : un + 20 * n < cLine) (h : ∀ v h' tk', base.StaysIn h' → P v → Q v { s with heap := h', toks := tk' }) :
    wpAny (model prg w) (arndM hv dp un gd fenv outer) (call f args) Q E s := by
  obtain ⟨mL, ⟨oL, es, ep, hL, hd1, hd2, hd3⟩, hmL⟩ := Z.ns
  have gm : g.StaysIn (minus s.heap r) := fun b o e => minus_some (Z.base b o e) (Z.rg.right e)
  exact wpAny_call (C.run hv dp un gd fenv outer base s _ Z.own (U _ gm ⟨oL, minus_some hL Z.loc.1, fun vs q => by rw [hd1] at q; cases q⟩) hd hu h)
theorem enterM {w : World} {r : Heap} {f : Addr} {args : List Value} {k : Nat} {P : Value → Prop}
    {name qual : Str} {params : Arguments} {body : List Stmt} {scope : Scope} {dV kV doc pm cdv ct oc : Value} {an od : Option Addr} {osl : Array (Option Value)} (binds : List (Str × Value))
    (ho : (Pf.ob.heap_1 w.params).lookup f = some ⟨oc, od, .func (fnOf name qual params body scope dV kV doc pm an cdv ct), osl⟩) (hcd : codeIn (Pf.ob.heap_1 w.params) cdv qual = true)
    (hbind : ∀ s : Shared, (Pf.ob.heap_1 w.params).In s.heap → BindsTo s (fnOf name qual params body scope dV kV doc pm an cdv ct) ⟨args, []⟩ binds)
    (hkind : (binds.all fun y => scope.names.lookup y.1 == some .local || scope.names.lookup y.1 == some .cell) = true)
    (hok : okCells scope = true) (hnd : ((cellsFrom 0 scope.names []).map (·.1)).Nodup)
    (hco : scope.isCoroutine = false) (hgen : scope.isGenerator = false) (hk : scope.kind = .function)
    (h : ∀ (hv : Option Value) (dp un : Nat) (gd : Option (List Code)) (outer : List Env) (base g h₁ : Heap) (tk₁ : Nat) (L : Addr) (s : Shared) (Q : Value → Shared → Prop),
      dp + 4 * k + 3 < recursionLimit → un + 20 * k + 17 < cLine → (Pf.ob.heap_1 w.params).In g → TopE g → UpO w g (envOfC qual scope L f cdv) (envOfC qual scope L f cdv) outer base →
      At w g ((cellsFrom (L + 1) scope.names []).map (·.2)) (envOfC qual scope L f cdv) (fun y => binds.reverse.lookup y) r h₁ →
      (∀ v h' tk' r' m', At w g ((cellsFrom (L + 1) scope.names []).map (·.2)) (envOfC qual scope L f cdv) m' r' h' → P v → Q v { s with heap := h', toks := tk' }) →
      wpAny (model prg w) (arndM hv dp un gd (envOfC qual scope L f cdv) outer) (execs body (envOfC qual scope L f cdv)) (fun fl s' => Q (valOf fl) s') never { s with heap := h₁, toks := tk₁ }) :
    CallM w r (.ref f) args (k + 1) P := by
  refine ⟨?_⟩
  intro hv dp un gd env outer base s R hr hx hdp hun hret
  obtain ⟨st, fr, Kb, Tb⟩ := hx
  have K := Kb.keeps st
  have T := Tb.keeps st
  have KK : (Pf.ob.heap_1 w.params).In s.heap := K.keeps (minus_stays _ _)
  refine codeAny_call_function (by show dp < _; lia) (KK _ _ ho) rfl hco hgen rfl (codeRec_of KK hcd) (hbind s KK _ _ _ _ ?_)
  refine wpAny_newFunctionEnv_cells hk (kindsX hkind _) fun env' he s' x => ?_
  subst he
  refine ⟨(T.nolimit.keeps (minus_stays _ _)).keeps x.toInCall.keep, codeAny_func ?_⟩
  obtain ⟨h₁, tk, rfl, _⟩ := x.done
  have hk₁ := x.toInCall.keep
  have fresh : ∀ (z : Heap), z.StaysIn s.heap → ∀ a, s.heap.objs.size ≤ a → z.get? a = none := fun z hz a ha => by
    cases e : z.get? a with
    | none => rfl
    | some o => exact absurd (Heap.lt_size (hz _ _ e)) (Nat.not_lt.mpr ha)
  have kc : ∀ y c, (envOfC qual scope s.heap.objs.size f cdv).cells.lookup y = some c → (envOfC qual scope s.heap.objs.size f cdv).kindOf y ≠ some .local := fun y c e => by
    have hm := mem_of_lookup e
    rcases cellsKind scope.names _ [] hm with q | q
    · cases q
    · have := List.all_eq_true.mp hok _ q
      simp only [bne_self_eq_false, Bool.false_or, beq_iff_eq] at this
      show scope.names.lookup y ≠ _
      rw [this]; decide
  have Z : At w (minus s.heap r) ((cellsFrom (s.heap.objs.size + 1) scope.names []).map (·.2)) (envOfC qual scope s.heap.objs.size f cdv) (fun y => binds.reverse.lookup y) r h₁ := by
    refine ⟨fun b o e => hk₁ b o (minus_stays _ _ b o e), fun b o e => hk₁ b o (hr b o e), ⟨_, x.toInCall.ns, fun y hy => ?_⟩, fun y c e => ⟨?_, .inl (List.mem_map.mpr ⟨(y, c), mem_of_lookup e, rfl⟩)⟩, fun c hc => ?_, ⟨?_, ?_⟩, disj_minus _ _, fun _ => x.apart, kc⟩
    · exact (bindL_eq hy binds _).trans (by simp)
    · have hkd := kc y c e
      have q := x.cell y c e
      have q2 := bindC_eq (kindOf := (envOfC qual scope s.heap.objs.size f cdv).kindOf) hkd binds (fun _ => none)
      rw [Option.or_none] at q2
      exact q2 ▸ q
    · obtain ⟨⟨y, c'⟩, hm, rfl⟩ := List.mem_map.mp hc
      have hlt : s.heap.objs.size < c' := x.above y c' hm
      exact ⟨fresh r hr _ (Nat.le_of_lt hlt), fresh _ (minus_stays _ _) _ (Nat.le_of_lt hlt), Nat.ne_of_gt hlt, y, lookup_of_mem_nodup (cellsFrom_names scope.names 0 (s.heap.objs.size + 1) [] [] rfl ▸ hnd) hm⟩
    · exact fresh r hr _ (Nat.le_refl _)
    · exact fresh _ (minus_stays _ _) _ (Nat.le_refl _)
  refine wpAny_mono (h hv (dp + 1) (un + 3) gd (env :: outer) base (minus s.heap r) h₁ tk s.heap.objs.size s (fun v s' => R (.ok (.ret v)) s') (by lia) (by lia) K T ?_ Z (fun v h' tk' r' m' Z' hp => hret v h' tk' (StaysIn.trans st Z'.base) hp)) (fun fl s' hl => ?_) fun _ _ x => x.elim
  · intro gx hg ⟨o, ho, hnf⟩
    refine ⟨StaysIn.trans st hg, ⟨by show scope.kind ≠ .module; rw [hk]; decide, ⟨_, o, rfl, ?_, ho, hnf⟩, fr.of_keeps fun b o e _ => ⟨o, hg b o e, rfl⟩⟩, Kb, Tb⟩
    exact fresh base (StaysIn.trans st (minus_stays _ _)) _ (Nat.le_refl _)
  · cases fl <;> exact hl
theorem depth_m (w : World) (r : Heap) (x St : Addr) (vs : List Value) (I : Inst r x 434 [("stack", .ref St)]) (H : isL r St vs) (hz : vs.length ≤ 100) :
    CallM w r (.ref 417) [.ref x] 1 (fun u => isInt ((vs.length : Int) - 1) u) := by
  refine' enterM [("self", .ref x)] ?ho ?hcd ?hb ?hkd ?hok ?hnd ?c2 ?c3 ?c4 ?_
  walk_at "pf enter"
  intro hv dp un gd outer base g h₁ tk₁ L s Q hd hu X T U Z hret
  k_fold
  walk_at "pf go"
  exact hret _ _ _ _ _ (by assumption) ⟨_, rfl⟩
theorem catch_at {w : World} {r : Heap} {f : Value} {args : List Value} {n : Nat} (C : CallX w r f args n)
    {g : Heap} {cs : List Addr} {env fenv : Env} {m : Str → Option Value} {s : Shared} {outer : List Env} {base : Heap} {dp un : Nat} {gd : Option (List Code)} {Q E : Value → Shared → Prop}
    (Z : At w g cs env m r s.heap) (U : UpO w g env fenv outer base) (hd : dp + 4 * n < recursionLimit) (hu : un + 20 * n < cLine)
    (h : ∀ e t h' tk', Heap.FlyingW (noFr s.heap (fenv :: outer)) (fenv :: outer) e (.ref 63) (.ref t) h' → s.heap.UpToSlots h' → E (.ref e) { s with heap := h', toks := tk' }) :
    wpAny (model prg w) (arnd dp un gd fenv outer) (call f args) Q E s := by
  obtain ⟨mL, ⟨oL, es, ep, hL, hd1, hd2, hd3⟩, hmL⟩ := Z.ns
  have gm : g.StaysIn (minus s.heap r) := fun b o e => minus_some (Z.base b o e) (Z.rg.right e)
  exact wpAny_call (C.run dp un gd fenv outer base s _ Z.own (U _ gm ⟨oL, minus_some hL Z.loc.1, fun vs q => by rw [hd1] at q; cases q⟩) hd hu h)
theorem frames_map {h h' base : Heap} : ∀ {l : List Env}, h.FunFrames base l → (∀ env ∈ l, ∀ L o, env.frame = some L → h.get? L = some o → (∀ vs, o.data ≠ .fields vs) → ∃ o', h'.get? L = some o' ∧ ∀ vs, o'.data ≠ .fields vs) → h'.FunFrames base l
  | [], _, _ => trivial
  | env :: l, ⟨hk, ⟨L, o, hf, hn, ho, hd⟩, hr⟩, k =>
    let ⟨o', e', d'⟩ := k env (.head _) L o hf ho hd
    ⟨hk, ⟨L, o', hf, hn, e', d'⟩, frames_map hr fun v hv => k v (.tail _ hv)⟩
/-- a body goes on behind a fault -/
theorem At.flown {w : World} {g : Heap} {cs : List Addr} {env : Env} {m : Str → Option Value} {r h h' : Heap} {outer : List Env} {base : Heap} (Z : At w g cs env m r h) (U : UpO w g env env outer base) (hfr : env.frame = some env.locals)
    (k : (noFr h (env :: outer)).StaysIn h') (u : h.UpToSlots h') :
    ∃ g', At w g' cs env m r h' ∧ UpO w g' env env outer base ∧ (Pf.ob.heap_1 w.params).In g' ∧ TopE g' := by
  obtain ⟨mL, hns, hmL⟩ := Z.ns
  obtain ⟨oL, es, ep, hL, hd1, _⟩ := id hns
  have nfL : ∀ vs, oL.data ≠ .fields vs := fun vs q => by rw [hd1] at q; cases q
  have frL : oL.isFreed = false := (Heap.get?_some_iff.mp hL).2
  have c0 := U (put g env.locals oL) (stays_put Z.loc.2) ⟨oL, put_self _ _ frL, nfL⟩
  have inF : ∀ b ∈ (env :: outer).filterMap (·.frame), base.get? b = none ∧ (b = env.locals ∨ ∃ o, g.get? b = some o ∧ ∀ vs, o.data ≠ .fields vs) := fun b hb => by
    obtain ⟨e1, o, e2, e3⟩ := c0.frames.mem hb
    refine ⟨e1, ?_⟩
    by_cases q : b = env.locals
    · exact .inl q
    · rw [put_ne _ _ q] at e2; exact .inr ⟨o, e2, e3⟩
  have rF : ∀ b ∈ (env :: outer).filterMap (·.frame), r.get? b = none := fun b hb => by
    obtain ⟨_, rfl | ⟨o, e, _⟩⟩ := inF b hb
    · exact Z.loc.1
    · exact Z.rg.right e
  have keepN : ∀ b o, h.get? b = some o → b ∉ (env :: outer).filterMap (·.frame) → h'.get? b = some o := fun b o e n => k b o (hideAll_get _ e n)
  have own : r.StaysIn h' := fun b o e => keepN b o (Z.own _ _ e) fun q => by rw [rF b q] at e; cases e
  have bg : base.StaysIn g := fun b o e => by
    have e2 := c0.stays b o e
    by_cases q : b = env.locals
    · have := (inF b (List.mem_filterMap.mpr ⟨env, .head _, by rw [hfr, q]⟩)).1
      rw [this] at e; cases e
    · rwa [put_ne _ _ q] at e2
  have gg : ∀ b o, g.get? b = some o → h'.get? b = some o → (over h' r env.locals cs).get? b = some o := fun b o e e' => over_some e' (Z.rg.right e) (by rintro rfl; rw [Z.loc.2] at e; cases e) fun hc => by rw [(Z.csr b hc).2.1] at e; cases e
  have bo : base.StaysIn (over h' r env.locals cs) := fun b o e => gg b o (bg b o e) (keepN b o (Z.base _ _ (bg b o e)) fun q => by rw [(inF b q).1] at e; cases e)
  have up : ∀ b o, g.get? b = some o → (∀ vs, o.data ≠ .fields vs) → ∃ o', (over h' r env.locals cs).get? b = some o' ∧ ∀ vs, o'.data ≠ .fields vs := fun b o e nf => by
    obtain ⟨sl, e'⟩ := u b o (Z.base _ _ e) nf
    exact ⟨_, over_some e' (Z.rg.right e) (by rintro rfl; rw [Z.loc.2] at e; cases e) (fun hc => by rw [(Z.csr b hc).2.1] at e; cases e), nf⟩
  have cellK : ∀ x c, env.cells.lookup x = some c → h'.IsCell c (m x) := fun x c e => by
    obtain ⟨oc, q1, q2⟩ := (Z.cell x c e).1
    obtain ⟨sl, e'⟩ := u c oc q1 (fun vs q => by rw [q2] at q; cases q)
    exact ⟨_, e', q2⟩
  refine ⟨over h' r env.locals cs, ⟨over_stays, own, ⟨mL, u.ns hns, hmL⟩, fun x c e => ⟨cellK x c e, ?_⟩, fun c hc => ⟨(Z.csr c hc).1, over_none (.inr (.inr hc)), (Z.csr c hc).2.2⟩, ⟨Z.loc.1, over_none (.inr (.inl rfl))⟩, fun b o e => over_none (.inl ⟨o, e⟩), Z.ap, Z.kc⟩, ?_, c0.kb.keeps bo, c0.topb.keeps bo⟩
  · rcases (Z.cell x c e).2 with q | ⟨o, q⟩
    · exact .inl q
    · by_cases hc : c ∈ cs
      · exact .inl hc
      · obtain ⟨oc, q1, _⟩ := cellK x c e
        exact .inr ⟨oc, over_some q1 (Z.rg.right q) (by rintro rfl; rw [Z.loc.2] at q; cases q) hc⟩
  · intro gx hg ⟨o, ho, hnf⟩
    refine ⟨StaysIn.trans bo hg, frames_map c0.frames fun v hv L o1 hf e1 d1 => ?_, c0.kb, c0.topb⟩
    by_cases q : L = env.locals
    · subst q; exact ⟨o, ho, hnf⟩
    · rw [put_ne _ _ q] at e1
      obtain ⟨o', e2, d2⟩ := up L o1 e1 d1
      exact ⟨o', hg _ _ e2, d2⟩
local macro_rules | `(tactic| walk_at $s:str) => Ln.run Ln.rows5 s
theorem col_of_ints {r : Heap} {a : Addr} {ys : List Value} {c : C4} (h : IntsAre ys [c.a, c.b, c.c, c.d]) (t : isT r a ys) : isCol r a c := by
  obtain ⟨u0, u1, u2, u3, rfl⟩ := ints4 h
  exact ⟨u0, u1, u2, u3, t⟩
theorem law_groups (w : World) (r : Heap) (src ll tl x0 x1 d0 d1 : Addr) (G0 G1 : Int → Int → Int) (f : Heap) (kf : f.StaysIn r) (fs : f.get? src = none) (H : Src w r src) (LO : LayersOf w f ll tl x0 x1 d0 d1 G0 G1) :
    CallF w r (.ref 575) [.ref src, .ref ll, .ref tl] 10 (fun v => v = .bool true) := by
  revert kf fs H LO
  revert w r src ll tl x0 x1 d0 d1 G0 G1 f
  refine lift12 (i1 := Pf.nW) ?_; refine (?x104 : ∀ a0 a1 a2 a3 a4 a5 a6 a7 a8 a9 a10 a11, Ap12 _ a0 a1 a2 a3 a4 a5 a6 a7 a8 a9 a10 a11) _ _ _ _ _ _ _ _ _ _ _ _; intro w r src ll tl x0 x1 d0 d1 G0 G1 f; refine Ap12.mk ?_
  intro kf fs H LO
  obtain ⟨L0, L1, y0, y1, T0, T1, g9⟩ := id LO -- keep
  have fsl : ∀ a ∈ [src], f.get? a = none := fun a ha => by rw [List.mem_singleton.mp ha]; exact fs
  refine' enterF [("source", .ref src), ("layers", .ref ll), ("told", .ref tl)] ?ho ?hcd ?hb ?hkd ?hok ?hnd ?c2 ?c3 ?c4 ?_
  walk_at "pf enter"
  refine lift8 (i1 := Pf.nA) (i7 := Pf.nS) ?_; refine (?x105 : ∀ a0 a1 a2 a3 a4 a5 a6 a7, Ap8 _ a0 a1 a2 a3 a4 a5 a6 a7) _ _ _ _ _ _ _ _; intro A base g h₁ tk₁ L s Q; refine Ap8.mk ?_
  intro AE hd hu X T U Z hret
  have S : Step [src] r r := Step.refl _ _
  walk_at "pf go"
  refine' At.call (law_canvas w r src H) ?hz ?hS ?hs ?hU ?hd ?hu ?_
  walk_at "pf sides"
  rintro v h' tk' r1 Z1 S1 L1' fx1 ⟨x, rs, fc, l, t, wd, ht, F, rfl, kc, K, hrs, hfc, C, okF, H1, bw, bh⟩
  (try dsimp only)
  have kf1 := Step.fz L1' kf fsl
  have K1 := K.up kc
  obtain ⟨⟨w1, w2, h1', h2', l1, l2, u1, u2⟩, Dx, q1, q2, q3, q4, Ix, _⟩ := id K1
  clear Z
  walk_at "pf go"
  refine' At.call (places_spec w r1 x rs _ _ _ _ K1) ?hz ?hS ?hs ?hU ?hd ?hu ?_
  walk_at "pf sides"
  rintro v h' tk' r2 Z2 S2 L2 fx2 ⟨D, vs, rfl, hD, hP, hDn⟩
  (try dsimp only)
  have kf2 := StaysIn.trans kf1 (Step.nil L2)
  have kc2 := StaysIn.trans kc (Step.nil L2)
  have H2 := H1.up (Step.nil L2)
  have C2 : Cells r2 rs l t wd ht F := C.step L2 (fun _ _ z => nomatch z)
  have fr1 : ∀ a, r1.get? a = none → r.get? a = none := fun a e => S1.sub a e
  have hn12 : (places l t wd ht).length ≤ 12 := by
    rw [places_len]
    have q1 : ht.toNat ≤ 3 := by lia
    have q2 : wd.toNat ≤ 4 := by lia
    exact Nat.le_trans (Nat.mul_le_mul q1 q2) (by lia)
  refine' dcomp_list (hD.up (At.own (by assumption))) (by assumption) (fun d i m' r' => m' "canvas" = some (.ref x) ∧ Step [d] (put r2 d emptyDict) r' ∧ TabC w r' d ((places l t wd ht).take i) F)
    (fun d i m' r' hd h o e => h.2.1.keep _ _ (by simpa using Ne.symm (ne_live hd (let ⟨n, e⟩ := hD; ⟨_, e⟩))) (by rw [put_ne _ _ (Ne.symm (ne_live hd (let ⟨n, e⟩ := hD; ⟨_, e⟩)))]; exact e))
    (fun d mC lo hd hm => ⟨(hm "canvas" _ rfl).trans (by walk_at "pf nm"), Step.refl _ _, [], isP.of_empty lo (put_self _ _ rfl), rfl, fun _ _ z => by simp at z⟩) ?turn ?done
  case turn =>
    rintro d Cc i v m₁ r₁ h tk gB QT kt hv hd ⟨e1, S₁, xs, P₁, kx, cx⟩ hg Z₁ U₁
    have hi : i < (places l t wd ht).length := by rw [← hP.1]; exact (List.getElem?_eq_some_iff.mp hv).1
    obtain ⟨⟨p, q⟩, hpq⟩ : ∃ p, (places l t wd ht)[i]? = some p := ⟨_, List.getElem?_eq_getElem hi⟩
    obtain ⟨pa, tp, tq, rfl, hT⟩ := hP.2 i v _ hv hpq
    have hT₁ : isT r₁ pa [.int p tp, .int q tq] := (isT.up hT (stays_put hd)).step S₁
    have hin : inb l t wd ht p q := places_get.mp (List.mem_of_getElem? hpq)
    have cd : ∀ a ∈ [d], fc.get? a = none := fun a ha => by rw [List.mem_singleton.mp ha]; exact none_of_stays kc2 hd
    have kc₁ : fc.StaysIn r₁ := Step.fz S₁ (StaysIn.trans kc2 (stays_put hd)) cd
    have K₁ := K.up kc₁
    obtain ⟨_, Dx₁, p1, p2, p3, p4, Ix₁, _⟩ := id K₁
    have C₁ : Cells r₁ rs l t wd ht F := (C2.step (step_new (as := []) hd) (fun _ _ z => nomatch z)).step S₁ (fun a ha z => by
      obtain ⟨o, e⟩ := Grid.live C2 a ha
      rw [List.mem_singleton.mp z, hd] at e; cases e)
    have xl : xs.length ≤ 1000 := by
      have := congrArg List.length kx
      simp at this; lia
    have X₁ := X.keeps hg
    have T₁ := T.keeps hg
    clear X T U Z2 Ix
    refine wpAny_assign_Name (At.store_l Z₁ rfl rfl fun h' Z' => ?_)
    refine' emit_last ?_
    clear Z₁
    walk_at "pf go"
    refine' At.call (cget_spec w r₁ x rs l t wd ht F p q tp tq K₁ C₁) ?hz ?hS ?hs ?hU ?hd ?hu ?_
    walk_at "pf sides"
    rintro v1 h' tk' r' Z' S' L' fr ⟨rfl, c1⟩
    (try dsimp only)
    rw [if_pos hin] at c1
    refine tab_put Z' P₁ (isT.key hT₁) xl (by (try dsimp only); lia) S₁ (.inl (.head _)) fun h5 r5 tk5 Z5 R5 S5 l5 => ?_
    obtain ⟨fin1, _⟩ := TabC.add (w := w) (r := r₁) (r' := r5) (c := F p q) kx (fun p' q' hh => let ⟨a, v, e, c⟩ := cx p' q' hh; ⟨a, v, e, c.step l5⟩) (not_taken hpq) R5 (c1.step l5)
    refine TurnEnd.kon kt Z5 ⟨by walk_at "pf nm", S5, ?_⟩
    rw [take_snoc hpq]
    have e : updF F p q (F p q) = F := by
      funext a b; unfold updF
      by_cases z : a = p ∧ b = q
      · rw [if_pos z, z.1, z.2]
      · rw [if_neg z]
    rw [e] at fin1
    exact fin1
  case done =>
    rintro d m3 r3 h tk hd ⟨_, S3, T3⟩ Z3
    rw [hP.1, List.take_length] at T3
    dsimp only [useM] at Z3
    have dn : d ∉ src :: rs := fun z => by
      rcases List.mem_cons.mp z with rfl | z
      · obtain ⟨o, e⟩ := H2.live; rw [e] at hd; cases hd
      · obtain ⟨o, e⟩ := Grid.live C2 d z; rw [e] at hd; cases hd
    have St3 : Step [src] r r3 := Step.then (bs := [d]) (Step.then (bs := []) S2 (step_new hd) (fun _ z => nomatch z)) S3 (fun a ha => .inr (by rw [List.mem_singleton.mp ha]; exact S2.sub _ hd))
    have s23 : ∀ {k : Heap}, k.StaysIn r2 → k.StaysIn r3 := fun {k} kk => Step.fz S3 (StaysIn.trans kk (stays_put hd)) fun a ha => by rw [List.mem_singleton.mp ha]; exact none_of_stays kk hd
    have H3 : Src w r3 src := (H2.up (stays_put hd)).step S3 (fun z => dn (by rw [List.mem_singleton.mp z]; exact .head _))
    have C3 : Cells r3 rs l t wd ht F := (C2.step (step_new (as := []) hd) (fun _ _ z => nomatch z)).step S3 (fun a ha z => dn (.tail _ (List.mem_singleton.mp z ▸ ha)))
    have kc3 := s23 kc2
    have kf3 := s23 kf2
    clear Z2
    walk_at "pf go"
    refine' At.call (layers_make w r3 (.ref x)) ?hz ?hS ?hs ?hU ?hd ?hu ?_
    walk_at "pf sides"
    rintro v h' tk' r4 Z4 S4 L4 fx4 ⟨gx, St, fg, rfl, kg, Ig, SL, Sn, fgS, fgn⟩
    (try dsimp only)
    have s4 : r3.StaysIn r4 := Step.nil L4
    clear Z3
    walk_at "pf go"
    rename_i sk h5 r5 Z5 R5 S5 s5 f5 f5' at6 h6 r6 Z6 R6 S6 s6 f6 f6' hu6 Zu6 su6 hs1 Zs1 hs2 Zs2 hs3 Zs3
    have k46 : r4.StaysIn r6 := StaysIn.trans s5 s6
    have kc6 := StaysIn.trans kc3 (StaysIn.trans s4 k46)
    have kf6 := StaysIn.trans kf3 (StaysIn.trans s4 k46)
    have kg6 := StaysIn.trans kg k46
    have fr3 : ∀ a, r3.get? a = none → r.get? a = none := fun a e => St3.sub a e
    have l3 : ∀ a ∈ src :: d :: rs, ∃ o, r3.get? a = some o := fun a ha => by
      rcases List.mem_cons.mp ha with rfl | ha
      · exact H3.live
      rcases List.mem_cons.mp ha with rfl | ha
      · exact T3.live
      · exact Grid.live C3 a ha
    have nS : St ∉ src :: d :: rs := fun z => by obtain ⟨o, e⟩ := l3 St z; rw [e] at Sn; cases Sn
    have nk : sk ∉ src :: St :: d :: rs := fun z => by
      rcases List.mem_cons.mp z with rfl | z
      · obtain ⟨o, e⟩ := H3.live; rw [s4 _ _ e] at f5; cases f5
      rcases List.mem_cons.mp z with rfl | z
      · obtain ⟨n, e⟩ := SL; rw [e] at f5; cases f5
      · obtain ⟨o, e⟩ := l3 sk (.tail _ z); rw [s4 _ _ e] at f5; cases f5
    have cdn : fc.get? d = none := none_of_stays kc2 hd
    have csn : fc.get? src = none := by
      cases q : fc.get? src with
      | none => rfl
      | some o => have := hfc _ _ q; obtain ⟨o', e⟩ := H.live; rw [e] at this; cases this
    have ndx : ([src, St, sk, d] ++ rs).Nodup := by
      have h1 : (d :: rs).Nodup := List.nodup_cons.mpr ⟨fun z => dn (.tail _ z), C3.2.1⟩
      have h2 : (sk :: d :: rs).Nodup := List.nodup_cons.mpr ⟨fun z => nk (.tail _ (.tail _ z)), h1⟩
      have h3 : (St :: sk :: d :: rs).Nodup := List.nodup_cons.mpr ⟨fun z => by
        rcases List.mem_cons.mp z with e | z
        · exact nk (by rw [← e]; exact .tail _ (.head _))
        · exact nS (.tail _ z), h2⟩
      refine List.nodup_cons.mpr ⟨fun z => ?_, h3⟩
      rcases List.mem_cons.mp z with e | z
      · exact nS (by rw [← e]; exact .head _)
      rcases List.mem_cons.mp z with e | z
      · exact nk (by rw [← e]; exact .head _)
      rcases List.mem_cons.mp z with e | z
      · exact dn (by rw [← e]; exact .head _)
      · have := (hrs src z).2; obtain ⟨o, e⟩ := H.live; rw [e] at this; cases this
    have oc : ∀ a ∈ [src, St, sk, d] ++ rs, fc.get? a = none := fun a ha => by
      rcases List.mem_append.mp ha with ha | ha
      · simp only [List.mem_cons, List.not_mem_nil, or_false] at ha
        rcases ha with rfl | rfl | rfl | rfl
        · exact csn
        · exact none_of_stays kc3 Sn
        · exact none_of_stays (StaysIn.trans kc3 s4) f5
        · exact cdn
      · exact (hrs a ha).1
    have og : ∀ a ∈ [src, St, sk, d] ++ rs, fg.get? a = none := fun a ha => by
      have old : ∀ b ∈ src :: d :: rs, fg.get? b = none := fun b hb => by
        cases q : fg.get? b with
        | none => rfl
        | some o => have := fgn b o q; obtain ⟨o', e⟩ := l3 b hb; rw [e] at this; cases this
      rcases List.mem_append.mp ha with ha | ha
      · simp only [List.mem_cons, List.not_mem_nil, or_false] at ha
        rcases ha with rfl | rfl | rfl | rfl
        · exact old _ (.head _)
        · exact fgS
        · exact none_of_stays kg f5
        · exact old _ (.tail _ (.head _))
      · exact old a (.tail _ (.tail _ ha))
    have frx : ∀ a ∈ [St, sk, d] ++ rs, r.get? a = none := fun a ha => by
      rcases List.mem_append.mp ha with ha | ha
      · simp only [List.mem_cons, List.not_mem_nil, or_false] at ha
        rcases ha with rfl | rfl | rfl
        · exact fr3 _ Sn
        · exact f5'
        · exact S2.sub _ hd
      · exact (hrs a ha).2
    obtain ⟨fz, GS6⟩ := GS.init (w := w) (r₀ := r) kc6 kg6 oc og ndx frx Ig K ((C3.step (Step.of_stays (as := []) (StaysIn.trans s4 k46)) (fun _ _ z => nomatch z))) (T3.step (Step.of_stays (as := []) (StaysIn.trans s4 k46)) (fun z => nomatch z)) okF (SL.up k46) (R5.up s6) ((H3.up s4).up k46)
    clear Z4 Z5 Z6 Zu6 Zs1 Zs2 Ig SL kg kg6 fgn fgS og oc frx ndx nk nS l3 T3 C3 kc3 kf3 H3 s23 fx4 L4 S4 S5 s4 s5 s6 R5 R6 k46 fr3 St3 S3
    refine' At.call (next_spec w r6 src 2 _ GS6.H (by lia) (by lia)) ?hz ?hS ?hs ?hU ?hd ?hu ?_
    walk_at "pf sides"
    rintro v h' tk' r7 Z7 S7 L7 fx7 ⟨H7, n7, ⟨t7, rfl⟩, b7, b7'⟩
    (try dsimp only)
    have GS7 := GS6.draw L7 H7
    have rsk : r.get? sk = none := f5'
    clear Zs3
    walk_at "pf go"
    rename_i rr8 h8 tk8 u8 v8 Z8 nn8 R8 s8
    refine' for_range (n := ((1 + n7) - 0).toNat) R8 (small_one (by lia) (by lia) (by lia) (by lia)) (size_to _ _) Z8 (LG1 w r src ll tl gx St sk x d rs l t wd ht) (fun _ _ => False)
      ⟨⟨by walk_at "pf nm", by walk_at "pf nm", by walk_at "pf nm", by walk_at "pf nm", by walk_at "pf nm", by walk_at "pf nm", by walk_at "pf nm"⟩, S7, fz, _, F, GS7, rfl, rfl, by lia⟩ ?turn1 ?done1 (fun _ _ _ _ _ h => h.elim)
    case turn1 =>
      rintro i ti m₁ r₁ h tk gB QT kt hi ⟨⟨e1, e2, e3, e4, e5, e6, e7⟩, S₁, fz₁, lv, F₁, G₁, hlen, hhd, hle⟩ hg Z₁
      have X₁ := X.keeps hg
      have T₁ := T.keeps hg
      have U₁ := U.mono hg
      obtain ⟨lv', b, rfl⟩ := last_of hlen
      have I₁ := G₁.I.up G₁.kf
      have hS₁ : isL r₁ St ((lv'.map fun v => Value.ref v.c) ++ [.ref b.c]) := by have := G₁.S; rw [List.map_append] at this; exact this
      have hStr : ∀ a ∈ [St], a ∈ [src] ∨ r.get? a = none := fun a ha => .inr (by rw [List.mem_singleton.mp ha]; exact G₁.fresh _ (.head _))
      clear X T U Z8
      walk_at "pf go"
      refine' At.call (push_spec w r₁ gx St b.c (lv'.map fun v ↦ .ref v.c) b.rs l t wd ht fz₁ G₁.kf (G₁.off _ (.head _)) G₁.I hS₁ (by simp at hlen ⊢; lia) (G₁.K b (by simp))) ?hz ?hS ?hs ?hU ?hd ?hu ?_
      walk_at "pf sides"
      rintro v h' tk' r1x Z1x S1x L1x fx1x ⟨n, rn, fn, Sn, kn, Kn, hrn, hfn, C0⟩
      (try dsimp only)
      have rl : ∀ a ∈ rn, ∃ o, r1x.get? a = some o := fun a ha => Grid.live C0 a ha
      have nd1 := List.nodup_cons.mp G₁.nd
      have nd2 := List.nodup_cons.mp nd1.2
      have srn : src ∉ rn := fun z => by have := (hrn src z).2; obtain ⟨o, e⟩ := G₁.H.live; rw [e] at this; cases this
      have skn : sk ∉ rn := fun z => by have := (hrn sk z).2; obtain ⟨n, e⟩ := G₁.k; rw [e] at this; cases this
      have fns : fn.get? src = none := by
        cases q : fn.get? src with
        | none => rfl
        | some o => have := hfn _ _ q; obtain ⟨o', e⟩ := G₁.H.live; rw [e] at this; cases this
      have Hx : Src w r1x src := G₁.H.step L1x (fun z => nd1.1 (by rw [List.mem_singleton.mp z]; exact .head _))
      have kx1 : isL r1x sk _ := G₁.k.step L1x (fun z => nd2.1 (by rw [← List.mem_singleton.mp z]; exact .head _))
      have fz1x : fz₁.StaysIn r1x := Step.fz L1x G₁.kf (fun a ha => by rw [List.mem_singleton.mp ha]; exact G₁.off _ (.head _))
      have I1x := G₁.I.up fz1x
      have hrn2 : ∀ a ∈ src :: rn, a ∈ [src] ∨ r.get? a = none := fun a ha => by
        rcases List.mem_cons.mp ha with rfl | ha
        · exact .inl (.head _)
        · exact .inr (S₁.sub _ (hrn a ha).2)
      clear Z₁
      walk_at "pf go"
      refine' At.call (top_spec w r1x gx St ((lv'.map fun v ↦ .ref v.c) ++ [.ref b.c]) (.ref n) I1x Sn) ?hz ?hS ?hs ?hU ?hd ?hu ?_
      walk_at "pf sides"
      rintro v h' tk' r' Z' S' _ fr ⟨rfl, rfl⟩
      (try dsimp only)
      walk_at "pf go"
      refine' At.call (painted_spec w r1x src n rn l t wd ht _ fn kn fns (fun a ha ↦ (hrn a ha).1) Kn C0 (fun _ _ ↦ zero4_ok) Hx srn bw bh) ?hz ?hS ?hs ?hU ?hd ?hu ?_
      walk_at "pf sides"
      rintro v h' tk' r2x Z2x S2x L2x fx2x ⟨dn', Fn, rfl, dnone, H2x, C2x, ok2x, T2x⟩
      (try dsimp only)
      have kx2 : isL r2x sk _ := kx1.step L2x (fun z => by
        rcases List.mem_cons.mp z with e | z
        · exact nd1.1 (by rw [← e]; exact .tail _ (.head _))
        · exact skn z)
      have klen : ((lv' ++ [b]).tail.map fun v => Value.ref v.d).length ≤ 50 := by simp at hlen ⊢; lia
      clear Z1x Z'
      walk_at "pf go"
      rename_i h9 r9 Z9 R9 S9 l9
      obtain ⟨fz9, G9⟩ := G₁.grow (by simp) L1x (by rw [List.map_append]; exact Sn) kn Kn hrn hfn L2x dnone H2x C2x ok2x T2x rl l9 R9 (fun a e => S₁.sub a e)
      exact TurnEnd.kon kt Z9 ⟨⟨by walk_at "pf nm", by walk_at "pf nm", by walk_at "pf nm", by walk_at "pf nm", by walk_at "pf nm", by walk_at "pf nm", by walk_at "pf nm"⟩, S9, fz9, _, F₁, G9, by simp at hlen ⊢; lia, by rw [List.head?_append, hhd]; rfl, by lia⟩
    case done1 =>
      rintro m' r' h tk HJ Z'
      clear Z8
      walk_at "pf go"
      refine' while_ Z' (LG1 w r src ll tl gx St sk x d rs l t wd ht) _ HJ ?_
      rintro n m₁ r₁ h tk QT kt ⟨⟨e1, e2, e3, e4, e5, e6, e7⟩, S₁, fz₁, lv, F₁, G₁, hlen, hhd, hle⟩ Z₁
      clear Z' HJ
      cases n with
      | zero =>
        obtain ⟨b, rfl⟩ : ∃ b, lv = [b] := by
          cases lv with
          | nil => simp at hlen
          | cons b lv => cases lv with
            | nil => exact ⟨b, rfl⟩
            | cons c lv => simp at hlen
        have hk0 : isL r₁ sk [] := G₁.k
        have eb : b = ⟨x, rs, d, F₁⟩ := by simpa using hhd
        subst eb
        have I₁ := G₁.I.up G₁.kf
        have S0 : isL r₁ St [.ref x] := G₁.S
        walk_at "pf go"
        rename_i aq hq rq Zq Rq Sq sq nq nq'
        (try refine wpAny_Try_except ?_)
        have Iq := I₁.up sq
        have Stq := isL.up S0 sq
        clear Z₁ I₁ S0
        walk_at "pf go"
        obtain ⟨dp, un, gd, fenv, outer, rfl, UO⟩ := U
        obtain ⟨outer', AE⟩ := AE
        obtain ⟨rfl, rfl⟩ := List.cons.inj (Option.some.inj AE)
        have hd' : dp + 4 * 9 + 3 < recursionLimit := hd
        have hu' : un + 20 * 9 + 17 < cLine := hu
        refine catch_at (pop_raise w rq gx St (.ref x) _ _ _ Iq Stq) Zq UO (by lia) (by lia) fun e t h' tk' fl us => ?_
        (try dsimp only)
        refine wpAny_looks_onW (L := L) rfl rfl fl fun h₄ hd4 u4 => ?_
        refine wpAny_landsW hd4 fun h₅ hd5 u5 => ?_
        obtain ⟨g5, Z5, U5, X5, T5⟩ := Zq.flown UO rfl hd5.1 (us.trans (u4.trans u5))
        obtain ⟨ob, hob, hobc⟩ := hd5.there
        refine wpAny_handleBy_cons (codeAny_handlers_test (At.name_g (v := .ref 63) Z5 X5 T5 (by k_is) ?_ rfl rfl rfl (by decide))) (by intro q; cases q)
        refine wpAny_excMatches_sub_self ((X5.keeps Z5.base) _ _ (sf_at w)) hob hobc (by decide) (codeAny_handlers_suite ?_)
        refine lands_againW hd5 fun h₆ fl6 u6 => ?_
        obtain ⟨g6, Z6, U6, X6, T6⟩ := Zq.flown UO rfl fl6.1 (us.trans (u4.trans (u5.trans u6)))
        refine wpAny_mono ?_ (fun _ _ q => q) (fun _ _ q => (q : False).elim)
        clear Zq X T UO Z5 U5 X5 T5
        walk_at "pf go"
        refine callM_at (hv := some (.ref e)) (dp := dp) (un := un) (gd := gd) (outer := outer) (depth_m w rq gx St [.ref x] Iq Stq (by simp)) Z6 U6 (by lia) (by lia) fun v h' tk' hb9 ev => ?_
        obtain ⟨td, rfl⟩ := ev
        rw [show (([Value.ref x].length : Nat) : Int) - 1 = 0 by simp]
        (try dsimp only)
        walk_at "pf go"
        exact hret _ _ _ hb9 rfl
      | succ n =>
        obtain ⟨lv1, A, rfl⟩ := last_of hlen
        obtain ⟨lv2, B, rfl⟩ := last_of (show lv1.length = 1 + n by simp at hlen; lia)
        have W₁ := G₁.two
        have hkc : ∃ v vs', isL r₁ sk (v :: vs') := by
          cases q : (lv2 ++ [B]).tail.map fun v => Value.ref v.d with
          | nil => have z := W₁.k; rw [q] at z; exact ⟨_, _, z⟩
          | cons v vs' => have z := W₁.k; rw [q] at z; exact ⟨_, _, z⟩
        obtain ⟨kv, kvs', hkc⟩ := hkc
        have kf₁ : f.StaysIn r₁ := Step.fz S₁ kf fsl
        walk_at "pf go"
        rename_i a1 h1 r1 Z1 R1 S1 s1 f1 f1' a2 h2 r2 Z2 R2 S2 s2 f2 f2'
        have G2 := G₁.up (StaysIn.trans s1 s2)
        have kf2' := StaysIn.trans kf₁ (StaysIn.trans s1 s2)
        clear hkc kv kvs' Z₁ Z1 W₁
        refine' At.call (pick_spec w r2 src a2 _ G2.H R2 (by simp) (by simp) (ne_live f2 (G₁.H.up s1).live)) ?hz ?hS ?hs ?hU ?hd ?hu ?_
        walk_at "pf sides"
        rintro v h' tk' r3 Z3 S3 L3 fx3 ⟨H3, j3, hj3⟩
        (try dsimp only)
        obtain ⟨op, top', rfl, hop⟩ := ints_in (.cons _ _ (.cons _ _ (.cons _ _ .nil))) hj3
        have op2 : 0 ≤ op ∧ op ≤ 255 := by simp at hop; lia
        have G3 := G2.draw L3 H3
        have kf3' := Step.fz L3 kf2' fsl
        clear Z2 R1 R2
        walk_at "pf go"
        rename_i a4 h4 r4 Z4 R4 S4 s4 f4 f4'
        refine' At.call (pick_spec w r4 src a4 _ (H3.up s4) R4 (by simp) (by simp) (ne_live f4 H3.live)) ?hz ?hS ?hs ?hU ?hd ?hu ?_
        walk_at "pf sides"
        rintro v h' tk' r5 Z5 S5 L5 fx5 ⟨H5, j5, hj5⟩
        (try dsimp only)
        obtain ⟨md, tmd, rfl⟩ : ∃ md t, v = .str (Mode.name md) t := by
          rcases j5 with _ | _ | _ | j5
          · simp at hj5; exact ⟨.normal, _, hj5.symm⟩
          · simp at hj5; exact ⟨.multiply, _, hj5.symm⟩
          · simp at hj5; exact ⟨.screen, _, hj5.symm⟩
          · simp at hj5
        have G5 := (G3.up s4).draw L5 H5
        have kf5' := Step.fz L5 (StaysIn.trans kf3' s4) fsl
        clear Z3 Z4 R4
        have L05 := L0.up kf5'
        walk_at "pf go"
        rename_i a6 h6 r6 Z6 R6 S6 s6 f6 f6' hu6 Zu6 su6 hs1 Zs1 hs2 Zs2
        have G6 := G5.up s6
        have kf6' := StaysIn.trans kf5' s6
        have offf : ∀ a ∈ src :: muts St sk (lv2 ++ [B] ++ [A]), f.get? a = none := fun a ha => by
          rcases List.mem_cons.mp ha with rfl | ha
          · exact fs
          · exact none_of_stays kf (G6.fresh a ha)
        clear Z5 Z6 Zu6 Zs1 R6
        refine' At.call ((clip_make w f ll [x0, x1] L0 (by simp)).frame kf6') ?hz ?hS ?hs ?hU ?hd ?hu ?_
        walk_at "pf sides"
        rintro v h' tk' r7 Z7 S7 L7 fx7 ⟨gA, ⟨cA, rfl, CA⟩, PA⟩
        (try dsimp only)
        have G7 := G6.up (Step.nil L7)
        have kf7' := StaysIn.trans kf6' (Step.nil L7)
        have offA : ∀ a ∈ src :: muts St sk (lv2 ++ [B] ++ [A]), gA.get? a = none := fun a ha => let ⟨o, e⟩ := G6.live a ha; PA.off a o e (offf a ha)
        have kA7 := PA.sub
        have L07 := L0.up kf7'
        clear Zs2
        walk_at "pf go"
        refine' slice_l (lo := none) (hi := some 1) (zs := [.ref x0]) (At.push (by assumption) _) S7 (isL.up (L07.up (At.own (by assumption))) (stays_push _ _)) (Heap.IsSliceOf.new _ _ _ _) .none (.int 1 _) ?he ?hsz ?_ ?hsub ?hlt
        case he => exact (congrArg Array.toList (slicePick_upto' #[Value.ref x0, Value.ref x1] 1)).trans rfl
        case hsz => simp [sizeLine_eq]
        case hsub => with_unfolding_all rfl
        case hlt => intro _; with_unfolding_all rfl
        intro a8 h8 r8 Z8 R8 S8 s8 f8 f8'
        (try dsimp only)
        have G8 := G7.up s8
        have live7 := G7.live
        clear Z7
        walk_at "pf go"
        refine' At.call ((clip_make w (only r8 [a8]) a8 [x0] (let ⟨n, q⟩ := R8; ⟨n, only_get q (.head _)⟩) (by simp)).frame only_stays) ?hz ?hS ?hs ?hU ?hd ?hu ?_
        walk_at "pf sides"
        rintro v h' tk' r9 Z9 S9 L9 fx9 ⟨gB, ⟨cB, rfl, CB⟩, PB⟩
        (try dsimp only)
        have G9 := G8.up (Step.nil L9)
        have offB : ∀ a ∈ src :: muts St sk (lv2 ++ [B] ++ [A]), gB.get? a = none := fun a ha => let ⟨o, e⟩ := G8.live a ha; PB.off a o e (only_none (by simpa using Ne.symm (ne_live f8 (live7 a ha))))
        have kA9 : gA.StaysIn r9 := StaysIn.trans kA7 (StaysIn.trans s8 (Step.nil L9))
        have kB9 := PB.sub
        clear Z8 R8
        walk_at "pf go"
        rename_i a10 h10 r10 Z10 R10 S10 s10 f10 f10'
        have G10 := G9.up s10
        refine' At.call (pick_spec w r10 src a10 _ G10.H R10 (by simp) (by simp) (ne_live f10 G9.H.live)) ?hz ?hS ?hs ?hU ?hd ?hu ?_
        walk_at "pf sides"
        rintro v h' tk' r11 Z11 S11 L11 fx11 ⟨H11, j11, hj11⟩
        (try dsimp only)
        have G11' := G10.draw L11 H11
        have n11 : ∀ {k : Heap}, (∀ a ∈ src :: muts St sk (lv2 ++ [B] ++ [A]), k.get? a = none) → ∀ a ∈ [src], k.get? a = none := fun q a ha => q a (by rw [List.mem_singleton.mp ha]; exact .head _)
        have kfc : f.StaysIn (cut r11 (src :: muts St sk (lv2 ++ [B] ++ [A]))) := stays_cut (Step.fz L11 (StaysIn.trans kf7' (StaysIn.trans s8 (StaysIn.trans (Step.nil L9) s10))) (n11 offf)) offf
        have CAc := CA.up (stays_cut (Step.fz L11 (StaysIn.trans kA9 s10) (n11 offA)) offA)
        have CBc := CB.up (stays_cut (Step.fz L11 (StaysIn.trans kB9 s10) (n11 offB)) offB)
        have G11 := G11'.refreeze
        have sel : ∃ co, CS w (cut r11 (src :: muts St sk (lv2 ++ [B] ++ [A]))) x0 x1 G0 G1 v co := by
          rcases j11 with _ | _ | _ | j11
          · simp at hj11; exact ⟨none, .inl ⟨hj11.symm, rfl⟩⟩
          · simp at hj11; exact ⟨_, .inr ⟨cA, _, _, hj11.symm, rfl, CAc, lays_two (y0.up kfc) (y1.up kfc), .inl ⟨rfl, rfl⟩⟩⟩
          · simp at hj11; exact ⟨_, .inr ⟨cB, _, _, hj11.symm, rfl, CBc, lays_one (y0.up kfc), .inr ⟨rfl, rfl⟩⟩⟩
          · simp at hj11
        obtain ⟨co, sel⟩ := sel
        generalize cut r11 (src :: muts St sk (lv2 ++ [B] ++ [A])) = fq at kfc CAc CBc G11 sel
        clear Z10 Z9 CAc CBc CA CB PA PB offA offB offf kA7 kA9 kB9 L07 L05 R10 G11' G10 G9 G8 G7 G6 G5 G3 G2 kf7' kf6' kf5' kf3' kf2' fx3 fx5 fx7 fx9 fx11 S2 S3 S4 S5 S6 S7 S8 S9 S10 L3 L5 L7 L9 H3 H5 live7 f8 f8' f10 f10' s8 s10 hj11 hj5 hj3
        have TW := G11.two
        have kAB : A ∈ lv2 ++ [B] ++ [A] ∧ B ∈ lv2 ++ [B] ++ [A] := ⟨List.mem_append_right _ (.head _), List.mem_append_left _ (List.mem_append_right _ (.head _))⟩
        have bnd : ∀ p q, 0 ≤ alo op co p q ∧ alo op co p q ≤ 255 := fun p q => by
          rcases sel with ⟨_, rfl⟩ | ⟨y, ls, fs, _, rfl, Cy, Ly, hh⟩
          · exact op2
          · have cb := ClipV.bounds (w := w) (r := fq) (v := .ref y) (fs := fs) (.inr ⟨y, ls, rfl, Cy, Ly⟩) p q
            exact ⟨wt_nonneg op2.1 cb.1, wt_le op2.1 op2.2 cb.2⟩
        walk_at "pf toExpr"
        rename_i hc12 Zc12
        refine' cut_at Zc12 (fun m' r' => N7 src ll tl x d gx sk m' ∧ (m' "opacity" = some (.int op top') ∧ m' "mode" = some (.str (Mode.name md) tmd) ∧ m' "clip" = some v) ∧ Step [src] r r' ∧ Loc (St :: B.rs) r11 r' ∧ isL r' St ((lv2 ++ [B]).map fun v => .ref v.c) ∧ Cells r' B.rs l t wd ht (popG md op co A.F B.F (places l t wd ht))) ?pop ?rest
        case pop =>
          intro QT kt
          have gxI := G11.I.up G11.kf
          have hz2 : (lv2.map fun v => Value.ref v.c).length ≤ 20 := by simp at hlen ⊢; lia
          have rSt : ∀ a ∈ St :: B.rs, a ∈ [src] ∨ r.get? a = none := fun a ha => .inr (by
            rcases List.mem_cons.mp ha with rfl | ha
            · exact G11.fresh _ (.head _)
            · exact G11.fresh a (mem_muts.mpr (.inr (.inr ⟨B, kAB.2, .inr ha⟩))))
          rcases sel with ⟨rfl, rfl⟩ | ⟨y, ls, fs, rfl, rfl, Cy, Ly, hh⟩
          · walk_at "pf go"
            refine' At.call (pop_spec w r11 gx St A.c B.c (lv2.map fun v ↦ Value.ref v.c) A.rs B.rs l t wd ht A.F B.F fq G11.kf TW.off G11.I TW.S hz2 (G11.K A kAB.1) (G11.K B kAB.2) (G11.C A kAB.1) (G11.C B kAB.2) TW.ab TW.sa TW.sb (G11.ok A kAB.1) (G11.ok B kAB.2) op _ _ op2.1 op2.2 md .none none (.inl ⟨rfl, rfl⟩)) ?hz ?hS ?hs ?hU ?hd ?hu ?_
            walk_at "pf sides"
            rintro v h' tk' r12 Z12 S12 L12 fx12 ⟨rfl, R12, C12, _⟩
            (try dsimp only)
            walk_at "pf go"
            exact TurnEnd.kon kt Z12 ⟨⟨by walk_at "pf nm", by walk_at "pf nm", by walk_at "pf nm", by walk_at "pf nm", by walk_at "pf nm", by walk_at "pf nm", by walk_at "pf nm"⟩, ⟨by walk_at "pf nm", by walk_at "pf nm", by walk_at "pf nm"⟩, S12, L12, by rw [List.map_append]; exact R12, C12⟩
          · obtain ⟨Dy, Iy, _⟩ := id Cy
            have Iy11 := Iy.up G11.kf
            walk_at "pf go"
            rename_i bm hb rb Zb eb Sb sb fb fb'
            have nb : bm ∉ src :: muts St sk (lv2 ++ [B] ++ [A]) := fun z => by obtain ⟨o, e⟩ := G11.live bm z; rw [e] at fb; cases fb
            have Gb' := G11.up sb
            have kqb : fq.StaysIn (cut rb (src :: muts St sk (lv2 ++ [B] ++ [A]))) := stays_cut Gb'.kf Gb'.offs
            have Gb := Gb'.refreeze
            have TWb := Gb.two
            have ebc := cut_get (as := src :: muts St sk (lv2 ++ [B] ++ [A])) eb nb
            generalize cut rb (src :: muts St sk (lv2 ++ [B] ++ [A])) = fb9 at kqb Gb TWb ebc
            have CMb : CM w fb9 (.ref bm) (some fs) := .inr ⟨bm, y, ls, fs, rfl, rfl, ebc, Cy.up kqb, Ly.up kqb, fun p q => ClipV.bounds (w := w) (r := fq) (v := .ref y) (fs := fs) (.inr ⟨y, ls, rfl, Cy, Ly⟩) p q⟩
            refine' At.call (pop_spec w rb gx St A.c B.c (lv2.map fun v ↦ Value.ref v.c) A.rs B.rs l t wd ht A.F B.F fb9 Gb.kf TWb.off Gb.I TWb.S hz2 (Gb.K A kAB.1) (Gb.K B kAB.2) (Gb.C A kAB.1) (Gb.C B kAB.2) TWb.ab TWb.sa TWb.sb (Gb.ok A kAB.1) (Gb.ok B kAB.2) op _ _ op2.1 op2.2 md (.ref bm) (some fs) CMb) ?hz ?hS ?hs ?hU ?hd ?hu ?_
            walk_at "pf sides"
            rintro v h' tk' r12 Z12 S12 L12 fx12 ⟨rfl, R12, C12, _⟩
            (try dsimp only)
            walk_at "pf go"
            exact TurnEnd.kon kt Z12 ⟨⟨by walk_at "pf nm", by walk_at "pf nm", by walk_at "pf nm", by walk_at "pf nm", by walk_at "pf nm", by walk_at "pf nm", by walk_at "pf nm"⟩, ⟨by walk_at "pf nm", by walk_at "pf nm", by walk_at "pf nm"⟩, S12, Step.trans (Step.of_stays sb) L12, by rw [List.map_append]; exact R12, C12⟩
        case rest =>
          rintro h' tk m12 r12 Z12 ⟨⟨e1, e2, e3, e4, e5, e6, e7⟩, ⟨e8, e9, e10⟩, S12, L12, R12, C12⟩
          clear Zc12 Z11
          have hk12 := isL.step TW.k L12 TW.skB
          have TA12 := TabC.step (G11.T A kAB.1) L12 TW.dA
          have TB12 := TabC.step (G11.T B kAB.2) L12 TW.dB
          have H12 := Src.step G11.H L12 TW.ds
          have rsk : sk ∈ [src] ∨ r.get? sk = none := .inr (G11.fresh _ (.tail _ (.head _)))
          have hz3 : ((lv2 ++ [B]).tail.map fun v => Value.ref v.d).length ≤ 50 := by simp at hlen ⊢; lia
          walk_at "pf toAssign"
          rename_i h13 r13 Z13 R13 S13 l13 hq13 Zq13
          have TA13 := TabC.step TA12 l13 (by simpa using TW.dk)
          have TB13 := TabC.step TB12 l13 (by simpa using TW.dk')
          refine' cut_at Zq13 (fun m' r' => N7 src ll tl x d gx sk m' ∧ (m' "opacity" = some (.int op top') ∧ m' "mode" = some (.str (Mode.name md) tmd) ∧ m' "clip" = some v ∧ m' "above" = some (.ref A.d) ∧ m' "lower" = some (.ref B.d)) ∧ Step [src] r r' ∧ r13.StaysIn r') ?low ?rest2
          case low =>
            intro QT kt
            clear Z12 Z13
            cases lv2 with
            | nil =>
              have eb : B = ⟨x, rs, d, F₁⟩ := by simpa using hhd
              subst eb
              have R13' : isL r13 sk [] := R13
              clear R13
              walk_at "pf go"
              exact TurnEnd.kon kt (by assumption) ⟨⟨by walk_at "pf nm", by walk_at "pf nm", by walk_at "pf nm", by walk_at "pf nm", by walk_at "pf nm", by walk_at "pf nm", by walk_at "pf nm"⟩, ⟨by walk_at "pf nm", by walk_at "pf nm", by walk_at "pf nm", by walk_at "pf nm", by walk_at "pf nm"⟩, by assumption, by assumption⟩
            | cons z lv3 =>
              have R13' : isL r13 sk ((lv3.map fun v => Value.ref v.d) ++ [.ref B.d]) := by simpa using R13
              have hkc : ∃ v vs', isL r13 sk (v :: vs') := by
                cases q : lv3.map fun v => Value.ref v.d with
                | nil => rw [q] at R13'; exact ⟨_, _, R13'⟩
                | cons v vs' => rw [q] at R13'; exact ⟨_, _, R13'⟩
              obtain ⟨kv, kvs', hkc⟩ := hkc
              clear R13
              walk_at "pf go"
              refine' item_last ((R13'.up (by assumption)).up (At.own (by assumption))) ?_ (by with_unfolding_all rfl)
              (try dsimp only)
              walk_at "pf go"
              exact TurnEnd.kon kt (by assumption) ⟨⟨by walk_at "pf nm", by walk_at "pf nm", by walk_at "pf nm", by walk_at "pf nm", by walk_at "pf nm", by walk_at "pf nm", by walk_at "pf nm"⟩, ⟨by walk_at "pf nm", by walk_at "pf nm", by walk_at "pf nm", by walk_at "pf nm", by walk_at "pf nm"⟩, by assumption, by assumption⟩
          case rest2 =>
            rintro h' tk m14 r14 Z14 ⟨⟨e1, e2, e3, e4, e5, e6, e7⟩, ⟨e8, e9, e10, e11, e12⟩, S14, s14⟩
            clear Z12 Z13 Zq13
            have TA14 := TabC.step (as := []) TA13 (Step.of_stays s14) (fun z => nomatch z)
            have TB14 := TabC.step (as := []) TB13 (Step.of_stays s14) (fun z => nomatch z)
            have L14 : Loc [sk] r12 r14 := Step.trans l13 (Step.of_stays s14)
            have R14 := isL.up R13 s14
            have kq14 : fq.StaysIn r14 := StaysIn.trans (Step.fz l13 (Step.fz L12 G11.kf TW.off) (fun a ha => by rw [List.mem_singleton.mp ha]; exact G11.off _ (.tail _ (.head _)))) s14
            obtain ⟨xsB, ⟨ep, KB⟩, kB, cB⟩ := TB14
            walk_at "pf go"
            refine ⟨B.d, keysOf xsB, ep, _, r14, fun i m' r' => (N7 src ll tl x d gx sk m' ∧ (m' "opacity" = some (.int op top') ∧ m' "mode" = some (.str (Mode.name md) tmd) ∧ m' "clip" = some v ∧ m' "above" = some (.ref A.d) ∧ m' "lower" = some (.ref B.d))) ∧ Step [src] r r' ∧ Loc [B.d] r14 r' ∧ ∃ xs, KAt w r' B.d xs ep ∧ keysOf xs = keysOf xsB ∧ ∀ p q, (p, q) ∈ places l t wd ht → ∃ a v, atKey xs [p, q] = some (a, v) ∧ Col r' v (if (p, q) ∈ (places l t wd ht).take i then popG md op co A.F B.F (places l t wd ht) p q else B.F p q), rfl, by assumption,
              fun i m' r' h => let ⟨_, _, _, xs, a, b, _⟩ := h; ⟨xs, a, b⟩, ⟨⟨⟨e1, e2, e3, e4, e5, e6, e7⟩, e8, e9, e10, e11, e12⟩, S14, Step.refl _ _, xsB, KB, rfl, fun p q h => by simpa using cB p q h⟩, ?turn5, ?done5⟩
            case turn5 =>
              rintro i k a m₁ r₁ h tk gB QT kt hk ⟨⟨⟨e1, e2, e3, e4, e5, e6, e7⟩, e8, e9, e10, e11, e12⟩, S₁, L₁, xs, K₁, kx, cx⟩ hg Z₁
              have hkk : (keysOf xsB).map (·.1) = (places l t wd ht).map keyOf := by rw [← kB]; unfold keysOf; rw [List.map_map]; rfl
              have hi : i < (places l t wd ht).length := by
                have h1 := congrArg List.length hkk
                have h2 := (List.getElem?_eq_some_iff.mp hk).1
                simp at h1; lia
              obtain ⟨⟨p, q⟩, hpq⟩ : ∃ p, (places l t wd ht)[i]? = some p := ⟨_, List.getElem?_eq_getElem hi⟩
              have ek : k = [p, q] := by
                have h1 := congrArg (·[i]?) hkk
                simp only [List.getElem?_map, hk, hpq, Option.map_some] at h1
                simpa [keyOf] using h1
              subst ek
              have hin : (p, q) ∈ places l t wd ht := List.mem_of_getElem? hpq
              have P₁ : isP w r₁ B.d xs := ⟨ep, K₁⟩
              have ka : isKey w r₁ a [p, q] := by
                have h1 : ([p, q], a) ∈ keysOf xs := by rw [kx]; exact List.mem_of_getElem? hk
                unfold keysOf at h1
                obtain ⟨⟨k', a', v'⟩, hm, e⟩ := List.mem_map.mp h1
                cases e
                exact P₁.key hm
              obtain ⟨ca, cv, eB, colB⟩ := cx p q hin
              rw [if_neg (not_taken hpq)] at colB
              obtain ⟨ys, PA, kA, cA'⟩ := TabC.step TA14 L₁ (by simpa using TW.dd)
              obtain ⟨aa, av, eA, colA⟩ := cA' p q hin
              have kq₁ : fq.StaysIn r₁ := Step.fz L₁ kq14 (fun a ha => by rw [List.mem_singleton.mp ha]; exact G11.off _ (mem_muts.mpr (.inr (.inr ⟨B, kAB.2, .inl rfl⟩))))
              have kf₁' : f.StaysIn r₁ := StaysIn.trans kfc kq₁
              have X₁ := X.keeps hg
              have T₁ := T.keeps hg
              have U₁ := U.mono hg
              have bal := bnd p q
              clear X T U Z14
              refine wpAny_assign_Name (At.store_l Z₁ rfl rfl fun h' Z' => ?_)
              clear Z₁
              walk_at "pf toIf"
              rename_i hA ZA
              refine' cut_at ZA (fun m' r' => (N7 src ll tl x d gx sk m' ∧ (m' "opacity" = some (.int op top') ∧ m' "mode" = some (.str (Mode.name md) tmd) ∧ m' "clip" = some v ∧ m' "above" = some (.ref A.d) ∧ m' "lower" = some (.ref B.d))) ∧ m' "place" = some (.ref a) ∧ (∃ ta, m' "alpha" = some (.int (alo op co p q) ta)) ∧ r' = r₁) ?ifs ?rest3
              case ifs =>
                intro QT kt
                clear Z'
                rcases sel with ⟨rfl, rfl⟩ | ⟨y, ls, fs, rfl, rfl, Cy, Ly, hh⟩
                · walk_at "pf go"
                  exact TurnEnd.kon kt (by assumption) ⟨⟨⟨by walk_at "pf nm", by walk_at "pf nm", by walk_at "pf nm", by walk_at "pf nm", by walk_at "pf nm", by walk_at "pf nm", by walk_at "pf nm"⟩, by walk_at "pf nm", by walk_at "pf nm", by walk_at "pf nm", by walk_at "pf nm", by walk_at "pf nm"⟩, by walk_at "pf nm", ⟨_, by walk_at "pf nm"⟩, rfl⟩
                · obtain ⟨Dy, Iy, RDy⟩ := id (Cy.up kq₁)
                  have L1₁ := L1.up kf₁'
                  have T0₁ := T0.up kf₁'
                  have T1₁ := T1.up kf₁'
                  have bd0 := y0.1 p q
                  have bd1 := y1.1 p q
                  rcases hh with ⟨rfl, rfl⟩ | ⟨rfl, rfl⟩
                  · have RD2 : isL r₁ Dy [.ref x0, .ref x1] := RDy
                    walk_at "pf go"
                    refine' At.call (times_spec w r₁ op (G0 p q) _ _ bd0.1 bd0.2) ?hz ?hS ?hs ?hU ?hd ?hu ?_
                    walk_at "pf sides"
                    rintro v h' tk' r' Z' S' L' fr ⟨rfl, ta1, rfl⟩
                    (try dsimp only)
                    clear ZA
                    walk_at "pf go"
                    refine' At.call (times_spec w r₁ (G0 p q) (G1 p q) _ _ bd1.1 bd1.2) ?hz ?hS ?hs ?hU ?hd ?hu ?_
                    walk_at "pf sides"
                    rintro v h' tk' r' Z'' S' L' fr ⟨rfl, ta2, rfl⟩
                    (try dsimp only)
                    clear Z'
                    walk_at "pf go"
                    refine' At.call (times_spec w r₁ op (wt (G0 p q) (G1 p q)) _ _ (wt_nonneg bd0.1 bd1.1) (wt_le bd0.1 bd0.2 bd1.2)) ?hz ?hS ?hs ?hU ?hd ?hu ?_
                    walk_at "pf sides"
                    rintro v h' tk' r' Z3 S' L' fr ⟨rfl, ta3, rfl⟩
                    (try dsimp only)
                    clear Z''
                    walk_at "pf go"
                    have ea : alo op (some [G0, G1]) p q = wt op (wt (G0 p q) (G1 p q)) := by simp only [alo, clf_two]
                    exact TurnEnd.kon kt (by assumption) ⟨⟨⟨by walk_at "pf nm", by walk_at "pf nm", by walk_at "pf nm", by walk_at "pf nm", by walk_at "pf nm", by walk_at "pf nm", by walk_at "pf nm"⟩, by walk_at "pf nm", by walk_at "pf nm", by walk_at "pf nm", by walk_at "pf nm", by walk_at "pf nm"⟩, by walk_at "pf nm", ⟨_, by rw [ea]; walk_at "pf nm"⟩, rfl⟩
                  · have RD2 : isL r₁ Dy [.ref x0] := RDy
                    walk_at "pf go"
                    refine' At.call (times_spec w r₁ op (G0 p q) _ _ bd0.1 bd0.2) ?hz ?hS ?hs ?hU ?hd ?hu ?_
                    walk_at "pf sides"
                    rintro v h' tk' r' Z' S' L' fr ⟨rfl, ta1, rfl⟩
                    (try dsimp only)
                    clear ZA
                    walk_at "pf go"
                    have ea : alo op (some [G0]) p q = wt op (G0 p q) := by simp only [alo, clf_one]
                    exact TurnEnd.kon kt (by assumption) ⟨⟨⟨by walk_at "pf nm", by walk_at "pf nm", by walk_at "pf nm", by walk_at "pf nm", by walk_at "pf nm", by walk_at "pf nm", by walk_at "pf nm"⟩, by walk_at "pf nm", by walk_at "pf nm", by walk_at "pf nm", by walk_at "pf nm", by walk_at "pf nm"⟩, by walk_at "pf nm", ⟨_, by rw [ea]; walk_at "pf nm"⟩, rfl⟩
              case rest3 =>
                rintro h' tk m2 r2' Z2 ⟨⟨⟨e1, e2, e3, e4, e5, e6, e7⟩, e8, e9, e10, e11, e12⟩, e13, ⟨ta, e14⟩, rfl⟩
                clear ZA Z'
                have fal : popG md op co A.F B.F (places l t wd ht) p q = bl md (dim (A.F p q) (alo op co p q)) (B.F p q) := by
                  unfold popG la; rw [if_pos hin, sc_dim]
                generalize alo op co p q = al at *
                obtain ⟨va, rfl, sa⟩ := colA.sees X₁
                generalize hcA : A.F p q = c at *
                walk_at "pf go"
                obtain ⟨t0, t1, t2, t3, st⟩ := sa.at Z2
                refine' comp_tuple st (by simp [sizeLine_eq]) Z2 (fun i r' ys => r2' = r' ∧ IntsAre ys (([c.a, c.b, c.c, c.d].map (wt · al)).take i)) (fun i r' ys h o e => by rw [← h.1]; exact e) ⟨rfl, .nil⟩ ?turn6 ?done6
                case turn6 =>
                  rintro i v _ ys h tk gC Cc mC hv ⟨rfl, hJ⟩ hg' Z₁ hcl U₂
                  obtain ⟨n, t', rfl, hn⟩ : ∃ n t', v = .int n t' ∧ [c.a, c.b, c.c, c.d][i]? = some n := by
                    rcases i with _ | _ | _ | _ | i <;> simp at hv <;> exact ⟨_, _, hv.symm, rfl⟩
                  have hal : mC "alpha" = some (.int al ta) := (hcl "alpha" _ rfl).trans (by walk_at "pf nm")
                  have X₂ := X₁.keeps hg'
                  have T₂ := T₁.keeps hg'
                  clear U₁ X₁ T₁ Z2
                  walk_at "pf go"
                  refine' At.call (times_spec w r2' n al t' ta bal.1 bal.2) ?hz ?hS ?hs ?hU ?hd ?hu ?_
                  walk_at "pf sides"
                  rintro v h' tk' r' Z' S' _ fr ⟨rfl, t'', rfl⟩
                  (try dsimp only)
                  refine ElemEnd.mk Z' ⟨rfl, ?_⟩
                  rw [List.take_add_one, List.getElem?_map, hn]
                  exact hJ.append (.cons _ _ .nil)
                case done6 =>
                  rintro D kD ys6 _ h tk ⟨rfl, hJ⟩ hlen6 hD hrD Z3
                  dsimp only [useM] at Z3
                  have S3' : Step [src] r (put r2' D (listO ys6 kD)) := S₁.then (bs := []) (step_new hrD) (fun a ha => nomatch ha)
                  have hl6 := isL_put r2' D ys6 kD
                  have k3 : r2'.StaysIn (put r2' D (listO ys6 kD)) := stays_put hrD
                  have P3 := P₁.up k3
                  have ka3 := ka.up k3
                  have hz6 : ys6.length = 4 := hlen6
                  obtain ⟨vb, rfl, sb⟩ := colB.sees X₁
                  clear Z2
                  walk_at "pf go"
                  rename_i aT hT rT ZT RT ST sT fT fT' hU ZU
                  have hcT : isCol rT aT (dim c al) := col_of_ints (c := dim c al) hJ RT
                  have kT : r2'.StaysIn rT := StaysIn.trans k3 sT
                  clear Z3 ZT
                  have okc : (dim c al).Ok := dim_ok (by rw [← hcA]; exact G11.ok A kAB.1 p q) bal.1 bal.2
                  refine' At.call (blended_spec w rT md tmd (.ref aT) (.ref vb) (dim c al) (B.F p q) ⟨aT, rfl, .inl hcT⟩ (colB.step (Step.of_stays (as := []) kT)) okc (G11.ok B kAB.2 p q)) ?hz ?hS ?hs ?hU ?hd ?hu ?_
                  walk_at "pf sides"
                  rintro v6 h' tk' r6 Z6 S6 L6 fx6 c6
                  (try dsimp only)
                  have k6 : r2'.StaysIn r6 := StaysIn.trans kT (Step.nil L6)
                  clear ZU
                  walk_at "pf go"
                  refine tab_over Z6 (K₁.up k6) (ka.up k6) eB (by (try dsimp only); lia) S6 (.inr (G11.fresh _ (mem_muts.mpr (.inr (.inr ⟨B, kAB.2, .inl rfl⟩))))) fun h7 r7 tk7 Z7 K7 S7 l7 => ?_
                  (try dsimp only)
                  walk_at "pf go"
                  refine TurnEnd.kon kt Z7 ⟨⟨⟨by walk_at "pf nm", by walk_at "pf nm", by walk_at "pf nm", by walk_at "pf nm", by walk_at "pf nm", by walk_at "pf nm", by walk_at "pf nm"⟩, by walk_at "pf nm", by walk_at "pf nm", by walk_at "pf nm", by walk_at "pf nm", by walk_at "pf nm"⟩, S7, Step.trans (Step.trans L₁ (Step.of_stays k6)) l7, _, K7, keysOf_put.trans kx, fun p' q' h => ?_⟩
                  by_cases z : p' = p ∧ q' = q
                  · obtain ⟨rfl, rfl⟩ := z
                    have h1 := atKey_put (j := [p', q']) (v := v6) eB
                    rw [if_pos rfl] at h1
                    obtain ⟨⟨a9, v9⟩, h2, rfl⟩ := Option.map_eq_some_iff.mp h1
                    refine ⟨a9, _, h2, ?_⟩
                    rw [take_snoc hpq, if_pos (List.mem_append_right _ (.head _)), fal]
                    exact c6.step l7
                  · obtain ⟨a8, v8, h3, c8⟩ := cx p' q' h
                    have h1 := atKey_put (j := [p', q']) (v := v6) eB
                    rw [if_neg (by simpa using z), h3] at h1
                    obtain ⟨⟨a9, v9⟩, h2, e9⟩ := Option.map_eq_some_iff.mp h1
                    refine ⟨a9, v9, h2, ?_⟩
                    have e9 : v9 = v8 := e9
                    subst e9
                    have hm : ((p', q') ∈ (places l t wd ht).take (i + 1)) = ((p', q') ∈ (places l t wd ht).take i) := by
                      rw [take_snoc hpq, List.mem_append]
                      simp [z]
                    simp only [hm]
                    exact (c8.step (Step.of_stays (as := []) k6)).step l7
            case done5 =>
              rintro m15 r15 h tk ⟨⟨⟨e1, e2, e3, e4, e5, e6, e7⟩, e8, e9, e10, e11, e12⟩, S15, L15, xs, K15, kx, cx⟩ Z15
              clear Z14
              have T15 : TabC w r15 B.d (places l t wd ht) (popG md op co A.F B.F (places l t wd ht)) := by
                have hlk : (keysOf xsB).length = (places l t wd ht).length := by
                  have := congrArg List.length kB
                  simp at this; simpa [keysOf] using this
                refine ⟨xs, ⟨ep, K15⟩, ?_, fun p q h => ?_⟩
                · have h1 := congrArg (List.map (·.1)) kx
                  unfold keysOf at h1
                  rw [List.map_map, List.map_map] at h1
                  exact h1.trans kB
                · obtain ⟨a, v, e, c⟩ := cx p q h
                  rw [hlk, List.take_length, if_pos h] at c
                  exact ⟨a, v, e, c⟩
              have okF := popG_ok (md := md) (ps := places l t wd ht) (G11.ok A kAB.1) (G11.ok B kAB.2) bnd
              have G15 := GS.pop (f' := fq) G11 L12 R12 C12 okF L14 R14 L15 T15
              generalize popG md op co A.F B.F (places l t wd ht) = F' at *
              have hlen15 : (lv2 ++ [(⟨B.c, B.rs, B.d, F'⟩ : Lv)]).length = 1 + n := by simp at hlen ⊢; lia
              obtain ⟨F2, hhd15⟩ : ∃ F2, (lv2 ++ [(⟨B.c, B.rs, B.d, F'⟩ : Lv)]).head? = some ⟨x, rs, d, F2⟩ := by
                cases lv2 with
                | nil =>
                  have eb : B = ⟨x, rs, d, F₁⟩ := by simpa using hhd
                  subst eb
                  exact ⟨F', rfl⟩
                | cons z lv3 => exact ⟨F₁, by simpa using hhd⟩
              have hxm := List.mem_of_head? hhd15
              have hBm : (⟨B.c, B.rs, B.d, F'⟩ : Lv) ∈ lv2 ++ [(⟨B.c, B.rs, B.d, F'⟩ : Lv)] := List.mem_append_right _ (.head _)
              have Kx := G15.K _ hxm
              have KB' := G15.K _ hBm
              have CB' := G15.C _ hBm
              have I15 := G15.I.up G15.kf
              have hk15 : isL r15 sk ((lv2 ++ [(⟨B.c, B.rs, B.d, F'⟩ : Lv)]).tail.map fun v => .ref v.d) := G15.k
              have hS15 : isL r15 St (lv2.map (fun v => .ref v.c) ++ [.ref B.c]) := by have := G15.S; rw [List.map_append] at this; exact this
              have hap : lv2 ≠ [] → B.c ≠ x := by
                cases lv2 with
                | nil => exact fun z => absurd rfl z
                | cons z lv3 =>
                  intro _
                  have hz : z = ⟨x, rs, d, F₁⟩ := by simpa using hhd
                  have := G15.apart (v := ⟨B.c, B.rs, B.d, F'⟩) (List.mem_append_right _ (.head _))
                  rw [hz] at this
                  exact this
              have hz5 : ((lv2 ++ [(⟨B.c, B.rs, B.d, F'⟩ : Lv)]).map fun v => Value.ref v.c).length ≤ 100 := by simp at hlen ⊢; lia
              have hd5 : (((lv2 ++ [(⟨B.c, B.rs, B.d, F'⟩ : Lv)]).map fun v => Value.ref v.c).length : Int) - 1 = (n : Int) := by simp at hlen ⊢; lia
              have hwl : ((lv2 ++ [(⟨B.c, B.rs, B.d, F'⟩ : Lv)]).tail.map fun v => Value.ref v.d).length = n := by simp at hlen ⊢; lia
              obtain ⟨W, hW, hWl, hW0⟩ : ∃ W : List Value, isL r15 sk W ∧ W.length = n ∧ (W = [] ↔ lv2 = []) := ⟨_, hk15, hwl, by cases lv2 <;> simp⟩
              (try dsimp only)
              walk_at "pf toIf"
              refine' cut_at Z15 (fun m' r' => N7 src ll tl x d gx sk m' ∧ m' "lower" = some (.ref B.d) ∧ Step [src] r r' ∧ r15.StaysIn r') ?if1 ?rest4
              case if1 =>
                intro QT ktf
                walk_at "pf go"
                refine' At.call (depth_spec w r15 gx St ((lv2 ++ [(⟨B.c, B.rs, B.d, F'⟩ : Lv)]).map fun v ↦ Value.ref v.c) I15 G15.S hz5) ?hz ?hS ?hs ?hU ?hd ?hu ?_
                walk_at "pf sides"
                rintro v h' tk' r' Z' S' L' fr ⟨rfl, td, rfl⟩
                (try dsimp only)
                rw [hd5]
                subst hWl
                clear Z15
                walk_at "pf go"
                · exfalso; lia
                refine' At.call (top_spec w r15 gx St (lv2.map fun v ↦ Value.ref v.c) (.ref B.c) I15 hS15) ?hz ?hS ?hs ?hU ?hd ?hu ?_
                walk_at "pf sides"
                rintro v h' tk' r' Z'' S' L' fr ⟨rfl, rfl⟩
                (try dsimp only)
                clear Z'
                cases W with
                | nil =>
                  have e0 := hW0.mp rfl
                  subst e0
                  have eb : B = ⟨x, rs, d, F₁⟩ := by simpa using hhd
                  subst eb
                  walk_at "pf go"
                  exact TurnEnd.kon ktf (by assumption) ⟨⟨by walk_at "pf nm", by walk_at "pf nm", by walk_at "pf nm", by walk_at "pf nm", by walk_at "pf nm", by walk_at "pf nm", by walk_at "pf nm"⟩, by walk_at "pf nm", by assumption, by assumption⟩
                | cons w1 W =>
                  have e0 : lv2 ≠ [] := fun z => by have := hW0.mpr z; cases this
                  have e1' := hap e0
                  walk_at "pf go"
                  obtain ⟨dB, oB⟩ := KB'.obj
                  obtain ⟨dX, oX⟩ := Kx.obj
                  refine kto_is (At.own Z'' _ _ (G15.kf _ _ oB)) (At.own Z'' _ _ (G15.kf _ _ oX)) e1' (by simp [instObj]) ?_
                  (try dsimp only)
                  walk_at "pf go"
                  exact TurnEnd.kon ktf (by assumption) ⟨⟨by walk_at "pf nm", by walk_at "pf nm", by walk_at "pf nm", by walk_at "pf nm", by walk_at "pf nm", by walk_at "pf nm", by walk_at "pf nm"⟩, by walk_at "pf nm", by assumption, by assumption⟩
              case rest4 =>
                rintro h' tk m16 r16 Z16 ⟨⟨e1, e2, e3, e4, e5, e6, e7⟩, e8, S16, s16⟩
                clear Z15
                have kq16 : fq.StaysIn r16 := StaysIn.trans G15.kf s16
                have Kx16 := Kx.up kq16
                obtain ⟨_, Dx16, o1, o2, o3, o4, Ix16, _⟩ := id Kx16
                walk_at "pf go"
                refine' At.call (places_spec w r16 x rs _ _ _ _ Kx16) ?hz ?hS ?hs ?hU ?hd ?hu ?_
                walk_at "pf sides"
                rintro v h' tk' r17 Z17 S17 L17 fx17 ⟨D17, vs17, rfl, hD17, hP17, hDn17⟩
                (try dsimp only)
                have s17 : r15.StaysIn r17 := StaysIn.trans s16 (Step.nil L17)
                have hn17 : vs17.length ≤ sizeLine := by rw [hP17.1, sizeLine_eq]; lia
                refine' comp_list (hD17.up (At.own Z17)) hn17 Z17 (fun i r' ys => r17 = r' ∧ ColsAre r17 ys (places l t wd ht) F' i) (fun i r' ys h o e => by rw [← h.1]; exact e) ⟨rfl, ColsAre.nil⟩ ?turn7 ?done7
                case turn7 =>
                  rintro i v _ ys h tk gC Cc mC hv ⟨rfl, hJ⟩ hg' Z₁ hcl U₂
                  have hi : i < (places l t wd ht).length := by rw [← hP17.1]; exact (List.getElem?_eq_some_iff.mp hv).1
                  obtain ⟨⟨p, q⟩, hpq⟩ : ∃ p, (places l t wd ht)[i]? = some p := ⟨_, List.getElem?_eq_getElem hi⟩
                  obtain ⟨pa, tp, tq, rfl, hT⟩ := hP17.2 i v _ hv hpq
                  have hin : inb l t wd ht p q := places_get.mp (List.mem_of_getElem? hpq)
                  have eg : mC "groups" = some (.ref gx) := (hcl "groups" _ rfl).trans (by walk_at "pf nm")
                  have X₂ := X.keeps hg'
                  have T₂ := T.keeps hg'
                  have I17 := I15.up s17
                  have hS17 := isL.up hS15 s17
                  have KB17 := KB'.up (StaysIn.trans G15.kf s17)
                  have CB17 := CB'.step (as := []) (Step.of_stays s17) (fun _ _ z => nomatch z)
                  obtain ⟨_, Dy17, o1, o2, o3, o4, Iy17, _⟩ := id KB17
                  clear X T U Z17 Z16 Ix16
                  walk_at "pf go"
                  refine' At.call (top_spec w r17 gx St (lv2.map fun v ↦ Value.ref v.c) (.ref B.c) I17 hS17) ?hz ?hS ?hs ?hU ?hd ?hu ?_
                  walk_at "pf sides"
                  rintro v h' tk' r' Z' S' L' fr ⟨rfl, rfl⟩
                  (try dsimp only)
                  clear Z₁
                  walk_at "pf go"
                  refine' At.call (cget_spec w r17 B.c B.rs l t wd ht F' p q tp tq KB17 CB17) ?hz ?hS ?hs ?hU ?hd ?hu ?_
                  walk_at "pf sides"
                  rintro v1 h' tk' r' Z'' S' L' fr ⟨rfl, c1⟩
                  (try dsimp only)
                  rw [if_pos hin] at c1
                  exact ElemEnd.mk Z'' ⟨rfl, hJ.snoc hpq c1⟩
                case done7 =>
                  rintro D7 k7 ys7 _ h tk ⟨rfl, hJ7⟩ hlen7 hD7 hrD7 Z7
                  dsimp only [useM] at Z7
                  have k18 : r17.StaysIn (put r17 D7 (listO ys7 k7)) := stays_put hrD7
                  have S18 : Step [src] r (put r17 D7 (listO ys7 k7)) := S17.then (bs := []) (step_new hrD7) (fun a ha => nomatch ha)
                  have hl7 := isL_put r17 D7 ys7 k7
                  have s18 := StaysIn.trans s17 k18
                  clear Z17 Z16 Ix16
                  generalize put r17 D7 (listO ys7 k7) = r18 at *
                  have Kx18 := Kx.up (StaysIn.trans G15.kf s18)
                  obtain ⟨_, Dx18, o1, o2, o3, o4, Ix18, _⟩ := id Kx18
                  walk_at "pf go"
                  refine' At.call (places_spec w r18 x rs _ _ _ _ Kx18) ?hz ?hS ?hs ?hU ?hd ?hu ?_
                  walk_at "pf sides"
                  rintro v h' tk' r19 Z19 S19 L19 fx19 ⟨D19, vs19, rfl, hD19, hP19, hDn19⟩
                  (try dsimp only)
                  have s19 : r15.StaysIn r19 := StaysIn.trans s18 (Step.nil L19)
                  have hn19 : vs19.length ≤ sizeLine := by rw [hP19.1, sizeLine_eq]; lia
                  have T19 := TabC.step (as := []) T15 (Step.of_stays s19) (fun z => nomatch z)
                  obtain ⟨xs19, P19, k19, c19⟩ := T19
                  refine' comp_list (hD19.up (At.own Z19)) hn19 Z19 (fun i r' ys => r19 = r' ∧ ColsAre r19 ys (places l t wd ht) F' i) (fun i r' ys h o e => by rw [← h.1]; exact e) ⟨rfl, ColsAre.nil⟩ ?turn8 ?done8
                  case turn8 =>
                    rintro i v _ ys h tk gC Cc mC hv ⟨rfl, hJ⟩ hg' Z₁ hcl U₂
                    have hi : i < (places l t wd ht).length := by rw [← hP19.1]; exact (List.getElem?_eq_some_iff.mp hv).1
                    obtain ⟨⟨p, q⟩, hpq⟩ : ∃ p, (places l t wd ht)[i]? = some p := ⟨_, List.getElem?_eq_getElem hi⟩
                    obtain ⟨pa, tp, tq, rfl, hT⟩ := hP19.2 i v _ hv hpq
                    obtain ⟨a8, v8, e9, c8⟩ := c19 p q (List.mem_of_getElem? hpq)
                    have eg : mC "lower" = some (.ref B.d) := (hcl "lower" _ rfl).trans (by walk_at "pf nm")
                    have X₂ := X.keeps hg'
                    have T₂ := T.keeps hg'
                    clear X T U Z19 Z7
                    walk_at "pf go"
                    exact ElemEnd.mk (by assumption) ⟨rfl, hJ.snoc hpq c8⟩
                  case done8 =>
                    rintro D8 k8 ys8 _ h tk ⟨rfl, hJ8⟩ hlen8 hD8 hrD8 Z8
                    dsimp only [useM] at Z8
                    have k20 : r19.StaysIn (put r19 D8 (listO ys8 k8)) := stays_put hrD8
                    have S20 : Step [src] r (put r19 D8 (listO ys8 k8)) := S19.then (bs := []) (step_new hrD8) (fun a ha => nomatch ha)
                    have hl8 := isL_put r19 D8 ys8 k8
                    have hl7' := isL.up (isL.up hl7 (Step.nil L19)) k20
                    have cs7 : ColsAre (put r19 D8 (listO ys8 k8)) ys7 (places l t wd ht) F' vs17.length := ((hJ7.step (Step.of_stays (as := []) k18)).step L19).step (Step.of_stays (as := []) k20)
                    have cs8 : ColsAre (put r19 D8 (listO ys8 k8)) ys8 (places l t wd ht) F' vs19.length := hJ8.step (Step.of_stays (as := []) k20)
                    clear Z19 Z7
                    generalize put r19 D8 (listO ys8 k8) = r20 at *
                    walk_at "pf go"
                    refine' ne_same (hl7'.up (At.own (by assumption))) (hl8.up (At.own (by assumption))) ?hu9 ?hz9 ?he9 ?_
                    case hu9 => (try dsimp only); lia
                    case hz9 => rw [hlen7, hlen8, hP17.1, hP19.1]
                    case he9 =>
                      intro j a1 a2 h1 h2
                      have hj : j < (places l t wd ht).length := by rw [← hP17.1, ← hlen7]; exact (List.getElem?_eq_some_iff.mp h1).1
                      have hpj := List.getElem?_eq_getElem hj
                      obtain ⟨b1, rfl, c1⟩ := (cs7.2 j _ _ h1 hpj).sees X
                      obtain ⟨b2, rfl, c2⟩ := (cs8.2 j _ _ h2 hpj).sees X
                      exact eqAt_cols (c1.at Z8) (c2.at Z8) (by dsimp only [Around.in1]; lia)
                    (try dsimp only)
                    walk_at "pf go"
                    exact WhileEnd.kon kt (k := n) (by lia) (by assumption) ⟨⟨by walk_at "pf nm", by walk_at "pf nm", by walk_at "pf nm", by walk_at "pf nm", by walk_at "pf nm", by walk_at "pf nm", by walk_at "pf nm"⟩, S20, fq, _, F2, G15.up (StaysIn.trans s19 k20), hlen15, hhd15, by lia⟩
/-! ## the law -/
/-- a call of a def that also looks at what stays: r is what it may touch, as what it may change, n how deep it goes; Post of what it gives back and what is owned then -/
structure CallP (w : World) (r : Heap) (as : List Addr) (f : Value) (args : List Value) (n : Nat) (Pre : Heap → Prop) (Post : Value → Heap → Prop) : Prop where
  live : ∀ a ∈ as, ∃ o, r.get? a = some o
  run : ∀ (dp un : Nat) (gd : Option (List Code)) (env : Env) (outer : List Env) (base : Heap) (s : Shared) (R : Result → Shared → Prop),
    r.StaysIn s.heap → Cx w env outer base (minus s.heap r) → Pre (minus s.heap r) → dp + 4 * n < recursionLimit → un + 20 * n < cLine →
    (∀ v h' tk' r', r'.StaysIn h' → Keep as s.heap h' → Step as r r' → Disj r' (minus s.heap r) → Post v r' → R (.ok (.ret v)) { s with heap := h', toks := tk' }) →
    codeAny (model prg w) (arnd dp un gd env outer) (.call f ⟨args, []⟩) R s

theorem enterP {w : World} {r : Heap} {as : List Addr} {f : Addr} {args : List Value} {k : Nat} {Pre : Heap → Prop} {Post : Value → Heap → Prop}
    {name qual : Str} {params : Arguments} {body : List Stmt} {scope : Scope} {dV kV doc pm cdv ct oc : Value} {an od : Option Addr} {osl : Array (Option Value)} (binds : List (Str × Value))
    (ho : (Pf.ob.heap_1 w.params).lookup f = some ⟨oc, od, .func (fnOf name qual params body scope dV kV doc pm an cdv ct), osl⟩) (hcd : codeIn (Pf.ob.heap_1 w.params) cdv qual = true)
    (hbind : ∀ s : Shared, (Pf.ob.heap_1 w.params).In s.heap → BindsTo s (fnOf name qual params body scope dV kV doc pm an cdv ct) ⟨args, []⟩ binds)
    (hkind : (binds.all fun y => scope.names.lookup y.1 == some .local || scope.names.lookup y.1 == some .cell) = true)
    (hok : okCells scope = true) (hnd : ((cellsFrom 0 scope.names []).map (·.1)).Nodup)
    (hco : scope.isCoroutine = false) (hgen : scope.isGenerator = false) (hk : scope.kind = .function) (hlive : ∀ a ∈ as, ∃ o, r.get? a = some o)
    (h : ∀ (A : Around) (base g h₁ : Heap) (tk₁ : Nat) (L : Addr) (s : Shared) (Q : Value → Shared → Prop),
      A.depth + 4 * k + 3 < recursionLimit → A.units + 20 * k + 17 < cLine → Pre g → (Pf.ob.heap_1 w.params).In g → TopE g → Up w g (envOfC qual scope L f cdv) A base →
      At w g ((cellsFrom (L + 1) scope.names []).map (·.2)) (envOfC qual scope L f cdv) (fun y => binds.reverse.lookup y) r h₁ → Step as r r →
      (∀ v h' tk' r' m', At w g ((cellsFrom (L + 1) scope.names []).map (·.2)) (envOfC qual scope L f cdv) m' r' h' → Step as r r' → Post v r' → Q v { s with heap := h', toks := tk' }) →
      wpAny (model prg w) A (execs body (envOfC qual scope L f cdv)) (fun fl s' => Q (valOf fl) s') never { s with heap := h₁, toks := tk₁ }) :
    CallP w r as (.ref f) args (k + 1) Pre Post := by
  refine ⟨hlive, ?_⟩
  intro dp un gd env outer base s R hr hx hpre hdp hun hret
  obtain ⟨st, fr, Kb, Tb⟩ := hx
  have K := Kb.keeps st
  have T := Tb.keeps st
  have KK : (Pf.ob.heap_1 w.params).In s.heap := K.keeps (minus_stays _ _)
  refine codeAny_call_function (by show dp < _; lia) (KK _ _ ho) rfl hco hgen rfl (codeRec_of KK hcd) (hbind s KK _ _ _ _ ?_)
  refine wpAny_newFunctionEnv_cells hk (kindsX hkind _) fun env' he s' x => ?_
  subst he
  refine ⟨(T.nolimit.keeps (minus_stays _ _)).keeps x.toInCall.keep, codeAny_func ?_⟩
  obtain ⟨h₁, tk, rfl, _⟩ := x.done
  have hk₁ := x.toInCall.keep
  have fresh : ∀ (z : Heap), z.StaysIn s.heap → ∀ a, s.heap.objs.size ≤ a → z.get? a = none := fun z hz a ha => by
    cases e : z.get? a with
    | none => rfl
    | some o => exact absurd (Heap.lt_size (hz _ _ e)) (Nat.not_lt.mpr ha)
  have inCs : ∀ x c, (cellsFrom (s.heap.objs.size + 1) scope.names []).lookup x = some c → s.heap.objs.size < c := fun y c e => x.above y c (mem_of_lookup e)
  have kc : ∀ y c, (envOfC qual scope s.heap.objs.size f cdv).cells.lookup y = some c → (envOfC qual scope s.heap.objs.size f cdv).kindOf y ≠ some .local := fun y c e => by
    have hm := mem_of_lookup e
    rcases cellsKind scope.names _ [] hm with q | q
    · cases q
    · have := List.all_eq_true.mp hok _ q
      simp only [bne_self_eq_false, Bool.false_or, beq_iff_eq] at this
      show scope.names.lookup y ≠ _
      rw [this]; decide
  have Z : At w (minus s.heap r) ((cellsFrom (s.heap.objs.size + 1) scope.names []).map (·.2)) (envOfC qual scope s.heap.objs.size f cdv) (fun y => binds.reverse.lookup y) r h₁ := by
    refine ⟨fun b o e => hk₁ b o (minus_stays _ _ b o e), fun b o e => hk₁ b o (hr b o e), ⟨_, x.toInCall.ns, fun y hy => ?_⟩, fun y c e => ⟨?_, .inl (List.mem_map.mpr ⟨(y, c), mem_of_lookup e, rfl⟩)⟩, fun c hc => ?_, ⟨?_, ?_⟩, disj_minus _ _, fun _ => x.apart, kc⟩
    · exact (bindL_eq hy binds _).trans (by simp)
    · have hkd := kc y c e
      have q := x.cell y c e
      have q2 := bindC_eq (kindOf := (envOfC qual scope s.heap.objs.size f cdv).kindOf) hkd binds (fun _ => none)
      rw [Option.or_none] at q2
      exact q2 ▸ q
    · obtain ⟨⟨y, c'⟩, hm, rfl⟩ := List.mem_map.mp hc
      have hlt : s.heap.objs.size < c' := x.above y c' hm
      exact ⟨fresh r hr _ (Nat.le_of_lt hlt), fresh _ (minus_stays _ _) _ (Nat.le_of_lt hlt), Nat.ne_of_gt hlt, y, lookup_of_mem_nodup (cellsFrom_names scope.names 0 (s.heap.objs.size + 1) [] [] rfl ▸ hnd) hm⟩
    · exact fresh r hr _ (Nat.le_refl _)
    · exact fresh _ (minus_stays _ _) _ (Nat.le_refl _)
  refine wpAny_mono (h (arnd (dp + 1) (un + 3) gd (envOfC qual scope s.heap.objs.size f cdv) (env :: outer)) base (minus s.heap r) h₁ tk s.heap.objs.size s (fun v s' => R (.ok (.ret v)) s') (show dp + 1 + 4 * k + 3 < _ by lia) (show un + 3 + 20 * k + 17 < _ by lia) hpre K T ⟨_, _, _, _, _, rfl, ?_⟩ Z (Step.refl _ _) (fun v h' tk' r' m' Z' kp hp => ?_)) (fun fl s' hl => ?_) fun _ _ x => x.elim
  · intro gx hg ⟨o, ho, hnf⟩
    refine ⟨StaysIn.trans st hg, ⟨by show scope.kind ≠ .module; rw [hk]; decide, ⟨_, o, rfl, ?_, ho, hnf⟩, fr.of_keeps fun b o e _ => ⟨o, hg b o e, rfl⟩⟩, Kb, Tb⟩
    exact fresh base (StaysIn.trans st (minus_stays _ _)) _ (Nat.le_refl _)
  · refine hret v h' tk' r' Z'.own (fun b o hb e => ?_) kp Z'.rg hp
    cases q : r.get? b with
    | some o' =>
      have : o' = o := Option.some.inj ((hr b o' q).symm.trans e)
      subst this
      exact Z'.own b o' (kp.keep b o' hb q)
    | none => exact Z'.base b o (minus_some e q)
  · cases fl <;> exact hl

theorem At.callP {w : World} {r : Heap} {as : List Addr} {f : Value} {args : List Value} {n : Nat} {Post : Value → Heap → Prop} {Pre : Heap → Prop} (C : CallP w r as f args n Pre Post) (mono : ∀ g g' : Heap, g.StaysIn g' → Pre g → Pre g')
    {g : Heap} {cs : List Addr} {env : Env} {m : Str → Option Value} {s : Shared} {A : Around} {base : Heap} {Q E : Value → Shared → Prop}
    {as₀ : List Addr} {r₀ : Heap} (Z : At w g cs env m r s.heap) (S : Step as₀ r₀ r) (hs : ∀ a ∈ as, a ∈ as₀ ∨ r₀.get? a = none) (U : Up w g env A base) (hp : Pre g) (hd : A.depth + 4 * n < recursionLimit) (hu : A.units + 20 * n < cLine)
    (h : ∀ v h' tk' r', At w g cs env m r' h' → Step as₀ r₀ r' → Loc as r r' → (∀ a o, r'.get? a = some o → r.get? a = none → s.heap.get? a = none) → Post v r' → Q v { s with heap := h', toks := tk' }) :
    wpAny (model prg w) A (PySem.call f args) Q E s := by
  obtain ⟨dp, un, gd, fenv, outer, rfl, U⟩ := U
  obtain ⟨mL, hns, hmL⟩ := Z.ns
  have offr : ∀ {a : Addr}, r.get? a = none → a ∉ as := fun e q => by obtain ⟨o, ho⟩ := C.live _ q; rw [e] at ho; cases ho
  have gm : g.StaysIn (minus s.heap r) := fun b o e => minus_some (Z.base b o e) (Z.rg.right e)
  obtain ⟨oL, es, ep, hL, hd1, hd2, hd3⟩ := hns
  refine wpAny_call (C.run dp un gd fenv outer base s _ Z.own (U _ gm ⟨oL, minus_some hL Z.loc.1, fun vs q => by rw [hd1] at q; cases q⟩) (mono _ _ gm hp) hd hu fun v h' tk' r' a1 a2 a3 a4 a5 => ?_)
  have live : ∀ {a : Addr} {o : Obj}, s.heap.get? a = some o → r.get? a = none → r'.get? a = none := fun e n => a4.right (minus_some e n)
  refine h v h' tk' r' ⟨fun b o e => a2 b o (offr (Z.rg.right e)) (Z.base b o e), a1, ⟨mL, ⟨oL, es, ep, a2 _ _ (offr Z.loc.1) hL, hd1, hd2, hd3⟩, hmL⟩, fun x c e => ?_, fun c hc => ?_, ⟨live hL Z.loc.1, Z.loc.2⟩, a4.mono gm, Z.ap, Z.kc⟩ (S.then a3 hs) a3 (fun a o e n => ?_) a5
  · obtain ⟨⟨oc, hc, hdc⟩, hin⟩ := Z.cell x c e
    refine ⟨⟨oc, a2 _ _ (offr ?_) hc, hdc⟩, hin⟩
    rcases hin with q | ⟨o, q⟩
    · exact (Z.csr c q).1
    · exact Z.rg.right q
  · obtain ⟨h1, h2, h3, x, hx⟩ := Z.csr c hc
    obtain ⟨⟨o, q, _⟩, _⟩ := Z.cell x c hx
    exact ⟨live q h1, h2, h3, x, hx⟩
  · cases q : s.heap.get? a with
    | none => rfl
    | some o' => rw [live q n] at e; cases e

theorem source_p (w : World) (r : Heap) (sc : Addr) (ns : List Int) :
    CallP w r [] (.ref 520) [.ref sc] 1 (fun g => Script g sc ns) (fun v r' => ∃ src, v = .ref src ∧ r.get? src = none ∧ Src w r' src) := by
  refine' enterP [("script", .ref sc)] ?ho ?hcd ?hb ?hkd ?hok ?hnd ?c2 ?c3 ?c4 (fun _ h => nomatch h) ?_
  walk_at "pf enter"
  intro A base g h₁ tk₁ L s Q hd hu hp X T U Z S hret
  k_fold
  obtain ⟨vs, R, I⟩ := hp
  cases I with
  | nil =>
    walk_at "pf go"
    rename_i a' h' r' Z' lo' e' S' s' f' f''
    refine src_end Z' lo' e' S' f'' (by lia) (fm_ok _).1 (fm_ok _).2 fun h2 r2 tk Z2 R2 S2 => ?_
    exact hret _ _ _ _ _ Z2 S2 ⟨_, rfl, f'', R2⟩
  | cons n t I =>
    walk_at "pf go"
    all_goals rename_i a' h' r' Z' lo' e' S' s' f' f'' q
    · refine src_end Z' lo' e' S' f'' (by split <;> lia) (fm_ok _).1 (fm_ok _).2 fun h2 r2 tk Z2 R2 S2 => ?_
      exact hret _ _ _ _ _ Z2 S2 ⟨_, rfl, f'', R2⟩
    · refine src_end Z' lo' e' S' f'' (by lia) (fm_ok _).1 (fm_ok _).2 fun h2 r2 tk Z2 R2 S2 => ?_
      exact hret _ _ _ _ _ Z2 S2 ⟨_, rfl, f'', R2⟩
theorem law_at {w : World} {h₀ h₁ : Heap} {L fa sc : Addr} {cdv : Value} {qual : Str} {scope : Scope} {m : Str → Option Value} {o : Obj} (F : Fr h₀ L h₁ m) (hm : ∀ x, scope.names.lookup x = some .local → m x = [(("script" : Str), Value.ref sc)].lookup x)
    (hc : cellsFrom (L + 1) scope.names [] = [(("lone" : Str), L + 1)]) (N : h₁.get? (L + 1) = some o) (hd : o.data = .cell none) (hk : scope.names.lookup ("lone" : Str) = some .cell) :
    At w h₀ [L + 1] (envOfC qual scope L fa cdv) (fun x => [(("script" : Str), Value.ref sc)].lookup x) nilH h₁ := by
  have z : ∀ a, h₀.objs.size ≤ a → h₀.get? a = none := fun a ha => by
    cases q : h₀.get? a with
    | none => rfl
    | some o => exact absurd (Heap.lt_size q) (Nat.not_lt.mpr ha)
  have hl : ∀ x c, (envOfC qual scope L fa cdv).cells.lookup x = some c → x = "lone" ∧ c = L + 1 := fun x c e => by
    have e : (cellsFrom (L + 1) scope.names []).lookup x = some c := e
    rw [hc] at e
    by_cases q : x = "lone"
    · subst q; simp [List.lookup] at e; exact ⟨rfl, e.symm⟩
    · have q' : (x == ("lone" : Str)) = false := by simpa using q
      simp [List.lookup, q'] at e
  refine ⟨F.keep, nil_stays _, ⟨m, F.ns, fun x hx => hm x hx⟩, fun x c e => ?_, fun c hcs => ?_, ⟨get_nil _, z _ F.above⟩, (fun a o e => by rw [get_nil] at e; cases e), fun _ => ?_, fun x c e => ?_⟩
  · obtain ⟨rfl, rfl⟩ := hl x c e
    exact ⟨⟨o, N, hd⟩, .inl (.head _)⟩
  · rw [List.mem_singleton.mp hcs]
    refine ⟨get_nil _, z _ (Nat.le_succ_of_le F.above), Nat.succ_ne_self L, "lone", ?_⟩
    show (cellsFrom (L + 1) scope.names []).lookup ("lone" : Str) = _
    rw [hc]; rfl
  · show (cellsFrom (L + 1) scope.names []).Pairwise _
    rw [hc]; exact List.pairwise_singleton _ _
  · obtain ⟨rfl, _⟩ := hl x c e
    show scope.names.lookup _ ≠ _
    rw [hk]; decide
theorem law_up {w : World} {h₀ : Heap} {L fa : Addr} {cdv : Value} {qual : Str} {scope : Scope} (X : (Pf.ob.heap_1 w.params).In h₀) (T : TopE h₀) (hk : scope.kind = .function) (hL : h₀.get? L = none) :
    UpO w h₀ (envOfC qual scope L fa cdv) (envOfC qual scope L fa cdv) [] h₀ := fun gx hg ⟨o, ho, hnf⟩ =>
  ⟨hg, ⟨by show scope.kind ≠ .module; rw [hk]; decide, ⟨L, o, rfl, hL, ho, hnf⟩, trivial⟩, X, T⟩
/-- how the law ends -/
noncomputable def LawEnd (s₁ : Shared) (fl : Flow) (s' : Shared) : Prop := fl = .ret (.bool true) ∧ s₁.heap.StaysIn s'.heap ∧ s'.gens = s₁.gens ∧ s'.os = s₁.os
theorem law_good {s₁ s' : Shared} {c : PySem.W.ClaimW} {cl : Str → Option Addr} {mean : ExcName → Option Value} {args : List PySem.W.WData} (h1 : s₁.heap.StaysIn s'.heap) (h2 : s'.gens = s₁.gens) (h3 : s'.os = s₁.os) (hg : s₁.gens = #[]) (hn : ∀ cls, c.raises args cls = false) (hp : c.post args (.bool true) args = true) :
    GoodW c cl mean args s₁ (.ok (.ret (.bool true))) s' := ⟨.inl ⟨.bool true, .bool true, [], rfl, hn, .bool true, hp, unshared_nil⟩, h1, h3, h2.trans hg⟩
theorem law_go {w : World} {s₁ : Shared} {h₁ : Heap} {tk₁ : Tok} {L fa sc : Addr} {cdv : Value} {qual : Str} {scope : Scope} {body : List Stmt} {m : Str → Option Value} {o : Obj} {Qg : Flow → Shared → Prop} {Eg : Value → Shared → Prop}
    (F : Fr s₁.heap L h₁ m) (hm : ∀ x, scope.names.lookup x = some .local → m x = [(("script" : Str), Value.ref sc)].lookup x) (hc : cellsFrom (L + 1) scope.names [] = [(("lone" : Str), L + 1)]) (N : h₁.get? (L + 1) = some o) (hd : o.data = .cell none) (hk : scope.names.lookup ("lone" : Str) = some .cell)
    (X : (Pf.ob.heap_1 w.params).In s₁.heap) (T : TopE s₁.heap) (hkd : scope.kind = .function) (hq : ∀ fl s', LawEnd s₁ fl s' → Qg fl s')
    (h : ∀ (A : Around), A.depth + 100 < recursionLimit → A.units + 500 < cLine → At w s₁.heap [L + 1] (envOfC qual scope L fa cdv) (fun x => [(("script" : Str), Value.ref sc)].lookup x) nilH h₁ → Up w s₁.heap (envOfC qual scope L fa cdv) A s₁.heap →
      wpAny (model prg w) A (execs body (envOfC qual scope L fa cdv)) (LawEnd s₁) never { s₁ with heap := h₁, toks := tk₁ }) :
    wpAny (model prg w) (callerA.deeper (envOfC qual scope L fa cdv)) (execs body (envOfC qual scope L fa cdv)) Qg Eg { s₁ with heap := h₁, toks := tk₁ } := by
  have z : s₁.heap.get? L = none := by
    cases q : s₁.heap.get? L with
    | none => rfl
    | some o => exact absurd (Heap.lt_size q) (Nat.not_lt.mpr F.above)
  exact wpAny_mono (h (arnd (callerA.depth + 1) (callerA.units + 3) callerA.guards (envOfC qual scope L fa cdv) []) (show callerA.depth + 1 + 100 < _ by decide) (show callerA.units + 3 + 500 < _ by decide) (law_at F hm hc N hd hk) ⟨_, _, _, _, _, rfl, law_up X T hkd z⟩) hq (fun _ _ q => (q : False).elim)
/-- the addresses of the top's objects -/
noncomputable def obAt : List Addr := [2, 3, 15, 17, 18, 20, 21, 22, 24, 25, 27, 28, 29, 32, 33, 34, 41, 43, 44, 46, 47, 48, 49, 50, 51, 54, 61, 62, 63, 66, 73, 74, 75, 78, 85, 86, 87, 97, 100, 101, 102, 104, 105, 107, 108, 109, 111, 112, 114, 115, 116, 118, 119, 121, 122, 123, 124, 125, 126, 127, 137, 139, 140, 142, 143, 144, 146, 147, 149, 150, 151, 152, 153, 154, 155, 165, 167, 168, 170, 171, 172, 174, 175, 177, 178, 179, 181, 182, 184, 185, 186, 188, 189, 191, 192, 193, 195, 196, 198, 199, 200, 201, 202, 203, 204, 207, 209, 210, 212, 213, 214, 216, 217, 219, 220, 221, 223, 224, 226, 227, 228, 236, 237, 240, 241, 242, 244, 245, 247, 248, 249, 251, 252, 254, 255, 256, 258, 259, 261, 262, 263, 265, 266, 268, 269, 270, 273, 274, 275, 278, 279, 280, 282, 283, 285, 286, 287, 289, 290, 292, 293, 294, 295, 296, 297, 298, 301, 303, 304, 306, 307, 315, 317, 318, 320, 321, 322, 324, 325, 327, 328, 329, 331, 332, 334, 335, 336, 338, 339, 341, 342, 343, 345, 346, 348, 349, 350, 352, 353, 355, 356, 357, 358, 359, 360, 361, 364, 366, 367, 369, 370, 371, 373, 374, 376, 377, 378, 381, 382, 383, 385, 386, 388, 389, 397, 399, 400, 402, 403, 404, 406, 407, 409, 410, 411, 413, 414, 416, 417, 418, 420, 421, 423, 424, 425, 427, 428, 430, 431, 432, 433, 434, 435, 436, 439, 441, 442, 444, 445, 453, 456, 457, 458, 460, 461, 463, 464, 465, 467, 468, 470, 471, 472, 474, 475, 477, 478, 479, 481, 482, 484, 485, 486, 488, 489, 491, 492, 493, 495, 496, 498, 499, 500, 502, 503, 505, 506, 507, 508, 509, 510, 511, 514, 516, 517, 519, 520, 521, 523, 524, 526, 527, 528, 530, 531, 533, 534, 535, 537, 538, 540, 541, 542, 545, 546, 547, 549, 550, 552, 553, 554, 557, 558, 559, 562, 563, 564, 566, 567, 569, 570, 571, 574, 575, 576, 579, 580]
theorem law_holds.tw18044150065135025990 : True := trivial
theorem law_holds.tw5066913588794919744 : True := trivial
theorem law_holds.tw8663074711441369296 : True := trivial
theorem law_holds.tw6938219134019507746 : True := trivial
theorem law_holds.tw15984676782035116248 : True := trivial
theorem law_holds.tw8590897656541939786 : True := trivial
theorem law_holds.tw6719269292715791711 : True := trivial
theorem law_holds.tw6403698011072187743 : True := trivial
theorem law_holds.tw649228979741479609 : True := trivial
theorem law_holds.tw11976610934646326979 : True := trivial
theorem law_holds.tw140294220288963269 : True := trivial
theorem law_holds.tw12698157819913929523 : True := trivial
theorem law_holds.tw6850413789453455294 : True := trivial
theorem law_holds.tw13556402795376040402 : True := trivial
theorem law_holds.tw2717585885165384162 : True := trivial
theorem law_holds.tw2982236617975089517 : True := trivial
theorem law_holds.tw16321558164830041158 : True := trivial
theorem law_holds.tw7066292961202089184 : True := trivial
theorem law_holds.tw2006116174594010617 : True := trivial
theorem law_holds.tw8183240128376365736 : True := trivial
theorem law_holds.tw7520064626241816625 : True := trivial
theorem law_holds.tw1033164161355135462 : True := trivial
theorem law_holds.tw16763760845642644606 : True := trivial
theorem law_holds.tw12071637082957534096 : True := trivial
theorem law_holds.tw1483311306704693516 : True := trivial
theorem law_holds.tw5982476822832415732 : True := trivial
theorem law_holds.tw13197477365727726330 : True := trivial
theorem law_holds.tw13463394637699047008 : True := trivial
theorem law_holds.tw17889855790337319795 : True := trivial
theorem law_holds.tw15260394699358264390 : True := trivial
theorem law_holds.tw16764618554889996628 : True := trivial
theorem law_holds.tw12656310799587106470 : True := trivial
theorem law_holds.tw10189642168006994463 : True := trivial
theorem law_holds.tw1306616006120007865 : True := trivial
theorem law_holds.tw1224784046331775624 : True := trivial
theorem law_holds.tw4875587185813837320 : True := trivial
theorem law_holds.tw2131819961390604533 : True := trivial
theorem law_holds.tw7662708244336796742 : True := trivial
theorem law_holds.tw4637739709080367813 : True := trivial
theorem law_holds.tw12786965494771819750 : True := trivial
theorem law_holds.tw152982089458015003 : True := trivial
theorem law_holds.tw10424290338943960309 : True := trivial
theorem law_holds.tw3797649438310791299 : True := trivial
theorem law_holds.tw11100759741404532157 : True := trivial
theorem law_holds.tw2610560174871770190 : True := trivial
theorem law_holds.tw6597010510453982066 : True := trivial
theorem law_holds.tw13673627758535227413 : True := trivial
theorem law_holds.tw9354024702601033274 : True := trivial
theorem law_holds.tw3428356195111636366 : True := trivial
theorem law_holds.tw18137629158878771942 : True := trivial
theorem law_holds.tw5517271397936746430 : True := trivial
theorem law_holds.tw13953856455213753267 : True := trivial
theorem law_holds.tw8393810346349860858 : True := trivial
theorem law_holds.tw11910528987308067229 : True := trivial
theorem law_holds.tw15443398153200785644 : True := trivial
theorem law_holds.tw3241104732841905829 : True := trivial
theorem law_holds.tw10386317543035613103 : True := trivial
theorem law_holds.tw13157377931450550220 : True := trivial
theorem law_holds.tw4941599542526902415 : True := trivial
theorem law_holds.tw6058628416551932621 : True := trivial
theorem law_holds.tw16679717186898917304 : True := trivial
theorem law_holds.tw15818515971352411851 : True := trivial
theorem law_holds.tw5406729542365335572 : True := trivial
theorem law_holds.tw11047222944732268848 : True := trivial
theorem law_holds.tw4681761347301258054 : True := trivial
theorem law_holds.tw10885206825249266524 : True := trivial
theorem law_holds.tw11431753243915371012 : True := trivial
theorem law_holds.tw3438637920445691979 : True := trivial
theorem law_holds.tw9014949001774082122 : True := trivial
theorem law_holds.tw7799640910663684774 : True := trivial
theorem law_holds.tw14789783747188850262 : True := trivial
theorem law_holds.tw11787583505833310723 : True := trivial
theorem law_holds.tw10856013948346445677 : True := trivial
theorem law_holds.tw15384909822635826625 : True := trivial
theorem law_holds.tw18019883472482224143 : True := trivial
theorem law_holds.tw3818290198630410602 : True := trivial
theorem law_holds.tw3028986324221687264 : True := trivial
theorem law_holds.tw11704802162745896124 : True := trivial
theorem law_holds.tw2302965997036279107 : True := trivial
theorem law_holds.tw7305237135168600315 : True := trivial
theorem law_holds.tw7213574303905615860 : True := trivial
theorem law_holds.tw16381576736966371420 : True := trivial
theorem law_holds.tw4709517723649674429 : True := trivial
theorem law_holds.tw14407142752238548053 : True := trivial
theorem law_holds.tw4163201359939391562 : True := trivial
theorem law_holds.tw6506968799773828727 : True := trivial
theorem law_holds.tw12594587430357464941 : True := trivial
theorem law_holds.tw1564183738141452551 : True := trivial
theorem law_holds.tw5715177505724563563 : True := trivial
theorem law_holds.tw16971839662873060592 : True := trivial
theorem law_holds.tw11936975879932482239 : True := trivial
theorem law_holds.tw14489355720475846353 : True := trivial
theorem law_holds.tw11598823905400625296 : True := trivial
theorem law_holds.tw18253325090125048024 : True := trivial
theorem law_holds.tw17470293287300110846 : True := trivial
theorem law_holds.tw16211990929188291430 : True := trivial
theorem law_holds.tw16611353956333945856 : True := trivial
theorem law_holds.tw16543083397112605803 : True := trivial
theorem law_holds.tw10456359609949717735 : True := trivial
theorem law_holds.tw2912063291001377411 : True := trivial
theorem law_holds.tw15727724881737942384 : True := trivial
theorem law_holds.tw17742411258970959249 : True := trivial
theorem law_holds.tw5311596884650055853 : True := trivial
theorem law_holds.tw10833534844333815322 : True := trivial
theorem law_holds.tw5104821544132896416 : True := trivial
theorem law_holds.tw9511998133741902501 : True := trivial
theorem law_holds.tw13354252913149584559 : True := trivial
theorem law_holds.tw6188560906740150446 : True := trivial
theorem law_holds.tw13795599078860568591 : True := trivial
theorem law_holds.tw12783387648174443111 : True := trivial
theorem law_holds.tw13864847797412595965 : True := trivial
theorem law_holds.tw4955490821915322612 : True := trivial
theorem law_holds.tw13757342957602216786 : True := trivial
theorem law_holds.tw15849914929287944425 : True := trivial
theorem law_holds.tw5948141331821368287 : True := trivial
theorem law_holds.tw977113064738728500 : True := trivial
theorem law_holds.tw14890397702192331771 : True := trivial
theorem law_holds.tw15351894811895607243 : True := trivial
theorem law_holds.tw4068823478869506476 : True := trivial
theorem law_holds.tw8764337758440032364 : True := trivial
theorem law_holds.tw12624318671670551122 : True := trivial
theorem law_holds.tw9682824931936853858 : True := trivial
theorem law_holds.tw6300863332150125922 : True := trivial
theorem law_holds.tw215634188424083171 : True := trivial
theorem law_holds.tw8108863910856519382 : True := trivial
theorem law_holds.tw7856258261294514811 : True := trivial
theorem law_holds.tw10148867151656001840 : True := trivial
theorem law_holds.tw10179848346752387970 : True := trivial
theorem law_holds.tw792941156043566117 : True := trivial
theorem law_holds.tw15504898859177888672 : True := trivial
theorem law_holds.tw3769565866859978837 : True := trivial
theorem law_holds.tw12238942979860903211 : True := trivial
theorem law_holds.tw16827874036397430126 : True := trivial
theorem law_holds.tw15672857000978072163 : True := trivial
theorem law_holds.tw5925764187415175781 : True := trivial
theorem law_holds.tw7385066613311220726 : True := trivial
theorem law_holds.tw10653927347041746630 : True := trivial
theorem law_holds.tw15822988590674262056 : True := trivial
theorem law_holds.tw12489141980500757351 : True := trivial
theorem law_holds.tw3111789474720086926 : True := trivial
theorem law_holds.tw12351545279982594774 : True := trivial
theorem law_holds.tw1832489649003062882 : True := trivial
theorem law_holds.tw8579046844128287320 : True := trivial
theorem law_holds.tw7724906179959475890 : True := trivial
theorem law_holds.tw12568763964812746558 : True := trivial
theorem law_holds.tw8956026771140810805 : True := trivial
theorem law_holds.tw16673844592069371740 : True := trivial
theorem law_holds.tw4031659917194628679 : True := trivial
theorem law_holds.tw3081403284342934308 : True := trivial
theorem law_holds.tw9179867877915087621 : True := trivial
theorem law_holds.tw5425330602038808246 : True := trivial
theorem law_holds.tw3253409054703496611 : True := trivial
theorem law_holds.tw15390217265349508797 : True := trivial
theorem law_holds.tw2273206722233455198 : True := trivial
theorem law_holds.tw5444253203383907775 : True := trivial
theorem law_holds.tw9368964214221972923 : True := trivial
theorem law_holds.tw10373918362639332762 : True := trivial
theorem law_holds.tw9603426647596539768 : True := trivial
theorem law_holds.tw4186197149046285069 : True := trivial
theorem law_holds.tw7450242878787752636 : True := trivial
theorem law_holds.tw15273660507050460272 : True := trivial
theorem law_holds.tw697967555431449975 : True := trivial
theorem law_holds.tw16763788172736160897 : True := trivial
theorem law_holds.tw2830115914896507259 : True := trivial
theorem law_holds.tw5867330165452053297 : True := trivial
theorem law_holds.tw1875714176118735767 : True := trivial
theorem law_holds.tw14738443495982155649 : True := trivial
theorem law_holds.tw9457051635234980172 : True := trivial
theorem law_holds.tw11742079454803405735 : True := trivial
theorem law_holds.tw16328367262784977332 : True := trivial
theorem law_holds.tw1518468295962727986 : True := trivial
theorem law_holds.tw4562594941476690 : True := trivial
theorem law_holds.tw17301127245686461459 : True := trivial
theorem law_holds.tw3155601607863479815 : True := trivial
theorem law_holds.tw2973907172558688813 : True := trivial
theorem law_holds.tw16454858376008664255 : True := trivial
theorem law_holds.tw11403067290869472988 : True := trivial
theorem law_holds.tw13271220444766459851 : True := trivial
theorem law_holds.tw16818489991477328485 : True := trivial
theorem law_holds.tw6464551236574259388 : True := trivial
theorem law_holds.tw10576172102413290621 : True := trivial
theorem law_holds.tw1814682816041663194 : True := trivial
theorem law_holds.tw18183015810876076896 : True := trivial
theorem law_holds.tw351218667365888131 : True := trivial
theorem law_holds.tw15911508496811710324 : True := trivial
theorem law_holds.tw15205374944682251681 : True := trivial
theorem law_holds.tw3202516710290437129 : True := trivial
theorem law_holds.tw13953072452872296518 : True := trivial
theorem law_holds.tw721657324994873760 : True := trivial
theorem law_holds.tw2551459833650504413 : True := trivial
theorem law_holds.tw13358972255690255512 : True := trivial
theorem law_holds.tw16738308973257199447 : True := trivial
theorem law_holds.tw999026479988436151 : True := trivial
theorem law_holds.tw13290086303129591922 : True := trivial
theorem law_holds.tw13031726656638696718 : True := trivial
theorem law_holds.tw8611240747322359507 : True := trivial
theorem law_holds.tw18394512824018876355 : True := trivial
theorem law_holds.tw11675543311012303814 : True := trivial
theorem law_holds.tw18238573273754869311 : True := trivial
theorem law_holds.tw48400147209072902 : True := trivial
theorem law_holds.tw8673411399293286483 : True := trivial
theorem law_holds.tw3026749947051126118 : True := trivial
theorem law_holds.tw14998951385061141768 : True := trivial
theorem law_holds.tw3492480775988014025 : True := trivial
theorem law_holds.tw13227429127092716044 : True := trivial
theorem law_holds.tw17843801514294886769 : True := trivial
theorem law_holds.tw16518156036420119049 : True := trivial
theorem law_holds.tw7087519796507181006 : True := trivial
theorem law_holds.tw11001953791565023266 : True := trivial
theorem law_holds.tw8925312774202887671 : True := trivial
theorem law_holds.tw17651286537826337574 : True := trivial
theorem law_holds.tw5461990527896214712 : True := trivial
theorem law_holds.tw1968526358067923048 : True := trivial
theorem law_holds.tw10342310994985591596 : True := trivial
theorem law_holds.tw15573172579951805833 : True := trivial
theorem law_holds.tw3930719443551741401 : True := trivial
theorem law_holds.tw5840492094011914709 : True := trivial
theorem law_holds.tw17743848828576855544 : True := trivial
theorem law_holds.tw5519712902780492092 : True := trivial
theorem law_holds.tw14240529588645430819 : True := trivial
theorem law_holds.tw8986409133149980651 : True := trivial
theorem law_holds.tw2364529382229177485 : True := trivial
theorem law_holds.tw9499144386976204226 : True := trivial
theorem law_holds.tw11127727616513786479 : True := trivial
theorem law_holds.tw3867338133000119004 : True := trivial
theorem law_holds.tw16910225408136493818 : True := trivial
theorem law_holds.tw8601093781760005574 : True := trivial
theorem law_holds.tw16793437280198067255 : True := trivial
theorem law_holds.tw1065256221700964804 : True := trivial
theorem law_holds.tw15881163501256841847 : True := trivial
theorem law_holds.tw12153286535979016095 : True := trivial
theorem law_holds.tw18407480943427019464 : True := trivial
theorem law_holds.tw5956702358145693429 : True := trivial
theorem law_holds.tw8078098542095633299 : True := trivial
theorem law_holds.tw15895094134205807018 : True := trivial
theorem law_holds.tw867779510321032070 : True := trivial
theorem law_holds.tw18384327549701195803 : True := trivial
theorem law_holds.tw2755612675736432445 : True := trivial
theorem law_holds.tw10374891743251126574 : True := trivial
theorem law_holds.tw17447660487919414975 : True := trivial
theorem law_holds.tw7350143862762295837 : True := trivial
theorem law_holds.tw13162124345627687642 : True := trivial
theorem law_holds.tw12795356804953870661 : True := trivial
theorem law_holds.tw6255355762278944792 : True := trivial
theorem law_holds.tw875368616770247726 : True := trivial
theorem law_holds.tw15570536767291135835 : True := trivial
theorem law_holds.tw2662368041415229323 : True := trivial
theorem law_holds.tw11990393439518673553 : True := trivial
theorem law_holds.tw11483791039136299693 : True := trivial
theorem law_holds.tw14616601669499668599 : True := trivial
theorem law_holds.tw6504271079099057023 : True := trivial
theorem law_holds.tw2566872909610506525 : True := trivial
theorem law_holds.tw7025193969390760909 : True := trivial
theorem law_holds.tw17501731281449811571 : True := trivial
theorem law_holds.tw3791582030141447934 : True := trivial
theorem law_holds.tw16138753560188028648 : True := trivial
theorem law_holds.tw6899879212264021891 : True := trivial
theorem law_holds.tw18390866591767547962 : True := trivial
theorem law_holds.tw15462840522398677475 : True := trivial
theorem law_holds.tw3120657799982234471 : True := trivial
theorem law_holds.tw3167628887399188399 : True := trivial
theorem law_holds.tw13231683755507115239 : True := trivial
theorem law_holds.tw18228612990829810899 : True := trivial
theorem law_holds.tw17079878508012946642 : True := trivial
theorem law_holds.tw9940641479376670177 : True := trivial
theorem law_holds.tw15423868532111474941 : True := trivial
theorem law_holds.tw17540871735160221725 : True := trivial
theorem law_holds.tw9016324510730704485 : True := trivial
theorem law_holds.tw6080900303347053135 : True := trivial
theorem law_holds.tw1070212630919007312 : True := trivial
theorem law_holds.tw5350891592658291382 : True := trivial
theorem law_holds.tw7783835868904188157 : True := trivial
theorem law_holds.tw10708713424058275231 : True := trivial
theorem law_holds.tw10382055432747516335 : True := trivial
theorem law_holds.tw520971103945782408 : True := trivial
theorem law_holds.tw11685951026202760703 : True := trivial
theorem law_holds.tw17822122399522969143 : True := trivial
theorem law_holds.tw15400445303360370575 : True := trivial
theorem law_holds.tw6945856983930740137 : True := trivial
theorem law_holds.tw12860203247536734776 : True := trivial
theorem law_holds.tw9634141129442995463 : True := trivial
theorem law_holds.tw7860778419884092937 : True := trivial
theorem law_holds.tw6988577078477436671 : True := trivial
theorem law_holds.tw11685084731887002760 : True := trivial
theorem law_holds.tw9989286112049482358 : True := trivial
theorem law_holds.tw5704996774301711133 : True := trivial
theorem law_holds.tw6187315489447760673 : True := trivial
theorem law_holds.tw3463026964086489918 : True := trivial
theorem law_holds.tw10324580138336532129 : True := trivial
theorem law_holds.tw12770768527854165622 : True := trivial
theorem law_holds.tw1636310125226042154 : True := trivial
theorem law_holds.tw1200901568187906012 : True := trivial
theorem law_holds.tw44206049174736251 : True := trivial
theorem law_holds.tw1553472124754455263 : True := trivial
theorem law_holds.tw4818385527384515416 : True := trivial
theorem law_holds.tw10452177659120864386 : True := trivial
theorem law_holds.tw1054308051387639992 : True := trivial
theorem law_holds.tw5372927521254339128 : True := trivial
theorem law_holds.tw5864402001566753938 : True := trivial
theorem law_holds.tw16511199263043551364 : True := trivial
theorem law_holds.tw18152352013540695329 : True := trivial
theorem law_holds.tw13385765126413584341 : True := trivial
theorem law_holds.tw18044475583914770258 : True := trivial
theorem law_holds.tw3040166494931883658 : True := trivial
theorem law_holds.tw7605922748636049096 : True := trivial
theorem law_holds.tw168331446743890690 : True := trivial
theorem law_holds.tw3113712628159629679 : True := trivial
theorem law_holds.tw9581928266454235112 : True := trivial
theorem law_holds.tw317415998788535820 : True := trivial
theorem law_holds.tw9458233027279466356 : True := trivial
theorem law_holds.tw631372417295160273 : True := trivial
theorem law_holds.tw16329619515288119155 : True := trivial
theorem law_holds.tw11063170267310431657 : True := trivial
theorem law_holds.tw10651194897669926198 : True := trivial
theorem law_holds.tw17991026833877904403 : True := trivial
theorem law_holds.tw13974267005698060236 : True := trivial
theorem law_holds.tw7823103043908483116 : True := trivial
theorem law_holds.tw14755896272565194898 : True := trivial
theorem law_holds.tw11365331541526246224 : True := trivial
theorem law_holds.tw7861857256899762008 : True := trivial
theorem law_holds.tw2526459214513315831 : True := trivial
theorem law_holds.tw6518736385944566474 : True := trivial
theorem law_holds.tw9855516281696808899 : True := trivial
theorem law_holds.tw12244861350278252736 : True := trivial
theorem law_holds.tw16893325120008707626 : True := trivial
theorem law_holds.tw5905532559049010413 : True := trivial
theorem law_holds.tw9569512013647553644 : True := trivial
theorem law_holds.tw1095451891621259079 : True := trivial
theorem law_holds.tw18278755819647968275 : True := trivial
theorem law_holds.tw6283163560296802721 : True := trivial
theorem law_holds.tw14637281175451629394 : True := trivial
theorem law_holds.tw2394631901836127862 : True := trivial
theorem law_holds.tw10304344617638817304 : True := trivial
theorem law_holds.tw11248981835998115951 : True := trivial
theorem law_holds.tw6452438560572908188 : True := trivial
theorem law_holds.tw12072711333378101214 : True := trivial
theorem law_holds.tw6277948436061672080 : True := trivial
theorem law_holds.tw10417062048137009323 : True := trivial
theorem law_holds.tw13741848219339776556 : True := trivial
theorem law_holds.tw835143567117300226 : True := trivial
theorem law_holds.tw13637900387267980133 : True := trivial
theorem law_holds.tw10051897623844462282 : True := trivial
theorem law_holds.tw6363032176511461238 : True := trivial
theorem law_holds.tw10201034947200381920 : True := trivial
theorem law_holds.tw15082727850650179663 : True := trivial
theorem law_holds.tw16201118805164642612 : True := trivial
theorem law_holds.tw16308229550510685106 : True := trivial
theorem law_holds.tw5871503254253491208 : True := trivial
theorem law_holds.tw14814193633921046208 : True := trivial
theorem law_holds.tw12859025131795646135 : True := trivial
theorem law_holds.tw10597602270989680656 : True := trivial
theorem law_holds.tw9059719222110073039 : True := trivial
theorem law_holds.tw90499236587206401 : True := trivial
theorem law_holds.tw6580974647426308935 : True := trivial
theorem law_holds.tw17391813821323818845 : True := trivial
theorem law_holds.tw4238884254942614603 : True := trivial
theorem law_holds.tw4148268852970124625 : True := trivial
theorem law_holds.tw7609660682994040930 : True := trivial
theorem law_holds.tw10512022769524500160 : True := trivial
theorem law_holds.tw3826548514274534550 : True := trivial
theorem law_holds.tw1389214616157752731 : True := trivial
theorem law_holds.tw18280006186529009671 : True := trivial
theorem law_holds.tw16700770507763299242 : True := trivial
theorem law_holds.tw13557872316149928763 : True := trivial
theorem law_holds.tw8647475416926086866 : True := trivial
theorem law_holds.tw17923797575122914388 : True := trivial
theorem law_holds.tw8329778656739746501 : True := trivial
theorem law_holds.tw17628372863355790394 : True := trivial
theorem law_holds.tw14613587529354050817 : True := trivial
theorem law_holds.tw10984456093259446925 : True := trivial
theorem law_holds.tw11509773600911507112 : True := trivial
theorem law_holds.tw3685521841040855505 : True := trivial
theorem law_holds.tw1078556947465250173 : True := trivial
theorem law_holds.tw1581122394098745221 : True := trivial
theorem law_holds.tw6633492953412178220 : True := trivial
theorem law_holds.tw871475741244235886 : True := trivial
theorem law_holds.tw14848961858603992637 : True := trivial
theorem law_holds.tw7403957014055152153 : True := trivial
theorem law_holds.tw8392368462068370823 : True := trivial
theorem law_holds.tw13902330992152366701 : True := trivial
theorem law_holds.tw16544598930359518483 : True := trivial
theorem law_holds.tw2242147597355835265 : True := trivial
theorem law_holds.tw10385092549370637748 : True := trivial
theorem law_holds.tw11410243661797779714 : True := trivial
theorem law_holds.tw14364560385624121059 : True := trivial
theorem law_holds.tw8798913165793809942 : True := trivial
theorem law_holds.tw11589757552845563768 : True := trivial
theorem law_holds.tw7674456154402874944 : True := trivial
theorem law_holds.tw11487397044040219259 : True := trivial
theorem law_holds.tw17044371841007330578 : True := trivial
theorem law_holds.tw13212097770552159899 : True := trivial
theorem law_holds.tw5891776805106749591 : True := trivial
theorem law_holds.tw2434150026685893511 : True := trivial
theorem law_holds.tw13319693719853781285 : True := trivial
theorem law_holds.tw10050789872394111600 : True := trivial
theorem law_holds.tw6371471338443791644 : True := trivial
theorem law_holds.tw15465495856142940192 : True := trivial
theorem law_holds.tw13908299555810600103 : True := trivial
theorem law_holds.tw6822859602820451590 : True := trivial
theorem law_holds.tw5929407864897736050 : True := trivial
theorem law_holds.tw8174956818320181264 : True := trivial
theorem law_holds.tw15203554481445818521 : True := trivial
theorem law_holds.tw15365850345326858263 : True := trivial
theorem law_holds.tw1634046268481266249 : True := trivial
theorem law_holds.tw14462323260389942776 : True := trivial
theorem law_holds.tw10419682839626791021 : True := trivial
theorem law_holds.tw7391336858590399705 : True := trivial
theorem law_holds.tw15556359615753326908 : True := trivial
theorem law_holds.tw11651189692687203251 : True := trivial
theorem law_holds.tw14106545651287408189 : True := trivial
theorem law_holds.tw14600327893971367011 : True := trivial
theorem law_holds.tw14315609700975002719 : True := trivial
theorem law_holds.tw15318665210236308419 : True := trivial
theorem law_holds.tw2809437138531152974 : True := trivial
theorem law_holds.tw5594912048615553658 : True := trivial
theorem law_holds.tw4480883362607237227 : True := trivial
theorem law_holds.tw13623794900848573993 : True := trivial
theorem law_holds.tw8051116502469556471 : True := trivial
theorem law_holds.tw14092654617537219290 : True := trivial
theorem law_holds.tw6577727612092349748 : True := trivial
theorem law_holds.tw8203127464733105854 : True := trivial
theorem law_holds.tw11219130762897334358 : True := trivial
theorem law_holds.tw16186984096386110612 : True := trivial
theorem law_holds.tw14936934486865418638 : True := trivial
theorem law_holds.tw10566363101170820004 : True := trivial
theorem law_holds.tw4161387502278975 : True := trivial
theorem law_holds.tw3803684162447960786 : True := trivial
theorem law_holds.tw17593379764674453558 : True := trivial
theorem law_holds.tw5434870005856286709 : True := trivial
theorem law_holds.tw16399872177787669049 : True := trivial
theorem law_holds.tw14289640213769987202 : True := trivial
theorem law_holds.tw9857491878265563675 : True := trivial
theorem law_holds.tw6853112092734632963 : True := trivial
theorem law_holds.tw1695100332081892271 : True := trivial
theorem law_holds.tw17086037141868778456 : True := trivial
theorem law_holds.tw3963580225815205243 : True := trivial
theorem law_holds.tw12313324823518445927 : True := trivial
theorem law_holds.tw6539393616315886788 : True := trivial
theorem law_holds.tw5270344261583973265 : True := trivial
theorem law_holds.tw2171568282910486998 : True := trivial
theorem law_holds.tw15299463366728216041 : True := trivial
theorem law_holds.tw10618928437980497632 : True := trivial
theorem law_holds.tw6237904244101485005 : True := trivial
theorem law_holds.tw5723316757774566405 : True := trivial
theorem law_holds.tw5162020448977126748 : True := trivial
theorem law_holds.tw2770531283627593777 : True := trivial
theorem law_holds.tw14434921438252259582 : True := trivial
theorem law_holds.tw16433594719468988592 : True := trivial
theorem law_holds.tw11992856380430976798 : True := trivial
theorem law_holds.tw13197811472472276934 : True := trivial
theorem law_holds.tw14204435641223338633 : True := trivial
theorem law_holds.tw16796807791892055000 : True := trivial
theorem law_holds.tw12020423783226377936 : True := trivial
theorem law_holds.tw2766695044065827989 : True := trivial
theorem law_holds.tw13942110108836327869 : True := trivial
theorem law_holds.tw16722213931931678590 : True := trivial
theorem law_holds.tw7264945551104571864 : True := trivial
theorem law_holds.tw6438795957444574848 : True := trivial
theorem law_holds.tw16937426553439503082 : True := trivial
theorem law_holds.tw15869353196256723226 : True := trivial
theorem law_holds.tw4527929976963078271 : True := trivial
theorem law_holds.tw1982017039983901435 : True := trivial
theorem law_holds.tw14037438631325682928 : True := trivial
theorem law_holds.tw15602888336188219348 : True := trivial
theorem law_holds.tw11965320999784497008 : True := trivial
theorem law_holds.tw3652367543583325015 : True := trivial
theorem law_holds.tw2181828234591008850 : True := trivial
theorem law_holds.tw14812487000052526536 : True := trivial
theorem law_holds.tw7351550821379036278 : True := trivial
theorem law_holds.tw8025112323456599039 : True := trivial
theorem law_holds.tw17786894789464310921 : True := trivial
theorem law_holds.tw2191706409331304868 : True := trivial
theorem law_holds.tw7576580995081036620 : True := trivial
theorem law_holds.tw16273813195469497150 : True := trivial
theorem law_holds.tw6633003376928903989 : True := trivial
theorem law_holds.tw15280410067903241719 : True := trivial
theorem law_holds.tw7472252012619779168 : True := trivial
theorem law_holds.tw18173796935476344362 : True := trivial
theorem law_holds.tw11488892160244722781 : True := trivial
theorem law_holds.tw2769642676895675199 : True := trivial
theorem law_holds.tw2505446755350113061 : True := trivial
theorem law_holds.tw12527596042845594759 : True := trivial
theorem law_holds.tw40164362813584227 : True := trivial
theorem law_holds.tw13384422211727549494 : True := trivial
theorem law_holds.tw6522323132966656557 : True := trivial
theorem law_holds.tw17599619901339769353 : True := trivial
theorem law_holds.tw2961528721495229081 : True := trivial
theorem law_holds.tw7382385018326767887 : True := trivial
theorem law_holds.tw17986678179632622162 : True := trivial
theorem law_holds.tw1595297719885843470 : True := trivial
theorem law_holds.tw12569422499698184209 : True := trivial
theorem law_holds.tw16767167789887176111 : True := trivial
theorem law_holds.tw17010720491416967282 : True := trivial
theorem law_holds.tw13163345074200399760 : True := trivial
theorem law_holds.tw15674158694313023567 : True := trivial
theorem law_holds.tw9530855704893304786 : True := trivial
theorem law_holds.tw11341455089076761962 : True := trivial
theorem law_holds.tw12905358324464371632 : True := trivial
theorem law_holds.tw6463682230433413586 : True := trivial
theorem law_holds.tw2020912729481798166 : True := trivial
theorem law_holds.tw8624067955124289168 : True := trivial
theorem law_holds.tw870107155600684624 : True := trivial
theorem law_holds.tw4375756702509120487 : True := trivial
theorem law_holds.tw2299528223626411444 : True := trivial
theorem law_holds.tw1522942112800325645 : True := trivial
theorem law_holds.tw8018567169181020234 : True := trivial
theorem law_holds.tw6450785867181479579 : True := trivial
theorem law_holds.tw9482613827319593932 : True := trivial
theorem law_holds.tw3456724191337795668 : True := trivial
theorem law_holds.tw9610078485912753997 : True := trivial
theorem law_holds.tw2627269011665242472 : True := trivial
theorem law_holds.tw1828901798713104302 : True := trivial
theorem law_holds.tw9984543437147568509 : True := trivial
theorem law_holds.tw8652479714143249962 : True := trivial
theorem law_holds.tw9979310554258366692 : True := trivial
theorem law_holds.tw1552757693790532541 : True := trivial
theorem law_holds.tw10820421484134246948 : True := trivial
theorem law_holds.tw8806853574001990772 : True := trivial
theorem law_holds.tw14471345508945106288 : True := trivial
theorem law_holds.tw16517460477662311850 : True := trivial
theorem law_holds.tw6210644992800332117 : True := trivial
theorem law_holds.tw15624944008207963141 : True := trivial
theorem law_holds.tw11202989327709783388 : True := trivial
theorem law_holds.tw6066253174985497371 : True := trivial
theorem law_holds.tw17049793118592194499 : True := trivial
theorem law_holds.tw3120428825397828879 : True := trivial
theorem law_holds.tw10893522402447805726 : True := trivial
theorem law_holds.tw15599335938415471813 : True := trivial
theorem law_holds.tw3021649244891208873 : True := trivial
theorem law_holds.tw12073934774413400362 : True := trivial
theorem law_holds.tw13504202450498712552 : True := trivial
theorem law_holds.tw772991902640357631 : True := trivial
theorem law_holds.tw1835585800178552087 : True := trivial
theorem law_holds.tw9582662973132428293 : True := trivial
theorem law_holds.tw14309211559304285166 : True := trivial
theorem law_holds.tw7940138981083682446 : True := trivial
theorem law_holds.tw17633038336133432370 : True := trivial
theorem law_holds.tw3367974863944435051 : True := trivial
theorem law_holds.tw8090717122836466027 : True := trivial
theorem law_holds.tw17763064951380992869 : True := trivial
theorem law_holds.tw13550837075096943502 : True := trivial
theorem law_holds.tw8000020659774866632 : True := trivial
theorem law_holds.tw7718675492191621736 : True := trivial
theorem law_holds.tw6383933064865806640 : True := trivial
theorem law_holds.tw2565322800864773748 : True := trivial
theorem law_holds.tw3952771760430467438 : True := trivial
theorem law_holds.tw16884264047671011986 : True := trivial
theorem law_holds.tw15317339090443986452 : True := trivial
theorem law_holds.tw7568592473750564093 : True := trivial
theorem law_holds.tw4717566710559055268 : True := trivial
theorem law_holds.tw11585018143415011572 : True := trivial
theorem law_holds.tw18382498138066404990 : True := trivial
theorem law_holds.tw2367725018386460003 : True := trivial
theorem law_holds.tw7755016502613206619 : True := trivial
theorem law_holds.tw13471763082874313366 : True := trivial
set_option Elab.async true in
theorem law_holds : PySem.Challenge.rw_pf0200_01.Holds := by
  w_on
  o_law
  o_head (kHook Pf.ob.heap_1 Pf.obAt (fun _ => by kernel_rfl))
  case hw => w_witness2
  k_go0
  rename_i w s₀ s₁ mg mb G Y fa o pm doc ho hg KX MX V GL T B TE TW bm1 bm2 M cd1 cd2 hcd ns hs hlay0 hLay hr1 hl2 as1 as2 sc vs as3 hL ra w1 r0 hI hr hc1 hc2 K0 hD h₁ tk₁ F oc hoc N0 X0
  have TT : TopE s₁.heap := ⟨_, _, _, _, _, T⟩
  have hSc : Script s₁.heap sc ns := ⟨vs, hL, hI⟩
  have hsz : ns.length ≤ 63 := by lia
  refine law_go (sc := sc) F (fun x hx => ?lm) ?lc (N0 _ (.head _)).1 hoc ?lk KX TT ?lkd ?lq ?_
  case lc => exact rfl
  case lk => exact rfl
  case lkd => exact rfl
  case lm =>
    refine (bindL_eq hx _ _).trans ?_
    show (([(("script" : Str), Value.ref sc)] : List (Str × Value)).reverse.lookup x).or none = _
    simp
  case lq =>
    intro fl s' h
    obtain ⟨rfl, h1, h2, h3⟩ := h
    refine law_good h1 h2 h3 hg ?_ ?_
    · intro _; rfl
    · wrow_post
  clear G Y ho MX V GL T B TE TW M hcd hs hlay0 hLay hr1 hl2 as1 as2 hL ra w1 r0 hI hr hc1 hc2 K0 hD F hoc N0 X0
  have T := TT
  clear TT
  intro A hd hu Z U
  have X := KX
  have S : Step [] nilH nilH := Step.refl _ _
  clear KX
  (try k_fold)
  dsimp only at Z U
  walk_at "pf go"
  refine' At.call (map_make w nilH 5 (-4) 1 1 _ _ _ _ (by lia) (by lia) (by lia) (by lia)) ?hz ?hS ?hs ?hU ?hd ?hu ?_
  walk_at "pf sides"
  rintro v h' tk' r1 Z1 S1 L1 fx1 ⟨x, rs, rfl, Am, hrs⟩
  (try dsimp only)
  have hrn : ∀ a ∈ rs, a ∈ ([] : List Addr) ∨ nilH.get? a = none := fun a _ => .inr (get_nil a)
  obtain ⟨f0, D0, q1, q2, q3, q4, kf0, nf0, I0, _⟩ := id Am.2.1
  have I1 := I0.up kf0
  clear Z
  walk_at "pf go"
  refine' At.call (put_spec w r1 x rs 5 (-4) 1 1 (fun _ _ ↦ 0) 5 (-4) 60 _ _ _ Am (by unfold inb; lia) (by lia) (by lia)) ?hz ?hS ?hs ?hU ?hd ?hu ?_
  walk_at "pf sides"
  rintro v h' tk' r2 Z2 S2 L2 fx2 Am2
  (try dsimp only)
  clear Z1
  walk_at "pf go"
  rename_i aL hL rL ZL RL SL sL fL fL'
  have AmL := Am2.up sL
  generalize hF : updF (fun _ _ => (0 : Int)) 5 (-4) 60 = F at *
  have yL : Lay w rL x (fun a b => if inb 5 (-4) 1 1 a b then F a b else 0) := by
    refine ⟨fun a b => ?_, .inr ⟨rs, 5, -4, 1, 1, F, AmL, fun _ _ => rfl⟩⟩
    subst hF
    show 0 ≤ (if inb 5 (-4) 1 1 a b then updF (fun _ _ => (0 : Int)) 5 (-4) 60 a b else 0) ∧ (if inb 5 (-4) 1 1 a b then updF (fun _ _ => (0 : Int)) 5 (-4) 60 a b else 0) ≤ 255
    unfold updF
    (repeat' split) <;> lia
  generalize hf0 : (fun a b => if inb 5 (-4) 1 1 a b then F a b else (0 : Int)) = f9 at *
  have hval : ∀ p : Int, (p = 4 ∨ p = 5 ∨ p = 6) → (if inb 4 (-5) 3 3 p (-4) then clf [f9] p (-4) else 0) = if p = 5 then 60 else 0 := fun p hp => by
    rw [if_pos (by unfold inb; lia), clf_one, ← hf0, ← hF]
    unfold updF
    rcases hp with rfl | rfl | rfl <;> decide
  refine' comp_list (RL.up (At.own ZL)) (by simp [sizeLine_eq]) ZL (fun i r' ys => Step [] nilH r' ∧ rL.StaysIn r' ∧ IntsAre ys (([0, 60, 0] : List Int).take i)) (fun i r' ys h o e => h.2.1 _ _ e) ⟨SL, fun _ _ e => e, .nil⟩ ?turn ?done
  case turn =>
    rintro i v r₁ ys h tk gB C mC hv ⟨S₁, k₁, I₁⟩ hg Z₁ hcl U₁
    obtain ⟨p, tp, rfl, hp, hpv⟩ : ∃ p tp, v = .int p tp ∧ (p = 4 ∨ p = 5 ∨ p = 6) ∧ ([0, 60, 0] : List Int)[i]? = some (if p = 5 then 60 else 0) := by
      rcases i with _ | _ | _ | i
      · simp at hv; exact ⟨4, _, hv.symm, .inl rfl, rfl⟩
      · simp at hv; exact ⟨5, _, hv.symm, .inr (.inl rfl), rfl⟩
      · simp at hv; exact ⟨6, _, hv.symm, .inr (.inr rfl), rfl⟩
      · simp at hv
    have el : mC "lone" = some (.ref x) := (hcl "lone" _ rfl).trans (by walk_at "pf nm")
    have X₁ := X.keeps hg
    have T₁ := T.keeps hg
    have y₁ := yL.up k₁
    clear X T U ZL Z2
    walk_at "pf go"
    rename_i hx1 Zx1 aK hK rK ZK RK SK sK fK fK'
    have yK := y₁.up sK
    clear Z₁ Zx1
    refine' At.call (clip_make w rK aK [x] RK (by simp)) ?hz ?hS ?hs ?hU ?hd ?hu ?_
    walk_at "pf sides"
    rintro v h' tk' r3 Z3 S3 L3 fx3 ⟨c, rfl, Cc⟩
    (try dsimp only)
    have yC := yK.up (Step.nil L3)
    clear ZK
    walk_at "pf go"
    refine' At.call (flat_spec w r3 (.ref c) [f9] 4 (-5) 3 3 _ _ _ _ (.inr ⟨c, [x], rfl, Cc, lays_one yC⟩) (by lia) (by lia) (by lia) (by lia) (by lia) (by lia) (by lia) (by lia)) ?hz ?hS ?hs ?hU ?hd ?hu ?_
    walk_at "pf sides"
    rintro v h' tk' r4 Z4 S4 L4 fx4 ⟨xf, rfl, Lf⟩
    (try dsimp only)
    have k4 : rL.StaysIn r4 := StaysIn.trans k₁ (StaysIn.trans sK (StaysIn.trans (Step.nil L3) (Step.nil L4)))
    generalize hff : (fun a b => if inb 4 (-5) 3 3 a b then clf [f9] a b else 0) = ff at Lf
    have hv9 : ff p (-4) = if p = 5 then 60 else 0 := by rw [← hff]; exact hval p hp
    clear Z3
    walk_at "pf go"
    refine' lay_meth ?gx ?gk (Lf) ?_
    case gx => walk_at "pf K"
    case gk => exact At.own (by assumption)
    intro fn hfn Cf
    (try dsimp only)
    walk_at "pf go"
    refine' At.call (Cf p (-4) _ _) ?hz ?hS ?hs ?hU ?hd ?hu ?_
    walk_at "pf sides"
    rintro v h' tk' r' Z' S' L' fr ⟨t2, rfl⟩
    (try dsimp only)
    rw [hv9]
    exact ElemEnd.mk Z' ⟨S', StaysIn.trans k4 (Step.nil L'), by rw [take_snoc hpv]; exact ints_snoc I₁⟩
  case done =>
    rintro D kD ys r₁ h tk ⟨S₁, k₁, I₁⟩ hlen hD hrD Z₁
    dsimp only [useM] at Z₁
    have S₄ : Step [] nilH (put r₁ D (listO ys kD)) := S₁.then (bs := []) (step_new hrD) (fun a ha => nomatch ha)
    have hD₄ := isL_put r₁ D ys kD
    clear ZL Z2
    generalize put r₁ D (listO ys kD) = r₄ at *
    walk_at "pf go"
    rename_i aN hN rN ZN RN SN sN fN fN'
    refine' ne_ints0 ((hD₄.up sN).up (At.own ZN)) (RN.up (At.own ZN)) ?hu8 I₁ (.cons _ _ (.cons _ _ (.cons _ _ .nil))) ?e8 ?_
    case hu8 => ((try dsimp only); lia)
    case e8 => rfl
    (try dsimp only)
    clear Z₁
    walk_at "pf go"
    refine' At.callP (source_p w rN sc ns) (fun _ _ k ⟨vs, R, I⟩ => ⟨vs, R.up k, I⟩) ZN SN (fun _ q => (List.not_mem_nil q).elim) U hSc (by lia) (by lia) ?_
    rintro v h' tk' r5 Z5 S5 L5 fx5 ⟨src, rfl, sn, H5⟩
    (try dsimp only)
    have hsr : ∀ a ∈ [src], a ∈ ([] : List Addr) ∨ nilH.get? a = none := fun a _ => .inr (get_nil a)
    clear ZN
    walk_at "pf go"
    refine' At.call (law_layers w r5 src H5) ?hz ?hS ?hs ?hU ?hd ?hu ?_
    walk_at "pf sides"
    rintro v h' tk' r6 Z6 S6 L6 fx6 ⟨tp, ll, tl, x0, x1, d0, d1, G0, G1, f, rfl, kf, fs, H6, iT, LO⟩
    (try dsimp only)
    have iT6 := iT.up kf
    clear Z5
    walk_at "pf go"
    refine' At.call (law_clips w r6 src ll tl x0 x1 d0 d1 G0 G1 f kf fs H6 LO) ?hz ?hS ?hs ?hU ?hd ?hu ?_
    walk_at "pf sides"
    rintro v h' tk' r7 Z7 S7 L7 fx7 ⟨rfl, H7⟩
    (try dsimp only)
    clear Z6
    walk_at "pf go"
    refine callF_at (law_groups w r7 src ll tl x0 x1 d0 d1 G0 G1 f (Step.fz L7 kf (fun a ha => by rw [List.mem_singleton.mp ha]; exact fs)) fs H7 LO) (by assumption) U (by lia) (by lia) fun v h' tk' hb ev => ?_
    subst ev
    (try dsimp only)
    walk_at "pf go"
    exact ⟨rfl, hb, rfl, rfl⟩
end Pf
end
open PySem PySem.W PyProof.Rows
theorem PySem.Challenge.cw_pf0200_01_holds : PySem.Challenge.rw_pf0200_01.Holds :=
  Pf.law_holds
