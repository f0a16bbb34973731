import PyProof.Rows.All
import Wide.All
import OpenK.AllK
import Wide.FinOn
import PySem.Challenge.RW_qz0031_04
set_option Elab.async false
set_option linter.all false
set_option maxRecDepth 100000
set_option maxHeartbeats 8000000
set_option compiler.extract_closed false
set_option tactic.hygienic true
namespace Mine.Internal
open PySem PySem.W
theorem sdA : namesResolve PySem.Challenge.rw_qz0031_04.row.prog = true := by kernel_rfl
theorem sdB : noRoadLSs { strict := !(importedModules PySem.Challenge.rw_qz0031_04.row.prog.main.body).all cThrough.contains, foot := none, bare := (["vars", "dir", "locals"] : List Str).filter (readsOut PySem.Challenge.rw_qz0031_04.row.prog PySem.Challenge.rw_qz0031_04.row.prog.main.body) } PySem.Challenge.rw_qz0031_04.row.prog.main.body = true := by kernel_rfl
theorem sdC : namesMeet PySem.Challenge.rw_qz0031_04.row.prog PySem.Challenge.rw_qz0031_04.row.prog.main.body (fun _ n => attrL n) = true := by kernel_rfl
theorem said04 : PySem.Challenge.rw_qz0031_04.wellSaid = true := by
 unfold OpenLaw.wellSaid OpenRow.wellSaid OpenRow.partSaid looksOpen
 rewrite [sdA, sdB, sdC]
 kernel_rfl
end Mine.Internal
namespace Mine.Internal
open PySem PySem.W PyProof.Rows
@[irreducible] noncomputable def epsV {α : Type} [ne : Nonempty α] (_ : Nat) (S : α → Prop) : α := @Classical.epsilon α ne fun p => ¬ S p
theorem epsV_elim {α : Type} [ne : Nonempty α] (n : Nat) {S : α → Prop} (h : S (epsV n S)) : ∀ p, S p := fun p => Classical.byContradiction fun hn => by
 unfold epsV at h
 exact @Classical.epsilon_spec α (fun p => ¬ S p) ⟨p, hn⟩ h
theorem epsX1 {α0 : Type} [Nonempty (α0)] {S : α0 → Prop} (n : Nat) (a0 : α0) (e : a0 = epsV n fun p => S p) (h : S a0) : ∀ a0, S a0 :=
 fun b0 => epsV_elim (S := fun p => S p) n (@Eq.rec _ a0 (fun p _ => S p) h _ e) b0
theorem epsX2 {α0 α1 : Type} [Nonempty (α0 × α1)] {S : α0 → α1 → Prop} (n : Nat) (a0 : α0) (a1 : α1) (e : (a0, a1) = epsV n fun p => S p.1 p.2) (h : S a0 a1) : ∀ a0 a1, S a0 a1 :=
 fun b0 b1 => epsV_elim (S := fun p => S p.1 p.2) n (@Eq.rec _ (a0, a1) (fun p _ => S p.1 p.2) h _ e) (b0, b1)
theorem epsX3 {α0 α1 α2 : Type} [Nonempty (α0 × α1 × α2)] {S : α0 → α1 → α2 → Prop} (n : Nat) (a0 : α0) (a1 : α1) (a2 : α2) (e : (a0, a1, a2) = epsV n fun p => S p.1 p.2.1 p.2.2) (h : S a0 a1 a2) : ∀ a0 a1 a2, S a0 a1 a2 :=
 fun b0 b1 b2 => epsV_elim (S := fun p => S p.1 p.2.1 p.2.2) n (@Eq.rec _ (a0, a1, a2) (fun p _ => S p.1 p.2.1 p.2.2) h _ e) (b0, b1, b2)
theorem epsX4 {α0 α1 α2 α3 : Type} [Nonempty (α0 × α1 × α2 × α3)] {S : α0 → α1 → α2 → α3 → Prop} (n : Nat) (a0 : α0) (a1 : α1) (a2 : α2) (a3 : α3) (e : (a0, a1, a2, a3) = epsV n fun p => S p.1 p.2.1 p.2.2.1 p.2.2.2) (h : S a0 a1 a2 a3) : ∀ a0 a1 a2 a3, S a0 a1 a2 a3 :=
 fun b0 b1 b2 b3 => epsV_elim (S := fun p => S p.1 p.2.1 p.2.2.1 p.2.2.2) n (@Eq.rec _ (a0, a1, a2, a3) (fun p _ => S p.1 p.2.1 p.2.2.1 p.2.2.2) h _ e) (b0, b1, b2, b3)
theorem epsX5 {α0 α1 α2 α3 α4 : Type} [Nonempty (α0 × α1 × α2 × α3 × α4)] {S : α0 → α1 → α2 → α3 → α4 → Prop} (n : Nat) (a0 : α0) (a1 : α1) (a2 : α2) (a3 : α3) (a4 : α4) (e : (a0, a1, a2, a3, a4) = epsV n fun p => S p.1 p.2.1 p.2.2.1 p.2.2.2.1 p.2.2.2.2) (h : S a0 a1 a2 a3 a4) : ∀ a0 a1 a2 a3 a4, S a0 a1 a2 a3 a4 :=
 fun b0 b1 b2 b3 b4 => epsV_elim (S := fun p => S p.1 p.2.1 p.2.2.1 p.2.2.2.1 p.2.2.2.2) n (@Eq.rec _ (a0, a1, a2, a3, a4) (fun p _ => S p.1 p.2.1 p.2.2.1 p.2.2.2.1 p.2.2.2.2) h _ e) (b0, b1, b2, b3, b4)
theorem epsX6 {α0 α1 α2 α3 α4 α5 : Type} [Nonempty (α0 × α1 × α2 × α3 × α4 × α5)] {S : α0 → α1 → α2 → α3 → α4 → α5 → Prop} (n : Nat) (a0 : α0) (a1 : α1) (a2 : α2) (a3 : α3) (a4 : α4) (a5 : α5) (e : (a0, a1, a2, a3, a4, a5) = epsV n fun p => S p.1 p.2.1 p.2.2.1 p.2.2.2.1 p.2.2.2.2.1 p.2.2.2.2.2) (h : S a0 a1 a2 a3 a4 a5) : ∀ a0 a1 a2 a3 a4 a5, S a0 a1 a2 a3 a4 a5 :=
 fun b0 b1 b2 b3 b4 b5 => epsV_elim (S := fun p => S p.1 p.2.1 p.2.2.1 p.2.2.2.1 p.2.2.2.2.1 p.2.2.2.2.2) n (@Eq.rec _ (a0, a1, a2, a3, a4, a5) (fun p _ => S p.1 p.2.1 p.2.2.1 p.2.2.2.1 p.2.2.2.2.1 p.2.2.2.2.2) h _ e) (b0, b1, b2, b3, b4, b5)
theorem epsX7 {α0 α1 α2 α3 α4 α5 α6 : Type} [Nonempty (α0 × α1 × α2 × α3 × α4 × α5 × α6)] {S : α0 → α1 → α2 → α3 → α4 → α5 → α6 → Prop} (n : Nat) (a0 : α0) (a1 : α1) (a2 : α2) (a3 : α3) (a4 : α4) (a5 : α5) (a6 : α6) (e : (a0, a1, a2, a3, a4, a5, a6) = epsV n fun p => S p.1 p.2.1 p.2.2.1 p.2.2.2.1 p.2.2.2.2.1 p.2.2.2.2.2.1 p.2.2.2.2.2.2) (h : S a0 a1 a2 a3 a4 a5 a6) : ∀ a0 a1 a2 a3 a4 a5 a6, S a0 a1 a2 a3 a4 a5 a6 :=
 fun b0 b1 b2 b3 b4 b5 b6 => epsV_elim (S := fun p => S p.1 p.2.1 p.2.2.1 p.2.2.2.1 p.2.2.2.2.1 p.2.2.2.2.2.1 p.2.2.2.2.2.2) n (@Eq.rec _ (a0, a1, a2, a3, a4, a5, a6) (fun p _ => S p.1 p.2.1 p.2.2.1 p.2.2.2.1 p.2.2.2.2.1 p.2.2.2.2.2.1 p.2.2.2.2.2.2) h _ e) (b0, b1, b2, b3, b4, b5, b6)
theorem epsX8 {α0 α1 α2 α3 α4 α5 α6 α7 : Type} [Nonempty (α0 × α1 × α2 × α3 × α4 × α5 × α6 × α7)] {S : α0 → α1 → α2 → α3 → α4 → α5 → α6 → α7 → Prop} (n : Nat) (a0 : α0) (a1 : α1) (a2 : α2) (a3 : α3) (a4 : α4) (a5 : α5) (a6 : α6) (a7 : α7) (e : (a0, a1, a2, a3, a4, a5, a6, a7) = epsV n fun p => S p.1 p.2.1 p.2.2.1 p.2.2.2.1 p.2.2.2.2.1 p.2.2.2.2.2.1 p.2.2.2.2.2.2.1 p.2.2.2.2.2.2.2) (h : S a0 a1 a2 a3 a4 a5 a6 a7) : ∀ a0 a1 a2 a3 a4 a5 a6 a7, S a0 a1 a2 a3 a4 a5 a6 a7 :=
 fun b0 b1 b2 b3 b4 b5 b6 b7 => epsV_elim (S := fun p => S p.1 p.2.1 p.2.2.1 p.2.2.2.1 p.2.2.2.2.1 p.2.2.2.2.2.1 p.2.2.2.2.2.2.1 p.2.2.2.2.2.2.2) n (@Eq.rec _ (a0, a1, a2, a3, a4, a5, a6, a7) (fun p _ => S p.1 p.2.1 p.2.2.1 p.2.2.2.1 p.2.2.2.2.1 p.2.2.2.2.2.1 p.2.2.2.2.2.2.1 p.2.2.2.2.2.2.2) h _ e) (b0, b1, b2, b3, b4, b5, b6, b7)
theorem epsX9 {α0 α1 α2 α3 α4 α5 α6 α7 α8 : Type} [Nonempty (α0 × α1 × α2 × α3 × α4 × α5 × α6 × α7 × α8)] {S : α0 → α1 → α2 → α3 → α4 → α5 → α6 → α7 → α8 → Prop} (n : Nat) (a0 : α0) (a1 : α1) (a2 : α2) (a3 : α3) (a4 : α4) (a5 : α5) (a6 : α6) (a7 : α7) (a8 : α8) (e : (a0, a1, a2, a3, a4, a5, a6, a7, a8) = epsV n fun p => S p.1 p.2.1 p.2.2.1 p.2.2.2.1 p.2.2.2.2.1 p.2.2.2.2.2.1 p.2.2.2.2.2.2.1 p.2.2.2.2.2.2.2.1 p.2.2.2.2.2.2.2.2) (h : S a0 a1 a2 a3 a4 a5 a6 a7 a8) : ∀ a0 a1 a2 a3 a4 a5 a6 a7 a8, S a0 a1 a2 a3 a4 a5 a6 a7 a8 :=
 fun b0 b1 b2 b3 b4 b5 b6 b7 b8 => epsV_elim (S := fun p => S p.1 p.2.1 p.2.2.1 p.2.2.2.1 p.2.2.2.2.1 p.2.2.2.2.2.1 p.2.2.2.2.2.2.1 p.2.2.2.2.2.2.2.1 p.2.2.2.2.2.2.2.2) n (@Eq.rec _ (a0, a1, a2, a3, a4, a5, a6, a7, a8) (fun p _ => S p.1 p.2.1 p.2.2.1 p.2.2.2.1 p.2.2.2.2.1 p.2.2.2.2.2.1 p.2.2.2.2.2.2.1 p.2.2.2.2.2.2.2.1 p.2.2.2.2.2.2.2.2) h _ e) (b0, b1, b2, b3, b4, b5, b6, b7, b8)
theorem epsX10 {α0 α1 α2 α3 α4 α5 α6 α7 α8 α9 : Type} [Nonempty (α0 × α1 × α2 × α3 × α4 × α5 × α6 × α7 × α8 × α9)] {S : α0 → α1 → α2 → α3 → α4 → α5 → α6 → α7 → α8 → α9 → Prop} (n : Nat) (a0 : α0) (a1 : α1) (a2 : α2) (a3 : α3) (a4 : α4) (a5 : α5) (a6 : α6) (a7 : α7) (a8 : α8) (a9 : α9) (e : (a0, a1, a2, a3, a4, a5, a6, a7, a8, a9) = epsV n fun p => S p.1 p.2.1 p.2.2.1 p.2.2.2.1 p.2.2.2.2.1 p.2.2.2.2.2.1 p.2.2.2.2.2.2.1 p.2.2.2.2.2.2.2.1 p.2.2.2.2.2.2.2.2.1 p.2.2.2.2.2.2.2.2.2) (h : S a0 a1 a2 a3 a4 a5 a6 a7 a8 a9) : ∀ a0 a1 a2 a3 a4 a5 a6 a7 a8 a9, S a0 a1 a2 a3 a4 a5 a6 a7 a8 a9 :=
 fun b0 b1 b2 b3 b4 b5 b6 b7 b8 b9 => epsV_elim (S := fun p => S p.1 p.2.1 p.2.2.1 p.2.2.2.1 p.2.2.2.2.1 p.2.2.2.2.2.1 p.2.2.2.2.2.2.1 p.2.2.2.2.2.2.2.1 p.2.2.2.2.2.2.2.2.1 p.2.2.2.2.2.2.2.2.2) n (@Eq.rec _ (a0, a1, a2, a3, a4, a5, a6, a7, a8, a9) (fun p _ => S p.1 p.2.1 p.2.2.1 p.2.2.2.1 p.2.2.2.2.1 p.2.2.2.2.2.1 p.2.2.2.2.2.2.1 p.2.2.2.2.2.2.2.1 p.2.2.2.2.2.2.2.2.1 p.2.2.2.2.2.2.2.2.2) h _ e) (b0, b1, b2, b3, b4, b5, b6, b7, b8, b9)
theorem epsX11 {α0 α1 α2 α3 α4 α5 α6 α7 α8 α9 α10 : Type} [Nonempty (α0 × α1 × α2 × α3 × α4 × α5 × α6 × α7 × α8 × α9 × α10)] {S : α0 → α1 → α2 → α3 → α4 → α5 → α6 → α7 → α8 → α9 → α10 → Prop} (n : Nat) (a0 : α0) (a1 : α1) (a2 : α2) (a3 : α3) (a4 : α4) (a5 : α5) (a6 : α6) (a7 : α7) (a8 : α8) (a9 : α9) (a10 : α10) (e : (a0, a1, a2, a3, a4, a5, a6, a7, a8, a9, a10) = epsV n fun p => S p.1 p.2.1 p.2.2.1 p.2.2.2.1 p.2.2.2.2.1 p.2.2.2.2.2.1 p.2.2.2.2.2.2.1 p.2.2.2.2.2.2.2.1 p.2.2.2.2.2.2.2.2.1 p.2.2.2.2.2.2.2.2.2.1 p.2.2.2.2.2.2.2.2.2.2) (h : S a0 a1 a2 a3 a4 a5 a6 a7 a8 a9 a10) : ∀ a0 a1 a2 a3 a4 a5 a6 a7 a8 a9 a10, S a0 a1 a2 a3 a4 a5 a6 a7 a8 a9 a10 :=
 fun b0 b1 b2 b3 b4 b5 b6 b7 b8 b9 b10 => epsV_elim (S := fun p => S p.1 p.2.1 p.2.2.1 p.2.2.2.1 p.2.2.2.2.1 p.2.2.2.2.2.1 p.2.2.2.2.2.2.1 p.2.2.2.2.2.2.2.1 p.2.2.2.2.2.2.2.2.1 p.2.2.2.2.2.2.2.2.2.1 p.2.2.2.2.2.2.2.2.2.2) n (@Eq.rec _ (a0, a1, a2, a3, a4, a5, a6, a7, a8, a9, a10) (fun p _ => S p.1 p.2.1 p.2.2.1 p.2.2.2.1 p.2.2.2.2.1 p.2.2.2.2.2.1 p.2.2.2.2.2.2.1 p.2.2.2.2.2.2.2.1 p.2.2.2.2.2.2.2.2.1 p.2.2.2.2.2.2.2.2.2.1 p.2.2.2.2.2.2.2.2.2.2) h _ e) (b0, b1, b2, b3, b4, b5, b6, b7, b8, b9, b10)
theorem epsX12 {α0 α1 α2 α3 α4 α5 α6 α7 α8 α9 α10 α11 : Type} [Nonempty (α0 × α1 × α2 × α3 × α4 × α5 × α6 × α7 × α8 × α9 × α10 × α11)] {S : α0 → α1 → α2 → α3 → α4 → α5 → α6 → α7 → α8 → α9 → α10 → α11 → Prop} (n : Nat) (a0 : α0) (a1 : α1) (a2 : α2) (a3 : α3) (a4 : α4) (a5 : α5) (a6 : α6) (a7 : α7) (a8 : α8) (a9 : α9) (a10 : α10) (a11 : α11) (e : (a0, a1, a2, a3, a4, a5, a6, a7, a8, a9, a10, a11) = epsV n fun p => S p.1 p.2.1 p.2.2.1 p.2.2.2.1 p.2.2.2.2.1 p.2.2.2.2.2.1 p.2.2.2.2.2.2.1 p.2.2.2.2.2.2.2.1 p.2.2.2.2.2.2.2.2.1 p.2.2.2.2.2.2.2.2.2.1 p.2.2.2.2.2.2.2.2.2.2.1 p.2.2.2.2.2.2.2.2.2.2.2) (h : S a0 a1 a2 a3 a4 a5 a6 a7 a8 a9 a10 a11) : ∀ a0 a1 a2 a3 a4 a5 a6 a7 a8 a9 a10 a11, S a0 a1 a2 a3 a4 a5 a6 a7 a8 a9 a10 a11 :=
 fun b0 b1 b2 b3 b4 b5 b6 b7 b8 b9 b10 b11 => epsV_elim (S := fun p => S p.1 p.2.1 p.2.2.1 p.2.2.2.1 p.2.2.2.2.1 p.2.2.2.2.2.1 p.2.2.2.2.2.2.1 p.2.2.2.2.2.2.2.1 p.2.2.2.2.2.2.2.2.1 p.2.2.2.2.2.2.2.2.2.1 p.2.2.2.2.2.2.2.2.2.2.1 p.2.2.2.2.2.2.2.2.2.2.2) n (@Eq.rec _ (a0, a1, a2, a3, a4, a5, a6, a7, a8, a9, a10, a11) (fun p _ => S p.1 p.2.1 p.2.2.1 p.2.2.2.1 p.2.2.2.2.1 p.2.2.2.2.2.1 p.2.2.2.2.2.2.1 p.2.2.2.2.2.2.2.1 p.2.2.2.2.2.2.2.2.1 p.2.2.2.2.2.2.2.2.2.1 p.2.2.2.2.2.2.2.2.2.2.1 p.2.2.2.2.2.2.2.2.2.2.2) h _ e) (b0, b1, b2, b3, b4, b5, b6, b7, b8, b9, b10, b11)
theorem epsX16 {α0 α1 α2 α3 α4 α5 α6 α7 α8 α9 α10 α11 α12 α13 α14 α15 : Type} [Nonempty (α0 × α1 × α2 × α3 × α4 × α5 × α6 × α7 × α8 × α9 × α10 × α11 × α12 × α13 × α14 × α15)] {S : α0 → α1 → α2 → α3 → α4 → α5 → α6 → α7 → α8 → α9 → α10 → α11 → α12 → α13 → α14 → α15 → Prop} (n : Nat) (a0 : α0) (a1 : α1) (a2 : α2) (a3 : α3) (a4 : α4) (a5 : α5) (a6 : α6) (a7 : α7) (a8 : α8) (a9 : α9) (a10 : α10) (a11 : α11) (a12 : α12) (a13 : α13) (a14 : α14) (a15 : α15) (e : (a0, a1, a2, a3, a4, a5, a6, a7, a8, a9, a10, a11, a12, a13, a14, a15) = epsV n fun p => S p.1 p.2.1 p.2.2.1 p.2.2.2.1 p.2.2.2.2.1 p.2.2.2.2.2.1 p.2.2.2.2.2.2.1 p.2.2.2.2.2.2.2.1 p.2.2.2.2.2.2.2.2.1 p.2.2.2.2.2.2.2.2.2.1 p.2.2.2.2.2.2.2.2.2.2.1 p.2.2.2.2.2.2.2.2.2.2.2.1 p.2.2.2.2.2.2.2.2.2.2.2.2.1 p.2.2.2.2.2.2.2.2.2.2.2.2.2.1 p.2.2.2.2.2.2.2.2.2.2.2.2.2.2.1 p.2.2.2.2.2.2.2.2.2.2.2.2.2.2.2) (h : S a0 a1 a2 a3 a4 a5 a6 a7 a8 a9 a10 a11 a12 a13 a14 a15) : ∀ a0 a1 a2 a3 a4 a5 a6 a7 a8 a9 a10 a11 a12 a13 a14 a15, S a0 a1 a2 a3 a4 a5 a6 a7 a8 a9 a10 a11 a12 a13 a14 a15 :=
 fun b0 b1 b2 b3 b4 b5 b6 b7 b8 b9 b10 b11 b12 b13 b14 b15 => epsV_elim (S := fun p => S p.1 p.2.1 p.2.2.1 p.2.2.2.1 p.2.2.2.2.1 p.2.2.2.2.2.1 p.2.2.2.2.2.2.1 p.2.2.2.2.2.2.2.1 p.2.2.2.2.2.2.2.2.1 p.2.2.2.2.2.2.2.2.2.1 p.2.2.2.2.2.2.2.2.2.2.1 p.2.2.2.2.2.2.2.2.2.2.2.1 p.2.2.2.2.2.2.2.2.2.2.2.2.1 p.2.2.2.2.2.2.2.2.2.2.2.2.2.1 p.2.2.2.2.2.2.2.2.2.2.2.2.2.2.1 p.2.2.2.2.2.2.2.2.2.2.2.2.2.2.2) n (@Eq.rec _ (a0, a1, a2, a3, a4, a5, a6, a7, a8, a9, a10, a11, a12, a13, a14, a15) (fun p _ => S p.1 p.2.1 p.2.2.1 p.2.2.2.1 p.2.2.2.2.1 p.2.2.2.2.2.1 p.2.2.2.2.2.2.1 p.2.2.2.2.2.2.2.1 p.2.2.2.2.2.2.2.2.1 p.2.2.2.2.2.2.2.2.2.1 p.2.2.2.2.2.2.2.2.2.2.1 p.2.2.2.2.2.2.2.2.2.2.2.1 p.2.2.2.2.2.2.2.2.2.2.2.2.1 p.2.2.2.2.2.2.2.2.2.2.2.2.2.1 p.2.2.2.2.2.2.2.2.2.2.2.2.2.2.1 p.2.2.2.2.2.2.2.2.2.2.2.2.2.2.2) h _ e) (b0, b1, b2, b3, b4, b5, b6, b7, b8, b9, b10, b11, b12, b13, b14, b15)
theorem epsX18 {α0 α1 α2 α3 α4 α5 α6 α7 α8 α9 α10 α11 α12 α13 α14 α15 α16 α17 : Type} [Nonempty (α0 × α1 × α2 × α3 × α4 × α5 × α6 × α7 × α8 × α9 × α10 × α11 × α12 × α13 × α14 × α15 × α16 × α17)] {S : α0 → α1 → α2 → α3 → α4 → α5 → α6 → α7 → α8 → α9 → α10 → α11 → α12 → α13 → α14 → α15 → α16 → α17 → Prop} (n : Nat) (a0 : α0) (a1 : α1) (a2 : α2) (a3 : α3) (a4 : α4) (a5 : α5) (a6 : α6) (a7 : α7) (a8 : α8) (a9 : α9) (a10 : α10) (a11 : α11) (a12 : α12) (a13 : α13) (a14 : α14) (a15 : α15) (a16 : α16) (a17 : α17) (e : (a0, a1, a2, a3, a4, a5, a6, a7, a8, a9, a10, a11, a12, a13, a14, a15, a16, a17) = epsV n fun p => S p.1 p.2.1 p.2.2.1 p.2.2.2.1 p.2.2.2.2.1 p.2.2.2.2.2.1 p.2.2.2.2.2.2.1 p.2.2.2.2.2.2.2.1 p.2.2.2.2.2.2.2.2.1 p.2.2.2.2.2.2.2.2.2.1 p.2.2.2.2.2.2.2.2.2.2.1 p.2.2.2.2.2.2.2.2.2.2.2.1 p.2.2.2.2.2.2.2.2.2.2.2.2.1 p.2.2.2.2.2.2.2.2.2.2.2.2.2.1 p.2.2.2.2.2.2.2.2.2.2.2.2.2.2.1 p.2.2.2.2.2.2.2.2.2.2.2.2.2.2.2.1 p.2.2.2.2.2.2.2.2.2.2.2.2.2.2.2.2.1 p.2.2.2.2.2.2.2.2.2.2.2.2.2.2.2.2.2) (h : S a0 a1 a2 a3 a4 a5 a6 a7 a8 a9 a10 a11 a12 a13 a14 a15 a16 a17) : ∀ a0 a1 a2 a3 a4 a5 a6 a7 a8 a9 a10 a11 a12 a13 a14 a15 a16 a17, S a0 a1 a2 a3 a4 a5 a6 a7 a8 a9 a10 a11 a12 a13 a14 a15 a16 a17 :=
 fun b0 b1 b2 b3 b4 b5 b6 b7 b8 b9 b10 b11 b12 b13 b14 b15 b16 b17 => epsV_elim (S := fun p => S p.1 p.2.1 p.2.2.1 p.2.2.2.1 p.2.2.2.2.1 p.2.2.2.2.2.1 p.2.2.2.2.2.2.1 p.2.2.2.2.2.2.2.1 p.2.2.2.2.2.2.2.2.1 p.2.2.2.2.2.2.2.2.2.1 p.2.2.2.2.2.2.2.2.2.2.1 p.2.2.2.2.2.2.2.2.2.2.2.1 p.2.2.2.2.2.2.2.2.2.2.2.2.1 p.2.2.2.2.2.2.2.2.2.2.2.2.2.1 p.2.2.2.2.2.2.2.2.2.2.2.2.2.2.1 p.2.2.2.2.2.2.2.2.2.2.2.2.2.2.2.1 p.2.2.2.2.2.2.2.2.2.2.2.2.2.2.2.2.1 p.2.2.2.2.2.2.2.2.2.2.2.2.2.2.2.2.2) n (@Eq.rec _ (a0, a1, a2, a3, a4, a5, a6, a7, a8, a9, a10, a11, a12, a13, a14, a15, a16, a17) (fun p _ => S p.1 p.2.1 p.2.2.1 p.2.2.2.1 p.2.2.2.2.1 p.2.2.2.2.2.1 p.2.2.2.2.2.2.1 p.2.2.2.2.2.2.2.1 p.2.2.2.2.2.2.2.2.1 p.2.2.2.2.2.2.2.2.2.1 p.2.2.2.2.2.2.2.2.2.2.1 p.2.2.2.2.2.2.2.2.2.2.2.1 p.2.2.2.2.2.2.2.2.2.2.2.2.1 p.2.2.2.2.2.2.2.2.2.2.2.2.2.1 p.2.2.2.2.2.2.2.2.2.2.2.2.2.2.1 p.2.2.2.2.2.2.2.2.2.2.2.2.2.2.2.1 p.2.2.2.2.2.2.2.2.2.2.2.2.2.2.2.2.1 p.2.2.2.2.2.2.2.2.2.2.2.2.2.2.2.2.2) h _ e) (b0, b1, b2, b3, b4, b5, b6, b7, b8, b9, b10, b11, b12, b13, b14, b15, b16, b17)
theorem epsX20 {α0 α1 α2 α3 α4 α5 α6 α7 α8 α9 α10 α11 α12 α13 α14 α15 α16 α17 α18 α19 : Type} [Nonempty (α0 × α1 × α2 × α3 × α4 × α5 × α6 × α7 × α8 × α9 × α10 × α11 × α12 × α13 × α14 × α15 × α16 × α17 × α18 × α19)] {S : α0 → α1 → α2 → α3 → α4 → α5 → α6 → α7 → α8 → α9 → α10 → α11 → α12 → α13 → α14 → α15 → α16 → α17 → α18 → α19 → Prop} (n : Nat) (a0 : α0) (a1 : α1) (a2 : α2) (a3 : α3) (a4 : α4) (a5 : α5) (a6 : α6) (a7 : α7) (a8 : α8) (a9 : α9) (a10 : α10) (a11 : α11) (a12 : α12) (a13 : α13) (a14 : α14) (a15 : α15) (a16 : α16) (a17 : α17) (a18 : α18) (a19 : α19) (e : (a0, a1, a2, a3, a4, a5, a6, a7, a8, a9, a10, a11, a12, a13, a14, a15, a16, a17, a18, a19) = epsV n fun p => S p.1 p.2.1 p.2.2.1 p.2.2.2.1 p.2.2.2.2.1 p.2.2.2.2.2.1 p.2.2.2.2.2.2.1 p.2.2.2.2.2.2.2.1 p.2.2.2.2.2.2.2.2.1 p.2.2.2.2.2.2.2.2.2.1 p.2.2.2.2.2.2.2.2.2.2.1 p.2.2.2.2.2.2.2.2.2.2.2.1 p.2.2.2.2.2.2.2.2.2.2.2.2.1 p.2.2.2.2.2.2.2.2.2.2.2.2.2.1 p.2.2.2.2.2.2.2.2.2.2.2.2.2.2.1 p.2.2.2.2.2.2.2.2.2.2.2.2.2.2.2.1 p.2.2.2.2.2.2.2.2.2.2.2.2.2.2.2.2.1 p.2.2.2.2.2.2.2.2.2.2.2.2.2.2.2.2.2.1 p.2.2.2.2.2.2.2.2.2.2.2.2.2.2.2.2.2.2.1 p.2.2.2.2.2.2.2.2.2.2.2.2.2.2.2.2.2.2.2) (h : S a0 a1 a2 a3 a4 a5 a6 a7 a8 a9 a10 a11 a12 a13 a14 a15 a16 a17 a18 a19) : ∀ a0 a1 a2 a3 a4 a5 a6 a7 a8 a9 a10 a11 a12 a13 a14 a15 a16 a17 a18 a19, S a0 a1 a2 a3 a4 a5 a6 a7 a8 a9 a10 a11 a12 a13 a14 a15 a16 a17 a18 a19 :=
 fun b0 b1 b2 b3 b4 b5 b6 b7 b8 b9 b10 b11 b12 b13 b14 b15 b16 b17 b18 b19 => epsV_elim (S := fun p => S p.1 p.2.1 p.2.2.1 p.2.2.2.1 p.2.2.2.2.1 p.2.2.2.2.2.1 p.2.2.2.2.2.2.1 p.2.2.2.2.2.2.2.1 p.2.2.2.2.2.2.2.2.1 p.2.2.2.2.2.2.2.2.2.1 p.2.2.2.2.2.2.2.2.2.2.1 p.2.2.2.2.2.2.2.2.2.2.2.1 p.2.2.2.2.2.2.2.2.2.2.2.2.1 p.2.2.2.2.2.2.2.2.2.2.2.2.2.1 p.2.2.2.2.2.2.2.2.2.2.2.2.2.2.1 p.2.2.2.2.2.2.2.2.2.2.2.2.2.2.2.1 p.2.2.2.2.2.2.2.2.2.2.2.2.2.2.2.2.1 p.2.2.2.2.2.2.2.2.2.2.2.2.2.2.2.2.2.1 p.2.2.2.2.2.2.2.2.2.2.2.2.2.2.2.2.2.2.1 p.2.2.2.2.2.2.2.2.2.2.2.2.2.2.2.2.2.2.2) n (@Eq.rec _ (a0, a1, a2, a3, a4, a5, a6, a7, a8, a9, a10, a11, a12, a13, a14, a15, a16, a17, a18, a19) (fun p _ => S p.1 p.2.1 p.2.2.1 p.2.2.2.1 p.2.2.2.2.1 p.2.2.2.2.2.1 p.2.2.2.2.2.2.1 p.2.2.2.2.2.2.2.1 p.2.2.2.2.2.2.2.2.1 p.2.2.2.2.2.2.2.2.2.1 p.2.2.2.2.2.2.2.2.2.2.1 p.2.2.2.2.2.2.2.2.2.2.2.1 p.2.2.2.2.2.2.2.2.2.2.2.2.1 p.2.2.2.2.2.2.2.2.2.2.2.2.2.1 p.2.2.2.2.2.2.2.2.2.2.2.2.2.2.1 p.2.2.2.2.2.2.2.2.2.2.2.2.2.2.2.1 p.2.2.2.2.2.2.2.2.2.2.2.2.2.2.2.2.1 p.2.2.2.2.2.2.2.2.2.2.2.2.2.2.2.2.2.1 p.2.2.2.2.2.2.2.2.2.2.2.2.2.2.2.2.2.2.1 p.2.2.2.2.2.2.2.2.2.2.2.2.2.2.2.2.2.2.2) h _ e) (b0, b1, b2, b3, b4, b5, b6, b7, b8, b9, b10, b11, b12, b13, b14, b15, b16, b17, b18, b19)
theorem exX1 {α0 : Type} [Nonempty (α0)] {S : α0 → Prop} (n : Nat) (a0 : α0) (e : a0 = epsV n fun p => ¬ S p) (h : ∃ a0, S a0) : S a0 :=
 Classical.byContradiction fun q => let ⟨b0, h⟩ := h; epsV_elim (S := fun p => ¬ S p) n (@Eq.rec _ a0 (fun p _ => ¬ S p) q _ e) b0 h
theorem exX2 {α0 α1 : Type} [Nonempty (α0 × α1)] {S : α0 → α1 → Prop} (n : Nat) (a0 : α0) (a1 : α1) (e : (a0, a1) = epsV n fun p => ¬ S p.1 p.2) (h : ∃ a0 a1, S a0 a1) : S a0 a1 :=
 Classical.byContradiction fun q => let ⟨b0, b1, h⟩ := h; epsV_elim (S := fun p => ¬ S p.1 p.2) n (@Eq.rec _ (a0, a1) (fun p _ => ¬ S p.1 p.2) q _ e) (b0, b1) h
theorem exX3 {α0 α1 α2 : Type} [Nonempty (α0 × α1 × α2)] {S : α0 → α1 → α2 → Prop} (n : Nat) (a0 : α0) (a1 : α1) (a2 : α2) (e : (a0, a1, a2) = epsV n fun p => ¬ S p.1 p.2.1 p.2.2) (h : ∃ a0 a1 a2, S a0 a1 a2) : S a0 a1 a2 :=
 Classical.byContradiction fun q => let ⟨b0, b1, b2, h⟩ := h; epsV_elim (S := fun p => ¬ S p.1 p.2.1 p.2.2) n (@Eq.rec _ (a0, a1, a2) (fun p _ => ¬ S p.1 p.2.1 p.2.2) q _ e) (b0, b1, b2) h
theorem exX6 {α0 α1 α2 α3 α4 α5 : Type} [Nonempty (α0 × α1 × α2 × α3 × α4 × α5)] {S : α0 → α1 → α2 → α3 → α4 → α5 → Prop} (n : Nat) (a0 : α0) (a1 : α1) (a2 : α2) (a3 : α3) (a4 : α4) (a5 : α5) (e : (a0, a1, a2, a3, a4, a5) = epsV n fun p => ¬ S p.1 p.2.1 p.2.2.1 p.2.2.2.1 p.2.2.2.2.1 p.2.2.2.2.2) (h : ∃ a0 a1 a2 a3 a4 a5, S a0 a1 a2 a3 a4 a5) : S a0 a1 a2 a3 a4 a5 :=
 Classical.byContradiction fun q => let ⟨b0, b1, b2, b3, b4, b5, h⟩ := h; epsV_elim (S := fun p => ¬ S p.1 p.2.1 p.2.2.1 p.2.2.2.1 p.2.2.2.2.1 p.2.2.2.2.2) n (@Eq.rec _ (a0, a1, a2, a3, a4, a5) (fun p _ => ¬ S p.1 p.2.1 p.2.2.1 p.2.2.2.1 p.2.2.2.2.1 p.2.2.2.2.2) q _ e) (b0, b1, b2, b3, b4, b5) h
theorem exX9 {α0 α1 α2 α3 α4 α5 α6 α7 α8 : Type} [Nonempty (α0 × α1 × α2 × α3 × α4 × α5 × α6 × α7 × α8)] {S : α0 → α1 → α2 → α3 → α4 → α5 → α6 → α7 → α8 → Prop} (n : Nat) (a0 : α0) (a1 : α1) (a2 : α2) (a3 : α3) (a4 : α4) (a5 : α5) (a6 : α6) (a7 : α7) (a8 : α8) (e : (a0, a1, a2, a3, a4, a5, a6, a7, a8) = epsV n fun p => ¬ S p.1 p.2.1 p.2.2.1 p.2.2.2.1 p.2.2.2.2.1 p.2.2.2.2.2.1 p.2.2.2.2.2.2.1 p.2.2.2.2.2.2.2.1 p.2.2.2.2.2.2.2.2) (h : ∃ a0 a1 a2 a3 a4 a5 a6 a7 a8, S a0 a1 a2 a3 a4 a5 a6 a7 a8) : S a0 a1 a2 a3 a4 a5 a6 a7 a8 :=
 Classical.byContradiction fun q => let ⟨b0, b1, b2, b3, b4, b5, b6, b7, b8, h⟩ := h; epsV_elim (S := fun p => ¬ S p.1 p.2.1 p.2.2.1 p.2.2.2.1 p.2.2.2.2.1 p.2.2.2.2.2.1 p.2.2.2.2.2.2.1 p.2.2.2.2.2.2.2.1 p.2.2.2.2.2.2.2.2) n (@Eq.rec _ (a0, a1, a2, a3, a4, a5, a6, a7, a8) (fun p _ => ¬ S p.1 p.2.1 p.2.2.1 p.2.2.2.1 p.2.2.2.2.1 p.2.2.2.2.2.1 p.2.2.2.2.2.2.1 p.2.2.2.2.2.2.2.1 p.2.2.2.2.2.2.2.2) q _ e) (b0, b1, b2, b3, b4, b5, b6, b7, b8) h
theorem neW : Nonempty World := ⟨aWorld 1⟩
theorem neSh : Nonempty Shared := ⟨{}⟩
theorem neA : Nonempty Around := ⟨{}⟩
end Mine.Internal
set_option tactic.hygienic true
namespace Mine.Internal
open PySem PySem.W PySem.Calls PyProof.Rows
theorem noFalse {P : Prop} (h : false = true) : P := nomatch h
theorem noTrue {P : Prop} (h : true = false) : P := nomatch h
theorem noneSome {α : Type} {a : α} {P : Prop} (h : none = some a) : P := nomatch h
inductive Al3 (a b c : Prop) : Prop
 | mk (h1 : a) (h2 : b) (h3 : c)
inductive Al4 (a b c d : Prop) : Prop
 | mk (h1 : a) (h2 : b) (h3 : c) (h4 : d)
inductive Al5 (a b c d e : Prop) : Prop
 | mk (h1 : a) (h2 : b) (h3 : c) (h4 : d) (h5 : e)
inductive Al6 (a b c d e f : Prop) : Prop
 | mk (h1 : a) (h2 : b) (h3 : c) (h4 : d) (h5 : e) (h6 : f)
inductive Al9 (a b c d e f g h i : Prop) : Prop
 | mk (h1 : a) (h2 : b) (h3 : c) (h4 : d) (h5 : e) (h6 : f) (h7 : g) (h8 : h) (h9 : i)
inductive Al11 (a b c d e f g h i j k : Prop) : Prop
 | mk (h1 : a) (h2 : b) (h3 : c) (h4 : d) (h5 : e) (h6 : f) (h7 : g) (h8 : h) (h9 : i) (h10 : j) (h11 : k)
inductive Is2 {T0 T1 : Type} (p : T0 → T1 → Prop) : Prop
 | mk (a : T0) (b : T1) (h : p a b)
inductive Is3 {T0 T1 T2 : Type} (p : T0 → T1 → T2 → Prop) : Prop
 | mk (a : T0) (b : T1) (c : T2) (h : p a b c)
inductive Is5 {T0 T1 T2 T3 T4 : Type} (p : T0 → T1 → T2 → T3 → T4 → Prop) : Prop
 | mk (a : T0) (b : T1) (c : T2) (d : T3) (e : T4) (h : p a b c d e)
inductive Is11 {T0 T1 T2 T3 T4 T5 T6 T7 T8 T9 T10 : Type} (p : T0 → T1 → T2 → T3 → T4 → T5 → T6 → T7 → T8 → T9 → T10 → Prop) : Prop
 | mk (a : T0) (b : T1) (c : T2) (d : T3) (e : T4) (f : T5) (g : T6) (h : T7) (i : T8) (j : T9) (k : T10) (h : p a b c d e f g h i j k)
variable {ex : List Addr}
inductive V where
 | none | bool (b : Bool) | int (i : Int) | str (s : Str) | tup (l : List V) | ref (a : Addr) | ty (n : String) | bi (n : String)
 deriving Inhabited
inductive Key where
 | int (i : Int) | str (s : Str)
 deriving DecidableEq
inductive TK where
 | int (i : Int) | str (s : Str) | nums (l : List Int)
 deriving DecidableEq
inductive O where
 | list (xs : List V)
 | dict (es : List (Key × V)) (ep : Nat)
 | tdict (es : List (List TK × V))
 | inst (C dx : Addr)
noncomputable abbrev Hp := Addr → Option O
noncomputable def upd (σ : Hp) (a : Addr) (o : O) : Hp := fun b => if b = a then some o else σ b
noncomputable abbrev Loc := Str → Option V
noncomputable def Loc.set (l : Loc) (x : Str) (v : V) : Loc := fun y => if y = x then some v else l y
mutual
noncomputable def RV (ex : List Addr) (h : Heap) : V → Value → Prop
 | .none, v => v = .none
 | .bool b, v => v = .bool b
 | .int i, v => ∃ t, v = .int i t
 | .str x, v => ∃ t, v = .str x t
 | .tup l, v => Is2 fun a items => Al4 (v = .ref a) (IsTup h a items) (a ∉ ex) (RVs ex h l items.toList)
 | .ref a, v => v = .ref a
 | .ty n, v => v = .type n
 | .bi n, v => v = .builtin n
noncomputable def RVs (ex : List Addr) (h : Heap) : List V → List Value → Prop
 | [], vs => vs = []
 | x :: l, vs => Is2 fun v r => Al3 (vs = v :: r) (RV ex h x v) (RVs ex h l r)
end
noncomputable def TK' (ex : List Addr) (h h' : Heap) : Prop := ∀ b o, h.get? b = some o → o.cls = .type "tuple" → (∃ xs n, o.data = .seq xs n) → b ∉ ex → h'.get? b = some o
theorem TK'.trans {h h' h'' : Heap} (x : TK' ex h h') (y : TK' ex h' h'') : TK' ex h h'' := fun b o e c d n => y b o (x b o e c d n) c d n
mutual
theorem RV.keep {h h' : Heap} (k : TK' ex h h') : ∀ {v : V} {x : Value}, RV ex h v x → RV ex h' v x
 | .none, _, e => e
 | .bool _, _, e => e
 | .int _, _, e => e
 | .str _, _, e => e
 | .tup l, x, e => by
   unfold RV at e ⊢
   obtain ⟨a, items, rfl, ⟨o, ho, hc, n, hd⟩, nx, r⟩ := e
   exact ⟨a, items, rfl, ⟨o, k a o ho hc ⟨_, _, hd⟩ nx, hc, n, hd⟩, nx, RVs.keep k r⟩
 | .ref _, _, e => e
 | .ty _, _, e => e
 | .bi _, _, e => e
theorem RVs.keep {h h' : Heap} (k : TK' ex h h') : ∀ {v : List V} {x : List Value}, RVs ex h v x → RVs ex h' v x
 | [], _, e => by unfold RVs at e ⊢; exact e
 | x :: l, _, e => by
   unfold RVs at e ⊢
   obtain ⟨v, r, rfl, e1, e2⟩ := e
   exact ⟨v, r, rfl, e1.keep k, RVs.keep k e2⟩
end
mutual
theorem RV.exchT {ex' : List Addr} {h : Heap} (hx : ∀ b ∈ ex', b ∉ ex → ∀ o, h.get? b = some o → ¬ (o.cls = .type "tuple" ∧ ∃ xs n, o.data = .seq xs n)) : ∀ {v : V} {x : Value}, RV ex h v x → RV ex' h v x
 | .none, _, e => e
 | .bool _, _, e => e
 | .int _, _, e => e
 | .str _, _, e => e
 | .tup l, x, e => by
   unfold RV at e ⊢
   obtain ⟨a, items, rfl, ⟨o, ho, hc, n, hd⟩, nx, r⟩ := e
   exact ⟨a, items, rfl, ⟨o, ho, hc, n, hd⟩, (fun hm => hx a hm nx o ho ⟨hc, _, _, hd⟩), RVs.exchT hx r⟩
 | .ref _, _, e => e
 | .ty _, _, e => e
 | .bi _, _, e => e
theorem RVs.exchT {ex' : List Addr} {h : Heap} (hx : ∀ b ∈ ex', b ∉ ex → ∀ o, h.get? b = some o → ¬ (o.cls = .type "tuple" ∧ ∃ xs n, o.data = .seq xs n)) : ∀ {v : List V} {x : List Value}, RVs ex h v x → RVs ex' h v x
 | [], _, e => by unfold RVs at e ⊢; exact e
 | x :: l, _, e => by
   unfold RVs at e ⊢
   obtain ⟨v, r, rfl, e1, e2⟩ := e
   exact ⟨v, r, rfl, e1.exchT hx, RVs.exchT hx e2⟩
end
theorem RV.exch {ex' : List Addr} {h : Heap} (hx : ∀ b ∈ ex', b ∉ ex → h.get? b = none) {v : V} {x : Value} (r : RV ex h v x) : RV ex' h v x := r.exchT fun b h1 h2 o e => by rw [hx b h1 h2] at e; exact noneSome e
theorem RVs.exch {ex' : List Addr} {h : Heap} (hx : ∀ b ∈ ex', b ∉ ex → h.get? b = none) {v : List V} {x : List Value} (r : RVs ex h v x) : RVs ex' h v x := r.exchT fun b h1 h2 o e => by rw [hx b h1 h2] at e; exact noneSome e
theorem RVs.length {h : Heap} : ∀ {l : List V} {vs : List Value}, RVs ex h l vs → vs.length = l.length
 | [], _, e => by unfold RVs at e; subst e; rfl
 | x :: l, _, e => by unfold RVs at e; obtain ⟨v, r, rfl, _, e2⟩ := e; simp [RVs.length e2]
theorem RVs.get {h : Heap} : ∀ {l : List V} {vs : List Value} {i : Nat} {x : V}, RVs ex h l vs → l[i]? = some x → ∃ v, vs[i]? = some v ∧ RV ex h x v
 | [], _, i, x, _, hx => by simp at hx
 | y :: l, _, 0, x, e, hx => by
   unfold RVs at e; obtain ⟨v, r, rfl, e1, e2⟩ := e
   simp at hx; subst hx; exact ⟨v, by simp, e1⟩
 | y :: l, _, i + 1, x, e, hx => by
   unfold RVs at e; obtain ⟨v, r, rfl, e1, e2⟩ := e
   simp at hx; obtain ⟨v', hv, hr⟩ := RVs.get e2 hx
   exact ⟨v', by simpa using hv, hr⟩
theorem RVs.nil {h : Heap} : RVs ex h [] [] := by unfold RVs; rfl
theorem RVs.cons {h : Heap} {x : V} {v : Value} {l : List V} {r : List Value} (a : RV ex h x v) (b : RVs ex h l r) : RVs ex h (x :: l) (v :: r) := by unfold RVs; exact ⟨v, r, rfl, a, b⟩
theorem RVs.append {h : Heap} : ∀ {l l' : List V} {r r' : List Value}, RVs ex h l r → RVs ex h l' r' → RVs ex h (l ++ l') (r ++ r')
 | [], _, _, _, a, b => by unfold RVs at a; subst a; exact b
 | x :: l, _, _, _, a, b => by
   unfold RVs at a; obtain ⟨v, r, rfl, e1, e2⟩ := a
   exact RVs.cons e1 (RVs.append e2 b)
theorem RVs.take {h : Heap} : ∀ {l : List V} {r : List Value} (n : Nat), RVs ex h l r → RVs ex h (l.take n) (r.take n)
 | _, _, 0, _ => by simp; exact RVs.nil
 | [], _, n + 1, a => by unfold RVs at a; subst a; exact RVs.nil
 | x :: l, _, n + 1, a => by
   unfold RVs at a; obtain ⟨v, r, rfl, e1, e2⟩ := a
   exact RVs.cons e1 (RVs.take n e2)
theorem RVs.drop {h : Heap} : ∀ {l : List V} {r : List Value} (n : Nat), RVs ex h l r → RVs ex h (l.drop n) (r.drop n)
 | _, _, 0, a => a
 | [], _, n + 1, a => by unfold RVs at a; subst a; exact RVs.nil
 | x :: l, _, n + 1, a => by
   unfold RVs at a; obtain ⟨v, r, rfl, e1, e2⟩ := a
   exact RVs.drop n e2
theorem RVs.reverse {h : Heap} : ∀ {l : List V} {r : List Value}, RVs ex h l r → RVs ex h l.reverse r.reverse
 | [], _, a => by unfold RVs at a; subst a; exact RVs.nil
 | x :: l, _, a => by
   unfold RVs at a; obtain ⟨v, r, rfl, e1, e2⟩ := a
   rw [List.reverse_cons, List.reverse_cons]
   exact RVs.append (RVs.reverse e2) (RVs.cons e1 RVs.nil)
theorem RVs.set {h : Heap} : ∀ {l : List V} {r : List Value} (n : Nat) {x : V} {v : Value}, RVs ex h l r → RV ex h x v → RVs ex h (l.set n x) (r.set n v)
 | [], _, n, _, _, a, _ => by unfold RVs at a; subst a; simp; exact RVs.nil
 | y :: l, _, 0, _, _, a, b => by
   unfold RVs at a; obtain ⟨v, r, rfl, e1, e2⟩ := a
   exact RVs.cons b e2
 | y :: l, _, n + 1, _, _, a, b => by
   unfold RVs at a; obtain ⟨v, r, rfl, e1, e2⟩ := a
   exact RVs.cons e1 (RVs.set n e2 b)
noncomputable def Key.isV : Key → Value → Bool
 | .int i, v => Value.isInt i v
 | .str x, v => Value.isStrOf x v
noncomputable def Key.toV : Key → V
 | .int i => .int i
 | .str x => .str x
theorem Key.isV_shape {k : Key} {v : Value} (e : k.isV v = true) : (∃ i t, k = .int i ∧ v = .int i t) ∨ (∃ x t, k = .str x ∧ v = .str x t) := by
 cases k with
 | int i => obtain ⟨t, rfl⟩ := Value.isInt_shape e; exact .inl ⟨i, t, rfl, rfl⟩
 | str x => obtain ⟨t, rfl⟩ := Value.isStrOf_shape e; exact .inr ⟨x, t, rfl, rfl⟩
theorem Key.isV_RV {h : Heap} {k : Key} {v : Value} (e : k.isV v = true) : RV ex h k.toV v := by
 rcases Key.isV_shape e with ⟨i, t, rfl, rfl⟩ | ⟨x, t, rfl, rfl⟩
 · exact ⟨t, rfl⟩
 · exact ⟨t, rfl⟩
theorem Key.isV_of {h : Heap} {k : Key} {v : Value} (e : RV ex h k.toV v) : k.isV v = true := by
 cases k with
 | int i => obtain ⟨t, rfl⟩ := e; simp [Key.isV, Value.isInt]
 | str x => obtain ⟨t, rfl⟩ := e; simp [Key.isV, Value.isStrOf]
section
variable {prog : Program} {w : World} {A : Around} {E : Value → Shared → Prop} {s : Shared}
theorem eqBool_int_str {a : Int} {t : Tok} {b : Str} {u : Tok} {Q : Bool → Shared → Prop} (h : Q false s) : wpAny (model prog w) A (eqBool (.int a t) (.str b u)) Q E s := by
 unfold eqBool
 try with_reducible refine wpAny_holding ?_
 show wpAny _ _ (if (Value.int a t == Value.str b u) = true then _ else _) Q E s
 rw [if_neg (fun e => nomatch (eq_of_beq e : Value.int a t = Value.str b u))]
 exact wpAny_bind (EqMixed.eq_int_str (wpAny_truthy_bool h))
theorem eqBool_str_int {a : Str} {t : Tok} {b : Int} {u : Tok} {Q : Bool → Shared → Prop} (h : Q false s) : wpAny (model prog w) A (eqBool (.str a t) (.int b u)) Q E s := by
 unfold eqBool
 try with_reducible refine wpAny_holding ?_
 show wpAny _ _ (if (Value.str a t == Value.int b u) = true then _ else _) Q E s
 rw [if_neg (fun e => nomatch (eq_of_beq e : Value.str a t = Value.int b u))]
 exact wpAny_bind (EqMixed.eq_str_int (wpAny_truthy_bool h))
noncomputable def keyKind (prog : Program) (w : World) : KeyKind prog w Key where
 is := Key.isV
 hash := fun k => match k with | .int i => hashInt i | .str x => hashStr w x
 inj := fun v a b ha hb => by
   rcases Key.isV_shape ha with ⟨i, t, rfl, rfl⟩ | ⟨x, t, rfl, rfl⟩ <;> rcases Key.isV_shape hb with ⟨i', t', rfl, e⟩ | ⟨x', t', rfl, e⟩ <;> cases e <;> rfl
 byValue := fun k v h => by
   rcases Key.isV_shape h with ⟨i, t, rfl, rfl⟩ | ⟨x, t, rfl, rfl⟩ <;> rfl
 pyHash := fun {A E s k v Q} h hq => by
   rcases Key.isV_shape h with ⟨i, t, rfl, rfl⟩ | ⟨x, t, rfl, rfl⟩
   · exact wpAny_pyHash_int hq
   · exact wpAny_pyHash_str hq
 eqBool := fun {A E s a b u v Q} ha hb h => by
   rcases Key.isV_shape ha with ⟨i, t, rfl, rfl⟩ | ⟨x, t, rfl, rfl⟩ <;> rcases Key.isV_shape hb with ⟨i', t', rfl, rfl⟩ | ⟨x', t', rfl, rfl⟩
   · exact wpAny_eqBool_int (by simpa [Bool.beq_eq_decide_eq] using h)
   · exact eqBool_int_str (by simpa using h)
   · exact eqBool_str_int (by simpa using h)
   · exact wpAny_eqBool_str (by simpa using h)
 «strs» := fun k x t v h => by
   rcases Key.isV_shape h with ⟨i, t, rfl, e⟩ | ⟨x, t, rfl, e⟩
   · cases e
   · cases e; cases v <;> rfl
end
end Mine.Internal
set_option tactic.hygienic true
namespace Mine.Internal
open PySem PySem.W PyProof.Rows
theorem neO : Nonempty O := ⟨.list []⟩
theorem neKey : Nonempty Key := ⟨.int 0⟩
theorem neTK : Nonempty TK := ⟨.int 0⟩
end Mine.Internal
set_option tactic.hygienic false
namespace Mine.Internal
open PySem PySem.W PySem.Calls PyProof.Rows
variable {ex : List Addr}
noncomputable def TK.toV : TK → V
 | .int i => .int i
 | .str x => .str x
 | .nums l => .tup (l.map .int)
noncomputable def tkHash (prog : Program) (w : World) : TK → Int
 | .int i => hashInt i
 | .str x => hashStr w x
 | .nums l => tupleKeyHash (intKind prog w) l
noncomputable def tkDraws : TK → Nat
 | .int _ => 1
 | .str _ => 1
 | .nums l => l.length + 1
section
variable {prog : Program} {w : World} {A : Around} {E : Value → Shared → Prop} {s : Shared}
theorem itemsAre_of_ints {h : Heap} : ∀ {l : List Int} {vs : List Value}, RVs ex h (l.map V.int) vs → ItemsAre (intKind prog w) l vs
 | [], vs, e => by unfold RVs at e; simp at e; subst e; exact .nil
 | i :: l, vs, e => by
   simp only [List.map_cons] at e
   unfold RVs at e
   obtain ⟨v, r, rfl, ⟨t, rfl⟩, e2⟩ := e
   exact .cons (by simp [intKind, Value.isInt]) (itemsAre_of_ints e2)
theorem isTupleKey_of {h : Heap} {l : List Int} {v : Value} (e : RV ex h (TK.nums l).toV v) : ∃ a, v = .ref a ∧ IsTupleKey (intKind prog w) h l a := by
 unfold TK.toV RV at e
 obtain ⟨a, items, rfl, ⟨o, ho, hc, n, hd⟩, nx, r⟩ := e
 exact ⟨a, rfl, o, items, n, ho, hc, hd, itemsAre_of_ints r⟩
theorem ints_inj {h : Heap} : ∀ {l m : List Int} {vs : List Value}, RVs ex h (l.map V.int) vs → RVs ex h (m.map V.int) vs → l = m
 | [], [], _, _, _ => rfl
 | [], _ :: _, _, ha, hb => by simp only [List.map_nil, List.map_cons] at ha hb; unfold RVs at ha hb; subst ha; obtain ⟨_, _, e, _⟩ := hb; cases e
 | _ :: _, [], _, ha, hb => by simp only [List.map_nil, List.map_cons] at ha hb; unfold RVs at ha hb; subst hb; obtain ⟨_, _, e, _⟩ := ha; cases e
 | x :: a, y :: b, _, ha, hb => by
   simp only [List.map_cons] at ha hb
   unfold RVs at ha hb
   obtain ⟨v, r, rfl, ⟨t, rfl⟩, e2⟩ := ha
   obtain ⟨_, _, e, ⟨u, f1⟩, f2⟩ := hb
   cases e
   cases f1
   rw [ints_inj e2 f2]
theorem tk_inj {h : Heap} {a b : TK} {v : Value} (ha : RV ex h a.toV v) (hb : RV ex h b.toV v) : a = b := by
 cases a with
 | int i => cases b with
   | int j => obtain ⟨t, rfl⟩ := ha; obtain ⟨u, e⟩ := hb; cases e; rfl
   | str y => obtain ⟨t, rfl⟩ := ha; obtain ⟨u, e⟩ := hb; cases e
   | nums l => obtain ⟨t, rfl⟩ := ha; unfold TK.toV RV at hb; obtain ⟨u, _, e, _⟩ := hb; cases e
 | str x => cases b with
   | int j => obtain ⟨t, rfl⟩ := ha; obtain ⟨u, e⟩ := hb; cases e
   | str y => obtain ⟨t, rfl⟩ := ha; obtain ⟨u, e⟩ := hb; cases e; rfl
   | nums l => obtain ⟨t, rfl⟩ := ha; unfold TK.toV RV at hb; obtain ⟨u, _, e, _⟩ := hb; cases e
 | nums l => cases b with
   | int j => obtain ⟨t, rfl⟩ := hb; unfold TK.toV RV at ha; obtain ⟨u, _, e, _⟩ := ha; cases e
   | str y => obtain ⟨t, rfl⟩ := hb; unfold TK.toV RV at ha; obtain ⟨u, _, e, _⟩ := ha; cases e
   | nums m =>
     unfold TK.toV RV at ha hb
     obtain ⟨p, items, rfl, ⟨o, ho, _, n, hd⟩, nx, r⟩ := ha
     obtain ⟨q, items', e, ⟨o', ho', _, n', hd'⟩, nx, r'⟩ := hb
     cases e
     obtain rfl : o = o' := Option.some.inj (ho.symm.trans ho')
     rw [hd] at hd'
     injection hd' with h1 _
     subst h1
     rw [ints_inj r r']
theorem tks_inj {h : Heap} : ∀ {a b : List TK} {vs : List Value}, RVs ex h (a.map TK.toV) vs → RVs ex h (b.map TK.toV) vs → a = b
 | [], [], _, _, _ => rfl
 | [], _ :: _, _, ha, hb => by simp only [List.map_nil, List.map_cons] at ha hb; unfold RVs at ha hb; subst ha; obtain ⟨_, _, e, _⟩ := hb; cases e
 | _ :: _, [], _, ha, hb => by simp only [List.map_nil, List.map_cons] at ha hb; unfold RVs at ha hb; subst hb; obtain ⟨_, _, e, _⟩ := ha; cases e
 | x :: a, y :: b, _, ha, hb => by
   simp only [List.map_cons] at ha hb
   unfold RVs at ha hb
   obtain ⟨v, r, rfl, e1, e2⟩ := ha
   obtain ⟨_, _, e, f1, f2⟩ := hb
   cases e
   rw [tk_inj e1 f1, tks_inj e2 f2]
theorem tk_pyHash {k : TK} {v : Value} {Q : Int → Shared → Prop} (hu : A.units < cLine) (hk : RV ex s.heap k.toV v) (h : Q (tkHash prog w k) { s with toks := s.toks + tkDraws k }) :
   wpAny (model prog w) A (pyHash v) Q E s := by
 cases k with
 | int i => obtain ⟨t, rfl⟩ := hk; exact wpAny_pyHash_int h
 | str x => obtain ⟨t, rfl⟩ := hk; exact wpAny_pyHash_str h
 | nums l => obtain ⟨a, rfl, ha⟩ := isTupleKey_of (prog := prog) (w := w) hk; exact wpAny_pyHash_tuple hu ha h
noncomputable def IsTKs (ex : List Addr) (h : Heap) (ks : List TK) (a : Addr) : Prop := a ∉ ex ∧ ∃ o items n, h.get? a = some o ∧ o.cls = .type "tuple" ∧ o.data = .seq items n ∧ RVs ex h (ks.map TK.toV) items.toList
theorem IsTKs.typeIs {ks : List TK} {a : Addr} (x : IsTKs ex s.heap ks a) : s.TypeIs (.ref a) "tuple" := let ⟨_, o, _, _, ho, hc, _⟩ := x; ⟨o, ho, hc⟩
theorem IsTKs.tup {h : Heap} {ks : List TK} {a : Addr} (x : IsTKs ex h ks a) : RV ex h (.tup (ks.map TK.toV)) (.ref a) := by
 obtain ⟨nx, o, items, n, ho, hc, hd, r⟩ := x
 unfold RV
 exact ⟨a, items, rfl, ⟨o, ho, hc, n, hd⟩, nx, r⟩
theorem IsTKs.of {h : Heap} {ks : List TK} {a : Addr} (x : RV ex h (.tup (ks.map TK.toV)) (.ref a)) : IsTKs ex h ks a := by
 unfold RV at x
 obtain ⟨b, items, e, ⟨o, ho, hc, n, hd⟩, nx, r⟩ := x
 cases e
 exact ⟨nx, o, items, n, ho, hc, hd, r⟩
noncomputable def tksDraws (ks : List TK) : Nat := (ks.map tkDraws).sum + 1
noncomputable def tksHash (prog : Program) (w : World) (ks : List TK) : Int := reduceHash (Builtin.Tuple.tupleHashOf (ks.map (tkHash prog w)))
theorem tks_pyHash {ks : List TK} {a : Addr} {Q : Int → Shared → Prop} (hu : A.units + 1 < cLine) (hk : IsTKs ex s.heap ks a) (h : Q (tksHash prog w ks) { s with toks := s.toks + tksDraws ks }) :
   wpAny (model prog w) A (pyHash (.ref a)) Q E s := by
 haveI := neW
 haveI := neSh
 haveI := neA
 haveI := neTK
 revert ks
 revert ex prog w A E s a Q
 refine no_implicit_lambda% letI ex := _; letI prog := _; letI w := _; letI A := _; letI E := _; letI s := _; letI a := _; letI Q := _; epsX8 1 ex prog w A E s a Q rfl ?_
 intro hu ks hk h
 have hT := hk.typeIs
 obtain ⟨_, o, items, n, ho, _, hd, hi⟩ := hk
 unfold pyHash
 first | unfold pyHashByItsType | skip
 first | refine wpAny_bind (wpAny_cRoomFor_or (.inr (Nat.lt_of_succ_lt hu)) ?_) | skip
 refine wpAny_bind (wpAny_specialOf hT F.slot_tuple_hash.lookup ?_)
 show wpAny _ _ (if (some (Value.builtin "tuple.__hash__") == some Value.none) = true then _ else _) Q E s
 rw [if_neg (by rw [beq_builtin_none]; exact Bool.false_ne_true)]
 refine wpAny_bind (wpAny_specialOf hT F.slot_tuple_hash.lookup ?_)
 show wpAny _ _ (callSpecialIfBoundUnlessNone? (.ref a) "__hash__" _ >>= _) Q E s
 refine wpAny_bind (wpAny_callSpecialIfBoundUnlessNone?_slot hT F.slot_tuple_hash (wpAny_call_entry F.slot_tuple_hash hT F.entry_tuple_hash ?_ (F.args_tuple_hash_1 _)))
 show wpAny _ _ (Builtin.Tuple.tupleItemsOf (.ref a) >>= _) _ _ s
 refine wpAny_bind (wpAny_tupleItemsOf ho hd ?_)
 refine wpAny_bind ?_
 rw [← Array.forIn_toList]
 refine wpAny_forIn_list _
   (fun rest (b : Array Int) s' => ∃ done left, ks = done ++ left ∧ RVs ex s.heap (left.map TK.toV) rest ∧ b.toList = done.map (tkHash prog w) ∧ s' = { s with toks := s.toks + (done.map tkDraws).sum })
   _ ?_ ?_ _ _ ⟨[], ks, rfl, hi, rfl, rfl⟩
 · rintro x rest b s' ⟨done, left, rfl, hl, hb, rfl⟩
   cases left with
   | nil => simp only [List.map_nil] at hl; unfold RVs at hl; cases hl
   | cons k ks' =>
     simp only [List.map_cons] at hl
     unfold RVs at hl
     obtain ⟨_, _, e, h1, hl'⟩ := hl
     cases e
     refine wpAny_bind (tk_pyHash (A := A.in1) (s := { s with toks := s.toks + (done.map tkDraws).sum }) hu h1 ?_)
     first
       | exact wpAny_pure ⟨done ++ [k], ks', by simp, hl', by simp [hb], by simp [Nat.add_assoc]⟩
       | exact wpAny_bind (wpAny_pure (wpAny_pure ⟨done ++ [k], ks', by simp, hl', by simp [hb], by simp [Nat.add_assoc]⟩))
 · rintro b s' ⟨done, left, rfl, hl, hb, rfl⟩
   have hle : left = [] := by
     cases left with
     | nil => rfl
     | cons k ks' =>
       simp only [List.map_cons] at hl
       unfold RVs at hl
       obtain ⟨_, _, e, _⟩ := hl
       cases e
   subst hle
   rw [List.append_nil] at h
   show wpAny _ _ (retInt (Builtin.Tuple.tupleHashOf b.toList)) _ _ _
   rw [hb]
   refine wpAny_ret_mkInt ?_
   show wpAny _ _ (if (decide (-(2 : Int) ^ 63 ≤ Builtin.Tuple.tupleHashOf (done.map (tkHash prog w))) && decide (Builtin.Tuple.tupleHashOf (done.map (tkHash prog w)) < 2 ^ 63)) = true then _ else _) Q E _
   unfold tksHash reduceHash at h
   unfold tksDraws at h
   by_cases hr : (decide (-(2 : Int) ^ 63 ≤ Builtin.Tuple.tupleHashOf (done.map (tkHash prog w))) && decide (Builtin.Tuple.tupleHashOf (done.map (tkHash prog w)) < 2 ^ 63)) = true
   · rw [if_pos hr]
     rw [if_pos hr] at h
     exact wpAny_pure (by simpa [Nat.add_assoc] using h)
   · rw [if_neg hr]
     rw [if_neg hr] at h
     exact wpAny_bind (wpAny_rule (wpAny_pure (by simpa [Nat.add_assoc] using h)))
end
end Mine.Internal
set_option tactic.hygienic false
namespace Mine.Internal
open PySem PySem.W PySem.Calls PyProof.Rows PySem.SeqAt
variable {ex : List Addr}
noncomputable def RKs (ex : List Addr) (h : Heap) : List (Key × V) → List (Key × Value) → Prop
 | [], r => r = []
 | (k, x) :: l, r => Is2 fun v r' => Al3 (r = (k, v) :: r') (RV ex h x v) (RKs ex h l r')
theorem RKs.keep {h h' : Heap} (t : TK' ex h h') : ∀ {l : List (Key × V)} {r : List (Key × Value)}, RKs ex h l r → RKs ex h' l r
 | [], _, e => e
 | (k, x) :: l, _, ⟨v, r', e, a, b⟩ => ⟨v, r', e, a.keep t, b.keep t⟩
theorem RKs.length {h : Heap} : ∀ {l : List (Key × V)} {r : List (Key × Value)}, RKs ex h l r → r.length = l.length
 | [], _, e => by obtain rfl := e; rfl
 | (k, x) :: l, _, ⟨v, r', e, a, b⟩ => by subst e; simp [b.length]
theorem RKs.keys {h : Heap} : ∀ {l : List (Key × V)} {r : List (Key × Value)}, RKs ex h l r → r.map (·.1) = l.map (·.1)
 | [], _, e => by obtain rfl := e; rfl
 | (k, x) :: l, _, ⟨v, r', e, a, b⟩ => by subst e; simp [b.keys]
theorem RKs.append {h : Heap} : ∀ {l l' : List (Key × V)} {r r' : List (Key × Value)}, RKs ex h l r → RKs ex h l' r' → RKs ex h (l ++ l') (r ++ r')
 | [], _, _, _, e, b => by obtain rfl := e; exact b
 | (k, x) :: l, _, _, _, ⟨v, r', e, a, b⟩, c => by subst e; exact ⟨v, _, rfl, a, b.append c⟩
noncomputable def dlook (es : List (Key × V)) (k : Key) : Option V := match es with
 | [] => none
 | (k', x) :: r => if k' = k then some x else dlook r k
noncomputable def dset (es : List (Key × V)) (k : Key) (x : V) : List (Key × V) := match es with
 | [] => [(k, x)]
 | (k', y) :: r => if k' = k then (k', x) :: r else (k', y) :: dset r k x
theorem RKs.look {h : Heap} : ∀ {l : List (Key × V)} {r : List (Key × Value)} (k : Key), RKs ex h l r →
   match dlook l k with
   | some x => ∃ v, valueAt r k = some v ∧ RV ex h x v
   | none => valueAt r k = none
 | [], _, k, e => by obtain rfl := e; rfl
 | (k', x) :: l, _, k, ⟨v, r', e, a, b⟩ => by
   subst e
   unfold dlook
   by_cases hk : k' = k
   · subst hk
     simp only [if_true]
     exact ⟨v, by simp [valueAt], a⟩
   · rw [if_neg hk]
     have := b.look k
     have e2 : valueAt ((k', v) :: r') k = valueAt r' k := by simp [valueAt, hk]
     rw [e2]; exact this
theorem dlook_some_mem {es : List (Key × V)} {k : Key} {x : V} (h : dlook es k = some x) : k ∈ es.map (·.1) := by
 induction es with
 | nil => exact noneSome h
 | cons a r ih =>
   obtain ⟨k', y⟩ := a
   unfold dlook at h
   by_cases hk : k' = k
   · subst hk; simp
   · rw [if_neg hk] at h; exact List.mem_cons_of_mem _ (ih h)
theorem dlook_none_not_mem {es : List (Key × V)} {k : Key} (h : dlook es k = none) : k ∉ es.map (·.1) := by
 induction es with
 | nil => simp
 | cons a r ih =>
   obtain ⟨k', y⟩ := a
   unfold dlook at h
   by_cases hk : k' = k
   · subst hk; simp at h
   · rw [if_neg hk] at h
     simp only [List.map_cons, List.mem_cons, not_or]
     exact ⟨fun e => hk e.symm, ih h⟩
theorem dset_new {es : List (Key × V)} {k : Key} (x : V) (h : dlook es k = none) : dset es k x = es ++ [(k, x)] := by
 induction es with
 | nil => rfl
 | cons a r ih =>
   obtain ⟨k', y⟩ := a
   unfold dlook at h
   by_cases hk : k' = k
   · subst hk; simp at h
   · rw [if_neg hk] at h
     simp [dset, hk, ih h]
theorem stored_eq {h : Heap} : ∀ {l : List (Key × V)} {r : List (Key × Value)} {k : Key} {x : V} {v : Value}, (r.map (·.1)).Nodup → RKs ex h l r → RV ex h x v → RKs ex h (dset l k x) (stored r k v) := by
 intro l r k x v hn a b
 cases hl : dlook l k with
 | none =>
   rw [dset_new x hl]
   have : ¬ (r.any fun kv => decide (kv.1 = k)) = true := by
     rw [List.any_eq_true]
     rintro ⟨kv, hm, he⟩
     have h1 := dlook_none_not_mem hl
     rw [← a.keys] at h1
     exact h1 (List.mem_map.mpr ⟨kv, hm, of_decide_eq_true he⟩)
   unfold stored
   rw [if_neg this]
   exact a.append ⟨v, [], rfl, b, rfl⟩
 | some y =>
   have hk := dlook_some_mem hl
   rw [← a.keys] at hk
   have : (r.any fun kv => decide (kv.1 = k)) = true := by
     rw [List.any_eq_true]
     obtain ⟨kv, hm, he⟩ := List.mem_map.mp hk
     exact ⟨kv, hm, decide_eq_true he⟩
   unfold stored
   rw [if_pos this]
   clear this hk
   induction l generalizing r with
   | nil => exact noneSome hl
   | cons p l ih =>
     obtain ⟨k', z⟩ := p
     obtain ⟨u, r', rfl, e1, e2⟩ := a
     rw [List.map_cons, List.nodup_cons] at hn
     unfold dset
     by_cases hk : k' = k
     · subst hk
       rw [if_pos rfl, List.map_cons, if_pos rfl, map_store_of_not_mem r' _ v hn.1]
       exact ⟨v, r', rfl, b, e2⟩
     · rw [if_neg hk, List.map_cons]
       have : (if (k', u).1 = k then ((k', u).1, v) else (k', u)) = (k', u) := if_neg hk
       rw [this]
       unfold dlook at hl
       rw [if_neg hk] at hl
       exact ⟨u, _, rfl, e1, ih hn.2 e2 hl⟩
noncomputable def RTs (ex : List Addr) (h : Heap) : List (List TK × V) → List (List TK × Addr × Value) → Prop
 | [], r => r = []
 | (k, x) :: l, r => Is3 fun a v r' => Al3 (r = (k, a, v) :: r') (RV ex h x v) (RTs ex h l r')
theorem RTs.keep {h h' : Heap} (t : TK' ex h h') : ∀ {l : List (List TK × V)} {r : List (List TK × Addr × Value)}, RTs ex h l r → RTs ex h' l r
 | [], _, e => e
 | (k, x) :: l, _, ⟨c, v, r', e, a, b⟩ => ⟨c, v, r', e, a.keep t, b.keep t⟩
noncomputable def tlook (es : List (List TK × V)) (k : List TK) : Option V := match es with
 | [] => none
 | (k', x) :: r => if k' = k then some x else tlook r k
theorem RTs.length {h : Heap} : ∀ {l : List (List TK × V)} {r : List (List TK × Addr × Value)}, RTs ex h l r → r.length = l.length
 | [], _, e => by obtain rfl := e; rfl
 | (k, x) :: l, _, ⟨c, v, r', e, a, b⟩ => by subst e; simp [b.length]
theorem RTs.look {h : Heap} : ∀ {l : List (List TK × V)} {r : List (List TK × Addr × Value)} (k : List TK), RTs ex h l r →
   match tlook l k with
   | some x => ∃ c v, atKey r k = some (c, v) ∧ RV ex h x v
   | none => atKey r k = none
 | [], _, k, e => by obtain rfl := e; rfl
 | (k', x) :: l, _, k, ⟨c, v, r', e, a, b⟩ => by
   subst e
   unfold tlook
   by_cases hk : k' = k
   · subst hk
     simp only [if_true]
     exact ⟨c, v, by simp [atKey], a⟩
   · rw [if_neg hk]
     have := b.look k
     have e2 : atKey ((k', c, v) :: r') k = atKey r' k := by simp [atKey, hk]
     rw [e2]; exact this
theorem RTs.append {h : Heap} : ∀ {l l' : List (List TK × V)} {r r' : List (List TK × Addr × Value)}, RTs ex h l r → RTs ex h l' r' → RTs ex h (l ++ l') (r ++ r')
 | [], _, _, _, e, b => by obtain rfl := e; exact b
 | (k, x) :: l, _, _, _, ⟨c, v, r', e, a, b⟩, d => by subst e; exact ⟨c, v, _, rfl, a, b.append d⟩
noncomputable def veqsW (f : V → V → Option Bool) : List V → List V → Option Bool
 | [], [] => some true
 | [], _ :: _ => some false
 | _ :: _, [] => some false
 | x :: l, y :: r => (f x y).bind fun a => (veqsW f l r).bind fun b => some (a && b)
noncomputable def veqdW (f : V → V → Option Bool) (fs : List (Key × V)) : List (Key × V) → Option Bool
 | [] => some true
 | (k, v) :: r => match dlook fs k with
   | none => some false
   | some u => (f v u).bind fun a => (veqdW f fs r).bind fun b => some (a && b)
end Mine.Internal
set_option tactic.hygienic false
namespace Mine.Internal
open PySem PySem.W PySem.Calls PyProof.Rows PySem.SeqAt
variable {ex : List Addr}
theorem veqsW_fn {A : Around} {s : Shared} {f : V → V → Option Bool} {h : Heap} : ∀ {l r : List V} {vs us : List Value} {b : Bool},
   (∀ x ∈ l, ∀ y a, f x y = some a → ∀ v u, RV ex h x v → RV ex h y u → EqAt A s v u a) →
   RVs ex h l vs → RVs ex h r us → veqsW f l r = some b →
   ∃ e : Nat → Bool, (∀ j (h1 : j < vs.length) (h2 : j < us.length), EqAt A s vs[j] us[j] (e j)) ∧ ((List.range (min vs.length us.length)).all e && vs.length == us.length) = b := by
 intro l
 induction l with
 | nil =>
   intro r vs us b _ a c hb
   unfold RVs at a; subst a
   cases r with
   | nil =>
     unfold RVs at c; subst c
     simp only [veqsW, Option.some.injEq] at hb; subst hb
     exact ⟨fun _ => true, fun j h1 => absurd h1 (Nat.not_lt_zero _), by simp⟩
   | cons y r =>
     unfold RVs at c; obtain ⟨u, us', rfl, _, _⟩ := c
     simp only [veqsW, Option.some.injEq] at hb; subst hb
     exact ⟨fun _ => true, fun j h1 => absurd h1 (Nat.not_lt_zero _), by simp⟩
 | cons x l ih =>
   intro r vs us b hf a c hb
   unfold RVs at a; obtain ⟨v, vs', rfl, a1, a2⟩ := a
   cases r with
   | nil =>
     unfold RVs at c; subst c
     simp only [veqsW, Option.some.injEq] at hb; subst hb
     exact ⟨fun _ => true, fun j _ h2 => absurd h2 (Nat.not_lt_zero _), by simp⟩
   | cons y r =>
     unfold RVs at c; obtain ⟨u, us', rfl, c1, c2⟩ := c
     simp only [veqsW] at hb
     cases hxy : f x y with
     | none => rw [hxy] at hb; exact noneSome hb
     | some p =>
       rw [hxy] at hb
       simp only [Option.bind_some] at hb
       cases hlr : veqsW f l r with
       | none => rw [hlr] at hb; exact noneSome hb
       | some q =>
         rw [hlr] at hb
         simp only [Option.bind_some, Option.some.injEq] at hb
         subst hb
         obtain ⟨e, he, hq⟩ := ih (fun x' hx' => hf x' (List.mem_cons_of_mem _ hx')) a2 c2 hlr
         refine ⟨fun j => match j with | 0 => p | j + 1 => e j, fun j h1 h2 => ?_, ?_⟩
         · cases j with
           | zero => exact hf x List.mem_cons_self y p hxy v u a1 c1
           | succ j => exact he j (Nat.lt_of_succ_lt_succ h1) (Nat.lt_of_succ_lt_succ h2)
         · rw [← hq]
           have hmin : min (v :: vs').length (u :: us').length = min vs'.length us'.length + 1 := by simp [Nat.succ_min_succ]
           rw [hmin, List.range_succ_eq_map]
           simp only [List.all_cons, List.length_cons, List.all_map]
           have : (vs'.length + 1 == us'.length + 1) = (vs'.length == us'.length) := by simp
           rw [this, Bool.and_assoc]
           rfl
theorem veqdW_hits {A : Around} {s : Shared} {f : V → V → Option Bool} {h : Heap} {fs : List (Key × V)} {kb : List (Key × Value)} (hb : RKs ex h fs kb) : ∀ {es : List (Key × V)} {ka : List (Key × Value)} {b : Bool},
   (∀ x y a, f x y = some a → ∀ v u, RV ex h x v → RV ex h y u → EqAt A s v u a) →
   RKs ex h es ka → veqdW f fs es = some b → KeqHits A s kb ka b := by
 intro es
 induction es with
 | nil =>
   intro ka b _ a hb
   obtain rfl := a
   simp only [veqdW, Option.some.injEq] at hb; subst hb
   exact .nil
 | cons p es ih =>
   intro ka b hf a hv
   obtain ⟨k, x⟩ := p
   obtain ⟨v, r', rfl, a1, a2⟩ := a
   unfold veqdW at hv
   have hl := hb.look k
   cases hk : dlook fs k with
   | none =>
     rw [hk] at hv hl
     simp only [Option.some.injEq] at hv; subst hv
     exact .miss hl
   | some y =>
     rw [hk] at hv hl
     obtain ⟨u, hu, hr⟩ := hl
     simp only at hv
     cases hxy : f x y with
     | none => rw [hxy] at hv; exact noneSome hv
     | some p =>
       rw [hxy] at hv
       simp only [Option.bind_some] at hv
       cases hlr : veqdW f fs es with
       | none => rw [hlr] at hv; exact noneSome hv
       | some q =>
         rw [hlr] at hv
         simp only [Option.bind_some, Option.some.injEq] at hv
         subst hv
         exact .hit hu (hf x y p hxy v u a1 hr) (ih hf a2 hlr)
noncomputable def fInt : V → V → Option Bool
 | .int a, .int b => some (decide (a = b))
 | _, _ => none
theorem fInt_lists : ∀ (l m : List Int), veqsW fInt (l.map V.int) (m.map V.int) = some (decide (l = m))
 | [], [] => by simp [veqsW]
 | [], _ :: _ => by simp [veqsW]
 | _ :: _, [] => by simp [veqsW]
 | x :: l, y :: m => by
   simp only [List.map_cons, veqsW, fInt, fInt_lists l m, Option.bind_some, Option.some.injEq]
   by_cases h1 : x = y <;> by_cases h2 : l = m <;> simp [h1, h2]
set_option tactic.hygienic true in
theorem fInt_at {A : Around} {s : Shared} {h : Heap} {x y : V} {a : Bool} (e : fInt x y = some a) {v u : Value} (hv : RV ex h x v) (hu : RV ex h y u) : EqAt A s v u a := by
 unfold fInt at e
 split at e
 · simp only [Option.some.injEq] at e; subst e
   obtain ⟨t, rfl⟩ := hv
   obtain ⟨t', rfl⟩ := hu
   rename_i a b
   have := EqAt.int_int (A := A) (s := s) a t b t'
   simpa [Bool.beq_eq_decide_eq] using this
 · exact noneSome e
theorem tup_at {A : Around} {s : Shared} {f : V → V → Option Bool} {l r : List V} {b : Bool} {v u : Value} (hu : A.units < cLine)
   (hf : ∀ x ∈ l, ∀ y a, f x y = some a → ∀ v u, RV ex s.heap x v → RV ex s.heap y u → EqAt A.in1 s v u a)
   (hv : RV ex s.heap (.tup l) v) (hw : RV ex s.heap (.tup r) u) (e : veqsW f l r = some b) : RcAt A s v u b := by
 unfold RV at hv hw
 obtain ⟨p, items, rfl, T1, nx, R1⟩ := hv
 obtain ⟨q, items', rfl, T2, nx, R2⟩ := hw
 obtain ⟨g, hg, hb⟩ := veqsW_fn hf R1 R2 e
 have := RcAt.tuples (A := A) (s := s) (e := g) (show s.heap.IsTuple p items from T1) (show s.heap.IsTuple q items' from T2) hu (fun j h1 h2 => by
   have := hg j (by simpa using h1) (by simpa using h2)
   simpa using this)
 rw [← hb]
 simpa using this
theorem list_at {A : Around} {s : Shared} {f : V → V → Option Bool} {l r : List V} {b : Bool} {p q : Addr} {items items' : Array Value} (hu : A.units < cLine)
   (hf : ∀ x ∈ l, ∀ y a, f x y = some a → ∀ v u, RV ex s.heap x v → RV ex s.heap y u → EqAt A.in1 s v u a)
   (T1 : s.heap.IsList p items) (T2 : s.heap.IsList q items') (R1 : RVs ex s.heap l items.toList) (R2 : RVs ex s.heap r items'.toList)
   (e : (if l.length = r.length then veqsW f l r else some false) = some b) : RcAt A s (.ref p) (.ref q) b := by
 have L1 := R1.length
 have L2 := R2.length
 by_cases hl : l.length = r.length
 · rw [if_pos hl] at e
   obtain ⟨g, hg, hb⟩ := veqsW_fn hf R1 R2 e
   have hsz : items.size = items'.size := by simp only [Array.length_toList] at L1 L2; omega
   have := RcAt.lists (A := A) (s := s) (e := g) T1 T2 hsz hu (fun j h1 h2 => by
     have := hg j (by simpa using h1) (by simpa using h2)
     simpa using this)
   rw [← hb]
   have e1 : (items.toList.length == items'.toList.length) = true := by simp [hsz]
   rw [e1, Bool.and_true]
   simpa [hsz] using this
 · rw [if_neg hl] at e
   simp only [Option.some.injEq] at e; subst e
   have hsz : (items.size != items'.size) = true := by simp only [Array.length_toList] at L1 L2; simp only [bne_iff_ne, ne_eq]; omega
   exact RcAt.lists_lengths T1 T2 hsz hu
theorem EqAt.refs {A : Around} {s : Shared} {p q : Addr} {b : Bool} (hs : p = q → b = true) (h : p ≠ q → RcAt A s (.ref p) (.ref q) b) : EqAt A s (.ref p) (.ref q) b := by
 by_cases e : p = q
 · subst e; rw [hs rfl]; exact EqAt.same _
 · exact EqAt.of_refs e (h e)
theorem tk_at {A : Around} {s : Shared} {a b : TK} {v u : Value} (hu : A.units + 1 < cLine) (hv : RV ex s.heap a.toV v) (hw : RV ex s.heap b.toV u) : EqAt A s v u (decide (a = b)) := by
 have hu' : A.units < cLine := Nat.lt_of_succ_lt hu
 cases a with
 | int i =>
   obtain ⟨t, rfl⟩ := hv
   cases b with
   | int j =>
     obtain ⟨t', rfl⟩ := hw
     have := EqAt.int_int (A := A) (s := s) i t j t'
     simpa [Bool.beq_eq_decide_eq] using this
   | str y => obtain ⟨t', rfl⟩ := hw; simpa using EqAt.int_str (A := A) (s := s) i t y t'
   | nums m =>
     unfold TK.toV RV at hw
     obtain ⟨q, items', rfl, T2, nx, R2⟩ := hw
     simpa using EqAt.int_tuple (A := A) (s := s) i t (show s.heap.IsTuple q items' from T2) hu'
 | str x =>
   obtain ⟨t, rfl⟩ := hv
   cases b with
   | int j => obtain ⟨t', rfl⟩ := hw; simpa using EqAt.str_int (A := A) (s := s) x t j t'
   | str y =>
     obtain ⟨t', rfl⟩ := hw
     have := EqAt.str_str (A := A) (s := s) x t y t'
     simpa [Bool.beq_eq_decide_eq] using this
   | nums m =>
     unfold TK.toV RV at hw
     obtain ⟨q, items', rfl, T2, nx, R2⟩ := hw
     simpa using EqAt.str_tuple (A := A) (s := s) x t (show s.heap.IsTuple q items' from T2) hu'
 | nums l =>
   cases b with
   | int j =>
     obtain ⟨t', rfl⟩ := hw
     unfold TK.toV RV at hv
     obtain ⟨p, items, rfl, T1, nx, R1⟩ := hv
     simpa using EqAt.tuple_int (A := A) (s := s) j t' (show s.heap.IsTuple p items from T1) hu'
   | str y =>
     obtain ⟨t', rfl⟩ := hw
     unfold TK.toV RV at hv
     obtain ⟨p, items, rfl, T1, nx, R1⟩ := hv
     simpa using EqAt.tuple_str (A := A) (s := s) y t' (show s.heap.IsTuple p items from T1) hu'
   | nums m =>
     obtain ⟨p, rfl⟩ : ∃ p, v = .ref p := by unfold TK.toV RV at hv; obtain ⟨p, _, e, _⟩ := hv; exact ⟨p, e⟩
     obtain ⟨q, rfl⟩ : ∃ p, u = .ref p := by unfold TK.toV RV at hw; obtain ⟨p, _, e, _⟩ := hw; exact ⟨p, e⟩
     have R := tup_at (A := A) hu' (fun x _ y a e v u => fInt_at e) hv hw (fInt_lists l m)
     refine EqAt.refs (fun e => ?_) fun _ => by simpa using R
     subst e
     have := tk_inj hv hw
     simp only [TK.nums.injEq] at this
     simp [this]
theorem tks_same {h : Heap} {ks js : List TK} {p : Addr} (hv : IsTKs ex h ks p) (hw : IsTKs ex h js p) : ks = js := by
 obtain ⟨_, o, items, n, ho, _, hd, r⟩ := hv
 obtain ⟨_, o', items', n', ho', _, hd', r'⟩ := hw
 cases ho.symm.trans ho'
 rw [hd] at hd'
 injection hd' with q1 _
 subst q1
 exact tks_inj r r'
theorem tks_all : ∀ (ks js : List TK), ((List.range (min ks.length js.length)).all (fun j => decide (ks[j]? = js[j]?)) && ks.length == js.length) = decide (ks = js) := fun ks js => by
 rw [Bool.eq_iff_iff, Bool.and_eq_true, List.all_eq_true, decide_eq_true_iff, beq_iff_eq]
 refine ⟨fun ⟨h, e⟩ => List.ext_getElem? fun i => ?_, fun e => by subst e; exact ⟨fun x _ => decide_eq_true rfl, rfl⟩⟩
 rw [← e, Nat.min_self] at h
 cases Nat.lt_or_ge i ks.length with
 | inl hi => exact of_decide_eq_true (h i (List.mem_range.mpr hi))
 | inr hi => rw [List.getElem?_eq_none hi, List.getElem?_eq_none (e ▸ hi)]
theorem tks_at {A : Around} {s : Shared} {ks js : List TK} {p q : Addr} (hu : A.units + 2 < cLine) (hv : IsTKs ex s.heap ks p) (hw : IsTKs ex s.heap js q) : EqAt A s (.ref p) (.ref q) (decide (ks = js)) := by
 haveI := neSh; haveI := neA; haveI := neTK
 revert ex A s ks js p q
 refine no_implicit_lambda% letI ex := _; letI A := _; letI s := _; letI ks := _; letI js := _; letI p := _; letI q := _; epsX7 1 ex A s ks js p q rfl ?_
 intro hu hv hw
 refine EqAt.refs (fun e => decide_eq_true (tks_same hv (e ▸ hw))) fun _ => ?_
 obtain ⟨_, o, items, n, ho, hc, hd, r⟩ := hv
 revert o items n; refine letI o := _; letI items := _; letI n := _; epsX3 1 o items n rfl ?_; set_option tactic.hygienic false in intros
 obtain ⟨_, o', items', n', ho', hc', hd', r'⟩ := hw
 revert o' items' n'; refine letI o' := _; letI items' := _; letI n' := _; epsX3 2 o' items' n' rfl ?_; set_option tactic.hygienic false in intros
 have L1 := r.length
 have L2 := r'.length
 rw [List.length_map, Array.length_toList] at L1 L2
 rw [← tks_all, ← L1, ← L2]
 refine RcAt.tuples (A := A) (s := s) (e := fun j => decide (ks[j]? = js[j]?)) ⟨o, ho, hc, n, hd⟩ ⟨o', ho', hc', n', hd'⟩ (Nat.lt_of_succ_lt (Nat.lt_of_succ_lt hu)) fun j h1 h2 => ?_
 have k1 : ks[j]? = some ks[j] := List.getElem?_eq_getElem (L1 ▸ h1)
 have k2 : js[j]? = some js[j] := List.getElem?_eq_getElem (L2 ▸ h2)
 obtain ⟨v, e1, v1⟩ := r.get (i := j) (by rw [List.getElem?_map, k1]; rfl)
 obtain ⟨u, e2, u1⟩ := r'.get (i := j) (by rw [List.getElem?_map, k2]; rfl)
 rw [Array.getElem?_toList, Array.getElem?_eq_getElem h1] at e1
 rw [Array.getElem?_toList, Array.getElem?_eq_getElem h2] at e2
 obtain rfl := Option.some.inj e1; obtain rfl := Option.some.inj e2
 rw [show decide (ks[j]? = js[j]?) = decide (ks[j] = js[j]) from decide_eq_decide.mpr (by rw [k1, k2, Option.some.injEq])]
 exact tk_at hu v1 u1
theorem quiet_tuple {prog : Program} {w : World} {A : Around} {E : Value → Shared → Prop} {s : Shared} {a : Addr} {o : Obj} {items : Array Value} {m n : Nat} (ho : s.heap.get? a = some o) (hc : o.cls = .type "tuple") (hd : o.data = .seq items m)
   (hv : ∀ v ∈ items.toList, ∀ Q' : Bool → Shared → Prop, Q' true s → wpAny (model prog w) A (eqIsQuiet n v) Q' E s) {Q : Bool → Shared → Prop} (h : Q true s) : wpAny (model prog w) A (eqIsQuiet (n + 1) (.ref a)) Q E s := by
 have hT : s.TypeIs (.ref a) "tuple" := ⟨o, ho, hc⟩
 unfold eqIsQuiet
 refine wpAny_bind (wpAny_specialOf hT F.slot_tuple_eq.lookup ?_)
 show wpAny _ _ (isInstance (.ref a) (.type "tuple") >>= _) _ _ s
 refine wpAny_bind (wpAny_isInstance hT isSubtype_tuple_tuple ?_)
 simp only [Bool.not_true, Bool.false_eq_true, if_false]
 refine wpAny_bind (wpAny_seqItems ho hd (wpAny_bind ?_))
 show wpAny _ _ (forIn items _ _) _ _ s
 rw [← Array.forIn_toList]
 refine wpAny_forIn_list _ (fun rest r s' => r.1 = none ∧ s' = s ∧ ∀ v ∈ rest, v ∈ items.toList) _ ?_ ?_ _ _ ⟨rfl, rfl, fun _ h => h⟩
 · rintro v rest r s' ⟨hr, rfl, hl⟩
   refine wpAny_bind (hv v (hl v List.mem_cons_self) _ ?_)
   simp only [Bool.not_true, Bool.false_eq_true, if_false]
   exact wpAny_pure ⟨rfl, rfl, fun v h => hl v (List.mem_cons_of_mem _ h)⟩
 · rintro ⟨r1, r2⟩ s' ⟨hr, rfl, _⟩
   obtain rfl := hr
   exact wpAny_pure h
theorem RVs.memOf {h : Heap} : ∀ {l : List TK} {r : List Value}, RVs ex h (l.map TK.toV) r → ∀ v ∈ r, ∃ k : TK, RV ex h k.toV v
 | [], _, e, v, hv => by unfold RVs at e; subst e; cases hv
 | k :: l, _, e, v, hv => by
   unfold RVs at e
   obtain ⟨u, r, rfl, e1, e2⟩ := e
   cases hv with
   | head => exact ⟨k, e1⟩
   | tail _ hv => exact RVs.memOf e2 v hv
theorem tks_quiet {prog : Program} {w : World} {A : Around} {E : Value → Shared → Prop} {s : Shared} {ks : List TK} {a : Addr} {Q : Bool → Shared → Prop} (hk : IsTKs ex s.heap ks a) (h : Q true s) : wpAny (model prog w) A (eqIsQuiet 8 (.ref a)) Q E s := by
 obtain ⟨_, o, items, n, ho, hc, hd, hi⟩ := hk
 refine quiet_tuple ho hc hd (fun v hv Q' hq => ?_) h
 obtain ⟨k, h1⟩ := hi.memOf v hv
 cases k with
 | int i => obtain ⟨t, rfl⟩ := h1; rw [eqIsQuiet_byValue _ rfl]; exact wpAny_pure hq
 | str x => obtain ⟨t, rfl⟩ := h1; rw [eqIsQuiet_byValue _ rfl]; exact wpAny_pure hq
 | nums l =>
   obtain ⟨b, rfl, hb⟩ := isTupleKey_of (prog := prog) (w := w) h1
   obtain ⟨o, items, n, ho, hc, hd, hi⟩ := hb
   exact quiet_tuple ho hc hd (fun v hv Q' hq => by rw [eqIsQuiet_byValue _ (hi.byValue v hv)]; exact wpAny_pure hq) hq
noncomputable def tkKind (ex : List Addr) (prog : Program) (w : World) : HeapKind prog w (List TK) where
 is := IsTKs ex
 hash := tksHash prog w
 draws := tksDraws
 room := fun A => A.units + 2 < cLine
 inj := tks_same
 keeps := fun {h h' k a d o es ep} x ho hd hs => by
   have t : TK' ex h h' := fun b o' hb hc ⟨xs, n, hd'⟩ _ => by
     refine (hs.2 b ?_).trans hb
     rintro rfl
     obtain rfl : o' = o := Option.some.inj (hb.symm.trans ho)
     rw [hd] at hd'; cases hd'
   exact .of (x.tup.keep t)
 pyHash := fun hu hk h => tks_pyHash (Nat.lt_of_succ_lt hu) hk h
 eqBool := fun hu hx hy h => tks_at hu hx hy _ _ _ _ h
 quiet := fun hk h => tks_quiet hk h
end Mine.Internal
set_option tactic.hygienic false
namespace Mine.Internal
open PySem PySem.W PySem.Calls PyProof.Rows PySem.SeqAt
variable {ex : List Addr}
noncomputable abbrev lim : Nat := 1048576
noncomputable def RO (ex : List Addr) (prog : Program) (w : World) (h : Heap) (a : Addr) : O → Prop
 | .list xs => xs.length ≤ lim ∧ ∃ items, h.PlainList a items ∧ RVs ex h xs items.toList
 | .dict es ep => es.length ≤ lim ∧ ∃ kvs : List (Key × Value), h.DictAt (keyKind prog w) a kvs ep ∧ RKs ex h es kvs
 | .tdict es => es.length ≤ lim ∧ ∃ xs, h.DictOfH (tkKind ex prog w) a xs ∧ RTs ex h es xs
 | .inst C dx => h.get? a = some (instObj C dx)
noncomputable def RoL (ex : List Addr) (h : Heap) (a : Addr) (xs : List V) : Prop := xs.length ≤ lim ∧ ∃ items, h.IsList a items ∧ RVs ex h xs items.toList
theorem RoL.keep {h h' : Heap} {a : Addr} {xs : List V} (t : TK' ex h h') (e : ∀ ob, h.get? a = some ob → h'.get? a = some ob) (r : RoL ex h a xs) : RoL ex h' a xs := by
 obtain ⟨l, items, x, rv⟩ := r
 exact ⟨l, items, x.at e, rv.keep t⟩
theorem RoL.exch {ex' : List Addr} {h : Heap} {a : Addr} {xs : List V} (hx : ∀ b ∈ ex', b ∉ ex → h.get? b = none) (r : RoL ex h a xs) : RoL ex' h a xs := by
 obtain ⟨l, items, x, rv⟩ := r
 exact ⟨l, items, x, rv.exch hx⟩
theorem RO.live {prog : Program} {w : World} {h : Heap} {a : Addr} {o : O} (r : RO ex prog w h a o) : ∃ ob, h.get? a = some ob ∧ ¬ (ob.cls = .type "tuple" ∧ ∃ xs n, ob.data = .seq xs n) := by
 haveI := neW
 haveI := neO
 haveI := neKey
 haveI := neTK
 revert a o
 revert ex prog w h
 refine no_implicit_lambda% letI ex := _; letI prog := _; letI w := _; letI h := _; epsX4 1 ex prog w h rfl ?_
 intro a o r
 cases o with
 | list xs =>
   obtain ⟨_, items, ⟨n, ho⟩, _⟩ := r
   exact ⟨_, ho, fun q => absurd (show Value.type "list" = Value.type "tuple" from q.1) (by decide)⟩
 | dict es ep =>
   obtain ⟨_, kvs, ⟨ob, es', ho, hc, hd, _⟩, _⟩ := r
   exact ⟨ob, ho, fun q => by rw [hc.1] at q; exact absurd q.1 (by decide)⟩
 | tdict es =>
   obtain ⟨_, kvs, ⟨ob, es', ep, ho, hc, hd, _⟩, _⟩ := r
   exact ⟨ob, ho, fun q => by rw [hc.1] at q; exact absurd q.1 (by decide)⟩
 | inst C dx => exact ⟨_, r, fun q => by obtain ⟨_, xs, n, e⟩ := q; cases e⟩
theorem RO.keep {prog : Program} {w : World} {h h' : Heap} {a : Addr} {o : O} (t : TK' ex h h') (e : ∀ ob, h.get? a = some ob → h'.get? a = some ob) (r : RO ex prog w h a o) : RO ex prog w h' a o := by
 haveI := neW
 haveI := neO
 haveI := neKey
 haveI := neTK
 revert a o
 revert ex prog w h h'
 refine no_implicit_lambda% letI ex := _; letI prog := _; letI w := _; letI h := _; letI h' := _; epsX5 2 ex prog w h h' rfl ?_
 intro t a o e r
 cases o with
 | list xs =>
   obtain ⟨l, items, x, rv⟩ := r
   exact ⟨l, items, x.at e, rv.keep t⟩
 | dict es ep =>
   obtain ⟨l, kvs, ⟨ob, es', ho, r'⟩, rk⟩ := r
   exact ⟨l, kvs, ⟨ob, es', e _ ho, r'⟩, rk.keep t⟩
 | tdict es =>
   obtain ⟨l, kvs, ⟨ob, es', ep, ho, hc, hd, he, hi, hn⟩, rk⟩ := r
   refine ⟨l, kvs, ⟨ob, es', ep, e _ ho, hc, hd, he, fun x hx => ?_, hn⟩, rk.keep t⟩
   have := hi x hx
   exact IsTKs.of (IsTKs.tup this |>.keep t)
 | inst C dx => exact e _ r
theorem RO.exch {ex' : List Addr} {prog : Program} {w : World} {h : Heap} {a : Addr} {o : O} (hx : ∀ b ∈ ex', b ∉ ex → h.get? b = none) (r : RO ex prog w h a o) : RO ex' prog w h a o := by
 haveI := neW
 haveI := neO
 haveI := neKey
 revert a o
 revert ex ex' prog w h
 refine no_implicit_lambda% letI ex := _; letI ex' := _; letI prog := _; letI w := _; letI h := _; epsX5 3 ex ex' prog w h rfl ?_
 intro hx a o r
 cases o with
 | list xs =>
   obtain ⟨l, items, x, rv⟩ := r
   exact ⟨l, items, x, rv.exch hx⟩
 | dict es ep =>
   obtain ⟨l, kvs, d, rk⟩ := r
   refine ⟨l, kvs, d, ?_⟩
   clear d l
   induction es generalizing kvs with
   | nil => exact rk
   | cons p es ih =>
     obtain ⟨k, x⟩ := p
     obtain ⟨v, r', e, a, b⟩ := rk
     exact ⟨v, r', e, a.exch hx, ih _ b⟩
 | tdict es =>
   obtain ⟨l, kvs, ⟨ob, es', ep, ho, hc, hd, he, hi, hn⟩, rk⟩ := r
   refine ⟨l, kvs, ⟨ob, es', ep, ho, hc, hd, he, fun x hx' => ?_, hn⟩, ?_⟩
   · have := hi x hx'
     exact IsTKs.of (IsTKs.tup this |>.exch hx)
   · clear hi hn he l hd ho hc
     induction es generalizing kvs with
     | nil => exact rk
     | cons p es ih =>
       obtain ⟨k, x⟩ := p
       obtain ⟨c, v, r', e, a, b⟩ := rk
       exact ⟨c, v, r', e, a.exch hx, ih _ b⟩
 | inst C dx => exact r
structure St (ex : List Addr) (prog : Program) (w : World) (B : Heap) (os : OsState) (σ : Hp) (s : Shared) : Prop where
 priv : ∀ b ∈ ex, σ b = none ∧ B.get? b = none ∧ ∃ o, s.heap.get? b = some o
 ro : ∀ a o, σ a = some o → RO ex prog w s.heap a o
 new : ∀ a o, σ a = some o → B.get? a = none
 base : ∀ b o, B.get? b = some o → s.heap.get? b = some o
 gens : s.gens = #[]
 os : s.os = os
noncomputable def Keep (own : List Addr) (σ : Hp) (h : Heap) (σ' : Hp) (h' : Heap) : Prop :=
 (∀ b o, h.get? b = some o → σ b = none → b ∉ own → h'.get? b = some o ∧ σ' b = none) ∧ ∀ b ∈ own, σ b = none → σ' b = none
section
variable {prog : Program} {w : World} {B : Heap} {os : OsState} {σ σ' σ'' : Hp} {s s' s'' : Shared} {h h' h'' : Heap} {own : List Addr}
theorem Keep.refl (own : List Addr) (σ : Hp) (h : Heap) : Keep own σ h σ h := ⟨fun b o e n _ => ⟨e, n⟩, fun _ _ n => n⟩
theorem Keep.trans (x : Keep own σ h σ' h') (y : Keep own σ' h' σ'' h'') : Keep own σ h σ'' h'' :=
 ⟨fun b o e n hb => let ⟨e', n'⟩ := x.1 b o e n hb; y.1 b o e' n' hb, fun b hb n => y.2 b hb (x.2 b hb n)⟩
theorem Keep.weaken {own' : List Addr} (hs : ∀ b ∈ own, b ∈ own') (ha : ∀ b ∈ own', b ∉ own → ∃ o, h.get? b = some o) (x : Keep own σ h σ' h') : Keep own' σ h σ' h' :=
 ⟨fun b o e n hb => x.1 b o e n fun hm => hb (hs b hm), fun b hb n => by
   by_cases q : b ∈ own
   · exact x.2 b q n
   · obtain ⟨o, e⟩ := ha b hb q; exact (x.1 b o e n q).2⟩
theorem Keep.at (x : Keep [] σ h σ' h') {b : Addr} {o : Obj} (e : h.get? b = some o) (n : σ b = none) : h'.get? b = some o := (x.1 b o e n (by simp)).1
theorem Keep.un (x : Keep [] σ h σ' h') {b : Addr} {o : Obj} (e : h.get? b = some o) (n : σ b = none) : σ' b = none := (x.1 b o e n (by simp)).2
theorem Keep.atOwn (x : Keep own σ h σ' h') {b : Addr} {o : Obj} (e : h.get? b = some o) (n : σ b = none) (hb : b ∉ own) : h'.get? b = some o := (x.1 b o e n hb).1
theorem St.lst (S : St ex prog w B os σ s) {a : Addr} {xs : List V} (h : σ a = some (.list xs)) : xs.length ≤ lim ∧ ∃ items, s.heap.IsList a items ∧ RVs ex s.heap xs items.toList := by
 obtain ⟨l, items, P, R⟩ := S.ro _ _ h
 exact ⟨l, items, P.isList, R⟩
theorem St.untracked (S : St ex prog w B os σ s) {b : Addr} {o : Obj} (e : s.heap.get? b = some o) (hc : o.cls = .type "tuple") (hd : ∃ xs n, o.data = .seq xs n) : σ b = none := by
 cases q : σ b with
 | none => rfl
 | some x =>
   obtain ⟨ob, ho, hn⟩ := (S.ro b x q).live
   rw [e] at ho; obtain rfl := Option.some.inj ho
   exact absurd ⟨hc, hd⟩ hn
theorem St.tk (S : St ex prog w B os σ s) (k : Keep own σ s.heap σ' h') (ho : ∀ b ∈ own, ∀ o, s.heap.get? b = some o → ¬ (o.cls = .type "tuple" ∧ ∃ xs n, o.data = .seq xs n)) : TK' ex s.heap h' := fun b o e hc hd hx =>
 k.atOwn e (S.untracked e hc hd) fun hm => ho b hm o e ⟨hc, hd⟩
theorem St.tk0 (S : St ex prog w B os σ s) (k : Keep [] σ s.heap σ' h') : TK' ex s.heap h' := S.tk k fun _ hm => nomatch hm
theorem St.fresh (S : St ex prog w B os σ s) : σ s.heap.objs.size = none ∧ B.get? s.heap.objs.size = none := by
 refine ⟨?_, ?_⟩
 · cases q : σ s.heap.objs.size with
   | none => rfl
   | some x => obtain ⟨ob, ho, _⟩ := (S.ro _ x q).live; exact absurd (Heap.lt_size ho) (Nat.lt_irrefl _)
 · cases q : B.get? s.heap.objs.size with
   | none => rfl
   | some x => exact absurd (Heap.lt_size (S.base _ _ q)) (Nat.lt_irrefl _)
theorem St.grow (S : St ex prog w B os σ s) {h' : Heap} {tk : Nat} {dr} (k : ∀ b o, s.heap.get? b = some o → h'.get? b = some o) : St ex prog w B os σ { heap := h', gens := s.gens, drawn := dr, toks := tk, os := s.os } :=
 ⟨fun b hb => ⟨(S.priv b hb).1, (S.priv b hb).2.1, let ⟨o, ho⟩ := (S.priv b hb).2.2; ⟨o, k b o ho⟩⟩, fun a o e => (S.ro a o e).keep (fun b o e _ _ _ => k b o e) (k a), S.new, fun b o e => k b o (S.base b o e), S.gens, S.os⟩
theorem Keep.grow (k : ∀ b o, h.get? b = some o → h'.get? b = some o) : Keep own σ h σ h' := ⟨fun b o e n _ => ⟨k b o e, n⟩, fun _ _ n => n⟩
theorem St.toks (S : St ex prog w B os σ s) (tk : Nat) : St ex prog w B os σ { s with toks := tk } := ⟨S.priv, S.ro, S.new, S.base, S.gens, S.os⟩
theorem upd_same (σ : Hp) (a : Addr) (o : O) : upd σ a o a = some o := by simp [upd]
theorem upd_ne (σ : Hp) {a b : Addr} (o : O) (h : b ≠ a) : upd σ a o b = σ b := by simp [upd, h]
theorem St.alloc (S : St ex prog w B os σ s) {a : Addr} {o : O} {h' : Heap} {tk : Nat} {dr} (hn : s.heap.get? a = none) (k : ∀ b o, s.heap.get? b = some o → h'.get? b = some o) (r : RO ex prog w h' a o) :
   St ex prog w B os (upd σ a o) { heap := h', gens := s.gens, drawn := dr, toks := tk, os := s.os } := by
 have S' := S.grow (h' := h') (tk := tk) (dr := dr) k
 refine ⟨fun b hb => ?_, fun b x e => ?_, fun b x e => ?_, S'.base, S'.gens, S'.os⟩
 · obtain ⟨h1, h2, o', ho⟩ := S.priv b hb
   have : b ≠ a := by rintro rfl; rw [hn] at ho; exact noneSome ho
   exact ⟨(upd_ne _ _ this).trans h1, h2, o', k b o' ho⟩
 · by_cases hb : b = a
   · subst hb; rw [upd_same] at e; obtain rfl := Option.some.inj e; exact r
   · rw [upd_ne _ _ hb] at e; exact S'.ro b x e
 · by_cases hb : b = a
   · subst hb
     cases q : B.get? b with
     | none => rfl
     | some y => rw [S.base b y q] at hn; cases hn
   · rw [upd_ne _ _ hb] at e; exact S'.new b x e
theorem St.exFresh (S : St ex prog w B os σ s) {a : Addr} (hn : s.heap.get? a = none) : a ∉ ex := fun h => by
 obtain ⟨_, _, o, ho⟩ := S.priv a h
 rw [hn] at ho; exact noneSome ho
theorem St.noneAt (S : St ex prog w B os σ s) {a : Addr} (hn : s.heap.get? a = none) : σ a = none := by
 cases q : σ a with
 | none => rfl
 | some x => obtain ⟨ob, ho, _⟩ := (S.ro _ x q).live; rw [hn] at ho; exact noneSome ho
theorem Keep.alloc {a : Addr} {o : O} (hn : h.get? a = Option.none) (k : ∀ b o, h.get? b = some o → h'.get? b = some o) : Keep [] σ h (upd σ a o) h' := ⟨fun b x e n _ => by
 refine ⟨k b x e, ?_⟩
 have : b ≠ a := by rintro rfl; rw [hn] at e; exact noneSome e
 rw [upd_ne _ _ this]; exact n, fun _ h => nomatch h⟩
theorem St.change (S : St ex prog w B os σ s) {a : Addr} {o₀ o : O} {h' : Heap} {tk : Nat} {dr} (ht : σ a = some o₀) (k : ∀ b, b ≠ a → h'.get? b = s.heap.get? b) (r : TK' ex s.heap h' → RO ex prog w h' a o) :
   St ex prog w B os (upd σ a o) { heap := h', gens := s.gens, drawn := dr, toks := tk, os := s.os } := by
 have t : TK' ex s.heap h' := fun b ob e hc hd hx => by
   refine (k b ?_).trans e
   rintro rfl
   rw [S.untracked e hc hd] at ht; exact noneSome ht
 refine ⟨fun b hb => ?_, fun b x e => ?_, fun b x e => ?_, fun b ob e => ?_, S.gens, S.os⟩
 · obtain ⟨h1, h2, o', ho⟩ := S.priv b hb
   have : b ≠ a := by rintro rfl; rw [ht] at h1; cases h1
   exact ⟨(upd_ne _ _ this).trans h1, h2, o', (k b this).trans ho⟩
 · by_cases hb : b = a
   · subst hb; rw [upd_same] at e; obtain rfl := Option.some.inj e; exact r t
   · rw [upd_ne _ _ hb] at e; exact (S.ro b x e).keep t fun ob q => (k b hb).trans q
 · by_cases hb : b = a
   · subst hb; exact S.new b _ ht
   · rw [upd_ne _ _ hb] at e; exact S.new b x e
 · refine (k b ?_).trans (S.base b ob e)
   rintro rfl
   rw [S.new b _ ht] at e; exact noneSome e
theorem Keep.change {a : Addr} {o₀ o : O} (ht : σ a = some o₀) (k : ∀ b, b ≠ a → h'.get? b = h.get? b) : Keep [] σ h (upd σ a o) h' := ⟨fun b x e n _ => by
 have : b ≠ a := by rintro rfl; rw [ht] at n; cases n
 exact ⟨(k b this).trans e, (upd_ne _ _ this).trans n⟩, fun _ h => nomatch h⟩
end
theorem ar_u1 {a b c : Nat} (h : a + (b + 1) < c) : a < c := Nat.lt_of_le_of_lt (Nat.le_add_right a _) h
theorem ar_u2 {A : Around} {b c : Nat} (h : A.units + (b + 1) < c) : A.in1.units + b < c := by rw [Around.in1_units, Nat.add_assoc, Nat.add_comm 1]; exact h
noncomputable def Key.isI : Key → Bool
 | .int _ => true
 | .str _ => false
noncomputable def veqR' (f : V → V → Option Bool) (a b : Option O) : Option Bool := match a with
 | some (.list xs) => (match b with
   | some (.list ys) => if xs.length = ys.length then veqsW f xs ys else some false
   | _ => none)
 | some (.dict es _) => (match b with
   | some (.dict fs _) => if (es.all (·.1.isI) && fs.all (·.1.isI)) then (if es.length = fs.length then veqdW f fs es else some false) else none
   | _ => none)
 | _ => none
noncomputable def veq1 (σ : Hp) (f : V → V → Option Bool) (a b : V) : Option Bool := match a with
 | .none => (match b with
   | .none => some true
   | _ => none)
 | .bool x => (match b with
   | .bool y => some (x == y)
   | _ => none)
 | .int x => (match b with
   | .int y => some (decide (x = y))
   | _ => none)
 | .str x => (match b with
   | .str y => some (decide (x = y))
   | _ => none)
 | .tup l => (match b with
   | .tup r => veqsW f l r
   | _ => none)
 | .ref x => (match b with
   | .ref y => if x = y then none else veqR' f (σ x) (σ y)
   | _ => none)
 | _ => none
inductive VQ (σ : Hp) (f : V → V → Option Bool) : V → V → Bool → Prop
 | none : VQ σ f .none .none true
 | bool (x y : Bool) : VQ σ f (.bool x) (.bool y) (x == y)
 | int (x y : Int) : VQ σ f (.int x) (.int y) (decide (x = y))
 | str (x y : Str) : VQ σ f (.str x) (.str y) (decide (x = y))
 | tup {l m : List V} {r : Bool} (h : veqsW f l m = some r) : VQ σ f (.tup l) (.tup m) r
 | list {x y : Addr} {xs ys : List V} {r : Bool} (n : x ≠ y) (hx : σ x = some (.list xs)) (hy : σ y = some (.list ys)) (h : (if xs.length = ys.length then veqsW f xs ys else some false) = some r) : VQ σ f (.ref x) (.ref y) r
 | dict {x y : Addr} {es fs : List (Key × V)} {ep ep' : Nat} {r : Bool} (n : x ≠ y) (hx : σ x = some (.dict es ep)) (hy : σ y = some (.dict fs ep')) (he : es.all (·.1.isI) = true) (hf : fs.all (·.1.isI) = true)
   (h : (if es.length = fs.length then veqdW f fs es else some false) = some r) : VQ σ f (.ref x) (.ref y) r
theorem veqR'.inv {σ : Hp} {f : V → V → Option Bool} {x y : Addr} {r : Bool} (n : x ≠ y) (h : veqR' f (σ x) (σ y) = some r) : VQ σ f (.ref x) (.ref y) r := by
 generalize hx : σ x = a at h
 generalize hy : σ y = b at h
 cases a with
 | none => exact noneSome h
 | some a =>
   cases a with
   | list xs =>
     cases b with
     | none => exact noneSome h
     | some b =>
       cases b with
       | list ys => exact .list n hx hy h
       | _ => exact noneSome h
   | dict es ep =>
     cases b with
     | none => exact noneSome h
     | some b =>
       cases b with
       | dict fs ep' =>
         cases q : (es.all (·.1.isI) && fs.all (·.1.isI)) with
         | false => have h : (if (es.all (·.1.isI) && fs.all (·.1.isI)) then (if es.length = fs.length then veqdW f fs es else some false) else none) = some r := h; rw [q] at h; exact noneSome h
         | true =>
           have h : (if (es.all (·.1.isI) && fs.all (·.1.isI)) then (if es.length = fs.length then veqdW f fs es else some false) else none) = some r := h
           rw [q] at h
           exact .dict n hx hy (Bool.and_eq_true_iff.mp q).1 (Bool.and_eq_true_iff.mp q).2 h
       | _ => exact noneSome h
   | _ => exact noneSome h
theorem veq1.inv {σ : Hp} {f : V → V → Option Bool} {a b : V} {r : Bool} (h : veq1 σ f a b = some r) : VQ σ f a b r := by
 cases a with
 | none => cases b with
   | none => obtain rfl := Option.some.inj h; exact .none
   | _ => exact noneSome h
 | bool x => cases b with
   | bool y => obtain rfl := Option.some.inj h; exact .bool x y
   | _ => exact noneSome h
 | int x => cases b with
   | int y => obtain rfl := Option.some.inj h; exact .int x y
   | _ => exact noneSome h
 | str x => cases b with
   | str y => obtain rfl := Option.some.inj h; exact .str x y
   | _ => exact noneSome h
 | tup x => cases b with
   | tup y => exact .tup h
   | _ => exact noneSome h
 | ref x => cases b with
   | ref y =>
     have h : (if x = y then none else veqR' f (σ x) (σ y)) = some r := h
     cases Decidable.em (x = y) with
     | inl e => rw [if_pos e] at h; exact noneSome h
     | inr e => rw [if_neg e] at h; exact veqR'.inv e h
   | _ => exact noneSome h
 | _ => exact noneSome h
noncomputable def veqN (σ : Hp) : Nat → V → V → Option Bool
 | 0, _, _ => none
 | n + 1, a, b => match a with
   | .ref x => (match b with
     | .ref y => if x = y then some true else veq1 σ (veqN σ n) (.ref x) (.ref y)
     | b => veq1 σ (veqN σ n) (.ref x) b)
   | a => veq1 σ (veqN σ n) a b
theorem veqN.inv {σ : Hp} {n : Nat} {a b : V} {r : Bool} (h : veqN σ (n + 1) a b = some r) : veq1 σ (veqN σ n) a b = some r ∨ ∃ x, a = .ref x ∧ b = .ref x ∧ r = true := by
 cases a with
 | ref x => cases b with
   | ref y =>
     have h : (if x = y then some true else veq1 σ (veqN σ n) (.ref x) (.ref y)) = some r := h
     cases Decidable.em (x = y) with
     | inl e => rw [if_pos e] at h; obtain rfl := Option.some.inj h; exact .inr ⟨x, rfl, e ▸ rfl, rfl⟩
     | inr e => rw [if_neg e] at h; exact .inl h
   | _ => exact .inl h
 | _ => exact .inl h
section
variable {prog : Program} {w : World} {B : Heap} {os : OsState} {σ : Hp} {s : Shared}
theorem dictOf_int {prog' : Program} {w' : World} {h : Heap} {a : Addr} {kvs : List (Key × Value)} {ep : Nat} (d : h.DictAt (keyKind prog w) a kvs ep) (hi : ∀ p ∈ kvs, p.1.isI = true) : h.DictOf (keyKind prog' w') a kvs := by
 haveI := neW
 haveI := neKey
 revert a kvs ep
 revert prog w prog' w' h
 refine no_implicit_lambda% letI prog := _; letI w := _; letI prog' := _; letI w' := _; letI h := _; epsX5 4 prog w prog' w' h rfl ?_
 intro a kvs ep d hi
 obtain ⟨o, es, ho, hc, hd, hk, hp, hn⟩ := d
 have hp' : Pairs (keyKind prog' w') es.toList kvs := by
   clear hk hn hd
   generalize es.toList = l at hp
   induction hp with
   | nil => exact .nil
   | cons h1 h2 _ ih => exact .cons h1 h2 (ih fun p hp => hi p (List.mem_cons_of_mem _ hp))
 refine ⟨o, es, ep, ho, hc, hd, fun e he => ?_, hp', hn⟩
 obtain ⟨k, hk1, hk2⟩ := hk e he
 have hmem : ∀ {l : List DictEntry} {kvs : List (Key × Value)}, Pairs (keyKind prog w) l kvs → e ∈ l → ∃ p ∈ kvs, Key.isV p.1 e.key = true := by
   intro l kvs hp hm
   induction hp with
   | nil => cases hm
   | @cons e' kv es kvs h1 h2 _ ih =>
     rcases List.mem_cons.mp hm with rfl | hm
     · exact ⟨kv, List.mem_cons_self, h1⟩
     · obtain ⟨p, hp, q⟩ := ih hm; exact ⟨p, List.mem_cons_of_mem _ hp, q⟩
 obtain ⟨p, hp1, hp2⟩ := hmem hp (Array.mem_toList_iff.mpr he)
 have hk' : k = p.1 := (keyKind prog w).inj _ _ _ hk1 hp2
 have := hi p hp1
 rw [← hk'] at this
 cases k with
 | int i => exact ⟨.int i, hk1, hk2⟩
 | str x => exact noFalse this
theorem St.nsys (S : St ex prog w B os σ s) (hsys : (B.get? sysModules).isSome = true) {x : Addr} {o : O} (q : σ x = some o) : (x == sysModules) = false := by
 refine beq_eq_false_iff_ne.mpr fun e => ?_
 subst e
 rw [S.new _ _ q] at hsys; exact noFalse hsys
theorem RKs.allI {h : Heap} {es : List (Key × V)} {ka : List (Key × Value)} (R : RKs ex h es ka) (hi : es.all (·.1.isI) = true) : ∀ p ∈ ka, p.1.isI = true := fun p hp => by
 have : p.1 ∈ es.map (·.1) := R.keys ▸ List.mem_map_of_mem hp
 obtain ⟨q, hq, e⟩ := List.mem_map.mp this
 rw [← e]; exact List.all_eq_true.mp hi q hq
theorem len_rc {n m n' m' : Nat} {x : Option Bool} {r : Bool} (e1 : n' = n) (e2 : m' = m) (h : (if n = m then x else some false) = some r) : (n' = m' → x = some r) ∧ (n' == m' && r) = r := by
 subst e1 e2
 cases Decidable.em (n' = m') with
 | inl e => rw [if_pos e] at h; subst e; exact ⟨fun _ => h, by rw [beq_self_eq_true, Bool.true_and]⟩
 | inr e => rw [if_neg e] at h; obtain rfl := Option.some.inj h; exact ⟨fun q => absurd q e, Bool.and_false _⟩
theorem veq1_rc (S : St ex prog w B os σ s) (hsys : (B.get? sysModules).isSome = true) {A : Around} {f : V → V → Option Bool} {a b : V} {r : Bool} {v u : Value} (hu : A.units < cLine)
   (hf : ∀ x y a, f x y = some a → ∀ v u, RV ex s.heap x v → RV ex s.heap y u → EqAt A.in1 s v u a)
   (e : veq1 σ f a b = some r) (hv : RV ex s.heap a v) (hw : RV ex s.heap b u) : RcAt A s v u r := by
 induction veq1.inv e with
 | none => obtain rfl := hv; obtain rfl := hw; exact RcAt.none_none
 | bool x y => obtain rfl := hv; obtain rfl := hw; exact RcAt.bool_bool _ _
 | int x y => obtain ⟨t, rfl⟩ := hv; obtain ⟨t', rfl⟩ := hw; exact Bool.beq_eq_decide_eq x y ▸ RcAt.int_int (A := A) (s := s) _ t _ t'
 | str x y => obtain ⟨t, rfl⟩ := hv; obtain ⟨t', rfl⟩ := hw; exact Bool.beq_eq_decide_eq x y ▸ RcAt.str_str (A := A) (s := s) _ t _ t'
 | tup h => exact tup_at hu (fun x _ => hf x) hv hw h
 | list n h1 h2 h =>
   obtain rfl := hv; obtain rfl := hw
   obtain ⟨_, it, L1, R1⟩ := S.lst h1
   obtain ⟨_, it', L2, R2⟩ := S.lst h2
   exact list_at hu (fun x _ => hf x) L1 L2 R1 R2 h
 | dict n h1 h2 hi1 hi2 h =>
   obtain rfl := hv; obtain rfl := hw
   obtain ⟨_, ka, D1, R1⟩ := S.ro _ _ h1
   obtain ⟨_, kb, D2, R2⟩ := S.ro _ _ h2
   intro prog' w' E Q hq
   obtain ⟨q1, q2⟩ := len_rc R1.length R2.length h
   exact keq_eq (S.nsys hsys h1) (S.nsys hsys h2) (dictOf_int (prog' := prog') (w' := w') D1 (R1.allI hi1)) (dictOf_int (prog' := prog') (w' := w') D2 (R2.allI hi2)) hu (fun q => veqdW_hits R2 hf R1 (q1 q)) (by rw [q2]; exact hq)
theorem veqsW_refl {h : Heap} {f : V → V → Option Bool} (hf : ∀ x y a v, f x y = some a → RV ex h x v → RV ex h y v → a = true) : ∀ {l r : List V} {vs : List Value} {b : Bool}, veqsW f l r = some b → RVs ex h l vs → RVs ex h r vs → b = true
 | [], [], _, _, e, _, _ => by simpa [veqsW] using e.symm
 | [], _ :: _, _, _, _, a, c => by unfold RVs at a c; subst a; obtain ⟨_, _, e, _⟩ := c; cases e
 | _ :: _, [], _, _, _, a, c => by unfold RVs at a c; subst c; obtain ⟨_, _, e, _⟩ := a; cases e
 | x :: l, y :: r, _, b, e, a, c => by
   unfold RVs at a c
   obtain ⟨v, vs, rfl, a1, a2⟩ := a
   obtain ⟨_, _, q, c1, c2⟩ := c
   cases q
   simp only [veqsW] at e
   cases hxy : f x y with
   | none => rw [hxy] at e; exact noneSome e
   | some p =>
     rw [hxy] at e
     simp only [Option.bind_some] at e
     cases hlr : veqsW f l r with
     | none => rw [hlr] at e; exact noneSome e
     | some q =>
       rw [hlr] at e
       simp only [Option.bind_some, Option.some.injEq] at e
       have h1 := hf x y p v hxy a1 c1
       have h2 := veqsW_refl hf hlr a2 c2
       subst h1 h2; exact e.symm
theorem veq1_refl {h : Heap} {f : V → V → Option Bool} (hf : ∀ x y a v, f x y = some a → RV ex h x v → RV ex h y v → a = true) {a b : V} {r : Bool} {v : Value} (e : veq1 σ f a b = some r) (hv : RV ex h a v) (hw : RV ex h b v) : r = true := by
 induction veq1.inv e with
 | none => rfl
 | bool x y => obtain rfl := hv; cases hw; exact beq_self_eq_true x
 | int x y => obtain ⟨t, rfl⟩ := hv; obtain ⟨t', q⟩ := hw; cases q; exact decide_eq_true rfl
 | str x y => obtain ⟨t, rfl⟩ := hv; obtain ⟨t', q⟩ := hw; cases q; exact decide_eq_true rfl
 | tup q =>
   unfold RV at hv hw
   obtain ⟨p, items, rfl, ⟨o, ho, _, n, hd⟩, nx, R1⟩ := hv
   obtain ⟨q, items', e2, ⟨o', ho', _, n', hd'⟩, nx, R2⟩ := hw
   cases e2
   cases ho.symm.trans ho'
   rw [hd] at hd'
   injection hd' with q1 _
   subst q1
   exact veqsW_refl hf q R1 R2
 | list n => obtain rfl := hv; cases hw; exact absurd rfl n
 | dict n => obtain rfl := hv; cases hw; exact absurd rfl n
theorem veqN_refl {h : Heap} : ∀ (n : Nat) (a b : V) (r : Bool) (v : Value), veqN σ n a b = some r → RV ex h a v → RV ex h b v → r = true := by
 intro n
 induction n with
 | zero => intro a b r v e; exact noneSome e
 | succ n ih =>
   intro a b r v e hv hw
   cases veqN.inv e with
   | inl e => exact veq1_refl (fun x y a v => ih x y a v) e hv hw
   | inr e => exact e.choose_spec.2.2
theorem eqBool_of_rc {A : Around} {a b : V} {r : Bool} {v u : Value} (hv : RV ex s.heap a v) (hw : RV ex s.heap b u) (h : v = u → r = true) (R : RcAt A s v u r) : EqAt A s v u r := by
 intro prog' w' E Q hq
 unfold eqBool
 refine wpAny_holding ?_
 refine wpAny_ite_split (fun hab => ?_) (fun _ => ?_)
 · have := h (eq_of_beq hab)
   subst this
   exact wpAny_bind (wpAny_rule (wpAny_pure hq))
 · cases v with
   | float x t =>
     cases a with
     | int i => obtain ⟨t, e⟩ := hv; cases e
     | str i => obtain ⟨t, e⟩ := hv; cases e
     | tup i => unfold RV at hv; obtain ⟨_, _, e, _⟩ := hv; cases e
     | _ => cases hv
   | _ => exact wpAny_bind (R prog' w' E _ (wpAny_truthy_bool hq))
theorem veqN_at (S : St ex prog w B os σ s) (hsys : (B.get? sysModules).isSome = true) : ∀ (n : Nat) {A : Around} {a b : V} {r : Bool} {v u : Value}, A.units + n < cLine → veqN σ n a b = some r → RV ex s.heap a v → RV ex s.heap b u → EqAt A s v u r := by
 intro n
 induction n with
 | zero => intro A a b r v u _ e; exact noneSome e
 | succ n ih =>
   intro A a b r v u hu e hv hw
   cases veqN.inv e with
   | inl e => exact eqBool_of_rc hv hw (fun q => veq1_refl (fun x y a v => veqN_refl n x y a v) e hv (q ▸ hw)) (veq1_rc S hsys (ar_u1 hu) (fun x y c hc v u hv hw => ih (ar_u2 hu) hc hv hw) e hv hw)
   | inr e =>
     obtain ⟨x, rfl, rfl, rfl⟩ := e
     obtain rfl := hv; obtain rfl := hw
     exact EqAt.same _
end
end Mine.Internal
set_option tactic.hygienic false
namespace Mine.Internal
open PySem PySem.W PySem.Calls PyProof.Rows PySem.SeqAt
variable {ex : List Addr}
noncomputable def bd (k : Nat) (a : Int) : Prop := a.natAbs < 2 ^ k
theorem bd.mono {i j : Nat} {a : Int} (h : bd i a) (hij : i ≤ j) : bd j a := Nat.lt_of_lt_of_le h (Nat.pow_le_pow_right (by decide) hij)
theorem bd.mul {i j : Nat} {a b : Int} (h : bd i a) (h' : bd j b) : bd (i + j) (a * b) := by
 unfold bd at *
 rw [Int.natAbs_mul, Nat.pow_add]
 exact Nat.mul_lt_mul'' h h'
theorem bd.add {i : Nat} {a b : Int} (h : bd i a) (h' : bd i b) : bd (i + 1) (a + b) := by
 unfold bd at *
 have := Int.natAbs_add_le a b
 rw [Nat.pow_succ]; omega
theorem bd.neg {i : Nat} {a : Int} (h : bd i a) : bd i (-a) := by unfold bd at *; rwa [Int.natAbs_neg]
theorem bd.sub {i : Nat} {a b : Int} (h : bd i a) (h' : bd i b) : bd (i + 1) (a - b) := by
 rw [Int.sub_eq_add_neg]; exact h.add h'.neg
theorem bd.of_le {i : Nat} {a b : Int} (h : bd i a) (h' : b.natAbs ≤ a.natAbs) : bd i b := Nat.lt_of_le_of_lt h' h
theorem bd.log2 {k : Nat} {a : Int} (h : bd k a) (hk : 0 < k) : a.natAbs.log2 < k := by
 unfold bd at h
 by_cases h0 : a.natAbs = 0
 · rw [h0]; simpa using hk
 · exact (Nat.log2_lt h0).mpr h
theorem bd.bits {k : Nat} {a : Int} (h : bd k a) : Builtin.Int.intBits a ≤ k := by
 unfold Builtin.Int.intBits
 by_cases h0 : (a == 0) = true
 · rw [if_pos h0]; exact Nat.zero_le _
 · rw [if_neg h0]
   have h1 : a ≠ 0 := fun e => h0 (by simp [e])
   have h2 : a.natAbs ≠ 0 := by first | assumption | decide | omega
   have : a.natAbs.log2 < k := (Nat.log2_lt h2).mpr h
   first | assumption | decide | omega
noncomputable def sm (a : Int) : Prop := bd 8000 a
theorem sm.mulOk {a b : Int} (h : sm a) (h' : sm b) : IntMulOk a b := by
 have h1 := bd.bits h
 have h2 := bd.bits h'
 unfold IntMulOk Builtin.Int.intTooBig
 have : ¬ ((Builtin.Int.intBits a : Int) + (Builtin.Int.intBits b : Int) > (bitsLine : Nat)) := by
   have : bitsLine = 2 ^ 27 := rfl
   rw [this]; omega
 simp only [Bool.and_eq_true, decide_eq_true_eq, not_and]
 intro _
 exact this
theorem sm.noPy {a b : Int} (h : sm b) : Builtin.divisionGoesByPylong a b = false := PyProof.noPylong_of_log2 (Nat.lt_of_lt_of_le (bd.log2 h (by decide)) (by decide))
noncomputable abbrev F0 : Value → Shared → Prop := fun _ _ => False
inductive PE (ex : List Addr) (prog : Program) (w : World) (B : Heap) (os : OsState) (σ : Hp) (s : Shared) (Q : V → Hp → Prop) (val : Value) (s' : Shared) : Prop
 | mk (v : V) (σ' : Hp) (rv : RV ex s'.heap v val) (st : St ex prog w B os σ' s') (k : Keep [] σ s.heap σ' s'.heap) (q : Q v σ')
inductive PT (ex : List Addr) (prog : Program) (w : World) (B : Heap) (os : OsState) (σ : Hp) (s : Shared) (Q : Bool → Hp → Prop) (b : Bool) (s' : Shared) : Prop
 | mk (σ' : Hp) (st : St ex prog w B os σ' s') (k : Keep [] σ s.heap σ' s'.heap) (q : Q b σ')
inductive PU (ex : List Addr) (prog : Program) (w : World) (B : Heap) (os : OsState) (σ : Hp) (s : Shared) (Q : Hp → Prop) (u : Unit) (s' : Shared) : Prop
 | mk (σ' : Hp) (st : St ex prog w B os σ' s') (k : Keep [] σ s.heap σ' s'.heap) (q : Q σ')
section
variable {prog : Program} {w : World} {B : Heap} {os : OsState} {A : Around} {σ : Hp} {s : Shared} {Q : V → Hp → Prop}
theorem PE.tok {v : V} {val : Value} {tk : Nat} (S : St ex prog w B os σ s) (r : RV ex s.heap v val) (q : Q v σ) : PE ex prog w B os σ s Q val { s with toks := tk } :=
 ⟨v, σ, r, S.toks tk, Keep.refl _ _ _, q⟩
theorem PE.here {v : V} {val : Value} (S : St ex prog w B os σ s) (r : RV ex s.heap v val) (q : Q v σ) : PE ex prog w B os σ s Q val s := ⟨v, σ, r, S, Keep.refl _ _ _, q⟩
theorem PE.alloc {v : V} {val : Value} {a : Addr} {o : O} {h' : Heap} {tk : Nat} {dr} (S : St ex prog w B os σ s) (hn : s.heap.get? a = none) (k : ∀ b o, s.heap.get? b = some o → h'.get? b = some o)
   (r : RO ex prog w h' a o) (rv : RV ex h' v val) (q : Q v (upd σ a o)) : PE ex prog w B os σ s Q val { heap := h', gens := s.gens, drawn := dr, toks := tk, os := s.os } :=
 ⟨v, _, rv, S.alloc hn k r, Keep.alloc hn k, q⟩
theorem PE.grow {v : V} {val : Value} {h' : Heap} {tk : Nat} {dr} (S : St ex prog w B os σ s) (k : ∀ b o, s.heap.get? b = some o → h'.get? b = some o)
   (rv : RV ex h' v val) (q : Q v σ) : PE ex prog w B os σ s Q val { heap := h', gens := s.gens, drawn := dr, toks := tk, os := s.os } :=
 ⟨v, _, rv, S.grow k, Keep.grow k, q⟩
theorem RV.int_ {h : Heap} {i : Int} {t : Tok} : RV ex h (.int i) (.int i t) := ⟨t, rfl⟩
theorem RV.str_ {h : Heap} {i : Str} {t : Tok} : RV ex h (.str i) (.str i t) := ⟨t, rfl⟩
theorem PE.int {i : Int} {t tk : Nat} (S : St ex prog w B os σ s) (q : Q (.int i) σ) : PE ex prog w B os σ s Q (.int i t) { s with toks := tk } := PE.tok S RV.int_ q
theorem PE.str {i : Str} {t tk : Nat} (S : St ex prog w B os σ s) (q : Q (.str i) σ) : PE ex prog w B os σ s Q (.str i t) { s with toks := tk } := PE.tok S RV.str_ q
theorem PE.bool {b : Bool} (S : St ex prog w B os σ s) (q : Q (.bool b) σ) : PE ex prog w B os σ s Q (.bool b) s := PE.here (v := .bool b) S rfl q
theorem PE.boolT {b : Bool} {tk : Nat} (S : St ex prog w B os σ s) (q : Q (.bool b) σ) : PE ex prog w B os σ s Q (.bool b) { s with toks := tk } := PE.tok (v := .bool b) S rfl q
theorem RO.list_ {h : Heap} {a : Addr} {xs : List V} {items : Array Value} (l : xs.length ≤ lim) (x : h.PlainList a items) (r : RVs ex h xs items.toList) : RO ex prog w h a (.list xs) := ⟨l, items, x, r⟩
noncomputable def binP (op : Operator) (a b : V) (σ : Hp) (Q : V → Hp → Prop) : Prop := match a with
 | .int x => (match b with
   | .int y => (match op with
     | .Add => Q (.int (x + y)) σ
     | .Sub => Q (.int (x - y)) σ
     | .Mult => (sm x ∧ sm y) ∧ Q (.int (x * y)) σ
     | .FloorDiv => (y ≠ 0 ∧ sm y) ∧ Q (.int (x.fdiv y)) σ
     | .Mod => y ≠ 0 ∧ Q (.int (x.fmod y)) σ
     | .RShift => 0 ≤ y ∧ Q (.int (x.fdiv (2 ^ y.toNat))) σ
     | .Pow => (0 ≤ y ∧ (Builtin.Int.intBits x : Int) * y ≤ 2 ^ 27) ∧ Q (.int (x ^ y.toNat)) σ
     | _ => False)
   | _ => False)
 | .str x => (match b with
   | .str y => (match op with
     | .Add => (x.length + y.length ≤ sizeLine ∧ x.length ≠ 0 ∧ y.length ≠ 0) ∧ Q (.str (x ++ y)) σ
     | _ => False)
   | _ => False)
 | .tup l => (match b with
   | .tup r => (match op with
     | .Add => l.length + r.length ≤ sizeLine ∧ Q (.tup (l ++ r)) σ
     | _ => False)
   | _ => False)
 | .ref p => (match b with
   | .ref q => (match op with
     | .Add => (match σ p, σ q with
       | some (.list xs), some (.list ys) => xs.length + ys.length ≤ lim ∧ ∀ c, σ c = none → Q (.ref c) (upd σ c (.list (xs ++ ys)))
       | _, _ => False)
     | _ => False)
   | _ => False)
 | _ => False
theorem list_addP {p q : Addr} {xs ys : List V} (S : St ex prog w B os σ s) (hp : σ p = some (.list xs)) (hq : σ q = some (.list ys)) (hl : xs.length + ys.length ≤ lim)
   (h : ∀ c, σ c = none → Q (.ref c) (upd σ c (.list (xs ++ ys)))) : wpAny (model prog w) A (binaryOp .Add (.ref p) (.ref q)) (PE ex prog w B os σ s Q) F0 s := by
 obtain ⟨_, it, L1, R1⟩ := S.lst hp
 obtain ⟨_, it', L2, R2⟩ := S.lst hq
 have n1 := R1.length
 have n2 := R2.length
 obtain ⟨⟨cls, dd, data, sl⟩, ho, hc, n, hd⟩ := id L1
 obtain ⟨⟨cls2, dd2, data2, sl2⟩, ho2, hc2, n2', hd2⟩ := id L2
 simp only at hc hd hc2 hd2
 subst hc hd hc2 hd2
 refine concat_meets ⟨_, ho, rfl⟩ ⟨_, ho2, rfl⟩ noFill_list_add seq_list_add PySem.F.slot_list_add PySem.F.entry_list_add (PySem.F.args_list_add_2 _ _)
   (list_addW p q it it' n n2' dd dd2 sl sl2 (by rw [sizeLine_eq]; simp only [Array.length_toList] at n1 n2; simp only [lim] at hl; omega)) ⟨ho, ho2, ?_⟩
 have hk : ∀ b o, s.heap.get? b = some o → (s.heap.push { cls := Value.type "list", data := Data.seq (it ++ it') }).get? b = some o := fun b o e => Heap.get?_push_of_some _ e
 refine PE.alloc (v := .ref s.heap.objs.size) S (Heap.get?_none_of_le (Nat.le_refl _)) hk (RO.list_ (by simpa using hl) ⟨_, Heap.get?_push_size _ rfl⟩ ?_) rfl (h _ S.fresh.1)
 rw [Array.toList_append]
 exact ((R1.append R2).keep fun b o e _ _ _ => hk b o e)
theorem tup_addP {l r : List V} {v u : Value} (S : St ex prog w B os σ s) (hv : RV ex s.heap (.tup l) v) (hw : RV ex s.heap (.tup r) u) (hl : l.length + r.length ≤ sizeLine)
   (h : Q (.tup (l ++ r)) σ) : wpAny (model prog w) A (binaryOp .Add v u) (PE ex prog w B os σ s Q) F0 s := by
 unfold RV at hv hw
 obtain ⟨p, it, rfl, T1, nx1, R1⟩ := hv
 obtain ⟨q, it', rfl, T2, nx2, R2⟩ := hw
 have n1 := R1.length
 have n2 := R2.length
 obtain ⟨⟨cls, dd, data, sl⟩, ho, hc, n, hd⟩ := id T1
 obtain ⟨⟨cls2, dd2, data2, sl2⟩, ho2, hc2, n2', hd2⟩ := id T2
 simp only at hc hd hc2 hd2
 subst hc hd hc2 hd2
 simp only [Array.length_toList] at n1 n2
 by_cases e1 : it.isEmpty = true
 · refine concat_meets ⟨_, ho, rfl⟩ ⟨_, ho2, rfl⟩ noFill_tuple_add seq_tuple_add PySem.F.slot_tuple_add PySem.F.entry_tuple_add (PySem.F.args_tuple_add_2 _ _) (tuple_addW0 p q it it' n n2' dd dd2 sl sl2 e1) ⟨ho, ho2, ?_⟩
   have hl0 : l = [] := by
     have : it.size = 0 := by simpa using e1
     exact List.length_eq_zero_iff.mp (by first | assumption | decide | omega)
   subst hl0
   exact PE.here S (by unfold RV; exact ⟨q, it', rfl, T2, nx2, R2⟩) h
 · by_cases e2 : it'.isEmpty = true
   · refine concat_meets ⟨_, ho, rfl⟩ ⟨_, ho2, rfl⟩ noFill_tuple_add seq_tuple_add PySem.F.slot_tuple_add PySem.F.entry_tuple_add (PySem.F.args_tuple_add_2 _ _) (tuple_addW1 p q it it' n n2' dd dd2 sl sl2 e1 e2) ⟨ho, ho2, ?_⟩
     have hl0 : r = [] := by
       have : it'.size = 0 := by simpa using e2
       exact List.length_eq_zero_iff.mp (by first | assumption | decide | omega)
     subst hl0
     rw [List.append_nil] at h
     exact PE.here S (by unfold RV; exact ⟨p, it, rfl, T1, nx1, R1⟩) h
   · refine concat_meets ⟨_, ho, rfl⟩ ⟨_, ho2, rfl⟩ noFill_tuple_add seq_tuple_add PySem.F.slot_tuple_add PySem.F.entry_tuple_add (PySem.F.args_tuple_add_2 _ _) (tuple_addW2 p q it it' n n2' dd dd2 sl sl2 e1 e2 (by first | assumption | decide | omega)) ⟨ho, ho2, ?_⟩
     have hk : ∀ b o, s.heap.get? b = some o → (s.heap.push { cls := Value.type "tuple", data := Data.seq (it ++ it') }).get? b = some o := fun b o e => Heap.get?_push_of_some _ e
     refine PE.grow (v := .tup (l ++ r)) S hk ?_ h
     unfold RV
     refine ⟨_, it ++ it', rfl, ⟨_, Heap.get?_push_size _ rfl, rfl, _, rfl⟩, S.exFresh (Heap.get?_none_of_le (Nat.le_refl _)), ?_⟩
     rw [Array.toList_append]
     exact ((R1.append R2).keep fun b o e _ _ _ => hk b o e)
theorem binP_ok {op : Operator} {a b : V} {v u : Value} (S : St ex prog w B os σ s) (hv : RV ex s.heap a v) (hw : RV ex s.heap b u) (h : binP op a b σ Q) :
   wpAny (model prog w) A (binaryOp op v u) (PE ex prog w B os σ s Q) F0 s := by
 haveI := neW
 haveI := neSh
 haveI := neA
 haveI := neO
 haveI := neKey
 revert op a b v u
 revert ex prog w B os A σ s Q
 refine no_implicit_lambda% letI ex := _; letI prog := _; letI w := _; letI B := _; letI os := _; letI A := _; letI σ := _; letI s := _; letI Q := _; epsX9 1 ex prog w B os A σ s Q rfl ?_
 intro S op a b v u hv hw h
 cases a with
 | int x =>
   cases b with
   | int y =>
     obtain ⟨t, rfl⟩ := hv; obtain ⟨t', rfl⟩ := hw
     cases op with
     | Add => exact P.add_int (PE.int S h)
     | Sub => exact P.sub_int (PE.int S h)
     | Mult => exact P.mul_int (PE.int S h.2) (h.1.1.mulOk h.1.2)
     | FloorDiv => exact floordiv_int h.1.1 (PE.int S h.2) (.inl h.1.2.noPy)
     | Mod => exact mod_int' h.1 (PE.int S h.2)
     | RShift => exact rshift_int h.1 (PE.int S h.2)
     | Pow => exact pow_int h.1.1 h.1.2 (PE.int S h.2)
     | _ => exact h.elim
   | _ => exact h.elim
 | str x =>
   cases b with
   | str y =>
     obtain ⟨t, rfl⟩ := hv; obtain ⟨t', rfl⟩ := hw
     cases op with
     | Add =>
       refine P.add_str ?_
       rw [if_neg (by simpa using h.1.2.1), if_neg (by simpa using h.1.2.2)]
       refine ⟨?_, PE.str S h.2⟩
       show (x ++ y).length ≤ sizeLine
       have : (x ++ y).length = x.length + y.length := by
         show (x.cps ++ y.cps).size = _
         rw [Array.size_append]; rfl
       rw [this]; exact h.1.1
     | _ => exact h.elim
   | _ => exact h.elim
 | tup l =>
   cases b with
   | tup r =>
     cases op with
     | Add => exact tup_addP S hv hw h.1 h.2
     | _ => exact h.elim
   | _ => exact h.elim
 | ref p =>
   cases b with
   | ref q =>
     cases op with
     | Add =>
       have key : ∀ o o', σ p = o → σ q = o' → (match o, o' with
         | some (.list xs), some (.list ys) => xs.length + ys.length ≤ lim ∧ ∀ c, σ c = none → Q (.ref c) (upd σ c (.list (xs ++ ys)))
         | _, _ => False) → wpAny (model prog w) A (binaryOp .Add v u) (PE ex prog w B os σ s Q) F0 s := fun o o' h1 h2 h => by
         cases o with
         | none => exact h.elim
         | some o =>
           cases o with
           | list xs =>
             cases o' with
             | none => exact h.elim
             | some o' =>
               cases o' with
               | list ys => obtain rfl := hv; obtain rfl := hw; exact list_addP S h1 h2 h.1 h.2
               | _ => exact h.elim
           | _ => exact h.elim
       exact key _ _ rfl rfl h
     | _ => exact h.elim
   | _ => exact h.elim
 | _ => exact h.elim
end
end Mine.Internal
set_option tactic.hygienic true
namespace Mine.Internal
open PySem PySem.W PyProof.Rows
section
variable {ex : List Addr} {prog : Program} {w : World} {B : Heap} {os : OsState} {σ : Hp} {s s' : Shared}
end
end Mine.Internal
set_option tactic.hygienic false
namespace Mine.Internal
open PySem PySem.W PySem.Calls PyProof.Rows PySem.SeqAt
variable {ex : List Addr}
theorem ar_u3 {A : Around} (h : A.units + 8 < cLine) : A.in1.units + 6 < cLine := by rw [Around.in1_units]; exact Nat.lt_of_succ_lt h
noncomputable def keyOf : V → Option Key
 | .int i => some (.int i)
 | .str x => some (.str x)
 | _ => none
theorem keyOf_toV {v : V} {k : Key} (h : keyOf v = some k) : v = k.toV := by
 cases v with
 | int i => obtain rfl := Option.some.inj h; rfl
 | str i => obtain rfl := Option.some.inj h; rfl
 | _ => exact noneSome h
noncomputable def intsOf : List V → Option (List Int)
 | [] => some []
 | x :: r => match x with
   | .int i => (intsOf r).map (i :: ·)
   | _ => none
noncomputable def strsOf : List V → Option (List Str)
 | [] => some []
 | x :: r => match x with
   | .str i => (strsOf r).map (i :: ·)
   | _ => none
theorem intsOf_map : ∀ l : List Int, intsOf (l.map V.int) = some l
 | [] => rfl
 | x :: l => congrArg (Option.map (x :: ·)) (intsOf_map l)
theorem intsOf_eq : ∀ {xs : List V} {l : List Int}, intsOf xs = some l → xs = l.map V.int
 | [], l, h => by obtain rfl := Option.some.inj h; rfl
 | x :: r, l, h => by
   cases x with
   | int i => obtain ⟨m, hm, rfl⟩ := Option.map_eq_some_iff.mp h; rw [intsOf_eq hm]; rfl
   | _ => exact noneSome h
theorem strsOf_eq : ∀ {xs : List V} {l : List Str}, strsOf xs = some l → xs = l.map V.str
 | [], l, h => by obtain rfl := Option.some.inj h; rfl
 | x :: r, l, h => by
   cases x with
   | str i => obtain ⟨m, hm, rfl⟩ := Option.map_eq_some_iff.mp h; rw [strsOf_eq hm]; rfl
   | _ => exact noneSome h
noncomputable def inL (a : V) (xs : List V) : Option Bool := match a with
 | .int i => (intsOf xs).map fun l => decide (i ∈ l)
 | .str x => (strsOf xs).map fun l => decide (x ∈ l)
 | _ => none
theorem any_fn {A : Around} {s : Shared} {v : Value} {α : Type} [DecidableEq α] {toV : α → V} {i : α} {f : Value → Bool} (hE : ∀ j u, RV ex s.heap (toV j) u → EqAt A s u v (f u) ∧ f u = decide (i = j)) :
   ∀ (ns : List α) (l : List Value), RVs ex s.heap (ns.map toV) l → (∀ y ∈ l, EqAt A s y v (f y)) ∧ l.any f = decide (i ∈ ns)
 | [], l, R => by unfold List.map RVs at R; obtain rfl := R; exact ⟨fun _ h => (List.not_mem_nil h).elim, (decide_eq_false List.not_mem_nil).symm⟩
 | j :: ns, l, R => by
   unfold List.map RVs at R
   obtain ⟨u, r, rfl, r1, R'⟩ := R
   obtain ⟨h1, h2⟩ := any_fn hE ns r R'
   obtain ⟨e1, e2⟩ := hE j u r1
   refine ⟨List.forall_mem_cons.mpr ⟨e1, h1⟩, ?_⟩
   rw [List.any_cons, h2, e2, ← Bool.decide_or]
   exact decide_eq_decide.mpr List.mem_cons.symm
theorem inL_fn {A : Around} {s : Shared} {a : V} {xs : List V} {r : Bool} {v : Value} {items : Array Value} (e : inL a xs = some r) (hv : RV ex s.heap a v) (R : RVs ex s.heap xs items.toList) :
   ∃ f : Value → Bool, (∀ y, y ∈ items → EqAt A s y v (f y)) ∧ items.any f = r := by
 have go : ∀ f : Value → Bool, (∀ y ∈ items.toList, EqAt A s y v (f y)) ∧ items.toList.any f = r → ∃ f : Value → Bool, (∀ y, y ∈ items → EqAt A s y v (f y)) ∧ items.any f = r := fun f h => ⟨f, fun y hy => h.1 y (Array.mem_toList_iff.mpr hy), by rw [← Array.any_toList]; exact h.2⟩
 cases a with
 | int i =>
   obtain ⟨ns, hn, rfl⟩ := Option.map_eq_some_iff.mp e
   obtain rfl := intsOf_eq hn
   obtain ⟨t, rfl⟩ := hv
   refine go (fun y => match y with | .int j _ => j == i | _ => false) (any_fn (toV := V.int) (fun j u h => ?_) ns _ R)
   obtain ⟨t', rfl⟩ := h
   exact ⟨EqAt.int_int j t' i t, (Bool.beq_eq_decide_eq j i).trans (decide_eq_decide.mpr eq_comm)⟩
 | str i =>
   obtain ⟨ns, hn, rfl⟩ := Option.map_eq_some_iff.mp e
   obtain rfl := strsOf_eq hn
   obtain ⟨t, rfl⟩ := hv
   refine go (fun y => match y with | .str j _ => j == i | _ => false) (any_fn (toV := V.str) (fun j u h => ?_) ns _ R)
   obtain ⟨t', rfl⟩ := h
   exact ⟨EqAt.str_str j t' i t, (Bool.beq_eq_decide_eq j i).trans (decide_eq_decide.mpr eq_comm)⟩
 | _ => exact noneSome e
noncomputable def isNone : V → Bool
 | .none => true
 | _ => false
noncomputable def vne (σ : Hp) (a b : V) : Option Bool := (veq1 σ (veqN σ 6) a b).map (!·)
section
variable {prog : Program} {w : World} {B : Heap} {os : OsState} {A : Around} {σ : Hp} {s : Shared} {Q : V → Hp → Prop}
theorem list_ne {A : Around} {s : Shared} {f : V → V → Option Bool} {l r : List V} {b : Bool} {p q : Addr} {items items' : Array Value} (hu : A.units < cLine)
   (hf : ∀ x ∈ l, ∀ y a, f x y = some a → ∀ v u, RV ex s.heap x v → RV ex s.heap y u → EqAt A.in1 s v u a)
   (T1 : s.heap.IsList p items) (T2 : s.heap.IsList q items') (R1 : RVs ex s.heap l items.toList) (R2 : RVs ex s.heap r items'.toList)
   (e : (if l.length = r.length then veqsW f l r else some false) = some b) : RcNeAt A s (.ref p) (.ref q) (!b) := by
 have L1 := R1.length
 have L2 := R2.length
 rw [Array.length_toList] at L1 L2
 cases Decidable.em (l.length = r.length) with
 | inl hl =>
   rw [if_pos hl] at e
   obtain ⟨g, hg, hb⟩ := veqsW_fn hf R1 R2 e
   have hsz : items.size = items'.size := L1.trans (hl.trans L2.symm)
   rw [Array.length_toList, Array.length_toList, ← hsz, beq_self_eq_true, Bool.and_true, Nat.min_self] at hb
   rw [← hb]
   exact RcNeAt.lists (A := A) (s := s) (e := g) T1 T2 hsz hu fun j h1 h2 => hg j h1 h2
 | inr hl =>
   rw [if_neg hl] at e
   obtain rfl := Option.some.inj e
   exact RcNeAt.lists_lengths T1 T2 (bne_iff_ne.mpr fun q => hl (L1.symm.trans (q.trans L2))) hu
theorem tup_ne {A : Around} {s : Shared} {f : V → V → Option Bool} {l r : List V} {b : Bool} {v u : Value} (hu : A.units < cLine)
   (hf : ∀ x ∈ l, ∀ y a, f x y = some a → ∀ v u, RV ex s.heap x v → RV ex s.heap y u → EqAt A.in1 s v u a)
   (hv : RV ex s.heap (.tup l) v) (hw : RV ex s.heap (.tup r) u) (e : veqsW f l r = some b) : RcNeAt A s v u (!b) := by
 unfold RV at hv hw
 obtain ⟨p, items, rfl, T1, nx, R1⟩ := hv
 obtain ⟨q, items', rfl, T2, nx, R2⟩ := hw
 obtain ⟨g, hg, hb⟩ := veqsW_fn hf R1 R2 e
 rw [← hb]
 exact RcNeAt.tuples (A := A) (s := s) (e := g) (show s.heap.IsTuple p items from T1) (show s.heap.IsTuple q items' from T2) hu fun j h1 h2 => hg j h1 h2
theorem vne_rc (S : St ex prog w B os σ s) (hsys : (B.get? sysModules).isSome = true) {a b : V} {r : Bool} {v u : Value} (hu : A.units + 8 < cLine)
   (e : vne σ a b = some r) (hv : RV ex s.heap a v) (hw : RV ex s.heap b u) {Q : Value → Shared → Prop} (hq : Q (.bool r) s) : wpAny (model prog w) A (richCompare .NotEq v u) Q F0 s := by
 have hu' : A.units < cLine := ar_u1 hu
 have hf : ∀ x y a, veqN σ 6 x y = some a → ∀ v u, RV ex s.heap x v → RV ex s.heap y u → EqAt A.in1 s v u a := fun x y c hc v u hv hw =>
   veqN_at S hsys 6 (ar_u3 hu) hc hv hw
 obtain ⟨c, e', rfl⟩ := Option.map_eq_some_iff.mp e
 have q := veq1.inv e'
 clear e e'
 induction q with
 | none => obtain rfl := hv; obtain rfl := hw; exact RcNeAt.none_none prog w F0 Q hq
 | bool x y => obtain rfl := hv; obtain rfl := hw; exact RcNeAt.bool_bool _ _ prog w F0 Q hq
 | int x y => obtain ⟨t, rfl⟩ := hv; obtain ⟨t', rfl⟩ := hw; exact RcNeAt.int_int _ t _ t' prog w F0 Q (by rw [Bool.beq_eq_decide_eq]; exact hq)
 | str x y => obtain ⟨t, rfl⟩ := hv; obtain ⟨t', rfl⟩ := hw; exact RcNeAt.str_str _ t _ t' prog w F0 Q (by rw [Bool.beq_eq_decide_eq]; exact hq)
 | tup h => exact tup_ne hu' (fun x _ => hf x) hv hw h prog w F0 Q hq
 | list n h1 h2 h =>
   obtain rfl := hv; obtain rfl := hw
   obtain ⟨_, it, L1, R1⟩ := S.lst h1
   obtain ⟨_, it', L2, R2⟩ := S.lst h2
   exact list_ne hu' (fun x _ => hf x) L1 L2 R1 R2 h prog w F0 Q hq
 | dict n h1 h2 hi1 hi2 h =>
   obtain rfl := hv; obtain rfl := hw
   obtain ⟨_, ka, D1, R1⟩ := S.ro _ _ h1
   obtain ⟨_, kb, D2, R2⟩ := S.ro _ _ h2
   obtain ⟨q1, q2⟩ := len_rc R1.length R2.length h
   exact keq_ne (S.nsys hsys h1) (S.nsys hsys h2) D1.dictOf D2.dictOf hu' (fun q => veqdW_hits R2 hf R1 (q1 q)) (by rw [q2]; exact hq)
theorem ar_lim {n m : Nat} (e : n = m) (h : m ≤ lim) : (n : Int) < 2 ^ 63 := by simp only [lim] at h; omega
noncomputable def truO (o : Option O) (K : Bool → Prop) : Prop := match o with
 | some (.list xs) => K (!xs.isEmpty)
 | _ => False
noncomputable def truP (a : V) (σ : Hp) (K : Bool → Hp → Prop) : Prop := match a with
 | .bool b => K b σ
 | .none => K false σ
 | .int i => K (i != 0) σ
 | .ref p => match σ p with
   | some (.list xs) => K (!xs.isEmpty) σ
   | _ => False
 | _ => False
theorem truO.inv {o : Option O} {K : Bool → Prop} (h : truO o K) : ∃ xs, o = some (.list xs) ∧ K (!xs.isEmpty) := by
 cases o with
 | none => exact h.elim
 | some o => cases o with
   | list xs => exact ⟨xs, rfl, h⟩
   | _ => exact h.elim
theorem truP_ok {a : V} {v : Value} {K : Bool → Hp → Prop} (S : St ex prog w B os σ s) (hv : RV ex s.heap a v) (h : truP a σ K) : wpAny (model prog w) A (truthy v) (PT ex prog w B os σ s K) F0 s := by
 cases a with
 | bool b => obtain rfl := hv; exact wpAny_truthy_bool ⟨σ, S, Keep.refl _ _ _, h⟩
 | none => obtain rfl := hv; exact truthy_none ⟨σ, S, Keep.refl _ _ _, h⟩
 | int i => obtain ⟨t, rfl⟩ := hv; exact P.truthy_int ⟨σ, S, Keep.refl _ _ _, h⟩
 | ref p =>
   obtain rfl := hv
   obtain ⟨xs, hp, h⟩ := truO.inv (show truO (σ p) fun b => K b σ from h)
   obtain ⟨l, it, L, R⟩ := S.lst hp
   have n := R.length
   rw [Array.length_toList] at n
   refine wpAny_truthy_list L (ar_lim n l) ⟨σ, S.toks _, Keep.refl _ _ _, ?_⟩
   rw [show it.isEmpty = xs.isEmpty from by
     unfold Array.isEmpty
     rw [n]
     cases xs with
     | nil => rfl
     | cons x xs => rfl]
   exact h
 | _ => exact h.elim
noncomputable def unP (op : UnaryOp) (a : V) (σ : Hp) (Q : V → Hp → Prop) : Prop := match op with
 | .USub => match a with | .int x => Q (.int (-x)) σ | _ => False
 | .Not => truP a σ fun b σ' => Q (.bool (!b)) σ'
 | _ => False
theorem unP_ok {op : UnaryOp} {a : V} {v : Value} (S : St ex prog w B os σ s) (hv : RV ex s.heap a v) (h : unP op a σ Q) : wpAny (model prog w) A (unaryOp op v) (PE ex prog w B os σ s Q) F0 s := by
 unfold unP at h
 split at h
 · split at h
   · obtain ⟨t, rfl⟩ := hv; exact P.neg_int (PE.int S h)
   · exact h.elim
 · refine not_of (wpAny_mono (truP_ok S hv h) (fun b s' ⟨σ', S', k, q⟩ => ⟨.bool (!b), σ', rfl, S', k, q⟩) fun _ _ e => e)
 · exact h.elim
noncomputable def intP (a b : V) (K : Int → Int → Prop) : Prop := match a with
 | .int x => (match b with
   | .int y => K x y
   | _ => False)
 | _ => False
theorem intP.inv {a b : V} {K : Int → Int → Prop} (h : intP a b K) : ∃ x y, a = .int x ∧ b = .int y ∧ K x y := by
 cases a with
 | int x => cases b with
   | int y => exact ⟨x, y, rfl, rfl, h⟩
   | _ => exact h.elim
 | _ => exact h.elim
noncomputable def noneP (b : V) (K : Prop) : Prop := match b with
 | .none => K
 | _ => False
theorem noneP.inv {b : V} {K : Prop} (h : noneP b K) : b = .none ∧ K := by
 cases b with
 | none => exact ⟨rfl, h⟩
 | _ => exact h.elim
noncomputable def inO (a : V) (o : Option O) (K : Bool → Prop) : Prop := match o with
 | some (.list xs) => ∃ r, inL a xs = some r ∧ K r
 | some (.dict es _) => ∃ k, keyOf a = some k ∧ K (dlook es k).isSome
 | _ => False
noncomputable def inP (a b : V) (σ : Hp) (K : Bool → Prop) : Prop := match b with
 | .tup l => ∃ r, inL a l = some r ∧ K r
 | .ref p => inO a (σ p) K
 | _ => False
theorem inO.inv {a : V} {o : Option O} {K : Bool → Prop} (h : inO a o K) : (∃ xs r, o = some (.list xs) ∧ inL a xs = some r ∧ K r) ∨ ∃ es ep k, o = some (.dict es ep) ∧ keyOf a = some k ∧ K (dlook es k).isSome := by
 cases o with
 | none => exact h.elim
 | some o => cases o with
   | list xs => obtain ⟨r, e, k⟩ := h; exact .inl ⟨xs, r, rfl, e, k⟩
   | dict es ep => obtain ⟨r, e, k⟩ := h; exact .inr ⟨es, ep, r, rfl, e, k⟩
   | _ => exact h.elim
theorem inP.mono {a b : V} {σ : Hp} {K K' : Bool → Prop} (h : inP a b σ K) (g : ∀ r, K r → K' r) : inP a b σ K' := by
 cases b with
 | tup l => obtain ⟨r, e, k⟩ := h; exact ⟨r, e, g _ k⟩
 | ref p =>
   show inO a (σ p) K'
   cases inO.inv (show inO a (σ p) K from h) with
   | inl h => obtain ⟨xs, r, e, e1, k⟩ := h; rw [e]; exact ⟨r, e1, g _ k⟩
   | inr h => obtain ⟨es, ep, r, e, e1, k⟩ := h; rw [e]; exact ⟨r, e1, g _ k⟩
 | _ => exact h.elim
noncomputable def cmpP (op : CmpOp) (a b : V) (σ : Hp) (Q : V → Hp → Prop) : Prop := match op with
 | .Eq => ∃ r, veq1 σ (veqN σ 6) a b = some r ∧ Q (.bool r) σ
 | .NotEq => ∃ r, vne σ a b = some r ∧ Q (.bool r) σ
 | .Lt => intP a b fun x y => Q (.bool (decide (x < y))) σ
 | .LtE => intP a b fun x y => Q (.bool (decide (x ≤ y))) σ
 | .Gt => intP a b fun x y => Q (.bool (decide (x > y))) σ
 | .GtE => intP a b fun x y => Q (.bool (decide (x ≥ y))) σ
 | .Is => noneP b (Q (.bool (isNone a)) σ)
 | .IsNot => noneP b (Q (.bool (!isNone a)) σ)
 | .In => inP a b σ fun r => Q (.bool r) σ
 | .NotIn => inP a b σ fun r => Q (.bool (!r)) σ
theorem isNone_ok {h : Heap} {a : V} {v : Value} (hv : RV ex h a v) : (v == .none) = isNone a := by
 cases a with
 | none => obtain rfl := hv; rfl
 | bool b => obtain rfl := hv; rfl
 | int i => obtain ⟨t, rfl⟩ := hv; rfl
 | str i => obtain ⟨t, rfl⟩ := hv; rfl
 | tup l => unfold RV at hv; obtain ⟨_, _, rfl, _⟩ := hv; rfl
 | ref a => obtain rfl := hv; rfl
 | ty n => obtain rfl := hv; rfl
 | bi n => obtain rfl := hv; rfl
theorem key_ok {h : Heap} {a : V} {k : Key} {v : Value} (e : keyOf a = some k) (hv : RV ex h a v) : (keyKind prog w).is k v = true := by
 have := keyOf_toV e
 subst this
 exact Key.isV_of hv
theorem RKs.isSome {h : Heap} {es : List (Key × V)} {kvs : List (Key × Value)} (R : RKs ex h es kvs) (k : Key) : (valueAt kvs k).isSome = (dlook es k).isSome := by
 have := R.look k
 cases hd : dlook es k with
 | none => rw [hd] at this; rw [show valueAt kvs k = none from this]; rfl
 | some x => rw [hd] at this; obtain ⟨y, hy, _⟩ := this; rw [hy]; rfl
theorem in_ok (neg : Bool) {a b : V} {v u : Value} (S : St ex prog w B os σ s) (hsys : (B.get? sysModules).isSome = true) (hv : RV ex s.heap a v) (hw : RV ex s.heap b u) (h : inP a b σ fun r => Q (.bool (bif neg then !r else r)) σ) :
   wpAny (model prog w) A (compareOp (bif neg then .NotIn else .In) v u) (PE ex prog w B os σ s Q) F0 s := by
 cases b with
 | tup l =>
   obtain ⟨r, e, h⟩ := h
   unfold RV at hw
   obtain ⟨q, items, rfl, T, nx, R⟩ := hw
   obtain ⟨f, hf, rfl⟩ := inL_fn (A := A.in1) e hv R
   cases neg with
   | false => exact in_tupleAt f (show s.heap.IsTuple q items from T) hf (PE.bool S h)
   | true => exact notIn_tupleAt f (show s.heap.IsTuple q items from T) hf (PE.bool S h)
 | ref p =>
   obtain rfl := hw
   cases inO.inv h with
   | inl h =>
     obtain ⟨xs, r, hp, e, h⟩ := h
     obtain ⟨_, it, L, R⟩ := S.lst hp
     obtain ⟨f, hf, rfl⟩ := inL_fn (A := A.in1) e hv R
     cases neg with
     | false => exact in_listAt f L hf (PE.bool S h)
     | true => exact notIn_listAt f L hf (PE.bool S h)
   | inr h =>
     obtain ⟨es, ep, k, hp, e, h⟩ := h
     obtain ⟨_, kvs, D, R⟩ := S.ro _ _ hp
     rw [← R.isSome k] at h
     cases neg with
     | false => exact wpAny_in_of (knd := keyKind prog w) (k := k) (key_ok e hv) (S.nsys hsys hp) D.dictOf.mapOf (PE.boolT S h)
     | true => exact wpAny_notIn_of (knd := keyKind prog w) (k := k) (key_ok e hv) (S.nsys hsys hp) D.dictOf.mapOf (PE.boolT S h)
 | _ => exact h.elim
theorem cmpP_ok {op : CmpOp} {a b : V} {v u : Value} (S : St ex prog w B os σ s) (hsys : (B.get? sysModules).isSome = true) (hu : A.units + 8 < cLine) (hv : RV ex s.heap a v) (hw : RV ex s.heap b u) (h : cmpP op a b σ Q) :
   wpAny (model prog w) A (compareOp op v u) (PE ex prog w B os σ s Q) F0 s := by
 have iis : ∀ {K : Int → Int → Prop} {P : Prop}, intP a b K → (∀ x y t t', v = .int x t → u = .int y t' → K x y → P) → P := fun h g => by
   obtain ⟨x, y, rfl, rfl, h⟩ := intP.inv h
   obtain ⟨t, rfl⟩ := hv; obtain ⟨t', rfl⟩ := hw
   exact g x y t t' rfl rfl h
 have nns : ∀ {K P : Prop}, noneP b K → (u = .none → K → P) → P := fun h g => by
   obtain ⟨rfl, h⟩ := noneP.inv h
   exact g hw h
 cases op with
 | Eq => obtain ⟨r, e, h⟩ := h; exact veq1_rc S hsys (ar_u1 hu) (fun x y c hc v u hv hw => veqN_at S hsys 6 (ar_u3 hu) hc hv hw) e hv hw prog w F0 _ (PE.bool S h)
 | NotEq => obtain ⟨r, e, h⟩ := h; exact vne_rc S hsys hu e hv hw (PE.bool S h)
 | Lt => refine iis h fun x y t t' e1 e2 h => ?_; rw [e1, e2]; exact P.lt_int (PE.bool S h)
 | LtE => refine iis h fun x y t t' e1 e2 h => ?_; rw [e1, e2]; exact P.le_int (PE.bool S h)
 | Gt => refine iis h fun x y t t' e1 e2 h => ?_; rw [e1, e2]; exact P.gt_int (PE.bool S h)
 | GtE => refine iis h fun x y t t' e1 e2 h => ?_; rw [e1, e2]; exact P.ge_int (PE.bool S h)
 | Is => refine nns h fun e h => ?_; rw [e]; exact is_none (by rw [isNone_ok hv]; exact PE.bool S h)
 | IsNot => refine nns h fun e h => ?_; rw [e]; exact isNot_none (by rw [isNone_ok hv]; exact PE.bool S h)
 | In => exact in_ok false S hsys hv hw h
 | NotIn => exact in_ok true S hsys hv hw h
end
end Mine.Internal
set_option tactic.hygienic false
namespace Mine.Internal
open PySem PySem.W PySem.Calls PyProof.Rows PySem.SeqAt
variable {ex : List Addr}
noncomputable def vidx (l : List V) (k : Int) : Option V := if 0 ≤ k then l[k.toNat]? else if 0 ≤ k + l.length then l[(k + l.length).toNat]? else none
noncomputable def pickV (xs : List V) (lo hi st : Option Int) : Option (List V) := match st with
 | none => (match lo with
   | none => (match hi with
     | none => none
     | some b => if 0 ≤ b then some (xs.take b.toNat) else none)
   | some a => (match hi with
     | none => if 0 ≤ a then some (xs.drop a.toNat) else none
     | some _ => none))
 | some st => (match lo with
   | none => (match hi with
     | none => if st = -1 then some xs.reverse else none
     | some _ => none)
   | some _ => none)
inductive PQ (xs : List V) : Option Int → Option Int → Option Int → List V → Prop
 | take (m : Nat) : PQ xs none (some (Int.ofNat m)) none (xs.take m)
 | drop (m : Nat) : PQ xs (some (Int.ofNat m)) none none (xs.drop m)
 | rev : PQ xs none none (some (-1)) xs.reverse
theorem ite_some {p : Prop} [Decidable p] {α : Type} {a b : α} (h : (if p then some a else none) = some b) : p ∧ a = b := by
 cases Decidable.em p with
 | inl e => rw [if_pos e] at h; exact ⟨e, Option.some.inj h⟩
 | inr e => rw [if_neg e] at h; exact noneSome h
theorem pickV.inv {xs ys : List V} {lo hi st : Option Int} (e : pickV xs lo hi st = some ys) : PQ xs lo hi st ys := by
 cases st with
 | none =>
   cases lo with
   | none =>
     cases hi with
     | none => exact noneSome e
     | some b =>
       obtain ⟨h, rfl⟩ := ite_some e
       obtain ⟨m, rfl⟩ := Int.eq_ofNat_of_zero_le h
       exact .take m
   | some a =>
     cases hi with
     | some b => exact noneSome e
     | none =>
       obtain ⟨h, rfl⟩ := ite_some e
       obtain ⟨m, rfl⟩ := Int.eq_ofNat_of_zero_le h
       exact .drop m
 | some st =>
   cases lo with
   | some b => exact noneSome e
   | none =>
     cases hi with
     | some b => exact noneSome e
     | none => obtain ⟨rfl, rfl⟩ := ite_some e; exact .rev
noncomputable def partOf : V → Option (Option Int)
 | .none => some none
 | .int i => some (some i)
 | _ => none
theorem part_ok {h : Heap} {a : V} {o : Option Int} {v : Value} (e : partOf a = some o) (hv : RV ex h a v) : IsPart v o := by
 cases a with
 | none => obtain rfl := Option.some.inj e; obtain rfl := hv; exact .none
 | int i => obtain rfl := Option.some.inj e; obtain ⟨t, rfl⟩ := hv; exact .int _ _
 | _ => exact noneSome e
section
variable {prog : Program} {w : World} {B : Heap} {os : OsState} {A : Around} {σ : Hp} {s : Shared} {Q : V → Hp → Prop}
inductive GQ (σ : Hp) (Q : V → Hp → Prop) : V → V → Prop
 | tup {l : List V} {k : Int} {x : V} (b : -(2 ^ 63) ≤ k ∧ k < 2 ^ 63) (hx : vidx l k = some x) (q : Q x σ) : GQ σ Q (.tup l) (.int k)
 | list {p : Addr} {xs : List V} {k : Int} {x : V} (hp : σ p = some (.list xs)) (hx : vidx xs k = some x) (q : Q x σ) : GQ σ Q (.ref p) (.int k)
 | dict {p : Addr} {es : List (Key × V)} {ep : Nat} {i : V} {k : Key} {x : V} (hp : σ p = some (.dict es ep)) (hk : keyOf i = some k) (hx : dlook es k = some x) (q : Q x σ) : GQ σ Q (.ref p) i
noncomputable def getP (o i : V) (σ : Hp) (Q : V → Hp → Prop) : Prop := GQ σ Q o i
theorem vidx_lt {l : List V} {k : Int} {x : V} (h : vidx l k = some x) : (0 ≤ k ∧ k < l.length ∧ l[k.toNat]? = some x) ∨ (k < 0 ∧ 0 ≤ k + l.length ∧ l[(k + l.length).toNat]? = some x) := by
 unfold vidx at h
 by_cases h0 : 0 ≤ k
 · rw [if_pos h0] at h
   have := (List.getElem?_eq_some_iff.mp h).1
   exact .inl ⟨h0, by first | assumption | decide | omega, h⟩
 · rw [if_neg h0] at h
   by_cases h1 : 0 ≤ k + l.length
   · rw [if_pos h1] at h; exact .inr ⟨by first | assumption | decide | omega, h1, h⟩
   · rw [if_neg h1] at h; exact noneSome h
theorem ar_sj {k n : Int} (h : k < 0) : k + n < n := by omega
theorem vidx_seq {l : List V} {k : Int} {x : V} {n : Nat} (hn : n = l.length) (h : vidx l k = some x) : ∃ j, seqIndex? k n = some j ∧ l[j]? = some x := by
 unfold seqIndex?
 cases vidx_lt h with
 | inl h =>
   refine ⟨k.toNat, ?_, h.2.2⟩
   rw [if_neg (Int.not_lt.mpr h.1), if_pos]
   rw [decide_eq_true h.1, hn, decide_eq_true h.2.1]; rfl
 | inr h =>
   refine ⟨(k + l.length).toNat, ?_, h.2.2⟩
   rw [if_pos h.1, hn, if_pos]
   rw [decide_eq_true h.2.1, decide_eq_true (ar_sj h.1)]; rfl
theorem ar_li {k : Int} {n m : Nat} (h : k < n) (e : m = n) (hl : n ≤ lim) : k < 2 ^ 63 := by simp only [lim] at hl; omega
theorem ar_lj {k : Int} {n m : Nat} (h : 0 ≤ k + n) (e : m = n) : -(m : Int) ≤ k := by omega
theorem ar_lk {k : Int} {n : Nat} (h : 0 ≤ k + n) (hl : n ≤ lim) : -(2 ^ 63) ≤ k := by simp only [lim] at hl; omega
theorem list_item {p : Addr} {xs : List V} {k : Int} {t : Tok} {x : V} (S : St ex prog w B os σ s) (hp : σ p = some (.list xs)) (hx : vidx xs k = some x) (h : Q x σ) :
   wpAny (model prog w) A (getItem (.ref p) (.int k t)) (PE ex prog w B os σ s Q) F0 s := by
 obtain ⟨l, it, L, R⟩ := S.lst hp
 have n := R.length
 rw [Array.length_toList] at n
 cases vidx_lt hx with
 | inl g =>
   obtain ⟨y, hy, ry⟩ := R.get g.2.2
   exact wpAny_getItem_list L g.1 (ar_li g.2.1 n l) (Array.getElem?_toList.symm.trans hy) (PE.here S ry h)
 | inr g =>
   obtain ⟨y, hy, ry⟩ := R.get g.2.2
   exact wpAny_getItem_list_neg L g.1 (ar_lj g.2.1 n) (ar_lk g.2.1 l) (by rw [n]; exact Array.getElem?_toList.symm.trans hy) (PE.here S ry h)
theorem getP_ok {value slice : Expr} {o i : V} {v u : Value} (S : St ex prog w B os σ s) (hv : RV ex s.heap o v) (hw : RV ex s.heap i u) (h : getP o i σ Q)
   (hs : subscripted slice false v u = operate [v, u] (getItem v u)) :
   wpAny (model prog w) A (subscriptTail value slice v u) (PE ex prog w B os σ s Q) F0 s := by
 induction h with
 | tup b hx h =>
   obtain ⟨t, rfl⟩ := hw
   unfold RV at hv
   obtain ⟨p, items, rfl, T, nx, R⟩ := hv
   obtain ⟨j, hj, h2⟩ := vidx_seq (n := items.size) (by rw [← Array.length_toList, R.length]) hx
   obtain ⟨y, hy, ry⟩ := R.get h2
   exact tail_any T.typeIs slot_tuple_getitem.lookup (getItem_tuple T b.1 b.2 hj (Array.getElem?_toList.symm.trans hy) (PE.here S ry h)) hs
 | list hp hx h =>
   obtain rfl := hv
   obtain ⟨t, rfl⟩ := hw
   exact tail_any (S.lst hp).2.choose_spec.1.typeIs slot_list_getitem.lookup (list_item S hp hx h) hs
 | dict hp hk hx h =>
   obtain rfl := hv
   obtain ⟨_, kvs, D, R⟩ := S.ro _ _ hp
   have := R.look k
   rw [hx] at this
   obtain ⟨y, hy, ry⟩ := this
   exact tail_any D.dictOf.typeIs slot_dict_getitem.lookup (wpAny_getItem_of (knd := keyKind prog w) (key_ok hk hw) D.dictOf.mapOf hy (PE.tok S ry h)) hs
theorem pickV_ok {h : Heap} {xs ys : List V} {lo hi st : Option Int} {it : Array Value} (e : pickV xs lo hi st = some ys) (R : RVs ex h xs it.toList) : st ≠ some 0 ∧ RVs ex h ys (slicePick it lo hi st).toList := by
 induction pickV.inv e with
 | take m => exact ⟨nofun, by rw [show Int.ofNat m = (m : Int) from rfl, slicePick_upto']; simpa using R.take m⟩
 | drop m => exact ⟨nofun, by rw [show Int.ofNat m = (m : Int) from rfl, slicePick_from']; simpa using R.drop m⟩
 | rev => exact ⟨nofun, by rw [krv_pick]; simpa using R.reverse⟩
theorem pickV_len {xs ys : List V} {lo hi st : Option Int} (e : pickV xs lo hi st = some ys) : ys.length ≤ xs.length := by
 induction pickV.inv e with
 | take m => exact List.length_take_le' m xs
 | drop m => rw [List.length_drop]; exact Nat.sub_le _ _
 | rev => exact Nat.le_of_eq List.length_reverse
noncomputable def sliceL (ro : Hp) (o : V) (lo hi st : V) (σ : Hp) (Q : V → Hp → Prop) : Prop := match o with
 | .ref p => ∃ xs, ((σ p = some (.list xs)) ∨ (ro p = some (.list xs))) ∧ ∃ l h t ys, partOf lo = some l ∧ partOf hi = some h ∧ partOf st = some t ∧ pickV xs l h t = some ys ∧ ∀ c, σ c = none → Q (.ref c) (upd σ c (.list ys))
 | .tup l => ∃ a, partOf lo = some (some a) ∧ hi = .none ∧ st = .none ∧ (1 ≤ a ∧ a ≤ l.length ∧ l.length ≤ lim) ∧ Q (.tup (l.drop a.toNat)) σ
 | _ => False
theorem ar_sl {n m : Nat} (e : n = m) (h : m ≤ lim) : n ≤ sizeLine := by rw [sizeLine_eq]; simp only [lim] at h; omega
theorem ar_sm {m : Nat} (h : 1 ≤ (m : Int)) : 1 ≤ m := by omega
theorem ar_sn {n m k : Nat} (e : n = k) (h : (m : Int) ≤ k) : m ≤ n := by omega
set_option tactic.hygienic true in
theorem sliceL_ok {ro : Hp} (hro : ∀ a xs, ro a = some (.list xs) → RoL ex B a xs) {value : Expr} {l u st : Option Expr} {p : Pos} {o lo hi ste : V} {v vl vu vs : Value} {sl : Addr} (S : St ex prog w B os σ s) (hv : RV ex s.heap o v)
   (hs : s.heap.IsSliceOf sl vl vu vs) (hl : RV ex s.heap lo vl) (hu : RV ex s.heap hi vu) (ht : RV ex s.heap ste vs) (h : sliceL ro o lo hi ste σ Q)
   (hsub : ∃ ops, subscripted (.Slice l u st p) false v (.ref sl) = operate ops (getItem v (.ref sl))) :
   wpAny (model prog w) A (subscriptTail value (.Slice l u st p) v (.ref sl)) (PE ex prog w B os σ s Q) F0 s := by
 haveI := neW
 haveI := neSh
 haveI := neA
 revert l u st o lo hi ste v vl vu vs sl
 revert ex prog w B os A σ s Q ro value p
 refine no_implicit_lambda% letI ex := _; letI prog := _; letI w := _; letI B := _; letI os := _; letI A := _; letI σ := _; letI s := _; letI Q := _; letI ro := _; epsX10 2 ex prog w B os A σ s Q ro rfl ?_
 intro hro
 refine no_implicit_lambda% letI value := _; letI p := _; epsX2 3 value p rfl ?_
 intro S l u st o lo hi ste v vl vu vs sl hv hs hl hu ht h hsub
 obtain ⟨ops, hsub⟩ := hsub
 cases o with
 | ref q =>
   obtain rfl := hv
   obtain ⟨xs, hx, l', h', t', ys, e1, e2, e3, hp, hq⟩ := h
   have R0 : RoL ex s.heap q xs := hx.elim (fun e => S.lst e) fun e => (hro _ _ e).keep (fun b o e _ _ _ => S.base b o e) (fun ob e => S.base q ob e)
   obtain ⟨ln, it, L, R⟩ := R0
   have n := R.length
   rw [Array.length_toList] at n
   obtain ⟨h0, RY⟩ := pickV_ok hp R
   refine tail_any L.typeIs slot_list_getitem.lookup (wpAny_getItem_list_slice L hs (part_ok e1 hl) (part_ok e2 hu) (part_ok e3 ht) h0 ?_ (ar_sl n ln)) hsub
   have hk : ∀ b o, s.heap.get? b = some o → (s.heap.push { cls := .type "list", data := .seq (slicePick it l' h' t') }).get? b = some o := fun b o e => Heap.get?_push_of_some _ e
   exact PE.alloc (v := .ref s.heap.objs.size) S (Heap.get?_none_of_le (Nat.le_refl _)) hk (RO.list_ (Nat.le_trans (pickV_len hp) ln) ⟨_, Heap.get?_push_size _ rfl⟩ (RY.keep fun b o e _ _ _ => hk b o e)) rfl (hq _ S.fresh.1)
 | tup l0 =>
   obtain ⟨a, e1, rfl, rfl, hb, hq⟩ := h
   have ha := part_ok e1 hl
   obtain rfl := hu; obtain rfl := ht
   obtain ⟨m, rfl⟩ := Int.eq_ofNat_of_zero_le (Int.le_trans (by decide) hb.1)
   cases ha with
   | int i t =>
     unfold RV at hv
     obtain ⟨q, it, rfl, T, nx, R⟩ := hv
     have n := R.length
     rw [Array.length_toList] at n
     refine tail_any T.typeIs slot_tuple_getitem.lookup (getItem_tuple_from T hs (ar_sm hb.1) (ar_sn n hb.2.1) ?_ (ar_sl n hb.2.2)) hsub
     have hk : ∀ b o, s.heap.get? b = some o → (s.heap.push { cls := .type "tuple", data := .seq (it.toList.drop m).toArray }).get? b = some o := fun b o e => Heap.get?_push_of_some _ e
     refine PE.grow (v := .tup (l0.drop m)) S hk ?_ (by simpa using hq)
     unfold RV
     exact ⟨_, _, rfl, ⟨_, Heap.get?_push_size _ rfl, rfl, _, rfl⟩, S.exFresh (Heap.get?_none_of_le (Nat.le_refl _)), by simpa using (R.drop m).keep fun b o e _ _ _ => hk b o e⟩
 | _ => exact h.elim
theorem wpAny_setItem_plain {E : Value → Shared → Prop} {l : Addr} {items : Array Value} {k : Int} {t : Tok} {v : Value} {Q : Unit → Shared → Prop} (hp : s.heap.PlainList l items)
   (h0 : 0 ≤ k) (hfit : k < 2 ^ 63) (hn : k < items.size)
   (hQ : ∀ h', h'.PlainList l (items.setIfInBounds k.toNat v) → Heap.SameBut l s.heap h' → Q () { s with heap := h' }) :
   wpAny (model prog w) A (setItem (.ref l) (.int k t) v) Q E s := by
 haveI := neW
 haveI := neSh
 haveI := neA
 revert k
 revert prog w A s E l items t v Q
 refine no_implicit_lambda% letI prog := _; letI w := _; letI A := _; letI s := _; letI E := _; letI l := _; letI items := _; letI t := _; letI v := _; letI Q := _; epsX10 4 prog w A s E l items t v Q rfl ?_
 intro hp k h0 hfit hn hQ
 obtain ⟨n0, ho⟩ := hp
 have hl : s.heap.IsList l items := ⟨_, ho, rfl, n0, rfl⟩
 unfold setItem
 try with_reducible refine wpAny_holding ?_
 refine wpAny_bind (wpAny_sequenceKey hl.typeIs (by decide) ?_)
 refine wpAny_bind (wpAny_callSpecial?_slot (name := Str.ofString "__setitem__") hl.typeIs slot_list_setitem
   (wpAny_call_entry slot_list_setitem hl.typeIs entry_list_setitem ?_ (args_list_setitem _ _ _)))
 show wpAny _ _ (Builtin.List.listSubscript? (.int k t) >>= _) _ _ s
 refine wpAny_bind (wpAny_listSubscript_int (fitsIndex_of h0 hfit) ?_)
 clear hfit
 obtain ⟨j, rfl⟩ := Int.eq_ofNat_of_zero_le h0
 have hj : j < items.size := by first | assumption | decide | omega
 have hx' : items[j]? = some items[j] := Array.getElem?_eq_getElem hj
 show wpAny _ _ ((seqItemAt l j >>= fun r => pure (r.map (j, ·))) >>= _) _ _ s
 refine wpAny_bind (wpAny_bind (wpAny_seqItemAt ho rfl (wpAny_pure ?_)))
 rw [hx']
 show wpAny _ _ (setSeqItemAt l j v >>= _) _ _ s
 obtain ⟨n', hd'⟩ := Obj.data_mapSeq (o := { cls := .type "list", data := .seq items n0 }) rfl (·.setIfInBounds j v)
 have hobj : Obj.mapSeq (·.setIfInBounds j v) { cls := .type "list", data := .seq items n0 } = { cls := .type "list", data := .seq (items.setIfInBounds j v) n' } := by
   simp only [Obj.mapSeq] at hd' ⊢
   simpa using hd'
 have hfin : (s.heap.update l (Obj.mapSeq (·.setIfInBounds j v))).PlainList l (items.setIfInBounds j v) :=
   ⟨n', by rw [Heap.get?_update_self _ ho (Obj.isFreed_of_seq hd'), hobj]⟩
 refine wpAny_bind (wpAny_setSeqItemAt ho rfl ?_)
 exact wpAny_pure ⟨.none, rfl, wpAny_pure (hQ _ hfin (Heap.SameBut.update ..))⟩
section
variable {K : Type} [DecidableEq K] {knd : KeyKind prog w K} {E : Value → Shared → Prop}
theorem find_is {es : Array DictEntry} {kvs : List (K × Value)} {k : K} (hp : Pairs knd es.toList kvs) : (es.findIdx? fun e => knd.is k e.key) = kvs.findIdx? fun kv => decide (kv.1 = k) := by
 rw [← hp.findIdx k]; obtain ⟨l⟩ := es; simp
omit knd in
theorem value_find {kvs : List (K × Value)} {k : K} : (valueAt kvs k).isSome = (kvs.findIdx? fun kv => decide (kv.1 = k)).isSome := by
 unfold valueAt
 rw [Option.isSome_map]
 induction kvs with
 | nil => rfl
 | cons p r ih =>
   rw [List.find?_cons, List.findIdx?_cons]
   by_cases hpk : p.1 = k
   · simp [hpk]
   · simp only [hpk, decide_false, Bool.false_eq_true, if_false, Option.isSome_map]; exact ih
theorem dictSet_at {d : Addr} {kvs : List (K × Value)} {ep : Nat} {k : K} {key v : Value} {Q : Unit → Shared → Prop} (hkey : knd.is k key = true) (hm : s.heap.DictAt knd d kvs ep)
   (hQ : ∀ h', h'.DictAt knd d (stored kvs k v) (if (valueAt kvs k).isSome then ep else ep + 1) → Heap.SameBut d s.heap h' → Q () { s with heap := h', toks := s.toks + 1 })
   (hsz : kvs.length ≤ sizeLine) :
   wpAny (model prog w) A (dictSet d key v) Q E s := by
 obtain ⟨o, es, ho, hc, hd, hk, hp, hn⟩ := hm
 have hes : es.size ≤ sizeLine := by rw [← Array.length_toList, hp.length]; exact hsz
 unfold dictSet
 try with_reducible refine wpAny_holding ?_
 refine wpAny_bind (knd.pyHash hkey ?_)
 unfold dictSetHashed
 try with_reducible refine wpAny_holding ?_
 refine wpAny_bind (wpAny_dictFind_of (s := { s with toks := s.toks + 1 }) hkey ho hd hk ?_)
 have hidx := find_is (k := k) hp
 have hval := value_find (kvs := kvs) (k := k)
 cases hi : es.findIdx? fun e => knd.is k e.key with
 | some i =>
   rw [hidx] at hi
   rw [hval, hi] at hQ
   rw [← hidx] at hi
   simp only [Option.isSome_some, if_true] at hQ
   refine wpAny_bind (wpAny_rule (wpAny_bind (wpAny_updateDict (s := { s with toks := s.toks + 1 }) ho hd (wpAny_point (hQ _ ⟨_, _, Heap.get?_update_self _ ho (Obj.isFreed_of_dict (Obj.data_mapDict hd _)),
     hc.mapDict _, Obj.data_mapDict hd _, hk.modify _ _, ?_, ?_⟩ (Heap.SameBut.update ..))))))
   · rw [stored, if_pos (any_of_findIdx_some (hidx ▸ hi))]
     have hl : (es.toList.findIdx? fun e => knd.is k e.key) = some i := by rw [← hi]; obtain ⟨l⟩ := es; simp
     have := hp.modify hn hl v
     obtain ⟨l⟩ := es
     simpa using this
   · rw [stored, if_pos (any_of_findIdx_some (hidx ▸ hi)), keys_map_store]; exact hn
 | none =>
   rw [hidx] at hi
   rw [hval, hi] at hQ
   rw [← hidx] at hi
   simp only [Option.isSome_none, Bool.false_eq_true, if_false] at hQ
   have hnot : k ∉ kvs.map (·.1) := not_mem_of_findIdx_none (hidx ▸ hi)
   have hany : ¬ (kvs.any fun kv => decide (kv.1 = k)) = true := by
     rw [List.any_eq_true]; rintro ⟨kv, hkv, he⟩
     exact hnot (List.mem_map.mpr ⟨kv, hkv, of_decide_eq_true he⟩)
   refine wpAny_bind (wpAny_rule (wpAny_updateDictKeys (hz := hes) (s := { s with toks := s.toks + 1 }) ho hd (hQ _ ⟨_, _, Heap.get?_update_self _ ho (Obj.isFreed_of_dict (Obj.data_mapDictKeys hd _)),
     hc.mapDictKeys _, Obj.data_mapDictKeys hd _, hk.push hkey _, ?_, ?_⟩ (Heap.SameBut.update ..))))
   · rw [stored, if_neg hany]
     have := hp.append hkey (knd.hash k) v
     obtain ⟨l⟩ := es
     simpa using this
   · rw [stored, if_neg hany, List.map_append, List.nodup_append]
     refine ⟨hn, by simp, ?_⟩
     intro a ha b hb
     simp only [List.map_cons, List.map_nil, List.mem_singleton] at hb
     subst hb
     exact fun e => hnot (e ▸ ha)
theorem setItem_at {d : Addr} {kvs : List (K × Value)} {ep : Nat} {k : K} {key v : Value} {Q : Unit → Shared → Prop} (hkey : knd.is k key = true) (hm : s.heap.DictAt knd d kvs ep)
   (hQ : ∀ h', h'.DictAt knd d (stored kvs k v) (if (valueAt kvs k).isSome then ep else ep + 1) → Heap.SameBut d s.heap h' → Q () { s with heap := h', toks := s.toks + 1 })
   (hsz : kvs.length ≤ sizeLine) :
   wpAny (model prog w) A (setItem (.ref d) key v) Q E s := by
 have hT := hm.dictOf.typeIs
 unfold setItem
 try with_reducible refine wpAny_holding ?_
 refine wpAny_bind (wpAny_sequenceKey hT (by decide) ?_)
 refine wpAny_bind (wpAny_callSpecial?_slot (name := Str.ofString "__setitem__") hT slot_dict_setitem
   (wpAny_call_entry slot_dict_setitem hT entry_dict_setitem ?_ (args_dict_setitem _ _ _)))
 show wpAny _ _ (Builtin.Dict.notOrdered "__setitem__" ⟨[.ref d, key, v], []⟩ >>= _) _ _ s
 refine wpAny_bind (wpAny_notOrdered_dict hT ?_)
 show wpAny _ _ (dictSet d key v >>= _) _ _ s
 exact wpAny_bind (dictSet_at (hsz := hsz) hkey hm fun h' hm' hs' => wpAny_pure ⟨.none, rfl, wpAny_pure (hQ h' hm' hs')⟩)
end
noncomputable def tkOf : V → Option TK
 | .int i => some (.int i)
 | .str x => some (.str x)
 | .tup l => (intsOf l).map TK.nums
 | _ => none
noncomputable def tksOf : List V → Option (List TK)
 | [] => some []
 | x :: l => (tkOf x).bind fun k => (tksOf l).map (k :: ·)
theorem tkOf_eq {v : V} {k : TK} (h : tkOf v = some k) : v = k.toV := by
 cases v with
 | int i => obtain rfl := Option.some.inj h; rfl
 | str i => obtain rfl := Option.some.inj h; rfl
 | tup l =>
   obtain ⟨l, hl, rfl⟩ := Option.map_eq_some_iff.mp h
   rw [intsOf_eq hl]; rfl
 | _ => exact noneSome h
theorem tksOf_eq : ∀ {l : List V} {ks : List TK}, tksOf l = some ks → l = ks.map TK.toV
 | [], ks, h => by obtain rfl := Option.some.inj h; rfl
 | x :: l, ks, h => by
   obtain ⟨k, hk, h⟩ := Option.bind_eq_some_iff.mp h
   obtain ⟨r, hr, rfl⟩ := Option.map_eq_some_iff.mp h
   rw [tkOf_eq hk, tksOf_eq hr]; rfl
inductive SQ (σ : Hp) (v : V) (K : Hp → Prop) : V → V → Prop
 | list {p : Addr} {xs : List V} {k : Int} (hp : σ p = some (.list xs)) (hb : 0 ≤ k ∧ k < xs.length) (h : K (upd σ p (.list (xs.set k.toNat v)))) : SQ σ v K (.ref p) (.int k)
 | dict {p : Addr} {es : List (Key × V)} {ep : Nat} {i : V} {k : Key} (hp : σ p = some (.dict es ep)) (hk : keyOf i = some k) (hl : es.length < lim) (h : K (upd σ p (.dict (dset es k v) (if (dlook es k).isSome then ep else ep + 1)))) : SQ σ v K (.ref p) i
 | tdict {p : Addr} {es : List (List TK × V)} {l : List V} {ks : List TK} (hp : σ p = some (.tdict es)) (hk : tksOf l = some ks) (hl : es.length < lim) (hn : tlook es ks = none) (h : K (upd σ p (.tdict (es ++ [(ks, v)])))) : SQ σ v K (.ref p) (.tup l)
noncomputable def setP (o i v : V) (σ : Hp) (K : Hp → Prop) : Prop := SQ σ v K o i
theorem dset_len (es : List (Key × V)) (k : Key) (x : V) : (dset es k x).length ≤ es.length + 1 := by
 induction es with
 | nil => simp [dset]
 | cons p r ih =>
   obtain ⟨k', y⟩ := p
   unfold dset
   split <;> simp; omega
theorem ar_sk {k : Int} {n m : Nat} (h : k < n) (e : m = n) : k < m := by omega
theorem ar_sp {A : Around} (h : A.units + 4 < cLine) : A.in1.units + 2 < cLine := by rw [Around.in1_units]; exact Nat.lt_of_succ_lt h
theorem setP_ok {o i v : V} {vo vi vv : Value} {K : Hp → Prop} (S : St ex prog w B os σ s) (hu : A.units + 4 < cLine) (ho : RV ex s.heap o vo) (hi : RV ex s.heap i vi) (hv : RV ex s.heap v vv) (h : setP o i v σ K) :
   wpAny (model prog w) A (setItem vo vi vv) (PU ex prog w B os σ s K) F0 s := by
 induction h with
 | list hp hb h =>
   obtain rfl := ho
   obtain ⟨t, rfl⟩ := hi
   obtain ⟨l, it, L, R⟩ := S.ro _ _ hp
   have n := R.length
   rw [Array.length_toList] at n
   refine wpAny_setItem_plain (items := it) L hb.1 (ar_li hb.2 n l) (ar_sk hb.2 n) fun h' L' hs => ?_
   refine ⟨_, S.change hp hs.2 fun t => RO.list_ (by rw [List.length_set]; exact l) L' ?_, Keep.change hp hs.2, h⟩
   rw [Array.toList_setIfInBounds]
   exact (R.keep t).set _ (hv.keep t)
 | @dict p es ep i k hp hk hl h =>
   obtain rfl := ho
   obtain ⟨l, kvs, D, R⟩ := S.ro _ _ hp
   refine setItem_at (knd := keyKind prog w) (key_ok hk hi) D (fun h' D' hs => ?_) (ar_sl R.length (Nat.le_of_lt hl))
   rw [R.isSome] at D'
   exact ⟨_, S.change (o := .dict (dset es k v) (if (dlook es k).isSome then ep else ep + 1)) hp hs.2 fun t => ⟨Nat.le_trans (dset_len _ _ _) hl, _, D', stored_eq (Heap.DictAt.nodup D) (R.keep t) (hv.keep t)⟩, Keep.change hp hs.2, h⟩
 | @tdict p es l0 ks hp hk hlt hnone h =>
   obtain rfl := ho
   obtain rfl := tksOf_eq hk
   obtain ⟨a, rfl⟩ : ∃ a, vi = .ref a := by unfold RV at hi; obtain ⟨a, _, e, _⟩ := hi; exact ⟨a, e⟩
   obtain ⟨l, xs, D, R⟩ := S.ro _ _ hp
   refine wpAny_setItem_heap (knd := tkKind ex prog w) (ar_sp hu) (IsTKs.of hi) D (fun h' D' hs => ?_) (ar_sl R.length (Nat.le_of_lt hlt))
   refine ⟨_, S.change (o := .tdict (es ++ [(ks, v)])) hp hs.2 fun t => ⟨by rw [List.length_append]; exact hlt, _, D', ?_⟩, Keep.change hp hs.2, h⟩
   have hl := R.look ks
   rw [hnone] at hl
   rw [storedH_new hl]
   exact (R.keep t).append ⟨a, vv, [], rfl, hv.keep t, rfl⟩
end
end Mine.Internal
set_option tactic.hygienic false
namespace Mine.Internal
open PySem PySem.W PySem.Calls PyProof.Rows PySem.SeqAt
variable {ex : List Addr}
theorem lookup_zip_some {x : Str} : ∀ {ns : List Str} {vs : List Value}, ns.length = vs.length → x ∈ ns → ∃ v, (ns.zip vs).lookup x = some v
 | [], _, _, h => nomatch h
 | n :: ns, [], h, _ => by simp at h
 | n :: ns, v :: vs, h, hx => by
   rw [List.zip_cons_cons, List.lookup_cons]
   by_cases e : x = n
   · subst e; exact ⟨v, by simp⟩
   · have : (x == n) = false := by simpa using e
     rw [this]
     exact lookup_zip_some (by simpa using h) ((List.mem_cons.mp hx).resolve_left e)
theorem filterMap_zip : ∀ {ns : List Str} {vs : List Value} (pre : List (Str × Value)), ns.length = vs.length → ns.Nodup → (∀ n ∈ ns, pre.lookup n = none) →
   ns.filterMap (fun n => ((pre ++ ns.zip vs).lookup n).map (n, ·)) = ns.zip vs
 | [], _, _, _, _, _ => rfl
 | n :: ns, [], _, h, _, _ => by simp at h
 | n :: ns, v :: vs, pre, h, hn, hp => by
   rw [List.nodup_cons] at hn
   rw [List.zip_cons_cons, List.filterMap_cons]
   have e1 : (pre ++ (n, v) :: ns.zip vs).lookup n = some v := by
     rw [List.lookup_append, hp n List.mem_cons_self]; simp
   rw [e1]
   simp only [Option.map_some, List.cons.injEq, true_and]
   have := filterMap_zip (ns := ns) (vs := vs) (pre ++ [(n, v)]) (by simpa using h) hn.2 (fun m hm => by
     rw [List.lookup_append, hp m (List.mem_cons_of_mem _ hm)]
     have : (m == n) = false := by
       simp only [beq_eq_false_iff_ne, ne_eq]; rintro rfl; exact hn.1 hm
     simp [List.lookup_cons, this])
   refine Eq.trans (congrArg (fun f => List.filterMap f ns) (funext fun m => ?_)) this
   rw [List.append_assoc]; rfl
theorem bindArgs_plain {fd : FuncData} {as : List Arg} {vals : List Value} (hp : fd.params = ⟨[], as, none, [], [], none, []⟩) (hd : fd.defaults = .none) (hl : as.length = vals.length) (hn : (as.map (·.arg)).Nodup) :
   bindArgs fd ⟨vals, []⟩ = pure ((as.map (·.arg)).zip vals) := by
 revert fd as vals
 refine no_implicit_lambda% letI fd := _; letI as := _; letI vals := _; epsX3 1 fd as vals rfl ?_
 intro hp hd hl hn
 have hlen : (as.map (·.arg)).length = vals.length := by simpa using hl
 have h1 : ((as.map (·.arg)).filter fun n => (((as.map (·.arg)).zip vals).lookup n).isNone) = [] := by
   rw [List.filter_eq_nil_iff]
   intro n hm
   revert n; refine letI n := _; epsX1 2 n rfl ?_; intros
   obtain ⟨v, hv⟩ := lookup_zip_some hlen hm
   revert v; refine letI v := _; epsX1 3 v rfl ?_; intros
   simp [hv]
 have h2 := filterMap_zip (ns := as.map (·.arg)) (vs := vals) [] hlen hn (fun _ _ => rfl)
 simp only [List.nil_append] at h2
 unfold bindArgs
 rw [hp, hd]
 show (ite _ _ _) = _
 refine (if_neg ?_).trans ?_
 · show ¬ ((decide (vals.length > (as.map (·.arg)).length) && _) = true)
   rw [hlen, decide_eq_false (Nat.lt_irrefl _), Bool.false_and]
   exact Bool.false_ne_true
 show (ite _ _ _) = _
 refine (if_neg ?_).trans ?_
 · show ¬ ((!List.isEmpty (List.filter (fun n => (List.lookup n ((as.map (·.arg)).zip vals)).isNone) (List.take ((as.map (·.arg)).length - (List.drop _ ([] : List Value)).length) (as.map (·.arg))))) = true)
   rw [List.drop_nil, List.length_nil, Nat.sub_zero, List.take_length, h1]
   exact Bool.false_ne_true
 show (forIn (List.zip (List.drop _ _) (List.drop _ [])) _ _ >>= _) = _
 rw [List.drop_nil, List.zip_nil_right]
 rw [List.forIn_nil, pure_bind]
 show (forIn [] _ _ >>= _) = _
 rw [List.forIn_nil, pure_bind]
 show (pure (List.filterMap (fun n => Option.map (fun x => (n, x)) (List.lookup n ((as.map (·.arg)).zip vals))) ((as.map (·.arg)) ++ [])) : Sem (List (Str × Value))) = _
 rw [List.append_nil, h2]
end Mine.Internal
set_option tactic.hygienic false
namespace Mine.Internal
open PySem PySem.W PySem.Calls PyProof.Rows PySem.SeqAt
variable {ex : List Addr}
noncomputable def Ok (lv : Nat) (A : Around) : Prop := A.handled = none ∧ A.depth + 3 * lv + 10 ≤ 900 ∧ A.units + 40 * lv + 100 ≤ 9800
theorem Ok.units {lv : Nat} {A : Around} (h : Ok lv A) : A.units + 64 < cLine := by have := h.2.2; show _ < 9900; omega
theorem Ok.deeper {lv : Nat} {A : Around} (h : Ok (lv + 1) A) (env : Env) : Ok lv (A.deeper env) :=
 ⟨h.1, by have := h.2.1; show A.depth + 1 + _ + _ ≤ _; omega, by have := h.2.2; show A.units + 3 + _ + _ ≤ _; omega⟩
theorem Ok.room {lv : Nat} {A : Around} (h : Ok lv A) : A.depth < recursionLimit := by have := h.2.1; show _ < 1000; omega
structure Gd (prog : Program) (w : World) (B : Heap) (G : Str → Option V) (ro : Hp) : Prop where
 sys : (B.get? sysModules).isSome = true
 nolimit : B.NoLimit
 glob : ∃ mg mb, B.Ns mainGlobals mg ∧ B.Ns builtinsNs mb ∧ ∀ x v, G x = some v → (∃ val, mg x = some val ∧ RV [] B v val) ∨ (mg x = none ∧ ∃ val, mb x = some val ∧ RV [] B v val)
 ro : ∀ a xs, ro a = some (.list xs) → RoL [] B a xs
 nodbg : G (Str.ofString "__debug__") = none
structure Cx where
 sc : Scope
 G : Str → Option V
 ro : Hp
 lv : Nat
noncomputable def nameV (c : Cx) (l : Loc) (x : Str) : Option V := match l x with
 | some v => some v
 | none => if c.sc.names.lookup x = some .globalImplicit then c.G x else none
noncomputable def own (env : Env) : List Addr := env.locals :: env.cells.map (·.2)
structure FrR (ex : List Addr) (B : Heap) (c : Cx) (env : Env) (l : Loc) (σ : Hp) (s : Shared) : Prop where
 kind : env.scope.kind = .function
 knd : ∀ x k, c.sc.names.lookup x = some k → k ≠ .free → env.kindOf x = some k
 globals : env.globals = mainGlobals
 builtins : env.builtins = builtinsNs
 ns : ∃ m, s.heap.Ns env.locals m ∧ ∀ x v, l x = some v → env.kindOf x = some .local → ∃ val, m x = some val ∧ RV ex s.heap v val
 cells : ∀ x v, l x = some v → env.kindOf x ≠ some .local → (env.kindOf x = some .cell ∨ env.kindOf x = some .free) ∧ ∃ cA val, env.cells.lookup x = some cA ∧ s.heap.IsCell cA (some val) ∧ RV ex s.heap v val
 cellsOk : ∀ x, c.sc.names.lookup x = some .cell → ∃ cA, env.cells.lookup x = some cA
 cellsAre : ∀ x cA, (x, cA) ∈ env.cells → (∃ w, s.heap.IsCell cA w) ∧ σ cA = none ∧ B.get? cA = none
 apart : env.cells.Pairwise fun x y => x.2 ≠ y.2
 loc : σ env.locals = none ∧ B.get? env.locals = none
 nodbg : c.sc.names.lookup (Str.ofString "__debug__") = none
 ldbg : l (Str.ofString "__debug__") = none
 nocd : c.sc.names.lookup (Str.ofString "__classdict__") = none
 lcd : l (Str.ofString "__classdict__") = none
section
variable {prog : Program} {w : World} {B : Heap} {os : OsState} {A : Around} {σ σ' : Hp} {s s' : Shared} {Q : V → Hp → Prop} {c : Cx} {env : Env} {l : Loc}
theorem own_notTup (F : FrR ex B c env l σ s) : ∀ b ∈ own env, ∀ o, s.heap.get? b = some o → ¬ (o.cls = .type "tuple" ∧ ∃ xs n, o.data = .seq xs n) := by
 intro b hb o ho ⟨_, xs, n, hd⟩
 rcases List.mem_cons.mp hb with rfl | hb
 · obtain ⟨m, ⟨o', es, ep, ho', hd', _⟩, _⟩ := F.ns
   rw [ho'] at ho; obtain rfl := Option.some.inj ho; rw [hd] at hd'; cases hd'
 · obtain ⟨⟨x, cA⟩, hx, rfl⟩ := List.mem_map.mp hb
   obtain ⟨⟨v, o', ho', hd'⟩, _⟩ := F.cellsAre x cA hx
   rw [ho'] at ho; obtain rfl := Option.some.inj ho; rw [hd] at hd'; cases hd'
theorem FrR.keep (F : FrR ex B c env l σ s) (S : St ex prog w B os σ s) (k : Keep [] σ s.heap σ' s'.heap) : FrR ex B c env l σ' s' := by
 have t := S.tk0 k
 obtain ⟨m, hm, hl⟩ := F.ns
 obtain ⟨o, es, ep, ho, hd, r⟩ := hm
 have kc : ∀ x cA, (x, cA) ∈ env.cells → ∀ v, s.heap.IsCell cA v → s'.heap.IsCell cA v := fun x cA hx v ⟨o, ho, hd⟩ => ⟨o, k.at ho (F.cellsAre x cA hx).2.1, hd⟩
 refine { F with ns := ⟨m, ⟨o, es, ep, k.at ho F.loc.1, hd, r⟩, fun x v hx hk => ?_⟩, cells := fun x v hx hk => ?_, cellsAre := fun x cA hx => ?_, loc := ⟨k.un ho F.loc.1, F.loc.2⟩ }
 · obtain ⟨val, h1, h2⟩ := hl x v hx hk
   exact ⟨val, h1, h2.keep t⟩
 · obtain ⟨h1, cA, val, h2, h3, h4⟩ := F.cells x v hx hk
   exact ⟨h1, cA, val, h2, kc x cA (mem_of_lookup h2) _ h3, h4.keep t⟩
 · obtain ⟨⟨v, hv⟩, h2, h3⟩ := F.cellsAre x cA hx
   refine ⟨⟨v, kc x cA hx v hv⟩, ?_, h3⟩
   obtain ⟨o, ho, _⟩ := hv
   exact k.un ho h2
theorem TK'.changeU {a : Addr} {o : Obj} {h h' : Heap} (ho : h.get? a = some o) (hd : ∀ xs n, o.data ≠ .seq xs n) (k : ∀ b, b ≠ a → h'.get? b = h.get? b) : TK' ex h h' := fun b ob e hc ⟨xs, n, hd'⟩ _ =>
 (k b fun q => by subst q; obtain rfl := Option.some.inj (ho.symm.trans e); exact hd _ _ hd').trans e
theorem St.changeU (S : St ex prog w B os σ s) {a : Addr} {o : Obj} {h' : Heap} {tk : Nat} (hn : σ a = none) (hB : B.get? a = none) (ho : s.heap.get? a = some o) (hd : ∀ xs n, o.data ≠ .seq xs n) (k : ∀ b, b ≠ a → h'.get? b = s.heap.get? b) (ha : ∃ o', h'.get? a = some o') :
   St ex prog w B os σ { s with heap := h', toks := tk } := by
 have t : TK' ex s.heap h' := TK'.changeU ho hd k
 refine ⟨fun b hb => ?_, fun b x e => (S.ro b x e).keep t fun ob q => (k b fun q => ?_).trans q, S.new, fun b ob e => (k b fun q => ?_).trans (S.base b ob e), S.gens, S.os⟩
 · obtain ⟨h1, h2, o', ho'⟩ := S.priv b hb
   cases Decidable.em (b = a) with
   | inl e => subst e; exact ⟨h1, h2, ha⟩
   | inr e => exact ⟨h1, h2, o', (k b e).trans ho'⟩
 · subst q; exact noneSome (hn.symm.trans e)
 · subst q; exact noneSome (hB.symm.trans e)
theorem Loc.set_inv {l : Loc} {x y : Str} {v u : V} (h : l.set x v y = some u) : (y = x ∧ v = u) ∨ (y ≠ x ∧ l y = some u) := by
 unfold Loc.set at h
 cases Decidable.em (y = x) with
 | inl e => rw [if_pos e] at h; exact .inl ⟨e, Option.some.inj h⟩
 | inr e => rw [if_neg e] at h; exact .inr ⟨e, h⟩
theorem FrR.setNone (F : FrR ex B c env l σ s) {x : Str} {k : NameKind} (hk : c.sc.names.lookup x = some k) (v : V) : (l.set x v) (Str.ofString "__debug__") = none ∧ (l.set x v) (Str.ofString "__classdict__") = none := by
 unfold Loc.set
 rw [if_neg fun e => noneSome (F.nodbg.symm.trans (e ▸ hk)), if_neg fun e => noneSome (F.nocd.symm.trans (e ▸ hk))]
 exact ⟨F.ldbg, F.lcd⟩
theorem store_local {x : Str} {v : V} {val : Value} (S : St ex prog w B os σ s) (F : FrR ex B c env l σ s) (hk : c.sc.names.lookup x = some .local) (hv : RV ex s.heap v val)
   {P : Unit → Shared → Prop} (hP : ∀ s', FrR ex B c env (l.set x v) σ s' → St ex prog w B os σ s' → Keep [env.locals] σ s.heap σ s'.heap → P () s') :
   wpAny (model prog w) A (storeName env x val) P F0 s := by
 obtain ⟨hdbg, hcd⟩ := F.setNone hk v
 obtain ⟨m, hm, hl⟩ := F.ns
 obtain ⟨oL, esL, epL, hoL, hdL, rL⟩ := id hm
 have nt : ∀ xs n, oL.data ≠ .seq xs n := fun xs n e => nomatch hdL.symm.trans e
 have hk' := F.knd x _ hk (by decide)
 refine wpAny_storeName_local hk' hm (fun h' hn' hs => ?_) (by rw [F.kind]; rfl)
 have t : TK' ex s.heap h' := TK'.changeU hoL nt hs.2
 have S' : St ex prog w B os σ { s with heap := h', toks := s.toks + 1 } := S.changeU F.loc.1 F.loc.2 hoL nt hs.2 (by obtain ⟨o2, _, _, ho2, _⟩ := id hn'; exact ⟨o2, ho2⟩)
 have hcell : ∀ y cA, (y, cA) ∈ env.cells → cA ≠ env.locals := fun y cA hy e => by
   obtain ⟨⟨v, o, ho, hd⟩, _⟩ := F.cellsAre y cA hy
   rw [e] at ho
   obtain rfl := Option.some.inj (hoL.symm.trans ho)
   exact nomatch hdL.symm.trans hd
 refine hP _ { F with ns := ⟨_, hn', fun y u hy hky => ?_⟩, cells := fun y u hy hky => ?_, cellsAre := fun y cA hy => ?_, ldbg := hdbg, lcd := hcd } S' ⟨fun b o e n hbo => ⟨(hs.2 b fun q => hbo (List.mem_singleton.mpr q)).trans e, n⟩, fun _ _ n => n⟩
 · cases Loc.set_inv hy with
   | inl q =>
     obtain ⟨rfl, rfl⟩ := q
     rw [if_pos rfl]
     exact ⟨val, rfl, hv.keep t⟩
   | inr q =>
     rw [if_neg q.1]
     obtain ⟨w', h1, h2⟩ := hl y u q.2 hky
     exact ⟨w', h1, h2.keep t⟩
 · cases Loc.set_inv hy with
   | inl q => exact absurd (q.1 ▸ hk') hky
   | inr q =>
     obtain ⟨h1, cA, w', h2, h3, h4⟩ := F.cells y u q.2 hky
     exact ⟨h1, cA, w', h2, h3.sameBut hs (hcell y cA (mem_of_lookup h2)), h4.keep t⟩
 · obtain ⟨⟨v, hv⟩, h2, h3⟩ := F.cellsAre y cA hy
   exact ⟨⟨v, hv.sameBut hs (hcell y cA hy)⟩, h2, h3⟩
theorem store_ok {x : Str} {v : V} {val : Value} (S : St ex prog w B os σ s) (F : FrR ex B c env l σ s) (hk : c.sc.names.lookup x = some .local ∨ c.sc.names.lookup x = some .cell) (hv : RV ex s.heap v val) {Q : Hp → Prop}
   {P : Unit → Shared → Prop} (hP : ∀ s', FrR ex B c env (l.set x v) σ s' → St ex prog w B os σ s' → Keep (own env) σ s.heap σ s'.heap → P () s') :
   wpAny (model prog w) A (storeName env x val) P F0 s := by
 cases hk with
 | inl hk => exact store_local S F hk hv fun s' F' S' k => hP s' F' S' ⟨fun b o e n hb => k.1 b o e n fun hm => hb (List.mem_singleton.mp hm ▸ List.mem_cons_self), fun _ _ n => n⟩
 | inr hk =>
   obtain ⟨hdbg, hcd⟩ := F.setNone hk v
   obtain ⟨m, hm, hl⟩ := F.ns
   obtain ⟨oL, esL, epL, hoL, hdL, rL⟩ := id hm
   have hk' := F.knd x _ hk (by decide)
   obtain ⟨cA, hcA⟩ := F.cellsOk x hk
   have hmem := mem_of_lookup hcA
   obtain ⟨⟨v0, hv0⟩, hu, hb⟩ := F.cellsAre x cA hmem
   obtain ⟨oc, hoc, hdc⟩ := id hv0
   have nt : ∀ xs n, oc.data ≠ .seq xs n := fun xs n e => nomatch hdc.symm.trans e
   refine wpAny_storeName_cell F.kind hk' hcA hv0 fun h' hc' hs => ?_
   have t : TK' ex s.heap h' := TK'.changeU hoc nt hs.2
   have hne : env.locals ≠ cA := fun e => by
     rw [e] at hoL
     obtain rfl := Option.some.inj (hoL.symm.trans hoc)
     exact nomatch hdL.symm.trans hdc
   have S' : St ex prog w B os σ { s with heap := h', toks := s.toks } := S.changeU hu hb hoc nt hs.2 (by obtain ⟨o2, ho2, _⟩ := id hc'; exact ⟨o2, ho2⟩)
   refine hP _ { F with ns := ⟨m, hm.sameBut hs hne, fun y u hy hky => ?_⟩, cells := fun y u hy hky => ?_, cellsAre := fun y cB hy => ?_, ldbg := hdbg, lcd := hcd } S' ⟨fun b o e n hbo => ⟨(hs.2 b fun q => hbo (q ▸ List.mem_cons_of_mem _ (List.mem_map_of_mem hmem))).trans e, n⟩, fun _ _ n => n⟩
   · cases Loc.set_inv hy with
     | inl q => rw [q.1, hk'] at hky; exact nomatch hky
     | inr q =>
       obtain ⟨w', h1, h2⟩ := hl y u q.2 hky
       exact ⟨w', h1, h2.keep t⟩
   · cases Loc.set_inv hy with
     | inl q =>
       obtain ⟨rfl, rfl⟩ := q
       exact ⟨.inl hk', cA, val, hcA, hc', hv.keep t⟩
     | inr q =>
       obtain ⟨h1, cB, w', h2, h3, h4⟩ := F.cells y u q.2 hky
       refine ⟨h1, cB, w', h2, h3.sameBut hs fun q' => q.1 (name_of_addr F.apart (mem_of_lookup h2) (q' ▸ hmem)), h4.keep t⟩
   · cases Decidable.em (cB = cA) with
     | inl e => subst e; exact ⟨⟨_, hc'⟩, hu, hb⟩
     | inr e =>
       obtain ⟨⟨v, hv⟩, h2, h3⟩ := F.cellsAre y cB hy
       exact ⟨⟨v, hv.sameBut hs e⟩, h2, h3⟩
set_option tactic.hygienic true in
theorem name_ok {x : Str} {pos : Pos} {v : V} {ro : Hp} (D : Gd prog w B c.G ro) (S : St ex prog w B os σ s) (F : FrR ex B c env l σ s) (e : nameV c l x = some v) (h : Q v σ) :
   wpAny (model prog w) A (eval (.Name x pos) env) (PE ex prog w B os σ s Q) F0 s := by
 unfold nameV at e
 split at e
 · rename_i v' hl
   cases e
   have hx : (x == ("__debug__" : Str)) = false := by
     rw [beq_eq_false_iff_ne]; rintro rfl; rw [F.ldbg] at hl; cases hl
   by_cases hk : env.kindOf x = some .local
   · obtain ⟨m, hm, hr⟩ := F.ns
     obtain ⟨val, h1, h2⟩ := hr x v hl hk
     exact wpAny_Name (wpAny_loadName_local F.kind hk hm h1 (PE.here S h2 h)) hx
   · obtain ⟨hk', cA, val, h1, h2, h3⟩ := F.cells x v hl hk
     rcases hk' with hk' | hk'
     · exact wpAny_Name (wpAny_loadName_cell F.kind hk' h1 h2 (PE.here S h3 h)) hx
     · by_cases hc : x = Str.ofString "__classdict__"
       · subst hc; rw [F.lcd] at hl; cases hl
       · exact wpAny_Name (wpAny_loadName_free F.kind hk' h1 h2 (PE.here S h3 h) (by rw [beq_eq_false_iff_ne]; exact hc)) hx
 · rename_i hl
   split at e
   · rename_i hk
     have hk' := F.knd x _ hk (by decide)
     have hx : (x == ("__debug__" : Str)) = false := by
       rw [beq_eq_false_iff_ne]; rintro rfl; rw [F.nodbg] at hk; cases hk
     obtain ⟨mg, mb, hmg, hmb, hg⟩ := D.glob
     have tk : TK' ex B s.heap := fun b o e _ _ _ => S.base b o e
     have exb : ∀ b ∈ ex, b ∉ ([] : List Addr) → B.get? b = none := fun b hb _ => (S.priv b hb).2.1
     rcases hg x v e with ⟨val, h1, h2⟩ | ⟨h0, val, h1, h2⟩
     · exact Name_function_global F.kind hk' (loadGlobal_global (by rw [F.globals]; exact hmg.keeps S.base) h1 (PE.here S ((h2.exch exb).keep tk) h)) hx
     · exact Name_function_global F.kind hk' (loadGlobal_builtin (by rw [F.globals]; exact hmg.keeps S.base) h0 (by rw [F.builtins]; exact hmb.keeps S.base) h1 (PE.here S ((h2.exch exb).keep tk) h)) hx
   · cases e
end
end Mine.Internal
set_option tactic.hygienic false
namespace Mine.Internal
open PySem PySem.W PySem.Calls PyProof.Rows PySem.SeqAt
variable {ex ex₀ : List Addr}
section
variable {prog : Program} {w : World} {B : Heap} {os : OsState} {A : Around} {σ σ' : Hp} {s s' : Shared}
theorem St.fp (S : St ex prog w B os σ s) {fp : List Addr} {h' : Heap} {tk : Nat} (hfp : ∀ b ∈ fp, σ b = none ∧ B.get? b = none ∧ (b ∈ ex ∨ ∀ o, s.heap.get? b = some o → ¬ (o.cls = .type "tuple" ∧ ∃ xs n, o.data = .seq xs n)))
   (k : ∀ b o, b ∉ fp → s.heap.get? b = some o → h'.get? b = some o) (hex : ∀ b ∈ ex, b ∈ fp → ∃ o, h'.get? b = some o) :
   St ex prog w B os σ { s with heap := h', toks := tk } := by
 have t : TK' ex s.heap h' := fun b o e hc hd hx => by
   refine k b o (fun hm => ?_) e
   rcases (hfp b hm).2.2 with h | h
   · exact hx h
   · exact h o e ⟨hc, hd⟩
 refine ⟨fun b hb => ?_, fun a x e => (S.ro a x e).keep t fun ob q => k a ob (fun hm => ?_) q, S.new, fun b o e => k b o (fun hm => ?_) (S.base b o e), S.gens, S.os⟩
 · obtain ⟨h1, h2, o, ho⟩ := S.priv b hb
   refine ⟨h1, h2, ?_⟩
   by_cases hm : b ∈ fp
   · exact hex b hb hm
   · exact ⟨o, k b o hm ho⟩
 · rw [(hfp a hm).1] at e; exact noneSome e
 · rw [(hfp b hm).2.1] at e; exact noneSome e
theorem Keep.fp {fp : List Addr} {h h' : Heap} (k : ∀ b o, b ∉ fp → h.get? b = some o → h'.get? b = some o) : Keep fp σ h σ h' := ⟨fun b o e n hb => ⟨k b o hb e, n⟩, fun _ _ n => n⟩
theorem St.shrink (S : St ex prog w B os σ s) (hs : ∀ b ∈ ex₀, b ∈ ex) : St ex₀ prog w B os σ s :=
 ⟨fun b hb => S.priv b (hs b hb), fun a o e => (S.ro a o e).exch fun b hb hn => absurd (hs b hb) hn, S.new, S.base, S.gens, S.os⟩
structure Itr (ex ex₀ : List Addr) (prog : Program) (w : World) (B : Heap) (os : OsState) (tgt : PySem.Expr) (it : Addr) (fp : List Addr) (items : List V) (src : Hp → Prop) (P : Nat → Heap → Prop) : Prop where
 alive : ∀ k h, P k h → ∀ b ∈ fp, ∃ o, h.get? b = some o
 frame : ∀ k h h', P k h → (∀ b ∈ fp, ∀ o, h.get? b = some o → h'.get? b = some o) → TK' ex h h' → P k h'
 item : ∀ {A : Around} {σ : Hp} {s : Shared} {k : Nat} {x : V}, A.handled = none → St ex prog w B os σ s → (∀ b ∈ fp, σ b = none ∧ B.get? b = none) → src σ → P k s.heap → items[k]? = some x →
   wpAny (model prog w) A (pyNext (.ref it)) (fun r s' => ∃ v, r = some v ∧ wpAny (model prog w) A (letOwnedTupleGo tgt (.ref it) v) (fun _ s'' => St ex prog w B os σ s'' ∧ RV ex s''.heap x v ∧ P (k + 1) s''.heap ∧ Keep fp σ s.heap σ s''.heap ∧ TK' ex s.heap s''.heap) F0 s') F0 s
 done : ∀ {A : Around} {σ : Hp} {s : Shared}, A.handled = none → St ex prog w B os σ s → (∀ b ∈ fp, σ b = none ∧ B.get? b = none) → src σ → P items.length s.heap →
   wpAny (model prog w) A (pyNext (.ref it)) (fun r s' => r = none ∧ St ex₀ prog w B os σ s' ∧ Keep fp σ s.heap σ s'.heap ∧ TK' ex s.heap s'.heap) F0 s
 self : ∀ {A : Around} {s : Shared} {Q : Value → Shared → Prop}, P 0 s.heap → Q (.ref it) s → wpAny (model prog w) A (pyIter (.ref it)) Q F0 s
noncomputable def isNT : PySem.Expr → Bool
 | .Name .. => true
 | .Tuple .. => true
 | _ => false
theorem letGo_seq {T : String} {it : Addr} {v : Value} {tgt : PySem.Expr} {o : Obj} {vs : Array Value} {Q : Unit → Shared → Prop} (ht : isNT tgt = true) (ho : s.heap.get? it = some o) (hc : o.cls = .type T) (hd : o.data = .fields vs)
   (hT : (["enumerate", "zip", "dict_itemiterator", "dict_reverseitemiterator", "odict_iterator", "itertools.zip_longest", "itertools.pairwise"].contains T) = false) (q : Q () s) : wpAny (model prog w) A (letOwnedTupleGo tgt (.ref it) v) Q F0 s := by
 cases tgt with
 | Name => exact wpAny_pure q
 | Tuple =>
   cases v with
   | ref a =>
     show wpAny (model prog w) A (load it >>= _) Q F0 s
     refine wpAny_bind (wpAny_load ho ?_)
     rw [hc, hd]
     show wpAny _ _ (if (List.contains _ T && _) = true then _ else _) _ _ _
     rw [hT, Bool.false_and, if_neg Bool.false_ne_true]
     exact wpAny_pure q
   | _ => exact wpAny_pure q
 | _ => exact noFalse ht
theorem one_fp (S : St ex prog w B os σ s) {it : Addr} {h' : Heap} {T : String} {tk : Nat} (hx : it ∉ ex) (hfp : ∀ b ∈ [it], σ b = none ∧ B.get? b = none) (hT : ∃ o, s.heap.get? it = some o ∧ o.cls = .type T) (hne : T ≠ "tuple")
   (k0 : ∀ b o, b ∉ [it] → s.heap.get? b = some o → h'.get? b = some o) : St ex prog w B os σ { s with heap := h', toks := tk } ∧ TK' ex s.heap h' := by
 have nt : ∀ b ∈ [it], ∀ o, s.heap.get? b = some o → ¬ (o.cls = .type "tuple" ∧ ∃ xs n, o.data = .seq xs n) := fun b hb o ho q => by
   obtain rfl := List.mem_singleton.mp hb
   obtain ⟨o', ho', hc'⟩ := hT
   obtain rfl := Option.some.inj (ho'.symm.trans ho)
   exact hne (Value.type.inj (hc'.symm.trans q.1))
 exact ⟨S.fp (fun b hb => ⟨(hfp b hb).1, (hfp b hb).2, .inr (nt b hb)⟩) k0 (fun b hx' hb => absurd (List.mem_singleton.mp hb ▸ hx') hx), fun b o e hc hd hx' => k0 b o (fun hb => nt b hb o e ⟨hc, hd⟩) e⟩
theorem Itr.one {T : String} {tgt : PySem.Expr} {it : Addr} {xs : List V} {src : Hp → Prop} {P : Nat → Heap → Prop} (ht : isNT tgt = true) (hx : it ∉ ex) (hT : T ≠ "tuple")
   (hcon : (["enumerate", "zip", "dict_itemiterator", "dict_reverseitemiterator", "odict_iterator", "itertools.zip_longest", "itertools.pairwise"].contains T) = false)
   (cls : ∀ k h, P k h → ∃ o vs, h.get? it = some o ∧ o.cls = .type T ∧ o.data = .fields vs)
   (frame : ∀ k h h', P k h → (∀ o, h.get? it = some o → h'.get? it = some o) → TK' ex h h' → P k h')
   (item : ∀ {A : Around} {σ : Hp} {s : Shared} {k : Nat} {x : V} {Q : Option Value → Shared → Prop}, St ex prog w B os σ s → src σ → P k s.heap → xs[k]? = some x →
     (∀ h' v tk, (∀ b o, b ≠ it → s.heap.get? b = some o → h'.get? b = some o) → (TK' ex s.heap h' → RV ex h' x v ∧ P (k + 1) h') → Q (some v) { s with heap := h', toks := tk }) → wpAny (model prog w) A (pyNext (.ref it)) Q F0 s)
   (done : ∀ {A : Around} {σ : Hp} {s : Shared} {Q : Option Value → Shared → Prop}, A.handled = none → St ex prog w B os σ s → src σ → P xs.length s.heap →
     (∀ h' tk, (∀ b o, b ≠ it → s.heap.get? b = some o → h'.get? b = some o) → Q none { s with heap := h', toks := tk }) → wpAny (model prog w) A (pyNext (.ref it)) Q F0 s)
   (self : ∀ {A : Around} {s : Shared} {Q : Value → Shared → Prop}, P 0 s.heap → Q (.ref it) s → wpAny (model prog w) A (pyIter (.ref it)) Q F0 s) :
   Itr ex ex prog w B os tgt it [it] xs src P where
 alive := fun k h p b hb => by obtain rfl := List.mem_singleton.mp hb; obtain ⟨o, _, ho, _⟩ := cls k h p; exact ⟨o, ho⟩
 frame := fun k h h' p hk t => frame k h h' p (hk it List.mem_cons_self) t
 item := fun {A σ s k x} _ S hfp hs p hx' => item S hs p hx' fun h' v tk k0 r => ⟨v, rfl, by
   have k1 : ∀ b o, b ∉ [it] → s.heap.get? b = some o → h'.get? b = some o := fun b o hb => k0 b o fun q => hb (List.mem_singleton.mpr q)
   obtain ⟨o, _, ho, hc, _⟩ := cls _ _ p
   obtain ⟨S', t⟩ := one_fp (tk := tk) S hx hfp ⟨o, ho, hc⟩ hT k1
   obtain ⟨rv, p'⟩ := r t
   obtain ⟨o', vs', ho', hc', hd'⟩ := cls _ _ p'
   exact letGo_seq ht ho' hc' hd' hcon ⟨S', rv, p', Keep.fp k1, t⟩⟩
 done := fun {A σ s} hh S hfp hs p => done hh S hs p fun h' tk k0 => by
   have k1 : ∀ b o, b ∉ [it] → s.heap.get? b = some o → h'.get? b = some o := fun b o hb => k0 b o fun q => hb (List.mem_singleton.mpr q)
   obtain ⟨o, _, ho, hc, _⟩ := cls _ _ p
   obtain ⟨S', t⟩ := one_fp (tk := tk) S hx hfp ⟨o, ho, hc⟩ hT k1
   exact ⟨rfl, S', Keep.fp k1, t⟩
 self := self
theorem end_at {l : List V} {it : Array Value} {h : Heap} (R : RVs ex h l it.toList) : it[l.length]? = none := by
 rw [← R.length, Array.length_toList]; exact Array.getElem?_eq_none (Nat.le_refl _)
theorem Itr.list {tgt : PySem.Expr} (ht : isNT tgt = true) {it l : Addr} {xs : List V} (hx : it ∉ ex) : Itr ex ex prog w B os tgt it [it] xs (fun σ => σ l = some (.list xs)) (fun k h => h.IsListIter it l k) := by
 refine Itr.one (T := "list_iterator") ht hx (by decide) (by decide) (fun k h ⟨o, ho, hc, hd⟩ => ⟨o, _, ho, hc, hd⟩) (fun k h h' st hk _ => st.at hk) (fun S hs st hx' q => ?_) (fun hh S hs st q => ?_) fun st hq => wpAny_pyIter_listiter st hq
 · obtain ⟨_, items, L, R⟩ := S.lst hs
   obtain ⟨v, hv, rv⟩ := R.get hx'
   exact wpAny_pyNext_list_item st L (Array.getElem?_toList.symm.trans hv) fun h' st' hsb => q h' v _ (fun b o hb e => hsb.extBut b o hb e) fun t => ⟨rv.keep t, st'⟩
 · obtain ⟨_, items, L, R⟩ := S.lst hs
   exact wpAny_pyNext_list_end hh st L (end_at R) fun h' hsb => q h' _ fun b o hb e => hsb b o hb e
theorem Itr.tuple {tgt : PySem.Expr} (ht : isNT tgt = true) {it l : Addr} {xs : List V} {items : Array Value} (hx : it ∉ ex) (hlx : l ∉ ex) :
   Itr ex ex prog w B os tgt it [it] xs (fun _ => True) (fun k h => h.IsTupleIter it l k ∧ h.IsTuple l items ∧ RVs ex h xs items.toList) := by
 have keep : ∀ {h h' : Heap}, TK' ex h h' → h.IsTuple l items → h'.IsTuple l items := fun t ⟨o, ho, hc, n, hd⟩ => ⟨o, t l o ho hc ⟨_, _, hd⟩ hlx, hc, n, hd⟩
 refine Itr.one (T := "tuple_iterator") ht hx (by decide) (by decide) (fun k h ⟨⟨o, ho, hc, hd⟩, _⟩ => ⟨o, _, ho, hc, hd⟩) (fun k h h' ⟨⟨o, ho, r⟩, IT, rv⟩ hk t => ⟨⟨o, hk o ho, r⟩, keep t IT, rv.keep t⟩) (fun S hs P hx' q => ?_) (fun hh S hs P q => ?_) fun st hq => wpAny_pyIter_tupleiter st.1 hq
 · obtain ⟨st, IT, R⟩ := P
   obtain ⟨v, hv, rv⟩ := R.get hx'
   exact wpAny_pyNext_tuple_item st IT (Array.getElem?_toList.symm.trans hv) fun h' st' hsb => q h' v _ (fun b o hb e => hsb.extBut b o hb e) fun t => ⟨rv.keep t, st', keep t IT, R.keep t⟩
 · obtain ⟨st, IT, R⟩ := P
   exact wpAny_pyNext_tuple_end hh st IT (end_at R) fun h' hsb => q h' _ fun b o hb e => hsb b o hb e
theorem Itr.dict {tgt : PySem.Expr} (ht : isNT tgt = true) {it d : Addr} {ks : List Key} {ep : Nat} (hx : it ∉ ex) :
   Itr ex ex prog w B os tgt it [it] (ks.map Key.toV) (fun σ => ∃ es, σ d = some (.dict es ep) ∧ es.map (·.1) = ks) (fun k h => h.IsKeyIter it d k ks.length ep) := by
 refine Itr.one (T := "dict_keyiterator") ht hx (by decide) (by decide) (fun k h ⟨o, ho, hc, hd⟩ => ⟨o, _, ho, hc, hd⟩) (fun k h h' ⟨o, ho, r⟩ hk _ => ⟨o, hk o ho, r⟩) (fun S hs st hx' q => ?_) (fun hh S hs st q => ?_) fun st hq => wpAny_pyIter_keyiter st hq
 · obtain ⟨es, hd, rfl⟩ := hs
   obtain ⟨ln, kvs, D, R⟩ := S.ro _ _ hd
   rw [← R.keys, List.map_map, List.getElem?_map, Option.map_eq_some_iff] at hx'
   obtain ⟨⟨kk, vv⟩, hkv, rfl⟩ := hx'
   rw [List.length_map, ← R.length] at st q
   exact wpAny_pyNext_dict_item st D hkv fun key h' hkey st'' hsb => q h' key _ (fun b o hb e => hsb.extBut b o hb e) fun t => ⟨Key.isV_RV hkey, st''⟩
 · obtain ⟨es, hd, rfl⟩ := hs
   obtain ⟨ln, kvs, D, R⟩ := S.ro _ _ hd
   rw [List.length_map, List.length_map, ← R.length] at st
   exact wpAny_pyNext_dict_end hh st D (List.getElem?_eq_none (Nat.le_refl _)) fun h' hsb => q h' _ fun b o hb e => hsb b o hb e
theorem ar_r1 {n k : Nat} (h : k < n) : 0 < (n : Int) - k := by omega
theorem ar_r2 (a : Int) (k : Nat) : a + ((k + 1 : Nat) : Int) = a + k + 1 := by omega
theorem ar_r3 (n : Int) (k : Nat) : n - ((k + 1 : Nat) : Int) = n - k - 1 := by omega
theorem Itr.range {tgt : PySem.Expr} (ht : isNT tgt = true) {it : Addr} {a : Int} {n : Nat} (hx : it ∉ ex) :
   Itr ex ex prog w B os tgt it [it] ((List.range n).map fun (k : Nat) => V.int (a + (k : Int))) (fun _ => True) (fun k h => IsRangeIter h it (a + k) (n - k) 1) := by
 refine Itr.one (T := "range_iterator") ht hx (by decide) (by decide) (fun k h st => ⟨_, _, st, rfl, rfl⟩) (fun k h h' st hk _ => hk _ st) (fun S hs st hx' q => ?_) (fun hh S hs st q => ?_) fun st hq => wpAny_pyIter_rangeiter st hq
 · rw [List.getElem?_map, Option.map_eq_some_iff] at hx'
   obtain ⟨j, hj, rfl⟩ := hx'
   obtain ⟨hjn, e⟩ := List.getElem?_eq_some_iff.mp hj
   rw [List.getElem_range] at e
   subst e
   rw [List.length_range] at hjn
   refine wpAny_pyNext_range_item st (ar_r1 hjn) fun h' st' hsb => q h' _ _ (fun b o hb e => hsb.extBut b o hb e) fun t => ⟨RV.int_, ?_⟩
   rw [ar_r2, ar_r3]; exact st'
 · rw [List.length_map, List.length_range, Int.sub_self] at st
   exact wpAny_pyNext_range_end hh st (Int.le_refl 0) fun h' hsb => q h' _ fun b o hb e => hsb b o hb e
noncomputable def isTupE : PySem.Expr → Bool
 | .Tuple .. => true
 | _ => false
noncomputable def pairV (p : V × V) : V := .tup [p.1, p.2]
theorem cls_ne {o : Obj} {T : String} (hc : o.cls = .type T) (hcl : o.cls = .type "tuple") (h : T ≠ "tuple") : False := h (Value.type.inj (hc.symm.trans hcl))
theorem fpZ (S : St ex prog w B os σ s) {z TI TO i1 i2 l1 l2 : Addr} {k1 k2 : Nat} {f0 : Value} (hTO : TO ∈ ex) (hsub : ∀ b ∈ ex₀, b ∈ ex) (hzx : z ∉ ex) (h1x : i1 ∉ ex) (h2x : i2 ∉ ex) (hfp : ∀ c ∈ [z, TO, i1, i2, TI], σ c = none ∧ B.get? c = none)
   (hz : IsZip s.heap z TI TO f0) (h1 : s.heap.IsListIter i1 l1 k1) (h2 : s.heap.IsListIter i2 l2 k2) {h' : Heap} (hTO₀ : TO ∈ ex₀ → ∃ o, h'.get? TO = some o)
   (hk : ∀ c o, c ≠ z → c ≠ TO → c ≠ i1 → c ≠ i2 → s.heap.get? c = some o → h'.get? c = some o) : St ex₀ prog w B os σ { s with heap := h' } ∧ TK' ex s.heap h' := by
 have li : ∀ {i l : Addr} {k : Nat} {o : Obj}, s.heap.IsListIter i l k → s.heap.get? i = some o → o.cls = .type "tuple" → False := fun h e hcl => by
   obtain ⟨o', e', hc', _⟩ := h
   obtain rfl := Option.some.inj (e'.symm.trans e)
   exact cls_ne hc' hcl (by decide)
 have t : TK' ex s.heap h' := fun c o e hcl hd hx => by
   refine hk c o (fun q => ?_) (fun q => hx (q ▸ hTO)) (fun q => li h1 (q ▸ e) hcl) (fun q => li h2 (q ▸ e) hcl) e
   obtain rfl := Option.some.inj (hz.symm.trans (q ▸ e))
   exact cls_ne (T := "zip") rfl hcl (by decide)
 have no : ∀ {a c : Addr}, a ∈ [z, TO, i1, i2, TI] → (σ c ≠ none ∨ B.get? c ≠ none) → c ≠ a := fun ha h e => by
   subst e
   exact h.elim (fun q => q (hfp _ ha).1) fun q => q (hfp _ ha).2
 have off : ∀ {c : Addr}, (σ c ≠ none ∨ B.get? c ≠ none) → ∀ o, s.heap.get? c = some o → h'.get? c = some o := fun h o e =>
   hk _ o (no (.head _) h) (no (.tail _ (.head _)) h) (no (.tail _ (.tail _ (.head _))) h) (no (.tail _ (.tail _ (.tail _ (.head _)))) h) e
 refine ⟨⟨fun b hb => ?_, fun a o e => ((S.ro a o e).keep t fun ob q => off (.inl (e ▸ nofun)) ob q).exch fun b hb hn => absurd (hsub b hb) hn, S.new, fun b o e => off (.inr (e ▸ nofun)) o (S.base b o e), S.gens, S.os⟩, t⟩
 obtain ⟨p1, p2, o, ho⟩ := S.priv b (hsub b hb)
 cases Decidable.em (b = TO) with
 | inl q => subst q; exact ⟨p1, p2, hTO₀ hb⟩
 | inr q => exact ⟨p1, p2, o, hk b o (fun q => hzx (q ▸ hsub _ hb)) q (fun q => h1x (q ▸ hsub _ hb)) (fun q => h2x (q ▸ hsub _ hb)) ho⟩
noncomputable def zipP (z TI TO i1 i2 l1 l2 : Addr) (k : Nat) (h : Heap) : Prop := IsZip h z TI TO .none ∧ IsPair h TI (.ref i1) (.ref i2) ∧ (∃ a b, IsPair h TO a b) ∧ h.IsListIter i1 l1 k ∧ h.IsListIter i2 l2 k
theorem isTupE_is {t : PySem.Expr} (h : isTupE t = true) : ∃ a b c, t = .Tuple a b c := by
 cases t with
 | Tuple a b c => exact ⟨a, b, c, rfl⟩
 | _ => exact noFalse h
theorem mem5 {a b c d e x : Addr} {P : Prop} (h : x ∈ [a, b, c, d, e]) (ha : x = a → P) (hb : x = b → P) (hc : x = c → P) (hd : x = d → P) (he : x = e → P) : P :=
 (List.mem_cons.mp h).elim ha fun h => (List.mem_cons.mp h).elim hb fun h => (List.mem_cons.mp h).elim hc fun h => (List.mem_cons.mp h).elim hd fun h => he (List.mem_singleton.mp h)
theorem off5 {a b c d e x : Addr} (h : x ∉ [a, b, c, d, e]) : x ≠ a ∧ x ≠ b ∧ x ≠ c ∧ x ≠ d :=
 ⟨fun q => h (q ▸ .head _), fun q => h (q ▸ .tail _ (.head _)), fun q => h (q ▸ .tail _ (.tail _ (.head _))), fun q => h (q ▸ .tail _ (.tail _ (.tail _ (.head _))))⟩
theorem Itr.zip {tgt : PySem.Expr} (ht : isTupE tgt = true) {z TI TO i1 i2 l1 l2 : Addr} {xs ys : List V} (D : ZipApart z TI TO i1 i2 l1 l2) (hTO : TO ∈ ex) (hzx : z ∉ ex) (h1x : i1 ∉ ex) (h2x : i2 ∉ ex) (hsub : ∀ b ∈ ex₀, b ∈ ex) (hTO₀ : TO ∉ ex₀) :
   Itr ex ex₀ prog w B os tgt z [z, TO, i1, i2, TI] ((xs.zip ys).map pairV) (fun σ => σ l1 = some (.list xs) ∧ σ l2 = some (.list ys))
     (zipP z TI TO i1 i2 l1 l2) := by
 haveI := neW
 haveI := neSh
 haveI := neA
 revert z TI TO i1 i2 l1 l2 xs ys
 revert ex ex₀ prog w B os tgt
 refine no_implicit_lambda% letI ex := _; letI ex₀ := _; letI prog := _; letI w := _; letI B := _; letI os := _; letI tgt := _; epsX7 1 ex ex₀ prog w B os tgt rfl ?_
 intro ht hsub
 refine no_implicit_lambda% letI z := _; letI TI := _; letI TO := _; letI i1 := _; letI i2 := _; letI l1 := _; letI l2 := _; letI xs := _; letI ys := _; epsX9 2 z TI TO i1 i2 l1 l2 xs ys rfl ?_
 intro D hTO hzx h1x h2x hTO₀
 constructor
 case alive =>
   exact fun k h ⟨hz, hTI, ⟨a, b, hTO'⟩, ⟨o1, h1, _⟩, ⟨o2, h2, _⟩⟩ c hc => by
     exact mem5 hc (fun q => ⟨_, q ▸ hz⟩) (fun q => ⟨_, q ▸ hTO'⟩) (fun q => ⟨_, q ▸ h1⟩) (fun q => ⟨_, q ▸ h2⟩) fun q => ⟨_, q ▸ hTI⟩
 case frame =>
   exact fun k h h' ⟨hz, hTI, ⟨a, b, hTO'⟩, h1, h2⟩ hk _ => ⟨hk z (.head _) _ hz, hk TI (.tail _ (.tail _ (.tail _ (.tail _ (.head _))))) _ hTI, ⟨a, b, hk TO (.tail _ (.head _)) _ hTO'⟩, h1.at fun o e => hk i1 (.tail _ (.tail _ (.head _))) o e, h2.at fun o e => hk i2 (.tail _ (.tail _ (.tail _ (.head _)))) o e⟩
 case item =>
   intro A σ s k x hh S hfp hs P hx'
   revert x; revert A σ s k; refine no_implicit_lambda% letI A := _; letI σ := _; letI s := _; letI k := _; epsX4 3 A σ s k rfl ?_; set_option tactic.hygienic false in intros
   obtain ⟨hz, hTI, ⟨a, b, hTO'⟩, h1, h2⟩ := P
   revert x; revert a b; refine letI a := _; letI b := _; epsX2 4 a b rfl ?_; set_option tactic.hygienic false in intros
   obtain ⟨hs1, hs2⟩ := hs
   obtain ⟨_, it1, L1, R1⟩ := S.lst hs1
   revert x; revert it1; refine letI it1 := _; epsX1 5 it1 rfl ?_; set_option tactic.hygienic false in intros
   obtain ⟨_, it2, L2, R2⟩ := S.lst hs2
   revert x; revert it2; refine letI it2 := _; epsX1 6 it2 rfl ?_; set_option tactic.hygienic false in intros
   simp only [List.getElem?_map, Option.map_eq_some_iff] at hx'
   obtain ⟨⟨x1, x2⟩, hx', rfl⟩ := hx'
   revert x1 x2; refine letI x1 := _; letI x2 := _; epsX2 7 x1 x2 rfl ?_; set_option tactic.hygienic false in intros
   rw [List.getElem?_zip_eq_some] at hx'
   obtain ⟨v1, hv1, rv1⟩ := R1.get hx'.1
   revert v1; refine letI v1 := _; epsX1 8 v1 rfl ?_; set_option tactic.hygienic false in intros
   obtain ⟨v2, hv2, rv2⟩ := R2.get hx'.2
   revert v2; refine letI v2 := _; epsX1 9 v2 rfl ?_; set_option tactic.hygienic false in intros
   refine wpAny_pyNext_zip_item D hz hTI hTO' h1 h2 L1 L2 (by simpa using hv1) (by simpa using hv2) fun h' hz' hTO'' h1' h2' hT hsz hk => ⟨_, rfl, ?_⟩
   revert h'; refine letI h' := _; epsX1 10 h' rfl ?_; set_option tactic.hygienic false in intros
   obtain ⟨te, tk, tp, htt⟩ := isTupE_is ht
   revert te tk tp; refine letI te := _; letI tk := _; letI tp := _; epsX3 11 te tk tp rfl ?_; set_option tactic.hygienic false in intros
   rw [htt]
   have lt : ∀ {c o}, s.heap.get? c = some o → s.heap.objs.size ≠ c := fun e => Nat.ne_of_gt (Heap.lt_size e)
   have hzs := lt hz
   refine wpAny_letOwnedTupleGo_zip (by exact hz') fun h'' hz'' hs'' => ?_
   have hk' : ∀ c o, c ≠ z → c ≠ TO → c ≠ i1 → c ≠ i2 → s.heap.get? c = some o → h''.get? c = some o := fun c o c1 c2 c3 c4 e => hs''.extBut _ _ c1 (hk c o c1 c2 c3 c4 e)
   have hTO₃ : IsPair h'' TO v1 v2 := hs''.extBut _ _ D.TOz hTO''
   obtain ⟨S', t⟩ := fpZ (TI := TI) S hTO (fun _ h => h) hzx h1x h2x hfp hz h1 h2 (fun _ => ⟨_, hTO₃⟩) hk'
   have hT' : h''.get? s.heap.objs.size = some { cls := .type "tuple", data := .seq #[v1, v2] } := hs''.extBut _ _ hzs hT
   refine ⟨S', ?_, ⟨hz'', hk' TI _ D.TIz D.TITO D.TIi1 D.TIi2 hTI, ⟨_, _, hTO₃⟩, h1'.at fun o e => hs''.extBut _ o D.i1z e, h2'.at fun o e => hs''.extBut _ o D.i2z e⟩, Keep.fp fun c o hc e => ?_, t⟩
   · show RV ex h'' (pairV (x1, x2)) _
     unfold pairV RV
     refine ⟨_, #[v1, v2], rfl, ⟨_, hT', rfl, _, rfl⟩, S.exFresh (Heap.get?_none_of_le (Nat.le_refl _)), ?_⟩
     exact RVs.cons (rv1.keep t) (RVs.cons (rv2.keep t) RVs.nil)
   · have hc := off5 hc
     exact hk' c o hc.1 hc.2.1 hc.2.2.1 hc.2.2.2 e
 case done =>
   intro A σ s hh S hfp hs P
   revert A σ s; refine no_implicit_lambda% letI A := _; letI σ := _; letI s := _; epsX3 12 A σ s rfl ?_; set_option tactic.hygienic false in intros
   obtain ⟨hz, hTI, ⟨a, b, hTO'⟩, h1, h2⟩ := P
   obtain ⟨hs1, hs2⟩ := hs
   obtain ⟨_, it1, L1, R1⟩ := S.lst hs1
   obtain ⟨_, it2, L2, R2⟩ := S.lst hs2
   have n1 := R1.length
   have n2 := R2.length
   simp only [Array.length_toList] at n1 n2
   refine wpAny_pyNext_zip_end hh D hz hTI hTO' h1 h2 L1 L2 (by simp; omega) fun h' hk => ?_
   obtain ⟨S', t⟩ := fpZ S hTO hsub hzx h1x h2x hfp hz h1 h2 (fun h => absurd h hTO₀) hk
   exact ⟨rfl, S', (Keep.fp fun c o hc e => (fun hc : _ ∧ _ ∧ _ ∧ _ => hk c o hc.1 hc.2.1 hc.2.2.1 hc.2.2.2 e) (off5 hc)), t⟩
 case self =>
   exact fun st hq => wpAny_pyIter_zip st.1 hq
end
end Mine.Internal
set_option tactic.hygienic false
namespace Mine.Internal
open PySem PySem.W PySem.Calls PyProof.Rows PySem.SeqAt
structure Wd where
 prog : Program
 w : World
 B : Heap
 os : OsState
 G : Str → Option V
 ro : Hp
 K : Frag
structure Wd.Good (X : Wd) : Prop where
 gd : Gd X.prog X.w X.B X.G X.ro
 kin : X.K.In X.B
noncomputable def Wd.cx (X : Wd) (sc : Scope) (lv : Nat) : Cx := ⟨sc, X.G, X.ro, lv⟩
noncomputable abbrev Wd.St (X : Wd) (ex : List Addr) (σ : Hp) (s : Shared) : Prop := Mine.Internal.St ex X.prog X.w X.B X.os σ s
structure Wd.At (X : Wd) (sc : Scope) (lv : Nat) (ex : List Addr) (A : Around) (env : Env) (l : Loc) (σ : Hp) (s : Shared) : Prop where
 good : X.Good
 ok : Ok lv A
 st : X.St ex σ s
 fr : FrR ex X.B (X.cx sc lv) env l σ s
noncomputable abbrev Wd.M (X : Wd) : Model := model X.prog X.w
inductive PL (ex : List Addr) (X : Wd) (n : Nat) (σ : Hp) (s : Shared) (Q : List V → Hp → Prop) (vals : List Value) (s' : Shared) : Prop
 | mk (vs : List V) (σ' : Hp) (hn : vs.length = n) (rv : RVs ex s'.heap vs vals) (st : X.St ex σ' s') (k : Keep [] σ s.heap σ' s'.heap) (q : Q vs σ')
noncomputable def Ev (X : Wd) (sc : Scope) (lv : Nat) (l : Loc) (σ : Hp) (e : PySem.Expr) (Q : V → Hp → Prop) : Prop :=
 ∀ ex A env s, X.At sc lv ex A env l σ s → wpAny X.M A (eval e env) (PE ex X.prog X.w X.B X.os σ s Q) F0 s
noncomputable def EvT (X : Wd) (sc : Scope) (lv : Nat) (l : Loc) (σ : Hp) (e : PySem.Expr) (Q : Bool → Hp → Prop) : Prop :=
 ∀ ex A env s, X.At sc lv ex A env l σ s → ∀ whole, whole = eval e env → wpAny X.M A (isTrue e env whole) (PT ex X.prog X.w X.B X.os σ s Q) F0 s
noncomputable def EvL (X : Wd) (sc : Scope) (lv : Nat) (l : Loc) (σ : Hp) (es : List PySem.Expr) (Q : List V → Hp → Prop) : Prop :=
 ∀ ex A env s, X.At sc lv ex A env l σ s → ∀ pos, wpAny X.M A (spliced (backTo pos (starEach es env))) (PL ex X es.length σ s Q) F0 s
section
variable {X : Wd} {sc : Scope} {lv : Nat} {l : Loc} {σ σ' σ'' : Hp} {ex : List Addr} {A : Around} {env : Env} {s s' s'' : Shared} {pos : Pos} {Q : V → Hp → Prop}
theorem Wd.At.move (T : X.At sc lv ex A env l σ s) (S : X.St ex σ' s') (k : Keep [] σ s.heap σ' s'.heap) : X.At sc lv ex A env l σ' s' :=
 ⟨T.good, T.ok, S, T.fr.keep T.st k⟩
theorem Wd.At.tk (T : X.At sc lv ex A env l σ s) (k : Keep [] σ s.heap σ' s'.heap) : TK' ex s.heap s'.heap := T.st.tk0 k
theorem PE.and {P : Value → Shared → Prop} {t : Sem Value} {R : V → Hp → Prop} (T : X.At sc lv ex A env l σ s)
   (h : wpAny X.M A t (PE ex X.prog X.w X.B X.os σ s R) F0 s)
   (g : ∀ v σ' val s', R v σ' → RV ex s'.heap v val → X.At sc lv ex A env l σ' s' → Keep [] σ s.heap σ' s'.heap → P val s') :
   wpAny X.M A t P F0 s :=
 wpAny_mono h (fun val s' ⟨v, σ', rv, S', k, r⟩ => g v σ' val s' r rv (T.move S' k) k) fun _ _ e => e
theorem PE.thenE {σ₁ : Hp} {s₁ : Shared} {val : Value} (k : Keep [] σ s.heap σ₁ s₁.heap) (h : PE ex X.prog X.w X.B X.os σ₁ s₁ Q val s') : PE ex X.prog X.w X.B X.os σ s Q val s' :=
 let ⟨v, σ', rv, S', k', q⟩ := h
 ⟨v, σ', rv, S', k.trans k', q⟩
theorem PT.thenE {σ₁ : Hp} {s₁ : Shared} {b : Bool} {Q : Bool → Hp → Prop} (k : Keep [] σ s.heap σ₁ s₁.heap) (h : PT ex X.prog X.w X.B X.os σ₁ s₁ Q b s') : PT ex X.prog X.w X.B X.os σ s Q b s' :=
 let ⟨σ', S', k', q⟩ := h
 ⟨σ', S', k.trans k', q⟩
theorem wpE {t : Sem Value} {σ₁ : Hp} {s₁ : Shared} (k : Keep [] σ s.heap σ₁ s₁.heap) (h : wpAny X.M A t (PE ex X.prog X.w X.B X.os σ₁ s₁ Q) F0 s₁) : wpAny X.M A t (PE ex X.prog X.w X.B X.os σ s Q) F0 s₁ :=
 wpAny_mono h (fun _ _ x => x.thenE k) fun _ _ e => e
theorem wpT {t : Sem Bool} {σ₁ : Hp} {s₁ : Shared} {Q : Bool → Hp → Prop} (k : Keep [] σ s.heap σ₁ s₁.heap) (h : wpAny X.M A t (PT ex X.prog X.w X.B X.os σ₁ s₁ Q) F0 s₁) : wpAny X.M A t (PT ex X.prog X.w X.B X.os σ s Q) F0 s₁ :=
 wpAny_mono h (fun _ _ x => x.thenE k) fun _ _ e => e
theorem Ev.mono {e : PySem.Expr} {R : V → Hp → Prop} (h : Ev X sc lv l σ e R) (g : ∀ v σ', R v σ' → Q v σ') : Ev X sc lv l σ e Q := fun ex A env s T =>
 wpAny_mono (h ex A env s T) (fun _ _ ⟨v, σ', rv, S, k, r⟩ => ⟨v, σ', rv, S, k, g v σ' r⟩) fun _ _ e => e
theorem EvT.mono {e : PySem.Expr} {Q R : Bool → Hp → Prop} (h : EvT X sc lv l σ e R) (g : ∀ v σ', R v σ' → Q v σ') : EvT X sc lv l σ e Q := fun ex A env s T w hw =>
 wpAny_mono (h ex A env s T w hw) (fun _ _ ⟨σ', S, k, r⟩ => ⟨σ', S, k, g _ σ' r⟩) fun _ _ e => e
theorem Ev.int {i : Int} {k} (h : Q (.int i) σ) : Ev X sc lv l σ (.Constant (.int i) k pos) Q := fun ex A env s T => wpAny_Constant_int (PE.int T.st h)
theorem Ev.str {i : Str} {k} (h : Q (.str i) σ) : Ev X sc lv l σ (.Constant (.str i) k pos) Q := fun ex A env s T => wpAny_Constant_str (PE.str T.st h)
theorem Ev.bool {i : Bool} {k} (h : Q (.bool i) σ) : Ev X sc lv l σ (.Constant (.bool i) k pos) Q := fun ex A env s T => wpAny_Constant_bool (PE.bool T.st h)
theorem Ev.none {k} (h : Q .none σ) : Ev X sc lv l σ (.Constant .none k pos) Q := fun ex A env s T => wpAny_Constant_none (PE.here (v := .none) T.st rfl h)
theorem Ev.name {x : Str} {v : V} (e : nameV (X.cx sc lv) l x = some v) (h : Q v σ) : Ev X sc lv l σ (.Name x pos) Q := fun ex A env s T =>
 name_ok T.good.gd T.st T.fr e h
theorem Ev.bin {a b : PySem.Expr} {op : Operator} (h : Ev X sc lv l σ a fun u σ₁ => Ev X sc lv l σ₁ b fun v σ₂ => binP op u v σ₂ Q) : Ev X sc lv l σ (.BinOp a op b pos) Q := fun ex A env s T =>
 wpAny_BinOp (PE.and T (h ex A env s T) fun u σ₁ val s₁ r ru T₁ k₁ => PE.and T₁ (r ex A env s₁ T₁) fun v σ₂ val₂ s₂ r₂ rv T₂ k₂ =>
   wpE (k₁.trans k₂) (binP_ok T₂.st (ru.keep (T₁.tk k₂)) rv r₂))
theorem Ev.un {a : PySem.Expr} {op : UnaryOp} (h : Ev X sc lv l σ a fun u σ₁ => unP op u σ₁ Q) : Ev X sc lv l σ (.UnaryOp op a pos) Q := fun ex A env s T =>
 wpAny_UnaryOp (PE.and T (h ex A env s T) fun u σ₁ val s₁ r ru T₁ k₁ => wpE k₁ (unP_ok T₁.st ru r))
theorem Wd.At.room8 (T : X.At sc lv ex A env l σ s) : A.units + 8 < cLine := by have := T.ok.units; omega
theorem Ev.cmp {a b : PySem.Expr} {op : CmpOp} (h : Ev X sc lv l σ a fun u σ₁ => Ev X sc lv l σ₁ b fun v σ₂ => cmpP op u v σ₂ Q) (hm : behindInMarks op b = false := by rfl) : Ev X sc lv l σ (.Compare a [op] [b] pos) Q := fun ex A env s T =>
 wpAny_Compare1 (hm := hm) (PE.and T (h ex A env s T) fun u σ₁ val s₁ r ru T₁ k₁ => PE.and T₁ (r ex A env s₁ T₁) fun v σ₂ val₂ s₂ r₂ rv T₂ k₂ =>
   wpE (k₁.trans k₂) (cmpP_ok T₂.st T₂.good.gd.sys T₂.room8 (ru.keep (T₁.tk k₂)) rv r₂))
theorem Ev.cmp2 {a b c : PySem.Expr} {op op' : CmpOp} (h : Ev X sc lv l σ a fun u σ₁ => Ev X sc lv l σ₁ b fun v σ₂ => cmpP op u v σ₂ fun t σ₃ =>
     truP t σ₃ fun bb σ₄ => if bb then Ev X sc lv l σ₄ c fun x σ₅ => cmpP op' v x σ₅ Q else Q t σ₄) (hm : lastMarks [op, op'] [b, c] = false := by rfl) :
   Ev X sc lv l σ (.Compare a [op, op'] [b, c] pos) Q := fun ex A env s T =>
 Compare_chain (hm := hm) (PE.and T (h ex A env s T) fun u σ₁ val s₁ r ru T₁ k₁ => chain_link (PE.and T₁ (r ex A env s₁ T₁) fun v σ₂ val₂ s₂ r₂ rv T₂ k₂ =>
   PE.and T₂ (cmpP_ok T₂.st T₂.good.gd.sys T₂.room8 (ru.keep (T₁.tk k₂)) rv r₂) fun t σ₃ val₃ s₃ r₃ rt T₃ k₃ =>
     wpAny_mono (truP_ok T₃.st rt r₃) (fun bb s₄ ⟨σ₄, S₄, k₄, q₄⟩ => by
       cases bb with
       | false => exact ⟨t, σ₄, rt.keep (T₃.tk k₄), S₄, ((k₁.trans k₂).trans k₃).trans k₄, q₄⟩
       | true =>
         have T₄ := T₃.move S₄ k₄
         exact chain_last (PE.and T₄ (q₄ ex A env s₄ T₄) fun x σ₅ val₅ s₅ r₅ rx T₅ k₅ =>
           wpE ((((k₁.trans k₂).trans k₃).trans k₄).trans k₅) (cmpP_ok T₅.st T₅.good.gd.sys T₅.room8 (((rv.keep (T₂.tk k₃)).keep (T₃.tk k₄)).keep (T₄.tk k₅)) rx r₅))) fun _ _ e => e))
theorem Ev.and1 {a : PySem.Expr} {op : BoolOp} (h : Ev X sc lv l σ a Q) : Ev X sc lv l σ (.BoolOp op [a] pos) Q := fun ex A env s T => BoolOp_one (h ex A env s T)
theorem Ev.and {a b : PySem.Expr} {r : List PySem.Expr} (h : Ev X sc lv l σ a fun u σ₁ => truP u σ₁ fun t σ₂ => if t then Ev X sc lv l σ₂ (.BoolOp .And (b :: r) pos) Q else Q u σ₂) : Ev X sc lv l σ (.BoolOp .And (a :: b :: r) pos) Q := fun ex A env s T =>
 BoolOp_and (PE.and T (h ex A env s T) fun u σ₁ val s₁ r ru T₁ k₁ => wpAny_mono (truP_ok T₁.st ru r) (fun bb s₄ ⟨σ₄, S₄, k₄, q₄⟩ => by
   cases bb with
   | false => exact ⟨u, σ₄, ru.keep (T₁.tk k₄), S₄, k₁.trans k₄, q₄⟩
   | true => exact wpE (k₁.trans k₄) (q₄ ex A env s₄ (T₁.move S₄ k₄))) fun _ _ e => e)
theorem Ev.or {a b : PySem.Expr} {r : List PySem.Expr} (h : Ev X sc lv l σ a fun u σ₁ => truP u σ₁ fun t σ₂ => if t then Q u σ₂ else Ev X sc lv l σ₂ (.BoolOp .Or (b :: r) pos) Q) : Ev X sc lv l σ (.BoolOp .Or (a :: b :: r) pos) Q := fun ex A env s T =>
 BoolOp_or (PE.and T (h ex A env s T) fun u σ₁ val s₁ r ru T₁ k₁ => wpAny_mono (truP_ok T₁.st ru r) (fun bb s₄ ⟨σ₄, S₄, k₄, q₄⟩ => by
   cases bb with
   | true => exact ⟨u, σ₄, ru.keep (T₁.tk k₄), S₄, k₁.trans k₄, q₄⟩
   | false => exact wpE (k₁.trans k₄) (q₄ ex A env s₄ (T₁.move S₄ k₄))) fun _ _ e => e)
theorem Ev.ite {t a b : PySem.Expr} (h : EvT X sc lv l σ t fun c σ₁ => if c then Ev X sc lv l σ₁ a Q else Ev X sc lv l σ₁ b Q) : Ev X sc lv l σ (.IfExp t a b pos) Q := fun ex A env s T =>
 IfExp_ (wpAny_mono (h ex A env s T _ rfl) (fun c s₁ ⟨σ₁, S₁, k₁, q⟩ => by
   cases c with
   | true => exact wpE k₁ (q ex A env s₁ (T.move S₁ k₁))
   | false => exact wpE k₁ (q ex A env s₁ (T.move S₁ k₁))) fun _ _ e => e)
theorem EvT.val {e : PySem.Expr} {Q : Bool → Hp → Prop} (h : Ev X sc lv l σ e fun v σ₁ => truP v σ₁ Q) (he : ∀ env, isTrue e env (eval e env) = (do let v ← eval e env; standAt e.pos; holding [v] (truthy v)) := by intro env; rfl) : EvT X sc lv l σ e Q := fun ex A env s T whole hw => by
 subst hw
 exact isTrue_plain (PE.and T (h ex A env s T) fun u σ₁ val s₁ r ru T₁ k₁ => wpT k₁ (truP_ok T₁.st ru r)) (he env)
theorem EvT.cmp {a b : PySem.Expr} {op : CmpOp} {Q : Bool → Hp → Prop} (h : Ev X sc lv l σ a fun u σ₁ => Ev X sc lv l σ₁ b fun v σ₂ => cmpP op u v σ₂ fun t σ₃ => truP t σ₃ Q) (hm : behindInMarks op b = false := by rfl) : EvT X sc lv l σ (.Compare a [op] [b] pos) Q := fun ex A env s T whole hw =>
 wpAny_isTrue_Compare1 (hm := hm) (PE.and T (h ex A env s T) fun u σ₁ val s₁ r ru T₁ k₁ => PE.and T₁ (r ex A env s₁ T₁) fun v σ₂ val₂ s₂ r₂ rv T₂ k₂ =>
   PE.and T₂ (cmpP_ok T₂.st T₂.good.gd.sys T₂.room8 (ru.keep (T₁.tk k₂)) rv r₂) fun t σ₃ val₃ s₃ r₃ rt T₃ k₃ => wpT ((k₁.trans k₂).trans k₃) (truP_ok T₃.st rt r₃))
theorem EvT.cmp2 {a b c : PySem.Expr} {op op' : CmpOp} {Q : Bool → Hp → Prop} (h : Ev X sc lv l σ a fun u σ₁ => Ev X sc lv l σ₁ b fun v σ₂ => cmpP op u v σ₂ fun t σ₃ =>
     truP t σ₃ fun bb σ₄ => if bb then Ev X sc lv l σ₄ c fun x σ₅ => cmpP op' v x σ₅ fun t' σ₆ => truP t' σ₆ Q else Q false σ₄) (hm : lastMarks [op, op'] [b, c] = false := by rfl) :
   EvT X sc lv l σ (.Compare a [op, op'] [b, c] pos) Q := fun ex A env s T whole hw =>
 isTrue_chain (hm := hm) (PE.and T (h ex A env s T) fun u σ₁ val s₁ r ru T₁ k₁ => test_link (PE.and T₁ (r ex A env s₁ T₁) fun v σ₂ val₂ s₂ r₂ rv T₂ k₂ =>
   PE.and T₂ (cmpP_ok T₂.st T₂.good.gd.sys T₂.room8 (ru.keep (T₁.tk k₂)) rv r₂) fun t σ₃ val₃ s₃ r₃ rt T₃ k₃ =>
     wpAny_mono (truP_ok T₃.st rt r₃) (fun bb s₄ ⟨σ₄, S₄, k₄, q₄⟩ => by
       cases bb with
       | false => exact ⟨σ₄, S₄, ((k₁.trans k₂).trans k₃).trans k₄, q₄⟩
       | true =>
         have T₄ := T₃.move S₄ k₄
         exact test_last (PE.and T₄ (q₄ ex A env s₄ T₄) fun x σ₅ val₅ s₅ r₅ rx T₅ k₅ =>
           PE.and T₅ (cmpP_ok T₅.st T₅.good.gd.sys T₅.room8 (((rv.keep (T₂.tk k₃)).keep (T₃.tk k₄)).keep (T₄.tk k₅)) rx r₅) fun t' σ₆ val₆ s₆ r₆ rt' T₆ k₆ =>
             wpT (((((k₁.trans k₂).trans k₃).trans k₄).trans k₅).trans k₆) (truP_ok T₆.st rt' r₆))) fun _ _ e => e))
theorem EvT.not {a : PySem.Expr} {Q : Bool → Hp → Prop} (h : EvT X sc lv l σ a fun b σ₁ => Q (!b) σ₁) : EvT X sc lv l σ (.UnaryOp .Not a pos) Q := fun ex A env s T whole hw =>
 isTrue_not (wpAny_mono (h ex A env s T _ rfl) (fun b s₁ ⟨σ₁, S₁, k₁, q⟩ => ⟨σ₁, S₁, k₁, q⟩) fun _ _ e => e)
theorem EvT.andNil {Q : Bool → Hp → Prop} (h : Q true σ) : EvT X sc lv l σ (.BoolOp .And [] pos) Q := fun ex A env s T whole hw => isTrue_and_nil ⟨σ, T.st, Keep.refl _ _ _, h⟩
theorem EvT.orNil {Q : Bool → Hp → Prop} (h : Q false σ) : EvT X sc lv l σ (.BoolOp .Or [] pos) Q := fun ex A env s T whole hw => isTrue_or_nil ⟨σ, T.st, Keep.refl _ _ _, h⟩
theorem EvT.and {a : PySem.Expr} {r : List PySem.Expr} {Q : Bool → Hp → Prop} (h : EvT X sc lv l σ a fun b σ₁ => if b then EvT X sc lv l σ₁ (.BoolOp .And r pos) Q else Q false σ₁) : EvT X sc lv l σ (.BoolOp .And (a :: r) pos) Q := fun ex A env s T whole hw =>
 isTrue_and (wpAny_mono (h ex A env s T _ rfl) (fun b s₁ ⟨σ₁, S₁, k₁, q⟩ => by
   cases b with
   | false => exact ⟨σ₁, S₁, k₁, q⟩
   | true => exact wpT k₁ (show wpAny X.M A (isTrue (.BoolOp .And r pos) env (eval (.BoolOp .And r pos) env)) _ _ _ from q ex A env s₁ (T.move S₁ k₁) _ rfl)) fun _ _ e => e)
theorem EvT.or {a : PySem.Expr} {r : List PySem.Expr} {Q : Bool → Hp → Prop} (h : EvT X sc lv l σ a fun b σ₁ => if b then Q true σ₁ else EvT X sc lv l σ₁ (.BoolOp .Or r pos) Q) : EvT X sc lv l σ (.BoolOp .Or (a :: r) pos) Q := fun ex A env s T whole hw =>
 isTrue_or (wpAny_mono (h ex A env s T _ rfl) (fun b s₁ ⟨σ₁, S₁, k₁, q⟩ => by
   cases b with
   | true => exact ⟨σ₁, S₁, k₁, q⟩
   | false => exact wpT k₁ (show wpAny X.M A (isTrue (.BoolOp .Or r pos) env (eval (.BoolOp .Or r pos) env)) _ _ _ from q ex A env s₁ (T.move S₁ k₁) _ rfl)) fun _ _ e => e)
theorem EvT.ite {t a b : PySem.Expr} {Q : Bool → Hp → Prop} (h : EvT X sc lv l σ t fun c σ₁ => if c then EvT X sc lv l σ₁ a Q else EvT X sc lv l σ₁ b Q) : EvT X sc lv l σ (.IfExp t a b pos) Q := fun ex A env s T whole hw =>
 isTrue_IfExp (wpAny_mono (h ex A env s T _ rfl) (fun c s₁ ⟨σ₁, S₁, k₁, q⟩ => by
   cases c with
   | true => exact wpT k₁ (q ex A env s₁ (T.move S₁ k₁) _ rfl)
   | false => exact wpT k₁ (q ex A env s₁ (T.move S₁ k₁) _ rfl)) fun _ _ e => e)
noncomputable def isStar : PySem.Expr → Bool
 | .Starred .. => true
 | _ => false
theorem starEach_plain {e : PySem.Expr} (h : isStar e = false) (rest : List PySem.Expr) (env : Env) : starEach (e :: rest) env = (false, eval e env) :: starEach rest env := by
 cases e with
 | Starred => exact noTrue h
 | _ => rfl
theorem EvL.nil {Q : List V → Hp → Prop} (h : Q [] σ) : EvL X sc lv l σ [] Q := fun ex A env s T pos => wpAny_items_nil ⟨[], σ, rfl, RVs.nil, T.st, Keep.refl _ _ _, h⟩
theorem EvL.cons {e : PySem.Expr} {r : List PySem.Expr} {Q : List V → Hp → Prop} (h : Ev X sc lv l σ e fun v σ₁ => EvL X sc lv l σ₁ r fun vs σ₂ => Q (v :: vs) σ₂) (hs : isStar e = false := by rfl) : EvL X sc lv l σ (e :: r) Q := fun ex A env s T pos =>
 wpAny_items_cons (he := starEach_plain hs _ _) (PE.and T (h ex A env s T) fun v σ₁ val s₁ r rv T₁ k₁ => wpAny_mono (r ex A env s₁ T₁ pos) (fun vals s₂ ⟨vs, σ₂, hn, rvs, S₂, k₂, q⟩ =>
   ⟨v :: vs, σ₂, by simp [hn], RVs.cons (rv.keep (T₁.tk k₂)) rvs, S₂, k₁.trans k₂, q⟩) fun _ _ e => e)
theorem RVs.keepPush {h : Heap} {vs : List V} {vals : List Value} (o : Obj) (r : RVs ex h vs vals) : RVs ex (h.push o) vs vals := r.keep fun _ _ e _ _ _ => Heap.get?_push_of_some _ e
theorem St.tup (S : X.St ex σ s) {vs : List V} {vals : List Value} {tk : Nat} (r : RVs ex s.heap vs vals) :
   X.St ex σ { s with heap := s.heap.push { cls := .type "tuple", data := .seq vals.toArray }, toks := tk } ∧ RV ex (s.heap.push { cls := .type "tuple", data := .seq vals.toArray }) (.tup vs) (.ref s.heap.objs.size) := by
 refine ⟨S.grow fun b o e => Heap.get?_push_of_some _ e, ?_⟩
 unfold RV
 exact ⟨_, vals.toArray, rfl, ⟨_, Heap.get?_push_size _ rfl, rfl, _, rfl⟩, S.exFresh (Heap.get?_none_of_le (Nat.le_refl _)), by simpa using r.keepPush _⟩
theorem Ev.tup {es : List PySem.Expr} {k : Nat} (h : EvL X sc lv l σ es fun vs σ₁ => Q (.tup vs) σ₁) (hl : es.length ≤ 1000 := by decide) : Ev X sc lv l σ (.Tuple es k pos) Q := fun ex A env s T => by
 refine wpAny_Tuple (wpAny_mono (h ex A env s T pos) (fun vals s₁ ⟨vs, σ₁, hn, rvs, S₁, k₁, q⟩ => ?_) fun _ _ e => e)
 have n := rvs.length
 obtain ⟨S₂, rv⟩ := S₁.tup (tk := s₁.toks) rvs
 exact ⟨by rw [sizeLine_eq]; omega, .tup vs, σ₁, rv, S₂, k₁.trans (Keep.grow fun b o e => Heap.get?_push_of_some _ e), q⟩
theorem Ev.list {es : List PySem.Expr} (h : EvL X sc lv l σ es fun vs σ₁ => ∀ c, σ₁ c = .none → Q (.ref c) (upd σ₁ c (.list vs))) (hl : es.length ≤ 1000 := by decide) : Ev X sc lv l σ (.List es pos) Q := fun ex A env s T => by
 refine wpAny_List (wpAny_mono (h ex A env s T pos) (fun vals s₁ ⟨vs, σ₁, hn, rvs, S₁, k₁, q⟩ => ?_) fun _ _ e => e)
 have n := rvs.length
 refine ⟨by rw [sizeLine_eq]; omega, PE.thenE k₁ (PE.alloc (v := .ref s₁.heap.objs.size) S₁ (Heap.get?_none_of_le (Nat.le_refl _)) (fun b o e => Heap.get?_push_of_some _ e) (RO.list_ (by simp only [lim]; omega) ⟨_, Heap.get?_push_size _ rfl⟩ (by simpa using rvs.keepPush _)) rfl (q _ S₁.fresh.1))⟩
theorem Ev.dict0 (h : ∀ c ep, σ c = .none → Q (.ref c) (upd σ c (.dict [] ep))) : Ev X sc lv l σ (.Dict [] [] pos) Q := fun ex A env s T =>
 wpAny_Dict_empty (PE.alloc (v := .ref s.heap.objs.size) T.st (Heap.get?_none_of_le (Nat.le_refl _)) (fun b o e => Heap.get?_push_of_some _ e)
   (o := .dict [] 0) ⟨by simp, [], ⟨_, #[], Heap.get?_push_size _ rfl, ⟨rfl, rfl, rfl⟩, rfl, fun e he => by simp at he, .nil, by simp⟩, rfl⟩ rfl (h _ 0 T.st.fresh.1))
theorem Ev.tdict0 (h : ∀ c, σ c = .none → Q (.ref c) (upd σ c (.tdict []))) : Ev X sc lv l σ (.Dict [] [] pos) Q := fun ex A env s T =>
 wpAny_Dict_empty (PE.alloc (v := .ref s.heap.objs.size) T.st (Heap.get?_none_of_le (Nat.le_refl _)) (fun b o e => Heap.get?_push_of_some _ e)
   (o := .tdict []) ⟨by simp, [], ⟨_, #[], 0, Heap.get?_push_size _ rfl, ⟨rfl, rfl, rfl⟩, rfl, rfl, by simp, by simp⟩, rfl⟩ rfl (h _ T.st.fresh.1))
noncomputable def keyed : List (V × V) → Option (List (Key × V))
 | [] => some []
 | (k, v) :: r => (keyOf k).bind fun k => (keyed r).map ((k, v) :: ·)
noncomputable def RPs (ex : List Addr) (h : Heap) (ps : List (V × V)) (pv : List (Value × Value)) : Prop := RVs ex h (ps.map (·.1)) (pv.map (·.1)) ∧ RVs ex h (ps.map (·.2)) (pv.map (·.2))
inductive PP (ex : List Addr) (X : Wd) (n : Nat) (σ : Hp) (s : Shared) (Q : List (V × V) → Hp → Prop) (pv : List (Value × Value)) (s' : Shared) : Prop
 | mk (ps : List (V × V)) (σ' : Hp) (hn : ps.length = n) (rv : RPs ex s'.heap ps pv) (st : X.St ex σ' s') (k : Keep [] σ s.heap σ' s'.heap) (q : Q ps σ')
noncomputable def EvP (X : Wd) (sc : Scope) (lv : Nat) (l : Loc) (σ : Hp) (ks : List (Option PySem.Expr)) (es : List PySem.Expr) (Q : List (V × V) → Hp → Prop) : Prop :=
 ∀ ex A env s, X.At sc lv ex A env l σ s → ∀ pos, wpAny X.M A (evalPairs (pairTrees ks es env pos)) (PP ex X es.length σ s Q) F0 s
theorem EvP.nil {Q : List (V × V) → Hp → Prop} (h : Q [] σ) : EvP X sc lv l σ [] [] Q := fun ex A env s T pos => pairTrees_nil_walk ⟨[], σ, rfl, ⟨RVs.nil, RVs.nil⟩, T.st, Keep.refl _ _ _, h⟩
theorem EvP.cons {k e : PySem.Expr} {ks : List (Option PySem.Expr)} {es : List PySem.Expr} {Q : List (V × V) → Hp → Prop} (h : Ev X sc lv l σ k fun u σ₁ => Ev X sc lv l σ₁ e fun v σ₂ => EvP X sc lv l σ₂ ks es fun ps σ₃ => Q ((u, v) :: ps) σ₃) : EvP X sc lv l σ (some k :: ks) (e :: es) Q := fun ex A env s T pos =>
 pairTrees_cons_walk (PE.and T (h ex A env s T) fun u σ₁ val₁ s₁ r₁ ru T₁ k₁ => PE.and T₁ (r₁ ex A env s₁ T₁) fun v σ₂ val₂ s₂ r₂ rv T₂ k₂ =>
   wpAny_mono (r₂ ex A env s₂ T₂ pos) (fun pv s₃ ⟨ps, σ₃, hn, rp, S₃, k₃, q⟩ =>
     ⟨(u, v) :: ps, σ₃, by simp [hn], ⟨RVs.cons ((ru.keep (T₁.tk k₂)).keep (T₂.tk k₃)) rp.1, RVs.cons (rv.keep (T₂.tk k₃)) rp.2⟩, S₃, (k₁.trans k₂).trans k₃, q⟩) fun _ _ e => e)
theorem keyed_carries {h : Heap} : ∀ {ps : List (V × V)} {pv : List (Value × Value)} {es : List (Key × V)}, keyed ps = some es → RPs ex h ps pv → ∃ kvs, Carries (keyKind X.prog X.w) pv kvs ∧ RKs ex h es kvs
 | [], pv, es, e, r => by
   simp only [keyed, Option.some.injEq] at e; subst e
   obtain ⟨r1, _⟩ := r
   simp only [List.map_nil] at r1
   unfold RVs at r1
   have : pv = [] := by simpa using r1
   subst this
   exact ⟨[], trivial, rfl⟩
 | (k, v) :: ps, pv, es, e, r => by
   simp only [keyed, Option.bind_eq_some_iff, Option.map_eq_some_iff] at e
   obtain ⟨k', hk, es', he, rfl⟩ := e
   obtain ⟨r1, r2⟩ := r
   simp only [List.map_cons] at r1 r2
   unfold RVs at r1 r2
   obtain ⟨kv, r1', e1, a1, b1⟩ := r1
   obtain ⟨vv, r2', e2, a2, b2⟩ := r2
   cases pv with
   | nil => cases e1
   | cons p pv =>
     obtain ⟨p1, p2⟩ := p
     simp only [List.map_cons, List.cons.injEq] at e1 e2
     obtain ⟨rfl, rfl⟩ := e1
     obtain ⟨rfl, rfl⟩ := e2
     obtain ⟨kvs, c, rk⟩ := keyed_carries he ⟨b1, b2⟩
     exact ⟨(k', p2) :: kvs, ⟨key_ok hk a1, rfl, c⟩, ⟨p2, kvs, rfl, a2, rk⟩⟩
theorem St.adopt (S : X.St ex σ s) {a : Addr} {o : O} {h' : Heap} {tk : Nat} {dr} (hn : σ a = .none) (hB : X.B.get? a = .none) (hx : a ∉ ex) (hd : ∀ ob, s.heap.get? a = some ob → ¬ (ob.cls = .type "tuple" ∧ ∃ xs n, ob.data = .seq xs n)) (k : ∀ b, b ≠ a → h'.get? b = s.heap.get? b) (r : TK' ex s.heap h' → RO ex X.prog X.w h' a o) :
   X.St ex (upd σ a o) { heap := h', gens := s.gens, drawn := dr, toks := tk, os := s.os } := by
 have t : TK' ex s.heap h' := fun b ob e hc hd' hx => by
   refine (k b ?_).trans e
   rintro rfl
   exact hd ob e ⟨hc, hd'⟩
 refine ⟨fun b hb => ?_, fun b x e => ?_, fun b x e => ?_, fun b ob e => ?_, S.gens, S.os⟩
 · obtain ⟨h1, h2, o', ho⟩ := S.priv b hb
   have : b ≠ a := by rintro rfl; exact hx hb
   exact ⟨(upd_ne _ _ this).trans h1, h2, o', (k b this).trans ho⟩
 · by_cases hb : b = a
   · subst hb; rw [upd_same] at e; obtain rfl := Option.some.inj e; exact r t
   · rw [upd_ne _ _ hb] at e; exact (S.ro b x e).keep t fun ob q => (k b hb).trans q
 · by_cases hb : b = a
   · subst hb; exact hB
   · rw [upd_ne _ _ hb] at e; exact S.new b x e
 · refine (k b ?_).trans (S.base b ob e)
   rintro rfl
   rw [hB] at e; exact noneSome e
theorem Ev.dict {ks : List (Option PySem.Expr)} {es : List PySem.Expr} (h : EvP X sc lv l σ ks es fun ps σ₁ => ∃ kes, keyed ps = some kes ∧ (kes.map (·.1)).Nodup ∧ ∀ c ep, σ₁ c = .none → Q (.ref c) (upd σ₁ c (.dict kes ep)))
   (hall : ks.all (·.isSome) = true := by rfl) (hl : ks.length = es.length := by rfl) (h0 : ks ≠ [] := by simp) (hlen : ks.length ≤ 15 := by decide) : Ev X sc lv l σ (.Dict ks es pos) Q := fun ex A env s T => by
 have k0 : ∀ b o, s.heap.get? b = some o → (s.heap.push { cls := .type "dict", data := .dict #[] }).get? b = some o := fun b o e => Heap.get?_push_of_some _ e
 have T0 : X.At sc lv ex A env l σ { s with heap := s.heap.push { cls := .type "dict", data := .dict #[] } } := T.move (T.st.grow (h' := s.heap.push { cls := .type "dict", data := .dict #[] }) (tk := s.toks) (dr := s.drawn) k0) (Keep.grow k0)
 refine wpAny_Dict_walk (knd := keyKind X.prog X.w) hall hl h0 hlen (wpAny_mono (h ex A env _ T0 pos) (fun pv s₁ ⟨ps, σ₁, hn, rp, S₁, k₁, kes, hk, nd, q⟩ => ?_) fun _ _ e => e)
 obtain ⟨kvs, c, rk⟩ := keyed_carries hk rp
 have hd0 : (s.heap.push { cls := Value.type "dict", data := Data.dict #[] }).get? s.heap.objs.size = some { cls := .type "dict", data := .dict #[] } := Heap.get?_push_size _ rfl
 have hd1 := k₁.at hd0 T.st.fresh.1
 have hu := k₁.un hd0 T.st.fresh.1
 have hx : s.heap.objs.size ∉ ex := T.st.exFresh (Heap.get?_none_of_le (Nat.le_refl _))
 refine ⟨kvs, c, ⟨_, #[], 0, hd1, ⟨rfl, rfl, rfl⟩, rfl, fun e he => by simp at he, .nil, by simp⟩, fun h' hm hs => ?_⟩
 have hnd : (kvs.map (·.1)).Nodup := by rw [rk.keys]; exact nd
 rw [merged_append_of_fresh [] kvs (by simpa using hnd)] at hm
 obtain ⟨o, es', ep, ho, hc, hd, hkk, hp, hn'⟩ := hm
 have len := c.length
 have ks' := rk.length
 have pl : pv.length = ps.length := by have := rp.1.length; simpa using this
 have kk := Keep.trans (Keep.grow (own := []) (σ := σ) k0) k₁
 refine ⟨.ref s.heap.objs.size, upd σ₁ s.heap.objs.size (.dict kes ep), rfl, St.adopt (X := X) (s := s₁) S₁ (o := .dict kes ep) hu T.st.fresh.2 hx (fun ob e => by rw [hd1] at e; obtain rfl := Option.some.inj e; simp) hs.2
   (fun t => ⟨by simp only [lim]; omega, kvs, ⟨o, es', ho, hc, hd, hkk, by simpa using hp, by simpa using hn'⟩, rk.keep t⟩), ⟨fun b x e n hb => ?_, fun _ hm => nomatch hm⟩, q _ _ hu⟩
 have hne : b ≠ s.heap.objs.size := Nat.ne_of_lt (Heap.lt_size e)
 exact ⟨(hs.2 b hne).trans (kk.at e n), (upd_ne _ _ hne).trans (kk.un e n)⟩
noncomputable def isSliceE : PySem.Expr → Bool
 | .Slice .. => true
 | _ => false
theorem subscripted_plain {e : PySem.Expr} (he : isSliceE e = false) (o i : Value) : subscripted e false o i = operate [o, i] (getItem o i) := by
 cases e <;> first | rfl | cases he
theorem Ev.sub {a i : PySem.Expr} (h : Ev X sc lv l σ a fun u σ₁ => Ev X sc lv l σ₁ i fun v σ₂ => getP u v σ₂ Q) (hs : isSliceE i = false := by rfl) : Ev X sc lv l σ (.Subscript a i pos) Q := fun ex A env s T =>
 Subscript_ (PE.and T (h ex A env s T) fun u σ₁ val₁ s₁ r₁ ru T₁ k₁ => PE.and T₁ (r₁ ex A env s₁ T₁) fun v σ₂ val₂ s₂ r₂ rv T₂ k₂ =>
   wpE (k₁.trans k₂) (getP_ok T₂.st (ru.keep (T₁.tk k₂)) rv r₂ (subscripted_plain hs _ _)))
noncomputable def EvO (X : Wd) (sc : Scope) (lv : Nat) (l : Loc) (σ : Hp) (e : Option PySem.Expr) (Q : V → Hp → Prop) : Prop := match e with
 | .none => Q .none σ
 | some e => Ev X sc lv l σ e Q
theorem EvO.ok {e : Option PySem.Expr} (h : EvO X sc lv l σ e Q) (T : X.At sc lv ex A env l σ s) : wpAny X.M A (evalPart e env) (PE ex X.prog X.w X.B X.os σ s Q) F0 s := by
 cases e with
 | none => exact wpAny_pure (PE.here (v := .none) T.st rfl h)
 | some e => exact h ex A env s T
theorem slice_ops {lo hi st : Option PySem.Expr} {p : Pos} (o i : Value) : ∃ ops, subscripted (.Slice lo hi st p) false o i = operate ops (getItem o i) := by
 cases st
 · exact ⟨[i, o], rfl⟩
 · exact ⟨[o, i], rfl⟩
theorem Ev.slice {a : PySem.Expr} {lo hi st : Option PySem.Expr} {p : Pos} (h : Ev X sc lv l σ a fun u σ₁ => EvO X sc lv l σ₁ lo fun x σ₂ => EvO X sc lv l σ₂ hi fun y σ₃ => EvO X sc lv l σ₃ st fun z σ₄ => sliceL X.ro u x y z σ₄ Q) : Ev X sc lv l σ (.Subscript a (.Slice lo hi st p) pos) Q := fun ex A env s T => by
 refine Subscript_ (PE.and T (h ex A env s T) fun u σ₁ val₁ s₁ r₁ ru T₁ k₁ => wpAny_Slice (PE.and T₁ (r₁.ok T₁) fun x σ₂ val₂ s₂ r₂ rx T₂ k₂ => PE.and T₂ (r₂.ok T₂) fun y σ₃ val₃ s₃ r₃ ry T₃ k₃ => PE.and T₃ (r₃.ok T₃) fun z σ₄ val₄ s₄ r₄ rz T₄ k₄ => ?_))
 have k0 : ∀ b o, s₄.heap.get? b = some o → (s₄.heap.push { cls := .type "slice", data := .fields #[val₂, val₃, val₄] }).get? b = some o := fun b o e => Heap.get?_push_of_some _ e
 have kk : Keep [] σ₄ s₄.heap σ₄ (s₄.heap.push { cls := .type "slice", data := .fields #[val₂, val₃, val₄] }) := Keep.grow k0
 have T₅ : X.At sc lv ex A env l σ₄ { s₄ with heap := s₄.heap.push { cls := .type "slice", data := .fields #[val₂, val₃, val₄] } } := T₄.move (T₄.st.grow (tk := s₄.toks) (dr := s₄.drawn) k0) kk
 have tk : TK' ex s₄.heap (s₄.heap.push { cls := .type "slice", data := .fields #[val₂, val₃, val₄] }) := T₄.tk (s' := { s₄ with heap := s₄.heap.push { cls := .type "slice", data := .fields #[val₂, val₃, val₄] } }) kk
 exact wpE ((((k₁.trans k₂).trans k₃).trans k₄).trans kk) (sliceL_ok (fun a xs e => (T.good.gd.ro a xs e).exch fun b hb _ => (T.st.priv b hb).2.1) T₅.st ((((ru.keep (T₁.tk k₂)).keep (T₂.tk k₃)).keep (T₃.tk k₄)).keep tk) ⟨_, Heap.get?_push_size _ rfl, rfl, rfl⟩
   (((rx.keep (T₂.tk k₃)).keep (T₃.tk k₄)).keep tk) ((ry.keep (T₃.tk k₄)).keep tk) (rz.keep tk) r₄ (slice_ops _ _))
end
end Mine.Internal
set_option tactic.hygienic true
namespace Mine.Internal
open PySem PySem.W PyProof.Rows
theorem neCx : Nonempty Cx := ⟨⟨default, fun _ => none, fun _ => none, 0⟩⟩
theorem neWd : Nonempty Wd := ⟨⟨default, aWorld 1, default, default, fun _ => none, fun _ => none, []⟩⟩
end Mine.Internal
set_option tactic.hygienic false
namespace Mine.Internal
open PySem PySem.W PySem.Calls PyProof.Rows PySem.SeqAt
inductive Fi where
 | next (l : Loc) (σ : Hp) | brk (l : Loc) (σ : Hp) | cont (l : Loc) (σ : Hp) | ret (v : V) (σ : Hp)
@[reducible] noncomputable def kNext (K : Loc → Hp → Prop) (Q : Fi → Prop) : Fi → Prop
 | .next l σ => K l σ
 | f => Q f
@[reducible] noncomputable def kLoop (J B : Loc → Hp → Prop) (Q : Fi → Prop) : Fi → Prop
 | .next l σ => J l σ
 | .cont l σ => J l σ
 | .brk l σ => B l σ
 | .ret v σ => Q (.ret v σ)
noncomputable def psF (ex : List Addr) (l' : Loc) (σ' : Hp) (s' : Shared) (Q : Fi → Prop) (f : Flow) : Prop := match f with
   | .next => Q (.next l' σ')
   | .brk => Q (.brk l' σ')
   | .cont => Q (.cont l' σ')
   | .ret v => ∃ x, RV ex s'.heap x v ∧ Q (.ret x σ')
inductive PS (ex : List Addr) (X : Wd) (sc : Scope) (lv : Nat) (env : Env) (σ : Hp) (s : Shared) (Q : Fi → Prop) (f : Flow) (s' : Shared) : Prop
 | mk (l' : Loc) (σ' : Hp) (st : X.St ex σ' s') (fr : FrR ex X.B (X.cx sc lv) env l' σ' s') (k : Keep (own env) σ s.heap σ' s'.heap) (q : psF ex l' σ' s' Q f)
inductive PA (ex : List Addr) (X : Wd) (sc : Scope) (lv : Nat) (env : Env) (σ : Hp) (s : Shared) (Q : Loc → Hp → Prop) (u : Unit) (s' : Shared) : Prop
 | mk (l' : Loc) (σ' : Hp) (st : X.St ex σ' s') (fr : FrR ex X.B (X.cx sc lv) env l' σ' s') (k : Keep (own env) σ s.heap σ' s'.heap) (q : Q l' σ')
noncomputable def Ex (X : Wd) (sc : Scope) (lv : Nat) (l : Loc) (σ : Hp) (b : List Stmt) (Q : Fi → Prop) : Prop :=
 ∀ ex A env s, X.At sc lv ex A env l σ s → wpAny X.M A (execs b env) (PS ex X sc lv env σ s Q) F0 s
noncomputable def As (X : Wd) (sc : Scope) (lv : Nat) (l : Loc) (σ : Hp) (t : PySem.Expr) (v : V) (Q : Loc → Hp → Prop) : Prop :=
 ∀ ex A env s, X.At sc lv ex A env l σ s → ∀ val, RV ex s.heap v val → wpAny X.M A (assign t env val) (PA ex X sc lv env σ s Q) F0 s
noncomputable def AsL (X : Wd) (sc : Scope) (lv : Nat) (l : Loc) (σ : Hp) (ts : List PySem.Expr) (vs : List V) (Q : Loc → Hp → Prop) : Prop :=
 ∀ ex A env s, X.At sc lv ex A env l σ s → ∀ vals, RVs ex s.heap vs vals → wpAny X.M A (assignInOrder ((assignEach ts env).map (·.2)) vals) (PA ex X sc lv env σ s Q) F0 s
section
variable {X : Wd} {sc : Scope} {lv : Nat} {l : Loc} {σ σ' σ'' : Hp} {ex : List Addr} {A : Around} {env : Env} {s s' s'' : Shared} {pos : Pos} {rest : List Stmt} {Q : Fi → Prop}
theorem FrR.alive {B : Heap} {c : Cx} (F : FrR ex B c env l σ s) : ∀ b ∈ own env, ∃ o, s.heap.get? b = some o := by
 intro b hb
 rcases List.mem_cons.mp hb with rfl | hb
 · obtain ⟨m, ⟨o', es, ep, ho', hd', _⟩, _⟩ := F.ns
   exact ⟨_, ho'⟩
 · obtain ⟨⟨x, cA⟩, hx, rfl⟩ := List.mem_map.mp hb
   obtain ⟨⟨v, o', ho', hd'⟩, _⟩ := F.cellsAre x cA hx
   exact ⟨_, ho'⟩
theorem Wd.At.kown (T : X.At sc lv ex A env l σ s) {h' : Heap} (k : Keep [] σ s.heap σ' h') : Keep (own env) σ s.heap σ' h' :=
 k.weaken (by intro _ hb; cases hb) fun b hb _ => T.fr.alive b hb
theorem Wd.At.to (T : X.At sc lv ex A env l σ s) {l' : Loc} (S : X.St ex σ' s') (F : FrR ex X.B (X.cx sc lv) env l' σ' s') : X.At sc lv ex A env l' σ' s' := ⟨T.good, T.ok, S, F⟩
theorem Wd.At.tkOwn (T : X.At sc lv ex A env l σ s) {h' : Heap} (k : Keep (Mine.Internal.own env) σ s.heap σ' h') : TK' ex s.heap h' := T.st.tk k (own_notTup T.fr)
theorem PS.thenS {σ₁ : Hp} {s₁ : Shared} {f : Flow} (k : Keep (own env) σ s.heap σ₁ s₁.heap) (h : PS ex X sc lv env σ₁ s₁ Q f s') : PS ex X sc lv env σ s Q f s' :=
 let ⟨l', σ', S', F', k', q⟩ := h
 ⟨l', σ', S', F', k.trans k', q⟩
theorem PA.thenS {σ₁ : Hp} {s₁ : Shared} {u : Unit} {Q : Loc → Hp → Prop} (k : Keep (own env) σ s.heap σ₁ s₁.heap) (h : PA ex X sc lv env σ₁ s₁ Q u s') : PA ex X sc lv env σ s Q u s' :=
 let ⟨l', σ', S', F', k', q⟩ := h
 ⟨l', σ', S', F', k.trans k', q⟩
theorem wpS {t : Sem Flow} {σ₁ : Hp} {s₁ : Shared} (k : Keep (own env) σ s.heap σ₁ s₁.heap) (h : wpAny X.M A t (PS ex X sc lv env σ₁ s₁ Q) F0 s₁) : wpAny X.M A t (PS ex X sc lv env σ s Q) F0 s₁ :=
 wpAny_mono h (fun _ _ x => x.thenS k) fun _ _ e => e
theorem wpA {t : Sem Unit} {σ₁ : Hp} {s₁ : Shared} {Q : Loc → Hp → Prop} (k : Keep (own env) σ s.heap σ₁ s₁.heap) (h : wpAny X.M A t (PA ex X sc lv env σ₁ s₁ Q) F0 s₁) : wpAny X.M A t (PA ex X sc lv env σ s Q) F0 s₁ :=
 wpAny_mono h (fun _ _ x => x.thenS k) fun _ _ e => e
theorem Ex.mono {b : List Stmt} {R : Fi → Prop} (h : Ex X sc lv l σ b R) (g : ∀ f, R f → Q f) : Ex X sc lv l σ b Q := fun ex A env s T =>
 wpAny_mono (h ex A env s T) (fun f s' ⟨l', σ', S', F', k', q⟩ => ⟨l', σ', S', F', k', by
   cases f with
   | ret v => obtain ⟨x, rv, q⟩ := q; exact ⟨x, rv, g _ q⟩
   | _ => exact g _ q⟩) fun _ _ e => e
theorem Ex.nil (h : Q (.next l σ)) : Ex X sc lv l σ [] Q := fun ex A env s T => wpAny_execs_nil ⟨l, σ, T.st, T.fr, Keep.refl _ _ _, h⟩
theorem Ex.step {st : Stmt} (h : ∀ ex A env s, X.At sc lv ex A env l σ s → wpAny X.M A (exec st env) (PS ex X sc lv env σ s (kNext (fun l σ => Ex X sc lv l σ rest Q) Q)) F0 s) : Ex X sc lv l σ (st :: rest) Q := fun ex A env s T =>
 wpAny_execs_cons (wpAny_mono (h ex A env s T) (fun f s₁ ⟨l', σ', S', F', k', q⟩ => by
   cases f with
   | next => exact wpS k' (q ex A env s₁ (T.to S' F'))
   | brk => exact ⟨l', σ', S', F', k', q⟩
   | cont => exact ⟨l', σ', S', F', k', q⟩
   | ret v => exact ⟨l', σ', S', F', k', q⟩) fun _ _ e => e)
theorem Ex.pass (h : Ex X sc lv l σ rest Q) : Ex X sc lv l σ (.Pass pos :: rest) Q := Ex.step fun ex A env s T => wpAny_Pass ⟨l, σ, T.st, T.fr, Keep.refl _ _ _, h⟩
theorem Ex.brk (h : Q (.brk l σ)) : Ex X sc lv l σ (.Break pos :: rest) Q := Ex.step fun ex A env s T => wpAny_Break ⟨l, σ, T.st, T.fr, Keep.refl _ _ _, h⟩
theorem Ex.cont (h : Q (.cont l σ)) : Ex X sc lv l σ (.Continue pos :: rest) Q := Ex.step fun ex A env s T => wpAny_Continue ⟨l, σ, T.st, T.fr, Keep.refl _ _ _, h⟩
theorem Ex.ret {e : PySem.Expr} (h : Ev X sc lv l σ e fun v σ₁ => Q (.ret v σ₁)) : Ex X sc lv l σ (.Return (some e) pos :: rest) Q := Ex.step fun ex A env s T =>
 wpAny_Return_some (PE.and T (h ex A env s T) fun v σ₁ val s₁ r rv T₁ k₁ => ⟨l, σ₁, T₁.st, T₁.fr, T.kown k₁, v, rv, r⟩)
theorem Ex.if_ {t : PySem.Expr} {b o : List Stmt} (h : EvT X sc lv l σ t fun c σ₁ => if c then Ex X sc lv l σ₁ b (kNext (fun l σ => Ex X sc lv l σ rest Q) Q) else Ex X sc lv l σ₁ o (kNext (fun l σ => Ex X sc lv l σ rest Q) Q)) : Ex X sc lv l σ (.If t b o pos :: rest) Q := Ex.step fun ex A env s T =>
 wpAny_If (wpAny_mono (h ex A env s T _ rfl) (fun c s₁ ⟨σ₁, S₁, k₁, q⟩ => by
   have T₁ := T.move S₁ k₁
   cases c with
   | true => exact wpS (T.kown k₁) (q ex A env s₁ T₁)
   | false => exact wpS (T.kown k₁) (q ex A env s₁ T₁)) fun _ _ e => e)
theorem Ex.expr {e : PySem.Expr} (h : Ev X sc lv l σ e fun v σ₁ => Ex X sc lv l σ₁ rest Q) (hs : ∀ env line, swapsWith e .none line env = pure false := by intro _ _; rfl) : Ex X sc lv l σ (.Expr e pos :: rest) Q := Ex.step fun ex A env s T =>
 wpAny_Expr_any (PE.and T (h ex A env s T) fun v σ₁ val s₁ r rv T₁ k₁ => ⟨l, σ₁, T₁.st, T₁.fr, T.kown k₁, r⟩) (by
   have := T.fr.kind
   unfold interactive
   rw [this]; simp) (hs _ _)
noncomputable def isLC (sc : Scope) (x : Str) : Bool := match sc.names.lookup x with
 | some .local => true
 | some .cell => true
 | _ => false
theorem isLC_or {sc : Scope} {x : Str} (h : isLC sc x = true) : sc.names.lookup x = some .local ∨ sc.names.lookup x = some .cell := by
 unfold isLC at h
 generalize sc.names.lookup x = o at h
 cases o with
 | none => exact noFalse h
 | some k => cases k with
   | «local» => exact .inl rfl
   | cell => exact .inr rfl
   | _ => exact noFalse h
theorem Wd.At.store {x : Str} {v : V} {val : Value} (T : X.At sc lv ex A env l σ s) (hk : isLC sc x = true) (hv : RV ex s.heap v val) {P : Unit → Shared → Prop}
   (hP : ∀ s', X.At sc lv ex A env (l.set x v) σ s' → Keep (own env) σ s.heap σ s'.heap → P () s') : wpAny X.M A (storeName env x val) P F0 s :=
 store_ok (Q := fun _ => True) T.st T.fr (isLC_or hk) hv fun s' F' S' k' => hP s' (T.to S' F') k'
theorem As.name {x : Str} {v : V} {K : Loc → Hp → Prop} (hk : isLC sc x = true) (h : K (l.set x v) σ) : As X sc lv l σ (.Name x pos) v K := fun ex A env s T val rv =>
 wpAny_assign_Name (T.store hk rv fun s' T' k' => ⟨_, σ, T'.st, T'.fr, k', h⟩)
theorem AsL.nil {K : Loc → Hp → Prop} (h : K l σ) : AsL X sc lv l σ [] [] K := fun ex A env s T vals rv => by
 unfold RVs at rv; subst rv
 exact wpAny_assignInOrder_none ⟨l, σ, T.st, T.fr, Keep.refl _ _ _, h⟩
theorem assignEach_plain {t : PySem.Expr} (h : isStar t = false) (rest : List PySem.Expr) (env : Env) : assignEach (t :: rest) env = (false, assign t env) :: assignEach rest env := by
 cases t with
 | Starred => exact noTrue h
 | _ => rfl
theorem AsL.cons {t : PySem.Expr} {ts : List PySem.Expr} {v : V} {vs : List V} {K : Loc → Hp → Prop} (h : As X sc lv l σ t v fun l₁ σ₁ => AsL X sc lv l₁ σ₁ ts vs K) (hs : isStar t = false := by rfl) : AsL X sc lv l σ (t :: ts) (v :: vs) K := fun ex A env s T vals rv => by
 unfold RVs at rv
 obtain ⟨val, r, rfl, rv, rvs⟩ := rv
 rw [assignEach_plain hs]
 exact wpAny_assignInOrder_more (wpAny_mono (h ex A env s T val rv) (fun _ s₁ ⟨l', σ', S', F', k', q⟩ => wpA k' (q ex A env s₁ (T.to S' F') r (rvs.keep (T.tkOwn k')))) fun _ _ e => e)
noncomputable def noStars : List PySem.Expr → Bool
 | [] => true
 | t :: ts => !isStar t && noStars ts
theorem assignEach_len (ts : List PySem.Expr) (env : Env) : (assignEach ts env).length = ts.length := by
 induction ts with
 | nil => rfl
 | cons t ts ih => cases t <;> exact congrArg Nat.succ ih
theorem assignEach_nostar : ∀ {ts : List PySem.Expr} (env : Env), noStars ts = true → (assignEach ts env).findIdx? (·.1) = .none
 | [], _, _ => rfl
 | t :: ts, env, h => by
   simp only [noStars, Bool.and_eq_true, Bool.not_eq_true'] at h
   rw [assignEach_plain h.1]
   simp [List.findIdx?_cons, assignEach_nostar env h.2]
theorem Wd.At.ext (T : X.At sc lv ex A env l σ s) {h' : Heap} {tk : Nat} (e : Heap.ExtBut s.heap.objs.size s.heap h') : X.At sc lv ex A env l σ { s with heap := h', toks := tk } ∧ Keep [] σ s.heap σ h' := by
 have k0 : ∀ b o, s.heap.get? b = some o → h'.get? b = some o := fun b o q => e b o (Nat.ne_of_lt (Heap.lt_size q)) q
 have kk : Keep [] σ s.heap σ h' := Keep.grow k0
 exact ⟨T.move (s' := { s with heap := h', toks := tk }) (T.st.grow k0) kk, kk⟩
theorem As.tup {ts : List PySem.Expr} {vs : List V} {k : Nat} {K : Loc → Hp → Prop} (hl : ts.length = vs.length) (h : AsL X sc lv l σ ts vs K) (hs : noStars ts = true := by rfl) : As X sc lv l σ (.Tuple ts k pos) (.tup vs) K := fun ex A env s T val rv => by
 unfold RV at rv
 obtain ⟨p, items, rfl, IT, nx, R⟩ := rv
 have n := R.length
 simp only [Array.length_toList] at n
 refine wpAny_assign_Tuple T.ok.1 (show s.heap.IsTuple p items from IT) (by rw [assignEach_len]; omega) (assignEach_nostar env hs) fun h' e => ?_
 obtain ⟨T', k'⟩ := T.ext (tk := s.toks) e
 exact wpA (T.kown k') (h ex A env _ T' items.toList (R.keep (T.tk (s' := { s with heap := h', toks := s.toks }) k')))
theorem As.sub {o i : PySem.Expr} {v : V} {K : Loc → Hp → Prop} (h : Ev X sc lv l σ o fun u σ₁ => Ev X sc lv l σ₁ i fun x σ₂ => setP u x v σ₂ fun σ₃ => K l σ₃) : As X sc lv l σ (.Subscript o i pos) v K := fun ex A env s T val rv => by
 rw [assign_Subscript]
 refine wpAny_bind (wpAny_holding (PE.and T (h ex A env s T) fun u σ₁ val₁ s₁ r₁ ru T₁ k₁ => wpAny_bind (wpAny_holding (PE.and T₁ (r₁ ex A env s₁ T₁) fun x σ₂ val₂ s₂ r₂ rx T₂ k₂ => ?_))))
 refine wpAny_bind (wpAny_standAt (wpAny_bind (wpAny_holding (wpAny_mono (setP_ok T₂.st (by have := T.ok.units; omega) (ru.keep (T₁.tk k₂)) rx ((rv.keep (T.tk k₁)).keep (T₁.tk k₂)) r₂) (fun _ s₃ ⟨σ₃, S₃, k₃, q⟩ => ?_) fun _ _ e => e))))
 have T₃ := T₂.move S₃ k₃
 exact wpAny_release' ⟨l, σ₃, T₃.st, T₃.fr, T.kown ((k₁.trans k₂).trans k₃), q⟩
theorem Ex.assign {t e : PySem.Expr} (h : Ev X sc lv l σ e fun v σ₁ => As X sc lv l σ₁ t v fun l₂ σ₂ => Ex X sc lv l₂ σ₂ rest Q) (hs : ∀ env line, swapsWith e (some t) line env = pure false := by intro _ _; rfl) (hw : ∀ env, swappedStores [t] e env = pure .none := by intro _; rfl) (ht : isStar t = false := by rfl) :
   Ex X sc lv l σ (.Assign [t] e pos :: rest) Q := Ex.step fun ex A env s T =>
 wpAny_Assign_stores (PE.and T (h ex A env s T) fun v σ₁ val s₁ r rv T₁ k₁ => by
   rw [assignEach_plain ht]
   show wpAny X.M A (PySem.assign t env val) _ _ _
   exact wpAny_mono (r ex A env s₁ T₁ val rv) (fun _ s₂ ⟨l', σ', S', F', k', q⟩ => ⟨l', σ', S', F', (T.kown k₁).trans k', q⟩) fun _ _ e => e) (hs _ _) (hw _)
noncomputable def Loc.sets (l : Loc) : List Str → List V → Loc
 | x :: xs, v :: vs => (l.set x v).sets xs vs
 | _, _ => l
noncomputable def nameOf : PySem.Expr → Option Str
 | .Name x _ => some x
 | _ => .none
noncomputable def namesOf : List PySem.Expr → Option (List Str)
 | [] => some []
 | t :: r => (nameOf t).bind fun x => (namesOf r).map (x :: ·)
inductive NamesAre : List PySem.Expr → List Str → Prop
 | nil : NamesAre [] []
 | cons (x : Str) (p : Pos) {ts : List PySem.Expr} {ns : List Str} (h : NamesAre ts ns) : NamesAre (.Name x p :: ts) (x :: ns)
theorem nameOf.inv {e : PySem.Expr} {x : Str} (h : nameOf e = some x) : ∃ p, e = .Name x p := by
 cases e with
 | Name y p => obtain rfl := Option.some.inj h; exact ⟨p, rfl⟩
 | _ => exact noneSome h
theorem namesOf.inv : ∀ {ts : List PySem.Expr} {ns : List Str}, namesOf ts = some ns → NamesAre ts ns
 | [], ns, h => by obtain rfl := Option.some.inj h; exact .nil
 | t :: ts, ns, h => by
   obtain ⟨x, hx, h⟩ := Option.bind_eq_some_iff.mp h
   obtain ⟨r, hr, rfl⟩ := Option.map_eq_some_iff.mp h
   obtain ⟨p, rfl⟩ := nameOf.inv hx
   exact .cons x p (namesOf.inv hr)
theorem NamesAre.length {ts : List PySem.Expr} {ns : List Str} (h : NamesAre ts ns) : ns.length = ts.length := by
 induction h with
 | nil => rfl
 | cons x p h ih => exact congrArg Nat.succ ih
theorem Loc.set_comm {x y : Str} (h : x ≠ y) (l : Loc) (u v : V) : (l.set x u).set y v = (l.set y v).set x u := by
 funext z
 unfold Loc.set
 by_cases h1 : z = y
 · by_cases h2 : z = x
   · exact absurd (h2.symm.trans h1) h
   · subst h1; rw [if_pos rfl, if_neg h2, if_pos rfl]
 · by_cases h2 : z = x
   · subst h2; rw [if_neg h1, if_pos rfl, if_pos rfl]
   · rw [if_neg h1, if_neg h2, if_neg h2, if_neg h1]
theorem Loc.sets_set {x : Str} {v : V} : ∀ {ns : List Str} {vs : List V} (l : Loc), x ∉ ns → (l.set x v).sets ns vs = (l.sets ns vs).set x v
 | [], _, l, _ => by simp [Loc.sets]
 | _ :: _, [], l, _ => by simp [Loc.sets]
 | n :: ns, u :: vs, l, h => by
   simp only [List.mem_cons, not_or] at h
   simp only [Loc.sets]
   rw [Loc.set_comm h.1, Loc.sets_set _ h.2]
theorem Loc.sets_append : ∀ {ns ms : List Str} {vs us : List V} (l : Loc), ns.length = vs.length → l.sets (ns ++ ms) (vs ++ us) = (l.sets ns vs).sets ms us
 | [], _, [], _, l, _ => by simp [Loc.sets]
 | n :: ns, _, v :: vs, _, l, h => by
   simp only [List.cons_append, Loc.sets]
   exact Loc.sets_append _ (by simpa using h)
theorem Loc.sets_reverse : ∀ {ns : List Str} {vs : List V} (l : Loc), ns.Nodup → ns.length = vs.length → l.sets ns.reverse vs.reverse = l.sets ns vs
 | [], [], l, _, _ => rfl
 | n :: ns, v :: vs, l, hn, hl => by
   rw [List.nodup_cons] at hn
   rw [List.reverse_cons, List.reverse_cons, Loc.sets_append _ (by simpa using hl), Loc.sets_reverse _ hn.2 (by simpa using hl)]
   simp only [Loc.sets]
   rw [Loc.sets_set _ hn.1]
theorem binds_ok : ∀ {ns : List Str} {vs : List V} {l : Loc} {s : Shared} {vals : List Value} {K : Loc → Hp → Prop}, X.At sc lv ex A env l σ s → RVs ex s.heap vs vals → ns.length = vs.length → (∀ n ∈ ns, isLC sc n = true) → K (l.sets ns vs) σ →
   wpAny X.M A (assignInOrder (ns.map fun n => bindName env n) vals) (PA ex X sc lv env σ s K) F0 s
 | [], [], l, s, vals, K, T, R, _, _, h => by
   unfold RVs at R; subst R
   exact wpAny_assignInOrder_none ⟨l, σ, T.st, T.fr, Keep.refl _ _ _, h⟩
 | n :: ns, v :: vs, l, s, vals, K, T, R, hl, hk, h => by
   unfold RVs at R
   obtain ⟨val, r, rfl, rv, rvs⟩ := R
   exact wpAny_assignInOrder_more (wpAny_bindName (T.store (hk n List.mem_cons_self) rv fun s' T' k' => wpA k' (binds_ok T' (rvs.keep (T.tkOwn k')) (by simpa using hl) (fun m hm => hk m (List.mem_cons_of_mem _ hm)) h)))
 | [], _ :: _, _, _, _, _, _, _, hl, _, _ => by simp at hl
 | _ :: _, [], _, _, _, _, _, _, hl, _, _ => by simp at hl
theorem NamesAre.asL {ts : List PySem.Expr} {ns : List Str} (h : NamesAre ts ns) : ∀ {vs : List V} {l : Loc} {K : Loc → Hp → Prop}, ns.length = vs.length → (∀ n ∈ ns, isLC sc n = true) → K (l.sets ns vs) σ → AsL X sc lv l σ ts vs K := by
 induction h with
 | nil =>
   intro vs l K hl _ h
   cases vs with
   | nil => exact AsL.nil h
   | cons => exact nomatch hl
 | cons x p h ih =>
   intro vs l K hl hk h
   cases vs with
   | nil => exact nomatch hl
   | cons v vs => exact AsL.cons (As.name (hk _ List.mem_cons_self) (ih (Nat.succ.inj hl) (fun m hm => hk m (List.mem_cons_of_mem _ hm)) h))
theorem AsL.names {ts : List PySem.Expr} {ns : List Str} {vs : List V} {l : Loc} {K : Loc → Hp → Prop} (hn : namesOf ts = some ns) (hl : ns.length = vs.length) (hk : ∀ n ∈ ns, isLC sc n = true) (h : K (l.sets ns vs) σ) : AsL X sc lv l σ ts vs K :=
 (namesOf.inv hn).asL hl hk h
theorem filterMap_names {ts : List PySem.Expr} {ns : List Str} {f : PySem.Expr → Option Str} (hf : ∀ x p y, f (.Name x p) = some y → x = y) (h : NamesAre ts ns) : (ts.filterMap f).length = ts.length → ts.filterMap f = ns := by
 induction h with
 | nil => intro _; rfl
 | @cons x p ts ns h ih =>
   intro hl
   cases hx : f (.Name x p) with
   | none =>
     rw [List.filterMap_cons_none hx] at hl
     exact absurd (hl ▸ List.length_filterMap_le f ts) (Nat.not_succ_le_self _)
   | some y =>
     rw [List.filterMap_cons_some hx] at hl ⊢
     rw [ih (Nat.succ.inj hl), hf _ _ _ hx]
theorem ite_or {c : Prop} [Decidable c] {α : Type} {a b x y : α} (h1 : c → a = x) (h2 : ¬ c → b = x ∨ b = y) : ite c a b = x ∨ ite c a b = y := by
 cases Decidable.em c with
 | inl h => rw [if_pos h]; exact .inl (h1 h)
 | inr h => rw [if_neg h]; exact h2 h
theorem bne_or {a b : Nat} {c : Bool} (h : ¬ (a != b || c) = true) : a = b := by
 cases Decidable.em (a = b) with
 | inl e => exact e
 | inr e => exact absurd (by rw [bne_iff_ne.mpr e]; rfl) h
theorem swapped_or {ts vs : List PySem.Expr} {ns : List Str} {k k' : Nat} {p p' : Pos} (env : Env) (hn : NamesAre ts ns) (hc : vs.all (constantsAlone 8) = true → vs.all (foldedForSure 8) = true) :
   swappedStores [.Tuple ts k p] (.Tuple vs k' p') env = pure .none ∨ swappedStores [.Tuple ts k p] (.Tuple vs k' p') env = pure (some ns) := by
 refine ite_or (fun _ => rfl) fun _ => ite_or (fun _ => rfl) fun _ => ?_
 refine ite_or (fun _ => rfl) fun h3 => ite_or (fun _ => rfl) fun h4 => ?_
 rw [if_neg (fun h => h4 (hc h))]
 refine .inr ?_
 exact congrArg (fun x => pure (some x)) (filterMap_names (fun x p y h => (ite_some h).2) hn (bne_or h3))
theorem NamesAre.nostar {ts : List PySem.Expr} {ns : List Str} (h : NamesAre ts ns) : noStars ts = true := by
 induction h with
 | nil => rfl
 | cons x p h ih => exact ih
theorem names_nostar {ts : List PySem.Expr} {ns : List Str} (h : namesOf ts = some ns) : noStars ts = true := (namesOf.inv h).nostar
theorem Ex.assigns {ts vs : List PySem.Expr} {ns : List Str} {k k' : Nat} {p p' : Pos} (hn : namesOf ts = some ns) (h : EvL X sc lv l σ vs fun xs σ₁ => Ex X sc lv (l.sets ns xs) σ₁ rest Q)
   (hlc : ns.all (isLC sc) = true) (hl : ts.length = vs.length := by rfl) (hd : ns.Nodup := by decide) (hc : vs.all (constantsAlone 8) = true → vs.all (foldedForSure 8) = true := by decide) (hv : vs.length ≤ 1000 := by decide) :
   Ex X sc lv l σ (.Assign [.Tuple ts k p] (.Tuple vs k' p') pos :: rest) Q := Ex.step fun ex A env s T => by
 have na := namesOf.inv hn
 have hlen : ns.length = ts.length := na.length
 have hlc' : ∀ n ∈ ns, isLC sc n = true := fun n hm => List.all_eq_true.mp hlc n hm
 rw [exec_Assign_arm]
 refine wpAny_bind (wpAny_standAt ?_)
 have hsw : swapsWithSole [.Tuple ts k p] (.Tuple vs k' p') pos.line env = pure false := rfl
 rw [hsw]
 refine wpAny_bind (wpAny_pure ?_)
 rw [if_neg (by decide)]
 refine wpAny_bind (wpAny_Tuple (wpAny_mono (h ex A env s T _) (fun vals s₁ ⟨xs, σ₁, hx, rvs, S₁, k₁, q⟩ => ?_) fun _ _ e => e))
 have nl := rvs.length
 refine ⟨by rw [sizeLine_eq]; omega, ?_⟩
 obtain ⟨S₂, rv⟩ := S₁.tup (tk := s₁.toks) rvs
 have k₂ : Keep [] σ₁ s₁.heap σ₁ (s₁.heap.push { cls := .type "tuple", data := .seq vals.toArray }) := Keep.grow fun b o e => Heap.get?_push_of_some _ e
 have T₁ := T.move S₁ k₁
 have T₂ := T₁.move (s' := { s₁ with heap := s₁.heap.push { cls := .type "tuple", data := .seq vals.toArray } }) S₂ k₂
 have IT : (s₁.heap.push { cls := .type "tuple", data := .seq vals.toArray }).IsTuple s₁.heap.objs.size vals.toArray := ⟨_, Heap.get?_push_size _ rfl, rfl, _, rfl⟩
 have rvs₂ : RVs ex (s₁.heap.push { cls := .type "tuple", data := .seq vals.toArray }) xs vals := rvs.keep (T₁.tk (s' := { s₁ with heap := s₁.heap.push { cls := .type "tuple", data := .seq vals.toArray } }) k₂)
 have kk := k₁.trans k₂
 rcases swapped_or (k := k) (k' := k') (p := p) (p' := p') env na hc with e | e <;> rw [e]
 · refine wpAny_bind (wpAny_pure ?_)
   show wpAny X.M A (do assignAll _ ((assignEach [.Tuple ts k p] env).map (·.2)); (pure Flow.next : Sem Flow)) _ _ _
   rw [assignEach_plain (by rfl)]
   show wpAny X.M A (do PySem.assign (.Tuple ts k p) env (.ref s₁.heap.objs.size); (pure Flow.next : Sem Flow)) _ _ _
   have hst : noStars ts = true := names_nostar hn
   refine wpAny_bind (wpAny_assign_Tuple T₂.ok.1 IT (by rw [assignEach_len]; simp; omega) (assignEach_nostar env hst) fun h' e' => ?_)
   obtain ⟨T₃, k₃⟩ := T₂.ext (tk := s₁.toks) e'
   refine wpAny_mono (AsL.names (K := fun l σ => Ex X sc lv l σ rest Q) hn (by first | assumption | decide | omega) hlc' q ex A env _ T₃ vals (rvs₂.keep (T₂.tk (s' := { s₁ with heap := h', toks := s₁.toks }) k₃))) (fun _ s₄ x => ?_) fun _ _ e => e
   obtain ⟨l', σ', S', F', k', q'⟩ := x.thenS (T.kown (kk.trans k₃))
   exact wpAny_pure ⟨l', σ', S', F', k', q'⟩
 · refine wpAny_bind (wpAny_pure ?_)
   show wpAny X.M A (do rule "assign.swapped-stores"; let items ← unpackItems (.ref s₁.heap.objs.size) ns.length .none; assignInOrder (ns.reverse.map fun n => bindName env n) items.reverse; (pure Flow.next : Sem Flow)) _ _ _
   have hsz : ns.length = vals.toArray.size := by simp; omega
   rw [hsz]
   refine wpAny_bind (wpAny_rule (wpAny_bind (wpAny_unpackItems_tuple T₂.ok.1 IT fun h' e' => ?_)))
   obtain ⟨T₃, k₃⟩ := T₂.ext (tk := s₁.toks) e'
   have q2 : Ex X sc lv (l.sets ns.reverse xs.reverse) σ₁ rest Q := by rw [Loc.sets_reverse _ hd (by first | assumption | decide | omega)]; exact q
   refine wpAny_bind (wpAny_mono (binds_ok (K := fun l σ => Ex X sc lv l σ rest Q) (vals := vals.reverse) T₃ (RVs.reverse (rvs₂.keep (T₂.tk (s' := { s₁ with heap := h', toks := s₁.toks }) k₃))) (by simp; omega) (fun n hm => hlc' n (by simpa using hm)) q2) (fun _ s₄ x => ?_) fun _ _ e => e)
   obtain ⟨l', σ', S', F', k', q'⟩ := x.thenS (T.kown (kk.trans k₃))
   exact wpAny_pure ⟨l', σ', S', F', k', q'⟩
end
end Mine.Internal
set_option tactic.hygienic true
namespace Mine.Internal
open PySem PySem.W PyProof.Rows
theorem neFi : Nonempty Fi := ⟨.next (fun _ => none) fun _ => none⟩
end Mine.Internal
set_option tactic.hygienic false
namespace Mine.Internal
open PySem PySem.W PySem.Calls PyProof.Rows PySem.SeqAt
noncomputable def KeepsWell (X : Wd) (h : Heap) (f : Value) : Prop := ∃ k, (k = Keeper.frame ∨ k = Keeper.machine ∨ k = Keeper.boundFrame) ∧ Looks X.M h (keeperOf f) k
noncomputable def CallV (X : Wd) (lv : Nat) (f : V) (vs : List V) (σ : Hp) (Q : V → Hp → Prop) : Prop :=
 ∀ ex A s fv vals, X.Good → Ok lv A → X.St ex σ s → RV ex s.heap f fv → RVs ex s.heap vs vals →
   KeepsWell X s.heap fv ∧ wpAny X.M A (call fv vals) (PE ex X.prog X.w X.B X.os σ s Q) F0 s
@[reducible] noncomputable def kRet (Q : V → Hp → Prop) : Fi → Prop
 | .ret v σ => Q v σ
 | .next _ σ => Q .none σ
 | .brk _ σ => Q .none σ
 | .cont _ σ => Q .none σ
section
variable {X : Wd} {sc : Scope} {lv : Nat} {l : Loc} {σ σ' σ'' : Hp} {ex : List Addr} {A : Around} {env : Env} {s s' s'' : Shared} {pos : Pos} {Q : V → Hp → Prop}
noncomputable def plainArgs : List PySem.Expr → Bool
 | [] => true
 | e :: r => !isStar e && plainArgs r
theorem plainArgs_ok : ∀ {es : List PySem.Expr} (env : Env) (pos : Pos), plainArgs es = true → (backTo pos (starEach es env)).any (·.1) = false
 | [], _, _, _ => rfl
 | e :: r, env, pos, h => by
   simp only [plainArgs, Bool.and_eq_true, Bool.not_eq_true'] at h
   rw [starEach_plain h.1]
   have := plainArgs_ok (es := r) env pos h.2
   simp only [backTo, List.map_cons, List.any_cons, Bool.false_or] at this ⊢
   exact this
theorem args_ok {f : Value} {es : List PySem.Expr} {P : Args → Shared → Prop} (hp : plainArgs es = true) (h : wpAny X.M A (spliced (backTo pos (starEach es env))) (fun vs s' => P ⟨vs, []⟩ s') F0 s) :
   wpAny X.M A (evalArgs f true (backTo pos (starEach es env)) []) P F0 s := by
 cases es with
 | nil =>
   unfold evalArgs
   show wpAny X.M A (spliced [] >>= _) _ F0 s
   refine wpAny_bind (wpAny_mono (show wpAny X.M A (spliced []) _ F0 s from h) (fun vs s' h' => ?_) fun _ _ x => x)
   refine wpAny_holding ?_
   exact wpAny_bind (wpAny_pure (wpAny_bind (wpAny_pure (wpAny_pure h'))))
 | cons e r =>
   simp only [plainArgs, Bool.and_eq_true, Bool.not_eq_true'] at hp
   rw [starEach_plain hp.1] at h ⊢
   exact evalArgs_plain h
theorem callWith_V {fv : V} {f : Value} {es : List PySem.Expr} (hp : plainArgs es = true) (T : X.At sc lv ex A env l σ s) (rf : RV ex s.heap fv f) (h : EvL X sc lv l σ es fun vs σ₁ => CallV X lv fv vs σ₁ Q) :
   wpAny X.M A (callWith pos f [] (backTo pos (starEach es env)) (backToKw pos (keywordEach [] env))) (PE ex X.prog X.w X.B X.os σ s Q) F0 s := by
 refine callWith_of (P := fun h => KeepsWell X h f) (by rw [plainArgs_ok env pos hp]; rfl) (fun h x => x) (args_ok hp (wpAny_mono (h ex A env s T pos) (fun vals s₁ ⟨vs, σ₁, hn, rvs, S₁, k₁, q⟩ => ?_) fun _ _ e => e))
 obtain ⟨a, b⟩ := q ex A s₁ f vals T.good T.ok S₁ (rf.keep (T.tk k₁)) rvs
 exact ⟨a, wpE k₁ b⟩
theorem Ev.call {x : Str} {np : Pos} {es : List PySem.Expr} (h : Ev X sc lv l σ (.Name x np) fun fv σ₁ => EvL X sc lv l σ₁ es fun vs σ₂ => CallV X lv fv vs σ₂ Q) (hp : plainArgs es = true := by rfl) : Ev X sc lv l σ (.Call (.Name x np) es [] pos) Q := fun ex A env s T =>
 wpAny_Call_ofName (PE.and T (h ex A env s T) fun fv σ₁ f s₁ r rf T₁ k₁ => wpE k₁ (callWith_V hp T₁ rf r))
structure PlainFn (fd : FuncData) : Prop where
 shape : fd.params = ⟨[], fd.params.args, none, [], [], none, []⟩
 dflt : fd.defaults = .none
 clo : fd.closure = []
 glob : fd.globals = mainGlobals
 blt : fd.builtins = builtinsNs
 co : fd.scope.isCoroutine = false
 gen : fd.scope.isGenerator = false
 kind : fd.scope.kind = .function
 nd : (fd.params.args.map (·.arg)).Nodup
 lc : (fd.params.args.map (·.arg)).all (isLC fd.scope) = true
 dbg : fd.scope.names.lookup (Str.ofString "__debug__") = none
 cd : fd.scope.names.lookup (Str.ofString "__classdict__") = none
 pdbg : (Str.ofString "__debug__") ∉ fd.params.args.map (·.arg)
 pcd : (Str.ofString "__classdict__") ∉ fd.params.args.map (·.arg)
 cells : ((cellsFrom 0 fd.scope.names []).map (·.1)).Nodup
theorem lookup_of_mem {α : Type} : ∀ {l : List (Str × α)} {x : Str} {c : α}, (l.map (·.1)).Nodup → (x, c) ∈ l → l.lookup x = some c
 | (k, v) :: r, x, c, hn, h => by
   rw [List.map_cons, List.nodup_cons] at hn
   rw [List.lookup_cons]
   rcases List.mem_cons.mp h with e | hm
   · cases e; simp
   · have : (x == k) = false := by
       rw [beq_eq_false_iff_ne]; intro e; subst e
       exact hn.1 (List.mem_map.mpr ⟨(x, c), hm, rfl⟩)
     rw [this]; exact lookup_of_mem hn.2 hm
theorem bind_rel {kindOf : Str → Option NameKind} {h : Heap} : ∀ {ns : List Str} {vs : List V} {vals : List Value} {l : Loc} {m cm : Str → Option Value}, ns.length = vs.length → RVs ex h vs vals →
   (∀ x v, l x = some v → (kindOf x = some .local → ∃ val, m x = some val ∧ RV ex h v val) ∧ (kindOf x ≠ some .local → ∃ val, cm x = some val ∧ RV ex h v val)) →
   ∀ x v, l.sets ns vs x = some v → (kindOf x = some .local → ∃ val, bindL kindOf (ns.zip vals) m x = some val ∧ RV ex h v val) ∧ (kindOf x ≠ some .local → ∃ val, bindC kindOf (ns.zip vals) cm x = some val ∧ RV ex h v val)
 | [], [], vals, l, m, cm, _, R, H => by
   unfold RVs at R; subst R
   simpa [Loc.sets, bindL, bindC] using H
 | n :: ns, v :: vs, vals, l, m, cm, hl, R, H => by
   unfold RVs at R
   obtain ⟨val, r, rfl, rv, rvs⟩ := R
   rw [List.zip_cons_cons]
   unfold bindL bindC
   simp only [Loc.sets]
   refine bind_rel (by simpa using hl) rvs fun x u hx => ?_
   unfold Loc.set at hx
   by_cases e : x = n
   · subst e
     rw [if_pos rfl] at hx; obtain rfl := Option.some.inj hx
     refine ⟨fun hk => ⟨val, by simp [hk], rv⟩, fun hk => ⟨val, by simp [hk], rv⟩⟩
   · rw [if_neg e] at hx
     obtain ⟨h1, h2⟩ := H x u hx
     refine ⟨fun hk => ?_, fun hk => ?_⟩
     · obtain ⟨w, a, b⟩ := h1 hk
       refine ⟨w, ?_, b⟩
       split
       · simp [e, a]
       · exact a
     · obtain ⟨w, a, b⟩ := h2 hk
       refine ⟨w, ?_, b⟩
       split
       · exact a
       · simp [e, a]
 | [], _ :: _, _, _, _, _, hl, _, _ => by simp at hl
 | _ :: _, [], _, _, _, _, hl, _, _ => by simp at hl
theorem sets_some : ∀ {ns : List Str} {vs : List V} {l : Loc} {x : Str} {v : V}, l.sets ns vs x = some v → x ∈ ns ∨ l x = some v
 | [], _, l, x, v, h => .inr (by simpa [Loc.sets] using h)
 | _ :: _, [], l, x, v, h => .inr (by simpa [Loc.sets] using h)
 | n :: ns, u :: vs, l, x, v, h => by
   rcases sets_some (by simpa [Loc.sets] using h) with h | h
   · exact .inl (List.mem_cons_of_mem _ h)
   · unfold Loc.set at h
     by_cases e : x = n
     · subst e; exact .inl List.mem_cons_self
     · rw [if_neg e] at h; exact .inr h
noncomputable def l0 : Loc := fun _ => none
theorem FrR.entry {fd : FuncData} {a : Addr} {vs : List V} {vals : List Value} {s₁ : Shared} (P : PlainFn fd) (hl : fd.params.args.length = vs.length) (S : X.St ex σ s) (rvs : RVs ex s.heap vs vals)
   (I : InCallC s (callEnvC fd s.heap.objs.size a).locals (bindL (callEnvC fd s.heap.objs.size a).kindOf ((fd.params.args.map (·.arg)).zip vals) fun _ => none) (callEnvC fd s.heap.objs.size a).cells (bindC (callEnvC fd s.heap.objs.size a).kindOf ((fd.params.args.map (·.arg)).zip vals) fun _ => none) s₁) :
   X.St ex σ s₁ ∧ FrR ex X.B (X.cx fd.scope lv) (callEnvC fd s.heap.objs.size a) (l0.sets (fd.params.args.map (·.arg)) vs) σ s₁ ∧ Keep [] σ s.heap σ s₁.heap := by
 haveI := neSh
 haveI := neWd
 revert s₁
 revert X lv σ ex s fd a vs vals
 refine no_implicit_lambda% letI X := _; letI lv := _; letI σ := _; letI ex := _; letI s := _; letI fd := _; letI a := _; letI vs := _; letI vals := _; epsX9 1 X lv σ ex s fd a vs vals rfl ?_
 intro P hl S rvs s₁ I
 obtain ⟨h', tk, rfl, k0⟩ := I.done
 have S₁ : X.St ex σ { s with heap := h', toks := tk } := S.grow k0
 have kk : Keep [] σ s.heap σ h' := Keep.grow k0
 have tkk : TK' ex s.heap h' := fun b o e _ _ _ => k0 b o e
 have rel := bind_rel (ex := ex) (h := h') (kindOf := (callEnvC fd s.heap.objs.size a).kindOf) (ns := fd.params.args.map (·.arg)) (vs := vs) (l := l0) (m := fun _ => none) (cm := fun _ => none) (by simpa using hl) (rvs.keep tkk) (fun x v e => by exact noneSome e)
 have nodup : ((callEnvC fd s.heap.objs.size a).cells.map (·.1)).Nodup := by
   show ((cellsFrom (s.heap.objs.size + 1) fd.scope.names []).map (·.1)).Nodup
   rw [cellsFrom_names fd.scope.names (s.heap.objs.size + 1) 0 [] [] rfl]; exact P.cells
 have nw : ∀ b, s.heap.objs.size ≤ b → σ b = none ∧ X.B.get? b = none := fun b hb => by
   have hn : s.heap.get? b = none := Heap.get?_none_of_le hb
   refine ⟨S.noneAt hn, ?_⟩
   cases q : X.B.get? b with
   | none => rfl
   | some o => rw [S.base b o q] at hn; cases hn
 have hlc : ∀ x v, l0.sets (fd.params.args.map (·.arg)) vs x = some v → fd.scope.names.lookup x = some .local ∨ fd.scope.names.lookup x = some .cell := fun x v e => by
   rcases sets_some e with e | e
   · exact isLC_or (List.all_eq_true.mp P.lc x e)
   · exact noneSome e
 have hcs : ∀ x, fd.scope.names.lookup x = some .cell → ∃ cA, (callEnvC fd s.heap.objs.size a).cells.lookup x = some cA := fun x hx =>
   Option.isSome_iff_exists.mp (cellsFrom_some fd.scope.names (s.heap.objs.size + 1) [] (.inl hx))
 refine ⟨S₁, ?_, kk⟩
 exact {
   kind := P.kind
   knd := fun x k hx _ => hx
   globals := P.glob
   builtins := P.blt
   ns := ⟨_, I.toInCall.ns, fun x v hx hk => (rel x v hx).1 hk⟩
   cells := fun x v hx hk => by
     obtain ⟨val, h1, h2⟩ := (rel x v hx).2 hk
     have hc : fd.scope.names.lookup x = some .cell := (hlc x v hx).resolve_left hk
     obtain ⟨cA, hcA⟩ := hcs x hc
     exact ⟨.inl hc, cA, val, hcA, h1 ▸ I.cell x cA hcA, h2⟩
   cellsOk := hcs
   cellsAre := fun x cA hx => ⟨⟨_, I.cell x cA (lookup_of_mem nodup hx)⟩, nw cA (Nat.le_of_lt (I.above x cA hx))⟩
   apart := I.apart
   loc := nw _ (Nat.le_refl _)
   nodbg := P.dbg
   ldbg := by
     cases q : l0.sets (fd.params.args.map (·.arg)) vs (Str.ofString "__debug__") with
     | none => rfl
     | some v => exact ((sets_some q).elim (fun h => absurd h P.pdbg) fun h => by exact noneSome h)
   nocd := P.cd
   lcd := by
     cases q : l0.sets (fd.params.args.map (·.arg)) vs (Str.ofString "__classdict__") with
     | none => rfl
     | some v => exact ((sets_some q).elim (fun h => absurd h P.pcd) fun h => by exact noneSome h) }
noncomputable def CodeV (X : Wd) (lv : Nat) (f : V) (vs : List V) (σ : Hp) (Q : V → Hp → Prop) : Prop :=
 ∀ ex A s fv vals, X.Good → Ok lv A → X.St ex σ s → RV ex s.heap f fv → RVs ex s.heap vs vals →
   codeAny X.M A (.call fv ⟨vals, []⟩) (fun r s' => match r with | .ok (.ret v) => PE ex X.prog X.w X.B X.os σ s Q v s' | .ok _ => False | .error e => F0 e s') s
theorem CodeV.fn {a : Addr} {oc : Value} {od : Option Addr} {osl : Array (Option Value)} {fd : FuncData} {body : List Stmt} {vs : List V} (hK : X.K.lookup a = some ⟨oc, od, .func fd, osl⟩) (hb : fd.body = .stmts body)
   (P : PlainFn fd) (hcd : codeIn X.K fd.code fd.qualname = true) (hl : fd.params.args.length = vs.length) (h : Ex X fd.scope lv (l0.sets (fd.params.args.map (·.arg)) vs) σ body (kRet Q)) : CodeV X (lv + 1) (.ref a) vs σ Q := by
 intro ex A s fv vals G O S rf rvs
 obtain rfl := rf
 have hK' := S.base _ _ (G.kin _ _ hK)
 have kin : X.K.In s.heap := fun b o e => S.base b o (G.kin b o e)
 have nl := rvs.length
 have hbind : bindArgs fd ⟨vals, []⟩ = pure ((fd.params.args.map (·.arg)).zip vals) := bindArgs_plain P.shape P.dflt (by first | assumption | decide | omega) P.nd
 refine codeAny_call_cells O.room hK' rfl (G.gd.nolimit.keeps S.base) (codeRec_of kin hcd) hb hbind P.clo (fun x hx => ?_) (fun s₁ I => ?_) P.co P.gen P.kind
 · have hx1 : x.1 ∈ fd.params.args.map (·.arg) := (List.of_mem_zip hx).1
   rcases isLC_or (List.all_eq_true.mp P.lc _ hx1) with e | e
   · exact .inl e
   · exact .inr ⟨e, cellsFrom_some fd.scope.names _ [] (.inl e)⟩
 · obtain ⟨S₁, F₁, k₁⟩ := FrR.entry (lv := lv) (a := a) P hl S rvs I
   refine wpAny_mono (h ex (A.deeper (callEnvC fd s.heap.objs.size a)) (callEnvC fd s.heap.objs.size a) s₁ ⟨G, O.deeper _, S₁, F₁⟩) (fun f s₂ ⟨l', σ', S', F', k', q⟩ => ?_) fun _ _ e => e.elim
   have kk : Keep [] σ s.heap σ' s₂.heap := by
     refine ⟨fun b o e n _ => ?_, fun _ hm => nomatch hm⟩
     obtain ⟨e1, n1⟩ := k₁.1 b o e n (by simp)
     refine k'.1 b o e1 n1 fun hm => ?_
     rcases List.mem_cons.mp hm with rfl | hm
     · exact absurd (Heap.lt_size e) (Nat.lt_irrefl _)
     · obtain ⟨⟨y, cA⟩, hy, rfl⟩ := List.mem_map.mp hm
       exact absurd (Heap.lt_size e) (Nat.not_lt_of_gt (I.above y cA hy))
   cases f with
   | ret v => obtain ⟨x, rv, q⟩ := q; exact ⟨x, σ', rv, S', kk, q⟩
   | next => exact ⟨.none, σ', rfl, S', kk, q⟩
   | brk => exact ⟨.none, σ', rfl, S', kk, q⟩
   | cont => exact ⟨.none, σ', rfl, S', kk, q⟩
theorem CallV.fn {a : Addr} {oc : Value} {od : Option Addr} {osl : Array (Option Value)} {fd : FuncData} {vs : List V} (hK : X.K.lookup a = some ⟨oc, od, .func fd, osl⟩) (h : CodeV X lv (.ref a) vs σ Q) : CallV X lv (.ref a) vs σ Q := by
 intro ex A s fv vals G O S rf rvs
 obtain rfl := rf
 have hK' := S.base _ _ (G.kin _ _ hK)
 exact ⟨⟨.frame, .inl rfl, (Looks.ld hK').andThen .now⟩, wpAny_call (h ex A s (.ref a) vals G O S rfl rvs)⟩
theorem KeepsWell.bi {h : Heap} {n : String} : KeepsWell X h (.builtin n) := ⟨.machine, .inr (.inl rfl), .now⟩
theorem KeepsWell.ty {h : Heap} {n : String} : KeepsWell X h (.type n) := ⟨.machine, .inr (.inl rfl), .now⟩
theorem RVs.one {h : Heap} {v : V} {vals : List Value} (r : RVs ex h [v] vals) : ∃ val, vals = [val] ∧ RV ex h v val := by
 unfold RVs at r; obtain ⟨val, r', rfl, rv, r'⟩ := r; unfold RVs at r'; subst r'; exact ⟨val, rfl, rv⟩
theorem RVs.two {h : Heap} {u v : V} {vals : List Value} (r : RVs ex h [u, v] vals) : ∃ a b, vals = [a, b] ∧ RV ex h u a ∧ RV ex h v b := by
 unfold RVs at r; obtain ⟨val, r', rfl, rv, r'⟩ := r
 obtain ⟨b, rfl, rb⟩ := RVs.one r'
 exact ⟨val, b, rfl, rv, rb⟩
end
end Mine.Internal
set_option tactic.hygienic false
namespace Mine.Internal
open PySem PySem.W PySem.Calls PyProof.Rows PySem.SeqAt
section
variable {X : Wd} {sc : Scope} {lv : Nat} {l : Loc} {σ σ' σ'' : Hp} {ex ex' ex₀ : List Addr} {A : Around} {env : Env} {s s' s'' : Shared} {pos : Pos} {rest : List Stmt} {Q : Fi → Prop}
theorem Ex.while_ {t : PySem.Expr} {body : List Stmt} (I : Nat → Loc → Hp → Prop) (n : Nat) (h0 : I n l σ)
   (turn : ∀ n l σ, I n l σ → EvT X sc lv l σ t fun c σ₁ => if c then Ex X sc lv l σ₁ body (kLoop (fun l σ => ∃ m, m < n ∧ I m l σ) (fun l σ => Ex X sc lv l σ rest Q) Q) else Ex X sc lv l σ₁ rest Q) :
   Ex X sc lv l σ (.While t body [] pos :: rest) Q := Ex.step fun ex A env s T => by
 refine wpAny_While (codeAny_whileLoop (fun n s' => ∃ l' σ', I n l' σ' ∧ X.At sc lv ex A env l' σ' s' ∧ Keep (own env) σ s.heap σ' s'.heap) (fun n s₁ ⟨l₁, σ₁, hI, T₁, k₁⟩ => ?_) n ⟨l, σ, h0, T, Keep.refl _ _ _⟩)
 refine wpAny_mono (turn n l₁ σ₁ hI ex A env s₁ T₁ _ rfl) (fun c s₂ ⟨σ₂, S₂, k₂, q⟩ => ?_) fun _ _ e => e.elim
 have T₂ := T₁.move S₂ k₂
 have kk := k₁.trans (T₁.kown k₂)
 cases c with
 | true =>
   simp only [if_true] at q ⊢
   refine wpAny_mono (q ex A env s₂ T₂) (fun f s₃ ⟨l₃, σ₃, S₃, F₃, k₃, q₃⟩ => ?_) fun _ _ e => e.elim
   have T₃ := T₂.to S₃ F₃
   cases f with
   | next => obtain ⟨m, hm, hq⟩ := q₃; exact ⟨m, hm, l₃, σ₃, hq, T₃, kk.trans k₃⟩
   | cont => obtain ⟨m, hm, hq⟩ := q₃; exact ⟨m, hm, l₃, σ₃, hq, T₃, kk.trans k₃⟩
   | brk => exact ⟨l₃, σ₃, S₃, F₃, kk.trans k₃, q₃⟩
   | ret v => exact ⟨l₃, σ₃, S₃, F₃, kk.trans k₃, q₃⟩
 | false =>
   simp only [Bool.false_eq_true, if_false] at q ⊢
   exact wpAny_execs_nil ⟨l₁, σ₂, S₂, T₂.fr, kk, q⟩
theorem FrR.to {B : Heap} {c : Cx} (F : FrR ex B c env l σ s) (t : TK' ex s.heap s'.heap) (k : ∀ b ∈ own env, ∀ o, s.heap.get? b = some o → s'.heap.get? b = some o) (n : ∀ b ∈ own env, σ' b = none) : FrR ex B c env l σ' s' := by
 obtain ⟨m, hm, hl⟩ := F.ns
 obtain ⟨o, es, ep, ho, hd, r⟩ := hm
 have ownC : ∀ x cA, (x, cA) ∈ env.cells → cA ∈ own env := fun x cA hx => List.mem_cons_of_mem _ (List.mem_map.mpr ⟨(x, cA), hx, rfl⟩)
 have kc : ∀ x cA, (x, cA) ∈ env.cells → ∀ v, s.heap.IsCell cA v → s'.heap.IsCell cA v := fun x cA hx v ⟨o, ho, hd⟩ => ⟨o, k cA (ownC x cA hx) o ho, hd⟩
 refine { F with ns := ⟨m, ⟨o, es, ep, k _ List.mem_cons_self _ ho, hd, r⟩, fun x v hx hk => ?_⟩, cells := fun x v hx hk => ?_, cellsAre := fun x cA hx => ?_, loc := ⟨n _ List.mem_cons_self, F.loc.2⟩ }
 · obtain ⟨val, h1, h2⟩ := hl x v hx hk
   exact ⟨val, h1, h2.keep t⟩
 · obtain ⟨h1, cA, val, h2, h3, h4⟩ := F.cells x v hx hk
   exact ⟨h1, cA, val, h2, kc x cA (mem_of_lookup h2) _ h3, h4.keep t⟩
 · obtain ⟨⟨v, hv⟩, h2, h3⟩ := F.cellsAre x cA hx
   exact ⟨⟨v, kc x cA hx v hv⟩, n cA (ownC x cA hx), h3⟩
theorem FrR.exchT {B : Heap} {c : Cx} (F : FrR ex B c env l σ s) (hx : ∀ b ∈ ex', b ∉ ex → ∀ o, s.heap.get? b = some o → ¬ (o.cls = .type "tuple" ∧ ∃ xs n, o.data = .seq xs n)) : FrR ex' B c env l σ s := by
 obtain ⟨m, hm, hl⟩ := F.ns
 exact { F with
   ns := ⟨m, hm, fun x v h1 h2 => let ⟨val, a, b⟩ := hl x v h1 h2; ⟨val, a, b.exchT hx⟩⟩
   cells := fun x v h1 h2 => let ⟨a, cA, val, b, c, d⟩ := F.cells x v h1 h2; ⟨a, cA, val, b, c, d.exchT hx⟩ }
theorem FrR.narrow {B : Heap} {c : Cx} (F : FrR ex' B c env l σ s) (hs : ∀ b ∈ ex, b ∈ ex') : FrR ex B c env l σ s := F.exchT fun b hb hn => absurd (hs b hb) hn
theorem FrR.un {B : Heap} {c : Cx} (F : FrR ex B c env l σ s) : ∀ b ∈ own env, σ b = none := by
 intro b hb
 rcases List.mem_cons.mp hb with rfl | hb
 · exact F.loc.1
 · obtain ⟨⟨x, cA⟩, hx, rfl⟩ := List.mem_map.mp hb
   exact (F.cellsAre x cA hx).2.1
structure Iter (X : Wd) (ex ex' : List Addr) (tgt : PySem.Expr) (σ : Hp) (h : Heap) (ita : Addr) (fp : List Addr) (items : List V) (src : Hp → Prop) (P : Nat → Heap → Prop) (σ' : Hp) (s' : Shared) : Prop where
 st : X.St ex' σ' s'
 sub : ∀ b ∈ ex, b ∈ ex'
 fresh : ∀ b ∈ ex', b ∉ ex → ∀ o, h.get? b = some o → ¬ (o.cls = .type "tuple" ∧ ∃ xs n, o.data = .seq xs n)
 fps : ∀ b ∈ fp, (∀ o, h.get? b = some o → σ b ≠ none) ∧ σ' b = none ∧ X.B.get? b = none
 itr : Itr ex' ex X.prog X.w X.B X.os tgt ita fp items src P
 at0 : P 0 s'.heap
 keep : Keep [] σ h σ' s'.heap
 tk : TK' ex h s'.heap
inductive IterP (X : Wd) (ex : List Addr) (tgt : PySem.Expr) (σ : Hp) (h : Heap) (R : List V → (Hp → Prop) → Hp → Prop) (it : Value) (s₂ : Shared) : Prop
 | mk (ita : Addr) (fp ex' : List Addr) (P : Nat → Heap → Prop) (items : List V) (src : Hp → Prop) (σ' : Hp) (e : it = .ref ita) (h1 : Iter X ex ex' tgt σ h ita fp items src P σ' s₂) (h2 : R items src σ')
noncomputable def EvI (X : Wd) (sc : Scope) (lv : Nat) (l : Loc) (σ : Hp) (e tgt : PySem.Expr) (R : List V → (Hp → Prop) → Hp → Prop) : Prop :=
 ∀ ex A env s, X.At sc lv ex A env l σ s → wpAny X.M A (eval e env) (fun x s₁ => wpAny X.M A (pyIter x) (fun it s₂ =>
   IterP X ex tgt σ s.heap R it s₂) F0 s₁) F0 s
theorem TK'.wider {h h' : Heap} (t : TK' ex h h') (hs : ∀ b ∈ ex, b ∈ ex') : TK' ex' h h' := fun b o e c d n => t b o e c d fun hb => n (hs b hb)
theorem ar_lt {n k m : Nat} (h : n + 1 + k = m) : k < m := by omega
theorem ar_s {n k m : Nat} (h : n + 1 + k = m) : n + (k + 1) = m := by omega
theorem ar_z {k m : Nat} (h : 0 + k = m) : k = m := by omega
theorem Ex.for_ {tgt iter : PySem.Expr} {body : List Stmt} (h : EvI X sc lv l σ iter tgt fun items src σ₁ => ∃ I : Nat → Loc → Hp → Prop, I 0 l σ₁ ∧
     (∀ k l σ x, I k l σ → items[k]? = some x → src σ ∧ As X sc lv l σ tgt x fun l' σ' => Ex X sc lv l' σ' body (kLoop (I (k + 1)) (fun l σ => Ex X sc lv l σ rest Q) Q)) ∧
     (∀ l σ, I items.length l σ → src σ ∧ Ex X sc lv l σ rest Q))
   (hs : ∀ env x, foldedSetIterable iter env x = pure x := by intro _ _; rfl) : Ex X sc lv l σ (.For tgt iter body [] pos :: rest) Q := by
 haveI := neSh
 haveI := neA
 haveI := neWd
 haveI := neFi
 revert X sc lv l σ pos rest Q tgt iter body
 refine no_implicit_lambda% letI X := _; letI sc := _; letI lv := _; letI l := _; letI σ := _; letI pos := _; letI rest := _; letI Q := _; letI tgt := _; letI iter := _; letI body := _; epsX11 1 X sc lv l σ pos rest Q tgt iter body rfl ?_
 intro h hs
 refine Ex.step fun ex A env s T => ?_
 revert ex A env s; refine letI ex := _; letI A := _; letI env := _; letI s := _; epsX4 101 ex A env s rfl ?_; set_option tactic.hygienic false in intros
 refine wpAny_For (wpAny_mono (h ex A env s T) (fun x s₁ h₁ => wpAny_mono h₁ (fun it s₂ h₂ => ?_) fun _ _ e => e) fun _ _ e => e) (hs env)
 obtain ⟨ita, fp, ex', P, items, src, σ₂, rfl, It, I, hI0, turn, fin⟩ := h₂
 revert I; revert s₂ ita fp ex' P items src σ₂; refine letI s₂ := _; letI ita := _; letI fp := _; letI ex' := _; letI P := _; letI items := _; letI src := _; letI σ₂ := _; epsX8 102 s₂ ita fp ex' P items src σ₂ rfl ?_; set_option tactic.hygienic false in intros
 revert I; refine letI I := _; epsX1 103 I rfl ?_; set_option tactic.hygienic false in intros
 have F₂ : FrR ex' X.B (X.cx sc lv) env l σ₂ s₂ := (T.fr.exchT It.fresh).to (It.tk.wider It.sub) (fun b hb o e => (It.keep.at e (T.fr.un b hb))) (fun b hb => let ⟨o, e⟩ := T.fr.alive b hb; It.keep.un e (T.fr.un b hb))
 have kown : Keep (own env) σ s.heap σ₂ s₂.heap := T.kown It.keep
 have nfp : ∀ b ∈ own env, b ∉ fp := fun b hb hf => by
   obtain ⟨o, e⟩ := T.fr.alive b hb
   exact (It.fps b hf).1 o e (T.fr.un b hb)
 refine codeAny_forLoop_any (fun n s' => ∃ k l' σ', n + k = items.length ∧ I k l' σ' ∧ X.At sc lv ex' A env l' σ' s' ∧ (∀ b ∈ fp, σ' b = none ∧ X.B.get? b = none) ∧ P k s'.heap ∧ Keep (own env) σ s.heap σ' s'.heap)
   ?_ items.length ⟨0, l, σ₂, Nat.add_zero _, hI0, ⟨T.good, T.ok, It.st, F₂⟩, fun b hb => (It.fps b hb).2, It.at0, kown⟩
 rintro n s₃ ⟨k, l₃, σ₃, hn, hI, T₃, hfp, hP, k₃⟩
 revert n; revert s₃ k l₃ σ₃; refine letI s₃ := _; letI k := _; letI l₃ := _; letI σ₃ := _; epsX4 104 s₃ k l₃ σ₃ rfl ?_; set_option tactic.hygienic false in intros
 have viaFp : ∀ {σ₄ : Hp} {h₄ : Heap}, Keep fp σ₃ s₃.heap σ₄ h₄ → Keep (own env) σ s.heap σ₄ h₄ := fun k₄ =>
   ⟨fun b o e nb hb => by
     obtain ⟨e', n'⟩ := k₃.1 b o e nb hb
     exact k₄.1 b o e' n' fun hf => (It.fps b hf).1 o e nb,
    fun b hb nb => by
     obtain ⟨o, e⟩ := T₃.fr.alive b hb
     exact (k₄.1 b o e (T₃.fr.un b hb) (nfp b hb)).2⟩
 have frTo : ∀ {s₄ : Shared}, Keep fp σ₃ s₃.heap σ₃ s₄.heap → TK' ex' s₃.heap s₄.heap → FrR ex' X.B (X.cx sc lv) env l₃ σ₃ s₄ := fun k₄ t₄ =>
   T₃.fr.to t₄ (fun b hb o e => (k₄.1 b o e (T₃.fr.un b hb) (nfp b hb)).1) (fun b hb => T₃.fr.un b hb)
 cases n with
 | zero =>
   have hk : k = items.length := ar_z hn
   obtain ⟨hsrc, q⟩ := fin l₃ σ₃ (hk ▸ hI)
   refine wpAny_mono (It.itr.done T.ok.1 T₃.st hfp hsrc (hk ▸ hP)) ?_ fun _ _ e => e.elim
   rintro r s₄ ⟨hr, S₄, k₄, t₄⟩
   subst hr
   revert s₄; refine letI s₄ := _; epsX1 105 s₄ rfl ?_; set_option tactic.hygienic false in intros
   have F₄ := (frTo k₄ t₄).narrow It.sub
   exact wpAny_execs_nil ⟨l₃, σ₃, S₄, F₄, viaFp k₄, q⟩
 | succ n =>
   revert n; refine letI n := _; epsX1 106 n rfl ?_; set_option tactic.hygienic false in intros
   have hlt : k < items.length := ar_lt hn
   obtain ⟨y, hy⟩ : ∃ y, items[k]? = some y := ⟨_, List.getElem?_eq_getElem hlt⟩
   revert y; refine letI y := _; epsX1 107 y rfl ?_; set_option tactic.hygienic false in intros
   obtain ⟨hsrc, q⟩ := turn k l₃ σ₃ y hI hy
   refine wpAny_mono (It.itr.item T.ok.1 T₃.st hfp hsrc hP hy) ?_ fun _ _ e => e.elim
   rintro r s₄ ⟨v, hr, h₄⟩
   subst hr
   revert s₄ v; refine letI s₄ := _; letI v := _; epsX2 108 s₄ v rfl ?_; set_option tactic.hygienic false in intros
   refine wpAny_mono h₄ ?_ fun _ _ e => e.elim
   rintro _ s₅ ⟨S₅, rv, P₅, k₅, t₅⟩
   revert s₅; refine letI s₅ := _; epsX1 109 s₅ rfl ?_; set_option tactic.hygienic false in intros
   have T₅ : X.At sc lv ex' A env l₃ σ₃ s₅ := ⟨T.good, T.ok, S₅, frTo k₅ t₅⟩
   have hfp₅ := It.itr.alive _ _ P₅
   refine wpAny_mono (q ex' A env s₅ T₅ v rv) ?_ fun _ _ e => e.elim
   rintro _ s₆ ⟨l₆, σ₆, S₆, F₆, k₆, q₆⟩
   revert s₆ l₆ σ₆; refine letI s₆ := _; letI l₆ := _; letI σ₆ := _; epsX3 110 s₆ l₆ σ₆ rfl ?_; set_option tactic.hygienic false in intros
   have T₆ := T₅.to S₆ F₆
   refine wpAny_mono (q₆ ex' A env s₆ T₆) ?_ fun _ _ e => e.elim
   rintro f s₇ ⟨l₇, σ₇, S₇, F₇, k₇, q₇⟩
   revert f; revert s₇ l₇ σ₇; refine letI s₇ := _; letI l₇ := _; letI σ₇ := _; epsX3 111 s₇ l₇ σ₇ rfl ?_; set_option tactic.hygienic false in intros
   have T₇ := T₆.to S₇ F₇
   have kb := k₆.trans k₇
   have kk := (viaFp k₅).trans kb
   have again : I (k + 1) l₇ σ₇ → ∃ m, m < n + 1 ∧ ∃ k l' σ', m + k = items.length ∧ I k l' σ' ∧ X.At sc lv ex' A env l' σ' s₇ ∧ (∀ b ∈ fp, σ' b = none ∧ X.B.get? b = none) ∧ P k s₇.heap ∧ Keep (own env) σ s.heap σ' s₇.heap := fun hq => by
     refine ⟨n, Nat.lt_succ_self n, k + 1, l₇, σ₇, ar_s hn, hq, T₇, fun b hb => ?_, ?_, kk⟩
     · obtain ⟨o, e⟩ := hfp₅ b hb
       obtain ⟨e', n'⟩ := kb.1 b o e (hfp b hb).1 fun ho => nfp b ho hb
       exact ⟨n', (hfp b hb).2⟩
     · exact It.itr.frame _ _ _ P₅ (fun b hb o e => (kb.1 b o e (hfp b hb).1 fun ho => nfp b ho hb).1) (T₅.tkOwn kb)
   cases f with
   | next => exact again q₇
   | cont => exact again q₇
   | brk => exact ⟨l₇, σ₇, S₇.shrink It.sub, F₇.narrow It.sub, kk, q₇⟩
   | ret v => obtain ⟨x, rx, qx⟩ := q₇; exact ⟨l₇, σ₇, S₇.shrink It.sub, F₇.narrow It.sub, kk, x, rx.exch fun b hb hn => absurd (It.sub b hb) hn, qx⟩
noncomputable def itP (v : V) (σ : Hp) (R : List V → (Hp → Prop) → Hp → Prop) : Prop := match v with
 | .ref p => match σ p with
   | some (.list xs) => R xs (fun σ => σ p = some (.list xs)) σ
   | some (.dict es ep) => R ((es.map (·.1)).map Key.toV) (fun σ' => ∃ es', σ' p = some (.dict es' ep) ∧ es'.map (·.1) = es.map (·.1)) σ
   | _ => False
 | .tup xs => R xs (fun _ => True) σ
 | _ => False
theorem itP.list {p : Addr} {xs : List V} {R : List V → (Hp → Prop) → Hp → Prop} (hp : σ p = some (.list xs)) (h : R xs (fun σ => σ p = some (.list xs)) σ) : itP (.ref p) σ R := by unfold itP; simp only [hp]; exact h
theorem itP.dict {p : Addr} {es : List (Key × V)} {ep : Nat} {R : List V → (Hp → Prop) → Hp → Prop} (hp : σ p = some (.dict es ep)) (h : R ((es.map (·.1)).map Key.toV) (fun σ' => ∃ es', σ' p = some (.dict es' ep) ∧ es'.map (·.1) = es.map (·.1)) σ) : itP (.ref p) σ R := by unfold itP; simp only [hp]; exact h
theorem itP.tup {xs : List V} {R : List V → (Hp → Prop) → Hp → Prop} (h : R xs (fun _ => True) σ) : itP (.tup xs) σ R := h
theorem Iter.push {tgt : PySem.Expr} {o : Obj} {σ₁ : Hp} {s₁ : Shared} {items : List V} {src : Hp → Prop} {P : Nat → Heap → Prop} (T : X.At sc lv ex A env l σ s) (T₁ : X.At sc lv ex A env l σ₁ s₁) (k : Keep [] σ s.heap σ₁ s₁.heap)
   (hI : s₁.heap.objs.size ∉ ex → Itr ex ex X.prog X.w X.B X.os tgt s₁.heap.objs.size [s₁.heap.objs.size] items src P) (hP : s₁.heap.objs.size ∉ ex → P 0 (s₁.heap.push o)) :
   Iter X ex ex tgt σ s.heap s₁.heap.objs.size [s₁.heap.objs.size] items src P σ₁ { s₁ with heap := s₁.heap.push o } := by
 have k0 : ∀ b ob, s₁.heap.get? b = some ob → (s₁.heap.push o).get? b = some ob := fun b ob e => Heap.get?_push_of_some _ e
 have hx : s₁.heap.objs.size ∉ ex := T₁.st.exFresh (Heap.get?_none_of_le (Nat.le_refl _))
 have kk : Keep [] σ s.heap σ₁ (s₁.heap.push o) := k.trans (Keep.grow k0)
 refine ⟨T₁.st.grow k0, fun _ h => h, fun b h1 h2 => absurd h1 h2, fun b hb => ?_, hI hx, hP hx, kk, T.st.tk0 kk⟩
 simp only [List.mem_singleton] at hb
 subst hb
 exact ⟨fun ob q n => absurd (Heap.lt_size (k.at q n)) (Nat.lt_irrefl _), T₁.st.fresh⟩
set_option tactic.hygienic true in
theorem EvI.val {e tgt : PySem.Expr} {R : List V → (Hp → Prop) → Hp → Prop} (h : Ev X sc lv l σ e fun v σ₁ => itP v σ₁ R) (ht : isNT tgt = true) : EvI X sc lv l σ e tgt R := fun ex A env s T => by
 refine PE.and T (h ex A env s T) fun v σ₁ val s₁ r rv T₁ k₁ => ?_
 unfold itP at r
 split at r
 · rename_i p
   obtain rfl := rv
   split at r
   · rename_i xs hp
     obtain ⟨_, it, IL, _⟩ := T₁.st.lst hp
     refine wpAny_pyIter_list IL ⟨_, _, ex, _, xs, _, σ₁, rfl, Iter.push T T₁ k₁ (fun hx => Itr.list ht hx) (fun _ => ⟨_, Heap.get?_push_size _ rfl, rfl, rfl⟩), r⟩
   · rename_i es ep hp
     obtain ⟨_, kvs, D, RR⟩ := T₁.st.ro _ _ hp
     have n := RR.length
     refine wpAny_pyIter_dict (T₁.st.nsys T.good.gd.sys hp) D ⟨_, _, ex, _, _, _, σ₁, rfl, Iter.push T T₁ k₁ (fun hx => Itr.dict (ks := es.map (·.1)) (ep := ep) (d := p) ht hx) (fun _ => ⟨_, Heap.get?_push_size _ rfl, rfl, by simp [n]⟩), r⟩
   · exact r.elim
 · unfold RV at rv
   obtain ⟨p, items, rfl, IT, nx, RR⟩ := rv
   have IT' : s₁.heap.IsTuple p items := IT
   refine wpAny_pyIter_tuple IT' ⟨_, _, ex, _, _, _, σ₁, rfl, Iter.push T T₁ k₁ (fun hx => Itr.tuple (items := items) ht hx nx) (fun _ => ⟨⟨_, Heap.get?_push_size _ rfl, rfl, rfl⟩, IT'.push _, RR.keepPush _⟩), r⟩
 · exact r.elim
theorem callWith_T {f : Value} {es : List PySem.Expr} {n : String} {P : Value → Shared → Prop} (hf : f = .type n) (hp : plainArgs es = true) (h : wpAny X.M A (spliced (backTo pos (starEach es env))) (fun vs s' => wpAny X.M A (call f vs) P F0 s') F0 s) :
   wpAny X.M A (callWith pos f [] (backTo pos (starEach es env)) (backToKw pos (keywordEach [] env))) P F0 s := by
 subst hf
 exact callWith_of (P := fun _ => True) (by rw [plainArgs_ok env pos hp]; rfl) (fun h x => ⟨.machine, .inr (.inl rfl), .now⟩) (args_ok hp (wpAny_mono h (fun vals s₁ h₁ => ⟨trivial, h₁⟩) fun _ _ e => e))
theorem EvI.range {e tgt : PySem.Expr} {x : Str} {np : Pos} {R : List V → (Hp → Prop) → Hp → Prop} (hn : nameV (X.cx sc lv) l x = some (.ty "range")) (h : Ev X sc lv l σ e fun v σ₁ => ∃ n : Nat, v = .int n ∧ n < 1000000 ∧ R ((List.range n).map fun (k : Nat) => V.int k) (fun _ => True) σ₁)
   (ht : isNT tgt = true) (hs : isStar e = false := by rfl) : EvI X sc lv l σ (.Call (.Name x np) [e] [] pos) tgt R := fun ex A env s T => by
 refine wpAny_Call_ofName (PE.and T (Ev.name (pos := np) hn (Q := fun v σ' => v = .ty "range" ∧ σ' = σ) ⟨rfl, rfl⟩ ex A env s T) fun fv σ₁ f s₁ r rf T₁ k₁ => ?_)
 obtain ⟨rfl, rfl⟩ := r
 refine callWith_T rf (by simp [plainArgs, hs]) (wpAny_items_cons (he := starEach_plain hs _ _) (PE.and T₁ (h ex A env s₁ T₁) fun v σ₂ val s₂ r₂ rv T₂ k₂ => wpAny_items_nil ?_))
 obtain ⟨n, rfl, hlt, hR⟩ := r₂
 obtain ⟨t, rfl⟩ := rv
 obtain rfl := rf
 refine call_range_1 ?_
 have k0 : ∀ b ob, s₂.heap.get? b = some ob → (s₂.heap.push { cls := .type "range", data := .fields #[.int 0 s₂.toks, .int n t, .int 1 (s₂.toks + 1)] }).get? b = some ob := fun b ob e => Heap.get?_push_of_some _ e
 have kk : Keep [] σ₂ s₂.heap σ₂ (s₂.heap.push { cls := .type "range", data := .fields #[.int 0 s₂.toks, .int n t, .int 1 (s₂.toks + 1)] }) := Keep.grow k0
 have T₃ : X.At sc lv ex A env l σ₂ { s₂ with heap := s₂.heap.push { cls := .type "range", data := .fields #[.int 0 s₂.toks, .int n t, .int 1 (s₂.toks + 1)] }, toks := s₂.toks + 1 + 1 } := T₂.move (T₂.st.grow k0) kk
 refine wpAny_pyIter_range (IsRange.new _ _ _ _ _ _ _) ?_ ?_
 · exact small_one (by decide) (by decide) (by first | assumption | decide | omega) (by first | assumption | decide | omega)
 · have e : Builtin.Range.rangeSize 0 n 1 = n := by
     rw [rangeSize_pos (by first | assumption | decide | omega) (by first | assumption | decide | omega)]; omega
   refine ⟨_, _, ex, _, _, _, σ₂, rfl, Iter.push T T₃ ((k₁.trans k₂).trans kk) (fun hx => Itr.range (a := 0) (n := n) ht hx) (fun _ => ?_), ?_⟩
   · show IsRangeIter _ _ _ _ _
     rw [e]
     have e1 : (0 : Int) + ((0 : Nat) : Int) = 0 := by simp
     have e2 : (n : Int) - ((0 : Nat) : Int) = n := by simp
     rw [e1, e2]
     exact Heap.get?_push_size _ rfl
   · simpa using hR
theorem EvI.zip {a b tgt : PySem.Expr} {x : Str} {np : Pos} {R : List V → (Hp → Prop) → Hp → Prop} (hn : nameV (X.cx sc lv) l x = some (.ty "zip")) (h : EvL X sc lv l σ [a, b] fun vs σ₁ => ∃ p q xs ys, vs = [.ref p, .ref q] ∧ σ₁ p = some (.list xs) ∧ σ₁ q = some (.list ys) ∧
     R ((xs.zip ys).map pairV) (fun σ => σ p = some (.list xs) ∧ σ q = some (.list ys)) σ₁)
   (ht : isTupE tgt = true) (hs : plainArgs [a, b] = true := by rfl) : EvI X sc lv l σ (.Call (.Name x np) [a, b] [] pos) tgt R := by
 haveI := neSh
 haveI := neA
 haveI := neWd
 revert X sc lv l σ pos a b tgt x np R
 refine no_implicit_lambda% letI X := _; letI sc := _; letI lv := _; letI l := _; letI σ := _; letI pos := _; letI a := _; letI b := _; letI tgt := _; letI x := _; letI np := _; letI R := _; epsX12 2 X sc lv l σ pos a b tgt x np R rfl ?_
 intro hn h ht hs
 intro ex A env s T
 revert ex A env s; refine letI ex := _; letI A := _; letI env := _; letI s := _; epsX4 3 ex A env s rfl ?_; intros
 refine wpAny_Call_ofName (PE.and T (Ev.name (pos := np) hn (Q := fun v σ' => v = .ty "zip" ∧ σ' = σ) ⟨rfl, rfl⟩ ex A env s T) fun fv σ₁ f s₁ r rf T₁ k₁ => ?_)
 obtain ⟨rfl, rfl⟩ := r
 refine callWith_T rf hs (wpAny_mono (h ex A env s₁ T₁ pos) (fun vals s₂ ⟨vs, σ₂, _, rvs, S₂, k₂, p, q, xs, ys, hvs, hp, hq, hR⟩ => ?_) fun _ _ e => e)
 subst hvs
 obtain ⟨va, vb, rfl, ra, rb⟩ := rvs.two
 obtain rfl := ra; obtain rfl := rb; obtain rfl := rf
 have T₂ := T₁.move S₂ k₂
 obtain ⟨_, it1, L1, R1⟩ := S₂.lst hp
 obtain ⟨_, it2, L2, R2⟩ := S₂.lst hq
 refine call_zip_2 L1 L2 fun h' hz hTI hTO h1 h2 hsz k0 => wpAny_pyIter_zip hz ?_
 have kk : Keep [] σ₂ s₂.heap σ₂ h' := Keep.grow k0
 have k₃ := (k₁.trans k₂).trans kk
 have hnew : ∀ b, s₂.heap.objs.size ≤ b → σ₂ b = none ∧ X.B.get? b = none ∧ b ∉ ex ∧ s₂.heap.get? b = none := fun b hb => by
   have hn := Heap.get?_none_of_le (h := s₂.heap) hb
   refine ⟨S₂.noneAt hn, ?_, S₂.exFresh hn, hn⟩
   cases q : X.B.get? b with
   | none => rfl
   | some o => rw [S₂.base b o q] at hn; cases hn
 have hp' : @LT.lt Nat instLTNat p s₂.heap.objs.size := by obtain ⟨o, ho, _⟩ := L1; exact Heap.lt_size ho
 have hq' : @LT.lt Nat instLTNat q s₂.heap.objs.size := by obtain ⟨o, ho, _⟩ := L2; exact Heap.lt_size ho
 have D : ZipApart (s₂.heap.objs.size + 4) (s₂.heap.objs.size + 2) (s₂.heap.objs.size + 3) s₂.heap.objs.size (s₂.heap.objs.size + 1) p q := by
   constructor <;> first | exact Nat.ne_of_gt (by first | assumption | decide | omega) | exact Nat.ne_of_lt (by first | assumption | decide | omega)
 have kk0 := k₁.trans k₂
 have sub : ∀ b ∈ ex, b ∈ (s₂.heap.objs.size + 3) :: ex := fun b hb => List.mem_cons_of_mem _ hb
 have nex : ∀ b, s₂.heap.objs.size ≤ b → b ≠ s₂.heap.objs.size + 3 → b ∉ (s₂.heap.objs.size + 3) :: ex := fun b hb hne hm => by
   rcases List.mem_cons.mp hm with h | h
   · exact hne h
   · exact (hnew b hb).2.2.1 h
 have exch : ∀ b ∈ (s₂.heap.objs.size + 3) :: ex, b ∉ ex → s₂.heap.get? b = none := fun b hb hn => by
   rcases List.mem_cons.mp hb with h | h
   · subst h; exact (hnew _ (by first | assumption | decide | omega)).2.2.2
   · exact absurd h hn
 have S₃ : X.St ((s₂.heap.objs.size + 3) :: ex) σ₂ { s₂ with heap := h' } := by
   have S' : X.St ex σ₂ { s₂ with heap := h' } := S₂.grow k0
   refine ⟨fun b hb => ?_, fun a o e => ((S₂.ro a o e).exch exch).keep (fun b o e _ _ _ => k0 b o e) (k0 a), S'.new, S'.base, S'.gens, S'.os⟩
   rcases List.mem_cons.mp hb with h | h
   · subst h; exact ⟨(hnew _ (by first | assumption | decide | omega)).1, (hnew _ (by first | assumption | decide | omega)).2.1, _, hTO⟩
   · exact S'.priv b h
 refine ⟨_, [s₂.heap.objs.size + 4, s₂.heap.objs.size + 3, s₂.heap.objs.size, s₂.heap.objs.size + 1, s₂.heap.objs.size + 2], (s₂.heap.objs.size + 3) :: ex, zipP (s₂.heap.objs.size + 4) (s₂.heap.objs.size + 2) (s₂.heap.objs.size + 3) s₂.heap.objs.size (s₂.heap.objs.size + 1) p q, _, _, σ₂, rfl, ?_, hR⟩
 refine ⟨S₃, sub, fun b hb hn o e => ?_, fun b hb => ?_, Itr.zip ht D List.mem_cons_self (nex _ (by first | assumption | decide | omega) (Nat.ne_of_gt (by first | assumption | decide | omega))) (nex _ (by first | assumption | decide | omega) (Nat.ne_of_lt (by first | assumption | decide | omega))) (nex _ (by first | assumption | decide | omega) (Nat.ne_of_lt (by first | assumption | decide | omega))) sub (hnew _ (by first | assumption | decide | omega)).2.2.1, ⟨hz, hTI, ⟨_, _, hTO⟩, h1, h2⟩, k₃, T.st.tk0 k₃⟩
 · rcases List.mem_cons.mp hb with h | h
   · subst h
     intro ⟨hc, hd⟩
     have un := T.st.untracked e hc hd
     have := kk0.at e un
     rw [(hnew _ (by first | assumption | decide | omega)).2.2.2] at this; exact noneSome this
   · exact absurd h hn
 · have hb' : s₂.heap.objs.size ≤ b := by
     simp only [List.mem_cons, List.not_mem_nil, or_false] at hb
     rcases hb with rfl | rfl | rfl | rfl | rfl <;> omega
   refine ⟨fun o e un => ?_, (hnew b hb').1, (hnew b hb').2.1⟩
   have := kk0.at e un
   rw [(hnew b hb').2.2.2] at this; exact noneSome this
end
end Mine.Internal
set_option tactic.hygienic true
namespace Mine.Internal
open PySem PySem.W PyProof.Rows
end Mine.Internal
set_option tactic.hygienic false
namespace Mine.Internal
open PySem PySem.W PySem.Calls PyProof.Rows PySem.SeqAt
noncomputable abbrev Ls := List (Str × V)
noncomputable def ofL (L : Ls) : Loc := fun x => L.lookup x
noncomputable def put : Ls → Str → V → Ls
 | [], x, v => [(x, v)]
 | (y, u) :: r, x, v => if x = y then (y, v) :: r else (y, u) :: put r x v
noncomputable def puts : Ls → List Str → List V → Ls
 | L, x :: xs, v :: vs => puts (put L x v) xs vs
 | L, _, _ => L
theorem ofL_set (L : Ls) (x : Str) (v : V) : (ofL L).set x v = ofL (put L x v) := by
 funext y
 unfold Loc.set ofL
 induction L with
 | nil =>
   simp only [put, List.lookup_cons, List.lookup_nil]
   by_cases e : y = x
   · subst e; simp
   · have : (y == x) = false := by simpa using e
     rw [this, if_neg e]
 | cons p r ih =>
   obtain ⟨z, u⟩ := p
   unfold put
   by_cases e : y = x
   · subst e
     rw [if_pos rfl] at ih ⊢
     by_cases e2 : y = z
     · subst e2; rw [if_pos rfl]; simp
     · rw [if_neg e2, List.lookup_cons]
       have : (y == z) = false := by simpa using e2
       rw [this]; exact ih
   · rw [if_neg e] at ih ⊢
     by_cases e2 : x = z
     · subst e2
       rw [if_pos rfl, List.lookup_cons, List.lookup_cons]
       have : (y == x) = false := by simpa using e
       rw [this]
     · rw [if_neg e2, List.lookup_cons, List.lookup_cons, ih]
theorem ofL_sets : ∀ (ns : List Str) (vs : List V) (L : Ls), (ofL L).sets ns vs = ofL (puts L ns vs)
 | [], _, L => by simp [Loc.sets, puts]
 | _ :: _, [], L => by simp [Loc.sets, puts]
 | x :: ns, v :: vs, L => by simp only [Loc.sets, puts]; rw [ofL_set, ofL_sets]
section
variable {X : Wd} {sc : Scope} {lv : Nat} {l : Loc} {L : Ls} {σ σ' σ'' : Hp} {ex ex₀ : List Addr} {A : Around} {env : Env} {s s' s'' : Shared} {pos : Pos} {rest : List Stmt} {Q : V → Hp → Prop} {R : Fi → Prop}
theorem As.nameL {x : Str} {v : V} {K : Loc → Hp → Prop} (hk : isLC sc x = true) (h : K (ofL (put L x v)) σ) : As X sc lv (ofL L) σ (.Name x pos) v K := As.name hk (by rw [ofL_set]; exact h)
theorem Ex.assignsL {ts vs : List PySem.Expr} {ns : List Str} {k k' : Nat} {p p' : Pos} (hn : namesOf ts = some ns) (hlc : ns.all (isLC sc) = true) (h : EvL X sc lv (ofL L) σ vs fun xs σ₁ => Ex X sc lv (ofL (puts L ns xs)) σ₁ rest R)
   (hl : ts.length = vs.length := by rfl) (hd : ns.Nodup := by decide) (hc : vs.all (constantsAlone 8) = true → vs.all (foldedForSure 8) = true := by decide) (hv : vs.length ≤ 1000 := by decide) :
   Ex X sc lv (ofL L) σ (.Assign [.Tuple ts k p] (.Tuple vs k' p') pos :: rest) R := Ex.assigns hn (by simpa only [ofL_sets] using h) hlc hl hd hc hv
theorem CodeV.fnL {a : Addr} {oc : Value} {od : Option Addr} {osl : Array (Option Value)} {fd : FuncData} {body : List Stmt} {vs : List V} (hK : X.K.lookup a = some ⟨oc, od, .func fd, osl⟩) (hb : fd.body = .stmts body)
   (P : PlainFn fd) (hcd : codeIn X.K fd.code fd.qualname = true) (hl : fd.params.args.length = vs.length) (h : Ex X fd.scope lv (ofL (puts [] (fd.params.args.map (·.arg)) vs)) σ body (kRet Q)) : CodeV X (lv + 1) (.ref a) vs σ Q :=
 CodeV.fn hK hb P hcd hl (by rw [show l0 = ofL [] from rfl, ofL_sets]; exact h)
theorem CallV.fnL {a : Addr} {oc : Value} {od : Option Addr} {osl : Array (Option Value)} {fd : FuncData} {body : List Stmt} {vs : List V} (hK : X.K.lookup a = some ⟨oc, od, .func fd, osl⟩) (hb : fd.body = .stmts body)
   (P : PlainFn fd) (hcd : codeIn X.K fd.code fd.qualname = true) (hl : fd.params.args.length = vs.length) (h : Ex X fd.scope lv (ofL (puts [] (fd.params.args.map (·.arg)) vs)) σ body (kRet Q)) : CallV X (lv + 1) (.ref a) vs σ Q :=
 CallV.fn hK (CodeV.fnL hK hb P hcd hl h)
theorem CallV.abs {a : Int} (h : Q (.int a.natAbs) σ) : CallV X lv (.bi "abs") [.int a] σ Q := fun ex A s fv vals G O S rf rvs => by
 obtain rfl := rf
 obtain ⟨_, rfl, ⟨t, rfl⟩⟩ := rvs.one
 refine ⟨.bi, call_abs_int fun u tk => PE.int S ?_⟩
 have : (if a < 0 then -a else a) = a.natAbs := by split <;> omega
 rw [this]; exact h
theorem CallV.lenL {p : Addr} {xs : List V} (hp : σ p = some (.list xs)) (h : Q (.int xs.length) σ) : CallV X lv (.bi "len") [.ref p] σ Q := fun ex A s fv vals G O S rf rvs => by
 obtain rfl := rf
 obtain ⟨_, rfl, rv⟩ := rvs.one
 obtain rfl := rv
 obtain ⟨ln, it, IL, R⟩ := S.lst hp
 have n := R.length
 simp only [Array.length_toList] at n
 simp only [lim] at ln
 refine ⟨.bi, len_list IL (by first | assumption | decide | omega) ?_⟩
 rw [n]
 exact PE.int S h
theorem getP.t0 {x : V} {r : List V} (h : Q x σ) : getP (.tup (x :: r)) (.int 0) σ Q := GQ.tup (by decide) rfl h
theorem getP.t1 {x y : V} {r : List V} (h : Q y σ) : getP (.tup (x :: y :: r)) (.int 1) σ Q := GQ.tup (by decide) rfl h
theorem getP.t2 {x y z : V} {r : List V} (h : Q z σ) : getP (.tup (x :: y :: z :: r)) (.int 2) σ Q := GQ.tup (by decide) rfl h
theorem getP.list {p : Addr} {xs : List V} {k : Int} {x : V} (hp : σ p = some (.list xs)) (hx : vidx xs k = some x) (h : Q x σ) : getP (.ref p) (.int k) σ Q := GQ.list hp hx h
theorem getP.dict {p : Addr} {es : List (Key × V)} {ep : Nat} {i : V} {k : Key} {x : V} (hp : σ p = some (.dict es ep)) (hi : keyOf i = some k) (hx : dlook es k = some x) (h : Q x σ) : getP (.ref p) i σ Q := GQ.dict hp hi hx h
theorem cmpP.eqI {x y : Int} (h : Q (.bool (decide (x = y))) σ) : cmpP .Eq (.int x) (.int y) σ Q := ⟨_, rfl, h⟩
theorem cmpP.neI {x y : Int} (h : Q (.bool (!decide (x = y))) σ) : cmpP .NotEq (.int x) (.int y) σ Q := ⟨_, rfl, h⟩
theorem cmpP.lt {x y : Int} (h : Q (.bool (decide (x < y))) σ) : cmpP .Lt (.int x) (.int y) σ Q := h
theorem cmpP.le {x y : Int} (h : Q (.bool (decide (x ≤ y))) σ) : cmpP .LtE (.int x) (.int y) σ Q := h
theorem cmpP.gt {x y : Int} (h : Q (.bool (decide (x > y))) σ) : cmpP .Gt (.int x) (.int y) σ Q := h
theorem upd_old {a p : Addr} {o : O} {x : O} (ha : σ a = none) (hp : σ p = some x) : upd σ a o p = some x := by
 rw [upd_ne]; exact hp
 rintro rfl; rw [ha] at hp; exact noneSome hp
end
end Mine.Internal
namespace Mine.Internal
theorem ifd {p : Prop} [Decidable p] {A B : Prop} (h1 : p → A) (h2 : ¬ p → B) : if decide p = true then A else B := by
 by_cases h : p
 · rw [if_pos (by simpa using h)]; exact h1 h
 · rw [if_neg (by simpa using h)]; exact h2 h
theorem ifn {p : Prop} [Decidable p] {A B : Prop} (h1 : ¬ p → A) (h2 : p → B) : if (!decide p) = true then A else B := by
 by_cases h : p
 · rw [if_neg (by simpa using h)]; exact h2 h
 · rw [if_pos (by simpa using h)]; exact h1 h
theorem ifb {b : Bool} {A B : Prop} (h1 : b = true → A) (h2 : b = false → B) : if b = true then A else B := by
 cases b
 · rw [if_neg (by decide)]; exact h2 rfl
 · rw [if_pos rfl]; exact h1 rfl
end Mine.Internal
namespace Mine.Internal
section
variable {K J B : Loc → Hp → Prop} {Q : Fi → Prop} {R : V → Hp → Prop} {l : Loc} {σ : Hp} {v : V}
end
end Mine.Internal
set_option tactic.hygienic true
namespace Mine.Internal
open PySem PySem.W PySem.Calls PyProof.Rows PySem.SeqAt
noncomputable def isLoc (sc : Scope) (x : Str) : Bool := match sc.names.lookup x with
 | some .local => true
 | _ => false
noncomputable def compOk (sc sc' : Scope) : Bool := (sc'.kind == .function) && sc'.names.all (fun y => y.2 != .cell && (y.2 != .free || (match sc.names.lookup y.1 with | some .cell => true | _ => false))) && decide (sc'.names.map (·.1)).Nodup &&
 (sc'.names.lookup (Str.ofString "__debug__")).isNone && (sc'.names.lookup (Str.ofString "__classdict__")).isNone
structure CompOk (sc sc' : Scope) : Prop where
 kind : sc'.kind = .function
 nocell : ∀ y ∈ sc'.names, y.2 ≠ .cell
 free : ∀ y ∈ sc'.names, y.2 = .free → sc.names.lookup y.1 = some .cell
 nd : (sc'.names.map (·.1)).Nodup
 dbg : sc'.names.lookup (Str.ofString "__debug__") = none
 cd : sc'.names.lookup (Str.ofString "__classdict__") = none
theorem compOk_ok {sc sc' : Scope} (h : compOk sc sc' = true) : CompOk sc sc' := by
 unfold compOk at h
 simp only [Bool.and_eq_true, decide_eq_true_eq, Option.isNone_iff_eq_none, List.all_eq_true, beq_iff_eq, bne_iff_ne, ne_eq, Bool.or_eq_true] at h
 obtain ⟨⟨⟨⟨h1, h2⟩, h3⟩, h4⟩, h5⟩ := h
 refine ⟨h1, fun y hy => (h2 y hy).1, fun y hy hf => ?_, h3, h4, h5⟩
 rcases (h2 y hy).2 with h | h
 · exact absurd hf h
 · split at h
   · assumption
   · exact noFalse h
noncomputable def freeL (sc' : Scope) (l : Loc) : Loc := fun x => if sc'.names.lookup x = some .free then l x else none
noncomputable def clOf (env : Env) : List (Str × NameKind) → List (Str × Addr) → List (Str × Addr)
 | [], acc => acc
 | (n, k) :: r, acc => clOf env r (if k == .free then (n, (env.cells.lookup n).getD 0) :: acc else acc)
theorem closure_is {env : Env} : ∀ {names : List (Str × NameKind)} {acc : List (Str × Addr)}, (∀ y ∈ names, y.2 = .free → (env.cells.lookup y.1).isSome = true) →
   (forIn (m := Sem) names acc fun x cs => do
     if x.2 == .free then do let c ← cellOf env x.1; pure (ForInStep.yield ((x.1, c) :: cs)) else pure (ForInStep.yield cs)) = pure (clOf env names acc)
 | [], acc, _ => by simp [clOf]
 | (n, k) :: r, acc, h => by
   rw [List.forIn_cons]
   have ih := fun acc => closure_is (env := env) (names := r) (acc := acc) fun y hy => h y (List.mem_cons_of_mem _ hy)
   unfold clOf
   by_cases hk : (k == .free) = true
   · have hs := h (n, k) List.mem_cons_self (by simpa using hk)
     obtain ⟨c, hc⟩ := Option.isSome_iff_exists.mp hs
     simp only [hk, if_true, cellOf, hc, pure_bind, Option.getD_some]
     exact ih _
   · simp only [hk, if_false, pure_bind, Bool.false_eq_true]
     exact ih _
theorem closureFor_is {env : Env} {sc' : Scope} (h : ∀ y ∈ sc'.names, y.2 = .free → (env.cells.lookup y.1).isSome = true) : closureFor sc' env = pure (clOf env sc'.names []) := by
 have := closure_is (env := env) (names := sc'.names) (acc := []) h
 unfold closureFor
 simp only [bind_pure]
 exact this
theorem clOf_mem {env : Env} : ∀ {names : List (Str × NameKind)} {acc : List (Str × Addr)} {x : Str} {c : Addr}, (x, c) ∈ clOf env names acc → (x, c) ∈ acc ∨ ((x, NameKind.free) ∈ names ∧ c = (env.cells.lookup x).getD 0)
 | [], acc, x, c, h => .inl h
 | (n, k) :: r, acc, x, c, h => by
   unfold clOf at h
   rcases clOf_mem h with h | ⟨h1, h2⟩
   · by_cases hk : (k == .free) = true
     · rw [if_pos hk] at h
       rcases List.mem_cons.mp h with e | h
       · cases e
         have : k = .free := by simpa using hk
         subst this
         exact .inr ⟨List.mem_cons_self, rfl⟩
       · exact .inl h
     · rw [if_neg hk] at h; exact .inl h
   · exact .inr ⟨List.mem_cons_of_mem _ h1, h2⟩
theorem clOf_names {env : Env} : ∀ {names : List (Str × NameKind)} {acc : List (Str × Addr)}, (names.map (·.1)).Nodup → (acc.map (·.1)).Nodup → (∀ x ∈ names.map (·.1), x ∉ acc.map (·.1)) →
   ((clOf env names acc).map (·.1)).Nodup ∧ (∀ x, (x, NameKind.free) ∈ names → x ∈ (clOf env names acc).map (·.1)) ∧ (∀ x ∈ acc.map (·.1), x ∈ (clOf env names acc).map (·.1))
 | [], acc, _, h2, _ => ⟨h2, fun x hx => by simp at hx, fun x hx => hx⟩
 | (n, k) :: r, acc, h1, h2, h3 => by
   rw [List.map_cons, List.nodup_cons] at h1
   unfold clOf
   by_cases hk : (k == .free) = true
   · rw [if_pos hk]
     obtain ⟨a, b, c⟩ := clOf_names (env := env) (names := r) (acc := (n, (env.cells.lookup n).getD 0) :: acc) h1.2 (by
       rw [List.map_cons, List.nodup_cons]; exact ⟨h3 n (by simp), h2⟩) (fun x hx => by
         rw [List.map_cons, List.mem_cons, not_or]
         exact ⟨fun e => by subst e; exact h1.1 hx, h3 x (by simp only [List.map_cons, List.mem_cons]; exact .inr hx)⟩)
     refine ⟨a, fun x hx => ?_, fun x hx => c x (by simp only [List.map_cons, List.mem_cons]; exact .inr hx)⟩
     rcases List.mem_cons.mp hx with e | hx
     · cases e; exact c n (by simp)
     · exact b x hx
   · rw [if_neg hk]
     obtain ⟨a, b, c⟩ := clOf_names (env := env) (names := r) (acc := acc) h1.2 h2 (fun x hx => h3 x (by simp only [List.map_cons, List.mem_cons]; exact .inr hx))
     refine ⟨a, fun x hx => ?_, c⟩
     rcases List.mem_cons.mp hx with e | hx
     · cases e; simp at hk
     · exact b x hx
theorem relabel_lookup {env : Env} : ∀ {names : List (Str × NameKind)} {x : Str} {k : NameKind}, names.lookup x = some k →
   (names.map fun (n, k) => if (k == NameKind.free && env.scope.kind == .function && env.kindOf n == some .cell) then (n, NameKind.cell) else (n, k)).lookup x = some k ∨
   (k = .free ∧ (names.map fun (n, k) => if (k == NameKind.free && env.scope.kind == .function && env.kindOf n == some .cell) then (n, NameKind.cell) else (n, k)).lookup x = some .cell)
 | [], x, k, h => by simp at h
 | (n, k') :: r, x, k, h => by
   have ih := @relabel_lookup env r x k
   show List.lookup x ((if (k' == NameKind.free && env.scope.kind == .function && env.kindOf n == some .cell) = true then (n, NameKind.cell) else (n, k')) :: _) = _ ∨ (_ ∧ List.lookup x ((if (k' == NameKind.free && env.scope.kind == .function && env.kindOf n == some .cell) = true then (n, NameKind.cell) else (n, k')) :: _) = _)
   cases hx : x == n with
   | true =>
     simp only [List.lookup_cons, hx] at h
     obtain rfl := Option.some.inj h
     by_cases hc : (k' == NameKind.free && env.scope.kind == .function && env.kindOf n == some .cell) = true
     · rw [if_pos hc]
       simp only [Bool.and_eq_true, beq_iff_eq] at hc
       exact .inr ⟨hc.1.1, by simp [List.lookup_cons, hx]⟩
     · rw [if_neg hc]; exact .inl (by simp [List.lookup_cons, hx])
   | false =>
     simp only [List.lookup_cons, hx] at h
     by_cases hc : (k' == NameKind.free && env.scope.kind == .function && env.kindOf n == some .cell) = true
     · rw [if_pos hc]; simp only [List.lookup_cons, hx]; exact ih h
     · rw [if_neg hc]; simp only [List.lookup_cons, hx]; exact ih h
end Mine.Internal
namespace Mine.Internal
open PySem PySem.W PySem.Calls PyProof.Rows PySem.SeqAt
section
variable {X : Wd} {sc sc' : Scope} {lv : Nat} {l : Loc} {σ σ' σ'' : Hp} {ex ex' ex₀ : List Addr} {A : Around} {env : Env} {s s' s'' : Shared} {pos : Pos}
theorem FrR.sub {B : Heap} {c : Cx} {l' : Loc} (F : FrR ex B c env l' σ s) (h : ∀ x v, l x = some v → l' x = some v) : FrR ex B c env l σ s := by
 obtain ⟨m, hm, hl⟩ := F.ns
 have dn : ∀ {x : Str}, l' x = none → l x = none := fun {x} hx => by
   cases q : l x with
   | none => rfl
   | some v => rw [h x v q] at hx; cases hx
 exact { F with
   ns := ⟨m, hm, fun x v h1 h2 => hl x v (h x v h1) h2⟩
   cells := fun x v h1 h2 => F.cells x v (h x v h1) h2
   ldbg := dn F.ldbg
   lcd := dn F.lcd }
noncomputable def cenvOf (sc' : Scope) (C : Addr) (env : Env) : Env := compEnvC sc' (clOf env sc'.names []) C env
theorem cl_facts (K : CompOk sc sc') {B : Heap} {c : Cx} (hc : c.sc = sc) (F : FrR ex B c env l σ s) :
   (∀ y ∈ sc'.names, y.2 = .free → (env.cells.lookup y.1).isSome = true) ∧ (∀ x cA, (x, cA) ∈ clOf env sc'.names [] → env.cells.lookup x = some cA) ∧ (∀ x, (x, NameKind.free) ∈ sc'.names → (clOf env sc'.names []).lookup x = env.cells.lookup x) ∧
   ((clOf env sc'.names []).map (·.1)).Nodup := by
 have h1 : ∀ y ∈ sc'.names, y.2 = .free → (env.cells.lookup y.1).isSome = true := fun y hy hf => by
   obtain ⟨cA, h⟩ := F.cellsOk y.1 (by rw [hc]; exact K.free y hy hf)
   rw [h]; rfl
 obtain ⟨n1, n2, _⟩ := clOf_names (env := env) (names := sc'.names) (acc := []) K.nd (by simp) (by simp)
 have h2 : ∀ x cA, (x, cA) ∈ clOf env sc'.names [] → env.cells.lookup x = some cA := fun x cA hx => by
   rcases clOf_mem hx with h | ⟨h, e⟩
   · cases h
   · have := h1 _ h rfl
     obtain ⟨c, hc⟩ := Option.isSome_iff_exists.mp this
     rw [e, hc]; rfl
 refine ⟨h1, h2, fun x hx => ?_, n1⟩
 obtain ⟨⟨y, cA⟩, hm, e⟩ := List.mem_map.mp (n2 x hx)
 obtain rfl := e
 rw [lookup_of_mem n1 hm, h2 _ _ hm]
theorem FrR.comp (K : CompOk sc sc') (F : FrR ex X.B (X.cx sc lv) env l σ s) {C : Addr} {m : Str → Option Value} (hC : s.heap.Ns C m) (hu : σ C = none ∧ X.B.get? C = none) : FrR ex X.B (X.cx sc' lv) (cenvOf sc' C env) (freeL sc' l) σ s := by
 obtain ⟨c1, c2, c3, c4⟩ := cl_facts K rfl F
 have fr : ∀ {x : Str} {v : V}, freeL sc' l x = some v → (x, NameKind.free) ∈ sc'.names ∧ l x = some v := fun {x v} h => by
   unfold freeL at h
   split at h
   · rename_i e; exact ⟨mem_of_lookup e, h⟩
   · exact noneSome h
 have kind : ∀ {x : Str}, (x, NameKind.free) ∈ sc'.names → (cenvOf sc' C env).kindOf x = some .free ∨ (cenvOf sc' C env).kindOf x = some .cell := fun {x} h =>
   (relabel_lookup (env := env) (lookup_of_mem K.nd h)).imp id fun h => h.2
 have dn : ∀ {x : Str}, sc'.names.lookup x = none → freeL sc' l x = none := fun {x} h => by unfold freeL; rw [h]; rfl
 exact {
   kind := K.kind
   knd := fun x k hx hk => (relabel_lookup (env := env) hx).resolve_right fun h => hk h.1
   globals := F.globals
   builtins := F.builtins
   ns := ⟨m, hC, fun x v h1 h2 => by
     rcases kind (fr h1).1 with e | e <;> rw [h2] at e <;> cases e⟩
   cells := fun x v h1 h2 => by
     obtain ⟨hm, hl⟩ := fr h1
     have kx : sc.names.lookup x = some .cell := K.free _ hm rfl
     have ke := F.knd x _ kx (by decide)
     obtain ⟨_, cA, val, h3, h4, h5⟩ := F.cells x v hl (by rw [ke]; decide)
     exact ⟨(kind hm).symm.imp id id, cA, val, by rw [← h3]; exact c3 x hm, h4, h5⟩
   cellsOk := fun x hx => absurd rfl (K.nocell _ (mem_of_lookup hx))
   cellsAre := fun x cA hx => F.cellsAre x cA (mem_of_lookup (c2 x cA hx))
   apart := by
     have : ∀ p ∈ clOf env sc'.names [], p ∈ env.cells := fun p hp => mem_of_lookup (c2 p.1 p.2 hp)
     have nd := c4
     show List.Pairwise (fun x y => x.2 ≠ y.2) (clOf env sc'.names [])
     revert this nd
     generalize clOf env sc'.names [] = cl
     intro this nd
     induction cl with
     | nil => exact List.Pairwise.nil
     | cons p r ih =>
       rw [List.map_cons, List.nodup_cons] at nd
       refine List.pairwise_cons.mpr ⟨fun q hq e => ?_, ih (fun q hq => this q (List.mem_cons_of_mem _ hq)) nd.2⟩
       have h1 := this p List.mem_cons_self
       have h2 := this q (List.mem_cons_of_mem _ hq)
       have : p.1 = q.1 := name_of_addr F.apart (n := p.1) (n' := q.1) (c := p.2) h1 (by rw [e]; exact h2)
       exact nd.1 (this ▸ List.mem_map_of_mem hq)
   loc := hu
   nodbg := K.dbg
   ldbg := dn K.dbg
   nocd := K.cd
   lcd := dn K.cd }
theorem Wd.At.storeL {x : Str} {v : V} {val : Value} (T : X.At sc lv ex A env l σ s) (hk : sc.names.lookup x = some .local) (hv : RV ex s.heap v val) {P : Unit → Shared → Prop}
   (hP : ∀ s', X.At sc lv ex A env (l.set x v) σ s' → Keep [env.locals] σ s.heap σ s'.heap → P () s') : wpAny X.M A (storeName env x val) P F0 s :=
 store_local T.st T.fr hk hv fun s' F' S' k => hP s' ⟨T.good, T.ok, S', F'⟩ k
theorem Wd.At.tkL (T : X.At sc lv ex A env l σ s) {h' : Heap} (k : Keep [env.locals] σ s.heap σ' h') : TK' ex s.heap h' := T.st.tk k fun b hb => own_notTup T.fr b (by simp only [List.mem_singleton] at hb; subst hb; exact List.mem_cons_self)
noncomputable def tgtNames : PySem.Expr → Option (List Str)
 | .Name x _ => some [x]
 | .Tuple ts _ _ => namesOf ts
 | _ => none
noncomputable def tgtVals (e : PySem.Expr) (v : V) : Option (List V) := match e with
 | .Name _ _ => some [v]
 | .Tuple _ _ _ => (match v with
   | .tup vs => some vs
   | _ => none)
 | _ => none
inductive TgtIs : PySem.Expr → List Str → V → List V → Prop
 | name (x : Str) (p : Pos) (v : V) : TgtIs (.Name x p) [x] v [v]
 | tup {ts : List PySem.Expr} {ns : List Str} (k : Nat) (p : Pos) (vs : List V) (h : NamesAre ts ns) : TgtIs (.Tuple ts k p) ns (.tup vs) vs
theorem tgtNames.inv {tgt : PySem.Expr} {ns : List Str} {v : V} {vs : List V} (hn : tgtNames tgt = some ns) (hv : tgtVals tgt v = some vs) : TgtIs tgt ns v vs := by
 cases tgt with
 | Name x p => obtain rfl := Option.some.inj hn; obtain rfl := Option.some.inj hv; exact .name x p v
 | Tuple ts k p =>
   cases v with
   | tup l => obtain rfl := Option.some.inj hv; exact .tup k p l (namesOf.inv hn)
   | _ => exact noneSome hv
 | _ => exact noneSome hn
theorem NamesAre.stores {P : Unit → Shared → Prop} {ts : List PySem.Expr} {ns : List Str} (h : NamesAre ts ns) : ∀ {vs : List V} {l : Loc} {s : Shared} {vals : List Value}, ns.length = vs.length → (∀ n ∈ ns, sc.names.lookup n = some .local) → X.At sc lv ex A env l σ s → RVs ex s.heap vs vals →
   (∀ s', X.At sc lv ex A env (l.sets ns vs) σ s' → Keep [env.locals] σ s.heap σ s'.heap → P () s') → wpAny X.M A (assignInOrder ((assignEach ts env).map (·.2)) vals) P F0 s := by
 induction h with
 | nil =>
   intro vs l s vals hl _ T R hP
   cases vs with
   | nil => unfold RVs at R; obtain rfl := R; exact wpAny_assignInOrder_none (hP s T (Keep.refl _ _ _))
   | cons => exact nomatch hl
 | cons x p h ih =>
   intro vs l s vals hl hk T R hP
   cases vs with
   | nil => exact nomatch hl
   | cons v vs =>
     unfold RVs at R
     obtain ⟨val, r', rfl, rv, rvs⟩ := R
     refine wpAny_assignInOrder_more (wpAny_assign_Name (T.storeL (hk _ List.mem_cons_self) rv fun s' T' k' => ?_))
     exact ih (Nat.succ.inj hl) (fun m hm => hk m (List.mem_cons_of_mem _ hm)) T' (rvs.keep (T.tkL k')) fun s'' T'' k'' => hP s'' T'' (k'.trans k'')
theorem storeT {tgt : PySem.Expr} {ns : List Str} {vs : List V} {v : V} {val : Value} {P : Unit → Shared → Prop} (hn : tgtNames tgt = some ns) (hv : tgtVals tgt v = some vs) (hl : ns.length = vs.length) (hk : ∀ n ∈ ns, sc.names.lookup n = some .local) (T : X.At sc lv ex A env l σ s) (rv : RV ex s.heap v val)
   (hP : ∀ s', X.At sc lv ex A env (l.sets ns vs) σ s' → Keep [env.locals] σ s.heap σ s'.heap → P () s') : wpAny X.M A (assign tgt env val) P F0 s := by
 have q := tgtNames.inv hn hv
 clear hn hv
 induction q with
 | name x p v => exact wpAny_assign_Name (T.storeL (hk _ List.mem_cons_self) rv hP)
 | tup k p vs na =>
   unfold RV at rv
   obtain ⟨a, items, rfl, IT, nx, R⟩ := rv
   refine wpAny_assign_Tuple T.ok.1 (show s.heap.IsTuple a items from IT) (by rw [assignEach_len, ← na.length, hl, ← R.length, Array.length_toList]) (assignEach_nostar env na.nostar) fun h' e => ?_
   obtain ⟨T', k'⟩ := T.ext (tk := s.toks) e
   refine na.stores hl hk T' (R.keep (T.tk (s' := { s with heap := h', toks := s.toks }) k')) fun s'' T'' k'' => hP s'' T'' (Keep.trans ?_ k'')
   exact k'.weaken (by intro _ hb; cases hb) fun b hb _ => T.fr.alive b (by obtain rfl := List.mem_singleton.mp hb; exact List.mem_cons_self)
end
end Mine.Internal
namespace Mine.Internal
open PySem PySem.W PySem.Calls PyProof.Rows PySem.SeqAt
noncomputable def EvTs (X : Wd) (sc : Scope) (lv : Nat) (l : Loc) : List PySem.Expr → Hp → (Bool → Hp → Prop) → Prop
 | [], σ, K => K true σ
 | c :: r, σ, K => EvT X sc lv l σ c fun b σ' => if b then EvTs X sc lv l r σ' K else K false σ'
noncomputable def CompI (X : Wd) (sc' : Scope) (lv : Nat) (lin : Loc) (elt tgt : PySem.Expr) (ifs : List PySem.Expr) (ns : List Str) (Q : V → Hp → Prop) (items : List V) (src : Hp → Prop) (σ₁ : Hp) : Prop :=
 ∃ I : Nat → List V → Hp → Prop, I 0 [] σ₁ ∧
   (∀ k out σ x, I k out σ → items[k]? = some x → src σ ∧ ∃ vs, tgtVals tgt x = some vs ∧ ns.length = vs.length ∧
     EvTs X sc' lv (lin.sets ns vs) ifs σ fun ok σ' => if ok then Ev X sc' lv (lin.sets ns vs) σ' elt (fun y σ₃ => out.length < lim ∧ I (k + 1) (out ++ [y]) σ₃) else I (k + 1) out σ') ∧
   (∀ out σ, I items.length out σ → src σ ∧ ∀ c, σ c = .none → Q (.ref c) (upd σ c (.list out)))
section
variable {X : Wd} {sc sc' : Scope} {lv : Nat} {l : Loc} {σ σ' σ'' : Hp} {ex ex' ex₀ : List Addr} {A : Around} {env : Env} {s s' s'' : Shared} {pos : Pos} {Q : V → Hp → Prop}
theorem tests_false {env : Env} : ∀ (ifs : List PySem.Expr), (forIn (m := Sem) ifs false fun c r => if r = true then do let ok ← isTrue c env (eval c env); pure (ForInStep.yield ok) else pure (ForInStep.yield r)) = pure false
 | [] => rfl
 | c :: r => by
   rw [List.forIn_cons, if_neg (by decide), pure_bind]
   exact tests_false r
theorem tests_ok : ∀ {ifs : List PySem.Expr} {σ : Hp} {s : Shared} {K : Bool → Hp → Prop}, EvTs X sc lv l ifs σ K → X.At sc lv ex A env l σ s →
   wpAny X.M A (forIn ifs true fun c r => if r = true then do let ok ← isTrue c env (eval c env); pure (ForInStep.yield ok) else pure (ForInStep.yield r)) (PT ex X.prog X.w X.B X.os σ s K) F0 s
 | [], σ, s, K, h, T => wpAny_pure ⟨σ, T.st, Keep.refl _ _ _, h⟩
 | c :: r, σ, s, K, h, T => by
   rw [List.forIn_cons, if_pos rfl]
   refine wpAny_bind (wpAny_bind (wpAny_mono (h ex A env s T _ rfl) (fun b s₁ ⟨σ₁, S₁, k₁, q⟩ => wpAny_pure ?_) fun _ _ e => e))
   cases b with
   | true => exact wpT k₁ (tests_ok q (T.move S₁ k₁))
   | false =>
     show wpAny _ _ (forIn r false _) _ _ _
     rw [tests_false]
     exact wpAny_pure ⟨σ₁, S₁, k₁, q⟩
theorem codeAny_compLoop_mine {elt target iter : PySem.Expr} {ifs : List PySem.Expr} {scope : Scope} {pos : Pos} {it acc : Value} {env : Env} {prog : Program} {w : World} {R : Result → Shared → Prop} (I : Nat → Shared → Prop)
   (turn : ∀ n s, I n s → wpAny (model prog w) A (pyNext it) (fun r s₁ => match r with
     | none => R (.ok .next) s₁
     | some v => wpAny (model prog w) A (letOwnedTupleGo target it v) (fun _ s₁' => wpAny (model prog w) A (PySem.assign target env v) (fun _ s₂ =>
         wpAny (model prog w) A (forIn ifs true fun c r => if r = true then do let ok ← isTrue c env (eval c env); pure (ForInStep.yield ok) else pure (ForInStep.yield r)) (fun ok s₃ =>
           if ok = true then wpAny (model prog w) A (eval elt env) (fun x s₄ =>
             wpAny (model prog w) A (call (.builtin "list.append") [acc, x]) (fun _ s₅ => ∃ m, m < n ∧ I m s₅) F0 s₄) F0 s₃
           else ∃ m, m < n ∧ I m s₃) F0 s₂) F0 s₁') F0 s₁) F0 s)
   (n : Nat) (h : I n s) :
   codeAny (model prog w) A (.compLoop (.ListComp elt [⟨target, iter, ifs, 0⟩] scope pos) 0 it acc env) R s := by
 refine codeAny_loop rfl I (fun n s hI => ?_) n h
 show wpAny _ A ((compTurn (.ListComp elt [⟨target, iter, ifs, 0⟩] scope pos) 0 it acc env).onRaise (fun x => do noteFrame x env; theTreesLotGoes x)) _ _ s
 refine wpAny_noted ?_
 rw [compTurn_list]
 refine wpAny_bind (wpAny_standAt (wpAny_bind (wpAny_mono (turn n s hI) (fun r s₁ h₁ => ?_) fun _ _ h' => h'.elim)))
 cases r with
 | none => exact wpAny_pure h₁
 | some v =>
   refine wpAny_bind (wpAny_mono h₁ (fun _ s₁' h₁' => ?_) fun _ _ h' => h'.elim)
   refine wpAny_bind (wpAny_mono h₁' (fun _ s₂ h₂ => wpAny_bind (wpAny_mono h₂ (fun ok s₃ h₃ => ?_) fun _ _ h' => h'.elim)) fun _ _ h' => h'.elim)
   cases ok with
   | false => exact wpAny_pure ⟨rfl, h₃⟩
   | true =>
     exact wpAny_bind (wpAny_bind (wpAny_mono h₃ (fun x s₄ h₄ => wpAny_bind (wpAny_mono h₄ (fun _ s₅ h₅ => wpAny_pure (wpAny_pure ⟨rfl, h₅⟩)) fun _ _ h' => h'.elim)) fun _ _ h' => h'.elim))
theorem sets_keep {ns : List Str} {vs : List V} {l : Loc} {x : Str} (h : x ∉ ns) : l.sets ns vs x = l x := by
 induction ns generalizing l vs with
 | nil => simp [Loc.sets]
 | cons n ns ih =>
   cases vs with
   | nil => simp [Loc.sets]
   | cons v vs =>
     simp only [List.mem_cons, not_or] at h
     simp only [Loc.sets]
     rw [ih h.2]
     unfold Loc.set
     rw [if_neg h.1]
theorem ar_c {b D C : Nat} (h : C = D + 1) (hb : b < D) : b < C := by omega
theorem ar_d {D C : Nat} (h : C = D + 1) : D < C := by omega
theorem ar_sz {a b : Nat} (h : a < lim) (e : a = b) : b ≤ sizeLine := by rw [sizeLine_eq]; simp only [lim] at h; omega
theorem comp_run {elt tgt iter : PySem.Expr} {ifs : List PySem.Expr} {ns : List Str} {p0 : Pos} {use : Option (Value → Sem Unit)} {P : Value → Shared → Prop} (hc : compOk sc sc' = true) (T : X.At sc lv ex A env l σ s)
   (hs : ∀ env x, foldedSetIterable iter env x = pure x) (hn : tgtNames tgt = some ns) (hk : ns.all (isLoc sc') = true)
   (h : EvI X sc lv l σ iter tgt fun items src σ₁ => CompI X sc' lv (freeL sc' l) elt tgt ifs ns Q items src σ₁)
   (hP : ∀ D C s' σ' m, Q (.ref D) σ' → X.At sc lv ex A env l σ' s' → Keep [] σ s.heap σ' s'.heap → s'.heap.Ns C m → σ' C = none → X.B.get? C = none → C ∉ own env → (∀ o, s.heap.get? C = some o → σ C ≠ none) → C ∉ ex →
     compPost X.M A F0 use P (.ref D) C (.ok .next) s') :
   wpAny X.M A (comprehension (.ListComp elt [⟨tgt, iter, ifs, 0⟩] sc' pos) sc' env p0 (newList []) false (eval iter env) use) P F0 s := by
 haveI := neSh
 haveI := neA
 haveI := neWd
 revert X sc sc' lv l σ ex A env s pos Q elt tgt iter ifs ns p0 use P
 refine no_implicit_lambda% letI X := _; letI sc := _; letI sc' := _; letI lv := _; letI l := _; letI σ := _; letI ex := _; letI A := _; letI env := _; letI s := _; letI pos := _; letI Q := _; letI elt := _; letI tgt := _; letI iter := _; letI ifs := _; letI ns := _; letI p0 := _; letI use := _; letI P := _; epsX20 1 X sc sc' lv l σ ex A env s pos Q elt tgt iter ifs ns p0 use P rfl ?_
 intro hc T hs hn hk h hP
 have K := compOk_ok hc
 obtain ⟨c1, c2, c3, c4⟩ := cl_facts K rfl T.fr
 have hloc : ∀ n ∈ ns, sc'.names.lookup n = some .local := fun n hm => by
   have := List.all_eq_true.mp hk n hm
   unfold isLoc at this
   split at this
   · assumption
   · exact noFalse this
 refine wpAny_comprehension_free (g := ⟨tgt, iter, ifs, 0⟩) (gs := []) rfl (hs env) (closureFor_is c1) K.kind (fun y hy hl => lookup_of_mem K.nd (by rw [← hl]; exact hy)) ?_
 refine wpAny_mono (h ex A env s T) (fun x s₁ h₁ => wpAny_mono h₁ (fun it s₂ h₂ => ?_) fun _ _ e => e) fun _ _ e => e
 obtain ⟨ita, fp, ex', PI, items, src, σ₂, rfl, It, I, hI0, turn, fin⟩ := h₂
 revert I; revert s₂ ita fp ex' PI items src σ₂; refine letI s₂ := _; letI ita := _; letI fp := _; letI ex' := _; letI PI := _; letI items := _; letI src := _; letI σ₂ := _; epsX8 2 s₂ ita fp ex' PI items src σ₂ rfl ?_; set_option tactic.hygienic false in intros
 revert I; refine letI I := _; epsX1 3 I rfl ?_; set_option tactic.hygienic false in intros
 refine wpAny_newObj_type (wpAny_newFunctionEnv (K.nocell) (by intro y hy; simp at hy) (fun h₄ hns₄ hsb₄ => ?_) K.kind)
 dsimp only at hns₄ hsb₄ ⊢
 -- places
 generalize hD : s₂.heap.objs.size = D at hns₄ hsb₄ ⊢
 generalize hH : s₂.heap.push { cls := .type "list", data := .seq ([] : List Value).toArray } = H at hns₄ hsb₄ ⊢
 have hCs : H.objs.size = D + 1 := by rw [← hH, Heap.size_push, hD]
 generalize hC : H.objs.size = C at hns₄ hsb₄ hCs ⊢
 revert C; revert H; revert D; revert h₄; refine letI h₄ := _; epsX1 4 h₄ rfl ?_; set_option tactic.hygienic false in intros
 revert C; revert H; revert D; refine letI D := _; epsX1 5 D rfl ?_; set_option tactic.hygienic false in intros
 revert C; revert H; refine letI H := _; epsX1 6 H rfl ?_; set_option tactic.hygienic false in intros
 revert C; refine letI C := _; epsX1 7 C rfl ?_; set_option tactic.hygienic false in intros
 have old : ∀ b o, s₂.heap.get? b = some o → h₄.get? b = some o := fun b o e => by
   have hb : @LT.lt Nat instLTNat b D := by have := Heap.lt_size e; rw [hD] at this; exact this
   exact hsb₄.extBut b o (Nat.ne_of_lt (ar_c hCs hb)) (Heap.get?_push_of_some _ (hH ▸ Heap.get?_push_of_some _ e))
 have hnew : ∀ b, @LE.le Nat instLENat D b → σ₂ b = none ∧ X.B.get? b = none ∧ b ∉ ex' ∧ s₂.heap.get? b = none := fun b hb => by
   have hn := Heap.get?_none_of_le (h := s₂.heap) (a := b) (by rw [hD]; exact hb)
   refine ⟨It.st.noneAt hn, ?_, It.st.exFresh hn, hn⟩
   cases q : X.B.get? b with
   | none => rfl
   | some o => rw [It.st.base b o q] at hn; cases hn
 have nal : ∀ b, @LE.le Nat instLENat D b → ∀ o, s.heap.get? b = some o → σ b ≠ none := fun b hb o e n => by
   have := It.keep.at e n
   rw [(hnew b hb).2.2.2] at this; exact noneSome this
 have fpLt : ∀ b ∈ fp, @LT.lt Nat instLTNat b D := fun b hb => by
   obtain ⟨o, e⟩ := It.itr.alive _ _ It.at0 b hb
   have := Heap.lt_size e; rw [hD] at this; exact this
 have nfp : ∀ b ∈ own env, b ∉ fp := fun b hb hf => by
   obtain ⟨o, e⟩ := T.fr.alive b hb
   exact (It.fps b hf).1 o e (T.fr.un b hb)
 have ownLt : ∀ b ∈ own env, @LT.lt Nat instLTNat b D := fun b hb => by
   obtain ⟨o, e⟩ := T.fr.alive b hb
   have := Heap.lt_size (It.keep.at e (T.fr.un b hb)); rw [hD] at this; exact this
 have hDC : D ≠ C := Nat.ne_of_lt (ar_d hCs)
 have hCD : D ≤ C := Nat.le_of_lt (ar_d hCs)
 have hDf : D ∉ fp := fun hm => Nat.lt_irrefl _ (fpLt D hm)
 have hCf : C ∉ fp := fun hm => Nat.not_lt.mpr hCD (fpLt C hm)
 have hCown : C ∉ own env := fun hm => Nat.not_lt.mpr hCD (ownLt C hm)
 have k₄ : Keep [] σ s.heap σ₂ h₄ := It.keep.trans (Keep.grow old)
 have t₄ : TK' ex s.heap h₄ := It.tk.trans fun b o e _ _ _ => old b o e
 have S₄ : X.St ex' σ₂ { s₂ with heap := h₄, toks := s₂.toks + ([] : List (Str × Value)).length } := It.st.grow old
 have F₄ : FrR ex' X.B (X.cx sc lv) env l σ₂ { s₂ with heap := h₄, toks := s₂.toks + ([] : List (Str × Value)).length } :=
   (T.fr.exchT It.fresh).to (t₄.wider It.sub) (fun b hb o e => (k₄.at e (T.fr.un b hb))) (fun b hb => let ⟨o, e⟩ := T.fr.alive b hb; k₄.un e (T.fr.un b hb))
 have Fc := F₄.comp K hns₄ ⟨(hnew C hCD).1, (hnew C hCD).2.1⟩
 have hD₄ : h₄.get? D = some { cls := .type "list", data := .seq ([] : List Value).toArray } :=
   hsb₄.extBut _ _ hDC (Heap.get?_push_of_some _ (by rw [← hH, ← hD]; exact Heap.get?_push_size _ rfl))
 have ownC : ∀ b ∈ own (cenvOf sc' C env), b = C ∨ b ∈ own env := fun b hb => by
   rcases List.mem_cons.mp hb with h | h
   · exact .inl h
   · obtain ⟨⟨x, cA⟩, hx, rfl⟩ := List.mem_map.mp h
     exact .inr (List.mem_cons_of_mem _ (List.mem_map.mpr ⟨(x, cA), mem_of_lookup (c2 x cA hx), rfl⟩))
 have nfpC : ∀ b ∈ own (cenvOf sc' C env), b ∉ fp := fun b hb => (ownC b hb).elim (fun h => h ▸ hCf) (nfp b)
 have hDown : D ∉ own (cenvOf sc' C env) := fun hm => (ownC D hm).elim hDC fun h => Nat.lt_irrefl _ (ownLt D h)
 have via : ∀ {own : List Addr} {σ₅ σ₆ : Hp} {h₅ h₆ : Heap}, Keep [] σ s.heap σ₅ h₅ → Keep own σ₅ h₅ σ₆ h₆ → (∀ b ∈ own, ∀ o, s.heap.get? b = some o → σ b ≠ none) → Keep [] σ s.heap σ₆ h₆ := fun k k' hn =>
   ⟨fun b o e n _ => let ⟨e', n'⟩ := k.1 b o e n (by simp); k'.1 b o e' n' fun hm => hn b hm o e n, fun _ h => nomatch h⟩
 have linsub : ∀ (vs : List V) x v, freeL sc' l x = some v → (freeL sc' l).sets ns vs x = some v := fun vs x v hx => by
   rw [sets_keep]; exact hx
   intro hm
   have := hloc x hm
   unfold freeL at hx
   rw [this] at hx; simp at hx
 have loop : ∀ s₅ : Shared, s₅ = { s₂ with heap := h₄, toks := s₂.toks + ([] : List (Str × Value)).length } →
     codeAny X.M A (.compLoop (.ListComp elt [⟨tgt, iter, ifs, 0⟩] sc' pos) 0 (.ref ita) (.ref D) (cenvOf sc' C env)) (compPost X.M A F0 use P (.ref D) C) s₅ := by
   rintro s₅ rfl
   refine codeAny_compLoop_mine (fun n s' => ∃ k out σ' ys, n + k = items.length ∧ I k out σ' ∧ X.At sc' lv ex' A (cenvOf sc' C env) (freeL sc' l) σ' s' ∧ (∀ b ∈ fp, σ' b = none ∧ X.B.get? b = none) ∧ PI k s'.heap ∧
     s'.heap.PlainList D ys ∧ RVs ex' s'.heap out ys.toList ∧ out.length ≤ lim ∧ σ' D = none ∧ Keep [] σ s.heap σ' s'.heap) ?_ items.length
     ⟨0, [], σ₂, #[], Nat.add_zero _, hI0, ⟨T.good, T.ok, S₄, Fc⟩, fun b hb => (It.fps b hb).2, It.itr.frame _ _ _ It.at0 (fun b _ o e => old b o e) (fun b o e _ _ _ => old b o e), ⟨_, hD₄⟩, RVs.nil, by simp, (hnew D (Nat.le_refl _)).1, k₄⟩
   rintro n s₆ ⟨k, out, σ₆, ys, hnk, hI, T₆, hfp, hPI, hL, hR, hlen, hDn, k₆⟩
   revert n; revert s₆ k out σ₆ ys; refine letI s₆ := _; letI k := _; letI out := _; letI σ₆ := _; letI ys := _; epsX5 8 s₆ k out σ₆ ys rfl ?_; set_option tactic.hygienic false in intros
   have frTo : ∀ {s₇ : Shared}, Keep fp σ₆ s₆.heap σ₆ s₇.heap → TK' ex' s₆.heap s₇.heap → FrR ex' X.B (X.cx sc' lv) (cenvOf sc' C env) (freeL sc' l) σ₆ s₇ := fun k₇ t₇ =>
     T₆.fr.to t₇ (fun b hb o e => (k₇.1 b o e (T₆.fr.un b hb) (nfpC b hb)).1) (fun b hb => T₆.fr.un b hb)
   have fpn : ∀ b ∈ fp, ∀ o, s.heap.get? b = some o → σ b ≠ none := fun b hb => (It.fps b hb).1
   cases n with
   | zero =>
     have hk0 : k = items.length := ar_z hnk
     obtain ⟨hsrc, q⟩ := fin out σ₆ (hk0 ▸ hI)
     refine wpAny_mono (It.itr.done T.ok.1 T₆.st hfp hsrc (hk0 ▸ hPI)) ?_ fun _ _ e => e.elim
     rintro r s₇ ⟨hr, S₇, k₇, t₇⟩
     subst hr
     revert s₇; refine letI s₇ := _; epsX1 9 s₇ rfl ?_; set_option tactic.hygienic false in intros
     have F₇ := frTo k₇ t₇
     have kk := via k₆ k₇ fpn
     have hL₇ : s₇.heap.PlainList D ys := hL.at fun o e => (k₇.1 D o e hDn hDf).1
     have hR₇ : RVs ex s₇.heap out ys.toList := (hR.keep t₇).exchT fun b hb hn => absurd (It.sub b hb) hn
     have hDex : D ∉ ex := fun h => (hnew D (Nat.le_refl _)).2.2.1 (It.sub D h)
     have hCex : C ∉ ex := fun h => (hnew C hCD).2.2.1 (It.sub C h)
     have S₈ : X.St ex (upd σ₆ D (.list out)) s₇ := St.adopt (X := X) (s := s₇) (tk := s₇.toks) (dr := s₇.drawn) (h' := s₇.heap) S₇ hDn (hnew D (Nat.le_refl _)).2.1 hDex (fun ob e q => by
         obtain ⟨n', e'⟩ := hL₇; rw [e'] at e; obtain rfl := Option.some.inj e; exact absurd (show Value.type "list" = Value.type "tuple" from q.1) (by decide)) (fun _ _ => rfl) fun _ => ⟨hlen, ys, hL₇, hR₇⟩
     have k₈ : Keep [] σ s.heap (upd σ₆ D (.list out)) s₇.heap := ⟨fun b o e n _ => by
       obtain ⟨e', n'⟩ := kk.1 b o e n (by simp)
       have : b ≠ D := by rintro rfl; exact nal _ (Nat.le_refl _) o e n
       exact ⟨e', (upd_ne _ _ this).trans n'⟩, fun _ h => nomatch h⟩
     have T₈ : X.At sc lv ex A env l (upd σ₆ D (.list out)) s₇ := T.move S₈ k₈
     obtain ⟨m, hm, _⟩ := F₇.ns
     have hCn : σ₆ C = none := T₆.fr.loc.1
     exact hP D C s₇ _ m (q D hDn) T₈ k₈ hm ((upd_ne _ _ hDC.symm).trans hCn) (hnew C hCD).2.1 hCown (nal C hCD) hCex
   | succ n =>
     revert n; refine letI n := _; epsX1 10 n rfl ?_; set_option tactic.hygienic false in intros
     have hlt : k < items.length := ar_lt hnk
     obtain ⟨y0, hy0⟩ : ∃ y, items[k]? = some y := ⟨_, List.getElem?_eq_getElem hlt⟩
     revert y0; refine letI y0 := _; epsX1 11 y0 rfl ?_; set_option tactic.hygienic false in intros
     obtain ⟨hsrc, vs, hvs, hnl, q⟩ := turn k out σ₆ y0 hI hy0
     revert vs; refine letI vs := _; epsX1 12 vs rfl ?_; set_option tactic.hygienic false in intros
     refine wpAny_mono (It.itr.item T.ok.1 T₆.st hfp hsrc hPI hy0) ?_ fun _ _ e => e.elim
     rintro r s₇ ⟨v, hr, h₇⟩
     subst hr
     revert s₇ v; refine letI s₇ := _; letI v := _; epsX2 13 s₇ v rfl ?_; set_option tactic.hygienic false in intros
     refine wpAny_mono h₇ ?_ fun _ _ e => e.elim
     rintro _ s₈ ⟨S₈, rv, P₈, k₈, t₈⟩
     revert s₈; refine letI s₈ := _; epsX1 14 s₈ rfl ?_; set_option tactic.hygienic false in intros
     have T₈ : X.At sc' lv ex' A (cenvOf sc' C env) (freeL sc' l) σ₆ s₈ := ⟨T.good, T.ok, S₈, frTo k₈ t₈⟩
     have kk₈ := via k₆ k₈ fpn
     have hL₈ : s₈.heap.PlainList D ys := hL.at fun o e => (k₈.1 D o e hDn hDf).1
     have hR₈ := hR.keep t₈
     refine storeT hn hvs hnl hloc T₈ rv fun s₉ T₉ k₉ => ?_
     revert s₉; refine letI s₉ := _; epsX1 15 s₉ rfl ?_; set_option tactic.hygienic false in intros
     have t₉ := T₈.tkL k₉
     have kk₉ := via kk₈ k₉ (fun b hb => by
       have hb' : b = C := List.mem_singleton.mp hb
       rw [hb']; exact nal C hCD)
     have hL₉ : s₉.heap.PlainList D ys := hL₈.at fun o e => (k₉.1 D o e hDn (by simp only [List.mem_singleton]; exact hDC)).1
     have hR₉ := hR₈.keep t₉
     have P₉ : PI (k + 1) s₉.heap := It.itr.frame _ _ _ P₈ (fun b hb o e => (k₉.1 b o e (hfp b hb).1 (by simp only [List.mem_singleton]; rintro rfl; exact hCf hb)).1) t₉
     refine wpAny_mono (tests_ok q T₉) ?_ fun _ _ e => e.elim
     rintro ok s₁₀ ⟨σ₁₀, S₁₀, k₁₀, q₁₀⟩
     revert ok; revert s₁₀ σ₁₀; refine letI s₁₀ := _; letI σ₁₀ := _; epsX2 16 s₁₀ σ₁₀ rfl ?_; set_option tactic.hygienic false in intros
     have T₁₀ := T₉.move S₁₀ k₁₀
     have t₁₀ := T₉.tk k₁₀
     have kk₁₀ := kk₉.trans k₁₀
     obtain ⟨nD, hoD⟩ := id hL₉
     revert ok; revert nD; refine letI nD := _; epsX1 17 nD rfl ?_; set_option tactic.hygienic false in intros
     have hL₁₀ : s₁₀.heap.PlainList D ys := hL₉.at fun o e => k₁₀.at e hDn
     have hD₁₀ : σ₁₀ D = none := k₁₀.un hoD hDn
     have hR₁₀ := hR₉.keep t₁₀
     have P₁₀ : PI (k + 1) s₁₀.heap := It.itr.frame _ _ _ P₉ (fun b hb o e => k₁₀.at e (hfp b hb).1) t₁₀
     have hfp₁₀ : ∀ b ∈ fp, σ₁₀ b = none ∧ X.B.get? b = none := fun b hb => by
       obtain ⟨o, e⟩ := It.itr.alive _ _ P₉ b hb
       exact ⟨k₁₀.un e (hfp b hb).1, (hfp b hb).2⟩
     cases ok with
     | false =>
       simp only [Bool.false_eq_true, if_false] at q₁₀ ⊢
       exact ⟨n, Nat.lt_succ_self n, k + 1, out, σ₁₀, ys, ar_s hnk, q₁₀, ⟨T.good, T.ok, S₁₀, T₁₀.fr.sub (linsub vs)⟩, hfp₁₀, P₁₀, hL₁₀, hR₁₀, hlen, hD₁₀, kk₁₀⟩
     | true =>
       simp only [if_true] at q₁₀ ⊢
       refine PE.and T₁₀ (q₁₀ ex' A _ s₁₀ T₁₀) ?_
       rintro y σ₁₁ val s₁₁ ⟨hl1, r⟩ ry T₁₁ k₁₁
       revert y σ₁₁ val s₁₁; refine letI y := _; letI σ₁₁ := _; letI val := _; letI s₁₁ := _; epsX4 18 y σ₁₁ val s₁₁ rfl ?_; set_option tactic.hygienic false in intros
       have t₁₁ := T₁₀.tk k₁₁
       have kk₁₁ := kk₁₀.trans k₁₁
       obtain ⟨nD', hoD'⟩ := id hL₁₀
       revert nD'; refine letI nD' := _; epsX1 19 nD' rfl ?_; set_option tactic.hygienic false in intros
       have hL₁₁ : s₁₁.heap.PlainList D ys := hL₁₀.at fun o e => k₁₁.at e hD₁₀
       have hD₁₁ : σ₁₁ D = none := k₁₁.un hoD' hD₁₀
       have hR₁₁ := hR₁₀.keep t₁₁
       have P₁₁ : PI (k + 1) s₁₁.heap := It.itr.frame _ _ _ P₁₀ (fun b hb o e => k₁₁.at e (hfp₁₀ b hb).1) t₁₁
       have hsz := hR₁₁.length
       simp only [Array.length_toList] at hsz
       refine wpAny_list_append_plain hL₁₁ (fun h₁₂ hL₁₂ hs₁₂ => ?_) (ar_sz hl1 hsz.symm)
       revert h₁₂; refine letI h₁₂ := _; epsX1 20 h₁₂ rfl ?_; set_option tactic.hygienic false in intros
       obtain ⟨nD2, hoD2⟩ := id hL₁₁
       revert nD2; refine letI nD2 := _; epsX1 21 nD2 rfl ?_; set_option tactic.hygienic false in intros
       have nt : ∀ o, s₁₁.heap.get? D = some o → ¬ (o.cls = .type "tuple" ∧ ∃ xs n, o.data = .seq xs n) := fun o e q => by rw [hoD2] at e; obtain rfl := Option.some.inj e; exact absurd (show Value.type "list" = Value.type "tuple" from q.1) (by decide)
       have k0 : ∀ b o, b ∉ [D] → s₁₁.heap.get? b = some o → h₁₂.get? b = some o := fun b o hb e => hs₁₂.extBut b o (by simpa using hb) e
       have t₁₂ : TK' ex' s₁₁.heap h₁₂ := fun b o e hc hd hx => k0 b o (by simp only [List.mem_singleton]; rintro rfl; exact nt o e ⟨hc, hd⟩) e
       have hDx : D ∉ ex' := (hnew D (Nat.le_refl _)).2.2.1
       have S₁₂ : X.St ex' σ₁₁ { s₁₁ with heap := h₁₂ } := T₁₁.st.fp (tk := s₁₁.toks) (fp := [D]) (fun b hb => by
         simp only [List.mem_singleton] at hb; subst hb; exact ⟨hD₁₁, (hnew _ (Nat.le_refl _)).2.1, .inr nt⟩) k0 (fun b hx hb => by simp only [List.mem_singleton] at hb; subst hb; exact absurd hx hDx)
       have F₁₂ : FrR ex' X.B (X.cx sc' lv) (cenvOf sc' C env) ((freeL sc' l).sets ns vs) σ₁₁ { s₁₁ with heap := h₁₂ } :=
         T₁₁.fr.to t₁₂ (fun b hb o e => k0 b o (by simp only [List.mem_singleton]; rintro rfl; exact hDown hb) e) (fun b hb => T₁₁.fr.un b hb)
       have k₁₂ : Keep [D] σ₁₁ s₁₁.heap σ₁₁ h₁₂ := Keep.fp k0
       refine ⟨n, Nat.lt_succ_self n, k + 1, out ++ [y], σ₁₁, ys.push val, ar_s hnk, r, ⟨T.good, T.ok, S₁₂, F₁₂.sub (linsub vs)⟩, fun b hb => ?_, ?_, hL₁₂, ?_, by rw [List.length_append]; exact hl1, hD₁₁, via kk₁₁ k₁₂ fun b hb => by simp only [List.mem_singleton] at hb; subst hb; exact nal _ (Nat.le_refl _)⟩
       · obtain ⟨o, e⟩ := It.itr.alive _ _ P₁₀ b hb
         exact ⟨k₁₁.un e (hfp₁₀ b hb).1, (hfp b hb).2⟩
       · exact It.itr.frame _ _ _ P₁₁ (fun b hb o e => k0 b o (by simp only [List.mem_singleton]; rintro rfl; exact hDf hb) e) t₁₂
       · rw [Array.toList_push]
         exact (hR₁₁.keep t₁₂).append (RVs.cons (ry.keep t₁₂) RVs.nil)
 exact codeAny_compStart_list (loop _ rfl) (It.itr.self (It.itr.frame _ _ _ It.at0 (fun b _ o e => old b o e) (fun b o e _ _ _ => old b o e)) (loop _ rfl) |> fun h => wpAny_mono h (fun _ _ x => x) fun _ _ e => e.elim)
end
end Mine.Internal
namespace Mine.Internal
open PySem PySem.W PySem.Calls PyProof.Rows PySem.SeqAt
section
variable {X : Wd} {sc sc' : Scope} {lv : Nat} {l : Loc} {σ σ' σ'' : Hp} {ex ex' ex₀ : List Addr} {A : Around} {env : Env} {s s' s'' : Shared} {pos : Pos} {Q : V → Hp → Prop}
theorem let_go (T : X.At sc lv ex A env l σ s') {C : Addr} {m : Str → Option Value} {h' : Heap} (hm : s'.heap.Ns C m) (hC : σ C = none) (hB : X.B.get? C = none) (hown : C ∉ own env) (hCex : C ∉ ex) (hs : Heap.SameBut C s'.heap h') :
   X.At sc lv ex A env l σ { s' with heap := h' } ∧ Keep [C] σ s'.heap σ h' ∧ TK' ex s'.heap h' := by
 obtain ⟨o, es, ep, ho, hd, _⟩ := id hm
 have nt : ∀ ob, s'.heap.get? C = some ob → ¬ (ob.cls = .type "tuple" ∧ ∃ xs n, ob.data = .seq xs n) := fun ob e q => by rw [ho] at e; obtain rfl := Option.some.inj e; obtain ⟨_, xs, n, q⟩ := q; rw [hd] at q; cases q
 have t : TK' ex s'.heap h' := fun b ob e hc hdd hx => hs.extBut b ob (by rintro rfl; exact nt ob e ⟨hc, hdd⟩) e
 have S : X.St ex σ { s' with heap := h' } := T.st.fp (tk := s'.toks) (fp := [C]) (fun b hb => by simp only [List.mem_singleton] at hb; subst hb; exact ⟨hC, hB, .inr nt⟩) (fun b ob hb e => hs.extBut b ob (by simpa using hb) e) (fun b hx hb => by simp only [List.mem_singleton] at hb; subst hb; exact absurd hx hCex)
 have k : Keep [C] σ s'.heap σ h' := Keep.fp fun b ob hb e => hs.extBut b ob (by simpa using hb) e
 exact ⟨⟨T.good, T.ok, S, T.fr.to t (fun b hb o e => hs.extBut b o (by rintro rfl; exact hown hb) e) (fun b hb => T.fr.un b hb)⟩, k, t⟩
theorem Ev.comp {elt tgt iter : PySem.Expr} {ifs : List PySem.Expr} {ns : List Str} (hc : compOk sc sc' = true) (hn : tgtNames tgt = some ns) (hk : ns.all (isLoc sc') = true)
   (h : EvI X sc lv l σ iter tgt fun items src σ₁ => CompI X sc' lv (freeL sc' l) elt tgt ifs ns Q items src σ₁)
   (hs : ∀ env x, foldedSetIterable iter env x = pure x := by intro _ _; rfl) : Ev X sc lv l σ (.ListComp elt [⟨tgt, iter, ifs, 0⟩] sc' pos) Q := fun ex A env s T => by
 rw [eval_ListComp]
 refine comp_run (use := Option.none) hc T hs hn hk h fun D C s' σ' m q T' k hm hC hB hown nal hCex => ?_
 refine ⟨m, hm, fun h' hs' => ?_⟩
 obtain ⟨T'', k', t'⟩ := let_go T' hm hC hB hown hCex hs'
 exact ⟨.ref D, σ', rfl, T''.st, ⟨fun b o e n _ => let ⟨e', n'⟩ := k.1 b o e n (by simp); k'.1 b o e' n' fun hm => nal o ((List.mem_singleton.mp hm) ▸ e) ((List.mem_singleton.mp hm) ▸ n), fun _ h => nomatch h⟩, q⟩
theorem Ex.assignC {x : Str} {px : Pos} {elt tgt iter : PySem.Expr} {ifs : List PySem.Expr} {ns : List Str} {rest : List Stmt} {R : Fi → Prop} {cpos : Pos} (hx : isLC sc x = true) (hc : compOk sc sc' = true) (hn : tgtNames tgt = some ns) (hk : ns.all (isLoc sc') = true)
   (h : EvI X sc lv l σ iter tgt fun items src σ₁ => CompI X sc' lv (freeL sc' l) elt tgt ifs ns (fun v σ' => Ex X sc lv (l.set x v) σ' rest R) items src σ₁)
   (hs : ∀ env x, foldedSetIterable iter env x = pure x := by intro _ _; rfl) : Ex X sc lv l σ (.Assign [.Name x px] (.ListComp elt [⟨tgt, iter, ifs, 0⟩] sc' cpos) pos :: rest) R := by
 refine Ex.step fun ex A env s T => ?_
 have hb : ∃ b : Bool, swapsWith (.ListComp elt [⟨tgt, iter, ifs, 0⟩] sc' cpos) (some (.Name x px)) pos.line env = pure b := ⟨_, rfl⟩
 obtain ⟨b, hb⟩ := hb
 cases b with
 | false =>
   exact wpAny_Assign_Name (hs := hb) (PE.and T (Ev.comp hc hn hk h hs ex A env s T) fun v σ₁ val s₁ r rv T₁ k₁ =>
     T₁.store hx rv fun s₂ T₂ k₂ => ⟨_, σ₁, T₂.st, T₂.fr, (T.kown k₁).trans k₂, r⟩)
 | true =>
   rw [exec_Assign_Name_used _ _ _ _ hb]
   refine wpAny_bind (wpAny_standAt (wpAny_bind ?_))
   show wpAny _ A (do let _ ← comprehension (.ListComp elt [⟨tgt, iter, ifs, 0⟩] sc' cpos) sc' env _ (newList []) false (eval iter env) (some (PySem.assign (.Name x px) env))) _ _ s
   refine wpAny_bind (wpAny_mono (comp_run (use := some (PySem.assign (.Name x px) env)) (P := fun _ s' => PS ex X sc lv env σ s (kNext (fun l σ => Ex X sc lv l σ rest R) R) .next s') hc T hs hn hk h fun D C s' σ' m q T' k hm hC hB hown nal hCex => ?_) (fun _ s' hq => wpAny_pure (wpAny_pure hq)) fun _ _ e => e)
   refine wpAny_assign_Name (T'.store hx (v := .ref D) (val := .ref D) rfl fun s₂ T₂ k₂ => ?_)
   have hm₂ : s₂.heap.Ns C m := by
     obtain ⟨o, es, ep, ho, r⟩ := hm
     exact ⟨o, es, ep, (k₂.1 C o ho hC hown).1, r⟩
   refine ⟨m, hm₂, fun h' hs' => ?_⟩
   obtain ⟨T₃, k₃, t₃⟩ := let_go T₂ hm₂ hC hB hown hCex hs'
   have k12 := (T.kown k).trans k₂
   exact ⟨_, σ', T₃.st, T₃.fr, ⟨fun b o e n hb => let ⟨e', n'⟩ := k12.1 b o e n hb; k₃.1 b o e' n' fun hm => nal o ((List.mem_singleton.mp hm) ▸ e) ((List.mem_singleton.mp hm) ▸ n), fun b hb n => by
     exact k12.2 b hb n⟩, q⟩
end
end Mine.Internal
set_option tactic.hygienic false
namespace Mine.Internal
open PySem PySem.W PySem.Calls PyProof.Rows PySem.SeqAt Builtin Builtin.ObjectAttr
section
variable {prog : Program} {w : World} {B : Heap} {os : OsState} {A : Around} {σ : Hp} {s : Shared} {ex : List Addr} {K : Frag}
theorem isStr_fun (prog : Program) (w : World) (name : Str) : (fun e : DictEntry => e.key.isStr name) = fun e => (keyKind prog w).is (.str name) e.key := by
 funext e
 show Value.isStr e.key name = Value.isStrOf name e.key
 cases e.key <;> rfl
theorem noRefKey {es : Array DictEntry} (hk : KeysOf (keyKind prog w) es) : es.toList.any (·.refKey) = false := by
 rw [List.any_eq_false]
 intro e he
 obtain ⟨k, h1, _⟩ := hk e (by simpa using he)
 rcases Key.isV_shape h1 with ⟨i, t, _, h⟩ | ⟨x, t, _, h⟩ <;> simp [DictEntry.refKey, h]
theorem look_in {o : Obj} {es : Array DictEntry} {ep : Nat} {kvs : List (Key × Value)} (hd : o.data = .dict es ep) (hk : KeysOf (keyKind prog w) es) (hp : Pairs (keyKind prog w) es.toList kvs) (name : Str) : lookIn name o = some (valueAt kvs (.str name)) := by
 unfold lookIn
 rw [hd]
 dsimp only
 rw [isStr_fun prog w]
 have hr := noRefKey hk
 clear hd hk
 generalize es.toList = l at hp hr
 induction hp with
 | nil => simp [valueAt]
 | @cons e kv es kvs h1 h2 h3 ih =>
   rw [List.any_cons, Bool.or_eq_false_iff] at hr
   have ih := ih hr.2
   by_cases e1 : kv.1 = Key.str name
   · have : (keyKind prog w).is (Key.str name) e.key = true := e1 ▸ h1
     rw [List.find?_cons, this]
     simp [valueAt, e1, h2]
   · have h4 : (keyKind prog w).is (Key.str name) e.key = false := by
       cases q : (keyKind prog w).is (Key.str name) e.key with
       | false => rfl
       | true => exact absurd ((keyKind prog w).inj _ _ _ h1 q) e1
     rw [List.find?_cons, h4]
     simp only [valueAt, List.find?_cons, e1, decide_false, List.any_cons, hr.1, Bool.false_or] at ih ⊢
     exact ih
theorem inst_at (S : St ex prog w B os σ s) {p C dx : Addr} {des : List (Key × V)} {ep : Nat} (hp : σ p = some (.inst C dx)) (hd : σ dx = some (.dict des ep)) :
   ∃ od kvs, InstAt s.heap p (instObj C dx) C (some od) ∧ s.heap.get? dx = some od ∧ RKs ex s.heap des kvs ∧ (∀ name, lookIn name od = some (valueAt kvs (.str name))) := by
 have h1 := S.ro _ _ hp
 obtain ⟨_, kvs, ⟨od, es, ho, hc, hdd, hk, hpp, hn⟩, R⟩ := S.ro _ _ hd
 exact ⟨od, kvs, ⟨h1, rfl, rfl, ho⟩, ho, R, fun name => look_in hdd hk hpp name⟩
theorem putName_at {name : Str} {es : Array DictEntry} {ep : Nat} {kvs : List (Key × Value)} {o : Obj} {key v : Value} (hd : o.data = .dict es ep) (hc : o.ExactDict) (hk : KeysOf (keyKind prog w) es) (hp : Pairs (keyKind prog w) es.toList kvs) (hn : (kvs.map (·.1)).Nodup)
   (hkey : (keyKind prog w).is (.str name) key = true) : ∃ o' es', o' = Obj.putName name (PyData.keyHash w.params name) key v o ∧ o'.ExactDict ∧ o'.data = .dict es' (if (valueAt kvs (.str name)).isSome then ep else ep + 1) ∧ KeysOf (keyKind prog w) es' ∧
     Pairs (keyKind prog w) es'.toList (stored kvs (.str name) v) ∧ ((stored kvs (.str name) v).map (·.1)).Nodup ∧ es'.size ≤ es.size + 1 := by
 haveI := neW
 haveI := neKey
 revert prog w name es ep kvs o key v
 refine no_implicit_lambda% letI prog := _; letI w := _; letI name := _; letI es := _; letI ep := _; letI kvs := _; letI o := _; letI key := _; letI v := _; epsX9 1 prog w name es ep kvs o key v rfl ?_
 intro hd hc hk hp hn hkey
 rw [Obj.putName_eq]
 obtain ⟨c, d, dt, sl⟩ := o
 simp only at hd
 subst hd
 have hidx : (es.findIdx? fun e => e.key.isStr name) = kvs.findIdx? fun kv => decide (kv.1 = Key.str name) := by
   rw [isStr_fun prog w, ← hp.findIdx (Key.str name)]; obtain ⟨l⟩ := es; simp
 have hval := value_find (kvs := kvs) (k := Key.str name)
 unfold Obj.putNameByArray
 cases hi : es.findIdx? fun e => e.key.isStr name with
 | some i =>
   have hi2 := hi
   rw [hidx] at hi2
   rw [hval, hi2]
   have hany := any_of_findIdx_some hi2
   refine ⟨⟨c, d, .dict (es.modify i fun e => { e with val := v }) ep, sl⟩, es.modify i fun e => { e with val := v }, by dsimp only; rw [hi], hc, by simp, hk.modify _ _, ?_, ?_, by simp⟩
   · rw [stored, if_pos hany]
     have hl : (es.toList.findIdx? fun e => (keyKind prog w).is (Key.str name) e.key) = some i := by rw [← isStr_fun prog w, ← hi]; obtain ⟨l⟩ := es; simp
     have := hp.modify hn hl v
     obtain ⟨l⟩ := es
     simpa using this
   · rw [stored, if_pos hany, keys_map_store]; exact hn
 | none =>
   have hi2 := hi
   rw [hidx] at hi2
   rw [hval, hi2]
   have hnot : Key.str name ∉ kvs.map (·.1) := not_mem_of_findIdx_none hi2
   have hany : ¬ (kvs.any fun kv => decide (kv.1 = Key.str name)) = true := by
     rw [List.any_eq_true]; rintro ⟨kv, hkv, he⟩
     exact hnot (List.mem_map.mpr ⟨kv, hkv, of_decide_eq_true he⟩)
   refine ⟨⟨c, d, .dict (es.push ⟨PyData.keyHash w.params name, key, v⟩) (ep + 1), sl⟩, es.push ⟨PyData.keyHash w.params name, key, v⟩, by dsimp only; rw [hi], hc, by simp, hk.push (k := Key.str name) hkey _, ?_, ?_, by simp⟩
   · rw [stored, if_neg hany]
     have := hp.append hkey (PyData.keyHash w.params name) v
     obtain ⟨l⟩ := es
     simpa using this
   · rw [stored, if_neg hany, List.map_append, List.nodup_append]
     refine ⟨hn, by simp, ?_⟩
     intro a ha b hb
     simp only [List.map_cons, List.map_nil, List.mem_singleton] at hb
     subst hb
     exact fun e => hnot (e ▸ ha)
structure SetAt (K : Frag) (C : Addr) (name : Str) : Prop where
 sa : findIn K (.ref C) "__setattr__" = some (some (.builtin "object.__setattr__"))
 over : plainOver K C = true
 taker : takerIn K C name = some none
 dict : hasDictIn K C = true
theorem ar_pl {es : Array DictEntry} {a c d : Nat} (h : a ≤ es.size + 1) (e : es.toList.length = c) (e' : c = d) (hl : d < lim) : a ≤ sizeLine := by
 rw [Array.length_toList] at e
 rw [sizeLine_eq]
 simp only [lim] at hl
 omega
theorem setAttr_ok {p C dx : Addr} {des : List (Key × V)} {ep : Nat} {name : Str} {v : V} {val : Value} {Kc : Hp → Prop} (S : St ex prog w B os σ s) (X : K.In s.heap) (H : SetAt K C name) (hp : σ p = some (.inst C dx)) (hd : σ dx = some (.dict des ep)) (hlt : des.length < lim) (hv : RV ex s.heap v val)
   (h : Kc (upd σ dx (.dict (dset des (.str name) v) (if (dlook des (.str name)).isSome then ep else ep + 1)))) : wpAny (model prog w) A (setAttr (.ref p) name val) (PU ex prog w B os σ s Kc) F0 s := by
 haveI := neW
 haveI := neSh
 haveI := neA
 haveI := neKey
 revert prog w B os A σ s ex K p C dx des ep name v val Kc
 refine no_implicit_lambda% letI prog := _; letI w := _; letI B := _; letI os := _; letI A := _; letI σ := _; letI s := _; letI ex := _; letI K := _; letI p := _; letI C := _; letI dx := _; letI des := _; letI ep := _; letI name := _; letI v := _; letI val := _; letI Kc := _; epsX18 2 prog w B os A σ s ex K p C dx des ep name v val Kc rfl ?_
 intro S X H hp hd hlt hv h
 have h1 := S.ro _ _ hp
 obtain ⟨hl, kvs, ⟨od, es, ho, hc, hdd, hk, hpp, hn⟩, R⟩ := S.ro _ _ hd
 have I : InstAt s.heap p (instObj C dx) C (some od) := ⟨h1, rfl, rfl, ho⟩
 refine set_plain X I H.sa (osa_open (s := { s with toks := s.toks + 1 }) X I H.over H.taker fun b => ?_)
 obtain ⟨cd, hcd, hd'⟩ := any_some H.dict
 refine wpAny_bind (wpAny_pure (wpAny_bind (wpAny_bind (wpAny_loadPart h1 (wpAny_bind (Looks.here (s := { s with toks := s.toks + 1 }) (looks_clsIn X hcd) ?_))))))
 rw [hd']
 refine wpAny_pure (a := some dx) (wpAny_bind (wpAny_pure (wpAny_bind ?_)))
 unfold nsSet
 refine wpAny_bind (wpAny_bind (wpAny_askSetting (wpAny_pure (wpAny_bind (wpAny_mkText (wpAny_bind (wpAny_loadPart ho ?_)))))))
 rw [hdd]
 dsimp only
 have c : (!es.any (·.key.isStr name) && es.any (·.refKey)) = false := by
   have := noRefKey hk
   rw [Array.any_toList] at this
   rw [this, Bool.and_false]
 rw [aRefKeyMayBeTheName_at, c]
 obtain ⟨o', es', he, hc', hdd', hk', hpp', hn', hsz⟩ := putName_at (prog := prog) (w := w) (name := name) (key := .str name (s.toks + 1)) (v := val) hdd hc hk hpp hn (by show Value.isStrOf name (Value.str name (s.toks + 1)) = true; simp [Value.isStrOf])
 have fr : o'.isFreed = false := Obj.isFreed_of_dict hdd'
 have up : (s.heap.update dx (Obj.putName name (PyData.keyHash w.params name) (.str name (s.toks + 1)) val)).get? dx = some o' := by
   rw [he]; exact Heap.get?_update_self _ ho (by rw [← he]; exact fr)
 have hs : Heap.SameBut dx s.heap (s.heap.update dx (Obj.putName name (PyData.keyHash w.params name) (.str name (s.toks + 1)) val)) := Heap.SameBut.update ..
 refine wpAny_updatePart ho ?_
 refine wpAny_bind (wpAny_lookBehind up (by rw [hdd']; exact pastItsLine_dict (Nat.le_succ_of_le <| ar_pl hsz hpp.length R.length hlt)) ?_)
 refine wpAny_pure ?_
 rw [R.isSome] at hdd'
 refine ⟨_, S.change (o := .dict (dset des (.str name) v) (if (dlook des (.str name)).isSome then ep else ep + 1)) hd hs.2 fun t => ⟨Nat.le_trans (dset_len _ _ _) hlt, _, ⟨o', es', up, hc', hdd', hk', hpp', hn'⟩, stored_eq hn (R.keep t) (hv.keep t)⟩, Keep.change hd hs.2, h⟩
structure GetAt (K : Frag) (C : Addr) (name : Str) : Prop where
 plain : plainGet K C name = true
 dict : hasDictIn K C = true
 cls : ∃ attr, findIn K (.ref C) name = some attr ∧ noGet K attr = true
noncomputable def notBi : V → Bool
 | .bi _ => false
 | _ => true
theorem handed_ok {h : Heap} {v : V} {val : Value} (hv : RV ex h v val) (hb : notBi v = true) : handedIn val = true := by
 cases v with
 | none => obtain rfl := hv; rfl
 | bool b => obtain rfl := hv; rfl
 | int i => obtain ⟨t, rfl⟩ := hv; rfl
 | str i => obtain ⟨t, rfl⟩ := hv; rfl
 | tup l => unfold RV at hv; obtain ⟨_, _, rfl, _⟩ := hv; rfl
 | ref a => obtain rfl := hv; rfl
 | ty n => obtain rfl := hv; rfl
 | bi n => exact noFalse hb
theorem getAttr_ok {p C dx : Addr} {des : List (Key × V)} {ep : Nat} {name : Str} {v : V} {Q : V → Hp → Prop} {expr : Bool} (S : St ex prog w B os σ s) (X : K.In s.heap) (H : GetAt K C name) (hp : σ p = some (.inst C dx)) (hd : σ dx = some (.dict des ep)) (hl : dlook des (.str name) = some v) (hb : notBi v = true)
   (h : Q v σ) : wpAny (model prog w) A (getAttr (.ref p) name expr) (PE ex prog w B os σ s Q) F0 s := by
 obtain ⟨od, kvs, I, ho, R, look⟩ := inst_at S hp hd
 obtain ⟨attr, ha, hn⟩ := H.cls
 have := R.look (.str name)
 rw [hl] at this
 obtain ⟨val, hval, rv⟩ := this
 exact get_value X I (plainGet_of H.plain).1 (findObj_own H.dict ha hn (by rw [look, hval])) (handed_ok rv hb) (PE.tok S rv h)
structure MethAt (K : Frag) (C : Addr) (name : Str) (f : Addr) : Prop where
 plain : plainGet K C name = true
 find : findIn K (.ref C) name = some (some (.ref f))
 fn : typeIn K (.ref f) = some (.type "function")
theorem getMethod_ok {p C dx f : Addr} {des : List (Key × V)} {ep : Nat} {name : Str} {pl : Sem Bool} {Q : Value × List Value → Shared → Prop} (S : St ex prog w B os σ s) (X : K.In s.heap) (H : MethAt K C name f) (hp : σ p = some (.inst C dx)) (hd : σ dx = some (.dict des ep)) (hl : dlook des (.str name) = none)
   (h : Q (.ref f, [.ref p]) s) : wpAny (model prog w) A (getMethod (.ref p) name pl) Q F0 s := by
 obtain ⟨od, kvs, I, ho, R, look⟩ := inst_at S hp hd
 have := R.look (.str name)
 rw [hl] at this
 simp only at this
 exact method_fn X I (plainGet_of H.plain).1 (plainGet_of H.plain).2 H.find H.fn (by show (lookIn name od).map _ = _; rw [look, this]; rfl) h
end
end Mine.Internal
set_option tactic.hygienic false
namespace Mine.Internal
open PySem PySem.W PySem.Calls PyProof.Rows PySem.SeqAt
section
variable {X : Wd} {sc : Scope} {lv : Nat} {l : Loc} {L : Ls} {σ σ' σ'' : Hp} {ex ex₀ : List Addr} {A : Around} {env : Env} {s s' s'' : Shared} {pos : Pos} {rest : List Stmt} {Q : V → Hp → Prop} {R : Fi → Prop}
theorem Wd.At.kin (T : X.At sc lv ex A env l σ s) : X.K.In s.heap := fun b o e => T.st.base b o (T.good.kin b o e)
inductive instP (ov : V) (σ : Hp) (K : Addr → Addr → Addr → List (Key × V) → Nat → Prop) : Prop
 | mk (p C dx : Addr) (des : List (Key × V)) (ep : Nat) (e : ov = .ref p) (h1 : σ p = some (.inst C dx)) (h2 : σ dx = some (.dict des ep)) (h3 : K p C dx des ep)
theorem Ev.attr {o : PySem.Expr} {name : Str} (h : Ev X sc lv l σ o fun ov σ₁ => instP ov σ₁ fun p C dx des ep => GetAt X.K C name ∧ ∃ v, dlook des (.str name) = some v ∧ notBi v = true ∧ Q v σ₁)
   (hb : ∀ env, attributeBase o name env (eval o env) = eval o env := by intro _; rfl) : Ev X sc lv l σ (.Attribute o name pos) Q := fun ex A env s T => by
 show wpAny X.M A (do let ov ← attributeBase o name env (eval o env); standAt pos.atName; let r ← holding [ov] (getAttr ov name true); letTemporaryGo o ov r; pure r) _ _ _
 rw [hb env]
 refine wpAny_bind (PE.and T (h ex A env s T) fun ov σ₁ val s₁ ⟨p, C, dx, des, ep, e, hp, hd, G, v, hl, hv, q⟩ ro T₁ k₁ => ?_)
 subst e
 obtain rfl := ro
 refine wpAny_bind (wpAny_standAt (wpAny_bind (wpAny_holding (wpAny_mono (getAttr_ok T₁.st T₁.kin G hp hd hl hv (Q := Q) q) (fun r s₂ x => wpAny_bind (wpAny_letTemporaryGo (wpAny_pure (x.thenE k₁)))) fun _ _ e => e))))
theorem As.attr {o : PySem.Expr} {name : Str} {v : V} {K : Loc → Hp → Prop} (h : Ev X sc lv l σ o fun ov σ₁ => instP ov σ₁ fun p C dx des ep => SetAt X.K C name ∧ des.length < lim ∧ K l (upd σ₁ dx (.dict (dset des (.str name) v) (if (dlook des (.str name)).isSome then ep else ep + 1)))) :
   As X sc lv l σ (.Attribute o name pos) v K := fun ex A env s T val rv => by
 show wpAny X.M A (do let ov ← holding [val] (eval o env); standAt pos.atName; holding [val, ov] (setAttr ov name val); release [val, ov] []) _ _ _
 refine wpAny_bind (wpAny_holding (PE.and T (h ex A env s T) fun ov σ₁ val₁ s₁ ⟨p, C, dx, des, ep, e, hp, hd, G, hlt, q⟩ ro T₁ k₁ => ?_))
 subst e
 obtain rfl := ro
 refine wpAny_bind (wpAny_standAt (wpAny_bind (wpAny_holding (wpAny_mono (setAttr_ok T₁.st T₁.kin G hp hd hlt (rv.keep (T.tk k₁)) (Kc := fun σ => K l σ) q) (fun _ s₂ ⟨σ₂, S₂, k₂, q₂⟩ => ?_) fun _ _ e => e))))
 have T₂ := T₁.move S₂ k₂
 exact wpAny_release' ⟨l, σ₂, T₂.st, T₂.fr, T.kown (k₁.trans k₂), q₂⟩
theorem callWith_first {f : Value} {fv : V} {first : List Value} {fs : List V} {es : List PySem.Expr} (hp : plainArgs es = true) (T : X.At sc lv ex A env l σ s) (rf : RV ex s.heap fv f) (rfs : RVs ex s.heap fs first)
   (h : EvL X sc lv l σ es fun vs σ₁ => CallV X lv fv (fs ++ vs) σ₁ Q) :
   wpAny X.M A (callWith pos f first (backTo pos (starEach es env)) (backToKw pos (keywordEach [] env))) (PE ex X.prog X.w X.B X.os σ s Q) F0 s := by
 refine callWith_of (P := fun h => KeepsWell X h f) (by rw [plainArgs_ok env pos hp]; rfl) (fun h x => x) (args_ok hp (wpAny_mono (h ex A env s T pos) (fun vals s₁ ⟨vs, σ₁, hn, rvs, S₁, k₁, q⟩ => ?_) fun _ _ e => e))
 obtain ⟨a, b⟩ := q ex A s₁ f (first ++ vals) T.good T.ok S₁ (rf.keep (T.tk k₁)) ((rfs.keep (T.tk k₁)).append rvs)
 exact ⟨a, wpE k₁ b⟩
theorem meth_form {es : List PySem.Expr} (hp : plainArgs es = true) (hl : es.length < 20) (pos : Pos) (env : Env) : methodCallForm (es.length + ([] : List Keyword).length) (backTo pos (starEach es env)) (backToKw pos (keywordEach [] env)) = true := by
 unfold methodCallForm
 have : ∀ {es : List PySem.Expr}, plainArgs es = true → (backTo pos (starEach es env)).all (fun x => !x.1) = true := by
   intro es
   induction es with
   | nil => intro _; rfl
   | cons e r ih =>
     intro hp
     simp only [plainArgs, Bool.and_eq_true, Bool.not_eq_true'] at hp
     rw [starEach_plain hp.1]
     have := ih hp.2
     simp only [backTo, List.map_cons, List.all_cons, Bool.not_false, Bool.true_and] at this ⊢
     exact this
 rw [this hp]
 have : (backToKw pos (keywordEach [] env)).isEmpty = true := rfl
 rw [this]
 simp only [List.length_nil, Nat.add_zero, if_true, Bool.true_and, Bool.and_true, decide_eq_true_eq]
 have h2 : (backToKw pos (keywordEach [] env)).all (fun x => x.1.isSome) = true := rfl
 rw [h2]
 simp; omega
theorem Ev.meth {o : PySem.Expr} {name : Str} {apos : Pos} {es : List PySem.Expr} (h : Ev X sc lv l σ o fun ov σ₁ => instP ov σ₁ fun p C dx des ep => ∃ f, MethAt X.K C name f ∧ dlook des (.str name) = .none ∧
     EvL X sc lv l σ₁ es fun vs σ₂ => CallV X lv (.ref f) (.ref p :: vs) σ₂ Q)
   (hp : plainArgs es = true := by rfl) (hl : es.length < 20 := by decide) (hline : (apos.endLine == pos.line) = true := by rfl) (hb : ∀ env, attributeBase o name env (eval o env) = eval o env := by intro _; rfl) :
   Ev X sc lv l σ (.Call (.Attribute o name apos) es [] pos) Q := fun ex A env s T => by
 rw [arm_eval_Call, hb env]
 refine wpAny_bind (PE.and T (h ex A env s T) fun ov σ₁ val s₁ ⟨p, C, dx, des, ep, e, hpp, hd, f, H, hn, q⟩ ro T₁ k₁ => ?_)
 subst e
 obtain rfl := ro
 have hform := meth_form hp hl pos env
 have hpos : methodCallPos true o env apos pos = pure pos := by unfold methodCallPos; simp [hline]
 refine wpAny_bind (wpAny_standAt ?_)
 unfold methodCall
 rw [hform]
 refine wpAny_bind (wpAny_holding (getMethod_ok T₁.st T₁.kin H hpp hd hn ?_))
 refine wpAny_bind (wpAny_of_eq hpos (wpE k₁ ?_))
 exact callWith_first (fv := .ref f) (fs := [.ref p]) hp T₁ rfl (RVs.cons rfl RVs.nil) q
theorem Ev.methB {o : PySem.Expr} {name : Str} {apos : Pos} {es : List PySem.Expr} (h : Ev X sc lv l σ o fun ov σ₁ => ∃ T id, PlainAttrs T ∧ Slot T name id ∧ typeOf (.builtin id) = pure (.type "method_descriptor") ∧
     (∀ ex s val, X.Good → X.St ex σ₁ s → RV ex s.heap ov val → s.TypeIs val T ∧ ∀ a, val = .ref a → ∃ ob, s.heap.get? a = some ob ∧ ob.dict = .none) ∧
     EvL X sc lv l σ₁ es fun vs σ₂ => CallV X lv (.bi id) (ov :: vs) σ₂ Q)
   (hp : plainArgs es = true := by rfl) (hl : es.length < 20 := by decide) (hline : (apos.endLine == pos.line) = true := by rfl) (hb : ∀ env, attributeBase o name env (eval o env) = eval o env := by intro _; rfl) :
   Ev X sc lv l σ (.Call (.Attribute o name apos) es [] pos) Q := fun ex A env s T => by
 rw [arm_eval_Call, hb env]
 refine wpAny_bind (PE.and T (h ex A env s T) fun ov σ₁ val s₁ ⟨Ty, id, pa, sl, hty, hT, q⟩ ro T₁ k₁ => ?_)
 obtain ⟨h1, h2⟩ := hT ex s₁ val T₁.good T₁.st ro
 have hform := meth_form hp hl pos env
 have hpos : methodCallPos true o env apos pos = pure pos := by unfold methodCallPos; simp [hline]
 refine wpAny_bind (wpAny_standAt ?_)
 unfold methodCall
 rw [hform]
 refine wpAny_bind (wpAny_holding (getMethod_builtin h1 pa sl hty h2 ?_))
 refine wpAny_bind (wpAny_of_eq hpos (wpE k₁ ?_))
 exact callWith_first (fv := .bi id) (fs := [ov]) hp T₁ rfl (RVs.cons ro RVs.nil) q
end
end Mine.Internal
set_option tactic.hygienic true
namespace Mine.Internal
open PySem PySem.W PyProof.Rows
end Mine.Internal
set_option tactic.hygienic false
namespace Mine.Internal
open PySem PySem.W PySem.Calls PyProof.Rows PySem.SeqAt
section
variable {X : Wd} {sc : Scope} {lv : Nat} {l : Loc} {σ σ' σ'' : Hp} {ex ex₀ : List Addr} {A : Around} {env : Env} {s s' s'' : Shared} {pos : Pos} {Q : V → Hp → Prop}
theorem RVs.three {h : Heap} {u v x : V} {vals : List Value} (r : RVs ex h [u, v, x] vals) : ∃ a b c, vals = [a, b, c] ∧ RV ex h u a ∧ RV ex h v b ∧ RV ex h x c := by
 unfold RVs at r; obtain ⟨val, r', rfl, rv, r'⟩ := r
 obtain ⟨b, c, rfl, rb, rc⟩ := RVs.two r'
 exact ⟨val, b, c, rfl, rv, rb, rc⟩
theorem CallV.append {p : Addr} {xs : List V} {v : V} (hp : σ p = some (.list xs)) (hl : xs.length < lim) (h : Q .none (upd σ p (.list (xs ++ [v])))) : CallV X lv (.bi "list.append") [.ref p, v] σ Q := fun ex A s fv vals G O S rf rvs => by
 obtain rfl := rf
 obtain ⟨a, b, rfl, ra, rb⟩ := rvs.two
 obtain rfl := ra
 obtain ⟨ln, it, IL, R⟩ := S.ro _ _ hp
 have n := R.length
 simp only [Array.length_toList] at n
 simp only [lim] at hl
 refine ⟨.bi, wpAny_list_append_plain (show s.heap.PlainList p it from IL) (fun h' IL' hs => ?_) (by rw [sizeLine_eq]; omega)⟩
 refine ⟨.none, _, rfl, S.change (o := .list (xs ++ [v])) hp hs.2 fun t => RO.list_ (by simp only [List.length_append, List.length_singleton, lim]; omega) IL' ?_, Keep.change hp hs.2, h⟩
 rw [Array.toList_push]
 exact (R.keep t).append (RVs.cons (rb.keep t) RVs.nil)
theorem list_type (S : X.St ex σ s) {p : Addr} {xs : List V} (hp : σ p = some (.list xs)) : s.TypeIs (.ref p) "list" ∧ ∃ ob, s.heap.get? p = some ob ∧ ob.dict = none := by
 obtain ⟨ln, it, ⟨n, ho⟩, R⟩ := S.ro _ _ hp
 exact ⟨⟨_, ho, rfl⟩, _, ho, rfl⟩
theorem dict_type (S : X.St ex σ s) {p : Addr} {es : List (Key × V)} {ep : Nat} (hp : σ p = some (.dict es ep)) : s.TypeIs (.ref p) "dict" ∧ ∃ ob, s.heap.get? p = some ob ∧ ob.dict = none := by
 obtain ⟨ln, kvs, D, R⟩ := S.ro _ _ hp
 refine ⟨D.dictOf.typeIs, ?_⟩
 obtain ⟨o, es', ho, hc, _⟩ := D
 exact ⟨o, ho, hc.2.1⟩
theorem tdict_type (S : X.St ex σ s) {p : Addr} {es : List (List TK × V)} (hp : σ p = some (.tdict es)) : s.TypeIs (.ref p) "dict" ∧ ∃ ob, s.heap.get? p = some ob ∧ ob.dict = none := by
 obtain ⟨ln, kvs, D, R⟩ := S.ro _ _ hp
 refine ⟨D.typeIs, ?_⟩
 obtain ⟨o, es', ep, ho, hc, _⟩ := D
 exact ⟨o, ho, hc.2.1⟩
theorem CallV.get2 {p : Addr} {es : List (Key × V)} {ep : Nat} {i d : V} {k : Key} (hp : σ p = some (.dict es ep)) (hk : keyOf i = some k) (h : Q ((dlook es k).getD d) σ) : CallV X lv (.bi "dict.get") [.ref p, i, d] σ Q := fun ex A s fv vals G O S rf rvs => by
 obtain rfl := rf
 obtain ⟨a, b, c, rfl, ra, rb, rc⟩ := rvs.three
 obtain rfl := ra
 obtain ⟨_, kvs, D, R⟩ := S.ro _ _ hp
 refine ⟨.bi, call_meetsIn F.slot_dict_get D.dictOf.typeIs F.entry_dict_get (F.args_dict_get_3 _ _ _) (meets_dict_get_default (keyKind X.prog X.w) p (k := k) (key_ok hk rb) (S.nsys G.gd.sys hp) c) ⟨_, D.dictOf.mapOf, ?_⟩⟩
 have := R.look k
 show PE _ _ _ _ _ _ _ _ _ _
 cases hd : dlook es k with
 | none => rw [hd] at this h; simp only at this; rw [this]; exact PE.tok S rc h
 | some x => rw [hd] at this h; obtain ⟨y, hy, ry⟩ := this; rw [hy]; exact PE.tok S ry h
theorem CallV.getT {p : Addr} {es : List (List TK × V)} {t : List V} {d : V} {ks : List TK} (hp : σ p = some (.tdict es)) (hk : tksOf t = some ks) (h : Q ((tlook es ks).getD d) σ) : CallV X lv (.bi "dict.get") [.ref p, .tup t, d] σ Q := fun ex A s fv vals G O S rf rvs => by
 obtain rfl := rf
 obtain ⟨a, b, c, rfl, ra, rb, rc⟩ := rvs.three
 obtain rfl := ra
 have := tksOf_eq hk
 subst this
 obtain ⟨ta, rfl⟩ : ∃ ta, b = .ref ta := by unfold RV at rb; obtain ⟨a, _, e, _⟩ := rb; exact ⟨a, e⟩
 obtain ⟨_, xs, D, R⟩ := S.ro _ _ hp
 have nsys : (p == sysModules) = false := S.nsys G.gd.sys hp
 refine ⟨.bi, call_meetsIn F.slot_dict_get D.typeIs F.entry_dict_get (F.args_dict_get_3 _ _ _) (meetsH_dict_get_default (tkKind ex X.prog X.w) p ta nsys c) ⟨?_, ks, xs, IsTKs.of rb, D, ?_⟩⟩
 · show A.in1.units + 2 < cLine
   have := O.units
   simp only [Around.in1_units]; omega
 · have := R.look ks
   show PE _ _ _ _ _ _ _ _ _ _
   cases hd : tlook es ks with
   | none => rw [hd] at this h; simp only at this; rw [this]; exact PE.tok S rc h
   | some x => rw [hd] at this h; obtain ⟨ca, y, hy, ry⟩ := this; rw [hy]; exact PE.tok S ry h
structure MakeAt (K : Frag) (C fI : Addr) : Prop where
 makes : makesIn K C = true
 init : findIn K (.ref C) "__init__" = some (some (.ref fI))
 fn : typeIn K (.ref fI) = some (.type "function")
 keep : keepIn K (.ref C) = true
theorem Ok.under {lv : Nat} {A : Around} (h : Ok (lv + 1) A) (C : Addr) (vals : List Value) : Ok lv (A.under (.builtin "type.__call__" ⟨.ref C :: vals, []⟩)) :=
 ⟨h.1, by have := h.2.1; rw [depth_under_make]; omega, by have := h.2.2; rw [units_under_make]; omega⟩
theorem CallV.cls {C fI : Addr} {vs : List V} (H : MakeAt X.K C fI) (h : ∀ x dx, σ x = none → σ dx = none → x ≠ dx → CodeV X lv (.ref fI) (.ref x :: vs) (upd (upd σ dx (.dict [] 0)) x (.inst C dx)) fun v σ' => v = .none ∧ Q (.ref x) σ') :
   CallV X (lv + 1) (.ref C) vs σ Q := fun ex A s fv vals G O S rf rvs => by
 obtain rfl := rf
 have kin : X.K.In s.heap := fun b o e => S.base b o (G.kin b o e)
 refine ⟨keeps_K H.keep _ kin, wpAny_call ?_⟩
 obtain ⟨hh, g, d, t, os⟩ := s
 refine make_core (makes_of kin H.makes) (looks_findIn kin H.init) (fun self => bind_fn kin self H.fn) (.inl rfl) ?_
 have n1 : hh.get? hh.objs.size = none := Heap.get?_none_of_le (Nat.le_refl _)
 have k1 : ∀ b o, hh.get? b = some o → (hh.push emptyDict).get? b = some o := fun b o e => Heap.get?_push_of_some _ e
 have S₁ : X.St ex (upd σ hh.objs.size (.dict [] 0)) ⟨hh.push emptyDict, g, d, t, os⟩ := St.alloc (o := .dict [] 0) S n1 k1
   ⟨by simp, [], ⟨_, #[], Heap.get?_push_size _ rfl, ⟨rfl, rfl, rfl⟩, rfl, fun e he => by simp at he, .nil, by simp⟩, rfl⟩
 have sz : (hh.push emptyDict).objs.size = hh.objs.size + 1 := Heap.size_push ..
 have n2 : (hh.push emptyDict).get? (hh.objs.size + 1) = none := Heap.get?_none_of_le (by rw [sz]; exact Nat.le_refl _)
 have k2 : ∀ b o, (hh.push emptyDict).get? b = some o → ((hh.push emptyDict).push (instObj C hh.objs.size)).get? b = some o := fun b o e => Heap.get?_push_of_some _ e
 have S₂ : X.St ex (upd (upd σ hh.objs.size (.dict [] 0)) (hh.objs.size + 1) (.inst C hh.objs.size)) ⟨(hh.push emptyDict).push (instObj C hh.objs.size), g, d, t, os⟩ := St.alloc (o := .inst C hh.objs.size) S₁ n2 k2 (by
   show ((hh.push emptyDict).push (instObj C hh.objs.size)).get? (hh.objs.size + 1) = _
   rw [← sz]; exact Heap.get?_push_size _ rfl)
 have kk : Keep [] σ hh (upd (upd σ hh.objs.size (.dict [] 0)) (hh.objs.size + 1) (.inst C hh.objs.size)) ((hh.push emptyDict).push (instObj C hh.objs.size)) :=
   (Keep.alloc (o := .dict [] 0) n1 k1).trans (Keep.alloc (o := .inst C hh.objs.size) n2 k2)
 have tk : TK' ex hh ((hh.push emptyDict).push (instObj C hh.objs.size)) := fun b o e _ _ _ => k2 b o (k1 b o e)
 have z1 : σ (hh.objs.size + 1) = none := S.noneAt (Heap.get?_none_of_le (Nat.le_succ _))
 refine codeAny_mono (h (hh.objs.size + 1) hh.objs.size z1 (S.noneAt n1) (Nat.succ_ne_self _) ex _ _ (.ref fI) (.ref (hh.objs.size + 1) :: vals) G (O.under C vals) S₂ rfl (RVs.cons rfl (rvs.keep tk))) fun r s' x => ?_
 rcases r with e | (_ | _ | _ | v)
 · exact x.elim
 · exact x.elim
 · exact x.elim
 · exact x.elim
 · obtain ⟨v', σ', rv, S', k', rfl, q⟩ := x
   obtain rfl := rv
   exact ⟨rfl, .ref (hh.objs.size + 1), σ', rfl, S', kk.trans k', q⟩
end
end Mine.Internal
set_option tactic.hygienic false
namespace Mine.Internal
open PySem PySem.W PySem.Calls PyProof.Rows PySem.SeqAt
section
variable {X : Wd} {sc : Scope} {lv : Nat} {l : Loc} {σ σ' σ'' : Hp} {ex ex₀ : List Addr} {A : Around} {env : Env} {s s' s'' : Shared} {pos : Pos} {Q : V → Hp → Prop}
theorem RVs_of_ints {h : Heap} : ∀ {vs : List Value} {ns : List Int}, IntsAre vs ns → RVs ex h (ns.map V.int) vs
 | _, _, .nil => RVs.nil
 | _, _, .cons n t r => RVs.cons ⟨t, rfl⟩ (RVs_of_ints r)
theorem ints_of_RVs {h : Heap} : ∀ {ns : List Int} {vs : List Value}, RVs ex h (ns.map V.int) vs → IntsAre vs ns
 | [], vs, r => by simp only [List.map_nil] at r; unfold RVs at r; subst r; exact .nil
 | n :: ns, vs, r => by
   simp only [List.map_cons] at r
   unfold RVs at r
   obtain ⟨v, r', rfl, ⟨t, rfl⟩, r2⟩ := r
   exact .cons n t (ints_of_RVs r2)
theorem intsAre_of : ∀ (ns : List Int) (vs : List Value), vs.length = ns.length → (∀ (j : Nat) (n : Int), ns[j]? = some n → ∃ t, vs[j]? = some (Value.int n t)) → IntsAre vs ns
 | [], [], _, _ => .nil
 | n :: ns, v :: vs, hl, h => by
   obtain ⟨t, ht⟩ := h 0 n rfl
   obtain rfl := Option.some.inj ht
   exact .cons n t (intsAre_of ns vs (Nat.succ.inj hl) fun j m e => h (j + 1) m e)
 | [], _ :: _, hl, _ => nomatch hl
 | _ :: _, [], hl, _ => nomatch hl
theorem keys_ints {prog : Program} {w : World} {kvs : List (Key × Value)} {ns : List Int} (hk : kvs.map (·.1) = ns.map Key.int) {vs : List Value} (hl : vs.length = ns.length)
   (h : ∀ (j : Nat) (v : Value), vs[j]? = some v → ∃ k x, kvs[j]? = some (k, x) ∧ (keyKind prog w).is k v = true) : IntsAre vs ns := intsAre_of ns vs hl fun j n e => by
 obtain ⟨hj, _⟩ := List.getElem?_eq_some_iff.mp e
 have e' := List.getElem?_eq_getElem (l := vs) (hl ▸ hj)
 obtain ⟨k, x, hx, hkx⟩ := h j _ e'
 have h1 : (kvs.map (·.1))[j]? = some k := by rw [List.getElem?_map, hx]; rfl
 rw [hk, List.getElem?_map, e] at h1
 obtain rfl := Option.some.inj h1
 obtain ⟨t, ht⟩ := Value.isInt_shape hkx
 exact ⟨t, e'.trans (congrArg some ht)⟩
theorem ar_s64 {n m : Nat} (e : n = m) (h : m < 64) : n ≤ sizeLine := by rw [sizeLine_eq]; omega
theorem ar_l64 {n m : Nat} (e : n = m) (h : m < 64) : n ≤ lim := by simp only [lim]; omega
theorem CallV.sortedD {p : Addr} {es : List (Key × V)} {ep : Nat} {ns : List Int} (hp : σ p = some (.dict es ep)) (hk : es.map (·.1) = ns.map Key.int) (hl : ns.length < 64) (h : ∀ c (ns' : List Int), σ c = none → ns'.Perm ns → ns'.Pairwise (· ≤ ·) → Q (.ref c) (upd σ c (.list (ns'.map .int)))) :
   CallV X lv (.bi "sorted") [.ref p] σ Q := fun ex A s fv vals G O S rf rvs => by
 obtain rfl := rf
 obtain ⟨a, rfl, ra⟩ := rvs.one
 obtain rfl := ra
 obtain ⟨ln, kvs, D, R⟩ := S.ro _ _ hp
 have nl : kvs.length = ns.length := by rw [R.length, ← List.length_map (f := (·.1)), hk, List.length_map]
 refine ⟨.bi, call_function_entry kind_sorted plain_sorted entry_sorted (args_sorted1 _) ?_⟩
 unfold Builtin.«sorted»
 refine wpAny_bind (m := checkCount "sorted" 1 1 _) (wpAny_pure ?_)
 refine wpAny_bind (kdu_collect (A := A.in1) (kdl_dict (knd := keyKind X.prog X.w) (kvs := kvs) (ep := ep) (S.nsys G.gd.sys hp)) O.1 D (ar_s64 nl hl) fun h' tk acc hk' hacc => ?_)
 have hI : IntsAre acc.toList ns := keys_ints (R.keys.trans hk) (Array.length_toList.trans (hacc.1.trans nl)) fun j v e => hacc.2 j v (Array.getElem?_toList.symm.trans e)
 have hlen := hI.length
 refine wpAny_bind (wpAny_newList ?_ (ar_s64 hlen hl))
 have hoL : (h'.push (seqObj "list" acc.toList.toArray 0)).get? h'.objs.size = some (seqObj "list" acc.toList.toArray 0) := Heap.get?_push_size _ rfl
 refine wpAny_bind (wpAny_holding (wpAny_call_entry slot_list_sort ⟨_, hoL, rfl⟩ entry_list_sort (list_sort_tree hoL hI (by first | assumption | decide | omega) fun out ns' a1 a2 a3 => ⟨_, rfl, ?_⟩) (args_list_sort _)))
 refine wpAny_pure ⟨_, rfl, ?_⟩
 obtain ⟨e, he⟩ := sortedHeap_at (vs := acc.toList) (out := out) hoL
 have hn : s.heap.get? h'.objs.size = none := by
   cases q : s.heap.get? h'.objs.size with
   | none => rfl
   | some o => exact absurd (Heap.lt_size (hk' _ _ q)) (Nat.lt_irrefl _)
 have kk : ∀ b o, s.heap.get? b = some o → (sortedHeap (h'.push (seqObj "list" acc.toList.toArray 0)) h'.objs.size acc.toList out).get? b = some o := fun b o e => by
   have hlt := Heap.lt_size (hk' _ _ e)
   rw [sortedHeap_old (Nat.ne_of_lt hlt) (by rw [Heap.size_push]; exact Nat.lt_succ_of_lt hlt)]
   exact Heap.get?_push_of_some _ (hk' _ _ e)
 exact PE.alloc (v := .ref h'.objs.size) S hn kk (RO.list_ (by rw [List.length_map]; exact ar_l64 a2.length_eq hl) ⟨_, he⟩ (RVs_of_ints a1)) rfl (h _ ns' (S.noneAt hn) a2 a3)
theorem CallV.listL {p : Addr} {xs : List V} (hp : σ p = some (.list xs)) (h : ∀ c, σ c = none → Q (.ref c) (upd σ c (.list xs))) : CallV X lv (.ty "list") [.ref p] σ Q := fun ex A s fv vals G O S rf rvs => by
 obtain rfl := rf
 obtain ⟨a, rfl, ra⟩ := rvs.one
 obtain rfl := ra
 obtain ⟨ln, it, IL, R⟩ := S.lst hp
 obtain ⟨o, ho, hc, n, hd⟩ := id IL
 have nl := R.length
 simp only [Array.length_toList] at nl
 simp only [lim] at ln
 refine ⟨.ty, call_list_seq p (.inl rfl) ho hc hd (fun h' c' k hS => ?_) (by rw [sizeLine_eq]; omega)⟩
 exact PE.alloc (v := .ref s.heap.objs.size) S (Heap.get?_none_of_le (Nat.le_refl _)) k (RO.list_ (by simp only [lim]; omega) ⟨_, hS⟩ (R.keep fun b o e _ _ _ => k b o e)) rfl (h _ S.fresh.1)
theorem CallV.tupT {xs : List V} (h : Q (.tup xs) σ) : CallV X lv (.ty "tuple") [.tup xs] σ Q := fun ex A s fv vals G O S rf rvs => by
 obtain rfl := rf
 obtain ⟨a, rfl, ra⟩ := rvs.one
 have ra' := ra
 unfold RV at ra
 obtain ⟨p, items, rfl, IT, nx, R⟩ := ra
 exact ⟨.ty, call_tuple_same (show s.heap.IsTuple p items from IT) (PE.here S ra' h)⟩
theorem CallV.dictD {p : Addr} {es : List (Key × V)} {ep : Nat} (hp : σ p = some (.dict es ep)) (h : ∀ c ep', σ c = none → Q (.ref c) (upd σ c (.dict es ep'))) : CallV X lv (.ty "dict") [.ref p] σ Q := fun ex A s fv vals G O S rf rvs => by
 obtain rfl := rf
 obtain ⟨a, rfl, ra⟩ := rvs.one
 obtain rfl := ra
 obtain ⟨ln, kvs, D, R⟩ := S.ro _ _ hp
 have nl := R.length
 simp only [lim] at ln
 refine ⟨.ty, kt_call_dict (S.nsys G.gd.sys hp) D.dictOf (by rw [sizeLine_eq]; omega) fun h' D' hs => ?_⟩
 have k : ∀ b o, s.heap.get? b = some o → h'.get? b = some o := fun b o e => hs.extBut b o (Nat.ne_of_lt (Heap.lt_size e)) (Heap.get?_push_of_some _ e)
 obtain ⟨ep', DA⟩ := D'.dictAt
 exact PE.alloc (v := .ref s.heap.objs.size) (o := .dict es ep') S (Heap.get?_none_of_le (Nat.le_refl _)) k ⟨by simp only [lim]; omega, kvs, DA, R.keep fun b o e _ _ _ => k b o e⟩ rfl (h _ _ S.fresh.1)
theorem CallV.minL {p : Addr} {ns : List Int} (hp : σ p = some (.list (ns.map .int))) (hne : 0 < ns.length) (h : ∀ m, m ∈ ns → (∀ a ∈ ns, m ≤ a) → Q (.int m) σ) : CallV X lv (.bi "min") [.ref p] σ Q := fun ex A s fv vals G O S rf rvs => by
 obtain rfl := rf
 obtain ⟨a, rfl, ra⟩ := rvs.one
 obtain rfl := ra
 obtain ⟨ln, it, IL, R⟩ := S.lst hp
 have hI := ints_of_RVs R
 obtain ⟨xs, e⟩ := hI.allInts.items
 have hns : ns = xs.toList.map (·.1) := by rw [← hI.numsOf, ← nums_intItems, ← e]
 have hsz : 0 < xs.size := by
   have h3 := hne; rw [hns, List.length_map, Array.length_toList] at h3; exact h3
 have IL' : s.heap.IsList p it.toList.toArray := by simpa using IL
 rw [e] at IL'
 refine ⟨.bi, min_intList O.1 IL' hsz fun v h' tk hv hk => ?_⟩
 obtain ⟨t, rfl⟩ := intItems_at hv
 obtain ⟨h1, h2⟩ := argBest_lt (numAt xs) (xs.size - 1)
 refine PE.grow (v := .int _) S hk ⟨t, rfl⟩ (h _ ?_ fun a ha => ?_)
 · rw [hns, numAt_eq]; exact getD_mem (by rw [List.length_map, Array.length_toList]; omega)
 · rw [hns] at ha
   obtain ⟨j, hj, rfl⟩ := mem_getD ha
   rw [List.length_map, Array.length_toList] at hj
   rw [← numAt_eq]; exact h2 j (by first | assumption | decide | omega)
end
end Mine.Internal
set_option tactic.hygienic false
namespace Mine.Internal
open PySem PySem.W PySem.Calls PyProof.Rows PySem.SeqAt
open Builtin
theorem keys_list_none : typeLookup (.type "list") "keys" = pure none := by rw [typeLookup_type, builtinLookup_eq_fast]; kernel_rfl
section
variable {prog : Program} {w : World} {A : Around} {s : Shared}
theorem no_keys {a : Addr} {o : Obj} {xs : Array Value} {k : Nat} {Q : Option Value → Shared → Prop} (hx : s.heap.get? a = some o) (hc : o.cls = .type "list") (hdat : o.data = .seq xs k) (hd : o.dict = none) (hA : A.handled = none)
   (h : ∀ h' tk, (∀ b o, s.heap.get? b = some o → h'.get? b = some o) → Q none { s with heap := h', toks := tk }) :
   wpAny (model prog w) A (getAttr? (.ref a) "keys") Q F0 s := by
 obtain ⟨c, dct, dat, sl⟩ := o
 simp only at hc hdat hd
 subst hc hdat hd
 obtain ⟨hp, g, d, tk, os⟩ := s
 have hT : ∀ tk', (⟨hp, g, d, tk', os⟩ : Shared).TypeIs (.ref a) "list" := fun _ => ⟨_, hx, rfl⟩
 have f1 := sub_AttributeError
 have f3 := F.slot_list_getattribute.lookup
 have f4 := F.slot_list_getattribute.bind (.ref a)
 have f5 := am_list_getattr_none
 unfold getAttr? getAttrBy? getAttrBy
 repeat (any_goals (first | assumption | exact hT _ | ((with_reducible show wpAny _ _ (call (Value.builtin "list.__getattribute__") _ _) _ _ _); refine call_meets F.slot_list_getattribute (hT _) am_entry_list_getattribute (F.args_list_getattribute_2 _ _) (meets_getattribute_miss_list a xs k sl "keys" _ keys_list_none (by decide) (by decide)) ⟨hx, hA, fun h' tk' e hx' => ?_⟩) | wp_step))
 have hkk := hx'.of.keeps
 obtain ⟨t', u', he⟩ := hx'.there
 show wpAny _ _ (getattributeRaised _ _ _ _ _ _ _) _ _ _
 unfold getattributeRaised
 repeat (any_goals (first | assumption | wp_step))
 exact h _ _ hkk
end
end Mine.Internal
namespace Mine.Internal
open PySem PySem.W PySem.Calls PyProof.Rows PySem.SeqAt
open Builtin
theorem ar_d1 {a b c : Nat} (h : a + (b + 1) ≤ c) : a < c := by omega
theorem ar_d2 {a b c d : Nat} (h : d ≤ a + 1) (h' : a + (b + 1) ≤ c) : d + b ≤ c := by omega
noncomputable def pairOf : V → Option (V × V)
 | .tup l => (match l with
   | k :: r => (match r with
     | v :: t => (match t with
       | [] => some (k, v)
       | _ :: _ => none)
     | [] => none)
   | [] => none)
 | _ => none
theorem pairOf.inv {x k v : V} (h : pairOf x = some (k, v)) : x = .tup [k, v] := by
 cases x with
 | tup l => cases l with
   | nil => exact noneSome h
   | cons a l => cases l with
     | nil => exact noneSome h
     | cons b l => cases l with
       | nil => injection Option.some.inj h with e1 e2; subst e1 e2; rfl
       | cons _ _ => exact noneSome h
 | _ => exact noneSome h
noncomputable def pairsV : List V → Option (List (Key × V))
 | [] => some []
 | x :: r => (pairOf x).bind fun p => (keyOf p.1).bind fun k => (pairsV r).map ((k, p.2) :: ·)
noncomputable def mkD (es : List (Key × V)) : List (Key × V) → List (Key × V)
 | [] => es
 | p :: r => mkD (dset es p.1 p.2) r
theorem pairsV_cons {x : V} {xs : List V} {ps : List (Key × V)} (h : pairsV (x :: xs) = some ps) : ∃ k v kk r, x = .tup [k, v] ∧ keyOf k = some kk ∧ pairsV xs = some r ∧ ps = (kk, v) :: r := by
 obtain ⟨⟨k, v⟩, e, h⟩ := Option.bind_eq_some_iff.mp h
 obtain ⟨kk, h1, h⟩ := Option.bind_eq_some_iff.mp h
 obtain ⟨r, h2, rfl⟩ := Option.map_eq_some_iff.mp h
 exact ⟨k, v, kk, r, pairOf.inv e, h1, h2, rfl⟩
theorem entry_dict_loop : entryFor table "dict.update.loop" = some Builtin.«dict.update.loop» := entryFor_of_tree (by kernel_rfl)
theorem plain_dict_loop : plainId "dict.update.loop" = true := by decide +kernel
section
variable {X : Wd} {sc : Scope} {lv : Nat} {l : Loc} {σ σ' σ'' : Hp} {ex ex₀ : List Addr} {A : Around} {env : Env} {s s' s'' : Shared} {pos : Pos} {Q : V → Hp → Prop}
theorem upd_upd (σ : Hp) (a : Addr) (o o' : O) : upd (upd σ a o) a o' = upd σ a o' := funext fun b => by
 cases Decidable.em (b = a) with
 | inl e => subst e; rw [upd_same, upd_same]
 | inr e => rw [upd_ne _ _ e, upd_ne _ _ e, upd_ne _ _ e]
theorem upd_id {σ : Hp} {a : Addr} {o : O} (h : σ a = some o) : upd σ a o = σ := funext fun b => by
 cases Decidable.em (b = a) with
 | inl e => subst e; rw [upd_same, h]
 | inr e => rw [upd_ne _ _ e]
theorem dict_end {it D p : Addr} {xs : List V} {R : Result → Shared → Prop} (hh : A.handled = none) (hix : it ∉ ex) {k : Nat} {es : List (Key × V)} {ep : Nat} (hk : xs.length ≤ k)
   (S : X.St ex σ s) (st : s.heap.IsListIter it p k) (hi : σ it = none) (hiB : X.B.get? it = none) (hp : σ p = some (.list xs)) (hD : σ D = some (.dict es ep))
   (hR : ∀ s', X.St ex (upd σ D (.dict es ep)) s' → (∀ b o, s.heap.get? b = some o → b ≠ it → s'.heap.get? b = some o) → R (.ok (.ret .none)) s') :
   codeAny X.M A (.builtin "dict.update.loop" ⟨[.ref D, .ref it, .int k 0, .none], []⟩) R s := by
 refine codeAny_builtin entry_dict_loop ?_
 rw [Around.under_plainId plain_dict_loop _]
 unfold Builtin.«dict.update.loop»
 obtain ⟨_, items, L, RR⟩ := S.lst hp
 refine wpAny_bind (wpAny_pyNext_list_end (A := A.in1) hh st L (by rw [← Array.getElem?_toList]; exact List.getElem?_eq_none (RR.length ▸ hk)) fun h' hsb => ?_)
 show wpAny _ _ (Builtin.Dict.addKeywords D [] >>= _) _ _ _
 refine wpAny_bind (wpAny_pure (wpAny_pure ?_))
 obtain ⟨o, ho, hc, _⟩ := id st
 refine hR _ ?_ fun b o e hb => hsb b o hb e
 rw [upd_id hD]
 exact (one_fp (tk := s.toks) S hix (fun b hb => by cases List.mem_singleton.mp hb; exact ⟨hi, hiB⟩) ⟨o, ho, hc⟩ (by decide) fun b o hb e => hsb b o (fun h => hb (List.mem_singleton.mpr h)) e).1
theorem dict_step {it D p : Addr} {xs : List V} {R : Result → Shared → Prop} {k : Nat} {es : List (Key × V)} {ep : Nat} {kv vv : V} {kk : Key} (hix : it ∉ ex) (hDp : D ≠ p) (hget : xs[k]? = some (.tup [kv, vv])) (hkk : keyOf kv = some kk) (hsz : es.length < lim)
   (S : X.St ex σ s) (st : s.heap.IsListIter it p k) (hi : σ it = none) (hiB : X.B.get? it = none) (hp : σ p = some (.list xs)) (hD : σ D = some (.dict es ep))
   (hR : ∀ h' ep', X.St ex (upd σ D (.dict (dset es kk vv) ep')) { s with heap := h', toks := s.toks + 1 } → h'.IsListIter it p (k + 1) → (∀ b o, s.heap.get? b = some o → b ≠ it → b ≠ D → h'.get? b = some o) →
     codeAny X.M A (.builtin "dict.update.loop" ⟨[.ref D, .ref it, .int (k + 1 : Nat) 0, .none], []⟩) R { s with heap := h', toks := s.toks + 1 }) :
   codeAny X.M A (.builtin "dict.update.loop" ⟨[.ref D, .ref it, .int k 0, .none], []⟩) R s := by
 haveI := neWd; haveI := neA; haveI := neSh; haveI := neO; haveI := neKey
 revert X σ ex A s it D p xs R k es ep kv vv kk
 refine no_implicit_lambda% letI X := _; letI σ := _; letI ex := _; letI A := _; letI s := _; letI it := _; letI D := _; letI p := _; letI xs := _; letI R := _; letI k := _; letI es := _; letI ep := _; letI kv := _; letI vv := _; letI kk := _; epsX16 1 X σ ex A s it D p xs R k es ep kv vv kk rfl ?_
 intro hix hDp hget hkk hsz S st hi hiB hp hD hR
 refine codeAny_builtin entry_dict_loop ?_
 rw [Around.under_plainId plain_dict_loop _]
 unfold Builtin.«dict.update.loop»
 obtain ⟨_, items, L, RR⟩ := S.lst hp
 revert items; refine letI items := _; epsX1 1 items rfl ?_; set_option tactic.hygienic false in intros
 obtain ⟨v, hv, rv⟩ := RR.get hget
 revert v; refine letI v := _; epsX1 2 v rfl ?_; set_option tactic.hygienic false in intros
 refine wpAny_bind (wpAny_pyNext_list_item (A := A.in1) st L (Array.getElem?_toList.symm.trans hv) fun h' st' hsb => ?_)
 revert h'; refine letI h' := _; epsX1 1 h' rfl ?_; set_option tactic.hygienic false in intros
 obtain ⟨S', t⟩ : X.St ex σ { s with heap := h' } ∧ TK' ex s.heap h' := by
   obtain ⟨o, ho, hc, _⟩ := id st
   exact one_fp (tk := s.toks) S hix (fun b hb => by cases List.mem_singleton.mp hb; exact ⟨hi, hiB⟩) ⟨o, ho, hc⟩ (by decide) fun b o hb e => hsb.extBut b o (fun h => hb (List.mem_singleton.mpr h)) e
 obtain ⟨tp, a1, a2, hv', ot, nt, hot, hct, hdt, ra, rb⟩ : ∃ tp a1 a2, v = .ref tp ∧ ∃ ot nt, h'.get? tp = some ot ∧ ot.cls = .type "tuple" ∧ ot.data = .seq #[a1, a2] nt ∧ RV ex h' kv a1 ∧ RV ex h' vv a2 := by
   have rv' := rv.keep t
   unfold RV at rv'
   obtain ⟨tp, titems, e, ⟨ot, hot, hct, nt, hdt⟩, nx, RT⟩ := rv'
   obtain ⟨a1, a2, hab, ra, rb⟩ := RT.two
   exact ⟨tp, a1, a2, e, ot, nt, hot, hct, by rw [hdt, ← Array.toArray_toList (xs := titems), hab], ra, rb⟩
 rw [hv']
 revert hv' ot nt hot hct hdt ra rb; revert tp a1 a2; refine letI tp := _; letI a1 := _; letI a2 := _; epsX3 4 tp a1 a2 rfl ?_; set_option tactic.hygienic false in intros
 revert ot nt; refine letI ot := _; letI nt := _; epsX2 5 ot nt rfl ?_; set_option tactic.hygienic false in intros
 refine wpAny_bind (wpAny_holding (wpAny_bind (wpAny_tryCatch ?_)))
 unfold Dict.pairItems
 refine wpAny_bind (wpAny_typeOf (T := "tuple") ⟨ot, hot, hct⟩ ?_)
 rw [if_pos (by decide)]
 refine wpAny_bind (wpAny_seqItems hot hdt (wpAny_pure ?_))
 show wpAny _ _ (holding [a1, a2] (dictSet D a1 a2)) _ _ _
 obtain ⟨hl, kvs, DD, RK⟩ := S'.ro _ _ hD
 revert kvs; refine letI kvs := _; epsX1 6 kvs rfl ?_; set_option tactic.hygienic false in intros
 refine wpAny_holding (dictSet_at (knd := keyKind X.prog X.w) (k := kk) (key_ok hkk ra) DD (fun h'' DD' hs'' => ?_) (by rw [sizeLine_eq, RK.length]; simp only [lim] at hl; omega))
 show wpAny _ _ (again (.builtin "dict.update.loop" ⟨[.ref D, .ref it, rawInt (k + 1), .none], []⟩)) _ _ _
 refine wpAny_pure ⟨plainId_quiet plain_dict_loop _, ?_⟩
 have hDi : it ≠ D := fun e => by rw [← e, hi] at hD; exact noneSome hD
 refine hR h'' (if (valueAt kvs kk).isSome then ep else ep + 1) ?_ (st'.at fun o e => hs''.extBut it o hDi e) fun b o e hb hbD => hs''.extBut b o hbD (hsb.extBut b o hb e)
 exact St.change (s := { s with heap := h' }) S' hD hs''.2 fun t => ⟨Nat.le_trans (dset_len es kk vv) hsz, _, DD', stored_eq (Heap.DictAt.nodup DD) (RK.keep t) (rb.keep t)⟩
theorem drop_cons {α : Type} {xs ys : List α} {y : α} {k : Nat} (h : xs.drop k = y :: ys) : xs[k]? = some y ∧ xs.drop (k + 1) = ys := by
 refine ⟨?_, by rw [← List.tail_drop, h]; rfl⟩
 have := List.getElem?_drop (xs := xs) (i := k) (j := 0)
 rw [h] at this
 exact this.symm
theorem dict_loop {it D p : Addr} {xs : List V} {R : Result → Shared → Prop} (hh : A.handled = none) (hix : it ∉ ex) (hDp : D ≠ p) (hiB : X.B.get? it = none) : ∀ (ys : List V) (ps : List (Key × V)) (k : Nat) (es : List (Key × V)) (ep : Nat) (σ : Hp) (s : Shared), xs.drop k = ys → pairsV ys = some ps → es.length + ys.length ≤ lim →
   X.St ex σ s → s.heap.IsListIter it p k → σ it = none → σ p = some (.list xs) → σ D = some (.dict es ep) →
   (∀ s' ep', X.St ex (upd σ D (.dict (mkD es ps) ep')) s' → (∀ b o, s.heap.get? b = some o → b ≠ it → b ≠ D → s'.heap.get? b = some o) → R (.ok (.ret .none)) s') →
   codeAny X.M A (.builtin "dict.update.loop" ⟨[.ref D, .ref it, .int k 0, .none], []⟩) R s
 | [], ps, k, es, ep, σ, s, hx, hps, hsz, S, st, hi, hp, hD, hR => by
   obtain rfl := Option.some.inj hps
   exact dict_end hh hix (List.drop_eq_nil_iff.mp hx) S st hi hiB hp hD fun s' Sf kf => hR s' ep Sf fun b o e h1 _ => kf b o e h1
 | y :: ys, ps, k, es, ep, σ, s, hx, hps, hsz, S, st, hi, hp, hD, hR => by
   obtain ⟨kv, vv, kk, r, rfl, hkk, hr, rfl⟩ := pairsV_cons hps
   obtain ⟨hget, hx'⟩ := drop_cons hx
   rw [List.length_cons] at hsz
   have hDi : it ≠ D := fun e => by rw [← e, hi] at hD; exact noneSome hD
   refine dict_step hix hDp hget hkk (ar_d1 hsz) S st hi hiB hp hD fun h' ep' S' st' kf => ?_
   refine dict_loop hh hix hDp hiB ys r (k + 1) (dset es kk vv) ep' _ _ hx' hr (ar_d2 (dset_len es kk vv) hsz) S' st' (by rw [upd_ne _ _ hDi]; exact hi) (by rw [upd_ne _ _ fun e => hDp e.symm]; exact hp) (upd_same _ _ _) fun s' ep'' Sf kf' => hR s' ep'' ?_ fun b o e h1 h2 => kf' b o (kf b o e h1 h2) h1 h2
   rw [upd_upd] at Sf
   exact Sf
theorem CallV.dictP {p : Addr} {xs : List V} {ps : List (Key × V)} (hp : σ p = some (.list xs)) (hps : pairsV xs = some ps) (h : ∀ c ep, σ c = none → Q (.ref c) (upd σ c (.dict (mkD [] ps) ep))) : CallV X lv (.ty "dict") [.ref p] σ Q := by
 haveI := neWd; haveI := neA; haveI := neSh; haveI := neO; haveI := neKey
 revert X lv σ Q p xs ps
 refine no_implicit_lambda% letI X := _; letI lv := _; letI σ := _; letI Q := _; letI p := _; letI xs := _; letI ps := _; epsX7 1 X lv σ Q p xs ps rfl ?_
 intro hp hps h ex A s fv vals G O S rf rvs
 obtain rfl := rf
 obtain ⟨a, rfl, ra⟩ := rvs.one
 obtain rfl := ra
 revert ex A s; refine letI ex := _; letI A := _; letI s := _; epsX3 1 ex A s rfl ?_; set_option tactic.hygienic false in intros
 obtain ⟨ln, items, PL, RR⟩ := S.ro _ _ hp
 have PL : s.heap.PlainList p items := PL
 have IL := PL.isList
 refine ⟨.ty, ?_⟩
 refine callType_codes (Q₁ := fun obj s₁ => obj = .ref s.heap.objs.size ∧ s₁ = { s with heap := s.heap.push { cls := .type "dict", data := .dict #[] } }) F.kt_called_dict (F.kt_typeCall_dict_1 _) F.entry_dict_init (kt_code_dict_new _ ⟨rfl, rfl⟩) ?_
 rintro obj s₁ ⟨rfl, rfl⟩
 have hnew : (s.heap.push { cls := .type "dict", data := .dict #[] }).DictOf (keyKind X.prog X.w) s.heap.objs.size [] := Heap.DictOf.new s.heap
 have n1 : s.heap.get? s.heap.objs.size = none := Heap.get?_none_of_le (Nat.le_refl _)
 have k1 : ∀ b o, s.heap.get? b = some o → (s.heap.push { cls := .type "dict", data := .dict #[] }).get? b = some o := fun b o e => Heap.get?_push_of_some _ e
 have S₁ : X.St ex (upd σ s.heap.objs.size (.dict [] 0)) { s with heap := s.heap.push { cls := .type "dict", data := .dict #[] } } := St.alloc (o := .dict [] 0) S n1 k1
   ⟨by simp, [], ⟨_, #[], Heap.get?_push_size _ rfl, ⟨rfl, rfl, rfl⟩, rfl, fun e he => by simp at he, .nil, by simp⟩, rfl⟩
 have IL₁ := IL.push { cls := .type "dict", data := .dict #[] }
 obtain ⟨nL, hoL⟩ := PL.at (h' := s.heap.push { cls := .type "dict", data := .dict #[] }) fun o e => k1 p o e
 have hpn : p ≠ s.heap.objs.size := fun e => by rw [e, S.noneAt n1] at hp; exact noneSome hp
 refine ⟨hnew.typeIs, F.args_dict_init_2 _ _, ?_⟩
 unfold Builtin.«dict.__init__»
 refine wpAny_bind ?_
 unfold Builtin.Dict.selfAndRest
 refine wpAny_bind (wpAny_notOrdered_dict hnew.typeIs ?_)
 show wpAny _ _ (pure (s.heap.objs.size, [Value.ref p])) _ _ _
 refine wpAny_pure ?_
 show wpAny _ _ (Builtin.Dict.updateFrom "dict.__init__" s.heap.objs.size (.ref p) [] .none) _ _ _
 unfold Builtin.Dict.updateFrom
 refine wpAny_bind (wpAny_typeOf IL₁.typeIs ?_)
 rw [if_pos (by decide)]
 refine wpAny_bind (wpAny_mono (no_keys (s := { s with heap := s.heap.push { cls := .type "dict", data := .dict #[] } }) hoL rfl rfl rfl O.1 (Q := fun r s' => r = Option.none ∧ ∃ h' tk, s' = { s with heap := h', toks := tk } ∧ ∀ b o, (s.heap.push { cls := .type "dict", data := .dict #[] }).get? b = some o → h'.get? b = some o) fun h' tk k2 => ⟨rfl, h', tk, rfl, k2⟩) (fun r s' ⟨hr, h', tk, hs', k2⟩ => ?_) fun _ _ e => e.elim)
 subst hr hs'
 revert h' tk; refine letI h' := _; letI tk := _; epsX2 2 h' tk rfl ?_; set_option tactic.hygienic false in intros
 rw [if_pos (by rfl)]
 have S₂ : X.St ex (upd σ s.heap.objs.size (.dict [] 0)) { s with heap := h', toks := tk } := S₁.grow k2
 have IL₂ : h'.IsList p items := IL₁.at fun o e => k2 p o e
 refine wpAny_bind (wpAny_rule (wpAny_bind (wpAny_pyIter_list IL₂ (wpAny_pure ⟨plainId_quiet plain_dict_loop _, ?_⟩))))
 have n3 : h'.get? h'.objs.size = none := Heap.get?_none_of_le (Nat.le_refl _)
 have k3 : ∀ b o, h'.get? b = some o → (h'.push { cls := .type "list_iterator", data := .fields #[.ref p, .int 0 0] }).get? b = some o := fun b o e => Heap.get?_push_of_some _ e
 have S₃ : X.St ex (upd σ s.heap.objs.size (.dict [] 0)) { s with heap := h'.push { cls := .type "list_iterator", data := .fields #[.ref p, .int 0 0] }, toks := tk } := St.grow (s := { s with heap := h', toks := tk }) S₂ k3
 refine dict_loop (X := X) (A := A.in1) (σ := upd σ s.heap.objs.size (.dict [] 0)) (xs := xs) (p := p) (show A.in1.handled = none from O.1) (S₂.exFresh n3) (fun e => hpn e.symm) S₂.fresh.2 xs ps 0 [] 0 _ rfl hps (by simpa using ln) S₃ ⟨_, Heap.get?_push_size _ rfl, rfl, rfl⟩ S₂.fresh.1 (by rw [upd_ne _ _ hpn]; exact hp) (upd_same _ _ _) fun s' ep' Sf kf => ?_
 rw [upd_upd] at Sf
 refine ⟨rfl, .ref s.heap.objs.size, _, rfl, Sf, ⟨fun b o e n _ => ?_, fun _ hm => nomatch hm⟩, h _ _ S.fresh.1⟩
 have hbD : b ≠ s.heap.objs.size := Nat.ne_of_lt (Heap.lt_size e)
 have hbi : b ≠ h'.objs.size := Nat.ne_of_lt (Heap.lt_size (k2 b o (k1 b o e)))
 refine ⟨kf b o (k3 b o (k2 b o (k1 b o e))) hbi hbD, by rw [upd_ne _ _ hbD]; exact n⟩
end
end Mine.Internal
set_option tactic.hygienic true
namespace Mine.Internal
open PySem PySem.W PySem.Calls PyProof.Rows PySem.SeqAt
structure SupAt (X : Wd) (f f2 C D cc cda : Addr) (fd : FuncData) (bv : Str) : Prop where
 look : ∃ oc od osl, X.K.lookup f = some ⟨oc, od, .func fd, osl⟩
 shape : fd.params = ⟨[], fd.params.args, none, [], [], none, []⟩
 args : ∃ p, fd.params.args = [⟨Str.ofString "self", none, p⟩]
 dflt : fd.defaults = .none
 clo : fd.closure = [(Str.ofString "__class__", cc)]
 glob : fd.globals = mainGlobals
 blt : fd.builtins = builtinsNs
 co : fd.scope.isCoroutine = false
 gen : fd.scope.isGenerator = false
 kind : fd.scope.kind = .function
 nocell : ∀ x ∈ fd.scope.names, x.2 ≠ .cell
 self : fd.scope.names.lookup (Str.ofString "self") = some .local
 sup : fd.scope.names.lookup (Str.ofString "super") = some .globalImplicit
 cls : fd.scope.names.lookup (Str.ofString "__class__") = some .free
 body : ∃ p0 p1 p2 p3 p4 p5 p6 p7 p8, fd.body = .stmts [.Expr (.Call (.Attribute (.Call (.Name "super" p0) [] [] p1) "__init__" p2) [] [] p3) p4, .Assign [.Attribute (.Name (Str.ofString "self") p5) bv p6] (.Dict [] [] p7) p8] ∧ (p2.endLine == p3.line) = true
 code : fd.code = .ref cda
 recd : codeIn X.K fd.code fd.qualname = true
 file : ∃ ccl cdd vs ccs file tf, X.K.lookup cda = some ⟨ccl, cdd, .fields vs, ccs⟩ ∧ vs[2]? = some (.str file tf) ∧ ((X.prog.main.file : Str) == file) = true
 top : (X.prog.main.scope.names.lookup ("super" : Str)).isSome = false
 cell : ∃ cl cld csl, X.K.lookup cc = some ⟨cl, cld, .cell (some (.ref D)), csl⟩
 clsD : ∃ cdD, clsIn X.K D = some cdD
 sub : mroIn X.K C (.ref D) = some true
 opaq : nsIn X.K cStatics "thirdparty.any" = some none
 meth : ks_superIn X.K C D "__init__" = some (some (.ref f2))
 fn : typeIn X.K (.ref f2) = some (.type "function")
 fnD : ∃ oc od fd2 osl, X.K.lookup f2 = some ⟨oc, od, .func fd2, osl⟩
 gsup : X.G (Str.ofString "super") = some (.ty "super")
 set : SetAt X.K C bv
section
variable {X : Wd} {lv : Nat} {σ : Hp} {Q : V → Hp → Prop}
theorem CodeV.supInit {f f2 C D cc cda x dx : Addr} {fd : FuncData} {bv : Str} {des : List (Key × V)} {ep : Nat} (H : SupAt X f f2 C D cc cda fd bv) (hx : σ x = some (.inst C dx)) (hd : σ dx = some (.dict des ep))
   (h : CodeV X lv (.ref f2) [.ref x] σ fun v σ' => ∃ des' ep', σ' x = some (.inst C dx) ∧ σ' dx = some (.dict des' ep') ∧ des'.length < lim ∧ ∀ c, σ' c = none → Q .none (upd (upd σ' c (.dict [] 0)) dx (.dict (dset des' (.str bv) (.ref c)) (if (dlook des' (.str bv)).isSome then ep' else ep' + 1)))) :
   CodeV X (lv + 1) (.ref f) [.ref x] σ Q := by
 haveI := neWd
 haveI := neSh
 haveI := neA
 unfold CodeV
 revert X lv σ Q f f2 C D cc cda x dx fd bv des ep
 refine no_implicit_lambda% letI X := _; letI lv := _; letI σ := _; letI Q := _; letI f := _; letI f2 := _; letI C := _; letI D := _; letI cc := _; letI cda := _; letI x := _; letI dx := _; letI fd := _; letI bv := _; letI des := _; letI ep := _; epsX16 1 X lv σ Q f f2 C D cc cda x dx fd bv des ep rfl ?_
 intro H hx hd h
 refine letI ex := _; letI A := _; letI s := _; epsX3 2 ex A s rfl ?_
 intro fv vals G O S rf rvs
 obtain rfl := rf
 obtain ⟨va, rfl, ra⟩ := rvs.one
 obtain rfl := ra
 refine letI oc := _; letI od := _; letI osl := _; have hK := exX3 3 oc od osl rfl (H.look); ?_
 refine letI pp := _; have hargs := exX1 4 pp rfl (H.args); ?_
 refine letI p0 := _; letI p1 := _; letI p2 := _; letI p3 := _; letI p4 := _; letI p5 := _; letI p6 := _; letI p7 := _; letI p8 := _; have hbl := exX9 5 p0 p1 p2 p3 p4 p5 p6 p7 p8 rfl (H.body); ?_
 obtain ⟨hbody, hline⟩ := hbl
 have hK' := S.base _ _ (G.kin _ _ hK)
 have kin : X.K.In s.heap := fun b o e => S.base b o (G.kin b o e)
 have hbind : bindArgs fd ⟨[.ref x], []⟩ = pure ([Str.ofString "self"].zip [.ref x]) := by
   have := bindArgs_plain (vals := [Value.ref x]) H.shape H.dflt (by rw [hargs]; rfl) (by rw [hargs]; simp)
   rw [hargs] at this
   exact this
 refine ks_codeAny_call_defAt O.room hK' rfl (G.gd.nolimit.keeps S.base) (codeRec_of kin H.recd) hbody (BindsTo.of_eq hbind) H.nocell (fun y hy => ?_) ?_ H.co H.gen H.kind
 · simp at hy; subst hy; exact H.self
 refine letI h₀ := _; epsX1 6 h₀ rfl ?_
 intro hns k0
 refine letI ccl := _; letI cdd := _; letI vs := _; letI ccs := _; letI file := _; letI tf := _; have hfl := exX6 7 ccl cdd vs ccs file tf rfl (H.file); ?_
 obtain ⟨hcode, hvs, hfile⟩ := hfl
 refine letI cl := _; letI cld := _; letI csl := _; have hcell := exX3 8 cl cld csl rfl (H.cell); ?_
 refine letI cdD := _; have hclsD := exX1 9 cdD rfl (H.clsD); ?_
 have k1 : ∀ b o, s.heap.get? b = some o → h₀.get? b = some o := k0
 have S₁ : X.St ex σ { s with heap := h₀, toks := s.toks + 1 } := S.grow k1
 have kin₁ : X.K.In h₀ := fun b o e => k1 b o (kin b o e)
 obtain ⟨oD, hD1, hD2⟩ : ∃ oD, h₀.get? D = some oD ∧ oD.data = .cls cdD := by
   unfold clsIn at hclsD
   split at hclsD
   · rename_i c d cd' sl ho
     obtain rfl := Option.some.inj hclsD
     exact ⟨_, kin₁ _ _ ho, rfl⟩
   · exact noneSome hclsD
 have hxo : h₀.get? x = some (instObj C dx) := S₁.ro _ _ hx
 have hL : s.heap.get? s.heap.objs.size = none := Heap.get?_none_of_le (Nat.le_refl _)
 generalize henv : callEnv fd s.heap.objs.size f = env
 have e1 : env.kindOf (Str.ofString "super") = some .globalImplicit := by rw [← henv]; exact H.sup
 have e2 : env.kindOf (Str.ofString "__class__") = some .free := by rw [← henv]; exact H.cls
 have e3 : env.kindOf (Str.ofString "self") = some .local := by rw [← henv]; exact H.self
 have e4 : env.func = some f := by rw [← henv]; rfl
 have e5 : env.code = .ref cda := by rw [← henv]; exact H.code
 have e6 : env.scope.kind = .function := by rw [← henv]; exact H.kind
 have e7 : env.locals = s.heap.objs.size := by rw [← henv]; rfl
 have e8 : env.cells.lookup (Str.ofString "__class__") = some cc := by
   rw [← henv]
   show fd.closure.lookup _ = _
   rw [H.clo]; simp
 have e9 : env.globals = mainGlobals := by rw [← henv]; exact H.glob
 have e10 : env.builtins = builtinsNs := by rw [← henv]; exact H.blt
 have hns' : h₀.Ns env.locals (fun y => [(Str.ofString "self", Value.ref x)].reverse.lookup y) := by rw [e7]; exact hns
 refine ks_wpAt_execs_cons (ks_wpAt_Expr_any (ks_wpAt_MethodCall (pl := do return (← importBound (.Call (.Name "super" p0) [] [] p1) env).getD true) ?_ ?_) ?_)
 · refine ks_wpAt_super_base (env := env) e1 e2 (by decide) e4 (k1 _ _ hK') rfl (ar := ⟨Str.ofString "self", none, pp⟩) (by rw [H.shape, hargs]; rfl) e5 (kin₁ _ _ hcode) rfl hvs hfile H.top ?_
   have lg : ∀ {P : Value → Shared → Prop}, P (.type "super") { s with heap := h₀, toks := s.toks + 1 } → wpAny X.M (A.deeper env) (loadGlobal env (Str.ofString "super")) P (fun e s' => wpAny X.M (A.deeper env) (leaving env e) (fun _ s'' => F0 e s'') (fun e' s'' => F0 e' s'') s') { s with heap := h₀, toks := s.toks + 1 } := fun hP => by
     obtain ⟨mg, mb, hmg, hmb, hg⟩ := G.gd.glob
     rcases hg _ _ H.gsup with ⟨val, h1, h2⟩ | ⟨h0, val, h1, h2⟩
     · obtain rfl := h2; exact loadGlobal_global (by rw [e9]; exact hmg.keeps S₁.base) h1 hP
     · obtain rfl := h2; exact loadGlobal_builtin (by rw [e9]; exact hmg.keeps S₁.base) h0 (by rw [e10]; exact hmb.keeps S₁.base) h1 hP
   refine ks_loadName_global e6 e1 (lg ⟨rfl, ?_⟩)
   refine wpAny_loadName_free e6 e2 e8 ⟨_, kin₁ _ _ hcell, rfl⟩ ?_
   refine wpAny_loadName_local e6 e3 hns' (v := .ref x) rfl ?_
   refine ks_wpAny_isType_cls hD1 hD2 ⟨rfl, ?_⟩
   refine ks_wpAny_call_super (C := C) hD1 hD2 hxo rfl (fun c e => by cases e) (looks_mroIn kin₁ H.sub) ?_
   refine letI h₂ := _; epsX1 10 h₂ rfl ?_
   intro hso k2
   have S₂ : X.St ex σ { s with heap := h₂, toks := s.toks + 1 } := St.grow (s := { s with heap := h₀, toks := s.toks + 1 }) S₁ k2
   have kin₂ : X.K.In h₂ := fun b o e => k2 b o (kin₁ b o e)
   cases hc : clsIn X.K C with
   | none => have := H.meth; unfold ks_superIn at this; rw [hc] at this; exact noneSome this
   | some cdC =>
     have hm := H.meth
     unfold ks_superIn at hm
     rw [hc, Option.bind_some] at hm
     obtain ⟨oc2, od2, fd2, osl2, hf2⟩ := H.fnD
     have hcls2 : (⟨oc2, od2, .func fd2, osl2⟩ : Obj).cls = .type "function" := by
       have ht' : (X.K.lookup f2).map (·.cls) = some (.type "function") := H.fn
       rw [hf2] at ht'; exact Option.some.inj ht'
     have hxC : x ≠ C := by
       intro q0
       rw [← q0] at hc
       unfold clsIn at hc
       split at hc
       · rename_i c d cd' sl ho
         have e := kin₁ _ _ ho
         rw [hxo] at e; cases e
       · exact noneSome hc
     refine ks_wpAny_getMethod_super (D := D) (x := x) (C := C) hso (looks_opaque kin₂ H.opaq) (l₀ := cdC.mro) (fun A Q E s k q => wpAny_bind ((looks_clsIn kin₂ hc) A _ E s k (wpAny_pure q))) rfl kin₂ hm (kin₂ _ _ hf2) hcls2 hxC (by decide) ?_
     have k3 : ∀ b o, h₂.get? b = some o → (h₂.push { cls := .type "method", data := .fields #[.ref f2, .ref x] }).get? b = some o := fun b o e => Heap.get?_push_of_some _ e
     have S₃ : X.St ex σ { s with heap := h₂.push { cls := .type "method", data := .fields #[.ref f2, .ref x] }, toks := s.toks + 1 + 1 } := St.grow (s := { s with heap := h₂, toks := s.toks + 1 }) S₂ k3
     have hmo : (h₂.push { cls := .type "method", data := .fields #[.ref f2, .ref x] }).get? h₂.objs.size = some { cls := .type "method", dict := none, data := .fields #[.ref f2, .ref x], slots := #[] } := Heap.get?_push_size _ rfl
     have kin₃ : X.K.In (h₂.push { cls := .type "method", data := .fields #[.ref f2, .ref x] }) := fun b o e => k3 b o (kin₂ b o e)
     have kw : KeepsWell X (h₂.push { cls := .type "method", data := .fields #[.ref f2, .ref x] }) (.ref h₂.objs.size) := ⟨.boundFrame, .inr (.inr rfl), (Looks.ld (part := none) hmo).andThen ((Looks.ld (part := none) (kin₃ _ _ hf2)).andThen .now)⟩
     refine callWith_of (P := fun h => KeepsWell X h (.ref h₂.objs.size)) rfl (fun h x => x) (evalArgs_nil3 ⟨kw, wpAny_call (ks_codeAny_call_bound hmo (codeAny_mono (h ex (A.deeper env) _ (.ref f2) [.ref x] G (O.deeper env) S₃ rfl (RVs.cons rfl RVs.nil)) fun r s₄ z => ?_))⟩)
     rcases r with e | (_ | _ | _ | v)
     · exact z.elim
     · exact z.elim
     · exact z.elim
     · exact z.elim
     obtain ⟨vv, σ₄, rv, S₄, k₄, z⟩ := z
     refine letI des' := _; letI ep' := _; have z := exX2 11 des' ep' rfl (z); ?_
     obtain ⟨hx', hd', hlt, q⟩ := z
     have kk : ∀ b o, s.heap.get? b = some o → (h₂.push { cls := .type "method", data := .fields #[.ref f2, .ref x] }).get? b = some o := fun b o e => k3 b o (k2 b o (k1 b o e))
     have kA : Keep [] σ s.heap σ₄ s₄.heap := (Keep.grow kk).trans k₄
     have hns₄ : s₄.heap.Ns env.locals (fun y => [(Str.ofString "self", Value.ref x)].reverse.lookup y) := by
       obtain ⟨oL, es, epL, hoL, r⟩ := hns'
       refine ⟨oL, es, epL, k₄.at (k3 _ _ (k2 _ _ hoL)) ?_, r⟩
       rw [e7]; exact S.noneAt hL
     refine wpAt_of_wpAny (wpAny_execs_cons (wpAny_Assign_stores (wpAny_Dict_empty ?_) rfl rfl))
     have kD : ∀ b o, s₄.heap.get? b = some o → (s₄.heap.push { cls := .type "dict", data := .dict #[] }).get? b = some o := fun b o e => Heap.get?_push_of_some _ e
     have nD : s₄.heap.get? s₄.heap.objs.size = none := Heap.get?_none_of_le (Nat.le_refl _)
     have S₅ : X.St ex (upd σ₄ s₄.heap.objs.size (.dict [] 0)) { s₄ with heap := s₄.heap.push { cls := .type "dict", data := .dict #[] } } := St.alloc (o := .dict [] 0) S₄ nD kD
       ⟨by simp, [], ⟨_, #[], Heap.get?_push_size _ rfl, ⟨rfl, rfl, rfl⟩, rfl, fun e he => by simp at he, .nil, by simp⟩, rfl⟩
     have k₅ := Keep.alloc (σ := σ₄) (o := .dict [] 0) nD kD
     have kin₅ : X.K.In (s₄.heap.push { cls := .type "dict", data := .dict #[] }) := fun b o e => S₅.base b o (G.kin b o e)
     have hcn : σ₄ s₄.heap.objs.size = none := S₄.noneAt nD
     have hx5 : upd σ₄ s₄.heap.objs.size (.dict [] 0) x = some (.inst C dx) := upd_ne _ _ (by intro q0; rw [q0, hcn] at hx'; exact noneSome hx') |>.trans hx'
     have hd5 : upd σ₄ s₄.heap.objs.size (.dict [] 0) dx = some (.dict des' ep') := upd_ne _ _ (by intro q0; rw [q0, hcn] at hd'; exact noneSome hd') |>.trans hd'
     show wpAny X.M _ (do let ov ← holding [_] (eval (.Name (Str.ofString "self") p5) env); standAt p6.atName; holding [_, ov] (setAttr ov bv _); release [_, ov] []) _ _ _
     refine wpAny_bind (wpAny_holding (wpAny_Name (wpAny_loadName_local e6 e3 (hns₄.keeps kD) (v := .ref x) rfl ?_) (by decide)))
     refine wpAny_bind (wpAny_standAt (wpAny_bind (wpAny_holding (wpAny_mono (setAttr_ok (v := .ref s₄.heap.objs.size) (Kc := fun σ => Q .none σ) S₅ kin₅ H.set hx5 hd5 hlt rfl (q _ hcn)) (fun _ s₆ ⟨σ₆, S₆, k₆, q₆⟩ => wpAny_release' ?_) fun _ _ e => e.elim))))
     exact wpAny_execs_nil ⟨.none, σ₆, rfl, S₆, (kA.trans k₅).trans k₆, q₆⟩
 · have hpos : methodCallPos true (.Call (.Name "super" p0) [] [] p1) env p2 p3 = pure p3 := by unfold methodCallPos; simp [hline]
   have hform : methodCallForm (([] : List PySem.Expr).length + ([] : List Keyword).length) (backTo p3 (starEach [] env)) (backToKw p3 (keywordEach [] env)) = true := rfl
   rw [arm_eval_Call]
   unfold methodCall
   rw [hform]
   simp only [hpos, pure_bind]
   rfl
 · unfold interactive
   rw [e6]; simp
end
end Mine.Internal
set_option tactic.hygienic false
namespace Mine.Internal
open PySem PySem.W PySem.Calls PyProof.Rows PySem.SeqAt
inductive All2 {α β : Type} (R : α → β → Prop) : List α → List β → Prop
 | nil : All2 R [] []
 | cons {a b l r} : R a b → All2 R l r → All2 R (a :: l) (b :: r)
theorem All2.snoc {α β : Type} {R : α → β → Prop} {a : α} {b : β} : ∀ {l : List α} {r : List β}, All2 R l r → R a b → All2 R (l ++ [a]) (r ++ [b])
 | _, _, .nil, h => .cons h .nil
 | _, _, .cons x y, h => .cons x (y.snoc h)
theorem All2.len {α β : Type} {R : α → β → Prop} : ∀ {l : List α} {r : List β}, All2 R l r → r.length = l.length
 | _, _, .nil => rfl
 | _, _, .cons _ y => by simp [y.len]
theorem All2.fn {α : Type} {R : Int → V → Prop} {e : Int → α → V} {P : Int → α → Prop} (z : α) (hR : ∀ u y, R u y → ∃ q, y = e u q ∧ P u q) : ∀ {S : List Int} {ys : List V}, All2 R S ys → S.Nodup → ∃ f : Int → α, ys = S.map (fun u => e u (f u)) ∧ ∀ u ∈ S, P u (f u)
 | _, _, .nil, _ => ⟨fun _ => z, rfl, fun _ h => nomatch h⟩
 | a :: S, _, .cons h y, hn => by
   rw [List.nodup_cons] at hn
   obtain ⟨q, rfl, hq⟩ := hR _ _ h
   obtain ⟨f, rfl, hf⟩ := y.fn z hR hn.2
   refine ⟨fun u => if u = a then q else f u, ?_, fun u hu => ?_⟩
   · rw [List.map_cons]
     congr 1
     · simp
     · exact List.map_congr_left fun u hu => by
         have : u ≠ a := by rintro rfl; exact hn.1 hu
         simp [this]
   · by_cases e : u = a
     · subst e; simpa using hq
     · simp only [e, if_false]
       exact hf u ((List.mem_cons.mp hu).resolve_left e)
noncomputable def Has (l : Loc) : Ls → Prop
 | [] => True
 | (x, v) :: r => l x = some v ∧ Has l r
theorem Has.sub {l : Loc} : ∀ {L : Ls}, Has l L → ∀ x v, ofL L x = some v → l x = some v
 | [], _, x, v, e => by simp [ofL] at e
 | (y, u) :: r, h, x, v, e => by
   unfold ofL at e
   rw [List.lookup_cons] at e
   by_cases hx : x = y
   · subst hx; simp at e; subst e; exact h.1
   · have : (x == y) = false := by simpa using hx
     rw [this] at e
     exact Has.sub h.2 x v e
section
variable {X : Wd} {sc : Scope} {lv : Nat} {l : Loc} {σ : Hp} {ex : List Addr} {A : Around} {env : Env} {s : Shared} {L : Ls}
theorem Wd.At.has (T : X.At sc lv ex A env l σ s) (h : Has l L) : X.At sc lv ex A env (ofL L) σ s := ⟨T.good, T.ok, T.st, T.fr.sub h.sub⟩
theorem Ex.has {b : List Stmt} {Q : Fi → Prop} (h : Has l L) (e : Ex X sc lv (ofL L) σ b Q) : Ex X sc lv l σ b Q := fun ex A env s T => e ex A env s (T.has h)
theorem As.has {t : PySem.Expr} {v : V} {Q : Loc → Hp → Prop} (h : Has l L) (e : As X sc lv (ofL L) σ t v Q) : As X sc lv l σ t v Q := fun ex A env s T => e ex A env s (T.has h)
end
section
variable {X : Wd} {sc : Scope} {lv : Nat} {l : Loc} {σ σ' σ'' : Hp} {ex ex₀ : List Addr} {A : Around} {env : Env} {s s' s'' : Shared} {pos : Pos} {Q : V → Hp → Prop}
theorem veqsW_nil (f : V → V → Option Bool) (xs : List V) : (if xs.length = ([] : List V).length then veqsW f xs [] else some false) = some (decide (xs = [])) := by
 cases xs with
 | nil => simp [veqsW]
 | cons x r => simp
theorem veq1_ref (f : V → V → Option Bool) (p q : Addr) : veq1 σ f (.ref p) (.ref q) = if p = q then none else veqR' f (σ p) (σ q) := rfl
theorem vne_ref (p q : Addr) : vne σ (.ref p) (.ref q) = if p = q then none else (veqR' (veqN σ 6) (σ p) (σ q)).map (!·) := by
 unfold vne; rw [veq1_ref]
 cases Decidable.em (p = q) with
 | inl e => rw [if_pos e, if_pos e]; rfl
 | inr e => rw [if_neg e, if_neg e]
theorem cmpP.eqNil {p q : Addr} {xs : List V} (hp : σ p = some (.list xs)) (hq : σ q = some (.list [])) (hne : p ≠ q) (h : Q (.bool (decide (xs = []))) σ) : cmpP .Eq (.ref p) (.ref q) σ Q := by
 refine ⟨_, ?_, h⟩
 rw [veq1_ref, if_neg hne, hp, hq]
 exact veqsW_nil _ _
theorem cmpP.neNil {p q : Addr} {xs : List V} (hp : σ p = some (.list xs)) (hq : σ q = some (.list [])) (hne : p ≠ q) (h : Q (.bool (!decide (xs = []))) σ) : cmpP .NotEq (.ref p) (.ref q) σ Q := by
 refine ⟨_, ?_, h⟩
 rw [vne_ref, if_neg hne, hp, hq]
 show Option.map _ (if xs.length = ([] : List V).length then veqsW _ xs [] else some false) = _
 rw [veqsW_nil]; rfl
theorem cmpP.neB {a b : Bool} (h : Q (.bool (!(a == b))) σ) : cmpP .NotEq (.bool a) (.bool b) σ Q := ⟨_, rfl, h⟩
theorem cmpP.eqB {a b : Bool} (h : Q (.bool (a == b)) σ) : cmpP .Eq (.bool a) (.bool b) σ Q := ⟨_, rfl, h⟩
theorem veqN_int {n : Nat} {a b : Int} : veqN σ (n + 1) (.int a) (.int b) = some (decide (a = b)) := rfl
theorem veqN_bool {n : Nat} {a b : Bool} : veqN σ (n + 1) (.bool a) (.bool b) = some (a == b) := rfl
theorem veqN_tup {n : Nat} {a b : List V} : veqN σ (n + 1) (.tup a) (.tup b) = veqsW (veqN σ n) a b := rfl
theorem veqs_q {n : Nat} {a b c d : Int} : veqsW (veqN σ (n + 1)) [.int a, .int b] [.int c, .int d] = some (decide (a = c) && decide (b = d)) := by
 simp only [veqsW, veqN_int, Option.bind_some, Bool.and_true]
theorem veqN_q {n : Nat} {a b c d : Int} : veqN σ (n + 2) (.tup [.int a, .int b]) (.tup [.int c, .int d]) = some (decide (a = c) && decide (b = d)) := by
 rw [veqN_tup, veqs_q]
theorem cmpP.eqQ {a b c d : Int} (h : Q (.bool (decide (a = c) && decide (b = d))) σ) : cmpP .Eq (.tup [.int a, .int b]) (.tup [.int c, .int d]) σ Q := ⟨_, veqs_q, h⟩
theorem cmpP.inI {p : Addr} {i : Int} {ns : List Int} (hp : σ p = some (.list (ns.map .int))) (h : Q (.bool (decide (i ∈ ns))) σ) : cmpP .In (.int i) (.ref p) σ Q := by
 show inO (.int i) (σ p) _
 rw [hp]
 exact ⟨_, congrArg (Option.map _) (intsOf_map ns), h⟩
theorem sliceL.drop {ro : Hp} {p : Addr} {a : Int} {xs : List V} (hp : σ p = some (.list xs)) (ha : 0 ≤ a) (h : ∀ c, σ c = none → Q (.ref c) (upd σ c (.list (xs.drop a.toNat)))) : sliceL ro (.ref p) (.int a) .none .none σ Q :=
 ⟨xs, .inl hp, some a, none, none, _, rfl, rfl, rfl, if_pos ha, h⟩
theorem sliceL.take {ro : Hp} {p : Addr} {a : Int} {xs : List V} (hp : σ p = some (.list xs) ∨ ro p = some (.list xs)) (ha : 0 ≤ a) (h : ∀ c, σ c = none → Q (.ref c) (upd σ c (.list (xs.take a.toNat)))) : sliceL ro (.ref p) .none (.int a) .none σ Q :=
 ⟨xs, hp, none, some a, none, _, rfl, rfl, rfl, if_pos ha, h⟩
theorem sliceL.rev {ro : Hp} {p : Addr} {xs : List V} (hp : σ p = some (.list xs)) (h : ∀ c, σ c = none → Q (.ref c) (upd σ c (.list xs.reverse))) : sliceL ro (.ref p) .none .none (.int (-1)) σ Q :=
 ⟨xs, .inl hp, none, none, some (-1), _, rfl, rfl, rfl, rfl, h⟩
noncomputable def dE (us : List Int) (g : Int → V) : List (Key × V) := us.map fun u => (.int u, g u)
theorem dE_isI (us : List Int) (g : Int → V) : (dE us g).all (·.1.isI) = true := by
 simp [dE, List.all_map, Key.isI]
theorem dE_look {us : List Int} {g : Int → V} {u : Int} (h : u ∈ us) : dlook (dE us g) (.int u) = some (g u) := by
 induction us with
 | nil => cases h
 | cons a r ih =>
   unfold dE
   rw [List.map_cons, dlook]
   by_cases e : a = u
   · subst e; simp
   · rw [if_neg (by simpa using e)]
     exact ih ((List.mem_cons.mp h).resolve_left fun h => e h.symm)
theorem dE_look_none {us : List Int} {g : Int → V} {u : Int} (h : u ∉ us) : dlook (dE us g) (.int u) = none := by
 induction us with
 | nil => rfl
 | cons a r ih =>
   simp only [List.mem_cons, not_or] at h
   unfold dE
   rw [List.map_cons, dlook, if_neg (by simpa using fun e => h.1 e.symm)]
   exact ih h.2
theorem dE_len (us : List Int) (g : Int → V) : (dE us g).length = us.length := by simp [dE]
theorem dE_congr {us : List Int} {g g' : Int → V} (h : ∀ u ∈ us, g u = g' u) : dE us g = dE us g' := by
 unfold dE
 exact List.map_congr_left fun u hu => by rw [h u hu]
theorem dE_keys (us : List Int) (g : Int → V) : (dE us g).map (·.1) = us.map Key.int := by simp [dE]
theorem dset_dE {us : List Int} {g : Int → V} {u : Int} (h : u ∉ us) (v : V) : dset (dE us g) (.int u) v = dE (us ++ [u]) (fun x => if x = u then v else g x) := by
 rw [dset_new _ (dE_look_none h)]
 unfold dE
 rw [List.map_append]
 congr 1
 · exact List.map_congr_left fun x hx => by
     have : x ≠ u := by rintro rfl; exact h hx
     simp [this]
 · simp
set_option tactic.hygienic true in
theorem dlook_dset_same (es : List (Key × V)) (k : Key) (v : V) : dlook (dset es k v) k = some v := by
 induction es with
 | nil => simp [dset, dlook]
 | cons a r ih =>
   obtain ⟨k', u⟩ := a
   unfold dset
   split
   · rename_i e; subst e; simp [dlook]
   · rename_i e; rw [dlook, if_neg e]; exact ih
theorem dset_dE_old {g : Int → V} {u : Int} (v : V) : ∀ {us : List Int}, us.Nodup → u ∈ us → dset (dE us g) (.int u) v = dE us (fun x => if x = u then v else g x)
 | [], _, h => nomatch h
 | a :: us, hn, h => by
   rw [List.nodup_cons] at hn
   show dset ((Key.int a, g a) :: dE us g) (.int u) v = (Key.int a, if a = u then v else g a) :: dE us _
   unfold dset
   by_cases e : a = u
   · subst e
     rw [if_pos rfl, if_pos rfl]
     congr 1
     exact dE_congr fun x hx => by
       have : x ≠ a := by rintro rfl; exact hn.1 hx
       simp [this]
   · rw [if_neg (by simpa using e), if_neg e, dset_dE_old v hn.2 ((List.mem_cons.mp h).resolve_left fun h => e h.symm)]
theorem veqdW_all {f : V → V → Option Bool} {fs : List (Key × V)} : ∀ {es : List (Key × V)}, (∀ p ∈ es, ∃ v, dlook fs p.1 = some v ∧ f p.2 v = some true) → veqdW f fs es = some true
 | [], _ => rfl
 | (k, x) :: es, h => by
   obtain ⟨v, h1, h2⟩ := h (k, x) List.mem_cons_self
   unfold veqdW
   rw [h1]
   simp only [h2, Option.bind_some]
   rw [veqdW_all fun p hp => h p (List.mem_cons_of_mem _ hp)]
   rfl
theorem veqR_dE {f : V → V → Option Bool} {us : List Int} {g g' : Int → V} {ep ep' : Nat} (h : ∀ u ∈ us, f (g u) (g' u) = some true) : veqR' f (some (.dict (dE us g) ep)) (some (.dict (dE us g') ep')) = some true := by
 unfold veqR'
 simp only [dE_isI, Bool.and_self, if_true, dE_len]
 refine veqdW_all fun p hp => ?_
 obtain ⟨u, hu, rfl⟩ := List.mem_map.mp hp
 exact ⟨g' u, dE_look hu, h u hu⟩
theorem veqR_dE0 {f : V → V → Option Bool} {us : List Int} {g : Int → V} {ep ep' : Nat} : veqR' f (some (.dict (dE us g) ep)) (some (.dict [] ep')) = some (decide (us = [])) := by
 unfold veqR'
 simp only [dE_isI, Bool.true_and, List.all_nil, if_true, dE_len, List.length_nil]
 cases us with
 | nil => rfl
 | cons u r => rfl
theorem cmpP.neD {p q : Addr} {us : List Int} {g g' : Int → V} {ep ep' : Nat} (hp : σ p = some (.dict (dE us g) ep)) (hq : σ q = some (.dict (dE us g') ep')) (hne : p ≠ q) (hv : ∀ u ∈ us, veqN σ 6 (g u) (g' u) = some true) (h : Q (.bool false) σ) : cmpP .NotEq (.ref p) (.ref q) σ Q := by
 refine ⟨_, ?_, h⟩
 rw [vne_ref, if_neg hne, hp, hq]
 show Option.map _ (veqR' _ _ _) = _
 rw [veqR_dE hv]; rfl
theorem cmpP.eqD0 {p q : Addr} {us : List Int} {g : Int → V} {ep ep' : Nat} (hp : σ p = some (.dict (dE us g) ep)) (hq : σ q = some (.dict [] ep')) (hne : p ≠ q) (h : Q (.bool (decide (us = []))) σ) : cmpP .Eq (.ref p) (.ref q) σ Q := by
 refine ⟨_, ?_, h⟩
 rw [veq1_ref, if_neg hne, hp, hq]
 exact veqR_dE0
theorem dE_items (us : List Int) (g : Int → V) : ((dE us g).map (·.1)).map Key.toV = us.map V.int := by
 rw [dE_keys, List.map_map]; rfl
theorem mkD_app : ∀ (ps es : List (Key × V)), ((es ++ ps).map (·.1)).Nodup → mkD es ps = es ++ ps
 | [], es, _ => by simp [mkD]
 | p :: r, es, h => by
   unfold mkD
   have hn : dlook es p.1 = none := by
     cases q : dlook es p.1 with
     | none => rfl
     | some v =>
       have := dlook_some_mem q
       rw [List.map_append, List.nodup_append] at h
       exact absurd rfl (h.2.2 _ this _ (by simp))
   rw [dset_new _ hn, mkD_app r (es ++ [p]) (by simpa using h)]
   simp
theorem mkD_dE {us : List Int} {g : Int → V} (h : us.Nodup) : mkD [] (dE us g) = dE us g := by
 rw [mkD_app _ _ (by
   rw [List.nil_append, dE_keys]
   exact List.Pairwise.map _ (fun a b e e' => e (by simpa using e')) h)]
 rfl
theorem pairsV_dE : ∀ (us : List Int) (g : Int → V), pairsV (us.map fun u => .tup [.int u, g u]) = some (dE us g)
 | [], g => rfl
 | u :: us, g => by
   show Option.map _ (pairsV (us.map fun u => .tup [.int u, g u])) = _
   rw [pairsV_dE us g]; rfl
theorem CallV.dictE {p : Addr} {us : List Int} {g : Int → V} (hp : σ p = some (.list (us.map fun u => .tup [.int u, g u]))) (hn : us.Nodup) (h : ∀ c ep, σ c = none → Q (.ref c) (upd σ c (.dict (dE us g) ep))) : CallV X lv (.ty "dict") [.ref p] σ Q :=
 CallV.dictP hp (pairsV_dE us g) (by rw [mkD_dE hn]; exact h)
theorem CallV.strI {a : Int} (ha : a.natAbs < 1000) (h : Q (.str (Str.ofString (toString a))) σ) : CallV X lv (.ty "str") [.int a] σ Q := fun ex A s fv vals G O S rf rvs => by
 obtain rfl := rf
 obtain ⟨_, rfl, rv⟩ := rvs.one
 obtain ⟨t, rfl⟩ := rv
 refine ⟨.ty, P.str_of_int ?_ (PE.str S h)⟩
 by_cases h0 : a.natAbs = 0
 · rw [h0]; decide
 · exact Nat.lt_of_lt_of_le ((Nat.log2_lt h0).mpr (Nat.lt_trans ha (by decide : 1000 < 2 ^ 10))) (by decide)
end
end Mine.Internal
namespace Mine.Internal
theorem ifnt {A B : Prop} (h : B) : if (!true) = true then A else B := by rw [if_neg (by decide)]; exact h
end Mine.Internal
set_option tactic.hygienic false
namespace Mine.Internal
open PySem PySem.W PySem.Calls PyProof.Rows PySem.SeqAt
noncomputable def mtV (v : V) (x : Value) : Bool := match v with
 | .int i => (match x with
   | .int j _ => i == j
   | _ => false)
 | .ref a => (match x with
   | .ref b => a == b
   | _ => false)
 | .ty n => (match x with
   | .type m => n == m
   | _ => false)
 | .bi n => (match x with
   | .builtin m => n == m
   | _ => false)
 | _ => false
theorem mtV_rv {h : Heap} {v : V} {val : Value} (e : mtV v val = true) : RV [] h v val := by
 cases v with
 | int i => cases val with
   | int j t => obtain rfl := eq_of_beq e; exact ⟨_, rfl⟩
   | _ => exact noFalse e
 | ref a => cases val with
   | ref b => obtain rfl := eq_of_beq e; rfl
   | _ => exact noFalse e
 | ty n => cases val with
   | type b => obtain rfl := eq_of_beq e; rfl
   | _ => exact noFalse e
 | bi n => cases val with
   | builtin b => obtain rfl := eq_of_beq e; rfl
   | _ => exact noFalse e
 | _ => exact noFalse e
noncomputable def gchk (es : Array DictEntry) (p : Str × V) : Bool := match nsFind es p.1 with
 | some val => mtV p.2 val
 | none => p.1 != Str.ofString "__name__" && match bootBuiltins p.1 with
   | some val => mtV p.2 val
   | none => false
theorem mem_of_lookup' {α : Type} : ∀ {l : List (Str × α)} {x : Str} {v : α}, l.lookup x = some v → (x, v) ∈ l
 | (y, u) :: r, x, v, h => by
   rw [List.lookup_cons] at h
   by_cases e : x = y
   · subst e; simp at h; subst h; exact List.mem_cons_self
   · have : (x == y) = false := by simpa using e
     rw [this] at h
     exact List.mem_cons_of_mem _ (mem_of_lookup' h)
theorem glob_of {p : Program} {loose : List Str} {mean : ExcName → Option Value} {mg mb : Str → Option Value} {h : Heap} (T : Top p loose mean mg mb h) {o : Obj} {es : Array DictEntry} {ep : Nat} (ho : h.get? mainGlobals = some o) (hd : o.data = .dict es ep) {tab : List (Str × V)} (hc : tab.all (gchk es) = true) :
   ∀ x v, tab.lookup x = some v → (∃ val, mg x = some val ∧ RV [] h v val) ∨ (mg x = none ∧ ∃ val, mb x = some val ∧ RV [] h v val) := by
 intro x v hx
 have hm := mem_of_lookup' hx
 have := List.all_eq_true.mp hc _ hm
 obtain ⟨o', es', ep', ho', hd', _, hf⟩ := T.g
 obtain rfl := Option.some.inj (ho.symm.trans ho')
 injection hd.symm.trans hd' with hd1 hd2
 subst hd1
 unfold gchk at this
 simp only at this
 rw [hf x] at this
 cases e : mg x with
 | some val => rw [e] at this; exact .inl ⟨val, rfl, mtV_rv this⟩
 | none =>
   rw [e] at this
   simp only [Bool.and_eq_true, bne_iff_ne, ne_eq] at this
   obtain ⟨h1, h2⟩ := this
   refine .inr ⟨rfl, ?_⟩
   rw [T.builtins x h1]
   cases e2 : bootBuiltins x with
   | none => rw [e2] at h2; exact noFalse h2
   | some val => rw [e2] at h2; exact ⟨val, rfl, mtV_rv h2⟩
theorem sys_of {p : Program} {loose : List Str} {mean : ExcName → Option Value} {mg mb : Str → Option Value} {h : Heap} (T : Top p loose mean mg mb h) (hi : importsNone p = true) : (h.get? sysModules).isSome = true := by
 obtain ⟨mm, ⟨o, _, _, ho, _⟩, _⟩ := (T.seer hi).mods
 rw [ho]; rfl
theorem join_ex {X : Wd} {s₁ : Shared} {name : Str} {scope : Scope} {fa ls : Addr} {cd : Value} {body : List Stmt} {lv : Nat} {h₁ : Heap} {dr : Drawn} {tk : Nat} {m : Str → Option Value} {P : Flow → Shared → Prop} {E : Value → Shared → Prop}
   (G : X.Good) (hB : X.B = s₁.heap) (hos : X.os = s₁.os) (hlv : lv ≤ 40) (hx : Ex X scope lv (ofL [(Str.ofString "script", .ref ls)]) (fun _ => none) body (kRet fun v _ => v = .bool true)) (hg : s₁.gens = #[])
   (F : Fr s₁.heap s₁.heap.objs.size h₁ m) (hm : m (Str.ofString "script") = some (.ref ls)) (hk : scope.kind = .function) (hs : scope.names.lookup (Str.ofString "script") = some .local) (hc : ∀ x, scope.names.lookup x ≠ some .cell)
   (hd1 : scope.names.lookup (Str.ofString "__debug__") = none) (hd2 : scope.names.lookup (Str.ofString "__classdict__") = none)
   (hP : ∀ s' m', Fr s₁.heap s₁.heap.objs.size s'.heap m' → s'.gens = #[] → s'.os = s₁.os → P (.ret (.bool true)) s') :
   wpAny X.M (callerA.deeper (envOf name scope s₁.heap.objs.size fa cd)) (execs body (envOf name scope s₁.heap.objs.size fa cd)) P E { heap := h₁, gens := s₁.gens, drawn := dr, toks := tk, os := s₁.os } := by
 have lone : ∀ x v, ofL [(Str.ofString "script", V.ref ls)] x = some v → x = Str.ofString "script" ∧ v = .ref ls := fun x v e => by
   unfold ofL at e
   rw [List.lookup_cons] at e
   by_cases h : x = Str.ofString "script"
   · subst h; simp at e; exact ⟨rfl, e.symm⟩
   · have : (x == Str.ofString "script") = false := by simpa using h
     rw [this] at e; simp at e
 have none_of : ∀ x, x ≠ Str.ofString "script" → ofL [(Str.ofString "script", V.ref ls)] x = none := fun x h => by
   cases e : ofL [(Str.ofString "script", V.ref ls)] x with
   | none => rfl
   | some v => exact absurd (lone x v e).1 h
 have hL : s₁.heap.get? s₁.heap.objs.size = none := Heap.get?_none_of_le (Nat.le_refl _)
 have At : X.At scope lv [] (callerA.deeper (envOf name scope s₁.heap.objs.size fa cd)) (envOf name scope s₁.heap.objs.size fa cd) (ofL [(Str.ofString "script", .ref ls)]) (fun _ => none) { heap := h₁, gens := s₁.gens, drawn := dr, toks := tk, os := s₁.os } := by
   refine ⟨G, ⟨rfl, ?_, ?_⟩, ⟨fun b hb => (nomatch hb), fun a o e => (nomatch e), fun a o e => (nomatch e), ?_, hg, hos.symm⟩, ?_⟩
   · show 1 + claimMargin + 1 + 3 * lv + 10 ≤ 900
     have : claimMargin = 300 := rfl
     first | assumption | decide | omega
   · show 4 + 3 + 40 * lv + 100 ≤ 9800
     first | assumption | decide | omega
   · rw [hB]; exact F.keep
   · exact {
       kind := hk
       knd := fun x k hx _ => hx
       globals := rfl
       builtins := rfl
       ns := ⟨m, F.ns, fun x v hx hk => by obtain ⟨rfl, rfl⟩ := lone x v hx; exact ⟨_, hm, rfl⟩⟩
       cells := fun x v hx hk => by obtain ⟨rfl, rfl⟩ := lone x v hx; exact absurd hs hk
       cellsOk := fun x hx => absurd hx (hc x)
       cellsAre := fun x cA hx => (nomatch hx)
       apart := List.Pairwise.nil
       loc := ⟨rfl, by rw [hB]; exact hL⟩
       nodbg := hd1
       ldbg := none_of _ (by decide)
       nocd := hd2
       lcd := none_of _ (by decide) }
 refine wpAny_mono (hx [] _ _ _ At) (fun f s' ⟨l', σ', S', F', _, q⟩ => ?_) fun _ _ e => e.elim
 have Fr' : ∃ m', Fr s₁.heap s₁.heap.objs.size s'.heap m' := by
   obtain ⟨m', h1, _⟩ := F'.ns
   refine ⟨m', h1, fun b o e => S'.base b o (by rw [hB]; exact e), Nat.le_refl _⟩
 obtain ⟨m', Fr'⟩ := Fr'
 cases f with
 | ret v =>
   obtain ⟨x, rv, q⟩ := q
   have q : x = .bool true := q
   subst q
   obtain rfl := rv
   exact hP s' m' Fr' S'.gens (S'.os.trans hos)
 | next => exact absurd (show V.none = V.bool true from q) (by simp)
 | brk => exact absurd (show V.none = V.bool true from q) (by simp)
 | cont => exact absurd (show V.none = V.bool true from q) (by simp)
end Mine.Internal
set_option tactic.hygienic false
namespace Mine.Internal
open PySem PySem.W PySem.Calls PyProof.Rows PySem.SeqAt
theorem iftt {A B : Prop} (h : A) : if true = true then A else B := by rw [if_pos rfl]; exact h
theorem ifff {A B : Prop} (h : B) : if false = true then A else B := by rw [if_neg (by decide)]; exact h
theorem sm_small {a : Int} (h : a.natAbs < 2 ^ 100) : sm a := bd.mono (i := 100) h (by decide)
noncomputable def Hb (t : Addr) (σ σ' : Hp) : Prop := ∀ a o, a ≠ t → σ a = some o → σ' a = some o
noncomputable def Hx (σ σ' : Hp) : Prop := ∀ a o, σ a = some o → σ' a = some o
theorem Hx.refl (σ : Hp) : Hx σ σ := fun _ _ h => h
theorem Hx.trans {a b c : Hp} (h : Hx a b) (h' : Hx b c) : Hx a c := fun x o e => h' x o (h x o e)
theorem Hx.new {σ : Hp} {a : Addr} {o : O} (h : σ a = none) : Hx σ (upd σ a o) := fun x o' e => upd_old h e
theorem Hx.upd' {σ σ' : Hp} {a : Addr} {o : O} (h : Hx σ σ') (ha : σ a = none) : Hx σ (upd σ' a o) := fun x o' e => by
 rw [upd_ne]; exact h x o' e
 rintro rfl; rw [ha] at e; exact noneSome e
theorem Hx.none {σ σ' : Hp} (h : Hx σ σ') {a : Addr} (ha : σ' a = Option.none) : σ a = Option.none := by
 cases e : σ a with
 | none => rfl
 | some o => rw [h a o e] at ha; cases ha
section
variable {X : Wd} {sc : Scope} {lv : Nat} {l : Loc} {L : Ls} {σ : Hp} {pos : Pos}
theorem AsL.namesL {ts : List PySem.Expr} {ns : List Str} {vs : List V} {K : Loc → Hp → Prop} (hn : namesOf ts = some ns) (hl : ns.length = vs.length) (hk : ns.all (isLC sc) = true) (h : K (ofL (puts L ns vs)) σ) : AsL X sc lv (ofL L) σ ts vs K :=
 AsL.names hn hl (fun n hm => List.all_eq_true.mp hk n hm) (by rw [ofL_sets]; exact h)
theorem As.tupL {ts : List PySem.Expr} {ns : List Str} {vs : List V} {k : Nat} {K : Loc → Hp → Prop} (hn : namesOf ts = some ns) (hk : ns.all (isLC sc) = true) (hl : ts.length = vs.length) (hl' : ns.length = vs.length) (hs : noStars ts = true) (h : K (ofL (puts L ns vs)) σ) :
   As X sc lv (ofL L) σ (.Tuple ts k pos) (.tup vs) K := As.tup hl (AsL.namesL hn hl' hk h) hs
noncomputable def freeLs (sc' : Scope) : Ls → Ls
 | [] => []
 | (x, v) :: r => if sc'.names.lookup x = some .free then (x, v) :: freeLs sc' r else freeLs sc' r
theorem freeLs_eq (sc' : Scope) (L : Ls) : freeL sc' (ofL L) = ofL (freeLs sc' L) := by
 funext x
 unfold freeL ofL
 induction L with
 | nil => simp [freeLs]
 | cons p r ih =>
   obtain ⟨y, v⟩ := p
   unfold freeLs
   by_cases hx : sc'.names.lookup x = some .free
   · rw [if_pos hx] at ih ⊢
     by_cases e : x = y
     · subst e
       rw [if_pos hx]; simp
     · have e' : (x == y) = false := by simpa using e
       have e2 : List.lookup x ((y, v) :: r) = List.lookup x r := by rw [List.lookup_cons, e']
       rw [e2]
       split
       · rw [List.lookup_cons, e']; exact ih
       · exact ih
   · rw [if_neg hx] at ih ⊢
     by_cases hy : sc'.names.lookup y = some .free
     · rw [if_pos hy, List.lookup_cons]
       have e' : (x == y) = false := by
         simp only [beq_eq_false_iff_ne, ne_eq]; rintro rfl; exact hx hy
       rw [e']; exact ih
     · rw [if_neg hy]; exact ih
theorem instP.get {K : Frag} {C p dx : Addr} {des : List (Key × V)} {ep : Nat} {name : Str} {v : V} {Q : V → Prop} (hp : σ p = some (.inst C dx)) (hd : σ dx = some (.dict des ep)) (hg : GetAt K C name) (hl : dlook des (.str name) = some v) (hv : notBi v = true) (hq : Q v) :
   instP (.ref p) σ fun p C dx des ep => GetAt K C name ∧ ∃ v, dlook des (.str name) = some v ∧ notBi v = true ∧ Q v := ⟨p, C, dx, des, ep, rfl, hp, hd, hg, v, hl, hv, hq⟩
theorem instP.set {K : Frag} {C p dx : Addr} {des : List (Key × V)} {ep : Nat} {name : Str} {J : Addr → List (Key × V) → Nat → Prop} (hp : σ p = some (.inst C dx)) (hd : σ dx = some (.dict des ep)) (hg : SetAt K C name) (hl : des.length < lim) (hq : J dx des ep) :
   instP (.ref p) σ fun p C dx des ep => SetAt K C name ∧ des.length < lim ∧ J dx des ep := ⟨p, C, dx, des, ep, rfl, hp, hd, hg, hl, hq⟩
theorem instP.meth {K : Frag} {C p dx f : Addr} {des : List (Key × V)} {ep : Nat} {name : Str} {J : Addr → Addr → Prop} (hp : σ p = some (.inst C dx)) (hd : σ dx = some (.dict des ep)) (hg : MethAt K C name f) (hl : dlook des (.str name) = none) (hq : J p f) :
   instP (.ref p) σ fun p C dx des ep => ∃ f, MethAt K C name f ∧ dlook des (.str name) = none ∧ J p f := ⟨p, C, dx, des, ep, rfl, hp, hd, f, hg, hl, hq⟩
theorem setP.t {p : Addr} {es : List (List TK × V)} {t : List V} {ks : List TK} {v : V} {K : Hp → Prop} (hp : σ p = some (.tdict es)) (hk : tksOf t = some ks) (hl : es.length < lim) (hn : tlook es ks = none) (hh : K (upd σ p (.tdict (es ++ [(ks, v)])))) : setP (.ref p) (.tup t) v σ K := SQ.tdict hp hk hl hn hh
theorem setP.d {p : Addr} {es : List (Key × V)} {ep : Nat} {i v : V} {k : Key} {K : Hp → Prop} (hp : σ p = some (.dict es ep)) (hk : keyOf i = some k) (hl : es.length < lim) (hh : K (upd σ p (.dict (dset es k v) (if (dlook es k).isSome then ep else ep + 1)))) : setP (.ref p) i v σ K := SQ.dict hp hk hl hh
noncomputable def appP (v : V) (σ : Hp) (K : Addr → List V → Prop) : Prop := ∃ p xs, v = .ref p ∧ σ p = some (.list xs) ∧ K p xs
theorem appP.mk {p : Addr} {xs : List V} {K : Addr → List V → Prop} (hp : σ p = some (.list xs)) (hh : K p xs) : appP (.ref p) σ K := ⟨p, xs, rfl, hp, hh⟩
theorem Ev.appendM {o : PySem.Expr} {apos : Pos} {es : List PySem.Expr} {Q : V → Hp → Prop} (h : Ev X sc lv l σ o fun ov σ₁ => appP ov σ₁ fun p xs => EvL X sc lv l σ₁ es fun vs σ₂ => CallV X lv (.bi "list.append") (.ref p :: vs) σ₂ Q)
   (hp : plainArgs es = true := by rfl) (hl : es.length < 20 := by decide) (hline : (apos.endLine == pos.line) = true := by rfl) (hb : ∀ env, attributeBase o (Str.ofString "append") env (eval o env) = eval o env := by intro _; rfl) :
   Ev X sc lv l σ (.Call (.Attribute o (Str.ofString "append") apos) es [] pos) Q :=
 Ev.methB (h.mono fun v σ₁ ⟨p, xs, e, hp, hh⟩ => by
   subst e
   exact ⟨"list", "list.append", F.plainAttrs_list, F.slot_list_append, F.type_list_append, fun ex s val G S rv => by
     obtain rfl := rv
     obtain ⟨a, ob, b, c⟩ := list_type S hp
     exact ⟨a, fun a e => by cases e; exact ⟨ob, b, c⟩⟩, hh⟩) hp hl hline hb
noncomputable def dgetP (v : V) (σ : Hp) (K : Addr → Prop) : Prop := ∃ p, v = .ref p ∧ ((∃ es ep, σ p = some (.dict es ep)) ∨ ∃ es, σ p = some (.tdict es)) ∧ K p
theorem dgetP.d {p : Addr} {es : List (Key × V)} {ep : Nat} {K : Addr → Prop} (hp : σ p = some (.dict es ep)) (hh : K p) : dgetP (.ref p) σ K := ⟨p, rfl, .inl ⟨es, ep, hp⟩, hh⟩
theorem dgetP.t {p : Addr} {es : List (List TK × V)} {K : Addr → Prop} (hp : σ p = some (.tdict es)) (hh : K p) : dgetP (.ref p) σ K := ⟨p, rfl, .inr ⟨es, hp⟩, hh⟩
theorem Ev.getM {o : PySem.Expr} {apos : Pos} {es : List PySem.Expr} {Q : V → Hp → Prop} (h : Ev X sc lv l σ o fun ov σ₁ => dgetP ov σ₁ fun p => EvL X sc lv l σ₁ es fun vs σ₂ => CallV X lv (.bi "dict.get") (.ref p :: vs) σ₂ Q)
   (hp : plainArgs es = true := by rfl) (hl : es.length < 20 := by decide) (hline : (apos.endLine == pos.line) = true := by rfl) (hb : ∀ env, attributeBase o (Str.ofString "get") env (eval o env) = eval o env := by intro _; rfl) :
   Ev X sc lv l σ (.Call (.Attribute o (Str.ofString "get") apos) es [] pos) Q :=
 Ev.methB (h.mono fun v σ₁ ⟨p, e, hp, hh⟩ => by
   subst e
   exact ⟨"dict", "dict.get", F.plainAttrs_dict, F.slot_dict_get, F.type_dict_get, fun ex s val G S rv => by
     obtain rfl := rv
     rcases hp with ⟨es, ep, hp⟩ | ⟨es, hp⟩
     · obtain ⟨a, ob, b, c⟩ := dict_type S hp
       exact ⟨a, fun a e => by cases e; exact ⟨ob, b, c⟩⟩
     · obtain ⟨a, ob, b, c⟩ := tdict_type S hp
       exact ⟨a, fun a e => by cases e; exact ⟨ob, b, c⟩⟩, hh⟩) hp hl hline hb
noncomputable def CompL (X : Wd) (sc' : Scope) (lv : Nat) (L : Ls) (elt : PySem.Expr) (ifs : List PySem.Expr) (ns : List Str) (tgt : PySem.Expr) (Q : V → Hp → Prop) (items : List V) (src : Hp → Prop) (σ₁ : Hp) : Prop :=
 ∃ I : Nat → List V → Hp → Prop, I 0 [] σ₁ ∧
   (∀ k out σ x, I k out σ → items[k]? = some x → src σ ∧ ∃ vs, tgtVals tgt x = some vs ∧ ns.length = vs.length ∧
     EvTs X sc' lv (ofL (puts L ns vs)) ifs σ fun ok σ' => if ok then Ev X sc' lv (ofL (puts L ns vs)) σ' elt (fun y σ₃ => out.length < lim ∧ I (k + 1) (out ++ [y]) σ₃) else I (k + 1) out σ') ∧
   (∀ out σ, I items.length out σ → src σ ∧ ∀ c, σ c = .none → Q (.ref c) (upd σ c (.list out)))
theorem CompL.to {sc' : Scope} {L : Ls} {elt tgt : PySem.Expr} {ifs : List PySem.Expr} {ns : List Str} {Q : V → Hp → Prop} {items : List V} {src : Hp → Prop} {σ₁ : Hp} (h : CompL X sc' lv L elt ifs ns tgt Q items src σ₁) : CompI X sc' lv (ofL L) elt tgt ifs ns Q items src σ₁ := by
 obtain ⟨I, h0, h1, h2⟩ := h
 refine ⟨I, h0, fun k out σ x hI hx => ?_, h2⟩
 obtain ⟨hs, vs, e1, e2, e3⟩ := h1 k out σ x hI hx
 exact ⟨hs, vs, e1, e2, by rw [ofL_sets]; exact e3⟩
theorem EvI.mono {e tgt : PySem.Expr} {R R' : List V → (Hp → Prop) → Hp → Prop} (h : EvI X sc lv l σ e tgt R) (g : ∀ a b c, R a b c → R' a b c) : EvI X sc lv l σ e tgt R' := fun ex A env s T =>
 wpAny_mono (h ex A env s T) (fun x s₁ h₁ => wpAny_mono h₁ (fun it s₂ ⟨ita, fp, ex', P, items, src, σ', e1, e2, e3⟩ => ⟨ita, fp, ex', P, items, src, σ', e1, e2, g _ _ _ e3⟩) fun _ _ e => e) fun _ _ e => e
theorem Ev.compL {sc' : Scope} {elt tgt iter : PySem.Expr} {ifs : List PySem.Expr} {ns : List Str} {Q : V → Hp → Prop} (hc : compOk sc sc' = true) (hn : tgtNames tgt = some ns) (hk : ns.all (isLoc sc') = true)
   (h : EvI X sc lv (ofL L) σ iter tgt fun items src σ₁ => CompL X sc' lv (freeLs sc' L) elt ifs ns tgt Q items src σ₁) (hs : ∀ env x, foldedSetIterable iter env x = pure x := by intro _ _; rfl) : Ev X sc lv (ofL L) σ (.ListComp elt [⟨tgt, iter, ifs, 0⟩] sc' pos) Q :=
 Ev.comp hc hn hk (h.mono fun a b c h => by rw [freeLs_eq]; exact h.to) hs
theorem Ex.assignCL {sc' : Scope} {x : Str} {px : Pos} {elt tgt iter : PySem.Expr} {ifs : List PySem.Expr} {ns : List Str} {rest : List Stmt} {R : Fi → Prop} {cpos : Pos} (hx : isLC sc x = true) (hc : compOk sc sc' = true) (hn : tgtNames tgt = some ns) (hk : ns.all (isLoc sc') = true)
   (h : EvI X sc lv (ofL L) σ iter tgt fun items src σ₁ => CompL X sc' lv (freeLs sc' L) elt ifs ns tgt (fun v σ' => Ex X sc lv (ofL (put L x v)) σ' rest R) items src σ₁)
   (hs : ∀ env x, foldedSetIterable iter env x = pure x := by intro _ _; rfl) : Ex X sc lv (ofL L) σ (.Assign [.Name x px] (.ListComp elt [⟨tgt, iter, ifs, 0⟩] sc' cpos) pos :: rest) R :=
 Ex.assignC hx hc hn hk (h.mono fun a b c h => by rw [freeLs_eq]; simp only [ofL_set]; exact h.to) hs
end
end Mine.Internal
set_option tactic.hygienic false
namespace Mine.Internal
open PySem PySem.W PySem.Calls PyProof.Rows PySem.SeqAt
structure Wc where
 X : Wd
 gt : Ls
 sc : Scope
 lv : Nat
@[irreducible] noncomputable def andW (a b : Prop) : Prop := a ∧ b
@[irreducible] noncomputable def evI (c : Wc) (L : Ls) (σ : Hp) (e : PySem.Expr) (Q : V → Hp → Prop) : Prop := Ev c.X c.sc c.lv (ofL L) σ e Q
@[irreducible] noncomputable def etI (c : Wc) (L : Ls) (σ : Hp) (e : PySem.Expr) (Q : Bool → Hp → Prop) : Prop := EvT c.X c.sc c.lv (ofL L) σ e Q
@[irreducible] noncomputable def binI (op : Operator) (u v : V) (σ : Hp) (Q : V → Hp → Prop) : Prop := binP op u v σ Q
@[irreducible] noncomputable def unI (op : UnaryOp) (u : V) (σ : Hp) (Q : V → Hp → Prop) : Prop := unP op u σ Q
@[irreducible] noncomputable def cmpI (op : CmpOp) (u v : V) (σ : Hp) (Q : V → Hp → Prop) : Prop := cmpP op u v σ Q
@[irreducible] noncomputable def truI (u : V) (σ : Hp) (Q : Bool → Hp → Prop) : Prop := truP u σ Q
@[irreducible] noncomputable def getI (o i : V) (σ : Hp) (Q : V → Hp → Prop) : Prop := getP o i σ Q
@[irreducible] noncomputable def setI (o i v : V) (σ : Hp) (K : Hp → Prop) : Prop := setP o i v σ K
@[irreducible] noncomputable def sliI (c : Wc) (o x y z : V) (σ : Hp) (Q : V → Hp → Prop) : Prop := sliceL c.X.ro o x y z σ Q
@[irreducible] noncomputable def calI (c : Wc) (f : V) (vs : List V) (σ : Hp) (Q : V → Hp → Prop) : Prop := CallV c.X c.lv f vs σ Q
@[irreducible] noncomputable def attI (c : Wc) (name : Str) (ov : V) (σ : Hp) (Q : V → Hp → Prop) : Prop :=
 instP ov σ fun p C dx des ep => GetAt c.X.K C name ∧ ∃ v, dlook des (.str name) = some v ∧ notBi v = true ∧ Q v σ
@[irreducible] noncomputable def satI (c : Wc) (name : Str) (ov : V) (σ : Hp) (J : Addr → List (Key × V) → Nat → Prop) : Prop :=
 instP ov σ fun p C dx des ep => SetAt c.X.K C name ∧ des.length < lim ∧ J dx des ep
@[irreducible] noncomputable def mthI (c : Wc) (name : Str) (ov : V) (σ : Hp) (J : Addr → Addr → Prop) : Prop :=
 instP ov σ fun p C dx des ep => ∃ f, MethAt c.X.K C name f ∧ dlook des (.str name) = .none ∧ J p f
@[irreducible] noncomputable def appI (v : V) (σ : Hp) (K : Addr → List V → Prop) : Prop := appP v σ K
@[irreducible] noncomputable def dgtI (v : V) (σ : Hp) (K : Addr → Prop) : Prop := dgetP v σ K
@[irreducible] noncomputable def asI (c : Wc) (L : Ls) (σ : Hp) (t : PySem.Expr) (v : V) (K : Ls → Hp → Prop) : Prop := As c.X c.sc c.lv (ofL L) σ t v fun l σ' => ∃ L', l = ofL L' ∧ K L' σ'
@[reducible] noncomputable def kFi (KN : Ls → Hp → Prop) (R : Fi → Prop) : Fi → Prop
 | .next l σ => ∃ L, l = ofL L ∧ KN L σ
 | f => R f
@[irreducible] noncomputable def exI (c : Wc) (L : Ls) (σ : Hp) (b : List Stmt) (KN : Ls → Hp → Prop) (R : Fi → Prop) : Prop := Ex c.X c.sc c.lv (ofL L) σ b (kFi KN R)
@[irreducible] noncomputable def outP (p : Prop) : Prop := p
noncomputable def oIf {α : Type} (o : Option α) (A : α → Prop) : Prop := Option.rec False A o
noncomputable def bIf (b : Bool) (A B : Prop) : Prop := Bool.rec B A b
@[irreducible] noncomputable def wIf (b : Bool) (A B : Prop) : Prop := if b = true then A else B
noncomputable def nmG (c : Wc) (L : Ls) (x : Str) : Option V := match L.lookup x with
 | some v => some v
 | none => match c.sc.names.lookup x with
   | some .globalImplicit => c.gt.lookup x
   | _ => none
noncomputable def wBin (op : Operator) (u v : V) (σ : Hp) (Q : V → Hp → Prop) : Prop := match u with
 | .int x => match v with
   | .int y => match op with
     | .Add => Q (.int (x + y)) σ
     | .Sub => Q (.int (x - y)) σ
     | .Mult => andW (sm x) (andW (sm y) (Q (.int (x * y)) σ))
     | .FloorDiv => andW (y ≠ 0) (andW (sm y) (Q (.int (x.fdiv y)) σ))
     | .Mod => andW (y ≠ 0) (Q (.int (x.fmod y)) σ)
     | op => binI op (.int x) (.int y) σ Q
   | v => binI op (.int x) v σ Q
 | u => binI op u v σ Q
noncomputable def wTru (v : V) (σ : Hp) (K : Bool → Hp → Prop) : Prop := match v with
 | .bool b => K b σ
 | .int i => K (i != 0) σ
 | .none => K false σ
 | v => truI v σ K
noncomputable def wUn (op : UnaryOp) (u : V) (σ : Hp) (Q : V → Hp → Prop) : Prop := match op with
 | .USub => match u with
   | .int x => Q (.int (-x)) σ
   | u => unI .USub u σ Q
 | .Not => wTru u σ fun b σ' => Q (.bool (!b)) σ'
 | op => unI op u σ Q
noncomputable def wCmp (op : CmpOp) (u v : V) (σ : Hp) (Q : V → Hp → Prop) : Prop := match u with
 | .int x => match v with
   | .int y => match op with
     | .Eq => Q (.bool (decide (x = y))) σ
     | .NotEq => Q (.bool (!decide (x = y))) σ
     | .Lt => Q (.bool (decide (x < y))) σ
     | .LtE => Q (.bool (decide (x ≤ y))) σ
     | .Gt => Q (.bool (decide (x > y))) σ
     | .GtE => Q (.bool (decide (x ≥ y))) σ
     | op => cmpI op (.int x) (.int y) σ Q
   | v => cmpI op (.int x) v σ Q
 | u => cmpI op u v σ Q
noncomputable def wGet (o i : V) (σ : Hp) (Q : V → Hp → Prop) : Prop := match o with
 | .tup l => match i with
   | .int (.ofNat 0) => match l with
     | x :: _ => Q x σ
     | [] => False
   | .int (.ofNat 1) => match l with
     | _ :: x :: _ => Q x σ
     | _ => False
   | .int (.ofNat 2) => match l with
     | _ :: _ :: x :: _ => Q x σ
     | _ => False
   | i => getI (.tup l) i σ Q
 | o => getI o i σ Q
noncomputable def wL (ev : Hp → PySem.Expr → (V → Hp → Prop) → Prop) : Hp → List PySem.Expr → (List V → Hp → Prop) → Prop
 | σ, [], Q => Q [] σ
 | σ, e :: r, Q => bIf (isStar e) False (ev σ e fun v σ₁ => wL ev σ₁ r fun vs σ₂ => Q (v :: vs) σ₂)
noncomputable def wV (ev : Hp → PySem.Expr → (V → Hp → Prop) → Prop) (op : BoolOp) : Hp → List PySem.Expr → (V → Hp → Prop) → Prop
 | _, [], _ => False
 | σ, a :: r, Q => match r with
   | [] => ev σ a Q
   | b :: r' => ev σ a fun u σ₁ => wTru u σ₁ fun t σ₂ => match op with
     | .And => wIf t (wV ev op σ₂ r Q) (Q u σ₂)
     | .Or => wIf t (Q u σ₂) (wV ev op σ₂ r Q)
noncomputable def wB (t : Hp → PySem.Expr → (Bool → Hp → Prop) → Prop) (op : BoolOp) : Hp → List PySem.Expr → (Bool → Hp → Prop) → Prop
 | σ, [], Q => match op with
   | .And => Q true σ
   | .Or => Q false σ
 | σ, a :: r, Q => t σ a fun b σ₁ => match op with
   | .And => wIf b (wB t op σ₁ r Q) (Q false σ₁)
   | .Or => wIf b (Q true σ₁) (wB t op σ₁ r Q)
noncomputable def wC2 (ev : Hp → PySem.Expr → (V → Hp → Prop) → Prop) (σ : Hp) (a b c : PySem.Expr) (op op' : CmpOp) (Q : V → Hp → Prop) (Q' : V → Hp → Prop) : Prop :=
 ev σ a fun u σ₁ => ev σ₁ b fun v σ₂ => wCmp op u v σ₂ fun t σ₃ => wTru t σ₃ fun bb σ₄ => wIf bb (ev σ₄ c fun x σ₅ => wCmp op' v x σ₅ Q) (Q' t σ₄)
noncomputable def wCs (ev : Hp → PySem.Expr → (V → Hp → Prop) → Prop) (σ : Hp) (a : PySem.Expr) (ops : List CmpOp) (es : List PySem.Expr) (Q : V → Hp → Prop) : Prop := match ops with
 | [] => False
 | op :: r => match es with
   | [] => False
   | b :: s => match r with
     | [] => match s with
       | [] => bIf (behindInMarks op b) False (ev σ a fun u σ₁ => ev σ₁ b fun v σ₂ => wCmp op u v σ₂ Q)
       | _ :: _ => False
     | op' :: r' => match s with
       | [] => False
       | d :: s' => match r' with
         | [] => match s' with
           | [] => bIf (lastMarks [op, op'] [b, d]) False (wC2 ev σ a b d op op' Q Q)
           | _ :: _ => False
         | _ :: _ => False
noncomputable def wTs (ev : Hp → PySem.Expr → (V → Hp → Prop) → Prop) (σ : Hp) (a : PySem.Expr) (ops : List CmpOp) (es : List PySem.Expr) (Q : Bool → Hp → Prop) : Prop := match ops with
 | [] => False
 | op :: r => match es with
   | [] => False
   | b :: s => match r with
     | [] => match s with
       | [] => bIf (behindInMarks op b) False (ev σ a fun u σ₁ => ev σ₁ b fun v σ₂ => wCmp op u v σ₂ fun t σ₃ => wTru t σ₃ Q)
       | _ :: _ => False
     | op' :: r' => match s with
       | [] => False
       | d :: s' => match r' with
         | [] => match s' with
           | [] => bIf (lastMarks [op, op'] [b, d]) False (wC2 ev σ a b d op op' (fun t' σ₆ => wTru t' σ₆ Q) fun _ σ₄ => Q false σ₄)
           | _ :: _ => False
         | _ :: _ => False
noncomputable def wT (c : Wc) (L : Ls) (ev : Hp → PySem.Expr → (V → Hp → Prop) → Prop) : Nat → Hp → PySem.Expr → (Bool → Hp → Prop) → Prop
 | 0, σ, e, Q => etI c L σ e Q
 | m + 1, σ, e, Q => match e with
   | .UnaryOp op a p => match op with
     | .Not => wT c L ev m σ a fun b σ₁ => Q (!b) σ₁
     | op => ev σ (.UnaryOp op a p) fun v σ₁ => wTru v σ₁ Q
   | .BoolOp op es _ => wB (wT c L ev m) op σ es Q
   | .IfExp t a b _ => wT c L ev m σ t fun bb σ₁ => wIf bb (wT c L ev m σ₁ a Q) (wT c L ev m σ₁ b Q)
   | .Compare a ops es _ => wTs ev σ a ops es Q
   | .NamedExpr t v p => etI c L σ (.NamedExpr t v p) Q
   | e => ev σ e fun v σ₁ => wTru v σ₁ Q
noncomputable def wO (ev : Hp → PySem.Expr → (V → Hp → Prop) → Prop) (σ : Hp) (e : Option PySem.Expr) (Q : V → Hp → Prop) : Prop := match e with
 | none => Q .none σ
 | some e => ev σ e Q
noncomputable def noCall : PySem.Expr → Bool
 | .Call .. => false
 | _ => true
noncomputable def noComp : PySem.Expr → Bool
 | .ListComp .. => false
 | .SetComp .. => false
 | .DictComp .. => false
 | _ => true
noncomputable def noTL : PySem.Expr → Bool
 | .Tuple .. => false
 | .List .. => false
 | _ => true
noncomputable def noTup : PySem.Expr → Bool
 | .Tuple .. => false
 | _ => true
end Mine.Internal
namespace Mine.Internal
open PySem PySem.W PySem.Calls PyProof.Rows PySem.SeqAt
noncomputable def wSl (ev : Hp → PySem.Expr → (V → Hp → Prop) → Prop) (c : Wc) (σ : Hp) (a i : PySem.Expr) (Q : V → Hp → Prop) : Prop := match i with
 | .Slice lo hi st _ => ev σ a fun u σ₁ => wO ev σ₁ lo fun x σ₂ => wO ev σ₂ hi fun y σ₃ => wO ev σ₃ st fun z σ₄ => sliI c u x y z σ₄ Q
 | _ => False
noncomputable def wCl (ev : Hp → PySem.Expr → (V → Hp → Prop) → Prop) (c : Wc) (L : Ls) (σ : Hp) (f : PySem.Expr) (es : List PySem.Expr) (ks : List Keyword) (pos : Pos) (Q : V → Hp → Prop) : Prop := match ks with
 | [] => bIf (plainArgs es && Nat.blt es.length 20) (match f with
     | .Name x p => ev σ (.Name x p) fun fv σ₁ => wL ev σ₁ es fun vs σ₂ => calI c fv vs σ₂ Q
     | .Attribute o name apos => bIf (noCall o && (apos.endLine == pos.line))
         (bIf (name == Str.ofString "append")
           (ev σ o fun ov σ₁ => appI ov σ₁ fun p xs => wL ev σ₁ es fun vs σ₂ => calI c (.bi "list.append") (.ref p :: vs) σ₂ Q)
           (bIf (name == Str.ofString "get")
             (ev σ o fun ov σ₁ => dgtI ov σ₁ fun p => wL ev σ₁ es fun vs σ₂ => calI c (.bi "dict.get") (.ref p :: vs) σ₂ Q)
             (ev σ o fun ov σ₁ => mthI c name ov σ₁ fun p f => wL ev σ₁ es fun vs σ₂ => calI c (.ref f) (.ref p :: vs) σ₂ Q)))
         (evI c L σ (.Call f es ks pos) Q)
     | f => evI c L σ (.Call f es ks pos) Q) False
 | ks => evI c L σ (.Call f es ks pos) Q
noncomputable def wE (c : Wc) (L : Ls) : Nat → Hp → PySem.Expr → (V → Hp → Prop) → Prop
 | 0, σ, e, Q => evI c L σ e Q
 | n + 1, σ, e, Q => match e with
   | .Constant k _ _ => match k with
     | .int i => Q (.int i) σ
     | .str s => Q (.str s) σ
     | .bool b => Q (.bool b) σ
     | .none => Q .none σ
     | _ => evI c L σ e Q
   | .Name x _ => oIf (nmG c L x) fun v => Q v σ
   | .BinOp a op b _ => wE c L n σ a fun u σ₁ => wE c L n σ₁ b fun v σ₂ => wBin op u v σ₂ Q
   | .UnaryOp op a _ => wE c L n σ a fun u σ₁ => wUn op u σ₁ Q
   | .Compare a ops es _ => wCs (wE c L n) σ a ops es Q
   | .BoolOp op es _ => wV (wE c L n) op σ es Q
   | .IfExp t a b _ => wT c L (wE c L n) 20 σ t fun bb σ₁ => wIf bb (wE c L n σ₁ a Q) (wE c L n σ₁ b Q)
   | .Call f es ks pos => wCl (wE c L n) c L σ f es ks pos Q
   | .Tuple es _ _ => bIf (Nat.ble es.length 1000) (wL (wE c L n) σ es fun vs σ₁ => Q (.tup vs) σ₁) False
   | .List es _ => bIf (Nat.ble es.length 1000) (wL (wE c L n) σ es fun vs σ₁ => ∀ c, σ₁ c = .none → Q (.ref c) (upd σ₁ c (.list vs))) False
   | .Attribute o name _ => bIf (noCall o) (wE c L n σ o fun ov σ₁ => attI c name ov σ₁ Q) (evI c L σ e Q)
   | .Subscript a i _ => bIf (isSliceE i) (wSl (wE c L n) c σ a i Q) (wE c L n σ a fun u σ₁ => wE c L n σ₁ i fun v σ₂ => wGet u v σ₂ Q)
   | _ => evI c L σ e Q
noncomputable def wA (c : Wc) (L : Ls) (σ : Hp) (t : PySem.Expr) (v : V) (K : Ls → Hp → Prop) : Prop := match t with
 | .Name x _ => bIf (isLC c.sc x) (K (put L x v) σ) False
 | .Tuple ts _ _ => match v with
   | .tup vs => oIf (namesOf ts) fun ns => bIf (ns.all (isLC c.sc) && (ts.length == vs.length && ns.length == vs.length)) (K (puts L ns vs) σ) False
   | v => asI c L σ t v K
 | .Subscript o i _ => wE c L 40 σ o fun u σ₁ => wE c L 40 σ₁ i fun x σ₂ => setI u x v σ₂ fun σ₃ => K L σ₃
 | .Attribute o name _ => wE c L 40 σ o fun ov σ₁ => satI c name ov σ₁ fun dx des ep => K L (upd σ₁ dx (.dict (dset des (.str name) v) (if (dlook des (.str name)).isSome then ep else ep + 1)))
 | t => asI c L σ t v K
noncomputable def asgOk (sc : Scope) (ts vs : List PySem.Expr) (ns : List Str) : Bool :=
 ns.all (isLC sc) && (ts.length == vs.length && (decide ns.Nodup && ((!vs.all (constantsAlone 8) || vs.all (foldedForSure 8)) && Nat.ble vs.length 1000)))
noncomputable def wAs (c : Wc) (K : Ls → Hp → Prop) (L : Ls) (σ : Hp) (ts : List PySem.Expr) (e : PySem.Expr) (F : Prop) : Prop := match ts with
 | [] => F
 | t :: r => match r with
   | _ :: _ => F
   | [] => bIf (noTL t || noTup e)
       (bIf (noComp e && !isStar t) (wE c L 40 σ e fun v σ₁ => wA c L σ₁ t v K) F)
       (match t with
         | .Tuple ts _ _ => match e with
           | .Tuple vs _ _ => oIf (namesOf ts) fun ns => bIf (asgOk c.sc ts vs ns) (wL (wE c L 40) σ vs fun xs σ₁ => K (puts L ns xs) σ₁) F
           | _ => F
         | _ => F)
noncomputable def wS (c : Wc) : Nat → Ls → Hp → List Stmt → (Ls → Hp → Prop) → (Fi → Prop) → Prop
 | 0, L, σ, b, KN, R => exI c L σ b KN R
 | n + 1, L, σ, b, KN, R => match b with
   | [] => KN L σ
   | st :: rest => match st with
     | .Pass _ => wS c n L σ rest KN R
     | .Break _ => R (.brk (ofL L) σ)
     | .Continue _ => R (.cont (ofL L) σ)
     | .Return oe _ => match oe with
       | some e => wE c L 40 σ e fun v σ₁ => R (.ret v σ₁)
       | none => exI c L σ b KN R
     | .If t b o _ => wT c L (wE c L 40) 20 σ t fun bb σ₁ => wIf bb (wS c n L σ₁ b (fun L σ => wS c n L σ rest KN R) R) (wS c n L σ₁ o (fun L σ => wS c n L σ rest KN R) R)
     | .Expr e _ => bIf (noComp e) (wE c L 40 σ e fun _ σ₁ => wS c n L σ₁ rest KN R) (exI c L σ b KN R)
     | .Assign ts e _ => wAs c (fun L σ => wS c n L σ rest KN R) L σ ts e (exI c L σ b KN R)
     | _ => exI c L σ b KN R
end Mine.Internal
set_option tactic.hygienic true
namespace Mine.Internal
open PySem PySem.W PyProof.Rows
theorem neWc : Nonempty Wc := ⟨⟨⟨default, aWorld 1, default, default, fun _ => none, fun _ => none, []⟩, [], default, 0⟩⟩
end Mine.Internal
set_option tactic.hygienic false
namespace Mine.Internal
open PySem PySem.W PySem.Calls PyProof.Rows PySem.SeqAt
theorem andW.mk {a b : Prop} (h : a) (g : b) : andW a b := by unfold andW; exact ⟨h, g⟩
theorem andW.to {a b : Prop} (h : andW a b) : a ∧ b := by unfold andW at h; exact h
theorem wIf.of {b : Bool} {A B : Prop} (h : if b = true then A else B) : wIf b A B := by unfold wIf; exact h
theorem wIf.to' {b : Bool} {A B A' B' : Prop} (h : wIf b A B) (f : A → A') (g : B → B') : if b = true then A' else B' := by
 unfold wIf at h
 cases b
 · exact g h
 · exact f h
theorem bIf.elim {b : Bool} {A B G : Prop} (h : bIf b A B) (f : b = true → A → G) (g : b = false → B → G) : G := by
 cases b
 · exact g rfl h
 · exact f rfl h
theorem oIf.elim {α : Type} {o : Option α} {A : α → Prop} {G : Prop} (h : oIf o A) (f : ∀ v, o = some v → A v → G) : G := by
 cases o
 · exact False.elim h
 · exact f _ rfl h
theorem calI.to {c : Wc} {f : V} {vs : List V} {σ : Hp} {Q : V → Hp → Prop} (h : calI c f vs σ Q) : CallV c.X c.lv f vs σ Q := by unfold calI at h; exact h
theorem evI.to {c : Wc} {L : Ls} {σ : Hp} {e : PySem.Expr} {Q : V → Hp → Prop} (h : evI c L σ e Q) : Ev c.X c.sc c.lv (ofL L) σ e Q := by unfold evI at h; exact h
theorem etI.to {c : Wc} {L : Ls} {σ : Hp} {e : PySem.Expr} {Q : Bool → Hp → Prop} (h : etI c L σ e Q) : EvT c.X c.sc c.lv (ofL L) σ e Q := by unfold etI at h; exact h
theorem exI.to {c : Wc} {L : Ls} {σ : Hp} {b : List Stmt} {KN : Ls → Hp → Prop} {R : Fi → Prop} (h : exI c L σ b KN R) : Ex c.X c.sc c.lv (ofL L) σ b (kFi KN R) := by unfold exI at h; exact h
theorem truI.to {u : V} {σ : Hp} {Q : Bool → Hp → Prop} (h : truI u σ Q) : truP u σ Q := by unfold truI at h; exact h
theorem binI.to {op : Operator} {u v : V} {σ : Hp} {Q : V → Hp → Prop} (h : binI op u v σ Q) : binP op u v σ Q := by unfold binI at h; exact h
theorem unI.to {op : UnaryOp} {u : V} {σ : Hp} {Q : V → Hp → Prop} (h : unI op u σ Q) : unP op u σ Q := by unfold unI at h; exact h
theorem cmpI.to {op : CmpOp} {u v : V} {σ : Hp} {Q : V → Hp → Prop} (h : cmpI op u v σ Q) : cmpP op u v σ Q := by unfold cmpI at h; exact h
theorem getI.to {o i : V} {σ : Hp} {Q : V → Hp → Prop} (h : getI o i σ Q) : getP o i σ Q := by unfold getI at h; exact h
theorem sliI.to {c : Wc} {o x y z : V} {σ : Hp} {Q : V → Hp → Prop} (h : sliI c o x y z σ Q) : sliceL c.X.ro o x y z σ Q := by unfold sliI at h; exact h
set_option tactic.hygienic true in
theorem truP.mono {v : V} {σ : Hp} {K K' : Bool → Hp → Prop} (h : truP v σ K) (g : ∀ b σ', K b σ' → K' b σ') : truP v σ K' := by
 cases v <;> first | exact g _ _ h | exact h.elim | skip
 rename_i p
 revert h
 show (match σ p with | some (.list xs) => K (!xs.isEmpty) σ | _ => False) → (match σ p with | some (.list xs) => K' (!xs.isEmpty) σ | _ => False)
 cases σ p with
 | none => exact id
 | some o => cases o <;> first | exact id | exact g _ _
theorem wTru.ok {v : V} {σ : Hp} {K K' : Bool → Hp → Prop} (h : wTru v σ K) (g : ∀ b σ', K b σ' → K' b σ') : truP v σ K' := by
 cases v <;> first | exact g _ _ h | exact truP.mono (truI.to h) g
theorem wBin.ok {op : Operator} {u v : V} {σ : Hp} {Q : V → Hp → Prop} (h : wBin op u v σ Q) : binP op u v σ Q := by
 cases u <;> first | exact binI.to h | skip
 cases v <;> first | exact binI.to h | skip
 cases op <;> first | exact binI.to h | exact h | exact andW.to h | exact ⟨⟨(andW.to h).1, (andW.to (andW.to h).2).1⟩, (andW.to (andW.to h).2).2⟩
set_option tactic.hygienic true in
theorem cmpP.mono {op : CmpOp} {u v : V} {σ : Hp} {Q Q' : V → Hp → Prop} (h : cmpP op u v σ Q) (g : ∀ v σ', Q v σ' → Q' v σ') : cmpP op u v σ Q' := by
 cases op with
 | Eq => obtain ⟨r, e, q⟩ := h; exact ⟨r, e, g _ _ q⟩
 | NotEq => obtain ⟨r, e, q⟩ := h; exact ⟨r, e, g _ _ q⟩
 | Lt => obtain ⟨x, y, rfl, rfl, h⟩ := intP.inv h; exact g _ _ h
 | LtE => obtain ⟨x, y, rfl, rfl, h⟩ := intP.inv h; exact g _ _ h
 | Gt => obtain ⟨x, y, rfl, rfl, h⟩ := intP.inv h; exact g _ _ h
 | GtE => obtain ⟨x, y, rfl, rfl, h⟩ := intP.inv h; exact g _ _ h
 | Is => obtain ⟨rfl, h⟩ := noneP.inv h; exact g _ _ h
 | IsNot => obtain ⟨rfl, h⟩ := noneP.inv h; exact g _ _ h
 | In => exact inP.mono h fun _ => g _ _
 | NotIn => exact inP.mono h fun _ => g _ _
theorem wCmp.ok {op : CmpOp} {u v : V} {σ : Hp} {Q : V → Hp → Prop} (h : wCmp op u v σ Q) : cmpP op u v σ Q := by
 cases u <;> first | exact cmpI.to h | skip
 cases v <;> first | exact cmpI.to h | skip
 cases op <;> first | exact cmpI.to h | exact cmpP.eqI h | exact cmpP.neI h | exact h
theorem wUn.ok {op : UnaryOp} {u : V} {σ : Hp} {Q : V → Hp → Prop} (h : wUn op u σ Q) : unP op u σ Q := by
 cases op with
 | Not => exact wTru.ok h fun _ _ x => x
 | USub => cases u <;> first | exact unI.to h | exact h
 | _ => exact unI.to h
theorem getP.first {l : List V} {k : Int} {x : V} {σ : Hp} {Q : V → Hp → Prop} (h0 : -(2 ^ 63) ≤ k ∧ k < 2 ^ 63) (h1 : vidx l k = some x) (h : Q x σ) : getP (.tup l) (.int k) σ Q := GQ.tup h0 h1 h
set_option tactic.hygienic true in
theorem wGet.ok {o i : V} {σ : Hp} {Q : V → Hp → Prop} (h : wGet o i σ Q) : getP o i σ Q := by
 cases o <;> first | exact getI.to h | skip
 cases i <;> first | exact getI.to h | skip
 rename_i l k
 cases k with
 | negSucc k => exact getI.to h
 | ofNat k =>
   match k, l, h with
   | 0, x :: _, h => exact getP.t0 h
   | 0, [], h => exact h.elim
   | 1, _ :: x :: _, h => exact getP.t1 h
   | 1, [_], h => exact h.elim
   | 1, [], h => exact h.elim
   | 2, _ :: _ :: x :: _, h => exact getP.t2 h
   | 2, [_, _], h => exact h.elim
   | 2, [_], h => exact h.elim
   | 2, [], h => exact h.elim
   | k + 3, l, h => exact getI.to h
section
variable {c : Wc} {L : Ls} {σ : Hp} {pos : Pos} {ev : Hp → PySem.Expr → (V → Hp → Prop) → Prop}
noncomputable def EvS (c : Wc) (L : Ls) (ev : Hp → PySem.Expr → (V → Hp → Prop) → Prop) : Prop := ∀ {σ e Q R}, ev σ e R → (∀ v σ', R v σ' → Q v σ') → Ev c.X c.sc c.lv (ofL L) σ e Q
theorem wL.ok (H : EvS c L ev) : ∀ (es : List PySem.Expr) {σ : Hp} {Q R : List V → Hp → Prop}, wL ev σ es R → (∀ vs σ', R vs σ' → Q vs σ') → EvL c.X c.sc c.lv (ofL L) σ es Q
 | [], σ, Q, R, h, g => EvL.nil (g _ _ h)
 | e :: r, σ, Q, R, h, g => bIf.elim h (fun _ h => h.elim) fun hs h => EvL.cons (H h fun v σ₁ h => wL.ok H r h fun vs σ' h => g _ _ h) hs
theorem wV.ok (H : EvS c L ev) (op : BoolOp) : ∀ (es : List PySem.Expr) (σ : Hp) (Q : V → Hp → Prop), wV ev op σ es Q → Ev c.X c.sc c.lv (ofL L) σ (.BoolOp op es pos) Q
 | [], σ, Q, h => h.elim
 | [a], σ, Q, h => Ev.and1 (H (e := a) h fun _ _ x => x)
 | a :: b :: r, σ, Q, h => by
   cases op with
   | And => exact Ev.and (H (e := a) h fun u σ₁ h => wTru.ok h fun t σ₂ h => wIf.to' h (fun h => wV.ok H .And (b :: r) σ₂ Q h) id)
   | Or => exact Ev.or (H (e := a) h fun u σ₁ h => wTru.ok h fun t σ₂ h => wIf.to' h id (fun h => wV.ok H .Or (b :: r) σ₂ Q h))
theorem wB.ok {t : Hp → PySem.Expr → (Bool → Hp → Prop) → Prop} (H : ∀ {σ e Q R}, t σ e R → (∀ v σ', R v σ' → Q v σ') → EvT c.X c.sc c.lv (ofL L) σ e Q) (op : BoolOp) : ∀ (es : List PySem.Expr) (σ : Hp) (Q : Bool → Hp → Prop), wB t op σ es Q → EvT c.X c.sc c.lv (ofL L) σ (.BoolOp op es pos) Q
 | [], σ, Q, h => by
   cases op with
   | And => exact EvT.andNil h
   | Or => exact EvT.orNil h
 | a :: r, σ, Q, h => by
   cases op with
   | And => exact EvT.and (H (e := a) h fun b σ₁ h => wIf.to' h (fun h => wB.ok H .And r σ₁ Q h) id)
   | Or => exact EvT.or (H (e := a) h fun b σ₁ h => wIf.to' h id (fun h => wB.ok H .Or r σ₁ Q h))
theorem wC2.ok (H : EvS c L ev) {a b d : PySem.Expr} {op op' : CmpOp} {Q Q' : V → Hp → Prop} (h : wC2 ev σ a b d op op' Q Q') : Ev c.X c.sc c.lv (ofL L) σ a fun u σ₁ => Ev c.X c.sc c.lv (ofL L) σ₁ b fun v σ₂ => cmpP op u v σ₂ fun t σ₃ =>
     truP t σ₃ fun bb σ₄ => if bb then Ev c.X c.sc c.lv (ofL L) σ₄ d fun x σ₅ => cmpP op' v x σ₅ Q else Q' t σ₄ :=
 H h fun u σ₁ h => H h fun v σ₂ h => (wCmp.ok h).mono fun t σ₃ h => wTru.ok h fun bb σ₄ h => wIf.to' h (fun h => H h fun x σ₅ h => wCmp.ok h) id
theorem wCs.ok (H : EvS c L ev) {a : PySem.Expr} {ops : List CmpOp} {es : List PySem.Expr} {Q : V → Hp → Prop} (h : wCs ev σ a ops es Q) : Ev c.X c.sc c.lv (ofL L) σ (.Compare a ops es pos) Q := by
 cases ops with
 | nil => exact h.elim
 | cons op r =>
   cases es with
   | nil => exact h.elim
   | cons b s =>
     cases r with
     | nil =>
       cases s with
       | nil => exact bIf.elim h (fun _ h => h.elim) fun hm h => Ev.cmp (H h fun u σ₁ h => H h fun v σ₂ h => wCmp.ok h) hm
       | cons d s => exact h.elim
     | cons op' r =>
       cases s with
       | nil => exact h.elim
       | cons d s =>
         cases r with
         | nil =>
           cases s with
           | nil => exact bIf.elim h (fun _ h => h.elim) fun hm h => Ev.cmp2 (wC2.ok H h) hm
           | cons d' s => exact h.elim
         | cons o2 r => exact h.elim
theorem EvT.cmp2' {a b d : PySem.Expr} {op op' : CmpOp} {Q : Bool → Hp → Prop} (hm : lastMarks [op, op'] [b, d] = false) (h : Ev c.X c.sc c.lv (ofL L) σ a fun u σ₁ => Ev c.X c.sc c.lv (ofL L) σ₁ b fun v σ₂ => cmpP op u v σ₂ fun t σ₃ =>
     truP t σ₃ fun bb σ₄ => if bb then Ev c.X c.sc c.lv (ofL L) σ₄ d fun x σ₅ => cmpP op' v x σ₅ fun t' σ₆ => wTru t' σ₆ Q else Q false σ₄) : EvT c.X c.sc c.lv (ofL L) σ (.Compare a [op, op'] [b, d] pos) Q :=
 EvT.cmp2 (h.mono fun u σ₁ h => h.mono fun v σ₂ h => h.mono fun t σ₃ h => h.mono fun bb σ₄ h => by
   cases bb with
   | true => exact (if_pos rfl).mpr (((if_pos rfl).mp h).mono fun x σ₅ h => h.mono fun t' σ₆ h => wTru.ok h fun _ _ x => x)
   | false => exact (if_neg (by decide)).mpr ((if_neg (by decide)).mp h)) hm
theorem wTs.ok (H : EvS c L ev) {a : PySem.Expr} {ops : List CmpOp} {es : List PySem.Expr} {Q : Bool → Hp → Prop} (h : wTs ev σ a ops es Q) : EvT c.X c.sc c.lv (ofL L) σ (.Compare a ops es pos) Q := by
 cases ops with
 | nil => exact h.elim
 | cons op r =>
   cases es with
   | nil => exact h.elim
   | cons b s =>
     cases r with
     | nil =>
       cases s with
       | nil => exact bIf.elim h (fun _ h => h.elim) fun hm h => EvT.cmp (H h fun u σ₁ h => H h fun v σ₂ h => (wCmp.ok h).mono fun t σ₃ h => wTru.ok h fun _ _ x => x) hm
       | cons d s => exact h.elim
     | cons op' r =>
       cases s with
       | nil => exact h.elim
       | cons d s =>
         cases r with
         | nil =>
           cases s with
           | nil => exact bIf.elim h (fun _ h => h.elim) fun hm h => EvT.cmp2' hm (wC2.ok H h)
           | cons d' s => exact h.elim
         | cons o2 r => exact h.elim
theorem wT.ok (H : EvS c L ev) : ∀ (m : Nat) {σ : Hp} {e : PySem.Expr} {Q R : Bool → Hp → Prop}, wT c L ev m σ e R → (∀ b σ', R b σ' → Q b σ') → EvT c.X c.sc c.lv (ofL L) σ e Q
 | 0, σ, e, Q, R, h, g => (etI.to h).mono g
 | m + 1, σ, e, Q, R, h, g => by
   have ih : ∀ {σ : Hp} {e : PySem.Expr} {Q R : Bool → Hp → Prop}, wT c L ev m σ e R → (∀ b σ', R b σ' → Q b σ') → EvT c.X c.sc c.lv (ofL L) σ e Q := fun h g => wT.ok H m h g
   have pl : ev σ e (fun v σ₁ => wTru v σ₁ R) → (∀ env, isTrue e env (eval e env) = (do let v ← eval e env; standAt e.pos; holding [v] (truthy v))) → EvT c.X c.sc c.lv (ofL L) σ e Q := fun h he => EvT.val (H h fun v σ₁ h => wTru.ok h g) he
   cases e with
   | UnaryOp op a p =>
     cases op with
     | Not => exact EvT.not (ih (e := a) h fun b σ' h => g _ _ h)
     | _ => exact pl h fun _ => rfl
   | BoolOp op es p => exact (wB.ok ih op es σ R h).mono g
   | IfExp t a b p => exact EvT.ite (ih (e := t) h fun bb σ₁ h => wIf.to' h (fun h => ih h g) fun h => ih h g)
   | Compare a ops es p => exact EvT.mono (wTs.ok H h) g
   | NamedExpr t v p => exact (etI.to h).mono g
   | _ => exact pl h fun _ => rfl
theorem wO.ok (H : EvS c L ev) {e : Option PySem.Expr} {Q R : V → Hp → Prop} (h : wO ev σ e R) (g : ∀ v σ', R v σ' → Q v σ') : EvO c.X c.sc c.lv (ofL L) σ e Q := by
 cases e with
 | none => exact g _ _ h
 | some e => exact H (e := e) h g
theorem nmG_ok (hG : c.X.G = fun x => c.gt.lookup x) {x : Str} {v : V} (h : nmG c L x = some v) : nameV (c.X.cx c.sc c.lv) (ofL L) x = some v := by
 haveI := neWc
 revert c L x v
 refine no_implicit_lambda% letI c := _; letI L := _; epsX2 1 c L rfl ?_
 intro hG
 refine no_implicit_lambda% letI x := _; letI v := _; epsX2 2 x v rfl ?_
 intro h
 unfold nmG at h
 unfold nameV ofL
 cases e : L.lookup x with
 | some w => rw [e] at h; exact h
 | none =>
   rw [e] at h
   show (if c.sc.names.lookup x = some .globalImplicit then c.X.G x else none) = _
   cases e2 : c.sc.names.lookup x with
   | none => rw [e2] at h; exact noneSome h
   | some k => rw [e2] at h; cases k <;> first | (rw [if_pos rfl, hG]; exact h) | exact noneSome h
theorem instP.mono {ov : V} {σ : Hp} {K K' : Addr → Addr → Addr → List (Key × V) → Nat → Prop} (h : instP ov σ K) (g : ∀ p C dx des ep, K p C dx des ep → K' p C dx des ep) : instP ov σ K' :=
 let ⟨p, C, dx, des, ep, e, h1, h2, h3⟩ := h
 ⟨p, C, dx, des, ep, e, h1, h2, g _ _ _ _ _ h3⟩
theorem noCall_base {o : PySem.Expr} (h : noCall o = true) (name : Str) (env : Env) : attributeBase o name env (eval o env) = eval o env := by
 cases o <;> first | rfl | exact noFalse h
theorem wSl.ok (H : EvS c L ev) {a i : PySem.Expr} {Q : V → Hp → Prop} (h : wSl ev c σ a i Q) : Ev c.X c.sc c.lv (ofL L) σ (.Subscript a i pos) Q := by
 cases i with
 | Slice lo hi st p => exact Ev.slice (H h fun u σ₁ h => wO.ok H h fun x σ₂ h => wO.ok H h fun y σ₃ h => wO.ok H h fun z σ₄ h => sliI.to h)
 | _ => exact h.elim
theorem wCl.ok (H : EvS c L ev) {f : PySem.Expr} {es : List PySem.Expr} {ks : List Keyword} {Q : V → Hp → Prop} (h : wCl ev c L σ f es ks pos Q) : Ev c.X c.sc c.lv (ofL L) σ (.Call f es ks pos) Q := by
 cases ks with
 | cons k ks => exact evI.to h
 | nil =>
   refine bIf.elim h (fun hp h => ?_) fun _ h => h.elim
   simp only [Bool.and_eq_true, Nat.blt_eq] at hp
   cases f with
   | Name x p => exact Ev.call (H h fun fv σ₁ h => wL.ok H _ h fun _ _ h => calI.to h) hp.1
   | Attribute o name apos =>
     refine bIf.elim h (fun hc h => ?_) fun _ h => evI.to h
     simp only [Bool.and_eq_true] at hc
     have hb := noCall_base hc.1 name
     refine bIf.elim h (fun e h => ?_) fun _ h => bIf.elim h (fun e h => ?_) fun _ h => ?_
     · rw [beq_iff_eq] at e; subst e
       exact Ev.appendM (H h fun ov σ₁ h => by unfold appI at h; exact h.imp fun p h => h.imp fun xs h => ⟨h.1, h.2.1, wL.ok H _ h.2.2 fun _ _ h => calI.to h⟩) hp.1 hp.2 hc.2 hb
     · rw [beq_iff_eq] at e; subst e
       exact Ev.getM (H h fun ov σ₁ h => by unfold dgtI at h; exact h.imp fun p h => ⟨h.1, h.2.1, wL.ok H _ h.2.2 fun _ _ h => calI.to h⟩) hp.1 hp.2 hc.2 hb
     · exact Ev.meth (H h fun ov σ₁ h => by unfold mthI at h; exact h.mono fun p C dx des ep h => h.imp fun f h => ⟨h.1, h.2.1, wL.ok H _ h.2.2 fun _ _ h => calI.to h⟩) hp.1 hp.2 hc.2 hb
   | _ => exact evI.to h
theorem wE.ok (hG : c.X.G = fun x => c.gt.lookup x) : ∀ (n : Nat), EvS c L (wE c L n)
 | 0, σ, e, Q, R, h, g => (evI.to h).mono g
 | n + 1, σ, e, Q, R, h, g => by
   have H : EvS c L (wE c L n) := wE.ok hG n
   refine Ev.mono (R := R) ?_ g
   cases e with
   | Constant k a p =>
     cases k with
     | int i => exact Ev.int h
     | str i => exact Ev.str h
     | bool i => exact Ev.bool h
     | none => exact Ev.none h
     | _ => exact evI.to h
   | Name x p => exact oIf.elim h fun v e h => Ev.name (nmG_ok hG e) h
   | BinOp a op b p => exact Ev.bin (H (e := a) h fun u σ₁ h => H h fun v σ₂ h => wBin.ok h)
   | UnaryOp op a p => exact Ev.un (H (e := a) h fun u σ₁ h => wUn.ok h)
   | Compare a ops es p => exact wCs.ok H h
   | BoolOp op es p => exact wV.ok H op es σ R h
   | IfExp t a b p =>
     have h : wT c L (wE c L n) 20 σ t (fun bb σ₁ => wIf bb (wE c L n σ₁ a R) (wE c L n σ₁ b R)) := h
     exact Ev.ite (wT.ok H 20 h fun bb σ₁ h => wIf.to' h (fun h => H h fun _ _ x => x) fun h => H h fun _ _ x => x)
   | Call f es ks p => exact wCl.ok H h
   | Tuple es k p => exact bIf.elim h (fun hl h => Ev.tup (wL.ok H _ h fun _ _ x => x) (Nat.le_of_ble_eq_true hl)) fun _ h => h.elim
   | List es p => exact bIf.elim h (fun hl h => Ev.list (wL.ok H _ h fun _ _ x => x) (Nat.le_of_ble_eq_true hl)) fun _ h => h.elim
   | Attribute o name p => exact bIf.elim h (fun hc h => Ev.attr (H h fun ov σ₁ h => by unfold attI at h; exact h) (noCall_base hc _)) fun _ h => evI.to h
   | Subscript a i p => exact bIf.elim h (fun _ h => wSl.ok H h) fun hs h => Ev.sub (H h fun u σ₁ h => H h fun v σ₂ h => wGet.ok h) hs
   | _ => exact evI.to h
end
end Mine.Internal
set_option tactic.hygienic false
namespace Mine.Internal
open PySem PySem.W PySem.Calls PyProof.Rows PySem.SeqAt
theorem setI.to {o i v : V} {σ : Hp} {K : Hp → Prop} (h : setI o i v σ K) : setP o i v σ K := by unfold setI at h; exact h
theorem asI.to {c : Wc} {L : Ls} {σ : Hp} {t : PySem.Expr} {v : V} {K : Ls → Hp → Prop} (h : asI c L σ t v K) : As c.X c.sc c.lv (ofL L) σ t v fun l σ' => ∃ L', l = ofL L' ∧ K L' σ' := by unfold asI at h; exact h
theorem setP.mono {o i v : V} {σ : Hp} {K K' : Hp → Prop} (h : setP o i v σ K) (g : ∀ σ', K σ' → K' σ') : setP o i v σ K' := by
 induction h with
 | list hp hb h => exact .list hp hb (g _ h)
 | dict hp hk hl h => exact .dict hp hk hl (g _ h)
 | tdict hp hk hl hn h => exact .tdict hp hk hl hn (g _ h)
section
variable {c : Wc} {L : Ls} {σ : Hp} {pos : Pos}
theorem wA.ok (hG : c.X.G = fun x => c.gt.lookup x) {t : PySem.Expr} {v : V} {K : Ls → Hp → Prop} (h : wA c L σ t v K) : As c.X c.sc c.lv (ofL L) σ t v fun l σ' => ∃ L', l = ofL L' ∧ K L' σ' := by
 have H : EvS c L (wE c L 40) := wE.ok hG 40
 cases t with
 | Name x p => exact bIf.elim h (fun hk h => As.nameL hk ⟨_, rfl, h⟩) fun _ h => h.elim
 | Tuple ts k p =>
   cases v with
   | tup vs =>
     refine oIf.elim h fun ns hn h => bIf.elim h (fun hk h => ?_) fun _ h => h.elim
     simp only [Bool.and_eq_true, beq_iff_eq] at hk
     exact As.tupL hn hk.1 hk.2.1 hk.2.2 (names_nostar hn) ⟨_, rfl, h⟩
   | _ => exact asI.to h
 | Subscript o i p =>
   have h : wE c L 40 σ o (fun u σ₁ => wE c L 40 σ₁ i fun x σ₂ => setI u x v σ₂ fun σ₃ => K L σ₃) := h
   exact As.sub (H h fun u σ₁ h => H h fun x σ₂ h => (setI.to h).mono fun σ₃ h => ⟨L, rfl, h⟩)
 | Attribute o name p =>
   have h : wE c L 40 σ o (fun ov σ₁ => satI c name ov σ₁ fun dx des ep => K L (upd σ₁ dx (.dict (dset des (.str name) v) (if (dlook des (.str name)).isSome then ep else ep + 1)))) := h
   exact As.attr (H h fun ov σ₁ h => by unfold satI at h; exact h.mono fun p C dx des ep h => ⟨h.1, h.2.1, L, rfl, h.2.2⟩)
 | _ => exact asI.to h
theorem noComp_swaps {e : PySem.Expr} (h : noComp e = true) (t : Option PySem.Expr) (env : Env) (line : Nat) : swapsWith e t line env = pure false := by
 cases e <;> first | rfl | exact noFalse h
theorem noTup_swapped {t e : PySem.Expr} (h : (noTL t || noTup e) = true) (env : Env) : swappedStores [t] e env = pure none := by
 cases t <;> first | rfl | (cases e <;> first | rfl | exact noFalse h)
theorem As.mono {X : Wd} {sc : Scope} {lv : Nat} {l : Loc} {t : PySem.Expr} {v : V} {Q R : Loc → Hp → Prop} (h : As X sc lv l σ t v R) (g : ∀ l σ', R l σ' → Q l σ') : As X sc lv l σ t v Q := fun ex A env s T val rv =>
 wpAny_mono (h ex A env s T val rv) (fun _ _ ⟨l', σ', S, F, k, q⟩ => ⟨l', σ', S, F, k, g _ _ q⟩) fun _ _ e => e
theorem kBody {KN : Ls → Hp → Prop} {R : Fi → Prop} {K : Ls → Hp → Prop} {rest : List Stmt} (ih : ∀ L σ, K L σ → Ex c.X c.sc c.lv (ofL L) σ rest (kFi KN R)) {f : Fi} (h : kFi K R f) :
   kNext (fun l σ => Ex c.X c.sc c.lv l σ rest (kFi KN R)) (kFi KN R) f := by
 cases f with
 | next l σ => obtain ⟨L, rfl, h⟩ := h; exact ih _ _ h
 | _ => exact h
theorem asgOk_to {sc : Scope} {ts vs : List PySem.Expr} {ns : List Str} (h : asgOk sc ts vs ns = true) : ns.all (isLC sc) = true ∧ ts.length = vs.length ∧ ns.Nodup ∧ (vs.all (constantsAlone 8) = true → vs.all (foldedForSure 8) = true) ∧ vs.length ≤ 1000 := by
 unfold asgOk at h
 simp only [Bool.and_eq_true, beq_iff_eq, decide_eq_true_eq, Bool.or_eq_true, Bool.not_eq_true'] at h
 refine ⟨h.1, h.2.1, h.2.2.1, fun e => ?_, Nat.le_of_ble_eq_true h.2.2.2.2⟩
 rcases h.2.2.2.1 with q | q
 · rw [e] at q; cases q
 · exact q
theorem wAs.ok (hG : c.X.G = fun x => c.gt.lookup x) {K : Ls → Hp → Prop} {ts : List PySem.Expr} {e : PySem.Expr} {F : Prop} {rest : List Stmt} {R : Fi → Prop} (ih : ∀ L σ, K L σ → Ex c.X c.sc c.lv (ofL L) σ rest R)
   (hF : F → Ex c.X c.sc c.lv (ofL L) σ (.Assign ts e pos :: rest) R) (h : wAs c K L σ ts e F) : Ex c.X c.sc c.lv (ofL L) σ (.Assign ts e pos :: rest) R := by
 have H : EvS c L (wE c L 40) := wE.ok hG 40
 cases ts with
 | nil => exact hF h
 | cons t r =>
   cases r with
   | cons t' r => exact hF h
   | nil =>
     refine bIf.elim h (fun hn h => bIf.elim h (fun hc h => ?_) fun _ h => hF h) fun _ h => ?_
     · simp only [Bool.and_eq_true, Bool.not_eq_true'] at hc
       exact Ex.assign (H h fun v σ₁ h => (wA.ok hG h).mono fun l σ' h => h.elim fun L' h => h.1 ▸ ih _ _ h.2) (noComp_swaps hc.1 _) (noTup_swapped hn) hc.2
     · cases t with
       | Tuple ts k p =>
         cases e with
         | Tuple vs k' p' =>
           refine oIf.elim h fun ns hn h => bIf.elim h (fun ho h => ?_) fun _ h => hF h
           have a := asgOk_to ho
           exact Ex.assignsL hn a.1 (wL.ok H vs h fun xs σ₁ h => ih _ _ h) a.2.1 a.2.2.1 a.2.2.2.1 a.2.2.2.2
         | _ => exact hF h
       | _ => exact hF h
theorem wS.ok (hG : c.X.G = fun x => c.gt.lookup x) : ∀ (n : Nat) (L : Ls) (σ : Hp) (b : List Stmt) (KN : Ls → Hp → Prop) (R : Fi → Prop), wS c n L σ b KN R → Ex c.X c.sc c.lv (ofL L) σ b (kFi KN R)
 | 0, L, σ, b, KN, R, h => exI.to h
 | n + 1, L, σ, b, KN, R, h => by
   have H : EvS c L (wE c L 40) := wE.ok hG 40
   cases b with
   | nil => exact Ex.nil ⟨L, rfl, h⟩
   | cons st rest =>
     have ih := fun L σ h => wS.ok hG n L σ rest KN R h
     cases st with
     | Pass p => exact Ex.pass (ih _ _ h)
     | Break p => exact Ex.brk h
     | Continue p => exact Ex.cont h
     | Return oe p =>
       cases oe with
       | none => exact exI.to h
       | some e =>
         have h : wE c L 40 σ e (fun v σ₁ => R (.ret v σ₁)) := h
         exact Ex.ret (H h fun v σ₁ h => h)
     | If t b o p =>
       have h : wT c L (wE c L 40) 20 σ t (fun bb σ₁ => wIf bb (wS c n L σ₁ b (fun L σ => wS c n L σ rest KN R) R) (wS c n L σ₁ o (fun L σ => wS c n L σ rest KN R) R)) := h
       exact Ex.if_ (wT.ok H 20 h fun bb σ₁ h => wIf.to' h (fun h => (wS.ok hG n _ _ _ _ _ h).mono fun f h => kBody ih h) (fun h => (wS.ok hG n _ _ _ _ _ h).mono fun f h => kBody ih h))
     | Expr e p =>
       have h : bIf (noComp e) (wE c L 40 σ e fun _ σ₁ => wS c n L σ₁ rest KN R) (exI c L σ (.Expr e p :: rest) KN R) := h
       exact bIf.elim h (fun hc h => Ex.expr (H h fun v σ₁ h => ih _ _ h) (noComp_swaps hc _)) fun _ h => exI.to h
     | Assign ts e p =>
       have h : wAs c (fun L σ => wS c n L σ rest KN R) L σ ts e (exI c L σ (.Assign ts e p :: rest) KN R) := h
       exact wAs.ok hG ih exI.to h
     | _ => exact exI.to h
end
end Mine.Internal
set_option tactic.hygienic true
namespace Mine.Internal
open PySem PySem.W PySem.Calls PyProof.Rows PySem.SeqAt
section
variable {X : Wd} {gt : Ls} {sc : Scope} {lv : Nat} {L : Ls} {σ : Hp} {e : PySem.Expr} {b : List Stmt} {R : Fi → Prop} {Q : V → Hp → Prop}
noncomputable def goS : List Stmt → Bool
 | [] => true
 | .Pass _ :: _ => true
 | .Break _ :: _ => true
 | .Continue _ :: _ => true
 | .Return (some _) _ :: _ => true
 | .If .. :: _ => true
 | .Expr e _ :: _ => noComp e
 | .Assign [_] e _ :: _ => noComp e
 | _ => false
noncomputable def goE : PySem.Expr → Bool
 | .Constant .. => true
 | .Name .. => true
 | .BinOp .. => true
 | .UnaryOp .. => true
 | .Compare _ ops _ _ => Nat.blt ops.length 3
 | .BoolOp .. => true
 | .IfExp .. => true
 | .Call (.Name ..) _ [] _ => true
 | .Call (.Attribute o _ _) _ [] _ => noCall o
 | .Tuple .. => true
 | .List .. => true
 | .Attribute o _ _ => noCall o
 | .Subscript .. => true
 | _ => false
theorem Ex.w (gt : Ls) (hG : X.G = fun x => gt.lookup x) (hb : goS b = true) (h : wS ⟨X, gt, sc, lv⟩ 60 L σ b (fun L σ => outP (R (.next (ofL L) σ))) (fun f => outP (R f))) : Ex X sc lv (ofL L) σ b R :=
 (wS.ok (c := ⟨X, gt, sc, lv⟩) hG 60 L σ b _ _ h).mono fun f h => by
   cases f with
   | next l σ => obtain ⟨L, rfl, h⟩ := h; unfold outP at h; exact h
   | brk l σ => have h : outP (R _) := h; unfold outP at h; exact h
   | cont l σ => have h : outP (R _) := h; unfold outP at h; exact h
   | ret v σ => have h : outP (R _) := h; unfold outP at h; exact h
theorem Ex.wr (gt : Ls) (hG : X.G = fun x => gt.lookup x) (hb : goS b = true) (h : wS ⟨X, gt, sc, lv⟩ 60 L σ b (fun _ σ => Q .none σ) (kRet Q)) : Ex X sc lv (ofL L) σ b (kRet Q) :=
 (wS.ok (c := ⟨X, gt, sc, lv⟩) hG 60 L σ b _ _ h).mono fun f h => by
   cases f with
   | next l σ => exact h.elim fun _ h => h.2
   | brk l σ => exact h
   | cont l σ => exact h
   | ret v σ => exact h
theorem Ev.w (gt : Ls) (hG : X.G = fun x => gt.lookup x) (hb : goE e = true) (h : wE ⟨X, gt, sc, lv⟩ L 40 σ e (fun v σ => outP (Q v σ))) : Ev X sc lv (ofL L) σ e Q :=
 wE.ok (c := ⟨X, gt, sc, lv⟩) hG 40 h fun v σ' h => by unfold outP at h; exact h
theorem EvT.w {Q : Bool → Hp → Prop} (gt : Ls) (hG : X.G = fun x => gt.lookup x) (hb : goE e = true) (h : wT ⟨X, gt, sc, lv⟩ L (wE ⟨X, gt, sc, lv⟩ L 40) 20 σ e (fun v σ => outP (Q v σ))) : EvT X sc lv (ofL L) σ e Q :=
 wT.ok (c := ⟨X, gt, sc, lv⟩) (wE.ok hG 40) 20 h fun v σ' h => by unfold outP at h; exact h
theorem EvL.w {es : List PySem.Expr} {Q : List V → Hp → Prop} (gt : Ls) (hG : X.G = fun x => gt.lookup x) (h : wL (wE ⟨X, gt, sc, lv⟩ L 40) σ es (fun v σ => outP (Q v σ))) : EvL X sc lv (ofL L) σ es Q :=
 wL.ok (c := ⟨X, gt, sc, lv⟩) (wE.ok hG 40) es h fun v σ' h => by unfold outP at h; exact h
theorem As.w {v : V} {K : Loc → Hp → Prop} (gt : Ls) (hG : X.G = fun x => gt.lookup x) (h : wA ⟨X, gt, sc, lv⟩ L σ e v (fun L σ => outP (K (ofL L) σ))) : As X sc lv (ofL L) σ e v K :=
 (wA.ok (c := ⟨X, gt, sc, lv⟩) hG h).mono fun l σ' ⟨L', a, h⟩ => by subst a; unfold outP at h; exact h
theorem outP.mk {p : Prop} (h : p) : outP p := by unfold outP; exact h
theorem evI.mk (h : Ev X sc lv (ofL L) σ e Q) : evI ⟨X, gt, sc, lv⟩ L σ e Q := by unfold evI; exact h
theorem exI.mk {KN : Ls → Hp → Prop} (h : Ex X sc lv (ofL L) σ b (kFi KN R)) : exI ⟨X, gt, sc, lv⟩ L σ b KN R := by unfold exI; exact h
theorem calI.mk {f : V} {vs : List V} (h : CallV X lv f vs σ Q) : calI ⟨X, gt, sc, lv⟩ f vs σ Q := by unfold calI; exact h
theorem cmpI.mk {op : CmpOp} {u v : V} (h : cmpP op u v σ Q) : cmpI op u v σ Q := by unfold cmpI; exact h
theorem binI.mk {op : Operator} {u v : V} (h : binP op u v σ Q) : binI op u v σ Q := by unfold binI; exact h
theorem getI.mk {o i : V} (h : getP o i σ Q) : getI o i σ Q := by unfold getI; exact h
theorem setI.mk {o i v : V} {K : Hp → Prop} (h : setP o i v σ K) : setI o i v σ K := by unfold setI; exact h
theorem sliI.mk {o x y z : V} (h : sliceL X.ro o x y z σ Q) : sliI ⟨X, gt, sc, lv⟩ o x y z σ Q := by unfold sliI; exact h
theorem appI.mk {p : Addr} {xs : List V} {K : Addr → List V → Prop} (hp : σ p = some (.list xs)) (hh : K p xs) : appI (.ref p) σ K := by unfold appI; exact appP.mk hp hh
theorem dgtI.d {p : Addr} {es : List (Key × V)} {ep : Nat} {K : Addr → Prop} (hp : σ p = some (.dict es ep)) (hh : K p) : dgtI (.ref p) σ K := by unfold dgtI; exact dgetP.d hp hh
theorem dgtI.t {p : Addr} {es : List (List TK × V)} {K : Addr → Prop} (hp : σ p = some (.tdict es)) (hh : K p) : dgtI (.ref p) σ K := by unfold dgtI; exact dgetP.t hp hh
theorem attI.get {C p dx : Addr} {des : List (Key × V)} {ep : Nat} {name : Str} {v : V} (hp : σ p = some (.inst C dx)) (hd : σ dx = some (.dict des ep)) (hg : GetAt X.K C name) (hl : dlook des (.str name) = some v) (hv : notBi v = true) (hq : Q v σ) : attI ⟨X, gt, sc, lv⟩ name (.ref p) σ Q := by
 unfold attI; exact instP.get hp hd hg hl hv hq
theorem satI.set {C p dx : Addr} {des : List (Key × V)} {ep : Nat} {name : Str} {J : Addr → List (Key × V) → Nat → Prop} (hp : σ p = some (.inst C dx)) (hd : σ dx = some (.dict des ep)) (hg : SetAt X.K C name) (hl : des.length < lim) (hq : J dx des ep) : satI ⟨X, gt, sc, lv⟩ name (.ref p) σ J := by
 unfold satI; exact instP.set hp hd hg hl hq
theorem mthI.meth {C p dx f : Addr} {des : List (Key × V)} {ep : Nat} {name : Str} {J : Addr → Addr → Prop} (hp : σ p = some (.inst C dx)) (hd : σ dx = some (.dict des ep)) (hg : MethAt X.K C name f) (hl : dlook des (.str name) = none) (hq : J p f) : mthI ⟨X, gt, sc, lv⟩ name (.ref p) σ J := by
 unfold mthI; exact instP.meth hp hd hg hl hq
end
end Mine.Internal
set_option tactic.hygienic true
namespace hd
open PySem PySem.W PySem.Calls PyProof.Rows
noncomputable abbrev pw : Program := PySem.Challenge.rw_qz0031_04.row.toRowW.1
noncomputable abbrev vi (i : Int) (t : Nat) : Value := .int i t
noncomputable abbrev vs (x : String) (t : Nat) : Value := .str (Str.ofString x) t
noncomputable abbrev vt (x : String) : Value := .type x
noncomputable abbrev vb (x : String) : Value := .builtin x
noncomputable abbrev vr (a : Addr) : Value := .ref a
noncomputable abbrev de (P : Params) (x : String) (t : Nat) (v : Value) : DictEntry := ⟨PyData.keyHash P (Str.ofString x), .str (Str.ofString x) t, v⟩
noncomputable abbrev fu (x : Arguments × List Stmt × Scope) (n q : String) (g : Addr) (c : List (Str × Addr)) (a1 a2 a3 a4 : Value) (an : Option Addr) (a5 a6 : Value) (b : Addr) : Data :=
 .func ⟨Str.ofString n, Str.ofString q, x.1, .stmts x.2.1, x.2.2, g, c, a1, a2, a3, a4, an, a5, a6, b⟩
noncomputable def nth : List Stmt → Nat → Option Stmt
 | [], _ => none
 | x :: _, 0 => some x
 | _ :: r, n + 1 => nth r n
noncomputable def fnS : Option Stmt → Arguments × List Stmt × Scope
 | some (.FunctionDef _ a b _ _ _ s _ _ _) => (a, b, s)
 | _ => (⟨[], [], none, [], [], none, []⟩, [], ⟨.function, [], false, false, []⟩)
noncomputable def fnI (st : Option Stmt) (j : Nat) : Arguments × List Stmt × Scope := match st with
 | some (.ClassDef _ _ _ b _ _ _ _ _ _ _) => fnS (nth b j)
 | st => fnS st
noncomputable def fn (i j : Nat) : Arguments × List Stmt × Scope := fnI (nth pw.main.body i) j
@[reducible] noncomputable def fx0x0 : {x : Arguments × List Stmt × Scope // fn 0 0 = x} := by
 refine ⟨?x, ?h⟩
 case h =>
   conv => lhs; whnf
@[reducible] noncomputable def fx2x0 : {x : Arguments × List Stmt × Scope // fn 2 0 = x} := by
 refine ⟨?x, ?h⟩
 case h =>
   conv => lhs; whnf
@[reducible] noncomputable def fx2x1 : {x : Arguments × List Stmt × Scope // fn 2 1 = x} := by
 refine ⟨?x, ?h⟩
 case h =>
   conv => lhs; whnf
@[reducible] noncomputable def fx3x0 : {x : Arguments × List Stmt × Scope // fn 3 0 = x} := by
 refine ⟨?x, ?h⟩
 case h =>
   conv => lhs; whnf
@[reducible] noncomputable def fx4x0 : {x : Arguments × List Stmt × Scope // fn 4 0 = x} := by
 refine ⟨?x, ?h⟩
 case h =>
   conv => lhs; whnf
@[reducible] noncomputable def fx6x0 : {x : Arguments × List Stmt × Scope // fn 6 0 = x} := by
 refine ⟨?x, ?h⟩
 case h =>
   conv => lhs; whnf
@[reducible] noncomputable def fx7x0 : {x : Arguments × List Stmt × Scope // fn 7 0 = x} := by
 refine ⟨?x, ?h⟩
 case h =>
   conv => lhs; whnf
@[reducible] noncomputable def fx8x0 : {x : Arguments × List Stmt × Scope // fn 8 0 = x} := by
 refine ⟨?x, ?h⟩
 case h =>
   conv => lhs; whnf
@[reducible] noncomputable def fx9x0 : {x : Arguments × List Stmt × Scope // fn 9 0 = x} := by
 refine ⟨?x, ?h⟩
 case h =>
   conv => lhs; whnf
@[reducible] noncomputable def fx10x0 : {x : Arguments × List Stmt × Scope // fn 10 0 = x} := by
 refine ⟨?x, ?h⟩
 case h =>
   conv => lhs; whnf
@[reducible] noncomputable def fx11x0 : {x : Arguments × List Stmt × Scope // fn 11 0 = x} := by
 refine ⟨?x, ?h⟩
 case h =>
   conv => lhs; whnf
@[reducible] noncomputable def fx12x0 : {x : Arguments × List Stmt × Scope // fn 12 0 = x} := by
 refine ⟨?x, ?h⟩
 case h =>
   conv => lhs; whnf
@[reducible] noncomputable def fx13x0 : {x : Arguments × List Stmt × Scope // fn 13 0 = x} := by
 refine ⟨?x, ?h⟩
 case h =>
   conv => lhs; whnf
@[reducible] noncomputable def fx14x0 : {x : Arguments × List Stmt × Scope // fn 14 0 = x} := by
 refine ⟨?x, ?h⟩
 case h =>
   conv => lhs; whnf
@[reducible] noncomputable def fx20x0 : {x : Arguments × List Stmt × Scope // fn 20 0 = x} := by
 refine ⟨?x, ?h⟩
 case h =>
   conv => lhs; whnf
@[reducible] noncomputable def fx20x1 : {x : Arguments × List Stmt × Scope // fn 20 1 = x} := by
 refine ⟨?x, ?h⟩
 case h =>
   conv => lhs; whnf
@[reducible] noncomputable def fx20x2 : {x : Arguments × List Stmt × Scope // fn 20 2 = x} := by
 refine ⟨?x, ?h⟩
 case h =>
   conv => lhs; whnf
@[reducible] noncomputable def fx20x3 : {x : Arguments × List Stmt × Scope // fn 20 3 = x} := by
 refine ⟨?x, ?h⟩
 case h =>
   conv => lhs; whnf
@[reducible] noncomputable def fx20x4 : {x : Arguments × List Stmt × Scope // fn 20 4 = x} := by
 refine ⟨?x, ?h⟩
 case h =>
   conv => lhs; whnf
@[reducible] noncomputable def fx20x5 : {x : Arguments × List Stmt × Scope // fn 20 5 = x} := by
 refine ⟨?x, ?h⟩
 case h =>
   conv => lhs; whnf
@[reducible] noncomputable def fx20x6 : {x : Arguments × List Stmt × Scope // fn 20 6 = x} := by
 refine ⟨?x, ?h⟩
 case h =>
   conv => lhs; whnf
@[reducible] noncomputable def fx20x7 : {x : Arguments × List Stmt × Scope // fn 20 7 = x} := by
 refine ⟨?x, ?h⟩
 case h =>
   conv => lhs; whnf
@[reducible] noncomputable def fx20x8 : {x : Arguments × List Stmt × Scope // fn 20 8 = x} := by
 refine ⟨?x, ?h⟩
 case h =>
   conv => lhs; whnf
@[reducible] noncomputable def fx20x9 : {x : Arguments × List Stmt × Scope // fn 20 9 = x} := by
 refine ⟨?x, ?h⟩
 case h =>
   conv => lhs; whnf
@[reducible] noncomputable def fx20x10 : {x : Arguments × List Stmt × Scope // fn 20 10 = x} := by
 refine ⟨?x, ?h⟩
 case h =>
   conv => lhs; whnf
@[reducible] noncomputable def fx20x11 : {x : Arguments × List Stmt × Scope // fn 20 11 = x} := by
 refine ⟨?x, ?h⟩
 case h =>
   conv => lhs; whnf
@[reducible] noncomputable def fx20x12 : {x : Arguments × List Stmt × Scope // fn 20 12 = x} := by
 refine ⟨?x, ?h⟩
 case h =>
   conv => lhs; whnf
@[reducible] noncomputable def fx20x13 : {x : Arguments × List Stmt × Scope // fn 20 13 = x} := by
 refine ⟨?x, ?h⟩
 case h =>
   conv => lhs; whnf
@[reducible] noncomputable def fx20x14 : {x : Arguments × List Stmt × Scope // fn 20 14 = x} := by
 refine ⟨?x, ?h⟩
 case h =>
   conv => lhs; whnf
@[reducible] noncomputable def fx20x15 : {x : Arguments × List Stmt × Scope // fn 20 15 = x} := by
 refine ⟨?x, ?h⟩
 case h =>
   conv => lhs; whnf
@[reducible] noncomputable def fx20x16 : {x : Arguments × List Stmt × Scope // fn 20 16 = x} := by
 refine ⟨?x, ?h⟩
 case h =>
   conv => lhs; whnf
@[reducible] noncomputable def fx20x17 : {x : Arguments × List Stmt × Scope // fn 20 17 = x} := by
 refine ⟨?x, ?h⟩
 case h =>
   conv => lhs; whnf
@[reducible] noncomputable def fx20x18 : {x : Arguments × List Stmt × Scope // fn 20 18 = x} := by
 refine ⟨?x, ?h⟩
 case h =>
   conv => lhs; whnf
@[reducible] noncomputable def fx20x19 : {x : Arguments × List Stmt × Scope // fn 20 19 = x} := by
 refine ⟨?x, ?h⟩
 case h =>
   conv => lhs; whnf
@[reducible] noncomputable def fx20x20 : {x : Arguments × List Stmt × Scope // fn 20 20 = x} := by
 refine ⟨?x, ?h⟩
 case h =>
   conv => lhs; whnf
@[reducible] noncomputable def fx20x21 : {x : Arguments × List Stmt × Scope // fn 20 21 = x} := by
 refine ⟨?x, ?h⟩
 case h =>
   conv => lhs; whnf
@[reducible] noncomputable def fx20x22 : {x : Arguments × List Stmt × Scope // fn 20 22 = x} := by
 refine ⟨?x, ?h⟩
 case h =>
   conv => lhs; whnf
@[reducible] noncomputable def fx20x23 : {x : Arguments × List Stmt × Scope // fn 20 23 = x} := by
 refine ⟨?x, ?h⟩
 case h =>
   conv => lhs; whnf
@[reducible] noncomputable def fx20x24 : {x : Arguments × List Stmt × Scope // fn 20 24 = x} := by
 refine ⟨?x, ?h⟩
 case h =>
   conv => lhs; whnf
@[reducible] noncomputable def fx20x25 : {x : Arguments × List Stmt × Scope // fn 20 25 = x} := by
 refine ⟨?x, ?h⟩
 case h =>
   conv => lhs; whnf
@[reducible] noncomputable def fx20x26 : {x : Arguments × List Stmt × Scope // fn 20 26 = x} := by
 refine ⟨?x, ?h⟩
 case h =>
   conv => lhs; whnf
@[reducible] noncomputable def fx20x27 : {x : Arguments × List Stmt × Scope // fn 20 27 = x} := by
 refine ⟨?x, ?h⟩
 case h =>
   conv => lhs; whnf
@[reducible] noncomputable def fx20x28 : {x : Arguments × List Stmt × Scope // fn 20 28 = x} := by
 refine ⟨?x, ?h⟩
 case h =>
   conv => lhs; whnf
@[reducible] noncomputable def fx21x0 : {x : Arguments × List Stmt × Scope // fn 21 0 = x} := by
 refine ⟨?x, ?h⟩
 case h =>
   conv => lhs; whnf
@[reducible] noncomputable def fx21x1 : {x : Arguments × List Stmt × Scope // fn 21 1 = x} := by
 refine ⟨?x, ?h⟩
 case h =>
   conv => lhs; whnf
@[reducible] noncomputable def fx21x2 : {x : Arguments × List Stmt × Scope // fn 21 2 = x} := by
 refine ⟨?x, ?h⟩
 case h =>
   conv => lhs; whnf
@[reducible] noncomputable def fx21x3 : {x : Arguments × List Stmt × Scope // fn 21 3 = x} := by
 refine ⟨?x, ?h⟩
 case h =>
   conv => lhs; whnf
@[reducible] noncomputable def fx21x4 : {x : Arguments × List Stmt × Scope // fn 21 4 = x} := by
 refine ⟨?x, ?h⟩
 case h =>
   conv => lhs; whnf
@[reducible] noncomputable def fx21x5 : {x : Arguments × List Stmt × Scope // fn 21 5 = x} := by
 refine ⟨?x, ?h⟩
 case h =>
   conv => lhs; whnf
@[reducible] noncomputable def fx21x6 : {x : Arguments × List Stmt × Scope // fn 21 6 = x} := by
 refine ⟨?x, ?h⟩
 case h =>
   conv => lhs; whnf
@[reducible] noncomputable def fx21x7 : {x : Arguments × List Stmt × Scope // fn 21 7 = x} := by
 refine ⟨?x, ?h⟩
 case h =>
   conv => lhs; whnf
@[reducible] noncomputable def fx21x8 : {x : Arguments × List Stmt × Scope // fn 21 8 = x} := by
 refine ⟨?x, ?h⟩
 case h =>
   conv => lhs; whnf
@[reducible] noncomputable def fx21x9 : {x : Arguments × List Stmt × Scope // fn 21 9 = x} := by
 refine ⟨?x, ?h⟩
 case h =>
   conv => lhs; whnf
@[reducible] noncomputable def fx21x10 : {x : Arguments × List Stmt × Scope // fn 21 10 = x} := by
 refine ⟨?x, ?h⟩
 case h =>
   conv => lhs; whnf
@[reducible] noncomputable def fx21x11 : {x : Arguments × List Stmt × Scope // fn 21 11 = x} := by
 refine ⟨?x, ?h⟩
 case h =>
   conv => lhs; whnf
@[reducible] noncomputable def fx21x12 : {x : Arguments × List Stmt × Scope // fn 21 12 = x} := by
 refine ⟨?x, ?h⟩
 case h =>
   conv => lhs; whnf
@[reducible] noncomputable def fx22x0 : {x : Arguments × List Stmt × Scope // fn 22 0 = x} := by
 refine ⟨?x, ?h⟩
 case h =>
   conv => lhs; whnf
@[reducible] noncomputable def fx23x0 : {x : Arguments × List Stmt × Scope // fn 23 0 = x} := by
 refine ⟨?x, ?h⟩
 case h =>
   conv => lhs; whnf
@[reducible] noncomputable def fx23x1 : {x : Arguments × List Stmt × Scope // fn 23 1 = x} := by
 refine ⟨?x, ?h⟩
 case h =>
   conv => lhs; whnf
@[reducible] noncomputable def fx23x2 : {x : Arguments × List Stmt × Scope // fn 23 2 = x} := by
 refine ⟨?x, ?h⟩
 case h =>
   conv => lhs; whnf
@[reducible] noncomputable def fx23x3 : {x : Arguments × List Stmt × Scope // fn 23 3 = x} := by
 refine ⟨?x, ?h⟩
 case h =>
   conv => lhs; whnf
@[reducible] noncomputable def fx23x4 : {x : Arguments × List Stmt × Scope // fn 23 4 = x} := by
 refine ⟨?x, ?h⟩
 case h =>
   conv => lhs; whnf
@[reducible] noncomputable def fx23x5 : {x : Arguments × List Stmt × Scope // fn 23 5 = x} := by
 refine ⟨?x, ?h⟩
 case h =>
   conv => lhs; whnf
@[reducible] noncomputable def fx23x6 : {x : Arguments × List Stmt × Scope // fn 23 6 = x} := by
 refine ⟨?x, ?h⟩
 case h =>
   conv => lhs; whnf
@[reducible] noncomputable def fx23x7 : {x : Arguments × List Stmt × Scope // fn 23 7 = x} := by
 refine ⟨?x, ?h⟩
 case h =>
   conv => lhs; whnf
@[reducible] noncomputable def fx23x8 : {x : Arguments × List Stmt × Scope // fn 23 8 = x} := by
 refine ⟨?x, ?h⟩
 case h =>
   conv => lhs; whnf
@[reducible] noncomputable def fx23x9 : {x : Arguments × List Stmt × Scope // fn 23 9 = x} := by
 refine ⟨?x, ?h⟩
 case h =>
   conv => lhs; whnf
@[reducible] noncomputable def fx23x10 : {x : Arguments × List Stmt × Scope // fn 23 10 = x} := by
 refine ⟨?x, ?h⟩
 case h =>
   conv => lhs; whnf
@[reducible] noncomputable def fx24x0 : {x : Arguments × List Stmt × Scope // fn 24 0 = x} := by
 refine ⟨?x, ?h⟩
 case h =>
   conv => lhs; whnf
@[reducible] noncomputable def fx24x1 : {x : Arguments × List Stmt × Scope // fn 24 1 = x} := by
 refine ⟨?x, ?h⟩
 case h =>
   conv => lhs; whnf
@[reducible] noncomputable def fx24x2 : {x : Arguments × List Stmt × Scope // fn 24 2 = x} := by
 refine ⟨?x, ?h⟩
 case h =>
   conv => lhs; whnf
@[reducible] noncomputable def fx24x3 : {x : Arguments × List Stmt × Scope // fn 24 3 = x} := by
 refine ⟨?x, ?h⟩
 case h =>
   conv => lhs; whnf
@[reducible] noncomputable def fx24x4 : {x : Arguments × List Stmt × Scope // fn 24 4 = x} := by
 refine ⟨?x, ?h⟩
 case h =>
   conv => lhs; whnf
@[reducible] noncomputable def fx24x5 : {x : Arguments × List Stmt × Scope // fn 24 5 = x} := by
 refine ⟨?x, ?h⟩
 case h =>
   conv => lhs; whnf
@[reducible] noncomputable def fx24x6 : {x : Arguments × List Stmt × Scope // fn 24 6 = x} := by
 refine ⟨?x, ?h⟩
 case h =>
   conv => lhs; whnf
@[reducible] noncomputable def fx24x7 : {x : Arguments × List Stmt × Scope // fn 24 7 = x} := by
 refine ⟨?x, ?h⟩
 case h =>
   conv => lhs; whnf
@[reducible] noncomputable def fx24x8 : {x : Arguments × List Stmt × Scope // fn 24 8 = x} := by
 refine ⟨?x, ?h⟩
 case h =>
   conv => lhs; whnf
@[reducible] noncomputable def fx24x9 : {x : Arguments × List Stmt × Scope // fn 24 9 = x} := by
 refine ⟨?x, ?h⟩
 case h =>
   conv => lhs; whnf
@[reducible] noncomputable def fx24x10 : {x : Arguments × List Stmt × Scope // fn 24 10 = x} := by
 refine ⟨?x, ?h⟩
 case h =>
   conv => lhs; whnf
@[reducible] noncomputable def fx24x11 : {x : Arguments × List Stmt × Scope // fn 24 11 = x} := by
 refine ⟨?x, ?h⟩
 case h =>
   conv => lhs; whnf
@[reducible] noncomputable def fx24x12 : {x : Arguments × List Stmt × Scope // fn 24 12 = x} := by
 refine ⟨?x, ?h⟩
 case h =>
   conv => lhs; whnf
@[reducible] noncomputable def fx24x13 : {x : Arguments × List Stmt × Scope // fn 24 13 = x} := by
 refine ⟨?x, ?h⟩
 case h =>
   conv => lhs; whnf
@[reducible] noncomputable def fx24x14 : {x : Arguments × List Stmt × Scope // fn 24 14 = x} := by
 refine ⟨?x, ?h⟩
 case h =>
   conv => lhs; whnf
@[reducible] noncomputable def fx26x0 : {x : Arguments × List Stmt × Scope // fn 26 0 = x} := by
 refine ⟨?x, ?h⟩
 case h =>
   conv => lhs; whnf
@[reducible] noncomputable def fx27x0 : {x : Arguments × List Stmt × Scope // fn 27 0 = x} := by
 refine ⟨?x, ?h⟩
 case h =>
   conv => lhs; whnf
@[reducible] noncomputable def fx27x1 : {x : Arguments × List Stmt × Scope // fn 27 1 = x} := by
 refine ⟨?x, ?h⟩
 case h =>
   conv => lhs; whnf
@[reducible] noncomputable def fx27x2 : {x : Arguments × List Stmt × Scope // fn 27 2 = x} := by
 refine ⟨?x, ?h⟩
 case h =>
   conv => lhs; whnf
@[reducible] noncomputable def fx27x3 : {x : Arguments × List Stmt × Scope // fn 27 3 = x} := by
 refine ⟨?x, ?h⟩
 case h =>
   conv => lhs; whnf
@[reducible] noncomputable def fx27x4 : {x : Arguments × List Stmt × Scope // fn 27 4 = x} := by
 refine ⟨?x, ?h⟩
 case h =>
   conv => lhs; whnf
@[reducible] noncomputable def fx27x5 : {x : Arguments × List Stmt × Scope // fn 27 5 = x} := by
 refine ⟨?x, ?h⟩
 case h =>
   conv => lhs; whnf
@[reducible] noncomputable def fx27x6 : {x : Arguments × List Stmt × Scope // fn 27 6 = x} := by
 refine ⟨?x, ?h⟩
 case h =>
   conv => lhs; whnf
@[reducible] noncomputable def fx27x7 : {x : Arguments × List Stmt × Scope // fn 27 7 = x} := by
 refine ⟨?x, ?h⟩
 case h =>
   conv => lhs; whnf
@[reducible] noncomputable def fx27x8 : {x : Arguments × List Stmt × Scope // fn 27 8 = x} := by
 refine ⟨?x, ?h⟩
 case h =>
   conv => lhs; whnf
@[reducible] noncomputable def fx29x0 : {x : Arguments × List Stmt × Scope // fn 29 0 = x} := by
 refine ⟨?x, ?h⟩
 case h =>
   conv => lhs; whnf
@[reducible] noncomputable def fx30x0 : {x : Arguments × List Stmt × Scope // fn 30 0 = x} := by
 refine ⟨?x, ?h⟩
 case h =>
   conv => lhs; whnf
@[reducible] noncomputable def fx31x0 : {x : Arguments × List Stmt × Scope // fn 31 0 = x} := by
 refine ⟨?x, ?h⟩
 case h =>
   conv => lhs; whnf
@[reducible] noncomputable def fx32x0 : {x : Arguments × List Stmt × Scope // fn 32 0 = x} := by
 refine ⟨?x, ?h⟩
 case h =>
   conv => lhs; whnf
@[reducible] noncomputable def fx33x0 : {x : Arguments × List Stmt × Scope // fn 33 0 = x} := by
 refine ⟨?x, ?h⟩
 case h =>
   conv => lhs; whnf
@[reducible] noncomputable def fx34x0 : {x : Arguments × List Stmt × Scope // fn 34 0 = x} := by
 refine ⟨?x, ?h⟩
 case h =>
   conv => lhs; whnf
@[reducible] noncomputable def fx35x0 : {x : Arguments × List Stmt × Scope // fn 35 0 = x} := by
 refine ⟨?x, ?h⟩
 case h =>
   conv => lhs; whnf
@[reducible] noncomputable def fx36x0 : {x : Arguments × List Stmt × Scope // fn 36 0 = x} := by
 refine ⟨?x, ?h⟩
 case h =>
   conv => lhs; whnf
noncomputable def put : Nat → List (Nat × Obj) → List Obj → List Obj
 | _, [], l => l
 | _, _ :: _, [] => []
 | i, (j, x) :: r, y :: l => match Nat.beq i j with
   | true => x :: put (i + 1) r l
   | false => y :: put (i + 1) ((j, x) :: r) l
noncomputable def ev : List Obj → List Obj
 | [] => []
 | [x] => [x]
 | x :: _ :: r => x :: ev r
noncomputable def od : List Obj → List Obj
 | [] => []
 | _ :: r => ev r
noncomputable def bt : Nat → List Obj → BT
 | 0, _ => .nil
 | _ + 1, [] => .nil
 | n + 1, x :: r => .node x (bt n (ev r)) (bt n (od r))
noncomputable def o2 (P : Params) : Obj := ⟨.none, none, (.dict #[de P "type.__subclasses__.Exception.0" 230 (vi 47 0), de P "type.__subclasses__.Exception.n" 231 (vi 1 0)] 2), #[]⟩
noncomputable def o3 (P : Params) : Obj := ⟨(vt "dict"), none, (.dict #[de P "__name__" 165 (vs "law_qz0031_04" 1189), de P "__doc__" 166 .none, de P "__package__" 167 .none, de P "__loader__" 168 (vb "__main__.__loader__#opaque"), de P "__spec__" 169 .none, de P "__annotations__" 170 (vr 6), de P "__builtins__" 171 (vr 4), de P "__file__" 173 (vs "/claim/cut.py" 172), de P "__cached__" 174 .none, de P "_wall" 193 (vr 21), de P "SmtError" 233 (vr 47), de P "SortFault" 256 (vr 67), de P "LimitFault" 279 (vr 86), de P "gcd_of" 289 (vr 95), de P "gcd_all" 298 (vr 102), de P "lcm_of" 306 (vr 109), de P "ratio" 315 (vr 116), de P "mul" 323 (vr 123), de P "floor_of" 330 (vr 130), de P "ceil_of" 337 (vr 137), de P "is_whole" 344 (vr 144), de P "common_bottom" 353 (vr 151), de P "BOOL" 357 (vi 0 356), de P "INT" 359 (vi 1 358), de P "REAL" 361 (vi 2 360), de P "MOST_BITS" 365 (vi 65536 364), de P "Bank" 649 (vr 364), de P "BoolBank" 782 (vr 469), de P "want_small" 789 (vr 478), de P "NumberBank" 903 (vr 565), de P "TermBank" 1058 (vr 684), de P "Row" 1093 (vr 703), de P "RowJudge" 1188 (vr 778), de P "_law_draw" 1199 (vr 789), de P "_law_lowest" 1208 (vr 796), de P "_law_says" 1223 (vr 803), de P "_law_is_due" 1229 (vr 808), de P "_law_points" 1235 (vr 813), de P "_law_times" 1243 (vr 820), de P "_law_row_right" 1249 (vr 825), de P "law" 1263 (vr 832)] 41), #[]⟩
noncomputable def o15 : Obj := ⟨(vt "tuple"), none, (.seq #[] 0), #[]⟩
noncomputable def o17 : Obj := ⟨(vt "tuple"), none, (.seq #[(vs "k" 190)] 0), #[]⟩
noncomputable def o18 : Obj := ⟨(vt "tuple"), none, (.seq #[] 0), #[]⟩
noncomputable def o20 : Obj := ⟨(vt "code"), none, (.fields #[(vs "_wall" 187), (vs "_wall" 188), (vs "/claim/cut.py" 189), (vi 1 0), (vi 1 0), (vi 0 0), (vi 0 0), (vi 3 0), (vr 15), (.bool true), (vi 181 0), (vr 16), .none, (vr 17), (vr 18), (vr 19), (vi 191 0), (vi 1 0), (vs "/claim/cut.py" 192)]), #[]⟩
noncomputable def o21 : Obj := ⟨(vt "function"), none, (fu fx0x0.1 "_wall" "_wall" 3 [] .none .none .none (vs "__main__" 164) none (vr 20) .none 0), #[]⟩
noncomputable def o22 : Obj := ⟨(vt "tuple"), none, (.seq #[(vt "Exception")] 0), #[]⟩
noncomputable def o25 : Obj := ⟨(vt "cell"), none, (.cell (some (vr 47))), #[]⟩
noncomputable def o30 : Obj := ⟨(vt "tuple"), none, (.seq #[(vr 25)] 0), #[]⟩
noncomputable def o31 : Obj := ⟨(vt "tuple"), none, (.seq #[(vs "__class__" 211)] 0), #[]⟩
noncomputable def o33 : Obj := ⟨(vt "tuple"), none, (.seq #[(vs "self" 212), (vs "what" 213)] 0), #[]⟩
noncomputable def o34 : Obj := ⟨(vt "tuple"), none, (.seq #[] 0), #[]⟩
noncomputable def o36 : Obj := ⟨(vt "code"), none, (.fields #[(vs "__init__" 208), (vs "SmtError.__init__" 209), (vs "/claim/cut.py" 210), (vi 7 0), (vi 2 0), (vi 0 0), (vi 0 0), (vi 3 0), (vr 31), (.bool true), (vi 181 0), (vr 32), .none, (vr 33), (vr 34), (vr 35), (vi 214 0), (vi 7 0), (vs "/claim/cut.py" 215)]), #[]⟩
noncomputable def o37 : Obj := ⟨(vt "function"), none, (fu fx2x0.1 "__init__" "SmtError.__init__" 3 [(Str.ofString "__class__", 25)] .none .none .none (vs "minismt.errors" 194) none (vr 36) (vr 30) 0), #[]⟩
noncomputable def o38 : Obj := ⟨(vt "tuple"), none, (.seq #[] 0), #[]⟩
noncomputable def o40 : Obj := ⟨(vt "tuple"), none, (.seq #[(vs "self" 220)] 0), #[]⟩
noncomputable def o41 : Obj := ⟨(vt "tuple"), none, (.seq #[] 0), #[]⟩
noncomputable def o43 : Obj := ⟨(vt "code"), none, (.fields #[(vs "told" 217), (vs "SmtError.told" 218), (vs "/claim/cut.py" 219), (vi 11 0), (vi 1 0), (vi 0 0), (vi 0 0), (vi 3 0), (vr 38), (.bool true), (vi 181 0), (vr 39), .none, (vr 40), (vr 41), (vr 42), (vi 221 0), (vi 11 0), (vs "/claim/cut.py" 222)]), #[]⟩
noncomputable def o44 : Obj := ⟨(vt "function"), none, (fu fx2x1.1 "told" "SmtError.told" 3 [] .none .none .none (vs "minismt.errors" 194) none (vr 43) .none 0), #[]⟩
noncomputable def o45 : Obj := ⟨(vt "tuple"), none, (.seq #[(vs "what" 224)] 0), #[]⟩
noncomputable def o46 (P : Params) : Obj := ⟨(vt "dict"), none, (.dict #[de P "__module__" 203 (vs "minismt.errors" 194), de P "__firstlineno__" 207 (vi 5 206), de P "__init__" 216 (vr 37), de P "told" 223 (vr 44), de P "__static_attributes__" 225 (vr 45), de P "__weakref__" 228 (vr 48), de P "__doc__" 229 .none] 4), #[]⟩
noncomputable def o47 : Obj := ⟨(vt "type"), none, (.cls ⟨Str.ofString "SmtError", [(vt "Exception")], [(vr 47), (vt "Exception"), (vt "BaseException"), (vt "object")], 46, Str.ofString "SmtError", true, [], [(vr 67), (vr 86)], false, none, false⟩), #[(some (vr 22)), none, (some (vs "SmtError" 196)), (some (vs "SmtError" 204)), (some (vb "Exception.__new__")), (some (.bool true))]⟩
noncomputable def o48 : Obj := ⟨(vt "getset_descriptor"), none, (.fields #[(vs "__weakref__" 227), (vr 47), (vb "ExceptionGroup.__weakref__"), .none]), #[]⟩
noncomputable def o51 : Obj := ⟨(vt "tuple"), none, (.seq #[(vr 47)] 0), #[]⟩
noncomputable def o58 : Obj := ⟨(vt "tuple"), none, (.seq #[] 0), #[]⟩
noncomputable def o60 : Obj := ⟨(vt "tuple"), none, (.seq #[(vs "self" 249)] 0), #[]⟩
noncomputable def o61 : Obj := ⟨(vt "tuple"), none, (.seq #[] 0), #[]⟩
noncomputable def o63 : Obj := ⟨(vt "code"), none, (.fields #[(vs "told" 246), (vs "SortFault.told" 247), (vs "/claim/cut.py" 248), (vi 15 0), (vi 1 0), (vi 0 0), (vi 0 0), (vi 3 0), (vr 58), (.bool true), (vi 181 0), (vr 59), .none, (vr 60), (vr 61), (vr 62), (vi 250 0), (vi 15 0), (vs "/claim/cut.py" 251)]), #[]⟩
noncomputable def o64 : Obj := ⟨(vt "function"), none, (fu fx3x0.1 "told" "SortFault.told" 3 [] .none .none .none (vs "minismt.errors" 194) none (vr 63) .none 0), #[]⟩
noncomputable def o65 : Obj := ⟨(vt "tuple"), none, (.seq #[] 0), #[]⟩
noncomputable def o66 (P : Params) : Obj := ⟨(vt "dict"), none, (.dict #[de P "__module__" 241 (vs "minismt.errors" 194), de P "__firstlineno__" 245 (vi 13 244), de P "told" 252 (vr 64), de P "__static_attributes__" 253 (vr 65), de P "__doc__" 254 .none] 2), #[]⟩
noncomputable def o67 : Obj := ⟨(vt "type"), none, (.cls ⟨Str.ofString "SortFault", [(vr 47)], [(vr 67), (vr 47), (vt "Exception"), (vt "BaseException"), (vt "object")], 66, Str.ofString "SortFault", true, [], [], false, none, false⟩), #[(some (vr 51)), none, (some (vs "SortFault" 234)), (some (vs "SortFault" 242)), (some (vb "Exception.__new__")), (some (.bool true))]⟩
noncomputable def o70 : Obj := ⟨(vt "tuple"), none, (.seq #[(vr 47)] 0), #[]⟩
noncomputable def o77 : Obj := ⟨(vt "tuple"), none, (.seq #[] 0), #[]⟩
noncomputable def o79 : Obj := ⟨(vt "tuple"), none, (.seq #[(vs "self" 272)] 0), #[]⟩
noncomputable def o80 : Obj := ⟨(vt "tuple"), none, (.seq #[] 0), #[]⟩
noncomputable def o82 : Obj := ⟨(vt "code"), none, (.fields #[(vs "told" 269), (vs "LimitFault.told" 270), (vs "/claim/cut.py" 271), (vi 19 0), (vi 1 0), (vi 0 0), (vi 0 0), (vi 3 0), (vr 77), (.bool true), (vi 181 0), (vr 78), .none, (vr 79), (vr 80), (vr 81), (vi 273 0), (vi 19 0), (vs "/claim/cut.py" 274)]), #[]⟩
noncomputable def o83 : Obj := ⟨(vt "function"), none, (fu fx4x0.1 "told" "LimitFault.told" 3 [] .none .none .none (vs "minismt.errors" 194) none (vr 82) .none 0), #[]⟩
noncomputable def o84 : Obj := ⟨(vt "tuple"), none, (.seq #[] 0), #[]⟩
noncomputable def o85 (P : Params) : Obj := ⟨(vt "dict"), none, (.dict #[de P "__module__" 264 (vs "minismt.errors" 194), de P "__firstlineno__" 268 (vi 17 267), de P "told" 275 (vr 83), de P "__static_attributes__" 276 (vr 84), de P "__doc__" 277 .none] 2), #[]⟩
noncomputable def o86 : Obj := ⟨(vt "type"), none, (.cls ⟨Str.ofString "LimitFault", [(vr 47)], [(vr 86), (vr 47), (vt "Exception"), (vt "BaseException"), (vt "object")], 85, Str.ofString "LimitFault", true, [], [], false, none, false⟩), #[(some (vr 70)), none, (some (vs "LimitFault" 257)), (some (vs "LimitFault" 265)), (some (vb "Exception.__new__")), (some (.bool true))]⟩
noncomputable def o89 : Obj := ⟨(vt "tuple"), none, (.seq #[] 0), #[]⟩
noncomputable def o91 : Obj := ⟨(vt "tuple"), none, (.seq #[(vs "a" 285), (vs "b" 286)] 0), #[]⟩
noncomputable def o92 : Obj := ⟨(vt "tuple"), none, (.seq #[] 0), #[]⟩
noncomputable def o94 : Obj := ⟨(vt "code"), none, (.fields #[(vs "gcd_of" 282), (vs "gcd_of" 283), (vs "/claim/cut.py" 284), (vi 22 0), (vi 2 0), (vi 0 0), (vi 0 0), (vi 3 0), (vr 89), (.bool true), (vi 181 0), (vr 90), .none, (vr 91), (vr 92), (vr 93), (vi 287 0), (vi 22 0), (vs "/claim/cut.py" 288)]), #[]⟩
noncomputable def o95 : Obj := ⟨(vt "function"), none, (fu fx6x0.1 "gcd_of" "gcd_of" 3 [] .none .none .none (vs "minismt.ratios" 280) none (vr 94) .none 0), #[]⟩
noncomputable def o96 : Obj := ⟨(vt "tuple"), none, (.seq #[] 0), #[]⟩
noncomputable def o98 : Obj := ⟨(vt "tuple"), none, (.seq #[(vs "numbers" 293), (vs "found" 294), (vs "one" 295)] 0), #[]⟩
noncomputable def o99 : Obj := ⟨(vt "tuple"), none, (.seq #[] 0), #[]⟩
noncomputable def o101 : Obj := ⟨(vt "code"), none, (.fields #[(vs "gcd_all" 290), (vs "gcd_all" 291), (vs "/claim/cut.py" 292), (vi 27 0), (vi 1 0), (vi 0 0), (vi 0 0), (vi 3 0), (vr 96), (.bool true), (vi 181 0), (vr 97), .none, (vr 98), (vr 99), (vr 100), (vi 296 0), (vi 27 0), (vs "/claim/cut.py" 297)]), #[]⟩
noncomputable def o102 : Obj := ⟨(vt "function"), none, (fu fx7x0.1 "gcd_all" "gcd_all" 3 [] .none .none .none (vs "minismt.ratios" 280) none (vr 101) .none 0), #[]⟩
noncomputable def o103 : Obj := ⟨(vt "tuple"), none, (.seq #[] 0), #[]⟩
noncomputable def o105 : Obj := ⟨(vt "tuple"), none, (.seq #[(vs "a" 302), (vs "b" 303)] 0), #[]⟩
noncomputable def o106 : Obj := ⟨(vt "tuple"), none, (.seq #[] 0), #[]⟩
noncomputable def o108 : Obj := ⟨(vt "code"), none, (.fields #[(vs "lcm_of" 299), (vs "lcm_of" 300), (vs "/claim/cut.py" 301), (vi 34 0), (vi 2 0), (vi 0 0), (vi 0 0), (vi 3 0), (vr 103), (.bool true), (vi 181 0), (vr 104), .none, (vr 105), (vr 106), (vr 107), (vi 304 0), (vi 34 0), (vs "/claim/cut.py" 305)]), #[]⟩
noncomputable def o109 : Obj := ⟨(vt "function"), none, (fu fx8x0.1 "lcm_of" "lcm_of" 3 [] .none .none .none (vs "minismt.ratios" 280) none (vr 108) .none 0), #[]⟩
noncomputable def o110 : Obj := ⟨(vt "tuple"), none, (.seq #[] 0), #[]⟩
noncomputable def o112 : Obj := ⟨(vt "tuple"), none, (.seq #[(vs "top" 310), (vs "bottom" 311), (vs "common" 312)] 0), #[]⟩
noncomputable def o113 : Obj := ⟨(vt "tuple"), none, (.seq #[] 0), #[]⟩
noncomputable def o115 : Obj := ⟨(vt "code"), none, (.fields #[(vs "ratio" 307), (vs "ratio" 308), (vs "/claim/cut.py" 309), (vi 36 0), (vi 2 0), (vi 0 0), (vi 0 0), (vi 3 0), (vr 110), (.bool true), (vi 181 0), (vr 111), .none, (vr 112), (vr 113), (vr 114), (vi 313 0), (vi 36 0), (vs "/claim/cut.py" 314)]), #[]⟩
noncomputable def o116 : Obj := ⟨(vt "function"), none, (fu fx9x0.1 "ratio" "ratio" 3 [] .none .none .none (vs "minismt.ratios" 280) none (vr 115) .none 0), #[]⟩
noncomputable def o117 : Obj := ⟨(vt "tuple"), none, (.seq #[] 0), #[]⟩
noncomputable def o119 : Obj := ⟨(vt "tuple"), none, (.seq #[(vs "a" 319), (vs "b" 320)] 0), #[]⟩
noncomputable def o120 : Obj := ⟨(vt "tuple"), none, (.seq #[] 0), #[]⟩
noncomputable def o122 : Obj := ⟨(vt "code"), none, (.fields #[(vs "mul" 316), (vs "mul" 317), (vs "/claim/cut.py" 318), (vi 43 0), (vi 2 0), (vi 0 0), (vi 0 0), (vi 3 0), (vr 117), (.bool true), (vi 181 0), (vr 118), .none, (vr 119), (vr 120), (vr 121), (vi 321 0), (vi 43 0), (vs "/claim/cut.py" 322)]), #[]⟩
noncomputable def o123 : Obj := ⟨(vt "function"), none, (fu fx10x0.1 "mul" "mul" 3 [] .none .none .none (vs "minismt.ratios" 280) none (vr 122) .none 0), #[]⟩
noncomputable def o124 : Obj := ⟨(vt "tuple"), none, (.seq #[] 0), #[]⟩
noncomputable def o126 : Obj := ⟨(vt "tuple"), none, (.seq #[(vs "a" 327)] 0), #[]⟩
noncomputable def o127 : Obj := ⟨(vt "tuple"), none, (.seq #[] 0), #[]⟩
noncomputable def o129 : Obj := ⟨(vt "code"), none, (.fields #[(vs "floor_of" 324), (vs "floor_of" 325), (vs "/claim/cut.py" 326), (vi 47 0), (vi 1 0), (vi 0 0), (vi 0 0), (vi 3 0), (vr 124), (.bool true), (vi 181 0), (vr 125), .none, (vr 126), (vr 127), (vr 128), (vi 328 0), (vi 47 0), (vs "/claim/cut.py" 329)]), #[]⟩
noncomputable def o130 : Obj := ⟨(vt "function"), none, (fu fx11x0.1 "floor_of" "floor_of" 3 [] .none .none .none (vs "minismt.ratios" 280) none (vr 129) .none 0), #[]⟩
noncomputable def o131 : Obj := ⟨(vt "tuple"), none, (.seq #[] 0), #[]⟩
noncomputable def o133 : Obj := ⟨(vt "tuple"), none, (.seq #[(vs "a" 334)] 0), #[]⟩
noncomputable def o134 : Obj := ⟨(vt "tuple"), none, (.seq #[] 0), #[]⟩
noncomputable def o136 : Obj := ⟨(vt "code"), none, (.fields #[(vs "ceil_of" 331), (vs "ceil_of" 332), (vs "/claim/cut.py" 333), (vi 49 0), (vi 1 0), (vi 0 0), (vi 0 0), (vi 3 0), (vr 131), (.bool true), (vi 181 0), (vr 132), .none, (vr 133), (vr 134), (vr 135), (vi 335 0), (vi 49 0), (vs "/claim/cut.py" 336)]), #[]⟩
noncomputable def o137 : Obj := ⟨(vt "function"), none, (fu fx12x0.1 "ceil_of" "ceil_of" 3 [] .none .none .none (vs "minismt.ratios" 280) none (vr 136) .none 0), #[]⟩
noncomputable def o138 : Obj := ⟨(vt "tuple"), none, (.seq #[] 0), #[]⟩
noncomputable def o140 : Obj := ⟨(vt "tuple"), none, (.seq #[(vs "a" 341)] 0), #[]⟩
noncomputable def o141 : Obj := ⟨(vt "tuple"), none, (.seq #[] 0), #[]⟩
noncomputable def o143 : Obj := ⟨(vt "code"), none, (.fields #[(vs "is_whole" 338), (vs "is_whole" 339), (vs "/claim/cut.py" 340), (vi 51 0), (vi 1 0), (vi 0 0), (vi 0 0), (vi 3 0), (vr 138), (.bool true), (vi 181 0), (vr 139), .none, (vr 140), (vr 141), (vr 142), (vi 342 0), (vi 51 0), (vs "/claim/cut.py" 343)]), #[]⟩
noncomputable def o144 : Obj := ⟨(vt "function"), none, (fu fx13x0.1 "is_whole" "is_whole" 3 [] .none .none .none (vs "minismt.ratios" 280) none (vr 143) .none 0), #[]⟩
noncomputable def o145 : Obj := ⟨(vt "tuple"), none, (.seq #[] 0), #[]⟩
noncomputable def o147 : Obj := ⟨(vt "tuple"), none, (.seq #[(vs "ratios" 348), (vs "found" 349), (vs "one" 350)] 0), #[]⟩
noncomputable def o148 : Obj := ⟨(vt "tuple"), none, (.seq #[] 0), #[]⟩
noncomputable def o150 : Obj := ⟨(vt "code"), none, (.fields #[(vs "common_bottom" 345), (vs "common_bottom" 346), (vs "/claim/cut.py" 347), (vi 53 0), (vi 1 0), (vi 0 0), (vi 0 0), (vi 3 0), (vr 145), (.bool true), (vi 181 0), (vr 146), .none, (vr 147), (vr 148), (vr 149), (vi 351 0), (vi 53 0), (vs "/claim/cut.py" 352)]), #[]⟩
noncomputable def o151 : Obj := ⟨(vt "function"), none, (fu fx14x0.1 "common_bottom" "common_bottom" 3 [] .none .none .none (vs "minismt.ratios" 280) none (vr 150) .none 0), #[]⟩
noncomputable def o159 : Obj := ⟨(vt "tuple"), none, (.seq #[] 0), #[]⟩
noncomputable def o161 : Obj := ⟨(vt "tuple"), none, (.seq #[(vs "self" 381)] 0), #[]⟩
noncomputable def o162 : Obj := ⟨(vt "tuple"), none, (.seq #[] 0), #[]⟩
noncomputable def o164 : Obj := ⟨(vt "code"), none, (.fields #[(vs "__init__" 378), (vs "Bank.__init__" 379), (vs "/claim/cut.py" 380), (vi 65 0), (vi 1 0), (vi 0 0), (vi 0 0), (vi 3 0), (vr 159), (.bool true), (vi 181 0), (vr 160), .none, (vr 161), (vr 162), (vr 163), (vi 382 0), (vi 65 0), (vs "/claim/cut.py" 383)]), #[]⟩
noncomputable def o165 : Obj := ⟨(vt "function"), none, (fu fx20x0.1 "__init__" "Bank.__init__" 3 [] .none .none .none (vs "minismt.terms" 354) none (vr 164) .none 0), #[]⟩
noncomputable def o166 : Obj := ⟨(vt "tuple"), none, (.seq #[] 0), #[]⟩
noncomputable def o168 : Obj := ⟨(vt "tuple"), none, (.seq #[(vs "self" 388), (vs "s" 389)] 0), #[]⟩
noncomputable def o169 : Obj := ⟨(vt "tuple"), none, (.seq #[] 0), #[]⟩
noncomputable def o171 : Obj := ⟨(vt "code"), none, (.fields #[(vs "sort_name" 385), (vs "Bank.sort_name" 386), (vs "/claim/cut.py" 387), (vi 80 0), (vi 2 0), (vi 0 0), (vi 0 0), (vi 3 0), (vr 166), (.bool true), (vi 181 0), (vr 167), .none, (vr 168), (vr 169), (vr 170), (vi 390 0), (vi 80 0), (vs "/claim/cut.py" 391)]), #[]⟩
noncomputable def o172 : Obj := ⟨(vt "function"), none, (fu fx20x1.1 "sort_name" "Bank.sort_name" 3 [] .none .none .none (vs "minismt.terms" 354) none (vr 171) .none 0), #[]⟩
noncomputable def o173 : Obj := ⟨(vt "tuple"), none, (.seq #[] 0), #[]⟩
noncomputable def o175 : Obj := ⟨(vt "tuple"), none, (.seq #[(vs "self" 396), (vs "name" 397)] 0), #[]⟩
noncomputable def o176 : Obj := ⟨(vt "tuple"), none, (.seq #[] 0), #[]⟩
noncomputable def o178 : Obj := ⟨(vt "code"), none, (.fields #[(vs "declare_sort" 393), (vs "Bank.declare_sort" 394), (vs "/claim/cut.py" 395), (vi 83 0), (vi 2 0), (vi 0 0), (vi 0 0), (vi 3 0), (vr 173), (.bool true), (vi 181 0), (vr 174), .none, (vr 175), (vr 176), (vr 177), (vi 398 0), (vi 83 0), (vs "/claim/cut.py" 399)]), #[]⟩
noncomputable def o179 : Obj := ⟨(vt "function"), none, (fu fx20x2.1 "declare_sort" "Bank.declare_sort" 3 [] .none .none .none (vs "minismt.terms" 354) none (vr 178) .none 0), #[]⟩
noncomputable def o180 : Obj := ⟨(vt "tuple"), none, (.seq #[] 0), #[]⟩
noncomputable def o182 : Obj := ⟨(vt "tuple"), none, (.seq #[(vs "self" 404), (vs "s" 405)] 0), #[]⟩
noncomputable def o183 : Obj := ⟨(vt "tuple"), none, (.seq #[] 0), #[]⟩
noncomputable def o185 : Obj := ⟨(vt "code"), none, (.fields #[(vs "width_of" 401), (vs "Bank.width_of" 402), (vs "/claim/cut.py" 403), (vi 86 0), (vi 2 0), (vi 0 0), (vi 0 0), (vi 3 0), (vr 180), (.bool true), (vi 181 0), (vr 181), .none, (vr 182), (vr 183), (vr 184), (vi 406 0), (vi 86 0), (vs "/claim/cut.py" 407)]), #[]⟩
noncomputable def o186 : Obj := ⟨(vt "function"), none, (fu fx20x3.1 "width_of" "Bank.width_of" 3 [] .none .none .none (vs "minismt.terms" 354) none (vr 185) .none 0), #[]⟩
noncomputable def o187 : Obj := ⟨(vt "tuple"), none, (.seq #[] 0), #[]⟩
noncomputable def o189 : Obj := ⟨(vt "tuple"), none, (.seq #[(vs "self" 412), (vs "s" 413)] 0), #[]⟩
noncomputable def o190 : Obj := ⟨(vt "tuple"), none, (.seq #[] 0), #[]⟩
noncomputable def o192 : Obj := ⟨(vt "code"), none, (.fields #[(vs "is_number_sort" 409), (vs "Bank.is_number_sort" 410), (vs "/claim/cut.py" 411), (vi 89 0), (vi 2 0), (vi 0 0), (vi 0 0), (vi 3 0), (vr 187), (.bool true), (vi 181 0), (vr 188), .none, (vr 189), (vr 190), (vr 191), (vi 414 0), (vi 89 0), (vs "/claim/cut.py" 415)]), #[]⟩
noncomputable def o193 : Obj := ⟨(vt "function"), none, (fu fx20x4.1 "is_number_sort" "Bank.is_number_sort" 3 [] .none .none .none (vs "minismt.terms" 354) none (vr 192) .none 0), #[]⟩
noncomputable def o194 : Obj := ⟨(vt "tuple"), none, (.seq #[] 0), #[]⟩
noncomputable def o196 : Obj := ⟨(vt "tuple"), none, (.seq #[(vs "self" 420), (vs "s" 421)] 0), #[]⟩
noncomputable def o197 : Obj := ⟨(vt "tuple"), none, (.seq #[] 0), #[]⟩
noncomputable def o199 : Obj := ⟨(vt "code"), none, (.fields #[(vs "is_free_sort" 417), (vs "Bank.is_free_sort" 418), (vs "/claim/cut.py" 419), (vi 92 0), (vi 2 0), (vi 0 0), (vi 0 0), (vi 3 0), (vr 194), (.bool true), (vi 181 0), (vr 195), .none, (vr 196), (vr 197), (vr 198), (vi 422 0), (vi 92 0), (vs "/claim/cut.py" 423)]), #[]⟩
noncomputable def o200 : Obj := ⟨(vt "function"), none, (fu fx20x5.1 "is_free_sort" "Bank.is_free_sort" 3 [] .none .none .none (vs "minismt.terms" 354) none (vr 199) .none 0), #[]⟩
noncomputable def o201 : Obj := ⟨(vt "tuple"), none, (.seq #[] 0), #[]⟩
noncomputable def o203 : Obj := ⟨(vt "tuple"), none, (.seq #[(vs "self" 428), (vs "name" 429), (vs "arg_sorts" 430), (vs "result" 431)] 0), #[]⟩
noncomputable def o204 : Obj := ⟨(vt "tuple"), none, (.seq #[] 0), #[]⟩
noncomputable def o206 : Obj := ⟨(vt "code"), none, (.fields #[(vs "declare_fun" 425), (vs "Bank.declare_fun" 426), (vs "/claim/cut.py" 427), (vi 95 0), (vi 4 0), (vi 0 0), (vi 0 0), (vi 3 0), (vr 201), (.bool true), (vi 181 0), (vr 202), .none, (vr 203), (vr 204), (vr 205), (vi 432 0), (vi 95 0), (vs "/claim/cut.py" 433)]), #[]⟩
noncomputable def o207 : Obj := ⟨(vt "function"), none, (fu fx20x6.1 "declare_fun" "Bank.declare_fun" 3 [] .none .none .none (vs "minismt.terms" 354) none (vr 206) .none 0), #[]⟩
noncomputable def o208 : Obj := ⟨(vt "tuple"), none, (.seq #[] 0), #[]⟩
noncomputable def o210 : Obj := ⟨(vt "tuple"), none, (.seq #[(vs "self" 438), (vs "stem" 439), (vs "arg_sorts" 440), (vs "result" 441)] 0), #[]⟩
noncomputable def o211 : Obj := ⟨(vt "tuple"), none, (.seq #[] 0), #[]⟩
noncomputable def o213 : Obj := ⟨(vt "code"), none, (.fields #[(vs "fresh_fun" 435), (vs "Bank.fresh_fun" 436), (vs "/claim/cut.py" 437), (vi 101 0), (vi 4 0), (vi 0 0), (vi 0 0), (vi 3 0), (vr 208), (.bool true), (vi 181 0), (vr 209), .none, (vr 210), (vr 211), (vr 212), (vi 442 0), (vi 101 0), (vs "/claim/cut.py" 443)]), #[]⟩
noncomputable def o214 : Obj := ⟨(vt "function"), none, (fu fx20x7.1 "fresh_fun" "Bank.fresh_fun" 3 [] .none .none .none (vs "minismt.terms" 354) none (vr 213) .none 0), #[]⟩
noncomputable def o215 : Obj := ⟨(vt "tuple"), none, (.seq #[] 0), #[]⟩
noncomputable def o217 : Obj := ⟨(vt "tuple"), none, (.seq #[(vs "self" 448), (vs "name" 449), (vs "s" 450)] 0), #[]⟩
noncomputable def o218 : Obj := ⟨(vt "tuple"), none, (.seq #[] 0), #[]⟩
noncomputable def o220 : Obj := ⟨(vt "code"), none, (.fields #[(vs "fresh_const" 445), (vs "Bank.fresh_const" 446), (vs "/claim/cut.py" 447), (vi 104 0), (vi 3 0), (vi 0 0), (vi 0 0), (vi 3 0), (vr 215), (.bool true), (vi 181 0), (vr 216), .none, (vr 217), (vr 218), (vr 219), (vi 451 0), (vi 104 0), (vs "/claim/cut.py" 452)]), #[]⟩
noncomputable def o221 : Obj := ⟨(vt "function"), none, (fu fx20x8.1 "fresh_const" "Bank.fresh_const" 3 [] .none .none .none (vs "minismt.terms" 354) none (vr 220) .none 0), #[]⟩
noncomputable def o222 : Obj := ⟨(vt "tuple"), none, (.seq #[] 0), #[]⟩
noncomputable def o224 : Obj := ⟨(vt "tuple"), none, (.seq #[(vs "self" 457), (vs "f" 458)] 0), #[]⟩
noncomputable def o225 : Obj := ⟨(vt "tuple"), none, (.seq #[] 0), #[]⟩
noncomputable def o227 : Obj := ⟨(vt "code"), none, (.fields #[(vs "fun_name" 454), (vs "Bank.fun_name" 455), (vs "/claim/cut.py" 456), (vi 107 0), (vi 2 0), (vi 0 0), (vi 0 0), (vi 3 0), (vr 222), (.bool true), (vi 181 0), (vr 223), .none, (vr 224), (vr 225), (vr 226), (vi 459 0), (vi 107 0), (vs "/claim/cut.py" 460)]), #[]⟩
noncomputable def o228 : Obj := ⟨(vt "function"), none, (fu fx20x9.1 "fun_name" "Bank.fun_name" 3 [] .none .none .none (vs "minismt.terms" 354) none (vr 227) .none 0), #[]⟩
noncomputable def o229 : Obj := ⟨(vt "tuple"), none, (.seq #[] 0), #[]⟩
noncomputable def o231 : Obj := ⟨(vt "tuple"), none, (.seq #[(vs "self" 465), (vs "f" 466)] 0), #[]⟩
noncomputable def o232 : Obj := ⟨(vt "tuple"), none, (.seq #[] 0), #[]⟩
noncomputable def o234 : Obj := ⟨(vt "code"), none, (.fields #[(vs "fun_arg_sorts" 462), (vs "Bank.fun_arg_sorts" 463), (vs "/claim/cut.py" 464), (vi 110 0), (vi 2 0), (vi 0 0), (vi 0 0), (vi 3 0), (vr 229), (.bool true), (vi 181 0), (vr 230), .none, (vr 231), (vr 232), (vr 233), (vi 467 0), (vi 110 0), (vs "/claim/cut.py" 468)]), #[]⟩
noncomputable def o235 : Obj := ⟨(vt "function"), none, (fu fx20x10.1 "fun_arg_sorts" "Bank.fun_arg_sorts" 3 [] .none .none .none (vs "minismt.terms" 354) none (vr 234) .none 0), #[]⟩
noncomputable def o236 : Obj := ⟨(vt "tuple"), none, (.seq #[] 0), #[]⟩
noncomputable def o238 : Obj := ⟨(vt "tuple"), none, (.seq #[(vs "self" 473), (vs "f" 474)] 0), #[]⟩
noncomputable def o239 : Obj := ⟨(vt "tuple"), none, (.seq #[] 0), #[]⟩
noncomputable def o241 : Obj := ⟨(vt "code"), none, (.fields #[(vs "fun_result" 470), (vs "Bank.fun_result" 471), (vs "/claim/cut.py" 472), (vi 113 0), (vi 2 0), (vi 0 0), (vi 0 0), (vi 3 0), (vr 236), (.bool true), (vi 181 0), (vr 237), .none, (vr 238), (vr 239), (vr 240), (vi 475 0), (vi 113 0), (vs "/claim/cut.py" 476)]), #[]⟩
noncomputable def o242 : Obj := ⟨(vt "function"), none, (fu fx20x11.1 "fun_result" "Bank.fun_result" 3 [] .none .none .none (vs "minismt.terms" 354) none (vr 241) .none 0), #[]⟩
noncomputable def o243 : Obj := ⟨(vt "tuple"), none, (.seq #[] 0), #[]⟩
noncomputable def o245 : Obj := ⟨(vt "tuple"), none, (.seq #[(vs "self" 481)] 0), #[]⟩
noncomputable def o246 : Obj := ⟨(vt "tuple"), none, (.seq #[] 0), #[]⟩
noncomputable def o248 : Obj := ⟨(vt "code"), none, (.fields #[(vs "fun_count" 478), (vs "Bank.fun_count" 479), (vs "/claim/cut.py" 480), (vi 116 0), (vi 1 0), (vi 0 0), (vi 0 0), (vi 3 0), (vr 243), (.bool true), (vi 181 0), (vr 244), .none, (vr 245), (vr 246), (vr 247), (vi 482 0), (vi 116 0), (vs "/claim/cut.py" 483)]), #[]⟩
noncomputable def o249 : Obj := ⟨(vt "function"), none, (fu fx20x12.1 "fun_count" "Bank.fun_count" 3 [] .none .none .none (vs "minismt.terms" 354) none (vr 248) .none 0), #[]⟩
noncomputable def o250 : Obj := ⟨(vt "tuple"), none, (.seq #[] 0), #[]⟩
noncomputable def o252 : Obj := ⟨(vt "tuple"), none, (.seq #[(vs "self" 488), (vs "t" 489)] 0), #[]⟩
noncomputable def o253 : Obj := ⟨(vt "tuple"), none, (.seq #[] 0), #[]⟩
noncomputable def o255 : Obj := ⟨(vt "code"), none, (.fields #[(vs "op" 485), (vs "Bank.op" 486), (vs "/claim/cut.py" 487), (vi 119 0), (vi 2 0), (vi 0 0), (vi 0 0), (vi 3 0), (vr 250), (.bool true), (vi 181 0), (vr 251), .none, (vr 252), (vr 253), (vr 254), (vi 490 0), (vi 119 0), (vs "/claim/cut.py" 491)]), #[]⟩
noncomputable def o256 : Obj := ⟨(vt "function"), none, (fu fx20x13.1 "op" "Bank.op" 3 [] .none .none .none (vs "minismt.terms" 354) none (vr 255) .none 0), #[]⟩
noncomputable def o257 : Obj := ⟨(vt "tuple"), none, (.seq #[] 0), #[]⟩
noncomputable def o259 : Obj := ⟨(vt "tuple"), none, (.seq #[(vs "self" 496), (vs "t" 497)] 0), #[]⟩
noncomputable def o260 : Obj := ⟨(vt "tuple"), none, (.seq #[] 0), #[]⟩
noncomputable def o262 : Obj := ⟨(vt "code"), none, (.fields #[(vs "args" 493), (vs "Bank.args" 494), (vs "/claim/cut.py" 495), (vi 122 0), (vi 2 0), (vi 0 0), (vi 0 0), (vi 3 0), (vr 257), (.bool true), (vi 181 0), (vr 258), .none, (vr 259), (vr 260), (vr 261), (vi 498 0), (vi 122 0), (vs "/claim/cut.py" 499)]), #[]⟩
noncomputable def o263 : Obj := ⟨(vt "function"), none, (fu fx20x14.1 "args" "Bank.args" 3 [] .none .none .none (vs "minismt.terms" 354) none (vr 262) .none 0), #[]⟩
noncomputable def o264 : Obj := ⟨(vt "tuple"), none, (.seq #[] 0), #[]⟩
noncomputable def o266 : Obj := ⟨(vt "tuple"), none, (.seq #[(vs "self" 504), (vs "t" 505)] 0), #[]⟩
noncomputable def o267 : Obj := ⟨(vt "tuple"), none, (.seq #[] 0), #[]⟩
noncomputable def o269 : Obj := ⟨(vt "code"), none, (.fields #[(vs "sort" 501), (vs "Bank.sort" 502), (vs "/claim/cut.py" 503), (vi 125 0), (vi 2 0), (vi 0 0), (vi 0 0), (vi 3 0), (vr 264), (.bool true), (vi 181 0), (vr 265), .none, (vr 266), (vr 267), (vr 268), (vi 506 0), (vi 125 0), (vs "/claim/cut.py" 507)]), #[]⟩
noncomputable def o270 : Obj := ⟨(vt "function"), none, (fu fx20x15.1 "sort" "Bank.sort" 3 [] .none .none .none (vs "minismt.terms" 354) none (vr 269) .none 0), #[]⟩
noncomputable def o271 : Obj := ⟨(vt "tuple"), none, (.seq #[] 0), #[]⟩
noncomputable def o273 : Obj := ⟨(vt "tuple"), none, (.seq #[(vs "self" 512), (vs "t" 513)] 0), #[]⟩
noncomputable def o274 : Obj := ⟨(vt "tuple"), none, (.seq #[] 0), #[]⟩
noncomputable def o276 : Obj := ⟨(vt "code"), none, (.fields #[(vs "data" 509), (vs "Bank.data" 510), (vs "/claim/cut.py" 511), (vi 128 0), (vi 2 0), (vi 0 0), (vi 0 0), (vi 3 0), (vr 271), (.bool true), (vi 181 0), (vr 272), .none, (vr 273), (vr 274), (vr 275), (vi 514 0), (vi 128 0), (vs "/claim/cut.py" 515)]), #[]⟩
noncomputable def o277 : Obj := ⟨(vt "function"), none, (fu fx20x16.1 "data" "Bank.data" 3 [] .none .none .none (vs "minismt.terms" 354) none (vr 276) .none 0), #[]⟩
noncomputable def o278 : Obj := ⟨(vt "tuple"), none, (.seq #[] 0), #[]⟩
noncomputable def o280 : Obj := ⟨(vt "tuple"), none, (.seq #[(vs "self" 520), (vs "t" 521)] 0), #[]⟩
noncomputable def o281 : Obj := ⟨(vt "tuple"), none, (.seq #[] 0), #[]⟩
noncomputable def o283 : Obj := ⟨(vt "code"), none, (.fields #[(vs "width" 517), (vs "Bank.width" 518), (vs "/claim/cut.py" 519), (vi 131 0), (vi 2 0), (vi 0 0), (vi 0 0), (vi 3 0), (vr 278), (.bool true), (vi 181 0), (vr 279), .none, (vr 280), (vr 281), (vr 282), (vi 522 0), (vi 131 0), (vs "/claim/cut.py" 523)]), #[]⟩
noncomputable def o284 : Obj := ⟨(vt "function"), none, (fu fx20x17.1 "width" "Bank.width" 3 [] .none .none .none (vs "minismt.terms" 354) none (vr 283) .none 0), #[]⟩
noncomputable def o285 : Obj := ⟨(vt "tuple"), none, (.seq #[] 0), #[]⟩
noncomputable def o287 : Obj := ⟨(vt "tuple"), none, (.seq #[(vs "self" 528)] 0), #[]⟩
noncomputable def o288 : Obj := ⟨(vt "tuple"), none, (.seq #[] 0), #[]⟩
noncomputable def o290 : Obj := ⟨(vt "code"), none, (.fields #[(vs "size" 525), (vs "Bank.size" 526), (vs "/claim/cut.py" 527), (vi 134 0), (vi 1 0), (vi 0 0), (vi 0 0), (vi 3 0), (vr 285), (.bool true), (vi 181 0), (vr 286), .none, (vr 287), (vr 288), (vr 289), (vi 529 0), (vi 134 0), (vs "/claim/cut.py" 530)]), #[]⟩
noncomputable def o291 : Obj := ⟨(vt "function"), none, (fu fx20x18.1 "size" "Bank.size" 3 [] .none .none .none (vs "minismt.terms" 354) none (vr 290) .none 0), #[]⟩
noncomputable def o292 : Obj := ⟨(vt "tuple"), none, (.seq #[] 0), #[]⟩
noncomputable def o294 : Obj := ⟨(vt "tuple"), none, (.seq #[(vs "self" 535), (vs "op" 536), (vs "args" 537), (vs "sort" 538), (vs "data" 539), (vs "key" 540), (vs "found" 541)] 0), #[]⟩
noncomputable def o295 : Obj := ⟨(vt "tuple"), none, (.seq #[] 0), #[]⟩
noncomputable def o297 : Obj := ⟨(vt "code"), none, (.fields #[(vs "make" 532), (vs "Bank.make" 533), (vs "/claim/cut.py" 534), (vi 137 0), (vi 5 0), (vi 0 0), (vi 0 0), (vi 3 0), (vr 292), (.bool true), (vi 181 0), (vr 293), .none, (vr 294), (vr 295), (vr 296), (vi 542 0), (vi 137 0), (vs "/claim/cut.py" 543)]), #[]⟩
noncomputable def o298 : Obj := ⟨(vt "function"), none, (fu fx20x19.1 "make" "Bank.make" 3 [] .none .none .none (vs "minismt.terms" 354) none (vr 297) .none 0), #[]⟩
noncomputable def o299 : Obj := ⟨(vt "tuple"), none, (.seq #[] 0), #[]⟩
noncomputable def o301 : Obj := ⟨(vt "tuple"), none, (.seq #[(vs "self" 548), (vs "op" 549), (vs "args" 550), (vs "sort" 551), (vs "data" 552)] 0), #[]⟩
noncomputable def o302 : Obj := ⟨(vt "tuple"), none, (.seq #[] 0), #[]⟩
noncomputable def o304 : Obj := ⟨(vt "code"), none, (.fields #[(vs "find_made" 545), (vs "Bank.find_made" 546), (vs "/claim/cut.py" 547), (vi 149 0), (vi 5 0), (vi 0 0), (vi 0 0), (vi 3 0), (vr 299), (.bool true), (vi 181 0), (vr 300), .none, (vr 301), (vr 302), (vr 303), (vi 553 0), (vi 149 0), (vs "/claim/cut.py" 554)]), #[]⟩
noncomputable def o305 : Obj := ⟨(vt "function"), none, (fu fx20x20.1 "find_made" "Bank.find_made" 3 [] .none .none .none (vs "minismt.terms" 354) none (vr 304) .none 0), #[]⟩
noncomputable def o306 : Obj := ⟨(vt "tuple"), none, (.seq #[] 0), #[]⟩
noncomputable def o308 : Obj := ⟨(vt "tuple"), none, (.seq #[(vs "self" 559), (vs "t" 560)] 0), #[]⟩
noncomputable def o309 : Obj := ⟨(vt "tuple"), none, (.seq #[] 0), #[]⟩
noncomputable def o311 : Obj := ⟨(vt "code"), none, (.fields #[(vs "is_value" 556), (vs "Bank.is_value" 557), (vs "/claim/cut.py" 558), (vi 152 0), (vi 2 0), (vi 0 0), (vi 0 0), (vi 3 0), (vr 306), (.bool true), (vi 181 0), (vr 307), .none, (vr 308), (vr 309), (vr 310), (vi 561 0), (vi 152 0), (vs "/claim/cut.py" 562)]), #[]⟩
noncomputable def o312 : Obj := ⟨(vt "function"), none, (fu fx20x21.1 "is_value" "Bank.is_value" 3 [] .none .none .none (vs "minismt.terms" 354) none (vr 311) .none 0), #[]⟩
noncomputable def o313 : Obj := ⟨(vt "tuple"), none, (.seq #[] 0), #[]⟩
noncomputable def o315 : Obj := ⟨(vt "tuple"), none, (.seq #[(vs "self" 567), (vs "t" 568), (vs "s" 569), (vs "where" 570)] 0), #[]⟩
noncomputable def o316 : Obj := ⟨(vt "tuple"), none, (.seq #[] 0), #[]⟩
noncomputable def o318 : Obj := ⟨(vt "code"), none, (.fields #[(vs "want" 564), (vs "Bank.want" 565), (vs "/claim/cut.py" 566), (vi 155 0), (vi 4 0), (vi 0 0), (vi 0 0), (vi 3 0), (vr 313), (.bool true), (vi 181 0), (vr 314), .none, (vr 315), (vr 316), (vr 317), (vi 571 0), (vi 155 0), (vs "/claim/cut.py" 572)]), #[]⟩
noncomputable def o319 : Obj := ⟨(vt "function"), none, (fu fx20x22.1 "want" "Bank.want" 3 [] .none .none .none (vs "minismt.terms" 354) none (vr 318) .none 0), #[]⟩
noncomputable def o320 : Obj := ⟨(vt "tuple"), none, (.seq #[] 0), #[]⟩
noncomputable def o322 : Obj := ⟨(vt "tuple"), none, (.seq #[(vs "self" 577), (vs "some" 578), (vs "s" 579), (vs "where" 580)] 0), #[]⟩
noncomputable def o323 : Obj := ⟨(vt "tuple"), none, (.seq #[] 0), #[]⟩
noncomputable def o325 : Obj := ⟨(vt "code"), none, (.fields #[(vs "want_all" 574), (vs "Bank.want_all" 575), (vs "/claim/cut.py" 576), (vi 159 0), (vi 4 0), (vi 0 0), (vi 0 0), (vi 3 0), (vr 320), (.bool true), (vi 181 0), (vr 321), .none, (vr 322), (vr 323), (vr 324), (vi 581 0), (vi 159 0), (vs "/claim/cut.py" 582)]), #[]⟩
noncomputable def o326 : Obj := ⟨(vt "function"), none, (fu fx20x23.1 "want_all" "Bank.want_all" 3 [] .none .none .none (vs "minismt.terms" 354) none (vr 325) .none 0), #[]⟩
noncomputable def o327 : Obj := ⟨(vt "tuple"), none, (.seq #[] 0), #[]⟩
noncomputable def o329 : Obj := ⟨(vt "tuple"), none, (.seq #[(vs "self" 587)] 0), #[]⟩
noncomputable def o330 : Obj := ⟨(vt "tuple"), none, (.seq #[] 0), #[]⟩
noncomputable def o332 : Obj := ⟨(vt "code"), none, (.fields #[(vs "true_term" 584), (vs "Bank.true_term" 585), (vs "/claim/cut.py" 586), (vi 162 0), (vi 1 0), (vi 0 0), (vi 0 0), (vi 3 0), (vr 327), (.bool true), (vi 181 0), (vr 328), .none, (vr 329), (vr 330), (vr 331), (vi 588 0), (vi 162 0), (vs "/claim/cut.py" 589)]), #[]⟩
noncomputable def o333 : Obj := ⟨(vt "function"), none, (fu fx20x24.1 "true_term" "Bank.true_term" 3 [] .none .none .none (vs "minismt.terms" 354) none (vr 332) .none 0), #[]⟩
noncomputable def o334 : Obj := ⟨(vt "tuple"), none, (.seq #[] 0), #[]⟩
noncomputable def o336 : Obj := ⟨(vt "tuple"), none, (.seq #[(vs "self" 594)] 0), #[]⟩
noncomputable def o337 : Obj := ⟨(vt "tuple"), none, (.seq #[] 0), #[]⟩
noncomputable def o339 : Obj := ⟨(vt "code"), none, (.fields #[(vs "false_term" 591), (vs "Bank.false_term" 592), (vs "/claim/cut.py" 593), (vi 165 0), (vi 1 0), (vi 0 0), (vi 0 0), (vi 3 0), (vr 334), (.bool true), (vi 181 0), (vr 335), .none, (vr 336), (vr 337), (vr 338), (vi 595 0), (vi 165 0), (vs "/claim/cut.py" 596)]), #[]⟩
noncomputable def o340 : Obj := ⟨(vt "function"), none, (fu fx20x25.1 "false_term" "Bank.false_term" 3 [] .none .none .none (vs "minismt.terms" 354) none (vr 339) .none 0), #[]⟩
noncomputable def o341 : Obj := ⟨(vt "tuple"), none, (.seq #[] 0), #[]⟩
noncomputable def o343 : Obj := ⟨(vt "tuple"), none, (.seq #[(vs "self" 601), (vs "holds" 602)] 0), #[]⟩
noncomputable def o344 : Obj := ⟨(vt "tuple"), none, (.seq #[] 0), #[]⟩
noncomputable def o346 : Obj := ⟨(vt "code"), none, (.fields #[(vs "bool_term" 598), (vs "Bank.bool_term" 599), (vs "/claim/cut.py" 600), (vi 168 0), (vi 2 0), (vi 0 0), (vi 0 0), (vi 3 0), (vr 341), (.bool true), (vi 181 0), (vr 342), .none, (vr 343), (vr 344), (vr 345), (vi 603 0), (vi 168 0), (vs "/claim/cut.py" 604)]), #[]⟩
noncomputable def o347 : Obj := ⟨(vt "function"), none, (fu fx20x26.1 "bool_term" "Bank.bool_term" 3 [] .none .none .none (vs "minismt.terms" 354) none (vr 346) .none 0), #[]⟩
noncomputable def o348 : Obj := ⟨(vt "tuple"), none, (.seq #[] 0), #[]⟩
noncomputable def o350 : Obj := ⟨(vt "tuple"), none, (.seq #[(vs "self" 609), (vs "t" 610)] 0), #[]⟩
noncomputable def o351 : Obj := ⟨(vt "tuple"), none, (.seq #[] 0), #[]⟩
noncomputable def o353 : Obj := ⟨(vt "code"), none, (.fields #[(vs "parts" 606), (vs "Bank.parts" 607), (vs "/claim/cut.py" 608), (vi 171 0), (vi 2 0), (vi 0 0), (vi 0 0), (vi 3 0), (vr 348), (.bool true), (vi 181 0), (vr 349), .none, (vr 350), (vr 351), (vr 352), (vi 611 0), (vi 171 0), (vs "/claim/cut.py" 612)]), #[]⟩
noncomputable def o354 : Obj := ⟨(vt "function"), none, (fu fx20x27.1 "parts" "Bank.parts" 3 [] .none .none .none (vs "minismt.terms" 354) none (vr 353) .none 0), #[]⟩
noncomputable def o355 : Obj := ⟨(vt "tuple"), none, (.seq #[] 0), #[]⟩
noncomputable def o357 : Obj := ⟨(vt "tuple"), none, (.seq #[(vs "self" 617), (vs "some" 618), (vs "found" 619), (vs "done" 620), (vs "root" 621), (vs "stack" 622), (vs "t" 623), (vs "is_open" 624), (vs "part" 625)] 0), #[]⟩
noncomputable def o358 : Obj := ⟨(vt "tuple"), none, (.seq #[] 0), #[]⟩
noncomputable def o360 : Obj := ⟨(vt "code"), none, (.fields #[(vs "parts_of_all" 614), (vs "Bank.parts_of_all" 615), (vs "/claim/cut.py" 616), (vi 174 0), (vi 2 0), (vi 0 0), (vi 0 0), (vi 3 0), (vr 355), (.bool true), (vi 181 0), (vr 356), .none, (vr 357), (vr 358), (vr 359), (vi 626 0), (vi 174 0), (vs "/claim/cut.py" 627)]), #[]⟩
noncomputable def o361 : Obj := ⟨(vt "function"), none, (fu fx20x28.1 "parts_of_all" "Bank.parts_of_all" 3 [] .none .none .none (vs "minismt.terms" 354) none (vr 360) .none 0), #[]⟩
noncomputable def o362 : Obj := ⟨(vt "tuple"), none, (.seq #[(vs "false_number" 629), (vs "fresh_count" 630), (vs "fun_args" 631), (vs "fun_names" 632), (vs "fun_results" 633), (vs "numbers" 634), (vs "sort_names" 635), (vs "sort_widths" 636), (vs "term_args" 637), (vs "term_datas" 638), (vs "term_ops" 639), (vs "term_sorts" 640), (vs "true_number" 641)] 0), #[]⟩
noncomputable def o363 (P : Params) : Obj := ⟨(vt "dict"), none, (.dict #[de P "__module__" 373 (vs "minismt.terms" 354), de P "__firstlineno__" 377 (vi 63 376), de P "__init__" 384 (vr 165), de P "sort_name" 392 (vr 172), de P "declare_sort" 400 (vr 179), de P "width_of" 408 (vr 186), de P "is_number_sort" 416 (vr 193), de P "is_free_sort" 424 (vr 200), de P "declare_fun" 434 (vr 207), de P "fresh_fun" 444 (vr 214), de P "fresh_const" 453 (vr 221), de P "fun_name" 461 (vr 228), de P "fun_arg_sorts" 469 (vr 235), de P "fun_result" 477 (vr 242), de P "fun_count" 484 (vr 249), de P "op" 492 (vr 256), de P "args" 500 (vr 263), de P "sort" 508 (vr 270), de P "data" 516 (vr 277), de P "width" 524 (vr 284), de P "size" 531 (vr 291), de P "make" 544 (vr 298), de P "find_made" 555 (vr 305), de P "is_value" 563 (vr 312), de P "want" 573 (vr 319), de P "want_all" 583 (vr 326), de P "true_term" 590 (vr 333), de P "false_term" 597 (vr 340), de P "bool_term" 605 (vr 347), de P "parts" 613 (vr 354), de P "parts_of_all" 628 (vr 361), de P "__static_attributes__" 642 (vr 362), de P "__dict__" 644 (vr 365), de P "__weakref__" 646 (vr 366), de P "__doc__" 647 .none] 4), #[]⟩
noncomputable def o364 : Obj := ⟨(vt "type"), none, (.cls ⟨Str.ofString "Bank", [(vt "object")], [(vr 364), (vt "object")], 363, Str.ofString "Bank", true, [], [(vr 469)], false, none, false⟩), #[none, none, (some (vs "Bank" 366)), (some (vs "Bank" 374)), (some (vb "object.__new__")), (some (.bool true))]⟩
noncomputable def o365 : Obj := ⟨(vt "getset_descriptor"), none, (.fields #[(vs "__dict__" 643), (vr 364), (vb "function.__dict__"), (vb "function.__dict__#set")]), #[]⟩
noncomputable def o366 : Obj := ⟨(vt "getset_descriptor"), none, (.fields #[(vs "__weakref__" 645), (vr 364), (vb "ExceptionGroup.__weakref__"), .none]), #[]⟩
noncomputable def o369 : Obj := ⟨(vt "tuple"), none, (.seq #[(vr 364)] 0), #[]⟩
noncomputable def o376 : Obj := ⟨(vt "tuple"), none, (.seq #[] 0), #[]⟩
noncomputable def o378 : Obj := ⟨(vt "tuple"), none, (.seq #[(vs "self" 665), (vs "t" 666)] 0), #[]⟩
noncomputable def o379 : Obj := ⟨(vt "tuple"), none, (.seq #[] 0), #[]⟩
noncomputable def o381 : Obj := ⟨(vt "code"), none, (.fields #[(vs "not_of" 662), (vs "BoolBank.not_of" 663), (vs "/claim/cut.py" 664), (vi 193 0), (vi 2 0), (vi 0 0), (vi 0 0), (vi 3 0), (vr 376), (.bool true), (vi 181 0), (vr 377), .none, (vr 378), (vr 379), (vr 380), (vi 667 0), (vi 193 0), (vs "/claim/cut.py" 668)]), #[]⟩
noncomputable def o382 : Obj := ⟨(vt "function"), none, (fu fx21x0.1 "not_of" "BoolBank.not_of" 3 [] .none .none .none (vs "minismt.terms" 354) none (vr 381) .none 0), #[]⟩
noncomputable def o383 : Obj := ⟨(vt "tuple"), none, (.seq #[] 0), #[]⟩
noncomputable def o385 : Obj := ⟨(vt "tuple"), none, (.seq #[(vs "self" 673), (vs "some" 674)] 0), #[]⟩
noncomputable def o386 : Obj := ⟨(vt "tuple"), none, (.seq #[] 0), #[]⟩
noncomputable def o388 : Obj := ⟨(vt "code"), none, (.fields #[(vs "and_of" 670), (vs "BoolBank.and_of" 671), (vs "/claim/cut.py" 672), (vi 196 0), (vi 2 0), (vi 0 0), (vi 0 0), (vi 3 0), (vr 383), (.bool true), (vi 181 0), (vr 384), .none, (vr 385), (vr 386), (vr 387), (vi 675 0), (vi 196 0), (vs "/claim/cut.py" 676)]), #[]⟩
noncomputable def o389 : Obj := ⟨(vt "function"), none, (fu fx21x1.1 "and_of" "BoolBank.and_of" 3 [] .none .none .none (vs "minismt.terms" 354) none (vr 388) .none 0), #[]⟩
noncomputable def o390 : Obj := ⟨(vt "tuple"), none, (.seq #[] 0), #[]⟩
noncomputable def o392 : Obj := ⟨(vt "tuple"), none, (.seq #[(vs "self" 681), (vs "some" 682)] 0), #[]⟩
noncomputable def o393 : Obj := ⟨(vt "tuple"), none, (.seq #[] 0), #[]⟩
noncomputable def o395 : Obj := ⟨(vt "code"), none, (.fields #[(vs "or_of" 678), (vs "BoolBank.or_of" 679), (vs "/claim/cut.py" 680), (vi 199 0), (vi 2 0), (vi 0 0), (vi 0 0), (vi 3 0), (vr 390), (.bool true), (vi 181 0), (vr 391), .none, (vr 392), (vr 393), (vr 394), (vi 683 0), (vi 199 0), (vs "/claim/cut.py" 684)]), #[]⟩
noncomputable def o396 : Obj := ⟨(vt "function"), none, (fu fx21x2.1 "or_of" "BoolBank.or_of" 3 [] .none .none .none (vs "minismt.terms" 354) none (vr 395) .none 0), #[]⟩
noncomputable def o397 : Obj := ⟨(vt "tuple"), none, (.seq #[] 0), #[]⟩
noncomputable def o399 : Obj := ⟨(vt "tuple"), none, (.seq #[(vs "self" 689), (vs "a" 690), (vs "b" 691)] 0), #[]⟩
noncomputable def o400 : Obj := ⟨(vt "tuple"), none, (.seq #[] 0), #[]⟩
noncomputable def o402 : Obj := ⟨(vt "code"), none, (.fields #[(vs "xor_of" 686), (vs "BoolBank.xor_of" 687), (vs "/claim/cut.py" 688), (vi 202 0), (vi 3 0), (vi 0 0), (vi 0 0), (vi 3 0), (vr 397), (.bool true), (vi 181 0), (vr 398), .none, (vr 399), (vr 400), (vr 401), (vi 692 0), (vi 202 0), (vs "/claim/cut.py" 693)]), #[]⟩
noncomputable def o403 : Obj := ⟨(vt "function"), none, (fu fx21x3.1 "xor_of" "BoolBank.xor_of" 3 [] .none .none .none (vs "minismt.terms" 354) none (vr 402) .none 0), #[]⟩
noncomputable def o404 : Obj := ⟨(vt "tuple"), none, (.seq #[] 0), #[]⟩
noncomputable def o406 : Obj := ⟨(vt "tuple"), none, (.seq #[(vs "self" 698), (vs "a" 699), (vs "b" 700)] 0), #[]⟩
noncomputable def o407 : Obj := ⟨(vt "tuple"), none, (.seq #[] 0), #[]⟩
noncomputable def o409 : Obj := ⟨(vt "code"), none, (.fields #[(vs "implies_of" 695), (vs "BoolBank.implies_of" 696), (vs "/claim/cut.py" 697), (vi 205 0), (vi 3 0), (vi 0 0), (vi 0 0), (vi 3 0), (vr 404), (.bool true), (vi 181 0), (vr 405), .none, (vr 406), (vr 407), (vr 408), (vi 701 0), (vi 205 0), (vs "/claim/cut.py" 702)]), #[]⟩
noncomputable def o410 : Obj := ⟨(vt "function"), none, (fu fx21x4.1 "implies_of" "BoolBank.implies_of" 3 [] .none .none .none (vs "minismt.terms" 354) none (vr 409) .none 0), #[]⟩
noncomputable def o411 : Obj := ⟨(vt "tuple"), none, (.seq #[] 0), #[]⟩
noncomputable def o413 : Obj := ⟨(vt "tuple"), none, (.seq #[(vs "self" 707), (vs "a" 708), (vs "b" 709)] 0), #[]⟩
noncomputable def o414 : Obj := ⟨(vt "tuple"), none, (.seq #[] 0), #[]⟩
noncomputable def o416 : Obj := ⟨(vt "code"), none, (.fields #[(vs "iff" 704), (vs "BoolBank.iff" 705), (vs "/claim/cut.py" 706), (vi 208 0), (vi 3 0), (vi 0 0), (vi 0 0), (vi 3 0), (vr 411), (.bool true), (vi 181 0), (vr 412), .none, (vr 413), (vr 414), (vr 415), (vi 710 0), (vi 208 0), (vs "/claim/cut.py" 711)]), #[]⟩
noncomputable def o417 : Obj := ⟨(vt "function"), none, (fu fx21x5.1 "iff" "BoolBank.iff" 3 [] .none .none .none (vs "minismt.terms" 354) none (vr 416) .none 0), #[]⟩
noncomputable def o418 : Obj := ⟨(vt "tuple"), none, (.seq #[] 0), #[]⟩
noncomputable def o420 : Obj := ⟨(vt "tuple"), none, (.seq #[(vs "self" 716), (vs "a" 717), (vs "b" 718)] 0), #[]⟩
noncomputable def o421 : Obj := ⟨(vt "tuple"), none, (.seq #[] 0), #[]⟩
noncomputable def o423 : Obj := ⟨(vt "code"), none, (.fields #[(vs "eq" 713), (vs "BoolBank.eq" 714), (vs "/claim/cut.py" 715), (vi 211 0), (vi 3 0), (vi 0 0), (vi 0 0), (vi 3 0), (vr 418), (.bool true), (vi 181 0), (vr 419), .none, (vr 420), (vr 421), (vr 422), (vi 719 0), (vi 211 0), (vs "/claim/cut.py" 720)]), #[]⟩
noncomputable def o424 : Obj := ⟨(vt "function"), none, (fu fx21x6.1 "eq" "BoolBank.eq" 3 [] .none .none .none (vs "minismt.terms" 354) none (vr 423) .none 0), #[]⟩
noncomputable def o425 : Obj := ⟨(vt "tuple"), none, (.seq #[] 0), #[]⟩
noncomputable def o427 : Obj := ⟨(vt "tuple"), none, (.seq #[(vs "self" 725), (vs "some" 726)] 0), #[]⟩
noncomputable def o428 : Obj := ⟨(vt "tuple"), none, (.seq #[] 0), #[]⟩
noncomputable def o430 : Obj := ⟨(vt "code"), none, (.fields #[(vs "distinct" 722), (vs "BoolBank.distinct" 723), (vs "/claim/cut.py" 724), (vi 214 0), (vi 2 0), (vi 0 0), (vi 0 0), (vi 3 0), (vr 425), (.bool true), (vi 181 0), (vr 426), .none, (vr 427), (vr 428), (vr 429), (vi 727 0), (vi 214 0), (vs "/claim/cut.py" 728)]), #[]⟩
noncomputable def o431 : Obj := ⟨(vt "function"), none, (fu fx21x7.1 "distinct" "BoolBank.distinct" 3 [] .none .none .none (vs "minismt.terms" 354) none (vr 430) .none 0), #[]⟩
noncomputable def o432 : Obj := ⟨(vt "tuple"), none, (.seq #[] 0), #[]⟩
noncomputable def o434 : Obj := ⟨(vt "tuple"), none, (.seq #[(vs "self" 733), (vs "c" 734), (vs "a" 735), (vs "b" 736)] 0), #[]⟩
noncomputable def o435 : Obj := ⟨(vt "tuple"), none, (.seq #[] 0), #[]⟩
noncomputable def o437 : Obj := ⟨(vt "code"), none, (.fields #[(vs "ite" 730), (vs "BoolBank.ite" 731), (vs "/claim/cut.py" 732), (vi 217 0), (vi 4 0), (vi 0 0), (vi 0 0), (vi 3 0), (vr 432), (.bool true), (vi 181 0), (vr 433), .none, (vr 434), (vr 435), (vr 436), (vi 737 0), (vi 217 0), (vs "/claim/cut.py" 738)]), #[]⟩
noncomputable def o438 : Obj := ⟨(vt "function"), none, (fu fx21x8.1 "ite" "BoolBank.ite" 3 [] .none .none .none (vs "minismt.terms" 354) none (vr 437) .none 0), #[]⟩
noncomputable def o439 : Obj := ⟨(vt "tuple"), none, (.seq #[] 0), #[]⟩
noncomputable def o441 : Obj := ⟨(vt "tuple"), none, (.seq #[(vs "self" 743), (vs "f" 744), (vs "some" 745), (vs "sorts" 746), (vs "t" 747), (vs "s" 748)] 0), #[]⟩
noncomputable def o442 : Obj := ⟨(vt "tuple"), none, (.seq #[] 0), #[]⟩
noncomputable def o444 : Obj := ⟨(vt "code"), none, (.fields #[(vs "app" 740), (vs "BoolBank.app" 741), (vs "/claim/cut.py" 742), (vi 220 0), (vi 3 0), (vi 0 0), (vi 0 0), (vi 3 0), (vr 439), (.bool true), (vi 181 0), (vr 440), .none, (vr 441), (vr 442), (vr 443), (vi 749 0), (vi 220 0), (vs "/claim/cut.py" 750)]), #[]⟩
noncomputable def o445 : Obj := ⟨(vt "function"), none, (fu fx21x9.1 "app" "BoolBank.app" 3 [] .none .none .none (vs "minismt.terms" 354) none (vr 444) .none 0), #[]⟩
noncomputable def o446 : Obj := ⟨(vt "tuple"), none, (.seq #[] 0), #[]⟩
noncomputable def o448 : Obj := ⟨(vt "tuple"), none, (.seq #[(vs "self" 755), (vs "t" 756), (vs "args" 757)] 0), #[]⟩
noncomputable def o449 : Obj := ⟨(vt "tuple"), none, (.seq #[] 0), #[]⟩
noncomputable def o451 : Obj := ⟨(vt "code"), none, (.fields #[(vs "folded" 752), (vs "BoolBank.folded" 753), (vs "/claim/cut.py" 754), (vi 228 0), (vi 3 0), (vi 0 0), (vi 0 0), (vi 3 0), (vr 446), (.bool true), (vi 181 0), (vr 447), .none, (vr 448), (vr 449), (vr 450), (vi 758 0), (vi 228 0), (vs "/claim/cut.py" 759)]), #[]⟩
noncomputable def o452 : Obj := ⟨(vt "function"), none, (fu fx21x10.1 "folded" "BoolBank.folded" 3 [] .none .none .none (vs "minismt.terms" 354) none (vr 451) .none 0), #[]⟩
noncomputable def o453 : Obj := ⟨(vt "tuple"), none, (.seq #[] 0), #[]⟩
noncomputable def o455 : Obj := ⟨(vt "tuple"), none, (.seq #[(vs "self" 764), (vs "t" 765), (vs "args" 766)] 0), #[]⟩
noncomputable def o456 : Obj := ⟨(vt "tuple"), none, (.seq #[] 0), #[]⟩
noncomputable def o458 : Obj := ⟨(vt "code"), none, (.fields #[(vs "with_args" 761), (vs "BoolBank.with_args" 762), (vs "/claim/cut.py" 763), (vi 231 0), (vi 3 0), (vi 0 0), (vi 0 0), (vi 3 0), (vr 453), (.bool true), (vi 181 0), (vr 454), .none, (vr 455), (vr 456), (vr 457), (vi 767 0), (vi 231 0), (vs "/claim/cut.py" 768)]), #[]⟩
noncomputable def o459 : Obj := ⟨(vt "function"), none, (fu fx21x11.1 "with_args" "BoolBank.with_args" 3 [] .none .none .none (vs "minismt.terms" 354) none (vr 458) .none 0), #[]⟩
noncomputable def o460 : Obj := ⟨(vt "tuple"), none, (.seq #[] 0), #[]⟩
noncomputable def o462 : Obj := ⟨(vt "tuple"), none, (.seq #[(vs "self" 773), (vs "t" 774), (vs "table" 775)] 0), #[]⟩
noncomputable def o463 : Obj := ⟨(vt "tuple"), none, (.seq #[] 0), #[]⟩
noncomputable def o465 : Obj := ⟨(vt "code"), none, (.fields #[(vs "replaced" 770), (vs "BoolBank.replaced" 771), (vs "/claim/cut.py" 772), (vi 234 0), (vi 3 0), (vi 0 0), (vi 0 0), (vi 3 0), (vr 460), (.bool true), (vi 181 0), (vr 461), .none, (vr 462), (vr 463), (vr 464), (vi 776 0), (vi 234 0), (vs "/claim/cut.py" 777)]), #[]⟩
noncomputable def o466 : Obj := ⟨(vt "function"), none, (fu fx21x12.1 "replaced" "BoolBank.replaced" 3 [] .none .none .none (vs "minismt.terms" 354) none (vr 465) .none 0), #[]⟩
noncomputable def o467 : Obj := ⟨(vt "tuple"), none, (.seq #[] 0), #[]⟩
noncomputable def o468 (P : Params) : Obj := ⟨(vt "dict"), none, (.dict #[de P "__module__" 657 (vs "minismt.terms" 354), de P "__firstlineno__" 661 (vi 191 660), de P "not_of" 669 (vr 382), de P "and_of" 677 (vr 389), de P "or_of" 685 (vr 396), de P "xor_of" 694 (vr 403), de P "implies_of" 703 (vr 410), de P "iff" 712 (vr 417), de P "eq" 721 (vr 424), de P "distinct" 729 (vr 431), de P "ite" 739 (vr 438), de P "app" 751 (vr 445), de P "folded" 760 (vr 452), de P "with_args" 769 (vr 459), de P "replaced" 778 (vr 466), de P "__static_attributes__" 779 (vr 467), de P "__doc__" 780 .none] 2), #[]⟩
noncomputable def o469 : Obj := ⟨(vt "type"), none, (.cls ⟨Str.ofString "BoolBank", [(vr 364)], [(vr 469), (vr 364), (vt "object")], 468, Str.ofString "BoolBank", true, [], [(vr 565)], false, none, false⟩), #[(some (vr 369)), none, (some (vs "BoolBank" 650)), (some (vs "BoolBank" 658)), (some (vb "object.__new__")), (some (.bool true))]⟩
noncomputable def o472 : Obj := ⟨(vt "tuple"), none, (.seq #[] 0), #[]⟩
noncomputable def o474 : Obj := ⟨(vt "tuple"), none, (.seq #[(vs "value" 786)] 0), #[]⟩
noncomputable def o475 : Obj := ⟨(vt "tuple"), none, (.seq #[] 0), #[]⟩
noncomputable def o477 : Obj := ⟨(vt "code"), none, (.fields #[(vs "want_small" 783), (vs "want_small" 784), (vs "/claim/cut.py" 785), (vi 236 0), (vi 1 0), (vi 0 0), (vi 0 0), (vi 3 0), (vr 472), (.bool true), (vi 181 0), (vr 473), .none, (vr 474), (vr 475), (vr 476), (vi 787 0), (vi 236 0), (vs "/claim/cut.py" 788)]), #[]⟩
noncomputable def o478 : Obj := ⟨(vt "function"), none, (fu fx22x0.1 "want_small" "want_small" 3 [] .none .none .none (vs "minismt.terms" 354) none (vr 477) .none 0), #[]⟩
noncomputable def o479 : Obj := ⟨(vt "tuple"), none, (.seq #[(vr 469)] 0), #[]⟩
noncomputable def o486 : Obj := ⟨(vt "tuple"), none, (.seq #[] 0), #[]⟩
noncomputable def o488 : Obj := ⟨(vt "tuple"), none, (.seq #[(vs "self" 805), (vs "value" 806), (vs "s" 807)] 0), #[]⟩
noncomputable def o489 : Obj := ⟨(vt "tuple"), none, (.seq #[] 0), #[]⟩
noncomputable def o491 : Obj := ⟨(vt "code"), none, (.fields #[(vs "num" 802), (vs "NumberBank.num" 803), (vs "/claim/cut.py" 804), (vi 241 0), (vi 3 0), (vi 0 0), (vi 0 0), (vi 3 0), (vr 486), (.bool true), (vi 181 0), (vr 487), .none, (vr 488), (vr 489), (vr 490), (vi 808 0), (vi 241 0), (vs "/claim/cut.py" 809)]), #[]⟩
noncomputable def o492 : Obj := ⟨(vt "function"), none, (fu fx23x0.1 "num" "NumberBank.num" 3 [] .none .none .none (vs "minismt.terms" 354) none (vr 491) .none 0), #[]⟩
noncomputable def o493 : Obj := ⟨(vt "tuple"), none, (.seq #[] 0), #[]⟩
noncomputable def o495 : Obj := ⟨(vt "tuple"), none, (.seq #[(vs "self" 814), (vs "t" 815), (vs "where" 816)] 0), #[]⟩
noncomputable def o496 : Obj := ⟨(vt "tuple"), none, (.seq #[] 0), #[]⟩
noncomputable def o498 : Obj := ⟨(vt "code"), none, (.fields #[(vs "want_number" 811), (vs "NumberBank.want_number" 812), (vs "/claim/cut.py" 813), (vi 249 0), (vi 3 0), (vi 0 0), (vi 0 0), (vi 3 0), (vr 493), (.bool true), (vi 181 0), (vr 494), .none, (vr 495), (vr 496), (vr 497), (vi 817 0), (vi 249 0), (vs "/claim/cut.py" 818)]), #[]⟩
noncomputable def o499 : Obj := ⟨(vt "function"), none, (fu fx23x1.1 "want_number" "NumberBank.want_number" 3 [] .none .none .none (vs "minismt.terms" 354) none (vr 498) .none 0), #[]⟩
noncomputable def o500 : Obj := ⟨(vt "tuple"), none, (.seq #[] 0), #[]⟩
noncomputable def o502 : Obj := ⟨(vt "tuple"), none, (.seq #[(vs "self" 823), (vs "some" 824)] 0), #[]⟩
noncomputable def o503 : Obj := ⟨(vt "tuple"), none, (.seq #[] 0), #[]⟩
noncomputable def o505 : Obj := ⟨(vt "code"), none, (.fields #[(vs "plus" 820), (vs "NumberBank.plus" 821), (vs "/claim/cut.py" 822), (vi 253 0), (vi 2 0), (vi 0 0), (vi 0 0), (vi 3 0), (vr 500), (.bool true), (vi 181 0), (vr 501), .none, (vr 502), (vr 503), (vr 504), (vi 825 0), (vi 253 0), (vs "/claim/cut.py" 826)]), #[]⟩
noncomputable def o506 : Obj := ⟨(vt "function"), none, (fu fx23x2.1 "plus" "NumberBank.plus" 3 [] .none .none .none (vs "minismt.terms" 354) none (vr 505) .none 0), #[]⟩
noncomputable def o507 : Obj := ⟨(vt "tuple"), none, (.seq #[] 0), #[]⟩
noncomputable def o509 : Obj := ⟨(vt "tuple"), none, (.seq #[(vs "self" 831), (vs "value" 832), (vs "t" 833), (vs "s" 834)] 0), #[]⟩
noncomputable def o510 : Obj := ⟨(vt "tuple"), none, (.seq #[] 0), #[]⟩
noncomputable def o512 : Obj := ⟨(vt "code"), none, (.fields #[(vs "times_num" 828), (vs "NumberBank.times_num" 829), (vs "/claim/cut.py" 830), (vi 256 0), (vi 3 0), (vi 0 0), (vi 0 0), (vi 3 0), (vr 507), (.bool true), (vi 181 0), (vr 508), .none, (vr 509), (vr 510), (vr 511), (vi 835 0), (vi 256 0), (vs "/claim/cut.py" 836)]), #[]⟩
noncomputable def o513 : Obj := ⟨(vt "function"), none, (fu fx23x3.1 "times_num" "NumberBank.times_num" 3 [] .none .none .none (vs "minismt.terms" 354) none (vr 512) .none 0), #[]⟩
noncomputable def o514 : Obj := ⟨(vt "tuple"), none, (.seq #[] 0), #[]⟩
noncomputable def o516 : Obj := ⟨(vt "tuple"), none, (.seq #[(vs "self" 841), (vs "a" 842), (vs "b" 843)] 0), #[]⟩
noncomputable def o517 : Obj := ⟨(vt "tuple"), none, (.seq #[] 0), #[]⟩
noncomputable def o519 : Obj := ⟨(vt "code"), none, (.fields #[(vs "times" 838), (vs "NumberBank.times" 839), (vs "/claim/cut.py" 840), (vi 263 0), (vi 3 0), (vi 0 0), (vi 0 0), (vi 3 0), (vr 514), (.bool true), (vi 181 0), (vr 515), .none, (vr 516), (vr 517), (vr 518), (vi 844 0), (vi 263 0), (vs "/claim/cut.py" 845)]), #[]⟩
noncomputable def o520 : Obj := ⟨(vt "function"), none, (fu fx23x4.1 "times" "NumberBank.times" 3 [] .none .none .none (vs "minismt.terms" 354) none (vr 519) .none 0), #[]⟩
noncomputable def o521 : Obj := ⟨(vt "tuple"), none, (.seq #[] 0), #[]⟩
noncomputable def o523 : Obj := ⟨(vt "tuple"), none, (.seq #[(vs "self" 850), (vs "t" 851), (vs "value" 852)] 0), #[]⟩
noncomputable def o524 : Obj := ⟨(vt "tuple"), none, (.seq #[] 0), #[]⟩
noncomputable def o526 : Obj := ⟨(vt "code"), none, (.fields #[(vs "over_num" 847), (vs "NumberBank.over_num" 848), (vs "/claim/cut.py" 849), (vi 272 0), (vi 3 0), (vi 0 0), (vi 0 0), (vi 3 0), (vr 521), (.bool true), (vi 181 0), (vr 522), .none, (vr 523), (vr 524), (vr 525), (vi 853 0), (vi 272 0), (vs "/claim/cut.py" 854)]), #[]⟩
noncomputable def o527 : Obj := ⟨(vt "function"), none, (fu fx23x5.1 "over_num" "NumberBank.over_num" 3 [] .none .none .none (vs "minismt.terms" 354) none (vr 526) .none 0), #[]⟩
noncomputable def o528 : Obj := ⟨(vt "tuple"), none, (.seq #[] 0), #[]⟩
noncomputable def o530 : Obj := ⟨(vt "tuple"), none, (.seq #[(vs "self" 859), (vs "t" 860)] 0), #[]⟩
noncomputable def o531 : Obj := ⟨(vt "tuple"), none, (.seq #[] 0), #[]⟩
noncomputable def o533 : Obj := ⟨(vt "code"), none, (.fields #[(vs "negative" 856), (vs "NumberBank.negative" 857), (vs "/claim/cut.py" 858), (vi 275 0), (vi 2 0), (vi 0 0), (vi 0 0), (vi 3 0), (vr 528), (.bool true), (vi 181 0), (vr 529), .none, (vr 530), (vr 531), (vr 532), (vi 861 0), (vi 275 0), (vs "/claim/cut.py" 862)]), #[]⟩
noncomputable def o534 : Obj := ⟨(vt "function"), none, (fu fx23x6.1 "negative" "NumberBank.negative" 3 [] .none .none .none (vs "minismt.terms" 354) none (vr 533) .none 0), #[]⟩
noncomputable def o535 : Obj := ⟨(vt "tuple"), none, (.seq #[] 0), #[]⟩
noncomputable def o537 : Obj := ⟨(vt "tuple"), none, (.seq #[(vs "self" 867), (vs "a" 868), (vs "b" 869)] 0), #[]⟩
noncomputable def o538 : Obj := ⟨(vt "tuple"), none, (.seq #[] 0), #[]⟩
noncomputable def o540 : Obj := ⟨(vt "code"), none, (.fields #[(vs "minus" 864), (vs "NumberBank.minus" 865), (vs "/claim/cut.py" 866), (vi 278 0), (vi 3 0), (vi 0 0), (vi 0 0), (vi 3 0), (vr 535), (.bool true), (vi 181 0), (vr 536), .none, (vr 537), (vr 538), (vr 539), (vi 870 0), (vi 278 0), (vs "/claim/cut.py" 871)]), #[]⟩
noncomputable def o541 : Obj := ⟨(vt "function"), none, (fu fx23x7.1 "minus" "NumberBank.minus" 3 [] .none .none .none (vs "minismt.terms" 354) none (vr 540) .none 0), #[]⟩
noncomputable def o542 : Obj := ⟨(vt "tuple"), none, (.seq #[] 0), #[]⟩
noncomputable def o544 : Obj := ⟨(vt "tuple"), none, (.seq #[(vs "self" 876), (vs "a" 877), (vs "b" 878)] 0), #[]⟩
noncomputable def o545 : Obj := ⟨(vt "tuple"), none, (.seq #[] 0), #[]⟩
noncomputable def o547 : Obj := ⟨(vt "code"), none, (.fields #[(vs "le" 873), (vs "NumberBank.le" 874), (vs "/claim/cut.py" 875), (vi 281 0), (vi 3 0), (vi 0 0), (vi 0 0), (vi 3 0), (vr 542), (.bool true), (vi 181 0), (vr 543), .none, (vr 544), (vr 545), (vr 546), (vi 879 0), (vi 281 0), (vs "/claim/cut.py" 880)]), #[]⟩
noncomputable def o548 : Obj := ⟨(vt "function"), none, (fu fx23x8.1 "le" "NumberBank.le" 3 [] .none .none .none (vs "minismt.terms" 354) none (vr 547) .none 0), #[]⟩
noncomputable def o549 : Obj := ⟨(vt "tuple"), none, (.seq #[] 0), #[]⟩
noncomputable def o551 : Obj := ⟨(vt "tuple"), none, (.seq #[(vs "self" 885), (vs "a" 886), (vs "b" 887)] 0), #[]⟩
noncomputable def o552 : Obj := ⟨(vt "tuple"), none, (.seq #[] 0), #[]⟩
noncomputable def o554 : Obj := ⟨(vt "code"), none, (.fields #[(vs "lt" 882), (vs "NumberBank.lt" 883), (vs "/claim/cut.py" 884), (vi 284 0), (vi 3 0), (vi 0 0), (vi 0 0), (vi 3 0), (vr 549), (.bool true), (vi 181 0), (vr 550), .none, (vr 551), (vr 552), (vr 553), (vi 888 0), (vi 284 0), (vs "/claim/cut.py" 889)]), #[]⟩
noncomputable def o555 : Obj := ⟨(vt "function"), none, (fu fx23x9.1 "lt" "NumberBank.lt" 3 [] .none .none .none (vs "minismt.terms" 354) none (vr 554) .none 0), #[]⟩
noncomputable def o556 : Obj := ⟨(vt "tuple"), none, (.seq #[] 0), #[]⟩
noncomputable def o558 : Obj := ⟨(vt "tuple"), none, (.seq #[(vs "self" 894), (vs "t" 895), (vs "args" 896)] 0), #[]⟩
noncomputable def o559 : Obj := ⟨(vt "tuple"), none, (.seq #[] 0), #[]⟩
noncomputable def o561 : Obj := ⟨(vt "code"), none, (.fields #[(vs "with_args" 891), (vs "NumberBank.with_args" 892), (vs "/claim/cut.py" 893), (vi 287 0), (vi 3 0), (vi 0 0), (vi 0 0), (vi 3 0), (vr 556), (.bool true), (vi 181 0), (vr 557), .none, (vr 558), (vr 559), (vr 560), (vi 897 0), (vi 287 0), (vs "/claim/cut.py" 898)]), #[]⟩
noncomputable def o562 : Obj := ⟨(vt "function"), none, (fu fx23x10.1 "with_args" "NumberBank.with_args" 3 [] .none .none .none (vs "minismt.terms" 354) none (vr 561) .none 0), #[]⟩
noncomputable def o563 : Obj := ⟨(vt "tuple"), none, (.seq #[] 0), #[]⟩
noncomputable def o564 (P : Params) : Obj := ⟨(vt "dict"), none, (.dict #[de P "__module__" 797 (vs "minismt.terms" 354), de P "__firstlineno__" 801 (vi 239 800), de P "num" 810 (vr 492), de P "want_number" 819 (vr 499), de P "plus" 827 (vr 506), de P "times_num" 837 (vr 513), de P "times" 846 (vr 520), de P "over_num" 855 (vr 527), de P "negative" 863 (vr 534), de P "minus" 872 (vr 541), de P "le" 881 (vr 548), de P "lt" 890 (vr 555), de P "with_args" 899 (vr 562), de P "__static_attributes__" 900 (vr 563), de P "__doc__" 901 .none] 2), #[]⟩
noncomputable def o565 : Obj := ⟨(vt "type"), none, (.cls ⟨Str.ofString "NumberBank", [(vr 469)], [(vr 565), (vr 469), (vr 364), (vt "object")], 564, Str.ofString "NumberBank", true, [], [(vr 684)], false, none, false⟩), #[(some (vr 479)), none, (some (vs "NumberBank" 790)), (some (vs "NumberBank" 798)), (some (vb "object.__new__")), (some (.bool true))]⟩
noncomputable def o568 : Obj := ⟨(vt "tuple"), none, (.seq #[(vr 565)] 0), #[]⟩
noncomputable def o571 : Obj := ⟨(vt "cell"), none, (.cell (some (vr 684))), #[]⟩
noncomputable def o576 : Obj := ⟨(vt "tuple"), none, (.seq #[(vr 571)] 0), #[]⟩
noncomputable def o577 : Obj := ⟨(vt "tuple"), none, (.seq #[(vs "__class__" 919)] 0), #[]⟩
noncomputable def o579 : Obj := ⟨(vt "tuple"), none, (.seq #[(vs "self" 920)] 0), #[]⟩
noncomputable def o580 : Obj := ⟨(vt "tuple"), none, (.seq #[] 0), #[]⟩
noncomputable def o582 : Obj := ⟨(vt "code"), none, (.fields #[(vs "__init__" 916), (vs "TermBank.__init__" 917), (vs "/claim/cut.py" 918), (vi 291 0), (vi 1 0), (vi 0 0), (vi 0 0), (vi 3 0), (vr 577), (.bool true), (vi 181 0), (vr 578), .none, (vr 579), (vr 580), (vr 581), (vi 921 0), (vi 291 0), (vs "/claim/cut.py" 922)]), #[]⟩
noncomputable def o583 : Obj := ⟨(vt "function"), none, (fu fx24x0.1 "__init__" "TermBank.__init__" 3 [(Str.ofString "__class__", 571)] .none .none .none (vs "minismt.terms" 354) none (vr 582) (vr 576) 0), #[]⟩
noncomputable def o584 : Obj := ⟨(vt "tuple"), none, (.seq #[] 0), #[]⟩
noncomputable def o586 : Obj := ⟨(vt "tuple"), none, (.seq #[(vs "self" 927), (vs "width" 928)] 0), #[]⟩
noncomputable def o587 : Obj := ⟨(vt "tuple"), none, (.seq #[] 0), #[]⟩
noncomputable def o589 : Obj := ⟨(vt "code"), none, (.fields #[(vs "bv_sort" 924), (vs "TermBank.bv_sort" 925), (vs "/claim/cut.py" 926), (vi 295 0), (vi 2 0), (vi 0 0), (vi 0 0), (vi 3 0), (vr 584), (.bool true), (vi 181 0), (vr 585), .none, (vr 586), (vr 587), (vr 588), (vi 929 0), (vi 295 0), (vs "/claim/cut.py" 930)]), #[]⟩
noncomputable def o590 : Obj := ⟨(vt "function"), none, (fu fx24x1.1 "bv_sort" "TermBank.bv_sort" 3 [] .none .none .none (vs "minismt.terms" 354) none (vr 589) .none 0), #[]⟩
noncomputable def o591 : Obj := ⟨(vt "tuple"), none, (.seq #[] 0), #[]⟩
noncomputable def o593 : Obj := ⟨(vt "tuple"), none, (.seq #[(vs "self" 935), (vs "width" 936)] 0), #[]⟩
noncomputable def o594 : Obj := ⟨(vt "tuple"), none, (.seq #[] 0), #[]⟩
noncomputable def o596 : Obj := ⟨(vt "code"), none, (.fields #[(vs "find_bv_sort" 932), (vs "TermBank.find_bv_sort" 933), (vs "/claim/cut.py" 934), (vi 298 0), (vi 2 0), (vi 0 0), (vi 0 0), (vi 3 0), (vr 591), (.bool true), (vi 181 0), (vr 592), .none, (vr 593), (vr 594), (vr 595), (vi 937 0), (vi 298 0), (vs "/claim/cut.py" 938)]), #[]⟩
noncomputable def o597 : Obj := ⟨(vt "function"), none, (fu fx24x2.1 "find_bv_sort" "TermBank.find_bv_sort" 3 [] .none .none .none (vs "minismt.terms" 354) none (vr 596) .none 0), #[]⟩
noncomputable def o598 : Obj := ⟨(vt "tuple"), none, (.seq #[] 0), #[]⟩
noncomputable def o600 : Obj := ⟨(vt "tuple"), none, (.seq #[(vs "self" 943), (vs "t" 944), (vs "where" 945)] 0), #[]⟩
noncomputable def o601 : Obj := ⟨(vt "tuple"), none, (.seq #[] 0), #[]⟩
noncomputable def o603 : Obj := ⟨(vt "code"), none, (.fields #[(vs "want_bits" 940), (vs "TermBank.want_bits" 941), (vs "/claim/cut.py" 942), (vi 301 0), (vi 3 0), (vi 0 0), (vi 0 0), (vi 3 0), (vr 598), (.bool true), (vi 181 0), (vr 599), .none, (vr 600), (vr 601), (vr 602), (vi 946 0), (vi 301 0), (vs "/claim/cut.py" 947)]), #[]⟩
noncomputable def o604 : Obj := ⟨(vt "function"), none, (fu fx24x3.1 "want_bits" "TermBank.want_bits" 3 [] .none .none .none (vs "minismt.terms" 354) none (vr 603) .none 0), #[]⟩
noncomputable def o605 : Obj := ⟨(vt "tuple"), none, (.seq #[] 0), #[]⟩
noncomputable def o607 : Obj := ⟨(vt "tuple"), none, (.seq #[(vs "self" 952), (vs "value" 953), (vs "width" 954)] 0), #[]⟩
noncomputable def o608 : Obj := ⟨(vt "tuple"), none, (.seq #[] 0), #[]⟩
noncomputable def o610 : Obj := ⟨(vt "code"), none, (.fields #[(vs "bv_num" 949), (vs "TermBank.bv_num" 950), (vs "/claim/cut.py" 951), (vi 305 0), (vi 3 0), (vi 0 0), (vi 0 0), (vi 3 0), (vr 605), (.bool true), (vi 181 0), (vr 606), .none, (vr 607), (vr 608), (vr 609), (vi 955 0), (vi 305 0), (vs "/claim/cut.py" 956)]), #[]⟩
noncomputable def o611 : Obj := ⟨(vt "function"), none, (fu fx24x4.1 "bv_num" "TermBank.bv_num" 3 [] .none .none .none (vs "minismt.terms" 354) none (vr 610) .none 0), #[]⟩
noncomputable def o612 : Obj := ⟨(vt "tuple"), none, (.seq #[] 0), #[]⟩
noncomputable def o614 : Obj := ⟨(vt "tuple"), none, (.seq #[(vs "self" 961), (vs "op" 962), (vs "t" 963)] 0), #[]⟩
noncomputable def o615 : Obj := ⟨(vt "tuple"), none, (.seq #[] 0), #[]⟩
noncomputable def o617 : Obj := ⟨(vt "code"), none, (.fields #[(vs "bv_one" 958), (vs "TermBank.bv_one" 959), (vs "/claim/cut.py" 960), (vi 308 0), (vi 3 0), (vi 0 0), (vi 0 0), (vi 3 0), (vr 612), (.bool true), (vi 181 0), (vr 613), .none, (vr 614), (vr 615), (vr 616), (vi 964 0), (vi 308 0), (vs "/claim/cut.py" 965)]), #[]⟩
noncomputable def o618 : Obj := ⟨(vt "function"), none, (fu fx24x5.1 "bv_one" "TermBank.bv_one" 3 [] .none .none .none (vs "minismt.terms" 354) none (vr 617) .none 0), #[]⟩
noncomputable def o619 : Obj := ⟨(vt "tuple"), none, (.seq #[] 0), #[]⟩
noncomputable def o621 : Obj := ⟨(vt "tuple"), none, (.seq #[(vs "self" 970), (vs "op" 971), (vs "a" 972), (vs "b" 973)] 0), #[]⟩
noncomputable def o622 : Obj := ⟨(vt "tuple"), none, (.seq #[] 0), #[]⟩
noncomputable def o624 : Obj := ⟨(vt "code"), none, (.fields #[(vs "bv_two" 967), (vs "TermBank.bv_two" 968), (vs "/claim/cut.py" 969), (vi 311 0), (vi 4 0), (vi 0 0), (vi 0 0), (vi 3 0), (vr 619), (.bool true), (vi 181 0), (vr 620), .none, (vr 621), (vr 622), (vr 623), (vi 974 0), (vi 311 0), (vs "/claim/cut.py" 975)]), #[]⟩
noncomputable def o625 : Obj := ⟨(vt "function"), none, (fu fx24x6.1 "bv_two" "TermBank.bv_two" 3 [] .none .none .none (vs "minismt.terms" 354) none (vr 624) .none 0), #[]⟩
noncomputable def o626 : Obj := ⟨(vt "tuple"), none, (.seq #[] 0), #[]⟩
noncomputable def o628 : Obj := ⟨(vt "tuple"), none, (.seq #[(vs "self" 980), (vs "a" 981), (vs "b" 982)] 0), #[]⟩
noncomputable def o629 : Obj := ⟨(vt "tuple"), none, (.seq #[] 0), #[]⟩
noncomputable def o631 : Obj := ⟨(vt "code"), none, (.fields #[(vs "concat" 977), (vs "TermBank.concat" 978), (vs "/claim/cut.py" 979), (vi 314 0), (vi 3 0), (vi 0 0), (vi 0 0), (vi 3 0), (vr 626), (.bool true), (vi 181 0), (vr 627), .none, (vr 628), (vr 629), (vr 630), (vi 983 0), (vi 314 0), (vs "/claim/cut.py" 984)]), #[]⟩
noncomputable def o632 : Obj := ⟨(vt "function"), none, (fu fx24x7.1 "concat" "TermBank.concat" 3 [] .none .none .none (vs "minismt.terms" 354) none (vr 631) .none 0), #[]⟩
noncomputable def o633 : Obj := ⟨(vt "tuple"), none, (.seq #[] 0), #[]⟩
noncomputable def o635 : Obj := ⟨(vt "tuple"), none, (.seq #[(vs "self" 989), (vs "high" 990), (vs "low" 991), (vs "t" 992)] 0), #[]⟩
noncomputable def o636 : Obj := ⟨(vt "tuple"), none, (.seq #[] 0), #[]⟩
noncomputable def o638 : Obj := ⟨(vt "code"), none, (.fields #[(vs "extract" 986), (vs "TermBank.extract" 987), (vs "/claim/cut.py" 988), (vi 317 0), (vi 4 0), (vi 0 0), (vi 0 0), (vi 3 0), (vr 633), (.bool true), (vi 181 0), (vr 634), .none, (vr 635), (vr 636), (vr 637), (vi 993 0), (vi 317 0), (vs "/claim/cut.py" 994)]), #[]⟩
noncomputable def o639 : Obj := ⟨(vt "function"), none, (fu fx24x8.1 "extract" "TermBank.extract" 3 [] .none .none .none (vs "minismt.terms" 354) none (vr 638) .none 0), #[]⟩
noncomputable def o640 : Obj := ⟨(vt "tuple"), none, (.seq #[] 0), #[]⟩
noncomputable def o642 : Obj := ⟨(vt "tuple"), none, (.seq #[(vs "self" 999), (vs "many" 1000), (vs "t" 1001)] 0), #[]⟩
noncomputable def o643 : Obj := ⟨(vt "tuple"), none, (.seq #[] 0), #[]⟩
noncomputable def o645 : Obj := ⟨(vt "code"), none, (.fields #[(vs "zero_extend" 996), (vs "TermBank.zero_extend" 997), (vs "/claim/cut.py" 998), (vi 320 0), (vi 3 0), (vi 0 0), (vi 0 0), (vi 3 0), (vr 640), (.bool true), (vi 181 0), (vr 641), .none, (vr 642), (vr 643), (vr 644), (vi 1002 0), (vi 320 0), (vs "/claim/cut.py" 1003)]), #[]⟩
noncomputable def o646 : Obj := ⟨(vt "function"), none, (fu fx24x9.1 "zero_extend" "TermBank.zero_extend" 3 [] .none .none .none (vs "minismt.terms" 354) none (vr 645) .none 0), #[]⟩
noncomputable def o647 : Obj := ⟨(vt "tuple"), none, (.seq #[] 0), #[]⟩
noncomputable def o649 : Obj := ⟨(vt "tuple"), none, (.seq #[(vs "self" 1008), (vs "many" 1009), (vs "t" 1010)] 0), #[]⟩
noncomputable def o650 : Obj := ⟨(vt "tuple"), none, (.seq #[] 0), #[]⟩
noncomputable def o652 : Obj := ⟨(vt "code"), none, (.fields #[(vs "sign_extend" 1005), (vs "TermBank.sign_extend" 1006), (vs "/claim/cut.py" 1007), (vi 323 0), (vi 3 0), (vi 0 0), (vi 0 0), (vi 3 0), (vr 647), (.bool true), (vi 181 0), (vr 648), .none, (vr 649), (vr 650), (vr 651), (vi 1011 0), (vi 323 0), (vs "/claim/cut.py" 1012)]), #[]⟩
noncomputable def o653 : Obj := ⟨(vt "function"), none, (fu fx24x10.1 "sign_extend" "TermBank.sign_extend" 3 [] .none .none .none (vs "minismt.terms" 354) none (vr 652) .none 0), #[]⟩
noncomputable def o654 : Obj := ⟨(vt "tuple"), none, (.seq #[] 0), #[]⟩
noncomputable def o656 : Obj := ⟨(vt "tuple"), none, (.seq #[(vs "self" 1017), (vs "i" 1018), (vs "t" 1019), (vs "where" 1020)] 0), #[]⟩
noncomputable def o657 : Obj := ⟨(vt "tuple"), none, (.seq #[] 0), #[]⟩
noncomputable def o659 : Obj := ⟨(vt "code"), none, (.fields #[(vs "want_place" 1014), (vs "TermBank.want_place" 1015), (vs "/claim/cut.py" 1016), (vi 326 0), (vi 4 0), (vi 0 0), (vi 0 0), (vi 3 0), (vr 654), (.bool true), (vi 181 0), (vr 655), .none, (vr 656), (vr 657), (vr 658), (vi 1021 0), (vi 326 0), (vs "/claim/cut.py" 1022)]), #[]⟩
noncomputable def o660 : Obj := ⟨(vt "function"), none, (fu fx24x11.1 "want_place" "TermBank.want_place" 3 [] .none .none .none (vs "minismt.terms" 354) none (vr 659) .none 0), #[]⟩
noncomputable def o661 : Obj := ⟨(vt "tuple"), none, (.seq #[] 0), #[]⟩
noncomputable def o663 : Obj := ⟨(vt "tuple"), none, (.seq #[(vs "self" 1027), (vs "i" 1028), (vs "t" 1029)] 0), #[]⟩
noncomputable def o664 : Obj := ⟨(vt "tuple"), none, (.seq #[] 0), #[]⟩
noncomputable def o666 : Obj := ⟨(vt "code"), none, (.fields #[(vs "bit" 1024), (vs "TermBank.bit" 1025), (vs "/claim/cut.py" 1026), (vi 330 0), (vi 3 0), (vi 0 0), (vi 0 0), (vi 3 0), (vr 661), (.bool true), (vi 181 0), (vr 662), .none, (vr 663), (vr 664), (vr 665), (vi 1030 0), (vi 330 0), (vs "/claim/cut.py" 1031)]), #[]⟩
noncomputable def o667 : Obj := ⟨(vt "function"), none, (fu fx24x12.1 "bit" "TermBank.bit" 3 [] .none .none .none (vs "minismt.terms" 354) none (vr 666) .none 0), #[]⟩
noncomputable def o668 : Obj := ⟨(vt "tuple"), none, (.seq #[] 0), #[]⟩
noncomputable def o670 : Obj := ⟨(vt "tuple"), none, (.seq #[(vs "self" 1036), (vs "i" 1037), (vs "a" 1038), (vs "b" 1039)] 0), #[]⟩
noncomputable def o671 : Obj := ⟨(vt "tuple"), none, (.seq #[] 0), #[]⟩
noncomputable def o673 : Obj := ⟨(vt "code"), none, (.fields #[(vs "carry" 1033), (vs "TermBank.carry" 1034), (vs "/claim/cut.py" 1035), (vi 336 0), (vi 4 0), (vi 0 0), (vi 0 0), (vi 3 0), (vr 668), (.bool true), (vi 181 0), (vr 669), .none, (vr 670), (vr 671), (vr 672), (vi 1040 0), (vi 336 0), (vs "/claim/cut.py" 1041)]), #[]⟩
noncomputable def o674 : Obj := ⟨(vt "function"), none, (fu fx24x13.1 "carry" "TermBank.carry" 3 [] .none .none .none (vs "minismt.terms" 354) none (vr 673) .none 0), #[]⟩
noncomputable def o675 : Obj := ⟨(vt "tuple"), none, (.seq #[] 0), #[]⟩
noncomputable def o677 : Obj := ⟨(vt "tuple"), none, (.seq #[(vs "self" 1046), (vs "i" 1047), (vs "a" 1048), (vs "b" 1049)] 0), #[]⟩
noncomputable def o678 : Obj := ⟨(vt "tuple"), none, (.seq #[] 0), #[]⟩
noncomputable def o680 : Obj := ⟨(vt "code"), none, (.fields #[(vs "below" 1043), (vs "TermBank.below" 1044), (vs "/claim/cut.py" 1045), (vi 339 0), (vi 4 0), (vi 0 0), (vi 0 0), (vi 3 0), (vr 675), (.bool true), (vi 181 0), (vr 676), .none, (vr 677), (vr 678), (vr 679), (vi 1050 0), (vi 339 0), (vs "/claim/cut.py" 1051)]), #[]⟩
noncomputable def o681 : Obj := ⟨(vt "function"), none, (fu fx24x14.1 "below" "TermBank.below" 3 [] .none .none .none (vs "minismt.terms" 354) none (vr 680) .none 0), #[]⟩
noncomputable def o682 : Obj := ⟨(vt "tuple"), none, (.seq #[(vs "bv_numbers" 1053)] 0), #[]⟩
noncomputable def o683 (P : Params) : Obj := ⟨(vt "dict"), none, (.dict #[de P "__module__" 911 (vs "minismt.terms" 354), de P "__firstlineno__" 915 (vi 289 914), de P "__init__" 923 (vr 583), de P "bv_sort" 931 (vr 590), de P "find_bv_sort" 939 (vr 597), de P "want_bits" 948 (vr 604), de P "bv_num" 957 (vr 611), de P "bv_one" 966 (vr 618), de P "bv_two" 976 (vr 625), de P "concat" 985 (vr 632), de P "extract" 995 (vr 639), de P "zero_extend" 1004 (vr 646), de P "sign_extend" 1013 (vr 653), de P "want_place" 1023 (vr 660), de P "bit" 1032 (vr 667), de P "carry" 1042 (vr 674), de P "below" 1052 (vr 681), de P "__static_attributes__" 1054 (vr 682), de P "__doc__" 1056 .none] 3), #[]⟩
noncomputable def o684 : Obj := ⟨(vt "type"), none, (.cls ⟨Str.ofString "TermBank", [(vr 565)], [(vr 684), (vr 565), (vr 469), (vr 364), (vt "object")], 683, Str.ofString "TermBank", true, [], [], false, none, false⟩), #[(some (vr 568)), none, (some (vs "TermBank" 904)), (some (vs "TermBank" 912)), (some (vb "object.__new__")), (some (.bool true))]⟩
noncomputable def o694 : Obj := ⟨(vt "tuple"), none, (.seq #[] 0), #[]⟩
noncomputable def o696 : Obj := ⟨(vt "tuple"), none, (.seq #[(vs "self" 1076), (vs "parts" 1077), (vs "bound" 1078), (vs "is_strict" 1079)] 0), #[]⟩
noncomputable def o697 : Obj := ⟨(vt "tuple"), none, (.seq #[] 0), #[]⟩
noncomputable def o699 : Obj := ⟨(vt "code"), none, (.fields #[(vs "__init__" 1073), (vs "Row.__init__" 1074), (vs "/claim/cut.py" 1075), (vi 347 0), (vi 4 0), (vi 0 0), (vi 0 0), (vi 3 0), (vr 694), (.bool true), (vi 181 0), (vr 695), .none, (vr 696), (vr 697), (vr 698), (vi 1080 0), (vi 347 0), (vs "/claim/cut.py" 1081)]), #[]⟩
noncomputable def o700 : Obj := ⟨(vt "function"), none, (fu fx26x0.1 "__init__" "Row.__init__" 3 [] .none .none .none (vs "minismt.judges" 1059) none (vr 699) .none 0), #[]⟩
noncomputable def o701 : Obj := ⟨(vt "tuple"), none, (.seq #[(vs "bound" 1083), (vs "is_strict" 1084), (vs "parts" 1085)] 0), #[]⟩
noncomputable def o702 (P : Params) : Obj := ⟨(vt "dict"), none, (.dict #[de P "__module__" 1068 (vs "minismt.judges" 1059), de P "__firstlineno__" 1072 (vi 345 1071), de P "__init__" 1082 (vr 700), de P "__static_attributes__" 1086 (vr 701), de P "__dict__" 1088 (vr 704), de P "__weakref__" 1090 (vr 705), de P "__doc__" 1091 .none] 4), #[]⟩
noncomputable def o703 : Obj := ⟨(vt "type"), none, (.cls ⟨Str.ofString "Row", [(vt "object")], [(vr 703), (vt "object")], 702, Str.ofString "Row", true, [], [], false, none, false⟩), #[none, none, (some (vs "Row" 1061)), (some (vs "Row" 1069)), (some (vb "object.__new__")), (some (.bool true))]⟩
noncomputable def o704 : Obj := ⟨(vt "getset_descriptor"), none, (.fields #[(vs "__dict__" 1087), (vr 703), (vb "function.__dict__"), (vb "function.__dict__#set")]), #[]⟩
noncomputable def o705 : Obj := ⟨(vt "getset_descriptor"), none, (.fields #[(vs "__weakref__" 1089), (vr 703), (vb "ExceptionGroup.__weakref__"), .none]), #[]⟩
noncomputable def o715 : Obj := ⟨(vt "tuple"), none, (.seq #[] 0), #[]⟩
noncomputable def o717 : Obj := ⟨(vt "tuple"), none, (.seq #[(vs "self" 1109), (vs "bank" 1110)] 0), #[]⟩
noncomputable def o718 : Obj := ⟨(vt "tuple"), none, (.seq #[] 0), #[]⟩
noncomputable def o720 : Obj := ⟨(vt "code"), none, (.fields #[(vs "__init__" 1106), (vs "RowJudge.__init__" 1107), (vs "/claim/cut.py" 1108), (vi 353 0), (vi 2 0), (vi 0 0), (vi 0 0), (vi 3 0), (vr 715), (.bool true), (vi 181 0), (vr 716), .none, (vr 717), (vr 718), (vr 719), (vi 1111 0), (vi 353 0), (vs "/claim/cut.py" 1112)]), #[]⟩
noncomputable def o721 : Obj := ⟨(vt "function"), none, (fu fx27x0.1 "__init__" "RowJudge.__init__" 3 [] .none .none .none (vs "minismt.judges" 1059) none (vr 720) .none 0), #[]⟩
noncomputable def o722 : Obj := ⟨(vt "tuple"), none, (.seq #[] 0), #[]⟩
noncomputable def o724 : Obj := ⟨(vt "tuple"), none, (.seq #[(vs "self" 1117), (vs "t" 1118)] 0), #[]⟩
noncomputable def o725 : Obj := ⟨(vt "tuple"), none, (.seq #[] 0), #[]⟩
noncomputable def o727 : Obj := ⟨(vt "code"), none, (.fields #[(vs "linear" 1114), (vs "RowJudge.linear" 1115), (vs "/claim/cut.py" 1116), (vi 356 0), (vi 2 0), (vi 0 0), (vi 0 0), (vi 3 0), (vr 722), (.bool true), (vi 181 0), (vr 723), .none, (vr 724), (vr 725), (vr 726), (vi 1119 0), (vi 356 0), (vs "/claim/cut.py" 1120)]), #[]⟩
noncomputable def o728 : Obj := ⟨(vt "function"), none, (fu fx27x1.1 "linear" "RowJudge.linear" 3 [] .none .none .none (vs "minismt.judges" 1059) none (vr 727) .none 0), #[]⟩
noncomputable def o729 : Obj := ⟨(vt "tuple"), none, (.seq #[] 0), #[]⟩
noncomputable def o731 : Obj := ⟨(vt "tuple"), none, (.seq #[(vs "self" 1125), (vs "one" 1126)] 0), #[]⟩
noncomputable def o732 : Obj := ⟨(vt "tuple"), none, (.seq #[] 0), #[]⟩
noncomputable def o734 : Obj := ⟨(vt "code"), none, (.fields #[(vs "row_of" 1122), (vs "RowJudge.row_of" 1123), (vs "/claim/cut.py" 1124), (vi 359 0), (vi 2 0), (vi 0 0), (vi 0 0), (vi 3 0), (vr 729), (.bool true), (vi 181 0), (vr 730), .none, (vr 731), (vr 732), (vr 733), (vi 1127 0), (vi 359 0), (vs "/claim/cut.py" 1128)]), #[]⟩
noncomputable def o735 : Obj := ⟨(vt "function"), none, (fu fx27x2.1 "row_of" "RowJudge.row_of" 3 [] .none .none .none (vs "minismt.judges" 1059) none (vr 734) .none 0), #[]⟩
noncomputable def o736 : Obj := ⟨(vt "tuple"), none, (.seq #[] 0), #[]⟩
noncomputable def o739 : Obj := ⟨(vt "code"), none, (.fields #[(vs "normal_row" 1130), (vs "RowJudge.normal_row" 1131), (vs "/claim/cut.py" 1132), (vi 362 0), (vi 4 0), (vi 0 0), (vi 0 0), (vi 3 0), (vr 736), (.bool true), (vi 181 0), (vr 737), .none, .none, .none, (vr 738), (vi 1133 0), (vi 362 0), (vs "/claim/cut.py" 1134)]), #[]⟩
noncomputable def o740 : Obj := ⟨(vt "function"), none, (fu fx27x3.1 "normal_row" "RowJudge.normal_row" 3 [] .none .none .none (vs "minismt.judges" 1059) none (vr 739) .none 0), #[]⟩
noncomputable def o741 : Obj := ⟨(vt "tuple"), none, (.seq #[] 0), #[]⟩
noncomputable def o743 : Obj := ⟨(vt "tuple"), none, (.seq #[(vs "self" 1139), (vs "clause" 1140), (vs "weights" 1141)] 0), #[]⟩
noncomputable def o744 : Obj := ⟨(vt "tuple"), none, (.seq #[] 0), #[]⟩
noncomputable def o746 : Obj := ⟨(vt "code"), none, (.fields #[(vs "sum_of" 1136), (vs "RowJudge.sum_of" 1137), (vs "/claim/cut.py" 1138), (vi 378 0), (vi 3 0), (vi 0 0), (vi 0 0), (vi 3 0), (vr 741), (.bool true), (vi 181 0), (vr 742), .none, (vr 743), (vr 744), (vr 745), (vi 1142 0), (vi 378 0), (vs "/claim/cut.py" 1143)]), #[]⟩
noncomputable def o747 : Obj := ⟨(vt "function"), none, (fu fx27x4.1 "sum_of" "RowJudge.sum_of" 3 [] .none .none .none (vs "minismt.judges" 1059) none (vr 746) .none 0), #[]⟩
noncomputable def o748 : Obj := ⟨(vt "tuple"), none, (.seq #[] 0), #[]⟩
noncomputable def o750 : Obj := ⟨(vt "tuple"), none, (.seq #[(vs "self" 1148), (vs "clause" 1149), (vs "note" 1150)] 0), #[]⟩
noncomputable def o751 : Obj := ⟨(vt "tuple"), none, (.seq #[] 0), #[]⟩
noncomputable def o753 : Obj := ⟨(vt "code"), none, (.fields #[(vs "farkas_fault" 1145), (vs "RowJudge.farkas_fault" 1146), (vs "/claim/cut.py" 1147), (vi 381 0), (vi 3 0), (vi 0 0), (vi 0 0), (vi 3 0), (vr 748), (.bool true), (vi 181 0), (vr 749), .none, (vr 750), (vr 751), (vr 752), (vi 1151 0), (vi 381 0), (vs "/claim/cut.py" 1152)]), #[]⟩
noncomputable def o754 : Obj := ⟨(vt "function"), none, (fu fx27x5.1 "farkas_fault" "RowJudge.farkas_fault" 3 [] .none .none .none (vs "minismt.judges" 1059) none (vr 753) .none 0), #[]⟩
noncomputable def o755 : Obj := ⟨(vt "tuple"), none, (.seq #[] 0), #[]⟩
noncomputable def o757 : Obj := ⟨(vt "tuple"), none, (.seq #[(vs "self" 1157), (vs "found" 1158)] 0), #[]⟩
noncomputable def o758 : Obj := ⟨(vt "tuple"), none, (.seq #[] 0), #[]⟩
noncomputable def o760 : Obj := ⟨(vt "code"), none, (.fields #[(vs "whole_divisor" 1154), (vs "RowJudge.whole_divisor" 1155), (vs "/claim/cut.py" 1156), (vi 384 0), (vi 2 0), (vi 0 0), (vi 0 0), (vi 3 0), (vr 755), (.bool true), (vi 181 0), (vr 756), .none, (vr 757), (vr 758), (vr 759), (vi 1159 0), (vi 384 0), (vs "/claim/cut.py" 1160)]), #[]⟩
noncomputable def o761 : Obj := ⟨(vt "function"), none, (fu fx27x6.1 "whole_divisor" "RowJudge.whole_divisor" 3 [] .none .none .none (vs "minismt.judges" 1059) none (vr 760) .none 0), #[]⟩
noncomputable def o762 : Obj := ⟨(vt "tuple"), none, (.seq #[] 0), #[]⟩
noncomputable def o764 : Obj := ⟨(vt "tuple"), none, (.seq #[(vs "self" 1165), (vs "clause" 1166), (vs "note" 1167)] 0), #[]⟩
noncomputable def o765 : Obj := ⟨(vt "tuple"), none, (.seq #[] 0), #[]⟩
noncomputable def o767 : Obj := ⟨(vt "code"), none, (.fields #[(vs "divide_fault" 1162), (vs "RowJudge.divide_fault" 1163), (vs "/claim/cut.py" 1164), (vi 387 0), (vi 3 0), (vi 0 0), (vi 0 0), (vi 3 0), (vr 762), (.bool true), (vi 181 0), (vr 763), .none, (vr 764), (vr 765), (vr 766), (vi 1168 0), (vi 387 0), (vs "/claim/cut.py" 1169)]), #[]⟩
noncomputable def o768 : Obj := ⟨(vt "function"), none, (fu fx27x7.1 "divide_fault" "RowJudge.divide_fault" 3 [] .none .none .none (vs "minismt.judges" 1059) none (vr 767) .none 0), #[]⟩
noncomputable def o769 : Obj := ⟨(vt "tuple"), none, (.seq #[] 0), #[]⟩
noncomputable def o771 : Obj := ⟨(vt "tuple"), none, (.seq #[(vs "self" 1174), (vs "clause" 1175), (vs "note" 1176)] 0), #[]⟩
noncomputable def o772 : Obj := ⟨(vt "tuple"), none, (.seq #[] 0), #[]⟩
noncomputable def o774 : Obj := ⟨(vt "code"), none, (.fields #[(vs "cut_fault" 1171), (vs "RowJudge.cut_fault" 1172), (vs "/claim/cut.py" 1173), (vi 390 0), (vi 3 0), (vi 0 0), (vi 0 0), (vi 3 0), (vr 769), (.bool true), (vi 181 0), (vr 770), .none, (vr 771), (vr 772), (vr 773), (vi 1177 0), (vi 390 0), (vs "/claim/cut.py" 1178)]), #[]⟩
noncomputable def o775 : Obj := ⟨(vt "function"), none, (fu fx27x8.1 "cut_fault" "RowJudge.cut_fault" 3 [] .none .none .none (vs "minismt.judges" 1059) none (vr 774) .none 0), #[]⟩
noncomputable def o776 : Obj := ⟨(vt "tuple"), none, (.seq #[(vs "bank" 1180)] 0), #[]⟩
noncomputable def o777 (P : Params) : Obj := ⟨(vt "dict"), none, (.dict #[de P "__module__" 1101 (vs "minismt.judges" 1059), de P "__firstlineno__" 1105 (vi 351 1104), de P "__init__" 1113 (vr 721), de P "linear" 1121 (vr 728), de P "row_of" 1129 (vr 735), de P "normal_row" 1135 (vr 740), de P "sum_of" 1144 (vr 747), de P "farkas_fault" 1153 (vr 754), de P "whole_divisor" 1161 (vr 761), de P "divide_fault" 1170 (vr 768), de P "cut_fault" 1179 (vr 775), de P "__static_attributes__" 1181 (vr 776), de P "__dict__" 1183 (vr 779), de P "__weakref__" 1185 (vr 780), de P "__doc__" 1186 .none] 4), #[]⟩
noncomputable def o778 : Obj := ⟨(vt "type"), none, (.cls ⟨Str.ofString "RowJudge", [(vt "object")], [(vr 778), (vt "object")], 777, Str.ofString "RowJudge", true, [], [], false, none, false⟩), #[none, none, (some (vs "RowJudge" 1094)), (some (vs "RowJudge" 1102)), (some (vb "object.__new__")), (some (.bool true))]⟩
noncomputable def o779 : Obj := ⟨(vt "getset_descriptor"), none, (.fields #[(vs "__dict__" 1182), (vr 778), (vb "function.__dict__"), (vb "function.__dict__#set")]), #[]⟩
noncomputable def o780 : Obj := ⟨(vt "getset_descriptor"), none, (.fields #[(vs "__weakref__" 1184), (vr 778), (vb "ExceptionGroup.__weakref__"), .none]), #[]⟩
noncomputable def o783 : Obj := ⟨(vt "tuple"), none, (.seq #[] 0), #[]⟩
noncomputable def o785 : Obj := ⟨(vt "tuple"), none, (.seq #[(vs "tape" 1194), (vs "wide" 1195), (vs "spot" 1196)] 0), #[]⟩
noncomputable def o786 : Obj := ⟨(vt "tuple"), none, (.seq #[] 0), #[]⟩
noncomputable def o788 : Obj := ⟨(vt "code"), none, (.fields #[(vs "_law_draw" 1191), (vs "_law_draw" 1192), (vs "/claim/cut.py" 1193), (vi 393 0), (vi 2 0), (vi 0 0), (vi 0 0), (vi 3 0), (vr 783), (.bool true), (vi 181 0), (vr 784), .none, (vr 785), (vr 786), (vr 787), (vi 1197 0), (vi 393 0), (vs "/claim/cut.py" 1198)]), #[]⟩
noncomputable def o789 : Obj := ⟨(vt "function"), none, (fu fx29x0.1 "_law_draw" "_law_draw" 3 [] .none .none .none (vs "law_qz0031_04" 1189) none (vr 788) .none 0), #[]⟩
noncomputable def o790 : Obj := ⟨(vt "tuple"), none, (.seq #[] 0), #[]⟩
noncomputable def o792 : Obj := ⟨(vt "tuple"), none, (.seq #[(vs "top" 1203), (vs "bottom" 1204), (vs "prime" 1205)] 0), #[]⟩
noncomputable def o793 : Obj := ⟨(vt "tuple"), none, (.seq #[] 0), #[]⟩
noncomputable def o795 : Obj := ⟨(vt "code"), none, (.fields #[(vs "_law_lowest" 1200), (vs "_law_lowest" 1201), (vs "/claim/cut.py" 1202), (vi 399 0), (vi 2 0), (vi 0 0), (vi 0 0), (vi 3 0), (vr 790), (.bool true), (vi 181 0), (vr 791), .none, (vr 792), (vr 793), (vr 794), (vi 1206 0), (vi 399 0), (vs "/claim/cut.py" 1207)]), #[]⟩
noncomputable def o796 : Obj := ⟨(vt "function"), none, (fu fx30x0.1 "_law_lowest" "_law_lowest" 3 [] .none .none .none (vs "law_qz0031_04" 1189) none (vr 795) .none 0), #[]⟩
noncomputable def o797 : Obj := ⟨(vt "tuple"), none, (.seq #[] 0), #[]⟩
noncomputable def o799 : Obj := ⟨(vt "tuple"), none, (.seq #[(vs "factors" 1212), (vs "limit" 1213), (vs "is_below" 1214), (vs "point" 1215), (vs "top" 1216), (vs "bottom" 1217), (vs "unknown" 1218), (vs "one" 1219), (vs "other" 1220)] 0), #[]⟩
noncomputable def o800 : Obj := ⟨(vt "tuple"), none, (.seq #[] 0), #[]⟩
noncomputable def o802 : Obj := ⟨(vt "code"), none, (.fields #[(vs "_law_says" 1209), (vs "_law_says" 1210), (vs "/claim/cut.py" 1211), (vi 404 0), (vi 4 0), (vi 0 0), (vi 0 0), (vi 3 0), (vr 797), (.bool true), (vi 181 0), (vr 798), .none, (vr 799), (vr 800), (vr 801), (vi 1221 0), (vi 404 0), (vs "/claim/cut.py" 1222)]), #[]⟩
noncomputable def o803 : Obj := ⟨(vt "function"), none, (fu fx31x0.1 "_law_says" "_law_says" 3 [] .none .none .none (vs "law_qz0031_04" 1189) none (vr 802) .none 0), #[]⟩
noncomputable def o804 : Obj := ⟨(vt "tuple"), none, (.seq #[] 0), #[]⟩
noncomputable def o807 : Obj := ⟨(vt "code"), none, (.fields #[(vs "_law_is_due" 1224), (vs "_law_is_due" 1225), (vs "/claim/cut.py" 1226), (vi 410 0), (vi 5 0), (vi 0 0), (vi 0 0), (vi 3 0), (vr 804), (.bool true), (vi 181 0), (vr 805), .none, .none, .none, (vr 806), (vi 1227 0), (vi 410 0), (vs "/claim/cut.py" 1228)]), #[]⟩
noncomputable def o808 : Obj := ⟨(vt "function"), none, (fu fx32x0.1 "_law_is_due" "_law_is_due" 3 [] .none .none .none (vs "law_qz0031_04" 1189) none (vr 807) .none 0), #[]⟩
noncomputable def o809 : Obj := ⟨(vt "tuple"), none, (.seq #[] 0), #[]⟩
noncomputable def o812 : Obj := ⟨(vt "code"), none, (.fields #[(vs "_law_points" 1230), (vs "_law_points" 1231), (vs "/claim/cut.py" 1232), (vi 430 0), (vi 4 0), (vi 0 0), (vi 0 0), (vi 3 0), (vr 809), (.bool true), (vi 181 0), (vr 810), .none, .none, .none, (vr 811), (vi 1233 0), (vi 430 0), (vs "/claim/cut.py" 1234)]), #[]⟩
noncomputable def o813 : Obj := ⟨(vt "function"), none, (fu fx33x0.1 "_law_points" "_law_points" 3 [] .none .none .none (vs "law_qz0031_04" 1189) none (vr 812) .none 0), #[]⟩
noncomputable def o814 : Obj := ⟨(vt "tuple"), none, (.seq #[] 0), #[]⟩
noncomputable def o816 : Obj := ⟨(vt "tuple"), none, (.seq #[(vs "pair" 1239), (vs "factor" 1240)] 0), #[]⟩
noncomputable def o817 : Obj := ⟨(vt "tuple"), none, (.seq #[] 0), #[]⟩
noncomputable def o819 : Obj := ⟨(vt "code"), none, (.fields #[(vs "_law_times" 1236), (vs "_law_times" 1237), (vs "/claim/cut.py" 1238), (vi 452 0), (vi 2 0), (vi 0 0), (vi 0 0), (vi 3 0), (vr 814), (.bool true), (vi 181 0), (vr 815), .none, (vr 816), (vr 817), (vr 818), (vi 1241 0), (vi 452 0), (vs "/claim/cut.py" 1242)]), #[]⟩
noncomputable def o820 : Obj := ⟨(vt "function"), none, (fu fx34x0.1 "_law_times" "_law_times" 3 [] .none .none .none (vs "law_qz0031_04" 1189) none (vr 819) .none 0), #[]⟩
noncomputable def o821 : Obj := ⟨(vt "tuple"), none, (.seq #[] 0), #[]⟩
noncomputable def o824 : Obj := ⟨(vt "code"), none, (.fields #[(vs "_law_row_right" 1244), (vs "_law_row_right" 1245), (vs "/claim/cut.py" 1246), (vi 454 0), (vi 3 0), (vi 0 0), (vi 0 0), (vi 3 0), (vr 821), (.bool true), (vi 181 0), (vr 822), .none, .none, .none, (vr 823), (vi 1247 0), (vi 454 0), (vs "/claim/cut.py" 1248)]), #[]⟩
noncomputable def o825 : Obj := ⟨(vt "function"), none, (fu fx35x0.1 "_law_row_right" "_law_row_right" 3 [] .none .none .none (vs "law_qz0031_04" 1189) none (vr 824) .none 0), #[]⟩
noncomputable def o826 : Obj := ⟨(vt "tuple"), none, (.seq #[] 0), #[]⟩
noncomputable def o828 : Obj := ⟨(vt "tuple"), none, (.seq #[(vs "script" 1253), (vs "tape" 1254), (vs "bank" 1255), (vs "kinds" 1256), (vs "k" 1257), (vs "kind" 1258), (vs "judge" 1259), (vs "lap" 1260)] 0), #[]⟩
noncomputable def o829 : Obj := ⟨(vt "tuple"), none, (.seq #[] 0), #[]⟩
noncomputable def o831 : Obj := ⟨(vt "code"), none, (.fields #[(vs "law" 1250), (vs "law" 1251), (vs "/claim/cut.py" 1252), (vi 472 0), (vi 1 0), (vi 0 0), (vi 0 0), (vi 3 0), (vr 826), (.bool true), (vi 181 0), (vr 827), .none, (vr 828), (vr 829), (vr 830), (vi 1261 0), (vi 472 0), (vs "/claim/cut.py" 1262)]), #[]⟩
noncomputable def o832 : Obj := ⟨(vt "function"), none, (fu fx36x0.1 "law" "law" 3 [] .none .none .none (vs "law_qz0031_04" 1189) none (vr 831) .none 0), #[]⟩
noncomputable def L1 (P : Params) : List Obj := [⟨(vt "dict"), none, (.dict #[de P "__name__" 1 (vs "builtins" 160), de P "__doc__" 2 (vb "builtins.__doc__:str#opaque"), de P "__package__" 3 (vb "builtins.__package__:str#opaque"), de P "__loader__" 4 (vb "builtins.__loader__:shared#opaque"), de P "__spec__" 5 (vb "builtins.__spec__#opaque"), de P "__build_class__" 6 (vb "__build_class__"), de P "__import__" 7 (vb "__import__"), de P "abs" 8 (vb "abs"), de P "all" 9 (vb "all"), de P "any" 10 (vb "any"), de P "ascii" 11 (vb "ascii"), de P "bin" 12 (vb "bin"), de P "breakpoint" 13 (vb "breakpoint"), de P "callable" 14 (vb "callable"), de P "chr" 15 (vb "chr"), de P "compile" 16 (vb "compile"), de P "delattr" 17 (vb "delattr"), de P "dir" 18 (vb "dir"), de P "divmod" 19 (vb "divmod"), de P "eval" 20 (vb "eval"), de P "exec" 21 (vb "exec"), de P "format" 22 (vb "format"), de P "getattr" 23 (vb "getattr"), de P "globals" 24 (vb "globals"), de P "hasattr" 25 (vb "hasattr"), de P "hash" 26 (vb "hash"), de P "hex" 27 (vb "hex"), de P "id" 28 (vb "id"), de P "input" 29 (vb "input"), de P "isinstance" 30 (vb "isinstance"), de P "issubclass" 31 (vb "issubclass"), de P "iter" 32 (vb "iter"), de P "aiter" 33 (vb "aiter"), de P "len" 34 (vb "len"), de P "locals" 35 (vb "locals"), de P "max" 36 (vb "max"), de P "min" 37 (vb "min"), de P "next" 38 (vb "next"), de P "anext" 39 (vb "anext"), de P "oct" 40 (vb "oct"), de P "ord" 41 (vb "ord"), de P "pow" 42 (vb "pow"), de P "print" 43 (vb "print"), de P "repr" 44 (vb "repr"), de P "round" 45 (vb "round"), de P "setattr" 46 (vb "setattr"), de P "sorted" 47 (vb "sorted"), de P "sum" 48 (vb "sum"), de P "vars" 49 (vb "vars"), de P "None" 50 .none, de P "Ellipsis" 51 .ellipsis, de P "NotImplemented" 52 .notImplemented, de P "False" 53 (.bool false), de P "True" 54 (.bool true), de P "bool" 55 (vt "bool"), de P "memoryview" 56 (vt "memoryview"), de P "bytearray" 57 (vt "bytearray"), de P "bytes" 58 (vt "bytes"), de P "classmethod" 59 (vt "classmethod"), de P "complex" 60 (vt "complex"), de P "dict" 61 (vt "dict"), de P "enumerate" 62 (vt "enumerate"), de P "filter" 63 (vt "filter"), de P "float" 64 (vt "float"), de P "frozenset" 65 (vt "frozenset"), de P "property" 66 (vt "property"), de P "int" 67 (vt "int"), de P "list" 68 (vt "list"), de P "map" 69 (vt "map"), de P "object" 70 (vt "object"), de P "range" 71 (vt "range"), de P "reversed" 72 (vt "reversed"), de P "set" 73 (vt "set"), de P "slice" 74 (vt "slice"), de P "staticmethod" 75 (vt "staticmethod"), de P "str" 76 (vt "str"), de P "super" 77 (vt "super"), de P "tuple" 78 (vt "tuple"), de P "type" 79 (vt "type"), de P "zip" 80 (vt "zip"), de P "__debug__" 81 (.bool true), de P "BaseException" 82 (vt "BaseException"), de P "BaseExceptionGroup" 83 (vt "BaseExceptionGroup"), de P "Exception" 84 (vt "Exception"), de P "GeneratorExit" 85 (vt "GeneratorExit"), de P "KeyboardInterrupt" 86 (vt "KeyboardInterrupt"), de P "SystemExit" 87 (vt "SystemExit"), de P "ArithmeticError" 88 (vt "ArithmeticError"), de P "AssertionError" 89 (vt "AssertionError"), de P "AttributeError" 90 (vt "AttributeError"), de P "BufferError" 91 (vt "BufferError"), de P "EOFError" 92 (vt "EOFError"), de P "ImportError" 93 (vt "ImportError"), de P "LookupError" 94 (vt "LookupError"), de P "MemoryError" 95 (vt "MemoryError"), de P "NameError" 96 (vt "NameError"), de P "OSError" 97 (vt "OSError"), de P "ReferenceError" 98 (vt "ReferenceError"), de P "RuntimeError" 99 (vt "RuntimeError"), de P "StopAsyncIteration" 100 (vt "StopAsyncIteration"), de P "StopIteration" 101 (vt "StopIteration"), de P "SyntaxError" 102 (vt "SyntaxError"), de P "SystemError" 103 (vt "SystemError"), de P "TypeError" 104 (vt "TypeError"), de P "ValueError" 105 (vt "ValueError"), de P "Warning" 106 (vt "Warning"), de P "FloatingPointError" 107 (vt "FloatingPointError"), de P "OverflowError" 108 (vt "OverflowError"), de P "ZeroDivisionError" 109 (vt "ZeroDivisionError"), de P "BytesWarning" 110 (vt "BytesWarning"), de P "DeprecationWarning" 111 (vt "DeprecationWarning"), de P "EncodingWarning" 112 (vt "EncodingWarning"), de P "FutureWarning" 113 (vt "FutureWarning"), de P "ImportWarning" 114 (vt "ImportWarning"), de P "PendingDeprecationWarning" 115 (vt "PendingDeprecationWarning"), de P "ResourceWarning" 116 (vt "ResourceWarning"), de P "RuntimeWarning" 117 (vt "RuntimeWarning"), de P "SyntaxWarning" 118 (vt "SyntaxWarning"), de P "UnicodeWarning" 119 (vt "UnicodeWarning"), de P "UserWarning" 120 (vt "UserWarning"), de P "BlockingIOError" 121 (vt "BlockingIOError"), de P "ChildProcessError" 122 (vt "ChildProcessError"), de P "ConnectionError" 123 (vt "ConnectionError"), de P "FileExistsError" 124 (vt "FileExistsError"), de P "FileNotFoundError" 125 (vt "FileNotFoundError"), de P "InterruptedError" 126 (vt "InterruptedError"), de P "IsADirectoryError" 127 (vt "IsADirectoryError"), de P "NotADirectoryError" 128 (vt "NotADirectoryError"), de P "PermissionError" 129 (vt "PermissionError"), de P "ProcessLookupError" 130 (vt "ProcessLookupError"), de P "TimeoutError" 131 (vt "TimeoutError"), de P "IndentationError" 132 (vt "IndentationError"), de P "_IncompleteInputError" 133 (vt "_IncompleteInputError"), de P "IndexError" 134 (vt "IndexError"), de P "KeyError" 135 (vt "KeyError"), de P "ModuleNotFoundError" 136 (vt "ModuleNotFoundError"), de P "NotImplementedError" 137 (vt "NotImplementedError"), de P "PythonFinalizationError" 138 (vt "PythonFinalizationError"), de P "RecursionError" 139 (vt "RecursionError"), de P "UnboundLocalError" 140 (vt "UnboundLocalError"), de P "UnicodeError" 141 (vt "UnicodeError"), de P "BrokenPipeError" 142 (vt "BrokenPipeError"), de P "ConnectionAbortedError" 143 (vt "ConnectionAbortedError"), de P "ConnectionRefusedError" 144 (vt "ConnectionRefusedError"), de P "ConnectionResetError" 145 (vt "ConnectionResetError"), de P "TabError" 146 (vt "TabError"), de P "UnicodeDecodeError" 147 (vt "UnicodeDecodeError"), de P "UnicodeEncodeError" 148 (vt "UnicodeEncodeError"), de P "UnicodeTranslateError" 149 (vt "UnicodeTranslateError"), de P "ExceptionGroup" 150 (vt "ExceptionGroup"), de P "EnvironmentError" 151 (vt "OSError"), de P "IOError" 152 (vt "OSError"), de P "open" 153 (vb "open"), de P "quit" 154 (vb "builtins.quit#opaque"), de P "exit" 155 (vb "builtins.exit#opaque"), de P "copyright" 156 (vb "builtins.copyright#opaque"), de P "credits" 157 (vb "builtins.credits#opaque"), de P "license" 158 (vb "builtins.license#opaque"), de P "help" 159 (vb "builtins.help#opaque")] 159), #[]⟩, ⟨(vt "dict"), none, (.dict #[de P "builtins" 162 (vr 4), de P "__main__" 163 (vr 5)] 2), #[]⟩, ⟨.none, none, (.dict #[] 0), #[]⟩, ⟨(vt "dict"), none, (.dict #[de P "__name__" 165 (vs "__main__" 164), de P "__doc__" 166 .none, de P "__package__" 167 .none, de P "__loader__" 168 (vb "__main__.__loader__#opaque"), de P "__spec__" 169 .none, de P "__annotations__" 170 (vr 6), de P "__builtins__" 171 (vr 4), de P "__file__" 173 (vs "/claim/cut.py" 172), de P "__cached__" 174 .none] 9), #[]⟩, ⟨(vt "module"), some 0, .plain, #[]⟩, ⟨(vt "module"), some 3, .plain, #[]⟩, ⟨(vt "dict"), none, (.dict #[] 0), #[]⟩, ⟨(vt "tuple"), none, (.seq #[] 0), #[]⟩, ⟨.none, none, (.fields #[]), #[]⟩, ⟨(vt "code"), none, (.fields #[(vs "<module>" 176), (vs "<module>" 177), (vs "/claim/cut.py" 178), (vi 1 0), (vi 0 0), (vi 0 0), (vi 0 0), (vi 0 0), (vr 7), (.bool false), (vi 175 0), (vr 8), .none, .none, .none, .none, (vi 179 0), (vi 1 0), (vs "/claim/cut.py" 180)]), #[]⟩, ⟨(vt "frame"), none, .plain, #[(some (vr 9)), (some (vr 3)), (some (vr 3)), none, (some (vs "__main__" 164)), none, (some (vr 0))]⟩, ⟨(vt "tuple"), none, (.seq #[] 0), #[]⟩, ⟨.none, none, (.fields #[]), #[]⟩, ⟨(vt "code"), none, (.fields #[(vs "<module>" 182), (vs "<module>" 183), (vs "/claim/cut.py" 184), (vi 1 0), (vi 0 0), (vi 0 0), (vi 0 0), (vi 0 0), (vr 11), (.bool false), (vi 181 0), (vr 12), .none, .none, .none, .none, (vi 185 0), (vi 1 0), (vs "/claim/cut.py" 186)]), #[]⟩, ⟨(vt "frame"), none, .plain, #[(some (vr 13)), (some (vr 3)), (some (vr 3)), none, (some (vs "__main__" 164)), none, (some (vr 0))]⟩]
noncomputable def L2 (P : Params) : List Obj := put 0 [(2, o2 P), (3, ⟨(vt "dict"), none, (.dict #[de P "__name__" 165 (vs "minismt.errors" 194), de P "__doc__" 166 .none, de P "__package__" 167 .none, de P "__loader__" 168 (vb "__main__.__loader__#opaque"), de P "__spec__" 169 .none, de P "__annotations__" 170 (vr 6), de P "__builtins__" 171 (vr 4), de P "__file__" 173 (vs "/claim/cut.py" 172), de P "__cached__" 174 .none, de P "_wall" 193 (vr 21), de P "SmtError" 233 (vr 47), de P "SortFault" 256 (vr 67)] 12), #[]⟩), (12, ⟨.none, none, (.fields #[(vi 1 0), (vi 0 0), (vr 20), (vi 5 0), (vi 0 0), (vr 28), (vi 13 0), (vi 0 0), (vr 56)]), #[]⟩)] (L1 P) ++ [o15, ⟨.none, none, (.fields #[]), #[]⟩, o17, o18, ⟨.none, none, (fu fx0x0.1 "_wall" "_wall" 0 [] .none .none .none .none none .none .none 0), #[]⟩, o20, o21, o22, ⟨(vt "builtin_function_or_method"), none, (.fields #[(vb "type.__prepare__"), (vt "type")]), #[]⟩, ⟨(vt "dict"), none, (.dict #[de P "__module__" 203 (vs "minismt.errors" 194), de P "__qualname__" 205 (vs "SmtError" 204), de P "__firstlineno__" 207 (vi 5 206), de P "__init__" 216 (vr 37), de P "told" 223 (vr 44), de P "__static_attributes__" 225 (vr 45), de P "__classcell__" 226 (vr 25)] 7), #[]⟩, o25, ⟨(vt "tuple"), none, (.seq #[] 0), #[]⟩, ⟨.none, none, (.fields #[(vi 7 0), (vi 4 0), (vr 36), (vi 11 0), (vi 4 0), (vr 43)]), #[]⟩, ⟨(vt "code"), none, (.fields #[(vs "SmtError" 198), (vs "SmtError" 199), (vs "/claim/cut.py" 200), (vi 5 0), (vi 0 0), (vi 0 0), (vi 0 0), (vi 0 0), (vr 26), (.bool false), (vi 181 0), (vr 27), .none, .none, .none, .none, (vi 201 0), (vi 5 0), (vs "/claim/cut.py" 202)]), #[]⟩, ⟨(vt "frame"), none, .plain, #[(some (vr 28)), (some (vr 3)), (some (vr 24)), none, (some (vs "minismt.errors" 194)), none, (some (vr 0))]⟩, o30, o31, ⟨.none, none, (.fields #[]), #[]⟩, o33, o34, ⟨.none, none, (fu fx2x0.1 "__init__" "SmtError.__init__" 0 [] .none .none .none .none none .none .none 0), #[]⟩, o36, o37, o38, ⟨.none, none, (.fields #[]), #[]⟩, o40, o41, ⟨.none, none, (fu fx2x1.1 "told" "SmtError.told" 0 [] .none .none .none .none none .none .none 0), #[]⟩, o43, o44, o45, o46 P, ⟨(vt "type"), none, (.cls ⟨Str.ofString "SmtError", [(vt "Exception")], [(vr 47), (vt "Exception"), (vt "BaseException"), (vt "object")], 46, Str.ofString "SmtError", true, [], [(vr 67)], false, none, false⟩), #[(some (vr 22)), none, (some (vs "SmtError" 196)), (some (vs "SmtError" 204)), (some (vb "Exception.__new__")), (some (.bool true))]⟩, o48, ⟨(vt "super"), none, (.fields #[(vr 47), (vr 47), (vr 47)]), #[]⟩, ⟨(vt "builtin_function_or_method"), none, (.fields #[(vb "object.__init_subclass__"), (vr 47)]), #[]⟩, o51, ⟨(vt "builtin_function_or_method"), none, (.fields #[(vb "type.__prepare__"), (vt "type")]), #[]⟩, ⟨(vt "dict"), none, (.dict #[de P "__module__" 241 (vs "minismt.errors" 194), de P "__qualname__" 243 (vs "SortFault" 242), de P "__firstlineno__" 245 (vi 13 244), de P "told" 252 (vr 64), de P "__static_attributes__" 253 (vr 65)] 5), #[]⟩, ⟨(vt "tuple"), none, (.seq #[] 0), #[]⟩, ⟨.none, none, (.fields #[(vi 15 0), (vi 4 0), (vr 63)]), #[]⟩, ⟨(vt "code"), none, (.fields #[(vs "SortFault" 236), (vs "SortFault" 237), (vs "/claim/cut.py" 238), (vi 13 0), (vi 0 0), (vi 0 0), (vi 0 0), (vi 0 0), (vr 54), (.bool false), (vi 181 0), (vr 55), .none, .none, .none, .none, (vi 239 0), (vi 13 0), (vs "/claim/cut.py" 240)]), #[]⟩, ⟨(vt "frame"), none, .plain, #[(some (vr 56)), (some (vr 3)), (some (vr 53)), none, (some (vs "minismt.errors" 194)), none, (some (vr 0))]⟩, o58, ⟨.none, none, (.fields #[]), #[]⟩, o60, o61, ⟨.none, none, (fu fx3x0.1 "told" "SortFault.told" 0 [] .none .none .none .none none .none .none 0), #[]⟩, o63, o64, o65, o66 P, o67, ⟨(vt "super"), none, (.fields #[(vr 67), (vr 67), (vr 67)]), #[]⟩, ⟨(vt "builtin_function_or_method"), none, (.fields #[(vb "object.__init_subclass__"), (vr 67)]), #[]⟩]
noncomputable def L3 (P : Params) : List Obj := put 0 [(3, ⟨(vt "dict"), none, (.dict #[de P "__name__" 165 (vs "minismt.terms" 354), de P "__doc__" 166 .none, de P "__package__" 167 .none, de P "__loader__" 168 (vb "__main__.__loader__#opaque"), de P "__spec__" 169 .none, de P "__annotations__" 170 (vr 6), de P "__builtins__" 171 (vr 4), de P "__file__" 173 (vs "/claim/cut.py" 172), de P "__cached__" 174 .none, de P "_wall" 193 (vr 21), de P "SmtError" 233 (vr 47), de P "SortFault" 256 (vr 67), de P "LimitFault" 279 (vr 86), de P "gcd_of" 289 (vr 95), de P "gcd_all" 298 (vr 102), de P "lcm_of" 306 (vr 109), de P "ratio" 315 (vr 116), de P "mul" 323 (vr 123), de P "floor_of" 330 (vr 130), de P "ceil_of" 337 (vr 137), de P "is_whole" 344 (vr 144), de P "common_bottom" 353 (vr 151), de P "BOOL" 357 (vi 0 356), de P "INT" 359 (vi 1 358), de P "REAL" 361 (vi 2 360), de P "MOST_BITS" 365 (vi 65536 364)] 26), #[]⟩), (12, ⟨.none, none, (.fields #[(vi 1 0), (vi 0 0), (vr 20), (vi 5 0), (vi 0 0), (vr 28), (vi 13 0), (vi 0 0), (vr 56), (vi 17 0), (vi 0 0), (vr 75), (vi 22 0), (vi 0 0), (vr 94), (vi 27 0), (vi 0 0), (vr 101), (vi 34 0), (vi 0 0), (vr 108), (vi 36 0), (vi 0 0), (vr 115), (vi 43 0), (vi 0 0), (vr 122), (vi 47 0), (vi 0 0), (vr 129), (vi 49 0), (vi 0 0), (vr 136), (vi 51 0), (vi 0 0), (vr 143), (vi 53 0), (vi 0 0), (vr 150)]), #[]⟩), (47, o47)] (L2 P) ++ [o70, ⟨(vt "builtin_function_or_method"), none, (.fields #[(vb "type.__prepare__"), (vt "type")]), #[]⟩, ⟨(vt "dict"), none, (.dict #[de P "__module__" 264 (vs "minismt.errors" 194), de P "__qualname__" 266 (vs "LimitFault" 265), de P "__firstlineno__" 268 (vi 17 267), de P "told" 275 (vr 83), de P "__static_attributes__" 276 (vr 84)] 5), #[]⟩, ⟨(vt "tuple"), none, (.seq #[] 0), #[]⟩, ⟨.none, none, (.fields #[(vi 19 0), (vi 4 0), (vr 82)]), #[]⟩, ⟨(vt "code"), none, (.fields #[(vs "LimitFault" 259), (vs "LimitFault" 260), (vs "/claim/cut.py" 261), (vi 17 0), (vi 0 0), (vi 0 0), (vi 0 0), (vi 0 0), (vr 73), (.bool false), (vi 181 0), (vr 74), .none, .none, .none, .none, (vi 262 0), (vi 17 0), (vs "/claim/cut.py" 263)]), #[]⟩, ⟨(vt "frame"), none, .plain, #[(some (vr 75)), (some (vr 3)), (some (vr 72)), none, (some (vs "minismt.errors" 194)), none, (some (vr 0))]⟩, o77, ⟨.none, none, (.fields #[]), #[]⟩, o79, o80, ⟨.none, none, (fu fx4x0.1 "told" "LimitFault.told" 0 [] .none .none .none .none none .none .none 0), #[]⟩, o82, o83, o84, o85 P, o86, ⟨(vt "super"), none, (.fields #[(vr 86), (vr 86), (vr 86)]), #[]⟩, ⟨(vt "builtin_function_or_method"), none, (.fields #[(vb "object.__init_subclass__"), (vr 86)]), #[]⟩, o89, ⟨.none, none, (.fields #[]), #[]⟩, o91, o92, ⟨.none, none, (fu fx6x0.1 "gcd_of" "gcd_of" 0 [] .none .none .none .none none .none .none 0), #[]⟩, o94, o95, o96, ⟨.none, none, (.fields #[]), #[]⟩, o98, o99, ⟨.none, none, (fu fx7x0.1 "gcd_all" "gcd_all" 0 [] .none .none .none .none none .none .none 0), #[]⟩, o101, o102, o103, ⟨.none, none, (.fields #[]), #[]⟩, o105, o106, ⟨.none, none, (fu fx8x0.1 "lcm_of" "lcm_of" 0 [] .none .none .none .none none .none .none 0), #[]⟩, o108, o109, o110, ⟨.none, none, (.fields #[]), #[]⟩, o112, o113, ⟨.none, none, (fu fx9x0.1 "ratio" "ratio" 0 [] .none .none .none .none none .none .none 0), #[]⟩, o115, o116, o117, ⟨.none, none, (.fields #[]), #[]⟩, o119, o120, ⟨.none, none, (fu fx10x0.1 "mul" "mul" 0 [] .none .none .none .none none .none .none 0), #[]⟩, o122, o123, o124, ⟨.none, none, (.fields #[]), #[]⟩, o126, o127, ⟨.none, none, (fu fx11x0.1 "floor_of" "floor_of" 0 [] .none .none .none .none none .none .none 0), #[]⟩, o129, o130, o131, ⟨.none, none, (.fields #[]), #[]⟩, o133, o134, ⟨.none, none, (fu fx12x0.1 "ceil_of" "ceil_of" 0 [] .none .none .none .none none .none .none 0), #[]⟩, o136, o137, o138, ⟨.none, none, (.fields #[]), #[]⟩, o140, o141, ⟨.none, none, (fu fx13x0.1 "is_whole" "is_whole" 0 [] .none .none .none .none none .none .none 0), #[]⟩, o143, o144, o145, ⟨.none, none, (.fields #[]), #[]⟩, o147, o148, ⟨.none, none, (fu fx14x0.1 "common_bottom" "common_bottom" 0 [] .none .none .none .none none .none .none 0), #[]⟩, o150, o151]
noncomputable def L4 (P : Params) : List Obj := put 0 [(3, ⟨(vt "dict"), none, (.dict #[de P "__name__" 165 (vs "minismt.terms" 354), de P "__doc__" 166 .none, de P "__package__" 167 .none, de P "__loader__" 168 (vb "__main__.__loader__#opaque"), de P "__spec__" 169 .none, de P "__annotations__" 170 (vr 6), de P "__builtins__" 171 (vr 4), de P "__file__" 173 (vs "/claim/cut.py" 172), de P "__cached__" 174 .none, de P "_wall" 193 (vr 21), de P "SmtError" 233 (vr 47), de P "SortFault" 256 (vr 67), de P "LimitFault" 279 (vr 86), de P "gcd_of" 289 (vr 95), de P "gcd_all" 298 (vr 102), de P "lcm_of" 306 (vr 109), de P "ratio" 315 (vr 116), de P "mul" 323 (vr 123), de P "floor_of" 330 (vr 130), de P "ceil_of" 337 (vr 137), de P "is_whole" 344 (vr 144), de P "common_bottom" 353 (vr 151), de P "BOOL" 357 (vi 0 356), de P "INT" 359 (vi 1 358), de P "REAL" 361 (vi 2 360), de P "MOST_BITS" 365 (vi 65536 364), de P "Bank" 649 (vr 364)] 27), #[]⟩), (12, ⟨.none, none, (.fields #[(vi 1 0), (vi 0 0), (vr 20), (vi 5 0), (vi 0 0), (vr 28), (vi 13 0), (vi 0 0), (vr 56), (vi 17 0), (vi 0 0), (vr 75), (vi 22 0), (vi 0 0), (vr 94), (vi 27 0), (vi 0 0), (vr 101), (vi 34 0), (vi 0 0), (vr 108), (vi 36 0), (vi 0 0), (vr 115), (vi 43 0), (vi 0 0), (vr 122), (vi 47 0), (vi 0 0), (vr 129), (vi 49 0), (vi 0 0), (vr 136), (vi 51 0), (vi 0 0), (vr 143), (vi 53 0), (vi 0 0), (vr 150), (vi 63 0), (vi 0 0), (vr 157)]), #[]⟩)] (L3 P) ++ [⟨(vt "tuple"), none, (.seq #[] 0), #[]⟩, ⟨(vt "builtin_function_or_method"), none, (.fields #[(vb "type.__prepare__"), (vt "type")]), #[]⟩, ⟨(vt "dict"), none, (.dict #[de P "__module__" 373 (vs "minismt.terms" 354), de P "__qualname__" 375 (vs "Bank" 374), de P "__firstlineno__" 377 (vi 63 376), de P "__init__" 384 (vr 165), de P "sort_name" 392 (vr 172), de P "declare_sort" 400 (vr 179), de P "width_of" 408 (vr 186), de P "is_number_sort" 416 (vr 193), de P "is_free_sort" 424 (vr 200), de P "declare_fun" 434 (vr 207), de P "fresh_fun" 444 (vr 214), de P "fresh_const" 453 (vr 221), de P "fun_name" 461 (vr 228), de P "fun_arg_sorts" 469 (vr 235), de P "fun_result" 477 (vr 242), de P "fun_count" 484 (vr 249), de P "op" 492 (vr 256), de P "args" 500 (vr 263), de P "sort" 508 (vr 270), de P "data" 516 (vr 277), de P "width" 524 (vr 284), de P "size" 531 (vr 291), de P "make" 544 (vr 298), de P "find_made" 555 (vr 305), de P "is_value" 563 (vr 312), de P "want" 573 (vr 319), de P "want_all" 583 (vr 326), de P "true_term" 590 (vr 333), de P "false_term" 597 (vr 340), de P "bool_term" 605 (vr 347), de P "parts" 613 (vr 354), de P "parts_of_all" 628 (vr 361), de P "__static_attributes__" 642 (vr 362)] 33), #[]⟩, ⟨(vt "tuple"), none, (.seq #[] 0), #[]⟩, ⟨.none, none, (.fields #[(vi 65 0), (vi 4 0), (vr 164), (vi 80 0), (vi 4 0), (vr 171), (vi 83 0), (vi 4 0), (vr 178), (vi 86 0), (vi 4 0), (vr 185), (vi 89 0), (vi 4 0), (vr 192), (vi 92 0), (vi 4 0), (vr 199), (vi 95 0), (vi 4 0), (vr 206), (vi 101 0), (vi 4 0), (vr 213), (vi 104 0), (vi 4 0), (vr 220), (vi 107 0), (vi 4 0), (vr 227), (vi 110 0), (vi 4 0), (vr 234), (vi 113 0), (vi 4 0), (vr 241), (vi 116 0), (vi 4 0), (vr 248), (vi 119 0), (vi 4 0), (vr 255), (vi 122 0), (vi 4 0), (vr 262), (vi 125 0), (vi 4 0), (vr 269), (vi 128 0), (vi 4 0), (vr 276), (vi 131 0), (vi 4 0), (vr 283), (vi 134 0), (vi 4 0), (vr 290), (vi 137 0), (vi 4 0), (vr 297), (vi 149 0), (vi 4 0), (vr 304), (vi 152 0), (vi 4 0), (vr 311), (vi 155 0), (vi 4 0), (vr 318), (vi 159 0), (vi 4 0), (vr 325), (vi 162 0), (vi 4 0), (vr 332), (vi 165 0), (vi 4 0), (vr 339), (vi 168 0), (vi 4 0), (vr 346), (vi 171 0), (vi 4 0), (vr 353), (vi 174 0), (vi 4 0), (vr 360)]), #[]⟩, ⟨(vt "code"), none, (.fields #[(vs "Bank" 368), (vs "Bank" 369), (vs "/claim/cut.py" 370), (vi 63 0), (vi 0 0), (vi 0 0), (vi 0 0), (vi 0 0), (vr 155), (.bool false), (vi 181 0), (vr 156), .none, .none, .none, .none, (vi 371 0), (vi 63 0), (vs "/claim/cut.py" 372)]), #[]⟩, ⟨(vt "frame"), none, .plain, #[(some (vr 157)), (some (vr 3)), (some (vr 154)), none, (some (vs "minismt.terms" 354)), none, (some (vr 0))]⟩, o159, ⟨.none, none, (.fields #[]), #[]⟩, o161, o162, ⟨.none, none, (fu fx20x0.1 "__init__" "Bank.__init__" 0 [] .none .none .none .none none .none .none 0), #[]⟩, o164, o165, o166, ⟨.none, none, (.fields #[]), #[]⟩, o168, o169, ⟨.none, none, (fu fx20x1.1 "sort_name" "Bank.sort_name" 0 [] .none .none .none .none none .none .none 0), #[]⟩, o171, o172, o173, ⟨.none, none, (.fields #[]), #[]⟩, o175, o176, ⟨.none, none, (fu fx20x2.1 "declare_sort" "Bank.declare_sort" 0 [] .none .none .none .none none .none .none 0), #[]⟩, o178, o179, o180, ⟨.none, none, (.fields #[]), #[]⟩, o182, o183, ⟨.none, none, (fu fx20x3.1 "width_of" "Bank.width_of" 0 [] .none .none .none .none none .none .none 0), #[]⟩, o185, o186, o187, ⟨.none, none, (.fields #[]), #[]⟩, o189, o190, ⟨.none, none, (fu fx20x4.1 "is_number_sort" "Bank.is_number_sort" 0 [] .none .none .none .none none .none .none 0), #[]⟩, o192, o193, o194, ⟨.none, none, (.fields #[]), #[]⟩, o196, o197, ⟨.none, none, (fu fx20x5.1 "is_free_sort" "Bank.is_free_sort" 0 [] .none .none .none .none none .none .none 0), #[]⟩, o199, o200, o201, ⟨.none, none, (.fields #[]), #[]⟩, o203, o204, ⟨.none, none, (fu fx20x6.1 "declare_fun" "Bank.declare_fun" 0 [] .none .none .none .none none .none .none 0), #[]⟩, o206, o207, o208, ⟨.none, none, (.fields #[]), #[]⟩, o210, o211, ⟨.none, none, (fu fx20x7.1 "fresh_fun" "Bank.fresh_fun" 0 [] .none .none .none .none none .none .none 0), #[]⟩, o213, o214, o215, ⟨.none, none, (.fields #[]), #[]⟩, o217, o218, ⟨.none, none, (fu fx20x8.1 "fresh_const" "Bank.fresh_const" 0 [] .none .none .none .none none .none .none 0), #[]⟩, o220, o221, o222, ⟨.none, none, (.fields #[]), #[]⟩, o224, o225, ⟨.none, none, (fu fx20x9.1 "fun_name" "Bank.fun_name" 0 [] .none .none .none .none none .none .none 0), #[]⟩, o227, o228, o229, ⟨.none, none, (.fields #[]), #[]⟩, o231, o232, ⟨.none, none, (fu fx20x10.1 "fun_arg_sorts" "Bank.fun_arg_sorts" 0 [] .none .none .none .none none .none .none 0), #[]⟩, o234, o235, o236, ⟨.none, none, (.fields #[]), #[]⟩, o238, o239, ⟨.none, none, (fu fx20x11.1 "fun_result" "Bank.fun_result" 0 [] .none .none .none .none none .none .none 0), #[]⟩, o241, o242, o243, ⟨.none, none, (.fields #[]), #[]⟩, o245, o246, ⟨.none, none, (fu fx20x12.1 "fun_count" "Bank.fun_count" 0 [] .none .none .none .none none .none .none 0), #[]⟩, o248, o249, o250, ⟨.none, none, (.fields #[]), #[]⟩, o252, o253, ⟨.none, none, (fu fx20x13.1 "op" "Bank.op" 0 [] .none .none .none .none none .none .none 0), #[]⟩, o255, o256, o257, ⟨.none, none, (.fields #[]), #[]⟩, o259, o260, ⟨.none, none, (fu fx20x14.1 "args" "Bank.args" 0 [] .none .none .none .none none .none .none 0), #[]⟩, o262, o263, o264, ⟨.none, none, (.fields #[]), #[]⟩, o266, o267, ⟨.none, none, (fu fx20x15.1 "sort" "Bank.sort" 0 [] .none .none .none .none none .none .none 0), #[]⟩, o269, o270, o271, ⟨.none, none, (.fields #[]), #[]⟩, o273, o274, ⟨.none, none, (fu fx20x16.1 "data" "Bank.data" 0 [] .none .none .none .none none .none .none 0), #[]⟩, o276, o277, o278, ⟨.none, none, (.fields #[]), #[]⟩, o280, o281, ⟨.none, none, (fu fx20x17.1 "width" "Bank.width" 0 [] .none .none .none .none none .none .none 0), #[]⟩, o283, o284, o285, ⟨.none, none, (.fields #[]), #[]⟩, o287, o288, ⟨.none, none, (fu fx20x18.1 "size" "Bank.size" 0 [] .none .none .none .none none .none .none 0), #[]⟩, o290, o291, o292, ⟨.none, none, (.fields #[]), #[]⟩, o294, o295, ⟨.none, none, (fu fx20x19.1 "make" "Bank.make" 0 [] .none .none .none .none none .none .none 0), #[]⟩, o297, o298, o299, ⟨.none, none, (.fields #[]), #[]⟩, o301, o302, ⟨.none, none, (fu fx20x20.1 "find_made" "Bank.find_made" 0 [] .none .none .none .none none .none .none 0), #[]⟩, o304, o305, o306, ⟨.none, none, (.fields #[]), #[]⟩, o308, o309, ⟨.none, none, (fu fx20x21.1 "is_value" "Bank.is_value" 0 [] .none .none .none .none none .none .none 0), #[]⟩, o311, o312, o313, ⟨.none, none, (.fields #[]), #[]⟩, o315, o316, ⟨.none, none, (fu fx20x22.1 "want" "Bank.want" 0 [] .none .none .none .none none .none .none 0), #[]⟩, o318, o319, o320, ⟨.none, none, (.fields #[]), #[]⟩, o322, o323, ⟨.none, none, (fu fx20x23.1 "want_all" "Bank.want_all" 0 [] .none .none .none .none none .none .none 0), #[]⟩, o325, o326, o327, ⟨.none, none, (.fields #[]), #[]⟩, o329, o330, ⟨.none, none, (fu fx20x24.1 "true_term" "Bank.true_term" 0 [] .none .none .none .none none .none .none 0), #[]⟩, o332, o333, o334, ⟨.none, none, (.fields #[]), #[]⟩, o336, o337, ⟨.none, none, (fu fx20x25.1 "false_term" "Bank.false_term" 0 [] .none .none .none .none none .none .none 0), #[]⟩, o339, o340, o341, ⟨.none, none, (.fields #[]), #[]⟩, o343, o344, ⟨.none, none, (fu fx20x26.1 "bool_term" "Bank.bool_term" 0 [] .none .none .none .none none .none .none 0), #[]⟩, o346, o347, o348, ⟨.none, none, (.fields #[]), #[]⟩, o350, o351, ⟨.none, none, (fu fx20x27.1 "parts" "Bank.parts" 0 [] .none .none .none .none none .none .none 0), #[]⟩, o353, o354, o355, ⟨.none, none, (.fields #[]), #[]⟩, o357, o358, ⟨.none, none, (fu fx20x28.1 "parts_of_all" "Bank.parts_of_all" 0 [] .none .none .none .none none .none .none 0), #[]⟩, o360, o361, o362, o363 P, ⟨(vt "type"), none, (.cls ⟨Str.ofString "Bank", [(vt "object")], [(vr 364), (vt "object")], 363, Str.ofString "Bank", true, [], [], false, none, false⟩), #[none, none, (some (vs "Bank" 366)), (some (vs "Bank" 374)), (some (vb "object.__new__")), (some (.bool true))]⟩, o365, o366, ⟨(vt "super"), none, (.fields #[(vr 364), (vr 364), (vr 364)]), #[]⟩, ⟨(vt "builtin_function_or_method"), none, (.fields #[(vb "object.__init_subclass__"), (vr 364)]), #[]⟩]
noncomputable def L5 (P : Params) : List Obj := put 0 [(3, ⟨(vt "dict"), none, (.dict #[de P "__name__" 165 (vs "minismt.terms" 354), de P "__doc__" 166 .none, de P "__package__" 167 .none, de P "__loader__" 168 (vb "__main__.__loader__#opaque"), de P "__spec__" 169 .none, de P "__annotations__" 170 (vr 6), de P "__builtins__" 171 (vr 4), de P "__file__" 173 (vs "/claim/cut.py" 172), de P "__cached__" 174 .none, de P "_wall" 193 (vr 21), de P "SmtError" 233 (vr 47), de P "SortFault" 256 (vr 67), de P "LimitFault" 279 (vr 86), de P "gcd_of" 289 (vr 95), de P "gcd_all" 298 (vr 102), de P "lcm_of" 306 (vr 109), de P "ratio" 315 (vr 116), de P "mul" 323 (vr 123), de P "floor_of" 330 (vr 130), de P "ceil_of" 337 (vr 137), de P "is_whole" 344 (vr 144), de P "common_bottom" 353 (vr 151), de P "BOOL" 357 (vi 0 356), de P "INT" 359 (vi 1 358), de P "REAL" 361 (vi 2 360), de P "MOST_BITS" 365 (vi 65536 364), de P "Bank" 649 (vr 364), de P "BoolBank" 782 (vr 469), de P "want_small" 789 (vr 478)] 29), #[]⟩), (12, ⟨.none, none, (.fields #[(vi 1 0), (vi 0 0), (vr 20), (vi 5 0), (vi 0 0), (vr 28), (vi 13 0), (vi 0 0), (vr 56), (vi 17 0), (vi 0 0), (vr 75), (vi 22 0), (vi 0 0), (vr 94), (vi 27 0), (vi 0 0), (vr 101), (vi 34 0), (vi 0 0), (vr 108), (vi 36 0), (vi 0 0), (vr 115), (vi 43 0), (vi 0 0), (vr 122), (vi 47 0), (vi 0 0), (vr 129), (vi 49 0), (vi 0 0), (vr 136), (vi 51 0), (vi 0 0), (vr 143), (vi 53 0), (vi 0 0), (vr 150), (vi 63 0), (vi 0 0), (vr 157), (vi 191 0), (vi 0 0), (vr 374), (vi 236 0), (vi 0 0), (vr 477)]), #[]⟩), (364, o364)] (L4 P) ++ [o369, ⟨(vt "builtin_function_or_method"), none, (.fields #[(vb "type.__prepare__"), (vt "type")]), #[]⟩, ⟨(vt "dict"), none, (.dict #[de P "__module__" 657 (vs "minismt.terms" 354), de P "__qualname__" 659 (vs "BoolBank" 658), de P "__firstlineno__" 661 (vi 191 660), de P "not_of" 669 (vr 382), de P "and_of" 677 (vr 389), de P "or_of" 685 (vr 396), de P "xor_of" 694 (vr 403), de P "implies_of" 703 (vr 410), de P "iff" 712 (vr 417), de P "eq" 721 (vr 424), de P "distinct" 729 (vr 431), de P "ite" 739 (vr 438), de P "app" 751 (vr 445), de P "folded" 760 (vr 452), de P "with_args" 769 (vr 459), de P "replaced" 778 (vr 466), de P "__static_attributes__" 779 (vr 467)] 17), #[]⟩, ⟨(vt "tuple"), none, (.seq #[] 0), #[]⟩, ⟨.none, none, (.fields #[(vi 193 0), (vi 4 0), (vr 381), (vi 196 0), (vi 4 0), (vr 388), (vi 199 0), (vi 4 0), (vr 395), (vi 202 0), (vi 4 0), (vr 402), (vi 205 0), (vi 4 0), (vr 409), (vi 208 0), (vi 4 0), (vr 416), (vi 211 0), (vi 4 0), (vr 423), (vi 214 0), (vi 4 0), (vr 430), (vi 217 0), (vi 4 0), (vr 437), (vi 220 0), (vi 4 0), (vr 444), (vi 228 0), (vi 4 0), (vr 451), (vi 231 0), (vi 4 0), (vr 458), (vi 234 0), (vi 4 0), (vr 465)]), #[]⟩, ⟨(vt "code"), none, (.fields #[(vs "BoolBank" 652), (vs "BoolBank" 653), (vs "/claim/cut.py" 654), (vi 191 0), (vi 0 0), (vi 0 0), (vi 0 0), (vi 0 0), (vr 372), (.bool false), (vi 181 0), (vr 373), .none, .none, .none, .none, (vi 655 0), (vi 191 0), (vs "/claim/cut.py" 656)]), #[]⟩, ⟨(vt "frame"), none, .plain, #[(some (vr 374)), (some (vr 3)), (some (vr 371)), none, (some (vs "minismt.terms" 354)), none, (some (vr 0))]⟩, o376, ⟨.none, none, (.fields #[]), #[]⟩, o378, o379, ⟨.none, none, (fu fx21x0.1 "not_of" "BoolBank.not_of" 0 [] .none .none .none .none none .none .none 0), #[]⟩, o381, o382, o383, ⟨.none, none, (.fields #[]), #[]⟩, o385, o386, ⟨.none, none, (fu fx21x1.1 "and_of" "BoolBank.and_of" 0 [] .none .none .none .none none .none .none 0), #[]⟩, o388, o389, o390, ⟨.none, none, (.fields #[]), #[]⟩, o392, o393, ⟨.none, none, (fu fx21x2.1 "or_of" "BoolBank.or_of" 0 [] .none .none .none .none none .none .none 0), #[]⟩, o395, o396, o397, ⟨.none, none, (.fields #[]), #[]⟩, o399, o400, ⟨.none, none, (fu fx21x3.1 "xor_of" "BoolBank.xor_of" 0 [] .none .none .none .none none .none .none 0), #[]⟩, o402, o403, o404, ⟨.none, none, (.fields #[]), #[]⟩, o406, o407, ⟨.none, none, (fu fx21x4.1 "implies_of" "BoolBank.implies_of" 0 [] .none .none .none .none none .none .none 0), #[]⟩, o409, o410, o411, ⟨.none, none, (.fields #[]), #[]⟩, o413, o414, ⟨.none, none, (fu fx21x5.1 "iff" "BoolBank.iff" 0 [] .none .none .none .none none .none .none 0), #[]⟩, o416, o417, o418, ⟨.none, none, (.fields #[]), #[]⟩, o420, o421, ⟨.none, none, (fu fx21x6.1 "eq" "BoolBank.eq" 0 [] .none .none .none .none none .none .none 0), #[]⟩, o423, o424, o425, ⟨.none, none, (.fields #[]), #[]⟩, o427, o428, ⟨.none, none, (fu fx21x7.1 "distinct" "BoolBank.distinct" 0 [] .none .none .none .none none .none .none 0), #[]⟩, o430, o431, o432, ⟨.none, none, (.fields #[]), #[]⟩, o434, o435, ⟨.none, none, (fu fx21x8.1 "ite" "BoolBank.ite" 0 [] .none .none .none .none none .none .none 0), #[]⟩, o437, o438, o439, ⟨.none, none, (.fields #[]), #[]⟩, o441, o442, ⟨.none, none, (fu fx21x9.1 "app" "BoolBank.app" 0 [] .none .none .none .none none .none .none 0), #[]⟩, o444, o445, o446, ⟨.none, none, (.fields #[]), #[]⟩, o448, o449, ⟨.none, none, (fu fx21x10.1 "folded" "BoolBank.folded" 0 [] .none .none .none .none none .none .none 0), #[]⟩, o451, o452, o453, ⟨.none, none, (.fields #[]), #[]⟩, o455, o456, ⟨.none, none, (fu fx21x11.1 "with_args" "BoolBank.with_args" 0 [] .none .none .none .none none .none .none 0), #[]⟩, o458, o459, o460, ⟨.none, none, (.fields #[]), #[]⟩, o462, o463, ⟨.none, none, (fu fx21x12.1 "replaced" "BoolBank.replaced" 0 [] .none .none .none .none none .none .none 0), #[]⟩, o465, o466, o467, o468 P, ⟨(vt "type"), none, (.cls ⟨Str.ofString "BoolBank", [(vr 364)], [(vr 469), (vr 364), (vt "object")], 468, Str.ofString "BoolBank", true, [], [], false, none, false⟩), #[(some (vr 369)), none, (some (vs "BoolBank" 650)), (some (vs "BoolBank" 658)), (some (vb "object.__new__")), (some (.bool true))]⟩, ⟨(vt "super"), none, (.fields #[(vr 469), (vr 469), (vr 469)]), #[]⟩, ⟨(vt "builtin_function_or_method"), none, (.fields #[(vb "object.__init_subclass__"), (vr 469)]), #[]⟩, o472, ⟨.none, none, (.fields #[]), #[]⟩, o474, o475, ⟨.none, none, (fu fx22x0.1 "want_small" "want_small" 0 [] .none .none .none .none none .none .none 0), #[]⟩, o477, o478]
noncomputable def L6 (P : Params) : List Obj := put 0 [(3, ⟨(vt "dict"), none, (.dict #[de P "__name__" 165 (vs "minismt.terms" 354), de P "__doc__" 166 .none, de P "__package__" 167 .none, de P "__loader__" 168 (vb "__main__.__loader__#opaque"), de P "__spec__" 169 .none, de P "__annotations__" 170 (vr 6), de P "__builtins__" 171 (vr 4), de P "__file__" 173 (vs "/claim/cut.py" 172), de P "__cached__" 174 .none, de P "_wall" 193 (vr 21), de P "SmtError" 233 (vr 47), de P "SortFault" 256 (vr 67), de P "LimitFault" 279 (vr 86), de P "gcd_of" 289 (vr 95), de P "gcd_all" 298 (vr 102), de P "lcm_of" 306 (vr 109), de P "ratio" 315 (vr 116), de P "mul" 323 (vr 123), de P "floor_of" 330 (vr 130), de P "ceil_of" 337 (vr 137), de P "is_whole" 344 (vr 144), de P "common_bottom" 353 (vr 151), de P "BOOL" 357 (vi 0 356), de P "INT" 359 (vi 1 358), de P "REAL" 361 (vi 2 360), de P "MOST_BITS" 365 (vi 65536 364), de P "Bank" 649 (vr 364), de P "BoolBank" 782 (vr 469), de P "want_small" 789 (vr 478), de P "NumberBank" 903 (vr 565)] 30), #[]⟩), (12, ⟨.none, none, (.fields #[(vi 1 0), (vi 0 0), (vr 20), (vi 5 0), (vi 0 0), (vr 28), (vi 13 0), (vi 0 0), (vr 56), (vi 17 0), (vi 0 0), (vr 75), (vi 22 0), (vi 0 0), (vr 94), (vi 27 0), (vi 0 0), (vr 101), (vi 34 0), (vi 0 0), (vr 108), (vi 36 0), (vi 0 0), (vr 115), (vi 43 0), (vi 0 0), (vr 122), (vi 47 0), (vi 0 0), (vr 129), (vi 49 0), (vi 0 0), (vr 136), (vi 51 0), (vi 0 0), (vr 143), (vi 53 0), (vi 0 0), (vr 150), (vi 63 0), (vi 0 0), (vr 157), (vi 191 0), (vi 0 0), (vr 374), (vi 236 0), (vi 0 0), (vr 477), (vi 239 0), (vi 0 0), (vr 484)]), #[]⟩), (469, o469)] (L5 P) ++ [o479, ⟨(vt "builtin_function_or_method"), none, (.fields #[(vb "type.__prepare__"), (vt "type")]), #[]⟩, ⟨(vt "dict"), none, (.dict #[de P "__module__" 797 (vs "minismt.terms" 354), de P "__qualname__" 799 (vs "NumberBank" 798), de P "__firstlineno__" 801 (vi 239 800), de P "num" 810 (vr 492), de P "want_number" 819 (vr 499), de P "plus" 827 (vr 506), de P "times_num" 837 (vr 513), de P "times" 846 (vr 520), de P "over_num" 855 (vr 527), de P "negative" 863 (vr 534), de P "minus" 872 (vr 541), de P "le" 881 (vr 548), de P "lt" 890 (vr 555), de P "with_args" 899 (vr 562), de P "__static_attributes__" 900 (vr 563)] 15), #[]⟩, ⟨(vt "tuple"), none, (.seq #[] 0), #[]⟩, ⟨.none, none, (.fields #[(vi 241 0), (vi 4 0), (vr 491), (vi 249 0), (vi 4 0), (vr 498), (vi 253 0), (vi 4 0), (vr 505), (vi 256 0), (vi 4 0), (vr 512), (vi 263 0), (vi 4 0), (vr 519), (vi 272 0), (vi 4 0), (vr 526), (vi 275 0), (vi 4 0), (vr 533), (vi 278 0), (vi 4 0), (vr 540), (vi 281 0), (vi 4 0), (vr 547), (vi 284 0), (vi 4 0), (vr 554), (vi 287 0), (vi 4 0), (vr 561)]), #[]⟩, ⟨(vt "code"), none, (.fields #[(vs "NumberBank" 792), (vs "NumberBank" 793), (vs "/claim/cut.py" 794), (vi 239 0), (vi 0 0), (vi 0 0), (vi 0 0), (vi 0 0), (vr 482), (.bool false), (vi 181 0), (vr 483), .none, .none, .none, .none, (vi 795 0), (vi 239 0), (vs "/claim/cut.py" 796)]), #[]⟩, ⟨(vt "frame"), none, .plain, #[(some (vr 484)), (some (vr 3)), (some (vr 481)), none, (some (vs "minismt.terms" 354)), none, (some (vr 0))]⟩, o486, ⟨.none, none, (.fields #[]), #[]⟩, o488, o489, ⟨.none, none, (fu fx23x0.1 "num" "NumberBank.num" 0 [] .none .none .none .none none .none .none 0), #[]⟩, o491, o492, o493, ⟨.none, none, (.fields #[]), #[]⟩, o495, o496, ⟨.none, none, (fu fx23x1.1 "want_number" "NumberBank.want_number" 0 [] .none .none .none .none none .none .none 0), #[]⟩, o498, o499, o500, ⟨.none, none, (.fields #[]), #[]⟩, o502, o503, ⟨.none, none, (fu fx23x2.1 "plus" "NumberBank.plus" 0 [] .none .none .none .none none .none .none 0), #[]⟩, o505, o506, o507, ⟨.none, none, (.fields #[]), #[]⟩, o509, o510, ⟨.none, none, (fu fx23x3.1 "times_num" "NumberBank.times_num" 0 [] .none .none .none .none none .none .none 0), #[]⟩, o512, o513, o514, ⟨.none, none, (.fields #[]), #[]⟩, o516, o517, ⟨.none, none, (fu fx23x4.1 "times" "NumberBank.times" 0 [] .none .none .none .none none .none .none 0), #[]⟩, o519, o520, o521, ⟨.none, none, (.fields #[]), #[]⟩, o523, o524, ⟨.none, none, (fu fx23x5.1 "over_num" "NumberBank.over_num" 0 [] .none .none .none .none none .none .none 0), #[]⟩, o526, o527, o528, ⟨.none, none, (.fields #[]), #[]⟩, o530, o531, ⟨.none, none, (fu fx23x6.1 "negative" "NumberBank.negative" 0 [] .none .none .none .none none .none .none 0), #[]⟩, o533, o534, o535, ⟨.none, none, (.fields #[]), #[]⟩, o537, o538, ⟨.none, none, (fu fx23x7.1 "minus" "NumberBank.minus" 0 [] .none .none .none .none none .none .none 0), #[]⟩, o540, o541, o542, ⟨.none, none, (.fields #[]), #[]⟩, o544, o545, ⟨.none, none, (fu fx23x8.1 "le" "NumberBank.le" 0 [] .none .none .none .none none .none .none 0), #[]⟩, o547, o548, o549, ⟨.none, none, (.fields #[]), #[]⟩, o551, o552, ⟨.none, none, (fu fx23x9.1 "lt" "NumberBank.lt" 0 [] .none .none .none .none none .none .none 0), #[]⟩, o554, o555, o556, ⟨.none, none, (.fields #[]), #[]⟩, o558, o559, ⟨.none, none, (fu fx23x10.1 "with_args" "NumberBank.with_args" 0 [] .none .none .none .none none .none .none 0), #[]⟩, o561, o562, o563, o564 P, ⟨(vt "type"), none, (.cls ⟨Str.ofString "NumberBank", [(vr 469)], [(vr 565), (vr 469), (vr 364), (vt "object")], 564, Str.ofString "NumberBank", true, [], [], false, none, false⟩), #[(some (vr 479)), none, (some (vs "NumberBank" 790)), (some (vs "NumberBank" 798)), (some (vb "object.__new__")), (some (.bool true))]⟩, ⟨(vt "super"), none, (.fields #[(vr 565), (vr 565), (vr 565)]), #[]⟩, ⟨(vt "builtin_function_or_method"), none, (.fields #[(vb "object.__init_subclass__"), (vr 565)]), #[]⟩]
noncomputable def L7 (P : Params) : List Obj := put 0 [(3, ⟨(vt "dict"), none, (.dict #[de P "__name__" 165 (vs "minismt.terms" 354), de P "__doc__" 166 .none, de P "__package__" 167 .none, de P "__loader__" 168 (vb "__main__.__loader__#opaque"), de P "__spec__" 169 .none, de P "__annotations__" 170 (vr 6), de P "__builtins__" 171 (vr 4), de P "__file__" 173 (vs "/claim/cut.py" 172), de P "__cached__" 174 .none, de P "_wall" 193 (vr 21), de P "SmtError" 233 (vr 47), de P "SortFault" 256 (vr 67), de P "LimitFault" 279 (vr 86), de P "gcd_of" 289 (vr 95), de P "gcd_all" 298 (vr 102), de P "lcm_of" 306 (vr 109), de P "ratio" 315 (vr 116), de P "mul" 323 (vr 123), de P "floor_of" 330 (vr 130), de P "ceil_of" 337 (vr 137), de P "is_whole" 344 (vr 144), de P "common_bottom" 353 (vr 151), de P "BOOL" 357 (vi 0 356), de P "INT" 359 (vi 1 358), de P "REAL" 361 (vi 2 360), de P "MOST_BITS" 365 (vi 65536 364), de P "Bank" 649 (vr 364), de P "BoolBank" 782 (vr 469), de P "want_small" 789 (vr 478), de P "NumberBank" 903 (vr 565), de P "TermBank" 1058 (vr 684)] 31), #[]⟩), (12, ⟨.none, none, (.fields #[(vi 1 0), (vi 0 0), (vr 20), (vi 5 0), (vi 0 0), (vr 28), (vi 13 0), (vi 0 0), (vr 56), (vi 17 0), (vi 0 0), (vr 75), (vi 22 0), (vi 0 0), (vr 94), (vi 27 0), (vi 0 0), (vr 101), (vi 34 0), (vi 0 0), (vr 108), (vi 36 0), (vi 0 0), (vr 115), (vi 43 0), (vi 0 0), (vr 122), (vi 47 0), (vi 0 0), (vr 129), (vi 49 0), (vi 0 0), (vr 136), (vi 51 0), (vi 0 0), (vr 143), (vi 53 0), (vi 0 0), (vr 150), (vi 63 0), (vi 0 0), (vr 157), (vi 191 0), (vi 0 0), (vr 374), (vi 236 0), (vi 0 0), (vr 477), (vi 239 0), (vi 0 0), (vr 484), (vi 289 0), (vi 0 0), (vr 574)]), #[]⟩), (565, o565)] (L6 P) ++ [o568, ⟨(vt "builtin_function_or_method"), none, (.fields #[(vb "type.__prepare__"), (vt "type")]), #[]⟩, ⟨(vt "dict"), none, (.dict #[de P "__module__" 911 (vs "minismt.terms" 354), de P "__qualname__" 913 (vs "TermBank" 912), de P "__firstlineno__" 915 (vi 289 914), de P "__init__" 923 (vr 583), de P "bv_sort" 931 (vr 590), de P "find_bv_sort" 939 (vr 597), de P "want_bits" 948 (vr 604), de P "bv_num" 957 (vr 611), de P "bv_one" 966 (vr 618), de P "bv_two" 976 (vr 625), de P "concat" 985 (vr 632), de P "extract" 995 (vr 639), de P "zero_extend" 1004 (vr 646), de P "sign_extend" 1013 (vr 653), de P "want_place" 1023 (vr 660), de P "bit" 1032 (vr 667), de P "carry" 1042 (vr 674), de P "below" 1052 (vr 681), de P "__static_attributes__" 1054 (vr 682), de P "__classcell__" 1055 (vr 571)] 20), #[]⟩, o571, ⟨(vt "tuple"), none, (.seq #[] 0), #[]⟩, ⟨.none, none, (.fields #[(vi 291 0), (vi 4 0), (vr 582), (vi 295 0), (vi 4 0), (vr 589), (vi 298 0), (vi 4 0), (vr 596), (vi 301 0), (vi 4 0), (vr 603), (vi 305 0), (vi 4 0), (vr 610), (vi 308 0), (vi 4 0), (vr 617), (vi 311 0), (vi 4 0), (vr 624), (vi 314 0), (vi 4 0), (vr 631), (vi 317 0), (vi 4 0), (vr 638), (vi 320 0), (vi 4 0), (vr 645), (vi 323 0), (vi 4 0), (vr 652), (vi 326 0), (vi 4 0), (vr 659), (vi 330 0), (vi 4 0), (vr 666), (vi 336 0), (vi 4 0), (vr 673), (vi 339 0), (vi 4 0), (vr 680)]), #[]⟩, ⟨(vt "code"), none, (.fields #[(vs "TermBank" 906), (vs "TermBank" 907), (vs "/claim/cut.py" 908), (vi 289 0), (vi 0 0), (vi 0 0), (vi 0 0), (vi 0 0), (vr 572), (.bool false), (vi 181 0), (vr 573), .none, .none, .none, .none, (vi 909 0), (vi 289 0), (vs "/claim/cut.py" 910)]), #[]⟩, ⟨(vt "frame"), none, .plain, #[(some (vr 574)), (some (vr 3)), (some (vr 570)), none, (some (vs "minismt.terms" 354)), none, (some (vr 0))]⟩, o576, o577, ⟨.none, none, (.fields #[]), #[]⟩, o579, o580, ⟨.none, none, (fu fx24x0.1 "__init__" "TermBank.__init__" 0 [] .none .none .none .none none .none .none 0), #[]⟩, o582, o583, o584, ⟨.none, none, (.fields #[]), #[]⟩, o586, o587, ⟨.none, none, (fu fx24x1.1 "bv_sort" "TermBank.bv_sort" 0 [] .none .none .none .none none .none .none 0), #[]⟩, o589, o590, o591, ⟨.none, none, (.fields #[]), #[]⟩, o593, o594, ⟨.none, none, (fu fx24x2.1 "find_bv_sort" "TermBank.find_bv_sort" 0 [] .none .none .none .none none .none .none 0), #[]⟩, o596, o597, o598, ⟨.none, none, (.fields #[]), #[]⟩, o600, o601, ⟨.none, none, (fu fx24x3.1 "want_bits" "TermBank.want_bits" 0 [] .none .none .none .none none .none .none 0), #[]⟩, o603, o604, o605, ⟨.none, none, (.fields #[]), #[]⟩, o607, o608, ⟨.none, none, (fu fx24x4.1 "bv_num" "TermBank.bv_num" 0 [] .none .none .none .none none .none .none 0), #[]⟩, o610, o611, o612, ⟨.none, none, (.fields #[]), #[]⟩, o614, o615, ⟨.none, none, (fu fx24x5.1 "bv_one" "TermBank.bv_one" 0 [] .none .none .none .none none .none .none 0), #[]⟩, o617, o618, o619, ⟨.none, none, (.fields #[]), #[]⟩, o621, o622, ⟨.none, none, (fu fx24x6.1 "bv_two" "TermBank.bv_two" 0 [] .none .none .none .none none .none .none 0), #[]⟩, o624, o625, o626, ⟨.none, none, (.fields #[]), #[]⟩, o628, o629, ⟨.none, none, (fu fx24x7.1 "concat" "TermBank.concat" 0 [] .none .none .none .none none .none .none 0), #[]⟩, o631, o632, o633, ⟨.none, none, (.fields #[]), #[]⟩, o635, o636, ⟨.none, none, (fu fx24x8.1 "extract" "TermBank.extract" 0 [] .none .none .none .none none .none .none 0), #[]⟩, o638, o639, o640, ⟨.none, none, (.fields #[]), #[]⟩, o642, o643, ⟨.none, none, (fu fx24x9.1 "zero_extend" "TermBank.zero_extend" 0 [] .none .none .none .none none .none .none 0), #[]⟩, o645, o646, o647, ⟨.none, none, (.fields #[]), #[]⟩, o649, o650, ⟨.none, none, (fu fx24x10.1 "sign_extend" "TermBank.sign_extend" 0 [] .none .none .none .none none .none .none 0), #[]⟩, o652, o653, o654, ⟨.none, none, (.fields #[]), #[]⟩, o656, o657, ⟨.none, none, (fu fx24x11.1 "want_place" "TermBank.want_place" 0 [] .none .none .none .none none .none .none 0), #[]⟩, o659, o660, o661, ⟨.none, none, (.fields #[]), #[]⟩, o663, o664, ⟨.none, none, (fu fx24x12.1 "bit" "TermBank.bit" 0 [] .none .none .none .none none .none .none 0), #[]⟩, o666, o667, o668, ⟨.none, none, (.fields #[]), #[]⟩, o670, o671, ⟨.none, none, (fu fx24x13.1 "carry" "TermBank.carry" 0 [] .none .none .none .none none .none .none 0), #[]⟩, o673, o674, o675, ⟨.none, none, (.fields #[]), #[]⟩, o677, o678, ⟨.none, none, (fu fx24x14.1 "below" "TermBank.below" 0 [] .none .none .none .none none .none .none 0), #[]⟩, o680, o681, o682, o683 P, o684, ⟨(vt "super"), none, (.fields #[(vr 684), (vr 684), (vr 684)]), #[]⟩, ⟨(vt "builtin_function_or_method"), none, (.fields #[(vb "object.__init_subclass__"), (vr 684)]), #[]⟩]
noncomputable def L8 (P : Params) : List Obj := put 0 [(3, ⟨(vt "dict"), none, (.dict #[de P "__name__" 165 (vs "minismt.judges" 1059), de P "__doc__" 166 .none, de P "__package__" 167 .none, de P "__loader__" 168 (vb "__main__.__loader__#opaque"), de P "__spec__" 169 .none, de P "__annotations__" 170 (vr 6), de P "__builtins__" 171 (vr 4), de P "__file__" 173 (vs "/claim/cut.py" 172), de P "__cached__" 174 .none, de P "_wall" 193 (vr 21), de P "SmtError" 233 (vr 47), de P "SortFault" 256 (vr 67), de P "LimitFault" 279 (vr 86), de P "gcd_of" 289 (vr 95), de P "gcd_all" 298 (vr 102), de P "lcm_of" 306 (vr 109), de P "ratio" 315 (vr 116), de P "mul" 323 (vr 123), de P "floor_of" 330 (vr 130), de P "ceil_of" 337 (vr 137), de P "is_whole" 344 (vr 144), de P "common_bottom" 353 (vr 151), de P "BOOL" 357 (vi 0 356), de P "INT" 359 (vi 1 358), de P "REAL" 361 (vi 2 360), de P "MOST_BITS" 365 (vi 65536 364), de P "Bank" 649 (vr 364), de P "BoolBank" 782 (vr 469), de P "want_small" 789 (vr 478), de P "NumberBank" 903 (vr 565), de P "TermBank" 1058 (vr 684), de P "Row" 1093 (vr 703)] 32), #[]⟩), (12, ⟨.none, none, (.fields #[(vi 1 0), (vi 0 0), (vr 20), (vi 5 0), (vi 0 0), (vr 28), (vi 13 0), (vi 0 0), (vr 56), (vi 17 0), (vi 0 0), (vr 75), (vi 22 0), (vi 0 0), (vr 94), (vi 27 0), (vi 0 0), (vr 101), (vi 34 0), (vi 0 0), (vr 108), (vi 36 0), (vi 0 0), (vr 115), (vi 43 0), (vi 0 0), (vr 122), (vi 47 0), (vi 0 0), (vr 129), (vi 49 0), (vi 0 0), (vr 136), (vi 51 0), (vi 0 0), (vr 143), (vi 53 0), (vi 0 0), (vr 150), (vi 63 0), (vi 0 0), (vr 157), (vi 191 0), (vi 0 0), (vr 374), (vi 236 0), (vi 0 0), (vr 477), (vi 239 0), (vi 0 0), (vr 484), (vi 289 0), (vi 0 0), (vr 574), (vi 345 0), (vi 0 0), (vr 692)]), #[]⟩)] (L7 P) ++ [⟨(vt "tuple"), none, (.seq #[] 0), #[]⟩, ⟨(vt "builtin_function_or_method"), none, (.fields #[(vb "type.__prepare__"), (vt "type")]), #[]⟩, ⟨(vt "dict"), none, (.dict #[de P "__module__" 1068 (vs "minismt.judges" 1059), de P "__qualname__" 1070 (vs "Row" 1069), de P "__firstlineno__" 1072 (vi 345 1071), de P "__init__" 1082 (vr 700), de P "__static_attributes__" 1086 (vr 701)] 5), #[]⟩, ⟨(vt "tuple"), none, (.seq #[] 0), #[]⟩, ⟨.none, none, (.fields #[(vi 347 0), (vi 4 0), (vr 699)]), #[]⟩, ⟨(vt "code"), none, (.fields #[(vs "Row" 1063), (vs "Row" 1064), (vs "/claim/cut.py" 1065), (vi 345 0), (vi 0 0), (vi 0 0), (vi 0 0), (vi 0 0), (vr 690), (.bool false), (vi 181 0), (vr 691), .none, .none, .none, .none, (vi 1066 0), (vi 345 0), (vs "/claim/cut.py" 1067)]), #[]⟩, ⟨(vt "frame"), none, .plain, #[(some (vr 692)), (some (vr 3)), (some (vr 689)), none, (some (vs "minismt.judges" 1059)), none, (some (vr 0))]⟩, o694, ⟨.none, none, (.fields #[]), #[]⟩, o696, o697, ⟨.none, none, (fu fx26x0.1 "__init__" "Row.__init__" 0 [] .none .none .none .none none .none .none 0), #[]⟩, o699, o700, o701, o702 P, o703, o704, o705, ⟨(vt "super"), none, (.fields #[(vr 703), (vr 703), (vr 703)]), #[]⟩, ⟨(vt "builtin_function_or_method"), none, (.fields #[(vb "object.__init_subclass__"), (vr 703)]), #[]⟩]
noncomputable def L9 (P : Params) : List Obj := put 0 [(3, ⟨(vt "dict"), none, (.dict #[de P "__name__" 165 (vs "law_qz0031_04" 1189), de P "__doc__" 166 .none, de P "__package__" 167 .none, de P "__loader__" 168 (vb "__main__.__loader__#opaque"), de P "__spec__" 169 .none, de P "__annotations__" 170 (vr 6), de P "__builtins__" 171 (vr 4), de P "__file__" 173 (vs "/claim/cut.py" 172), de P "__cached__" 174 .none, de P "_wall" 193 (vr 21), de P "SmtError" 233 (vr 47), de P "SortFault" 256 (vr 67), de P "LimitFault" 279 (vr 86), de P "gcd_of" 289 (vr 95), de P "gcd_all" 298 (vr 102), de P "lcm_of" 306 (vr 109), de P "ratio" 315 (vr 116), de P "mul" 323 (vr 123), de P "floor_of" 330 (vr 130), de P "ceil_of" 337 (vr 137), de P "is_whole" 344 (vr 144), de P "common_bottom" 353 (vr 151), de P "BOOL" 357 (vi 0 356), de P "INT" 359 (vi 1 358), de P "REAL" 361 (vi 2 360), de P "MOST_BITS" 365 (vi 65536 364), de P "Bank" 649 (vr 364), de P "BoolBank" 782 (vr 469), de P "want_small" 789 (vr 478), de P "NumberBank" 903 (vr 565), de P "TermBank" 1058 (vr 684), de P "Row" 1093 (vr 703), de P "RowJudge" 1188 (vr 778), de P "_law_draw" 1199 (vr 789), de P "_law_lowest" 1208 (vr 796), de P "_law_says" 1223 (vr 803), de P "_law_is_due" 1229 (vr 808), de P "_law_points" 1235 (vr 813), de P "_law_times" 1243 (vr 820), de P "_law_row_right" 1249 (vr 825)] 40), #[]⟩), (12, ⟨.none, none, (.fields #[(vi 1 0), (vi 0 0), (vr 20), (vi 5 0), (vi 0 0), (vr 28), (vi 13 0), (vi 0 0), (vr 56), (vi 17 0), (vi 0 0), (vr 75), (vi 22 0), (vi 0 0), (vr 94), (vi 27 0), (vi 0 0), (vr 101), (vi 34 0), (vi 0 0), (vr 108), (vi 36 0), (vi 0 0), (vr 115), (vi 43 0), (vi 0 0), (vr 122), (vi 47 0), (vi 0 0), (vr 129), (vi 49 0), (vi 0 0), (vr 136), (vi 51 0), (vi 0 0), (vr 143), (vi 53 0), (vi 0 0), (vr 150), (vi 63 0), (vi 0 0), (vr 157), (vi 191 0), (vi 0 0), (vr 374), (vi 236 0), (vi 0 0), (vr 477), (vi 239 0), (vi 0 0), (vr 484), (vi 289 0), (vi 0 0), (vr 574), (vi 345 0), (vi 0 0), (vr 692), (vi 351 0), (vi 0 0), (vr 713), (vi 393 0), (vi 0 0), (vr 788), (vi 399 0), (vi 0 0), (vr 795), (vi 404 0), (vi 0 0), (vr 802), (vi 410 0), (vi 0 0), (vr 807), (vi 430 0), (vi 0 0), (vr 812), (vi 452 0), (vi 0 0), (vr 819), (vi 454 0), (vi 0 0), (vr 824)]), #[]⟩)] (L8 P) ++ [⟨(vt "tuple"), none, (.seq #[] 0), #[]⟩, ⟨(vt "builtin_function_or_method"), none, (.fields #[(vb "type.__prepare__"), (vt "type")]), #[]⟩, ⟨(vt "dict"), none, (.dict #[de P "__module__" 1101 (vs "minismt.judges" 1059), de P "__qualname__" 1103 (vs "RowJudge" 1102), de P "__firstlineno__" 1105 (vi 351 1104), de P "__init__" 1113 (vr 721), de P "linear" 1121 (vr 728), de P "row_of" 1129 (vr 735), de P "normal_row" 1135 (vr 740), de P "sum_of" 1144 (vr 747), de P "farkas_fault" 1153 (vr 754), de P "whole_divisor" 1161 (vr 761), de P "divide_fault" 1170 (vr 768), de P "cut_fault" 1179 (vr 775), de P "__static_attributes__" 1181 (vr 776)] 13), #[]⟩, ⟨(vt "tuple"), none, (.seq #[] 0), #[]⟩, ⟨.none, none, (.fields #[(vi 353 0), (vi 4 0), (vr 720), (vi 356 0), (vi 4 0), (vr 727), (vi 359 0), (vi 4 0), (vr 734), (vi 362 0), (vi 4 0), (vr 739), (vi 378 0), (vi 4 0), (vr 746), (vi 381 0), (vi 4 0), (vr 753), (vi 384 0), (vi 4 0), (vr 760), (vi 387 0), (vi 4 0), (vr 767), (vi 390 0), (vi 4 0), (vr 774)]), #[]⟩, ⟨(vt "code"), none, (.fields #[(vs "RowJudge" 1096), (vs "RowJudge" 1097), (vs "/claim/cut.py" 1098), (vi 351 0), (vi 0 0), (vi 0 0), (vi 0 0), (vi 0 0), (vr 711), (.bool false), (vi 181 0), (vr 712), .none, .none, .none, .none, (vi 1099 0), (vi 351 0), (vs "/claim/cut.py" 1100)]), #[]⟩, ⟨(vt "frame"), none, .plain, #[(some (vr 713)), (some (vr 3)), (some (vr 710)), none, (some (vs "minismt.judges" 1059)), none, (some (vr 0))]⟩, o715, ⟨.none, none, (.fields #[]), #[]⟩, o717, o718, ⟨.none, none, (fu fx27x0.1 "__init__" "RowJudge.__init__" 0 [] .none .none .none .none none .none .none 0), #[]⟩, o720, o721, o722, ⟨.none, none, (.fields #[]), #[]⟩, o724, o725, ⟨.none, none, (fu fx27x1.1 "linear" "RowJudge.linear" 0 [] .none .none .none .none none .none .none 0), #[]⟩, o727, o728, o729, ⟨.none, none, (.fields #[]), #[]⟩, o731, o732, ⟨.none, none, (fu fx27x2.1 "row_of" "RowJudge.row_of" 0 [] .none .none .none .none none .none .none 0), #[]⟩, o734, o735, o736, ⟨.none, none, (.fields #[]), #[]⟩, ⟨.none, none, (fu fx27x3.1 "normal_row" "RowJudge.normal_row" 0 [] .none .none .none .none none .none .none 0), #[]⟩, o739, o740, o741, ⟨.none, none, (.fields #[]), #[]⟩, o743, o744, ⟨.none, none, (fu fx27x4.1 "sum_of" "RowJudge.sum_of" 0 [] .none .none .none .none none .none .none 0), #[]⟩, o746, o747, o748, ⟨.none, none, (.fields #[]), #[]⟩, o750, o751, ⟨.none, none, (fu fx27x5.1 "farkas_fault" "RowJudge.farkas_fault" 0 [] .none .none .none .none none .none .none 0), #[]⟩, o753, o754, o755, ⟨.none, none, (.fields #[]), #[]⟩, o757, o758, ⟨.none, none, (fu fx27x6.1 "whole_divisor" "RowJudge.whole_divisor" 0 [] .none .none .none .none none .none .none 0), #[]⟩, o760, o761, o762, ⟨.none, none, (.fields #[]), #[]⟩, o764, o765, ⟨.none, none, (fu fx27x7.1 "divide_fault" "RowJudge.divide_fault" 0 [] .none .none .none .none none .none .none 0), #[]⟩, o767, o768, o769, ⟨.none, none, (.fields #[]), #[]⟩, o771, o772, ⟨.none, none, (fu fx27x8.1 "cut_fault" "RowJudge.cut_fault" 0 [] .none .none .none .none none .none .none 0), #[]⟩, o774, o775, o776, o777 P, o778, o779, o780, ⟨(vt "super"), none, (.fields #[(vr 778), (vr 778), (vr 778)]), #[]⟩, ⟨(vt "builtin_function_or_method"), none, (.fields #[(vb "object.__init_subclass__"), (vr 778)]), #[]⟩, o783, ⟨.none, none, (.fields #[]), #[]⟩, o785, o786, ⟨.none, none, (fu fx29x0.1 "_law_draw" "_law_draw" 0 [] .none .none .none .none none .none .none 0), #[]⟩, o788, o789, o790, ⟨.none, none, (.fields #[]), #[]⟩, o792, o793, ⟨.none, none, (fu fx30x0.1 "_law_lowest" "_law_lowest" 0 [] .none .none .none .none none .none .none 0), #[]⟩, o795, o796, o797, ⟨.none, none, (.fields #[]), #[]⟩, o799, o800, ⟨.none, none, (fu fx31x0.1 "_law_says" "_law_says" 0 [] .none .none .none .none none .none .none 0), #[]⟩, o802, o803, o804, ⟨.none, none, (.fields #[]), #[]⟩, ⟨.none, none, (fu fx32x0.1 "_law_is_due" "_law_is_due" 0 [] .none .none .none .none none .none .none 0), #[]⟩, o807, o808, o809, ⟨.none, none, (.fields #[]), #[]⟩, ⟨.none, none, (fu fx33x0.1 "_law_points" "_law_points" 0 [] .none .none .none .none none .none .none 0), #[]⟩, o812, o813, o814, ⟨.none, none, (.fields #[]), #[]⟩, o816, o817, ⟨.none, none, (fu fx34x0.1 "_law_times" "_law_times" 0 [] .none .none .none .none none .none .none 0), #[]⟩, o819, o820, o821, ⟨.none, none, (.fields #[]), #[]⟩, ⟨.none, none, (fu fx35x0.1 "_law_row_right" "_law_row_right" 0 [] .none .none .none .none none .none .none 0), #[]⟩, o824, o825]
noncomputable def L10 (P : Params) : List Obj := put 0 [(3, o3 P), (12, ⟨.none, none, (.fields #[(vi 1 0), (vi 0 0), (vr 20), (vi 5 0), (vi 0 0), (vr 28), (vi 13 0), (vi 0 0), (vr 56), (vi 17 0), (vi 0 0), (vr 75), (vi 22 0), (vi 0 0), (vr 94), (vi 27 0), (vi 0 0), (vr 101), (vi 34 0), (vi 0 0), (vr 108), (vi 36 0), (vi 0 0), (vr 115), (vi 43 0), (vi 0 0), (vr 122), (vi 47 0), (vi 0 0), (vr 129), (vi 49 0), (vi 0 0), (vr 136), (vi 51 0), (vi 0 0), (vr 143), (vi 53 0), (vi 0 0), (vr 150), (vi 63 0), (vi 0 0), (vr 157), (vi 191 0), (vi 0 0), (vr 374), (vi 236 0), (vi 0 0), (vr 477), (vi 239 0), (vi 0 0), (vr 484), (vi 289 0), (vi 0 0), (vr 574), (vi 345 0), (vi 0 0), (vr 692), (vi 351 0), (vi 0 0), (vr 713), (vi 393 0), (vi 0 0), (vr 788), (vi 399 0), (vi 0 0), (vr 795), (vi 404 0), (vi 0 0), (vr 802), (vi 410 0), (vi 0 0), (vr 807), (vi 430 0), (vi 0 0), (vr 812), (vi 452 0), (vi 0 0), (vr 819), (vi 454 0), (vi 0 0), (vr 824), (vi 472 0), (vi 0 0), (vr 831)]), #[]⟩)] (L9 P) ++ [o826, ⟨.none, none, (.fields #[]), #[]⟩, o828, o829, ⟨.none, none, (fu fx36x0.1 "law" "law" 0 [] .none .none .none .none none .none .none 0), #[]⟩, o831, o832]
noncomputable def heap_39 (P : Params) : Frag := [(2, o2 P), (3, o3 P), (15, o15), (17, o17), (18, o18), (20, o20), (21, o21), (22, o22), (25, o25), (30, o30), (31, o31), (33, o33), (34, o34), (36, o36), (37, o37), (38, o38), (40, o40), (41, o41), (43, o43), (44, o44), (45, o45), (46, o46 P), (47, o47), (48, o48), (51, o51), (58, o58), (60, o60), (61, o61), (63, o63), (64, o64), (65, o65), (66, o66 P), (67, o67), (70, o70), (77, o77), (79, o79), (80, o80), (82, o82), (83, o83), (84, o84), (85, o85 P), (86, o86), (89, o89), (91, o91), (92, o92), (94, o94), (95, o95), (96, o96), (98, o98), (99, o99), (101, o101), (102, o102), (103, o103), (105, o105), (106, o106), (108, o108), (109, o109), (110, o110), (112, o112), (113, o113), (115, o115), (116, o116), (117, o117), (119, o119), (120, o120), (122, o122), (123, o123), (124, o124), (126, o126), (127, o127), (129, o129), (130, o130), (131, o131), (133, o133), (134, o134), (136, o136), (137, o137), (138, o138), (140, o140), (141, o141), (143, o143), (144, o144), (145, o145), (147, o147), (148, o148), (150, o150), (151, o151), (159, o159), (161, o161), (162, o162), (164, o164), (165, o165), (166, o166), (168, o168), (169, o169), (171, o171), (172, o172), (173, o173), (175, o175), (176, o176), (178, o178), (179, o179), (180, o180), (182, o182), (183, o183), (185, o185), (186, o186), (187, o187), (189, o189), (190, o190), (192, o192), (193, o193), (194, o194), (196, o196), (197, o197), (199, o199), (200, o200), (201, o201), (203, o203), (204, o204), (206, o206), (207, o207), (208, o208), (210, o210), (211, o211), (213, o213), (214, o214), (215, o215), (217, o217), (218, o218), (220, o220), (221, o221), (222, o222), (224, o224), (225, o225), (227, o227), (228, o228), (229, o229), (231, o231), (232, o232), (234, o234), (235, o235), (236, o236), (238, o238), (239, o239), (241, o241), (242, o242), (243, o243), (245, o245), (246, o246), (248, o248), (249, o249), (250, o250), (252, o252), (253, o253), (255, o255), (256, o256), (257, o257), (259, o259), (260, o260), (262, o262), (263, o263), (264, o264), (266, o266), (267, o267), (269, o269), (270, o270), (271, o271), (273, o273), (274, o274), (276, o276), (277, o277), (278, o278), (280, o280), (281, o281), (283, o283), (284, o284), (285, o285), (287, o287), (288, o288), (290, o290), (291, o291), (292, o292), (294, o294), (295, o295), (297, o297), (298, o298), (299, o299), (301, o301), (302, o302), (304, o304), (305, o305), (306, o306), (308, o308), (309, o309), (311, o311), (312, o312), (313, o313), (315, o315), (316, o316), (318, o318), (319, o319), (320, o320), (322, o322), (323, o323), (325, o325), (326, o326), (327, o327), (329, o329), (330, o330), (332, o332), (333, o333), (334, o334), (336, o336), (337, o337), (339, o339), (340, o340), (341, o341), (343, o343), (344, o344), (346, o346), (347, o347), (348, o348), (350, o350), (351, o351), (353, o353), (354, o354), (355, o355), (357, o357), (358, o358), (360, o360), (361, o361), (362, o362), (363, o363 P), (364, o364), (365, o365), (366, o366), (369, o369), (376, o376), (378, o378), (379, o379), (381, o381), (382, o382), (383, o383), (385, o385), (386, o386), (388, o388), (389, o389), (390, o390), (392, o392), (393, o393), (395, o395), (396, o396), (397, o397), (399, o399), (400, o400), (402, o402), (403, o403), (404, o404), (406, o406), (407, o407), (409, o409), (410, o410), (411, o411), (413, o413), (414, o414), (416, o416), (417, o417), (418, o418), (420, o420), (421, o421), (423, o423), (424, o424), (425, o425), (427, o427), (428, o428), (430, o430), (431, o431), (432, o432), (434, o434), (435, o435), (437, o437), (438, o438), (439, o439), (441, o441), (442, o442), (444, o444), (445, o445), (446, o446), (448, o448), (449, o449), (451, o451), (452, o452), (453, o453), (455, o455), (456, o456), (458, o458), (459, o459), (460, o460), (462, o462), (463, o463), (465, o465), (466, o466), (467, o467), (468, o468 P), (469, o469), (472, o472), (474, o474), (475, o475), (477, o477), (478, o478), (479, o479), (486, o486), (488, o488), (489, o489), (491, o491), (492, o492), (493, o493), (495, o495), (496, o496), (498, o498), (499, o499), (500, o500), (502, o502), (503, o503), (505, o505), (506, o506), (507, o507), (509, o509), (510, o510), (512, o512), (513, o513), (514, o514), (516, o516), (517, o517), (519, o519), (520, o520), (521, o521), (523, o523), (524, o524), (526, o526), (527, o527), (528, o528), (530, o530), (531, o531), (533, o533), (534, o534), (535, o535), (537, o537), (538, o538), (540, o540), (541, o541), (542, o542), (544, o544), (545, o545), (547, o547), (548, o548), (549, o549), (551, o551), (552, o552), (554, o554), (555, o555), (556, o556), (558, o558), (559, o559), (561, o561), (562, o562), (563, o563), (564, o564 P), (565, o565), (568, o568), (571, o571), (576, o576), (577, o577), (579, o579), (580, o580), (582, o582), (583, o583), (584, o584), (586, o586), (587, o587), (589, o589), (590, o590), (591, o591), (593, o593), (594, o594), (596, o596), (597, o597), (598, o598), (600, o600), (601, o601), (603, o603), (604, o604), (605, o605), (607, o607), (608, o608), (610, o610), (611, o611), (612, o612), (614, o614), (615, o615), (617, o617), (618, o618), (619, o619), (621, o621), (622, o622), (624, o624), (625, o625), (626, o626), (628, o628), (629, o629), (631, o631), (632, o632), (633, o633), (635, o635), (636, o636), (638, o638), (639, o639), (640, o640), (642, o642), (643, o643), (645, o645), (646, o646), (647, o647), (649, o649), (650, o650), (652, o652), (653, o653), (654, o654), (656, o656), (657, o657), (659, o659), (660, o660), (661, o661), (663, o663), (664, o664), (666, o666), (667, o667), (668, o668), (670, o670), (671, o671), (673, o673), (674, o674), (675, o675), (677, o677), (678, o678), (680, o680), (681, o681), (682, o682), (683, o683 P), (684, o684), (694, o694), (696, o696), (697, o697), (699, o699), (700, o700), (701, o701), (702, o702 P), (703, o703), (704, o704), (705, o705), (715, o715), (717, o717), (718, o718), (720, o720), (721, o721), (722, o722), (724, o724), (725, o725), (727, o727), (728, o728), (729, o729), (731, o731), (732, o732), (734, o734), (735, o735), (736, o736), (739, o739), (740, o740), (741, o741), (743, o743), (744, o744), (746, o746), (747, o747), (748, o748), (750, o750), (751, o751), (753, o753), (754, o754), (755, o755), (757, o757), (758, o758), (760, o760), (761, o761), (762, o762), (764, o764), (765, o765), (767, o767), (768, o768), (769, o769), (771, o771), (772, o772), (774, o774), (775, o775), (776, o776), (777, o777 P), (778, o778), (779, o779), (780, o780), (783, o783), (785, o785), (786, o786), (788, o788), (789, o789), (790, o790), (792, o792), (793, o793), (795, o795), (796, o796), (797, o797), (799, o799), (800, o800), (802, o802), (803, o803), (804, o804), (807, o807), (808, o808), (809, o809), (812, o812), (813, o813), (814, o814), (816, o816), (817, o817), (819, o819), (820, o820), (821, o821), (824, o824), (825, o825), (826, o826), (828, o828), (829, o829), (831, o831), (832, o832)]
noncomputable abbrev env0 : Env := { scope := pw.main.scope, locals := mainNs, globals := mainNs, cells := [], code := (vr 13), frame := some 14 }
noncomputable abbrev cE : Code := .body (behindTheImports pw) env0
noncomputable abbrev fr0 : List Frame := [topFrame ⟨0, 0, 0, 0⟩]
noncomputable def hpre (P : Params) : Heap := ⟨(L1 P).toArray, {}⟩
noncomputable def hfin (P : Params) : Heap := ⟨(L10 P).toArray, {}⟩
theorem pre : ∀ w : World, (fun os => topGo treeTable pw w 11 (some (vr 6)) 12 ⟨boot_heap w.params, #[], boot_drawn, boot_toks, os⟩ (topStub pw)) = fun os => some (⟨hpre w.params, #[], {}, 187, os⟩, ⟨denote treeTable cE, cE, ⟨0, 0, 0, 0⟩, fr0⟩) := by
 intro w
 rw [PySem.W.Fast.te15667345088766844465, PySem.W.Fast.te11892475500146522536, PySem.W.Fast.te14364793385576792824]
 kernel_rfl
theorem block : ∀ w : World, (fun os => segRun treeTable pw w 11 (some (vr 6)) 1 1 ⟨hpre w.params, #[], {}, 187, os⟩ (blockOf (behindTheImports pw) env0 cE ⟨0, 0, 0, 0⟩ fr0)) = fun os => some (.next, SharedT.abs ⟨bt 5 (L1 w.params), 15, {}, #[], {}, 187, os⟩, cE, ⟨0, 0, 0, 0⟩) := by
 intro w
 rw [PySem.W.Fast.te14374325043358763698, PySem.W.Fast.te14364793385576792824]
 kernel_rfl
noncomputable def sts1 : List Stmt := ((behindTheImports pw).drop 0).take 4
theorem piece1 : ∀ w : World, (fun os => segRunT treeTable pw w 11 (some (vr 6)) 1 557 ⟨bt 5 (L1 w.params), 15, {}, #[], {}, 187, os⟩ (piecesOf sts1 env0 cE ⟨0, 0, 0, 0⟩ fr0)) = fun os => some (.next, ⟨bt 8 (L2 w.params), 70, {}, #[], {}, 257, os⟩, cE, ⟨13, 0, 16, 36⟩) := by
 intro w
 rw [PySem.W.Fast.te10110043849684766642, PySem.W.Fast.te14364793385576792824]
 kernel_rfl
noncomputable def sts2 : List Stmt := ((behindTheImports pw).drop 4).take 16
theorem piece2 : ∀ w : World, (fun os => segRunT treeTable pw w 11 (some (vr 6)) 1 574 ⟨bt 8 (L2 w.params), 70, {}, #[], {}, 257, os⟩ (piecesOf sts2 env0 cE ⟨13, 0, 16, 36⟩ fr0)) = fun os => some (.next, ⟨bt 9 (L3 w.params), 152, {}, #[], {}, 366, os⟩, cE, ⟨62, 0, 62, 9⟩) := by
 intro w
 rw [PySem.W.Fast.te10110043849684766642, PySem.W.Fast.te14364793385576792824]
 kernel_rfl
noncomputable def sts3 : List Stmt := ((behindTheImports pw).drop 20).take 1
theorem piece3 : ∀ w : World, (fun os => segRunT treeTable pw w 11 (some (vr 6)) 1 1150 ⟨bt 9 (L3 w.params), 152, {}, #[], {}, 366, os⟩ (piecesOf sts3 env0 cE ⟨62, 0, 62, 9⟩ fr0)) = fun os => some (.next, ⟨bt 10 (L4 w.params), 369, {}, #[], {}, 650, os⟩, cE, ⟨63, 0, 190, 20⟩) := by
 intro w
 rw [PySem.W.Fast.te10110043849684766642, PySem.W.Fast.te14364793385576792824]
 kernel_rfl
noncomputable def sts4 : List Stmt := ((behindTheImports pw).drop 21).take 2
theorem piece4 : ∀ w : World, (fun os => segRunT treeTable pw w 11 (some (vr 6)) 1 671 ⟨bt 10 (L4 w.params), 369, {}, #[], {}, 650, os⟩ (piecesOf sts4 env0 cE ⟨63, 0, 190, 20⟩ fr0)) = fun os => some (.next, ⟨bt 10 (L5 w.params), 479, {}, #[], {}, 790, os⟩, cE, ⟨236, 0, 238, 66⟩) := by
 intro w
 rw [PySem.W.Fast.te10110043849684766642, PySem.W.Fast.te14364793385576792824]
 kernel_rfl
noncomputable def sts5 : List Stmt := ((behindTheImports pw).drop 23).take 1
theorem piece5 : ∀ w : World, (fun os => segRunT treeTable pw w 11 (some (vr 6)) 1 589 ⟨bt 10 (L5 w.params), 479, {}, #[], {}, 790, os⟩ (piecesOf sts5 env0 cE ⟨236, 0, 238, 66⟩ fr0)) = fun os => some (.next, ⟨bt 11 (L6 w.params), 568, {}, #[], {}, 904, os⟩, cE, ⟨239, 0, 288, 17⟩) := by
 intro w
 rw [PySem.W.Fast.te10110043849684766642, PySem.W.Fast.te14364793385576792824]
 kernel_rfl
noncomputable def sts6 : List Stmt := ((behindTheImports pw).drop 24).take 1
theorem piece6 : ∀ w : World, (fun os => segRunT treeTable pw w 11 (some (vr 6)) 1 754 ⟨bt 11 (L6 w.params), 568, {}, #[], {}, 904, os⟩ (piecesOf sts6 env0 cE ⟨239, 0, 288, 17⟩ fr0)) = fun os => some (.next, ⟨bt 11 (L7 w.params), 687, {}, #[], {}, 1059, os⟩, cE, ⟨289, 0, 343, 50⟩) := by
 intro w
 rw [PySem.W.Fast.te10110043849684766642, PySem.W.Fast.te14364793385576792824]
 kernel_rfl
noncomputable def sts7 : List Stmt := ((behindTheImports pw).drop 25).take 2
theorem piece7 : ∀ w : World, (fun os => segRunT treeTable pw w 11 (some (vr 6)) 1 236 ⟨bt 11 (L7 w.params), 687, {}, #[], {}, 1059, os⟩ (piecesOf sts7 env0 cE ⟨289, 0, 343, 50⟩ fr0)) = fun os => some (.next, ⟨bt 11 (L8 w.params), 708, {}, #[], {}, 1094, os⟩, cE, ⟨345, 0, 350, 34⟩) := by
 intro w
 rw [PySem.W.Fast.te10110043849684766642, PySem.W.Fast.te14364793385576792824]
 kernel_rfl
noncomputable def sts8 : List Stmt := ((behindTheImports pw).drop 27).take 9
theorem piece8 : ∀ w : World, (fun os => segRunT treeTable pw w 11 (some (vr 6)) 1 695 ⟨bt 11 (L8 w.params), 708, {}, #[], {}, 1094, os⟩ (piecesOf sts8 env0 cE ⟨345, 0, 350, 34⟩ fr0)) = fun os => some (.next, ⟨bt 11 (L9 w.params), 826, {}, #[], {}, 1250, os⟩, cE, ⟨454, 0, 471, 92⟩) := by
 intro w
 rw [PySem.W.Fast.te10110043849684766642, PySem.W.Fast.te14364793385576792824]
 kernel_rfl
noncomputable def sts9 : List Stmt := ((behindTheImports pw).drop 36).take 1
theorem piece9 : ∀ w : World, (fun os => segRunT treeTable pw w 11 (some (vr 6)) 1 37 ⟨bt 11 (L9 w.params), 826, {}, #[], {}, 1250, os⟩ (piecesOf sts9 env0 cE ⟨454, 0, 471, 92⟩ fr0)) = fun os => some (.next, ⟨bt 11 (L10 w.params), 833, {}, #[], {}, 1264, os⟩, cE, ⟨472, 0, 481, 15⟩) := by
 intro w
 rw [PySem.W.Fast.te10110043849684766642, PySem.W.Fast.te14364793385576792824]
 kernel_rfl
theorem fin : ∀ w : World, (fun os => topRun treeTable pw w 11 (some (vr 6)) 2 (SharedT.abs ⟨bt 11 (L10 w.params), 833, {}, #[], {}, 1264, os⟩) ⟨doneF .next, cE, ⟨472, 0, 481, 15⟩, fr0⟩) = fun os => some ⟨hfin w.params, #[], {}, 1264, os⟩ := by
 intro w
 rw [PySem.W.Fast.te14082659384304107361, PySem.W.Fast.te14364793385576792824]
 kernel_rfl
theorem run (w : World) (os : OsState) : topRun treeTable pw w 11 (some (vr 6)) (12 + (1 + (557 + (574 + (1150 + (671 + (589 + (754 + (236 + (695 + (37 + 2))))))))))) ⟨boot_heap w.params, #[], boot_drawn, boot_toks, os⟩ (topStub pw) = some ⟨hfin w.params, #[], {}, 1264, os⟩ := by
 have hb : behindTheImports pw = sts1 ++ (sts2 ++ (sts3 ++ (sts4 ++ (sts5 ++ (sts6 ++ (sts7 ++ (sts8 ++ (sts9 ++ [])))))))) := by kernel_rfl
 have k : topRun treeTable pw w 11 (some (vr 6)) (557 + (574 + (1150 + (671 + (589 + (754 + (236 + (695 + (37 + 2))))))))) (SharedT.abs ⟨bt 5 (L1 w.params), 15, {}, #[], {}, 187, os⟩) (restOf (sts1 ++ (sts2 ++ (sts3 ++ (sts4 ++ (sts5 ++ (sts6 ++ (sts7 ++ (sts8 ++ (sts9 ++ []))))))))) env0 cE ⟨0, 0, 0, 0⟩ fr0) = some ⟨hfin w.params, #[], {}, 1264, os⟩ :=
   piece_app (segRun_of (congrFun (piece1 w) os)) (piece_app (segRun_of (congrFun (piece2 w) os)) (piece_app (segRun_of (congrFun (piece3 w) os)) (piece_app (segRun_of (congrFun (piece4 w) os)) (piece_app (segRun_of (congrFun (piece5 w) os)) (piece_app (segRun_of (congrFun (piece6 w) os)) (piece_app (segRun_of (congrFun (piece7 w) os)) (piece_app (segRun_of (congrFun (piece8 w) os)) (piece_app (segRun_of (congrFun (piece9 w) os)) (congrFun (fin w) os)))))))))
 rw [← hb] at k
 exact go_top (congrFun (pre w) os) (piece_block (congrFun (block w) os) k)
end hd
namespace hd
open PySem PySem.W PySem.Calls PyProof.Rows
noncomputable def view_39 : Program := PySem.W.view pw [36]
noncomputable def loose : List Str := [Str.ofString "_wall", Str.ofString "SmtError", Str.ofString "SortFault", Str.ofString "LimitFault", Str.ofString "gcd_of", Str.ofString "gcd_all", Str.ofString "lcm_of", Str.ofString "ratio", Str.ofString "mul", Str.ofString "floor_of", Str.ofString "ceil_of", Str.ofString "is_whole", Str.ofString "common_bottom", Str.ofString "BOOL", Str.ofString "INT", Str.ofString "REAL", Str.ofString "MOST_BITS", Str.ofString "Bank", Str.ofString "BoolBank", Str.ofString "want_small", Str.ofString "NumberBank", Str.ofString "TermBank", Str.ofString "Row", Str.ofString "RowJudge", Str.ofString "_law_draw", Str.ofString "_law_lowest", Str.ofString "_law_says", Str.ofString "_law_is_due", Str.ofString "_law_points", Str.ofString "_law_times", Str.ofString "_law_row_right"]
noncomputable def ks : List Addr := [2, 3, 15, 17, 18, 20, 21, 22, 25, 30, 31, 33, 34, 36, 37, 38, 40, 41, 43, 44, 45, 46, 47, 48, 51, 58, 60, 61, 63, 64, 65, 66, 67, 70, 77, 79, 80, 82, 83, 84, 85, 86, 89, 91, 92, 94, 95, 96, 98, 99, 101, 102, 103, 105, 106, 108, 109, 110, 112, 113, 115, 116, 117, 119, 120, 122, 123, 124, 126, 127, 129, 130, 131, 133, 134, 136, 137, 138, 140, 141, 143, 144, 145, 147, 148, 150, 151, 159, 161, 162, 164, 165, 166, 168, 169, 171, 172, 173, 175, 176, 178, 179, 180, 182, 183, 185, 186, 187, 189, 190, 192, 193, 194, 196, 197, 199, 200, 201, 203, 204, 206, 207, 208, 210, 211, 213, 214, 215, 217, 218, 220, 221, 222, 224, 225, 227, 228, 229, 231, 232, 234, 235, 236, 238, 239, 241, 242, 243, 245, 246, 248, 249, 250, 252, 253, 255, 256, 257, 259, 260, 262, 263, 264, 266, 267, 269, 270, 271, 273, 274, 276, 277, 278, 280, 281, 283, 284, 285, 287, 288, 290, 291, 292, 294, 295, 297, 298, 299, 301, 302, 304, 305, 306, 308, 309, 311, 312, 313, 315, 316, 318, 319, 320, 322, 323, 325, 326, 327, 329, 330, 332, 333, 334, 336, 337, 339, 340, 341, 343, 344, 346, 347, 348, 350, 351, 353, 354, 355, 357, 358, 360, 361, 362, 363, 364, 365, 366, 369, 376, 378, 379, 381, 382, 383, 385, 386, 388, 389, 390, 392, 393, 395, 396, 397, 399, 400, 402, 403, 404, 406, 407, 409, 410, 411, 413, 414, 416, 417, 418, 420, 421, 423, 424, 425, 427, 428, 430, 431, 432, 434, 435, 437, 438, 439, 441, 442, 444, 445, 446, 448, 449, 451, 452, 453, 455, 456, 458, 459, 460, 462, 463, 465, 466, 467, 468, 469, 472, 474, 475, 477, 478, 479, 486, 488, 489, 491, 492, 493, 495, 496, 498, 499, 500, 502, 503, 505, 506, 507, 509, 510, 512, 513, 514, 516, 517, 519, 520, 521, 523, 524, 526, 527, 528, 530, 531, 533, 534, 535, 537, 538, 540, 541, 542, 544, 545, 547, 548, 549, 551, 552, 554, 555, 556, 558, 559, 561, 562, 563, 564, 565, 568, 571, 576, 577, 579, 580, 582, 583, 584, 586, 587, 589, 590, 591, 593, 594, 596, 597, 598, 600, 601, 603, 604, 605, 607, 608, 610, 611, 612, 614, 615, 617, 618, 619, 621, 622, 624, 625, 626, 628, 629, 631, 632, 633, 635, 636, 638, 639, 640, 642, 643, 645, 646, 647, 649, 650, 652, 653, 654, 656, 657, 659, 660, 661, 663, 664, 666, 667, 668, 670, 671, 673, 674, 675, 677, 678, 680, 681, 682, 683, 684, 694, 696, 697, 699, 700, 701, 702, 703, 704, 705, 715, 717, 718, 720, 721, 722, 724, 725, 727, 728, 729, 731, 732, 734, 735, 736, 739, 740, 741, 743, 744, 746, 747, 748, 750, 751, 753, 754, 755, 757, 758, 760, 761, 762, 764, 765, 767, 768, 769, 771, 772, 774, 775, 776, 777, 778, 779, 780, 783, 785, 786, 788, 789, 790, 792, 793, 795, 796, 797, 799, 800, 802, 803, 804, 807, 808, 809, 812, 813, 814, 816, 817, 819, 820, 821, 824, 825, 826, 828, 829, 831, 832]
noncomputable abbrev rr : RowW := PySem.Challenge.rw_qz0031_04.row.toRowW
noncomputable def H : Hook := kHook heap_39 ks (fun _ => by kernel_rfl)
noncomputable def Xt (s : Shared) : Bool := xlAt view_39 [] s && recOk (RowW.records rr) s
theorem size : ∀ w : World, ((boot_heap w.params).isNs mainGlobals && (Array.mk [] : Array GenState).size == 0, (boot_heap w.params).objs.size, (boot_heap w.params).nsMap mainGlobals "__annotations__") = (true, 11, some (vr 6)) := by
 intro w
 kernel_rfl
theorem looks1 : ∀ w : World, (staticsOk (importedModules pw.main.body) (boot_heap w.params) (hfin w.params) && namesBound pw (hfin w.params) && laidKept (boot_heap w.params) (hfin w.params)) = true := by
 intro w
 kernel_rfl
theorem looks2 : ∀ w : World, (fun os => openSeen view_39 loose (importedModules pw.main.body) Xt true ⟨hfin w.params, #[], {}, 1264, os⟩) = fun _ => openGood view_39 loose := by
 intro w
 kernel_rfl
theorem looks3 : ∀ w : World, ks.map (hfin w.params).get? = (heap_39 w.params).map fun p => some p.2 := by
 intro w
 kernel_rfl
theorem left : LeftO pw view_39 loose Xt (Hook.obs H) (Hook.val H) 10656 :=
 LeftO.of_pieces (H₀ := boot_heap) (H₁ := hfin) (gs₀ := Array.mk []) (gs₁ := #[]) (d₀ := boot_drawn) (d₁ := {}) (k₀ := boot_toks) (k₁ := 1264) (m₀ := 11) (ann := some (vr 6)) (M := 12 + (1 + (557 + (574 + (1150 + (671 + (589 + (754 + (236 + (695 + (37 + 2)))))))))))
   (boot_open rfl rfl fun _ => rfl) size run rfl fun w => by
     funext os
     refine Prod.ext ?_ (Prod.ext (congrFun (looks2 w) os) (looks3 w))
     have h := looks1 w
     simp only [Bool.and_eq_true] at h ⊢
     exact ⟨⟨h.1, rfl⟩, h.2⟩
end hd
namespace Mine.Internal
open PySem PySem.W PySem.Calls PyProof.Rows PySem.SeqAt
noncomputable def gtab : List (Str × V) := [(Str.ofString "gcd_of", .ref 95), (Str.ofString "gcd_all", .ref 102), (Str.ofString "lcm_of", .ref 109), (Str.ofString "ratio", .ref 116), (Str.ofString "mul", .ref 123),
 (Str.ofString "floor_of", .ref 130), (Str.ofString "ceil_of", .ref 137), (Str.ofString "common_bottom", .ref 151), (Str.ofString "BOOL", .int 0), (Str.ofString "INT", .int 1), (Str.ofString "REAL", .int 2),
 (Str.ofString "TermBank", .ref 684), (Str.ofString "Row", .ref 703), (Str.ofString "RowJudge", .ref 778), (Str.ofString "_law_draw", .ref 789), (Str.ofString "_law_lowest", .ref 796), (Str.ofString "_law_says", .ref 803),
 (Str.ofString "_law_is_due", .ref 808), (Str.ofString "_law_points", .ref 813), (Str.ofString "_law_times", .ref 820), (Str.ofString "_law_row_right", .ref 825),
 (Str.ofString "abs", .bi "abs"), (Str.ofString "len", .bi "len"), (Str.ofString "sorted", .bi "sorted"), (Str.ofString "min", .bi "min"), (Str.ofString "range", .ty "range"), (Str.ofString "zip", .ty "zip"),
 (Str.ofString "dict", .ty "dict"), (Str.ofString "list", .ty "list"), (Str.ofString "str", .ty "str"), (Str.ofString "tuple", .ty "tuple"), (Str.ofString "super", .ty "super")]
structure IsX (X : Wd) (w : World) : Prop where
 hK : X.K = hd.heap_39 w.params
 hG : X.G = fun x => gtab.lookup x
theorem ma_make (P : Params) : MethAt (hd.heap_39 P) 684 (Str.ofString "make") 298 := ⟨by kernel_rfl, by kernel_rfl, by kernel_rfl⟩
theorem ma_declare (P : Params) : MethAt (hd.heap_39 P) 684 (Str.ofString "declare_fun") 207 := ⟨by kernel_rfl, by kernel_rfl, by kernel_rfl⟩
theorem ma_fresh (P : Params) : MethAt (hd.heap_39 P) 684 (Str.ofString "fresh_const") 221 := ⟨by kernel_rfl, by kernel_rfl, by kernel_rfl⟩
theorem ma_sort (P : Params) : MethAt (hd.heap_39 P) 684 (Str.ofString "sort") 270 := ⟨by kernel_rfl, by kernel_rfl, by kernel_rfl⟩
theorem ma_normal (P : Params) : MethAt (hd.heap_39 P) 778 (Str.ofString "normal_row") 740 := ⟨by kernel_rfl, by kernel_rfl, by kernel_rfl⟩
noncomputable def aWd : Wd := ⟨PySem.Challenge.rw_qz0031_04.row.prog, aWorld 1, boot_heap (aWorld 1).params, default, fun _ => none, fun _ => none, []⟩
@[irreducible] noncomputable def epsW {α : Type} (ne : Nonempty α) (S : α → Prop) : α := @Classical.epsilon α ne fun p => ¬ S p
theorem epsW_elim {α : Type} (ne : Nonempty α) {S : α → Prop} (h : S (epsW ne S)) : ∀ p, S p := fun p => Classical.byContradiction fun hn => by
 unfold epsW at h
 exact @Classical.epsilon_spec α (fun p => ¬ S p) ⟨p, hn⟩ h
theorem ne_new {σ : Hp} {c d : Addr} {o : O} (h : σ c = none) (h' : σ d = some o) : d ≠ c := by rintro rfl; rw [h] at h'; cases h'
end Mine.Internal
namespace Mine.Internal
open PySem PySem.W PySem.Calls PyProof.Rows PySem.SeqAt
local macro_rules | `(tactic| wtm_at "fx") => `(tactic| dsimp only [List.map])
local macro_rules | `(tactic| wtm_at "ma") => `(tactic| (rw [IsX.hK (by assumption)]; first | exact ma_make _ | exact ma_declare _ | exact ma_fresh _ | exact ma_sort _ | exact ma_normal _))
local macro_rules | `(tactic| wtm_at "in") => `(tactic| set_option tactic.hygienic false in intros)
local macro_rules | `(tactic| wtm_at "fn") => `(tactic| (
 refine CallV.fnL (oc := ?_) (od := ?_) (osl := ?_) (fd := ?_) (body := ?_) ?hK ?hb ?P ?hcd ?hl ?h
 case hK => rw [IsX.hK (by assumption)]; exact rfl
 case hb => exact rfl
 case P => exact ⟨rfl, rfl, rfl, rfl, rfl, rfl, rfl, rfl, by decide, rfl, rfl, rfl, by decide, by decide, by decide⟩
 case hcd => rw [IsX.hK (by assumption)]; rfl
 case hl => rfl
 wtm_at "fx"))
local macro_rules | `(tactic| wtm_at "cd") => `(tactic| (
 refine CodeV.fnL (oc := ?_) (od := ?_) (osl := ?_) (fd := ?_) (body := ?_) ?hK ?hb ?P ?hcd ?hl ?h
 case hK => rw [IsX.hK (by assumption)]; exact rfl
 case hb => exact rfl
 case P => exact ⟨rfl, rfl, rfl, rfl, rfl, rfl, rfl, rfl, by decide, rfl, rfl, rfl, by decide, by decide, by decide⟩
 case hcd => rw [IsX.hK (by assumption)]; rfl
 case hl => rfl
 wtm_at "fx"))
local macro_rules | `(tactic| wtm_at "hp") => `(tactic| first | assumption | exact upd_same _ _ _ | ((refine (upd_ne _ _ ?_).trans ?_); (focus (wtm_at "ne")); (wtm_at "hp")) | (refine upd_old ?_ ?_ <;> wtm_at "hp"))
local macro_rules | `(tactic| wtm_at "ne") => `(tactic| first | assumption | exact Ne.symm (by assumption) | exact ne_new (by assumption) (by wtm_at "hp") | exact Ne.symm (ne_new (by assumption) (by wtm_at "hp")))
local macro_rules | `(tactic| wtm_at "ga") => `(tactic| (rw [IsX.hK (by assumption)]; exact ⟨by kernel_rfl, by kernel_rfl, none, by kernel_rfl, by kernel_rfl⟩))
local macro_rules | `(tactic| wtm_at "sa") => `(tactic| (rw [IsX.hK (by assumption)]; exact ⟨by kernel_rfl, by kernel_rfl, by kernel_rfl, by kernel_rfl⟩))
local macro_rules | `(tactic| wtm_at "dl") => `(tactic| first | assumption | exact dlook_dset_same _ _ _ | exact rfl | decide)
local macro_rules | `(tactic| wtm_at "sz") => `(tactic| first | assumption | decide | exact Nat.lt_of_le_of_lt (m := 40) (Nat.le_of_ble_eq_true rfl) (by decide) | (simp only [lim]; omega))
local macro_rules | `(tactic| wtm_at "has") => `(tactic| (simp only [Has]; (repeat' refine And.intro ?_ ?_); all_goals first | exact rfl | trivial))
local macro_rules | `(tactic| wtm_at "rk") => `(tactic| first | exact rfl | assumption)
local macro_rules | `(tactic| wtm_at "wh") => `(tactic| first
 | with_reducible show wE _ _ _ _ _ _
 | with_reducible show wS _ _ _ _ _ _ _
 | with_reducible show wL _ _ _ _
 | with_reducible show wA _ _ _ _ _ _
 | with_reducible show wT _ _ _ _ _ _ _
 | with_reducible show wTru _ _ _
 | with_reducible show wO _ _ _ _
 | with_reducible show wUn _ _ _ _
 | with_reducible show wBin _ _ _ _ _
 | with_reducible show wCmp _ _ _ _ _
 | with_reducible show wGet _ _ _ _
 | with_reducible show wV _ _ _ _ _
 | with_reducible show wB _ _ _ _ _)
local macro_rules | `(tactic| wtm_at "gt") => `(tactic| exact IsX.hG (by assumption))
local macro_rules | `(tactic| wtm_at "wr") => `(tactic| first
 | ((refine calI.mk ?_); try wtm_at "cv")
 | ((refine attI.get (C := ?_) (dx := ?_) (des := ?_) (ep := ?_) (v := ?_) ?hp ?hd ?hg ?hl ?hv ?hq); (case hp => wtm_at "hp"); (case hd => wtm_at "hp"); (case hg => wtm_at "ga"); (case hl => wtm_at "dl"); (case hv => wtm_at "rk"))
 | refine andW.mk ?_ ?_
 | ((refine getI.mk ?_); try wtm_at "gv")
 | refine wIf.of ?_
 | ((refine cmpI.mk ?_); try wtm_at "mv")
 | ((refine outP.mk ?_); with_reducible (conv => whnf))
 | ((refine satI.set (C := ?_) (dx := ?_) (des := ?_) (ep := ?_) ?hp ?hd ?hg ?hl ?hq); (case hp => wtm_at "hp"); (case hd => wtm_at "hp"); (case hg => wtm_at "sa"); (case hl => wtm_at "sz"))
 | ((refine mthI.meth (C := ?_) (dx := ?_) (des := ?_) (ep := ?_) (f := ?_) ?hp ?hd ?hg ?hl ?hq); (case hp => wtm_at "hp"); (case hd => wtm_at "hp"); (case hg => wtm_at "ma"); (case hl => wtm_at "dl"))
 | ((refine appI.mk (xs := ?_) ?hp ?hh); (case hp => wtm_at "hp"))
 | ((refine dgtI.d (es := ?_) (ep := ?_) ?hp ?hh); (case hp => wtm_at "hp"))
 | ((refine dgtI.t (es := ?_) ?hp ?hh); (case hp => wtm_at "hp"))
 | ((refine setI.mk ?_); try wtm_at "sv")
 | ((refine sliI.mk ?_); try wtm_at "lv")
 | refine truI.mk ?_
 | refine binI.mk ?_
 | refine unI.mk ?_
 | ((refine exI.mk ?_); try wtm_at "xv")
 | ((refine evI.mk ?_); try wtm_at "ev")
 | refine etI.mk ?_)
local macro_rules | `(tactic| wtm_at "py") => `(tactic| first
 | wtm_at "cv"
 | wtm_at "xv"
 | wtm_at "ev"
 | ((with_reducible refine Ex.wr gtab ?hG ?hb ?_); (case hb => exact rfl); (case hG => wtm_at "gt"); (try wtm_at "wr"))
 | ((with_reducible refine Ex.w gtab ?hG ?hb ?_); (case hb => exact rfl); (case hG => wtm_at "gt"); (try wtm_at "wr"))
 | ((with_reducible refine Ev.w gtab ?hG ?hb ?_); (case hb => exact rfl); (case hG => wtm_at "gt"); (try wtm_at "wr"))
 | ((with_reducible refine EvT.w gtab ?hG ?hb ?_); (case hb => exact rfl); (case hG => wtm_at "gt"); (try wtm_at "wr"))
 | ((with_reducible refine EvL.w gtab ?hG ?_); (case hG => wtm_at "gt"); (try wtm_at "wr"))
 | ((with_reducible refine As.w gtab ?hG ?_); (case hG => wtm_at "gt"); (try wtm_at "wr"))
 | wtm_at "gv"
 | wtm_at "mv"
 | wtm_at "sv"
 | with_reducible refine EvP.nil ?_
 | with_reducible refine EvP.cons ?_
 | with_reducible refine iftt ?_
 | with_reducible refine ifff ?_
 | with_reducible refine ifnt ?_
 | with_reducible refine ifnf ?_
 | (with_reducible refine ifd ?_ ?_ <;> intro _)
 | (with_reducible refine ifn ?_ ?_ <;> intro _)
 | (with_reducible refine ifb ?_ ?_ <;> intro _)
 | with_reducible refine kFi.next ?_
 | (wtm_at "wo"; with_reducible (conv => whnf))
 | wtm_at "wr"
 | fail "py: no rule"
 )
local macro_rules | `(tactic| wtm_at "wo") => `(tactic| first
 | with_reducible show kLoop _ _ _ _
 | with_reducible show kNext _ _ _
 | with_reducible show kRet _ _
 | with_reducible show kFi _ _ _)
local macro_rules | `(tactic| wtm_at "xv") => `(tactic| ((with_reducible refine Ex.assignCL (ns := ?ns) ?hx ?hc ?hn ?hk ?hh ?hs); (case hx => exact rfl); (case hc => exact rfl); (case hn => exact rfl); (case hk => exact rfl); (case hs => intro _ _; rfl)))
local macro_rules | `(tactic| wtm_at "ev") => `(tactic| ((with_reducible refine Ev.compL (ns := ?ns) ?hc ?hn ?hk ?hh ?hs); (case hc => exact rfl); (case hn => exact rfl); (case hk => exact rfl); (case hs => intro _ _; rfl)))
local macro_rules | `(tactic| wtm_at "gv") => `(tactic| first
 | ((with_reducible refine getP.dict (es := ?_) (ep := ?_) (k := ?_) (x := ?_) ?hp ?hk ?hl ?hh); (case hp => wtm_at "hp"); (case hk => wtm_at "rk"); (case hl => wtm_at "dl"))
 | ((with_reducible refine getP.list (xs := ?_) (x := ?_) ?hp ?hx ?hh); (case hp => wtm_at "hp"); (case hx => exact rfl)))
local macro_rules | `(tactic| wtm_at "sv") => `(tactic| first
 | ((with_reducible refine setP.t (es := ?_) (ks := ?_) ?hp ?hk ?hl ?hn ?hh); (case hp => wtm_at "hp"); (case hk => wtm_at "rk"); (case hl => wtm_at "sz"); (case hn => wtm_at "dl"))
 | ((with_reducible refine setP.d (es := ?_) (ep := ?_) (k := ?_) ?hp ?hk ?hl ?hh); (case hp => wtm_at "hp"); (case hk => wtm_at "rk"); (case hl => wtm_at "sz")))
local macro_rules | `(tactic| wtm_at "lv") => `(tactic| first
 | ((with_reducible refine sliceL.drop (xs := ?_) ?hp ?ha ?hh); (case hp => wtm_at "hp"); (case ha => decide))
 | ((with_reducible refine sliceL.rev (xs := ?_) ?hp ?hh); (case hp => wtm_at "hp")))
local macro_rules | `(tactic| wtm_at "cv") => `(tactic| first
 | ((with_reducible refine CallV.get2 (es := ?_) (ep := ?_) (k := ?_) ?hp ?hk ?hh); (case hp => wtm_at "hp"); (case hk => exact rfl))
 | ((with_reducible refine CallV.getT (es := ?_) (ks := ?_) ?hp ?hk ?hh); (case hp => wtm_at "hp"); (case hk => wtm_at "rk"))
 | ((with_reducible refine CallV.append (xs := ?_) ?hp ?hl ?hh); (case hp => wtm_at "hp"); (case hl => wtm_at "sz"))
 | ((with_reducible refine CallV.listL (xs := ?_) ?hp ?hh); (case hp => wtm_at "hp"))
 | with_reducible refine CallV.abs ?_
 | with_reducible refine CallV.tupT ?_
 | ((with_reducible refine CallV.lenL (xs := ?_) ?hp ?hh); (case hp => wtm_at "hp"))
 | ((with_reducible refine CallV.dictD (es := ?_) (ep := ?_) ?hp ?hh); (case hp => wtm_at "hp"))
 | wtm_at "fs")
local macro_rules | `(tactic| wtm_at "mv") => `(tactic| first
 | ((with_reducible refine cmpP.inI (ns := ?_) ?hp ?hh); (case hp => wtm_at "hp"))
 | with_reducible refine cmpP.eqI ?_
 | with_reducible refine cmpP.neI ?_
 | with_reducible refine cmpP.neB ?_
 | with_reducible refine cmpP.eqB ?_
 | with_reducible refine cmpP.eqQ ?_
 | with_reducible refine cmpP.neQ ?_
 | ((with_reducible refine cmpP.eqNil (xs := ?_) ?hp ?hq ?hne ?hh); (case hp => wtm_at "hp"); (case hq => wtm_at "hp"); (case hne => wtm_at "ne"))
 | ((with_reducible refine cmpP.neNil (xs := ?_) ?hp ?hq ?hne ?hh); (case hp => wtm_at "hp"); (case hq => wtm_at "hp"); (case hne => wtm_at "ne")))
local macro_rules | `(tactic| wtm_at "nm") => `(tactic| first | exact rfl | (unfold nameV Wd.cx; rw [IsX.hG (by assumption)]; exact rfl))
local macro_rules | `(tactic| wtm_at "pw") => `(tactic| ((repeat' wtm_at "py") <;> try (wtm_at "wh"; conv => whnf)))
theorem gcd_of_ok {X : Wd} {w : World} (hX : IsX X w) (a b : Int) (σ : Hp) {lv : Nat} (Q : V → Hp → Prop) (h : Q (.int (Int.gcd a b)) σ) : CallV X (lv + 1) (.ref 95) [.int a, .int b] σ Q := by
 wtm_at "fn"
 wtm_at "pw"
 refine Ex.while_ (fun n l σ' => σ' = σ ∧ Is2 fun (x y : Nat) => Al3 (l = ofL [(Str.ofString "a", .int x), (Str.ofString "b", .int y)]) (n = y) (Nat.gcd x y = Int.gcd a b)) b.natAbs ⟨rfl, a.natAbs, b.natAbs, rfl, rfl, rfl⟩ ?_
 rintro n _ _ ⟨rfl, x, y, rfl, rfl, hg⟩
 wtm_at "pw"
 · assumption
 · have h0 : 0 < n := by first | assumption | decide | omega
   have e : Int.fmod (x : Int) (n : Int) = ((x % n : Nat) : Int) := by
     rw [Int.fmod_eq_emod_of_nonneg _ (by first | assumption | decide | omega)]; rfl
   rw [e]
   refine ⟨x % n, Nat.mod_lt _ h0, rfl, n, x % n, rfl, rfl, ?_⟩
   rw [← hg, Nat.gcd_comm x n, Nat.gcd_rec n x, Nat.gcd_comm]
 · have h0 : n = 0 := by first | assumption | decide | omega
   subst h0
   rw [Nat.gcd_zero_right] at hg
   rw [hg]; exact h
local macro_rules | `(tactic| wtm_at "fs") => `(tactic| with_reducible refine gcd_of_ok (by assumption) _ _ _ _ ?_)
noncomputable def gcdL (ns : List Int) : Nat := ns.foldl (fun (g : Nat) n => Int.gcd g n) 0
theorem fold_one : ∀ (ns : List Int), ns.foldl (fun (g : Nat) n => Int.gcd g n) 1 = 1
 | [] => rfl
 | n :: ns => by rw [List.foldl_cons, show Int.gcd ((1 : Nat) : Int) n = 1 by simp]; exact fold_one ns
theorem gcdL_split (ns : List Int) (k : Nat) : gcdL ns = (ns.drop k).foldl (fun (g : Nat) n => Int.gcd g n) (gcdL (ns.take k)) := by
 unfold gcdL
 rw [← List.foldl_append, List.take_append_drop]
theorem gcdL_take (ns : List Int) (k : Nat) {x : Int} (h : ns[k]? = some x) : gcdL (ns.take (k + 1)) = Int.gcd (gcdL (ns.take k)) x := by
 unfold gcdL
 rw [List.take_succ, h]
 simp [List.foldl_append]
theorem map_get {α : Type} {f : α → V} {ns : List α} {k : Nat} {x : V} (h : (ns.map f)[k]? = some x) : ∃ n, x = f n ∧ ns[k]? = some n := by
 rw [List.getElem?_map] at h
 cases e : ns[k]? with
 | none => rw [e] at h; cases h
 | some n => rw [e] at h; cases h; exact ⟨n, rfl, rfl⟩
theorem gcd_all_ok {X : Wd} {w : World} (hX : IsX X w) (p : Addr) (ns : List Int) (σ : Hp) {lv : Nat} (Q : V → Hp → Prop) (hp : σ p = some (.list (ns.map .int))) (h : Q (.int (gcdL ns)) σ) : CallV X (lv + 2) (.ref 102) [.ref p] σ Q := by
 wtm_at "fn"
 wtm_at "pw"
 refine Ex.for_ (EvI.val (Ev.name rfl (itP.list hp ⟨fun k l σ' => σ' = σ ∧ (l = ofL [(Str.ofString "numbers", .ref p), (Str.ofString "found", .int (gcdL (ns.take k)))] ∨ ∃ y, l = ofL [(Str.ofString "numbers", .ref p), (Str.ofString "found", .int (gcdL (ns.take k))), (Str.ofString "one", y)]), ⟨rfl, .inl rfl⟩, ?_, ?_⟩)) rfl)
 · rintro k _ _ x ⟨rfl, hl⟩ hx
   obtain ⟨n, rfl, hn⟩ := map_get hx
   have ht := gcdL_take ns k hn
   have hs := gcdL_split ns (k + 1)
   refine ⟨hp, ?_⟩
   rcases hl with rfl | ⟨y, rfl⟩
   all_goals
     wtm_at "pw"
     · rename_i e
       have e : gcdL (ns.take (k + 1)) = 1 := by rw [ht]; omega
       rw [e, fold_one] at hs
       rw [hs] at h; exact h
     · exact ⟨rfl, .inr ⟨_, by rw [ht]; rfl⟩⟩
 · rintro _ _ ⟨rfl, hl⟩
   refine ⟨hp, ?_⟩
   have e : gcdL (ns.take (ns.map V.int).length) = gcdL ns := by rw [List.length_map, List.take_length]
   rcases hl with rfl | ⟨y, rfl⟩
   all_goals
     wtm_at "pw"
     rw [e]; exact h
local macro_rules | `(tactic| wtm_at "fs") => `(tactic| ((with_reducible refine gcd_all_ok (by assumption) _ ?_ _ _ ?hp ?hh); (case hp => wtm_at "hp")))
theorem fdiv_nat (m g : Nat) : Int.fdiv (m : Int) (g : Int) = ((m / g : Nat) : Int) := by
 rw [Int.fdiv_eq_ediv_of_nonneg _ (by first | assumption | decide | omega)]; rfl
theorem fdiv_dvd {a b : Int} (h : b ∣ a) : a.fdiv b * b = a := by
 rw [Int.fdiv_eq_ediv_of_dvd h]; exact Int.ediv_mul_cancel h
theorem sm_nat {a : Int} {n : Nat} (h : sm a) (hn : n ≤ a.natAbs) : sm (n : Int) := bd.of_le h (by simpa using hn)
theorem lcm_of_ok {X : Wd} {w : World} (hX : IsX X w) (a b : Int) (σ : Hp) {lv : Nat} (Q : V → Hp → Prop) (ha : sm a) (hb : sm b) (h0 : a ≠ 0) (h : Q (.int (Int.lcm a b)) σ) : CallV X (lv + 2) (.ref 109) [.int a, .int b] σ Q := by
 have hg : 0 < Int.gcd a b := Int.gcd_pos_of_ne_zero_left _ h0
 have hle : Int.gcd a b ≤ a.natAbs := Nat.le_of_dvd (by first | assumption | decide | omega) (Int.gcd_dvd_natAbs_left a b)
 have e : Int.lcm a b = a.natAbs / Int.gcd a b * b.natAbs := by
   unfold Int.lcm Nat.lcm
   exact (Nat.div_mul_right_comm (Int.gcd_dvd_natAbs_left a b) _).symm
 wtm_at "fn"
 wtm_at "pw"
 · first | assumption | decide | omega
 · exact sm_nat ha hle
 · rw [fdiv_nat]; exact sm_nat ha (Nat.div_le_self _ _)
 · exact sm_nat hb (Nat.le_refl _)
 · rw [fdiv_nat, ← Int.natCast_mul, ← e]; exact h
local macro_rules | `(tactic| wtm_at "fs") => `(tactic| with_reducible refine lcm_of_ok (by assumption) _ _ _ _ ?_ ?_ ?_ ?_)
theorem ratio_core {a b c : Int} (hb : b ≠ 0) (hc : c.natAbs = Int.gcd a b) (hs : (0 < b ∧ 0 < c) ∨ (b < 0 ∧ c < 0)) :
   0 < b.fdiv c ∧ Int.gcd (a.fdiv c) (b.fdiv c) = 1 ∧ a.fdiv c * b = a * b.fdiv c ∧ (a.fdiv c).natAbs ≤ a.natAbs ∧ (b.fdiv c).natAbs ≤ b.natAbs := by
 have ha' : c ∣ a := Int.natAbs_dvd_natAbs.mp (by rw [hc]; exact Int.gcd_dvd_natAbs_left a b)
 have hb' : c ∣ b := Int.natAbs_dvd_natAbs.mp (by rw [hc]; exact Int.gcd_dvd_natAbs_right a b)
 have ea := fdiv_dvd ha'
 have eb := fdiv_dvd hb'
 generalize a.fdiv c = n at *
 generalize b.fdiv c = d at *
 subst ea eb
 have c0 : c ≠ 0 := by rintro rfl; simp at hb
 have cn : 1 ≤ c.natAbs := by first | assumption | decide | omega
 refine ⟨?_, ?_, by rw [Int.mul_right_comm]; ac_rfl, ?_, ?_⟩
 · rcases hs with ⟨h1, h2⟩ | ⟨h1, h2⟩
   · exact Int.pos_of_mul_pos_left h1 h2 |> fun x => x
   · by_cases hd : 0 < d
     · exact hd
     · have : 0 ≤ d * c := Int.mul_nonneg_of_nonpos_of_nonpos (by first | assumption | decide | omega) (by first | assumption | decide | omega)
       first | assumption | decide | omega
 · rw [Int.gcd_mul_right] at hc
   exact Nat.eq_of_mul_eq_mul_right (by first | assumption | decide | omega : 0 < c.natAbs) (by first | assumption | decide | omega)
 · rw [Int.natAbs_mul]; exact Nat.le_mul_of_pos_right _ (by first | assumption | decide | omega)
 · rw [Int.natAbs_mul]; exact Nat.le_mul_of_pos_right _ (by first | assumption | decide | omega)
theorem ratio_ok {X : Wd} {w : World} (hX : IsX X w) (a b : Int) (σ : Hp) {lv : Nat} (Q : V → Hp → Prop) (hb : sm b) (h0 : b ≠ 0)
   (h : ∀ n d : Int, 0 < d → Int.gcd n d = 1 → n * b = a * d → n.natAbs ≤ a.natAbs → d.natAbs ≤ b.natAbs → Q (.tup [.int n, .int d]) σ) : CallV X (lv + 2) (.ref 116) [.int a, .int b] σ Q := by
 have hg : 0 < Int.gcd a b := Int.gcd_pos_of_ne_zero_right _ h0
 have hle : Int.gcd a b ≤ b.natAbs := Nat.le_of_dvd (by first | assumption | decide | omega) (Int.gcd_dvd_natAbs_right a b)
 have hs := sm_nat hb hle
 wtm_at "fn"
 wtm_at "pw"
 · exact absurd (by assumption) h0
 · first | assumption | decide | omega
 · exact hs.neg
 · first | assumption | decide | omega
 · exact hs.neg
 · obtain ⟨h1, h2, h3, h4, h5⟩ := ratio_core (a := a) (b := b) (c := -((Int.gcd a b : Nat) : Int)) h0 (by simp) (by first | assumption | decide | omega)
   exact h _ _ h1 h2 h3 h4 h5
 · first | assumption | decide | omega
 · exact hs
 · first | assumption | decide | omega
 · exact hs
 · obtain ⟨h1, h2, h3, h4, h5⟩ := ratio_core (a := a) (b := b) (c := ((Int.gcd a b : Nat) : Int)) h0 (by simp) (by first | assumption | decide | omega)
   exact h _ _ h1 h2 h3 h4 h5
local macro_rules | `(tactic| wtm_at "fs") => `(tactic| with_reducible refine ratio_ok (by assumption) _ _ _ _ ?_ ?_ ?_)
theorem mul_ok {X : Wd} {w : World} (hX : IsX X w) (a b c d : Int) (σ : Hp) {lv : Nat} (Q : V → Hp → Prop) (ha : bd 3000 a) (hb : bd 3000 b) (hc : bd 3000 c) (hd : bd 3000 d) (h0 : 0 < b) (h1 : 0 < d)
   (h : ∀ n m : Int, 0 < m → Int.gcd n m = 1 → n * (b * d) = a * c * m → n.natAbs ≤ (a * c).natAbs → m.natAbs ≤ (b * d).natAbs → Q (.tup [.int n, .int m]) σ) : CallV X (lv + 3) (.ref 123) [.tup [.int a, .int b], .tup [.int c, .int d]] σ Q := by
 have sa : sm a := ha.mono (by decide)
 have sb : sm b := hb.mono (by decide)
 have sc : sm c := hc.mono (by decide)
 have sd : sm d := hd.mono (by decide)
 have sbd : sm (b * d) := (hb.mul hd).mono (by decide)
 have h0' : b * d ≠ 0 := by have := Int.mul_pos h0 h1; omega
 wtm_at "fn"
 wtm_at "pw"
 any_goals assumption
 · subst_vars
   exact h _ _ (by decide) (by simp) (by simp) (Nat.le_refl _) (by simp)
local macro_rules | `(tactic| wtm_at "fs") => `(tactic| with_reducible refine mul_ok (by assumption) _ _ _ _ _ _ ?_ ?_ ?_ ?_ ?_ ?_ ?_)
theorem floor_of_ok {X : Wd} {w : World} (hX : IsX X w) (a b : Int) (σ : Hp) {lv : Nat} (Q : V → Hp → Prop) (hb : sm b) (h0 : 0 < b) (h : Q (.int (a.fdiv b)) σ) : CallV X (lv + 1) (.ref 130) [.tup [.int a, .int b]] σ Q := by
 wtm_at "fn"
 wtm_at "pw"
 · first | assumption | decide | omega
 · exact hb
 · exact h
theorem ceil_of_ok {X : Wd} {w : World} (hX : IsX X w) (a b : Int) (σ : Hp) {lv : Nat} (Q : V → Hp → Prop) (hb : sm b) (h0 : 0 < b) (h : Q (.int (-((-a).fdiv b))) σ) : CallV X (lv + 1) (.ref 137) [.tup [.int a, .int b]] σ Q := by
 wtm_at "fn"
 wtm_at "pw"
 · first | assumption | decide | omega
 · exact hb
 · exact h
local macro_rules | `(tactic| wtm_at "fs") => `(tactic| with_reducible refine floor_of_ok (by assumption) _ _ _ _ ?_ ?_ ?_)
local macro_rules | `(tactic| wtm_at "fs") => `(tactic| with_reducible refine ceil_of_ok (by assumption) _ _ _ _ ?_ ?_ ?_)
theorem fold_gcd_dvd : ∀ (ns : List Int) (g : Nat), ns.foldl (fun (g : Nat) n => Int.gcd g n) g ∣ g ∧ ∀ n ∈ ns, ns.foldl (fun (g : Nat) n => Int.gcd g n) g ∣ n.natAbs
 | [], g => ⟨Nat.dvd_refl _, by simp⟩
 | n :: ns, g => by
   rw [List.foldl_cons]
   obtain ⟨h1, h2⟩ := fold_gcd_dvd ns (Int.gcd g n)
   refine ⟨Nat.dvd_trans h1 (Nat.gcd_dvd_left _ _), fun m hm => ?_⟩
   rcases List.mem_cons.mp hm with rfl | hm
   · exact Nat.dvd_trans h1 (Nat.gcd_dvd_right _ _)
   · exact h2 m hm
theorem dvd_fold_gcd : ∀ (ns : List Int) (g d : Nat), d ∣ g → (∀ n ∈ ns, d ∣ n.natAbs) → d ∣ ns.foldl (fun (g : Nat) n => Int.gcd g n) g
 | [], g, d, h, _ => h
 | n :: ns, g, d, h, hn => by
   rw [List.foldl_cons]
   exact dvd_fold_gcd ns _ d (Nat.dvd_gcd h (hn n List.mem_cons_self)) fun m hm => hn m (List.mem_cons_of_mem _ hm)
theorem gcdL_dvd (ns : List Int) : ∀ n ∈ ns, gcdL ns ∣ n.natAbs := (fold_gcd_dvd ns 0).2
theorem dvd_gcdL (ns : List Int) (d : Nat) (h : ∀ n ∈ ns, d ∣ n.natAbs) : d ∣ gcdL ns := dvd_fold_gcd ns 0 d (Nat.dvd_zero _) h
theorem gcdL_pos {ns : List Int} {n : Int} (h : n ∈ ns) (h0 : n ≠ 0) : 0 < gcdL ns := by
 rcases Nat.eq_zero_or_pos (gcdL ns) with e | e
 · have := gcdL_dvd ns n h
   rw [e] at this
   have := Nat.eq_zero_of_zero_dvd this
   first | assumption | decide | omega
 · exact e
theorem gcdL_le {ns : List Int} {n : Int} (h : n ∈ ns) (h0 : n ≠ 0) : gcdL ns ≤ n.natAbs := Nat.le_of_dvd (by first | assumption | decide | omega) (gcdL_dvd ns n h)
theorem gcdL_div {us : List Int} {g : Int → Int} {D : Nat} (hD : gcdL (us.map g) = D) (h0 : 0 < D) : gcdL (us.map fun u => (g u).fdiv D) = 1 := by
 have h1 : ∀ u ∈ us, (g u).fdiv D * D = g u := fun u hu => fdiv_dvd (by
   have := gcdL_dvd (us.map g) (g u) (List.mem_map.mpr ⟨u, hu, rfl⟩)
   rw [hD] at this
   exact Int.natAbs_dvd_natAbs.mp (by simpa using this))
 have h2 : gcdL (us.map fun u => (g u).fdiv D) * D ∣ D := by
   rw (occs := .pos [3]) [← hD]
   refine dvd_gcdL _ _ fun n hn => ?_
   obtain ⟨u, hu, rfl⟩ := List.mem_map.mp hn
   have h3 := gcdL_dvd (us.map fun u => (g u).fdiv D) _ (List.mem_map.mpr ⟨u, hu, rfl⟩)
   rw [← h1 u hu, Int.natAbs_mul]
   exact Nat.mul_dvd_mul h3 (by simp)
 obtain ⟨x, hx⟩ := h2
 have : gcdL (us.map fun u => (g u).fdiv D) * x = 1 := by
   generalize gcdL (us.map fun u => (g u).fdiv D) = G at *
   apply Nat.eq_of_mul_eq_mul_right h0
   have e : G * x * D = G * D * x := by ac_rfl
   rw [Nat.one_mul, e]; exact hx.symm
 exact Nat.eq_one_of_mul_eq_one_right this
noncomputable abbrev rq (q : Int × Int) : Rat := (q.1 : Rat) / (q.2 : Rat)
structure NRow (used : List Int) (f : Int → Int × Int) (kd : Int → Int) (bn : Int × Int) (st : Bool) (k : Int → Int) (q : Int × Int) (st' : Bool) : Prop where
 empty : used = [] → q = bn ∧ st' = st
 full : used ≠ [] → ∃ c : Rat, 0 < c ∧ (∀ u ∈ used, (k u : Rat) = c * rq (f u)) ∧ gcdL (used.map k) = 1 ∧ ∃ n m : Int, 0 < m ∧ Int.gcd n m = 1 ∧ rq (n, m) = c * rq bn ∧
   ((∀ u ∈ used, kd u = 1) → st' = false ∧ q = (if st then -((-n).fdiv m) - 1 else n.fdiv m, 1)) ∧ ((¬ ∀ u ∈ used, kd u = 1) → q = (n, m) ∧ st' = st)
 pos : 0 < q.2
 s1 : bd 700 q.1
 s2 : bd 700 q.2
 sk : ∀ u ∈ used, bd 700 (k u)
theorem fold_gcd_mul (a : Int) : ∀ (ns : List Int) (g : Nat), (ns.map (· * a)).foldl (fun (g : Nat) n => Int.gcd g n) (g * a.natAbs) = ns.foldl (fun (g : Nat) n => Int.gcd g n) g * a.natAbs
 | [], g => rfl
 | n :: ns, g => by
   rw [List.map_cons, List.foldl_cons, List.foldl_cons]
   have : Int.gcd ((g * a.natAbs : Nat) : Int) (n * a) = Int.gcd g n * a.natAbs := by
     rw [← Int.gcd_mul_right]
     rw [Int.gcd_eq_natAbs_gcd_natAbs, Int.gcd_eq_natAbs_gcd_natAbs]
     simp [Int.natAbs_mul]
   rw [this]; exact fold_gcd_mul a ns _
theorem gcdL_mul (ns : List Int) (a : Int) : gcdL (ns.map (· * a)) = gcdL ns * a.natAbs := by
 have := fold_gcd_mul a ns 0
 simpa [gcdL] using this
theorem gcdL_scale {us : List Int} {k g : Int → Int} {a b : Int} (ha : 0 < a) (hb : 0 < b) (h : ∀ u ∈ us, k u * a = g u * b) : (gcdL (us.map k) : Int) * a = gcdL (us.map g) * b := by
 have h1 := gcdL_mul (us.map k) a
 have h2 := gcdL_mul (us.map g) b
 have e : (us.map k).map (· * a) = (us.map g).map (· * b) := by
   rw [List.map_map, List.map_map]
   exact List.map_congr_left h
 rw [e, h2] at h1
 have h3 : ((gcdL (us.map g) * b.natAbs : Nat) : Int) = (gcdL (us.map k) * a.natAbs : Nat) := by rw [h1]
 have ea : ((a.natAbs : Nat) : Int) = a := by first | assumption | decide | omega
 have eb : ((b.natAbs : Nat) : Int) = b := by first | assumption | decide | omega
 rw [Int.natCast_mul, Int.natCast_mul, ea, eb] at h3
 exact h3.symm
theorem rat_pos {c : Rat} (h : 0 < c) : 0 < c.num := by
 have := Rat.num_nonneg.mpr (Rat.le_of_lt h)
 have h2 : c.num ≠ 0 := by intro e; rw [Rat.num_eq_zero] at e; rw [e] at h; exact absurd h (by decide)
 first | assumption | decide | omega
theorem rat_den (c : Rat) : c * (c.den : Rat) = c.num := by
 have h : (c.den : Rat) ≠ 0 := by have := c.den_nz; intro e; exact this (by exact_mod_cast e)
 have := Rat.num_divInt_den c
 rw [Rat.divInt_eq_div, Rat.intCast_natCast] at this
 rw (occs := .pos [1]) [← this]
 exact Rat.div_mul_cancel h
theorem ratI {a : Int} (h : 0 < a) : (a : Rat) ≠ 0 := by
 intro e; have : a = 0 := by exact_mod_cast e
 first | assumption | decide | omega
theorem ratP {a : Int} (h : 0 < a) : 0 < (a : Rat) := Rat.intCast_pos.mpr h
theorem prim_core {us : List Int} {k g : Int → Int} {c : Rat} {many : Int} (hc : 0 < c) (hm : 0 < many) (hk : gcdL (us.map k) = 1) (h : ∀ u ∈ us, (k u : Rat) = c * ((g u : Rat) / (many : Rat))) :
   0 < gcdL (us.map g) ∧ (∀ u ∈ us, g u = k u * gcdL (us.map g)) ∧ c * gcdL (us.map g) = many := by
 have hn := rat_pos hc
 have hd : (0 : Int) < c.den := by have := c.den_nz; omega
 have hm' : (many : Rat) ≠ 0 := by
   intro e; have : many = 0 := by exact_mod_cast e
   first | assumption | decide | omega
 have hcd : (c.den : Rat) ≠ 0 := by
   intro e; have : c.den = 0 := by exact_mod_cast e
   first | assumption | decide | omega
 have hcn : c * (c.den : Rat) = c.num := rat_den c
 have e1 : ∀ u ∈ us, k u * (c.den * many) = g u * c.num := fun u hu => by
   have := h u hu
   have e : ((k u * (c.den * many) : Int) : Rat) = ((g u * c.num : Int) : Rat) := by
     rw [Rat.intCast_mul, Rat.intCast_mul, Rat.intCast_mul, ← hcn, this]
     have : (((c.den : Int)) : Rat) = (c.den : Rat) := Rat.intCast_natCast _
     rw [this]
     grind
   exact_mod_cast e
 have hpos : 0 < (c.den : Int) * many := Int.mul_pos hd hm
 have e2 := gcdL_scale hpos hn e1
 rw [hk] at e2
 have hG : (0 : Int) < gcdL (us.map g) := by
   rcases Nat.eq_zero_or_pos (gcdL (us.map g)) with e | e
   · rw [e] at e2; simp at e2; omega
   · first | assumption | decide | omega
 refine ⟨by first | assumption | decide | omega, fun u hu => ?_, ?_⟩
 · have := e1 u hu
   have e3 : (c.den : Int) * many = gcdL (us.map g) * c.num := by simpa using e2
   rw [e3] at this
   have : g u * c.num = (k u * gcdL (us.map g)) * c.num := by rw [← this]; ac_rfl
   exact Int.eq_of_mul_eq_mul_right (by first | assumption | decide | omega) this
 · have e3 : (c.den : Int) * many = gcdL (us.map g) * c.num := by simpa using e2
   have e4 : (((c.den : Int) * many : Int) : Rat) = ((gcdL (us.map g) * c.num : Int) : Rat) := by rw [e3]
   rw [Rat.intCast_mul, Rat.intCast_mul, ← hcn] at e4
   have e5 : (((c.den : Int)) : Rat) = (c.den : Rat) := Rat.intCast_natCast _
   have e6 : ((((gcdL (us.map g) : Nat)) : Int) : Rat) = ((gcdL (us.map g) : Nat) : Rat) := Rat.intCast_natCast _
   rw [e5, e6] at e4
   grind
theorem nrow_mk {used : List Int} {f : Int → Int × Int} {kd : Int → Int} {bn : Int × Int} {st st' : Bool} {wv : Int → Int} {B D : Nat} {B' D' n m : Int} {q : Int × Int} (hne : used ≠ []) (hf : ∀ u ∈ used, 0 < (f u).2) (hwv : ∀ u ∈ used, wv u ≠ 0 ∧ wv u * (f u).2 = (f u).1 * B ∧ bd 400 (wv u))
   (hDv : gcdL (used.map wv) = D) (hD0 : 0 < D) (hB0 : 0 < B) (hD'0 : 0 < D') (e' : B' * D = B * D') (hb0 : 0 < bn.2) (hb1 : bd 200 bn.1) (hb2 : bd 200 bn.2) (hB' : bd 200 B') (hD' : bd 400 D')
   (hm : 0 < m) (hg : Int.gcd n m = 1) (e : n * (bn.2 * D') = bn.1 * B' * m) (hn1 : n.natAbs ≤ (bn.1 * B').natAbs) (hm1 : m.natAbs ≤ (bn.2 * D').natAbs)
   (h1 : (∀ u ∈ used, kd u = 1) → st' = false ∧ q = (if st then -((-n).fdiv m) - 1 else n.fdiv m, 1)) (h2 : (¬ ∀ u ∈ used, kd u = 1) → q = (n, m) ∧ st' = st) : NRow used f kd bn st (fun u => (wv u).fdiv D) q st' := by
 have hk : ∀ u ∈ used, (wv u).fdiv D * D = wv u := fun u hu => fdiv_dvd (by
   have := gcdL_dvd (used.map wv) (wv u) (List.mem_map.mpr ⟨u, hu, rfl⟩)
   rw [hDv] at this
   exact Int.natAbs_dvd_natAbs.mp (by simpa using this))
 have d0 : ((D : Int) : Rat) ≠ 0 := ratI (by first | assumption | decide | omega)
 have dp : 0 < ((D : Int) : Rat) := ratP (by first | assumption | decide | omega)
 have bp : 0 < ((B : Int) : Rat) := ratP (by first | assumption | decide | omega)
 have bn1 : bd 400 n := bd.of_le (hb1.mul hB') hn1
 have bm1 : bd 600 m := bd.of_le (hb2.mul hD') hm1
 have m0 := ratI hm
 have b0 := ratI hb0
 have d'0 := ratI hD'0
 have small : ∀ a : Int, a.fdiv m = a / m := fun a => Int.fdiv_eq_ediv_of_nonneg _ (by first | assumption | decide | omega)
 have le : ∀ a : Int, bd 400 a → bd 402 (a.fdiv m) := fun a ha => by
   rw [small]
   unfold bd at ha ⊢
   have h3 := Int.natAbs_ediv_le_natAbs a m
   have : (2:Nat)^402 = 2^400*2^2 := Nat.pow_add 2 400 2
   first | assumption | decide | omega
 refine ⟨fun e => absurd e hne, fun _ => ⟨((B : Int) : Rat) / ((D : Int) : Rat), ?_, fun u hu => ?_, gcdL_div hDv hD0, n, m, hm, hg, ?_, h1, h2⟩, ?_, ?_, ?_, fun u hu => ?_⟩
 · rw [Rat.lt_div_iff dp]; rw [Rat.zero_mul]; exact bp
 · have f0 := ratI (hf u hu)
   have e1 : (((wv u).fdiv D : Int) : Rat) * ((D : Int) : Rat) = ((wv u : Int) : Rat) := by rw [← Rat.intCast_mul, hk u hu]
   have e2 : ((wv u : Int) : Rat) * (((f u).2 : Int) : Rat) = (((f u).1 : Int) : Rat) * ((B : Int) : Rat) := by rw [← Rat.intCast_mul, ← Rat.intCast_mul, (hwv u hu).2.1]
   show _ = _ * ((((f u).1 : Int) : Rat) / (((f u).2 : Int) : Rat))
   grind
 · have e1 : ((n : Int) : Rat) * ((bn.2 : Rat) * (D' : Rat)) = (bn.1 : Rat) * (B' : Rat) * (m : Rat) := by
     rw [← Rat.intCast_mul, ← Rat.intCast_mul, ← Rat.intCast_mul, ← Rat.intCast_mul, e]
   have e2 : (B' : Rat) * ((D : Int) : Rat) = ((B : Int) : Rat) * (D' : Rat) := by rw [← Rat.intCast_mul, ← Rat.intCast_mul, e']
   show ((n : Int) : Rat) / (m : Rat) = _ * ((bn.1 : Rat) / (bn.2 : Rat))
   grind
 · by_cases hA : ∀ u ∈ used, kd u = 1
   · rw [(h1 hA).2]; exact Int.one_pos
   · rw [(h2 hA).1]; exact hm
 · by_cases hA : ∀ u ∈ used, kd u = 1
   · rw [(h1 hA).2]
     cases st
     · exact (le n bn1).mono (by decide)
     · exact (bd.sub ((le _ bn1.neg).neg) (bd.mono (i := 1) (by unfold bd; decide) (by decide))).mono (by decide)
   · rw [(h2 hA).1]; exact bn1.mono (by decide)
 · by_cases hA : ∀ u ∈ used, kd u = 1
   · rw [(h1 hA).2]; exact bd.mono (i := 1) (show bd 1 1 by unfold bd; decide) (by decide)
   · rw [(h2 hA).1]; exact bm1.mono (by decide)
 · refine bd.mono (i := 400) (bd.of_le (hwv u hu).2.2 ?_) (by decide)
   rw (occs := .pos [2]) [← hk u hu]
   rw [Int.natAbs_mul]; exact Nat.le_mul_of_pos_right _ (by first | assumption | decide | omega)
theorem nrow_nil {f : Int → Int × Int} {kd : Int → Int} {bn : Int × Int} {st : Bool} {k : Int → Int} (hb0 : 0 < bn.2) (hb1 : bd 200 bn.1) (hb2 : bd 200 bn.2) : NRow [] f kd bn st k bn st :=
 ⟨fun _ => ⟨rfl, rfl⟩, fun h => absurd rfl h, hb0, hb1.mono (by decide), hb2.mono (by decide), fun _ h => nomatch h⟩
structure Bk where
 (dx to ta ts td nb fn fa fr : Addr)
 des : List (Key × V)
 ep : Nat
structure BkT (σ : Hp) (p : Addr) (b : Bk) (ops as ss ds : List V) (es : List (List TK × V)) (fns fas frs : List V) : Prop where
 ip : σ p = some (.inst 684 b.dx)
 idx : σ b.dx = some (.dict b.des b.ep)
 lto : dlook b.des (.str "term_ops") = some (.ref b.to)
 lta : dlook b.des (.str "term_args") = some (.ref b.ta)
 lts : dlook b.des (.str "term_sorts") = some (.ref b.ts)
 ltd : dlook b.des (.str "term_datas") = some (.ref b.td)
 lnb : dlook b.des (.str "numbers") = some (.ref b.nb)
 lfn : dlook b.des (.str "fun_names") = some (.ref b.fn)
 lfa : dlook b.des (.str "fun_args") = some (.ref b.fa)
 lfr : dlook b.des (.str "fun_results") = some (.ref b.fr)
 nmk : dlook b.des (.str "make") = none
 ndf : dlook b.des (.str "declare_fun") = none
 nfc : dlook b.des (.str "fresh_const") = none
 nso : dlook b.des (.str "sort") = none
 gto : σ b.to = some (.list ops)
 gta : σ b.ta = some (.list as)
 gts : σ b.ts = some (.list ss)
 gtd : σ b.td = some (.list ds)
 gnb : σ b.nb = some (.tdict es)
 gfn : σ b.fn = some (.list fns)
 gfa : σ b.fa = some (.list fas)
 gfr : σ b.fr = some (.list frs)
 nd : [b.to, b.ta, b.ts, b.td, b.fn, b.fa, b.fr].Nodup
 e1 : as.length = ops.length
 e2 : ss.length = ops.length
 e3 : ds.length = ops.length
 e4 : es.length ≤ ops.length
noncomputable def Bk.all (b : Bk) : List Addr := [b.to, b.ta, b.ts, b.td, b.nb, b.fn, b.fa, b.fr]
theorem ne_kind {σ : Hp} {a b : Addr} {x y : O} (h1 : σ a = some x) (h2 : σ b = some y) (h : x ≠ y) : a ≠ b := by
 rintro rfl; rw [h1] at h2; exact h (Option.some.inj h2)
namespace E3
structure ZT where
 X : Wd
 w : World
 p : Addr
 b : Bk
 ops : List V
 as : List V
 ss : List V
 ds : List V
 fns : List V
 fas : List V
 frs : List V
 es : List (List TK × V)
 op : Str
 args : List V
 s : Int
 data : V
 ks : List TK
 σ : Hp
 lv : Nat
 Q : V → Hp → Prop
noncomputable def ZS : ZT → Prop := fun ⟨X, w, p, b, ops, as, ss, ds, fns, fas, frs, es, op, args, s, data, ks, σ, lv, Q⟩ => ∀ (hX : IsX X w) (T : BkT σ p b ops as ss ds es fns fas frs) (hk : tksOf [.str op, .tup args, .int s, data] = some ks) (hnew : tlook es ks = none) (hl : ops.length < 1000) (h : ∀ σ', BkT σ' p b (ops ++ [.str op]) (as ++ [.tup args]) (ss ++ [.int s]) (ds ++ [data]) (es ++ [(ks, .int ops.length)]) fns fas frs → (∀ a o, a ∉ b.all → σ a = some o → σ' a = some o) → Q (.int ops.length) σ'), CallV X (lv + 2) (.ref 298) [.ref p, .str op, .tup args, .int s, data] σ Q
theorem zn : Nonempty ZT := ⟨⟨aWd, (PySem.W.aWorld 1), 0, ⟨0, 0, 0, 0, 0, 0, 0, 0, 0, [], 0⟩, [], [], [], [], [], [], [], [], (Str.ofString ""), [], 0, .none, [], (fun _ => none), 0, (fun _ _ => True)⟩⟩
noncomputable def ze : ZT := epsW zn ZS
noncomputable def X : Wd := ze.X
noncomputable def w : World := ze.w
noncomputable def p : Addr := ze.p
noncomputable def b : Bk := ze.b
noncomputable def ops : List V := ze.ops
noncomputable def as : List V := ze.as
noncomputable def ss : List V := ze.ss
noncomputable def ds : List V := ze.ds
noncomputable def fns : List V := ze.fns
noncomputable def fas : List V := ze.fas
noncomputable def frs : List V := ze.frs
noncomputable def es : List (List TK × V) := ze.es
noncomputable def op : Str := ze.op
noncomputable def args : List V := ze.args
noncomputable def s : Int := ze.s
noncomputable def data : V := ze.data
noncomputable def ks : List TK := ze.ks
noncomputable def σ : Hp := ze.σ
noncomputable def lv : Nat := ze.lv
noncomputable def Q : V → Hp → Prop := ze.Q
theorem zc : ∀ (hX : IsX X w) (T : BkT σ p b ops as ss ds es fns fas frs) (hk : tksOf [.str op, .tup args, .int s, data] = some ks) (hnew : tlook es ks = none) (hl : ops.length < 1000) (h : ∀ σ', BkT σ' p b (ops ++ [.str op]) (as ++ [.tup args]) (ss ++ [.int s]) (ds ++ [data]) (es ++ [(ks, .int ops.length)]) fns fas frs → (∀ a o, a ∉ b.all → σ a = some o → σ' a = some o) → Q (.int ops.length) σ'), CallV X (lv + 2) (.ref 298) [.ref p, .str op, .tup args, .int s, data] σ Q := by
 intro hX T hk hnew hl h
 obtain ⟨ip, idx, lto, lta, lts, ltd, lnb, lfn, lfa, lfr, nmk, ndf, nfc, nso, gto, gta, gts, gtd, gnb, gfn, gfa, gfr, nd, e1, e2, e3, e4⟩ := id T
 simp only [List.nodup_cons, List.mem_cons, List.not_mem_nil, or_false, not_or, not_false_eq_true, List.nodup_nil, and_true] at nd
 obtain ⟨⟨n1, n2, n3, n4, n5, n6⟩, ⟨n7, n8, n9, n10, n11⟩, ⟨n12, n13, n14, n15⟩, ⟨n16, n17, n18⟩, ⟨n19, n20⟩, n21⟩ := nd
 have k1 := ne_kind gnb gto (by simp)
 have k2 := ne_kind gnb gta (by simp)
 have k3 := ne_kind gnb gts (by simp)
 have k4 := ne_kind gnb gtd (by simp)
 have k5 := ne_kind gnb gfn (by simp)
 have k6 := ne_kind gnb gfa (by simp)
 have k7 := ne_kind gnb gfr (by simp)
 have p1 := ne_kind ip gto (by simp)
 have p2 := ne_kind ip gta (by simp)
 have p3 := ne_kind ip gts (by simp)
 have p4 := ne_kind ip gtd (by simp)
 have p5 := ne_kind ip gnb (by simp)
 have d1 := ne_kind idx gto (by simp)
 have d2 := ne_kind idx gta (by simp)
 have d3 := ne_kind idx gts (by simp)
 have d4 := ne_kind idx gtd (by simp)
 have d5 := ne_kind idx gnb (by simp)
 have z1 : ops.length < lim := by simp only [lim]; (clear n20 n19 n21 n18 n17 n16 n15 n14 n13 n12 n11 n10 n9 n8 n7 n6 n5 n4 n3 n2 n1 e4; omega)
 have z2 : as.length < lim := by simp only [lim]; (clear z1 n20 n19 n21 n18 n17 n16 n15 n14 n13 n12 n11 n10 n9 n8 n7 n6 n5 n4 n3 n2 n1 e4; omega)
 have z3 : ss.length < lim := by simp only [lim]; (clear z2 z1 n20 n19 n21 n18 n17 n16 n15 n14 n13 n12 n11 n10 n9 n8 n7 n6 n5 n4 n3 n2 n1 e4; omega)
 have z4 : ds.length < lim := by simp only [lim]; omega
 have z5 : es.length < lim := by simp only [lim]; omega
 wtm_at "fn"
 wtm_at "pw"
 rw [hnew, Option.getD_none]
 wtm_at "pw"
 · refine h _ ⟨?_, ?_, lto, lta, lts, ltd, lnb, lfn, lfa, lfr, nmk, ndf, nfc, nso, ?_, ?_, ?_, ?_, ?_, ?_, ?_, ?_, T.nd, ?_, ?_, ?_, ?_⟩ ?_
   all_goals first
     | wtm_at "hp"
     | (simp only [List.length_append, List.length_cons, List.length_nil]; omega)
     | skip
   intro a o ha e
   simp only [Bk.all, List.mem_cons, List.not_mem_nil, or_false, not_or] at ha
   obtain ⟨a1, a2, a3, a4, a5, a6, a7, a8⟩ := ha
   wtm_at "hp"
 · rename_i e; exact absurd rfl e
end E3
theorem make_ok {X : Wd} {w : World} (hX : IsX X w) (p : Addr) (b : Bk) (ops as ss ds fns fas frs : List V) (es : List (List TK × V)) (op : Str) (args : List V) (s : Int) (data : V) (ks : List TK) (σ : Hp) {lv : Nat} (Q : V → Hp → Prop) (T : BkT σ p b ops as ss ds es fns fas frs) (hk : tksOf [.str op, .tup args, .int s, data] = some ks) (hnew : tlook es ks = none) (hl : ops.length < 1000) (h : ∀ σ', BkT σ' p b (ops ++ [.str op]) (as ++ [.tup args]) (ss ++ [.int s]) (ds ++ [data]) (es ++ [(ks, .int ops.length)]) fns fas frs → (∀ a o, a ∉ b.all → σ a = some o → σ' a = some o) → Q (.int ops.length) σ') : CallV X (lv + 2) (.ref 298) [.ref p, .str op, .tup args, .int s, data] σ Q :=
 (epsW_elim E3.zn (S := E3.ZS) E3.zc ⟨X, w, p, b, ops, as, ss, ds, fns, fas, frs, es, op, args, s, data, ks, σ, lv, Q⟩) hX T hk hnew hl h
namespace E3b
structure ZT where
 X : Wd
 w : World
 p : Addr
 b : Bk
 ops : List V
 as : List V
 ss : List V
 ds : List V
 fns : List V
 fas : List V
 frs : List V
 es : List (List TK × V)
 name : Str
 args : List V
 s : Int
 σ : Hp
 lv : Nat
 Q : V → Hp → Prop
noncomputable def ZS : ZT → Prop := fun ⟨X, w, p, b, ops, as, ss, ds, fns, fas, frs, es, name, args, s, σ, lv, Q⟩ => ∀ (hX : IsX X w) (T : BkT σ p b ops as ss ds es fns fas frs) (l1 : fns.length < 1000) (l2 : fas.length < 1000) (l3 : frs.length < 1000) (h : ∀ σ', BkT σ' p b ops as ss ds es (fns ++ [.str name]) (fas ++ [.tup args]) (frs ++ [.int s]) → (∀ a o, a ∉ b.all → σ a = some o → σ' a = some o) → Q (.int fns.length) σ'), CallV X (lv + 2) (.ref 207) [.ref p, .str name, .tup args, .int s] σ Q
theorem zn : Nonempty ZT := ⟨⟨aWd, (PySem.W.aWorld 1), 0, ⟨0, 0, 0, 0, 0, 0, 0, 0, 0, [], 0⟩, [], [], [], [], [], [], [], [], (Str.ofString ""), [], 0, (fun _ => none), 0, (fun _ _ => True)⟩⟩
noncomputable def ze : ZT := epsW zn ZS
noncomputable def X : Wd := ze.X
noncomputable def w : World := ze.w
noncomputable def p : Addr := ze.p
noncomputable def b : Bk := ze.b
noncomputable def ops : List V := ze.ops
noncomputable def as : List V := ze.as
noncomputable def ss : List V := ze.ss
noncomputable def ds : List V := ze.ds
noncomputable def fns : List V := ze.fns
noncomputable def fas : List V := ze.fas
noncomputable def frs : List V := ze.frs
noncomputable def es : List (List TK × V) := ze.es
noncomputable def name : Str := ze.name
noncomputable def args : List V := ze.args
noncomputable def s : Int := ze.s
noncomputable def σ : Hp := ze.σ
noncomputable def lv : Nat := ze.lv
noncomputable def Q : V → Hp → Prop := ze.Q
theorem zc : ∀ (hX : IsX X w) (T : BkT σ p b ops as ss ds es fns fas frs) (l1 : fns.length < 1000) (l2 : fas.length < 1000) (l3 : frs.length < 1000) (h : ∀ σ', BkT σ' p b ops as ss ds es (fns ++ [.str name]) (fas ++ [.tup args]) (frs ++ [.int s]) → (∀ a o, a ∉ b.all → σ a = some o → σ' a = some o) → Q (.int fns.length) σ'), CallV X (lv + 2) (.ref 207) [.ref p, .str name, .tup args, .int s] σ Q := by
 intro hX T l1 l2 l3 h
 obtain ⟨ip, idx, lto, lta, lts, ltd, lnb, lfn, lfa, lfr, nmk, ndf, nfc, nso, gto, gta, gts, gtd, gnb, gfn, gfa, gfr, nd, e1, e2, e3, e4⟩ := id T
 simp only [List.nodup_cons, List.mem_cons, List.not_mem_nil, or_false, not_or, not_false_eq_true, List.nodup_nil, and_true] at nd
 obtain ⟨⟨n1, n2, n3, n4, n5, n6⟩, ⟨n7, n8, n9, n10, n11⟩, ⟨n12, n13, n14, n15⟩, ⟨n16, n17, n18⟩, ⟨n19, n20⟩, n21⟩ := nd
 have k5 := ne_kind gnb gfn (by simp)
 have k6 := ne_kind gnb gfa (by simp)
 have k7 := ne_kind gnb gfr (by simp)
 have p1 := ne_kind ip gfn (by simp)
 have p2 := ne_kind ip gfa (by simp)
 have p3 := ne_kind ip gfr (by simp)
 have d1 := ne_kind idx gfn (by simp)
 have d2 := ne_kind idx gfa (by simp)
 have d3 := ne_kind idx gfr (by simp)
 have z1 : fns.length < lim := by simp only [lim]; omega
 have z2 : fas.length < lim := by simp only [lim]; omega
 have z3 : frs.length < lim := by simp only [lim]; omega
 wtm_at "fn"
 wtm_at "pw"
 have e : ((fns ++ [V.str name]).length : Int) - 1 = fns.length := by simp
 rw [e]
 refine h _ ⟨?_, ?_, lto, lta, lts, ltd, lnb, lfn, lfa, lfr, nmk, ndf, nfc, nso, ?_, ?_, ?_, ?_, ?_, ?_, ?_, ?_, T.nd, ?_, ?_, ?_, ?_⟩ ?_
 all_goals first
   | wtm_at "hp"
   | (simp only [List.length_append, List.length_cons, List.length_nil]; omega)
   | skip
 intro a o ha e
 simp only [Bk.all, List.mem_cons, List.not_mem_nil, or_false, not_or] at ha
 obtain ⟨a1, a2, a3, a4, a5, a6, a7, a8⟩ := ha
 wtm_at "hp"
end E3b
theorem declare_fun_ok {X : Wd} {w : World} (hX : IsX X w) (p : Addr) (b : Bk) (ops as ss ds fns fas frs : List V) (es : List (List TK × V)) (name : Str) (args : List V) (s : Int) (σ : Hp) {lv : Nat} (Q : V → Hp → Prop) (T : BkT σ p b ops as ss ds es fns fas frs) (l1 : fns.length < 1000) (l2 : fas.length < 1000) (l3 : frs.length < 1000) (h : ∀ σ', BkT σ' p b ops as ss ds es (fns ++ [.str name]) (fas ++ [.tup args]) (frs ++ [.int s]) → (∀ a o, a ∉ b.all → σ a = some o → σ' a = some o) → Q (.int fns.length) σ') : CallV X (lv + 2) (.ref 207) [.ref p, .str name, .tup args, .int s] σ Q :=
 (epsW_elim E3b.zn (S := E3b.ZS) E3b.zc ⟨X, w, p, b, ops, as, ss, ds, fns, fas, frs, es, name, args, s, σ, lv, Q⟩) hX T l1 l2 l3 h
local macro_rules | `(tactic| wtm_at "fs") => `(tactic| ((with_reducible refine make_ok (by assumption) _ ?_ ?_ ?_ ?_ ?_ ?_ ?_ ?_ ?_ _ _ _ _ ?_ _ _ ?T ?hk ?hn ?hl ?hh); (case T => assumption); (case hk => first | exact rfl | assumption); (case hn => assumption); (case hl => assumption)))
local macro_rules | `(tactic| wtm_at "fs") => `(tactic| ((with_reducible refine declare_fun_ok (by assumption) _ ?_ ?_ ?_ ?_ ?_ ?_ ?_ ?_ ?_ _ _ _ _ _ ?T ?h1 ?h2 ?h3 ?hh); (case T => assumption); (case h1 => assumption); (case h2 => assumption); (case h3 => assumption)))
namespace E3c
structure ZT where
 X : Wd
 w : World
 p : Addr
 b : Bk
 ops : List V
 as : List V
 ss : List V
 ds : List V
 fns : List V
 fas : List V
 frs : List V
 es : List (List TK × V)
 name : Str
 s : Int
 σ : Hp
 lv : Nat
 Q : V → Hp → Prop
noncomputable def ZS : ZT → Prop := fun ⟨X, w, p, b, ops, as, ss, ds, fns, fas, frs, es, name, s, σ, lv, Q⟩ => ∀ (hX : IsX X w) (T : BkT σ p b ops as ss ds es fns fas frs) (l1 : fns.length < 1000) (l2 : fas.length < 1000) (l3 : frs.length < 1000) (hnew : tlook es [.str (Str.ofString "app"), .nums [], .int s, .int fns.length] = none) (hl : ops.length < 1000) (h : ∀ σ', BkT σ' p b (ops ++ [.str (Str.ofString "app")]) (as ++ [.tup []]) (ss ++ [.int s]) (ds ++ [.int fns.length]) (es ++ [([.str (Str.ofString "app"), .nums [], .int s, .int fns.length], .int ops.length)]) (fns ++ [.str name]) (fas ++ [.tup []]) (frs ++ [.int s]) → (∀ a o, a ∉ b.all → σ a = some o → σ' a = some o) → Q (.int ops.length) σ'), CallV X (lv + 3) (.ref 221) [.ref p, .str name, .int s] σ Q
theorem zn : Nonempty ZT := ⟨⟨aWd, (PySem.W.aWorld 1), 0, ⟨0, 0, 0, 0, 0, 0, 0, 0, 0, [], 0⟩, [], [], [], [], [], [], [], [], (Str.ofString ""), 0, (fun _ => none), 0, (fun _ _ => True)⟩⟩
noncomputable def ze : ZT := epsW zn ZS
noncomputable def X : Wd := ze.X
noncomputable def w : World := ze.w
noncomputable def p : Addr := ze.p
noncomputable def b : Bk := ze.b
noncomputable def ops : List V := ze.ops
noncomputable def as : List V := ze.as
noncomputable def ss : List V := ze.ss
noncomputable def ds : List V := ze.ds
noncomputable def fns : List V := ze.fns
noncomputable def fas : List V := ze.fas
noncomputable def frs : List V := ze.frs
noncomputable def es : List (List TK × V) := ze.es
noncomputable def name : Str := ze.name
noncomputable def s : Int := ze.s
noncomputable def σ : Hp := ze.σ
noncomputable def lv : Nat := ze.lv
noncomputable def Q : V → Hp → Prop := ze.Q
theorem zc : ∀ (hX : IsX X w) (T : BkT σ p b ops as ss ds es fns fas frs) (l1 : fns.length < 1000) (l2 : fas.length < 1000) (l3 : frs.length < 1000) (hnew : tlook es [.str (Str.ofString "app"), .nums [], .int s, .int fns.length] = none) (hl : ops.length < 1000) (h : ∀ σ', BkT σ' p b (ops ++ [.str (Str.ofString "app")]) (as ++ [.tup []]) (ss ++ [.int s]) (ds ++ [.int fns.length]) (es ++ [([.str (Str.ofString "app"), .nums [], .int s, .int fns.length], .int ops.length)]) (fns ++ [.str name]) (fas ++ [.tup []]) (frs ++ [.int s]) → (∀ a o, a ∉ b.all → σ a = some o → σ' a = some o) → Q (.int ops.length) σ'), CallV X (lv + 3) (.ref 221) [.ref p, .str name, .int s] σ Q := by
 intro hX T l1 l2 l3 hnew hl h
 obtain ⟨ip, idx, lto, lta, lts, ltd, lnb, lfn, lfa, lfr, nmk, ndf, nfc, nso, gto, gta, gts, gtd, gnb, gfn, gfa, gfr, nd, e1, e2, e3, e4⟩ := id T
 wtm_at "fn"
 wtm_at "pw"
 intro σ₁ T₁ k₁
 wtm_at "pw"
 intro σ₂ T₂ k₂
 exact h σ₂ T₂ fun a o ha e => k₂ a o ha (k₁ a o ha e)
end E3c
theorem fresh_const_ok {X : Wd} {w : World} (hX : IsX X w) (p : Addr) (b : Bk) (ops as ss ds fns fas frs : List V) (es : List (List TK × V)) (name : Str) (s : Int) (σ : Hp) {lv : Nat} (Q : V → Hp → Prop) (T : BkT σ p b ops as ss ds es fns fas frs) (l1 : fns.length < 1000) (l2 : fas.length < 1000) (l3 : frs.length < 1000) (hnew : tlook es [.str (Str.ofString "app"), .nums [], .int s, .int fns.length] = none) (hl : ops.length < 1000) (h : ∀ σ', BkT σ' p b (ops ++ [.str (Str.ofString "app")]) (as ++ [.tup []]) (ss ++ [.int s]) (ds ++ [.int fns.length]) (es ++ [([.str (Str.ofString "app"), .nums [], .int s, .int fns.length], .int ops.length)]) (fns ++ [.str name]) (fas ++ [.tup []]) (frs ++ [.int s]) → (∀ a o, a ∉ b.all → σ a = some o → σ' a = some o) → Q (.int ops.length) σ') : CallV X (lv + 3) (.ref 221) [.ref p, .str name, .int s] σ Q :=
 (epsW_elim E3c.zn (S := E3c.ZS) E3c.zc ⟨X, w, p, b, ops, as, ss, ds, fns, fas, frs, es, name, s, σ, lv, Q⟩) hX T l1 l2 l3 hnew hl h
theorem sort_ok {X : Wd} {w : World} (hX : IsX X w) (p : Addr) (b : Bk) (ops as ss ds fns fas frs : List V) (es : List (List TK × V)) (t : Int) (v : V) (σ : Hp) {lv : Nat} (Q : V → Hp → Prop)
   (T : BkT σ p b ops as ss ds es fns fas frs) (hv : vidx ss t = some v) (h : Q v σ) : CallV X (lv + 1) (.ref 270) [.ref p, .int t] σ Q := by
 obtain ⟨ip, idx, lto, lta, lts, ltd, lnb, lfn, lfa, lfr, nmk, ndf, nfc, nso, gto, gta, gts, gtd, gnb, gfn, gfa, gfr, nd, e1, e2, e3, e4⟩ := id T
 wtm_at "fn"
 wtm_at "pw"
 exact getP.list gts hv h
local macro_rules | `(tactic| wtm_at "fs") => `(tactic| ((with_reducible refine fresh_const_ok (by assumption) _ ?_ ?_ ?_ ?_ ?_ ?_ ?_ ?_ ?_ _ _ _ _ ?T ?h1 ?h2 ?h3 ?hn ?hl ?hh); (case T => assumption); (case h1 => assumption); (case h2 => assumption); (case h3 => assumption); (case hn => assumption); (case hl => assumption)))
local macro_rules | `(tactic| wtm_at "fs") => `(tactic| ((with_reducible refine sort_ok (by assumption) _ ?_ ?_ ?_ ?_ ?_ ?_ ?_ ?_ ?_ _ ?_ _ _ ?T ?hv ?hh); (case T => assumption); (case hv => assumption)))
noncomputable def tapeD (c : Addr) (n : Nat) : List (Key × V) := [(.str (Str.ofString "cells"), .ref c), (.str (Str.ofString "spot"), .int n)]
structure Tape (σ : Hp) (t c : Addr) (cells : List Int) (n ep : Nat) : Prop where
 d : σ t = some (.dict (tapeD c n) ep)
 l : σ c = some (.list (cells.map .int))
theorem fmod_range {a b : Int} (hb : 0 < b) : 0 ≤ a.fmod b ∧ a.fmod b < b := by
 rw [Int.fmod_eq_emod_of_nonneg _ (by first | assumption | decide | omega)]
 exact ⟨Int.emod_nonneg _ (by first | assumption | decide | omega), Int.emod_lt_of_pos _ hb⟩
theorem draw_ok {X : Wd} {w : World} (hX : IsX X w) (t c : Addr) (cells : List Int) (n ep : Nat) (wide : Int) (σ : Hp) {lv : Nat} (Q : V → Hp → Prop) (T : Tape σ t c cells n ep) (hw : 0 < wide) (hn : n < 2 ^ 60)
   (h : ∀ v : Int, 0 ≤ v → v < wide → Q (.int v) (upd σ t (.dict (tapeD c (n + 1)) ep))) : CallV X (lv + 2) (.ref 789) [.ref t, .int wide] σ Q := by
 obtain ⟨hd, hl⟩ := id T
 have ne : c ≠ t := ne_kind hl hd (by simp)
 have s0 : sm (n : Int) := sm_small (by simp; (clear hw; omega))
 have s7 : sm (7 * (n : Int)) := sm_small (by first | assumption | decide | (clear hw; omega))
 have hz : (tapeD c n).length < lim := by show 2 < lim; decide
 have hs : dlook (tapeD c n) (.str (Str.ofString "spot")) = some (.int n) := rfl
 have hc : dlook (tapeD c n) (.str (Str.ofString "cells")) = some (.ref c) := rfl
 have hc' : dlook (tapeD c (n + 1)) (.str (Str.ofString "cells")) = some (.ref c) := rfl
 have he : dset (tapeD c n) (.str (Str.ofString "spot")) (.int (n + 1)) = tapeD c (n + 1) := rfl
 have h3 : sm (3 : Int) := sm_small (by decide)
 have h7 : sm (7 : Int) := sm_small (by decide)
 have h89 : sm (89 : Int) := sm_small (by decide)
 wtm_at "fn"
 wtm_at "pw"
 · rename_i hlt
   have hlt' : n < cells.length := by simpa using hlt
   wtm_at "pw"
   refine getP.list (xs := cells.map .int) (x := .int cells[n]) (by wtm_at "hp") (by unfold vidx; rw [if_pos (by first | assumption | decide | (clear hlt' hlt hz hw; omega))]; simp [List.getElem?_eq_getElem hlt']) ?_
   wtm_at "pw"
   · first | assumption | decide | (clear hlt' hlt hz hn; omega)
   · exact h _ (fmod_range hw).1 (fmod_range hw).2
 any_goals assumption
 · decide
 · first | assumption | decide | (clear hz hn; omega)
 · exact h _ (fmod_range hw).1 (fmod_range hw).2
theorem Tape.next {σ : Hp} {t c : Addr} {cells : List Int} {n ep : Nat} (T : Tape σ t c cells n ep) {m : Nat} : Tape (upd σ t (.dict (tapeD c m) ep)) t c cells m ep := by
 have ne : c ≠ t := ne_kind T.l T.d (by simp)
 exact ⟨upd_same _ _ _, by rw [upd_ne _ _ ne]; exact T.l⟩
local macro_rules | `(tactic| wtm_at "fs") => `(tactic| ((with_reducible refine draw_ok (by assumption) _ ?_ ?_ ?_ ?_ _ _ _ ?T ?hw ?hn ?hh); (case T => first | assumption | exact Tape.next (by assumption) | exact Tape.next (Tape.next (by assumption)) | exact Tape.next (Tape.next (Tape.next (by assumption)))); (case hw => first | assumption | decide); (case hn => first | assumption | omega)))
noncomputable def LowI (a b n d : Int) : Prop := 0 < d ∧ d ≤ b ∧ n.natAbs ≤ a.natAbs ∧ n * b = a * d
theorem LowI.step {a b n d p : Int} (h : LowI a b n d) (hp : 2 ≤ p) (h1 : n.fmod p = 0) (h2 : d.fmod p = 0) : LowI a b (n.fdiv p) (d.fdiv p) ∧ d.fdiv p < d := by
 obtain ⟨i1, i2, i3, i4⟩ := h
 have e1 := fdiv_dvd (Int.dvd_of_fmod_eq_zero h1)
 have e2 := fdiv_dvd (Int.dvd_of_fmod_eq_zero h2)
 generalize n.fdiv p = n' at *
 generalize d.fdiv p = d' at *
 subst e1 e2
 have hd : 0 < d' := Int.pos_of_mul_pos_left i1 (by first | assumption | decide | (clear i4 i2 i1 h2 i3 h1; omega))
 have hle : d' * 2 ≤ d' * p := Int.mul_le_mul_of_nonneg_left hp (by first | assumption | decide | (clear i4 i2 i1 h2 i3 h1 hp; omega))
 refine ⟨⟨hd, by first | assumption | decide | (clear hd i4 h2 i3 h1 hp; omega), ?_, ?_⟩, by first | assumption | decide | (clear i4 i2 i1 h2 i3 h1 hp; omega)⟩
 · rw [Int.natAbs_mul] at i3
   exact Nat.le_trans (Nat.le_mul_of_pos_right _ (by first | assumption | decide | (clear hle hd i4 i2 i1 h2 i3 h1; omega))) i3
 · have : (n' * b) * p = (a * d') * p := by rw [Int.mul_right_comm]; rw [i4]; ac_rfl
   exact Int.eq_of_mul_eq_mul_right (by first | assumption | decide | (clear this hle hd i4 i2 i1 h2 i3 h1; omega)) this
namespace E4
structure ZT where
 X : Wd
 w : World
 a : Int
 b : Int
 σ : Hp
 lv : Nat
 Q : V → Hp → Prop
noncomputable def ZS : ZT → Prop := fun ⟨X, w, a, b, σ, lv, Q⟩ => ∀ (hX : IsX X w) (h0 : 0 < b) (h : ∀ n d : Int, LowI a b n d → Q (.tup [.int n, .int d]) σ), CallV X (lv + 2) (.ref 796) [.int a, .int b] σ Q
theorem zn : Nonempty ZT := ⟨⟨aWd, (PySem.W.aWorld 1), 0, 0, (fun _ => none), 0, (fun _ _ => True)⟩⟩
noncomputable def ze : ZT := epsW zn ZS
noncomputable def X : Wd := ze.X
noncomputable def w : World := ze.w
noncomputable def a : Int := ze.a
noncomputable def b : Int := ze.b
noncomputable def σ : Hp := ze.σ
noncomputable def lv : Nat := ze.lv
noncomputable def Q : V → Hp → Prop := ze.Q
theorem zc : ∀ (hX : IsX X w) (h0 : 0 < b) (h : ∀ n d : Int, LowI a b n d → Q (.tup [.int n, .int d]) σ), CallV X (lv + 2) (.ref 796) [.int a, .int b] σ Q := by
 intro hX h0 h
 wtm_at "fn"
 wtm_at "pw"
 refine Ex.for_ (EvI.val ?_ rfl)
 wtm_at "pw"
 wtm_at "pw"
 refine itP.tup ⟨fun k l σ' => σ' = σ ∧ Is2 fun n d => LowI a b n d ∧ (l = ofL [(Str.ofString "top", .int n), (Str.ofString "bottom", .int d)] ∨ ∃ y, l = ofL [(Str.ofString "top", .int n), (Str.ofString "bottom", .int d), (Str.ofString "prime", y)]), ⟨rfl, a, b, ⟨h0, Int.le_refl _, Nat.le_refl _, rfl⟩, .inl rfl⟩, ?_, ?_⟩
 · rintro k _ σ x ⟨rfl, n, d, hI, hl⟩ hx
   refine ⟨trivial, ?_⟩
   obtain ⟨p, rfl, hp2, hps⟩ : ∃ p : Int, Al3 (x = .int p) (2 ≤ p) (p ≤ 7) := by
     match k, hx with
     | 0, hx => cases hx; exact ⟨_, rfl, by decide, by decide⟩
     | 1, hx => cases hx; exact ⟨_, rfl, by decide, by decide⟩
     | 2, hx => cases hx; exact ⟨_, rfl, by decide, by decide⟩
     | 3, hx => cases hx; exact ⟨_, rfl, by decide, by decide⟩
     | k + 4, hx => cases hx
   have hps : sm p := sm_small (by first | assumption | decide | (clear hl h0; omega))
   rcases hl with rfl | ⟨y, rfl⟩
   all_goals
     wtm_at "pw"
     refine Ex.while_ (fun m l σ'' => σ'' = σ ∧ Is2 fun n d => Al3 (LowI a b n d) (m = d.natAbs) (l = ofL [(Str.ofString "top", .int n), (Str.ofString "bottom", .int d), (Str.ofString "prime", .int p)])) d.natAbs ⟨rfl, n, d, hI, rfl, rfl⟩ ?_
     rintro m _ _ ⟨rfl, n, d, hI, rfl, rfl⟩
     wtm_at "pw"
     any_goals assumption
     all_goals try (clear h0; omega)
     · rename_i e1 e2
       obtain ⟨hs, hlt⟩ := hI.step hp2 e1 e2
       have := hI.1
       have := hs.1
       exact ⟨_, by first | assumption | decide | (clear e2 e1 hp2 h0; omega), rfl, _, _, hs, rfl, rfl⟩
     · exact ⟨rfl, n, d, hI, .inr ⟨_, rfl⟩⟩
     · exact ⟨rfl, n, d, hI, .inr ⟨_, rfl⟩⟩
 · rintro _ _ ⟨rfl, n, d, hI, hl⟩
   refine ⟨trivial, ?_⟩
   rcases hl with rfl | ⟨y, rfl⟩
   all_goals
     wtm_at "pw"
     exact h n d hI
end E4
theorem lowest_ok {X : Wd} {w : World} (hX : IsX X w) (a b : Int) (σ : Hp) {lv : Nat} (Q : V → Hp → Prop) (h0 : 0 < b) (h : ∀ n d : Int, LowI a b n d → Q (.tup [.int n, .int d]) σ) : CallV X (lv + 2) (.ref 796) [.int a, .int b] σ Q :=
 (epsW_elim E4.zn (S := E4.ZS) E4.zc ⟨X, w, a, b, σ, lv, Q⟩) hX h0 h
local macro_rules | `(tactic| wtm_at "fs") => `(tactic| with_reducible refine lowest_ok (by assumption) _ _ _ _ ?_ ?_)
theorem times_ok {X : Wd} {w : World} (hX : IsX X w) (a b c d : Int) (σ : Hp) {lv : Nat} (Q : V → Hp → Prop) (ha : sm a) (hb : sm b) (hc : sm c) (hd : sm d) (h0 : 0 < b) (h1 : 0 < d)
   (h : ∀ n m : Int, LowI (a * c) (b * d) n m → Q (.tup [.int n, .int m]) σ) : CallV X (lv + 3) (.ref 820) [.tup [.int a, .int b], .tup [.int c, .int d]] σ Q := by
 wtm_at "fn"
 wtm_at "pw"
 any_goals assumption
 exact Int.mul_pos h0 h1
local macro_rules | `(tactic| wtm_at "fs") => `(tactic| with_reducible refine times_ok (by assumption) _ _ _ _ _ _ ?_ ?_ ?_ ?_ ?_ ?_ ?_)
noncomputable def lcmL (ns : List Int) : Nat := ns.foldl (fun (g : Nat) n => Int.lcm g n) 1
theorem lcmL_take (ns : List Int) (k : Nat) {x : Int} (h : ns[k]? = some x) : lcmL (ns.take (k + 1)) = Int.lcm (lcmL (ns.take k)) x := by
 unfold lcmL
 rw [List.take_succ, h]
 simp [List.foldl_append]
theorem fold_lcm_dvd : ∀ (ns : List Int) (g : Nat), g ∣ ns.foldl (fun (g : Nat) n => Int.lcm g n) g ∧ ∀ n ∈ ns, n.natAbs ∣ ns.foldl (fun (g : Nat) n => Int.lcm g n) g
 | [], g => ⟨Nat.dvd_refl _, by simp⟩
 | n :: ns, g => by
   rw [List.foldl_cons]
   obtain ⟨h1, h2⟩ := fold_lcm_dvd ns (Int.lcm g n)
   refine ⟨Nat.dvd_trans (Nat.dvd_lcm_left _ _) h1, fun m hm => ?_⟩
   rcases List.mem_cons.mp hm with rfl | hm
   · exact Nat.dvd_trans (Nat.dvd_lcm_right _ _) h1
   · exact h2 m hm
theorem fold_lcm_pos : ∀ (ns : List Int) (g : Nat), 0 < g → (∀ n ∈ ns, n ≠ 0) → 0 < ns.foldl (fun (g : Nat) n => Int.lcm g n) g
 | [], g, h, _ => h
 | n :: ns, g, h, hn => by
   rw [List.foldl_cons]
   refine fold_lcm_pos ns _ (Nat.lcm_pos (by simpa using h) ?_) fun m hm => hn m (List.mem_cons_of_mem _ hm)
   have := hn n List.mem_cons_self
   first | assumption | decide | (clear h; omega)
theorem lcmL_dvd (ns : List Int) : ∀ n ∈ ns, n.natAbs ∣ lcmL ns := (fold_lcm_dvd ns 1).2
theorem lcmL_pos (ns : List Int) (h : ∀ n ∈ ns, n ≠ 0) : 0 < lcmL ns := fold_lcm_pos ns 1 (by decide) h
theorem lcmL_take_dvd (ns : List Int) (k : Nat) : lcmL (ns.take k) ∣ lcmL ns := by
 have : lcmL ns = (ns.drop k).foldl (fun (g : Nat) n => Int.lcm g n) (lcmL (ns.take k)) := by
   unfold lcmL
   rw [← List.foldl_append, List.take_append_drop]
 rw [this]
 exact (fold_lcm_dvd _ _).1
noncomputable abbrev qV (q : Int × Int) : V := .tup [.int q.1, .int q.2]
theorem common_bottom_ok {X : Wd} {w : World} (hX : IsX X w) (p : Addr) (qs : List (Int × Int)) (σ : Hp) {lv : Nat} (Q : V → Hp → Prop) (hp : σ p = some (.list (qs.map qV))) (h0 : ∀ q ∈ qs, q.2 ≠ 0) (hs : sm (lcmL (qs.map (·.2))))
   (h : Q (.int (lcmL (qs.map (·.2)))) σ) : CallV X (lv + 3) (.ref 151) [.ref p] σ Q := by
 have hpos := lcmL_pos (qs.map (·.2)) (by simpa using fun a b hab => h0 (b, a) hab)
 wtm_at "fn"
 wtm_at "pw"
 refine Ex.for_ (EvI.val ?_ rfl)
 wtm_at "pw"
 wtm_at "pw"
 refine itP.list hp ⟨fun k l σ' => σ' = σ ∧ (l = ofL [(Str.ofString "ratios", .ref p), (Str.ofString "found", .int (lcmL ((qs.map (·.2)).take k)))] ∨ ∃ y, l = ofL [(Str.ofString "ratios", .ref p), (Str.ofString "found", .int (lcmL ((qs.map (·.2)).take k))), (Str.ofString "one", y)]), ⟨rfl, .inl rfl⟩, ?_, ?_⟩
 · rintro k _ σ x ⟨rfl, hl⟩ hx
   refine ⟨hp, ?_⟩
   obtain ⟨q, rfl, hq⟩ := map_get hx
   have hq2 : (qs.map (·.2))[k]? = some q.2 := by rw [List.getElem?_map, hq]; rfl
   have ht := lcmL_take (qs.map (·.2)) k hq2
   have hd1 := Nat.le_of_dvd hpos (lcmL_take_dvd (qs.map (·.2)) k)
   have hd0 : lcmL ((qs.map (·.2)).take k) ≠ 0 := fun e => by have := lcmL_take_dvd (qs.map (·.2)) k; rw [e] at this; have := Nat.eq_zero_of_zero_dvd this; (clear this e hd1 ht hl; omega)
   have hd2 := Nat.le_of_dvd hpos (lcmL_dvd (qs.map (·.2)) q.2 (List.mem_of_getElem? hq2))
   have s1 : sm (lcmL ((qs.map (·.2)).take k) : Int) := sm_nat hs (by simpa using hd1)
   have s2 : sm q.2 := bd.of_le hs (by simpa using hd2)
   unfold qV
   rcases hl with rfl | ⟨y, rfl⟩
   all_goals
     wtm_at "pw"
     · exact s1
     · exact s2
     · first | assumption | decide | (clear hd2 hd1 ht hpos; omega)
     · exact ⟨rfl, .inr ⟨_, by rw [ht]; rfl⟩⟩
 · rintro _ _ ⟨rfl, hl⟩
   refine ⟨hp, ?_⟩
   have e : lcmL ((qs.map (·.2)).take (qs.map qV).length) = lcmL (qs.map (·.2)) := by rw [List.length_map, show qs.length = (qs.map (·.2)).length by simp, List.take_length]
   rcases hl with rfl | ⟨y, rfl⟩
   all_goals
     wtm_at "pw"
     rw [e]; exact h
theorem mkRow (P : Params) : MakeAt (hd.heap_39 P) 703 700 := ⟨by kernel_rfl, by kernel_rfl, by kernel_rfl, by kernel_rfl⟩
theorem mkJudge (P : Params) : MakeAt (hd.heap_39 P) 778 721 := ⟨by kernel_rfl, by kernel_rfl, by kernel_rfl, by kernel_rfl⟩
theorem mkBank (P : Params) : MakeAt (hd.heap_39 P) 684 583 := ⟨by kernel_rfl, by kernel_rfl, by kernel_rfl, by kernel_rfl⟩
noncomputable def rowD (a b c : V) : List (Key × V) := [(.str (Str.ofString "parts"), a), (.str (Str.ofString "bound"), b), (.str (Str.ofString "is_strict"), c)]
theorem row_ok {X : Wd} {w : World} (hX : IsX X w) (a b c : V) (σ : Hp) {lv : Nat} (Q : V → Hp → Prop)
   (h : ∀ x dx ep σ', Hx σ σ' → σ' x = some (.inst 703 dx) → σ' dx = some (.dict (rowD a b c) ep) → σ x = none → Q (.ref x) σ') : CallV X (lv + 2) (.ref 703) [a, b, c] σ Q := by
 refine CallV.cls (by rw [hX.hK]; exact mkRow _) fun x dx hx hdx hne => ?_
 have hne' := hne.symm
 wtm_at "cd"
 wtm_at "pw"
 refine ⟨rfl, h x dx _ _ ?_ (by wtm_at "hp") (upd_same _ _ _) hx⟩
 refine Hx.upd' (Hx.upd' (Hx.upd' (Hx.upd' (Hx.new hdx) hx) hdx) hdx) hdx
local macro_rules | `(tactic| wtm_at "fs") => `(tactic| with_reducible refine row_ok (by assumption) _ _ _ _ _ ?_)
theorem judge_ok {X : Wd} {w : World} (hX : IsX X w) (a : V) (σ : Hp) {lv : Nat} (Q : V → Hp → Prop)
   (h : ∀ x dx ep σ', Hx σ σ' → σ' x = some (.inst 778 dx) → σ' dx = some (.dict [(.str (Str.ofString "bank"), a)] ep) → σ x = none → σ dx = none → Q (.ref x) σ') : CallV X (lv + 2) (.ref 778) [a] σ Q := by
 refine CallV.cls (by rw [hX.hK]; exact mkJudge _) fun x dx hx hdx hne => ?_
 have hne' := hne.symm
 wtm_at "cd"
 wtm_at "pw"
 refine ⟨rfl, h x dx _ _ ?_ (by wtm_at "hp") (upd_same _ _ _) hx hdx⟩
 refine Hx.upd' (Hx.upd' (Hx.new hdx) hx) hdx
local macro_rules | `(tactic| wtm_at "fs") => `(tactic| with_reducible refine judge_ok (by assumption) _ _ _ ?_)
theorem dlook_dset_ne {k k' : Key} (h : k' ≠ k) (v : V) : ∀ es : List (Key × V), dlook (dset es k v) k' = dlook es k'
 | [] => by simp [dset, dlook, h.symm]
 | (a, u) :: r => by
   unfold dset
   split
   · rename_i e; subst e; simp [dlook, h.symm]
   · rw [dlook, dlook, dlook_dset_ne h v r]
theorem BkT.put {σ : Hp} {p : Addr} {b : Bk} {ops as ss ds fns fas frs : List V} {es : List (List TK × V)} (T : BkT σ p b ops as ss ds es fns fas frs) (nm : Str) (v : V) (ep : Nat)
   (hn : nm ∉ [Str.ofString "term_ops", "term_args", "term_sorts", "term_datas", "numbers", "fun_names", "fun_args", "fun_results", "make", "declare_fun", "fresh_const", "sort"]) :
   BkT (upd σ b.dx (.dict (dset b.des (.str nm) v) ep)) p { b with des := dset b.des (.str nm) v, ep := ep } ops as ss ds es fns fas frs := by
 simp only [List.mem_cons, List.not_mem_nil, or_false, not_or] at hn
 obtain ⟨m1, m2, m3, m4, m5, m6, m7, m8, m9, m10, m11, m12⟩ := hn
 obtain ⟨ip, idx, lto, lta, lts, ltd, lnb, lfn, lfa, lfr, nmk, ndf, nfc, nso, gto, gta, gts, gtd, gnb, gfn, gfa, gfr, nd, e1, e2, e3, e4⟩ := T
 have q : ∀ {x : Str}, nm ≠ x → dlook (dset b.des (.str nm) v) (.str x) = dlook b.des (.str x) := fun {x} h => dlook_dset_ne (by simpa using fun e => h e.symm) v _
 refine ⟨?_, upd_same _ _ _, (q m1).trans lto, (q m2).trans lta, (q m3).trans lts, (q m4).trans ltd, (q m5).trans lnb, (q m6).trans lfn, (q m7).trans lfa, (q m8).trans lfr, (q m9).trans nmk, (q m10).trans ndf, (q m11).trans nfc, (q m12).trans nso, ?_, ?_, ?_, ?_, ?_, ?_, ?_, ?_, nd, e1, e2, e3, e4⟩
 · rw [upd_ne _ _ (ne_kind ip idx (by simp))]; exact ip
 · rw [upd_ne _ _ (ne_kind gto idx (by simp))]; exact gto
 · rw [upd_ne _ _ (ne_kind gta idx (by simp))]; exact gta
 · rw [upd_ne _ _ (ne_kind gts idx (by simp))]; exact gts
 · rw [upd_ne _ _ (ne_kind gtd idx (by simp))]; exact gtd
 · rw [upd_ne _ _ (ne_kind gnb idx (by simp))]; exact gnb
 · rw [upd_ne _ _ (ne_kind gfn idx (by simp))]; exact gfn
 · rw [upd_ne _ _ (ne_kind gfa idx (by simp))]; exact gfa
 · rw [upd_ne _ _ (ne_kind gfr idx (by simp))]; exact gfr
theorem BkT.hx {σ σ' : Hp} {p : Addr} {b : Bk} {ops as ss ds fns fas frs : List V} {es : List (List TK × V)} (T : BkT σ p b ops as ss ds es fns fas frs)
   (h : ∀ a o, σ a = some o → (a ∈ b.all ∨ a = b.dx ∨ a = p) → σ' a = some o) : BkT σ' p b ops as ss ds es fns fas frs := by
 obtain ⟨ip, idx, lto, lta, lts, ltd, lnb, lfn, lfa, lfr, nmk, ndf, nfc, nso, gto, gta, gts, gtd, gnb, gfn, gfa, gfr, nd, e1, e2, e3, e4⟩ := T
 refine ⟨h _ _ ip (by simp), h _ _ idx (by simp), lto, lta, lts, ltd, lnb, lfn, lfa, lfr, nmk, ndf, nfc, nso, h _ _ gto (by simp [Bk.all]), h _ _ gta (by simp [Bk.all]), h _ _ gts (by simp [Bk.all]), h _ _ gtd (by simp [Bk.all]), h _ _ gnb (by simp [Bk.all]), h _ _ gfn (by simp [Bk.all]), h _ _ gfa (by simp [Bk.all]), h _ _ gfr (by simp [Bk.all]), nd, e1, e2, e3, e4⟩
structure InitS (σ0 σ : Hp) (x dx : Addr) (des : List (Key × V)) (cs : List (Addr × O)) : Prop where
 ip : σ x = some (.inst 684 dx)
 idx : ∃ ep, σ dx = some (.dict des ep)
 at_ : ∀ q ∈ cs, σ q.1 = some q.2
 new : ∀ q ∈ cs, σ0 q.1 = none
 nd : (cs.map (·.1)).Nodup
 ndx : ∀ q ∈ cs, q.1 ≠ dx
 old : ∀ a o, a ≠ dx → σ0 a = some o → σ a = some o
 dold : ∃ o, σ0 dx = some o
theorem InitS.set {σ0 σ : Hp} {x dx : Addr} {des : List (Key × V)} {cs : List (Addr × O)} (I : InitS σ0 σ x dx des cs) (des' : List (Key × V)) (ep' : Nat) : InitS σ0 (upd σ dx (.dict des' ep')) x dx des' cs := by
 obtain ⟨ep, hd⟩ := I.idx
 have hne := ne_kind I.ip hd (by simp)
 refine ⟨by rw [upd_ne _ _ hne]; exact I.ip, ⟨_, upd_same _ _ _⟩, fun q hq => ?_, I.new, I.nd, I.ndx, fun a o ha e => by rw [upd_ne _ _ ha]; exact I.old a o ha e, I.dold⟩
 rw [upd_ne _ _ (I.ndx q hq)]; exact I.at_ q hq
theorem InitS.add {σ0 σ : Hp} {x dx : Addr} {des : List (Key × V)} {cs : List (Addr × O)} (I : InitS σ0 σ x dx des cs) {c : Addr} (o : O) (h : σ c = none) : InitS σ0 (upd σ c o) x dx des ((c, o) :: cs) := by
 obtain ⟨ep, hd⟩ := I.idx
 refine ⟨upd_old h I.ip, ⟨ep, upd_old h hd⟩, fun q hq => ?_, fun q hq => ?_, ?_, fun q hq => ?_, fun a o ha e => upd_old h (I.old a o ha e), I.dold⟩
 · rcases List.mem_cons.mp hq with rfl | hq
   · exact upd_same _ _ _
   · exact upd_old h (I.at_ q hq)
 · rcases List.mem_cons.mp hq with rfl | hq
   · cases e : σ0 c with
     | none => rfl
     | some o' =>
       by_cases hc : c = dx
       · subst hc; rw [h] at hd; cases hd
       · have := I.old _ _ hc e; rw [h] at this; cases this
   · exact I.new q hq
 · rw [List.map_cons, List.nodup_cons]
   refine ⟨fun hm => ?_, I.nd⟩
   obtain ⟨q, hq, e⟩ := List.mem_map.mp hm
   have := I.at_ q hq
   rw [e] at this; rw [h] at this; cases this
 · rcases List.mem_cons.mp hq with rfl | hq
   · intro e; have e : c = dx := e; subst e; rw [h] at hd; cases hd
   · exact I.ndx q hq
section
variable {X : Wd} {sc : Scope} {lv : Nat} {L : Ls} {σ0 σ : Hp} {x dx : Addr} {des : List (Key × V)} {cs : List (Addr × O)} {nm : Str} {rest : List Stmt} {R : Fi → Prop} {p1 p2 p3 p4 p5 : Pos}
theorem EvL.mono {l : Loc} {es : List PySem.Expr} {Q R : List V → Hp → Prop} (h : EvL X sc lv l σ es R) (g : ∀ v σ', R v σ' → Q v σ') : EvL X sc lv l σ es Q := fun ex A env s T pos =>
 wpAny_mono (h ex A env s T pos) (fun _ _ ⟨v, σ', hn, rv, S, k, r⟩ => ⟨v, σ', hn, rv, S, k, g v σ' r⟩) fun _ _ e => e
theorem Ex.selfV {e : PySem.Expr} (I : InitS σ0 σ x dx des cs) (hn : nameV (X.cx sc lv) (ofL L) (Str.ofString "self") = some (.ref x)) (hs : SetAt X.K 684 nm) (hz : des.length < lim)
   (h : Ev X sc lv (ofL L) σ e fun v σ₁ => ∃ cs₁, InitS σ0 σ₁ x dx des cs₁ ∧ ∀ σ', InitS σ0 σ' x dx (dset des (.str nm) v) cs₁ → Ex X sc lv (ofL L) σ' rest R) (hw : ∀ env, swappedStores [.Attribute (.Name (Str.ofString "self") p1) nm p2] e env = pure none := by intro _; rfl) (hsw : ∀ env line, swapsWith e (some (.Attribute (.Name (Str.ofString "self") p1) nm p2)) line env = pure false := by intro _ _; rfl) :
   Ex X sc lv (ofL L) σ (.Assign [.Attribute (.Name (Str.ofString "self") p1) nm p2] e p4 :: rest) R := by
 refine Ex.assign (h.mono fun v σ₁ ⟨cs₁, I₁, q⟩ => ?_) hsw hw rfl
 obtain ⟨ep, hd⟩ := I₁.idx
 refine As.attr (Ev.name hn (instP.set I₁.ip hd hs hz (q _ (I₁.set _ _))))
theorem Ex.selfL {es : List PySem.Expr} (I : InitS σ0 σ x dx des cs) (hn : nameV (X.cx sc lv) (ofL L) (Str.ofString "self") = some (.ref x)) (hs : SetAt X.K 684 nm) (hz : des.length < lim)
   (h : EvL X sc lv (ofL L) σ es fun vs σ₁ => σ₁ = σ ∧ ∀ c σ', InitS σ0 σ' x dx (dset des (.str nm) (.ref c)) ((c, .list vs) :: cs) → Ex X sc lv (ofL L) σ' rest R) (hl : es.length ≤ 1000 := by decide) :
   Ex X sc lv (ofL L) σ (.Assign [.Attribute (.Name (Str.ofString "self") p1) nm p2] (.List es p3) p4 :: rest) R :=
 Ex.selfV I hn hs hz (Ev.list (EvL.mono h fun vs σ₁ ⟨e, q⟩ => by subst e; exact fun c hc => ⟨_, I.add _ hc, fun σ' I' => q c σ' I'⟩) hl)
theorem Ex.selfT (I : InitS σ0 σ x dx des cs) (hn : nameV (X.cx sc lv) (ofL L) (Str.ofString "self") = some (.ref x)) (hs : SetAt X.K 684 nm) (hz : des.length < lim)
   (h : ∀ c σ', InitS σ0 σ' x dx (dset des (.str nm) (.ref c)) ((c, .tdict []) :: cs) → Ex X sc lv (ofL L) σ' rest R) :
   Ex X sc lv (ofL L) σ (.Assign [.Attribute (.Name (Str.ofString "self") p1) nm p2] (.Dict [] [] p3) p4 :: rest) R :=
 Ex.selfV I hn hs hz (Ev.tdict0 fun c hc => ⟨_, I.add _ hc, fun σ' I' => h c σ' I'⟩)
end
noncomputable def bankD (c1 c2 c3 c4 c5 c6 c7 c8 c9 c10 : Addr) : List (Key × V) := [(.str (Str.ofString "sort_names"), .ref c1), (.str (Str.ofString "sort_widths"), .ref c2), (.str (Str.ofString "fun_names"), .ref c3), (.str (Str.ofString "fun_args"), .ref c4), (.str (Str.ofString "fun_results"), .ref c5),
 (.str (Str.ofString "fresh_count"), .int 0), (.str (Str.ofString "term_ops"), .ref c6), (.str (Str.ofString "term_args"), .ref c7), (.str (Str.ofString "term_sorts"), .ref c8), (.str (Str.ofString "term_datas"), .ref c9), (.str (Str.ofString "numbers"), .ref c10)]
noncomputable def kT : List TK := [.str (Str.ofString "true"), .nums [], .int 0, .int 0]
noncomputable def kF : List TK := [.str (Str.ofString "false"), .nums [], .int 0, .int 0]
noncomputable abbrev Bk0 (σ : Hp) (x : Addr) (b : Bk) : Prop := BkT σ x b [.str (Str.ofString ""), .str (Str.ofString "true"), .str (Str.ofString "false")] [.tup [], .tup [], .tup []] [.int 0, .int 0, .int 0] [.int 0, .int 0, .int 0] [(kT, .int 1), (kF, .int 2)] [] [] []
local macro_rules | `(tactic| wtm_at "sl") => `(tactic| ((refine Ex.selfL (by assumption) rfl ?hs ?hz ?h); (case hs => wtm_at "sa"); (case hz => wtm_at "sz"); (wtm_at "pw"); (refine ⟨rfl, ?_⟩)))
namespace E5
structure ZT where
 X : Wd
 w : World
 x : Addr
 dx : Addr
 σ : Hp
 lv : Nat
 Q : V → Hp → Prop
noncomputable def ZS : ZT → Prop := fun ⟨X, w, x, dx, σ, lv, Q⟩ => ∀ (hX : IsX X w) (hx : σ x = some (.inst 684 dx)) (hdx : σ dx = some (.dict [] 0)) (h : ∀ σ' b, Bk0 σ' x b → b.dx = dx → b.des.length ≤ 20 → (∀ a ∈ b.all, σ a = none) → (∀ a o, a ≠ dx → σ a = some o → σ' a = some o) → Q .none σ'), CodeV X (lv + 5) (.ref 165) [.ref x] σ Q
theorem zn : Nonempty ZT := ⟨⟨aWd, (PySem.W.aWorld 1), 0, 0, (fun _ => none), 0, (fun _ _ => True)⟩⟩
noncomputable def ze : ZT := epsW zn ZS
noncomputable def X : Wd := ze.X
noncomputable def w : World := ze.w
noncomputable def x : Addr := ze.x
noncomputable def dx : Addr := ze.dx
noncomputable def σ : Hp := ze.σ
noncomputable def lv : Nat := ze.lv
noncomputable def Q : V → Hp → Prop := ze.Q
theorem zc : ∀ (hX : IsX X w) (hx : σ x = some (.inst 684 dx)) (hdx : σ dx = some (.dict [] 0)) (h : ∀ σ' b, Bk0 σ' x b → b.dx = dx → b.des.length ≤ 20 → (∀ a ∈ b.all, σ a = none) → (∀ a o, a ≠ dx → σ a = some o → σ' a = some o) → Q .none σ'), CodeV X (lv + 5) (.ref 165) [.ref x] σ Q := by
 intro hX hx hdx h
 have I0 : InitS σ σ x dx [] [] := ⟨hx, ⟨_, hdx⟩, by simp, by simp, by simp, by simp, fun _ _ _ h => h, ⟨_, hdx⟩⟩
 wtm_at "cd"
 wtm_at "sl"
 intro c1 σ1 I1
 revert c1 σ1; refine letI c1 := _; letI σ1 := _; epsX2 1 c1 σ1 rfl ?_; wtm_at "in"
 clear I0
 wtm_at "sl"
 intro c2 σ2 I2
 revert c2 σ2; refine letI c2 := _; letI σ2 := _; epsX2 2 c2 σ2 rfl ?_; wtm_at "in"
 clear I1
 wtm_at "sl"
 intro c3 σ3 I3
 revert c3 σ3; refine letI c3 := _; letI σ3 := _; epsX2 3 c3 σ3 rfl ?_; wtm_at "in"
 clear I2
 wtm_at "sl"
 intro c4 σ4 I4
 revert c4 σ4; refine letI c4 := _; letI σ4 := _; epsX2 4 c4 σ4 rfl ?_; wtm_at "in"
 clear I3
 wtm_at "sl"
 intro c5 σ5 I5
 revert c5 σ5; refine letI c5 := _; letI σ5 := _; epsX2 5 c5 σ5 rfl ?_; wtm_at "in"
 clear I4
 refine Ex.selfV I5 rfl (by wtm_at "sa") (by wtm_at "sz") (Ev.int ⟨_, I5, fun σ6 I6 => ?_⟩)
 revert σ6; refine letI σ6 := _; epsX1 6 σ6 rfl ?_; wtm_at "in"
 clear I5
 wtm_at "sl"
 intro c6 σ7 I7
 revert c6 σ7; refine letI c6 := _; letI σ7 := _; epsX2 7 c6 σ7 rfl ?_; wtm_at "in"
 clear I6
 wtm_at "sl"
 intro c7 σ8 I8
 revert c7 σ8; refine letI c7 := _; letI σ8 := _; epsX2 8 c7 σ8 rfl ?_; wtm_at "in"
 clear I7
 wtm_at "sl"
 intro c8 σ9 I9
 revert c8 σ9; refine letI c8 := _; letI σ9 := _; epsX2 9 c8 σ9 rfl ?_; wtm_at "in"
 clear I8
 wtm_at "sl"
 intro c9 σ10 I10
 revert c9 σ10; refine letI c9 := _; letI σ10 := _; epsX2 10 c9 σ10 rfl ?_; wtm_at "in"
 clear I9
 refine Ex.selfT I10 rfl (by wtm_at "sa") (by wtm_at "sz") fun c10 σ11 I11 => ?_
 revert c10 σ11; refine letI c10 := _; letI σ11 := _; epsX2 11 c10 σ11 rfl ?_; wtm_at "in"
 clear I10
 obtain ⟨ip, ⟨ep, idx⟩, at_, new, nd, ndx, old, dold⟩ := I11
 revert ep; refine letI ep := _; epsX1 12 ep rfl ?_; wtm_at "in"
 have idx : σ11 dx = some (.dict (bankD c1 c2 c3 c4 c5 c6 c7 c8 c9 c10) ep) := idx
 have hne := ne_kind ip idx (by simp)
 have T0 : BkT σ11 x ⟨dx, c6, c7, c8, c9, c10, c3, c4, c5, bankD c1 c2 c3 c4 c5 c6 c7 c8 c9 c10, ep⟩ [.str (Str.ofString "")] [.tup []] [.int 0] [.int 0] [] [] [] [] := by
   simp only [List.mem_cons, List.not_mem_nil, or_false, forall_eq_or_imp, forall_eq] at at_
   obtain ⟨a10, a9, a8, a7, a6, a5, a4, a3, a2, a1⟩ := at_
   refine ⟨ip, idx, rfl, rfl, rfl, rfl, rfl, rfl, rfl, rfl, rfl, rfl, rfl, rfl, a6, a7, a8, a9, a10, a3, a4, a5, ?_, rfl, rfl, rfl, by decide⟩
   simp only [List.map_cons, List.map_nil, List.nodup_cons, List.mem_cons, List.not_mem_nil, or_false, not_or, not_false_eq_true, List.nodup_nil, and_true] at nd ⊢
   obtain ⟨_, ⟨x1, x2, x3, x4, x5, x6, x7, x8⟩, ⟨y1, y2, y3, y4, y5, y6, y7⟩, ⟨z1, z2, z3, z4, z5, z6⟩, ⟨u1, u2, u3, u4, u5⟩, ⟨v1, v2, v3, v4⟩, ⟨w1, w2, w3⟩, _⟩ := nd
   refine ⟨⟨?_, ?_, ?_, ?_, ?_, ?_⟩, ⟨?_, ?_, ?_, ?_, ?_⟩, ⟨?_, ?_, ?_, ?_⟩, ⟨?_, ?_, ?_⟩, ⟨?_, ?_⟩, ?_⟩ <;> first | assumption | exact Ne.symm (by assumption)
 have fr : ∀ a ∈ [c6, c7, c8, c9, c10, c3, c4, c5], σ a = none := by
   intro a ha
   simp only [List.mem_cons, List.not_mem_nil, or_false, forall_eq_or_imp, forall_eq] at new
   obtain ⟨a10, a9, a8, a7, a6, a5, a4, a3, a2, a1⟩ := new
   simp only [List.mem_cons, List.not_mem_nil, or_false] at ha
   rcases ha with rfl | rfl | rfl | rfl | rfl | rfl | rfl | rfl <;> assumption
 clear at_ new nd ndx dold
 have n0 : ∀ a o, σ a = some o → a ∉ Bk.all ⟨dx, c6, c7, c8, c9, c10, c3, c4, c5, bankD c1 c2 c3 c4 c5 c6 c7 c8 c9 c10, ep⟩ := fun a o e hm => by rw [fr a hm] at e; cases e
 have n1 := n0
 wtm_at "pw"
 refine make_ok hX _ _ _ _ _ _ _ _ _ _ _ _ _ _ _ _ _ T0 rfl rfl (by decide) fun σ12 T1 k1 => ?_
 revert σ12; refine letI σ12 := _; epsX1 13 σ12 rfl ?_; wtm_at "in"
 have ip1 := T1.ip
 have idx1 : σ12 dx = some (.dict (bankD c1 c2 c3 c4 c5 c6 c7 c8 c9 c10) ep) := T1.idx
 wtm_at "pw"
 have T2 := T1.put (Str.ofString "true_number") (.int 1) (ep + 1) (by decide)
 have ip2 := T2.ip
 have idx2 := T2.idx
 refine make_ok hX _ _ _ _ _ _ _ _ _ _ _ _ _ _ _ _ _ T2 rfl rfl (by decide) fun σ13 T3 k3 => ?_
 revert σ13; refine letI σ13 := _; epsX1 14 σ13 rfl ?_; wtm_at "in"
 have ip3 := T3.ip
 have idx3 := T3.idx
 wtm_at "pw"
 have T4 := T3.put (Str.ofString "false_number") (.int 2) (ep + 1 + 1) (by decide)
 refine h _ _ T4 rfl (Nat.le_of_ble_eq_true rfl) fr fun a o ha e => ?_
 refine (upd_ne _ _ ha).trans (k3 a o (n0 a o e) ((upd_ne _ _ ha).trans (k1 a o (n0 a o e) (old a o ha e))))
end E5
theorem bank_init_ok {X : Wd} {w : World} (hX : IsX X w) (x dx : Addr) (σ : Hp) {lv : Nat} (Q : V → Hp → Prop) (hx : σ x = some (.inst 684 dx)) (hdx : σ dx = some (.dict [] 0)) (h : ∀ σ' b, Bk0 σ' x b → b.dx = dx → b.des.length ≤ 20 → (∀ a ∈ b.all, σ a = none) → (∀ a o, a ≠ dx → σ a = some o → σ' a = some o) → Q .none σ') : CodeV X (lv + 5) (.ref 165) [.ref x] σ Q :=
 (epsW_elim E5.zn (S := E5.ZS) E5.zc ⟨X, w, x, dx, σ, lv, Q⟩) hX hx hdx h
theorem bank_ok {X : Wd} {w : World} (hX : IsX X w) {fd : FuncData} (hS : SupAt X 583 165 684 684 571 582 fd (Str.ofString "bv_numbers")) (σ : Hp) {lv : Nat} (Q : V → Hp → Prop)
   (h : ∀ x σ' b, Bk0 σ' x b → σ x = none → σ b.dx = none → (∀ a ∈ b.all, σ a = none) → Hx σ σ' → Q (.ref x) σ') : CallV X (lv + 7) (.ref 684) [] σ Q := by
 refine CallV.cls (by rw [hX.hK]; exact mkBank _) fun x dx hx hdx hne => ?_
 have hne' := hne.symm
 have ip : (upd (upd σ dx (.dict [] 0)) x (.inst 684 dx)) x = some (.inst 684 dx) := upd_same _ _ _
 have idx : (upd (upd σ dx (.dict [] 0)) x (.inst 684 dx)) dx = some (.dict [] 0) := by wtm_at "hp"
 refine CodeV.supInit hS ip idx (bank_init_ok hX x dx _ _ ip idx fun σ' b T hb hl fr old => ?_)
 subst hb
 have z : b.des.length < lim := Nat.lt_of_le_of_lt hl (by decide)
 refine ⟨_, _, T.ip, T.idx, z, fun c hc => ⟨rfl, ?_⟩⟩
 have T1 : Bk0 (upd σ' c (.dict [] 0)) x b := T.hx fun a o e _ => upd_old hc e
 refine h x _ _ (T1.put _ _ _ (by decide)) hx hdx (fun a ha => ?_) fun a o e => ?_
 · have := fr a ha
   cases q : σ a with
   | none => rfl
   | some o =>
     rw [upd_ne, upd_ne, q] at this
     · cases this
     · rintro rfl; rw [hdx] at q; cases q
     · rintro rfl; rw [hx] at q; cases q
 · have e1 : a ≠ b.dx := by rintro rfl; rw [hdx] at e; cases e
   have e2 : a ≠ x := by rintro rfl; rw [hx] at e; cases e
   have e3 := old a o e1 ((upd_ne _ _ e2).trans ((upd_ne _ _ e1).trans e))
   exact (upd_ne _ _ e1).trans (upd_old hc e3)
theorem EvTs.mono {X : Wd} {sc : Scope} {lv : Nat} {l : Loc} : ∀ {cs : List PySem.Expr} {σ : Hp} {K K' : Bool → Hp → Prop}, EvTs X sc lv l cs σ K → (∀ b σ', K b σ' → K' b σ') → EvTs X sc lv l cs σ K'
 | [], σ, K, K', h, g => g _ _ h
 | c :: r, σ, K, K', h, g => EvT.mono h fun b σ' hb => by
   cases b
   · exact g _ _ hb
   · exact EvTs.mono hb g
theorem CompL.pure {α : Type} {X : Wd} {sc' : Scope} {lv : Nat} {L : Ls} {elt tgt : PySem.Expr} {ifs : List PySem.Expr} {ns : List Str} {Q : V → Hp → Prop} {src : Hp → Prop} {σ : Hp} (xs : List α) (g : α → V) (P : α → Bool) (e : α → V) (hs : src σ) (hl : xs.length < lim)
   (hb : ∀ a ∈ xs, ∃ vs, Al3 (tgtVals tgt (g a) = some vs) (ns.length = vs.length) (EvTs X sc' lv (ofL (puts L ns vs)) ifs σ fun ok σ' => σ' = σ ∧ ok = P a ∧ (P a = true → Ev X sc' lv (ofL (puts L ns vs)) σ elt fun y σ₃ => σ₃ = σ ∧ y = e a)))
   (hq : ∀ c, σ c = none → Q (.ref c) (upd σ c (.list ((xs.filter P).map e)))) : CompL X sc' lv L elt ifs ns tgt Q (xs.map g) src σ := by
 refine ⟨fun k out σ' => σ' = σ ∧ out = ((xs.take k).filter P).map e, ⟨rfl, by simp⟩, ?_, ?_⟩
 · rintro k out σ' x ⟨rfl, rfl⟩ hx
   obtain ⟨a, rfl, ha⟩ := map_get hx
   obtain ⟨vs, e1, e2, h⟩ := hb a (List.mem_of_getElem? ha)
   refine ⟨hs, vs, e1, e2, h.mono fun ok σ₂ ⟨r1, r2, r3⟩ => ?_⟩
   subst r1 r2
   have ht : xs.take (k + 1) = xs.take k ++ [a] := by rw [List.take_succ, ha]; rfl
   cases hP : P a with
   | false =>
     refine ifff ⟨rfl, ?_⟩
     rw [ht, List.filter_append]; simp [hP]
   | true =>
     refine iftt ((r3 hP).mono fun y σ₃ ⟨q1, q2⟩ => ⟨?_, q1, ?_⟩)
     · rw [List.length_map]
       have h1 := List.length_filter_le P (xs.take k)
       have h2 : (xs.take k).length ≤ xs.length := by rw [List.length_take]; (clear h1 e2 hl; omega)
       simp only [lim] at *; (clear e2; omega)
     · rw [ht, List.filter_append, q2]; simp [hP]
 · rintro out σ' ⟨rfl, rfl⟩
   refine ⟨hs, fun c hc => ?_⟩
   have := hq c hc
   rw [List.length_map, List.take_length]; exact this
theorem sorted_unique : ∀ {a b : List Int}, a.Perm b → a.Pairwise (· ≤ ·) → b.Pairwise (· ≤ ·) → a = b
 | [], b, h, _, _ => h.nil_eq
 | x :: a, [], h, _, _ => by have := h.length_eq; simp at this
 | x :: a, y :: b, h, h1, h2 => by
   rw [List.pairwise_cons] at h1 h2
   have e : x = y := by
     have m1 : x ∈ y :: b := h.subset List.mem_cons_self
     have m2 : y ∈ x :: a := h.symm.subset List.mem_cons_self
     rcases List.mem_cons.mp m1 with e | m1
     · exact e
     rcases List.mem_cons.mp m2 with e | m2
     · exact e.symm
     have := h1.1 y m2
     have := h2.1 x m1
     first | assumption | decide | (clear h2 h1; omega)
   subst e
   rw [sorted_unique (List.Perm.cons_inv h) h1.2 h2.2]
theorem sorted_is {ns S us : List Int} (h : ns.Perm us) (h' : us.Perm S) (hs : ns.Pairwise (· ≤ ·)) (hS : S.Pairwise (· < ·)) : ns = S :=
 sorted_unique (h.trans h') hs (hS.imp fun h => by first | assumption | decide | omega)
local macro_rules | `(tactic| wtm_at "fs") => `(tactic| ((with_reducible refine common_bottom_ok (by assumption) _ ?_ _ _ ?hp ?h0 ?hs ?hh); (case hp => wtm_at "hp")))
theorem EvTs.one {X : Wd} {sc : Scope} {lv : Nat} {l : Loc} {c : PySem.Expr} {σ : Hp} {K : Bool → Hp → Prop} (h : EvT X sc lv l σ c K) : EvTs X sc lv l [c] σ K :=
 EvT.mono h fun b σ' hb => by cases b <;> exact hb
theorem EvTs.nil {X : Wd} {sc : Scope} {lv : Nat} {l : Loc} {σ : Hp} {K : Bool → Hp → Prop} (h : K true σ) : EvTs X sc lv l [] σ K := h
local macro_rules | `(tactic| wtm_at "fs") => `(tactic| first | with_reducible refine EvTs.one ?_ | with_reducible refine EvTs.nil ?_)
theorem whole_core {a d B n m : Int} (hd : 0 < d) (hm : 0 < m) (hg : Int.gcd n m = 1) (hB : d ∣ B) (e : n * (d * 1) = a * B * m) : n = a * (B / d) := by
 obtain ⟨k, rfl⟩ := hB
 have e2 : n = a * k * m := by
   have : n * d = (a * k * m) * d := by rw [Int.mul_one] at e; rw [e]; ac_rfl
   exact Int.eq_of_mul_eq_mul_right (by first | assumption | decide | (clear this e hg hm; omega)) this
 have hdv : m ∣ n := ⟨a * k, by rw [e2]; ac_rfl⟩
 have h1 : m.natAbs = 1 := by
   rw [Int.gcd_eq_natAbs_gcd_natAbs, Nat.gcd_eq_right (Int.natAbs_dvd_natAbs.mpr hdv)] at hg
   exact hg
 have hm1 : m = 1 := by first | assumption | decide | (clear hdv e2 e hg hd; omega)
 rw [Int.mul_ediv_cancel_left _ (by first | assumption | decide | (clear hm1 h1 hdv e2 e hg hm; omega))]
 rw [e2, hm1, Int.mul_one]
theorem nodup_inj {l : List Int} (h : l.Nodup) {i j : Nat} {hi : i < l.length} {hj : j < l.length} (e : l[i] = l[j]) : i = j := by
 rw [List.Nodup, List.pairwise_iff_getElem] at h
 rcases Nat.lt_trichotomy i j with h1 | h1 | h1
 · exact absurd e (h i j hi hj h1)
 · exact h1
 · exact absurd e.symm (h j i hj hi h1)
namespace E7
structure ZT where
 S : List Int
 X : Wd
 w : World
 pj : Addr
 dj : Addr
 pb : Addr
 pp : Addr
 b : Bk
 ops : List V
 as : List V
 ss : List V
 ds : List V
 fns : List V
 fas : List V
 frs : List V
 es : List (List TK × V)
 us : List Int
 f : Int → Int × Int
 kd : Int → Int
 bn : Int × Int
 st : Bool
 epj : Nat
 epp : Nat
 σ : Hp
 lv : Nat
 Q : V → Hp → Prop
noncomputable def ZS : ZT → Prop := fun ⟨S, X, w, pj, dj, pb, pp, b, ops, as, ss, ds, fns, fas, frs, es, us, f, kd, bn, st, epj, epp, σ, lv, Q⟩ => ∀ (hX : IsX X w) (hj : σ pj = some (.inst 778 dj)) (hdj : σ dj = some (.dict [(.str (Str.ofString "bank"), .ref pb)] epj)) (T : BkT σ pb b ops as ss ds es fns fas frs) (hss : ∀ u ∈ us, vidx ss u = some (.int (kd u))) (hpp : σ pp = some (.dict (dE us fun u => qV (f u)) epp)) (hus : us.Perm S) (hS : S.Pairwise (· < ·)) (hl : us.length < 64) (hf : ∀ u ∈ us, 0 < (f u).2 ∧ bd 200 (f u).1) (hbot : bd 200 (lcmL ((S.filter fun u => (f u).1 != 0).map fun u => (f u).2))) (hb0 : 0 < bn.2) (hb1 : bd 200 bn.1) (hb2 : bd 200 bn.2) (h : ∀ x dx pd ep ep' k q st' σ', Hx σ σ' → σ x = none → σ' x = some (.inst 703 dx) → σ' dx = some (.dict (rowD (.ref pd) (qV q) (.bool st')) ep) → σ' pd = some (.dict (dE (S.filter fun u => (f u).1 != 0) fun u => .int (k u)) ep') → NRow (S.filter fun u => (f u).1 != 0) f kd bn st k q st' → Q (.ref x) σ'), CallV X (lv + 8) (.ref 740) [.ref pj, .ref pp, qV bn, .bool st] σ Q
theorem zn : Nonempty ZT := ⟨⟨[], aWd, (PySem.W.aWorld 1), 0, 0, 0, 0, ⟨0, 0, 0, 0, 0, 0, 0, 0, 0, [], 0⟩, [], [], [], [], [], [], [], [], [], (fun _ => (0, 0)), (fun _ => 0), (0, 0), false, 0, 0, (fun _ => none), 0, (fun _ _ => True)⟩⟩
noncomputable def ze : ZT := epsW zn ZS
noncomputable def S : List Int := ze.S
noncomputable def X : Wd := ze.X
noncomputable def w : World := ze.w
noncomputable def pj : Addr := ze.pj
noncomputable def dj : Addr := ze.dj
noncomputable def pb : Addr := ze.pb
noncomputable def pp : Addr := ze.pp
noncomputable def b : Bk := ze.b
noncomputable def ops : List V := ze.ops
noncomputable def as : List V := ze.as
noncomputable def ss : List V := ze.ss
noncomputable def ds : List V := ze.ds
noncomputable def fns : List V := ze.fns
noncomputable def fas : List V := ze.fas
noncomputable def frs : List V := ze.frs
noncomputable def es : List (List TK × V) := ze.es
noncomputable def us : List Int := ze.us
noncomputable def f : Int → Int × Int := ze.f
noncomputable def kd : Int → Int := ze.kd
noncomputable def bn : Int × Int := ze.bn
noncomputable def st : Bool := ze.st
noncomputable def epj : Nat := ze.epj
noncomputable def epp : Nat := ze.epp
noncomputable def σ : Hp := ze.σ
noncomputable def lv : Nat := ze.lv
noncomputable def Q : V → Hp → Prop := ze.Q
theorem zc : ∀ (hX : IsX X w) (hj : σ pj = some (.inst 778 dj)) (hdj : σ dj = some (.dict [(.str (Str.ofString "bank"), .ref pb)] epj)) (T : BkT σ pb b ops as ss ds es fns fas frs) (hss : ∀ u ∈ us, vidx ss u = some (.int (kd u))) (hpp : σ pp = some (.dict (dE us fun u => qV (f u)) epp)) (hus : us.Perm S) (hS : S.Pairwise (· < ·)) (hl : us.length < 64) (hf : ∀ u ∈ us, 0 < (f u).2 ∧ bd 200 (f u).1) (hbot : bd 200 (lcmL ((S.filter fun u => (f u).1 != 0).map fun u => (f u).2))) (hb0 : 0 < bn.2) (hb1 : bd 200 bn.1) (hb2 : bd 200 bn.2) (h : ∀ x dx pd ep ep' k q st' σ', Hx σ σ' → σ x = none → σ' x = some (.inst 703 dx) → σ' dx = some (.dict (rowD (.ref pd) (qV q) (.bool st')) ep) → σ' pd = some (.dict (dE (S.filter fun u => (f u).1 != 0) fun u => .int (k u)) ep') → NRow (S.filter fun u => (f u).1 != 0) f kd bn st k q st' → Q (.ref x) σ'), CallV X (lv + 8) (.ref 740) [.ref pj, .ref pp, qV bn, .bool st] σ Q := by
 intro hX hj hdj T hss hpp hus hS hl hf hbot hb0 hb1 hb2 h
 wtm_at "fn"
 wtm_at "pw"
 refine EvI.val ?_ rfl
 wtm_at "pw"
 refine CallV.sortedD (ns := us) hpp (dE_keys _ _) hl fun c1 ns h1 hperm hsort => ?_
 obtain rfl := sorted_is hperm hus hsort hS
 revert c1; refine letI c1 := _; epsX1 1 c1 rfl ?_; wtm_at "in"
 wtm_at "pw"
 refine itP.list (upd_same _ _ _) ?_
 refine CompL.pure S V.int (fun u => (f u).1 != 0) V.int (upd_same _ _ _) ?_ (fun u hu => ⟨_, rfl, rfl, ?_⟩) ?_
 · simp only [lim]; have := hperm.length_eq; (clear hb0; omega)
 · revert u; refine letI u := _; epsX1 2 u rfl ?_; wtm_at "in"
   have hu' : u ∈ us := hperm.subset hu
   have hd1 : dlook (dE us fun u => qV (f u)) (.int u) = some (qV (f u)) := dE_look hu'
   wtm_at "pw"
   refine ⟨rfl, ?_, fun _ => ?_⟩
   · rw [Bool.eq_iff_iff]; simp
   wtm_at "pw"
   exact ⟨rfl, rfl⟩
 intro c2 h2
 revert c2; refine letI c2 := _; epsX1 3 c2 rfl ?_; wtm_at "in"
 generalize hused : S.filter (fun u => (f u).1 != 0) = used at *
 have hu0 : ∀ u ∈ used, u ∈ us ∧ (f u).1 ≠ 0 := fun u hu => by
   rw [← hused, List.mem_filter] at hu
   exact ⟨hperm.subset hu.1, by simpa using hu.2⟩
 have hul : used.length < 64 := by have := List.length_filter_le (fun u => (f u).1 != 0) S; rw [hused] at this; have := hperm.length_eq; (clear hb0; omega)
 wtm_at "pw"
 · rename_i h0
   have h0' : used = [] := by simpa using h0
   subst h0'
   refine Ev.dict0 fun c3 ep3 h3 => ?_
   wtm_at "pw"
   intro x dx ep σ' hx1 hx2 hx3 hx4
   wtm_at "pw"
   have X3 : Hx σ (upd (upd (upd σ c1 (.list (S.map V.int))) c2 (.list (([] : List Int).map V.int))) c3 (.dict [] ep3)) := (Hx.new h1).trans ((Hx.new h2).trans (Hx.new h3))
   exact h x dx c3 ep ep3 (fun _ => 0) bn st σ' (X3.trans hx1) (X3.none hx4) hx2 hx3 (hx1 _ _ (upd_same _ _ _)) (nrow_nil hb0 hb1 hb2)
 have hne : used ≠ [] := by rename_i h0; intro e; rw [e] at h0; exact h0 rfl
 revert used; refine letI used := _; epsX1 4 used rfl ?_; wtm_at "in"
 have hpos : ∀ q ∈ used.map f, q.2 ≠ 0 := fun q hq => by
   obtain ⟨u, hu, rfl⟩ := List.mem_map.mp hq
   have := (hf u (hu0 u hu).1).1; (clear a hul hb0 hl; omega)
 have hm2 : (used.map fun u => (f u).2) = (used.map f).map (·.2) := by simp
 have hdv : ∀ u ∈ used, (f u).2.natAbs ∣ lcmL ((used.map f).map (·.2)) := fun u hu => lcmL_dvd _ _ (by rw [← hm2]; exact List.mem_map.mpr ⟨u, hu, rfl⟩)
 have hlp := lcmL_pos ((used.map f).map (·.2)) (fun q hq => by obtain ⟨x, hx, rfl⟩ := List.mem_map.mp hq; exact hpos x hx)
 rw [hm2] at hbot
 generalize hBv : lcmL ((used.map f).map (·.2)) = B at *
 revert B; refine letI B := _; epsX1 5 B rfl ?_; wtm_at "in"
 have hal : ∀ {g : Int → V}, (used.filter fun _ => true).map g = used.map g := by
   intro g; congr 1; exact List.filter_eq_self.mpr fun _ _ => rfl
 refine EvI.val ?_ rfl
 wtm_at "pw"
 wtm_at "pw"
 refine itP.list (xs := used.map V.int) (by wtm_at "hp") ?_
 refine CompL.pure used V.int (fun _ => true) (fun u => qV (f u)) (by wtm_at "hp") (by simp only [lim]; (clear hlp hBv a hb0 hl; omega)) (fun u hu => ⟨_, rfl, rfl, ?_⟩) ?_
 · revert u; refine letI u := _; epsX1 6 u rfl ?_; wtm_at "in"
   have hd1 : dlook (dE us fun u => qV (f u)) (.int u) = some (qV (f u)) := dE_look (hu0 u hu).1
   wtm_at "pw"
   refine ⟨rfl, rfl, fun _ => ?_⟩
   wtm_at "pw"
   exact ⟨rfl, rfl⟩
 intro c3 h3
 revert c3; refine letI c3 := _; epsX1 7 c3 rfl ?_; wtm_at "in"
 rw [hal, show (used.map fun u => qV (f u)) = (used.map f).map qV by simp]
 wtm_at "pw"
 · exact hpos
 · rw [hBv]; exact hbot.mono (by decide)
 rw [hBv]
 refine EvI.val ?_ rfl
 wtm_at "pw"
 wtm_at "pw"
 refine itP.list (xs := used.map V.int) (by wtm_at "hp") ?_
 refine CompL.pure used V.int (fun _ => true) (fun u => .int ((f u).1 * ((B : Int) / (f u).2))) (by wtm_at "hp") (by simp only [lim]; (clear hlp hBv a hb0 hl; omega)) (fun u hu => ⟨_, rfl, rfl, ?_⟩) ?_
 · revert u; refine letI u := _; epsX1 8 u rfl ?_; wtm_at "in"
   have hd1 : dlook (dE us fun u => qV (f u)) (.int u) = some (qV (f u)) := dE_look (hu0 u hu).1
   obtain ⟨f2, f1⟩ := hf u (hu0 u hu).1
   have f2b : bd 200 (f u).2 := bd.of_le hbot (by have := Nat.le_of_dvd hlp (hdv u hu); simpa using this)
   wtm_at "pw"
   refine ⟨rfl, rfl, fun _ => ?_⟩
   wtm_at "pw"
   · exact f1.mono (by decide)
   · exact f2b.mono (by decide)
   · exact hbot.mono (by decide)
   · exact bd.mono (i := 1) (by unfold bd; decide) (by decide)
   · exact f2
   · decide
   · intro n m hm hg e _ _
     revert n m; refine letI n := _; letI m := _; epsX2 9 n m rfl ?_; wtm_at "in"
     wtm_at "pw"
     have := whole_core f2 hm hg (Int.natAbs_dvd_natAbs.mp (by simpa using hdv u hu)) e
     rw [this]
     exact ⟨rfl, rfl⟩
 intro c4 h4
 revert c4; refine letI c4 := _; epsX1 10 c4 rfl ?_; wtm_at "in"
 rw [hal]
 wtm_at "pw"
 rw [show (used.map fun u => V.int ((f u).1 * ((B : Int) / (f u).2))) = (used.map fun u => (f u).1 * ((B : Int) / (f u).2)).map V.int by simp]
 generalize hwve : (fun u => (f u).1 * ((B : Int) / (f u).2)) = wv at *
 revert wv; refine letI wv := _; epsX1 11 wv rfl ?_; wtm_at "in"
 wtm_at "pw"
 generalize hDv : gcdL (used.map wv) = D at *
 revert D; refine letI D := _; epsX1 12 D rfl ?_; wtm_at "in"
 refine Ev.dict0 fun c5 ep5 h5 => ?_
 revert c5 ep5; refine letI c5 := _; letI ep5 := _; epsX2 13 c5 ep5 rfl ?_; wtm_at "in"
 wtm_at "pw"
 have hund : used.Nodup := by rw [← hused]; exact (hS.filter _).imp fun h => by first | assumption | decide | (clear hDv hlp hBv a hul hb0 hl; omega)
 have hwv : ∀ u ∈ used, wv u ≠ 0 ∧ wv u * (f u).2 = (f u).1 * B ∧ bd 400 (wv u) := fun u hu => by
   obtain ⟨f2, f1⟩ := hf u (hu0 u hu).1
   obtain ⟨x, hx⟩ : (f u).2 ∣ (B : Int) := Int.natAbs_dvd_natAbs.mp (by simpa using hdv u hu)
   have e : (B : Int) / (f u).2 = x := by rw [hx, Int.mul_ediv_cancel_left _ (by first | assumption | decide | (clear hx hDv hlp hBv a hul hb0 hl; omega))]
   have e2 : wv u = (f u).1 * x := by rw [← hwve, ← e]
   rw [e2]
   have hx0 : x ≠ 0 := by rintro rfl; simp at hx; (clear e2 e f2 hDv hBv a hul hb0 hl; omega)
   refine ⟨Int.mul_ne_zero (hu0 u hu).2 hx0, by rw [hx]; ac_rfl, f1.mul (bd.of_le hbot ?_)⟩
   rw [hx, Int.natAbs_mul]; exact Nat.le_mul_of_pos_left _ (by first | assumption | decide | (clear hx0 e2 e hx hDv hlp hBv a hul hb0 hl; omega))
 obtain ⟨u0, hu00⟩ : ∃ u, u ∈ used := List.exists_mem_of_ne_nil _ hne
 revert u0; refine letI u0 := _; epsX1 14 u0 rfl ?_; wtm_at "in"
 have hD0 : 0 < D := by rw [← hDv]; exact gcdL_pos (List.mem_map.mpr ⟨u0, hu00, rfl⟩) (hwv u0 hu00).1
 have hD : (D : Int) ≠ 0 := by first | assumption | decide | (clear hDv hlp hBv a hul hb0 hl; omega)
 have hDb : bd 400 (D : Int) := by
   refine bd.of_le (hwv u0 hu00).2.2 ?_
   rw [← hDv]; simpa using gcdL_le (List.mem_map.mpr ⟨u0, hu00, rfl⟩) (hwv u0 hu00).1
 have hDs : sm (D : Int) := hDb.mono (by decide)
 refine Ex.for_ (EvI.zip (by wtm_at "nm") ?_ rfl rfl)
 wtm_at "pw"
 refine ⟨c2, c4, used.map V.int, (used.map wv).map V.int, rfl, by wtm_at "hp", by wtm_at "hp", ?_⟩
 generalize hσ5 : upd (upd (upd (upd (upd σ c1 (.list (S.map V.int))) c2 (.list (used.map V.int))) c3 (.list ((used.map f).map qV))) c4 (.list ((used.map wv).map V.int))) c5 (.dict [] ep5) = σ5
 revert σ5; refine letI σ5 := _; epsX1 15 σ5 rfl ?_; wtm_at "in"
 have g2 : σ5 c2 = some (.list (used.map V.int)) := by rw [← hσ5]; wtm_at "hp"
 have g4 : σ5 c4 = some (.list ((used.map wv).map V.int)) := by rw [← hσ5]; wtm_at "hp"
 have g5 : σ5 c5 = some (.dict [] ep5) := by rw [← hσ5]; wtm_at "hp"
 have n25 := ne_kind g2 g5 (by simp)
 have n45 := ne_kind g4 g5 (by simp)
 refine ⟨fun k l σ' => (∃ ep, σ' = upd σ5 c5 (.dict (dE (used.take k) fun u => V.int ((wv u).fdiv D)) ep)) ∧ ((k = 0 ∧ l = ofL [(Str.ofString "self", .ref pj), (Str.ofString "parts", .ref pp), (Str.ofString "bound", qV bn), (Str.ofString "is_strict", .bool st), (Str.ofString "unknowns", .ref c2), (Str.ofString "bottom", .int B), (Str.ofString "wholes", .ref c4), (Str.ofString "divisor", .int D), (Str.ofString "found", .ref c5)]) ∨ (0 < k ∧ Is2 fun y z => l = ofL [(Str.ofString "self", .ref pj), (Str.ofString "parts", .ref pp), (Str.ofString "bound", qV bn), (Str.ofString "is_strict", .bool st), (Str.ofString "unknowns", .ref c2), (Str.ofString "bottom", .int B), (Str.ofString "wholes", .ref c4), (Str.ofString "divisor", .int D), (Str.ofString "found", .ref c5), (Str.ofString "unknown", y), (Str.ofString "number", z)])), ⟨⟨ep5, ?_⟩, .inl ⟨rfl, rfl⟩⟩, ?_, ?_⟩
 · funext a
   by_cases e : a = c5
   · subst e; rw [g5, upd_same]; rfl
   · rw [upd_ne _ _ e]
 · rintro k l _ x ⟨⟨ep, rfl⟩, hl5⟩ hx
   revert l x; revert k ep; refine letI k := _; letI ep := _; epsX2 16 k ep rfl ?_; wtm_at "in"
   refine ⟨⟨by wtm_at "hp", by wtm_at "hp"⟩, ?_⟩
   obtain ⟨u, rfl, hu⟩ : ∃ u, x = .tup [.int u, .int (wv u)] ∧ used[k]? = some u := by
     rw [show ((used.map V.int).zip ((used.map wv).map V.int)) = used.map (fun u => (V.int u, V.int (wv u))) by rw [List.map_map, List.zip_map']; rfl, List.map_map] at hx
     obtain ⟨u, e, hu⟩ := map_get hx
     exact ⟨u, e, hu⟩
   revert l; revert u; refine letI u := _; epsX1 17 u rfl ?_; wtm_at "in"
   have hz5 : (dE (used.take k) fun u => V.int ((wv u).fdiv D)).length < lim := by
     rw [dE_len, List.length_take]; simp only [lim]; (clear hl5 hD hD0 hDv hlp hBv a hb0 hl; omega)
   have hu5 : u ∉ used.take k := by
     intro hm
     obtain ⟨j, hj, e⟩ := List.mem_iff_getElem.mp hm
     rw [List.getElem_take] at e
     rw [List.length_take] at hj
     obtain ⟨hlt, e2⟩ := List.getElem?_eq_some_iff.mp hu
     have := nodup_inj hund (e.trans e2.symm)
     first | assumption | decide | (clear e2 e hz5 hl5 hD hD0 hDv hlp hBv a hul hb0 hl; omega)
   have ht5 : dset (dE (used.take k) fun u => V.int ((wv u).fdiv D)) (.int u) (.int ((wv u).fdiv D)) = dE (used.take (k + 1)) fun u => V.int ((wv u).fdiv D) := by
     rw [dset_dE hu5, List.take_succ, hu]
     exact dE_congr fun x _ => by
       by_cases e : x = u
       · subst e; simp
       · simp [e]
   rcases hl5 with ⟨_, rfl⟩ | ⟨_, y, z, rfl⟩
   rotate_left
   revert y z; refine letI y := _; letI z := _; epsX2 18 y z rfl ?_; wtm_at "in"
   rotate_left
   all_goals
     wtm_at "pw"
     · exact hD
     · exact hDs
     · refine ⟨⟨?ep, ?eqn⟩, .inr ⟨by first | assumption | decide | omega, _, _, rfl⟩⟩
       case eqn => rw [ht5]; exact upd_upd _ _ _ _
 · rintro l _ ⟨⟨ep, rfl⟩, hl5⟩
   revert l; revert ep; refine letI ep := _; epsX1 19 ep rfl ?_; wtm_at "in"
   refine ⟨⟨by wtm_at "hp", by wtm_at "hp"⟩, ?_⟩
   have hlen : (((used.map V.int).zip ((used.map wv).map V.int)).map pairV).length = used.length := by simp
   rw [hlen] at hl5
   rw [hlen, List.take_length]
   obtain ⟨y, z, rfl⟩ := (hl5.resolve_left fun e => hne (List.length_eq_zero_iff.mp e.1)).2
   revert y z; refine letI y := _; letI z := _; epsX2 20 y z rfl ?_; wtm_at "in"
   have X1 := Hx.new (o := .list (S.map V.int)) h1
   have X2 := X1.trans (Hx.new (o := .list (used.map V.int)) h2)
   have X3 := X2.trans (Hx.new (o := .list ((used.map f).map qV)) h3)
   have X4 := X3.trans (Hx.new (o := .list ((used.map wv).map V.int)) h4)
   have X5 := X4.trans (Hx.new (o := .dict [] ep5) h5)
   rw [hσ5] at X5
   have X6 : Hx σ (upd σ5 c5 (.dict (dE used fun u => V.int ((wv u).fdiv D)) ep)) := X5.upd' (X4.none h5)
   have g62 : (upd σ5 c5 (.dict (dE used fun u => V.int ((wv u).fdiv D)) ep)) c2 = some (.list (used.map V.int)) := by wtm_at "hp"
   have g65 : (upd σ5 c5 (.dict (dE used fun u => V.int ((wv u).fdiv D)) ep)) c5 = some (.dict (dE used fun u => V.int ((wv u).fdiv D)) ep) := upd_same _ _ _
   generalize upd σ5 c5 (.dict (dE used fun u => V.int ((wv u).fdiv D)) ep) = σ6 at *
   revert σ6; refine letI σ6 := _; epsX1 21 σ6 rfl ?_; wtm_at "in"
   have j6 := X6 _ _ hj
   have dj6 := X6 _ _ hdj
   have T6 := T.hx (σ' := σ6) fun a o e _ => X6 a o e
   wtm_at "pw"
   · exact hDs
   · exact hD
   intro B' D' hD'0 hg' e' hB' hD''
   revert B' D'; refine letI B' := _; letI D' := _; epsX2 22 B' D' rfl ?_; wtm_at "in"
   have bB' : bd 200 B' := bd.of_le hbot hB'
   have bD' : bd 400 D' := bd.of_le hDb hD''
   wtm_at "pw"
   · exact hb1.mono (by decide)
   · exact hb2.mono (by decide)
   · exact bB'.mono (by decide)
   · exact bD'.mono (by decide)
   · exact hb0
   · exact hD'0
   intro n m hm hg e hn1 hm1
   revert n m; refine letI n := _; letI m := _; epsX2 23 n m rfl ?_; wtm_at "in"
   have sm' : sm m := (bd.of_le (hb2.mul bD') hm1).mono (by decide)
   wtm_at "pw"
   refine EvI.val ?_ rfl
   wtm_at "pw"
   wtm_at "pw"
   refine itP.list (xs := used.map V.int) (by wtm_at "hp") ?_
   refine CompL.pure used V.int (fun u => kd u != 1) V.int (by wtm_at "hp") (by simp only [lim]; (clear hm1 hn1 e hg hm hD'' hB' e' hg' hD'0 hl5 hD hD0 hDv hlp hBv a hb0 hl; omega)) (fun u hu => ⟨_, rfl, rfl, ?_⟩) ?_
   · revert u; refine letI u := _; epsX1 24 u rfl ?_; wtm_at "in"
     have hvu := hss u (hu0 u hu).1
     have t1 := T6.ip
     have t2 := T6.idx
     have t3 := T6.nso
     wtm_at "pw"
     refine ⟨rfl, ?_, fun _ => ?_⟩
     · rw [Bool.eq_iff_iff]; simp
     wtm_at "pw"
     exact ⟨rfl, rfl⟩
   intro c6 h6
   revert c6; refine letI c6 := _; epsX1 25 c6 rfl ?_; wtm_at "in"
   wtm_at "pw"
   intro c7 h7
   revert c7; refine letI c7 := _; epsX1 26 c7 rfl ?_; wtm_at "in"
   have hall : (used.filter fun u => kd u != 1).map V.int = [] ↔ ∀ u ∈ used, kd u = 1 := by simp
   have X8 : Hx σ (upd (upd σ6 c6 (.list ((used.filter fun u => kd u != 1).map V.int))) c7 (.list [])) := (X6.trans (Hx.new h6)).trans (Hx.new h7)
   have g85 : (upd (upd σ6 c6 (.list ((used.filter fun u => kd u != 1).map V.int))) c7 (.list [])) c5 = some (.dict (dE used fun u => V.int ((wv u).fdiv D)) ep) := by wtm_at "hp"
   have fpos : ∀ u ∈ used, 0 < (f u).2 := fun u hu => (hf u (hu0 u hu).1).1
   have fin : ∀ q st', ((∀ u ∈ used, kd u = 1) → st' = false ∧ q = (if st then -((-n).fdiv m) - 1 else n.fdiv m, 1)) → ((¬ ∀ u ∈ used, kd u = 1) → q = (n, m) ∧ st' = st) → NRow used f kd bn st (fun u => (wv u).fdiv D) q st' := fun q st' r1 r2 =>
     nrow_mk hne fpos hwv hDv hD0 hlp hD'0 e' hb0 hb1 hb2 bB' bD' hm hg e hn1 hm1 r1 r2
   wtm_at "pw"
   · exact sm'
   · exact hm
   · intro x dx ep σ' hx1 hx2 hx3 hx4
     revert x dx ep σ'; refine letI x := _; letI dx := _; letI ep := _; letI σ' := _; epsX4 27 x dx ep σ' rfl ?_; wtm_at "in"
     wtm_at "pw"
     rename_i hA hst
     refine h x dx c5 ep _ _ (-((-n).fdiv m) - 1, 1) false σ' (X8.trans hx1) (X8.none hx4) hx2 hx3 (hx1 _ _ g85) (fin _ _ (fun _ => ⟨rfl, ?_⟩) fun hn => absurd (hall.mp hA) hn)
     rw [if_pos hst]
   · exact sm'
   · exact hm
   · intro x dx ep σ' hx1 hx2 hx3 hx4
     revert x dx ep σ'; refine letI x := _; letI dx := _; letI ep := _; letI σ' := _; epsX4 28 x dx ep σ' rfl ?_; wtm_at "in"
     wtm_at "pw"
     rename_i hA hst
     refine h x dx c5 ep _ _ (n.fdiv m, 1) false σ' (X8.trans hx1) (X8.none hx4) hx2 hx3 (hx1 _ _ g85) (fin _ _ (fun _ => ⟨rfl, ?_⟩) fun hn => absurd (hall.mp hA) hn)
     rw [if_neg (by rw [hst]; decide)]
   · intro x dx ep σ' hx1 hx2 hx3 hx4
     revert x dx ep σ'; refine letI x := _; letI dx := _; letI ep := _; letI σ' := _; epsX4 29 x dx ep σ' rfl ?_; wtm_at "in"
     wtm_at "pw"
     rename_i hA
     exact h x dx c5 ep _ _ (n, m) st σ' (X8.trans hx1) (X8.none hx4) hx2 hx3 (hx1 _ _ g85) (fin _ _ (fun hn => absurd (hall.mpr hn) hA) fun _ => ⟨rfl, rfl⟩)
end E7
theorem normal_row_ok {X : Wd} {w : World} (hX : IsX X w) (pj dj pb pp : Addr) (b : Bk) (ops as ss ds fns fas frs : List V) (es : List (List TK × V)) (us S : List Int) (f : Int → Int × Int) (kd : Int → Int) (bn : Int × Int) (st : Bool) (epj epp : Nat) (σ : Hp) {lv : Nat} (Q : V → Hp → Prop) (hj : σ pj = some (.inst 778 dj)) (hdj : σ dj = some (.dict [(.str (Str.ofString "bank"), .ref pb)] epj)) (T : BkT σ pb b ops as ss ds es fns fas frs) (hss : ∀ u ∈ us, vidx ss u = some (.int (kd u))) (hpp : σ pp = some (.dict (dE us fun u => qV (f u)) epp)) (hus : us.Perm S) (hS : S.Pairwise (· < ·)) (hl : us.length < 64) (hf : ∀ u ∈ us, 0 < (f u).2 ∧ bd 200 (f u).1) (hbot : bd 200 (lcmL ((S.filter fun u => (f u).1 != 0).map fun u => (f u).2))) (hb0 : 0 < bn.2) (hb1 : bd 200 bn.1) (hb2 : bd 200 bn.2) (h : ∀ x dx pd ep ep' k q st' σ', Hx σ σ' → σ x = none → σ' x = some (.inst 703 dx) → σ' dx = some (.dict (rowD (.ref pd) (qV q) (.bool st')) ep) → σ' pd = some (.dict (dE (S.filter fun u => (f u).1 != 0) fun u => .int (k u)) ep') → NRow (S.filter fun u => (f u).1 != 0) f kd bn st k q st' → Q (.ref x) σ') : CallV X (lv + 8) (.ref 740) [.ref pj, .ref pp, qV bn, .bool st] σ Q :=
 (epsW_elim E7.zn (S := E7.ZS) E7.zc ⟨S, X, w, pj, dj, pb, pp, b, ops, as, ss, ds, fns, fas, frs, es, us, f, kd, bn, st, epj, epp, σ, lv, Q⟩) hX hj hdj T hss hpp hus hS hl hf hbot hb0 hb1 hb2 h
local macro_rules | `(tactic| wtm_at "fs") => `(tactic| ((with_reducible refine normal_row_ok (by assumption) _ ?_ ?_ _ ?_ ?_ ?_ ?_ ?_ ?_ ?_ ?_ ?_ ?_ ?_ ?_ ?_ _ _ ?_ ?_ _ _ ?hj ?hdj ?T ?hss ?hpp ?hus ?hS ?hl ?hf ?hbot ?hb0 ?hb1 ?hb2 ?hh); (case hj => wtm_at "hp"); (case hdj => wtm_at "hp"); (case T => assumption); (case hpp => wtm_at "hp"); (case hus => assumption); (case hS => assumption); (case hss => assumption)))
noncomputable def wsum (f p : Int → Int × Int) : List Int → Rat
 | [] => 0
 | u :: r => rq (f u) * rq (p u) + wsum f p r
theorem wsum_app (f p : Int → Int × Int) : ∀ a b, wsum f p (a ++ b) = wsum f p a + wsum f p b
 | [], b => by simp [wsum, Rat.zero_add]
 | u :: a, b => by simp only [List.cons_append, wsum, wsum_app f p a b]; grind
theorem wsum_take (f p : Int → Int × Int) {S : List Int} {k : Nat} {u : Int} (h : S[k]? = some u) : wsum f p (S.take (k + 1)) = wsum f p (S.take k) + rq (f u) * rq (p u) := by
 rw [List.take_succ, h, wsum_app]
 simp only [Option.toList_some, wsum]; grind
noncomputable def saysB (f p : Int → Int × Int) (lim : Int × Int) (st : Bool) (S : List Int) : Bool := decide (wsum f p S - rq lim < 0) || (decide (wsum f p S - rq lim = 0) && !st)
theorem rat_lt0 {t b : Int} {r : Rat} (hb : 0 < b) (h : (t : Rat) / (b : Rat) = r) : (r < 0 ↔ t < 0) ∧ (r = 0 ↔ t = 0) := by
 subst h
 have b0 := ratI hb
 refine ⟨?_, ?_⟩
 · rw [Rat.div_lt_iff (ratP hb), Rat.zero_mul]; exact Rat.intCast_neg_iff
 · constructor
   · intro e
     have : (t : Rat) = 0 := by grind
     exact_mod_cast this
   · intro e; subst e; grind
theorem says_step {t b f1 f2 p1 p2 : Int} {r : Rat} (hb : 0 < b) (hf : 0 < f2) (hp : 0 < p2) (h : (t : Rat) / (b : Rat) = r) :
   0 < b * f2 * p2 ∧ ((t * f2 * p2 + f1 * p1 * b : Int) : Rat) / ((b * f2 * p2 : Int) : Rat) = r + ((f1 : Rat) / (f2 : Rat)) * ((p1 : Rat) / (p2 : Rat)) := by
 refine ⟨Int.mul_pos (Int.mul_pos hb hf) hp, ?_⟩
 have b0 := ratI hb
 have f0 := ratI hf
 have p0 := ratI hp
 simp only [Rat.intCast_mul, Rat.intCast_add]
 grind
noncomputable def okQ (j : Nat) (q : Int × Int) : Prop := 0 < q.2 ∧ bd j q.1 ∧ bd j q.2
namespace E8
structure ZT where
 S : List Int
 X : Wd
 w : World
 pf : Addr
 pp : Addr
 us : List Int
 f : Int → Int × Int
 p : Int → Int × Int
 lim : Int × Int
 st : Bool
 epf : Nat
 epp : Nat
 pes : List (Key × V)
 σ : Hp
 lv : Nat
 Q : V → Hp → Prop
noncomputable def ZS : ZT → Prop := fun ⟨S, X, w, pf, pp, us, f, p, lim, st, epf, epp, pes, σ, lv, Q⟩ => ∀ (hX : IsX X w) (hpf : σ pf = some (.dict (dE us fun u => qV (f u)) epf)) (hpp : σ pp = some (.dict pes epp)) (hp : ∀ u ∈ us, dlook pes (.int u) = some (qV (p u))) (hus : us.Perm S) (hS : S.Pairwise (· < ·)) (hl : us.length ≤ 3) (hf : ∀ u ∈ us, okQ 700 (f u)) (hp' : ∀ u ∈ us, okQ 700 (p u)) (hlim : okQ 700 lim) (h : ∀ σ', Hx σ σ' → Q (.bool (saysB f p lim st S)) σ'), CallV X (lv + 1) (.ref 803) [.ref pf, qV lim, .bool st, .ref pp] σ Q
theorem zn : Nonempty ZT := ⟨⟨[], aWd, (PySem.W.aWorld 1), 0, 0, [], (fun _ => (0, 0)), (fun _ => (0, 0)), (0, 0), false, 0, 0, [], (fun _ => none), 0, (fun _ _ => True)⟩⟩
noncomputable def ze : ZT := epsW zn ZS
noncomputable def S : List Int := ze.S
noncomputable def X : Wd := ze.X
noncomputable def w : World := ze.w
noncomputable def pf : Addr := ze.pf
noncomputable def pp : Addr := ze.pp
noncomputable def us : List Int := ze.us
noncomputable def f : Int → Int × Int := ze.f
noncomputable def p : Int → Int × Int := ze.p
noncomputable def lim : Int × Int := ze.lim
noncomputable def st : Bool := ze.st
noncomputable def epf : Nat := ze.epf
noncomputable def epp : Nat := ze.epp
noncomputable def pes : List (Key × V) := ze.pes
noncomputable def σ : Hp := ze.σ
noncomputable def lv : Nat := ze.lv
noncomputable def Q : V → Hp → Prop := ze.Q
theorem zc : ∀ (hX : IsX X w) (hpf : σ pf = some (.dict (dE us fun u => qV (f u)) epf)) (hpp : σ pp = some (.dict pes epp)) (hp : ∀ u ∈ us, dlook pes (.int u) = some (qV (p u))) (hus : us.Perm S) (hS : S.Pairwise (· < ·)) (hl : us.length ≤ 3) (hf : ∀ u ∈ us, okQ 700 (f u)) (hp' : ∀ u ∈ us, okQ 700 (p u)) (hlim : okQ 700 lim) (h : ∀ σ', Hx σ σ' → Q (.bool (saysB f p lim st S)) σ'), CallV X (lv + 1) (.ref 803) [.ref pf, qV lim, .bool st, .ref pp] σ Q := by
 intro hX hpf hpp hp hus hS hl hf hp' hlim h
 wtm_at "fn"
 wtm_at "pw"
 refine Ex.for_ (EvI.val ?_ rfl)
 wtm_at "pw"
 refine CallV.sortedD (ns := us) hpf (dE_keys _ _) (by first | assumption | decide | omega) fun c1 ns h1 hperm hsort => ?_
 obtain rfl := sorted_is hperm hus hsort hS
 revert c1; refine letI c1 := _; epsX1 1 c1 rfl ?_; wtm_at "in"
 have hlen := hperm.length_eq
 wtm_at "pw"
 refine itP.list (upd_same _ _ _) ⟨fun k l σ' => σ' = upd σ c1 (.list (S.map V.int)) ∧ Is2 fun (t b : Int) => Al5 (0 < b) ((t : Rat) / (b : Rat) = wsum f p (S.take k) - rq lim) (bd (702 + 1402 * k) t) (bd (702 + 1402 * k) b) ((l = ofL [(Str.ofString "factors", .ref pf), (Str.ofString "limit", qV lim), (Str.ofString "is_below", .bool st), (Str.ofString "point", .ref pp), (Str.ofString "top", .int t), (Str.ofString "bottom", .int b)] ∨ Is3 fun x y z => l = ofL [(Str.ofString "factors", .ref pf), (Str.ofString "limit", qV lim), (Str.ofString "is_below", .bool st), (Str.ofString "point", .ref pp), (Str.ofString "top", .int t), (Str.ofString "bottom", .int b), (Str.ofString "unknown", x), (Str.ofString "one", y), (Str.ofString "other", z)])),
   ⟨rfl, _, _, hlim.1, ?_, ?_, ?_, .inl rfl⟩, ?_, ?_⟩
 · have l0 := ratI hlim.1
   simp only [List.take_zero, wsum, Rat.intCast_sub, Rat.intCast_zero]
   show _ = _ - (lim.1 : Rat) / (lim.2 : Rat)
   grind
 · rw [Int.zero_sub]; exact hlim.2.1.neg.mono (by decide)
 · exact hlim.2.2.mono (by decide)
 · rintro k l _ x ⟨rfl, t, b, hb0, hr, ht, hb, hl'⟩ hx
   revert l x; revert k t b; refine letI k := _; letI t := _; letI b := _; epsX3 2 k t b rfl ?_; wtm_at "in"
   refine ⟨upd_same _ _ _, ?_⟩
   obtain ⟨u, rfl, hu⟩ := map_get hx
   revert l; revert u; refine letI u := _; epsX1 3 u rfl ?_; wtm_at "in"
   have hk : k < 3 := by have := (List.getElem?_eq_some_iff.mp hu).1; (clear hl' hb0; omega)
   have hum : u ∈ us := hperm.subset (List.mem_of_getElem? hu)
   obtain ⟨f0, f1, f2⟩ := hf u hum
   obtain ⟨p0, p1, p2⟩ := hp' u hum
   have d1 : dlook (dE us fun u => qV (f u)) (.int u) = some (qV (f u)) := dE_look hum
   have d2 := hp u hum
   obtain ⟨s1, s2⟩ := says_step (f1 := (f u).1) (p1 := (p u).1) hb0 f0 p0 hr
   have b1 : bd (702 + 1402 * k + 700) (t * (f u).2) := ht.mul f2
   have b2 : bd (702 + 1402 * k + 700) (b * (f u).2) := hb.mul f2
   have b3 : bd (1400) ((f u).1 * (p u).1) := f1.mul p1
   rcases hl' with rfl | ⟨x, y, z, rfl⟩
   rotate_left
   revert x y z; refine letI x := _; letI y := _; letI z := _; epsX3 4 x y z rfl ?_; wtm_at "in"
   rotate_left
   all_goals
     wtm_at "pw"
     · exact ht.mono (by first | assumption | decide | (clear s1 p0 f0 hb0 hlen hl; omega))
     · exact f2.mono (by first | assumption | decide | omega)
     · exact b1.mono (by first | assumption | decide | (clear s1 p0 f0 hb0 hlen hl; omega))
     · exact p2.mono (by first | assumption | decide | omega)
     · exact f1.mono (by first | assumption | decide | omega)
     · exact p1.mono (by first | assumption | decide | omega)
     · exact b3.mono (by first | assumption | decide | omega)
     · exact hb.mono (by first | assumption | decide | (clear s1 p0 f0 hb0 hlen hl; omega))
     · exact hb.mono (by first | assumption | decide | (clear s1 p0 f0 hb0 hlen hl; omega))
     · exact f2.mono (by first | assumption | decide | omega)
     · exact b2.mono (by first | assumption | decide | (clear s1 p0 f0 hb0 hlen hl; omega))
     · exact p2.mono (by first | assumption | decide | omega)
     · refine ⟨rfl, _, _, s1, ?_, ?_, ?_, .inr ⟨_, _, _, rfl⟩⟩
       · rw [s2, wsum_take f p hu]
         show _ = _ + (((f u).1 : Rat) / ((f u).2 : Rat)) * (((p u).1 : Rat) / ((p u).2 : Rat)) - _
         grind
       · have := (b1.mul p2).add ((b3.mul hb).mono (j := 702 + 1402 * k + 700 + 700) (by first | assumption | decide | (clear s1 p0 f0 hk hb0 hlen hl; omega)))
         exact this.mono (by first | assumption | decide | (clear s1 p0 f0 hk hb0 hlen hl; omega))
       · exact (b2.mul p2).mono (by first | assumption | decide | (clear s1 p0 f0 hk hb0 hlen hl; omega))
 · rintro l _ ⟨rfl, t, b, hb0, hr, ht, hb, hl'⟩
   revert l; revert t b; refine letI t := _; letI b := _; epsX2 5 t b rfl ?_; wtm_at "in"
   refine ⟨upd_same _ _ _, ?_⟩
   rw [List.length_map, List.take_length] at hr
   obtain ⟨r1, r2⟩ := rat_lt0 hb0 hr
   have hh := h _ (Hx.new (o := .list (S.map V.int)) h1)
   unfold saysB at hh
   rcases hl' with rfl | ⟨x, y, z, rfl⟩
   rotate_left
   revert x y z; refine letI x := _; letI y := _; letI z := _; epsX3 6 x y z rfl ?_; wtm_at "in"
   rotate_left
   all_goals
     wtm_at "pw"
     · rename_i e; simpa [r1, r2, e] using hh
     · rename_i e1 e2; simpa [r1, r2, e1, e2] using hh
     · rename_i e1 e2; simpa [r1, r2, e1, e2] using hh
end E8
theorem says_ok {X : Wd} {w : World} (hX : IsX X w) (pf pp : Addr) (us S : List Int) (f p : Int → Int × Int) (lim : Int × Int) (st : Bool) (epf epp : Nat) (pes : List (Key × V)) (σ : Hp) {lv : Nat} (Q : V → Hp → Prop) (hpf : σ pf = some (.dict (dE us fun u => qV (f u)) epf)) (hpp : σ pp = some (.dict pes epp)) (hp : ∀ u ∈ us, dlook pes (.int u) = some (qV (p u))) (hus : us.Perm S) (hS : S.Pairwise (· < ·)) (hl : us.length ≤ 3) (hf : ∀ u ∈ us, okQ 700 (f u)) (hp' : ∀ u ∈ us, okQ 700 (p u)) (hlim : okQ 700 lim) (h : ∀ σ', Hx σ σ' → Q (.bool (saysB f p lim st S)) σ') : CallV X (lv + 1) (.ref 803) [.ref pf, qV lim, .bool st, .ref pp] σ Q :=
 (epsW_elim E8.zn (S := E8.ZS) E8.zc ⟨S, X, w, pf, pp, us, f, p, lim, st, epf, epp, pes, σ, lv, Q⟩) hX hpf hpp hp hus hS hl hf hp' hlim h
theorem rq_of {a b c d : Int} (hb : 0 < b) (hd : 0 < d) (h : a * d = c * b) : rq (a, b) = rq (c, d) := by
 have b0 := ratI hb
 have d0 := ratI hd
 have : (a : Rat) * (d : Rat) = (c : Rat) * (b : Rat) := by rw [← Rat.intCast_mul, ← Rat.intCast_mul, h]
 show (a : Rat) / (b : Rat) = (c : Rat) / (d : Rat)
 grind
theorem of_rq {a b c d : Int} (hb : 0 < b) (hd : 0 < d) (h : rq (a, b) = rq (c, d)) : a * d = c * b := by
 have b0 := ratI hb
 have d0 := ratI hd
 have h : (a : Rat) / (b : Rat) = (c : Rat) / (d : Rat) := h
 have : (a : Rat) * (d : Rat) = (c : Rat) * (b : Rat) := by grind
 have : ((a * d : Int) : Rat) = ((c * b : Int) : Rat) := by rw [Rat.intCast_mul, Rat.intCast_mul]; exact this
 exact_mod_cast this
theorem floor_facts {n m : Int} (hm : 0 < m) : n.fdiv m * m ≤ n ∧ n < (n.fdiv m + 1) * m := by
 rw [Int.fdiv_eq_ediv_of_nonneg _ (by first | assumption | decide | omega)]
 have h1 := Int.ediv_mul_le n (b := m) (by first | assumption | decide | omega)
 have h2 := Int.lt_ediv_add_one_mul_self n hm
 exact ⟨h1, h2⟩
theorem ceil_facts {n m : Int} (hm : 0 < m) : (-((-n).fdiv m) - 1) * m < n ∧ n ≤ (-((-n).fdiv m) - 1 + 1) * m := by
 obtain ⟨h1, h2⟩ := floor_facts (n := -n) hm
 generalize (-n).fdiv m = e at *
 have e1 : (-e - 1) * m = -((e + 1) * m) := by grind
 have e2 : (-e - 1 + 1) * m = -(e * m) := by grind
 rw [e1, e2]
 first | assumption | decide | omega
theorem due_core {used : List Int} {f : Int → Int × Int} {kd : Int → Int} {bn : Int × Int} {st st' : Bool} {k : Int → Int} {q : Int × Int} (R : NRow used f kd bn st k q st') (hne : used ≠ []) (hf : ∀ u ∈ used, 0 < (f u).2)
   {many : Int} (hm : 0 < many) {num : Int → Int} (hn : ∀ u ∈ used, num u * (f u).2 = (f u).1 * many) (hb : 0 < bn.2) {G : Nat} (hG : gcdL (used.map num) = G) :
   0 < G ∧ (∀ u ∈ used, num u = k u * G) ∧ ((¬ ∀ u ∈ used, kd u = 1) → st' = st ∧ q.1 * (bn.2 * G) = bn.1 * many * q.2) ∧
   ((∀ u ∈ used, kd u = 1) → q.2 = 1 ∧ st' = false ∧ (st = true → q.1 * (bn.2 * G) < bn.1 * many ∧ bn.1 * many ≤ (q.1 + 1) * (bn.2 * G)) ∧ (st = false → q.1 * (bn.2 * G) ≤ bn.1 * many ∧ bn.1 * many < (q.1 + 1) * (bn.2 * G))) := by
 obtain ⟨c, c0, hk, hg, n, m, hm0, hnm, hq, h1, h2⟩ := R.full hne
 have hkn : ∀ u ∈ used, (k u : Rat) = c * ((num u : Rat) / (many : Rat)) := fun u hu => by
   rw [hk u hu]
   congr 1
   exact rq_of (hf u hu) hm (hn u hu).symm
 obtain ⟨g1, g2, g3⟩ := prim_core c0 hm hg hkn
 rw [hG] at g1 g2 g3
 have gp : (0 : Int) < G := by first | assumption | decide | omega
 have hup : 0 < bn.2 * G := Int.mul_pos hb gp
 have key : n * (bn.2 * G) = bn.1 * many * m := by
   have b0 := ratI hb
   have m0 := ratI hm0
   have G0 : (G : Rat) ≠ 0 := by rw [← Rat.intCast_natCast]; exact ratI gp
   have hq : (n : Rat) / (m : Rat) = c * ((bn.1 : Rat) / (bn.2 : Rat)) := hq
   have : (n : Rat) * ((bn.2 : Rat) * (G : Rat)) = (bn.1 : Rat) * (many : Rat) * (m : Rat) := by grind
   have : ((n * (bn.2 * G) : Int) : Rat) = ((bn.1 * many * m : Int) : Rat) := by
     simp only [Rat.intCast_mul, Rat.intCast_natCast]; exact this
   exact_mod_cast this
 refine ⟨by first | assumption | decide | omega, g2, fun hr => ?_, fun hi => ?_⟩
 · obtain ⟨rfl, rfl⟩ := h2 hr
   exact ⟨rfl, key⟩
 · obtain ⟨rfl, rfl⟩ := h1 hi
   generalize bn.2 * (G : Int) = un at *
   generalize bn.1 * many = ov at *
   refine ⟨rfl, rfl, fun hs => ?_, fun hs => ?_⟩
   · subst hs
     obtain ⟨l1, l2⟩ := ceil_facts (n := n) hm0
     simp only [if_true]
     generalize -((-n).fdiv m) - 1 = t at *
     refine ⟨Int.lt_of_mul_lt_mul_right (a := m) ?_ (by first | assumption | decide | omega), Int.le_of_mul_le_mul_right (a := m) ?_ hm0⟩
     · have := Int.mul_lt_mul_of_pos_right l1 hup
       calc t * un * m = t * m * un := by ac_rfl
         _ < n * un := this
         _ = ov * m := key
     · have := Int.mul_le_mul_of_nonneg_right l2 (Int.le_of_lt hup)
       calc ov * m = n * un := key.symm
         _ ≤ (t + 1) * m * un := this
         _ = (t + 1) * un * m := by ac_rfl
   · subst hs
     obtain ⟨l1, l2⟩ := floor_facts (n := n) hm0
     simp only [Bool.false_eq_true, if_false]
     generalize n.fdiv m = t at *
     refine ⟨Int.le_of_mul_le_mul_right (a := m) ?_ hm0, Int.lt_of_mul_lt_mul_right (a := m) ?_ (by first | assumption | decide | omega)⟩
     · have := Int.mul_le_mul_of_nonneg_right l1 (Int.le_of_lt hup)
       calc t * un * m = t * m * un := by ac_rfl
         _ ≤ n * un := this
         _ = ov * m := key
     · have := Int.mul_lt_mul_of_pos_right l2 hup
       calc ov * m = n * un := key.symm
         _ < (t + 1) * m * un := this
         _ = (t + 1) * un * m := by ac_rfl
theorem wsum_scale {f g p : Int → Int × Int} {c : Rat} : ∀ {S : List Int}, (∀ u ∈ S, rq (g u) = c * rq (f u)) → wsum g p S = c * wsum f p S
 | [], _ => by simp only [wsum]; grind
 | u :: r, h => by
   have h1 := h u List.mem_cons_self
   have h2 := wsum_scale (p := p) (fun v hv => h v (List.mem_cons_of_mem u hv))
   simp only [wsum, h1, h2]; grind
theorem wsum_int {g p : Int → Int × Int} : ∀ {S : List Int}, (∀ u ∈ S, (g u).2 = 1 ∧ ((p u).2 = 1 ∨ (g u).1 = 0)) → ∃ N : Int, wsum g p S = (N : Rat)
 | [], _ => ⟨0, by simp [wsum]⟩
 | u :: r, h => by
   obtain ⟨N, hN⟩ := wsum_int (p := p) (fun v hv => h v (List.mem_cons_of_mem u hv))
   obtain ⟨h1, h2⟩ := h u List.mem_cons_self
   refine ⟨(g u).1 * (p u).1 + N, ?_⟩
   simp only [wsum, hN, Rat.intCast_add, Rat.intCast_mul]
   have e1 : rq (g u) = ((g u).1 : Rat) := by
     show ((g u).1 : Rat) / ((g u).2 : Rat) = _
     rw [h1]; simp only [Rat.intCast_one]; grind
   rw [e1]
   rcases h2 with h2 | h2
   · have e2 : rq (p u) = ((p u).1 : Rat) := by
       show ((p u).1 : Rat) / ((p u).2 : Rat) = _
       rw [h2]; simp only [Rat.intCast_one]; grind
     rw [e2]
   · rw [h2]; simp only [Rat.intCast_zero]; grind
theorem rat_scale {c r : Rat} (hc : 0 < c) : (c * r < 0 ↔ r < 0) ∧ (c * r = 0 ↔ r = 0) := by
 refine ⟨?_, ?_⟩
 · exact Rat.mul_neg_iff_of_pos_left hc
 · constructor
   · intro h
     rcases Rat.mul_eq_zero.mp h with h | h
     · rw [h] at hc; exact absurd hc (by decide)
     · exact h
   · intro h; rw [h]; exact Rat.mul_zero _
theorem lt_frac {N n m : Int} (hm : 0 < m) : ((N : Rat) - rq (n, m) < 0 ↔ N * m < n) ∧ ((N : Rat) - rq (n, m) = 0 ↔ N * m = n) := by
 have m0 := ratI hm
 have mp := ratP hm
 have e : (N : Rat) - rq (n, m) = ((N * m - n : Int) : Rat) / (m : Rat) := by
   show (N : Rat) - (n : Rat) / (m : Rat) = _
   rw [Rat.intCast_sub, Rat.intCast_mul]; grind
 obtain ⟨h1, h2⟩ := rat_lt0 hm e.symm
 rw [h1, h2]
 first | assumption | decide | omega
theorem says_core {S used : List Int} {f p : Int → Int × Int} {kd : Int → Int} {bn : Int × Int} {st st' : Bool} {k : Int → Int} {q : Int × Int} (R : NRow used f kd bn st k q st') (hS : used = S.filter fun u => (f u).1 != 0)
   (hp : ∀ u ∈ S, (p u).2 = 1 ∨ kd u ≠ 1) : saysB f p bn st S = saysB (fun u => (if u ∈ used then k u else 0, 1)) p q st' S := by
 have hz : ∀ u ∈ S, u ∉ used → (f u).1 = 0 := fun u hu hn => by
   by_cases e : (f u).1 = 0
   · exact e
   · exact absurd (by rw [hS, List.mem_filter]; exact ⟨hu, by simpa using e⟩) hn
 by_cases hne : used = []
 · obtain ⟨rfl, rfl⟩ := R.empty hne
   have e1 : wsum (fun u => (if u ∈ used then k u else 0, 1)) p S = 1 * wsum f p S := wsum_scale fun u hu => by
     have h1 := hz u hu (by rw [hne]; simp)
     show (((if u ∈ used then k u else 0) : Int) : Rat) / ((1 : Int) : Rat) = 1 * (((f u).1 : Rat) / ((f u).2 : Rat))
     rw [h1, hne]; simp only [List.not_mem_nil, if_false, Rat.intCast_zero]; grind
   rw [Rat.one_mul] at e1
   unfold saysB
   rw [e1]
 · obtain ⟨c, c0, hk, hg, n, m, hm0, hnm, hq, h1, h2⟩ := R.full hne
   have e1 : wsum (fun u => (if u ∈ used then k u else 0, 1)) p S = c * wsum f p S := wsum_scale fun u hu => by
     show (((if u ∈ used then k u else 0) : Int) : Rat) / ((1 : Int) : Rat) = c * rq (f u)
     by_cases hm : u ∈ used
     · rw [if_pos hm, ← hk u hm]; simp only [Rat.intCast_one]; grind
     · have h1 := hz u hu hm
       show _ = c * (((f u).1 : Rat) / ((f u).2 : Rat))
       rw [if_neg hm, h1]; simp only [Rat.intCast_zero]; grind
   have e2 : wsum (fun u => (if u ∈ used then k u else 0, 1)) p S - rq (n, m) = c * (wsum f p S - rq bn) := by rw [e1, hq]; grind
   obtain ⟨s1, s2⟩ := rat_scale (r := wsum f p S - rq bn) c0
   rw [← e2] at s1 s2
   by_cases hi : ∀ u ∈ used, kd u = 1
   · obtain ⟨rfl, rfl⟩ := h1 hi
     obtain ⟨N, hN⟩ := wsum_int (g := fun u => (if u ∈ used then k u else 0, 1)) (p := p) (S := S) fun u hu => ⟨rfl, by
       by_cases hm : u ∈ used
       · rcases hp u hu with h | h
         · exact .inl h
         · exact absurd (hi u hm) h
       · right; exact if_neg hm⟩
     unfold saysB
     rw [hN] at s1 s2 ⊢
     obtain ⟨l1, l2⟩ := lt_frac (N := N) (n := n) hm0
     rw [s1] at l1; rw [s2] at l2
     obtain ⟨l3, l4⟩ := lt_frac (N := N) (n := if st = true then -((-n).fdiv m) - 1 else n.fdiv m) (m := 1) (by decide)
     simp only [l1, l2, l3, l4, Int.mul_one]
     rw [Bool.eq_iff_iff]
     simp only [Bool.or_eq_true, Bool.and_eq_true, decide_eq_true_eq, Bool.not_eq_true', Bool.not_false, and_true]
     cases st with
     | true =>
       simp only [if_true, Bool.true_eq_false, and_false, or_false]
       obtain ⟨r1, r2⟩ := ceil_facts (n := n) hm0
       generalize -((-n).fdiv m) - 1 = t at *
       constructor
       · intro h
         by_cases hc : t + 1 ≤ N
         · have := Int.mul_le_mul_of_nonneg_right hc (Int.le_of_lt hm0); omega
         · first | assumption | decide | omega
       · intro h
         have := Int.mul_le_mul_of_nonneg_right (show N ≤ t by first | assumption | decide | omega) (Int.le_of_lt hm0); omega
     | false =>
       simp only [Bool.false_eq_true, if_false, and_true]
       obtain ⟨r1, r2⟩ := floor_facts (n := n) hm0
       generalize n.fdiv m = t at *
       constructor
       · intro h
         by_cases hc : t + 1 ≤ N
         · have := Int.mul_le_mul_of_nonneg_right hc (Int.le_of_lt hm0); omega
         · first | assumption | decide | omega
       · intro h
         have := Int.mul_le_mul_of_nonneg_right (show N ≤ t by first | assumption | decide | omega) (Int.le_of_lt hm0); omega
   · obtain ⟨rfl, rfl⟩ := h2 hi
     unfold saysB
     simp only [s1, s2]
theorem dvd_cop {a b m : Int} (h : m ∣ b * a) (hg : Int.gcd b m = 1) : m ∣ a := by
 have h1 : m.natAbs ∣ b.natAbs * a.natAbs := by rw [← Int.natAbs_mul]; exact Int.natAbs_dvd_natAbs.mpr h
 have h2 : Nat.Coprime m.natAbs b.natAbs := by rw [Nat.coprime_comm]; exact hg
 exact Int.natAbs_dvd_natAbs.mp (h2.dvd_of_dvd_mul_left h1)
theorem twin_core {used : List Int} {f f' : Int → Int × Int} {kd : Int → Int} {bn bn' : Int × Int} {st st1 st2 : Bool} {k k2 : Int → Int} {q q2 : Int × Int} {φ : Rat} (R : NRow used f kd bn st k q st1) (R2 : NRow used f' kd bn' st k2 q2 st2) (hne : used ≠ [])
   (h0 : 0 < φ) (hφ : ∀ u ∈ used, rq (f' u) = φ * rq (f u)) (hb : rq bn' = φ * rq bn) (hnz : ∀ u ∈ used, rq (f u) ≠ 0) : (∀ u ∈ used, k2 u = k u) ∧ q2 = q ∧ st2 = st1 := by
 obtain ⟨c, c0, hk, hg, n, m, hm0, hnm, hq, h1, h2⟩ := R.full hne
 obtain ⟨c', c'0, hk', hg', n', m', hm0', hnm', hq', h1', h2'⟩ := R2.full hne
 have e : ∀ u ∈ used, (k2 u : Rat) = (c' * φ / c) * ((k u : Rat) / ((1 : Int) : Rat)) := fun u hu => by
   rw [hk' u hu, hφ u hu, hk u hu, Rat.intCast_one]; grind
 have cp : 0 < c' * φ / c := by rw [Rat.lt_div_iff c0, Rat.zero_mul]; exact Rat.mul_pos c'0 h0
 obtain ⟨g1, g2, g3⟩ := prim_core cp (by decide) hg' e
 rw [hg] at g2 g3
 have hkk : ∀ u ∈ used, k2 u = k u := fun u hu => by have := g2 u hu; simpa using this.symm
 have hc : c' * φ = c := by
   have : c' * φ / c * 1 = 1 := by simpa using g3
   grind
 have hqq : rq (n', m') = rq (n, m) := by rw [hq', hq, hb, ← hc]; grind
 have h3 := of_rq hm0' hm0 hqq
 have hmm : m' = m ∧ n' = n := by
   have d1 : m ∣ m' := by
     have : m ∣ n * m' := ⟨n', by rw [← h3]; ac_rfl⟩
     exact dvd_cop this hnm
   have d2 : m' ∣ m := by
     have : m' ∣ n' * m := ⟨n, by rw [h3]; ac_rfl⟩
     exact dvd_cop this hnm'
   have := Int.le_of_dvd hm0 d2
   have := Int.le_of_dvd hm0' d1
   have e : m' = m := by first | assumption | decide | omega
   subst e
   exact ⟨rfl, Int.eq_of_mul_eq_mul_right (by first | assumption | decide | omega) h3⟩
 obtain ⟨rfl, rfl⟩ := hmm
 refine ⟨hkk, ?_⟩
 by_cases hi : ∀ u ∈ used, kd u = 1
 · obtain ⟨rfl, rfl⟩ := h1 hi
   obtain ⟨rfl, rfl⟩ := h1' hi
   exact ⟨rfl, rfl⟩
 · obtain ⟨rfl, rfl⟩ := h2 hi
   obtain ⟨rfl, rfl⟩ := h2' hi
   exact ⟨rfl, rfl⟩
noncomputable def prodD (f : Int → Int × Int) (us : List Int) : Int := us.foldl (fun a u => a * (f u).2) 1
theorem prodD_take (f : Int → Int × Int) {us : List Int} {k : Nat} {u : Int} (h : us[k]? = some u) : prodD f (us.take (k + 1)) = prodD f (us.take k) * (f u).2 := by
 unfold prodD
 rw [List.take_succ, h]
 simp [List.foldl_append]
theorem prodD_fold (f : Int → Int × Int) : ∀ (us : List Int) (a : Int), 0 < a → (∀ u ∈ us, 0 < (f u).2) → 0 < us.foldl (fun a u => a * (f u).2) a ∧ a ∣ us.foldl (fun a u => a * (f u).2) a ∧ ∀ u ∈ us, (f u).2 ∣ us.foldl (fun a u => a * (f u).2) a
 | [], a, h, _ => ⟨h, Int.dvd_refl _, by simp⟩
 | u :: us, a, h, hf => by
   rw [List.foldl_cons]
   obtain ⟨h1, h2, h3⟩ := prodD_fold f us (a * (f u).2) (Int.mul_pos h (hf u List.mem_cons_self)) fun v hv => hf v (List.mem_cons_of_mem _ hv)
   refine ⟨h1, Int.dvd_trans ⟨_, rfl⟩ h2, fun v hv => ?_⟩
   rcases List.mem_cons.mp hv with rfl | hv
   · exact Int.dvd_trans ⟨a, Int.mul_comm _ _⟩ h2
   · exact h3 v hv
theorem prodD_pos {f : Int → Int × Int} {us : List Int} (hf : ∀ u ∈ us, 0 < (f u).2) : 0 < prodD f us ∧ ∀ u ∈ us, (f u).2 ∣ prodD f us := by
 obtain ⟨h1, _, h3⟩ := prodD_fold f us 1 (by decide) hf
 exact ⟨h1, h3⟩
theorem prodD_bd {f : Int → Int × Int} {us : List Int} (hf : ∀ u ∈ us, bd 200 (f u).2) : ∀ k, k ≤ us.length → bd (1 + 200 * k) (prodD f (us.take k))
 | 0, _ => by unfold prodD; simp only [List.take_zero, List.foldl_nil]; unfold bd; decide
 | k + 1, h => by
   have hk : us[k]? = some us[k] := List.getElem?_eq_getElem (by first | assumption | decide | omega)
   rw [prodD_take f hk]
   exact ((prodD_bd hf k (by first | assumption | decide | omega)).mul (hf _ (List.mem_of_getElem? hk))).mono (by first | assumption | decide | omega)
theorem fdiv_of_dvd {a b : Int} (hb : 0 < b) (h : b ∣ a) : ∃ x, a = b * x ∧ a.fdiv b = x := by
 obtain ⟨x, rfl⟩ := h
 refine ⟨x, rfl, ?_⟩
 rw [Int.fdiv_eq_ediv_of_nonneg _ (by first | assumption | decide | omega), Int.mul_ediv_cancel_left _ (by first | assumption | decide | omega)]
theorem zip_map2 (us : List Int) (g : Int → Int) : ((us.map V.int).zip ((us.map g).map V.int)).map pairV = us.map fun u => .tup [.int u, .int (g u)] := by
 rw [List.map_map, List.zip_map', List.map_map]; rfl
namespace E9
structure ZT where
 S : List Int
 X : Wd
 w : World
 pr : Addr
 dr : Addr
 pd : Addr
 pf : Addr
 pk : Addr
 us : List Int
 f : Int → Int × Int
 kd : Int → Int
 li : Int × Int
 st : Bool
 k : Int → Int
 kes : List (Key × V)
 e1 : Nat
 e2 : Nat
 e3 : Nat
 e4 : Nat
 σ : Hp
 lv : Nat
 Q : V → Hp → Prop
noncomputable def ZS : ZT → Prop := fun ⟨S, X, w, pr, dr, pd, pf, pk, us, f, kd, li, st, k, kes, e1, e2, e3, e4, σ, lv, Q⟩ => ∀ (used : List Int) (q : Int × Int) (st' : Bool) (hX : IsX X w) (hr : σ pr = some (.inst 703 dr)) (hdr : σ dr = some (.dict (rowD (.ref pd) (qV q) (.bool st')) e1)) (hpd : σ pd = some (.dict (dE used fun u => .int (k u)) e2)) (hpf : σ pf = some (.dict (dE us fun u => qV (f u)) e3)) (hpk : σ pk = some (.dict kes e4)) (hk : ∀ u ∈ us, dlook kes (.int u) = some (.int (kd u))) (hkd : ∀ u ∈ us, kd u = 1 ∨ kd u = 2) (hus : us.Perm S) (hS : S.Pairwise (· < ·)) (hl : us.length ≤ 3) (hf : ∀ u ∈ us, okQ 200 (f u)) (hli : okQ 200 li) (hu : used = S.filter fun u => (f u).1 != 0) (R : NRow used f kd li st k q st') (h : ∀ σ', Hx σ σ' → Q (.bool true) σ'), CallV X (lv + 1) (.ref 808) [.ref pr, .ref pf, qV li, .bool st, .ref pk] σ Q
theorem zn : Nonempty ZT := ⟨⟨[], aWd, (PySem.W.aWorld 1), 0, 0, 0, 0, 0, [], (fun _ => (0, 0)), (fun _ => 0), (0, 0), false, (fun _ => 0), [], 0, 0, 0, 0, (fun _ => none), 0, (fun _ _ => True)⟩⟩
noncomputable def ze : ZT := epsW zn ZS
noncomputable def S : List Int := ze.S
noncomputable def X : Wd := ze.X
noncomputable def w : World := ze.w
noncomputable def pr : Addr := ze.pr
noncomputable def dr : Addr := ze.dr
noncomputable def pd : Addr := ze.pd
noncomputable def pf : Addr := ze.pf
noncomputable def pk : Addr := ze.pk
noncomputable def us : List Int := ze.us
noncomputable def f : Int → Int × Int := ze.f
noncomputable def kd : Int → Int := ze.kd
noncomputable def li : Int × Int := ze.li
noncomputable def st : Bool := ze.st
noncomputable def k : Int → Int := ze.k
noncomputable def kes : List (Key × V) := ze.kes
noncomputable def e1 : Nat := ze.e1
noncomputable def e2 : Nat := ze.e2
noncomputable def e3 : Nat := ze.e3
noncomputable def e4 : Nat := ze.e4
noncomputable def σ : Hp := ze.σ
noncomputable def lv : Nat := ze.lv
noncomputable def Q : V → Hp → Prop := ze.Q
theorem zc : ∀ (used : List Int) (q : Int × Int) (st' : Bool) (hX : IsX X w) (hr : σ pr = some (.inst 703 dr)) (hdr : σ dr = some (.dict (rowD (.ref pd) (qV q) (.bool st')) e1)) (hpd : σ pd = some (.dict (dE used fun u => .int (k u)) e2)) (hpf : σ pf = some (.dict (dE us fun u => qV (f u)) e3)) (hpk : σ pk = some (.dict kes e4)) (hk : ∀ u ∈ us, dlook kes (.int u) = some (.int (kd u))) (hkd : ∀ u ∈ us, kd u = 1 ∨ kd u = 2) (hus : us.Perm S) (hS : S.Pairwise (· < ·)) (hl : us.length ≤ 3) (hf : ∀ u ∈ us, okQ 200 (f u)) (hli : okQ 200 li) (hu : used = S.filter fun u => (f u).1 != 0) (R : NRow used f kd li st k q st') (h : ∀ σ', Hx σ σ' → Q (.bool true) σ'), CallV X (lv + 1) (.ref 808) [.ref pr, .ref pf, qV li, .bool st, .ref pk] σ Q := by
 intro used q st' hX hr hdr hpd hpf hpk hk hkd hus hS hl hf hli hu R h
 wtm_at "fn"
 wtm_at "pw"
 refine EvI.val ?_ rfl
 wtm_at "pw"
 refine CallV.sortedD (ns := us) hpf (dE_keys _ _) (by first | assumption | decide | omega) fun c1 ns h1 hperm hsort => ?_
 obtain rfl := sorted_is hperm hus hsort hS
 have hlen := hperm.length_eq
 wtm_at "pw"
 refine itP.list (upd_same _ _ _) ?_
 refine CompL.pure S V.int (fun u => (f u).1 != 0) V.int (upd_same _ _ _) (by simp only [lim]; omega) (fun u hu => ⟨_, rfl, rfl, ?_⟩) ?_
 · have hu' : u ∈ us := hperm.subset hu
   have hd1 : dlook (dE us fun u => qV (f u)) (.int u) = some (qV (f u)) := dE_look hu'
   wtm_at "pw"
   refine ⟨rfl, ?_, fun _ => ?_⟩
   · rw [Bool.eq_iff_iff]; simp
   wtm_at "pw"
   exact ⟨rfl, rfl⟩
 intro c2 h2
 rw [← hu]
 have hu0 : ∀ u ∈ used, u ∈ us ∧ (f u).1 ≠ 0 := fun u hm => by
   rw [hu, List.mem_filter] at hm
   exact ⟨hperm.subset hm.1, by simpa using hm.2⟩
 have hul : used.length ≤ 3 := by have := List.length_filter_le (fun u => (f u).1 != 0) S; rw [← hu] at this; omega
 have hund : used.Nodup := by rw [hu]; exact (hS.filter _).imp fun h => by first | assumption | decide | (clear hul hlen hl; omega)
 have X1 := Hx.new (o := .list (S.map V.int)) h1
 have X2 := X1.trans (Hx.new (o := .list (used.map V.int)) h2)
 clear hu
 wtm_at "pw"
 intro c3 h3
 have X3 := X2.trans (Hx.new (o := .list []) h3)
 have n23 : c2 ≠ c3 := ne_new h3 (upd_same _ _ _)
 have g2 : (upd (upd (upd σ c1 (.list (S.map V.int))) c2 (.list (used.map V.int))) c3 (.list [])) c2 = some (.list (used.map V.int)) := by wtm_at "hp"
 have g3 : (upd (upd (upd σ c1 (.list (S.map V.int))) c2 (.list (used.map V.int))) c3 (.list [])) c3 = some (.list []) := upd_same _ _ _
 generalize (upd (upd (upd σ c1 (.list (S.map V.int))) c2 (.list (used.map V.int))) c3 (.list [])) = σ3 at *
 have r3 := X3 _ _ hr
 have dr3 := X3 _ _ hdr
 have pd3 := X3 _ _ hpd
 have pf3 := X3 _ _ hpf
 have pk3 := X3 _ _ hpk
 wtm_at "pw"
 · rename_i h0
   have h0' : used = [] := by simpa using h0
   subst h0'
   obtain ⟨rfl, rfl⟩ := R.empty rfl
   refine Ev.dict0 fun c4 ep4 h4 => ?_
   wtm_at "pw"
   refine cmpP.eqD0 (us := []) (ep := e2) (ep' := ep4) (by wtm_at "hp") (upd_same _ _ _) (by wtm_at "ne") ?_
   have hh := h _ (X3.trans (Hx.new (o := .dict [] ep4) h4))
   wtm_at "pw"
   · simpa using hh
   · rename_i e; simp at e
   · rename_i e; simp at e
 have hne : used ≠ [] := by rename_i h0; intro e; apply h0; rw [e]; rfl
 revert σ3; revert c3; revert c2; revert c1
 revert used q st'; refine letI used := _; letI q := _; letI st' := _; epsX3 1 used q st' rfl ?_; wtm_at "in"
 revert σ3; revert c3; revert c2
 revert c1; refine letI c1 := _; epsX1 2 c1 rfl ?_; wtm_at "in"
 revert σ3; revert c3
 revert c2; refine letI c2 := _; epsX1 3 c2 rfl ?_; wtm_at "in"
 revert σ3
 revert c3; refine letI c3 := _; epsX1 4 c3 rfl ?_; wtm_at "in"
 revert σ3; refine letI σ3 := _; epsX1 5 σ3 rfl ?_; wtm_at "in"
 have hfu : ∀ u ∈ used, okQ 200 (f u) := fun u hm => hf u (hu0 u hm).1
 refine Ex.for_ (EvI.val ?_ rfl)
 wtm_at "pw"
 wtm_at "pw"
 refine itP.list g2 ⟨fun k l σ' => σ' = σ3 ∧ ((k = 0 ∧ l = ofL [(Str.ofString "row", .ref pr), (Str.ofString "factors", .ref pf), (Str.ofString "limit", qV li), (Str.ofString "is_below", .bool st), (Str.ofString "kinds", .ref pk), (Str.ofString "used", .ref c2), (Str.ofString "many", .int (prodD f (used.take k)))]) ∨ (0 < k ∧ ∃ x, l = ofL [(Str.ofString "row", .ref pr), (Str.ofString "factors", .ref pf), (Str.ofString "limit", qV li), (Str.ofString "is_below", .bool st), (Str.ofString "kinds", .ref pk), (Str.ofString "used", .ref c2), (Str.ofString "many", .int (prodD f (used.take k))), (Str.ofString "unknown", x)])), ⟨rfl, .inl ⟨rfl, rfl⟩⟩, ?_, ?_⟩
 · rintro k l _ x ⟨rfl, hl'⟩ hx
   revert l x; revert k; refine letI k := _; epsX1 6 k rfl ?_; wtm_at "in"
   refine ⟨g2, ?_⟩
   obtain ⟨u, rfl, hku⟩ := map_get hx
   revert l; revert u; refine letI u := _; epsX1 7 u rfl ?_; wtm_at "in"
   have hm := List.mem_of_getElem? hku
   have hd1 : dlook (dE us fun u => qV (f u)) (.int u) = some (qV (f u)) := dE_look (hu0 u hm).1
   have hb1 := prodD_bd (f := f) (us := used) (fun u hm => (hfu u hm).2.2) k (by have := (List.getElem?_eq_some_iff.mp hku).1; (clear hl' a hul hlen hl; omega))
   have hk3 : k < 3 := by have := (List.getElem?_eq_some_iff.mp hku).1; (clear hl' a hlen hl; omega)
   have ht := prodD_take f hku
   rcases hl' with ⟨_, rfl⟩ | ⟨_, y, rfl⟩
   rotate_left
   revert y; refine letI y := _; epsX1 8 y rfl ?_; wtm_at "in"
   rotate_left
   all_goals
     wtm_at "pw"
     · exact hb1.mono (by first | assumption | decide | omega)
     · exact (hfu u hm).2.2.mono (by decide)
     · exact ⟨rfl, .inr ⟨by first | assumption | decide | omega, _, by rw [ht]; rfl⟩⟩
 rintro l σ' ⟨rfl, hl'⟩
 refine ⟨g2, ?_⟩
 rw [List.length_map, List.take_length] at hl'
 obtain ⟨x0, rfl⟩ := (hl'.resolve_left fun e => hne (List.length_eq_zero_iff.mp e.1)).2
 revert x0; refine letI x0 := _; epsX1 9 x0 rfl ?_; wtm_at "in"
 clear hl'
 obtain ⟨mpos, mdv⟩ := prodD_pos (f := f) (us := used) fun u hm => (hfu u hm).1
 have mbd : bd 601 (prodD f used) := by
   have := prodD_bd (f := f) (us := used) (fun u hm => (hfu u hm).2.2) used.length (Nat.le_refl _)
   rw [List.take_length] at this; exact this.mono (by first | assumption | decide | (clear mpos a hlen hl; omega))
 generalize prodD f used = many at *
 revert many; refine letI many := _; epsX1 10 many rfl ?_; wtm_at "in"
 have hnum : ∀ u ∈ used, ((f u).1 * many.fdiv (f u).2) * (f u).2 = (f u).1 * many ∧ bd 801 ((f u).1 * many.fdiv (f u).2) ∧ (f u).1 * many.fdiv (f u).2 ≠ 0 ∧ sm (many.fdiv (f u).2) := fun u hm => by
   obtain ⟨o1, o2, o3⟩ := hfu u hm
   obtain ⟨x, hx, e⟩ := fdiv_of_dvd o1 (mdv u hm)
   rw [e]
   have hxb : bd 601 x := bd.of_le mbd (by rw [hx, Int.natAbs_mul]; exact Nat.le_mul_of_pos_left _ (by first | assumption | decide | (clear e hx mpos a hul hlen hl; omega)))
   have hx0 : x ≠ 0 := by rintro rfl; simp at hx; (clear e o1 a hul hlen hl; omega)
   exact ⟨by rw [hx]; ac_rfl, (o2.mul hxb).mono (by decide), Int.mul_ne_zero (hu0 u hm).2 hx0, hxb.mono (by decide)⟩
 wtm_at "pw"
 refine EvI.val ?_ rfl
 wtm_at "pw"
 wtm_at "pw"
 refine itP.list g2 ?_
 refine CompL.pure used V.int (fun _ => true) (fun u => .int ((f u).1 * many.fdiv (f u).2)) g2 (by simp only [lim]; (clear mpos a hlen hl; omega)) (fun u hm => ⟨_, rfl, rfl, ?_⟩) ?_
 · revert u; refine letI u := _; epsX1 11 u rfl ?_; wtm_at "in"
   have hd1 : dlook (dE us fun u => qV (f u)) (.int u) = some (qV (f u)) := dE_look (hu0 u hm).1
   wtm_at "pw"
   refine ⟨rfl, rfl, fun _ => ?_⟩
   wtm_at "pw"
   · have := (hfu u hm).1; (clear mpos a hul hlen hl; omega)
   · exact (hfu u hm).2.2.mono (by decide)
   · exact (hfu u hm).2.1.mono (by decide)
   · exact (hnum u hm).2.2.2
   · exact ⟨rfl, rfl⟩
 intro c4 h4
 revert c4; refine letI c4 := _; epsX1 12 c4 rfl ?_; wtm_at "in"
 generalize hnv : (fun u => (f u).1 * many.fdiv (f u).2) = num at *
 revert num; refine letI num := _; epsX1 13 num rfl ?_; wtm_at "in"
 have hnum' : ∀ u ∈ used, num u * (f u).2 = (f u).1 * many ∧ bd 801 (num u) ∧ num u ≠ 0 := fun u hm => by
   have := hnum u hm
   rw [← hnv]; exact ⟨this.1, this.2.1, this.2.2.1⟩
 have hal : (used.filter fun _ => true) = used := List.filter_eq_self.mpr fun _ _ => rfl
 rw [hal, show (used.map fun u => V.int ((f u).1 * many.fdiv (f u).2)) = (used.map num).map V.int by rw [← hnv]; simp]
 have X4 := X3.trans (Hx.new (o := .list ((used.map num).map V.int)) h4)
 have g42 : (upd σ3 c4 (.list ((used.map num).map V.int))) c2 = some (.list (used.map V.int)) := by wtm_at "hp"
 have g44 : (upd σ3 c4 (.list ((used.map num).map V.int))) c4 = some (.list ((used.map num).map V.int)) := upd_same _ _ _
 generalize (upd σ3 c4 (.list ((used.map num).map V.int))) = σ4 at *
 revert σ4; refine letI σ4 := _; epsX1 14 σ4 rfl ?_; wtm_at "in"
 clear hnum r3 dr3 pd3 pf3 pk3 g2 g3
 generalize hGv : gcdL (used.map num) = G at *
 revert G; refine letI G := _; epsX1 15 G rfl ?_; wtm_at "in"
 obtain ⟨u0, hu00⟩ : ∃ u, u ∈ used := List.exists_mem_of_ne_nil _ hne
 revert u0; refine letI u0 := _; epsX1 16 u0 rfl ?_; wtm_at "in"
 obtain ⟨G0, Gk, Greal, Gint⟩ := due_core R hne (fun u hm => (hfu u hm).1) mpos (fun u hm => (hnum' u hm).1) hli.1 hGv
 have Gle : ∀ u ∈ used, G ≤ (num u).natAbs := fun u hm => by rw [← hGv]; exact gcdL_le (List.mem_map.mpr ⟨u, hm, rfl⟩) (hnum' u hm).2.2
 have hal2 : ∀ l : List Int, (l.filter fun _ => true) = l := fun l => List.filter_eq_self.mpr fun _ _ => rfl
 have hlm : (used.map num).length < lim := by simp only [lim, List.length_map]; (clear G0 hGv mpos a hlen hl; omega)
 wtm_at "pw"
 refine EvI.val ?_ rfl
 wtm_at "pw"
 wtm_at "pw"
 refine itP.list g44 ?_
 refine CompL.pure (used.map num) V.int (fun _ => true) (fun n => .int n.natAbs) g44 hlm (fun n hm => ⟨_, rfl, rfl, ?_⟩) ?_
 · revert n; refine letI n := _; epsX1 17 n rfl ?_; wtm_at "in"
   wtm_at "pw"
   refine ⟨rfl, rfl, fun _ => ?_⟩
   wtm_at "pw"
   exact ⟨rfl, rfl⟩
 intro c5 h5
 revert c5; refine letI c5 := _; epsX1 18 c5 rfl ?_; wtm_at "in"
 rw [hal2, show ((used.map num).map fun n => V.int (n.natAbs : Int)) = ((used.map num).map fun n => (n.natAbs : Int)).map V.int by simp]
 have X5 := X4.trans (Hx.new (o := .list (((used.map num).map fun n => (n.natAbs : Int)).map V.int)) h5)
 have g52 := upd_old (o := .list (((used.map num).map fun n => (n.natAbs : Int)).map V.int)) h5 g42
 have g54 := upd_old (o := .list (((used.map num).map fun n => (n.natAbs : Int)).map V.int)) h5 g44
 wtm_at "pw"
 refine CallV.minL (ns := (used.map num).map fun n => (n.natAbs : Int)) (upd_same _ _ _) (by simp only [List.length_map]; exact List.length_pos_iff.mpr hne) fun m hm1 hm2 => ?_
 generalize (upd σ4 c5 (.list (((used.map num).map fun n => (n.natAbs : Int)).map V.int))) = σ5 at *
 have hmm : G ≤ m ∧ bd 801 m := by
   simp only [List.map_map, List.mem_map] at hm1
   obtain ⟨u, hm, rfl⟩ := hm1
   exact ⟨by have := Gle u hm; simp only [Function.comp_apply]; (clear hlm G0 hGv mpos a hul hlen hl; omega), bd.of_le (hnum' u hm).2.1 (by simp)⟩
 revert σ5; revert m; refine letI m := _; epsX1 19 m rfl ?_; wtm_at "in"
 revert σ5; refine letI σ5 := _; epsX1 20 σ5 rfl ?_; wtm_at "in"
 wtm_at "pw"
 refine Ex.while_ (fun n l σ' => Hx σ σ' ∧ σ' c2 = some (.list (used.map V.int)) ∧ σ' c4 = some (.list ((used.map num).map V.int)) ∧ ∃ s : Int, Al4 (G ≤ s) (bd 801 s) (n = s.natAbs) (l = ofL [(Str.ofString "row", .ref pr), (Str.ofString "factors", .ref pf), (Str.ofString "limit", qV li), (Str.ofString "is_below", .bool st), (Str.ofString "kinds", .ref pk), (Str.ofString "used", .ref c2), (Str.ofString "many", .int many), (Str.ofString "unknown", x0), (Str.ofString "numbers", .ref c4), (Str.ofString "share", .int s)])) m.natAbs ⟨X5, g52, g54, m, hmm.1, hmm.2, rfl, rfl⟩ ?_
 rintro n _ σ6 ⟨X6, g62, g64, s, hs1, hsb, rfl, rfl⟩
 revert s; revert σ6; refine letI σ6 := _; epsX1 21 σ6 rfl ?_; wtm_at "in"
 revert s; refine letI s := _; epsX1 22 s rfl ?_; wtm_at "in"
 wtm_at "pw"
 refine EvI.val ?_ rfl
 wtm_at "pw"
 wtm_at "pw"
 refine itP.list g64 ?_
 refine CompL.pure (used.map num) V.int (fun n => n.fmod s != 0) V.int g64 hlm (fun n hm => ⟨_, rfl, rfl, ?_⟩) ?_
 · revert n; refine letI n := _; epsX1 23 n rfl ?_; wtm_at "in"
   wtm_at "pw"
   · first | assumption | decide | (clear hmm hlm hGv mpos a hul hlen hl; omega)
   refine ⟨rfl, ?_, fun _ => ?_⟩
   · rw [Bool.eq_iff_iff]; simp
   wtm_at "pw"
   exact ⟨rfl, rfl⟩
 intro c7 h7
 revert c7; refine letI c7 := _; epsX1 24 c7 rfl ?_; wtm_at "in"
 have hall : ((used.map num).filter fun n => n.fmod s != 0).map V.int = [] ↔ ∀ u ∈ used, (num u).fmod s = 0 := by simp
 generalize ((used.map num).filter fun n => n.fmod s != 0).map V.int = bad at *
 revert bad; refine letI bad := _; epsX1 25 bad rfl ?_; wtm_at "in"
 have X7 := X6.trans (Hx.new (o := .list bad) h7)
 have g72 := upd_old (o := .list bad) h7 g62
 have g74 := upd_old (o := .list bad) h7 g64
 wtm_at "pw"
 intro c8 h8
 revert c8; refine letI c8 := _; epsX1 26 c8 rfl ?_; wtm_at "in"
 have X8 := X7.trans (Hx.new (o := .list []) h8)
 have g82 := upd_old (o := .list []) h8 g72
 have g84 := upd_old (o := .list []) h8 g74
 wtm_at "pw"
 · rename_i hbad
   refine ⟨(s - 1).natAbs, by first | assumption | decide | (clear hbad hall hmm hlm hGv mpos a hul hlen hl; omega), X8, g82, g84, s - 1, ?_, bd.of_le hsb (by first | assumption | decide | (clear hbad hall hmm hlm hGv mpos a hul hlen hl; omega)), rfl, rfl⟩
   have : s ≠ G := by
     intro e0
     refine hbad (hall.mpr fun u hm => ?_)
     rw [e0, Gk u hm]
     exact Int.fmod_eq_zero_of_dvd ⟨k u, by ac_rfl⟩
   first | assumption | decide | (clear hbad hall hmm hlm G0 hGv mpos a hul hlen hl; omega)
 rename_i hbad
 have hsG : s = G := by
   have h1 : s.natAbs ∣ G := by
     rw [← hGv]
     refine dvd_gcdL _ _ fun n hn => ?_
     obtain ⟨u, hm, rfl⟩ := List.mem_map.mp hn
     exact Int.natAbs_dvd_natAbs.mpr (Int.dvd_of_fmod_eq_zero (hall.mp hbad u hm))
   have := Nat.le_of_dvd G0 h1
   first | assumption | decide | (clear h1 hall hmm hlm G0 hGv mpos a hul hlen hl; omega)
 rw [hsG] at hsb ⊢
 generalize (upd (upd σ6 c7 (.list bad)) c8 (.list [])) = σ8 at *
 revert σ8; refine letI σ8 := _; epsX1 27 σ8 rfl ?_; wtm_at "in"
 clear g72 g74 g62 g64 h8 X7 X6 hbad hall h7 hs1 g52 g54 X5 h5 hm1 hm2 hmm g42 g44 X4 h4 X3 h3
 have r8 := X8 _ _ hr
 have dr8 := X8 _ _ hdr
 have pd8 := X8 _ _ hpd
 have pf8 := X8 _ _ hpf
 have pk8 := X8 _ _ hpk
 wtm_at "pw"
 refine EvI.zip (by wtm_at "nm") ?_ rfl rfl
 wtm_at "pw"
 refine ⟨c2, c4, used.map V.int, (used.map num).map V.int, rfl, by wtm_at "hp", by wtm_at "hp", ?_⟩
 rw [zip_map2]
 refine CompL.pure used (fun u => .tup [.int u, .int (num u)]) (fun _ => true) (fun u => .tup [.int u, .int ((num u).fdiv G)]) ⟨g82, g84⟩ (by simp only [lim]; (clear hsG hlm G0 hGv mpos a hlen hl; omega)) (fun u hm => ⟨_, rfl, rfl, ?_⟩) ?_
 · revert u; refine letI u := _; epsX1 28 u rfl ?_; wtm_at "in"
   wtm_at "pw"
   refine ⟨rfl, rfl, fun _ => ?_⟩
   wtm_at "pw"
   · first | assumption | decide | (clear hlm hGv mpos a hul hlen hl; omega)
   · exact hsb.mono (by decide)
   · exact ⟨rfl, rfl⟩
 intro c9 h9
 revert c9; refine letI c9 := _; epsX1 29 c9 rfl ?_; wtm_at "in"
 rw [hal]
 have X9 := X8.trans (Hx.new (o := .list (used.map fun u => V.tup [.int u, .int ((num u).fdiv G)])) h9)
 have r9 := X9 _ _ hr
 have dr9 := X9 _ _ hdr
 have pd9 := X9 _ _ hpd
 have pk9 := X9 _ _ hpk
 have g92 := upd_old (o := .list (used.map fun u => V.tup [.int u, .int ((num u).fdiv G)])) h9 g82
 wtm_at "pw"
 refine CallV.dictE (us := used) (g := fun u => .int ((num u).fdiv G)) (upd_same _ _ _) hund fun c10 ep10 h10 => ?_
 revert c10 ep10; refine letI c10 := _; letI ep10 := _; epsX2 30 c10 ep10 rfl ?_; wtm_at "in"
 generalize (upd σ8 c9 (.list (used.map fun u => V.tup [.int u, .int ((num u).fdiv G)]))) = σ9 at *
 revert σ9; refine letI σ9 := _; epsX1 31 σ9 rfl ?_; wtm_at "in"
 have Gz : (G : Int) ≠ 0 := by first | assumption | decide | (clear hlm hGv mpos a hul hlen hl; omega)
 have hkG : ∀ u ∈ used, (num u).fdiv G = k u := fun u hm => by
   rw [Gk u hm, Int.fdiv_eq_ediv_of_nonneg _ (by first | assumption | decide | omega), Int.mul_ediv_cancel _ Gz]
 have X10 := X9.trans (Hx.new (o := .dict (dE used fun u => .int ((num u).fdiv G)) ep10) h10)
 have r10 := X10 _ _ hr
 have dr10 := X10 _ _ hdr
 have pd10 := X10 _ _ hpd
 have pk10 := X10 _ _ hpk
 have g102 := upd_old (o := .dict (dE used fun u => .int ((num u).fdiv G)) ep10) h10 g92
 wtm_at "pw"
 refine cmpP.neD (us := used) (g := fun u => .int (k u)) (g' := fun u => .int ((num u).fdiv G)) pd10 (upd_same _ _ _) (ne_new h10 pd9) (fun u hm => by rw [veqN_int, hkG u hm]; simp) ?_
 generalize (upd σ9 c10 (.dict (dE used fun u => .int ((num u).fdiv G)) ep10)) = σ10 at *
 revert σ10; refine letI σ10 := _; epsX1 32 σ10 rfl ?_; wtm_at "in"
 clear g92 g82 g84 r9 dr9 pd9 pk9 r8 dr8 pd8 pf8 pk8 X8 X9 h9 h10
 have smG : sm (G : Int) := hsb.mono (by decide)
 have sml : sm li.1 := hli.2.1.mono (by decide)
 have sml2 : sm li.2 := hli.2.2.mono (by decide)
 have smM : sm many := mbd.mono (by decide)
 have smU : sm (li.2 * G) := (hli.2.2.mul hsb).mono (by decide)
 have smO : sm (li.1 * many) := (hli.2.1.mul mbd).mono (by decide)
 have smQ : sm q.1 := R.s1.mono (by decide)
 have smQ1 : sm (q.1 + 1) := (R.s1.add (bd.mono (i := 1) (show bd 1 1 by unfold bd; decide) (by decide))).mono (by decide)
 have smQ2 : sm q.2 := R.s2.mono (by decide)
 wtm_at "pw"
 any_goals assumption
 refine EvI.val ?_ rfl
 wtm_at "pw"
 wtm_at "pw"
 refine itP.list g102 ?_
 refine CompL.pure used V.int (fun u => decide (kd u = 2)) V.int g102 (by simp only [lim]; (clear Gz hsG hlm G0 hGv mpos a hlen hl; omega)) (fun u hm => ⟨_, rfl, rfl, ?_⟩) ?_
 · revert u; refine letI u := _; epsX1 33 u rfl ?_; wtm_at "in"
   have hd1 := hk u (hu0 u hm).1
   wtm_at "pw"
   refine ⟨rfl, rfl, fun _ => ?_⟩
   wtm_at "pw"
   exact ⟨rfl, rfl⟩
 intro c11 h11
 revert c11; refine letI c11 := _; epsX1 34 c11 rfl ?_; wtm_at "in"
 have hall : (used.filter fun u => decide (kd u = 2)).map V.int = [] ↔ ∀ u ∈ used, kd u = 1 := by
   simp only [List.map_eq_nil_iff, List.filter_eq_nil_iff, decide_eq_true_eq]
   constructor
   · intro hh u hm; exact (hkd u (hu0 u hm).1).resolve_right (hh u hm)
   · intro hh u hm e; rw [hh u hm] at e; cases e
 generalize (used.filter fun u => decide (kd u = 2)).map V.int = rl at *
 revert rl; refine letI rl := _; epsX1 35 rl rfl ?_; wtm_at "in"
 have X11 := X10.trans (Hx.new (o := .list rl) h11)
 wtm_at "pw"
 intro c12 h12
 revert c12; refine letI c12 := _; epsX1 36 c12 rfl ?_; wtm_at "in"
 have X12 := X11.trans (Hx.new (o := .list []) h12)
 have r12 := X12 _ _ hr
 have dr12 := X12 _ _ hdr
 have hh := h _ X12
 by_cases hi : ∀ u ∈ used, kd u = 1
 · obtain ⟨i1, i2, i3, i4⟩ := Gint hi
   have hrl := hall.mpr hi
   try rw [i2] at dr12
   try rw [i2] at hh
   try rw [i2]
   clear R
   wtm_at "pw"
   any_goals assumption
   any_goals contradiction
   · rename_i e _; simpa [(i3 e).2] using hh
   · rename_i e e'; exact absurd (i3 e).1 e'
   · rename_i e _; simpa [(i4 e).2] using hh
   · rename_i e e'; exact absurd (i4 e).1 e'
 · obtain ⟨i1, i2⟩ := Greal hi
   have hrl : ¬ rl = [] := fun e => hi (hall.mp e)
   have := R.pos
   try rw [i1] at dr12
   try rw [i1] at hh
   try rw [i1]
   clear R
   wtm_at "pw"
   any_goals assumption
   any_goals contradiction
   · simpa [i2] using hh
   all_goals (rename_i e; simp at e)
end E9
theorem is_due_ok {X : Wd} {w : World} (hX : IsX X w) (pr dr pd pf pk : Addr) (us S used : List Int) (f : Int → Int × Int) (kd : Int → Int) (li : Int × Int) (st : Bool) (k : Int → Int) (q : Int × Int) (st' : Bool) (kes : List (Key × V)) (e1 e2 e3 e4 : Nat) (σ : Hp) {lv : Nat} (Q : V → Hp → Prop) (hr : σ pr = some (.inst 703 dr)) (hdr : σ dr = some (.dict (rowD (.ref pd) (qV q) (.bool st')) e1)) (hpd : σ pd = some (.dict (dE used fun u => .int (k u)) e2)) (hpf : σ pf = some (.dict (dE us fun u => qV (f u)) e3)) (hpk : σ pk = some (.dict kes e4)) (hk : ∀ u ∈ us, dlook kes (.int u) = some (.int (kd u))) (hkd : ∀ u ∈ us, kd u = 1 ∨ kd u = 2) (hus : us.Perm S) (hS : S.Pairwise (· < ·)) (hl : us.length ≤ 3) (hf : ∀ u ∈ us, okQ 200 (f u)) (hli : okQ 200 li) (hu : used = S.filter fun u => (f u).1 != 0) (R : NRow used f kd li st k q st') (h : ∀ σ', Hx σ σ' → Q (.bool true) σ') : CallV X (lv + 1) (.ref 808) [.ref pr, .ref pf, qV li, .bool st, .ref pk] σ Q :=
 (epsW_elim E9.zn (S := E9.ZS) E9.zc ⟨S, X, w, pr, dr, pd, pf, pk, us, f, kd, li, st, k, kes, e1, e2, e3, e4, σ, lv, Q⟩) used q st' hX hr hdr hpd hpf hpk hk hkd hus hS hl hf hli hu R h
local macro_rules | `(tactic| wtm_at "fs") => `(tactic| ((with_reducible refine is_due_ok (by assumption) _ ?_ ?_ _ _ ?_ ?_ ?_ ?_ ?_ _ _ ?_ ?_ ?_ ?_ ?_ ?_ ?_ ?_ _ _ ?hr ?hdr ?hpd ?hpf ?hpk ?hk ?hkd ?hus ?hS ?hl ?hf ?hli ?hu ?R ?hh); (case hr => wtm_at "hp"); (case hdr => wtm_at "hp"); (case hpd => wtm_at "hp"); (case hpf => wtm_at "hp"); (case hpk => wtm_at "hp"); (case R => assumption)))
noncomputable def OkP (S : List Int) (kd : Int → Int) (p : Int → Int × Int) : Prop := ∀ u ∈ S, okQ 700 (p u) ∧ ((p u).2 = 1 ∨ kd u ≠ 1)
theorem not_mem_take {S : List Int} (hn : S.Nodup) {k : Nat} {u : Int} (hu : S[k]? = some u) : u ∉ S.take k := by
 intro hm
 obtain ⟨j, hj, e⟩ := List.mem_iff_getElem.mp hm
 rw [List.getElem_take] at e
 rw [List.length_take] at hj
 obtain ⟨hlt, e2⟩ := List.getElem?_eq_some_iff.mp hu
 have := nodup_inj hn (e.trans e2.symm)
 first | assumption | decide | (clear e2 e; omega)
theorem dE_put {S : List Int} {p : Int → Int × Int} (hn : S.Nodup) {k : Nat} {u : Int} (hu : S[k]? = some u) (o : Int × Int) : dset (dE (S.take k) fun u => qV (p u)) (.int u) (qV o) = dE (S.take (k + 1)) fun x => qV (if x = u then o else p x) := by
 rw [dset_dE (not_mem_take hn hu), List.take_succ, hu]
 exact dE_congr fun x _ => by
   by_cases e : x = u
   · simp [e]
   · simp [e]
theorem OkP.put {S : List Int} {kd : Int → Int} {p : Int → Int × Int} {k : Nat} {u : Int} (hu : S[k]? = some u) {o : Int × Int} (h : OkP (S.take k) kd p) (h1 : okQ 700 o) (h2 : o.2 = 1 ∨ kd u ≠ 1) : OkP (S.take (k + 1)) kd fun x => if x = u then o else p x := by
 intro x hx
 rw [List.take_succ, hu, List.mem_append] at hx
 by_cases e : x = u
 · subst e; simpa using ⟨h1, h2⟩
 · simp only [e, if_false]
   refine h x (hx.resolve_right fun hm => e ?_)
   simpa using hm
theorem bd_small {a : Int} (h : a.natAbs < 8) : bd 3 a := by unfold bd; simpa using h
theorem points_fl {tt bb u0 : Int} {kd : Int → Int} (hB : 0 < bb) (bT : bd 121 tt) : ∀ q ∈ (([-1, 0, 1, 2] : List Int).map fun s => (tt.fdiv bb + s, (1 : Int))), okQ 700 q ∧ (q.2 = 1 ∨ kd u0 ≠ 1) := by
 intro q hq
 obtain ⟨s, hs, rfl⟩ := List.mem_map.mp hq
 refine ⟨⟨Int.one_pos, ?_, bd.mono (i := 1) (show bd 1 1 by unfold bd; decide) (by decide)⟩, .inl rfl⟩
 have e1 : bd 122 (tt.fdiv bb) := by
   rw [Int.fdiv_eq_ediv_of_nonneg _ (by first | assumption | decide | omega)]
   have h3 := Int.natAbs_ediv_le_natAbs tt bb
   exact bd.of_le (bT.mono (by decide)) h3
 have e2 : bd 122 s := by
   simp only [List.mem_cons, List.not_mem_nil, or_false] at hs
   rcases hs with rfl | rfl | rfl | rfl <;> exact bd.mono (i := 3) (by unfold bd; decide) (by decide)
 exact (e1.add e2).mono (by decide)
namespace E10
structure ZT where
 S : List Int
 X : Wd
 w : World
 t : Addr
 c : Addr
 pf : Addr
 pk : Addr
 cells : List Int
 n : Nat
 ep : Nat
 us : List Int
 f : Int → Int × Int
 kd : Int → Int
 li : Int × Int
 kes : List (Key × V)
 e1 : Nat
 e2 : Nat
 σ : Hp
 lv : Nat
 Q : V → Hp → Prop
noncomputable def ZS : ZT → Prop := fun ⟨S, X, w, t, c, pf, pk, cells, n, ep, us, f, kd, li, kes, e1, e2, σ, lv, Q⟩ => ∀ (hX : IsX X w) (T : Tape σ t c cells n ep) (hpf : σ pf = some (.dict (dE us fun u => qV (f u)) e1)) (hpk : σ pk = some (.dict kes e2)) (htf : pf ≠ t) (htk : pk ≠ t) (hk : ∀ u ∈ us, dlook kes (.int u) = some (.int (kd u))) (hkd : ∀ u ∈ us, kd u = 1 ∨ kd u = 2) (hus : us.Perm S) (hS : S.Pairwise (· < ·)) (hl : us.length ≤ 3) (hf : ∀ u ∈ us, okQ 20 (f u)) (hli : okQ 20 li) (hn : n < 2 ^ 50) (h : ∀ (a : Addr) (rs : List Addr) (σ' : Hp) (n' : Nat), Tape σ' t c cells n' ep → n' ≤ n + 10 → Hb t σ σ' → σ' a = some (.list (rs.map V.ref)) → rs.length ≤ 5 → (∀ r ∈ rs, Is2 fun p e => σ' r = some (.dict (dE S fun u => qV (p u)) e) ∧ OkP S kd p) → Q (.ref a) σ'), CallV X (lv + 3) (.ref 813) [.ref t, .ref pf, qV li, .ref pk] σ Q
theorem zn : Nonempty ZT := ⟨⟨[], aWd, (PySem.W.aWorld 1), 0, 0, 0, 0, [], 0, 0, [], (fun _ => (0, 0)), (fun _ => 0), (0, 0), [], 0, 0, (fun _ => none), 0, (fun _ _ => True)⟩⟩
noncomputable def ze : ZT := epsW zn ZS
noncomputable def S : List Int := ze.S
noncomputable def X : Wd := ze.X
noncomputable def w : World := ze.w
noncomputable def t : Addr := ze.t
noncomputable def c : Addr := ze.c
noncomputable def pf : Addr := ze.pf
noncomputable def pk : Addr := ze.pk
noncomputable def cells : List Int := ze.cells
noncomputable def n : Nat := ze.n
noncomputable def ep : Nat := ze.ep
noncomputable def us : List Int := ze.us
noncomputable def f : Int → Int × Int := ze.f
noncomputable def kd : Int → Int := ze.kd
noncomputable def li : Int × Int := ze.li
noncomputable def kes : List (Key × V) := ze.kes
noncomputable def e1 : Nat := ze.e1
noncomputable def e2 : Nat := ze.e2
noncomputable def σ : Hp := ze.σ
noncomputable def lv : Nat := ze.lv
noncomputable def Q : V → Hp → Prop := ze.Q
theorem zc : ∀ (hX : IsX X w) (T : Tape σ t c cells n ep) (hpf : σ pf = some (.dict (dE us fun u => qV (f u)) e1)) (hpk : σ pk = some (.dict kes e2)) (htf : pf ≠ t) (htk : pk ≠ t) (hk : ∀ u ∈ us, dlook kes (.int u) = some (.int (kd u))) (hkd : ∀ u ∈ us, kd u = 1 ∨ kd u = 2) (hus : us.Perm S) (hS : S.Pairwise (· < ·)) (hl : us.length ≤ 3) (hf : ∀ u ∈ us, okQ 20 (f u)) (hli : okQ 20 li) (hn : n < 2 ^ 50) (h : ∀ (a : Addr) (rs : List Addr) (σ' : Hp) (n' : Nat), Tape σ' t c cells n' ep → n' ≤ n + 10 → Hb t σ σ' → σ' a = some (.list (rs.map V.ref)) → rs.length ≤ 5 → (∀ r ∈ rs, Is2 fun p e => σ' r = some (.dict (dE S fun u => qV (p u)) e) ∧ OkP S kd p) → Q (.ref a) σ'), CallV X (lv + 3) (.ref 813) [.ref t, .ref pf, qV li, .ref pk] σ Q := by
 intro hX T hpf hpk htf htk hk hkd hus hS hl hf hli hn h
 have hSn : S.Nodup := hS.imp fun h => by first | assumption | decide | (clear hn hl; omega)
 wtm_at "fn"
 wtm_at "pw"
 refine EvI.val ?_ rfl
 wtm_at "pw"
 refine CallV.sortedD (ns := us) hpf (dE_keys _ _) (by first | assumption | decide | (clear hn; omega)) fun c1 ns h1 hperm hsort => ?_
 obtain rfl := sorted_is hperm hus hsort hS
 revert c1; refine letI c1 := _; epsX1 1 c1 rfl ?_; wtm_at "in"
 have hlen := hperm.length_eq
 wtm_at "pw"
 refine itP.list (upd_same _ _ _) ?_
 refine CompL.pure S V.int (fun u => (f u).1 != 0) V.int (upd_same _ _ _) (by simp only [lim]; (clear hn; omega)) (fun u hu => ⟨_, rfl, rfl, ?_⟩) ?_
 · revert u; refine letI u := _; epsX1 2 u rfl ?_; wtm_at "in"
   have hu' : u ∈ us := hperm.subset hu
   have hd1 : dlook (dE us fun u => qV (f u)) (.int u) = some (qV (f u)) := dE_look hu'
   wtm_at "pw"
   refine ⟨rfl, ?_, fun _ => ?_⟩
   · rw [Bool.eq_iff_iff]; simp
   wtm_at "pw"
   exact ⟨rfl, rfl⟩
 intro c2 h2
 revert c2; refine letI c2 := _; epsX1 3 c2 rfl ?_; wtm_at "in"
 have hu0 : ∀ u ∈ S.filter fun u => (f u).1 != 0, u ∈ us ∧ (f u).1 ≠ 0 := fun u hm => by
   rw [List.mem_filter] at hm
   exact ⟨hperm.subset hm.1, by simpa using hm.2⟩
 generalize (S.filter fun u => (f u).1 != 0) = used at *
 revert used; refine letI used := _; epsX1 4 used rfl ?_; wtm_at "in"
 have X1 := Hx.new (o := .list (S.map V.int)) h1
 have X2 := X1.trans (Hx.new (o := .list (used.map V.int)) h2)
 wtm_at "pw"
 refine Ev.dict0 fun c3 ep3 h3 => ?_
 revert c3 ep3; refine letI c3 := _; letI ep3 := _; epsX2 5 c3 ep3 rfl ?_; wtm_at "in"
 have X3 := X2.trans (Hx.new (o := .dict [] ep3) h3)
 have g2 := upd_old (o := .dict [] ep3) h3 (upd_same (upd σ c1 (.list (S.map V.int))) c2 (.list (used.map V.int)))
 have g3 : (upd (upd (upd σ c1 (.list (S.map V.int))) c2 (.list (used.map V.int))) c3 (.dict [] ep3)) c3 = some (.dict (dE (S.take 0) fun u => qV (f u)) ep3) := upd_same _ _ _
 have hc3t : c3 ≠ t := Ne.symm (ne_new h3 (X2 _ _ T.d))
 have hc3c : c ≠ c3 := ne_new h3 (X2 _ _ T.l)
 have n3f : pf ≠ c3 := ne_new h3 (X2 _ _ hpf)
 have n3k : pk ≠ c3 := ne_new h3 (X2 _ _ hpk)
 have n23 : c2 ≠ c3 := ne_new h3 (upd_same _ _ _)
 have n2t : c2 ≠ t := ne_kind g2 (X3 _ _ T.d) (by simp)
 generalize (upd (upd (upd σ c1 (.list (S.map V.int))) c2 (.list (used.map V.int))) c3 (.dict [] ep3)) = σ3 at *
 revert σ3; refine letI σ3 := _; epsX1 6 σ3 rfl ?_; wtm_at "in"
 have T3 : Tape σ3 t c cells n ep := ⟨X3 _ _ T.d, X3 _ _ T.l⟩
 wtm_at "pw"
 refine Ex.for_ (EvI.val ?_ rfl)
 wtm_at "pw"
 refine CallV.sortedD (ns := us) (X3 _ _ hpf) (dE_keys _ _) (by first | assumption | decide | (clear hn; omega)) fun c4 ns h4 hperm' hsort' => ?_
 obtain rfl := sorted_is hperm' hus hsort' hS
 revert c4; refine letI c4 := _; epsX1 7 c4 rfl ?_; wtm_at "in"
 have X4 := Hx.new (o := .list (S.map V.int)) h4
 have g4 := upd_same σ3 c4 (.list (S.map V.int))
 have g42 := X4 _ _ g2
 have g43 := X4 _ _ g3
 have T4 : Tape (upd σ3 c4 (.list (S.map V.int))) t c cells n ep := ⟨X4 _ _ T3.d, X4 _ _ T3.l⟩
 have n4t : c4 ≠ t := Ne.symm (ne_new h4 T3.d)
 have n43 : c4 ≠ c3 := Ne.symm (ne_new h4 g3)
 have X4' := X3.trans X4
 generalize (upd σ3 c4 (.list (S.map V.int))) = σ4 at *
 revert σ4; refine letI σ4 := _; epsX1 8 σ4 rfl ?_; wtm_at "in"
 have hP0 : OkP (S.take 0) kd f := fun _ hm => by simp at hm
 wtm_at "pw"
 refine itP.list g4 ⟨fun k l σ' => Is5 fun p n' e3 tp bt => Al9 (Tape σ' t c cells n' ep) (n' ≤ n + 2 * k) ((∀ a o, a ≠ t → a ≠ c3 → σ4 a = some o → σ' a = some o)) (σ' c3 = some (.dict (dE (S.take k) fun u => qV (p u)) e3)) (OkP (S.take k) kd p) (0 < bt) (bd (22 + 26 * k) tp) (bd (22 + 26 * k) bt) (Has l [(Str.ofString "tape", .ref t), (Str.ofString "factors", .ref pf), (Str.ofString "limit", qV li), (Str.ofString "kinds", .ref pk), (Str.ofString "used", .ref c2), (Str.ofString "point", .ref c3), (Str.ofString "top", .int tp), (Str.ofString "bottom", .int bt)]),
   ⟨f, n, ep3, li.1, li.2, T4, by first | assumption | decide | (clear hlen hn hl; omega), fun a o _ _ e => e, g43, hP0, hli.1, hli.2.1.mono (by decide), hli.2.2.mono (by decide), by wtm_at "has"⟩, ?_, ?_⟩
 · rintro k l σ5 x ⟨p, n5, e3, tp, bt, T5, hn5, K5, g53, hP, hb0, htb, hbb, hl5⟩ hx
   revert x; revert k l σ5 p n5 e3 tp bt; refine letI k := _; letI l := _; letI σ5 := _; letI p := _; letI n5 := _; letI e3 := _; letI tp := _; letI bt := _; epsX8 9 k l σ5 p n5 e3 tp bt rfl ?_; wtm_at "in"
   refine ⟨K5 _ _ n4t n43 g4, ?_⟩
   obtain ⟨u, rfl, hu⟩ := map_get hx
   revert u; refine letI u := _; epsX1 10 u rfl ?_; wtm_at "in"
   have hct : c ≠ t := ne_kind T.l T.d (by simp)
   have T5l := T5.l
   have T5d := T5.d
   have hk3 : k < 3 := by have := (List.getElem?_eq_some_iff.mp hu).1; (clear hb0 hn5 hn; omega)
   have hum : u ∈ us := hperm.subset (List.mem_of_getElem? hu)
   obtain ⟨f0, f1, f2⟩ := hf u hum
   have d1 : dlook (dE us fun u => qV (f u)) (.int u) = some (qV (f u)) := dE_look hum
   have d2 := hk u hum
   have pf5 := K5 _ _ htf n3f (X4' _ _ hpf)
   have pk5 := K5 _ _ htk n3k (X4' _ _ hpk)
   have g52 := K5 _ _ n2t n23 g42
   have hz5 : (dE (S.take k) fun u => qV (p u)).length < lim := by
     rw [dE_len, List.length_take]; simp only [lim]; (clear f0 hb0 hn5 hn; omega)
   have key := fun o => dE_put (p := p) hSn hu o
   have keyP := fun {o} => OkP.put (kd := kd) (p := p) hu (o := o) hP
   have sp : bd 700 (1 : Int) := bd.mono (i := 1) (by unfold bd; decide) (by decide)
   refine As.has hl5 ?_
   · wtm_at "pw"
     intro v v0 v7
     revert v; refine letI v := _; epsX1 11 v rfl ?_; wtm_at "in"
     have vb : bd 3 (v - 3) := bd_small (by first | assumption | decide | (clear hz5 f0 hk3 hb0 hn5 hlen hn hl; omega))
     wtm_at "pw"
     · intro o o0 o3
       revert o; refine letI o := _; epsX1 12 o rfl ?_; wtm_at "in"
       have hR : kd u ≠ 1 := by rename_i e; (clear o3 o0 v7 v0 hz5 f0 hk3 hb0 hn5 hlen hn hl; omega)
       have ob : bd 3 (1 + o) := bd_small (by first | assumption | decide | (clear hR v7 v0 hz5 f0 hk3 hb0 hn5 hlen hn hl; omega))
       have vm := vb.mono (show 3 ≤ 700 by decide)
       have om := ob.mono (show 3 ≤ 700 by decide)
       have op : 0 < (1 + o) := by first | assumption | decide | (clear hR v7 v0 hz5 f0 hk3 hb0 hn5 hlen hn hl; omega)
       have b1 : bd (22 + 26 * k + 20) (tp * (f u).2) := htb.mul f2
       have b2 : bd (22 + 26 * k + 20) (bt * (f u).2) := hbb.mul f2
       have b3 : bd 23 ((f u).1 * (v - 3)) := f1.mul vb
       have s1 : sm tp := htb.mono (by first | assumption | decide | (clear op hR o3 o0 v7 v0 hz5 f0 hb0 hn5 hlen hn hl; omega))
       have s2 : sm bt := hbb.mono (by first | assumption | decide | (clear op hR o3 o0 v7 v0 hz5 f0 hb0 hn5 hlen hn hl; omega))
       have s3 : sm (f u).1 := f1.mono (by first | assumption | decide | omega)
       have s4 : sm (f u).2 := f2.mono (by first | assumption | decide | omega)
       have s5 : sm (v - 3) := vb.mono (by first | assumption | decide | omega)
       have s6 : sm (1 + o) := ob.mono (by first | assumption | decide | omega)
       have s7 : sm (tp * (f u).2) := b1.mono (by first | assumption | decide | (clear op hR o3 o0 v7 v0 hz5 f0 hb0 hn5 hlen hn hl; omega))
       have s8 : sm (bt * (f u).2) := b2.mono (by first | assumption | decide | (clear op hR o3 o0 v7 v0 hz5 f0 hb0 hn5 hlen hn hl; omega))
       have s9 : sm ((f u).1 * (v - 3)) := b3.mono (by first | assumption | decide | omega)
       have bp : 0 < bt * (f u).2 * (1 + o) := Int.mul_pos (Int.mul_pos hb0 f0) op
       have be : bd (22 + 26 * (k + 1)) (bt * (f u).2 * (1 + o)) := (b2.mul ob).mono (by first | assumption | decide | (clear bp op hR o3 o0 v7 v0 hz5 f0 hk3 hb0 hn5 hlen hn hl; omega))
       have te : bd (22 + 26 * (k + 1)) (tp * (f u).2 * (1 + o) - (f u).1 * (v - 3) * bt) := (((b1.mul ob).mono (j := 22 + 26 * k + 25) (by first | assumption | decide | (clear bp op hR o3 o0 v7 v0 hz5 f0 hk3 hb0 hn5 hlen hn hl; omega))).sub ((b3.mul hbb).mono (j := 22 + 26 * k + 25) (by first | assumption | decide | (clear bp op hR o3 o0 v7 v0 hz5 f0 hk3 hb0 hn5 hlen hn hl; omega)))).mono (by first | assumption | decide | (clear bp op hR o3 o0 v7 v0 hz5 f0 hk3 hb0 hn5 hlen hn hl; omega))
       have kq := keyP (o := (v - 3, 1 + o)) ⟨op, vm, om⟩ (Or.inr hR)
       have kk := key (v - 3, 1 + o)
       wtm_at "pw"
       intro c5 h5
       revert c5; refine letI c5 := _; epsX1 13 c5 rfl ?_; wtm_at "in"
       rw [show (used.map V.int).drop (1 : Int).toNat = (used.drop 1).map V.int by rw [List.map_drop]; rfl]
       wtm_at "pw"
       any_goals assumption
       · show Is5 _
         refine ⟨_, n5 + 1 + 1, if (dlook (dE (S.take k) fun u => qV (p u)) (Key.int u)).isSome then e3 else e3 + 1, tp * (f u).2 * (1 + o) - (f u).1 * (v - 3) * bt, bt * (f u).2 * (1 + o), ⟨?_, ?_⟩, by first | assumption | decide | (clear bp op hR o3 o0 v7 v0 hz5 f0 hk3 hb0 hlen hn hl; omega), ?_, ?_, kq, bp, te, be, by wtm_at "has"⟩
         · wtm_at "hp"
         · wtm_at "hp"
         · intro a o' ha hb e
           have e5 := K5 a o' ha hb e
           wtm_at "hp"
         · rw [← kk]; wtm_at "hp"
       · show Is5 _
         refine ⟨_, n5 + 1 + 1, if (dlook (dE (S.take k) fun u => qV (p u)) (Key.int u)).isSome then e3 else e3 + 1, tp, bt, ⟨?_, ?_⟩, by first | assumption | decide | (clear bp op hR o3 o0 v7 v0 hz5 f0 hk3 hb0 hlen hn hl; omega), ?_, ?_, kq, hb0, htb.mono (by first | assumption | decide | (clear bp op hR o3 o0 v7 v0 hz5 f0 hk3 hb0 hn5 hlen hn hl; omega)), hbb.mono (by first | assumption | decide | (clear bp op hR o3 o0 v7 v0 hz5 f0 hk3 hb0 hn5 hlen hn hl; omega)), by wtm_at "has"⟩
         · wtm_at "hp"
         · wtm_at "hp"
         · intro a o' ha hb e
           have e5 := K5 a o' ha hb e
           wtm_at "hp"
         · rw [← kk]; wtm_at "hp"
     · have hR : kd u = 1 := by rename_i e; have := hkd u hum; (clear v7 v0 hz5 f0 hk3 hb0 hn5 hlen hn hl; omega)
       have ob : bd 3 ((1 : Int)) := bd_small (by first | assumption | decide | omega)
       have vm := vb.mono (show 3 ≤ 700 by decide)
       have om := ob.mono (show 3 ≤ 700 by decide)
       have op : 0 < ((1 : Int)) := by first | assumption | decide | omega
       have b1 : bd (22 + 26 * k + 20) (tp * (f u).2) := htb.mul f2
       have b2 : bd (22 + 26 * k + 20) (bt * (f u).2) := hbb.mul f2
       have b3 : bd 23 ((f u).1 * (v - 3)) := f1.mul vb
       have s1 : sm tp := htb.mono (by first | assumption | decide | (clear op hR v7 v0 hz5 f0 hb0 hn5 hlen hn hl; omega))
       have s2 : sm bt := hbb.mono (by first | assumption | decide | (clear op hR v7 v0 hz5 f0 hb0 hn5 hlen hn hl; omega))
       have s3 : sm (f u).1 := f1.mono (by first | assumption | decide | omega)
       have s4 : sm (f u).2 := f2.mono (by first | assumption | decide | omega)
       have s5 : sm (v - 3) := vb.mono (by first | assumption | decide | omega)
       have s6 : sm ((1 : Int)) := ob.mono (by first | assumption | decide | omega)
       have s7 : sm (tp * (f u).2) := b1.mono (by first | assumption | decide | (clear op hR v7 v0 hz5 f0 hb0 hn5 hlen hn hl; omega))
       have s8 : sm (bt * (f u).2) := b2.mono (by first | assumption | decide | (clear op hR v7 v0 hz5 f0 hb0 hn5 hlen hn hl; omega))
       have s9 : sm ((f u).1 * (v - 3)) := b3.mono (by first | assumption | decide | omega)
       have bp : 0 < bt * (f u).2 * ((1 : Int)) := Int.mul_pos (Int.mul_pos hb0 f0) op
       have be : bd (22 + 26 * (k + 1)) (bt * (f u).2 * ((1 : Int))) := (b2.mul ob).mono (by first | assumption | decide | (clear bp op hR v7 v0 hz5 f0 hk3 hb0 hn5 hlen hn hl; omega))
       have te : bd (22 + 26 * (k + 1)) (tp * (f u).2 * ((1 : Int)) - (f u).1 * (v - 3) * bt) := (((b1.mul ob).mono (j := 22 + 26 * k + 25) (by first | assumption | decide | (clear bp op hR v7 v0 hz5 f0 hk3 hb0 hn5 hlen hn hl; omega))).sub ((b3.mul hbb).mono (j := 22 + 26 * k + 25) (by first | assumption | decide | (clear bp op hR v7 v0 hz5 f0 hk3 hb0 hn5 hlen hn hl; omega)))).mono (by first | assumption | decide | (clear bp op hR v7 v0 hz5 f0 hk3 hb0 hn5 hlen hn hl; omega))
       have kq := keyP (o := (v - 3, (1 : Int))) ⟨op, vm, om⟩ (Or.inl rfl)
       have kk := key (v - 3, (1 : Int))
       wtm_at "pw"
       intro c5 h5
       revert c5; refine letI c5 := _; epsX1 14 c5 rfl ?_; wtm_at "in"
       rw [show (used.map V.int).drop (1 : Int).toNat = (used.drop 1).map V.int by rw [List.map_drop]; rfl]
       wtm_at "pw"
       any_goals assumption
       · show Is5 _
         refine ⟨_, n5 + 1, if (dlook (dE (S.take k) fun u => qV (p u)) (Key.int u)).isSome then e3 else e3 + 1, tp * (f u).2 * ((1 : Int)) - (f u).1 * (v - 3) * bt, bt * (f u).2 * ((1 : Int)), ⟨?_, ?_⟩, by first | assumption | decide | (clear bp op hR v7 v0 hz5 f0 hk3 hb0 hlen hn hl; omega), ?_, ?_, kq, bp, te, be, by wtm_at "has"⟩
         · wtm_at "hp"
         · wtm_at "hp"
         · intro a o' ha hb e
           have e5 := K5 a o' ha hb e
           wtm_at "hp"
         · rw [← kk]; wtm_at "hp"
       · show Is5 _
         refine ⟨_, n5 + 1, if (dlook (dE (S.take k) fun u => qV (p u)) (Key.int u)).isSome then e3 else e3 + 1, tp, bt, ⟨?_, ?_⟩, by first | assumption | decide | (clear bp op hR v7 v0 hz5 f0 hk3 hb0 hlen hn hl; omega), ?_, ?_, kq, hb0, htb.mono (by first | assumption | decide | (clear bp op hR v7 v0 hz5 f0 hk3 hb0 hn5 hlen hn hl; omega)), hbb.mono (by first | assumption | decide | (clear bp op hR v7 v0 hz5 f0 hk3 hb0 hn5 hlen hn hl; omega)), by wtm_at "has"⟩
         · wtm_at "hp"
         · wtm_at "hp"
         · intro a o' ha hb e
           have e5 := K5 a o' ha hb e
           wtm_at "hp"
         · rw [← kk]; wtm_at "hp"
 rintro l σ5 ⟨p, n5, e3, tp, bt, T5, hn5, K5, g53, hP, hb0, htb, hbb, hl5⟩
 revert l σ5 p n5 e3 tp bt; refine letI l := _; letI σ5 := _; letI p := _; letI n5 := _; letI e3 := _; letI tp := _; letI bt := _; epsX7 15 l σ5 p n5 e3 tp bt rfl ?_; wtm_at "in"
 refine ⟨K5 _ _ n4t n43 g4, ?_⟩
 rw [List.length_map] at hn5 htb hbb g53 hP
 rw [List.take_length] at g53 hP
 have hn5' : n5 ≤ n + 6 := by first | assumption | decide | (clear hb0 hn; omega)
 have btp : bd 100 tp := htb.mono (by first | assumption | decide | (clear hn5' hb0 hn5 hn; omega))
 have bbt : bd 100 bt := hbb.mono (by first | assumption | decide | (clear hn5' hb0 hn5 hn; omega))
 clear htb hbb
 have g52 := K5 _ _ n2t n23 g42
 have pf5 := K5 _ _ htf n3f (X4' _ _ hpf)
 have pk5 := K5 _ _ htk n3k (X4' _ _ hpk)
 have KO : ∀ a o, a ≠ t → σ a = some o → σ5 a = some o := fun a o ha e => K5 a o ha (ne_new h3 (X2 _ _ e)) (X4' _ _ e)
 have hct : c ≠ t := ne_kind T.l T.d (by simp)
 refine Ex.has hl5 ?_
 clear hl5
 wtm_at "pw"
 intro c5 h5
 revert c5; refine letI c5 := _; epsX1 16 c5 rfl ?_; wtm_at "in"
 wtm_at "pw"
 · intro c6 h6
   revert c6; refine letI c6 := _; epsX1 17 c6 rfl ?_; wtm_at "in"
   wtm_at "pw"
   refine h c6 [c3] _ n5 ⟨upd_old h6 (upd_old h5 T5.d), upd_old h6 (upd_old h5 T5.l)⟩ (by first | assumption | decide | (clear hb0 hn5 hlen hn hl; omega)) (fun a o ha e => upd_old h6 (upd_old h5 (KO a o ha e))) (upd_same _ _ _) (by simp) fun r hr => ?_
   rw [List.mem_singleton] at hr
   subst hr
   exact ⟨p, e3, upd_old h6 (upd_old h5 g53), hP⟩
 rename_i hne
 obtain ⟨u0, ur, hue⟩ := List.exists_cons_of_ne_nil (l := used) (fun e => hne (by rw [e]; rfl))
 revert u0 ur; refine letI u0 := _; letI ur := _; epsX2 18 u0 ur rfl ?_; wtm_at "in"
 rw [hue] at g52
 try rw [hue]
 obtain ⟨hu0m, hu00⟩ := hu0 u0 (by rw [hue]; exact List.mem_cons_self)
 obtain ⟨f0, f1, f2⟩ := hf u0 hu0m
 have d1 : dlook (dE us fun u => qV (f u)) (.int u0) = some (qV (f u0)) := dE_look hu0m
 have d2 := hk u0 hu0m
 have T6 : Tape (upd σ5 c5 (.list [])) t c cells n5 ep := ⟨upd_old h5 T5.d, upd_old h5 T5.l⟩
 have g62 := upd_old (o := .list []) h5 g52
 have g63 := upd_old (o := .list []) h5 g53
 have pf6 := upd_old (o := .list []) h5 pf5
 have pk6 := upd_old (o := .list []) h5 pk5
 have KO6 : ∀ a o, a ≠ t → σ a = some o → (upd σ5 c5 (.list [])) a = some o := fun a o ha e => upd_old h5 (KO a o ha e)
 generalize (upd σ5 c5 (.list [])) = σ6 at *
 revert σ6; refine letI σ6 := _; epsX1 19 σ6 rfl ?_; wtm_at "in"
 have s1 : sm tp := btp.mono (by decide)
 have s2 : sm bt := bbt.mono (by decide)
 have s3 : sm (f u0).1 := f1.mono (by decide)
 have s4 : sm (f u0).2 := f2.mono (by decide)
 have b1 : bd 120 (tp * (f u0).2) := btp.mul f2
 have b2 : bd 120 (bt * (f u0).1) := bbt.mul f1
 have b20 : bt * (f u0).1 ≠ 0 := Int.mul_ne_zero (by first | assumption | decide | (clear f0 hu00 hne hn5' hn5 hlen hn hl; omega)) hu00
 have key : ∀ tt bb : Int, 0 < bb → bd 121 tt → bd 121 bb → ∀ R' : Fi → Prop, (∀ v σ', Q v σ' → R' (.ret v σ')) → Ex X hd.fx33x0.1.2.2 (lv + 2) (ofL [(Str.ofString "tape", .ref t), (Str.ofString "factors", .ref pf), (Str.ofString "limit", qV li), (Str.ofString "kinds", .ref pk), (Str.ofString "used", .ref c2), (Str.ofString "point", .ref c3), (Str.ofString "top", .int tt), (Str.ofString "bottom", .int bb)]) σ6 (List.drop 6 hd.fx33x0.1.2.1) R' := by
   intro tt bb hB bT bB R' hR
   revert R'; revert tt bb; refine letI tt := _; letI bb := _; epsX2 20 tt bb rfl ?_; wtm_at "in"
   revert R'; refine letI R' := _; epsX1 21 R' rfl ?_; wtm_at "in"
   wtm_at "fx"
   dsimp only [List.drop]
   wtm_at "xv"
   have sT : sm tt := bT.mono (by decide)
   have sB : sm bb := bB.mono (by decide)
   have nB : bb ≠ 0 := by first | assumption | decide | (clear b20 f0 hu00 hne hn5' hb0 hn5 hlen hn hl; omega)
   refine EvI.val ?_ rfl
   wtm_at "pw"
   wtm_at "pw"
   refine itP.tup ?_
   refine CompL.pure ([-1, 0, 1, 2] : List Int) V.int (fun _ => true) (fun s => qV (tt.fdiv bb + s, 1)) trivial (by decide) (fun s hs => ⟨_, rfl, rfl, ?_⟩) ?_
   · revert s; refine letI s := _; epsX1 22 s rfl ?_; wtm_at "in"
     wtm_at "pw"
     refine ⟨rfl, rfl, fun _ => ?_⟩
     wtm_at "pw"
     · exact nB
     · exact sB
     · exact ⟨rfl, rfl⟩
   intro c7 h7
   revert c7; refine letI c7 := _; epsX1 23 c7 rfl ?_; wtm_at "in"
   rw [List.filter_eq_self.mpr fun _ _ => rfl, show (([-1, 0, 1, 2] : List Int).map fun s => qV (tt.fdiv bb + s, 1)) = (([-1, 0, 1, 2] : List Int).map fun s => (tt.fdiv bb + s, (1 : Int))).map qV by rw [List.map_map]; rfl]
   have hfl := points_fl (kd := kd) (u0 := u0) hB bT
   have hfll : (([-1, 0, 1, 2] : List Int).map fun s => (tt.fdiv bb + s, (1 : Int))).length = 4 := rfl
   generalize (([-1, 0, 1, 2] : List Int).map fun s => (tt.fdiv bb + s, (1 : Int))) = fl at *
   revert fl; refine letI fl := _; epsX1 24 fl rfl ?_; wtm_at "in"
   have T7 : Tape (upd σ6 c7 (.list (fl.map qV))) t c cells n5 ep := ⟨upd_old h7 T6.d, upd_old h7 T6.l⟩
   have g72 := upd_old (o := .list (fl.map qV)) h7 g62
   have g73 := upd_old (o := .list (fl.map qV)) h7 g63
   have pk7 := upd_old (o := .list (fl.map qV)) h7 pk6
   have KO7 : ∀ a o, a ≠ t → σ a = some o → a ≠ c7 ∧ (upd σ6 c7 (.list (fl.map qV))) a = some o := fun a o ha e => ⟨ne_new h7 (KO6 a o ha e), upd_old h7 (KO6 a o ha e)⟩
   have g77 := upd_same σ6 c7 (.list (fl.map qV))
   have n7t : t ≠ c7 := ne_new h7 T6.d
   have n7c : c ≠ c7 := ne_new h7 T6.l
   have n72 : c2 ≠ c7 := ne_new h7 g62
   have n73 : c3 ≠ c7 := ne_new h7 g63
   generalize (upd σ6 c7 (.list (fl.map qV))) = σ7 at *
   revert σ7; refine letI σ7 := _; epsX1 25 σ7 rfl ?_; wtm_at "in"
   have hfz : (fl.map qV).length < lim := by rw [List.length_map, hfll]; decide
   have key2 : ∀ (gl : List (Int × Int)) (σ8 : Hp), (∀ q ∈ gl, okQ 700 q ∧ (q.2 = 1 ∨ kd u0 ≠ 1)) → gl.length ≤ 5 → Tape σ8 t c cells n5 ep → σ8 c2 = some (.list ((u0 :: ur).map V.int)) → σ8 c3 = some (.dict (dE S fun u => qV (p u)) e3) → σ8 c7 = some (.list (gl.map qV)) → (∀ a o, a ≠ t → σ a = some o → σ8 a = some o) →
       wS ⟨X, gtab, hd.fx33x0.1.2.2, lv + 2⟩ 59 [(Str.ofString "tape", .ref t), (Str.ofString "factors", .ref pf), (Str.ofString "limit", qV li), (Str.ofString "kinds", .ref pk), (Str.ofString "used", .ref c2), (Str.ofString "point", .ref c3), (Str.ofString "top", .int tt), (Str.ofString "bottom", .int bb), (Str.ofString "found", .ref c7)] σ8 (List.drop 8 hd.fx33x0.1.2.1) (fun L σ => outP (R' (.next (ofL L) σ))) (fun f => outP (R' f)) := by
     intro gl σ8 hgl hgz T8 g82 g83 g87 KO8
     revert gl σ8; refine letI gl := _; letI σ8 := _; epsX2 26 gl σ8 rfl ?_; wtm_at "in"
     wtm_at "fx"
     dsimp only [List.drop]
     wtm_at "pw"
     intro c8 h8
     revert c8; refine letI c8 := _; epsX1 27 c8 rfl ?_; wtm_at "in"
     have T9 : Tape (upd σ8 c8 (.list [])) t c cells n5 ep := ⟨upd_old h8 T8.d, upd_old h8 T8.l⟩
     have g92 := upd_old (o := .list []) h8 g82
     have g93 := upd_old (o := .list []) h8 g83
     have g97 := upd_old (o := .list []) h8 g87
     have KO9 : ∀ a o, a ≠ t → σ a = some o → a ≠ c8 ∧ (upd σ8 c8 (.list [])) a = some o := fun a o ha e => ⟨ne_new h8 (KO8 a o ha e), upd_old h8 (KO8 a o ha e)⟩
     have g98 : (upd σ8 c8 (.list [])) c8 = some (.list (([] : List Addr).map V.ref)) := upd_same _ _ _
     have n8t : t ≠ c8 := ne_new h8 T8.d
     have n8c : c ≠ c8 := ne_new h8 T8.l
     have n82 : c2 ≠ c8 := ne_new h8 g82
     have n83 : c3 ≠ c8 := ne_new h8 g83
     have n87 : c7 ≠ c8 := ne_new h8 g87
     generalize (upd σ8 c8 (.list [])) = σ9 at *
     revert σ9; refine letI σ9 := _; epsX1 28 σ9 rfl ?_; wtm_at "in"
     clear h8 T8 g82 g83 g87 KO8
     wtm_at "pw"
     refine Ex.for_ (EvI.val ?_ rfl)
     wtm_at "pw"
     have hr0 : ∀ r ∈ ([] : List Addr), Is2 fun p e => σ9 r = some (.dict (dE S fun u => qV (p u)) e) ∧ OkP S kd p := fun _ hm => by simp at hm
     wtm_at "pw"
     refine itP.list g97 ⟨fun k l σ' => ∃ rs : List Addr, Al5 (rs.length = k) ((∀ a o, a ≠ c8 → σ9 a = some o → σ' a = some o)) (σ' c8 = some (.list (rs.map V.ref))) ((∀ r ∈ rs, Is2 fun p e => σ' r = some (.dict (dE S fun u => qV (p u)) e) ∧ OkP S kd p)) (Has l [(Str.ofString "used", .ref c2), (Str.ofString "point", .ref c3), (Str.ofString "found", .ref c7), (Str.ofString "some", .ref c8)]),
       ⟨[], rfl, fun _ _ _ e => e, g98, hr0, by wtm_at "has"⟩, ?_, ?_⟩
     · rintro k l σ' x ⟨rs, rfl, K, gs, hr, hL⟩ hx
       revert x; revert l σ' rs; refine letI l := _; letI σ' := _; letI rs := _; epsX3 29 l σ' rs rfl ?_; wtm_at "in"
       refine ⟨K _ _ n87 g97, ?_⟩
       obtain ⟨q, rfl, hq⟩ := map_get hx
       revert q; refine letI q := _; epsX1 30 q rfl ?_; wtm_at "in"
       have hlt : rs.length < 5 := by have := (List.getElem?_eq_some_iff.mp hq).1; (clear hfz hfll nB hB b20 f0 hu00 hne hn5' hb0 hn5 hlen hn hl; omega)
       have hqm := hgl q (List.mem_of_getElem? hq)
       have k2 := K _ _ n82 g92
       have k3 := K _ _ n83 g93
       have hz : (dE S fun u => qV (p u)).length < lim := by rw [dE_len]; simp only [lim]; (clear hqm hlt hgz hfz hfll nB hB b20 f0 hu00 hne hn5' hb0 hn5 hn; omega)
       have hz2 : (rs.map V.ref).length < lim := by rw [List.length_map]; simp only [lim]; (clear hz hqm hgz hfz hfll nB hB b20 f0 hu00 hne hn5' hb0 hn5 hlen hn hl; omega)
       refine As.has hL ?_
       wtm_at "pw"
       intro c9 ep9 h9
       revert c9 ep9; refine letI c9 := _; letI ep9 := _; epsX2 31 c9 ep9 rfl ?_; wtm_at "in"
       have n98 : c8 ≠ c9 := ne_new h9 gs
       wtm_at "pw"
       show ∃ _, _
       refine ⟨rs ++ [c9], by simp, fun a o ha e => ?_, ?_, fun r hm => ?_, by wtm_at "has"⟩
       · have e5 := K a o ha e
         have n9a := ne_new h9 e5
         wtm_at "hp"
       · rw [List.map_append]; exact upd_same _ _ _
       · rcases List.mem_append.mp hm with hm | hm
         · obtain ⟨p', e', r1, r2⟩ := hr r hm
           have m1 := ne_kind r1 gs (by simp)
           have m2 := ne_new h9 r1
           exact ⟨p', e', by wtm_at "hp", r2⟩
         · rw [List.mem_singleton] at hm
           subst hm
           refine ⟨fun x => if x = u0 then q else p x, if (dlook (dE S fun u => qV (p u)) (Key.int u0)).isSome then ep9 else ep9 + 1, ?_, fun x hx => ?_⟩
           · rw [upd_ne _ _ n98.symm]
             refine (upd_same _ _ _).trans ?_
             rw [dset_dE_old _ hSn (hus.subset hu0m)]
             have hqe : (dE S fun x => if x = u0 then V.tup [.int q.1, .int q.2] else qV (p x)) = dE S fun u => qV (if u = u0 then q else p u) := dE_congr fun x _ => by
               by_cases e : x = u0
               · simp [e]
               · simp [e]
             rw [hqe]
           · by_cases e : x = u0
             · subst e; simpa using hqm
             · simpa [e] using hP x hx
     · rintro l σ' ⟨rs, hrl, K, gs, hr, hL⟩
       revert l σ' rs; refine letI l := _; letI σ' := _; letI rs := _; epsX3 32 l σ' rs rfl ?_; wtm_at "in"
       refine ⟨K _ _ n87 g97, ?_⟩
       refine Ex.has hL ?_
       wtm_at "pw"
       refine hR _ _ (h c8 rs σ' n5 ⟨K _ _ n8t T9.d, K _ _ n8c T9.l⟩ (by first | assumption | decide | (clear hrl hgz hfz hfll nB hB b20 f0 hu00 hne hb0 hn5 hlen hn hl; omega)) (fun a o ha e => K _ _ (KO9 a o ha e).1 (KO9 a o ha e).2) gs (by rw [hrl, List.length_map]; exact hgz) hr)
   wtm_at "pw"
   · have hRR : kd u0 ≠ 1 := by rename_i e; (clear hfz hfll nB hB b20 f0 hu00 hne hn5' hb0 hn5 hlen hn hl; omega)
     rw [show fl.map qV ++ [V.tup [.int tt, .int bb]] = (fl ++ [(tt, bb)]).map qV by simp]
     have hgl : ∀ q ∈ fl ++ [(tt, bb)], okQ 700 q ∧ (q.2 = 1 ∨ kd u0 ≠ 1) := fun q hq => by
       rcases List.mem_append.mp hq with hq | hq
       · exact hfl q hq
       · rw [List.mem_singleton] at hq; subst hq; exact ⟨⟨hB, bT.mono (by decide), bB.mono (by decide)⟩, .inr hRR⟩
     have hgz : (fl ++ [(tt, bb)]).length ≤ 5 := by simp [hfll]
     generalize fl ++ [(tt, bb)] = gl at *
     have T8 : Tape (upd σ7 c7 (.list (gl.map qV))) t c cells n5 ep := ⟨(upd_ne _ _ n7t).trans T7.d, (upd_ne _ _ n7c).trans T7.l⟩
     have g82 := (upd_ne σ7 (.list (gl.map qV)) n72).trans g72
     have g83 := (upd_ne σ7 (.list (gl.map qV)) n73).trans g73
     have KO8 : ∀ a o, a ≠ t → σ a = some o → (upd σ7 c7 (.list (gl.map qV))) a = some o := fun a o ha e => (upd_ne _ _ (KO7 a o ha e).1).trans (KO7 a o ha e).2
     have g87 := upd_same σ7 c7 (.list (gl.map qV))
     exact key2 gl _ hgl hgz T8 g82 g83 g87 KO8
   · exact key2 fl σ7 hfl (by (clear hfz nB hB b20 f0 hu00 hne hn5' hb0 hn5 hlen hn hl; omega)) T7 g72 g73 g77 (fun a o ha e => (KO7 a o ha e).2)
 repeat' ((fail_if_success (refine exI.mk ?_)); wtm_at "py")
 any_goals assumption
 · exact exI.mk (key _ _ (by (clear b20 f0 hu00 hne hn5' hb0 hn5 hlen hn hl; omega)) (by rw [Int.zero_sub]; exact b1.neg.mono (by decide)) (by rw [Int.zero_sub]; exact b2.neg.mono (by decide)) _ fun v σ' h => outP.mk h)
 · exact exI.mk (key _ _ (by (clear f0 hu00 hne hn5' hb0 hn5 hlen hn hl; omega)) (b1.mono (by decide)) (b2.mono (by decide)) _ fun v σ' h => outP.mk h)
end E10
theorem points_ok {X : Wd} {w : World} (hX : IsX X w) (t c pf pk : Addr) (cells : List Int) (n ep : Nat) (us S : List Int) (f : Int → Int × Int) (kd : Int → Int) (li : Int × Int) (kes : List (Key × V)) (e1 e2 : Nat) (σ : Hp) {lv : Nat} (Q : V → Hp → Prop) (T : Tape σ t c cells n ep) (hpf : σ pf = some (.dict (dE us fun u => qV (f u)) e1)) (hpk : σ pk = some (.dict kes e2)) (htf : pf ≠ t) (htk : pk ≠ t) (hk : ∀ u ∈ us, dlook kes (.int u) = some (.int (kd u))) (hkd : ∀ u ∈ us, kd u = 1 ∨ kd u = 2) (hus : us.Perm S) (hS : S.Pairwise (· < ·)) (hl : us.length ≤ 3) (hf : ∀ u ∈ us, okQ 20 (f u)) (hli : okQ 20 li) (hn : n < 2 ^ 50) (h : ∀ (a : Addr) (rs : List Addr) (σ' : Hp) (n' : Nat), Tape σ' t c cells n' ep → n' ≤ n + 10 → Hb t σ σ' → σ' a = some (.list (rs.map V.ref)) → rs.length ≤ 5 → (∀ r ∈ rs, Is2 fun p e => σ' r = some (.dict (dE S fun u => qV (p u)) e) ∧ OkP S kd p) → Q (.ref a) σ') : CallV X (lv + 3) (.ref 813) [.ref t, .ref pf, qV li, .ref pk] σ Q :=
 (epsW_elim E10.zn (S := E10.ZS) E10.zc ⟨S, X, w, t, c, pf, pk, cells, n, ep, us, f, kd, li, kes, e1, e2, σ, lv, Q⟩) hX T hpf hpk htf htk hk hkd hus hS hl hf hli hn h
theorem BkT.hb {σ σ' : Hp} {p t : Addr} {b : Bk} {ops as ss ds fns fas frs : List V} {es : List (List TK × V)} {te : List (Key × V)} {ep : Nat} (T : BkT σ p b ops as ss ds es fns fas frs) (ht : σ t = some (.dict te ep)) (hne : b.dx ≠ t) (H : Hb t σ σ') : BkT σ' p b ops as ss ds es fns fas frs := by
 refine T.hx fun a o e ha => H a o ?_ e
 have p1 := ne_kind T.gto ht (by simp)
 have p2 := ne_kind T.gta ht (by simp)
 have p3 := ne_kind T.gts ht (by simp)
 have p4 := ne_kind T.gtd ht (by simp)
 have p5 := ne_kind T.gnb ht (by simp)
 have p6 := ne_kind T.gfn ht (by simp)
 have p7 := ne_kind T.gfa ht (by simp)
 have p8 := ne_kind T.gfr ht (by simp)
 have p9 := ne_kind T.ip ht (by simp)
 simp only [Bk.all, List.mem_cons, List.not_mem_nil, or_false] at ha
 rcases ha with (rfl | rfl | rfl | rfl | rfl | rfl | rfl | rfl) | rfl | rfl <;> assumption
theorem CompL.rel {α : Type} {X : Wd} {sc' : Scope} {lv : Nat} {L : Ls} {elt tgt : PySem.Expr} {ns : List Str} {Q : V → Hp → Prop} {src : Hp → Prop} {σ : Hp} (xs : List α) (g : α → V) (R : α → V → Prop) (hs : src σ) (hl : xs.length < lim)
   (hb : ∀ a ∈ xs, ∃ vs, Al3 (tgtVals tgt (g a) = some vs) (ns.length = vs.length) (Ev X sc' lv (ofL (puts L ns vs)) σ elt fun y σ₃ => σ₃ = σ ∧ R a y))
   (hq : ∀ c ys, σ c = none → All2 R xs ys → Q (.ref c) (upd σ c (.list ys))) : CompL X sc' lv L elt [] ns tgt Q (xs.map g) src σ := by
 refine ⟨fun k out σ' => σ' = σ ∧ All2 R (xs.take k) out, ⟨rfl, by rw [List.take_zero]; exact .nil⟩, ?_, ?_⟩
 · rintro k out σ' x ⟨rfl, ho⟩ hx
   obtain ⟨a, rfl, ha⟩ := map_get hx
   obtain ⟨vs, e1, e2, h⟩ := hb a (List.mem_of_getElem? ha)
   refine ⟨hs, vs, e1, e2, EvTs.nil (iftt (h.mono fun y σ₃ ⟨q1, q2⟩ => ⟨?_, q1, ?_⟩))⟩
   · have h1 := ho.len
     have h2 : (xs.take k).length ≤ xs.length := by rw [List.length_take]; omega
     simp only [lim] at *; omega
   · rw [List.take_succ, ha]; exact ho.snoc q2
 · rintro out σ' ⟨rfl, ho⟩
   refine ⟨hs, fun c hc => hq c out hc ?_⟩
   rw [List.length_map, List.take_length] at ho; exact ho
theorem fold_lcm_le (j : Nat) : ∀ (ns : List Int) (g : Nat), (∀ n ∈ ns, n.natAbs ≤ 2 ^ j) → ns.foldl (fun (g : Nat) n => Int.lcm g n) g ≤ g * 2 ^ (j * ns.length)
 | [], g, _ => by simp
 | n :: ns, g, h => by
   rw [List.foldl_cons]
   refine Nat.le_trans (fold_lcm_le j ns _ fun m hm => h m (List.mem_cons_of_mem _ hm)) ?_
   have h1 : Int.lcm g n ≤ g * 2 ^ j := by
     unfold Int.lcm
     exact Nat.le_trans (Nat.div_le_self _ _) (Nat.mul_le_mul (by simp) (h n List.mem_cons_self))
   rw [List.length_cons, Nat.mul_add, Nat.mul_one, Nat.pow_add]
   calc _ ≤ (g * 2 ^ j) * 2 ^ (j * ns.length) := Nat.mul_le_mul_right _ h1
     _ = g * (2 ^ (j * ns.length) * 2 ^ j) := by ac_rfl
theorem lcmL_bd {ns : List Int} {j : Nat} (h : ∀ n ∈ ns, bd j n) (hl : ns.length ≤ 3) (hj : j * 3 < 200) : bd 200 (lcmL ns : Int) := by
 have := fold_lcm_le j ns 1 (fun n hn => Nat.le_of_lt (h n hn))
 have h2 : 2 ^ (j * ns.length) ≤ 2 ^ (j * 3) := Nat.pow_le_pow_right (by decide) (Nat.mul_le_mul_left _ hl)
 have h3 : 2 ^ (j * 3) < 2 ^ 200 := Nat.pow_lt_pow_right (by decide) hj
 unfold bd lcmL
 simp only [Int.natAbs_natCast]
 first | assumption | decide | omega
theorem cmpP.eq3 {σ : Hp} {p q a b : Addr} {used : List Int} {k k' : Int → Int} {x1 x2 : Int × Int} {b1 b2 : Bool} {e e' : Nat} {Q : V → Hp → Prop} (hp : σ p = some (.list [.ref a, qV x1, .bool b1])) (hq : σ q = some (.list [.ref b, qV x2, .bool b2])) (hne : p ≠ q)
   (ha : σ a = some (.dict (dE used fun u => .int (k u)) e)) (hb : σ b = some (.dict (dE used fun u => .int (k' u)) e')) (hk : ∀ u ∈ used, k u = k' u) (hx : x1 = x2) (hbb : b1 = b2) (h : Q (.bool true) σ) : cmpP .Eq (.ref p) (.ref q) σ Q := by
 refine ⟨_, ?_, h⟩
 rw [veq1_ref, if_neg hne, hp, hq]
 subst hx hbb
 have e1 : veqN σ 6 (.ref a) (.ref b) = some true := by
   show (if a = b then some true else veq1 σ (veqN σ 5) (.ref a) (.ref b)) = _
   by_cases hab : a = b
   · rw [if_pos hab]
   · rw [if_neg hab, veq1_ref, if_neg hab, ha, hb]
     exact veqR_dE fun u hu => by rw [veqN_int, hk u hu]; simp
 show veqsW (veqN σ 6) [.ref a, qV x1, .bool b1] [.ref b, qV x1, .bool b1] = some true
 simp only [veqsW, e1, veqN_q, veqN_bool, Option.bind_some, decide_true, beq_self_eq_true, Bool.and_self]
theorem rq_low {a b n d : Int} (hb : 0 < b) (h : LowI a b n d) : rq (n, d) = rq (a, b) := rq_of h.1 hb h.2.2.2
theorem rq_mul {a b c d : Int} (hb : 0 < b) (hd : 0 < d) : rq (a * c, b * d) = rq (c, d) * rq (a, b) := by
 have b0 := ratI hb
 have d0 := ratI hd
 show ((a * c : Int) : Rat) / ((b * d : Int) : Rat) = ((c : Rat) / (d : Rat)) * ((a : Rat) / (b : Rat))
 simp only [Rat.intCast_mul]
 grind
theorem rq_pos {c d : Int} (hc : 0 < c) (hd : 0 < d) : 0 < rq (c, d) := by
 show 0 < (c : Rat) / (d : Rat)
 rw [Rat.lt_div_iff (ratP hd), Rat.zero_mul]; exact ratP hc
theorem rq_ne {a b : Int} (ha : a ≠ 0) (hb : 0 < b) : rq (a, b) ≠ 0 := by
 have b0 := ratI hb
 have a0 : (a : Rat) ≠ 0 := by intro e; exact ha (by exact_mod_cast e)
 show (a : Rat) / (b : Rat) ≠ 0
 grind
theorem dE_ne_tape (us : List Int) (g : Int → V) (e : Nat) (c : Addr) (n ep : Nat) : O.dict (dE us g) e ≠ O.dict (tapeD c n) ep := by
 intro h
 injection h with h1 _
 cases us with
 | nil => simp [dE, tapeD] at h1
 | cons u us => simp [dE, tapeD] at h1
namespace E11
structure ZT where
 X : Wd
 w : World
 t : Addr
 c : Addr
 pj : Addr
 dj : Addr
 pb : Addr
 pk : Addr
 b : Bk
 ops : List V
 as : List V
 ss : List V
 ds : List V
 fns : List V
 fas : List V
 frs : List V
 es : List (List TK × V)
 cells : List Int
 n : Nat
 ep : Nat
 kd : Int → Int
 e1 : Nat
 ej : Nat
 σ : Hp
 lv : Nat
 Q : V → Hp → Prop
noncomputable def ZS : ZT → Prop := fun ⟨X, w, t, c, pj, dj, pb, pk, b, ops, as, ss, ds, fns, fas, frs, es, cells, n, ep, kd, e1, ej, σ, lv, Q⟩ => ∀ (S : List Int) (hX : IsX X w) (T : Tape σ t c cells n ep) (hj : σ pj = some (.inst 778 dj)) (hdj : σ dj = some (.dict [(.str (Str.ofString "bank"), .ref pb)] ej)) (B : BkT σ pb b ops as ss ds es fns fas frs) (hss : ∀ u ∈ S, vidx ss u = some (.int (kd u))) (hpk : σ pk = some (.dict (dE S fun u => .int (kd u)) e1)) (hkd : ∀ u ∈ S, kd u = 1 ∨ kd u = 2) (hS : S.Pairwise (· < ·)) (hl : S.length ≤ 3) (hn : n < 2 ^ 49) (htk : pk ≠ t) (htj : dj ≠ t) (htb : b.dx ≠ t) (h : ∀ (σ' : Hp) (n' : Nat), Tape σ' t c cells n' ep → n' ≤ n + 40 → Hb t σ σ' → Q (.bool true) σ'), CallV X (lv + 9) (.ref 825) [.ref t, .ref pj, .ref pk] σ Q
theorem zn : Nonempty ZT := ⟨⟨aWd, (PySem.W.aWorld 1), 0, 0, 0, 0, 0, 0, ⟨0, 0, 0, 0, 0, 0, 0, 0, 0, [], 0⟩, [], [], [], [], [], [], [], [], [], 0, 0, (fun _ => 0), 0, 0, (fun _ => none), 0, (fun _ _ => True)⟩⟩
noncomputable def ze : ZT := epsW zn ZS
noncomputable def X : Wd := ze.X
noncomputable def w : World := ze.w
noncomputable def t : Addr := ze.t
noncomputable def c : Addr := ze.c
noncomputable def pj : Addr := ze.pj
noncomputable def dj : Addr := ze.dj
noncomputable def pb : Addr := ze.pb
noncomputable def pk : Addr := ze.pk
noncomputable def b : Bk := ze.b
noncomputable def ops : List V := ze.ops
noncomputable def as : List V := ze.as
noncomputable def ss : List V := ze.ss
noncomputable def ds : List V := ze.ds
noncomputable def fns : List V := ze.fns
noncomputable def fas : List V := ze.fas
noncomputable def frs : List V := ze.frs
noncomputable def es : List (List TK × V) := ze.es
noncomputable def cells : List Int := ze.cells
noncomputable def n : Nat := ze.n
noncomputable def ep : Nat := ze.ep
noncomputable def kd : Int → Int := ze.kd
noncomputable def e1 : Nat := ze.e1
noncomputable def ej : Nat := ze.ej
noncomputable def σ : Hp := ze.σ
noncomputable def lv : Nat := ze.lv
noncomputable def Q : V → Hp → Prop := ze.Q
theorem zc : ∀ (S : List Int) (hX : IsX X w) (T : Tape σ t c cells n ep) (hj : σ pj = some (.inst 778 dj)) (hdj : σ dj = some (.dict [(.str (Str.ofString "bank"), .ref pb)] ej)) (B : BkT σ pb b ops as ss ds es fns fas frs) (hss : ∀ u ∈ S, vidx ss u = some (.int (kd u))) (hpk : σ pk = some (.dict (dE S fun u => .int (kd u)) e1)) (hkd : ∀ u ∈ S, kd u = 1 ∨ kd u = 2) (hS : S.Pairwise (· < ·)) (hl : S.length ≤ 3) (hn : n < 2 ^ 49) (htk : pk ≠ t) (htj : dj ≠ t) (htb : b.dx ≠ t) (h : ∀ (σ' : Hp) (n' : Nat), Tape σ' t c cells n' ep → n' ≤ n + 40 → Hb t σ σ' → Q (.bool true) σ'), CallV X (lv + 9) (.ref 825) [.ref t, .ref pj, .ref pk] σ Q := by
 intro S hX T hj hdj B hss hpk hkd hS hl hn htk htj htb h
 have hSn : S.Nodup := hS.imp fun h => by first | assumption | decide | omega
 have hRn : S.reverse.Nodup := (List.reverse_perm S).nodup_iff.mpr hSn
 have hRp : S.reverse.Perm S := List.reverse_perm S
 wtm_at "fn"
 wtm_at "pw"
 refine Ev.dict0 fun c1 ep1 h1 => ?_
 have X1 := Hx.new (o := .dict [] ep1) h1
 have g1 : (upd σ c1 (.dict [] ep1)) c1 = some (.dict (dE (S.reverse.take 0) fun u => qV (0, 1)) ep1) := upd_same _ _ _
 have n1t : t ≠ c1 := ne_new h1 T.d
 have n1c : c ≠ c1 := ne_new h1 T.l
 have KO1 : ∀ a o, σ a = some o → a ≠ c1 ∧ (upd σ c1 (.dict [] ep1)) a = some o := fun a o e => ⟨ne_new h1 e, X1 _ _ e⟩
 generalize (upd σ c1 (.dict [] ep1)) = σ1 at *
 wtm_at "pw"
 refine Ex.for_ (EvI.val ?_ rfl)
 wtm_at "pw"
 refine CallV.sortedD (ns := S) (KO1 _ _ hpk).2 (dE_keys _ _) (by first | assumption | decide | omega) fun c2 ns h2 hperm hsort => ?_
 have hns := sorted_is hperm (List.Perm.refl S) hsort hS
 subst hns
 wtm_at "pw"
 intro c3 h3
 rw [show (ns.map V.int).reverse = ns.reverse.map V.int by rw [List.map_reverse]]
 have X2 : Hx σ1 (upd (upd σ1 c2 (.list (ns.map V.int))) c3 (.list (ns.reverse.map V.int))) := (Hx.new h2).trans (Hx.new h3)
 have g3 := upd_same (upd σ1 c2 (.list (ns.map V.int))) c3 (.list (ns.reverse.map V.int))
 have g31 := X2 _ _ g1
 have KO3 : ∀ a o, σ a = some o → a ≠ c1 ∧ (upd (upd σ1 c2 (.list (ns.map V.int))) c3 (.list (ns.reverse.map V.int))) a = some o := fun a o e => ⟨(KO1 a o e).1, X2 _ _ (KO1 a o e).2⟩
 have T3 : Tape (upd (upd σ1 c2 (.list (ns.map V.int))) c3 (.list (ns.reverse.map V.int))) t c cells n ep := ⟨(KO3 _ _ T.d).2, (KO3 _ _ T.l).2⟩
 generalize (upd (upd σ1 c2 (.list (ns.map V.int))) c3 (.list (ns.reverse.map V.int))) = σ3 at *
 clear h3 X2 g1 KO1 h2 h1 X1
 have hct : c ≠ t := ne_kind T.l T.d (by simp)
 have n3t : c3 ≠ t := ne_kind g3 T3.d (by simp)
 have n31 : c3 ≠ c1 := ne_kind g3 g31 (by simp)
 have hP0 : ∀ u ∈ ns.reverse.take 0, okQ 3 ((fun _ => ((0 : Int), (1 : Int))) u) := fun _ hm => by simp at hm
 wtm_at "pw"
 refine itP.list g3 ⟨fun k l σ' => Is3 fun (f : Int → Int × Int) (n' e3 : Nat) => Al6 (Tape σ' t c cells n' ep) (n' ≤ n + 2 * k) ((∀ a o, a ≠ t → a ≠ c1 → σ3 a = some o → σ' a = some o)) (σ' c1 = some (.dict (dE (ns.reverse.take k) fun u => qV (f u)) e3)) ((∀ u ∈ ns.reverse.take k, okQ 3 (f u))) (Has l [(Str.ofString "tape", .ref t), (Str.ofString "judge", .ref pj), (Str.ofString "kinds", .ref pk), (Str.ofString "factors", .ref c1)]),
   ⟨fun _ => (0, 1), n, ep1, T3, by first | assumption | decide | omega, fun a o _ _ e => e, g31, hP0, by wtm_at "has"⟩, ?_, ?_⟩
 · rintro k l σ5 x ⟨f, n5, e3, T5, hn5, K5, g51, hP, hL⟩ hx
   refine ⟨K5 _ _ n3t n31 g3, ?_⟩
   obtain ⟨u, rfl, hu⟩ := map_get hx
   have hk3 : k < 3 := by have := (List.getElem?_eq_some_iff.mp hu).1; rw [List.length_reverse] at this; omega
   have T5l := T5.l
   have T5d := T5.d
   have hz : (dE (ns.reverse.take k) fun u => qV (f u)).length < lim := by
     rw [dE_len, List.length_take, List.length_reverse]; simp only [lim]; omega
   refine As.has hL ?_
   wtm_at "pw"
   intro v v0 v9
   wtm_at "pw"
   intro v' v'0 v'4
   wtm_at "pw"
   · first | assumption | decide | omega
   intro m d hI
   wtm_at "pw"
   show Is3 _
   have kk := dE_put (p := f) hRn hu (m, d)
   obtain ⟨l1, l2, l3, l4⟩ := hI
   refine ⟨fun x => if x = u then (m, d) else f x, n5 + 1 + 1, if (dlook (dE (ns.reverse.take k) fun u => qV (f u)) (Key.int u)).isSome then e3 else e3 + 1, ⟨?_, ?_⟩, by first | assumption | decide | omega, ?_, ?_, ?_, by wtm_at "has"⟩
   · wtm_at "hp"
   · wtm_at "hp"
   · intro a o' ha hb e
     have e5 := K5 a o' ha hb e
     wtm_at "hp"
   · rw [← kk]; wtm_at "hp"
   · intro x hx
     rw [List.take_succ, hu, List.mem_append] at hx
     by_cases e : x = u
     · simp only [e, if_true]
       exact ⟨l1, bd_small (by first | assumption | decide | omega), bd_small (by first | assumption | decide | omega)⟩
     · simp only [e, if_false]
       refine hP x (hx.resolve_right fun hm => e ?_)
       simpa using hm
 rintro l σ5 ⟨f, n5, e3, T5, hn5, K5, g51, hP, hL⟩
 refine ⟨K5 _ _ n3t n31 g3, ?_⟩
 rw [List.length_map] at hn5 g51 hP
 rw [List.take_length] at g51 hP
 rw [List.length_reverse] at hn5
 have KO5 : ∀ a o, a ≠ t → σ a = some o → σ5 a = some o := fun a o ha e => K5 a o ha (KO3 a o e).1 (KO3 a o e).2
 refine Ex.has hL ?_
 clear hL l
 have n5b : n5 ≤ n + 6 := by first | assumption | decide | omega
 clear hn5
 have h1t : c1 ≠ t := Ne.symm n1t
 wtm_at "pw"
 intro v v0 v19
 wtm_at "pw"
 intro v' v'0 v'6
 wtm_at "pw"
 · first | assumption | decide | omega
 intro m d hI
 obtain ⟨li, rfl, rfl⟩ : ∃ li : Int × Int, m = li.1 ∧ d = li.2 := ⟨(m, d), rfl, rfl⟩
 have hli : okQ 4 li := ⟨hI.1, by have := hI.2.2.1; unfold bd; simp; omega, by have := hI.2.1; have := hI.1; unfold bd; simp; omega⟩
 clear hI
 wtm_at "pw"
 intro v'' v''0 v''2
 wtm_at "pw"
 generalize decide (v'' = 1) = st at *
 have T6 : Tape (upd (upd (upd σ5 t (.dict (tapeD c (n5 + 1)) ep)) t (.dict (tapeD c (n5 + 1 + 1)) ep)) t (.dict (tapeD c (n5 + 1 + 1 + 1)) ep)) t c cells (n5 + 1 + 1 + 1) ep := T5.next.next.next
 have g61 : (upd (upd (upd σ5 t (.dict (tapeD c (n5 + 1)) ep)) t (.dict (tapeD c (n5 + 1 + 1)) ep)) t (.dict (tapeD c (n5 + 1 + 1 + 1)) ep)) c1 = some (.dict (dE ns.reverse fun u => qV (f u)) e3) := by wtm_at "hp"
 have KO6 : Hb t σ (upd (upd (upd σ5 t (.dict (tapeD c (n5 + 1)) ep)) t (.dict (tapeD c (n5 + 1 + 1)) ep)) t (.dict (tapeD c (n5 + 1 + 1 + 1)) ep)) := fun a o ha e => by
   have e5 := KO5 a o ha e
   wtm_at "hp"
 generalize (upd (upd (upd σ5 t (.dict (tapeD c (n5 + 1)) ep)) t (.dict (tapeD c (n5 + 1 + 1)) ep)) t (.dict (tapeD c (n5 + 1 + 1 + 1)) ep)) = σ6 at *
 have hn6 : n5 + 1 + 1 + 1 ≤ n + 9 := by first | assumption | decide | omega
 generalize n5 + 1 + 1 + 1 = n6 at *
 clear T5 KO5 K5 g51 n5b T3 KO3 g31 g3 hP0 v0 v19 v'0 v'6 v''0 v''2
 have htj' : pj ≠ t := ne_kind hj T.d (by simp)
 have hj6 := KO6 _ _ htj' hj
 have hdj6 := KO6 _ _ htj hdj
 have B6 := B.hb T.d htb KO6
 have hpk6 := KO6 _ _ htk hpk
 have hss' : ∀ u ∈ ns.reverse, vidx ss u = some (.int (kd u)) := fun u hu => hss u (by simpa using hu)
 have hS3 : ns.reverse.length ≤ 3 := by simpa using hl
 have f4 : ∀ u ∈ ns.reverse, 0 < (f u).2 ∧ bd 200 (f u).1 := fun u hu => ⟨(hP u hu).1, (hP u hu).2.1.mono (by decide)⟩
 have hbot : bd 200 (lcmL ((ns.filter fun u => (f u).1 != 0).map fun u => (f u).2)) := lcmL_bd (j := 3) (fun x hx => by
   obtain ⟨u, hu, rfl⟩ := List.mem_map.mp hx
   exact (hP u (by simpa using (List.mem_filter.mp hu).1)).2.2) (by rw [List.length_map]; exact Nat.le_trans (List.length_filter_le _ _) hl) (by decide)
 wtm_at "pw"
 any_goals assumption
 · first | assumption | decide | omega
 · exact hli.1
 · exact hli.2.1.mono (by decide)
 · exact hli.2.2.mono (by decide)
 intro x dx pd er epd k q st' σ7 X7 hx0 hr hdr hpd R
 have okm : ∀ {i j : Nat} {o : Int × Int}, okQ i o → i ≤ j → okQ j o := fun h hij => ⟨h.1, h.2.1.mono hij, h.2.2.mono hij⟩
 have T7 : Tape σ7 t c cells n6 ep := ⟨X7 _ _ T6.d, X7 _ _ T6.l⟩
 have g71 := X7 _ _ g61
 have hpk7 := X7 _ _ hpk6
 have KO7 : Hb t σ σ7 := fun a o ha e => X7 _ _ (KO6 a o ha e)
 have nxt : x ≠ t := Ne.symm (ne_new hx0 T6.d)
 have hk' : ∀ u ∈ ns.reverse, dlook (dE ns fun u => V.int (kd u)) (.int u) = some (.int (kd u)) := fun u hu => dE_look (by simpa using hu)
 have hkd' : ∀ u ∈ ns.reverse, kd u = 1 ∨ kd u = 2 := fun u hu => hkd u (by simpa using hu)
 have hf200 : ∀ u ∈ ns.reverse, okQ 200 (f u) := fun u hu => okm (hP u hu) (by decide)
 have hli200 : okQ 200 li := okm hli (by decide)
 wtm_at "pw"
 any_goals assumption
 any_goals exact rfl
 intro σ8 X8
 wtm_at "pw"
 have T8 : Tape σ8 t c cells n6 ep := ⟨X8 _ _ T7.d, X8 _ _ T7.l⟩
 have g81 := X8 _ _ g71
 have hpk8 := X8 _ _ hpk7
 have hr8 := X8 _ _ hr
 have hdr8 := X8 _ _ hdr
 have hpd8 := X8 _ _ hpd
 have KO8 : Hb t σ σ8 := fun a o ha e => X8 _ _ (KO7 a o ha e)
 refine EvI.val ?_ rfl
 wtm_at "pw"
 wtm_at "pw"
 refine itP.dict g81 ?_
 rw [dE_items]
 refine CompL.pure ns.reverse V.int (fun _ => true) (fun u => .tup [.int u, qV (if u ∈ (ns.filter fun u => (f u).1 != 0) then k u else 0, 1)]) ⟨_, g81, rfl⟩ (by simp only [lim]; omega) (fun u hu => ⟨_, rfl, rfl, ?_⟩) fun c9 h9 => ?_
 · wtm_at "pw"
   refine ⟨rfl, rfl, fun _ => ?_⟩
   wtm_at "pw"
   refine ⟨rfl, ?_⟩
   by_cases hm : u ∈ (ns.filter fun u => (f u).1 != 0)
   · rw [dE_look hm, if_pos hm]; rfl
   · rw [dE_look_none hm, if_neg hm]; rfl
 rw [List.filter_eq_self.mpr fun _ _ => rfl]
 generalize hkq : (fun u => ((if u ∈ (ns.filter fun u => (f u).1 != 0) then k u else 0, 1) : Int × Int)) = kq at *
 rw [show (ns.reverse.map fun u => V.tup [.int u, qV (if u ∈ (ns.filter fun u => (f u).1 != 0) then k u else 0, 1)]) = ns.reverse.map fun u => V.tup [.int u, qV (kq u)] by rw [← hkq]]
 have X9 := X8.trans (Hx.new (o := .list (ns.reverse.map fun u => V.tup [.int u, qV (kq u)])) h9)
 wtm_at "pw"
 refine CallV.dictE (us := ns.reverse) (g := fun u => qV (kq u)) (upd_same _ _ _) hRn fun c10 ep10 h10 => ?_
 have X10 := X9.trans (Hx.new (o := .dict (dE ns.reverse fun u => qV (kq u)) ep10) h10)
 have ntA : c10 ≠ t := Ne.symm (ne_new h10 (X9 _ _ T7.d))
 have g10 := upd_same (upd σ8 c9 (.list (ns.reverse.map fun u => V.tup [.int u, qV (kq u)]))) c10 (.dict (dE ns.reverse fun u => qV (kq u)) ep10)
 generalize (upd (upd σ8 c9 (.list (ns.reverse.map fun u => V.tup [.int u, qV (kq u)]))) c10 (.dict (dE ns.reverse fun u => qV (kq u)) ep10)) = σ10 at *
 clear T8 g81 hpk8 hr8 hdr8 hpd8 KO8 h9 h10 X9 X8
 have TA : Tape σ10 t c cells n6 ep := ⟨X10 _ _ T7.d, X10 _ _ T7.l⟩
 have gA1 := X10 _ _ g71
 have hpkA := X10 _ _ hpk7
 have hrA := X10 _ _ hr
 have hdrA := X10 _ _ hdr
 have hpdA := X10 _ _ hpd
 have KOA : Hb t σ σ10 := fun a o ha e => X10 _ _ (KO7 a o ha e)
 have ndt : dx ≠ t := ne_kind hdrA TA.d (by simp [rowD, tapeD])
 have npt : pd ≠ t := ne_kind hpdA TA.d (dE_ne_tape _ _ _ _ _ _)
 have hf20 : ∀ u ∈ ns.reverse, okQ 20 (f u) := fun u hu => okm (hP u hu) (by decide)
 have hli20 : okQ 20 li := okm hli (by decide)
 have hn50 : n6 < 2 ^ 50 := by first | assumption | decide | omega
 wtm_at "pw"
 refine Ex.for_ (EvI.val ?_ rfl)
 wtm_at "pw"
 refine points_ok hX t c c1 pk cells n6 ep ns.reverse ns f kd li _ e3 e1 _ _ TA gA1 hpkA h1t htk hk' hkd' hRp hS hS3 hf20 hli20 hn50 fun ap rs σ11 n7 T11 hn7 K11 gap hrs hrr => ?_
 have gB1 := K11 _ _ h1t gA1
 have gB10 := K11 _ _ ntA g10
 have hpkB := K11 _ _ htk hpkA
 have hrB := K11 _ _ nxt hrA
 have hdrB := K11 _ _ ndt hdrA
 have hpdB := K11 _ _ npt hpdA
 have KOB : Hb t σ σ11 := fun a o ha e => K11 _ _ ha (KOA a o ha e)
 clear TA gA1 hpkA hrA hdrA hpdA KOA hf20 hli20 hn50 g10
 wtm_at "pw"
 refine itP.list gap ⟨fun k l σ' => Hx σ11 σ' ∧ Has l [(Str.ofString "tape", .ref t), (Str.ofString "judge", .ref pj), (Str.ofString "kinds", .ref pk), (Str.ofString "factors", .ref c1), (Str.ofString "limit", qV li), (Str.ofString "is_below", .bool st), (Str.ofString "row", .ref x), (Str.ofString "whole_parts", .ref c10)], ⟨Hx.refl _, by wtm_at "has"⟩, ?_, ?_⟩
 · rintro k2 l σ12 y ⟨X12, hL⟩ hx
   refine ⟨X12 _ _ gap, ?_⟩
   obtain ⟨r, rfl, hq⟩ := map_get hx
   obtain ⟨p, er, gr, hOk⟩ := hrr r (List.mem_of_getElem? hq)
   have gr' := X12 _ _ gr
   have g1' := X12 _ _ gB1
   have g10' := X12 _ _ gB10
   have r1' := X12 _ _ hrB
   have r2' := X12 _ _ hdrB
   have hf700 : ∀ u ∈ ns.reverse, okQ 700 (f u) := fun u hu => okm (hP u hu) (by decide)
   have hli700 : okQ 700 li := okm hli (by decide)
   have hpr : ∀ u ∈ ns.reverse, dlook (dE ns fun u => qV (p u)) (.int u) = some (qV (p u)) := fun u hu => dE_look (by simpa using hu)
   have hp700 : ∀ u ∈ ns.reverse, okQ 700 (p u) := fun u hu => (hOk u (by simpa using hu)).1
   have hkq700 : ∀ u ∈ ns.reverse, okQ 700 (kq u) := fun u hu => by
     rw [← hkq]
     refine ⟨Int.one_pos, ?_, bd.mono (i := 1) (show bd 1 1 by unfold bd; decide) (by decide)⟩
     show bd 700 (if _ then _ else _)
     split
     · exact R.sk u (by assumption)
     · unfold bd; exact Nat.pow_pos (by decide)
   have hq700 : okQ 700 q := ⟨R.pos, R.s1, R.s2⟩
   have hsc : saysB f p li st ns = saysB kq p q st' ns := by
     rw [← hkq]; exact says_core R rfl fun u hu => (hOk u hu).2
   refine As.has hL ?_
   wtm_at "pw"
   refine says_ok hX c1 r ns.reverse ns f p li st _ _ _ _ _ g1' gr' hpr hRp hS hS3 hf700 hp700 hli700 fun σ13 X13 => ?_
   have gr'' := X13 _ _ gr'
   have g10'' := X13 _ _ g10'
   have r1'' := X13 _ _ r1'
   have r2'' := X13 _ _ r2'
   wtm_at "pw"
   refine says_ok hX c10 r ns.reverse ns kq p q st' _ _ _ _ _ g10'' gr'' hpr hRp hS hS3 hkq700 hp700 hq700 fun σ14 X14 => ?_
   refine cmpI.mk (cmpP.neB ?_)
   rw [hsc, beq_self_eq_true]
   wtm_at "pw"
   exact ⟨(X12.trans X13).trans X14, by wtm_at "has"⟩
 rintro l σ12 ⟨X12, hL⟩
 refine ⟨X12 _ _ gap, ?_⟩
 have g1' := X12 _ _ gB1
 have r1' := X12 _ _ hrB
 have r2' := X12 _ _ hdrB
 have r3' := X12 _ _ hpdB
 have T12 : Tape σ12 t c cells n7 ep := ⟨X12 _ _ T11.d, X12 _ _ T11.l⟩
 have KOC : Hb t σ σ12 := fun a o ha e => X12 _ _ (KOB a o ha e)
 have hpkC := X12 _ _ hpkB
 refine Ex.has hL ?_
 clear hL l gB1 hrB hdrB hpdB hpkB KOB T11 X12 hrr gap
 generalize hused : (ns.filter fun u => (f u).1 != 0) = used at *
 wtm_at "pw"
 refine Ev.dict0 fun c13 ep13 h13 => ?_
 have X13 := Hx.new (o := .dict [] ep13) h13
 have r1'' := X13 _ _ r1'
 have r2'' := X13 _ _ r2'
 have r3'' := X13 _ _ r3'
 have g1'' := X13 _ _ g1'
 wtm_at "pw"
 refine cmpP.eqD0 (us := used) (g := fun u => .int (k u)) r3'' (upd_same _ _ _) (ne_new h13 r3') ?_
 have T13 : Tape (upd σ12 c13 (.dict [] ep13)) t c cells n7 ep := ⟨X13 _ _ T12.d, X13 _ _ T12.l⟩
 have KOD : Hb t σ (upd σ12 c13 (.dict [] ep13)) := fun a o ha e => X13 _ _ (KOC a o ha e)
 generalize (upd σ12 c13 (.dict [] ep13)) = σ13 at *
 clear g1' r1' r2' r3' T12 KOC hpkC h13 X13
 have hpw : (0 : Int) ≤ 20 ∧ (Builtin.Int.intBits 10 : Int) * 20 ≤ 2 ^ 27 := by decide
 wtm_at "pw"
 · exact h σ13 n7 T13 (by first | assumption | decide | omega) KOD
 rename_i hne
 refine ⟨hpw, ?_⟩
 wtm_at "pw"
 intro c14 h14
 have X14 := Hx.new (o := .list [qV (2, 1), qV (3, 7), qV (1, 5), qV (10 ^ (20 : Int).toNat + 39, 6)]) h14
 have r1 := X14 _ _ r1''
 have r2 := X14 _ _ r2''
 have r3 := X14 _ _ r3''
 have g1 := X14 _ _ g1''
 have T14 : Tape (upd σ13 c14 (.list [qV (2, 1), qV (3, 7), qV (1, 5), qV (10 ^ (20 : Int).toNat + 39, 6)])) t c cells n7 ep := ⟨X14 _ _ T13.d, X14 _ _ T13.l⟩
 have KOE : Hb t σ (upd σ13 c14 (.list [qV (2, 1), qV (3, 7), qV (1, 5), qV (10 ^ (20 : Int).toNat + 39, 6)])) := fun a o ha e => X14 _ _ (KOD a o ha e)
 have g14 := upd_same σ13 c14 (.list [qV (2, 1), qV (3, 7), qV (1, 5), qV (10 ^ (20 : Int).toNat + 39, 6)])
 have n14t : c14 ≠ t := Ne.symm (ne_new h14 T13.d)
 change wE _ _ _ (upd σ13 c14 (.list [qV (2, 1), qV (3, 7), qV (1, 5), qV (10 ^ (20 : Int).toNat + 39, 6)])) _ _
 generalize (upd σ13 c14 (.list [qV (2, 1), qV (3, 7), qV (1, 5), qV (10 ^ (20 : Int).toNat + 39, 6)])) = σ14 at *
 wtm_at "pw"
 intro v v0 v4
 obtain ⟨φ, hv, hφ1, hφ2, hφb, hφ7⟩ : ∃ φ : Int × Int, Al5 (vidx [qV (2, 1), qV (3, 7), qV (1, 5), qV (10 ^ (20 : Int).toNat + 39, 6)] v = some (qV φ)) (0 < φ.1) (0 < φ.2) (bd 70 φ.1) (φ.2 ≤ 7) := by
   obtain rfl | rfl | rfl | rfl : v = 0 ∨ v = 1 ∨ v = 2 ∨ v = 3 := by first | assumption | decide | omega
   · exact ⟨(2, 1), rfl, by decide, by decide, by unfold bd; decide, by decide⟩
   · exact ⟨(3, 7), rfl, by decide, by decide, by unfold bd; decide, by decide⟩
   · exact ⟨(1, 5), rfl, by decide, by decide, by unfold bd; decide, by decide⟩
   · exact ⟨(10 ^ (20 : Int).toNat + 39, 6), rfl, by decide, by decide, by unfold bd; decide, by decide⟩
 wtm_at "pw"
 refine getP.list (xs := [qV (2, 1), qV (3, 7), qV (1, 5), qV (10 ^ (20 : Int).toNat + 39, 6)]) (x := qV φ) (by wtm_at "hp") hv ?_
 have T15 : Tape (upd σ14 t (.dict (tapeD c (n7 + 1)) ep)) t c cells (n7 + 1) ep := T14.next
 have KOF : Hb t σ (upd σ14 t (.dict (tapeD c (n7 + 1)) ep)) := fun a o ha e => (upd_ne _ _ ha).trans (KOE a o ha e)
 have g1F : (upd σ14 t (.dict (tapeD c (n7 + 1)) ep)) c1 = some (.dict (dE ns.reverse fun u => qV (f u)) e3) := (upd_ne _ _ h1t).trans g1
 have r1F : (upd σ14 t (.dict (tapeD c (n7 + 1)) ep)) x = _ := (upd_ne _ _ nxt).trans r1
 have r2F : (upd σ14 t (.dict (tapeD c (n7 + 1)) ep)) dx = _ := (upd_ne _ _ ndt).trans r2
 have r3F : (upd σ14 t (.dict (tapeD c (n7 + 1)) ep)) pd = _ := (upd_ne _ _ npt).trans r3
 generalize (upd σ14 t (.dict (tapeD c (n7 + 1)) ep)) = σ15 at *
 clear r1 r2 r3 g1 T14 KOE g14 h14 X14 T13 KOD r1'' r2'' r3'' g1''
 have sφ1 : sm φ.1 := hφb.mono (by decide)
 have bφ2 : bd 3 φ.2 := bd_small (by first | assumption | decide | omega)
 have sφ2 : sm φ.2 := bφ2.mono (by decide)
 wtm_at "pw"
 refine EvI.val ?_ rfl
 wtm_at "pw"
 refine CallV.sortedD (ns := ns.reverse) g1F (dE_keys _ _) (by first | assumption | decide | omega) fun c16 ns' h16 hperm' hsort' => ?_
 have hns' := sorted_is hperm' hRp hsort' hS
 subst hns'
 have X16 := Hx.new (o := .list (ns'.map V.int)) h16
 have g1G := X16 _ _ g1F
 wtm_at "pw"
 refine itP.list (upd_same _ _ _) ?_
 refine CompL.rel ns' V.int (fun u y => ∃ q' : Int × Int, y = .tup [.int u, qV q'] ∧ LowI ((f u).1 * φ.1) ((f u).2 * φ.2) q'.1 q'.2) (upd_same _ _ _) (by simp only [lim]; omega) (fun u hu => ⟨_, rfl, rfl, ?_⟩) fun c17 ys h17 hys => ?_
 · have hP1 := hP u (by simpa using hu)
   have d1 : dlook (dE ns'.reverse fun u => qV (f u)) (.int u) = some (qV (f u)) := dE_look (by simpa using hu)
   wtm_at "pw"
   · exact hP1.2.1.mono (by decide)
   · exact hP1.2.2.mono (by decide)
   · exact sφ1
   · exact sφ2
   · exact hP1.1
   · exact hφ2
   · intro m d hI
     wtm_at "pw"
     exact ⟨rfl, (m, d), rfl, hI⟩
 obtain ⟨f', rfl, hf'⟩ := All2.fn (e := fun u q => .tup [.int u, qV q]) (P := fun u q' => LowI ((f u).1 * φ.1) ((f u).2 * φ.2) q'.1 q'.2) ((0 : Int), (1 : Int)) (fun u y h => h) hys hSn
 have X17 := X16.trans (Hx.new (o := .list (ns'.map fun u => V.tup [.int u, qV (f' u)])) h17)
 wtm_at "pw"
 refine CallV.dictE (us := ns') (g := fun u => qV (f' u)) (upd_same _ _ _) hSn fun c18 ep18 h18 => ?_
 have X18 := X17.trans (Hx.new (o := .dict (dE ns' fun u => qV (f' u)) ep18) h18)
 have g18 := upd_same (upd (upd σ15 c16 (.list (ns'.map V.int))) c17 (.list (ns'.map fun u => V.tup [.int u, qV (f' u)]))) c18 (.dict (dE ns' fun u => qV (f' u)) ep18)
 generalize (upd (upd (upd σ15 c16 (.list (ns'.map V.int))) c17 (.list (ns'.map fun u => V.tup [.int u, qV (f' u)]))) c18 (.dict (dE ns' fun u => qV (f' u)) ep18)) = σ18 at *
 clear X17 X16 h16 h17 h18 g1G
 have T18 : Tape σ18 t c cells (n7 + 1) ep := ⟨X18 _ _ T15.d, X18 _ _ T15.l⟩
 have KOG : Hb t σ σ18 := fun a o ha e => X18 _ _ (KOF a o ha e)
 have r1 := X18 _ _ r1F
 have r2 := X18 _ _ r2F
 have r3 := X18 _ _ r3F
 have hjG := KOG _ _ htj' hj
 have hdjG := KOG _ _ htj hdj
 have BG := B.hb T.d htb KOG
 clear r1F r2F r3F g1F KOF T15 X18
 wtm_at "pw"
 · exact hli.2.1.mono (by decide)
 · exact hli.2.2.mono (by decide)
 · exact sφ1
 · exact sφ2
 · exact hli.1
 · exact hφ2
 intro m d hIl
 obtain ⟨li', rfl, rfl⟩ : ∃ li : Int × Int, m = li.1 ∧ d = li.2 := ⟨(m, d), rfl, rfl⟩
 have f'ok : ∀ u ∈ ns', 0 < (f' u).2 ∧ bd 200 (f' u).1 ∧ bd 6 (f' u).2 ∧ ((f' u).1 ≠ 0 ↔ (f u).1 ≠ 0) := fun u hu => by
   have hP1 := hP u (by simpa using hu)
   obtain ⟨i1, i2, i3, i4⟩ := hf' u hu
   refine ⟨i1, (bd.of_le (hP1.2.1.mul hφb) i3).mono (by decide), bd.of_le (hP1.2.2.mul bφ2) (by have := Int.mul_pos hP1.1 hφ2; omega), ?_⟩
   have p1 := Int.mul_pos hP1.1 hφ2
   constructor
   · intro e e'
     rw [e', Int.zero_mul, Int.zero_mul] at i4
     rcases Int.mul_eq_zero.mp i4 with h | h
     · exact e h
     · first | assumption | decide | omega
   · intro e e'
     rw [e', Int.zero_mul] at i4
     rcases Int.mul_eq_zero.mp i4.symm with h | h
     · rcases Int.mul_eq_zero.mp h with h | h
       · exact e h
       · first | assumption | decide | omega
     · first | assumption | decide | omega
 have hbot' : bd 200 (lcmL ((ns'.filter fun u => (f' u).1 != 0).map fun u => (f' u).2)) := lcmL_bd (j := 6) (fun x hx => by
   obtain ⟨u, hu, rfl⟩ := List.mem_map.mp hx
   exact (f'ok u (List.mem_filter.mp hu).1).2.2.1) (by rw [List.length_map]; exact Nat.le_trans (List.length_filter_le _ _) hl) (by decide)
 have hli' : 0 < li'.2 ∧ bd 200 li'.1 ∧ bd 200 li'.2 := by
   obtain ⟨i1, i2, i3, i4⟩ := hIl
   exact ⟨i1, (bd.of_le (hli.2.1.mul hφb) i3).mono (by decide), (bd.of_le (hli.2.2.mul bφ2) (by have := Int.mul_pos hli.1 hφ2; omega)).mono (by decide)⟩
 wtm_at "pw"
 refine normal_row_ok hX pj dj pb c18 b ops as ss ds fns fas frs es ns' ns' f' kd li' st _ _ _ _ hjG hdjG BG hss g18 (List.Perm.refl _) hS (by first | assumption | decide | omega) (fun u hu => ⟨(f'ok u hu).1, (f'ok u hu).2.1⟩) hbot' hli'.1 hli'.2.1 hli'.2.2 fun x2 dx2 pd2 er2 ep2 k2 q2 st2 σ20 X20 hx20 hr20 hdr20 hpd20 R2 => ?_
 have hfil : (ns'.filter fun u => (f' u).1 != 0) = used := by
   rw [← hused]
   refine List.filter_congr fun u hu => ?_
   rw [Bool.eq_iff_iff]
   simpa using (f'ok u hu).2.2.2
 rw [hfil] at hpd20 R2
 have humem : ∀ u ∈ used, u ∈ ns' ∧ (f u).1 ≠ 0 := fun u hm => by
   rw [← hused, List.mem_filter] at hm
   exact ⟨hm.1, by simpa using hm.2⟩
 obtain ⟨tw1, tw2, tw3⟩ := twin_core R R2 hne (rq_pos hφ1 hφ2) (fun u hm => by
     have hP1 := hP u (by simpa using (humem u hm).1)
     exact (rq_low (Int.mul_pos hP1.1 hφ2) (hf' u (humem u hm).1)).trans (rq_mul hP1.1 hφ2))
   ((rq_low (Int.mul_pos hli.1 hφ2) hIl).trans (rq_mul hli.1 hφ2)) (fun u hm => rq_ne (humem u hm).2 (hP u (by simpa using (humem u hm).1)).1)
 have r1b := X20 _ _ r1
 have r2b := X20 _ _ r2
 have r3b := X20 _ _ r3
 have Tb : Tape σ20 t c cells (n7 + 1) ep := ⟨X20 _ _ T18.d, X20 _ _ T18.l⟩
 have KOH : Hb t σ σ20 := fun a o ha e => X20 _ _ (KOG a o ha e)
 clear X20 r1 r2 r3 T18 KOG g18 hjG hdjG BG R R2 hf' f'ok hbot' hfil
 wtm_at "pw"
 intro c21 h21
 have X21 := Hx.new (o := .list [.ref pd2, qV q2, .bool st2]) h21
 have r1c := X21 _ _ r1b
 have r2c := X21 _ _ r2b
 have r3c := X21 _ _ r3b
 wtm_at "pw"
 intro c22 h22
 have X22 := X21.trans (Hx.new (o := .list [.ref pd, qV q, .bool st']) h22)
 wtm_at "pw"
 refine cmpP.eq3 (upd_old h22 (upd_same _ _ _)) (upd_same _ _ _) (ne_new h22 (upd_same _ _ _)) (X22 _ _ hpd20) (X22 _ _ r3b) tw1 tw2 tw3 ?_
 wtm_at "pw"
 exact h _ (n7 + 1) ⟨X22 _ _ Tb.d, X22 _ _ Tb.l⟩ (by first | assumption | decide | omega) fun a o ha e => X22 _ _ (KOH a o ha e)
end E11
theorem row_right_ok {X : Wd} {w : World} (hX : IsX X w) (t c pj dj pb pk : Addr) (b : Bk) (ops as ss ds fns fas frs : List V) (es : List (List TK × V)) (cells : List Int) (n ep : Nat) (S : List Int) (kd : Int → Int) (e1 ej : Nat) (σ : Hp) {lv : Nat} (Q : V → Hp → Prop) (T : Tape σ t c cells n ep) (hj : σ pj = some (.inst 778 dj)) (hdj : σ dj = some (.dict [(.str (Str.ofString "bank"), .ref pb)] ej)) (B : BkT σ pb b ops as ss ds es fns fas frs) (hss : ∀ u ∈ S, vidx ss u = some (.int (kd u))) (hpk : σ pk = some (.dict (dE S fun u => .int (kd u)) e1)) (hkd : ∀ u ∈ S, kd u = 1 ∨ kd u = 2) (hS : S.Pairwise (· < ·)) (hl : S.length ≤ 3) (hn : n < 2 ^ 49) (htk : pk ≠ t) (htj : dj ≠ t) (htb : b.dx ≠ t) (h : ∀ (σ' : Hp) (n' : Nat), Tape σ' t c cells n' ep → n' ≤ n + 40 → Hb t σ σ' → Q (.bool true) σ') : CallV X (lv + 9) (.ref 825) [.ref t, .ref pj, .ref pk] σ Q :=
 (epsW_elim E11.zn (S := E11.ZS) E11.zc ⟨X, w, t, c, pj, dj, pb, pk, b, ops, as, ss, ds, fns, fas, frs, es, cells, n, ep, kd, e1, ej, σ, lv, Q⟩) S hX T hj hdj B hss hpk hkd hS hl hn htk htj htb h
noncomputable def usN (k : Nat) : List Int := (List.range k).map fun i => ((3 + i : Nat) : Int)
theorem usN_succ (k : Nat) : usN (k + 1) = usN k ++ [((3 + k : Nat) : Int)] := by
 unfold usN; rw [List.range_succ, List.map_append]; rfl
theorem usN_mem {k : Nat} {u : Int} : u ∈ usN k ↔ ∃ i, i < k ∧ u = ((3 + i : Nat) : Int) := by
 unfold usN
 simp only [List.mem_map, List.mem_range]
 constructor
 · rintro ⟨i, h, rfl⟩; exact ⟨i, h, rfl⟩
 · rintro ⟨i, h, rfl⟩; exact ⟨i, h, rfl⟩
theorem usN_len (k : Nat) : (usN k).length = k := by simp [usN]
theorem usN_sorted : ∀ k, (usN k).Pairwise (· < ·)
 | 0 => by simp [usN]
 | k + 1 => by
   rw [usN_succ, List.pairwise_append]
   refine ⟨usN_sorted k, by simp, fun a ha b hb => ?_⟩
   obtain ⟨i, h, rfl⟩ := usN_mem.mp ha
   rw [List.mem_singleton] at hb
   subst hb; omega
theorem tlook_none {es : List (List TK × V)} {k : List TK} (h : ∀ e ∈ es, e.1 ≠ k) : tlook es k = none := by
 induction es with
 | nil => rfl
 | cons e es ih =>
   obtain ⟨k', x⟩ := e
   unfold tlook
   rw [if_neg (h _ List.mem_cons_self)]
   exact ih fun e he => h e (List.mem_cons_of_mem _ he)
noncomputable def kA (s : Int) (i : Nat) : List TK := [.str (Str.ofString "app"), .nums [], .int s, .int i]
theorem kA_ne {s s' : Int} {i j : Nat} (h : i < j) : kA s i ≠ kA s' j := by
 intro e
 simp only [kA, List.cons.injEq, TK.int.injEq] at e
 first | assumption | decide | omega
theorem kT_ne {s : Int} {i : Nat} : kT ≠ kA s i := by
 intro e
 simp only [kT, kA, List.cons.injEq, TK.str.injEq] at e
 exact absurd e.1 (by decide)
theorem kF_ne {s : Int} {i : Nat} : kF ≠ kA s i := by
 intro e
 simp only [kF, kA, List.cons.injEq, TK.str.injEq] at e
 exact absurd e.1 (by decide)
theorem law_ex {X : Wd} {w : World} (hX : IsX X w) {fdS : FuncData} (hS : SupAt X 583 165 684 684 571 582 fdS (Str.ofString "bv_numbers")) (ps : Addr) (cs : List Int) (hro : X.ro ps = some (.list (cs.map .int))) (hl : cs.length ≤ 63)
   {oc : Value} {od : Option Addr} {osl : Array (Option Value)} {fd : FuncData} {body : List Stmt} (hfd : (hd.heap_39 w.params).lookup 832 = some ⟨oc, od, .func fd, osl⟩) (hb : fd.body = .stmts body) {lv : Nat} :
   Ex X fd.scope (lv + 9) (ofL [(Str.ofString "script", .ref ps)]) (fun _ => none) body (kRet fun v _ => v = .bool true) := by
 have hfd2 : (hd.heap_39 w.params).lookup 832 = some ⟨_, _, .func _, _⟩ := rfl
 have e := hfd.symm.trans hfd2
 injection e with e
 injection e with e1 e2 e3 e4
 injection e3 with e3
 subst e3
 injection hb with hb
 subst hb
 dsimp only
 wtm_at "pw"
 refine Ev.dict ?_ rfl rfl (by simp) (by decide)
 wtm_at "pw"
 wtm_at "pw"
 refine sliceL.take (.inr hro) (by decide) fun c0 h0 => ?_
 wtm_at "pw"
 intro c hc
 wtm_at "pw"
 have hnd : ([(Key.str (Str.ofString "cells"), V.ref c), (Key.str (Str.ofString "spot"), V.int 0)].map (·.1)).Nodup := by
   show ([Key.str (Str.ofString "cells"), Key.str (Str.ofString "spot")] : List Key).Nodup
   decide
 refine ⟨_, rfl, hnd, fun t ep ht => ?_⟩
 wtm_at "pw"
 have hcells : (cs.map V.int).take (Int.toNat 50) = (cs.take 50).map V.int := by rw [List.map_take]; rfl
 rw [hcells] at hc ht ⊢
 have T0 : Tape (upd (upd (upd (fun _ => none) c0 (.list ((cs.take 50).map V.int))) c (.list ((cs.take 50).map V.int))) t (.dict (tapeD c 0) ep)) t c (cs.take 50) 0 ep := ⟨upd_same _ _ _, upd_old ht (upd_same _ _ _)⟩
 change CallV X _ _ _ (upd (upd (upd (fun _ => none) c0 (.list ((cs.take 50).map V.int))) c (.list ((cs.take 50).map V.int))) t (.dict (tapeD c 0) ep)) _
 generalize (upd (upd (upd (fun _ => none) c0 (.list ((cs.take 50).map V.int))) c (.list ((cs.take 50).map V.int))) t (.dict (tapeD c 0) ep)) = σ1 at *
 generalize cs.take 50 = cells at *
 clear hc ht h0 hnd hcells
 refine bank_ok hX hS _ _ fun pb σ2 b B0 hpb hdx hall X2 => ?_
 have T2 : Tape σ2 t c cells 0 ep := ⟨X2 _ _ T0.d, X2 _ _ T0.l⟩
 have ndt : b.dx ≠ t := Ne.symm (ne_new hdx T0.d)
 have nct : c ∉ b.all := fun hm => by have := hall c hm; rw [T0.l] at this; cases this
 have ntt : t ∉ b.all := fun hm => by have := hall t hm; rw [T0.d] at this; cases this
 clear T0 X2 hall hdx hpb
 wtm_at "pw"
 refine Ev.dict0 fun pk ek hk => ?_
 have nkt : pk ≠ t := Ne.symm (ne_new hk T2.d)
 have nkd : pk ≠ b.dx := Ne.symm (ne_new hk B0.idx)
 have nka : pk ∉ b.all := fun hm => by
   have h1 := ne_new hk B0.gto
   have h2 := ne_new hk B0.gta
   have h3 := ne_new hk B0.gts
   have h4 := ne_new hk B0.gtd
   have h5 := ne_new hk B0.gnb
   have h6 := ne_new hk B0.gfn
   have h7 := ne_new hk B0.gfa
   have h8 := ne_new hk B0.gfr
   simp only [Bk.all, List.mem_cons, List.not_mem_nil, or_false] at hm
   rcases hm with rfl | rfl | rfl | rfl | rfl | rfl | rfl | rfl <;> contradiction
 have T3 : Tape (upd σ2 pk (.dict [] ek)) t c cells 0 ep := ⟨upd_old hk T2.d, upd_old hk T2.l⟩
 have B3 : Bk0 (upd σ2 pk (.dict [] ek)) pb b := B0.hx fun a o e _ => upd_old hk e
 have gk3 : (upd σ2 pk (.dict [] ek)) pk = some (.dict (dE (usN 0) fun u => .int ((fun _ => (1 : Int)) u)) ek) := upd_same _ _ _
 generalize (upd σ2 pk (.dict [] ek)) = σ3 at *
 clear T2 B0 hk
 wtm_at "pw"
 refine Ex.for_ (EvI.range (by wtm_at "nm") ?_ rfl rfl)
 wtm_at "pw"
 intro v v0 v3
 wtm_at "pw"
 have T4 : Tape (upd σ3 t (.dict (tapeD c (0 + 1)) ep)) t c cells 1 ep := T3.next
 have B4 : Bk0 (upd σ3 t (.dict (tapeD c (0 + 1)) ep)) pb b := B3.hb T3.d ndt fun a o ha e => (upd_ne _ _ ha).trans e
 have gk4 := (upd_ne σ3 (.dict (tapeD c (0 + 1)) ep) nkt).trans gk3
 generalize (upd σ3 t (.dict (tapeD c (0 + 1)) ep)) = σ4 at *
 clear T3 B3 gk3
 refine ⟨(1 + v).toNat, by congr 1; (clear nka ntt nct hl; omega), by first | assumption | decide | (clear nka ntt nct hl; omega), ?_⟩
 have hN : (1 + v).toNat ≤ 3 := by first | assumption | decide | (clear nka ntt nct hl; omega)
 generalize (1 + v).toNat = N at *
 clear v0 v3
 refine ⟨fun k l σ' => Is11 fun (kd : Int → Int) (ops as ss ds fns fas frs : List V) (es : List (List TK × V)) (n' ek : Nat) => Al11 (Tape σ' t c cells n' ep) (n' ≤ 1 + k) (BkT σ' pb b ops as ss ds es fns fas frs) (σ' pk = some (.dict (dE (usN k) fun u => .int (kd u)) ek)) (ops.length = 3 + k) (fns.length = k) (fas.length = k) (frs.length = k) ((∀ u ∈ usN k, vidx ss u = some (.int (kd u)) ∧ (kd u = 1 ∨ kd u = 2))) ((∀ e ∈ es, e.1 = kT ∨ e.1 = kF ∨ Is2 fun s i => i < k ∧ e.1 = kA s i)) (Has l [(Str.ofString "tape", .ref t), (Str.ofString "bank", .ref pb), (Str.ofString "kinds", .ref pk)]),
   ⟨fun _ => 1, _, _, _, _, _, _, _, _, 1, ek, T4, by first | assumption | decide | omega, B4, gk4, rfl, rfl, rfl, rfl, fun u hu => by simp [usN] at hu, fun e he => by
     simp only [List.mem_cons, List.not_mem_nil, or_false] at he
     rcases he with rfl | rfl
     · exact .inl rfl
     · exact .inr (.inl rfl), by wtm_at "has"⟩, ?_, ?_⟩
 · rintro k l σ5 x ⟨kd, ops, as, ss, ds, fns, fas, frs, es, n5, e5, T5, hn5, B5, gk5, lo, lf, la, lr, hss, hes, hL⟩ hx
   refine ⟨trivial, ?_⟩
   obtain ⟨k', rfl, hk'⟩ := map_get hx
   have hkk : k' = k ∧ k < N := by
     obtain ⟨hlt, e⟩ := List.getElem?_eq_some_iff.mp hk'
     rw [List.getElem_range] at e
     rw [List.length_range] at hlt
     exact ⟨e.symm, hlt⟩
   obtain ⟨rfl, hkN⟩ := hkk
   refine As.has hL ?_
   wtm_at "pw"
   intro c6 h6
   have T6 : Tape (upd σ5 c6 (.list [.int 1, .int 2])) t c cells n5 ep := ⟨upd_old h6 T5.d, upd_old h6 T5.l⟩
   have B6 : BkT (upd σ5 c6 (.list [.int 1, .int 2])) pb b ops as ss ds es fns fas frs := B5.hx fun a o e _ => upd_old h6 e
   have gk6 := upd_old (o := .list [.int 1, .int 2]) h6 gk5
   have g6 := upd_same σ5 c6 (.list [.int 1, .int 2])
   have n6t : c6 ≠ t := Ne.symm (ne_new h6 T5.d)
   generalize (upd σ5 c6 (.list [.int 1, .int 2])) = σ6 at *
   clear T5 B5 gk5 h6
   wtm_at "pw"
   intro v v0 v2
   obtain ⟨kv, hv, hkv⟩ : ∃ kv : Int, vidx [V.int 1, V.int 2] v = some (.int kv) ∧ (kv = 1 ∨ kv = 2) := by
     obtain rfl | rfl : v = 0 ∨ v = 1 := by first | assumption | decide | (clear hkN lr la lf lo hn5 hN nka ntt nct hl; omega)
     · exact ⟨1, rfl, .inl rfl⟩
     · exact ⟨2, rfl, .inr rfl⟩
   wtm_at "pw"
   refine getP.list ((upd_ne _ _ n6t).trans g6) hv ?_
   have T7 : Tape (upd σ6 t (.dict (tapeD c (n5 + 1)) ep)) t c cells (n5 + 1) ep := T6.next
   have B7 : BkT (upd σ6 t (.dict (tapeD c (n5 + 1)) ep)) pb b ops as ss ds es fns fas frs := B6.hb T6.d ndt fun a o ha e => (upd_ne _ _ ha).trans e
   have gk7 := (upd_ne σ6 (.dict (tapeD c (n5 + 1)) ep) nkt).trans gk6
   generalize (upd σ6 t (.dict (tapeD c (n5 + 1)) ep)) = σ7 at *
   clear T6 B6 gk6 g6 hv v0 v2
   have q1 := B7.ip
   have q2 := B7.idx
   have q3 := B7.nfc
   have z1 : fns.length < 1000 := by first | assumption | decide | (clear hkv hn5 nka ntt nct hl; omega)
   have z2 : fas.length < 1000 := by first | assumption | decide | (clear hkv hkN hn5 hN nka ntt nct hl; omega)
   have z3 : frs.length < 1000 := by first | assumption | decide | (clear z2 hkv hkN hn5 hN nka ntt nct hl; omega)
   have z4 : ops.length < 1000 := by first | assumption | decide | (clear z3 z2 hkv hn5 nka ntt nct hl; omega)
   have hnew : tlook es (kA kv fns.length) = none := tlook_none fun e he => by
     rcases hes e he with h | h | ⟨s, i, hi, h⟩
     · rw [h]; exact kT_ne
     · rw [h]; exact kF_ne
     · rw [h]; exact kA_ne (by first | assumption | decide | (clear z4 z3 z2 z1 hkv hkN hn5 hN nka ntt nct hl; omega))
   have hnew' : tlook es [.str (Str.ofString "app"), .nums [], .int kv, .int fns.length] = none := hnew
   wtm_at "pw"
   refine CallV.strI (by first | assumption | decide | (clear z3 z2 hkv hkN hn5 hN nka ntt nct hl; omega)) ?_
   have hs3 : (Str.ofString "u").length + (Str.ofString (toString ((k' : Nat) : Int))).length ≤ sizeLine ∧ (Str.ofString "u").length ≠ 0 ∧ (Str.ofString (toString ((k' : Nat) : Int))).length ≠ 0 := by
     obtain rfl | rfl | rfl : k' = 0 ∨ k' = 1 ∨ k' = 2 := by first | assumption | decide | (clear z3 z2 hkv hn5 nka ntt nct hl; omega)
     · decide +kernel
     · decide +kernel
     · decide +kernel
   refine binI.mk ?_
   refine ⟨hs3, ?_⟩
   wtm_at "pw"
   intro σ8 B8 K8
   have gk8 := K8 _ _ nka gk7
   have T8 : Tape σ8 t c cells (n5 + 1) ep := ⟨K8 _ _ ntt T7.d, K8 _ _ nct T7.l⟩
   have hz : (dE (usN k') fun u => V.int (kd u)).length < lim := by rw [dE_len, usN_len]; simp only [lim]; (clear hs3 z3 z2 hkv hkN hn5 hN nka ntt nct hl; omega)
   wtm_at "pw"
   show Is11 _
   have hu0 : ((3 + k' : Nat) : Int) ∉ usN k' := fun hm => by obtain ⟨i, h1, h2⟩ := usN_mem.mp hm; (clear hz hs3 z4 z3 z2 z1 hkv hkN hn5 hN nka ntt nct hl; omega)
   have hlen : (ops.length : Int) = ((3 + k' : Nat) : Int) := by first | assumption | decide | (clear hu0 hz hs3 z4 z3 z2 z1 hkv hkN lr la lf hn5 hN nka ntt nct hl; omega)
   refine ⟨fun u => if u = ((3 + k' : Nat) : Int) then kv else kd u, _, _, _, _, _, _, _, _, n5 + 1, if (dlook (dE (usN k') fun u => V.int (kd u)) (Key.int (ops.length : Int))).isSome then e5 else e5 + 1, ⟨?_, ?_⟩, by first | assumption | decide | (clear hlen hu0 hz hs3 z4 z3 z2 z1 hkv hkN hN nka ntt nct hl; omega), B8.hx fun a o e ha => ?_, ?_, ?_, ?_, ?_, ?_, ?_, ?_, by wtm_at "has"⟩
   · rw [upd_ne _ _ nkt.symm]; exact T8.d
   · refine (upd_ne _ _ ?_).trans T8.l
     exact Ne.symm (ne_kind gk8 T8.l (by simp))
   · refine (upd_ne _ _ ?_).trans e
     rintro rfl
     rcases ha with ha | ha | ha
     · exact nka ha
     · exact nkd ha
     · subst ha; rw [B8.ip] at gk8; cases gk8
   · refine (upd_same _ _ _).trans ?_
     rw [hlen, dset_dE hu0, usN_succ]
     have : (dE (usN k' ++ [((3 + k' : Nat) : Int)]) fun x => if x = ((3 + k' : Nat) : Int) then V.int kv else .int (kd x)) = dE (usN k' ++ [((3 + k' : Nat) : Int)]) fun u => .int (if u = ((3 + k' : Nat) : Int) then kv else kd u) := dE_congr fun x _ => by split <;> rfl
     rw [this]
   · simp; (clear hlen hu0 hz hs3 z4 z3 z2 z1 hkv hkN lr la lf hn5 hN nka ntt nct hl; omega)
   · simp; (clear hlen hu0 hz hs3 z4 z3 z2 z1 hkv hkN lr la lo hn5 hN nka ntt nct hl; omega)
   · simp; (clear hlen hu0 hz hs3 z4 z3 z2 z1 hkv hkN lr lf lo hn5 hN nka ntt nct hl; omega)
   · simp; (clear hlen hu0 hz hs3 z4 z3 z2 z1 hkv hkN la lf lo hn5 hN nka ntt nct hl; omega)
   · intro u hu
     rw [usN_succ, List.mem_append] at hu
     have hsl : ss.length = ops.length := B7.e2
     rcases hu with hu | hu
     · have hne : u ≠ ((3 + k' : Nat) : Int) := by rintro rfl; exact hu0 hu
       obtain ⟨h1, h2⟩ := hss u hu
       obtain ⟨i, hi, rfl⟩ := usN_mem.mp hu
       simp only [hne, if_false]
       refine ⟨?_, h2⟩
       unfold vidx at h1 ⊢
       rw [if_pos (by first | assumption | decide | (clear h2 hne hi hsl hlen hu0 hz hs3 z4 z3 z2 z1 hkv hkN lr la lf lo hn5 hN nka ntt nct hl; omega))] at h1 ⊢
       rw [List.getElem?_append_left (by first | assumption | decide | (clear h2 hne hlen hu0 hz hs3 z4 z3 z2 z1 hkv hkN hn5 hN nka ntt nct hl; omega))]; exact h1
     · rw [List.mem_singleton] at hu
       subst hu
       simp only [if_true]
       refine ⟨?_, hkv⟩
       unfold vidx
       rw [if_pos (by first | assumption | decide | (clear hlen hu0 hz hs3 z3 z2 hkv hkN hn5 hN nka ntt nct hl; omega)), List.getElem?_append_right (by first | assumption | decide | (clear hlen hu0 hz hs3 z3 z2 hkv hkN hn5 hN nka ntt nct hl; omega))]
       have : ((3 + k' : Nat) : Int).toNat - ss.length = 0 := by first | assumption | decide | (clear hlen hu0 hz hs3 z3 z2 hkv hkN hn5 hN nka ntt nct hl; omega)
       rw [this]; rfl
   · intro e he
     rcases List.mem_append.mp he with he | he
     · rcases hes e he with h | h | ⟨s, i, hi, h⟩
       · exact .inl h
       · exact .inr (.inl h)
       · exact .inr (.inr ⟨s, i, by first | assumption | decide | (clear hlen hu0 hz hs3 z4 z3 z2 z1 hkv hkN hn5 hN nka ntt nct hl; omega), h⟩)
     · rw [List.mem_singleton] at he
       subst he
       exact .inr (.inr ⟨kv, k', by first | assumption | decide | (clear hlen hu0 hz hs3 z4 z3 z2 z1 hkv hkN lr la lf lo hn5 hN nka ntt nct hl; omega), by rw [← lf]; rfl⟩)
 rintro l σ5 ⟨kd, ops, as, ss, ds, fns, fas, frs, es, n5, e5, T5, hn5, B5, gk5, lo, lf, la, lr, hss, hes, hL⟩
 refine ⟨trivial, ?_⟩
 rw [List.length_map, List.length_range] at *
 refine Ex.has hL ?_
 clear hes hL l lo lf la lr T4 B4 gk4
 wtm_at "pw"
 intro pj dj ej σ6 X6 hj hdj _ hdjn
 have T6 : Tape σ6 t c cells n5 ep := ⟨X6 _ _ T5.d, X6 _ _ T5.l⟩
 have B6 : BkT σ6 pb b ops as ss ds es fns fas frs := B5.hx fun a o e _ => X6 _ _ e
 have gk6 := X6 _ _ gk5
 have njt : dj ≠ t := Ne.symm (ne_new hdjn T5.d)
 clear T5 B5 gk5 X6 hdjn
 wtm_at "pw"
 refine Ex.for_ (EvI.range (by wtm_at "nm") ?_ rfl rfl)
 wtm_at "pw"
 intro v v0 v3
 wtm_at "pw"
 have T7 : Tape (upd σ6 t (.dict (tapeD c (n5 + 1)) ep)) t c cells (n5 + 1) ep := T6.next
 have K7 : Hb t σ6 (upd σ6 t (.dict (tapeD c (n5 + 1)) ep)) := fun a o ha e => (upd_ne _ _ ha).trans e
 have njt' : pj ≠ t := ne_kind hj T6.d (by simp)
 have B7 := B6.hb T6.d ndt K7
 have gk7 := K7 _ _ nkt gk6
 have hj7 := K7 _ _ njt' hj
 have hdj7 := K7 _ _ njt hdj
 generalize (upd σ6 t (.dict (tapeD c (n5 + 1)) ep)) = σ7 at *
 clear T6 B6 gk6 hj hdj K7
 refine ⟨(1 + v).toNat, by congr 1; (clear hn5 hN nka ntt nct hl; omega), by first | assumption | decide | (clear hn5 hN nka ntt nct hl; omega), ?_⟩
 have hM : (1 + v).toNat ≤ 3 := by first | assumption | decide | (clear hn5 hN nka ntt nct hl; omega)
 generalize (1 + v).toNat = M at *
 clear v0 v3
 refine ⟨fun k l σ' => ∃ n' : Nat, Al4 (Tape σ' t c cells n' ep) (n' ≤ 10 + 40 * k) (Hb t σ7 σ') (Has l [(Str.ofString "tape", .ref t), (Str.ofString "kinds", .ref pk), (Str.ofString "judge", .ref pj)]), ⟨n5 + 1, T7, by first | assumption | decide | (clear hM nka ntt nct hl; omega), fun a o _ e => e, by wtm_at "has"⟩, ?_, ?_⟩
 · rintro k l σ8 x ⟨n8, T8, hn8, K8, hL⟩ hx
   refine ⟨trivial, ?_⟩
   obtain ⟨k', rfl, hk'⟩ := map_get hx
   have hkM : k < M := by
     have := (List.getElem?_eq_some_iff.mp hk').1
     rwa [List.length_range] at this
   have B8 := B7.hb T7.d ndt K8
   have gk8 := K8 _ _ nkt gk7
   have hj8 := K8 _ _ njt' hj7
   have hdj8 := K8 _ _ njt hdj7
   refine As.has hL ?_
   wtm_at "pw"
   refine row_right_ok hX t c pj dj pb pk b ops as ss ds fns fas frs es cells n8 ep (usN N) kd e5 ej _ _ T8 hj8 hdj8 B8 (fun u hu => (hss u hu).1) gk8 (fun u hu => (hss u hu).2) (usN_sorted N) (by rw [usN_len]; exact hN) (by first | assumption | decide | (clear hn5 hN nka ntt nct hl; omega)) nkt njt ndt fun σ9 n9 T9 hn9 K9 => ?_
   wtm_at "pw"
   exact ⟨n9, T9, by first | assumption | decide | (clear hkM hM hn5 hN nka ntt nct hl; omega), fun a o ha e => K9 a o ha (K8 a o ha e), by wtm_at "has"⟩
 · rintro l σ8 ⟨n8, T8, hn8, K8, hL⟩
   refine ⟨trivial, ?_⟩
   refine Ex.has hL ?_
   wtm_at "pw"
   all_goals exact rfl
end Mine.Internal
namespace Mine.Internal
open PySem PySem.W PySem.Calls PyProof.Rows PySem.SeqAt
theorem sup04 {X : Wd} {w : World} (hX : IsX X w) (hp : X.prog = PySem.Challenge.rw_qz0031_04.row.prog) : ∃ fd, SupAt X 583 165 684 684 571 582 fd (Str.ofString "bv_numbers") := by
 refine ⟨_, ⟨_, _, _, by rw [hX.hK]; exact rfl⟩, rfl, ⟨_, rfl⟩, rfl, rfl, rfl, rfl, rfl, rfl, rfl, by decide, rfl, rfl, rfl, ⟨_, _, _, _, _, _, _, _, _, rfl, rfl⟩, rfl, ?_, ?_, ?_, ?_, ?_, ?_, ?_, ?_, ?_, ?_, ?_, ?_⟩
 · rw [hX.hK]; rfl
 · refine ⟨_, _, _, _, _, _, by rw [hX.hK]; exact rfl, rfl, ?_⟩
   rw [hp]; rfl
 · rw [hp]; rfl
 · exact ⟨_, _, _, by rw [hX.hK]; exact rfl⟩
 · rw [hX.hK]; exact ⟨_, rfl⟩
 · rw [hX.hK]; kernel_rfl
 · rw [hX.hK]; kernel_rfl
 · rw [hX.hK]; kernel_rfl
 · rw [hX.hK]; kernel_rfl
 · exact ⟨_, _, _, _, by rw [hX.hK]; exact rfl⟩
 · rw [hX.hG]; rfl
 · rw [hX.hK]; exact ⟨by kernel_rfl, by kernel_rfl, by kernel_rfl, by kernel_rfl⟩
end Mine.Internal
namespace Mine.Internal
open PySem PySem.W PySem.Calls PyProof.Rows PySem.SeqAt
noncomputable def wd04 (w : World) (s₁ : Shared) (ls : Addr) (cs : List Int) : Wd := ⟨PySem.Challenge.rw_qz0031_04.row.prog, w, s₁.heap, s₁.os, fun x => gtab.lookup x, fun a => if a = ls then some (.list (cs.map .int)) else none, hd.heap_39 w.params⟩
theorem wd04_good {w : World} {s₁ : Shared} {ls : Addr} {cs : List Int} {vals : List Value} {loose : List Str} {mean : ExcName → Option Value} {mg mb : Str → Option Value} (T : Top hd.view_39 loose mean mg mb s₁.heap) (KX : (hd.heap_39 w.params).In s₁.heap)
   (hL : s₁.heap.IsList ls vals.toArray) (hI : IntsAre vals cs) (hl : cs.length ≤ 63) : (wd04 w s₁ ls cs).Good := by
 refine ⟨⟨sys_of T (by decide +kernel), T.nolimit, ⟨mg, mb, T.g, T.b, glob_of T (KX mainGlobals _ rfl) rfl (by kernel_rfl)⟩, fun a xs e => ?_, rfl⟩, KX⟩
 have e : (if a = ls then some (O.list (cs.map V.int)) else none) = some (.list xs) := e
 by_cases ha : a = ls
 · rw [if_pos ha] at e
   injection e with e
   injection e with e
   subst e
   subst ha
   exact ⟨by rw [List.length_map]; simp only [lim]; omega, _, hL, RVs_of_ints hI⟩
 · rw [if_neg ha] at e; cases e
end Mine.Internal
open PySem PySem.W PyProof.Rows Mine.Internal
theorem PySem.Challenge.cw_qz0031_04_holds : PySem.Challenge.rw_qz0031_04.Holds := by
 w_on
 refine holds_law said04 fun said => ?_
 refine holds_open (q := hd.view_39) (loose := hd.loose) (Xt := hd.Xt) (XP := XL hd.view_39 []) (Yf := Hook.obs hd.H) (Ya := Hook.val hd.H) (YP := Hook.says hd.H) hd.left (Hook.of hd.H) (Hook.keeps hd.H) (fun s e => xl_of s (Bool.and_eq_true_iff.mp e).1) XL.keeps (by rfl) (by rfl) (by rfl) (fun s e => recFacts_of (Bool.and_eq_true_iff.mp e).2) (by rfl) (by assumption) (by decide +kernel) ⟨rfl, rfl, rfl, rfl, rfl, by decide +kernel⟩ ?hw ?hc
 case hw => w_witness2
 case hc =>
   generalize hd.loose = lz
   intro w s₀ s₁ mg mb G Y fa o pm cd doc dV kV ho hdd hcd hD hmg hg args vals as hpre hlay hrd hwl hlo
   have KX : (hd.heap_39 w.params).In s₁.heap := kIn_of Y
   k_behind G ho hdd hcd hD hmg hpre hlay hrd hwl hlo cd
   rename_i X V T B TE TW w9 w8 M w7 w6 cs hs hlay0 hL1 hr1 hl2 w4 w3 ls vals w0 hL ra w1 r0 hI hr hcond hcond2 K0 h₁ F N0
   have hl : cs.length ≤ 63 := by omega
   obtain ⟨fdS, hS⟩ := sup04 (X := wd04 w s₁ ls cs) (w := w) ⟨rfl, rfl⟩ rfl
   have hx := law_ex (X := wd04 w s₁ ls cs) (w := w) ⟨rfl, rfl⟩ hS ls cs (if_pos rfl) hl (rfl : (hd.heap_39 w.params).lookup 832 = some ⟨_, _, .func _, _⟩) rfl (lv := 0)
   refine join_ex (X := wd04 w s₁ ls cs) (wd04_good T KX hL hI hl) rfl rfl (lv := 0 + 9) (by decide) hx hg F rfl rfl rfl (fun x hc => ?_) rfl rfl fun s' m' F' h1 h2 => goodW_bool F' h1 (fun _ => rfl) (by kc_post) h2
   have := List.all_eq_true.mp (show (_ : List (Str × NameKind)).all (fun p => p.2 != .cell) = true from ?_) _ (mem_of_lookup' hc)
   · simp at this
   · rfl
