import PyProof.Rows.All
import KE.GnPush
import KE.KAnyBase
import KE.KCellOne
import KE.KBoundM
import KE.KTreeN
import KE.KxIndex
import KE.KCat
import KE.KCompFold
import KE.KLcTest
import KE.KDeep
import KE.KDictAnyGet
import KE.KDictAnyTail
import KE.KDictSum
import KE.KDictNew
import KE.KDictObj
import KE.KDictOf
import KE.KEqDat
import KE.KTurns
import KE.KLcPair
import KE.KRangeStep
import KE.KSetAt
import KE.KSortAsk
import KE.KSuper
import KE.KTreeO
import KE.KWhile
import KE.RegKLenAny
import KE.RegKSuper
import OpenK.KApp
import Lean
import PySem.Challenge.RW_qz0025_01
open PySem PySem.W PyProof.Rows
set_option Elab.async false
set_option maxRecDepth 100000
set_option rowWalk.seconds 0
set_option compiler.extract_closed false
set_option linter.all false
namespace Mine.Internal
section
local macro_rules | `(tactic| o_head $_) => `(tactic| skip)
set_option maxRecDepth 100000 in
set_option maxHeartbeats 8000000 in
theorem k0 (h : PySem.Challenge.rw_qz0025_01.row.Holds) : PySem.Challenge.rw_qz0025_01.row.Holds := by
  k_head
  exact h
end
noncomputable def P0 : PySem.Params := { strHash := fun _ => 0,shareClass := fun _ => 0,mergeTok := fun t => t,idOf := fun _ => 0,idOfShared := fun _ _ => 0,followText := fun _ => false,idOfImm := fun _ => 0 }
noncomputable def AS : List Addr := (k0.heap_1 P0).map (·.1)
noncomputable def kept : List Nat := [0,2,3,4,6,7,8,9,10,11,12,13,14,15,16,17,19,20,21,22,23,24,25,26,27,29,30,31,32,33,34,35,36,37,38,39,40,41,42,44,45,46,47,48,49,50,51,52,53,54,55]
noncomputable def vw : Program := view PySem.Challenge.rw_qz0025_01.row.toRowW.prog kept
noncomputable def Bx (p : Prop) : Prop := p
theorem bx {p : Prop} (h : Bx p) : p := h
theorem bx_eq {p : Prop} (h : p) : Bx p = True := eq_true h
noncomputable def LO : List PySem.Str := [Str.ofString "MOST_BITS"]
theorem x0_2 {p0 p1 : Prop} {G : Prop} (h : p0 ∧ p1) (f : p0 → p1 → G) : G := by
  obtain ⟨h0,h1⟩ := h
  exact f h0 h1
theorem x0_3 {p0 p1 p2 : Prop} {G : Prop} (h : p0 ∧ p1 ∧ p2) (f : p0 → p1 → p2 → G) : G := by
  obtain ⟨h0,h1,h2⟩ := h
  exact f h0 h1 h2
theorem x0_4 {p0 p1 p2 p3 : Prop} {G : Prop} (h : p0 ∧ p1 ∧ p2 ∧ p3) (f : p0 → p1 → p2 → p3 → G) : G := by
  obtain ⟨h0,h1,h2,h3⟩ := h
  exact f h0 h1 h2 h3
theorem x0_5 {p0 p1 p2 p3 p4 : Prop} {G : Prop} (h : p0 ∧ p1 ∧ p2 ∧ p3 ∧ p4) (f : p0 → p1 → p2 → p3 → p4 → G) : G := by
  obtain ⟨h0,h1,h2,h3,h4⟩ := h
  exact f h0 h1 h2 h3 h4
theorem x0_6 {p0 p1 p2 p3 p4 p5 : Prop} {G : Prop} (h : p0 ∧ p1 ∧ p2 ∧ p3 ∧ p4 ∧ p5) (f : p0 → p1 → p2 → p3 → p4 → p5 → G) : G := by
  obtain ⟨h0,h1,h2,h3,h4,h5⟩ := h
  exact f h0 h1 h2 h3 h4 h5
theorem x0_7 {p0 p1 p2 p3 p4 p5 p6 : Prop} {G : Prop} (h : p0 ∧ p1 ∧ p2 ∧ p3 ∧ p4 ∧ p5 ∧ p6) (f : p0 → p1 → p2 → p3 → p4 → p5 → p6 → G) : G := by
  obtain ⟨h0,h1,h2,h3,h4,h5,h6⟩ := h
  exact f h0 h1 h2 h3 h4 h5 h6
theorem x0_8 {p0 p1 p2 p3 p4 p5 p6 p7 : Prop} {G : Prop} (h : p0 ∧ p1 ∧ p2 ∧ p3 ∧ p4 ∧ p5 ∧ p6 ∧ p7) (f : p0 → p1 → p2 → p3 → p4 → p5 → p6 → p7 → G) : G := by
  obtain ⟨h0,h1,h2,h3,h4,h5,h6,h7⟩ := h
  exact f h0 h1 h2 h3 h4 h5 h6 h7
theorem x0_9 {p0 p1 p2 p3 p4 p5 p6 p7 p8 : Prop} {G : Prop} (h : p0 ∧ p1 ∧ p2 ∧ p3 ∧ p4 ∧ p5 ∧ p6 ∧ p7 ∧ p8) (f : p0 → p1 → p2 → p3 → p4 → p5 → p6 → p7 → p8 → G) : G := by
  obtain ⟨h0,h1,h2,h3,h4,h5,h6,h7,h8⟩ := h
  exact f h0 h1 h2 h3 h4 h5 h6 h7 h8
theorem x0_10 {p0 p1 p2 p3 p4 p5 p6 p7 p8 p9 : Prop} {G : Prop} (h : p0 ∧ p1 ∧ p2 ∧ p3 ∧ p4 ∧ p5 ∧ p6 ∧ p7 ∧ p8 ∧ p9) (f : p0 → p1 → p2 → p3 → p4 → p5 → p6 → p7 → p8 → p9 → G) : G := by
  obtain ⟨h0,h1,h2,h3,h4,h5,h6,h7,h8,h9⟩ := h
  exact f h0 h1 h2 h3 h4 h5 h6 h7 h8 h9
theorem x0_13 {p0 p1 p2 p3 p4 p5 p6 p7 p8 p9 p10 p11 p12 : Prop} {G : Prop} (h : p0 ∧ p1 ∧ p2 ∧ p3 ∧ p4 ∧ p5 ∧ p6 ∧ p7 ∧ p8 ∧ p9 ∧ p10 ∧ p11 ∧ p12) (f : p0 → p1 → p2 → p3 → p4 → p5 → p6 → p7 → p8 → p9 → p10 → p11 → p12 → G) : G := by
  obtain ⟨h0,h1,h2,h3,h4,h5,h6,h7,h8,h9,h10,h11,h12⟩ := h
  exact f h0 h1 h2 h3 h4 h5 h6 h7 h8 h9 h10 h11 h12
theorem x1_1 {α0 : Type} {p0 : α0 → Prop} {G : Prop} (h : ∃ a0,p0 a0) (f : ∀ a0,p0 a0 → G) : G := by
  obtain ⟨a0,h0⟩ := h
  exact f a0 h0
theorem x1_2 {α0 : Type} {p0 p1 : α0 → Prop} {G : Prop} (h : ∃ a0,p0 a0 ∧ p1 a0) (f : ∀ a0,p0 a0 → p1 a0 → G) : G := by
  obtain ⟨a0,h0,h1⟩ := h
  exact f a0 h0 h1
theorem x1_3 {α0 : Type} {p0 p1 p2 : α0 → Prop} {G : Prop} (h : ∃ a0,p0 a0 ∧ p1 a0 ∧ p2 a0) (f : ∀ a0,p0 a0 → p1 a0 → p2 a0 → G) : G := by
  obtain ⟨a0,h0,h1,h2⟩ := h
  exact f a0 h0 h1 h2
theorem x1_4 {α0 : Type} {p0 p1 p2 p3 : α0 → Prop} {G : Prop} (h : ∃ a0,p0 a0 ∧ p1 a0 ∧ p2 a0 ∧ p3 a0) (f : ∀ a0,p0 a0 → p1 a0 → p2 a0 → p3 a0 → G) : G := by
  obtain ⟨a0,h0,h1,h2,h3⟩ := h
  exact f a0 h0 h1 h2 h3
theorem x1_5 {α0 : Type} {p0 p1 p2 p3 p4 : α0 → Prop} {G : Prop} (h : ∃ a0,p0 a0 ∧ p1 a0 ∧ p2 a0 ∧ p3 a0 ∧ p4 a0) (f : ∀ a0,p0 a0 → p1 a0 → p2 a0 → p3 a0 → p4 a0 → G) : G := by
  obtain ⟨a0,h0,h1,h2,h3,h4⟩ := h
  exact f a0 h0 h1 h2 h3 h4
theorem x1_6 {α0 : Type} {p0 p1 p2 p3 p4 p5 : α0 → Prop} {G : Prop} (h : ∃ a0,p0 a0 ∧ p1 a0 ∧ p2 a0 ∧ p3 a0 ∧ p4 a0 ∧ p5 a0) (f : ∀ a0,p0 a0 → p1 a0 → p2 a0 → p3 a0 → p4 a0 → p5 a0 → G) : G := by
  obtain ⟨a0,h0,h1,h2,h3,h4,h5⟩ := h
  exact f a0 h0 h1 h2 h3 h4 h5
theorem x2_1 {α0 α1 : Type} {p0 : α0 → α1 → Prop} {G : Prop} (h : ∃ a0 a1,p0 a0 a1) (f : ∀ a0 a1,p0 a0 a1 → G) : G := by
  obtain ⟨a0,a1,h0⟩ := h
  exact f a0 a1 h0
theorem x2_2 {α0 α1 : Type} {p0 p1 : α0 → α1 → Prop} {G : Prop} (h : ∃ a0 a1,p0 a0 a1 ∧ p1 a0 a1) (f : ∀ a0 a1,p0 a0 a1 → p1 a0 a1 → G) : G := by
  obtain ⟨a0,a1,h0,h1⟩ := h
  exact f a0 a1 h0 h1
theorem x2_3 {α0 α1 : Type} {p0 p1 p2 : α0 → α1 → Prop} {G : Prop} (h : ∃ a0 a1,p0 a0 a1 ∧ p1 a0 a1 ∧ p2 a0 a1) (f : ∀ a0 a1,p0 a0 a1 → p1 a0 a1 → p2 a0 a1 → G) : G := by
  obtain ⟨a0,a1,h0,h1,h2⟩ := h
  exact f a0 a1 h0 h1 h2
theorem x2_4 {α0 α1 : Type} {p0 p1 p2 p3 : α0 → α1 → Prop} {G : Prop} (h : ∃ a0 a1,p0 a0 a1 ∧ p1 a0 a1 ∧ p2 a0 a1 ∧ p3 a0 a1) (f : ∀ a0 a1,p0 a0 a1 → p1 a0 a1 → p2 a0 a1 → p3 a0 a1 → G) : G := by
  obtain ⟨a0,a1,h0,h1,h2,h3⟩ := h
  exact f a0 a1 h0 h1 h2 h3
theorem x2_5 {α0 α1 : Type} {p0 p1 p2 p3 p4 : α0 → α1 → Prop} {G : Prop} (h : ∃ a0 a1,p0 a0 a1 ∧ p1 a0 a1 ∧ p2 a0 a1 ∧ p3 a0 a1 ∧ p4 a0 a1) (f : ∀ a0 a1,p0 a0 a1 → p1 a0 a1 → p2 a0 a1 → p3 a0 a1 → p4 a0 a1 → G) : G := by
  obtain ⟨a0,a1,h0,h1,h2,h3,h4⟩ := h
  exact f a0 a1 h0 h1 h2 h3 h4
theorem x2_6 {α0 α1 : Type} {p0 p1 p2 p3 p4 p5 : α0 → α1 → Prop} {G : Prop} (h : ∃ a0 a1,p0 a0 a1 ∧ p1 a0 a1 ∧ p2 a0 a1 ∧ p3 a0 a1 ∧ p4 a0 a1 ∧ p5 a0 a1) (f : ∀ a0 a1,p0 a0 a1 → p1 a0 a1 → p2 a0 a1 → p3 a0 a1 → p4 a0 a1 → p5 a0 a1 → G) : G := by
  obtain ⟨a0,a1,h0,h1,h2,h3,h4,h5⟩ := h
  exact f a0 a1 h0 h1 h2 h3 h4 h5
theorem x2_11 {α0 α1 : Type} {p0 p1 p2 p3 p4 p5 p6 p7 p8 p9 p10 : α0 → α1 → Prop} {G : Prop} (h : ∃ a0 a1,p0 a0 a1 ∧ p1 a0 a1 ∧ p2 a0 a1 ∧ p3 a0 a1 ∧ p4 a0 a1 ∧ p5 a0 a1 ∧ p6 a0 a1 ∧ p7 a0 a1 ∧ p8 a0 a1 ∧ p9 a0 a1 ∧ p10 a0 a1) (f : ∀ a0 a1,p0 a0 a1 → p1 a0 a1 → p2 a0 a1 → p3 a0 a1 → p4 a0 a1 → p5 a0 a1 → p6 a0 a1 → p7 a0 a1 → p8 a0 a1 → p9 a0 a1 → p10 a0 a1 → G) : G := by
  obtain ⟨a0,a1,h0,h1,h2,h3,h4,h5,h6,h7,h8,h9,h10⟩ := h
  exact f a0 a1 h0 h1 h2 h3 h4 h5 h6 h7 h8 h9 h10
theorem x3_1 {α0 α1 α2 : Type} {p0 : α0 → α1 → α2 → Prop} {G : Prop} (h : ∃ a0 a1 a2,p0 a0 a1 a2) (f : ∀ a0 a1 a2,p0 a0 a1 a2 → G) : G := by
  obtain ⟨a0,a1,a2,h0⟩ := h
  exact f a0 a1 a2 h0
theorem x3_2 {α0 α1 α2 : Type} {p0 p1 : α0 → α1 → α2 → Prop} {G : Prop} (h : ∃ a0 a1 a2,p0 a0 a1 a2 ∧ p1 a0 a1 a2) (f : ∀ a0 a1 a2,p0 a0 a1 a2 → p1 a0 a1 a2 → G) : G := by
  obtain ⟨a0,a1,a2,h0,h1⟩ := h
  exact f a0 a1 a2 h0 h1
theorem x3_3 {α0 α1 α2 : Type} {p0 p1 p2 : α0 → α1 → α2 → Prop} {G : Prop} (h : ∃ a0 a1 a2,p0 a0 a1 a2 ∧ p1 a0 a1 a2 ∧ p2 a0 a1 a2) (f : ∀ a0 a1 a2,p0 a0 a1 a2 → p1 a0 a1 a2 → p2 a0 a1 a2 → G) : G := by
  obtain ⟨a0,a1,a2,h0,h1,h2⟩ := h
  exact f a0 a1 a2 h0 h1 h2
theorem x3_4 {α0 α1 α2 : Type} {p0 p1 p2 p3 : α0 → α1 → α2 → Prop} {G : Prop} (h : ∃ a0 a1 a2,p0 a0 a1 a2 ∧ p1 a0 a1 a2 ∧ p2 a0 a1 a2 ∧ p3 a0 a1 a2) (f : ∀ a0 a1 a2,p0 a0 a1 a2 → p1 a0 a1 a2 → p2 a0 a1 a2 → p3 a0 a1 a2 → G) : G := by
  obtain ⟨a0,a1,a2,h0,h1,h2,h3⟩ := h
  exact f a0 a1 a2 h0 h1 h2 h3
theorem x3_5 {α0 α1 α2 : Type} {p0 p1 p2 p3 p4 : α0 → α1 → α2 → Prop} {G : Prop} (h : ∃ a0 a1 a2,p0 a0 a1 a2 ∧ p1 a0 a1 a2 ∧ p2 a0 a1 a2 ∧ p3 a0 a1 a2 ∧ p4 a0 a1 a2) (f : ∀ a0 a1 a2,p0 a0 a1 a2 → p1 a0 a1 a2 → p2 a0 a1 a2 → p3 a0 a1 a2 → p4 a0 a1 a2 → G) : G := by
  obtain ⟨a0,a1,a2,h0,h1,h2,h3,h4⟩ := h
  exact f a0 a1 a2 h0 h1 h2 h3 h4
theorem x3_6 {α0 α1 α2 : Type} {p0 p1 p2 p3 p4 p5 : α0 → α1 → α2 → Prop} {G : Prop} (h : ∃ a0 a1 a2,p0 a0 a1 a2 ∧ p1 a0 a1 a2 ∧ p2 a0 a1 a2 ∧ p3 a0 a1 a2 ∧ p4 a0 a1 a2 ∧ p5 a0 a1 a2) (f : ∀ a0 a1 a2,p0 a0 a1 a2 → p1 a0 a1 a2 → p2 a0 a1 a2 → p3 a0 a1 a2 → p4 a0 a1 a2 → p5 a0 a1 a2 → G) : G := by
  obtain ⟨a0,a1,a2,h0,h1,h2,h3,h4,h5⟩ := h
  exact f a0 a1 a2 h0 h1 h2 h3 h4 h5
theorem x3_7 {α0 α1 α2 : Type} {p0 p1 p2 p3 p4 p5 p6 : α0 → α1 → α2 → Prop} {G : Prop} (h : ∃ a0 a1 a2,p0 a0 a1 a2 ∧ p1 a0 a1 a2 ∧ p2 a0 a1 a2 ∧ p3 a0 a1 a2 ∧ p4 a0 a1 a2 ∧ p5 a0 a1 a2 ∧ p6 a0 a1 a2) (f : ∀ a0 a1 a2,p0 a0 a1 a2 → p1 a0 a1 a2 → p2 a0 a1 a2 → p3 a0 a1 a2 → p4 a0 a1 a2 → p5 a0 a1 a2 → p6 a0 a1 a2 → G) : G := by
  obtain ⟨a0,a1,a2,h0,h1,h2,h3,h4,h5,h6⟩ := h
  exact f a0 a1 a2 h0 h1 h2 h3 h4 h5 h6
theorem x4_3 {α0 α1 α2 α3 : Type} {p0 p1 p2 : α0 → α1 → α2 → α3 → Prop} {G : Prop} (h : ∃ a0 a1 a2 a3,p0 a0 a1 a2 a3 ∧ p1 a0 a1 a2 a3 ∧ p2 a0 a1 a2 a3) (f : ∀ a0 a1 a2 a3,p0 a0 a1 a2 a3 → p1 a0 a1 a2 a3 → p2 a0 a1 a2 a3 → G) : G := by
  obtain ⟨a0,a1,a2,a3,h0,h1,h2⟩ := h
  exact f a0 a1 a2 a3 h0 h1 h2
theorem x4_5 {α0 α1 α2 α3 : Type} {p0 p1 p2 p3 p4 : α0 → α1 → α2 → α3 → Prop} {G : Prop} (h : ∃ a0 a1 a2 a3,p0 a0 a1 a2 a3 ∧ p1 a0 a1 a2 a3 ∧ p2 a0 a1 a2 a3 ∧ p3 a0 a1 a2 a3 ∧ p4 a0 a1 a2 a3) (f : ∀ a0 a1 a2 a3,p0 a0 a1 a2 a3 → p1 a0 a1 a2 a3 → p2 a0 a1 a2 a3 → p3 a0 a1 a2 a3 → p4 a0 a1 a2 a3 → G) : G := by
  obtain ⟨a0,a1,a2,a3,h0,h1,h2,h3,h4⟩ := h
  exact f a0 a1 a2 a3 h0 h1 h2 h3 h4
theorem x4_6 {α0 α1 α2 α3 : Type} {p0 p1 p2 p3 p4 p5 : α0 → α1 → α2 → α3 → Prop} {G : Prop} (h : ∃ a0 a1 a2 a3,p0 a0 a1 a2 a3 ∧ p1 a0 a1 a2 a3 ∧ p2 a0 a1 a2 a3 ∧ p3 a0 a1 a2 a3 ∧ p4 a0 a1 a2 a3 ∧ p5 a0 a1 a2 a3) (f : ∀ a0 a1 a2 a3,p0 a0 a1 a2 a3 → p1 a0 a1 a2 a3 → p2 a0 a1 a2 a3 → p3 a0 a1 a2 a3 → p4 a0 a1 a2 a3 → p5 a0 a1 a2 a3 → G) : G := by
  obtain ⟨a0,a1,a2,a3,h0,h1,h2,h3,h4,h5⟩ := h
  exact f a0 a1 a2 a3 h0 h1 h2 h3 h4 h5
theorem x4_8 {α0 α1 α2 α3 : Type} {p0 p1 p2 p3 p4 p5 p6 p7 : α0 → α1 → α2 → α3 → Prop} {G : Prop} (h : ∃ a0 a1 a2 a3,p0 a0 a1 a2 a3 ∧ p1 a0 a1 a2 a3 ∧ p2 a0 a1 a2 a3 ∧ p3 a0 a1 a2 a3 ∧ p4 a0 a1 a2 a3 ∧ p5 a0 a1 a2 a3 ∧ p6 a0 a1 a2 a3 ∧ p7 a0 a1 a2 a3) (f : ∀ a0 a1 a2 a3,p0 a0 a1 a2 a3 → p1 a0 a1 a2 a3 → p2 a0 a1 a2 a3 → p3 a0 a1 a2 a3 → p4 a0 a1 a2 a3 → p5 a0 a1 a2 a3 → p6 a0 a1 a2 a3 → p7 a0 a1 a2 a3 → G) : G := by
  obtain ⟨a0,a1,a2,a3,h0,h1,h2,h3,h4,h5,h6,h7⟩ := h
  exact f a0 a1 a2 a3 h0 h1 h2 h3 h4 h5 h6 h7
theorem x5_3 {α0 α1 α2 α3 α4 : Type} {p0 p1 p2 : α0 → α1 → α2 → α3 → α4 → Prop} {G : Prop} (h : ∃ a0 a1 a2 a3 a4,p0 a0 a1 a2 a3 a4 ∧ p1 a0 a1 a2 a3 a4 ∧ p2 a0 a1 a2 a3 a4) (f : ∀ a0 a1 a2 a3 a4,p0 a0 a1 a2 a3 a4 → p1 a0 a1 a2 a3 a4 → p2 a0 a1 a2 a3 a4 → G) : G := by
  obtain ⟨a0,a1,a2,a3,a4,h0,h1,h2⟩ := h
  exact f a0 a1 a2 a3 a4 h0 h1 h2
theorem x5_4 {α0 α1 α2 α3 α4 : Type} {p0 p1 p2 p3 : α0 → α1 → α2 → α3 → α4 → Prop} {G : Prop} (h : ∃ a0 a1 a2 a3 a4,p0 a0 a1 a2 a3 a4 ∧ p1 a0 a1 a2 a3 a4 ∧ p2 a0 a1 a2 a3 a4 ∧ p3 a0 a1 a2 a3 a4) (f : ∀ a0 a1 a2 a3 a4,p0 a0 a1 a2 a3 a4 → p1 a0 a1 a2 a3 a4 → p2 a0 a1 a2 a3 a4 → p3 a0 a1 a2 a3 a4 → G) : G := by
  obtain ⟨a0,a1,a2,a3,a4,h0,h1,h2,h3⟩ := h
  exact f a0 a1 a2 a3 a4 h0 h1 h2 h3
theorem x5_5 {α0 α1 α2 α3 α4 : Type} {p0 p1 p2 p3 p4 : α0 → α1 → α2 → α3 → α4 → Prop} {G : Prop} (h : ∃ a0 a1 a2 a3 a4,p0 a0 a1 a2 a3 a4 ∧ p1 a0 a1 a2 a3 a4 ∧ p2 a0 a1 a2 a3 a4 ∧ p3 a0 a1 a2 a3 a4 ∧ p4 a0 a1 a2 a3 a4) (f : ∀ a0 a1 a2 a3 a4,p0 a0 a1 a2 a3 a4 → p1 a0 a1 a2 a3 a4 → p2 a0 a1 a2 a3 a4 → p3 a0 a1 a2 a3 a4 → p4 a0 a1 a2 a3 a4 → G) : G := by
  obtain ⟨a0,a1,a2,a3,a4,h0,h1,h2,h3,h4⟩ := h
  exact f a0 a1 a2 a3 a4 h0 h1 h2 h3 h4
theorem x5_7 {α0 α1 α2 α3 α4 : Type} {p0 p1 p2 p3 p4 p5 p6 : α0 → α1 → α2 → α3 → α4 → Prop} {G : Prop} (h : ∃ a0 a1 a2 a3 a4,p0 a0 a1 a2 a3 a4 ∧ p1 a0 a1 a2 a3 a4 ∧ p2 a0 a1 a2 a3 a4 ∧ p3 a0 a1 a2 a3 a4 ∧ p4 a0 a1 a2 a3 a4 ∧ p5 a0 a1 a2 a3 a4 ∧ p6 a0 a1 a2 a3 a4) (f : ∀ a0 a1 a2 a3 a4,p0 a0 a1 a2 a3 a4 → p1 a0 a1 a2 a3 a4 → p2 a0 a1 a2 a3 a4 → p3 a0 a1 a2 a3 a4 → p4 a0 a1 a2 a3 a4 → p5 a0 a1 a2 a3 a4 → p6 a0 a1 a2 a3 a4 → G) : G := by
  obtain ⟨a0,a1,a2,a3,a4,h0,h1,h2,h3,h4,h5,h6⟩ := h
  exact f a0 a1 a2 a3 a4 h0 h1 h2 h3 h4 h5 h6
theorem x5_9 {α0 α1 α2 α3 α4 : Type} {p0 p1 p2 p3 p4 p5 p6 p7 p8 : α0 → α1 → α2 → α3 → α4 → Prop} {G : Prop} (h : ∃ a0 a1 a2 a3 a4,p0 a0 a1 a2 a3 a4 ∧ p1 a0 a1 a2 a3 a4 ∧ p2 a0 a1 a2 a3 a4 ∧ p3 a0 a1 a2 a3 a4 ∧ p4 a0 a1 a2 a3 a4 ∧ p5 a0 a1 a2 a3 a4 ∧ p6 a0 a1 a2 a3 a4 ∧ p7 a0 a1 a2 a3 a4 ∧ p8 a0 a1 a2 a3 a4) (f : ∀ a0 a1 a2 a3 a4,p0 a0 a1 a2 a3 a4 → p1 a0 a1 a2 a3 a4 → p2 a0 a1 a2 a3 a4 → p3 a0 a1 a2 a3 a4 → p4 a0 a1 a2 a3 a4 → p5 a0 a1 a2 a3 a4 → p6 a0 a1 a2 a3 a4 → p7 a0 a1 a2 a3 a4 → p8 a0 a1 a2 a3 a4 → G) : G := by
  obtain ⟨a0,a1,a2,a3,a4,h0,h1,h2,h3,h4,h5,h6,h7,h8⟩ := h
  exact f a0 a1 a2 a3 a4 h0 h1 h2 h3 h4 h5 h6 h7 h8
theorem x6_4 {α0 α1 α2 α3 α4 α5 : Type} {p0 p1 p2 p3 : α0 → α1 → α2 → α3 → α4 → α5 → Prop} {G : Prop} (h : ∃ a0 a1 a2 a3 a4 a5,p0 a0 a1 a2 a3 a4 a5 ∧ p1 a0 a1 a2 a3 a4 a5 ∧ p2 a0 a1 a2 a3 a4 a5 ∧ p3 a0 a1 a2 a3 a4 a5) (f : ∀ a0 a1 a2 a3 a4 a5,p0 a0 a1 a2 a3 a4 a5 → p1 a0 a1 a2 a3 a4 a5 → p2 a0 a1 a2 a3 a4 a5 → p3 a0 a1 a2 a3 a4 a5 → G) : G := by
  obtain ⟨a0,a1,a2,a3,a4,a5,h0,h1,h2,h3⟩ := h
  exact f a0 a1 a2 a3 a4 a5 h0 h1 h2 h3
theorem x8_5 {α0 α1 α2 α3 α4 α5 α6 α7 : Type} {p0 p1 p2 p3 p4 : α0 → α1 → α2 → α3 → α4 → α5 → α6 → α7 → Prop} {G : Prop} (h : ∃ a0 a1 a2 a3 a4 a5 a6 a7,p0 a0 a1 a2 a3 a4 a5 a6 a7 ∧ p1 a0 a1 a2 a3 a4 a5 a6 a7 ∧ p2 a0 a1 a2 a3 a4 a5 a6 a7 ∧ p3 a0 a1 a2 a3 a4 a5 a6 a7 ∧ p4 a0 a1 a2 a3 a4 a5 a6 a7) (f : ∀ a0 a1 a2 a3 a4 a5 a6 a7,p0 a0 a1 a2 a3 a4 a5 a6 a7 → p1 a0 a1 a2 a3 a4 a5 a6 a7 → p2 a0 a1 a2 a3 a4 a5 a6 a7 → p3 a0 a1 a2 a3 a4 a5 a6 a7 → p4 a0 a1 a2 a3 a4 a5 a6 a7 → G) : G := by
  obtain ⟨a0,a1,a2,a3,a4,a5,a6,a7,h0,h1,h2,h3,h4⟩ := h
  exact f a0 a1 a2 a3 a4 a5 a6 a7 h0 h1 h2 h3 h4
open PySem PySem.W PyProof.Rows PySem.Calls PySem.Spec
set_option maxHeartbeats 8000000
variable {w : World} {dp un : Nat} {gd : Option (List Code)} {cn : Str} {cs : Scope} {a₁ : Addr} {ccd : Value} {ce : List (Str × Addr)} {outer : List Env} {A₀ : Around} {base h₀ : Heap} {L : Addr} {m : Mp} {mean : ExcName → Option Value} {mg mb : Mp} {s : Shared} {Q E : Value → Shared → Prop} {all : Led}
local macro_rules | `(tactic| walk_at $s:str) => `(tactic| k_extra $(Lean.Syntax.mkStrLit ("!" ++ s.getString)))
section
abbrev PG : Program := PySem.Challenge.rw_qz0025_01.row.prog
abbrev tup (vs : List Value) : Obj := { cls := .type "tuple",data := .seq vs.toArray }
abbrev Led := List (Addr × Obj)
theorem gen_toks {M : Model} {A : Around} {α : Type} {t : Sem α} {Q : α → Shared → Prop} {E : Value → Shared → Prop} {s : Shared} {X : Nat} (k : ∀ tk,wpAny M A t Q E { s with toks := tk }) : wpAny M A t Q E { s with toks := X } := k X
abbrev Mp := PySem.Str → Option Value
theorem fillK : PySem.Challenge.rw_qz0025_01 = PySem.Challenge.rw_qz0025_01 ∧ k0.heap_1 = k0.heap_1 := by
  k_fill
  exact ⟨rfl,rfl⟩
noncomputable def Kept (h : Heap) (led : Led) (h' : Heap) : Prop := ∀ b o,h.get? b = some o → (∀ p ∈ led,p.1 ≠ b) → h'.get? b = some o
noncomputable def Fresh (h : Heap) (led led' : Led) : Prop := ∀ p ∈ led',(∃ q ∈ led,q.1 = p.1) ∨ h.get? p.1 = none
noncomputable def Froz (h : Heap) (led : Led) (g : Heap) : Prop := (∀ b o,h.get? b = some o → (∀ p ∈ led,p.1 ≠ b) → g.get? b = some o) ∧ ∀ b o,g.get? b = some o → h.get? b = some o
theorem Froz.kept {h g h' : Heap} {led : Led} {L : Addr} {m : Mp} (z : Froz h led g) (F : Fr g L h' m) : Kept h led h' := fun b o e n => F.keep b o (z.1 b o e n)
theorem Froz.fresh {h g h' : Heap} {led led' : Led} {L : Addr} (z : Froz h led g) (N : News g L h' led') : Fresh h led led' := fun p hp => by
  by_cases q : ∃ q ∈ led,q.1 = p.1
  · exact .inl q
  · right
    cases e : h.get? p.1 with
    | none => rfl
    | some o =>
      have := z.1 _ _ e fun x hx hq => q ⟨x,hx,hq⟩
      rw [(N p hp).2.2] at this
      cases this
structure After (h₀ : Heap) (L : Addr) (h : Heap) (led : Led) (h' : Heap) (led' : Led) : Prop where
  news : News h₀ L h' led'
  kept : Kept h led h'
  fresh : Fresh h led led'
theorem after_of {h₀ h g h' : Heap} {L L' : Addr} {m' : Mp} {led led' : Led} (z : Froz h led g) (F' : Fr g L' h' m') (N' : News g L' h' led') (kN : News h₀ L h' led') : After h₀ L h led h' led' := ⟨kN,z.kept F',z.fresh N'⟩
section
variable {h₀ h h' : Heap} {L b d : Addr} {o o' : Obj} {led led' all : Led} {g : Obj → Led}
theorem After.pure (A : After h₀ L h led h' led') (N : News h₀ L h all) (hs : ∀ p ∈ led,p ∈ all) (hl : ∀ p ∈ led,p ∈ led') : News h₀ L h' all := fun p hp => by
  by_cases q : ∃ q ∈ led,q.1 = p.1
  · refine x1_2 q ?_;(try clear q)
    intro x hx e
    have h1 := (N x (hs x hx)).1
    rw [e,(N p hp).1] at h1
    have : p = x := Prod.ext e.symm (Option.some.inj h1)
    subst this
    exact A.news p (hl p hx)
  · exact ⟨A.kept _ _ (N p hp).1 fun x hx e => q ⟨x,hx,e⟩,(N p hp).2⟩
theorem After.none (A : After h₀ L h led h' led') (hb : (b,o) ∈ led') (nb : ∀ p ∈ led,p.1 ≠ b) : h.get? b = none := by
  rcases A.fresh _ hb with ⟨q,hq,e⟩ | e
  · exact absurd e (nb q hq)
  · exact e
theorem After.ne (A : After h₀ L h led h' led') (hb : (b,o) ∈ led') (nb : ∀ p ∈ led,p.1 ≠ b) (N : News h₀ L h all) : ∀ p ∈ all,p.1 ≠ b := fun p hp e => by
  have h1 := A.none hb nb
  rw [← e,(N p hp).1] at h1
  cases h1
theorem After.cons (A : After h₀ L h led h' led') (N : News h₀ L h' all) (hb : (b,o) ∈ led') : News h₀ L h' ((b,o) :: all) := fun p hp => by
  rcases List.mem_cons.mp hp with rfl | hp
  · exact A.news _ hb
  · exact N p hp
theorem After.upd (A : After h₀ L h led h' led') (N : News h₀ L h all) (U : UpdF d o all g) (hs : ∀ p ∈ led,p ∈ all) (hl : ∀ p ∈ led,p.1 = d ∨ p ∈ led') (hd : (d,o') ∈ led') : News h₀ L h' (g o') := by
  refine x2_4 U.split ?_;(try clear U.split)
  intro pre post
  rintro rfl
  intro hg n1 n2
  have stay : ∀ p ∈ pre ++ (d,o) :: post,p.1 ≠ d → h'.get? p.1 = some p.2 ∧ p.1 ≠ L ∧ h₀.get? p.1 = Option.none := fun p hp hn => by
    by_cases q : ∃ q ∈ led,q.1 = p.1
    · refine x1_2 q ?_;(try clear q)
      intro x hx e
      have h1 := (N x (hs x hx)).1
      rw [e,(N p hp).1] at h1
      have : p = x := Prod.ext e.symm (Option.some.inj h1)
      subst this
      rcases hl p hx with h2 | h2
      · exact absurd h2 hn
      · exact A.news p h2
    · exact ⟨A.kept _ _ (N p hp).1 fun x hx e => q ⟨x,hx,e⟩,(N p hp).2⟩
  rw [hg]
  intro p hp
  rcases List.mem_append.mp hp with hp | hp
  · exact stay p (List.mem_append_left _ hp) (n1 p hp)
  · rcases List.mem_cons.mp hp with rfl | hp
    · exact A.news _ hd
    · exact stay p (List.mem_append_right _ (.tail _ hp)) (n2 p hp)
end
section
variable {prog : Program} {w : World} {A A₀ : Around} {E : Value → Shared → Prop} {s : Shared} {K : Frag} {C L : Addr} {h₀ base : Heap} {m mg mb : Mp} {news : Led} {p : Program} {loose : List Str} {mean : ExcName → Option Value} {Q : Value → Shared → Prop}
theorem code_at {env : Env} {outer : List Env} {R : Result → Shared → Prop} {name qual : Str} {params : Arguments} {body : List Stmt} {scope : Scope} {dV kV doc pm cdv ct oc : Value} {an od : Option Addr} {osl : Array (Option Value)} {f : Addr} {args : Args} {binds : List (Str × Value)}
    (B : Below A₀ base outer h₀) (F : Fr h₀ L s.heap m) (X₀ : K.In h₀) (N : News h₀ L s.heap news) (T : Top p loose mean mg mb h₀) (hA : A.frames = some (env :: outer)) (hf : env.frame = some L) (hke : env.scope.kind = .function)
    (ho : K.lookup f = some ⟨oc,od,.func (fnOf name qual params body scope dV kV doc pm an cdv ct),osl⟩) (hcd : codeIn K cdv qual = true) (hroom : A.depth < recursionLimit)
    (hbind : BindsTo s (fnOf name qual params body scope dV kV doc pm an cdv ct) args binds) (hloc : ∀ y ∈ binds,scope.names.lookup y.1 = some .local)
    (h : ∀ g L' h₁,Fr h₀ L g m → Fr g L' h₁ (fun y => binds.reverse.lookup y) → News g L' h₁ news → Below A base (env :: outer) g → K.In g → Top p loose mean mg mb g → Froz s.heap news g →
      wpAny (model prog w) (A.deeper (envOf qual scope L' f cdv)) (execs body (envOf qual scope L' f cdv))
        (fun fl s' => LeaveK h₀ L m g R (match fl with | .ret v => v | _ => .none) s')
        (fun e s' => wpAny (model prog w) (A.deeper (envOf qual scope L' f cdv)) (leaving (envOf qual scope L' f cdv) e) (fun _ s'' => R (.error e) s'') (fun e' s'' => R (.error e') s'') s')
        { s with heap := h₁,toks := s.toks + binds.length })
    (hco : scope.isCoroutine = false) (hgen : scope.isGenerator = false) (hk : scope.kind = .function)
    (hcell : ∀ x ∈ scope.names,x.2 ≠ .cell) : codeAny (model prog w) A (.call (.ref f) args) R s := by
  refine x0_4 (groundX (R := R) B F N hA hf hke) ?_
  intro FG BG st lv
  refine codeAny_call_def (fd := fnX name qual params body scope [] dV kV doc pm an cdv ct) (body := body) (binds := binds) hroom ((X₀.keeps F.keep) _ _ ho) rfl (T.nolimit.keeps F.keep) (codeRec_of (X₀.keeps F.keep) hcd) rfl hbind hcell hloc (fun h₁ hns hk₁ => ?_) hco hgen hk
  have z : Froz s.heap news (hideAll s.heap (news.map (·.1))) := ⟨fun b o e n => hideAll_get _ e fun q => by
    refine x1_2 (List.mem_map.mp q) ?_
    intro x hx hq
    exact n x hx hq,fun b o e => of_hideAll _ e⟩
  exact wpAny_mono (h _ s.heap.objs.size h₁ FG ⟨hns,fun b o e => hk₁ b o (of_hideAll _ e),Nat.le_of_eq (hideAll_size _ _)⟩
    (fun p hp => ⟨hk₁ _ _ (N p hp).1,Nat.ne_of_lt (Heap.lt_size (N p hp).1),hideAll_none _ (List.mem_map_of_mem hp)⟩) BG (X₀.keeps st) (T.keeps st) z) (fun fl s' hl => lv _ _ hl) fun _ _ y => y
end
noncomputable def Spec (w : World) (f : Addr) (vs : List Value) (dd uu : Nat) (led : Led) (Ret : Value → Led → Prop) : Prop :=
  ∀ (dp un : Nat) (gd : Option (List Code)) (cn : Str) (cs : Scope) (a : Addr) (ccd : Value) (cl : List (Str × Addr)) (outer : List Env) (A₀ : Around) (base h₀ : Heap) (L : Addr) (m : Mp) (mean : ExcName → Option Value) (mg mb : Mp) (s : Shared) (Q E : Value → Shared → Prop),
    Below A₀ base outer h₀ → Fr h₀ L s.heap m → (k0.heap_1 w.params).In h₀ → News h₀ L s.heap led → Top vw (looseW vw LO) mean mg mb h₀ → cs.kind = .function → dp + dd < recursionLimit → un + uu < cLine →
    (∀ r led' h' tk',Fr h₀ L h' m → After h₀ L s.heap led h' led' → Ret r led' → Q r { s with heap := h',toks := tk' }) →
    wpAny (model PG w) (ktrTop dp un gd cn cs L a ccd cl outer) (call (.ref f) vs) Q E s
section
variable {prog : Program} {w : World} {A A₀ : Around} {E : Value → Shared → Prop} {s : Shared} {K : Frag} {C L : Addr} {h₀ base : Heap} {m mg mb : Mp} {news : Led} {p : Program} {loose : List Str} {mean : ExcName → Option Value} {Q : Value → Shared → Prop}
theorem code_atC {env : Env} {outer : List Env} {R : Result → Shared → Prop} {name qual : Str} {params : Arguments} {body : List Stmt} {scope : Scope} {dV kV doc pm cdv ct oc : Value} {an od : Option Addr} {osl : Array (Option Value)} {f : Addr} {args : Args} {binds : List (Str × Value)}
    (B : Below A₀ base outer h₀) (F : Fr h₀ L s.heap m) (X₀ : K.In h₀) (N : News h₀ L s.heap news) (T : Top p loose mean mg mb h₀) (hA : A.frames = some (env :: outer)) (hf : env.frame = some L) (hke : env.scope.kind = .function)
    (ho : K.lookup f = some ⟨oc,od,.func (fnOf name qual params body scope dV kV doc pm an cdv ct),osl⟩) (hcd : codeIn K cdv qual = true) (hroom : A.depth < recursionLimit)
    (hbind : BindsTo s (fnOf name qual params body scope dV kV doc pm an cdv ct) args binds) (hkind : (binds.all fun y => scope.names.lookup y.1 == some .local || scope.names.lookup y.1 == some .cell) = true)
    (hnd : ((cellsFrom 0 scope.names []).map (·.1)).Nodup)
    (h : ∀ g L' h₁ tk cells,Fr h₀ L g m → Fr g L' h₁ (bindL (envOfC qual scope L' f cdv).kindOf binds fun _ => none) → News g L' h₁ (cells ++ news) →
      CellsAre (bindC (envOfC qual scope L' f cdv).kindOf binds fun _ => none) (cellsFrom (L' + 1) scope.names []) cells → Below A base (env :: outer) g → K.In g → Top p loose mean mg mb g → (∀ p ∈ news,p.1 < L') → Froz s.heap news g →
      wpAny (model prog w) (A.deeper (envOfC qual scope L' f cdv)) (execs body (envOfC qual scope L' f cdv))
        (fun fl s' => LeaveK h₀ L m g R (match fl with | .ret v => v | _ => .none) s')
        (fun e s' => wpAny (model prog w) (A.deeper (envOfC qual scope L' f cdv)) (leaving (envOfC qual scope L' f cdv) e) (fun _ s'' => R (.error e) s'') (fun e' s'' => R (.error e') s'') s')
        { s with heap := h₁,toks := tk })
    (hco : scope.isCoroutine = false) (hgen : scope.isGenerator = false) (hk : scope.kind = .function) : codeAny (model prog w) A (.call (.ref f) args) R s := by
  refine x0_4 (groundX (R := R) B F N hA hf hke) ?_
  intro FG BG st lv
  have z : Froz s.heap news (hideAll s.heap (news.map (·.1))) := ⟨fun b o e n => hideAll_get _ e fun q => by
    refine x1_2 (List.mem_map.mp q) ?_
    intro x hx hq
    exact n x hx hq,fun b o e => of_hideAll _ e⟩
  refine codeAny_call_function hroom ((X₀.keeps F.keep) _ _ ho) rfl hco hgen rfl (codeRec_of (X₀.keeps F.keep) hcd) (hbind _ _ _ _ ?_)
  refine wpAny_newFunctionEnv_cells hk (kindsX hkind _) fun env' he s' x => ?_
  subst he
  refine ⟨(T.nolimit.keeps F.keep).keeps x.toInCall.keep,codeAny_func ?_⟩
  refine x2_2 x.done ?_;(try clear x.done)
  intro h₁ tk
  rintro rfl
  intro _
  have hk₁ := x.toInCall.keep
  refine x1_2 (Cl.news (h₀ := s.heap) (Nat.le_refl _) fun n c hm => ⟨x.cell n c (lookup_of_mem_nodup (cellsFrom_names scope.names 0 (s.heap.objs.size + 1) [] [] rfl ▸ hnd) hm),x.above n c hm⟩) ?_
  intro cells NC Y
  have hidden : ∀ b o,(hideAll s.heap (news.map (·.1))).get? b = some o → s.heap.get? b = some o := fun b o e => of_hideAll _ e
  refine wpAny_mono (h _ s.heap.objs.size h₁ tk cells FG ⟨x.toInCall.ns,fun b o e => hk₁ b o (hidden b o e),Nat.le_of_eq (hideAll_size _ _)⟩ (fun q hq => ?_) Y BG (X₀.keeps st) (T.keeps st) (fun q hq => Heap.lt_size (N q hq).1) z) (fun fl s' hl => lv _ _ hl) fun _ _ y => y
  rcases List.mem_append.mp hq with hq | hq
  · refine ⟨(NC q hq).1,(NC q hq).2.1,?_⟩
    cases e : (hideAll s.heap (news.map (·.1))).get? q.1 with
    | none => rfl
    | some o => have := hidden _ _ e;rw [(NC q hq).2.2] at this;cases this
  · exact ⟨hk₁ _ _ (N q hq).1,Nat.ne_of_lt (Heap.lt_size (N q hq).1),hideAll_none _ (List.mem_map_of_mem hq)⟩
end
structure Sit (w : World) (dp un : Nat) (cs : Scope) (outer : List Env) (A₀ : Around) (base h₀ : Heap) (L : Addr) (m : Mp) (mean : ExcName → Option Value) (mg mb : Mp) (s : Shared) (all : Led) (D U : Nat) : Prop where
  B : Below A₀ base outer h₀
  F : Fr h₀ L s.heap m
  X : (k0.heap_1 w.params).In h₀
  N : News h₀ L s.heap all
  T : Top vw (looseW vw LO) mean mg mb h₀
  hk : cs.kind = .function
  hd : dp + D < recursionLimit
  hu : un + U < cLine
section
theorem Spec.use {f : Addr} {vs : List Value} {D U : Nat} {led : Led} {Ret : Value → Led → Prop} (S : Spec w f vs D U led Ret) (Z : Sit w dp un cs outer A₀ base h₀ L m mean mg mb s all D U) (hs : ∀ p ∈ led,p ∈ all)
    (ret : ∀ r led' h' tk',Fr h₀ L h' m → After h₀ L s.heap led h' led' → Ret r led' → Q r { s with heap := h',toks := tk' }) : wpAny (model PG w) (ktrTop dp un gd cn cs L a₁ ccd ce outer) (call (.ref f) vs) Q E s :=
  S _ _ _ _ _ _ _ _ _ _ _ _ _ _ _ _ _ _ _ _ Z.B Z.F Z.X (fun x hx => Z.N x (hs x hx)) Z.T Z.hk Z.hd Z.hu ret
end
theorem sub_nil {all : Led} : ∀ p ∈ ([] : Led),p ∈ all := fun p hp => nomatch hp
theorem sub_cons {all : Led} {p : Addr × Obj} {l : Led} (h : p ∈ all) (r : ∀ q ∈ l,q ∈ all) : ∀ q ∈ p :: l,q ∈ all := fun q hq => by
  rcases List.mem_cons.mp hq with rfl | hq
  · exact h
  · exact r q hq
theorem sub_refl {all : Led} : ∀ p ∈ all,p ∈ all := fun _ h => h
theorem sub_tail {x : Addr × Obj} {all l : Led} (h : ∀ p ∈ all,p ∈ l) : ∀ p ∈ all,p ∈ x :: l := fun p hp => .tail _ (h p hp)
theorem ne_nil {b : Addr} : ∀ p ∈ ([] : Led),p.1 ≠ b := fun p hp => nomatch hp
theorem ne_cons {b : Addr} {p : Addr × Obj} {l : Led} (h : p.1 ≠ b) (r : ∀ q ∈ l,q.1 ≠ b) : ∀ q ∈ p :: l,q.1 ≠ b := fun q hq => by
  rcases List.mem_cons.mp hq with rfl | hq
  · exact h
  · exact r q hq
noncomputable def AllNe (b : Addr) : Led → Prop
  | [] => True
  | p :: r => @Ne Nat p.1 b ∧ AllNe b r
theorem allNe_of {b : Addr} : ∀ {l : Led},(∀ p ∈ l,p.1 ≠ b) → AllNe b l
  | [],_ => trivial
  | p :: _,h => ⟨h p (.head _),allNe_of fun q hq => h q (.tail _ hq)⟩
@[elab_as_elim] theorem gen_at {α : Type} {motive : α → Prop} (a : α) (h : ∀ x,motive x) : motive a := h a
@[elab_as_elim] theorem gen_post {α β : Type} {motive : (α → β → Prop) → Prop} (Q : α → β → Prop) (h : ∀ Q',(∀ x s,Q x s → Q' x s) → motive Q') : motive Q := h Q fun _ _ q => q
theorem AllNe.get {a b : Addr} {o : Obj} {l : Led} (h : AllNe b l) (m : (a,o) ∈ l) : a ≠ b := by
  induction l with
  | nil => exact absurd m List.not_mem_nil
  | cons x l ih =>
    rcases List.mem_cons.mp m with e | m
    · subst e;exact h.1
    · exact ih h.2 m
theorem updF_mem {d : Addr} {o : Obj} {all : Led} {g : Obj → Led} (U : UpdF d o all g) : (d,o) ∈ all := by
  refine x2_2 U.split ?_;(try clear U.split)
  intro pre post
  rintro rfl
  intro _
  exact List.mem_append_right _ (.head _)
theorem updF_ne {b d : Addr} {o o' : Obj} {all : Led} {g : Obj → Led} (U : UpdF d o all g) (h : ∀ p ∈ all,p.1 ≠ b) : ∀ p ∈ g o',p.1 ≠ b := by
  refine x2_3 U.split ?_;(try clear U.split)
  intro pre post
  rintro rfl
  intro hg _
  rw [hg]
  intro p hp
  rcases List.mem_append.mp hp with hp | hp
  · exact h p (List.mem_append_left _ hp)
  · rcases List.mem_cons.mp hp with rfl | hp
    · exact h (d,o) (List.mem_append_right _ (.head _))
    · exact h p (List.mem_append_right _ (.tail _ hp))
theorem AllLt.at {x a : Addr} {o : Obj} : ∀ {T : Led},AllLt x T → (a,o) ∈ T → @LT.lt Nat _ a x
  | [],_,m => nomatch m
  | p :: r,h,m => by
    have h' : @LT.lt Nat _ p.1 x ∧ AllLt x r := h
    rcases List.mem_cons.mp m with e | m
    · rw [← e] at h';exact h'.1
    · exact AllLt.at h'.2 m
theorem ne_up1 {a L : Nat} (h : a < L) : a ≠ L + 1 := Nat.ne_of_lt (Nat.lt_succ_of_lt h)
theorem ne_up2 {a L : Nat} (h : a < L) : a ≠ L + 1 + 1 := Nat.ne_of_lt (Nat.lt_succ_of_lt (Nat.lt_succ_of_lt h))
theorem ne_up3 {a L : Nat} (h : a < L) : a ≠ L + 1 + 1 + 1 := Nat.ne_of_lt (Nat.lt_succ_of_lt (Nat.lt_succ_of_lt (Nat.lt_succ_of_lt h)))
theorem ne_up4 {a L : Nat} (h : a < L) : a ≠ L + 1 + 1 + 1 + 1 := Nat.ne_of_lt (Nat.lt_succ_of_lt (Nat.lt_succ_of_lt (Nat.lt_succ_of_lt (Nat.lt_succ_of_lt h))))
theorem cells_ne {L i j : Nat} (h : (i == j) = false) : L + i ≠ L + j := fun e => by rw [Nat.add_left_cancel e] at h;simp at h
theorem off3_I {a I C D : Addr} {o : Obj} {l : Led} (h : LCg.Off3 I C D l) (m : (a,o) ∈ l) : a ≠ I := (h.mem _ m).1
theorem off3_C {a I C D : Addr} {o : Obj} {l : Led} (h : LCg.Off3 I C D l) (m : (a,o) ∈ l) : a ≠ C := (h.mem _ m).2.1
theorem off3_D {a I C D : Addr} {o : Obj} {l : Led} (h : LCg.Off3 I C D l) (m : (a,o) ∈ l) : a ≠ D := (h.mem _ m).2.2
theorem and3_1 {p q r : Prop} (h : p ∧ q ∧ r) : p := h.1
theorem and3_2 {p q r : Prop} (h : p ∧ q ∧ r) : q := h.2.1
theorem and3_3 {p q r : Prop} (h : p ∧ q ∧ r) : r := h.2.2
theorem room0 {a k n : Nat} (h : a + k < n) : a < n := Nat.lt_of_le_of_lt (Nat.le_add_right ..) h
theorem room1 {a c k n : Nat} (h : a + k < n) (e : Nat.ble c k = true) : a + c < n := Nat.lt_of_le_of_lt (Nat.add_le_add_left (Nat.le_of_ble_eq_true e) _) h
theorem room2 {a b c k n : Nat} (h : a + k < n) (e : Nat.ble (b + c) k = true) : a + b + c < n := Nat.add_assoc a b c ▸ room1 h e
theorem room3 {a b c d k n : Nat} (h : a + k < n) (e : Nat.ble (b + c + d) k = true) : a + b + c + d < n := Nat.add_assoc a b c ▸ room2 h e
theorem allLt_cons {x : Addr} {p : Addr × Obj} {r : Led} (h : AllLt x (p :: r)) : AllLt x (p :: r) := h
theorem om_n1 {a k l : Nat} (h : a ≤ k) (e : Nat.ble k l = true) : a ≤ l := Nat.le_trans h (Nat.le_of_ble_eq_true e)
theorem om_n2 {a b k l : Nat} (h : a < b) (g : b ≤ k) (e : Nat.ble k l = true) : a ≤ l := Nat.le_trans (Nat.le_of_lt (Nat.lt_of_lt_of_le h g)) (Nat.le_of_ble_eq_true e)
theorem om_n3 {a b : Nat} (h : a < b) : b ≠ a := fun e => Nat.lt_irrefl _ (e ▸ h)
theorem om_n4 {a b : Nat} (h : a < b) : a ≠ b := fun e => Nat.lt_irrefl _ (e ▸ h)
theorem om_n5 {a b k l : Nat} (h : a = b) (g : b ≤ k) (e : Nat.ble k l = true) : a ≤ l := h ▸ om_n1 g e
theorem om_n6 {a k l : Nat} (h : a = k) (e : Nat.ble k l = true) : a ≤ l := h ▸ Nat.le_of_ble_eq_true e
theorem om_i1 {k l x : Int} (h : k ≤ x) (e : decide (l ≤ k) = true) : l ≤ x := Int.le_trans (of_decide_eq_true e) h
theorem om_i2 {k l x : Int} (h : x ≤ k) (e : decide (k ≤ l) = true) : x ≤ l := Int.le_trans h (of_decide_eq_true e)
theorem om_i3 {k l x : Int} (h : x ≤ k) (e : decide (k < l) = true) : x < l := Int.lt_of_le_of_lt h (of_decide_eq_true e)
theorem om_i4 {k l x : Int} (h : k ≤ x) (e : decide (l < k) = true) : l < x := Int.lt_of_lt_of_le (of_decide_eq_true e) h
theorem om_i5 {k l x : Int} (h : x < k) (e : decide (k ≤ l) = true) : x < l := Int.lt_of_lt_of_le h (of_decide_eq_true e)
theorem om_i6 {k l x : Int} (h : x < k) (e : decide (k ≤ l + 1) = true) : x ≤ l := Int.le_of_lt_add_one (om_i5 h e)
theorem om_i7 {k x : Int} (h : k ≤ x) (e : decide (0 < k) = true) : x ≠ 0 := fun g => absurd (om_i4 (l := 0) h e) (g ▸ Int.lt_irrefl _)
theorem om_i8 {x : Int} (h : 0 < x) : x ≠ 0 := fun g => Int.lt_irrefl _ (g ▸ h)
theorem om_i9 {k l x : Int} (h : k < x) (e : decide (l ≤ k) = true) : l ≤ x := Int.le_trans (of_decide_eq_true e) (Int.le_of_lt h)
theorem om_ab {k l x : Int} {n : Nat} (h : k ≤ x) (g : x ≤ l) (e : (decide (-(n : Int) < k) && decide (l < (n : Int))) = true) : x.natAbs < n := by
  have := Bool.and_eq_true .. ▸ e
  have a := of_decide_eq_true this.1
  have b := of_decide_eq_true this.2
  omega
theorem om_c1 {a k : Nat} {l : Int} (h : a ≤ k) (e : decide ((k : Int) < l) = true) : (a : Int) < l := Int.lt_of_le_of_lt (Int.ofNat_le.mpr h) (of_decide_eq_true e)
theorem om_c2 {a : Nat} {l : Int} (e : decide (l ≤ 0) = true) : l ≤ (a : Int) := Int.le_trans (of_decide_eq_true e) (Int.natCast_nonneg a)
theorem execs_append (l₁ l₂ : List Stmt) (env : Env) : execs (l₁ ++ l₂) env = (execs l₁ env >>= fun f => match f with | .next => execs l₂ env | f => pure f) := by
  induction l₁ with
  | nil => rfl
  | cons st r ih =>
    rw [List.cons_append,execs_cons,execs_cons,ih,bind_assoc]
    congr 1
    funext f
    cases f <;> simp
theorem execs_cut {M : Model} {A : Around} {env : Env} {Q : Flow → Shared → Prop} {E : Value → Shared → Prop} {s : Shared} {body : List Stmt} (k : Nat) (I : Shared → Prop)
    (h1 : wpAny M A (execs (body.take k) env) (fun fl s' => fl = .next ∧ I s') E s) (h2 : ∀ s',I s' → wpAny M A (execs (body.drop k) env) Q E s') : wpAny M A (execs body env) Q E s := by
  rw [← List.take_append_drop k body,execs_append]
  refine wpAny_bind (wpAny_mono h1 (fun fl s' h => ?_) fun _ _ e => e)
  refine x0_2 h ?_;(try clear h)
  rintro rfl
  intro h
  exact h2 s' h
noncomputable def StopAt (P : Prop) : Prop := P
theorem stop_at {P : Prop} (h : StopAt P) : P := h
theorem stop_go {P : Prop} (h : P) : StopAt P := h
theorem execs_cutS {M : Model} {A : Around} {env : Env} {Q : Flow → Shared → Prop} {E : Value → Shared → Prop} {s : Shared} {body : List Stmt} (k : Nat) (I : Shared → Prop)
    (h1 : wpAny M A (execs (body.take k) env) (fun fl s' => StopAt (fl = .next ∧ I s')) E s) (h2 : ∀ s',I s' → wpAny M A (execs (body.drop k) env) Q E s') : wpAny M A (execs body env) Q E s :=
  execs_cut k I h1 h2
end
section
noncomputable def sv (m : Mp) (ev : Env) (tk : Nat) : Expr → Option (Value × Nat)
  | .Name x _ => if (ev.kindOf x == some .local && !(x == ("__debug__" : Str))) = true then (match m x with | some v => some (v,tk) | none => none) else none
  | .Constant (.int i) _ _ => some (.int i tk,tk + 1)
  | .Constant (.str x) _ _ => some (.str x tk,tk + 1)
  | .Constant (.bool b) _ _ => some (.bool b,tk)
  | .Constant .none _ _ => some (.none,tk)
  | _ => none
noncomputable def svs (m : Mp) (ev : Env) : Nat → List Expr → Option (List Value × Nat)
  | tk,[] => some ([],tk)
  | tk,e :: r => match sv m ev tk e with
    | some (v,tk1) => (match svs m ev tk1 r with | some (vs,tk2) => some (v :: vs,tk2) | none => none)
    | none => none
theorem sv_nm {m : Mp} {ev : Env} {tk : Nat} {x : Str} {p : Pos} {v : Value} (hv : m x = some v) (hk : (ev.kindOf x == some .local && !(x == ("__debug__" : Str))) = true) :
    sv m ev tk (.Name x p) = some (v,tk) := by
  show (if (ev.kindOf x == some .local && !(x == ("__debug__" : Str))) = true then (match m x with | some v => some (v,tk) | none => none) else none) = _
  rw [if_pos hk,hv]
theorem svs_cn {m : Mp} {ev : Env} {tk tk1 tk' : Nat} {e : Expr} {v : Value} {es : List Expr} {vs : List Value} (c : sv m ev tk e = some (v,tk1)) (r : svs m ev tk1 es = some (vs,tk')) :
    svs m ev tk (e :: es) = some (v :: vs,tk') := by
  show (match sv m ev tk e with
    | some (v,tk1) => (match svs m ev tk1 es with | some (vs,tk2) => some (v :: vs,tk2) | none => none)
    | none => none) = _
  rw [c]
  show (match svs m ev tk1 es with | some (vs,tk2) => some (v :: vs,tk2) | none => none) = _
  rw [r]
theorem svs_nm {m : Mp} {ev : Env} {tk tk' : Nat} {x : Str} {p : Pos} {v : Value} {es : List Expr} {vs : List Value} (hv : m x = some v) (r : svs m ev tk es = some (vs,tk')) (hk : (ev.kindOf x == some .local && !(x == ("__debug__" : Str))) = true) :
    svs m ev tk (.Name x p :: es) = some (v :: vs,tk') := svs_cn (sv_nm hv hk) r
section
variable {M : Model} {A : Around} {E : Value → Shared → Prop} {K : Frag} {h₀ h : Heap} {gs : Array GenState} {dr : Drawn} {tk tk' : Nat} {os : OsState} {L a : Addr} {m mg mb : Mp} {cn : Str} {cs : Scope} {ccd : Value} {cl : List (Str × Addr)} {p : Program} {loose : List Str}
  {x : Str} {pos pos' : Pos} {v f : Value} {e l r : Expr} {es : List Expr} {vs : List Value} {news : Led}
theorem sv_sound {Q : Value → Shared → Prop} (F : Fr h₀ L h m) (e1 : sv m (envX cn cs L a ccd cl) tk e = some (v,tk')) (hq : Q v ⟨h,gs,dr,tk',os⟩) (hk : cs.kind = .function) :
    wpAny M A (eval e (envX cn cs L a ccd cl)) Q E ⟨h,gs,dr,tk,os⟩ := by
  cases e
  case Name x p =>
    replace e1 : (if ((envX cn cs L a ccd cl).kindOf x == some .local && !(x == ("__debug__" : Str))) = true then (match m x with | some v => some (v,tk) | none => none) else none) = some (v,tk') := e1
    by_cases hc : ((envX cn cs L a ccd cl).kindOf x == some .local && !(x == ("__debug__" : Str))) = true
    · rw [if_pos hc] at e1
      rw [Bool.and_eq_true,Bool.not_eq_true',beq_iff_eq] at hc
      cases hv : m x with
      | none => rw [hv] at e1;exact nomatch e1
      | some v' =>
        rw [hv] at e1
        injection e1 with e1
        injection e1 with e1 e2
        exact nameX_L (s := ⟨h,gs,dr,tk,os⟩) F hv (e1 ▸ e2 ▸ hq) hk hc.1 hc.2
    · rw [if_neg hc] at e1
      exact nomatch e1
  case Constant c k p =>
    cases c
    case int i => injection e1 with e1;injection e1 with e1 e2;exact wpAny_Constant_int (s := ⟨h,gs,dr,tk,os⟩) (e1 ▸ e2 ▸ hq)
    case str i => injection e1 with e1;injection e1 with e1 e2;exact PySem.Calls.Constant_str (s := ⟨h,gs,dr,tk,os⟩) (e1 ▸ e2 ▸ hq)
    case bool i => injection e1 with e1;injection e1 with e1 e2;exact wpAny_Constant_bool (e1 ▸ e2 ▸ hq)
    case none => injection e1 with e1;injection e1 with e1 e2;exact wpAny_Constant_none (e1 ▸ e2 ▸ hq)
    all_goals exact nomatch (show (none : Option (Value × Nat)) = some (v,tk') from e1)
  all_goals exact nomatch (show (none : Option (Value × Nat)) = some (v,tk') from e1)
theorem sv_star {ev : Env} (e1 : sv m ev tk e = some (v,tk')) (rest : List Expr) : starEach (e :: rest) ev = (false,eval e ev) :: starEach rest ev := by
  cases e
  case Starred => exact nomatch (show (none : Option (Value × Nat)) = some (v,tk') from e1)
  all_goals rfl
theorem args_1 {Q : List Value → Shared → Prop} (F : Fr h₀ L h m) (e1 : sv m (envX cn cs L a ccd cl) tk e = some (v,tk'))
    (hq : wpAny M A (spliced (backTo pos (starEach es (envX cn cs L a ccd cl)))) (fun vs s₂ => Q (v :: vs) s₂) E ⟨h,gs,dr,tk',os⟩) (hk : cs.kind = .function) :
    wpAny M A (spliced (backTo pos (starEach (e :: es) (envX cn cs L a ccd cl)))) Q E ⟨h,gs,dr,tk,os⟩ :=
  args_cons (sv_sound (Q := fun v s₁ => wpAny M A (spliced (backTo pos (starEach es (envX cn cs L a ccd cl)))) (fun vs s₂ => Q (v :: vs) s₂) E s₁) F e1 hq hk) (sv_star e1 es)
theorem svs_nil' {ev : Env} (e1 : svs m ev tk [] = some (vs,tk')) : vs = [] ∧ tk' = tk := by
  injection e1 with e1
  injection e1 with e1 e2
  exact ⟨e1.symm,e2.symm⟩
theorem svs_cons' {ev : Env} (e1 : svs m ev tk (e :: es) = some (vs,tk')) : ∃ v tk1 vs',vs = v :: vs' ∧ sv m ev tk e = some (v,tk1) ∧ svs m ev tk1 es = some (vs',tk') := by
  replace e1 : (match sv m ev tk e with
    | some (v,tk1) => (match svs m ev tk1 es with | some (vs,tk2) => some (v :: vs,tk2) | none => none)
    | none => none) = some (vs,tk') := e1
  cases h1 : sv m ev tk e with
  | none => rw [h1] at e1;exact nomatch e1
  | some q =>
    rw [h1] at e1
    replace e1 : (match svs m ev q.2 es with | some (vs,tk2) => some (q.1 :: vs,tk2) | none => none) = some (vs,tk') := e1
    cases h2 : svs m ev q.2 es with
    | none => rw [h2] at e1;exact nomatch e1
    | some z =>
      rw [h2] at e1
      injection e1 with e1
      injection e1 with e1 e2
      exact ⟨q.1,q.2,z.1,e1.symm,h1 ▸ rfl,e2 ▸ h2⟩
theorem args_S (hk : cs.kind = .function) {es : List Expr} {vs : List Value} {tk tk' : Nat} {Q : List Value → Shared → Prop} (F : Fr h₀ L h m) (e1 : svs m (envX cn cs L a ccd cl) tk es = some (vs,tk')) (hq : Q vs ⟨h,gs,dr,tk',os⟩) :
    wpAny M A (spliced (backTo pos (starEach es (envX cn cs L a ccd cl)))) Q E ⟨h,gs,dr,tk,os⟩ := by
  induction es generalizing vs tk Q with
  | nil =>
    obtain ⟨rfl,rfl⟩ := svs_nil' e1
    exact args_nil hq
  | cons e es ih =>
    obtain ⟨v,tk1,vs',rfl,h1,h2⟩ := svs_cons' e1
    exact args_1 F h1 (ih (Q := fun vs s₂ => Q (v :: vs) s₂) h2 hq) hk
theorem call_S {args : List Expr} {Q : Value → Shared → Prop} (F : Fr h₀ L h m) (X : K.In h₀) (T : TopRead p loose mg mb h₀) (en : nsIn K mainGlobals x = some (some f)) (hf : keepIn K f = true)
    (e1 : svs m (envX cn cs L a ccd cl) tk (e :: args) = some (vs,tk')) (hq : wpAny M A (call f vs) Q E ⟨h,gs,dr,tk',os⟩)
    (hk : cs.kind = .function) (hx : (envX cn cs L a ccd cl).kindOf x = some .globalImplicit) (hd : (x == ("__debug__" : Str)) = false)
    (hp : (backTo pos' (starEach args (envX cn cs L a ccd cl))).any (·.1) = false)
    (he : eval (.Call (.Name x pos) (e :: args) [] pos') (envX cn cs L a ccd cl) = (do callWith pos' (← eval (.Name x pos) (envX cn cs L a ccd cl)) [] (backTo pos' (starEach (e :: args) (envX cn cs L a ccd cl))) (backToKw pos' (keywordEach [] (envX cn cs L a ccd cl))))) :
    wpAny M A (eval (.Call (.Name x pos) (e :: args) [] pos') (envX cn cs L a ccd cl)) Q E ⟨h,gs,dr,tk,os⟩ := by
  obtain ⟨v,tk1,vs',rfl,h1,h2⟩ := svs_cons' e1
  refine Call_ ?_ he
  refine nameX_K (s := ⟨h,gs,dr,tk,os⟩) F X T en ?_ hk hx hd
  refine callWith_K (first := []) X hf ?_ (sv_star h1 args) hp
  refine args_S hk F e1 ⟨X.keeps F.keep,hq⟩
theorem svs_two {b : Value} {Q : Value → Value → Shared → Prop} (F : Fr h₀ L h m) (e1 : svs m (envX cn cs L a ccd cl) tk [l,r] = some ([v,b],tk')) (hq : Q v b ⟨h,gs,dr,tk',os⟩) (hk : cs.kind = .function) :
    wpAny M A (eval l (envX cn cs L a ccd cl)) (fun a' s₁ => wpAny M A (eval r (envX cn cs L a ccd cl)) (fun b s₂ => Q a' b s₂) E s₁) E ⟨h,gs,dr,tk,os⟩ := by
  obtain ⟨v',tk1,vs',h0,h1,h2⟩ := svs_cons' e1
  obtain ⟨b',tk2,vs2,h5,h3,h4⟩ := svs_cons' h2
  obtain ⟨_,e⟩ := svs_nil' h4
  injection h0 with h0 h6
  subst h0
  subst h6
  injection h5 with h5
  subst h5
  subst e
  exact sv_sound (Q := fun a' s₁ => wpAny M A (eval r (envX cn cs L a ccd cl)) (fun b s₂ => Q a' b s₂) E s₁) F h1 (sv_sound (Q := fun b s₂ => Q v b s₂) F h3 hq hk) hk
theorem bin_S {op : Operator} {b : Value} {Q : Value → Shared → Prop} (F : Fr h₀ L h m) (e1 : svs m (envX cn cs L a ccd cl) tk [l,r] = some ([v,b],tk')) (hq : wpAny M A (binaryOp op v b) Q E ⟨h,gs,dr,tk',os⟩) (hk : cs.kind = .function) :
    wpAny M A (eval (.BinOp l op r pos) (envX cn cs L a ccd cl)) Q E ⟨h,gs,dr,tk,os⟩ := wpAny_BinOp (svs_two (Q := fun a b s₂ => wpAny M A (binaryOp op a b) Q E s₂) F e1 hq hk)
theorem bin_L {op : Operator} {Q : Value → Shared → Prop} (F : Fr h₀ L h m) (e1 : sv m (envX cn cs L a ccd cl) tk l = some (v,tk')) (hq : wpAny M A (eval r (envX cn cs L a ccd cl)) (fun b s₂ => wpAny M A (binaryOp op v b) Q E s₂) E ⟨h,gs,dr,tk',os⟩) (hk : cs.kind = .function) :
    wpAny M A (eval (.BinOp l op r pos) (envX cn cs L a ccd cl)) Q E ⟨h,gs,dr,tk,os⟩ :=
  wpAny_BinOp (sv_sound (Q := fun a' s₁ => wpAny M A (eval r (envX cn cs L a ccd cl)) (fun b s₂ => wpAny M A (binaryOp op a' b) Q E s₂) E s₁) F e1 hq hk)
theorem cmp_S {op : CmpOp} {b : Value} {Q : Value → Shared → Prop} (F : Fr h₀ L h m) (e1 : svs m (envX cn cs L a ccd cl) tk [l,r] = some ([v,b],tk')) (hq : wpAny M A (compareOp op v b) Q E ⟨h,gs,dr,tk',os⟩) (hk : cs.kind = .function)
    (hm : behindInMarks op r = false) : wpAny M A (eval (.Compare l [op] [r] pos) (envX cn cs L a ccd cl)) Q E ⟨h,gs,dr,tk,os⟩ :=
  wpAny_Compare1 (svs_two (Q := fun a b s₂ => wpAny M A (compareOp op a b) Q E s₂) F e1 hq hk) hm
theorem cmpT_S {op : CmpOp} {b : Value} {whole : Sem Value} {Q : Bool → Shared → Prop} (F : Fr h₀ L h m) (e1 : svs m (envX cn cs L a ccd cl) tk [l,r] = some ([v,b],tk')) (hq : wpAny M A (compareOp op v b) (fun c s₃ => wpAny M A (truthy c) Q E s₃) E ⟨h,gs,dr,tk',os⟩) (hk : cs.kind = .function)
    (hm : behindInMarks op r = false) : wpAny M A (isTrue (.Compare l [op] [r] pos) (envX cn cs L a ccd cl) whole) Q E ⟨h,gs,dr,tk,os⟩ :=
  wpAny_isTrue_Compare1 (svs_two (Q := fun a b s₂ => wpAny M A (compareOp op a b) (fun c s₃ => wpAny M A (truthy c) Q E s₃) E s₂) F e1 hq hk) hm
theorem sub_S {b : Value} {Q : Value → Shared → Prop} (F : Fr h₀ L h m) (e1 : svs m (envX cn cs L a ccd cl) tk [l,r] = some ([v,b],tk')) (hq : wpAny M A (subscriptTail l r v b) Q E ⟨h,gs,dr,tk',os⟩) (hk : cs.kind = .function) :
    wpAny M A (eval (.Subscript l r pos) (envX cn cs L a ccd cl)) Q E ⟨h,gs,dr,tk,os⟩ :=
  Subscript_ (svs_two (Q := fun a b s₂ => wpAny M A (subscriptTail l r a b) Q E s₂) F e1 hq hk)
theorem subt_S {t : Addr} {ol : List Value} {k : Int} {u : Tok} {j : Nat} {y : Value} {prog : Program} {w : World} {Q : Value → Shared → Prop} (F : Fr h₀ L h m) (N : News h₀ L h news) (e1 : svs m (envX cn cs L a ccd cl) tk [l,r] = some ([.ref t,.int k u],tk'))
    (ht : (t,tup ol) ∈ news) (hb : (decide (-(2 ^ 63) ≤ k) && decide (k < 2 ^ 63)) = true) (hj : seqIndex? k ol.length = some j) (hy : ol[j]? = some y) (hq : Q y ⟨h,gs,dr,tk',os⟩) (hk : cs.kind = .function)
    (hs : subscripted r false (.ref t) (.int k u) = operate [.ref t,.int k u] (getItem (.ref t) (.int k u))) :
    wpAny (model prog w) A (eval (.Subscript l r pos) (envX cn cs L a ccd cl)) Q E ⟨h,gs,dr,tk,os⟩ := by
  rw [Bool.and_eq_true] at hb
  exact sub_S F e1 (item_tupleT (s := ⟨h,gs,dr,tk',os⟩) (News.isTup N ht) (of_decide_eq_true hb.1) (of_decide_eq_true hb.2) hj hy hq hs) hk
theorem tup_S {k : Nat} {Q : Value → Shared → Prop} (F : Fr h₀ L h m) (e1 : svs m (envX cn cs L a ccd cl) tk es = some (vs,tk')) (hq : wpAny M A (newTuple vs) Q E ⟨h,gs,dr,tk',os⟩) (hk : cs.kind = .function) :
    wpAny M A (eval (.Tuple es k pos) (envX cn cs L a ccd cl)) Q E ⟨h,gs,dr,tk,os⟩ := Tuple_ (args_S hk F e1 hq)
theorem list_S {Q : Value → Shared → Prop} (F : Fr h₀ L h m) (e1 : svs m (envX cn cs L a ccd cl) tk es = some (vs,tk')) (hq : wpAny M A (newList vs) Q E ⟨h,gs,dr,tk',os⟩) (hk : cs.kind = .function) :
    wpAny M A (eval (.List es pos) (envX cn cs L a ccd cl)) Q E ⟨h,gs,dr,tk,os⟩ := List_ (args_S hk F e1 hq)
theorem store_S {Q : Unit → Shared → Prop} (F : Fr h₀ L h m) (N : News h₀ L h news)
    (hq : let m' : Mp := fun y => if y = x then some v else m y;∀ h',Fr h₀ L h' m' → News h₀ L h' news → Q () ⟨h',gs,dr,tk + 1,os⟩)
    (hk : cs.kind = .function) (hx : (envX cn cs L a ccd cl).kindOf x = some .local) : wpAny M A (storeName (envX cn cs L a ccd cl) x v) Q E ⟨h,gs,dr,tk,os⟩ :=
  storeX_L (s := ⟨h,gs,dr,tk,os⟩) F N hq hk hx
theorem nt_L {Q : Value → Shared → Prop} {vs : List Value} (F : Fr h₀ L h m) (N : News h₀ L h news) (hz : vs.length ≤ sizeLine)
    (hq : ∀ D h',let T' : Led := (D,tup vs) :: news;Fr h₀ L h' m → News h₀ L h' T' → AllLt D news → Q (.ref D) ⟨h',gs,dr,tk,os⟩) : wpAny M A (newTuple vs) Q E ⟨h,gs,dr,tk,os⟩ :=
  kup_newTuple (s := ⟨h,gs,dr,tk,os⟩) F N (fun D h' F' N' l => hq D h' F' N' (allLt_of l)) hz
theorem nl_L {Q : Value → Shared → Prop} {vs : List Value} (F : Fr h₀ L h m) (N : News h₀ L h news) (hz : vs.length ≤ sizeLine)
    (hq : ∀ D h',let T' : Led := (D,listOf vs.toArray 0) :: news;Fr h₀ L h' m → News h₀ L h' T' → AllLt D news → Q (.ref D) ⟨h',gs,dr,tk,os⟩) : wpAny M A (newList vs) Q E ⟨h,gs,dr,tk,os⟩ :=
  newList_K (s := ⟨h,gs,dr,tk,os⟩) F N (fun D h' F' N' l => hq D h' F' N' (allLt_of l)) hz
end
theorem fr_let {h₀ h : Heap} {L : Addr} {m : Mp} {P : Prop} (k : let m' : Mp := m;Fr h₀ L h m' → P) (F : Fr h₀ L h m) : P := k F
theorem led8 {h₀ h : Heap} {L : Addr} {e1 e2 e3 e4 e5 e6 e7 e8 : Addr × Obj} {T : Led} {P : Prop} (k : let T' : Led := e1 :: e2 :: e3 :: e4 :: e5 :: e6 :: e7 :: e8 :: T;e1 ∈ T' → e2 ∈ T' → e3 ∈ T' → e4 ∈ T' → e5 ∈ T' → e6 ∈ T' → e7 ∈ T' → e8 ∈ T' → News h₀ L h T' → P) (N : News h₀ L h (e1 :: e2 :: e3 :: e4 :: e5 :: e6 :: e7 :: e8 :: T)) : P := k (.head _) (.tail _ (.head _)) (.tail _ (.tail _ (.head _))) (.tail _ (.tail _ (.tail _ (.head _)))) (.tail _ (.tail _ (.tail _ (.tail _ (.head _))))) (.tail _ (.tail _ (.tail _ (.tail _ (.tail _ (.head _)))))) (.tail _ (.tail _ (.tail _ (.tail _ (.tail _ (.tail _ (.head _))))))) (.tail _ (.tail _ (.tail _ (.tail _ (.tail _ (.tail _ (.tail _ (.head _)))))))) N
theorem led6 {h₀ h : Heap} {L : Addr} {e1 e2 e3 e4 e5 e6 : Addr × Obj} {T : Led} {P : Prop} (k : let T' : Led := e1 :: e2 :: e3 :: e4 :: e5 :: e6 :: T;e1 ∈ T' → e2 ∈ T' → e3 ∈ T' → e4 ∈ T' → e5 ∈ T' → e6 ∈ T' → News h₀ L h T' → P) (N : News h₀ L h (e1 :: e2 :: e3 :: e4 :: e5 :: e6 :: T)) : P := k (.head _) (.tail _ (.head _)) (.tail _ (.tail _ (.head _))) (.tail _ (.tail _ (.tail _ (.head _)))) (.tail _ (.tail _ (.tail _ (.tail _ (.head _))))) (.tail _ (.tail _ (.tail _ (.tail _ (.tail _ (.head _)))))) N
theorem ledH8 {h₀ h : Heap} {L : Addr} {e1 e2 e3 e4 e5 e6 e7 e8 : Addr × Obj} {T : Led} {P : Prop} (k : let H : Led := [e1,e2,e3,e4,e5,e6,e7,e8];e1 ∈ H → e2 ∈ H → e3 ∈ H → e4 ∈ H → e5 ∈ H → e6 ∈ H → e7 ∈ H → e8 ∈ H → News h₀ L h (H ++ T) → P) (N : News h₀ L h (e1 :: e2 :: e3 :: e4 :: e5 :: e6 :: e7 :: e8 :: T)) : P := k (.head _) (.tail _ (.head _)) (.tail _ (.tail _ (.head _))) (.tail _ (.tail _ (.tail _ (.head _)))) (.tail _ (.tail _ (.tail _ (.tail _ (.head _))))) (.tail _ (.tail _ (.tail _ (.tail _ (.tail _ (.head _)))))) (.tail _ (.tail _ (.tail _ (.tail _ (.tail _ (.tail _ (.head _))))))) (.tail _ (.tail _ (.tail _ (.tail _ (.tail _ (.tail _ (.tail _ (.head _)))))))) N
abbrev nxt (M : Model) (A : Around) (rest : List Stmt) (env : Env) (Q : Flow → Shared → Prop) (E : Value → Shared → Prop) : Flow → Shared → Prop := fun f s' => match f with
  | .next => wpAny M A (execs rest env) Q E s'
  | f => Q f s'
section
variable {M : Model} {A : Around} {E : Value → Shared → Prop} {env : Env} {s : Shared} {Q : Flow → Shared → Prop} {st : Stmt} {rest : List Stmt} {h : Heap} {gs : Array GenState} {dr : Drawn} {tk : Nat} {os : OsState}
theorem execs_nxt (k : wpAny M A (exec st env) (nxt M A rest env Q E) E s) : wpAny M A (execs (st :: rest) env) Q E s := wpAny_execs_cons k
theorem nxt_ret {v : Value} (k : Q (.ret v) s) : nxt M A rest env Q E (.ret v) s := k
theorem nxt_go (k : wpAny M A (execs rest env) Q E s) : nxt M A rest env Q E .next s := k
theorem gen_tks {α : Type} {t : Sem α} {Q : α → Shared → Prop} {X Y : Nat} (k : ∀ tk,wpAny M A t Q E ⟨h,gs,dr,tk,os⟩) : wpAny M A t Q E ⟨h,gs,dr,X + Y,os⟩ := k _
end
theorem subA {α : Type} {l1 l2 : List α} {p : α} (h : ∀ p ∈ l1,p ∈ l2) (hp : p ∈ l1) : p ∈ l2 := h p hp
noncomputable def Srt : List Nat → Prop
  | a :: b :: l => a < b ∧ Srt (b :: l)
  | _ => True
theorem Srt.head {l : List Nat} {a : Nat} (h : Srt (a :: l)) : ∀ b ∈ l,a < b := by
  induction l generalizing a with
  | nil => exact fun _ m => absurd m List.not_mem_nil
  | cons x l ih =>
    intro b hb
    rcases List.mem_cons.mp hb with e | hb
    · exact e ▸ h.1
    · exact Nat.lt_trans h.1 (ih h.2 b hb)
theorem Srt.tail : ∀ {l : List Nat} {a : Nat},Srt (a :: l) → Srt l
  | [],_,_ => trivial
  | _ :: _,_,h => h.2
theorem Srt.lt {l : List Nat} {i j a b : Nat} (h : Srt l) (hi : l[i]? = some a) (hj : l[j]? = some b) (n : i < j) : a < b := by
  induction l generalizing i j with
  | nil => exact absurd (List.mem_of_getElem? hi) List.not_mem_nil
  | cons x l ih =>
    cases j with
    | zero => exact absurd n (Nat.not_lt_zero _)
    | succ j =>
      cases i with
      | zero => exact Option.some.inj hi ▸ h.head b (List.mem_of_getElem? (show l[j]? = some b from hj))
      | succ i => exact ih h.tail hi hj (Nat.lt_of_succ_lt_succ n)
theorem Srt.ne {l : List Nat} {i j a b : Nat} (h : Srt l) (hi : l[i]? = some a) (hj : l[j]? = some b) (n : (j == i) = false) : b ≠ a := by
  rcases Nat.lt_or_ge i j with k | k
  · exact Nat.ne_of_gt (h.lt hi hj k)
  · exact Nat.ne_of_lt (h.lt hj hi (Nat.lt_of_le_of_ne k (beq_eq_false_iff_ne.mp n)))
theorem Srt.aa {l : List Nat} {i b : Nat} {led : Led} (h : Srt l) (hi : l[i]? = some b) (js : List Nat) (hj : led.map Prod.fst = js.filterMap (fun j => l[j]?)) (n : js.all (fun j => !(j == i)) = true) : AllNe b led :=
  allNe_of fun p hp => by
    have q : p.1 ∈ led.map Prod.fst := List.mem_map_of_mem hp
    rw [hj] at q
    obtain ⟨j,hj1,hj2⟩ := List.mem_filterMap.mp q
    exact h.ne hi hj2 (by simpa using List.all_eq_true.mp n j hj1)
theorem Srt.aa2 {l : List Nat} {led1 led2 : Led} (h : Srt l) (is js : List Nat) (hi : led1.map Prod.fst = is.filterMap (fun j => l[j]?)) (hj : led2.map Prod.fst = js.filterMap (fun j => l[j]?)) (n : is.all (fun i => js.all (fun j => !(j == i))) = true) : ∀ q ∈ led1,AllNe q.1 led2 := fun p hp => by
  have q : p.1 ∈ led1.map Prod.fst := List.mem_map_of_mem hp
  rw [hi] at q
  obtain ⟨i,hi1,hi2⟩ := List.mem_filterMap.mp q
  exact h.aa hi2 js hj (List.all_eq_true.mp n i hi1)
theorem ins5 {a b c d e p : Addr × Obj} {ys T : Led} (h : p ∈ a :: b :: c :: d :: e :: (ys ++ T)) : p ∈ ys ++ a :: b :: c :: d :: e :: T := by
  rcases List.mem_append.mp (show p ∈ [a,b,c,d,e] ++ (ys ++ T) from h) with h | h
  · exact List.mem_append_right _ (List.mem_append_left T h)
  · rcases List.mem_append.mp h with h | h
    · exact List.mem_append_left _ h
    · exact List.mem_append_right _ (List.mem_append_right [a,b,c,d,e] h)
theorem out5 {a b c d e p : Addr × Obj} {ys T : Led} (h : p ∈ ys ++ a :: b :: c :: d :: e :: T) : p ∈ a :: b :: c :: d :: e :: (ys ++ T) := by
  rcases List.mem_append.mp h with h | h
  · exact List.mem_append_right [a,b,c,d,e] (List.mem_append_left T h)
  · rcases List.mem_append.mp (show p ∈ [a,b,c,d,e] ++ T from h) with h | h
    · exact List.mem_append_left (ys ++ T) h
    · exact List.mem_append_right [a,b,c,d,e] (List.mem_append_right _ h)
theorem offL {a b : Addr} {vs : List Value} {its : Array Value} {n : Nat} {l : Led} (h : (a,tup vs) ∈ (b,listOf its n) :: l) : (a,tup vs) ∈ l := by
  rcases List.mem_cons.mp h with h | h
  · exact absurd (show Value.type "tuple" = Value.type "list" from congrArg (fun q => q.2.cls) h) (by decide)
  · exact h
theorem fa1 {α : Type} {P : α → Prop} {a : α} {l : List α} (ha : P a) (hl : ∀ p ∈ l,P p) : ∀ p ∈ a :: l,P p := List.forall_mem_cons.mpr ⟨ha,hl⟩
theorem fa2 {α : Type} {P : α → Prop} {a b : α} {l : List α} (ha : P a) (hb : P b) (hl : ∀ p ∈ l,P p) : ∀ p ∈ a :: b :: l,P p := fa1 ha (fa1 hb hl)
theorem fa3 {α : Type} {P : α → Prop} {a b c : α} {l : List α} (ha : P a) (hb : P b) (hc : P c) (hl : ∀ p ∈ l,P p) : ∀ p ∈ a :: b :: c :: l,P p := fa1 ha (fa2 hb hc hl)
theorem dec1 {n i : Nat} (h : i < n) : n + 1 - (i + 1) < n + 1 - i := Nat.sub_lt_sub_left (Nat.lt_succ_of_lt h) (Nat.lt_succ_self i)
theorem dec2 {n i : Nat} (h : i < n) : ∃ j,n - i = j + 1 ∧ n - (i + 1) = j := ⟨n - i - 1,(Nat.succ_pred_eq_of_pos (Nat.sub_pos_of_lt h)).symm,Nat.sub_add_eq n i 1⟩
theorem look_two1 {m : Mp} {x x₂ : Str} {a b : Value} (h : x ≠ x₂) : (fun y => if y = x₂ then some b else (fun y => if y = x then some a else m y) y) x = some a := by simp [h]
theorem look_two2 {m : Mp} {x₂ : Str} {b : Value} : (fun y => if y = x₂ then some b else m y) x₂ = some b := by simp
theorem comp_plain {scope : Scope} {cl : List (Str × Addr)} {C : Addr} {env : Env} (hkind : scope.kind = .function) : ((compEnvC scope cl C env).scope.kind == .class || ((compEnvC scope cl C env).scope.kind == .module && (compEnvC scope cl C env).locals != (compEnvC scope cl C env).globals)) = false := by simp [compEnvC,relabel,hkind]
abbrev CR (Q E : Value → Shared → Prop) : Result → Shared → Prop := fun r s' => match r with | .ok (.ret v) => Q v s' | .ok _ => False | .error e => E e s'
noncomputable def RetQ (h₀ : Heap) (L : Addr) (m : Mp) (g : Heap) (R : Result → Shared → Prop) : Flow → Shared → Prop := fun fl s' => LeaveK h₀ L m g R (match fl with | .ret v => v | _ => .none) s'
noncomputable def RetE (prog : Program) (w : World) (A : Around) (env : Env) (R : Result → Shared → Prop) : Value → Shared → Prop := fun e s' => wpAny (model prog w) A (leaving env e) (fun _ s'' => R (.error e) s'') (fun e' s'' => R (.error e') s'') s'
section
variable {prog : Program} {w : World} {A A₀ : Around} {E : Value → Shared → Prop} {K : Frag} {C L : Addr} {h₀ base h g : Heap} {m m' mg mb : Mp} {news : Led} {p : Program} {loose : List Str} {mean : ExcName → Option Value} {Q : Value → Shared → Prop} {gs : Array GenState} {dr : Drawn} {tk : Nat} {os : OsState} {L' : Addr}
theorem ret_go {v : Value} (F' : Fr g L' h m') (N' : News g L' h news) (k : Fr h₀ L h m → News h₀ L h news → Q v ⟨h,gs,dr,tk,os⟩) : RetQ h₀ L m g (CR Q E) (.ret v) ⟨h,gs,dr,tk,os⟩ := leaveK_ (s' := ⟨h,gs,dr,tk,os⟩) F' N' k
theorem ret_next (F' : Fr g L' h m') (N' : News g L' h news) (k : Fr h₀ L h m → News h₀ L h news → Q .none ⟨h,gs,dr,tk,os⟩) : RetQ h₀ L m g (CR Q E) .next ⟨h,gs,dr,tk,os⟩ := leaveK_ (s' := ⟨h,gs,dr,tk,os⟩) F' N' k
theorem call_at {env : Env} {outer : List Env} {name qual : Str} {params : Arguments} {body : List Stmt} {scope : Scope} {dV kV doc pm cdv ct oc : Value} {an od : Option Addr} {osl : Array (Option Value)} {f : Addr} {vs : List Value} {binds : List (Str × Value)} {s : Shared}
    (B : Below A₀ base outer h₀) (F : Fr h₀ L s.heap m) (X₀ : K.In h₀) (N : News h₀ L s.heap news) (T : Top p loose mean mg mb h₀) (hA : A.frames = some (env :: outer)) (hf : env.frame = some L) (hke : env.scope.kind = .function)
    (ho : K.lookup f = some ⟨oc,od,.func (fnOf name qual params body scope dV kV doc pm an cdv ct),osl⟩) (hcd : codeIn K cdv qual = true) (hroom : A.depth < recursionLimit)
    (hbind : BindsTo s (fnOf name qual params body scope dV kV doc pm an cdv ct) ⟨vs,[]⟩ binds) (hloc : ∀ y ∈ binds,scope.names.lookup y.1 = some .local)
    (h : let mf : Mp := fun y => binds.reverse.lookup y;∀ g L' h₁,Fr h₀ L g m → Fr g L' h₁ mf → News g L' h₁ news → Below A base (env :: outer) g → K.In g → Top p loose mean mg mb g → Froz s.heap news g →
      wpAny (model prog w) (A.deeper (envOf qual scope L' f cdv)) (execs body (envOf qual scope L' f cdv)) (RetQ h₀ L m g (CR Q E)) (RetE prog w (A.deeper (envOf qual scope L' f cdv)) (envOf qual scope L' f cdv) (CR Q E)) ⟨h₁,s.gens,s.drawn,s.toks + binds.length,s.os⟩)
    (hco : scope.isCoroutine = false) (hgen : scope.isGenerator = false) (hk : scope.kind = .function)
    (hcell : ∀ x ∈ scope.names,x.2 ≠ .cell) : wpAny (model prog w) A (call (.ref f) vs) Q E s :=
  wpAny_call (code_at B F X₀ N T hA hf hke ho hcd hroom hbind hloc (fun g L' h₁ a b c d e f z => h g L' h₁ a b c d e f z) hco hgen hk hcell)
theorem call_atC {env : Env} {outer : List Env} {name qual : Str} {params : Arguments} {body : List Stmt} {scope : Scope} {dV kV doc pm cdv ct oc : Value} {an od : Option Addr} {osl : Array (Option Value)} {f : Addr} {vs : List Value} {binds : List (Str × Value)} {s : Shared}
    (B : Below A₀ base outer h₀) (F : Fr h₀ L s.heap m) (X₀ : K.In h₀) (N : News h₀ L s.heap news) (T : Top p loose mean mg mb h₀) (hA : A.frames = some (env :: outer)) (hf : env.frame = some L) (hke : env.scope.kind = .function)
    (ho : K.lookup f = some ⟨oc,od,.func (fnOf name qual params body scope dV kV doc pm an cdv ct),osl⟩) (hcd : codeIn K cdv qual = true) (hroom : A.depth < recursionLimit)
    (hbind : BindsTo s (fnOf name qual params body scope dV kV doc pm an cdv ct) ⟨vs,[]⟩ binds) (hkind : (binds.all fun y => scope.names.lookup y.1 == some .local || scope.names.lookup y.1 == some .cell) = true)
    (hnd : ((cellsFrom 0 scope.names []).map (·.1)).Nodup)
    (h : ∀ g L' h₁ tk cells,Fr h₀ L g m → Fr g L' h₁ (bindL (envOfC qual scope L' f cdv).kindOf binds fun _ => none) → News g L' h₁ (cells ++ news) →
      CellsAre (bindC (envOfC qual scope L' f cdv).kindOf binds fun _ => none) (cellsFrom (L' + 1) scope.names []) cells → Below A base (env :: outer) g → K.In g → Top p loose mean mg mb g → (∀ p ∈ news,p.1 < L') → Froz s.heap news g →
      wpAny (model prog w) (A.deeper (envOfC qual scope L' f cdv)) (execs body (envOfC qual scope L' f cdv)) (RetQ h₀ L m g (CR Q E)) (RetE prog w (A.deeper (envOfC qual scope L' f cdv)) (envOfC qual scope L' f cdv) (CR Q E)) ⟨h₁,s.gens,s.drawn,tk,s.os⟩)
    (hco : scope.isCoroutine = false) (hgen : scope.isGenerator = false) (hk : scope.kind = .function) : wpAny (model prog w) A (call (.ref f) vs) Q E s :=
  wpAny_call (code_atC B F X₀ N T hA hf hke ho hcd hroom hbind hkind hnd h hco hgen hk)
end
set_option genInjectivity false in
structure PC where
  w : World
  A : Around
  cn : Str
  cs : Scope
  L : Addr
  a : Addr
  ccd : Value
  cl : List (Str × Addr)
  h : Heap
  gs : Array GenState
  dr : Drawn
  os : OsState
  h₀ : Heap
  m : Mp
  led : Led
  mean : ExcName → Option Value
  mg : Mp
  mb : Mp
  F : Fr h₀ L h m
  N : News h₀ L h led
  X : (k0.heap_1 w.params).In h₀
  T : Top vw (looseW vw LO) mean mg mb h₀
  hk : cs.kind = .function
abbrev PC.env (c : PC) : Env := envX c.cn c.cs c.L c.a c.ccd c.cl
structure Ev (c : PC) (tk : Nat) (e : Expr) (v : Value) (tk' : Nat) : Prop where
  st : ∀ rest,starEach (e :: rest) c.env = (false,eval e c.env) :: starEach rest c.env
  go : ∀ (Q E : Value → Shared → Prop),Q v ⟨c.h,c.gs,c.dr,tk',c.os⟩ → wpAny (model PG c.w) c.A (eval e c.env) Q E ⟨c.h,c.gs,c.dr,tk,c.os⟩
section
variable {c : PC} {tk tk1 tk2 : Nat} {x : Str} {pos p2 : Pos} {v : Value} {e l r : Expr} {es : List Expr} {vs : List Value}
theorem ev_nm (hv : c.m x = some v) (hk : (c.env.kindOf x == some .local && !(x == ("__debug__" : Str))) = true) : Ev c tk (.Name x pos) v tk := by
  rw [Bool.and_eq_true,Bool.not_eq_true',beq_iff_eq] at hk
  exact ⟨fun _ => rfl,fun Q E hq => nameX_L (s := ⟨c.h,c.gs,c.dr,tk,c.os⟩) c.F hv hq c.hk hk.1 hk.2⟩
theorem ev_ni {i : Int} {k : Nat} : Ev c tk (.Constant (.int i) k pos) (.int i tk) (tk + 1) := ⟨fun _ => rfl,fun _ _ hq => wpAny_Constant_int (s := ⟨c.h,c.gs,c.dr,tk,c.os⟩) hq⟩
theorem ev_ns {i : Str} {k : Nat} : Ev c tk (.Constant (.str i) k pos) (.str i tk) (tk + 1) := ⟨fun _ => rfl,fun _ _ hq => PySem.Calls.Constant_str (s := ⟨c.h,c.gs,c.dr,tk,c.os⟩) hq⟩
theorem ev_nb {i : Bool} {k : Nat} : Ev c tk (.Constant (.bool i) k pos) (.bool i) tk := ⟨fun _ => rfl,fun _ _ hq => wpAny_Constant_bool hq⟩
theorem ev_nn {k : Nat} : Ev c tk (.Constant .none k pos) .none tk := ⟨fun _ => rfl,fun _ _ hq => wpAny_Constant_none hq⟩
theorem ev_gl (hv : nsIn (k0.heap_1 c.w.params) mainGlobals x = some (some v)) (hk : (c.env.kindOf x == some .globalImplicit && !(x == ("__debug__" : Str))) = true) : Ev c tk (.Name x pos) v tk := by
  rw [Bool.and_eq_true,Bool.not_eq_true',beq_iff_eq] at hk
  exact ⟨fun _ => rfl,fun Q E hq => nameX_K (s := ⟨c.h,c.gs,c.dr,tk,c.os⟩) c.F c.X (topRead_of c.T) hv hq c.hk hk.1 hk.2⟩
theorem ev_cl {o : Obj} {b : Addr} (hc : c.cl.lookup x = some b) (hm : (b,o) ∈ c.led) (hd : o.data = .cell (some v)) (hk : (c.env.kindOf x == some .cell && !(x == ("__debug__" : Str))) = true) : Ev c tk (.Name x pos) v tk := by
  rw [Bool.and_eq_true,Bool.not_eq_true',beq_iff_eq] at hk
  exact ⟨fun _ => rfl,fun Q E hq => nameX_C (s := ⟨c.h,c.gs,c.dr,tk,c.os⟩) c.N hc hm hd hq c.hk hk.1 hk.2⟩
theorem ev_ix {t : Addr} {ol : List Value} {k : Int} {kk j : Nat} {y : Value} (hl : Ev c tk l (.ref t) tk1) (ht : (t,tup ol) ∈ c.led) (hb : (decide (-(2 ^ 63) ≤ k) && decide (k < 2 ^ 63)) = true) (hj : seqIndex? k ol.length = some j) (hy : ol[j]? = some y) :
    Ev c tk (.Subscript l (.Constant (.int k) kk p2) pos) y (tk1 + 1) := by
  rw [Bool.and_eq_true] at hb
  exact ⟨fun _ => rfl,fun Q E hq => Subscript_ (hl.2 _ _ (wpAny_Constant_int (s := ⟨c.h,c.gs,c.dr,tk1,c.os⟩) (item_tupleT (s := ⟨c.h,c.gs,c.dr,tk1 + 1,c.os⟩) (News.isTup c.N ht) (of_decide_eq_true hb.1) (of_decide_eq_true hb.2) hj hy hq)))⟩
inductive Evs (c : PC) : Nat → List Expr → List Value → Nat → Prop
  | nil {tk : Nat} : Evs c tk [] [] tk
  | cons {tk tk1 tk2 : Nat} {e : Expr} {v : Value} {es : List Expr} {vs : List Value} (h : Ev c tk e v tk1) (r : Evs c tk1 es vs tk2) : Evs c tk (e :: es) (v :: vs) tk2
theorem Evs.head (d : Evs c tk (e :: es) vs tk2) (rest : List Expr) : starEach (e :: rest) c.env = (false,eval e c.env) :: starEach rest c.env := by
  cases d with
  | cons h r => exact h.1 rest
theorem evs_args {Q : List Value → Shared → Prop} {E : Value → Shared → Prop} (d : Evs c tk es vs tk2) (hq : Q vs ⟨c.h,c.gs,c.dr,tk2,c.os⟩) : wpAny (model PG c.w) c.A (spliced (backTo pos (starEach es c.env))) Q E ⟨c.h,c.gs,c.dr,tk,c.os⟩ := by
  induction d generalizing Q with
  | nil => exact args_nil hq
  | cons h r ih => exact args_cons (h.2 _ _ (ih (Q := fun vs s₂ => Q (_ :: vs) s₂) hq)) (h.1 _)
theorem Evs.inv (d : Evs c tk (e :: es) vs tk2) : ∃ v tk1 vs',vs = v :: vs' ∧ Ev c tk e v tk1 ∧ Evs c tk1 es vs' tk2 := by
  cases d with
  | cons h r => exact ⟨_,_,_,rfl,h,r⟩
theorem Evs.nil_inv (d : Evs c tk [] vs tk2) : tk2 = tk := by
  cases d with
  | nil => rfl
theorem evs_two {Q : Value → Value → Shared → Prop} {E : Value → Shared → Prop} {b : Value} (d : Evs c tk [l,r] [v,b] tk2) (hq : Q v b ⟨c.h,c.gs,c.dr,tk2,c.os⟩) :
    wpAny (model PG c.w) c.A (eval l c.env) (fun a s₁ => wpAny (model PG c.w) c.A (eval r c.env) (fun b s₂ => Q a b s₂) E s₁) E ⟨c.h,c.gs,c.dr,tk,c.os⟩ := by
  obtain ⟨_,_,_,e1,h,d⟩ := d.inv
  obtain ⟨_,_,_,e2,h2,d⟩ := d.inv
  cases d.nil_inv
  injection e1 with e1 e3
  subst e1
  subst e3
  injection e2 with e2 e4
  subst e2
  exact h.2 _ _ (h2.2 _ _ hq)
end
section
variable {w : World} {A : Around} {cn : Str} {cs : Scope} {L a : Addr} {ccd : Value} {cl : List (Str × Addr)} {h h₀ : Heap} {gs : Array GenState} {dr : Drawn} {os : OsState} {m mg mb : Mp} {led : Led} {mean : ExcName → Option Value} {E : Value → Shared → Prop}
  (F : Fr h₀ L h m) (N : News h₀ L h led) (X : (k0.heap_1 w.params).In h₀) (T : Top vw (looseW vw LO) mean mg mb h₀) (hk : cs.kind = .function)
  {tk tk1 tk2 : Nat} {pos pos' : Pos} {e l r : Expr} {es : List Expr} {v b : Value} {vs : List Value}
include F N X T hk
theorem args_E {Q : List Value → Shared → Prop} (d : Evs ⟨w,A,cn,cs,L,a,ccd,cl,h,gs,dr,os,h₀,m,led,mean,mg,mb,F,N,X,T,hk⟩ tk es vs tk1) (hq : Q vs ⟨h,gs,dr,tk1,os⟩) :
    wpAny (model PG w) A (spliced (backTo pos (starEach es (envX cn cs L a ccd cl)))) Q E ⟨h,gs,dr,tk,os⟩ := evs_args d hq
theorem args_1E {Q : List Value → Shared → Prop} (d : Ev ⟨w,A,cn,cs,L,a,ccd,cl,h,gs,dr,os,h₀,m,led,mean,mg,mb,F,N,X,T,hk⟩ tk e v tk1) (hq : wpAny (model PG w) A (spliced (backTo pos (starEach es (envX cn cs L a ccd cl)))) (fun vs s₂ => Q (v :: vs) s₂) E ⟨h,gs,dr,tk1,os⟩) :
    wpAny (model PG w) A (spliced (backTo pos (starEach (e :: es) (envX cn cs L a ccd cl)))) Q E ⟨h,gs,dr,tk,os⟩ := args_cons (d.2 _ _ hq) (d.1 _)
theorem eval_E {Q : Value → Shared → Prop} (d : Ev ⟨w,A,cn,cs,L,a,ccd,cl,h,gs,dr,os,h₀,m,led,mean,mg,mb,F,N,X,T,hk⟩ tk e v tk1) (hq : Q v ⟨h,gs,dr,tk1,os⟩) :
    wpAny (model PG w) A (eval e (envX cn cs L a ccd cl)) Q E ⟨h,gs,dr,tk,os⟩ := d.2 _ _ hq
theorem call_E {x : Str} {f : Value} {Q : Value → Shared → Prop} (en : nsIn (k0.heap_1 w.params) mainGlobals x = some (some f)) (hf : keepIn (k0.heap_1 w.params) f = true)
    (d : Evs ⟨w,A,cn,cs,L,a,ccd,cl,h,gs,dr,os,h₀,m,led,mean,mg,mb,F,N,X,T,hk⟩ tk (e :: es) vs tk1) (hq : wpAny (model PG w) A (call f vs) Q E ⟨h,gs,dr,tk1,os⟩)
    (hx : ((envX cn cs L a ccd cl).kindOf x == some .globalImplicit && !(x == ("__debug__" : Str))) = true) (hp : (backTo pos' (starEach es (envX cn cs L a ccd cl))).any (·.1) = false)
    (he : eval (.Call (.Name x pos) (e :: es) [] pos') (envX cn cs L a ccd cl) = (do callWith pos' (← eval (.Name x pos) (envX cn cs L a ccd cl)) [] (backTo pos' (starEach (e :: es) (envX cn cs L a ccd cl))) (backToKw pos' (keywordEach [] (envX cn cs L a ccd cl))))) :
    wpAny (model PG w) A (eval (.Call (.Name x pos) (e :: es) [] pos') (envX cn cs L a ccd cl)) Q E ⟨h,gs,dr,tk,os⟩ := by
  rw [Bool.and_eq_true,Bool.not_eq_true',beq_iff_eq] at hx
  refine Call_ ?_ he
  refine nameX_K (s := ⟨h,gs,dr,tk,os⟩) F X (topRead_of T) en ?_ hk hx.1 hx.2
  exact callWith_K (first := []) X hf (evs_args d ⟨X.keeps F.keep,hq⟩) (d.head es) hp
theorem bin_E {op : Operator} {Q : Value → Shared → Prop} (d : Evs ⟨w,A,cn,cs,L,a,ccd,cl,h,gs,dr,os,h₀,m,led,mean,mg,mb,F,N,X,T,hk⟩ tk [l,r] [v,b] tk1) (hq : wpAny (model PG w) A (binaryOp op v b) Q E ⟨h,gs,dr,tk1,os⟩) :
    wpAny (model PG w) A (eval (.BinOp l op r pos) (envX cn cs L a ccd cl)) Q E ⟨h,gs,dr,tk,os⟩ := wpAny_BinOp (evs_two (Q := fun a b s₂ => wpAny (model PG w) A (binaryOp op a b) Q E s₂) d hq)
theorem bin_1E {op : Operator} {Q : Value → Shared → Prop} (d : Ev ⟨w,A,cn,cs,L,a,ccd,cl,h,gs,dr,os,h₀,m,led,mean,mg,mb,F,N,X,T,hk⟩ tk l v tk1) (hq : wpAny (model PG w) A (eval r (envX cn cs L a ccd cl)) (fun b s₂ => wpAny (model PG w) A (binaryOp op v b) Q E s₂) E ⟨h,gs,dr,tk1,os⟩) :
    wpAny (model PG w) A (eval (.BinOp l op r pos) (envX cn cs L a ccd cl)) Q E ⟨h,gs,dr,tk,os⟩ := wpAny_BinOp (d.2 _ _ hq)
theorem cmp_E {op : CmpOp} {Q : Value → Shared → Prop} (d : Evs ⟨w,A,cn,cs,L,a,ccd,cl,h,gs,dr,os,h₀,m,led,mean,mg,mb,F,N,X,T,hk⟩ tk [l,r] [v,b] tk1) (hq : wpAny (model PG w) A (compareOp op v b) Q E ⟨h,gs,dr,tk1,os⟩)
    (hm : behindInMarks op r = false) : wpAny (model PG w) A (eval (.Compare l [op] [r] pos) (envX cn cs L a ccd cl)) Q E ⟨h,gs,dr,tk,os⟩ := wpAny_Compare1 (evs_two (Q := fun a b s₂ => wpAny (model PG w) A (compareOp op a b) Q E s₂) d hq) hm
theorem cmpT_E {op : CmpOp} {whole : Sem Value} {Q : Bool → Shared → Prop} (d : Evs ⟨w,A,cn,cs,L,a,ccd,cl,h,gs,dr,os,h₀,m,led,mean,mg,mb,F,N,X,T,hk⟩ tk [l,r] [v,b] tk1) (hq : wpAny (model PG w) A (compareOp op v b) (fun c s₃ => wpAny (model PG w) A (truthy c) Q E s₃) E ⟨h,gs,dr,tk1,os⟩)
    (hm : behindInMarks op r = false) : wpAny (model PG w) A (isTrue (.Compare l [op] [r] pos) (envX cn cs L a ccd cl) whole) Q E ⟨h,gs,dr,tk,os⟩ :=
  wpAny_isTrue_Compare1 (evs_two (Q := fun a b s₂ => wpAny (model PG w) A (compareOp op a b) (fun c s₃ => wpAny (model PG w) A (truthy c) Q E s₃) E s₂) d hq) hm
theorem sub_E {Q : Value → Shared → Prop} (d : Evs ⟨w,A,cn,cs,L,a,ccd,cl,h,gs,dr,os,h₀,m,led,mean,mg,mb,F,N,X,T,hk⟩ tk [l,r] [v,b] tk1) (hq : wpAny (model PG w) A (subscriptTail l r v b) Q E ⟨h,gs,dr,tk1,os⟩) :
    wpAny (model PG w) A (eval (.Subscript l r pos) (envX cn cs L a ccd cl)) Q E ⟨h,gs,dr,tk,os⟩ := Subscript_ (evs_two (Q := fun a b s₂ => wpAny (model PG w) A (subscriptTail l r a b) Q E s₂) d hq)
theorem tup_E {k : Nat} {Q : Value → Shared → Prop} (d : Evs ⟨w,A,cn,cs,L,a,ccd,cl,h,gs,dr,os,h₀,m,led,mean,mg,mb,F,N,X,T,hk⟩ tk es vs tk1) (hq : wpAny (model PG w) A (newTuple vs) Q E ⟨h,gs,dr,tk1,os⟩) :
    wpAny (model PG w) A (eval (.Tuple es k pos) (envX cn cs L a ccd cl)) Q E ⟨h,gs,dr,tk,os⟩ := Tuple_ (evs_args d hq)
theorem list_E {Q : Value → Shared → Prop} (d : Evs ⟨w,A,cn,cs,L,a,ccd,cl,h,gs,dr,os,h₀,m,led,mean,mg,mb,F,N,X,T,hk⟩ tk es vs tk1) (hq : wpAny (model PG w) A (newList vs) Q E ⟨h,gs,dr,tk1,os⟩) :
    wpAny (model PG w) A (eval (.List es pos) (envX cn cs L a ccd cl)) Q E ⟨h,gs,dr,tk,os⟩ := List_ (evs_args d hq)
end
theorem rng1 {P : Int → Prop} [DecidablePred P] (lo hi : Int) (h : ((List.range (hi - lo + 1).toNat).all fun (i : Nat) => decide (P (lo + (i : Int)))) = true) {x : Int} (h1 : lo ≤ x) (h2 : x ≤ hi) : P x := by
  have := of_decide_eq_true (List.all_eq_true.mp h (x - lo).toNat (List.mem_range.mpr (by omega)))
  rwa [Int.toNat_of_nonneg (Int.sub_nonneg_of_le h1),Int.add_comm,Int.sub_add_cancel] at this
theorem rng2 {P : Int → Int → Prop} [∀ a b,Decidable (P a b)] (lo hi lo' hi' : Int) (h : ((List.range (hi - lo + 1).toNat).all fun (i : Nat) => (List.range (hi' - lo' + 1).toNat).all fun (j : Nat) => decide (P (lo + (i : Int)) (lo' + (j : Int)))) = true) {x y : Int} (h1 : lo ≤ x) (h2 : x ≤ hi) (h3 : lo' ≤ y) (h4 : y ≤ hi') : P x y :=
  rng1 (P := fun y => P x y) lo' hi' (rng1 (P := fun x => ((List.range (hi' - lo' + 1).toNat).all fun (j : Nat) => decide (P x (lo' + (j : Int)))) = true) lo hi (List.all_eq_true.mpr fun i hi => decide_eq_true (List.all_eq_true.mp h i hi)) h1 h2) h3 h4
theorem abs_mono {a A : Int} (h1 : -A ≤ a) (h2 : a ≤ A) : a.natAbs ≤ A.natAbs := by omega
theorem of_abs {x A : Int} (hA : 0 ≤ A) (h : x.natAbs ≤ A.natAbs) : -A ≤ x ∧ x ≤ A := by omega
theorem abs_lt {x A : Int} {n : Nat} (h1 : -A ≤ x) (h2 : x ≤ A) (h : decide (A.natAbs < n) = true) : x.natAbs < n := Nat.lt_of_le_of_lt (abs_mono h1 h2) (of_decide_eq_true h)
theorem eq_iff_of {a b c d : Int} (k1 : a < b ↔ c < d) (k2 : a ≤ b ↔ c ≤ d) : a = b ↔ c = d :=
  ⟨fun h => Int.le_antisymm (k2.mp (Int.le_of_eq h)) (Int.not_lt.mp fun x => Int.ne_of_lt (k1.mpr x) h),fun h => Int.le_antisymm (k2.mpr (Int.le_of_eq h)) (Int.not_lt.mp fun x => Int.ne_of_lt (k1.mp x) h)⟩
theorem neg_bd {x A : Int} (h : -A ≤ x ∧ x ≤ A) : -A ≤ -x ∧ -x ≤ A := ⟨Int.neg_le_neg h.2,Int.neg_le_of_neg_le h.1⟩
theorem bd_wide {x A B : Int} (h : -A ≤ x ∧ x ≤ A) (e : decide (A ≤ B) = true) : -B ≤ x ∧ x ≤ B := ⟨Int.le_trans (Int.neg_le_neg (of_decide_eq_true e)) h.1,Int.le_trans h.2 (of_decide_eq_true e)⟩
theorem om_cp {a : Nat} (h : 0 < a) : (0 : Int) < (a : Int) := Int.ofNat_lt.mpr h
theorem om_lt {a b : Nat} (h : a < b) : (a : Int) < (b : Int) := Int.ofNat_lt.mpr h
theorem om_tl {a b : Nat} (h : (a : Int) < (b : Int)) : a < b := Int.ofNat_lt.mp h
theorem om_two {x : Int} {a b n : Nat} (h : x = (a : Int) ∨ x = (b : Int)) (h1 : a < n) (h2 : b < n) : 0 ≤ x ∧ x < (n : Int) := by
  rcases h with rfl | rfl
  · exact ⟨Int.natCast_nonneg _,Int.ofNat_lt.mpr h1⟩
  · exact ⟨Int.natCast_nonneg _,Int.ofNat_lt.mpr h2⟩
theorem om_sub {x y A B : Int} (h1 : -A ≤ x ∧ x ≤ A) (h2 : -A ≤ y ∧ y ≤ A) (e : decide (A + A ≤ B) = true) : -B ≤ x - y ∧ x - y ≤ B := by
  have k := bd_wide (A := A + A) (B := B) (x := x - y) ⟨by rw [Int.neg_add];exact Int.sub_le_sub h1.1 h2.2,by have := Int.sub_le_sub h1.2 h2.1;rwa [Int.sub_neg] at this⟩ e
  exact k
theorem room4 {a b c d f k n : Nat} (h : a + k < n) (e : Nat.ble (b + c + d + f) k = true) : a + b + c + d + f < n := Nat.add_assoc a b c ▸ Nat.add_assoc a (b + c) d ▸ Nat.add_assoc a (b + c + d) f ▸ room1 h e
section
variable {M : Model} {A : Around} {E : Value → Shared → Prop} {s : Shared} {env : Env} {ts : List (Value → Sem Unit)} {x y z : Str} {p1 p2 p3 pos : Pos} {a b c : Value}
theorem aio2a {Q : Unit → Shared → Prop} (e : ts = [assign (.Name x p1) env,assign (.Name y p2) env]) (h : wpAny M A (storeName env x a) (fun _ s₁ => wpAny M A (storeName env y b) Q E s₁) E s) : wpAny M A (assignInOrder ts [a,b]) Q E s := by
  rw [e]
  exact assignInOrder_cons (assign_Name (wpAny_mono h (fun _ _ k => assignInOrder_cons (assign_Name (wpAny_mono k (fun _ _ q => assignInOrder_nil q) fun _ _ e => e))) fun _ _ e => e))
theorem aio2b {Q : Unit → Shared → Prop} (e : ts = [bindName env x,bindName env y]) (h : wpAny M A (storeName env x a) (fun _ s₁ => wpAny M A (storeName env y b) Q E s₁) E s) : wpAny M A (assignInOrder ts [a,b]) Q E s := by
  rw [e]
  exact assignInOrder_cons (bindName_ (wpAny_mono h (fun _ _ k => assignInOrder_cons (bindName_ (wpAny_mono k (fun _ _ q => assignInOrder_nil q) fun _ _ e => e))) fun _ _ e => e))
theorem aio3a {Q : Unit → Shared → Prop} (e : ts = [assign (.Name x p1) env,assign (.Name y p2) env,assign (.Name z p3) env]) (h : wpAny M A (storeName env x a) (fun _ s₁ => wpAny M A (storeName env y b) (fun _ s₂ => wpAny M A (storeName env z c) Q E s₂) E s₁) E s) : wpAny M A (assignInOrder ts [a,b,c]) Q E s := by
  rw [e]
  exact assignInOrder_cons (assign_Name (wpAny_mono h (fun _ _ k => aio2a rfl k) fun _ _ e => e))
theorem aio3b {Q : Unit → Shared → Prop} (e : ts = [bindName env x,bindName env y,bindName env z]) (h : wpAny M A (storeName env x a) (fun _ s₁ => wpAny M A (storeName env y b) (fun _ s₂ => wpAny M A (storeName env z c) Q E s₂) E s₁) E s) : wpAny M A (assignInOrder ts [a,b,c]) Q E s := by
  rw [e]
  exact assignInOrder_cons (bindName_ (wpAny_mono h (fun _ _ k => aio2b rfl k) fun _ _ e => e))
noncomputable def ifK (M : Model) (A : Around) (body orelse : List Stmt) (env : Env) (Q : Flow → Shared → Prop) (E : Value → Shared → Prop) : Bool → Shared → Prop := fun b s => if b = true then wpAny M A (execs body env) Q E s else wpAny M A (execs orelse env) Q E s
variable {body orelse : List Stmt} {test : Expr} {Q : Flow → Shared → Prop}
theorem if_S (h : wpAny M A (isTrue test env (eval test env)) (ifK M A body orelse env Q E) E s) : wpAny M A (exec (.If test body orelse pos) env) Q E s := wpAny_If h
theorem ifK_t (h : wpAny M A (execs body env) Q E s) : ifK M A body orelse env Q E true s := h
theorem ifK_f (h : wpAny M A (execs orelse env) Q E s) : ifK M A body orelse env Q E false s := h
theorem ifK_o {b : Bool} (h : if b = true then wpAny M A (execs body env) Q E s else wpAny M A (execs orelse env) Q E s) : ifK M A body orelse env Q E b s := h
end
theorem bump2 {a b : Int} {i : Nat} (g : b ≤ a + 2 * (i : Int)) : b + 1 + 1 ≤ a + 2 * ((i + 1 : Nat) : Int) := by omega
theorem bump2x {a b x : Int} {i : Nat} (e : x = (i : Int)) (g : b ≤ a + 2 * x) : b + 1 + 1 ≤ a + 2 * ((i + 1 : Nat) : Int) := bump2 (e ▸ g)
theorem bump3 {a b : Int} {i : Nat} (g : b ≤ a + 3 * (i : Int)) : b + 1 + 1 + 1 ≤ a + 3 * ((i + 1 : Nat) : Int) := by omega
theorem om_three {x : Int} {a b c n : Nat} (h : x = (a : Int) ∨ x = (b : Int) ∨ x = (c : Int)) (h1 : a < n) (h2 : b < n) (h3 : c < n) : 0 ≤ x ∧ x < (n : Int) := by
  rcases h with h | h | h
  · exact om_two (.inl h) h1 h1
  · exact om_two (.inl h) h2 h2
  · exact om_two (.inl h) h3 h3
theorem tn1 {i n : Nat} (h : (i : Int) < (n : Int)) : Int.toNat (i : Int) < n := Int.ofNat_lt.mp h
theorem tnx {x : Int} {i n : Nat} (e : x = (i : Int)) (h : x < (n : Int)) : Int.toNat x < n := by
  subst e
  exact tn1 h
theorem abs1 {x : Int} (h : x.natAbs = 1) : x = 1 ∨ x = -1 := Int.natAbs_eq x |>.imp (fun e => e.trans (congrArg Nat.cast h)) (fun e => e.trans (congrArg (fun n : Nat => -(n : Int)) h))
theorem om_or {x l : Nat} (h : x = 1 ∨ x = 2) (e : Nat.ble 2 l = true) : x ≤ l := by
  rcases h with rfl | rfl
  · exact Nat.le_trans (by decide) (Nat.le_of_ble_eq_true e)
  · exact Nat.le_of_ble_eq_true e
theorem om_or2 {x y l : Nat} (g : y = x) (h : x = 1 ∨ x = 2) (e : Nat.ble 2 l = true) : y ≤ l := g ▸ om_or h e
theorem npos {x : Int} (h : ¬ x = 0) : (0 : Int) < (x.natAbs : Int) := Int.ofNat_lt.mpr (Int.natAbs_pos.mpr h)
theorem fc1 {a b : Int} (h : ¬ a < b) : false = decide (a < b) := (decide_eq_false h).symm
theorem fc2 {a b : Int} (h : ¬ a < b) (e : a ≠ b) : (a == b) = decide (a < b) := (beq_eq_false_iff_ne.mpr e).trans (decide_eq_false h).symm
theorem fc3 {a b : Int} (h : a < b) : decide (a < b) = decide (a ≤ b) := (decide_eq_true h).trans (decide_eq_true (Int.le_of_lt h)).symm
theorem fc4 {a b : Int} (e : a = b) : true = decide (a ≤ b) := (decide_eq_true (Int.le_of_eq e)).symm
theorem fc5 {a b : Int} (h : ¬ a < b) (e : a ≠ b) : (a == b) = decide (a ≤ b) := (beq_eq_false_iff_ne.mpr e).trans (decide_eq_false fun l => (Int.lt_or_eq_of_le l).elim h e).symm
section
variable {M : Model} {A : Around} {E : Value → Shared → Prop} {s : Shared} {env : Env} {x y z : Str} {p1 p2 p3 pos tpos : Pos} {k : Nat} {value : Expr} {Q : Flow → Shared → Prop}
theorem swap2 (h : wpAny M A (eval value env) (fun v s₁ => wpAny M A (unpackItems v 2 none) (fun items s₂ => wpAny M A (assignInOrder [bindName env y,bindName env x] items.reverse) (fun _ => Q .next) E s₂) E s₁) E s)
    (hs : swapsWithSole [.Tuple [.Name x p1,.Name y p2] k tpos] value pos.line env = pure false) (hw : swappedStores [.Tuple [.Name x p1,.Name y p2] k tpos] value env = pure (some [x,y])) :
    wpAny M A (exec (.Assign [.Tuple [.Name x p1,.Name y p2] k tpos] value pos) env) Q E s := Assign_Tuple_swapped (names := [x,y]) h hs hw
theorem swap3 (h : wpAny M A (eval value env) (fun v s₁ => wpAny M A (unpackItems v 3 none) (fun items s₂ => wpAny M A (assignInOrder [bindName env z,bindName env y,bindName env x] items.reverse) (fun _ => Q .next) E s₂) E s₁) E s)
    (hs : swapsWithSole [.Tuple [.Name x p1,.Name y p2,.Name z p3] k tpos] value pos.line env = pure false) (hw : swappedStores [.Tuple [.Name x p1,.Name y p2,.Name z p3] k tpos] value env = pure (some [x,y,z])) :
    wpAny M A (exec (.Assign [.Tuple [.Name x p1,.Name y p2,.Name z p3] k tpos] value pos) env) Q E s := Assign_Tuple_swapped (names := [x,y,z]) h hs hw
end
end
theorem set_1 : True := by
  k_with "H:o_cases" => (((case hA => exact rfl);(case hf => exact rfl);(case hke => assumption);(case B => k_asm);(case F => k_asm);(case X₀ => k_asm);(case N => k_asm);(case T => k_asm);(case ho => k_is);(case hcd => k_is);(case hroom => ktr_room);(case hbind => exact BindsTo.of_eq rfl);(case hcell => decide);(case hloc => exact locs rfl);(case hco => exact rfl);(case hgen => exact rfl);(case hk => exact rfl)))
  k_with "H:o_rest" => ((k_dflt (k_extra "H:o_cases";k_extra "H:o_intro")))
  k_with "H:fold2" => ((refine (let Ak := _;let qk := _;let ek := _;(?_ : wpAny _ Ak _ qk ek _))))
  k_with "H:o_intro" => ((k_whole;intro _ _ _ _ _ _ _ _ _ _ _;k_extra "H:fold2"))
  k_with "H:ktr_cases" => (((case hA => exact rfl);(case hf => exact rfl);(case hke => assumption);(case B => k_asm);(case F => k_asm);(case X₀ => k_asm);(case N => k_asm);(case T => k_asm);(case ho => k_is);(case hcd => k_is);(case hroom => ktr_room);(case hbind => exact BindsTo.of_eq rfl);(case hkind => exact rfl);(case hnd => decide +kernel);(case hco => exact rfl);(case hgen => exact rfl);(case hk => exact rfl)))
  k_with "H:ktr_rest" => ((k_dflt (k_extra "H:ktr_cases";k_extra "H:ktr_intro")))
  k_with "H:ktr_intro" => ((k_whole;intro _ _ _ _ _ _ _ N₁ Y₁ B₁ _ _ l₁ _;(try k_lt l₁);k_cells Y₁;(try simp only [List.cons_append,List.nil_append] at N₁);(try dsimp only);(try k_lift B₁);k_extra "H:fold2"))
  exact trivial
local macro_rules | `(tactic| ktr_step) => `(tactic| k_extra "T:ktr_step")
theorem set_2 : True := by
  k_with "T:ktr_step" => ((k_dflt (apply call_atC);k_extra "H:ktr_rest"))
  exact trivial
local macro_rules | `(tactic| ktr_room) => `(tactic| k_extra "T:ktr_room")
theorem set_3 : True := by
  k_with "T:ktr_room" => (((try dsimp +zetaDelta only [ktrTop,Around.deeper]);first | exact room2 (by assumption) rfl | exact room1 (by assumption) rfl | exact room0 (by assumption) | exact room3 (by assumption) rfl | omega))
  exact trivial
local macro_rules | `(tactic| ktr_units) => `(tactic| k_extra "T:ktr_units")
theorem set_4 : True := by
  k_with "T:ktr_units" => (((try dsimp +zetaDelta only [ktrTop,Around.deeper]);first | exact room2 (by assumption) rfl | exact room1 (by assumption) rfl | exact room0 (by assumption) | exact room3 (by assumption) rfl | omega))
  exact trivial
local macro_rules | `(tactic| k_lt $h) => `(tactic| (with_reducible replace $h := allLt_cons (allLt_of $h)))
local macro_rules | `(tactic| k_room) => `(tactic| k_extra "T:k_room")
theorem set_5 : True := by
  k_with "T:k_room" => (first | (refine' Nat.ne_of_lt (AllLt.at ?q9ka ?q9kb);(case q9ka => with_reducible assumption);(case q9kb => k_mem)) | (refine' ne_up1 (AllLt.at ?q9ka ?q9kb);(case q9ka => with_reducible assumption);(case q9kb => k_mem)) | (refine' ne_up2 (AllLt.at ?q9ka ?q9kb);(case q9ka => with_reducible assumption);(case q9kb => k_mem)) | (refine' ne_up3 (AllLt.at ?q9ka ?q9kb);(case q9ka => with_reducible assumption);(case q9kb => k_mem)) | (refine' ne_up4 (AllLt.at ?q9ka ?q9kb);(case q9ka => with_reducible assumption);(case q9kb => k_mem)) | (refine' off3_I ?q9ka ?q9kb;(case q9ka => with_reducible assumption);(case q9kb => k_mem)) | (refine' off3_C ?q9ka ?q9kb;(case q9ka => with_reducible assumption);(case q9kb => k_mem)) | (refine' off3_D ?q9ka ?q9kb;(case q9ka => with_reducible assumption);(case q9kb => k_mem)) | exact and3_1 (by with_reducible assumption) | exact and3_2 (by with_reducible assumption) | exact and3_3 (by with_reducible assumption))
  k_with "!CompRest" => ((with_unfolding_all first | (refine LCg.CompRest.succ ?_;intro _ _ _ _ _ _ _ _ _ _ q9hv' _ _ _ _ _ _;(first | lcg_open q9hv' | (obtain ⟨q9t9',q9hv9'⟩ := q9hv';subst q9hv9'))) | refine LCg.CompRest.zero ?_))
  exact trivial
local macro_rules | `(tactic| k_ne) => `(tactic| k_extra "T:k_ne")
theorem set_6 : True := by
  k_with "T:k_ne" => ((refine neN ?_;(try dsimp only);first | with_reducible assumption | (apply Ne.symm;with_reducible assumption) | (refine' AllNe.get ?q9ka ?q9kb;(case q9ka => with_reducible assumption);(case q9kb => k_mem)) | (apply Ne.symm;refine' AllNe.get ?q9ka ?q9kb;(case q9ka => with_reducible assumption);(case q9kb => k_mem)) | k_room | (apply Ne.symm;k_room) | (exact cells_ne (i := 2) (j := 1) rfl) | (exact cells_ne (i := 1) (j := 2) rfl) | (exact cells_ne (i := 3) (j := 1) rfl) | (exact cells_ne (i := 3) (j := 2) rfl) | (exact cells_ne (i := 1) (j := 3) rfl) | (exact cells_ne (i := 2) (j := 3) rfl) | omega))
  exact trivial
local macro_rules | `(tactic| k_mem) => `(tactic| k_extra "T:k_mem")
theorem set_7 : True := by
  k_with "T:k_mem" => (first | assumption | (refine List.mem_append_left _ ?_;assumption) | (refine List.mem_append_right _ ?_;assumption))
  k_with "H:fold" => (((fail_if_success (fail_if_success k_fold));refine (let qk := _;(?_ : wpAny _ _ _ qk _ _))))
  k_with "!execs cons" => ((k_here;refine execs_nxt ?_;(try k_extra "H:fold")))
  exact trivial
local macro_rules | `(tactic| k_steps) => `(tactic| k_extra "T:k_steps")
theorem set_8 : True := by
  k_with "T:k_steps" => (((try k_extra "H:fold");(try dsimp only);(try k_extra "H:fold");repeat' (first | (with_reducible refine nxt_ret ?_) | k_extra "H:ret" | k_extra "H:ifk" | ((fail_if_success (fail_if_success k_unfold));(try dsimp only);first | refine (?_ : wpAny _ _ _ _ _ _) | (k_unfold;(try dsimp only))) | (k_end;wrow_close) | walk1 | (dsimp only;walk1) | (leave1;walk_say "STEP leave1";try dsimp only) | fail "no step")))
  k_with "H:ifk" => ((first | (with_reducible refine ifK_t ?_) | (with_reducible refine ifK_f ?_) | (with_reducible refine ifK_o ?_)))
  k_with "H:ret" => (((first | (refine' ret_go ?q9yF ?q9yN ?_) | (refine' ret_next ?q9yF ?q9yN ?_));(case q9yF => k_asm);(case q9yN => k_asm);k_whole;intro _ _))
  k_with "H:m_side" => (first | with_reducible assumption | (refine And.intro ?_ ?_ <;> k_extra "H:m_side") | exact rfl | k_mem | k_updF | omega | assumption)
  k_with "H:cell_cases" => (((case q9zS => exact ⟨by k_asm,by k_asm,by k_asm,by k_asm,by k_asm,by first | exact rfl | assumption,by ktr_room,by ktr_units⟩);(case q9zh => k_extra "H:m_side")))
  k_with "H:cell_end" => ((k_whole;intros;(rename News _ _ _ _ => q9nX');(try dsimp only at q9nX');(try k_sweep);(try dsimp only);(try k_fold)))
  k_with "H:ca2" => ((k_dflt (k_extra "H:cell_cases";k_extra "H:cell_end")))
  k_with "!execs cons" => ((k_here;refine gen_tks (X := _) (Y := _) ?_;intro _;(try dsimp only)))
  k_with "!execs nil" => ((k_here;refine gen_tks (X := _) (Y := _) ?_;intro _;(try dsimp only)))
  k_with "H:om_f" => ((first | with_reducible assumption | (refine' And.left ?q9kc;(case q9kc => with_reducible assumption)) | (refine' And.right ?q9kc;(case q9kc => with_reducible assumption))))
  exact trivial
local macro_rules | `(tactic| omega) => `(tactic| k_extra "T:omega")
theorem set_9 : True := by
  k_with "T:omega" => (first | k_extra "H:om_f" | ((with_reducible show @LE.le Nat _ _ _);first | (refine' om_n1 ?q9ka ?q9kd;(case q9ka => k_extra "H:om_f");(case q9kd => k_dflt exact rfl)) | (refine' om_n2 ?q9ka ?q9kd ?q9kb;(case q9ka => k_extra "H:om_f");(case q9kd => k_extra "H:om_f");(case q9kb => k_dflt exact rfl)) | (refine' om_n5 ?q9ka ?q9kd ?q9kb;(case q9ka => k_extra "H:om_f");(case q9kd => k_extra "H:om_f");(case q9kb => k_dflt exact rfl)) | (refine' om_n6 ?q9ka ?q9kd;(case q9ka => k_extra "H:om_f");(case q9kd => k_dflt exact rfl)) | (refine' om_or ?q9ka ?q9kd;(case q9ka => k_extra "H:om_f");(case q9kd => k_dflt exact rfl)) | (refine' om_or2 ?q9ka ?q9kd ?q9kb;(case q9ka => k_extra "H:om_f");(case q9kd => k_extra "H:om_f");(case q9kb => k_dflt exact rfl))) | ((with_reducible show @LT.lt Nat _ _ _);first | (refine' om_ab ?q9ka ?q9kd ?q9kb;(case q9ka => k_extra "H:om_f");(case q9kd => k_extra "H:om_f");(case q9kb => k_dflt exact rfl)) | (refine' om_tl ?q9ka;(case q9ka => k_extra "H:om_f")) | (refine' tn1 ?q9ka;(case q9ka => k_extra "H:om_f")) | (refine' tnx ?q9ka ?q9kd;(case q9ka => k_extra "H:om_f");(case q9kd => k_extra "H:om_f")) | (refine' room2 ?q9ka ?q9kd;(case q9ka => k_extra "H:om_f");(case q9kd => k_dflt exact rfl)) | (refine' room1 ?q9ka ?q9kd;(case q9ka => k_extra "H:om_f");(case q9kd => k_dflt exact rfl)) | (refine' room4 ?q9ka ?q9kd;(case q9ka => k_extra "H:om_f");(case q9kd => k_dflt exact rfl))) | ((with_reducible show @Ne Nat _ _);first | (refine' om_n3 ?q9ka;(case q9ka => k_extra "H:om_f")) | (refine' om_n4 ?q9ka;(case q9ka => k_extra "H:om_f"))) | ((with_reducible show @LE.le Int _ _ _);first | (refine' om_i1 ?q9ka ?q9kd;(case q9ka => k_extra "H:om_f");(case q9kd => k_dflt exact rfl)) | (refine' om_i2 ?q9ka ?q9kd;(case q9ka => k_extra "H:om_f");(case q9kd => k_dflt exact rfl)) | (refine' om_i6 ?q9ka ?q9kd;(case q9ka => k_extra "H:om_f");(case q9kd => k_dflt exact rfl)) | (refine' om_i9 ?q9ka ?q9kd;(case q9ka => k_extra "H:om_f");(case q9kd => k_dflt exact rfl)) | (k_dflt exact om_c2 rfl) | (refine' bump2 ?q9ka;(case q9ka => k_extra "H:om_f")) | (refine' bump2x ?q9ka ?q9kd;(case q9ka => k_extra "H:om_f");(case q9kd => k_extra "H:om_f")) | (refine' bump3 ?q9ka;(case q9ka => k_extra "H:om_f"))) | ((with_reducible show @LT.lt Int _ _ _);first | (refine' om_i3 ?q9ka ?q9kd;(case q9ka => k_extra "H:om_f");(case q9kd => k_dflt exact rfl)) | (refine' om_i4 ?q9ka ?q9kd;(case q9ka => k_extra "H:om_f");(case q9kd => k_dflt exact rfl)) | (refine' om_i5 ?q9ka ?q9kd;(case q9ka => k_extra "H:om_f");(case q9kd => k_dflt exact rfl)) | (refine' om_c1 ?q9ka ?q9kd;(case q9ka => k_extra "H:om_f");(case q9kd => k_dflt exact rfl)) | (refine' om_cp ?q9ka;(case q9ka => k_extra "H:om_f")) | (refine' om_lt ?q9ka;(case q9ka => k_extra "H:om_f")) | (refine' npos ?q9ka;(case q9ka => k_extra "H:om_f"))) | ((with_reducible show @Ne Int _ _);first | (refine' om_i7 ?q9ka ?q9kd;(case q9ka => k_extra "H:om_f");(case q9kd => k_dflt exact rfl)) | (refine' om_i8 ?q9ka;(case q9ka => k_extra "H:om_f"))) | ((with_reducible show _ ∧ _);first | (refine' om_two ?q9ka ?q9kd ?q9kb;(case q9ka => k_extra "H:om_f");(case q9kd => k_extra "H:om_f");(case q9kb => k_extra "H:om_f")) | (refine' om_three ?q9ka ?q9kd ?q9kb ?q9kc;(case q9ka => k_extra "H:om_f");(case q9kd => k_extra "H:om_f");(case q9kb => k_extra "H:om_f");(case q9kc => k_extra "H:om_f")) | (refine' om_sub ?q9ka ?q9kd ?q9kb;(case q9ka => k_extra "H:om_f");(case q9kd => k_extra "H:om_f");(case q9kb => k_dflt exact rfl))) | ((with_reducible show _ ∨ _);first | (refine' abs1 ?q9ka;(case q9ka => k_extra "H:om_f"))) | (k_dflt decide) | lia -abstractProof)
  k_with "H:svs" => (first | exact rfl | (refine' svs_nm ?q9xv ?q9xr ?q9xk;(case q9xk => exact rfl);(case q9xv => first | exact rfl | assumption);(case q9xr => k_extra "H:svs")) | (refine' svs_cn ?q9xc ?q9xr;(case q9xc => exact rfl);(case q9xr => k_extra "H:svs")))
  k_with "H:sv1" => (first | exact rfl | (refine' sv_nm ?q9xv ?q9xk;(case q9xk => exact rfl);(case q9xv => assumption)))
  k_with "H:evs" => (first | exact Evs.nil | (refine' Evs.cons ?q9es ?q9er;(case q9es => k_extra "H:evp");(case q9er => k_extra "H:evs")))
  k_with "H:evp" => (first | exact ev_ni | exact ev_ns | exact ev_nb | exact ev_nn | (refine' ev_nm ?q9ev ?q9ek;(case q9ek => exact rfl);(case q9ev => k_extra "H:look")) | (refine' ev_ix ?q9el ?q9et ?q9eb ?q9ej ?q9ey;(case q9el => k_extra "H:evp");(case q9et => k_mem);(case q9eb => exact rfl);(case q9ej => exact rfl);(case q9ey => exact rfl)) | (refine' ev_cl ?q9ec ?q9em ?q9ed ?q9ek;(case q9ek => exact rfl);(case q9ec => exact rfl);(case q9em => k_mem);(case q9ed => first | exact rfl | k_asm)) | (refine' ev_gl ?q9ev ?q9ek;(case q9ek => exact rfl);(case q9ev => k_is)))
  k_with "!eval Call" => ((k_here;k_dflt ((with_reducible show wpAny _ _ (eval (Expr.Call (Expr.Name _ _) (_ :: _) [] _) _) _ _ _);(refine' call_E ?q9xF ?q9xN ?q9xX ?q9xT ?q9xk ?q9xe ?q9xf ?q9xs ?_ ?q9xa ?q9xp ?q9xh;(case q9xF => k_asm);(case q9xN => k_asm);(case q9xX => k_asm);(case q9xT => k_asm);(case q9xk => first | exact rfl | assumption);(case q9xa => exact rfl);(case q9xe => k_is);(case q9xf => k_is);(case q9xs => k_extra "H:evs");(case q9xp => exact rfl);(case q9xh => exact rfl);k_whole))))
  k_with "!eval Call" => ((k_here;(with_reducible show wpAny _ _ (eval (Expr.Call (Expr.Name _ _) (_ :: _) [] _) _) _ _ _);k_dflt (refine' call_S ?q9xF ?q9xX ?q9xT ?q9xe ?q9xf ?q9xs ?_ ?q9xa ?q9xb ?q9xd ?q9xp ?q9xh;(case q9xF => k_asm);(case q9xX => k_asm);(case q9xT => k_asm);(case q9xa => exact rfl);(case q9xb => exact rfl);(case q9xe => k_is);(case q9xf => k_is);(case q9xs => k_extra "H:svs");(case q9xd => exact rfl);(case q9xp => exact rfl);(case q9xh => exact rfl);k_whole)))
  k_with "!eval BinOp" => ((k_here;k_dflt (first | (refine' bin_E ?q9xF ?q9xN ?q9xX ?q9xT ?q9xk ?q9xs ?_;(case q9xF => k_asm);(case q9xN => k_asm);(case q9xX => k_asm);(case q9xT => k_asm);(case q9xk => first | exact rfl | assumption);(case q9xs => k_extra "H:evs");k_whole) | (refine' bin_1E ?q9xF ?q9xN ?q9xX ?q9xT ?q9xk ?q9xs ?_;(case q9xF => k_asm);(case q9xN => k_asm);(case q9xX => k_asm);(case q9xT => k_asm);(case q9xk => first | exact rfl | assumption);(case q9xs => k_extra "H:evp");k_whole))))
  k_with "!eval BinOp" => ((k_here;k_dflt (first | (refine' bin_S ?q9xF ?q9xs ?_ ?q9xa;(case q9xF => k_asm);(case q9xa => exact rfl);(case q9xs => k_extra "H:svs");k_whole) | (refine' bin_L ?q9xF ?q9xs ?_ ?q9xa;(case q9xF => k_asm);(case q9xa => exact rfl);(case q9xs => k_extra "H:sv1");k_whole))))
  k_with "!isTrue Compare" => ((k_here;k_dflt ((refine' cmpT_E ?q9xF ?q9xN ?q9xX ?q9xT ?q9xk ?q9xs ?_ ?q9xm;(case q9xF => k_asm);(case q9xN => k_asm);(case q9xX => k_asm);(case q9xT => k_asm);(case q9xk => first | exact rfl | assumption);(case q9xs => k_extra "H:evs");(case q9xm => with_unfolding_all exact rfl);k_whole))))
  k_with "!isTrue Compare" => ((k_here;k_dflt (refine' cmpT_S ?q9xF ?q9xs ?_ ?q9xa ?q9xm;(case q9xF => k_asm);(case q9xa => exact rfl);(case q9xs => k_extra "H:svs");(case q9xm => with_unfolding_all exact rfl);k_whole)))
  k_with "!eval Compare" => ((k_here;k_dflt ((refine' cmp_E ?q9xF ?q9xN ?q9xX ?q9xT ?q9xk ?q9xs ?_ ?q9xm;(case q9xF => k_asm);(case q9xN => k_asm);(case q9xX => k_asm);(case q9xT => k_asm);(case q9xk => first | exact rfl | assumption);(case q9xs => k_extra "H:evs");(case q9xm => with_unfolding_all exact rfl);k_whole))))
  k_with "!eval Compare" => ((k_here;k_dflt (refine' cmp_S ?q9xF ?q9xs ?_ ?q9xa ?q9xm;(case q9xF => k_asm);(case q9xa => exact rfl);(case q9xs => k_extra "H:svs");(case q9xm => with_unfolding_all exact rfl);k_whole)))
  k_with "!eval Subscript" => ((k_here;k_dflt (first | (refine' eval_E ?q9xF ?q9xN ?q9xX ?q9xT ?q9xk ?q9xs ?_;(case q9xF => k_asm);(case q9xN => k_asm);(case q9xX => k_asm);(case q9xT => k_asm);(case q9xk => first | exact rfl | assumption);(case q9xs => k_extra "H:evp");k_whole) | (refine' sub_E ?q9xF ?q9xN ?q9xX ?q9xT ?q9xk ?q9xs ?_;(case q9xF => k_asm);(case q9xN => k_asm);(case q9xX => k_asm);(case q9xT => k_asm);(case q9xk => first | exact rfl | assumption);(case q9xs => k_extra "H:evs");k_whole))))
  k_with "!eval Subscript" => ((k_here;k_dflt (first | (refine' subt_S ?q9xF ?q9xN ?q9xs ?q9xt ?q9xb ?q9xj ?q9xy ?_ ?q9xa ?q9xm;(case q9xF => k_asm);(case q9xN => k_asm);(case q9xa => exact rfl);(case q9xs => k_extra "H:svs");(case q9xt => k_mem);(case q9xb => exact rfl);(case q9xj => exact rfl);(case q9xy => exact rfl);(case q9xm => with_unfolding_all exact rfl);k_whole) | (refine' sub_S ?q9xF ?q9xs ?_ ?q9xa;(case q9xF => k_asm);(case q9xa => exact rfl);(case q9xs => k_extra "H:svs");k_whole))))
  k_with "!eval Tuple" => ((k_here;k_dflt ((refine' tup_E ?q9xF ?q9xN ?q9xX ?q9xT ?q9xk ?q9xs ?_;(case q9xF => k_asm);(case q9xN => k_asm);(case q9xX => k_asm);(case q9xT => k_asm);(case q9xk => first | exact rfl | assumption);(case q9xs => k_extra "H:evs");k_whole))))
  k_with "!eval Tuple" => ((k_here;k_dflt (refine' tup_S ?q9xF ?q9xs ?_ ?q9xa;(case q9xF => k_asm);(case q9xa => exact rfl);(case q9xs => k_extra "H:svs");k_whole)))
  k_with "!eval List" => ((k_here;k_dflt ((refine' list_E ?q9xF ?q9xN ?q9xX ?q9xT ?q9xk ?q9xs ?_;(case q9xF => k_asm);(case q9xN => k_asm);(case q9xX => k_asm);(case q9xT => k_asm);(case q9xk => first | exact rfl | assumption);(case q9xs => k_extra "H:evs");k_whole))))
  k_with "!eval List" => ((k_here;k_dflt (refine' list_S ?q9xF ?q9xs ?_ ?q9xa;(case q9xF => k_asm);(case q9xa => exact rfl);(case q9xs => k_extra "H:svs");k_whole)))
  k_with "!spliced" => ((k_here;k_dflt (first | (refine' args_E ?q9xF ?q9xN ?q9xX ?q9xT ?q9xk ?q9xs ?_;(case q9xF => k_asm);(case q9xN => k_asm);(case q9xX => k_asm);(case q9xT => k_asm);(case q9xk => first | exact rfl | assumption);(case q9xs => k_extra "H:evs");k_whole;(try dsimp only [List.cons_append,List.nil_append])) | (refine' args_1E ?q9xF ?q9xN ?q9xX ?q9xT ?q9xk ?q9xs ?_;(case q9xF => k_asm);(case q9xN => k_asm);(case q9xX => k_asm);(case q9xT => k_asm);(case q9xk => first | exact rfl | assumption);(case q9xs => k_extra "H:evp");k_whole;(try dsimp only)))))
  k_with "!spliced" => ((k_here;k_dflt (first | (refine' args_S ?q9xa ?q9xF ?q9xs ?_;(case q9xF => k_asm);(case q9xa => exact rfl);(case q9xs => k_extra "H:svs");k_whole;(try dsimp only [List.cons_append,List.nil_append])) | (refine' args_1 ?q9xF ?q9xs ?_ ?q9xa;(case q9xF => k_asm);(case q9xa => exact rfl);(case q9xs => k_extra "H:sv1");k_whole;(try dsimp only)))))
  k_with "!storeName" => ((k_here;k_dflt (refine' store_S ?q9xF ?q9xN ?_ ?q9xa ?q9xb;(case q9xF => k_asm);(case q9xN => k_asm);(case q9xa => exact rfl);(case q9xb => exact rfl);k_whole;intro _ _ _ _;(try k_sweep))))
  k_with "!exec Assign" => ((k_here;refine wpAny_Assign_Name ?_;(try k_extra "H:fold")))
  k_with "H:mem_auto" => (first | exact List.Mem.head _ | (refine List.Mem.tail _ ?_;k_extra "H:mem_auto"))
  k_with "H:sub_auto" => (((try dsimp only [List.cons_append,List.nil_append]);repeat (first | exact sub_refl | exact sub_nil | with_reducible assumption | (refine sub_cons ?q9sm ?_;(case q9sm => k_extra "H:mem_auto")) | refine sub_tail ?_)))
  k_with "H:folds" => (((try k_extra "H:fold");refine (let sk := _;(?_ : wpAny _ _ _ _ _ sk))))
  k_with "H:look" => (first | with_reducible assumption | exact rfl | assumption | ((try dsimp +zetaDelta only);repeat (first | with_reducible assumption | rfl | rw [if_neg (by decide +kernel)])))
  k_with "!exec If" => ((k_here;with_reducible refine if_S ?_))
  k_with "!assignInOrder" => ((k_here;k_dflt (first | (refine' aio2a ?q9ae ?_;(case q9ae => exact rfl)) | (refine' aio2b ?q9ae ?_;(case q9ae => exact rfl)) | (refine' aio3a ?q9ae ?_;(case q9ae => exact rfl)) | (refine' aio3b ?q9ae ?_;(case q9ae => exact rfl)));k_whole))
  exact trivial
local macro_rules | `(tactic| ke_room) => `(tactic| k_extra "T:ke_room")
theorem set_10 : True := by
  k_with "T:ke_room" => (ktr_units)
  k_with "!exec Assign" => ((k_here;(with_reducible show wpAny _ _ (exec (Stmt.Assign [Expr.Tuple _ _ _] _ _) _) _ _ _);k_dflt (first | (refine' swap2 ?_ ?q9sa ?q9sb;(case q9sa => exact rfl);(case q9sb => exact rfl)) | (refine' swap3 ?_ ?q9sa ?q9sb;(case q9sa => exact rfl);(case q9sb => exact rfl)));(try k_extra "H:fold")))
  k_with "!newTuple" => ((k_here;k_dflt (refine' nt_L ?q9xF ?q9xN ?q9xz ?_;(case q9xF => k_asm);(case q9xN => k_asm);(case q9xz => first | exact Nat.le_of_ble_eq_true rfl | kmk_size);k_whole);intro _ _ _ _ _ _;(try k_sweep)))
  k_with "!newList" => ((k_here;k_dflt (refine' nl_L ?q9xF ?q9xN ?q9xz ?_;(case q9xF => k_asm);(case q9xN => k_asm);(case q9xz => first | exact Nat.le_of_ble_eq_true rfl | size_fits);k_whole);intro _ _ _ _ _ _;(try k_sweep)))
  exact trivial
section
theorem neg_spec (w : World) {a : Addr} {p q : Int} {tp tq : Tok} :
    Spec w 126 [.ref a] 1 8 [(a,tup [.int p tp,.int q tq])] fun r led' => ∃ b t,r = .ref b ∧ (b,tup [.int (-p) t,.int q tq]) ∈ led' ∧ (a,tup [.int p tp,.int q tq]) ∈ led' ∧ a ≠ b := by
  apply bx;simp(disch:=k_dflt(
  unfold Spec
  intro dp un gd cn cs a₁ ccd ce outer A₀ base h₀ L m mean mg mb s Q E B F X N T hk hd hu hret
  k_dflt (apply call_at (binds := [(Str.ofString "a",Value.ref a)]));k_extra "H:o_rest"
  k_steps
  (refine hret _ _ _ _ (by assumption) (after_of (by assumption) (by assumption) (by assumption) (by assumption)) ⟨_,_,rfl,by k_mem,by k_mem,by k_ne⟩)
  ))only[↓bx_eq]
noncomputable def Feed (w : World) (cl : Addr) (sp : Int) (o : Obj) : Prop := ∃ t,o.IsDictOf (PySem.strKind PG w) [(Str.ofString "cells",.ref cl),(Str.ofString "spot",.int sp t)]
theorem dict_ne {w : World} {h₀ h : Heap} {L fd cl : Addr} {led : Led} {o : Obj} {vs : Array Value} {n : Nat} {kvs : List (Str × Value)} (N : News h₀ L h led) (h1 : (fd,o) ∈ led) (h2 : (cl,listOf vs n) ∈ led) (hf : o.IsDictOf (PySem.strKind PG w) kvs) : cl ≠ fd := by
  intro e
  subst e
  have e1 := (N _ h1).1
  rw [(N _ h2).1] at e1
  cases e1
  refine x2_2 hf ?_;(try clear hf)
  intro _ _ hc _
  have e2 : Value.type "list" = Value.type "dict" := hc.1
  injection e2 with e3
  exact absurd e3 (by decide)
structure Cells (fd : Addr) (vs : List Value) : Prop where
  lo : (fd == sysModules) = false
  cells : ∃ ns : List Int,IntsAre vs ns ∧ ns.length ≤ 63
inductive DrawR02 (w : World) (fd : Addr) (cl : Addr) (vs : List Value) (n : Nat) (sp : Int) (many : Int) (r : Value) (led' : Led) : Prop
  | mk (i : Int) (t : Tok) (o' : Obj) (cc1 : r = .int i t) (cc2 : 0 ≤ i) (cc3 : i < many) (cc4 : Feed w cl (sp + 1) o') (cc5 : (fd,o') ∈ led') (cc6 : (cl,listOf vs.toArray n) ∈ led') : DrawR02 w fd cl vs n sp many r led'
theorem draw_spec (w : World) {fd cl : Addr} {o : Obj} {vs : List Value} {n : Nat} {sp many : Int} {tk : Tok} (hc : Cells fd vs) (hf : Feed w cl sp o) (hs : 0 ≤ sp) (hs2 : sp ≤ 1000)
    (hm : 1 ≤ many) (hm2 : many ≤ 1000) :
    Spec w 831 [.ref fd,.int many tk] 1 8 [(fd,o),(cl,listOf vs.toArray n)] (DrawR02 w fd cl vs n sp many) := by
  apply bx;simp(disch:=k_dflt(
  obtain ⟨hlo,ns,hi,hn⟩ := hc
  unfold Spec
  intro dp un gd cn cs a₁ ccd ce outer A₀ base h₀ L m mean mg mb s Q E B F X N T hk hd hu hret
  refine x1_1 hf ?_;(try clear hf)
  intro t hf
  have hne := dict_ne N (.head _) (.tail _ (.head _)) hf
  k_dflt (apply call_at (binds := [(Str.ofString "feed",Value.ref fd),(Str.ofString "many",Value.int many tk)]));k_extra "H:o_rest"
  k_steps
  all_goals (refine hret _ _ _ _ (by assumption) (after_of (by assumption) (by assumption) (by assumption) (by assumption)) ⟨_,_,_,rfl,?_,?_,⟨_,by assumption⟩,by k_mem,by k_mem⟩)
  all_goals first | exact Int.fmod_nonneg_of_pos _ (by omega) | exact Int.fmod_lt_of_pos _ (by omega)
  ))only[↓bx_eq]
section
theorem neg_use {a : Addr} {p q : Int} {tp tq : Tok} (Z : Sit w dp un cs outer A₀ base h₀ L m mean mg mb s all 1 8)
    (ha : (a,tup [.int p tp,.int q tq]) ∈ all)
    (ret : ∀ b t h' tk',Fr h₀ L h' m → News h₀ L h' ((b,tup [.int (-p) t,.int q tq]) :: all) → AllNe b all → Q (.ref b) { s with heap := h',toks := tk' }) :
    wpAny (model PG w) (ktrTop dp un gd cn cs L a₁ ccd ce outer) (call (.ref 126) [.ref a]) Q E s := by
  have hs := sub_cons ha sub_nil
  refine (neg_spec w).use Z hs fun r led' h' tk' F' A P => x2_4 P fun b t e hb hp hn => ?_
  subst e
  exact ret b t h' tk' F' (A.cons (A.pure Z.N hs (sub_cons hp sub_nil)) hb) (allNe_of (A.ne hb (ne_cons hn ne_nil) Z.N))
theorem draw_use {fd cl : Addr} {o : Obj} {vs : List Value} {n : Nat} {sp many : Int} {tk : Tok} {g : Obj → Led} (Z : Sit w dp un cs outer A₀ base h₀ L m mean mg mb s all 1 8)
    (hh : Cells fd vs ∧ Feed w cl sp o ∧ 0 ≤ sp ∧ sp ≤ 1000 ∧ 1 ≤ many ∧ many ≤ 1000 ∧ UpdF fd o all g ∧ (cl,listOf vs.toArray n) ∈ all)
    (ret : ∀ i t o' h' tk',Fr h₀ L h' m → News h₀ L h' (g o') → Feed w cl (sp + 1) o' → 0 ≤ i → i < many → Q (.int i t) { s with heap := h',toks := tk' }) :
    wpAny (model PG w) (ktrTop dp un gd cn cs L a₁ ccd ce outer) (call (.ref 831) [.ref fd,.int many tk]) Q E s := by
  refine x0_8 hh ?_;(try clear hh)
  intro hc hf hs hs2 hm hm2 U hcl
  have hs' := sub_cons (updF_mem U) (sub_cons hcl sub_nil)
  refine (draw_spec w hc hf hs hs2 hm hm2).use Z hs' fun r led' h' tk' F' A ⟨i,t,o',e,h1,h2,hf',hb,hp⟩ => ?_
  subst e
  exact ret i t o' h' tk' F' (A.upd Z.N U hs' (fun x hx => by
    rcases List.mem_cons.mp hx with rfl | hx
    · exact .inl rfl
    · rw [List.mem_singleton.mp hx];exact .inr hp) hb) hf' h1 h2
end
end
theorem set_11 : True := by
  k_with "!call ref" => ((k_here;(with_reducible show wpAny _ _ (call (Value.ref 126) _) _ _ _);((try k_extra "H:folds");k_dflt (refine' neg_use ?q9zS ?q9zh ?_);k_extra "H:ca2")))
  k_with "!call ref" => ((k_here;(with_reducible show wpAny _ _ (call (Value.ref 831) _) _ _ _);((try k_extra "H:folds");k_dflt (refine' draw_use ?q9zS ?q9zh ?_);k_extra "H:ca2")))
  exact trivial
section
abbrev RetRatio (lo hi : Int) : Value → Led → Prop := fun r led' => ∃ b p q tp tq,r = .ref b ∧ (b,tup [.int p tp,.int q tq]) ∈ led' ∧ lo ≤ p ∧ p ≤ hi ∧ 1 ≤ q ∧ q ≤ 3
theorem abs_nn {w : World} {A : Around} {E : Value → Shared → Prop} {s : Shared} {a : Int} {t : Tok} {Q : Value → Shared → Prop} (h0 : 0 ≤ a) (h : ∀ u tk,Q (.int a u) { s with toks := tk }) : wpAny (model PG w) A (call (.builtin "abs") [.int a t]) Q E s :=
  call_abs_int fun u tk => by rw [if_neg (Int.not_lt.mpr h0)];exact h u tk
section
theorem g1.on1 : True := trivial
open g1
theorem set_12 : True := by
  k_with "!call builtin:abs" => ((fail_if_success(fail_if_success have:=on1));(refine abs_nn (by decide) ?_;intro _ _))
  exact trivial
theorem lowest1_spec (w : World) {top bot : Int} {t1 t2 : Tok} (hb : bot = 1) (h1 : -5 ≤ top) (h2 : top ≤ 5) : Spec w 838 [.int top t1,.int bot t2] 1 8 [] (RetRatio (-5) 5) := by
  apply bx;simp(disch:=k_dflt(
  subst hb
  unfold Spec
  intro dp un gd cn cs a₁ ccd ce outer A₀ base h₀ L m mean mg mb s Q E B F X N T hk hd hu hret
  k_dflt (apply call_at (binds := [(Str.ofString "top",Value.int top t1),(Str.ofString "bottom",Value.int 1 t2)]));k_extra "H:o_rest"
  k_steps
  all_goals (refine hret _ _ _ _ (by assumption) (after_of (by assumption) (by assumption) (by assumption) (by assumption)) ⟨_,_,_,_,_,rfl,by k_mem,h1,h2,by decide,by decide⟩)
  ))only[↓bx_eq]
end
section
theorem lowest1_use {top bot : Int} {t1 t2 : Tok} (Z : Sit w dp un cs outer A₀ base h₀ L m mean mg mb s all 1 8)
    (hh : bot = 1 ∧ -5 ≤ top ∧ top ≤ 5)
    (ret : ∀ b p q tp tq h' tk',Fr h₀ L h' m → News h₀ L h' ((b,tup [.int p tp,.int q tq]) :: all) → AllNe b all → -5 ≤ p → p ≤ 5 → 1 ≤ q → q ≤ 3 → Q (.ref b) { s with heap := h',toks := tk' }) :
    wpAny (model PG w) (ktrTop dp un gd cn cs L a₁ ccd ce outer) (call (.ref 838) [.int top t1,.int bot t2]) Q E s := by
  refine (lowest1_spec w hh.1 hh.2.1 hh.2.2).use Z sub_nil fun r led' h' tk' F' A P => x5_5 P fun b p q tp tq e hb g1 g2 g3 => ?_
  subst e
  exact ret b p q tp tq h' tk' F' (A.cons (A.pure Z.N sub_nil sub_nil) hb) (allNe_of (A.ne hb ne_nil Z.N)) g1 g2 g3.1 g3.2
end
end
theorem set_13 : True := by
  k_with "!call ref" => ((k_here;(with_reducible show wpAny _ _ (call (Value.ref 838) _) _ _ _);((try k_extra "H:folds");k_dflt (refine' lowest1_use ?q9zS ?q9zh ?_);k_extra "H:ca2")))
  exact trivial
section
theorem fdiv_small {top k : Int} (h1 : -5 ≤ top) (h2 : top ≤ 5) (hk : 1 ≤ k) : -5 ≤ top.fdiv k ∧ top.fdiv k ≤ 5 := by
  rw [Int.fdiv_eq_ediv_of_nonneg _ (by omega)]
  constructor
  · exact (Int.le_ediv_iff_mul_le (by omega)).mpr (by omega)
  · by_cases h : 0 ≤ top
    · exact Int.le_trans (Int.ediv_le_self _ h) h2
    · have := Int.ediv_neg_of_neg_of_pos (a := top) (b := k) (by omega) (by omega);omega
section
theorem g2.on2 : True := trivial
open g2
theorem set_14 : True := by
  k_with "!call builtin:abs" => ((fail_if_success(fail_if_success have:=on2));(refine abs_nn (by decide) ?_;intro _ _))
  exact trivial
theorem lowest_spec (w : World) {top bot : Int} {t1 t2 : Tok} (hb1 : 1 ≤ bot) (hb3 : bot ≤ 3) (h1 : -5 ≤ top) (h2 : top ≤ 5) : Spec w 838 [.int top t1,.int bot t2] 2 16 [] (RetRatio (-5) 5) := by
  apply bx;simp(disch:=k_dflt(
  have hc : bot = 1 ∨ bot = 2 ∨ bot = 3 := by omega
  rcases hc with e | e | e
  · intro dp un gd cn cs a₁ ccd ce outer A₀ base h₀ L m mean mg mb s Q E B F X N T hk hd hu hret
    exact lowest1_spec w e h1 h2 _ _ _ _ _ _ _ _ _ _ _ _ _ _ _ _ _ _ _ _ B F X N T hk (by omega) (by omega) hret
  · subst e
    unfold Spec
    intro dp un gd cn cs a₁ ccd ce outer A₀ base h₀ L m mean mg mb s Q E B F X N T hk hd hu hret
    refine x0_2 (fdiv_small (k := 2) h1 h2 (by decide)) ?_
    intro f1 f2
    k_dflt (apply call_at (binds := [(Str.ofString "top",Value.int top t1),(Str.ofString "bottom",Value.int 2 t2)]));k_extra "H:o_rest"
    k_steps
    all_goals first | (refine hret _ _ _ _ (by assumption) (after_of (by assumption) (by assumption) (by assumption) (by assumption)) ⟨_,_,_,_,_,rfl,by k_mem,by first | assumption | omega,by first | assumption | omega,by first | assumption | omega,by first | assumption | omega⟩) | w_report
  · subst e
    unfold Spec
    intro dp un gd cn cs a₁ ccd ce outer A₀ base h₀ L m mean mg mb s Q E B F X N T hk hd hu hret
    refine x0_2 (fdiv_small (k := 3) h1 h2 (by decide)) ?_
    intro f1 f2
    k_dflt (apply call_at (binds := [(Str.ofString "top",Value.int top t1),(Str.ofString "bottom",Value.int 3 t2)]));k_extra "H:o_rest"
    k_steps
    all_goals first | (refine hret _ _ _ _ (by assumption) (after_of (by assumption) (by assumption) (by assumption) (by assumption)) ⟨_,_,_,_,_,rfl,by k_mem,by first | assumption | omega,by first | assumption | omega,by first | assumption | omega,by first | assumption | omega⟩) | w_report
  ))only[↓bx_eq]
end
section
theorem lowest_use {top bot : Int} {t1 t2 : Tok} (Z : Sit w dp un cs outer A₀ base h₀ L m mean mg mb s all 2 16)
    (hh : 1 ≤ bot ∧ bot ≤ 3 ∧ -5 ≤ top ∧ top ≤ 5)
    (ret : ∀ b p q tp tq h' tk',Fr h₀ L h' m → News h₀ L h' ((b,tup [.int p tp,.int q tq]) :: all) → AllNe b all → -5 ≤ p → p ≤ 5 → 1 ≤ q → q ≤ 3 → Q (.ref b) { s with heap := h',toks := tk' }) :
    wpAny (model PG w) (ktrTop dp un gd cn cs L a₁ ccd ce outer) (call (.ref 838) [.int top t1,.int bot t2]) Q E s := by
  refine (lowest_spec w hh.1 hh.2.1 hh.2.2.1 hh.2.2.2).use Z sub_nil fun r led' h' tk' F' A ⟨b,p,q,tp,tq,e,hb,g1,g2,g3,g4⟩ => ?_
  subst e
  exact ret b p q tp tq h' tk' F' (A.cons (A.pure Z.N sub_nil sub_nil) hb) (allNe_of (A.ne hb ne_nil Z.N)) g1 g2 g3 g4
end
end
theorem set_15 : True := by
  k_with "!call ref" => ((k_here;(with_reducible show wpAny _ _ (call (Value.ref 838) _) _ _ _);((try k_extra "H:folds");k_dflt (refine' lowest_use ?q9zS ?q9zh ?_);k_extra "H:ca2")))
  exact trivial
section
inductive RatioR05 (w : World) (fd : Addr) (cl : Addr) (vs : List Value) (n : Nat) (sp : Int) (r : Value) (led' : Led) : Prop
  | mk (b : Addr) (p : Int) (q : Int) (tp : Tok) (tq : Tok) (o' : Obj) (cc1 : r = .ref b) (cc2 : (b,tup [.int p tp,.int q tq]) ∈ led') (cc3 : -5 ≤ p) (cc4 : p ≤ 5) (cc5 : 1 ≤ q) (cc6 : q ≤ 3) (cc7 : Feed w cl (sp + 1 + 1) o') (cc8 : (fd,o') ∈ led') (cc9 : (cl,listOf vs.toArray n) ∈ led') (cc10 : fd ≠ b) (cc11 : cl ≠ b) : RatioR05 w fd cl vs n sp r led'
theorem ratio_spec (w : World) {fd cl : Addr} {o : Obj} {vs : List Value} {n : Nat} {sp : Int} (hc : Cells fd vs) (hf : Feed w cl sp o) (hs : 0 ≤ sp) (hs2 : sp ≤ 900) :
    Spec w 845 [.ref fd] 3 24 [(fd,o),(cl,listOf vs.toArray n)] (RatioR05 w fd cl vs n sp) := by
  apply bx;simp(disch:=k_dflt(
  unfold Spec
  intro dp un gd cn cs a₁ ccd ce outer A₀ base h₀ L m mean mg mb s Q E B F X N T hk hd hu hret
  have hne : cl ≠ fd := by
    refine x1_1 hf ?_;(try clear hf)
    intro t hf
    exact dict_ne N (.head _) (.tail _ (.head _)) hf
  k_dflt (apply call_at (binds := [(Str.ofString "feed",Value.ref fd)]));k_extra "H:o_rest"
  k_steps
  all_goals (refine hret _ _ _ _ (by assumption) (after_of (by assumption) (by assumption) (by assumption) (by assumption)) ⟨_,_,_,_,_,_,rfl,by k_mem,by assumption,by assumption,by assumption,by assumption,by assumption,by k_mem,by k_mem,by k_ne,by k_ne⟩)
  ))only[↓bx_eq]
section
theorem ratio_use {fd cl : Addr} {o : Obj} {vs : List Value} {n : Nat} {sp : Int} {g : Obj → Led} (Z : Sit w dp un cs outer A₀ base h₀ L m mean mg mb s all 3 24)
    (hh : Cells fd vs ∧ Feed w cl sp o ∧ 0 ≤ sp ∧ sp ≤ 900 ∧ UpdF fd o all g ∧ (cl,listOf vs.toArray n) ∈ all)
    (ret : ∀ b p q tp tq o' h' tk',Fr h₀ L h' m → News h₀ L h' ((b,tup [.int p tp,.int q tq]) :: g o') → AllNe b (g o') → Feed w cl (sp + 1 + 1) o' → -5 ≤ p → p ≤ 5 → 1 ≤ q → q ≤ 3 → Q (.ref b) { s with heap := h',toks := tk' }) :
    wpAny (model PG w) (ktrTop dp un gd cn cs L a₁ ccd ce outer) (call (.ref 845) [.ref fd]) Q E s := by
  refine x0_6 hh ?_;(try clear hh)
  intro hc hf hs hs2 U hcl
  have hs' := sub_cons (updF_mem U) (sub_cons hcl sub_nil)
  refine (ratio_spec w hc hf hs hs2).use Z hs' fun r led' h' tk' F' A ⟨b,p,q,tp,tq,o',e,hb,g1,g2,g3,g4,hf',hfd,hcl',n1,n2⟩ => ?_
  subst e
  have N2 := A.upd Z.N U hs' (fun x hx => by
    rcases List.mem_cons.mp hx with rfl | hx
    · exact .inl rfl
    · rw [List.mem_singleton.mp hx];exact .inr hcl') hfd
  exact ret b p q tp tq o' h' tk' F' (A.cons N2 hb) (allNe_of (updF_ne U (A.ne hb (ne_cons n1 (ne_cons n2 ne_nil)) Z.N))) hf' g1 g2 g3 g4
end
end
theorem set_16 : True := by
  k_with "!call ref" => ((k_here;(with_reducible show wpAny _ _ (call (Value.ref 845) _) _ _ _);((try k_extra "H:folds");k_dflt (refine' ratio_use ?q9zS ?q9zh ?_);k_extra "H:ca2")))
  exact trivial
section
section
open LCg LCp
variable {prog : Program} {w : World} {A : Around} {E : Value → Shared → Prop} {s : Shared} {h₀ : Heap} {L : Addr} {m : Mp} {env : Env}
theorem go_tuple {elts : List Expr} {x1} {pos : Pos} {I l T : Addr} {i : Nat} {Q : Unit → Shared → Prop} (hit : s.heap.IsTupleIter I l i) (hQ : Q () s) :
    wpAny (model prog w) A (letOwnedTupleGo (.Tuple elts x1 pos) (.ref I) (.ref T)) Q E s := by
  refine x1_3 hit ?_;(try clear hit)
  intro o ho hc hd
  unfold letOwnedTupleGo
  refine wpAny_bind (wpAny_load ho ?_)
  rw [hc,hd]
  dsimp only
  rw [show (["enumerate","zip","dict_itemiterator","dict_reverseitemiterator","odict_iterator","itertools.zip_longest","itertools.pairwise"].contains "tuple_iterator") = false from by decide,Bool.false_and]
  exact wpAny_pure hQ
abbrev PairsRest (prog : Program) (w : World) (A : Around) (h₀ : Heap) (L : Addr) (m : Mp) (env : Env) (elt : Expr) (x x₂ : Str) (scope : Scope) (cl : List (Str × Addr)) (s : Shared) (ax : Addr) (its : List Value) (Q : Value → Shared → Prop) (led : Led) : Prop :=
  CompRestP prog w A h₀ L m env elt x x₂ scope cl s (fun l => (ax,tup its) ∈ l) (fun i v => its.toArray[i]? = some v) (FinE h₀ L m s Q) its.length 0 [] led
noncomputable def SrcPT (prog : Program) (w : World) (A : Around) (h₀ : Heap) (L : Addr) (m : Mp) (env : Env) (elt : Expr) (x x₂ : Str) (scope : Scope) (cl : List (Str × Addr)) (Q : Value → Shared → Prop) (xv : Value) (s₁ : Shared) : Prop :=
  ∃ ax its led,xv = .ref ax ∧ A.handled = none ∧ Fr h₀ L s₁.heap m ∧ News h₀ L s₁.heap led ∧ (ax,tup its) ∈ led ∧ its.length ≤ sizeLine ∧ ∀ g,PairsRest prog w A h₀ L m env elt x x₂ scope cl { s₁ with heap := g } ax its Q led
theorem SrcPT.intro {elt : Expr} {x x₂ : Str} {scope : Scope} {cl : List (Str × Addr)} {Q : Value → Shared → Prop} {ax : Addr} {its : List Value} {led : Led} {s₁ : Shared} (hh : A.handled = none) (F : Fr h₀ L s₁.heap m) (N : News h₀ L s₁.heap led) (hm : (ax,tup its) ∈ led) (hsz : its.length ≤ sizeLine)
    (h : ∀ g,CompRestP prog w A h₀ L m env elt x x₂ scope cl { s₁ with heap := g } (fun l => (ax,tup its) ∈ l) (fun i v => its.toArray[i]? = some v) (FinE h₀ L m { s₁ with heap := g } Q) its.length 0 [] led) : SrcPT prog w A h₀ L m env elt x x₂ scope cl Q (.ref ax) s₁ := ⟨ax,its,led,rfl,hh,F,N,hm,hsz,h⟩
theorem news_moved {h h' : Heap} {I : Addr} {oI oI' : Obj} {r : Led} (N : News h₀ L h ((I,oI) :: r)) (hs : Heap.SameBut I h h') (e : h'.get? I = some oI') (off : ∀ p ∈ r,p.1 ≠ I) : News h₀ L h' ((I,oI') :: r) := fun p hp => by
  rcases List.mem_cons.mp hp with rfl | hp
  · exact ⟨e,(N _ (.head _)).2⟩
  · exact ⟨(hs.2 _ (off p hp)).trans (N p (.tail _ hp)).1,(N p (.tail _ hp)).2⟩
theorem fr_moved {h h' : Heap} {I : Addr} {oI : Obj} {r : Led} (F : Fr h₀ L h m) (N : News h₀ L h ((I,oI) :: r)) (hs : Heap.SameBut I h h') : Fr h₀ L h' m := F.change hs (N _ (.head _)).2.1 (N _ (.head _)).2.2
theorem news_swap {h : Heap} {p q : Addr × Obj} {r : Led} (N : News h₀ L h (p :: q :: r)) : News h₀ L h (q :: p :: r) := fun x hx => N x (by
  rcases List.mem_cons.mp hx with rfl | hx
  · exact .tail _ (.head _)
  · rcases List.mem_cons.mp hx with rfl | hx
    · exact .head _
    · exact .tail _ (.tail _ hx))
inductive PairsInv (prog : Program) (w : World) (A : Around) (h₀ : Heap) (L : Addr) (m : Str → Option Value) (env : Env) (elt : Expr) (x x₂ : Str) (scope : Scope) (cl : List (Str × Addr)) (s₁ : Shared) (Q : Value → Shared → Prop) (I C D ax : Addr) (its : List Value) (k : Nat) (s' : Shared) : Prop
  | mk (h' : Heap) (tk' i : Nat) (ys : List Value) (oI oC : Obj) (led' : Led) (c1 : s' = { s₁ with heap := h',toks := tk' }) (c2 : i ≤ its.length) (c3 : k = its.length + 1 - i) (c4 : ys.length = i) (c5 : oI.cls = .type "tuple_iterator") (c6 : oI.data = .fields #[.ref ax,.int (i : Nat) 0]) (c7 : ∃ m',NsObj oC m')
      (c8 : Fr h₀ L h' m) (c9 : News h₀ L h' ((I,oI) :: (C,oC) :: (D,lst ys) :: led')) (c10 : Off3 I C D led') (c11 : (ax,tup its) ∈ led')
      (c12 : CompRestP prog w A h₀ L m env elt x x₂ scope cl s₁ (fun l => (ax,tup its) ∈ l) (fun i v => its.toArray[i]? = some v) (FinE h₀ L m s₁ Q) (its.length - i) i ys led') : PairsInv prog w A h₀ L m env elt x x₂ scope cl s₁ Q I C D ax its k s'
theorem pairs_comp {elt iter : Expr} {x x₂ : Str} {px px₂ tp : Pos} {tk} {scope : Scope} {cl : List (Str × Addr)} {pos : Pos} {Q : Value → Shared → Prop}
    (F₀ : Fr h₀ L s.heap m) (hclos : closureFor scope env = pure cl) (hcell : ∀ y ∈ scope.names,y.2 ≠ .cell) (hkind : scope.kind = .function)
    (hnames : ∀ y ∈ scope.names,y.2 = .local → scope.names.lookup y.1 = some .local) (hx : scope.names.lookup x = some .local) (hx₂ : scope.names.lookup x₂ = some .local) (hxx : x ≠ x₂)
    (h : wpAny (model prog w) A (eval iter env) (SrcPT prog w A h₀ L m env elt x x₂ scope cl Q) E s)
    (hs : ∀ x,foldedSetIterable iter env x = pure x) :
    wpAny (model prog w) A (eval (.ListComp elt [⟨.Tuple [.Name x px,.Name x₂ px₂] tk tp,iter,[],0⟩] scope pos) env) Q E s := by
  clear F₀
  rw [eval_ListComp]
  refine wpAny_comprehension_free (use := none) rfl hs hclos hkind hnames (wpAny_mono h (fun xv s₁ h₁ => ?_) fun _ _ e => e)
  refine x3_7 h₁ ?_;(try clear h₁)
  intro ax its led
  rintro rfl
  intro hh F N hax hsz R
  have R := R s₁.heap
  refine wpAny_pyIter_tuple (items := its.toArray) ⟨_,(N _ hax).1,rfl,_,rfl⟩ ?_
  have F1 := F.push { cls := .type "tuple_iterator",data := .fields #[.ref ax,.int 0 0] }
  have N1 := News.push F N { cls := .type "tuple_iterator",data := .fields #[.ref ax,.int 0 0] }
  have lt1 : ∀ p ∈ led,p.1 < s₁.heap.objs.size := fun p hp => Heap.lt_size (N p hp).1
  have sz1 : (s₁.heap.push { cls := .type "tuple_iterator",data := .fields #[.ref ax,.int 0 0] }).objs.size = s₁.heap.objs.size + 1 := Heap.size_push ..
  generalize s₁.heap.push { cls := .type "tuple_iterator",data := .fields #[.ref ax,.int 0 0] } = H1 at *
  refine wpAny_newObj_type (wpAny_newFunctionEnv hcell (by intro y hy;simp at hy) (fun h₁ hns₁ hsb₁ => ?_) hkind)
  dsimp only at hns₁ hsb₁ ⊢
  have F2 := F1.push (lst [])
  have N2 := News.push F1 N1 (lst [])
  have sz2 : (H1.push (lst [])).objs.size = H1.objs.size + 1 := Heap.size_push ..
  have e2 : H1.push { cls := .type "list",dict := none,data := .seq ([] : List Value).toArray } = H1.push (lst []) := rfl
  rw [e2] at hns₁ hsb₁ ⊢
  generalize H1.push (lst []) = H2 at *
  have keep : ∀ b o,H2.get? b = some o → h₁.get? b = some o := fun b o e => hsb₁.extBut b o (Nat.ne_of_lt (Heap.lt_size e)) (Heap.get?_push_of_some _ e)
  refine x1_2 (ns_obj hns₁) ?_
  intro oC heC hoC
  have hCL : H2.objs.size ≠ L := Nat.ne_of_gt (Nat.lt_of_lt_of_le F2.ns.lt (Nat.le_refl _))
  have hC0 : h₀.get? H2.objs.size = none := by
    cases e : h₀.get? H2.objs.size with
    | none => rfl
    | some o => exact absurd (Heap.lt_size (F2.keep _ _ e)) (Nat.lt_irrefl _)
  have F3 : Fr h₀ L h₁ m := F2.keeps keep
  have N3 : News h₀ L h₁ ((s₁.heap.objs.size,{ cls := .type "tuple_iterator",data := .fields #[.ref ax,.int 0 0] }) :: (H2.objs.size,oC) :: (H1.objs.size,lst []) :: led) := fa3 ⟨keep _ _ (N2 _ (.tail _ (.head _))).1,(N2 _ (.tail _ (.head _))).2⟩ ⟨heC,hCL,hC0⟩ ⟨keep _ _ (N2 _ (.head _)).1,(N2 _ (.head _)).2⟩ fun p hp => ⟨keep _ _ (N2 _ (.tail _ (.tail _ hp))).1,(N2 _ (.tail _ (.tail _ hp))).2⟩
  have hIC : s₁.heap.objs.size ≠ H2.objs.size := by rw [sz2,sz1];omega
  have hID : s₁.heap.objs.size ≠ H1.objs.size := by rw [sz1];omega
  have hCD : H2.objs.size ≠ H1.objs.size := by rw [sz2];omega
  have off : Off3 s₁.heap.objs.size H2.objs.size H1.objs.size led := Off3.of fun p hp => by
    have := lt1 p hp
    refine ⟨Nat.ne_of_lt this,Nat.ne_of_lt ?_,Nat.ne_of_lt ?_⟩
    · rw [sz2,sz1];exact Nat.lt_succ_of_lt (Nat.lt_succ_of_lt this)
    · rw [sz1];exact Nat.lt_succ_of_lt this
  clear hns₁ hsb₁ keep F1 N1 F2 N2 sz1 sz2 e2 lt1 heC N
  revert hCL hC0 N3 hIC hID hCD off
  refine gen_at s₁.heap.objs.size ?_
  intro I
  refine gen_at H2.objs.size ?_
  intro C
  refine gen_at H1.objs.size ?_
  intro D hCL hC0 N3 hIC hID hCD off
  have loop : ∀ s₃ : Shared,s₃ = { s₁ with heap := h₁,toks := s₁.toks + ([] : List (Str × Value)).length } →
      codeAny (model prog w) A (.compLoop (.ListComp elt [⟨.Tuple [.Name x px,.Name x₂ px₂] tk tp,iter,[],0⟩] scope pos) 0 (.ref I) (.ref D) (compEnvC scope cl C env)) (compPost (model prog w) A E none Q (.ref D) C) s₃ := by
    rintro s₃ rfl
    refine codeAny_compLoop_pair
      (PairsInv prog w A h₀ L m env elt x x₂ scope cl s₁ Q I C D ax its) ?_ (its.length + 1)
      ⟨h₁,_,0,[],_,oC,led,rfl,Nat.zero_le _,rfl,rfl,rfl,rfl,⟨_,hoC⟩,F3,N3,off,hax,R⟩
    intro k s' zq1
    obtain ⟨h',tk',i,ys,oI,oC,led',rfl,hi,rfl,hyl,hc,hd,⟨m',hoC⟩,F',N',off',hax',R'⟩ := zq1
    have hit : h'.IsTupleIter I ax i := ⟨oI,(N' _ (.head _)).1,hc,hd⟩
    have hat : h'.IsTuple ax its.toArray := ⟨_,(N' _ (.tail _ (.tail _ (.tail _ hax')))).1,rfl,_,rfl⟩
    have offI : ∀ p ∈ (C,oC) :: (D,lst ys) :: led',p.1 ≠ I := fa2 (Ne.symm hIC) (Ne.symm hID) fun p hp => (off'.mem p hp).1
    refine gen_at (notedBy (model prog w) A (compEnvC scope cl C env) (fun e s' => compPost (model prog w) A E none Q (.ref D) C (.error e) s')) ?_
    intro Ek
    refine gen_post (fun (_ : Value) s₅ => ∃ m_1,m_1 < its.length + 1 - i ∧ PairsInv prog w A h₀ L m env elt x x₂ scope cl s₁ Q I C D ax its m_1 s₅) ?_
    intro Qk hQk
    by_cases hlt : i < its.length
    · refine x1_2 (dec2 hlt) ?_
      intro j hj hj2
      rw [hj] at R'
      refine wpAny_pyNext_tuple_item hit hat (x := its[i]) (by simp [hlt]) fun h₂ hit₂ hs₂ => ?_
      refine x1_3 (id hit₂) ?_
      intro oI₂ eI₂ cI₂ dI₂
      have N₂ := news_moved N' hs₂ eI₂ offI
      have F₂ := fr_moved F' N' hs₂
      refine x5_5 (R' its[i] (by simp [hlt])) ?_
      intro t ot v₁ v₂ nt ev hmt hct hdt R''
      show wpAny _ _ (letOwnedTupleGo _ _ its[i]) _ _ _
      rw [ev]
      refine go_tuple hit₂ ?_
      have ht : IsTup h₂ t #[v₁,v₂] := ⟨ot,(N₂ _ (.tail _ (.tail _ (.tail _ hmt)))).1,hct,nt,hdt⟩
      refine assign_Tuple_tuple hh ht rfl rfl fun h₅ he => ?_
      dsimp only
      have he' : ∀ b o,h₂.get? b = some o → h₅.get? b = some o := fun b o e => he b o (Nat.ne_of_lt (Heap.lt_size e)) e
      have N₅ := N₂.grown he'
      have F₅ := F₂.keeps he'
      refine assignInOrder_cons (wpAny_assign_Name (wpAny_storeName_local (lookup_relabel_local hx) (hoC.ns (N₅ _ (.tail _ (.head _))).1) (fun h₆ hn₆ hs₆ => ?_) (comp_plain hkind)))
      refine assignInOrder_cons (wpAny_assign_Name (wpAny_storeName_local (lookup_relabel_local hx₂) hn₆ (fun h₃ hn₃ hs₃ => ?_) (comp_plain hkind)))
      refine assignInOrder_nil ?_
      dsimp only
      refine x1_2 (ns_obj hn₃) ?_
      intro oC₃ eC₃ hoC₃
      refine x1_2 (ns_obj hn₆) ?_
      intro oC₆ eC₆ hoC₆
      have offC : ∀ p ∈ (I,oI₂) :: (D,lst ys) :: led',p.1 ≠ C := fa2 hIC (Ne.symm hCD) fun p hp => (off'.mem p hp).2.1
      have N₆ := news_moved (news_swap N₅) hs₆ eC₆ offC
      have N₃ := news_moved N₆ hs₃ eC₃ offC
      have F₃ := fr_moved (fr_moved F₅ (news_swap N₅) hs₆) N₆ hs₃
      refine wpAny_mono (R'' I oI₂ C oC₃ D _ h₃ _ _ hoC₃ (look_two1 hxx) (if_pos rfl) F₃ (news_swap N₃) off' ⟨hIC,hID,hCD⟩) (fun y s₄ h₄ => ?_) fun _ _ e => e
      refine x3_6 h₄ ?_;(try clear h₄)
      intro h₄ tk₄ led₄
      rintro rfl
      intro F₄ N₄ off₄ hS₄ R₄
      dsimp only
      refine append_at (hsz := by show ys.toArray.size ≤ sizeLine;rw [List.size_toArray,hyl];exact Nat.le_trans hi hsz) (N₄ _ (.tail _ (.tail _ (.head _)))).1 fun h₅ hs₅ hD₅ => ?_
      have offD : ∀ p ∈ (I,oI₂) :: (C,oC₃) :: led₄,p.1 ≠ D := fa2 hID hCD fun p hp => (off₄.mem p hp).2.2
      have N₄' : News h₀ L h₄ ((D,lst ys) :: (I,oI₂) :: (C,oC₃) :: led₄) := fun p hp => N₄ p (subA (by k_extra "H:sub_auto") hp)
      have N₇ := news_moved N₄' hs₅ (hD₅.trans (congrArg some (lst_snoc ys y))) offD
      refine hQk _ _ ⟨its.length + 1 - (i + 1),dec1 hlt,h₅,tk₄,i + 1,ys ++ [y],oI₂,oC₃,led₄,rfl,hlt,rfl,by rw [List.length_append,List.length_singleton,hyl],cI₂,dI₂,⟨_,hoC₃⟩,fr_moved F₄ N₄' hs₅,fun p hp => N₇ p ?_,off₄,hS₄,?_⟩
      · exact subA (by k_extra "H:sub_auto") hp
      · rw [hj2]
        exact R₄
    · obtain rfl : i = its.length := Nat.le_antisymm hi (Nat.not_lt.mp hlt)
      rw [Nat.sub_self] at R'
      refine wpAny_pyNext_tuple_end hh hit hat (by simp) fun h₂ hk₂ => ?_
      have keepI : ∀ p ∈ (C,oC) :: (D,lst ys) :: led',h₂.get? p.1 = some p.2 := fun p hp => hk₂ _ _ (offI p hp) (N' p (.tail _ hp)).1
      have F₂ : Fr h₀ L h₂ m := fr_but F' (fun b o hb e => hk₂ b o (by simpa using hb) e) (Ne.symm (N' _ (.head _)).2.1) (N' _ (.head _)).2.2
      refine ⟨m',hoC.ns (keepI _ (.head _)),fun h'' hs'' => R' D h'' tk' (F₂.change hs'' hCL hC0) (fun p hp => ?_) off'.one⟩
      have n2 : p.1 ≠ C := fa1 (P := fun p : Addr × Obj => p.1 ≠ C) (Ne.symm hCD) (fun p hp => (off'.mem p hp).2.1) p hp
      exact ⟨hs''.extBut _ _ n2 (keepI _ (.tail _ hp)),(N' p (.tail _ (.tail _ hp))).2⟩
  exact codeAny_compStart_list (loop _ rfl) (wpAny_pyIter_tupleiter (i := 0) ⟨_,(N3 _ (.head _)).1,rfl,rfl⟩ (loop _ rfl))
end
section
open LCg LCp
variable {prog : Program} {w : World} {A : Around} {h₀ : Heap} {L : Addr} {m : Mp} {env : Env}
inductive PairStep (led : Led) (v : Value) (P : Value → Value → Prop) : Prop
  | mk (t : Addr) (v₁ v₂ : Value) (e : v = .ref t) (hm : (t,tup [v₁,v₂]) ∈ led) (h : P v₁ v₂) : PairStep led v P
theorem pairs_inv {elt : Expr} {x x₂ : Str} {scope : Scope} {cl : List (Str × Addr)} {s : Shared} {S : Led → Prop} {its : List Value} {Fin : List Value → Led → Prop} (Inv : Nat → List Value → Led → Prop)
    (step : ∀ i ys led v,Inv i ys led → its[i]? = some v → PairStep led v fun v₁ v₂ =>
      ∀ I oI C oC D m₂ h tk (E' : Value → Shared → Prop),NsObj oC m₂ → m₂ x = some v₁ → m₂ x₂ = some v₂ → Fr h₀ L h m → News h₀ L h ((I,oI) :: (C,oC) :: (D,lst ys) :: led) → Off3 I C D led →
        wpAny (model prog w) A (eval elt (compEnvC scope cl C env)) (CompEnd h₀ L m { s with heap := h,toks := tk } I oI C oC D (lst ys) S (fun y led' => Inv (i + 1) (ys ++ [y]) led')) E' { s with heap := h,toks := tk })
    (fin : ∀ ys led,Inv its.length ys led → Fin ys led) :
    ∀ (n i : Nat) (ys : List Value) (led : Led),i + n = its.length → Inv i ys led → CompRestP prog w A h₀ L m env elt x x₂ scope cl s S (fun i v => its.toArray[i]? = some v) Fin n i ys led
  | 0,i,ys,led,hi,J => by
    obtain rfl : i = its.length := hi
    exact CompRestP.zero (fin ys led J)
  | n + 1,i,ys,led,hi,J => by
    refine CompRestP.succ fun v hv => ?_
    obtain ⟨t,v₁,v₂,ev,hm,hw⟩ := step i ys led v J (by simpa using hv)
    refine ⟨t,_,v₁,v₂,_,ev,hm,rfl,rfl,fun I oI C oC D m₂ h tk E' a1 a2 a3 a4 a5 a6 _ => ?_⟩
    refine wpAny_mono (hw I oI C oC D m₂ h tk E' a1 a2 a3 a4 a5 a6) (fun y s' hq => ?_) fun _ _ e => e
    refine x3_6 hq ?_;(try clear hq)
    intro h' tk' led' e1 e2 e3 e4 e5 e6
    exact ⟨h',tk',led',e1,e2,e3,e4,e5,pairs_inv Inv step fin n (i + 1) (ys ++ [y]) led' (by omega) e6⟩
end
section
open LCg LCp
variable {prog : Program} {w : World} {A : Around} {h₀ : Heap} {L : Addr} {m : Mp} {env : Env}
theorem pairs_inv0 {elt : Expr} {x x₂ : Str} {scope : Scope} {cl : List (Str × Addr)} {s : Shared} {S : Led → Prop} {its : List Value} {Fin : List Value → Led → Prop} {led₀ : Led} (Inv : Led → Nat → List Value → Led → Prop) (start : Inv led₀ 0 [] led₀)
    (step : ∀ i ys led v,Inv led₀ i ys led → its[i]? = some v → PairStep led v fun v₁ v₂ =>
      ∀ I oI C oC D m₂ h tk (E' : Value → Shared → Prop),NsObj oC m₂ → m₂ x = some v₁ → m₂ x₂ = some v₂ → Fr h₀ L h m → News h₀ L h ((I,oI) :: (C,oC) :: (D,lst ys) :: led) → Off3 I C D led →
        wpAny (model prog w) A (eval elt (compEnvC scope cl C env)) (CompEnd h₀ L m { s with heap := h,toks := tk } I oI C oC D (lst ys) S (fun y led' => Inv led₀ (i + 1) (ys ++ [y]) led')) E' { s with heap := h,toks := tk })
    (fin : ∀ ys led,Inv led₀ its.length ys led → Fin ys led) : CompRestP prog w A h₀ L m env elt x x₂ scope cl s S (fun i v => its.toArray[i]? = some v) Fin its.length 0 [] led₀ :=
  pairs_inv (Inv led₀) step fin its.length 0 [] led₀ (Nat.zero_add _) start
end
section
open LCg
variable {h₀ : Heap} {L : Addr} {m : Mp}
theorem compEnd_none {I C D : Addr} {s₁ : Shared} {oI oC oD : Obj} {S : Led → Prop} {rest : Value → Led → Prop} {v : Value} {h' : Heap} {tk : Nat} {led : Led}
    (F : Fr h₀ L h' m) (N : News h₀ L h' ((I,oI) :: (C,oC) :: (D,oD) :: led)) (off : Off3 I C D led) (hS : S led) (r : rest v led) : CompEnd h₀ L m s₁ I oI C oC D oD S rest v { s₁ with heap := h',toks := tk } :=
  CompEnd.intro F N led (fun _ hp => hp) off hS r
theorem compEnd_two {x y : Addr × Obj} {I C D : Addr} {s₁ : Shared} {oI oC oD : Obj} {S : Led → Prop} {rest : Value → Led → Prop} {v : Value} {h' : Heap} {tk : Nat} {led : Led}
    (F : Fr h₀ L h' m) (N : News h₀ L h' (x :: y :: (I,oI) :: (C,oC) :: (D,oD) :: led)) (off : Off3 I C D led) (nx : (@Ne Nat x.1 I) ∧ (@Ne Nat x.1 C) ∧ (@Ne Nat x.1 D)) (ny : (@Ne Nat y.1 I) ∧ (@Ne Nat y.1 C) ∧ (@Ne Nat y.1 D))
    (hS : S (x :: y :: led)) (r : rest v (x :: y :: led)) : CompEnd h₀ L m s₁ I oI C oC D oD S rest v { s₁ with heap := h',toks := tk } :=
  CompEnd.intro F N (x :: y :: led) (fun p hp => by
    exact subA (by k_extra "H:sub_auto") hp) ⟨nx,ny,off⟩ hS r
end
section
variable {prog : Program} {w : World} {A : Around} {E : Value → Shared → Prop} {s : Shared} {h₀ : Heap} {L : Addr} {m : Mp} {news : Led}
theorem tuple_ofK {l : Addr} {ys : List Value} {n : Nat} {Q : Value → Shared → Prop} (F : Fr h₀ L s.heap m) (N : News h₀ L s.heap news) (hm : (l,listOf ys.toArray n) ∈ news) (hz : ys.length ≤ 16384)
    (h : ∀ D h',Fr h₀ L h' m → News h₀ L h' ((D,tup ys) :: news) → (∀ p ∈ news,p.1 < D) → Q (.ref D) { s with heap := h' }) : wpAny (model prog w) A (call (.type "tuple") [.ref l]) Q E s :=
  kde_tupleOf (zs := ys) F N ⟨_,(N _ hm).1,rfl,_,rfl⟩ (by simpa using hz) rfl h
end
end
theorem set_17 : True := by
  k_with "!eval ListComp" => ((k_here;lcp_look;k_dflt (refine pairs_comp (by k_asm) (by with_unfolding_all rfl) (by decide) (by rfl) (by decide) (by rfl) (by rfl) (by decide) ?_ (by intro _;rfl))))
  k_with "!SrcPT" => ((k_here;k_dflt (refine SrcPT.intro (by rfl) (by k_asm) (by k_asm) (by k_mem) (by first | with_reducible assumption | size_fits | exact Nat.le_of_ble_eq_true rfl) ?_;intro _;(try lcp_lit))))
  exact trivial
local macro_rules | `(tactic| lcg_src) => `(tactic| k_extra "T:lcg_src")
theorem set_18 : True := by
  k_with "T:lcg_src" => (((try dsimp only);k_mem))
  k_with "!CompRestP" => ((with_unfolding_all first | (refine LCp.CompRestP.succ ?_;intro _ q9hv';lcg_open q9hv';refine ⟨_,_,_,_,_,rfl,by k_mem,rfl,rfl,?_⟩;intro _ _ _ _ _ _ _ _ _ _ _ _ _ _ _ _) | refine LCp.CompRestP.zero ?_))
  exact trivial
local macro_rules | `(tactic| lcg_off) => `(tactic| k_extra "T:lcg_off")
theorem set_19 : True := by
  k_with "T:lcg_off" => (assumption)
  k_with "!call type:tuple" => ((k_here;(with_reducible show wpAny _ _ (call (Value.type _) [Value.ref _]) _ _ _);k_dflt (refine' tuple_ofK ?q9k1 ?q9k2 ?q9k3 ?q9k4 ?_;(case q9k1 => k_asm);(case q9k2 => k_asm);(case q9k3 => k_mem);(case q9k4 => first | with_reducible assumption | exact Nat.le_of_ble_eq_true rfl);k_whole);intro _ _ _ _ q9l1;(try k_lt q9l1);(try k_sweep)))
  exact trivial
section
theorem getD_bd {xs : List Int} {n : Nat} (h : ∀ x ∈ xs,-2000 ≤ x ∧ x ≤ 2000) : -2000 ≤ xs.getD n 0 ∧ xs.getD n 0 ≤ 2000 := by
  rw [List.getD_eq_getElem?_getD]
  cases e : xs[n]? with
  | none => simp
  | some x => exact h x (List.mem_of_getElem? e)
abbrev Term3 := Int × Int × Int
inductive TermsIn (led : Led) : List Value → List Term3 → Prop
  | nil : TermsIn led [] []
  | cons {a b : Addr} {i p q : Int} {ti tp tq : Tok} {vs : List Value} {ts : List Term3} : (a,tup [.int i ti,.ref b]) ∈ led → (b,tup [.int p tp,.int q tq]) ∈ led → TermsIn led vs ts → TermsIn led (.ref a :: vs) ((i,p,q) :: ts)
theorem TermsIn.mono {led led' : Led} {vs : List Value} {ts : List Term3} (h : TermsIn led vs ts) (hs : ∀ p ∈ led,p ∈ led') : TermsIn led' vs ts := by
  induction h with
  | nil => exact .nil
  | cons h1 h2 _ ih => exact .cons (hs _ h1) (hs _ h2) ih
theorem TermsIn.length {led : Led} {vs : List Value} {ts : List Term3} (h : TermsIn led vs ts) : vs.length = ts.length := by
  induction h with
  | nil => rfl
  | cons _ _ _ ih => rw [List.length_cons,List.length_cons,ih]
theorem TermsIn.at {led : Led} {vs : List Value} {ts : List Term3} (h : TermsIn led vs ts) : ∀ {i : Nat} {v : Value},vs[i]? = some v → ∃ (a b : Addr) (t : Term3) (ti tp tq : Tok),v = .ref a ∧ ts[i]? = some t ∧ (a,tup [.int t.1 ti,.ref b]) ∈ led ∧ (b,tup [.int t.2.1 tp,.int t.2.2 tq]) ∈ led := by
  induction h with
  | nil => intro i v h;simp at h
  | cons h1 h2 _ ih =>
    intro i v hv
    cases i with
    | zero => simp at hv;subst hv;exact ⟨_,_,_,_,_,_,rfl,rfl,h1,h2⟩
    | succ i => simp at hv;obtain ⟨a,b,t,ti,tp,tq,e1,e2,e3,e4⟩ := ih hv;exact ⟨a,b,t,ti,tp,tq,e1,by simpa using e2,e3,e4⟩
noncomputable def TermsAt (led : Led) (ta : Addr) (ts : List Term3) : Prop := ∃ vs,(ta,tup vs) ∈ led ∧ TermsIn led vs ts
theorem TermsAt.mono {led led' : Led} {ta : Addr} {ts : List Term3} (h : TermsAt led ta ts) (hs : ∀ p ∈ led,p ∈ led') : TermsAt led' ta ts := let ⟨vs,a,b⟩ := h;⟨vs,hs _ a,b.mono hs⟩
noncomputable def Okay (ts : List Term3) : Prop := ts.length ≤ 3 ∧ ∀ t ∈ ts,0 ≤ t.1 ∧ t.1 < 3 ∧ -5 ≤ t.2.1 ∧ t.2.1 ≤ 5 ∧ 1 ≤ t.2.2 ∧ t.2.2 ≤ 3 ∧ t.2.1 ≠ 0
noncomputable def sixAt (xs : List Int) (t : Term3) : Int := (t.2.1 * 6).fdiv t.2.2 * xs.getD t.1.toNat 0
noncomputable def sixOf (xs : List Int) (ts : List Term3) : Int := (ts.map (sixAt xs)).sum
theorem map_take_succ {α β : Type} {f : α → β} {ts : List α} {i : Nat} {t : α} (h : ts[i]? = some t) : (ts.take (i + 1)).map f = (ts.take i).map f ++ [f t] := by
  rw [List.take_add_one,h,List.map_append]
  rfl
section
theorem six_use {ta pt : Addr} {ws : List Value} {xs : List Int} {n : Nat} {ts : List Term3} (Z : Sit w dp un cs outer A₀ base h₀ L m mean mg mb s all 1 8)
    (hh : TermsAt all ta ts ∧ Okay ts ∧ (pt,listOf ws.toArray n) ∈ all ∧ IntsAre ws xs ∧ xs.length = 3 ∧ ∀ x ∈ xs,-2000 ≤ x ∧ x ≤ 2000)
    (ret : ∀ t h' tk',Fr h₀ L h' m → News h₀ L h' all → Q (.int (sixOf xs ts) t) { s with heap := h',toks := tk' }) :
    wpAny (model PG w) (ktrTop dp un gd cn cs L a₁ ccd ce outer) (call (.ref 850) [.ref ta,.ref pt]) Q E s := by
  apply bx;simp(disch:=k_dflt(
  obtain ⟨B,F,X,N,T,hk,hd,hu⟩ := Z
  refine x0_6 hh ?_;(try clear hh)
  intro zq1
  refine x1_2 zq1 ?_;(try clear zq1)
  intro vs ht hT
  intro hok hp hx hxl hxb
  refine x0_2 hok ?_;(try clear hok)
  intro hl hok
  have hvl := hT.length
  have hsz : vs.length ≤ sizeLine := by rw [sizeLine_eq];omega
  k_dflt (apply call_atC (binds := [(Str.ofString "terms",Value.ref ta),(Str.ofString "point",Value.ref pt)]));k_extra "H:ktr_rest"
  k_steps
  refine' pairs_inv0 (fun l₀ i ys led => led = l₀ ∧ ∃ ns,IntsAre ys ns ∧ ns = (ts.take i).map (sixAt xs)) ⟨rfl,[],.nil,rfl⟩ ?step ?fin
  case step =>
    intro i ys led v zq2 hv
    refine (let pk := _;(?_ : PairStep _ _ pk))
    refine x0_2 zq2 ?_;(try clear zq2)
    intro e zq3
    refine x1_2 zq3 ?_;(try clear zq3)
    intro ns hi hn
    subst e
    refine x6_4 (hT.at hv) ?_
    intro a b t ti tp tq e1 e2 m1 m2
    refine x0_7 (hok t (List.mem_of_getElem? e2)) ?_
    intro c0 d0 r0 l0 e0 s0 z0
    refine x0_2 (getD_bd (n := t.1.toNat) hxb) ?_
    intro f0 g0
    refine ⟨a,_,_,e1,by k_mem,?_⟩
    intro I oI C oC D m₂ h tk E' hC hx1 hx2 F1 N1 off
    k_steps
    exact LCg.CompEnd.intro (by assumption) N1 _ (fun p hp => hp) off (by k_mem) ⟨rfl,_,hi.append (.cons _ _ .nil),by rw [hn];exact (map_take_succ e2).symm⟩
  case fin =>
    intro ys led zq4
    refine x0_2 zq4 ?_;(try clear zq4)
    intro e zq5
    refine x1_2 zq5 ?_;(try clear zq5)
    intro ns hi hn
    subst e
    k_steps
    have e : ns.sum = sixOf xs ts := by rw [hn,hvl,List.take_length];rfl
    rw [e]
    exact ret _ _ _ (by assumption) (fun p hp => (by with_reducible assumption : News h₀ L _ _) p (sub_tail (sub_tail sub_refl) p hp))
  ))only[↓bx_eq]
end
end
theorem set_20 : True := by
  k_with "!call ref" => ((k_here;(with_reducible show wpAny _ _ (call (Value.ref 850) _) _ _ _);((try k_extra "H:folds");k_dflt (refine' six_use ?q9zS ?q9zh ?_);k_extra "H:ca2")))
  exact trivial
section
noncomputable def SixC (w : World) (all : Led) (ta pt : Addr) (S : Int) : Prop :=
  ∀ {dp un : Nat} {gd : Option (List Code)} {cn : Str} {cs : Scope} {a₁ : Addr} {ccd : Value} {ce : List (Str × Addr)} {outer : List Env} {A₀ : Around} {base h₀ : Heap} {L : Addr} {m : Mp} {mean : ExcName → Option Value} {mg mb : Mp} {s : Shared} {Q E : Value → Shared → Prop},
    Sit w dp un cs outer A₀ base h₀ L m mean mg mb s all 1 8 → (∀ t h' tk',Fr h₀ L h' m → News h₀ L h' all → Q (.int S t) { s with heap := h',toks := tk' }) → wpAny (model PG w) (ktrTop dp un gd cn cs L a₁ ccd ce outer) (call (.ref 850) [.ref ta,.ref pt]) Q E s
noncomputable def RelOk (rel : Str) : Prop := rel = Str.ofString "<" ∨ rel = Str.ofString "<=" ∨ rel = Str.ofString "="
noncomputable def keepsB (rel : Str) (S bp bq : Int) : Bool := if rel = Str.ofString "=" then decide (S * bq = bp * 36) else (decide (S * bq < bp * 36) || (decide (S * bq = bp * 36) && decide (rel = Str.ofString "<=")))
theorem keeps_lt {S bp bq : Int} : keepsB (Str.ofString "<") S bp bq = decide (S * bq < bp * 36) := by
  unfold keepsB
  rw [if_neg (by decide +kernel),decide_eq_false (show ¬ (Str.ofString "<" = Str.ofString "<=") by decide +kernel),Bool.and_false,Bool.or_false]
theorem keeps_le {S bp bq : Int} : keepsB (Str.ofString "<=") S bp bq = decide (S * bq ≤ bp * 36) := by
  unfold keepsB
  rw [if_neg (by decide +kernel),decide_eq_true rfl,Bool.and_true]
  by_cases h : S * bq < bp * 36
  · rw [decide_eq_true h,decide_eq_true (Int.le_of_lt h)];rfl
  · by_cases e : S * bq = bp * 36
    · rw [decide_eq_false h,decide_eq_true e,decide_eq_true (Int.le_of_eq e)];rfl
    · rw [decide_eq_false h,decide_eq_false e,decide_eq_false fun l => (Int.lt_or_eq_of_le l).elim h e];rfl
theorem keeps_eq {S bp bq : Int} : keepsB (Str.ofString "=") S bp bq = decide (S * bq = bp * 36) := by
  unfold keepsB
  rw [if_pos rfl]
theorem bool_ret {b b' : Bool} {st : Shared} {Q : Value → Shared → Prop} (e : b = b') (h : Q (.bool b') st) : Q (.bool b) st := e ▸ h
section
theorem six_ofC {ta pt : Addr} {S : Int} (Z : Sit w dp un cs outer A₀ base h₀ L m mean mg mb s all 1 8) (hh : SixC w all ta pt S) (ret : ∀ t h' tk',Fr h₀ L h' m → News h₀ L h' all → Q (.int S t) { s with heap := h',toks := tk' }) : wpAny (model PG w) (ktrTop dp un gd cn cs L a₁ ccd ce outer) (call (.ref 850) [.ref ta,.ref pt]) Q E s := hh Z ret
theorem g3.on3 : True := trivial
open g3
theorem set_21 : True := by
  k_with "!call ref" => ((fail_if_success(fail_if_success have:=on3));(k_here;(with_reducible show wpAny _ _ (call (Value.ref 850) _) _ _ _);((try k_extra "H:folds");k_dflt (refine' six_ofC ?q9zS ?q9zh ?_);k_extra "H:ca2")))
  k_with "!eval Name" => ((fail_if_success(fail_if_success have:=on3));(k_here;k_dflt (refine' nameX_L ?q9F ?q9v ?_ ?q9a ?q9b;(case q9F => k_asm);(case q9a => rfl);(case q9b => rfl);(case q9v => (k_extra "H:look"));k_whole)))
  exact trivial
inductive KeepC (g : Heap) (L : Addr) (s : Shared) (all : Led) (rel : Str) (tr : Tok) (a b : Int) (s' : Shared) : Prop
  | mk (h' : Heap) (tk' : Nat) (m' : Mp) (T : Led) (t1 t2 : Tok) (e : s' = { s with heap := h',toks := tk' }) (F : Fr g L h' m') (e1 : m' (Str.ofString "relation") = some (.str rel tr)) (e2 : m' (Str.ofString "here") = some (.int a t1)) (e3 : m' (Str.ofString "there") = some (.int b t2)) (N : News g L h' T) (hs : ∀ p ∈ all,p ∈ T) : KeepC g L s all rel tr a b s'
theorem keeps_use {ra ta ba pt : Addr} {rel : Str} {bp bq S : Int} {tr t1 t2 : Tok} (Z : Sit w dp un cs outer A₀ base h₀ L m mean mg mb s all 2 16)
    (hh : (ra,tup [.ref ta,.str rel tr,.ref ba]) ∈ all ∧ (ba,tup [.int bp t1,.int bq t2]) ∈ all ∧ RelOk rel ∧ SixC w all ta pt S ∧ 1 ≤ bq ∧ bq ≤ 1000)
    (ret : ∀ h' tk',Fr h₀ L h' m → News h₀ L h' all → Q (.bool (keepsB rel S bp bq)) { s with heap := h',toks := tk' }) :
    wpAny (model PG w) (ktrTop dp un gd cn cs L a₁ ccd ce outer) (call (.ref 857) [.ref ra,.ref pt]) Q E s := by
  apply bx;simp(disch:=k_dflt(
  obtain ⟨B,F,X,N,T,hk,hd,hu⟩ := Z
  refine x0_6 hh ?_;(try clear hh)
  intro m1 m2 hr hS hb1 hb2
  k_dflt (apply call_at (binds := [(Str.ofString "row",Value.ref ra),(Str.ofString "point",Value.ref pt)]));k_extra "H:o_rest"
  rename_i g₁ L₁ h₁ FG₁ F₁ N₁ B₁ X₁ T₁ z₁
  with_reducible refine execs_cutS 2 (KeepC g₁ L₁ s all rel tr (S * bq) (bp * 36)) ?cut1 ?cut2
  case cut1 =>
    dsimp only [List.take]
    k_steps
    exact stop_go ⟨rfl,_,_,_,_,_,_,rfl,by k_asm,by (k_extra "H:look"),by (k_extra "H:look"),by (k_extra "H:look"),by k_asm,(by first | exact sub_refl | exact sub_tail sub_refl | exact sub_tail (sub_tail sub_refl))⟩
  case cut2 =>
    intro sCut hCut
    obtain ⟨h2,tk2,mX,T2,u1,u2,rfl,F2,e1,e2,e3,N2,hs⟩ := hCut
    dsimp only [List.drop]
    clear F₁ N₁
    rcases hr with e | e | e <;> subst e
    all_goals k_steps
    all_goals (refine bool_ret ?_ (ret _ _ (by assumption) (fun p hp => (by with_reducible assumption : News h₀ L _ _) p (hs p hp))))
    all_goals first | rw [keeps_lt] | rw [keeps_le] | rw [keeps_eq]
    all_goals (try simp only [show (Str.ofString "<" == Str.ofString "<=") = false from by decide +kernel,show (Str.ofString "<=" == Str.ofString "<=") = true from by decide +kernel])
    all_goals first | rfl | exact fc1 (by assumption) | exact fc2 (by assumption) (by assumption) | exact fc3 (by assumption) | exact fc4 (by assumption) | exact fc5 (by assumption) (by assumption)
  ))only[↓bx_eq]
end
end
section
noncomputable def negT (t : Term3) : Term3 := (t.1,-t.2.1,t.2.2)
noncomputable def negRel (rel : Str) : Str := if rel = Str.ofString "<=" then Str.ofString "<" else Str.ofString "<="
theorem neg_lt : negRel (Str.ofString "<") = Str.ofString "<=" := by decide +kernel
theorem neg_le : negRel (Str.ofString "<=") = Str.ofString "<" := by decide +kernel
noncomputable def RowAt (led : Led) (ra : Addr) (ts : List Term3) (rel : Str) (bp bq : Int) : Prop := ∃ ta ba tr t1 t2,(ra,tup [.ref ta,.str rel tr,.ref ba]) ∈ led ∧ (ba,tup [.int bp t1,.int bq t2]) ∈ led ∧ TermsAt led ta ts
theorem TermsIn.snoc {led : Led} {vs : List Value} {ts : List Term3} (h : TermsIn led vs ts) {a b : Addr} {i p q : Int} {ti tp tq : Tok} (h1 : (a,tup [.int i ti,.ref b]) ∈ led) (h2 : (b,tup [.int p tp,.int q tq]) ∈ led) : TermsIn led (vs ++ [.ref a]) (ts ++ [(i,p,q)]) := by
  induction h with
  | nil => exact .cons h1 h2 .nil
  | cons g1 g2 _ ih => exact .cons g1 g2 ih
section
theorem negrow_use {ra ta ba : Addr} {ts : List Term3} {rel : Str} {bp bq : Int} {tr t1 t2 : Tok} (Z : Sit w dp un cs outer A₀ base h₀ L m mean mg mb s all 2 16)
    (hh : (ra,tup [.ref ta,.str rel tr,.ref ba]) ∈ all ∧ (ba,tup [.int bp t1,.int bq t2]) ∈ all ∧ TermsAt all ta ts ∧ ts.length ≤ 3 ∧ RelOk rel)
    (ret : ∀ v led' h' tk',Fr h₀ L h' m → After h₀ L s.heap all h' led' → (∀ p ∈ all,p ∈ led') → (if rel = Str.ofString "=" then v = .none else ∃ rb,v = .ref rb ∧ RowAt led' rb (ts.map negT) (negRel rel) (-bp) bq) → Q v { s with heap := h',toks := tk' }) :
    wpAny (model PG w) (ktrTop dp un gd cn cs L a₁ ccd ce outer) (call (.ref 789) [.ref ra]) Q E s := by
  apply bx;simp(disch:=k_dflt(
  obtain ⟨B,F,X,N,T,hk,hd,hu⟩ := Z
  refine x0_5 hh ?_;(try clear hh)
  intro m1 m2 zq1
  refine x1_2 zq1 ?_;(try clear zq1)
  intro vs ht hT
  intro hl hr
  have hvl := hT.length
  have hsz : vs.length ≤ sizeLine := by rw [sizeLine_eq];omega
  rcases hr with e | e | e <;> subst e
  all_goals
    k_dflt (apply call_at (binds := [(Str.ofString "row",Value.ref ra)]));k_extra "H:o_rest"
    k_steps
  iterate 2
    refine' pairs_inv0 (fun l₀ i ys led => (∀ p ∈ l₀,p ∈ led) ∧ TermsIn led ys ((ts.take i).map negT)) ⟨sub_refl,.nil⟩ ?step ?fin
    case step =>
      intro i ys led v zq2 hv
      refine (let pk := _;(?_ : PairStep _ _ pk))
      refine x0_2 zq2 ?_;(try clear zq2)
      intro hs hT'
      refine x6_4 (hT.at hv) ?_
      intro a b t ti tp tq e1 e2 g1 g2
      have g3 := hs _ (by k_mem : (a,tup [.int t.1 ti,.ref b]) ∈ _)
      have g4 := hs _ (by k_mem : (b,tup [.int t.2.1 tp,.int t.2.2 tq]) ∈ _)
      have g5 := hs _ (by k_mem : (ta,tup vs) ∈ _)
      refine ⟨a,_,_,e1,g3,?_⟩
      intro I oI C oC D m₂ h tk E' hC hx1 hx2 F1 N1 off
      k_steps
      exact compEnd_two (by assumption) (by assumption) off ⟨by k_ne,by k_ne,by k_ne⟩ ⟨by k_ne,by k_ne,by k_ne⟩ (by k_mem) ⟨sub_tail (sub_tail hs),by
        rw [map_take_succ e2]
        exact (hT'.mono (sub_tail (sub_tail sub_refl))).snoc (.head _) (.tail _ (.head _))⟩
    case fin =>
      intro ys led zq3
      refine x0_2 zq3 ?_;(try clear zq3)
      intro hs hT'
      have hyl : ys.length ≤ 16384 := by rw [hT'.length,List.length_map,List.length_take];omega
      have g1 := hs _ (by k_mem : (ba,tup [.int bp t1,.int bq t2]) ∈ _)
      k_steps
      have hT' : TermsIn led ys (ts.map negT) := by rw [hvl,List.take_length] at hT';exact hT'
      refine ret _ _ _ _ (by assumption) (after_of (by assumption) (by assumption) (by assumption) (by assumption)) ?_ ?_
      · intro p hp
        repeat first | exact hp | (refine hs p ?_) | (refine List.mem_cons_of_mem _ ?_)
      · rw [if_neg (by decide +kernel)]
        first | rw [neg_lt] | rw [neg_le]
        exact ⟨_,rfl,_,_,_,_,_,by k_mem,by k_mem,ys,by k_mem,hT'.mono (sub_tail (sub_tail (sub_tail (sub_tail sub_refl))))⟩
  refine ret _ _ _ _ (by assumption) (after_of (by assumption) (by assumption) (by assumption) (by assumption)) ?_ ?_
  · intro p hp
    repeat first | exact hp | (refine List.mem_cons_of_mem _ ?_)
  · rw [if_pos rfl]
  ))only[↓bx_eq]
end
end
section
theorem split_out {h₀ h : Heap} {L : Addr} {led : Led} (N : News h₀ L h led) (ms : Led) (hms : ∀ p ∈ ms,p ∈ led) : ∃ rest : Led,News h₀ L h (ms ++ rest) ∧ (∀ p ∈ led,p ∈ ms ++ rest) ∧ (∀ q ∈ rest,q ∈ led) ∧ ∀ p ∈ ms,∀ q ∈ rest,q.1 ≠ p.1 := by
  refine ⟨led.filter (fun q => decide (∀ p ∈ ms,q.1 ≠ p.1)),fun p hp => ?_,fun p hp => ?_,fun q hq => (List.mem_filter.mp hq).1,fun p hp q hq => ?_⟩
  · rcases List.mem_append.mp hp with hp | hp
    · exact N p (hms p hp)
    · exact N p (List.mem_filter.mp hp).1
  · by_cases c : ∀ q ∈ ms,p.1 ≠ q.1
    · exact List.mem_append_right _ (List.mem_filter.mpr ⟨hp,decide_eq_true c⟩)
    · refine List.mem_append_left _ ?_
      have : ∃ q ∈ ms,p.1 = q.1 := Classical.byContradiction fun n => c fun q hq e => n ⟨q,hq,e⟩
      refine x1_2 this ?_;(try clear this)
      intro q hq e
      have e1 := (N p hp).1
      rw [e,(N q (hms q hq)).1] at e1
      have : p = q := Prod.ext e (Option.some.inj e1).symm
      exact this ▸ hq
  · exact of_decide_eq_true (List.mem_filter.mp hq).2 p hp
noncomputable def termD (t : Term3) : Dat := .tuple [.int t.1,.tuple [.int t.2.1,.int t.2.2]]
noncomputable def rowD (ts : List Term3) (rel : Str) (bp bq : Int) : Dat := .tuple [.tuple (ts.map termD),.str rel,.tuple [.int bp,.int bq]]
theorem TermsIn.dat {led : Led} {vs : List Value} {ts : List Term3} (h : TermsIn led vs ts) : DatAll led vs (ts.map termD) := by
  induction h with
  | nil => exact .nil
  | cons h1 h2 _ ih => exact .cons (.tuple h1 (.cons (.int _ _) (.cons (.tuple h2 (.cons (.int _ _) (.cons (.int _ _) .nil))) .nil))) ih
theorem RowAt.dat {led : Led} {ra : Addr} {ts : List Term3} {rel : Str} {bp bq : Int} (h : RowAt led ra ts rel bp bq) : DatIn led (.ref ra) (rowD ts rel bp bq) := by
  refine x5_3 h ?_;(try clear h)
  intro ta ba tr t1 t2 h1 h2 zq1
  refine x1_2 zq1 ?_;(try clear zq1)
  intro vs h3 h4
  exact .tuple h1 (.cons (.tuple h3 h4.dat) (.cons (.str _ _) (.cons (.tuple h2 (.cons (.int _ _) (.cons (.int _ _) .nil))) .nil)))
theorem termD_inj {a b : Term3} (h : termD a = termD b) : a = b := by
  obtain ⟨a1,a2,a3⟩ := a
  obtain ⟨b1,b2,b3⟩ := b
  simp only [termD,Dat.tuple.injEq,List.cons.injEq,Dat.int.injEq,and_true] at h
  refine x0_3 h ?_;(try clear h)
  rintro rfl
  rintro rfl
  rintro rfl
  rfl
theorem termD_ok (t : Term3) : kqdOk 6 (termD t) = true := by simp [termD,kqdOk]
theorem rowD_ok {ts : List Term3} {rel : Str} {bp bq : Int} (h : RelOk rel) : kqdOk 8 (rowD ts rel bp bq) = true := by
  have h1 : PyData.strOk rel = true := by rcases h with e | e | e <;> subst e <;> decide +kernel
  simp only [rowD,kqdOk,List.all_cons,List.all_nil,Bool.and_true,List.all_map,h1]
  simpa [Function.comp] using fun (t : Term3) _ => termD_ok t
section
variable {prog : Program} {w : World} {A : Around} {E : Value → Shared → Prop} {s : Shared} {h₀ : Heap} {L : Addr} {led : Led} {a b : Value} {d e : Dat} {Q : Value → Shared → Prop}
theorem dat_eqv (ha : kqdOk 8 d = true) (hb : kqdOk 8 e = true) : (d = e → PyData.eqv (kqdP d) (kqdP e) = true) ∧ (d ≠ e → PyData.eqv (kqdP d) (kqdP e) = false) :=
  ⟨(kqd_eqv 8 d e 8 ha hb).mpr,fun n => Bool.eq_false_iff.mpr fun x => n ((kqd_eqv 8 d e 8 ha hb).mp x)⟩
theorem dat_shaped (ha : kqdOk 8 d = true) : SeqAt.shaped (kqdP d) = true := by
  have l := kqd_lay 8 d ha
  unfold SeqAt.shaped
  rw [l.1,Bool.true_and]
  exact decide_eq_true (Nat.le_trans l.2 (by decide))
theorem dat_ne (N : News h₀ L s.heap led) (Da : DatIn led a d) (Db : DatIn led b e) (ha : kqdOk 8 d = true) (hb : kqdOk 8 e = true) (hu : A.units + 64 < cLine) (h1 : d = e → Q (.bool false) s) (h2 : d ≠ e → Q (.bool true) s) :
    wpAny (model prog w) A (compareOp .NotEq a b) Q E s := by
  refine x1_1 (kqd_in N 8 Da ha) ?_
  intro as ra
  refine x1_1 (kqd_in N 8 Db hb) ?_
  intro bs rb
  refine ne_dataH ra rb (dat_shaped ha) (dat_shaped hb) hu ?_
  by_cases q : d = e
  · rw [(dat_eqv ha hb).1 q];exact h1 q
  · rw [(dat_eqv ha hb).2 q];exact h2 q
end
end
section
noncomputable def TurnPost (h₀ : Heap) (L : Addr) (s₁ : Shared) (I : Addr) (it : Obj) (Jn : Mp → Led → Prop) (Q : Flow → Shared → Prop) (f : Flow) (s₂ : Shared) : Prop :=
  match f with
  | .ret v => Q (.ret v) s₂
  | .brk => Q .next s₂
  | _ => StopAt (∃ h' tk m' led',s₂ = { s₁ with heap := h',toks := tk } ∧ Fr h₀ L h' m' ∧ News h₀ L h' ((I,it) :: led') ∧ (∀ p ∈ led',p.1 ≠ I) ∧ Jn m' led')
section
variable {prog : Program} {w : World} {A : Around} {E : Value → Shared → Prop} {s : Shared} {env : Env} {h₀ : Heap} {x : Str} {body : List Stmt} {Q : Flow → Shared → Prop}
theorem range_inv {r : Addr} {nI : Int} {t₀ u₀ v₀ : Tok} {n : Nat} {m₀ : Mp} {news : Led} (J : Addr → Nat → Mp → Led → Prop)
    (hr : IsRange s.heap r 0 nI 1 t₀ u₀ v₀) (hsmall : Builtin.Range.small 0 nI 1 = true) (hn : Builtin.Range.rangeSize 0 nI 1 = (n : Int)) (F : Fr h₀ env.locals s.heap m₀) (N : News h₀ env.locals s.heap news)
    (h0 : ∀ I,(∀ p ∈ news,p.1 < I) → J I 0 m₀ news)
    (step : ∀ I i v t h tk m led it,i < n → v = (i : Int) → J I i m led → (∀ p ∈ led,p.1 ≠ I) → Fr h₀ env.locals h (fun y => if y = x then some (.int v t) else m y) → News h₀ env.locals h ((I,it) :: led) →
      wpAny (model prog w) A (execs body env) (TurnPost h₀ env.locals { s with heap := h,toks := tk } I it (J I (i + 1)) Q) E { s with heap := h,toks := tk })
    (fin : ∀ I h tk m led,J I n m led → Fr h₀ env.locals h m → News h₀ env.locals h led → Q .next { s with heap := h,toks := tk })
    (hh : A.handled = none) :
    wpAny (model prog w) A (pyIter (.ref r)) (fun it s₂ => LoopAtV prog w A h₀ env x body Q E it s₂) E s := by
  refine iter_rangeUnr hh hr hsmall hn F N fun I hI => ?_
  have go : ∀ k i m led,k + i = n → J I i m led → (∀ p ∈ led,p.1 ≠ I) → RangeRest prog w A E h₀ env x body Q s I 0 n k i m led := by
    intro k
    induction k with
    | zero =>
      intro i m led e j off
      obtain rfl : i = n := by omega
      exact RangeRest.zero fun h tk F' N' => fin I h tk m led j F' N'
    | succ k ih =>
      intro i m led e j off
      refine RangeRest.succ fun t h tk F' N' => ?_
      refine wpAny_mono (step I i (0 + (i : Int)) t h tk m led _ (by omega) (by omega) j off F' N') (fun f s₂ p => ?_) fun _ _ e => e
      cases f with
      | ret v => exact p
      | brk => exact p
      | next =>
        refine x4_5 p ?_;(try clear p)
        intro h' tk' m' led' e1 F1 N1 o1 j1
        exact ⟨h',tk',m',led',e1,F1,N1,o1,ih (i + 1) m' led' (by omega) j1 o1⟩
      | cont =>
        refine x4_5 p ?_;(try clear p)
        intro h' tk' m' led' e1 F1 N1 o1 j1
        exact ⟨h',tk',m',led',e1,F1,N1,o1,ih (i + 1) m' led' (by omega) j1 o1⟩
  exact go n 0 m₀ news (by omega) (h0 I hI) fun p hp => Nat.ne_of_lt (hI p hp)
end
theorem turn_end {h₀ h' : Heap} {L I : Addr} {s₁ : Shared} {it : Obj} {Jn : Mp → Led → Prop} {Q : Flow → Shared → Prop} {tk : Nat} {m' : Mp} {led ms : Led} (F : Fr h₀ L h' m') (N : News h₀ L h' led) (hms : ∀ p ∈ (I,it) :: ms,p ∈ led) (hm : ∀ p ∈ ms,p.1 ≠ I)
    (j : ∀ rest : Led,(∀ p ∈ led,p ∈ (I,it) :: ms ++ rest) → (∀ q ∈ rest,q ∈ led) → (∀ p ∈ ms,∀ q ∈ rest,q.1 ≠ p.1) → Jn m' (ms ++ rest)) : TurnPost h₀ L s₁ I it Jn Q .next { s₁ with heap := h',toks := tk } := by
  refine x1_4 (split_out N _ hms) ?_
  intro rest N1 c1 c2 c3
  exact ⟨h',tk,m',ms ++ rest,rfl,F,N1,fun p hp => by
    rcases List.mem_append.mp hp with hp | hp
    · exact hm p hp
    · exact c3 _ (.head _) p hp,j rest c1 c2 fun p hp => c3 p (.tail _ hp)⟩
theorem compress {h₀ h : Heap} {L : Addr} {led : Led} (N : News h₀ L h led) (ms : Led) (hms : ∀ p ∈ ms,p ∈ led) (nt : ∀ p ∈ ms,∀ vs,p.2 ≠ tup vs) :
    ∃ rest : Led,News h₀ L h (ms ++ rest) ∧ (∀ a vs,(a,tup vs) ∈ led → (a,tup vs) ∈ rest) ∧ (∀ q ∈ rest,AllNe q.1 ms) ∧ (∀ p ∈ led,AllNe p.1 ms → p ∈ rest) ∧ ∀ q ∈ rest,q ∈ led := by
  refine x1_4 (split_out N ms hms) ?_
  intro rest N1 c1 c2 c3
  refine ⟨rest,N1,fun a vs h => ?_,fun q hq => allNe_of fun p hp => Ne.symm (c3 p hp q hq),fun p hp hn => ?_,c2⟩
  · rcases List.mem_append.mp (c1 _ h) with h1 | h1
    · exact absurd rfl (nt _ h1 vs)
    · exact h1
  · rcases List.mem_append.mp (c1 _ hp) with h1 | h1
    · exact absurd rfl (hn.get h1)
    · exact h1
theorem feed_nt {w : World} {cl : Addr} {sp : Int} {o : Obj} (h : Feed w cl sp o) : ∀ vs,o ≠ tup vs := fun vs e => by
  subst e
  refine x3_2 h ?_;(try clear h)
  intro _ _ _ hc _
  have e2 : Value.type "tuple" = Value.type "dict" := hc.1
  injection e2 with e3
  exact absurd e3 (by decide)
theorem cell_nt {o : Obj} {x : Option Value} (h : o.data = .cell x) : ∀ vs,o ≠ tup vs := fun vs e => by
  subst e
  cases h
theorem list_nt {its : Array Value} {n : Nat} : ∀ vs,listOf its n ≠ tup vs := fun vs e => by
  have e2 : Value.type "list" = Value.type "tuple" := congrArg Obj.cls e
  injection e2 with e3
  exact absurd e3 (by decide)
theorem nt_nil : ∀ p ∈ ([] : Led),∀ vs,p.2 ≠ tup vs := fun p hp => nomatch hp
theorem nt_cons {p : Addr × Obj} {l : Led} (h : ∀ vs,p.2 ≠ tup vs) (r : ∀ p ∈ l,∀ vs,p.2 ≠ tup vs) : ∀ q ∈ p :: l,∀ vs,q.2 ≠ tup vs := fun q hq => by
  rcases List.mem_cons.mp hq with rfl | hq
  · exact h
  · exact r q hq
abbrev TSub (led led' : Led) : Prop := ∀ a vs,(a,tup vs) ∈ led → (a,tup vs) ∈ led'
theorem TermsIn.tmono {led led' : Led} {vs : List Value} {ts : List Term3} (h : TermsIn led vs ts) (hs : TSub led led') : TermsIn led' vs ts := by
  induction h with
  | nil => exact .nil
  | cons h1 h2 _ ih => exact .cons (hs _ _ h1) (hs _ _ h2) ih
theorem RowAt.tmono {led led' : Led} {ra : Addr} {ts : List Term3} {rel : Str} {bp bq : Int} (h : RowAt led ra ts rel bp bq) (hs : TSub led led') : RowAt led' ra ts rel bp bq := by
  refine x5_3 h ?_;(try clear h)
  intro ta ba tr t1 t2 h1 h2 zq1
  refine x1_2 zq1 ?_;(try clear zq1)
  intro vs h3 h4
  exact ⟨ta,ba,tr,t1,t2,hs _ _ h1,hs _ _ h2,vs,hs _ _ h3,h4.tmono hs⟩
theorem rowAt_of {h₀ h : Heap} {L : Addr} {led : Led} {ra ta ba : Addr} {ts : List Term3} {rel : Str} {bp bq : Int} {tr t1 t2 : Tok} {vs : List Value} (_ : News h₀ L h led) (h1 : (ra,tup [.ref ta,.str rel tr,.ref ba]) ∈ led) (h2 : (ba,tup [.int bp t1,.int bq t2]) ∈ led) (h3 : (ta,tup vs) ∈ led) (h4 : TermsIn led vs ts) : RowAt led ra ts rel bp bq :=
  ⟨ta,ba,tr,t1,t2,h1,h2,vs,h3,h4⟩
theorem rowAt_to {h₀ h : Heap} {L : Addr} {led led' : Led} {ra : Addr} {ts : List Term3} {rel : Str} {bp bq : Int} (_ : News h₀ L h led') (R : RowAt led ra ts rel bp bq) (hs : TSub led led') : RowAt led' ra ts rel bp bq := R.tmono hs
theorem upd2 {a b : Str} {x x' y y' : Option Value} {B : Mp} : (fun z => if z = a then x else if z = b then y else if z = a then x' else if z = b then y' else B z) = fun z => if z = a then x else if z = b then y else B z := by
  funext z
  by_cases h : z = a
  · simp only [h,if_true]
  · by_cases h' : z = b
    · simp only [h',if_true]
    · simp only [h,h',if_false]
theorem upd1 {a b : Str} {x' y y' : Option Value} {B : Mp} (n : a ≠ b) : (fun z => if z = b then y else if z = a then x' else if z = b then y' else B z) = fun z => if z = a then x' else if z = b then y else B z := by
  funext z
  by_cases h : z = a
  · subst h
    simp only [n,if_true,if_false]
  · by_cases h' : z = b
    · simp only [h',if_true]
      split <;> simp_all
    · simp only [h,h',if_false]
theorem range_small {b : Int} (h : 0 ≤ b) (h' : b ≤ 100000) : Builtin.Range.small 0 b 1 = true := small_one (by decide) (by decide) (by omega) (by omega)
theorem range_size {b : Int} (h : 0 ≤ b) : Builtin.Range.rangeSize 0 b 1 = ((b.toNat : Nat) : Int) := by rw [rangeSize_nat,Int.sub_zero]
theorem AllNe.perm {b a : Addr} {o o' : Obj} {r : Led} (h : AllNe b ((a,o) :: r)) : AllNe b ((a,o') :: r) := h
theorem negT_negT {ts : List Term3} : List.map negT (List.map negT ts) = ts := by
  rw [List.map_map]
  conv => rhs;rw [← List.map_id ts]
  congr 1
  funext t
  obtain ⟨a,b,c⟩ := t
  simp [negT,Function.comp]
theorem three_cases {i : Int} (h0 : 0 ≤ i) (h3 : i < 3) : i = 0 ∨ i = 1 ∨ i = 2 := by omega
end
theorem set_22 : True := by
  k_with "!pyIter ref" => ((k_here;(with_reducible show wpAny _ _ (pyIter (Value.ref _)) (fun it s₂ => LoopAtV _ _ _ _ _ _ _ _ _ it s₂) _ _);refine stop_at ?_))
  k_with "!call type:range" => ((k_here;(rename Fr _ _ _ _ => q9F');(rename News _ _ _ _ => q9N');(with_unfolding_all refine range1_rows q9F' q9N' ?_;intro _ _ _ _ _ _ _ _ _)))
  exact trivial
local macro_rules | `(tactic| k_all) => `(tactic| k_extra "T:k_all")
theorem set_23 : True := by
  k_with "T:k_all" => (assumption)
  k_with "!call builtin:list.append" => ((k_here;(with_reducible show wpAny _ _ (call (Value.builtin _) [Value.ref _,_]) _ _ _);k_dflt (refine' append_K ?q9k1 ?q9k2 ?q9k3 ?_ ?q9z;(case q9k1 => k_asm);(case q9k2 => k_asm);(case q9k3 => k_upd);(case q9z => assumption);k_whole);intro _ _ _;(try k_sweep)))
  k_with "!CompEnd" => ((refine stop_at ?_))
  exact trivial
section
section
open LCg
variable {prog : Program} {w : World} {A : Around} {E : Value → Shared → Prop} {s : Shared} {h₀ : Heap} {L : Addr} {m : Mp} {env : Env}
noncomputable def SrcT (prog : Program) (w : World) (A : Around) (h₀ : Heap) (L : Addr) (m : Mp) (env : Env) (elt : Expr) (x : Str) (scope : Scope) (cl : List (Str × Addr)) (Q : Value → Shared → Prop) (xv : Value) (s₁ : Shared) : Prop :=
  ∃ ax its led,xv = .ref ax ∧ A.handled = none ∧ Fr h₀ L s₁.heap m ∧ News h₀ L s₁.heap led ∧ (ax,tup its) ∈ led ∧ its.length ≤ sizeLine ∧
    ∀ g,CompRest prog w A h₀ L m env elt x scope cl { s₁ with heap := g } (fun l => (ax,tup its) ∈ l) (fun i v => its.toArray[i]? = some v) (FinE h₀ L m { s₁ with heap := g } Q) its.length 0 [] led
theorem SrcT.intro {elt : Expr} {x : Str} {scope : Scope} {cl : List (Str × Addr)} {Q : Value → Shared → Prop} {ax : Addr} {its : List Value} {led : Led} {s₁ : Shared} (hh : A.handled = none) (F : Fr h₀ L s₁.heap m) (N : News h₀ L s₁.heap led) (hm : (ax,tup its) ∈ led) (hsz : its.length ≤ sizeLine)
    (h : ∀ g,CompRest prog w A h₀ L m env elt x scope cl { s₁ with heap := g } (fun l => (ax,tup its) ∈ l) (fun i v => its.toArray[i]? = some v) (FinE h₀ L m { s₁ with heap := g } Q) its.length 0 [] led) : SrcT prog w A h₀ L m env elt x scope cl Q (.ref ax) s₁ := ⟨ax,its,led,rfl,hh,F,N,hm,hsz,h⟩
theorem tup_st {ax I : Addr} {its : List Value} : ∀ i (h h' : Heap) (o : Obj) (nw : Led),(h.IsTupleIter I ax i ∧ h.IsTuple ax its.toArray) → h.get? I = some o → h'.get? I = some o → (∀ b o,h₀.get? b = some o → h'.get? b = some o) → News h₀ L h' nw → (ax,tup its) ∈ nw → (h'.IsTupleIter I ax i ∧ h'.IsTuple ax its.toArray) :=
  fun i h h' o nw st e e' _ N S => ⟨by obtain ⟨o',q,r⟩ := st.1;rw [e] at q;cases q;exact ⟨o,e',r⟩,⟨_,(N _ S).1,rfl,_,rfl⟩⟩
theorem tuple_comp {elt iter : Expr} {x : Str} {px : Pos} {scope : Scope} {cl : List (Str × Addr)} {pos : Pos} {Q : Value → Shared → Prop} (F₀ : Fr h₀ L s.heap m)
    (hclos : closureFor scope env = pure cl) (hcell : ∀ y ∈ scope.names,y.2 ≠ .cell) (hkind : scope.kind = .function)
    (hnames : ∀ y ∈ scope.names,y.2 = .local → scope.names.lookup y.1 = some .local) (hx : scope.names.lookup x = some .local)
    (h : wpAny (model prog w) A (eval iter env) (SrcT prog w A h₀ L m env elt x scope cl Q) E s)
    (hs : ∀ x,foldedSetIterable iter env x = pure x) :
    wpAny (model prog w) A (eval (.ListComp elt [⟨.Name x px,iter,[],0⟩] scope pos) env) Q E s := by
  clear F₀
  rw [eval_ListComp]
  refine wpAny_comprehension_free (use := none) rfl hs hclos hkind hnames (wpAny_mono h (fun xv s₁ h₁ => ?_) fun _ _ e => e)
  refine x3_7 h₁ ?_;(try clear h₁)
  intro ax its news
  rintro rfl
  intro hh F N S hsz R
  have hl : s₁.heap.IsTuple ax its.toArray := ⟨_,(N _ S).1,rfl,_,rfl⟩
  have hlt : ax < s₁.heap.objs.size := Heap.lt_size (N _ S).1
  refine wpAny_pyIter_tuple hl ?_
  have up : ∀ b o,s₁.heap.get? b = some o → (s₁.heap.push { cls := .type "tuple_iterator",data := .fields #[.ref ax,.int 0 0] }).get? b = some o := fun b o e => Heap.get?_push_of_some _ e
  have R := R (s₁.heap.push { cls := .type "tuple_iterator",data := .fields #[.ref ax,.int 0 0] })
  refine block_U (n := its.length) (Fin := FinE h₀ L m _ Q) (by have := Walks.tuple (prog := prog) (w := w) hh s₁.heap.objs.size ax (Nat.ne_of_lt hlt) its.toArray;rwa [List.size_toArray] at this) hsz (fun i h st => by obtain ⟨o,e,_⟩ := st.1;exact ⟨o,e⟩) tup_st hcell hkind hx ⟨⟨_,Heap.get?_push_size _ rfl,rfl,rfl⟩,hl.at fun o e => up _ _ e⟩ (fun b hb => ?_)
    (F.keeps up) (N.grown up) (Nat.ne_of_lt F.ns.lt) (next_is_new F) (fun p hp => Nat.ne_of_lt (Heap.lt_size (N p hp).1)) S R ?_
  · show b < (s₁.heap.push _).objs.size
    rw [Heap.size_push]
    rcases List.mem_cons.mp hb with rfl | hb
    · exact Nat.lt_succ_self _
    · rw [List.mem_singleton.mp hb];exact Nat.lt_succ_of_lt hlt
  · intro D C h tk m' ys news' F' N' o1 hn hC₀ hD₀ hCL hDL hCD offC fin
    refine ⟨m',hn,fun h'' hs'' => fin D h'' tk (F'.change hs'' hCL hC₀) (fun p hp => ?_) o1⟩
    refine ⟨hs''.extBut _ _ ?_ (N' p hp).1,(N' p hp).2⟩
    rcases List.mem_cons.mp hp with rfl | hp
    · exact Ne.symm hCD
    · exact offC p hp
end
theorem off_all {T ms : Led} {x : Addr} (h : ∀ q ∈ T,AllNe q.1 ms) (hx : ∃ o,(x,o) ∈ ms) : ∀ q ∈ T,q.1 ≠ x := fun q hq => let ⟨_,ho⟩ := hx;Ne.symm ((h q hq).get ho)
theorem off_ne {T ms : Led} {a x : Addr} {o : Obj} (hm : (a,o) ∈ T) (h : ∀ q ∈ T,AllNe q.1 ms) (hx : ∃ o,(x,o) ∈ ms) : a ≠ x := off_all h hx _ hm
noncomputable def TwoPart (J : Mp → Led → Led → Prop) (m : Mp) (led : Led) : Prop := ∃ ms T,led = ms ++ T ∧ (∀ q ∈ T,AllNe q.1 ms) ∧ J m ms T
theorem turn_two {h₀ h' : Heap} {L I : Addr} {s₁ : Shared} {it : Obj} {J : Mp → Led → Led → Prop} {Q : Flow → Shared → Prop} {tk : Nat} {m' : Mp} {led : Led} (ms : Led) (F : Fr h₀ L h' m') (N : News h₀ L h' led) (hms : ∀ p ∈ (I,it) :: ms,p ∈ led) (hm : AllNe I ms)
    (j : ∀ T : Led,(∀ p ∈ led,AllNe p.1 ((I,it) :: ms) → p ∈ T) → J m' ms T) : TurnPost h₀ L s₁ I it (TwoPart J) Q .next { s₁ with heap := h',toks := tk } := by
  refine turn_end (ms := ms) F N hms (fun p hp => hm.get hp) fun rest c1 _ c3 => ?_
  refine ⟨ms,rest,rfl,fun q hq => allNe_of fun p hp => Ne.symm (c3 p hp q hq),j rest fun p hp hn => ?_⟩
  rcases List.mem_append.mp (c1 p hp) with h | h
  · exact absurd rfl (hn.get h)
  · exact h
theorem into_all {T T' ms led : Led} (c : ∀ p ∈ led,AllNe p.1 ms → p ∈ T') (hs : ∀ p ∈ T,p ∈ led) (h : ∀ q ∈ T,AllNe q.1 ms) : ∀ p ∈ T,p ∈ T' := fun p hp => c p (hs p hp) (h p hp)
theorem apart_cons {T ms : Led} {I : Addr} {it : Obj} (h : ∀ q ∈ T,AllNe q.1 ms) (hI : ∀ q ∈ T,q.1 ≠ I) : ∀ q ∈ T,AllNe q.1 ((I,it) :: ms) := fun q hq => ⟨Ne.symm (hI q hq),h q hq⟩
section
variable {prog : Program} {w : World} {A : Around} {E : Value → Shared → Prop} {s : Shared} {env : Env} {h₀ : Heap} {x : Str} {body : List Stmt} {Q : Flow → Shared → Prop}
theorem range_two {r : Addr} {nI : Int} {t₀ u₀ v₀ : Tok} {m₀ : Mp} (ms₀ T₀ : Led) {news : Led} (J : Nat → Mp → Led → Led → Prop)
    (hr : IsRange s.heap r 0 nI 1 t₀ u₀ v₀) (hn : 0 ≤ nI ∧ nI ≤ 100) (F : Fr h₀ env.locals s.heap m₀) (N : News h₀ env.locals s.heap news) (e₀ : ∀ p ∈ ms₀ ++ T₀,p ∈ news)
    (off₀ : ∀ q ∈ T₀,AllNe q.1 ms₀) (h0 : J 0 m₀ ms₀ T₀)
    (step : ∀ I i v t h tk m ms T it,v = ((i : Nat) : Int) → v < nI → J i m ms T → AllNe I ms → (∀ q ∈ T,AllNe q.1 ((I,it) :: ms)) → Fr h₀ env.locals h (fun y => if y = x then some (.int v t) else m y) → News h₀ env.locals h ((I,it) :: (ms ++ T)) →
      wpAny (model prog w) A (execs body env) (TurnPost h₀ env.locals { s with heap := h,toks := tk } I it (TwoPart (J (i + 1))) Q) E { s with heap := h,toks := tk })
    (fin : ∀ h tk m ms T,J nI.toNat m ms T → (∀ q ∈ T,AllNe q.1 ms) → Fr h₀ env.locals h m → News h₀ env.locals h (ms ++ T) → Q .next { s with heap := h,toks := tk })
    (hh : A.handled = none) : wpAny (model prog w) A (pyIter (.ref r)) (fun it s₂ => LoopAtV prog w A h₀ env x body Q E it s₂) E s := by
  refine range_inv (fun _ i m led => TwoPart (J i) m led) hr (range_small hn.1 (by omega)) (range_size hn.1) F (fun p hp => N p (e₀ p hp)) (fun _ _ => ⟨ms₀,T₀,rfl,off₀,h0⟩) ?_ ?_ hh
  · intro I i v t h tk m led it hi hv zq1
    refine x2_3 zq1 ?_;(try clear zq1)
    intro ms T
    rintro rfl
    intro off j
    intro hI F' N'
    exact step I i v t h tk m ms T it hv (by omega) j (allNe_of fun p hp => hI p (List.mem_append_left _ hp)) (apart_cons off fun q hq => hI q (List.mem_append_right _ hq)) F' N'
  · intro I h tk m led zq2
    refine x2_3 zq2 ?_;(try clear zq2)
    intro ms T
    rintro rfl
    intro off j
    intro F' N'
    exact fin h tk m ms T j off F' N'
end
theorem After.frame {h₀ h h' : Heap} {L : Addr} {led led' ms : Led} (A : After h₀ L h led h' led') (N : News h₀ L h ms) (d : ∀ p ∈ ms,∀ q ∈ led,q.1 ≠ p.1) : News h₀ L h' (ms ++ led') ∧ ∀ p ∈ ms,∀ q ∈ led',q.1 ≠ p.1 := by
  refine ⟨fun p hp => ?_,fun p hp q hq e => ?_⟩
  · rcases List.mem_append.mp hp with hp | hp
    · exact ⟨A.kept _ _ (N p hp).1 fun x hx e => d p hp x hx e,(N p hp).2⟩
    · exact A.news p hp
  · rcases A.fresh q hq with ⟨x,hx,e1⟩ | e1
    · exact d p hp x hx (e1.trans e)
    · rw [e,(N p hp).1] at e1;cases e1
theorem frame_ne {T ms I : Led} (h : ∀ q ∈ T,AllNe q.1 I) (hs : ∀ p ∈ ms,∃ o,(p.1,o) ∈ I) : ∀ p ∈ ms,∀ q ∈ T,q.1 ≠ p.1 := fun p hp q hq => off_all h (hs p hp) q hq
theorem allLt_mem {x : Addr} {T : Led} (h : AllLt x T) : ∀ q ∈ T,@LT.lt Nat _ q.1 x := by
  induction T with
  | nil => intro q hq;exact nomatch hq
  | cons p r ih =>
    intro q hq
    have h' : @LT.lt Nat _ p.1 x ∧ AllLt x r := h
    rcases List.mem_cons.mp hq with e | hq
    · rw [e];exact h'.1
    · exact ih h'.2 q hq
theorem off1_allNe {D : Addr} {l : Led} (h : LCg.Off1 D l) : AllNe D l := by
  induction l with
  | nil => trivial
  | cons p r ih =>
    have h' : @Ne Nat p.1 D ∧ LCg.Off1 D r := h
    exact ⟨h'.1,ih h'.2⟩
theorem allLt_allNe {D : Addr} {l : Led} (h : AllLt D l) : AllNe D l := allNe_of fun p hp => Nat.ne_of_lt (allLt_mem h p hp)
end
theorem set_24 : True := by
  k_with "T:k_all" => (first | assumption | (refine' off_all ?q9kOa ?q9kOb;(case q9kOa => assumption);(case q9kOb => exact ⟨_,by k_mem⟩)) | (intro _ q9khq;refine' Nat.ne_of_lt (allLt_mem ?q9kLa _ ?q9kLb);(case q9kLa => with_reducible assumption);(case q9kLb => repeat first | exact q9khq | refine List.mem_cons_of_mem _ ?_)))
  k_with "T:k_ne" => ((refine neN ?_;(try dsimp only);first | with_reducible assumption | (apply Ne.symm;with_reducible assumption) | (refine' AllNe.get ?q9ka ?q9kb;(case q9ka => with_reducible assumption);(case q9kb => k_mem)) | (apply Ne.symm;refine' AllNe.get ?q9ka ?q9kb;(case q9ka => with_reducible assumption);(case q9kb => k_mem)) | k_room | (apply Ne.symm;k_room) | (exact cells_ne (i := 2) (j := 1) rfl) | (exact cells_ne (i := 1) (j := 2) rfl) | (exact cells_ne (i := 3) (j := 1) rfl) | (exact cells_ne (i := 3) (j := 2) rfl) | (exact cells_ne (i := 1) (j := 3) rfl) | (exact cells_ne (i := 2) (j := 3) rfl) | (refine' off_ne ?q9kOa ?q9kOb ?q9kOc;(case q9kOa => assumption);(case q9kOb => assumption);(case q9kOc => exact ⟨_,by k_mem⟩)) | (apply Ne.symm;refine' off_ne ?q9kOa ?q9kOb ?q9kOc;(case q9kOa => assumption);(case q9kOb => assumption);(case q9kOc => exact ⟨_,by k_mem⟩)) | omega))
  k_with "!CompEnd" => ((k_here;k_dflt (refine compEnd_none (by k_asm) (by k_asm) (by assumption) (by lcg_src) ?_)))
  k_with "!eval ListComp" => ((k_here;(with_reducible show wpAny _ _ (eval (Expr.ListComp _ [⟨Expr.Name _ _,Expr.Tuple _ _ _,[],0⟩] _ _) _) _ _ _);k_dflt (refine tuple_comp (by k_asm) (by with_unfolding_all rfl) (by decide) (by rfl) (by decide) (by rfl) ?_ (by intro _;rfl))))
  k_with "!SrcT" => ((k_here;k_dflt (refine SrcT.intro (by rfl) (by k_asm) (by k_asm) (by k_mem) (by first | with_reducible assumption | size_fits | exact Nat.le_of_ble_eq_true rfl) ?_;intro _;(try lcg_lit))))
  k_with "!eval Name" => ((k_here;k_dflt (refine' nameX_L ?q9F ?q9v ?_ ?q9a ?q9b;(case q9F => k_asm);(case q9a => rfl);(case q9b => rfl);(case q9v => (k_extra "H:look"));k_whole)))
  k_with "!eval ListComp" => ((k_here;(with_reducible show wpAny _ _ (eval (Expr.ListComp (Expr.BinOp (Expr.Call _ _ _ _) _ _ _) [⟨Expr.Name _ _,Expr.Call _ _ _ _,[],0⟩] _ _) _) _ _ _);k_dflt (refine LCg.ListComp_U (F₀ := by k_asm) (by with_unfolding_all rfl) (by decide) (by rfl) (by decide) (by rfl) ?_);k_dflt lcg_toSrc))
  k_with "!CompSrc" => ((k_here;k_dflt (refine LCg.CompSrc.range (by rfl) (by k_asm) (by k_asm) (by assumption) (by first | decide | rfl) (by first | rfl | decide) (by first | size_fits | exact Nat.le_of_ble_eq_true rfl) ?_;intro _;lcg_lit)))
  exact trivial
section
section
variable {prog : Program} {w : World} {A : Around} {E : Value → Shared → Prop} {s : Shared} {h₀ : Heap} {L : Addr} {m : Mp} {news : Led}
theorem adjust_but (n : Nat) (hn : 1 ≤ n) : Builtin.Slice.sliceAdjust none (some (-1)) 1 (n : Int) = (0,((n - 1 : Nat) : Int)) := by
  unfold Builtin.Slice.sliceAdjust
  obtain ⟨k,rfl⟩ : ∃ k,n = k + 1 := ⟨n - 1,(Nat.succ_pred_eq_of_pos hn).symm⟩
  have h1 : ¬ ((1 : Int) < 0) := by decide
  have h2 : (-1 : Int) < 0 := by decide
  have h3 : (-1 + ((k + 1 : Nat) : Int)) = (k : Int) := Int.neg_add_cancel_left 1 k ▸ congrArg (fun z => -1 + z) (Int.add_comm k 1)
  simp only [h1,h2,if_false,if_true,h3]
  exact Prod.ext rfl (Int.max_eq_left (Int.natCast_nonneg k))
theorem places_but (n : Nat) : Builtin.Slice.slicePlaces 0 (n : Int) 1 = n := by
  unfold Builtin.Slice.slicePlaces
  have h1 : (1 : Int) > 0 := by decide
  simp only [h1,if_true,Int.ediv_one]
  split <;> omega
theorem sliceApplied_but {sl : Addr} {n : Nat} {u : Tok} {Q : Int × Int × Nat → Shared → Prop} (hs : s.heap.IsSliceOf sl .none (.int (-1) u) .none) (hn : 1 ≤ n) (h : Q (0,1,n - 1) s) :
    wpAny (model prog w) A (Builtin.Slice.sliceApplied (.ref sl) (pure (n : Int))) Q E s := by
  refine x1_3 (id hs) ?_
  intro os hos hcs hds
  unfold Builtin.Slice.sliceApplied Builtin.Slice.sliceFields
  refine wpAny_bind (wpAny_bind (wpAny_field hos hds (x := .none) rfl (wpAny_bind (wpAny_field hos hds (x := .int (-1) u) rfl (wpAny_bind (wpAny_field hos hds (x := .none) rfl (wpAny_pure ?_)))))))
  refine wpAny_bind (slicePart_none ?_)
  show wpAny _ _ (if ((1 : Int) == 0) = true then _ else _) _ _ s
  rw [if_neg (by decide)]
  refine wpAny_bind (slicePart_none (wpAny_bind (slicePart_int (wpAny_bind (wpAny_pure ?_)))))
  show wpAny _ _ (match Builtin.Slice.sliceAdjust none (some (-1)) 1 (n : Int) with | (lo,hi) => pure (lo,(1 : Int),Builtin.Slice.slicePlaces lo hi 1)) _ _ s
  rw [adjust_but n hn]
  show wpAny _ _ (pure ((0 : Int),(1 : Int),Builtin.Slice.slicePlaces 0 ((n - 1 : Nat) : Int) 1)) _ _ s
  rw [places_but]
  exact wpAny_pure h
theorem pick_but (init : List Value) (x : Value) : ((List.range init.length).filterMap fun (k : Nat) => (init ++ [x]).toArray[((0 : Int) + (k : Int) * 1).toNat]?).toArray = init.toArray := by
  congr 1
  have e : (fun (k : Nat) => (init ++ [x]).toArray[((0 : Int) + (k : Int) * 1).toNat]?) = fun k => (init ++ [x]).toArray[0 + k]? := by
    funext k
    have : ((0 : Int) + (k : Int) * 1).toNat = 0 + k := by omega
    rw [this]
  rw [e]
  have := pick_run (init ++ [x]).toArray 0 init.length
  rw [List.filterMap_map] at this
  refine Eq.trans ?_ (this.trans (by simp))
  rfl
theorem getItem_tuple_but {t sl : Addr} {init : List Value} {x : Value} {u : Tok} {Q : Value → Shared → Prop} (ht : IsTup s.heap t (init ++ [x]).toArray) (hs : s.heap.IsSliceOf sl .none (.int (-1) u) .none)
    (h : Q (.ref s.heap.objs.size) { s with heap := s.heap.push (tup init) }) (hsz : init.length ≤ sizeLine) : wpAny (model prog w) A (getItem (.ref t) (.ref sl)) Q E s := by
  have hd : sizeOk (.seq init.toArray) := by
    show init.toArray.size ≤ sizeLine
    rw [List.size_toArray];exact hsz
  refine x1_3 (id hs) ?_
  intro os hos hcs hds
  have hTs : s.TypeIs (.ref sl) "slice" := ⟨os,hos,hcs⟩
  have hz : (init ++ [x]).toArray.size = init.length + 1 := by simp
  unfold getItem
  try with_reducible refine wpAny_holding ?_
  first | refine wpAny_bind (wpAny_pure ?_) | skip
  refine wpAny_bind (wpAny_sequenceKey ht.typeIs (by decide) ?_)
  refine wpAny_bind (wpAny_callSpecial?_slot (name := Str.ofString "__getitem__") ht.typeIs slot_tuple_getitem
    (wpAny_call_entry slot_tuple_getitem ht.typeIs entry_tuple_getitem ?_ (args_tuple_getitem _ _)))
  show wpAny _ _ (Builtin.Tuple.tupleItemsOf (.ref t) >>= _) _ _ s
  refine wpAny_bind (tupleItemsOf_ ht ?_)
  refine wpAny_bind (wpAny_typeOf hTs ?_)
  rw [if_pos (by decide)]
  refine wpAny_bind (sliceApplied_but hs (by rw [hz];omega) ?_)
  have hno : ¬ (((0 : Int) == 0 && (1 : Int) == 1 && ((init ++ [x]).toArray.size - 1) == (init ++ [x]).toArray.size) = true) := by
    rw [hz];simp
  show wpAny _ _ (if ((0 : Int) == 0 && (1 : Int) == 1 && ((init ++ [x]).toArray.size - 1) == (init ++ [x]).toArray.size) = true then _ else _) _ _ s
  rw [if_neg hno,hz,Nat.add_sub_cancel,pick_but]
  first
    | exact wpAny_bind (m := Builtin.Tuple.tupleExact _) (wpAny_newObj_type (wpAny_pure ⟨_,rfl,wpAny_pure h⟩) hd)
    | exact wpAny_bind (m := Builtin.Tuple.tupleExact _) (wpAny_newObj_type (wpAny_bind (wpAny_pure (wpAny_pure ⟨_,rfl,wpAny_pure h⟩))) hd)
    | exact wpAny_bind (wpAny_bind (m := Builtin.Tuple.tupleExact _) (wpAny_newObj_type (wpAny_pure (wpAny_pure ⟨_,rfl,wpAny_pure h⟩)) hd))
    | exact wpAny_bind (wpAny_bind (m := Builtin.Tuple.tupleExact _) (wpAny_newObj_type (wpAny_pure ⟨_,rfl,wpAny_pure h⟩) hd))
theorem slice_tuple_but {value slice : Expr} {t : Addr} {init : List Value} {x : Value} {u : Tok} {Q : Value → Shared → Prop}
    (F : Fr h₀ L s.heap m) (N : News h₀ L s.heap news) (ht : (t,tup (init ++ [x])) ∈ news) (hsz : init.length ≤ sizeLine)
    (h : ∀ D h',Fr h₀ L h' m → News h₀ L h' ((D,tup init) :: news) → (∀ p ∈ news,p.1 < D) → Q (.ref D) { s with heap := h' })
    (hs : subscripted slice false (.ref t) (.ref s.heap.objs.size) = operate [.ref s.heap.objs.size,.ref t] (getItem (.ref t) (.ref s.heap.objs.size)))
    (hg : ∀ r,letTemporaryGo value (.ref t) r = pure ()) :
    wpAny (model prog w) A (subscriptTail value slice (.ref t) (.ref s.heap.objs.size)) Q E { s with heap := s.heap.push { cls := .type "slice",data := .fields #[.none,.int (-1) u,.none] } } := by
  have ht0 : IsTup s.heap t (init ++ [x]).toArray := ⟨_,(N _ ht).1,rfl,_,rfl⟩
  have ht' : IsTup (s.heap.push { cls := .type "slice",data := .fields #[.none,.int (-1) u,.none] }) t (init ++ [x]).toArray := ht0.keeps fun _ _ e => Heap.get?_push_of_some _ e
  refine subscriptTail_ops (s := { s with heap := s.heap.push { cls := .type "slice",data := .fields #[.none,.int (-1) u,.none] } }) ht'.typeIs slot_tuple_getitem.lookup
    (getItem_tuple_but ht' (Heap.IsSliceOf.new ..) ?_ hsz) hs hg
  have N1 := News.push (F.push { cls := .type "slice",data := .fields #[.none,.int (-1) u,.none] }) (N.grown fun _ _ e => Heap.get?_push_of_some _ e) (tup init)
  rw [Heap.size_push] at N1
  show Q (.ref (s.heap.push _).objs.size) _
  rw [Heap.size_push]
  exact h _ _ ((F.push _).push _) N1 fun p hp => Nat.lt_succ_of_lt (Heap.lt_size (N p hp).1)
end
theorem TermsIn.last {led : Led} {vs : List Value} {ts : List Term3} (h : TermsIn led vs ts) (hn : ts ≠ []) : ∃ (vi : List Value) (a b : Addr) (ti tp tq : Tok) (ts' : List Term3) (t : Term3),vs = vi ++ [.ref a] ∧ ts = ts' ++ [t] ∧ (a,tup [.int t.1 ti,.ref b]) ∈ led ∧ (b,tup [.int t.2.1 tp,.int t.2.2 tq]) ∈ led ∧ TermsIn led vi ts' := by
  induction h with
  | nil => exact absurd rfl hn
  | @cons a b i p q ti tp tq vs ts h1 h2 h3 ih =>
    by_cases e : ts = []
    · subst e
      cases h3
      exact ⟨[],a,b,ti,tp,tq,[],(i,p,q),rfl,rfl,h1,h2,.nil⟩
    · refine x8_5 (ih e) ?_
      intro vi a' b' ti' tp' tq' ts' t'
      rintro rfl
      rintro rfl
      intro g1 g2 g3
      exact ⟨.ref a :: vi,a',b',ti',tp',tq',(i,p,q) :: ts',t',rfl,rfl,g1,g2,.cons h1 h2 g3⟩
theorem last_index (vi : List Value) (x : Value) : seqIndex? (-1) (vi ++ [x]).length = some vi.length := by
  unfold seqIndex?
  rw [List.length_append,List.length_singleton]
  first
    | (simp;omega)
    | (split <;> simp_all <;> omega)
section
variable {prog : Program} {w : World} {A : Around} {E : Value → Shared → Prop} {s : Shared} {h₀ : Heap} {L : Addr} {m : Mp} {news : Led}
theorem item_last {value slice : Expr} {t : Addr} {init : List Value} {x : Value} {u : Tok} {Q : Value → Shared → Prop} (N : News h₀ L s.heap news) (ht : (t,tup (init ++ [x])) ∈ news) (h : Q x s)
    (hs : subscripted slice false (.ref t) (.int (-1) u) = operate [.ref t,.int (-1) u] (getItem (.ref t) (.int (-1) u))) :
    wpAny (model prog w) A (subscriptTail value slice (.ref t) (.int (-1) u)) Q E s :=
  item_tupleT (l := init ++ [x]) ⟨_,(N _ ht).1,rfl,_,rfl⟩ (by decide) (by decide) (last_index init x) (by simp) h hs
end
section
variable {prog : Program} {w : World} {A : Around} {E : Value → Shared → Prop} {s : Shared} {h₀ : Heap} {L : Addr} {led : Led} {Q : Value → Shared → Prop}
theorem termD_ok7 (t : Term3) : kqdOk 7 (termD t) = true := by simp [termD,kqdOk]
theorem termsD_ok (ts : List Term3) : kqdOk 8 (.tuple (ts.map termD)) = true := by
  simp only [kqdOk,List.all_map]
  simpa [Function.comp] using fun (t : Term3) (_ : t ∈ ts) => termD_ok7 t
theorem terms_ne_nil {ta D : Addr} {vs : List Value} {ts : List Term3} (N : News h₀ L s.heap led) (ht : (ta,tup vs) ∈ led) (hT : TermsIn led vs ts) (hD : (D,tup []) ∈ led) (hu : A.units + 64 < cLine)
    (h1 : ts = [] → Q (.bool false) s) (h2 : ts ≠ [] → Q (.bool true) s) : wpAny (model prog w) A (compareOp .NotEq (.ref ta) (.ref D)) Q E s :=
  dat_ne N (DatIn.tuple ht hT.dat) (DatIn.tuple hD .nil) (termsD_ok ts) (by decide) hu (fun e => h1 (by simpa using e)) fun e => h2 fun x => e (by rw [x];rfl)
end
theorem TermsIn.tails {x : Addr × Obj} {led : Led} {vs : List Value} {ts : List Term3} (h : TermsIn led vs ts) : TermsIn (x :: led) vs ts := h.mono fun _ hp => .tail _ hp
theorem fdiv_bd_pos {a d K : Int} (hd : 0 < d) (h1 : -K ≤ a) (h2 : a ≤ K) (hK : 0 ≤ K) : -K ≤ a.fdiv d ∧ a.fdiv d ≤ K := by
  rw [Int.fdiv_eq_ediv_of_nonneg _ (Int.le_of_lt hd)]
  constructor
  · refine (Int.le_ediv_iff_mul_le hd).mpr (Int.le_trans ?_ h1)
    have : K * 1 ≤ K * d := Int.mul_le_mul_of_nonneg_left (by omega) hK
    rw [Int.neg_mul]
    omega
  · by_cases h : 0 ≤ a
    · exact Int.le_trans (Int.ediv_le_self _ h) h2
    · have := Int.ediv_neg_of_neg_of_pos (a := a) (b := d) (by omega) hd;omega
theorem fdiv_bd {a d K : Int} (hd : d ≠ 0) (h1 : -K ≤ a) (h2 : a ≤ K) (hK : 0 ≤ K) : -K ≤ a.fdiv d ∧ a.fdiv d ≤ K := by
  by_cases h : 0 < d
  · exact fdiv_bd_pos h h1 h2 hK
  · have := fdiv_bd_pos (a := -a) (d := -d) (K := K) (by omega) (by omega) (by omega) hK
    rwa [Int.neg_fdiv_neg] at this
theorem six_factor {p q : Int} (h1 : -5 ≤ p) (h2 : p ≤ 5) (h3 : 1 ≤ q) (h4 : q ≤ 3) (h5 : p ≠ 0) : (p * 6).fdiv q ≠ 0 ∧ -30 ≤ (p * 6).fdiv q ∧ (p * 6).fdiv q ≤ 30 := by
  exact rng2 (P := fun p q => p ≠ 0 → (p * 6).fdiv q ≠ 0 ∧ -30 ≤ (p * 6).fdiv q ∧ (p * 6).fdiv q ≤ 30) (-5) 5 1 3 (by decide +kernel) h1 h2 h3 h4 h5
theorem six_factor_bd {p q : Int} (h1 : -5 ≤ p) (h2 : p ≤ 5) (h3 : 1 ≤ q) (h4 : q ≤ 3) : -30 ≤ (p * 6).fdiv q ∧ (p * 6).fdiv q ≤ 30 :=
  rng2 (P := fun p q => -30 ≤ (p * 6).fdiv q ∧ (p * 6).fdiv q ≤ 30) (-5) 5 1 3 (by decide +kernel) h1 h2 h3 h4
theorem prod_bd {a b A B : Int} (h1 : -A ≤ a) (h2 : a ≤ A) (h3 : -B ≤ b) (h4 : b ≤ B) : -(A * B) ≤ a * b ∧ a * b ≤ A * B := by
  have hA : 0 ≤ A := by omega
  have hB : 0 ≤ B := by omega
  refine of_abs (Int.mul_nonneg hA hB) ?_
  rw [Int.natAbs_mul,Int.natAbs_mul]
  exact Nat.mul_le_mul (abs_mono h1 h2) (abs_mono h3 h4)
theorem sixOf_bd {xs : List Int} {K : Int} (hK : 0 ≤ K) (hx : ∀ x ∈ xs,-K ≤ x ∧ x ≤ K) : ∀ {ts : List Term3},(∀ t ∈ ts,-5 ≤ t.2.1 ∧ t.2.1 ≤ 5 ∧ 1 ≤ t.2.2 ∧ t.2.2 ≤ 3) → -((ts.length : Int) * (30 * K)) ≤ sixOf xs ts ∧ sixOf xs ts ≤ (ts.length : Int) * (30 * K)
  | [],_ => by simp [sixOf]
  | t :: r,h => by
    refine x0_2 (sixOf_bd hK hx (ts := r) fun t ht => h t (.tail _ ht)) ?_
    intro i1 i2
    refine x0_4 (h t (.head _)) ?_
    intro a1 a2 a3 a4
    refine x0_2 (six_factor_bd a1 a2 a3 a4) ?_
    intro b1 b2
    have hg : -K ≤ xs.getD t.1.toNat 0 ∧ xs.getD t.1.toNat 0 ≤ K := by
      rw [List.getD_eq_getElem?_getD]
      cases e : xs[t.1.toNat]? with
      | none => simp;omega
      | some x => exact hx x (List.mem_of_getElem? e)
    refine x0_2 (prod_bd b1 b2 hg.1 hg.2) ?_
    intro c1 c2
    have e1 : sixOf xs (t :: r) = (t.2.1 * 6).fdiv t.2.2 * xs.getD t.1.toNat 0 + sixOf xs r := by simp [sixOf,sixAt]
    have e2 : (((t :: r).length : Nat) : Int) * (30 * K) = (r.length : Int) * (30 * K) + 30 * K := by
      rw [List.length_cons,Int.natCast_add,Int.add_mul];simp
    rw [e1,e2]
    exact ⟨by rw [Int.neg_add,Int.add_comm];exact Int.add_le_add c1 i1,by rw [Int.add_comm (_ * _) (30 * K)];exact Int.add_le_add c2 i2⟩
theorem six_small {xs : List Int} {ts : List Term3} (hok : Okay ts) (hx : ∀ x ∈ xs,-12 ≤ x ∧ x ≤ 12) : -1080 ≤ sixOf xs ts ∧ sixOf xs ts ≤ 1080 := by
  obtain ⟨h1,h2⟩ := sixOf_bd (K := 12) (by decide) hx (ts := ts) fun t ht => by
    refine x0_7 (hok.2 t ht) ?_
    intro c0 d0 r0 l0 e0 s0 z0
    exact ⟨r0,l0,e0,s0⟩
  have := hok.1
  omega
theorem bd12 {i : Int} (h0 : 0 ≤ i) (h : i < 25) : -12 ≤ i - 12 ∧ i - 12 ≤ 12 := by omega
theorem all3 {P : Int → Prop} {a b c : Int} (h1 : P a) (h2 : P b) (h3 : P c) : ∀ x ∈ [a,b,c],P x := fun x hx => by
  simp only [List.mem_cons,List.not_mem_nil,or_false] at hx
  rcases hx with rfl | rfl | rfl <;> assumption
theorem wide12 {xs : List Int} (h : ∀ x ∈ xs,-12 ≤ x ∧ x ≤ 12) : ∀ x ∈ xs,-2000 ≤ x ∧ x ≤ 2000 := fun x hx => bd_wide (h x hx) rfl
theorem rest_bd {bp bq S : Int} (hb : -5 ≤ bp ∧ bp ≤ 5 ∧ 1 ≤ bq ∧ bq ≤ 3) (h1 : -1080 ≤ S) (h2 : S ≤ 1080) : -1260 ≤ (bp * 36).fdiv bq - S ∧ (bp * 36).fdiv bq - S ≤ 1260 := by
  have := rng2 (P := fun p q => -180 ≤ (p * 36).fdiv q ∧ (p * 36).fdiv q ≤ 180) (-5) 5 1 3 (by decide +kernel) hb.1 hb.2.1 hb.2.2.1 hb.2.2.2
  exact ⟨Int.sub_le_sub this.1 h2,Int.sub_le_sub this.2 h1⟩
section
theorem six12_use {ta pt : Addr} {ws : List Value} {xs : List Int} {n : Nat} {ts : List Term3} (Z : Sit w dp un cs outer A₀ base h₀ L m mean mg mb s all 1 8)
    (hh : TermsAt all ta ts ∧ Okay ts ∧ (pt,listOf ws.toArray n) ∈ all ∧ IntsAre ws xs ∧ xs.length = 3 ∧ ∀ x ∈ xs,-12 ≤ x ∧ x ≤ 12)
    (ret : ∀ S t h' tk',-1080 ≤ S → S ≤ 1080 → Fr h₀ L h' m → News h₀ L h' all → Q (.int S t) { s with heap := h',toks := tk' }) :
    wpAny (model PG w) (ktrTop dp un gd cn cs L a₁ ccd ce outer) (call (.ref 850) [.ref ta,.ref pt]) Q E s :=
  six_use Z ⟨hh.1,hh.2.1,hh.2.2.1,hh.2.2.2.1,hh.2.2.2.2.1,wide12 hh.2.2.2.2.2⟩ fun t h' tk' F' N' => ret _ t h' tk' (six_small hh.2.1 hh.2.2.2.2.2).1 (six_small hh.2.1 hh.2.2.2.2.2).2 F' N'
end
section
open LCg
variable {prog : Program} {w : World} {A : Around} {h₀ : Heap} {L : Addr} {m : Mp} {env : Env}
theorem comp_inv {elt : Expr} {x : Str} {scope : Scope} {cl : List (Str × Addr)} {s : Shared} {S : Led → Prop} {P : Nat → Value → Prop} {Fin : List Value → Led → Prop} {N : Nat} (Inv : Nat → List Value → Led → Prop)
    (step : ∀ i ys led v,i < N → Inv i ys led → P i v → ∀ I oI C oC D m₂ h tk (E' : Value → Shared → Prop),NsObj oC m₂ → m₂ x = some v → Fr h₀ L h m → News h₀ L h ((I,oI) :: (C,oC) :: (D,lst ys) :: led) → Off3 I C D led → ((@Ne Nat I C) ∧ (@Ne Nat I D) ∧ (@Ne Nat C D)) →
        wpAny (model prog w) A (eval elt (compEnvC scope cl C env)) (CompEnd h₀ L m { s with heap := h,toks := tk } I oI C oC D (lst ys) S (fun y led' => Inv (i + 1) (ys ++ [y]) led')) E' { s with heap := h,toks := tk })
    (fin : ∀ ys led,Inv N ys led → Fin ys led) :
    ∀ (n i : Nat) (ys : List Value) (led : Led),i + n = N → Inv i ys led → CompRest prog w A h₀ L m env elt x scope cl s S P Fin n i ys led
  | 0,i,ys,led,hi,J => by
    obtain rfl : i = N := hi
    exact CompRest.zero (fin ys led J)
  | n + 1,i,ys,led,hi,J => by
    refine CompRest.succ fun v I oI C oC D m₂ h tk E' hp a1 a2 a3 a4 a5 a6 => ?_
    refine wpAny_mono (step i ys led v (by omega) J hp I oI C oC D m₂ h tk E' a1 a2 a3 a4 a5 a6) (fun y s' hq => ?_) fun _ _ e => e
    refine x3_6 hq ?_;(try clear hq)
    intro h' tk' led' e1 e2 e3 e4 e5 e6
    exact ⟨h',tk',led',e1,e2,e3,e4,e5,comp_inv Inv step fin n (i + 1) (ys ++ [y]) led' (by omega) e6⟩
theorem comp_inv0 {elt : Expr} {x : Str} {scope : Scope} {cl : List (Str × Addr)} {s : Shared} {S : Led → Prop} {P : Nat → Value → Prop} {Fin : List Value → Led → Prop} {N : Nat} {led₀ : Led} (Inv : Led → Nat → List Value → Led → Prop) (start : Inv led₀ 0 [] led₀)
    (step : ∀ i ys led v,i < N → Inv led₀ i ys led → P i v → ∀ I oI C oC D m₂ h tk (E' : Value → Shared → Prop),NsObj oC m₂ → m₂ x = some v → Fr h₀ L h m → News h₀ L h ((I,oI) :: (C,oC) :: (D,lst ys) :: led) → Off3 I C D led → ((@Ne Nat I C) ∧ (@Ne Nat I D) ∧ (@Ne Nat C D)) →
        wpAny (model prog w) A (eval elt (compEnvC scope cl C env)) (CompEnd h₀ L m { s with heap := h,toks := tk } I oI C oC D (lst ys) S (fun y led' => Inv led₀ (i + 1) (ys ++ [y]) led')) E' { s with heap := h,toks := tk })
    (fin : ∀ ys led,Inv led₀ N ys led → Fin ys led) : CompRest prog w A h₀ L m env elt x scope cl s S P Fin N 0 [] led₀ :=
  comp_inv (Inv led₀) step fin N 0 [] led₀ (Nat.zero_add _) start
end
theorem mini3 {i : Nat} {v : Value} {a b c : Value} (h : i < 3) (e : ([a,b,c] : List Value).toArray[i]? = some v) : v = a ∨ v = b ∨ v = c := by
  match i,h with
  | 0,_ => simp at e;exact .inl e.symm
  | 1,_ => simp at e;exact .inr (.inl e.symm)
  | 2,_ => simp at e;exact .inr (.inr e.symm)
theorem allLt_sub {x : Addr} {T T' : Led} (h : AllLt x T) (hs : ∀ p ∈ T',p ∈ T) : AllLt x T' := allLt_of fun p hp => allLt_mem h p (hs p hp)
section
variable {prog : Program} {w : World} {A : Around} {E : Value → Shared → Prop} {s : Shared} {h₀ : Heap} {L : Addr} {m : Mp} {led : Led}
theorem extend_led {D b : Addr} {xs ys : List Value} {n k : Nat} {Q : Value → Shared → Prop} (F : Fr h₀ L s.heap m) (N : News h₀ L s.heap led) (hD : (D,listOf xs.toArray n) ∈ led) (hb : (b,listOf ys.toArray k) ∈ led) (hn : b ≠ D) (hy : ys ≠ []) (hz : xs.length + ys.length ≤ 1000)
    (h : ∀ h' rest,Fr h₀ L h' m → News h₀ L h' ((D,listOf (xs ++ ys).toArray (n + 1)) :: rest) → (∀ p ∈ led,p.1 ≠ D → p ∈ rest) → (∀ q ∈ rest,q ∈ led ∧ q.1 ≠ D) → Q .none { s with heap := h' }) : wpAny (model prog w) A (call (.builtin "list.extend") [.ref D,.ref b]) Q E s := by
  refine x1_4 (split_out N [(D,listOf xs.toArray n)] (sub_cons hD sub_nil)) ?_
  intro rest N1 c1 c2 c3
  have go : ∀ p ∈ led,p.1 ≠ D → p ∈ rest := fun p hp hn => by
    rcases List.mem_append.mp (c1 p hp) with h | h
    · exact absurd (by rw [List.mem_singleton.mp h]) hn
    · exact h
  refine kl_extend (its := xs.toArray) (its2 := ys.toArray) (l := xs ++ ys) F N1 (List.mem_append_right _ (go _ hb hn)) (by simp) (by simpa using hy) (Upd.head fun p hp => c3 _ (.head _) p hp) ?_ ?_ ?_ fun h' F' N' => h h' rest F' N' go fun q hq => ⟨c2 q hq,c3 _ (.head _) q hq⟩
  · simp [Builtin.List.listTooLong]
    intro _
    rw [sizeLine_eq]
    omega
  · rw [sizeLine_eq];simp;omega
  · rw [sizeLine_eq];simp;omega
end
theorem off3c {T : Led} {a b c : Addr} {x y z x' y' z' : Obj} (h : ∀ q ∈ T,AllNe q.1 [(a,x),(b,y),(c,z)]) : ∀ q ∈ T,AllNe q.1 [(a,x'),(b,y'),(c,z')] := h
section
open LCg LCt
variable {prog : Program} {w : World} {A : Around} {h₀ : Heap} {L : Addr} {m : Mp} {env : Env}
theorem comp_noneI {ct elt : Expr} {x : Str} {scope : Scope} {cl : List (Str × Addr)} {s : Shared} {S : Led → Prop} {P : Nat → Value → Prop} {Fin : List Value → Led → Prop} {N : Nat} (Inv : Led → Prop)
    (step : ∀ i led v,i < N → Inv led → P i v → ∀ I oI C oC D m₂ h tk (E' : Value → Shared → Prop),NsObj oC m₂ → m₂ x = some v → Fr h₀ L h m → News h₀ L h ((I,oI) :: (C,oC) :: (D,lst []) :: led) → Off3 I C D led → ((@Ne Nat I C) ∧ (@Ne Nat I D) ∧ (@Ne Nat C D)) →
        wpAny (model prog w) A (isTrue ct (compEnvC scope cl C env) (eval ct (compEnvC scope cl C env))) (fun ok s' => StopAt (ok = false ∧ CompEnd h₀ L m { s with heap := h,toks := tk } I oI C oC D (lst []) S (fun _ led' => Inv led') .none s')) E' { s with heap := h,toks := tk })
    (fin : ∀ led,Inv led → Fin [] led) :
    ∀ (n i : Nat) (led : Led),i + n = N → Inv led → CompRestT prog w A h₀ L m env ct elt x scope cl s S P Fin n i [] led
  | 0,_,led,_,J => CompRestT.zero (fin led J)
  | n + 1,i,led,hi,J => by
    refine CompRestT.succ fun v I oI C oC D m₂ h tk E' hp a1 a2 a3 a4 a5 a6 => ?_
    refine wpAny_mono (step i led v (by omega) J hp I oI C oC D m₂ h tk E' a1 a2 a3 a4 a5 a6) (fun ok s' hq => ?_) fun _ _ e => e
    refine x0_2 hq ?_;(try clear hq)
    rintro rfl
    intro zq1
    refine x3_6 zq1 ?_;(try clear zq1)
    intro h' tk' led' e1 e2 e3 e4 e5 e6
    rw [if_neg (by decide)]
    exact ⟨h',tk',led',e1,e2,e3,e4,e5,comp_noneI Inv step fin n (i + 1) led' (by omega) e6⟩
theorem comp_none {ct elt : Expr} {x : Str} {scope : Scope} {cl : List (Str × Addr)} {s : Shared} {S : Led → Prop} {P : Nat → Value → Prop} {Fin : List Value → Led → Prop} {N : Nat} {led₀ : Led} (Inv : Led → Led → Prop) (start : Inv led₀ led₀)
    (step : ∀ i led v,i < N → Inv led₀ led → P i v → ∀ I oI C oC D m₂ h tk (E' : Value → Shared → Prop),NsObj oC m₂ → m₂ x = some v → Fr h₀ L h m → News h₀ L h ((I,oI) :: (C,oC) :: (D,lst []) :: led) → Off3 I C D led → ((@Ne Nat I C) ∧ (@Ne Nat I D) ∧ (@Ne Nat C D)) →
        wpAny (model prog w) A (isTrue ct (compEnvC scope cl C env) (eval ct (compEnvC scope cl C env))) (fun ok s' => StopAt (ok = false ∧ CompEnd h₀ L m { s with heap := h,toks := tk } I oI C oC D (lst []) S (fun _ led' => Inv led₀ led') .none s')) E' { s with heap := h,toks := tk })
    (fin : ∀ led,Inv led₀ led → Fin [] led) : CompRestT prog w A h₀ L m env ct elt x scope cl s S P Fin N 0 [] led₀ :=
  comp_noneI (Inv led₀) step fin N 0 led₀ (Nat.zero_add _) start
end
theorem six_neg {p q : Int} (h1 : 1 ≤ q) (h2 : q ≤ 3) : (-p * 6).fdiv q = -((p * 6).fdiv q) := by
  have e : q = 1 ∨ q = 2 ∨ q = 3 := rng1 (P := fun q => q = 1 ∨ q = 2 ∨ q = 3) 1 3 (by decide +kernel) h1 h2
  have f : ∃ k : Int,∀ x : Int,(x * 6).fdiv q = x * k := by
    rcases e with rfl | rfl | rfl
    · exact ⟨6,fun x => Int.fdiv_one _⟩
    · exact ⟨3,fun x => by rw [show x * 6 = x * 3 * 2 from (Int.mul_assoc x 3 2).symm];exact Int.mul_fdiv_cancel _ (by decide)⟩
    · exact ⟨2,fun x => by rw [show x * 6 = x * 2 * 3 from (Int.mul_assoc x 2 3).symm];exact Int.mul_fdiv_cancel _ (by decide)⟩
  obtain ⟨k,f⟩ := f
  rw [f,f,Int.neg_mul]
theorem sixOf_neg {xs : List Int} : ∀ {ts : List Term3},(∀ t ∈ ts,1 ≤ t.2.2 ∧ t.2.2 ≤ 3) → sixOf xs (ts.map negT) = -sixOf xs ts
  | [],_ => by simp [sixOf]
  | t :: r,h => by
    refine x0_2 (h t (.head _)) ?_
    intro h1 h2
    have ih := sixOf_neg (xs := xs) (ts := r) fun t ht => h t (.tail _ ht)
    have e1 : sixOf xs (t :: r) = (t.2.1 * 6).fdiv t.2.2 * xs.getD t.1.toNat 0 + sixOf xs r := by simp [sixOf,sixAt]
    have e2 : sixOf xs ((t :: r).map negT) = (-t.2.1 * 6).fdiv t.2.2 * xs.getD t.1.toNat 0 + sixOf xs (r.map negT) := by simp [sixOf,sixAt,negT]
    rw [e1,e2,ih,six_neg h1 h2,Int.neg_mul]
    omega
theorem keeps_opp {rel : Str} {S bp bq : Int} (h : RelOk rel) (hn : rel ≠ Str.ofString "=") : (keepsB rel S bp bq == keepsB (negRel rel) (-S) (-bp) bq) = false := by
  rcases h with e | e | e
  · subst e
    rw [neg_lt,keeps_lt,keeps_le,Int.neg_mul,Int.neg_mul]
    by_cases h : S * bq < bp * 36
    · rw [decide_eq_true h,decide_eq_false (by omega)];rfl
    · rw [decide_eq_false h,decide_eq_true (by omega)];rfl
  · subst e
    rw [neg_le,keeps_lt,keeps_le,Int.neg_mul,Int.neg_mul]
    by_cases h : S * bq ≤ bp * 36
    · rw [decide_eq_true h,decide_eq_false (by omega)];rfl
    · rw [decide_eq_false h,decide_eq_true (by omega)];rfl
  · exact absurd e hn
theorem negRel_ok (rel : Str) : RelOk (negRel rel) := by
  unfold negRel
  split
  · exact .inl rfl
  · exact .inr (.inl rfl)
theorem okay_neg {ts : List Term3} (h : Okay ts) : Okay (ts.map negT) := ⟨by rw [List.length_map];exact h.1,fun t ht => by
  refine x1_2 (List.mem_map.mp ht) ?_
  intro u hu
  rintro rfl
  refine x0_7 (h.2 u hu) ?_
  intro c0 d0 r0 l0 e0 s0 z0
  exact ⟨c0,d0,Int.neg_le_neg l0,Int.neg_le_of_neg_le r0,e0,s0,fun h => z0 (Int.neg_eq_zero.mp h)⟩⟩
end
theorem set_25 : True := by
  k_with "!subscriptTail" => ((k_here;(with_reducible show wpAny _ _ (subscriptTail _ _ (Value.ref _) (Value.int (-1) _)) _ _ _);k_dflt (refine' item_last ?q9kN ?q9kM ?_ ?q9ks9;(case q9ks9 => with_unfolding_all rfl);(case q9kN => k_asm);(case q9kM => k_mem);k_whole)))
  k_with "!subscriptTail" => ((k_here;(with_reducible show wpAny _ _ (subscriptTail _ _ (Value.ref _) (Value.ref _)) _ _ _);k_dflt (refine' slice_tuple_but ?q9kF ?q9kN ?q9kM ?q9kz ?_ ?q9ks9 ?q9kg9;(case q9ks9 => with_unfolding_all rfl);(case q9kg9 => (intro _;with_unfolding_all rfl));(case q9kF => k_asm);(case q9kN => k_asm);(case q9kM => k_mem);(case q9kz => with_reducible assumption);k_whole);intro _ _ _ _ q9l1;(try k_lt q9l1);(try k_sweep)))
  k_with "!subscriptTail" => ((k_here;(with_reducible show wpAny _ _ (subscriptTail _ _ (Value.ref _) (Value.int _ _)) _ _ _);k_dflt (refine' item_tupleT ?q9kt ?q9ka ?q9kb ?q9kc ?q9kd ?_;(case q9kt => exact News.isTup (by k_asm) (by k_mem));(case q9ka => decide);(case q9kb => decide);(case q9kc => rfl);(case q9kd => rfl);k_whole)))
  exact trivial
section
noncomputable def PtAt (led : Led) (v : Value) : Prop := ∃ (pt : Addr) (ws : List Value) (n : Nat) (xs : List Int),v = .ref pt ∧ (pt,listOf ws.toArray n) ∈ led ∧ IntsAre ws xs ∧ xs.length = 3 ∧ ∀ x ∈ xs,-2000 ≤ x ∧ x ≤ 2000
theorem pt_opaque {h₀ h : Heap} {L : Addr} {x : Addr × Obj} {r : Led} {pt : Addr} {ws : List Value} {n : Nat} {xs : List Int} (N : News h₀ L h (x :: (pt,listOf ws.toArray n) :: r)) (hi : IntsAre ws xs) (hl : xs.length = 3) (hb : ∀ x ∈ xs,-12 ≤ x ∧ x ≤ 12) :
    ∃ (ws : List Value) (n : Nat) (xs : List Int),News h₀ L h (x :: (pt,listOf ws.toArray n) :: r) ∧ IntsAre ws xs ∧ xs.length = 3 ∧ ∀ x ∈ xs,-12 ≤ x ∧ x ≤ 12 := ⟨ws,n,xs,N,hi,hl,hb⟩
noncomputable def PtNew (led₀ led : Led) (v : Value) : Prop := ∃ (pt : Addr) (ws : List Value) (n : Nat) (xs : List Int),v = .ref pt ∧ (pt,listOf ws.toArray n) ∈ led ∧ IntsAre ws xs ∧ xs.length = 3 ∧ (∀ x ∈ xs,-2000 ≤ x ∧ x ≤ 2000) ∧ AllLt pt led₀
noncomputable def ShiftJ (led₀ : Led) (i : Nat) (ys : List Value) (led : Led) : Prop := (∀ p ∈ led₀,p ∈ led) ∧ ys.length = i ∧ ∀ y ∈ ys,PtNew led₀ led y
theorem shift_len {xs : List Int} {t v : Int} (h : xs.length = 3) (h0 : 0 ≤ t) (h1 : t < 3) : (xs.take t.toNat ++ [v] ++ xs.drop (t + 1).toNat).length = 3 := by
  simp only [List.length_append,List.length_take,List.length_drop,List.length_singleton,h]
  exact rng1 (P := fun t => min t.toNat 3 + 1 + (3 - (t + 1).toNat) = 3) 0 2 (by decide +kernel) h0 (Int.le_of_lt_add_one h1)
theorem shift_bd {xs : List Int} {t v : Int} (h : ∀ x ∈ xs,-12 ≤ x ∧ x ≤ 12) (h0 : -2000 ≤ v) (h1 : v ≤ 2000) : ∀ x ∈ xs.take t.toNat ++ [v] ++ xs.drop (t + 1).toNat,-2000 ≤ x ∧ x ≤ 2000 := fun x hx => by
  rcases List.mem_append.mp hx with hx | hx
  · rcases List.mem_append.mp hx with hx | hx
    · exact wide12 h x (List.mem_of_mem_take hx)
    · rw [List.mem_singleton.mp hx];exact ⟨h0,h1⟩
  · exact wide12 h x (List.mem_of_mem_drop hx)
theorem PtAt.mono {led led' : Led} {v : Value} (h : PtAt led v) (hs : ∀ p ∈ led,p ∈ led') : PtAt led' v := x4_3 h fun pt ws n xs e m r => ⟨pt,ws,n,xs,e,hs _ m,r⟩
theorem PtNew.cons {x : Addr × Obj} {led₀ led : Led} {v : Value} (h : PtNew led₀ led v) : PtNew led₀ (x :: led) v := x4_3 h fun pt ws n xs e m r => ⟨pt,ws,n,xs,e,.tail _ m,r⟩
theorem shift_end {h₀ h' : Heap} {L D2 I C D : Addr} {m : Mp} {s₁ : Shared} {tk n' i : Nat} {ws' : List Value} {xs : List Int} {t v : Int} {g1 g2 g3 g4 e : Addr × Obj} {oI oC oD : Obj} {led led₀ : Led} {ys : List Value}
    (F : Fr h₀ L h' m) (N : News h₀ L h' ((D2,listOf ws'.toArray n') :: g1 :: g2 :: g3 :: g4 :: (I,oI) :: (C,oC) :: (D,oD) :: led)) (hI : IntsAre ws' (xs.take t.toNat ++ [v] ++ xs.drop (t + 1).toNat))
    (l1 : AllLt D2 (g1 :: g2 :: g3 :: g4 :: (I,oI) :: (C,oC) :: (D,oD) :: led)) (hs : ∀ p ∈ led₀,p ∈ led) (he : e ∈ led) (hy1 : ys.length = i) (hy2 : ∀ y ∈ ys,PtNew led₀ led y) (off : LCg.Off3 I C D led)
    (hx : xs.length = 3) (hb : ∀ x ∈ xs,-12 ≤ x ∧ x ≤ 12) (h0 : 0 ≤ t) (h1 : t < 3) (v0 : -2000 ≤ v) (v1 : v ≤ 2000) :
    LCg.CompEnd h₀ L m s₁ I oI C oC D oD (fun l => e ∈ l) (fun y led' => ShiftJ led₀ (i + 1) (ys ++ [y]) led') (.ref D2) { s₁ with heap := h',toks := tk } := by
  have l2 : ∀ p ∈ g1 :: g2 :: g3 :: g4 :: (I,oI) :: (C,oC) :: (D,oD) :: led,@LT.lt Nat _ p.1 D2 := allLt_mem l1
  refine LCg.CompEnd.intro F N ((D2,listOf ws'.toArray n') :: led) (fun p hp => ?_) ⟨⟨Nat.ne_of_gt (l2 (I,oI) ?_),Nat.ne_of_gt (l2 (C,oC) ?_),Nat.ne_of_gt (l2 (D,oD) ?_)⟩,off⟩ (.tail _ he) ⟨fun p hp => .tail _ (hs p hp),?_,?_⟩
  · exact subA (by k_extra "H:sub_auto") hp
  · simp
  · simp
  · simp
  · rw [List.length_append,hy1,List.length_singleton]
  · intro y hy
    rcases List.mem_append.mp hy with hy | hy
    · exact (hy2 y hy).cons
    · rw [List.mem_singleton.mp hy]
      exact ⟨D2,ws',n',_,rfl,.head _,hI,shift_len hx h0 h1,shift_bd hb v0 v1,allLt_of fun q hq => l2 q (by simp [hs q hq])⟩
theorem pick2 {a b c d e f : Addr × Obj} {T : Led} {p : Addr × Obj} (h : p ∈ a :: f :: T) : p ∈ a :: b :: c :: d :: e :: f :: T := by
  exact subA (by k_extra "H:sub_auto") h
inductive PointsJ (w : World) (fd : Addr) (cl : Addr) (lf : Addr) (cH : Addr) (cT : Addr) (cP : Addr) (cF : Addr) (ra : Addr) (vs : List Value) (sp : Int) (tk : Tok) (T₀ : Led) (i : Nat) (m : Mp) (ms : Led) (T : Led) : Prop
  | mk (o' : Obj) (sp' : Int) (refs : List Value) (nf : Nat) (oH oT oP oF : Obj) (xH xT xP : Option Value) (cc1 : ms = [(lf,listOf refs.toArray nf),(cH,oH),(cT,oT),(cP,oP),(cF,oF),(fd,o')]) (cc2 : (∀ p ∈ T₀,p ∈ T)) (cc3 : Feed w cl sp' o') (cc4 : sp ≤ sp') (cc5 : sp' ≤ sp + 3 * (i : Int)) (cc6 : oH.data = .cell xH) (cc7 : oT.data = .cell xT) (cc8 : oP.data = .cell xP) (cc9 : oF.data = .cell (some (.ref fd))) (cc10 : m (Str.ofString "found") = some (.ref lf)) (cc11 : m (Str.ofString "row") = some (.ref ra)) (cc12 : m (Str.ofString "many") = some (.int 3 tk)) (cc13 : (∀ v ∈ refs,PtAt T v)) (cc14 : refs.length ≤ 4 * i) : PointsJ w fd cl lf cH cT cP cF ra vs sp tk T₀ i m ms T
section
theorem g4.on4 : True := trivial
open g4
theorem set_26 : True := by
  k_with "!CompRest" => ((fail_if_success(fail_if_success have:=on4));((with_reducible show LCg.CompRest _ _ _ _ _ _ _ _ (Str.ofString "step") _ _ _ _ _ _ _ _ _ _);refine stop_at ?_))
  k_with "!compareOp NotEq ref ref" => ((fail_if_success(fail_if_success have:=on4));(k_here;refine stop_at ?_))
  exact trivial
inductive PointsR10e (w : World) (fd : Addr) (cl : Addr) (sp : Int) (T : Led) (r : Value) (led' : Led) : Prop
  | mk (lf : Addr) (refs : List Value) (nf : Nat) (o' : Obj) (sp' : Int) (T' : Led) (cc1 : r = .ref lf) (cc2 : led' = (lf,listOf refs.toArray nf) :: (fd,o') :: T') (cc3 : (∀ p ∈ T,p ∈ T')) (cc4 : Feed w cl sp' o') (cc5 : sp ≤ sp') (cc6 : sp' ≤ sp + 9) (cc7 : (∀ v ∈ refs,PtAt T' v)) (cc8 : refs.length ≤ 12) (cc9 : (∀ q ∈ T',AllNe q.1 [(lf,listOf refs.toArray nf),(fd,o')])) (cc10 : lf ≠ fd) : PointsR10e w fd cl sp T r led'
inductive PointsC10e1 (g₁ : Heap) (L₁ : Addr) (i : Nat) (t : Tok) (m : Mp) (T' : Led) (I : Addr) (it : Obj) (lf : Addr) (refs : List Value) (oH' : Obj) (oT' : Obj) (oF' : Obj) (oP' : Obj) (nf : Nat) (o' : Obj) (sp' : Int) (w : World) (fd : Addr) (cl : Addr) (s : Shared) (s' : Shared) : Prop
  | mk (h' : Heap) (tk' : Nat) (pt : Addr) (ws : List Value) (n' nf' : Nat) (xs : List Int) (oP2 o2 : Obj) (cc1 : s' = { s with heap := h',toks := tk' }) (cc2 : Fr g₁ L₁ h' (fun y => if y = Str.ofString "turn" then some (.int (i : Int) t) else m y)) (cc3 : News g₁ L₁ h' ((pt,listOf ws.toArray n') :: (I,it) :: (lf,listOf (refs ++ [Value.ref pt]).toArray nf') :: (L₁ + 1 + 1 + 1 + 1,oH') :: (L₁ + 1 + 1 + 1,oT') :: (L₁ + 1 + 1,oP2) :: (L₁ + 1,oF') :: (fd,o2) :: T')) (cc4 : IntsAre ws xs) (cc5 : xs.length = 3) (cc6 : (∀ x ∈ xs,-12 ≤ x ∧ x ≤ 12)) (cc7 : oP2.data = .cell (some (.ref pt))) (cc8 : Feed w cl (sp' + 1 + 1 + 1) o2) (cc9 : AllNe pt ((I,it) :: (lf,listOf refs.toArray nf) :: (L₁ + 1 + 1 + 1 + 1,oH') :: (L₁ + 1 + 1 + 1,oT') :: (L₁ + 1 + 1,oP') :: (L₁ + 1,oF') :: (fd,o') :: T')) : PointsC10e1 g₁ L₁ i t m T' I it lf refs oH' oT' oF' oP' nf o' sp' w fd cl s s'
inductive PointsC10e2 (g₁ : Heap) (L₁ : Addr) (i : Nat) (t : Tok) (m : Mp) (T' : Led) (I : Addr) (it : Obj) (lf : Addr) (refs : List Value) (oF' : Obj) (pt : Addr) (ws : List Value) (n5 : Nat) (nf5 : Nat) (oP2 : Obj) (o2 : Obj) (tl : Term3) (fd : Addr) (s : Shared) (s' : Shared) : Prop
  | mk (h' : Heap) (tk' : Nat) (hv : Int) (tv tt : Tok) (oT2 oH2 : Obj) (x1 x2 : Option Value) (cc1 : s' = { s with heap := h',toks := tk' }) (cc2 : Fr g₁ L₁ h' (fun y => if y = Str.ofString "rest" then x1 else if y = Str.ofString "own" then x2 else if y = Str.ofString "turn" then some (.int (i : Int) t) else m y)) (cc3 : News g₁ L₁ h' ((pt,listOf ws.toArray n5) :: (I,it) :: (lf,listOf (refs ++ [Value.ref pt]).toArray nf5) :: (L₁ + 1 + 1 + 1 + 1,oH2) :: (L₁ + 1 + 1 + 1,oT2) :: (L₁ + 1 + 1,oP2) :: (L₁ + 1,oF') :: (fd,o2) :: T')) (cc4 : oT2.data = .cell (some (.int tl.1 tt))) (cc5 : oH2.data = .cell (some (.int hv tv))) (cc6 : -1260 ≤ hv) (cc7 : hv ≤ 1260) : PointsC10e2 g₁ L₁ i t m T' I it lf refs oF' pt ws n5 nf5 oP2 o2 tl fd s s'
theorem points_spec (w : World) {fd cl ra ta ba : Addr} {o : Obj} {vs : List Value} {n : Nat} {sp bp bq : Int} {tr t1 t2 tkm : Tok} {rel : Str} {ts : List Term3} {T : Led} (hc : Cells fd vs) (hf : Feed w cl sp o) (hs : 0 ≤ sp) (hs2 : sp ≤ 900)
  (hT : TermsAt T ta ts) (hok : Okay ts) (h1 : (ra,tup [.ref ta,.str rel tr,.ref ba]) ∈ T) (h2 : (ba,tup [.int bp t1,.int bq t2]) ∈ T) (hcl : (cl,listOf vs.toArray n) ∈ T) (hfd : ∀ q ∈ T,q.1 ≠ fd) (hb : -5 ≤ bp ∧ bp ≤ 5 ∧ 1 ≤ bq ∧ bq ≤ 3) :
    Spec w 862 [.ref fd,.ref ra,.int 3 tkm] 3 100 ((fd,o) :: T) (PointsR10e w fd cl sp T) := by
  apply bx;simp(disch:=k_dflt(
  unfold Spec
  intro dp un gd cn cs a₁ ccd ce outer A₀ base h₀ L m mean mg mb s Q E B F X N Tp hk hd hu hret
  have hb3 := hb.2.2
  k_dflt (apply call_atC (binds := [(Str.ofString "feed",Value.ref fd),(Str.ofString "row",Value.ref ra),(Str.ofString "many",Value.int 3 tkm)]));k_extra "H:ktr_rest"
  rename_i g₁ L₁ h₁ tk₁ FG₁ F₁ X₁ T₁ z₁ oH oT oP oF dH dT dP dF
  k_steps
  refine stop_go ?_
  (try k_extra "H:folds")
  rename_i lf h₂ _ l₂ _ h₃ _ _ h₄ tk₄ t₅ u₅ v₅ r₄ F₄ N₄ k₄
  refine range_two [(lf,listOf #[] 0),(L₁ + 1 + 1 + 1 + 1,oH),(L₁ + 1 + 1 + 1,oT),(L₁ + 1 + 1,oP),(L₁ + 1,oF),(fd,o)] T (PointsJ w fd cl lf (L₁ + 1 + 1 + 1 + 1) (L₁ + 1 + 1 + 1) (L₁ + 1 + 1) (L₁ + 1) ra vs sp tkm T) (by assumption) (by decide) (by assumption) (by assumption) (fun p hp => hp) ?off ?start ?step ?fin rfl
  case off =>
    intro q hq
    have e1 := allLt_mem l₁.2 q hq
    have e2 := allLt_mem l₂.2.2.2.2.2 q hq
    have e3 := hfd q hq
    exact ⟨by k_ne,by k_ne,by k_ne,by k_ne,by k_ne,by k_ne,trivial⟩
  case start => exact ⟨o,sp,[],0,oH,oT,oP,oF,_,_,_,rfl,fun p hp => hp,hf,Int.le_refl _,by omega,dH,dT,dP,dF,by with_unfolding_all rfl,by with_unfolding_all rfl,by with_unfolding_all rfl,fun v hv => (nomatch hv),Nat.le_refl _⟩
  case step =>
    intro I i v t h tk m ms T' it
    rintro rfl
    intro hv zq1
    obtain ⟨o',sp',refs,nf,oH',oT',oP',oF',xH,xT,xP,rfl,hT',hf',hsp1,hsp2,dH',dT',dP',dF',mf,mr,mm,hpts,hlen⟩ := zq1
    intro nI off' F5 N5
    dsimp only [List.cons_append,List.nil_append] at N5
    have h1' := hT' _ h1
    have h2' := hT' _ h2
    have hcl' := hT' _ hcl
    refine x1_2 (hT.mono hT') ?_
    intro vs2 m3 hTi
    with_reducible refine execs_cutS 2 (PointsC10e1 g₁ L₁ i t m T' I it lf refs oH' oT' oF' oP' nf o' sp' w fd cl s) ?cut1 ?cut2
    case cut1 =>
      dsimp only [List.take]
      (try k_fold)
      k_steps
      refine stop_go ⟨rfl,_,_,_,_,_,_,_,_,_,rfl,by assumption,by rw [← List.push_toArray];assumption,.cons _ _ (.cons _ _ (.cons _ _ .nil)),rfl,all3 (bd12 (by assumption) (by assumption)) (bd12 (by assumption) (by assumption)) (bd12 (by assumption) (by assumption)),by assumption,by assumption,off1_allNe (by assumption)⟩
    case cut2 =>
      intro sCut hCut
      (try k_fold)
      obtain ⟨h5,tk5,pt,ws,n5,nf5,xs,oP2,o2,rfl,F6,N6,w2,w3,w4,dP2,hf2,lpt⟩ := hCut
      revert F6
      refine fr_let ?_
      intro mF F6
      dsimp only [List.drop]
      (try k_fold)
      have w5 := w2.length
      k_steps
      refine stop_go ?_
      (try k_extra "H:folds")
      rename_i Db hb9 _ Fb Nb lb
      refine terms_ne_nil Nb (by k_mem) (ts := ts) (vs := vs2) (by repeat first | exact hTi | refine TermsIn.tails ?_) (by k_mem) (by ktr_units) (fun e => ?_) fun hne => ?_
      · k_steps
        have gl : ∀ p ∈ T',p.1 ≠ lf := by k_all
        refine turn_two [(lf,listOf (refs ++ [Value.ref pt]).toArray nf5),(L₁ + 1 + 1 + 1 + 1,oH'),(L₁ + 1 + 1 + 1,oT'),(L₁ + 1 + 1,oP2),(L₁ + 1,oF'),(fd,o2)] Fb Nb ?hms nI fun T9 hj => ?_
        case hms => exact sub_cons (by k_mem) (sub_cons (by k_mem) (sub_cons (by k_mem) (sub_cons (by k_mem) (sub_cons (by k_mem) (sub_cons (by k_mem) (sub_cons (by k_mem) sub_nil))))))
        have up : ∀ p ∈ T',p ∈ T9 := fun p hp => hj p (.tail _ (.tail _ (.tail _ (.tail _ (.tail _ (.tail _ (.tail _ (.tail _ (.tail _ hp))))))))) (off' p hp)
        refine ⟨o2,sp' + 1 + 1 + 1,refs ++ [Value.ref pt],nf5,oH',oT',oP2,oF',_,_,_,rfl,fun p hp => up p (hT' p hp),hf2,by omega,by omega,dH',dT',dP2,dF',by (k_extra "H:look"),by (k_extra "H:look"),by (k_extra "H:look"),fun v hv => ?_,by rw [List.length_append,List.length_singleton];omega⟩
        rcases List.mem_append.mp hv with hv | hv
        · exact (hpts v hv).mono up
        · rw [List.mem_singleton.mp hv]
          exact ⟨pt,ws,n5,xs,rfl,hj _ (by k_mem) ⟨lpt.1,lpt.2.1,lpt.2.2.1,lpt.2.2.2.1,lpt.2.2.2.2.1,lpt.2.2.2.2.2.1,lpt.2.2.2.2.2.2.1,trivial⟩,w2,w3,wide12 w4⟩
      · refine x8_5 (hTi.last hne) ?_
        intro vi al bl ti tp tq ts' tl
        rintro rfl
        rintro rfl
        intro q1 q2 q3
        have hz : vi.length ≤ sizeLine := by
          have := hok.1
          rw [q3.length,sizeLine_eq]
          rw [List.length_append] at this
          omega
        have hok' : Okay ts' := ⟨by have := hok.1;rw [List.length_append] at this;omega,fun t ht => hok.2 t (List.mem_append_left _ ht)⟩
        refine x0_7 (hok.2 tl (List.mem_append_right _ (.head _))) ?_
        intro c0 d0 r0 l0 e0 s0 z0
        iterate 2 (first | k_extra "H:ifk" | (k_unfold;(try dsimp only)) | walk1 | (dsimp only;walk1))
        with_reducible refine execs_cutS 3 (PointsC10e2 g₁ L₁ i t m T' I it lf refs oF' pt ws n5 nf5 oP2 o2 tl fd s) ?cut3 ?cut4
        case cut3 =>
          dsimp only [List.take]
          (try k_fold)
          k_steps
          k_dflt (refine' six12_use (ts := ts') ?S ?zh ?_;(case S => exact ⟨by k_asm,by k_asm,by k_asm,by k_asm,by k_asm,by first | exact rfl | assumption,by ktr_room,by ktr_units⟩);(case zh => exact ⟨⟨vi,by k_mem,by repeat first | exact q3 | refine TermsIn.tails ?_⟩,hok',by k_mem,w2,w3,w4⟩);k_whole)
          intro S t9 h9 tk9 hS1 hS2 F9 N9
          refine x0_2 (rest_bd hb hS1 hS2) ?_
          intro g1 g2
          refine x0_3 (six_factor r0 l0 e0 s0 z0) ?_
          intro g3 g4 g5
          refine x0_2 (fdiv_bd (K := 1260) g3 g1 g2 (by decide)) ?_
          intro g6 g7
          k_steps
          refine stop_go ⟨rfl,_,_,_,_,_,_,_,_,_,rfl,by assumption,fun p hp => (by with_reducible assumption : News g₁ L₁ _ _) p (.tail _ (.tail _ hp)),by assumption,by assumption,g6,g7⟩
        case cut4 =>
          intro sCut hCut
          (try k_fold)
          obtain ⟨h7,tk7,hv,tv,tt,oT2,oH2,x1,x2,rfl,F7,N7,dT2,dH2,v1,v2⟩ := hCut
          revert F7
          refine fr_let ?_
          intro mG F7
          revert N7
          refine led8 ?_
          intro T8 y1 y2 y3 y4 y5 y6 y7 y8 N7
          dsimp only [List.drop]
          (try k_fold)
          k_steps
          refine stop_go ?_
          (try k_extra "H:folds")
          rename_i Dm hm fF fN fl hg
          refine comp_inv0 ShiftJ ⟨fun _ h => h,rfl,fun _ h => (nomatch h)⟩ ?step2 ?fin2
          case step2 =>
            intro i ys led v hi zq2
            refine x0_3 zq2 ?_;(try clear zq2)
            intro hs hy1 hy2
            intro hv2 I oI C oC D m₂ h tk E' hC hx F1 N1 off ne
            have g1' := hs _ (by k_mem : (pt,listOf ws.toArray n5) ∈ _)
            have g2' := hs _ (by k_mem : (L₁ + 1 + 1 + 1 + 1,oH2) ∈ _)
            have g3' := hs _ (by k_mem : (L₁ + 1 + 1 + 1,oT2) ∈ _)
            have g4' := hs _ (by k_mem : (L₁ + 1 + 1,oP2) ∈ _)
            have hv3 : ∃ st ts,v = .int st ts ∧ -1 ≤ st ∧ st ≤ 1 := by
              rcases mini3 hi hv2 with e | e | e <;> exact ⟨_,_,e,by decide,by decide⟩
            refine x2_3 hv3 ?_;(try clear hv3)
            intro st ts9
            rintro rfl
            intro st1 st2
            have c1 : 0 ≤ tl.1 + 1 := by omega
            k_steps
            refine stop_go ?_
            (try k_extra "H:folds")
            exact shift_end (by assumption) (by with_reducible assumption) (by assumption) (by assumption) hs (hs _ (by k_mem)) hy1 hy2 off w3 w4 c0 d0 (by omega) (by omega)
          case fin2 =>
            intro ys led zq3
            refine x0_3 zq3 ?_;(try clear zq3)
            intro hs hy1 hy2
            k_steps
            rename_i De he Fe Nd oe
            have hy1 : ys.length = 3 := hy1
            have lts : ∀ p ∈ T',p ∈ led := fun p hp => hs p (.tail _ (.tail _ (.tail _ (.tail _ (.tail _ (.tail _ (.tail _ (.tail _ (.tail _ hp)))))))))
            have gN : ys ≠ [] := fun e => by rw [e] at hy1;cases hy1
            have gl : ∀ p ∈ T',p.1 ≠ lf := by k_all
            have gD := off1_allNe oe
            refine extend_led (xs := refs ++ [Value.ref pt]) (ys := ys) (by k_asm) Nd (.tail _ (hs _ (by k_mem))) (.head _) (Ne.symm (gD.get (hs _ (by k_mem : (lf,listOf (refs ++ [Value.ref pt]).toArray nf5) ∈ _)))) gN (by rw [List.length_append,hy1,List.length_singleton];omega) fun h9 rest F9 N9 go back => ?_
            k_steps
            have old : ∀ {a o},(a,o) ∈ led → a ≠ lf → (a,o) ∈ (lf,listOf (refs ++ [Value.ref pt] ++ ys).toArray (nf5 + 1)) :: rest := fun h n => .tail _ (go _ (.tail _ h) n)
            refine turn_two [(lf,listOf (refs ++ [Value.ref pt] ++ ys).toArray (nf5 + 1)),(L₁ + 1 + 1 + 1 + 1,oH2),(L₁ + 1 + 1 + 1,oT2),(L₁ + 1 + 1,oP2),(L₁ + 1,oF'),(fd,o2)] F9 N9 ?hms nI fun T9 hj => ?_
            case hms => exact sub_cons (old (hs _ (by k_mem)) (by k_ne)) (sub_cons (.head _) (sub_cons (old (hs _ (by k_mem)) (by k_ne)) (sub_cons (old (hs _ (by k_mem)) (by k_ne)) (sub_cons (old (hs _ (by k_mem)) (by k_ne)) (sub_cons (old (hs _ (by k_mem)) (by k_ne)) (sub_cons (old (hs _ (by k_mem)) (by k_ne)) sub_nil))))))
            have up : ∀ p ∈ T',p ∈ T9 := fun p hp => hj p (old (lts p hp) (gl p hp)) (off' p hp)
            refine ⟨o2,sp' + 1 + 1 + 1,refs ++ [Value.ref pt] ++ ys,nf5 + 1,oH2,oT2,oP2,oF',_,_,_,rfl,fun p hp => up p (hT' p hp),hf2,by omega,by omega,dH2,dT2,dP2,dF',by (k_extra "H:look"),by (k_extra "H:look"),by (k_extra "H:look"),fun v hv => ?_,by rw [List.length_append,List.length_append,List.length_singleton,hy1];omega⟩
            rcases List.mem_append.mp hv with hv | hv
            · rcases List.mem_append.mp hv with hv | hv
              · exact (hpts v hv).mono up
              · rw [List.mem_singleton.mp hv]
                exact ⟨pt,ws,n5,xs,rfl,hj _ (old (hs _ (by k_mem)) (Ne.symm lpt.2.1)) ⟨lpt.1,lpt.2.1,lpt.2.2.1,lpt.2.2.2.1,lpt.2.2.2.2.1,lpt.2.2.2.2.2.1,lpt.2.2.2.2.2.2.1,trivial⟩,w2,w3,wide12 w4⟩
            · refine x4_6 (hy2 v hv) ?_
              intro pt' ws' n' xs'
              rintro rfl
              intro m' i' l' b' lt'
              have ln := allLt_allNe lt'
              exact ⟨pt',ws',n',xs',rfl,hj _ (old m' (Ne.symm ln.2.2.2.1)) ⟨ln.2.2.1,ln.2.2.2.1,ln.2.2.2.2.1,ln.2.2.2.2.2.1,ln.2.2.2.2.2.2.1,ln.2.2.2.2.2.2.2.1,ln.2.2.2.2.2.2.2.2.1,trivial⟩,i',l',b'⟩
  case fin =>
    intro h tk m ms T' zq4
    obtain ⟨o',sp',refs,nf,oH',oT',oP',oF',xH,xT,xP,rfl,hT',hf',hsp1,hsp2,dH',dT',dP',dF',mf,mr,mm,hpts,hlen⟩ := zq4
    intro off' F5 N5
    dsimp only [List.cons_append,List.nil_append] at N5
    have hlen : refs.length ≤ 12 := hlen
    k_steps
    have nl : lf ≠ fd := by k_ne
    refine hret _ ((lf,listOf refs.toArray nf) :: (fd,o') :: T') _ _ (by assumption) (after_of (by assumption) (by assumption) (fun p hp => N5 p (pick2 hp)) (fun p hp => (by with_reducible assumption : News h₀ L _ _) p (pick2 hp))) ⟨lf,refs,nf,o',sp',T',rfl,rfl,hT',hf',hsp1,by omega,hpts,hlen,fun q hq => ⟨(off' q hq).1,(off' q hq).2.2.2.2.2.1,trivial⟩,nl⟩
  ))only[↓bx_eq]
end
end
section
inductive RowJ (w : World) (fd : Addr) (cl : Addr) (T : Addr) (vs : List Value) (n : Nat) (sp : Int) (B : Mp) (keep : Led) (i : Nat) (m : Mp) (led : Led) : Prop
  | mk (o1 : Option Value) (t1 : Option Value) (o' : Obj) (ys : List Value) (ts : List Term3) (ny : Nat) (sp' : Int) (rest : Led) (cc1 : m = (fun y => if y = Str.ofString "own" then o1 else if y = Str.ofString "term" then t1 else B y)) (cc2 : led = (fd,o') :: (T,listOf ys.toArray ny) :: (keep ++ rest)) (cc3 : Feed w cl sp' o') (cc4 : sp ≤ sp') (cc5 : sp' ≤ sp + 2 * (i : Int)) (cc6 : (cl,listOf vs.toArray n) ∈ rest) (cc7 : TermsIn rest ys ts) (cc8 : ts.length ≤ i) (cc9 : Okay ts) (cc10 : (∀ t ∈ ts,t.1 < (i : Int))) (cc11 : ∀ q ∈ rest,AllNe q.1 ((fd,o') :: (T,listOf ys.toArray ny) :: keep)) : RowJ w fd cl T vs n sp B keep i m led
theorem row_turn {w : World} {fd cl T I : Addr} {vs ys2 : List Value} {ts2 : List Term3} {n ny2 i tk : Nat} {arr : Array Value} {sp sp2 : Int} {B : Mp} {o2 it : Obj} {h₀ h' : Heap} {L : Addr} {s₁ : Shared} {Q : Flow → Shared → Prop} {x x' y y' : Option Value} {led keep : Led} (K2 : Led)
    (F : Fr h₀ L h' fun z => if z = Str.ofString "own" then x else if z = Str.ofString "term" then y else if z = Str.ofString "own" then x' else if z = Str.ofString "term" then y' else B z) (N : News h₀ L h' led)
    (hI : (I,it) ∈ led) (hfd : (fd,o2) ∈ led) (hT : (T,listOf arr ny2) ∈ led) (hkp : ∀ p ∈ keep,p ∈ led) (ha : arr = ys2.toArray) (hK : ∀ p ∈ K2,p ∈ led ∧ AllNe p.1 ((I,it) :: (fd,o2) :: (T,listOf arr ny2) :: keep)) (d1 : AllNe I ((fd,o2) :: (T,listOf arr ny2) :: keep))
    (hf : Feed w cl sp2 o2) (e1 : sp ≤ sp2) (e2 : sp2 ≤ sp + 2 * ((i + 1 : Nat) : Int)) (hcl : (cl,listOf vs.toArray n) ∈ K2) (ht : TermsIn K2 ys2 ts2) (e3 : ts2.length ≤ i + 1) (hok : Okay ts2) (e4 : ∀ t ∈ ts2,t.1 < ((i + 1 : Nat) : Int)) :
    TurnPost h₀ L s₁ I it (RowJ w fd cl T vs n sp B keep (i + 1)) Q .next { s₁ with heap := h',toks := tk } := by
  subst ha
  rw [upd2] at F
  refine turn_end (ms := (fd,o2) :: (T,listOf ys2.toArray ny2) :: keep) F N (sub_cons hI (sub_cons hfd (sub_cons hT hkp))) (fun p hp => d1.get hp) fun rest c1 _ c3 => ?_
  have sub : ∀ p ∈ K2,p ∈ rest := fun p hp => by
    refine x0_2 (hK p hp) ?_
    intro h1 h2
    rcases List.mem_append.mp (c1 p h1) with h | h
    · exact absurd rfl (h2.get h)
    · exact h
  exact ⟨x,y,o2,ys2,ts2,ny2,sp2,rest,rfl,rfl,hf,e1,e2,sub _ hcl,ht.mono sub,e3,hok,e4,fun q hq => allNe_of fun p hp => Ne.symm (c3 p hp q hq)⟩
theorem rowJ_start {w : World} {fd cl T c1 c2 : Addr} {vs : List Value} {n ny : Nat} {sp : Int} {B : Mp} {o o1 o2 : Obj} (hf : Feed w cl sp o) (b1 : B (Str.ofString "own") = none) (b2 : B (Str.ofString "term") = none) {h₀ h : Heap} {L : Addr}
    (N : News h₀ L h [(T,listOf #[] ny),(c2,o2),(c1,o1),(fd,o),(cl,listOf vs.toArray n)]) (d : AllNe cl [(fd,o),(T,listOf #[] ny),(c1,o1),(c2,o2)]) :
    News h₀ L h ((fd,o) :: (T,listOf #[] ny) :: ([(c1,o1),(c2,o2)] ++ [(cl,listOf vs.toArray n)])) ∧ RowJ w fd cl T vs n sp B [(c1,o1),(c2,o2)] 0 B ((fd,o) :: (T,listOf #[] ny) :: ([(c1,o1),(c2,o2)] ++ [(cl,listOf vs.toArray n)])) := by
  refine ⟨fun p hp => N p ?_,none,none,o,[],[],ny,sp,_,?_,rfl,hf,Int.le_refl _,by omega,.head _,.nil,Nat.le_refl _,⟨by decide,fun t ht => (nomatch ht)⟩,fun t ht => (nomatch ht),List.forall_mem_singleton.mpr d⟩
  · exact subA (by k_extra "H:sub_auto") hp
  · funext z
    by_cases h : z = Str.ofString "own"
    · rw [if_pos h,h,b1]
    · by_cases h' : z = Str.ofString "term"
      · rw [if_neg h,if_pos h',h',b2]
      · rw [if_neg h,if_neg h']
section
variable {prog : Program} {w : World} {A : Around} {E : Value → Shared → Prop} {s : Shared} {env : Env} {h₀ : Heap} {x : Str} {body : List Stmt} {Q : Flow → Shared → Prop}
theorem row_go {fd cl T c1 c2 r : Addr} {vs : List Value} {n ny : Nat} {sp nI : Int} {B : Mp} {o o1 o2 : Obj} {t₀ u₀ v₀ : Tok} (hr : IsRange s.heap r 0 nI 1 t₀ u₀ v₀) (hn : 0 ≤ nI ∧ nI < 4)
    (F : Fr h₀ env.locals s.heap B) (N : News h₀ env.locals s.heap [(T,listOf #[] ny),(c2,o2),(c1,o1),(fd,o),(cl,listOf vs.toArray n)]) (hf : Feed w cl sp o) (b1 : B (Str.ofString "own") = none) (b2 : B (Str.ofString "term") = none)
    (d : AllNe cl [(fd,o),(T,listOf #[] ny),(c1,o1),(c2,o2)])
    (step : ∀ I it i v t h tk q1 t1 o' ys ts ny sp' rest,v = ((i : Nat) : Int) → v < 3 → Feed w cl sp' o' → sp ≤ sp' → sp' ≤ sp + 2 * v → (cl,listOf vs.toArray n) ∈ rest → TermsIn rest ys ts → ts.length ≤ i → Okay ts → (∀ t ∈ ts,t.1 < (i : Int)) →
      (∀ q ∈ rest,q.1 ≠ fd) → (∀ q ∈ rest,q.1 ≠ T) → (∀ q ∈ rest,AllNe q.1 [(I,it),(fd,o'),(T,listOf ys.toArray ny),(c1,o1),(c2,o2)]) → AllNe I [(fd,o'),(T,listOf ys.toArray ny),(c1,o1),(c2,o2)] →
      Fr h₀ env.locals h (fun y => if y = x then some (.int v t) else if y = Str.ofString "own" then q1 else if y = Str.ofString "term" then t1 else B y) → News h₀ env.locals h ((I,it) :: (fd,o') :: (T,listOf ys.toArray ny) :: (c1,o1) :: (c2,o2) :: rest) →
      wpAny (model prog w) A (execs body env) (TurnPost h₀ env.locals { s with heap := h,toks := tk } I it (RowJ w fd cl T vs n sp B [(c1,o1),(c2,o2)] (i + 1)) Q) E { s with heap := h,toks := tk })
    (fin : ∀ h tk q1 t1 o' ys ts ny sp' rest,Feed w cl sp' o' → sp ≤ sp' → sp' ≤ sp + 2 * 3 → (cl,listOf vs.toArray n) ∈ rest → TermsIn rest ys ts → Okay ts → (∀ q ∈ rest,q.1 ≠ fd) → (∀ q ∈ rest,q.1 ≠ T) → (∀ q ∈ rest,q.1 ≠ c1) → (∀ q ∈ rest,q.1 ≠ c2) →
      (∀ q ∈ rest,AllNe q.1 [(fd,o'),(T,listOf ys.toArray ny),(c1,o1),(c2,o2)]) →
      Fr h₀ env.locals h (fun y => if y = Str.ofString "own" then q1 else if y = Str.ofString "term" then t1 else B y) → News h₀ env.locals h ((fd,o') :: (T,listOf ys.toArray ny) :: (c1,o1) :: (c2,o2) :: rest) → Q .next { s with heap := h,toks := tk })
    (hh : A.handled = none) : wpAny (model prog w) A (pyIter (.ref r)) (fun it s₂ => LoopAtV prog w A h₀ env x body Q E it s₂) E s := by
  refine x0_2 (rowJ_start hf b1 b2 N d) ?_
  intro N1 J0
  refine range_inv (fun _ i m led => RowJ w fd cl T vs n sp B [(c1,o1),(c2,o2)] i m led) hr (range_small hn.1 (by omega)) (range_size hn.1) F N1 (fun _ _ => J0) ?_ ?_ hh
  · intro I i v t h tk m led it hi hv zq1
    obtain ⟨q1,t1,o',ys,ts,ny,sp',rest,rfl,rfl,g1,g2,g3,g4,g6,g7,g8,g9,g10⟩ := zq1
    intro off F' N'
    refine step I it i v t h tk q1 t1 o' ys ts ny sp' rest hv (by omega) g1 g2 (by omega) g4 g6 g7 g8 g9 (fun q hq => Ne.symm (g10 q hq).1) (fun q hq => Ne.symm (g10 q hq).2.1) (fun q hq => ⟨Ne.symm (off q (.tail _ (.tail _ (List.mem_append_right _ hq)))),g10 q hq⟩) (allNe_of fun p hp => off p ?_) F' N'
    exact List.mem_append_left rest hp
  · intro I h tk m led zq2
    obtain ⟨q1,t1,o',ys,ts,ny,sp',rest,rfl,rfl,g1,g2,g3,g4,g6,g7,g8,g9,g10⟩ := zq2
    intro F' N'
    exact fin h tk q1 t1 o' ys ts ny sp' rest g1 g2 (by omega) g4 g6 g8 (fun q hq => Ne.symm (g10 q hq).1) (fun q hq => Ne.symm (g10 q hq).2.1) (fun q hq => Ne.symm (g10 q hq).2.2.1) (fun q hq => Ne.symm (g10 q hq).2.2.2.1) g10 F' N'
end
inductive RowA (w : World) (fd : Addr) (cl : Addr) (c1 : Addr) (c2 : Addr) (vs : List Value) (n : Nat) (sp : Int) (h₀ : Heap) (L : Addr) (s : Shared) (s' : Shared) : Prop
  | mk (h' : Heap) (tk' : Nat) (m' : Mp) (o' : Obj) (sp' : Int) (ra : Addr) (ts : List Term3) (rel : Str) (bp bq : Int) (oc co : Obj) (rest : Led) (cc1 : s' = { s with heap := h',toks := tk' }) (cc2 : Fr h₀ L h' m') (cc3 : m' (Str.ofString "feed") = some (.ref fd)) (cc4 : News h₀ L h' ((fd,o') :: (c1,oc) :: (c2,co) :: rest)) (cc5 : oc.data = .cell (some (.ref ra))) (cc6 : (∃ x,co.data = .cell x)) (cc7 : Feed w cl sp' o') (cc8 : sp ≤ sp') (cc9 : sp' ≤ sp + 10) (cc10 : (cl,listOf vs.toArray n) ∈ rest) (cc11 : RowAt rest ra ts rel bp bq) (cc12 : Okay ts) (cc13 : RelOk rel) (cc14 : -5 ≤ bp) (cc15 : bp ≤ 5) (cc16 : 1 ≤ bq) (cc17 : bq ≤ 3) (cc18 : ∀ q ∈ rest,AllNe q.1 [(fd,o'),(c1,oc),(c2,co)]) : RowA w fd cl c1 c2 vs n sp h₀ L s s'
inductive RowO (fd : Addr) (cl : Addr) (c1 : Addr) (c2 : Addr) (ra : Addr) (vs : List Value) (n : Nat) (fo : Obj) (oc : Obj) (ts : List Term3) (rel : Str) (bp : Int) (bq : Int) (h₀ : Heap) (L : Addr) (s : Shared) (s' : Shared) : Prop
  | mk (h' : Heap) (tk' : Nat) (m' : Mp) (v : Value) (co : Obj) (rest : Led) (cc1 : s' = { s with heap := h',toks := tk' }) (cc2 : Fr h₀ L h' m') (cc3 : m' (Str.ofString "feed") = some (.ref fd)) (cc4 : News h₀ L h' ((fd,fo) :: (c1,oc) :: (c2,co) :: rest)) (cc5 : co.data = .cell (some v)) (cc6 : (cl,listOf vs.toArray n) ∈ rest) (cc7 : RowAt rest ra ts rel bp bq) (cc8 : (if rel = Str.ofString "=" then v = .none else ∃ rb,v = .ref rb ∧ RowAt rest rb (ts.map negT) (negRel rel) (-bp) bq)) (cc9 : ∀ q ∈ rest,AllNe q.1 [(fd,fo),(c1,oc),(c2,co)]) : RowO fd cl c1 c2 ra vs n fo oc ts rel bp bq h₀ L s s'
inductive RowB (w : World) (fd : Addr) (cl : Addr) (c1 : Addr) (c2 : Addr) (ra : Addr) (vs : List Value) (n : Nat) (fo : Obj) (oc : Obj) (ts : List Term3) (rel : Str) (bp : Int) (bq : Int) (h₀ : Heap) (L : Addr) (s : Shared) (s' : Shared) : Prop
  | mk (h' : Heap) (tk' : Nat) (m' : Mp) (rb : Addr) (co : Obj) (rest : Led) (cc1 : s' = { s with heap := h',toks := tk' }) (cc2 : Fr h₀ L h' m') (cc3 : m' (Str.ofString "feed") = some (.ref fd)) (cc4 : News h₀ L h' ((fd,fo) :: (c1,oc) :: (c2,co) :: rest)) (cc5 : co.data = .cell (some (.ref rb))) (cc6 : (cl,listOf vs.toArray n) ∈ rest) (cc7 : RowAt rest ra ts rel bp bq) (cc8 : RowAt rest rb (ts.map negT) (negRel rel) (-bp) bq) (cc9 : ∀ q ∈ rest,AllNe q.1 [(fd,fo),(c1,oc),(c2,co)]) : RowB w fd cl c1 c2 ra vs n fo oc ts rel bp bq h₀ L s s'
theorem negRel_of {rel : Str} {b : Bool} (h : RelOk rel) (hn : rel ≠ Str.ofString "=") (hb : (rel == Str.ofString "<") = b) : negRel rel = if b = true then Str.ofString "<=" else Str.ofString "<" := by
  subst hb
  rcases h with e | e | e
  · subst e;decide +kernel
  · subst e;decide +kernel
  · exact absurd e hn
theorem negRel_two {rel : Str} (h : RelOk rel) (hn : rel ≠ Str.ofString "=") : negRel (negRel rel) = rel := by
  rcases h with e | e | e
  · subst e;decide +kernel
  · subst e;decide +kernel
  · exact absurd e hn
theorem negRel_ne (rel : Str) : negRel rel ≠ Str.ofString "=" := by
  unfold negRel
  split <;> decide +kernel
inductive RowC (fd : Addr) (cl : Addr) (c1 : Addr) (c2 : Addr) (ra : Addr) (rb : Addr) (vs : List Value) (n : Nat) (fo : Obj) (oc : Obj) (ts : List Term3) (rel : Str) (bp : Int) (bq : Int) (h₀ : Heap) (L : Addr) (s : Shared) (s' : Shared) : Prop
  | mk (h' : Heap) (tk' : Nat) (m' : Mp) (hB : Addr) (ys : List Value) (co : Obj) (rest : Led) (cc1 : s' = { s with heap := h',toks := tk' }) (cc2 : Fr h₀ L h' m') (cc3 : m' (Str.ofString "feed") = some (.ref fd)) (cc4 : m' (Str.ofString "contrary") = some (.ref hB)) (cc5 : News h₀ L h' ((fd,fo) :: (c1,oc) :: (c2,co) :: rest)) (cc6 : co.data = .cell (some (.ref rb))) (cc7 : (cl,listOf vs.toArray n) ∈ rest) (cc8 : RowAt rest ra ts rel bp bq) (cc9 : RowAt rest rb (ts.map negT) (negRel rel) (-bp) bq) (cc10 : (hB,tup ys) ∈ rest) (cc11 : TermsIn rest ys (ts.map negT)) (cc12 : ∀ q ∈ rest,AllNe q.1 [(fd,fo),(c1,oc),(c2,co)]) : RowC fd cl c1 c2 ra rb vs n fo oc ts rel bp bq h₀ L s s'
section
theorem g5.on5 : True := trivial
open g5
theorem set_27 : True := by
  k_with "!eval ListComp" => ((fail_if_success(fail_if_success have:=on5));(k_here;(with_reducible show wpAny _ _ (eval (Expr.ListComp _ [⟨_,_,[_],0⟩] _ _) _) _ _ _);refine stop_at ?_))
  k_with "!call ref" => ((fail_if_success(fail_if_success have:=on5));(k_here;(with_reducible show wpAny _ _ (call (Value.ref 862) _) _ _ _);refine stop_at ?_))
  k_with "!call ref" => ((fail_if_success(fail_if_success have:=on5));(k_here;(with_reducible show wpAny _ _ (call (Value.ref 857) _) _ _ _);refine stop_at ?_))
  exact trivial
theorem rowr_spec (w : World) {fd cl : Addr} {o : Obj} {vs : List Value} {n : Nat} {sp : Int} (hc : Cells fd vs) (hf : Feed w cl sp o) (hs : 0 ≤ sp) (hs2 : sp ≤ 800) :
    Spec w 867 [.ref fd] 8 200 [(fd,o),(cl,listOf vs.toArray n)] fun r led' => ∃ (o' : Obj) (sp' : Int),r = .bool true ∧ Feed w cl sp' o' ∧ sp ≤ sp' ∧ sp' ≤ sp + 30 ∧ (fd,o') ∈ led' ∧ (cl,listOf vs.toArray n) ∈ led' := by
  apply bx;simp(disch:=k_dflt(
  unfold Spec
  intro dp un gd cn cs a₁ ccd ce outer A₀ base h₀ L m mean mg mb s Q E B F X N T hk hd hu hret
  have hne : cl ≠ fd := by
    refine x1_1 hf ?_;(try clear hf)
    intro t hf
    exact dict_ne N (.head _) (.tail _ (.head _)) hf
  k_dflt (apply call_atC (binds := [(Str.ofString "feed",Value.ref fd)]));k_extra "H:ktr_rest"
  rename_i g₁ L₁ h₁ tk₁ FG₁ F₁ X₁ T₁ z₁ co cr d₁ d₂
  have cco := cell_nt d₁
  with_reducible refine execs_cutS 3 (RowA w fd cl (L₁ + 1) (L₁ + 1 + 1) vs n sp g₁ L₁ s) ?cutA ?cutB
  case cutA =>
    dsimp only [List.take]
    (try k_fold)
    k_steps
    refine stop_go ?_
    (try k_extra "H:folds")
    refine row_go (by assumption) ⟨by assumption,by assumption⟩ (by assumption) (by assumption) (by assumption) rfl rfl ⟨by k_ne,by k_ne,by k_ne,by k_ne,trivial⟩ ?step ?fin rfl
    case step =>
      intro I it i v t h tk q1 t1 o' ys ts ny sp' rest j1 j2 j3 j4 j5 j6 j8 j9 j10 j11 j12 j13 j14 j15 F1 N1
      have j17 : ys.toArray.size ≤ sizeLine := by rw [List.size_toArray,j8.length,sizeLine_eq];have := j10.1;omega
      have j18 := j10.1
      k_steps
      · refine row_turn (_ :: _ :: rest) (by assumption) (by assumption) (by k_mem) (by k_mem) (by k_mem) (sub_cons (by k_mem) (sub_cons (by k_mem) sub_nil)) (List.push_toArray ..) (List.forall_mem_cons.mpr ⟨⟨by k_mem,by k_ne,by k_ne,by k_ne,by k_ne,by k_ne,trivial⟩,List.forall_mem_cons.mpr ⟨⟨by k_mem,by k_ne,by k_ne,by k_ne,by k_ne,by k_ne,trivial⟩,fun p hp => ⟨.tail _ (.tail _ (.tail _ (.tail _ (.tail _ (.tail _ (.tail _ hp)))))),by exact j14 p hp⟩⟩⟩) ⟨by k_ne,by k_ne,by k_ne,by k_ne,trivial⟩ (by assumption) (by omega) (by omega) (sub_tail (sub_tail sub_refl) _ j6) ((j8.mono (sub_tail (sub_tail sub_refl))).snoc (.head _) (.tail _ (.head _))) ?_ ?_ ?_
        · rw [List.length_append];exact Nat.succ_le_succ j9
        · refine ⟨by rw [List.length_append,List.length_singleton];omega,fun t ht => ?_⟩
          rcases List.mem_append.mp ht with ht | ht
          · exact j10.2 t ht
          · obtain rfl := List.mem_singleton.mp ht
            dsimp only
            omega
        · intro t ht
          rcases List.mem_append.mp ht with ht | ht
          · have := j11 t ht;omega
          · obtain rfl := List.mem_singleton.mp ht
            dsimp only
            omega
      · refine row_turn rest (by assumption) (by assumption) (by k_mem) (by k_mem) (by k_mem) (sub_cons (by k_mem) (sub_cons (by k_mem) sub_nil)) rfl (fun p hp => ⟨.tail _ (.tail _ (.tail _ (.tail _ (.tail _ (.tail _ hp))))),by exact j14 p hp⟩) ⟨by k_ne,by k_ne,by k_ne,by k_ne,trivial⟩ (by assumption) (by omega) (by omega) j6 j8 (by omega) j10 (fun t ht => by have := j11 t ht;omega)
    case fin =>
      intro h tk q1 t1 o' ys ts ny sp' rest j1 j2 j3 j4 j5 j6 j7 j8 j9 j10 j11 F1 N1
      have j12 : ys.length ≤ 16384 := by rw [j5.length];have := j6.1;omega
      k_steps
      rename (_ : Int) < 3 => hq3
      rename (0 : Int) ≤ _ => hq0
      rcases three_cases hq0 hq3 with e | e | e <;> subst e
      all_goals k_steps
      all_goals
        refine stop_go ?_
        (try k_extra "H:folds")
        rename_i bb bp bq tp tq fo h5 tk5 aN aF b1 b2 b3 b4 ra h6 _ l6 h7 oc F7 N7 d7
        have R7 := rowAt_of (ra := ra) (bp := bp) (bq := bq) N7 (by k_mem) (by k_mem) (by k_mem) (j5.mono (by intro p hp;repeat first | exact hp | refine List.mem_cons_of_mem _ ?_))
        refine x1_5 (compress N7 [(fd,fo),(L₁ + 1,oc),(L₁ + 1 + 1,co)] (sub_cons (by k_mem) (sub_cons (by k_mem) (sub_cons (by k_mem) sub_nil))) (nt_cons (feed_nt aF) (nt_cons (cell_nt d7) (nt_cons cco nt_nil)))) ?_
        intro rest2 N9 k1 k2 k3 k4
        exact ⟨rfl,_,_,_,fo,_,ra,ts,_,bp,bq,oc,co,rest2,rfl,by assumption,by with_unfolding_all rfl,N9,d7,⟨_,d₁⟩,aF,by omega,by omega,k3 (cl,listOf vs.toArray n) (by k_mem) ⟨by k_ne,by k_ne,by k_ne,trivial⟩,R7.tmono k1,j6,by first | exact .inl rfl | exact .inr (.inl rfl) | exact .inr (.inr rfl),b1,b2,b3,b4,k2⟩
  case cutB =>
    intro sCut hCut
    (try k_fold)
    obtain ⟨h2,tk2,m2,fo,sp2,ra,ts,rel,bp,bq,oc,co,rest,rfl,F2,mf,N2,dR,⟨xO,dO⟩,hf2,s1,s2,hcl2,R2,hok,hrel,b1,b2,b3,b4,off⟩ := hCut
    dsimp only [List.drop]
    (try k_fold)
    with_reducible refine execs_cutS 1 (RowO fd cl (L₁ + 1) (L₁ + 1 + 1) ra vs n fo oc ts rel bp bq g₁ L₁ s) ?cutO ?cutP
    case cutO =>
      dsimp only [List.take]
      (try k_fold)
      refine x5_3 (id R2) ?_
      intro ta ba tr t5 t6 m1 m2' zq3
      refine x1_2 zq3 ?_;(try clear zq3)
      intro vs2 m3 hT
      k_steps
      k_dflt (refine' negrow_use (ts := ts) (bp := bp) (bq := bq) (rel := rel) ?S ?zh ?_;(case S => exact ⟨by k_asm,by k_asm,by k_asm,by k_asm,by k_asm,by first | exact rfl | assumption,by ktr_room,by ktr_units⟩);(case zh => exact ⟨by k_mem,by k_mem,⟨vs2,by k_mem,hT.mono (by intro p hp;repeat first | exact hp | refine List.mem_cons_of_mem _ ?_)⟩,hok.1,hrel⟩);k_whole)
      intro v8 led8 h8 tk8 F8 A8 s8 hv8
      refine x1_5 (compress A8.news [(fd,fo),(L₁ + 1,oc),(L₁ + 1 + 1,co)] (sub_cons (s8 _ (by k_mem)) (sub_cons (s8 _ (by k_mem)) (sub_cons (s8 _ (by k_mem)) sub_nil))) (nt_cons (feed_nt hf2) (nt_cons (cell_nt dR) (nt_cons (cell_nt dO) nt_nil)))) ?_
      intro rest2 N9 k1 k2 k3 k4
      have sT : TSub rest rest2 := fun a vs h => k1 a vs (s8 _ (.tail _ (.tail _ (.tail _ h))))
      dsimp only [List.cons_append,List.nil_append] at N9
      k_steps
      refine stop_go ⟨rfl,_,_,_,v8,_,rest2,rfl,by assumption,mf,by assumption,by assumption,k3 _ (s8 (cl,listOf vs.toArray n) (.tail _ (.tail _ (.tail _ hcl2)))) (off _ hcl2),R2.tmono sT,?_,off3c k2⟩
      split
      · rename_i he;rw [if_pos he] at hv8;exact hv8
      · rename_i he;rw [if_neg he] at hv8;exact let ⟨rb,e,R⟩ := hv8;⟨rb,e,R.tmono k1⟩
    case cutP =>
      intro sCut hCut
      (try k_fold)
      obtain ⟨h3,tk3,m3,v3,co3,rest2,rfl,F3,mf3,N3,dO3,hcl3,R3,hv3,off3⟩ := hCut
      dsimp only [List.drop]
      (try k_fold)
      clear R2 hcl2 off N2 F2 mf dO
      refine x5_3 (id R3) ?_
      intro ta ba tr t5 t6 q1 q2 zq4
      refine x1_2 zq4 ?_;(try clear zq4)
      intro vs2 q3 hT
      by_cases he : rel = Str.ofString "="
      case pos =>
        subst he
        rw [if_pos rfl] at hv3
        subst hv3
        k_steps
        exact hret _ _ _ _ (by assumption) (after_of (by assumption) (by assumption) (by assumption) (by assumption)) ⟨fo,sp2,rfl,hf2,s1,by omega,by k_mem,by k_mem⟩
      case neg =>
        rw [if_neg he] at hv3
        refine x1_2 hv3 ?_;(try clear hv3)
        intro rb
        rintro rfl
        intro R8
        with_reducible refine execs_cutS 3 (RowB w fd cl (L₁ + 1) (L₁ + 1 + 1) ra vs n fo oc ts rel bp bq g₁ L₁ s) ?cutC ?cutD
        case cutC =>
          dsimp only [List.take]
          (try k_fold)
          have he2 : (rel == Str.ofString "=") = false := beq_eq_false_iff_ne.mpr he
          have hvl := hT.length
          have hsz : vs2.length ≤ sizeLine := by rw [sizeLine_eq];have := hok.1;omega
          with_reducible refine execs_cutS 2 (RowC fd cl (L₁ + 1) (L₁ + 1 + 1) ra rb vs n fo oc ts rel bp bq g₁ L₁ s) ?cutE ?cutF
          case cutE =>
            dsimp only [List.take]
            (try k_fold)
            k_steps
            refine' pairs_inv0 (fun l₀ i ys led => (∀ p ∈ l₀,p ∈ led) ∧ TermsIn led ys ((ts.take i).map negT)) ⟨sub_refl,.nil⟩ ?step2 ?fin2
            case step2 =>
              intro i ys led v zq5 hv
              refine (let pk := _;(?_ : PairStep _ _ pk))
              refine x0_2 zq5 ?_;(try clear zq5)
              intro hs hT'
              refine x6_4 (hT.at hv) ?_
              intro a b t ti tp tq e1 e2 g1 g2
              have g3 := hs _ (by k_mem : (a,tup [.int t.1 ti,.ref b]) ∈ _)
              have g4 := hs _ (by k_mem : (b,tup [.int t.2.1 tp,.int t.2.2 tq]) ∈ _)
              have g5 := hs _ (by k_mem : (ta,tup vs2) ∈ _)
              have j6' := hok.2 t (List.mem_of_getElem? e2)
              refine ⟨a,_,_,e1,g3,?_⟩
              intro I oI C oC D m₂ h tk E' hC hx1 hx2 F1 N1 off
              k_steps
              refine stop_go ?_
              (try k_extra "H:folds")
              exact compEnd_two (by assumption) (by assumption) off ⟨by k_ne,by k_ne,by k_ne⟩ ⟨by k_ne,by k_ne,by k_ne⟩ (by k_mem) ⟨sub_tail (sub_tail hs),by
                rw [map_take_succ e2]
                exact (hT'.mono (sub_tail (sub_tail sub_refl))).snoc (.head _) (by rw [← Int.zero_sub t.2.1];exact .tail _ (.head _))⟩
            case fin2 =>
              intro ys led zq6
              refine x0_2 zq6 ?_;(try clear zq6)
              intro hs hT'
              rw [hvl,List.take_length] at hT'
              have hyl : ys.length ≤ 16384 := by rw [hT'.length,List.length_map];have := hok.1;omega
              k_steps
              refine stop_go ?_
              (try k_extra "H:folds")
              rename News g₁ L₁ _ _ => NE
              rename (_ ∧ AllLt _ led) => lE
              refine x1_5 (compress NE [(fd,fo),(L₁ + 1,oc),(L₁ + 1 + 1,co3)] (sub_cons (.tail _ (.tail _ (hs _ (by k_mem)))) (sub_cons (.tail _ (.tail _ (hs _ (by k_mem)))) (sub_cons (.tail _ (.tail _ (hs _ (by k_mem)))) sub_nil))) (nt_cons (feed_nt hf2) (nt_cons (cell_nt dR) (nt_cons (cell_nt dO3) nt_nil)))) ?_
              intro rest4 N5 k1 k2 k3 k4
              have sT : TSub rest2 rest4 := fun a vs hq => k1 a vs (.tail _ (.tail _ (hs _ (.tail _ (.tail _ (.tail _ hq))))))
              have sL : TSub led rest4 := fun a vs hq => k1 a vs (.tail _ (.tail _ hq))
              exact ⟨rfl,_,_,_,_,ys,co3,rest4,rfl,by assumption,by (k_extra "H:look"),by with_unfolding_all rfl,N5,dO3,k3 _ (.tail _ (.tail _ (hs _ (.tail _ (.tail _ (.tail _ hcl3)))))) (off3 _ hcl3),R3.tmono sT,R8.tmono sT,k1 _ _ (.head _),hT'.tmono sL,k2⟩
          case cutF =>
            intro sCut hCut
            (try k_fold)
            obtain ⟨h4,tk4,m4,hB,ys,co4,rest4,rfl,F4,mf4,mc4,N4,dO4,hcl4,Ra,Rb,g1,g2,off4⟩ := hCut
            dsimp only [List.drop]
            (try k_fold)
            clear R3 hcl3 off3 N3 F3 mf3 hT hsz hvl q1 q2 q3 R8
            refine x5_3 (id Ra) ?_
            intro ta4 ba4 tr4 t54 t64 q1 q2 zq7
            refine x1_2 zq7 ?_;(try clear zq7)
            intro vs4 q3 hT4
            k_steps
            all_goals
              rename (rel == Str.ofString "<") = _ => hb
              rename News g₁ L₁ _ _ => NE
              rename_i D3 hD _ lD D4 hE _ FE lE
              have R4 := rowAt_to NE Rb fun a vs hq => .tail _ (.tail _ (.tail _ (.tail _ (.tail _ hq))))
              have R3 := rowAt_of (ra := D4) (bp := 0 - bp) (bq := bq) NE (by k_mem) (by k_mem) (by k_mem) (g2.mono (by intro p hp;repeat first | exact hp | refine List.mem_cons_of_mem _ ?_))
              have hr := negRel_of hrel he hb
              first | rw [if_pos rfl] at hr | rw [if_neg (by decide)] at hr
              k_dflt (refine dat_ne NE R4.dat R3.dat (rowD_ok (negRel_ok rel)) (rowD_ok (by first | exact .inl rfl | exact .inr (.inl rfl))) (by ktr_units) (fun e0 => ?_) (fun n => absurd (by rw [hr,Int.zero_sub]) n))
              clear R3 R4
              k_steps
              refine x5_3 (id Rb) ?_
              intro tb4 bb4 tr5 t55 t65 p4 p5 p6
              k_dflt (refine negrow_use (ts := ts.map negT) (bp := -bp) (bq := bq) (rel := negRel rel) ⟨by k_asm,by k_asm,by k_asm,by k_asm,by k_asm,by first | exact rfl | assumption,by ktr_room,by ktr_units⟩ ⟨by k_mem,by k_mem,p6.mono (by intro p hp;repeat first | exact hp | refine List.mem_cons_of_mem _ ?_),by rw [List.length_map];exact hok.1,negRel_ok rel⟩ ?_)
              intro v10 led10 h10 tk10 F10 A10 s10 hv10
              rw [if_neg (negRel_ne rel)] at hv10
              refine x1_2 hv10 ?_;(try clear hv10)
              intro rc
              rintro rfl
              intro R10
              have N10 := A10.news
              have sT : ∀ p ∈ rest4,p ∈ led10 := fun p hp => s10 p (.tail _ (.tail _ (.tail _ (.tail _ (.tail _ hp)))))
              have R11 := rowAt_to N10 Ra fun a vs hq => sT _ hq
              have q4 := sT _ q1
              have q5 := s10 (L₁ + 1,oc) (by k_mem)
              have q6 := s10 (L₁ + 1 + 1,co4) (by k_mem)
              have q7 := s10 (fd,fo) (by k_mem)
              k_steps
              k_dflt (refine dat_ne N10 R10.dat R11.dat (rowD_ok (negRel_ok _)) (rowD_ok hrel) (by ktr_units) (fun e0 => ?_) (fun n => absurd (by rw [negRel_two hrel he,negT_negT,Int.neg_neg]) n))
              clear R11
              k_steps
              refine stop_go ?_
              (try k_extra "H:folds")
              refine x1_5 (compress N10 [(fd,fo),(L₁ + 1,oc),(L₁ + 1 + 1,co4)] (sub_cons q7 (sub_cons q5 (sub_cons q6 sub_nil))) (nt_cons (feed_nt hf2) (nt_cons (cell_nt dR) (nt_cons (cell_nt dO4) nt_nil)))) ?_
              intro rest5 N5 k1 k2 k3 k4
              have sU : TSub rest4 rest5 := fun a vs hq => k1 a vs (sT _ hq)
              exact ⟨rfl,_,_,_,rb,co4,rest5,rfl,by assumption,by assumption,N5,dO4,k3 _ (sT _ hcl4) (off4 _ hcl4),Ra.tmono sU,Rb.tmono sU,k2⟩
        case cutD =>
          intro sCut hCut
          (try k_fold)
          obtain ⟨h4,tk4,m4,rb,co4,rest4,rfl,F4,mf4,N4,dO4,hcl4,Ra,Rb,off4⟩ := hCut
          dsimp only [List.drop]
          (try k_fold)
          refine x5_3 (id Ra) ?_
          intro ta4 ba4 tr4 t54 t64 p1 p2 p3
          refine x5_3 (id Rb) ?_
          intro tb4 bb4 tr5 t55 t65 p4 p5 p6
          k_steps
          refine stop_go ?_
          (try k_extra "H:folds")
          k_dflt (refine LCt.ListComp_T (F₀ := by k_asm) (by with_unfolding_all rfl) (by decide) (by rfl) (by decide) (by rfl) ?_)
          k_steps
          refine stop_go ?_
          (try k_extra "H:folds")
          k_dflt (refine' (points_spec w (fd := fd) (cl := cl) (ra := ra) (ta := ta4) (ba := ba4) (T := rest4) hc hf2 ?ks ?ks2 p3 hok p1 p2 hcl4 ?kfd ⟨b1,b2,b3,b4⟩).use ?S ?zh ?_;(case S => exact ⟨by k_asm,by k_asm,by k_asm,by k_asm,by k_asm,by first | exact rfl | assumption,by ktr_room,by ktr_units⟩))
          case ks => omega
          case ks2 => omega
          case kfd => k_all
          case zh => exact sub_cons (by k_mem) (fun p hp => .tail _ (.tail _ (.tail _ hp)))
          intro r5 led5 h5 tk5 F5 A5 zq8
          obtain ⟨lf,refs,nf,o5,sp5,T5,rfl,rfl,t1,hf5,u1,u2,hpts,hlen,off5,nl⟩ := zq8
          obtain ⟨N5,d5⟩ := A5.frame (ms := [(L₁ + 1,oc),(L₁ + 1 + 1,co4)]) (fun p hp => N4 p (.tail _ (by
            rcases List.mem_cons.mp hp with h | h
            · rw [h];exact .head _
            · rw [List.mem_singleton.mp h];exact .tail _ (.head _)))) (fun p hp q hq => by
            rcases List.mem_cons.mp hp with rfl | h
            · rcases List.mem_cons.mp hq with rfl | hq
              · k_ne
              · exact off_all off4 ⟨_,by k_mem⟩ q hq
            · rw [List.mem_singleton.mp h]
              rcases List.mem_cons.mp hq with rfl | hq
              · k_ne
              · exact off_all off4 ⟨_,by k_mem⟩ q hq)
          dsimp only [List.cons_append,List.nil_append] at N5
          have p1 := t1 _ p1
          have p2 := t1 _ p2
          have p3 := p3.mono t1
          have p4 := t1 _ p4
          have p5 := t1 _ p5
          have p6 := p6.mono t1
          have hcl5 := t1 _ hcl4
          have hrz : refs.toArray.size ≤ sizeLine := by rw [List.size_toArray,sizeLine_eq];omega
          refine LCt.CompSrcT.ledger (its := refs.toArray) (k := nf) (by rfl) F5 N5 (by k_mem) hrz fun g => comp_none (fun l₀ l => l = l₀) rfl ?step3 ?fin3
          case step3 =>
            rintro i led v hi rfl hv I oI C oC D m₂ h tk E' hC hx F6 N6 off6 ne6
            refine x4_5 (hpts v (List.mem_of_getElem? (by simpa using hv))) ?_
            intro pt ws np xs
            rintro rfl
            intro g1 g2 g3 g4
            k_steps
            refine stop_go ?_
            (try k_extra "H:folds")
            k_dflt (refine' keeps_use (ra := ra) (ta := ta4) (ba := ba4) (rel := rel) (bp := bp) (bq := bq) (S := sixOf xs ts) ?S ?zh ?_;(case S => exact ⟨by k_asm,by k_asm,by k_asm,by k_asm,by k_asm,by first | exact rfl | assumption,by ktr_room,by ktr_units⟩);(case zh => exact ⟨by k_mem,by k_mem,hrel,fun Z ret => six_use Z ⟨p3.mono (by intro p hp;repeat first | exact hp | refine List.mem_cons_of_mem _ ?_),hok,by k_mem,g2,g3,g4⟩ ret,b3,by omega⟩);k_whole)
            intro h7 tk7 F7 N7
            k_steps
            refine stop_go ?_
            (try k_extra "H:folds")
            k_dflt (refine' keeps_use (ra := rb) (ta := tb4) (ba := bb4) (rel := negRel rel) (bp := -bp) (bq := bq) (S := sixOf xs (ts.map negT)) ?S ?zh ?_;(case S => exact ⟨by k_asm,by k_asm,by k_asm,by k_asm,by k_asm,by first | exact rfl | assumption,by ktr_room,by ktr_units⟩);(case zh => exact ⟨by k_mem,by k_mem,negRel_ok rel,fun Z ret => six_use Z ⟨p6.mono (by intro p hp;repeat first | exact hp | refine List.mem_cons_of_mem _ ?_),okay_neg hok,by k_mem,g2,g3,g4⟩ ret,b3,by omega⟩);k_whole)
            intro h8 tk8 F8 N8
            k_steps
            refine stop_go ⟨?_,compEnd_none (by k_asm) (by k_asm) off6 (by lcg_src) rfl⟩
            rw [sixOf_neg fun t ht => ⟨(hok.2 t ht).2.2.2.2.1,(hok.2 t ht).2.2.2.2.2.1⟩]
            exact keeps_opp hrel he
          case fin3 =>
            rintro led rfl
            k_steps
            exact hret _ _ _ _ (by assumption) (after_of (by assumption) (by assumption) (by assumption) (by assumption)) ⟨o5,sp5,rfl,hf5,by omega,by omega,by k_mem,by k_mem⟩
  ))only[↓bx_eq]
end
end
section
section
variable {prog : Program} {w : World} {A : Around} {E : Value → Shared → Prop} {s : Shared}
noncomputable def HashGives (prog : Program) (w : World) (n : Nat) (h : Heap) (v : Value) (p : Int × Nat) : Prop :=
  ∀ {A : Around} {E : Value → Shared → Prop} {s : Shared} {Q : Int → Shared → Prop},s.heap = h → A.units + n < cLine → Q p.1 { s with toks := s.toks + p.2 } → wpAny (model prog w) A (pyHash v) Q E s
inductive HashAll (prog : Program) (w : World) (n : Nat) (h : Heap) : List Value → List (Int × Nat) → Prop
  | nil : HashAll prog w n h [] []
  | cons {v p vs ps} : HashGives prog w n h v p → HashAll prog w n h vs ps → HashAll prog w n h (v :: vs) (p :: ps)
noncomputable def drawsOf (ps : List (Int × Nat)) : Nat := (ps.map (·.2)).sum
theorem drawsOf_snoc (ps : List (Int × Nat)) (p : Int × Nat) : drawsOf (ps ++ [p]) = drawsOf ps + p.2 := by simp [drawsOf]
noncomputable def tupHash (ps : List (Int × Nat)) : Int := reduceHash (Builtin.Tuple.tupleHashOf (ps.map (·.1)))
theorem pyHash_items {k : Nat} {a : Addr} {items : List Value} {ps : List (Int × Nat)} {Q : Int → Shared → Prop} (hu : A.units + (k + 4) < cLine) (ha : IsTup s.heap a items.toArray) (hi : HashAll prog w k s.heap items ps)
    (h : Q (tupHash ps) { s with toks := s.toks + (drawsOf ps + 1) }) : wpAny (model prog w) A (pyHash (.ref a)) Q E s := by
  have hT := ha.typeIs
  refine x1_3 ha ?_;(try clear ha)
  intro o ho _ zq1
  refine x1_1 zq1 ?_;(try clear zq1)
  intro n hd
  unfold pyHash
  first | unfold pyHashByItsType | skip
  first | refine wpAny_bind (wpAny_cRoomFor_or (.inr (by omega)) ?_) | skip
  refine wpAny_bind (wpAny_specialOf hT F.slot_tuple_hash.lookup ?_)
  show wpAny _ _ (if (some (Value.builtin "tuple.__hash__") == some Value.none) = true then _ else _) Q E s
  rw [if_neg (by rw [beq_builtin_none];exact Bool.false_ne_true)]
  refine wpAny_bind (wpAny_specialOf hT F.slot_tuple_hash.lookup ?_)
  show wpAny _ _ (callSpecialIfBoundUnlessNone? (.ref a) "__hash__" _ >>= _) Q E s
  refine wpAny_bind (wpAny_callSpecialIfBoundUnlessNone?_slot hT F.slot_tuple_hash (wpAny_call_entry F.slot_tuple_hash hT F.entry_tuple_hash ?_ (F.args_tuple_hash_1 _)))
  show wpAny _ _ (Builtin.Tuple.tupleItemsOf (.ref a) >>= _) _ _ s
  refine wpAny_bind (wpAny_tupleItemsOf ho hd ?_)
  refine wpAny_bind ?_
  rw [← Array.forIn_toList]
  refine wpAny_forIn_list _
    (fun rest (b : Array Int) s' => ∃ done left,ps = done ++ left ∧ HashAll prog w k s.heap rest left ∧ b.toList = done.map (·.1) ∧ s' = { s with toks := s.toks + drawsOf done })
    _ ?_ ?_ _ _ ⟨[],ps,rfl,hi,rfl,rfl⟩
  · intro x rest b s' zq2
    refine x2_4 zq2 ?_;(try clear zq2)
    intro done left
    rintro rfl
    intro hl hb
    rintro rfl
    cases hl with
    | @cons _ p _ ps' h1 hl' =>
      refine wpAny_bind (h1 rfl (by simp only [units_in1];omega) ?_)
      have e : s.toks + drawsOf done + p.2 = s.toks + drawsOf (done ++ [p]) := by rw [drawsOf_snoc,Nat.add_assoc]
      first
        | exact wpAny_pure ⟨done ++ [p],ps',by simp,hl',by simp [hb],by simp [e]⟩
        | exact wpAny_bind (wpAny_pure (wpAny_pure ⟨done ++ [p],ps',by simp,hl',by simp [hb],by simp [e]⟩))
  · intro b s' zq3
    refine x2_4 zq3 ?_;(try clear zq3)
    intro done left
    rintro rfl
    intro hl hb
    rintro rfl
    cases hl
    rw [List.append_nil] at h
    show wpAny _ _ (retInt (Builtin.Tuple.tupleHashOf b.toList)) _ _ _
    rw [hb]
    refine wpAny_ret_mkInt ?_
    show wpAny _ _ (if (decide (-(2 : Int) ^ 63 ≤ Builtin.Tuple.tupleHashOf (done.map (·.1))) && decide (Builtin.Tuple.tupleHashOf (done.map (·.1)) < 2 ^ 63)) = true then _ else _) Q E _
    unfold tupHash reduceHash at h
    by_cases hr : (decide (-(2 : Int) ^ 63 ≤ Builtin.Tuple.tupleHashOf (done.map (·.1))) && decide (Builtin.Tuple.tupleHashOf (done.map (·.1)) < 2 ^ 63)) = true
    · rw [if_pos hr]
      rw [if_pos hr] at h
      exact wpAny_pure (by simpa [Nat.add_assoc] using h)
    · rw [if_neg hr]
      rw [if_neg hr] at h
      exact wpAny_bind (wpAny_rule (wpAny_pure (by simpa [Nat.add_assoc] using h)))
noncomputable def EqGives (prog : Program) (w : World) (n : Nat) (h : Heap) (u v : Value) (b : Bool) : Prop :=
  ∀ {A : Around} {E : Value → Shared → Prop} {s : Shared} {Q : Bool → Shared → Prop},s.heap = h → A.units + n < cLine → Q b s → wpAny (model prog w) A (eqBool u v) Q E s
inductive EqAll (prog : Program) (w : World) (n : Nat) (h : Heap) : List Value → List Value → Bool → Prop
  | nil : EqAll prog w n h [] [] true
  | left {v vs} : EqAll prog w n h [] (v :: vs) false
  | right {u us} : EqAll prog w n h (u :: us) [] false
  | stop {u v us vs} : EqGives prog w n h u v false → EqAll prog w n h (u :: us) (v :: vs) false
  | go {u v us vs b} : EqGives prog w n h u v true → EqAll prog w n h us vs b → EqAll prog w n h (u :: us) (v :: vs) b
theorem eq_items_tree {k : Nat} {a b : Addr} {us vs : List Value} {r : Bool} {P : Fin → Shared → Prop} (hu : A.units + k < cLine) (ha : IsTup s.heap a us.toArray) (hb : IsTup s.heap b vs.toArray) (he : EqAll prog w k s.heap us vs r) (h : P (.done (.ret (.bool r))) s) :
    wpAny (model prog w) A (Builtin.«tuple.__eq__» ⟨[.ref a,.ref b],[]⟩) P E s := by
  have hTb := hb.typeIs
  refine x1_3 ha ?_;(try clear ha)
  intro oa hoa _ zq4
  refine x1_1 zq4 ?_;(try clear zq4)
  intro na hda
  refine x1_3 hb ?_;(try clear hb)
  intro ob hob _ zq5
  refine x1_1 zq5 ?_;(try clear zq5)
  intro nb hdb
  show wpAny _ _ (isInstance (.ref b) (.type "tuple") >>= _) _ _ s
  refine wpAny_bind (wpAny_isInstance hTb isSubtype_tuple_tuple ?_)
  rw [if_neg (by decide)]
  refine wpAny_bind (wpAny_tupleItemsOf hoa hda ?_)
  refine wpAny_bind (wpAny_tupleItemsOf hob hdb ?_)
  refine wpAny_bind ?_
  refine wpAny_forIn_list _
    (fun rest r' s' => r'.1 = none ∧ s' = s ∧ ∃ us' vs',rest = List.zip us' vs' ∧ EqAll prog w k s.heap us' vs' r ∧ (us'.length == vs'.length) = (us.length == vs.length))
    _ ?_ ?_ _ _ ⟨rfl,rfl,us,vs,by simp,he,rfl⟩
  · intro zq6
    obtain ⟨u,v⟩ := zq6
    intro rest r' s' zq7
    refine x0_3 zq7 ?_;(try clear zq7)
    intro hr
    rintro rfl
    intro zq8
    refine x2_3 zq8 ?_;(try clear zq8)
    intro us' vs' hz he' hl
    cases he' with
    | nil => simp at hz
    | left => simp at hz
    | right => simp at hz
    | stop h1 =>
      simp only [List.zip_cons_cons,List.cons.injEq,Prod.mk.injEq] at hz
      refine x0_2 hz ?_;(try clear hz)
      intro zq9
      refine x0_2 zq9 ?_;(try clear zq9)
      rintro rfl
      rintro rfl
      rintro rfl
      refine wpAny_bind (h1 rfl hu ?_)
      rw [if_pos (by decide)]
      exact wpAny_bind (wpAny_pure (wpAny_pure (wpAny_pure h)))
    | go h1 he'' =>
      simp only [List.zip_cons_cons,List.cons.injEq,Prod.mk.injEq] at hz
      refine x0_2 hz ?_;(try clear hz)
      intro zq10
      refine x0_2 zq10 ?_;(try clear zq10)
      rintro rfl
      rintro rfl
      rintro rfl
      refine wpAny_bind (h1 rfl hu ?_)
      rw [if_neg (by decide)]
      exact wpAny_pure ⟨rfl,rfl,_,_,rfl,he'',by simpa using hl⟩
  · intro zq11
    obtain ⟨r1,r2⟩ := zq11
    intro s' zq12
    refine x0_3 zq12 ?_;(try clear zq12)
    intro hr
    rintro rfl
    intro zq13
    refine x2_3 zq13 ?_;(try clear zq13)
    intro us' vs' hz he' hl
    dsimp only at hr
    subst hr
    refine wpAny_pure ?_
    show P (.done (.ret (.bool (us.toArray.size == vs.toArray.size)))) s'
    have : (us.toArray.size == vs.toArray.size) = r := by
      rw [List.size_toArray,List.size_toArray,← hl]
      cases he' with
      | nil => simp
      | left => simp
      | right => simp
      | stop _ => simp at hz
      | go _ _ => simp at hz
    rw [this];exact h
theorem eqBool_items {k : Nat} {a b : Addr} {us vs : List Value} {r : Bool} {Q : Bool → Shared → Prop} (hu : A.units + (k + 4) < cLine) (ha : IsTup s.heap a us.toArray) (hb : IsTup s.heap b vs.toArray) (he : EqAll prog w k s.heap us vs r) (hab : a = b → r = true) (h : Q r s) :
    wpAny (model prog w) A (eqBool (.ref a) (.ref b)) Q E s := by
  unfold eqBool
  try with_reducible refine wpAny_holding ?_
  show wpAny _ _ (if (Value.ref a == Value.ref b) = true then _ else _) Q E s
  by_cases hq : (Value.ref a == Value.ref b) = true
  · rw [if_pos hq]
    have e : a = b := by have := eq_of_beq hq;injection this
    rw [hab e] at h
    exact wpAny_bind (wpAny_rule (wpAny_pure h))
  · rw [if_neg hq]
    exact wpAny_bind (wpAny_richCompare_same_room (op := .Eq) ha.typeIs hb.typeIs F.slot_tuple_eq
      (wpAny_call_entry F.slot_tuple_eq ha.typeIs F.entry_tuple_eq (eq_items_tree (by simp only [units_in1];omega) ha hb he ⟨_,rfl,(fun e => nomatch e),wpAny_truthy_bool h⟩) (F.args_tuple_eq_2 _ _)) (by omega))
end
inductive KD
  | int (i : Int)
  | pair (p q : Int)
deriving DecidableEq
structure TRec where
  op : Str
  args : List Int
  sort : Int
  data : KD
deriving DecidableEq
section
variable {prog : Program} {w : World}
noncomputable def KDAt (h : Heap) (d : KD) (v : Value) : Prop :=
  match d with
  | .int i => ∃ t,v = .int i t
  | .pair p q => ∃ a t1 t2,v = .ref a ∧ IsTup h a (#[.int p t1,.int q t2] : Array Value)
theorem isTup_fun {h : Heap} {a : Addr} {x y : Array Value} (hx : IsTup h a x) (hy : IsTup h a y) : x = y := by
  refine x1_3 hx ?_;(try clear hx)
  intro o ho _ zq14
  refine x1_1 zq14 ?_;(try clear zq14)
  intro n hd
  refine x1_3 hy ?_;(try clear hy)
  intro o' ho' _ zq15
  refine x1_1 zq15 ?_;(try clear zq15)
  intro n' hd'
  obtain rfl : o = o' := Option.some.inj (ho.symm.trans ho')
  rw [hd] at hd'
  injection hd'
theorem KDAt.inj {h : Heap} {d e : KD} {v : Value} (hd : KDAt h d v) (he : KDAt h e v) : d = e := by
  cases d <;> cases e
  · obtain ⟨t,rfl⟩ := hd
    refine x1_1 he ?_;(try clear he)
    intro u e
    injection e with e;rw [e]
  · obtain ⟨t,rfl⟩ := hd
    refine x3_2 he ?_;(try clear he)
    intro a t1 t2 e _
    cases e
  · refine x3_2 hd ?_;(try clear hd)
    intro a t1 t2
    rintro rfl
    intro _
    refine x1_1 he ?_;(try clear he)
    intro t e
    cases e
  · refine x3_2 hd ?_;(try clear hd)
    intro a t1 t2
    rintro rfl
    intro h1
    refine x3_2 he ?_;(try clear he)
    intro b u1 u2 e h2
    injection e with e
    subst e
    have := isTup_fun h1 h2
    simp only [Array.mk.injEq,List.cons.injEq,Value.int.injEq,and_true] at this
    refine x0_3 this ?_;(try clear this)
    intro zq16
    refine x0_2 zq16 ?_;(try clear zq16)
    rintro rfl
    intro _
    rintro rfl
    intro _
    rfl
noncomputable def KeyAt (h : Heap) (k : TRec) (a : Addr) : Prop :=
  (∃ to aa ts dv vs,IsTup h a (#[.str k.op to,.ref aa,.int k.sort ts,dv] : Array Value) ∧ IsTup h aa (vs : List Value).toArray ∧ IntsAre vs k.args ∧ KDAt h k.data dv) ∧ (k.op = Str.ofString "num" ↔ ∃ p q,k.data = .pair p q)
theorem intsAre_inj {vs : List Value} {a b : List Int} (h : IntsAre vs a) (g : IntsAre vs b) : a = b := by
  induction h generalizing b with
  | nil => cases g;rfl
  | cons _ _ _ ih => cases g with | cons _ _ r => rw [ih r]
theorem KeyAt.inj {h : Heap} {a : Addr} {x y : TRec} (hx : KeyAt h x a) (hy : KeyAt h y a) : x = y := by
  refine x0_2 hx ?_;(try clear hx)
  intro zq17
  refine x5_4 zq17 ?_;(try clear zq17)
  intro to aa ts dv vs h1 h2 h3 h4
  intro _
  refine x0_2 hy ?_;(try clear hy)
  intro zq18
  refine x5_4 zq18 ?_;(try clear zq18)
  intro to' aa' ts' dv' vs' g1 g2 g3 g4
  intro _
  have e := isTup_fun h1 g1
  simp only [Array.mk.injEq,List.cons.injEq,Value.str.injEq,Value.ref.injEq,Value.int.injEq,and_true] at e
  refine x0_4 e ?_;(try clear e)
  intro zq19
  refine x0_2 zq19 ?_;(try clear zq19)
  intro e1 _
  rintro rfl
  intro zq20
  refine x0_2 zq20 ?_;(try clear zq20)
  intro e2 _
  rintro rfl
  have e3 : vs = vs' := by simpa using isTup_fun h2 g2
  subst e3
  have e4 := intsAre_inj h3 g3
  have e5 := h4.inj g4
  obtain ⟨o,ar,so,da⟩ := x
  obtain ⟨o',ar',so',da'⟩ := y
  simp only at e1 e2 e4 e5
  subst e1;subst e2;subst e4;subst e5
  rfl
theorem isTup_but {h h' : Heap} {a d : Addr} {x : Array Value} {o : Obj} {es ep} (ht : IsTup h a x) (ho : h.get? d = some o) (hd : o.data = .dict es ep) (hs : Heap.SameBut d h h') : IsTup h' a x := by
  refine x1_3 ht ?_;(try clear ht)
  intro o' ho' hc zq21
  refine x1_1 zq21 ?_;(try clear zq21)
  intro n hx
  have hne : a ≠ d := by
    rintro rfl
    obtain rfl : o' = o := Option.some.inj (ho'.symm.trans ho)
    rw [hd] at hx;exact nomatch hx
  exact ⟨o',(hs.2 a hne).trans ho',hc,n,hx⟩
theorem KeyAt.keeps {h h' : Heap} {k : TRec} {a d : Addr} {o : Obj} {es ep} (x : KeyAt h k a) (ho : h.get? d = some o) (hd : o.data = .dict es ep) (hs : Heap.SameBut d h h') : KeyAt h' k a := by
  refine x0_2 x ?_;(try clear x)
  intro zq22
  refine x5_4 zq22 ?_;(try clear zq22)
  intro to aa ts dv vs h1 h2 h3 h4
  intro h5
  refine ⟨⟨to,aa,ts,dv,vs,isTup_but h1 ho hd hs,isTup_but h2 ho hd hs,h3,?_⟩,h5⟩
  cases e : k.data with
  | int i => rw [e] at h4;exact h4
  | pair p q =>
    rw [e] at h4
    refine x3_2 h4 ?_;(try clear h4)
    intro b t1 t2
    rintro rfl
    intro g
    exact ⟨b,t1,t2,rfl,isTup_but g ho hd hs⟩
theorem ints_hash {h : Heap} {vs : List Value} {ns : List Int} (hi : IntsAre vs ns) : HashAll prog w 0 h vs (ns.map fun n => (hashInt n,1)) := by
  induction hi with
  | nil => exact .nil
  | cons n t _ ih => exact .cons (fun _ _ hQ => wpAny_pyHash_int hQ) ih
noncomputable def intsP (ns : List Int) : Int × Nat := (tupHash (ns.map fun n => (hashInt n,1)),drawsOf (ns.map fun n => (hashInt n,1)) + 1)
theorem hash_ints {h : Heap} {a : Addr} {vs : List Value} {ns : List Int} (ht : IsTup h a vs.toArray) (hi : IntsAre vs ns) : HashGives prog w 8 h (.ref a) (intsP ns) := fun e hu hQ => by
  subst e
  exact pyHash_items (k := 0) (by omega) ht (ints_hash hi) hQ
noncomputable def kdP : KD → Int × Nat
  | .int i => (hashInt i,1)
  | .pair p q => intsP [p,q]
theorem hash_kd {h : Heap} {d : KD} {v : Value} (hd : KDAt h d v) : HashGives prog w 8 h v (kdP d) := by
  cases d with
  | int i => obtain ⟨t,rfl⟩ := hd;exact fun _ _ hQ => wpAny_pyHash_int hQ
  | pair p q => obtain ⟨a,t1,t2,rfl,ht⟩ := hd;exact hash_ints (vs := [.int p t1,.int q t2]) ht (.cons _ _ (.cons _ _ .nil))
noncomputable def keyPs (w : World) (k : TRec) : List (Int × Nat) := [(hashStr w k.op,1),intsP k.args,(hashInt k.sort,1),kdP k.data]
theorem hash_key {a : Addr} {k : TRec} {A : Around} {E : Value → Shared → Prop} {s : Shared} {Q : Int → Shared → Prop} (hu : A.units + 16 < cLine) (hk : KeyAt s.heap k a) (hQ : Q (tupHash (keyPs w k)) { s with toks := s.toks + (drawsOf (keyPs w k) + 1) }) : wpAny (model prog w) A (pyHash (.ref a)) Q E s := by
  refine x0_2 hk ?_;(try clear hk)
  intro zq23
  refine x5_4 zq23 ?_;(try clear zq23)
  intro to aa ts dv vs h1 h2 h3 h4
  intro _
  exact pyHash_items (k := 8) (items := [.str k.op to,.ref aa,.int k.sort ts,dv]) (by omega) h1 (.cons (fun _ _ hQ => wpAny_pyHash_str hQ) (.cons (hash_ints h2 h3) (.cons (fun _ _ hQ => wpAny_pyHash_int hQ) (.cons (hash_kd h4) .nil)))) hQ
theorem ints_eq {h : Heap} {us vs : List Value} {ms ns : List Int} (hm : IntsAre us ms) (hn : IntsAre vs ns) : EqAll prog w 0 h us vs (decide (ms = ns)) := by
  induction hm generalizing vs ns with
  | nil =>
    cases hn with
    | nil => exact .nil
    | cons _ _ _ => exact .left
  | @cons n t _ ms' hr ih =>
    cases hn with
    | nil => exact .right
    | @cons m u _ ns' hr' =>
      by_cases e : n = m
      · subst e
        have := ih hr'
        rw [show decide (n :: ms' = n :: ns') = decide (ms' = ns') from by simp]
        exact .go (fun _ _ hQ => wpAny_eqBool_int (by simpa using hQ)) this
      · rw [decide_eq_false (by simp [e])]
        exact .stop fun _ _ hQ => wpAny_eqBool_int (by rw [beq_eq_false_iff_ne.mpr e];exact hQ)
theorem eq_ints {h : Heap} {a b : Addr} {us vs : List Value} {ms ns : List Int} (ha : IsTup h a us.toArray) (hb : IsTup h b vs.toArray) (hm : IntsAre us ms) (hn : IntsAre vs ns) : EqGives prog w 8 h (.ref a) (.ref b) (decide (ms = ns)) := fun e hu hQ => by
  subst e
  refine eqBool_items (k := 0) (by omega) ha hb (ints_eq hm hn) (fun e => ?_) hQ
  subst e
  have e : us = vs := by simpa using isTup_fun ha hb
  subst e
  exact decide_eq_true (intsAre_inj hm hn)
theorem eq_kd {h : Heap} {d e : KD} {u v : Value} (hd : KDAt h d u) (he : KDAt h e v) (same : (∃ p q,d = .pair p q) ↔ ∃ p q,e = .pair p q) : EqGives prog w 8 h u v (decide (d = e)) := by
  cases d with
  | int i =>
    cases e with
    | int j =>
      obtain ⟨t,rfl⟩ := hd
      obtain ⟨t',rfl⟩ := he
      intro _ _ _ _ _ _ hQ
      refine wpAny_eqBool_int ?_
      by_cases q : i = j
      · subst q;simpa using hQ
      · rw [decide_eq_false (by simpa using q)] at hQ;rw [beq_eq_false_iff_ne.mpr q];exact hQ
    | pair p q => obtain ⟨_,_,x⟩ := same.mpr ⟨p,q,rfl⟩;cases x
  | pair p q =>
    cases e with
    | int j => obtain ⟨_,_,x⟩ := same.mp ⟨p,q,rfl⟩;cases x
    | pair p' q' =>
      obtain ⟨a,t1,t2,rfl,ha⟩ := hd
      obtain ⟨b,u1,u2,rfl,hb⟩ := he
      have : EqGives prog w 8 h (.ref a) (.ref b) (decide ([p,q] = [p',q'])) := eq_ints (us := [.int p t1,.int q t2]) (vs := [.int p' u1,.int q' u2]) ha hb (.cons _ _ (.cons _ _ .nil)) (.cons _ _ (.cons _ _ .nil))
      rw [show decide (KD.pair p q = KD.pair p' q') = decide ([p,q] = [p',q']) from by simp]
      exact @this
theorem eq_key {a b : Addr} {x y : TRec} {A : Around} {E : Value → Shared → Prop} {s : Shared} {Q : Bool → Shared → Prop} (hu : A.units + 16 < cLine) (hx : KeyAt s.heap x a) (hy : KeyAt s.heap y b) (hQ : Q (decide (x = y)) s) : wpAny (model prog w) A (eqBool (.ref a) (.ref b)) Q E s := by
  have hi : a = b → decide (x = y) = true := fun e => by subst e;exact decide_eq_true (hx.inj hy)
  refine x0_2 hx ?_;(try clear hx)
  intro zq24
  refine x5_4 zq24 ?_;(try clear zq24)
  intro to aa ts dv vs h1 h2 h3 h4
  intro h5
  refine x0_2 hy ?_;(try clear hy)
  intro zq25
  refine x5_4 zq25 ?_;(try clear zq25)
  intro to' aa' ts' dv' vs' g1 g2 g3 g4
  intro g5
  refine eqBool_items (k := 8) (us := [.str x.op to,.ref aa,.int x.sort ts,dv]) (vs := [.str y.op to',.ref aa',.int y.sort ts',dv']) (by omega) h1 g1 ?_ hi hQ
  obtain ⟨o,ar,so,da⟩ := x
  obtain ⟨o',ar',so',da'⟩ := y
  simp only at h3 h4 h5 g3 g4 g5 ⊢
  by_cases e1 : o = o'
  · subst e1
    refine .go (fun _ _ hQ => wpAny_eqBool_str (by simpa using hQ)) ?_
    by_cases e2 : ar = ar'
    · subst e2
      refine .go (by have : EqGives prog w 8 s.heap (.ref aa) (.ref aa') _ := eq_ints h2 g2 h3 g3;rwa [decide_eq_true rfl] at this) ?_
      by_cases e3 : so = so'
      · subst e3
        refine .go (fun _ _ hQ => wpAny_eqBool_int (by simpa using hQ)) ?_
        have e4 : EqGives prog w 8 s.heap dv dv' _ := eq_kd h4 g4 (h5.symm.trans g5)
        by_cases e5 : da = da'
        · subst e5
          rw [decide_eq_true rfl] at e4 ⊢
          exact .go e4 .nil
        · rw [decide_eq_false e5] at e4
          rw [decide_eq_false (by simp [e5])]
          exact .stop e4
      · rw [decide_eq_false (by simp [e3])]
        exact .stop fun _ _ hQ => wpAny_eqBool_int (by rw [beq_eq_false_iff_ne.mpr e3];exact hQ)
    · rw [decide_eq_false (by simp [e2])]
      exact .stop (by have : EqGives prog w 8 s.heap (.ref aa) (.ref aa') _ := eq_ints h2 g2 h3 g3;rwa [decide_eq_false e2] at this)
  · rw [decide_eq_false (by simp [e1])]
    exact .stop fun _ _ hQ => wpAny_eqBool_str (by rw [decide_eq_false e1];exact hQ)
theorem quiet_items {n : Nat} {a : Addr} {items : List Value} {A : Around} {E : Value → Shared → Prop} {s : Shared} {Q : Bool → Shared → Prop} (ha : IsTup s.heap a items.toArray)
    (each : ∀ v ∈ items,∀ {A : Around} {E : Value → Shared → Prop} {Q : Bool → Shared → Prop},Q true s → wpAny (model prog w) A (eqIsQuiet n v) Q E s) (h : Q true s) : wpAny (model prog w) A (eqIsQuiet (n + 1) (.ref a)) Q E s := by
  have hT := ha.typeIs
  refine x1_3 ha ?_;(try clear ha)
  intro o ho _ zq26
  refine x1_1 zq26 ?_;(try clear zq26)
  intro k hd
  unfold eqIsQuiet
  refine wpAny_bind (wpAny_specialOf hT F.slot_tuple_eq.lookup ?_)
  show wpAny _ _ (isInstance (.ref a) (.type "tuple") >>= _) _ _ s
  refine wpAny_bind (wpAny_isInstance hT isSubtype_tuple_tuple ?_)
  rw [if_neg (by decide)]
  refine wpAny_bind (wpAny_seqItems ho hd ?_)
  refine wpAny_bind ?_
  show wpAny _ _ (forIn items.toArray _ _) _ _ s
  rw [← Array.forIn_toList]
  refine wpAny_forIn_list _ (fun rest r s' => r.1 = none ∧ s' = s ∧ ∀ v ∈ rest,v ∈ items) _ ?_ ?_ _ _ ⟨rfl,rfl,fun v hv => by simpa using hv⟩
  · intro v rest r s' zq27
    refine x0_3 zq27 ?_;(try clear zq27)
    intro hr
    rintro rfl
    intro hall
    refine wpAny_bind (each v (hall v List.mem_cons_self) ?_)
    rw [if_neg (by decide)]
    exact wpAny_pure ⟨rfl,rfl,fun u hu' => hall u (List.mem_cons_of_mem _ hu')⟩
  · intro zq28
    obtain ⟨r1,r2⟩ := zq28
    intro s' zq29
    refine x0_3 zq29 ?_;(try clear zq29)
    intro hr
    rintro rfl
    intro _
    dsimp only at hr
    subst hr
    exact wpAny_pure h
theorem quiet_val {n : Nat} {v : Value} {A : Around} {E : Value → Shared → Prop} {s : Shared} {Q : Bool → Shared → Prop} (hv : carriedByValue v = true) (h : Q true s) : wpAny (model prog w) A (eqIsQuiet n v) Q E s := by
  rw [eqIsQuiet_byValue _ hv]
  exact wpAny_pure h
theorem ints_val {vs : List Value} {ns : List Int} (hi : IntsAre vs ns) : ∀ v ∈ vs,carriedByValue v = true := by
  induction hi with
  | nil => intro v hv;exact nomatch hv
  | cons n t _ ih =>
    intro v hv
    rcases List.mem_cons.mp hv with rfl | hv
    · rfl
    · exact ih v hv
theorem quiet_key {a : Addr} {k : TRec} {A : Around} {E : Value → Shared → Prop} {s : Shared} {Q : Bool → Shared → Prop} (hk : KeyAt s.heap k a) (h : Q true s) : wpAny (model prog w) A (eqIsQuiet 8 (.ref a)) Q E s := by
  refine x0_2 hk ?_;(try clear hk)
  intro zq30
  refine x5_4 zq30 ?_;(try clear zq30)
  intro to aa ts dv vs h1 h2 h3 h4
  intro _
  refine quiet_items (items := [.str k.op to,.ref aa,.int k.sort ts,dv]) h1 (fun v hv => ?_) h
  intro A E Q hQ
  simp only [List.mem_cons,List.not_mem_nil,or_false] at hv
  rcases hv with rfl | rfl | rfl | rfl
  · exact quiet_val rfl hQ
  · exact quiet_items h2 (fun u hu => fun hQ => quiet_val (ints_val h3 u hu) hQ) hQ
  · exact quiet_val rfl hQ
  · cases e : k.data with
    | int i => rw [e] at h4;obtain ⟨t,rfl⟩ := h4;exact quiet_val rfl hQ
    | pair p q =>
      rw [e] at h4
      refine x3_2 h4 ?_;(try clear h4)
      intro b t1 t2
      rintro rfl
      intro g
      exact quiet_items (items := [.int p t1,.int q t2]) g (fun u hu => fun hQ => quiet_val (ints_val (.cons p t1 (.cons q t2 .nil)) u hu) hQ) hQ
noncomputable def keyKind (prog : Program) (w : World) : HeapKind prog w TRec where
  is := KeyAt
  hash := fun k => tupHash (keyPs w k)
  draws := fun k => drawsOf (keyPs w k) + 1
  room := fun A => A.units + 16 < cLine
  inj := fun hx hy => hx.inj hy
  keeps := fun x ho hd hs => x.keeps ho hd hs
  pyHash := fun hu hk h => hash_key hu hk h
  eqBool := fun hu hx hy h => eq_key hu hx hy h
  quiet := fun hk h => quiet_key hk h
end
end
section
noncomputable def KDIn (T : Led) (d : KD) (v : Value) : Prop :=
  match d with
  | .int i => ∃ t,v = .int i t
  | .pair p q => ∃ a t1 t2,v = .ref a ∧ (a,tup [.int p t1,.int q t2]) ∈ T
noncomputable def KeyIn (T : Led) (k : TRec) (a : Addr) : Prop :=
  (∃ (to : Tok) (aa : Addr) (ts : Tok) (dv : Value) (vs : List Value),(a,tup [.str k.op to,.ref aa,.int k.sort ts,dv]) ∈ T ∧ (aa,tup vs) ∈ T ∧ IntsAre vs k.args ∧ KDIn T k.data dv) ∧ (k.op = Str.ofString "num" ↔ ∃ p q,k.data = .pair p q)
theorem KDIn.mono {T T' : Led} {d : KD} {v : Value} (h : KDIn T d v) (hs : ∀ p ∈ T,p ∈ T') : KDIn T' d v := by
  cases d with
  | int i => exact h
  | pair p q => obtain ⟨a,t1,t2,e,hm⟩ := h;exact ⟨a,t1,t2,e,hs _ hm⟩
theorem KeyIn.mono {T T' : Led} {k : TRec} {a : Addr} (h : KeyIn T k a) (hs : ∀ p ∈ T,p ∈ T') : KeyIn T' k a :=
  ⟨x5_4 h.1 fun to aa ts dv vs h1 h2 h3 h4 => ⟨to,aa,ts,dv,vs,hs _ h1,hs _ h2,h3,h4.mono hs⟩,h.2⟩
theorem KeyIn.at {h₀ h : Heap} {L : Addr} {T : Led} {k : TRec} {a : Addr} (x : KeyIn T k a) (N : News h₀ L h T) : KeyAt h k a := by
  refine x0_2 x ?_;(try clear x)
  intro zq1
  refine x5_4 zq1 ?_;(try clear zq1)
  intro to aa ts dv vs h1 h2 h3 h4
  intro h5
  refine ⟨⟨to,aa,ts,dv,vs,⟨_,(N _ h1).1,rfl,_,rfl⟩,⟨_,(N _ h2).1,rfl,_,rfl⟩,h3,?_⟩,h5⟩
  cases e : k.data with
  | int i => rw [e] at h4;exact h4
  | pair p q => rw [e] at h4;obtain ⟨b,t1,t2,e,hm⟩ := h4;exact ⟨b,t1,t2,e,⟨_,(N _ hm).1,rfl,_,rfl⟩⟩
structure RecsIn (T : Led) (ts : List TRec) (ops args sorts datas : List Value) : Prop where
  l1 : ops.length = ts.length
  l2 : args.length = ts.length
  l3 : sorts.length = ts.length
  l4 : datas.length = ts.length
  at' : ∀ (i : Nat) (r : TRec),ts[i]? = some r → ∃ (to : Tok) (aa : Addr) (tso : Tok) (dv : Value) (vs : List Value),ops[i]? = some (.str r.op to) ∧ args[i]? = some (.ref aa) ∧ sorts[i]? = some (.int r.sort tso) ∧ datas[i]? = some dv ∧ (aa,tup vs) ∈ T ∧ IntsAre vs r.args ∧ KDIn T r.data dv
theorem RecsIn.mono {T T' : Led} {ts : List TRec} {ops args sorts datas : List Value} (h : RecsIn T ts ops args sorts datas) (hs : ∀ p ∈ T,p ∈ T') : RecsIn T' ts ops args sorts datas :=
  ⟨h.l1,h.l2,h.l3,h.l4,fun i r e => x5_7 (h.at' i r e) fun to aa tso dv vs a1 a2 a3 a4 a5 a6 a7 => ⟨to,aa,tso,dv,vs,a1,a2,a3,a4,hs _ a5,a6,a7.mono hs⟩⟩
theorem snoc_get {α : Type} {l : List α} {x y : α} {i : Nat} (h : (l ++ [x])[i]? = some y) : l[i]? = some y ∨ (i = l.length ∧ y = x) := by
  rcases Nat.lt_trichotomy i l.length with g | g | g
  · rw [List.getElem?_append_left g] at h;exact .inl h
  · subst g;simp at h;exact .inr ⟨rfl,h.symm⟩
  · rw [List.getElem?_append_right (by omega)] at h
    have : [x][i - l.length]? = none := by simp;omega
    rw [this] at h;cases h
theorem get_snoc {α : Type} {l : List α} {x y : α} {i : Nat} (h : l[i]? = some y) : (l ++ [x])[i]? = some y := by
  have := (List.getElem?_eq_some_iff.mp h).1
  rw [List.getElem?_append_left this];exact h
theorem get_last {α : Type} {l : List α} {x : α} {n : Nat} (h : l.length = n) : (l ++ [x])[n]? = some x := by subst h;simp
theorem RecsIn.snoc {T : Led} {ts : List TRec} {ops args sorts datas : List Value} (h : RecsIn T ts ops args sorts datas) {r : TRec} {to tso : Tok} {aa : Addr} {dv : Value} {vs : List Value} (h1 : (aa,tup vs) ∈ T) (h2 : IntsAre vs r.args) (h3 : KDIn T r.data dv) :
    RecsIn T (ts ++ [r]) (ops ++ [.str r.op to]) (args ++ [.ref aa]) (sorts ++ [.int r.sort tso]) (datas ++ [dv]) := by
  refine ⟨by simp [h.l1],by simp [h.l2],by simp [h.l3],by simp [h.l4],fun i q e => ?_⟩
  rcases snoc_get e with e | ⟨rfl,rfl⟩
  · refine x5_7 (h.at' i q e) ?_
    intro to aa tso dv vs a1 a2 a3 a4 a5 a6 a7
    exact ⟨to,aa,tso,dv,vs,get_snoc a1,get_snoc a2,get_snoc a3,get_snoc a4,a5,a6,a7⟩
  · exact ⟨to,aa,tso,dv,vs,get_last h.l1,get_last h.l2,get_last h.l3,get_last h.l4,h1,h2,h3⟩
noncomputable def NumsIn (w : World) (T : Led) (ts : List TRec) (o : Obj) : Prop :=
  ∃ (es : Array DictEntry) (ep : Nat) (xs : List (TRec × Addr × Value)),o.ExactDict ∧ o.data = .dict es ep ∧ es.toList = xs.map (entryOfKey (keyKind PG w)) ∧ (xs.map (·.1)).Nodup ∧ (∀ x ∈ xs,KeyIn T x.1 x.2.1) ∧ xs.map (·.1) = ts.tail ∧
    ∀ (j : Nat) (x : TRec × Addr × Value),xs[j]? = some x → ∃ t : Tok,x.2.2 = .int ((j + 1 : Nat) : Int) t
theorem NumsIn.mono {w : World} {T T' : Led} {ts : List TRec} {o : Obj} (h : NumsIn w T ts o) (hs : ∀ p ∈ T,p ∈ T') : NumsIn w T' ts o :=
  x3_7 h fun es ep xs a1 a2 a3 a4 a5 a6 a7 => ⟨es,ep,xs,a1,a2,a3,a4,fun x hx => (a5 x hx).mono hs,a6,a7⟩
theorem NumsIn.nodup {w : World} {T : Led} {ts : List TRec} {o : Obj} (h : NumsIn w T ts o) : ts.tail.Nodup := x3_7 h fun _ _ _ _ _ _ a4 _ a6 _ => a6 ▸ a4
section
variable {w : World} {A : Around} {E : Value → Shared → Prop} {s : Shared} {h₀ : Heap} {L : Addr} {m : Mp} {led T : Led} {ts : List TRec} {aN ka : Addr} {oN : Obj} {k : TRec}
theorem NumsIn.dict (h : NumsIn w T ts oN) (N : News h₀ L s.heap led) (hN : (aN,oN) ∈ led) (hs : ∀ p ∈ T,p ∈ led) : ∃ xs : List (TRec × Addr × Value),s.heap.DictOfH (keyKind PG w) aN xs ∧ xs.map (·.1) = ts.tail ∧ (xs.map (·.1)).Nodup ∧ (∀ x ∈ xs,KeyIn T x.1 x.2.1) ∧ ∀ (j : Nat) (x : TRec × Addr × Value),xs[j]? = some x → ∃ t : Tok,x.2.2 = .int ((j + 1 : Nat) : Int) t := by
  refine x3_7 h ?_;(try clear h)
  intro es ep xs a1 a2 a3 a4 a5 a6 a7
  exact ⟨xs,⟨oN,es,ep,(N _ hN).1,a1,a2,a3,fun x hx => (a5 x hx).at fun p hp => N p (hs p hp),a4⟩,a6,a4,a5,a7⟩
theorem nums_method {pl : Sem Bool} {Q : Value × List Value → Shared → Prop} (N : News h₀ L s.heap led) (hN : (aN,oN) ∈ led) (h : NumsIn w T ts oN) (hs : ∀ p ∈ T,p ∈ led) (hQ : Q (.builtin "dict.get",[.ref aN]) s) :
    wpAny (model PG w) A (getMethod (.ref aN) "get" pl) Q E s := by
  refine x1_2 (h.dict N hN hs) ?_
  intro xs hd _
  exact getMethod_builtin hd.typeIs PySem.F.plainAttrs_dict PySem.F.slot_dict_get PySem.F.type_dict_get (dictOfH_noDict hd) hQ
theorem atKey_idx {xs : List (TRec × Addr × Value)} {k : TRec} {p : Addr × Value} (h : atKey xs k = some p) : ∃ j : Nat,xs[j]? = some (k,p) := by
  unfold atKey at h
  cases e : xs.find? fun x => decide (x.1 = k) with
  | none => rw [e] at h;cases h
  | some x =>
    rw [e] at h
    have h1 : x.1 = k := by simpa using List.find?_some e
    refine x1_1 (List.mem_iff_getElem?.mp (List.mem_of_find?_eq_some e)) ?_
    intro j hj
    simp only [Option.map_some,Option.some.injEq] at h
    exact ⟨j,by rw [hj,← h1,← h]⟩
theorem atKey_miss {xs : List (TRec × Addr × Value)} {k : TRec} (h : atKey xs k = none) : k ∉ xs.map (·.1) := by
  intro hm
  refine x1_2 (List.mem_map.mp hm) ?_
  intro x hx
  rintro rfl
  unfold atKey at h
  cases e : xs.find? fun y => decide (y.1 = x.1) with
  | none =>
    have := List.find?_eq_none.mp e x hx
    simp at this
  | some y => rw [e] at h;cases h
theorem tail_get {α : Type} {l : List α} {x : α} {j : Nat} (h : l.tail[j]? = some x) : l[j + 1]? = some x := by
  cases l with
  | nil => simp at h
  | cons a r => simpa using h
theorem nums_get {dflt : Value} {Q : Value → Shared → Prop} (hu : A.units + 24 < cLine) (lo : (aN == sysModules) = false) (N : News h₀ L s.heap led) (hN : (aN,oN) ∈ led) (h : NumsIn w T ts oN) (hs : ∀ p ∈ T,p ∈ led) (hk : KeyIn led k ka)
    (h1 : ∀ (i : Nat) (t : Tok) (tk : Nat),1 ≤ i → ts[i]? = some k → Q (.int (i : Int) t) { s with toks := tk }) (h2 : ∀ tk : Nat,k ∉ ts.tail → Q dflt { s with toks := tk }) :
    wpAny (model PG w) A (call (.builtin "dict.get") [.ref aN,.ref ka,dflt]) Q E s := by
  refine x1_5 (h.dict N hN hs) ?_
  intro xs hd e1 e2 e3 e4
  refine call_meetsIn PySem.F.slot_dict_get hd.typeIs PySem.F.entry_dict_get (PySem.F.args_dict_get_3 _ _ _) (meetsH_dict_get_default (keyKind PG w) aN ka lo dflt) ⟨?_,k,xs,hk.at N,hd,?_⟩
  · show A.in1.units + 16 < cLine
    simp only [units_in1];omega
  cases e : atKey xs k with
  | none => exact h2 _ (e1 ▸ atKey_miss e)
  | some p =>
    refine x1_1 (atKey_idx e) ?_
    intro j hj
    refine x1_1 (e4 j _ hj) ?_
    intro t ht
    have : ts.tail[j]? = some k := by rw [← e1,List.getElem?_map,hj];rfl
    show Q ((some p.2).getD dflt) _
    simp only at ht
    rw [Option.getD_some,ht]
    exact h1 (j + 1) t _ (by omega) (tail_get this)
theorem nums_set {t : Tok} {g : Obj → Led} {Q : Unit → Shared → Prop} (hu : A.units + 24 < cLine) (F : Fr h₀ L s.heap m) (N : News h₀ L s.heap led) (U : UpdF aN oN led g) (h : NumsIn w T ts oN) (hs : ∀ p ∈ T,p ∈ led) (hk : KeyIn led k ka)
    (hn : k ∉ ts.tail) (hts : ts ≠ []) (hz : ts.length ≤ 1000)
    (hQ : ∀ h' tk o',Fr h₀ L h' m → News h₀ L h' (g o') → (∀ T',(∀ p ∈ T,p ∈ T') → KeyIn T' k ka → NumsIn w T' (ts ++ [k]) o') → Q () { s with heap := h',toks := tk }) :
    wpAny (model PG w) A (setItem (.ref aN) (.ref ka) (.int (ts.length : Int) t)) Q E s := by
  have hN := updF_mem U
  refine x1_5 (h.dict N hN hs) ?_
  intro xs hd e1 e2 e3 e4
  refine x2_4 U.split ?_;(try clear U.split)
  intro pre post
  rintro rfl
  intro hg n1 n2
  have hl : xs.length + 1 = ts.length := by
    have := congrArg List.length e1
    rw [List.length_map,List.length_tail] at this
    have : 0 < ts.length := List.length_pos_iff.mpr hts
    omega
  refine wpAny_setItem_heap (knd := keyKind PG w) (hsz := by rw [sizeLine_eq];omega) (by show A.in1.units + 16 < cLine;simp only [units_in1];omega) (hk.at N) hd fun h' hd' hb => ?_
  refine x3_6 hd' ?_;(try clear hd')
  intro o' es' ep' ho' hc' hdat he' _ hnd
  refine hQ h' _ o' (F.change hb (N _ hN).2.1 (N _ hN).2.2) (by rw [hg];exact news_set N n1 n2 hb ho') fun T' hT' hk' => ?_
  have hmiss : atKey xs k = none := by
    cases e : atKey xs k with
    | none => rfl
    | some p => obtain ⟨j,hj⟩ := atKey_idx e;exact absurd (e1 ▸ List.mem_map.mpr ⟨_,List.mem_of_getElem? hj,rfl⟩) hn
  rw [storedH_new hmiss] at he' hnd
  refine ⟨es',ep',xs ++ [(k,ka,.int (ts.length : Int) t)],hc',hdat,he',hnd,fun x hx => ?_,?_,fun j x hx => ?_⟩
  · rcases List.mem_append.mp hx with hx | hx
    · exact (e3 x hx).mono hT'
    · rw [List.mem_singleton.mp hx];exact hk'
  · rw [List.map_append,e1]
    cases ts with
    | nil => exact absurd rfl hts
    | cons a r => rfl
  · rcases snoc_get hx with hx | ⟨rfl,rfl⟩
    · exact e4 j x hx
    · exact ⟨t,by rw [hl]⟩
end
structure BankM (es : List DictEntry) (aO aA aS aD aN : Addr) : Prop where
  gO : getL (Str.ofString "term_ops") es = some (some (.ref aO))
  gA : getL (Str.ofString "term_args") es = some (some (.ref aA))
  gS : getL (Str.ofString "term_sorts") es = some (some (.ref aS))
  gD : getL (Str.ofString "term_datas") es = some (some (.ref aD))
  gN : getL (Str.ofString "numbers") es = some (some (.ref aN))
structure Dist5 (aO aA aS aD aN : Addr) : Prop where
  d1 : AllNe aO [(aA,tup []),(aS,tup []),(aD,tup []),(aN,tup [])]
  d2 : AllNe aA [(aS,tup []),(aD,tup []),(aN,tup [])]
  d3 : AllNe aS [(aD,tup []),(aN,tup [])]
  d4 : AllNe aD [(aN,tup [])]
  lo : (aN == sysModules) = false
theorem sub_all {T : Led} : ∀ p ∈ T,p ∈ T := fun _ h => h
theorem sub_more {T led : Led} {x : Addr × Obj} (h : ∀ p ∈ T,p ∈ led) : ∀ p ∈ T,p ∈ x :: led := fun p hp => .tail _ (h p hp)
theorem len_led {prog : Program} {w : World} {A : Around} {E : Value → Shared → Prop} {s : Shared} {h₀ : Heap} {L l : Addr} {led : Led} {xs : List Value} {n k : Nat} {Q : Value → Shared → Prop} (N : News h₀ L s.heap led) (hm : (l,listOf xs.toArray n) ∈ led) (e : xs.length = k) (hz : k ≤ 1000)
    (h : ∀ t tk,Q (.int (k : Int) t) { s with toks := tk }) : wpAny (model prog w) A (call (.builtin "len") [.ref l]) Q E s :=
  kun_lenL (k := (k : Int)) ⟨_,(N _ hm).1,rfl,_,rfl⟩ (by simp [e]) (by omega) (h _ _)
end
theorem set_28 : True := by
  k_with "!getAttr ref" => ((k_here;k_dflt (refine' get_own ?q9k1 ?q9k2 ?q9k3 ?q9k4 ?q9k5 ?q9k6 ?q9k7 ?q9k8 ?q9k9 ?_;(case q9k1 => k_asm);(case q9k2 => k_asm);(case q9k3 => k_inst);(case q9k4 => k_is);(case q9k5 => k_is);(case q9k6 => k_is);(case q9k7 => k_is);(case q9k8 => with_reducible first | exact BankM.gO (by assumption) | exact BankM.gA (by assumption) | exact BankM.gS (by assumption) | exact BankM.gD (by assumption) | exact BankM.gN (by assumption));(case q9k9 => k_handed);k_whole)))
  k_with "!getMethod ref" => ((k_here;(with_reducible show wpAny _ _ (getMethod (Value.ref _) (Str.ofString "get") _) _ _ _);k_dflt (refine' nums_method ?q9k1 ?q9k2 ?q9k3 ?q9k4 ?_;(case q9k1 => k_asm);(case q9k3 => assumption);(case q9k2 => k_mem);(case q9k4 => (repeat first | exact sub_all | refine sub_more ?_));k_whole)))
  k_with "!call builtin:dict.get" => ((k_here;(with_reducible show wpAny _ _ (call (Value.builtin _) [Value.ref _,Value.ref _,_]) _ _ _);refine stop_at ?_))
  k_with "!setItem ref ref" => ((k_here;refine stop_at ?_))
  k_with "!call builtin:len" => ((k_here;(with_reducible show wpAny _ _ (call (Value.builtin _) [Value.ref _]) _ _ _);k_dflt (refine' len_led ?q9k1 ?q9k2 ?q9k3 ?q9k4 ?_;(case q9k1 => k_asm);(case q9k2 => k_mem);(case q9k3 => assumption);(case q9k4 => omega);k_whole);intro _ _))
  exact trivial
section
theorem After.sub {h₀ h h' : Heap} {L : Addr} {led led' led'' : Led} (A : After h₀ L h led h' led') (hs : ∀ p ∈ led'',p ∈ led') : After h₀ L h led h' led'' := ⟨fun p hp => A.news p (hs p hp),A.kept,fun p hp => A.fresh p (hs p hp)⟩
theorem key_first {k a b c d e p : Addr × Obj} {T : Led} (h : p ∈ a :: b :: c :: d :: e :: k :: T) : p ∈ k :: a :: b :: c :: d :: e :: T := by
  exact subA (by k_extra "H:sub_auto") h
inductive MakeR (w : World) (aO aA aS aD aN : Addr) (n1 n2 n3 n4 : Nat) (ops args sorts datas : List Value) (oN : Obj) (T : Led) (ts : List TRec) (x : TRec) (r : Value) (led' : Led) : Prop
  | mk (i : Nat) (t : Tok) (n1' n2' n3' n4' : Nat) (ops' args' sorts' datas' : List Value) (oN' : Obj) (T' : Led) (ts' : List TRec) (c1 : r = .int (i : Int) t) (c2 : led' = (aO,listOf ops'.toArray n1') :: (aA,listOf args'.toArray n2') :: (aS,listOf sorts'.toArray n3') :: (aD,listOf datas'.toArray n4') :: (aN,oN') :: T')
      (c3 : ∀ p ∈ T,p ∈ T') (c4 : RecsIn T' ts' ops' args' sorts' datas') (c5 : NumsIn w T' ts' oN') (c6 : ∀ q ∈ T',AllNe q.1 [(aO,listOf ops.toArray n1),(aA,listOf args.toArray n2),(aS,listOf sorts.toArray n3),(aD,listOf datas.toArray n4),(aN,oN)]) (c7 : ts'[i]? = some x) (c8 : 1 ≤ i) (c9 : ts' = ts ∨ ts' = ts ++ [x]) : MakeR w aO aA aS aD aN n1 n2 n3 n4 ops args sorts datas oN T ts x r led'
theorem make_spec (w : World) {b bd aO aA aS aD aN aa : Addr} {es : List DictEntry} {ne n1 n2 n3 n4 : Nat} {ops args sorts datas vs : List Value} {oN : Obj} {T : Led} {ts : List TRec} {x : TRec} {to tso : Tok} {dv : Value}
    (M : BankM es aO aA aS aD aN) (D : Dist5 aO aA aS aD aN) (hb : (b,instObj 687 bd) ∈ T) (hbd : (bd,dictOf es ne) ∈ T) (R : RecsIn T ts ops args sorts datas) (Nm : NumsIn w T ts oN)
    (off : ∀ q ∈ T,AllNe q.1 [(aO,listOf ops.toArray n1),(aA,listOf args.toArray n2),(aS,listOf sorts.toArray n3),(aD,listOf datas.toArray n4),(aN,oN)]) (hx1 : (aa,tup vs) ∈ T) (hx2 : IntsAre vs x.args) (hx3 : KDIn T x.data dv)
    (hx4 : x.op = Str.ofString "num" ↔ ∃ p q,x.data = .pair p q) (hts : ts ≠ []) (hz : ts.length ≤ 100) :
    Spec w 301 [.ref b,.str x.op to,.ref aa,.int x.sort tso,dv] 2 60 ((aO,listOf ops.toArray n1) :: (aA,listOf args.toArray n2) :: (aS,listOf sorts.toArray n3) :: (aD,listOf datas.toArray n4) :: (aN,oN) :: T) (MakeR w aO aA aS aD aN n1 n2 n3 n4 ops args sorts datas oN T ts x) := by
  apply bx;simp(disch:=k_dflt(
  unfold Spec
  intro dp un gd cn cs a₁ ccd ce outer A₀ base h₀ L m mean mg mb s Q E B F X N Tp hk hd hu hret
  have d1 := D.d1
  have d2 := D.d2
  have d3 := D.d3
  have d4 := D.d4
  have r1 := R.l1
  have r2 := R.l2
  have r3 := R.l3
  have r4 := R.l4
  have z1 : ops.toArray.size ≤ sizeLine := by rw [List.size_toArray,sizeLine_eq];omega
  have z2 : args.toArray.size ≤ sizeLine := by rw [List.size_toArray,sizeLine_eq];omega
  have z3 : sorts.toArray.size ≤ sizeLine := by rw [List.size_toArray,sizeLine_eq];omega
  have z4 : datas.toArray.size ≤ sizeLine := by rw [List.size_toArray,sizeLine_eq];omega
  k_dflt (apply call_at (binds := [(Str.ofString "self",Value.ref b),(Str.ofString "op",Value.str x.op to),(Str.ofString "args",Value.ref aa),(Str.ofString "sort",Value.int x.sort tso),(Str.ofString "data",dv)]));k_extra "H:o_rest"
  k_steps
  refine stop_go ?_
  (try k_extra "H:folds")
  rename News _ _ _ _ => Nk
  have subs : ∀ {a b c d e f : Addr × Obj},∀ p ∈ T,p ∈ a :: b :: c :: d :: e :: f :: T := fun p hp => .tail _ (.tail _ (.tail _ (.tail _ (.tail _ (.tail _ hp)))))
  k_dflt (refine nums_get (k := x) (T := T) (by ktr_units) D.lo Nk (by k_mem) Nm subs ⟨⟨to,aa,tso,dv,vs,by k_mem,by k_mem,hx2,hx3.mono subs⟩,hx4⟩ (fun i t tk hi hx => ?_) (fun tk hn => ?_))
  · have hi' : (i : Int) ≠ 0 := by omega
    k_steps
    · exact hret _ ((aO,listOf ops.toArray n1) :: (aA,listOf args.toArray n2) :: (aS,listOf sorts.toArray n3) :: (aD,listOf datas.toArray n4) :: (aN,oN) :: T) _ _ (by assumption) ((after_of (by assumption) (by assumption) (by assumption) (by assumption)).sub fun p hp => .tail _ hp)
        ⟨i,t,n1,n2,n3,n4,ops,args,sorts,datas,oN,T,ts,rfl,rfl,sub_all,R,Nm,off,hx,hi,.inl rfl⟩
  · k_steps
    refine stop_go ?_
    (try k_extra "H:folds")
    rename (aO < _ ∧ _) => lk
    k_dflt (refine' nums_set (k := x) (T := T) ?qu ?qF ?qN ?qU Nm subs ?qk hn hts ?qz ?_;(case qF => k_asm);(case qN => k_asm);(case qU => k_updF);(case qu => ktr_units);(case qk => exact ⟨⟨to,aa,tso,dv,vs,by k_mem,by k_mem,hx2,hx3.mono subs⟩,hx4⟩);(case qz => omega);intro h9 tk9 o9 F9 N9 hnum;(try dsimp only at N9))
    simp only [List.push_toArray] at N9
    k_steps
    refine hret _ ((aO,listOf (ops ++ [Value.str x.op to]).toArray (n1 + 1)) :: (aA,listOf (args ++ [Value.ref aa]).toArray (n2 + 1)) :: (aS,listOf (sorts ++ [Value.int x.sort tso]).toArray (n3 + 1)) :: (aD,listOf (datas ++ [dv]).toArray (n4 + 1)) :: (aN,o9) :: (_,tup [.str x.op to,.ref aa,.int x.sort tso,dv]) :: T) _ _ (by assumption) ((after_of (by assumption) (by assumption) (by assumption) (by assumption)).sub fun p hp => key_first hp)
      ⟨ts.length,_,_,_,_,_,_,_,_,_,o9,(_,tup [.str x.op to,.ref aa,.int x.sort tso,dv]) :: T,ts ++ [x],rfl,rfl,fun p hp => .tail _ hp,(R.snoc hx1 hx2 hx3).mono fun p hp => .tail _ hp,hnum _ (fun p hp => .tail _ hp) ⟨⟨to,aa,tso,dv,vs,.head _,.tail _ hx1,hx2,hx3.mono fun p hp => .tail _ hp⟩,hx4⟩,fun q hq => ?_,get_last rfl,List.length_pos_iff.mpr hts,.inr rfl⟩
    rcases List.mem_cons.mp hq with rfl | hq
    · exact ⟨Nat.ne_of_lt lk.1,Nat.ne_of_lt lk.2.1,Nat.ne_of_lt lk.2.2.1,Nat.ne_of_lt lk.2.2.2.1,Nat.ne_of_lt lk.2.2.2.2.1,trivial⟩
    · exact off q hq
  ))only[↓bx_eq]
end
section
structure BkA where
  b : Addr
  bd : Addr
  aO : Addr
  aA : Addr
  aS : Addr
  aD : Addr
  aN : Addr
  es : List DictEntry
  ne : Nat
inductive Bk (w : World) (B : BkA) (ts : List TRec) (BL : Led) : Prop
  | mk (n1 n2 n3 n4 : Nat) (ops args sorts datas : List Value) (oN : Obj) (T : Led) (cc1 : BL = (B.aO,listOf ops.toArray n1) :: (B.aA,listOf args.toArray n2) :: (B.aS,listOf sorts.toArray n3) :: (B.aD,listOf datas.toArray n4) :: (B.aN,oN) :: T) (cc2 : BankM B.es B.aO B.aA B.aS B.aD B.aN) (cc3 : Dist5 B.aO B.aA B.aS B.aD B.aN) (cc4 : (B.b,instObj 687 B.bd) ∈ T) (cc5 : (B.bd,dictOf B.es B.ne) ∈ T) (cc6 : RecsIn T ts ops args sorts datas) (cc7 : NumsIn w T ts oN) (cc8 : (∀ q ∈ T,AllNe q.1 [(B.aO,listOf ops.toArray n1),(B.aA,listOf args.toArray n2),(B.aS,listOf sorts.toArray n3),(B.aD,listOf datas.toArray n4),(B.aN,oN)])) (cc9 : ts ≠ []) : Bk w B ts BL
theorem dictO_nt {w : World} {T : Led} {ts : List TRec} {o : Obj} (h : NumsIn w T ts o) : ∀ vs,o ≠ tup vs := fun vs e => by
  subst e
  refine x3_2 h ?_;(try clear h)
  intro _ _ _ a1 _
  have e2 : Value.type "tuple" = Value.type "dict" := a1.1
  injection e2 with e3
  exact absurd e3 (by decide)
theorem offD {w : World} {T l : Led} {ts : List TRec} {o : Obj} {a b : Addr} {vs : List Value} (Nm : NumsIn w T ts o) (h : (a,tup vs) ∈ (b,o) :: l) : (a,tup vs) ∈ l := by
  rcases List.mem_cons.mp h with h | h
  · exact absurd (congrArg Prod.snd h).symm (dictO_nt Nm vs)
  · exact h
theorem Bk.frozen {w : World} {B : BkA} {ts : List TRec} {BL : Led} (h : Bk w B ts BL) : ∃ T : Led,(∀ p ∈ T,p ∈ BL) ∧ ∀ a vs,(a,tup vs) ∈ BL → (a,tup vs) ∈ T := by
  obtain ⟨n1,n2,n3,n4,ops,args,sorts,datas,oN,T,rfl,M,D,hb,hbd,R,Nm,off,hts⟩ := h
  refine ⟨T,fun p hp => .tail _ (.tail _ (.tail _ (.tail _ (.tail _ hp)))),fun a vs hm => ?_⟩
  exact offD Nm (offL (offL (offL (offL hm))))
theorem KDIn.tup_mono {T T' : Led} {d : KD} {v : Value} (h : KDIn T d v) (hs : TSub T T') : KDIn T' d v := by
  cases d with
  | int i => exact h
  | pair p q => obtain ⟨a,t1,t2,e,hm⟩ := h;exact ⟨a,t1,t2,e,hs _ _ hm⟩
section
theorem make_use {B : BkA} {ts : List TRec} {BL ys : Led} {x : TRec} {aa : Addr} {vs : List Value} {to tso : Tok} {dv : Value} (Z : Sit w dp un cs outer A₀ base h₀ L m mean mg mb s (ys ++ BL) 2 60) (hB : Bk w B ts BL) (hy : ∀ y ∈ ys,AllNe y.1 BL)
    (hx1 : (aa,tup vs) ∈ ys ++ BL) (hx2 : IntsAre vs x.args) (hx3 : KDIn (ys ++ BL) x.data dv) (hx4 : x.op = Str.ofString "num" ↔ ∃ p q,x.data = .pair p q) (hz : ts.length ≤ 100)
    (ret : ∀ (i : Nat) (t : Tok) ts' BL' h' tk',Fr h₀ L h' m → After h₀ L s.heap (ys ++ BL) h' BL' → Bk w B ts' BL' → TSub (ys ++ BL) BL' → ts'[i]? = some x → 1 ≤ i → (ts' = ts ∨ ts' = ts ++ [x]) → Q (.int (i : Int) t) { s with heap := h',toks := tk' }) :
    wpAny (model PG w) (ktrTop dp un gd cn cs L a₁ ccd ce outer) (call (.ref 301) [.ref B.b,.str x.op to,.ref aa,.int x.sort tso,dv]) Q E s := by
  obtain ⟨n1,n2,n3,n4,ops,args,sorts,datas,oN,T,rfl,M,D,hb,hbd,R,Nm,off,hts⟩ := hB
  have up : TSub (ys ++ ((B.aO,listOf ops.toArray n1) :: (B.aA,listOf args.toArray n2) :: (B.aS,listOf sorts.toArray n3) :: (B.aD,listOf datas.toArray n4) :: (B.aN,oN) :: T)) (ys ++ T) := fun a vs hm => by
    rcases List.mem_append.mp hm with h | h
    · exact List.mem_append_left _ h
    · refine List.mem_append_right _ ?_
      exact offD Nm (offL (offL (offL (offL h))))
  have hT : ∀ p ∈ T,p ∈ ys ++ T := fun p hp => List.mem_append_right _ hp
  refine (make_spec w (n1 := n1) (n2 := n2) (n3 := n3) (n4 := n4) (es := B.es) (ne := B.ne) (T := ys ++ T) (vs := vs) (to := to) (tso := tso) M D (hT _ hb) (hT _ hbd) (RecsIn.mono R hT) (NumsIn.mono Nm hT) (fun q hq => ?_) (up _ _ hx1) hx2 (hx3.tup_mono up) hx4 hts hz).use Z (fun p hp => ?_) ?_
  · rcases List.mem_append.mp hq with h | h
    · have := hy q h
      exact ⟨this.1,this.2.1,this.2.2.1,this.2.2.2.1,this.2.2.2.2.1,trivial⟩
    · exact off q h
  · first | exact ins5 hp | exact out5 hp
  · intro r led' h' tk' F' A zq1
    obtain ⟨i,t,n1',n2',n3',n4',ops',args',sorts',datas',oN',T',ts',rfl,rfl,g1,g2,g3,g4,g5,g6,g7⟩ := zq1
    refine ret i t ts' _ h' tk' F' ⟨A.news,fun b o e n => A.kept b o e fun p hp => n p ?_,fun p hp => ?_⟩ ⟨n1',n2',n3',n4',ops',args',sorts',datas',oN',T',rfl,M,D,g1 _ (hT _ hb),g1 _ (hT _ hbd),g2,g3,g4,?_⟩ (fun a vs hm => .tail _ (.tail _ (.tail _ (.tail _ (.tail _ (g1 _ (up a vs hm))))))) g5 g6 g7
    · first | exact ins5 hp | exact out5 hp
    · rcases A.fresh p hp with ⟨q,hq,e⟩ | e
      · refine .inl ⟨q,?_,e⟩
        first | exact ins5 hq | exact out5 hq
      · exact .inr e
    · rcases g7 with e | e
      · rw [e];exact hts
      · rw [e];simp
end
structure BankX (es : List DictEntry) : Prop where
  nm : ∀ name ∈ [Str.ofString "make",Str.ofString "op",Str.ofString "args",Str.ofString "sort",Str.ofString "data",Str.ofString "want",Str.ofString "want_all",Str.ofString "num",Str.ofString "want_number",Str.ofString "is_number_sort",Str.ofString "plus",Str.ofString "times_num",Str.ofString "le",Str.ofString "lt",Str.ofString "eq",Str.ofString "true_term"],getL name es = some none
  tr : ∃ t,getL (Str.ofString "true_number") es = some (some (.int 1 t))
theorem item_led {prog : Program} {w : World} {A : Around} {E : Value → Shared → Prop} {s : Shared} {h₀ : Heap} {L l : Addr} {led : Led} {xs : List Value} {n i : Nat} {u : Tok} {v : Value} {Q : Value → Shared → Prop} {value slice : Expr} (N : News h₀ L s.heap led) (hm : (l,listOf xs.toArray n) ∈ led) (e : xs[i]? = some v) (hz : i ≤ 1000) (h : Q v s)
    (hs : subscripted slice false (.ref l) (.int (i : Int) u) = operate [.ref l,.int (i : Int) u] (getItem (.ref l) (.int (i : Int) u))) :
    wpAny (model prog w) A (subscriptTail value slice (.ref l) (.int (i : Int) u)) Q E s := by
  have hl : s.heap.IsList l xs.toArray := ⟨_,(N _ hm).1,rfl,_,rfl⟩
  exact tail_any hl.typeIs slot_list_getitem.lookup (wpAny_getItem_list hl (by omega) (by omega) (by simpa using e) h) hs
inductive BkGet (B : BkA) (BL : Led) (i : Nat) (r : TRec) : Prop
  | mk (n1 n2 n3 n4 : Nat) (ops args sorts datas vs : List Value) (to tso : Tok) (aa : Addr) (dv : Value) (c1 : (B.aO,listOf ops.toArray n1) ∈ BL) (c2 : (B.aA,listOf args.toArray n2) ∈ BL) (c3 : (B.aS,listOf sorts.toArray n3) ∈ BL) (c4 : (B.aD,listOf datas.toArray n4) ∈ BL) (c5 : ops[i]? = some (.str r.op to)) (c6 : args[i]? = some (.ref aa)) (c7 : sorts[i]? = some (.int r.sort tso)) (c8 : datas[i]? = some dv) (c9 : (aa,tup vs) ∈ BL) (c10 : IntsAre vs r.args) (c11 : KDIn BL r.data dv) : BkGet B BL i r
theorem Bk.get {w : World} {B : BkA} {ts : List TRec} {BL : Led} (h : Bk w B ts BL) {i : Nat} {r : TRec} (e : ts[i]? = some r) : BkGet B BL i r := by
  obtain ⟨n1,n2,n3,n4,ops,args,sorts,datas,oN,T,rfl,M,D,hb,hbd,R,Nm,off,hts⟩ := h
  refine x5_7 (R.at' i r e) ?_
  intro to aa tso dv vs a1 a2 a3 a4 a5 a6 a7
  have up : ∀ p ∈ T,p ∈ (B.aO,listOf ops.toArray n1) :: (B.aA,listOf args.toArray n2) :: (B.aS,listOf sorts.toArray n3) :: (B.aD,listOf datas.toArray n4) :: (B.aN,oN) :: T := fun p hp => .tail _ (.tail _ (.tail _ (.tail _ (.tail _ hp))))
  exact ⟨n1,n2,n3,n4,ops,args,sorts,datas,vs,to,tso,aa,dv,.head _,.tail _ (.head _),.tail _ (.tail _ (.head _)),.tail _ (.tail _ (.tail _ (.head _))),a1,a2,a3,a4,up _ a5,a6,a7.mono up⟩
theorem Bk.own {w : World} {B : BkA} {ts : List TRec} {BL : Led} (h : Bk w B ts BL) : (B.b,instObj 687 B.bd) ∈ BL ∧ (B.bd,dictOf B.es B.ne) ∈ BL ∧ BankM B.es B.aO B.aA B.aS B.aD B.aN := by
  obtain ⟨n1,n2,n3,n4,ops,args,sorts,datas,oN,T,rfl,M,D,hb,hbd,R,Nm,off,hts⟩ := h
  exact ⟨.tail _ (.tail _ (.tail _ (.tail _ (.tail _ hb)))),.tail _ (.tail _ (.tail _ (.tail _ (.tail _ hbd)))),M⟩
end
theorem set_29 : True := by
  k_with "!getMethod ref" => ((k_here;(with_reducible show wpAny _ _ (getMethod (Value.ref _) _ _) _ _ _);k_dflt (refine' method_inst ?q9k1 ?q9k2 ?q9k3 ?q9k4 ?q9k5 ?q9k6 ?q9k7 ?_;(case q9k1 => k_asm);(case q9k2 => k_asm);(case q9k3 => k_inst);(case q9k4 => k_is);(case q9k5 => k_is);(case q9k6 => k_is);(case q9k7 => exact BankX.nm (by assumption) _ (by decide +kernel));k_whole)))
  k_with "!subscriptTail" => ((k_here;(with_reducible show wpAny _ _ (subscriptTail _ _ (Value.ref _) (Value.int (Nat.cast _) _)) _ _ _);k_dflt (refine' item_led ?q9k1 ?q9k2 ?q9k3 ?q9k4 ?_ ?q9ks9;(case q9ks9 => with_unfolding_all rfl);(case q9k1 => k_asm);(case q9k2 => k_mem);(case q9k3 => assumption);(case q9k4 => omega);k_whole)))
  exact trivial
section
section
theorem op_use {B : BkA} {ts : List TRec} {BL : Led} {i : Nat} {r : TRec} {ti : Tok} (Z : Sit w dp un cs outer A₀ base h₀ L m mean mg mb s all 2 30) (hB : Bk w B ts BL) (hs : ∀ p ∈ BL,p ∈ all) (hr : ts[i]? = some r) (hi : i ≤ 1000)
    (ret : ∀ t h' tk',Fr h₀ L h' m → News h₀ L h' all → Q (.str r.op t) { s with heap := h',toks := tk' }) :
    wpAny (model PG w) (ktrTop dp un gd cn cs L a₁ ccd ce outer) (call (.ref 259) [.ref B.b,.int (i : Int) ti]) Q E s := by
  apply bx;simp(disch:=k_dflt(
  obtain ⟨Bl,F,X,N,T,hk,hd,hu⟩ := Z
  obtain ⟨n1,n2,n3,n4,ops,args,sorts,datas,vs,to,tso,aa,dv,g1,g2,g3,g4,g5,g6,g7,g8,g9,g10,g11⟩ := hB.get hr
  refine x0_3 hB.own ?_;(try clear hB.own)
  intro f1 f2 f3
  have f1 := hs _ f1
  have f2 := hs _ f2
  have g1 := hs _ g1
  have g2 := hs _ g2
  have g3 := hs _ g3
  have g4 := hs _ g4
  k_dflt (apply call_at (binds := [(Str.ofString "self",Value.ref B.b),(Str.ofString "t",Value.int (i : Int) ti)]));k_extra "H:o_rest"
  k_steps
  exact ret _ _ _ (by assumption) (by assumption)
  ))only[↓bx_eq]
theorem args_use {B : BkA} {ts : List TRec} {BL : Led} {i : Nat} {r : TRec} {ti : Tok} (Z : Sit w dp un cs outer A₀ base h₀ L m mean mg mb s all 2 30) (hB : Bk w B ts BL) (hs : ∀ p ∈ BL,p ∈ all) (hr : ts[i]? = some r) (hi : i ≤ 1000)
    (ret : ∀ aa vs h' tk',Fr h₀ L h' m → News h₀ L h' all → (aa,tup vs) ∈ BL → IntsAre vs r.args → Q (.ref aa) { s with heap := h',toks := tk' }) :
    wpAny (model PG w) (ktrTop dp un gd cn cs L a₁ ccd ce outer) (call (.ref 266) [.ref B.b,.int (i : Int) ti]) Q E s := by
  apply bx;simp(disch:=k_dflt(
  obtain ⟨Bl,F,X,N,T,hk,hd,hu⟩ := Z
  obtain ⟨n1,n2,n3,n4,ops,args,sorts,datas,vs,to,tso,aa,dv,g1,g2,g3,g4,g5,g6,g7,g8,g9,g10,g11⟩ := hB.get hr
  refine x0_3 hB.own ?_;(try clear hB.own)
  intro f1 f2 f3
  have f1 := hs _ f1
  have f2 := hs _ f2
  have g1 := hs _ g1
  have g2 := hs _ g2
  have g3 := hs _ g3
  have g4 := hs _ g4
  k_dflt (apply call_at (binds := [(Str.ofString "self",Value.ref B.b),(Str.ofString "t",Value.int (i : Int) ti)]));k_extra "H:o_rest"
  k_steps
  exact ret _ _ _ _ (by assumption) (by assumption) g9 g10
  ))only[↓bx_eq]
theorem sort_use {B : BkA} {ts : List TRec} {BL : Led} {i : Nat} {r : TRec} {ti : Tok} (Z : Sit w dp un cs outer A₀ base h₀ L m mean mg mb s all 2 30) (hB : Bk w B ts BL) (hs : ∀ p ∈ BL,p ∈ all) (hr : ts[i]? = some r) (hi : i ≤ 1000)
    (ret : ∀ t h' tk',Fr h₀ L h' m → News h₀ L h' all → Q (.int r.sort t) { s with heap := h',toks := tk' }) :
    wpAny (model PG w) (ktrTop dp un gd cn cs L a₁ ccd ce outer) (call (.ref 273) [.ref B.b,.int (i : Int) ti]) Q E s := by
  apply bx;simp(disch:=k_dflt(
  obtain ⟨Bl,F,X,N,T,hk,hd,hu⟩ := Z
  obtain ⟨n1,n2,n3,n4,ops,args,sorts,datas,vs,to,tso,aa,dv,g1,g2,g3,g4,g5,g6,g7,g8,g9,g10,g11⟩ := hB.get hr
  refine x0_3 hB.own ?_;(try clear hB.own)
  intro f1 f2 f3
  have f1 := hs _ f1
  have f2 := hs _ f2
  have g1 := hs _ g1
  have g2 := hs _ g2
  have g3 := hs _ g3
  have g4 := hs _ g4
  k_dflt (apply call_at (binds := [(Str.ofString "self",Value.ref B.b),(Str.ofString "t",Value.int (i : Int) ti)]));k_extra "H:o_rest"
  k_steps
  exact ret _ _ _ (by assumption) (by assumption)
  ))only[↓bx_eq]
theorem data_use {B : BkA} {ts : List TRec} {BL : Led} {i : Nat} {r : TRec} {ti : Tok} (Z : Sit w dp un cs outer A₀ base h₀ L m mean mg mb s all 2 30) (hB : Bk w B ts BL) (hs : ∀ p ∈ BL,p ∈ all) (hr : ts[i]? = some r) (hi : i ≤ 1000)
    (ret : ∀ dv h' tk',Fr h₀ L h' m → News h₀ L h' all → KDIn BL r.data dv → Q dv { s with heap := h',toks := tk' }) :
    wpAny (model PG w) (ktrTop dp un gd cn cs L a₁ ccd ce outer) (call (.ref 280) [.ref B.b,.int (i : Int) ti]) Q E s := by
  apply bx;simp(disch:=k_dflt(
  obtain ⟨Bl,F,X,N,T,hk,hd,hu⟩ := Z
  obtain ⟨n1,n2,n3,n4,ops,args,sorts,datas,vs,to,tso,aa,dv,g1,g2,g3,g4,g5,g6,g7,g8,g9,g10,g11⟩ := hB.get hr
  refine x0_3 hB.own ?_;(try clear hB.own)
  intro f1 f2 f3
  have f1 := hs _ f1
  have f2 := hs _ f2
  have g1 := hs _ g1
  have g2 := hs _ g2
  have g3 := hs _ g3
  have g4 := hs _ g4
  k_dflt (apply call_at (binds := [(Str.ofString "self",Value.ref B.b),(Str.ofString "t",Value.int (i : Int) ti)]));k_extra "H:o_rest"
  k_steps
  exact ret _ _ _ (by assumption) (by assumption) g11
  ))only[↓bx_eq]
theorem want_use {B : BkA} {ts : List TRec} {BL : Led} {i : Nat} {r : TRec} {ti tj : Tok} {wv : Value} {srt : Int} (Z : Sit w dp un cs outer A₀ base h₀ L m mean mg mb s all 2 30) (hB : Bk w B ts BL) (hs : ∀ p ∈ BL,p ∈ all) (hr : ts[i]? = some r) (hi : i ≤ 1000) (e : r.sort = srt)
    (ret : ∀ h' tk',Fr h₀ L h' m → News h₀ L h' all → Q .none { s with heap := h',toks := tk' }) :
    wpAny (model PG w) (ktrTop dp un gd cn cs L a₁ ccd ce outer) (call (.ref 322) [.ref B.b,.int (i : Int) ti,.int srt tj,wv]) Q E s := by
  apply bx;simp(disch:=k_dflt(
  subst e
  obtain ⟨Bl,F,X,N,T,hk,hd,hu⟩ := Z
  obtain ⟨n1,n2,n3,n4,ops,args,sorts,datas,vs,to,tso,aa,dv,g1,g2,g3,g4,g5,g6,g7,g8,g9,g10,g11⟩ := hB.get hr
  refine x0_3 hB.own ?_;(try clear hB.own)
  intro f1 f2 f3
  have f1 := hs _ f1
  have f2 := hs _ f2
  have g3 := hs _ g3
  k_dflt (apply call_at (binds := [(Str.ofString "self",Value.ref B.b),(Str.ofString "t",Value.int (i : Int) ti),(Str.ofString "s",Value.int r.sort tj),(Str.ofString "where",wv)]));k_extra "H:o_rest"
  k_steps
  all_goals first | exact ret _ _ (by assumption) (by assumption) | (exfalso;omega) | trace_state
  ))only[↓bx_eq]
theorem isnum_use {b : Value} {srt : Int} {ti : Tok} (Z : Sit w dp un cs outer A₀ base h₀ L m mean mg mb s all 1 20) (e : srt = 1 ∨ srt = 2)
    (ret : ∀ h' tk',Fr h₀ L h' m → News h₀ L h' all → Q (.bool true) { s with heap := h',toks := tk' }) :
    wpAny (model PG w) (ktrTop dp un gd cn cs L a₁ ccd ce outer) (call (.ref 196) [b,.int srt ti]) Q E s := by
  apply bx;simp(disch:=k_dflt(
  obtain ⟨Bl,F,X,N,T,hk,hd,hu⟩ := Z
  rcases e with e | e
  · subst e
    k_dflt (apply call_at (binds := [(Str.ofString "self",b),(Str.ofString "s",Value.int 1 ti)]));k_extra "H:o_rest"
    k_steps
    exact ret _ _ (by assumption) (by assumption)
  · subst e
    k_dflt (apply call_at (binds := [(Str.ofString "self",b),(Str.ofString "s",Value.int 2 ti)]));k_extra "H:o_rest"
    k_steps
    exact ret _ _ (by assumption) (by assumption)
  ))only[↓bx_eq]
theorem g6.on6 : True := trivial
open g6
theorem set_30 : True := by
  k_with "!call ref" => ((fail_if_success(fail_if_success have:=on6));(k_here;(with_reducible show wpAny _ _ (call (Value.ref 196) _) _ _ _);((try k_extra "H:folds");k_dflt (refine' isnum_use ?q9zS ?q9zh ?_);k_extra "H:ca2")))
  exact trivial
theorem wantn_use {B : BkA} {ts : List TRec} {BL : Led} {i : Nat} {r : TRec} {ti : Tok} {wv : Value} (Z : Sit w dp un cs outer A₀ base h₀ L m mean mg mb s all 3 40) (hB : Bk w B ts BL) (hX : BankX B.es) (hs : ∀ p ∈ BL,p ∈ all) (hr : ts[i]? = some r) (hi : i ≤ 1000) (e : r.sort = 1 ∨ r.sort = 2)
    (ret : ∀ h' tk',Fr h₀ L h' m → News h₀ L h' all → Q .none { s with heap := h',toks := tk' }) :
    wpAny (model PG w) (ktrTop dp un gd cn cs L a₁ ccd ce outer) (call (.ref 502) [.ref B.b,.int (i : Int) ti,wv]) Q E s := by
  apply bx;simp(disch:=k_dflt(
  obtain ⟨Bl,F,X,N,T,hk,hd,hu⟩ := Z
  obtain ⟨n1,n2,n3,n4,ops,args,sorts,datas,vs,to,tso,aa,dv,g1,g2,g3,g4,g5,g6,g7,g8,g9,g10,g11⟩ := hB.get hr
  refine x0_3 hB.own ?_;(try clear hB.own)
  intro f1 f2 f3
  have f1 := hs _ f1
  have f2 := hs _ f2
  have g3 := hs _ g3
  k_dflt (apply call_at (binds := [(Str.ofString "self",Value.ref B.b),(Str.ofString "t",Value.int (i : Int) ti),(Str.ofString "where",wv)]));k_extra "H:o_rest"
  k_steps
  exact ret _ _ (by assumption) (by assumption)
  ))only[↓bx_eq]
end
end
section
theorem shift_zero {x : Int} (n : Nat) (hn : 10 ≤ n) (h0 : 0 ≤ x) (h1 : x ≤ 1000) : x.fdiv (2 ^ n) = 0 := by
  have h2 : (0 : Int) ≤ 2 ^ n := Int.pow_nonneg (by decide)
  rw [Int.fdiv_eq_ediv_of_nonneg _ h2]
  refine Int.ediv_eq_zero_of_lt h0 ?_
  have h3 : (2 : Nat) ^ 10 ≤ 2 ^ n := Nat.pow_le_pow_right (by decide) hn
  have h4 : ((2 ^ 10 : Nat) : Int) ≤ ((2 ^ n : Nat) : Int) := Int.ofNat_le.mpr h3
  have h5 : ((2 ^ n : Nat) : Int) = (2 : Int) ^ n := by norm_cast
  have h6 : ((2 ^ 10 : Nat) : Int) = 1024 := by decide
  omega
section
variable {prog : Program} {w : World} {A : Around} {E : Value → Shared → Prop} {s : Shared}
theorem rsh0 {x n : Int} {t u : Tok} {Q : Value → Shared → Prop} (hn : 10 ≤ n) (h0 : 0 ≤ x) (h1 : x ≤ 1000) (h : ∀ t tk,Q (.int 0 t) { s with toks := tk }) : wpAny (model prog w) A (binaryOp .RShift (.int x t) (.int n u)) Q E s := by
  refine rshift_int (by omega) ?_
  rw [shift_zero n.toNat (by omega) h0 h1]
  exact h _ _
end
theorem abs_bd {p : Int} (h1 : -1000 ≤ p) (h2 : p ≤ 1000) : 0 ≤ (if p < 0 then -p else p) ∧ (if p < 0 then -p else p) ≤ 1000 := by split <;> omega
structure Grow (k : Nat) (ts ts' : List TRec) : Prop where
  up : ∀ (i : Nat) (r : TRec),ts[i]? = some r → ts'[i]? = some r
  len : ts'.length ≤ ts.length + k
  va : ∀ (i : Nat) (r : TRec),ts'[i]? = some r → r.op = Str.ofString "app" → ts[i]? = some r
theorem Grow.refl {ts : List TRec} : Grow 0 ts ts := ⟨fun _ _ h => h,Nat.le_refl _,fun _ _ h _ => h⟩
theorem Grow.trans {k l : Nat} {a b c : List TRec} (h : Grow k a b) (g : Grow l b c) : Grow (k + l) a c := ⟨fun i r e => g.1 i r (h.1 i r e),by have := h.2;have := g.2;omega,fun i r e o => h.va i r (g.va i r e o) o⟩
theorem Grow.le {k l : Nat} {a b : List TRec} (h : Grow k a b) (g : k ≤ l) : Grow l a b := ⟨h.1,by have := h.2;omega,h.va⟩
theorem op_apart : Str.ofString "num" ≠ Str.ofString "app" ∧ Str.ofString "*" ≠ Str.ofString "app" ∧ Str.ofString "+" ≠ Str.ofString "app" ∧ Str.ofString "<=" ≠ Str.ofString "app" ∧ Str.ofString "<" ≠ Str.ofString "app" ∧ Str.ofString "=" ≠ Str.ofString "app" := by decide +kernel
theorem grow_make {ts ts' : List TRec} {x : TRec} (h : ts' = ts ∨ ts' = ts ++ [x]) (hx : x.op ≠ Str.ofString "app") : Grow 1 ts ts' := by
  rcases h with rfl | rfl
  · exact Grow.refl.le (by decide)
  · refine ⟨fun i r e => get_snoc e,by simp,fun i r e o => ?_⟩
    rcases snoc_get e with e | ⟨_,e⟩
    · exact e
    · subst e;exact absurd o hx
noncomputable def Wf (ts : List TRec) : Prop := ∀ (j : Nat) (r : TRec),ts[j]? = some r → ∀ a ∈ r.args,0 ≤ a ∧ a < (j : Int)
theorem wf_make {ts ts' : List TRec} {x : TRec} (h : Wf ts) (hx : ∀ a ∈ x.args,0 ≤ a ∧ a < (ts.length : Int)) (e : ts' = ts ∨ ts' = ts ++ [x]) : Wf ts' := by
  rcases e with rfl | rfl
  · exact h
  · intro j r hj
    rcases snoc_get hj with hj | ⟨rfl,rfl⟩
    · exact h j r hj
    · exact hx
section
variable {prog : Program} {w : World} {A : Around} {E : Value → Shared → Prop} {s : Shared} {h₀ : Heap} {L : Addr} {led : Led} {a b : Value} {d e : Dat} {Q : Value → Shared → Prop}
theorem dat_eq (N : News h₀ L s.heap led) (Da : DatIn led a d) (Db : DatIn led b e) (ha : kqdOk 8 d = true) (hb : kqdOk 8 e = true) (hu : A.units + 64 < cLine) (h1 : d = e → Q (.bool true) s) (h2 : d ≠ e → Q (.bool false) s) :
    wpAny (model prog w) A (compareOp .Eq a b) Q E s := by
  refine x1_1 (kqd_in N 8 Da ha) ?_
  intro as ra
  refine x1_1 (kqd_in N 8 Db hb) ?_
  intro bs rb
  refine eq_dataH ra rb (dat_shaped ha) (dat_shaped hb) hu ?_
  by_cases q : d = e
  · rw [(dat_eqv ha hb).1 q];exact h1 q
  · rw [(dat_eqv ha hb).2 q];exact h2 q
end
section
theorem whole_use {va : Addr} {p q : Int} {t1 t2 : Tok} (Z : Sit w dp un cs outer A₀ base h₀ L m mean mg mb s all 1 20) (hv : (va,tup [.int p t1,.int q t2]) ∈ all)
    (ret : ∀ h' tk',Fr h₀ L h' m → News h₀ L h' all → Q (.bool (q == 1)) { s with heap := h',toks := tk' }) :
    wpAny (model PG w) (ktrTop dp un gd cn cs L a₁ ccd ce outer) (call (.ref 154) [.ref va]) Q E s := by
  apply bx;simp(disch:=k_dflt(
  obtain ⟨Bl,F,X,N,T,hk,hd,hu⟩ := Z
  k_dflt (apply call_at (binds := [(Str.ofString "a",Value.ref va)]));k_extra "H:o_rest"
  k_steps
  exact ret _ _ (by assumption) (by assumption)
  ))only[↓bx_eq]
theorem g7.on7 : True := trivial
open g7
theorem set_31 : True := by
  k_with "!binaryOp RShift int int" => ((fail_if_success(fail_if_success have:=on7));(k_here;k_dflt (refine rsh0 (by decide) (by first | assumption | omega) (by first | assumption | omega) ?_);intro _ _))
  exact trivial
theorem small_use {va : Addr} {p q : Int} {t1 t2 : Tok} (Z : Sit w dp un cs outer A₀ base h₀ L m mean mg mb s all 1 20) (hh : (va,tup [.int p t1,.int q t2]) ∈ all ∧ -1000 ≤ p ∧ p ≤ 1000 ∧ 0 ≤ q ∧ q ≤ 1000)
    (ret : ∀ h' tk',Fr h₀ L h' m → News h₀ L h' all → Q .none { s with heap := h',toks := tk' }) :
    wpAny (model PG w) (ktrTop dp un gd cn cs L a₁ ccd ce outer) (call (.ref 481) [.ref va]) Q E s := by
  apply bx;simp(disch:=k_dflt(
  obtain ⟨Bl,F,X,N,T,hk,hd,hu⟩ := Z
  refine x0_5 hh ?_;(try clear hh)
  intro hv h1 h2 h3 h4
  refine x0_2 (abs_bd h1 h2) ?_
  intro b1 b2
  k_dflt (apply call_at (binds := [(Str.ofString "value",Value.ref va)]));k_extra "H:o_rest"
  k_steps
  exact ret _ _ (by assumption) (by assumption)
  ))only[↓bx_eq]
theorem set_32 : True := by
  k_with "!call ref" => ((fail_if_success(fail_if_success have:=on7));(k_here;(with_reducible show wpAny _ _ (call (Value.ref 196) _) _ _ _);((try k_extra "H:folds");k_dflt (refine' isnum_use ?q9zS ?q9zh ?_);k_extra "H:ca2")))
  k_with "!call ref" => ((fail_if_success(fail_if_success have:=on7));(k_here;(with_reducible show wpAny _ _ (call (Value.ref 154) _) _ _ _);((try k_extra "H:folds");k_dflt (refine' whole_use ?q9zS ?q9zh ?_);k_extra "H:ca2")))
  k_with "!call ref" => ((fail_if_success(fail_if_success have:=on7));(k_here;(with_reducible show wpAny _ _ (call (Value.ref 481) _) _ _ _);((try k_extra "H:folds");k_dflt (refine' small_use ?q9zS ?q9zh ?_);k_extra "H:ca2")))
  k_with "!call ref" => ((fail_if_success(fail_if_success have:=on7));(k_here;(with_reducible show wpAny _ _ (call (Value.ref 301) _) _ _ _);refine stop_at ?_))
  exact trivial
noncomputable def numR (v srt : Int) : TRec := ⟨Str.ofString "num",[],srt,.pair v 1⟩
theorem num_use {B : BkA} {ts : List TRec} {BL ys : Led} {va : Addr} {v srt : Int} {t1 t2 t3 : Tok} (Z : Sit w dp un cs outer A₀ base h₀ L m mean mg mb s (ys ++ BL) 4 100) (hB : Bk w B ts BL) (hX : BankX B.es) (hy : ∀ y ∈ ys,AllNe y.1 BL) (hyt : ∀ y ∈ ys,∃ vs,y.2 = tup vs)
    (hv : (va,tup [.int v t1,.int 1 t2]) ∈ ys ++ BL) (e : srt = 1 ∨ srt = 2) (h1 : -1000 ≤ v) (h2 : v ≤ 1000) (hz : ts.length ≤ 100) (hw : Wf ts)
    (ret : ∀ (i : Nat) (t : Tok) ts' BL' h' tk',Fr h₀ L h' m → After h₀ L s.heap (ys ++ BL) h' BL' → Bk w B ts' BL' → TSub (ys ++ BL) BL' → ts'[i]? = some (numR v srt) → 1 ≤ i → Grow 1 ts ts' → Wf ts' → Q (.int (i : Int) t) { s with heap := h',toks := tk' }) :
    wpAny (model PG w) (ktrTop dp un gd cn cs L a₁ ccd ce outer) (call (.ref 495) [.ref B.b,.ref va,.int srt t3]) Q E s := by
  apply bx;simp(disch:=k_dflt(
  obtain ⟨Bl,F,X,N,T,hk,hd,hu⟩ := Z
  refine x0_3 hB.own ?_;(try clear hB.own)
  intro f1 f2 f3
  have f1 : (B.b,instObj 687 B.bd) ∈ ys ++ BL := List.mem_append_right _ f1
  have f2 : (B.bd,dictOf B.es B.ne) ∈ ys ++ BL := List.mem_append_right _ f2
  k_dflt (apply call_at (binds := [(Str.ofString "self",Value.ref B.b),(Str.ofString "value",Value.ref va),(Str.ofString "s",Value.int srt t3)]));k_extra "H:o_rest"
  k_steps
  all_goals
    refine stop_go ?_
    (try k_extra "H:folds")
    rename News _ _ _ _ => N9
    rename AllLt _ (ys ++ BL) => l8
    have l9 := allLt_mem l8
    k_dflt (refine make_use (ys := (_,tup []) :: ys) (BL := BL) (ts := ts) (x := numR v srt) (vs := []) ⟨by k_asm,by k_asm,by k_asm,N9,by k_asm,by first | exact rfl | assumption,by ktr_room,by ktr_units⟩ hB (List.forall_mem_cons.mpr ⟨allNe_of fun p hp => Nat.ne_of_lt (l9 p (List.mem_append_right _ hp)),hy⟩) (.head _) .nil ⟨va,t1,t2,rfl,.tail _ hv⟩ ⟨fun _ => ⟨v,1,rfl⟩,fun _ => rfl⟩ hz ?_)
    intro i t ts' BL' h' tk' F' A' hB' hT' g1 g2 g3
    have N' := A'.news
    k_steps
    exact ret i t ts' BL' _ _ (by assumption) (after_of (by assumption) (by assumption) (by assumption) (by assumption)) hB' (fun a vs h => hT' a vs (.tail _ h)) g1 g2 (grow_make g3 op_apart.1) (wf_make hw (fun a ha => by simp [numR] at ha) g3)
  ))only[↓bx_eq]
end
end
section
theorem Bk.add {w : World} {B : BkA} {ts : List TRec} {BL ys : Led} (h : Bk w B ts BL) (hy : ∀ y ∈ ys,AllNe y.1 BL) (_ : ∀ y ∈ ys,∃ vs,y.2 = tup vs) : ∃ BL',Bk w B ts BL' ∧ (∀ p ∈ BL',p ∈ ys ++ BL) ∧ ∀ p ∈ ys ++ BL,p ∈ BL' := by
  obtain ⟨n1,n2,n3,n4,ops,args,sorts,datas,oN,T,rfl,M,D,hb,hbd,R,Nm,off,hts⟩ := h
  have hT : ∀ p ∈ T,p ∈ ys ++ T := fun p hp => List.mem_append_right _ hp
  refine ⟨_,⟨n1,n2,n3,n4,ops,args,sorts,datas,oN,ys ++ T,rfl,M,D,hT _ hb,hT _ hbd,RecsIn.mono R hT,NumsIn.mono Nm hT,fun q hq => ?_,hts⟩,fun p hp => ?_,fun p hp => ?_⟩
  · rcases List.mem_append.mp hq with h | h
    · have := hy q h
      exact ⟨this.1,this.2.1,this.2.2.1,this.2.2.2.1,this.2.2.2.2.1,trivial⟩
    · exact off q h
  · first | exact ins5 hp | exact out5 hp
  · first | exact ins5 hp | exact out5 hp
section
theorem g8.on8 : True := trivial
open g8
theorem set_33 : True := by
  k_with "!call ref" => ((fail_if_success(fail_if_success have:=on8));(k_here;(with_reducible show wpAny _ _ (call (Value.ref 502) _) _ _ _);refine stop_at ?_))
  k_with "!call ref" => ((fail_if_success(fail_if_success have:=on8));(k_here;(with_reducible show wpAny _ _ (call (Value.ref 495) _) _ _ _);refine stop_at ?_))
  k_with "!call ref" => ((fail_if_success(fail_if_success have:=on8));(k_here;(with_reducible show wpAny _ _ (call (Value.ref 301) _) _ _ _);refine stop_at ?_))
  k_with "!call ref" => ((fail_if_success(fail_if_success have:=on8));(k_here;(with_reducible show wpAny _ _ (call (Value.ref 516) _) _ _ _);refine stop_at ?_))
  k_with "!call ref" => ((fail_if_success(fail_if_success have:=on8));(k_here;(with_reducible show wpAny _ _ (call (Value.ref 329) _) _ _ _);refine stop_at ?_))
  k_with "!call ref" => ((fail_if_success(fail_if_success have:=on8));(k_here;(with_reducible show wpAny _ _ (call (Value.ref 322) _) _ _ _);refine stop_at ?_))
  k_with "!compareOp Eq ref ref" => ((fail_if_success(fail_if_success have:=on8));(k_here;refine stop_at ?_))
  exact trivial
noncomputable def varR (srt d : Int) : TRec := ⟨Str.ofString "app",[],srt,.int d⟩
noncomputable def mulR (n i : Nat) (srt : Int) : TRec := ⟨Str.ofString "*",[(n : Int),(i : Int)],srt,.int 0⟩
noncomputable def IsTimes (ts : List TRec) (v srt : Int) (i j : Nat) : Prop := (v = 1 ∧ j = i) ∨ (v ≠ 1 ∧ ∃ n : Nat,ts[n]? = some (numR v srt) ∧ 1 ≤ n ∧ ts[j]? = some (mulR n i srt) ∧ 1 ≤ j)
theorem sit_of {un' : Nat} {D U D' U' : Nat} (Z : Sit w dp un cs outer A₀ base h₀ L m mean mg mb s all D U) (h1 : D' ≤ D) (h2 : U' ≤ U) : Sit w dp un cs outer A₀ base h₀ L m mean mg mb s all D' U' := ⟨Z.B,Z.F,Z.X,Z.N,Z.T,Z.hk,by have := Z.hd;omega,by have := Z.hu;omega⟩
theorem timesn_use {B : BkA} {ts : List TRec} {BL ys : Led} {va : Addr} {v srt d : Int} {i : Nat} {t1 t2 t3 : Tok} (Z : Sit w dp un cs outer A₀ base h₀ L m mean mg mb s (ys ++ BL) 6 140) (hB : Bk w B ts BL) (hX : BankX B.es) (hy : ∀ y ∈ ys,AllNe y.1 BL) (hyt : ∀ y ∈ ys,∃ vs,y.2 = tup vs)
    (hv : (va,tup [.int v t1,.int 1 t2]) ∈ ys ++ BL) (hr : ts[i]? = some (varR srt d)) (e : srt = 1 ∨ srt = 2) (h1 : -1000 ≤ v) (h2 : v ≤ 1000) (hz : ts.length ≤ 90) (hw : Wf ts)
    (ret : ∀ (j : Nat) (t : Tok) ts' BL' h' tk',Fr h₀ L h' m → After h₀ L s.heap (ys ++ BL) h' BL' → Bk w B ts' BL' → TSub (ys ++ BL) BL' → IsTimes ts' v srt i j → Grow 2 ts ts' → Wf ts' → Q (.int (j : Int) t) { s with heap := h',toks := tk' }) :
    wpAny (model PG w) (ktrTop dp un gd cn cs L a₁ ccd ce outer) (call (.ref 516) [.ref B.b,.ref va,.int (i : Int) t3]) Q E s := by
  apply bx;simp(disch:=k_dflt(
  obtain ⟨Bl,F,X,N,T,hk,hd,hu⟩ := Z
  have hil : i < ts.length := (List.getElem?_eq_some_iff.mp hr).1
  have app : ∀ p ∈ BL,p ∈ ys ++ BL := fun p hp => List.mem_append_right _ hp
  obtain ⟨n1,n2,n3,n4,ops,args,sorts,datas,vs,to,tso,aa,dv,g1,g2,g3,g4,g5,g6,g7,g8,g9,g10,g11⟩ := hB.get hr
  refine x0_3 hB.own ?_;(try clear hB.own)
  intro f1 f2 f3
  have f1 := app _ f1
  have f2 := app _ f2
  have g1 := app _ g1
  have g3 := app _ g3
  simp only [varR] at g5 g7
  k_dflt (apply call_at (binds := [(Str.ofString "self",Value.ref B.b),(Str.ofString "value",Value.ref va),(Str.ofString "t",Value.int (i : Int) t3)]));k_extra "H:o_rest"
  k_steps
  refine stop_go ?_
  (try k_extra "H:folds")
  k_dflt (refine wantn_use (ts := ts) ⟨by k_asm,by k_asm,by k_asm,by k_asm,by k_asm,by first | exact rfl | assumption,by ktr_room,by ktr_units⟩ hB hX app hr (by omega) e ?_)
  intro h5 tk5 F5 N5
  k_steps
  refine stop_go ?_
  (try k_extra "H:folds")
  rename News _ _ _ _ => N9
  rename AllLt _ (ys ++ BL) => l8
  have l9 := allLt_mem l8
  k_dflt (refine dat_eq N9 (DatIn.tuple (List.Mem.tail _ hv) (.cons (.int _ _) (.cons (.int _ _) .nil))) (DatIn.tuple (List.Mem.head _) (.cons (.int _ _) (.cons (.int _ _) .nil))) rfl rfl (by ktr_units) (fun e1 => ?_) (fun e1 => ?_))
  · have hv1 : v = 1 := by simpa using e1
    refine x1_3 (hB.add hy hyt) ?_
    intro BL' hB' b1 b2
    k_steps
    exact ret i t3 ts BL' _ _ (by assumption) ((after_of (by assumption) (by assumption) (by assumption) (by assumption)).sub fun p hp => .tail _ (b1 p hp)) hB' (fun a vs h => b2 _ h) (.inl ⟨hv1,rfl⟩) (Grow.refl.le (by decide)) hw
  · have hv1 : v ≠ 1 := fun x => e1 (by rw [x])
    k_steps
    refine stop_go ?_
    (try k_extra "H:folds")
    k_dflt (refine num_use (ys := (_,tup _) :: ys) (BL := BL) (ts := ts) (v := v) (srt := srt) ⟨by k_asm,by k_asm,by k_asm,N9,by k_asm,by first | exact rfl | assumption,by ktr_room,by ktr_units⟩ hB hX (List.forall_mem_cons.mpr ⟨allNe_of fun p hp => Nat.ne_of_lt (l9 p (List.mem_append_right _ hp)),hy⟩) (List.forall_mem_cons.mpr ⟨⟨_,rfl⟩,hyt⟩) (.tail _ hv) e h1 h2 (by omega) hw ?_)
    intro n tn ts1 BL1 h6 tk6 F6 A6 hB1 hT1 e2 e3 hG1 hw1
    have N6 := A6.news
    have hz1 := hG1.2
    k_steps
    refine stop_go ?_
    (try k_extra "H:folds")
    rename News _ _ _ ((_,_) :: BL1) => N9
    rename AllLt _ BL1 => l8
    have l9 := allLt_mem l8
    have hil1 : i < ts1.length := (List.getElem?_eq_some_iff.mp (hG1.1 _ _ hr)).1
    have hnl1 : n < ts1.length := (List.getElem?_eq_some_iff.mp e2).1
    k_dflt (refine make_use (ys := [(_,tup _)]) (BL := BL1) (ts := ts1) (x := mulR n i srt) (vs := [.int (n : Int) tn,.int (i : Int) t3]) ⟨by k_asm,by k_asm,by k_asm,N9,by k_asm,by first | exact rfl | assumption,by ktr_room,by ktr_units⟩ hB1 (List.forall_mem_singleton.mpr (allNe_of fun p hp => Nat.ne_of_lt (l9 p hp))) (.head _) (.cons _ _ (.cons _ _ .nil)) ⟨_,rfl⟩ ⟨fun h => absurd (show Str.ofString "*" = Str.ofString "num" from h) (by decide +kernel),fun h => let ⟨_,_,h⟩ := h;nomatch h⟩ (by omega) ?_)
    intro j tj ts2 BL2 h7 tk7 F7 A7 hB2 hT2 e4 e5 e6
    have N7 := A7.news
    have hG2 := grow_make e6 op_apart.2.1
    k_steps
    exact ret j tj ts2 BL2 _ _ (by assumption) (after_of (by assumption) (by assumption) (by assumption) (by assumption)) hB2 (fun a vs h => hT2 a vs (.tail _ (hT1 a vs (.tail _ h)))) (.inr ⟨hv1,n,hG2.1 _ _ e2,e3,e4,e5⟩) (hG1.trans hG2) (wf_make hw1 (fun a ha => by simp [mulR] at ha;omega) e6)
  ))only[↓bx_eq]
end
end
section
section
variable {prog : Program} {w : World} {A : Around} {E : Value → Shared → Prop} {s : Shared} {env : Env} {h₀ : Heap} {x : Str} {body : List Stmt} {Q : Flow → Shared → Prop}
noncomputable def CalmPost (h₀ : Heap) (L : Addr) (s₁ : Shared) (I : Addr) (it : Obj) (led : Led) (J : Mp → Prop) (Q : Flow → Shared → Prop) (f : Flow) (s₂ : Shared) : Prop :=
  match f with
  | .ret v => Q (.ret v) s₂
  | .brk => Q .next s₂
  | _ => StopAt (∃ h' tk m',s₂ = { s₁ with heap := h',toks := tk } ∧ Fr h₀ L h' m' ∧ News h₀ L h' ((I,it) :: led) ∧ J m')
theorem list_calm {ax : Addr} {vs : List Value} {n : Nat} {m₀ : Mp} {led : Led} (J : Mp → Prop) (hm : (ax,listOf vs.toArray n) ∈ led) (F : Fr h₀ env.locals s.heap m₀) (N : News h₀ env.locals s.heap led) (h0 : J m₀)
    (step : ∀ v ∈ vs,∀ I it h tk m,J m → AllNe I led → Fr h₀ env.locals h (fun y => if y = x then some v else m y) → News h₀ env.locals h ((I,it) :: led) → wpAny (model prog w) A (execs body env) (CalmPost h₀ env.locals { s with heap := h,toks := tk } I it led J Q) E { s with heap := h,toks := tk })
    (fin : ∀ h tk m,J m → Fr h₀ env.locals h m → News h₀ env.locals h led → Q .next { s with heap := h,toks := tk }) (hh : A.handled = none) :
    wpAny (model prog w) A (pyIter (.ref ax)) (fun it s₂ => LoopAtV prog w A h₀ env x body Q E it s₂) E s := by
  refine iter_listUnr hh F N hm rfl rfl fun I hI => ?_
  have nI : AllNe I led := allNe_of fun p hp => Nat.ne_of_lt (hI p hp)
  have go : ∀ r m,(∀ v ∈ r,v ∈ vs) → J m → ListRest prog w A E h₀ env x body Q s I (ax,listOf vs.toArray n) r m led := by
    intro r
    induction r with
    | nil => intro m _ j;exact ListRest.zero fun h tk F' N' => fin h tk m j F' N'
    | cons v r ih =>
      intro m hr j
      refine ListRest.succ fun it h tk hc F' N' => ?_
      refine wpAny_mono (step v (hr v (.head _)) I it h tk m j nI F' N') (fun f s₂ p => ?_) fun _ _ e => e
      cases f with
      | ret v => exact p
      | brk => exact p
      | next =>
        refine x3_4 p ?_;(try clear p)
        intro h' tk' m' e1 F1 N1 j1
        exact ⟨h',tk',m',led,e1,F1,N1,fun q hq => nI.get hq,hm,ih m' (fun u hu => hr u (.tail _ hu)) j1⟩
      | cont =>
        refine x3_4 p ?_;(try clear p)
        intro h' tk' m' e1 F1 N1 j1
        exact ⟨h',tk',m',led,e1,F1,N1,fun q hq => nI.get hq,hm,ih m' (fun u hu => hr u (.tail _ hu)) j1⟩
  exact go vs m₀ (fun _ h => h) h0
end
theorem ints_mem {vs : List Value} {ns : List Int} (h : IntsAre vs ns) : ∀ v ∈ vs,∃ n t,v = .int n t ∧ n ∈ ns := by
  induction h with
  | nil => intro v hv;exact nomatch hv
  | cons n t _ ih =>
    intro v hv
    rcases List.mem_cons.mp hv with rfl | hv
    · exact ⟨n,t,rfl,.head _⟩
    · refine x2_2 (ih v hv) ?_
      intro k u e hk
      exact ⟨k,u,e,.tail _ hk⟩
end
section
section
theorem g9.on9 : True := trivial
open g9
theorem set_34 : True := by
  k_with "!call ref" => ((fail_if_success(fail_if_success have:=on9));(k_here;(with_reducible show wpAny _ _ (call (Value.ref 502) _) _ _ _);refine stop_at ?_))
  k_with "!call ref" => ((fail_if_success(fail_if_success have:=on9));(k_here;(with_reducible show wpAny _ _ (call (Value.ref 495) _) _ _ _);refine stop_at ?_))
  k_with "!call ref" => ((fail_if_success(fail_if_success have:=on9));(k_here;(with_reducible show wpAny _ _ (call (Value.ref 301) _) _ _ _);refine stop_at ?_))
  k_with "!call ref" => ((fail_if_success(fail_if_success have:=on9));(k_here;(with_reducible show wpAny _ _ (call (Value.ref 516) _) _ _ _);refine stop_at ?_))
  k_with "!call ref" => ((fail_if_success(fail_if_success have:=on9));(k_here;(with_reducible show wpAny _ _ (call (Value.ref 329) _) _ _ _);refine stop_at ?_))
  k_with "!call ref" => ((fail_if_success(fail_if_success have:=on9));(k_here;(with_reducible show wpAny _ _ (call (Value.ref 322) _) _ _ _);refine stop_at ?_))
  k_with "!CalmPost" => ((fail_if_success(fail_if_success have:=on9));(dsimp only [CalmPost]))
  exact trivial
theorem wantall_use {B : BkA} {ts : List TRec} {BL : Led} {la : Addr} {vs : List Value} {ns : List Int} {nl : Nat} {tj : Tok} {wv : Value} {srt : Int} (Z : Sit w dp un cs outer A₀ base h₀ L m mean mg mb s all 4 60) (hB : Bk w B ts BL) (hX : BankX B.es) (hs : ∀ p ∈ BL,p ∈ all)
    (hl : (la,listOf vs.toArray nl) ∈ all) (hi : IntsAre vs ns) (hn : ∀ a ∈ ns,∃ (i : Nat) (r : TRec),a = (i : Int) ∧ ts[i]? = some r ∧ r.sort = srt ∧ i ≤ 1000)
    (ret : ∀ h' tk',Fr h₀ L h' m → News h₀ L h' all → Q .none { s with heap := h',toks := tk' }) :
    wpAny (model PG w) (ktrTop dp un gd cn cs L a₁ ccd ce outer) (call (.ref 329) [.ref B.b,.ref la,.int srt tj,wv]) Q E s := by
  apply bx;simp(disch:=k_dflt(
  obtain ⟨Bl,F,X,N,T,hk,hd,hu⟩ := Z
  refine x0_3 hB.own ?_;(try clear hB.own)
  intro f1 f2 f3
  have f1 := hs _ f1
  have f2 := hs _ f2
  k_dflt (apply call_at (binds := [(Str.ofString "self",Value.ref B.b),(Str.ofString "some",Value.ref la),(Str.ofString "s",Value.int srt tj),(Str.ofString "where",wv)]));k_extra "H:o_rest"
  k_steps
  refine stop_go ?_
  (try k_extra "H:folds")
  refine list_calm (fun m => m (Str.ofString "self") = some (.ref B.b) ∧ m (Str.ofString "s") = some (.int srt tj) ∧ m (Str.ofString "where") = some wv) hl (by assumption) (by assumption) ⟨by with_unfolding_all rfl,by with_unfolding_all rfl,by with_unfolding_all rfl⟩ ?step ?fin rfl
  case step =>
    intro v hv I it h tk m' zq1
    refine x0_3 zq1 ?_;(try clear zq1)
    intro e1 e2 e3
    intro nI F5 N5
    refine x2_2 (ints_mem (by assumption : IntsAre vs ns) v hv) ?_
    intro a ta
    rintro rfl
    intro ha
    refine x2_4 (hn a ha) ?_
    intro i r
    rintro rfl
    intro g1 g2 g3
    k_steps
    refine stop_go ?_
    (try k_extra "H:folds")
    k_dflt (refine want_use (ts := ts) (r := r) (srt := srt) ⟨by k_asm,by k_asm,by k_asm,by k_asm,by k_asm,by first | exact rfl | assumption,by ktr_room,by ktr_units⟩ hB (fun p hp => List.Mem.tail _ (hs p hp)) g1 g3 g2 ?_)
    intro h6 tk6 F6 N6
    k_steps
    exact stop_go ⟨_,_,_,rfl,F6,N6,by (k_extra "H:look"),by (k_extra "H:look"),by (k_extra "H:look")⟩
  case fin =>
    intro h tk m' zq2
    refine x0_3 zq2 ?_;(try clear zq2)
    intro e1 e2 e3
    intro F5 N5
    k_steps
    exact ret _ _ (by assumption) (by assumption)
  ))only[↓bx_eq]
end
end
section
theorem item_first {prog : Program} {w : World} {A : Around} {E : Value → Shared → Prop} {s : Shared} {h₀ : Heap} {L l : Addr} {led : Led} {xs : List Value} {n : Nat} {u : Tok} {v : Value} {Q : Value → Shared → Prop} {value slice : Expr} (N : News h₀ L s.heap led) (hm : (l,listOf (v :: xs).toArray n) ∈ led) (h : Q v s)
    (hs : subscripted slice false (.ref l) (.int 0 u) = operate [.ref l,.int 0 u] (getItem (.ref l) (.int 0 u))) :
    wpAny (model prog w) A (subscriptTail value slice (.ref l) (.int 0 u)) Q E s := by
  have hl : s.heap.IsList l (v :: xs).toArray := ⟨_,(N _ hm).1,rfl,_,rfl⟩
  exact tail_any hl.typeIs slot_list_getitem.lookup (wpAny_getItem_list hl (by decide) (by decide) (by simp) h) hs
noncomputable def plusR (args : List Int) (srt : Int) : TRec := ⟨Str.ofString "+",args,srt,.int 0⟩
section
theorem g10.on10 : True := trivial
open g10
theorem set_35 : True := by
  k_with "!call ref" => ((fail_if_success(fail_if_success have:=on10));(k_here;(with_reducible show wpAny _ _ (call (Value.ref 502) _) _ _ _);refine stop_at ?_))
  k_with "!call ref" => ((fail_if_success(fail_if_success have:=on10));(k_here;(with_reducible show wpAny _ _ (call (Value.ref 495) _) _ _ _);refine stop_at ?_))
  k_with "!call ref" => ((fail_if_success(fail_if_success have:=on10));(k_here;(with_reducible show wpAny _ _ (call (Value.ref 301) _) _ _ _);refine stop_at ?_))
  k_with "!call ref" => ((fail_if_success(fail_if_success have:=on10));(k_here;(with_reducible show wpAny _ _ (call (Value.ref 516) _) _ _ _);refine stop_at ?_))
  k_with "!call ref" => ((fail_if_success(fail_if_success have:=on10));(k_here;(with_reducible show wpAny _ _ (call (Value.ref 329) _) _ _ _);refine stop_at ?_))
  k_with "!call ref" => ((fail_if_success(fail_if_success have:=on10));(k_here;(with_reducible show wpAny _ _ (call (Value.ref 322) _) _ _ _);refine stop_at ?_))
  k_with "!subscriptTail" => ((fail_if_success(fail_if_success have:=on10));(k_here;(with_reducible show wpAny _ _ (subscriptTail _ _ (Value.ref _) (Value.int 0 _)) _ _ _);k_dflt (refine' item_first ?q9k1 ?q9k2 ?_ ?q9ks9;(case q9ks9 => with_unfolding_all rfl);(case q9k1 => k_asm);(case q9k2 => k_mem);k_whole)))
  exact trivial
theorem plus2_use {B : BkA} {ts : List TRec} {BL ys : Led} {la : Addr} {nl : Nat} {i j : Nat} {ti tj : Tok} {r1 r2 : TRec} {srt : Int} (Z : Sit w dp un cs outer A₀ base h₀ L m mean mg mb s (ys ++ BL) 6 140) (hB : Bk w B ts BL) (hX : BankX B.es) (hy : ∀ y ∈ ys,AllNe y.1 BL)
    (hl : (la,listOf ([.int (i : Int) ti,.int (j : Int) tj] : List Value).toArray nl) ∈ ys ++ BL) (hr1 : ts[i]? = some r1) (er1 : r1.sort = srt) (hr2 : ts[j]? = some r2) (er2 : r2.sort = srt) (e : srt = 1 ∨ srt = 2) (hz : ts.length ≤ 90) (hw : Wf ts)
    (ret : ∀ (j' : Nat) (t : Tok) ts' BL' h' tk',Fr h₀ L h' m → After h₀ L s.heap (ys ++ BL) h' BL' → Bk w B ts' BL' → TSub (ys ++ BL) BL' → ts'[j']? = some (plusR [(i : Int),(j : Int)] srt) → 1 ≤ j' → Grow 1 ts ts' → Wf ts' → Q (.int (j' : Int) t) { s with heap := h',toks := tk' }) :
    wpAny (model PG w) (ktrTop dp un gd cn cs L a₁ ccd ce outer) (call (.ref 509) [.ref B.b,.ref la]) Q E s := by
  apply bx;simp(disch:=k_dflt(
  obtain ⟨Bl,F,X,N,T,hk,hd,hu⟩ := Z
  have app : ∀ p ∈ BL,p ∈ ys ++ BL := fun p hp => List.mem_append_right _ hp
  obtain ⟨n1,n2,n3,n4,ops,args,sorts,datas,vs,to,tso,aa,dv,g1,g2,g3,g4,g5,g6,g7,g8,g9,g10,g11⟩ := hB.get hr1
  refine x0_3 hB.own ?_;(try clear hB.own)
  intro f1 f2 f3
  have f1 := app _ f1
  have f2 := app _ f2
  have g3 := app _ g3
  rw [er1] at g7
  have lr1 : i < ts.length := (List.getElem?_eq_some_iff.mp hr1).1
  have lr2 : j < ts.length := (List.getElem?_eq_some_iff.mp hr2).1
  k_dflt (apply call_at (binds := [(Str.ofString "self",Value.ref B.b),(Str.ofString "some",Value.ref la)]));k_extra "H:o_rest"
  k_steps
  refine stop_go ?_
  (try k_extra "H:folds")
  k_dflt (refine wantn_use (ts := ts) ⟨by k_asm,by k_asm,by k_asm,by k_asm,by k_asm,by first | exact rfl | assumption,by ktr_room,by ktr_units⟩ hB hX app hr1 (by omega) (by rw [er1];exact e) ?_)
  intro h5 tk5 F5 N5
  k_steps
  refine stop_go ?_
  (try k_extra "H:folds")
  k_dflt (refine wantall_use (ts := ts) (vs := [.int (i : Int) ti,.int (j : Int) tj]) (ns := [(i : Int),(j : Int)]) ⟨by k_asm,by k_asm,by k_asm,by k_asm,by k_asm,by first | exact rfl | assumption,by ktr_room,by ktr_units⟩ hB hX app hl (.cons _ _ (.cons _ _ .nil)) (fun a ha => ?_) ?_)
  · simp only [List.mem_cons,List.not_mem_nil,or_false] at ha
    rcases ha with rfl | rfl
    · exact ⟨i,r1,rfl,hr1,er1,by omega⟩
    · exact ⟨j,r2,rfl,hr2,er2,by omega⟩
  intro h6 tk6 F6 N6
  k_steps
  refine stop_go ?_
  (try k_extra "H:folds")
  rename News _ _ _ _ => N9
  rename (∀ p ∈ ys ++ BL,_) => l9
  k_dflt (refine make_use (ys := (_,tup _) :: ys) (BL := BL) (ts := ts) (x := plusR [(i : Int),(j : Int)] srt) (vs := [.int (i : Int) ti,.int (j : Int) tj]) ⟨by k_asm,by k_asm,by k_asm,N9,by k_asm,by first | exact rfl | assumption,by ktr_room,by ktr_units⟩ hB (List.forall_mem_cons.mpr ⟨allNe_of fun p hp => Nat.ne_of_lt (l9 p (List.mem_append_right _ hp)),hy⟩) (.head _) (.cons _ _ (.cons _ _ .nil)) ⟨_,rfl⟩ ⟨fun h => absurd (show Str.ofString "+" = Str.ofString "num" from h) (by decide +kernel),fun h => let ⟨_,_,h⟩ := h;nomatch h⟩ (by omega) ?_)
  intro j' tj' ts2 BL2 h7 tk7 F7 A7 hB2 hT2 e4 e5 e6
  have N7 := A7.news
  k_steps
  exact ret j' tj' ts2 BL2 _ _ (by assumption) (after_of (by assumption) (by assumption) (by assumption) (by assumption)) hB2 (fun a vs h => hT2 a vs (.tail _ h)) e4 e5 (grow_make e6 op_apart.2.2.1) (wf_make hw (fun a ha => by simp [plusR] at ha;omega) e6)
  ))only[↓bx_eq]
theorem plus3_use {B : BkA} {ts : List TRec} {BL ys : Led} {la : Addr} {nl : Nat} {i j k : Nat} {ti tj tc : Tok} {r1 r2 r3 : TRec} {srt : Int} (Z : Sit w dp un cs outer A₀ base h₀ L m mean mg mb s (ys ++ BL) 6 140) (hB : Bk w B ts BL) (hX : BankX B.es) (hy : ∀ y ∈ ys,AllNe y.1 BL)
    (hl : (la,listOf ([.int (i : Int) ti,.int (j : Int) tj,.int (k : Int) tc] : List Value).toArray nl) ∈ ys ++ BL) (hr1 : ts[i]? = some r1) (er1 : r1.sort = srt) (hr2 : ts[j]? = some r2) (er2 : r2.sort = srt) (hr3 : ts[k]? = some r3) (er3 : r3.sort = srt) (e : srt = 1 ∨ srt = 2) (hz : ts.length ≤ 90) (hw : Wf ts)
    (ret : ∀ (j' : Nat) (t : Tok) ts' BL' h' tk',Fr h₀ L h' m → After h₀ L s.heap (ys ++ BL) h' BL' → Bk w B ts' BL' → TSub (ys ++ BL) BL' → ts'[j']? = some (plusR [(i : Int),(j : Int),(k : Int)] srt) → 1 ≤ j' → Grow 1 ts ts' → Wf ts' → Q (.int (j' : Int) t) { s with heap := h',toks := tk' }) :
    wpAny (model PG w) (ktrTop dp un gd cn cs L a₁ ccd ce outer) (call (.ref 509) [.ref B.b,.ref la]) Q E s := by
  apply bx;simp(disch:=k_dflt(
  obtain ⟨Bl,F,X,N,T,hk,hd,hu⟩ := Z
  have app : ∀ p ∈ BL,p ∈ ys ++ BL := fun p hp => List.mem_append_right _ hp
  obtain ⟨n1,n2,n3,n4,ops,args,sorts,datas,vs,to,tso,aa,dv,g1,g2,g3,g4,g5,g6,g7,g8,g9,g10,g11⟩ := hB.get hr1
  refine x0_3 hB.own ?_;(try clear hB.own)
  intro f1 f2 f3
  have f1 := app _ f1
  have f2 := app _ f2
  have g3 := app _ g3
  rw [er1] at g7
  have lr1 : i < ts.length := (List.getElem?_eq_some_iff.mp hr1).1
  have lr2 : j < ts.length := (List.getElem?_eq_some_iff.mp hr2).1
  have lr3 : k < ts.length := (List.getElem?_eq_some_iff.mp hr3).1
  k_dflt (apply call_at (binds := [(Str.ofString "self",Value.ref B.b),(Str.ofString "some",Value.ref la)]));k_extra "H:o_rest"
  k_steps
  refine stop_go ?_
  (try k_extra "H:folds")
  k_dflt (refine wantn_use (ts := ts) ⟨by k_asm,by k_asm,by k_asm,by k_asm,by k_asm,by first | exact rfl | assumption,by ktr_room,by ktr_units⟩ hB hX app hr1 (by omega) (by rw [er1];exact e) ?_)
  intro h5 tk5 F5 N5
  k_steps
  refine stop_go ?_
  (try k_extra "H:folds")
  k_dflt (refine wantall_use (ts := ts) (vs := [.int (i : Int) ti,.int (j : Int) tj,.int (k : Int) tc]) (ns := [(i : Int),(j : Int),(k : Int)]) ⟨by k_asm,by k_asm,by k_asm,by k_asm,by k_asm,by first | exact rfl | assumption,by ktr_room,by ktr_units⟩ hB hX app hl (.cons _ _ (.cons _ _ (.cons _ _ .nil))) (fun a ha => ?_) ?_)
  · simp only [List.mem_cons,List.not_mem_nil,or_false] at ha
    rcases ha with rfl | rfl | rfl
    · exact ⟨i,r1,rfl,hr1,er1,by omega⟩
    · exact ⟨j,r2,rfl,hr2,er2,by omega⟩
    · exact ⟨k,r3,rfl,hr3,er3,by omega⟩
  intro h6 tk6 F6 N6
  k_steps
  refine stop_go ?_
  (try k_extra "H:folds")
  rename News _ _ _ _ => N9
  rename (∀ p ∈ ys ++ BL,_) => l9
  k_dflt (refine make_use (ys := (_,tup _) :: ys) (BL := BL) (ts := ts) (x := plusR [(i : Int),(j : Int),(k : Int)] srt) (vs := [.int (i : Int) ti,.int (j : Int) tj,.int (k : Int) tc]) ⟨by k_asm,by k_asm,by k_asm,N9,by k_asm,by first | exact rfl | assumption,by ktr_room,by ktr_units⟩ hB (List.forall_mem_cons.mpr ⟨allNe_of fun p hp => Nat.ne_of_lt (l9 p (List.mem_append_right _ hp)),hy⟩) (.head _) (.cons _ _ (.cons _ _ (.cons _ _ .nil))) ⟨_,rfl⟩ ⟨fun h => absurd (show Str.ofString "+" = Str.ofString "num" from h) (by decide +kernel),fun h => let ⟨_,_,h⟩ := h;nomatch h⟩ (by omega) ?_)
  intro j' tj' ts2 BL2 h7 tk7 F7 A7 hB2 hT2 e4 e5 e6
  have N7 := A7.news
  k_steps
  exact ret j' tj' ts2 BL2 _ _ (by assumption) (after_of (by assumption) (by assumption) (by assumption) (by assumption)) hB2 (fun a vs h => hT2 a vs (.tail _ h)) e4 e5 (grow_make e6 op_apart.2.2.1) (wf_make hw (fun a ha => by simp [plusR] at ha;omega) e6)
  ))only[↓bx_eq]
end
end
section
section
theorem g11.on11 : True := trivial
open g11
theorem set_36 : True := by
  k_with "!call ref" => ((fail_if_success(fail_if_success have:=on11));(k_here;(with_reducible show wpAny _ _ (call (Value.ref 502) _) _ _ _);refine stop_at ?_))
  k_with "!call ref" => ((fail_if_success(fail_if_success have:=on11));(k_here;(with_reducible show wpAny _ _ (call (Value.ref 495) _) _ _ _);refine stop_at ?_))
  k_with "!call ref" => ((fail_if_success(fail_if_success have:=on11));(k_here;(with_reducible show wpAny _ _ (call (Value.ref 301) _) _ _ _);refine stop_at ?_))
  k_with "!call ref" => ((fail_if_success(fail_if_success have:=on11));(k_here;(with_reducible show wpAny _ _ (call (Value.ref 516) _) _ _ _);refine stop_at ?_))
  k_with "!call ref" => ((fail_if_success(fail_if_success have:=on11));(k_here;(with_reducible show wpAny _ _ (call (Value.ref 329) _) _ _ _);refine stop_at ?_))
  k_with "!call ref" => ((fail_if_success(fail_if_success have:=on11));(k_here;(with_reducible show wpAny _ _ (call (Value.ref 322) _) _ _ _);refine stop_at ?_))
  k_with "H:oc_rest" => ((fail_if_success(fail_if_success have:=on11));(k_dflt ((case hA => exact rfl);(case hf => exact rfl);(case hke => assumption);(case B => k_asm);(case F => k_asm);(case X₀ => k_asm);(case N => k_asm);(case T => k_asm);(case ho => k_is);(case hcd => k_is);(case hroom => ktr_room);(case hbind => exact BindsTo.of_eq rfl);(case hcell => decide);(case hloc => exact locs rfl);(case hco => exact rfl);(case hgen => exact rfl);(case hk => exact rfl);k_whole;intro _ _ _ _ _ _ q9B' _ _ _;(try dsimp only);(try k_lift q9B');(try k_fold))))
  exact trivial
noncomputable def atomR (op : Str) (i j : Nat) : TRec := ⟨op,[(i : Int),(j : Int)],0,.int 0⟩
theorem le_use {B : BkA} {ts : List TRec} {BL : Led} {i j : Nat} {ti tj : Tok} {r1 r2 : TRec} {srt : Int} (Z : Sit w dp un cs outer A₀ base h₀ L m mean mg mb s BL 6 140) (hB : Bk w B ts BL) (hX : BankX B.es)
    (hr1 : ts[i]? = some r1) (er1 : r1.sort = srt) (hr2 : ts[j]? = some r2) (er2 : r2.sort = srt) (e : srt = 1 ∨ srt = 2) (hz : ts.length ≤ 90) (hw : Wf ts)
    (ret : ∀ (k : Nat) (t : Tok) ts' BL' h' tk',Fr h₀ L h' m → After h₀ L s.heap BL h' BL' → Bk w B ts' BL' → TSub BL BL' → ts'[k]? = some (atomR (Str.ofString "<=") i j) → 1 ≤ k → Grow 1 ts ts' → Wf ts' → Q (.int (k : Int) t) { s with heap := h',toks := tk' }) :
    codeAny (model PG w) (ktrTop dp un gd cn cs L a₁ ccd ce outer) (.call (.ref 551) ⟨[.ref B.b,.int (i : Int) ti,.int (j : Int) tj],[]⟩) (fun r s' => match r with | .ok (.ret v) => Q v s' | .ok _ => False | .error e => E e s') s := by
  apply bx;simp(disch:=k_dflt(
  obtain ⟨Bl,F,X,N,T,hk,hd,hu⟩ := Z
  obtain ⟨n1,n2,n3,n4,ops,args,sorts,datas,vs,to,tso,aa,dv,g1,g2,g3,g4,g5,g6,g7,g8,g9,g10,g11⟩ := hB.get hr1
  refine x0_3 hB.own ?_;(try clear hB.own)
  intro f1 f2 f3
  rw [er1] at g7
  have lr1 : i < ts.length := (List.getElem?_eq_some_iff.mp hr1).1
  have lr2 : j < ts.length := (List.getElem?_eq_some_iff.mp hr2).1
  k_dflt (apply code_at (binds := [(Str.ofString "self",Value.ref B.b),(Str.ofString "a",Value.int (i : Int) ti),(Str.ofString "b",Value.int (j : Int) tj)]));k_extra "H:oc_rest"
  k_steps
  refine stop_go ?_
  (try k_extra "H:folds")
  k_dflt (refine wantn_use (ts := ts) ⟨by k_asm,by k_asm,by k_asm,by k_asm,by k_asm,by first | exact rfl | assumption,by ktr_room,by ktr_units⟩ hB hX sub_all hr1 (by omega) (by rw [er1];exact e) ?_)
  intro h5 tk5 F5 N5
  k_steps
  refine stop_go ?_
  (try k_extra "H:folds")
  k_dflt (refine want_use (ts := ts) (r := r2) (srt := srt) ⟨by k_asm,by k_asm,by k_asm,by k_asm,by k_asm,by first | exact rfl | assumption,by ktr_room,by ktr_units⟩ hB sub_all hr2 (by omega) er2 ?_)
  intro h6 tk6 F6 N6
  k_steps
  refine stop_go ?_
  (try k_extra "H:folds")
  rename News _ _ _ _ => N9
  rename AllLt _ BL => l8
  have l9 := allLt_mem l8
  k_dflt (refine make_use (ys := [(_,tup _)]) (BL := BL) (ts := ts) (x := atomR (Str.ofString "<=") i j) (vs := [.int (i : Int) ti,.int (j : Int) tj]) ⟨by k_asm,by k_asm,by k_asm,N9,by k_asm,by first | exact rfl | assumption,by ktr_room,by ktr_units⟩ hB (List.forall_mem_singleton.mpr (allNe_of fun p hp => Nat.ne_of_lt (l9 p hp))) (.head _) (.cons _ _ (.cons _ _ .nil)) ⟨_,rfl⟩ ⟨fun h => absurd (show Str.ofString "<=" = Str.ofString "num" from h) (by decide +kernel),fun h => let ⟨_,_,h⟩ := h;nomatch h⟩ (by omega) ?_)
  intro k tk ts2 BL2 h7 tk7 F7 A7 hB2 hT2 e4 e5 e6
  have N7 := A7.news
  k_steps
  exact ret k tk ts2 BL2 _ _ (by assumption) (after_of (by assumption) (by assumption) (by assumption) (by assumption)) hB2 (fun a vs h => hT2 a vs (.tail _ h)) e4 e5 (grow_make e6 op_apart.2.2.2.1) (wf_make hw (fun a ha => by simp [atomR] at ha;omega) e6)
  ))only[↓bx_eq]
theorem lt_use {B : BkA} {ts : List TRec} {BL : Led} {i j : Nat} {ti tj : Tok} {r1 r2 : TRec} {srt : Int} (Z : Sit w dp un cs outer A₀ base h₀ L m mean mg mb s BL 6 140) (hB : Bk w B ts BL) (hX : BankX B.es)
    (hr1 : ts[i]? = some r1) (er1 : r1.sort = srt) (hr2 : ts[j]? = some r2) (er2 : r2.sort = srt) (e : srt = 1 ∨ srt = 2) (hz : ts.length ≤ 90) (hw : Wf ts)
    (ret : ∀ (k : Nat) (t : Tok) ts' BL' h' tk',Fr h₀ L h' m → After h₀ L s.heap BL h' BL' → Bk w B ts' BL' → TSub BL BL' → ts'[k]? = some (atomR (Str.ofString "<") i j) → 1 ≤ k → Grow 1 ts ts' → Wf ts' → Q (.int (k : Int) t) { s with heap := h',toks := tk' }) :
    codeAny (model PG w) (ktrTop dp un gd cn cs L a₁ ccd ce outer) (.call (.ref 558) ⟨[.ref B.b,.int (i : Int) ti,.int (j : Int) tj],[]⟩) (fun r s' => match r with | .ok (.ret v) => Q v s' | .ok _ => False | .error e => E e s') s := by
  apply bx;simp(disch:=k_dflt(
  obtain ⟨Bl,F,X,N,T,hk,hd,hu⟩ := Z
  obtain ⟨n1,n2,n3,n4,ops,args,sorts,datas,vs,to,tso,aa,dv,g1,g2,g3,g4,g5,g6,g7,g8,g9,g10,g11⟩ := hB.get hr1
  refine x0_3 hB.own ?_;(try clear hB.own)
  intro f1 f2 f3
  rw [er1] at g7
  have lr1 : i < ts.length := (List.getElem?_eq_some_iff.mp hr1).1
  have lr2 : j < ts.length := (List.getElem?_eq_some_iff.mp hr2).1
  k_dflt (apply code_at (binds := [(Str.ofString "self",Value.ref B.b),(Str.ofString "a",Value.int (i : Int) ti),(Str.ofString "b",Value.int (j : Int) tj)]));k_extra "H:oc_rest"
  k_steps
  refine stop_go ?_
  (try k_extra "H:folds")
  k_dflt (refine wantn_use (ts := ts) ⟨by k_asm,by k_asm,by k_asm,by k_asm,by k_asm,by first | exact rfl | assumption,by ktr_room,by ktr_units⟩ hB hX sub_all hr1 (by omega) (by rw [er1];exact e) ?_)
  intro h5 tk5 F5 N5
  k_steps
  refine stop_go ?_
  (try k_extra "H:folds")
  k_dflt (refine want_use (ts := ts) (r := r2) (srt := srt) ⟨by k_asm,by k_asm,by k_asm,by k_asm,by k_asm,by first | exact rfl | assumption,by ktr_room,by ktr_units⟩ hB sub_all hr2 (by omega) er2 ?_)
  intro h6 tk6 F6 N6
  k_steps
  refine stop_go ?_
  (try k_extra "H:folds")
  rename News _ _ _ _ => N9
  rename AllLt _ BL => l8
  have l9 := allLt_mem l8
  k_dflt (refine make_use (ys := [(_,tup _)]) (BL := BL) (ts := ts) (x := atomR (Str.ofString "<") i j) (vs := [.int (i : Int) ti,.int (j : Int) tj]) ⟨by k_asm,by k_asm,by k_asm,N9,by k_asm,by first | exact rfl | assumption,by ktr_room,by ktr_units⟩ hB (List.forall_mem_singleton.mpr (allNe_of fun p hp => Nat.ne_of_lt (l9 p hp))) (.head _) (.cons _ _ (.cons _ _ .nil)) ⟨_,rfl⟩ ⟨fun h => absurd (show Str.ofString "<" = Str.ofString "num" from h) (by decide +kernel),fun h => let ⟨_,_,h⟩ := h;nomatch h⟩ (by omega) ?_)
  intro k tk ts2 BL2 h7 tk7 F7 A7 hB2 hT2 e4 e5 e6
  have N7 := A7.news
  k_steps
  exact ret k tk ts2 BL2 _ _ (by assumption) (after_of (by assumption) (by assumption) (by assumption) (by assumption)) hB2 (fun a vs h => hT2 a vs (.tail _ h)) e4 e5 (grow_make e6 op_apart.2.2.2.2.1) (wf_make hw (fun a ha => by simp [atomR] at ha;omega) e6)
  ))only[↓bx_eq]
theorem set_37 : True := by
  k_with "!getAttr ref" => ((fail_if_success(fail_if_success have:=on11));(k_here;(with_reducible show wpAny _ _ (getAttr (Value.ref _) (Str.ofString "true_number") _) _ _ _);k_dflt (refine' get_own ?q9k1 ?q9k2 ?q9k3 ?q9k4 ?q9k5 ?q9k6 ?q9k7 ?q9k8 ?q9k9 ?_;(case q9k1 => k_asm);(case q9k2 => k_asm);(case q9k3 => k_inst);(case q9k4 => k_is);(case q9k5 => k_is);(case q9k6 => k_is);(case q9k7 => k_is);(case q9k8 => assumption);(case q9k9 => k_handed);k_whole)))
  exact trivial
theorem eq_use {B : BkA} {ts : List TRec} {BL : Led} {i j : Nat} {ti tj : Tok} {r1 r2 : TRec} {srt : Int} (Z : Sit w dp un cs outer A₀ base h₀ L m mean mg mb s BL 6 140) (hB : Bk w B ts BL) (hX : BankX B.es)
    (hr1 : ts[i]? = some r1) (er1 : r1.sort = srt) (hr2 : ts[j]? = some r2) (er2 : r2.sort = srt) (hz : ts.length ≤ 90) (hw : Wf ts)
    (ret : ∀ (k : Nat) (t : Tok) ts' BL' h' tk',Fr h₀ L h' m → After h₀ L s.heap BL h' BL' → Bk w B ts' BL' → TSub BL BL' → ((i = j ∧ k = 1) ∨ (i ≠ j ∧ 1 ≤ k ∧ (ts'[k]? = some (atomR (Str.ofString "=") i j) ∨ ts'[k]? = some (atomR (Str.ofString "=") j i)))) → Grow 1 ts ts' → Wf ts' → Q (.int (k : Int) t) { s with heap := h',toks := tk' }) :
    codeAny (model PG w) (ktrTop dp un gd cn cs L a₁ ccd ce outer) (.call (.ref 427) ⟨[.ref B.b,.int (i : Int) ti,.int (j : Int) tj],[]⟩) (fun r s' => match r with | .ok (.ret v) => Q v s' | .ok _ => False | .error e => E e s') s := by
  apply bx;simp(disch:=k_dflt(
  obtain ⟨Bl,F,X,N,T,hk,hd,hu⟩ := Z
  obtain ⟨n1,n2,n3,n4,ops,args,sorts,datas,vs,to,tso,aa,dv,g1,g2,g3,g4,g5,g6,g7,g8,g9,g10,g11⟩ := hB.get hr1
  refine x0_3 hB.own ?_;(try clear hB.own)
  intro f1 f2 f3
  refine x1_1 hX.tr ?_;(try clear hX.tr)
  intro ttr f4
  rw [er1] at g7
  have lr1 : i < ts.length := (List.getElem?_eq_some_iff.mp hr1).1
  have lr2 : j < ts.length := (List.getElem?_eq_some_iff.mp hr2).1
  k_dflt (apply code_at (binds := [(Str.ofString "self",Value.ref B.b),(Str.ofString "a",Value.int (i : Int) ti),(Str.ofString "b",Value.int (j : Int) tj)]));k_extra "H:oc_rest"
  k_steps
  refine stop_go ?_
  (try k_extra "H:folds")
  k_dflt (refine want_use (ts := ts) (r := r2) (srt := srt) ⟨by k_asm,by k_asm,by k_asm,by k_asm,by k_asm,by first | exact rfl | assumption,by ktr_room,by ktr_units⟩ hB sub_all hr2 (by omega) er2 ?_)
  intro h6 tk6 F6 N6
  k_steps
  · exact ret 1 _ ts BL _ _ (by assumption) (after_of (by assumption) (by assumption) (by assumption) (by assumption)) hB (fun _ _ h => h) (.inl ⟨by omega,rfl⟩) (Grow.refl.le (by decide)) hw
  · refine stop_go ?_
    (try k_extra "H:folds")
    rename News _ _ _ _ => N9
    rename AllLt _ BL => l8
    have l9 := allLt_mem l8
    by_cases c : (j : Int) < (i : Int)
    · have c' : ¬ ((j : Int) > (i : Int)) := by omega
      simp +zetaDelta only [if_pos c,if_neg c'] at N9
      k_dflt (refine make_use (ys := [(_,tup _)]) (BL := BL) (ts := ts) (x := atomR (Str.ofString "=") j i) (vs := [.int (j : Int) tj,.int (i : Int) ti]) ⟨by k_asm,by k_asm,by k_asm,N9,by k_asm,by first | exact rfl | assumption,by ktr_room,by ktr_units⟩ hB (List.forall_mem_singleton.mpr (allNe_of fun p hp => Nat.ne_of_lt (l9 p hp))) (.head _) (.cons _ _ (.cons _ _ .nil)) ⟨_,rfl⟩ ⟨fun h => absurd (show Str.ofString "=" = Str.ofString "num" from h) (by decide +kernel),fun h => let ⟨_,_,h⟩ := h;nomatch h⟩ (by omega) ?_)
      intro k tk ts2 BL2 h7 tk7 F7 A7 hB2 hT2 e4 e5 e6
      have N7 := A7.news
      k_steps
      exact ret k tk ts2 BL2 _ _ (by assumption) (after_of (by assumption) (by assumption) (by assumption) (by assumption)) hB2 (fun a vs h => hT2 a vs (.tail _ h)) (.inr ⟨by omega,e5,.inr e4⟩) (grow_make e6 op_apart.2.2.2.2.2) (wf_make hw (fun a ha => by simp [atomR] at ha;omega) e6)
    · have c' : (j : Int) > (i : Int) := by omega
      simp +zetaDelta only [if_neg c,if_pos c'] at N9
      k_dflt (refine make_use (ys := [(_,tup _)]) (BL := BL) (ts := ts) (x := atomR (Str.ofString "=") i j) (vs := [.int (i : Int) ti,.int (j : Int) tj]) ⟨by k_asm,by k_asm,by k_asm,N9,by k_asm,by first | exact rfl | assumption,by ktr_room,by ktr_units⟩ hB (List.forall_mem_singleton.mpr (allNe_of fun p hp => Nat.ne_of_lt (l9 p hp))) (.head _) (.cons _ _ (.cons _ _ .nil)) ⟨_,rfl⟩ ⟨fun h => absurd (show Str.ofString "=" = Str.ofString "num" from h) (by decide +kernel),fun h => let ⟨_,_,h⟩ := h;nomatch h⟩ (by omega) ?_)
      intro k tk ts2 BL2 h7 tk7 F7 A7 hB2 hT2 e4 e5 e6
      have N7 := A7.news
      k_steps
      exact ret k tk ts2 BL2 _ _ (by assumption) (after_of (by assumption) (by assumption) (by assumption) (by assumption)) hB2 (fun a vs h => hT2 a vs (.tail _ h)) (.inr ⟨by omega,e5,.inl e4⟩) (grow_make e6 op_apart.2.2.2.2.2) (wf_make hw (fun a ha => by simp [atomR] at ha;omega) e6)
  ))only[↓bx_eq]
end
end
section
noncomputable def noRef (es : List DictEntry) : Prop := es.any (·.refKey) = false
theorem getL_of {es : List DictEntry} (h : noRef es) (n : Str) : getL n es = some ((es.find? (·.key.isStr n)).map (·.val)) := by
  unfold getL
  cases es.find? (·.key.isStr n) with
  | none => simp only [Option.map_none];rw [if_neg (by rw [h];decide)]
  | some e => rfl
theorem isStr_str {a b : Str} {t : Tok} : (Value.str a t).isStr b = (a == b) := rfl
theorem isStr_inv {v : Value} {n : Str} (h : v.isStr n = true) : ∀ m,v.isStr m = (n == m) := by
  cases v with
  | str a t => intro m;rw [isStr_str] at h ⊢;rw [eq_of_beq h]
  | _ => cases h
theorem noRef_put {es : List DictEntry} {n : Str} {hs : Int} {t : Tok} {v : Value} (h : noRef es) : noRef (putL n hs (.str n t) v es) := by
  induction es with
  | nil => rfl
  | cons e r ih =>
    have h' : e.refKey = false ∧ noRef r := by
      unfold noRef at h
      simpa [noRef] using h
    unfold putL
    split
    · show ((⟨e.hash,e.key,v⟩ : DictEntry) :: r).any (·.refKey) = false
      rw [List.any_cons]
      have : (⟨e.hash,e.key,v⟩ : DictEntry).refKey = e.refKey := rfl
      rw [this,h'.1,h'.2];rfl
    · show (e :: putL n hs (.str n t) v r).any (·.refKey) = false
      rw [List.any_cons,h'.1,ih h'.2];rfl
theorem find_put {es : List DictEntry} {n m : Str} {hs : Int} {t : Tok} {v : Value} : ((putL n hs (.str n t) v es).find? (·.key.isStr m)).map (·.val) = if m = n then some v else (es.find? (·.key.isStr m)).map (·.val) := by
  induction es with
  | nil =>
    unfold putL
    by_cases e : m = n
    · subst e;simp [isStr_str]
    · rw [if_neg e];simp [isStr_str,Ne.symm e]
  | cons x r ih =>
    unfold putL
    by_cases c : x.key.isStr n = true
    · rw [if_pos c]
      have := isStr_inv c
      by_cases e : m = n
      · subst e;simp [c]
      · have hm : x.key.isStr m = false := by rw [this];simp [Ne.symm e]
        rw [if_neg e];simp [hm]
    · rw [if_neg c]
      by_cases cm : x.key.isStr m = true
      · have e : m ≠ n := fun e => c (e ▸ cm)
        rw [if_neg e];simp [cm]
      · rw [List.find?_cons_of_neg (by simpa using cm),List.find?_cons_of_neg (by simpa using cm)]
        exact ih
theorem getL_put {es : List DictEntry} {n m : Str} {hs : Int} {t : Tok} {v : Value} (h : noRef es) : getL m (putL n hs (.str n t) v es) = if m = n then some (some v) else getL m es := by
  rw [getL_of (noRef_put h),find_put,getL_of h]
  split <;> rfl
theorem getL_put_ne {es : List DictEntry} {n m : Str} {hs : Int} {t : Tok} {v : Value} {x : Option (Option Value)} (h : noRef es) (hn : m ≠ n) (e : getL m es = x) : getL m (putL n hs (.str n t) v es) = x := by rw [getL_put h,if_neg hn,e]
theorem putL_len {es : List DictEntry} {n : Str} {hs : Int} {t : Tok} {v : Value} : (putL n hs (.str n t) v es).length ≤ es.length + 1 := by
  induction es with
  | nil => simp [putL]
  | cons e r ih =>
    unfold putL
    split
    · simp
    · simp only [List.length_cons];omega
theorem BankM.put {es : List DictEntry} {aO aA aS aD aN : Addr} (M : BankM es aO aA aS aD aN) (h : noRef es) {n : Str} {hs : Int} {t : Tok} {v : Value} (hn : n ∉ [Str.ofString "term_ops",Str.ofString "term_args",Str.ofString "term_sorts",Str.ofString "term_datas",Str.ofString "numbers"]) : BankM (putL n hs (.str n t) v es) aO aA aS aD aN := by
  simp only [List.mem_cons,List.not_mem_nil,or_false,not_or] at hn
  exact ⟨getL_put_ne h (Ne.symm hn.1) M.gO,getL_put_ne h (Ne.symm hn.2.1) M.gA,getL_put_ne h (Ne.symm hn.2.2.1) M.gS,getL_put_ne h (Ne.symm hn.2.2.2.1) M.gD,getL_put_ne h (Ne.symm hn.2.2.2.2) M.gN⟩
theorem RecsIn.tmono {T T' : Led} {ts : List TRec} {ops args sorts datas : List Value} (h : RecsIn T ts ops args sorts datas) (hs : TSub T T') : RecsIn T' ts ops args sorts datas :=
  ⟨h.l1,h.l2,h.l3,h.l4,fun i r e => let ⟨to,aa,tso,dv,vs,a1,a2,a3,a4,a5,a6,a7⟩ := h.at' i r e;⟨to,aa,tso,dv,vs,a1,a2,a3,a4,hs _ _ a5,a6,a7.tup_mono hs⟩⟩
theorem NumsIn.tmono {w : World} {T T' : Led} {ts : List TRec} {o : Obj} (h : NumsIn w T ts o) (hs : TSub T T') : NumsIn w T' ts o :=
  x3_7 h fun es ep xs a1 a2 a3 a4 a5 a6 a7 => ⟨es,ep,xs,a1,a2,a3,a4,fun x hx => ⟨x5_4 (a5 x hx).1 fun to aa ts dv vs h1 h2 h3 h4 => ⟨to,aa,ts,dv,vs,hs _ _ h1,hs _ _ h2,h3,h4.tup_mono hs⟩,(a5 x hx).2⟩,a6,a7⟩
theorem Bk.turn {w : World} {B : BkA} {ts : List TRec} {BL : Led} {h₀ h : Heap} {L : Addr} (hB : Bk w B ts BL) (N : News h₀ L h BL) (hbd : B.bd ≠ B.b) :
    ∃ rest : Led,News h₀ L h ((B.bd,dictOf B.es B.ne) :: rest) ∧ (∀ q ∈ rest,q.1 ≠ B.bd) ∧ (B.b,instObj 687 B.bd) ∈ rest ∧ TSub BL rest ∧ (∀ p ∈ rest,p ∈ BL) ∧
      ∀ es' ne',BankM es' B.aO B.aA B.aS B.aD B.aN → ∃ BL',Bk w { B with es := es',ne := ne' } ts BL' ∧ (∀ p ∈ BL',p ∈ (B.bd,dictOf es' ne') :: rest) ∧ ∀ p ∈ (B.bd,dictOf es' ne') :: rest,p ∈ BL' := by
  obtain ⟨n1,n2,n3,n4,ops,args,sorts,datas,oN,T,rfl,M,D,hb,hd,R,Nm,off,hts⟩ := hB
  have oD := off _ hd
  refine x1_4 (split_out (led := T) (fun p hp => N p (.tail _ (.tail _ (.tail _ (.tail _ (.tail _ hp)))))) [(B.bd,dictOf B.es B.ne)] (sub_cons hd sub_nil)) ?_
  intro rT NT c1 c2 c3
  have go : ∀ p ∈ T,p.1 ≠ B.bd → p ∈ rT := fun p hp hn => by
    rcases List.mem_append.mp (c1 p hp) with h | h
    · exact absurd (by rw [List.mem_singleton.mp h]) hn
    · exact h
  have nD : ∀ q ∈ rT,q.1 ≠ B.bd := fun q hq => c3 _ (.head _) q hq
  have tT : TSub T rT := fun a vs hm => go _ hm fun e => by
    have e1 := (N _ (.tail _ (.tail _ (.tail _ (.tail _ (.tail _ hm)))))).1
    simp only at e
    rw [e,(N _ (.tail _ (.tail _ (.tail _ (.tail _ (.tail _ hd)))))).1] at e1
    injection e1 with e2
    have e3 : Value.type "dict" = Value.type "tuple" := congrArg Obj.cls e2
    injection e3 with e4
    exact absurd e4 (by decide)
  refine ⟨(B.aO,listOf ops.toArray n1) :: (B.aA,listOf args.toArray n2) :: (B.aS,listOf sorts.toArray n3) :: (B.aD,listOf datas.toArray n4) :: (B.aN,oN) :: rT,fun p hp => ?_,fun q hq => ?_,?_,fun a vs hm => ?_,fun p hp => ?_,fun es' ne' M' => ?_⟩
  · rcases List.mem_cons.mp hp with rfl | hp
    · exact N _ (.tail _ (.tail _ (.tail _ (.tail _ (.tail _ hd)))))
    · refine N p ?_
      exact subA (by k_extra "H:sub_auto") hp
  · simp only [List.mem_cons] at hq
    rcases hq with rfl | rfl | rfl | rfl | rfl | hq
    · exact oD.1
    · exact oD.2.1
    · exact oD.2.2.1
    · exact oD.2.2.2.1
    · exact oD.2.2.2.2.1
    · exact nD q hq
  · exact .tail _ (.tail _ (.tail _ (.tail _ (.tail _ (go _ hb (Ne.symm hbd))))))
  · exact .tail _ (.tail _ (.tail _ (.tail _ (.tail _ (tT a vs (offD Nm (offL (offL (offL (offL hm))))))))))
  · exact subA (by k_extra "H:sub_auto") hp
  · refine ⟨_,⟨n1,n2,n3,n4,ops,args,sorts,datas,oN,(B.bd,dictOf es' ne') :: rT,rfl,M',D,.tail _ (go _ hb (Ne.symm hbd)),.head _,RecsIn.tmono R fun a vs h => .tail _ (tT a vs h),NumsIn.tmono Nm fun a vs h => .tail _ (tT a vs h),fun q hq => ?_,hts⟩,fun p hp => ?_,fun p hp => ?_⟩
    · rcases List.mem_cons.mp hq with rfl | hq
      · exact oD
      · exact off q (c2 q hq)
    · exact subA (by k_extra "H:sub_auto") hp
    · exact subA (by k_extra "H:sub_auto") hp
section
variable {prog : Program} {w : World} {A : Around} {E : Value → Shared → Prop} {s : Shared} {K : Frag} {C L : Addr} {h₀ : Heap} {m : Mp} {news : Led} {Q : Value → Shared → Prop}
theorem call_clsZ {fI : Addr} (F : Fr h₀ L s.heap m) (X₀ : K.In h₀) (N : News h₀ L s.heap news) (hm : makesIn K C = true) (hi : findIn K (.ref C) "__init__" = some (some (.ref fI))) (hf : isFn K (.ref fI) = true)
    (h : ∀ x dx h',Fr h₀ L h' m → News h₀ L h' ((x,instObj C dx) :: (dx,dictOf [] 0) :: news) → (∀ p ∈ news,p.1 < dx) → dx < x → (∀ b o,s.heap.get? b = some o → h'.get? b = some o) → s.heap.get? x = none → s.heap.get? dx = none →
      codeAny (model prog w) (A.under (.builtin "type.__call__" ⟨.ref C :: [],[]⟩)) (.call (.ref fI) ⟨.ref x :: [],[]⟩) (InitBack x fun r s' => match r with | .ok (.ret v) => Q v s' | .ok _ => False | .error e => E e s') { s with heap := h' }) :
    wpAny (model prog w) A (call (.ref C) [] []) Q E s := by
  have X := X₀.keeps F.keep
  obtain ⟨hh,g,d,t,os⟩ := s
  have none_ge : ∀ a,hh.objs.size ≤ a → hh.get? a = none := fun a ha => by
    cases e : hh.get? a with
    | none => rfl
    | some o => exact absurd (Heap.lt_size e) (Nat.not_lt.mpr ha)
  refine wpAny_call (make_core (makes_of X hm) (looks_findIn X hi) (fun self => bind_fn X self (beq_iff_eq.mp hf)) (.inl rfl) (h _ hh.objs.size _ ((F.push _).push _) ?_ (fun p hp => Heap.lt_size (N p hp).1) (Nat.lt_succ_self _) (fun b o e => Heap.get?_push_of_some _ (Heap.get?_push_of_some _ e)) (none_ge _ (Nat.le_succ _)) (none_ge _ (Nat.le_refl _))))
  have := (N.push F emptyDict).push (F.push _) (instObj C hh.objs.size)
  rwa [Heap.size_push] at this
end
end
section
section
variable {prog : Program} {w : World} {A₀ A : Around} {s : Shared} {base h₀ : Heap} {outer : List Env} {L : Addr} {m mg mb : Mp} {env : Env} {news : Led} {K : Frag} {p : Program} {loose : List Str} {mean : ExcName → Option Value}
  {R : Result → Shared → Prop} {name qual : Str} {params : Arguments} {body : List Stmt} {scope : Scope} {dV kV doc pm cdv ct oc : Value} {an od : Option Addr} {osl : Array (Option Value)} {f cc : Addr} {args : Args} {binds : List (Str × Value)}
theorem code_superZ (B : Below A₀ base outer h₀) (F : Fr h₀ L s.heap m) (X₀ : K.In h₀) (N : News h₀ L s.heap news) (T : Top p loose mean mg mb h₀) (hA : A.frames = some (env :: outer)) (hf : env.frame = some L) (hke : env.scope.kind = .function)
    (ho : K.lookup f = some ⟨oc,od,.func (ksFn name qual params body scope dV kV doc pm an cdv ct cc),osl⟩) (hcd : codeIn K cdv qual = true) (hroom : A.depth < recursionLimit)
    (hbind : BindsTo s (ksFn name qual params body scope dV kV doc pm an cdv ct cc) args binds) (hloc : ∀ y ∈ binds,scope.names.lookup y.1 = some .local)
    (h : ∀ g L' h₁,Fr h₀ L g m → Fr g L' h₁ (fun y => binds.reverse.lookup y) → News g L' h₁ news → Below A base (env :: outer) g → K.In g → Top p loose mean mg mb g → (∀ p ∈ news,p.1 < L') → Froz s.heap news g →
      _root_.PySem.wpAt (model prog w) (A.deeper (ksEnv qual scope L' f cdv cc)) (.func body (ksEnv qual scope L' f cdv cc)) (execs body (ksEnv qual scope L' f cdv cc))
        (fun fl s' => LeaveK h₀ L m g R (match fl with | .ret v => v | _ => .none) s')
        (fun e s' => wpAny (model prog w) (A.deeper (ksEnv qual scope L' f cdv cc)) (leaving (ksEnv qual scope L' f cdv cc) e) (fun _ s'' => R (.error e) s'') (fun e' s'' => R (.error e') s'') s')
        { s with heap := h₁,toks := s.toks + binds.length })
    (hcell : ∀ x ∈ scope.names,x.2 ≠ .cell) (hco : scope.isCoroutine = false) (hgen : scope.isGenerator = false) (hk : scope.kind = .function) : codeAny (model prog w) A (.call (.ref f) args) R s := by
  refine x0_4 (groundX (R := R) B F N hA hf hke) ?_
  intro FG BG st lv
  refine ks_codeAny_call_defAt (fd := ksFn name qual params body scope dV kV doc pm an cdv ct cc) (body := body) (binds := binds) hroom ((X₀.keeps F.keep) _ _ ho) rfl (T.nolimit.keeps F.keep) (codeRec_of (X₀.keeps F.keep) hcd) rfl hbind hcell hloc (fun h₁ hns hk₁ => ?_) hco hgen hk
  have z : Froz s.heap news (hideAll s.heap (news.map (·.1))) := ⟨fun b o e n => hideAll_get _ e fun q => by
    refine x1_2 (List.mem_map.mp q) ?_
    intro x hx hq
    exact n x hx hq,fun b o e => of_hideAll _ e⟩
  exact ks_wpAt_mono (h _ s.heap.objs.size h₁ FG ⟨hns,fun b o e => hk₁ b o (of_hideAll _ e),Nat.le_of_eq (hideAll_size _ _)⟩
    (fun p hp => ⟨hk₁ _ _ (N p hp).1,Nat.ne_of_lt (Heap.lt_size (N p hp).1),hideAll_none _ (List.mem_map_of_mem hp)⟩) BG (X₀.keeps st) (T.keeps st) (fun p hp => Heap.lt_size (N p hp).1) z) (fun fl s' hl => lv _ _ hl) fun _ _ y => y
end
section
theorem g12.on12 : True := trivial
open g12
theorem set_38 : True := by
  k_with "!call ref" => ((fail_if_success(fail_if_success have:=on12));(k_here;(with_reducible show wpAny _ _ (call (Value.ref 301) _) _ _ _);refine stop_at ?_))
  k_with "!getMethod ref" => ((fail_if_success(fail_if_success have:=on12));(k_here;(with_reducible show wpAny _ _ (getMethod (Value.ref _) (Str.ofString "make") _) _ _ _);k_dflt (refine' method_inst ?q9k1 ?q9k2 ?q9k3 ?q9k4 ?q9k5 ?q9k6 ?q9k7 ?_;(case q9k1 => k_asm);(case q9k2 => k_asm);(case q9k3 => k_inst);(case q9k4 => k_is);(case q9k5 => k_is);(case q9k6 => k_is);(case q9k7 => first | assumption | exact getL_put_ne (by assumption) (by decide +kernel) (by assumption));k_whole)))
  k_with "!setAttr ref" => ((fail_if_success(fail_if_success have:=on12));(k_here;k_dflt (refine' set_dict ?q9k1 ?q9k2 ?q9k3 ?q9k4 ?q9k5 ?q9k6 ?q9k7 ?q9k8 ?q9k9 ?q9k10 ?q9k11 ?q9k12 ?q9k13 ?_;(case q9k1 => k_asm);(case q9k2 => k_asm);(case q9k3 => k_asm);(case q9k4 => k_inst);(case q9k5 => exact rfl);(case q9k6 => k_is);(case q9k7 => k_is);(case q9k8 => k_is);(case q9k9 => k_is);(case q9k10 => (rw [getL_of (by first | assumption | exact noRef_put (by assumption))];rfl));(case q9k11 => exact rfl);(case q9k12 => k_upd);(case q9k13 => first | exact Nat.le_trans putL_len (by omega) | exact Nat.le_trans putL_len (Nat.le_trans (Nat.succ_le_succ putL_len) (by omega)));k_whole;intro _ _ _;(try k_sweep))))
  exact trivial
structure BankF (es : List DictEntry) (f1 f2 f3 : Addr) : Prop where
  g1 : getL (Str.ofString "fun_names") es = some (some (.ref f1))
  g2 : getL (Str.ofString "fun_args") es = some (some (.ref f2))
  g3 : getL (Str.ofString "fun_results") es = some (some (.ref f3))
noncomputable def methNames : List Str := [Str.ofString "make",Str.ofString "op",Str.ofString "args",Str.ofString "sort",Str.ofString "data",Str.ofString "want",Str.ofString "want_all",Str.ofString "num",Str.ofString "want_number",Str.ofString "is_number_sort",Str.ofString "plus",Str.ofString "times_num",Str.ofString "le",Str.ofString "lt",Str.ofString "eq",Str.ofString "true_term",Str.ofString "declare_fun",Str.ofString "fresh_const"]
noncomputable def rec0 : TRec := ⟨Str.ofString "",[],0,.int 0⟩
inductive Init11 (w : World) (x : Addr) (d : Addr) (h₀ : Heap) (L : Addr) (s : Shared) (s' : Shared) : Prop
  | mk (h' : Heap) (tk' : Nat) (B : BkA) (f1 f2 f3 : Addr) (BL : Led) (cc1 : s' = { s with heap := h',toks := tk' }) (cc2 : B.b = x) (cc3 : B.bd = d) (cc4 : Fr h₀ L h' (fun y => List.lookup y [(Str.ofString "self",Value.ref x)].reverse)) (cc5 : News h₀ L h' ((f1,listOf #[] 0) :: (f2,listOf #[] 0) :: (f3,listOf #[] 0) :: BL)) (cc6 : Bk w B [rec0] BL) (cc7 : noRef B.es) (cc8 : BankF B.es f1 f2 f3) (cc9 : (∀ n ∈ methNames,getL n B.es = some none)) (cc10 : B.es.length ≤ 20) (cc11 : (∀ q ∈ BL,AllNe q.1 [(f1,tup []),(f2,tup []),(f3,tup [])])) (cc12 : AllNe f1 [(f2,tup []),(f3,tup [])]) (cc13 : f2 ≠ f3) : Init11 w x d h₀ L s s'
theorem nums_nil {w : World} {T : Led} {o : Obj} {r : TRec} (h : o.IsDictOf (intKind PG w) []) : NumsIn w T [r] o := by
  refine x2_5 h ?_;(try clear h)
  intro es ep hc hdat _ hp _
  have he : es.toList = [] := List.length_eq_zero_iff.mp hp.length
  exact ⟨es,ep,[],hc,hdat,he,List.nodup_nil,fun _ hx => (nomatch hx),rfl,fun j x hx => by simp at hx⟩
theorem init11_of {w : World} {x d aO aA aS aD aN aE f1 f2 f3 : Addr} {oN : Obj} {es : List DictEntry} {ne tk' : Nat} {g h' : Heap} {L : Addr} {s : Shared} {u1 u2 u3 : Tok} {p1 p2 p3 p4 : Addr × Obj}
    (N : News g L h' [(aN,oN),(aD,listOf #[.int 0 u1] 0),(aS,listOf #[.int 0 u2] 0),(aA,listOf #[.ref aE] 0),(aE,tup []),(aO,listOf #[.str (Str.ofString "") u3] 0),(f3,listOf #[] 0),(f2,listOf #[] 0),(f1,listOf #[] 0),p1,p2,p3,p4,(x,instObj 687 d),(d,dictOf es ne)])
    (F : Fr g L h' (fun y => List.lookup y [(Str.ofString "self",Value.ref x)].reverse)) (M : BankM es aO aA aS aD aN) (hN : oN.IsDictOf (intKind PG w) []) (lo : (aN == sysModules) = false) (nr : noRef es) (fs : BankF es f1 f2 f3) (nm : ∀ n ∈ methNames,getL n es = some none) (hz : es.length ≤ 20)
    (o0 : @LT.lt Nat _ d x) (o1 : @LT.lt Nat _ x f1) (o2 : @LT.lt Nat _ f1 f2) (o3 : @LT.lt Nat _ f2 f3) (o4 : @LT.lt Nat _ f3 aO) (o5 : @LT.lt Nat _ aO aE) (o6 : @LT.lt Nat _ aE aA) (o7 : @LT.lt Nat _ aA aS) (o8 : @LT.lt Nat _ aS aD) (o9 : @LT.lt Nat _ aD aN) :
    Init11 w x d g L s { s with heap := h',toks := tk' } := by
  have hS : Srt [d,x,f1,f2,f3,aO,aE,aA,aS,aD,aN] := ⟨o0,o1,o2,o3,o4,o5,o6,o7,o8,o9,trivial⟩
  refine ⟨h',tk',⟨x,d,aO,aA,aS,aD,aN,es,ne⟩,f1,f2,f3,(aO,listOf ([.str (Str.ofString "") u3] : List Value).toArray 0) :: (aA,listOf ([.ref aE] : List Value).toArray 0) :: (aS,listOf ([.int 0 u2] : List Value).toArray 0) :: (aD,listOf ([.int 0 u1] : List Value).toArray 0) :: (aN,oN) :: [(aE,tup []),(x,instObj 687 d),(d,dictOf es ne)],rfl,rfl,rfl,F,fun p hp => N p (subA (by k_extra "H:sub_auto") hp),
    ⟨0,0,0,0,_,_,_,_,oN,_,rfl,M,⟨hS.aa (i := 5) rfl [7,8,9,10] rfl rfl,hS.aa (i := 7) rfl [8,9,10] rfl rfl,hS.aa (i := 8) rfl [9,10] rfl rfl,hS.aa (i := 9) rfl [10] rfl rfl,lo⟩,.tail _ (.head _),.tail _ (.tail _ (.head _)),⟨rfl,rfl,rfl,rfl,fun i r e => ?_⟩,nums_nil hN,hS.aa2 [6,1,0] [5,7,8,9,10] rfl rfl rfl,(fun e => nomatch e)⟩,nr,fs,nm,hz,hS.aa2 [5,7,8,9,10,6,1,0] [2,3,4] rfl rfl rfl,hS.aa (i := 2) rfl [3,4] rfl rfl,Ne.symm (hS.ne (i := 3) (j := 4) rfl rfl rfl)⟩
  match i,e with
  | 0,e =>
    cases Option.some.inj e
    exact ⟨u3,aE,u2,.int 0 u1,[],rfl,rfl,rfl,rfl,.head _,.nil,⟨u1,rfl⟩⟩
  | i + 1,e => cases e
theorem first_made {ts1 : List TRec} {x : TRec} {i : Nat} (e1 : ts1[i]? = some x) (e2 : 1 ≤ i) (e3 : ts1 = [rec0] ∨ ts1 = [rec0] ++ [x]) : ts1 = [rec0,x] ∧ i = 1 := by
  rcases e3 with rfl | rfl
  · cases i with
    | zero => exact absurd e2 (by decide)
    | succ i => simp at e1
  · refine ⟨rfl,?_⟩
    cases i with
    | zero => exact absurd e2 (by decide)
    | succ i =>
      cases i with
      | zero => rfl
      | succ i => simp at e1
theorem second_made {a b : TRec} {ts1 : List TRec} {x : TRec} {i : Nat} (e1 : ts1[i]? = some x) (e2 : 1 ≤ i) (e3 : ts1 = [a,b] ∨ ts1 = [a,b] ++ [x]) (hn : b ≠ x) : ts1 = [a,b,x] ∧ i = 2 := by
  rcases e3 with rfl | rfl
  · cases i with
    | zero => exact absurd e2 (by decide)
    | succ i =>
      cases i with
      | zero => simp at e1;exact absurd e1 hn
      | succ i => simp at e1
  · refine ⟨rfl,?_⟩
    cases i with
    | zero => exact absurd e2 (by decide)
    | succ i =>
      cases i with
      | zero => simp at e1;exact absurd e1 hn
      | succ i =>
        cases i with
        | zero => rfl
        | succ i => simp at e1
theorem mid3 {d a b c p : Addr × Obj} {BL : Led} (h : p ∈ [a,b,c]) : p ∈ d :: a :: b :: c :: BL := by
  exact subA (by k_extra "H:sub_auto") h
theorem apart3 {f1 f2 f3 D : Addr} {o1 o2 o3 x : Obj} {BL : Led} (off : ∀ q ∈ BL,AllNe q.1 [(f1,tup []),(f2,tup []),(f3,tup [])]) (_ : AllNe D BL) (l1 : @LT.lt Nat _ f1 D) (l2 : @LT.lt Nat _ f2 D) (l3 : @LT.lt Nat _ f3 D) : ∀ p ∈ [(f1,o1),(f2,o2),(f3,o3)],∀ q ∈ [(D,x)] ++ BL,q.1 ≠ p.1 := fun p hp q hq => by
  simp only [List.cons_append,List.nil_append,List.mem_cons,List.not_mem_nil,or_false] at hp hq
  rcases hq with rfl | hq
  · rcases hp with rfl | rfl | rfl
    · exact Nat.ne_of_gt l1
    · exact Nat.ne_of_gt l2
    · exact Nat.ne_of_gt l3
  · have := off q hq
    rcases hp with rfl | rfl | rfl
    · exact Ne.symm this.1
    · exact Ne.symm this.2.1
    · exact Ne.symm this.2.2.1
theorem put_opaque {g h : Heap} {L bd : Addr} {x a b c : Addr × Obj} {n : Str} {hs : Int} {t : Tok} {v : Value} {es : List DictEntry} {ne : Nat} {rest : Led} (N : News g L h (x :: a :: b :: c :: (bd,dictOf (putL n hs (.str n t) v es) ne) :: rest)) (nr : noRef es) :
    ∃ es2,News g L h (x :: a :: b :: c :: (bd,dictOf es2 ne) :: rest) ∧ noRef es2 ∧ (∀ m,m ≠ n → getL m es2 = getL m es) ∧ getL n es2 = some (some v) ∧ es2.length ≤ es.length + 1 :=
  ⟨_,N,noRef_put nr,fun m hm => getL_put_ne nr hm rfl,by rw [getL_put nr,if_pos rfl],putL_len⟩
theorem BankM.of_get {es es2 : List DictEntry} {aO aA aS aD aN : Addr} (M : BankM es aO aA aS aD aN) (q : ∀ m,m ≠ Str.ofString "true_number" → getL m es2 = getL m es) : BankM es2 aO aA aS aD aN :=
  ⟨(q _ (by decide +kernel)).trans M.gO,(q _ (by decide +kernel)).trans M.gA,(q _ (by decide +kernel)).trans M.gS,(q _ (by decide +kernel)).trans M.gD,(q _ (by decide +kernel)).trans M.gN⟩
theorem off3x {f1 f2 f3 : Addr} {o1 o2 o3 : Obj} {BL : Led} (dF : ∀ p ∈ [(f1,o1),(f2,o2),(f3,o3)],∀ q ∈ BL,q.1 ≠ p.1) {q : Addr × Obj} (hq : q ∈ BL) : ∀ p ∈ [(f1,tup []),(f2,tup []),(f3,tup [])],q.1 ≠ p.1 := fun p hp => by
  simp only [List.mem_cons,List.not_mem_nil,or_false] at hp
  rcases hp with rfl | rfl | rfl
  · exact dF (f1,o1) (.head _) q hq
  · exact dF (f2,o2) (.tail _ (.head _)) q hq
  · exact dF (f3,o3) (.tail _ (.tail _ (.head _))) q hq
theorem news3 {g h : Heap} {L : Addr} {a b c : Addr × Obj} {T1 T2 : Led} (N1 : News g L h ([a,b,c] ++ T1)) (N2 : News g L h T2) : News g L h (a :: b :: c :: T2) := fun p hp => by
  rcases List.mem_append.mp (show p ∈ [a,b,c] ++ T2 from hp) with h | h
  · exact N1 p (List.mem_append_left _ h)
  · exact N2 p h
theorem skip4 {d a b c e p : Addr × Obj} {BL rest : Led} (s1 : ∀ p ∈ BL,p ∈ e :: rest) (h : p ∈ [d] ++ BL) : p ∈ d :: a :: b :: c :: e :: rest :=
  subA (by k_extra "H:sub_auto") h
theorem BankM.of_get' {es es2 : List DictEntry} {aO aA aS aD aN : Addr} (M : BankM es aO aA aS aD aN) (q : ∀ m,m ≠ Str.ofString "false_number" → m ≠ Str.ofString "bv_numbers" → getL m es2 = getL m es) : BankM es2 aO aA aS aD aN :=
  ⟨(q _ (by decide +kernel) (by decide +kernel)).trans M.gO,(q _ (by decide +kernel) (by decide +kernel)).trans M.gA,(q _ (by decide +kernel) (by decide +kernel)).trans M.gS,(q _ (by decide +kernel) (by decide +kernel)).trans M.gD,(q _ (by decide +kernel) (by decide +kernel)).trans M.gN⟩
theorem dict5 {g h g0 : Heap} {L L0 bd : Addr} {x a b c : Addr × Obj} {n n2 : Str} {hs hs2 : Int} {t u : Tok} {v v2 : Value} {es : List DictEntry} {ne : Nat} {rest : Led} (N : News g L h (x :: a :: b :: c :: (bd,dictOf (putL n2 hs2 (.str n2 u) v2 (putL n hs (.str n t) v es)) ne) :: rest)) (N0 : News g0 L0 h (x :: a :: b :: c :: (bd,dictOf (putL n2 hs2 (.str n2 u) v2 (putL n hs (.str n t) v es)) ne) :: rest)) (nr : noRef es) :
    ∃ es2,News g L h (x :: a :: b :: c :: (bd,dictOf es2 ne) :: rest) ∧ News g0 L0 h (x :: a :: b :: c :: (bd,dictOf es2 ne) :: rest) ∧ noRef es2 ∧ (∀ m,m ≠ n → m ≠ n2 → getL m es2 = getL m es) ∧ True :=
  ⟨_,N,N0,noRef_put (noRef_put nr),fun m h1 h2 => (getL_put_ne (noRef_put nr) h2 rfl).trans (getL_put_ne nr h1 rfl),trivial⟩
theorem low5 {d a b c e p : Addr × Obj} {BL rest : Led} (s1 : ∀ p ∈ BL,p ∈ e :: rest) (h : p ∈ a :: b :: c :: BL) : p ∈ d :: a :: b :: c :: e :: rest :=
  subA (by k_extra "H:sub_auto") h
theorem meth_ne : ∀ n ∈ methNames,n ≠ Str.ofString "true_number" ∧ n ≠ Str.ofString "false_number" ∧ n ≠ Str.ofString "bv_numbers" := by decide +kernel
theorem skip3 {d a b c p : Addr × Obj} {BL : Led} (h : p ∈ [d] ++ BL) : p ∈ d :: a :: b :: c :: BL := by
  exact subA (by k_extra "H:sub_auto") h
inductive BankR32 (w : World) (r : Value) (led' : Led) : Prop
  | mk (B : BkA) (f1 f2 f3 : Addr) (BL : Led) (cc1 : r = .ref B.b) (cc2 : led' = (f1,listOf #[] 0) :: (f2,listOf #[] 0) :: (f3,listOf #[] 0) :: BL) (cc3 : Bk w B [rec0,⟨Str.ofString "true",[],0,.int 0⟩,⟨Str.ofString "false",[],0,.int 0⟩] BL) (cc4 : BankX B.es) (cc5 : BankF B.es f1 f2 f3) (cc6 : (∀ n ∈ methNames,getL n B.es = some none)) (cc7 : (∀ q ∈ BL,AllNe q.1 [(f1,tup []),(f2,tup []),(f3,tup [])])) (cc8 : AllNe f1 [(f2,tup []),(f3,tup [])]) (cc9 : f2 ≠ f3) : BankR32 w r led'
theorem own_set0 {prog : Program} {w : World} {A : Around} {E : Value → Shared → Prop} {K : Frag} {h₀ h : Heap} {gs : Array GenState} {dr : Drawn} {os : OsState} {L C x d : Addr} {m : Mp} {es : List DictEntry} {n k tk : Nat} {T : Led} {nm : Str} {v : Value} {Q : Unit → Shared → Prop}
    (F : Fr h₀ L h m) (X : K.In h₀) (N : News h₀ L h ((d,dictOf es n) :: T)) (hx : (x,instObj C d) ∈ T) (off : ∀ p ∈ T,p.1 ≠ d) (nr : noRef es) (hz : es.length ≤ k) (hk : decide (k ≤ 900) = true)
    (hs : findIn K (.ref C) "__setattr__" = some (some (.builtin "object.__setattr__"))) (hp : plainOver K C = true) (ht : takerIn K C nm = some none) (hh : hasDictIn K C = true)
    (hq : ∀ h' es' n' tk',Fr h₀ L h' m → News h₀ L h' ((d,dictOf es' n') :: T) → getL nm es' = some (some v) → (∀ q,q ≠ nm → getL q es' = getL q es) → noRef es' → es'.length ≤ k + 1 → Q () ⟨h',gs,dr,tk',os⟩) :
    wpAny (model prog w) A (setAttr (.ref x) nm v) Q E ⟨h,gs,dr,tk,os⟩ :=
  set_dict (s := ⟨h,gs,dr,tk,os⟩) F X N (InstAt.of_news N (.tail _ hx) (.head _)) rfl hs hp ht hh (by rw [getL_of nr];rfl) rfl (.head off) (Nat.le_trans putL_len (Nat.le_trans (Nat.succ_le_succ (Nat.le_trans hz (of_decide_eq_true hk))) (by decide))) fun h' F' N' =>
    hq h' _ _ _ F' N' (by rw [getL_put nr,if_pos rfl]) (fun q hn => getL_put_ne nr hn rfl) (noRef_put nr) (Nat.le_trans putL_len (Nat.succ_le_succ hz))
theorem own_set {prog : Program} {w : World} {A : Around} {E : Value → Shared → Prop} {K : Frag} {h₀ h : Heap} {gs : Array GenState} {dr : Drawn} {os : OsState} {L C x d : Addr} {m : Mp} {es : List DictEntry} {n k tk : Nat} {T : Led} {nm : Str} {v : Value} {Q : Unit → Shared → Prop} {l : Addr} {o : Obj}
    (F : Fr h₀ L h m) (X : K.In h₀) (N : News h₀ L h ((l,o) :: (d,dictOf es n) :: T)) (hx : (x,instObj C d) ∈ T) (off : ∀ p ∈ T,p.1 ≠ d) (lt : AllLt l ((d,dictOf es n) :: T)) (nr : noRef es) (hz : es.length ≤ k) (hk : decide (k ≤ 900) = true)
    (hs : findIn K (.ref C) "__setattr__" = some (some (.builtin "object.__setattr__"))) (hp : plainOver K C = true) (ht : takerIn K C nm = some none) (hh : hasDictIn K C = true)
    (hq : ∀ h' T' es' n' tk',Fr h₀ L h' m → News h₀ L h' ((d,dictOf es' n') :: T') → (∀ p ∈ T,p ∈ T') → (l,o) ∈ T' → (x,instObj C d) ∈ T' → (∀ p ∈ T',p.1 ≠ d) → getL nm es' = some (some v) → (∀ q,q ≠ nm → getL q es' = getL q es) → noRef es' → es'.length ≤ k + 1 → Q () ⟨h',gs,dr,tk',os⟩) :
    wpAny (model prog w) A (setAttr (.ref x) nm v) Q E ⟨h,gs,dr,tk,os⟩ :=
  own_set0 (T := (l,o) :: T) F X (fun p hp => N p (subA (by k_extra "H:sub_auto") hp)) (.tail _ hx) (fa1 (Nat.ne_of_gt lt.1) off) nr hz hk hs hp ht hh fun h' es' n' tk' a b => hq h' ((l,o) :: T) es' n' tk' a b (fun p hp => .tail _ hp) (.head _) (.tail _ hx) (fa1 (Nat.ne_of_gt lt.1) off)
theorem own_set2 {prog : Program} {w : World} {A : Around} {E : Value → Shared → Prop} {K : Frag} {h₀ h : Heap} {gs : Array GenState} {dr : Drawn} {os : OsState} {L C x d : Addr} {m : Mp} {es : List DictEntry} {n k tk : Nat} {T : Led} {nm : Str} {v : Value} {Q : Unit → Shared → Prop} {l l2 : Addr} {o o2 : Obj}
    (F : Fr h₀ L h m) (X : K.In h₀) (N : News h₀ L h ((l,o) :: (l2,o2) :: (d,dictOf es n) :: T)) (hx : (x,instObj C d) ∈ T) (off : ∀ p ∈ T,p.1 ≠ d) (lt2 : AllLt l2 ((d,dictOf es n) :: T)) (lt : AllLt l ((l2,o2) :: (d,dictOf es n) :: T)) (nr : noRef es) (hz : es.length ≤ k) (hk : decide (k ≤ 900) = true)
    (hs : findIn K (.ref C) "__setattr__" = some (some (.builtin "object.__setattr__"))) (hp : plainOver K C = true) (ht : takerIn K C nm = some none) (hh : hasDictIn K C = true)
    (hq : ∀ h' T' es' n' tk',Fr h₀ L h' m → News h₀ L h' ((d,dictOf es' n') :: T') → (∀ p ∈ T,p ∈ T') → (l,o) ∈ T' → (l2,o2) ∈ T' → (x,instObj C d) ∈ T' → (∀ p ∈ T',p.1 ≠ d) → getL nm es' = some (some v) → (∀ q,q ≠ nm → getL q es' = getL q es) → noRef es' → es'.length ≤ k + 1 → Q () ⟨h',gs,dr,tk',os⟩) :
    wpAny (model prog w) A (setAttr (.ref x) nm v) Q E ⟨h,gs,dr,tk,os⟩ :=
  own_set (T := (l2,o2) :: T) F X (fun p hp => N p (subA (by k_extra "H:sub_auto") hp)) (.tail _ hx) (fa1 (Nat.ne_of_gt lt2.1) off) ⟨lt.2.1,lt.1,lt.2.2⟩ nr hz hk hs hp ht hh fun h' T' es' n' tk' a b c d' => hq h' T' es' n' tk' a b (fun p hp => c p (.tail _ hp)) d' (c _ (.head _))
theorem own_start {g h : Heap} {L x d C : Addr} {a b : Addr × Obj} (N : News g L h [a,b,(x,instObj C d),(d,dictOf [] 0)]) (ha : a.1 ≠ d) (hb : b.1 ≠ d) (hx : x ≠ d) : ∃ T,News g L h ((d,dictOf [] 0) :: T) ∧ (x,instObj C d) ∈ T ∧ (∀ p ∈ T,p.1 ≠ d) ∧ noRef [] ∧ ([] : List DictEntry).length ≤ 0 :=
  ⟨[a,b,(x,instObj C d)],fun p hp => N p (subA (by k_extra "H:sub_auto") hp),.tail _ (.tail _ (.head _)),fa3 ha hb hx (fun _ h => nomatch h),rfl,Nat.le_refl _⟩
theorem set_39 : True := by
  k_with "!setAttr ref" => ((fail_if_success(fail_if_success have:=on12));(k_here;k_dflt (first | (refine' own_set ?q9xF ?q9xX ?q9xN ?q9xx ?q9xo ?q9xl ?q9xr ?q9xz ?q9xk ?q9xs ?q9xp ?q9xt ?q9xh ?_;(case q9xF => k_asm);(case q9xX => k_asm);(case q9xN => k_asm);(case q9xx => with_reducible assumption);(case q9xo => with_reducible assumption);(case q9xl => with_reducible assumption);(case q9xr => with_reducible assumption);(case q9xz => with_reducible assumption);(case q9xk => exact rfl);(case q9xs => k_is);(case q9xp => k_is);(case q9xt => k_is);(case q9xh => k_is);k_whole;intro _ _ _ _ _ _ _ _ _ _ _ _ _ _ _;(try k_sweep)) | (refine' own_set2 ?q9xF ?q9xX ?q9xN ?q9xx ?q9xo ?q9xm ?q9xl ?q9xr ?q9xz ?q9xk ?q9xs ?q9xp ?q9xt ?q9xh ?_;(case q9xF => k_asm);(case q9xX => k_asm);(case q9xN => k_asm);(case q9xx => with_reducible assumption);(case q9xo => with_reducible assumption);(case q9xm => with_reducible assumption);(case q9xl => with_reducible assumption);(case q9xr => with_reducible assumption);(case q9xz => with_reducible assumption);(case q9xk => exact rfl);(case q9xs => k_is);(case q9xp => k_is);(case q9xt => k_is);(case q9xh => k_is);k_whole;intro _ _ _ _ _ _ _ _ _ _ _ _ _ _ _ _;(try k_sweep)) | (refine' own_set0 ?q9xF ?q9xX ?q9xN ?q9xx ?q9xo ?q9xr ?q9xz ?q9xk ?q9xs ?q9xp ?q9xt ?q9xh ?_;(case q9xF => k_asm);(case q9xX => k_asm);(case q9xN => k_asm);(case q9xx => with_reducible assumption);(case q9xo => with_reducible assumption);(case q9xr => with_reducible assumption);(case q9xz => with_reducible assumption);(case q9xk => exact rfl);(case q9xs => k_is);(case q9xp => k_is);(case q9xt => k_is);(case q9xh => k_is);k_whole;intro _ _ _ _ _ _ _ _ _ _;(try k_sweep)))))
  exact trivial
theorem bank_new (w : World) : Spec w 687 [] 8 300 [] (BankR32 w) := by
  apply bx;simp(disch:=k_dflt(
  unfold Spec
  intro dp un gd cn cs a₁ ccd ce outer A₀ base h₀ L m mean mg mb s Q E B F X N T hk hd hu hret
  k_dflt (refine' call_clsZ ?k1 ?k2 ?k3 ?k4 ?k5 ?k6 ?_;(case k1 => k_asm);(case k2 => k_asm);(case k3 => k_asm);(case k4 => k_is);(case k5 => k_is);(case k6 => k_is);k_whole;intro x' d' h' F' N' l1 l2 kp nx nd;(try k_lt l1);(try k_lt2 l2);(try k_sweep))
  k_dflt (refine' code_superZ (binds := [(Str.ofString "self",Value.ref x')]) ?j1 ?j2 ?j3 ?j4 ?j5 ?jA ?jF ?jK ?j6 ?j7 ?j8 ?j9 ?jB ?_ ?c2 ?c3 ?c4 ?c5;(case jA => exact rfl);(case jF => exact rfl);(case jK => assumption);(case j1 => k_asm);(case j2 => k_asm);(case j3 => k_asm);(case j4 => k_asm);(case j5 => k_asm);(case j6 => k_is);(case j7 => k_is);(case j8 => ((simp only [depth_under_make,depth_under_kw,depth_in1,depth_deeper,depth_caller]);(try dsimp only [ktrTop]);omega));(case j9 => exact BindsTo.of_eq rfl);(case c2 => decide);(case jB => exact locs rfl);(case c3 => exact rfl);(case c4 => exact rfl);(case c5 => exact rfl);intro g2 L2 h2 FG2 F2 N2 B2 X2 T2 l2 z2;(try dsimp only);(try k_lift B2))
  k_steps
  k_dflt (refine' call_meth ?m1 ?m2 ?_;(case m1 => k_asm);(case m2 => k_mem))
  k_dflt (refine' code_at (binds := [(Str.ofString "self",Value.ref x')]) ?n1 ?n2 ?n3 ?n4 ?n5 ?nA ?nF ?nK ?n6 ?n7 ?n8 ?n9 ?nB ?_ ?n12 ?n13 ?n14 ?n15;(case nA => exact rfl);(case nF => exact rfl);(case nK => exact rfl);(case n1 => k_asm);(case n2 => k_asm);(case n3 => k_asm);(case n4 => k_asm);(case n5 => k_asm);(case n6 => k_is);(case n7 => k_is);(case n8 => ((simp only [depth_under_make,depth_under_kw,depth_in1,depth_deeper,depth_caller]);(try dsimp only [ktrTop]);omega));(case n9 => exact BindsTo.of_eq rfl);(case n15 => decide);(case nB => exact locs rfl);(case n12 => exact rfl);(case n13 => exact rfl);(case n14 => exact rfl);intro g3 L3 h3 FG3 F3 N3 B3 X3 T3 z3;(try dsimp only);(try k_lift B3))
  with_reducible refine execs_cutS 11 (Init11 w x' d' g3 L3 s) ?cut1 ?cut2
  case cut1 =>
    dsimp only [List.take]
    (try k_extra "H:fold2")
    obtain ⟨T0,N0,x0,off0,nr0,z0⟩ := own_start N3 (by k_ne) (by k_ne) (by k_ne)
    clear N3
    k_steps
    refine stop_go ?_
    rename_i a1 _ _ c1 _ T1 e1 _ _ s1 m1 x1 _ q1 r1 _ _ _ a2 _ _ c2 _ T2 e2 _ _ s2 m2 x2 _ q2 r2 _ _ _ a3 _ _ c3 _ T3 e3 _ _ s3 m3 x3 _ q3 r3 _ _ _ a4 _ _ c4 _ T4 e4 _ _ s4 m4 x4 _ q4 r4 _ _ _ a5 _ _ c5 _ T5 e5 _ _ s5 m5 x5 _ q5 r5 _ _ _ _ e6 _ _ q6 r6 _ _ _ a7 _ _ c7 _ T7 e7 _ _ s7 m7 x7 _ q7 r7 _ _ _ aE _ _ cE a8 _ _ c8 _ T8 e8 _ _ s8 m8 mE _ _ q8 r8 _ _ _ a9 _ _ c9 _ T9 e9 _ _ s9 m9 x9 _ q9 r9 _ _ _ a10 _ _ c10 _ T10 e10 _ _ s10 m10 x10 _ q10 r10 _ _ a11 _ oN lo hs fs hi fi c11 _ T11 e11 n11 _ F11 N11 s11 m11 x11 _ q11 r11 nr11 z11
    have hne : ∀ n ∈ methNames,n ≠ Str.ofString "sort_names" ∧ n ≠ Str.ofString "sort_widths" ∧ n ≠ Str.ofString "fun_names" ∧ n ≠ Str.ofString "fun_args" ∧ n ≠ Str.ofString "fun_results" ∧ n ≠ Str.ofString "fresh_count" ∧ n ≠ Str.ofString "term_ops" ∧ n ≠ Str.ofString "term_args" ∧ n ≠ Str.ofString "term_sorts" ∧ n ≠ Str.ofString "term_datas" ∧ n ≠ Str.ofString "numbers" := by decide +kernel
    exact ⟨rfl,init11_of (p1 := (x',instObj 687 d')) (p2 := (x',instObj 687 d')) (p3 := (x',instObj 687 d')) (p4 := (x',instObj 687 d')) (fun p hp => N11 p (subA (sub_cons (.tail _ m11) (sub_cons (.tail _ (s11 _ m10)) (sub_cons (.tail _ (s11 _ (s10 _ m9))) (sub_cons (.tail _ (s11 _ (s10 _ (s9 _ m8)))) (sub_cons (.tail _ (s11 _ (s10 _ (s9 _ mE)))) (sub_cons (.tail _ (s11 _ (s10 _ (s9 _ (s8 _ m7))))) (sub_cons (.tail _ (s11 _ (s10 _ (s9 _ (s8 _ (s7 _ m5)))))) (sub_cons (.tail _ (s11 _ (s10 _ (s9 _ (s8 _ (s7 _ (s5 _ m4))))))) (sub_cons (.tail _ (s11 _ (s10 _ (s9 _ (s8 _ (s7 _ (s5 _ (s4 _ m3)))))))) (sub_cons (.tail _ x11) (sub_cons (.tail _ x11) (sub_cons (.tail _ x11) (sub_cons (.tail _ x11) (sub_cons (.tail _ x11) (sub_cons (.head _) sub_nil))))))))))))))) hp)) F11 ⟨((r11 _ (by decide +kernel)).trans ((r10 _ (by decide +kernel)).trans ((r9 _ (by decide +kernel)).trans ((r8 _ (by decide +kernel)).trans q7)))),((r11 _ (by decide +kernel)).trans ((r10 _ (by decide +kernel)).trans ((r9 _ (by decide +kernel)).trans q8))),((r11 _ (by decide +kernel)).trans ((r10 _ (by decide +kernel)).trans q9)),((r11 _ (by decide +kernel)).trans q10),q11⟩ hi lo nr11 ⟨((r11 _ (by decide +kernel)).trans ((r10 _ (by decide +kernel)).trans ((r9 _ (by decide +kernel)).trans ((r8 _ (by decide +kernel)).trans ((r7 _ (by decide +kernel)).trans ((r6 _ (by decide +kernel)).trans ((r5 _ (by decide +kernel)).trans ((r4 _ (by decide +kernel)).trans q3)))))))),((r11 _ (by decide +kernel)).trans ((r10 _ (by decide +kernel)).trans ((r9 _ (by decide +kernel)).trans ((r8 _ (by decide +kernel)).trans ((r7 _ (by decide +kernel)).trans ((r6 _ (by decide +kernel)).trans ((r5 _ (by decide +kernel)).trans q4))))))),((r11 _ (by decide +kernel)).trans ((r10 _ (by decide +kernel)).trans ((r9 _ (by decide +kernel)).trans ((r8 _ (by decide +kernel)).trans ((r7 _ (by decide +kernel)).trans ((r6 _ (by decide +kernel)).trans q5))))))⟩ (fun n hn => have h := hne n hn;((r11 _ h.2.2.2.2.2.2.2.2.2.2).trans ((r10 _ h.2.2.2.2.2.2.2.2.2.1).trans ((r9 _ h.2.2.2.2.2.2.2.2.1).trans ((r8 _ h.2.2.2.2.2.2.2.1).trans ((r7 _ h.2.2.2.2.2.2.1).trans ((r6 _ h.2.2.2.2.2.1).trans ((r5 _ h.2.2.2.2.1).trans ((r4 _ h.2.2.2.1).trans ((r3 _ h.2.2.1).trans ((r2 _ h.2.1).trans ((r1 _ h.1).trans rfl)))))))))))) (Nat.le_trans z11 (by decide)) (by assumption) (AllLt.at c3 (.tail _ x2)) (AllLt.at c4 (.tail _ m3)) (AllLt.at c5 (.tail _ m4)) (AllLt.at c7 (.tail _ m5)) (AllLt.at cE (.tail _ m7)) (AllLt.at c8 (.head _)) (AllLt.at c9 (.tail _ m8)) (AllLt.at c10 (.tail _ m9)) (AllLt.at c11 (.tail _ m10))⟩
  case cut2 =>
    intro sCut hCut
    (try k_extra "H:fold2")
    obtain ⟨h4,tk4,B,f1,f2,f3,BL,rfl,eb,ed,F4,N4,hB,nr,bf,nm,hz,off,d1,d2⟩ := hCut
    subst eb
    subst ed
    dsimp only [List.drop]
    (try k_fold)
    clear N3 F3 N2 F2
    refine x0_3 hB.own ?_;(try clear hB.own)
    intro i1 i2 i3
    have mk1 : getL (Str.ofString "make") B.es = some none := nm _ (.head _)
    k_steps
    refine stop_go ?_
    (try k_extra "H:folds")
    rename News _ _ _ _ => N9
    rename (f1 < _ ∧ _) => l9
    k_dflt (refine make_use (ys := [(_,tup [])]) (BL := BL) (ts := [rec0]) (x := ⟨Str.ofString "true",[],0,.int 0⟩) (vs := []) ⟨by k_asm,by k_asm,by k_asm,fun p hp => N9 p (skip3 hp),by k_asm,by first | exact rfl | assumption,by first | ktr_room | ((simp only [depth_under_make,depth_under_kw,depth_in1,depth_deeper,depth_caller]);(try dsimp only [ktrTop]);omega),by first | ktr_units | ((simp only [units_under_make,units_in1,units_deeper,Around.mark_units,units_caller]);(try dsimp only [ktrTop]);omega)⟩ hB (List.forall_mem_singleton.mpr (allLt_allNe l9.2.2.2)) (.head _) .nil ⟨_,rfl⟩ ⟨fun h => absurd (show Str.ofString "true" = Str.ofString "num" from h) (by decide +kernel),fun h => let ⟨_,_,h⟩ := h;nomatch h⟩ (by decide) ?_)
    intro i t ts1 BL1 h5 tk5 F5 A5 hB1 hT1 e1 e2 e3
    refine x0_2 (first_made e1 e2 e3) ?_
    rintro rfl
    rintro rfl
    refine x0_2 (A5.frame (ms := [(f1,listOf #[] 0),(f2,listOf #[] 0),(f3,listOf #[] 0)]) (fun p hp => N9 p (mid3 hp)) (fun p hp q hq => apart3 off (allLt_allNe l9.2.2.2) l9.1 l9.2.1 l9.2.2.1 p hp q hq)) ?_
    intro NF dF
    refine x1_6 (hB1.turn A5.news (Nat.ne_of_lt (by assumption))) ?_
    intro rest NR r1 r2 r3 r4 r5
    have N6 : News g3 L3 h5 ((f1,listOf #[] 0) :: (f2,listOf #[] 0) :: (f3,listOf #[] 0) :: (B.bd,dictOf B.es B.ne) :: rest) := news3 NF NR
    clear N9 NR NF
    have ob := off _ i2
    k_steps
    refine stop_go ?_
    (try k_extra "H:folds")
    rename News _ _ _ _ => N9
    rename (f1 < _ ∧ _) => l9
    refine x1_5 (put_opaque N9 nr) ?_
    intro es2 N9 nr2 q1 q2 q3
    obtain ⟨BL2,hB2,s1,s2⟩ := r5 es2 _ (i3.of_get q1)
    have off2 : ∀ q ∈ BL2,AllNe q.1 [(f1,tup []),(f2,tup []),(f3,tup [])] := fun q hq => by
      rcases List.mem_cons.mp (s1 q hq) with h | h
      · rw [h];exact ob
      · exact allNe_of fun p hp e => off3x dF (r4 _ h) p hp e.symm
    have l9b : AllLt _ ((B.bd,dictOf es2 (putN (Str.ofString "true_number") B.es B.ne)) :: rest) := l9.2.2.2
    k_dflt (refine make_use (B := { B with es := es2,ne := putN (Str.ofString "true_number") B.es B.ne }) (ts := [rec0,⟨Str.ofString "true",[],0,.int 0⟩]) (ys := [(_,tup [])]) (BL := BL2) (x := ⟨Str.ofString "false",[],0,.int 0⟩) (vs := []) ⟨by k_asm,by k_asm,by k_asm,fun p hp => N9 p (skip4 s1 hp),by k_asm,by first | exact rfl | assumption,by first | ktr_room | ((simp only [depth_under_make,depth_under_kw,depth_in1,depth_deeper,depth_caller]);(try dsimp only [ktrTop]);omega),by first | ktr_units | ((simp only [units_under_make,units_in1,units_deeper,Around.mark_units,units_caller]);(try dsimp only [ktrTop]);omega)⟩ hB2 (List.forall_mem_singleton.mpr (allLt_allNe (allLt_sub l9b s1))) (.head _) .nil ⟨_,rfl⟩ ⟨fun h => absurd (show Str.ofString "false" = Str.ofString "num" from h) (by decide +kernel),fun h => let ⟨_,_,h⟩ := h;nomatch h⟩ (by decide) ?_)
    intro i tt ts3 BL3 h7 tk7 F7 A7 hB3 hT3 e4 e5 e6
    refine x0_2 (second_made e4 e5 e6 (by decide +kernel)) ?_
    rintro rfl
    rintro rfl
    refine x0_2 (A7.frame (ms := [(f1,listOf #[] 0),(f2,listOf #[] 0),(f3,listOf #[] 0)]) (fun p hp => N9 p (mid3 hp)) (fun p hp q hq => apart3 off2 (allLt_allNe (allLt_sub l9b s1)) l9.1 l9.2.1 l9.2.2.1 p hp q hq)) ?_
    intro NF dF3
    refine x1_6 (hB3.turn A7.news (Nat.ne_of_lt (by assumption))) ?_
    intro rest3 NR t1 t2 t3 t4 t5
    dsimp only at NR t1 t2 t5
    have N8 : News g3 L3 h7 ((f1,listOf #[] 0) :: (f2,listOf #[] 0) :: (f3,listOf #[] 0) :: (B.bd,dictOf es2 (putN (Str.ofString "true_number") B.es B.ne)) :: rest3) := news3 NF NR
    have z20 : es2.length ≤ 21 := by omega
    clear N9 NR NF r1 r2 T3
    k_steps
    rename News g2 L2 _ _ => NE
    rename Fr g2 L2 _ _ => FE
    have kept : Kept s.heap [] _ := fun b o e _ => FE.keep b o (z2.1 b o (kp b o e) fun p hp => by
      simp only [List.mem_cons,List.not_mem_nil,or_false] at hp
      rcases hp with rfl | rfl
      · intro q;rw [← q,nx] at e;cases e
      · intro q;rw [← q,nd] at e;cases e)
    have fresh : ∀ p,g2.get? p = none → s.heap.get? p = none := fun p e => by
      cases e2 : s.heap.get? p with
      | none => rfl
      | some o =>
        have := z2.1 p o (kp p o e2) fun q hq => by
          simp only [List.mem_cons,List.not_mem_nil,or_false] at hq
          rcases hq with rfl | rfl
          · intro q;rw [← q,nx] at e2;cases e2
          · intro q;rw [← q,nd] at e2;cases e2
        rw [this] at e;cases e
    rename News h₀ L _ _ => kN
    refine x1_5 (dict5 NE kN nr2) ?_
    intro esF NE kN nrF w1 w2
    obtain ⟨BLF,hBF,v1,v2⟩ := t5 esF _ ((i3.of_get q1).of_get' w1)
    have offF : ∀ q ∈ BLF,AllNe q.1 [(f1,tup []),(f2,tup []),(f3,tup [])] := fun q hq => by
      rcases List.mem_cons.mp (v1 q hq) with h | h
      · rw [h];exact ob
      · exact allNe_of fun p hp e => off3x dF3 (t4 _ h) p hp e.symm
    refine hret _ ((f1,listOf #[] 0) :: (f2,listOf #[] 0) :: (f3,listOf #[] 0) :: BLF) _ _ (by assumption) ⟨fun p hp => ?_,kept,fun p hp => .inr (fresh _ (NE p (low5 v1 hp)).2.2)⟩ ⟨{ B with es := esF,ne := _ },f1,f2,f3,BLF,rfl,rfl,hBF,⟨fun n hn => ?_,⟨t,?_⟩⟩,⟨?_,?_,?_⟩,fun n hn => ?_,offF,d1,d2⟩
    · exact kN p (low5 v1 hp)
    · have hm : n ∈ methNames := by
        exact subA (by decide +kernel) hn
      refine x0_3 (meth_ne n hm) ?_
      intro y1 y2 y3
      exact (w1 n y2 y3).trans ((q1 n y1).trans (nm n hm))
    · exact (w1 _ (by decide +kernel) (by decide +kernel)).trans q2
    · exact (w1 _ (by decide +kernel) (by decide +kernel)).trans ((q1 _ (by decide +kernel)).trans bf.g1)
    · exact (w1 _ (by decide +kernel) (by decide +kernel)).trans ((q1 _ (by decide +kernel)).trans bf.g2)
    · exact (w1 _ (by decide +kernel) (by decide +kernel)).trans ((q1 _ (by decide +kernel)).trans bf.g3)
    · refine x0_3 (meth_ne n hn) ?_
      intro y1 y2 y3
      exact (w1 n y2 y3).trans ((q1 n y1).trans (nm n hn))
  ))only[↓bx_eq]
end
end
section
theorem skip4' {e d a b c p : Addr × Obj} {BL : Led} (h : p ∈ [d] ++ BL) : p ∈ e :: d :: a :: b :: c :: BL := by
  exact subA (by k_extra "H:sub_auto") h
theorem mid3' {e d a b c p : Addr × Obj} {BL : Led} (h : p ∈ [a,b,c]) : p ∈ e :: d :: a :: b :: c :: BL := by
  exact subA (by k_extra "H:sub_auto") h
theorem fresh_made {ts ts' : List TRec} {x : TRec} {i : Nat} (hn : x ∉ ts) (e1 : ts'[i]? = some x) (e3 : ts' = ts ∨ ts' = ts ++ [x]) : ts' = ts ++ [x] ∧ i = ts.length := by
  rcases e3 with rfl | rfl
  · exact absurd (List.mem_of_getElem? e1) hn
  · rcases snoc_get e1 with h | h
    · exact absurd (List.mem_of_getElem? h) hn
    · exact ⟨rfl,h.1⟩
section
theorem g13.on13 : True := trivial
open g13
theorem set_40 : True := by
  k_with "!getAttr ref" => ((fail_if_success(fail_if_success have:=on13));(k_here;k_dflt (refine' get_own ?q9k1 ?q9k2 ?q9k3 ?q9k4 ?q9k5 ?q9k6 ?q9k7 ?q9k8 ?q9k9 ?_;(case q9k1 => k_asm);(case q9k2 => k_asm);(case q9k3 => k_inst);(case q9k4 => k_is);(case q9k5 => k_is);(case q9k6 => k_is);(case q9k7 => k_is);(case q9k8 => assumption);(case q9k9 => k_handed);k_whole)))
  exact trivial
theorem declare_use {B : BkA} {ts : List TRec} {BL : Led} {f1 f2 f3 ea e1 : Addr} {k1 k2 k3 : Nat} {x1 x2 x3 : List Value} {nm : Str} {srt : Int} {tn t3 : Tok} (Z : Sit w dp un cs outer A₀ base h₀ L m mean mg mb s ((ea,tup []) :: (e1,tup []) :: (f1,listOf x1.toArray k1) :: (f2,listOf x2.toArray k2) :: (f3,listOf x3.toArray k3) :: BL) 1 40) (hB : Bk w B ts BL) (hF : BankF B.es f1 f2 f3)
    (off : ∀ q ∈ BL,AllNe q.1 [(f1,tup []),(f2,tup []),(f3,tup [])]) (d1 : AllNe f1 [(f2,tup []),(f3,tup [])]) (d2 : f2 ≠ f3) (de : AllNe ea [(f1,tup []),(f2,tup []),(f3,tup [])]) (de1 : AllNe e1 [(f1,tup []),(f2,tup []),(f3,tup [])]) (hl : x1.length ≤ 10) (hl2 : x2.length ≤ 10) (hl3 : x3.length ≤ 10)
    (ret : ∀ t h' tk',Fr h₀ L h' m → News h₀ L h' ((ea,tup []) :: (e1,tup []) :: (f1,listOf (x1 ++ [Value.str nm tn]).toArray (k1 + 1)) :: (f2,listOf (x2 ++ [Value.ref ea]).toArray (k2 + 1)) :: (f3,listOf (x3 ++ [Value.int srt t3]).toArray (k3 + 1)) :: BL) → Q (.int (x1.length : Int) t) { s with heap := h',toks := tk' }) :
    wpAny (model PG w) (ktrTop dp un gd cn cs L a₁ ccd ce outer) (call (.ref 210) [.ref B.b,.str nm tn,.ref ea,.int srt t3]) Q E s := by
  apply bx;simp(disch:=k_dflt(
  obtain ⟨Bl,F,X,N,T,hk,hd,hu⟩ := Z
  refine x0_3 hB.own ?_;(try clear hB.own)
  intro i1 i2 i3
  obtain ⟨b1,b2,b3⟩ := hF
  have e1 : (x1 ++ [Value.str nm tn]).length = x1.length + 1 := by simp
  k_dflt (apply call_at (binds := [(Str.ofString "self",Value.ref B.b),(Str.ofString "name",Value.str nm tn),(Str.ofString "arg_sorts",Value.ref ea),(Str.ofString "result",Value.int srt t3)]));k_extra "H:o_rest"
  k_steps
  have e2 : ((x1.length + 1 : Nat) : Int) - 1 = (x1.length : Int) := by omega
  rw [e2]
  exact ret _ _ _ (by assumption) (by assumption)
  ))only[↓bx_eq]
end
section
theorem g14.on14 : True := trivial
open g14
theorem set_41 : True := by
  k_with "!call ref" => ((fail_if_success(fail_if_success have:=on14));(k_here;(with_reducible show wpAny _ _ (call (Value.ref 301) _) _ _ _);refine stop_at ?_))
  k_with "!call ref" => ((fail_if_success(fail_if_success have:=on14));(k_here;(with_reducible show wpAny _ _ (call (Value.ref 210) _) _ _ _);refine stop_at ?_))
  k_with "!getMethod ref" => ((fail_if_success(fail_if_success have:=on14));(k_here;(with_reducible show wpAny _ _ (getMethod (Value.ref _) _ _) _ _ _);k_dflt (refine' method_inst ?q9k1 ?q9k2 ?q9k3 ?q9k4 ?q9k5 ?q9k6 ?q9k7 ?_;(case q9k1 => k_asm);(case q9k2 => k_asm);(case q9k3 => k_inst);(case q9k4 => k_is);(case q9k5 => k_is);(case q9k6 => k_is);(case q9k7 => with_reducible assumption);k_whole)))
  exact trivial
theorem fresh_use {B : BkA} {ts : List TRec} {BL : Led} {f1 f2 f3 : Addr} {k1 k2 k3 : Nat} {x1 x2 x3 : List Value} {nm : Str} {srt : Int} {tn t3 : Tok} (Z : Sit w dp un cs outer A₀ base h₀ L m mean mg mb s ((f1,listOf x1.toArray k1) :: (f2,listOf x2.toArray k2) :: (f3,listOf x3.toArray k3) :: BL) 4 100) (hB : Bk w B ts BL) (hF : BankF B.es f1 f2 f3) (hm : ∀ n ∈ methNames,getL n B.es = some none)
    (off : ∀ q ∈ BL,AllNe q.1 [(f1,tup []),(f2,tup []),(f3,tup [])]) (d1 : AllNe f1 [(f2,tup []),(f3,tup [])]) (d2 : f2 ≠ f3) (hl : x1.length ≤ 10) (hl2 : x2.length ≤ 10) (hl3 : x3.length ≤ 10) (hz : ts.length ≤ 10) (hn : varR srt (x1.length : Int) ∉ ts)
    (ret : ∀ t (BL' : Led) (x1' x2' x3' : List Value) (k1' k2' k3' : Nat) h' tk',Fr h₀ L h' m → After h₀ L s.heap ((f1,listOf x1.toArray k1) :: (f2,listOf x2.toArray k2) :: (f3,listOf x3.toArray k3) :: BL) h' ((f1,listOf x1'.toArray k1') :: (f2,listOf x2'.toArray k2') :: (f3,listOf x3'.toArray k3') :: BL') → x1'.length = x1.length + 1 → x2'.length = x2.length + 1 → x3'.length = x3.length + 1 →
      Bk w B (ts ++ [varR srt (x1.length : Int)]) BL' → (∀ q ∈ BL',AllNe q.1 [(f1,tup []),(f2,tup []),(f3,tup [])]) → Q (.int (ts.length : Int) t) { s with heap := h',toks := tk' }) :
    wpAny (model PG w) (ktrTop dp un gd cn cs L a₁ ccd ce outer) (call (.ref 224) [.ref B.b,.str nm tn,.int srt t3]) Q E s := by
  apply bx;simp(disch:=k_dflt(
  obtain ⟨Bl,F,X,N,T,hk,hd,hu⟩ := Z
  refine x0_3 hB.own ?_;(try clear hB.own)
  intro i1 i2 i3
  have mk1 : getL (Str.ofString "make") B.es = some none := hm _ (by decide +kernel)
  have mk2 : getL (Str.ofString "declare_fun") B.es = some none := hm _ (by decide +kernel)
  k_dflt (apply call_at (binds := [(Str.ofString "self",Value.ref B.b),(Str.ofString "name",Value.str nm tn),(Str.ofString "s",Value.int srt t3)]));k_extra "H:o_rest"
  k_steps
  refine stop_go ?_
  (try k_extra "H:folds")
  rename_i D1 hh1 _ l1 D2 hh2 _ F2 N2 l2
  k_dflt (refine' declare_use (ts := ts) (ea := D2) (e1 := D1) (k1 := k1) (k2 := k2) (k3 := k3) ?S hB hF off d1 d2 ⟨by k_ne,by k_ne,by k_ne,trivial⟩ ⟨by k_ne,by k_ne,by k_ne,trivial⟩ hl hl2 hl3 ?_;(case S => exact ⟨by k_asm,by k_asm,by k_asm,N2,by k_asm,by first | exact rfl | assumption,by ktr_room,by ktr_units⟩))
  intro td h5 tk5 F5 N5
  have o1 : AllNe D1 BL := allLt_allNe l1.2.2.2
  k_steps
  refine stop_go ?_
  (try k_extra "H:folds")
  rename News _ _ _ _ => N9
  k_dflt (refine make_use (ys := [(D1,tup [])]) (BL := BL) (ts := ts) (x := varR srt (x1.length : Int)) (vs := []) ⟨by k_asm,by k_asm,by k_asm,fun p hp => N9 p (skip4' hp),by k_asm,by first | exact rfl | assumption,by ktr_room,by ktr_units⟩ hB (List.forall_mem_singleton.mpr o1) (.head _) .nil ⟨_,rfl⟩ ⟨fun h => absurd (show Str.ofString "app" = Str.ofString "num" from h) (by decide +kernel),fun h => let ⟨_,_,h⟩ := h;nomatch h⟩ (by omega) ?_)
  intro i t ts1 BL1 h6 tk6 F6 A6 hB1 hT1 e1 e2 e3
  refine x0_2 (fresh_made hn e1 e3) ?_
  rintro rfl
  rintro rfl
  obtain ⟨NF,dF⟩ := A6.frame (ms := [(f1,listOf (x1 ++ [Value.str nm tn]).toArray (k1 + 1)),(f2,listOf (x2 ++ [Value.ref D2]).toArray (k2 + 1)),(f3,listOf (x3 ++ [Value.int srt t3]).toArray (k3 + 1))]) (fun p hp => N9 p (mid3' hp)) (fun p hp q hq => by
    simp only [List.mem_cons,List.not_mem_nil,or_false] at hp
    rcases List.mem_cons.mp hq with rfl | hq
    · rcases hp with rfl | rfl | rfl <;> exact neN (by dsimp only;first | k_ne | omega)
    · have := off q hq
      rcases hp with rfl | rfl | rfl
      · exact Ne.symm this.1
      · exact Ne.symm this.2.1
      · exact Ne.symm this.2.2.1)
  clear N9
  k_steps
  exact ret t BL1 _ _ _ _ _ _ _ _ (by assumption) (after_of (by assumption) (by assumption) NF (by assumption)) (by simp) (by simp) (by simp) hB1 fun q hq => ⟨fun e => dF _ (.head _) q hq e.symm,fun e => dF _ (.tail _ (.head _)) q hq e.symm,fun e => dF _ (.tail _ (.tail _ (.head _))) q hq e.symm,trivial⟩
  ))only[↓bx_eq]
end
end
section
section
variable {prog : Program} {w : World} {A : Around} {E : Value → Shared → Prop} {s : Shared} {env : Env} {h₀ : Heap} {L : Addr} {Q : Flow → Shared → Prop}
noncomputable def WhilePost (h₀ : Heap) (L : Addr) (s : Shared) (J : Nat → Mp → Led → Prop) (Q : Flow → Shared → Prop) (n : Nat) (f : Flow) (s₂ : Shared) : Prop :=
  match f with
  | .ret v => Q (.ret v) s₂
  | .brk => Q .next s₂
  | _ => StopAt (∃ h' tk m' led' n',s₂ = { s with heap := h',toks := tk } ∧ Fr h₀ L h' m' ∧ News h₀ L h' led' ∧ n' < n ∧ J n' m' led')
theorem while_end {h' : Heap} {tk : Nat} {m' : Mp} {led' : Led} {n n' : Nat} {s₁ : Shared} {J : Nat → Mp → Led → Prop} (F : Fr h₀ L h' m') (N : News h₀ L h' led') (hn : n' < n) (j : J n' m' led') : WhilePost h₀ L s₁ J Q n .next { s₁ with heap := h',toks := tk } :=
  ⟨h',tk,m',led',n',rfl,F,N,hn,j⟩
theorem while_inv {test : Expr} {body : List Stmt} {pos : Pos} {m : Mp} {led : Led} (J : Nat → Mp → Led → Prop) {n₀ : Nat} (F : Fr h₀ L s.heap m) (N : News h₀ L s.heap led) (hJ : J n₀ m led)
    (turn : ∀ n m₁ led₁ h₁ tk₁,J n m₁ led₁ → Fr h₀ L h₁ m₁ → News h₀ L h₁ led₁ →
      wpAny (model prog w) A (isTrue test env (eval test env)) (fun b s₂ => WhlIf b (wpAny (model prog w) A (execs body env) (WhilePost h₀ L { s with heap := h₁,toks := tk₁ } J Q n) E s₂) (Q .next s₂)) E { s with heap := h₁,toks := tk₁ })
    (hE : PassesOwn (model prog w) A env E) : wpAny (model prog w) A (exec (.While test body [] pos) env) Q E s := by
  refine While_inv2 J F N hJ ?_ hE
  intro n m₁ led₁ h₁ tk₁ F₁ N₁ j
  refine wpAny_mono (turn n m₁ led₁ h₁ tk₁ j F₁ N₁) (fun b s₂ p => ?_) fun _ _ x => x
  cases b with
  | false => exact p
  | true =>
    refine wpAny_mono p (fun f s₃ q => ?_) fun _ _ x => x
    cases f with
    | ret v => exact q
    | brk => exact q
    | next =>
      refine x5_5 q ?_;(try clear q)
      intro h' tk' m' led' n' e F' N' hn j'
      exact ⟨h',tk',m',led',n',e,F',N',hn,j'⟩
    | cont =>
      refine x5_5 q ?_;(try clear q)
      intro h' tk' m' led' n' e F' N' hn j'
      exact ⟨h',tk',m',led',n',e,F',N',hn,j'⟩
end
noncomputable def GcdJ (a b : Int) (n : Nat) (m : Mp) (_ : Led) : Prop := ∃ (x y : Int) (tx ty : Tok),m (Str.ofString "a") = some (.int x tx) ∧ m (Str.ofString "b") = some (.int y ty) ∧ 0 ≤ x ∧ 0 ≤ y ∧ x ≤ 1000000 ∧ y ≤ 1000000 ∧ n = y.toNat ∧ Int.gcd x y = Int.gcd a b
theorem gcd_abs {a b : Int} : Int.gcd (if a < 0 then -a else a) (if b < 0 then -b else b) = Int.gcd a b := by
  split <;> split <;> simp
theorem gcd_mod {x y : Int} : Int.gcd y (Int.fmod x y) = Int.gcd x y := by
  rw [Int.fmod_def,Int.sub_eq_add_neg,← Int.mul_neg,Int.gcd_add_mul_left_right,Int.gcd_comm]
section
theorem g15.on15 : True := trivial
open g15
theorem set_42 : True := by
  k_with "!exec While" => ((fail_if_success(fail_if_success have:=on15));(refine stop_at ?_))
  exact trivial
theorem gcd_spec (w : World) {a b : Int} {ta tb : Tok} (ha : -1000000 ≤ a) (ha2 : a ≤ 1000000) (hb : -1000000 ≤ b) (hb2 : b ≤ 1000000) : Spec w 98 [.int a ta,.int b tb] 1 20 [] fun r _ => ∃ t,r = .int (Int.gcd a b : Int) t := by
  apply bx;simp(disch:=k_dflt(
  unfold Spec
  intro dp un gd cn cs a₁ ccd ce outer A₀ base h₀ L m mean mg mb s Q E B F X N T hk hd hu hret
  k_dflt (apply call_at (binds := [(Str.ofString "a",Value.int a ta),(Str.ofString "b",Value.int b tb)]));k_extra "H:o_rest"
  k_steps
  refine stop_go ?_
  (try k_extra "H:folds")
  refine while_inv (GcdJ a b) (by assumption) (by assumption) ⟨_,_,_,_,by with_unfolding_all rfl,by with_unfolding_all rfl,?i1,?i2,?i3,?i4,rfl,gcd_abs⟩ ?turn (by passes_own)
  case i1 => split <;> omega
  case i2 => split <;> omega
  case i3 => split <;> omega
  case i4 => split <;> omega
  case turn =>
    intro n m1 led1 h1 tk1 zq1
    refine x4_8 zq1 ?_;(try clear zq1)
    intro x y tx ty mx my x0 y0 x1 y1
    rintro rfl
    intro g
    intro F1 N1
    k_steps
    by_cases hy : y = 0
    · refine WhlIf.no (by simp [hy]) ?_
      k_steps
      subst hy
      rw [Int.gcd_zero_right] at g
      refine hret _ _ _ _ (by assumption) (after_of (by assumption) (by assumption) (by assumption) (by assumption)) ⟨tx,by rw [← g,Int.natAbs_of_nonneg x0]⟩
    · have y2 : 0 < y := by omega
      refine WhlIf.yes (by simp [hy]) ?_
      k_steps
      have f1 := Int.fmod_nonneg_of_pos x y2
      have f2 := Int.fmod_lt_of_pos x y2
      exact while_end (by assumption) (by assumption) ((Int.toNat_lt_toNat y2).mpr f2) ⟨_,_,_,_,by with_unfolding_all rfl,by with_unfolding_all rfl,y0,f1,y1,Int.le_trans (Int.le_of_lt f2) y1,rfl,gcd_mod.trans g⟩
  ))only[↓bx_eq]
noncomputable def LowestOf (top bottom p q : Int) : Prop := ∃ c : Int,c.natAbs = Int.gcd top bottom ∧ p * c = top ∧ q * c = bottom ∧ 1 ≤ q
theorem lowest_of {top bottom : Int} (hb : bottom ≠ 0) (c : Int) (hc : c = if bottom < 0 then -(Int.gcd top bottom : Int) else Int.gcd top bottom) : LowestOf top bottom (Int.fdiv top c) (Int.fdiv bottom c) := by
  have g0 : (0 : Int) < Int.gcd top bottom := by
    have := Int.gcd_pos_of_ne_zero_right top hb
    omega
  have d1 : (Int.gcd top bottom : Int) ∣ top := Int.gcd_dvd_left ..
  have d2 : (Int.gcd top bottom : Int) ∣ bottom := Int.gcd_dvd_right ..
  have c1 : c.natAbs = Int.gcd top bottom := by rw [hc];split <;> simp
  have c0 : c ≠ 0 := by rw [hc];split <;> omega
  have e1 : c ∣ top := by rw [hc];split;exact Int.neg_dvd.mpr d1;exact d1
  have e2 : c ∣ bottom := by rw [hc];split;exact Int.neg_dvd.mpr d2;exact d2
  have q2 : Int.fdiv bottom c * c = bottom := Int.fdiv_mul_cancel e2
  refine ⟨c,c1,Int.fdiv_mul_cancel e1,q2,?_⟩
  refine Int.not_lt.mp fun hn => ?_
  have hn : Int.fdiv bottom c ≤ 0 := by omega
  by_cases h : bottom < 0
  · rw [if_pos h] at hc
    have : 0 ≤ Int.fdiv bottom c * c := Int.mul_nonneg_of_nonpos_of_nonpos hn (by omega)
    omega
  · rw [if_neg h] at hc
    have : Int.fdiv bottom c * c ≤ 0 := Int.mul_nonpos_of_nonpos_of_nonneg hn (by omega)
    omega
theorem set_43 : True := by
  k_with "!binaryOp FloorDiv int int" => ((fail_if_success(fail_if_success have:=on15));(k_here;(with_reducible refine PyProof.Rows.floordiv_int ?q9kbe ?_ (Or.inl (PyProof.noPylong_small ?q9kbp)));(case q9kbe => omega);(case q9kbp => omega)))
  k_with "!call ref" => ((fail_if_success(fail_if_success have:=on15));(k_here;(with_reducible show wpAny _ _ (call (Value.ref 98) _) _ _ _);refine stop_at ?_))
  exact trivial
theorem ratiof_spec (w : World) {a b : Int} {ta tb : Tok} (ha : -1000000 ≤ a) (ha2 : a ≤ 1000000) (hb : -1000000 ≤ b) (hb2 : b ≤ 1000000) (hb0 : b ≠ 0) : Spec w 112 [.int a ta,.int b tb] 2 40 [] fun r led' => ∃ d p q t1 t2,r = .ref d ∧ (d,tup [.int p t1,.int q t2]) ∈ led' ∧ LowestOf a b p q := by
  apply bx;simp(disch:=k_dflt(
  unfold Spec
  intro dp un gd cn cs a₁ ccd ce outer A₀ base h₀ L m mean mg mb s Q E B F X N T hk hd hu hret
  k_dflt (apply call_at (binds := [(Str.ofString "top",Value.int a ta),(Str.ofString "bottom",Value.int b tb)]));k_extra "H:o_rest"
  k_steps
  refine stop_go ?_
  (try k_extra "H:folds")
  k_dflt (refine' (gcd_spec w ha ha2 hb hb2).use ?S sub_nil ?_;(case S => exact ⟨by k_asm,by k_asm,by k_asm,by k_asm,by k_asm,by first | exact rfl | assumption,by ktr_room,by ktr_units⟩))
  intro r led' h' tk' F' A' zq2
  refine x1_1 zq2 ?_;(try clear zq2)
  intro tg
  rintro rfl
  have N' := A'.news
  have g0 : (0 : Int) < Int.gcd a b := by
    have := Int.gcd_pos_of_ne_zero_right a hb0
    omega
  have g1 : (Int.gcd a b : Int) ≤ 1000000 := by
    exact Int.le_trans (Int.le_of_dvd (Int.ofNat_lt.mpr (Int.natAbs_pos.mpr hb0) : (0 : Int) < b.natAbs) (Int.dvd_natAbs.mpr (Int.gcd_dvd_right a b))) (Int.ofNat_le.mpr (abs_mono (A := 1000000) hb hb2))
  have L1 := lowest_of (top := a) hb0 _ rfl
  generalize hG : (Int.gcd a b : Int) = G at *
  have g3 : G.natAbs < 1073741824 := abs_lt (A := 1000000) (Int.le_of_lt (Int.lt_of_lt_of_le (by decide) (Int.le_of_lt g0))) g1 rfl
  have g4 : (-G).natAbs < 1073741824 := (Int.natAbs_neg G).symm ▸ g3
  have g5 : -G ≠ 0 := fun e => Int.ne_of_gt g0 (Int.neg_eq_zero.mp e)
  k_steps
  · rw [if_pos (by omega)] at L1
    exact hret _ _ _ _ (by assumption) (after_of (by assumption) (by assumption) (by assumption) (by assumption)) ⟨_,_,_,_,_,rfl,by k_mem,L1⟩
  · rw [if_neg (by omega)] at L1
    exact hret _ _ _ _ (by assumption) (after_of (by assumption) (by assumption) (by assumption) (by assumption)) ⟨_,_,_,_,_,rfl,by k_mem,L1⟩
  ))only[↓bx_eq]
end
end
section
theorem Froz.tup {h g : Heap} {a : Addr} {its : Array Value} (z : Froz h [] g) (t : IsTup h a its) : IsTup g a its := by
  refine x1_2 t ?_;(try clear t)
  intro o ho r
  exact ⟨o,z.1 _ _ ho fun p hp => (nomatch hp),r⟩
theorem tup_keep {g h : Heap} {L a : Addr} {m : Mp} {its : Array Value} (F : Fr g L h m) (t : IsTup g a its) : IsTup h a its := by
  refine x1_2 t ?_;(try clear t)
  intro o ho r
  exact ⟨o,F.keep _ _ ho,r⟩
theorem news_tup {g h : Heap} {L a : Addr} {led : Led} {its : List Value} (N : News g L h led) (hm : (a,tup its) ∈ led) : IsTup h a its.toArray := ⟨_,(N _ hm).1,rfl,_,rfl⟩
noncomputable def PairH (h : Heap) (a : Addr) (p q : Int) : Prop := ∃ t1 t2 : Tok,IsTup h a #[.int p t1,.int q t2]
theorem mul_bd {x y : Int} (h1 : -1000 ≤ x ∧ x ≤ 1000) (h2 : -1000 ≤ y ∧ y ≤ 1000) : -1000000 ≤ x * y ∧ x * y ≤ 1000000 := by
  have h : (x * y).natAbs ≤ 1000 * 1000 := by
    rw [Int.natAbs_mul]
    exact Nat.mul_le_mul (abs_mono (A := 1000) h1.1 h1.2) (abs_mono (A := 1000) h2.1 h2.2)
  exact of_abs (A := 1000000) (by decide) h
theorem mul_pos1 {x y : Int} (h1 : 1 ≤ x) (h2 : 1 ≤ y) : 1 ≤ x * y := by
  have := Int.mul_pos (show (0 : Int) < x by omega) (show (0 : Int) < y by omega)
  omega
theorem lowest_one {x : Int} : LowestOf x 1 x 1 := ⟨1,by simp,by omega,by omega,by omega⟩
section
theorem Sit.nil {D U : Nat} (Z : Sit w dp un cs outer A₀ base h₀ L m mean mg mb s all D U) : Sit w dp un cs outer A₀ base h₀ L m mean mg mb s [] D U := ⟨Z.B,Z.F,Z.X,fun _ hp => (nomatch hp),Z.T,Z.hk,Z.hd,Z.hu⟩
theorem g16.on16 : True := trivial
open g16
theorem set_44 : True := by
  k_with "!call ref" => ((fail_if_success(fail_if_success have:=on16));(k_here;(with_reducible show wpAny _ _ (call (Value.ref 98) _) _ _ _);refine stop_at ?_))
  k_with "!call ref" => ((fail_if_success(fail_if_success have:=on16));(k_here;(with_reducible show wpAny _ _ (call (Value.ref 112) _) _ _ _);refine stop_at ?_))
  k_with "!subscriptTail" => ((fail_if_success(fail_if_success have:=on16));(k_here;(with_reducible show wpAny _ _ (subscriptTail _ _ (Value.ref _) (Value.int _ _)) _ _ _);k_dflt (refine' item_tupleT ?q9kt ?q9ka ?q9kb ?q9kc ?q9kd ?_;(case q9kt => exact tup_keep (by assumption) (by assumption));(case q9ka => decide);(case q9kb => decide);(case q9kc => rfl);(case q9kd => rfl);k_whole)))
  exact trivial
theorem addp_raw {a b : Addr} {p q : Int} (Z : Sit w dp un cs outer A₀ base h₀ L m mean mg mb s [] 2 20) (ha : PairH s.heap a p 1) (hb : PairH s.heap b q 1)
    (ret : ∀ d t1 t2 h' tk',Fr h₀ L h' m → After h₀ L s.heap [] h' [(d,tup [.int (p + q) t1,.int 1 t2])] → Q (.ref d) { s with heap := h',toks := tk' }) :
    wpAny (model PG w) (ktrTop dp un gd cn cs L a₁ ccd ce outer) (call (.ref 119) [.ref a,.ref b]) Q E s := by
  apply bx;simp(disch:=k_dflt(
  obtain ⟨B,F,X,N,T,hk,hd,hu⟩ := Z
  refine x2_1 ha ?_;(try clear ha)
  intro u1 u2 ha
  refine x2_1 hb ?_;(try clear hb)
  intro u3 u4 hb
  k_dflt (apply call_at (binds := [(Str.ofString "a",Value.ref a),(Str.ofString "b",Value.ref b)]));k_extra "H:o_rest"
  rename Froz _ _ _ => z
  have ta := z.tup ha
  have tb := z.tup hb
  k_steps
  exact ret _ _ _ _ _ (by assumption) (after_of (by assumption) (by assumption) (by assumption) (by assumption))
  ))only[↓bx_eq]
theorem mulp_raw {a b : Addr} {p q p' q' : Int} (Z : Sit w dp un cs outer A₀ base h₀ L m mean mg mb s [] 4 60) (ha : PairH s.heap a p q) (hb : PairH s.heap b p' q') (h1 : -1000 ≤ p ∧ p ≤ 1000) (h2 : -1000 ≤ p' ∧ p' ≤ 1000) (h3 : 1 ≤ q ∧ q ≤ 1000) (h4 : 1 ≤ q' ∧ q' ≤ 1000)
    (ret : ∀ d x y t1 t2 h' tk',Fr h₀ L h' m → After h₀ L s.heap [] h' [(d,tup [.int x t1,.int y t2])] → LowestOf (p * p') (q * q') x y → Q (.ref d) { s with heap := h',toks := tk' }) :
    wpAny (model PG w) (ktrTop dp un gd cn cs L a₁ ccd ce outer) (call (.ref 140) [.ref a,.ref b]) Q E s := by
  apply bx;simp(disch:=k_dflt(
  obtain ⟨B,F,X,N,T,hk,hd,hu⟩ := Z
  refine x2_1 ha ?_;(try clear ha)
  intro u1 u2 ha
  refine x2_1 hb ?_;(try clear hb)
  intro u3 u4 hb
  k_dflt (apply call_at (binds := [(Str.ofString "a",Value.ref a),(Str.ofString "b",Value.ref b)]));k_extra "H:o_rest"
  rename Froz _ _ _ => z
  have ta := z.tup ha
  have tb := z.tup hb
  k_steps
  · have e1 : q = 1 := by simp_all
    have e2 : q' = 1 := by simp_all
    subst e1;subst e2
    exact ret _ _ _ _ _ _ _ (by assumption) (after_of (by assumption) (by assumption) (by assumption) (by assumption)) (by rw [Int.mul_one];exact lowest_one)
  all_goals
    refine stop_go ?_
    (try k_extra "H:folds")
    have b1 := mul_bd h1 h2
    have b2 := mul_bd (x := q) (y := q') ⟨by omega,by omega⟩ ⟨by omega,by omega⟩
    have b3 := mul_pos1 h3.1 h4.1
    k_dflt (refine' (ratiof_spec w b1.1 b1.2 b2.1 b2.2 (by omega)).use ?S sub_nil ?_;(case S => exact ⟨by k_asm,by k_asm,by k_asm,by k_asm,by k_asm,by first | exact rfl | assumption,by ktr_room,by ktr_units⟩))
    intro r led' h' tk' F' A' zq1
    refine x5_3 zq1 ?_;(try clear zq1)
    intro d x y t1 t2
    rintro rfl
    intro hm hl
    have N' := (A'.sub (sub_cons hm sub_nil)).news
    k_steps
    exact ret _ _ _ _ _ _ _ (by assumption) (after_of (by assumption) (by assumption) (by assumption) (by assumption)) hl
  ))only[↓bx_eq]
theorem addp_use {a b : Addr} {p q : Int} (Z : Sit w dp un cs outer A₀ base h₀ L m mean mg mb s all 2 20) (hh : PairH s.heap a p 1 ∧ PairH s.heap b q 1)
    (ret : ∀ d t1 t2 h' tk',Fr h₀ L h' m → News h₀ L h' ((d,tup [.int (p + q) t1,.int 1 t2]) :: all) → AllNe d all → Q (.ref d) { s with heap := h',toks := tk' }) :
    wpAny (model PG w) (ktrTop dp un gd cn cs L a₁ ccd ce outer) (call (.ref 119) [.ref a,.ref b]) Q E s :=
  addp_raw Z.nil hh.1 hh.2 fun d t1 t2 h' tk' F' A' => ret d t1 t2 h' tk' F' (A'.cons (A'.pure Z.N (fun _ hp => nomatch hp) (fun _ hp => nomatch hp)) (.head _)) (allNe_of (A'.ne (.head _) ne_nil Z.N))
theorem mulp_use {a b : Addr} {p q p' q' : Int} (Z : Sit w dp un cs outer A₀ base h₀ L m mean mg mb s all 4 60)
    (hh : PairH s.heap a p q ∧ PairH s.heap b p' q' ∧ (-1000 ≤ p ∧ p ≤ 1000) ∧ (-1000 ≤ p' ∧ p' ≤ 1000) ∧ (1 ≤ q ∧ q ≤ 1000) ∧ (1 ≤ q' ∧ q' ≤ 1000))
    (ret : ∀ d x y t1 t2 h' tk',Fr h₀ L h' m → News h₀ L h' ((d,tup [.int x t1,.int y t2]) :: all) → AllNe d all → LowestOf (p * p') (q * q') x y → Q (.ref d) { s with heap := h',toks := tk' }) :
    wpAny (model PG w) (ktrTop dp un gd cn cs L a₁ ccd ce outer) (call (.ref 140) [.ref a,.ref b]) Q E s :=
  mulp_raw Z.nil hh.1 hh.2.1 hh.2.2.1 hh.2.2.2.1 hh.2.2.2.2.1 hh.2.2.2.2.2 fun d x y t1 t2 h' tk' F' A' hl => ret d x y t1 t2 h' tk' F' (A'.cons (A'.pure Z.N (fun _ hp => nomatch hp) (fun _ hp => nomatch hp)) (.head _)) (allNe_of (A'.ne (.head _) ne_nil Z.N)) hl
end
end
section
noncomputable def PIn (T : Led) (a : Addr) (p : Int) : Prop := (∃ t1 t2 : Tok,(a,tup [.int p t1,.int 1 t2]) ∈ T) ∨ (a = 89 ∧ p = 0) ∨ (a = 90 ∧ p = 1) ∨ (a = 91 ∧ p = -1)
theorem PIn.tmono {T T' : Led} {a : Addr} {p : Int} (h : PIn T a p) (hs : TSub T T') : PIn T' a p := by
  rcases h with ⟨t1,t2,h⟩ | h
  · exact .inl ⟨t1,t2,hs _ _ h⟩
  · exact .inr h
theorem PIn.mono {T T' : Led} {a : Addr} {p : Int} (h : PIn T a p) (hs : ∀ p ∈ T,p ∈ T') : PIn T' a p := h.tmono fun _ _ h => hs _ h
theorem pin_zero {T : Led} : PIn T 89 0 := .inr (.inl ⟨rfl,rfl⟩)
theorem pin_one {T : Led} : PIn T 90 1 := .inr (.inr (.inl ⟨rfl,rfl⟩))
theorem pin_minus {T : Led} : PIn T 91 (-1) := .inr (.inr (.inr ⟨rfl,rfl⟩))
theorem PIn.pairH {P : Params} {h₀ h : Heap} {L a : Addr} {m : Mp} {p : Int} {T led : Led} (x : PIn T a p) (F : Fr h₀ L h m) (N : News h₀ L h led) (X : (k0.heap_1 P).In h₀) (hs : ∀ p ∈ T,p ∈ led) : PairH h a p 1 := by
  rcases x with ⟨t1,t2,hm⟩ | ⟨rfl,rfl⟩ | ⟨rfl,rfl⟩ | ⟨rfl,rfl⟩
  · exact ⟨t1,t2,news_tup N (hs _ hm)⟩
  · exact ⟨_,_,_,F.keep _ _ (X 89 _ (by k_is)),rfl,_,rfl⟩
  · exact ⟨_,_,_,F.keep _ _ (X 90 _ (by k_is)),rfl,_,rfl⟩
  · exact ⟨_,_,_,F.keep _ _ (X 91 _ (by k_is)),rfl,_,rfl⟩
noncomputable def PB (b : Bool) (T : Led) (a : Addr) (p : Int) : Prop := (∃ t1 t2 : Tok,(a,tup [.int p t1,.int 1 t2]) ∈ T) ∨ (b = true ∧ ((a = 89 ∧ p = 0) ∨ (a = 90 ∧ p = 1) ∨ (a = 91 ∧ p = -1)))
theorem PB.pin {b : Bool} {T : Led} {a : Addr} {p : Int} (h : PB b T a p) : PIn T a p := by
  rcases h with h | ⟨_,h⟩
  · exact .inl h
  · exact .inr h
theorem PB.tmono {b : Bool} {T T' : Led} {a : Addr} {p : Int} (h : PB b T a p) (hs : TSub T T') : PB b T' a p := by
  rcases h with ⟨t1,t2,h⟩ | h
  · exact .inl ⟨t1,t2,hs _ _ h⟩
  · exact .inr h
theorem pb_one {T : Led} : PB true T 90 1 := .inr ⟨rfl,.inr (.inl ⟨rfl,rfl⟩)⟩
inductive FacsIn (b : Bool) (T : Led) : List (Int × Value) → List (Int × Int) → Prop
  | nil : FacsIn b T [] []
  | cons {k a f kvs fs} : PB b T a f → FacsIn b T kvs fs → FacsIn b T ((k,.ref a) :: kvs) ((k,f) :: fs)
theorem FacsIn.tmono {b : Bool} {T T' : Led} {kvs : List (Int × Value)} {fs : List (Int × Int)} (h : FacsIn b T kvs fs) (hs : TSub T T') : FacsIn b T' kvs fs := by
  induction h with
  | nil => exact .nil
  | cons h1 _ ih => exact .cons (h1.tmono hs) ih
theorem FacsIn.keys {b : Bool} {T : Led} {kvs : List (Int × Value)} {fs : List (Int × Int)} (h : FacsIn b T kvs fs) : kvs.map (·.1) = fs.map (·.1) := by
  induction h with
  | nil => rfl
  | cons _ _ ih => simp [ih]
theorem FacsIn.length {b : Bool} {T : Led} {kvs : List (Int × Value)} {fs : List (Int × Int)} (h : FacsIn b T kvs fs) : kvs.length = fs.length := by
  have := congrArg List.length h.keys
  simpa using this
noncomputable def look : List (Int × Int) → Int → Option Int
  | [],_ => none
  | x :: r,k => if x.1 = k then some x.2 else look r k
noncomputable def put : List (Int × Int) → Int → Int → List (Int × Int)
  | [],k,v => [(k,v)]
  | x :: r,k,v => if x.1 = k then (k,v) :: r else x :: put r k v
theorem look_n (k : Int) : look [] k = none := rfl
theorem look_c (x : Int × Int) (r : List (Int × Int)) (k : Int) : look (x :: r) k = if x.1 = k then some x.2 else look r k := rfl
theorem put_n (k v : Int) : put [] k v = [(k,v)] := rfl
theorem put_c (x : Int × Int) (r : List (Int × Int)) (k v : Int) : put (x :: r) k v = if x.1 = k then (k,v) :: r else x :: put r k v := rfl
noncomputable def drp (fs : List (Int × Int)) (k : Int) : List (Int × Int) := fs.filter fun x => decide (x.1 ≠ k)
theorem FacsIn.at {b : Bool} {T : Led} {kvs : List (Int × Value)} {fs : List (Int × Int)} (h : FacsIn b T kvs fs) (k : Int) :
    (look fs k = none ∧ valueAt kvs k = none) ∨ ∃ a f,look fs k = some f ∧ valueAt kvs k = some (.ref a) ∧ PB b T a f := by
  induction h with
  | nil => exact .inl ⟨rfl,rfl⟩
  | @cons k' a f kvs fs h1 _ ih =>
    by_cases e : k' = k
    · exact .inr ⟨a,f,by simp [look_n,look_c,e],by simp [valueAt,e],h1⟩
    · have e2 : valueAt ((k',Value.ref a) :: kvs) k = valueAt kvs k := by simp [valueAt,e]
      have e3 : look ((k',f) :: fs) k = look fs k := by simp [look_n,look_c,e]
      rw [e2,e3]
      exact ih
theorem stored_head {k' k : Int} {v' v : Value} {kvs : List (Int × Value)} (hn : k' ∉ kvs.map (·.1)) : stored ((k',v') :: kvs) k v = if k' = k then (k',v) :: kvs else (k',v') :: stored kvs k v := by
  unfold stored
  by_cases e : k' = k
  · subst e
    simp only [List.any_cons,decide_true,Bool.true_or,if_true,List.map_cons]
    rw [map_store_of_not_mem kvs _ v hn]
  · simp only [List.any_cons,decide_eq_false e,Bool.false_or,if_neg e,List.map_cons]
    split <;> rfl
theorem FacsIn.stored {b : Bool} {T : Led} {kvs : List (Int × Value)} {fs : List (Int × Int)} {k f : Int} {a : Addr} (h : FacsIn b T kvs fs) (hn : (kvs.map (·.1)).Nodup) (hp : PB b T a f) : FacsIn b T (stored kvs k (.ref a)) (put fs k f) := by
  induction h with
  | nil => exact .cons hp .nil
  | @cons k' a' f' kvs fs h1 h2 ih =>
    rw [List.map_cons,List.nodup_cons] at hn
    rw [stored_head hn.1]
    by_cases e : k' = k
    · rw [if_pos e]
      subst e
      simp only [put_n,put_c,if_true]
      exact .cons hp h2
    · rw [if_neg e]
      simp only [put_n,put_c,if_neg e]
      exact .cons h1 (ih hn.2)
theorem FacsIn.without {b : Bool} {T : Led} {kvs : List (Int × Value)} {fs : List (Int × Int)} {k : Int} (h : FacsIn b T kvs fs) : FacsIn b T (without kvs k) (drp fs k) := by
  induction h with
  | nil => exact .nil
  | @cons k' a' f' kvs fs h1 h2 ih =>
    by_cases e : k' = k
    · have e1 : PySem.without ((k',Value.ref a') :: kvs) k = PySem.without kvs k := by simp [PySem.without,e]
      have e2 : drp ((k',f') :: fs) k = drp fs k := by simp [drp,e]
      rw [e1,e2];exact ih
    · have e1 : PySem.without ((k',Value.ref a') :: kvs) k = (k',Value.ref a') :: PySem.without kvs k := by simp [PySem.without,e]
      have e2 : drp ((k',f') :: fs) k = (k',f') :: drp fs k := by simp [drp,e]
      rw [e1,e2];exact .cons h1 ih
noncomputable def fsum (g : Int → Int) (fs : List (Int × Int)) : Int := (fs.map fun x => x.2 * g x.1).sum
theorem look_none {fs : List (Int × Int)} {k : Int} (h : k ∉ fs.map (·.1)) : look fs k = none := by
  induction fs with
  | nil => rfl
  | cons x r ih =>
    simp only [List.map_cons,List.mem_cons,not_or] at h
    rw [look_c,if_neg fun e => h.1 e.symm]
    exact ih h.2
theorem look_mem {fs : List (Int × Int)} {k f : Int} (h : look fs k = some f) : (k,f) ∈ fs := by
  induction fs with
  | nil => cases h
  | cons x r ih =>
    rw [look_c] at h
    by_cases e : x.1 = k
    · rw [if_pos e] at h
      obtain ⟨x1,x2⟩ := x
      injection h with h
      subst h;subst e
      exact .head _
    · rw [if_neg e] at h
      exact .tail _ (ih h)
theorem look_some {fs : List (Int × Int)} {k : Int} (h : k ∈ fs.map (·.1)) : ∃ f,look fs k = some f := by
  induction fs with
  | nil => cases h
  | cons x r ih =>
    by_cases e : x.1 = k
    · exact ⟨x.2,by rw [look_c,if_pos e]⟩
    · rw [List.map_cons,List.mem_cons] at h
      rw [look_c,if_neg e]
      exact ih (h.resolve_left fun q => e q.symm)
theorem drp_none {fs : List (Int × Int)} {k : Int} (h : k ∉ fs.map (·.1)) : drp fs k = fs := by
  refine List.filter_eq_self.mpr fun x hx => ?_
  simp only [ne_eq,decide_not,Bool.not_eq_true',decide_eq_false_iff_not]
  rintro rfl
  exact h (List.mem_map.mpr ⟨x,hx,rfl⟩)
theorem fsum_put {g : Int → Int} {fs : List (Int × Int)} {k v : Int} : fsum g (put fs k v) = fsum g fs + (v - (look fs k).getD 0) * g k := by
  induction fs with
  | nil => simp [fsum,put_n,put_c,look_n,look_c]
  | cons x r ih =>
    by_cases e : x.1 = k
    · simp only [fsum,put_n,put_c,look_n,look_c,e,if_true,List.map_cons,List.sum_cons,Option.getD_some,Int.sub_mul] at ih ⊢
      omega
    · simp only [fsum,put_n,put_c,look_n,look_c,e,if_false,List.map_cons,List.sum_cons,Int.sub_mul] at ih ⊢
      omega
theorem fsum_drp {g : Int → Int} {fs : List (Int × Int)} {k : Int} (hn : (fs.map (·.1)).Nodup) : fsum g (drp fs k) = fsum g fs - (look fs k).getD 0 * g k := by
  induction fs with
  | nil => simp [fsum,drp,look_n,look_c]
  | cons x r ih =>
    rw [List.map_cons,List.nodup_cons] at hn
    by_cases e : x.1 = k
    · subst e
      have e2 : drp (x :: r) x.1 = drp r x.1 := by simp [drp]
      rw [e2,drp_none hn.1]
      simp only [fsum,look_n,look_c,if_true,List.map_cons,List.sum_cons,Option.getD_some]
      omega
    · have e2 : drp (x :: r) k = x :: drp r k := by simp [drp,e]
      have := ih hn.2
      rw [e2]
      simp only [fsum,look_n,look_c,e,if_false,List.map_cons,List.sum_cons] at this ⊢
      omega
theorem put_keys {fs : List (Int × Int)} {k v k' : Int} : k' ∈ (put fs k v).map (·.1) ↔ k' = k ∨ k' ∈ fs.map (·.1) := by
  induction fs with
  | nil => simp [put_n,put_c]
  | cons x r ih =>
    by_cases e : x.1 = k
    · simp only [put_n,put_c,e,if_true,List.map_cons,List.mem_cons]
      constructor
      · rintro (h | h)
        · exact .inl h
        · exact .inr (.inr h)
      · rintro (h | h | h)
        · exact .inl h
        · exact .inl h
        · exact .inr h
    · simp only [put_n,put_c,e,if_false,List.map_cons,List.mem_cons,ih]
      constructor
      · rintro (h | h | h)
        · exact .inr (.inl h)
        · exact .inl h
        · exact .inr (.inr h)
      · rintro (h | h | h)
        · exact .inr (.inl h)
        · exact .inl h
        · exact .inr (.inr h)
theorem drp_keys {fs : List (Int × Int)} {k k' : Int} : k' ∈ (drp fs k).map (·.1) ↔ k' ≠ k ∧ k' ∈ fs.map (·.1) := by
  simp only [drp,List.mem_map,List.mem_filter,decide_eq_true_eq]
  constructor
  · intro zq1
    refine x1_2 zq1 ?_;(try clear zq1)
    intro x zq2
    refine x0_2 zq2 ?_;(try clear zq2)
    intro h1 h2
    rintro rfl
    exact ⟨h2,x,h1,rfl⟩
  · intro zq3
    refine x0_2 zq3 ?_;(try clear zq3)
    intro h1 zq4
    refine x1_2 zq4 ?_;(try clear zq4)
    intro x h2
    rintro rfl
    exact ⟨x,⟨h2,h1⟩,rfl⟩
theorem put_len {fs : List (Int × Int)} {k v : Int} : (put fs k v).length ≤ fs.length + 1 := by
  induction fs with
  | nil => simp [put_n,put_c]
  | cons x r ih =>
    by_cases e : x.1 = k
    · simp [put_n,put_c,e]
    · simp only [put_n,put_c,e,if_false,List.length_cons];omega
theorem put_mem {fs : List (Int × Int)} {k v : Int} {x : Int × Int} (h : x ∈ put fs k v) : x = (k,v) ∨ x ∈ fs := by
  induction fs with
  | nil => exact .inl (List.mem_singleton.mp h)
  | cons y r ih =>
    by_cases e : y.1 = k
    · simp only [put_n,put_c,e,if_true] at h
      rcases List.mem_cons.mp h with h | h
      · exact .inl h
      · exact .inr (.tail _ h)
    · simp only [put_n,put_c,e,if_false] at h
      rcases List.mem_cons.mp h with h | h
      · exact .inr (h ▸ .head _)
      · rcases ih h with h | h
        · exact .inl h
        · exact .inr (.tail _ h)
theorem drp_mem {fs : List (Int × Int)} {k : Int} {x : Int × Int} (h : x ∈ drp fs k) : x ∈ fs ∧ x.1 ≠ k := by
  have := List.mem_filter.mp h
  exact ⟨this.1,of_decide_eq_true this.2⟩
theorem drp_len {fs : List (Int × Int)} {k : Int} : (drp fs k).length ≤ fs.length := List.length_filter_le ..
theorem ints_of {vs : List Value} {ns : List Int} (hl : vs.length = ns.length) (h : ∀ (j : Nat) (v : Value),vs[j]? = some v → ∃ k t,v = .int k t ∧ ns[j]? = some k) : IntsAre vs ns := by
  induction vs generalizing ns with
  | nil =>
    cases ns with
    | nil => exact .nil
    | cons _ _ => cases hl
  | cons v r ih =>
    cases ns with
    | nil => cases hl
    | cons n ns =>
      refine x2_2 (h 0 v rfl) ?_
      intro k t
      rintro rfl
      intro e
      simp only [List.getElem?_cons_zero,Option.some.injEq] at e
      subst e
      exact .cons _ _ (ih (by simpa using hl) fun j v hj => by simpa using h (j + 1) v (by simpa using hj))
noncomputable def FB (w : World) (b : Bool) (T : Led) (o : Obj) (fs : List (Int × Int)) : Prop := ∃ kvs,o.IsDictOf (intKind PG w) kvs ∧ FacsIn b T kvs fs
abbrev FD (w : World) (T : Led) (o : Obj) (fs : List (Int × Int)) : Prop := FB w true T o fs
abbrev FS (w : World) (T : Led) (o : Obj) (fs : List (Int × Int)) : Prop := FB w false T o fs
theorem FB.tmono {w : World} {b : Bool} {T T' : Led} {o : Obj} {fs : List (Int × Int)} (h : FB w b T o fs) (hs : TSub T T') : FB w b T' o fs := let ⟨kvs,h1,h2⟩ := h;⟨kvs,h1,h2.tmono hs⟩
theorem FB.nodup {w : World} {b : Bool} {T : Led} {o : Obj} {fs : List (Int × Int)} (h : FB w b T o fs) : (fs.map (·.1)).Nodup := by
  refine x1_2 h ?_;(try clear h)
  intro kvs zq5
  refine x2_5 zq5 ?_;(try clear zq5)
  intro _ _ _ _ _ _ h1
  intro h2
  rw [← h2.keys];exact h1
theorem FB.nt {w : World} {b : Bool} {T : Led} {o : Obj} {fs : List (Int × Int)} (h : FB w b T o fs) : ∀ vs,o ≠ tup vs := fun vs e => by
  subst e
  refine x1_2 h ?_;(try clear h)
  intro _ zq6
  refine x2_2 zq6 ?_;(try clear zq6)
  intro _ _ hc _
  intro _
  have e2 : Value.type "tuple" = Value.type "dict" := hc.1
  injection e2 with e3
  exact absurd e3 (by decide)
section
variable {w : World} {b : Bool} {A : Around} {E : Value → Shared → Prop} {s : Shared} {h₀ : Heap} {L d : Addr} {m : Mp} {led T : Led} {o : Obj} {fs : List (Int × Int)} {k f : Int} {t : Tok} {a : Addr} {g : Obj → Led}
theorem fd_mget {pl : Sem Bool} {Q : Value × List Value → Shared → Prop} (N : News h₀ L s.heap led) (hp : (d,o) ∈ led) (hd : FB w b T o fs) (h : Q (.builtin "dict.get",[.ref d]) s) : wpAny (model PG w) A (getMethod (.ref d) (Str.ofString "get") pl) Q E s := by
  refine x1_2 hd ?_;(try clear hd)
  intro kvs hd _
  have hD := kda_dict N hp hd
  exact getMethod_builtin hD.typeIs PySem.F.plainAttrs_dict PySem.F.slot_dict_get PySem.F.type_dict_get hD.mapOf.noDict h
theorem fd_mpop {pl : Sem Bool} {Q : Value × List Value → Shared → Prop} (N : News h₀ L s.heap led) (hp : (d,o) ∈ led) (hd : FB w b T o fs) (h : Q (.builtin "dict.pop",[.ref d]) s) : wpAny (model PG w) A (getMethod (.ref d) (Str.ofString "pop") pl) Q E s := by
  refine x1_2 hd ?_;(try clear hd)
  intro kvs hd _
  have hD := kda_dict N hp hd
  exact getMethod_builtin hD.typeIs PySem.F.plainAttrs_dict PySem.F.slot_dict_pop PySem.F.type_dict_pop hD.mapOf.noDict h
theorem fd_get {z : Addr} {Q : Value → Shared → Prop} (N : News h₀ L s.heap led) (hp : (d,o) ∈ led) (hd : FB w b T o fs) (lo : (d == sysModules) = false) (hz : PIn T z 0)
    (h : ∀ a tk,PIn T a ((look fs k).getD 0) → Q (.ref a) { s with toks := tk }) : wpAny (model PG w) A (call (.builtin "dict.get") [.ref d,.int k t,.ref z]) Q E s := by
  refine x1_2 hd ?_;(try clear hd)
  intro kvs hd hf
  rcases hf.at k with ⟨e1,e2⟩ | ⟨a,f,e1,e2,e3⟩
  · exact kdg_get2 N hp hd lo (intKind_is _ _ _ _) none e2 (h z _ (by rw [e1];exact hz))
  · exact kdg_get2 N hp hd lo (intKind_is _ _ _ _) (some (.ref a)) e2 (h a _ (by rw [e1];exact e3.pin))
theorem fd_len {Q : Value → Shared → Prop} (N : News h₀ L s.heap led) (hp : (d,o) ∈ led) (hd : FB w b T o fs) (lo : (d == sysModules) = false) (hz : fs.length ≤ 1000) (h : ∀ t tk,Q (.int (fs.length : Int) t) { s with toks := tk }) :
    wpAny (model PG w) A (call (.builtin "len") [.ref d]) Q E s := by
  refine x1_2 hd ?_;(try clear hd)
  intro kvs hd hf
  have := hf.length
  exact kda_len N hp hd lo (by omega) (by rw [this];exact h _ _)
theorem fd_set {Q : Unit → Shared → Prop} (F : Fr h₀ L s.heap m) (N : News h₀ L s.heap led) (U : UpdF d o led g) (hd : FB w b T o fs) (hz : fs.length ≤ 1000) (hp : PB b T a f)
    (h : ∀ h' o' tk,Fr h₀ L h' m → News h₀ L h' (g o') → FB w b T o' (put fs k f) → Q () { s with heap := h',toks := tk }) : wpAny (model PG w) A (setItem (.ref d) (.int k t) (.ref a)) Q E s := by
  refine x1_2 hd ?_;(try clear hd)
  intro kvs hd hf
  have := hf.length
  refine x2_5 (id hd) ?_
  intro _ _ _ _ _ _ hn
  exact kda_set F N U hd (intKind_is _ _ _ _) (by rw [sizeLine_eq];omega) fun h' o' F' N' hd' => h h' o' _ F' N' ⟨_,hd',hf.stored hn hp⟩
theorem fd_item {value slice : PySem.Expr} {Q : Value → Shared → Prop} (N : News h₀ L s.heap led) (hp : (d,o) ∈ led) (hd : FB w b T o fs) (hl : look fs k = some f) (h : ∀ a tk,PB b T a f → Q (.ref a) { s with toks := tk })
    (hs : subscripted slice false (.ref d) (.int k t) = operate [.ref d,.int k t] (getItem (.ref d) (.int k t))) :
    wpAny (model PG w) A (subscriptTail value slice (.ref d) (.int k t)) Q E s := by
  refine x1_2 hd ?_;(try clear hd)
  intro kvs hd hf
  rcases hf.at k with ⟨e1,e2⟩ | ⟨a,f',e1,e2,e3⟩
  · rw [hl] at e1;cases e1
  · rw [hl] at e1
    injection e1 with e1
    subst e1
    have hD := kda_dict N hp hd
    exact tail_any hD.typeIs slot_dict_getitem.lookup (wpAny_getItem_of (intKind_is _ _ _ _) hD.mapOf e2 (h a _ e3)) hs
theorem fd_in {Q : Value → Shared → Prop} (N : News h₀ L s.heap led) (hp : (d,o) ∈ led) (hd : FB w b T o fs) (lo : (d == sysModules) = false) (h : ∀ tk,Q (.bool (look fs k).isSome) { s with toks := tk }) :
    wpAny (model PG w) A (compareOp .In (.int k t) (.ref d)) Q E s := by
  refine x1_2 hd ?_;(try clear hd)
  intro kvs hd hf
  refine kda_in N hp hd lo (intKind_is _ _ _ _) (look fs k).isSome ?_ (h _)
  rcases hf.at k with ⟨e1,e2⟩ | ⟨a,f',e1,e2,e3⟩ <;> rw [e1,e2] <;> rfl
theorem fd_pop {Q : Value → Shared → Prop} (F : Fr h₀ L s.heap m) (N : News h₀ L s.heap led) (U : UpdF d o led g) (hd : FB w b T o fs) (hz : fs.length ≤ 1000) (hl : look fs k = some f)
    (h : ∀ a h' o' tk,PIn T a f → Fr h₀ L h' m → News h₀ L h' (g o') → FB w b T o' (drp fs k) → Q (.ref a) { s with heap := h',toks := tk }) : wpAny (model PG w) A (call (.builtin "dict.pop") [.ref d,.int k t]) Q E s := by
  refine x1_2 hd ?_;(try clear hd)
  intro kvs hd hf
  have := hf.length
  refine x2_4 U.split ?_;(try clear U.split)
  intro pre post
  rintro rfl
  intro hg n1 n2
  have hm := N (d,o) (List.mem_append_right _ (.head _))
  have hD : s.heap.DictOf (intKind PG w) d kvs := Heap.dictOf_iff.mpr ⟨o,hm.1,hd⟩
  rcases hf.at k with ⟨e1,e2⟩ | ⟨a,f',e1,e2,e3⟩
  · rw [hl] at e1;cases e1
  · rw [hl] at e1
    injection e1 with e1
    subst e1
    refine call_meetsIn PySem.F.slot_dict_pop hD.typeIs PySem.F.entry_dict_pop (PySem.F.args_dict_pop_2 _ _) (meets_dict_pop_there (intKind PG w) d (intKind_is _ _ k t) [] (.inl rfl) (by rfl)) ⟨kvs,.ref a,hD,by rw [sizeLine_eq];omega,e2,fun h' hmm hs => ?_⟩
    refine x1_2 (Heap.dictOf_iff.mp hmm) ?_
    intro o' ho' hd'
    exact h a h' o' _ e3.pin (F.change hs hm.2.1 hm.2.2) (by rw [hg];exact news_set N n1 n2 hs ho') ⟨_,hd',hf.without⟩
theorem fd_del {Q : Unit → Shared → Prop} (F : Fr h₀ L s.heap m) (N : News h₀ L s.heap led) (U : UpdF d o led g) (hd : FB w b T o fs) (hz : fs.length ≤ 1000) (hl : (look fs k).isSome = true)
    (h : ∀ h' o' tk,Fr h₀ L h' m → News h₀ L h' (g o') → FB w b T o' (drp fs k) → Q () { s with heap := h',toks := tk }) : wpAny (model PG w) A (delItem (.ref d) (.int k t)) Q E s := by
  refine x1_2 hd ?_;(try clear hd)
  intro kvs hd hf
  have := hf.length
  refine x2_4 U.split ?_;(try clear U.split)
  intro pre post
  rintro rfl
  intro hg n1 n2
  have hm := N (d,o) (List.mem_append_right _ (.head _))
  have hD : s.heap.DictOf (intKind PG w) d kvs := Heap.dictOf_iff.mpr ⟨o,hm.1,hd⟩
  unfold delItem
  try with_reducible refine wpAny_holding ?_
  refine wpAny_bind (wpAny_sequenceKey hD.typeIs (by decide) ?_)
  refine wpAny_bind (wpAny_callSpecial?_slot (name := Str.ofString "__delitem__") hD.typeIs PySem.F.slot_dict_delitem
    (call_meetsIn PySem.F.slot_dict_delitem hD.typeIs PySem.F.entry_dict_delitem (PySem.F.args_dict_delitem_2 _ _) (meets_dict_delitem_pairs (intKind PG w) d (intKind_is _ _ k t)) ⟨kvs,hD,by rw [sizeLine_eq];omega,?_,fun h' hmm hs => ?_⟩))
  · rcases hf.at k with ⟨e1,e2⟩ | ⟨a,f',e1,e2,e3⟩
    · rw [e1] at hl;cases hl
    · rw [e2];rfl
  · refine x1_2 (Heap.dictOf_iff.mp hmm) ?_
    intro o' ho' hd'
    exact wpAny_pure (h h' o' _ (F.change hs hm.2.1 hm.2.2) (by rw [hg];exact news_set N n1 n2 hs ho') ⟨_,hd',hf.without⟩)
theorem fd_max {Q : Value → Shared → Prop} (hh : A.handled = none) (F : Fr h₀ L s.heap m) (N : News h₀ L s.heap led) (hp : (d,o) ∈ led) (hd : FB w b T o fs) (lo : (d == sysModules) = false) (hne : fs ≠ [])
    (h : ∀ M t h' tk,Fr h₀ L h' m → News h₀ L h' led → M ∈ fs.map (·.1) → (∀ k ∈ fs.map (·.1),k ≤ M) → Q (.int M t) { s with heap := h',toks := tk }) : wpAny (model PG w) A (call (.builtin "max") [.ref d]) Q E s := by
  refine x1_2 hd ?_;(try clear hd)
  intro kvs hd hf
  refine x1_1 ((kda_dict N hp hd).dictAt) ?_
  intro ep hat
  have hlt : d < s.heap.objs.size := hat.lt_size
  have hlen := hf.length
  have hpos : 0 < kvs.length := by rw [hlen];exact List.length_pos_iff.mpr hne
  let val : Nat → Int := fun i => (kvs[i]?.map (·.1)).getD 0
  refine call_max_walk (wpAny_pyIter_dict lo hat ⟨_,_,_,_,_,_,_,rfl,Walks.dictKeys (knd := intKind PG w) (A := A.in1) hh s.heap.objs.size d (Nat.ne_of_lt hlt) kvs ep,⟨⟨_,Heap.get?_push_size _ rfl,rfl,rfl⟩,hat.push _⟩,fun b hb => ?_,hpos,CmpOf.ints_gt val (fun i v hv => ?_),fun v h' tk hv hk => ?_⟩)
  · show b < (s.heap.push _).objs.size
    rw [Heap.size_push]
    rcases List.mem_cons.mp hb with rfl | hb
    · exact Nat.lt_succ_self _
    · rw [List.mem_singleton.mp hb];exact Nat.lt_succ_of_lt hlt
  · refine x2_2 hv ?_;(try clear hv)
    intro k x e hk
    refine x1_1 (Value.isInt_shape hk) ?_
    intro t
    rintro rfl
    exact ⟨t,by simp [val,e]⟩
  · refine x2_2 hv ?_;(try clear hv)
    intro k x e hk'
    refine x1_1 (Value.isInt_shape hk') ?_
    intro t
    rintro rfl
    refine x0_2 (argBest_gt val (kvs.length - 1)) ?_
    intro h1 h2
    have up : ∀ b o,s.heap.get? b = some o → h'.get? b = some o := fun b o e => hk b o (by rw [List.mem_singleton];exact Nat.ne_of_lt (Heap.lt_size e)) (Heap.get?_push_of_some _ e)
    have ek : val (argBest (fun i j => decide (val i > val j)) (kvs.length - 1)) = k := by simp only [val] at e ⊢;rw [e];rfl
    refine h k t h' tk (F.keeps up) (N.grown up) ?_ fun k' hk'' => ?_
    · rw [← hf.keys];exact List.mem_map.mpr ⟨_,List.mem_of_getElem? e,rfl⟩
    · rw [← hf.keys] at hk''
      refine x1_2 (List.mem_map.mp hk'') ?_
      intro y hy
      rintro rfl
      refine x1_1 (List.mem_iff_getElem?.mp hy) ?_
      intro j hj
      have hjl := (List.getElem?_eq_some_iff.mp hj).1
      have := h2 j (by omega)
      rw [ek] at this
      simpa [val,hj] using this
theorem fd_sorted {Q : Value → Shared → Prop} (hh : A.handled = none) (F : Fr h₀ L s.heap m) (N : News h₀ L s.heap led) (hp : (d,o) ∈ led) (hd : FB w b T o fs) (lo : (d == sysModules) = false) (hz : fs.length ≤ 60)
    (h : ∀ D vs ns n h' tk,Fr h₀ L h' m → News h₀ L h' ((D,listOf vs.toArray n) :: led) → AllLt D led → IntsAre vs ns → ns.Perm (fs.map (·.1)) → ns.Pairwise (· ≤ ·) → Q (.ref D) { s with heap := h',toks := tk }) : wpAny (model PG w) A (call (.builtin "sorted") [.ref d]) Q E s := by
  refine x1_2 hd ?_;(try clear hd)
  intro kvs hd hf
  refine x1_1 ((kda_dict N hp hd).dictAt) ?_
  intro ep hat
  have hlen := hf.length
  refine kdu_sorted (kdl_dict (knd := intKind PG w) (kvs := kvs) (ep := ep) lo) hh F N hat (by rw [sizeLine_eq];omega) fun D h' tk vs F' N' l1 hl hv => ?_
  have hi : IntsAre vs (kvs.map (·.1)) := ints_of (by rw [hl,List.length_map]) fun j v hj => by
    refine x2_2 (hv j v hj) ?_
    intro k x e hk
    refine x1_1 (Value.isInt_shape hk) ?_
    intro t
    rintro rfl
    exact ⟨k,t,rfl,by rw [List.getElem?_map,e];rfl⟩
  have z := N' (D,listOf vs.toArray 0) (.head _)
  refine wpAny_call_entry PyProof.Rows.slot_list_sort ⟨_,z.1,rfl⟩ PyProof.Rows.entry_list_sort (list_sort_tree (n := 0) z.1 hi (by omega) fun out ns' h1 h2 h3 => ⟨.none,rfl,?_⟩) (PyProof.Rows.args_list_sort _)
  have e1 := PyProof.Rows.get?_update_seq z.1 (fun _ => (#[] : Array Value))
  have e2 : ∀ b x,b ≠ D → h'.get? b = some x → (PyProof.Rows.sortedHeap h' D vs out).get? b = some x := fun b x n e => by
    unfold PyProof.Rows.sortedHeap
    rw [Heap.get?_update_other _ _ (Ne.symm n)]
    refine Heap.get?_push_of_some _ (Heap.get?_push_of_some _ ?_)
    rw [Heap.get?_update_other _ _ (Ne.symm n)];exact e
  have e3 := PyProof.Rows.get?_update_seq (Heap.get?_push_of_some (PyProof.Rows.seqObj "list" #[] 0) (Heap.get?_push_of_some (PyProof.Rows.seqObj "tuple" vs.toArray 0) e1)) (fun _ => out)
  have e4 := F'.ns.lt
  obtain ⟨nn,e5⟩ : ∃ nn,(PyProof.Rows.sortedHeap h' D vs out).get? D = some (listOf out.toList.toArray nn) := by
    rw [Array.toArray_toList]
    exact ⟨_,e3⟩
  refine h D out.toList ns' nn _ _ ⟨F'.ns.at' fun o e => e2 _ _ (Ne.symm z.2.1) e,fun b x e => e2 b x (fun q => by rw [q,z.2.2] at e;cases e) (F'.keep b x e),F'.above⟩ (fun p (hp : p ∈ (D,listOf out.toList.toArray nn) :: led) => ?_) (allLt_of fun q hq => l1 q hq) h1 (by rw [← hf.keys];exact h2) h3
  rcases List.mem_cons.mp hp with rfl | hp
  · exact ⟨e5,z.2⟩
  · have := l1 p hp
    exact ⟨e2 _ _ (Nat.ne_of_lt this) (N' p (.tail _ hp)).1,(N' p (.tail _ hp)).2⟩
end
end
section
noncomputable def lfNames : List Str := [Str.ofString "add_part",Str.ofString "add_constant",Str.ofString "add_form",Str.ofString "sorted_parts"]
structure LFE (es : List DictEntry) (pd ca : Addr) : Prop where
  gp : getL (Str.ofString "parts") es = some (some (.ref pd))
  gc : getL (Str.ofString "constant") es = some (some (.ref ca))
  nm : ∀ n ∈ lfNames,getL n es = some none
  nr : noRef es
  hz : es.length ≤ 2
theorem lf_ne : ∀ n ∈ lfNames,n ≠ Str.ofString "constant" := by decide +kernel
theorem putL_len_old {es : List DictEntry} {n : Str} {hs : Int} {t : Tok} {v : Value} {x : DictEntry} (h : es.find? (·.key.isStr n) = some x) : (putL n hs (.str n t) v es).length = es.length := by
  induction es with
  | nil => cases h
  | cons e r ih =>
    unfold putL
    by_cases c : e.key.isStr n = true
    · rw [if_pos c];rfl
    · rw [if_neg c]
      rw [List.find?_cons_of_neg (by simpa using c)] at h
      rw [List.length_cons,List.length_cons,ih h]
theorem LFE.put {es : List DictEntry} {pd ca d : Addr} {hs : Int} {t : Tok} (M : LFE es pd ca) : LFE (putL (Str.ofString "constant") hs (.str (Str.ofString "constant") t) (.ref d) es) pd d := by
  refine ⟨getL_put_ne M.nr (by decide +kernel) M.gp,by rw [getL_put M.nr,if_pos rfl],fun n hn => getL_put_ne M.nr (lf_ne n hn) (M.nm n hn),noRef_put M.nr,?_⟩
  have h := M.gc
  rw [getL_of M.nr] at h
  cases e : es.find? (·.key.isStr (Str.ofString "constant")) with
  | none => rw [e] at h;cases h
  | some x => rw [putL_len_old e];exact M.hz
theorem first2 {a d p : Addr × Obj} {T : Led} (h : p ∈ a :: d :: T) : p ∈ d :: a :: T := by
  exact subA (by k_extra "H:sub_auto") h
noncomputable def addTo (fs : List (Int × Int)) (k f : Int) : List (Int × Int) := if (look fs k).getD 0 + f ≠ 0 then put fs k ((look fs k).getD 0 + f) else drp fs k
theorem first3 {a b d p : Addr × Obj} {T : Led} (h : p ∈ a :: b :: d :: T) : p ∈ d :: a :: b :: T := by
  exact subA (by k_extra "H:sub_auto") h
theorem off_new {d fd pd : Addr} {o o1 o2 : Obj} {T : Led} (nd : AllNe d ((fd,o1) :: (pd,o2) :: T)) (off : ∀ q ∈ T,AllNe q.1 [(fd,tup []),(pd,tup [])]) : ∀ q ∈ (d,o) :: T,AllNe q.1 [(fd,tup []),(pd,tup [])] :=
  List.forall_mem_cons.mpr ⟨⟨nd.1,nd.2.1,trivial⟩,off⟩
theorem drp_look {fs : List (Int × Int)} {k : Int} (h : look fs k = none) : drp fs k = fs := drp_none fun hm => by
  refine x1_1 (look_some hm) ?_
  intro f e
  rw [h] at e;cases e
section
theorem g17.on17 : True := trivial
open g17
theorem set_45 : True := by
  k_with "!subscriptTail" => ((fail_if_success(fail_if_success have:=on17));(k_here;(with_reducible show wpAny _ _ (subscriptTail _ _ (Value.ref _) (Value.int _ _)) _ _ _);k_dflt (refine' item_tupleT ?q9kt ?q9ka ?q9kb ?q9kc ?q9kd ?_;(case q9kt => exact tup_keep (by assumption) (by assumption));(case q9ka => decide);(case q9kb => decide);(case q9kc => rfl);(case q9kd => rfl);k_whole)))
  k_with "!getAttr ref" => ((fail_if_success(fail_if_success have:=on17));(k_here;k_dflt (refine' get_own ?q9k1 ?q9k2 ?q9k3 ?q9k4 ?q9k5 ?q9k6 ?q9k7 ?q9k8 ?q9k9 ?_;(case q9k1 => k_asm);(case q9k2 => k_asm);(case q9k3 => k_inst);(case q9k4 => k_is);(case q9k5 => k_is);(case q9k6 => k_is);(case q9k7 => k_is);(case q9k8 => with_reducible first | exact LFE.gp (by assumption) | exact LFE.gc (by assumption));(case q9k9 => k_handed);k_whole)))
  k_with "!call ref" => ((fail_if_success(fail_if_success have:=on17));(k_here;(with_reducible show wpAny _ _ (call (Value.ref 119) _) _ _ _);refine stop_at ?_))
  k_with "!call ref" => ((fail_if_success(fail_if_success have:=on17));(k_here;(with_reducible show wpAny _ _ (call (Value.ref 140) _) _ _ _);refine stop_at ?_))
  k_with "!getMethod ref" => ((fail_if_success(fail_if_success have:=on17));(k_here;(with_reducible show wpAny _ _ (getMethod (Value.ref _) (Str.ofString "get") _) _ _ _);k_dflt (refine' fd_mget ?q9k1 ?q9k2 ?q9k3 ?_;(case q9k1 => k_asm);(case q9k3 => with_reducible assumption);(case q9k2 => k_mem))))
  k_with "!call builtin:dict.get" => ((fail_if_success(fail_if_success have:=on17));(k_here;refine stop_at ?_))
  k_with "!setItem ref int" => ((fail_if_success(fail_if_success have:=on17));(k_here;refine stop_at ?_))
  k_with "!delItem ref int" => ((fail_if_success(fail_if_success have:=on17));(k_here;refine stop_at ?_))
  k_with "!compareOp In int ref" => ((fail_if_success(fail_if_success have:=on17));(k_here;refine stop_at ?_))
  exact trivial
theorem addpart_spec (w : World) {f fd pd a ca : Addr} {es : List DictEntry} {ne : Nat} {po : Obj} {T : Led} {fs : List (Int × Int)} {k v : Int} {t : Tok} (M : LFE es pd ca) (hf : (f,instObj 740 fd) ∈ T) (hD : FS w T po fs) (hp : PIn T a v) (lo : (pd == sysModules) = false)
    (off : ∀ q ∈ T,AllNe q.1 [(fd,tup []),(pd,tup [])]) (hdp : fd ≠ pd) (hz : fs.length ≤ 900) :
    Spec w 711 [.ref f,.int k t,.ref a] 3 60 ((fd,dictOf es ne) :: (pd,po) :: T) fun r led' => ∃ po' T',r = .none ∧ led' = (fd,dictOf es ne) :: (pd,po') :: T' ∧ (∀ p ∈ T,p ∈ T') ∧ FS w T' po' (addTo fs k v) ∧ ∀ q ∈ T',AllNe q.1 [(fd,tup []),(pd,tup [])] := by
  apply bx;simp(disch:=k_dflt(
  unfold Spec
  intro dp un gd cn cs a₁ ccd ce outer A₀ base h₀ L m mean mg mb s Q E B F X N Tp hk hd hu hret
  k_dflt (apply call_at (binds := [(Str.ofString "self",Value.ref f),(Str.ofString "term",Value.int k t),(Str.ofString "factor",Value.ref a)]));k_extra "H:o_rest"
  k_steps
  refine stop_go ?_
  (try k_extra "H:folds")
  rename News _ _ _ _ => N9
  k_dflt (refine fd_get N9 (by k_mem) hD lo pin_zero fun z tk9 hz9 => ?_)
  k_steps
  refine stop_go ?_
  (try k_extra "H:folds")
  rename Fr _ _ _ _ => F9
  rename News _ _ _ _ => N9
  k_dflt (refine addp_use ⟨by k_asm,by k_asm,by k_asm,by k_asm,by k_asm,by first | exact rfl | assumption,by ktr_room,by ktr_units⟩ ⟨hz9.pairH F9 N9 (by assumption) (fun p hp => .tail _ (.tail _ hp)),hp.pairH F9 N9 (by assumption) (fun p hp => .tail _ (.tail _ hp))⟩ ?_)
  intro d t1 t2 h5 tk5 F5 N5 nd
  k_steps
  · refine stop_go ?_
    (try k_extra "H:folds")
    k_dflt (refine' fd_set (T := (d,tup [.int ((look fs k).getD 0 + v) t1,.int 1 t2]) :: T) ?qF ?qN ?qU (hD.tmono fun _ _ h => .tail _ h) ?qz (.inl ⟨t1,t2,.head _⟩) ?_;(case qF => k_asm);(case qN => k_asm);(case qU => k_updF);(case qz => omega);intro h9 o9 tk10 F9 N9 hD9;(try dsimp only at N9))
    k_steps
    have o9' : FS w ((d,tup [.int ((look fs k).getD 0 + v) t1,.int 1 t2]) :: T) o9 (addTo fs k v) := by rw [addTo,if_pos (by assumption)];exact hD9
    exact hret _ ((fd,dictOf es ne) :: (pd,o9) :: (d,tup [.int ((look fs k).getD 0 + v) t1,.int 1 t2]) :: T) _ _ (by assumption) ((after_of (by assumption) (by assumption) (by assumption) (by assumption)).sub fun p hp => first3 hp) ⟨o9,_,rfl,rfl,fun p hp => .tail _ hp,o9',off_new nd off⟩
  · refine stop_go ?_
    (try k_extra "H:folds")
    rename News _ _ _ _ => N9
    k_dflt (refine fd_in N9 (by k_mem) (hD.tmono fun _ _ h => h) lo fun tk9 => ?_)
    k_steps
    · refine stop_go ?_
      (try k_extra "H:folds")
      k_dflt (refine' fd_del (T := T) ?qF ?qN ?qU hD ?qz (by assumption) ?_;(case qF => k_asm);(case qN => k_asm);(case qU => k_updF);(case qz => omega);intro h9 o9 tk10 F9 N9 hD9;(try dsimp only at N9))
      k_steps
      have o9' : FS w ((d,tup [.int ((look fs k).getD 0 + v) t1,.int 1 t2]) :: T) o9 (addTo fs k v) := by rw [addTo,if_neg (by omega)];exact hD9.tmono fun _ _ h => .tail _ h
      exact hret _ ((fd,dictOf es ne) :: (pd,o9) :: (d,tup [.int ((look fs k).getD 0 + v) t1,.int 1 t2]) :: T) _ _ (by assumption) ((after_of (by assumption) (by assumption) (by assumption) (by assumption)).sub fun p hp => first3 hp) ⟨o9,_,rfl,rfl,fun p hp => .tail _ hp,o9',off_new nd off⟩
    · have o9' : FS w ((d,tup [.int ((look fs k).getD 0 + v) t1,.int 1 t2]) :: T) po (addTo fs k v) := by rw [addTo,if_neg (by omega),drp_look (by simp_all)];exact hD.tmono fun _ _ h => .tail _ h
      exact hret _ ((fd,dictOf es ne) :: (pd,po) :: (d,tup [.int ((look fs k).getD 0 + v) t1,.int 1 t2]) :: T) _ _ (by assumption) ((after_of (by assumption) (by assumption) (by assumption) (by assumption)).sub fun p hp => first3 hp) ⟨po,_,rfl,rfl,fun p hp => .tail _ hp,o9',off_new nd off⟩
  ))only[↓bx_eq]
theorem set_46 : True := by
  k_with "!setAttr ref" => ((fail_if_success(fail_if_success have:=on17));(k_here;k_dflt (refine' set_dict ?q9k1 ?q9k2 ?q9k3 ?q9k4 ?q9k5 ?q9k6 ?q9k7 ?q9k8 ?q9k9 ?q9k10 ?q9k11 ?q9k12 ?q9k13 ?_;(case q9k1 => k_asm);(case q9k2 => k_asm);(case q9k3 => k_asm);(case q9k4 => k_inst);(case q9k5 => exact rfl);(case q9k6 => k_is);(case q9k7 => k_is);(case q9k8 => k_is);(case q9k9 => k_is);(case q9k10 => (rw [getL_of (by assumption)];rfl));(case q9k11 => exact rfl);(case q9k12 => k_upd);(case q9k13 => exact Nat.le_trans putL_len (by omega));k_whole;intro _ _ _;(try k_sweep))))
  exact trivial
inductive AddconstR43 (fd : Addr) (pd : Addr) (T : Led) (c : Int) (v : Int) (r : Value) (led' : Led) : Prop
  | mk (es' : List DictEntry) (ne' : Nat) (ca' : Addr) (T' : Led) (cc1 : r = .none) (cc2 : led' = (fd,dictOf es' ne') :: T') (cc3 : (∀ p ∈ T,p ∈ T')) (cc4 : LFE es' pd ca') (cc5 : PIn T' ca' (c + v)) (cc6 : ∀ q ∈ T',AllNe q.1 [(fd,tup [])]) : AddconstR43 fd pd T c v r led'
theorem addconst_spec (w : World) {f fd pd a ca : Addr} {es : List DictEntry} {ne : Nat} {T : Led} {c v : Int} (M : LFE es pd ca) (hf : (f,instObj 740 fd) ∈ T) (hc : PIn T ca c) (hp : PIn T a v) (off : ∀ q ∈ T,AllNe q.1 [(fd,tup [])]) :
    Spec w 718 [.ref f,.ref a] 3 60 ((fd,dictOf es ne) :: T) (AddconstR43 fd pd T c v) := by
  apply bx;simp(disch:=k_dflt(
  unfold Spec
  intro dp un gd cn cs a₁ ccd ce outer A₀ base h₀ L m mean mg mb s Q E B F X N Tp hk hd hu hret
  have nr := M.nr
  have hz := M.hz
  k_dflt (apply call_at (binds := [(Str.ofString "self",Value.ref f),(Str.ofString "number",Value.ref a)]));k_extra "H:o_rest"
  k_steps
  refine stop_go ?_
  (try k_extra "H:folds")
  rename Fr _ _ _ _ => F9
  rename News _ _ _ _ => N9
  k_dflt (refine addp_use ⟨by k_asm,by k_asm,by k_asm,by k_asm,by k_asm,by first | exact rfl | assumption,by ktr_room,by ktr_units⟩ ⟨hc.pairH F9 N9 (by assumption) (fun p hp => .tail _ hp),hp.pairH F9 N9 (by assumption) (fun p hp => .tail _ hp)⟩ ?_)
  intro d t1 t2 h5 tk5 F5 N5 nd
  k_steps
  exact hret _ ((fd,_) :: (d,tup [.int (c + v) t1,.int 1 t2]) :: T) _ _ (by assumption) ((after_of (by assumption) (by assumption) (by assumption) (by assumption)).sub fun p hp => first2 hp) ⟨_,_,d,_,rfl,rfl,fun p hp => .tail _ hp,M.put,.inl ⟨t1,t2,.head _⟩,List.forall_mem_cons.mpr ⟨⟨nd.1,trivial⟩,off⟩⟩
  ))only[↓bx_eq]
end
end
section
theorem look_put {fs : List (Int × Int)} {k v x : Int} : look (put fs k v) x = if x = k then some v else look fs x := by
  induction fs with
  | nil =>
    by_cases e : x = k
    · simp [put_n,put_c,look_n,look_c,e]
    · simp [put_n,put_c,look_n,look_c,e,Ne.symm e]
  | cons y r ih =>
    by_cases e : y.1 = k
    · by_cases e2 : x = k
      · simp [put_n,put_c,look_n,look_c,e,e2]
      · have e3 : ¬ k = x := fun q => e2 q.symm
        simp [put_n,put_c,look_n,look_c,e,e2,e3]
    · by_cases e2 : y.1 = x
      · have e3 : ¬ x = k := fun q => e (e2.trans q)
        simp [put_n,put_c,look_n,look_c,e,e2,e3]
      · simp only [put_n,put_c,if_neg e,look_n,look_c,if_neg e2,ih]
theorem look_drp {fs : List (Int × Int)} {k x : Int} : look (drp fs k) x = if x = k then none else look fs x := by
  induction fs with
  | nil => simp [drp,look_n,look_c]
  | cons y r ih =>
    by_cases e : y.1 = k
    · have e2 : drp (y :: r) k = drp r k := by simp [drp,e]
      rw [e2,ih]
      by_cases e3 : x = k
      · simp [e3]
      · have e4 : ¬ y.1 = x := fun q => e3 (q.symm.trans e)
        simp [e3,look_n,look_c,e4]
    · have e2 : drp (y :: r) k = y :: drp r k := by simp [drp,e]
      rw [e2]
      by_cases e3 : y.1 = x
      · have e4 : ¬ x = k := fun q => e (e3.trans q)
        simp [look_n,look_c,e3,e4]
      · simp only [look_n,look_c,if_neg e3,ih]
theorem look_addTo {fs : List (Int × Int)} {k f x : Int} : (look (addTo fs k f) x).getD 0 = (look fs x).getD 0 + if x = k then f else 0 := by
  unfold addTo
  split
  · rw [look_put]
    by_cases e : x = k
    · subst e;simp
    · simp [e]
  · rename_i h
    rw [look_drp]
    by_cases e : x = k
    · subst e;simp at h ⊢;omega
    · simp [e]
theorem addTo_len {fs : List (Int × Int)} {k f : Int} : (addTo fs k f).length ≤ fs.length + 1 := by
  unfold addTo
  split
  · exact put_len
  · exact Nat.le_succ_of_le drp_len
theorem fsum_nil {g : Int → Int} : fsum g [] = 0 := rfl
noncomputable def GoodT (ts : List TRec) (cf : Int → Int → Int) (t f : Int) : Prop := ∃ i : Nat,t = (i : Int) ∧
  ((f = 1 ∧ ∃ v srt,ts[i]? = some (numR v srt) ∧ -1000 ≤ v ∧ v ≤ 1000 ∧ ∀ x,cf t x = if x = 0 then v else 0) ∨
   (∃ srt d,ts[i]? = some (varR srt d) ∧ 1 ≤ i ∧ ∀ x,cf t x = if x = t then 1 else 0) ∨
   (f = 1 ∧ ∃ (n k : Nat) (v srt srt' sk d : Int),ts[i]? = some (mulR n k srt) ∧ ts[n]? = some (numR v srt') ∧ ts[k]? = some (varR sk d) ∧ 1 ≤ k ∧ k < i ∧ n < i ∧ -1000 ≤ v ∧ v ≤ 1000 ∧ (∀ x,cf t x = if x = (k : Int) then v else 0) ∧ ∀ x,cf k x = if x = (k : Int) then 1 else 0))
noncomputable def PsOk (ts : List TRec) (ps : List (Int × Int)) : Prop := ∀ x ∈ ps,x.2 ≠ 0 ∧ ∃ (i : Nat) (srt d : Int),x.1 = (i : Int) ∧ ts[i]? = some (varR srt d)
theorem PsOk.addTo {ts : List TRec} {ps : List (Int × Int)} {i : Nat} {f srt d : Int} (h : PsOk ts ps) (e : ts[i]? = some (varR srt d)) : PsOk ts (addTo ps (i : Int) f) := fun x hx => by
  unfold Internal.addTo at hx
  split at hx
  · rename_i hn
    rcases put_mem hx with rfl | hx
    · exact ⟨hn,i,srt,d,rfl,e⟩
    · exact h x hx
  · exact h x (drp_mem hx).1
noncomputable def FInv (ts : List TRec) (cf : Int → Int → Int) (C : Int → Int) (P n : Nat) (fs ps : List (Int × Int)) (c : Int) : Prop :=
  (fs = [((P : Int),1)] ∧ ps = [] ∧ c = 0 ∧ n = P + 1) ∨
  ((∀ x ∈ fs,GoodT ts cf x.1 x.2 ∧ x.1 < (n : Int)) ∧ (∀ x,x ≠ 0 → fsum (fun t => cf t x) fs + (look ps x).getD 0 = C x) ∧ fsum (fun t => cf t 0) fs + c = C 0 ∧ ps.length + n ≤ 200 ∧ fs.length ≤ 3 ∧ PsOk ts ps)
section
variable {ts : List TRec} {cf : Int → Int → Int} {C : Int → Int} {P n : Nat} {fs ps : List (Int × Int)} {c f M : Int}
theorem len_M {a n : Nat} {M : Int} (h : a + n ≤ 200) (hM : M < n) : a + M.toNat ≤ 200 := Nat.le_trans (Nat.add_le_add_left (Int.toNat_le.mpr (Int.le_of_lt hM)) a) h
theorem finv_below (hn : (fs.map (·.1)).Nodup) (h1 : ∀ x ∈ fs,GoodT ts cf x.1 x.2 ∧ x.1 < (n : Int)) (hmax : ∀ k ∈ fs.map (·.1),k ≤ M) (hM0 : 0 ≤ M) : ∀ x ∈ drp fs M,GoodT ts cf x.1 x.2 ∧ x.1 < (M.toNat : Int) := fun x hx => by
  refine x0_2 (drp_mem hx) ?_
  intro h2 h3
  have := hmax x.1 (List.mem_map.mpr ⟨x,h2,rfl⟩)
  exact ⟨(h1 x h2).1,by rw [Int.toNat_of_nonneg hM0];exact Int.lt_iff_le_and_ne.mpr ⟨this,h3⟩⟩
theorem finv_num {v : Int} (hn : (fs.map (·.1)).Nodup) (h1 : ∀ x ∈ fs,GoodT ts cf x.1 x.2 ∧ x.1 < (n : Int)) (h2 : ∀ x,x ≠ 0 → fsum (fun t => cf t x) fs + (look ps x).getD 0 = C x) (h3 : fsum (fun t => cf t 0) fs + c = C 0) (h4 : ps.length + n ≤ 200) (h5 : fs.length ≤ 3) (h6 : PsOk ts ps)
    (hl : look fs M = some 1) (hmax : ∀ k ∈ fs.map (·.1),k ≤ M) (hM : 0 ≤ M ∧ M < n) (hc : ∀ x,cf M x = if x = 0 then v else 0) : FInv ts cf C P M.toNat (drp fs M) ps (c + v) := by
  refine .inr ⟨finv_below hn h1 hmax hM.1,fun x hx => ?_,?_,len_M h4 hM.2,Nat.le_trans drp_len h5,h6⟩
  · rw [fsum_drp hn,hc x,if_neg hx,Int.mul_zero,Int.sub_zero]
    exact h2 x hx
  · rw [fsum_drp hn,hc 0,if_pos rfl,hl,Option.getD_some]
    omega
theorem finv_var {i : Nat} {srt d : Int} (hn : (fs.map (·.1)).Nodup) (h1 : ∀ x ∈ fs,GoodT ts cf x.1 x.2 ∧ x.1 < (n : Int)) (h2 : ∀ x,x ≠ 0 → fsum (fun t => cf t x) fs + (look ps x).getD 0 = C x) (h3 : fsum (fun t => cf t 0) fs + c = C 0) (h4 : ps.length + n ≤ 200) (h5 : fs.length ≤ 3) (h6 : PsOk ts ps)
    (hl : look fs M = some f) (hmax : ∀ k ∈ fs.map (·.1),k ≤ M) (hi : M = (i : Int)) (hi1 : 1 ≤ i) (hM : M < n) (hr : ts[i]? = some (varR srt d)) (hc : ∀ x,cf M x = if x = M then 1 else 0) : FInv ts cf C P M.toNat (drp fs M) (if f = 0 then ps else addTo ps M f) c := by
  refine .inr ⟨finv_below hn h1 hmax (by omega),fun x hx => ?_,?_,?_,Nat.le_trans drp_len h5,?_⟩
  · rw [fsum_drp hn,hc x,hl,Option.getD_some]
    have := h2 x hx
    by_cases e : f = 0
    · rw [if_pos e,e];split <;> omega
    · rw [if_neg e,look_addTo];split <;> omega
  · rw [fsum_drp hn,hc 0,if_neg (by omega),Int.mul_zero,Int.sub_zero]
    exact h3
  · split
    · exact len_M h4 hM
    · exact Nat.le_trans (Nat.add_le_add_right (addTo_len (fs := ps) (k := M) (f := f)) _) (Nat.le_trans (Nat.le_of_eq (Nat.add_right_comm ..)) (Nat.le_trans (Nat.add_le_add_left ((Int.toNat_lt (hi ▸ Int.natCast_nonneg i)).mpr hM) _) h4))
  · split
    · exact h6
    · subst hi;exact h6.addTo hr
theorem finv_mul {k : Nat} {v : Int} {srt d : Int} (hn : (fs.map (·.1)).Nodup) (h1 : ∀ x ∈ fs,GoodT ts cf x.1 x.2 ∧ x.1 < (n : Int)) (h2 : ∀ x,x ≠ 0 → fsum (fun t => cf t x) fs + (look ps x).getD 0 = C x) (h3 : fsum (fun t => cf t 0) fs + c = C 0) (h4 : ps.length + n ≤ 200) (h5 : fs.length ≤ 3) (h6 : PsOk ts ps)
    (hl : look fs M = some 1) (hmax : ∀ k ∈ fs.map (·.1),k ≤ M) (hM : M < n) (hk1 : 1 ≤ k) (hkM : (k : Int) < M) (hr : ts[k]? = some (varR srt d)) (hc : ∀ x,cf M x = if x = (k : Int) then v else 0) (hck : ∀ x,cf k x = if x = (k : Int) then 1 else 0) (hlen : (drp fs M).length + 1 ≤ 3) :
    FInv ts cf C P M.toNat (put (drp fs M) k ((look (drp fs M) k).getD 0 + v)) ps c := by
  refine .inr ⟨fun x hx => ?_,fun x hx => ?_,?_,len_M h4 hM,Nat.le_trans put_len hlen,h6⟩
  · rcases put_mem hx with rfl | hx
    · exact ⟨⟨k,rfl,.inr (.inl ⟨srt,d,hr,hk1,hck⟩)⟩,by rw [Int.toNat_of_nonneg (Int.le_of_lt (Int.lt_of_le_of_lt (Int.natCast_nonneg k) hkM))];exact hkM⟩
    · exact finv_below hn h1 hmax (by omega) x hx
  · rw [fsum_put,fsum_drp hn,hc x,hck x,hl,Option.getD_some]
    have := h2 x hx
    by_cases e : x = (k : Int)
    · rw [if_pos e,if_pos e];omega
    · rw [if_neg e,if_neg e];omega
  · rw [fsum_put,fsum_drp hn,hc 0,hck 0,if_neg (by omega),if_neg (by omega)]
    omega
theorem drp_len1 {f : Int} (h : look fs M = some f) : (drp fs M).length + 1 ≤ fs.length := by
  induction fs with
  | nil => cases h
  | cons y r ih =>
    by_cases e : y.1 = M
    · have e2 : drp (y :: r) M = drp r M := by simp [drp,e]
      rw [e2,List.length_cons]
      exact Nat.succ_le_succ drp_len
    · have e2 : drp (y :: r) M = y :: drp r M := by simp [drp,e]
      rw [look_c,if_neg e] at h
      have := ih h
      rw [e2,List.length_cons,List.length_cons]
      omega
end
end
section
section
variable {prog : Program} {w : World} {A : Around} {E : Value → Shared → Prop} {s : Shared} {env : Env} {h₀ : Heap} {x : Str} {body : List Stmt} {Q : Flow → Shared → Prop}
theorem tuple_inv {ax : Addr} {vs : List Value} {m₀ : Mp} {news : Led} (J : Addr → Nat → Mp → Led → Prop) (hh : A.handled = none) (F : Fr h₀ env.locals s.heap m₀) (N : News h₀ env.locals s.heap news) (hm : (ax,tup vs) ∈ news)
    (h0 : ∀ I,(∀ p ∈ news,p.1 < I) → J I 0 m₀ news) (hJm : ∀ I i m led,J I i m led → (ax,tup vs) ∈ led)
    (step : ∀ I i v it h tk m led,vs[i]? = some v → J I i m led → (∀ p ∈ led,p.1 ≠ I) → Fr h₀ env.locals h (fun y => if y = x then some v else m y) → News h₀ env.locals h ((I,it) :: led) →
      wpAny (model prog w) A (execs body env) (TurnPost h₀ env.locals { s with heap := h,toks := tk } I it (J I (i + 1)) Q) E { s with heap := h,toks := tk })
    (fin : ∀ I h tk m led,J I vs.length m led → Fr h₀ env.locals h m → News h₀ env.locals h led → Q .next { s with heap := h,toks := tk }) :
    wpAny (model prog w) A (pyIter (.ref ax)) (fun it s₂ => LoopAtV prog w A h₀ env x body Q E it s₂) E s := by
  have hax := N _ hm
  have hl : s.heap.IsTuple ax vs.toArray := ⟨_,hax.1,rfl,_,rfl⟩
  have hlt : ax < s.heap.objs.size := Heap.lt_size hax.1
  have hne : ax ≠ s.heap.objs.size := Nat.ne_of_lt hlt
  refine wpAny_pyIter_tuple hl ?_
  have j0 := h0 s.heap.objs.size fun p hp => Heap.lt_size (N p hp).1
  have W := Walks.tuple (prog := prog) (w := w) hh s.heap.objs.size ax hne vs.toArray
  have hnew := next_is_new F
  have hlen : vs.toArray.size = vs.length := by simp
  rw [hlen] at W
  unfold LoopAtV
  dsimp only
  refine ⟨_,_,_,vs.length,_,_,m₀,news,J s.heap.objs.size,rfl,W,?_,?_,?_,⟨⟨_,Heap.get?_push_size _ rfl,rfl,rfl⟩,hl.at fun o e => Heap.get?_push_of_some _ e⟩,F.push _,(fun p hp => ⟨Heap.get?_push_of_some _ (N p hp).1,(N p hp).2⟩),j0,?_,?_⟩
  · intro hmm
    rcases List.mem_cons.mp hmm with e | hmm
    · exact absurd F.ns.lt (e ▸ Nat.lt_irrefl _)
    · exact hax.2.1 (List.mem_singleton.mp hmm).symm
  · intro b hb
    rw [List.mem_singleton.mp hb]
    exact hnew
  · intro p hp hI
    exact absurd (Heap.lt_size (N p hp).1) ((List.mem_singleton.mp hI) ▸ Nat.lt_irrefl _)
  · intro i v m₁ news₁ s₁ own zq1
    refine x2_1 zq1 ?_;(try clear zq1)
    intro hh' tk'
    rintro rfl
    intro hin hP hJ hoff hown hget hall hst F₁ N₁
    have hmem₁ := hJm _ _ _ _ hJ
    refine x1_3 hst.1 ?_;(try clear hst.1)
    intro it hit hic hid
    have hmemI := hall s.heap.objs.size (List.mem_cons_self ..) hnew _ hit
    have hv : vs[i]? = some v := by simpa using hP
    have N₂ : News h₀ env.locals hh' ((s.heap.objs.size,it) :: news₁) := fun p hp => by
      rcases List.mem_cons.mp hp with rfl | hp
      · exact N₁ _ (List.mem_append_left _ hmemI)
      · exact N₁ _ (List.mem_append_right _ hp)
    refine wpAny_mono (step _ i v it hh' tk' m₁ news₁ hv hJ (fun p hp e => hoff p hp (List.mem_singleton.mpr e)) F₁ N₂) (fun f s₂ p => ?_) fun _ _ e => e
    have fin : StopAt (∃ h' tk m' led',s₂ = { s with heap := h',toks := tk } ∧ Fr h₀ env.locals h' m' ∧ News h₀ env.locals h' ((s.heap.objs.size,it) :: led') ∧ (∀ p ∈ led',p.1 ≠ s.heap.objs.size) ∧ J s.heap.objs.size (i + 1) m' led') →
        LoopStepU h₀ env.locals [s.heap.objs.size] own (J s.heap.objs.size (i + 1)) { s with heap := hh',toks := tk' } .next s₂ := by
      intro zq2
      refine x4_5 zq2 ?_;(try clear zq2)
      intro h' tk m' news' e F' N' ho r
      refine ⟨rfl,h',tk,m',news',e,F',fun p hp => ?_,fun p hp hI => ho p hp (List.mem_singleton.mp hI),r⟩
      rcases List.mem_append.mp hp with hp | hp
      · have h2 : hh'.get? p.1 = some p.2 := hget p hp
        rcases List.mem_cons.mp (hown p hp) with h1 | h1
        · have h3 : p = (s.heap.objs.size,it) := by
            rw [h1,hit] at h2
            exact Prod.ext h1 (Option.some.inj h2).symm
          rw [h3];exact N' _ (List.mem_cons_self ..)
        · have h1' : p.1 = ax := List.mem_singleton.mp h1
          have h3 : p = (ax,tup vs) := by
            rw [h1',(N₁ _ (List.mem_append_right _ hmem₁)).1] at h2
            exact Prod.ext h1' (Option.some.inj h2).symm
          rw [h3];exact N' _ (List.mem_cons_of_mem _ (hJm _ _ _ _ r))
      · exact N' _ (List.mem_cons_of_mem _ hp)
    cases f with
    | ret v => exact .ret p
    | brk => exact .brk p
    | next => exact .next (fin p)
    | cont => exact .cont (fin p)
  · rintro h' tk m' news' F' N' _ hJ
    exact fin _ h' tk m' news' hJ F' N'
theorem tuple_turns {target : Expr} {ax : Addr} {vs : List Value} {m₀ : Mp} {news : Led} (J : Addr → Nat → Mp → Led → Prop) (hh : A.handled = none) (F : Fr h₀ env.locals s.heap m₀) (N : News h₀ env.locals s.heap news) (hm : (ax,tup vs) ∈ news)
    (h0 : ∀ I,(∀ p ∈ news,p.1 < I) → J I 0 m₀ news) (hJm : ∀ I i m led,J I i m led → (ax,tup vs) ∈ led)
    (step : ∀ I i v it h tk m led,vs[i]? = some v → J I i m led → (∀ p ∈ led,p.1 ≠ I) → Fr h₀ env.locals h m → News h₀ env.locals h ((I,it) :: led) →
      wpAny (model prog w) A (assign target env v) (fun _ s₃ => wpAny (model prog w) A (execs body env) (TurnPost h₀ env.locals { s with heap := h,toks := tk } I it (J I (i + 1)) Q) E s₃) E { s with heap := h,toks := tk })
    (fin : ∀ I h tk m led,J I vs.length m led → Fr h₀ env.locals h m → News h₀ env.locals h led → Q .next { s with heap := h,toks := tk }) :
    wpAny (model prog w) A (pyIter (.ref ax)) (fun it s₂ => TurnsAt prog w A h₀ env target body Q E it s₂) E s := by
  have hax := N _ hm
  have hl : s.heap.IsTuple ax vs.toArray := ⟨_,hax.1,rfl,_,rfl⟩
  have hlt : ax < s.heap.objs.size := Heap.lt_size hax.1
  have hne : ax ≠ s.heap.objs.size := Nat.ne_of_lt hlt
  refine wpAny_pyIter_tuple hl ?_
  have j0 := h0 s.heap.objs.size fun p hp => Heap.lt_size (N p hp).1
  have W := Walks.tuple (prog := prog) (w := w) hh s.heap.objs.size ax hne vs.toArray
  have hnew := next_is_new F
  have hlen : vs.toArray.size = vs.length := by simp
  rw [hlen] at W
  unfold TurnsAt
  dsimp only
  refine ⟨_,_,_,vs.length,_,_,_,m₀,news,J s.heap.objs.size,rfl,KTurns.ofWalks W (fun i v s Q E st q => letGo_tupleiter st.1 q),?_,?_,?_,⟨⟨_,Heap.get?_push_size _ rfl,rfl,rfl⟩,hl.at fun o e => Heap.get?_push_of_some _ e⟩,F.push _,(fun p hp => ⟨Heap.get?_push_of_some _ (N p hp).1,(N p hp).2⟩),j0,?_,?_⟩
  · intro hmm
    rcases List.mem_cons.mp hmm with e | hmm
    · exact absurd F.ns.lt (e ▸ Nat.lt_irrefl _)
    · exact hax.2.1 (List.mem_singleton.mp hmm).symm
  · intro b hb
    rw [List.mem_singleton.mp hb]
    exact hnew
  · intro p hp hI
    exact absurd (Heap.lt_size (N p hp).1) ((List.mem_singleton.mp hI) ▸ Nat.lt_irrefl _)
  · intro i v m₁ news₁ hh' tk' own hin hP hJ hoff hown hget hall hst F₁ N₁
    have hmem₁ := hJm _ _ _ _ hJ
    refine x1_3 hst.1 ?_;(try clear hst.1)
    intro it hit hic hid
    have hmemI := hall s.heap.objs.size (List.mem_cons_self ..) hnew _ hit
    have hv : vs[i]? = some v := by simpa using hP
    have N₂ : News h₀ env.locals hh' ((s.heap.objs.size,it) :: news₁) := fun p hp => by
      rcases List.mem_cons.mp hp with rfl | hp
      · exact N₁ _ (List.mem_append_left _ hmemI)
      · exact N₁ _ (List.mem_append_right _ hp)
    refine wpAny_mono (step _ i v it hh' tk' m₁ news₁ hv hJ (fun p hp e => hoff p hp (List.mem_singleton.mpr e)) F₁ N₂) (fun _ s₃ p3 => wpAny_mono p3 (fun f s₂ p => ?_) fun _ _ e => e) fun _ _ e => e
    have fin : StopAt (∃ h' tk m' led',s₂ = { s with heap := h',toks := tk } ∧ Fr h₀ env.locals h' m' ∧ News h₀ env.locals h' ((s.heap.objs.size,it) :: led') ∧ (∀ p ∈ led',p.1 ≠ s.heap.objs.size) ∧ J s.heap.objs.size (i + 1) m' led') →
        LoopStepU h₀ env.locals [s.heap.objs.size] own (J s.heap.objs.size (i + 1)) { s with heap := hh',toks := tk' } .next s₂ := by
      intro zq3
      refine x4_5 zq3 ?_;(try clear zq3)
      intro h' tk m' news' e F' N' ho r
      refine ⟨rfl,h',tk,m',news',e,F',fun p hp => ?_,fun p hp hI => ho p hp (List.mem_singleton.mp hI),r⟩
      rcases List.mem_append.mp hp with hp | hp
      · have h2 : hh'.get? p.1 = some p.2 := hget p hp
        rcases List.mem_cons.mp (hown p hp) with h1 | h1
        · have h3 : p = (s.heap.objs.size,it) := by
            rw [h1,hit] at h2
            exact Prod.ext h1 (Option.some.inj h2).symm
          rw [h3];exact N' _ (List.mem_cons_self ..)
        · have h1' : p.1 = ax := List.mem_singleton.mp h1
          have h3 : p = (ax,tup vs) := by
            rw [h1',(N₁ _ (List.mem_append_right _ hmem₁)).1] at h2
            exact Prod.ext h1' (Option.some.inj h2).symm
          rw [h3];exact N' _ (List.mem_cons_of_mem _ (hJm _ _ _ _ r))
      · exact N' _ (List.mem_cons_of_mem _ hp)
    cases f with
    | ret v => exact .ret p
    | brk => exact .brk p
    | next => exact .next (fin p)
    | cont => exact .cont (fin p)
  · rintro h' tk m' news' F' N' _ hJ
    exact fin _ h' tk m' news' hJ F' N'
end
end
section
theorem lf_ne2 : ∀ n ∈ lfNames,n ≠ Str.ofString "parts" := by decide +kernel
theorem lf_new {g h : Heap} {L f fd pd : Addr} {x : Addr × Obj} {po : Obj} {hs1 hs2 : Int} {t1 t2 : Tok} {ne : Nat} {BL : Led} (N : News g L h (x :: (pd,po) :: (f,instObj 740 fd) :: (fd,dictOf (putL (Str.ofString "constant") hs1 (.str (Str.ofString "constant") t1) (.ref 89) (putL (Str.ofString "parts") hs2 (.str (Str.ofString "parts") t2) (.ref pd) [])) ne) :: BL)) :
    ∃ es,LFE es pd 89 ∧ News g L h (x :: (pd,po) :: (f,instObj 740 fd) :: (fd,dictOf es ne) :: BL) := by
  have n0 : noRef ([] : List DictEntry) := rfl
  have n1 : noRef (putL (Str.ofString "parts") hs2 (.str (Str.ofString "parts") t2) (.ref pd) []) := noRef_put n0
  refine ⟨_,⟨?_,?_,fun n hn => ?_,noRef_put n1,?_⟩,N⟩
  · exact getL_put_ne n1 (by decide +kernel) (by rw [getL_put n0,if_pos rfl])
  · rw [getL_put n1,if_pos rfl]
  · refine getL_put_ne n1 (lf_ne n hn) (getL_put_ne n0 (lf_ne2 n hn) ?_)
    rw [getL_of n0];rfl
  · exact Nat.le_trans putL_len (Nat.succ_le_succ (Nat.le_trans putL_len (by simp)))
inductive FormJ (w : World) (B : BkA) (BL : Led) (f : Addr) (fd : Addr) (pd : Addr) (wd : Addr) (fs : List (Int × Int)) (ps : List (Int × Int)) (c : Int) (m : Mp) (led : Led) : Prop
  | mk (es : List DictEntry) (ne : Nat) (ca : Addr) (po wo : Obj) (T : Led) (cc1 : led = (fd,dictOf es ne) :: (pd,po) :: (wd,wo) :: T) (cc2 : LFE es pd ca) (cc3 : PIn T ca c) (cc4 : (f,instObj 740 fd) ∈ T) (cc5 : (∀ p ∈ BL,p ∈ T)) (cc6 : FS w T po ps) (cc7 : FD w T wo fs) (cc8 : (∀ q ∈ T,AllNe q.1 [(fd,tup []),(pd,tup []),(wd,tup [])])) (cc9 : m (Str.ofString "bank") = some (.ref B.b)) (cc10 : m (Str.ofString "found") = some (.ref f)) (cc11 : m (Str.ofString "waiting") = some (.ref wd)) : FormJ w B BL f fd pd wd fs ps c m led
inductive FormA (w : World) (B : BkA) (BL : Led) (P : Int) (g : Heap) (L : Addr) (s : Shared) (s' : Shared) : Prop
  | mk (h' : Heap) (tk' : Nat) (m' : Mp) (f fd pd wd : Addr) (led : Led) (cc1 : s' = { s with heap := h',toks := tk' }) (cc2 : Fr g L h' m') (cc3 : News g L h' led) (cc4 : FormJ w B BL f fd pd wd [(P,1)] [] 0 m' led) (cc5 : fd ≠ pd) (cc6 : fd ≠ wd) (cc7 : pd ≠ wd) (cc8 : (pd == sysModules) = false) (cc9 : (wd == sysModules) = false) : FormA w B BL P g L s s'
theorem formA_of {w : World} {B : BkA} {BL : Led} {P : Int} {tP : Tok} {g h : Heap} {L wd pd f fd : Addr} {wo po : Obj} {es : List DictEntry} {ne tk : Nat} {m' : Mp} {s : Shared} (N : News g L h ((wd,wo) :: (pd,po) :: (f,instObj 740 fd) :: (fd,dictOf es ne) :: BL)) (F : Fr g L h m') (M : LFE es pd 89) (hw : wo.IsDictOf (intKind PG w) (intKeyPairs [(Value.int P tP,Value.ref 90)])) (hp : po.IsDictOf (intKind PG w) [])
    (l1 : @LT.lt Nat _ fd f) (l2 : @LT.lt Nat _ f pd ∧ @LT.lt Nat _ fd pd ∧ AllLt pd BL) (l3 : @LT.lt Nat _ pd wd ∧ @LT.lt Nat _ f wd ∧ @LT.lt Nat _ fd wd ∧ AllLt wd BL) (l0 : ∀ p ∈ BL,@LT.lt Nat _ p.1 fd) (lo1 : (pd == sysModules) = false) (lo2 : (wd == sysModules) = false) (e1 : m' (Str.ofString "bank") = some (.ref B.b)) (e2 : m' (Str.ofString "found") = some (.ref f)) (e3 : m' (Str.ofString "waiting") = some (.ref wd)) :
    FormA w B BL P g L s { s with heap := h,toks := tk } := by
  refine ⟨h,tk,m',f,fd,pd,wd,(fd,dictOf es ne) :: (pd,po) :: (wd,wo) :: (f,instObj 740 fd) :: BL,rfl,F,fun p hp => N p ?_,⟨es,ne,89,po,wo,_,rfl,M,pin_zero,.head _,fun _ h => .tail _ h,⟨[],hp,.nil⟩,⟨_,hw,.cons pb_one .nil⟩,fun q hq => ?_,e1,e2,e3⟩,Nat.ne_of_lt l2.2.1,Nat.ne_of_lt l3.2.2.1,Nat.ne_of_lt l3.1,lo1,lo2⟩
  · exact subA (by k_extra "H:sub_auto") hp
  · rcases List.mem_cons.mp hq with rfl | hq
    · exact ⟨Nat.ne_of_lt l1,Nat.ne_of_gt l2.1,Nat.ne_of_gt l3.2.1,trivial⟩
    · exact ⟨Nat.ne_of_gt (l0 q hq),Nat.ne_of_gt (allLt_mem l2.2.2 q hq),Nat.ne_of_gt (allLt_mem l3.2.2.2 q hq),trivial⟩
theorem lowest_whole {p x y : Int} (h : LowestOf p 1 x y) : x = p ∧ y = 1 := by
  refine x1_4 h ?_;(try clear h)
  intro c h1 h2 h3 h4
  have h5 : c.natAbs = 1 := by simpa using h1
  have : c = 1 ∨ c = -1 := by omega
  rcases this with rfl | rfl
  · exact ⟨by omega,by omega⟩
  · omega
theorem reach1 {a d D e f p : Addr × Obj} {T : Led} (h : p ∈ a :: d :: T) : p ∈ d :: D :: a :: e :: f :: T := by
  exact subA (by k_extra "H:sub_auto") h
theorem reach2 {a d D e f p : Addr × Obj} {T : Led} (h : p ∈ [e,f]) : p ∈ d :: D :: a :: e :: f :: T := by
  exact subA (by k_extra "H:sub_auto") h
theorem reach3 {a b c p : Addr × Obj} {T : Led} (h : p ∈ a :: b :: c :: T) : p ∈ [b,c] ++ a :: T := by
  exact subA (by k_extra "H:sub_auto") h
theorem frame2 {fd pd wd d : Addr} {o1 o2 o3 o4 : Obj} {T : Led} (d1 : fd ≠ pd) (d2 : fd ≠ wd) (n1 : pd ≠ d) (n2 : wd ≠ d) (off : ∀ q ∈ T,AllNe q.1 [(fd,tup []),(pd,tup []),(wd,tup [])]) : ∀ p ∈ [(pd,o3),(wd,o4)],∀ q ∈ (fd,o1) :: (d,o2) :: T,q.1 ≠ p.1 := fun p hp q hq => by
  simp only [List.mem_cons,List.not_mem_nil,or_false] at hp
  rcases List.mem_cons.mp hq with rfl | hq
  · rcases hp with rfl | rfl
    · exact d1
    · exact d2
  · rcases List.mem_cons.mp hq with rfl | hq
    · rcases hp with rfl | rfl
      · exact Ne.symm n1
      · exact Ne.symm n2
    · have := off q hq
      rcases hp with rfl | rfl
      · exact Ne.symm this.2.1
      · exact Ne.symm this.2.2.1
theorem reach4 {a b D e p : Addr × Obj} {T : Led} (h : p ∈ a :: b :: T) : p ∈ D :: a :: b :: e :: T := by
  exact subA (by k_extra "H:sub_auto") h
theorem reach5 {a b c p : Addr × Obj} {T : Led} (h : p ∈ a :: b :: c :: T) : p ∈ [c] ++ a :: b :: T := by
  exact subA (by k_extra "H:sub_auto") h
theorem frame1 {fd pd wd : Addr} {o1 o2 o4 : Obj} {T : Led} (d2 : fd ≠ wd) (d3 : pd ≠ wd) (off : ∀ q ∈ T,AllNe q.1 [(fd,tup []),(pd,tup []),(wd,tup [])]) : ∀ p ∈ [(wd,o4)],∀ q ∈ (fd,o1) :: (pd,o2) :: T,q.1 ≠ p.1 := fun p hp q hq => by
  rw [List.mem_singleton.mp hp]
  rcases List.mem_cons.mp hq with rfl | hq
  · exact d2
  · rcases List.mem_cons.mp hq with rfl | hq
    · exact d3
    · exact Ne.symm (off q hq).2.2.1
theorem ints_two {vs : List Value} {a b : Int} (h : IntsAre vs [a,b]) : ∃ t u,vs = [.int a t,.int b u] := by
  cases h with
  | cons _ t h => cases h with
    | cons _ u h => cases h with
      | nil => exact ⟨t,u,rfl⟩
theorem ints_three {vs : List Value} {a b c : Int} (h : IntsAre vs [a,b,c]) : ∃ t u x,vs = [.int a t,.int b u,.int c x] := by
  cases h with
  | cons _ t h =>
    refine x2_1 (ints_two h) ?_
    intro u x
    rintro rfl
    exact ⟨t,u,x,rfl⟩
theorem reach6 {a b c d e f p : Addr × Obj} {T : Led} (h : p ∈ a :: b :: c :: d :: T) : p ∈ d :: e :: f :: a :: b :: c :: T := by
  exact subA (by k_extra "H:sub_auto") h
theorem look_single {k v x f : Int} (h : look [(k,v)] x = some f) : x = k ∧ f = v := by
  rw [look_c] at h
  by_cases e : k = x
  · rw [if_pos e] at h
    injection h with h
    exact ⟨e.symm,h.symm⟩
  · rw [if_neg e] at h;cases h
inductive FormP (w : World) (B : BkA) (BL : Led) (f : Addr) (fd : Addr) (pd : Addr) (wd : Addr) (es : List DictEntry) (ne : Nat) (po : Obj) (ca : Addr) (aa : Addr) (vs : List Value) (a : Addr) (args : List Nat) (i : Nat) (m : Mp) (ms : Led) (T : Led) : Prop
  | mk (wo : Obj) (cc1 : ms = [(fd,dictOf es ne),(pd,po),(wd,wo)]) (cc2 : PIn T ca 0) (cc3 : (f,instObj 740 fd) ∈ T) (cc4 : (∀ p ∈ BL,p ∈ T)) (cc5 : FS w T po []) (cc6 : FD w T wo ((args.take i).map fun (x : Nat) => ((x : Int),(1 : Int)))) (cc7 : PIn T a 1) (cc8 : (aa,tup vs) ∈ T) (cc9 : m (Str.ofString "bank") = some (.ref B.b)) (cc10 : m (Str.ofString "found") = some (.ref f)) (cc11 : m (Str.ofString "waiting") = some (.ref wd)) (cc12 : m (Str.ofString "factor") = some (.ref a)) : FormP w B BL f fd pd wd es ne po ca aa vs a args i m ms T
theorem ints_map_at {vs : List Value} {args : List Nat} {i : Nat} {v : Value} (h : IntsAre vs (args.map fun (a : Nat) => (a : Int))) (e : vs[i]? = some v) : ∃ (x : Nat) (t : Tok),args[i]? = some x ∧ v = .int (x : Int) t := by
  induction args generalizing vs i with
  | nil => cases h;simp at e
  | cons a r ih =>
    cases h with
    | cons _ t h =>
      cases i with
      | zero => exact ⟨a,t,rfl,by simpa using e.symm⟩
      | succ i => exact ih h (by simpa using e)
theorem not_in_take {args : List Nat} {i y : Nat} (hn : args.Nodup) (hy : args[i]? = some y) : (y : Int) ∉ ((args.take i).map fun (x : Nat) => ((x : Int),(1 : Int))).map (·.1) := by
  intro h
  rw [List.map_map] at h
  refine x1_2 (List.mem_map.mp h) ?_
  intro z hz e
  have e : z = y := by have e : (z : Int) = y := e;omega
  subst e
  refine x1_1 (List.mem_iff_getElem?.mp hz) ?_
  intro j hj
  have hl := (List.getElem?_eq_some_iff.mp hj).1
  rw [List.length_take] at hl
  rw [List.getElem?_take,if_pos (by omega)] at hj
  have hil := (List.getElem?_eq_some_iff.mp hy).1
  have := (List.getElem?_inj (by omega : j < args.length) hn).mp (hj.trans hy.symm)
  omega
theorem put_new {fs : List (Int × Int)} {k v : Int} (h : k ∉ fs.map (·.1)) : put fs k v = fs ++ [(k,v)] := by
  induction fs with
  | nil => rfl
  | cons x r ih =>
    simp only [List.map_cons,List.mem_cons,not_or] at h
    rw [put_c,if_neg fun e => h.1 e.symm,ih h.2,List.cons_append]
theorem take_snoc {args : List Nat} {i y : Nat} (hy : args[i]? = some y) : (args.take i).map (fun (x : Nat) => ((x : Int),(1 : Int))) ++ [((y : Int),(1 : Int))] = (args.take (i + 1)).map fun (x : Nat) => ((x : Int),(1 : Int)) := by
  rw [List.take_add_one,hy,List.map_append]
  rfl
theorem AllNe.get' {b : Addr} {x y z p : Addr × Obj} {T : Led} (h : AllNe b (x :: y :: z :: T)) (hp : p ∈ T) : p.1 ≠ b := by
  have : AllNe b T := h.2.2.2
  obtain ⟨p1,p2⟩ := p
  exact this.get hp
theorem reach7 {a b c d p : Addr × Obj} {T : Led} (h : p ∈ [d,a,b,c]) : p ∈ d :: a :: b :: c :: T := by
  exact subA (by k_extra "H:sub_auto") h
theorem finv_plus {ts : List TRec} {cf : Int → Int → Int} {C : Int → Int} {P : Nat} {args : List Nat} (ha : ∀ a ∈ args,GoodT ts cf (a : Int) 1 ∧ a < P) (hC : ∀ x,C x = (args.map fun (a : Nat) => cf (a : Int) x).sum) (h1 : P ≤ 150) (h2 : args.length ≤ 3) :
    FInv ts cf C P P (args.map fun (x : Nat) => ((x : Int),(1 : Int))) [] 0 := by
  have e : ∀ x,fsum (fun t => cf t x) (args.map fun (x : Nat) => ((x : Int),(1 : Int))) = C x := fun x => by
    rw [hC,fsum,List.map_map]
    congr 1
    refine List.map_congr_left fun a _ => ?_
    simp
  refine .inr ⟨fun x hx => ?_,fun x hx => by rw [e];simp [look_n,look_c],by rw [e];simp,by simp;omega,by simpa using h2,fun x hx => nomatch hx⟩
  refine x1_2 (List.mem_map.mp hx) ?_
  intro a h
  rintro rfl
  refine x0_2 (ha a h) ?_
  intro g1 g2
  exact ⟨g1,by dsimp only;omega⟩
theorem skip_w {a b c p : Addr × Obj} {T : Led} (h : p ∈ a :: b :: T) : p ∈ a :: b :: c :: T := by
  exact subA (by k_extra "H:sub_auto") h
inductive FormB (w : World) (B : BkA) (f : Addr) (fd : Addr) (pd : Addr) (wd : Addr) (T : Led) (ms : Led) (fs : List (Int × Int)) (g : Heap) (L : Addr) (s : Shared) (s' : Shared) : Prop
  | mk (h' : Heap) (tk' : Nat) (m' : Mp) (M : Int) (tM : Tok) (a : Addr) (wo' : Obj) (fM : Int) (cc1 : s' = { s with heap := h',toks := tk' }) (cc2 : Fr g L h' m') (cc3 : News g L h' (ms ++ (wd,wo') :: T)) (cc4 : look fs M = some fM) (cc5 : (∀ k ∈ fs.map (·.1),k ≤ M)) (cc6 : PIn T a fM) (cc7 : FD w T wo' (drp fs M)) (cc8 : m' (Str.ofString "here") = some (.int M tM)) (cc9 : m' (Str.ofString "factor") = some (.ref a)) (cc10 : m' (Str.ofString "bank") = some (.ref B.b)) (cc11 : m' (Str.ofString "found") = some (.ref f)) (cc12 : m' (Str.ofString "waiting") = some (.ref wd)) : FormB w B f fd pd wd T ms fs g L s s'
section
theorem g18.on18 : True := trivial
open g18
theorem set_47 : True := by
  k_with "!pyIter ref" => ((fail_if_success(fail_if_success have:=on18));(k_here;refine stop_at ?_))
  k_with "!exec While" => ((fail_if_success(fail_if_success have:=on18));(refine stop_at ?_))
  k_with "!setAttr ref" => ((fail_if_success(fail_if_success have:=on18));(k_here;k_dflt (refine' set_dict ?q9k1 ?q9k2 ?q9k3 ?q9k4 ?q9k5 ?q9k6 ?q9k7 ?q9k8 ?q9k9 ?q9k10 ?q9k11 ?q9k12 ?q9k13 ?_;(case q9k1 => k_asm);(case q9k2 => k_asm);(case q9k3 => k_asm);(case q9k4 => k_inst);(case q9k5 => exact rfl);(case q9k6 => k_is);(case q9k7 => k_is);(case q9k8 => k_is);(case q9k9 => k_is);(case q9k10 => (rw [getL_of (by first | assumption | rfl | exact noRef_put (by first | assumption | rfl))];rfl));(case q9k11 => exact rfl);(case q9k12 => k_upd);(case q9k13 => exact Nat.le_of_ble_eq_true rfl);k_whole;intro _ _ _;(try k_sweep))))
  k_with "!eval Dict" => ((fail_if_success(fail_if_success have:=on18));(k_here;k_dflt (refine' kdn_eval (knd := PySem.intKind _ _) ?q9F ?q9N ?q9b ?q9a ?q9l ?q9e ?q9n ?_;(case q9F => k_asm);(case q9N => k_asm);(case q9b => exact Top.nolimit (by k_asm));(case q9a => rfl);(case q9l => rfl);(case q9e => exact List.cons_ne_nil _ _);(case q9n => exact Nat.le_of_ble_eq_true rfl));intro _ _ _ _ _ q9l1 _ _;(try k_lt q9l1)))
  k_with "!call ref" => ((fail_if_success(fail_if_success have:=on18));(k_here;(with_reducible show wpAny _ _ (call (Value.ref 119) _) _ _ _);refine stop_at ?_))
  k_with "!call ref" => ((fail_if_success(fail_if_success have:=on18));(k_here;(with_reducible show wpAny _ _ (call (Value.ref 140) _) _ _ _);refine stop_at ?_))
  k_with "!call ref" => ((fail_if_success(fail_if_success have:=on18));(k_here;(with_reducible show wpAny _ _ (call (Value.ref 711) _) _ _ _);refine stop_at ?_))
  k_with "!call ref" => ((fail_if_success(fail_if_success have:=on18));(k_here;(with_reducible show wpAny _ _ (call (Value.ref 718) _) _ _ _);refine stop_at ?_))
  k_with "!call ref" => ((fail_if_success(fail_if_success have:=on18));(k_here;(with_reducible show wpAny _ _ (call (Value.ref 259) _) _ _ _);refine stop_at ?_))
  k_with "!call ref" => ((fail_if_success(fail_if_success have:=on18));(k_here;(with_reducible show wpAny _ _ (call (Value.ref 266) _) _ _ _);refine stop_at ?_))
  k_with "!call ref" => ((fail_if_success(fail_if_success have:=on18));(k_here;(with_reducible show wpAny _ _ (call (Value.ref 280) _) _ _ _);refine stop_at ?_))
  k_with "!call builtin:dict.get" => ((fail_if_success(fail_if_success have:=on18));(k_here;refine stop_at ?_))
  k_with "!call builtin:dict.pop" => ((fail_if_success(fail_if_success have:=on18));(k_here;refine stop_at ?_))
  k_with "!call builtin:max" => ((fail_if_success(fail_if_success have:=on18));(k_here;refine stop_at ?_))
  k_with "!call builtin:len" => ((fail_if_success(fail_if_success have:=on18));(k_here;refine stop_at ?_))
  k_with "!setItem ref int" => ((fail_if_success(fail_if_success have:=on18));(k_here;refine stop_at ?_))
  k_with "!getMethod ref" => ((fail_if_success(fail_if_success have:=on18));(k_here;(with_reducible show wpAny _ _ (getMethod (Value.ref _) _ _) _ _ _);k_dflt (refine' method_inst ?q9k1 ?q9k2 ?q9k3 ?q9k4 ?q9k5 ?q9k6 ?q9k7 ?_;(case q9k1 => k_asm);(case q9k2 => k_asm);(case q9k3 => k_inst);(case q9k4 => k_is);(case q9k5 => k_is);(case q9k6 => k_is);(case q9k7 => exact LFE.nm (by assumption) _ (by decide +kernel));k_whole)))
  k_with "!getMethod ref" => ((fail_if_success(fail_if_success have:=on18));(k_here;(with_reducible show wpAny _ _ (getMethod (Value.ref _) (Str.ofString "get") _) _ _ _);k_dflt (refine' fd_mget ?q9k1 ?q9k2 ?q9k3 ?_;(case q9k1 => k_asm);(case q9k3 => with_reducible assumption);(case q9k2 => k_mem))))
  k_with "!getMethod ref" => ((fail_if_success(fail_if_success have:=on18));(k_here;(with_reducible show wpAny _ _ (getMethod (Value.ref _) (Str.ofString "pop") _) _ _ _);k_dflt (refine' fd_mpop ?q9k1 ?q9k2 ?q9k3 ?_;(case q9k1 => k_asm);(case q9k3 => with_reducible assumption);(case q9k2 => k_mem))))
  exact trivial
theorem item_pin {P : Params} {prog : Program} {w : World} {A : Around} {E : Value → Shared → Prop} {s : Shared} {h₀ : Heap} {L a : Addr} {m : Mp} {p : Int} {T led : Led} {u : Tok} {Q : Value → Shared → Prop} {value slice : Expr} (x : PIn T a p) (F : Fr h₀ L s.heap m) (N : News h₀ L s.heap led) (X : (k0.heap_1 P).In h₀) (hs : ∀ p ∈ T,p ∈ led)
    (h : ∀ t,Q (.int p t) s) (hsub : subscripted slice false (.ref a) (.int 0 u) = operate [.ref a,.int 0 u] (getItem (.ref a) (.int 0 u))) :
    wpAny (model prog w) A (subscriptTail value slice (.ref a) (.int 0 u)) Q E s := by
  refine x2_1 (x.pairH F N X hs) ?_
  intro t1 t2 ht
  exact item_tupleT (l := [.int p t1,.int 1 t2]) ht (by decide) (by decide) (j := 0) (by rfl) (by rfl) (h t1) hsub
theorem set_48 : True := by
  k_with "!subscriptTail" => ((fail_if_success(fail_if_success have:=on18));(k_here;(with_reducible show wpAny _ _ (subscriptTail _ _ (Value.ref _) (Value.int 0 _)) _ _ _);k_dflt (refine' item_pin ?q9x ?q9F ?q9N ?q9X ?q9hs ?_ ?q9ks9;(case q9ks9 => with_unfolding_all rfl);(case q9x => with_reducible assumption);(case q9F => k_asm);(case q9N => k_asm);(case q9X => k_asm);(case q9hs => (repeat first | exact sub_all | refine sub_more ?_));k_whole);intro _))
  exact trivial
inductive FormR45 (w : World) (ts : List TRec) (BL : Led) (C : Int → Int) (r : Value) (led' : Led) : Prop
  | mk (f : Addr) (fd : Addr) (pd : Addr) (es : List DictEntry) (ne : Nat) (ca : Addr) (po : Obj) (T' : Led) (ps : List (Int × Int)) (c : Int) (cc1 : r = .ref f) (cc2 : led' = (fd,dictOf es ne) :: (pd,po) :: T') (cc3 : LFE es pd ca) (cc4 : PIn T' ca c) (cc5 : (f,instObj 740 fd) ∈ T') (cc6 : (∀ p ∈ BL,p ∈ T')) (cc7 : FS w T' po ps) (cc8 : (∀ q ∈ T',AllNe q.1 [(fd,tup []),(pd,tup [])])) (cc9 : fd ≠ pd) (cc10 : (pd == sysModules) = false) (cc11 : PsOk ts ps) (cc12 : ps.length ≤ 200) (cc13 : (∀ x,x ≠ 0 → (look ps x).getD 0 = C x)) (cc14 : c = C 0) : FormR45 w ts BL C r led'
theorem form_spec (w : World) {B : BkA} {ts : List TRec} {BL : Led} {P : Nat} {tP : Tok} {srt : Int} {args : List Nat} {cf : Int → Int → Int} {C : Int → Int} (hB : Bk w B ts BL) (hX : BankX B.es) (hP : ts[P]? = some (plusR (args.map fun (a : Nat) => (a : Int)) srt)) (hP9 : P ≤ 150)
    (ha : ∀ a ∈ args,GoodT ts cf (a : Int) 1 ∧ a < P) (hC : ∀ x,C x = (args.map fun (a : Nat) => cf (a : Int) x).sum) (hn : args.Nodup) (hl : args.length = 2 ∨ args.length = 3) :
    Spec w 751 [.ref B.b,.int (P : Int) tP] 8 200 BL (FormR45 w ts BL C) := by
  apply bx;simp(disch:=k_dflt(
  unfold Spec
  intro dp un gd cn cs a₁ ccd ce outer A₀ base h₀ L m mean mg mb s Q E B' F X N Tp hk hd hu hret
  k_dflt (apply call_at (binds := [(Str.ofString "bank",Value.ref B.b),(Str.ofString "t",Value.int (P : Int) tP)]));k_extra "H:o_rest"
  rename_i g₁ L₁ h₁ FG₁ F₁ N₁ B₁ X₁ T₁ z₁
  with_reducible refine execs_cutS 2 (FormA w B BL (P : Int) g₁ L₁ s) ?cutA ?cutB
  case cutA =>
    dsimp only [List.take]
    (try k_fold)
    k_steps
    k_dflt (refine' call_clsZ ?k1 ?k2 ?k3 ?k4 ?k5 ?k6 ?_;(case k1 => k_asm);(case k2 => k_asm);(case k3 => k_asm);(case k4 => k_is);(case k5 => k_is);(case k6 => k_is);k_whole;intro x' d' h' F' N' l1 l2 kp nx nd;(try k_lt l1);(try k_lt2 l2);(try k_sweep))
    k_dflt (refine' code_at (binds := [(Str.ofString "self",Value.ref x')]) ?n1 ?n2 ?n3 ?n4 ?n5 ?nA ?nF ?nK ?n6 ?n7 ?n8 ?n9 ?nB ?_ ?n12 ?n13 ?n14 ?n15;(case nA => exact rfl);(case nF => exact rfl);(case nK => exact rfl);(case n1 => k_asm);(case n2 => k_asm);(case n3 => k_asm);(case n4 => k_asm);(case n5 => k_asm);(case n6 => k_is);(case n7 => k_is);(case n8 => ((simp +zetaDelta only [depth_under_make,depth_under_kw,depth_in1,depth_deeper,depth_caller]);(try dsimp only [ktrTop]);omega));(case n9 => exact BindsTo.of_eq rfl);(case n15 => decide);(case nB => exact locs rfl);(case n12 => exact rfl);(case n13 => exact rfl);(case n14 => exact rfl);intro g3 L3 h3 FG3 F3 N3 B3 X3 T3 z3;(try dsimp only);(try k_lift B3))
    k_steps
    refine stop_go ?_
    (try k_extra "H:folds")
    rename News g₁ L₁ _ _ => N9
    refine x1_2 (lf_new N9) ?_
    intro es M9 N9
    exact ⟨rfl,formA_of N9 (by assumption) M9 (by assumption) (by assumption) l2 (by assumption) (by assumption) l1 (by assumption) (by assumption) (by with_unfolding_all rfl) (by with_unfolding_all rfl) (by with_unfolding_all rfl)⟩
  case cutB =>
    intro sCut hCut
    (try k_fold)
    obtain ⟨h5,tk5,m5,f,fd,pd,wd,led5,rfl,F5,N5,J5,d1,d2,d3,lo1,lo2⟩ := hCut
    dsimp only [List.drop]
    (try k_fold)
    k_steps
    refine stop_go ?_
    (try k_extra "H:folds")
    refine while_inv (fun n m led => ∃ fs ps c,FormJ w B BL f fd pd wd fs ps c m led ∧ FInv ts cf C P n fs ps c) F5 N5 ⟨_,_,_,J5,.inl ⟨rfl,rfl,rfl,rfl⟩⟩ ?turn (by passes_own)
    case turn =>
      intro n m6 led6 h6 tk6 zq1 F6 N6
      (try k_extra "H:fold")
      refine x3_2 zq1 ?_;(try clear zq1)
      intro fs ps c zq2
      obtain ⟨es,ne,ca,po,wo,T,rfl,ML,hca,hf,hBL,hpo,hwo,off,e1,e2,e3⟩ := zq2
      intro hI
      refine x0_3 hB.own ?_;(try clear hB.own)
      intro i1 i2 i3
      have i1 := hBL _ i1
      have i2 := hBL _ i2
      have hfl : fs.length ≤ 3 := by
        rcases hI with ⟨e,_⟩ | ⟨_,_,_,_,h,_⟩
        · rw [e];exact Nat.le_of_ble_eq_true rfl
        · exact h
      k_steps
      refine stop_go ?_
      (try k_extra "H:folds")
      k_dflt (refine fd_len (fs := fs) N6 (by k_mem) (hwo.tmono fun _ _ h => h) lo2 (by omega) fun t7 tk7 => ?_)
      k_steps
      by_cases hne : fs = []
      · refine WhlIf.no (by rw [hne];rfl) ?_
        subst hne
        rcases hI with ⟨e,_⟩ | ⟨_,q1,q2,q3,_,q4⟩
        · cases e
        k_steps
        exact hret _ ((fd,dictOf es ne) :: (pd,po) :: T) _ _ (by assumption) ((after_of (by assumption) (by assumption) (by assumption) (by assumption)).sub fun p hp => skip_w hp) ⟨f,fd,pd,es,ne,ca,po,T,ps,c,rfl,rfl,ML,hca,hf,hBL,hpo,fun q hq => ⟨(off q hq).1,(off q hq).2.1,trivial⟩,d1,lo1,q4,by omega,fun x hx => by rw [← q1 x hx,fsum_nil,Int.zero_add],by rw [← q2,fsum_nil,Int.zero_add]⟩
      · refine WhlIf.yes (decide_eq_true (by have := List.length_pos_iff.mpr hne;omega)) ?_
        with_reducible refine execs_cutS 2 (FormB w B f fd pd wd T ((fd,dictOf es ne) :: (pd,po) :: []) fs g₁ L₁ s) ?cut1 ?cut2
        case cut1 =>
          dsimp only [List.take]
          (try k_fold)
          k_steps
          refine stop_go ?_
          (try k_extra "H:folds")
          rename Fr g₁ L₁ _ _ => F7
          rename News g₁ L₁ _ _ => N7
          k_dflt (refine fd_max (fs := fs) rfl F7 N7 (by k_mem) hwo lo2 hne fun M tM h8 tk8 F8 N8 hM1 hM2 => ?_)
          refine x1_1 (look_some hM1) ?_
          intro fM hlM
          k_steps
          refine stop_go ?_
          (try k_extra "H:folds")
          k_dflt (refine' fd_pop (T := T) ?qF ?qN ?qU hwo ?qz hlM ?_;(case qF => k_asm);(case qN => k_asm);(case qU => k_updF);(case qz => omega);intro a h9 wo' tk9 hpa F9 N9 hD9;(try dsimp only at N9))
          k_steps
          refine stop_go ⟨rfl,_,_,_,M,tM,a,wo',fM,rfl,by assumption,by assumption,hlM,hM2,hpa,hD9,by with_unfolding_all rfl,by with_unfolding_all rfl,?_,?_,?_⟩
          all_goals (k_extra "H:look")
        case cut2 =>
          intro sCut hCut
          (try k_fold)
          obtain ⟨h9,tk9,m9,M,tM,a,wo',fM,rfl,F9,N9,hlM,hmax,hpa,hD9,mh,mfa,mb9,mf9,mw9⟩ := hCut
          dsimp only [List.drop]
          (try k_fold)
          dsimp only [List.cons_append,List.nil_append] at N9
          have bl : ∀ {x y z : Addr × Obj},∀ p ∈ BL,p ∈ x :: y :: z :: T := fun p hp => .tail _ (.tail _ (.tail _ (hBL p hp)))
          rcases hI with ⟨rfl,rfl,rfl,rfl⟩ | ⟨q1,q2,q3,q4,q5,q6⟩
          · have hMP : M = (P : Int) ∧ fM = 1 := look_single hlM
            refine x0_2 hMP ?_;(try clear hMP)
            rintro rfl
            rintro rfl
            have e0 : drp [((P : Int),(1 : Int))] (P : Int) = [] := by simp [drp]
            rw [e0] at hD9
            have hP10 : P ≤ 1000 := by omega
            k_steps
            refine stop_go ?_
            (try k_extra "H:folds")
            k_dflt (refine op_use (ts := ts) ⟨by k_asm,by k_asm,by k_asm,by k_asm,by k_asm,by first | exact rfl | assumption,by ktr_room,by ktr_units⟩ hB bl hP hP10 ?_)
            intro t1 h10 tk10 F10 N10
            dsimp only [plusR]
            k_steps
            refine stop_go ?_
            (try k_extra "H:folds")
            k_dflt (refine args_use (ts := ts) ⟨by k_asm,by k_asm,by k_asm,by k_asm,by k_asm,by first | exact rfl | assumption,by ktr_room,by ktr_units⟩ hB bl hP hP10 ?_)
            intro aa vs h11 tk11 F11 N11 haa hvs
            dsimp only [plusR] at hvs
            have haa := hBL _ haa
            k_steps
            refine stop_go ?_
            (try k_extra "H:folds")
            rename Fr g₁ L₁ _ _ => F12
            rename News g₁ L₁ _ _ => N12
            refine tuple_inv (news := (fd,dictOf es ne) :: (pd,po) :: (wd,wo') :: T) (fun _ i => TwoPart (FormP w B BL f fd pd wd es ne po ca aa vs a args i)) rfl F12 (fun p hp => N12 p (.tail _ hp)) (by k_mem) ?st0 ?stm ?step ?fin
            case st0 =>
              intro I hI
              refine ⟨[(fd,dictOf es ne),(pd,po),(wd,wo')],T,rfl,off,wo',rfl,hca,hf,hBL,hpo,hD9,hpa,haa,?_,?_,?_,?_⟩
              all_goals (k_extra "H:look")
            case stm =>
              intro _ i m led zq3
              refine x2_3 zq3 ?_;(try clear zq3)
              intro ms T'
              rintro rfl
              intro _ zq4
              obtain ⟨wo2,rfl,_,_,_,_,_,_,ha',_⟩ := zq4
              exact List.mem_append_right _ ha'
            case step =>
              intro I i v it h13 tk13 m13 led hv zq5 nI F13 N13
              (try k_extra "H:fold")
              refine x2_3 zq5 ?_;(try clear zq5)
              intro ms T'
              rintro rfl
              intro off' zq6
              obtain ⟨wo2,rfl,b1,b2,b3,b4,b5,b6,b7,c1,c2,c3,c4⟩ := zq6
              dsimp only [List.cons_append,List.nil_append] at N13 nI
              have nI : AllNe I ((fd,dictOf es ne) :: (pd,po) :: (wd,wo2) :: T') := allNe_of nI
              refine x2_2 (ints_map_at (by assumption : IntsAre vs _) hv) ?_
              intro y ty hy
              rintro rfl
              have hyi := not_in_take hn hy
              have hlen : (List.map (fun (x : Nat) => ((x : Int),(1 : Int))) (args.take i)).length ≤ 3 := by rw [List.length_map,List.length_take];omega
              k_steps
              refine stop_go ?_
              (try k_extra "H:folds")
              rename News g₁ L₁ _ _ => N14
              k_dflt (refine fd_get N14 (by k_mem) b5 lo2 pin_zero fun z tk14 hz14 => ?_)
              rw [look_none hyi] at hz14
              k_steps
              refine stop_go ?_
              (try k_extra "H:folds")
              rename Fr g₁ L₁ _ _ => F15
              rename News g₁ L₁ _ _ => N15
              k_dflt (refine addp_use ⟨by k_asm,by k_asm,by k_asm,by k_asm,by k_asm,by first | exact rfl | assumption,by ktr_room,by ktr_units⟩ ⟨hz14.pairH F15 N15 (by assumption) (fun p hp => .tail _ (.tail _ (.tail _ (.tail _ hp)))),b6.pairH F15 N15 (by assumption) (fun p hp => .tail _ (.tail _ (.tail _ (.tail _ hp))))⟩ ?_)
              intro d2 t5 t6 h16 tk16 F16 N16 nd2
              dsimp only [Option.getD] at N16
              k_steps
              refine stop_go ?_
              (try k_extra "H:folds")
              k_dflt (refine' fd_set (f := 1) (T := (d2,tup [.int (0 + 1) t5,.int 1 t6]) :: T') ?qF ?qN ?qU (b5.tmono fun _ _ h => .tail _ h) ?qz (.inl ⟨t5,t6,.head _⟩) ?_;(case qF => k_asm);(case qN => k_asm);(case qU => k_updF);(case qz => omega);intro h19 wo3 tk19 F19 N19 hD19;(try dsimp only at N19))
              rw [put_new hyi,take_snoc hy] at hD19
              k_steps
              rename News g₁ _ _ _ => N20
              rename Fr g₁ _ _ _ => F20
              refine turn_two [(fd,dictOf es ne),(pd,po),(wd,wo3)] F20 N20 (fun p hp => .tail _ (reach7 hp)) ⟨nI.1,nI.2.1,nI.2.2.1,trivial⟩ fun T9 hj => ?_
              have up : ∀ p ∈ T',p ∈ T9 := fun p hp => hj p (.tail _ (.tail _ (.tail _ (.tail _ (.tail _ hp))))) ⟨Ne.symm (nI.get' hp),(off' p hp).1,(off' p hp).2.1,(off' p hp).2.2.1,trivial⟩
              have up2 : (d2,tup [.int (0 + 1) t5,.int 1 t6]) ∈ T9 := hj _ (.head _) ⟨nd2.1,nd2.2.1,nd2.2.2.1,nd2.2.2.2.1,trivial⟩
              have upT : TSub ((d2,tup [.int (0 + 1) t5,.int 1 t6]) :: T') T9 := fun a vs h => by
                rcases List.mem_cons.mp h with h | h
                · rw [h];exact up2
                · exact up _ h
              refine ⟨wo3,rfl,b1.mono up,up _ b2,fun p hp => up _ (b3 p hp),b4.tmono fun a vs h => up _ h,hD19.tmono upT,b6.mono up,up _ b7,?_,?_,?_,?_⟩
              all_goals (k_extra "H:look")
            case fin =>
              intro I h13 tk13 m13 led zq7
              refine x2_3 zq7 ?_;(try clear zq7)
              intro ms T'
              rintro rfl
              intro off' zq8
              obtain ⟨wo2,rfl,b1,b2,b3,b4,b5,b6,b7,c1,c2,c3,c4⟩ := zq8
              intro F13 N13
              rw [(by assumption : IntsAre vs _).length,List.length_map,List.take_length] at b5
              dsimp only [List.cons_append,List.nil_append] at N13
              k_steps
              rename News g₁ _ _ _ => N20
              refine while_end (n' := P) (led' := (fd,dictOf es ne) :: (pd,po) :: (wd,wo2) :: T') (by assumption) N20 (Nat.lt_succ_self _) ⟨_,[],0,⟨es,ne,ca,po,wo2,T',rfl,ML,b1,b2,b3,b4,b5,off',?_,?_,?_⟩,finv_plus ha hC (by omega) (by omega)⟩
              all_goals (k_extra "H:look")
          · refine x0_2 (q1 _ (look_mem hlM)) ?_
            intro zq9
            refine x1_2 zq9 ?_;(try clear zq9)
            intro i hi hg
            intro hMn
            dsimp only at hi hMn
            have hn' := hwo.nodup
            have hi9 : i ≤ 1000 := by omega
            rcases hg with ⟨rfl,v,srt',hr,v1,v2,hc⟩ | ⟨srt',dd,hr,hi1,hc⟩ | ⟨rfl,nn,kk,v,srt',srt2,sk,dd,hr,hrn,hrk,hk1,hk2,hnk,v1,v2,hc,hck⟩
            · dsimp only at hc
              subst hi
              k_steps
              refine stop_go ?_
              (try k_extra "H:folds")
              k_dflt (refine op_use (ts := ts) ⟨by k_asm,by k_asm,by k_asm,by k_asm,by k_asm,by first | exact rfl | assumption,by ktr_room,by ktr_units⟩ hB bl hr hi9 ?_)
              intro t1 h10 tk10 F10 N10
              dsimp only [numR]
              k_steps
              refine stop_go ?_
              (try k_extra "H:folds")
              k_dflt (refine args_use (ts := ts) ⟨by k_asm,by k_asm,by k_asm,by k_asm,by k_asm,by first | exact rfl | assumption,by ktr_room,by ktr_units⟩ hB bl hr hi9 ?_)
              intro aa vs h11 tk11 F11 N11 haa hvs
              k_steps
              refine stop_go ?_
              (try k_extra "H:folds")
              k_dflt (refine data_use (ts := ts) ⟨by k_asm,by k_asm,by k_asm,by k_asm,by k_asm,by first | exact rfl | assumption,by ktr_room,by ktr_units⟩ hB (fun p hp => List.Mem.tail _ (bl p hp)) hr hi9 ?_)
              intro dv h12 tk12 F12 N12 hdv
              dsimp only [numR,KDIn] at hdv
              refine x3_2 hdv ?_;(try clear hdv)
              intro da u1 u2
              rintro rfl
              intro hda
              k_steps
              refine stop_go ?_
              (try k_extra "H:folds")
              rename Fr g₁ L₁ _ _ => F13
              rename News g₁ L₁ _ _ => N13
              k_dflt (refine mulp_use (p := v) (q := 1) (p' := 1) (q' := 1) ⟨by k_asm,by k_asm,by k_asm,by k_asm,by k_asm,by first | exact rfl | assumption,by ktr_room,by ktr_units⟩ ⟨⟨_,_,news_tup N13 (.tail _ (bl _ hda))⟩,hpa.pairH F13 N13 (by assumption) (fun p hp => .tail _ (.tail _ (.tail _ (.tail _ hp)))),⟨v1,v2⟩,by decide,by decide,by decide⟩ ?_)
              intro d x y t3 t4 h14 tk14 F14 N14 nd hlow
              rw [Int.mul_one] at hlow
              refine x0_2 (lowest_whole hlow) ?_
              rintro rfl
              rintro rfl
              k_steps
              refine stop_go ?_
              (try k_extra "H:folds")
              k_dflt (refine' (addconst_spec w (f := f) (fd := fd) (T := (d,tup [.int x t3,.int 1 t4]) :: T) ML (.tail _ hf) (hca.mono fun _ h => .tail _ h) (.inl ⟨t3,t4,.head _⟩) ?qo).use ?S ?zh ?_;(case S => exact ⟨by k_asm,by k_asm,by k_asm,by k_asm,by k_asm,by first | exact rfl | assumption,by ktr_room,by ktr_units⟩);(case qo => exact List.forall_mem_cons.mpr ⟨⟨nd.2.1,trivial⟩,fun q hq => ⟨(off q hq).1,trivial⟩⟩);(case zh => exact fun p hp => reach1 hp))
              intro r15 led15 h15 tk15 F15 A15 zq10
              obtain ⟨es',ne',ca',T',rfl,rfl,s1,M',hca',off'⟩ := zq10
              refine x0_2 (A15.frame (ms := [(pd,po),(wd,wo')]) (fun p hp => N14 p (reach2 hp)) (frame2 d1 d2 nd.2.2.1 nd.2.2.2.1 off)) ?_
              intro N15 dj
              k_steps
              refine while_end (led' := (fd,dictOf es' ne') :: (pd,po) :: (wd,wo') :: T') (by assumption) (fun p hp => N15 p (reach3 hp)) (by omega) ⟨drp fs (i : Int),ps,c + x,⟨es',ne',ca',po,wo',T',rfl,M',hca',s1 _ (.tail _ hf),fun p hp => s1 _ (.tail _ (hBL p hp)),hpo.tmono fun a vs h => s1 _ (.tail _ h),hD9.tmono fun a vs h => s1 _ (.tail _ h),fun q hq => ⟨(off' q hq).1,Ne.symm (dj _ (.head _) q (.tail _ hq)),Ne.symm (dj _ (.tail _ (.head _)) q (.tail _ hq)),trivial⟩,?_,?_,?_⟩,finv_num hn' q1 q2 q3 q4 q5 q6 hlM hmax ⟨by omega,hMn⟩ hc⟩
              all_goals (k_extra "H:look")
            · dsimp only at hc
              have hc' : ∀ x,cf M x = if x = M then 1 else 0 := hc
              have hM : M = (i : Int) := hi
              k_steps
              refine stop_go ?_
              (try k_extra "H:folds")
              rw [hM]
              k_dflt (refine op_use (ts := ts) ⟨by k_asm,by k_asm,by k_asm,by k_asm,by k_asm,by first | exact rfl | assumption,by ktr_room,by ktr_units⟩ hB bl hr hi9 ?_)
              intro t1 h10 tk10 F10 N10
              dsimp only [varR]
              k_steps
              refine stop_go ?_
              (try k_extra "H:folds")
              rw [hM]
              k_dflt (refine args_use (ts := ts) ⟨by k_asm,by k_asm,by k_asm,by k_asm,by k_asm,by first | exact rfl | assumption,by ktr_room,by ktr_units⟩ hB bl hr hi9 ?_)
              intro aa vs h11 tk11 F11 N11 haa hvs
              k_steps
              · refine stop_go ?_
                (try k_extra "H:folds")
                k_dflt (refine' (addpart_spec w (f := f) (fd := fd) (T := T) (fs := ps) ML hf hpo hpa lo1 ?qo d1 ?qz).use ?S ?zh ?_;(case S => exact ⟨by k_asm,by k_asm,by k_asm,by k_asm,by k_asm,by first | exact rfl | assumption,by ktr_room,by ktr_units⟩);(case qo => exact fun q hq => ⟨(off q hq).1,(off q hq).2.1,trivial⟩);(case qz => omega);(case zh => exact fun p hp => reach4 hp))
                rename News g₁ L₁ _ _ => N14
                intro r15 led15 h15 tk15 F15 A15 zq11
                refine x2_5 zq11 ?_;(try clear zq11)
                intro po' T'
                rintro rfl
                rintro rfl
                intro s1 hpo' off'
                refine x0_2 (A15.frame (ms := [(wd,wo')]) (fun p hp => N14 p (by rw [List.mem_singleton.mp hp];k_mem)) (frame1 d2 d3 off)) ?_
                intro N15 dj
                clear N14
                k_steps
                refine while_end (n' := M.toNat) (led' := (fd,dictOf es ne) :: (pd,po') :: (wd,wo') :: T') (by assumption) (fun p hp => N15 p (reach5 hp)) (by omega) ⟨drp fs M,addTo ps M fM,c,⟨es,ne,ca,po',wo',T',rfl,ML,hca.mono s1,s1 _ hf,fun p hp => s1 _ (hBL p hp),hpo',hD9.tmono fun a vs h => s1 _ h,fun q hq => ⟨(off' q hq).1,(off' q hq).2.1,Ne.symm (dj _ (.head _) q (.tail _ (.tail _ hq))),trivial⟩,?_,?_,?_⟩,by have := finv_var (P := P) hn' q1 q2 q3 q4 q5 q6 hlM hmax hM hi1 hMn hr hc';rwa [if_neg (by assumption)] at this⟩
                all_goals (k_extra "H:look")
              · rename News g₁ L₁ _ _ => N14
                refine while_end (n' := M.toNat) (led' := (fd,dictOf es ne) :: (pd,po) :: (wd,wo') :: T) (by assumption) (fun p hp => N14 p (.tail _ hp)) (by omega) ⟨drp fs M,ps,c,⟨es,ne,ca,po,wo',T,rfl,ML,hca,hf,hBL,hpo,hD9,off,?_,?_,?_⟩,by have := finv_var (P := P) hn' q1 q2 q3 q4 q5 q6 hlM hmax hM hi1 hMn hr hc';rwa [if_pos (by assumption)] at this⟩
                all_goals (k_extra "H:look")
            · dsimp only at hc
              subst hi
              k_steps
              refine stop_go ?_
              (try k_extra "H:folds")
              k_dflt (refine op_use (ts := ts) ⟨by k_asm,by k_asm,by k_asm,by k_asm,by k_asm,by first | exact rfl | assumption,by ktr_room,by ktr_units⟩ hB bl hr hi9 ?_)
              intro t1 h10 tk10 F10 N10
              dsimp only [mulR]
              k_steps
              refine stop_go ?_
              (try k_extra "H:folds")
              k_dflt (refine args_use (ts := ts) ⟨by k_asm,by k_asm,by k_asm,by k_asm,by k_asm,by first | exact rfl | assumption,by ktr_room,by ktr_units⟩ hB bl hr hi9 ?_)
              intro aa vs h11 tk11 F11 N11 haa hvs
              dsimp only [mulR] at hvs
              refine x2_1 (ints_two hvs) ?_
              intro w1 w2
              rintro rfl
              have haa := hBL _ haa
              have hnl : nn ≤ 1000 := by omega
              k_steps
              refine stop_go ?_
              (try k_extra "H:folds")
              k_dflt (refine op_use (ts := ts) ⟨by k_asm,by k_asm,by k_asm,by k_asm,by k_asm,by first | exact rfl | assumption,by ktr_room,by ktr_units⟩ hB (fun p hp => List.Mem.tail _ (bl p hp)) hrn hnl ?_)
              intro t2 h12 tk12 F12 N12
              dsimp only [numR]
              k_steps
              refine stop_go ?_
              (try k_extra "H:folds")
              k_dflt (refine data_use (ts := ts) ⟨by k_asm,by k_asm,by k_asm,by k_asm,by k_asm,by first | exact rfl | assumption,by ktr_room,by ktr_units⟩ hB (fun p hp => List.Mem.tail _ (bl p hp)) hrn hnl ?_)
              intro dv h13 tk13 F13 N13 hdv
              dsimp only [numR,KDIn] at hdv
              refine x3_2 hdv ?_;(try clear hdv)
              intro da u1 u2
              rintro rfl
              intro hda
              k_steps
              refine stop_go ?_
              (try k_extra "H:folds")
              rename Fr g₁ L₁ _ _ => F14
              rename News g₁ L₁ _ _ => N14
              k_dflt (refine mulp_use (p := v) (q := 1) (p' := 1) (q' := 1) ⟨by k_asm,by k_asm,by k_asm,by k_asm,by k_asm,by first | exact rfl | assumption,by ktr_room,by ktr_units⟩ ⟨⟨_,_,news_tup N14 (.tail _ (bl _ hda))⟩,hpa.pairH F14 N14 (by assumption) (fun p hp => .tail _ (.tail _ (.tail _ (.tail _ hp)))),⟨v1,v2⟩,by decide,by decide,by decide⟩ ?_)
              intro d x y t3 t4 h15 tk15 F15 N15 nd hlow
              rw [Int.mul_one] at hlow
              refine x0_2 (lowest_whole hlow) ?_
              rintro rfl
              rintro rfl
              k_steps
              refine stop_go ?_
              (try k_extra "H:folds")
              rename News g₁ L₁ _ _ => N16
              k_dflt (refine fd_get N16 (by k_mem) hD9 lo2 pin_zero fun z tk16 hz16 => ?_)
              k_steps
              refine stop_go ?_
              (try k_extra "H:folds")
              rename Fr g₁ L₁ _ _ => F17
              rename News g₁ L₁ _ _ => N17
              k_dflt (refine addp_use ⟨by k_asm,by k_asm,by k_asm,by k_asm,by k_asm,by first | exact rfl | assumption,by ktr_room,by ktr_units⟩ ⟨hz16.pairH F17 N17 (by assumption) (fun p hp => .tail _ (.tail _ (.tail _ (.tail _ (.tail _ hp))))),⟨_,_,news_tup N17 (.head _)⟩⟩ ?_)
              intro d2 t5 t6 h18 tk18 F18 N18 nd2
              k_steps
              refine stop_go ?_
              (try k_extra "H:folds")
              k_dflt (refine' fd_set (T := (d2,tup [.int ((look (drp fs (i : Int)) (kk : Int)).getD 0 + x) t5,.int 1 t6]) :: T) ?qF ?qN ?qU (hD9.tmono fun _ _ h => .tail _ h) ?qz (.inl ⟨t5,t6,.head _⟩) ?_;(case qF => k_asm);(case qN => k_asm);(case qU => k_updF);(case qz => exact Nat.le_trans drp_len (by omega));intro h19 wo2 tk19 F19 N19 hD19;(try dsimp only at N19))
              k_steps
              rename News g₁ L₁ _ _ => N20
              have hd9 := drp_len1 hlM
              refine while_end (n' := Int.toNat (i : Int)) (led' := (fd,dictOf es ne) :: (pd,po) :: (wd,wo2) :: (d2,tup [.int ((look (drp fs (i : Int)) (kk : Int)).getD 0 + x) t5,.int 1 t6]) :: T) (by assumption) (fun p hp => N20 p (reach6 hp)) (by omega) ⟨put (drp fs (i : Int)) (kk : Int) ((look (drp fs (i : Int)) (kk : Int)).getD 0 + x),ps,c,⟨es,ne,ca,po,wo2,_,rfl,ML,hca.mono fun _ h => .tail _ h,.tail _ hf,fun p hp => .tail _ (hBL p hp),hpo.tmono fun a vs h => .tail _ h,hD19,List.forall_mem_cons.mpr ⟨⟨nd2.2.2.1,nd2.2.2.2.1,nd2.2.2.2.2.1,trivial⟩,off⟩,?_,?_,?_⟩,finv_mul hn' q1 q2 q3 q4 q5 q6 hlM hmax hMn hk1 (by omega) hrk hc hck (by omega)⟩
              all_goals (k_extra "H:look")
  ))only[↓bx_eq]
end
end
section
section
variable {prog : Program} {w : World} {A : Around} {E : Value → Shared → Prop} {s : Shared} {env : Env} {h₀ : Heap} {x : Str} {body : List Stmt} {Q : Flow → Shared → Prop}
theorem list_inv {ax : Addr} {vs : List Value} {n : Nat} {m₀ : Mp} {led : Led} (J : Nat → Mp → Led → Prop) (hh : A.handled = none) (F : Fr h₀ env.locals s.heap m₀) (N : News h₀ env.locals s.heap led) (hm : (ax,listOf vs.toArray n) ∈ led) (h0 : J 0 m₀ led) (hJm : ∀ i m led,J i m led → (ax,listOf vs.toArray n) ∈ led)
    (step : ∀ I i v it h tk m led,vs[i]? = some v → J i m led → Fr h₀ env.locals h (fun y => if y = x then some v else m y) → News h₀ env.locals h ((I,it) :: led) → AllNe I led →
      wpAny (model prog w) A (execs body env) (TurnPost h₀ env.locals { s with heap := h,toks := tk } I it (J (i + 1)) Q) E { s with heap := h,toks := tk })
    (fin : ∀ h tk m led,J vs.length m led → Fr h₀ env.locals h m → News h₀ env.locals h led → Q .next { s with heap := h,toks := tk }) :
    wpAny (model prog w) A (pyIter (.ref ax)) (fun it s₂ => LoopAtV prog w A h₀ env x body Q E it s₂) E s := by
  refine iter_listUnr hh F N hm rfl rfl fun I hI => ?_
  have go : ∀ r i m led,(∀ j,r[j]? = vs[i + j]?) → r.length + i = vs.length → J i m led → (∀ p ∈ led,p.1 ≠ I) → ListRest prog w A E h₀ env x body Q s I (ax,listOf vs.toArray n) r m led := by
    intro r
    induction r with
    | nil =>
      intro i m led _ hl j _
      have e : i = vs.length := by simpa using hl
      subst e
      exact ListRest.zero fun h tk F' N' => fin h tk m led j F' N'
    | cons v r ih =>
      intro i m led hr hl j off
      refine ListRest.succ fun it h tk hc F' N' => ?_
      have hv : vs[i]? = some v := by have := hr 0;simpa using this.symm
      have hr' : ∀ j,r[j]? = vs[(i + 1) + j]? := fun j => by
        have := hr (j + 1)
        rw [List.getElem?_cons_succ] at this
        rw [this];congr 1;omega
      have hl' : r.length + (i + 1) = vs.length := by rw [List.length_cons] at hl;omega
      refine wpAny_mono (step I i v it h tk m led hv j F' N' (allNe_of off)) (fun f s₂ p => ?_) fun _ _ e => e
      cases f with
      | ret v => exact p
      | brk => exact p
      | next =>
        refine x4_5 p ?_;(try clear p)
        intro h' tk' m' led' e1 F1 N1 o1 j1
        exact ⟨h',tk',m',led',e1,F1,N1,o1,hJm _ _ _ j1,ih (i + 1) m' led' hr' hl' j1 o1⟩
      | cont =>
        refine x4_5 p ?_;(try clear p)
        intro h' tk' m' led' e1 F1 N1 o1 j1
        exact ⟨h',tk',m',led',e1,F1,N1,o1,hJm _ _ _ j1,ih (i + 1) m' led' hr' hl' j1 o1⟩
  exact go vs 0 m₀ led (fun j => by rw [Nat.zero_add]) rfl h0 fun p hp => Nat.ne_of_lt (hI p hp)
end
noncomputable def SubAt (ps qs : List (Int × Int)) (l : List Int) (rs : List (Int × Int)) : Prop := ∀ x,(look rs x).getD 0 = (look ps x).getD 0 - if x ∈ l then (look qs x).getD 0 else 0
theorem SubAt.next {ps qs rs : List (Int × Int)} {ns : List Int} {i : Nat} {k v : Int} (h : SubAt ps qs (ns.take i) rs) (hn : ns.Nodup) (hk : ns[i]? = some k) (hv : look qs k = some v) : SubAt ps qs (ns.take (i + 1)) (addTo rs k (-v)) := fun x => by
  have hl := (List.getElem?_eq_some_iff.mp hk).1
  have hnot : k ∉ ns.take i := fun hm => by
    refine x1_1 (List.mem_iff_getElem?.mp hm) ?_
    intro j hj
    have h1 := (List.getElem?_eq_some_iff.mp hj).1
    rw [List.length_take] at h1
    rw [List.getElem?_take,if_pos (by omega)] at hj
    have := (List.getElem?_inj (by omega : j < ns.length) hn).mp (hj.trans hk.symm)
    omega
  have e : ns.take (i + 1) = ns.take i ++ [k] := by rw [List.take_add_one,hk];rfl
  rw [look_addTo,h x,e]
  by_cases hx : x = k
  · subst hx
    rw [if_neg hnot,if_pos rfl,if_pos (List.mem_append_right _ (.head _)),hv,Option.getD_some]
    omega
  · rw [if_neg hx]
    have : x ∈ ns.take i ++ [k] ↔ x ∈ ns.take i := by simp [hx]
    simp only [this]
    omega
theorem SubAt.end {ps qs rs : List (Int × Int)} {ns : List Int} (h : SubAt ps qs ns rs) (hp : ns.Perm (qs.map (·.1))) : ∀ x,(look rs x).getD 0 = (look ps x).getD 0 - (look qs x).getD 0 := fun x => by
  rw [h x]
  by_cases e : x ∈ ns
  · rw [if_pos e]
  · rw [if_neg e,look_none fun q => e (hp.mem_iff.mpr q)]
    rfl
theorem SubAt.start {ps qs : List (Int × Int)} : SubAt ps qs [] ps := fun x => by simp
theorem reach8 {a b c d e p : Addr × Obj} {T : Led} (h : p ∈ [a,b,c,d] ++ (e :: T)) : p ∈ e :: a :: b :: c :: d :: T := by
  exact subA (by k_extra "H:sub_auto") h
theorem ints_get {vs : List Value} {ns : List Int} {i : Nat} {v : Value} (h : IntsAre vs ns) (e : vs[i]? = some v) : ∃ (k : Int) (t : Tok),v = .int k t ∧ ns[i]? = some k := by
  induction h generalizing i with
  | nil => simp at e
  | cons n t _ ih =>
    cases i with
    | zero => exact ⟨n,t,by simpa using e.symm,rfl⟩
    | succ i => exact ih (by simpa using e)
theorem reach9 {d I a b c e p : Addr × Obj} {T : Led} (h : p ∈ a :: b :: d :: T) : p ∈ d :: I :: a :: b :: c :: e :: T := by
  exact subA (by k_extra "H:sub_auto") h
theorem reach10 {d I a b c e p : Addr × Obj} {T : Led} (h : p ∈ [I,c,e]) : p ∈ d :: I :: a :: b :: c :: e :: T := by
  exact subA (by k_extra "H:sub_auto") h
theorem reach11 {I a b c e p : Addr × Obj} {T : Led} (h : p ∈ [I,a,b,c,e]) : p ∈ [I,c,e] ++ (a :: b :: T) := by
  exact subA (by k_extra "H:sub_auto") h
theorem frame3 {fd pd fd2 pd2 d I : Addr} {o1 o2 o3 o4 o5 o6 : Obj} {T : Led} (nI : AllNe I ((fd,o1) :: (pd,o2) :: (fd2,o3) :: (pd2,o4) :: T)) (d1 : AllNe fd [(pd,tup []),(fd2,tup []),(pd2,tup [])]) (d2 : AllNe pd [(fd2,tup []),(pd2,tup [])]) (n1 : I ≠ d) (n2 : fd2 ≠ d) (n3 : pd2 ≠ d)
    (off : ∀ q ∈ T,AllNe q.1 [(fd,o1),(pd,o2),(fd2,o3),(pd2,o4)]) : ∀ p ∈ [(I,o6),(fd2,o3),(pd2,o4)],∀ q ∈ (fd,o1) :: (pd,o2) :: (d,o5) :: T,q.1 ≠ p.1 := fun p hp q hq => by
  simp only [List.mem_cons,List.not_mem_nil,or_false] at hp
  rcases List.mem_cons.mp hq with rfl | hq
  · rcases hp with rfl | rfl | rfl
    · exact nI.1
    · exact Ne.symm d1.2.1
    · exact Ne.symm d1.2.2.1
  · rcases List.mem_cons.mp hq with rfl | hq
    · rcases hp with rfl | rfl | rfl
      · exact nI.2.1
      · exact Ne.symm d2.1
      · exact Ne.symm d2.2.1
    · rcases List.mem_cons.mp hq with rfl | hq
      · rcases hp with rfl | rfl | rfl
        · exact Ne.symm n1
        · exact Ne.symm n2
        · exact Ne.symm n3
      · have ho := off q hq
        obtain ⟨q1,q2⟩ := q
        have hI : AllNe I T := nI.2.2.2.2
        rcases hp with rfl | rfl | rfl
        · exact hI.get hq
        · exact Ne.symm ho.2.2.1
        · exact Ne.symm ho.2.2.2.1
theorem reach12 {d d2 a b c e p : Addr × Obj} {T : Led} (h : p ∈ a :: b :: d2 :: T) : p ∈ d2 :: d :: a :: b :: c :: e :: T := by
  exact subA (by k_extra "H:sub_auto") h
structure TwoForms (w : World) (T : Led) (ts : List TRec) (f fd pd f2 fd2 pd2 : Addr) : Prop where
  i1 : (f,instObj 740 fd) ∈ T
  i2 : (f2,instObj 740 fd2) ∈ T
  off : ∀ q ∈ T,AllNe q.1 [(fd,tup []),(pd,tup []),(fd2,tup []),(pd2,tup [])]
structure Dist4 (a b c d : Addr) : Prop where
  d1 : AllNe a [(b,tup []),(c,tup []),(d,tup [])]
  d2 : AllNe b [(c,tup []),(d,tup [])]
  d3 : AllNe c [(d,tup [])]
inductive AddJ (w : World) (T₀ : Led) (ts : List TRec) (f : Addr) (fd : Addr) (pd : Addr) (f2 : Addr) (fd2 : Addr) (pd2 : Addr) (D : Addr) (es : List DictEntry) (es2 : List DictEntry) (ne : Nat) (ne2 : Nat) (po2 : Obj) (ps : List (Int × Int)) (qs : List (Int × Int)) (ns : List Int) (vs : List Value) (n : Nat) (fa : Value) (i : Nat) (m : Mp) (ms : Led) (T : Led) : Prop
  | mk (po : Obj) (rs : List (Int × Int)) (cc1 : ms = [(fd,dictOf es ne),(pd,po),(fd2,dictOf es2 ne2),(pd2,po2)]) (cc2 : (∀ p ∈ T₀,p ∈ T)) (cc3 : (D,listOf vs.toArray n) ∈ T) (cc4 : FS w T po rs) (cc5 : SubAt ps qs (ns.take i) rs) (cc6 : PsOk ts rs) (cc7 : rs.length ≤ 300 + i) (cc8 : m (Str.ofString "self") = some (.ref f)) (cc9 : m (Str.ofString "other") = some (.ref f2)) (cc10 : m (Str.ofString "factor") = some fa) : AddJ w T₀ ts f fd pd f2 fd2 pd2 D es es2 ne ne2 po2 ps qs ns vs n fa i m ms T
section
theorem g19.on19 : True := trivial
open g19
theorem set_49 : True := by
  k_with "!pyIter ref" => ((fail_if_success(fail_if_success have:=on19));(k_here;refine stop_at ?_))
  k_with "!call ref" => ((fail_if_success(fail_if_success have:=on19));(k_here;(with_reducible show wpAny _ _ (call (Value.ref 119) _) _ _ _);refine stop_at ?_))
  k_with "!call ref" => ((fail_if_success(fail_if_success have:=on19));(k_here;(with_reducible show wpAny _ _ (call (Value.ref 140) _) _ _ _);refine stop_at ?_))
  k_with "!call ref" => ((fail_if_success(fail_if_success have:=on19));(k_here;(with_reducible show wpAny _ _ (call (Value.ref 711) _) _ _ _);refine stop_at ?_))
  k_with "!call builtin:sorted" => ((fail_if_success(fail_if_success have:=on19));(k_here;refine stop_at ?_))
  k_with "!getAttr ref" => ((fail_if_success(fail_if_success have:=on19));(k_here;k_dflt (refine' get_own ?q9k1 ?q9k2 ?q9k3 ?q9k4 ?q9k5 ?q9k6 ?q9k7 ?q9k8 ?q9k9 ?_;(case q9k1 => k_asm);(case q9k2 => k_asm);(case q9k3 => k_inst);(case q9k4 => k_is);(case q9k5 => k_is);(case q9k6 => k_is);(case q9k7 => k_is);(case q9k8 => with_reducible first | exact LFE.gp (by assumption) | exact LFE.gc (by assumption));(case q9k9 => k_handed);k_whole)))
  k_with "!getMethod ref" => ((fail_if_success(fail_if_success have:=on19));(k_here;(with_reducible show wpAny _ _ (getMethod (Value.ref _) _ _) _ _ _);k_dflt (refine' method_inst ?q9k1 ?q9k2 ?q9k3 ?q9k4 ?q9k5 ?q9k6 ?q9k7 ?_;(case q9k1 => k_asm);(case q9k2 => k_asm);(case q9k3 => k_inst);(case q9k4 => k_is);(case q9k5 => k_is);(case q9k6 => k_is);(case q9k7 => exact LFE.nm (by assumption) _ (by decide +kernel));k_whole)))
  k_with "!subscriptTail" => ((fail_if_success(fail_if_success have:=on19));(k_here;(with_reducible show wpAny _ _ (subscriptTail (Expr.Attribute _ _ _) _ _ _) _ _ _);refine stop_at ?_))
  k_with "!setAttr ref" => ((fail_if_success(fail_if_success have:=on19));(k_here;k_dflt (refine' set_dict ?q9k1 ?q9k2 ?q9k3 ?q9k4 ?q9k5 ?q9k6 ?q9k7 ?q9k8 ?q9k9 ?q9k10 ?q9k11 ?q9k12 ?q9k13 ?_;(case q9k1 => k_asm);(case q9k2 => k_asm);(case q9k3 => k_asm);(case q9k4 => k_inst);(case q9k5 => exact rfl);(case q9k6 => k_is);(case q9k7 => k_is);(case q9k8 => k_is);(case q9k9 => k_is);(case q9k10 => (rw [getL_of (by assumption)];rfl));(case q9k11 => exact rfl);(case q9k12 => k_upd);(case q9k13 => exact Nat.le_trans putL_len (by omega));k_whole;intro _ _ _;(try k_sweep))))
  exact trivial
inductive AddformR46 (w : World) (fd : Addr) (pd : Addr) (T : Led) (ts : List TRec) (ps : List (Int × Int)) (qs : List (Int × Int)) (c : Int) (c2 : Int) (r : Value) (led' : Led) : Prop
  | mk (es' : List DictEntry) (ne' : Nat) (ca' : Addr) (po' : Obj) (T' : Led) (rs : List (Int × Int)) (cc1 : r = .none) (cc2 : led' = (fd,dictOf es' ne') :: (pd,po') :: T') (cc3 : (∀ p ∈ T,p ∈ T')) (cc4 : LFE es' pd ca') (cc5 : PIn T' ca' (c - c2)) (cc6 : FS w T' po' rs) (cc7 : PsOk ts rs) (cc8 : (∀ x,(look rs x).getD 0 = (look ps x).getD 0 - (look qs x).getD 0)) (cc9 : rs.length ≤ 400) (cc10 : ∀ q ∈ T',AllNe q.1 [(fd,tup []),(pd,tup [])]) : AddformR46 w fd pd T ts ps qs c c2 r led'
theorem addform_spec (w : World) {f fd pd f2 fd2 pd2 ca ca2 : Addr} {es es2 : List DictEntry} {ne ne2 : Nat} {po po2 : Obj} {T : Led} {ts : List TRec} {ps qs : List (Int × Int)} {c c2 : Int} (M : LFE es pd ca) (M2 : LFE es2 pd2 ca2) (H : TwoForms w T ts f fd pd f2 fd2 pd2) (D : Dist4 fd pd fd2 pd2) (lo : (pd == sysModules) = false) (lo2 : (pd2 == sysModules) = false)
    (hD : FS w T po ps) (hD2 : FS w T po2 qs) (hc : PIn T ca c) (hc2 : PIn T ca2 c2) (h1 : PsOk ts ps) (h2 : PsOk ts qs) (hz1 : ps.length ≤ 300) (hz2 : qs.length ≤ 60) (hb : ∀ k v,look qs k = some v → -1000 ≤ v ∧ v ≤ 1000) (hb2 : -1000 ≤ c2 ∧ c2 ≤ 1000) :
    Spec w 725 [.ref f,.ref f2,.ref 91] 6 120 ((fd,dictOf es ne) :: (pd,po) :: (fd2,dictOf es2 ne2) :: (pd2,po2) :: T) (AddformR46 w fd pd T ts ps qs c c2) := by
  apply bx;simp(disch:=k_dflt(
  unfold Spec
  intro dp un gd cn cs a₁ ccd ce outer A₀ base h₀ L m mean mg mb s Q E B' F X N Tp hk hd hu hret
  obtain ⟨d1,d2,d3⟩ := D
  have i1 := H.i1
  have i2 := H.i2
  have off := H.off
  k_dflt (apply call_at (binds := [(Str.ofString "self",Value.ref f),(Str.ofString "other",Value.ref f2),(Str.ofString "factor",Value.ref 91)]));k_extra "H:o_rest"
  k_steps
  refine stop_go ?_
  (try k_extra "H:folds")
  rename Fr _ _ _ _ => F9
  rename News _ _ _ _ => N9
  k_dflt (refine fd_sorted rfl F9 N9 (by k_mem) hD2 lo2 hz2 fun Dl vs ns n h9 tk9 F10 N10 l10 hvs hperm _ => ?_)
  have hnn : ns.Nodup := hperm.nodup_iff.mpr hD2.nodup
  have hvl := hvs.length
  have hnl : ns.length ≤ 60 := by have := hperm.length_eq;rw [List.length_map] at this;omega
  k_steps
  refine stop_go ?_
  (try k_extra "H:folds")
  rename Fr _ _ _ _ => F11
  rename News _ _ _ _ => N11
  refine list_inv (led := [(fd,dictOf es ne),(pd,po),(fd2,dictOf es2 ne2),(pd2,po2)] ++ ((Dl,listOf vs.toArray n) :: T)) (fun i => TwoPart (AddJ w T ts f fd pd f2 fd2 pd2 Dl es es2 ne ne2 po2 ps qs ns vs n (.ref 91) i)) rfl F11 (fun p hp => N11 p (reach8 hp)) (by k_mem) ?st0 ?stm ?step ?fin
  case st0 =>
    refine ⟨_,_,rfl,List.forall_mem_cons.mpr ⟨⟨?_,?_,?_,?_,trivial⟩,off⟩,po,ps,rfl,fun p hp => .tail _ hp,.head _,hD.tmono fun _ _ h => .tail _ h,SubAt.start,h1,by omega,?_,?_,?_⟩
    all_goals first | exact Nat.ne_of_lt (allLt_mem l10 _ (by k_mem)) | with_unfolding_all rfl
  case stm =>
    intro i m led zq1
    refine x2_3 zq1 ?_;(try clear zq1)
    intro ms T'
    rintro rfl
    intro _ zq2
    obtain ⟨po',rs,rfl,_,hm,_⟩ := zq2
    exact List.mem_append_right _ hm
  case step =>
    intro I i v it h13 tk13 m13 led hv zq3 F13 N13 nI
    (try k_extra "H:fold")
    refine x2_3 zq3 ?_;(try clear zq3)
    intro ms T'
    rintro rfl
    intro off' zq4
    obtain ⟨po',rs,rfl,b1,b2,b3,b4,b5,b6,c1,c2',c3⟩ := zq4
    dsimp only [List.cons_append,List.nil_append] at N13 nI
    have i1 := b1 _ i1
    have i2 := b1 _ i2
    refine x2_2 (ints_get hvs hv) ?_
    intro k tk
    rintro rfl
    intro hk
    have hki : k ∈ qs.map (·.1) := hperm.mem_iff.mp (List.mem_of_getElem? hk)
    refine x1_1 (look_some hki) ?_
    intro v2 hv2
    have hil := (List.getElem?_eq_some_iff.mp hk).1
    k_steps
    refine stop_go ?_
    (try k_extra "H:folds")
    rename News _ _ _ _ => N14
    k_dflt (refine fd_item N14 (by k_mem) (hD2.tmono fun _ _ h => b1 _ h) hv2 (fun a2 tk14 ha2 => ?_) (by with_unfolding_all rfl))
    k_steps
    refine stop_go ?_
    (try k_extra "H:folds")
    rename Fr _ _ _ _ => F15
    rename News _ _ _ _ => N15
    k_dflt (refine mulp_use (p := v2) (q := 1) (p' := -1) (q' := 1) ⟨by k_asm,by k_asm,by k_asm,by k_asm,by k_asm,by first | exact rfl | assumption,by ktr_room,by ktr_units⟩ ⟨ha2.pin.pairH F15 N15 (by assumption) (fun p hp => .tail _ (.tail _ (.tail _ (.tail _ (.tail _ hp))))),(pin_minus (T := T')).pairH F15 N15 (by assumption) (fun p hp => .tail _ (.tail _ (.tail _ (.tail _ (.tail _ hp))))),hb _ _ hv2,by decide,by decide,by decide⟩ ?_)
    intro d x y t3 t4 h16 tk16 F16 N16 nd hlow
    rw [Int.mul_one] at hlow
    refine x0_2 (lowest_whole hlow) ?_
    rintro rfl
    rintro rfl
    rw [Int.mul_neg_one] at N16
    k_steps
    refine stop_go ?_
    (try k_extra "H:folds")
    k_dflt (refine' (addpart_spec w (f := f) (fd := fd) (T := (d,tup [.int (-v2) t3,.int 1 t4]) :: T') (fs := rs) M (.tail _ i1) (b3.tmono fun _ _ h => .tail _ h) (.inl ⟨t3,t4,.head _⟩) lo ?qo (Ne.symm d1.1) ?qz).use ?S ?zh ?_;(case S => exact ⟨by k_asm,by k_asm,by k_asm,by k_asm,by k_asm,by first | exact rfl | assumption,by ktr_room,by ktr_units⟩);(case qo => exact List.forall_mem_cons.mpr ⟨⟨nd.2.1,nd.2.2.1,trivial⟩,fun q hq => ⟨(off' q hq).1,(off' q hq).2.1,trivial⟩⟩);(case qz => omega);(case zh => exact fun p hp => reach9 hp))
    intro r15 led15 h15 tk15 F17 A17 zq5
    refine x2_5 zq5 ?_;(try clear zq5)
    intro po3 T3
    rintro rfl
    rintro rfl
    intro s1 hD3 off3
    refine x0_2 (A17.frame (ms := [(I,it),(fd2,dictOf es2 ne2),(pd2,po2)]) (fun p hp => N16 p (reach10 hp)) (frame3 nI d1 d2 nd.1 nd.2.2.2.1 nd.2.2.2.2.1 off')) ?_
    intro N17 dj
    clear N16
    k_steps
    refine turn_two [(fd,dictOf es ne),(pd,po3),(fd2,dictOf es2 ne2),(pd2,po2)] (by assumption) N17 (fun p hp => reach11 hp) ⟨nI.1,nI.2.1,nI.2.2.1,nI.2.2.2.1,trivial⟩ fun T9 hj => ?_
    have up : ∀ p ∈ T3,p ∈ T9 := fun p hp => hj p (List.mem_append_right _ (.tail _ (.tail _ hp))) ⟨Ne.symm (dj _ (.head _) p (.tail _ (.tail _ hp))),(off3 p hp).1,(off3 p hp).2.1,Ne.symm (dj _ (.tail _ (.head _)) p (.tail _ (.tail _ hp))),Ne.symm (dj _ (.tail _ (.tail _ (.head _))) p (.tail _ (.tail _ hp))),trivial⟩
    refine x3_2 ((h2 _ (look_mem hv2)).2) ?_
    intro jk srt dd ek er
    dsimp only at ek
    subst ek
    refine ⟨po3,_,rfl,fun p hp => up p (s1 _ (.tail _ (b1 p hp))),up _ (s1 _ (.tail _ b2)),hD3.tmono fun _ _ h => up _ h,b4.next hnn hk hv2,b5.addTo er,Nat.le_trans addTo_len (by omega),?_,?_,?_⟩
    all_goals (k_extra "H:look")
  case fin =>
    intro h13 tk13 m13 led zq6
    refine x2_3 zq6 ?_;(try clear zq6)
    intro ms T'
    rintro rfl
    intro off' zq7
    obtain ⟨po',rs,rfl,b1,b2,b3,b4,b5,b6,c1,c2',c3⟩ := zq7
    intro F13 N13
    dsimp only [List.cons_append,List.nil_append] at N13
    rw [hvl,List.take_length] at b4
    have i1 := b1 _ i1
    have i2 := b1 _ i2
    have nr := M.nr
    have mz := M.hz
    k_steps
    refine stop_go ?_
    (try k_extra "H:folds")
    rename Fr _ _ _ _ => F14
    rename News _ _ _ _ => N14
    k_dflt (refine mulp_use (p := c2) (q := 1) (p' := -1) (q' := 1) ⟨by k_asm,by k_asm,by k_asm,by k_asm,by k_asm,by first | exact rfl | assumption,by ktr_room,by ktr_units⟩ ⟨hc2.pairH F14 N14 (by assumption) (fun p hp => .tail _ (.tail _ (.tail _ (.tail _ (b1 p hp))))),(pin_minus (T := T')).pairH F14 N14 (by assumption) (fun p hp => .tail _ (.tail _ (.tail _ (.tail _ hp)))),hb2,by decide,by decide,by decide⟩ ?_)
    intro d x y t3 t4 h16 tk16 F16 N16 nd hlow
    rw [Int.mul_one] at hlow
    refine x0_2 (lowest_whole hlow) ?_
    rintro rfl
    rintro rfl
    rw [Int.mul_neg_one] at N16
    k_steps
    refine stop_go ?_
    (try k_extra "H:folds")
    rename Fr _ _ _ _ => F17
    rename News _ _ _ _ => N17
    k_dflt (refine addp_use ⟨by k_asm,by k_asm,by k_asm,by k_asm,by k_asm,by first | exact rfl | assumption,by ktr_room,by ktr_units⟩ ⟨hc.pairH F17 N17 (by assumption) (fun p hp => .tail _ (.tail _ (.tail _ (.tail _ (.tail _ (b1 p hp)))))),⟨_,_,news_tup N17 (.head _)⟩⟩ ?_)
    intro d2 t5 t6 h18 tk18 F18 N18 nd2
    k_steps
    exact hret _ ((fd,_) :: (pd,po') :: (d2,tup [.int (c + -c2) t5,.int 1 t6]) :: T') _ _ (by assumption) ((after_of (by assumption) (by assumption) (by assumption) (by assumption)).sub fun p hp => reach12 hp) ⟨_,_,d2,po',_,rs,rfl,rfl,fun p hp => .tail _ (b1 p hp),M.put,.inl ⟨t5,t6,by rw [Int.sub_eq_add_neg];exact .head _⟩,b3.tmono fun _ _ h => .tail _ h,b5,b4.end hperm,by omega,List.forall_mem_cons.mpr ⟨⟨nd2.2.1,nd2.2.2.1,trivial⟩,fun q hq => ⟨(off' q hq).1,(off' q hq).2.1,trivial⟩⟩⟩
  ))only[↓bx_eq]
end
end
section
theorem two_keys {l : List Int} (hn : l.Nodup) (h : ∀ x ∈ l,x = 3 ∨ x = 4) : l.length ≤ 2 := by
  cases l with
  | nil => exact Nat.zero_le _
  | cons a r =>
    cases r with
    | nil => exact Nat.le_succ _
    | cons b r =>
      cases r with
      | nil => exact Nat.le_refl _
      | cons c r =>
        exfalso
        simp only [List.nodup_cons,List.mem_cons,not_or] at hn
        have h1 := h a (.head _)
        have h2 := h b (.tail _ (.head _))
        have h3 := h c (.tail _ (.tail _ (.head _)))
        omega
noncomputable def VarsOk (ts : List TRec) : Prop := ∀ (i : Nat) (srt d : Int),ts[i]? = some (varR srt d) → i = 3 ∨ i = 4
theorem psok_len {ts : List TRec} {ps : List (Int × Int)} (h : PsOk ts ps) (hn : (ps.map (·.1)).Nodup) (hv : VarsOk ts) : ps.length ≤ 2 := by
  have := two_keys hn fun x hx => by
    refine x1_2 (List.mem_map.mp hx) ?_
    intro y hy
    rintro rfl
    refine x3_2 ((h y hy).2) ?_
    intro i srt d e1 e2
    have := hv i srt d e2
    omega
  simpa using this
noncomputable def termsOf (rs : List (Int × Int)) (ns : List Int) : List Term3 := ns.map fun k => (k,(look rs k).getD 0,1)
theorem termsOf_take {rs : List (Int × Int)} {ns : List Int} {i : Nat} {k v : Int} (hk : ns[i]? = some k) (hv : look rs k = some v) : termsOf rs (ns.take (i + 1)) = termsOf rs (ns.take i) ++ [(k,v,1)] := by
  rw [termsOf,List.take_add_one,hk,List.map_append]
  simp [termsOf,hv]
section
open LCg LCp
variable {prog : Program} {w : World} {A : Around} {h₀ : Heap} {L : Addr} {m : Mp} {env : Env}
theorem compEnd_one {x : Addr × Obj} {I C D : Addr} {s₁ : Shared} {oI oC oD : Obj} {S : Led → Prop} {rest : Value → Led → Prop} {v : Value} {h' : Heap} {tk : Nat} {led : Led}
    (F : Fr h₀ L h' m) (N : News h₀ L h' (x :: (I,oI) :: (C,oC) :: (D,oD) :: led)) (off : Off3 I C D led) (nx : (@Ne Nat x.1 I) ∧ (@Ne Nat x.1 C) ∧ (@Ne Nat x.1 D))
    (hS : S (x :: led)) (r : rest v (x :: led)) : CompEnd h₀ L m s₁ I oI C oC D oD S rest v { s₁ with heap := h',toks := tk } :=
  CompEnd.intro F N (x :: led) (fun p hp => by
    exact subA (by k_extra "H:sub_auto") hp) ⟨nx,off⟩ hS r
end
section
theorem g20.on20 : True := trivial
open g20
theorem set_50 : True := by
  k_with "!pyIter ref" => ((fail_if_success(fail_if_success have:=on20));(k_here;refine stop_at ?_))
  k_with "!eval ListComp" => ((fail_if_success(fail_if_success have:=on20));(k_here;k_dflt (refine LCg.ListComp_U (F₀ := by k_asm) (by with_unfolding_all rfl) (by decide) (by rfl) (by decide) (by rfl) ?_)))
  k_with "!CompSrc" => ((fail_if_success(fail_if_success have:=on20));(k_here;refine stop_at ?_))
  k_with "!call builtin:sorted" => ((fail_if_success(fail_if_success have:=on20));(k_here;refine stop_at ?_))
  k_with "!getAttr ref" => ((fail_if_success(fail_if_success have:=on20));(k_here;k_dflt (refine' get_own ?q9k1 ?q9k2 ?q9k3 ?q9k4 ?q9k5 ?q9k6 ?q9k7 ?q9k8 ?q9k9 ?_;(case q9k1 => k_asm);(case q9k2 => k_asm);(case q9k3 => k_inst);(case q9k4 => k_is);(case q9k5 => k_is);(case q9k6 => k_is);(case q9k7 => k_is);(case q9k8 => with_reducible first | exact LFE.gp (by assumption) | exact LFE.gc (by assumption));(case q9k9 => k_handed);k_whole)))
  k_with "!subscriptTail" => ((fail_if_success(fail_if_success have:=on20));(k_here;(with_reducible show wpAny _ _ (subscriptTail (Expr.Attribute _ _ _) _ _ _) _ _ _);refine stop_at ?_))
  exact trivial
theorem sortedparts_spec (w : World) {f fd pd ca : Addr} {es : List DictEntry} {ne : Nat} {po : Obj} {T : Led} {rs : List (Int × Int)} (M : LFE es pd ca) (i1 : (f,instObj 740 fd) ∈ T) (lo : (pd == sysModules) = false) (hD : FS w T po rs) (off : ∀ q ∈ T,AllNe q.1 [(fd,tup []),(pd,tup [])]) (hz : rs.length ≤ 2) (hfp : fd ≠ pd) :
    Spec w 730 [.ref f] 3 60 ((fd,dictOf es ne) :: (pd,po) :: T) fun r led' => ∃ ta ns,r = .ref ta ∧ (∀ p ∈ (fd,dictOf es ne) :: (pd,po) :: T,p ∈ led') ∧ ns.Perm (rs.map (·.1)) ∧ ns.Pairwise (· ≤ ·) ∧ TermsAt led' ta (termsOf rs ns) := by
  apply bx;simp(disch:=k_dflt(
  unfold Spec
  intro dp un gd cn cs a₁ ccd ce outer A₀ base h₀ L m mean mg mb s Q E B' F X N Tp hk hd hu hret
  k_dflt (apply call_atC (binds := [(Str.ofString "self",Value.ref f)]));k_extra "H:ktr_rest"
  rename_i g₁ L₁ h₁ tk₁ FG₁ F₁ X₁ T₁ z₁ oS dS
  k_steps
  refine stop_go ?_
  (try k_extra "H:folds")
  k_dflt (refine fd_sorted rfl F₁ N₁ (by k_mem) hD lo (by omega) fun Dl vs ns n h9 tk9 F10 N10 l10 hvs hperm hsrt => ?_)
  have hvl := hvs.length
  have hnl : ns.length ≤ 2 := by have := hperm.length_eq;rw [List.length_map] at this;omega
  refine LCg.CompSrc.ledger (its := vs.toArray) (k := n) (by rfl) F10 N10 (.head _) (by rw [List.size_toArray,sizeLine_eq];omega) fun g => ?_
  have e1 : vs.toArray.size = vs.length := by simp
  rw [e1]
  refine comp_inv0 (fun l₀ i ys led => (∀ p ∈ l₀,p ∈ led) ∧ TermsIn led ys (termsOf rs (ns.take i))) ⟨sub_refl,.nil⟩ ?step ?fin
  case step =>
    intro i ys led v hi zq1
    refine x0_2 zq1 ?_;(try clear zq1)
    intro hs hT
    intro hv I oI C oC D m₂ h tk E' hC hx F1 N1 off ne9
    (try k_extra "H:fold")
    have i1 := hs (f,instObj 740 fd) (by k_mem)
    have i2 := hs (fd,dictOf es ne) (by k_mem)
    have i3 := hs (pd,po) (by k_mem)
    have i4 := hs (L₁ + 1,oS) (by k_mem)
    have i5 := hs (Dl,listOf vs.toArray n) (by k_mem)
    refine x2_2 (ints_get hvs (by simpa using hv)) ?_
    intro k tk
    rintro rfl
    intro hk
    refine x1_1 (look_some (hperm.mem_iff.mp (List.mem_of_getElem? hk))) ?_
    intro v2 hv2
    k_steps
    refine stop_go ?_
    (try k_extra "H:folds")
    k_dflt (refine fd_item (T := led) N1 (by k_mem) (hD.tmono fun _ _ h => hs _ (.tail _ (.tail _ (.tail _ (.tail _ h))))) hv2 (fun a2 tk14 ha2 => ?_) (by with_unfolding_all rfl))
    obtain ⟨t1,t2,ha2⟩ : ∃ t1 t2 : Tok,(a2,tup [.int v2 t1,.int 1 t2]) ∈ led := by
      rcases ha2 with h | ⟨h,_⟩
      · exact h
      · cases h
    k_steps
    refine stop_go ?_
    (try k_extra "H:folds")
    exact compEnd_one (by assumption) (by assumption) off ⟨by k_ne,by k_ne,by k_ne⟩ (.inr ⟨_,.tail _ i5,rfl,_,rfl⟩) ⟨fun p hp => .tail _ (hs p hp),by
      rw [termsOf_take hk hv2]
      exact (hT.mono (sub_tail sub_refl)).snoc (.head _) (.tail _ ha2)⟩
  case fin =>
    intro ys led zq2
    refine x0_2 zq2 ?_;(try clear zq2)
    intro hs hT
    rw [hvl,List.take_length] at hT
    have hyl : ys.length ≤ 16384 := by rw [hT.length,termsOf,List.length_map];omega
    k_steps
    exact hret _ _ _ _ (by assumption) (after_of (by assumption) (by assumption) (by assumption) (by assumption)) ⟨_,ns,rfl,fun p hp => .tail _ (.tail _ (hs p (.tail _ (.tail _ hp)))),hperm,hsrt,ys,.head _,hT.mono (sub_tail (sub_tail sub_refl))⟩
  ))only[↓bx_eq]
end
end
section
section
section
theorem g21.on21 : True := trivial
open g21
theorem set_51 : True := by
  k_with "!subscriptTail" => ((fail_if_success(fail_if_success have:=on21));(k_here;(with_reducible show wpAny _ _ (subscriptTail _ _ (Value.ref _) (Value.int _ _)) _ _ _);k_dflt (refine' item_tupleT ?q9kt ?q9ka ?q9kb ?q9kc ?q9kd ?_;(case q9kt => exact tup_keep (by assumption) (by assumption));(case q9ka => decide);(case q9kb => decide);(case q9kc => rfl);(case q9kd => rfl);k_whole)))
  exact trivial
theorem negp_raw {a : Addr} {p q : Int} (Z : Sit w dp un cs outer A₀ base h₀ L m mean mg mb s [] 1 8) (ha : PairH s.heap a p q)
    (ret : ∀ d t1 t2 h' tk',Fr h₀ L h' m → After h₀ L s.heap [] h' [(d,tup [.int (-p) t1,.int q t2])] → Q (.ref d) { s with heap := h',toks := tk' }) :
    wpAny (model PG w) (ktrTop dp un gd cn cs L a₁ ccd ce outer) (call (.ref 126) [.ref a]) Q E s := by
  apply bx;simp(disch:=k_dflt(
  obtain ⟨B,F,X,N,T,hk,hd,hu⟩ := Z
  refine x2_1 ha ?_;(try clear ha)
  intro u1 u2 ha
  k_dflt (apply call_at (binds := [(Str.ofString "a",Value.ref a)]));k_extra "H:o_rest"
  rename Froz _ _ _ => z
  have ta := z.tup ha
  k_steps
  exact ret _ _ _ _ _ (by assumption) (after_of (by assumption) (by assumption) (by assumption) (by assumption))
  ))only[↓bx_eq]
end
theorem negp_use {a : Addr} {p q : Int} (Z : Sit w dp un cs outer A₀ base h₀ L m mean mg mb s all 1 8) (ha : PairH s.heap a p q)
    (ret : ∀ d t1 t2 h' tk',Fr h₀ L h' m → News h₀ L h' ((d,tup [.int (-p) t1,.int q t2]) :: all) → AllNe d all → Q (.ref d) { s with heap := h',toks := tk' }) :
    wpAny (model PG w) (ktrTop dp un gd cn cs L a₁ ccd ce outer) (call (.ref 126) [.ref a]) Q E s :=
  negp_raw Z.nil ha fun d t1 t2 h' tk' F' A' => ret d t1 t2 h' tk' F' (A'.cons (A'.pure Z.N (fun _ hp => nomatch hp) (fun _ hp => nomatch hp)) (.head _)) (allNe_of (A'.ne (.head _) ne_nil Z.N))
end
theorem reach13 {a b p : Addr × Obj} {T : Led} (h : p ∈ [a,b]) : p ∈ a :: b :: T := by
  exact subA (by k_extra "H:sub_auto") h
theorem frame4 {fd pd : Addr} {o1 o2 : Obj} {T : Led} {p q : Addr × Obj} (off : ∀ q ∈ T,AllNe q.1 [(fd,tup []),(pd,tup [])]) (hp : p ∈ [(fd,o1),(pd,o2)]) (hq : q ∈ T) : q.1 ≠ p.1 := by
  simp only [List.mem_cons,List.not_mem_nil,or_false] at hp
  rcases hp with rfl | rfl
  · exact Ne.symm (off q hq).1
  · exact Ne.symm (off q hq).2.1
theorem news_join {g h : Heap} {L : Addr} {a b c d : Addr × Obj} {T1 T2 : Led} (N1 : News g L h (a :: b :: T1)) (N2 : News g L h (c :: d :: T2)) : News g L h (a :: b :: c :: d :: (T2 ++ T1)) := fun p hp => by
  rcases List.mem_append.mp (show p ∈ [a,b] ++ ((c :: d :: T2) ++ T1) from hp) with h | h
  · exact N1 p (List.mem_append_left T1 h)
  · rcases List.mem_append.mp h with h | h
    · exact N2 p h
    · exact N1 p (.tail _ (.tail _ h))
theorem frame5 {fd pd fd2 pd2 : Addr} {o1 o2 o3 o4 : Obj} {T1 T2 : Led} (off1 : ∀ q ∈ T1,AllNe q.1 [(fd,tup []),(pd,tup [])]) (off2 : ∀ q ∈ T2,AllNe q.1 [(fd2,tup []),(pd2,tup [])]) (dj : ∀ p ∈ [(fd,o1),(pd,o2)],∀ q ∈ (fd2,o3) :: (pd2,o4) :: T2,q.1 ≠ p.1)
    (n1 : ∀ p ∈ (fd,o1) :: (pd,o2) :: T1,p.1 ≠ fd2) (n2 : ∀ p ∈ (fd,o1) :: (pd,o2) :: T1,p.1 ≠ pd2) : ∀ q ∈ T2 ++ T1,AllNe q.1 [(fd,tup []),(pd,tup []),(fd2,tup []),(pd2,tup [])] := fun q hq => by
  rcases List.mem_append.mp hq with h | h
  · exact ⟨Ne.symm (dj _ (.head _) q (.tail _ (.tail _ h))),Ne.symm (dj _ (.tail _ (.head _)) q (.tail _ (.tail _ h))),(off2 q h).1,(off2 q h).2.1,trivial⟩
  · exact ⟨(off1 q h).1,(off1 q h).2.1,Ne.symm (n1 q (.tail _ (.tail _ h))),Ne.symm (n2 q (.tail _ (.tail _ h))),trivial⟩
inductive PlusOk (ts : List TRec) (P : Nat) (C : Int → Int) : Prop
  | mk (srt : Int) (args : List Nat) (cf : Int → Int → Int) (cc1 : ts[P]? = some (plusR (args.map fun (a : Nat) => (a : Int)) srt)) (cc2 : P ≤ 150) (cc3 : (∀ a ∈ args,GoodT ts cf (a : Int) 1 ∧ a < P)) (cc4 : (∀ x,C x = (args.map fun (a : Nat) => cf (a : Int) x).sum)) (cc5 : args.Nodup) (cc6 : (args.length = 2 ∨ args.length = 3)) : PlusOk ts P C
section
theorem g22.on22 : True := trivial
open g22
theorem set_52 : True := by
  k_with "!call ref" => ((fail_if_success(fail_if_success have:=on22));(k_here;(with_reducible show wpAny _ _ (call (Value.ref 751) _) _ _ _);refine stop_at ?_))
  k_with "!call ref" => ((fail_if_success(fail_if_success have:=on22));(k_here;(with_reducible show wpAny _ _ (call (Value.ref 725) _) _ _ _);refine stop_at ?_))
  k_with "!call ref" => ((fail_if_success(fail_if_success have:=on22));(k_here;(with_reducible show wpAny _ _ (call (Value.ref 730) _) _ _ _);refine stop_at ?_))
  k_with "!call ref" => ((fail_if_success(fail_if_success have:=on22));(k_here;(with_reducible show wpAny _ _ (call (Value.ref 126) _) _ _ _);refine stop_at ?_))
  k_with "!getAttr ref" => ((fail_if_success(fail_if_success have:=on22));(k_here;k_dflt (refine' get_own ?q9k1 ?q9k2 ?q9k3 ?q9k4 ?q9k5 ?q9k6 ?q9k7 ?q9k8 ?q9k9 ?_;(case q9k1 => k_asm);(case q9k2 => k_asm);(case q9k3 => k_inst);(case q9k4 => k_is);(case q9k5 => k_is);(case q9k6 => k_is);(case q9k7 => k_is);(case q9k8 => with_reducible first | exact LFE.gp (by assumption) | exact LFE.gc (by assumption));(case q9k9 => k_handed);k_whole)))
  k_with "!getMethod ref" => ((fail_if_success(fail_if_success have:=on22));(k_here;(with_reducible show wpAny _ _ (getMethod (Value.ref _) _ _) _ _ _);k_dflt (refine' method_inst ?q9k1 ?q9k2 ?q9k3 ?q9k4 ?q9k5 ?q9k6 ?q9k7 ?_;(case q9k1 => k_asm);(case q9k2 => k_asm);(case q9k3 => k_inst);(case q9k4 => k_is);(case q9k5 => k_is);(case q9k6 => k_is);(case q9k7 => exact LFE.nm (by assumption) _ (by decide +kernel));k_whole)))
  exact trivial
inductive DiffR48 (w : World) (ts : List TRec) (BL : Led) (C1 : Int → Int) (C2 : Int → Int) (r : Value) (led' : Led) : Prop
  | mk (f : Addr) (fd : Addr) (pd : Addr) (es : List DictEntry) (ne : Nat) (ca : Addr) (po : Obj) (T' : Led) (rs : List (Int × Int)) (c : Int) (cc1 : r = .ref f) (cc2 : led' = (fd,dictOf es ne) :: (pd,po) :: T') (cc3 : LFE es pd ca) (cc4 : PIn T' ca c) (cc5 : (f,instObj 740 fd) ∈ T') (cc6 : (∀ p ∈ BL,p ∈ T')) (cc7 : FS w T' po rs) (cc8 : (∀ q ∈ T',AllNe q.1 [(fd,tup []),(pd,tup [])])) (cc9 : fd ≠ pd) (cc10 : (pd == sysModules) = false) (cc11 : PsOk ts rs) (cc12 : (∀ x,x ≠ 0 → (look rs x).getD 0 = C1 x - C2 x)) (cc13 : c = C1 0 - C2 0) : DiffR48 w ts BL C1 C2 r led'
theorem diff_spec (w : World) {B : BkA} {ts : List TRec} {BL : Led} {P1 P2 : Nat} {t1 t2 : Tok} {C1 C2 : Int → Int} (hB : Bk w B ts BL) (hX : BankX B.es) (h1 : PlusOk ts P1 C1) (h2 : PlusOk ts P2 C2) (hv : VarsOk ts) (hv0 : ∀ srt d,ts[0]? ≠ some (varR srt d)) (hb : ∀ x,-1000 ≤ C2 x ∧ C2 x ≤ 1000) :
    Spec w 758 [.ref B.b,.int (P1 : Int) t1,.int (P2 : Int) t2] 12 400 BL (DiffR48 w ts BL C1 C2) := by
  apply bx;simp(disch:=k_dflt(
  unfold Spec
  intro dp un gd cn cs a₁ ccd ce outer A₀ base h₀ L m mean mg mb s Q E B' F X N Tp hk hd hu hret
  obtain ⟨s1,args1,cf1,p1,p2,p3,p4,p5,p6⟩ := h1
  obtain ⟨s2,args2,cf2,q1,q2,q3,q4,q5,q6⟩ := h2
  k_dflt (apply call_at (binds := [(Str.ofString "bank",Value.ref B.b),(Str.ofString "one",Value.int (P1 : Int) t1),(Str.ofString "other",Value.int (P2 : Int) t2)]));k_extra "H:o_rest"
  k_steps
  refine stop_go ?_
  (try k_extra "H:folds")
  k_dflt (refine' (form_spec w hB hX p1 p2 p3 p4 p5 p6).use ?S sub_all ?_;(case S => exact ⟨by k_asm,by k_asm,by k_asm,by k_asm,by k_asm,by first | exact rfl | assumption,by ktr_room,by ktr_units⟩))
  intro r1 led1 h5 tk5 F5 A5 zq1
  obtain ⟨f,fd,pd,es,ne,ca,po,T1,ps,c1,rfl,rfl,M1,hc1,i1,b1,hD1,off1,d1,lo1,ok1,_,e1,e2⟩ := zq1
  have N5 := A5.news
  k_steps
  refine stop_go ?_
  (try k_extra "H:folds")
  rename News _ _ _ ((fd,_) :: _) => N6
  k_dflt (refine' (form_spec w hB hX q1 q2 q3 q4 q5 q6).use ?S ?zhs ?_;(case S => exact ⟨by k_asm,by k_asm,by k_asm,N6,by k_asm,by first | exact rfl | assumption,by ktr_room,by ktr_units⟩);(case zhs => exact fun p hp => .tail _ (.tail _ (b1 p hp))))
  intro r2 led2 h7 tk7 F7 A7 zq2
  obtain ⟨f2,fd2,pd2,es2,ne2,ca2,po2,T2,qs,c2,rfl,rfl,M2,hc2,i2,b2,hD2,off2,d2,lo2,ok2,_,e3,e4⟩ := zq2
  have N7 := A7.pure N6 (fun p hp => .tail _ (.tail _ (b1 p hp))) (fun p hp => .tail _ (.tail _ (b2 p hp)))
  refine x0_2 (A7.frame (ms := [(fd,dictOf es ne),(pd,po)]) (fun p hp => N6 p (reach13 hp)) (fun p hp q hq => frame4 off1 hp (b1 q hq))) ?_
  intro _ dj
  have nfd2 := A7.ne (.head _) (fun p hp => Ne.symm (off2 p (b2 p hp)).1) N6
  have npd2 := A7.ne (.tail _ (.head _)) (fun p hp => Ne.symm (off2 p (b2 p hp)).2.1) N6
  have N8 := news_join N7 A7.news
  clear N6 N7
  k_steps
  refine stop_go ?_
  (try k_extra "H:folds")
  have z1 := psok_len ok1 hD1.nodup hv
  have z2 := psok_len ok2 hD2.nodup hv
  have hq : ∀ k v,look qs k = some v → -1000 ≤ v ∧ v ≤ 1000 := fun k v e => by
    refine x3_2 ((ok2 _ (look_mem e)).2) ?_
    intro i srt d e5 e6
    dsimp only at e5
    have hk : k ≠ 0 := fun e0 => by
      have : i = 0 := by omega
      subst this
      exact hv0 _ _ e6
    have := e3 k hk
    rw [e,Option.getD_some] at this
    rw [this];exact hb k
  rename News _ _ _ ((fd,_) :: _) => N9
  k_dflt (refine' (addform_spec w (T := T2 ++ T1) (ts := ts) (ps := ps) (qs := qs) (c := c1) (c2 := c2) M1 M2 ⟨List.mem_append_right _ i1,List.mem_append_left _ i2,?qo⟩ ⟨⟨Ne.symm d1,dj (fd,dictOf es ne) (.head _) (fd2,dictOf es2 ne2) (.head _),dj (fd,dictOf es ne) (.head _) (pd2,po2) (.tail _ (.head _)),trivial⟩,⟨dj (pd,po) (.tail _ (.head _)) (fd2,dictOf es2 ne2) (.head _),dj (pd,po) (.tail _ (.head _)) (pd2,po2) (.tail _ (.head _)),trivial⟩,⟨Ne.symm d2,trivial⟩⟩ lo1 lo2 (hD1.tmono fun _ _ h => List.mem_append_right _ h) (hD2.tmono fun _ _ h => List.mem_append_left _ h) (hc1.mono fun _ h => List.mem_append_right _ h) (hc2.mono fun _ h => List.mem_append_left _ h) ok1 ok2 (by omega) (by omega) hq (by rw [e4];exact hb 0)).use ?S sub_all ?_;(case S => exact ⟨by k_asm,by k_asm,by k_asm,N9,by k_asm,by first | exact rfl | assumption,by ktr_room,by ktr_units⟩);(case qo => exact frame5 off1 off2 dj nfd2 npd2))
  intro r3 led3 h10 tk10 F10 A10 zq3
  obtain ⟨es',ne',ca',po',T3,rs,rfl,rfl,b3,M3,hc3,hD3,ok3,e5,_,off3⟩ := zq3
  have N10 := A10.news
  clear N9
  k_steps
  exact hret _ _ _ _ (by assumption) (after_of (by assumption) (by assumption) (by assumption) (by assumption)) ⟨f,fd,pd,es',ne',ca',po',T3,rs,_,rfl,rfl,M3,hc3,b3 _ (List.mem_append_right _ i1),fun p hp => b3 _ (List.mem_append_right _ (b1 p hp)),hD3,off3,d1,lo1,ok3,fun x hx => by rw [e5,e1 x hx,e3 x hx],by rw [e2,e4]⟩
  ))only[↓bx_eq]
theorem rowform_spec (w : World) {f fd pd ca : Addr} {es : List DictEntry} {ne : Nat} {po : Obj} {T : Led} {rs : List (Int × Int)} {c : Int} {rel : Str} {tr : Tok} (M : LFE es pd ca) (i1 : (f,instObj 740 fd) ∈ T) (lo : (pd == sysModules) = false) (hD : FS w T po rs) (hc : PIn T ca c) (off : ∀ q ∈ T,AllNe q.1 [(fd,tup []),(pd,tup [])]) (hz : rs.length ≤ 2) (hfp : fd ≠ pd) :
    Spec w 765 [.ref f,.str rel tr] 6 120 ((fd,dictOf es ne) :: (pd,po) :: T) fun r led' => ∃ ra ns,r = .ref ra ∧ (∀ p ∈ (fd,dictOf es ne) :: (pd,po) :: T,p ∈ led') ∧ ns.Perm (rs.map (·.1)) ∧ ns.Pairwise (· ≤ ·) ∧ RowAt led' ra (termsOf rs ns) rel (-c) 1 := by
  apply bx;simp(disch:=k_dflt(
  unfold Spec
  intro dp un gd cn cs a₁ ccd ce outer A₀ base h₀ L m mean mg mb s Q E B' F X N Tp hk hd hu hret
  k_dflt (apply call_at (binds := [(Str.ofString "form",Value.ref f),(Str.ofString "relation",Value.str rel tr)]));k_extra "H:o_rest"
  k_steps
  refine stop_go ?_
  (try k_extra "H:folds")
  k_dflt (refine' (sortedparts_spec w M i1 lo hD off hz hfp).use ?S sub_all ?_;(case S => exact ⟨by k_asm,by k_asm,by k_asm,by k_asm,by k_asm,by first | exact rfl | assumption,by ktr_room,by ktr_units⟩))
  intro r1 led1 h5 tk5 F5 A5 zq4
  refine x2_5 zq4 ?_;(try clear zq4)
  intro ta ns
  rintro rfl
  intro b1 hperm hsrt hT
  have N5 := A5.news
  have g1 := b1 _ (.tail _ (.tail _ i1))
  have g2 := b1 (fd,dictOf es ne) (.head _)
  have g3 := b1 (pd,po) (.tail _ (.head _))
  k_steps
  refine stop_go ?_
  (try k_extra "H:folds")
  rename Fr _ _ _ _ => F6
  rename News _ _ _ _ => N6
  k_dflt (refine negp_use (p := c) (q := 1) ⟨by k_asm,by k_asm,by k_asm,by k_asm,by k_asm,by first | exact rfl | assumption,by ktr_room,by ktr_units⟩ (hc.pairH F6 N6 (by assumption) (fun p hp => b1 p (.tail _ (.tail _ hp)))) ?_)
  intro d t3 t4 h7 tk7 F7 N7 nd
  k_steps
  refine x1_2 hT ?_;(try clear hT)
  intro vs hv1 hv2
  exact hret _ _ _ _ (by assumption) (after_of (by assumption) (by assumption) (by assumption) (by assumption)) ⟨_,ns,rfl,fun p hp => .tail _ (.tail _ (b1 p hp)),hperm,hsrt,_,_,_,_,_,.head _,.tail _ (.head _),vs,.tail _ (.tail _ hv1),hv2.mono (sub_tail (sub_tail sub_refl))⟩
  ))only[↓bx_eq]
end
theorem notin_ops {P : Params} {prog : Program} {w : World} {A : Around} {E : Value → Shared → Prop} {s : Shared} {h₀ : Heap} {L : Addr} {m : Mp} {x : Str} {u : Tok} {Q : Value → Shared → Prop} (X : (k0.heap_1 P).In h₀) (F : Fr h₀ L s.heap m) (hr : RelOk x) (h : Q (.bool false) s) : wpAny (model prog w) A (compareOp .NotIn (.str x u) (.ref 690)) Q E s := by
  have ht : IsTup s.heap 690 #[.str (Str.ofString "<=") 1070,.str (Str.ofString "<") 1071,.str (Str.ofString "=") 1072] := ⟨_,F.keep _ _ (X 690 _ (by k_is)),rfl,_,rfl⟩
  refine PyProof.Rows.notin_tuple_strs ht (.cons _ _ (.cons _ _ (.cons _ _ .nil))) ?_
  rcases hr with rfl | rfl | rfl
  · rw [show (!([Str.ofString "<=",Str.ofString "<",Str.ofString "="].any (· == Str.ofString "<"))) = false from by decide +kernel];exact h
  · rw [show (!([Str.ofString "<=",Str.ofString "<",Str.ofString "="].any (· == Str.ofString "<="))) = false from by decide +kernel];exact h
  · rw [show (!([Str.ofString "<=",Str.ofString "<",Str.ofString "="].any (· == Str.ofString "="))) = false from by decide +kernel];exact h
section
theorem g23.on23 : True := trivial
open g23
theorem set_53 : True := by
  k_with "!call ref" => ((fail_if_success(fail_if_success have:=on23));(k_here;(with_reducible show wpAny _ _ (call (Value.ref 259) _) _ _ _);refine stop_at ?_))
  k_with "!call ref" => ((fail_if_success(fail_if_success have:=on23));(k_here;(with_reducible show wpAny _ _ (call (Value.ref 266) _) _ _ _);refine stop_at ?_))
  k_with "!call ref" => ((fail_if_success(fail_if_success have:=on23));(k_here;(with_reducible show wpAny _ _ (call (Value.ref 273) _) _ _ _);refine stop_at ?_))
  k_with "!call ref" => ((fail_if_success(fail_if_success have:=on23));(k_here;(with_reducible show wpAny _ _ (call (Value.ref 772) _) _ _ _);refine stop_at ?_))
  k_with "!compareOp NotIn str ref" => ((fail_if_success(fail_if_success have:=on23));(k_here;k_dflt (refine' notin_ops ?q9X ?q9F ?q9r ?_;(case q9X => k_asm);(case q9F => k_asm);(case q9r => assumption);k_whole)))
  exact trivial
theorem isarith_use {B : BkA} {ts : List TRec} {BL : Led} {k i j : Nat} {rel : Str} {tk : Tok} {r : TRec} (Z : Sit w dp un cs outer A₀ base h₀ L m mean mg mb s all 3 60) (hB : Bk w B ts BL) (hX : BankX B.es) (hs : ∀ p ∈ BL,p ∈ all) (hk9 : k ≤ 1000) (hi9 : i ≤ 1000) (hr : ts[k]? = some (atomR rel i j)) (hrel : RelOk rel) (hri : ts[i]? = some r) (e : r.sort = 1 ∨ r.sort = 2)
    (ret : ∀ h' tk',Fr h₀ L h' m → News h₀ L h' all → Q (.bool true) { s with heap := h',toks := tk' }) :
    wpAny (model PG w) (ktrTop dp un gd cn cs L a₁ ccd ce outer) (call (.ref 772) [.ref B.b,.int (k : Int) tk]) Q E s := by
  apply bx;simp(disch:=k_dflt(
  obtain ⟨Bl,F,X,N,T,hk,hd,hu⟩ := Z
  refine x0_3 hB.own ?_;(try clear hB.own)
  intro i1 i2 i3
  have i1 := hs _ i1
  have i2 := hs _ i2
  k_dflt (apply call_at (binds := [(Str.ofString "bank",Value.ref B.b),(Str.ofString "atom",Value.int (k : Int) tk)]));k_extra "H:o_rest"
  k_steps
  refine stop_go ?_
  (try k_extra "H:folds")
  k_dflt (refine op_use (ts := ts) ⟨by k_asm,by k_asm,by k_asm,by k_asm,by k_asm,by first | exact rfl | assumption,by ktr_room,by ktr_units⟩ hB hs hr hk9 ?_)
  intro t1 h5 tk5 F5 N5
  dsimp only [atomR]
  k_steps
  refine stop_go ?_
  (try k_extra "H:folds")
  k_dflt (refine args_use (ts := ts) ⟨by k_asm,by k_asm,by k_asm,by k_asm,by k_asm,by first | exact rfl | assumption,by ktr_room,by ktr_units⟩ hB hs hr hk9 ?_)
  intro aa vs h6 tk6 F6 N6 haa hvs
  dsimp only [atomR] at hvs
  refine x2_1 (ints_two hvs) ?_
  intro w1 w2
  rintro rfl
  have haa := hs _ haa
  k_steps
  refine stop_go ?_
  (try k_extra "H:folds")
  k_dflt (refine args_use (ts := ts) ⟨by k_asm,by k_asm,by k_asm,by k_asm,by k_asm,by first | exact rfl | assumption,by ktr_room,by ktr_units⟩ hB hs hr hk9 ?_)
  intro aa2 vs2 h7 tk7 F7 N7 haa2 hvs2
  dsimp only [atomR] at hvs2
  refine x2_1 (ints_two hvs2) ?_
  intro w3 w4
  rintro rfl
  have haa2 := hs _ haa2
  k_steps
  refine stop_go ?_
  (try k_extra "H:folds")
  k_dflt (refine sort_use (ts := ts) ⟨by k_asm,by k_asm,by k_asm,by k_asm,by k_asm,by first | exact rfl | assumption,by ktr_room,by ktr_units⟩ hB hs hri hi9 ?_)
  intro t8 h8 tk8 F8 N8
  rcases e with e | e
  all_goals
    rw [e]
    k_steps
    exact ret _ _ (by assumption) (fun p hp => (by with_reducible assumption : News h₀ L _ _) p (by first | exact hp | exact .tail _ hp))
  ))only[↓bx_eq]
end
section
theorem g24.on24 : True := trivial
open g24
theorem set_54 : True := by
  k_with "!call ref" => ((fail_if_success(fail_if_success have:=on24));(k_here;(with_reducible show wpAny _ _ (call (Value.ref 259) _) _ _ _);refine stop_at ?_))
  k_with "!call ref" => ((fail_if_success(fail_if_success have:=on24));(k_here;(with_reducible show wpAny _ _ (call (Value.ref 266) _) _ _ _);refine stop_at ?_))
  k_with "!call ref" => ((fail_if_success(fail_if_success have:=on24));(k_here;(with_reducible show wpAny _ _ (call (Value.ref 758) _) _ _ _);refine stop_at ?_))
  k_with "!call ref" => ((fail_if_success(fail_if_success have:=on24));(k_here;(with_reducible show wpAny _ _ (call (Value.ref 765) _) _ _ _);refine stop_at ?_))
  k_with "!call ref" => ((fail_if_success(fail_if_success have:=on24));(k_here;(with_reducible show wpAny _ _ (call (Value.ref 772) _) _ _ _);refine stop_at ?_))
  exact trivial
inductive RowatomR48 (ts : List TRec) (BL : Led) (rel : Str) (C1 : Int → Int) (C2 : Int → Int) (rv : Value) (led' : Led) : Prop
  | mk (ra : Addr) (rs : List (Int × Int)) (ns : List Int) (cc1 : rv = .ref ra) (cc2 : (∀ p ∈ BL,p ∈ led')) (cc3 : ns.Perm (rs.map (·.1))) (cc4 : ns.Pairwise (· ≤ ·)) (cc5 : (rs.map (·.1)).Nodup) (cc6 : PsOk ts rs) (cc7 : (∀ x,x ≠ 0 → (look rs x).getD 0 = C1 x - C2 x)) (cc8 : RowAt led' ra (termsOf rs ns) rel (-(C1 0 - C2 0)) 1) : RowatomR48 ts BL rel C1 C2 rv led'
theorem rowatom_spec (w : World) {B : BkA} {ts : List TRec} {BL : Led} {k i j : Nat} {rel : Str} {t1 : Tok} {C1 C2 : Int → Int} {r : TRec} (hB : Bk w B ts BL) (hX : BankX B.es) (hk9 : k ≤ 1000) (hr : ts[k]? = some (atomR rel i j)) (hrel : RelOk rel) (hri : ts[i]? = some r) (e : r.sort = 1 ∨ r.sort = 2)
    (h1 : PlusOk ts i C1) (h2 : PlusOk ts j C2) (hv : VarsOk ts) (hv0 : ∀ srt d,ts[0]? ≠ some (varR srt d)) (hb : ∀ x,-1000 ≤ C2 x ∧ C2 x ≤ 1000) :
    Spec w 779 [.ref B.b,.int (k : Int) t1] 14 500 BL (RowatomR48 ts BL rel C1 C2) := by
  apply bx;simp(disch:=k_dflt(
  unfold Spec
  intro dp un gd cn cs a₁ ccd ce outer A₀ base h₀ L m mean mg mb s Q E B' F X N Tp hk hd hu hret
  refine x0_3 hB.own ?_;(try clear hB.own)
  intro i1 i2 i3
  have hi9 : i ≤ 1000 := by obtain ⟨_,_,_,_,h,_⟩ := h1;omega
  k_dflt (apply call_at (binds := [(Str.ofString "bank",Value.ref B.b),(Str.ofString "atom",Value.int (k : Int) t1)]));k_extra "H:o_rest"
  k_steps
  refine stop_go ?_
  (try k_extra "H:folds")
  k_dflt (refine isarith_use (ts := ts) ⟨by k_asm,by k_asm,by k_asm,by k_asm,by k_asm,by first | exact rfl | assumption,by ktr_room,by ktr_units⟩ hB hX sub_all hk9 hi9 hr hrel hri e ?_)
  intro h5 tk5 F5 N5
  k_steps
  refine stop_go ?_
  (try k_extra "H:folds")
  k_dflt (refine args_use (ts := ts) ⟨by k_asm,by k_asm,by k_asm,by k_asm,by k_asm,by first | exact rfl | assumption,by ktr_room,by ktr_units⟩ hB sub_all hr hk9 ?_)
  intro aa vs h6 tk6 F6 N6 haa hvs
  dsimp only [atomR] at hvs
  refine x2_1 (ints_two hvs) ?_
  intro w1 w2
  rintro rfl
  k_steps
  refine stop_go ?_
  (try k_extra "H:folds")
  k_dflt (refine' (diff_spec w hB hX h1 h2 hv hv0 hb).use ?S sub_all ?_;(case S => exact ⟨by k_asm,by k_asm,by k_asm,by k_asm,by k_asm,by first | exact rfl | assumption,by ktr_room,by ktr_units⟩))
  intro r1 led1 h7 tk7 F7 A7 zq5
  obtain ⟨f,fd,pd,es,ne,ca,po,T1,rs,c,rfl,rfl,M,hc,g1,b1,hD,off,d1,lo,ok,e1,rfl⟩ := zq5
  have N7 := A7.news
  have b2 : ∀ p ∈ BL,p ∈ (fd,dictOf es ne) :: (pd,po) :: T1 := fun p hp => .tail _ (.tail _ (b1 p hp))
  have i1 := b1 _ i1
  have i2 := b1 _ i2
  k_steps
  refine stop_go ?_
  (try k_extra "H:folds")
  k_dflt (refine op_use (ts := ts) ⟨by k_asm,by k_asm,by k_asm,by k_asm,by k_asm,by first | exact rfl | assumption,by ktr_room,by ktr_units⟩ hB b2 hr hk9 ?_)
  intro t8 h8 tk8 F8 N8
  dsimp only [atomR]
  k_steps
  refine stop_go ?_
  (try k_extra "H:folds")
  k_dflt (refine' (rowform_spec w M g1 lo hD hc off (psok_len ok hD.nodup hv) d1).use ?S sub_all ?_;(case S => exact ⟨by k_asm,by k_asm,by k_asm,by k_asm,by k_asm,by first | exact rfl | assumption,by ktr_room,by ktr_units⟩))
  intro r2 led2 h9 tk9 F9 A9 zq6
  refine x2_5 zq6 ?_;(try clear zq6)
  intro ra ns
  rintro rfl
  intro b3 hperm hsrt hrow
  have N9 := A9.news
  k_steps
  exact hret _ _ _ _ (by assumption) (after_of (by assumption) (by assumption) (by assumption) (by assumption)) ⟨ra,rs,ns,rfl,fun p hp => b3 p (b2 p hp),hperm,hsrt,hD.nodup,ok,e1,hrow⟩
  ))only[↓bx_eq]
end
end
section
noncomputable def shareOf (ts : List Term3) : Int := ts.foldl (fun s t => (Int.gcd s t.2.1 : Int)) 0
noncomputable def WholeT (ts : List Term3) : Prop := ts.length ≤ 2 ∧ ∀ t ∈ ts,t.2.2 = 1 ∧ -1000 ≤ t.2.1 ∧ t.2.1 ≤ 1000
section
theorem gcd_use {a b : Int} {ta tb : Tok} (Z : Sit w dp un cs outer A₀ base h₀ L m mean mg mb s all 1 20) (hh : -1000000 ≤ a ∧ a ≤ 1000000 ∧ -1000000 ≤ b ∧ b ≤ 1000000)
    (ret : ∀ t h' tk',Fr h₀ L h' m → News h₀ L h' all → Q (.int (Int.gcd a b : Int) t) { s with heap := h',toks := tk' }) :
    wpAny (model PG w) (ktrTop dp un gd cn cs L a₁ ccd ce outer) (call (.ref 98) [.int a ta,.int b tb]) Q E s := by
  refine (gcd_spec w hh.1 hh.2.1 hh.2.2.1 hh.2.2.2).use Z sub_nil fun r led' h' tk' F' A ⟨t,e⟩ => ?_
  subst e
  exact ret t h' tk' F' (A.pure Z.N sub_nil sub_nil)
theorem g25.on25 : True := trivial
open g25
theorem set_55 : True := by
  k_with "!call ref" => ((fail_if_success(fail_if_success have:=on25));(k_here;(with_reducible show wpAny _ _ (call (Value.ref 98) _) _ _ _);((try k_extra "H:folds");k_dflt (refine' gcd_use ?q9zS ?q9zh ?_);k_extra "H:ca2")))
  k_with "!binaryOp FloorDiv int int" => ((fail_if_success(fail_if_success have:=on25));(k_here;(with_reducible refine PyProof.Rows.floordiv_int ?q9kbe ?_ (Or.inl (PyProof.noPylong_small ?q9kbp)));(case q9kbe => omega);(case q9kbp => omega)))
  exact trivial
theorem lcm1_use {ta tb : Tok} (Z : Sit w dp un cs outer A₀ base h₀ L m mean mg mb s all 2 40) (_ : (1 : Int) = 1)
    (ret : ∀ t h' tk',Fr h₀ L h' m → News h₀ L h' all → Q (.int 1 t) { s with heap := h',toks := tk' }) :
    wpAny (model PG w) (ktrTop dp un gd cn cs L a₁ ccd ce outer) (call (.ref 105) [.int 1 ta,.int 1 tb]) Q E s := by
  apply bx;simp(disch:=k_dflt(
  obtain ⟨Bl,F,X,N,T,hk,hd,hu⟩ := Z
  have hg : ((Int.gcd 1 1 : Nat) : Int) = 1 := by decide
  k_dflt (apply call_at (binds := [(Str.ofString "a",Value.int 1 ta),(Str.ofString "b",Value.int 1 tb)]));k_extra "H:o_rest"
  k_steps
  have e : (if (1 : Int) < 0 then (-1 : Int) else 1).fdiv ((Int.gcd 1 1 : Nat) : Int) * (if (1 : Int) < 0 then (-1 : Int) else 1) = 1 := by decide
  rw [e]
  exact ret _ _ _ (by assumption) (by assumption)
  ))only[↓bx_eq]
end
theorem turn_same {h₀ h' : Heap} {L I : Addr} {s₁ : Shared} {it : Obj} {Jn : Mp → Led → Prop} {Q : Flow → Shared → Prop} {tk : Nat} {m' : Mp} {led : Led} (F : Fr h₀ L h' m') (N : News h₀ L h' ((I,it) :: led)) (nI : ∀ p ∈ led,p.1 ≠ I) (j : Jn m' led) : TurnPost h₀ L s₁ I it Jn Q .next { s₁ with heap := h',toks := tk } :=
  ⟨h',tk,m',led,rfl,F,N,nI,j⟩
theorem lowest_unit {q x y : Int} (h : LowestOf 1 q x y) (hq : 1 ≤ q) : x = 1 ∧ y = q := by
  refine x1_4 h ?_;(try clear h)
  intro c h1 h2 h3 h4
  have h5 : c.natAbs = 1 := by rw [h1];simp
  have : c = 1 ∨ c = -1 := by omega
  rcases this with rfl | rfl
  · exact ⟨by omega,by omega⟩
  · omega
noncomputable def PQ (T : Led) (a : Addr) (g : Int) : Prop := (∃ t1 t2 : Tok,(a,tup [.int 1 t1,.int g t2]) ∈ T) ∨ (a = 90 ∧ g = 1)
noncomputable def wfOf (ts : List Term3) : Int := if shareOf ts = 0 then 1 else shareOf ts
theorem share_step (ts : List Term3) {i : Nat} {t : Term3} (h : ts[i]? = some t) : shareOf (ts.take (i + 1)) = (Int.gcd (shareOf (ts.take i)) t.2.1 : Int) := by
  rw [List.take_add_one,h]
  simp [shareOf,List.foldl_append]
theorem share_bd {ts : List Term3} (h : ∀ t ∈ ts,-1000 ≤ t.2.1 ∧ t.2.1 ≤ 1000) : 0 ≤ shareOf ts ∧ shareOf ts ≤ 1000 := by
  have : ∀ (l : List Term3) (s : Int),(∀ t ∈ l,-1000 ≤ t.2.1 ∧ t.2.1 ≤ 1000) → 0 ≤ s → s ≤ 1000 → 0 ≤ l.foldl (fun s t => (Int.gcd s t.2.1 : Int)) s ∧ l.foldl (fun s t => (Int.gcd s t.2.1 : Int)) s ≤ 1000 := by
    intro l
    induction l with
    | nil => intro s _ h0 h1;exact ⟨h0,h1⟩
    | cons t r ih =>
      intro s hs h0 h1
      refine ih _ (fun u hu => hs u (.tail _ hu)) (Int.natCast_nonneg _) ?_
      refine x0_2 (hs t (.head _)) ?_
      intro b1 b2
      show (Int.gcd s t.2.1 : Int) ≤ 1000
      by_cases e : t.2.1 = 0
      · rw [e,Int.gcd_zero_right,Int.natAbs_of_nonneg h0];exact h1
      · have h2 := Int.le_of_dvd (by omega : (0 : Int) < t.2.1.natAbs) (Int.dvd_natAbs.mpr (Int.gcd_dvd_right s t.2.1))
        omega
  exact this ts 0 h (Int.le_refl _) (by decide)
section
theorem g26.on26 : True := trivial
open g26
theorem set_56 : True := by
  k_with "!exec For" => ((fail_if_success(fail_if_success have:=on26));(k_here;(with_reducible show wpAny _ _ (exec (Stmt.For (Expr.Tuple _ _ _) _ _ _ _) _) _ _ _);k_dflt (refine' For_turns ?q9F ?_ ?q9hs ?q9hE;(case q9F => k_asm);(case q9hs => (intro _;rfl));(case q9hE => passes_own))))
  k_with "!pyIter ref" => ((fail_if_success(fail_if_success have:=on26));(k_here;refine stop_at ?_))
  k_with "!call ref" => ((fail_if_success(fail_if_success have:=on26));(k_here;(with_reducible show wpAny _ _ (call (Value.ref 98) _) _ _ _);refine stop_at ?_))
  k_with "!call ref" => ((fail_if_success(fail_if_success have:=on26));(k_here;(with_reducible show wpAny _ _ (call (Value.ref 105) _) _ _ _);((try k_extra "H:folds");k_dflt (refine' lcm1_use ?q9zS ?q9zh ?_);k_extra "H:ca2")))
  k_with "!call ref" => ((fail_if_success(fail_if_success have:=on26));(k_here;(with_reducible show wpAny _ _ (call (Value.ref 112) _) _ _ _);refine stop_at ?_))
  k_with "!binaryOp FloorDiv int int" => ((fail_if_success(fail_if_success have:=on26));(k_here;(with_reducible refine PyProof.Rows.floordiv_int ?q9kbe ?_ (Or.inl (PyProof.noPylong_small ?q9kbp)));(case q9kbe => omega);(case q9kbp => omega)))
  exact trivial
section
theorem wf_use {ra ta ba : Addr} {ts : List Term3} {vs : List Value} {rel : Str} {tr : Tok} (Z : Sit w dp un cs outer A₀ base h₀ L m mean mg mb s all 4 80)
    (hh : (ra,tup [.ref ta,.str rel tr,.ref ba]) ∈ all ∧ (ta,tup vs) ∈ all ∧ TermsIn all vs ts ∧ WholeT ts)
    (ret : ∀ a all' h' tk',Fr h₀ L h' m → News h₀ L h' all' → (∀ p ∈ all,p ∈ all') → PQ all' a (wfOf ts) → (all' = all ∨ ∃ o,all' = (a,o) :: all ∧ AllNe a all) → Q (.ref a) { s with heap := h',toks := tk' }) :
    wpAny (model PG w) (ktrTop dp un gd cn cs L a₁ ccd ce outer) (call (.ref 796) [.ref ra]) Q E s := by
  apply bx;simp(disch:=k_dflt(
  obtain ⟨Bl,F,X,N,T,hk,hd,hu⟩ := Z
  refine x0_5 hh ?_;(try clear hh)
  intro m1 m2 hT hz hw
  have hvl := hT.length
  k_dflt (apply call_at (binds := [(Str.ofString "row",Value.ref ra)]));k_extra "H:o_rest"
  k_steps
  refine stop_go ?_
  (try k_extra "H:folds")
  rename Fr _ _ _ _ => F5
  rename News _ _ _ _ => N5
  refine tuple_turns (news := all) (fun _ i m led => led = all ∧ m (Str.ofString "row") = some (.ref ra) ∧ ∃ t1 t2,m (Str.ofString "common") = some (.int 1 t1) ∧ m (Str.ofString "shared") = some (.int 0 t2)) rfl F5 ?zN m2 ?st0 ?stm ?step ?fin
  case zN => exact fun p hp => N5 p (.tail _ hp)
  case st0 => exact fun _ _ => ⟨rfl,by with_unfolding_all rfl,_,_,by with_unfolding_all rfl,by with_unfolding_all rfl⟩
  case stm => rintro _ i m led ⟨rfl,_⟩;exact m2
  case step =>
    intro I i v it h6 tk6 m6 led hv zq1 nI F6 N6
    (try k_extra "H:fold")
    refine x0_3 zq1 ?_;(try clear zq1)
    rintro rfl
    intro e1 zq2
    refine x2_2 zq2 ?_;(try clear zq2)
    intro t1 t2 e2 e3
    have nI := allNe_of nI
    refine x6_4 (hT.at hv) ?_
    intro a b t ti tp tq f1 f2 g1 g2
    obtain ⟨k,p,q⟩ := t
    refine x0_3 (hw _ (List.mem_of_getElem? f2)) ?_
    intro q1 q2 q3
    dsimp only at q1 q2 q3 g1 g2
    subst q1
    subst f1
    k_steps
    rename News _ _ _ _ => N9
    refine' turn_same (by assumption) N9 (fun p hp => nI.get (a := p.1) (o := p.2) hp) ⟨rfl,?qa1,_,_,?qb1,?qc1⟩
    case qa1 => (k_extra "H:look")
    case qb1 => (k_extra "H:look")
    case qc1 => (k_extra "H:look")
  case fin =>
    intro I h6 tk6 m6 led zq3
    refine x0_3 zq3 ?_;(try clear zq3)
    rintro rfl
    intro e1 zq4
    refine x2_2 zq4 ?_;(try clear zq4)
    intro t1 t2 e2 e3
    intro F6 N6
    k_steps
    refine stop_go ?_
    (try k_extra "H:folds")
    rename Fr _ _ _ _ => F7
    rename News _ _ _ _ => N7
    refine tuple_turns (news := led) (fun _ i m l => l = led ∧ m (Str.ofString "row") = some (.ref ra) ∧ ∃ t1 t2,m (Str.ofString "common") = some (.int 1 t1) ∧ m (Str.ofString "shared") = some (.int (shareOf (ts.take i)) t2)) rfl F7 ?zN m2 ?st0 ?stm ?step ?fin
    case zN => exact N7
    case st0 =>
      intro _ _
      refine' ⟨rfl,?qa2,_,_,?qb2,?qc2⟩
      case qa2 => (k_extra "H:look")
      case qb2 => (k_extra "H:look")
      case qc2 => exact e3
    case stm => rintro _ i m led ⟨rfl,_⟩;exact m2
    case step =>
      intro I i v it h8 tk8 m8 led2 hv zq5 nI F8 N8
      (try k_extra "H:fold")
      refine x0_3 zq5 ?_;(try clear zq5)
      rintro rfl
      intro e1 zq6
      refine x2_2 zq6 ?_;(try clear zq6)
      intro t1 t2 e2 e3
      have nI := allNe_of nI
      refine x6_4 (hT.at hv) ?_
      intro a b t ti tp tq f1 f2 g1 g2
      refine x0_3 (hw _ (List.mem_of_getElem? f2)) ?_
      intro q1 q2 q3
      have hst := share_step ts f2
      refine x0_2 (share_bd (ts := ts.take i) fun t ht => (hw t (List.mem_of_mem_take ht)).2) ?_
      intro sb1 sb2
      obtain ⟨k,p,q⟩ := t
      dsimp only at q1 q2 q3 g1 g2 hst
      subst q1
      subst f1
      k_steps
      refine stop_go ?_
      (try k_extra "H:folds")
      have e9 : p * Int.fdiv 1 1 = p := by rw [show Int.fdiv 1 1 = 1 from rfl,Int.mul_one]
      rw [e9]
      k_dflt (refine gcd_use ⟨by k_asm,by k_asm,by k_asm,by k_asm,by k_asm,by first | exact rfl | assumption,by ktr_room,by ktr_units⟩ ⟨by omega,by omega,by omega,by omega⟩ ?_)
      intro t9 h9 tk9 F9 N9
      rw [← hst]
      k_steps
      rename News _ _ _ _ => N10
      refine' turn_same (by assumption) N10 (fun p hp => nI.get (a := p.1) (o := p.2) hp) ⟨rfl,?qa3,_,_,?qb3,?qc3⟩
      case qa3 => (k_extra "H:look")
      case qb3 => (k_extra "H:look")
      case qc3 => (k_extra "H:look")
    case fin =>
      intro I h8 tk8 m8 led2 zq7
      refine x0_3 zq7 ?_;(try clear zq7)
      rintro rfl
      intro e1 zq8
      refine x2_2 zq8 ?_;(try clear zq8)
      intro t1 t2 e2 e3
      intro F8 N8
      rw [hvl,List.take_length] at e3
      refine x0_2 (share_bd (ts := ts) fun t ht => (hw t ht).2) ?_
      intro sb1 sb2
      k_steps
      · exact ret _ _ _ _ (by assumption) (by assumption) (fun _ h => h) (.inr ⟨rfl,by rw [wfOf,if_pos (by assumption)]⟩) (.inl rfl)
      · refine stop_go ?_
        (try k_extra "H:folds")
        have hne : shareOf ts ≠ 0 := by assumption
        k_dflt (refine' (ratiof_spec w (a := 1) (b := shareOf ts) (by decide) (by decide) (by omega) (by omega) hne).use ?S sub_nil ?_;(case S => exact ⟨by k_asm,by k_asm,by k_asm,by k_asm,by k_asm,by first | exact rfl | assumption,by ktr_room,by ktr_units⟩))
        intro r led' h' tk' F' A' zq9
        refine x5_3 zq9 ?_;(try clear zq9)
        intro d x y t3 t4
        rintro rfl
        intro hm hl
        refine x0_2 (lowest_unit hl (by omega)) ?_
        rintro rfl
        rintro rfl
        have N' := A'.cons (A'.pure N8 sub_nil sub_nil) hm
        have nd := A'.ne hm ne_nil N8
        clear N8
        k_steps
        exact ret _ _ _ _ (by assumption) (by assumption) (fun _ h => .tail _ h) (.inl ⟨t3,t4,by rw [wfOf,if_neg hne];exact .head _⟩) (.inr ⟨_,rfl,allNe_of nd⟩)
  ))only[↓bx_eq]
end
end
end
section
noncomputable def lowP (p q : Int) : Int := p / (Int.gcd p q : Int)
noncomputable def lowQ (p q : Int) : Int := q / (Int.gcd p q : Int)
theorem lowest_eq {p q a b : Int} (h : LowestOf p q a b) (hq : 1 ≤ q) : a = lowP p q ∧ b = lowQ p q := by
  refine x1_4 h ?_;(try clear h)
  intro c h1 h2 h3 h4
  have hc : 0 < c := Int.not_le.mp fun hn => by
    have : b * c ≤ 0 := Int.mul_nonpos_of_nonneg_of_nonpos (by omega) hn
    omega
  have e : (Int.gcd p q : Int) = c := by omega
  unfold lowP lowQ
  rw [e]
  constructor
  · rw [← h2,Int.mul_ediv_cancel _ (by omega)]
  · rw [← h3,Int.mul_ediv_cancel _ (by omega)]
noncomputable def scaleT (x y : Int) (t : Term3) : Term3 := (t.1,lowP (t.2.1 * x) (t.2.2 * y),lowQ (t.2.1 * x) (t.2.2 * y))
noncomputable def PF (T : Led) (a : Addr) (x y : Int) : Prop := (∃ t1 t2 : Tok,(a,tup [.int x t1,.int y t2]) ∈ T) ∨ (a = 90 ∧ x = 1 ∧ y = 1) ∨ (a = 91 ∧ x = -1 ∧ y = 1)
theorem PF.mono {T T' : Led} {a : Addr} {x y : Int} (h : PF T a x y) (hs : ∀ p ∈ T,p ∈ T') : PF T' a x y := by
  rcases h with ⟨t1,t2,h⟩ | h
  · exact .inl ⟨t1,t2,hs _ h⟩
  · exact .inr h
theorem PQ.pf {T : Led} {a : Addr} {g : Int} (h : PQ T a g) : PF T a 1 g := by
  rcases h with h | ⟨h1,h2⟩
  · exact .inl h
  · exact .inr (.inl ⟨h1,rfl,h2⟩)
theorem PF.pairH {P : Params} {h₀ h : Heap} {L a : Addr} {m : Mp} {x y : Int} {T : Led} (k : PF T a x y) (F : Fr h₀ L h m) (N : News h₀ L h T) (X : (k0.heap_1 P).In h₀) : PairH h a x y := by
  rcases k with ⟨t1,t2,hm⟩ | ⟨rfl,rfl,rfl⟩ | ⟨rfl,rfl,rfl⟩
  · exact ⟨t1,t2,news_tup N hm⟩
  · exact ⟨_,_,_,F.keep _ _ (X 90 _ (by k_is)),rfl,_,rfl⟩
  · exact ⟨_,_,_,F.keep _ _ (X 91 _ (by k_is)),rfl,_,rfl⟩
noncomputable def SmallT (ts : List Term3) : Prop := ts.length ≤ 2 ∧ ∀ t ∈ ts,-1000 ≤ t.2.1 ∧ t.2.1 ≤ 1000 ∧ 1 ≤ t.2.2 ∧ t.2.2 ≤ 1000
section
theorem g27.on27 : True := trivial
open g27
theorem set_57 : True := by
  k_with "!call ref" => ((fail_if_success(fail_if_success have:=on27));(k_here;(with_reducible show wpAny _ _ (call (Value.ref 140) _) _ _ _);refine stop_at ?_))
  exact trivial
theorem scaled_use {ra ta ba fa : Addr} {ts : List Term3} {vs : List Value} {rel : Str} {bp bq x y : Int} {tr u1 u2 : Tok} (Z : Sit w dp un cs outer A₀ base h₀ L m mean mg mb s all 6 120)
    (hh : (ra,tup [.ref ta,.str rel tr,.ref ba]) ∈ all ∧ (ba,tup [.int bp u1,.int bq u2]) ∈ all ∧ (ta,tup vs) ∈ all ∧ TermsIn all vs ts ∧ SmallT ts ∧ (-1000 ≤ bp ∧ bp ≤ 1000) ∧ (1 ≤ bq ∧ bq ≤ 1000) ∧ PF all fa x y ∧ (-1000 ≤ x ∧ x ≤ 1000) ∧ (1 ≤ y ∧ y ≤ 1000))
    (ret : ∀ rb led' h' tk',Fr h₀ L h' m → After h₀ L s.heap all h' led' → (∀ p ∈ all,p ∈ led') → RowAt led' rb (ts.map (scaleT x y)) rel (lowP (bp * x) (bq * y)) (lowQ (bp * x) (bq * y)) → Q (.ref rb) { s with heap := h',toks := tk' }) :
    wpAny (model PG w) (ktrTop dp un gd cn cs L a₁ ccd ce outer) (call (.ref 784) [.ref ra,.ref fa]) Q E s := by
  apply bx;simp(disch:=k_dflt(
  obtain ⟨Bl,F,X,N,T,hk,hd,hu⟩ := Z
  refine x0_10 hh ?_;(try clear hh)
  intro m1 m2 m3 hT zq1
  refine x0_2 zq1 ?_;(try clear zq1)
  intro hz hw
  intro b1 b2 hf x1 y1
  have hvl := hT.length
  have hsz : vs.length ≤ sizeLine := by rw [sizeLine_eq];omega
  k_dflt (apply call_atC (binds := [(Str.ofString "row",Value.ref ra),(Str.ofString "factor",Value.ref fa)]));k_extra "H:ktr_rest"
  rename_i g₁ L₁ h₁ tk₁ FG₁ F₁ X₁ T₁ z₁ oS dS
  k_steps
  refine' pairs_inv0 (fun l₀ i ys led => (∀ p ∈ l₀,p ∈ led) ∧ TermsIn led ys ((ts.take i).map (scaleT x y))) ⟨sub_refl,.nil⟩ ?step ?fin
  case step =>
    intro i ys led v zq2 hv
    refine (let pk := _;(?_ : PairStep _ _ pk))
    refine x0_2 zq2 ?_;(try clear zq2)
    intro hs hT'
    refine x6_4 (hT.at hv) ?_
    intro a b t ti tp tq e1 e2 g1 g2
    refine x0_4 (hw t (List.mem_of_getElem? e2)) ?_
    intro c1 c2 c3 c4
    have hs' : ∀ p ∈ all,p ∈ led := fun p hp => hs p (.tail _ hp)
    have g3 := hs' _ g1
    have g4 := hs' _ g2
    have g5 := hs' _ m3
    have g6 := hs (L₁ + 1,oS) (by k_mem)
    refine ⟨a,_,_,e1,g3,?_⟩
    intro I oI C oC D m₂ h tk E' hC hx1 hx2 F1 N1 off
    k_steps
    refine stop_go ?_
    (try k_extra "H:folds")
    rename Fr _ _ _ _ => F5
    rename News _ _ _ _ => N5
    k_dflt (refine mulp_use (p := t.2.1) (q := t.2.2) (p' := x) (q' := y) ⟨by k_asm,by k_asm,by k_asm,N5,by k_asm,by first | exact rfl | assumption,by ktr_room,by ktr_units⟩ ⟨⟨_,_,news_tup N5 (.tail _ (.tail _ (.tail _ g4)))⟩,(hf.mono hs').pairH F5 (fun p hp => N5 p (.tail _ (.tail _ (.tail _ hp)))) (by assumption),⟨c1,c2⟩,x1,⟨c3,c4⟩,y1⟩ ?_)
    intro d p' q' t3 t4 h6 tk6 F6 N6 nd hlow
    refine x0_2 (lowest_eq hlow (mul_pos1 c3 y1.1)) ?_
    rintro rfl
    rintro rfl
    k_steps
    refine stop_go ?_
    (try k_extra "H:folds")
    exact compEnd_two (by assumption) (by assumption) off ⟨by k_ne,by k_ne,by k_ne⟩ ⟨by k_ne,by k_ne,by k_ne⟩ (.tail _ (.tail _ g5)) ⟨sub_tail (sub_tail hs),by
      rw [map_take_succ e2]
      exact (hT'.mono (sub_tail (sub_tail sub_refl))).snoc (.head _) (.tail _ (.head _))⟩
  case fin =>
    intro ys led zq3
    refine x0_2 zq3 ?_;(try clear zq3)
    intro hs hT'
    rw [hvl,List.take_length] at hT'
    have hyl : ys.length ≤ 16384 := by rw [hT'.length,List.length_map];omega
    have hs' : ∀ p ∈ all,p ∈ led := fun p hp => hs p (.tail _ hp)
    have g6 := hs (L₁ + 1,oS) (by k_mem)
    k_steps
    refine stop_go ?_
    (try k_extra "H:folds")
    rename Fr _ _ _ _ => F5
    rename News _ _ _ _ => N5
    k_dflt (refine mulp_use (p := bp) (q := bq) (p' := x) (q' := y) ⟨by k_asm,by k_asm,by k_asm,N5,by k_asm,by first | exact rfl | assumption,by ktr_room,by ktr_units⟩ ⟨⟨_,_,news_tup N5 (.tail _ (.tail _ (hs' _ m2)))⟩,hf.pairH F5 (fun p hp => N5 p (.tail _ (.tail _ (hs' _ hp)))) (by assumption),b1,x1,b2,y1⟩ ?_)
    intro d p' q' t3 t4 h6 tk6 F6 N6 nd hlow
    refine x0_2 (lowest_eq hlow (mul_pos1 b2.1 y1.1)) ?_
    rintro rfl
    rintro rfl
    k_steps
    exact ret _ _ _ _ (by assumption) (after_of (by assumption) (by assumption) (by assumption) (by assumption)) (fun p hp => .tail _ (.tail _ (.tail _ (.tail _ (hs' p hp))))) ⟨_,_,_,_,_,.head _,.tail _ (.head _),ys,.tail _ (.tail _ (.head _)),hT'.mono (sub_tail (sub_tail (sub_tail (sub_tail sub_refl))))⟩
  ))only[↓bx_eq]
end
end
section
theorem low_bd {p q K : Int} (hp : -K ≤ p ∧ p ≤ K) (hq : 1 ≤ q ∧ q ≤ K) : (-K ≤ lowP p q ∧ lowP p q ≤ K) ∧ (1 ≤ lowQ p q ∧ lowQ p q ≤ K) := by
  have g0 : (0 : Int) < Int.gcd p q := by
    have := Int.gcd_pos_of_ne_zero_right p (show q ≠ 0 by omega)
    omega
  have d1 : (Int.gcd p q : Int) ∣ p := Int.gcd_dvd_left ..
  have d2 : (Int.gcd p q : Int) ∣ q := Int.gcd_dvd_right ..
  have e1 : lowP p q * (Int.gcd p q : Int) = p := Int.ediv_mul_cancel d1
  have e2 : lowQ p q * (Int.gcd p q : Int) = q := Int.ediv_mul_cancel d2
  have n1 : (lowP p q).natAbs ≤ p.natAbs := by
    rw [← congrArg Int.natAbs e1,Int.natAbs_mul]
    exact Nat.le_mul_of_pos_right _ (Int.natAbs_pos.mpr (Int.ne_of_gt g0))
  have n2 : (lowQ p q).natAbs ≤ q.natAbs := by
    rw [← congrArg Int.natAbs e2,Int.natAbs_mul]
    exact Nat.le_mul_of_pos_right _ (Int.natAbs_pos.mpr (Int.ne_of_gt g0))
  have n3 : 1 ≤ lowQ p q := Int.not_lt.mp fun hn => by
    have hn : lowQ p q ≤ 0 := by omega
    have : lowQ p q * (Int.gcd p q : Int) ≤ 0 := Int.mul_nonpos_of_nonpos_of_nonneg hn (by omega)
    omega
  have hK : 0 ≤ K := Int.le_trans (Int.le_trans (by decide) hq.1) hq.2
  exact ⟨of_abs hK (Nat.le_trans n1 (abs_mono hp.1 hp.2)),n3,(of_abs hK (Nat.le_trans n2 (abs_mono (Int.le_trans (Int.neg_nonpos_of_nonneg hK) (Int.le_trans (by decide) hq.1)) hq.2))).2⟩
theorem wf_bd {ts : List Term3} (h : WholeT ts) : 1 ≤ wfOf ts ∧ wfOf ts ≤ 1000 := by
  refine x0_2 (share_bd (ts := ts) fun t ht => (h.2 t ht).2) ?_
  intro h1 h2
  unfold wfOf
  split <;> omega
theorem scale_small {ts : List Term3} {x y : Int} (h : ts.length ≤ 2) (hw : ∀ t ∈ ts,t.2.2 = 1 ∧ -1000 ≤ t.2.1 ∧ t.2.1 ≤ 1000) (hx : x = 1) (hy : 1 ≤ y ∧ y ≤ 1000) : SmallT (ts.map (scaleT x y)) := by
  refine ⟨by rw [List.length_map];exact h,fun t ht => ?_⟩
  refine x1_2 (List.mem_map.mp ht) ?_
  intro u hu
  rintro rfl
  refine x0_3 (hw u hu) ?_
  intro e1 e2 e3
  subst hx
  have := low_bd (p := u.2.1 * 1) (q := u.2.2 * y) (K := 1000) (by rw [Int.mul_one];exact ⟨e2,e3⟩) (by rw [e1,Int.one_mul];exact hy)
  exact ⟨this.1.1,this.1.2,this.2.1,this.2.2⟩
theorem terms_shape {led : Led} {vs : List Value} {ts : List Term3} (h : TermsIn led vs ts) (hl : ts.length ≤ 2) : (vs = [] ∧ ts = []) ∨ ∃ (a b : Addr) (t : Term3) (ti tp tq : Tok) (r : List Value),(r = [] ∨ ∃ c,r = [c]) ∧ vs = .ref a :: r ∧ (a,tup [.int t.1 ti,.ref b]) ∈ led ∧ (b,tup [.int t.2.1 tp,.int t.2.2 tq]) ∈ led ∧ ts.head? = some t := by
  cases h with
  | nil => exact .inl ⟨rfl,rfl⟩
  | @cons a b i p q ti tp tq vs ts h1 h2 h3 =>
    refine .inr ⟨a,b,(i,p,q),ti,tp,tq,vs,?_,rfl,h1,h2,rfl⟩
    have := h3.length
    rw [List.length_cons] at hl
    cases vs with
    | nil => exact .inl rfl
    | cons c r =>
      cases r with
      | nil => exact .inr ⟨c,rfl⟩
      | cons _ _ => simp only [List.length_cons] at this;omega
noncomputable def baseT (ts : List Term3) : List Term3 := ts.map (scaleT 1 (wfOf ts))
noncomputable def baseP (ts : List Term3) (bp : Int) : Int := lowP (bp * 1) (1 * wfOf ts)
noncomputable def baseQ (ts : List Term3) (bp : Int) : Int := lowQ (bp * 1) (1 * wfOf ts)
noncomputable def WholeR (ts : List Term3) (rel : Str) (bp : Int) (ts' : List Term3) (bp' bq' : Int) : Prop :=
  (ts' = baseT ts ∧ bp' = baseP ts bp ∧ bq' = baseQ ts bp) ∨ (rel = Str.ofString "=" ∧ ts' = (baseT ts).map (scaleT (-1) 1) ∧ bp' = lowP (baseP ts bp * -1) (baseQ ts bp * 1) ∧ bq' = lowQ (baseP ts bp * -1) (baseQ ts bp * 1))
section
theorem g28.on28 : True := trivial
open g28
theorem set_58 : True := by
  k_with "!call ref" => ((fail_if_success(fail_if_success have:=on28));(k_here;(with_reducible show wpAny _ _ (call (Value.ref 796) _) _ _ _);refine stop_at ?_))
  k_with "!call ref" => ((fail_if_success(fail_if_success have:=on28));(k_here;(with_reducible show wpAny _ _ (call (Value.ref 784) _) _ _ _);refine stop_at ?_))
  exact trivial
theorem wholerow_use {ra ta ba : Addr} {ts : List Term3} {vs : List Value} {rel : Str} {bp : Int} {tr u1 u2 : Tok} (Z : Sit w dp un cs outer A₀ base h₀ L m mean mg mb s all 8 160)
    (hh : (ra,tup [.ref ta,.str rel tr,.ref ba]) ∈ all ∧ (ba,tup [.int bp u1,.int 1 u2]) ∈ all ∧ (ta,tup vs) ∈ all ∧ TermsIn all vs ts ∧ WholeT ts ∧ RelOk rel ∧ (-1000 ≤ bp ∧ bp ≤ 1000))
    (ret : ∀ rb led' h' tk' ts' bp' bq',Fr h₀ L h' m → After h₀ L s.heap all h' led' → (∀ p ∈ all,p ∈ led') → RowAt led' rb ts' rel bp' bq' → WholeR ts rel bp ts' bp' bq' → Q (.ref rb) { s with heap := h',toks := tk' }) :
    wpAny (model PG w) (ktrTop dp un gd cn cs L a₁ ccd ce outer) (call (.ref 803) [.ref ra]) Q E s := by
  apply bx;simp(disch:=k_dflt(
  obtain ⟨Bl,F,X,N,T,hk,hd,hu⟩ := Z
  refine x0_7 hh ?_;(try clear hh)
  intro m1 m2 m3 hT hW hrel b1
  have hg := wf_bd hW
  k_dflt (apply call_at (binds := [(Str.ofString "row",Value.ref ra)]));k_extra "H:o_rest"
  k_steps
  refine stop_go ?_
  (try k_extra "H:folds")
  k_dflt (refine wf_use ⟨by k_asm,by k_asm,by k_asm,by k_asm,by k_asm,by first | exact rfl | assumption,by ktr_room,by ktr_units⟩ ⟨m1,m3,hT,hW⟩ ?_)
  intro fa all' h5 tk5 F5 N5 hs5 hpq _
  k_steps
  refine stop_go ?_
  (try k_extra "H:folds")
  k_dflt (refine scaled_use (bp := bp) (bq := 1) (x := 1) (y := wfOf ts) ⟨by k_asm,by k_asm,by k_asm,by k_asm,by k_asm,by first | exact rfl | assumption,by ktr_room,by ktr_units⟩ ⟨hs5 _ m1,hs5 _ m2,hs5 _ m3,hT.mono hs5,⟨hW.1,fun t ht => by have := hW.2 t ht;omega⟩,b1,by decide,hpq.pf,by decide,hg⟩ ?_)
  intro rb led6 h6 tk6 F6 A6 hs6 hrow
  have N6 := A6.news
  refine x5_3 (id hrow) ?_
  intro ta2 ba2 tr2 u3 u4 r1 r2 zq1
  refine x1_2 zq1 ?_;(try clear zq1)
  intro vs2 r3 r4
  have hs9 : ∀ p ∈ all,p ∈ led6 := fun p hp => hs6 _ (hs5 _ hp)
  by_cases he : rel = Str.ofString "="
  · subst he
    have hsm := scale_small (y := wfOf ts) hW.1 hW.2 rfl hg
    have hbd := low_bd (p := bp * 1) (q := 1 * wfOf ts) (K := 1000) (by rw [Int.mul_one];exact b1) (by rw [Int.one_mul];exact hg)
    rcases terms_shape r4 (by rw [List.length_map];exact hW.1) with ⟨rfl,e0⟩ | ⟨a,b,t,ti,tp,tq,r,hr,rfl,j1,j2,e0⟩
    · k_steps
      exact ret _ _ _ _ _ _ _ (by assumption) (after_of (by assumption) (by assumption) (by assumption) (by assumption)) hs9 hrow (.inl ⟨rfl,rfl,rfl⟩)
    · rcases hr with rfl | ⟨c,rfl⟩
      all_goals
        k_steps
        · refine stop_go ?_
          (try k_extra "H:folds")
          rename News _ _ _ _ => N9
          k_dflt (refine scaled_use (x := -1) (y := 1) ⟨by k_asm,by k_asm,by k_asm,N9,by k_asm,by first | exact rfl | assumption,by ktr_room,by ktr_units⟩ ⟨by k_mem,by k_mem,by k_mem,r4,hsm,hbd.1,hbd.2,.inr (.inr ⟨rfl,rfl,rfl⟩),by decide,by decide⟩ ?_)
          intro rb2 led7 h7 tk7 F7 A7 hs7 hrow7
          have N7 := A7.news
          k_steps
          exact ret _ _ _ _ _ _ _ (by assumption) (after_of (by assumption) (by assumption) (by assumption) (by assumption)) (fun p hp => hs7 _ (hs9 p hp)) hrow7 (.inr ⟨rfl,rfl,rfl,rfl⟩)
        · exact ret _ _ _ _ _ _ _ (by assumption) (after_of (by assumption) (by assumption) (by assumption) (by assumption)) hs9 hrow (.inl ⟨rfl,rfl,rfl⟩)
  · have he2 : (rel == Str.ofString "=") = false := beq_eq_false_iff_ne.mpr he
    k_steps
    exact ret _ _ _ _ _ _ _ (by assumption) (after_of (by assumption) (by assumption) (by assumption) (by assumption)) hs9 hrow (.inl ⟨rfl,rfl,rfl⟩)
  ))only[↓bx_eq]
end
end
section
section
section
theorem g29.on29 : True := trivial
open g29
theorem set_59 : True := by
  k_with "!subscriptTail" => ((fail_if_success(fail_if_success have:=on29));(k_here;(with_reducible show wpAny _ _ (subscriptTail _ _ (Value.ref _) (Value.int _ _)) _ _ _);k_dflt (refine' item_tupleT ?q9kt ?q9ka ?q9kb ?q9kc ?q9kd ?_;(case q9kt => exact tup_keep (by assumption) (by assumption));(case q9ka => decide);(case q9kb => decide);(case q9kc => rfl);(case q9kd => rfl);k_whole)))
  exact trivial
theorem iswhole_use {a : Addr} {p q : Int} (Z : Sit w dp un cs outer A₀ base h₀ L m mean mg mb s all 1 8) (ha : PairH s.heap a p q)
    (ret : ∀ h' tk',Fr h₀ L h' m → News h₀ L h' all → Q (.bool (q == 1)) { s with heap := h',toks := tk' }) :
    wpAny (model PG w) (ktrTop dp un gd cn cs L a₁ ccd ce outer) (call (.ref 154) [.ref a]) Q E s := by
  apply bx;simp(disch:=k_dflt(
  have N₀ := Z.N
  obtain ⟨B,F,X,N,T,hk,hd,hu⟩ := Z.nil
  refine x2_1 ha ?_;(try clear ha)
  intro u1 u2 ha
  k_dflt (apply call_at (binds := [(Str.ofString "a",Value.ref a)]));k_extra "H:o_rest"
  rename Froz _ _ _ => z
  have ta := z.tup ha
  k_steps
  exact ret _ _ (by assumption) ((after_of z (by assumption) (by assumption) (by assumption)).pure N₀ sub_nil sub_nil)
  ))only[↓bx_eq]
theorem set_60 : True := by
  k_with "!binaryOp FloorDiv int int" => ((fail_if_success(fail_if_success have:=on29));(k_here;(with_reducible refine PyProof.Rows.floordiv_int ?q9kbe ?_ (Or.inl (PyProof.noPylong_small ?q9kbp)));(case q9kbe => omega);(case q9kbp => omega)))
  exact trivial
theorem floor_use {a : Addr} {p q : Int} (Z : Sit w dp un cs outer A₀ base h₀ L m mean mg mb s all 1 8) (ha : PairH s.heap a p q) (hq : 1 ≤ q ∧ q ≤ 1000)
    (ret : ∀ t h' tk',Fr h₀ L h' m → News h₀ L h' all → Q (.int (Int.fdiv p q) t) { s with heap := h',toks := tk' }) :
    wpAny (model PG w) (ktrTop dp un gd cn cs L a₁ ccd ce outer) (call (.ref 147) [.ref a]) Q E s := by
  apply bx;simp(disch:=k_dflt(
  have N₀ := Z.N
  obtain ⟨B,F,X,N,T,hk,hd,hu⟩ := Z.nil
  refine x2_1 ha ?_;(try clear ha)
  intro u1 u2 ha
  k_dflt (apply call_at (binds := [(Str.ofString "a",Value.ref a)]));k_extra "H:o_rest"
  rename Froz _ _ _ => z
  have ta := z.tup ha
  k_steps
  exact ret _ _ _ (by assumption) ((after_of z (by assumption) (by assumption) (by assumption)).pure N₀ sub_nil sub_nil)
  ))only[↓bx_eq]
end
theorem g30.on30 : True := trivial
open g30
theorem set_61 : True := by
  k_with "!call ref" => ((fail_if_success(fail_if_success have:=on30));(k_here;(with_reducible show wpAny _ _ (call (Value.ref 126) _) _ _ _);refine stop_at ?_))
  k_with "!call ref" => ((fail_if_success(fail_if_success have:=on30));(k_here;(with_reducible show wpAny _ _ (call (Value.ref 119) _) _ _ _);refine stop_at ?_))
  exact trivial
theorem sub_use {a b : Addr} {p q : Int} (Z : Sit w dp un cs outer A₀ base h₀ L m mean mg mb s all 4 40) (ha : PairH s.heap a p 1) (hb : PairH s.heap b q 1)
    (ret : ∀ d t1 t2 led' h' tk',Fr h₀ L h' m → News h₀ L h' led' → (∀ p ∈ all,p ∈ led') → (d,tup [.int (p - q) t1,.int 1 t2]) ∈ led' → Q (.ref d) { s with heap := h',toks := tk' }) :
    wpAny (model PG w) (ktrTop dp un gd cn cs L a₁ ccd ce outer) (call (.ref 133) [.ref a,.ref b]) Q E s := by
  apply bx;simp(disch:=k_dflt(
  have N₀ := Z.N
  obtain ⟨B,F,X,N,T,hk,hd,hu⟩ := Z.nil
  refine x2_1 ha ?_;(try clear ha)
  intro u1 u2 ha
  refine x2_1 hb ?_;(try clear hb)
  intro u3 u4 hb
  k_dflt (apply call_at (binds := [(Str.ofString "a",Value.ref a),(Str.ofString "b",Value.ref b)]));k_extra "H:o_rest"
  rename Froz _ _ _ => z
  have ta := z.tup ha
  have tb := z.tup hb
  k_steps
  refine stop_go ?_
  (try k_extra "H:folds")
  rename Fr _ _ _ _ => F5
  k_dflt (refine negp_use (p := q) (q := 1) ⟨by k_asm,by k_asm,by k_asm,by k_asm,by k_asm,by first | exact rfl | assumption,by ktr_room,by ktr_units⟩ ⟨_,_,tup_keep F5 tb⟩ ?_)
  intro d t3 t4 h6 tk6 F6 N6 nd
  k_steps
  refine stop_go ?_
  (try k_extra "H:folds")
  rename Fr _ _ _ _ => F7
  rename News _ _ _ _ => N7
  k_dflt (refine addp_use ⟨by k_asm,by k_asm,by k_asm,by k_asm,by k_asm,by first | exact rfl | assumption,by ktr_room,by ktr_units⟩ ⟨⟨_,_,tup_keep F7 ta⟩,⟨_,_,news_tup N7 (.head _)⟩⟩ ?_)
  intro d2 t5 t6 h8 tk8 F8 N8 nd2
  k_steps
  have A9 := after_of z (by assumption) (by assumption : News _ _ _ ((d2,_) :: _)) (by assumption)
  exact ret d2 t5 t6 _ _ _ (by assumption) (A9.cons (A9.pure N₀ sub_nil sub_nil) (.head _)) (fun p hp => .tail _ hp) (by rw [Int.sub_eq_add_neg];exact .head _)
  ))only[↓bx_eq]
end
noncomputable def VarT (tr : List TRec) (kind : Int) (ts : List Term3) : Prop := ts.length ≤ 2 ∧ ∀ t ∈ ts,t.2.2 = 1 ∧ ∃ (i : Nat) (d : Int),t.1 = (i : Int) ∧ tr[i]? = some (varR kind d) ∧ i ≤ 1000
section
theorem g31.on31 : True := trivial
open g31
theorem set_62 : True := by
  k_with "!exec For" => ((fail_if_success(fail_if_success have:=on31));(k_here;(with_reducible show wpAny _ _ (exec (Stmt.For (Expr.Tuple _ _ _) _ _ _ _) _) _ _ _);k_dflt (refine' For_turns ?q9F ?_ ?q9hs ?q9hE;(case q9F => k_asm);(case q9hs => (intro _;rfl));(case q9hE => passes_own))))
  k_with "!pyIter ref" => ((fail_if_success(fail_if_success have:=on31));(k_here;refine stop_at ?_))
  k_with "!call ref" => ((fail_if_success(fail_if_success have:=on31));(k_here;(with_reducible show wpAny _ _ (call (Value.ref 154) _) _ _ _);refine stop_at ?_))
  k_with "!call ref" => ((fail_if_success(fail_if_success have:=on31));(k_here;(with_reducible show wpAny _ _ (call (Value.ref 273) _) _ _ _);refine stop_at ?_))
  exact trivial
theorem has_use {B : BkA} {tr : List TRec} {BL : Led} {kind : Int} {ra ta ba : Addr} {ts : List Term3} {vs : List Value} {rel : Str} {tr1 : Tok} (Z : Sit w dp un cs outer A₀ base h₀ L m mean mg mb s all 4 60) (hB : Bk w B tr BL) (hX : BankX B.es) (hs : ∀ p ∈ BL,p ∈ all) (hk12 : kind = 1 ∨ kind = 2)
    (hh : (ra,tup [.ref ta,.str rel tr1,.ref ba]) ∈ all ∧ (ta,tup vs) ∈ all ∧ TermsIn all vs ts ∧ VarT tr kind ts)
    (ret : ∀ h' tk',Fr h₀ L h' m → News h₀ L h' all → Q (.bool (kind == 1 || ts.isEmpty)) { s with heap := h',toks := tk' }) :
    wpAny (model PG w) (ktrTop dp un gd cn cs L a₁ ccd ce outer) (call (.ref 810) [.ref B.b,.ref ra]) Q E s := by
  apply bx;simp(disch:=k_dflt(
  obtain ⟨Bl,F,X,N,T,hk,hd,hu⟩ := Z
  refine x0_5 hh ?_;(try clear hh)
  intro m1 m2 hT hz hw
  refine x0_3 hB.own ?_;(try clear hB.own)
  intro i1 i2 i3
  have i1 := hs _ i1
  have i2 := hs _ i2
  have hvl := hT.length
  k_dflt (apply call_at (binds := [(Str.ofString "bank",Value.ref B.b),(Str.ofString "row",Value.ref ra)]));k_extra "H:o_rest"
  k_steps
  refine stop_go ?_
  (try k_extra "H:folds")
  rename Fr _ _ _ _ => F5
  rename News _ _ _ _ => N5
  refine tuple_turns (news := all) (fun _ i m led => led = all ∧ m (Str.ofString "bank") = some (.ref B.b) ∧ (kind = 1 ∨ i = 0)) rfl F5 ?zN m2 ?st0 ?stm ?step ?fin
  case zN => exact N5
  case st0 => exact fun _ _ => ⟨rfl,by with_unfolding_all rfl,.inr rfl⟩
  case stm => rintro _ i m led ⟨rfl,_⟩;exact m2
  case step =>
    intro I i v it h6 tk6 m6 led hv zq1 nI F6 N6
    (try k_extra "H:fold")
    refine x0_3 zq1 ?_;(try clear zq1)
    rintro rfl
    intro e1 e2
    have nI := allNe_of nI
    refine x6_4 (hT.at hv) ?_
    intro a b t ti tp tq f1 f2 g1 g2
    refine x0_2 (hw _ (List.mem_of_getElem? f2)) ?_
    intro q1 zq2
    refine x2_3 zq2 ?_;(try clear zq2)
    intro j d q2 q3 q4
    have hne : ts ≠ [] := fun e => by rw [e] at f2;simp at f2
    have hemp : ts.isEmpty = false := by cases ts with
      | nil => exact absurd rfl hne
      | cons _ _ => rfl
    obtain ⟨k,p,q⟩ := t
    dsimp only at q1 q2 g1 g2
    subst q1
    subst q2
    subst f1
    k_steps
    refine stop_go ?_
    (try k_extra "H:folds")
    k_dflt (refine sort_use (ts := tr) ⟨by k_asm,by k_asm,by k_asm,by k_asm,by k_asm,by first | exact rfl | assumption,by ktr_room,by ktr_units⟩ hB (fun p hp => .tail _ (hs p hp)) q3 q4 ?_)
    intro t7 h7 tk7 F7 N7
    dsimp only [varR]
    rcases hk12 with rfl | rfl
    · k_steps
      refine stop_go ?_
      (try k_extra "H:folds")
      rename News _ _ _ _ => N8
      k_dflt (refine iswhole_use (p := p) (q := 1) ⟨by k_asm,by k_asm,by k_asm,by k_asm,by k_asm,by first | exact rfl | assumption,by ktr_room,by ktr_units⟩ ⟨_,_,news_tup N8 (.tail _ g2)⟩ ?_)
      intro h9 tk9 F9 N9
      k_steps
      rename News _ _ _ _ => N10
      refine turn_same (by assumption) N10 (fun p hp => nI.get (a := p.1) (o := p.2) hp) ⟨rfl,?_,by simp⟩
      (k_extra "H:look")
    · k_steps
      have e9 : ((2 : Int) == 1 || ts.isEmpty) = false := by rw [hemp];rfl
      rw [e9] at ret
      (try dsimp only [TurnPost])
      k_steps
      exact ret _ _ (by assumption) (fun p hp => (by with_reducible assumption : News h₀ L _ _) p (by first | exact hp | exact .tail _ hp))
  case fin =>
    intro I h8 tk8 m8 led2 zq3
    refine x0_3 zq3 ?_;(try clear zq3)
    rintro rfl
    intro e1 e2
    intro F8 N8
    k_steps
    have e9 : (kind == 1 || ts.isEmpty) = true := by
      rcases e2 with rfl | e2
      · rfl
      · have : ts = [] := List.length_eq_zero_iff.mp (hvl ▸ e2)
        rw [this];simp
    rw [e9] at ret
    exact ret _ _ (by assumption) (by assumption)
  ))only[↓bx_eq]
end
noncomputable def TightR (kind : Int) (ts : List Term3) (rel : Str) (bp : Int) (ts' : List Term3) (rel' : Str) (bp' bq' : Int) : Prop :=
  ((rel = Str.ofString "=" ∨ ts = [] ∨ kind ≠ 1) ∧ rel' = rel ∧ WholeR ts rel bp ts' bp' bq') ∨
  (rel ≠ Str.ofString "=" ∧ ts ≠ [] ∧ kind = 1 ∧ ts' = baseT ts ∧ rel' = Str.ofString "<=" ∧ bq' = 1 ∧ ((rel = Str.ofString "<" ∧ baseQ ts bp = 1 ∧ bp' = baseP ts bp - 1) ∨ ((rel ≠ Str.ofString "<" ∨ baseQ ts bp ≠ 1) ∧ bp' = Int.fdiv (baseP ts bp) (baseQ ts bp))))
theorem share_dvd (ts : List Term3) : ∀ t ∈ ts,shareOf ts ∣ t.2.1 := by
  have h : ∀ (l : List Term3) (s : Int),l.foldl (fun s t => (Int.gcd s t.2.1 : Int)) s ∣ s ∧ ∀ t ∈ l,l.foldl (fun s t => (Int.gcd s t.2.1 : Int)) s ∣ t.2.1 := by
    intro l
    induction l with
    | nil => intro s;exact ⟨Int.dvd_refl _,fun t ht => nomatch ht⟩
    | cons t r ih =>
      intro s
      refine x0_2 (ih (Int.gcd s t.2.1 : Int)) ?_
      intro h1 h2
      refine ⟨Int.dvd_trans h1 (Int.gcd_dvd_left ..),fun u hu => ?_⟩
      rcases List.mem_cons.mp hu with rfl | hu
      · exact Int.dvd_trans h1 (Int.gcd_dvd_right ..)
      · exact h2 u hu
  exact (h ts 0).2
theorem wf_dvd (ts : List Term3) : ∀ t ∈ ts,wfOf ts ∣ t.2.1 := fun t ht => by
  unfold wfOf
  split
  · exact Int.one_dvd _
  · exact share_dvd ts t ht
theorem scale_wf {ts : List Term3} {t : Term3} (ht : t ∈ ts) (h1 : t.2.2 = 1) (h0 : 1 ≤ wfOf ts) : scaleT 1 (wfOf ts) t = (t.1,t.2.1 / wfOf ts,1) := by
  have hd := wf_dvd ts t ht
  have hg : (Int.gcd t.2.1 (wfOf ts) : Int) = wfOf ts := by
    refine Int.dvd_antisymm (Int.natCast_nonneg _) (by omega) (Int.gcd_dvd_right ..) (Int.dvd_coe_gcd hd (Int.dvd_refl _))
  unfold scaleT lowP lowQ
  rw [h1,Int.mul_one,Int.one_mul,hg,Int.ediv_self (by omega)]
end
section
theorem len_tupL {prog : Program} {w : World} {A : Around} {E : Value → Shared → Prop} {s : Shared} {h₀ : Heap} {L t : Addr} {led : Led} {vs : List Value} {Q : Value → Shared → Prop} (N : News h₀ L s.heap led) (hm : (t,tup vs) ∈ led) (hz : vs.length ≤ 1000) (h : ∀ t tk,Q (.int (vs.length : Int) t) { s with toks := tk }) :
    wpAny (model prog w) A (call (.builtin "len") [.ref t]) Q E s := by
  refine PyProof.Rows.len_tuple (news_tup N hm) (by simp;omega) ?_
  have e : vs.toArray.size = vs.length := by simp
  rw [e]
  exact h _ _
theorem RowAt.mono' {led led' : Led} {ra : Addr} {ts : List Term3} {rel : Str} {bp bq : Int} (h : RowAt led ra ts rel bp bq) (hs : ∀ p ∈ led,p ∈ led') : RowAt led' ra ts rel bp bq := h.tmono fun _ _ h => hs _ h
theorem base_var {tr : List TRec} {kind : Int} {ts : List Term3} (h : VarT tr kind ts) (hW : WholeT ts) : VarT tr kind (baseT ts) := by
  refine ⟨by rw [baseT,List.length_map];exact h.1,fun t ht => ?_⟩
  refine x1_2 (List.mem_map.mp ht) ?_
  intro u hu
  rintro rfl
  refine x0_2 (h.2 u hu) ?_
  intro q1 q2
  rw [scale_wf hu q1 (wf_bd hW).1]
  exact ⟨rfl,q2⟩
section
theorem g32.on32 : True := trivial
open g32
theorem set_63 : True := by
  k_with "!call ref" => ((fail_if_success(fail_if_success have:=on32));(k_here;(with_reducible show wpAny _ _ (call (Value.ref 803) _) _ _ _);refine stop_at ?_))
  k_with "!call ref" => ((fail_if_success(fail_if_success have:=on32));(k_here;(with_reducible show wpAny _ _ (call (Value.ref 810) _) _ _ _);refine stop_at ?_))
  k_with "!call ref" => ((fail_if_success(fail_if_success have:=on32));(k_here;(with_reducible show wpAny _ _ (call (Value.ref 154) _) _ _ _);refine stop_at ?_))
  k_with "!call ref" => ((fail_if_success(fail_if_success have:=on32));(k_here;(with_reducible show wpAny _ _ (call (Value.ref 133) _) _ _ _);refine stop_at ?_))
  k_with "!call ref" => ((fail_if_success(fail_if_success have:=on32));(k_here;(with_reducible show wpAny _ _ (call (Value.ref 147) _) _ _ _);refine stop_at ?_))
  k_with "!call ref" => ((fail_if_success(fail_if_success have:=on32));(k_here;(with_reducible show wpAny _ _ (call (Value.ref 112) _) _ _ _);refine stop_at ?_))
  k_with "!call builtin:len" => ((fail_if_success(fail_if_success have:=on32));(k_here;(with_reducible show wpAny _ _ (call (Value.builtin _) [Value.ref _]) _ _ _);refine stop_at ?_))
  exact trivial
theorem tight_use {B : BkA} {tr : List TRec} {BL : Led} {kind : Int} {ra ta ba : Addr} {ts : List Term3} {vs : List Value} {rel : Str} {bp : Int} {tr1 u1 u2 : Tok} (Z : Sit w dp un cs outer A₀ base h₀ L m mean mg mb s all 10 240) (hB : Bk w B tr BL) (hX : BankX B.es) (hs : ∀ p ∈ BL,p ∈ all) (hk12 : kind = 1 ∨ kind = 2)
    (hh : (ra,tup [.ref ta,.str rel tr1,.ref ba]) ∈ all ∧ (ba,tup [.int bp u1,.int 1 u2]) ∈ all ∧ (ta,tup vs) ∈ all ∧ TermsIn all vs ts ∧ WholeT ts ∧ VarT tr kind ts ∧ RelOk rel ∧ (-1000 ≤ bp ∧ bp ≤ 1000))
    (ret : ∀ rb led' h' tk' ts' rel' bp' bq',Fr h₀ L h' m → After h₀ L s.heap all h' led' → (∀ p ∈ all,p ∈ led') → RowAt led' rb ts' rel' bp' bq' → TightR kind ts rel bp ts' rel' bp' bq' → Q (.ref rb) { s with heap := h',toks := tk' }) :
    wpAny (model PG w) (ktrTop dp un gd cn cs L a₁ ccd ce outer) (call (.ref 817) [.ref B.b,.ref ra]) Q E s := by
  apply bx;simp(disch:=k_dflt(
  obtain ⟨Bl,F,X,N,T,hk,hd,hu⟩ := Z
  refine x0_8 hh ?_;(try clear hh)
  intro m1 m2 m3 hT hW hV hrel b1
  have hg := wf_bd hW
  k_dflt (apply call_at (binds := [(Str.ofString "bank",Value.ref B.b),(Str.ofString "row",Value.ref ra)]));k_extra "H:o_rest"
  k_steps
  refine stop_go ?_
  (try k_extra "H:folds")
  k_dflt (refine wholerow_use ⟨by k_asm,by k_asm,by k_asm,by k_asm,by k_asm,by first | exact rfl | assumption,by ktr_room,by ktr_units⟩ ⟨m1,m2,m3,hT,hW,hrel,b1⟩ ?_)
  intro rb led5 h5 tk5 ts5 bp5 bq5 F5 A5 hs5 hrow hwr
  have N5 := A5.news
  refine x5_3 (id hrow) ?_
  intro ta2 ba2 tr2 u3 u4 r1 r2 zq1
  refine x1_2 zq1 ?_;(try clear zq1)
  intro vs2 r3 r4
  have hvl := r4.length
  by_cases he : rel = Str.ofString "="
  · subst he
    k_steps
    exact ret _ _ _ _ _ _ _ _ (by assumption) ((after_of (by assumption) (by assumption) (by assumption) (by assumption))) (fun p hp => by first | exact hs5 p hp | exact .tail _ (hs5 p hp)) (by first | exact hrow | exact hrow.mono' (sub_tail sub_refl)) (.inl ⟨.inl rfl,rfl,hwr⟩)
  · have he2 : (rel == Str.ofString "=") = false := beq_eq_false_iff_ne.mpr he
    obtain ⟨rfl,rfl,rfl⟩ : ts5 = baseT ts ∧ bp5 = baseP ts bp ∧ bq5 = baseQ ts bp := by
      rcases hwr with h | ⟨h,_⟩
      · exact h
      · exact absurd h he
    have hvl2 : vs2.length = ts.length := by rw [hvl,baseT,List.length_map]
    have hl2 := hV.1
    have hbd := low_bd (p := bp * 1) (q := 1 * wfOf ts) (K := 1000) (by rw [Int.mul_one];exact b1) (by rw [Int.one_mul];exact hg)
    k_steps
    refine stop_go ?_
    (try k_extra "H:folds")
    rename News _ _ _ _ => N6
    k_dflt (refine len_tupL N6 (by first | exact r3 | exact .tail _ r3) (by omega) fun t7 tk7 => ?_)
    by_cases hemp : ts = []
    · have e0 : (vs2.length : Int) = 0 := by rw [hvl2,hemp];rfl
      rw [e0]
      k_steps
      exact ret _ _ _ _ _ _ _ _ (by assumption) ((after_of (by assumption) (by assumption) (by assumption) (by assumption))) (fun p hp => by first | exact hs5 p hp | exact .tail _ (hs5 p hp)) (by first | exact hrow | exact hrow.mono' (sub_tail sub_refl)) (.inl ⟨.inr (.inl hemp),rfl,hwr⟩)
    · have hpos : 0 < ts.length := List.length_pos_iff.mpr hemp
      have e0 : (vs2.length : Int) ≠ 0 := by omega
      k_steps
      refine stop_go ?_
      (try k_extra "H:folds")
      k_dflt (refine has_use (kind := kind) (ts := baseT ts) ⟨by k_asm,by k_asm,by k_asm,by k_asm,by k_asm,by first | exact rfl | assumption,by ktr_room,by ktr_units⟩ hB hX (fun p hp => by first | exact hs5 p (hs p hp) | exact .tail _ (hs5 p (hs p hp))) hk12 ⟨by k_mem,by k_mem,by first | exact r4 | exact r4.mono (sub_tail sub_refl),base_var hV hW⟩ ?_)
      intro h8 tk8 F8 N8
      have hemp2 : (baseT ts).isEmpty = false := by
        cases ts with
        | nil => exact absurd rfl hemp
        | cons _ _ => rfl
      rw [hemp2,Bool.or_false]
      rcases hk12 with rfl | rfl
      · have e1 : ((1 : Int) == 1) = true := rfl
        rw [e1]
        rcases hrel with rfl | rfl | rfl
        · k_steps
          refine stop_go ?_
          (try k_extra "H:folds")
          rename News _ _ _ _ => N9
          k_dflt (refine iswhole_use (p := baseP ts bp) (q := baseQ ts bp) ⟨by k_asm,by k_asm,by k_asm,by k_asm,by k_asm,by first | exact rfl | assumption,by ktr_room,by ktr_units⟩ ⟨_,_,news_tup N9 r2⟩ ?_)
          intro h10 tk10 F10 N10
          by_cases hq : baseQ ts bp = 1
          · have e2 : (baseQ ts bp == 1) = true := by rw [hq];rfl
            rw [e2]
            k_steps
            refine stop_go ?_
            (try k_extra "H:folds")
            rename Fr _ _ _ _ => F11
            rename News _ _ _ _ => N11
            k_dflt (refine sub_use (p := baseP ts bp) (q := 1) ⟨by k_asm,by k_asm,by k_asm,by k_asm,by k_asm,by first | exact rfl | assumption,by ktr_room,by ktr_units⟩ ?_ ((pin_one (T := led5)).pairH F11 N11 (by assumption) sub_all) ?_)
            · have := news_tup N11 r2
              rw [hq] at this
              exact ⟨_,_,this⟩
            intro d t3 t4 led12 h12 tk12 F12 N12 hs12 hd12
            k_steps
            exact ret _ _ _ _ _ _ _ _ (by assumption) (after_of (by assumption) (by assumption) (by assumption) (by assumption)) (fun p hp => .tail _ (hs12 _ (hs5 p hp))) ⟨_,_,_,_,_,.head _,.tail _ hd12,vs2,.tail _ (hs12 _ r3),r4.mono (fun p hp => .tail _ (hs12 p hp))⟩ (.inr ⟨by decide +kernel,hemp,rfl,rfl,rfl,rfl,.inl ⟨rfl,hq,rfl⟩⟩)
          · have e2 : (baseQ ts bp == 1) = false := beq_eq_false_iff_ne.mpr hq
            rw [e2]
            k_steps
            refine stop_go ?_
            (try k_extra "H:folds")
            rename News _ _ _ _ => N11
            k_dflt (refine floor_use (p := baseP ts bp) (q := baseQ ts bp) ⟨by k_asm,by k_asm,by k_asm,by k_asm,by k_asm,by first | exact rfl | assumption,by ktr_room,by ktr_units⟩ ⟨_,_,news_tup N11 r2⟩ hbd.2 ?_)
            intro t12 h12 tk12 F12 N12
            refine x0_2 (fdiv_bd_pos (a := baseP ts bp) (d := baseQ ts bp) (K := 1000) (by have h : 1 ≤ baseQ ts bp := hbd.2.1;omega) hbd.1.1 hbd.1.2 (by decide)) ?_
            intro f1 f2
            k_steps
            refine stop_go ?_
            (try k_extra "H:folds")
            k_dflt (refine' (ratiof_spec w (a := Int.fdiv (baseP ts bp) (baseQ ts bp)) (b := 1) (Int.le_trans (by decide) f1) (Int.le_trans f2 (by decide)) (by decide) (by decide) (by decide)).use ?S sub_nil ?_;(case S => exact ⟨by k_asm,by k_asm,by k_asm,by k_asm,by k_asm,by first | exact rfl | assumption,by ktr_room,by ktr_units⟩))
            intro r13 led13 h13 tk13 F13 A13 zq2
            refine x5_3 zq2 ?_;(try clear zq2)
            intro d x y t3 t4
            rintro rfl
            intro hm hl
            refine x0_2 (lowest_whole hl) ?_
            rintro rfl
            rintro rfl
            have N13 := A13.cons (A13.pure N12 sub_nil sub_nil) hm
            clear N12
            k_steps
            exact ret _ _ _ _ _ _ _ _ (by assumption) (after_of (by assumption) (by assumption) (by assumption) (by assumption)) (fun p hp => .tail _ (.tail _ (hs5 p hp))) ⟨_,_,_,_,_,.head _,.tail _ (.head _),vs2,.tail _ (.tail _ r3),r4.mono (sub_tail (sub_tail sub_refl))⟩ (.inr ⟨by decide +kernel,hemp,rfl,rfl,rfl,rfl,.inr ⟨.inr hq,rfl⟩⟩)
        · k_steps
          refine stop_go ?_
          (try k_extra "H:folds")
          rename News _ _ _ _ => N11
          k_dflt (refine floor_use (p := baseP ts bp) (q := baseQ ts bp) ⟨by k_asm,by k_asm,by k_asm,by k_asm,by k_asm,by first | exact rfl | assumption,by ktr_room,by ktr_units⟩ ⟨_,_,news_tup N11 r2⟩ hbd.2 ?_)
          intro t12 h12 tk12 F12 N12
          refine x0_2 (fdiv_bd_pos (a := baseP ts bp) (d := baseQ ts bp) (K := 1000) (by have h : 1 ≤ baseQ ts bp := hbd.2.1;omega) hbd.1.1 hbd.1.2 (by decide)) ?_
          intro f1 f2
          k_steps
          refine stop_go ?_
          (try k_extra "H:folds")
          k_dflt (refine' (ratiof_spec w (a := Int.fdiv (baseP ts bp) (baseQ ts bp)) (b := 1) (Int.le_trans (by decide) f1) (Int.le_trans f2 (by decide)) (by decide) (by decide) (by decide)).use ?S sub_nil ?_;(case S => exact ⟨by k_asm,by k_asm,by k_asm,by k_asm,by k_asm,by first | exact rfl | assumption,by ktr_room,by ktr_units⟩))
          intro r13 led13 h13 tk13 F13 A13 zq3
          refine x5_3 zq3 ?_;(try clear zq3)
          intro d x y t3 t4
          rintro rfl
          intro hm hl
          refine x0_2 (lowest_whole hl) ?_
          rintro rfl
          rintro rfl
          have N13 := A13.cons (A13.pure N12 sub_nil sub_nil) hm
          clear N12
          k_steps
          exact ret _ _ _ _ _ _ _ _ (by assumption) (after_of (by assumption) (by assumption) (by assumption) (by assumption)) (fun p hp => .tail _ (.tail _ (hs5 p hp))) ⟨_,_,_,_,_,.head _,.tail _ (.head _),vs2,.tail _ (.tail _ r3),r4.mono (sub_tail (sub_tail sub_refl))⟩ (.inr ⟨by decide +kernel,hemp,rfl,rfl,rfl,rfl,.inr ⟨.inl (by decide +kernel),rfl⟩⟩)
        · exact absurd rfl he
      · have e1 : ((2 : Int) == 1) = false := rfl
        rw [e1]
        k_steps
        exact ret _ _ _ _ _ _ _ _ (by assumption) ((after_of (by assumption) (by assumption) (by assumption) (by assumption))) (fun p hp => by first | exact hs5 p hp | exact .tail _ (hs5 p hp)) (by first | exact hrow | exact hrow.mono' (sub_tail sub_refl)) (.inl ⟨.inr (.inr (by decide)),rfl,hwr⟩)
  ))only[↓bx_eq]
end
end
section
noncomputable def canonT (D : Int → Int) : List Term3 := (if D 3 ≠ 0 then [((3 : Int),D 3,(1 : Int))] else []) ++ (if D 4 ≠ 0 then [((4 : Int),D 4,(1 : Int))] else [])
theorem sorted_two {ns : List Int} (hn : ns.Nodup) (hs : ns.Pairwise (· ≤ ·)) (h : ∀ x ∈ ns,x = 3 ∨ x = 4) : ns = (if (3 : Int) ∈ ns then [3] else []) ++ (if (4 : Int) ∈ ns then [4] else []) := by
  cases ns with
  | nil => simp
  | cons a r =>
    cases r with
    | nil => rcases h a (.head _) with rfl | rfl <;> simp
    | cons b r =>
      cases r with
      | nil =>
        have h1 := h a (.head _)
        have h2 := h b (.tail _ (.head _))
        simp only [List.nodup_cons,List.mem_cons,List.not_mem_nil,or_false] at hn
        have h3 := (List.pairwise_cons.mp hs).1 b (.head _)
        have e1 : a = 3 := by omega
        have e2 : b = 4 := by omega
        subst e1;subst e2
        simp
      | cons c r =>
        have := two_keys hn h
        simp only [List.length_cons] at this
        omega
theorem canon_of {ts : List TRec} {rs : List (Int × Int)} {ns : List Int} {D : Int → Int} (hp : ns.Perm (rs.map (·.1))) (hs : ns.Pairwise (· ≤ ·)) (hn : (rs.map (·.1)).Nodup) (ok : PsOk ts rs) (hv : VarsOk ts) (hD : ∀ x,x ≠ 0 → (look rs x).getD 0 = D x) : termsOf rs ns = canonT D := by
  have hk : ∀ x,x ≠ 0 → (x ∈ ns ↔ D x ≠ 0) := fun x hx => by
    rw [hp.mem_iff,← hD x hx]
    constructor
    · intro h
      refine x1_1 (look_some h) ?_
      intro f e
      rw [e,Option.getD_some]
      exact (ok _ (look_mem e)).1
    · intro h
      cases e : look rs x with
      | none => rw [e] at h;exact absurd rfl h
      | some f => exact List.mem_map.mpr ⟨_,look_mem e,rfl⟩
  have h34 : ∀ x ∈ ns,x = 3 ∨ x = 4 := fun x hx => by
    refine x1_2 (List.mem_map.mp (hp.mem_iff.mp hx)) ?_
    intro y hy
    rintro rfl
    refine x3_2 ((ok y hy).2) ?_
    intro i srt d e1 e2
    have := hv i srt d e2
    omega
  have e := sorted_two (hp.nodup_iff.mpr hn) hs h34
  rw [e]
  simp only [hk 3 (by decide),hk 4 (by decide)]
  unfold canonT termsOf
  split <;> split <;> simp [hD]
theorem canon_whole {D : Int → Int} (h : ∀ x,-1000 ≤ D x ∧ D x ≤ 1000) : WholeT (canonT D) := by
  unfold canonT
  refine ⟨?_,fun t ht => ?_⟩
  · split <;> split <;> simp
  · have h3 := h 3
    have h4 := h 4
    rcases List.mem_append.mp ht with ht | ht
    · split at ht
      · rw [List.mem_singleton.mp ht];exact ⟨rfl,h3⟩
      · cases ht
    · split at ht
      · rw [List.mem_singleton.mp ht];exact ⟨rfl,h4⟩
      · cases ht
theorem neg_whole {ts : List Term3} (h : WholeT ts) : WholeT (ts.map negT) := by
  refine ⟨by rw [List.length_map];exact h.1,fun t ht => ?_⟩
  refine x1_2 (List.mem_map.mp ht) ?_
  intro u hu
  rintro rfl
  have := h.2 u hu
  simp only [negT]
  omega
theorem neg_var {tr : List TRec} {kind : Int} {ts : List Term3} (h : VarT tr kind ts) : VarT tr kind (ts.map negT) := by
  refine ⟨by rw [List.length_map];exact h.1,fun t ht => ?_⟩
  refine x1_2 (List.mem_map.mp ht) ?_
  intro u hu
  rintro rfl
  exact h.2 u hu
noncomputable def KindOk (ts : List TRec) (kind : Int) : Prop := ∀ (i : Nat) (srt d : Int),ts[i]? = some (varR srt d) → srt = kind
theorem terms_var {ts : List TRec} {rs : List (Int × Int)} {ns : List Int} {kind : Int} (hp : ns.Perm (rs.map (·.1))) (ok : PsOk ts rs) (hv : VarsOk ts) (hk : KindOk ts kind) (hl : ns.length ≤ 2) : VarT ts kind (termsOf rs ns) := by
  refine ⟨by rw [termsOf,List.length_map];exact hl,fun t ht => ?_⟩
  refine x1_2 (List.mem_map.mp ht) ?_
  intro k hk1
  rintro rfl
  refine x1_2 (List.mem_map.mp (hp.mem_iff.mp hk1)) ?_
  intro y hy
  rintro rfl
  refine x3_2 ((ok y hy).2) ?_
  intro i srt d e1 e2
  have h1 := hv i srt d e2
  have h2 := hk i srt d e2
  subst h2
  exact ⟨rfl,i,d,e1,e2,by omega⟩
section
theorem g33.on33 : True := trivial
open g33
theorem set_64 : True := by
  k_with "!call ref" => ((fail_if_success(fail_if_success have:=on33));(k_here;(with_reducible show wpAny _ _ (call (Value.ref 779) _) _ _ _);refine stop_at ?_))
  k_with "!call ref" => ((fail_if_success(fail_if_success have:=on33));(k_here;(with_reducible show wpAny _ _ (call (Value.ref 789) _) _ _ _);refine stop_at ?_))
  k_with "!call ref" => ((fail_if_success(fail_if_success have:=on33));(k_here;(with_reducible show wpAny _ _ (call (Value.ref 817) _) _ _ _);refine stop_at ?_))
  exact trivial
theorem literal_spec (w : World) {B : BkA} {ts : List TRec} {BL : Led} {k i j : Nat} {rel : Str} {t1 : Tok} {C1 C2 : Int → Int} {r : TRec} {kind : Int} {hold : Bool} (hB : Bk w B ts BL) (hX : BankX B.es) (hk9 : k ≤ 1000) (hr : ts[k]? = some (atomR rel i j)) (hrel : RelOk rel) (hri : ts[i]? = some r) (e : r.sort = 1 ∨ r.sort = 2)
    (h1 : PlusOk ts i C1) (h2 : PlusOk ts j C2) (hv : VarsOk ts) (hv0 : ∀ srt d,ts[0]? ≠ some (varR srt d)) (hkd : KindOk ts kind) (hk12 : kind = 1 ∨ kind = 2) (hb1 : ∀ x,-400 ≤ C1 x ∧ C1 x ≤ 400) (hb2 : ∀ x,-400 ≤ C2 x ∧ C2 x ≤ 400) :
    Spec w 824 [.ref B.b,.int (k : Int) t1,.bool hold] 16 800 BL fun rv led' => (∀ p ∈ BL,p ∈ led') ∧
      ((hold = false ∧ rel = Str.ofString "=" ∧ rv = .none) ∨
       ((hold = true ∨ rel ≠ Str.ofString "=") ∧ ∃ rb ts' rel' bp' bq',rv = .ref rb ∧ RowAt led' rb ts' rel' bp' bq' ∧
        TightR kind (if hold = true then canonT (fun x => C1 x - C2 x) else (canonT (fun x => C1 x - C2 x)).map negT) (if hold = true then rel else negRel rel) (if hold = true then C2 0 - C1 0 else C1 0 - C2 0) ts' rel' bp' bq')) := by
  apply bx;simp(disch:=k_dflt(
  unfold Spec
  intro dp un gd cn cs a₁ ccd ce outer A₀ base h₀ L m mean mg mb s Q E B' F X N Tp hk hd hu hret
  have hbD : ∀ x,-1000 ≤ C1 x - C2 x ∧ C1 x - C2 x ≤ 1000 := fun x => by have := hb1 x;have := hb2 x;omega
  have hb0 := hbD 0
  k_dflt (apply call_at (binds := [(Str.ofString "bank",Value.ref B.b),(Str.ofString "atom",Value.int (k : Int) t1),(Str.ofString "holds",Value.bool hold)]));k_extra "H:o_rest"
  k_steps
  refine stop_go ?_
  (try k_extra "H:folds")
  k_dflt (refine' (rowatom_spec w hB hX hk9 hr hrel hri e h1 h2 hv hv0 (fun x => by have := hb2 x;omega)).use ?S sub_all ?_;(case S => exact ⟨by k_asm,by k_asm,by k_asm,by k_asm,by k_asm,by first | exact rfl | assumption,by ktr_room,by ktr_units⟩))
  intro r1 led1 h5 tk5 F5 A5 zq1
  obtain ⟨ra,rs,ns,rfl,b1,hperm,hsrt,hnd,ok,hD,hrow⟩ := zq1
  have N5 := A5.news
  have hnl : ns.length ≤ 2 := by
    have e1 := hperm.length_eq
    have e2 := psok_len ok hnd hv
    rw [List.length_map] at e1;omega
  have hV := terms_var hperm ok hv hkd hnl
  have hcan := canon_of hperm hsrt hnd ok hv hD
  have hW := canon_whole (D := fun x => C1 x - C2 x) hbD
  rw [hcan] at hrow hV
  have e0 : -(C1 0 - C2 0) = C2 0 - C1 0 := by omega
  rw [e0] at hrow
  refine x5_3 (id hrow) ?_
  intro ta ba tr u1 u2 m1 m2 zq2
  refine x1_2 zq2 ?_;(try clear zq2)
  intro vs m3 m4
  cases hold
  · k_steps
    refine stop_go ?_
    (try k_extra "H:folds")
    k_dflt (refine negrow_use (ts := canonT fun x => C1 x - C2 x) (rel := rel) ⟨by k_asm,by k_asm,by k_asm,by k_asm,by k_asm,by first | exact rfl | assumption,by ktr_room,by ktr_units⟩ ⟨m1,m2,⟨vs,m3,m4⟩,Nat.le_succ_of_le hW.1,hrel⟩ ?_)
    intro v6 led6 h6 tk6 F6 A6 hs6 hv6
    have N6 := A6.news
    by_cases he : rel = Str.ofString "="
    · rw [if_pos he] at hv6
      subst hv6
      k_steps
      exact hret _ _ _ _ (by assumption) (after_of (by assumption) (by assumption) (by assumption) (by assumption)) ⟨fun p hp => hs6 p (b1 p hp),.inl ⟨rfl,he,rfl⟩⟩
    · rw [if_neg he] at hv6
      refine x1_2 hv6 ?_;(try clear hv6)
      intro rb
      rintro rfl
      intro hrow6
      have e7 : -(C2 0 - C1 0) = C1 0 - C2 0 := by omega
      rw [e7] at hrow6
      refine x5_3 (id hrow6) ?_
      intro ta2 ba2 tr2 u3 u4 n1 n2 zq3
      refine x1_2 zq3 ?_;(try clear zq3)
      intro vs2 n3 n4
      k_steps
      refine stop_go ?_
      (try k_extra "H:folds")
      rename News _ _ _ _ => N7
      k_dflt (refine tight_use (kind := kind) ⟨by k_asm,by k_asm,by k_asm,N7,by k_asm,by first | exact rfl | assumption,by ktr_room,by ktr_units⟩ hB hX (fun p hp => hs6 p (b1 p hp)) hk12 ⟨n1,n2,n3,n4,neg_whole hW,neg_var hV,negRel_ok rel,by omega⟩ ?_)
      intro rb2 led8 h8 tk8 ts' rel' bp' bq' F8 A8 hs8 hrow8 htight
      have N8 := A8.news
      k_steps
      exact hret _ _ _ _ (by assumption) (after_of (by assumption) (by assumption) (by assumption) (by assumption)) ⟨fun p hp => hs8 p (hs6 p (b1 p hp)),.inr ⟨.inr he,rb2,ts',rel',bp',bq',rfl,hrow8,htight⟩⟩
  · k_steps
    refine stop_go ?_
    (try k_extra "H:folds")
    k_dflt (refine tight_use (kind := kind) ⟨by k_asm,by k_asm,by k_asm,by k_asm,by k_asm,by first | exact rfl | assumption,by ktr_room,by ktr_units⟩ hB hX b1 hk12 ⟨m1,m2,m3,m4,hW,hV,hrel,by omega⟩ ?_)
    intro rb led6 h6 tk6 ts' rel' bp' bq' F6 A6 hs6 hrow6 htight
    have N6 := A6.news
    k_steps
    exact hret _ _ _ _ (by assumption) (after_of (by assumption) (by assumption) (by assumption) (by assumption)) ⟨fun p hp => hs6 p (b1 p hp),.inr ⟨.inl rfl,rb,ts',rel',bp',bq',rfl,hrow6,htight⟩⟩
  ))only[↓bx_eq]
end
end
section
section
open LCg LCp
variable {prog : Program} {w : World} {A : Around} {E : Value → Shared → Prop} {s : Shared} {h₀ : Heap} {L : Addr} {m : Mp} {env : Env}
noncomputable def ZSt (h : Heap) (I l1 l2 : Addr) (xs ys : List Value) (i : Nat) : Prop :=
  IsZip h (I + 4) (I + 2) (I + 3) .none ∧ IsPair h (I + 2) (.ref I) (.ref (I + 1)) ∧ (∃ a b,IsPair h (I + 3) a b) ∧ h.IsListIter I l1 i ∧ h.IsListIter (I + 1) l2 i ∧ h.IsList l1 xs.toArray ∧ h.IsList l2 ys.toArray
noncomputable def zipLed (I : Addr) (q1 q2 q3 q4 q5 : Obj) : Led := [(I + 4,q1),(I + 2,q2),(I + 3,q3),(I,q4),(I + 1,q5)]
noncomputable def ZipEnd (h₀ : Heap) (L : Addr) (m : Mp) (s₁ : Shared) (its : Led) (J : Value → Led → Prop) (y : Value) (s' : Shared) : Prop :=
  ∃ h' tk' led',s' = { s₁ with heap := h',toks := tk' } ∧ Fr h₀ L h' m ∧ News h₀ L h' (its ++ led') ∧ (∀ p ∈ its,∀ q ∈ led',q.1 ≠ p.1) ∧ J y led'
noncomputable def ZipStep (prog : Program) (w : World) (A : Around) (h₀ : Heap) (L : Addr) (m : Mp) (env : Env) (elt : Expr) (x x₂ : Str) (scope : Scope) (cl : List (Str × Addr)) (s₁ : Shared) (I : Addr) (xs ys : List Value) (J : Nat → List Value → Led → Prop) : Prop :=
  ∀ i zs led v₁ v₂,xs[i]? = some v₁ → ys[i]? = some v₂ → J i zs led → ∀ C oC D q1 q2 q3 q4 q5 m₂ h tk (E' : Value → Shared → Prop),NsObj oC m₂ → m₂ x = some v₁ → m₂ x₂ = some v₂ → Fr h₀ L h m →
    News h₀ L h (((C,oC) :: (D,lst zs) :: zipLed I q1 q2 q3 q4 q5) ++ led) → (∀ p ∈ (C,oC) :: (D,lst zs) :: zipLed I q1 q2 q3 q4 q5,∀ q ∈ led,q.1 ≠ p.1) →
    wpAny (model prog w) A (eval elt (compEnvC scope cl C env)) (ZipEnd h₀ L m { s₁ with heap := h,toks := tk } ((C,oC) :: (D,lst zs) :: zipLed I q1 q2 q3 q4 q5) (fun y led' => J (i + 1) (zs ++ [y]) led')) E' { s₁ with heap := h,toks := tk }
inductive SrcZ (prog : Program) (w : World) (A : Around) (h₀ : Heap) (L : Addr) (m : Mp) (env : Env) (elt : Expr) (x x₂ : Str) (scope : Scope) (cl : List (Str × Addr)) (Fin : Shared → List Value → Led → Prop) (xv : Value) (s₁ : Shared) : Prop
  | mk (I l1 l2 : Addr) (xs ys : List Value) (n1 n2 : Nat) (led : Led) (J : Nat → List Value → Led → Prop) (c1 : xv = .ref (I + 4)) (c2 : A.handled = none) (c3 : Fr h₀ L s₁.heap m) (c4 : News h₀ L s₁.heap led) (c5 : ∀ p ∈ led,@LT.lt Nat _ p.1 I) (c6 : @LT.lt Nat _ L I) (c7 : @LT.lt Nat _ l1 I) (c8 : @LT.lt Nat _ l2 I) (c9 : ZSt s₁.heap I l1 l2 xs ys 0) (c10 : ∀ k,@LE.le Nat _ I k → h₀.get? k = none) (c11 : @LE.le Nat _ (I + 5) s₁.heap.objs.size)
    (c12 : min xs.length ys.length ≤ sizeLine) (c13 : J 0 [] led) (c14 : ∀ i zs led,J i zs led → (l1,listOf xs.toArray n1) ∈ led ∧ (l2,listOf ys.toArray n2) ∈ led) (c15 : ∀ g,ZipStep prog w A h₀ L m env elt x x₂ scope cl { s₁ with heap := g } I xs ys J)
    (c16 : ∀ zs led,J (min xs.length ys.length) zs led → Fin s₁ zs led) : SrcZ prog w A h₀ L m env elt x x₂ scope cl Fin xv s₁
theorem zip_src {elt : Expr} {x x₂ : Str} {scope : Scope} {cl : List (Str × Addr)} {Fin : Shared → List Value → Led → Prop} {l1 l2 : Addr} {xs ys : List Value} {n1 n2 : Nat} {led : Led} (J : Nat → List Value → Led → Prop) (hh : A.handled = none) (F : Fr h₀ L s.heap m) (N : News h₀ L s.heap led)
    (hm1 : (l1,listOf xs.toArray n1) ∈ led) (hm2 : (l2,listOf ys.toArray n2) ∈ led) (hz : min xs.length ys.length ≤ sizeLine) (h0 : J 0 [] led) (hJ : ∀ i zs led,J i zs led → (l1,listOf xs.toArray n1) ∈ led ∧ (l2,listOf ys.toArray n2) ∈ led)
    (step : ∀ g I,(∀ p ∈ led,@LT.lt Nat _ p.1 I) → ZipStep prog w A h₀ L m env elt x x₂ scope cl { s with heap := g } I xs ys J)
    (fin : ∀ g zs led,J (min xs.length ys.length) zs led → Fin { s with heap := g } zs led) :
    wpAny (model prog w) A (call (.type "zip") [.ref l1,.ref l2]) (SrcZ prog w A h₀ L m env elt x x₂ scope cl Fin) E s := by
  have hl1 : s.heap.IsList l1 xs.toArray := ⟨_,(N _ hm1).1,rfl,_,rfl⟩
  have hl2 : s.heap.IsList l2 ys.toArray := ⟨_,(N _ hm2).1,rfl,_,rfl⟩
  refine call_zip_2 hl1 hl2 fun h' hz' hTI hTO hi1 hi2 hsz hk => ?_
  exact ⟨s.heap.objs.size,l1,l2,xs,ys,n1,n2,led,J,rfl,hh,F.keeps hk,N.grown hk,fun p hp => Heap.lt_size (N p hp).1,F.ns.lt,Heap.lt_size (N _ hm1).1,Heap.lt_size (N _ hm2).1,⟨hz',hTI,⟨_,_,hTO⟩,hi1,hi2,hl1.at fun o e => hk _ o e,hl2.at fun o e => hk _ o e⟩,fun k hk => ktu_new F hk,Nat.le_of_eq hsz.symm,hz,h0,hJ,fun g => step g _ fun p hp => Heap.lt_size (N p hp).1,fin _⟩
theorem off1_of {D : Addr} {led : Led} (h : ∀ q ∈ led,q.1 ≠ D) : Off1 D led := by
  induction led with
  | nil => trivial
  | cons p r ih => exact ⟨h p (.head _),ih fun q hq => h q (.tail _ hq)⟩
inductive ZipInv (h₀ : Heap) (L : Addr) (m : Str → Option Value) (s₁ : Shared) (I C D l1 l2 : Addr) (xs ys : List Value) (J : Nat → List Value → Led → Prop) (k : Nat) (s' : Shared) : Prop
  | mk (h' : Heap) (tk' i : Nat) (zs : List Value) (m' : Str → Option Value) (led' : Led) (c1 : s' = { s₁ with heap := h',toks := tk' }) (c2 : i ≤ min xs.length ys.length) (c3 : k = min xs.length ys.length + 1 - i) (c4 : zs.length = i) (c5 : ZSt h' I l1 l2 xs ys i) (c6 : h'.Ns C m')
      (c7 : Fr h₀ L h' m) (c8 : News h₀ L h' ((D,lst zs) :: led')) (c9 : ∀ q ∈ led',q.1 ≠ C ∧ q.1 ≠ D ∧ q.1 ≠ I + 4 ∧ q.1 ≠ I + 2 ∧ q.1 ≠ I + 3 ∧ q.1 ≠ I ∧ q.1 ≠ I + 1) (c10 : J i zs led') : ZipInv h₀ L m s₁ I C D l1 l2 xs ys J k s'
theorem ni4 {I C : Nat} (h : I + 5 ≤ C) : C ∉ [I + 4,I + 3,I,I + 1] := fun hm => by
  simp only [List.mem_cons,List.not_mem_nil,or_false] at hm
  omega
theorem ni4L {I L : Nat} (h : L < I) : L ∉ [I + 4,I + 3,I,I + 1] := fun hm => by
  simp only [List.mem_cons,List.not_mem_nil,or_false] at hm
  omega
theorem ni4o {I C D q : Nat} (h : q ≠ C ∧ q ≠ D ∧ q ≠ I + 4 ∧ q ≠ I + 2 ∧ q ≠ I + 3 ∧ q ≠ I ∧ q ≠ I + 1) : q ∉ [I + 4,I + 3,I,I + 1] := fun hm => by
  simp only [List.mem_cons,List.not_mem_nil,or_false] at hm
  omega
theorem ni4h {h₀ : Heap} {I : Nat} (nn : ∀ k,@LE.le Nat _ I k → h₀.get? k = none) {b : Nat} {o : Obj} (e : h₀.get? b = some o) : b ∉ [I + 4,I + 3,I,I + 1] := fun hm => by
  have : I ≤ b := by
    simp only [List.mem_cons,List.not_mem_nil,or_false] at hm
    omega
  rw [nn b this] at e
  cases e
theorem ni7 {I C l1 l2 b : Nat} (h : I + 5 ≤ C) (h1 : l1 < I) (h2 : l2 < I) (hb : b ∈ [I + 4,I + 2,I + 3,I,I + 1,l1,l2]) : b ≠ C := by
  have hk : ∀ k,k < 5 → I + k < C := fun k hk => Nat.lt_of_lt_of_le (Nat.add_lt_add_left hk I) h
  have hI : I < C := hk 0 (by decide)
  exact Nat.ne_of_lt ((List.forall_mem_cons (p := fun b => b < C)).mpr ⟨hk 4 (by decide),List.forall_mem_cons.mpr ⟨hk 2 (by decide),List.forall_mem_cons.mpr ⟨hk 3 (by decide),List.forall_mem_cons.mpr ⟨hI,List.forall_mem_cons.mpr ⟨hk 1 (by decide),List.forall_mem_cons.mpr ⟨Nat.lt_trans h1 hI,List.forall_mem_cons.mpr ⟨Nat.lt_trans h2 hI,fun _ h => absurd h List.not_mem_nil⟩⟩⟩⟩⟩⟩⟩ b hb)
theorem mem7 {P : Addr → Prop} {a b c d e f g x : Addr} (ha : P a) (hb : P b) (hc : P c) (hd : P d) (he : P e) (hf : P f) (hg : P g) (h : x ∈ [a,b,c,d,e,f,g]) : P x := by
  simp only [List.mem_cons,List.not_mem_nil,or_false] at h
  rcases h with rfl | rfl | rfl | rfl | rfl | rfl | rfl <;> assumption
theorem news7 {h₀ h : Heap} {L : Addr} {a b c d e f g : Addr × Obj} {l : Led} (ha : h.get? a.1 = some a.2 ∧ a.1 ≠ L ∧ h₀.get? a.1 = none) (hb : h.get? b.1 = some b.2 ∧ b.1 ≠ L ∧ h₀.get? b.1 = none) (hc : h.get? c.1 = some c.2 ∧ c.1 ≠ L ∧ h₀.get? c.1 = none) (hd : h.get? d.1 = some d.2 ∧ d.1 ≠ L ∧ h₀.get? d.1 = none) (he : h.get? e.1 = some e.2 ∧ e.1 ≠ L ∧ h₀.get? e.1 = none) (hf : h.get? f.1 = some f.2 ∧ f.1 ≠ L ∧ h₀.get? f.1 = none) (hg : h.get? g.1 = some g.2 ∧ g.1 ≠ L ∧ h₀.get? g.1 = none) (hl : News h₀ L h l) : News h₀ L h (a :: b :: c :: d :: e :: f :: g :: l) :=
  List.forall_mem_cons.mpr ⟨ha,List.forall_mem_cons.mpr ⟨hb,List.forall_mem_cons.mpr ⟨hc,List.forall_mem_cons.mpr ⟨hd,List.forall_mem_cons.mpr ⟨he,List.forall_mem_cons.mpr ⟨hf,List.forall_mem_cons.mpr ⟨hg,hl⟩⟩⟩⟩⟩⟩⟩
theorem off7 {C D I q : Nat} {o1 o2 o3 o4 o5 o6 o7 : Obj} (h : q ≠ C ∧ q ≠ D ∧ q ≠ I + 4 ∧ q ≠ I + 2 ∧ q ≠ I + 3 ∧ q ≠ I ∧ q ≠ I + 1) : ∀ p ∈ [(C,o1),(D,o2),(I + 4,o3),(I + 2,o4),(I + 3,o5),(I,o6),(I + 1,o7)],q ≠ p.1 :=
  List.forall_mem_cons.mpr ⟨h.1,List.forall_mem_cons.mpr ⟨h.2.1,List.forall_mem_cons.mpr ⟨h.2.2.1,List.forall_mem_cons.mpr ⟨h.2.2.2.1,List.forall_mem_cons.mpr ⟨h.2.2.2.2.1,List.forall_mem_cons.mpr ⟨h.2.2.2.2.2.1,List.forall_mem_cons.mpr ⟨h.2.2.2.2.2.2,fun _ h => nomatch h⟩⟩⟩⟩⟩⟩⟩
theorem stays7 {h₀ g₀ : Heap} {L L0 : Addr} {h h' : Heap} {its l1 l2 : Led} (N : News h₀ L h (its ++ l1)) (N' : News g₀ L0 h' (its ++ l2)) {p : Addr × Obj} (hp : p ∈ its) (o : Obj) (e : h.get? p.1 = some o) : h'.get? p.1 = some o := by
  rw [(N p (List.mem_append_left _ hp)).1] at e
  rw [← e]
  exact (N' p (List.mem_append_left _ hp)).1
theorem stays8 {h₀ g₀ : Heap} {L L0 : Addr} {h h' : Heap} {its l1 l2 : Led} (N : News h₀ L h (its ++ l1)) (N' : News g₀ L0 h' (its ++ l2)) {p : Addr × Obj} (hp : p ∈ l1) (hp' : p ∈ l2) (o : Obj) (e : h.get? p.1 = some o) : h'.get? p.1 = some o := by
  rw [(N p (List.mem_append_right _ hp)).1] at e
  rw [← e]
  exact (N' p (List.mem_append_right _ hp')).1
noncomputable def ZPt (xs ys : List Value) (i : Nat) (vals : Array Value) : Prop := ∃ x y,xs.toArray[i]? = some x ∧ ys.toArray[i]? = some y ∧ vals = #[x,y]
noncomputable def ZMid (I l1 l2 : Addr) (xs ys : List Value) (i : Nat) (T : Addr) (h : Heap) : Prop :=
  IsZip h (I + 4) (I + 2) (I + 3) (rawInt T) ∧ IsPair h (I + 2) (.ref I) (.ref (I + 1)) ∧ (∃ a b,IsPair h (I + 3) a b) ∧ h.IsListIter I l1 (i + 1) ∧ h.IsListIter (I + 1) l2 (i + 1) ∧ h.IsList l1 xs.toArray ∧ h.IsList l2 ys.toArray ∧ T ≠ I + 4 ∧ T ≠ I + 3 ∧ T ≠ I ∧ T ≠ I + 1
noncomputable def ZW (prog : Program) (w : World) (A : Around) (I l1 l2 : Addr) (xs ys : List Value) : Prop := WalksT prog w A (I + 4) [I + 4,I + 2,I + 3,I,I + 1,l1,l2] [I + 4,I + 3,I,I + 1] (min xs.length ys.length) (ZPt xs ys) (fun i h => ZSt h I l1 l2 xs ys i) (ZMid I l1 l2 xs ys)
section
variable {I l1 l2 : Addr} {xs ys : List Value} {i : Nat} {h h' : Heap} {gs : _} {dr : _} {tk : Nat} {os : _}
theorem zw_of (hh : A.handled = none) (lt1 : @LT.lt Nat _ l1 I) (lt2 : @LT.lt Nat _ l2 I) : ZW prog w A I l1 l2 xs ys := by
  have W := WalksT.zip2 (prog := prog) (w := w) (A := A) hh (I + 4) (I + 2) (I + 3) I (I + 1) l1 l2 (ktu_apart _ _ _ lt1 lt2) xs.toArray ys.toArray
  rw [show min xs.toArray.size ys.toArray.size = min xs.length ys.length by simp] at W
  exact W
theorem ZW.frame (W : ZW prog w A I l1 l2 xs ys) (st : ZSt h I l1 l2 xs ys i) (k : ∀ b ∈ [I + 4,I + 2,I + 3,I,I + 1,l1,l2],∀ o,h.get? b = some o → h'.get? b = some o) : ZSt h' I l1 l2 xs ys i := WalksT.frame W _ _ _ st k
theorem ZW.item (W : ZW prog w A I l1 l2 xs ys) {Q : Option Value → Shared → Prop} (hi : i < min xs.length ys.length) (st : ZSt h I l1 l2 xs ys i)
    (k : ∀ T v₁ v₂ h' tk,xs[i]? = some v₁ → ys[i]? = some v₂ → h'.IsTuple T #[v₁,v₂] → ZMid I l1 l2 xs ys i T h' → (∀ b o,b ∉ [I + 4,I + 3,I,I + 1] → h.get? b = some o → h'.get? b = some o) → Q (some (.ref T)) ⟨h',gs,dr,tk,os⟩) :
    wpAny (model prog w) A (pyNext (.ref (I + 4))) Q E ⟨h,gs,dr,tk,os⟩ := by
  refine WalksT.item W i ⟨h,gs,dr,tk,os⟩ _ _ hi st fun T vals h₂ tk₂ hP _ hT hMid hk => ?_
  refine x2_3 hP ?_
  intro v₁ v₂ hv₁ hv₂
  rintro rfl
  rw [List.getElem?_toArray] at hv₁ hv₂
  exact k T v₁ v₂ h₂ tk₂ hv₁ hv₂ hT hMid hk
theorem ZW.go (W : ZW prog w A I l1 l2 xs ys) {T : Addr} {elts : List Expr} {k : Nat} {pos : Pos} {Q : Unit → Shared → Prop} (hm : ZMid I l1 l2 xs ys i T h)
    (c : ∀ h',ZSt h' I l1 l2 xs ys (i + 1) → (∀ b o,b ∉ [I + 4,I + 3,I,I + 1] → h.get? b = some o → h'.get? b = some o) → Q () ⟨h',gs,dr,tk,os⟩) :
    wpAny (model prog w) A (letOwnedTupleGo (.Tuple elts k pos) (.ref (I + 4)) (.ref T)) Q E ⟨h,gs,dr,tk,os⟩ := WalksT.go W _ _ _ i T ⟨h,gs,dr,tk,os⟩ _ _ hm c
theorem ZW.off (W : ZW prog w A I l1 l2 xs ys) {T : Addr} (hm : ZMid I l1 l2 xs ys i T h) : T ∉ [I + 4,I + 3,I,I + 1] := WalksT.apart W i T _ hm
theorem ZW.fin (W : ZW prog w A I l1 l2 xs ys) {Q : Option Value → Shared → Prop} (st : ZSt h I l1 l2 xs ys (min xs.length ys.length)) (c : ∀ h' tk,(∀ b o,b ∉ [I + 4,I + 3,I,I + 1] → h.get? b = some o → h'.get? b = some o) → Q none ⟨h',gs,dr,tk,os⟩) :
    wpAny (model prog w) A (pyNext (.ref (I + 4))) Q E ⟨h,gs,dr,tk,os⟩ := WalksT.done W ⟨h,gs,dr,tk,os⟩ _ _ st c
end
theorem zip_block {e : Expr} {elt iter : Expr} {x x₂ : Str} {px px₂ tp : Pos} {tk} {scope : Scope} {cl : List (Str × Addr)} {pos : Pos} {s₁ : Shared} {RR : Value → Addr → Result → Shared → Prop} {I l1 l2 : Addr} {xs ys : List Value} {n1 n2 : Nat} {led : Led} {J : Nat → List Value → Led → Prop} (he : e = .ListComp elt [⟨.Tuple [.Name x px,.Name x₂ px₂] tk tp,iter,[],0⟩] scope pos)
    (hcell : ∀ y ∈ scope.names,y.2 ≠ .cell) (hkind : scope.kind = .function) (hx : scope.names.lookup x = some .local) (hx₂ : scope.names.lookup x₂ = some .local) (hxx : x ≠ x₂) (hh : A.handled = none)
    (F : Fr h₀ L s₁.heap m) (N : News h₀ L s₁.heap led) (ltI : ∀ p ∈ led,@LT.lt Nat _ p.1 I) (ltL : @LT.lt Nat _ L I) (lt1 : @LT.lt Nat _ l1 I) (lt2 : @LT.lt Nat _ l2 I) (st0 : ZSt s₁.heap I l1 l2 xs ys 0) (nn : ∀ k,@LE.le Nat _ I k → h₀.get? k = none) (hsz5 : @LE.le Nat _ (I + 5) s₁.heap.objs.size) (hsz : min xs.length ys.length ≤ sizeLine) (j0 : J 0 [] led)
    (hJ : ∀ i zs led,J i zs led → (l1,listOf xs.toArray n1) ∈ led ∧ (l2,listOf ys.toArray n2) ∈ led) (step : ZipStep prog w A h₀ L m env elt x x₂ scope cl s₁ I xs ys J)
    (hRR : ∀ D C h' tk m' zs led',Fr h₀ L h' m → News h₀ L h' ((D,lst zs) :: led') → Off1 D led' → h'.Ns C m' → h₀.get? C = none → h₀.get? D = none → @Ne Nat C L → @Ne Nat D L → @Ne Nat C D → (∀ p ∈ led',p.1 ≠ C) → J (min xs.length ys.length) zs led' → ∀ v,RR (.ref D) C (.ok v) { s₁ with heap := h',toks := tk }) :
    wpAny (model prog w) A (pyIter (.ref (I + 4))) (fun it s₂ => wpAny (model prog w) A (newList []) (fun acc s₃ => wpAny (model prog w) A (newFunctionEnv scope env.globals cl [] env.qual none .none (some env)) (fun cenv s₄ => codeAny (model prog w) A (.compStart e 0 it acc { cenv with scope := relabel scope env }) (RR acc cenv.locals) s₄) E s₃) E s₂) E s₁ := by
  subst he
  have W : ZW prog w A I l1 l2 xs ys := zw_of hh lt1 lt2
  refine wpAny_pyIter_zip st0.1 ?_
  refine wpAny_newObj_type (wpAny_newFunctionEnv hcell (by intro y hy;simp at hy) (fun h₁ hns₁ hsb₁ => ?_) hkind)
  dsimp only at hns₁ hsb₁ ⊢
  have F2 := F.push (lst [])
  have N2 := News.push F N (lst [])
  have sz2 : (s₁.heap.push (lst [])).objs.size = s₁.heap.objs.size + 1 := Heap.size_push ..
  have st2 : ZSt (s₁.heap.push (lst [])) I l1 l2 xs ys 0 := W.frame st0 fun b _ o e => Heap.get?_push_of_some _ e
  have e2 : s₁.heap.push { cls := .type "list",dict := none,data := .seq ([] : List Value).toArray } = s₁.heap.push (lst []) := rfl
  rw [e2] at hns₁ hsb₁ ⊢
  generalize s₁.heap.push (lst []) = H2 at *
  have keep : ∀ b o,H2.get? b = some o → h₁.get? b = some o := fun b o e => hsb₁.extBut b o (Nat.ne_of_lt (Heap.lt_size e)) (Heap.get?_push_of_some _ e)
  have hCL : H2.objs.size ≠ L := Nat.ne_of_gt (Nat.lt_of_lt_of_le F2.ns.lt (Nat.le_refl _))
  have hC0 : h₀.get? H2.objs.size = none := nn _ (by rw [sz2];omega)
  have hD0 : h₀.get? s₁.heap.objs.size = none := nn _ (by omega)
  have F3 : Fr h₀ L h₁ m := F2.keeps keep
  have st3 : ZSt h₁ I l1 l2 xs ys 0 := W.frame st2 fun b _ o e => keep b o e
  have hCD : H2.objs.size ≠ s₁.heap.objs.size := by rw [sz2];omega
  have N3 : News h₀ L h₁ ((s₁.heap.objs.size,lst []) :: led) := N2.grown keep
  have ltD : ∀ p ∈ led,@LT.lt Nat _ p.1 s₁.heap.objs.size := fun p hp => by have := ltI p hp;omega
  have ltC : ∀ p ∈ led,@LT.lt Nat _ p.1 H2.objs.size := fun p hp => by have := ltD p hp;omega
  have hCI : @LE.le Nat _ (I + 5) H2.objs.size := by rw [sz2];omega
  have hnsC : h₁.Ns H2.objs.size (fun _ => none) := hns₁
  clear hns₁ hsb₁ keep F2 N2 sz2 st2 e2
  revert hnsC hCL hC0 hD0 hCD N3 ltD ltC hCI hsz5
  refine gen_at H2.objs.size ?_
  intro C
  refine gen_at s₁.heap.objs.size ?_
  intro D hsz5 hCL hC0 hD0 hCD N3 ltD ltC hCI hnsC
  have loop : ∀ s₃ : Shared,s₃ = { s₁ with heap := h₁,toks := s₁.toks + ([] : List (Str × Value)).length } →
      codeAny (model prog w) A (.compLoop (.ListComp elt [⟨.Tuple [.Name x px,.Name x₂ px₂] tk tp,iter,[],0⟩] scope pos) 0 (.ref (I + 4)) (.ref D) (compEnvC scope cl C env)) (RR (.ref D) C) s₃ := by
    rintro s₃ rfl
    refine codeAny_compLoop_pair
      (ZipInv h₀ L m s₁ I C D l1 l2 xs ys J) ?_ (min xs.length ys.length + 1)
      ⟨h₁,_,0,[],_,led,rfl,Nat.zero_le _,rfl,rfl,st3,hnsC,F3,N3,fun q hq => ?_,j0⟩
    · intro k s' zq1
      obtain ⟨h',tk',i,zs,m',led',rfl,hi,rfl,hzl,st,hns,F',N',off,hj⟩ := zq1
      refine x0_2 (hJ _ _ _ hj) ?_
      intro hJ1 hJ2
      have nC : C ∉ [I + 4,I + 3,I,I + 1] := ni4 hCI
      have nD : D ∉ [I + 4,I + 3,I,I + 1] := ni4 hsz5
      have nL : L ∉ [I + 4,I + 3,I,I + 1] := ni4L ltL
      have nl : ∀ p ∈ led',p.1 ∉ [I + 4,I + 3,I,I + 1] := fun p hp => ni4o (off p hp)
      have old : ∀ b o,h₀.get? b = some o → b ∉ [I + 4,I + 3,I,I + 1] := fun b o e => ni4h nn e
      refine gen_at (notedBy (model prog w) A (compEnvC scope cl C env) (fun e s' => RR (.ref D) C (.error e) s')) ?_
      intro Ek
      refine gen_post (fun (_ : Value) s₅ => ∃ m_1,m_1 < min xs.length ys.length + 1 - i ∧ ZipInv h₀ L m s₁ I C D l1 l2 xs ys J m_1 s₅) ?_
      intro Qk hQk
      by_cases hlt : i < min xs.length ys.length
      · refine W.item hlt st fun T v₁ v₂ h₂ tk₂ hv₁ hv₂ hT hMid hk₂ => ?_
        refine W.go hMid fun h₃ st₃ hk₃ => ?_
        have hT₃ : h₃.IsTuple T #[v₁,v₂] := hT.at fun o e => hk₃ T o (W.off hMid) e
        have up₃ : ∀ b o,b ∉ [I + 4,I + 3,I,I + 1] → h'.get? b = some o → h₃.get? b = some o := fun b o hb e => hk₃ b o hb (hk₂ b o hb e)
        have F₃ : Fr h₀ L h₃ m := ⟨F'.ns.at' fun o e => up₃ _ o nL e,fun b o e => up₃ b o (old b o e) (F'.keep b o e),F'.above⟩
        have N₃ : News h₀ L h₃ ((D,lst zs) :: led') := fun p hp => by
          refine ⟨up₃ _ _ ?_ (N' p hp).1,(N' p hp).2⟩
          rcases List.mem_cons.mp hp with rfl | hp
          · exact nD
          · exact nl p hp
        have hns₃ : h₃.Ns C m' := hns.at' fun o e => up₃ _ o nC e
        refine x1_3 hT₃ ?_;(try clear hT₃)
        intro oT heT hcT zq2
        refine x1_1 zq2 ?_;(try clear zq2)
        intro nT hdT
        refine assign_Tuple_tuple hh ⟨oT,heT,hcT,nT,hdT⟩ rfl rfl fun h₅ he => ?_
        dsimp only
        have he' : ∀ b o,h₃.get? b = some o → h₅.get? b = some o := fun b o e => he b o (Nat.ne_of_lt (Heap.lt_size e)) e
        have N₅ := N₃.grown he'
        have F₅ := F₃.keeps he'
        have st₅ : ZSt h₅ I l1 l2 xs ys (i + 1) := W.frame st₃ fun b _ o e => he' b o e
        refine assignInOrder_cons (wpAny_assign_Name (wpAny_storeName_local (lookup_relabel_local hx) (hns₃.at' fun o e => he' _ o e) (fun h₆ hn₆ hs₆ => ?_) (comp_plain hkind)))
        refine assignInOrder_cons (wpAny_assign_Name (wpAny_storeName_local (lookup_relabel_local hx₂) hn₆ (fun h₇ hn₇ hs₇ => ?_) (comp_plain hkind)))
        refine assignInOrder_nil ?_
        dsimp only
        refine x1_2 (ns_obj hn₇) ?_
        intro oC₇ eC₇ hoC₇
        have up₇ : ∀ b o,b ≠ C → h₅.get? b = some o → h₇.get? b = some o := fun b o hb e => hs₇.extBut b o hb (hs₆.extBut b o hb e)
        have nz : ∀ b : Addr,b ∈ [I + 4,I + 2,I + 3,I,I + 1,l1,l2] → b ≠ C := fun b hb => ni7 hCI lt1 lt2 hb
        have st₇ : ZSt h₇ I l1 l2 xs ys (i + 1) := W.frame st₅ fun b hb o e => up₇ b o (nz b hb) e
        have F₇ : Fr h₀ L h₇ m := ⟨F₅.ns.at' fun o e => up₇ _ o (Ne.symm hCL) e,fun b o e => up₇ b o (fun q => by rw [q,hC0] at e;cases e) (F₅.keep b o e),F₅.above⟩
        refine x0_7 (id st₇) ?_
        intro g1 g2 zq3
        refine x2_1 zq3 ?_;(try clear zq3)
        intro a3 b3 g3
        intro zq4
        refine x1_2 zq4 ?_;(try clear zq4)
        intro o4 g4 x4
        intro zq5
        refine x1_2 zq5 ?_;(try clear zq5)
        intro o5 g5 x5
        intro g6 g7
        obtain ⟨q1,g1⟩ : ∃ o,h₇.get? (I + 4) = some o := ⟨_,g1⟩
        obtain ⟨q2,g2⟩ : ∃ o,h₇.get? (I + 2) = some o := ⟨_,g2⟩
        obtain ⟨q3,g3⟩ : ∃ o,h₇.get? (I + 3) = some o := ⟨_,g3⟩
        have hnew : ∀ k,@LE.le Nat _ I k → @Ne Nat k L ∧ h₀.get? k = none := fun k hk => ⟨fun e => by rw [e] at hk;exact absurd ltL (Nat.not_lt.mpr hk),nn k hk⟩
        have N₇ : News h₀ L h₇ (((C,oC₇) :: (D,lst zs) :: zipLed I q1 q2 q3 o4 o5) ++ led') :=
          news7 ⟨eC₇,hCL,hC0⟩ ⟨up₇ _ _ (Ne.symm hCD) (N₅ _ (.head _)).1,(N₅ _ (.head _)).2⟩ ⟨g1,hnew _ (Nat.le_add_right _ _)⟩ ⟨g2,hnew _ (Nat.le_add_right _ _)⟩ ⟨g3,hnew _ (Nat.le_add_right _ _)⟩ ⟨g4,hnew _ (Nat.le_refl _)⟩ ⟨g5,hnew _ (Nat.le_add_right _ _)⟩ fun p hp => ⟨up₇ _ _ (off p hp).1 (N₅ p (.tail _ hp)).1,(N₅ p (.tail _ hp)).2⟩
        have off₇ : ∀ p ∈ (C,oC₇) :: (D,lst zs) :: zipLed I q1 q2 q3 o4 o5,∀ q ∈ led',q.1 ≠ p.1 := fun p hp q hq => off7 (off q hq) p hp
        refine wpAny_mono (step i zs led' v₁ v₂ hv₁ hv₂ hj C oC₇ D q1 q2 q3 o4 o5 _ h₇ _ _ hoC₇ (look_two1 hxx) (if_pos rfl) F₇ N₇ off₇) (fun y s₄ h₄ => ?_) fun _ _ e => e
        refine x3_5 h₄ ?_;(try clear h₄)
        intro h₈ tk₈ led₈
        rintro rfl
        intro F₈ N₈ off₈ j₈
        dsimp only
        refine x0_2 (hJ _ _ _ j₈) ?_
        intro hJ3 hJ4
        refine append_at (hsz := by show zs.toArray.size ≤ sizeLine;rw [List.size_toArray,hzl];exact Nat.le_trans hi hsz) (N₈ (D,lst zs) (List.mem_append_left _ (.tail _ (.head _)))).1 fun h₉ hs₉ hD₉ => ?_
        have up₉ : ∀ b o,b ≠ D → h₈.get? b = some o → h₉.get? b = some o := fun b o hb e => hs₉.extBut b o hb e
        have nzD : ∀ b : Addr,b ∈ [I + 4,I + 2,I + 3,I,I + 1,l1,l2] → b ≠ D := fun b hb => ni7 hsz5 lt1 lt2 hb
        have same := fun (p : Addr × Obj) (hp : p ∈ (C,oC₇) :: (D,lst zs) :: zipLed I q1 q2 q3 o4 o5) => stays7 N₇ N₈ hp
        refine hQk _ _ ⟨min xs.length ys.length + 1 - (i + 1),dec1 hlt,h₉,tk₈,i + 1,zs ++ [y],_,led₈,rfl,hlt,rfl,by rw [List.length_append,List.length_singleton,hzl],W.frame st₇ fun b hb o e => up₉ b o (nzD b hb) (mem7 (P := fun b => ∀ o,h₇.get? b = some o → h₈.get? b = some o) (same (_,q1) (.tail _ (.tail _ (.head _)))) (same (_,q2) (.tail _ (.tail _ (.tail _ (.head _))))) (same (_,q3) (.tail _ (.tail _ (.tail _ (.tail _ (.head _)))))) (same (_,o4) (.tail _ (.tail _ (.tail _ (.tail _ (.tail _ (.head _))))))) (same (_,o5) (.tail _ (.tail _ (.tail _ (.tail _ (.tail _ (.tail _ (.head _)))))))) (stays8 N₇ N₈ hJ1 hJ3) (stays8 N₇ N₈ hJ2 hJ4) hb o e),hoC₇.ns (up₉ _ _ hCD (N₈ (C,oC₇) (List.mem_append_left _ (.head _))).1),?_,?_,?_,j₈⟩
        · exact F₈.change hs₉ (N₈ (D,lst zs) (List.mem_append_left _ (.tail _ (.head _)))).2.1 (N₈ (D,lst zs) (List.mem_append_left _ (.tail _ (.head _)))).2.2
        · intro p hp
          rcases List.mem_cons.mp hp with rfl | hp
          · exact ⟨hD₉.trans (congrArg some (lst_snoc zs y)),(N₈ (D,lst zs) (List.mem_append_left _ (.tail _ (.head _)))).2⟩
          · exact ⟨up₉ _ _ (off₈ (D,lst zs) (.tail _ (.head _)) p hp) (N₈ p (List.mem_append_right _ hp)).1,(N₈ p (List.mem_append_right _ hp)).2⟩
        · intro q hq
          exact ⟨off₈ (C,oC₇) (.head _) q hq,off₈ (D,lst zs) (.tail _ (.head _)) q hq,off₈ (I + 4,_) (.tail _ (.tail _ (.head _))) q hq,off₈ (I + 2,_) (.tail _ (.tail _ (.tail _ (.head _)))) q hq,off₈ (I + 3,_) (.tail _ (.tail _ (.tail _ (.tail _ (.head _))))) q hq,off₈ (I,_) (.tail _ (.tail _ (.tail _ (.tail _ (.tail _ (.head _)))))) q hq,off₈ (I + 1,_) (.tail _ (.tail _ (.tail _ (.tail _ (.tail _ (.tail _ (.head _))))))) q hq⟩
      · obtain rfl : i = min xs.length ys.length := Nat.le_antisymm hi (Nat.not_lt.mp hlt)
        refine W.fin st fun h₂ tk₂ hk₂ => ?_
        have F₂ : Fr h₀ L h₂ m := ⟨F'.ns.at' fun o e => hk₂ _ o nL e,fun b o e => hk₂ b o (old b o e) (F'.keep b o e),F'.above⟩
        exact hRR D C h₂ tk₂ m' zs led' F₂ (fun p hp => ⟨hk₂ _ _ (by
          rcases List.mem_cons.mp hp with rfl | hp
          · exact nD
          · exact nl p hp) (N' p hp).1,(N' p hp).2⟩) (off1_of fun q hq => (off q hq).2.1) (hns.at' fun o e => hk₂ _ o nC e) hC0 hD0 hCL (N' _ (.head _)).2.1 hCD (fun q hq => (off q hq).1) hj _
    · have a1 := ltI q hq
      have a2 := ltD q hq
      have a3 := ltC q hq
      refine ⟨Nat.ne_of_lt a3,Nat.ne_of_lt a2,?_,?_,?_,?_,?_⟩ <;> (refine neN ?_;omega)
  exact codeAny_compStart_list (loop _ rfl) (wpAny_pyIter_zip st3.1 (loop _ rfl))
theorem zip_comp {elt iter : Expr} {x x₂ : Str} {px px₂ tp : Pos} {tk} {scope : Scope} {cl : List (Str × Addr)} {pos : Pos} {Q : Value → Shared → Prop}
    (F₀ : Fr h₀ L s.heap m) (hclos : closureFor scope env = pure cl) (hcell : ∀ y ∈ scope.names,y.2 ≠ .cell) (hkind : scope.kind = .function)
    (hnames : ∀ y ∈ scope.names,y.2 = .local → scope.names.lookup y.1 = some .local) (hx : scope.names.lookup x = some .local) (hx₂ : scope.names.lookup x₂ = some .local) (hxx : x ≠ x₂)
    (h : wpAny (model prog w) A (eval iter env) (SrcZ prog w A h₀ L m env elt x x₂ scope cl (fun s₂ => FinE h₀ L m s₂ Q)) E s)
    (hs : ∀ x,foldedSetIterable iter env x = pure x) :
    wpAny (model prog w) A (eval (.ListComp elt [⟨.Tuple [.Name x px,.Name x₂ px₂] tk tp,iter,[],0⟩] scope pos) env) Q E s := by
  clear F₀
  rw [eval_ListComp]
  refine wpAny_comprehension_free (use := none) rfl hs hclos hkind hnames (wpAny_mono h (fun xv s₁ h₁ => ?_) fun _ _ e => e)
  obtain ⟨I,l1,l2,xs,ys,n1,n2,led,J,rfl,hh,F,N,ltI,ltL,lt1,lt2,st0,nn,hsz5,hsz,j0,hJ,step,fin⟩ := h₁
  refine zip_block rfl hcell hkind hx hx₂ hxx hh F N ltI ltL lt1 lt2 st0 nn hsz5 hsz j0 hJ (step s₁.heap) ?_
  intro D C h' tk m' zs led' F' N' o1 hn hC₀ hD₀ hCL hDL hCD offC hj v
  refine ⟨m',hn,fun h'' hs'' => fin zs led' hj D h'' _ (F'.change hs'' hCL hC₀) (fun p hp => ?_) o1⟩
  refine ⟨hs''.extBut _ _ ?_ (N' p hp).1,(N' p hp).2⟩
  rcases List.mem_cons.mp hp with rfl | hp
  · exact Ne.symm hCD
  · exact offC p hp
theorem zip_assign {elt iter : Expr} {x x₂ y : Str} {px px₂ tp py : Pos} {tk} {scope : Scope} {cl : List (Str × Addr)} {pos spos : Pos} {Q : Flow → Shared → Prop} (F₀ : Fr h₀ L s.heap m) (hLe : env.locals = L)
    (hsw : swapsWith (.ListComp elt [⟨.Tuple [.Name x px,.Name x₂ px₂] tk tp,iter,[],0⟩] scope pos) (some (.Name y py)) spos.line env = pure true)
    (hclos : closureFor scope env = pure cl) (hcell : ∀ z ∈ scope.names,z.2 ≠ .cell) (hkind : scope.kind = .function)
    (hnames : ∀ z ∈ scope.names,z.2 = .local → scope.names.lookup z.1 = some .local) (hx : scope.names.lookup x = some .local) (hx₂ : scope.names.lookup x₂ = some .local) (hxx : x ≠ x₂)
    (hy : env.kindOf y = some .local) (hp : (env.scope.kind == .class || (env.scope.kind == .module && env.locals != env.globals)) = false)
    (h : wpAny (model prog w) A (eval iter env) (SrcZ prog w A h₀ L m env elt x x₂ scope cl (fun s₂ => FinA h₀ L m s₂ y Q)) E s)
    (hs : ∀ x,foldedSetIterable iter env x = pure x) :
    wpAny (model prog w) A (exec (.Assign [.Name y py] (.ListComp elt [⟨.Tuple [.Name x px,.Name x₂ px₂] tk tp,iter,[],0⟩] scope pos) spos) env) Q E s := by
  clear F₀
  subst hLe
  rw [exec_Assign_Name_used _ _ _ _ hsw]
  refine wpAny_bind (wpAny_standAt (wpAny_bind ?_))
  show wpAny _ A (do let _ ← comprehension (.ListComp elt [⟨.Tuple [.Name x px,.Name x₂ px₂] tk tp,iter,[],0⟩] scope pos) scope env _ (newList []) false (eval iter env) (some (assign (.Name y py) env))) _ _ s
  refine wpAny_bind (wpAny_mono (wpAny_comprehension_free (use := some (assign (.Name y py) env)) (Q := fun _ s' => Q .next s') rfl hs hclos hkind hnames
    (wpAny_mono h (fun xv s₁ h₁ => ?_) fun _ _ e => e)) (fun _ s' hq => wpAny_pure (wpAny_pure hq)) fun _ _ e => e)
  obtain ⟨I,l1,l2,xs,ys,n1,n2,led,J,rfl,hh,F,N,ltI,ltL,lt1,lt2,st0,nn,hsz5,hsz,j0,hJ,step,fin⟩ := h₁
  refine zip_block rfl hcell hkind hx hx₂ hxx hh F N ltI ltL lt1 lt2 st0 nn hsz5 hsz j0 hJ (step s₁.heap) ?_
  intro D C h' tk m' zs led' F' N' o1 hn hC₀ hD₀ hCL hDL hCD offC hj v
  show wpAny _ A (assign (.Name y py) env (.ref D)) _ _ _
  refine wpAny_assign_Name (wpAny_storeName_local hy F'.ns (fun h₂ hn₂ hs₂ => ?_) hp)
  have hL₀ : h₀.get? env.locals = none := Heap.get?_none_of_le F'.above
  have F₂ : Fr h₀ env.locals h₂ (fun z => if z = y then some (.ref D) else m z) := ⟨hn₂,fun b o e => hs₂.extBut b o (fun q => by rw [q,hL₀] at e;cases e) (F'.keep b o e),F'.above⟩
  refine ⟨m',hn.sameBut hs₂ hCL,fun h'' hs'' => fin zs led' hj D h'' _ (F₂.change hs'' hCL hC₀) (fun p hp => ?_) o1⟩
  have z : h₂.get? p.1 = some p.2 := hs₂.extBut _ _ (N' p hp).2.1 (N' p hp).1
  refine ⟨hs''.extBut _ _ ?_ z,(N' p hp).2⟩
  rcases List.mem_cons.mp hp with rfl | hp
  · exact Ne.symm hCD
  · exact offC p hp
end
end
section
theorem len_succ {α : Type} {l : List α} {n : Nat} (h : l.length = n + 1) : ∃ a r,l = a :: r ∧ r.length = n := by
  cases l with
  | nil => cases h
  | cons a r => exact ⟨a,r,rfl,Nat.succ.inj h⟩
theorem len2 {α : Type} {l : List α} (h : l.length = 2) : ∃ a b,l = [a,b] := x2_2 (len_succ h) fun a r e h => x1_1 (List.length_eq_one_iff.mp h) fun b eb => ⟨a,b,by rw [e,eb]⟩
theorem len3 {α : Type} {l : List α} (h : l.length = 3) : ∃ a b c,l = [a,b,c] := x2_2 (len_succ h) fun a r e h => x2_1 (len2 h) fun b c eb => ⟨a,b,c,by rw [e,eb]⟩
noncomputable def SideOk (ts : List TRec) (P : Nat) (kind : Int) (ns ws : List Int) (c : Int) : Prop :=
  ∃ (js : List Nat) (cn : Nat),js.length = ns.length ∧ (∀ (i : Nat) (j : Nat) (k v : Int),js[i]? = some j → ns[i]? = some k → ws[i]? = some v → IsTimes ts v kind k.toNat j) ∧ ts[cn]? = some (numR c kind) ∧ 1 ≤ cn ∧
    ts[P]? = some (plusR ((js ++ [cn]).map fun (a : Nat) => (a : Int)) kind) ∧ 1 ≤ P
noncomputable def Bd3 (ws : List Int) : Prop := ∀ x ∈ ws,-4 ≤ x ∧ x ≤ 4
theorem bd3_snoc {ws : List Int} {x : Int} (h : Bd3 ws) (h1 : -4 ≤ x) (h2 : x ≤ 4) : Bd3 (ws ++ [x]) := fun y hy => by
  rcases List.mem_append.mp hy with hy | hy
  · exact h y hy
  · rw [List.mem_singleton.mp hy];exact ⟨h1,h2⟩
noncomputable def DrawJ (w : World) (fd cl : Addr) (sp : Int) (a b : Addr × Obj) (T : Led) (i : Nat) (ys : List Value) (led : Led) : Prop := ∃ (o' : Obj) (ws : List Int),led = a :: b :: (fd,o') :: T ∧ Feed w cl (sp + (i : Int)) o' ∧ IntsAre ys ws ∧ ws.length = i ∧ Bd3 ws
theorem skip2 {a b c p : Addr × Obj} {T : Led} (h : p ∈ a :: T) : p ∈ a :: b :: c :: T := by
  exact subA (by k_extra "H:sub_auto") h
noncomputable def KidsOk (ts : List TRec) (kind : Int) (ns ws : List Int) (js : List Nat) : Prop := ∀ (i : Nat) (j : Nat) (k v : Int),js[i]? = some j → ns[i]? = some k → ws[i]? = some v → IsTimes ts v kind k.toNat j
theorem IsTimes.grow {ts ts' : List TRec} {v srt : Int} {i j k : Nat} (h : IsTimes ts v srt i j) (g : Grow k ts ts') : IsTimes ts' v srt i j := by
  rcases h with h | ⟨h1,n,h2,h3,h4,h5⟩
  · exact .inl h
  · exact .inr ⟨h1,n,g.1 _ _ h2,h3,g.1 _ _ h4,h5⟩
theorem kids_snoc {ts ts' : List TRec} {kind v : Int} {ns ws : List Int} {js : List Nat} {i j kn g : Nat} (h : KidsOk ts kind ns ws js) (hg : Grow g ts ts') (hl : js.length = i) (hj : IsTimes ts' v kind kn j) (hn : ns[i]? = some (kn : Int)) (hw : ws[i]? = some v) : KidsOk ts' kind ns ws (js ++ [j]) := fun i' j' k v' e1 e2 e3 => by
  rcases snoc_get e1 with e | ⟨e,rfl⟩
  · exact (h i' j' k v' e e2 e3).grow hg
  · rw [e,hl] at e2 e3
    rw [hn] at e2
    rw [hw] at e3
    obtain rfl := Option.some.inj e2
    obtain rfl := Option.some.inj e3
    exact hj
theorem skipH {d p : Addr × Obj} {H BL : Led} (h : p ∈ [d] ++ BL) : p ∈ d :: (H ++ BL) := by
  simp only [List.cons_append,List.nil_append,List.mem_cons,List.mem_append] at h ⊢
  rcases h with h | h
  · exact .inl h
  · exact .inr (.inr h)
theorem skipL {d e p : Addr × Obj} {H BL : Led} (h : p ∈ [d] ++ BL) : p ∈ d :: e :: (H ++ BL) := by
  simp only [List.cons_append,List.nil_append,List.mem_cons,List.mem_append] at h ⊢
  rcases h with h | h
  · exact .inl h
  · exact .inr (.inr (.inr h))
theorem sideEnd {r f k a wd x y z p : Addr × Obj} {T : Led} (h : p ∈ r :: f :: k :: a :: wd :: T) : p ∈ r :: x :: wd :: y :: z :: f :: k :: a :: T := by
  exact subA (by k_extra "H:sub_auto") h
theorem kids_frame {D9 : Addr} {o9 : Obj} {IT H BL : Led} (l : AllLt D9 (IT ++ (H ++ BL))) (off1 : ∀ p ∈ IT,∀ q ∈ H ++ BL,q.1 ≠ p.1) (dj : ∀ p ∈ H,∀ q ∈ BL,q.1 ≠ p.1) : ∀ p ∈ IT ++ H,∀ q ∈ [(D9,o9)] ++ BL,q.1 ≠ p.1 := fun p hp q hq => by
  rcases List.mem_append.mp hq with hq | hq
  · rw [List.mem_singleton.mp hq]
    have h1 : p ∈ IT ++ (H ++ BL) := by
      rcases List.mem_append.mp hp with h | h
      · exact List.mem_append_left _ h
      · exact List.mem_append_right _ (List.mem_append_left _ h)
    have := allLt_mem l p h1
    exact neN (by dsimp only;first | k_ne | omega)
  · rcases List.mem_append.mp hp with h | h
    · exact off1 p h q (List.mem_append_right _ hq)
    · exact dj p h q hq
theorem kids_sort {ts : List TRec} {kind : Int} {ns ws : List Int} {js : List Nat} (h : KidsOk ts kind ns ws js) (h1 : js.length = ns.length) (h2 : ws.length = ns.length) (hv : ∀ k ∈ ns,∃ d,ts[k.toNat]? = some (varR kind d)) : ∀ a ∈ js,∃ r,ts[a]? = some r ∧ r.sort = kind := fun a ha => by
  refine x1_1 (List.mem_iff_getElem.mp ha) ?_
  intro i zq1
  obtain ⟨hi,e⟩ := zq1
  have e1 : js[i]? = some a := by rw [List.getElem?_eq_getElem hi,e]
  have e2 : ns[i]? = some (ns[i]'(h1 ▸ hi)) := List.getElem?_eq_getElem _
  have e3 : ws[i]? = some (ws[i]'(h2 ▸ h1 ▸ hi)) := List.getElem?_eq_getElem _
  rcases h i a _ _ e1 e2 e3 with ⟨_,e⟩ | ⟨_,n,_,_,e,_⟩
  · refine x1_1 (hv _ (List.getElem_mem (h1 ▸ hi))) ?_
    intro d hd
    rw [e]
    exact ⟨_,hd,rfl⟩
  · exact ⟨_,e,rfl⟩
section
theorem plusN_use {B : BkA} {ts : List TRec} {BL ys : Led} {la : Addr} {nl : Nat} {xs : List Value} {args : List Nat} {srt : Int} (Z : Sit w dp un cs outer A₀ base h₀ L m mean mg mb s (ys ++ BL) 6 140) (hB : Bk w B ts BL) (hX : BankX B.es) (hy : ∀ y ∈ ys,AllNe y.1 BL)
    (hl : (la,listOf xs.toArray nl) ∈ ys ++ BL) (hi : IntsAre xs (args.map fun (a : Nat) => (a : Int))) (h1 : args.length = 2 ∨ args.length = 3) (hr : ∀ a ∈ args,∃ r,ts[a]? = some r ∧ r.sort = srt) (e : srt = 1 ∨ srt = 2) (hz : ts.length ≤ 90) (hw : Wf ts)
    (ret : ∀ (j' : Nat) (t : Tok) ts' BL' h' tk',Fr h₀ L h' m → After h₀ L s.heap (ys ++ BL) h' BL' → Bk w B ts' BL' → TSub (ys ++ BL) BL' → ts'[j']? = some (plusR (args.map fun (a : Nat) => (a : Int)) srt) → 1 ≤ j' → Grow 1 ts ts' → Wf ts' → Q (.int (j' : Int) t) { s with heap := h',toks := tk' }) :
    wpAny (model PG w) (ktrTop dp un gd cn cs L a₁ ccd ce outer) (call (.ref 509) [.ref B.b,.ref la]) Q E s := by
  rcases h1 with h1 | h1
  · obtain ⟨a,b,rfl⟩ := len2 h1
    refine x2_1 (ints_two hi) ?_
    intro t1 t2
    rintro rfl
    refine x1_2 (hr a (.head _)) ?_
    intro r1 g1 q1
    refine x1_2 (hr b (.tail _ (.head _))) ?_
    intro r2 g2 q2
    exact plus2_use Z hB hX hy hl g1 q1 g2 q2 e hz hw ret
  · obtain ⟨a,b,c,rfl⟩ := len3 h1
    refine x3_1 (ints_three hi) ?_
    intro t1 t2 t3
    rintro rfl
    refine x1_2 (hr a (.head _)) ?_
    intro r1 g1 q1
    refine x1_2 (hr b (.tail _ (.head _))) ?_
    intro r2 g2 q2
    refine x1_2 (hr c (.tail _ (.tail _ (.head _)))) ?_
    intro r3 g3 q3
    exact plus3_use Z hB hX hy hl g1 q1 g2 q2 g3 q3 e hz hw ret
end
inductive KidsJ (w : World) (B : BkA) (ts : List TRec) (kind : Int) (ns : List Int) (ws : List Int) (BL : Led) (H : Led) (i : Nat) (zs : List Value) (led : Led) : Prop
  | mk (js : List Nat) (ts1 : List TRec) (BL1 : Led) (cc1 : led = H ++ BL1) (cc2 : (∀ p ∈ H,∀ q ∈ BL1,q.1 ≠ p.1)) (cc3 : Bk w B ts1 BL1) (cc4 : TSub BL BL1) (cc5 : Grow (2 * i) ts ts1) (cc6 : Wf ts1) (cc7 : IntsAre zs (js.map fun (a : Nat) => (a : Int))) (cc8 : js.length = i) (cc9 : KidsOk ts1 kind ns ws js) : KidsJ w B ts kind ns ws BL H i zs led
section
open LCg LCp
theorem g34.on34 : True := trivial
open g34
theorem set_65 : True := by
  k_with "!pyIter ref" => ((fail_if_success(fail_if_success have:=on34));(k_here;refine stop_at ?_))
  k_with "!CompSrc" => ((fail_if_success(fail_if_success have:=on34));(k_here;refine stop_at ?_))
  k_with "!eval ListComp" => ((fail_if_success(fail_if_success have:=on34));(k_here;k_dflt (refine LCg.ListComp_U (F₀ := by k_asm) (by with_unfolding_all rfl) (by decide) (by rfl) (by decide) (by rfl) ?_)))
  k_with "!eval ListComp" => ((fail_if_success(fail_if_success have:=on34));(k_here;(with_reducible show wpAny _ _ (eval (Expr.ListComp _ [⟨Expr.Tuple _ _ _,_,[],0⟩] _ _) _) _ _ _);k_dflt (refine zip_comp (by k_asm) (by with_unfolding_all rfl) (by decide) (by rfl) (by decide) (by rfl) (by rfl) (by decide) ?_ (by intro _;rfl))))
  k_with "!exec Assign cons ListComp" => ((fail_if_success(fail_if_success have:=on34));(k_here;k_dflt (refine zip_assign (F₀ := by k_asm) (by rfl) (by with_unfolding_all rfl) (by with_unfolding_all rfl) (by decide) (by rfl) (by decide) (by rfl) (by rfl) (by decide) (by rfl) (by rfl) ?_ (by intro _;rfl))))
  k_with "!call type:zip" => ((fail_if_success(fail_if_success have:=on34));(k_here;refine stop_at ?_))
  k_with "!call ref" => ((fail_if_success(fail_if_success have:=on34));(k_here;(with_reducible show wpAny _ _ (call (Value.ref 516) _) _ _ _);refine stop_at ?_))
  k_with "!call ref" => ((fail_if_success(fail_if_success have:=on34));(k_here;(with_reducible show wpAny _ _ (call (Value.ref 495) _) _ _ _);refine stop_at ?_))
  k_with "!call ref" => ((fail_if_success(fail_if_success have:=on34));(k_here;(with_reducible show wpAny _ _ (call (Value.ref 509) _) _ _ _);refine stop_at ?_))
  k_with "!call ref" => ((fail_if_success(fail_if_success have:=on34));(k_here;(with_reducible show wpAny _ _ (call (Value.ref 273) _) _ _ _);refine stop_at ?_))
  exact trivial
inductive SideR56 (ns : List Int) (w : World) (fd : Addr) (cl : Addr) (sa : Addr) (vs : List Value) (xs : List Value) (n : Nat) (nx : Nat) (sp : Int) (kind : Int) (B : BkA) (ts : List TRec) (BL : Led) (r : Value) (led' : Led) : Prop
  | mk (ra wa : Addr) (P : Nat) (t : Tok) (ts' : List TRec) (BL' : Led) (wl : List Value) (ws : List Int) (nw : Nat) (c : Int) (o' : Obj) (cc1 : r = .ref ra) (cc2 : led' = (ra,tup [.int (P : Int) t,.ref wa]) :: (fd,o') :: (cl,listOf vs.toArray n) :: (sa,listOf xs.toArray nx) :: (wa,listOf wl.toArray nw) :: BL') (cc3 : Feed w cl (sp + (ns.length : Int) + 1) o') (cc4 : IntsAre wl (ws ++ [c])) (cc5 : ws.length = ns.length) (cc6 : Bd3 (ws ++ [c])) (cc7 : Bk w B ts' BL') (cc8 : TSub BL BL') (cc9 : Grow 8 ts ts') (cc10 : Wf ts') (cc11 : SideOk ts' P kind ns ws c) (cc12 : (∀ q ∈ BL',AllNe q.1 [(fd,tup []),(cl,tup []),(sa,tup []),(wa,tup [])])) (cc13 : AllNe wa [(fd,tup []),(cl,tup []),(sa,tup [])]) (cc14 : AllNe ra ((fd,tup []) :: (cl,tup []) :: (sa,tup []) :: (wa,tup []) :: BL')) : SideR56 ns w fd cl sa vs xs n nx sp kind B ts BL r led'
inductive SideC561 (g₁ : Heap) (L₁ : Addr) (oS : Obj) (oT : Obj) (ns : List Int) (w : World) (s : Shared) (fd : Addr) (cl : Addr) (sa : Addr) (vs : List Value) (xs : List Value) (n : Nat) (nx : Nat) (sp : Int) (BL : Led) (s' : Shared) : Prop
  | mk (h' : Heap) (tk' : Nat) (wa : Addr) (wl : List Value) (ws : List Int) (nw : Nat) (c : Int) (o2 : Obj) (cc1 : s' = { s with heap := h',toks := tk' }) (cc2 : Fr g₁ L₁ h' (fun y => if y = Str.ofString "wide" then some (.ref wa) else if y = Str.ofString "some" then some (.ref sa) else none)) (cc3 : News g₁ L₁ h' ((wa,listOf wl.toArray nw) :: (L₁ + 1 + 1,oS) :: (L₁ + 1,oT) :: (fd,o2) :: (cl,listOf vs.toArray n) :: (sa,listOf xs.toArray nx) :: BL)) (cc4 : IntsAre wl (ws ++ [c])) (cc5 : ws.length = ns.length) (cc6 : Bd3 (ws ++ [c])) (cc7 : Feed w cl (sp + (ns.length : Int) + 1) o2) (cc8 : AllNe wa ((L₁ + 1 + 1,oS) :: (L₁ + 1,oT) :: (fd,o2) :: (cl,tup []) :: (sa,tup []) :: BL)) : SideC561 g₁ L₁ oS oT ns w s fd cl sa vs xs n nx sp BL s'
inductive SideC562 (g₁ : Heap) (L₁ : Addr) (oS : Obj) (oT : Obj) (wa : Addr) (wl : List Value) (nw : Nat) (o2 : Obj) (ns : List Int) (w : World) (s : Shared) (fd : Addr) (cl : Addr) (sa : Addr) (vs : List Value) (xs : List Value) (n : Nat) (nx : Nat) (kind : Int) (B : BkA) (ts : List TRec) (BL : Led) (ws : List Int) (s' : Shared) : Prop
  | mk (h' : Heap) (tk' : Nat) (ka : Addr) (kl : List Value) (js : List Nat) (nk : Nat) (ts1 : List TRec) (BL1 : Led) (cc1 : s' = { s with heap := h',toks := tk' }) (cc2 : Fr g₁ L₁ h' (fun y => if y = Str.ofString "kids" then some (.ref ka) else if y = Str.ofString "wide" then some (.ref wa) else if y = Str.ofString "some" then some (.ref sa) else none)) (cc3 : News g₁ L₁ h' ((ka,listOf kl.toArray nk) :: (wa,listOf wl.toArray nw) :: (L₁ + 1 + 1,oS) :: (L₁ + 1,oT) :: (fd,o2) :: (cl,listOf vs.toArray n) :: (sa,listOf xs.toArray nx) :: BL1)) (cc4 : Bk w B ts1 BL1) (cc5 : TSub BL BL1) (cc6 : Grow 4 ts ts1) (cc7 : Wf ts1) (cc8 : IntsAre kl (js.map fun (a : Nat) => (a : Int))) (cc9 : js.length = ns.length) (cc10 : KidsOk ts1 kind ns ws js) (cc11 : (∀ q ∈ BL1,AllNe q.1 [(wa,tup []),(L₁ + 1 + 1,tup []),(L₁ + 1,tup []),(fd,tup []),(cl,tup []),(sa,tup [])])) (cc12 : AllNe ka ((wa,tup []) :: (L₁ + 1 + 1,tup []) :: (L₁ + 1,tup []) :: (fd,tup []) :: (cl,tup []) :: (sa,tup []) :: BL1)) : SideC562 g₁ L₁ oS oT wa wl nw o2 ns w s fd cl sa vs xs n nx kind B ts BL ws s'
theorem side_spec (w : World) {fd cl sa : Addr} {o : Obj} {vs xs : List Value} {n nx : Nat} {sp kind : Int} {ns : List Int} {B : BkA} {ts : List TRec} {BL : Led} (hc : Cells fd vs) (hf : Feed w cl sp o) (hs : 0 ≤ sp) (hs2 : sp ≤ 900) (hB : Bk w B ts BL) (hX : BankX B.es) (hi : IntsAre xs ns) (h1 : ns.length = 1 ∨ ns.length = 2)
    (hk : kind = 1 ∨ kind = 2) (hv : ∀ k ∈ ns,1 ≤ k ∧ ∃ d,ts[k.toNat]? = some (varR kind d)) (hw : Wf ts) (hz : ts.length ≤ 40) (off : ∀ q ∈ BL,AllNe q.1 [(fd,tup []),(cl,tup []),(sa,tup [])]) (dfs : sa ≠ fd) (dfc : cl ≠ fd) :
    Spec w 872 [.ref fd,.ref B.b,.ref sa] 8 200 ((fd,o) :: (cl,listOf vs.toArray n) :: (sa,listOf xs.toArray nx) :: BL) (SideR56 ns w fd cl sa vs xs n nx sp kind B ts BL) := by
  apply bx;simp(disch:=k_dflt(
  unfold Spec
  intro dp un gd cn cs a₁ ccd ce outer A₀ base h₀ L m mean mg mb s Q E B' F X N Tp hk0 hd hu hret
  have hl := hi.length
  k_dflt (apply call_atC (binds := [(Str.ofString "feed",Value.ref fd),(Str.ofString "bank",Value.ref B.b),(Str.ofString "some",Value.ref sa)]));k_extra "H:ktr_rest"
  rename_i g₁ L₁ h₁ tk₁ FG₁ F₁ X₁ T₁ z₁ oS oT dS dT
  with_reducible refine execs_cutS 1 (SideC561 g₁ L₁ oS oT ns w s fd cl sa vs xs n nx sp BL) ?cut1 ?cut2
  case cut1 =>
    dsimp only [List.take]
    (try k_fold)
    k_steps
    refine stop_go ?_
    (try k_extra "H:folds")
    refine LCg.CompSrc.ledger (its := xs.toArray) (k := nx) (by rfl) (by k_asm) (by k_asm) (by k_mem) (by rw [List.size_toArray,sizeLine_eq];omega) fun g => ?_
    have e1 : xs.toArray.size = ns.length := by simp [hl]
    rw [e1]
    refine comp_inv0 (fun l₀ i ys led => DrawJ w fd cl sp (L₁ + 1 + 1,oS) (L₁ + 1,oT) ((cl,listOf vs.toArray n) :: (sa,listOf xs.toArray nx) :: BL) i ys led) ?start ?step ?fin
    case start => exact ⟨o,[],rfl,by simpa using hf,.nil,rfl,fun x hx => nomatch hx⟩
    case step =>
      intro i ys led v hi9 zq2
      refine x2_5 zq2 ?_;(try clear zq2)
      intro o' ws
      rintro rfl
      intro hf' hi' hl' hb'
      intro hv9 I oI C oC D m₂ h tk E' hC hx F1 N1 off9 ne9
      (try k_extra "H:fold")
      have j1 : i ≤ 2 := by omega
      refine x0_4 (id off9) ?_
      intro _ _ zq3
      refine x0_3 zq3 ?_;(try clear zq3)
      intro f1 f2 f3
      intro _
      k_steps
      refine stop_go ?_
      (try k_extra "H:folds")
      exact ⟨_,ws ++ [_],rfl,by (rw [Int.natCast_add,← Int.add_assoc];assumption),hi'.append (.cons _ _ .nil),by rw [List.length_append,hl',List.length_singleton],bd3_snoc hb' (by omega) (by omega)⟩
    case fin =>
      intro ys led zq4
      refine x2_5 zq4 ?_;(try clear zq4)
      intro o' ws
      rintro rfl
      intro hf' hi' hl' hb'
      k_steps
      rename_i iv tv o2 hv3 tk3 g1 g2 g3 lb hb2 _ l2 wa wl hh4 g4 l4 _ hh5 F5 N5 _
      refine stop_go ⟨rfl,_,_,wa,wl,ws,0,iv - 4,o2,rfl,F5,fun p hp => N5 p (skip2 hp),g4,hl',bd3_snoc hb' (by omega) (by omega),g1,⟨by k_ne,by k_ne,by k_ne,by k_ne,by k_ne,allLt_allNe l4.2.2.2.2.2.2.2⟩⟩
  case cut2 =>
    intro sCut hCut
    (try k_fold)
    obtain ⟨h5,tk5,wa,wl,ws,nw,c,o2,rfl,F5,N5,hwl,hwn,hwb,hf2,lwa⟩ := hCut
    dsimp only [List.drop]
    (try k_fold)
    have k0off : ∀ p ∈ [(wa,listOf wl.toArray nw),(L₁ + 1 + 1,oS),(L₁ + 1,oT),(fd,o2),(cl,listOf vs.toArray n),(sa,listOf xs.toArray nx)],∀ q ∈ BL,q.1 ≠ p.1 := fun p hp q hq => by
      have a1 := off q hq
      have a2 := allLt_mem l₁.2.2.2 q hq
      simp only [List.mem_cons,List.not_mem_nil,or_false] at hp
      rcases hp with rfl | rfl | rfl | rfl | rfl | rfl
      · exact AllNe.get lwa.2.2.2.2.2 (o := q.2) hq
      · exact neN (by dsimp only;first | k_ne | omega)
      · exact neN (by dsimp only;first | k_ne | omega)
      · exact Ne.symm a1.1
      · exact Ne.symm a1.2.1
      · exact Ne.symm a1.2.2.1
    with_reducible refine execs_cutS 1 (SideC562 g₁ L₁ oS oT wa wl nw o2 ns w s fd cl sa vs xs n nx kind B ts BL ws) ?cut3 ?cut4
    case cut3 =>
      dsimp only [List.take]
      (try k_fold)
      k_steps
      refine stop_go ?_
      (try k_extra "H:folds")
      refine (let H6 : Led := [(wa,listOf wl.toArray nw),(L₁ + 1 + 1,oS),(L₁ + 1,oT),(fd,o2),(cl,listOf vs.toArray n),(sa,listOf xs.toArray nx)];?_)
      have y1 : (wa,listOf wl.toArray nw) ∈ H6 := .head _
      have y2 : (L₁ + 1 + 1,oS) ∈ H6 := (.tail _ (.head _))
      have y3 : (L₁ + 1,oT) ∈ H6 := (.tail _ (.tail _ (.head _)))
      have y4 : (fd,o2) ∈ H6 := (.tail _ (.tail _ (.tail _ (.head _))))
      have y5 : (cl,listOf vs.toArray n) ∈ H6 := (.tail _ (.tail _ (.tail _ (.tail _ (.head _)))))
      have y6 : (sa,listOf xs.toArray nx) ∈ H6 := (.tail _ (.tail _ (.tail _ (.tail _ (.tail _ (.head _))))))
      refine zip_src (n1 := nw) (n2 := nx) (xs := wl) (ys := xs) (KidsJ w B ts kind ns ws BL H6) (by first | exact rfl | assumption) (by k_asm) (by k_asm) (by k_mem) (by k_mem) ?zsz ?zst ?zmem ?zstep ?zfin
      case zsz => rw [sizeLine_eq];omega
      case zst => exact ⟨[],ts,BL,rfl,k0off,hB,fun a vs h => h,Grow.refl,hw,.nil,rfl,fun i j k v h => nomatch h⟩
      case zmem =>
        intro i zs led zq5
        obtain ⟨js,ts1,BL1,rfl,r⟩ := zq5
        exact ⟨.head _,by k_mem⟩
      case zstep =>
        intro g I ltI i zs led v₁ v₂ e1 e2 hj C oC D q1 q2 q3 q4 q5 m₂ h tk E' hoC hx1 hx2 F1 N1 off1
        (try k_extra "H:fold")
        obtain ⟨js,ts1,BL1,rfl,dj,hB1,hT1,hG1,hw1,hjs,hjl,hko⟩ := hj
        refine x2_2 (ints_get hwl e1) ?_
        intro v tv
        rintro rfl
        intro hv1
        refine x2_2 (ints_get hi e2) ?_
        intro k tk2
        rintro rfl
        intro hk1
        refine x0_2 (hv k (List.mem_of_getElem? hk1)) ?_
        intro k1 zq6
        refine x1_1 zq6 ?_;(try clear zq6)
        intro d hkd
        obtain ⟨kn,rfl⟩ : ∃ kn : Nat,k = (kn : Int) := ⟨k.toNat,by omega⟩
        have hil : i < ws.length := by rw [hwn];exact (List.getElem?_eq_some_iff.mp hk1).1
        rw [List.getElem?_append_left hil] at hv1
        have hvb := hwb v (List.mem_append_left _ (List.mem_of_getElem? hv1))
        dsimp only [zipLed,List.cons_append,List.nil_append] at N1 off1
        refine x0_3 hB1.own ?_;(try clear hB1.own)
        intro i1 i2 i3
        k_steps
        refine stop_go ?_
        (try k_extra "H:folds")
        rename_i D9 h9 _ F9 N9 l9
        have l9' : AllLt D9 (((C,oC) :: (D,lst zs) :: zipLed I q1 q2 q3 q4 q5) ++ (H6 ++ BL1)) := l9
        have hGl := hG1.2
        k_dflt (refine timesn_use (ys := [(D9,tup [.int v tv,.int 1 tk])]) (BL := BL1) (ts := ts1) (v := v) (srt := kind) (d := d) (i := kn) ⟨by k_asm,by k_asm,by k_asm,fun p hp => N9 p (skipH (H := [(C,oC),(D,lst zs),(I + 4,q1),(I + 2,q2),(I + 3,q3),(I,q4),(I + 1,q5),(wa,listOf wl.toArray nw),(L₁ + 1 + 1,oS),(L₁ + 1,oT),(fd,o2),(cl,listOf vs.toArray n),(sa,listOf xs.toArray nx)]) hp),by k_asm,by first | exact rfl | assumption,by ktr_room,by ktr_units⟩ hB1 hX (List.forall_mem_singleton.mpr (allLt_allNe l9.2.2.2.2.2.2.2.2.2.2.2.2.2)) (List.forall_mem_singleton.mpr ⟨_,rfl⟩) (.head _) (hG1.1 _ _ hkd) hk (by omega) (by omega) (by omega) hw1 ?_)
        intro j tj ts2 BL2 h6 tk6 F6 A6 hB2 hT2 e4 hG2 hw2
        refine x0_2 (A6.frame (ms := ((C,oC) :: (D,lst zs) :: zipLed I q1 q2 q3 q4 q5) ++ H6) (fun p hp => N9 p (.tail _ (List.mem_append_left BL1 hp))) (kids_frame l9' off1 dj)) ?_
        intro NF dF
        refine ⟨h6,tk6,H6 ++ BL2,rfl,F6,NF,fun p hp q hq => ?_,js ++ [j],ts2,BL2,rfl,fun p hp q hq => dF p (List.mem_append_right _ hp) q hq,hB2,fun a vs h => hT2 a vs (.tail _ (hT1 a vs h)),(hG1.trans hG2).le (by omega),hw2,by rw [List.map_append];exact hjs.append (.cons _ _ .nil),by rw [List.length_append,hjl,List.length_singleton],kids_snoc hko hG2 hjl e4 hk1 hv1⟩
        rcases List.mem_append.mp hq with hq | hq
        · exact off1 p hp q (List.mem_append_left _ hq)
        · exact dF p (List.mem_append_left _ hp) q hq
      case zfin =>
        intro g zs led hj D h tk F9 N9 o9
        have em : min wl.length xs.length = ns.length := by
          have := hwl.length
          rw [List.length_append,List.length_singleton] at this
          omega
        rw [em] at hj
        obtain ⟨js,ts1,BL1,rfl,dj,hB1,hT1,hG1,hw1,hjs,hjl,hko⟩ := hj
        k_steps
        refine stop_go ⟨rfl,_,_,D,zs,js,_,ts1,BL1,rfl,F9,N9,hB1,hT1,hG1.le (by omega),hw1,hjs,hjl,hko,fun q hq => ?_,?_⟩
        · exact ⟨Ne.symm (dj _ (.head _) q hq),Ne.symm (dj _ (.tail _ (.head _)) q hq),Ne.symm (dj _ (.tail _ (.tail _ (.head _))) q hq),Ne.symm (dj _ (.tail _ (.tail _ (.tail _ (.head _)))) q hq),Ne.symm (dj _ (.tail _ (.tail _ (.tail _ (.tail _ (.head _))))) q hq),Ne.symm (dj _ (.tail _ (.tail _ (.tail _ (.tail _ (.tail _ (.head _)))))) q hq),trivial⟩
        · exact off1_allNe o9
    case cut4 =>
      intro sCut hCut
      (try k_fold)
      obtain ⟨h6,tk6,ka,kl,js,nk,ts1,BL1,rfl,F6,N6,hB1,hT1,hG1,hw1,hjs,hjl,hko,off1,lka⟩ := hCut
      dsimp only [List.drop]
      (try k_fold)
      refine (let H7 : Led := [(ka,listOf kl.toArray nk),(wa,listOf wl.toArray nw),(L₁ + 1 + 1,oS),(L₁ + 1,oT),(fd,o2),(cl,listOf vs.toArray n),(sa,listOf xs.toArray nx)];?_)
      have y1 : (ka,listOf kl.toArray nk) ∈ H7 := .head _
      have y2 : (wa,listOf wl.toArray nw) ∈ H7 := (.tail _ (.head _))
      have y3 : (L₁ + 1 + 1,oS) ∈ H7 := (.tail _ (.tail _ (.head _)))
      have y4 : (L₁ + 1,oT) ∈ H7 := (.tail _ (.tail _ (.tail _ (.head _))))
      have y5 : (fd,o2) ∈ H7 := (.tail _ (.tail _ (.tail _ (.tail _ (.head _)))))
      have y6 : (cl,listOf vs.toArray n) ∈ H7 := (.tail _ (.tail _ (.tail _ (.tail _ (.tail _ (.head _))))))
      have y7 : (sa,listOf xs.toArray nx) ∈ H7 := (.tail _ (.tail _ (.tail _ (.tail _ (.tail _ (.tail _ (.head _)))))))
      replace N6 : News g₁ L₁ h6 (H7 ++ BL1) := N6
      refine x0_3 hB1.own ?_;(try clear hB1.own)
      intro i1 i2 i3
      obtain ⟨kn,nr,ens⟩ : ∃ (kn : Nat) (nr : List Int),ns = (kn : Int) :: nr := by
        cases ns with
        | nil => rcases h1 with h | h <;> cases h
        | cons k r => exact ⟨k.toNat,r,by rw [show ((k.toNat : Nat) : Int) = k from by have := (hv k (.head _)).1;omega]⟩
      refine x0_2 (hv (kn : Int) (by rw [ens];exact .head _)) ?_
      intro _ zq7
      refine x1_1 zq7 ?_;(try clear zq7)
      intro d hkd
      have egd : ns.getD (Int.toNat 0) 0 = (kn : Int) := by rw [ens];rfl
      have hGl := hG1.2
      have hkl : kn < ts.length := (List.getElem?_eq_some_iff.mp hkd).1
      k_steps
      refine stop_go ?_
      (try k_extra "H:folds")
      rename_i D9 h9 _ F9 N9 l9 t9
      rw [egd]
      k_dflt (refine sort_use (ts := ts1) (i := kn) (r := varR kind d) ⟨by k_asm,by k_asm,by k_asm,by k_asm,by k_asm,by first | exact rfl | assumption,by ktr_room,by ktr_units⟩ hB1 (sub_tail (sub_tail (sub_tail (sub_tail (sub_tail (sub_tail (sub_tail (sub_tail sub_refl)))))))) (hG1.1 _ _ hkd) (by omega) ?_)
      clear N9
      intro t10 h10 tk10 F10 N10
      k_steps
      refine stop_go ?_
      (try k_extra "H:folds")
      have l9' : AllLt D9 (([] : Led) ++ (H7 ++ BL1)) := l9
      have hwc := hwb c (List.mem_append_right _ (.head _))
      k_dflt (refine num_use (ys := [(D9,tup [.int c _,.int 1 _])]) (BL := BL1) (ts := ts1) (v := c) (srt := kind) ⟨by k_asm,by k_asm,by k_asm,fun p hp => N10 p (skipH (H := H7) hp),by k_asm,by first | exact rfl | assumption,by ktr_room,by ktr_units⟩ hB1 hX (List.forall_mem_singleton.mpr (allLt_allNe l9.2.2.2.2.2.2.2)) (List.forall_mem_singleton.mpr ⟨_,rfl⟩) (.head _) hk (by omega) (by omega) (by omega) hw1 ?_)
      intro cn tc ts2 BL2 h11 tk11 F11 A11 hB2 hT2 ecn cn1 hG2 hw2
      have dH : ∀ p ∈ H7,∀ q ∈ BL1,q.1 ≠ p.1 := fun p hp q hq => by
        have a1 := off1 q hq
        simp +zetaDelta only [List.mem_cons,List.not_mem_nil,or_false] at hp
        rcases hp with rfl | rfl | rfl | rfl | rfl | rfl | rfl
        · exact AllNe.get lka.2.2.2.2.2.2 (o := q.2) hq
        · exact Ne.symm a1.1
        · exact Ne.symm a1.2.1
        · exact Ne.symm a1.2.2.1
        · exact Ne.symm a1.2.2.2.1
        · exact Ne.symm a1.2.2.2.2.1
        · exact Ne.symm a1.2.2.2.2.2.1
      refine x0_2 (A11.frame (ms := H7) (fun p hp => N10 p (.tail _ (List.mem_append_left BL1 hp))) (kids_frame (IT := []) l9' (fun p hp => nomatch hp) dH)) ?_
      intro N11 dF
      clear N10
      refine x0_3 hB2.own ?_;(try clear hB2.own)
      intro j1 j2 j3
      have hGl2 := hG2.2
      k_steps
      refine stop_go ?_
      (try k_extra "H:folds")
      rename_i la w2 h12 F12 N12 hI12 l12
      have l12' : AllLt la (([] : Led) ++ (H7 ++ BL2)) := l12.2
      have hko2 : KidsOk ts2 kind ns ws js := fun i j k v e1 e2 e3 => (hko i j k v e1 e2 e3).grow hG2
      k_dflt (refine plusN_use (ys := [(la,listOf w2.toArray _)]) (BL := BL2) (ts := ts2) (args := js ++ [cn]) (srt := kind) ⟨by k_asm,by k_asm,by k_asm,fun p hp => N12 p (skipL (H := H7) hp),by k_asm,by first | exact rfl | assumption,by ktr_room,by ktr_units⟩ hB2 hX (List.forall_mem_singleton.mpr (allLt_allNe (allLt_sub l12' fun p hp => List.mem_append_right _ (List.mem_append_right _ hp)))) (.head _) (by rw [List.map_append];exact hI12) (by rw [List.length_append,hjl,List.length_singleton];omega) (fun a ha => ?hrec) hk (by omega) hw2 ?_)
      case hrec =>
        rcases List.mem_append.mp ha with ha | ha
        · exact kids_sort hko2 hjl hwn (fun k hk => let ⟨_,d,e⟩ := hv k hk;⟨d,hG2.1 _ _ (hG1.1 _ _ e)⟩) a ha
        · rw [List.mem_singleton.mp ha]
          exact ⟨_,ecn,rfl⟩
      intro P tP ts3 BL3 h13 tk13 F13 A13 hB3 hT3 eP P1 hG3 hw3
      refine x0_2 (A13.frame (ms := H7) (fun p hp => N12 p (.tail _ (.tail _ (List.mem_append_left BL2 hp)))) (kids_frame (IT := []) l12' (fun p hp => nomatch hp) dF)) ?_
      intro N13 dF3
      clear N12
      (try dsimp only [List.cons_append,List.nil_append] at N13)
      k_steps
      rename (ka < _ ∧ _) => l14
      refine hret _ _ _ _ (by assumption) (after_of (led' := ( _,tup [.int (P : Int) tP,.ref wa]) :: (fd,o2) :: (cl,listOf vs.toArray n) :: (sa,listOf xs.toArray nx) :: (wa,listOf wl.toArray nw) :: BL3) (by assumption) (by assumption) (fun p hp => (by assumption : News g₁ L₁ _ _) p (sideEnd hp)) (fun p hp => (by assumption : News h₀ L _ _) p (sideEnd hp))) ⟨_,wa,P,tP,ts3,BL3,wl,ws,nw,c,o2,rfl,rfl,hf2,hwl,hwn,hwb,hB3,fun a vs h => hT3 a vs (.tail _ (hT2 a vs (.tail _ (hT1 a vs h)))),((hG1.trans hG2).trans hG3).le (by omega),hw3,⟨js,cn,hjl,fun i j k v e1 e2 e3 => (hko2 i j k v e1 e2 e3).grow hG3,hG3.1 _ _ ecn,cn1,eP,P1⟩,fun q hq => ?_,?_,?_⟩
      · exact ⟨Ne.symm (dF3 _ (.tail _ (.tail _ (.tail _ (.tail _ (.head _))))) q hq),Ne.symm (dF3 _ (.tail _ (.tail _ (.tail _ (.tail _ (.tail _ (.head _)))))) q hq),Ne.symm (dF3 _ (.tail _ (.tail _ (.tail _ (.tail _ (.tail _ (.tail _ (.head _))))))) q hq),Ne.symm (dF3 _ (.tail _ (.head _)) q hq),trivial⟩
      · exact ⟨lwa.2.2.1,lwa.2.2.2.1,lwa.2.2.2.2.1,trivial⟩
      · exact ⟨by k_ne,by k_ne,by k_ne,by k_ne,allLt_allNe l14.2.2.2.2.2.2.2⟩
  ))only[↓bx_eq]
end
end
section
noncomputable def dotS (ws ps : List Int) : Int := (List.zipWith (· * ·) ws ps).sum
noncomputable def saysB (rel : Str) (x y : Int) : Bool := if rel = Str.ofString "=" then decide (x = y) else (decide (x < y) || (decide (x = y) && decide (rel = Str.ofString "<=")))
theorem says_lt {x y : Int} : saysB (Str.ofString "<") x y = decide (x < y) := by
  unfold saysB
  rw [if_neg (by decide +kernel),decide_eq_false (show ¬ (Str.ofString "<" = Str.ofString "<=") by decide +kernel),Bool.and_false,Bool.or_false]
theorem says_le {x y : Int} : saysB (Str.ofString "<=") x y = decide (x ≤ y) := by
  unfold saysB
  rw [if_neg (by decide +kernel),decide_eq_true rfl,Bool.and_true]
  by_cases h : x < y
  · rw [decide_eq_true h,decide_eq_true (Int.le_of_lt h)];rfl
  · by_cases e : x = y
    · rw [decide_eq_true e,decide_eq_true (Int.le_of_eq e),Bool.or_true]
    · rw [decide_eq_false h,decide_eq_false e,decide_eq_false fun l => (Int.lt_or_eq_of_le l).elim h e];rfl
theorem says_eq {x y : Int} : saysB (Str.ofString "=") x y = decide (x = y) := by
  unfold saysB
  rw [if_pos rfl]
theorem zip_take {ws ps : List Int} {i : Nat} {a b : Int} (h1 : ws[i]? = some a) (h2 : ps[i]? = some b) : (List.zipWith (· * ·) ws ps).take (i + 1) = (List.zipWith (· * ·) ws ps).take i ++ [a * b] := by
  rw [List.take_add_one,List.getElem?_zipWith,h1,h2]
  rfl
theorem small_len {pl : List Value} {n : Nat} (h : pl.length = n) (h2 : n = 1 ∨ n = 2) : pl.length ≤ sizeLine := by
  rw [h,sizeLine_eq]
  rcases h2 with rfl | rfl <;> decide
theorem zw_min {xs pl : List Value} {ws ps : List Int} (h1 : xs.length = ws.length + 1) (h2 : pl.length = ps.length) (h3 : ws.length = ps.length) : (List.zipWith (· * ·) ws ps).take (min xs.length pl.length) = List.zipWith (· * ·) ws ps :=
  List.take_of_length_le (by rw [List.length_zipWith,h1,h2,h3,Nat.min_self];exact Nat.le_min.mpr ⟨Nat.le_succ _,Nat.le_refl _⟩)
theorem list_last {prog : Program} {w : World} {A : Around} {E : Value → Shared → Prop} {s : Shared} {h₀ : Heap} {L l : Addr} {led : Led} {init : List Value} {x : Value} {n : Nat} {u : Tok} {Q : Value → Shared → Prop} {value slice : Expr} (N : News h₀ L s.heap led) (hm : (l,listOf (init ++ [x]).toArray n) ∈ led) (h : Q x s)
    (hs : subscripted slice false (.ref l) (.int (-1) u) = operate [.ref l,.int (-1) u] (getItem (.ref l) (.int (-1) u))) :
    wpAny (model prog w) A (subscriptTail value slice (.ref l) (.int (-1) u)) Q E s := by
  have hl : s.heap.IsList l (init ++ [x]).toArray := ⟨_,(N _ hm).1,rfl,_,rfl⟩
  exact kde_neg hl (by decide) (by decide) (last_index init x) (by simp) h hs
theorem ints_snoc {vs : List Value} {ws : List Int} {c : Int} (h : IntsAre vs (ws ++ [c])) : ∃ (init : List Value) (t : Tok),vs = init ++ [.int c t] := by
  have hl := h.length
  rw [List.length_append,List.length_singleton] at hl
  rcases List.eq_nil_or_concat vs with rfl | ⟨init,v,rfl⟩
  · simp at hl
  · rw [List.concat_eq_append] at h ⊢
    have hv : (init ++ [v])[ws.length]? = some v := get_last (by simp at hl;exact hl)
    refine x2_2 (ints_get h hv) ?_
    intro k t
    rintro rfl
    intro hk
    rw [get_last rfl] at hk
    obtain rfl := Option.some.inj hk
    exact ⟨init,t,rfl⟩
section
open LCg LCp
theorem g35.on35 : True := trivial
open g35
theorem set_66 : True := by
  k_with "!eval ListComp" => ((fail_if_success(fail_if_success have:=on35));(k_here;(with_reducible show wpAny _ _ (eval (Expr.ListComp _ [⟨Expr.Tuple _ _ _,_,[],0⟩] _ _) _) _ _ _);k_dflt (refine zip_comp (by k_asm) (by with_unfolding_all rfl) (by decide) (by rfl) (by decide) (by rfl) (by rfl) (by decide) ?_ (by intro _;rfl))))
  k_with "!call type:zip" => ((fail_if_success(fail_if_success have:=on35));(k_here;refine stop_at ?_))
  k_with "!subscriptTail" => ((fail_if_success(fail_if_success have:=on35));(k_here;(with_reducible show wpAny _ _ (subscriptTail _ _ (Value.ref _) (Value.int (-1) _)) _ _ _);k_dflt (refine' list_last ?q9kN ?q9kM ?_ ?q9ks9;(case q9ks9 => with_unfolding_all rfl);(case q9kN => k_asm);(case q9kM => k_mem);k_whole)))
  exact trivial
theorem says_use {wa oa pa : Addr} {wl ol pl : List Value} {ws os ps : List Int} {c d : Int} {nw no np : Nat} {rel : Str} {tr : Tok} (Z : Sit w dp un cs outer A₀ base h₀ L m mean mg mb s all 2 16)
    (hh : (wa,listOf wl.toArray nw) ∈ all ∧ (oa,listOf ol.toArray no) ∈ all ∧ (pa,listOf pl.toArray np) ∈ all ∧ IntsAre wl (ws ++ [c]) ∧ IntsAre ol (os ++ [d]) ∧ IntsAre pl ps ∧ ws.length = ps.length ∧ os.length = ps.length ∧ (ps.length = 1 ∨ ps.length = 2) ∧ Bd3 (ws ++ [c]) ∧ Bd3 (os ++ [d]) ∧ (∀ p ∈ ps,-24 ≤ p ∧ p ≤ 24) ∧ RelOk rel)
    (ret : ∀ h' tk',Fr h₀ L h' m → News h₀ L h' all → Q (.bool (saysB rel (dotS ws ps + 6 * c) (dotS os ps + 6 * d))) { s with heap := h',toks := tk' }) :
    wpAny (model PG w) (ktrTop dp un gd cn cs L a₁ ccd ce outer) (call (.ref 877) [.str rel tr,.ref wa,.ref oa,.ref pa]) Q E s := by
  apply bx;simp(disch:=k_dflt(
  obtain ⟨B,F,X,N,T,hk,hd,hu⟩ := Z
  refine x0_13 hh ?_;(try clear hh)
  intro m1 m2 m3 hw ho hp l1 l2 l3 b1 b2 b3 hr
  have z1 := hw.length
  have z2 := ho.length
  have z3 := hp.length
  rw [List.length_append,List.length_singleton] at z1 z2
  refine x2_1 (ints_snoc hw) ?_
  intro wi tw
  rintro rfl
  refine x2_1 (ints_snoc ho) ?_
  intro oi to
  rintro rfl
  k_dflt (apply call_at (binds := [(Str.ofString "relation",Value.str rel tr),(Str.ofString "wide",Value.ref wa),(Str.ofString "others",Value.ref oa),(Str.ofString "point",Value.ref pa)]));k_extra "H:o_rest"
  k_steps
  refine stop_go ?_
  refine zip_src (n1 := nw) (n2 := np) (xs := wi ++ [.int c tw]) (ys := pl) (fun i zs l => (∀ p ∈ all,p ∈ l) ∧ ∃ ns,IntsAre zs ns ∧ ns = (List.zipWith (· * ·) ws ps).take i) (by first | exact rfl | assumption) (by k_asm) (by k_asm) (by k_mem) (by k_mem) ?zsz ⟨sub_refl,[],.nil,rfl⟩ (fun i zs l h => ⟨h.1 _ m1,h.1 _ m3⟩) ?zstep ?zfin
  case zsz => exact Nat.le_trans (Nat.min_le_right ..) (small_len z3 l3)
  case zstep =>
    intro g I ltI i zs led v₁ v₂ e1 e2 zq1
    refine x0_2 zq1 ?_;(try clear zq1)
    intro hs zq2
    refine x1_2 zq2 ?_;(try clear zq2)
    intro ns hi hn
    intro C oC D q1 q2 q3 q4 q5 m₂ h tk E' hoC hx1 hx2 F1 N1 off1
    (try k_extra "H:fold")
    refine x2_2 (ints_get hw e1) ?_
    intro v tv
    rintro rfl
    intro hv1
    refine x2_2 (ints_get hp e2) ?_
    intro k tk2
    rintro rfl
    intro hk1
    have hil : i < ws.length := by rw [l1];exact (List.getElem?_eq_some_iff.mp hk1).1
    rw [List.getElem?_append_left hil] at hv1
    refine x0_2 (b1 v (List.mem_append_left _ (List.mem_of_getElem? hv1))) ?_
    intro v1 v2
    refine x0_2 (b3 k (List.mem_of_getElem? hk1)) ?_
    intro p1 p2
    dsimp only [zipLed,List.cons_append,List.nil_append] at N1
    k_steps
    exact stop_go ⟨_,_,led,rfl,F1,N1,off1,hs,_,hi.append (.cons _ _ .nil),by rw [hn];exact (zip_take hv1 hk1).symm⟩
  case zfin =>
    intro g zs led zq3
    refine x0_2 zq3 ?_;(try clear zq3)
    intro hs zq4
    refine x1_2 zq4 ?_;(try clear zq4)
    intro ns hi hn
    intro D h tk F9 N9 o9
    have m1' := hs _ m1
    have m2' := hs _ m2
    have m3' := hs _ m3
    k_steps
    refine stop_go ?_
    rw [zw_min z1 z3 l1] at hn
    refine zip_src (n1 := no) (n2 := np) (xs := oi ++ [.int d to]) (ys := pl) (fun i zs l => (∀ p ∈ all,p ∈ l) ∧ ∃ ns,IntsAre zs ns ∧ ns = (List.zipWith (· * ·) os ps).take i) (by first | exact rfl | assumption) (by k_asm) (by k_asm) (.tail _ m2') (.tail _ m3') ?zsz2 ⟨sub_tail hs,[],.nil,rfl⟩ (fun i zs l h => ⟨h.1 _ m2,h.1 _ m3⟩) ?zstep2 ?zfin2
    case zsz2 => exact Nat.le_trans (Nat.min_le_right ..) (small_len z3 l3)
    case zstep2 =>
      intro g I ltI i zs led v₁ v₂ e1 e2 zq5
      refine x0_2 zq5 ?_;(try clear zq5)
      intro hs zq6
      refine x1_2 zq6 ?_;(try clear zq6)
      intro ns hi hn
      intro C oC D q1 q2 q3 q4 q5 m₂ h tk E' hoC hx1 hx2 F1 N1 off1
      (try k_extra "H:fold")
      refine x2_2 (ints_get ho e1) ?_
      intro v tv
      rintro rfl
      intro hv1
      refine x2_2 (ints_get hp e2) ?_
      intro k tk2
      rintro rfl
      intro hk1
      have hil : i < os.length := by rw [l2];exact (List.getElem?_eq_some_iff.mp hk1).1
      rw [List.getElem?_append_left hil] at hv1
      refine x0_2 (b2 v (List.mem_append_left _ (List.mem_of_getElem? hv1))) ?_
      intro v1 v2
      refine x0_2 (b3 k (List.mem_of_getElem? hk1)) ?_
      intro p1 p2
      dsimp only [zipLed,List.cons_append,List.nil_append] at N1
      k_steps
      exact stop_go ⟨_,_,led,rfl,F1,N1,off1,hs,_,hi.append (.cons _ _ .nil),by rw [hn];exact (zip_take hv1 hk1).symm⟩
    case zfin2 =>
      intro g2 zs2 led2 zq7
      refine x0_2 zq7 ?_;(try clear zq7)
      intro hs2 zq8
      refine x1_2 zq8 ?_;(try clear zq8)
      intro ns2 hi2 hn2
      intro D2 h2 tk2 F92 N92 o92
      rw [zw_min z2 z3 l2] at hn2
      have m2'' := hs2 _ m2
      clear hs m1' m2' m3'
      rcases hr with e | e | e <;> subst e
      all_goals k_steps
      all_goals (refine bool_ret ?_ (ret _ _ (by assumption) (fun p hp => (by with_reducible assumption : News h₀ L _ _) p (.tail _ (hs2 p hp)))))
      all_goals rw [show dotS ws ps = ns.sum from by rw [hn];rfl,show dotS os ps = ns2.sum from by rw [hn2];rfl]
      all_goals clear hn hn2
      all_goals first | rw [says_lt] | rw [says_le] | rw [says_eq]
      all_goals (try simp only [show (Str.ofString "<" == Str.ofString "<=") = false from by decide +kernel,show (Str.ofString "<=" == Str.ofString "<=") = true from by decide +kernel])
      all_goals first | rfl | exact fc1 (by assumption) | exact fc2 (by assumption) (by assumption) | exact fc3 (by assumption) | exact fc4 (by assumption) | exact fc5 (by assumption) (by assumption)
  ))only[↓bx_eq]
end
end
section
noncomputable def PairOk (kind : Int) (ts : List Term3) (rel rel2 : Str) (bp bq bp2 bq2 : Int) : Prop :=
  (kind = 1 ∧ ts ≠ [] ∧ bp * bq2 + bp2 * bq = 0 - bq * bq2 ∧ rel = Str.ofString "<=" ∧ rel2 = Str.ofString "<=") ∨
  ((kind = 2 ∨ (kind = 1 ∧ ts = [])) ∧ bp * bq2 + bp2 * bq = 0 ∧ ((rel = Str.ofString "<" ∧ rel2 = Str.ofString "<=") ∨ (rel = Str.ofString "<=" ∧ rel2 = Str.ofString "<")))
section
open LCg LCp
theorem g36.on36 : True := trivial
open g36
theorem set_67 : True := by
  k_with "!compareOp NotEq ref ref" => ((fail_if_success(fail_if_success have:=on36));(k_here;refine stop_at ?_))
  exact trivial
inductive PairC (g : Heap) (L : Addr) (s : Shared) (all : Led) (kind : Int) (t9 : Tok) (ra rb : Addr) (q b : Int) (s' : Shared) : Prop
  | mk (h' : Heap) (tk' : Nat) (m' : Mp) (T : Led) (t1 t2 : Tok) (e : s' = { s with heap := h',toks := tk' }) (F : Fr g L h' m') (e1 : m' (Str.ofString "kind") = some (.int kind t9)) (e2 : m' (Str.ofString "row") = some (.ref ra)) (e3 : m' (Str.ofString "other") = some (.ref rb)) (e4 : m' (Str.ofString "bottom") = some (.int q t1)) (e5 : m' (Str.ofString "both") = some (.int b t2)) (N : News g L h' T) (hs : ∀ p ∈ all,p ∈ T) : PairC g L s all kind t9 ra rb q b s'
theorem pair_use {ra rb : Addr} {ts : List Term3} {rel rel2 : Str} {bp bq bp2 bq2 kind : Int} {t9 : Tok} (Z : Sit w dp un cs outer A₀ base h₀ L m mean mg mb s all 2 100)
    (hh : RowAt all ra ts rel bp bq ∧ RowAt all rb (ts.map negT) rel2 bp2 bq2 ∧ ts.length ≤ 2 ∧ (∀ t ∈ ts,-100000 ≤ t.2.1 ∧ t.2.1 ≤ 100000) ∧ (-100000 ≤ bp ∧ bp ≤ 100000) ∧ (1 ≤ bq ∧ bq ≤ 100000) ∧ (-100000 ≤ bp2 ∧ bp2 ≤ 100000) ∧ (1 ≤ bq2 ∧ bq2 ≤ 100000) ∧ PairOk kind ts rel rel2 bp bq bp2 bq2)
    (ret : ∀ h' tk',Fr h₀ L h' m → News h₀ L h' all → Q (.bool true) { s with heap := h',toks := tk' }) :
    wpAny (model PG w) (ktrTop dp un gd cn cs L a₁ ccd ce outer) (call (.ref 882) [.int kind t9,.ref ra,.ref rb]) Q E s := by
  apply bx;simp(disch:=k_dflt(
  obtain ⟨B,F,X,N,T,hk,hd,hu⟩ := Z
  refine x0_9 hh ?_;(try clear hh)
  intro zq1
  refine x5_3 zq1 ?_;(try clear zq1)
  intro ta ba tr t1 t2 m1 m2 zq2
  refine x1_2 zq2 ?_;(try clear zq2)
  intro vs m3 hT
  intro zq3
  refine x5_3 zq3 ?_;(try clear zq3)
  intro tb bb tr2 t3 t4 n1 n2 zq4
  refine x1_2 zq4 ?_;(try clear zq4)
  intro vs2 n3 hT2
  intro hl hb zq5
  refine x0_2 zq5 ?_;(try clear zq5)
  intro p1 p2
  intro zq6
  refine x0_2 zq6 ?_;(try clear zq6)
  intro p3 p4
  intro zq7
  refine x0_2 zq7 ?_;(try clear zq7)
  intro p5 p6
  intro zq8
  refine x0_2 zq8 ?_;(try clear zq8)
  intro p7 p8
  intro hp
  have hvl := hT.length
  have hsz : vs.length ≤ sizeLine := by rw [sizeLine_eq];omega
  k_dflt (apply call_at (binds := [(Str.ofString "kind",Value.int kind t9),(Str.ofString "row",Value.ref ra),(Str.ofString "other",Value.ref rb)]));k_extra "H:o_rest"
  rename_i g₁ L₁ h₁ FG₁ F₁ N₁ B₁ X₁ T₁ z₁
  with_reducible refine execs_cutS 3 (PairC g₁ L₁ s all kind t9 ra rb (bq * bq2) (bp * bq2 + bp2 * bq)) ?cut1 ?cut2
  case cut1 =>
    dsimp only [List.take]
    k_steps
    refine' pairs_inv0 (fun l₀ i ys led => (∀ p ∈ l₀,p ∈ led) ∧ TermsIn led ys ((ts.take i).map negT)) ⟨sub_refl,.nil⟩ ?step2 ?fin2
    case step2 =>
      intro i ys led v zq9 hv
      refine (let pk := _;(?_ : PairStep _ _ pk))
      refine x0_2 zq9 ?_;(try clear zq9)
      intro hs hT'
      refine x6_4 (hT.at hv) ?_
      intro a b t ti tp tq e1 e2 g1 g2
      have g3 := hs _ (by k_mem : (a,tup [.int t.1 ti,.ref b]) ∈ _)
      have g4 := hs _ (by k_mem : (b,tup [.int t.2.1 tp,.int t.2.2 tq]) ∈ _)
      have g5 := hs _ (by k_mem : (ta,tup vs) ∈ _)
      have j6' := hb t (List.mem_of_getElem? e2)
      refine ⟨a,_,_,e1,g3,?_⟩
      intro I oI C oC D m₂ h tk E' hC hx1 hx2 F1 N1 off
      k_steps
      refine stop_go ?_
      (try k_extra "H:folds")
      exact compEnd_two (by assumption) (by assumption) off ⟨by k_ne,by k_ne,by k_ne⟩ ⟨by k_ne,by k_ne,by k_ne⟩ (by k_mem) ⟨sub_tail (sub_tail hs),by
        rw [map_take_succ e2]
        exact (hT'.mono (sub_tail (sub_tail sub_refl))).snoc (.head _) (by rw [← Int.zero_sub t.2.1];exact .tail _ (.head _))⟩
    case fin2 =>
      intro ys led zq10
      refine x0_2 zq10 ?_;(try clear zq10)
      intro hs hT'
      rw [hvl,List.take_length] at hT'
      have hyl : ys.length ≤ 16384 := by rw [hT'.length,List.length_map];omega
      have k1 := hs _ m1
      have k2 := hs _ m2
      have k3 := hs _ m3
      have k4 := hs _ n1
      have k5 := hs _ n2
      have k6 := hs _ n3
      k_steps
      refine stop_go ?_
      (try k_extra "H:folds")
      rename News _ _ _ _ => N9
      k_dflt (refine dat_ne N9 (DatIn.tuple (.head _) (hT'.mono (sub_tail (sub_tail sub_refl))).dat) (DatIn.tuple (.tail _ (.tail _ k6)) ((hT2.mono hs).mono (sub_tail (sub_tail sub_refl))).dat) (termsD_ok _) (termsD_ok _) (by ktr_units) (fun _ => ?_) (fun n => absurd rfl n))
      k_steps
      exact stop_go ⟨rfl,_,_,_,_,_,_,rfl,by k_asm,by (k_extra "H:look"),by (k_extra "H:look"),by (k_extra "H:look"),by (k_extra "H:look"),by (k_extra "H:look"),by k_asm,(by first | exact sub_tail (sub_tail (sub_tail hs)) | exact sub_tail (sub_tail hs) | exact hs)⟩
  case cut2 =>
    intro sCut hCut
    obtain ⟨h2,tk2,mX,T2,u1,u2,rfl,F2,e1,e2,e3,e4,e5,N2,hs⟩ := hCut
    dsimp only [List.drop]
    have k1 := hs _ m1
    have k2 := hs _ m2
    have k3 := hs _ m3
    have k4 := hs _ n1
    have k5 := hs _ n2
    have k6 := hs _ n3
    rcases hp with ⟨rfl,hne,h1,rfl,rfl⟩ | ⟨hk9,h1,hr⟩
    · k_steps
      refine stop_go ?_
      (try k_extra "H:folds")
      rename News _ _ _ _ => N8
      refine terms_ne_nil N8 (by k_mem) (ts := ts) (vs := vs) (by repeat first | exact hT.mono hs | refine TermsIn.tails ?_) (by k_mem) (by ktr_units) (fun e => absurd e hne) fun _ => ?_
      k_steps
      all_goals exact bool_ret (by first | exact beq_iff_eq.mpr h1 | decide +kernel) (ret _ _ (by assumption) fun p hp => (by with_reducible assumption : News h₀ L _ _) p (by first | exact sub_tail (sub_tail (sub_tail hs)) p hp | exact sub_tail (sub_tail hs) p hp | exact sub_tail hs p hp | exact hs p hp))
    · with_reducible refine execs_cutS 1 (PairC g₁ L₁ s all kind t9 ra rb (bq * bq2) (bp * bq2 + bp2 * bq)) ?cut3 ?cut4
      case cut3 =>
        dsimp only [List.take]
        rcases hk9 with rfl | ⟨rfl,rfl⟩
        · k_steps
          exact stop_go ⟨rfl,_,_,_,_,_,_,rfl,by k_asm,e1,e2,e3,e4,e5,by k_asm,hs⟩
        · k_steps
          refine stop_go ?_
          (try k_extra "H:folds")
          rename News _ _ _ _ => N8
          refine terms_ne_nil N8 (by k_mem) (ts := []) (vs := vs) (by repeat first | exact hT.mono hs | refine TermsIn.tails ?_) (by k_mem) (by ktr_units) (fun _ => ?_) fun e => absurd rfl e
          k_steps
          exact stop_go ⟨rfl,_,_,_,_,_,_,rfl,by k_asm,e1,e2,e3,e4,e5,by k_asm,by first | exact sub_tail hs | exact hs⟩
      case cut4 =>
        intro sCut hCut
        obtain ⟨h3,tk3,mY,T3,u3,u4,rfl,F3,e1,e2,e3,e4,e5,N3,hs⟩ := hCut
        dsimp only [List.drop]
        clear N2 F2
        have k1 := hs _ m1
        have k2 := hs _ m2
        have k4 := hs _ n1
        have k5 := hs _ n2
        rcases hr with ⟨rfl,rfl⟩ | ⟨rfl,rfl⟩
        all_goals k_steps
        all_goals exact bool_ret (by first | exact rfl | exact beq_iff_eq.mpr h1) (ret _ _ (by assumption) fun p hp => (by with_reducible assumption : News h₀ L _ _) p (by first | exact sub_tail (sub_tail (sub_tail (sub_tail (sub_tail hs)))) p hp | exact sub_tail (sub_tail (sub_tail (sub_tail hs))) p hp | exact sub_tail (sub_tail (sub_tail hs)) p hp | exact sub_tail (sub_tail hs) p hp | exact sub_tail hs p hp | exact hs p hp))
  ))only[↓bx_eq]
end
end
section
section
open PySem
variable {prog : Program} {w : World} {A : Around} {E : Value → Shared → Prop} {s : Shared}
abbrev IsZipH (h : Heap) (z TI TO T : Addr) (b : Bool) : Prop :=
  h.get? z = some { cls := .type "zip",dict := none,data := .fields #[rawInt T,.bool b,.bool false,.ref TI,.ref TO],slots := #[] }
theorem wpAny_loadIfAlive' {a : Addr} {Q : Option Obj → Shared → Prop} (h : Q (s.heap.get? a) s) : wpAny (model prog w) A (loadIfAlive a) Q E s := fun Γ p hΓ => by
  unfold loadIfAlive
  rw [Sem.wp_loadIfAlive]
  exact wpAny_pure (M := model prog w) (A := A) h Γ p hΓ
theorem held_free {z TI TO T : Addr} {b : Bool} {oT : Obj} {Q : Bool → Shared → Prop} (hz : IsZipH s.heap z TI TO T b) (hT : s.heap.get? T = some oT)
    (hQ : ∀ h',IsZipH h' z TI TO T true → Heap.SameBut z s.heap h' → Q false { s with heap := h' }) :
    wpAny (model prog w) A (Builtin.SmallTypes.ownedTupleIsFree (.ref z)) Q E s := by
  unfold Builtin.SmallTypes.ownedTupleIsFree
  refine wpAny_bind (wpAny_field hz rfl (x := rawInt T) rfl ?_)
  show wpAny _ _ (loadIfAlive (Int.toNat (T : Int)) >>= _) _ _ _
  rw [Int.toNat_natCast]
  refine wpAny_bind (wpAny_loadIfAlive' ?_)
  rw [hT]
  rw [if_neg (show ¬((some oT).isNone = true) from Bool.false_ne_true)]
  refine wpAny_bind (wpAny_field hz rfl (x := .bool b) rfl ?_)
  cases b with
  | true =>
    rw [if_neg (by decide)]
    exact wpAny_pure (hQ _ hz (Heap.SameBut.refl _ _))
  | false =>
    rw [if_pos (by decide)]
    refine wpAny_bind (wpAny_setField_rec hz (by simp) fun h₁ hz₁ hs₁ => ?_)
    exact wpAny_pure (hQ _ hz₁ hs₁)
theorem zip_next_held {z TI TO T i1 i2 l1 l2 : Addr} {k1 k2 : Nat} {xs ys : Array Value} {x y : Value} {b : Bool} {oT : Obj} {Q : Value → Shared → Prop} (D : ZipApart z TI TO i1 i2 l1 l2)
    (hz : IsZipH s.heap z TI TO T b) (hT : s.heap.get? T = some oT) (hTI : IsPair s.heap TI (.ref i1) (.ref i2))
    (h1 : s.heap.IsListIter i1 l1 k1) (h2 : s.heap.IsListIter i2 l2 k2) (hl1 : s.heap.IsList l1 xs) (hl2 : s.heap.IsList l2 ys) (hx : xs[k1]? = some x) (hy : ys[k2]? = some y)
    (hQ : ∀ h',IsZipH h' z TI TO T true → h'.IsListIter i1 l1 (k1 + 1) → h'.IsListIter i2 l2 (k2 + 1) → IsPair h' s.heap.objs.size x y →
      (∀ c o,c ≠ z → c ≠ i1 → c ≠ i2 → s.heap.get? c = some o → h'.get? c = some o) → Q (.ref s.heap.objs.size) { s with heap := h' }) :
    wpAny (model prog w) A (Builtin.«zip.__next__» ⟨[.ref z],[]⟩) (fun fin s' => ∃ v,fin = .done (.ret v) ∧ Q v s') E s := by
  show wpAny _ _ (field (.ref z) 2 >>= _) _ _ _
  refine wpAny_bind (wpAny_field hz rfl (x := .bool false) rfl ?_)
  show wpAny _ _ (field (.ref z) 3 >>= _) _ _ _
  refine wpAny_bind (wpAny_field hz rfl (x := .ref TI) rfl ?_)
  refine wpAny_bind (wpAny_seqItems hTI rfl ?_)
  show wpAny _ _ (Builtin.SmallTypes.ownedTupleIsFree (.ref z) >>= _) _ _ _
  refine wpAny_bind (held_free hz hT fun h₁ hz₁ hs₁ => ?_)
  rw [if_neg Bool.false_ne_true]
  refine wpAny_bind ?_
  rw [List.forIn_toArray,List.forIn_cons]
  refine wpAny_bind (wpAny_bind (wpAny_holding ?_))
  show wpAny _ _ (Builtin.SmallTypes.nextOf (.ref i1) >>= _) _ _ _
  refine wpAny_bind (wpAny_nextOf_list_item (h1.extBut hs₁.extBut D.i1z) (hl1.extBut hs₁.extBut D.l1z) hx fun h₂ h1₂ hs₂ => wpAny_pure (wpAny_pure ?_))
  dsimp only
  rw [List.forIn_cons]
  refine wpAny_bind (wpAny_bind (wpAny_holding ?_))
  show wpAny _ _ (Builtin.SmallTypes.nextOf (.ref i2) >>= _) _ _ _
  refine wpAny_bind (wpAny_nextOf_list_item ((h2.extBut hs₁.extBut D.i2z).extBut hs₂.extBut D.i12.symm)
    ((hl2.extBut hs₁.extBut D.l2z).extBut hs₂.extBut D.l2i1) hy fun h₃ h2₃ hs₃ => wpAny_pure (wpAny_pure ?_))
  dsimp only
  rw [List.forIn_nil]
  refine wpAny_pure ?_
  dsimp only
  refine wpAny_bind (wpAny_newTuple ?_ (Nat.le_of_ble_eq_true rfl))
  have hsz : h₃.objs.size = s.heap.objs.size := by rw [hs₃.1,hs₂.1,hs₁.1]
  refine wpAny_pure ⟨_,rfl,?_⟩
  show Q (.ref h₃.objs.size) _
  rw [hsz]
  have up : ∀ c o,h₃.get? c = some o → (h₃.push { cls := .type "tuple",data := .seq #[x,y] }).get? c = some o := fun c o e => Heap.get?_push_of_some _ e
  refine hQ _ (up _ _ (hs₃.extBut _ _ D.i2z.symm (hs₂.extBut _ _ D.i1z.symm hz₁))) ((h1₂.extBut hs₃.extBut D.i12).at fun o e => up _ o e) (h2₃.at fun o e => up _ o e) ?_ fun c o c1 c2 c3 e => up _ _ (hs₃.extBut _ _ c3 (hs₂.extBut _ _ c2 (hs₁.extBut _ _ c1 e)))
  rw [← hsz]
  exact Heap.get?_push_size _ rfl
theorem zip_held_end {z TI TO T i1 i2 l1 : Addr} {k1 : Nat} {xs : Array Value} {b : Bool} {oT : Obj} {Q : Fin → Shared → Prop} (hh : A.handled = none) (d1 : i1 ≠ z) (d2 : l1 ≠ z)
    (hz : IsZipH s.heap z TI TO T b) (hT : s.heap.get? T = some oT) (hTI : IsPair s.heap TI (.ref i1) (.ref i2))
    (h1 : s.heap.IsListIter i1 l1 k1) (hl1 : s.heap.IsList l1 xs) (hx : xs[k1]? = none)
    (hE : ∀ h' e,(∀ c o,c ≠ z → c ≠ i1 → s.heap.get? c = some o → h'.get? c = some o) → (∃ o,h'.get? e = some o ∧ o.cls = .type "StopIteration") → E (.ref e) { s with heap := h' }) :
    wpAny (model prog w) A (Builtin.«zip.__next__» ⟨[.ref z],[]⟩) Q E s := by
  show wpAny _ _ (field (.ref z) 2 >>= _) _ _ _
  refine wpAny_bind (wpAny_field hz rfl (x := .bool false) rfl ?_)
  show wpAny _ _ (field (.ref z) 3 >>= _) _ _ _
  refine wpAny_bind (wpAny_field hz rfl (x := .ref TI) rfl ?_)
  refine wpAny_bind (wpAny_seqItems hTI rfl ?_)
  show wpAny _ _ (Builtin.SmallTypes.ownedTupleIsFree (.ref z) >>= _) _ _ _
  refine wpAny_bind (held_free hz hT fun h₁ hz₁ hs₁ => ?_)
  rw [if_neg Bool.false_ne_true]
  refine wpAny_bind ?_
  rw [List.forIn_toArray,List.forIn_cons]
  refine wpAny_bind (wpAny_bind (wpAny_holding ?_))
  show wpAny _ _ (Builtin.SmallTypes.nextOf (.ref i1) >>= _) _ _ _
  refine wpAny_bind (wpAny_nextOf_list_end hh (h1.extBut hs₁.extBut d1) (hl1.extBut hs₁.extBut d2) hx fun h₂ e hs₂ he => ?_)
  exact hE h₂ e (fun c o c1 c2 x => hs₂ _ _ c2 (hs₁.extBut _ _ c1 x)) he
theorem pyNext_held {z TI TO T i1 i2 l1 l2 : Addr} {k1 k2 : Nat} {xs ys : Array Value} {x y : Value} {b : Bool} {oT : Obj} {Q : Option Value → Shared → Prop} (D : ZipApart z TI TO i1 i2 l1 l2)
    (hz : IsZipH s.heap z TI TO T b) (hT : s.heap.get? T = some oT) (hTI : IsPair s.heap TI (.ref i1) (.ref i2))
    (h1 : s.heap.IsListIter i1 l1 k1) (h2 : s.heap.IsListIter i2 l2 k2) (hl1 : s.heap.IsList l1 xs) (hl2 : s.heap.IsList l2 ys) (hx : xs[k1]? = some x) (hy : ys[k2]? = some y)
    (hQ : ∀ h',IsZipH h' z TI TO T true → h'.IsListIter i1 l1 (k1 + 1) → h'.IsListIter i2 l2 (k2 + 1) → IsPair h' s.heap.objs.size x y →
      (∀ c o,c ≠ z → c ≠ i1 → c ≠ i2 → s.heap.get? c = some o → h'.get? c = some o) → Q (some (.ref s.heap.objs.size)) { s with heap := h' }) :
    wpAny (model prog w) A (pyNext (.ref z)) Q E s := by
  have hTy : s.TypeIs (.ref z) "zip" := ⟨_,hz,rfl⟩
  unfold pyNext
  exact wpAny_bind (wpAny_attempt (wpAny_callSpecial?_slot (name := Str.ofString "__next__") hTy F.slot_zip_next
    (wpAny_call_entry F.slot_zip_next hTy F.entry_zip_next
      (zip_next_held D hz hT hTI h1 h2 hl1 hl2 hx hy fun h' a1 a2 a3 a4 a5 => wpAny_pure (hQ h' a1 a2 a3 a4 a5)) (F.args_zip_next_1 _))))
theorem pyNext_held_end {z TI TO T i1 i2 l1 : Addr} {k1 : Nat} {xs : Array Value} {b : Bool} {oT : Obj} {Q : Option Value → Shared → Prop} (hh : A.handled = none) (d1 : i1 ≠ z) (d2 : l1 ≠ z)
    (hz : IsZipH s.heap z TI TO T b) (hT : s.heap.get? T = some oT) (hTI : IsPair s.heap TI (.ref i1) (.ref i2))
    (h1 : s.heap.IsListIter i1 l1 k1) (hl1 : s.heap.IsList l1 xs) (hx : xs[k1]? = none)
    (hQ : ∀ h',(∀ c o,c ≠ z → c ≠ i1 → s.heap.get? c = some o → h'.get? c = some o) → Q none { s with heap := h' }) :
    wpAny (model prog w) A (pyNext (.ref z)) Q E s := by
  have hTy : s.TypeIs (.ref z) "zip" := ⟨_,hz,rfl⟩
  unfold pyNext
  refine wpAny_bind (wpAny_attempt (wpAny_callSpecial?_slot (name := Str.ofString "__next__") hTy F.slot_zip_next
    (wpAny_call_entry F.slot_zip_next hTy F.entry_zip_next (zip_held_end hh d1 d2 hz hT hTI h1 hl1 hx fun h' e hk he => ?_) (F.args_zip_next_1 _))))
  refine x1_2 he ?_;(try clear he)
  intro o ho hc
  refine wpAny_bind (wpAny_isInstance (T := "StopIteration") (b := true) ⟨o,ho,hc⟩ isSubtype_stop ?_)
  exact wpAny_pure (hQ _ hk)
end
end
section
theorem zp_getattr_none : typeLookup (.type "zip") "__getattr__" = pure none := by rw [typeLookup_type,builtinLookup_eq_fast];kernel_rfl
theorem zp_entry : entryFor table "zip.__getattribute__" = some Builtin.«object.__getattribute__» :=
  entryFor_alias (id' := "object.__getattribute__") (by kernel_rfl) (by decide +kernel) (by decide +kernel) (by kernel_rfl)
theorem zp_miss : typeLookup (.type "zip") (Str.ofString "keys") = pure none := by rw [typeLookup_type,builtinLookup_eq_fast];kernel_rfl
theorem zp_meets (a : Addr) (vs : Array Value) (sl : Array (Option Value)) (name : Str) (u : Tok) (hmiss : typeLookup (.type "zip") name = pure none) (hname : (["__module__","__name__","__qualname__","__doc__","__annotations__"] : List Str).contains name = false) (hsz : name.length + 100 ≤ sizeLine) :
    Meets (Builtin.«object.__getattribute__» ⟨[.ref a,.str name u],[]⟩) (fun A R s => s.heap.get? a = some { cls := .type "zip",dict := none,data := .fields vs,slots := sl } ∧ raisesAttr (.ref a) name A R s) :=
  Meets.of_wp fun prog w A R s hs => by
    obtain ⟨hp,g,d,tk,os⟩ := s
    refine x0_2 hs ?_;(try clear hs)
    intro hx hs
    have hT : (⟨hp,g,d,tk,os⟩ : Shared).TypeIs (.ref a) "zip" := ⟨_,hx,rfl⟩
    unfold Builtin.«object.__getattribute__»
    repeat (any_goals (first | assumption | wp_step))
    rw [hname]
    rw [if_neg Bool.false_ne_true]
    repeat (any_goals (first | assumption | wp_step))
    exact wpAny_raiseAttrError hs.1 hs.2 (attrMsg_fits (by decide +kernel) hsz)
theorem zp_nokeys {prog : Program} {w : World} {A : Around} {E : Value → Shared → Prop} {s : Shared} {a : Addr} {vs : Array Value} {sl : Array (Option Value)} {name : Str} {Q : Option Value → Shared → Prop}
    (hx : s.heap.get? a = some { cls := .type "zip",dict := none,data := .fields vs,slots := sl }) (hmiss : typeLookup (.type "zip") name = pure none) (hname : (["__module__","__name__","__qualname__","__doc__","__annotations__"] : List Str).contains name = false) (hA : A.handled = none)
    (h : ∀ h' tk e,Heap.NewExcOf s.heap h' e "AttributeError" → Q none { s with heap := h',toks := tk }) (hsz : name.length + 100 ≤ sizeLine) :
    wpAny (model prog w) A (getAttr? (.ref a) name) Q E s := by
  obtain ⟨hp,g,d,tk,os⟩ := s
  have hT : ∀ tk',(⟨hp,g,d,tk',os⟩ : Shared).TypeIs (.ref a) "zip" := fun _ => ⟨_,hx,rfl⟩
  have f1 := sub_AttributeError
  have f3 := F.slot_zip_getattribute.lookup
  have f4 := F.slot_zip_getattribute.bind (.ref a)
  have f5 := zp_getattr_none
  unfold getAttr? getAttrBy? getAttrBy
  repeat (any_goals (first | assumption | exact hT _ | ((with_reducible show wpAny _ _ (call (Value.builtin "zip.__getattribute__") _ _) _ _ _);refine call_meets F.slot_zip_getattribute (hT _) zp_entry (F.args_zip_getattribute_2 _ _) (zp_meets a vs sl name _ hmiss hname hsz) ⟨hx,hA,fun h' tk' e hx' => ?_⟩) | wp_step))
  refine x2_1 hx'.there ?_;(try clear hx'.there)
  intro t' u' he
  have hTE : ∀ tk',(⟨h',g,d,tk',os⟩ : Shared).TypeIs (.ref e) "AttributeError" := fun _ => ⟨_,he,rfl⟩
  show wpAny _ _ (getattributeRaised _ _ _ _ _ _ _) _ _ _
  unfold getattributeRaised
  repeat (any_goals (first | assumption | wp_step))
  exact h _ _ _ hx'.of
end
section
theorem plain_update_loop : plainId "dict.update.loop" = true := by decide +kernel
theorem entry_update_loop : entryFor table "dict.update.loop" = some Builtin.«dict.update.loop» := entryFor_of_fast (by kernel_rfl)
section
variable {prog : Program} {w : World} {A : Around} {E : Value → Shared → Prop} {s : Shared}
theorem upd_turn {D z : Addr} {i : Int} {t : Tok} {res : Value} {R : Result → Shared → Prop}
    (h : wpAny (model prog w) A.in1 (pyNext (.ref z)) (fun r s' => ∃ T x y,r = some (.ref T) ∧ IsPair s'.heap T x y ∧
      wpAny (model prog w) A.in1 (dictSet D x y) (fun _ s'' => codeAny (model prog w) A (.builtin "dict.update.loop" ⟨[.ref D,.ref z,rawInt (i + 1),res],[]⟩) R s'') (fun e s'' => R (.error e) s'') s') (fun e s' => R (.error e) s') s) :
    codeAny (model prog w) A (.builtin "dict.update.loop" ⟨[.ref D,.ref z,.int i t,res],[]⟩) R s := by
  refine codeAny_builtin entry_update_loop ?_
  rw [Around.under_plainId plain_update_loop _]
  show wpAny _ A.in1 (pyNext (.ref z) >>= _) _ _ s
  refine wpAny_bind (wpAny_mono h (fun r s' hr => ?_) fun _ _ e => e)
  refine x3_3 hr ?_;(try clear hr)
  intro T x y
  rintro rfl
  intro hT hd
  have hTy : s'.TypeIs (.ref T) "tuple" := ⟨_,hT,rfl⟩
  refine wpAny_bind (wpAny_holding (wpAny_bind (wpAny_tryCatch ?_)))
  unfold Builtin.Dict.pairItems
  refine wpAny_bind (wpAny_typeOf hTy ?_)
  rw [if_pos (by decide)]
  refine wpAny_bind (wpAny_seqItems hT rfl (wpAny_pure ?_))
  show wpAny _ _ (holding [x,y] (dictSet D x y)) _ _ _
  exact wpAny_holding (wpAny_mono hd (fun _ s'' h2 => wpAny_pure ⟨plainId_quiet plain_update_loop _,h2⟩) fun _ _ e => e)
theorem upd_end {D z : Addr} {i : Int} {t : Tok} {res : Value} {R : Result → Shared → Prop}
    (h : wpAny (model prog w) A.in1 (pyNext (.ref z)) (fun r s' => r = none ∧ R (.ok (.ret res)) s') (fun e s' => R (.error e) s') s) :
    codeAny (model prog w) A (.builtin "dict.update.loop" ⟨[.ref D,.ref z,.int i t,res],[]⟩) R s := by
  refine codeAny_builtin entry_update_loop ?_
  rw [Around.under_plainId plain_update_loop _]
  show wpAny _ A.in1 (pyNext (.ref z) >>= _) _ _ s
  refine wpAny_bind (wpAny_mono h (fun r s' hr => ?_) fun _ _ e => e)
  refine x0_2 hr ?_;(try clear hr)
  rintro rfl
  intro hr
  show wpAny _ _ (Builtin.Dict.addKeywords D [] >>= _) _ _ _
  exact wpAny_bind (wpAny_pure (wpAny_pure hr))
end
end
section
section
variable {prog : Program} {w : World} {A : Around} {E : Value → Shared → Prop} {s : Shared}
theorem dict_zip0 {z TI TO : Addr} {Q : Value → Shared → Prop} (hA : A.handled = none) (hz : IsZip s.heap z TI TO .none)
    (h : ∀ (h' : Heap) (tk : Nat),(∀ c o,(s.heap.push { cls := .type "dict",data := .dict #[] }).get? c = some o → h'.get? c = some o) →
      codeAny (model prog w) A.in1 (.builtin "dict.update.loop" ⟨[.ref s.heap.objs.size,.ref z,rawInt 0,.none],[]⟩) (wants (fun r s₂ => r = Value.none ∧ Q (Value.ref s.heap.objs.size) s₂) E) { s with heap := h',toks := tk }) :
    wpAny (model prog w) A (call (.type "dict") [.ref z]) Q E s := by
  refine callType_codes (Q₁ := fun obj s₁ => obj = .ref s.heap.objs.size ∧ s₁ = { s with heap := s.heap.push { cls := .type "dict",data := .dict #[] } }) F.kt_called_dict (F.kt_typeCall_dict_1 _) F.entry_dict_init (kt_code_dict_new _ ⟨rfl,rfl⟩) ?_
  intro obj s₁ zq1
  refine x0_2 zq1 ?_;(try clear zq1)
  rintro rfl
  rintro rfl
  have hnew : (s.heap.push { cls := .type "dict",data := .dict #[] }).DictOf (PySem.intKind prog w) s.heap.objs.size [] := Heap.DictOf.new s.heap
  have hz' := Heap.get?_push_of_some { cls := .type "dict",data := .dict #[] } hz
  refine ⟨hnew.typeIs,F.args_dict_init_2 _ _,?_⟩
  unfold Builtin.«dict.__init__»
  refine wpAny_bind ?_
  unfold Builtin.Dict.selfAndRest
  refine wpAny_bind (wpAny_notOrdered_dict hnew.typeIs ?_)
  show wpAny _ _ (pure (s.heap.objs.size,[Value.ref z])) _ _ _
  refine wpAny_pure ?_
  show wpAny _ _ (Builtin.Dict.updateFrom "dict.__init__" s.heap.objs.size (.ref z) [] .none) _ _ _
  unfold Builtin.Dict.updateFrom
  refine wpAny_bind (wpAny_typeOf (T := "zip") ⟨_,hz',rfl⟩ ?_)
  rw [if_pos (by decide)]
  refine wpAny_bind (zp_nokeys hz' zp_miss (by decide +kernel) hA (fun h' tk e hx => ?_) (by decide +kernel))
  rw [if_pos (by rfl)]
  have up : ∀ c o,(s.heap.push { cls := .type "dict",data := .dict #[] }).get? c = some o → h'.get? c = some o := fun c o e => hx.keeps c o e
  refine wpAny_bind (wpAny_rule (wpAny_bind (wpAny_pyIter_zip (TI := TI) (TO := TO) (f0 := .none) (up _ _ hz') ?_)))
  exact wpAny_pure ⟨plainId_quiet plain_update_loop _,h _ _ up⟩
end
end
section
section
variable {prog : Program} {w : World} {A : Around} {E : Value → Shared → Prop} {s : Shared}
noncomputable def HSt (h : Heap) (z TI TO T i1 i2 l1 l2 : Addr) (xs ys : Array Value) (i : Nat) : Prop :=
  (∃ b,IsZipH h z TI TO T b) ∧ (∃ oT,h.get? T = some oT) ∧ IsPair h TI (.ref i1) (.ref i2) ∧ h.IsListIter i1 l1 i ∧ h.IsListIter i2 l2 i ∧ h.IsList l1 xs ∧ h.IsList l2 ys
theorem HSt.at {h h' : Heap} {z TI TO T i1 i2 l1 l2 : Addr} {xs ys : Array Value} {i : Nat} (x : HSt h z TI TO T i1 i2 l1 l2 xs ys i) (hk : ∀ c ∈ [z,TI,T,i1,i2,l1,l2],∀ o,h.get? c = some o → h'.get? c = some o) : HSt h' z TI TO T i1 i2 l1 l2 xs ys i := by
  refine x0_7 x ?_;(try clear x)
  intro zq1
  refine x1_1 zq1 ?_;(try clear zq1)
  intro b a1
  intro zq2
  refine x1_1 zq2 ?_;(try clear zq2)
  intro oT a2
  intro a3 a4 a5 a6 a7
  exact ⟨⟨b,hk z (by simp) _ a1⟩,⟨oT,hk T (by simp) _ a2⟩,hk TI (by simp) _ a3,a4.at fun o e => hk i1 (by simp) o e,a5.at fun o e => hk i2 (by simp) o e,a6.at fun o e => hk l1 (by simp) o e,a7.at fun o e => hk l2 (by simp) o e⟩
theorem stored_new {kvs : List (Int × Value)} {k : Int} {v : Value} (h : ∀ kv ∈ kvs,kv.1 ≠ k) : stored kvs k v = kvs ++ [(k,v)] := by
  unfold stored
  rw [if_neg]
  intro e
  refine x1_2 (List.any_eq_true.mp e) ?_
  intro kv h1 h2
  exact h kv h1 (of_decide_eq_true h2)
theorem set_step {D : Addr} {kvs : List (Int × Value)} {k : Int} {t : Tok} {y : Value} {Q : Unit → Shared → Prop} (hD : s.heap.DictOf (PySem.intKind prog w) D kvs) (hn : ∀ kv ∈ kvs,kv.1 ≠ k) (hz : kvs.length ≤ 100)
    (hQ : ∀ h' tk',h'.DictOf (PySem.intKind prog w) D (kvs ++ [(k,y)]) → Heap.SameBut D s.heap h' → Q () { s with heap := h',toks := tk' }) : wpAny (model prog w) A (dictSet D (.int k t) y) Q E s :=
  wpAny_dictSet_pairs (knd := PySem.intKind prog w) (k := k) (by show Value.isInt k (.int k t) = true;exact beq_self_eq_true k) hD (fun h' h1 h2 => hQ h' _ (stored_new hn ▸ h1) h2) (by rw [sizeLine_eq];omega)
theorem held_step {D z TI TO T i1 i2 l1 l2 : Addr} {xs ys : Array Value} {i : Nat} {j k : Int} {t u : Tok} {y : Value} {kvs : List (Int × Value)} {R : Result → Shared → Prop} (Z : ZipApart z TI TO i1 i2 l1 l2)
    (hT : T ≠ z ∧ T ≠ i1 ∧ T ≠ i2) (hDn : D ∉ [z,TI,T,i1,i2,l1,l2]) (H : HSt s.heap z TI TO T i1 i2 l1 l2 xs ys i) (hD : s.heap.DictOf (PySem.intKind prog w) D kvs) (hn : ∀ kv ∈ kvs,kv.1 ≠ k) (hz : kvs.length ≤ 100)
    (hx : xs[i]? = some (.int k u)) (hy : ys[i]? = some y)
    (next : ∀ h' tk',HSt h' z TI TO T i1 i2 l1 l2 xs ys (i + 1) → h'.DictOf (PySem.intKind prog w) D (kvs ++ [(k,y)]) → (∀ c o,c ≠ D → c ≠ z → c ≠ i1 → c ≠ i2 → s.heap.get? c = some o → h'.get? c = some o) →
      codeAny (model prog w) A (.builtin "dict.update.loop" ⟨[.ref D,.ref z,rawInt (j + 1),.none],[]⟩) R { s with heap := h',toks := tk' }) :
    codeAny (model prog w) A (.builtin "dict.update.loop" ⟨[.ref D,.ref z,.int j t,.none],[]⟩) R s := by
  refine x0_7 H ?_;(try clear H)
  intro zq3
  refine x1_1 zq3 ?_;(try clear zq3)
  intro b a1
  intro zq4
  refine x1_1 zq4 ?_;(try clear zq4)
  intro oT a2
  intro a3 a4 a5 a6 a7
  simp only [List.mem_cons,List.not_mem_nil,or_false,not_or] at hDn
  refine x0_7 hDn ?_;(try clear hDn)
  intro d1 d2 d3 d4 d5 d6 d7
  refine upd_turn (pyNext_held Z a1 a2 a3 a4 a5 a6 a7 hx hy fun h' g1 g2 g3 g4 g5 => ⟨_,_,_,rfl,g4,?_⟩)
  have hD' : h'.DictOf (PySem.intKind prog w) D kvs := hD.at fun o e => g5 D o d1 d4 d5 e
  refine set_step hD' hn hz fun h'' tk'' hD'' hs => next h'' tk'' ?_ hD'' fun c o c1 c2 c3 c4 e => hs.extBut _ _ c1 (g5 c o c2 c3 c4 e)
  have H' : HSt h' z TI TO T i1 i2 l1 l2 xs ys (i + 1) := ⟨⟨_,g1⟩,⟨oT,g5 _ _ hT.1 hT.2.1 hT.2.2 a2⟩,g5 _ _ Z.TIz Z.TIi1 Z.TIi2 a3,g2,g3,a6.at fun o e => g5 _ _ Z.l1z Z.l1i1 Z.l1i2 e,a7.at fun o e => g5 _ _ Z.l2z Z.l2i1 Z.l2i2 e⟩
  refine H'.at fun c hc o e => hs.extBut _ _ ?_ e
  simp only [List.mem_cons,List.not_mem_nil,or_false] at hc
  rcases hc with rfl | rfl | rfl | rfl | rfl | rfl | rfl <;> exact Ne.symm (by assumption)
theorem held_end {D z TI TO T i1 i2 l1 l2 : Addr} {xs ys : Array Value} {i : Nat} {j : Int} {t : Tok} {R : Result → Shared → Prop} (hA : A.handled = none) (Z : ZipApart z TI TO i1 i2 l1 l2) (H : HSt s.heap z TI TO T i1 i2 l1 l2 xs ys i) (hx : xs[i]? = none)
    (fin : ∀ h',(∀ c o,c ≠ z → c ≠ i1 → s.heap.get? c = some o → h'.get? c = some o) → R (.ok (.ret .none)) { s with heap := h' }) :
    codeAny (model prog w) A (.builtin "dict.update.loop" ⟨[.ref D,.ref z,.int j t,.none],[]⟩) R s := by
  refine x0_7 H ?_;(try clear H)
  intro zq5
  refine x1_1 zq5 ?_;(try clear zq5)
  intro b a1
  intro zq6
  refine x1_1 zq6 ?_;(try clear zq6)
  intro oT a2
  intro a3 a4 a5 a6 a7
  exact upd_end (pyNext_held_end hA Z.i1z Z.l1z a1 a2 a3 a4 a6 hx fun h' g => ⟨rfl,fin h' g⟩)
end
end
section
section
variable {prog : Program} {w : World} {A : Around} {E : Value → Shared → Prop} {s : Shared}
theorem dict_zip {z TI TO i1 i2 l1 l2 : Addr} {xs ys : List Value} {ks : List Int} {a b : Value} {Q : Value → Shared → Prop} (hA : A.handled = none) (Z : ZipApart z TI TO i1 i2 l1 l2)
    (hz : IsZip s.heap z TI TO .none) (hTI : IsPair s.heap TI (.ref i1) (.ref i2)) (hTO : IsPair s.heap TO a b) (h1 : s.heap.IsListIter i1 l1 0) (h2 : s.heap.IsListIter i2 l2 0) (hl1 : s.heap.IsList l1 xs.toArray) (hl2 : s.heap.IsList l2 ys.toArray)
    (hk : IntsAre xs ks) (hn : ks.Nodup) (hl : ks.length = 1 ∨ ks.length = 2) (hly : ys.length = ks.length)
    (h : ∀ h' tk',h'.DictOf (PySem.intKind prog w) s.heap.objs.size (ks.zip ys) → (∀ c o,c ≠ z → c ≠ TO → c ≠ i1 → c ≠ i2 → s.heap.get? c = some o → h'.get? c = some o) → Q (.ref s.heap.objs.size) { s with heap := h',toks := tk' }) :
    wpAny (model prog w) A (call (.type "dict") [.ref z]) Q E s := by
  refine dict_zip0 hA hz fun g1 tk1 up => ?_
  have up1 : ∀ c o,s.heap.get? c = some o → g1.get? c = some o := fun c o e => up c o (Heap.get?_push_of_some _ e)
  have hD0 : g1.DictOf (PySem.intKind prog w) s.heap.objs.size [] := (Heap.DictOf.new s.heap).at fun o e => up _ o e
  have ltz : @LT.lt Nat _ z s.heap.objs.size := Heap.lt_size hz
  have ltTI : @LT.lt Nat _ TI s.heap.objs.size := Heap.lt_size hTI
  have ltTO : @LT.lt Nat _ TO s.heap.objs.size := Heap.lt_size hTO
  have lti1 : @LT.lt Nat _ i1 s.heap.objs.size := by obtain ⟨_,e,_⟩ := h1;exact Heap.lt_size e
  have lti2 : @LT.lt Nat _ i2 s.heap.objs.size := by obtain ⟨_,e,_⟩ := h2;exact Heap.lt_size e
  have ltl1 : @LT.lt Nat _ l1 s.heap.objs.size := by obtain ⟨_,e,_⟩ := hl1;exact Heap.lt_size e
  have ltl2 : @LT.lt Nat _ l2 s.heap.objs.size := by obtain ⟨_,e,_⟩ := hl2;exact Heap.lt_size e
  have ltg : @LT.lt Nat _ s.heap.objs.size g1.objs.size := by obtain ⟨_,_,_,e,_⟩ := hD0;exact Heap.lt_size e
  have neL : ∀ {x y : Addr},@LT.lt Nat _ x y → y ≠ x := fun h e => Nat.lt_irrefl _ (e ▸ h : @LT.lt Nat _ _ _)
  have hTn : g1.objs.size ≠ z ∧ g1.objs.size ≠ i1 ∧ g1.objs.size ≠ i2 := ⟨neL (Nat.lt_trans ltz ltg),neL (Nat.lt_trans lti1 ltg),neL (Nat.lt_trans lti2 ltg)⟩
  have d1 := neL ltz
  have d4 := neL lti1
  have d5 := neL lti2
  have d8 := neL ltTO
  have hDn : s.heap.objs.size ∉ [z,TI,g1.objs.size,i1,i2,l1,l2] := fun hm => (List.forall_mem_cons (p := fun c => s.heap.objs.size ≠ c)).mpr ⟨d1,List.forall_mem_cons.mpr ⟨neL ltTI,List.forall_mem_cons.mpr ⟨Nat.ne_of_lt ltg,List.forall_mem_cons.mpr ⟨d4,List.forall_mem_cons.mpr ⟨d5,List.forall_mem_cons.mpr ⟨neL ltl1,List.forall_mem_cons.mpr ⟨neL ltl2,fun _ h => absurd h List.not_mem_nil⟩⟩⟩⟩⟩⟩⟩ _ hm rfl
  cases hk with
  | nil => rcases hl with e | e <;> cases e
  | @cons k t xs' ks' hk' =>
  cases ys with
  | nil => simp at hly
  | cons y ys' =>
  refine upd_turn (wpAny_pyNext_zip_item Z (up1 _ _ hz) (up1 _ _ hTI) (up1 _ _ hTO) (h1.at fun o e => up1 _ o e) (h2.at fun o e => up1 _ o e) (hl1.at fun o e => up1 _ o e) (hl2.at fun o e => up1 _ o e) (x := .int k t) (y := y) (by simp) (by simp) fun g2 a1 a2 a3 a4 a5 a6 a7 => ⟨_,_,_,rfl,a5,?_⟩)
  have hD2 : g2.DictOf (PySem.intKind prog w) s.heap.objs.size [] := hD0.at fun o e => a7 _ o d1 d8 d4 d5 e
  refine set_step hD2 (fun kv h => nomatch h) (by simp) fun g3 tk3 hD3 hs3 => ?_
  have H2 : HSt g2 z TI TO g1.objs.size i1 i2 l1 l2 (.int k t :: xs').toArray (y :: ys').toArray 1 := ⟨⟨_,a1⟩,⟨_,a5⟩,a7 _ _ Z.TIz Z.TITO Z.TIi1 Z.TIi2 (up1 _ _ hTI),a3,a4,hl1.at fun o e => a7 _ _ Z.l1z Z.l1TO Z.l1i1 Z.l1i2 (up1 _ _ e),hl2.at fun o e => a7 _ _ Z.l2z Z.l2TO Z.l2i1 Z.l2i2 (up1 _ _ e)⟩
  have H3 : HSt g3 z TI TO g1.objs.size i1 i2 l1 l2 (.int k t :: xs').toArray (y :: ys').toArray 1 := H2.at fun c hc o e => hs3.extBut _ _ (fun q => hDn (q ▸ hc)) e
  have keep3 : ∀ c o,c ≠ z → c ≠ TO → c ≠ i1 → c ≠ i2 → s.heap.get? c = some o → g3.get? c = some o := fun c o c1 c2 c3 c4 e => hs3.extBut _ _ (fun q => neL (Heap.lt_size e) q.symm) (a7 _ _ c1 c2 c3 c4 (up1 _ _ e))
  cases hk' with
  | nil =>
    cases ys' with
    | cons y2 r => simp at hly
    | nil =>
      exact held_end hA Z H3 (by simp) fun g4 a => ⟨rfl,h _ _ (hD3.at fun o e => a _ o d1 d4 e) fun c o c1 c2 c3 c4 e => a _ _ c1 c3 (keep3 c o c1 c2 c3 c4 e)⟩
  | @cons k2 t2 xs2 ks2 hk2 =>
    cases hk2 with
    | cons _ _ _ => simp at hl
    | nil =>
      cases ys' with
      | nil => simp at hly
      | cons y2 r =>
        cases r with
        | cons _ _ => simp at hly
        | nil =>
          have hne : k ≠ k2 := fun e => by subst e;simp at hn
          refine held_step (k := k2) (u := t2) (y := y2) Z hTn hDn H3 hD3 (fun kv hm => ?_) (by simp) (by simp) (by simp) fun g4 tk4 H4 hD4 k4 => ?_
          · simp only [List.nil_append,List.mem_singleton] at hm
            rw [hm]
            exact hne
          · exact held_end hA Z H4 (by simp) fun g5 a => ⟨rfl,h _ _ (hD4.at fun o e => a _ o d1 d4 e) fun c o c1 c2 c3 c4 e => a _ _ c1 c3 (k4 _ _ (fun q => neL (Heap.lt_size e) q.symm) c1 c3 c4 (keep3 c o c1 c2 c3 c4 e))⟩
end
end
section
section
variable {w : World} {A : Around} {E : Value → Shared → Prop} {s : Shared} {h₀ : Heap} {L : Addr} {m : Mp} {led : Led}
theorem zip_led {l1 l2 : Addr} {xs ys : List Value} {n1 n2 : Nat} {Q : Value → Shared → Prop} (F : Fr h₀ L s.heap m) (N : News h₀ L s.heap led) (hm1 : (l1,listOf xs.toArray n1) ∈ led) (hm2 : (l2,listOf ys.toArray n2) ∈ led)
    (h : ∀ (I : Addr) h',Fr h₀ L h' m → News h₀ L h' led → ZSt h' I l1 l2 xs ys 0 → (∀ p ∈ led,@LT.lt Nat _ p.1 I) → @LT.lt Nat _ L I → (∀ k,@LE.le Nat _ I k → h₀.get? k = none) → Q (.ref (I + 4)) { s with heap := h' }) :
    wpAny (model PG w) A (call (.type "zip") [.ref l1,.ref l2]) Q E s := by
  have hl1 : s.heap.IsList l1 xs.toArray := ⟨_,(N _ hm1).1,rfl,_,rfl⟩
  have hl2 : s.heap.IsList l2 ys.toArray := ⟨_,(N _ hm2).1,rfl,_,rfl⟩
  refine call_zip_2 hl1 hl2 fun h' hz' hTI hTO hi1 hi2 hsz hk => ?_
  exact h _ _ (F.keeps hk) (N.grown hk) ⟨hz',hTI,⟨_,_,hTO⟩,hi1,hi2,hl1.at fun o e => hk _ o e,hl2.at fun o e => hk _ o e⟩ (fun p hp => Heap.lt_size (N p hp).1) F.ns.lt fun k hk => ktu_new F hk
theorem dictz_led {I l1 l2 : Addr} {xs ys : List Value} {n1 n2 : Nat} {ks : List Int} {Q : Value → Shared → Prop} (hA : A.handled = none) (F : Fr h₀ L s.heap m) (N : News h₀ L s.heap led) (hm1 : (l1,listOf xs.toArray n1) ∈ led) (hm2 : (l2,listOf ys.toArray n2) ∈ led)
    (Z : ZSt s.heap I l1 l2 xs ys 0) (lt : ∀ p ∈ led,@LT.lt Nat _ p.1 I) (ltL : @LT.lt Nat _ L I) (nn : ∀ k,@LE.le Nat _ I k → h₀.get? k = none) (hk : IntsAre xs ks) (hn : ks.Nodup) (hl : ks.length = 1 ∨ ks.length = 2) (hly : ys.length = ks.length)
    (h : ∀ (D : Addr) (o : Obj) h' tk',Fr h₀ L h' m → News h₀ L h' ((D,o) :: led) → (∀ p ∈ led,@LT.lt Nat _ p.1 D) → o.IsDictOf (PySem.intKind PG w) (ks.zip ys) → Q (.ref D) { s with heap := h',toks := tk' }) :
    wpAny (model PG w) A (call (.type "dict") [.ref (I + 4)]) Q E s := by
  refine x0_7 Z ?_;(try clear Z)
  intro z1 z2 zq1
  refine x2_1 zq1 ?_;(try clear zq1)
  intro a b z3
  intro z4 z5 z6 z7
  refine dict_zip hA (ktu_apart _ _ _ (lt _ hm1) (lt _ hm2)) z1 z2 z3 z4 z5 z6 z7 hk hn hl hly fun h' tk' hD keep => ?_
  have off : ∀ c : Addr,@LT.lt Nat _ c I → c ≠ I + 4 ∧ c ≠ I + 3 ∧ c ≠ I ∧ c ≠ I + 1 := fun c hc => ⟨fun e => by subst e;exact absurd hc (by show ¬ (I + 4 < I);omega),fun e => by subst e;exact absurd hc (by show ¬ (I + 3 < I);omega),fun e => by subst e;exact Nat.lt_irrefl _ hc,fun e => by subst e;exact absurd hc (by show ¬ (I + 1 < I);omega)⟩
  have up : ∀ c o,@LT.lt Nat _ c I → s.heap.get? c = some o → h'.get? c = some o := fun c o hc e => let ⟨c1,c2,c3,c4⟩ := off c hc;keep c o c1 c2 c3 c4 e
  have lb : ∀ b o,h₀.get? b = some o → @LT.lt Nat _ b I := fun b o e => by
    rcases Nat.lt_or_ge b I with h | h
    · exact h
    · rw [nn b h] at e;cases e
  have F2 : Fr h₀ L h' m := ⟨F.ns.at' fun o e => up L o ltL e,fun b o e => up b o (lb b o e) (F.keep b o e),F.above⟩
  refine x1_2 (Heap.dictOf_iff.mp hD) ?_
  intro o ho hd
  have hI : @LT.lt Nat _ I s.heap.objs.size := by obtain ⟨_,e,_⟩ := z4;exact Heap.lt_size e
  refine h _ o h' tk' F2 (fun p hp => ?_) (fun p hp => Heap.lt_size (N p hp).1) hd
  rcases List.mem_cons.mp hp with rfl | hp
  · exact ⟨ho,fun e => Nat.lt_irrefl _ (e ▸ F.ns.lt : @LT.lt Nat _ L L),nn _ (Nat.le_of_lt hI)⟩
  · exact ⟨up _ _ (lt p hp) (N p hp).1,(N p hp).2⟩
end
end
section
noncomputable def TabIn (w : World) (o : Obj) (val : Int → Int) (ts : List Term3) : Prop := ∃ kvs,o.IsDictOf (PySem.intKind PG w) kvs ∧ ∀ t ∈ ts,∃ tk : Tok,valueAt kvs t.1 = some (.int (val t.1) tk)
noncomputable def sixV (val : Int → Int) (t : Term3) : Int := (t.2.1 * 6).fdiv t.2.2 * val t.1
noncomputable def sixD (val : Int → Int) (ts : List Term3) : Int := (ts.map (sixV val)).sum
noncomputable def FewT (ts : List Term3) : Prop := ts.length ≤ 2 ∧ ∀ t ∈ ts,-100000 ≤ t.2.1 ∧ t.2.1 ≤ 100000 ∧ 1 ≤ t.2.2 ∧ t.2.2 ≤ 1000
section
variable {w : World} {A : Around} {E : Value → Shared → Prop} {s : Shared} {h₀ : Heap} {L d : Addr} {led : Led} {o : Obj} {k : Int} {t : Tok} {v : Value} {kvs : List (Int × Value)}
theorem tab_item {value slice : PySem.Expr} {Q : Value → Shared → Prop} (N : News h₀ L s.heap led) (hp : (d,o) ∈ led) (hd : o.IsDictOf (PySem.intKind PG w) kvs) (hl : valueAt kvs k = some v) (h : ∀ tk,Q v { s with toks := tk })
    (hs : subscripted slice false (.ref d) (.int k t) = operate [.ref d,.int k t] (getItem (.ref d) (.int k t))) :
    wpAny (model PG w) A (subscriptTail value slice (.ref d) (.int k t)) Q E s := by
  have hD := kda_dict N hp hd
  exact tail_any hD.typeIs slot_dict_getitem.lookup (wpAny_getItem_of (intKind_is _ _ _ _) hD.mapOf hl (h _)) hs
end
section
theorem g37.on37 : True := trivial
open g37
theorem set_68 : True := by
  k_with "!subscriptTail" => ((fail_if_success(fail_if_success have:=on37));(k_here;(with_reducible show wpAny _ _ (subscriptTail (Expr.Name (Str.ofString "point") _) _ _ _) _ _ _);refine stop_at ?_))
  k_with "!CompEnd" => ((fail_if_success(fail_if_success have:=on37));(refine stop_at ?_))
  exact trivial
theorem sixd_use {ta pt : Addr} {o : Obj} {val : Int → Int} {ts : List Term3} (Z : Sit w dp un cs outer A₀ base h₀ L m mean mg mb s all 1 8)
    (hh : TermsAt all ta ts ∧ FewT ts ∧ (pt,o) ∈ all ∧ TabIn w o val ts ∧ ∀ x,-24 ≤ val x ∧ val x ≤ 24)
    (ret : ∀ t h' tk',Fr h₀ L h' m → News h₀ L h' all → Q (.int (sixD val ts) t) { s with heap := h',toks := tk' }) :
    wpAny (model PG w) (ktrTop dp un gd cn cs L a₁ ccd ce outer) (call (.ref 850) [.ref ta,.ref pt]) Q E s := by
  apply bx;simp(disch:=k_dflt(
  obtain ⟨B,F,X,N,T,hk,hd,hu⟩ := Z
  refine x0_5 hh ?_;(try clear hh)
  intro zq1
  refine x1_2 zq1 ?_;(try clear zq1)
  intro vs ht hT
  intro hok hp zq2
  refine x1_2 zq2 ?_;(try clear zq2)
  intro kvs hdi hx
  intro hxb
  refine x0_2 hok ?_;(try clear hok)
  intro hl hok
  have hvl := hT.length
  have hsz : vs.length ≤ sizeLine := by rw [sizeLine_eq];omega
  k_dflt (apply call_atC (binds := [(Str.ofString "terms",Value.ref ta),(Str.ofString "point",Value.ref pt)]));k_extra "H:ktr_rest"
  k_steps
  refine' pairs_inv0 (fun l₀ i ys led => led = l₀ ∧ ∃ ns,IntsAre ys ns ∧ ns = (ts.take i).map (sixV val)) ⟨rfl,[],.nil,rfl⟩ ?step ?fin
  case step =>
    intro i ys led v zq3 hv
    refine (let pk := _;(?_ : PairStep _ _ pk))
    refine x0_2 zq3 ?_;(try clear zq3)
    intro e zq4
    refine x1_2 zq4 ?_;(try clear zq4)
    intro ns hi hn
    subst e
    refine x6_4 (hT.at hv) ?_
    intro a b t ti tp tq e1 e2 m1 m2
    refine x0_4 (hok t (List.mem_of_getElem? e2)) ?_
    intro c0 d0 r0 l0
    refine x1_1 (hx t (List.mem_of_getElem? e2)) ?_
    intro tv hval
    refine x0_2 (hxb t.1) ?_
    intro f0 g0
    refine ⟨a,_,_,e1,by k_mem,?_⟩
    intro I oI C oC D m₂ h tk E' hC hx1 hx2 F1 N1 off
    k_steps
    refine stop_go ?_
    (try k_extra "H:folds")
    rename News _ _ _ _ => N5
    k_dflt (refine tab_item N5 (by k_mem) hdi hval ?_ (by with_unfolding_all rfl))
    intro tk5
    k_steps
    refine stop_go ?_
    (try k_extra "H:folds")
    exact LCg.CompEnd.intro (by assumption) N5 _ (fun p hp => hp) off (by k_mem) ⟨rfl,_,hi.append (.cons _ _ .nil),by rw [hn];exact (map_take_succ e2).symm⟩
  case fin =>
    intro ys led zq5
    refine x0_2 zq5 ?_;(try clear zq5)
    intro e zq6
    refine x1_2 zq6 ?_;(try clear zq6)
    intro ns hi hn
    subst e
    k_steps
    have e : ns.sum = sixD val ts := by rw [hn,hvl,List.take_length];rfl
    rw [e]
    exact ret _ _ _ (by assumption) (fun p hp => (by with_reducible assumption : News h₀ L _ _) p (sub_tail (sub_tail sub_refl) p hp))
  ))only[↓bx_eq]
theorem six_ofD {ta pt : Addr} {o : Obj} {val : Int → Int} {ts : List Term3} (hh : TermsAt all ta ts ∧ FewT ts ∧ (pt,o) ∈ all ∧ TabIn w o val ts ∧ ∀ x,-24 ≤ val x ∧ val x ≤ 24) : SixC w all ta pt (sixD val ts) := fun Z ret => sixd_use Z hh ret
end
end
section
noncomputable def dotV (val : Int → Int) (ts : List Term3) : Int := (ts.map fun t => t.2.1 * val t.1).sum
theorem low_facts {p q : Int} (hq : 1 ≤ q) : ∃ e : Int,1 ≤ e ∧ lowP p q * e = p ∧ lowQ p q * e = q ∧ 1 ≤ lowQ p q ∧ (q ∣ p → lowQ p q = 1) := by
  have g0 : (0 : Int) < Int.gcd p q := by
    have := Int.gcd_pos_of_ne_zero_right p (show q ≠ 0 by omega)
    omega
  have e1 : lowP p q * (Int.gcd p q : Int) = p := Int.ediv_mul_cancel (Int.gcd_dvd_left ..)
  have e2 : lowQ p q * (Int.gcd p q : Int) = q := Int.ediv_mul_cancel (Int.gcd_dvd_right ..)
  refine ⟨Int.gcd p q,by omega,e1,e2,Int.not_lt.mp fun hn => ?_,fun hd => ?_⟩
  · have hn : lowQ p q ≤ 0 := by omega
    have : lowQ p q * (Int.gcd p q : Int) ≤ 0 := Int.mul_nonpos_of_nonpos_of_nonneg hn (by omega)
    omega
  · have hg : (Int.gcd p q : Int) = q := Int.dvd_antisymm (by omega) (by omega) (Int.gcd_dvd_right ..) (Int.dvd_coe_gcd hd (Int.dvd_refl _))
    unfold lowQ
    rw [hg,Int.ediv_self (by omega)]
theorem low_mul {p q : Int} (hq : 1 ≤ q) : lowP p q * q = p * lowQ p q := by
  refine x1_4 (low_facts (p := p) hq) ?_
  intro e h1 h2 h3 _
  calc lowP p q * q = lowP p q * (lowQ p q * e) := by rw [h3]
    _ = (lowP p q * e) * lowQ p q := by rw [Int.mul_comm (lowQ p q) e,Int.mul_assoc]
    _ = p * lowQ p q := by rw [h2]
theorem low_unit (x : Int) : lowP x 1 = x ∧ lowQ x 1 = 1 := by
  unfold lowP lowQ
  rw [Int.gcd_one_right]
  simp
theorem low_neg {p q : Int} : lowP (-p) q = -lowP p q ∧ lowQ (-p) q = lowQ p q := by
  unfold lowP lowQ
  rw [Int.neg_gcd]
  exact ⟨Int.neg_ediv_of_dvd (Int.gcd_dvd_left ..),rfl⟩
theorem base_eq {ts : List Term3} (hW : WholeT ts) : baseT ts = ts.map fun t => (t.1,t.2.1 / wfOf ts,1) := List.map_congr_left fun t ht => scale_wf ht (hW.2 t ht).1 (wf_bd hW).1
theorem base_fac (ts : List Term3) (b : Int) (hW : WholeT ts) : baseP ts b * wfOf ts = b * baseQ ts b ∧ 1 ≤ baseQ ts b ∧ (wfOf ts ∣ b → baseQ ts b = 1) := by
  have hg := (wf_bd hW).1
  refine x1_5 (low_facts (p := b * 1) (q := 1 * wfOf ts) (by omega)) ?_
  intro e h1 h2 h3 h4 h5
  have := low_mul (p := b * 1) (q := 1 * wfOf ts) (by omega)
  unfold baseP baseQ
  refine ⟨?_,h4,fun hd => h5 ?_⟩
  · simpa using this
  · simpa using hd
theorem six_div {val : Int → Int} {g : Int} (hg : 1 ≤ g) : ∀ l : List Term3,(∀ t ∈ l,g ∣ t.2.1) → sixD val (l.map fun t => (t.1,t.2.1 / g,1)) * g = 6 * dotV val l
  | [],_ => by simp [sixD,dotV]
  | t :: r,h => by
    have ih := six_div hg (val := val) r fun u hu => h u (.tail _ hu)
    have e : t.2.1 / g * g = t.2.1 := Int.ediv_mul_cancel (h t (.head _))
    have e1 : sixD val ((t :: r).map fun t => (t.1,t.2.1 / g,1)) = t.2.1 / g * 6 * val t.1 + sixD val (r.map fun t => (t.1,t.2.1 / g,1)) := by simp [sixD,sixV]
    have e2 : dotV val (t :: r) = t.2.1 * val t.1 + dotV val r := by simp [dotV]
    rw [e1,e2,Int.add_mul,ih,Int.mul_add]
    congr 1
    calc t.2.1 / g * 6 * val t.1 * g = (t.2.1 / g * g) * 6 * val t.1 := by rw [Int.mul_right_comm _ _ g,Int.mul_right_comm _ 6 g]
      _ = 6 * (t.2.1 * val t.1) := by rw [e,Int.mul_comm t.2.1 6,Int.mul_assoc]
theorem six_36 {val : Int → Int} (hz : ∀ x,∃ z,val x = 6 * z) : ∀ l : List Term3,(∀ t ∈ l,t.2.2 = 1) → ∃ Y,sixD val l = 36 * Y
  | [],_ => ⟨0,rfl⟩
  | t :: r,h => by
    refine x1_1 (six_36 hz r fun u hu => h u (.tail _ hu)) ?_
    intro Y e
    refine x1_1 (hz t.1) ?_
    intro z ez
    refine ⟨t.2.1 * z + Y,?_⟩
    have e1 : sixD val (t :: r) = (t.2.1 * 6).fdiv t.2.2 * val t.1 + sixD val r := by simp [sixD,sixV]
    rw [e1,e,h t (.head _),ez,Int.mul_add]
    congr 1
    rw [Int.fdiv_one,Int.mul_assoc,← Int.mul_assoc 6 6 z,← Int.mul_assoc,Int.mul_comm t.2.1 (6 * 6),Int.mul_assoc]
    exact congrArg (· * (t.2.1 * z)) (show (6 * 6 : Int) = 36 from rfl)
theorem six_negT {val : Int → Int} : ∀ l : List Term3,(∀ t ∈ l,t.2.2 = 1) → sixD val (l.map negT) = -sixD val l
  | [],_ => rfl
  | t :: r,h => by
    have ih := six_negT (val := val) r fun u hu => h u (.tail _ hu)
    have e1 : sixD val (t :: r) = (t.2.1 * 6).fdiv t.2.2 * val t.1 + sixD val r := by simp [sixD,sixV]
    have e2 : sixD val ((t :: r).map negT) = (-t.2.1 * 6).fdiv t.2.2 * val t.1 + sixD val (r.map negT) := by simp [sixD,sixV,negT]
    rw [e1,e2,ih,h t (.head _),Int.fdiv_one,Int.fdiv_one,Int.neg_mul,Int.neg_mul]
    omega
theorem dot_negT {val : Int → Int} : ∀ l : List Term3,dotV val (l.map negT) = -dotV val l
  | [] => rfl
  | t :: r => by
    have ih := dot_negT (val := val) r
    have e1 : dotV val (t :: r) = t.2.1 * val t.1 + dotV val r := by simp [dotV]
    have e2 : dotV val ((t :: r).map negT) = -t.2.1 * val t.1 + dotV val (r.map negT) := by simp [dotV,negT]
    rw [e1,e2,ih,Int.neg_mul]
    omega
theorem scale_neg {ts : List Term3} (h : ∀ t ∈ ts,t.2.2 = 1) : ts.map (scaleT (-1) 1) = ts.map negT := List.map_congr_left fun t ht => by
  unfold scaleT negT
  rw [h t ht,Int.mul_one,(low_unit _).1,(low_unit _).2,Int.mul_neg,Int.mul_one]
theorem cross {S P Q X b g : Int} (hg : 1 ≤ g) (hQ : 1 ≤ Q) (h1 : S * g = 6 * X) (h2 : P * g = b * Q) : (S * Q < P * 36 ↔ X < 6 * b) ∧ (S * Q ≤ P * 36 ↔ X ≤ 6 * b) ∧ (S * Q = P * 36 ↔ X = 6 * b) := by
  have e1 : S * Q * g = (6 * X) * Q := by rw [Int.mul_right_comm,h1]
  have e2 : P * 36 * g = (36 * b) * Q := by rw [Int.mul_right_comm,h2,Int.mul_comm 36 b,Int.mul_right_comm]
  have k1 : S * Q < P * 36 ↔ X < 6 * b := by
    rw [← Int.mul_lt_mul_right (show 0 < g by omega),e1,e2,Int.mul_lt_mul_right (by omega)]
    omega
  have k2 : S * Q ≤ P * 36 ↔ X ≤ 6 * b := by
    rw [← Int.mul_le_mul_right (show 0 < g by omega),e1,e2,Int.mul_le_mul_right (by omega)]
    omega
  exact ⟨k1,k2,eq_iff_of k1 k2⟩
theorem keeps_says {rel : Str} {S P Q X b g : Int} (hr : RelOk rel) (hg : 1 ≤ g) (hQ : 1 ≤ Q) (h1 : S * g = 6 * X) (h2 : P * g = b * Q) : keepsB rel S P Q = saysB rel X (6 * b) := by
  refine x0_3 (cross hg hQ h1 h2) ?_
  intro k1 k2 k3
  rcases hr with e | e | e <;> subst e
  · rw [keeps_lt,says_lt];exact decide_eq_decide.mpr k1
  · rw [keeps_le,says_le];exact decide_eq_decide.mpr k2
  · rw [keeps_eq,says_eq];exact decide_eq_decide.mpr k3
theorem tight_keeps {kind : Int} {ts ts' : List Term3} {rel rel' : Str} {b bp' bq' : Int} {val : Int → Int} (h : TightR kind ts rel b ts' rel' bp' bq') (hW : WholeT ts) (hr : RelOk rel) (hz : kind = 1 → ∀ x,∃ z,val x = 6 * z) :
    keepsB rel' (sixD val ts') bp' bq' = saysB rel (dotV val ts) (6 * b) := by
  have hg := (wf_bd hW).1
  refine x0_3 (base_fac ts b hW) ?_
  intro f1 f2 f3
  have hS : sixD val (baseT ts) * wfOf ts = 6 * dotV val ts := by rw [base_eq hW];exact six_div hg ts (wf_dvd ts)
  have h1 : ∀ t ∈ baseT ts,t.2.2 = 1 := fun t ht => by
    rw [base_eq hW] at ht
    refine x1_2 (List.mem_map.mp ht) ?_
    intro u _
    rintro rfl
    rfl
  rcases h with ⟨_,rfl,hw⟩ | ⟨hne,_,hk,rfl,rfl,rfl,hb⟩
  · rcases hw with ⟨rfl,rfl,rfl⟩ | ⟨rfl,rfl,rfl,rfl⟩
    · exact keeps_says hr hg f2 hS f1
    · rw [scale_neg h1,six_negT _ h1,keeps_eq,says_eq]
      refine x0_3 (cross hg f2 hS f1) ?_
      intro _ _ k3
      refine x1_5 (low_facts (p := baseP ts b * -1) (q := baseQ ts b * 1) (by omega)) ?_
      intro e q1 q2 q3 q4 _
      have q5 := low_mul (p := baseP ts b * -1) (q := baseQ ts b * 1) (by omega)
      refine decide_eq_decide.mpr (Iff.trans ?_ k3)
      generalize lowP (baseP ts b * -1) (baseQ ts b * 1) = p2 at *
      generalize lowQ (baseP ts b * -1) (baseQ ts b * 1) = q2' at *
      generalize baseP ts b = p1 at *
      generalize baseQ ts b = q1' at *
      generalize sixD val (baseT ts) = S at *
      rw [Int.mul_one] at q5
      have r1 : -S * q2' * q1' = -(S * q1') * q2' := by rw [Int.neg_mul,Int.neg_mul,Int.neg_mul,Int.mul_right_comm]
      have r2 : p2 * 36 * q1' = -(p1 * 36) * q2' := by
        rw [Int.mul_right_comm,q5,Int.mul_neg,Int.mul_one,Int.neg_mul,Int.neg_mul,Int.neg_mul,Int.mul_right_comm]
      constructor
      · intro h
        have : -(S * q1') * q2' = -(p1 * 36) * q2' := by rw [← r1,← r2,h]
        have := Int.eq_of_mul_eq_mul_right (by omega) this
        omega
      · intro h
        have : -S * q2' * q1' = p2 * 36 * q1' := by rw [r1,r2,h]
        exact Int.eq_of_mul_eq_mul_right (by omega) this
  · refine x1_1 (six_36 (hz hk) _ h1) ?_
    intro Y hY
    rw [hY] at hS ⊢
    have hX : dotV val ts = 6 * (Y * wfOf ts) := by
      have : 36 * Y * wfOf ts = 36 * (Y * wfOf ts) := Int.mul_assoc ..
      omega
    rw [keeps_le,hX,Int.mul_one]
    have a1 : decide (36 * Y ≤ bp' * 36) = decide (Y ≤ bp') := decide_eq_decide.mpr (by omega)
    rw [a1]
    generalize hg' : wfOf ts = g at *
    have cr : ∀ c : Int,(Y * g * baseQ ts b < b * baseQ ts b ↔ Y * g < b) ∧ (Y * g * baseQ ts b ≤ b * baseQ ts b ↔ Y * g ≤ b) := fun _ => ⟨Int.mul_lt_mul_right (by omega),Int.mul_le_mul_right (by omega)⟩
    have e3 : Y * g * baseQ ts b = Y * baseQ ts b * g := Int.mul_right_comm ..
    have k1 : Y * g < b ↔ Y * baseQ ts b < baseP ts b := by rw [← (cr 0).1,e3,← f1,Int.mul_lt_mul_right (by omega)]
    have k2 : Y * g ≤ b ↔ Y * baseQ ts b ≤ baseP ts b := by rw [← (cr 0).2,e3,← f1,Int.mul_le_mul_right (by omega)]
    have fl : Y ≤ Int.fdiv (baseP ts b) (baseQ ts b) ↔ Y * baseQ ts b ≤ baseP ts b := by
      rw [Int.fdiv_eq_ediv_of_nonneg _ (by omega)]
      exact Int.le_ediv_iff_mul_le (by omega)
    rcases hr with e | e | e
    · subst e
      rw [says_lt]
      refine decide_eq_decide.mpr ?_
      have e4 : (6 * (Y * g) < 6 * b) ↔ Y * g < b := by omega
      rw [e4,k1]
      rcases hb with ⟨_,hq,rfl⟩ | ⟨hq,rfl⟩
      · rw [hq];omega
      · rw [fl]
        have hq : baseQ ts b ≠ 1 := by
          rcases hq with h | h
          · exact absurd rfl h
          · exact h
        have : Y * baseQ ts b ≠ baseP ts b := fun h => hq (f3 ⟨Y,by
          have : Y * g * baseQ ts b = b * baseQ ts b := by rw [e3,h,f1]
          have := Int.eq_of_mul_eq_mul_right (by omega) this
          rw [← this,Int.mul_comm]⟩)
        omega
    · subst e
      rw [says_le]
      refine decide_eq_decide.mpr ?_
      have e4 : (6 * (Y * g) ≤ 6 * b) ↔ Y * g ≤ b := by omega
      rw [e4,k2]
      rcases hb with ⟨h,_⟩ | ⟨_,rfl⟩
      · exact absurd h (by decide +kernel)
      · exact fl
    · exact absurd e hne
theorem share_neg (ts : List Term3) : shareOf (ts.map negT) = shareOf ts := by
  unfold shareOf
  rw [List.foldl_map]
  congr 1
  funext s t
  simp only [negT,Int.gcd_neg]
theorem wf_neg (ts : List Term3) : wfOf (ts.map negT) = wfOf ts := by unfold wfOf;rw [share_neg]
theorem base_neg {ts : List Term3} (hW : WholeT ts) : baseT (ts.map negT) = (baseT ts).map negT := by
  rw [base_eq hW,base_eq (neg_whole hW),wf_neg,List.map_map,List.map_map]
  refine List.map_congr_left fun t ht => ?_
  simp only [Function.comp,negT]
  rw [Int.neg_ediv_of_dvd (wf_dvd ts t ht)]
theorem baseP_neg (ts : List Term3) (b : Int) : baseP (ts.map negT) (-b) = -baseP ts b ∧ baseQ (ts.map negT) (-b) = baseQ ts b := by
  unfold baseP baseQ
  rw [wf_neg,Int.neg_mul]
  exact low_neg
theorem floor_two {P Q : Int} (hQ : 1 ≤ Q) (hn : ¬ Q ∣ P) : Int.fdiv P Q + Int.fdiv (-P) Q = -1 := by
  rw [Int.fdiv_eq_ediv_of_nonneg _ (by omega),Int.fdiv_eq_ediv_of_nonneg _ (by omega)]
  have h0 : P % Q ≠ 0 := fun e => hn (Int.dvd_of_emod_eq_zero e)
  have h1 := Int.emod_nonneg P (show Q ≠ 0 by omega)
  have h2 := Int.emod_lt_of_pos P (show 0 < Q by omega)
  have h3 := Int.emod_add_mul_ediv P Q
  have : (-P) / Q = -(P / Q) - 1 := by
    refine ((Int.ediv_emod_unique (r := Q - P % Q) (by omega)).mpr ⟨?_,by omega,by omega⟩).1
    rw [Int.mul_sub,Int.mul_neg,Int.mul_one]
    omega
  omega
theorem base_ndvd {ts : List Term3} {b : Int} (hW : WholeT ts) (hq : baseQ ts b ≠ 1) : ¬ baseQ ts b ∣ baseP ts b := fun ⟨c,hc⟩ => by
  refine x0_3 (base_fac ts b hW) ?_
  intro f1 f2 f3
  refine hq (f3 ⟨c,?_⟩)
  rw [hc,Int.mul_assoc,Int.mul_comm b] at f1
  have := Int.eq_of_mul_eq_mul_left (by omega) f1
  rw [← this,Int.mul_comm]
theorem base_bounds {ts : List Term3} {b : Int} (hW : WholeT ts) (hb : -1000 ≤ b ∧ b ≤ 1000) : (-1000 ≤ baseP ts b ∧ baseP ts b ≤ 1000) ∧ (1 ≤ baseQ ts b ∧ baseQ ts b ≤ 1000) := by
  have hg := wf_bd hW
  exact low_bd (by rw [Int.mul_one];exact hb) (by rw [Int.one_mul];exact hg)
theorem few1 {x q : Int} (h : -1000 ≤ x ∧ x ≤ 1000 ∧ q = 1) : -100000 ≤ x ∧ x ≤ 100000 ∧ 1 ≤ q ∧ q ≤ 1000 := ⟨(bd_wide (A := 1000) (B := 100000) ⟨h.1,h.2.1⟩ rfl).1,(bd_wide (A := 1000) (B := 100000) ⟨h.1,h.2.1⟩ rfl).2,Int.le_of_eq h.2.2.symm,h.2.2.symm ▸ (by decide : (1 : Int) ≤ 1000)⟩
theorem base_few {ts : List Term3} (hW : WholeT ts) : (baseT ts).length ≤ 2 ∧ ∀ t ∈ baseT ts,-1000 ≤ t.2.1 ∧ t.2.1 ≤ 1000 ∧ t.2.2 = 1 := by
  have hg := wf_bd hW
  rw [base_eq hW]
  refine ⟨by rw [List.length_map];exact hW.1,fun t ht => ?_⟩
  refine x1_2 (List.mem_map.mp ht) ?_
  intro u hu
  rintro rfl
  refine x0_3 (hW.2 u hu) ?_
  intro _ h1 h2
  have := fdiv_bd_pos (a := u.2.1) (d := wfOf ts) (K := 1000) (by omega) h1 h2 (by decide)
  rw [Int.fdiv_eq_ediv_of_nonneg _ (by omega)] at this
  exact ⟨this.1,this.2,rfl⟩
theorem tight_few {kind : Int} {ts ts' : List Term3} {rel rel' : Str} {b bp' bq' : Int} (h : TightR kind ts rel b ts' rel' bp' bq') (hW : WholeT ts) (hb : -1000 ≤ b ∧ b ≤ 1000) :
    FewT ts' ∧ (-100000 ≤ bp' ∧ bp' ≤ 100000) ∧ (1 ≤ bq' ∧ bq' ≤ 1000) ∧ ts'.map (·.1) = ts.map (·.1) := by
  refine x0_2 (base_few hW) ?_
  intro g1 g2
  have gb := base_bounds hW hb
  have gm : (baseT ts).map (·.1) = ts.map (·.1) := by rw [base_eq hW,List.map_map];rfl
  have h1 : ∀ t ∈ baseT ts,t.2.2 = 1 := fun t ht => (g2 t ht).2.2
  rcases h with ⟨_,rfl,hw⟩ | ⟨hne,_,hk,rfl,rfl,rfl,hb'⟩
  · rcases hw with ⟨rfl,rfl,rfl⟩ | ⟨rfl,rfl,rfl,rfl⟩
    · exact ⟨⟨g1,fun t ht => few1 (g2 t ht)⟩,bd_wide gb.1 rfl,gb.2,gm⟩
    · rw [scale_neg h1]
      have := low_bd (p := baseP ts b * -1) (q := baseQ ts b * 1) (K := 1000) (by rw [Int.mul_neg,Int.mul_one];exact neg_bd gb.1) (by rw [Int.mul_one];exact gb.2)
      refine ⟨⟨by rw [List.length_map];exact g1,fun t ht => ?_⟩,bd_wide this.1 rfl,this.2,by rw [List.map_map];exact gm⟩
      refine x1_2 (List.mem_map.mp ht) ?_
      intro u hu
      rintro rfl
      have := g2 u hu
      exact few1 ⟨(neg_bd ⟨this.1,this.2.1⟩).1,(neg_bd (A := 1000) ⟨this.1,this.2.1⟩).2,this.2.2⟩
  · refine ⟨⟨g1,fun t ht => few1 (g2 t ht)⟩,?_,by decide,gm⟩
    rcases hb' with ⟨_,_,rfl⟩ | ⟨_,rfl⟩
    · exact ⟨Int.le_trans (by decide : (-100000 : Int) ≤ -1000 - 1) (Int.sub_le_sub_right gb.1.1 1),Int.le_trans (Int.sub_le_self _ (by decide)) (bd_wide (B := 100000) gb.1 rfl).2⟩
    · exact bd_wide (fdiv_bd_pos (a := baseP ts b) (d := baseQ ts b) (K := 1000) (Int.lt_of_lt_of_le (by decide) gb.2.1) gb.1.1 gb.1.2 (by decide)) rfl
theorem tight_pair {kind : Int} {ts t1 t2 : List Term3} {rel r1 r2 : Str} {b p1 q1 p2 q2 : Int} (hk : kind = 1 ∨ kind = 2) (h : TightR kind ts rel b t1 r1 p1 q1) (h' : TightR kind (ts.map negT) (negRel rel) (-b) t2 r2 p2 q2) (hW : WholeT ts) (hr : RelOk rel) (hne : rel ≠ Str.ofString "=") :
    t2 = t1.map negT ∧ PairOk kind t1 r1 r2 p1 q1 p2 q2 := by
  refine x0_2 (baseP_neg ts b) ?_
  intro n1 n2
  have hne2 := negRel_ne rel
  by_cases hc : kind = 1 ∧ ts ≠ []
  · refine x0_2 hc ?_;(try clear hc)
    rintro rfl
    intro hts
    have hbt : baseT ts ≠ [] := by rw [base_eq hW];simpa using hts
    rcases h with ⟨h,_⟩ | ⟨_,_,_,rfl,rfl,rfl,hb⟩
    · rcases h with h | h | h
      · exact absurd h hne
      · exact absurd h hts
      · exact absurd rfl h
    · rcases h' with ⟨h',_⟩ | ⟨_,_,_,rfl,rfl,rfl,hb'⟩
      · rcases h' with h | h | h
        · exact absurd h hne2
        · exact absurd (by simpa using h) hts
        · exact absurd rfl h
      · refine ⟨base_neg hW,.inl ⟨rfl,hbt,?_,rfl,rfl⟩⟩
        rw [n1,n2] at hb'
        have key : p1 + p2 = -1 := by
          by_cases hq : baseQ ts b = 1
          · rcases hr with e | e | e
            · subst e
              rw [neg_lt] at hb'
              rcases hb with ⟨_,_,rfl⟩ | ⟨h | h,_⟩
              · rcases hb' with ⟨h,_⟩ | ⟨_,rfl⟩
                · exact absurd h (by decide +kernel)
                · rw [hq,Int.fdiv_one];omega
              · exact absurd rfl h
              · exact absurd hq h
            · subst e
              rw [neg_le] at hb'
              rcases hb with ⟨h,_⟩ | ⟨_,rfl⟩
              · exact absurd h (by decide +kernel)
              · rcases hb' with ⟨_,_,rfl⟩ | ⟨h | h,_⟩
                · rw [hq,Int.fdiv_one];omega
                · exact absurd rfl h
                · exact absurd hq h
            · exact absurd e hne
          · have fl := floor_two (base_fac ts b hW).2.1 (base_ndvd hW hq)
            rcases hb with ⟨_,h,_⟩ | ⟨_,rfl⟩
            · exact absurd h hq
            · rcases hb' with ⟨_,h,_⟩ | ⟨_,rfl⟩
              · exact absurd h hq
              · exact fl
        omega
  · have hc' : kind = 2 ∨ (kind = 1 ∧ ts = []) := by
      rcases hk with h | h
      · refine .inr ⟨h,Classical.byContradiction fun hn => hc ⟨h,hn⟩⟩
      · exact .inl h
    rcases h with ⟨_,rfl,hw⟩ | ⟨_,h1,h2,_⟩
    · rcases h' with ⟨_,rfl,hw'⟩ | ⟨_,h1,h2,_⟩
      · rcases hw with ⟨rfl,rfl,rfl⟩ | ⟨h,_⟩
        · rcases hw' with ⟨rfl,rfl,rfl⟩ | ⟨h,_⟩
          · refine ⟨base_neg hW,.inr ⟨?_,?_,?_⟩⟩
            · rcases hc' with h | ⟨h,e⟩
              · exact .inl h
              · exact .inr ⟨h,by rw [base_eq hW,e];rfl⟩
            · rw [n1,n2,Int.neg_mul];omega
            · rcases hr with e | e | e
              · subst e;exact .inl ⟨rfl,neg_lt⟩
              · subst e;exact .inr ⟨rfl,neg_le⟩
              · exact absurd e hne
          · exact absurd h hne2
        · exact absurd h hne
      · refine absurd ⟨h2,fun e => h1 ?_⟩ hc
        rw [e];rfl
    · exact absurd ⟨h2,h1⟩ hc
theorem says_not {rel : Str} {x y : Int} (hr : RelOk rel) (hne : rel ≠ Str.ofString "=") : saysB (negRel rel) (-x) (-y) = !saysB rel x y := by
  rcases hr with e | e | e
  · subst e
    rw [neg_lt,says_le,says_lt]
    by_cases h : x < y
    · rw [decide_eq_true h,decide_eq_false (by omega)];rfl
    · rw [decide_eq_false h,decide_eq_true (by omega)];rfl
  · subst e
    rw [neg_le,says_le,says_lt]
    by_cases h : x ≤ y
    · rw [decide_eq_true h,decide_eq_false (by omega)];rfl
    · rw [decide_eq_false h,decide_eq_true (by omega)];rfl
  · exact absurd e hne
noncomputable def coefF (ws : List Int) (c x : Int) : Int := if x = 0 then c else if x = 3 then ws.getD 0 0 else if x = 4 then ws.getD 1 0 else 0
noncomputable def valP (ps : List Int) (x : Int) : Int := if x = 3 then ps.getD 0 0 else if x = 4 then ps.getD 1 0 else 0
theorem dot_canon (val D : Int → Int) : dotV val (canonT D) = D 3 * val 3 + D 4 * val 4 := by
  unfold dotV canonT
  by_cases h3 : D 3 = 0 <;> by_cases h4 : D 4 = 0 <;> simp [h3,h4]
theorem dotS_val {ws ps : List Int} (h : ws.length = ps.length) (hl : ps.length = 1 ∨ ps.length = 2) : dotS ws ps = ws.getD 0 0 * valP ps 3 + ws.getD 1 0 * valP ps 4 := by
  cases ps with
  | nil => simp at hl
  | cons x r =>
    cases ws with
    | nil => simp at h
    | cons a q =>
      cases r with
      | nil =>
        cases q with
        | nil => simp [dotS,valP]
        | cons _ _ => simp at h
      | cons y r2 =>
        cases r2 with
        | cons _ _ => simp only [List.length_cons] at hl;omega
        | nil =>
          cases q with
          | nil => simp at h
          | cons b q2 =>
            cases q2 with
            | nil => simp [dotS,valP]
            | cons _ _ => simp at h
theorem sh_lt {x y x' y' : Int} (h : x - y = x' - y') : x < y ↔ x' < y' := ⟨fun k => Int.lt_of_sub_neg (h ▸ Int.sub_neg_of_lt k),fun k => Int.lt_of_sub_neg (h.symm ▸ Int.sub_neg_of_lt k)⟩
theorem sh_le {x y x' y' : Int} (h : x - y = x' - y') : x ≤ y ↔ x' ≤ y' := ⟨fun k => Int.le_of_sub_nonpos (h ▸ Int.sub_nonpos_of_le k),fun k => Int.le_of_sub_nonpos (h.symm ▸ Int.sub_nonpos_of_le k)⟩
theorem says_shift {rel : Str} {x y x' y' : Int} (hr : RelOk rel) (h : x - y = x' - y') : saysB rel x y = saysB rel x' y' := by
  rcases hr with e | e | e <;> subst e
  · rw [says_lt,says_lt];exact decide_eq_decide.mpr (sh_lt h)
  · rw [says_le,says_le];exact decide_eq_decide.mpr (sh_le h)
  · rw [says_eq,says_eq];exact decide_eq_decide.mpr (eq_iff_of (sh_lt h) (sh_le h))
theorem says_diff {rel : Str} {ws os ps : List Int} {c d : Int} (hr : RelOk rel) (h1 : ws.length = ps.length) (h2 : os.length = ps.length) (hl : ps.length = 1 ∨ ps.length = 2) :
    saysB rel (dotS ws ps + 6 * c) (dotS os ps + 6 * d) = saysB rel (dotV (valP ps) (canonT fun x => coefF ws c x - coefF os d x)) (6 * (coefF os d 0 - coefF ws c 0)) := by
  refine says_shift hr ?_
  rw [dotS_val h1 hl,dotS_val h2 hl,dot_canon]
  simp only [coefF]
  simp only [Int.sub_mul,show ((3 : Int) = 0) = False from by simp,show ((4 : Int) = 0) = False from by simp,show ((4 : Int) = 3) = False from by simp,if_true,if_false]
  omega
theorem says_eq_swap {x y : Int} : saysB (Str.ofString "=") (-x) (-y) = saysB (Str.ofString "=") x y := by
  rw [says_eq,says_eq];exact decide_eq_decide.mpr Int.neg_inj
end
section
noncomputable def recF (ts : List TRec) (t x : Int) : Int :=
  match ts[t.toNat]? with
  | none => 0
  | some r =>
    if r.op = Str.ofString "num" then (match r.data with | .pair p _ => if x = 0 then p else 0 | .int _ => 0)
    else if r.op = Str.ofString "app" then (if x = t then 1 else 0)
    else match r.args with
      | [n,k] => (match ts[n.toNat]? with | some q => (match q.data with | .pair p _ => if x = k then p else 0 | .int _ => 0) | none => 0)
      | _ => 0
section
variable {ts : List TRec} {a : Nat}
theorem recF_num {v srt : Int} (e : ts[a]? = some (numR v srt)) (x : Int) : recF ts (a : Int) x = if x = 0 then v else 0 := by
  unfold recF
  rw [Int.toNat_natCast,e]
  exact if_pos rfl
theorem recF_var {srt d : Int} (e : ts[a]? = some (varR srt d)) (x : Int) : recF ts (a : Int) x = if x = (a : Int) then 1 else 0 := by
  unfold recF
  rw [Int.toNat_natCast,e]
  exact (if_neg (show Str.ofString "app" ≠ Str.ofString "num" by decide +kernel)).trans (if_pos rfl)
theorem recF_mul {v srt srt' : Int} {n k : Nat} (e : ts[a]? = some (mulR n k srt)) (e' : ts[n]? = some (numR v srt')) (x : Int) : recF ts (a : Int) x = if x = (k : Int) then v else 0 := by
  unfold recF
  rw [Int.toNat_natCast,e]
  refine (if_neg (show Str.ofString "*" ≠ Str.ofString "num" by decide +kernel)).trans ((if_neg (show Str.ofString "*" ≠ Str.ofString "app" by decide +kernel)).trans ?_)
  show (match ts[((n : Nat) : Int).toNat]? with | some q => (match q.data with | .pair p _ => if x = (k : Int) then p else 0 | .int _ => 0) | none => 0) = _
  rw [Int.toNat_natCast,e']
  rfl
theorem good_num {v srt : Int} (e : ts[a]? = some (numR v srt)) (h1 : -1000 ≤ v) (h2 : v ≤ 1000) : GoodT ts (recF ts) (a : Int) 1 := ⟨a,rfl,.inl ⟨rfl,v,srt,e,h1,h2,recF_num e⟩⟩
end
theorem var_num {srt d v srt' : Int} : varR srt d ≠ numR v srt' := fun h => absurd (congrArg TRec.op h) (by show Str.ofString "app" ≠ Str.ofString "num";decide +kernel)
theorem var_mul {srt d srt' : Int} {n k : Nat} : varR srt d ≠ mulR n k srt' := fun h => absurd (congrArg TRec.op h) (by show Str.ofString "app" ≠ Str.ofString "*";decide +kernel)
theorem mul_num {srt v srt' : Int} {n k : Nat} : mulR n k srt ≠ numR v srt' := fun h => absurd (congrArg TRec.op h) (by show Str.ofString "*" ≠ Str.ofString "num";decide +kernel)
theorem mul_inj {n k n' k' : Nat} {srt srt' : Int} (h : mulR n k srt = mulR n' k' srt') : n = n' ∧ k = k' := by
  have := congrArg TRec.args h
  simp only [mulR,List.cons.injEq,Int.natCast_inj,and_true] at this
  exact this
theorem num_inj {v v' srt srt' : Int} (h : numR v srt = numR v' srt') : v = v' := by
  have := congrArg TRec.data h
  simp only [numR,KD.pair.injEq,and_true] at this
  exact this
theorem kid_good {ts : List TRec} {v kind d : Int} {i j : Nat} (h : IsTimes ts v kind i j) (hw : Wf ts) (hi : ts[i]? = some (varR kind d)) (hi1 : 1 ≤ i) (h1 : -4 ≤ v) (h2 : v ≤ 4) : GoodT ts (recF ts) (j : Int) 1 ∧ ∀ x,recF ts (j : Int) x = if x = (i : Int) then v else 0 := by
  rcases h with ⟨rfl,rfl⟩ | ⟨_,n,e1,_,e2,_⟩
  · exact ⟨⟨j,rfl,.inr (.inl ⟨kind,d,hi,hi1,recF_var hi⟩)⟩,recF_var hi⟩
  · have hlt := hw j _ e2
    have l1 := (hlt (n : Int) (.head _)).2
    have l2 := (hlt (i : Int) (.tail _ (.head _))).2
    exact ⟨⟨j,rfl,.inr (.inr ⟨rfl,n,i,v,kind,kind,kind,d,e2,e1,hi,hi1,by omega,by omega,by omega,by omega,recF_mul e2 e1,recF_var hi⟩)⟩,recF_mul e2 e1⟩
theorem kid_apart {ts : List TRec} {v v' kind d d' : Int} {i i' j j' : Nat} (h : IsTimes ts v kind i j) (h' : IsTimes ts v' kind i' j') (hi : ts[i]? = some (varR kind d)) (hi' : ts[i']? = some (varR kind d')) (hn : i ≠ i') : j ≠ j' := fun e => by
  subst e
  rcases h with ⟨_,rfl⟩ | ⟨_,n,_,_,e2,_⟩
  · rcases h' with ⟨_,h⟩ | ⟨_,n',_,_,e2',_⟩
    · exact hn h
    · rw [hi] at e2';exact var_mul (Option.some.inj e2')
  · rcases h' with ⟨_,rfl⟩ | ⟨_,n',_,_,e2',_⟩
    · rw [hi'] at e2;exact var_mul (Option.some.inj e2)
    · rw [e2] at e2';exact hn (mul_inj (Option.some.inj e2')).2
theorem kid_num {ts : List TRec} {v kind d c srt : Int} {i j cn : Nat} (h : IsTimes ts v kind i j) (hi : ts[i]? = some (varR kind d)) (hc : ts[cn]? = some (numR c srt)) : j ≠ cn := fun e => by
  subst e
  rcases h with ⟨_,rfl⟩ | ⟨_,n,_,_,e2,_⟩
  · rw [hi] at hc;exact var_num (Option.some.inj hc)
  · rw [hc] at e2;exact mul_num (Option.some.inj e2).symm
theorem kid_same {ts : List TRec} {v v' kind d : Int} {i j : Nat} (h : IsTimes ts v kind i j) (h' : IsTimes ts v' kind i j) (hi : ts[i]? = some (varR kind d)) : v = v' := by
  rcases h with ⟨rfl,rfl⟩ | ⟨_,n,e1,_,e2,_⟩
  · rcases h' with ⟨rfl,_⟩ | ⟨_,n',_,_,e2',_⟩
    · rfl
    · rw [hi] at e2';exact absurd (Option.some.inj e2') var_mul
  · rcases h' with ⟨_,rfl⟩ | ⟨_,n',e1',_,e2',_⟩
    · rw [hi] at e2;exact absurd (Option.some.inj e2) var_mul
    · rw [e2] at e2'
      refine x0_2 (mul_inj (Option.some.inj e2')) ?_
      rintro rfl
      intro _
      rw [e1] at e1'
      exact num_inj (Option.some.inj e1')
noncomputable def NsOk (ts : List TRec) (kind : Int) (ns : List Int) : Prop := (ns = [3] ∨ ns = [3,4]) ∧ ∀ k ∈ ns,∃ d,ts[k.toNat]? = some (varR kind d)
theorem NsOk.grow {ts ts' : List TRec} {kind : Int} {ns : List Int} {k : Nat} (h : NsOk ts kind ns) (g : Grow k ts ts') : NsOk ts' kind ns := ⟨h.1,fun x hx => let ⟨d,e⟩ := h.2 x hx;⟨d,g.1 _ _ e⟩⟩
theorem SideOk.grow {ts ts' : List TRec} {P : Nat} {kind c : Int} {ns ws : List Int} {k : Nat} (h : SideOk ts P kind ns ws c) (g : Grow k ts ts') : SideOk ts' P kind ns ws c := by
  refine x2_6 h ?_;(try clear h)
  intro js cn h1 h2 h3 h4 h5 h6
  exact ⟨js,cn,h1,fun i j k v e1 e2 e3 => (h2 i j k v e1 e2 e3).grow g,g.1 _ _ h3,h4,g.1 _ _ h5,h6⟩
theorem VarsOk.grow {ts ts' : List TRec} {k : Nat} (h : VarsOk ts) (g : Grow k ts ts') : VarsOk ts' := fun i srt d e => h i srt d (g.va _ _ e rfl)
theorem KindOk.grow {ts ts' : List TRec} {k : Nat} {kind : Int} (h : KindOk ts kind) (g : Grow k ts ts') : KindOk ts' kind := fun i srt d e => h i srt d (g.va _ _ e rfl)
theorem side_same {ts : List TRec} {P : Nat} {kind c d : Int} {ns ws os : List Int} (h : SideOk ts P kind ns ws c) (h' : SideOk ts P kind ns os d) (hn : NsOk ts kind ns) (l1 : ws.length = ns.length) (l2 : os.length = ns.length) : ws ++ [c] = os ++ [d] := by
  refine x2_6 h ?_;(try clear h)
  intro js cn h1 h2 h3 _ h5 _
  refine x2_6 h' ?_;(try clear h')
  intro js' cn' h1' h2' h3' _ h5' _
  rw [h5] at h5'
  have e := congrArg TRec.args (Option.some.inj h5')
  simp only [plusR,List.map_append,List.map_cons,List.map_nil] at e
  refine x0_2 (List.append_inj' e rfl) ?_
  intro e1 e2
  have e1 : js = js' := by
    have : Function.Injective (fun a : Nat => (a : Int)) := fun a b h => Int.ofNat_inj.mp h
    exact List.map_inj_right (fun x y h => this h) |>.mp e1
  have e2 : cn = cn' := by
    have : (cn : Int) = (cn' : Int) := by simpa using e2
    omega
  subst e1
  subst e2
  rw [h3] at h3'
  rw [num_inj (Option.some.inj h3')]
  congr 1
  refine List.ext_getElem? fun i => ?_
  cases ev : ws[i]? with
  | none => rw [List.getElem?_eq_none_iff] at ev;symm;rw [List.getElem?_eq_none_iff];omega
  | some v =>
    have hi := (List.getElem?_eq_some_iff.mp ev).1
    have ej : js[i]? = some (js[i]'(by omega)) := List.getElem?_eq_getElem _
    have en : ns[i]? = some (ns[i]'(by omega)) := List.getElem?_eq_getElem _
    have eo : os[i]? = some (os[i]'(by omega)) := List.getElem?_eq_getElem _
    refine x1_1 (hn.2 _ (List.mem_of_getElem? en)) ?_
    intro d hd
    rw [eo,kid_same (h2 i _ _ _ ej en ev) (h2' i _ _ _ ej en eo) hd]
theorem side_plus {ts : List TRec} {P : Nat} {kind c : Int} {ns ws : List Int} (h : SideOk ts P kind ns ws c) (hw : Wf ts) (hP : P ≤ 150) (hn : NsOk ts kind ns) (hl : ws.length = ns.length) (hb : Bd3 (ws ++ [c])) : PlusOk ts P (coefF ws c) := by
  refine x2_6 h ?_;(try clear h)
  intro js cn h1 h2 h3 _ h5 _
  have hbc := hb c (List.mem_append_right _ (.head _))
  have hPa := hw P _ h5
  have lt : ∀ a ∈ js ++ [cn],a < P := fun a ha => by
    have := (hPa (a : Int) (List.mem_map.mpr ⟨a,ha,rfl⟩)).2
    omega
  have gc := good_num h3 (by omega) (by omega)
  rcases hn.1 with e | e
  · subst e
    refine x1_1 (hn.2 3 (.head _)) ?_
    intro d3 e3
    obtain ⟨j,rfl⟩ := List.length_eq_one_iff.mp h1
    obtain ⟨v,rfl⟩ := List.length_eq_one_iff.mp hl
    have hbv := hb v (List.mem_append_left _ (.head _))
    have t := h2 0 j 3 v rfl rfl rfl
    refine x0_2 (kid_good t hw e3 (by decide) hbv.1 hbv.2) ?_
    intro g1 f1
    refine ⟨kind,[j,cn],recF ts,h5,hP,fun a ha => ⟨?_,lt a ha⟩,fun x => ?_,?_,.inl rfl⟩
    · rcases List.mem_cons.mp ha with rfl | ha
      · exact g1
      · rw [List.mem_singleton.mp ha];exact gc
    · simp only [List.map_cons,List.map_nil,List.sum_cons,List.sum_nil,f1,recF_num h3,coefF]
      rw [show ((Int.toNat 3 : Nat) : Int) = 3 from rfl]
      simp only [List.getD_cons_zero]
      by_cases x0 : x = 0
      · subst x0;simp
      · by_cases x3 : x = 3
        · subst x3;simp
        · simp [x0,x3]
    · have := kid_num t e3 h3
      simp [this]
  · subst e
    refine x1_1 (hn.2 3 (.head _)) ?_
    intro d3 e3
    refine x1_1 (hn.2 4 (.tail _ (.head _))) ?_
    intro d4 e4
    obtain ⟨j,j',rfl⟩ := len2 h1
    obtain ⟨v,v',rfl⟩ := len2 hl
    have hbv := hb v (List.mem_append_left _ (.head _))
    have hbv' := hb v' (List.mem_append_left _ (.tail _ (.head _)))
    have t := h2 0 j 3 v rfl rfl rfl
    have t' := h2 1 j' 4 v' rfl rfl rfl
    refine x0_2 (kid_good t hw e3 (by decide) hbv.1 hbv.2) ?_
    intro g1 f1
    refine x0_2 (kid_good t' hw e4 (by decide) hbv'.1 hbv'.2) ?_
    intro g2 f2
    refine ⟨kind,[j,j',cn],recF ts,h5,hP,fun a ha => ⟨?_,lt a ha⟩,fun x => ?_,?_,.inr rfl⟩
    · rcases List.mem_cons.mp ha with rfl | ha
      · exact g1
      · rcases List.mem_cons.mp ha with rfl | ha
        · exact g2
        · rw [List.mem_singleton.mp ha];exact gc
    · simp only [List.map_cons,List.map_nil,List.sum_cons,List.sum_nil,f1,f2,recF_num h3,coefF]
      rw [show ((Int.toNat 3 : Nat) : Int) = 3 from rfl,show ((Int.toNat 4 : Nat) : Int) = 4 from rfl]
      simp only [List.getD_cons_zero,List.getD_cons_succ]
      by_cases x0 : x = 0
      · subst x0;simp
      · by_cases x3 : x = 3
        · subst x3;simp
        · by_cases x4 : x = 4
          · subst x4;simp
          · simp [x0,x3,x4]
    · have n1 := kid_num t e3 h3
      have n2 := kid_num t' e4 h3
      have n3 := kid_apart t t' e3 e4 (by decide)
      simp [n1,n2,n3]
theorem coef_bd {ws : List Int} {c : Int} (hb : Bd3 (ws ++ [c])) (x : Int) : -4 ≤ coefF ws c x ∧ coefF ws c x ≤ 4 := by
  have hg : ∀ i,-4 ≤ ws.getD i 0 ∧ ws.getD i 0 ≤ 4 := fun i => by
    rw [List.getD_eq_getElem?_getD]
    cases e : ws[i]? with
    | none => simp
    | some y => exact hb y (List.mem_append_left _ (List.mem_of_getElem? e))
  unfold coefF
  split
  · exact hb c (List.mem_append_right _ (.head _))
  · split
    · exact hg 0
    · split
      · exact hg 1
      · omega
theorem canon_keys {ws os : List Int} {c d : Int} {ns : List Int} (hn : ns = [3] ∨ ns = [3,4]) (l1 : ws.length = ns.length) (l2 : os.length = ns.length) : ∀ k ∈ (canonT fun x => coefF ws c x - coefF os d x).map (·.1),k ∈ ns := fun k hk => by
  refine x1_2 (List.mem_map.mp hk) ?_
  intro t ht
  rintro rfl
  unfold canonT at ht
  rcases List.mem_append.mp ht with ht | ht
  · split at ht
    · rw [List.mem_singleton.mp ht]
      rcases hn with rfl | rfl <;> simp
    · cases ht
  · split at ht
    · rename_i h4
      rw [List.mem_singleton.mp ht]
      rcases hn with rfl | rfl
      · refine absurd ?_ h4
        simp only [List.length_cons,List.length_nil] at l1 l2
        have w1 : ws[1]? = none := List.getElem?_eq_none (by omega)
        have o1 : os[1]? = none := List.getElem?_eq_none (by omega)
        simp [coefF,List.getD_eq_getElem?_getD,w1,o1]
      · simp
    · cases ht
theorem tab_of {w : World} {o : Obj} {ns ps : List Int} {ys : List Value} {ts : List Term3} (hn : ns = [3] ∨ ns = [3,4]) (ho : o.IsDictOf (PySem.intKind PG w) (ns.zip ys)) (hy : IntsAre ys ps) (hl : ps.length = ns.length) (hk : ∀ k ∈ ts.map (·.1),k ∈ ns) : TabIn w o (valP ps) ts := by
  refine ⟨_,ho,fun t ht => ?_⟩
  have hm := hk _ (List.mem_map.mpr ⟨t,ht,rfl⟩)
  rcases hn with rfl | rfl
  · simp only [List.mem_singleton] at hm
    cases hy with
    | nil => simp at hl
    | @cons p tp vs ps hy =>
      exact ⟨tp,by rw [hm];simp [valueAt,valP]⟩
  · cases hy with
    | nil => simp at hl
    | @cons p tp vs ps hy =>
      cases hy with
      | nil => simp at hl
      | @cons q tq vs ps hy =>
        simp only [List.mem_cons,List.not_mem_nil,or_false] at hm
        rcases hm with hm | hm
        · exact ⟨tp,by rw [hm];simp [valueAt,valP]⟩
        · exact ⟨tq,by rw [hm];simp [valueAt,valP]⟩
end
section
noncomputable def trueR : TRec := ⟨Str.ofString "true",[],0,.int 0⟩
noncomputable def recs0 (kind : Int) (i : Nat) : List TRec := [rec0,trueR,⟨Str.ofString "false",[],0,.int 0⟩] ++ (List.range i).map fun (j : Nat) => varR kind (j : Int)
noncomputable def vars0 (i : Nat) : List Int := (List.range i).map fun (j : Nat) => ((3 + j : Nat) : Int)
theorem recs0_len (kind : Int) (i : Nat) : (recs0 kind i).length = 3 + i := by simp [recs0];omega
theorem recs0_succ (kind : Int) (i : Nat) : recs0 kind i ++ [varR kind (i : Int)] = recs0 kind (i + 1) := by simp [recs0,List.range_succ]
theorem vars0_succ (i : Nat) : vars0 i ++ [((3 + i : Nat) : Int)] = vars0 (i + 1) := by simp [vars0,List.range_succ]
theorem recs0_fresh (kind : Int) (i : Nat) : varR kind (i : Int) ∉ recs0 kind i := fun h => by
  simp only [recs0,List.mem_append,List.mem_cons,List.not_mem_nil,or_false,List.mem_map,List.mem_range] at h
  rcases h with (h | h | h) | ⟨j,h1,h2⟩
  · exact absurd (congrArg TRec.op h) (by show Str.ofString "app" ≠ Str.ofString "";decide +kernel)
  · exact absurd (congrArg TRec.op h) (by show Str.ofString "app" ≠ Str.ofString "true";decide +kernel)
  · exact absurd (congrArg TRec.op h) (by show Str.ofString "app" ≠ Str.ofString "false";decide +kernel)
  · have := congrArg TRec.data h2
    simp only [varR,KD.int.injEq] at this
    omega
structure BankS (w : World) (B : BkA) (ts : List TRec) (BL : Led) (kind : Int) (ns : List Int) : Prop where
  bk : Bk w B ts BL
  bx : BankX B.es
  ns : NsOk ts kind ns
  wf : Wf ts
  va : VarsOk ts
  kd : KindOk ts kind
  kk : kind = 1 ∨ kind = 2
  z0 : ts[0]? = some rec0
  z1 : ts[1]? = some trueR
theorem BankS.grow {w : World} {B : BkA} {ts ts' : List TRec} {BL BL' : Led} {kind : Int} {ns : List Int} {k : Nat} (S : BankS w B ts BL kind ns) (hB : Bk w B ts' BL') (g : Grow k ts ts') (hw : Wf ts') : BankS w B ts' BL' kind ns :=
  ⟨hB,S.bx,S.ns.grow g,hw,S.va.grow g,S.kd.grow g,S.kk,g.1 _ _ S.z0,g.1 _ _ S.z1⟩
theorem recs0_get {kind : Int} {i j : Nat} {r : TRec} (e : (recs0 kind i)[j]? = some r) : r.args = [] ∧ (r.op = Str.ofString "app" → ∃ k : Nat,j = 3 + k ∧ k < i ∧ r = varR kind (k : Int)) := by
  have no : Str.ofString "" ≠ Str.ofString "app" ∧ Str.ofString "true" ≠ Str.ofString "app" ∧ Str.ofString "false" ≠ Str.ofString "app" := by decide +kernel
  cases j with
  | zero =>
    obtain rfl : rec0 = r := by simpa [recs0] using e
    exact ⟨rfl,fun h => absurd h no.1⟩
  | succ j =>
  cases j with
  | zero =>
    obtain rfl : trueR = r := by simpa [recs0] using e
    exact ⟨rfl,fun h => absurd h no.2.1⟩
  | succ j =>
  cases j with
  | zero =>
    obtain rfl : (⟨Str.ofString "false",[],0,.int 0⟩ : TRec) = r := by simpa [recs0] using e
    exact ⟨rfl,fun h => absurd h no.2.2⟩
  | succ k =>
    simp only [recs0,List.cons_append,List.nil_append,List.getElem?_cons_succ,List.getElem?_map,Option.map_eq_some_iff] at e
    refine x1_2 e ?_;(try clear e)
    intro a h1
    rintro rfl
    have hk : k < i := by have := (List.getElem?_eq_some_iff.mp h1).1;simpa using this
    rw [List.getElem?_range hk] at h1
    obtain rfl := Option.some.inj h1
    exact ⟨rfl,fun _ => ⟨k,by omega,hk,rfl⟩⟩
theorem bank0 {w : World} {B : BkA} {BL : Led} {kind : Int} {i : Nat} (hB : Bk w B (recs0 kind i) BL) (hX : BankX B.es) (hk : kind = 1 ∨ kind = 2) (hi : i = 1 ∨ i = 2) : BankS w B (recs0 kind i) BL kind (vars0 i) := by
  refine ⟨hB,hX,⟨?_,fun k hk => ?_⟩,fun j r e a ha => ?_,fun j srt d e => ?_,fun j srt d e => ?_,hk,rfl,rfl⟩
  · rcases hi with rfl | rfl
    · exact .inl rfl
    · exact .inr rfl
  · refine x1_2 (List.mem_map.mp hk) ?_
    intro j hj
    rintro rfl
    refine ⟨(j : Int),?_⟩
    rw [Int.toNat_natCast,show 3 + j = j + 3 from Nat.add_comm ..]
    simp only [recs0,List.cons_append,List.nil_append,List.getElem?_cons_succ,List.getElem?_map]
    rw [List.getElem?_range (List.mem_range.mp hj)]
    rfl
  · rw [(recs0_get e).1] at ha;cases ha
  · refine x1_3 ((recs0_get e).2 rfl) ?_
    intro k h1 h2 _
    omega
  · refine x1_3 ((recs0_get e).2 rfl) ?_
    intro k _ _ h3
    exact congrArg TRec.sort h3
inductive SomeJ (w : World) (B : BkA) (kind : Int) (f1 : Addr) (f2 : Addr) (f3 : Addr) (H : Led) (i : Nat) (ys : List Value) (led : Led) : Prop
  | mk (x1 x2 x3 : List Value) (k1 k2 k3 : Nat) (BL : Led) (cc1 : led = H ++ ((f1,listOf x1.toArray k1) :: (f2,listOf x2.toArray k2) :: (f3,listOf x3.toArray k3) :: BL)) (cc2 : x1.length = i) (cc3 : x2.length = i) (cc4 : x3.length = i) (cc5 : Bk w B (recs0 kind i) BL) (cc6 : (∀ q ∈ BL,AllNe q.1 [(f1,tup []),(f2,tup []),(f3,tup [])])) (cc7 : (∀ p ∈ H,∀ q ∈ (f1,listOf x1.toArray k1) :: (f2,listOf x2.toArray k2) :: (f3,listOf x3.toArray k3) :: BL,q.1 ≠ p.1)) (cc8 : IntsAre ys (vars0 i)) : SomeJ w B kind f1 f2 f3 H i ys led
theorem getD_kind {i : Int} (h0 : 0 ≤ i) (h2 : i < 2) : ([1,2] : List Int).getD i.toNat 0 = 1 ∨ ([1,2] : List Int).getD i.toNat 0 = 2 := by
  have : i = 0 ∨ i = 1 := by omega
  rcases this with rfl | rfl
  · exact .inl rfl
  · exact .inr rfl
inductive AtomB (w : World) (fd : Addr) (cl : Addr) (cK : Addr) (cB : Addr) (cF : Addr) (vs : List Value) (n : Nat) (sp : Int) (oF : Obj) (h₀ : Heap) (L : Addr) (s : Shared) (s' : Shared) : Prop
  | mk (h' : Heap) (tk' : Nat) (m' : Mp) (B : BkA) (ts : List TRec) (BL : Led) (sa : Addr) (xs : List Value) (nx : Nat) (ns : List Int) (kind : Int) (tkk : Tok) (o' oK oB : Obj) (cc1 : s' = { s with heap := h',toks := tk' }) (cc2 : Fr h₀ L h' m') (cc3 : m' (Str.ofString "some") = some (.ref sa)) (cc4 : News h₀ L h' ((sa,listOf xs.toArray nx) :: (cK,oK) :: (cB,oB) :: (cF,oF) :: (fd,o') :: (cl,listOf vs.toArray n) :: BL)) (cc5 : oK.data = .cell (some (.int kind tkk))) (cc6 : oB.data = .cell (some (.ref B.b))) (cc7 : Feed w cl (sp + 2) o') (cc8 : BankS w B ts BL kind ns) (cc9 : IntsAre xs ns) (cc10 : ts.length ≤ 5) (cc11 : (∀ q ∈ BL,AllNe q.1 [(sa,tup []),(cK,tup []),(cB,tup []),(cF,tup []),(fd,tup []),(cl,tup [])])) (cc12 : AllNe sa [(cK,tup []),(cB,tup []),(cF,tup []),(fd,tup []),(cl,tup [])]) : AtomB w fd cl cK cB cF vs n sp oF h₀ L s s'
theorem some_frame {H T : Led} {I C D : Addr} {oI oC oD : Obj} (off : LCg.Off3 I C D (H ++ T)) (dj : ∀ p ∈ H,∀ q ∈ T,q.1 ≠ p.1) : ∀ p ∈ (I,oI) :: (C,oC) :: (D,oD) :: H,∀ q ∈ T,q.1 ≠ p.1 := fun p hp q hq => by
  have := off.mem q (List.mem_append_right _ hq)
  simp only [List.mem_cons] at hp
  rcases hp with rfl | rfl | rfl | hp
  · exact this.1
  · exact this.2.1
  · exact this.2.2
  · exact dj p hp q hq
theorem pick_some {a b c d e f p x y z : Addr × Obj} {T : Led} (h : p ∈ a :: b :: c :: d :: e :: f :: T) : p ∈ a :: b :: c :: d :: e :: f :: x :: y :: z :: T := by
  exact subA (by k_extra "H:sub_auto") h
theorem off3_of {I C D : Addr} : ∀ {l : Led},(∀ p ∈ l,p.1 ≠ I ∧ p.1 ≠ C ∧ p.1 ≠ D) → LCg.Off3 I C D l
  | [],_ => trivial
  | p :: _,h => ⟨h p (.head _),off3_of fun q hq => h q (.tail _ hq)⟩
structure SidesS (ts : List TRec) (P1 P2 : Nat) (kind : Int) (ns ws os : List Int) (c d : Int) : Prop where
  s1 : SideOk ts P1 kind ns ws c
  s2 : SideOk ts P2 kind ns os d
  l1 : ws.length = ns.length
  l2 : os.length = ns.length
  b1 : Bd3 (ws ++ [c])
  b2 : Bd3 (os ++ [d])
inductive AtomC (w : World) (fd : Addr) (cl : Addr) (cK : Addr) (cB : Addr) (cF : Addr) (vs : List Value) (n : Nat) (sp : Int) (oF : Obj) (h₀ : Heap) (L : Addr) (s : Shared) (s' : Shared) : Prop
  | mk (h' : Heap) (tk' : Nat) (m' : Mp) (B : BkA) (ts : List TRec) (BL : Led) (sa wa oa : Addr) (xs wl ol : List Value) (nx nw no : Nat) (ns ws os : List Int) (c d : Int) (P1 P2 : Nat) (kind sp' : Int) (tkk t1 t2 tr : Tok) (rel : Str) (o' oK oB : Obj) (cc1 : s' = { s with heap := h',toks := tk' }) (cc2 : Fr h₀ L h' m') (cc3 : RelOk rel) (cc4 : (m' (Str.ofString "relation") = some (.str rel tr) ∧ m' (Str.ofString "some") = some (.ref sa) ∧ m' (Str.ofString "one") = some (.int (P1 : Int) t1) ∧ m' (Str.ofString "wide") = some (.ref wa) ∧ m' (Str.ofString "another") = some (.int (P2 : Int) t2) ∧ m' (Str.ofString "others") = some (.ref oa))) (cc5 : News h₀ L h' ((sa,listOf xs.toArray nx) :: (wa,listOf wl.toArray nw) :: (oa,listOf ol.toArray no) :: (cK,oK) :: (cB,oB) :: (cF,oF) :: (fd,o') :: (cl,listOf vs.toArray n) :: BL)) (cc6 : oK.data = .cell (some (.int kind tkk))) (cc7 : oB.data = .cell (some (.ref B.b))) (cc8 : Feed w cl sp' o') (cc9 : sp ≤ sp') (cc10 : sp' ≤ sp + 10) (cc11 : BankS w B ts BL kind ns) (cc12 : IntsAre xs ns) (cc13 : IntsAre wl (ws ++ [c])) (cc14 : IntsAre ol (os ++ [d])) (cc15 : SidesS ts P1 P2 kind ns ws os c d) (cc16 : ts.length ≤ 21) (cc17 : (∀ q ∈ BL,AllNe q.1 [(sa,tup []),(wa,tup []),(oa,tup []),(cK,tup []),(cB,tup []),(cF,tup []),(fd,tup []),(cl,tup [])])) (cc18 : AllNe fd [(sa,tup []),(wa,tup []),(oa,tup []),(cK,tup []),(cB,tup []),(cF,tup []),(cl,tup [])]) : AtomC w fd cl cK cB cF vs n sp oF h₀ L s s'
theorem side_rec {ts : List TRec} {P : Nat} {kind c : Int} {ns ws : List Int} (h : SideOk ts P kind ns ws c) : ∃ r,ts[P]? = some r ∧ r.sort = kind := by
  refine x2_6 h ?_;(try clear h)
  intro js cn _ _ _ _ h5 _
  exact ⟨_,h5,rfl⟩
theorem apart_tup {a b c d e f g h : Addr} {oa ob oc od oe of og oh : Obj} {T : Led} (k : ∀ p ∈ [(a,oa),(b,ob),(c,oc),(d,od),(e,oe),(f,of),(g,og),(h,oh)],∀ q ∈ T,q.1 ≠ p.1) : ∀ p ∈ [(a,tup []),(b,tup []),(c,tup []),(d,tup []),(e,tup []),(f,tup []),(g,tup []),(h,tup [])],∀ q ∈ T,q.1 ≠ p.1 := fun p hp q hq => by
  have := allNe_of fun p hp => Ne.symm (k p hp q hq)
  exact Ne.symm (AllNe.get (l := [(a,tup []),(b,tup []),(c,tup []),(d,tup []),(e,tup []),(f,tup []),(g,tup []),(h,tup [])]) this hp)
noncomputable def AtomK (ts : List TRec) (k : Nat) (rel : Str) (P1 P2 : Nat) : Prop := (rel = Str.ofString "=" ∧ P1 = P2 ∧ k = 1) ∨ ∃ i j : Nat,ts[k]? = some (atomR rel i j) ∧ ((i = P1 ∧ j = P2) ∨ (rel = Str.ofString "=" ∧ i = P2 ∧ j = P1))
theorem atomK_eq {ts : List TRec} {k i j : Nat} (h : (i = j ∧ k = 1) ∨ (i ≠ j ∧ 1 ≤ k ∧ (ts[k]? = some (atomR (Str.ofString "=") i j) ∨ ts[k]? = some (atomR (Str.ofString "=") j i)))) : AtomK ts k (Str.ofString "=") i j := by
  rcases h with ⟨h1,h2⟩ | ⟨_,_,h | h⟩
  · exact .inl ⟨rfl,h1,h2⟩
  · exact .inr ⟨_,_,h,.inl ⟨rfl,rfl⟩⟩
  · exact .inr ⟨_,_,h,.inr ⟨rfl,rfl,rfl⟩⟩
structure RowG (kind : Int) (ns : List Int) (ts1 : List Term3) (rel1 : Str) (p1 q1 : Int) (due : List Int → Bool) : Prop where
  few : FewT ts1
  rok : RelOk rel1
  bp : -100000 ≤ p1 ∧ p1 ≤ 100000
  bq : 1 ≤ q1 ∧ q1 ≤ 1000
  keys : ∀ k ∈ ts1.map (·.1),k ∈ ns
  says : ∀ ps : List Int,ps.length = ns.length → (kind = 1 → ∀ x ∈ ps,∃ z,x = 6 * z) → keepsB rel1 (sixD (valP ps) ts1) p1 q1 = due ps
theorem valP_six {ps : List Int} (h : ∀ x ∈ ps,∃ z,x = 6 * z) (x : Int) : ∃ z,valP ps x = 6 * z := by
  have hg : ∀ i,∃ z,ps.getD i 0 = 6 * z := fun i => by
    rw [List.getD_eq_getElem?_getD]
    cases e : ps[i]? with
    | none => exact ⟨0,rfl⟩
    | some y => exact h y (List.mem_of_getElem? e)
  unfold valP
  split
  · exact hg 0
  · split
    · exact hg 1
    · exact ⟨0,rfl⟩
theorem tight_rel {kind b p q : Int} {ts ts' : List Term3} {rel rel' : Str} (h : TightR kind ts rel b ts' rel' p q) (hr : RelOk rel) : RelOk rel' := by
  rcases h with ⟨_,rfl,_⟩ | ⟨_,_,_,_,rfl,_⟩
  · exact hr
  · exact .inr (.inl rfl)
noncomputable def dueB (rel : Str) (ws os : List Int) (c d : Int) (ps : List Int) : Bool := saysB rel (dotS ws ps + 6 * c) (dotS os ps + 6 * d)
theorem row_true {kind c d p1 q1 : Int} {ns ws os : List Int} {ts1 : List Term3} {rel rel1 : Str} (hn : ns = [3] ∨ ns = [3,4]) (l1 : ws.length = ns.length) (l2 : os.length = ns.length) (b1 : Bd3 (ws ++ [c])) (b2 : Bd3 (os ++ [d])) (hr : RelOk rel)
    (h : TightR kind (canonT fun x => coefF ws c x - coefF os d x) rel (coefF os d 0 - coefF ws c 0) ts1 rel1 p1 q1) : RowG kind ns ts1 rel1 p1 q1 (dueB rel ws os c d) := by
  have hW := canon_whole (D := fun x => coefF ws c x - coefF os d x) fun x => by have := coef_bd b1 x;have := coef_bd b2 x;omega
  have hb : -1000 ≤ coefF os d 0 - coefF ws c 0 ∧ coefF os d 0 - coefF ws c 0 ≤ 1000 := by have := coef_bd b1 0;have := coef_bd b2 0;omega
  refine x0_4 (tight_few h hW hb) ?_
  intro f1 f2 f3 f4
  have hl : ns.length = 1 ∨ ns.length = 2 := by rcases hn with e | e <;> rw [e] <;> simp
  refine ⟨f1,tight_rel h hr,f2,f3,fun k hk => canon_keys (c := c) (d := d) hn l1 l2 k (f4 ▸ hk),fun ps hp hz => ?_⟩
  rw [tight_keeps h hW hr fun hk => valP_six (hz hk)]
  exact (says_diff hr (by omega) (by omega) (by omega)).symm
theorem row_false {kind c d p1 q1 : Int} {ns ws os : List Int} {ts1 : List Term3} {rel rel1 : Str} (hn : ns = [3] ∨ ns = [3,4]) (l1 : ws.length = ns.length) (l2 : os.length = ns.length) (b1 : Bd3 (ws ++ [c])) (b2 : Bd3 (os ++ [d])) (hr : RelOk rel) (hne : rel ≠ Str.ofString "=")
    (h : TightR kind ((canonT fun x => coefF ws c x - coefF os d x).map negT) (negRel rel) (coefF ws c 0 - coefF os d 0) ts1 rel1 p1 q1) : RowG kind ns ts1 rel1 p1 q1 (fun ps => !dueB rel ws os c d ps) := by
  have hW := canon_whole (D := fun x => coefF ws c x - coefF os d x) fun x => by have := coef_bd b1 x;have := coef_bd b2 x;omega
  have hb : -1000 ≤ coefF ws c 0 - coefF os d 0 ∧ coefF ws c 0 - coefF os d 0 ≤ 1000 := by have := coef_bd b1 0;have := coef_bd b2 0;omega
  refine x0_4 (tight_few h (neg_whole hW) hb) ?_
  intro f1 f2 f3 f4
  have hl : ns.length = 1 ∨ ns.length = 2 := by rcases hn with e | e <;> rw [e] <;> simp
  refine ⟨f1,tight_rel h (negRel_ok rel),f2,f3,fun k hk => canon_keys (c := c) (d := d) hn l1 l2 k ?_,fun ps hp hz => ?_⟩
  · rw [f4,List.map_map] at hk;exact hk
  · rw [tight_keeps h (neg_whole hW) (negRel_ok rel) fun hk => valP_six (hz hk),dot_negT]
    have e : 6 * (coefF ws c 0 - coefF os d 0) = -(6 * (coefF os d 0 - coefF ws c 0)) := by omega
    rw [e,says_not hr hne]
    unfold dueB
    rw [says_diff hr (by omega) (by omega) (by omega)]
theorem due_swap {ws os : List Int} {c d : Int} : dueB (Str.ofString "=") os ws d c = dueB (Str.ofString "=") ws os c d := by
  funext ps
  unfold dueB
  rw [says_eq,says_eq]
  exact decide_eq_decide.mpr (by omega)
noncomputable def OtherOk (T : Led) (v : Value) (kind : Int) (ns : List Int) (rel : Str) (ts1 : List Term3) (rel1 : Str) (p1 q1 : Int) (due : List Int → Bool) : Prop :=
  (rel = Str.ofString "=" ∧ v = .none) ∨ (rel ≠ Str.ofString "=" ∧ ∃ rb rel2 p2 q2,v = .ref rb ∧ RowAt T rb (ts1.map negT) rel2 p2 q2 ∧ PairOk kind ts1 rel1 rel2 p1 q1 p2 q2 ∧ RowG kind ns (ts1.map negT) rel2 p2 q2 fun ps => !due ps)
theorem rel_ne_true {rel : Str} (h : RelOk rel) : ¬ trueR.op = rel := by
  rcases h with e | e | e <;> subst e <;> (show ¬ Str.ofString "true" = _;decide +kernel)
theorem SidesS.grow {ts ts' : List TRec} {P1 P2 k : Nat} {kind c d : Int} {ns ws os : List Int} (D : SidesS ts P1 P2 kind ns ws os c d) (g : Grow k ts ts') : SidesS ts' P1 P2 kind ns ws os c d := ⟨D.s1.grow g,D.s2.grow g,D.l1,D.l2,D.b1,D.b2⟩
theorem side_lt {ts : List TRec} {P : Nat} {kind c : Int} {ns ws : List Int} (h : SideOk ts P kind ns ws c) : P < ts.length := by
  refine x2_6 h ?_;(try clear h)
  intro js cn _ _ _ _ h5 _
  exact (List.getElem?_eq_some_iff.mp h5).1
theorem atom_sides {ts : List TRec} {P1 P2 i j : Nat} {kind c d : Int} {ns ws os : List Int} {rel : Str} (D : SidesS ts P1 P2 kind ns ws os c d) (hw : Wf ts) (hn : NsOk ts kind ns) (hl : ts.length ≤ 100) (h : (i = P1 ∧ j = P2) ∨ (rel = Str.ofString "=" ∧ i = P2 ∧ j = P1)) :
    ∃ (wi oi : List Int) (ci di : Int) (r : TRec),PlusOk ts i (coefF wi ci) ∧ PlusOk ts j (coefF oi di) ∧ wi.length = ns.length ∧ oi.length = ns.length ∧ Bd3 (wi ++ [ci]) ∧ Bd3 (oi ++ [di]) ∧ dueB rel wi oi ci di = dueB rel ws os c d ∧ ts[i]? = some r ∧ r.sort = kind := by
  have p1 := side_plus D.s1 hw (by have := side_lt D.s1;omega) hn D.l1 D.b1
  have p2 := side_plus D.s2 hw (by have := side_lt D.s2;omega) hn D.l2 D.b2
  rcases h with ⟨rfl,rfl⟩ | ⟨rfl,rfl,rfl⟩
  · refine x1_2 (side_rec D.s1) ?_
    intro r h1 h2
    exact ⟨ws,os,c,d,r,p1,p2,D.l1,D.l2,D.b1,D.b2,rfl,h1,h2⟩
  · refine x1_2 (side_rec D.s2) ?_
    intro r h1 h2
    exact ⟨os,ws,d,c,r,p2,p1,D.l2,D.l1,D.b2,D.b1,due_swap,h1,h2⟩
theorem no_var0 {ts : List TRec} (h : ts[0]? = some rec0) : ∀ srt d,ts[0]? ≠ some (varR srt d) := fun srt d e => by
  rw [h] at e
  exact absurd (congrArg TRec.op (Option.some.inj e)) (by show ¬ Str.ofString "" = Str.ofString "app";decide +kernel)
theorem coef_400 {ws : List Int} {c : Int} (hb : Bd3 (ws ++ [c])) (x : Int) : -400 ≤ coefF ws c x ∧ coefF ws c x ≤ 400 := by have := coef_bd hb x;omega
theorem other_of {T : Led} {rb : Addr} {kind c d p1 q1 p2 q2 : Int} {ns ws os : List Int} {ts1 ts2 : List Term3} {rel rel1 rel2 : Str} {due : List Int → Bool} (hk : kind = 1 ∨ kind = 2) (hn : ns = [3] ∨ ns = [3,4]) (l1 : ws.length = ns.length) (l2 : os.length = ns.length) (b1 : Bd3 (ws ++ [c])) (b2 : Bd3 (os ++ [d])) (hr : RelOk rel) (hne : rel ≠ Str.ofString "=") (hd : dueB rel ws os c d = due)
    (h : TightR kind (canonT fun x => coefF ws c x - coefF os d x) rel (coefF os d 0 - coefF ws c 0) ts1 rel1 p1 q1) (h' : TightR kind ((canonT fun x => coefF ws c x - coefF os d x).map negT) (negRel rel) (coefF ws c 0 - coefF os d 0) ts2 rel2 p2 q2) (row : RowAt T rb ts2 rel2 p2 q2) : OtherOk T (.ref rb) kind ns rel ts1 rel1 p1 q1 due := by
  have hW := canon_whole (D := fun x => coefF ws c x - coefF os d x) fun x => by have := coef_bd b1 x;have := coef_bd b2 x;omega
  have e : coefF ws c 0 - coefF os d 0 = -(coefF os d 0 - coefF ws c 0) := by omega
  have h2 := h'
  rw [e] at h2
  refine x0_2 (tight_pair hk h h2 hW hr hne) ?_
  rintro rfl
  intro hp
  subst hd
  exact .inr ⟨hne,rb,rel2,p2,q2,rfl,row,hp,row_false hn l1 l2 b1 b2 hr hne h'⟩
theorem all_snoc {P : Int → Prop} {ps : List Int} {y : Int} (h : ∀ x ∈ ps,P x) (hy : P y) : ∀ x ∈ ps ++ [y],P x := fun x hx => by
  rcases List.mem_append.mp hx with hx | hx
  · exact h x hx
  · rw [List.mem_singleton.mp hx];exact hy
theorem ns_nodup {ts : List TRec} {kind : Int} {ns : List Int} (h : NsOk ts kind ns) : ns.Nodup := by
  rcases h.1 with e | e <;> rw [e] <;> decide
theorem valP_bd {ps : List Int} (h : ∀ x ∈ ps,-24 ≤ x ∧ x ≤ 24) (x : Int) : -24 ≤ valP ps x ∧ valP ps x ≤ 24 := by
  have hg : ∀ i,-24 ≤ ps.getD i 0 ∧ ps.getD i 0 ≤ 24 := fun i => by
    rw [List.getD_eq_getElem?_getD]
    cases e : ps[i]? with
    | none => simp
    | some y => exact h y (List.mem_of_getElem? e)
  unfold valP
  split
  · exact hg 0
  · split
    · exact hg 1
    · omega
theorem menu3 {prog : Program} {w : World} {A : Around} {E : Value → Shared → Prop} {s : Shared} {h₀ : Heap} {L l : Addr} {led : Led} {n : Nat} {i : Int} {u a b c : Tok} {Q : Value → Shared → Prop} {value slice : Expr} (N : News h₀ L s.heap led) (hm : (l,listOf #[.str (Str.ofString "<=") a,.str (Str.ofString "<") b,.str (Str.ofString "=") c] n) ∈ led) (h0 : 0 ≤ i) (h3 : i < 3)
    (h : ∀ rel t,RelOk rel → Q (.str rel t) s) (hs : ∀ j : Int,subscripted slice false (.ref l) (.int j u) = operate [.ref l,.int j u] (getItem (.ref l) (.int j u))) : wpAny (model prog w) A (subscriptTail value slice (.ref l) (.int i u)) Q E s := by
  rcases three_cases h0 h3 with rfl | rfl | rfl
  · exact item_led (i := 0) (xs := [_,_,_]) N hm rfl (by omega) (h _ _ (.inr (.inl rfl))) (hs _)
  · exact item_led (i := 1) (xs := [_,_,_]) N hm rfl (by omega) (h _ _ (.inl rfl)) (hs _)
  · exact item_led (i := 2) (xs := [_,_,_]) N hm rfl (by omega) (h _ _ (.inr (.inr rfl))) (hs _)
theorem apart_of {ms led : Led} (h : ∀ q ∈ led,AllNe q.1 ms) : ∀ p ∈ ms,∀ q ∈ led,q.1 ≠ p.1 := fun _ hp q hq => Ne.symm ((h q hq).get hp)
theorem ns_pos {ts : List TRec} {kind : Int} {ns : List Int} (h : NsOk ts kind ns) : (ns.length = 1 ∨ ns.length = 2) ∧ ∀ k ∈ ns,1 ≤ k ∧ ∃ d,ts[k.toNat]? = some (varR kind d) := by
  refine ⟨?_,fun k hk => ⟨?_,h.2 k hk⟩⟩
  · rcases h.1 with e | e
    · rw [e];exact .inl rfl
    · rw [e];exact .inr rfl
  · rcases h.1 with e | e <;> rw [e] at hk <;> simp at hk <;> omega
section
theorem g38.on38 : True := trivial
open g38
theorem set_69 : True := by
  k_with "!getAttr ref" => ((fail_if_success(fail_if_success have:=on38));(k_here;(with_reducible show wpAny _ _ (getAttr (Value.ref _) (Str.ofString "true_number") _) _ _ _);k_dflt (refine' get_own ?q9k1 ?q9k2 ?q9k3 ?q9k4 ?q9k5 ?q9k6 ?q9k7 ?q9k8 ?q9k9 ?_;(case q9k1 => k_asm);(case q9k2 => k_asm);(case q9k3 => k_inst);(case q9k4 => k_is);(case q9k5 => k_is);(case q9k6 => k_is);(case q9k7 => k_is);(case q9k8 => assumption);(case q9k9 => k_handed);k_whole)))
  exact trivial
theorem true_use {B : BkA} {ts : List TRec} {BL : Led} (Z : Sit w dp un cs outer A₀ base h₀ L m mean mg mb s all 1 20) (hB : Bk w B ts BL) (hX : BankX B.es) (hs : ∀ p ∈ BL,p ∈ all)
    (ret : ∀ t h' tk',Fr h₀ L h' m → News h₀ L h' all → Q (.int 1 t) { s with heap := h',toks := tk' }) :
    wpAny (model PG w) (ktrTop dp un gd cn cs L a₁ ccd ce outer) (call (.ref 336) [.ref B.b]) Q E s := by
  apply bx;simp(disch:=k_dflt(
  obtain ⟨Bl,F,X,N,T,hk,hd,hu⟩ := Z
  refine x0_3 hB.own ?_;(try clear hB.own)
  intro i1 i2 i3
  have i1 := hs _ i1
  have i2 := hs _ i2
  refine x1_1 hX.tr ?_;(try clear hX.tr)
  intro ttr f4
  k_dflt (apply call_at (binds := [(Str.ofString "self",Value.ref B.b)]));k_extra "H:o_rest"
  k_steps
  exact ret _ _ _ (by assumption) (by assumption)
  ))only[↓bx_eq]
end
section
open LCg LCp
theorem g39.on39 : True := trivial
open g39
theorem set_70 : True := by
  k_with "!call ref" => ((fail_if_success(fail_if_success have:=on39));(k_here;(with_reducible show wpAny _ _ (call (Value.ref 551) _) _ _ _);refine stop_at ?_))
  k_with "!call ref" => ((fail_if_success(fail_if_success have:=on39));(k_here;(with_reducible show wpAny _ _ (call (Value.ref 558) _) _ _ _);refine stop_at ?_))
  k_with "!call ref" => ((fail_if_success(fail_if_success have:=on39));(k_here;(with_reducible show wpAny _ _ (call (Value.ref 427) _) _ _ _);refine stop_at ?_))
  k_with "!call ref" => ((fail_if_success(fail_if_success have:=on39));(k_here;(with_reducible show wpAny _ _ (call (Value.ref 336) _) _ _ _);refine stop_at ?_))
  k_with "!call ref" => ((fail_if_success(fail_if_success have:=on39));(k_here;(with_reducible show wpAny _ _ (call (Value.ref 824) _) _ _ _);refine stop_at ?_))
  k_with "!call ref" => ((fail_if_success(fail_if_success have:=on39));(k_here;(with_reducible show wpAny _ _ (call (Value.ref 882) _) _ _ _);refine stop_at ?_))
  k_with "!call ref" => ((fail_if_success(fail_if_success have:=on39));(k_here;(with_reducible show wpAny _ _ (call (Value.ref 877) _) _ _ _);refine stop_at ?_))
  k_with "!call ref" => ((fail_if_success(fail_if_success have:=on39));(k_here;(with_reducible show wpAny _ _ (call (Value.ref 857) _) _ _ _);refine stop_at ?_))
  k_with "!call type:zip" => ((fail_if_success(fail_if_success have:=on39));(k_here;refine stop_at ?_))
  k_with "!call type:dict" => ((fail_if_success(fail_if_success have:=on39));(k_here;refine stop_at ?_))
  k_with "!getAttr ref" => ((fail_if_success(fail_if_success have:=on39));(k_here;k_dflt (refine' PySem.W.kbm_bound ?q9k1 ?q9k2 ?q9k3 ?q9k4 ?q9k5 ?q9k6 ?q9k7 ?q9k8 ?q9k9 ?q9k10 ?q9k11 ?q9k12 ?_;(case q9k4 => k_inst);(case q9k1 => k_asm);(case q9k2 => k_asm);(case q9k7 => k_is);(case q9k3 => k_asm);(case q9k5 => k_is);(case q9k6 => k_is);(case q9k8 => k_is);(case q9k9 => k_is);(case q9k10 => k_is);(case q9k11 => decide +kernel);(case q9k12 => exact BankX.nm (by assumption) _ (by decide +kernel));k_whole);intro _ _ _ _ q9l1;(try k_lt q9l1);(try k_sweep);(try dsimp only)))
  k_with "!call ref" => ((fail_if_success(fail_if_success have:=on39));(k_here;(with_reducible show wpAny _ _ (call (Value.ref 687) _) _ _ _);refine stop_at ?_))
  k_with "!call ref" => ((fail_if_success(fail_if_success have:=on39));(k_here;(with_reducible show wpAny _ _ (call (Value.ref 872) _) _ _ _);refine stop_at ?_))
  k_with "!eval ListComp" => ((fail_if_success(fail_if_success have:=on39));(k_here;k_dflt (refine LCg.ListComp_U (F₀ := by k_asm) (by with_unfolding_all rfl) (by decide) (by rfl) (by decide) (by rfl) ?_)))
  k_with "!CompSrc" => ((fail_if_success(fail_if_success have:=on39));(k_here;refine stop_at ?_))
  k_with "!getMethod ref" => ((fail_if_success(fail_if_success have:=on39));(k_here;(with_reducible show wpAny _ _ (getMethod (Value.ref _) _ _) _ _ _);k_dflt (refine' method_inst ?q9k1 ?q9k2 ?q9k3 ?q9k4 ?q9k5 ?q9k6 ?q9k7 ?_;(case q9k1 => k_asm);(case q9k2 => k_asm);(case q9k3 => k_inst);(case q9k4 => k_is);(case q9k5 => k_is);(case q9k6 => k_is);(case q9k7 => with_reducible assumption);k_whole)))
  k_with "!CompEnd" => ((fail_if_success(fail_if_success have:=on39));(refine stop_at ?_))
  exact trivial
inductive AtomC691 (g₁ : Heap) (L₁ : Addr) (oF : Obj) (w : World) (s : Shared) (fd : Addr) (cl : Addr) (vs : List Value) (n : Nat) (sp : Int) (s' : Shared) : Prop
  | mk (h' : Heap) (tk' : Nat) (m' : Mp) (B : BkA) (f1 f2 f3 : Addr) (BL : Led) (kind : Int) (tkk : Tok) (o' oK oB : Obj) (cc1 : s' = { s with heap := h',toks := tk' }) (cc2 : Fr g₁ L₁ h' m') (cc3 : News g₁ L₁ h' ((L₁ + 1 + 1 + 1,oK) :: (L₁ + 1 + 1,oB) :: (L₁ + 1,oF) :: (fd,o') :: (cl,listOf vs.toArray n) :: (f1,listOf #[] 0) :: (f2,listOf #[] 0) :: (f3,listOf #[] 0) :: BL)) (cc4 : oK.data = .cell (some (.int kind tkk))) (cc5 : oB.data = .cell (some (.ref B.b))) (cc6 : Feed w cl (sp + 1) o') (cc7 : (kind = 1 ∨ kind = 2)) (cc8 : Bk w B [rec0,trueR,⟨Str.ofString "false",[],0,.int 0⟩] BL) (cc9 : BankX B.es) (cc10 : BankF B.es f1 f2 f3) (cc11 : (∀ nm ∈ methNames,getL nm B.es = some none)) (cc12 : (∀ q ∈ BL,AllNe q.1 [(f1,tup []),(f2,tup []),(f3,tup [])])) (cc13 : AllNe f1 [(f2,tup []),(f3,tup [])]) (cc14 : f2 ≠ f3) (cc15 : ∀ q ∈ (f1,listOf #[] 0) :: (f2,listOf #[] 0) :: (f3,listOf #[] 0) :: BL,AllNe q.1 [(L₁ + 1 + 1 + 1,tup []),(L₁ + 1 + 1,tup []),(L₁ + 1,tup []),(fd,tup []),(cl,tup [])]) : AtomC691 g₁ L₁ oF w s fd cl vs n sp s'
inductive AtomC692 (g₁ : Heap) (L₁ : Addr) (oF : Obj) (sa : Addr) (wa : Addr) (oa : Addr) (xs : List Value) (wl : List Value) (ol : List Value) (nx : Nat) (nw : Nat) (no : Nat) (oK4 : Obj) (oB4 : Obj) (o4 : Obj) (B : BkA) (ts : List TRec) (kind : Int) (ns : List Int) (P1 : Nat) (P2 : Nat) (rel : Str) (tr : Tok) (w : World) (s : Shared) (fd : Addr) (cl : Addr) (vs : List Value) (n : Nat) (s' : Shared) : Prop
  | mk (h' : Heap) (tk' : Nat) (m' : Mp) (ts2 : List TRec) (BL2 : Led) (k : Nat) (tk : Tok) (cc1 : s' = { s with heap := h',toks := tk' }) (cc2 : Fr g₁ L₁ h' m') (cc3 : (m' (Str.ofString "relation") = some (.str rel tr) ∧ m' (Str.ofString "some") = some (.ref sa) ∧ m' (Str.ofString "wide") = some (.ref wa) ∧ m' (Str.ofString "others") = some (.ref oa) ∧ m' (Str.ofString "atom") = some (.int (k : Int) tk))) (cc4 : News g₁ L₁ h' ((sa,listOf xs.toArray nx) :: (wa,listOf wl.toArray nw) :: (oa,listOf ol.toArray no) :: (L₁ + 1 + 1 + 1,oK4) :: (L₁ + 1 + 1,oB4) :: (L₁ + 1,oF) :: (fd,o4) :: (cl,listOf vs.toArray n) :: BL2)) (cc5 : BankS w B ts2 BL2 kind ns) (cc6 : Grow 1 ts ts2) (cc7 : AtomK ts2 k rel P1 P2) (cc8 : ∀ q ∈ BL2,AllNe q.1 [(sa,tup []),(wa,tup []),(oa,tup []),(L₁ + 1 + 1 + 1,tup []),(L₁ + 1 + 1,tup []),(L₁ + 1,tup []),(fd,tup []),(cl,tup [])]) : AtomC692 g₁ L₁ oF sa wa oa xs wl ol nx nw no oK4 oB4 o4 B ts kind ns P1 P2 rel tr w s fd cl vs n s'
inductive AtomC693 (g₁ : Heap) (L₁ : Addr) (oF : Obj) (sa : Addr) (wa : Addr) (oa : Addr) (xs : List Value) (wl : List Value) (ol : List Value) (nx : Nat) (nw : Nat) (no : Nat) (oK4 : Obj) (oB4 : Obj) (o4 : Obj) (kind : Int) (ns : List Int) (ws : List Int) (os : List Int) (c : Int) (d : Int) (rel : Str) (tr : Tok) (s : Shared) (fd : Addr) (cl : Addr) (vs : List Value) (n : Nat) (s' : Shared) : Prop
  | mk (h' : Heap) (tk' : Nat) (m' : Mp) (T : Led) (ra : Addr) (v : Value) (ts1 : List Term3) (rel1 : Str) (p1 q1 : Int) (cc1 : s' = { s with heap := h',toks := tk' }) (cc2 : Fr g₁ L₁ h' m') (cc3 : (m' (Str.ofString "relation") = some (.str rel tr) ∧ m' (Str.ofString "some") = some (.ref sa) ∧ m' (Str.ofString "wide") = some (.ref wa) ∧ m' (Str.ofString "others") = some (.ref oa) ∧ m' (Str.ofString "row") = some (.ref ra) ∧ m' (Str.ofString "other") = some v)) (cc4 : News g₁ L₁ h' ((sa,listOf xs.toArray nx) :: (wa,listOf wl.toArray nw) :: (oa,listOf ol.toArray no) :: (L₁ + 1 + 1 + 1,oK4) :: (L₁ + 1 + 1,oB4) :: (L₁ + 1,oF) :: (fd,o4) :: (cl,listOf vs.toArray n) :: T)) (cc5 : RowAt T ra ts1 rel1 p1 q1) (cc6 : RowG kind ns ts1 rel1 p1 q1 (dueB rel ws os c d)) (cc7 : OtherOk T v kind ns rel ts1 rel1 p1 q1 (dueB rel ws os c d)) (cc8 : ∀ q ∈ T,AllNe q.1 [(sa,tup []),(wa,tup []),(oa,tup []),(L₁ + 1 + 1 + 1,tup []),(L₁ + 1 + 1,tup []),(L₁ + 1,tup []),(fd,tup []),(cl,tup [])]) : AtomC693 g₁ L₁ oF sa wa oa xs wl ol nx nw no oK4 oB4 o4 kind ns ws os c d rel tr s fd cl vs n s'
inductive AtomC695 (g₁ : Heap) (L₁ : Addr) (kind : Int) (ns : List Int) (i : Nat) (t : Tok) (m : Mp) (I : Addr) (it : Obj) (T' : Led) (sp' : Int) (w : World) (s : Shared) (fd : Addr) (cl : Addr) (s' : Shared) : Prop
  | mk (h' : Heap) (tk' : Nat) (pa : Addr) (pl : List Value) (ps : List Int) (np : Nat) (o2 : Obj) (cc1 : s' = { s with heap := h',toks := tk' }) (cc2 : Fr g₁ L₁ h' (fun y => if y = Str.ofString "point" then some (.ref pa) else if y = Str.ofString "turn" then some (.int (i : Int) t) else m y)) (cc3 : News g₁ L₁ h' ((pa,listOf pl.toArray np) :: (I,it) :: (fd,o2) :: T')) (cc4 : IntsAre pl ps) (cc5 : ps.length = ns.length) (cc6 : (∀ x ∈ ps,-24 ≤ x ∧ x ≤ 24)) (cc7 : (kind = 1 → ∀ x ∈ ps,∃ z,x = 6 * z)) (cc8 : Feed w cl (sp' + (ns.length : Int)) o2) (cc9 : AllNe pa ((I,it) :: (fd,o2) :: T')) : AtomC695 g₁ L₁ kind ns i t m I it T' sp' w s fd cl s'
theorem set_71 : True := by
  k_with "!subscriptTail" => ((fail_if_success(fail_if_success have:=on39));(k_here;(with_reducible show wpAny _ _ (subscriptTail _ _ (Value.ref _) (Value.str _ _)) _ _ _);k_dflt (refine' kdt_tail (knd := PySem.strKind _ _) ?q9xa ?q9xb ?q9xc ?_;(case q9xa => k_asm);(case q9xc => assumption);(case q9xb => k_mem);k_whole)))
  k_with "!getItem ref str" => ((fail_if_success(fail_if_success have:=on39));(k_here;k_dflt (refine' kdt_getItem (knd := PySem.strKind _ _) ?q9xa ?q9xb ?q9xc ?q9xk ?q9xl ?_;(case q9xa => k_asm);(case q9xc => assumption);(case q9xb => k_mem);(case q9xk => exact strKind_is _ _ _ _);(case q9xl => rfl);k_whole)))
  exact trivial
theorem atom_spec (w : World) {fd cl : Addr} {o : Obj} {vs : List Value} {n : Nat} {sp : Int} (hc : Cells fd vs) (hf : Feed w cl sp o) (hs : 0 ≤ sp) (hs2 : sp ≤ 800) :
    Spec w 887 [.ref fd] 24 1200 [(fd,o),(cl,listOf vs.toArray n)] fun r led' => ∃ (o' : Obj) (sp' : Int),r = .bool true ∧ Feed w cl sp' o' ∧ sp ≤ sp' ∧ sp' ≤ sp + 40 ∧ (fd,o') ∈ led' ∧ (cl,listOf vs.toArray n) ∈ led' := by
  apply bx;simp(disch:=k_dflt(
  unfold Spec
  intro dp un gd cn cs a₁ ccd ce outer A₀ base h₀ L m mean mg mb s Q E B F X N T hk hd hu hret
  have hne : cl ≠ fd := by
    refine x1_1 hf ?_;(try clear hf)
    intro t hf
    exact dict_ne N (.head _) (.tail _ (.head _)) hf
  k_dflt (apply call_atC (binds := [(Str.ofString "feed",Value.ref fd)]));k_extra "H:ktr_rest"
  rename_i g₁ L₁ h₁ tk₁ FG₁ F₁ X₁ T₁ z₁ oK oB oF dK dB dF
  with_reducible refine execs_cutS 1 (AtomC691 g₁ L₁ oF w s fd cl vs n sp) ?cut1 ?cut2
  case cut1 =>
    dsimp only [List.take]
    (try k_fold)
    k_steps
    refine stop_go ?_
    (try k_extra "H:folds")
    k_dflt (refine' (bank_new w).use ?S sub_nil ?_;(case S => exact ⟨by k_asm,by k_asm,by k_asm,by k_asm,by k_asm,by first | exact rfl | assumption,by ktr_room,by ktr_units⟩))
    intro r5 led5 h5 tk5 F5 A5 zq1
    obtain ⟨B,f1,f2,f3,BL,rfl,rfl,hB,hX,hF,hm,off3,d1,d2⟩ := zq1
    refine x0_2 (A5.frame N₁ (fun p hp q hq => nomatch hq)) ?_
    intro N5 d5
    dsimp only [List.cons_append,List.nil_append] at N5
    have off5 : ∀ q ∈ (f1,listOf #[] 0) :: (f2,listOf #[] 0) :: (f3,listOf #[] 0) :: BL,AllNe q.1 [(L₁ + 1 + 1 + 1,oK),(L₁ + 1 + 1,oB),(L₁ + 1,oF),(fd,o),(cl,listOf vs.toArray n)] := fun q hq => allNe_of fun p hp => Ne.symm (d5 p hp q hq)
    clear A5 d5
    generalize hT5 : (f1,listOf #[] 0) :: (f2,listOf #[] 0) :: (f3,listOf #[] 0) :: BL = T5 at N5 off5
    k_steps
    subst hT5
    rename News _ _ _ _ => N8
    refine stop_go ⟨rfl,_,_,_,B,f1,f2,f3,BL,_,_,_,_,_,rfl,by assumption,(fun p hp => N8 p (.tail _ (.tail _ hp))),by assumption,by assumption,by assumption,getD_kind (by assumption) (by assumption),hB,hX,hF,hm,off3,d1,d2,fun q hq => off5 q hq⟩
  case cut2 =>
    intro sCut hCut
    (try k_fold)
    obtain ⟨h2,tk2,m2,B,f1,f2,f3,BL,kind,tkk,o2,oK2,oB2,rfl,F2,N2,dK2,dB2,hf2,hkk,hB,hX,hF,hm,off3,d1,d2,off⟩ := hCut
    dsimp only [List.drop]
    (try k_fold)
    with_reducible refine execs_cutS 1 (AtomB w fd cl (L₁ + 1 + 1 + 1) (L₁ + 1 + 1) (L₁ + 1) vs n sp oF g₁ L₁ s) ?cut3 ?cut4
    case cut3 =>
      dsimp only [List.take]
      (try k_fold)
      k_steps
      refine stop_go ?_
      (try k_extra "H:folds")
      rename Obj => o3
      rename Int => i3
      rename IsRange _ _ _ _ _ _ _ _ => hr3
      rename Fr _ _ _ _ => F3
      rename News _ _ _ _ => N3
      rename (_ : Int) < 2 => hi2
      rename (0 : Int) ≤ _ => hi0
      refine LCg.CompSrc.range (n := Int.toNat (1 + i3)) rfl F3 N3 hr3 (range_small (by omega) (by omega)) (range_size (by omega)) (by rw [sizeLine_eq];omega) fun g => ?_
      refine (let H5 : Led := [(L₁ + 1 + 1 + 1,oK2),(L₁ + 1 + 1,oB2),(L₁ + 1,oF),(fd,o3),(cl,listOf vs.toArray n)];?_)
      refine comp_inv0 (fun l₀ => SomeJ w B kind f1 f2 f3 H5) ?start ?step ?fin
      case start =>
        refine ⟨[],[],[],0,0,0,BL,rfl,rfl,rfl,rfl,hB,off3,fun p hp q hq => ?_,.nil⟩
        have := off q hq
        simp +zetaDelta only [List.mem_cons,List.not_mem_nil,or_false] at hp
        rcases hp with rfl | rfl | rfl | rfl | rfl
        · exact Ne.symm this.1
        · exact Ne.symm this.2.1
        · exact Ne.symm this.2.2.1
        · exact Ne.symm this.2.2.2.1
        · exact Ne.symm this.2.2.2.2.1
      case step =>
        intro i ys led v hi9 zq2
        obtain ⟨x1,x2,x3,k1,k2,k3,BL2,rfl,e1,e2,e3,hB2,off4,dj,hys⟩ := zq2
        intro hv9 I oI C oC D m₂ h tk E' hC hx F4 N4 off9 ne9
        (try k_extra "H:fold")
        refine x0_3 hB2.own ?_;(try clear hB2.own)
        intro i1 i2 i3'
        refine x1_1 hv9 ?_;(try clear hv9)
        intro t9
        rintro rfl
        have i9 : i < 2 := by omega
        have mk2 : getL (Str.ofString "fresh_const") B.es = some none := hm _ (by decide +kernel)
        (try dsimp only [List.cons_append,List.nil_append] at N4)
        k_steps
        k_dflt (refine fresh_use (BL := BL2) (ts := recs0 kind i) (x1 := x1) (x2 := x2) (x3 := x3) (k1 := k1) (k2 := k2) (k3 := k3) ⟨by k_asm,by k_asm,by k_asm,fun p hp => N4 p (.tail _ (.tail _ (.tail _ (.tail _ (.tail _ (.tail _ (.tail _ (.tail _ hp)))))))),by k_asm,by first | exact rfl | assumption,by ktr_room,by ktr_units⟩ hB2 hF hm off4 d1 d2 (by omega) (by omega) (by omega) (by rw [recs0_len];omega) (by rw [e1];exact recs0_fresh kind i) ?_)
        intro t10 BL3 x1' x2' x3' k1' k2' k3' h5 tk5 F5 A5 q1 q2 q3 hB3 off5
        refine x0_2 (A5.frame (ms := (I,oI) :: (C,oC) :: (D,lst ys) :: H5) (fun p hp => N4 p (List.mem_append_left _ hp)) (some_frame off9 dj)) ?_
        intro N5 d5
        rw [e1,recs0_succ] at hB3
        rw [recs0_len]
        clear N4
        k_steps
        refine stop_go ?_
        (try k_extra "H:folds")
        refine LCg.CompEnd.intro (by assumption) N5 _ (fun p hp => hp) ?off (trivial) ⟨x1',x2',x3',k1',k2',k3',BL3,rfl,by omega,by omega,by omega,hB3,off5,fun p hp q hq => d5 p (.tail _ (.tail _ (.tail _ hp))) q hq,vars0_succ i ▸ hys.append (.cons _ _ .nil)⟩
        refine off3_of fun p hp => ?_
        rcases List.mem_append.mp hp with hp | hp
        · exact off9.mem p (List.mem_append_left _ hp)
        · exact ⟨d5 _ (.head _) p hp,d5 _ (.tail _ (.head _)) p hp,d5 _ (.tail _ (.tail _ (.head _))) p hp⟩
      case fin =>
        intro ys led zq3
        obtain ⟨x1,x2,x3,k1,k2,k3,BL2,rfl,e1,e2,e3,hB2,off4,dj,hys⟩ := zq3
        k_steps
        rename News _ _ _ _ => Nd
        rename Fr _ _ _ _ => Fe
        rename Off1 _ _ => oe
        have hN : Int.toNat (1 + i3) = 1 ∨ Int.toNat (1 + i3) = 2 := by omega
        have oe' := off1_allNe oe
        refine stop_go ⟨rfl,_,_,_,B,recs0 kind (Int.toNat (1 + i3)),BL2,_,ys,ys.length,vars0 (Int.toNat (1 + i3)),kind,tkk,o3,oK2,oB2,rfl,Fe,if_pos rfl,fun p hp => Nd p ?_,dK2,dB2,by rw [show sp + 2 = sp + 1 + 1 from by omega];assumption,bank0 hB2 hX hkk hN,hys,by rw [recs0_len];omega,fun q hq => ?_,⟨oe'.1,oe'.2.1,oe'.2.2.1,oe'.2.2.2.1,oe'.2.2.2.2.1,trivial⟩⟩
        · exact pick_some hp
        · have g := dj
          refine ⟨Ne.symm (oe'.get (o := q.2) (List.mem_append_right _ (.tail _ (.tail _ (.tail _ hq))))),Ne.symm (dj _ (.head _) q (.tail _ (.tail _ (.tail _ hq)))),Ne.symm (dj _ (.tail _ (.head _)) q (.tail _ (.tail _ (.tail _ hq)))),Ne.symm (dj _ (.tail _ (.tail _ (.head _))) q (.tail _ (.tail _ (.tail _ hq)))),Ne.symm (dj _ (.tail _ (.tail _ (.tail _ (.head _)))) q (.tail _ (.tail _ (.tail _ hq)))),Ne.symm (dj _ (.tail _ (.tail _ (.tail _ (.tail _ (.head _))))) q (.tail _ (.tail _ (.tail _ hq)))),trivial⟩
    case cut4 =>
      intro sCut hCut
      (try k_fold)
      obtain ⟨h3,tk3,m3,B,ts,BL,sa,xs,nx,ns,kind,tkk,o3,oK3,oB3,rfl,F3,ms3,N3,dK3,dB3,hf3,S,hxs,hlen,off,offs⟩ := hCut
      clear N2 F2 dK2 dB2 hf2 hB hX hF hm off3 d1 d2
      revert N3
      refine led6 ?_
      intro T6 y1 y2 y3 y4 y5 y6 N3
      dsimp only [List.drop]
      (try k_fold)
      with_reducible refine execs_cutS 3 (AtomC w fd cl (L₁ + 1 + 1 + 1) (L₁ + 1 + 1) (L₁ + 1) vs n sp oF g₁ L₁ s) ?cut5 ?cut6
      case cut5 =>
        dsimp only [List.take]
        (try k_fold)
        refine x0_2 (ns_pos S.ns) ?_
        intro hl hv
        k_steps
        refine stop_go ?_
        (try k_extra "H:folds")
        rename News _ _ _ _ => N4
        k_dflt (refine' (side_spec w (B := B) (ts := ts) (kind := kind) (ns := ns) (n := n) (nx := nx) (vs := vs) (xs := xs) (BL := BL) hc hf3 (by omega) (by omega) S.bk S.bx hxs hl S.kk hv S.wf (by omega) (fun q hq => ⟨(off q hq).2.2.2.2.1,(off q hq).2.2.2.2.2.1,(off q hq).1,trivial⟩) (Ne.symm offs.2.2.2.1) hne).use ?S ?zhsub ?_;(case S => exact ⟨by k_asm,by k_asm,by k_asm,by k_asm,by k_asm,by first | exact rfl | assumption,by ktr_room,by ktr_units⟩))
        case zhsub => exact sub_cons (by k_mem) (sub_cons (by k_mem) (sub_cons (by k_mem) (fun p hp => .tail _ (.tail _ (.tail _ (.tail _ (.tail _ (.tail _ hp))))))))
        intro r5 led5 h5 tk5 F5 A5 zq4
        obtain ⟨ra,wa,P1,tP,ts1,BL1,wl,ws,nw,c,o5,rfl,rfl,hf5,hwl,hwn,hwb,hB1,hT1,hG1,hw1,hS1,off1,offw,offr⟩ := zq4
        refine x0_2 (A5.frame (ms := [(L₁ + 1 + 1 + 1,oK3),(L₁ + 1 + 1,oB3),(L₁ + 1,oF)]) (fun p hp => N4 p (.tail _ (List.mem_append_left _ hp))) (apart_of (List.forall_mem_cons.mpr ⟨⟨by k_ne,by k_ne,by k_ne,trivial⟩,List.forall_mem_cons.mpr ⟨⟨by k_ne,by k_ne,by k_ne,trivial⟩,List.forall_mem_cons.mpr ⟨⟨offs.1,offs.2.1,offs.2.2.1,trivial⟩,fun q hq => ⟨(off q hq).2.1,(off q hq).2.2.1,(off q hq).2.2.2.1,trivial⟩⟩⟩⟩))) ?_
        intro N5 d5
        dsimp only [List.cons_append,List.nil_append] at N5
        have S1 := S.grow hB1 hG1 hw1
        have hlen1 := hG1.2
        refine x0_2 (ns_pos S1.ns) ?_
        intro _ hv1
        clear A5 N4
        k_steps
        refine stop_go ?_
        (try k_extra "H:folds")
        rename News _ _ _ _ => N6
        k_dflt (refine' (side_spec w (B := B) (ts := ts1) (kind := kind) (ns := ns) (n := n) (nx := nx) (vs := vs) (xs := xs) (BL := BL1) hc hf5 (by omega) (by omega) S1.bk S1.bx hxs hl S1.kk hv1 S1.wf (by omega) (fun q hq => ⟨(off1 q hq).1,(off1 q hq).2.1,(off1 q hq).2.2.1,trivial⟩) (Ne.symm offs.2.2.2.1) hne).use ?S ?hsub2 ?_;(case S => exact ⟨by k_asm,by k_asm,by k_asm,by k_asm,by k_asm,by first | exact rfl | assumption,by ktr_room,by ktr_units⟩))
        case hsub2 => exact sub_cons (by k_mem) (sub_cons (by k_mem) (sub_cons (by k_mem) (fun p hp => .tail _ (.tail _ (.tail _ (.tail _ (.tail _ (.tail _ (.tail _ (.tail _ hp))))))))))
        intro r7 led7 h7 tk7 F7 A7 zq5
        obtain ⟨rb,oa,P2,tQ,ts2,BL2,ol,os,no,d,o7,rfl,rfl,hf7,hol,hon,hob,hB2,hT2,hG2,hw2,hS2,off2,offo,offr2⟩ := zq5
        obtain ⟨N7,d7⟩ := A7.frame (ms := [(L₁ + 1 + 1 + 1,oK3),(L₁ + 1 + 1,oB3),(L₁ + 1,oF),(wa,listOf wl.toArray nw)]) (fun p hp => N6 p (by
          exact subA (by k_extra "H:sub_auto") hp)) (apart_of (List.forall_mem_cons.mpr ⟨⟨by k_ne,by k_ne,by k_ne,Ne.symm offw.1,trivial⟩,List.forall_mem_cons.mpr ⟨⟨by k_ne,by k_ne,by k_ne,Ne.symm offw.2.1,trivial⟩,List.forall_mem_cons.mpr ⟨⟨offs.1,offs.2.1,offs.2.2.1,Ne.symm offw.2.2.1,trivial⟩,fun q hq => ⟨Ne.symm (d5 _ (.head _) q (.tail _ (.tail _ (.tail _ (.tail _ (.tail _ hq)))))),Ne.symm (d5 _ (.tail _ (.head _)) q (.tail _ (.tail _ (.tail _ (.tail _ (.tail _ hq)))))),Ne.symm (d5 _ (.tail _ (.tail _ (.head _))) q (.tail _ (.tail _ (.tail _ (.tail _ (.tail _ hq)))))),(off1 q hq).2.2.2.1,trivial⟩⟩⟩⟩))
        dsimp only [List.cons_append,List.nil_append] at N7
        have S2 := S1.grow hB2 hG2 hw2
        have hlen2 := hG2.2
        clear A7 N6
        k_steps
        rename News _ _ _ _ => N9
        k_dflt (refine menu3 N9 (by k_mem) (by assumption) (by assumption) ?_ (by intro _;with_unfolding_all rfl))
        intro rel tr hrel
        k_steps
        rename News _ _ _ _ => N8
        rename Feed _ _ _ _ => hf8
        refine stop_go ⟨rfl,_,_,_,B,ts2,BL2,sa,wa,oa,xs,wl,ol,nx,nw,no,ns,ws,os,c,d,P1,P2,kind,_,tkk,_,_,tr,rel,_,oK3,oB3,rfl,by k_asm,hrel,⟨by (k_extra "H:look"),by (k_extra "H:look"),by (k_extra "H:look"),by (k_extra "H:look"),by (k_extra "H:look"),by (k_extra "H:look")⟩,fun p hp => N8 p ?_,dK3,dB3,hf8,by omega,by omega,S2,hxs,hwl,hol,⟨hS1.grow hG2,hS2,hwn,hon,hwb,hob⟩,by omega,fun q hq => ?_,?_⟩
        · exact subA (by k_extra "H:sub_auto") hp
        · exact ⟨(off2 q hq).2.2.1,Ne.symm (d7 _ (.tail _ (.tail _ (.tail _ (.head _)))) q (.tail _ (.tail _ (.tail _ (.tail _ (.tail _ hq)))))),(off2 q hq).2.2.2.1,Ne.symm (d7 _ (.head _) q (.tail _ (.tail _ (.tail _ (.tail _ (.tail _ hq)))))),Ne.symm (d7 _ (.tail _ (.head _)) q (.tail _ (.tail _ (.tail _ (.tail _ (.tail _ hq)))))),Ne.symm (d7 _ (.tail _ (.tail _ (.head _))) q (.tail _ (.tail _ (.tail _ (.tail _ (.tail _ hq)))))),(off2 q hq).1,(off2 q hq).2.1,trivial⟩
        · exact ⟨Ne.symm offs.2.2.2.1,Ne.symm offw.1,Ne.symm offo.1,by k_ne,by k_ne,by k_ne,hne,trivial⟩
      case cut6 =>
        intro sCut hCut
        (try k_fold)
        obtain ⟨h4,tk4,m4,B,ts,BL,sa,wa,oa,xs,wl,ol,nx,nw,no,ns,ws,os,c,d,P1,P2,kind,sp4,tkk,t1,t2,tr,rel,o4,oK4,oB4,rfl,F4,hrel,⟨mr,ma,mb',mc,md,me⟩,N4,dK4,dB4,hf4,s1,s2,S,hxs,hwl,hol,D,hlen,off,offd⟩ := hCut
        clear N3 F3 dK3 dB3 hf3
        revert N4
        refine ledH8 ?_
        intro H8 y1 y2 y3 y4 y5 y6 y7 y8 N4
        dsimp only [List.drop]
        (try k_fold)
        with_reducible refine execs_cutS 1 (AtomC692 g₁ L₁ oF sa wa oa xs wl ol nx nw no oK4 oB4 o4 B ts kind ns P1 P2 rel tr w s fd cl vs n) ?cut7 ?cut8
        case cut7 =>
          dsimp only [List.take]
          (try k_fold)
          apply x0_3 S.bk.own
          intro i1 i2 i3
          have hX := S.bx
          k_steps
          have dH : ∀ p ∈ H8,∀ q ∈ BL,q.1 ≠ p.1 := apart_of off
          refine x1_2 (side_rec D.s1) ?_
          intro r1 er1 es1
          refine x1_2 (side_rec D.s2) ?_
          intro r2 er2 es2
          rcases hrel with e | e | e <;> subst e
          · k_steps
            rename News _ _ _ _ => N5
            k_dflt (refine' call_meth ?m1 ?m2 ?_;(case m1 => k_asm);(case m2 => k_mem))
            k_dflt (refine lt_use (BL := BL) (ts := ts) (r1 := r1) (r2 := r2) (srt := kind) ⟨by k_asm,by k_asm,by k_asm,fun p hp => N5 p (.tail _ (.tail _ (.tail _ (.tail _ (List.mem_append_right H8 hp))))),by k_asm,by first | exact rfl | assumption,by ktr_room,by ktr_units⟩ S.bk S.bx er1 es1 er2 es2 S.kk (by omega) S.wf ?_)
            intro k tk ts2 BL2 h6 tk6 F6 A6 hB2 hT2 eat k1 hG2 hw2
            refine x0_2 (A6.frame (ms := H8) (fun p hp => N5 p (List.mem_append_right [_,_,_,_] (List.mem_append_left _ hp))) dH) ?_
            intro N6 d6
            clear N5
            k_steps
            rename News _ _ _ _ => N7
            exact stop_go ⟨rfl,_,_,_,ts2,BL2,k,_,rfl,by k_asm,⟨by (k_extra "H:look"),by (k_extra "H:look"),by (k_extra "H:look"),by (k_extra "H:look"),by (k_extra "H:look")⟩,N7,S.grow hB2 hG2 hw2,hG2,.inr ⟨_,_,eat,.inl ⟨rfl,rfl⟩⟩,fun q hq => allNe_of fun p hp => Ne.symm (apart_tup d6 p hp q hq)⟩
          · k_steps
            rename News _ _ _ _ => N5
            k_dflt (refine' call_meth ?m1 ?m2 ?_;(case m1 => k_asm);(case m2 => k_mem))
            k_dflt (refine le_use (BL := BL) (ts := ts) (r1 := r1) (r2 := r2) (srt := kind) ⟨by k_asm,by k_asm,by k_asm,fun p hp => N5 p (.tail _ (.tail _ (.tail _ (.tail _ (List.mem_append_right H8 hp))))),by k_asm,by first | exact rfl | assumption,by ktr_room,by ktr_units⟩ S.bk S.bx er1 es1 er2 es2 S.kk (by omega) S.wf ?_)
            intro k tk ts2 BL2 h6 tk6 F6 A6 hB2 hT2 eat k1 hG2 hw2
            refine x0_2 (A6.frame (ms := H8) (fun p hp => N5 p (List.mem_append_right [_,_,_,_] (List.mem_append_left _ hp))) dH) ?_
            intro N6 d6
            clear N5
            k_steps
            rename News _ _ _ _ => N7
            exact stop_go ⟨rfl,_,_,_,ts2,BL2,k,_,rfl,by k_asm,⟨by (k_extra "H:look"),by (k_extra "H:look"),by (k_extra "H:look"),by (k_extra "H:look"),by (k_extra "H:look")⟩,N7,S.grow hB2 hG2 hw2,hG2,.inr ⟨_,_,eat,.inl ⟨rfl,rfl⟩⟩,fun q hq => allNe_of fun p hp => Ne.symm (apart_tup d6 p hp q hq)⟩
          · k_steps
            rename News _ _ _ _ => N5
            k_dflt (refine' call_meth ?m1 ?m2 ?_;(case m1 => k_asm);(case m2 => k_mem))
            k_dflt (refine eq_use (BL := BL) (ts := ts) (r1 := r1) (r2 := r2) (srt := kind) ⟨by k_asm,by k_asm,by k_asm,fun p hp => N5 p (.tail _ (.tail _ (.tail _ (.tail _ (List.mem_append_right H8 hp))))),by k_asm,by first | exact rfl | assumption,by ktr_room,by ktr_units⟩ S.bk S.bx er1 es1 er2 es2 (by omega) S.wf ?_)
            intro k tk ts2 BL2 h6 tk6 F6 A6 hB2 hT2 eat hG2 hw2
            refine x0_2 (A6.frame (ms := H8) (fun p hp => N5 p (List.mem_append_right [_,_,_,_] (List.mem_append_left _ hp))) dH) ?_
            intro N6 d6
            clear N5
            k_steps
            rename News _ _ _ _ => N7
            exact stop_go ⟨rfl,_,_,_,ts2,BL2,k,_,rfl,by k_asm,⟨by (k_extra "H:look"),by (k_extra "H:look"),by (k_extra "H:look"),by (k_extra "H:look"),by (k_extra "H:look")⟩,N7,S.grow hB2 hG2 hw2,hG2,atomK_eq eat,fun q hq => allNe_of fun p hp => Ne.symm (apart_tup d6 p hp q hq)⟩
        case cut8 =>
          intro sCut hCut
          (try k_fold)
          obtain ⟨h5,tk5,m5,ts5,BL5,k,tk9,rfl,F5,⟨nr,na,nw',no',nk⟩,N5,S5,G5,hK,off5⟩ := hCut
          clear N4 F4 ma mb' mc md me mr
          replace N5 : News g₁ L₁ h5 (H8 ++ BL5) := N5
          dsimp only [List.drop]
          (try k_fold)
          have hX := S5.bx
          refine x0_3 S5.bk.own ?_;(try clear S5.bk.own)
          intro i1 i2 i3
          rcases hK with ⟨rfl,rfl,rfl⟩ | ⟨i,j,eat,hij⟩
          · have hwo := side_same D.s1 D.s2 S.ns D.l1 D.l2
            k_steps
            refine stop_go ?_
            (try k_extra "H:folds")
            k_dflt (refine true_use ⟨by k_asm,by k_asm,by k_asm,by k_asm,by k_asm,by first | exact rfl | assumption,by ktr_room,by ktr_units⟩ S5.bk S5.bx (fun p hp => List.mem_append_right H8 hp) ?_)
            intro t6 h6 tk6 F6 N6
            k_steps
            exact bool_ret (by decide +kernel) (hret _ _ _ _ (by assumption) (after_of (by assumption) (by assumption) (by assumption) (by assumption)) ⟨o4,sp4,rfl,hf4,s1,by omega,by k_mem,by k_mem⟩)
          · have hk1 : (k : Int) ≠ 1 := fun e => by
              have e : k = 1 := by omega
              subst e
              rw [S5.z1] at eat
              exact absurd (congrArg TRec.op (Option.some.inj eat)) (rel_ne_true hrel)
            with_reducible refine execs_cutS 2 (AtomC693 g₁ L₁ oF sa wa oa xs wl ol nx nw no oK4 oB4 o4 kind ns ws os c d rel tr s fd cl vs n) ?cut9 ?cut10
            case cut9 =>
              dsimp only [List.take]
              (try k_fold)
              have hlen5 := G5.2
              have dH : ∀ p ∈ H8,∀ q ∈ BL5,q.1 ≠ p.1 := apart_of off5
              k_steps
              refine stop_go ?_
              (try k_extra "H:folds")
              k_dflt (refine true_use ⟨by k_asm,by k_asm,by k_asm,by k_asm,by k_asm,by first | exact rfl | assumption,by ktr_room,by ktr_units⟩ S5.bk S5.bx (fun p hp => List.mem_append_right H8 hp) ?_)
              intro t6 h6 tk6 F6 N6
              (try dsimp only [List.cons_append,List.nil_append] at N6)
              clear N5
              have hkb : ((k : Int) == 1) = false := beq_eq_false_iff_ne.mpr hk1
              have D5 := D.grow G5
              refine x5_9 (atom_sides (rel := rel) D5 S5.wf S5.ns (by omega) hij) ?_
              intro wi oi ci di r pl1 pl2 wl1 wl2 wb1 wb2 hdue er es
              have lk : k < ts5.length := (List.getElem?_eq_some_iff.mp eat).1
              have lit := fun (hold : Bool) (t : Tok) => literal_spec w (t1 := t) (hold := hold) (kind := kind) S5.bk S5.bx (by omega) eat hrel er (by rw [es];exact S5.kk) pl1 pl2 S5.va (no_var0 S5.z0) S5.kd S5.kk (coef_400 wb1) (coef_400 wb2)
              k_steps
              refine stop_go ?_
              (try k_extra "H:folds")
              k_dflt (refine' (lit true _).use ?S ?hsa ?_;(case S => exact ⟨by k_asm,by k_asm,by k_asm,by k_asm,by k_asm,by first | exact rfl | assumption,by ktr_room,by ktr_units⟩);(case hsa => exact fun p hp => List.mem_append_right H8 hp))
              intro r7 led7 h7 tk7 F7 A7 zq6
              refine x0_2 zq6 ?_;(try clear zq6)
              intro b7 hR7
              rcases hR7 with ⟨h,_⟩ | ⟨_,ra,ts1,rel1,p1,q1,rfl,row7,tight7⟩
              · cases h
              rw [if_pos rfl,if_pos rfl,if_pos rfl] at tight7
              have g7 := row_true S5.ns.1 wl1 wl2 wb1 wb2 hrel tight7
              rw [hdue] at g7
              refine x0_2 (A7.frame (ms := H8) (fun p hp => N6 p (List.mem_append_left _ hp)) dH) ?_
              intro N7 d7
              (try dsimp only [List.cons_append,List.nil_append] at N7)
              clear N6 A7
              k_steps
              refine stop_go ?_
              (try k_extra "H:folds")
              rename News _ _ _ _ => N8
              k_dflt (refine' (lit false _).use ?S ?hsb ?_;(case S => exact ⟨by k_asm,by k_asm,by k_asm,by k_asm,by k_asm,by first | exact rfl | assumption,by ktr_room,by ktr_units⟩);(case hsb => exact fun p hp => List.mem_append_right H8 (b7 p hp)))
              intro r9 led9 h9 tk9 F9 A9 zq7
              refine x0_2 zq7 ?_;(try clear zq7)
              intro b9 hR9
              have N9 := A9.pure N8 (fun p hp => List.mem_append_right H8 (b7 p hp)) b9
              refine x0_2 (A9.frame (ms := H8) (fun p hp => N8 p (List.mem_append_left _ hp)) dH) ?_
              intro N10 d10
              have N11 : News g₁ L₁ h9 (H8 ++ (led7 ++ led9)) := fun p hp => by
                rcases List.mem_append.mp (show p ∈ H8 ++ (led7 ++ led9) from hp) with h | h
                · exact N9 p (List.mem_append_left _ h)
                · rcases List.mem_append.mp h with h | h
                  · exact N9 p (List.mem_append_right H8 h)
                  · exact A9.news p h
              have hoth : OtherOk (led7 ++ led9) r9 kind ns rel ts1 rel1 p1 q1 (dueB rel ws os c d) := by
                rcases hR9 with ⟨_,he,rfl⟩ | ⟨hne9,rb,ts2,rel2,p2,q2,rfl,row9,tight9⟩
                · exact .inl ⟨he,rfl⟩
                · have hne9 : rel ≠ Str.ofString "=" := by
                    rcases hne9 with h | h
                    · cases h
                    · exact h
                  rw [if_neg (by decide),if_neg (by decide),if_neg (by decide)] at tight9
                  exact other_of S5.kk S5.ns.1 wl1 wl2 wb1 wb2 hrel hne9 hdue tight7 tight9 (row9.mono' fun p hp => List.mem_append_right _ hp)
              have d11 : ∀ q ∈ led7 ++ led9,AllNe q.1 [(sa,tup []),(wa,tup []),(oa,tup []),(L₁ + 1 + 1 + 1,tup []),(L₁ + 1 + 1,tup []),(L₁ + 1,tup []),(fd,tup []),(cl,tup [])] := fun q hq => allNe_of fun p hp => Ne.symm (by
                rcases List.mem_append.mp hq with h | h
                · exact apart_tup d7 p hp q h
                · exact apart_tup d10 p hp q h)
              have row11 := row7.mono' (led' := led7 ++ led9) fun p hp => List.mem_append_left _ hp
              clear N8 N9 N10 A9 d7 d10 row7 hR9
              generalize led7 ++ led9 = T11 at N11 hoth d11 row11
              k_steps
              rename News _ _ _ _ => N12
              exact stop_go ⟨rfl,_,_,_,T11,ra,r9,ts1,rel1,p1,q1,rfl,by k_asm,⟨by (k_extra "H:look"),by (k_extra "H:look"),by (k_extra "H:look"),by (k_extra "H:look"),by (k_extra "H:look"),by (k_extra "H:look")⟩,fun p hp => N12 p (.tail _ hp),row11,g7,hoth,d11⟩
            case cut10 =>
              intro sCut hCut
              (try k_fold)
              obtain ⟨h6,tk6,m6,T,ra,v,ts1,rel1,p1,q1,rfl,F6,⟨nr,na,nw',no',nrow,noth⟩,N6,row6,g6,hoth,off6⟩ := hCut
              clear N5 F5 off5
              replace N6 : News g₁ L₁ h6 (H8 ++ T) := N6
              dsimp only [List.drop]
              (try k_fold)
              have off7 : ∀ q ∈ T,AllNe q.1 H8 := off6
              with_reducible refine execs_cutS 1 (fun s' => ∃ (h' : Heap) (tk' : Nat),s' = { s with heap := h',toks := tk' } ∧ Fr g₁ L₁ h' m6 ∧ News g₁ L₁ h' (H8 ++ T)) ?cut11 ?cut12
              case cut11 =>
                dsimp only [List.take]
                (try k_fold)
                rcases hoth with ⟨rfl,rfl⟩ | ⟨hne9,rb,rel2,p2,q2,rfl,row2,hp,g2⟩
                · k_steps
                  exact stop_go ⟨rfl,_,_,rfl,by k_asm,by k_asm⟩
                · have he2 : (rel == Str.ofString "=") = false := beq_eq_false_iff_ne.mpr hne9
                  have he3 : (false != (rel == Str.ofString "=")) = false := by rw [he2];rfl
                  k_steps
                  refine stop_go ?_
                  (try k_extra "H:folds")
                  rename News _ _ _ _ => N7
                  k_dflt (refine pair_use (ts := ts1) (rel := rel1) (rel2 := rel2) (bp := p1) (bq := q1) (bp2 := p2) (bq2 := q2) ⟨by k_asm,by k_asm,by k_asm,by k_asm,by k_asm,by first | exact rfl | assumption,by ktr_room,by ktr_units⟩ ⟨row6.mono' fun p hp => List.mem_append_right H8 hp,row2.mono' fun p hp => List.mem_append_right H8 hp,g6.few.1,fun t ht => ⟨(g6.few.2 t ht).1,(g6.few.2 t ht).2.1⟩,g6.bp,⟨g6.bq.1,by have := g6.bq.2;omega⟩,g2.bp,⟨g2.bq.1,by have := g2.bq.2;omega⟩,hp⟩ ?_)
                  intro h8 tk8 F8 N8
                  k_steps
                  exact stop_go ⟨rfl,_,_,rfl,by k_asm,by k_asm⟩
              case cut12 =>
                intro sCut hCut
                (try k_fold)
                refine x2_3 hCut ?_;(try clear hCut)
                intro h7 tk7
                rintro rfl
                intro F7 N7
                clear N6 F6
                dsimp only [List.drop]
                (try k_fold)
                k_steps
                refine stop_go ?_
                (try k_extra "H:folds")
                refine (let R7 : Led := (sa,listOf xs.toArray nx) :: (wa,listOf wl.toArray nw) :: (oa,listOf ol.toArray no) :: (L₁ + 1 + 1 + 1,oK4) :: (L₁ + 1 + 1,oB4) :: (L₁ + 1,oF) :: (cl,listOf vs.toArray n) :: T;?_)
                refine range_two [(fd,o4)] R7 (fun i m ms T' => ∃ (o' : Obj) (sp' : Int),ms = [(fd,o')] ∧ (∀ p ∈ R7,p ∈ T') ∧ Feed w cl sp' o' ∧ sp4 ≤ sp' ∧ sp' ≤ sp4 + 2 * (i : Int) ∧
                  m (Str.ofString "relation") = some (.str rel tr) ∧ m (Str.ofString "some") = some (.ref sa) ∧ m (Str.ofString "wide") = some (.ref wa) ∧ m (Str.ofString "others") = some (.ref oa) ∧ m (Str.ofString "row") = some (.ref ra) ∧ m (Str.ofString "other") = some v) (by assumption) (by decide) (by assumption) (by assumption) ?lsub ?loff ?lstart ?lstep ?lfin rfl
                case lsub =>
                  intro p hp
                  exact subA (by k_extra "H:sub_auto") hp
                case loff =>
                  exact List.forall_mem_cons.mpr ⟨⟨Ne.symm offd.1,trivial⟩,List.forall_mem_cons.mpr ⟨⟨Ne.symm offd.2.1,trivial⟩,List.forall_mem_cons.mpr ⟨⟨Ne.symm offd.2.2.1,trivial⟩,List.forall_mem_cons.mpr ⟨⟨Ne.symm offd.2.2.2.1,trivial⟩,List.forall_mem_cons.mpr ⟨⟨Ne.symm offd.2.2.2.2.1,trivial⟩,List.forall_mem_cons.mpr ⟨⟨Ne.symm offd.2.2.2.2.2.1,trivial⟩,List.forall_mem_cons.mpr ⟨⟨Ne.symm offd.2.2.2.2.2.2.1,trivial⟩,fun q hq => ⟨(off6 q hq).2.2.2.2.2.2.1,trivial⟩⟩⟩⟩⟩⟩⟩⟩
                case lstart => exact ⟨o4,sp4,rfl,fun p hp => hp,hf4,Int.le_refl _,by omega,nr,na,nw',no',nrow,noth⟩
                case lstep =>
                  intro I i v' t h tk m ms T' it
                  rintro rfl
                  intro hv zq8
                  refine x2_11 zq8 ?_;(try clear zq8)
                  intro o' sp'
                  rintro rfl
                  intro hT' hf' s3 s4 nr na nw' no' nrow noth
                  intro nI off8 F8 N8
                  (try dsimp only [List.cons_append,List.nil_append] at N8)
                  have c1 := hT' (sa,listOf xs.toArray nx) (by k_mem)
                  have c2 := hT' (wa,listOf wl.toArray nw) (by k_mem)
                  have c3 := hT' (oa,listOf ol.toArray no) (by k_mem)
                  have c4 := hT' (L₁ + 1 + 1 + 1,oK4) (by k_mem)
                  have c5 := hT' (L₁ + 1,oF) (by k_mem)
                  have c6 := hT' (cl,listOf vs.toArray n) (by k_mem)
                  have hT2 : ∀ p ∈ T,p ∈ T' := fun p hp => hT' p (.tail _ (.tail _ (.tail _ (.tail _ (.tail _ (.tail _ (.tail _ hp)))))))
                  with_reducible refine execs_cutS 1 (AtomC695 g₁ L₁ kind ns i t m I it T' sp' w s fd cl) ?cut13 ?cut14
                  case cut13 =>
                    dsimp only [List.take]
                    (try k_fold)
                    have F8 : Fr g₁ L₁ h _ := F8
                    have N8 : News g₁ L₁ h _ := N8
                    have hxl := hxs.length
                    have hl := (ns_pos S.ns).1
                    k_steps
                    refine stop_go ?_
                    (try k_extra "H:folds")
                    refine LCg.CompSrc.ledger (its := xs.toArray) (k := nx) (by rfl) (by k_asm) (by k_asm) (by k_mem) (by rw [List.size_toArray,sizeLine_eq];omega) fun g => ?_
                    have e1 : xs.toArray.size = ns.length := by simp [hxl]
                    rw [e1]
                    refine comp_inv0 (fun l₀ i ys led => ∃ (o2 : Obj) (ps : List Int),led = (I,it) :: (fd,o2) :: T' ∧ Feed w cl (sp' + (i : Int)) o2 ∧ IntsAre ys ps ∧ ps.length = i ∧ (∀ x ∈ ps,-24 ≤ x ∧ x ≤ 24) ∧ (kind = 1 → ∀ x ∈ ps,∃ z,x = 6 * z)) ?start2 ?step2 ?fin2
                    case start2 => exact ⟨o',[],rfl,by simpa using hf',.nil,rfl,fun x hx => (nomatch hx),fun _ x hx => (nomatch hx)⟩
                    case step2 =>
                      intro i2 ys led v2 hi9 zq9
                      refine x2_6 zq9 ?_;(try clear zq9)
                      intro o2 ps
                      rintro rfl
                      intro hf2 hps hpl hpb hp6
                      intro hv9 I2 oI2 C2 oC2 D2 m₂ h2 tk2 E' hC hx F9 N9 off9 ne9
                      refine x0_3 (id off9) ?_
                      intro _ zq10
                      refine x0_3 zq10 ?_;(try clear zq10)
                      intro f1 f2 f3
                      intro _
                      have i9 : i2 ≤ 2 := by omega
                      k_steps
                      · refine stop_go ?_
                        (try k_extra "H:folds")
                        rename News _ _ _ _ => N10
                        refine LCg.CompEnd.intro (by assumption) N10 _ (fun p hp => hp) off9 (by lcg_src) ⟨_,_,rfl,by (rw [Int.natCast_add,← Int.add_assoc];assumption),hps.append (.cons _ _ .nil),by rw [List.length_append,hpl];rfl,all_snoc hpb (by omega),fun hk => all_snoc (hp6 hk) ⟨_,Int.mul_comm ..⟩⟩
                      · refine stop_go ?_
                        (try k_extra "H:folds")
                        rename News _ _ _ _ => N10
                        refine LCg.CompEnd.intro (by assumption) N10 _ (fun p hp => hp) off9 (by lcg_src) ⟨_,_,rfl,by (rw [Int.natCast_add,← Int.add_assoc];assumption),hps.append (.cons _ _ .nil),by rw [List.length_append,hpl];rfl,all_snoc hpb (by omega),fun hk => absurd hk (by assumption)⟩
                    case fin2 =>
                      intro ys led zq11
                      refine x2_6 zq11 ?_;(try clear zq11)
                      intro o2 ps
                      rintro rfl
                      intro hf2 hps hpl hpb hp6
                      k_steps
                      rename News _ _ _ _ => Nd
                      rename (_ ∧ _ ∧ Off1 _ _) => oe
                      exact stop_go ⟨rfl,_,_,_,ys,ps,ys.length,o2,rfl,by k_asm,Nd,hps,hpl,hpb,hp6,hf2,⟨oe.1,oe.2.1,off1_allNe oe.2.2⟩⟩
                  case cut14 =>
                    intro sCut hCut
                    (try k_fold)
                    obtain ⟨h9,tk9,pa,pl,ps,np,o2,rfl,F9,N9,hps,hpl,hpb,hp6,hf2,lpa⟩ := hCut
                    clear N8 F8
                    dsimp only [List.drop]
                    (try k_fold)
                    have hl := (ns_pos S.ns).1
                    have hpll := hps.length
                    refine x5_3 (row6.mono' hT2) ?_
                    intro ta ba tr1 u1 u2 r1 r2 zq12
                    refine x1_2 zq12 ?_;(try clear zq12)
                    intro vs1 r3 r4
                    k_steps
                    refine stop_go ?_
                    (try k_extra "H:folds")
                    k_dflt (refine says_use (ws := ws) (os := os) (ps := ps) (c := c) (d := d) (rel := rel) ⟨by k_asm,by k_asm,by k_asm,by k_asm,by k_asm,by first | exact rfl | assumption,by ktr_room,by ktr_units⟩ ⟨by k_mem,by k_mem,by k_mem,hwl,hol,hps,by rw [D.l1,hpl],by rw [D.l2,hpl],by rw [hpl];exact hl,D.b1,D.b2,hpb,hrel⟩ ?_)
                    intro h10 tk10 F10 N10
                    (try dsimp only)
                    have hdue : saysB rel (dotS ws ps + 6 * c) (dotS os ps + 6 * d) = dueB rel ws os c d ps := rfl
                    have gk := g6.says ps hpl hp6
                    rw [hdue]
                    generalize hbd : dueB rel ws os c d ps = bd at gk ⊢
                    have hb1 : (bd != bd) = false := by cases bd <;> rfl
                    k_steps
                    refine stop_go ?_
                    (try k_extra "H:folds")
                    k_dflt (refine zip_led (xs := xs) (ys := pl) (by k_asm) (by k_asm) (by k_mem) (by k_mem) ?_)
                    intro I3 h11 F11 N11 Z11 lt11 ltL11 nn11
                    (try dsimp only)
                    k_steps
                    refine stop_go ?_
                    (try k_extra "H:folds")
                    k_dflt (refine dictz_led (ks := ns) (xs := xs) (ys := pl) rfl (by k_asm) (by k_asm) (by k_mem) (by k_mem) Z11 lt11 ltL11 nn11 hxs (ns_nodup S.ns) hl (by rw [hpll,hpl]) ?_)
                    intro Dt oD h12 tk12 F12 N12 ltD hdict
                    (try dsimp only)
                    k_steps
                    refine stop_go ?_
                    (try k_extra "H:folds")
                    have hvb := valP_bd hpb
                    have tabk : ∀ {ts : List Term3},(∀ k ∈ ts.map (·.1),k ∈ ns) → TabIn w oD (valP ps) ts := fun hk => tab_of S.ns.1 hdict hps hpl hk
                    rename News _ _ _ _ => N13
                    k_dflt (refine keeps_use (ra := ra) (ta := ta) (ba := ba) (rel := rel1) (bp := p1) (bq := q1) (S := sixD (valP ps) ts1) ⟨by k_asm,by k_asm,by k_asm,by k_asm,by k_asm,by first | exact rfl | assumption,by ktr_room,by ktr_units⟩ ⟨by k_mem,by k_mem,g6.rok,six_ofD ⟨⟨vs1,by k_mem,r4.mono (by intro p hp;repeat first | exact hp | refine List.mem_cons_of_mem _ ?_)⟩,g6.few,by k_mem,tabk g6.keys,hvb⟩,g6.bq⟩ ?_)
                    intro h14 tk14 F14 N14
                    (try dsimp only)
                    rw [gk]
                    clear N13
                    have fin : ∀ (h' : Heap) (tk' : Nat) (m' : Mp) (news : Led),Fr g₁ L₁ h' m' → News g₁ L₁ h' news → (I,it) ∈ news → (fd,o2) ∈ news → (∀ p ∈ T',p ∈ news) → m' (Str.ofString "relation") = some (.str rel tr) → m' (Str.ofString "some") = some (.ref sa) → m' (Str.ofString "wide") = some (.ref wa) → m' (Str.ofString "others") = some (.ref oa) → m' (Str.ofString "row") = some (.ref ra) → m' (Str.ofString "other") = some v →
                        ∀ {J : Mp → Led → Led → Prop} {Q : Flow → Shared → Prop} {s₁ : Shared},(∀ m' T9,(∀ p ∈ T',p ∈ T9) → m' (Str.ofString "relation") = some (.str rel tr) → m' (Str.ofString "some") = some (.ref sa) → m' (Str.ofString "wide") = some (.ref wa) → m' (Str.ofString "others") = some (.ref oa) → m' (Str.ofString "row") = some (.ref ra) → m' (Str.ofString "other") = some v → J m' [(fd,o2)] T9) → TurnPost g₁ L₁ s₁ I it (TwoPart J) Q .next { s₁ with heap := h',toks := tk' } := fun h' tk' m' news F N n1 n2 n3 q1 q2 q3 q4 q5 q6 J Q s₁ hj =>
                      turn_two [(fd,o2)] F N (sub_cons n1 (sub_cons n2 sub_nil)) nI fun T9 hj' => hj _ _ (fun p hp => hj' p (n3 p hp) (off8 p hp)) q1 q2 q3 q4 q5 q6
                    rcases hoth with ⟨rfl,rfl⟩ | ⟨hne9,rb,rel2,p2,q2,rfl,row2,hp,g2⟩
                    · k_steps
                      exact fin _ _ _ _ (by k_asm) (by k_asm) (by k_mem) (by k_mem) (by intro p hp;repeat first | exact hp | refine List.mem_cons_of_mem _ ?_) (by (k_extra "H:look")) (by (k_extra "H:look")) (by (k_extra "H:look")) (by (k_extra "H:look")) (by (k_extra "H:look")) (by (k_extra "H:look")) fun m' T9 hT9 q1 q2 q3 q4 q5 q6 => ⟨o2,_,rfl,fun p hp => hT9 p (hT' p hp),hf2,by omega,by omega,q1,q2,q3,q4,q5,q6⟩
                    · refine x5_3 (row2.mono' hT2) ?_
                      intro tb bb tr2 u3 u4 r5 r6 zq13
                      refine x1_2 zq13 ?_;(try clear zq13)
                      intro vs2 r7 r8
                      have gk2 := g2.says ps hpl hp6
                      have hb2 : ((!bd) == bd) = false := by cases bd <;> rfl
                      k_steps
                      refine stop_go ?_
                      (try k_extra "H:folds")
                      rename News _ _ _ _ => N15
                      k_dflt (refine keeps_use (ra := rb) (ta := tb) (ba := bb) (rel := rel2) (bp := p2) (bq := q2) (S := sixD (valP ps) (ts1.map negT)) ⟨by k_asm,by k_asm,by k_asm,by k_asm,by k_asm,by first | exact rfl | assumption,by ktr_room,by ktr_units⟩ ⟨by k_mem,by k_mem,g2.rok,six_ofD ⟨⟨vs2,by k_mem,r8.mono (by intro p hp;repeat first | exact hp | refine List.mem_cons_of_mem _ ?_)⟩,g2.few,by k_mem,tabk g2.keys,hvb⟩,g2.bq⟩ ?_)
                      intro h16 tk16 F16 N16
                      (try dsimp only)
                      rw [gk2,hbd]
                      clear N15
                      k_steps
                      exact fin _ _ _ _ (by k_asm) (by k_asm) (by k_mem) (by k_mem) (by intro p hp;repeat first | exact hp | refine List.mem_cons_of_mem _ ?_) (by (k_extra "H:look")) (by (k_extra "H:look")) (by (k_extra "H:look")) (by (k_extra "H:look")) (by (k_extra "H:look")) (by (k_extra "H:look")) fun m' T9 hT9 q1 q2 q3 q4 q5 q6 => ⟨o2,_,rfl,fun p hp => hT9 p (hT' p hp),hf2,by omega,by omega,q1,q2,q3,q4,q5,q6⟩
                case lfin =>
                  intro h tk m ms T' zq14
                  refine x2_11 zq14 ?_;(try clear zq14)
                  intro o' sp'
                  rintro rfl
                  intro hT' hf' s3 s4 nr na nw' no' nrow noth
                  intro off8 F8 N8
                  (try dsimp only [List.cons_append,List.nil_append] at N8)
                  have c6 := hT' (cl,listOf vs.toArray n) (by k_mem)
                  have s5 : sp' ≤ sp4 + 24 := s4
                  k_steps
                  exact hret _ _ _ _ (by assumption) (after_of (by assumption) (by assumption) (by assumption) (by assumption)) ⟨o',sp',rfl,hf',by omega,by omega,by k_mem,by k_mem⟩
  ))only[↓bx_eq]
end
end
section
theorem as_is : ∀ P,AS = (k0.heap_1 P).map (·.1) := fun _ => by kernel_rfl
abbrev HW : Prop := ∀ d : DefRec,defOf vw (Str.ofString "law") = some (d,[]) →
  WalkO vw LO (XL vw [(Str.ofString "MOST_BITS",WData.int 65536)]) (kHook k0.heap_1 AS as_is).says PySem.Challenge.rw_qz0025_01.row.toRowW d [] fun f vs => PySem.call f vs
section
theorem g40.on40 : True := trivial
open g40
theorem set_72 : True := by
  k_with "!call ref" => ((fail_if_success(fail_if_success have:=on40));(k_here;(with_reducible show wpAny _ _ (call (Value.ref 867) _) _ _ _);refine stop_at ?_))
  k_with "!call ref" => ((fail_if_success(fail_if_success have:=on40));(k_here;(with_reducible show wpAny _ _ (call (Value.ref 887) _) _ _ _);refine stop_at ?_))
  k_with "!pyIter ref" => ((fail_if_success(fail_if_success have:=on40));(k_here;refine stop_at ?_))
  k_with "!CompSrc" => ((fail_if_success(fail_if_success have:=on40));(k_here;refine stop_at ?_))
  k_with "!CompEnd" => ((fail_if_success(fail_if_success have:=on40));(refine stop_at ?_))
  exact trivial
local macro_rules | `(tactic| k_qdec) => `(tactic| k_extra "T:k_qdec")
theorem set_73 : True := by
  k_with "T:k_qdec" => ((fail_if_success(fail_if_success have:=on40));decide +kernel)
  exact trivial
theorem walk : HW := by
  apply bx;simp(disch:=k_dflt(
  intro d hd0
  obtain ⟨rfl⟩ : ∃ h : d = _,True := ⟨(congrArg Prod.fst (Option.some.inj hd0)).symm,trivial⟩
  k_go0
  rename World => ww
  (all_goals try k_fold)
  (try dsimp only)
  (try k_extra "H:fold2")
  k_steps
  refine stop_go ?_
  (try k_extra "H:folds")
  rename IntsAre _ (List.take _ _) => hI
  rename (List.take _ _).length = min _ _ => hC
  have hl := hI.length
  rename News _ _ _ _ => N1
  refine LCg.CompSrc.ledger (by rfl) (by k_asm) N1 (.head _) (by rw [List.size_toArray,sizeLine_eq];omega) fun g => ?_
  refine comp_inv0 (fun l₀ i ys led => led = l₀ ∧ ∃ ns : List Int,IntsAre ys ns ∧ ns.length = i) ⟨rfl,[],.nil,rfl⟩ ?step ?fin
  case step =>
    intro i ys led v hi zq1
    refine x0_2 zq1 ?_;(try clear zq1)
    rintro rfl
    intro zq2
    refine x1_2 zq2 ?_;(try clear zq2)
    intro ns hys hns
    intro hv I oI C oC D m₂ h tk E' hC hx F2 N2 off2 ne2
    (try k_extra "H:fold")
    refine x2_2 (ints_get hI (by simpa using hv)) ?_
    intro k t
    rintro rfl
    intro _
    k_steps
    refine stop_go ?_
    (try k_extra "H:folds")
    rename News _ _ _ _ => N3
    exact LCg.CompEnd.intro (by assumption) N3 _ (fun p hp => hp) off2 (by lcg_src) ⟨rfl,_,hys.append (.cons _ _ .nil),by rw [List.length_append,hns];rfl⟩
  case fin =>
    intro ys led zq3
    refine x0_2 zq3 ?_;(try clear zq3)
    rintro rfl
    intro zq4
    refine x1_2 zq4 ?_;(try clear zq4)
    intro ns hys hns
    have hnl : ns.length ≤ 63 := by rw [hns,List.size_toArray];omega
    k_steps
    refine stop_go ?_
    (try k_extra "H:folds")
    rename Obj.IsDictOf _ _ _ => hd
    rename (_ == sysModules) = false => lo
    have hc : Cells _ ys := ⟨lo,ns,hys,hnl⟩
    have hf : Feed _ _ 0 _ := ⟨_,hd⟩
    rename News _ _ _ _ => N4
    k_dflt (refine' (rowr_spec _ hc hf (by decide) (by decide)).use ?S ?zhs ?_;(case S => exact ⟨by k_asm,by k_asm,by k_asm,by k_asm,by k_asm,by first | exact rfl | assumption,by first | ktr_room | decide,by first | ktr_units | decide⟩))
    case zhs => exact sub_cons (by k_mem) (sub_cons (by k_mem) sub_nil)
    rename_i fd h4 o4 hd4 l4 D1 ws h3 hL3 l3 cl h2 tk2 o12 h1 o1 _ h0 F0 _ _
    intro r5 led5 h5 tk5 F5 A5 zq5
    refine x2_6 zq5 ?_;(try clear zq5)
    intro o5 sp5
    rintro rfl
    intro hf5 s1 s2 m1 m2
    have N5 := A5.news
    clear N4
    have hne : cl ≠ fd := by
      refine x1_1 hf5 ?_;(try clear hf5)
      intro t hf
      exact dict_ne N5 m1 m2 hf
    k_steps
    refine stop_go ?_
    (try k_extra "H:folds")
    refine range_two [(fd,o5)] [(cl,LCg.lst ys)] (fun i m ms T => ∃ (o' : Obj) (sp' : Int),ms = [(fd,o')] ∧ (cl,LCg.lst ys) ∈ T ∧ Feed ww cl sp' o' ∧ 0 ≤ sp' ∧ sp' ≤ 30 + 30 * (i : Int) ∧ m (Str.ofString "feed") = some (.ref fd)) (by assumption) (by decide) (by assumption) (by assumption) ?lsub ?loff ?lstart ?lstep ?lfin rfl
    case lsub => exact sub_cons m1 (sub_cons m2 sub_nil)
    case loff => exact List.forall_mem_singleton.mpr ⟨Ne.symm hne,trivial⟩
    case lstart => exact ⟨o5,sp5,rfl,.head _,hf5,s1,by omega,by with_unfolding_all rfl⟩
    case lstep =>
      intro I i v' t h tk m ms T it
      rintro rfl
      intro hv zq6
      refine x2_6 zq6 ?_;(try clear zq6)
      intro o' sp'
      rintro rfl
      intro hT hf' s3 s4 nf
      intro nI off F8 N8
      dsimp only [List.cons_append,List.nil_append] at N8
      k_steps
      refine stop_go ?_
      (try k_extra "H:folds")
      rename News _ _ _ _ => N9
      k_dflt (refine' (rowr_spec _ hc hf' s3 (by omega)).use ?S ?zhs ?_;(case S => exact ⟨by k_asm,by k_asm,by k_asm,by k_asm,by k_asm,by first | exact rfl | assumption,by first | ktr_room | decide,by first | ktr_units | decide⟩))
      case zhs => exact sub_cons (by k_mem) (sub_cons (by k_mem) sub_nil)
      intro r5 led6 h6 tk6 F6 A6 zq7
      refine x2_6 zq7 ?_;(try clear zq7)
      intro o6 sp6
      rintro rfl
      intro hf6 s5 s6 m3 m4
      refine x0_2 (A6.frame (ms := [(I,it)]) (fun p hp => N9 p (by rw [List.mem_singleton.mp hp];k_mem)) (apart_of (List.forall_mem_cons.mpr ⟨⟨Ne.symm nI.1,trivial⟩,List.forall_mem_singleton.mpr ⟨(off _ hT).1,trivial⟩⟩))) ?_
      intro N10 _
      dsimp only [List.cons_append,List.nil_append] at N10
      clear N9 A6
      k_steps
      rename News _ _ _ _ => N11
      exact turn_two [(fd,o6)] (by k_asm) N11 (sub_cons (by k_mem) (sub_cons (by k_mem) sub_nil)) nI fun T9 hj => ⟨o6,sp6,rfl,hj _ (.tail _ m4) ⟨(off _ hT).1,Ne.symm hne,trivial⟩,hf6,by omega,by omega,by (k_extra "H:look")⟩
    case lfin =>
      intro h tk m ms T zq8
      refine x2_6 zq8 ?_;(try clear zq8)
      intro o' sp'
      rintro rfl
      intro hT hf' s3 s4 nf
      intro off F8 N8
      dsimp only [List.cons_append,List.nil_append] at N8
      have s4 : sp' ≤ 150 := s4
      k_steps
      refine stop_go ?_
      (try k_extra "H:folds")
      rename News _ _ _ _ => N9
      k_dflt (refine' (atom_spec _ hc hf' s3 (by omega)).use ?S ?zhs ?_;(case S => exact ⟨by k_asm,by k_asm,by k_asm,by k_asm,by k_asm,by first | exact rfl | assumption,by first | ktr_room | decide,by first | ktr_units | decide⟩))
      case zhs => exact sub_cons (by k_mem) (sub_cons (by k_mem) sub_nil)
      intro r5 led6 h6 tk6 F6 A6 zq9
      refine x2_6 zq9 ?_;(try clear zq9)
      intro o6 sp6
      rintro rfl
      intro hf6 s5 s6 m3 m4
      have N6 := A6.news
      clear N9
      k_steps
      refine stop_go ?_
      (try k_extra "H:folds")
      rename News _ _ _ _ => N9
      k_dflt (refine' (atom_spec _ hc hf6 (by omega) (by omega)).use ?S ?zhs ?_;(case S => exact ⟨by k_asm,by k_asm,by k_asm,by k_asm,by k_asm,by first | exact rfl | assumption,by first | ktr_room | decide,by first | ktr_units | decide⟩))
      case zhs => exact sub_cons (by k_mem) (sub_cons (by k_mem) sub_nil)
      intro r7 led8 h8 tk8 F8 A8 zq10
      refine x2_6 zq10 ?_;(try clear zq10)
      intro o8 sp8
      rintro rfl
      intro hf8 s7 s8 m5 m6
      have N8 := A8.news
      clear N9
      k_steps
  ))only[↓bx_eq]
end
end
namespace main
theorem tw14644559013171902714:True:=⟨⟩
theorem tw360288291416603994:True:=⟨⟩
theorem tw11804197362700074921:True:=⟨⟩
theorem tw4832026831742301039:True:=⟨⟩
theorem tw9149475249158978189:True:=⟨⟩
theorem tw16502267668958568077:True:=⟨⟩
theorem tw15813965126469659277:True:=⟨⟩
theorem tw16046785832879142669:True:=⟨⟩
theorem tw12930125569691871565:True:=⟨⟩
theorem tw4703324592164959565:True:=⟨⟩
theorem tw4462190400977132941:True:=⟨⟩
theorem tw7548181410930959757:True:=⟨⟩
theorem tw7040763872302975501:True:=⟨⟩
theorem tw17732091104000413229:True:=⟨⟩
theorem tw3550708062875898413:True:=⟨⟩
theorem tw4878024195029292589:True:=⟨⟩
theorem tw1073955365300943949:True:=⟨⟩
theorem tw3107410153937982541:True:=⟨⟩
theorem tw11874431644581681229:True:=⟨⟩
theorem tw8074177808019917933:True:=⟨⟩
theorem tw17065865279493038221:True:=⟨⟩
theorem tw2379228892226148013:True:=⟨⟩
theorem tw13891969715901260461:True:=⟨⟩
theorem tw8054615355715169965:True:=⟨⟩
theorem tw1344006961642217165:True:=⟨⟩
theorem tw3059808732461744397:True:=⟨⟩
theorem tw10385684711634392909:True:=⟨⟩
theorem tw18267052350312620909:True:=⟨⟩
theorem tw5902712137599589837:True:=⟨⟩
theorem tw3879943568281281997:True:=⟨⟩
theorem tw13175212335891660237:True:=⟨⟩
theorem tw8648143778464435181:True:=⟨⟩
theorem tw1596678615197881325:True:=⟨⟩
theorem tw8805413051807045613:True:=⟨⟩
theorem tw2928028564007261197:True:=⟨⟩
theorem tw11745012251463277581:True:=⟨⟩
theorem tw17669468712313380877:True:=⟨⟩
theorem tw15744198569236010029:True:=⟨⟩
theorem tw2818215913512838189:True:=⟨⟩
theorem tw4007461514410222964:True:=⟨⟩
theorem tw12127353596698212756:True:=⟨⟩
theorem tw10934798296316075956:True:=⟨⟩
theorem tw2978445311985771476:True:=⟨⟩
theorem tw16300817170888368660:True:=⟨⟩
theorem tw5840107092408520212:True:=⟨⟩
theorem tw12493883692557333044:True:=⟨⟩
theorem tw1769571156964328020:True:=⟨⟩
theorem tw11547664358567294100:True:=⟨⟩
theorem tw9439839186583959700:True:=⟨⟩
theorem tw16876558867659480788:True:=⟨⟩
theorem tw9576374502609186548:True:=⟨⟩
theorem tw16239573490109993236:True:=⟨⟩
theorem tw4931471645776620852:True:=⟨⟩
theorem tw12184192518910918996:True:=⟨⟩
theorem tw15119470463916845940:True:=⟨⟩
theorem tw1283526657002427284:True:=⟨⟩
theorem tw13109910849429753268:True:=⟨⟩
theorem tw12254554216366044628:True:=⟨⟩
theorem tw7733012006603144692:True:=⟨⟩
theorem tw1078662318413408276:True:=⟨⟩
theorem tw12008618834020198452:True:=⟨⟩
theorem tw16747871750915486772:True:=⟨⟩
theorem tw7380543148635903028:True:=⟨⟩
theorem tw13783381036380690036:True:=⟨⟩
theorem tw15346822135443404404:True:=⟨⟩
theorem tw12724878309271642292:True:=⟨⟩
theorem tw2443227327843618036:True:=⟨⟩
theorem tw3958915594437787476:True:=⟨⟩
theorem tw632543874583851743:True:=⟨⟩
theorem tw13105467095038062303:True:=⟨⟩
theorem tw14386624947042787071:True:=⟨⟩
theorem tw833366181672599839:True:=⟨⟩
theorem tw9403885953711248703:True:=⟨⟩
theorem tw3038580940099593087:True:=⟨⟩
theorem tw12866327798292885407:True:=⟨⟩
theorem tw15349743947800654751:True:=⟨⟩
theorem tw11299022181482971071:True:=⟨⟩
theorem tw16501684553446707135:True:=⟨⟩
theorem tw11547382934132139519:True:=⟨⟩
theorem tw2528932580032954879:True:=⟨⟩
theorem tw571647785228454943:True:=⟨⟩
theorem tw13858439898230071391:True:=⟨⟩
theorem tw15525705244753957535:True:=⟨⟩
theorem tw294303095251978911:True:=⟨⟩
theorem tw8372432500344545951:True:=⟨⟩
theorem tw320557751311579839:True:=⟨⟩
theorem tw13612386364232354495:True:=⟨⟩
theorem tw10871293036084005087:True:=⟨⟩
theorem tw13639637540710378271:True:=⟨⟩
theorem tw13580096092930110239:True:=⟨⟩
theorem tw4592004706911863615:True:=⟨⟩
theorem tw3306849197303780159:True:=⟨⟩
theorem tw11391020510418979679:True:=⟨⟩
theorem tw17189560309898352479:True:=⟨⟩
theorem tw4100163327406334815:True:=⟨⟩
theorem tw13613844423972651391:True:=⟨⟩
theorem tw5818237970382791039:True:=⟨⟩
theorem tw376203692812584351:True:=⟨⟩
theorem tw12235109030325827999:True:=⟨⟩
theorem tw14464972848891808287:True:=⟨⟩
theorem tw8462904984302344767:True:=⟨⟩
theorem tw12195588698423795295:True:=⟨⟩
theorem tw18303307991560051295:True:=⟨⟩
theorem tw6387438950001232582:True:=⟨⟩
theorem tw13817299995192029894:True:=⟨⟩
theorem tw94607088446320870:True:=⟨⟩
theorem tw6756261132437940486:True:=⟨⟩
theorem tw8066810042505994534:True:=⟨⟩
theorem tw14121201860285194534:True:=⟨⟩
theorem tw11287953397327612774:True:=⟨⟩
theorem tw9369852123599154598:True:=⟨⟩
theorem tw18250705095706459558:True:=⟨⟩
theorem tw17145312859027392966:True:=⟨⟩
theorem tw10517235262075802054:True:=⟨⟩
theorem tw9493952402113393094:True:=⟨⟩
theorem tw2922722088657812038:True:=⟨⟩
theorem tw7898563742332601926:True:=⟨⟩
theorem tw8776703023565459014:True:=⟨⟩
theorem tw8132178498146976934:True:=⟨⟩
theorem tw8262367462955680934:True:=⟨⟩
theorem tw13096562468588436678:True:=⟨⟩
theorem tw11001622385964810982:True:=⟨⟩
theorem tw10938402098977778470:True:=⟨⟩
theorem tw6186417409476823366:True:=⟨⟩
theorem tw1112963673480286534:True:=⟨⟩
theorem tw7924682654823194982:True:=⟨⟩
theorem tw18277887891688102822:True:=⟨⟩
theorem tw9612118164168700870:True:=⟨⟩
theorem tw10523394492770496998:True:=⟨⟩
theorem tw14852706074398868582:True:=⟨⟩
theorem tw18371382607465720849:True:=⟨⟩
theorem tw11680215110899198993:True:=⟨⟩
theorem tw14627560896615758001:True:=⟨⟩
theorem tw1391527577248789681:True:=⟨⟩
theorem tw15268511505221204785:True:=⟨⟩
theorem tw9530600332976261937:True:=⟨⟩
theorem tw16850627312601078577:True:=⟨⟩
theorem tw10288650158458768753:True:=⟨⟩
theorem tw17752651522708148593:True:=⟨⟩
theorem tw7002617117321725329:True:=⟨⟩
theorem tw5267375287539190161:True:=⟨⟩
theorem tw15980538880093490129:True:=⟨⟩
theorem tw14279578667054351857:True:=⟨⟩
theorem tw17638393399531288113:True:=⟨⟩
theorem tw1897650600844092497:True:=⟨⟩
theorem tw13761123172137178225:True:=⟨⟩
theorem tw17977008674497043569:True:=⟨⟩
theorem tw7848025740061029041:True:=⟨⟩
theorem tw11807584938254393009:True:=⟨⟩
theorem tw4326401904490494673:True:=⟨⟩
theorem tw3563127853227517201:True:=⟨⟩
theorem tw16203443089297424273:True:=⟨⟩
theorem tw735178950134859665:True:=⟨⟩
theorem tw7566708949256337297:True:=⟨⟩
theorem tw12839939129518166449:True:=⟨⟩
theorem tw15893691471082726865:True:=⟨⟩
theorem tw2689936240190302673:True:=⟨⟩
theorem tw280481874740558024:True:=⟨⟩
theorem tw8239597784800911592:True:=⟨⟩
theorem tw1426165739836719336:True:=⟨⟩
theorem tw8543199408427174664:True:=⟨⟩
theorem tw14368548984795427624:True:=⟨⟩
theorem tw8404755488631334696:True:=⟨⟩
theorem tw17489628448806820680:True:=⟨⟩
theorem tw16725587710940879688:True:=⟨⟩
theorem tw2072994404298036584:True:=⟨⟩
theorem tw9075827205167002984:True:=⟨⟩
theorem tw9144134622846900584:True:=⟨⟩
theorem tw13404827177951782280:True:=⟨⟩
theorem tw7896732557465485704:True:=⟨⟩
theorem tw6819746189605800328:True:=⟨⟩
theorem tw7821556884541040040:True:=⟨⟩
theorem tw14010230154986326984:True:=⟨⟩
theorem tw13435976712825821128:True:=⟨⟩
theorem tw14875908822023813064:True:=⟨⟩
theorem tw5942491169022655432:True:=⟨⟩
theorem tw8279419025547153352:True:=⟨⟩
theorem tw2673703584191709704:True:=⟨⟩
theorem tw11648469112263746088:True:=⟨⟩
theorem tw8633142351281238600:True:=⟨⟩
theorem tw9272406366132598344:True:=⟨⟩
theorem tw15073143240194224712:True:=⟨⟩
theorem tw225424674734612040:True:=⟨⟩
theorem tw8440722530245238888:True:=⟨⟩
theorem tw17009848309113948296:True:=⟨⟩
theorem tw4156003519774020744:True:=⟨⟩
theorem tw11930365855874596552:True:=⟨⟩
theorem tw13393594064635449608:True:=⟨⟩
theorem tw15821444654817647880:True:=⟨⟩
theorem tw12756708965680825608:True:=⟨⟩
theorem tw10440920105907014920:True:=⟨⟩
theorem tw8077453887928653128:True:=⟨⟩
theorem tw13150642230695257992:True:=⟨⟩
theorem tw14070985297238078344:True:=⟨⟩
theorem tw15159490273619958664:True:=⟨⟩
theorem tw2544298430078641640:True:=⟨⟩
theorem tw17263027491776874984:True:=⟨⟩
theorem tw13442519625005806600:True:=⟨⟩
theorem tw4009994885309246536:True:=⟨⟩
theorem tw1068812231199707816:True:=⟨⟩
theorem tw5152671152167812776:True:=⟨⟩
theorem tw3678926922749915011:True:=⟨⟩
theorem tw3379733461541436291:True:=⟨⟩
theorem tw6250745803369192323:True:=⟨⟩
theorem tw15250807170023008163:True:=⟨⟩
theorem tw13036930404576180707:True:=⟨⟩
theorem tw4094807246124668419:True:=⟨⟩
theorem tw16365892746055586307:True:=⟨⟩
theorem tw3357517921695852611:True:=⟨⟩
theorem tw6899241544822910019:True:=⟨⟩
theorem tw17393246987506242659:True:=⟨⟩
theorem tw9432906754913100419:True:=⟨⟩
theorem tw15443453874323421859:True:=⟨⟩
theorem tw10309699142624141507:True:=⟨⟩
theorem tw8810294567309271235:True:=⟨⟩
theorem tw17370264474060839139:True:=⟨⟩
theorem tw6429686504428160259:True:=⟨⟩
theorem tw2905523575628026659:True:=⟨⟩
theorem tw15220798369095227235:True:=⟨⟩
theorem tw17226008255547202947:True:=⟨⟩
theorem tw10023216429234749859:True:=⟨⟩
theorem tw5197162745757122531:True:=⟨⟩
theorem tw5053277156089862147:True:=⟨⟩
theorem tw16765954575990112803:True:=⟨⟩
theorem tw16053404413617535587:True:=⟨⟩
theorem tw15886317987272897667:True:=⟨⟩
theorem tw4935257559928301731:True:=⟨⟩
theorem tw12443200472840579779:True:=⟨⟩
theorem tw16891615732304830211:True:=⟨⟩
theorem tw17205431337810411811:True:=⟨⟩
theorem tw8674768394056432931:True:=⟨⟩
theorem tw15474422221286975002:True:=⟨⟩
theorem tw11292786071654124186:True:=⟨⟩
theorem tw12611677305408334490:True:=⟨⟩
theorem tw17326606277831057050:True:=⟨⟩
theorem tw12967587422831333594:True:=⟨⟩
theorem tw4120760224539185370:True:=⟨⟩
theorem tw13866156564276429082:True:=⟨⟩
theorem tw8019843255630367578:True:=⟨⟩
theorem tw8354859942247524186:True:=⟨⟩
theorem tw17775395293607656282:True:=⟨⟩
theorem tw5054592681714628026:True:=⟨⟩
theorem tw12112399904496239578:True:=⟨⟩
theorem tw18350620168412646394:True:=⟨⟩
theorem tw3209920909162520122:True:=⟨⟩
theorem tw16706546988946613818:True:=⟨⟩
theorem tw2435090854577023546:True:=⟨⟩
theorem tw12266321265796822618:True:=⟨⟩
theorem tw7689180539567665754:True:=⟨⟩
theorem tw15067221844328033466:True:=⟨⟩
theorem tw7450521685299207930:True:=⟨⟩
theorem tw4395466900922544890:True:=⟨⟩
theorem tw5702855569557996282:True:=⟨⟩
theorem tw10653169788537623322:True:=⟨⟩
theorem tw2509485771696236314:True:=⟨⟩
theorem tw18270773166306141978:True:=⟨⟩
theorem tw10492438308582190394:True:=⟨⟩
theorem tw3631305349507758426:True:=⟨⟩
theorem tw4153403021248529786:True:=⟨⟩
theorem tw10278875301165399962:True:=⟨⟩
theorem tw4357975833179775930:True:=⟨⟩
theorem tw14453371020696350650:True:=⟨⟩
theorem tw2925776425995894714:True:=⟨⟩
theorem tw7424550777354326970:True:=⟨⟩
theorem tw4433602467837400570:True:=⟨⟩
theorem tw6271459789768422213:True:=⟨⟩
theorem tw14522938668971434885:True:=⟨⟩
theorem tw15939135216810644357:True:=⟨⟩
theorem tw11601682451327219109:True:=⟨⟩
theorem tw7079346319486233637:True:=⟨⟩
theorem tw11913848286851280485:True:=⟨⟩
theorem tw272789946186954341:True:=⟨⟩
theorem tw7379146703158643333:True:=⟨⟩
theorem tw15743930626855181957:True:=⟨⟩
theorem tw10043645473394411141:True:=⟨⟩
theorem tw14417502097949002917:True:=⟨⟩
theorem tw8624647050476810405:True:=⟨⟩
theorem tw14955899357275167909:True:=⟨⟩
theorem tw935179541032769765:True:=⟨⟩
theorem tw10347165607039768325:True:=⟨⟩
theorem tw1038547464879363397:True:=⟨⟩
theorem tw5022756136425776485:True:=⟨⟩
theorem tw1860108991126048101:True:=⟨⟩
theorem tw17391922875715332485:True:=⟨⟩
theorem tw3539627628400702853:True:=⟨⟩
theorem tw3469070634007033221:True:=⟨⟩
theorem tw17624342890857993125:True:=⟨⟩
theorem tw10443595952217078693:True:=⟨⟩
theorem tw836902708638354373:True:=⟨⟩
theorem tw15272384756033816549:True:=⟨⟩
theorem tw16427579589696508901:True:=⟨⟩
theorem tw4511402922630066149:True:=⟨⟩
theorem tw13670416772910508549:True:=⟨⟩
theorem tw6707823426313396741:True:=⟨⟩
theorem tw3515887516252319269:True:=⟨⟩
theorem tw13142099442745301093:True:=⟨⟩
theorem tw1403793049032158309:True:=⟨⟩
theorem tw17781153961316730533:True:=⟨⟩
theorem tw1339686672531063493:True:=⟨⟩
theorem tw2813829026317290181:True:=⟨⟩
theorem tw10678755418281806533:True:=⟨⟩
theorem tw12793961455207843180:True:=⟨⟩
theorem tw10835955332524744044:True:=⟨⟩
theorem tw13814721228485765036:True:=⟨⟩
theorem tw5230396064904120268:True:=⟨⟩
theorem tw10053753761261000652:True:=⟨⟩
theorem tw12057684487817480140:True:=⟨⟩
theorem tw13433434403654333388:True:=⟨⟩
theorem tw4239280963099970540:True:=⟨⟩
theorem tw10161402112437779436:True:=⟨⟩
theorem tw7822347148725292140:True:=⟨⟩
theorem tw12028935686920467596:True:=⟨⟩
theorem tw9263647157344246924:True:=⟨⟩
theorem tw13750510376383286988:True:=⟨⟩
theorem tw738249695139976460:True:=⟨⟩
theorem tw9271713227684663596:True:=⟨⟩
theorem tw6742474295446658380:True:=⟨⟩
theorem tw3408827457947758924:True:=⟨⟩
theorem tw17349828507643174764:True:=⟨⟩
theorem tw15968557084061499276:True:=⟨⟩
theorem tw5460128486308123532:True:=⟨⟩
theorem tw88892504447777676:True:=⟨⟩
theorem tw8673234112496229836:True:=⟨⟩
theorem tw8757057635001978316:True:=⟨⟩
theorem tw510803128440017388:True:=⟨⟩
theorem tw517253545763640812:True:=⟨⟩
theorem tw7121938363519269900:True:=⟨⟩
theorem tw15254020090456207404:True:=⟨⟩
theorem tw15193263178978695244:True:=⟨⟩
theorem tw2221555247795474028:True:=⟨⟩
theorem tw18369451303578182252:True:=⟨⟩
theorem tw12435918809077080684:True:=⟨⟩
theorem tw4606060024949568140:True:=⟨⟩
theorem tw17299735379877282444:True:=⟨⟩
theorem tw12857639022058571948:True:=⟨⟩
theorem tw15252723141234360556:True:=⟨⟩
theorem tw18288797166873144076:True:=⟨⟩
theorem tw9703312082030273292:True:=⟨⟩
theorem tw144493426572079916:True:=⟨⟩
theorem tw13432973819337260183:True:=⟨⟩
theorem tw548545010330813591:True:=⟨⟩
theorem tw7645214217008657559:True:=⟨⟩
theorem tw11226278580439113911:True:=⟨⟩
theorem tw8286811204976691927:True:=⟨⟩
theorem tw17524808815578175191:True:=⟨⟩
theorem tw7670179019842844407:True:=⟨⟩
theorem tw3804669791477890327:True:=⟨⟩
theorem tw4609130545533016343:True:=⟨⟩
theorem tw2352082045080494391:True:=⟨⟩
theorem tw17861241424289171767:True:=⟨⟩
theorem tw14537450019153051991:True:=⟨⟩
theorem tw3993828384424069463:True:=⟨⟩
theorem tw14720004185528982391:True:=⟨⟩
theorem tw15471704449587110807:True:=⟨⟩
theorem tw867116294927962039:True:=⟨⟩
theorem tw6649310733610355799:True:=⟨⟩
theorem tw12060422125218720375:True:=⟨⟩
theorem tw8512846599769640567:True:=⟨⟩
theorem tw16136933308854893207:True:=⟨⟩
theorem tw6958343538655003287:True:=⟨⟩
theorem tw17200071697881280183:True:=⟨⟩
theorem tw17367629061461438135:True:=⟨⟩
theorem tw7035012547776903383:True:=⟨⟩
theorem tw7711332181109331799:True:=⟨⟩
theorem tw12053484555890235767:True:=⟨⟩
theorem tw16308858863361778103:True:=⟨⟩
theorem tw4649883316461138903:True:=⟨⟩
theorem tw3186847941270157303:True:=⟨⟩
theorem tw16822983415644169815:True:=⟨⟩
theorem tw7285142449084795479:True:=⟨⟩
theorem tw3121664453712097879:True:=⟨⟩
theorem tw14295980150073339262:True:=⟨⟩
theorem tw10758804782543124382:True:=⟨⟩
theorem tw7326126473697019838:True:=⟨⟩
theorem tw8070636952655222270:True:=⟨⟩
theorem tw3460471527071742462:True:=⟨⟩
theorem tw15145321199161939454:True:=⟨⟩
theorem tw9870349952446189086:True:=⟨⟩
theorem tw10980123507247645758:True:=⟨⟩
theorem tw14953484359197247582:True:=⟨⟩
theorem tw4840266357470665822:True:=⟨⟩
theorem tw3630406633451347070:True:=⟨⟩
theorem tw8123531230628939902:True:=⟨⟩
theorem tw15507944958647477950:True:=⟨⟩
theorem tw3139610863597827358:True:=⟨⟩
theorem tw13681261787169959198:True:=⟨⟩
theorem tw14116783088108353342:True:=⟨⟩
theorem tw2911433417487810430:True:=⟨⟩
theorem tw13403097662674176414:True:=⟨⟩
theorem tw10839992949745929630:True:=⟨⟩
theorem tw1679806311347427774:True:=⟨⟩
theorem tw11118022616448068574:True:=⟨⟩
theorem tw8198635786116184702:True:=⟨⟩
theorem tw5328005690235735774:True:=⟨⟩
theorem tw2142373446539770622:True:=⟨⟩
theorem tw17809477105219444030:True:=⟨⟩
theorem tw2468735287043536190:True:=⟨⟩
theorem tw1835169261126040926:True:=⟨⟩
theorem tw17442377672721089886:True:=⟨⟩
theorem tw16781784789281860958:True:=⟨⟩
theorem tw14131743086799626953:True:=⟨⟩
theorem tw11751638361083799241:True:=⟨⟩
theorem tw5242006674047390409:True:=⟨⟩
theorem tw16156162450810372841:True:=⟨⟩
theorem tw2723686050631992617:True:=⟨⟩
theorem tw9957052238193980713:True:=⟨⟩
theorem tw11915975209450370505:True:=⟨⟩
theorem tw7387095368875260393:True:=⟨⟩
theorem tw18356235372429024265:True:=⟨⟩
theorem tw15502279438172492361:True:=⟨⟩
theorem tw2451230368645061193:True:=⟨⟩
theorem tw16784418740890956393:True:=⟨⟩
theorem tw10444647068345236073:True:=⟨⟩
theorem tw7659538399061980777:True:=⟨⟩
theorem tw13517744194886268553:True:=⟨⟩
theorem tw4310228878472284329:True:=⟨⟩
theorem tw6982158505162667209:True:=⟨⟩
theorem tw2088574598992667849:True:=⟨⟩
theorem tw5008847014415012073:True:=⟨⟩
theorem tw11116706314288256233:True:=⟨⟩
theorem tw18044547442324722921:True:=⟨⟩
theorem tw9521946210082406153:True:=⟨⟩
theorem tw1096516976958778121:True:=⟨⟩
theorem tw14263429483411347241:True:=⟨⟩
theorem tw1546536443401856809:True:=⟨⟩
theorem tw9482223327213914921:True:=⟨⟩
theorem tw10687909447789387113:True:=⟨⟩
theorem tw15444968558782299529:True:=⟨⟩
theorem tw2553129172841505705:True:=⟨⟩
theorem tw11320765536956949449:True:=⟨⟩
theorem tw10565047445652189705:True:=⟨⟩
theorem tw10180515696109083177:True:=⟨⟩
theorem tw10297972270295956009:True:=⟨⟩
theorem tw14120260080095136841:True:=⟨⟩
theorem tw13278140520634309705:True:=⟨⟩
theorem tw9954550400196453248:True:=⟨⟩
theorem tw1887654273250841056:True:=⟨⟩
theorem tw1419027338852513248:True:=⟨⟩
theorem tw10308895420299081216:True:=⟨⟩
theorem tw750194992705927200:True:=⟨⟩
theorem tw332726020879770688:True:=⟨⟩
theorem tw4891462983210470464:True:=⟨⟩
theorem tw16698058524883723872:True:=⟨⟩
theorem tw11055816845053089408:True:=⟨⟩
theorem tw3970840511108476544:True:=⟨⟩
theorem tw6566655913747789440:True:=⟨⟩
theorem tw18084886155079811712:True:=⟨⟩
theorem tw14772449712257141376:True:=⟨⟩
theorem tw869616941618530944:True:=⟨⟩
theorem tw2395697343598037184:True:=⟨⟩
theorem tw11343196335435003072:True:=⟨⟩
theorem tw16288059979852645152:True:=⟨⟩
theorem tw8211863448347881248:True:=⟨⟩
theorem tw5783281256696232768:True:=⟨⟩
theorem tw13234269625008490304:True:=⟨⟩
theorem tw3146034541042422592:True:=⟨⟩
theorem tw653998813826172256:True:=⟨⟩
theorem tw1888927802343683488:True:=⟨⟩
theorem tw12253984699551225856:True:=⟨⟩
theorem tw8595304795500500992:True:=⟨⟩
theorem tw18362417139445994016:True:=⟨⟩
theorem tw11826185249069085216:True:=⟨⟩
theorem tw10040650592145808960:True:=⟨⟩
theorem tw8541053843603864128:True:=⟨⟩
theorem tw17500773473612833888:True:=⟨⟩
theorem tw15521857191610671232:True:=⟨⟩
theorem tw8826075148503451808:True:=⟨⟩
theorem tw1432834438766924960:True:=⟨⟩
theorem tw16435655699322316512:True:=⟨⟩
theorem tw3648130295315601696:True:=⟨⟩
theorem tw1770443798944706555:True:=⟨⟩
theorem tw704156152089372795:True:=⟨⟩
theorem tw16103328417691970683:True:=⟨⟩
theorem tw16238430190936666235:True:=⟨⟩
theorem tw2591018911419354267:True:=⟨⟩
theorem tw7406679989375695003:True:=⟨⟩
theorem tw6099689264524860603:True:=⟨⟩
theorem tw11760354278640644859:True:=⟨⟩
theorem tw14903051288947113723:True:=⟨⟩
theorem tw9440510433579211515:True:=⟨⟩
theorem tw7133214772809181467:True:=⟨⟩
theorem tw12186387220061091099:True:=⟨⟩
theorem tw4328267247735480603:True:=⟨⟩
theorem tw17677493551680049499:True:=⟨⟩
theorem tw11333404043778943323:True:=⟨⟩
theorem tw4703118583338301787:True:=⟨⟩
theorem tw2008451683862899579:True:=⟨⟩
theorem tw17210058121205660539:True:=⟨⟩
theorem tw1792248080742510491:True:=⟨⟩
theorem tw13975928471340527547:True:=⟨⟩
theorem tw16355354518699560987:True:=⟨⟩
theorem tw6542570496510093371:True:=⟨⟩
theorem tw7596539548893567067:True:=⟨⟩
theorem tw13337567399299638939:True:=⟨⟩
theorem tw6020760485785902299:True:=⟨⟩
theorem tw17469336949988102395:True:=⟨⟩
theorem tw9844532520808570107:True:=⟨⟩
theorem tw3016572388942527259:True:=⟨⟩
theorem tw14773280460464934747:True:=⟨⟩
theorem tw6413115949845201275:True:=⟨⟩
theorem tw10583265868896537019:True:=⟨⟩
theorem tw3008196657469156795:True:=⟨⟩
theorem tw16515390481915438290:True:=⟨⟩
theorem tw5165179375324350226:True:=⟨⟩
theorem tw144500467268121906:True:=⟨⟩
theorem tw13865402017588289906:True:=⟨⟩
theorem tw13791738579797958002:True:=⟨⟩
theorem tw2619486844233121682:True:=⟨⟩
theorem tw1825977663594718130:True:=⟨⟩
theorem tw10196920075564382162:True:=⟨⟩
theorem tw832957702251805650:True:=⟨⟩
theorem tw16726855816971509234:True:=⟨⟩
theorem tw17008886415857585682:True:=⟨⟩
theorem tw15036140292866834066:True:=⟨⟩
theorem tw6312091815898468018:True:=⟨⟩
theorem tw4351411162792525490:True:=⟨⟩
theorem tw5131000187625521842:True:=⟨⟩
theorem tw10046727809161031378:True:=⟨⟩
theorem tw14766382537209830674:True:=⟨⟩
theorem tw10328587823670452498:True:=⟨⟩
theorem tw10520778879549123858:True:=⟨⟩
theorem tw15564934884189797170:True:=⟨⟩
theorem tw6524254272908164914:True:=⟨⟩
theorem tw652957937968812882:True:=⟨⟩
theorem tw11209188420962459506:True:=⟨⟩
theorem tw1767629848817652594:True:=⟨⟩
theorem tw11646022107631321490:True:=⟨⟩
theorem tw11481020460698763666:True:=⟨⟩
theorem tw5330137482974297522:True:=⟨⟩
theorem tw2691526960798580178:True:=⟨⟩
theorem tw16624888252642348018:True:=⟨⟩
theorem tw12598917264982991858:True:=⟨⟩
theorem tw10833408379140661266:True:=⟨⟩
theorem tw17557205499575929874:True:=⟨⟩
theorem tw10560464971613371954:True:=⟨⟩
theorem tw2741657091256887858:True:=⟨⟩
theorem tw9077120990456222290:True:=⟨⟩
theorem tw2617775937807457874:True:=⟨⟩
theorem tw4840137780045317266:True:=⟨⟩
theorem tw13176017210958811282:True:=⟨⟩
theorem tw12968591962578011314:True:=⟨⟩
theorem tw4819436793316677810:True:=⟨⟩
theorem tw17924518473618601469:True:=⟨⟩
theorem tw14230426198074974781:True:=⟨⟩
theorem tw17583313224497399901:True:=⟨⟩
theorem tw6093991748022998109:True:=⟨⟩
theorem tw6795767014284890813:True:=⟨⟩
theorem tw202123991815840445:True:=⟨⟩
theorem tw7784495168435344669:True:=⟨⟩
theorem tw16775770572179878173:True:=⟨⟩
theorem tw8571558186958321949:True:=⟨⟩
theorem tw7118179723604996413:True:=⟨⟩
theorem tw117865787843134301:True:=⟨⟩
theorem tw6601557695192066909:True:=⟨⟩
theorem tw5013185972428660573:True:=⟨⟩
theorem tw10053362868999418749:True:=⟨⟩
theorem tw12334257995491581405:True:=⟨⟩
theorem tw13621330554479564797:True:=⟨⟩
theorem tw11509008894443506685:True:=⟨⟩
theorem tw18324848782513282653:True:=⟨⟩
theorem tw15131217093995405917:True:=⟨⟩
theorem tw3410821142717238429:True:=⟨⟩
theorem tw1724344740107316381:True:=⟨⟩
theorem tw7701843906587010205:True:=⟨⟩
theorem tw1417174764347108541:True:=⟨⟩
theorem tw6178081710517948605:True:=⟨⟩
theorem tw12685957366688819421:True:=⟨⟩
theorem tw9160032588005542685:True:=⟨⟩
theorem tw2027678216468551453:True:=⟨⟩
theorem tw6658326349803785021:True:=⟨⟩
theorem tw18108192847358647101:True:=⟨⟩
theorem tw8270690936462906749:True:=⟨⟩
theorem tw11576230927637898173:True:=⟨⟩
theorem tw8386956399160234941:True:=⟨⟩
theorem tw5458665417225551837:True:=⟨⟩
theorem tw3977090291491947485:True:=⟨⟩
theorem tw2737031353948269604:True:=⟨⟩
theorem tw14706854907117038628:True:=⟨⟩
theorem tw4304834178718691396:True:=⟨⟩
theorem tw6733809563212269156:True:=⟨⟩
theorem tw11998975423125869188:True:=⟨⟩
theorem tw10815909221013692612:True:=⟨⟩
theorem tw8736997241775733956:True:=⟨⟩
theorem tw7659335649736619204:True:=⟨⟩
theorem tw8979861127389934948:True:=⟨⟩
theorem tw16928811664248450436:True:=⟨⟩
theorem tw14293790079358175236:True:=⟨⟩
theorem tw16265700737481640900:True:=⟨⟩
theorem tw5145756777116517348:True:=⟨⟩
theorem tw16899061783259940836:True:=⟨⟩
theorem tw6990565588677296644:True:=⟨⟩
theorem tw7397454978930948644:True:=⟨⟩
theorem tw13276111058516223524:True:=⟨⟩
theorem tw17179648164711320676:True:=⟨⟩
theorem tw14891094757345406116:True:=⟨⟩
theorem tw14137382522845584548:True:=⟨⟩
theorem tw16294229565372462788:True:=⟨⟩
theorem tw15689039764200711428:True:=⟨⟩
theorem tw6912118498763487492:True:=⟨⟩
theorem tw14319998408292451620:True:=⟨⟩
theorem tw5901833263323351908:True:=⟨⟩
theorem tw17094576705328918404:True:=⟨⟩
theorem tw8748545815342134148:True:=⟨⟩
theorem tw16741365473365742500:True:=⟨⟩
theorem tw7561484092936559524:True:=⟨⟩
theorem tw4177671621994559311:True:=⟨⟩
theorem tw18337712513834754415:True:=⟨⟩
theorem tw9836801404997342575:True:=⟨⟩
theorem tw3412744423601906063:True:=⟨⟩
theorem tw18382997825090318735:True:=⟨⟩
theorem tw12577089576051996047:True:=⟨⟩
theorem tw757969810983933903:True:=⟨⟩
theorem tw2868879096931255247:True:=⟨⟩
theorem tw4588738799956414479:True:=⟨⟩
theorem tw17518984032136438799:True:=⟨⟩
theorem tw17748314641421745711:True:=⟨⟩
theorem tw9767782249887908399:True:=⟨⟩
theorem tw7859541408058562095:True:=⟨⟩
theorem tw3544347635893272111:True:=⟨⟩
theorem tw7009055538952385103:True:=⟨⟩
theorem tw7218384944330780783:True:=⟨⟩
theorem tw7840089511392720015:True:=⟨⟩
theorem tw13681423632140699375:True:=⟨⟩
theorem tw11651895032536297775:True:=⟨⟩
theorem tw16672347593970394415:True:=⟨⟩
theorem tw16614730806028959055:True:=⟨⟩
theorem tw13600565011557826895:True:=⟨⟩
theorem tw1318229201235836783:True:=⟨⟩
theorem tw12382416113807773583:True:=⟨⟩
theorem tw12456801561626644367:True:=⟨⟩
theorem tw1901868530813872047:True:=⟨⟩
theorem tw1381488885977479087:True:=⟨⟩
theorem tw9699293133549217295:True:=⟨⟩
theorem tw14494904676204802095:True:=⟨⟩
theorem tw1390720707977671279:True:=⟨⟩
theorem tw2457120964296137359:True:=⟨⟩
theorem tw2940311884806191311:True:=⟨⟩
theorem tw11537956683338630383:True:=⟨⟩
theorem tw7074714167717794031:True:=⟨⟩
theorem tw947908954396375855:True:=⟨⟩
theorem tw9329782625190375798:True:=⟨⟩
theorem tw11923579568519453046:True:=⟨⟩
theorem tw16218993716828157846:True:=⟨⟩
theorem tw13121950329725443542:True:=⟨⟩
theorem tw7313032115926921718:True:=⟨⟩
theorem tw17079325164956456438:True:=⟨⟩
theorem tw5963143147677444598:True:=⟨⟩
theorem tw7098780427933102582:True:=⟨⟩
theorem tw268157518901931542:True:=⟨⟩
theorem tw11656252529945786486:True:=⟨⟩
theorem tw12290903976309136502:True:=⟨⟩
theorem tw9666586416613377686:True:=⟨⟩
theorem tw17180643386855433878:True:=⟨⟩
theorem tw1303870235021155574:True:=⟨⟩
theorem tw16210668033245960438:True:=⟨⟩
theorem tw7249698444530863382:True:=⟨⟩
theorem tw6810670158800780086:True:=⟨⟩
theorem tw10498526579032192438:True:=⟨⟩
theorem tw16013715159421822934:True:=⟨⟩
theorem tw15353178462144057302:True:=⟨⟩
theorem tw12050710921934823414:True:=⟨⟩
theorem tw2531834563650271798:True:=⟨⟩
theorem tw11214402113823378998:True:=⟨⟩
theorem tw5103255586642191990:True:=⟨⟩
theorem tw14116258901397501558:True:=⟨⟩
theorem tw9733549637030922870:True:=⟨⟩
theorem tw15318522569413922966:True:=⟨⟩
theorem tw16204744479138647222:True:=⟨⟩
theorem tw17616163897125503702:True:=⟨⟩
theorem tw16778000889299214070:True:=⟨⟩
theorem tw17853243665478741750:True:=⟨⟩
theorem tw4262874740152647446:True:=⟨⟩
theorem tw13526917470146073910:True:=⟨⟩
theorem tw4634538438036118838:True:=⟨⟩
theorem tw14458546566710942977:True:=⟨⟩
theorem tw9663910302974732577:True:=⟨⟩
theorem tw12608305039502615393:True:=⟨⟩
theorem tw2853208382243579297:True:=⟨⟩
theorem tw12453483116619877857:True:=⟨⟩
theorem tw8848428510025427425:True:=⟨⟩
theorem tw2939239021250373633:True:=⟨⟩
theorem tw6968316724324862529:True:=⟨⟩
theorem tw3718984994144165473:True:=⟨⟩
theorem tw13790279956208770657:True:=⟨⟩
theorem tw13119030871068887809:True:=⟨⟩
theorem tw5498605039287053057:True:=⟨⟩
theorem tw2515330213975016769:True:=⟨⟩
theorem tw11830923810597764417:True:=⟨⟩
theorem tw1013997585769912673:True:=⟨⟩
theorem tw11077837550520376705:True:=⟨⟩
theorem tw3055327740479581089:True:=⟨⟩
theorem tw16229319474554376097:True:=⟨⟩
theorem tw858899439758091169:True:=⟨⟩
theorem tw5362711270585421761:True:=⟨⟩
theorem tw3087296514247745505:True:=⟨⟩
theorem tw11315334805740100097:True:=⟨⟩
theorem tw16441979001879675393:True:=⟨⟩
theorem tw6408195481249254913:True:=⟨⟩
theorem tw6319109525331840513:True:=⟨⟩
theorem tw2072547788070596129:True:=⟨⟩
theorem tw9719202250092448289:True:=⟨⟩
theorem tw3441466919426651201:True:=⟨⟩
theorem tw10390374173888912449:True:=⟨⟩
theorem tw12681416834507466817:True:=⟨⟩
theorem tw1670922702076608641:True:=⟨⟩
theorem tw468188516431147137:True:=⟨⟩
theorem tw16959661361015162744:True:=⟨⟩
theorem tw12664087920147988344:True:=⟨⟩
theorem tw3917075563684514712:True:=⟨⟩
theorem tw5159528265767506360:True:=⟨⟩
theorem tw1568190611963401656:True:=⟨⟩
theorem tw15593932114248601048:True:=⟨⟩
theorem tw8511639783363027448:True:=⟨⟩
theorem tw17797862391227879448:True:=⟨⟩
theorem tw12097270978576341016:True:=⟨⟩
theorem tw13087847357843552312:True:=⟨⟩
theorem tw5055280753450627128:True:=⟨⟩
theorem tw14681639400702691960:True:=⟨⟩
theorem tw10480133599824989816:True:=⟨⟩
theorem tw17531500886901724792:True:=⟨⟩
theorem tw3131981697515881112:True:=⟨⟩
theorem tw16447890188593340600:True:=⟨⟩
theorem tw1130109773739384056:True:=⟨⟩
theorem tw6435957902497673624:True:=⟨⟩
theorem tw18396120882820736952:True:=⟨⟩
theorem tw12884846405606864888:True:=⟨⟩
theorem tw15472740278469042264:True:=⟨⟩
theorem tw11888923222419618904:True:=⟨⟩
theorem tw4975598923679135864:True:=⟨⟩
theorem tw13025341945748906136:True:=⟨⟩
theorem tw9202362961687656120:True:=⟨⟩
theorem tw6363703139885310264:True:=⟨⟩
theorem tw7679138261593991859:True:=⟨⟩
theorem tw13742246020466748627:True:=⟨⟩
theorem tw15643031011164770099:True:=⟨⟩
theorem tw3064736170607065939:True:=⟨⟩
theorem tw18301661331662831443:True:=⟨⟩
theorem tw1251932400071406003:True:=⟨⟩
theorem tw7929639667017200051:True:=⟨⟩
theorem tw5021990489002946995:True:=⟨⟩
theorem tw13952998626185534419:True:=⟨⟩
theorem tw1025130396011242515:True:=⟨⟩
theorem tw12830911758012122131:True:=⟨⟩
theorem tw11163015120005115923:True:=⟨⟩
theorem tw17142218151182921267:True:=⟨⟩
theorem tw10322969633853836883:True:=⟨⟩
theorem tw1179163161465106547:True:=⟨⟩
theorem tw1331712731051393203:True:=⟨⟩
theorem tw244272740328328915:True:=⟨⟩
theorem tw3748819449962869491:True:=⟨⟩
theorem tw2379418587039239955:True:=⟨⟩
theorem tw9444755940702137107:True:=⟨⟩
theorem tw12287596359008651027:True:=⟨⟩
theorem tw15852780608557602579:True:=⟨⟩
theorem tw14466154142425863955:True:=⟨⟩
theorem tw15015111288849602867:True:=⟨⟩
theorem tw15208815566122129715:True:=⟨⟩
theorem tw15124233344536562547:True:=⟨⟩
theorem tw1779850407545558931:True:=⟨⟩
theorem tw4798913882091802099:True:=⟨⟩
theorem tw16238369109891383347:True:=⟨⟩
theorem tw10705968754666226739:True:=⟨⟩
theorem tw2081042875132773427:True:=⟨⟩
theorem tw13273494133979066451:True:=⟨⟩
theorem tw1912606427515319379:True:=⟨⟩
theorem tw5746062570634479219:True:=⟨⟩
theorem tw2552694252491474378:True:=⟨⟩
theorem tw1177658166500609482:True:=⟨⟩
theorem tw13560165558294956042:True:=⟨⟩
theorem tw11897676272438511658:True:=⟨⟩
theorem tw18345942743439504426:True:=⟨⟩
theorem tw17681743755420925514:True:=⟨⟩
theorem tw9133342197399196234:True:=⟨⟩
theorem tw11604271529852985930:True:=⟨⟩
theorem tw8632067484033081962:True:=⟨⟩
theorem tw14452046468698080874:True:=⟨⟩
theorem tw11175315845038103690:True:=⟨⟩
theorem tw18302860413485724842:True:=⟨⟩
theorem tw7646311210486026410:True:=⟨⟩
theorem tw14352292278703085770:True:=⟨⟩
theorem tw14492489044821966026:True:=⟨⟩
theorem tw3898492766431878890:True:=⟨⟩
theorem tw2310633646459873002:True:=⟨⟩
theorem tw17294303086990883594:True:=⟨⟩
theorem tw7772104011696148234:True:=⟨⟩
theorem tw6498212960163673866:True:=⟨⟩
theorem tw564327466094411562:True:=⟨⟩
theorem tw16405295038616099146:True:=⟨⟩
theorem tw10434708572517896522:True:=⟨⟩
theorem tw8731464644100033418:True:=⟨⟩
theorem tw16438014652984670090:True:=⟨⟩
theorem tw1162353465806818218:True:=⟨⟩
theorem tw13178111602982621130:True:=⟨⟩
theorem tw9335689295537598954:True:=⟨⟩
theorem tw5600465124246279690:True:=⟨⟩
theorem tw16148830795289512010:True:=⟨⟩
theorem tw3088077927293614186:True:=⟨⟩
theorem tw5445273990271448714:True:=⟨⟩
theorem tw9852867024266483370:True:=⟨⟩
theorem tw1227082755455209162:True:=⟨⟩
theorem tw10120841507784995530:True:=⟨⟩
theorem tw5667051821671876906:True:=⟨⟩
theorem tw16556096624374403914:True:=⟨⟩
theorem tw12719230891847962442:True:=⟨⟩
theorem tw11527100260467649386:True:=⟨⟩
theorem tw2113245724137632618:True:=⟨⟩
theorem tw5714297817612945589:True:=⟨⟩
theorem tw15610144658242746549:True:=⟨⟩
theorem tw631227907748450517:True:=⟨⟩
theorem tw1277607685379289845:True:=⟨⟩
theorem tw8628463995273589525:True:=⟨⟩
theorem tw1790015737594900885:True:=⟨⟩
theorem tw14502488901099396501:True:=⟨⟩
theorem tw15887338096939263381:True:=⟨⟩
theorem tw12903915928643529109:True:=⟨⟩
theorem tw13562059985172378005:True:=⟨⟩
theorem tw8864801995293489557:True:=⟨⟩
theorem tw4125460202920646613:True:=⟨⟩
theorem tw16744341766133690325:True:=⟨⟩
theorem tw8074271574055933429:True:=⟨⟩
theorem tw8882529816095103477:True:=⟨⟩
theorem tw9069977719596667413:True:=⟨⟩
theorem tw16136480149535285781:True:=⟨⟩
theorem tw3256599692197748821:True:=⟨⟩
theorem tw7789222688201250933:True:=⟨⟩
theorem tw10917182092842180725:True:=⟨⟩
theorem tw727201121964547221:True:=⟨⟩
theorem tw9620926646237751989:True:=⟨⟩
theorem tw18027279399861113557:True:=⟨⟩
theorem tw13525269375820829941:True:=⟨⟩
theorem tw17342739349943993621:True:=⟨⟩
theorem tw5630227607048996149:True:=⟨⟩
theorem tw2434013755359952725:True:=⟨⟩
theorem tw12294913915507317621:True:=⟨⟩
theorem tw5903828528775644053:True:=⟨⟩
theorem tw7904360318250872725:True:=⟨⟩
theorem tw11343223855656382485:True:=⟨⟩
theorem tw868957009881194517:True:=⟨⟩
theorem tw7033201789201947253:True:=⟨⟩
theorem tw5172733860109081237:True:=⟨⟩
theorem tw2650101136147908316:True:=⟨⟩
theorem tw8729215753904597756:True:=⟨⟩
theorem tw13871052462740130076:True:=⟨⟩
theorem tw5039935704646711612:True:=⟨⟩
theorem tw9746696674357601180:True:=⟨⟩
theorem tw12656116102701854620:True:=⟨⟩
theorem tw8567849941878843836:True:=⟨⟩
theorem tw13535308556146904540:True:=⟨⟩
theorem tw12083584854881789436:True:=⟨⟩
theorem tw17732451789624135708:True:=⟨⟩
theorem tw16536999046426117148:True:=⟨⟩
theorem tw18184679981460683836:True:=⟨⟩
theorem tw10046393564091023420:True:=⟨⟩
theorem tw1496641351508231228:True:=⟨⟩
theorem tw11665721926869280828:True:=⟨⟩
theorem tw9558001594617236124:True:=⟨⟩
theorem tw15389327945418215068:True:=⟨⟩
theorem tw11126551447899587804:True:=⟨⟩
theorem tw9024921604208487676:True:=⟨⟩
theorem tw961370681766752028:True:=⟨⟩
theorem tw4158608836003185468:True:=⟨⟩
theorem tw8561292540247648604:True:=⟨⟩
theorem tw11110832240473757052:True:=⟨⟩
theorem tw13123296091798268284:True:=⟨⟩
theorem tw4454792828321621372:True:=⟨⟩
theorem tw13898727854132262300:True:=⟨⟩
theorem tw8594527841530898396:True:=⟨⟩
theorem tw720133340251979740:True:=⟨⟩
theorem tw13261660738576256540:True:=⟨⟩
theorem tw16768480050744178236:True:=⟨⟩
theorem tw16280118821670845564:True:=⟨⟩
theorem tw4187923210075081884:True:=⟨⟩
theorem tw1734708372850746524:True:=⟨⟩
theorem tw14415632762500767900:True:=⟨⟩
theorem tw5765321870980151996:True:=⟨⟩
theorem tw14858570723701920263:True:=⟨⟩
theorem tw16859033189492256807:True:=⟨⟩
theorem tw13538414902891089991:True:=⟨⟩
theorem tw8874004035559458439:True:=⟨⟩
theorem tw9794519201099739783:True:=⟨⟩
theorem tw7840474142351391399:True:=⟨⟩
theorem tw6759289808592882343:True:=⟨⟩
theorem tw12476972291821639335:True:=⟨⟩
theorem tw6467666160085547207:True:=⟨⟩
theorem tw18218633749651144903:True:=⟨⟩
theorem tw2417395900657985767:True:=⟨⟩
theorem tw4711006893311753447:True:=⟨⟩
theorem tw16616484597524413703:True:=⟨⟩
theorem tw16903022900691281159:True:=⟨⟩
theorem tw12148787975849213767:True:=⟨⟩
theorem tw13889870629125409607:True:=⟨⟩
theorem tw3146979741847770951:True:=⟨⟩
theorem tw5992685852653226855:True:=⟨⟩
theorem tw10436078037754071431:True:=⟨⟩
theorem tw17023186693513284007:True:=⟨⟩
theorem tw18004917794731790759:True:=⟨⟩
theorem tw7945186787910683591:True:=⟨⟩
theorem tw6471150222350279623:True:=⟨⟩
theorem tw111125614747484135:True:=⟨⟩
theorem tw2525166076998268935:True:=⟨⟩
theorem tw3965608284049720903:True:=⟨⟩
theorem tw11926908473165273671:True:=⟨⟩
theorem tw6258868486430859879:True:=⟨⟩
theorem tw9687061429480002727:True:=⟨⟩
theorem tw633595507753179303:True:=⟨⟩
theorem tw5739019924288605895:True:=⟨⟩
theorem tw4091930637953755879:True:=⟨⟩
theorem tw5735058541856893287:True:=⟨⟩
theorem tw14409748654668726151:True:=⟨⟩
theorem tw17437174277582430087:True:=⟨⟩
theorem tw14673909670066941863:True:=⟨⟩
theorem tw9565188630546683335:True:=⟨⟩
theorem tw2298914082760217031:True:=⟨⟩
theorem tw7291201710529191399:True:=⟨⟩
theorem tw2978360442360904238:True:=⟨⟩
theorem tw7366966349755769390:True:=⟨⟩
theorem tw17293040134813132398:True:=⟨⟩
theorem tw16343906396252043406:True:=⟨⟩
theorem tw16381980959767241870:True:=⟨⟩
theorem tw2633100523294567566:True:=⟨⟩
theorem tw3708749935247036590:True:=⟨⟩
theorem tw14667917501914195118:True:=⟨⟩
theorem tw13090235224947412142:True:=⟨⟩
theorem tw13748651382086619886:True:=⟨⟩
theorem tw9299876090191300334:True:=⟨⟩
theorem tw4799217392094311150:True:=⟨⟩
theorem tw12353813775906059566:True:=⟨⟩
theorem tw84514281460927790:True:=⟨⟩
theorem tw4952695281440224590:True:=⟨⟩
theorem tw10695546567524401486:True:=⟨⟩
theorem tw13934254615512129870:True:=⟨⟩
theorem tw140484726810584974:True:=⟨⟩
theorem tw10303968668570466222:True:=⟨⟩
theorem tw3379215592710810542:True:=⟨⟩
theorem tw3985482593949860782:True:=⟨⟩
theorem tw15187294628808286126:True:=⟨⟩
theorem tw2261421588700274638:True:=⟨⟩
theorem tw3310860890811097582:True:=⟨⟩
theorem tw16772482149012073998:True:=⟨⟩
theorem tw16985988459906744398:True:=⟨⟩
theorem tw2540495820296734350:True:=⟨⟩
theorem tw11122251452892550798:True:=⟨⟩
theorem tw10916717783038204558:True:=⟨⟩
theorem tw1382604328053016238:True:=⟨⟩
theorem tw2228332982408152750:True:=⟨⟩
theorem tw2674761109334423214:True:=⟨⟩
theorem tw9154938123599455950:True:=⟨⟩
theorem tw3695579603394428622:True:=⟨⟩
theorem tw3596915852536691534:True:=⟨⟩
theorem tw6521165335183232846:True:=⟨⟩
theorem tw5561763199174522734:True:=⟨⟩
theorem tw6109326565077728654:True:=⟨⟩
theorem tw7748162344757003694:True:=⟨⟩
theorem tw14169439949656811534:True:=⟨⟩
theorem tw1743345963533338969:True:=⟨⟩
theorem tw13342351911977509785:True:=⟨⟩
theorem tw14347226246240139161:True:=⟨⟩
theorem tw14292037427810857913:True:=⟨⟩
theorem tw2290405993484560889:True:=⟨⟩
theorem tw2992056685137445369:True:=⟨⟩
theorem tw11822278912455534105:True:=⟨⟩
theorem tw9776540465710201401:True:=⟨⟩
theorem tw11910221601743685753:True:=⟨⟩
theorem tw5733679174803048569:True:=⟨⟩
theorem tw7794447553816605337:True:=⟨⟩
theorem tw18420004603335881977:True:=⟨⟩
theorem tw12872673566709696761:True:=⟨⟩
theorem tw15218124028859059513:True:=⟨⟩
theorem tw14775469409186757945:True:=⟨⟩
theorem tw4538774211291661145:True:=⟨⟩
theorem tw11827359447094427065:True:=⟨⟩
theorem tw7264783172807538105:True:=⟨⟩
theorem tw13442586663619943417:True:=⟨⟩
theorem tw2184172125623563289:True:=⟨⟩
theorem tw7019023140057738265:True:=⟨⟩
theorem tw1284967617690943513:True:=⟨⟩
theorem tw3783848015190637625:True:=⟨⟩
theorem tw10580527313916683865:True:=⟨⟩
theorem tw3719543078226671225:True:=⟨⟩
theorem tw16152042100665958553:True:=⟨⟩
theorem tw2057716341744399545:True:=⟨⟩
theorem tw15468000139907181785:True:=⟨⟩
theorem tw16288908156278691609:True:=⟨⟩
theorem tw9386645067147707984:True:=⟨⟩
theorem tw14264771151246065232:True:=⟨⟩
theorem tw9257701769616213584:True:=⟨⟩
theorem tw8456221942631779472:True:=⟨⟩
theorem tw16838189389307913904:True:=⟨⟩
theorem tw11613439357962438320:True:=⟨⟩
theorem tw16028392598184163056:True:=⟨⟩
theorem tw17439343132499600656:True:=⟨⟩
theorem tw9002507580857799536:True:=⟨⟩
theorem tw488895473941219216:True:=⟨⟩
theorem tw15662467652954760656:True:=⟨⟩
theorem tw11638875634453789168:True:=⟨⟩
theorem tw11804117523773053968:True:=⟨⟩
theorem tw17467276233706154064:True:=⟨⟩
theorem tw11012129470220845136:True:=⟨⟩
theorem tw1863683800879511184:True:=⟨⟩
theorem tw13155686724948042960:True:=⟨⟩
theorem tw210822286310616272:True:=⟨⟩
theorem tw13323652809882095824:True:=⟨⟩
theorem tw1848521739074249968:True:=⟨⟩
theorem tw16978793380469540624:True:=⟨⟩
theorem tw5096790010580003632:True:=⟨⟩
theorem tw4331608280046720368:True:=⟨⟩
theorem tw17222532714639596944:True:=⟨⟩
theorem tw8872105718554685360:True:=⟨⟩
theorem tw8858540271125762992:True:=⟨⟩
theorem tw18370884914743140272:True:=⟨⟩
theorem tw856872831472943024:True:=⟨⟩
theorem tw18320578867353144272:True:=⟨⟩
theorem tw12370082323872129008:True:=⟨⟩
theorem tw9537812907215041040:True:=⟨⟩
theorem tw4960754326464356880:True:=⟨⟩
theorem tw18398800829542192811:True:=⟨⟩
theorem tw12820903949589551787:True:=⟨⟩
theorem tw9410493436074027243:True:=⟨⟩
theorem tw11043172894279154955:True:=⟨⟩
theorem tw13320777612471585035:True:=⟨⟩
theorem tw6357531908561853707:True:=⟨⟩
theorem tw13685464850760795979:True:=⟨⟩
theorem tw7386879829546924875:True:=⟨⟩
theorem tw1976350527869358923:True:=⟨⟩
theorem tw4236263444705798571:True:=⟨⟩
theorem tw2864606846018454059:True:=⟨⟩
theorem tw5565504619827430955:True:=⟨⟩
theorem tw6876659525886429291:True:=⟨⟩
theorem tw5764495316440919179:True:=⟨⟩
theorem tw10871283571528544395:True:=⟨⟩
theorem tw5760789257564444811:True:=⟨⟩
theorem tw878727644738817739:True:=⟨⟩
theorem tw7257662411179477739:True:=⟨⟩
theorem tw12566714432673101547:True:=⟨⟩
theorem tw469107726730205931:True:=⟨⟩
theorem tw12425137391138224907:True:=⟨⟩
theorem tw10926241578131026219:True:=⟨⟩
theorem tw9881309371292612907:True:=⟨⟩
theorem tw5451521477706531147:True:=⟨⟩
theorem tw16276725121630806347:True:=⟨⟩
theorem tw6544255722497290091:True:=⟨⟩
theorem tw8307029076902094731:True:=⟨⟩
theorem tw13173194763038928779:True:=⟨⟩
theorem tw5293604023752008139:True:=⟨⟩
theorem tw10069043383181002187:True:=⟨⟩
theorem tw15146226633581336011:True:=⟨⟩
theorem tw12503034225725685227:True:=⟨⟩
theorem tw1845388188213433419:True:=⟨⟩
theorem tw15449954396954739307:True:=⟨⟩
theorem tw202461495639692907:True:=⟨⟩
theorem tw16176231961500713579:True:=⟨⟩
theorem tw14070738237383849611:True:=⟨⟩
theorem tw16264370154056066:True:=⟨⟩
theorem tw1855208217236249986:True:=⟨⟩
theorem tw3403611876695301538:True:=⟨⟩
theorem tw10694066461022140834:True:=⟨⟩
theorem tw11573176164066078722:True:=⟨⟩
theorem tw12903161261186272290:True:=⟨⟩
theorem tw16798859928846278210:True:=⟨⟩
theorem tw2669904441775164994:True:=⟨⟩
theorem tw7210885811916109378:True:=⟨⟩
theorem tw7466017828420861538:True:=⟨⟩
theorem tw2190744131759121538:True:=⟨⟩
theorem tw12494496518044278946:True:=⟨⟩
theorem tw8737412656630864066:True:=⟨⟩
theorem tw3519620770301490914:True:=⟨⟩
theorem tw2703845700531461890:True:=⟨⟩
theorem tw785891212050648866:True:=⟨⟩
theorem tw15056359852086789922:True:=⟨⟩
theorem tw1284343163701477698:True:=⟨⟩
theorem tw925267241579179362:True:=⟨⟩
theorem tw4130779263140762978:True:=⟨⟩
theorem tw11543472635058493794:True:=⟨⟩
theorem tw9149405669475974018:True:=⟨⟩
theorem tw2737750725896957826:True:=⟨⟩
theorem tw6773626534007703490:True:=⟨⟩
theorem tw6889469565048147906:True:=⟨⟩
theorem tw432037875751373314:True:=⟨⟩
theorem tw13308840040871830018:True:=⟨⟩
theorem tw15182042088927537698:True:=⟨⟩
theorem tw12144329760196138050:True:=⟨⟩
theorem tw14129796398099195522:True:=⟨⟩
theorem tw11034916536091838146:True:=⟨⟩
theorem tw14084985943505131202:True:=⟨⟩
theorem tw5791107954587784898:True:=⟨⟩
theorem tw17065970260752692450:True:=⟨⟩
theorem tw18238190117704969506:True:=⟨⟩
theorem tw11448136090814059330:True:=⟨⟩
theorem tw3531981540585742146:True:=⟨⟩
theorem tw7914966534203543394:True:=⟨⟩
end main
set_option maxHeartbeats 8000000 in
set_option Elab.async true in
theorem main : PySem.Challenge.rw_qz0025_01.Holds := by
  w_on
  o_law
  o_head (kHook k0.heap_1 AS as_is)
  (case hw => w_witness2)
  exact walk _ rfl

end Mine.Internal
theorem PySem.Challenge.cw_qz0025_01_holds : PySem.Challenge.rw_qz0025_01.Holds := by
  exact Mine.Internal.main
