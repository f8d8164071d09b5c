import PyProof.Rows.All
import Wide.All
import OpenK.AllK
import Wide.FinOn
import PySem.Challenge.RW_pf0236_01
open PySem PySem.W PySem.Calls PyProof.Rows
set_option Elab.async false
set_option maxRecDepth 100000
set_option compiler.extract_closed false
set_option linter.unusedVariables false
namespace Mine
/-! the head: the looks at the law, the objects of the top that are written out, the one check of the top -/
theorem wellS : PySem.Challenge.rw_pf0236_01.wellSaid = true := by
  rw [PySem.W.Fast.te9446332074065402090]
  kernel_rfl
section
local macro_rules | `(tactic| o_head $_) => `(tactic| assumption)
theorem hT (h : PySem.Challenge.rw_pf0236_01.row.Holds) : PySem.Challenge.rw_pf0236_01.row.Holds := by k_head
end
noncomputable def vw : Program := PySem.W.view PySem.Challenge.pw_pf0236_01 [0, 2, 3, 4, 6, 8, 9, 10, 11, 12, 13, 15, 16, 17, 19, 21, 23, 24, 25, 26, 27, 28, 29, 30, 31]
noncomputable def frAs : List Addr := [2, 3, 15, 17, 18, 20, 21, 22, 24, 25, 27, 28, 29, 31, 32, 34, 35, 36, 38, 39, 41, 42, 43, 45, 46, 48, 49, 50, 51, 52, 53, 54, 55, 57, 58, 60, 61, 62, 64, 65, 67, 68, 69, 71, 72, 74, 75, 76, 79, 80, 81, 83, 84, 86, 87, 88, 90, 91, 93, 94, 102, 104, 105, 107, 108, 109, 110, 111, 112, 113, 123, 125, 126, 128, 129, 130, 133, 134, 135, 138, 139, 140, 142, 143, 145, 146, 147, 149, 150, 152, 153, 154, 156, 157, 159, 160, 161, 163, 164, 166, 167, 168, 170, 171, 173, 174, 175, 176, 177, 178, 179, 189, 192, 193, 194, 196, 197, 199, 200, 201, 203, 204, 206, 207, 208, 209, 210, 211, 212, 222, 224, 225, 227, 228, 229, 231, 232, 234, 235, 236, 238, 239, 241, 242, 243, 244, 245, 246, 247, 250, 252, 253, 255, 256, 257, 259, 260, 262, 263, 264, 267, 268, 269, 271, 272, 274, 275, 276, 279, 280, 281, 283, 284, 286, 287, 288, 291, 292, 293, 295, 296, 298, 299, 300, 303, 304]
theorem frE (P : Params) : frAs = (hT.heap_1 P).map (·.1) := by kernel_rfl
noncomputable def hook : Hook := kHook hT.heap_1 frAs frE
theorem left_boot {p q : Program} {loose : List Str} {Xt : Shared → Bool} {α : Type} {Yf : Shared → α} {Ya : World → α} {N : Nat}
    (e : opening p = plainProg p.main.scope.names) (hN : Nat.ble 600 N = true) (f : ∀ s, fenceModules? p s = some s)
    (h : ∀ (w : World) (os : OsState), (topFrom treeTable p w N ⟨boot_heap w.params, #[], boot_drawn, boot_toks, os⟩).map (fun s => (openSeen q loose (importedModules p.main.body) Xt true s, Yf s)) = some (openGood q loose, Ya w)) :
    LeftO p q loose Xt Yf Ya N true := fun w => by
  obtain ⟨⟨h0, gs, d, k, os⟩, e1, e2⟩ := Option.map_eq_some_iff.mp (boot_open e hN f w)
  obtain ⟨rfl, rfl, rfl, rfl⟩ : h0 = boot_heap w.params ∧ gs = #[] ∧ d = boot_drawn ∧ k = boot_toks := by simpa using e2
  unfold openEnds
  rw [e1]
  exact h w os
noncomputable def looksX (s : Shared) : Bool := xlAt vw [] s && recOk (RowW.records (OpenRow.toRowW PySem.Challenge.rw_pf0236_01.row)) s
theorem left : LeftO PySem.Challenge.pw_pf0236_01 vw [] looksX hook.obs hook.val 4108 := by
  refine left_boot (by kernel_rfl) (by rfl) (fun s => by kernel_rfl) (fun w os => ?_)
  unfold PySem.W.topFrom
  rw [PySem.W.Fast.te14082659384304107361, PySem.W.Fast.te14364793385576792824, PySem.W.Fast.te4187177175401517315]
  kernel_rfl
end Mine
theorem Mine.fills : (fun (_ : OpenLaw) (_ : Params → Frag) => True) PySem.Challenge.rw_pf0236_01 Mine.hT.heap_1 := by k_fill; trivial
namespace Mine
section
/-! packages are opened at one stroke: the proofs stay short -/
theorem anE2 {a0 a1 C : Prop} (h : a0 ∧ a1) (k : a0 → a1 → C) : C := k h.1 h.2
theorem anE3 {a0 a1 a2 C : Prop} (h : a0 ∧ a1 ∧ a2) (k : a0 → a1 → a2 → C) : C := k h.1 h.2.1 h.2.2
theorem anE4 {a0 a1 a2 a3 C : Prop} (h : a0 ∧ a1 ∧ a2 ∧ a3) (k : a0 → a1 → a2 → a3 → C) : C := k h.1 h.2.1 h.2.2.1 h.2.2.2
theorem anE5 {a0 a1 a2 a3 a4 C : Prop} (h : a0 ∧ a1 ∧ a2 ∧ a3 ∧ a4) (k : a0 → a1 → a2 → a3 → a4 → C) : C := k h.1 h.2.1 h.2.2.1 h.2.2.2.1 h.2.2.2.2
theorem anE9 {a0 a1 a2 a3 a4 a5 a6 a7 a8 C : Prop} (h : a0 ∧ a1 ∧ a2 ∧ a3 ∧ a4 ∧ a5 ∧ a6 ∧ a7 ∧ a8) (k : a0 → a1 → a2 → a3 → a4 → a5 → a6 → a7 → a8 → C) : C := k h.1 h.2.1 h.2.2.1 h.2.2.2.1 h.2.2.2.2.1 h.2.2.2.2.2.1 h.2.2.2.2.2.2.1 h.2.2.2.2.2.2.2.1 h.2.2.2.2.2.2.2.2
theorem ea1_2 {α0 : Type} {p0 p1 : α0 → Prop} {C : Prop} (h : ∃ (x0 : α0), p0 x0 ∧ p1 x0) (k : ∀ (x0 : α0), p0 x0 → p1 x0 → C) : C := h.elim fun x0 h => k x0 h.1 h.2
theorem ea1_3 {α0 : Type} {p0 p1 p2 : α0 → Prop} {C : Prop} (h : ∃ (x0 : α0), p0 x0 ∧ p1 x0 ∧ p2 x0) (k : ∀ (x0 : α0), p0 x0 → p1 x0 → p2 x0 → C) : C := h.elim fun x0 h => k x0 h.1 h.2.1 h.2.2
theorem ea1_4 {α0 : Type} {p0 p1 p2 p3 : α0 → Prop} {C : Prop} (h : ∃ (x0 : α0), p0 x0 ∧ p1 x0 ∧ p2 x0 ∧ p3 x0) (k : ∀ (x0 : α0), p0 x0 → p1 x0 → p2 x0 → p3 x0 → C) : C := h.elim fun x0 h => k x0 h.1 h.2.1 h.2.2.1 h.2.2.2
theorem ea1_5 {α0 : Type} {p0 p1 p2 p3 p4 : α0 → Prop} {C : Prop} (h : ∃ (x0 : α0), p0 x0 ∧ p1 x0 ∧ p2 x0 ∧ p3 x0 ∧ p4 x0) (k : ∀ (x0 : α0), p0 x0 → p1 x0 → p2 x0 → p3 x0 → p4 x0 → C) : C := h.elim fun x0 h => k x0 h.1 h.2.1 h.2.2.1 h.2.2.2.1 h.2.2.2.2
theorem ea1_6 {α0 : Type} {p0 p1 p2 p3 p4 p5 : α0 → Prop} {C : Prop} (h : ∃ (x0 : α0), p0 x0 ∧ p1 x0 ∧ p2 x0 ∧ p3 x0 ∧ p4 x0 ∧ p5 x0) (k : ∀ (x0 : α0), p0 x0 → p1 x0 → p2 x0 → p3 x0 → p4 x0 → p5 x0 → C) : C := h.elim fun x0 h => k x0 h.1 h.2.1 h.2.2.1 h.2.2.2.1 h.2.2.2.2.1 h.2.2.2.2.2
theorem ea1_8 {α0 : Type} {p0 p1 p2 p3 p4 p5 p6 p7 : α0 → Prop} {C : Prop} (h : ∃ (x0 : α0), p0 x0 ∧ p1 x0 ∧ p2 x0 ∧ p3 x0 ∧ p4 x0 ∧ p5 x0 ∧ p6 x0 ∧ p7 x0) (k : ∀ (x0 : α0), p0 x0 → p1 x0 → p2 x0 → p3 x0 → p4 x0 → p5 x0 → p6 x0 → p7 x0 → C) : C := h.elim fun x0 h => k x0 h.1 h.2.1 h.2.2.1 h.2.2.2.1 h.2.2.2.2.1 h.2.2.2.2.2.1 h.2.2.2.2.2.2.1 h.2.2.2.2.2.2.2
theorem ea1_9 {α0 : Type} {p0 p1 p2 p3 p4 p5 p6 p7 p8 : α0 → Prop} {C : Prop} (h : ∃ (x0 : α0), p0 x0 ∧ p1 x0 ∧ p2 x0 ∧ p3 x0 ∧ p4 x0 ∧ p5 x0 ∧ p6 x0 ∧ p7 x0 ∧ p8 x0) (k : ∀ (x0 : α0), p0 x0 → p1 x0 → p2 x0 → p3 x0 → p4 x0 → p5 x0 → p6 x0 → p7 x0 → p8 x0 → C) : C := h.elim fun x0 h => k x0 h.1 h.2.1 h.2.2.1 h.2.2.2.1 h.2.2.2.2.1 h.2.2.2.2.2.1 h.2.2.2.2.2.2.1 h.2.2.2.2.2.2.2.1 h.2.2.2.2.2.2.2.2
theorem ea1_10 {α0 : Type} {p0 p1 p2 p3 p4 p5 p6 p7 p8 p9 : α0 → Prop} {C : Prop} (h : ∃ (x0 : α0), p0 x0 ∧ p1 x0 ∧ p2 x0 ∧ p3 x0 ∧ p4 x0 ∧ p5 x0 ∧ p6 x0 ∧ p7 x0 ∧ p8 x0 ∧ p9 x0) (k : ∀ (x0 : α0), p0 x0 → p1 x0 → p2 x0 → p3 x0 → p4 x0 → p5 x0 → p6 x0 → p7 x0 → p8 x0 → p9 x0 → C) : C := h.elim fun x0 h => k x0 h.1 h.2.1 h.2.2.1 h.2.2.2.1 h.2.2.2.2.1 h.2.2.2.2.2.1 h.2.2.2.2.2.2.1 h.2.2.2.2.2.2.2.1 h.2.2.2.2.2.2.2.2.1 h.2.2.2.2.2.2.2.2.2
theorem ea2_2 {α0 α1 : Type} {p0 p1 : α0 → α1 → Prop} {C : Prop} (h : ∃ (x0 : α0) (x1 : α1), p0 x0 x1 ∧ p1 x0 x1) (k : ∀ (x0 : α0) (x1 : α1), p0 x0 x1 → p1 x0 x1 → C) : C := h.elim fun x0 h => h.elim fun x1 h => k x0 x1 h.1 h.2
theorem ea2_3 {α0 α1 : Type} {p0 p1 p2 : α0 → α1 → Prop} {C : Prop} (h : ∃ (x0 : α0) (x1 : α1), p0 x0 x1 ∧ p1 x0 x1 ∧ p2 x0 x1) (k : ∀ (x0 : α0) (x1 : α1), p0 x0 x1 → p1 x0 x1 → p2 x0 x1 → C) : C := h.elim fun x0 h => h.elim fun x1 h => k x0 x1 h.1 h.2.1 h.2.2
theorem ea2_4 {α0 α1 : Type} {p0 p1 p2 p3 : α0 → α1 → Prop} {C : Prop} (h : ∃ (x0 : α0) (x1 : α1), p0 x0 x1 ∧ p1 x0 x1 ∧ p2 x0 x1 ∧ p3 x0 x1) (k : ∀ (x0 : α0) (x1 : α1), p0 x0 x1 → p1 x0 x1 → p2 x0 x1 → p3 x0 x1 → C) : C := h.elim fun x0 h => h.elim fun x1 h => k x0 x1 h.1 h.2.1 h.2.2.1 h.2.2.2
theorem ea2_6 {α0 α1 : Type} {p0 p1 p2 p3 p4 p5 : α0 → α1 → Prop} {C : Prop} (h : ∃ (x0 : α0) (x1 : α1), p0 x0 x1 ∧ p1 x0 x1 ∧ p2 x0 x1 ∧ p3 x0 x1 ∧ p4 x0 x1 ∧ p5 x0 x1) (k : ∀ (x0 : α0) (x1 : α1), p0 x0 x1 → p1 x0 x1 → p2 x0 x1 → p3 x0 x1 → p4 x0 x1 → p5 x0 x1 → C) : C := h.elim fun x0 h => h.elim fun x1 h => k x0 x1 h.1 h.2.1 h.2.2.1 h.2.2.2.1 h.2.2.2.2.1 h.2.2.2.2.2
theorem ea2_7 {α0 α1 : Type} {p0 p1 p2 p3 p4 p5 p6 : α0 → α1 → Prop} {C : Prop} (h : ∃ (x0 : α0) (x1 : α1), p0 x0 x1 ∧ p1 x0 x1 ∧ p2 x0 x1 ∧ p3 x0 x1 ∧ p4 x0 x1 ∧ p5 x0 x1 ∧ p6 x0 x1) (k : ∀ (x0 : α0) (x1 : α1), p0 x0 x1 → p1 x0 x1 → p2 x0 x1 → p3 x0 x1 → p4 x0 x1 → p5 x0 x1 → p6 x0 x1 → C) : C := h.elim fun x0 h => h.elim fun x1 h => k x0 x1 h.1 h.2.1 h.2.2.1 h.2.2.2.1 h.2.2.2.2.1 h.2.2.2.2.2.1 h.2.2.2.2.2.2
theorem ea2_8 {α0 α1 : Type} {p0 p1 p2 p3 p4 p5 p6 p7 : α0 → α1 → Prop} {C : Prop} (h : ∃ (x0 : α0) (x1 : α1), p0 x0 x1 ∧ p1 x0 x1 ∧ p2 x0 x1 ∧ p3 x0 x1 ∧ p4 x0 x1 ∧ p5 x0 x1 ∧ p6 x0 x1 ∧ p7 x0 x1) (k : ∀ (x0 : α0) (x1 : α1), p0 x0 x1 → p1 x0 x1 → p2 x0 x1 → p3 x0 x1 → p4 x0 x1 → p5 x0 x1 → p6 x0 x1 → p7 x0 x1 → C) : C := h.elim fun x0 h => h.elim fun x1 h => k x0 x1 h.1 h.2.1 h.2.2.1 h.2.2.2.1 h.2.2.2.2.1 h.2.2.2.2.2.1 h.2.2.2.2.2.2.1 h.2.2.2.2.2.2.2
theorem ea2_9 {α0 α1 : Type} {p0 p1 p2 p3 p4 p5 p6 p7 p8 : α0 → α1 → Prop} {C : Prop} (h : ∃ (x0 : α0) (x1 : α1), p0 x0 x1 ∧ p1 x0 x1 ∧ p2 x0 x1 ∧ p3 x0 x1 ∧ p4 x0 x1 ∧ p5 x0 x1 ∧ p6 x0 x1 ∧ p7 x0 x1 ∧ p8 x0 x1) (k : ∀ (x0 : α0) (x1 : α1), p0 x0 x1 → p1 x0 x1 → p2 x0 x1 → p3 x0 x1 → p4 x0 x1 → p5 x0 x1 → p6 x0 x1 → p7 x0 x1 → p8 x0 x1 → C) : C := h.elim fun x0 h => h.elim fun x1 h => k x0 x1 h.1 h.2.1 h.2.2.1 h.2.2.2.1 h.2.2.2.2.1 h.2.2.2.2.2.1 h.2.2.2.2.2.2.1 h.2.2.2.2.2.2.2.1 h.2.2.2.2.2.2.2.2
theorem ea3_1 {α0 α1 α2 : Type} {p0 : α0 → α1 → α2 → Prop} {C : Prop} (h : ∃ (x0 : α0) (x1 : α1) (x2 : α2), p0 x0 x1 x2) (k : ∀ (x0 : α0) (x1 : α1) (x2 : α2), p0 x0 x1 x2 → C) : C := h.elim fun x0 h => h.elim fun x1 h => h.elim fun x2 h => k x0 x1 x2 h
theorem ea3_2 {α0 α1 α2 : Type} {p0 p1 : α0 → α1 → α2 → Prop} {C : Prop} (h : ∃ (x0 : α0) (x1 : α1) (x2 : α2), p0 x0 x1 x2 ∧ p1 x0 x1 x2) (k : ∀ (x0 : α0) (x1 : α1) (x2 : α2), p0 x0 x1 x2 → p1 x0 x1 x2 → C) : C := h.elim fun x0 h => h.elim fun x1 h => h.elim fun x2 h => k x0 x1 x2 h.1 h.2
theorem ea3_3 {α0 α1 α2 : Type} {p0 p1 p2 : α0 → α1 → α2 → Prop} {C : Prop} (h : ∃ (x0 : α0) (x1 : α1) (x2 : α2), p0 x0 x1 x2 ∧ p1 x0 x1 x2 ∧ p2 x0 x1 x2) (k : ∀ (x0 : α0) (x1 : α1) (x2 : α2), p0 x0 x1 x2 → p1 x0 x1 x2 → p2 x0 x1 x2 → C) : C := h.elim fun x0 h => h.elim fun x1 h => h.elim fun x2 h => k x0 x1 x2 h.1 h.2.1 h.2.2
theorem ea3_4 {α0 α1 α2 : Type} {p0 p1 p2 p3 : α0 → α1 → α2 → Prop} {C : Prop} (h : ∃ (x0 : α0) (x1 : α1) (x2 : α2), p0 x0 x1 x2 ∧ p1 x0 x1 x2 ∧ p2 x0 x1 x2 ∧ p3 x0 x1 x2) (k : ∀ (x0 : α0) (x1 : α1) (x2 : α2), p0 x0 x1 x2 → p1 x0 x1 x2 → p2 x0 x1 x2 → p3 x0 x1 x2 → C) : C := h.elim fun x0 h => h.elim fun x1 h => h.elim fun x2 h => k x0 x1 x2 h.1 h.2.1 h.2.2.1 h.2.2.2
theorem ea3_5 {α0 α1 α2 : Type} {p0 p1 p2 p3 p4 : α0 → α1 → α2 → Prop} {C : Prop} (h : ∃ (x0 : α0) (x1 : α1) (x2 : α2), p0 x0 x1 x2 ∧ p1 x0 x1 x2 ∧ p2 x0 x1 x2 ∧ p3 x0 x1 x2 ∧ p4 x0 x1 x2) (k : ∀ (x0 : α0) (x1 : α1) (x2 : α2), p0 x0 x1 x2 → p1 x0 x1 x2 → p2 x0 x1 x2 → p3 x0 x1 x2 → p4 x0 x1 x2 → C) : C := h.elim fun x0 h => h.elim fun x1 h => h.elim fun x2 h => k x0 x1 x2 h.1 h.2.1 h.2.2.1 h.2.2.2.1 h.2.2.2.2
theorem ea3_6 {α0 α1 α2 : Type} {p0 p1 p2 p3 p4 p5 : α0 → α1 → α2 → Prop} {C : Prop} (h : ∃ (x0 : α0) (x1 : α1) (x2 : α2), p0 x0 x1 x2 ∧ p1 x0 x1 x2 ∧ p2 x0 x1 x2 ∧ p3 x0 x1 x2 ∧ p4 x0 x1 x2 ∧ p5 x0 x1 x2) (k : ∀ (x0 : α0) (x1 : α1) (x2 : α2), p0 x0 x1 x2 → p1 x0 x1 x2 → p2 x0 x1 x2 → p3 x0 x1 x2 → p4 x0 x1 x2 → p5 x0 x1 x2 → C) : C := h.elim fun x0 h => h.elim fun x1 h => h.elim fun x2 h => k x0 x1 x2 h.1 h.2.1 h.2.2.1 h.2.2.2.1 h.2.2.2.2.1 h.2.2.2.2.2
theorem ea3_7 {α0 α1 α2 : Type} {p0 p1 p2 p3 p4 p5 p6 : α0 → α1 → α2 → Prop} {C : Prop} (h : ∃ (x0 : α0) (x1 : α1) (x2 : α2), p0 x0 x1 x2 ∧ p1 x0 x1 x2 ∧ p2 x0 x1 x2 ∧ p3 x0 x1 x2 ∧ p4 x0 x1 x2 ∧ p5 x0 x1 x2 ∧ p6 x0 x1 x2) (k : ∀ (x0 : α0) (x1 : α1) (x2 : α2), p0 x0 x1 x2 → p1 x0 x1 x2 → p2 x0 x1 x2 → p3 x0 x1 x2 → p4 x0 x1 x2 → p5 x0 x1 x2 → p6 x0 x1 x2 → C) : C := h.elim fun x0 h => h.elim fun x1 h => h.elim fun x2 h => k x0 x1 x2 h.1 h.2.1 h.2.2.1 h.2.2.2.1 h.2.2.2.2.1 h.2.2.2.2.2.1 h.2.2.2.2.2.2
theorem ea3_8 {α0 α1 α2 : Type} {p0 p1 p2 p3 p4 p5 p6 p7 : α0 → α1 → α2 → Prop} {C : Prop} (h : ∃ (x0 : α0) (x1 : α1) (x2 : α2), p0 x0 x1 x2 ∧ p1 x0 x1 x2 ∧ p2 x0 x1 x2 ∧ p3 x0 x1 x2 ∧ p4 x0 x1 x2 ∧ p5 x0 x1 x2 ∧ p6 x0 x1 x2 ∧ p7 x0 x1 x2) (k : ∀ (x0 : α0) (x1 : α1) (x2 : α2), p0 x0 x1 x2 → p1 x0 x1 x2 → p2 x0 x1 x2 → p3 x0 x1 x2 → p4 x0 x1 x2 → p5 x0 x1 x2 → p6 x0 x1 x2 → p7 x0 x1 x2 → C) : C := h.elim fun x0 h => h.elim fun x1 h => h.elim fun x2 h => k x0 x1 x2 h.1 h.2.1 h.2.2.1 h.2.2.2.1 h.2.2.2.2.1 h.2.2.2.2.2.1 h.2.2.2.2.2.2.1 h.2.2.2.2.2.2.2
theorem ea4_1 {α0 α1 α2 α3 : Type} {p0 : α0 → α1 → α2 → α3 → Prop} {C : Prop} (h : ∃ (x0 : α0) (x1 : α1) (x2 : α2) (x3 : α3), p0 x0 x1 x2 x3) (k : ∀ (x0 : α0) (x1 : α1) (x2 : α2) (x3 : α3), p0 x0 x1 x2 x3 → C) : C := h.elim fun x0 h => h.elim fun x1 h => h.elim fun x2 h => h.elim fun x3 h => k x0 x1 x2 x3 h
theorem ea4_2 {α0 α1 α2 α3 : Type} {p0 p1 : α0 → α1 → α2 → α3 → Prop} {C : Prop} (h : ∃ (x0 : α0) (x1 : α1) (x2 : α2) (x3 : α3), p0 x0 x1 x2 x3 ∧ p1 x0 x1 x2 x3) (k : ∀ (x0 : α0) (x1 : α1) (x2 : α2) (x3 : α3), p0 x0 x1 x2 x3 → p1 x0 x1 x2 x3 → C) : C := h.elim fun x0 h => h.elim fun x1 h => h.elim fun x2 h => h.elim fun x3 h => k x0 x1 x2 x3 h.1 h.2
theorem ea4_3 {α0 α1 α2 α3 : Type} {p0 p1 p2 : α0 → α1 → α2 → α3 → Prop} {C : Prop} (h : ∃ (x0 : α0) (x1 : α1) (x2 : α2) (x3 : α3), p0 x0 x1 x2 x3 ∧ p1 x0 x1 x2 x3 ∧ p2 x0 x1 x2 x3) (k : ∀ (x0 : α0) (x1 : α1) (x2 : α2) (x3 : α3), p0 x0 x1 x2 x3 → p1 x0 x1 x2 x3 → p2 x0 x1 x2 x3 → C) : C := h.elim fun x0 h => h.elim fun x1 h => h.elim fun x2 h => h.elim fun x3 h => k x0 x1 x2 x3 h.1 h.2.1 h.2.2
theorem ea4_5 {α0 α1 α2 α3 : Type} {p0 p1 p2 p3 p4 : α0 → α1 → α2 → α3 → Prop} {C : Prop} (h : ∃ (x0 : α0) (x1 : α1) (x2 : α2) (x3 : α3), p0 x0 x1 x2 x3 ∧ p1 x0 x1 x2 x3 ∧ p2 x0 x1 x2 x3 ∧ p3 x0 x1 x2 x3 ∧ p4 x0 x1 x2 x3) (k : ∀ (x0 : α0) (x1 : α1) (x2 : α2) (x3 : α3), p0 x0 x1 x2 x3 → p1 x0 x1 x2 x3 → p2 x0 x1 x2 x3 → p3 x0 x1 x2 x3 → p4 x0 x1 x2 x3 → C) : C := h.elim fun x0 h => h.elim fun x1 h => h.elim fun x2 h => h.elim fun x3 h => k x0 x1 x2 x3 h.1 h.2.1 h.2.2.1 h.2.2.2.1 h.2.2.2.2
theorem ea4_6 {α0 α1 α2 α3 : Type} {p0 p1 p2 p3 p4 p5 : α0 → α1 → α2 → α3 → Prop} {C : Prop} (h : ∃ (x0 : α0) (x1 : α1) (x2 : α2) (x3 : α3), p0 x0 x1 x2 x3 ∧ p1 x0 x1 x2 x3 ∧ p2 x0 x1 x2 x3 ∧ p3 x0 x1 x2 x3 ∧ p4 x0 x1 x2 x3 ∧ p5 x0 x1 x2 x3) (k : ∀ (x0 : α0) (x1 : α1) (x2 : α2) (x3 : α3), p0 x0 x1 x2 x3 → p1 x0 x1 x2 x3 → p2 x0 x1 x2 x3 → p3 x0 x1 x2 x3 → p4 x0 x1 x2 x3 → p5 x0 x1 x2 x3 → C) : C := h.elim fun x0 h => h.elim fun x1 h => h.elim fun x2 h => h.elim fun x3 h => k x0 x1 x2 x3 h.1 h.2.1 h.2.2.1 h.2.2.2.1 h.2.2.2.2.1 h.2.2.2.2.2
theorem ea5_2 {α0 α1 α2 α3 α4 : Type} {p0 p1 : α0 → α1 → α2 → α3 → α4 → Prop} {C : Prop} (h : ∃ (x0 : α0) (x1 : α1) (x2 : α2) (x3 : α3) (x4 : α4), p0 x0 x1 x2 x3 x4 ∧ p1 x0 x1 x2 x3 x4) (k : ∀ (x0 : α0) (x1 : α1) (x2 : α2) (x3 : α3) (x4 : α4), p0 x0 x1 x2 x3 x4 → p1 x0 x1 x2 x3 x4 → C) : C := h.elim fun x0 h => h.elim fun x1 h => h.elim fun x2 h => h.elim fun x3 h => h.elim fun x4 h => k x0 x1 x2 x3 x4 h.1 h.2
theorem ea5_3 {α0 α1 α2 α3 α4 : Type} {p0 p1 p2 : α0 → α1 → α2 → α3 → α4 → Prop} {C : Prop} (h : ∃ (x0 : α0) (x1 : α1) (x2 : α2) (x3 : α3) (x4 : α4), p0 x0 x1 x2 x3 x4 ∧ p1 x0 x1 x2 x3 x4 ∧ p2 x0 x1 x2 x3 x4) (k : ∀ (x0 : α0) (x1 : α1) (x2 : α2) (x3 : α3) (x4 : α4), p0 x0 x1 x2 x3 x4 → p1 x0 x1 x2 x3 x4 → p2 x0 x1 x2 x3 x4 → C) : C := h.elim fun x0 h => h.elim fun x1 h => h.elim fun x2 h => h.elim fun x3 h => h.elim fun x4 h => k x0 x1 x2 x3 x4 h.1 h.2.1 h.2.2
theorem ea5_5 {α0 α1 α2 α3 α4 : Type} {p0 p1 p2 p3 p4 : α0 → α1 → α2 → α3 → α4 → Prop} {C : Prop} (h : ∃ (x0 : α0) (x1 : α1) (x2 : α2) (x3 : α3) (x4 : α4), p0 x0 x1 x2 x3 x4 ∧ p1 x0 x1 x2 x3 x4 ∧ p2 x0 x1 x2 x3 x4 ∧ p3 x0 x1 x2 x3 x4 ∧ p4 x0 x1 x2 x3 x4) (k : ∀ (x0 : α0) (x1 : α1) (x2 : α2) (x3 : α3) (x4 : α4), p0 x0 x1 x2 x3 x4 → p1 x0 x1 x2 x3 x4 → p2 x0 x1 x2 x3 x4 → p3 x0 x1 x2 x3 x4 → p4 x0 x1 x2 x3 x4 → C) : C := h.elim fun x0 h => h.elim fun x1 h => h.elim fun x2 h => h.elim fun x3 h => h.elim fun x4 h => k x0 x1 x2 x3 x4 h.1 h.2.1 h.2.2.1 h.2.2.2.1 h.2.2.2.2
theorem ea5_7 {α0 α1 α2 α3 α4 : Type} {p0 p1 p2 p3 p4 p5 p6 : α0 → α1 → α2 → α3 → α4 → Prop} {C : Prop} (h : ∃ (x0 : α0) (x1 : α1) (x2 : α2) (x3 : α3) (x4 : α4), p0 x0 x1 x2 x3 x4 ∧ p1 x0 x1 x2 x3 x4 ∧ p2 x0 x1 x2 x3 x4 ∧ p3 x0 x1 x2 x3 x4 ∧ p4 x0 x1 x2 x3 x4 ∧ p5 x0 x1 x2 x3 x4 ∧ p6 x0 x1 x2 x3 x4) (k : ∀ (x0 : α0) (x1 : α1) (x2 : α2) (x3 : α3) (x4 : α4), p0 x0 x1 x2 x3 x4 → p1 x0 x1 x2 x3 x4 → p2 x0 x1 x2 x3 x4 → p3 x0 x1 x2 x3 x4 → p4 x0 x1 x2 x3 x4 → p5 x0 x1 x2 x3 x4 → p6 x0 x1 x2 x3 x4 → C) : C := h.elim fun x0 h => h.elim fun x1 h => h.elim fun x2 h => h.elim fun x3 h => h.elim fun x4 h => k x0 x1 x2 x3 x4 h.1 h.2.1 h.2.2.1 h.2.2.2.1 h.2.2.2.2.1 h.2.2.2.2.2.1 h.2.2.2.2.2.2
theorem ea5_8 {α0 α1 α2 α3 α4 : Type} {p0 p1 p2 p3 p4 p5 p6 p7 : α0 → α1 → α2 → α3 → α4 → Prop} {C : Prop} (h : ∃ (x0 : α0) (x1 : α1) (x2 : α2) (x3 : α3) (x4 : α4), p0 x0 x1 x2 x3 x4 ∧ p1 x0 x1 x2 x3 x4 ∧ p2 x0 x1 x2 x3 x4 ∧ p3 x0 x1 x2 x3 x4 ∧ p4 x0 x1 x2 x3 x4 ∧ p5 x0 x1 x2 x3 x4 ∧ p6 x0 x1 x2 x3 x4 ∧ p7 x0 x1 x2 x3 x4) (k : ∀ (x0 : α0) (x1 : α1) (x2 : α2) (x3 : α3) (x4 : α4), p0 x0 x1 x2 x3 x4 → p1 x0 x1 x2 x3 x4 → p2 x0 x1 x2 x3 x4 → p3 x0 x1 x2 x3 x4 → p4 x0 x1 x2 x3 x4 → p5 x0 x1 x2 x3 x4 → p6 x0 x1 x2 x3 x4 → p7 x0 x1 x2 x3 x4 → C) : C := h.elim fun x0 h => h.elim fun x1 h => h.elim fun x2 h => h.elim fun x3 h => h.elim fun x4 h => k x0 x1 x2 x3 x4 h.1 h.2.1 h.2.2.1 h.2.2.2.1 h.2.2.2.2.1 h.2.2.2.2.2.1 h.2.2.2.2.2.2.1 h.2.2.2.2.2.2.2
theorem ea5_12 {α0 α1 α2 α3 α4 : Type} {p0 p1 p2 p3 p4 p5 p6 p7 p8 p9 p10 p11 : α0 → α1 → α2 → α3 → α4 → Prop} {C : Prop} (h : ∃ (x0 : α0) (x1 : α1) (x2 : α2) (x3 : α3) (x4 : α4), p0 x0 x1 x2 x3 x4 ∧ p1 x0 x1 x2 x3 x4 ∧ p2 x0 x1 x2 x3 x4 ∧ p3 x0 x1 x2 x3 x4 ∧ p4 x0 x1 x2 x3 x4 ∧ p5 x0 x1 x2 x3 x4 ∧ p6 x0 x1 x2 x3 x4 ∧ p7 x0 x1 x2 x3 x4 ∧ p8 x0 x1 x2 x3 x4 ∧ p9 x0 x1 x2 x3 x4 ∧ p10 x0 x1 x2 x3 x4 ∧ p11 x0 x1 x2 x3 x4) (k : ∀ (x0 : α0) (x1 : α1) (x2 : α2) (x3 : α3) (x4 : α4), p0 x0 x1 x2 x3 x4 → p1 x0 x1 x2 x3 x4 → p2 x0 x1 x2 x3 x4 → p3 x0 x1 x2 x3 x4 → p4 x0 x1 x2 x3 x4 → p5 x0 x1 x2 x3 x4 → p6 x0 x1 x2 x3 x4 → p7 x0 x1 x2 x3 x4 → p8 x0 x1 x2 x3 x4 → p9 x0 x1 x2 x3 x4 → p10 x0 x1 x2 x3 x4 → p11 x0 x1 x2 x3 x4 → C) : C := h.elim fun x0 h => h.elim fun x1 h => h.elim fun x2 h => h.elim fun x3 h => h.elim fun x4 h => k x0 x1 x2 x3 x4 h.1 h.2.1 h.2.2.1 h.2.2.2.1 h.2.2.2.2.1 h.2.2.2.2.2.1 h.2.2.2.2.2.2.1 h.2.2.2.2.2.2.2.1 h.2.2.2.2.2.2.2.2.1 h.2.2.2.2.2.2.2.2.2.1 h.2.2.2.2.2.2.2.2.2.2.1 h.2.2.2.2.2.2.2.2.2.2.2
theorem ea6_2 {α0 α1 α2 α3 α4 α5 : Type} {p0 p1 : α0 → α1 → α2 → α3 → α4 → α5 → Prop} {C : Prop} (h : ∃ (x0 : α0) (x1 : α1) (x2 : α2) (x3 : α3) (x4 : α4) (x5 : α5), p0 x0 x1 x2 x3 x4 x5 ∧ p1 x0 x1 x2 x3 x4 x5) (k : ∀ (x0 : α0) (x1 : α1) (x2 : α2) (x3 : α3) (x4 : α4) (x5 : α5), p0 x0 x1 x2 x3 x4 x5 → p1 x0 x1 x2 x3 x4 x5 → C) : C := h.elim fun x0 h => h.elim fun x1 h => h.elim fun x2 h => h.elim fun x3 h => h.elim fun x4 h => h.elim fun x5 h => k x0 x1 x2 x3 x4 x5 h.1 h.2
theorem ea6_3 {α0 α1 α2 α3 α4 α5 : Type} {p0 p1 p2 : α0 → α1 → α2 → α3 → α4 → α5 → Prop} {C : Prop} (h : ∃ (x0 : α0) (x1 : α1) (x2 : α2) (x3 : α3) (x4 : α4) (x5 : α5), p0 x0 x1 x2 x3 x4 x5 ∧ p1 x0 x1 x2 x3 x4 x5 ∧ p2 x0 x1 x2 x3 x4 x5) (k : ∀ (x0 : α0) (x1 : α1) (x2 : α2) (x3 : α3) (x4 : α4) (x5 : α5), p0 x0 x1 x2 x3 x4 x5 → p1 x0 x1 x2 x3 x4 x5 → p2 x0 x1 x2 x3 x4 x5 → C) : C := h.elim fun x0 h => h.elim fun x1 h => h.elim fun x2 h => h.elim fun x3 h => h.elim fun x4 h => h.elim fun x5 h => k x0 x1 x2 x3 x4 x5 h.1 h.2.1 h.2.2
theorem ea6_4 {α0 α1 α2 α3 α4 α5 : Type} {p0 p1 p2 p3 : α0 → α1 → α2 → α3 → α4 → α5 → Prop} {C : Prop} (h : ∃ (x0 : α0) (x1 : α1) (x2 : α2) (x3 : α3) (x4 : α4) (x5 : α5), p0 x0 x1 x2 x3 x4 x5 ∧ p1 x0 x1 x2 x3 x4 x5 ∧ p2 x0 x1 x2 x3 x4 x5 ∧ p3 x0 x1 x2 x3 x4 x5) (k : ∀ (x0 : α0) (x1 : α1) (x2 : α2) (x3 : α3) (x4 : α4) (x5 : α5), p0 x0 x1 x2 x3 x4 x5 → p1 x0 x1 x2 x3 x4 x5 → p2 x0 x1 x2 x3 x4 x5 → p3 x0 x1 x2 x3 x4 x5 → C) : C := h.elim fun x0 h => h.elim fun x1 h => h.elim fun x2 h => h.elim fun x3 h => h.elim fun x4 h => h.elim fun x5 h => k x0 x1 x2 x3 x4 x5 h.1 h.2.1 h.2.2.1 h.2.2.2
theorem ea6_5 {α0 α1 α2 α3 α4 α5 : Type} {p0 p1 p2 p3 p4 : α0 → α1 → α2 → α3 → α4 → α5 → Prop} {C : Prop} (h : ∃ (x0 : α0) (x1 : α1) (x2 : α2) (x3 : α3) (x4 : α4) (x5 : α5), p0 x0 x1 x2 x3 x4 x5 ∧ p1 x0 x1 x2 x3 x4 x5 ∧ p2 x0 x1 x2 x3 x4 x5 ∧ p3 x0 x1 x2 x3 x4 x5 ∧ p4 x0 x1 x2 x3 x4 x5) (k : ∀ (x0 : α0) (x1 : α1) (x2 : α2) (x3 : α3) (x4 : α4) (x5 : α5), p0 x0 x1 x2 x3 x4 x5 → p1 x0 x1 x2 x3 x4 x5 → p2 x0 x1 x2 x3 x4 x5 → p3 x0 x1 x2 x3 x4 x5 → p4 x0 x1 x2 x3 x4 x5 → C) : C := h.elim fun x0 h => h.elim fun x1 h => h.elim fun x2 h => h.elim fun x3 h => h.elim fun x4 h => h.elim fun x5 h => k x0 x1 x2 x3 x4 x5 h.1 h.2.1 h.2.2.1 h.2.2.2.1 h.2.2.2.2
theorem ea6_6 {α0 α1 α2 α3 α4 α5 : Type} {p0 p1 p2 p3 p4 p5 : α0 → α1 → α2 → α3 → α4 → α5 → Prop} {C : Prop} (h : ∃ (x0 : α0) (x1 : α1) (x2 : α2) (x3 : α3) (x4 : α4) (x5 : α5), p0 x0 x1 x2 x3 x4 x5 ∧ p1 x0 x1 x2 x3 x4 x5 ∧ p2 x0 x1 x2 x3 x4 x5 ∧ p3 x0 x1 x2 x3 x4 x5 ∧ p4 x0 x1 x2 x3 x4 x5 ∧ p5 x0 x1 x2 x3 x4 x5) (k : ∀ (x0 : α0) (x1 : α1) (x2 : α2) (x3 : α3) (x4 : α4) (x5 : α5), p0 x0 x1 x2 x3 x4 x5 → p1 x0 x1 x2 x3 x4 x5 → p2 x0 x1 x2 x3 x4 x5 → p3 x0 x1 x2 x3 x4 x5 → p4 x0 x1 x2 x3 x4 x5 → p5 x0 x1 x2 x3 x4 x5 → C) : C := h.elim fun x0 h => h.elim fun x1 h => h.elim fun x2 h => h.elim fun x3 h => h.elim fun x4 h => h.elim fun x5 h => k x0 x1 x2 x3 x4 x5 h.1 h.2.1 h.2.2.1 h.2.2.2.1 h.2.2.2.2.1 h.2.2.2.2.2
theorem ea7_2 {α0 α1 α2 α3 α4 α5 α6 : Type} {p0 p1 : α0 → α1 → α2 → α3 → α4 → α5 → α6 → Prop} {C : Prop} (h : ∃ (x0 : α0) (x1 : α1) (x2 : α2) (x3 : α3) (x4 : α4) (x5 : α5) (x6 : α6), p0 x0 x1 x2 x3 x4 x5 x6 ∧ p1 x0 x1 x2 x3 x4 x5 x6) (k : ∀ (x0 : α0) (x1 : α1) (x2 : α2) (x3 : α3) (x4 : α4) (x5 : α5) (x6 : α6), p0 x0 x1 x2 x3 x4 x5 x6 → p1 x0 x1 x2 x3 x4 x5 x6 → C) : C := h.elim fun x0 h => h.elim fun x1 h => h.elim fun x2 h => h.elim fun x3 h => h.elim fun x4 h => h.elim fun x5 h => h.elim fun x6 h => k x0 x1 x2 x3 x4 x5 x6 h.1 h.2
theorem ea7_3 {α0 α1 α2 α3 α4 α5 α6 : Type} {p0 p1 p2 : α0 → α1 → α2 → α3 → α4 → α5 → α6 → Prop} {C : Prop} (h : ∃ (x0 : α0) (x1 : α1) (x2 : α2) (x3 : α3) (x4 : α4) (x5 : α5) (x6 : α6), p0 x0 x1 x2 x3 x4 x5 x6 ∧ p1 x0 x1 x2 x3 x4 x5 x6 ∧ p2 x0 x1 x2 x3 x4 x5 x6) (k : ∀ (x0 : α0) (x1 : α1) (x2 : α2) (x3 : α3) (x4 : α4) (x5 : α5) (x6 : α6), p0 x0 x1 x2 x3 x4 x5 x6 → p1 x0 x1 x2 x3 x4 x5 x6 → p2 x0 x1 x2 x3 x4 x5 x6 → C) : C := h.elim fun x0 h => h.elim fun x1 h => h.elim fun x2 h => h.elim fun x3 h => h.elim fun x4 h => h.elim fun x5 h => h.elim fun x6 h => k x0 x1 x2 x3 x4 x5 x6 h.1 h.2.1 h.2.2
theorem ea7_7 {α0 α1 α2 α3 α4 α5 α6 : Type} {p0 p1 p2 p3 p4 p5 p6 : α0 → α1 → α2 → α3 → α4 → α5 → α6 → Prop} {C : Prop} (h : ∃ (x0 : α0) (x1 : α1) (x2 : α2) (x3 : α3) (x4 : α4) (x5 : α5) (x6 : α6), p0 x0 x1 x2 x3 x4 x5 x6 ∧ p1 x0 x1 x2 x3 x4 x5 x6 ∧ p2 x0 x1 x2 x3 x4 x5 x6 ∧ p3 x0 x1 x2 x3 x4 x5 x6 ∧ p4 x0 x1 x2 x3 x4 x5 x6 ∧ p5 x0 x1 x2 x3 x4 x5 x6 ∧ p6 x0 x1 x2 x3 x4 x5 x6) (k : ∀ (x0 : α0) (x1 : α1) (x2 : α2) (x3 : α3) (x4 : α4) (x5 : α5) (x6 : α6), p0 x0 x1 x2 x3 x4 x5 x6 → p1 x0 x1 x2 x3 x4 x5 x6 → p2 x0 x1 x2 x3 x4 x5 x6 → p3 x0 x1 x2 x3 x4 x5 x6 → p4 x0 x1 x2 x3 x4 x5 x6 → p5 x0 x1 x2 x3 x4 x5 x6 → p6 x0 x1 x2 x3 x4 x5 x6 → C) : C := h.elim fun x0 h => h.elim fun x1 h => h.elim fun x2 h => h.elim fun x3 h => h.elim fun x4 h => h.elim fun x5 h => h.elim fun x6 h => k x0 x1 x2 x3 x4 x5 x6 h.1 h.2.1 h.2.2.1 h.2.2.2.1 h.2.2.2.2.1 h.2.2.2.2.2.1 h.2.2.2.2.2.2
theorem ea8_3 {α0 α1 α2 α3 α4 α5 α6 α7 : Type} {p0 p1 p2 : α0 → α1 → α2 → α3 → α4 → α5 → α6 → α7 → Prop} {C : Prop} (h : ∃ (x0 : α0) (x1 : α1) (x2 : α2) (x3 : α3) (x4 : α4) (x5 : α5) (x6 : α6) (x7 : α7), p0 x0 x1 x2 x3 x4 x5 x6 x7 ∧ p1 x0 x1 x2 x3 x4 x5 x6 x7 ∧ p2 x0 x1 x2 x3 x4 x5 x6 x7) (k : ∀ (x0 : α0) (x1 : α1) (x2 : α2) (x3 : α3) (x4 : α4) (x5 : α5) (x6 : α6) (x7 : α7), p0 x0 x1 x2 x3 x4 x5 x6 x7 → p1 x0 x1 x2 x3 x4 x5 x6 x7 → p2 x0 x1 x2 x3 x4 x5 x6 x7 → C) : C := h.elim fun x0 h => h.elim fun x1 h => h.elim fun x2 h => h.elim fun x3 h => h.elim fun x4 h => h.elim fun x5 h => h.elim fun x6 h => h.elim fun x7 h => k x0 x1 x2 x3 x4 x5 x6 x7 h.1 h.2.1 h.2.2
theorem ea8_7 {α0 α1 α2 α3 α4 α5 α6 α7 : Type} {p0 p1 p2 p3 p4 p5 p6 : α0 → α1 → α2 → α3 → α4 → α5 → α6 → α7 → Prop} {C : Prop} (h : ∃ (x0 : α0) (x1 : α1) (x2 : α2) (x3 : α3) (x4 : α4) (x5 : α5) (x6 : α6) (x7 : α7), p0 x0 x1 x2 x3 x4 x5 x6 x7 ∧ p1 x0 x1 x2 x3 x4 x5 x6 x7 ∧ p2 x0 x1 x2 x3 x4 x5 x6 x7 ∧ p3 x0 x1 x2 x3 x4 x5 x6 x7 ∧ p4 x0 x1 x2 x3 x4 x5 x6 x7 ∧ p5 x0 x1 x2 x3 x4 x5 x6 x7 ∧ p6 x0 x1 x2 x3 x4 x5 x6 x7) (k : ∀ (x0 : α0) (x1 : α1) (x2 : α2) (x3 : α3) (x4 : α4) (x5 : α5) (x6 : α6) (x7 : α7), p0 x0 x1 x2 x3 x4 x5 x6 x7 → p1 x0 x1 x2 x3 x4 x5 x6 x7 → p2 x0 x1 x2 x3 x4 x5 x6 x7 → p3 x0 x1 x2 x3 x4 x5 x6 x7 → p4 x0 x1 x2 x3 x4 x5 x6 x7 → p5 x0 x1 x2 x3 x4 x5 x6 x7 → p6 x0 x1 x2 x3 x4 x5 x6 x7 → C) : C := h.elim fun x0 h => h.elim fun x1 h => h.elim fun x2 h => h.elim fun x3 h => h.elim fun x4 h => h.elim fun x5 h => h.elim fun x6 h => h.elim fun x7 h => k x0 x1 x2 x3 x4 x5 x6 x7 h.1 h.2.1 h.2.2.1 h.2.2.2.1 h.2.2.2.2.1 h.2.2.2.2.2.1 h.2.2.2.2.2.2
theorem ea8_8 {α0 α1 α2 α3 α4 α5 α6 α7 : Type} {p0 p1 p2 p3 p4 p5 p6 p7 : α0 → α1 → α2 → α3 → α4 → α5 → α6 → α7 → Prop} {C : Prop} (h : ∃ (x0 : α0) (x1 : α1) (x2 : α2) (x3 : α3) (x4 : α4) (x5 : α5) (x6 : α6) (x7 : α7), p0 x0 x1 x2 x3 x4 x5 x6 x7 ∧ p1 x0 x1 x2 x3 x4 x5 x6 x7 ∧ p2 x0 x1 x2 x3 x4 x5 x6 x7 ∧ p3 x0 x1 x2 x3 x4 x5 x6 x7 ∧ p4 x0 x1 x2 x3 x4 x5 x6 x7 ∧ p5 x0 x1 x2 x3 x4 x5 x6 x7 ∧ p6 x0 x1 x2 x3 x4 x5 x6 x7 ∧ p7 x0 x1 x2 x3 x4 x5 x6 x7) (k : ∀ (x0 : α0) (x1 : α1) (x2 : α2) (x3 : α3) (x4 : α4) (x5 : α5) (x6 : α6) (x7 : α7), p0 x0 x1 x2 x3 x4 x5 x6 x7 → p1 x0 x1 x2 x3 x4 x5 x6 x7 → p2 x0 x1 x2 x3 x4 x5 x6 x7 → p3 x0 x1 x2 x3 x4 x5 x6 x7 → p4 x0 x1 x2 x3 x4 x5 x6 x7 → p5 x0 x1 x2 x3 x4 x5 x6 x7 → p6 x0 x1 x2 x3 x4 x5 x6 x7 → p7 x0 x1 x2 x3 x4 x5 x6 x7 → C) : C := h.elim fun x0 h => h.elim fun x1 h => h.elim fun x2 h => h.elim fun x3 h => h.elim fun x4 h => h.elim fun x5 h => h.elim fun x6 h => h.elim fun x7 h => k x0 x1 x2 x3 x4 x5 x6 x7 h.1 h.2.1 h.2.2.1 h.2.2.2.1 h.2.2.2.2.1 h.2.2.2.2.2.1 h.2.2.2.2.2.2.1 h.2.2.2.2.2.2.2
theorem ea9_5 {α0 α1 α2 α3 α4 α5 α6 α7 α8 : Type} {p0 p1 p2 p3 p4 : α0 → α1 → α2 → α3 → α4 → α5 → α6 → α7 → α8 → Prop} {C : Prop} (h : ∃ (x0 : α0) (x1 : α1) (x2 : α2) (x3 : α3) (x4 : α4) (x5 : α5) (x6 : α6) (x7 : α7) (x8 : α8), p0 x0 x1 x2 x3 x4 x5 x6 x7 x8 ∧ p1 x0 x1 x2 x3 x4 x5 x6 x7 x8 ∧ p2 x0 x1 x2 x3 x4 x5 x6 x7 x8 ∧ p3 x0 x1 x2 x3 x4 x5 x6 x7 x8 ∧ p4 x0 x1 x2 x3 x4 x5 x6 x7 x8) (k : ∀ (x0 : α0) (x1 : α1) (x2 : α2) (x3 : α3) (x4 : α4) (x5 : α5) (x6 : α6) (x7 : α7) (x8 : α8), p0 x0 x1 x2 x3 x4 x5 x6 x7 x8 → p1 x0 x1 x2 x3 x4 x5 x6 x7 x8 → p2 x0 x1 x2 x3 x4 x5 x6 x7 x8 → p3 x0 x1 x2 x3 x4 x5 x6 x7 x8 → p4 x0 x1 x2 x3 x4 x5 x6 x7 x8 → C) : C := h.elim fun x0 h => h.elim fun x1 h => h.elim fun x2 h => h.elim fun x3 h => h.elim fun x4 h => h.elim fun x5 h => h.elim fun x6 h => h.elim fun x7 h => h.elim fun x8 h => k x0 x1 x2 x3 x4 x5 x6 x7 x8 h.1 h.2.1 h.2.2.1 h.2.2.2.1 h.2.2.2.2
theorem ea9_6 {α0 α1 α2 α3 α4 α5 α6 α7 α8 : Type} {p0 p1 p2 p3 p4 p5 : α0 → α1 → α2 → α3 → α4 → α5 → α6 → α7 → α8 → Prop} {C : Prop} (h : ∃ (x0 : α0) (x1 : α1) (x2 : α2) (x3 : α3) (x4 : α4) (x5 : α5) (x6 : α6) (x7 : α7) (x8 : α8), p0 x0 x1 x2 x3 x4 x5 x6 x7 x8 ∧ p1 x0 x1 x2 x3 x4 x5 x6 x7 x8 ∧ p2 x0 x1 x2 x3 x4 x5 x6 x7 x8 ∧ p3 x0 x1 x2 x3 x4 x5 x6 x7 x8 ∧ p4 x0 x1 x2 x3 x4 x5 x6 x7 x8 ∧ p5 x0 x1 x2 x3 x4 x5 x6 x7 x8) (k : ∀ (x0 : α0) (x1 : α1) (x2 : α2) (x3 : α3) (x4 : α4) (x5 : α5) (x6 : α6) (x7 : α7) (x8 : α8), p0 x0 x1 x2 x3 x4 x5 x6 x7 x8 → p1 x0 x1 x2 x3 x4 x5 x6 x7 x8 → p2 x0 x1 x2 x3 x4 x5 x6 x7 x8 → p3 x0 x1 x2 x3 x4 x5 x6 x7 x8 → p4 x0 x1 x2 x3 x4 x5 x6 x7 x8 → p5 x0 x1 x2 x3 x4 x5 x6 x7 x8 → C) : C := h.elim fun x0 h => h.elim fun x1 h => h.elim fun x2 h => h.elim fun x3 h => h.elim fun x4 h => h.elim fun x5 h => h.elim fun x6 h => h.elim fun x7 h => h.elim fun x8 h => k x0 x1 x2 x3 x4 x5 x6 x7 x8 h.1 h.2.1 h.2.2.1 h.2.2.2.1 h.2.2.2.2.1 h.2.2.2.2.2
theorem ea9_12 {α0 α1 α2 α3 α4 α5 α6 α7 α8 : Type} {p0 p1 p2 p3 p4 p5 p6 p7 p8 p9 p10 p11 : α0 → α1 → α2 → α3 → α4 → α5 → α6 → α7 → α8 → Prop} {C : Prop} (h : ∃ (x0 : α0) (x1 : α1) (x2 : α2) (x3 : α3) (x4 : α4) (x5 : α5) (x6 : α6) (x7 : α7) (x8 : α8), p0 x0 x1 x2 x3 x4 x5 x6 x7 x8 ∧ p1 x0 x1 x2 x3 x4 x5 x6 x7 x8 ∧ p2 x0 x1 x2 x3 x4 x5 x6 x7 x8 ∧ p3 x0 x1 x2 x3 x4 x5 x6 x7 x8 ∧ p4 x0 x1 x2 x3 x4 x5 x6 x7 x8 ∧ p5 x0 x1 x2 x3 x4 x5 x6 x7 x8 ∧ p6 x0 x1 x2 x3 x4 x5 x6 x7 x8 ∧ p7 x0 x1 x2 x3 x4 x5 x6 x7 x8 ∧ p8 x0 x1 x2 x3 x4 x5 x6 x7 x8 ∧ p9 x0 x1 x2 x3 x4 x5 x6 x7 x8 ∧ p10 x0 x1 x2 x3 x4 x5 x6 x7 x8 ∧ p11 x0 x1 x2 x3 x4 x5 x6 x7 x8) (k : ∀ (x0 : α0) (x1 : α1) (x2 : α2) (x3 : α3) (x4 : α4) (x5 : α5) (x6 : α6) (x7 : α7) (x8 : α8), p0 x0 x1 x2 x3 x4 x5 x6 x7 x8 → p1 x0 x1 x2 x3 x4 x5 x6 x7 x8 → p2 x0 x1 x2 x3 x4 x5 x6 x7 x8 → p3 x0 x1 x2 x3 x4 x5 x6 x7 x8 → p4 x0 x1 x2 x3 x4 x5 x6 x7 x8 → p5 x0 x1 x2 x3 x4 x5 x6 x7 x8 → p6 x0 x1 x2 x3 x4 x5 x6 x7 x8 → p7 x0 x1 x2 x3 x4 x5 x6 x7 x8 → p8 x0 x1 x2 x3 x4 x5 x6 x7 x8 → p9 x0 x1 x2 x3 x4 x5 x6 x7 x8 → p10 x0 x1 x2 x3 x4 x5 x6 x7 x8 → p11 x0 x1 x2 x3 x4 x5 x6 x7 x8 → C) : C := h.elim fun x0 h => h.elim fun x1 h => h.elim fun x2 h => h.elim fun x3 h => h.elim fun x4 h => h.elim fun x5 h => h.elim fun x6 h => h.elim fun x7 h => h.elim fun x8 h => k x0 x1 x2 x3 x4 x5 x6 x7 x8 h.1 h.2.1 h.2.2.1 h.2.2.2.1 h.2.2.2.2.1 h.2.2.2.2.2.1 h.2.2.2.2.2.2.1 h.2.2.2.2.2.2.2.1 h.2.2.2.2.2.2.2.2.1 h.2.2.2.2.2.2.2.2.2.1 h.2.2.2.2.2.2.2.2.2.2.1 h.2.2.2.2.2.2.2.2.2.2.2
end
section
/-! heaps: what is kept -/
noncomputable def Kp (B h : Heap) : Prop := ∀ b o, B.get? b = some o → h.get? b = some o
theorem Kp.refl (h : Heap) : Kp h h := fun _ _ e => e
theorem Kp.trans {a b c : Heap} (x : Kp a b) (y : Kp b c) : Kp a c := fun p o e => y p o (x p o e)
theorem Kp.push {B h : Heap} (k : Kp B h) (o : Obj) : Kp B (h.push o) := fun b x e => Heap.get?_push_of_some _ (k b x e)
theorem none_of_size (h : Heap) : h.get? h.objs.size = none := by
  cases q : h.get? h.objs.size with
  | none => rfl
  | some o => exact absurd (Heap.lt_size q) (Nat.lt_irrefl _)
theorem none_kp {B h : Heap} (k : Kp B h) {a : Addr} (e : h.get? a = none) : B.get? a = none := by
  cases q : B.get? a with
  | none => rfl
  | some o => rw [k a o q] at e; cases e

noncomputable def freedObj (o : Obj) : Obj := { o with data := .freed }
/-- the heap with the addresses that p takes alone -/
noncomputable def only (h : Heap) (p : Addr → Bool) : Heap := ⟨h.objs.mapIdx fun i o => if p i then o else freedObj o, h.life⟩
theorem only_get (h : Heap) (p : Addr → Bool) (a : Addr) : (only h p).get? a = if p a then h.get? a else none := by
  unfold only Heap.get?
  simp only [Array.getElem?_mapIdx]
  cases q : h.objs[a]? with
  | none => simp
  | some o =>
    obtain ⟨c, d, dt, sl⟩ := o
    by_cases hp : p a = true
    · simp [hp]
    · simp [hp, freedObj]

/-- a base that takes in one more address -/
theorem grow {B h : Heap} (k : Kp B h) {a : Addr} {o : Obj} (e : h.get? a = some o) :
    ∃ B', Kp B B' ∧ B'.get? a = some o ∧ Kp B' h ∧ ∀ b, b ≠ a → B'.get? b = B.get? b := by
  refine ⟨only h fun b => (B.get? b).isSome || b == a, fun b x q => ?_, ?_, fun b x q => ?_, fun b hb => ?_⟩
  · rw [only_get]; simp [q, k b x q]
  · rw [only_get]; simp [e]
  · rw [only_get] at q; split at q <;> first | exact q | cases q
  · rw [only_get]
    cases q : B.get? b with
    | none => simp [hb]
    | some x => simp [k b x q]

/-- from (B, h) to (B', h'): only S was changed, the base has grown by what is new alone -/
structure Rn (S : List Addr) (B h B' h' : Heap) : Prop where
  bb : Kp B B'
  bn : ∀ b o, B'.get? b = some o → B.get? b = some o ∨ h.get? b = none
  hk : ∀ b o, b ∉ S → h.get? b = some o → h'.get? b = some o
  th : ∀ b o, h.get? b = some o → ∃ o', h'.get? b = some o'
  bh : Kp B' h'

theorem Rn.refl {S : List Addr} {B h : Heap} (k : Kp B h) : Rn S B h B h :=
  ⟨.refl _, fun _ _ e => .inl e, fun _ _ _ e => e, fun _ o e => ⟨o, e⟩, k⟩
theorem Rn.trans {S : List Addr} {B h B' h' B'' h'' : Heap} (x : Rn S B h B' h') (y : Rn S B' h' B'' h'') : Rn S B h B'' h'' :=
  ⟨x.bb.trans y.bb, (fun b o e => by
    rcases y.bn b o e with q | q
    · exact x.bn b o q
    · refine .inr ?_
      cases z : h.get? b with
      | none => rfl
      | some o₁ => obtain ⟨o₂, z'⟩ := x.th b o₁ z; rw [z'] at q; exact nomatch q),
   fun b o hb e => y.hk b o hb (x.hk b o hb e), fun b o e => let ⟨o', e'⟩ := x.th b o e; y.th b o' e', y.bh⟩
theorem Rn.bnone {S : List Addr} {B h B' h' : Heap} (x : Rn S B h B' h') {b : Addr} {o : Obj} (e : B.get? b = none) (q : h.get? b = some o) : B'.get? b = none := by
  cases z : B'.get? b with
  | none => rfl
  | some o' =>
    rcases x.bn b o' z with y | y
    · rw [e] at y; cases y
    · rw [q] at y; cases y

/-- what a call found -/
structure En where
  S : List Addr
  B : Heap
  s : Shared

/-- what may be changed: an address and what is known of the object there -/
noncomputable abbrev Own := List (Addr × (Obj → Prop))
noncomputable def Is (h : Heap) (a : Addr) (P : Obj → Prop) : Prop := ∃ o, h.get? a = some o ∧ P o
theorem Is.keeps {h h' : Heap} {a : Addr} {P : Obj → Prop} (x : Is h a P) (k : Kp h h') : Is h' a P := let ⟨o, e, p⟩ := x; ⟨o, k _ _ e, p⟩

/-- a frame of a call at work: the base B, the locals m at L, the objects U that may be changed -/
structure Fs (e : En) (G : Array GenState) (B : Heap) (L : Addr) (m : Str → Option Value) (U : Own) (s : Shared) : Prop where
  rn : Rn e.S e.B e.s.heap B s.heap
  ns : s.heap.Ns L m
  lb : B.get? L = none
  lg : e.s.heap.get? L = none
  own : ∀ p ∈ U, Is s.heap p.1 p.2 ∧ B.get? p.1 = none ∧ p.1 ≠ L ∧ (e.s.heap.get? p.1 = none ∨ p.1 ∈ e.S)
  dis : (U.map (·.1)).Nodup
  os : s.os = e.s.os
  gens : s.gens = G

/-- what a call leaves behind -/
structure Rs (S : List Addr) (G : Array GenState) (B : Heap) (s : Shared) (B' : Heap) (s' : Shared) : Prop where
  rn : Rn S B s.heap B' s'.heap
  os : s'.os = s.os
  gens : s'.gens = G

section
variable {e : En} {G : Array GenState} {B : Heap} {L : Addr} {m : Str → Option Value} {U : Own} {s : Shared}

theorem Fs.kp (F : Fs e G B L m U s) : Kp B s.heap := F.rn.bh
theorem Fs.tk (F : Fs e G B L m U s) (n : Nat) : Fs e G B L m U { s with toks := n } := ⟨F.rn, F.ns, F.lb, F.lg, F.own, F.dis, F.os, F.gens⟩
theorem Fs.rs (F : Fs e G B L m U s) : Rs e.S G e.B e.s B s := ⟨F.rn, F.os, F.gens⟩

theorem Fs.L_some (F : Fs e G B L m U s) : ∃ o, s.heap.get? L = some o := let ⟨o, _, _, ho, _⟩ := F.ns; ⟨o, ho⟩
theorem Fs.fresh (F : Fs e G B L m U s) {a : Addr} (ha : s.heap.get? a = none) : e.s.heap.get? a = none := by
  cases z : e.s.heap.get? a with
  | none => rfl
  | some o' => obtain ⟨o₂, z'⟩ := F.rn.th a o' z; rw [ha] at z'; exact nomatch z'

/-- the heap has grown, nothing was changed -/
theorem Fs.grown (F : Fs e G B L m U s) {h' : Heap} (k : Kp s.heap h') (n : Nat) : Fs e G B L m U { s with heap := h', toks := n } :=
  ⟨⟨F.rn.bb, F.rn.bn, fun b o hb q => k _ _ (F.rn.hk b o hb q), fun b o q => let ⟨o', z⟩ := F.rn.th b o q; ⟨o', k _ _ z⟩, F.rn.bh.trans k⟩,
   F.ns.keeps k, F.lb, F.lg, fun p hp => ⟨(F.own p hp).1.keeps k, (F.own p hp).2⟩, F.dis, F.os, F.gens⟩

/-- a new object, owned -/
theorem Fs.take (F : Fs e G B L m U s) {h' : Heap} {a : Addr} {P : Obj → Prop} (k : Kp s.heap h') (ha : s.heap.get? a = none) (ho : Is h' a P) (n : Nat) :
    Fs e G B L m ((a, P) :: U) { s with heap := h', toks := n } := by
  have F' := F.grown k n
  refine ⟨F'.rn, F'.ns, F'.lb, F'.lg, fun p hp => ?_, ?_, F'.os, F'.gens⟩
  · rcases List.mem_cons.mp hp with rfl | hp
    · refine ⟨ho, none_kp F.kp ha, fun q => ?_, .inl (F.fresh ha)⟩
      obtain ⟨o', z⟩ := F.L_some
      have q' : a = L := q
      rw [← q', ha] at z; cases z
    · exact F'.own p hp
  · rw [List.map_cons, List.nodup_cons]
    refine ⟨fun q => ?_, F.dis⟩
    obtain ⟨p, hp, q⟩ := List.mem_map.mp q
    obtain ⟨o, z, _⟩ := (F.own p hp).1
    rw [q, ha] at z; cases z

/-- an owned object that was made by this call goes into the base -/
theorem Fs.freezeX {a : Addr} {P : Obj → Prop} (F : Fs e G B L m ((a, P) :: U) s) (hn : e.s.heap.get? a = none) :
    ∃ B', Kp B B' ∧ Is B' a P ∧ Fs e G B' L m U s ∧ ∀ b, b ≠ a → B'.get? b = B.get? b := by
  have ho := F.own _ (.head _)
  obtain ⟨o, ho1, hP⟩ := ho.1
  obtain ⟨B', k, ha, kh, hne⟩ := grow F.kp ho1
  have hd := List.nodup_cons.mp (show (a :: U.map (·.1)).Nodup from F.dis)
  refine ⟨B', k, ⟨o, ha, hP⟩, ⟨⟨F.rn.bb.trans k, fun b x q => ?_, F.rn.hk, F.rn.th, kh⟩, F.ns, ?_, F.lg, fun p hp => ?_, hd.2, F.os, F.gens⟩, hne⟩
  · by_cases hb : b = a
    · subst hb; exact .inr hn
    · rw [hne b hb] at q; exact F.rn.bn b x q
  · rw [hne L fun q => ho.2.2.1 q.symm]; exact F.lb
  · have h1 := F.own p (.tail _ hp)
    refine ⟨h1.1, ?_, h1.2.2⟩
    rw [hne p.1 fun q => hd.1 (List.mem_map.mpr ⟨p, hp, q⟩)]; exact h1.2.1

/-- the same, less said -/
theorem Fs.freeze {a : Addr} {P : Obj → Prop} (F : Fs e G B L m ((a, P) :: U) s) (hn : e.s.heap.get? a = none) :
    ∃ B', Kp B B' ∧ Is B' a P ∧ Fs e G B' L m U s := let ⟨B', a, b, c, _⟩ := F.freezeX hn; ⟨B', a, b, c⟩

theorem Fs.frz {a : Addr} {P : Obj → Prop} (F : Fs e G B L m ((a, P) :: U) s) (hn : e.s.heap.get? a = none) {C : Prop} (h : ∀ B', Kp B B' → Is B' a P → Fs e G B' L m U s → C) : C := ea1_3 (F.freeze hn) h

/-- a new object, for good -/
theorem Fs.pers (F : Fs e G B L m U s) {h' : Heap} {a : Addr} {P : Obj → Prop} (k : Kp s.heap h') (ha : s.heap.get? a = none) (ho : Is h' a P) (n : Nat) :
    ∃ B', Kp B B' ∧ Is B' a P ∧ Fs e G B' L m U { s with heap := h', toks := n } :=
  (F.take k ha ho n).freeze (F.fresh ha)

theorem SameBut.refl' {a : Addr} {h : Heap} : Heap.SameBut a h h := .refl ..

/-- the first of the owned objects is changed -/
theorem Fs.upd {a : Addr} {P P' : Obj → Prop} (F : Fs e G B L m ((a, P) :: U) s) {h' : Heap} (hs : Heap.ExtBut a s.heap h') (ho : Is h' a P') (n : Nat) :
    Fs e G B L m ((a, P') :: U) { s with heap := h', toks := n } := by
  have hm := F.own _ (.head _)
  have hd := List.nodup_cons.mp (show (a :: U.map (·.1)).Nodup from F.dis)
  refine ⟨⟨F.rn.bb, F.rn.bn, fun b x hb q => ?_, fun b x q => ?_, fun b x q => ?_⟩, F.ns.extBut hs (Ne.symm hm.2.2.1), F.lb, F.lg, fun p hp => ?_, F.dis, F.os, F.gens⟩
  · have hba : b ≠ a := by
      rintro rfl
      rcases hm.2.2.2 with z | z
      · rw [z] at q; cases q
      · exact hb z
    exact hs b _ hba (F.rn.hk b x hb q)
  · obtain ⟨x', z⟩ := F.rn.th b x q
    by_cases hba : b = a
    · subst hba; obtain ⟨o', ho', _⟩ := ho; exact ⟨o', ho'⟩
    · exact ⟨x', hs b _ hba z⟩
  · have hba : b ≠ a := by
      rintro rfl
      rw [hm.2.1] at q; cases q
    exact hs b _ hba (F.kp b x q)
  · rcases List.mem_cons.mp hp with rfl | hp
    · exact ⟨ho, hm.2⟩
    · have h1 := F.own p (.tail _ hp)
      obtain ⟨o, z, hP⟩ := h1.1
      exact ⟨⟨o, hs p.1 _ (fun q => hd.1 (List.mem_map.mpr ⟨p, hp, q⟩)) z, hP⟩, h1.2⟩

/-- a local is stored -/
theorem Fs.st {m' : Str → Option Value} (F : Fs e G B L m U s) {h' : Heap} (hs : Heap.ExtBut L s.heap h') (hn : h'.Ns L m') (n : Nat) :
    Fs e G B L m' U { s with heap := h', toks := n } := by
  refine ⟨⟨F.rn.bb, F.rn.bn, fun b x hb q => ?_, fun b x q => ?_, fun b x q => ?_⟩, hn, F.lb, F.lg, fun p hp => ?_, F.dis, F.os, F.gens⟩
  · have hba : b ≠ L := by rintro rfl; rw [F.lg] at q; cases q
    exact hs b _ hba (F.rn.hk b x hb q)
  · have hba : b ≠ L := by rintro rfl; rw [F.lg] at q; cases q
    obtain ⟨x', z⟩ := F.rn.th b x q
    exact ⟨x', hs b _ hba z⟩
  · have hba : b ≠ L := by rintro rfl; rw [F.lb] at q; cases q
    exact hs b _ hba (F.kp b x q)
  · have h1 := F.own p hp
    obtain ⟨o, z, hP⟩ := h1.1
    exact ⟨⟨o, hs p.1 _ h1.2.2.1 z, hP⟩, h1.2⟩

theorem Fs.perm {U' : Own} (F : Fs e G B L m U s) (p : U.Perm U') : Fs e G B L m U' s :=
  ⟨F.rn, F.ns, F.lb, F.lg, fun q hq => F.own q (p.mem_iff.mpr hq), (p.map _).nodup_iff.mp F.dis, F.os, F.gens⟩
theorem Fs.swap {x y : Addr × (Obj → Prop)} (F : Fs e G B L m (x :: y :: U) s) : Fs e G B L m (y :: x :: U) s := F.perm (.swap ..)
theorem Fs.drop {x : Addr × (Obj → Prop)} (F : Fs e G B L m (x :: U) s) : Fs e G B L m U s :=
  ⟨F.rn, F.ns, F.lb, F.lg, fun q hq => F.own q (.tail _ hq), (List.nodup_cons.mp (show (x.1 :: U.map (·.1)).Nodup from F.dis)).2, F.os, F.gens⟩
theorem Fs.dropL {V : Own} (F : Fs e G B L m (V ++ U) s) : Fs e G B L m U s :=
  ⟨F.rn, F.ns, F.lb, F.lg, fun q hq => F.own q (List.mem_append_right _ hq), by have := F.dis; rw [List.map_append] at this; exact (List.nodup_append.mp this).2.1, F.os, F.gens⟩
theorem Fs.top {a : Addr} {P : Obj → Prop} (F : Fs e G B L m ((a, P) :: U) s) : Is s.heap a P := (F.own _ (.head _)).1
/-- less is said of the first owned object -/
theorem Fs.weak {a : Addr} {P P' : Obj → Prop} (F : Fs e G B L m ((a, P) :: U) s) (h : ∀ o, P o → P' o) : Fs e G B L m ((a, P') :: U) s := by
  obtain ⟨o, z, hP⟩ := F.top
  have := F.upd (P' := P') (h' := s.heap) (Heap.ExtBut.refl _ _) ⟨o, z, h o hP⟩ s.toks
  exact this

/-- a call that changed nothing of ours -/
theorem Fs.call {G' : Array GenState} {B' : Heap} {s' : Shared} (F : Fs e G B L m U s) (R : Rs [] G' B s B' s') : Fs e G' B' L m U s' := by
  have kk : Kp s.heap s'.heap := fun b o q => R.rn.hk b o (nomatch ·) q
  refine ⟨⟨F.rn.bb.trans R.rn.bb, fun b o q => ?_, fun b o hb q => kk _ _ (F.rn.hk b o hb q), fun b o q => let ⟨o', z⟩ := F.rn.th b o q; ⟨o', kk _ _ z⟩, R.rn.bh⟩,
    F.ns.keeps kk, ?_, F.lg, fun p hp => ⟨(F.own p hp).1.keeps kk, ?_, (F.own p hp).2.2⟩, F.dis, R.os.trans F.os, R.gens⟩
  · rcases R.rn.bn b o q with z | z
    · exact F.rn.bn b o z
    · exact .inr (F.fresh z)
  · obtain ⟨o, z⟩ := F.L_some
    exact R.rn.bnone F.lb z
  · obtain ⟨o, z, _⟩ := (F.own p hp).1
    exact R.rn.bnone (F.own p hp).2.1 z
end

section
variable {e : En} {G G' : Array GenState} {B B' : Heap} {L : Addr} {m : Str → Option Value} {U V V' : Own} {s s' : Shared}
/-- a call that changed the first owned objects, and the generators -/
theorem Fs.calls (F : Fs e G B L m (V ++ U) s) (hV : V'.map (·.1) = V.map (·.1)) (R : Rs (V.map (·.1)) G' B s B' s') (h' : ∀ p ∈ V', Is s'.heap p.1 p.2) :
    Fs e G' B' L m (V' ++ U) s' := by
  have hdis := F.dis
  rw [List.map_append] at hdis
  have hap := List.nodup_append.mp hdis
  have nV : ∀ b, b ∈ V.map (·.1) → b ≠ L ∧ B.get? b = none ∧ (e.s.heap.get? b = none ∨ b ∈ e.S) := fun b hb => by
    obtain ⟨p, hp, rfl⟩ := List.mem_map.mp hb
    have := F.own p (List.mem_append_left _ hp)
    exact ⟨this.2.2.1, this.2.1, this.2.2.2⟩
  have nL : L ∉ V.map (·.1) := fun q => (nV L q).1 rfl
  have hLs : ∃ o, s.heap.get? L = some o := F.L_some
  refine ⟨⟨F.rn.bb.trans R.rn.bb, fun b o q => ?_, fun b o hb q => ?_, fun b o q => ?_, R.rn.bh⟩, ?_, ?_, F.lg, fun p hp => ?_, ?_, R.os.trans F.os, R.gens⟩
  · rcases R.rn.bn b o q with z | z
    · exact F.rn.bn b o z
    · exact .inr (F.fresh z)
  · refine R.rn.hk b o (fun z => ?_) (F.rn.hk b o hb q)
    rcases (nV b z).2.2 with y | y
    · rw [q] at y; cases y
    · exact hb y
  · obtain ⟨o', z⟩ := F.rn.th b o q
    exact R.rn.th b o' z
  · obtain ⟨o, es, ep, ho, r⟩ := F.ns
    exact ⟨o, es, ep, R.rn.hk L o nL ho, r⟩
  · obtain ⟨o, z⟩ := hLs
    exact R.rn.bnone F.lb z
  · rcases List.mem_append.mp hp with hp | hp
    · have hm : p.1 ∈ V.map (·.1) := hV ▸ List.mem_map_of_mem hp
      obtain ⟨q, hq, e1⟩ := List.mem_map.mp hm
      have := F.own q (List.mem_append_left _ hq)
      rw [e1] at this
      obtain ⟨o, z, _⟩ := this.1
      exact ⟨h' p hp, R.rn.bnone this.2.1 z, this.2.2⟩
    · have h1 := F.own p (List.mem_append_right _ hp)
      obtain ⟨o, z, hP⟩ := h1.1
      refine ⟨⟨o, R.rn.hk _ _ (fun q => ?_) z, hP⟩, R.rn.bnone h1.2.1 z, h1.2.2⟩
      exact hap.2.2 _ q _ (List.mem_map_of_mem hp) rfl
  · rw [List.map_append, hV]; exact hdis
/-- a call that changed the first owned object -/
theorem Fs.call1 {a : Addr} {P P' : Obj → Prop} (F : Fs e G B L m ((a, P) :: U) s) (R : Rs [a] G' B s B' s') (h' : Is s'.heap a P') : Fs e G' B' L m ((a, P') :: U) s' :=
  Fs.calls (V := [(a, P)]) (V' := [(a, P')]) F rfl R (by intro p hp; cases hp with | head => exact h' | tail _ h => exact nomatch h)
end

/-- into a call: the callee's first frame -/
theorem Fs.enter {S : List Addr} {B : Heap} {s : Shared} {h₁ : Heap} {L : Addr} {m : Str → Option Value} {U : Own} {n : Nat} (kB : Kp B s.heap)
    (hU : ∀ p ∈ U, Is s.heap p.1 p.2 ∧ B.get? p.1 = none ∧ p.1 ∈ S) (hd : (U.map (·.1)).Nodup)
    (hns : h₁.Ns L m) (hk : Kp s.heap h₁) (hL : s.heap.get? L = none) : Fs ⟨S, B, s⟩ s.gens B L m U { s with heap := h₁, toks := n } :=
  ⟨⟨.refl _, fun _ _ e => .inl e, fun b o _ q => hk b o q, fun b o q => ⟨o, hk b o q⟩, kB.trans hk⟩, hns, none_kp kB hL, hL,
   fun p hp => ⟨(hU p hp).1.keeps hk, (hU p hp).2.1, (fun q => by
     obtain ⟨o, z, _⟩ := (hU p hp).1
     rw [← q, z] at hL; exact nomatch hL), .inr (hU p hp).2.2⟩, hd, rfl, rfl⟩
end
section
/-- room left, no exception at hand -/
structure Rm (A : Around) (n : Nat) : Prop where
  hh : A.handled = none
  dep : A.depth + n < recursionLimit
  un : A.units + 8 * n + 40 < cLine
theorem Rm.deeper {A : Around} {n : Nat} {env : Env} (r : Rm A (n + 1)) : Rm (A.deeper env) n :=
  ⟨r.hh, by have := r.dep; show A.depth + 1 + n < _; lia, by have := r.un; show A.units + 3 + _ + _ < _; lia⟩
theorem Rm.less {A : Around} {n m : Nat} (r : Rm A n) (h : m ≤ n) : Rm A m := ⟨r.hh, by have := r.dep; lia, by have := r.un; lia⟩
theorem Rm.u {A : Around} {n : Nat} (r : Rm A n) : A.units + 20 < cLine := by have := r.un; lia

/-- the program's own objects and the interpreter's tables -/
structure Gd (w : World) (h : Heap) : Prop where
  X : (hT.heap_1 w.params).In h
  g : ∃ mg, h.Ns mainGlobals mg
  b : ∃ mb, h.Ns builtinsNs mb ∧ ∀ x : Str, x ≠ "__name__" → mb x = bootBuiltins x
  lim : h.NoLimit
theorem Gd.mono {w : World} {B h : Heap} (x : Gd w B) (k : Kp B h) : Gd w h :=
  ⟨x.X.keeps k, let ⟨m, y⟩ := x.g; ⟨m, y.keeps k⟩, let ⟨m, y, z⟩ := x.b; ⟨m, y.keeps k, z⟩, x.lim.keeps k⟩

/-- a name of the function's own -/
noncomputable def locOk (env : Env) (x : Str) : Bool := (match env.scope.kind with | .function => true | _ => false) && (match env.kindOf x with | some .local => true | _ => false) && !(x == ("__debug__" : Str))
theorem locOk_of {env : Env} {x : Str} (h : locOk env x = true) : env.scope.kind = .function ∧ env.kindOf x = some .local ∧ (x == ("__debug__" : Str)) = false := by
  unfold locOk at h
  split at h
  · split at h
    · rename_i h1 _ h2; exact ⟨h1, h2, by simpa using h⟩
    · simp at h
  · simp at h
/-- a name of the module's or the interpreter's -/
noncomputable def gloOk (env : Env) (x : Str) : Bool := (match env.scope.kind with | .function => true | _ => false) && (match env.kindOf x with | some .globalImplicit => true | _ => false) && !(x == ("__debug__" : Str)) && Nat.beq env.globals mainGlobals && Nat.beq env.builtins builtinsNs && !(x == ("__name__" : Str))
theorem gloOk_of {env : Env} {x : Str} (h : gloOk env x = true) : env.scope.kind = .function ∧ env.kindOf x = some .globalImplicit ∧ (x == ("__debug__" : Str)) = false ∧ env.globals = mainGlobals ∧ env.builtins = builtinsNs ∧ x ≠ "__name__" := by
  unfold gloOk at h
  split at h
  · split at h
    · rename_i h1 _ h2
      simp only [Bool.true_and, Bool.and_eq_true, Bool.not_eq_true'] at h
      obtain ⟨⟨⟨a, b⟩, c⟩, d⟩ := h
      exact ⟨h1, h2, a, Nat.eq_of_beq_eq_true b, Nat.eq_of_beq_eq_true c, fun q => by simp [q] at d⟩
    · simp at h
  · simp at h
/-- a name that lies in a cell; the kind is asked -/
noncomputable def celOk (k : NameKind) (env : Env) (x : Str) : Bool := (match env.scope.kind with | .function => true | _ => false) && (match env.kindOf x, k with | some .cell, .cell => true | some .free, .free => true | _, _ => false) && !(x == ("__debug__" : Str)) && !(x == ("__classdict__" : Str))
theorem celOk_of {k : NameKind} {env : Env} {x : Str} (h : celOk k env x = true) : env.scope.kind = .function ∧ env.kindOf x = some k ∧ (x == ("__debug__" : Str)) = false ∧ (x == ("__classdict__" : Str)) = false := by
  unfold celOk at h
  split at h
  · split at h
    · rename_i h1 _ _ h2
      simp only [Bool.true_and, Bool.and_eq_true, Bool.not_eq_true'] at h
      exact ⟨h1, h2, h.1, h.2⟩
    · rename_i h1 _ _ h2
      simp only [Bool.true_and, Bool.and_eq_true, Bool.not_eq_true'] at h
      exact ⟨h1, h2, h.1, h.2⟩
    · simp at h
  · simp at h
/-- no argument is starred -/
noncomputable def notStar : Expr → Bool
  | .Starred .. => false
  | _ => true
theorem starEach_of {a : Expr} {as : List Expr} {env : Env} (h : notStar a = true) : starEach (a :: as) env = (false, eval a env) :: starEach as env := by
  cases a <;> first | rfl | cases h
theorem plain_of : ∀ {as : List Expr} {env : Env} {pos : Pos}, as.all notStar = true → (backTo pos (starEach as env)).any (·.1) = false
  | [], _, _, _ => rfl
  | a :: as, env, pos, h => by
    have h := Bool.and_eq_true_iff.mp h
    rw [starEach_of h.1]
    show (false || (backTo pos (starEach as env)).any (·.1)) = false
    rw [plain_of h.2]; rfl
noncomputable def LsqP (its : List Value) : Obj → Prop := fun o => o.cls = .type "list" ∧ ∃ n, o.data = .seq its.toArray n
noncomputable def LstP (its : List Value) : Obj → Prop := fun o => ∃ n, o = { cls := .type "list", data := .seq its.toArray n }
theorem LstP.lsq {its : List Value} {o : Obj} (x : LstP its o) : LsqP its o := let ⟨n, e⟩ := x; ⟨by rw [e], n, by rw [e]⟩
theorem lst_is {h : Heap} {a : Addr} {its : List Value} (x : Is h a (LstP its)) : h.IsList a its.toArray := let ⟨o, e, p⟩ := x; ⟨o, e, p.lsq⟩
theorem lst_plain {h : Heap} {a : Addr} {its : List Value} (x : Is h a (LstP its)) : h.PlainList a its.toArray := let ⟨o, e, n, p⟩ := x; ⟨n, p ▸ e⟩
theorem plain_lst {h : Heap} {a : Addr} {its : List Value} (x : h.PlainList a its.toArray) : Is h a (LstP its) := let ⟨n, e⟩ := x; ⟨_, e, n, rfl⟩
theorem lsq_iff {h : Heap} {a : Addr} {its : List Value} : Is h a (LsqP its) ↔ h.IsList a its.toArray := Iff.rfl

section
variable {prog : Program} {w : World} {A : Around} {E : Value → Shared → Prop} {s : Shared} {e : En} {G : Array GenState} {B : Heap} {L : Addr} {m : Str → Option Value} {U : Own} {env : Env}

theorem eLoc {x : Str} {pos : Pos} {v : Value} {Q : Value → Shared → Prop} (F : Fs e G B L m U s) (hv : m x = some v) (h : Q v s) (hL : env.locals = L) (hc : locOk env x = true) :
    wpAny (model prog w) A (eval (.Name x pos) env) Q E s :=
  have c := locOk_of hc
  wpAny_Name (wpAny_loadName_local c.1 c.2.1 (hL ▸ F.ns) hv h) c.2.2
theorem lLoc {x : Str} {v : Value} {Q : Value → Shared → Prop} (F : Fs e G B L m U s) (hv : m x = some v) (h : Q v s)
    (hL : env.locals = L := by rfl) (hk : env.scope.kind = .function := by rfl) (hl : env.kindOf x = some .local := by rfl) :
    wpAny (model prog w) A (loadName env x) Q E s := wpAny_loadName_local hk hl (hL ▸ F.ns) hv h
theorem sLoc {x : Str} {v : Value} {Q : Unit → Shared → Prop} (F : Fs e G B L m U s) (h : let m' : Str → Option Value := fun y => if y = x then some v else m y; ∀ s', Fs e G B L m' U s' → Q () s') (hL : env.locals = L) (hc : locOk env x = true) :
    wpAny (model prog w) A (storeName env x v) Q E s :=
  have c := locOk_of hc
  wpAny_storeName_local c.2.1 (hL ▸ F.ns) (fun h' hn hs => h _ (F.st (h' := h') (hL ▸ hs).extBut (hL ▸ hn) _)) (by rw [c.1]; rfl)

theorem eInt {i : Int} {k : Nat} {pos : Pos} {Q : Value → Shared → Prop} (F : Fs e G B L m U s) (h : ∀ s' t, Fs e G B L m U s' → Q (.int i t) s') :
    wpAny (model prog w) A (eval (.Constant (.int i) k pos) env) Q E s := wpAny_Constant_int (h _ _ (F.tk _))
theorem bAdd {a b : Int} {t u : Tok} {Q : Value → Shared → Prop} (F : Fs e G B L m U s) (h : ∀ s' t, Fs e G B L m U s' → Q (.int (a + b) t) s') :
    wpAny (model prog w) A (binaryOp .Add (.int a t) (.int b u)) Q E s := PyProof.Rows.add_int (h _ _ (F.tk _))
theorem bSub {a b : Int} {t u : Tok} {Q : Value → Shared → Prop} (F : Fs e G B L m U s) (h : ∀ s' t, Fs e G B L m U s' → Q (.int (a - b) t) s') :
    wpAny (model prog w) A (binaryOp .Sub (.int a t) (.int b u)) Q E s := PyProof.Rows.sub_int (h _ _ (F.tk _))
theorem bMul {a b : Int} {t u : Tok} {Q : Value → Shared → Prop} (F : Fs e G B L m U s) (hm : Builtin.Int.intBits b ≤ 64) (h : ∀ s' t, Fs e G B L m U s' → Q (.int (a * b) t) s') :
    wpAny (model prog w) A (binaryOp .Mult (.int a t) (.int b u)) Q E s := PyProof.Rows.mul_int (h _ _ (F.tk _)) (IntMulOk.of_right hm)
theorem bDiv {a b : Int} {t u : Tok} {Q : Value → Shared → Prop} (F : Fs e G B L m U s) (hb : 0 < b) (hb2 : b < 1073741824) (h : ∀ s' t, Fs e G B L m U s' → Q (.int (a / b) t) s') :
    wpAny (model prog w) A (binaryOp .FloorDiv (.int a t) (.int b u)) Q E s :=
  floordiv_int (by lia) (by rw [Int.fdiv_eq_ediv_of_nonneg _ (by lia)]; exact h _ _ (F.tk _)) (.inl (PyProof.noPylong_small (by lia)))
theorem bMod {a b : Int} {t u : Tok} {Q : Value → Shared → Prop} (F : Fs e G B L m U s) (hb : 0 < b) (h : ∀ s' t, Fs e G B L m U s' → Q (.int (a % b) t) s') :
    wpAny (model prog w) A (binaryOp .Mod (.int a t) (.int b u)) Q E s :=
  PyProof.Rows.mod_int' (by lia) (by rw [Int.fmod_eq_emod_of_nonneg _ (by lia)]; exact h _ _ (F.tk _))

/-- an item of an owned list (the first of what is owned) -/
theorem gOwn {value slice : Expr} {a : Addr} {its : List Value} {k : Int} {t : Tok} {x : Value} {Q : Value → Shared → Prop} (F : Fs e G B L m ((a, LsqP its) :: U) s) (h0 : 0 ≤ k) (h63 : k < 2 ^ 63)
    (hx : its[k.toNat]? = some x) (h : Q x s) (hs : subscripted slice false (.ref a) (.int k t) = operate [.ref a, .int k t] (getItem (.ref a) (.int k t)) := by with_unfolding_all rfl) :
    wpAny (model prog w) A (subscriptTail value slice (.ref a) (.int k t)) Q E s := by
  have hl : s.heap.IsList a its.toArray := F.top
  exact tail_any hl.typeIs slot_list_getitem.lookup (wpAny_getItem_list hl h0 h63 (by simpa using hx) h) hs
theorem iOwn {a : Addr} {its : List Value} {k : Int} {t : Tok} {v : Value} {Q : Unit → Shared → Prop} (F : Fs e G B L m ((a, LsqP its) :: U) s) (h0 : 0 ≤ k) (h63 : k < 2 ^ 63)
    (hk : k.toNat < its.length) (h : ∀ s', Fs e G B L m ((a, LsqP (its.set k.toNat v)) :: U) s' → Q () s') :
    wpAny (model prog w) A (setItem (.ref a) (.int k t) v) Q E s := by
  have hl : s.heap.IsList a its.toArray := F.top
  refine wpAny_setItem_list hl h0 h63 (by simp; lia) fun h' hl' hs' => h _ (F.upd (h' := h') hs'.extBut ?_ _)
  rw [lsq_iff]
  have e1 : its.toArray.setIfInBounds k.toNat v = (its.set k.toNat v).toArray := by simp
  rw [← e1]; exact hl'

/-- into a plain def -/
theorem enterP {f : Addr} {oc : Value} {od : Option Addr} {osl : Array (Option Value)} {name qual : Str} {params : Arguments} {body : List Stmt} {scope : Scope} {dV kV doc pm cdv ct : Value} {an : Option Addr}
    {pos : List Value} {binds : List (Str × Value)} {Q : Value → Shared → Prop} {n : Nat} (S : List Addr) (V : Own)
    (gd : Gd w B) (kB : Kp B s.heap) (rm : Rm A (n + 1))
    (ho : (hT.heap_1 w.params).lookup f = some ⟨oc, od, .func (fnOf name qual params body scope dV kV doc pm an cdv ct), osl⟩) (hcd : codeIn (hT.heap_1 w.params) cdv qual = true)
    (hbind : bindArgs (fnOf name qual params body scope dV kV doc pm an cdv ct) ⟨pos, []⟩ = pure binds)
    (hV : ∀ p ∈ V, Is s.heap p.1 p.2 ∧ B.get? p.1 = none ∧ p.1 ∈ S) (hd : (V.map (·.1)).Nodup)
    (hloc : ∀ y ∈ binds, scope.names.lookup y.1 = some .local)
    (h : ∀ L s' E' A', let m0 : Str → Option Value := fun x => binds.reverse.lookup x; Fs ⟨S, B, s⟩ s.gens B L m0 V s' → Rm A' n → let env : Env := envX qual scope L f cdv []; let Qr : Flow → Shared → Prop := fun fl s'' => Q (match fl with | .ret v => v | _ => .none) s'';
      wpAny (model prog w) A' (execs body env) Qr E' s')
    (hcell : ∀ x ∈ scope.names, x.2 ≠ .cell := by decide) (hco : scope.isCoroutine = false := by rfl) (hgen : scope.isGenerator = false := by rfl) (hk : scope.kind = .function := by rfl) :
    wpAny (model prog w) A (call (.ref f) pos) Q E s := by
  refine wpAny_call ?_
  have X := gd.X.keeps kB
  refine codeAny_call_def (fd := fnOf name qual params body scope dV kV doc pm an cdv ct) (body := body) (binds := binds) (by have := rm.dep; lia) (X _ _ ho) rfl (gd.lim.keeps kB) (codeRec_of X hcd) rfl (.of_eq hbind) hcell hloc
    (fun h₁ hns hk₁ => ?_) hco hgen hk
  exact wpAny_mono (h s.heap.objs.size _ _ _ (Fs.enter kB hV hd hns hk₁ (none_of_size _)) rm.deeper) (fun _ _ q => q) fun _ _ q => q
end

/-! the die -/
noncomputable def dieF (a b n : Int) : Int × Int × Int :=
  if 0 < a then (a % n, a / n, b) else ((b * 16807 + 59) % 2147483647 / 73 % n, a, (b * 16807 + 59) % 2147483647)

noncomputable def TrayP (a b : Int) : Obj → Prop := fun o => ∃ t u, LsqP [.int a t, .int b u] o
end
section
/-- an iterator object: what it owns before item i, between, the items -/
structure Nx (prog : Program) (w : World) (B₀ : Heap) (it : Addr) (St : Nat → Own) (Mid : Nat → Value → Own) (n : Nat) (V : Heap → Nat → Value → Prop) (target : Expr) : Prop where
  item : ∀ {A : Around} {E : Value → Shared → Prop} {s : Shared} {e : En} {G : Array GenState} {B : Heap} {L : Addr} {m : Str → Option Value} {U : Own} {i : Nat} {Q : Option Value → Shared → Prop},
    A.handled = none → Kp B₀ B → Fs e G B L m (St i ++ U) s → i < n →
    (∀ v s' B', Kp B B' → V B' i v → Fs e G B' L m (Mid i v ++ U) s' → Q (some v) s') → wpAny (model prog w) A (pyNext (.ref it)) Q E s
  lets : ∀ {A : Around} {E : Value → Shared → Prop} {s : Shared} {e : En} {G : Array GenState} {B : Heap} {L : Addr} {m : Str → Option Value} {U : Own} {i : Nat} {v : Value} {Q : Unit → Shared → Prop},
    Kp B₀ B → Fs e G B L m (Mid i v ++ U) s → V B i v → (∀ s', Fs e G B L m (St (i + 1) ++ U) s' → Q () s') → wpAny (model prog w) A (letOwnedTupleGo target (.ref it) v) Q E s
  done : ∀ {A : Around} {E : Value → Shared → Prop} {s : Shared} {e : En} {G : Array GenState} {B : Heap} {L : Addr} {m : Str → Option Value} {U : Own} {Q : Option Value → Shared → Prop},
    A.handled = none → (∀ p ∈ St n, e.s.heap.get? p.1 = none) → Kp B₀ B → Fs e G B L m (St n ++ U) s → (∀ s', Fs e G B L m U s' → Q none s') → wpAny (model prog w) A (pyNext (.ref it)) Q E s
  self : ∀ {A : Around} {E : Value → Shared → Prop} {s : Shared} {e : En} {G : Array GenState} {B : Heap} {L : Addr} {m : Str → Option Value} {U : Own} {Q : Value → Shared → Prop},
    Kp B₀ B → Fs e G B L m (St 0 ++ U) s → Q (.ref it) s → wpAny (model prog w) A (pyIter (.ref it)) Q E s

noncomputable def LItP (l : Addr) (i : Nat) : Obj → Prop := fun o => o.cls = .type "list_iterator" ∧ o.data = .fields #[.ref l, .int i 0]
noncomputable def RItP (x left step : Int) : Obj → Prop := fun o => o = { cls := .type "range_iterator", dict := none, data := .fields #[rawInt x, rawInt left, rawInt step], slots := #[] }
noncomputable def TItP (l : Addr) (i : Nat) : Obj → Prop := fun o => o.cls = .type "tuple_iterator" ∧ o.data = .fields #[.ref l, .int i 0]

theorem letGo_name {x : Str} {p : Pos} {it v : Value} : letOwnedTupleGo (.Name x p) it v = pure () := rfl

/-- no owned tuple at such an iterator -/
theorem letGo_plain {M : Model} {A : Around} {E : Value → Shared → Prop} {s : Shared} {target : Expr} {it : Addr} {v : Value} {T : String} {vs : Array Value} {Q : Unit → Shared → Prop}
    (ho : Is s.heap it fun o => o.cls = .type T ∧ o.data = .fields vs)
    (hT : ["enumerate", "zip", "dict_itemiterator", "dict_reverseitemiterator", "odict_iterator", "itertools.zip_longest", "itertools.pairwise"].contains T = false) (h : Q () s) :
    wpAny M A (letOwnedTupleGo target (.ref it) v) Q E s := by
  obtain ⟨o, ho, hc, hd⟩ := ho
  have key : ∀ a : Addr, wpAny M A (do
      let o ← load it
      match o.cls, o.data with
      | .type n, .fields vs =>
        if ["enumerate", "zip", "dict_itemiterator", "dict_reverseitemiterator", "odict_iterator", "itertools.zip_longest", "itertools.pairwise"].contains n && vs[0]? == some (rawInt a) then
          rule "for.unpacks-the-owned-tuple"
          updateField it 0 .none
      | _, _ => pure () : Sem Unit) Q E s := fun a => by
    refine wpAny_bind (wpAny_load ho ?_)
    rw [hc, hd]
    simp only [hT, Bool.false_and, Bool.false_eq_true, if_false]
    exact wpAny_pure h
  unfold letOwnedTupleGo
  split
  · cases v <;> first | exact wpAny_pure h | exact key _
  · cases v <;> first | exact wpAny_pure h | exact key _
  · exact wpAny_pure h


theorem extBut_is {a b : Addr} {h h' : Heap} {P : Obj → Prop} (hs : Heap.ExtBut a h h') (hb : b ≠ a) (x : Is h b P) : Is h' b P := let ⟨o, z, p⟩ := x; ⟨o, hs b o hb z, p⟩

/-- at an iterator's end: whatever became of it, it is let go -/
theorem Fs.lost {e : En} {G : Array GenState} {B : Heap} {L : Addr} {m : Str → Option Value} {U : Own} {s : Shared} {a : Addr} {P : Obj → Prop} (F : Fs e G B L m ((a, P) :: U) s) {h' : Heap} (hs : Heap.ExtBut a s.heap h')
    (hn : e.s.heap.get? a = none) (n : Nat) : Fs e G B L m U { s with heap := h', toks := n } := by
  have hm := F.own _ (.head _)
  have hd := List.nodup_cons.mp (show (a :: U.map (·.1)).Nodup from F.dis)
  refine ⟨⟨F.rn.bb, F.rn.bn, fun b x hb q => ?_, fun b x q => ?_, fun b x q => ?_⟩, F.ns.extBut hs (Ne.symm hm.2.2.1), F.lb, F.lg, fun p hp => ?_, hd.2, F.os, F.gens⟩
  · exact hs b _ (by rintro rfl; rw [hn] at q; cases q) (F.rn.hk b x hb q)
  · obtain ⟨x', z⟩ := F.rn.th b x q
    exact ⟨x', hs b _ (by rintro rfl; rw [hn] at q; cases q) z⟩
  · exact hs b _ (by rintro rfl; rw [hm.2.1] at q; cases q) (F.kp b x q)
  · have h1 := F.own p (.tail _ hp)
    obtain ⟨o, z, hP⟩ := h1.1
    exact ⟨⟨o, hs p.1 _ (fun q => hd.1 (List.mem_map.mpr ⟨p, hp, q⟩)) z, hP⟩, h1.2⟩

section
variable {prog : Program} {w : World}

theorem nxList {target : Expr} {it l : Addr} {its : List Value} {B₀ : Heap} (hl : B₀.IsList l its.toArray) :
    Nx prog w B₀ it (fun i => [(it, LItP l i)]) (fun i _ => [(it, LItP l (i + 1))]) its.length (fun _ i v => its[i]? = some v) target where
  item := @fun A E s e G B L m U i Q hh k F hi h => by
    have hit : s.heap.IsListIter it l i := F.top
    have hl' := hl.at fun o e => (k.trans F.kp) _ _ e
    obtain ⟨x, hx⟩ : ∃ x, its[i]? = some x := ⟨its[i], by simp [hi]⟩
    exact wpAny_pyNext_list_item hit hl' (by simpa using hx) fun h' hi' hs' => h _ _ _ (.refl _) hx (F.upd (P' := LItP l (i + 1)) hs'.extBut hi' _)
  lets := fun k F hv h => letGo_plain F.top rfl (h _ F)
  done := @fun A E s e G B L m U Q hh hn k F h => by
    have hit : s.heap.IsListIter it l its.length := F.top
    have hl' := hl.at fun o e => (k.trans F.kp) _ _ e
    exact wpAny_pyNext_list_end hh hit hl' (by simp) fun h' he => h _ (F.lost he (hn _ (.head _)) s.toks)
  self := fun k F h => wpAny_pyIter_listiter (i := 0) F.top h

theorem nxTuple {target : Expr} {it l : Addr} {its : List Value} {B₀ : Heap} (hl : B₀.IsTuple l its.toArray) :
    Nx prog w B₀ it (fun i => [(it, TItP l i)]) (fun i _ => [(it, TItP l (i + 1))]) its.length (fun _ i v => its[i]? = some v) target where
  item := @fun A E s e G B L m U i Q hh k F hi h => by
    have hit : s.heap.IsTupleIter it l i := F.top
    have hl' : s.heap.IsTuple l its.toArray := let ⟨o, ho, r⟩ := hl; ⟨o, (k.trans F.kp) _ _ ho, r⟩
    obtain ⟨x, hx⟩ : ∃ x, its[i]? = some x := ⟨its[i], by simp [hi]⟩
    exact wpAny_pyNext_tuple_item hit hl' (by simpa using hx) fun h' hi' hs' => h _ _ _ (.refl _) hx (F.upd (P' := TItP l (i + 1)) hs'.extBut hi' _)
  lets := fun k F hv h => letGo_plain F.top rfl (h _ F)
  done := @fun A E s e G B L m U Q hh hn k F h => by
    have hit : s.heap.IsTupleIter it l its.length := F.top
    have hl' : s.heap.IsTuple l its.toArray := let ⟨o, ho, r⟩ := hl; ⟨o, (k.trans F.kp) _ _ ho, r⟩
    exact wpAny_pyNext_tuple_end hh hit hl' (by simp) fun h' he => h _ (F.lost he (hn _ (.head _)) s.toks)
  self := fun k F h => wpAny_pyIter_tupleiter (i := 0) F.top h

theorem nxRange {target : Expr} {it : Addr} {B₀ : Heap} (a : Int) (n : Nat) :
    Nx prog w B₀ it (fun i => [(it, RItP (a + i) (n - i) 1)]) (fun i _ => [(it, RItP (a + (i + 1 : Nat)) (n - (i + 1 : Nat)) 1)]) n (fun _ i v => ∃ t, v = .int (a + i) t) target where
  item := @fun A E s e G B L m U i Q hh k F hi h => by
    obtain ⟨o, ho, rfl⟩ := F.top
    refine wpAny_pyNext_range_item (x := a + i) (left := n - i) (step := 1) ho (by lia) fun h' hi' hs' => h _ _ _ (.refl _) ⟨_, rfl⟩ (F.upd (P' := RItP (a + (i + 1 : Nat)) (n - (i + 1 : Nat)) 1) hs'.extBut ⟨_, hi', ?_⟩ _)
    have e1 : a + (i : Int) + 1 = a + ((i + 1 : Nat) : Int) := by lia
    have e2 : (n : Int) - i - 1 = n - ((i + 1 : Nat) : Int) := by lia
    show _ = _
    rw [e1, e2]
  lets := fun k F hv h => by
    obtain ⟨o, ho, rfl⟩ := F.top
    exact letGo_plain (T := "range_iterator") ⟨_, ho, rfl, rfl⟩ (by decide) (h _ F)
  done := @fun A E s e G B L m U Q hh hn k F h => by
    obtain ⟨o, ho, rfl⟩ := F.top
    exact wpAny_pyNext_range_end hh ho (by lia) fun h' he => h _ (F.lost he (hn _ (.head _)) s.toks)
  self := fun k F h => by
    obtain ⟨o, ho, rfl⟩ := F.top
    exact wpAny_pyIter_rangeiter ho h

/-- the first owned objects are changed, others may be new -/
theorem Fs.updL {e : En} {G : Array GenState} {B : Heap} {L : Addr} {m : Str → Option Value} {U V : Own} {s : Shared} (V' : Own) (F : Fs e G B L m (V ++ U) s) (hV : V'.map (·.1) = V.map (·.1)) {h' : Heap}
    (hs : ∀ b o, b ∉ V.map (·.1) → s.heap.get? b = some o → h'.get? b = some o) (hi : ∀ p ∈ V', Is h' p.1 p.2) (n : Nat) : Fs e G B L m (V' ++ U) { s with heap := h', toks := n } := by
  have R : Rs (V.map (·.1)) G B s B { s with heap := h', toks := n } := ⟨⟨.refl _, fun _ _ q => .inl q, hs, fun b o q => ?_, fun b o q => ?_⟩, rfl, F.gens⟩
  · exact F.calls hV R hi
  · by_cases hb : b ∈ V.map (·.1)
    · rw [← hV] at hb
      obtain ⟨p, hp, rfl⟩ := List.mem_map.mp hb
      obtain ⟨o', z, _⟩ := hi p hp
      exact ⟨o', z⟩
    · exact ⟨o, hs b o hb q⟩
  · refine hs b o (fun hb => ?_) (F.kp b o q)
    obtain ⟨p, hp, rfl⟩ := List.mem_map.mp hb
    have := (F.own p (List.mem_append_left _ hp)).2.1
    rw [q] at this; cases this

/-- enumerate over a list -/
noncomputable def EnP (it : Addr) (i : Nat) : Obj → Prop := fun o => ∃ old, o = { cls := .type "enumerate", dict := none, data := .fields #[.none, .bool false, .ref it, rawInt i, .none, old], slots := #[] }
noncomputable def EnMP (it : Addr) (i : Nat) (v : Value) : Obj → Prop := fun o => ∃ (a : Nat) (old : Value), v = .ref a ∧ o = { cls := .type "enumerate", dict := none, data := .fields #[rawInt a, .bool false, .ref it, rawInt i, .none, old], slots := #[] }

theorem nxEnum {elts : List Expr} {x1 : Nat} {pos : Pos} {en it l : Addr} {its : List Value} {B₀ : Heap} (hl : B₀.IsList l its.toArray) (hne : en ≠ it) :
    Nx prog w B₀ en (fun i => [(en, EnP it i), (it, LItP l i)]) (fun i v => [(en, EnMP it (i + 1) v), (it, LItP l (i + 1))])
      its.length (fun B i v => ∃ a t x, v = .ref a ∧ its[i]? = some x ∧ B.get? a = some { cls := .type "tuple", data := .seq #[.int i t, x] }) (.Tuple elts x1 pos) where
  item := @fun A E s e G B L m U i Q hh k F hi h => by
    obtain ⟨o, ho, old, rfl⟩ := F.top
    have hit : s.heap.IsListIter it l i := F.swap.top
    have hl' := hl.at fun o e => (k.trans F.kp) _ _ e
    obtain ⟨x, hx⟩ : ∃ x, its[i]? = some x := ⟨its[i], by simp [hi]⟩
    refine wpAny_pyNext_enum_item ho hit hl' (by simpa using hx) hne fun h' heo hit' htu hsz hk => ?_
    have hf : s.heap.get? s.heap.objs.size = none := none_of_size _
    have F1 := F.updL (V := [(en, EnP it i), (it, LItP l i)]) [(en, EnMP it (i + 1) (.ref s.heap.objs.size)), (it, LItP l (i + 1))]
      rfl (h' := h') (fun b o hb q => hk b o (fun z => hb (by simp [z])) (fun z => hb (by simp [z])) q) ?_ (s.toks + 1)
    · have htu' : ({ s with heap := h', toks := s.toks + 1 } : Shared).heap.get? s.heap.objs.size = some { cls := .type "tuple", data := .seq #[.int i s.toks, x] } := htu
      obtain ⟨B', kB, hB, kh, hne'⟩ := grow F1.kp htu'
      refine h _ _ B' kB ⟨_, _, x, rfl, hx, hB⟩ ⟨⟨F1.rn.bb.trans kB, fun b o q => ?_, F1.rn.hk, F1.rn.th, kh⟩, F1.ns, ?_, F1.lg, fun p hp => ?_, F1.dis, F1.os, F1.gens⟩
      · by_cases hb : b = s.heap.objs.size
        · subst hb; exact .inr (F.fresh hf)
        · rw [hne' b hb] at q; exact F1.rn.bn b o q
      · rw [hne' L fun q => ?_]
        · exact F1.lb
        · obtain ⟨o, z⟩ := F.L_some
          rw [q, hf] at z; cases z
      · have h1 := F1.own p hp
        refine ⟨h1.1, ?_, h1.2.2⟩
        rw [hne' p.1 fun q => ?_]
        · exact h1.2.1
        · have key : ∀ p ∈ [(en, EnP it i), (it, LItP l i)] ++ U, p.1 ≠ s.heap.objs.size := fun p hp q => by
            obtain ⟨o, z, _⟩ := (F.own p hp).1
            rw [q, hf] at z; cases z
          simp only [List.cons_append, List.nil_append, List.mem_cons] at hp
          rcases hp with rfl | rfl | hp
          · exact key _ (.head _) q
          · exact key _ (.tail _ (.head _)) q
          · exact key _ (.tail _ (.tail _ hp)) q
    · intro p hp
      simp only [List.mem_cons, List.not_mem_nil, or_false] at hp
      rcases hp with rfl | rfl
      · exact ⟨_, heo, _, _, rfl, rfl⟩
      · exact hit'
  lets := @fun A E s e G B L m U i v Q k F hv h => by
    obtain ⟨a, t, x, rfl, hx, hB⟩ := hv
    obtain ⟨o, ho, a', old, ea, rfl⟩ := F.top
    cases ea
    unfold letOwnedTupleGo
    refine wpAny_bind (wpAny_load ho ?_)
    have c1 : (["enumerate", "zip", "dict_itemiterator", "dict_reverseitemiterator", "odict_iterator", "itertools.zip_longest", "itertools.pairwise"].contains "enumerate" && (#[rawInt (a : Nat), .bool false, .ref it, rawInt (i + 1 : Nat), .none, old] : Array Value)[0]? == some (rawInt a)) = true := by simp
    show wpAny _ A (if _ then _ else _) Q E s
    rw [if_pos c1]
    refine wpAny_bind (wpAny_rule ?_)
    show wpAny _ A (setField (.ref en) 0 .none) Q E s
    refine wpAny_setField_rec ho (by simp) fun h' he' hs' => h _ ((F.upd (P' := EnP it (i + 1)) hs'.extBut ⟨_, he', old, ?_⟩ _))
    simp
  done := @fun A E s e G B L m U Q hh hn k F h => by
    obtain ⟨o, ho, old, rfl⟩ := F.top
    have hit : s.heap.IsListIter it l its.length := F.swap.top
    have hl' := hl.at fun o e => (k.trans F.kp) _ _ e
    exact wpAny_pyNext_enum_end hh ho hit hl' (by simp) fun h' he => h _ ((F.swap.lost he (hn _ (.tail _ (.head _))) s.toks).drop)
  self := fun k F h => by
    obtain ⟨o, ho, old, rfl⟩ := F.top
    exact wpAny_pyIter_enum ho h
end
end
section
/-! dicts whose keys are tuples of ints -/
noncomputable abbrev tk (prog : Program) (w : World) : HeapKind prog w (List Int) := tupleKind (PySem.intKind prog w)
/-- entries: the key, the tuple's address, the value -/
noncomputable abbrev Ents := List (List Int × Addr × Value)
noncomputable def DicP (prog : Program) (w : World) (xs : Ents) : Obj → Prop := fun o => o.ExactDict ∧ (xs.map (·.1)).Nodup ∧ ∃ es ep, o.data = .dict es ep ∧ es.toList = xs.map (entryOfKey (tk prog w))
noncomputable abbrev TupAt (prog : Program) (w : World) (h : Heap) (a : Addr) (ks : List Int) : Prop := (tk prog w).is h ks a
noncomputable def KeysAt (prog : Program) (w : World) (B : Heap) (xs : Ents) : Prop := ∀ x ∈ xs, TupAt prog w B x.2.1 x.1

section
variable {prog : Program} {w : World} {A : Around} {E : Value → Shared → Prop} {s : Shared}
theorem TupAt.mono {B h : Heap} {a : Addr} {ks : List Int} (x : TupAt prog w B a ks) (k : Kp B h) : TupAt prog w h a ks := by
  obtain ⟨o, items, n, ho, r⟩ := x
  exact ⟨o, items, n, k _ _ ho, r⟩
theorem KeysAt.mono {B h : Heap} {xs : Ents} (x : KeysAt prog w B xs) (k : Kp B h) : KeysAt prog w h xs := fun p hp => (x p hp).mono k
theorem dic_of {h : Heap} {d : Addr} {xs : Ents} (x : Is h d (DicP prog w xs)) (k : KeysAt prog w h xs) : h.DictOfH (tk prog w) d xs := by
  obtain ⟨o, ho, h1, h2, es, ep, h3, h4⟩ := x
  exact ⟨o, es, ep, ho, h1, h3, h4, k, h2⟩
theorem dic_to {h : Heap} {d : Addr} {xs : Ents} (x : h.DictOfH (tk prog w) d xs) : Is h d (DicP prog w xs) := by
  obtain ⟨o, es, ep, ho, h1, h3, h4, k, h2⟩ := x
  exact ⟨o, ho, h1, h2, es, ep, h3, h4⟩

noncomputable def KItP (d : Addr) (i n ep : Nat) : Obj → Prop := fun o => o.cls = .type "dict_keyiterator" ∧ o.data = .fields #[.ref d, .int i 0, .int n 0, .int ep 0]

/-- what iteration asks of a dict -/
noncomputable def DicE (es : Array DictEntry) (ep : Nat) : Obj → Prop := fun o => o.ExactDict ∧ o.data = .dict es ep

theorem iter_dict {d : Addr} {es : Array DictEntry} {ep : Nat} {Q : Value → Shared → Prop} (hd : (d == sysModules) = false) (hm : Is s.heap d (DicE es ep))
    (hQ : Q (.ref s.heap.objs.size) { s with heap := s.heap.push { cls := .type "dict_keyiterator", data := .fields #[.ref d, .int 0 0, .int es.size 0, .int ep 0] } }) :
    wpAny (model prog w) A (pyIter (.ref d)) Q E s := by
  obtain ⟨o, ho, hx, hdat⟩ := hm
  have hT : s.TypeIs (.ref d) "dict" := ⟨o, ho, hx.1⟩
  refine wpAny_pyIter_slot hT F.slot_dict_iter (wpAny_call_entry F.slot_dict_iter hT F.entry_dict_iter ?_ (F.args_dict_iter_1 _))
  unfold Builtin.«dict.__iter__»
  refine wpAny_bind ?_
  unfold Builtin.Dict.dictSlotNone
  refine wpAny_bind (wpAny_notOrdered_dict hT ?_)
  show wpAny _ _ (pure (Value.ref d)) _ _ s
  refine wpAny_pure ?_
  show wpAny _ _ (Builtin.Dict.showsAll d >>= _) _ _ s
  unfold Builtin.Dict.showsAll
  rw [if_neg (by rw [hd]; exact Bool.false_ne_true)]
  refine wpAny_bind (wpAny_pure (wpAny_bind (wpAny_dictEntries ho hdat (wpAny_bind (wpAny_dictEpoch ho hdat ?_)))))
  refine wpAny_bind (wpAny_newObj_type (wpAny_pure ⟨_, rfl, "dict_keyiterator", _, ⟨_, Heap.get?_push_size _ rfl, rfl⟩, F.slot_dict_keyiterator_next.lookup, ?_⟩))
  exact hQ

theorem next_dict {it d : Addr} {i ep : Nat} {es : Array DictEntry} {x : DictEntry} {Q : Option Value → Shared → Prop} (hit : Is s.heap it (KItP d i es.size ep))
    (hm : Is s.heap d (DicE es ep)) (hx : es[i]? = some x)
    (hQ : ∀ h', Is h' it (KItP d (i + 1) es.size ep) → Heap.SameBut it s.heap h' → Q (some x.key) { s with heap := h' }) :
    wpAny (model prog w) A (pyNext (.ref it)) Q E s := by
  obtain ⟨o, ho, hc, hd⟩ := hit
  obtain ⟨od, hod, _, hdd⟩ := hm
  have hT : s.TypeIs (.ref it) "dict_keyiterator" := ⟨o, ho, hc⟩
  have hlt : i < es.size := (Array.getElem?_eq_some_iff.mp hx).1
  unfold pyNext
  refine wpAny_bind (wpAny_attempt (wpAny_callSpecial?_slot (name := Str.ofString "__next__") hT F.slot_dict_keyiterator_next
    (wpAny_call_entry F.slot_dict_keyiterator_next hT F.entry_dict_keyiterator_next ?_ (F.args_dict_keyiterator_next_1 _))))
  refine wpAny_bind (wpAny_pure (wpAny_bind (wpAny_bind ?_)))
  first | refine wpAny_bind (wpAny_typeNameOfWhole_keyiter hT (wpAny_pure ?_)) | refine wpAny_bind (wpAny_typeNameOf_keyiter hT (wpAny_pure ?_))
  refine wpAny_bind (wpAny_fieldsOf ho hd ?_)
  have hown : Builtin.Dict_items.ownsTuple "dict_keyiterator" = false := by decide
  simp only [hown, Bool.false_eq_true, if_false]
  show wpAny _ _ (if (Value.ref d == Value.none) = true then _ else _) _ _ s
  rw [if_neg (show ¬ ((Value.ref d == Value.none) = true) from Bool.false_ne_true)]
  refine wpAny_bind (wpAny_pure (wpAny_bind (wpAny_dictEntries hod hdd ?_)))
  rw [if_neg (by simp)]
  refine wpAny_bind (wpAny_pure (wpAny_bind (wpAny_dictEpoch hod hdd ?_)))
  rw [if_neg (by simp)]
  refine wpAny_pure ?_
  simp only [show ¬ ((i : Int) < 0) from by lia, if_false, Int.toNat_natCast, hx]
  refine wpAny_bind ?_
  first | refine wpAny_bind (wpAny_typeNameOfWhole_keyiter hT (wpAny_pure ?_)) | refine wpAny_bind (wpAny_typeNameOf_keyiter hT (wpAny_pure ?_))
  refine wpAny_bind (wpAny_isOneOf_keyiter hT ?_)
  show wpAny _ _ (setField (.ref it) 1 (rawInt ((i : Int) + 1)) >>= _) _ _ s
  refine wpAny_bind (wpAny_setField ho hd (by simp) ?_)
  have hit' : Is (s.heap.update it (Obj.mapFields (·.setIfInBounds 1 (rawInt ((i : Int) + 1))))) it (KItP d (i + 1) es.size ep) :=
    ⟨_, Heap.get?_update_self _ ho (Obj.isFreed_of_fields (Obj.data_mapFields hd _)), (Obj.cls_mapFields ..).trans hc, by rw [Obj.data_mapFields hd]; simp [rawInt]⟩
  refine wpAny_bind (wpAny_holding ?_)
  refine wpAny_bind (wpAny_isOneOf_keyiter (s := { s with heap := s.heap.update it (Obj.mapFields (·.setIfInBounds 1 (rawInt ((i : Int) + 1)))) }) (let ⟨o, z, c, _⟩ := hit'; ⟨o, z, c⟩) ?_)
  show wpAny _ _ (pure x.key) _ _ _
  exact wpAny_pure (wpAny_pure ⟨_, rfl, wpAny_pure (hQ _ hit' (Heap.SameBut.update ..))⟩)

theorem next_dict_end {it d : Addr} {ep : Nat} {es : Array DictEntry} {Q : Option Value → Shared → Prop} (hh : A.handled = none) (hit : Is s.heap it (KItP d es.size es.size ep))
    (hm : Is s.heap d (DicE es ep)) (hQ : ∀ h', Heap.ExtBut it s.heap h' → Q none { s with heap := h' }) : wpAny (model prog w) A (pyNext (.ref it)) Q E s := by
  obtain ⟨o, ho, hc, hd⟩ := hit
  obtain ⟨od, hod, _, hdd⟩ := hm
  have hT : s.TypeIs (.ref it) "dict_keyiterator" := ⟨o, ho, hc⟩
  unfold pyNext
  refine wpAny_bind (wpAny_attempt (wpAny_callSpecial?_slot (name := Str.ofString "__next__") hT F.slot_dict_keyiterator_next
    (wpAny_call_entry F.slot_dict_keyiterator_next hT F.entry_dict_keyiterator_next ?_ (F.args_dict_keyiterator_next_1 _))))
  refine wpAny_bind (wpAny_pure (wpAny_bind (wpAny_bind ?_)))
  first | refine wpAny_bind (wpAny_typeNameOfWhole_keyiter hT (wpAny_pure ?_)) | refine wpAny_bind (wpAny_typeNameOf_keyiter hT (wpAny_pure ?_))
  refine wpAny_bind (wpAny_fieldsOf ho hd ?_)
  have hown : Builtin.Dict_items.ownsTuple "dict_keyiterator" = false := by decide
  simp only [hown, Bool.false_eq_true, if_false]
  show wpAny _ _ (if (Value.ref d == Value.none) = true then _ else _) _ _ s
  rw [if_neg (show ¬ ((Value.ref d == Value.none) = true) from Bool.false_ne_true)]
  refine wpAny_bind (wpAny_pure (wpAny_bind (wpAny_dictEntries hod hdd ?_)))
  rw [if_neg (by simp)]
  refine wpAny_bind (wpAny_pure (wpAny_bind (wpAny_dictEpoch hod hdd ?_)))
  rw [if_neg (by simp)]
  refine wpAny_pure ?_
  simp only [show ¬ ((es.size : Int) < 0) from by lia, if_false, Int.toNat_natCast, Array.getElem?_eq_none (Nat.le_refl es.size)]
  refine wpAny_bind ?_
  first | refine wpAny_bind (wpAny_typeNameOfWhole_keyiter hT (wpAny_pure ?_)) | refine wpAny_bind (wpAny_typeNameOf_keyiter hT (wpAny_pure ?_))
  show wpAny _ _ (setField (.ref it) 0 .none >>= _) _ _ s
  refine wpAny_bind (wpAny_setField ho hd (by simp) ?_)
  show wpAny _ _ (newExc (.type "StopIteration") [] >>= _) _ _ _
  refine wpAny_bind ?_
  simp only [newExc, newTuple]
  refine wpAny_bind (wpAny_newObj_type ?_ (by size_fits))
  refine wpAny_bind (m := firstArgMember _ _) (wpAny_of_eq (a := Value.none) (by first | rfl | (simp only [firstArgMember]; rfl)) ?_)
  refine wpAny_newObj_type ?_ (by size_fits)
  simp only [raiseNew]
  refine wpAny_bind (wpAny_handled ?_)
  rw [show A.in1.handled = none from hh]
  refine wpAny_bind (wpAny_pure (wpAny_throw ?_))
  refine wpAny_bind (wpAny_isInstance (T := "StopIteration") (b := true) ⟨_, Heap.get?_push_size _ rfl, rfl⟩ isSubtype_stop ?_)
  exact wpAny_pure (hQ _ (((Heap.SameBut.update ..).extBut.push _).push _))
end

section
variable {prog : Program} {w : World}
theorem nxDict {target : Expr} {it d : Addr} {es : Array DictEntry} {ep : Nat} {B₀ : Heap} (hl : Is B₀ d (DicE es ep)) :
    Nx prog w B₀ it (fun i => [(it, KItP d i es.size ep)]) (fun i _ => [(it, KItP d (i + 1) es.size ep)]) es.size (fun _ i v => ∃ x, es[i]? = some x ∧ v = x.key) target where
  item := @fun A E s e G B L m U i Q hh k F hi h =>
    next_dict F.top (hl.keeps (k.trans F.kp)) (x := es[i]) (by simp [hi]) fun h' hi' hs' => h _ _ _ (.refl _) ⟨es[i], by simp [hi], rfl⟩ (F.upd hs'.extBut hi' _)
  lets := fun k F hv h => letGo_plain F.top rfl (h _ F)
  done := @fun A E s e G B L m U Q hh hn k F h =>
    next_dict_end hh F.top (hl.keeps (k.trans F.kp)) fun h' he => h _ (F.lost he (hn _ (.head _)) s.toks)
  self := @fun A E s e G B L m U Q k F h => by
    obtain ⟨o, ho, hc, hd⟩ := F.top
    exact wpAny_pyIter_keyiter (it := it) (d := d) (i := 0) (n := es.size) (ep := ep) ⟨o, ho, hc, hd⟩ h
end
end
section
section
variable {prog : Program} {w : World} {A : Around} {s : Shared} {e : En} {G : Array GenState} {B : Heap} {L : Addr} {m : Str → Option Value} {U : Own} {env : Env}

/-- a for loop: what holds after i items (the base, the locals, what is owned) -/
theorem forN {target : Expr} {body : List Stmt} {B₀ : Heap} {it : Addr} {St : Nat → Own} {Mid : Nat → Value → Own} {n : Nat} {V : Heap → Nat → Value → Prop} {R : Result → Shared → Prop}
    (N : Nx prog w B₀ it St Mid n V target) (hh : A.handled = none) (hfr : ∀ i, ∀ p ∈ St i, e.s.heap.get? p.1 = none) (kB : Kp B₀ B) (F : Fs e G B L m (St 0 ++ U) s)
    (Inv : Nat → Heap → (Str → Option Value) → Own → Prop) (h0 : Inv 0 B m U)
    (turn : ∀ i v B' m' U' s' E', i < n → Kp B B' → Inv i B' m' U' → V B' i v → (∃ B'', Kp B'' B' ∧ Inv i B'' m' U') → Fs e G B' L m' (St (i + 1) ++ U') s' →
      wpAny (model prog w) A (assign target env v) (fun _ s2 => wpAny (model prog w) A (execs body env) (fun f s3 => (f = .next ∨ f = .cont) ∧
        ∃ B'' m'' U'', Kp B B'' ∧ Fs e G B'' L m'' (St (i + 1) ++ U'') s3 ∧ Inv (i + 1) B'' m'' U'') E' s2) E' s')
    (mono : ∀ i B' B'' m' U', Inv i B' m' U' → Kp B' B'' → Inv i B'' m' U')
    (fin : ∀ B' m' U' s', Kp B B' → Inv n B' m' U' → Fs e G B' L m' U' s' → R (.ok .next) s') :
    codeAny (model prog w) A (.forLoop target (.ref it) body [] env) R s := by
  refine codeAny_forLoop_any (fun k s' => ∃ i B' m' U', k = n + 1 - i ∧ i ≤ n ∧ Kp B B' ∧ Fs e G B' L m' (St i ++ U') s' ∧ Inv i B' m' U') ?_ (n + 1) ⟨0, B, m, U, rfl, Nat.zero_le _, .refl _, F, h0⟩
  rintro k s' hX9; refine ea4_5 hX9 ?_; clear hX9; rintro i B' m' U' rfl hi kb F' hI
  by_cases hlt : i < n
  · refine N.item hh (kB.trans kb) F' hlt fun v s2 B2 k2 hv F2 => ?_
    refine N.lets (kB.trans (kb.trans k2)) F2 hv fun s3 F3 => ?_
    refine wpAny_mono (turn i v B2 m' U' s3 _ hlt (kb.trans k2) (mono i B' B2 m' U' hI k2) hv ⟨B', k2, hI⟩ F3) (fun _ s4 h4 => wpAny_mono h4 (fun f s5 h5 => ?_) fun _ _ x => x) fun _ _ x => x
    refine anE2 h5 ?_; clear h5; rintro hf hX9; refine ea3_3 hX9 ?_; clear hX9; rintro B'' m'' U'' k'' F'' I''
    have : ∃ m_1, m_1 < n + 1 - i ∧ ∃ i_1 B' m' U', m_1 = n + 1 - i_1 ∧ i_1 ≤ n ∧ Kp B B' ∧ Fs e G B' L m' (St i_1 ++ U') s5 ∧ Inv i_1 B' m' U' :=
      ⟨n + 1 - (i + 1), by lia, i + 1, B'', m'', U'', rfl, hlt, k'', F'', I''⟩
    rcases hf with rfl | rfl <;> exact this
  · obtain rfl : i = n := by lia
    refine N.done hh (hfr i) (kB.trans kb) F' fun s2 F2 => ?_
    exact wpAny_execs_nil (fin _ _ _ _ kb hI F2)

/-- the statement, its iterator made -/
theorem forStmt {target iter : Expr} {body : List Stmt} {pos : Pos} {Q : Flow → Shared → Prop} {E : Value → Shared → Prop}
    (h : wpAny (model prog w) A (eval iter env) (fun x s₁ => wpAny (model prog w) A (pyIter x) (fun it s₂ => ∀ X : Value → Shared → Prop, codeAny (model prog w) A (.forLoop target it body [] env) (fun r s' => match r with | .ok f => Q f s' | .error e => X e s') s₂) E s₁) E s)
    (hs : ∀ x, foldedSetIterable iter env x = pure x := by intro _; rfl) :
    wpAny (model prog w) A (exec (.For target iter body [] pos) env) Q E s :=
  wpAny_For (wpAny_mono h (fun x s1 h1 => wpAny_mono h1 (fun it s2 h2 => h2 _) fun _ _ x => x) fun _ _ x => x) hs
end

/-! comprehensions -/
/-- the locals of a frame that waits -/
noncomputable def NsP (m : Str → Option Value) : Obj → Prop := fun o => ∃ es ep, o.data = .dict es ep ∧ StrKeys es ∧ ∀ name, nsFind es name = m name

section
variable {e : En} {G : Array GenState} {B : Heap} {L C : Addr} {m mC : Str → Option Value} {U : Own} {s : Shared}
theorem Fs.switch (F : Fs e G B L m ((C, NsP mC) :: U) s) (hn : e.s.heap.get? C = none) : Fs e G B C mC ((L, NsP m) :: U) s := by
  have hC := F.own _ (.head _)
  have hd := List.nodup_cons.mp (show (C :: U.map (·.1)).Nodup from F.dis)
  obtain ⟨oC, hoC, es, ep, a1, a2, a3⟩ := hC.1
  obtain ⟨oL, es', ep', hoL, b1, b2, b3⟩ := F.ns
  refine ⟨F.rn, ⟨oC, es, ep, hoC, a1, a2, a3⟩, hC.2.1, hn, fun p hp => ?_, ?_, F.os, F.gens⟩
  · rcases List.mem_cons.mp hp with rfl | hp
    · exact ⟨⟨oL, hoL, es', ep', b1, b2, b3⟩, F.lb, Ne.symm hC.2.2.1, .inl F.lg⟩
    · have h1 := F.own p (.tail _ hp)
      exact ⟨h1.1, h1.2.1, fun q => hd.1 (List.mem_map.mpr ⟨p, hp, q⟩), h1.2.2.2⟩
  · show (L :: U.map (·.1)).Nodup
    rw [List.nodup_cons]
    refine ⟨fun q => ?_, hd.2⟩
    obtain ⟨p, hp, q⟩ := List.mem_map.mp q
    exact (F.own p (.tail _ hp)).2.2.1 q
end

section
variable {prog : Program} {w : World} {A : Around} {E : Value → Shared → Prop} {s : Shared} {e : En} {G : Array GenState} {B : Heap} {L C : Addr} {m mC : Str → Option Value} {U : Own} {env : Env}

/-- what one turn of a comprehension does behind its tests -/
noncomputable def innerLast (elt : Expr) (acc : Value) (env : Env) : Sem Unit := do let _ ← call (.builtin "list.append") [acc, ← eval elt env]
noncomputable def tests (ifs : List Expr) (env : Env) : Sem Bool := forIn ifs true fun c r => if r = true then do let ok ← isTrue c env (eval c env); pure (ForInStep.yield ok) else pure (ForInStep.yield r)

theorem turn_last {elt target iter : Expr} {ifs : List Expr} {gens : List Comprehension} {scope : Scope} {pos : Pos} {depth : Nat} {it acc : Value} {Q : Fin → Shared → Prop} (hg : gens[depth]? = some ⟨target, iter, ifs, 0⟩) (hn : gens[depth + 1]? = none)
    (h : wpAny (model prog w) A (pyNext it) (fun r s1 => match r with
      | none => Q (.done .next) s1
      | some v => wpAny (model prog w) A (letOwnedTupleGo target it v) (fun _ s2 => wpAny (model prog w) A (assign target env v) (fun _ s3 => wpAny (model prog w) A (tests ifs env) (fun ok s4 =>
          if ok = true then wpAny (model prog w) A (eval elt env) (fun x s5 => wpAny (model prog w) A (call (.builtin "list.append") [acc, x]) (fun _ s6 => Q (.again (.compLoop (.ListComp elt gens scope pos) depth it acc env)) s6) E s5) E s4
          else Q (.again (.compLoop (.ListComp elt gens scope pos) depth it acc env)) s4) E s3) E s2) E s1) E s) :
    wpAny (model prog w) A (compTurn (.ListComp elt gens scope pos) depth it acc env) Q E s := by
  unfold compTurn
  dsimp only
  rw [hg]
  dsimp only
  rw [hn]
  show wpAny _ _ (standAt iter.pos >>= _) _ _ _
  refine wpAny_bind (wpAny_standAt ?_)
  show wpAny _ _ (pyNext it >>= _) _ _ _
  refine wpAny_bind (wpAny_mono h (fun r s1 h1 => ?_) fun _ _ x => x)
  cases r with
  | none => exact wpAny_pure h1
  | some v =>
    refine wpAny_bind (wpAny_mono h1 (fun _ s2 h2 => wpAny_bind (wpAny_mono h2 (fun _ s3 h3 => wpAny_bind (wpAny_mono h3 (fun ok s4 h4 => ?_) fun _ _ x => x)) fun _ _ x => x)) fun _ _ x => x)
    cases ok with
    | false => exact wpAny_pure h4
    | true =>
      refine wpAny_bind (wpAny_bind (wpAny_mono h4 (fun x s5 h5 => wpAny_bind (wpAny_mono h5 (fun _ s6 h6 => wpAny_pure (wpAny_pure h6)) fun _ _ x => x)) fun _ _ x => x))

theorem turn_next {elt target iter : Expr} {ifs : List Expr} {gens : List Comprehension} {scope : Scope} {pos : Pos} {depth : Nat} {it acc : Value} {Q : Fin → Shared → Prop} {target' iter' : Expr} {ifs' : List Expr}
    (hg : gens[depth]? = some ⟨target, iter, ifs, 0⟩) (hn : gens[depth + 1]? = some ⟨target', iter', ifs', 0⟩) (hs : ∀ x, foldedSetIterable iter' env x = pure x)
    (h : wpAny (model prog w) A (pyNext it) (fun r s1 => match r with
      | none => Q (.done .next) s1
      | some v => wpAny (model prog w) A (letOwnedTupleGo target it v) (fun _ s2 => wpAny (model prog w) A (assign target env v) (fun _ s3 => wpAny (model prog w) A (tests ifs env) (fun ok s4 =>
          if ok = true then wpAny (model prog w) A (eval iter' env) (fun x s5 => wpAny (model prog w) A (pyIter x) (fun it' s6 =>
            ∀ X : Value → Shared → Prop, codeAny (model prog w) A (.compStart (.ListComp elt gens scope pos) (depth + 1) it' acc env) (fun r s7 => match r with | .ok _ => Q (.again (.compLoop (.ListComp elt gens scope pos) depth it acc env)) s7 | .error e => X e s7) s6) E s5) E s4
          else Q (.again (.compLoop (.ListComp elt gens scope pos) depth it acc env)) s4) E s3) E s2) E s1) E s) :
    wpAny (model prog w) A (compTurn (.ListComp elt gens scope pos) depth it acc env) Q E s := by
  unfold compTurn
  dsimp only
  rw [hg]
  dsimp only
  rw [hn]
  show wpAny _ _ (standAt iter.pos >>= _) _ _ _
  refine wpAny_bind (wpAny_standAt ?_)
  show wpAny _ _ (pyNext it >>= _) _ _ _
  refine wpAny_bind (wpAny_mono h (fun r s1 h1 => ?_) fun _ _ x => x)
  cases r with
  | none => exact wpAny_pure h1
  | some v =>
    refine wpAny_bind (wpAny_mono h1 (fun _ s2 h2 => wpAny_bind (wpAny_mono h2 (fun _ s3 h3 => wpAny_bind (wpAny_mono h3 (fun ok s4 h4 => ?_) fun _ _ x => x)) fun _ _ x => x)) fun _ _ x => x)
    cases ok with
    | false => exact wpAny_pure h4
    | true =>
      show wpAny _ _ (eval iter' env >>= fun x => standAt iter'.pos >>= fun _ => foldedSetIterable iter' env x >>= fun x => holding [x] (pyIter x) >>= fun y => runOwn (.compStart (.ListComp elt gens scope pos) (depth + 1) y acc env) env >>= fun _ => again _) _ _ _
      refine wpAny_bind (wpAny_mono h4 (fun x s5 h5 => wpAny_bind (wpAny_standAt (wpAny_bind (wpAny_of_eq (hs x) (wpAny_bind (wpAny_holding (wpAny_mono h5 (fun it' s6 h6 => ?_) fun _ _ x => x))))))) fun _ _ x => x)
      refine wpAny_bind (wpAny_runOwn (codeAny_mono (h6 (cameBackBy (model prog w) A env E)) fun r s7 h7 => ?_))
      cases r with
      | ok f => exact wpAny_pure h7
      | error x => exact h7
end
end
section
section
variable {prog : Program} {w : World} {A : Around} {E : Value → Shared → Prop} {s : Shared} {e : En} {G : Array GenState} {B : Heap} {L C D : Addr} {m mC : Str → Option Value} {U : Own} {env : Env}

theorem aList {its : List Value} {x : Value} {Q : Value → Shared → Prop} (F : Fs e G B L m ((D, LstP its) :: U) s) (hz : its.length ≤ 100000)
    (h : ∀ s', Fs e G B L m ((D, LstP (its ++ [x])) :: U) s' → Q .none s') : wpAny (model prog w) A (call (.builtin "list.append") [.ref D, x]) Q E s := by
  have hl := lst_plain F.top
  refine wpAny_list_append_plain hl (fun h' hl' hs' => h _ (F.upd (P' := LstP (its ++ [x])) hs'.extBut ?_ _)) (by rw [List.size_toArray, sizeLine_eq]; lia)
  have e1 : its.toArray.push x = (its ++ [x]).toArray := by simp
  rw [e1] at hl'; exact plain_lst hl'

theorem startN {elt target iter : Expr} {ifs : List Expr} {gens : List Comprehension} {scope : Scope} {pos : Pos} {depth : Nat} {acc : Value} {R : Result → Shared → Prop} {B₀ : Heap} {it : Addr} {St : Nat → Own} {Mid : Nat → Value → Own} {n : Nat} {V : Heap → Nat → Value → Prop}
    (N : Nx prog w B₀ it St Mid n V target) (hg : gens[depth]? = some ⟨target, iter, ifs, 0⟩) (kB : Kp B₀ B) (F : Fs e G B C mC (St 0 ++ U) s)
    (h : codeAny (model prog w) A (.compLoop (.ListComp elt gens scope pos) depth (.ref it) acc env) R s) :
    codeAny (model prog w) A (.compStart (.ListComp elt gens scope pos) depth (.ref it) acc env) R s := by
  refine codeAny_of_tree ?_
  show wpAny _ A ((compStart (.ListComp elt gens scope pos) depth (.ref it) acc env).onRaise (fun x => do noteFrame x env; standAt theWindowsPlace)) _ _ s
  refine wpAny_notedAt ?_
  unfold compStart
  have e1 : (clausesOf (.ListComp elt gens scope pos))[depth]? = some ⟨target, iter, ifs, 0⟩ := hg
  rw [e1]
  show wpAny _ _ (ask >>= _) _ _ s
  refine wpAny_bind (wpAny_askSetting (wpAny_ite ?_))
  split
  · first
      | exact wpAny_bind (wpAny_pure (wpAny_pure (And.intro rfl h)))
      | exact wpAny_pure (And.intro rfl h)
  · refine wpAny_bind (wpAny_rule ?_)
    show wpAny _ _ (standAt iter.pos >>= _) _ _ s
    exact wpAny_bind (wpAny_standAt (wpAny_bind (N.self kB F (wpAny_pure (And.intro rfl h)))))

/-- the last clause of a comprehension: items are appended to D -/
theorem compLast {elt target iter : Expr} {ifs : List Expr} {gens : List Comprehension} {scope : Scope} {pos : Pos} {depth : Nat} {R : Result → Shared → Prop} {B₀ : Heap} {it : Addr} {St : Nat → Own} {Mid : Nat → Value → Own} {n : Nat} {V : Heap → Nat → Value → Prop}
    (N : Nx prog w B₀ it St Mid n V target) (hg : gens[depth]? = some ⟨target, iter, ifs, 0⟩) (hn : gens[depth + 1]? = none) (hh : A.handled = none) (hfr : ∀ i, ∀ p ∈ St i, e.s.heap.get? p.1 = none) (kB : Kp B₀ B)
    {ys : List Value} (F : Fs e G B C mC (St 0 ++ ((D, LstP ys) :: U)) s)
    (Inv : Nat → Heap → List Value → Own → Prop) (h0 : Inv 0 B ys U)
    (turn : ∀ i v B' m' ys U' s' E', i < n → Kp B B' → Inv i B' ys U' → V B' i v → Fs e G B' C m' (St (i + 1) ++ ((D, LstP ys) :: U')) s' →
      wpAny (model prog w) A (assign target env v) (fun _ s2 => wpAny (model prog w) A (tests ifs env) (fun ok s3 =>
        if ok = true then wpAny (model prog w) A (eval elt env) (fun y s4 => ys.length ≤ 100000 ∧ ∃ B'' m'' U'', Kp B B'' ∧ Fs e G B'' C m'' (St (i + 1) ++ ((D, LstP ys) :: U'')) s4 ∧ Inv (i + 1) B'' (ys ++ [y]) U'') E' s3
        else ∃ B'' m'' U'', Kp B B'' ∧ Fs e G B'' C m'' (St (i + 1) ++ ((D, LstP ys) :: U'')) s3 ∧ Inv (i + 1) B'' ys U'') E' s2) E' s')
    (mono : ∀ i B' B'' ys U', Inv i B' ys U' → Kp B' B'' → Inv i B'' ys U')
    (fin : ∀ B' m' ys U' s', Kp B B' → Inv n B' ys U' → Fs e G B' C m' ((D, LstP ys) :: U') s' → R (.ok .next) s') :
    codeAny (model prog w) A (.compLoop (.ListComp elt gens scope pos) depth (.ref it) (.ref D) env) R s := by
  refine codeAny_loop rfl (fun k s' => ∃ i B' m' ys U', k = n + 1 - i ∧ i ≤ n ∧ Kp B B' ∧ Fs e G B' C m' (St i ++ ((D, LstP ys) :: U')) s' ∧ Inv i B' ys U') ?_ (n + 1) ⟨0, B, mC, ys, U, rfl, Nat.zero_le _, .refl _, F, h0⟩
  rintro k s' hX9; refine ea5_5 hX9 ?_; clear hX9; rintro i B' m' ys U' rfl hi kb F' hI
  show wpAny _ A ((compTurn (.ListComp elt gens scope pos) depth (.ref it) (.ref D) env).onRaise (fun x => do noteFrame x env; theTreesLotGoes x)) _ _ s'
  refine wpAny_noted (turn_last hg hn ?_)
  by_cases hlt : i < n
  · refine N.item hh (kB.trans kb) F' hlt fun v s2 B2 k2 hv F2 => ?_
    refine N.lets (kB.trans (kb.trans k2)) F2 hv fun s3 F3 => ?_
    refine wpAny_mono (turn i v B2 m' ys U' s3 _ hlt (kb.trans k2) (mono i B' B2 ys U' hI k2) hv F3) (fun _ s4 h4 => wpAny_mono h4 (fun ok s5 h5 => ?_) fun _ _ x => x) fun _ _ x => x
    cases ok with
    | false =>
      simp only [Bool.false_eq_true, if_false] at h5 ⊢
      refine ea3_3 h5 ?_; clear h5; rintro B'' m'' U'' k'' F'' I''
      exact ⟨trivial, n + 1 - (i + 1), by lia, i + 1, B'', m'', ys, U'', rfl, hlt, k'', F'', I''⟩
    | true =>
      simp only [if_true] at h5 ⊢
      refine wpAny_mono h5 (fun y s6 h6 => ?_) fun _ _ x => x
      refine anE2 h6 ?_; clear h6; rintro hz hX9; refine ea3_3 hX9 ?_; clear hX9; rintro B'' m'' U'' k'' F'' I''
      refine aList (F''.perm List.perm_middle) hz fun s7 F7 => ?_
      exact ⟨trivial, n + 1 - (i + 1), by lia, i + 1, B'', m'', _, U'', rfl, hlt, k'', F7.perm List.perm_middle.symm, I''⟩
  · obtain rfl : i = n := by lia
    refine N.done hh (hfr i) (kB.trans kb) F' fun s2 F2 => ?_
    exact fin _ _ _ _ _ kb hI F2

/-- an outer clause -/
theorem compOuter {elt target iter target' iter' : Expr} {ifs ifs' : List Expr} {gens : List Comprehension} {scope : Scope} {pos : Pos} {depth : Nat} {R : Result → Shared → Prop} {B₀ : Heap} {it : Addr} {St : Nat → Own} {Mid : Nat → Value → Own} {n : Nat} {V : Heap → Nat → Value → Prop}
    (N : Nx prog w B₀ it St Mid n V target) (hg : gens[depth]? = some ⟨target, iter, ifs, 0⟩) (hn : gens[depth + 1]? = some ⟨target', iter', ifs', 0⟩) (hs : ∀ x, foldedSetIterable iter' env x = pure x)
    (hh : A.handled = none) (hfr : ∀ i, ∀ p ∈ St i, e.s.heap.get? p.1 = none) (kB : Kp B₀ B)
    {ys : List Value} (F : Fs e G B C mC (St 0 ++ ((D, LstP ys) :: U)) s)
    (Inv : Nat → Heap → List Value → Own → Prop) (h0 : Inv 0 B ys U)
    (turn : ∀ i v B' m' ys U' s' E', i < n → Kp B B' → Inv i B' ys U' → V B' i v → Fs e G B' C m' (St (i + 1) ++ ((D, LstP ys) :: U')) s' →
      wpAny (model prog w) A (assign target env v) (fun _ s2 => wpAny (model prog w) A (tests ifs env) (fun ok s3 => ok = true ∧
        wpAny (model prog w) A (eval iter' env) (fun x s4 => wpAny (model prog w) A (pyIter x) (fun it' s5 => ∀ X : Value → Shared → Prop,
          codeAny (model prog w) A (.compStart (.ListComp elt gens scope pos) (depth + 1) it' (.ref D) env) (fun r s6 => match r with
            | .ok _ => ∃ B'' m'' ys'' U'', Kp B B'' ∧ Fs e G B'' C m'' (St (i + 1) ++ ((D, LstP ys'') :: U'')) s6 ∧ Inv (i + 1) B'' ys'' U''
            | .error e => X e s6) s5) E' s4) E' s3) E' s2) E' s')
    (mono : ∀ i B' B'' ys U', Inv i B' ys U' → Kp B' B'' → Inv i B'' ys U')
    (fin : ∀ B' m' ys U' s', Kp B B' → Inv n B' ys U' → Fs e G B' C m' ((D, LstP ys) :: U') s' → R (.ok .next) s') :
    codeAny (model prog w) A (.compLoop (.ListComp elt gens scope pos) depth (.ref it) (.ref D) env) R s := by
  refine codeAny_loop rfl (fun k s' => ∃ i B' m' ys U', k = n + 1 - i ∧ i ≤ n ∧ Kp B B' ∧ Fs e G B' C m' (St i ++ ((D, LstP ys) :: U')) s' ∧ Inv i B' ys U') ?_ (n + 1) ⟨0, B, mC, ys, U, rfl, Nat.zero_le _, .refl _, F, h0⟩
  rintro k s' hX9; refine ea5_5 hX9 ?_; clear hX9; rintro i B' m' ys U' rfl hi kb F' hI
  show wpAny _ A ((compTurn (.ListComp elt gens scope pos) depth (.ref it) (.ref D) env).onRaise (fun x => do noteFrame x env; theTreesLotGoes x)) _ _ s'
  refine wpAny_noted (turn_next hg hn hs ?_)
  by_cases hlt : i < n
  · refine N.item hh (kB.trans kb) F' hlt fun v s2 B2 k2 hv F2 => ?_
    refine N.lets (kB.trans (kb.trans k2)) F2 hv fun s3 F3 => ?_
    refine wpAny_mono (turn i v B2 m' ys U' s3 _ hlt (kb.trans k2) (mono i B' B2 ys U' hI k2) hv F3) (fun _ s4 h4 => wpAny_mono h4 (fun ok s5 h5 => ?_) fun _ _ x => x) fun _ _ x => x
    obtain ⟨rfl, h5⟩ := h5
    simp only [if_true]
    refine wpAny_mono h5 (fun x s6 h6 => wpAny_mono h6 (fun it' s7 h7 X => codeAny_mono (h7 X) fun r s8 h8 => ?_) fun _ _ x => x) fun _ _ x => x
    cases r with
    | error x => exact h8
    | ok f =>
      refine ea4_3 h8 ?_; clear h8; rintro B'' m'' ys'' U'' k'' F'' I''
      exact ⟨trivial, n + 1 - (i + 1), by lia, i + 1, B'', m'', ys'', U'', rfl, hlt, k'', F'', I''⟩
  · obtain rfl : i = n := by lia
    refine N.done hh (hfr i) (kB.trans kb) F' fun s2 F2 => ?_
    exact fin _ _ _ _ _ kb hI F2
end
end
section
section
variable {prog : Program} {w : World} {A : Around} {E : Value → Shared → Prop} {s : Shared} {e : En} {G : Array GenState} {B : Heap} {L C D : Addr} {m mC : Str → Option Value} {U : Own} {env : Env}

theorem Fs.dropC {a b : Addr × (Obj → Prop)} (F : Fs e G B L m (a :: b :: U) s) : Fs e G B L m (a :: U) s := F.swap.drop

/-- the frame of a comprehension: the list D, the locals C -/
theorem compFrame {scope : Scope} {cl : List (Str × Addr)} {P : Value → Env → Shared → Prop} (F : Fs e G B env.locals m U s) (hcell : ∀ y ∈ scope.names, y.2 ≠ .cell) (hkind : scope.kind = .function)
    (h : ∀ C D s', Fs e G B C (fun _ => none) ((D, LstP []) :: (env.locals, NsP m) :: U) s' → e.s.heap.get? C = none → e.s.heap.get? D = none → ∀ cenv : Env, { cenv with scope := relabel scope env } = compEnvC scope cl C env → cenv.locals = C → P (.ref D) cenv s') :
    wpAny (model prog w) A (newList []) (fun acc s₃ => wpAny (model prog w) A (newFunctionEnv scope env.globals cl [] env.qual none .none (some env)) (fun cenv s₄ => P acc cenv s₄) E s₃) E s := by
  refine wpAny_newList ?_ (Nat.zero_le _)
  have F1 : Fs e G B env.locals m ((s.heap.objs.size, LstP []) :: U) { s with heap := s.heap.push { cls := .type "list", data := .seq ([] : List Value).toArray }, toks := s.toks } :=
    F.take (fun b o q => Heap.get?_push_of_some _ q) (none_of_size _) ⟨_, Heap.get?_push_size _ rfl, 0, rfl⟩ s.toks
  have hD : e.s.heap.get? s.heap.objs.size = none := F.fresh (none_of_size _)
  generalize hs1 : ({ s with heap := s.heap.push { cls := .type "list", data := .seq ([] : List Value).toArray }, toks := s.toks } : Shared) = s1 at F1
  refine wpAny_newFunctionEnv hcell (by intro y hy; simp at hy) (fun h₁ hns₁ hsb₁ => ?_) hkind
  have hC : e.s.heap.get? s1.heap.objs.size = none := F1.fresh (none_of_size _)
  have k1 : Kp s1.heap h₁ := fun b o q => hsb₁.extBut b o (Nat.ne_of_lt (Heap.lt_size q)) (Heap.get?_push_of_some _ q)
  have F2 : Fs e G B env.locals m ((s1.heap.objs.size, NsP fun _ => none) :: (s.heap.objs.size, LstP []) :: U) { s1 with heap := h₁, toks := s1.toks + ([] : List (Str × Value)).length } := by
    refine F1.take k1 (none_of_size _) ?_ _
    obtain ⟨o, es, ep, ho, r⟩ := hns₁
    exact ⟨o, ho, es, ep, by simpa using r⟩
  exact h _ _ _ ((F2.switch hC).swap) hC hD _ rfl rfl

theorem listComp {elt target iter : Expr} {ifs : List Expr} {gs : List Comprehension} {scope : Scope} {pos : Pos} {cl : List (Str × Addr)} {Q : Value → Shared → Prop}
    (h : wpAny (model prog w) A (eval iter env) (fun x s1 => wpAny (model prog w) A (pyIter x) (fun it s2 => ∃ B2 m U2, Fs e G B2 env.locals m U2 s2 ∧
      ∀ C D s3, Fs e G B2 C (fun _ => none) ((D, LstP []) :: (env.locals, NsP m) :: U2) s3 → e.s.heap.get? C = none → e.s.heap.get? D = none → ∀ X : Value → Shared → Prop,
        codeAny (model prog w) A (.compStart (.ListComp elt (⟨target, iter, ifs, 0⟩ :: gs) scope pos) 0 it (.ref D) (compEnvC scope cl C env)) (fun r s4 => match r with
          | .ok _ => ∃ B4 m4 ys U4, Fs e G B4 C m4 ((D, LstP ys) :: (env.locals, NsP m) :: U4) s4 ∧ ∀ s5, Fs e G B4 env.locals m ((D, LstP ys) :: U4) s5 → Q (.ref D) s5
          | .error e => X e s4) s3) E s1) E s)
    (hlg : e.s.heap.get? env.locals = none) (hclos : closureFor scope env = pure cl) (hcell : ∀ y ∈ scope.names, y.2 ≠ .cell) (hkind : scope.kind = .function) (hnames : ∀ y ∈ scope.names, y.2 = .local → scope.names.lookup y.1 = some .local)
    (hs : ∀ x, foldedSetIterable iter env x = pure x) :
    wpAny (model prog w) A (eval (.ListComp elt (⟨target, iter, ifs, 0⟩ :: gs) scope pos) env) Q E s := by
  rw [eval_ListComp]
  refine wpAny_comprehension_free (use := none) rfl hs hclos hkind hnames (wpAny_mono h (fun x s1 h1 => wpAny_mono h1 (fun it s2 h2 => ?_) fun _ _ x => x) fun _ _ x => x)
  refine ea3_2 h2 ?_; clear h2; rintro B2 m U2 F2 h2
  refine compFrame F2 hcell hkind fun C D s' F' hC hD cenv he hl => ?_
  rw [he, hl]
  refine codeAny_mono (h2 C D s' F' hC hD fun x s4 => compPost (model prog w) A E none Q (.ref D) C (.error x) s4) fun r s4 h4 => ?_
  cases r with
  | error x => exact h4
  | ok f =>
    refine ea4_2 h4 ?_; clear h4; rintro B4 m4 ys U4 F4 h5
    refine ⟨m4, F4.ns, fun h' hs' => ?_⟩
    have F5 := (F4.swap.switch hlg)
    obtain ⟨o, es, ep, ho, r⟩ := F4.ns
    have F6 := F5.lost (h' := h') hs'.extBut hC s4.toks
    exact h5 _ F6

theorem listCompUse {elt target iter : Expr} {ifs : List Expr} {gs : List Comprehension} {scope : Scope} {pos apos : Pos} {cl : List (Str × Addr)} {Q : Flow → Shared → Prop} {x : Str} {px : Pos}
    (h : wpAny (model prog w) A (eval iter env) (fun x' s1 => wpAny (model prog w) A (pyIter x') (fun it s2 => ∃ B2 m U2, Fs e G B2 env.locals m U2 s2 ∧
      ∀ C D s3, Fs e G B2 C (fun _ => none) ((D, LstP []) :: (env.locals, NsP m) :: U2) s3 → e.s.heap.get? C = none → e.s.heap.get? D = none → ∀ X : Value → Shared → Prop,
        codeAny (model prog w) A (.compStart (.ListComp elt (⟨target, iter, ifs, 0⟩ :: gs) scope pos) 0 it (.ref D) (compEnvC scope cl C env)) (fun r s4 => match r with
          | .ok _ => ∃ B4 m4 ys U4, Fs e G B4 C m4 ((D, LstP ys) :: (env.locals, NsP m) :: U4) s4 ∧ ∀ s5, Fs e G B4 env.locals (fun y => if y = x then some (.ref D) else m y) ((D, LstP ys) :: U4) s5 → Q .next s5
          | .error e => X e s4) s3) E s1) E s)
    (hlg : e.s.heap.get? env.locals = none) (hclos : closureFor scope env = pure cl) (hcell : ∀ y ∈ scope.names, y.2 ≠ .cell) (hkind : scope.kind = .function) (hnames : ∀ y ∈ scope.names, y.2 = .local → scope.names.lookup y.1 = some .local)
    (hs : ∀ x, foldedSetIterable iter env x = pure x) (hsw : swapsWith (.ListComp elt (⟨target, iter, ifs, 0⟩ :: gs) scope pos) (some (.Name x px)) apos.line env = pure true)
    (hk : env.scope.kind = .function) (hl : env.kindOf x = some .local) :
    wpAny (model prog w) A (exec (.Assign [.Name x px] (.ListComp elt (⟨target, iter, ifs, 0⟩ :: gs) scope pos) apos) env) Q E s := by
  rw [exec_Assign_Name_used x px _ apos hsw]
  refine wpAny_bind (wpAny_standAt (wpAny_bind ?_))
  show wpAny _ _ (comprehension _ scope env _ (newList []) false (firstIter _ env) (some (assign (.Name x px) env)) >>= fun _ => pure ()) _ _ _
  refine wpAny_bind (wpAny_comprehension_free (use := some (assign (.Name x px) env)) rfl hs hclos hkind hnames (wpAny_mono h (fun x0 s1 h1 => wpAny_mono h1 (fun it s2 h2 => ?_) fun _ _ x => x) fun _ _ x => x))
  refine ea3_2 h2 ?_; clear h2; rintro B2 m U2 F2 h2
  refine compFrame F2 hcell hkind fun C D s' F' hC hD cenv he hl' => ?_
  rw [he, hl']
  refine codeAny_mono (h2 C D s' F' hC hD fun x' s4 => compPost (model prog w) A E (some (assign (.Name x px) env)) (fun _ s5 => wpAny (model prog w) A (pure ()) (fun _ s6 => wpAny (model prog w) A (pure Flow.next) Q E s6) E s5) (.ref D) C (.error x') s4) fun r s4 h4 => ?_
  cases r with
  | error x' => exact h4
  | ok f =>
    refine ea4_2 h4 ?_; clear h4; rintro B4 m4 ys U4 F4 h5
    have F5 := (F4.swap.switch hlg)
    refine wpAny_assign_Name (wpAny_storeName_local hl F5.ns (fun h' hn hs' => ?_) (by rw [hk]; rfl))
    have F6 := F5.st (h' := h') hs'.extBut hn (s4.toks + 1)
    obtain ⟨o, ho, es, ep, r1, r2, r3⟩ := F6.top
    refine ⟨m4, ⟨o, es, ep, ho, r1, r2, r3⟩, fun h'' hs'' => wpAny_pure (wpAny_pure ?_)⟩
    exact h5 _ (F6.lost (h' := h'') hs''.extBut hC (s4.toks + 1))
end
end
section
noncomputable def TupP (vs : List Value) : Obj → Prop := fun o => o.cls = .type "tuple" ∧ ∃ n, o.data = .seq vs.toArray n
noncomputable def CelP (v : Option Value) : Obj → Prop := fun o => o.data = .cell v

section
variable {prog : Program} {w : World} {A : Around} {E : Value → Shared → Prop} {s : Shared} {e : En} {G : Array GenState} {B : Heap} {L : Addr} {m : Str → Option Value} {U : Own} {env : Env}

/-! names -/
theorem eGlob {x : Str} {pos : Pos} {v : Value} {Q : Value → Shared → Prop} (F : Fs e G B L m U s) (gd : Gd w B) (he : nsIn (hT.heap_1 w.params) mainGlobals x = some (some v)) (h : Q v s) (hc : gloOk env x = true) :
    wpAny (model prog w) A (eval (.Name x pos) env) Q E s := by
  obtain ⟨mg, hg⟩ := gd.g
  have c := gloOk_of hc
  exact Name_function_global c.1 c.2.1 (loadGlobal_global (env := env) (c.2.2.2.1 ▸ hg.keeps F.kp) (mg_of gd.X hg he) h) c.2.2.1
theorem eBoot {x : Str} {pos : Pos} {v : Value} {Q : Value → Shared → Prop} (F : Fs e G B L m U s) (gd : Gd w B) (he : nsIn (hT.heap_1 w.params) mainGlobals x = some none) (hv : bootBuiltins x = some v) (h : Q v s) (hc : gloOk env x = true) :
    wpAny (model prog w) A (eval (.Name x pos) env) Q E s := by
  obtain ⟨mg, hg⟩ := gd.g
  obtain ⟨mb, hb, hb2⟩ := gd.b
  have c := gloOk_of hc
  exact Name_function_global c.1 c.2.1 (loadGlobal_builtin (env := env) (c.2.2.2.1 ▸ hg.keeps F.kp) (mg_none_of gd.X hg he) (c.2.2.2.2.1 ▸ hb.keeps F.kp) ((hb2 x c.2.2.2.2.2).trans hv) h) c.2.2.1

/-! cells -/
theorem eCell {x : Str} {pos : Pos} {c : Addr} {v : Value} {Q : Value → Shared → Prop} (hi : Is s.heap c (CelP (some v))) (h : Q v s)
    (hc : env.cells.lookup x = some c) (hl : celOk .cell env x = true) :
    wpAny (model prog w) A (eval (.Name x pos) env) Q E s :=
  have k := celOk_of hl
  wpAny_Name (wpAny_loadName_cell k.1 k.2.1 hc hi h) k.2.2.1
theorem eFree {x : Str} {pos : Pos} {c : Addr} {v : Value} {Q : Value → Shared → Prop} (hi : Is s.heap c (CelP (some v))) (h : Q v s)
    (hc : env.cells.lookup x = some c) (hl : celOk .free env x = true) :
    wpAny (model prog w) A (eval (.Name x pos) env) Q E s :=
  have k := celOk_of hl
  wpAny_Name (wpAny_loadName_free k.1 k.2.1 hc hi h k.2.2.2) k.2.2.1
theorem sCell {x : Str} {c : Addr} {v : Value} {v₀ : Option Value} {Q : Unit → Shared → Prop} (F : Fs e G B L m ((c, CelP v₀) :: U) s) (h : ∀ s', Fs e G B L m ((c, CelP (some v)) :: U) s' → Q () s')
    (hc : env.cells.lookup x = some c := by rfl) (hl : celOk .cell env x = true := by rfl) :
    wpAny (model prog w) A (storeName env x v) Q E s :=
  have k := celOk_of hl
  wpAny_storeName_cell k.1 k.2.1 hc F.top fun h' hv hs => h _ (F.upd (h' := h') hs.extBut hv s.toks)
theorem Fs.at {a : Addr} {P : Obj → Prop} (F : Fs e G B L m U s) (hm : (a, P) ∈ U) : Is s.heap a P := (F.own _ hm).1
noncomputable def nthU : Own → Nat → Option (Addr × (Obj → Prop))
  | x :: _, 0 => some x
  | _ :: l, n + 1 => nthU l n
  | [], _ => none
theorem nthU_mem : ∀ {U : Own} {k : Nat} {x : Addr × (Obj → Prop)}, nthU U k = some x → x ∈ U
  | x :: _, 0, _, h => by cases h; exact .head _
  | _ :: _, _ + 1, _, h => .tail _ (nthU_mem h)
/-- the k-th of the owned objects -/
theorem Fs.nth {a : Addr} {P : Obj → Prop} (F : Fs e G B L m U s) (k : Nat) (hm : nthU U k = some (a, P)) : Is s.heap a P := (F.own _ (nthU_mem hm)).1
/-- what is owned is named: the proof stays short -/
theorem nameU {P : Prop} (F : Fs e G B L m U s) (h : let U' := U; Fs e G B L m U' s → P) : P := h F

/-! calls -/
theorem cGlob {x : Str} {p : Pos} {a : Expr} {as : List Expr} {pos : Pos} {v : Value} {Q : Value → Shared → Prop} (F : Fs e G B L m U s) (gd : Gd w B) (he : nsIn (hT.heap_1 w.params) mainGlobals x = some (some v))
    (hk : keepIn (hT.heap_1 w.params) v = true)
    (h : wpAny (model prog w) A (spliced (backTo pos (starEach (a :: as) env))) (fun vs s₁ => (hT.heap_1 w.params).In s₁.heap ∧ wpAny (model prog w) A (call v vs) Q E s₁) E s)
    (hc : gloOk env x = true) (hs : (a :: as).all notStar = true) :
    wpAny (model prog w) A (eval (.Call (.Name x p) (a :: as) [] pos) env) Q E s :=
  have c := Bool.and_eq_true_iff.mp hs
  Call_ (eGlob F gd he (callWith_K (h₀ := B) gd.X hk h (starEach_of c.1) (plain_of c.2)) hc) rfl
theorem cBoot {x : Str} {p : Pos} {a : Expr} {as : List Expr} {pos : Pos} {id : String} {Q : Value → Shared → Prop} (F : Fs e G B L m U s) (gd : Gd w B) (he : nsIn (hT.heap_1 w.params) mainGlobals x = some none)
    (hv : bootBuiltins x = some (.builtin id))
    (h : wpAny (model prog w) A (spliced (backTo pos (starEach (a :: as) env))) (fun vs s₁ => wpAny (model prog w) A (call (.builtin id) vs) Q E s₁) E s)
    (hc : gloOk env x = true) (hs : (a :: as).all notStar = true) :
    wpAny (model prog w) A (eval (.Call (.Name x p) (a :: as) [] pos) env) Q E s :=
  have c := Bool.and_eq_true_iff.mp hs
  Call_ (eBoot F gd he hv (PyProof.Rows.callWith_builtin1 h (starEach_of c.1) (plain_of c.2)) hc) rfl
theorem cType {x : Str} {p : Pos} {a : Expr} {as : List Expr} {pos : Pos} {id : String} {Q : Value → Shared → Prop} (F : Fs e G B L m U s) (gd : Gd w B) (he : nsIn (hT.heap_1 w.params) mainGlobals x = some none)
    (hv : bootBuiltins x = some (.type id))
    (h : wpAny (model prog w) A (spliced (backTo pos (starEach (a :: as) env))) (fun vs s₁ => wpAny (model prog w) A (call (.type id) vs) Q E s₁) E s)
    (hc : gloOk env x = true) (hs : (a :: as).all notStar = true) :
    wpAny (model prog w) A (eval (.Call (.Name x p) (a :: as) [] pos) env) Q E s :=
  have c := Bool.and_eq_true_iff.mp hs
  Call_ (eBoot F gd he hv (PyProof.Rows.callWith_type1 h (starEach_of c.1) (plain_of c.2)) hc) rfl
theorem Gd.In (gd : Gd w B) (F : Fs e G B L m U s) : (hT.heap_1 w.params).In s.heap := gd.X.keeps F.kp
/-- the arguments of a call -/
theorem spMore {e : Expr} {rest : List Expr} {pos : Pos} {Q : List Value → Shared → Prop} {M : Model} (h : wpAny M A (eval e env) (fun v s₁ => wpAny M A (spliced (backTo pos (starEach rest env))) (fun vs s₂ => Q (v :: vs) s₂) E s₁) E s) (hs : notStar e = true) :
    wpAny M A (spliced (backTo pos (starEach (e :: rest) env))) Q E s := PyProof.Rows.spliced_more h (starEach_of hs)

/-! displays -/
theorem nTup {vs : List Value} {Q : Value → Shared → Prop} (F : Fs e G B L m U s) (h : ∀ s' B' t, Kp B B' → Is B' t (TupP vs) → Fs e G B' L m U s' → Q (.ref t) s') (hz : vs.length ≤ 1000 := by exact Nat.le_of_ble_eq_true rfl) :
    wpAny (model prog w) A (newTuple vs) Q E s := by
  refine wpAny_newTuple ?_ (by rw [sizeLine_eq]; lia)
  obtain ⟨B', k, hi, F'⟩ := F.pers (h' := s.heap.push { cls := .type "tuple", data := .seq vs.toArray }) (P := TupP vs) (fun b o q => Heap.get?_push_of_some _ q) (none_of_size _) ⟨_, Heap.get?_push_size _ rfl, rfl, 0, rfl⟩ s.toks
  exact h _ _ _ k hi F'
theorem nLstO {vs : List Value} {Q : Value → Shared → Prop} (F : Fs e G B L m U s) (h : ∀ s' D, e.s.heap.get? D = none → Fs e G B L m ((D, LstP vs) :: U) s' → Q (.ref D) s') (hz : vs.length ≤ 1000 := by exact Nat.le_of_ble_eq_true rfl) :
    wpAny (model prog w) A (newList vs) Q E s := by
  refine wpAny_newList ?_ (by rw [sizeLine_eq]; lia)
  exact h _ _ (F.fresh (none_of_size _)) (F.take (h' := s.heap.push { cls := .type "list", data := .seq vs.toArray }) (P := LstP vs) (fun b o q => Heap.get?_push_of_some _ q) (none_of_size _) ⟨_, Heap.get?_push_size _ rfl, 0, rfl⟩ s.toks)
theorem nLstP {vs : List Value} {Q : Value → Shared → Prop} (F : Fs e G B L m U s) (h : ∀ s' B' t, Kp B B' → Is B' t (LstP vs) → Fs e G B' L m U s' → Q (.ref t) s') (hz : vs.length ≤ 1000 := by exact Nat.le_of_ble_eq_true rfl) :
    wpAny (model prog w) A (newList vs) Q E s := nLstO F (fun s' D hn F' => by
      obtain ⟨B', k, hi, F''⟩ := F'.freeze hn
      exact h _ _ _ k hi F'') hz
theorem nDic {pos : Pos} {Q : Value → Shared → Prop} (F : Fs e G B L m U s) (h : ∀ s' D, e.s.heap.get? D = none → Fs e G B L m ((D, DicP prog w []) :: U) s' → Q (.ref D) s') :
    wpAny (model prog w) A (eval (.Dict [] [] pos) env) Q E s := by
  refine wpAny_Dict_empty ?_
  exact h _ _ (F.fresh (none_of_size _)) (F.take (h' := s.heap.push { cls := .type "dict", data := .dict #[] }) (P := DicP prog w []) (fun b o q => Heap.get?_push_of_some _ q) (none_of_size _)
    ⟨_, Heap.get?_push_size _ rfl, ⟨rfl, rfl, rfl⟩, by simp, #[], 0, rfl, rfl⟩ s.toks)

/-! unpacking -/
theorem uTup {elts : List Expr} {k : Nat} {pos : Pos} {t : Addr} {vs : List Value} {Q : Unit → Shared → Prop} (F : Fs e G B L m U s) (hh : A.handled = none) (ht : Is B t (TupP vs))
    (hn : (assignEach elts env).length = vs.length) (hstar : (assignEach elts env).findIdx? (·.1) = none)
    (h : ∀ s', Fs e G B L m U s' → wpAny (model prog w) A (assignInOrder ((assignEach elts env).map (·.2)) vs) Q E s') :
    wpAny (model prog w) A (assign (.Tuple elts k pos) env (.ref t)) Q E s := by
  have ht' : s.heap.IsTuple t vs.toArray := ht.keeps F.kp
  refine wpAny_assign_Tuple hh ht' (by simpa using hn) hstar fun h' he => ?_
  exact h _ (F.grown (h' := h') (fun b o q => he b o (Nat.ne_of_lt (Heap.lt_size q)) q) s.toks)
theorem uItems {t : Addr} {vs : List Value} {n : Nat} {Q : List Value → Shared → Prop} (F : Fs e G B L m U s) (hh : A.handled = none) (ht : Is B t (TupP vs)) (hn : n = vs.length)
    (h : ∀ s', Fs e G B L m U s' → Q vs s') : wpAny (model prog w) A (unpackItems (.ref t) n none) Q E s := by
  subst hn
  have ht' : IsTup s.heap t vs.toArray := ht.keeps F.kp
  have e1 : vs.length = vs.toArray.size := by simp
  rw [e1]
  exact unpackItems_tuple hh ht' fun h' he => h _ (F.grown (h' := h') (fun b o q => he b o (Nat.ne_of_lt (Heap.lt_size q)) q) s.toks)

/-! items -/
theorem gLsq {value slice : Expr} {a : Addr} {its : List Value} {k : Int} {t : Tok} {x : Value} {Q : Value → Shared → Prop} (hl : Is s.heap a (LsqP its)) (h0 : 0 ≤ k) (h63 : k < 2 ^ 63)
    (hx : its[k.toNat]? = some x) (h : Q x s) (hs : subscripted slice false (.ref a) (.int k t) = operate [.ref a, .int k t] (getItem (.ref a) (.int k t)) := by with_unfolding_all rfl) :
    wpAny (model prog w) A (subscriptTail value slice (.ref a) (.int k t)) Q E s := by
  have hl : s.heap.IsList a its.toArray := hl
  exact tail_any hl.typeIs slot_list_getitem.lookup (wpAny_getItem_list hl h0 h63 (by simpa using hx) h) hs
theorem gLst {value slice : Expr} {a : Addr} {its : List Value} {k : Int} {t : Tok} {x : Value} {Q : Value → Shared → Prop} (hl : Is s.heap a (LstP its)) (h0 : 0 ≤ k) (h63 : k < 2 ^ 63)
    (hx : its[k.toNat]? = some x) (h : Q x s) (hs : subscripted slice false (.ref a) (.int k t) = operate [.ref a, .int k t] (getItem (.ref a) (.int k t)) := by with_unfolding_all rfl) :
    wpAny (model prog w) A (subscriptTail value slice (.ref a) (.int k t)) Q E s := by
  have hl := lst_is hl
  exact tail_any hl.typeIs slot_list_getitem.lookup (wpAny_getItem_list hl h0 h63 (by simpa using hx) h) hs
theorem gTup {value slice : Expr} {a : Addr} {its : List Value} {k : Int} {t : Tok} {x : Value} {Q : Value → Shared → Prop} (hl : Is s.heap a (TupP its)) (h0 : 0 ≤ k) (h63 : k < 2 ^ 63)
    (hx : its[k.toNat]? = some x) (h : Q x s) (hs : subscripted slice false (.ref a) (.int k t) = operate [.ref a, .int k t] (getItem (.ref a) (.int k t)) := by with_unfolding_all rfl) :
    wpAny (model prog w) A (subscriptTail value slice (.ref a) (.int k t)) Q E s := by
  have hl : IsTup s.heap a its.toArray := hl
  refine item_tupleT (j := k.toNat) hl (by lia) h63 ?_ hx h hs
  have := (List.getElem?_eq_some_iff.mp hx).1
  have h1 : ¬ k < 0 := by lia
  have h2 : k < its.length := by lia
  simp [seqIndex?, h1, h0, h2]
end

/-! keys -/
section
variable {prog : Program} {w : World}
noncomputable def IntsP : List Int → List Value → Prop := ItemsAre (PySem.intKind prog w)
theorem tupAt_of {h : Heap} {t : Addr} {vs : List Value} {ks : List Int} (x : Is h t (TupP vs)) (y : ItemsAre (PySem.intKind prog w) ks vs) : TupAt prog w h t ks := by
  obtain ⟨o, ho, hc, n, hd⟩ := x
  exact ⟨o, _, n, ho, hc, hd, by simpa using y⟩
theorem intKind_inv {i : Int} {v : Value} (x : (PySem.intKind prog w).is i v = true) : ∃ t, v = .int i t := by
  have x : v.isInt i = true := x
  unfold Value.isInt at x
  split at x <;> simp_all
theorem tupAt_out3 {h : Heap} {t : Addr} {a b c : Int} (x : TupAt prog w h t [a, b, c]) : ∃ t1 t2 t3, Is h t (TupP [.int a t1, .int b t2, .int c t3]) := by
  obtain ⟨o, items, n, ho, hc, hd, hi⟩ := x
  obtain ⟨l⟩ := items
  cases hi with | cons h1 r => cases r with | cons h2 r => cases r with | cons h3 r => cases r with | nil =>
    obtain ⟨t1, rfl⟩ := intKind_inv h1
    obtain ⟨t2, rfl⟩ := intKind_inv h2
    obtain ⟨t3, rfl⟩ := intKind_inv h3
    exact ⟨t1, t2, t3, o, ho, hc, n, hd⟩
theorem tupAt_in3 {h : Heap} {t : Addr} {a b c : Int} {t1 t2 t3 : Tok} (x : Is h t (TupP [.int a t1, .int b t2, .int c t3])) : TupAt prog w h t [a, b, c] :=
  tupAt_of x (.cons (PySem.intKind_is ..) (.cons (PySem.intKind_is ..) (.cons (PySem.intKind_is ..) .nil)))
end
end
section
/-! instances -/
noncomputable def Atts (l : List (Str × Value)) : Obj → Prop := fun o => ∃ es n, o = dictOf es n ∧ es.length = l.length ∧ ∀ name, getL name es = some (l.lookup name)
noncomputable def InstB (h : Heap) (x C : Addr) (l : List (Str × Value)) : Prop := ∃ dx, h.get? x = some (instObj C dx) ∧ Is h dx (Atts l)
theorem InstB.mono {B h : Heap} {x C : Addr} {l : List (Str × Value)} (i : InstB B x C l) (k : Kp B h) : InstB h x C l := let ⟨dx, a, b⟩ := i; ⟨dx, k _ _ a, b.keeps k⟩

/-- what a class must be for its instances' attributes to be read and set plainly -/
structure ClsOk (K : Frag) (C : Addr) : Prop where
  ga : findIn K (.ref C) "__getattribute__" = some (some (.builtin "object.__getattribute__"))
  gt : findIn K (.ref C) "__getattr__" = some none
  sa : findIn K (.ref C) "__setattr__" = some (some (.builtin "object.__setattr__"))
  hdict : hasDictIn K C = true
  po : plainOver K C = true
  mkb : makesIn K C = true

theorem getL_put {name : Str} {hs : Int} {tk : Tok} {v : Value} : ∀ {es : List DictEntry} {l : List (Str × Value)}, (∀ y, getL y es = some (l.lookup y)) → l.lookup name = none →
    (∀ y, getL y (putL name hs (.str name tk) v es) = some (((name, v) :: l).lookup y)) ∧ (putL name hs (.str name tk) v es).length = es.length + 1 := by
  intro es l h hn
  have hname := h name
  rw [hn] at hname
  unfold getL at hname
  have hno : es.find? (fun x => x.key.isStr name) = none ∧ es.any (·.refKey) = false := by
    split at hname
    · cases hname
    · rename_i q; refine ⟨q, ?_⟩
      split at hname
      · cases hname
      · rename_i z; simpa using z
  obtain ⟨h1, h2⟩ := hno
  have hput : putL name hs (.str name tk) v es = es ++ [⟨hs, .str name tk, v⟩] := by
    clear h hname hn h2
    induction es with
    | nil => rfl
    | cons e r ih =>
      rw [List.find?_cons] at h1
      split at h1
      · cases h1
      · rename_i q
        unfold putL
        rw [if_neg (by rw [q]; exact Bool.false_ne_true), ih h1]; rfl
  rw [hput]
  refine ⟨fun y => ?_, by simp⟩
  have hy := h y
  unfold getL at hy ⊢
  rw [List.find?_append, List.any_append, h2] at *
  rw [h2] at hy
  cases q : es.find? (fun x => x.key.isStr y) with
  | some x =>
    rw [q] at hy
    have e1 : l.lookup y = some x.val := by simpa using hy.symm
    have hyn : (y == name) = false := by
      cases z : y == name with
      | false => rfl
      | true => rw [beq_iff_eq.mp z, hn] at e1; cases e1
    simp [List.lookup_cons, hyn, e1]
  | none =>
    rw [q] at hy
    have e1 : l.lookup y = none := by simpa using hy.symm
    have e2 : (DictEntry.mk hs (.str name tk) v).refKey = false := rfl
    have e3 : (DictEntry.mk hs (.str name tk) v).key.isStr y = (y == name) := by
      show Value.isStr (.str name tk) y = _
      unfold Value.isStr
      exact Bool.beq_comm ..
    rw [List.find?_cons, e3, List.lookup_cons]
    cases z : y == name with
    | true => simp
    | false => simp [e1, e2]

section
variable {prog : Program} {w : World} {A : Around} {E : Value → Shared → Prop} {s : Shared} {e : En} {G : Array GenState} {B : Heap} {L : Addr} {m : Str → Option Value} {U : Own} {env : Env}
theorem InstB.inst {h : Heap} {x C : Addr} {l : List (Str × Value)} (i : InstB h x C l) : ∃ dx od, PySem.W.InstAt h x (instObj C dx) C (some od) ∧ Atts l od := by
  obtain ⟨dx, hx, od, hdx, ha⟩ := i
  exact ⟨dx, od, ⟨hx, rfl, rfl, hdx⟩, ha⟩

theorem aGet {x C : Addr} {l : List (Str × Value)} {name : Str} {v : Value} {attr : Option Value} {expr : Bool} {Q : Value → Shared → Prop} (F : Fs e G B L m U s) (gd : Gd w B) (I : InstB s.heap x C l) (ok : ClsOk (hT.heap_1 w.params) C)
    (hv : l.lookup name = some v) (ha : findIn (hT.heap_1 w.params) (.ref C) name = some attr) (hng : noGet (hT.heap_1 w.params) attr = true) (hh : handedIn v = true) (h : ∀ s', Fs e G B L m U s' → s'.heap = s.heap → Q v s') :
    wpAny (model prog w) A (getAttr (.ref x) name expr) Q E s := by
  obtain ⟨dx, od, J, es, n, rfl, _, hl⟩ := I.inst
  exact get_value (gd.In F) J ok.ga (findObj_own ok.hdict ha hng (by rw [lookIn_dict, hl, hv])) hh (h _ (F.tk _) rfl)
theorem gMeth {x C f : Addr} {l : List (Str × Value)} {name : Str} {pl : Sem Bool} {Q : Value × List Value → Shared → Prop} (F : Fs e G B L m U s) (gd : Gd w B) (I : InstB s.heap x C l) (ok : ClsOk (hT.heap_1 w.params) C)
    (hf : findIn (hT.heap_1 w.params) (.ref C) name = some (some (.ref f))) (ht : typeIn (hT.heap_1 w.params) (.ref f) = some (.type "function")) (hl : l.lookup name = none) (h : Q (.ref f, [.ref x]) s) :
    wpAny (model prog w) A (getMethod (.ref x) name pl) Q E s := by
  obtain ⟨dx, od, J, es, n, rfl, _, hl'⟩ := I.inst
  refine method_fn (gd.In F) J ok.ga ok.gt hf ht ?_ h
  show (lookIn name (dictOf es n)).map _ = _
  rw [lookIn_dict, hl', hl]; rfl
/-- method call with no arguments, self a name or any expression -/
theorem cMeth {name : Str} {pos : Pos} {a : Expr} {as : List Expr} {x C f : Addr} {l : List (Str × Value)} {pl : Sem Bool} {Q : Value → Shared → Prop} (F : Fs e G B L m U s) (gd : Gd w B) (I : InstB s.heap x C l) (ok : ClsOk (hT.heap_1 w.params) C)
    (hf : findIn (hT.heap_1 w.params) (.ref C) name = some (some (.ref f))) (ht : typeIn (hT.heap_1 w.params) (.ref f) = some (.type "function")) (hk : keepIn (hT.heap_1 w.params) (.ref f) = true) (hl : l.lookup name = none)
    (h : wpAny (model prog w) A (spliced (backTo pos (starEach (a :: as) env))) (fun vs s₁ => (hT.heap_1 w.params).In s₁.heap ∧ wpAny (model prog w) A (call (.ref f) (.ref x :: vs)) Q E s₁) E s)
    (hst : starEach (a :: as) env = (false, eval a env) :: starEach as env := by rfl) (hplain : (backTo pos (starEach as env)).any (·.1) = false := by rfl) :
    wpAny (model prog w) A (getMethod (.ref x) name pl) (fun fx s₂ => wpAny (model prog w) A (callWith pos fx.1 fx.2 (backTo pos (starEach (a :: as) env)) []) Q E s₂) E s :=
  gMeth F gd I ok hf ht hl (callWith_K (h₀ := B) gd.X hk h hst hplain)
theorem cMeth0 {name : Str} {pos : Pos} {x C f : Addr} {l : List (Str × Value)} {pl : Sem Bool} {Q : Value → Shared → Prop} (F : Fs e G B L m U s) (gd : Gd w B) (I : InstB s.heap x C l) (ok : ClsOk (hT.heap_1 w.params) C)
    (hf : findIn (hT.heap_1 w.params) (.ref C) name = some (some (.ref f))) (ht : typeIn (hT.heap_1 w.params) (.ref f) = some (.type "function")) (hk : keepIn (hT.heap_1 w.params) (.ref f) = true) (hl : l.lookup name = none)
    (h : wpAny (model prog w) A (call (.ref f) [.ref x]) Q E s) :
    wpAny (model prog w) A (getMethod (.ref x) name pl) (fun fx s₂ => wpAny (model prog w) A (callWith pos fx.1 fx.2 (backTo pos (starEach [] env)) []) Q E s₂) E s :=
  gMeth F gd I ok hf ht hl (callWith_K0 (gd.In F) hk h)

/-- an attribute is set, the object's dict owned at the head -/
theorem aSet {x C dx : Addr} {l : List (Str × Value)} {name : Str} {v : Value} {Q : Unit → Shared → Prop} (F : Fs e G B L m ((dx, Atts l) :: U) s) (gd : Gd w B) (hx : s.heap.get? x = some (instObj C dx)) (ok : ClsOk (hT.heap_1 w.params) C)
    (ht : takerIn (hT.heap_1 w.params) C name = some none) (hn : l.lookup name = none) (hz : l.length ≤ 100) (h : ∀ s', Fs e G B L m ((dx, Atts ((name, v) :: l)) :: U) s' → Q () s') :
    wpAny (model prog w) A (setAttr (.ref x) name v) Q E s := by
  obtain ⟨od, hdx, es, n, rfl, hlen, hl⟩ := F.top
  have J : PySem.W.InstAt s.heap x (instObj C dx) C (some (dictOf es n)) := ⟨hx, rfl, rfl, hdx⟩
  have X := gd.In F
  refine set_plain X J ok.sa ?_
  refine osa_open (s := { s with toks := s.toks + 1 }) X J ok.po ht fun b => ?_
  obtain ⟨cd, hc, hd'⟩ := PySem.W.any_some ok.hdict
  obtain ⟨g1, g2⟩ := getL_put (hs := PyData.keyHash w.params name) (tk := s.toks + 1) (v := v) hl hn
  have hno : getL name es = some none := by rw [hl, hn]
  refine wpAny_bind (wpAny_pure (wpAny_bind (wpAny_bind (wpAny_loadPart hx (wpAny_bind (Looks.here (s := { s with toks := s.toks + 1 }) (looks_clsIn X hc) ?_))))))
  rw [hd']
  refine wpAny_pure (a := some dx) (wpAny_bind (wpAny_pure (wpAny_bind ?_)))
  unfold nsSet
  refine wpAny_bind (wpAny_bind (wpAny_askSetting (wpAny_pure (wpAny_bind (wpAny_mkText (wpAny_bind (wpAny_loadPart hdx ?_)))))))
  dsimp only
  have c : (!es.toArray.any (·.key.isStr name) && es.toArray.any (·.refKey)) = false := by
    rw [← Array.any_toList, ← Array.any_toList]
    unfold getL at hno
    split at hno
    · cases hno
    · split at hno
      · cases hno
      · rename_i z; simp only [Bool.not_eq_true] at z; rw [z, Bool.and_false]
  rw [aRefKeyMayBeTheName_at, c]
  refine wpAny_updatePart hdx ?_
  have hnew : (s.heap.update dx (Obj.putName name (PyData.keyHash w.params name) (.str name (s.toks + 1)) v)).get? dx = some (Obj.putName name (PyData.keyHash w.params name) (.str name (s.toks + 1)) v (dictOf es n)) :=
    Heap.get?_update_self _ hdx (by rw [putName_dict]; rfl)
  rw [putName_dict] at hnew
  refine wpAny_bind (wpAny_lookBehind hnew (pastItsLine_dict (by rw [List.size_toArray, sizeLine_eq]; lia)) ?_)
  exact wpAny_pure (h _ (F.upd (h' := s.heap.update dx (Obj.putName name (PyData.keyHash w.params name) (.str name (s.toks + 1)) v)) (Heap.SameBut.update ..).extBut ⟨_, hnew, _, _, rfl, by rw [g2, hlen]; rfl, g1⟩ _))
end
end
section
theorem none_of_le {h : Heap} {a : Addr} (x : h.objs.size ≤ a) : h.get? a = none := by
  cases q : h.get? a with
  | none => rfl
  | some o => exact absurd (Heap.lt_size q) (Nat.not_lt.mpr x)

noncomputable def cellOwn (cm : Str → Option Value) (cs : List (Str × Addr)) : Own := cs.map fun p => (p.2, CelP (cm p.1))

theorem Fs.enterC {S : List Addr} {B : Heap} {s s1 : Shared} {m cm : Str → Option Value} {cs : List (Str × Addr)} {V : Own} (kB : Kp B s.heap)
    (hU : ∀ p ∈ V, Is s.heap p.1 p.2 ∧ B.get? p.1 = none ∧ p.1 ∈ S) (hd : (V.map (·.1)).Nodup) (hnd : (cs.map (·.1)).Nodup)
    (x : InCallC s s.heap.objs.size m cs cm s1) : Fs ⟨S, B, s⟩ s.gens B s.heap.objs.size m (cellOwn cm cs ++ V) s1 := by
  obtain ⟨h1, tk, rfl, hk⟩ := x.done
  have hL := none_of_size s.heap
  have hc : ∀ p ∈ cellOwn cm cs, Is h1 p.1 p.2 ∧ s.heap.objs.size < p.1 := fun p hp => by
    obtain ⟨q, hq, rfl⟩ := List.mem_map.mp hp
    obtain ⟨n, c⟩ := q
    exact ⟨x.cell n c (lookup_of_mem_nodup hnd hq), x.above n c hq⟩
  refine ⟨⟨.refl _, fun _ _ e => .inl e, fun b o _ q => hk b o q, fun b o q => ⟨o, hk b o q⟩, kB.trans hk⟩, x.toInCall.ns, none_kp kB hL, hL, fun p hp => ?_, ?_, rfl, rfl⟩
  · rcases List.mem_append.mp hp with hp | hp
    · have h2 := hc p hp
      have h3 : s.heap.get? p.1 = none := none_of_le (Nat.le_of_lt h2.2)
      exact ⟨h2.1, none_kp kB h3, Nat.ne_of_gt h2.2, .inl h3⟩
    · refine ⟨(hU p hp).1.keeps hk, (hU p hp).2.1, (fun q => ?_), .inr (hU p hp).2.2⟩
      obtain ⟨o, z, _⟩ := (hU p hp).1
      rw [q, hL] at z; exact nomatch z
  · rw [List.map_append, List.nodup_append]
    refine ⟨?_, hd, fun a ha b hb q => ?_⟩
    · have e1 : (cellOwn cm cs).map (·.1) = cs.map (·.2) := by unfold cellOwn; rw [List.map_map]; rfl
      rw [e1, List.Nodup, List.pairwise_map]; exact x.apart
    · obtain ⟨p, hp, rfl⟩ := List.mem_map.mp ha
      obtain ⟨p', hp', rfl⟩ := List.mem_map.mp hb
      obtain ⟨o, z, _⟩ := (hU p' hp').1
      rw [← q, none_of_le (Nat.le_of_lt (hc p hp).2)] at z; cases z

section
variable {prog : Program} {w : World} {A : Around} {E : Value → Shared → Prop} {s : Shared} {e : En} {G : Array GenState} {B : Heap} {L : Addr} {m : Str → Option Value} {U : Own} {env : Env}

/-- into a plain def, as code -/
theorem enterP0 {f : Addr} {oc : Value} {od : Option Addr} {osl : Array (Option Value)} {name qual : Str} {params : Arguments} {body : List Stmt} {scope : Scope} {dV kV doc pm cdv ct : Value} {an : Option Addr}
    {pos : List Value} {binds : List (Str × Value)} {R : Result → Shared → Prop} {n : Nat} (S : List Addr) (V : Own)
    (gd : Gd w B) (kB : Kp B s.heap) (rm : Rm A (n + 1))
    (ho : (hT.heap_1 w.params).lookup f = some ⟨oc, od, .func (fnOf name qual params body scope dV kV doc pm an cdv ct), osl⟩) (hcd : codeIn (hT.heap_1 w.params) cdv qual = true)
    (hbind : bindArgs (fnOf name qual params body scope dV kV doc pm an cdv ct) ⟨pos, []⟩ = pure binds)
    (hV : ∀ p ∈ V, Is s.heap p.1 p.2 ∧ B.get? p.1 = none ∧ p.1 ∈ S) (hd : (V.map (·.1)).Nodup)
    (hloc : ∀ y ∈ binds, scope.names.lookup y.1 = some .local)
    (h : ∀ L s' E' A', let m0 : Str → Option Value := fun x => binds.reverse.lookup x; Fs ⟨S, B, s⟩ s.gens B L m0 V s' → Rm A' n → let env : Env := envX qual scope L f cdv []; let Qr : Flow → Shared → Prop := fun fl s'' => R (.ok (.ret (match fl with | .ret v => v | _ => .none))) s'';
      wpAny (model prog w) A' (execs body env) Qr E' s')
    (hcell : ∀ x ∈ scope.names, x.2 ≠ .cell) (hco : scope.isCoroutine = false := by rfl) (hgen : scope.isGenerator = false := by rfl) (hk : scope.kind = .function := by rfl) :
    codeAny (model prog w) A (.call (.ref f) ⟨pos, []⟩) R s := by
  have X := gd.X.keeps kB
  refine codeAny_call_def (fd := fnOf name qual params body scope dV kV doc pm an cdv ct) (body := body) (binds := binds) (by have := rm.dep; lia) (X _ _ ho) rfl (gd.lim.keeps kB) (codeRec_of X hcd) rfl (.of_eq hbind) hcell hloc
    (fun h₁ hns hk₁ => ?_) hco hgen hk
  exact wpAny_mono (h s.heap.objs.size _ _ _ (Fs.enter kB hV hd hns hk₁ (none_of_size _)) rm.deeper) (fun _ _ q => q) fun _ _ q => q

/-- into a def whose variables lie in cells -/
theorem enterC0 {f : Addr} {oc : Value} {od : Option Addr} {osl : Array (Option Value)} {name qual : Str} {params : Arguments} {body : List Stmt} {scope : Scope} {dV kV doc pm cdv ct : Value} {an : Option Addr}
    {pos : List Value} {binds : List (Str × Value)} {R : Result → Shared → Prop} {n : Nat} (S : List Addr) (V : Own)
    (gd : Gd w B) (kB : Kp B s.heap) (rm : Rm A (n + 1))
    (ho : (hT.heap_1 w.params).lookup f = some ⟨oc, od, .func (fnOf name qual params body scope dV kV doc pm an cdv ct), osl⟩) (hcd : codeIn (hT.heap_1 w.params) cdv qual = true)
    (hbind : bindArgs (fnOf name qual params body scope dV kV doc pm an cdv ct) ⟨pos, []⟩ = pure binds)
    (hV : ∀ p ∈ V, Is s.heap p.1 p.2 ∧ B.get? p.1 = none ∧ p.1 ∈ S) (hd : (V.map (·.1)).Nodup)
    (hkind : ∀ n, ∀ x ∈ binds, scope.names.lookup x.1 = some .local ∨ (scope.names.lookup x.1 = some .cell ∧ ((cellsFrom n scope.names []).lookup x.1).isSome = true))
    (hnd : ((cellsFrom 0 scope.names []).map (·.1)).Nodup)
    (h : ∀ L s' E' A', let m0 : Str → Option Value := bindL (fun x => scope.names.lookup x) binds fun _ => none; Fs ⟨S, B, s⟩ s.gens B L m0 (cellOwn (bindC (fun x => scope.names.lookup x) binds fun _ => none) (cellsFrom (L + 1) scope.names []) ++ V) s' → Rm A' n →
      let env : Env := envX qual scope L f cdv (cellsFrom (L + 1) scope.names []); let Qr : Flow → Shared → Prop := fun fl s'' => R (.ok (.ret (match fl with | .ret v => v | _ => .none))) s'';
      wpAny (model prog w) A' (execs body env) Qr E' s')
    (hco : scope.isCoroutine = false := by rfl) (hgen : scope.isGenerator = false := by rfl) (hk : scope.kind = .function := by rfl) :
    codeAny (model prog w) A (.call (.ref f) ⟨pos, []⟩) R s := by
  have X := gd.X.keeps kB
  refine codeAny_call_cells (fd := fnOf name qual params body scope dV kV doc pm an cdv ct) (body := body) (binds := binds) (by have := rm.dep; lia) (X _ _ ho) rfl (gd.lim.keeps kB) (codeRec_of X hcd) rfl hbind rfl (hkind _)
    (fun s1 x => ?_) hco hgen hk
  have hnd' : ((cellsFrom (s.heap.objs.size + 1) scope.names []).map (·.1)).Nodup := cellsFrom_names scope.names 0 (s.heap.objs.size + 1) [] [] rfl ▸ hnd
  exact wpAny_mono (h s.heap.objs.size s1 _ _ (Fs.enterC (m := bindL (fun x => scope.names.lookup x) binds fun _ => none) (cm := bindC (fun x => scope.names.lookup x) binds fun _ => none) kB hV hd hnd' x) rm.deeper) (fun _ _ q => q) fun _ _ q => q

theorem f_tc {args : Args} : (Code.builtin "type.__call__" args).frames = 0 := rfl
theorem w_tc {args : Args} : (Code.builtin "type.__call__" args).weight ≤ 1 := by
  have h1 : (Code.builtin "type.__call__" args).isGuard = false := by show guardIds.contains "type.__call__" = false; decide +kernel
  have h2 : (Code.builtin "type.__call__" args).isCaller = false := rfl
  unfold Code.weight
  rw [h1, h2, f_tc]
  split <;> simp
/-- a class is called: the object x for good, its dict dx owned -/
theorem cInst {C fI : Addr} {args : List Value} {Q : Value → Shared → Prop} {n : Nat} (F : Fs e G B L m U s) (gd : Gd w B) (rm : Rm A (n + 1)) (ok : ClsOk (hT.heap_1 w.params) C)
    (hi : findIn (hT.heap_1 w.params) (.ref C) "__init__" = some (some (.ref fI))) (hf : typeIn (hT.heap_1 w.params) (.ref fI) = some (.type "function"))
    (h : ∀ s' A' x dx B', Kp B B' → B'.get? x = some (instObj C dx) → e.s.heap.get? dx = none → s.heap.get? dx = none → Fs e G B' L m ((dx, Atts []) :: U) s' → Rm A' n →
      codeAny (model prog w) A' (.call (.ref fI) ⟨.ref x :: args, []⟩) (InitBack x (fun r s'' => match r with | .ok (.ret v) => Q v s'' | .ok _ => False | .error er => E er s'')) s') :
    wpAny (model prog w) A (call (.ref C) args) Q E s := by
  refine wpAny_call ?_
  obtain ⟨hh, g, d, t, os⟩ := s
  have X := gd.In F
  refine make_core (makes_of X ok.mkb) (looks_findIn X hi) (fun self => bind_fn X self hf) (.inl rfl) ?_
  have e1 : hh.get? hh.objs.size = none := none_of_size hh
  have F1 := F.take (h' := hh.push emptyDict) (P := Atts []) (fun b o q => Heap.get?_push_of_some _ q) e1 ⟨_, Heap.get?_push_size _ rfl, [], 0, rfl, rfl, fun _ => rfl⟩ t
  have e2 := Heap.size_push hh emptyDict
  obtain ⟨B', k, hx, F2⟩ := F1.pers (h' := (hh.push emptyDict).push (instObj C hh.objs.size)) (a := (hh.push emptyDict).objs.size) (P := fun o => o = instObj C hh.objs.size) (fun b o q => Heap.get?_push_of_some _ q) (none_of_size _) ⟨_, Heap.get?_push_size _ rfl, rfl⟩ t
  obtain ⟨o, ho, rfl⟩ := hx
  rw [e2] at ho
  refine h _ _ (hh.objs.size + 1) hh.objs.size B' k ho (F.fresh e1) e1 F2 ⟨rm.hh, ?_, ?_⟩
  · have := rm.dep; have e := w_tc (args := ⟨.ref C :: args, []⟩); show A.depth + Code.weight _ + n < _; lia
  · have := rm.un; have e := f_tc (args := ⟨.ref C :: args, []⟩); show A.units + _ + 8 * n + 40 < _; simp only [Code.cUnits]; lia
end

theorem okComponent (w : World) : ClsOk (hT.heap_1 w.params) 111 := ⟨by k_is, by k_is, by k_is, by k_is, by k_is, by k_is⟩
theorem okFrame (w : World) : ClsOk (hT.heap_1 w.params) 177 := ⟨by k_is, by k_is, by k_is, by k_is, by k_is, by k_is⟩
theorem okGrid (w : World) : ClsOk (hT.heap_1 w.params) 210 := ⟨by k_is, by k_is, by k_is, by k_is, by k_is, by k_is⟩
theorem okScan (w : World) : ClsOk (hT.heap_1 w.params) 245 := ⟨by k_is, by k_is, by k_is, by k_is, by k_is, by k_is⟩
end
section
theorem bt_max : bootBuiltins "max" = some (.builtin "max") := by decide +kernel
theorem bt_min : bootBuiltins "min" = some (.builtin "min") := by decide +kernel
theorem bt_sum : bootBuiltins "sum" = some (.builtin "sum") := by decide +kernel
theorem bt_len : bootBuiltins "len" = some (.builtin "len") := by decide +kernel
theorem bt_abs : bootBuiltins "abs" = some (.builtin "abs") := by decide +kernel
theorem bt_sorted : bootBuiltins "sorted" = some (.builtin "sorted") := by decide +kernel
theorem bt_range : bootBuiltins "range" = some (.type "range") := by decide +kernel
theorem bt_list : bootBuiltins "list" = some (.type "list") := by decide +kernel
theorem bt_dict : bootBuiltins "dict" = some (.type "dict") := by decide +kernel
theorem bt_int : bootBuiltins "int" = some (.type "int") := by decide +kernel
theorem bt_enumerate : bootBuiltins "enumerate" = some (.type "enumerate") := by decide +kernel

section
variable {prog : Program} {w : World} {A : Around} {E : Value → Shared → Prop} {s : Shared} {e : En} {G : Array GenState} {B : Heap} {L : Addr} {m : Str → Option Value} {U : Own} {env : Env}

theorem bMaxL {l : Addr} {vs : List Value} {ns : List Int} {Q : Value → Shared → Prop} (F : Fs e G B L m U s) (hh : A.handled = none) (hl : Is s.heap l (LstP vs)) (hi : IntsAre vs ns) (hne : 0 < ns.length)
    (h : ∀ s' M t, Fs e G B L m U s' → M ∈ ns → (∀ a, a ∈ ns → a ≤ M) → Q (.int M t) s') : wpAny (model prog w) A (call (.builtin "max") [.ref l]) Q E s := by
  obtain ⟨xs, ex⟩ := hi.allInts.items
  have hns : ns = xs.toList.map (·.1) := by
    rw [← hi.numsOf, ← nums_intItems, ← ex]
  have hsz : 0 < xs.size := by
    have h3 := hne; rw [hns, List.length_map, Array.length_toList] at h3; exact h3
  have hl := lst_is hl
  rw [ex] at hl
  refine max_intList hh hl hsz fun v h' tk hv hk => ?_
  obtain ⟨t, rfl⟩ := intItems_at hv
  obtain ⟨h1, h2⟩ := argBest_gt (numAt xs) (xs.size - 1)
  refine h _ _ t (F.grown hk tk) ?_ fun a ha => ?_
  · rw [hns, numAt_eq]; exact getD_mem (by rw [List.length_map, Array.length_toList]; lia)
  · rw [hns] at ha
    obtain ⟨j, hj, rfl⟩ := mem_getD ha
    rw [List.length_map, Array.length_toList] at hj
    rw [← numAt_eq]; exact h2 j (by lia)
theorem bSumL {l : Addr} {vs : List Value} {ns : List Int} {Q : Value → Shared → Prop} (F : Fs e G B L m U s) (hh : A.handled = none) (hl : Is s.heap l (LstP vs)) (hi : IntsAre vs ns)
    (h : ∀ s' t, Fs e G B L m U s' → Q (.int ns.sum t) s') : wpAny (model prog w) A (call (.builtin "sum") [.ref l]) Q E s := by
  obtain ⟨xs, ex⟩ := hi.allInts.items
  have hns : ns = xs.toList.map (·.1) := by
    rw [← hi.numsOf, ← nums_intItems, ← ex]
  have hl := lst_is hl
  rw [ex] at hl
  refine sum_intListG hh hl fun h' tk t' hk => ?_
  have := h _ t' (F.grown hk tk)
  rw [preSum_eq, List.take_of_length_le (by simp), ← hns]; exact this
theorem bLenL {l : Addr} {vs : List Value} {Q : Value → Shared → Prop} (F : Fs e G B L m U s) (hl : Is s.heap l (LstP vs)) (hz : vs.length ≤ 100000)
    (h : ∀ s' t, Fs e G B L m U s' → Q (.int vs.length t) s') : wpAny (model prog w) A (call (.builtin "len") [.ref l]) Q E s := by
  have hl := lst_is hl
  refine call_len_list hl (by simp; lia) ?_
  have := h _ (s.toks + 1) (F.tk (s.toks + 1 + 1))
  simpa using this
theorem bMax2 {a b : Int} {t u : Tok} {Q : Value → Shared → Prop} (F : Fs e G B L m U s) (hh : A.handled = none) (h : ∀ s' t', Fs e G B L m U s' → Q (.int (max a b) t') s') :
    wpAny (model prog w) A (call (.builtin "max") [.int a t, .int b u]) Q E s :=
  max_two_ints hh fun h' tk hk => by
    have := fun t' => h _ t' (F.grown hk tk)
    split
    · rw [show max a b = b by lia] at this; exact this _
    · rw [show max a b = a by lia] at this; exact this _
theorem bMin2 {a b : Int} {t u : Tok} {Q : Value → Shared → Prop} (F : Fs e G B L m U s) (hh : A.handled = none) (h : ∀ s' t', Fs e G B L m U s' → Q (.int (min a b) t') s') :
    wpAny (model prog w) A (call (.builtin "min") [.int a t, .int b u]) Q E s :=
  min_two_ints hh fun h' tk hk => by
    have := fun t' => h _ t' (F.grown hk tk)
    split
    · rw [show min a b = b by lia] at this; exact this _
    · rw [show min a b = a by lia] at this; exact this _
theorem bAbs {a : Int} {t : Tok} {Q : Value → Shared → Prop} (F : Fs e G B L m U s) (h : ∀ s' t', Fs e G B L m U s' → Q (.int (a.natAbs : Int) t') s') :
    wpAny (model prog w) A (call (.builtin "abs") [.int a t]) Q E s :=
  call_abs_int fun u tk => by
    have := h _ u (F.tk tk)
    rw [show ((a.natAbs : Nat) : Int) = if a < 0 then -a else a by split <;> lia] at this; exact this
theorem bIntBool {b : Bool} {Q : Value → Shared → Prop} (F : Fs e G B L m U s) (h : ∀ s' t', Fs e G B L m U s' → Q (.int (if b then 1 else 0) t') s') :
    wpAny (model prog w) A (call (.type "int") [.bool b]) Q E s := call_int_bool (h _ _ (F.tk _))

/-! ranges -/
noncomputable def RngP (a b : Int) : Obj → Prop := fun o => ∃ t u v, o = { cls := .type "range", dict := none, data := .fields #[.int a t, .int b u, .int 1 v], slots := #[] }
theorem bRange1 {n : Int} {t : Tok} {Q : Value → Shared → Prop} (F : Fs e G B L m U s) (h : ∀ s' B' r, Kp B B' → Is B' r (RngP 0 n) → Fs e G B' L m U s' → Q (.ref r) s') :
    wpAny (model prog w) A (call (.type "range") [.int n t]) Q E s := by
  refine call_range_1 ?_
  obtain ⟨B', k, hi, F'⟩ := F.pers (h' := s.heap.push { cls := .type "range", data := .fields #[.int 0 s.toks, .int n t, .int 1 (s.toks + 1)] }) (P := RngP 0 n) (fun b o q => Heap.get?_push_of_some _ q) (none_of_size _) ⟨_, Heap.get?_push_size _ rfl, _, _, _, rfl⟩ (s.toks + 1 + 1)
  exact h _ _ _ k hi F'
theorem bRange2 {a b : Int} {t u : Tok} {Q : Value → Shared → Prop} (F : Fs e G B L m U s) (h : ∀ s' B' r, Kp B B' → Is B' r (RngP a b) → Fs e G B' L m U s' → Q (.ref r) s') :
    wpAny (model prog w) A (call (.type "range") [.int a t, .int b u]) Q E s := by
  refine call_range_2 ?_
  obtain ⟨B', k, hi, F'⟩ := F.pers (h' := s.heap.push { cls := .type "range", data := .fields #[.int a t, .int b u, .int 1 s.toks] }) (P := RngP a b) (fun b o q => Heap.get?_push_of_some _ q) (none_of_size _) ⟨_, Heap.get?_push_size _ rfl, _, _, _, rfl⟩ (s.toks + 1)
  exact h _ _ _ k hi F'
theorem iRng {r : Addr} {a b : Int} {Q : Value → Shared → Prop} (F : Fs e G B L m U s) (hr : Is B r (RngP a b)) (ha : -1000000000000 ≤ a) (ha' : a ≤ 1000000000000) (hb : -1000000000000 ≤ b) (hb' : b ≤ 1000000000000)
    (h : ∀ s' it, e.s.heap.get? it = none → Fs e G B L m ((it, RItP (a + ((0 : Nat) : Int)) (((b - a).toNat : Int) - ((0 : Nat) : Int)) 1) :: U) s' → Q (.ref it) s') : wpAny (model prog w) A (pyIter (.ref r)) Q E s := by
  obtain ⟨o, ho, t, u, v, rfl⟩ := hr.keeps F.kp
  refine wpAny_pyIter_range ho (small_one (by lia) (by lia) (by lia) (by lia)) ?_
  refine h _ _ (F.fresh (none_of_size _)) (F.take (h' := s.heap.push { cls := .type "range_iterator", data := .fields #[rawInt a, rawInt (Builtin.Range.rangeSize a b 1), rawInt 1] }) (fun b o q => Heap.get?_push_of_some _ q) (none_of_size _) ⟨_, Heap.get?_push_size _ rfl, ?_⟩ s.toks)
  have e1 : a + ((0 : Nat) : Int) = a := by lia
  have e2 : (((b - a).toNat : Nat) : Int) - ((0 : Nat) : Int) = Builtin.Range.rangeSize a b 1 := by rw [rangeSize_one]; split <;> lia
  rw [e1, e2]; rfl
theorem iLst {l : Addr} {its : List Value} {Q : Value → Shared → Prop} (F : Fs e G B L m U s) (hr : Is s.heap l (LstP its))
    (h : ∀ s' it, e.s.heap.get? it = none → Fs e G B L m ((it, LItP l 0) :: U) s' → Q (.ref it) s') : wpAny (model prog w) A (pyIter (.ref l)) Q E s := by
  have hl := lst_is hr
  refine wpAny_pyIter_list hl ?_
  exact h _ _ (F.fresh (none_of_size _)) (F.take (h' := s.heap.push { cls := .type "list_iterator", data := .fields #[.ref l, .int 0 0] }) (P := LItP l 0) (fun b o q => Heap.get?_push_of_some _ q) (none_of_size _) ⟨_, Heap.get?_push_size _ rfl, rfl, rfl⟩ s.toks)
theorem iTup {l : Addr} {its : List Value} {Q : Value → Shared → Prop} (F : Fs e G B L m U s) (hr : Is s.heap l (TupP its))
    (h : ∀ s' it, e.s.heap.get? it = none → Fs e G B L m ((it, TItP l 0) :: U) s' → Q (.ref it) s') : wpAny (model prog w) A (pyIter (.ref l)) Q E s := by
  have hl : s.heap.IsTuple l its.toArray := hr
  refine wpAny_pyIter_tuple hl ?_
  exact h _ _ (F.fresh (none_of_size _)) (F.take (h' := s.heap.push { cls := .type "tuple_iterator", data := .fields #[.ref l, .int 0 0] }) (P := TItP l 0) (fun b o q => Heap.get?_push_of_some _ q) (none_of_size _) ⟨_, Heap.get?_push_size _ rfl, rfl, rfl⟩ s.toks)
theorem iDic {d : Addr} {es : Array DictEntry} {ep : Nat} {Q : Value → Shared → Prop} (F : Fs e G B L m U s) (hd : (d == sysModules) = false) (hr : Is s.heap d (DicE es ep))
    (h : ∀ s' it, e.s.heap.get? it = none → Fs e G B L m ((it, KItP d 0 es.size ep) :: U) s' → Q (.ref it) s') : wpAny (model prog w) A (pyIter (.ref d)) Q E s := by
  refine iter_dict hd hr ?_
  exact h _ _ (F.fresh (none_of_size _)) (F.take (h' := s.heap.push { cls := .type "dict_keyiterator", data := .fields #[.ref d, .int 0 0, .int es.size 0, .int ep 0] }) (P := KItP d 0 es.size ep) (fun b o q => Heap.get?_push_of_some _ q) (none_of_size _) ⟨_, Heap.get?_push_size _ rfl, rfl, rfl⟩ s.toks)
/-- enumerate over a list -/
theorem bEnum {l : Addr} {its : List Value} {Q : Value → Shared → Prop} (F : Fs e G B L m U s) (hr : Is s.heap l (LstP its))
    (h : ∀ s' en it, en ≠ it → e.s.heap.get? en = none → e.s.heap.get? it = none → Fs e G B L m ((en, EnP it 0) :: (it, LItP l 0) :: U) s' → Q (.ref en) s') : wpAny (model prog w) A (call (.type "enumerate") [.ref l]) Q E s := by
  have hl := lst_is hr
  refine call_enumerate_list hl fun h' he hi hsz hk => ?_
  have hn : s.heap.get? (s.heap.objs.size + 1) = none := none_of_le (Nat.le_succ _)
  have F1 := F.take (P := LItP l 0) hk (none_of_size _) hi s.toks
  refine h _ (s.heap.objs.size + 1) s.heap.objs.size (Nat.succ_ne_self _) (F.fresh hn) (F.fresh (none_of_size _)) ?_
  refine ⟨F1.rn, F1.ns, F1.lb, F1.lg, fun p hp => ?_, ?_, F1.os, F1.gens⟩
  · rcases List.mem_cons.mp hp with rfl | hp
    · refine ⟨⟨_, he, .none, rfl⟩, none_kp F.kp hn, fun q => ?_, .inl (F.fresh hn)⟩
      obtain ⟨o', z⟩ := F.L_some
      have q' : s.heap.objs.size + 1 = L := q
      rw [← q', hn] at z; cases z
    · exact F1.own p hp
  · rw [List.map_cons, List.nodup_cons]
    refine ⟨fun q => ?_, F1.dis⟩
    have q : s.heap.objs.size + 1 ∈ s.heap.objs.size :: U.map (·.1) := q
    rcases List.mem_cons.mp q with q | q
    · exact Nat.succ_ne_self _ q
    · obtain ⟨p, hp, q⟩ := List.mem_map.mp q
      obtain ⟨o, z, _⟩ := (F.own p hp).1
      rw [q, hn] at z; cases z
end
end
section
section
variable {prog : Program} {w : World} {A : Around} {E : Value → Shared → Prop} {s : Shared} {e : En} {G : Array GenState} {B : Heap} {L : Addr} {m : Str → Option Value} {U : Own} {env : Env}

/-- what an element of a comprehension leaves behind -/
noncomputable def CElt (e : En) (G : Array GenState) (B2 : Heap) (C : Addr) (W : Own) (D : Addr) (ys : List Value) (lp : Addr × (Obj → Prop)) (Inv : Heap → List Value → Own → Prop) (y : Value) (s4 : Shared) : Prop :=
  ys.length ≤ 100000 ∧ ∃ B'' m'' U'', Kp B2 B'' ∧ Fs e G B'' C m'' (W ++ ((D, LstP ys) :: lp :: U'')) s4 ∧ Inv B'' (ys ++ [y]) U''
/-- what a turn leaves behind that adds no element -/
noncomputable def CSkip (e : En) (G : Array GenState) (B2 : Heap) (C : Addr) (W : Own) (D : Addr) (ys : List Value) (lp : Addr × (Obj → Prop)) (Inv : Heap → List Value → Own → Prop) (s4 : Shared) : Prop :=
  ∃ B'' m'' U'', Kp B2 B'' ∧ Fs e G B'' C m'' (W ++ ((D, LstP ys) :: lp :: U'')) s4 ∧ Inv B'' ys U''
theorem CElt.mk {B2 B'' : Heap} {C D : Addr} {W U'' : Own} {ys : List Value} {lp : Addr × (Obj → Prop)} {Inv : Heap → List Value → Own → Prop} {y : Value} {m'' : Str → Option Value} (hz : ys.length ≤ 100000) (k : Kp B2 B'')
    (F : Fs e G B'' C m'' (W ++ ((D, LstP ys) :: lp :: U'')) s) (hI : Inv B'' (ys ++ [y]) U'') : CElt e G B2 C W D ys lp Inv y s := ⟨hz, _, _, _, k, F, hI⟩
theorem CSkip.mk {B2 B'' : Heap} {C D : Addr} {W U'' : Own} {ys : List Value} {lp : Addr × (Obj → Prop)} {Inv : Heap → List Value → Own → Prop} {m'' : Str → Option Value} (k : Kp B2 B'')
    (F : Fs e G B'' C m'' (W ++ ((D, LstP ys) :: lp :: U'')) s) (hI : Inv B'' ys U'') : CSkip e G B2 C W D ys lp Inv s := ⟨_, _, _, k, F, hI⟩
/-- a turn of a comprehension -/
noncomputable def CTurn (prog : Program) (w : World) (A : Around) (e : En) (G : Array GenState) (target : Expr) (ifs : List Expr) (elt : Expr) (cenv : Env) (v : Value) (B2 : Heap) (C : Addr) (W : Own) (D : Addr) (ys : List Value) (lp : Addr × (Obj → Prop)) (Inv : Heap → List Value → Own → Prop) (E' : Value → Shared → Prop) (s' : Shared) : Prop :=
  wpAny (model prog w) A (assign target cenv v) (fun _ s2 => wpAny (model prog w) A (tests ifs cenv) (fun ok s3 =>
    if ok = true then wpAny (model prog w) A (eval elt cenv) (CElt e G B2 C W D ys lp Inv) E' s3 else CSkip e G B2 C W D ys lp Inv s3) E' s2) E' s'
theorem CTurn.mk {target elt : Expr} {ifs : List Expr} {cenv : Env} {v : Value} {B2 : Heap} {C D : Addr} {W : Own} {ys : List Value} {lp : Addr × (Obj → Prop)} {Inv : Heap → List Value → Own → Prop}
    (h : let env : Env := cenv; wpAny (model prog w) A (assign target env v) (fun _ s2 => wpAny (model prog w) A (tests ifs env) (fun ok s3 =>
      if ok = true then wpAny (model prog w) A (eval elt env) (CElt e G B2 C W D ys lp Inv) E s3 else CSkip e G B2 C W D ys lp Inv s3) E s2) E s) : CTurn prog w A e G target ifs elt cenv v B2 C W D ys lp Inv E s := h

/-- one clause of a list comprehension: all that is to be shown of it -/
noncomputable def CompTodo (prog : Program) (w : World) (A : Around) (e : En) (G : Array GenState) (env : Env) (elt target iter : Expr) (ifs : List Expr) (scope : Scope) (cl : List (Str × Addr))
    (Q : Heap → (Str → Option Value) → List Value → Own → Prop) (it : Value) (s : Shared) : Prop :=
  ∃ ita B2 m U2 B₀ St Mid n V, it = .ref ita ∧ Nx prog w B₀ ita St Mid n V target ∧ Kp B₀ B2 ∧ (∀ i, ∀ p ∈ St i, e.s.heap.get? p.1 = none) ∧ Fs e G B2 env.locals m (St 0 ++ U2) s ∧
    ∃ Inv : Nat → Heap → List Value → Own → Prop, Inv 0 B2 [] U2 ∧ (∀ i B' B'' ys U', Inv i B' ys U' → Kp B' B'' → Inv i B'' ys U') ∧
    (∀ C D i v B' m' ys U' s' E', e.s.heap.get? C = none → i < n → Kp B2 B' → Inv i B' ys U' → V B' i v → Fs e G B' C m' (St (i + 1) ++ ((D, LstP ys) :: (env.locals, NsP m) :: U')) s' →
      CTurn prog w A e G target ifs elt (compEnvC scope cl C env) v B2 C (St (i + 1)) D ys (env.locals, NsP m) (Inv (i + 1)) E' s') ∧
    (∀ B' ys U', Kp B2 B' → Inv n B' ys U' → Q B' m ys U')
theorem CompTodo.mk {elt target iter : Expr} {ifs : List Expr} {scope : Scope} {cl : List (Str × Addr)} {Q : Heap → (Str → Option Value) → List Value → Own → Prop} (ita : Addr) {B2 : Heap} {U2 : Own} {B₀ : Heap} {St : Nat → Own} {Mid : Nat → Value → Own} {n : Nat} {V : Heap → Nat → Value → Prop}
    (N : Nx prog w B₀ ita St Mid n V target) (k0 : Kp B₀ B2) (hfr : ∀ i, ∀ p ∈ St i, e.s.heap.get? p.1 = none) (F : Fs e G B2 env.locals m (St 0 ++ U2) s)
    (Inv : Nat → Heap → List Value → Own → Prop) (h0 : Inv 0 B2 [] U2)
    (h : let I := Inv; (∀ i B' B'' ys U', I i B' ys U' → Kp B' B'' → I i B'' ys U') ∧
      (∀ C D i v B' m' ys U' s' E', e.s.heap.get? C = none → i < n → Kp B2 B' → I i B' ys U' → V B' i v → Fs e G B' C m' (St (i + 1) ++ ((D, LstP ys) :: (env.locals, NsP m) :: U')) s' →
        CTurn prog w A e G target ifs elt (compEnvC scope cl C env) v B2 C (St (i + 1)) D ys (env.locals, NsP m) (I (i + 1)) E' s') ∧
      (∀ B' ys U', Kp B2 B' → I n B' ys U' → Q B' m ys U')) : CompTodo prog w A e G env elt target iter ifs scope cl Q (.ref ita) s :=
  ⟨ita, B2, m, U2, B₀, St, Mid, n, V, rfl, N, k0, hfr, F, Inv, h0, h⟩

theorem comp_of_todo {elt target iter : Expr} {ifs : List Expr} {scope : Scope} {pos : Pos} {cl : List (Str × Addr)} {Q : Heap → (Str → Option Value) → List Value → Own → Prop} {it : Value}
    (hh : A.handled = none) (T : CompTodo prog w A e G env elt target iter ifs scope cl Q it s) :
    ∃ B2 m U2, Fs e G B2 env.locals m U2 s ∧
      ∀ C D s3, Fs e G B2 C (fun _ => none) ((D, LstP []) :: (env.locals, NsP m) :: U2) s3 → e.s.heap.get? C = none → e.s.heap.get? D = none → ∀ R : Result → Shared → Prop,
        (∀ s4 B4 m4 ys U4, Fs e G B4 C m4 ((D, LstP ys) :: (env.locals, NsP m) :: U4) s4 → Q B4 m ys U4 → R (.ok .next) s4) →
        codeAny (model prog w) A (.compStart (.ListComp elt [⟨target, iter, ifs, 0⟩] scope pos) 0 it (.ref D) (compEnvC scope cl C env)) R s3 := by
  refine ea9_6 T ?_; clear T; rintro ita B2 m U2 B₀ St Mid n V rfl N k0 hfr F hX9; refine ea1_4 hX9 ?_; clear hX9; rintro Inv h0 mono turn fin
  refine ⟨B2, m, St 0 ++ U2, F, fun C D s3 F3 hC hD R hR => ?_⟩
  have F4 : Fs e G B2 C (fun _ => none) (St 0 ++ ((D, LstP []) :: (env.locals, NsP m) :: U2)) s3 := by
    refine F3.perm ?_
    have p1 : ((D, LstP []) :: (env.locals, NsP m) :: (St 0 ++ U2)).Perm ((D, LstP []) :: (St 0 ++ ((env.locals, NsP m) :: U2))) := List.Perm.cons _ List.perm_middle.symm
    exact p1.trans List.perm_middle.symm
  refine startN N rfl k0 F4 ?_
  refine compLast (Inv := fun i B' ys U' => ∃ U1, U' = (env.locals, NsP m) :: U1 ∧ Inv i B' ys U1) N rfl rfl hh hfr k0 F4 ⟨U2, rfl, h0⟩ ?_ ?_ ?_
  · rintro i v B' m' ys U' s' E' hi kb ⟨U1, rfl, hI⟩ hv F'
    refine wpAny_mono (turn C D i v B' m' ys U1 s' E' hC hi kb hI hv F') (fun _ s5 h5 => wpAny_mono h5 (fun ok s6 h6 => ?_) fun _ _ x => x) fun _ _ x => x
    cases ok with
    | true =>
      simp only [if_true] at h6 ⊢
      refine wpAny_mono h6 (fun y s7 h7 => ?_) fun _ _ x => x
      refine anE2 h7 ?_; clear h7; rintro hz hX9; refine ea3_3 hX9 ?_; clear hX9; rintro B'' m'' U'' k'' F'' I''
      exact ⟨hz, B'', m'', _, k'', F'', U'', rfl, I''⟩
    | false =>
      simp only [Bool.false_eq_true, if_false] at h6 ⊢
      refine ea3_3 h6 ?_; clear h6; rintro B'' m'' U'' k'' F'' I''
      exact ⟨B'', m'', _, k'', F'', U'', rfl, I''⟩
  · rintro i B' B'' ys U' ⟨U1, rfl, hI⟩ k
    exact ⟨U1, rfl, mono i _ _ _ _ hI k⟩
  · rintro B' m' ys U' s' kb ⟨U1, rfl, hI⟩ F'
    exact hR _ _ _ _ _ F' (fin _ _ _ kb hI)

/-- a list comprehension of one clause -/
theorem listComp1 {elt target iter : Expr} {ifs : List Expr} {scope : Scope} {pos : Pos} {cl : List (Str × Addr)} {Q : Value → Shared → Prop} (F₀ : Fs e G B L m U s) (hh : A.handled = none)
    (h : wpAny (model prog w) A (eval iter env) (fun x s1 => wpAny (model prog w) A (pyIter x) (fun it s2 =>
      CompTodo prog w A e G env elt target iter ifs scope cl (fun B' m ys U' => ∀ D s', e.s.heap.get? D = none → Fs e G B' env.locals m ((D, LstP ys) :: U') s' → Q (.ref D) s') it s2) E s1) E s)
    (hlg : e.s.heap.get? env.locals = none) (hclos : closureFor scope env = pure cl) (hcell : ∀ y ∈ scope.names, y.2 ≠ .cell) (hkind : scope.kind = .function) (hnames : ∀ y ∈ scope.names, y.2 = .local → scope.names.lookup y.1 = some .local)
    (hs : ∀ x, foldedSetIterable iter env x = pure x) :
    wpAny (model prog w) A (eval (.ListComp elt [⟨target, iter, ifs, 0⟩] scope pos) env) Q E s := by
  refine listComp (G := G) (wpAny_mono h (fun x s1 h1 => wpAny_mono h1 (fun it s2 h2 => ?_) fun _ _ x => x) fun _ _ x => x) hlg hclos hcell hkind hnames hs
  refine ea3_2 (comp_of_todo (pos := pos) hh h2) ?_; rintro B2 m U2 F2 h3
  refine ⟨B2, m, U2, F2, fun C D s3 F3 hC hD X => h3 C D s3 F3 hC hD _ fun s4 B4 m4 ys U4 F4 q => ?_⟩
  exact ⟨B4, m4, ys, U4, F4, fun s5 F5 => q _ _ hD F5⟩
/-- the same, put into a local at once -/
theorem listComp1Use {elt target iter : Expr} {ifs : List Expr} {scope : Scope} {pos apos : Pos} {cl : List (Str × Addr)} {Q : Flow → Shared → Prop} {x : Str} {px : Pos} (F₀ : Fs e G B L m U s) (hh : A.handled = none)
    (h : wpAny (model prog w) A (eval iter env) (fun x' s1 => wpAny (model prog w) A (pyIter x') (fun it s2 =>
      CompTodo prog w A e G env elt target iter ifs scope cl (fun B' m ys U' => ∀ D s', e.s.heap.get? D = none → Fs e G B' env.locals (fun y => if y = x then some (.ref D) else m y) ((D, LstP ys) :: U') s' → Q .next s') it s2) E s1) E s)
    (hlg : e.s.heap.get? env.locals = none) (hclos : closureFor scope env = pure cl) (hcell : ∀ y ∈ scope.names, y.2 ≠ .cell) (hkind : scope.kind = .function) (hnames : ∀ y ∈ scope.names, y.2 = .local → scope.names.lookup y.1 = some .local)
    (hs : ∀ x, foldedSetIterable iter env x = pure x) (hsw : swapsWith (.ListComp elt [⟨target, iter, ifs, 0⟩] scope pos) (some (.Name x px)) apos.line env = pure true)
    (hk : env.scope.kind = .function) (hl : env.kindOf x = some .local) :
    wpAny (model prog w) A (exec (.Assign [.Name x px] (.ListComp elt [⟨target, iter, ifs, 0⟩] scope pos) apos) env) Q E s := by
  refine listCompUse (G := G) (wpAny_mono h (fun x s1 h1 => wpAny_mono h1 (fun it s2 h2 => ?_) fun _ _ x => x) fun _ _ x => x) hlg hclos hcell hkind hnames hs hsw hk hl
  refine ea3_2 (comp_of_todo (pos := pos) hh h2) ?_; rintro B2 m U2 F2 h3
  refine ⟨B2, m, U2, F2, fun C D s3 F3 hC hD X => h3 C D s3 F3 hC hD _ fun s4 B4 m4 ys U4 F4 q => ?_⟩
  exact ⟨B4, m4, ys, U4, F4, fun s5 F5 => q _ _ hD F5⟩
theorem bMulL {a b : Int} {t u : Tok} {Q : Value → Shared → Prop} (F : Fs e G B L m U s) (hm : Builtin.Int.intBits a ≤ 64) (h : ∀ s' t, Fs e G B L m U s' → Q (.int (a * b) t) s') :
    wpAny (model prog w) A (binaryOp .Mult (.int a t) (.int b u)) Q E s := PyProof.Rows.mul_int (h _ _ (F.tk _)) (IntMulOk.of_left hm)
theorem intsApp {a b : List Value} {x y : List Int} (h : IntsAre a x) (g : IntsAre b y) : IntsAre (a ++ b) (x ++ y) := by
  induction h with
  | nil => exact g
  | cons n t _ ih => exact .cons n t ih
theorem Fs.did {B' : Heap} {s' : Shared} (F : Fs e G B L m U s) (R : Rs [] s.gens B s B' s') : Fs e G B' L m U s' := by
  have := F.call R; rwa [F.gens] at this
theorem Fs.did1 {B' : Heap} {s' : Shared} {a : Addr} {P P' : Obj → Prop} (F : Fs e G B L m ((a, P) :: U) s) (R : Rs [a] s.gens B s B' s') (h' : Is s'.heap a P') : Fs e G B' L m ((a, P') :: U) s' := by
  have := F.call1 R h'; rwa [F.gens] at this
theorem Fs.dids {B' : Heap} {s' : Shared} {V V' : Own} (F : Fs e G B L m (V ++ U) s) (hV : V'.map (·.1) = V.map (·.1)) (R : Rs (V.map (·.1)) s.gens B s B' s') (h' : ∀ p ∈ V', Is s'.heap p.1 p.2) : Fs e G B' L m (V' ++ U) s' := by
  have := F.calls hV R h'; rwa [F.gens] at this
theorem assignIO {l ts : List (Value → Sem Unit)} {t : Value → Sem Unit} {x : Value} {xs : List Value} {Q : Unit → Shared → Prop} (hl : l = t :: ts)
    (h : wpAny (model prog w) A (t x) (fun _ s₁ => wpAny (model prog w) A (assignInOrder ts xs) Q E s₁) E s) : wpAny (model prog w) A (assignInOrder l (x :: xs)) Q E s := by
  subst hl; exact assignInOrder_cons h
theorem assignIOn {l : List (Value → Sem Unit)} {Q : Unit → Shared → Prop} (hl : l = []) (h : Q () s) : wpAny (model prog w) A (assignInOrder l []) Q E s := by
  subst hl; exact assignInOrder_nil h
theorem iteT {P R : Prop} (h : P) : if true = true then P else R := by rw [if_pos rfl]; exact h
theorem iteF {P R : Prop} (h : R) : if false = true then P else R := by rw [if_neg Bool.false_ne_true]; exact h
theorem tests_nil {env : Env} {Q : Bool → Shared → Prop} (h : Q true s) : wpAny (model prog w) A (tests [] env) Q E s := wpAny_pure h
theorem tests_one {c : Expr} {env : Env} {Q : Bool → Shared → Prop} (h : wpAny (model prog w) A (isTrue c env (eval c env)) (fun ok s1 => Q ok s1) E s) : wpAny (model prog w) A (tests [c] env) Q E s := by
  unfold tests
  rw [List.forIn_cons]
  refine wpAny_bind ?_
  rw [if_pos rfl]
  refine wpAny_bind (wpAny_mono h (fun ok s1 h1 => wpAny_pure ?_) fun _ _ x => x)
  exact wpAny_pure h1
end
end
section
/-- a tuple of ints -/
noncomputable def IntTup (B : Heap) (v : Value) (ks : List Int) : Prop := ∃ t vs, v = .ref t ∧ Is B t (TupP vs) ∧ IntsAre vs ks
theorem IntTup.mono {B h : Heap} {v : Value} {ks : List Int} (x : IntTup B v ks) (k : Kp B h) : IntTup h v ks := let ⟨t, vs, a, b, c⟩ := x; ⟨t, vs, a, b.keeps k, c⟩
inductive TupsAre (B : Heap) : List Value → List (List Int) → Prop
  | nil : TupsAre B [] []
  | cons {v : Value} {ks : List Int} {vs : List Value} {kss : List (List Int)} : IntTup B v ks → TupsAre B vs kss → TupsAre B (v :: vs) (ks :: kss)
theorem TupsAre.mono {B h : Heap} {vs : List Value} {kss : List (List Int)} (x : TupsAre B vs kss) (k : Kp B h) : TupsAre h vs kss := by
  induction x with
  | nil => exact .nil
  | cons a _ ih => exact .cons (a.mono k) ih
theorem TupsAre.app {B : Heap} {a b : List Value} {x y : List (List Int)} (h : TupsAre B a x) (g : TupsAre B b y) : TupsAre B (a ++ b) (x ++ y) := by
  induction h with
  | nil => exact g
  | cons i _ ih => exact .cons i ih
theorem TupsAre.length {B : Heap} {a : List Value} {x : List (List Int)} (h : TupsAre B a x) : a.length = x.length := by
  induction h with
  | nil => rfl
  | cons _ _ ih => simp [ih]
theorem TupsAre.get {B : Heap} {a : List Value} {x : List (List Int)} (h : TupsAre B a x) {i : Nat} {v : Value} (e : a[i]? = some v) : ∃ ks, x[i]? = some ks ∧ IntTup B v ks := by
  induction h generalizing i with
  | nil => cases e
  | cons a _ ih =>
    cases i with
    | zero => cases e; exact ⟨_, rfl, a⟩
    | succ i => exact ih e

theorem TupsAre.getE {B : Heap} {a : List Value} {x : List (List Int)} (h : TupsAre B a x) {i : Nat} {v : Value} (e : a[i]? = some v) {C : Prop} (k : ∀ ks t vs, x[i]? = some ks → v = .ref t → Is B t (TupP vs) → IntsAre vs ks → C) : C :=
  (h.get e).elim fun ks q => ea2_3 q.2 fun t vs => k ks t vs q.1

theorem ints2 {vs : List Value} {a b : Int} (h : IntsAre vs [a, b]) : ∃ t u, vs = [.int a t, .int b u] := by
  cases h with | cons _ t h => cases h with | cons _ u h => cases h; exact ⟨t, u, rfl⟩
theorem ints3 {vs : List Value} {a b c : Int} (h : IntsAre vs [a, b, c]) : ∃ t u v, vs = [.int a t, .int b u, .int c v] := by
  cases h with | cons _ t h => obtain ⟨u, v, rfl⟩ := ints2 h; exact ⟨t, u, v, rfl⟩
theorem ints4 {vs : List Value} {a b c d : Int} (h : IntsAre vs [a, b, c, d]) : ∃ t u v x, vs = [.int a t, .int b u, .int c v, .int d x] := by
  cases h with | cons _ t h => obtain ⟨u, v, x, rfl⟩ := ints3 h; exact ⟨t, u, v, x, rfl⟩
theorem intsGet {vs : List Value} {ns : List Int} (h : IntsAre vs ns) {i : Nat} {n : Int} (e : ns[i]? = some n) : ∃ t, vs[i]? = some (.int n t) := by
  induction h generalizing i with
  | nil => cases e
  | cons k t _ ih =>
    cases i with
    | zero => cases e; exact ⟨t, rfl⟩
    | succ i => exact ih e

section
variable {prog : Program} {w : World} {A : Around} {E : Value → Shared → Prop} {s : Shared} {e : En} {G : Array GenState} {B : Heap} {L : Addr} {m : Str → Option Value} {U : Own} {env : Env}

/-- what a turn of a for loop leaves behind -/
noncomputable def TurnQ (e : En) (G : Array GenState) (B2 : Heap) (L : Addr) (W : Own) (Inv : Heap → (Str → Option Value) → Own → Prop) (f : Flow) (s3 : Shared) : Prop :=
  (f = .next ∨ f = .cont) ∧ ∃ B'' m'' U'', Kp B2 B'' ∧ Fs e G B'' L m'' (W ++ U'') s3 ∧ Inv B'' m'' U''
theorem TurnQ.mk {B2 B'' : Heap} {W U'' : Own} {Inv : Heap → (Str → Option Value) → Own → Prop} {f : Flow} {m'' : Str → Option Value} (hf : f = .next ∨ f = .cont) (k : Kp B2 B'') (F : Fs e G B'' L m'' (W ++ U'') s) (hI : Inv B'' m'' U'') :
    TurnQ e G B2 L W Inv f s := ⟨hf, _, _, _, k, F, hI⟩
/-- a turn of a for loop -/
noncomputable def TurnG (prog : Program) (w : World) (A : Around) (target : Expr) (body : List Stmt) (env : Env) (v : Value) (TQ : Flow → Shared → Prop) (E' : Value → Shared → Prop) (s' : Shared) : Prop :=
  wpAny (model prog w) A (assign target env v) (fun _ s2 => wpAny (model prog w) A (execs body env) TQ E' s2) E' s'
theorem TurnG.mk {target : Expr} {body : List Stmt} {v : Value} {TQ : Flow → Shared → Prop} (h : wpAny (model prog w) A (assign target env v) (fun _ s2 => wpAny (model prog w) A (execs body env) TQ E s2) E s) : TurnG prog w A target body env v TQ E s := h
/-- a for loop: all that is to be shown of it -/
noncomputable def ForTodo (prog : Program) (w : World) (A : Around) (e : En) (G : Array GenState) (L : Addr) (env : Env) (target : Expr) (body : List Stmt) (Q : Flow → Shared → Prop) (it : Value) (s2 : Shared) : Prop :=
  ∃ ita B2 m2 U2 B₀ St Mid n V, it = .ref ita ∧ Nx prog w B₀ ita St Mid n V target ∧ Kp B₀ B2 ∧ (∀ i, ∀ p ∈ St i, e.s.heap.get? p.1 = none) ∧ Fs e G B2 L m2 (St 0 ++ U2) s2 ∧
        ∃ Inv : Nat → Heap → (Str → Option Value) → Own → Prop, Inv 0 B2 m2 U2 ∧ (∀ i B' B'' m' U', Inv i B' m' U' → Kp B' B'' → Inv i B'' m' U') ∧
        (∀ i v B' m' U' s' E', i < n → Kp B2 B' → Inv i B' m' U' → V B' i v → Fs e G B' L m' (St (i + 1) ++ U') s' →
          TurnG prog w A target body env v (TurnQ e G B2 L (St (i + 1)) (Inv (i + 1))) E' s') ∧
        (∀ B' m' U' s', Kp B2 B' → Inv n B' m' U' → Fs e G B' L m' U' s' → Q .next s')
theorem ForTodo.mk {target : Expr} {body : List Stmt} {Q : Flow → Shared → Prop} (ita : Addr) {B2 : Heap} {m2 : Str → Option Value} {U2 : Own} {B₀ : Heap} {St : Nat → Own} {Mid : Nat → Value → Own} {n : Nat} {V : Heap → Nat → Value → Prop}
    (N : Nx prog w B₀ ita St Mid n V target) (k0 : Kp B₀ B2) (hfr : ∀ i, ∀ p ∈ St i, e.s.heap.get? p.1 = none) (F : Fs e G B2 L m2 (St 0 ++ U2) s)
    (Inv : Nat → Heap → (Str → Option Value) → Own → Prop) (h0 : Inv 0 B2 m2 U2)
    (h : let I := Inv; (∀ i B' B'' m' U', I i B' m' U' → Kp B' B'' → I i B'' m' U') ∧
        (∀ i v B' m' U' s' E', i < n → Kp B2 B' → I i B' m' U' → V B' i v → Fs e G B' L m' (St (i + 1) ++ U') s' →
          TurnG prog w A target body env v (TurnQ e G B2 L (St (i + 1)) (I (i + 1))) E' s') ∧
        (∀ B' m' U' s', Kp B2 B' → I n B' m' U' → Fs e G B' L m' U' s' → Q .next s')) : ForTodo prog w A e G L env target body Q (.ref ita) s :=
  ⟨ita, B2, m2, U2, B₀, St, Mid, n, V, rfl, N, k0, hfr, F, Inv, h0, h⟩
theorem for1 {target iter : Expr} {body : List Stmt} {pos : Pos} {Q : Flow → Shared → Prop} (F₀ : Fs e G B L m U s) (hh : A.handled = none)
    (h : wpAny (model prog w) A (eval iter env) (fun x s1 => wpAny (model prog w) A (pyIter x) (fun it s2 => ForTodo prog w A e G L env target body Q it s2) E s1) E s)
    (hs : ∀ x, foldedSetIterable iter env x = pure x) :
    wpAny (model prog w) A (exec (.For target iter body [] pos) env) Q E s := by
  refine forStmt (wpAny_mono h (fun x s1 h1 => wpAny_mono h1 (fun it s2 h2 X => ?_) fun _ _ x => x) fun _ _ x => x) hs
  refine ea9_6 h2 ?_; clear h2; rintro ita B2 m2 U2 B₀ St Mid n V rfl N k0 hfr F2 hX9; refine ea1_4 hX9 ?_; clear hX9; rintro Inv h0 mono turn fin
  exact forN N hh hfr k0 F2 Inv h0 (fun i v B' m' U' s' E' hi kb hI hv _ F' => turn i v B' m' U' s' E' hi kb hI hv F') mono fin

theorem exI2 {α β : Type} {p : α → β → Prop} (a : α) (b : β) (h : p a b) : ∃ x y, p x y := ⟨a, b, h⟩
theorem exI3 {α β γ : Type} {p : α → β → γ → Prop} (a : α) (b : β) (c : γ) (h : p a b c) : ∃ x y z, p x y z := ⟨a, b, c, h⟩
theorem exI4 {α β γ δ : Type} {p : α → β → γ → δ → Prop} (a : α) (b : β) (c : γ) (d : δ) (h : p a b c d) : ∃ x y z u, p x y z u := ⟨a, b, c, d, h⟩
theorem exI5 {α β γ δ ε : Type} {p : α → β → γ → δ → ε → Prop} (a : α) (b : β) (c : γ) (d : δ) (e : ε) (h : p a b c d e) : ∃ x y z u v, p x y z u v := ⟨a, b, c, d, e, h⟩
theorem exI6 {α β γ δ ε ζ : Type} {p : α → β → γ → δ → ε → ζ → Prop} (a : α) (b : β) (c : γ) (d : δ) (e : ε) (f : ζ) (h : p a b c d e f) : ∃ x y z u v w, p x y z u v w := ⟨a, b, c, d, e, f, h⟩
theorem exI7 {α β γ δ ε ζ η : Type} {p : α → β → γ → δ → ε → ζ → η → Prop} (a : α) (b : β) (c : γ) (d : δ) (e : ε) (f : ζ) (g : η) (h : p a b c d e f g) : ∃ x y z u v w o, p x y z u v w o := ⟨a, b, c, d, e, f, g, h⟩
theorem exI8 {α β γ δ ε ζ η θ : Type} {p : α → β → γ → δ → ε → ζ → η → θ → Prop} (a : α) (b : β) (c : γ) (d : δ) (e : ε) (f : ζ) (g : η) (i : θ) (h : p a b c d e f g i) : ∃ x y z u v w o q, p x y z u v w o q := ⟨a, b, c, d, e, f, g, i, h⟩
theorem ifP {c : Prop} [Decidable c] {P R : Prop} (hc : c) (h : P) : if c then P else R := by rw [if_pos hc]; exact h
theorem ifN {c : Prop} [Decidable c] {P R : Prop} (hc : ¬c) (h : R) : if c then P else R := by rw [if_neg hc]; exact h
theorem exE2 {α β : Type} {p : α → β → Prop} {C : Prop} (h : ∃ a b, p a b) (k : ∀ a b, p a b → C) : C := by
  obtain ⟨a, b, q⟩ := h
  exact k _ _ q
theorem exE3 {α β γ : Type} {p : α → β → γ → Prop} {C : Prop} (h : ∃ a b c, p a b c) (k : ∀ a b c, p a b c → C) : C := by
  obtain ⟨a, b, c, q⟩ := h
  exact k _ _ _ q
theorem exE4 {α β γ δ : Type} {p : α → β → γ → δ → Prop} {C : Prop} (h : ∃ a b c d, p a b c d) (k : ∀ a b c d, p a b c d → C) : C := by
  obtain ⟨a, b, c, d, q⟩ := h
  exact k _ _ _ _ q
theorem exE5 {α β γ δ ε : Type} {p : α → β → γ → δ → ε → Prop} {C : Prop} (h : ∃ a b c d e, p a b c d e) (k : ∀ a b c d e, p a b c d e → C) : C := by
  obtain ⟨a, b, c, d, e, q⟩ := h
  exact k _ _ _ _ _ q
theorem exE6 {α β γ δ ε ζ : Type} {p : α → β → γ → δ → ε → ζ → Prop} {C : Prop} (h : ∃ a b c d e f, p a b c d e f) (k : ∀ a b c d e f, p a b c d e f → C) : C := by
  obtain ⟨a, b, c, d, e, f, q⟩ := h
  exact k _ _ _ _ _ _ q
theorem exE7 {α β γ δ ε ζ η : Type} {p : α → β → γ → δ → ε → ζ → η → Prop} {C : Prop} (h : ∃ a b c d e f g, p a b c d e f g) (k : ∀ a b c d e f g, p a b c d e f g → C) : C := by
  obtain ⟨a, b, c, d, e, f, g, q⟩ := h
  exact k _ _ _ _ _ _ _ q
theorem exE8 {α β γ δ ε ζ η θ : Type} {p : α → β → γ → δ → ε → ζ → η → θ → Prop} {C : Prop} (h : ∃ a b c d e f g i, p a b c d e f g i) (k : ∀ a b c d e f g i, p a b c d e f g i → C) : C := by
  obtain ⟨a, b, c, d, e, f, g, i, q⟩ := h
  exact k _ _ _ _ _ _ _ _ q
theorem exI9 {α β γ δ ε ζ η θ κ : Type} {p : α → β → γ → δ → ε → ζ → η → θ → κ → Prop} (a : α) (b : β) (c : γ) (d : δ) (e : ε) (f : ζ) (g : η) (i : θ) (j : κ) (h : p a b c d e f g i j) : ∃ a1 b1 c1 d1 e1 f1 g1 i1 j1, p a1 b1 c1 d1 e1 f1 g1 i1 j1 := ⟨a, b, c, d, e, f, g, i, j, h⟩
theorem exE9 {α β γ δ ε ζ η θ κ : Type} {p : α → β → γ → δ → ε → ζ → η → θ → κ → Prop} {C : Prop} (h : ∃ a b c d e f g i j, p a b c d e f g i j) (k : ∀ a b c d e f g i j, p a b c d e f g i j → C) : C := by
  obtain ⟨a, b, c, d, e, f, g, i, j, q⟩ := h
  exact k _ _ _ _ _ _ _ _ _ q
/-- the continuation is named: the proof stays short -/
theorem letQ {α : Type} {M : Model} {c : Sem α} {Q : α → Shared → Prop} (h : let Q' := Q; wpAny M A c Q' E s) : wpAny M A c Q E s := h

theorem Nx.congr {B₀ : Heap} {it : Addr} {St : Nat → Own} {Mid : Nat → Value → Own} {n : Nat} {V V' : Heap → Nat → Value → Prop} {target : Expr} (N : Nx prog w B₀ it St Mid n V target) (hv : ∀ B i v, V B i v ↔ V' B i v) : Nx prog w B₀ it St Mid n V' target where
  item := fun hh k F hi h => N.item hh k F hi fun v s' B' kb q => h v s' B' kb ((hv _ _ _).mp q)
  lets := fun k F q h => N.lets k F ((hv _ _ _).mpr q) h
  done := fun hh hn k F h => N.done hh hn k F h
  self := fun k F h => N.self k F h
theorem nxRange0 {target : Expr} {it : Addr} {B₀ : Heap} (n : Nat) :
    Nx prog w B₀ it (fun i => [(it, RItP (0 + i) (n - i) 1)]) (fun i _ => [(it, RItP (0 + (i + 1 : Nat)) (n - (i + 1 : Nat)) 1)]) n (fun _ i v => ∃ t, v = .int (i : Int) t) target :=
  (nxRange 0 n).congr fun B i v => by rw [Int.zero_add]
theorem iRng0 {r : Addr} {k : Int} {n : Nat} {Q : Value → Shared → Prop} (F : Fs e G B L m U s) (hr : Is B r (RngP 0 k)) (hk : k = (n : Int)) (hz : n ≤ 1000000)
    (h : ∀ s' it, e.s.heap.get? it = none → Fs e G B L m ((it, RItP (0 + ((0 : Nat) : Int)) ((n : Int) - ((0 : Nat) : Int)) 1) :: U) s' → Q (.ref it) s') : wpAny (model prog w) A (pyIter (.ref r)) Q E s := by
  refine iRng F hr (by lia) (by lia) (by lia) (by lia) fun s' it hit F' => h s' it hit ?_
  have e1 : (k - 0).toNat = n := by lia
  rw [e1] at F'; exact F'
section
variable {a b c d x : Addr × (Obj → Prop)}
theorem Fs.f3 (F : Fs e G B L m (a :: b :: c :: U) s) : Fs e G B L m (c :: a :: b :: U) s := F.perm (List.perm_middle (l₁ := [a, b]))
theorem Fs.f4 (F : Fs e G B L m (a :: b :: c :: d :: U) s) : Fs e G B L m (d :: a :: b :: c :: U) s := F.perm (List.perm_middle (l₁ := [a, b, c]))
theorem Fs.f5 (F : Fs e G B L m (a :: b :: c :: d :: x :: U) s) : Fs e G B L m (x :: a :: b :: c :: d :: U) s := F.perm (List.perm_middle (l₁ := [a, b, c, d]))
theorem Fs.b3 (F : Fs e G B L m (c :: a :: b :: U) s) : Fs e G B L m (a :: b :: c :: U) s := F.perm (List.perm_middle (l₁ := [a, b])).symm
theorem Fs.b4 (F : Fs e G B L m (d :: a :: b :: c :: U) s) : Fs e G B L m (a :: b :: c :: d :: U) s := F.perm (List.perm_middle (l₁ := [a, b, c])).symm
theorem Fs.b5 (F : Fs e G B L m (x :: a :: b :: c :: d :: U) s) : Fs e G B L m (a :: b :: c :: d :: x :: U) s := F.perm (List.perm_middle (l₁ := [a, b, c, d])).symm
end
theorem mAppend {D : Addr} {ys : List Value} {pos : Pos} {a : Expr} {as : List Expr} {pl : Sem Bool} {Q : Value → Shared → Prop} (hl : Is s.heap D (LstP ys))
    (h : wpAny (model prog w) A (spliced (backTo pos (starEach (a :: as) env))) (fun vs s₁ => wpAny (model prog w) A (call (.builtin "list.append") (.ref D :: vs)) Q E s₁) E s)
    (hst : starEach (a :: as) env = (false, eval a env) :: starEach as env := by rfl) (hplain : (backTo pos (starEach as env)).any (·.1) = false := by rfl) :
    wpAny (model prog w) A (getMethod (.ref D) "append" pl) (fun fx s₂ => wpAny (model prog w) A (callWith pos fx.1 fx.2 (backTo pos (starEach (a :: as) env)) []) Q E s₂) E s := by
  obtain ⟨n, ho⟩ := lst_plain hl
  exact getMethod_list_append ho rfl rfl (callWith_method1 h hst hplain)

theorem range_succ_flatMap {α : Type} (f : Nat → List α) (i : Nat) : (List.range (i + 1)).flatMap f = (List.range i).flatMap f ++ f i := by
  rw [List.range_succ, List.flatMap_append]; simp
theorem range_succ_map {α : Type} (f : Nat → α) (i : Nat) : (List.range (i + 1)).map f = (List.range i).map f ++ [f i] := by
  rw [List.range_succ, List.map_append]; simp
end
end
section
noncomputable def valK (xs : Ents) (k : List Int) : Option Value := (atKey xs k).map (·.2)
theorem atKey_cons (x : List Int × Addr × Value) (xs : Ents) (k : List Int) : atKey (x :: xs) k = if x.1 = k then some x.2 else atKey xs k := by
  unfold atKey; rw [List.find?_cons]
  by_cases h : x.1 = k <;> simp [h]
theorem atKey_isSome {xs : Ents} {k : List Int} : (atKey xs k).isSome = true ↔ k ∈ xs.map (·.1) := by
  induction xs with
  | nil => simp [atKey]
  | cons x xs ih =>
    rw [atKey_cons, List.map_cons, List.mem_cons]
    by_cases h : x.1 = k
    · simp [h]
    · rw [if_neg h, ih]
      constructor
      · exact .inr
      · rintro (e | e)
        · exact absurd e.symm h
        · exact e
theorem valK_isSome {xs : Ents} {k : List Int} : (valK xs k).isSome = true ↔ k ∈ xs.map (·.1) := by
  unfold valK; rw [Option.isSome_map]; exact atKey_isSome
theorem atKey_app (xs : Ents) (k' : List Int) (a : Addr) (v : Value) (k : List Int) (h : atKey xs k' = none) : atKey (xs ++ [(k', a, v)]) k = if k' = k then some (a, v) else atKey xs k := by
  induction xs with
  | nil => rw [List.nil_append, atKey_cons]
  | cons x xs ih =>
    rw [atKey_cons] at h
    by_cases h1 : x.1 = k'
    · rw [if_pos h1] at h; cases h
    · rw [if_neg h1] at h
      rw [List.cons_append, atKey_cons, atKey_cons, ih h]
      by_cases h2 : x.1 = k
      · rw [if_pos h2, if_neg (fun e => h1 (h2.trans e.symm)), if_pos h2]
      · rw [if_neg h2, if_neg h2]
theorem atKey_put (xs : Ents) (k' : List Int) (v : Value) (k : List Int) : valK (xs.map (putAt k' v)) k = if k' = k ∧ (atKey xs k).isSome then some v else valK xs k := by
  unfold valK
  induction xs with
  | nil => simp [atKey]
  | cons x xs ih =>
    rw [List.map_cons, atKey_cons, atKey_cons]
    unfold putAt
    by_cases h1 : x.1 = k'
    · rw [if_pos h1]
      by_cases h2 : x.1 = k
      · rw [if_pos h2, if_pos h2]
        rw [if_pos ⟨h1.symm.trans h2, rfl⟩]; rfl
      · rw [if_neg h2, if_neg h2]
        show Option.map _ (atKey (xs.map (putAt k' v)) k) = _
        rw [ih]
    · rw [if_neg h1]
      by_cases h2 : x.1 = k
      · rw [if_pos h2, if_pos h2]
        have h3 : ¬ k' = k := fun e => h1 (h2.trans e.symm)
        rw [if_neg (fun z => h3 z.1)]
      · rw [if_neg h2, if_neg h2]
        show Option.map _ (atKey (xs.map (putAt k' v)) k) = _
        rw [ih]
theorem val_stored (xs : Ents) (k' : List Int) (a : Addr) (v : Value) (k : List Int) : valK (storedH xs k' a v) k = if k' = k then some v else valK xs k := by
  cases h : atKey xs k' with
  | none =>
    rw [storedH_new h]
    unfold valK; rw [atKey_app _ _ _ _ _ h]
    by_cases e : k' = k <;> simp [e]
  | some p =>
    rw [storedH_old h, atKey_put]
    by_cases e : k' = k
    · subst e; simp [h]
    · simp [e]
theorem keys_stored (xs : Ents) (k' : List Int) (a : Addr) (v : Value) (k : List Int) : k ∈ (storedH xs k' a v).map (·.1) ↔ k = k' ∨ k ∈ xs.map (·.1) := by
  rw [← valK_isSome, val_stored, ← valK_isSome]
  by_cases e : k' = k
  · simp [e]
  · have e2 : ¬ k = k' := fun h => e h.symm
    rw [if_neg e]; simp [e2]
theorem len_stored (xs : Ents) (k' : List Int) (a : Addr) (v : Value) : (storedH xs k' a v).length ≤ xs.length + 1 := by
  cases h : atKey xs k' with
  | none => rw [storedH_new h]; simp
  | some p => rw [storedH_old h]; simp

section
variable {prog : Program} {w : World}
theorem KeysAt.stored {B : Heap} {xs : Ents} {k : List Int} {a : Addr} {v : Value} (x : KeysAt prog w B xs) (hk : TupAt prog w B a k) : KeysAt prog w B (storedH xs k a v) := by
  intro p hp
  cases h : atKey xs k with
  | none =>
    rw [storedH_new h] at hp
    rcases List.mem_append.mp hp with hp | hp
    · exact x p hp
    · rcases List.mem_singleton.mp hp with rfl; exact hk
  | some q =>
    rw [storedH_old h] at hp
    obtain ⟨y, hy, rfl⟩ := List.mem_map.mp hp
    unfold putAt
    split
    · exact x y hy
    · exact x y hy
theorem DicP.nodup {o : Obj} {xs : Ents} (x : DicP prog w xs o) : (xs.map (·.1)).Nodup := x.2.1
end

section
variable {prog : Program} {w : World} {A : Around} {E : Value → Shared → Prop} {s : Shared} {e : En} {G : Array GenState} {B : Heap} {L : Addr} {m : Str → Option Value} {U : Own} {env : Env}

theorem sDic {D t : Addr} {xs : Ents} {k : List Int} {v : Value} {Q : Unit → Shared → Prop} (F : Fs e G B L m ((D, DicP prog w xs) :: U) s) (hu : A.units + 20 < cLine) (K : KeysAt prog w B xs) (hk : TupAt prog w B t k) (hz : xs.length ≤ 100000)
    (h : ∀ s', Fs e G B L m ((D, DicP prog w (storedH xs k t v)) :: U) s' → Q () s') : wpAny (model prog w) A (setItem (.ref D) (.ref t) v) Q E s := by
  have hm := dic_of F.top (K.mono F.kp)
  refine wpAny_setItem_heap (knd := tk prog w) (show A.units + 1 < cLine by lia) (hk.mono F.kp) hm (fun h' hm' hs' => ?_) (by rw [sizeLine_eq]; lia)
  exact h _ (F.upd (h' := h') hs'.extBut (dic_to hm') _)
theorem gDic {value slice : Expr} {D t : Addr} {xs : Ents} {k : List Int} {v : Value} {Q : Value → Shared → Prop} (F : Fs e G B L m U s) (hd : Is s.heap D (DicP prog w xs)) (hu : A.units + 20 < cLine) (K : KeysAt prog w B xs) (hk : TupAt prog w B t k)
    (hv : valK xs k = some v) (h : ∀ s', Fs e G B L m U s' → Q v s')
    (hs : subscripted slice false (.ref D) (.ref t) = operate [.ref D, .ref t] (getItem (.ref D) (.ref t)) := by with_unfolding_all rfl) : wpAny (model prog w) A (subscriptTail value slice (.ref D) (.ref t)) Q E s := by
  have hm := dic_of hd (K.mono F.kp)
  obtain ⟨p, hp, rfl⟩ := Option.map_eq_some_iff.mp hv
  exact tail_any hm.typeIs slot_dict_getitem.lookup (wpAny_getItem_heap (knd := tk prog w) (show A.units + 1 < cLine by lia) (hk.mono F.kp) hm hp (h _ (F.tk _))) hs
theorem inDic {D t : Addr} {xs : Ents} {k : List Int} {Q : Value → Shared → Prop} (F : Fs e G B L m U s) (hd : Is s.heap D (DicP prog w xs)) (hns : (D == sysModules) = false) (hu : A.units + 20 < cLine) (K : KeysAt prog w B xs) (hk : TupAt prog w B t k)
    (h : ∀ s', Fs e G B L m U s' → Q (.bool (valK xs k).isSome) s') : wpAny (model prog w) A (compareOp .In (.ref t) (.ref D)) Q E s := by
  have hm := dic_of hd (K.mono F.kp)
  refine wpAny_in_heap (knd := tk prog w) (show A.units + 1 < cLine by lia) (hk.mono F.kp) hns hm ?_
  have := h _ (F.tk (s.toks + (tk prog w).draws k))
  unfold valK at this; rw [Option.isSome_map] at this; exact this
theorem ninDic {D t : Addr} {xs : Ents} {k : List Int} {Q : Value → Shared → Prop} (F : Fs e G B L m U s) (hd : Is s.heap D (DicP prog w xs)) (hns : (D == sysModules) = false) (hu : A.units + 20 < cLine) (K : KeysAt prog w B xs) (hk : TupAt prog w B t k)
    (h : ∀ s', Fs e G B L m U s' → Q (.bool (!(valK xs k).isSome)) s') : wpAny (model prog w) A (compareOp .NotIn (.ref t) (.ref D)) Q E s := by
  have hm := dic_of hd (K.mono F.kp)
  refine wpAny_notIn_heap (knd := tk prog w) (show A.units + 1 < cLine by lia) (hk.mono F.kp) hns hm ?_
  have := h _ (F.tk (s.toks + (tk prog w).draws k))
  unfold valK at this; rw [Option.isSome_map] at this; exact this

/-- what the caller had and may not be changed -/
theorem Fs.old {a : Addr} {P : Obj → Prop} (F : Fs e G B L m U s) (x : Is e.s.heap a P) (hS : e.S = [] := by rfl) : Is s.heap a P :=
  let ⟨o, h1, h2⟩ := x; ⟨o, F.rn.hk a o (by rw [hS]; exact nofun) h1, h2⟩

theorem test_lastE {pos : Pos} {a : Value} {op : CmpOp} {r : Sem Value} {rs : List (Sem Value)} {Q : Bool → Shared → Prop} (hr : rs = [])
    (h : wpAny (model prog w) A r (fun b s₁ => wpAny (model prog w) A (compareOp op a b) (fun c s₂ => wpAny (model prog w) A (truthy c) Q E s₂) E s₁) E s) : wpAny (model prog w) A (testChain pos a [op] (r :: rs)) Q E s := by
  subst hr; exact test_last h
end
end
set_option hygiene false in
local macro_rules | `(tactic| walk_at "lq") => `(tactic| ((with_reducible refine letQ ?_); intro Qk))
set_option hygiene false in
local macro_rules | `(tactic| walk_at "at") => `(tactic| first | exact F.nth 0 rfl | exact F.nth 1 rfl | exact F.nth 2 rfl | exact F.nth 3 rfl | exact F.nth 4 rfl | exact F.nth 5 rfl | exact F.nth 6 rfl | exact F.nth 7 rfl | exact F.nth 8 rfl | exact F.nth 9 rfl | exact F.nth 10 rfl | exact F.nth 11 rfl | exact F.nth 12 rfl | exact F.nth 13 rfl | exact F.nth 14 rfl | exact F.nth 15 rfl | exact F.nth 16 rfl)
set_option hygiene false in
local macro_rules | `(tactic| walk_at "su") => `(tactic| ((with_reducible refine nameU F ?_); clear F; intro Uk F))
set_option hygiene false in
local macro_rules | `(tactic| walk_at "enter") => `(tactic| ((case ho => k_is); (case hcd => k_is); (case hb => rfl); (case hl => exact locs rfl); (case c1 => decide); (case c2 => rfl); (case c3 => rfl); (case c4 => rfl)))
set_option hygiene false in
local macro_rules | `(tactic| walk_at "ok") => `(tactic| case zok => first | exact okFrame w | exact okComponent w | exact okGrid w | exact okScan w)
set_option hygiene false in
local macro_rules | `(tactic| walk_at "lift") => `(tactic| ((replace gd := gd.mono k); (try replace I := InstB.mono I k); (try replace hl := Is.keeps hl k); (try replace hc := CompsB.mono hc k); (try replace fr := FrB.mono fr k); (try replace J := InstB.mono J k); (try replace jl := Is.keeps jl k); (try replace sc := ScB.mono sc k); (try replace hcell := Is.keeps hcell k); (try replace hzl := Is.keeps hzl k); (try replace hzt := TupsAre.mono hzt k)))
set_option hygiene false in
local macro_rules | `(tactic| walk_at "tup") => `(tactic| ((with_reducible refine' nTup F ?_ ?zhz); (case zhz => exact Nat.le_of_ble_eq_true rfl); clear F; intro s' B' t' k ht F; walk_at "lift"))
/-! on, as far as the rules go; «gx»: without making or opening tuples; «to»: up to the next statement -/
set_option hygiene false in
local macro_rules | `(tactic| walk_at "go") => `(tactic| repeat (first | ((with_reducible refine wpAny_execs_cons ?_); (fail_if_success (have h9 := noStm)); walk_at "lq") | ((with_reducible refine' eLoc F ?zhv ?_ ?zhL ?zhc); (case zhv => first | rfl | assumption); (case zhL => rfl); (case zhc => rfl)) | ((with_reducible first | refine eInt F ?_ | refine eStr F ?_); clear F; intro s' t' F) | ((with_reducible refine' sLoc F ?_ ?zhL ?zhc); (case zhL => rfl); (case zhc => rfl); clear F; intro mk s' F) | ((with_reducible first | refine' isTrue_chain ?_ ?z1 | refine' test_lastE ?z1 ?_ | refine' spMore ?_ ?z1 | refine' MethodCall_ ?_ ?z1); (case z1 => with_unfolding_all rfl); walk_at "lq") | ((with_reducible first | refine wpAny_BinOp ?_ | refine Subscript_ ?_ | refine wpAny_Return_some ?_ | refine wpAny_IfExp ?_ | refine wpAny_If ?_ | refine wpAny_UnaryOp ?_ | refine test_link ?_ | refine isTrue_not ?_ | refine isTrue_and ?_ | refine isTrue_or ?_ | refine Tuple_ ?_ | refine List_ ?_ | refine TurnG.mk ?_); walk_at "lq") | ((with_reducible first | refine wpAny_Assign_Name ?_ ?_ | refine wpAny_Assign_Subscript ?_ ?_ | refine wpAny_isTrue_Compare1 ?_ ?_ | refine wpAny_Compare1 ?_ ?_ | refine Attribute_any_ ?_ ?_); rotate_left; (· with_unfolding_all rfl); walk_at "lq") | ((with_reducible first | refine bAdd F ?_ | refine bSub F ?_ | refine bNeg F ?_); clear F; intro s' t' F) | ((with_reducible refine bMulL F ?z1 ?_); (case z1 => decide); clear F; intro s' t' F) | ((with_reducible refine bMul F ?z1 ?_); (case z1 => first | decide | exact PySem.intBits_le_64 (by lia) (by lia)); clear F; intro s' t' F) | ((with_reducible refine bDiv F ?z1 ?z2 ?_); (case z1 => lia); (case z2 => lia); clear F; intro s' t' F) | ((with_reducible refine bMod F ?z1 ?_); (case z1 => lia); clear F; intro s' t' F) | (with_reducible first | refine PyProof.Rows.gt_int ?_ | refine PyProof.Rows.lt_int ?_ | refine PyProof.Rows.ge_int ?_ | refine PyProof.Rows.le_int ?_ | refine PyProof.Rows.eq_int ?_) | ((with_reducible first | refine' Assign_Tuple ?_ ?z1 ?z2 | refine' wpAny_Expr ?_ ?z1 ?z2); (case z1 => rfl); (case z2 => rfl); walk_at "lq") | ((with_reducible refine' Assign_Tuple_swapped ?_ ?z2 ?z1); (case z1 => rfl); (case z2 => rfl); walk_at "lq") | ((with_reducible first | refine' assignIO ?z1 ?_ | refine' assignIOn ?z1 ?_ | refine' isTrue_plain ?_ ?z1 | refine' plainObj_wpAny_Assign_Attribute ?_ ?z1); (case z1 => rfl)) | ((with_reducible refine' assignIO2 ?z1 ?z2 ?_); (case z1 => rfl); (case z2 => rfl)) | ((with_reducible refine' aSet F gd ?z1 ?zok ?z2 ?z3 ?z4 ?_); (case z1 => exact F.kp _ _ hx0); walk_at "ok"; (case z2 => k_is); (case z3 => rfl); (case z4 => exact Nat.le_of_ble_eq_true rfl); clear F; intro s' F) | ((with_reducible first | refine CTurn.mk ?_ | refine CTurn2.mk ?_); intro env; walk_at "lq") | (with_reducible refine And.intro (gd.In F) ?_) | ((with_reducible refine' eFree ?zfi ?_ ?zfc ?zfl); (case zfc => rfl); (case zfl => rfl); (case zfi => exact Is.keeps (by assumption) F.kp)) | ((with_reducible refine' eCell ?zfi ?_ ?zfc ?zfl); (case zfc => rfl); (case zfl => rfl); (case zfi => first | exact Is.keeps (by assumption) F.kp | walk_at "at")) | ((with_reducible refine' nTup F ?_ ?zhz); (fail_if_success (have h9 := noTup)); (case zhz => exact Nat.le_of_ble_eq_true rfl); clear F; intro s' B' t' k ht F; walk_at "lift") | ((with_reducible refine' cGlob F gd ?zhe ?zhk ?_ ?zc ?zs); (case zhe => k_is); (case zhk => k_is); (case zc => rfl); (case zs => rfl)) | ((with_reducible refine' cBoot F gd ?zhe ?zhv ?_ ?zc ?zs); (case zhv => first | exact bt_max | exact bt_len | exact bt_min | exact bt_sum | exact bt_abs | exact bt_sorted); (case zhe => k_is); (case zc => rfl); (case zs => rfl)) | ((with_reducible refine' cType F gd ?zhe ?zhv ?_ ?zc ?zs); (case zhv => first | exact bt_range | exact bt_list | exact bt_dict | exact bt_int | exact bt_enumerate); (case zhe => k_is); (case zc => rfl); (case zs => rfl)) | ((with_reducible refine' gOwn F ?zh0 ?zh63 ?zhx ?_ ?zhs); (case zh0 => decide); (case zh63 => decide); (case zhx => rfl); (case zhs => with_unfolding_all rfl)) | ((with_reducible refine iOwn F ?zh0 ?zh63 ?zhk ?_); (case zh0 => decide); (case zh63 => decide); (case zhk => exact Nat.le_of_ble_eq_true rfl); clear F; intro s' F) | ((with_reducible refine' uItems F R.hh ?zut ?zun ?_); (fail_if_success (have h9 := noTup)); (case zut => assumption); (case zun => rfl); clear F; intro s' F) | ((with_reducible refine' uTup F R.hh ?zut ?zun ?zus ?_); (fail_if_success (have h9 := noTup)); (case zut => assumption); (case zun => rfl); (case zus => rfl); clear F; intro s' F) | ((with_reducible refine' aGet F gd ?zI ?zok ?zhv ?zha ?zng ?zhh ?_); (case zI => exact InstB.mono (by assumption) F.kp); walk_at "ok"; (case zhv => rfl); (case zha => k_is); (case zng => k_is); (case zhh => rfl); clear F; intro s' F _) | ((with_reducible refine' cMeth0 F gd ?zI ?zok ?zhf ?zht ?zhk ?zhl ?_); (case zI => exact InstB.mono (by assumption) F.kp); walk_at "ok"; (case zhf => k_is); (case zht => k_is); (case zhk => k_is); (case zhl => rfl)) | ((with_reducible refine' cMeth F gd ?zI ?zok ?zhf ?zht ?zhk ?zhl ?_ ?zst ?zpl); (case zI => exact InstB.mono (by assumption) F.kp); walk_at "ok"; (case zhf => k_is); (case zht => k_is); (case zhk => k_is); (case zhl => rfl); (case zst => rfl); (case zpl => rfl)) | (with_reducible first | refine wpAny_execs_nil ?_ | refine wpAny_Return_none ?_ | refine wpAny_truthy_bool ?_ | refine wpAny_Constant_bool ?_ | refine wpAny_Constant_none ?_ | refine isTrue_and_nil ?_ | refine isTrue_or_nil ?_ | refine spliced_none ?_ | refine bindName_ ?_ | refine tests_nil ?_ | refine iteT ?_ | refine iteF ?_ | refine tests_one ?_ | refine assign_Name ?_)))
set_option hygiene false in
local macro_rules | `(tactic| walk_at "gx") => `(tactic| ((have noTup := trivial); walk_at "go"; clear noTup))
set_option hygiene false in
local macro_rules | `(tactic| walk_at "to") => `(tactic| ((have noStm := trivial); walk_at "go"; clear noStm))

section
noncomputable abbrev PR : Program := PySem.Challenge.pw_pf0236_01

set_option maxHeartbeats 1000000 in
theorem partsS {w : World} {A : Around} {E : Value → Shared → Prop} {s : Shared} {B : Heap} {a b : Int} {t1 t2 : Tok} {Q : Value → Shared → Prop}
    (gd : Gd w B) (kB : Kp B s.heap) (rm : Rm A 1) (hn : 0 < b) (hn2 : b < 1000000)
    (h : ∀ s' tk', Rs [] s.gens B s B s' → Q (.int ((a + b - 1) / b) tk') s') :
    wpAny (model PR w) A (call (.ref 94) [.int a t1, .int b t2]) Q E s := by
  refine' enterP (n := 0) (binds := [(Str.ofString "many", .int a t1), (Str.ofString "size", .int b t2)]) [] [] gd kB rm ?ho ?hcd ?hb ?hV ?hd ?hl ?h ?c1 ?c2 ?c3 ?c4
  walk_at "enter"
  case hV => intro p hp; exact nomatch hp
  case hd => exact .nil
  case h =>
  intro L s1 E' A' m0 F R env Qr
  walk_at "go"
  exact h _ _ F.rs

/-! the classes -/
noncomputable def compL (v1 v2 : Value) (p : Int × Int) (t1 t2 : Tok) : List (Str × Value) := [("quant", v1), ("down", .int p.2 t2), ("across", .int p.1 t1), ("ident", v2)]
noncomputable def CompB (B : Heap) (c : Addr) (p : Int × Int) : Prop := ∃ v1 v2 t1 t2, InstB B c 111 (compL v1 v2 p t1 t2)
noncomputable def CompsB (B : Heap) (cs : List Value) (sm : List (Int × Int)) : Prop := cs.length = sm.length ∧ ∀ (i : Nat) (p : Int × Int), sm[i]? = some p → ∃ c, cs[i]? = some (Value.ref c) ∧ CompB B c p
structure FrD where
  sm : List (Int × Int)
  width : Int
  height : Int
noncomputable def frL (d : FrD) (cl : Addr) (t1 t2 t3 : Tok) (v1 v2 : Value) : List (Str × Value) := [("n", .int 2 t1), ("components", .ref cl), ("width", .int d.width t2), ("height", .int d.height t3), ("precision", v1), ("kind", v2)]
noncomputable def FrB (B : Heap) (x : Addr) (d : FrD) : Prop := ∃ cl t1 t2 t3 v1 v2 cs, InstB B x 177 (frL d cl t1 t2 t3 v1 v2) ∧ Is B cl (LstP cs) ∧ CompsB B cs d.sm
theorem CompsB.getE {B : Heap} {cs : List Value} {sm : List (Int × Int)} {i : Nat} {p : Int × Int} (h : CompsB B cs sm) (e : sm[i]? = some p) {C : Prop} (k : ∀ c, cs[i]? = some (Value.ref c) → ∀ v1 v2 t1 t2, InstB B c 111 (compL v1 v2 p t1 t2) → C) : C :=
  (h.2 i p e).elim fun c q => ea4_1 q.2 (k c q.1)
theorem FrB.elim {B : Heap} {x : Addr} {d : FrD} (h : FrB B x d) {C : Prop} (k : ∀ cl t1 t2 t3 v1 v2 cs, InstB B x 177 (frL d cl t1 t2 t3 v1 v2) → Is B cl (LstP cs) → CompsB B cs d.sm → C) : C := ea7_3 h k
theorem CompB.mono {B h : Heap} {c : Addr} {p : Int × Int} (x : CompB B c p) (k : Kp B h) : CompB h c p := let ⟨a, b, c', d, i⟩ := x; ⟨a, b, c', d, i.mono k⟩
theorem CompsB.mono {B h : Heap} {cs : List Value} {sm : List (Int × Int)} (x : CompsB B cs sm) (k : Kp B h) : CompsB h cs sm := ⟨x.1, fun i p hp => (x.2 i p hp).imp fun _ z => ⟨z.1, z.2.mono k⟩⟩
theorem FrB.mono {B h : Heap} {c : Addr} {p : FrD} (x : FrB B c p) (k : Kp B h) : FrB h c p := exE7 x fun a b c' d e f g q => exI7 a b c' d e f g ⟨q.1.mono k, q.2.1.keeps k, q.2.2.mono k⟩

/-- the largest -/
noncomputable def mx (ns : List Int) : Int := ns.foldl max 0
theorem mx_ge : ∀ (ns : List Int) (a : Int), a ≤ ns.foldl max a ∧ ∀ x ∈ ns, x ≤ ns.foldl max a
  | [], a => ⟨Int.le_refl _, fun _ h => nomatch h⟩
  | y :: r, a => by
    have ⟨h1, h2⟩ := mx_ge r (max a y)
    refine ⟨by show a ≤ r.foldl max (max a y); lia, fun x hx => ?_⟩
    rcases List.mem_cons.mp hx with rfl | hx
    · show x ≤ r.foldl max (max a x); lia
    · exact h2 x hx
theorem mx_mem : ∀ (ns : List Int) (a : Int), ns.foldl max a = a ∨ ns.foldl max a ∈ ns
  | [], a => .inl rfl
  | y :: r, a => by
    show r.foldl max (max a y) = a ∨ r.foldl max (max a y) ∈ y :: r
    rcases mx_mem r (max a y) with h | h
    · rw [h]
      by_cases c : a ≤ y
      · right; rw [show max a y = y by lia]; exact .head _
      · left; lia
    · right; exact .tail _ h
theorem mx_of {ns : List Int} {M : Int} (h1 : M ∈ ns) (h2 : ∀ a ∈ ns, a ≤ M) (h3 : 0 < M) : M = mx ns := by
  have ⟨a, b⟩ := mx_ge ns 0
  have c := b M h1
  have d := mx_mem ns 0
  unfold mx at *
  rcases d with d | d
  · lia
  · have := h2 _ d; lia

noncomputable def FrD.mA (d : FrD) : Int := mx (d.sm.map (·.1))
noncomputable def FrD.mD (d : FrD) : Int := mx (d.sm.map (·.2))
/-- samplings as they come -/
structure FrD.Ok (d : FrD) : Prop where
  ne : 0 < d.sm.length
  le : d.sm.length ≤ 3
  bd : ∀ p ∈ d.sm, 1 ≤ p.1 ∧ p.1 ≤ 2 ∧ 1 ≤ p.2 ∧ p.2 ≤ 2
end
section
set_option maxHeartbeats 1000000 in
theorem mostAcrossS {w : World} {A : Around} {E : Value → Shared → Prop} {s : Shared} {B : Heap} {x : Addr} {d : FrD} {Q : Value → Shared → Prop}
    (gd : Gd w B) (kB : Kp B s.heap) (rm : Rm A 2) (fr : FrB B x d) (ok : d.Ok)
    (h : ∀ s' B' tk', Kp B B' → Rs [] s.gens B s B' s' → Q (.int d.mA tk') s') :
    wpAny (model PR w) A (call (.ref 134) [.ref x]) Q E s := by
  refine FrB.elim fr ?_; rintro cl t1 t2 t3 v1 v2 cs I hl hc
  refine' enterP (n := 1) (binds := [(Str.ofString "self", .ref x)]) [] [] gd kB rm ?ho ?hcd ?hb ?hV ?hd ?hl ?h ?c1 ?c2 ?c3 ?c4
  walk_at "enter"
  case hV => intro p hp; exact nomatch hp
  case hd => exact .nil
  case h =>
  intro L s1 E' A' m0 F R env Qr
  walk_at "go"
  refine listComp1 (cl := []) F R.hh ?_ F.lg rfl (by decide) rfl (by decide) (fun _ => rfl)
  walk_at "go"
  refine iLst F (hl.keeps F.kp) ?_
  intro s3 it hit F
  refine CompTodo.mk (B2 := B) (B₀ := B) it (nxList (lst_is hl)) (.refl _) ?_ F (fun i B' ys U' => U' = [] ∧ IntsAre ys ((d.sm.map Prod.fst).take i)) ⟨rfl, .nil⟩ ?_
  · intro i p hp
    rcases List.mem_singleton.mp hp with rfl; exact hit
  intro Iv
  refine ⟨fun _ _ _ _ _ h _ => h, ?_, ?_⟩
  · rintro C D i v B' m' ys U' s4 E4 hC hi kb ⟨rfl, hys⟩ hv F
    walk_at "su"
    have hi' : i < d.sm.length := by rw [← hc.1]; exact hi
    refine CompsB.getE hc (List.getElem?_eq_getElem hi') ?_; rintro c hc1 w1 w2 w3 w4 hc2
    rw [hc1] at hv
    cases hv
    replace gd := gd.mono kb
    replace hc2 := hc2.mono kb
    walk_at "go"
    have e1 : (d.sm.map Prod.fst).take (i + 1) = (d.sm.map Prod.fst).take i ++ [d.sm[i].1] := by
      rw [List.take_add_one]; simp [hi']
    refine ⟨by have := hys.length; simp at this; have := ok.le; lia, B', _, [], kb, F, rfl, ?_⟩
    rw [e1]
    exact intsApp hys (.cons _ _ .nil)
  · rintro B' ys U' kb ⟨rfl, hys⟩ D s5 hD F
    walk_at "su"
    replace gd := gd.mono kb
    have e1 : (d.sm.map Prod.fst).take cs.length = d.sm.map Prod.fst := by
      exact List.take_of_length_le (by rw [List.length_map, hc.1]; exact Nat.le_refl _)
    rw [e1] at hys
    walk_at "go"
    refine bMaxL F R.hh F.top hys (by have := ok.ne; simpa using this) ?_
    clear F; intro s6 M t F h1 h2
    have h3 : 0 < M := by
      obtain ⟨p, hp, rfl⟩ := List.mem_map.mp h1
      have := ok.bd p hp; lia
    obtain rfl : M = d.mA := mx_of h1 h2 h3
    exact h _ _ _ kb F.rs
set_option maxHeartbeats 1000000 in
theorem mostDownS {w : World} {A : Around} {E : Value → Shared → Prop} {s : Shared} {B : Heap} {x : Addr} {d : FrD} {Q : Value → Shared → Prop}
    (gd : Gd w B) (kB : Kp B s.heap) (rm : Rm A 2) (fr : FrB B x d) (ok : d.Ok)
    (h : ∀ s' B' tk', Kp B B' → Rs [] s.gens B s B' s' → Q (.int d.mD tk') s') :
    wpAny (model PR w) A (call (.ref 139) [.ref x]) Q E s := by
  refine FrB.elim fr ?_; rintro cl t1 t2 t3 v1 v2 cs I hl hc
  refine' enterP (n := 1) (binds := [(Str.ofString "self", .ref x)]) [] [] gd kB rm ?ho ?hcd ?hb ?hV ?hd ?hl ?h ?c1 ?c2 ?c3 ?c4
  walk_at "enter"
  case hV => intro p hp; exact nomatch hp
  case hd => exact .nil
  case h =>
  intro L s1 E' A' m0 F R env Qr
  walk_at "go"
  refine listComp1 (cl := []) F R.hh ?_ F.lg rfl (by decide) rfl (by decide) (fun _ => rfl)
  walk_at "go"
  refine iLst F (hl.keeps F.kp) ?_
  intro s3 it hit F
  refine CompTodo.mk (B2 := B) (B₀ := B) it (nxList (lst_is hl)) (.refl _) ?_ F (fun i B' ys U' => U' = [] ∧ IntsAre ys ((d.sm.map Prod.snd).take i)) ⟨rfl, .nil⟩ ?_
  · intro i p hp
    rcases List.mem_singleton.mp hp with rfl; exact hit
  intro Iv
  refine ⟨fun _ _ _ _ _ h _ => h, ?_, ?_⟩
  · rintro C D i v B' m' ys U' s4 E4 hC hi kb ⟨rfl, hys⟩ hv F
    walk_at "su"
    have hi' : i < d.sm.length := by rw [← hc.1]; exact hi
    refine CompsB.getE hc (List.getElem?_eq_getElem hi') ?_; rintro c hc1 w1 w2 w3 w4 hc2
    rw [hc1] at hv
    cases hv
    replace gd := gd.mono kb
    replace hc2 := hc2.mono kb
    walk_at "go"
    have e1 : (d.sm.map Prod.snd).take (i + 1) = (d.sm.map Prod.snd).take i ++ [d.sm[i].2] := by
      rw [List.take_add_one]; simp [hi']
    refine ⟨by have := hys.length; simp at this; have := ok.le; lia, B', _, [], kb, F, rfl, ?_⟩
    rw [e1]
    exact intsApp hys (.cons _ _ .nil)
  · rintro B' ys U' kb ⟨rfl, hys⟩ D s5 hD F
    walk_at "su"
    replace gd := gd.mono kb
    have e1 : (d.sm.map Prod.snd).take cs.length = d.sm.map Prod.snd := by
      exact List.take_of_length_le (by rw [List.length_map, hc.1]; exact Nat.le_refl _)
    rw [e1] at hys
    walk_at "go"
    refine bMaxL F R.hh F.top hys (by have := ok.ne; simpa using this) ?_
    clear F; intro s6 M t F h1 h2
    have h3 : 0 < M := by
      obtain ⟨p, hp, rfl⟩ := List.mem_map.mp h1
      have := ok.bd p hp; lia
    obtain rfl : M = d.mD := mx_of h1 h2 h3
    exact h _ _ _ kb F.rs
end
section
theorem FrD.Ok.mA {d : FrD} (ok : d.Ok) : 1 ≤ d.mA ∧ d.mA ≤ 2 := by
  have ⟨h1, h2⟩ := mx_ge (d.sm.map (·.1)) 0
  have h3 := mx_mem (d.sm.map (·.1)) 0
  have h4 := List.getElem_mem (l := d.sm) (n := 0) ok.ne
  have h5 := ok.bd _ h4
  have h6 := h2 _ (List.mem_map_of_mem h4)
  show 1 ≤ List.foldl max 0 (d.sm.map (·.1)) ∧ List.foldl max 0 (d.sm.map (·.1)) ≤ 2
  rcases h3 with h3 | h3
  · lia
  · obtain ⟨p, hp, e⟩ := List.mem_map.mp h3
    have := ok.bd p hp
    rw [← e]; lia
theorem FrD.Ok.mD {d : FrD} (ok : d.Ok) : 1 ≤ d.mD ∧ d.mD ≤ 2 := by
  have ⟨h1, h2⟩ := mx_ge (d.sm.map (·.2)) 0
  have h3 := mx_mem (d.sm.map (·.2)) 0
  have h4 := List.getElem_mem (l := d.sm) (n := 0) ok.ne
  have h5 := ok.bd _ h4
  have h6 := h2 _ (List.mem_map_of_mem h4)
  show 1 ≤ List.foldl max 0 (d.sm.map (·.2)) ∧ List.foldl max 0 (d.sm.map (·.2)) ≤ 2
  rcases h3 with h3 | h3
  · lia
  · obtain ⟨p, hp, e⟩ := List.mem_map.mp h3
    have := ok.bd p hp
    rw [← e]; lia
noncomputable def FrD.wA (d : FrD) : Int := (d.width + 2 * d.mA - 1) / (2 * d.mA)
noncomputable def FrD.wD (d : FrD) : Int := (d.height + 2 * d.mD - 1) / (2 * d.mD)

set_option maxHeartbeats 1000000 in
theorem mcusAcrossS {w : World} {A : Around} {E : Value → Shared → Prop} {s : Shared} {B : Heap} {x : Addr} {d : FrD} {Q : Value → Shared → Prop}
    (gd : Gd w B) (kB : Kp B s.heap) (rm : Rm A 3) (fr : FrB B x d) (ok : d.Ok)
    (h : ∀ s' B' tk', Kp B B' → Rs [] s.gens B s B' s' → Q (.int d.wA tk') s') :
    wpAny (model PR w) A (call (.ref 146) [.ref x]) Q E s := by
  have fr0 := fr
  refine FrB.elim fr0 ?_; rintro cl t1 t2 t3 v1 v2 cs I hl hc
  refine' enterP (n := 2) (binds := [(Str.ofString "self", .ref x)]) [] [] gd kB rm ?ho ?hcd ?hb ?hV ?hd ?hl ?h ?c1 ?c2 ?c3 ?c4
  walk_at "enter"
  case hV => intro p hp; exact nomatch hp
  case hd => exact .nil
  case h =>
  intro L s1 E' A' m0 F R env Qr
  walk_at "go"
  refine mostAcrossS gd F.kp (R.less (by decide)) fr ok ?_
  intro s5 B5 t5 k R1; replace F := F.did R1; walk_at "lift"
  have := ok.mA
  walk_at "go"
  refine partsS gd F.kp (R.less (by decide)) (by lia) (by lia) ?_
  intro s6 t6 R1; replace F := F.did R1
  exact h _ _ _ k F.rs
set_option maxHeartbeats 1000000 in
theorem mcusDownS {w : World} {A : Around} {E : Value → Shared → Prop} {s : Shared} {B : Heap} {x : Addr} {d : FrD} {Q : Value → Shared → Prop}
    (gd : Gd w B) (kB : Kp B s.heap) (rm : Rm A 3) (fr : FrB B x d) (ok : d.Ok)
    (h : ∀ s' B' tk', Kp B B' → Rs [] s.gens B s B' s' → Q (.int d.wD tk') s') :
    wpAny (model PR w) A (call (.ref 153) [.ref x]) Q E s := by
  have fr0 := fr
  refine FrB.elim fr0 ?_; rintro cl t1 t2 t3 v1 v2 cs I hl hc
  refine' enterP (n := 2) (binds := [(Str.ofString "self", .ref x)]) [] [] gd kB rm ?ho ?hcd ?hb ?hV ?hd ?hl ?h ?c1 ?c2 ?c3 ?c4
  walk_at "enter"
  case hV => intro p hp; exact nomatch hp
  case hd => exact .nil
  case h =>
  intro L s1 E' A' m0 F R env Qr
  walk_at "go"
  refine mostDownS gd F.kp (R.less (by decide)) fr ok ?_
  intro s5 B5 t5 k R1; replace F := F.did R1; walk_at "lift"
  have := ok.mD
  walk_at "go"
  refine partsS gd F.kp (R.less (by decide)) (by lia) (by lia) ?_
  intro s6 t6 R1; replace F := F.did R1
  exact h _ _ _ k F.rs

/-- one component's place -/
theorem compAt {B : Heap} {cs : List Value} {sm : List (Int × Int)} {i : Nat} {p : Int × Int} (hc : CompsB B cs sm) (hp : sm[i]? = some p) : ∃ c, cs[(i : Int).toNat]? = some (Value.ref c) ∧ CompB B c p := hc.2 i p hp
theorem compAtE {B : Heap} {cs : List Value} {sm : List (Int × Int)} {i : Nat} {p : Int × Int} (h : CompsB B cs sm) (e : sm[i]? = some p) {C : Prop} (k : ∀ c, cs[(i : Int).toNat]? = some (Value.ref c) → ∀ v1 v2 t1 t2, InstB B c 111 (compL v1 v2 p t1 t2) → C) : C := CompsB.getE h e k

noncomputable def FrD.pA (d : FrD) (p : Int × Int) : Int := (d.width * p.1 + d.mA - 1) / d.mA
noncomputable def FrD.pD (d : FrD) (p : Int × Int) : Int := (d.height * p.2 + d.mD - 1) / d.mD

set_option maxHeartbeats 1000000 in
theorem planeSizeS {w : World} {A : Around} {E : Value → Shared → Prop} {s : Shared} {B : Heap} {x : Addr} {d : FrD} {i : Nat} {ti : Tok} {p : Int × Int} {Q : Value → Shared → Prop}
    (gd : Gd w B) (kB : Kp B s.heap) (rm : Rm A 3) (fr : FrB B x d) (ok : d.Ok) (hp : d.sm[i]? = some p) (hi : i < 3)
    (h : ∀ s' B' t' a b, Kp B B' → Rs [] s.gens B s B' s' → Is B' t' (TupP [.int (d.pA p) a, .int (d.pD p) b]) → Q (.ref t') s') :
    wpAny (model PR w) A (call (.ref 160) [.ref x, .int i ti]) Q E s := by
  have fr0 := fr
  refine FrB.elim fr0 ?_; rintro cl t1 t2 t3 v1 v2 cs I hl hc
  refine compAtE hc hp ?_; rintro c hc1 w1 w2 w3 w4 J
  have hb := ok.bd p (List.mem_of_getElem? hp)
  refine' enterP (n := 2) (binds := [(Str.ofString "self", .ref x), (Str.ofString "place", .int i ti)]) [] [] gd kB rm ?ho ?hcd ?hb ?hV ?hd ?hl ?h ?c1 ?c2 ?c3 ?c4
  walk_at "enter"
  case hV => intro p hp; exact nomatch hp
  case hd => exact .nil
  case h =>
  intro L s1 E' A' m0 F R env Qr
  walk_at "go"
  refine gLst (hl.keeps F.kp) (by lia) (by lia) hc1 ?_
  walk_at "go"
  refine mostAcrossS gd F.kp (R.less (by decide)) fr ok ?_
  intro s5 B5 t5 k R1; replace F := F.did R1; walk_at "lift"
  have := ok.mA
  walk_at "go"
  refine partsS gd F.kp (R.less (by decide)) (by lia) (by lia) ?_
  intro s6 t6 R1; replace F := F.did R1
  walk_at "go"
  refine mostDownS gd F.kp (R.less (by decide)) fr ok ?_
  have k0 := k; clear k
  intro s7 B7 t7 k R1; replace F := F.did R1; walk_at "lift"
  have := ok.mD
  walk_at "go"
  refine partsS gd F.kp (R.less (by decide)) (by lia) (by lia) ?_
  intro s8 t8 R1; replace F := F.did R1
  have k1 := k0.trans k; clear k
  walk_at "go"
  exact h _ _ _ _ _ (k1.trans k) F.rs ht
end
section
noncomputable def FrD.bA (d : FrD) (p : Int × Int) : Int := (d.pA p + 2 - 1) / 2
noncomputable def FrD.bD (d : FrD) (p : Int × Int) : Int := (d.pD p + 2 - 1) / 2

set_option maxHeartbeats 1000000 in
theorem blocksS {w : World} {A : Around} {E : Value → Shared → Prop} {s : Shared} {B : Heap} {x : Addr} {d : FrD} {i : Nat} {ti : Tok} {p : Int × Int} {Q : Value → Shared → Prop}
    (gd : Gd w B) (kB : Kp B s.heap) (rm : Rm A 4) (fr : FrB B x d) (ok : d.Ok) (hp : d.sm[i]? = some p) (hi : i < 3)
    (h : ∀ s' B' t' a b, Kp B B' → Rs [] s.gens B s B' s' → Is B' t' (TupP [.int (d.bA p) a, .int (d.bD p) b]) → Q (.ref t') s') :
    wpAny (model PR w) A (call (.ref 167) [.ref x, .int i ti]) Q E s := by
  have fr0 := fr
  refine FrB.elim fr0 ?_; rintro cl t1 t2 t3 v1 v2 cs I hl hc
  refine' enterP (n := 3) (binds := [(Str.ofString "self", .ref x), (Str.ofString "place", .int i ti)]) [] [] gd kB rm ?ho ?hcd ?hb ?hV ?hd ?hl ?h ?c1 ?c2 ?c3 ?c4
  walk_at "enter"
  case hV => intro p hp; exact nomatch hp
  case hd => exact .nil
  case h =>
  intro L s1 E' A' m0 F R env Qr
  walk_at "go"
  refine planeSizeS gd F.kp (R.less (by decide)) fr ok hp hi ?_
  intro s5 B5 t5 a5 b5 k R1 ht; replace F := F.did R1; walk_at "lift"
  walk_at "go"
  refine partsS gd F.kp (R.less (by decide)) (by lia) (by lia) ?_
  intro s7 t7 R1; replace F := F.did R1
  walk_at "go"
  refine partsS gd F.kp (R.less (by decide)) (by lia) (by lia) ?_
  intro s8 t8 R1; replace F := F.did R1
  have k1 := k; clear k
  walk_at "go"
  exact h _ _ _ _ _ (k1.trans k) F.rs (by assumption)

set_option maxHeartbeats 1000000 in
theorem paddedS {w : World} {A : Around} {E : Value → Shared → Prop} {s : Shared} {B : Heap} {x : Addr} {d : FrD} {i : Nat} {ti : Tok} {p : Int × Int} {Q : Value → Shared → Prop}
    (gd : Gd w B) (kB : Kp B s.heap) (rm : Rm A 4) (fr : FrB B x d) (ok : d.Ok) (hp : d.sm[i]? = some p) (hi : i < 3)
    (h : ∀ s' B' t' a b, Kp B B' → Rs [] s.gens B s B' s' → Is B' t' (TupP [.int (d.wA * p.1) a, .int (d.wD * p.2) b]) → Q (.ref t') s') :
    wpAny (model PR w) A (call (.ref 174) [.ref x, .int i ti]) Q E s := by
  have fr0 := fr
  refine FrB.elim fr0 ?_; rintro cl t1 t2 t3 v1 v2 cs I hl hc
  refine compAtE hc hp ?_; rintro c hc1 w1 w2 w3 w4 J
  have hb := ok.bd p (List.mem_of_getElem? hp)
  refine' enterP (n := 3) (binds := [(Str.ofString "self", .ref x), (Str.ofString "place", .int i ti)]) [] [] gd kB rm ?ho ?hcd ?hb ?hV ?hd ?hl ?h ?c1 ?c2 ?c3 ?c4
  walk_at "enter"
  case hV => intro p hp; exact nomatch hp
  case hd => exact .nil
  case h =>
  intro L s1 E' A' m0 F R env Qr
  walk_at "go"
  refine gLst (hl.keeps F.kp) (by lia) (by lia) hc1 ?_
  walk_at "go"
  refine mcusAcrossS gd F.kp (R.less (by decide)) fr ok ?_
  intro s5 B5 t5 k R1; replace F := F.did R1; walk_at "lift"
  walk_at "go"
  refine mcusDownS gd F.kp (R.less (by decide)) fr ok ?_
  have k0 := k; clear k
  intro s7 B7 t7 k R1; replace F := F.did R1; walk_at "lift"
  have k1 := k0.trans k; clear k
  walk_at "go"
  exact h _ _ _ _ _ (k1.trans k) F.rs (by assumption)

/-! the scan -/
noncomputable def scL (pl : Addr) (v1 v2 v3 v4 v5 v6 : Value) : List (Str × Value) := [("low", v1), ("high", v2), ("end", v3), ("start", v4), ("ac_slots", v5), ("dc_slots", v6), ("places", .ref pl)]
noncomputable def ScB (B : Heap) (x : Addr) (ps : List Int) : Prop := ∃ pl v1 v2 v3 v4 v5 v6 vs, InstB B x 245 (scL pl v1 v2 v3 v4 v5 v6) ∧ Is B pl (LstP vs) ∧ IntsAre vs ps
theorem ScB.elim {B : Heap} {x : Addr} {ps : List Int} (h : ScB B x ps) {C : Prop} (k : ∀ pl v1 v2 v3 v4 v5 v6 vs, InstB B x 245 (scL pl v1 v2 v3 v4 v5 v6) → Is B pl (LstP vs) → IntsAre vs ps → C) : C := ea8_3 h k
theorem ScB.mono {B h : Heap} {x : Addr} {ps : List Int} (i : ScB B x ps) (k : Kp B h) : ScB h x ps := exE8 i fun a b c d e f g j q => exI8 a b c d e f g j ⟨q.1.mono k, q.2.1.keeps k, q.2.2⟩

set_option maxHeartbeats 1000000 in
theorem isAloneS {w : World} {A : Around} {E : Value → Shared → Prop} {s : Shared} {B : Heap} {x : Addr} {ps : List Int} {Q : Value → Shared → Prop}
    (gd : Gd w B) (kB : Kp B s.heap) (rm : Rm A 1) (sc : ScB B x ps) (hz : ps.length ≤ 3)
    (h : ∀ s', Rs [] s.gens B s B s' → Q (.bool ((ps.length : Int) == 1)) s') :
    wpAny (model PR w) A (call (.ref 235) [.ref x]) Q E s := by
  have sc0 := sc
  refine ScB.elim sc0 ?_; rintro pl v1 v2 v3 v4 v5 v6 vs I hl hi
  refine' enterP (n := 0) (binds := [(Str.ofString "self", .ref x)]) [] [] gd kB rm ?ho ?hcd ?hb ?hV ?hd ?hl ?h ?c1 ?c2 ?c3 ?c4
  walk_at "enter"
  case hV => intro p hp; exact nomatch hp
  case hd => exact .nil
  case h =>
  intro L s1 E' A' m0 F R env Qr
  walk_at "go"
  refine bLenL F (hl.keeps F.kp) (by rw [hi.length]; lia) ?_
  clear F; intro s2 t2 F
  walk_at "go"
  rw [hi.length]
  exact h _ F.rs
end
section
noncomputable def psI (ps : List Nat) : List Int := ps.map fun n : Nat => (n : Int)
/-- places as they come -/
structure PsOk (d : FrD) (ps : List Nat) : Prop where
  ne : 0 < ps.length
  le : ps.length ≤ 3
  bd : ∀ c ∈ ps, c < d.sm.length
noncomputable def FrD.at (d : FrD) (c : Nat) : Int × Int := d.sm.getD c (1, 1)
theorem FrD.at_get {d : FrD} {c : Nat} (h : c < d.sm.length) : d.sm[c]? = some (d.at c) := by
  unfold FrD.at; rw [List.getD_eq_getElem?_getD, List.getElem?_eq_getElem h]; rfl
noncomputable def unA (d : FrD) (ps : List Nat) : Int := if ps.length = 1 then d.bA (d.at (ps.getD 0 0)) else d.wA

theorem intsAt {vs : List Value} {ps : List Nat} (h : IntsAre vs (psI ps)) {i : Nat} (hi : i < ps.length) : ∃ t, vs[i]? = some (.int ((ps.getD i 0 : Nat) : Int) t) := by
  refine intsGet h ?_
  unfold psI
  rw [List.getElem?_map, List.getElem?_eq_getElem hi, List.getD_eq_getElem?_getD, List.getElem?_eq_getElem hi]; rfl
theorem getD_mem' {ps : List Nat} {i : Nat} (h : i < ps.length) : ps.getD i 0 ∈ ps := by
  rw [List.getD_eq_getElem?_getD, List.getElem?_eq_getElem h]; exact List.getElem_mem h

set_option maxHeartbeats 1000000 in
theorem unitsAcrossS {w : World} {A : Around} {E : Value → Shared → Prop} {s : Shared} {B : Heap} {x y : Addr} {d : FrD} {ps : List Nat} {Q : Value → Shared → Prop}
    (gd : Gd w B) (kB : Kp B s.heap) (rm : Rm A 5) (fr : FrB B x d) (ok : d.Ok) (sc : ScB B y (psI ps)) (pk : PsOk d ps)
    (h : ∀ s' B' t, Kp B B' → Rs [] s.gens B s B' s' → Q (.int (unA d ps) t) s') :
    wpAny (model PR w) A (call (.ref 28) [.ref x, .ref y]) Q E s := by
  have fr0 := fr
  refine FrB.elim fr0 ?_; rintro cl t1 t2 t3 v1 v2 cs I hl hc
  have sc0 := sc
  refine ScB.elim sc0 ?_; rintro pl w1 w2 w3 w4 w5 w6 vs J jl ji
  have hlen : ((psI ps).length : Int) = ps.length := by simp [psI]
  refine' enterP (n := 4) (binds := [(Str.ofString "frame", .ref x), (Str.ofString "scan", .ref y)]) [] [] gd kB rm ?ho ?hcd ?hb ?hV ?hd ?hl ?h ?c1 ?c2 ?c3 ?c4
  walk_at "enter"
  case hV => intro p hp; exact nomatch hp
  case hd => exact .nil
  case h =>
  intro L s1 E' A' m0 F R env Qr
  walk_at "go"
  refine isAloneS gd F.kp (R.less (by decide)) sc (by have := pk.le; simpa [psI] using this) ?_
  intro s2 R1; replace F := F.did R1
  walk_at "go"
  rw [hlen]
  by_cases c : ps.length = 1
  · refine ifP (by simp only [beq_iff_eq]; lia) ?_
    obtain ⟨tp, hp0⟩ := intsAt ji pk.ne
    walk_at "go"
    refine gLst (jl.keeps F.kp) (by lia) (by lia) (k := 0) hp0 ?_
    walk_at "go"
    have hm := getD_mem' pk.ne
    refine blocksS gd F.kp (R.less (by decide)) fr ok (FrD.at_get (pk.bd _ hm)) (by have := pk.bd _ hm; have := ok.le; lia) ?_
    intro s3 B3 t3 a3 b3 k R1 ht; replace F := F.did R1; walk_at "lift"
    walk_at "go"
    refine gTup (ht.keeps F.kp) (by lia) (by lia) (k := 0) rfl ?_
    have e1 : unA d ps = d.bA (d.at (ps.getD 0 0)) := if_pos c
    rw [← e1]
    exact h _ _ _ k F.rs
  · refine ifN (by simp only [beq_iff_eq]; lia) ?_
    walk_at "go"
    refine mcusAcrossS gd F.kp (R.less (by decide)) fr ok ?_
    intro s3 B3 t3 k R1; replace F := F.did R1; walk_at "lift"
    have e1 : unA d ps = d.wA := if_neg c
    rw [← e1]
    exact h _ _ _ k F.rs

noncomputable def uCell (d : FrD) (pl c : Nat) (x y : Int) (dn ac : Nat) : List Int := [(pl : Int), (c : Int), x * (d.at c).1 + ac, y * (d.at c).2 + dn]
noncomputable def uRow (d : FrD) (pl c : Nat) (x y : Int) (dn : Nat) : List (List Int) := (List.range (d.at c).1.toNat).map fun ac => uCell d pl c x y dn ac
noncomputable def uComp (d : FrD) (pl c : Nat) (x y : Int) : List (List Int) := (List.range (d.at c).2.toNat).flatMap fun dn => uRow d pl c x y dn
noncomputable def uAt (d : FrD) (ps : List Nat) (x y : Int) : List (List Int) :=
  if ps.length = 1 then [[0, ((ps.getD 0 0 : Nat) : Int), x, y]] else (List.range ps.length).flatMap fun pl => uComp d pl (ps.getD pl 0) x y

set_option maxHeartbeats 2000000 in
theorem unitAtS {w : World} {A : Around} {E : Value → Shared → Prop} {s : Shared} {B : Heap} {x y : Addr} {d : FrD} {ps : List Nat} {ux uy : Int} {tx ty : Tok} {Q : Value → Shared → Prop}
    (gd : Gd w B) (kB : Kp B s.heap) (rm : Rm A 5) (fr : FrB B x d) (ok : d.Ok) (sc : ScB B y (psI ps)) (pk : PsOk d ps)
    (h : ∀ s' B' l vs, Kp B B' → Rs [] s.gens B s B' s' → Is B' l (LstP vs) → TupsAre B' vs (uAt d ps ux uy) → Q (.ref l) s') :
    wpAny (model PR w) A (call (.ref 35) [.ref x, .ref y, .int ux tx, .int uy ty]) Q E s := by
  have fr0 := fr
  refine FrB.elim fr0 ?_; rintro cl t1 t2 t3 v1 v2 cs I hl hc
  have sc0 := sc
  refine ScB.elim sc0 ?_; rintro pl w1 w2 w3 w4 w5 w6 vs J jl ji
  have hlen : ((psI ps).length : Int) = ps.length := by simp [psI]
  have hvs : vs.length = ps.length := by rw [ji.length]; simp [psI]
  refine' enterP (n := 4) (binds := [(Str.ofString "frame", .ref x), (Str.ofString "scan", .ref y), (Str.ofString "x", .int ux tx), (Str.ofString "y", .int uy ty)]) [] [] gd kB rm ?ho ?hcd ?hb ?hV ?hd ?hl ?h ?c1 ?c2 ?c3 ?c4
  walk_at "enter"
  case hV => intro p hp; exact nomatch hp
  case hd => exact .nil
  case h =>
  intro L s1 E' A' m0 F R env Qr
  walk_at "go"
  refine isAloneS gd F.kp (R.less (by decide)) sc (by have := pk.le; simpa [psI] using this) ?_
  intro s2 R1; replace F := F.did R1
  walk_at "go"
  rw [hlen]
  by_cases c : ps.length = 1
  · refine ifP (by simp only [beq_iff_eq]; lia) ?_
    obtain ⟨tp, hp0⟩ := intsAt ji pk.ne
    walk_at "go"
    refine gLst (jl.keeps F.kp) (by lia) (by lia) (k := 0) hp0 ?_
    walk_at "go"
    refine nLstP F ?_
    have k0 := k; clear k
    clear F; intro s3 B3 l3 k hl3 F
    have e1 : uAt d ps ux uy = [[0, ((ps.getD 0 0 : Nat) : Int), ux, uy]] := if_pos c
    refine h _ _ _ _ (k0.trans k) F.rs hl3 ?_
    rw [e1]
    exact .cons ⟨_, _, rfl, ht.keeps k, .cons _ _ (.cons _ _ (.cons _ _ (.cons _ _ .nil)))⟩ .nil
  · refine ifN (by simp only [beq_iff_eq]; lia) ?_
    have e1 : uAt d ps ux uy = (List.range ps.length).flatMap fun pl => uComp d pl (ps.getD pl 0) ux uy := if_neg c
    walk_at "go"
    refine nLstO F ?_
    clear F; intro s3 D hD F; walk_at "su"
    walk_at "go"
    refine for1 F R.hh ?_ (fun _ => rfl)
    walk_at "go"
    refine bLenL F (jl.keeps F.kp) (by have := pk.le; lia) ?_
    clear F; intro s4 t4 F
    walk_at "go"
    refine bRange1 F ?_
    clear F; intro s5 B5 r5 k hr F; walk_at "lift"
    refine iRng0 (n := ps.length) F hr (by lia) (by have := pk.le; lia) ?_
    clear F; intro s6 it hit F
    refine ForTodo.mk (B2 := B5) (B₀ := B5) (n := ps.length) it (nxRange0 ps.length) (.refl _) ?_ F (fun i B' m' U' => ∃ ys, U' = [(D, LstP ys)] ∧ TupsAre B' ys ((List.range i).flatMap fun pl => uComp d pl (ps.getD pl 0) ux uy) ∧ ys.length ≤ 4 * i ∧
      m' (Str.ofString "frame") = some (.ref x) ∧ m' (Str.ofString "scan") = some (.ref y) ∧ m' (Str.ofString "x") = some (.int ux tx) ∧ m' (Str.ofString "y") = some (.int uy ty) ∧ m' (Str.ofString "found") = some (.ref D)) ⟨[], rfl, .nil, Nat.le_refl _, rfl, rfl, rfl, rfl, rfl⟩ ?_
    · intro i p hp
      rcases List.mem_singleton.mp hp with rfl; exact hit
    intro Iv
    refine ⟨?_, ?_, ?_⟩
    · rintro i B' B'' m' U' hX9; refine ea1_3 hX9 ?_; clear hX9; rintro ys h1 h2 h3 k
      exact ⟨ys, h1, h2.mono k, h3⟩
    · rintro i v B' m' U' s7 E7 hi k hX9; refine ea1_8 hX9 ?_; clear hX9; rintro ys rfl hys hz m1 m2 m3 m4 m5 ⟨tv, rfl⟩ F
      walk_at "su"
      have hi3 := pk.le
      walk_at "lift"
      walk_at "go"
      obtain ⟨tc, hc1⟩ := intsAt ji hi
      refine gLst (jl.keeps F.kp) (by lia) (by lia) hc1 ?_
      have hcm := pk.bd _ (getD_mem' hi)
      refine compAtE hc (FrD.at_get hcm) ?_; rintro co hco1 u1 u2 u3 u4 K
      have hbd := ok.bd _ (List.mem_of_getElem? (FrD.at_get hcm))
      generalize hcc : ps.getD i 0 = c at hc1 hcm hco1 K hbd ⊢
      have hok := ok.le
      refine gLst (hl.keeps F.kp) (by lia) (by lia) hco1 ?_
      walk_at "go"
      refine for1 F R.hh ?_ (fun _ => rfl)
      walk_at "go"
      refine bRange1 F ?_
      have k0 := k; clear k
      clear F; intro s8 B8 r8 k hr8 F; walk_at "lift"; replace K := K.mono k; replace hys := hys.mono k
      refine iRng0 (n := (d.at c).2.toNat) F hr8 (by lia) (by lia) ?_
      clear F; intro s9 it9 hit9 F
      refine ForTodo.mk (B2 := B8) (B₀ := B8) (n := (d.at c).2.toNat) it9 (nxRange0 (d.at c).2.toNat) (.refl _) ?_ F (fun j B' m' U' => ∃ ys2, U' = [(it, RItP (0 + (i + 1 : Nat)) (ps.length - (i + 1 : Nat)) 1), (D, LstP (ys ++ ys2))] ∧ TupsAre B' ys2 ((List.range j).flatMap fun dn => uRow d i c ux uy dn) ∧ ys2.length ≤ 2 * j ∧
        m' (Str.ofString "frame") = some (.ref x) ∧ m' (Str.ofString "scan") = some (.ref y) ∧ m' (Str.ofString "x") = some (.int ux tx) ∧ m' (Str.ofString "y") = some (.int uy ty) ∧ m' (Str.ofString "found") = some (.ref D) ∧
        m' (Str.ofString "place") = some (.int i tv) ∧ m' (Str.ofString "component") = some (.ref co)) ⟨[], by rw [List.append_nil]; rfl, .nil, Nat.le_refl _, m1, m2, m3, m4, m5, rfl, rfl⟩ ?_
      · intro i p hp
        rcases List.mem_singleton.mp hp with rfl; exact hit9
      intro Iv
      refine ⟨?_, ?_, ?_⟩
      · rintro i B' B'' m' U' hX9; refine ea1_3 hX9 ?_; clear hX9; rintro ys h1 h2 h3 k
        exact ⟨ys, h1, h2.mono k, h3⟩
      · rintro j v B9 m9 U9 s10 E10 hj k1 hX9; refine ea1_10 hX9 ?_; clear hX9; rintro ys2 rfl hys2 hz2 n1 n2 n3 n4 n5 n6 n7 ⟨tj, rfl⟩ F
        walk_at "su"
        have k2 := k; clear k; have k := k1; clear k1
        walk_at "lift"; replace K := K.mono k; replace hys := hys.mono k
        walk_at "go"
        refine for1 F R.hh ?_ (fun _ => rfl)
        walk_at "go"
        refine bRange1 F ?_
        have k3 := k; clear k
        clear F; intro s11 B11 r11 k hr11 F; walk_at "lift"; replace K := K.mono k; replace hys := hys.mono k; replace hys2 := hys2.mono k
        refine iRng0 (n := (d.at c).1.toNat) F hr11 (by lia) (by lia) ?_
        clear F; intro s12 it12 hit12 F
        refine ForTodo.mk (B2 := B11) (B₀ := B11) (n := (d.at c).1.toNat) it12 (nxRange0 (d.at c).1.toNat) (.refl _) ?_ F (fun l B' m' U' => ∃ ys3, U' = [(it9, RItP (0 + (j + 1 : Nat)) ((d.at c).2.toNat - (j + 1 : Nat)) 1), (it, RItP (0 + (i + 1 : Nat)) (ps.length - (i + 1 : Nat)) 1), (D, LstP (ys ++ ys2 ++ ys3))] ∧
          TupsAre B' ys3 ((List.range l).map fun ac => uCell d i c ux uy j ac) ∧
          m' (Str.ofString "frame") = some (.ref x) ∧ m' (Str.ofString "scan") = some (.ref y) ∧ m' (Str.ofString "x") = some (.int ux tx) ∧ m' (Str.ofString "y") = some (.int uy ty) ∧ m' (Str.ofString "found") = some (.ref D) ∧
          m' (Str.ofString "place") = some (.int i tv) ∧ m' (Str.ofString "component") = some (.ref co) ∧ m' (Str.ofString "down") = some (.int j tj)) ⟨[], by rw [List.append_nil]; rfl, .nil, n1, n2, n3, n4, n5, n6, n7, rfl⟩ ?_
        · intro i p hp
          rcases List.mem_singleton.mp hp with rfl; exact hit12
        intro Iv
        refine ⟨?_, ?_, ?_⟩
        · rintro i B' B'' m' U' hX9; refine ea1_3 hX9 ?_; clear hX9; rintro ys h1 h2 h3 k
          exact ⟨ys, h1, h2.mono k, h3⟩
        · rintro l v B13 m13 U13 s13 E13 hl13 k1 hX9; refine ea1_10 hX9 ?_; clear hX9; rintro ys3 rfl hys3 o1 o2 o3 o4 o5 o6 o7 o8 ⟨tl, rfl⟩ F
          walk_at "su"
          have k4 := k; clear k; have k := k1; clear k1
          walk_at "lift"; replace K := K.mono k; replace hys := hys.mono k; replace hys2 := hys2.mono k
          have k5 := k; clear k
          walk_at "go"
          refine mAppend (show Is _ D (LstP (ys ++ ys2 ++ ys3)) by walk_at "at") ?_
          have k6 := k; clear k; have ht1 := ht; clear ht
          walk_at "go"
          refine gLst (jl.keeps F.kp) (by lia) (by lia) hc1 ?_
          walk_at "go"
          refine gTup (ht1.keeps F.kp) (by lia) (by lia) (k := 0) rfl ?_
          walk_at "go"
          refine gTup (ht1.keeps F.kp) (by lia) (by lia) (k := 1) rfl ?_
          walk_at "go"
          have hz3 : ys3.length ≤ 2 := by
            have := hys3.length; simp at this; lia
          refine aList F.f4 (by simp; lia) ?_
          clear F; intro s14 F
          replace F := F.b4; walk_at "su"
          walk_at "go"
          refine TurnQ.mk (.inl rfl) (k5.trans (k6.trans k)) F ⟨ys3 ++ [.ref t'], by simp, ?_, o1, o2, o3, o4, o5, o6, o7, o8⟩
          rw [range_succ_map]
          exact (hys3.mono (k6.trans k)).app (.cons ⟨_, _, rfl, ht, .cons _ _ (.cons _ _ (.cons _ _ (.cons _ _ .nil)))⟩ .nil)
        · rintro B13 m13 U13 s13 k4 hX9; refine ea1_10 hX9 ?_; clear hX9; rintro ys3 rfl hys3 o1 o2 o3 o4 o5 o6 o7 o8 F
          walk_at "su"
          walk_at "go"
          refine TurnQ.mk (.inl rfl) (k3.trans (k.trans k4)) F ⟨ys2 ++ ys3, by simp, ?_, ?_, o1, o2, o3, o4, o5, o6, o7⟩
          · rw [range_succ_flatMap]
            exact (hys2.mono k4).app hys3
          · have := hys3.length; simp at this ⊢; lia
      · rintro B9 m9 U9 s9 k1 hX9; refine ea1_10 hX9 ?_; clear hX9; rintro ys2 rfl hys2 hz2 n1 n2 n3 n4 n5 n6 n7 F
        walk_at "su"
        walk_at "go"
        refine TurnQ.mk (.inl rfl) (k0.trans (k.trans k1)) F ⟨ys ++ ys2, rfl, ?_, ?_, n1, n2, n3, n4, n5⟩
        · rw [range_succ_flatMap, hcc]
          exact (hys.mono k1).app hys2
        · simp; lia
    · rintro B9 m9 U9 s9 k1 hX9; refine ea1_8 hX9 ?_; clear hX9; rintro ys rfl hys hz n1 n2 n3 n4 n5 F
      walk_at "su"
      walk_at "go"
      refine Fs.frz F hD ?_; intro B10 k2 hD2 F2
      refine h _ _ _ _ (k.trans (k1.trans k2)) F2.rs hD2 ?_
      rw [e1]; exact hys.mono k2
end
section
noncomputable def uNum (d : FrD) (ps : List Nat) (i : Int) : List (List Int) := uAt d ps (i % unA d ps) (i / unA d ps)

set_option maxHeartbeats 1000000 in
theorem unitNumberedS {w : World} {A : Around} {E : Value → Shared → Prop} {s : Shared} {B : Heap} {x y : Addr} {d : FrD} {ps : List Nat} {i : Int} {ti : Tok} {Q : Value → Shared → Prop}
    (gd : Gd w B) (kB : Kp B s.heap) (rm : Rm A 6) (fr : FrB B x d) (ok : d.Ok) (sc : ScB B y (psI ps)) (pk : PsOk d ps) (hu : 0 < unA d ps) (hu2 : unA d ps < 1000000)
    (h : ∀ s' B' l vs, Kp B B' → Rs [] s.gens B s B' s' → Is B' l (LstP vs) → TupsAre B' vs (uNum d ps i) → Q (.ref l) s') :
    wpAny (model PR w) A (call (.ref 42) [.ref x, .ref y, .int i ti]) Q E s := by
  refine' enterP (n := 5) (binds := [(Str.ofString "frame", .ref x), (Str.ofString "scan", .ref y), (Str.ofString "index", .int i ti)]) [] [] gd kB rm ?ho ?hcd ?hb ?hV ?hd ?hl ?h ?c1 ?c2 ?c3 ?c4
  walk_at "enter"
  case hV => intro p hp; exact nomatch hp
  case hd => exact .nil
  case h =>
  intro L s1 E' A' m0 F R env Qr
  walk_at "go"
  refine unitsAcrossS gd F.kp (R.less (by decide)) fr ok sc pk ?_
  intro s2 B2 t2 k R1; replace F := F.did R1; walk_at "lift"
  walk_at "go"
  refine unitAtS gd F.kp (R.less (by decide)) fr ok sc pk ?_
  intro s3 B3 l3 vs3 k3 R1 h1 h2; replace F := F.did R1
  exact h _ _ _ _ (k.trans k3) F.rs h1 h2
end
section
/-- without a key -/
noncomputable def remK (xs : Ents) (k : List Int) : Ents := xs.filter fun x => decide (x.1 ≠ k)
theorem remK_erase {xs : Ents} (hn : (xs.map (·.1)).Nodup) {j : Nat} {k : List Int} {p : Addr × Value} (h : xs[j]? = some (k, p)) : xs.eraseIdx j = remK xs k := by
  induction xs generalizing j with
  | nil => cases h
  | cons x xs ih =>
    rw [List.map_cons, List.nodup_cons] at hn
    cases j with
    | zero =>
      cases h
      unfold remK
      rw [List.eraseIdx_cons_zero, List.filter_cons, if_neg (by simp)]
      symm
      rw [List.filter_eq_self]
      intro y hy
      have : y.1 ≠ k := fun e => hn.1 (List.mem_map.mpr ⟨y, hy, e⟩)
      simpa using this
    | succ j =>
      have h : xs[j]? = some (k, p) := h
      have hm : k ∈ xs.map (·.1) := List.mem_map.mpr ⟨_, List.mem_of_getElem? h, rfl⟩
      have hne : x.1 ≠ k := fun e => hn.1 (e ▸ hm)
      unfold remK
      rw [List.eraseIdx_cons_succ, List.filter_cons, if_pos (by simpa using hne), ih hn.2 h]; rfl
theorem map_erase {α β : Type} (f : α → β) : ∀ (l : List α) (j : Nat), (l.map f).eraseIdx j = (l.eraseIdx j).map f
  | [], _ => rfl
  | _ :: _, 0 => rfl
  | x :: l, j + 1 => by
    rw [List.map_cons, List.eraseIdx_cons_succ, List.eraseIdx_cons_succ, List.map_cons, map_erase f l j]
theorem keys_rem {xs : Ents} {k k' : List Int} : k' ∈ (remK xs k).map (·.1) ↔ k' ≠ k ∧ k' ∈ xs.map (·.1) := by
  unfold remK
  constructor
  · intro h
    obtain ⟨x, hx, rfl⟩ := List.mem_map.mp h
    obtain ⟨h1, h2⟩ := List.mem_filter.mp hx
    exact ⟨by simpa using h2, List.mem_map.mpr ⟨x, h1, rfl⟩⟩
  · rintro ⟨h1, h2⟩
    obtain ⟨x, hx, rfl⟩ := List.mem_map.mp h2
    exact List.mem_map.mpr ⟨x, List.mem_filter.mpr ⟨hx, by simpa using h1⟩, rfl⟩
theorem rem_nodup {xs : Ents} (hn : (xs.map (·.1)).Nodup) (k : List Int) : ((remK xs k).map (·.1)).Nodup := List.Nodup.sublist (List.filter_sublist.map _) hn

section
variable {prog : Program} {w : World} {A : Around} {E : Value → Shared → Prop} {s : Shared} {e : En} {G : Array GenState} {B : Heap} {L : Addr} {m : Str → Option Value} {U : Own} {env : Env}
theorem KeysAt.rem {xs : Ents} {k : List Int} (x : KeysAt prog w B xs) : KeysAt prog w B (remK xs k) := fun p hp => x p (List.mem_filter.mp hp).1

theorem takeOut_heap {D t : Addr} {xs : Ents} {k : List Int} {v : Value} {Q : Option DictEntry → Shared → Prop} (hu : A.units < cLine) (hk : TupAt prog w s.heap t k) (hm : s.heap.DictOfH (tk prog w) D xs) (hv : valK xs k = some v)
    (h : ∀ en h', en.val = v → Is h' D (DicP prog w (remK xs k)) → Heap.SameBut D s.heap h' → Q (some en) { s with heap := h', toks := s.toks + (tk prog w).draws k }) (hz : xs.length ≤ sizeLine) :
    wpAny (model prog w) A (Builtin.Dict.takeOut D (.ref t)) Q E s := by
  obtain ⟨o, es, ep, ho, hc, hd, he, his, hn⟩ := hm
  have hes : es.size ≤ sizeLine := by rw [size_of_entries he]; exact hz
  unfold Builtin.Dict.takeOut
  try with_reducible refine wpAny_holding ?_
  refine wpAny_bind ((tk prog w).pyHash hu hk ?_)
  refine wpAny_bind (wpAny_dictFind_heap (knd := tk prog w) (s := { s with toks := s.toks + (tk prog w).draws k }) hu hk ho hd he his hn ?_ ?_)
  · intro hno
    unfold valK at hv
    rw [atKey_none_of_get hno] at hv; cases hv
  · intro j p hj
    refine wpAny_bind (wpAny_dictEntries (s := { s with toks := s.toks + (tk prog w).draws k }) ho hd ?_)
    rw [entry_at he j, hj]
    have hp : p.2 = v := by
      unfold valK at hv
      rw [atKey_of_get hn hj] at hv
      exact Option.some.inj hv
    refine wpAny_bind (wpAny_updateDictKeys (hz := hes) (s := { s with toks := s.toks + (tk prog w).draws k }) ho hd (wpAny_pure (h _ _ hp ⟨_, Heap.get?_update_self _ ho (Obj.isFreed_of_dict (Obj.data_mapDictKeys hd _)),
      hc.mapDictKeys _, rem_nodup hn k, _, ep + 1, Obj.data_mapDictKeys hd _, ?_⟩ (Heap.SameBut.update ..))))
    rw [← remK_erase hn hj, ← map_erase, ← he]
    obtain ⟨l⟩ := es
    simp
theorem bPop {D t : Addr} {xs : Ents} {k : List Int} {v : Value} {Q : Value → Shared → Prop} (F : Fs e G B L m ((D, DicP prog w xs) :: U) s) (hu : A.units + 20 < cLine) (K : KeysAt prog w B xs) (hk : TupAt prog w B t k) (hz : xs.length ≤ 100000)
    (hv : valK xs k = some v) (h : ∀ s', Fs e G B L m ((D, DicP prog w (remK xs k)) :: U) s' → Q v s') : wpAny (model prog w) A (call (.builtin "dict.pop") [.ref D, .ref t]) Q E s := by
  have hm := dic_of F.top (K.mono F.kp)
  obtain ⟨o, es, ep, ho, hc, hd, he, his, hn⟩ := id hm
  refine wpAny_call_entry PySem.F.slot_dict_pop hm.typeIs PySem.F.entry_dict_pop ?_ (PySem.F.args_dict_pop_2 _ _)
  unfold Builtin.«dict.pop»
  refine wpAny_bind ?_
  unfold Builtin.Dict.keyAndDefault
  refine wpAny_bind (wpAny_notOrdered_dict hm.typeIs ?_)
  show wpAny _ _ (pure (D, Value.ref t, none)) _ _ s
  refine wpAny_pure ?_
  have hp : (keyPart (.ref t)).isSome = false := rfl
  simp only [hp, Bool.false_eq_true, if_false]
  refine wpAny_bind (wpAny_dictEntries ho hd ?_)
  refine wpAny_bind (wpAny_pure ?_)
  have hne : es.isEmpty = false := by
    cases hxs : xs with
    | nil => rw [hxs] at hv; cases hv
    | cons x r =>
      have := size_of_entries he
      rw [hxs] at this
      have h2 : es.size ≠ 0 := by rw [this]; simp
      simpa [Array.isEmpty] using h2
  rw [hne]
  simp only [Bool.false_eq_true, if_false]
  refine wpAny_bind (takeOut_heap (by show A.units + 1 < _; lia) (hk.mono F.kp) hm hv (fun en h' hev hi hs' => ?_) (by rw [sizeLine_eq]; lia))
  simp only [Option.isNone_some, Bool.false_eq_true, if_false]
  refine wpAny_bind (wpAny_letGo (wpAny_pure ⟨en.val, rfl, ?_⟩))
  rw [hev]
  exact h _ (F.upd (h' := h') hs'.extBut hi _)

theorem dlen_body {d : Addr} {es : Array DictEntry} {ep : Nat} {Q : Value → Shared → Prop} (hd : (d == sysModules) = false) (hm : Is s.heap d (DicE es ep)) (hfit : (es.size : Int) < 2 ^ 63)
    (h : Q (.int es.size (s.toks + 1)) { s with toks := s.toks + 1 + 1 }) : wpAny (model prog w) A (Builtin.«len» ⟨[.ref d], []⟩) (fun fin s' => ∃ r, fin = .done (.ret r) ∧ Q r s') E s := by
  obtain ⟨o, ho, hx, hdat⟩ := hm
  have hT : s.TypeIs (.ref d) "dict" := ⟨o, ho, hx.1⟩
  unfold Builtin.«len»
  refine wpAny_bind (m := oneArg "len" _) (wpAny_pure ?_)
  refine wpAny_bind (m := callSpecial? (.ref d) (Str.ofString "__len__")) (wpAny_callSpecial?_slot (name := Str.ofString "__len__") hT PySem.F.slot_dict_len
    (wpAny_call_entry PySem.F.slot_dict_len hT PySem.F.entry_dict_len ?_ (PySem.F.args_dict_len_1 _)))
  show wpAny _ _ (dictSize d >>= _) _ _ s
  unfold dictSize
  refine wpAny_bind (wpAny_bind (wpAny_dictEntries ho hdat (wpAny_pure ?_)))
  show wpAny _ _ (Builtin.Dict.pendingCount d >>= _) _ _ s
  refine wpAny_bind (wpAny_pendingCount_other hd ?_)
  refine wpAny_ret_mkInt ?_
  rw [Nat.add_zero]
  show wpAny _ _ _ _ _ { s with toks := s.toks + 1 }
  refine wpAny_bind (wpAny_holding (wpAny_pure ?_))
  refine wpAny_bind (wpAny_letGo ?_)
  show wpAny _ _ (if ((es.size : Nat) : Int) < 0 then _ else _) _ _ _
  rw [if_neg (by lia)]
  show wpAny _ _ (if ((es.size : Nat) : Int) ≥ 2 ^ 63 then _ else _) _ _ _
  rw [if_neg (by lia)]
  exact wpAny_bind (wpAny_mkInt (wpAny_pure ⟨_, rfl, h⟩))
theorem truDic {D : Addr} {xs : Ents} {Q : Bool → Shared → Prop} (F : Fs e G B L m U s) (hm : Is s.heap D (DicP prog w xs)) (hns : (D == sysModules) = false) (hz : xs.length ≤ 100000)
    (h : ∀ s', Fs e G B L m U s' → Q (!xs.isEmpty) s') : wpAny (model prog w) A (truthy (.ref D)) Q E s := by
  obtain ⟨o, ho, hx, hn, es, ep, hdat, he⟩ := hm
  have hsz : es.size = xs.length := by have := congrArg List.length he; simpa using this
  have hT : s.TypeIs (.ref D) "dict" := ⟨o, ho, hx.1⟩
  have hne : ((es.size : Int) != 0) = !xs.isEmpty := by rw [hsz]; cases xs <;> simp <;> lia
  have key : wpAny (model prog w) A (runValue (.builtin "len" ⟨[.ref D], []⟩)) (fun r s' => r = .int es.size (s.toks + 1) ∧ Q (!xs.isEmpty) s') E s := by
    refine wpAny_runValue (codeAny_builtin entry_len ?_)
    rw [Around.under_plainId plain_len _]
    exact wpAny_mono (dlen_body (Q := fun r s' => r = .int es.size (s.toks + 1) ∧ Q (!xs.isEmpty) s') hns ⟨o, ho, hx, hdat⟩ (by rw [hsz]; lia) ⟨rfl, h _ (F.tk _)⟩)
      (fun fin s' h' => by obtain ⟨r, rfl, hq⟩ := h'; exact hq) fun _ _ e => e
  unfold truthy
  first
    | refine wpAny_bind (wpAny_callSpecial?_none (name := Str.ofString "__bool__") hT noBool_dict ?_)
    | refine wpAny_bind (wpAny_pure (wpAny_bind (wpAny_callSpecial?_none (name := Str.ofString "__bool__") hT noBool_dict ?_)))
  first
    | refine wpAny_bind (wpAny_specialOf (name := Str.ofString "__len__") hT PySem.F.slot_dict_len.lookup ?_)
    | refine wpAny_bind (wpAny_pure (wpAny_bind (wpAny_specialOf (name := Str.ofString "__len__") hT PySem.F.slot_dict_len.lookup ?_)))
  first
    | exact wpAny_bind (wpAny_mono key (fun r s' h' => by obtain ⟨rfl, hq⟩ := h'; exact wpAny_pure (hne ▸ hq)) fun _ _ e => e)
    | exact wpAny_bind (wpAny_pure (wpAny_bind (wpAny_mono key (fun r s' h' => by obtain ⟨rfl, hq⟩ := h'; exact wpAny_pure (hne ▸ hq)) fun _ _ e => e)))
/-- a dict's method by name -/
theorem mDic {D : Addr} {name : Str} {id : String} {o : Obj} {pl : Sem Bool} {Q : Value × List Value → Shared → Prop} (ho : s.heap.get? D = some o) (hx : o.ExactDict) (slot : Slot "dict" name id) (hty : typeOf (.builtin id) = pure (.type "method_descriptor"))
    (h : Q (.builtin id, [.ref D]) s) : wpAny (model prog w) A (getMethod (.ref D) name pl) Q E s :=
  getMethod_builtin ⟨o, ho, hx.1⟩ PySem.F.plainAttrs_dict slot hty (fun a q => by cases q; exact ⟨o, ho, hx.2.1⟩) h
end
end
section
open PySem PySem.W PySem.Calls PyProof.Rows PySem.Spec
section
variable {prog : Program} {w : World} {A : Around} {E : Value → Shared → Prop} {s : Shared} {e : En} {G : Array GenState} {B : Heap} {L : Addr} {m : Str → Option Value} {U : Own} {env : Env}

theorem bNeg {a : Int} {t : Tok} {Q : Value → Shared → Prop} (F : Fs e G B L m U s) (h : ∀ s' t', Fs e G B L m U s' → Q (.int (-a) t') s') : wpAny (model prog w) A (unaryOp .USub (.int a t)) Q E s :=
  PyProof.Rows.neg_int (h _ _ (F.tk _))
/-- a new list, owned -/
theorem Fs.newL {vs : List Value} {n : Nat} (F : Fs e G B L m U s) (tk : Nat) : Fs e G B L m ((s.heap.objs.size, LstP vs) :: U) { s with heap := s.heap.push { cls := .type "list", data := .seq vs.toArray n }, toks := tk } :=
  F.take (fun b o q => Heap.get?_push_of_some _ q) (none_of_size _) ⟨_, Heap.get?_push_size _ rfl, n, rfl⟩ tk
/-- [v] * n -/
theorem lMul {l : Addr} {v : Value} {x : Int} {u : Tok} {Q : Value → Shared → Prop} (F : Fs e G B L m U s) (hl : Is s.heap l (LstP [v])) (h0 : 0 ≤ x) (h1 : x < 100000)
    (h : ∀ s' D, e.s.heap.get? D = none → Fs e G B L m ((D, LstP (List.replicate x.toNat v)) :: U) s' → Q (.ref D) s') : wpAny (model prog w) A (binaryOp .Mult (.ref l) (.int x u)) Q E s := by
  obtain ⟨o, ho, k, rfl⟩ := hl
  have e1 : (List.foldl (fun x1 x2 => x1 ++ x2) #[] (List.replicate (if ([v].toArray).isEmpty = true then 0 else x.toNat) [v].toArray)) = (List.replicate x.toNat v).toArray := by
    rw [listMul_foldl]
    have : (List.replicate x.toNat [v]).flatten = List.replicate x.toNat v := by
      induction x.toNat with
      | zero => rfl
      | succ n ih => rw [List.replicate_succ, List.flatten_cons, ih, List.replicate_succ]; rfl
    simp [this]
  refine wpAny_binaryOp_repeat_ref (T := "list") (U := "int") (by decide) ⟨_, ho, rfl⟩ (fun s' => typeIs_int s' x u) noFill_list_mul PySem.F.fills_int_mul PySem.F.slot_int_rmul repeat_list PySem.F.slot_int_index.lookup
    (call_meets PySem.F.slot_int_rmul (typeIs_int s x u) PySem.F.entry_int_rmul (PySem.F.args_int_rmul_2 _ _) (int___rmul___int_list x u l [v].toArray k)
      ⟨ho, rfl, ⟨_, ho, rfl⟩, call_meets PySem.F.slot_list_mul ⟨_, ho, rfl⟩ PySem.F.entry_list_mul (PySem.F.args_list_mul_2 _ _)
        (AutoListH.list___mul___list_int_3 l [v].toArray k x u (by simp [Builtin.List.listFitsIndex]; lia) (by have e3 : ([v].toArray : Array Value).size = 1 := rfl; rw [e3]; lia) (by have e3 : (#[v] : Array Value).size = 1 := rfl; simp only [Builtin.List.listTooLong, sizeLine, e3]; simp; lia))
        ⟨ho, ?_⟩⟩)
  rw [e1]
  exact h _ _ (F.fresh (none_of_size _)) (F.newL _)
/-- two lists, one behind the other -/
theorem lAdd {l b : Addr} {vs ws : List Value} {Q : Value → Shared → Prop} (F : Fs e G B L m U s) (hl : Is s.heap l (LstP vs)) (hb : Is s.heap b (LstP ws)) (hz : vs.length + ws.length ≤ 100000)
    (h : ∀ s' D, e.s.heap.get? D = none → Fs e G B L m ((D, LstP (vs ++ ws)) :: U) s' → Q (.ref D) s') : wpAny (model prog w) A (binaryOp .Add (.ref l) (.ref b)) Q E s := by
  obtain ⟨o, ho, n, rfl⟩ := hl
  obtain ⟨o2, ho2, n2, rfl⟩ := hb
  have e1 : vs.toArray ++ ws.toArray = (vs ++ ws).toArray := by simp
  refine concat_meets ⟨_, ho, rfl⟩ ⟨_, ho2, rfl⟩ noFill_list_add seq_list_add PySem.F.slot_list_add PySem.F.entry_list_add (PySem.F.args_list_add_2 _ _) (list_addW l b vs.toArray ws.toArray n n2 none none #[] #[] (by simp [sizeLine_eq]; lia)) ⟨ho, ho2, ?_⟩
  rw [e1]
  exact h _ _ (F.fresh (none_of_size _)) (F.newL _)
/-- list(l) -/
theorem lCopy {l : Addr} {vs : List Value} {Q : Value → Shared → Prop} (F : Fs e G B L m U s) (hl : Is s.heap l (LstP vs)) (hz : vs.length ≤ 100000)
    (h : ∀ s' D, e.s.heap.get? D = none → Fs e G B L m ((D, LstP vs) :: U) s' → Q (.ref D) s') : wpAny (model prog w) A (call (.type "list") [.ref l]) Q E s := by
  obtain ⟨o, ho, n, rfl⟩ := hl
  refine call_list_seq (hsz := by simp [sizeLine_eq]; lia) l (.inl rfl) ho rfl rfl fun h' c' hk hD => ?_
  exact h _ _ (F.fresh (none_of_size _)) (F.take (P := LstP vs) hk (none_of_size _) ⟨_, hD, c', rfl⟩ s.toks)
/-- x is None -/
theorem isNone {v : Value} {Q : Value → Shared → Prop} (h : Q (.bool (v == .none)) s) : wpAny (model prog w) A (compareOp .Is v .none) Q E s := is_none_gen h
/-- an owned object that was made by this call goes into the base -/
theorem Fs.freeze0 {a : Addr} {P : Obj → Prop} (F : Fs e G B L m ((a, P) :: U) s) (hS : e.S = [] := by rfl) : ∃ B', Kp B B' ∧ Is B' a P ∧ Fs e G B' L m U s := by
  refine F.freeze ?_
  rcases (F.own _ (.head _)).2.2.2 with h | h
  · exact h
  · rw [hS] at h; exact nomatch h
end
end
section
open PySem PySem.W PySem.Calls PyProof.Rows PySem.Spec
open PySem.SeqAt

theorem ints_all {vs ws : List Value} {ns ms : List Int} (h : IntsAre vs ns) (g : IntsAre ws ms) (hsz : ns.length = ms.length) :
    ∃ e : Nat → Bool, (∀ (A : Around) (s : Shared) j (h1 : j < vs.toArray.size) (h2 : j < ws.toArray.size), EqAt A s vs.toArray[j] ws.toArray[j] (e j)) ∧ (List.range vs.toArray.size).all e = decide (ns = ms) := by
  refine ⟨fun j => ns.getD j 0 == ms.getD j 0, fun A s j h1 h2 => ?_, ?_⟩
  · have h1' : j < vs.length := by simpa using h1
    have h2' : j < ws.length := by simpa using h2
    have a1 : j < ns.length := by rw [← h.length]; exact h1'
    have a2 : j < ms.length := by rw [← g.length]; exact h2'
    obtain ⟨t, ht⟩ := intsGet h (List.getElem?_eq_getElem a1)
    obtain ⟨u, hu⟩ := intsGet g (List.getElem?_eq_getElem a2)
    have e1 : vs.toArray[j] = .int ns[j] t := by
      have := List.getElem?_eq_getElem h1'
      rw [ht] at this; simpa using (Option.some.inj this).symm
    have e2 : ws.toArray[j] = .int ms[j] u := by
      have := List.getElem?_eq_getElem h2'
      rw [hu] at this; simpa using (Option.some.inj this).symm
    rw [e1, e2]
    have e3 : ns.getD j 0 = ns[j] := by rw [List.getD_eq_getElem?_getD, List.getElem?_eq_getElem a1]; rfl
    have e4 : ms.getD j 0 = ms[j] := by rw [List.getD_eq_getElem?_getD, List.getElem?_eq_getElem a2]; rfl
    show EqAt A s _ _ (ns.getD j 0 == ms.getD j 0)
    rw [e3, e4]
    exact EqAt.int_int _ _ _ _
  · have e0 : vs.toArray.size = ns.length := by simp [h.length]
    rw [e0, Bool.eq_iff_iff]
    simp only [List.all_eq_true, List.mem_range, beq_iff_eq, decide_eq_true_eq]
    constructor
    · intro q
      apply List.ext_getElem hsz
      intro j a1 a2
      have := q j a1
      rw [List.getD_eq_getElem?_getD, List.getD_eq_getElem?_getD, List.getElem?_eq_getElem a1, List.getElem?_eq_getElem a2] at this
      exact this
    · rintro rfl j _; rfl

section
variable {prog : Program} {w : World} {A : Around} {E : Value → Shared → Prop} {s : Shared} {e : En} {G : Array GenState} {B : Heap} {L : Addr} {m : Str → Option Value} {U : Own} {env : Env}
theorem bEqInts {l b : Addr} {vs ws : List Value} {ns ms : List Int} {Q : Value → Shared → Prop} (hu : A.units + 20 < cLine) (hl : Is s.heap l (LstP vs)) (hb : Is s.heap b (LstP ws)) (hi : IntsAre vs ns) (hj : IntsAre ws ms)
    (h : Q (.bool (decide (ns = ms))) s) : wpAny (model prog w) A (compareOp .Eq (.ref l) (.ref b)) Q E s := by
  by_cases hsz : ns.length = ms.length
  · obtain ⟨ef, h1, h2⟩ := ints_all hi hj hsz
    refine eq_listAt (lst_is hl) (lst_is hb) (by simp [hi.length, hj.length, hsz]) (by lia) (h1 _ _) ?_
    rw [h2]; exact h
  · refine eq_list_lengthsAt (lst_is hl) (lst_is hb) (by simp [hi.length, hj.length, hsz]) (by lia) ?_
    rw [decide_eq_false (fun q => hsz (by rw [q]))] at h; exact h
theorem bNeInts {l b : Addr} {vs ws : List Value} {ns ms : List Int} {Q : Value → Shared → Prop} (hu : A.units + 20 < cLine) (hl : Is s.heap l (LstP vs)) (hb : Is s.heap b (LstP ws)) (hi : IntsAre vs ns) (hj : IntsAre ws ms)
    (h : Q (.bool (!decide (ns = ms))) s) : wpAny (model prog w) A (compareOp .NotEq (.ref l) (.ref b)) Q E s := by
  by_cases hsz : ns.length = ms.length
  · obtain ⟨ef, h1, h2⟩ := ints_all hi hj hsz
    refine RcNeAt.lists (e := ef) (lst_is hl) (lst_is hb) (by simp [hi.length, hj.length, hsz]) (by lia) (h1 _ _) prog w E Q ?_
    rw [h2]; exact h
  · refine RcNeAt.lists_lengths (lst_is hl) (lst_is hb) (by simp [hi.length, hj.length, hsz]) (by lia) prog w E Q ?_
    rw [decide_eq_false (fun q => hsz (by rw [q]))] at h; exact h
theorem bEqNil {l b : Addr} {vs : List Value} {Q : Value → Shared → Prop} (hu : A.units + 20 < cLine) (hl : Is s.heap l (LstP vs)) (hb : Is s.heap b (LstP []))
    (h : Q (.bool vs.isEmpty) s) : wpAny (model prog w) A (compareOp .Eq (.ref l) (.ref b)) Q E s := by
  cases vs with
  | nil =>
    refine eq_listAt (e := fun _ => true) (lst_is hl) (lst_is hb) rfl (by lia) (fun j h1 _ => absurd h1 (Nat.not_lt_zero _)) h
  | cons v vs => exact eq_list_lengthsAt (lst_is hl) (lst_is hb) (by simp) (by lia) h
theorem bNeNil {l b : Addr} {vs : List Value} {Q : Value → Shared → Prop} (hu : A.units + 20 < cLine) (hl : Is s.heap l (LstP vs)) (hb : Is s.heap b (LstP []))
    (h : Q (.bool (!vs.isEmpty)) s) : wpAny (model prog w) A (compareOp .NotEq (.ref l) (.ref b)) Q E s := by
  cases vs with
  | nil =>
    exact RcNeAt.lists (e := fun _ => true) (lst_is hl) (lst_is hb) rfl (by lia) (fun j h1 _ => absurd h1 (Nat.not_lt_zero _)) prog w E Q h
  | cons v vs => exact RcNeAt.lists_lengths (lst_is hl) (lst_is hb) (by simp) (by lia) prog w E Q h

/-- int tuples are compared by what they hold -/
theorem intsItems {prog : Program} {w : World} {vs : List Value} {ks : List Int} (h : IntsAre vs ks) : ItemsAre (PySem.intKind prog w) ks vs := by
  induction h with
  | nil => exact .nil
  | cons n t _ ih => exact .cons (PySem.intKind_is ..) ih
theorem tup_eqAt {A : Around} {s : Shared} {a b : Addr} {vs ws : List Value} {ks ms : List Int} (hu : A.units < cLine) (ha : Is s.heap a (TupP vs)) (hb : Is s.heap b (TupP ws)) (hi : IntsAre vs ks) (hj : IntsAre ws ms) :
    EqAt A s (.ref a) (.ref b) (decide (ks = ms)) := fun prog w E Q h =>
  (tk prog w).eqBool hu (tupAt_of ha (intsItems hi)) (tupAt_of hb (intsItems hj)) h
theorem any_tups {B : Heap} {vs : List Value} {kss : List (List Int)} (h : TupsAre B vs kss) (k : List Int) : ∀ f : Value → Bool, (∀ v ks, v ∈ vs → IntTup B v ks → f v = decide (ks = k)) → vs.any f = kss.contains k := by
  intro f hf
  induction h with
  | nil => rfl
  | @cons v ks vs kss h1 _ ih =>
    rw [List.any_cons, List.contains_cons, hf v ks (.head _) h1, ih fun v ks hv => hf v ks (.tail _ hv)]
    have : decide (ks = k) = (k == ks) := by
      rw [Bool.eq_iff_iff, decide_eq_true_eq, beq_iff_eq]; exact ⟨Eq.symm, Eq.symm⟩
    rw [this]
theorem tups_mem {B : Heap} {vs : List Value} {kss : List (List Int)} (h : TupsAre B vs kss) : ∀ v ∈ vs, ∃ ks, IntTup B v ks := by
  induction h with
  | nil => exact fun _ h => nomatch h
  | cons a _ ih =>
    intro v hv
    rcases List.mem_cons.mp hv with rfl | hv
    · exact ⟨_, a⟩
    · exact ih v hv
theorem intTup_inj {B : Heap} {v : Value} {a b : List Int} (x : IntTup B v a) (y : IntTup B v b) : a = b := by
  obtain ⟨t, vs, rfl, h1, h2⟩ := x
  obtain ⟨t', vs', e, h3, h4⟩ := y
  cases e
  obtain ⟨o, ho, hc, n, hd⟩ := h1
  obtain ⟨o', ho', hc', n', hd'⟩ := h3
  rw [ho] at ho'; cases ho'
  rw [hd] at hd'
  injection hd' with h5 _
  have h5 : vs = vs' := by simpa using h5
  subst h5
  rw [← h2.numsOf, ← h4.numsOf]
open Classical in
/-- the key of a value, if it is an int tuple -/
noncomputable def keyOf (B : Heap) (v : Value) : List Int := if h : ∃ ks, IntTup B v ks then h.choose else []
theorem keyOf_eq {B : Heap} {v : Value} {ks : List Int} (h : IntTup B v ks) : keyOf B v = ks := by
  unfold keyOf
  rw [dif_pos ⟨ks, h⟩]
  exact intTup_inj (Exists.choose_spec ⟨ks, h⟩) h
theorem inTups {l t : Addr} {vs ws : List Value} {kss : List (List Int)} {k : List Int} {Q : Value → Shared → Prop} (F : Fs e G B L m U s) (hu : A.units + 20 < cLine) (hl : Is s.heap l (LstP vs)) (h : TupsAre B vs kss) (ht : Is B t (TupP ws)) (hk : IntsAre ws k)
    (hq : Q (.bool (kss.contains k)) s) : wpAny (model prog w) A (compareOp .In (.ref t) (.ref l)) Q E s := by
  refine in_listAt (fun v => decide (keyOf B v = k)) (lst_is hl) (fun y hy => ?_) ?_
  · have hy : y ∈ vs := by simpa using hy
    obtain ⟨ks, hks⟩ := tups_mem h y hy
    have e1 := keyOf_eq hks
    obtain ⟨a, vs', rfl, h1, h2⟩ := hks
    show EqAt A.in1 s _ _ (decide (keyOf B (.ref a) = k))
    rw [e1]
    exact tup_eqAt (by show A.units + 1 < _; lia) (h1.keeps F.kp) (ht.keeps F.kp) h2 hk
  · have := any_tups h k (fun v => decide (keyOf B v = k)) (fun v ks _ hv => by rw [keyOf_eq hv])
    have e2 : vs.toArray.any (fun v => decide (keyOf B v = k)) = vs.any fun v => decide (keyOf B v = k) := by simp
    rw [e2, this]; exact hq
theorem ninTups {l t : Addr} {vs ws : List Value} {kss : List (List Int)} {k : List Int} {Q : Value → Shared → Prop} (F : Fs e G B L m U s) (hu : A.units + 20 < cLine) (hl : Is s.heap l (LstP vs)) (h : TupsAre B vs kss) (ht : Is B t (TupP ws)) (hk : IntsAre ws k)
    (hq : Q (.bool (!kss.contains k)) s) : wpAny (model prog w) A (compareOp .NotIn (.ref t) (.ref l)) Q E s := by
  refine notIn_listAt (fun v => decide (keyOf B v = k)) (lst_is hl) (fun y hy => ?_) ?_
  · have hy : y ∈ vs := by simpa using hy
    obtain ⟨ks, hks⟩ := tups_mem h y hy
    have e1 := keyOf_eq hks
    obtain ⟨a, vs', rfl, h1, h2⟩ := hks
    show EqAt A.in1 s _ _ (decide (keyOf B (.ref a) = k))
    rw [e1]
    exact tup_eqAt (by show A.units + 1 < _; lia) (h1.keeps F.kp) (ht.keeps F.kp) h2 hk
  · have := any_tups h k (fun v => decide (keyOf B v = k)) (fun v ks _ hv => by rw [keyOf_eq hv])
    have e2 : vs.toArray.any (fun v => decide (keyOf B v = k)) = vs.any fun v => decide (keyOf B v = k) := by simp
    rw [e2, this]; exact hq
/-- what a call made is taken over -/
theorem Fs.adopt {G' : Array GenState} {B' : Heap} {m' : Str → Option Value} {s' : Shared} {D : Addr} {P : Obj → Prop} (F : Fs e G B L m U s) (F' : Fs e G' B' L m' U s') (hD : s.heap.get? D = none) (hB : B'.get? D = none) (hi : Is s'.heap D P) : Fs e G' B' L m' ((D, P) :: U) s' := by
  refine ⟨F'.rn, F'.ns, F'.lb, F'.lg, fun p hp => ?_, ?_, F'.os, F'.gens⟩
  · rcases List.mem_cons.mp hp with rfl | hp
    · refine ⟨hi, hB, fun q => ?_, .inl (F.fresh hD)⟩
      obtain ⟨o, z⟩ := F.L_some
      have q : D = L := q
      rw [← q, hD] at z; cases z
    · exact F'.own p hp
  · rw [List.map_cons, List.nodup_cons]
    refine ⟨fun q => ?_, F'.dis⟩
    obtain ⟨p, hp, q⟩ := List.mem_map.mp q
    obtain ⟨o, z, _⟩ := (F.own p hp).1
    have q : p.1 = D := q
    rw [q, hD] at z; cases z
theorem Fs.adopts {G' : Array GenState} {B' : Heap} {m' : Str → Option Value} {s' : Shared} (V : Own) (F : Fs e G B L m U s) (F' : Fs e G' B' L m' U s') (hV : ∀ p ∈ V, s.heap.get? p.1 = none ∧ B'.get? p.1 = none ∧ Is s'.heap p.1 p.2) (hn : (V.map (·.1)).Nodup) : Fs e G' B' L m' (V ++ U) s' := by
  refine ⟨F'.rn, F'.ns, F'.lb, F'.lg, fun p hp => ?_, ?_, F'.os, F'.gens⟩
  · rcases List.mem_append.mp hp with hp | hp
    · obtain ⟨h1, h2, h3⟩ := hV p hp
      refine ⟨h3, h2, fun q => ?_, .inl (F.fresh h1)⟩
      obtain ⟨o, z⟩ := F.L_some
      rw [← q, h1] at z; cases z
    · exact F'.own p hp
  · rw [List.map_append, List.nodup_append]
    refine ⟨hn, F'.dis, fun a ha b hb q => ?_⟩
    obtain ⟨p, hp, rfl⟩ := List.mem_map.mp ha
    obtain ⟨p', hp', rfl⟩ := List.mem_map.mp hb
    obtain ⟨o, z, _⟩ := (F.own p' hp').1
    rw [← q, (hV p hp).1] at z; cases z
theorem assignIO2 {l ts : List (Value → Sem Unit)} {t : Value → Sem Unit} {its : List Value} {x : Value} {xs : List Value} {Q : Unit → Shared → Prop} (hl : l = t :: ts) (hi : its = x :: xs)
    (h : wpAny (model prog w) A (t x) (fun _ s₁ => wpAny (model prog w) A (assignInOrder ts xs) Q E s₁) E s) : wpAny (model prog w) A (assignInOrder l its) Q E s := by
  subst hl hi; exact assignInOrder_cons h
theorem eStr {x : Str} {k : Nat} {pos : Pos} {Q : Value → Shared → Prop} (F : Fs e G B L m U s) (h : ∀ s' t, Fs e G B L m U s' → Q (.str x t) s') : wpAny (model prog w) A (eval (.Constant (.str x) k pos) env) Q E s := wpAny_Constant_str (h _ _ (F.tk _))
theorem whileStmt {test : Expr} {body : List Stmt} {pos : Pos} {Q : Flow → Shared → Prop}
    (h : ∀ X : Value → Shared → Prop, codeAny (model prog w) A (.whileLoop test body [] env) (fun r s' => match r with | .ok f => Q f s' | .error e => X e s') s) :
    wpAny (model prog w) A (exec (.While test body [] pos) env) Q E s := wpAny_While (h _)
theorem whileN {test : Expr} {body : List Stmt} {R : Result → Shared → Prop} (I : Nat → Shared → Prop)
    (turn : ∀ n s E', I n s → wpAny (model prog w) A (isTrue test env (eval test env)) (fun b s2 =>
      if b = true then wpAny (model prog w) A (execs body env) (fun f s3 => match f with | .next | .cont => ∃ m, m < n ∧ I m s3 | .brk => R (.ok .next) s3 | .ret v => R (.ok (.ret v)) s3) E' s2
      else R (.ok .next) s2) E' s) (n : Nat) (h : I n s) : codeAny (model prog w) A (.whileLoop test body [] env) R s := by
  refine codeAny_whileLoop I (fun n s hI => wpAny_mono (turn n s _ hI) (fun b s2 h2 => ?_) fun _ _ x => x) n h
  cases b with
  | true =>
    simp only [if_true] at h2 ⊢
    refine wpAny_mono h2 (fun f s3 h3 => ?_) fun _ _ x => x
    cases f <;> exact h3
  | false =>
    simp only [Bool.false_eq_true, if_false] at h2 ⊢
    exact wpAny_execs_nil h2
end
end
section
section
variable {w : World} {A : Around} {E : Value → Shared → Prop} {s : Shared} {e : En} {G : Array GenState} {B : Heap} {L : Addr} {m : Str → Option Value} {U : Own}
set_option maxHeartbeats 1000000 in
theorem nComp {v1 v4 : Value} {p : Int × Int} {t1 t2 : Tok} {Q : Value → Shared → Prop} (F : Fs e G B L m U s) (gd : Gd w B) (rm : Rm A 2)
    (h : ∀ s' B' x, Kp B B' → CompB B' x p → Fs e G B' L m U s' → Q (.ref x) s') : wpAny (model PR w) A (call (.ref 111) [v1, .int p.1 t1, .int p.2 t2, v4]) Q E s := by
  refine cInst F gd rm (okComponent w) (fI := 108) (by k_is) (by k_is) ?_
  intro s1 A1 x dx B1 k hx0 hd1 hd2 F1 R1
  have gd0 := gd.mono k
  have hown := F1.own _ (.head _)
  refine' enterP0 (n := 0) (binds := [(Str.ofString "self", .ref x), (Str.ofString "ident", v1), (Str.ofString "across", .int p.1 t1), (Str.ofString "down", .int p.2 t2), (Str.ofString "quant", v4)]) [dx] [(dx, Atts [])] gd0 F1.kp R1 ?ho ?hcd ?hb ?hV ?hd ?hl ?h ?c1 ?c2 ?c3 ?c4
  walk_at "enter"
  case hV => intro p hp; rcases List.mem_singleton.mp hp with rfl; exact ⟨hown.1, hown.2.1, .head _⟩
  case hd => simp
  case h =>
  have FF := F1
  clear F F1
  intro L2 s2 E' A' m0 F R env Qr
  have gdd := gd; clear gd; have gd := gd0
  walk_at "go"
  refine ⟨rfl, ?_⟩
  have F3 := FF.did1 F.rs F.top
  refine Fs.frz F3 hd1 ?_; intro B4 k4 hi4 F4
  exact h _ _ _ (k.trans k4) ⟨_, _, _, _, dx, k4 _ _ hx0, hi4⟩ F4

set_option maxHeartbeats 1000000 in
theorem nFrame {v1 v2 : Value} {d : FrD} {cl : Addr} {cs : List Value} {t1 t2 t3 : Tok} {Q : Value → Shared → Prop} (F : Fs e G B L m U s) (gd : Gd w B) (rm : Rm A 2) (hcl : Is B cl (LstP cs)) (hcc : CompsB B cs d.sm)
    (h : ∀ s' B' x, Kp B B' → FrB B' x d → Fs e G B' L m U s' → Q (.ref x) s') : wpAny (model PR w) A (call (.ref 177) [v1, v2, .int d.height t1, .int d.width t2, .ref cl, .int 2 t3]) Q E s := by
  refine cInst F gd rm (okFrame w) (fI := 129) (by k_is) (by k_is) ?_
  intro s1 A1 x dx B1 k hx0 hd1 hd2 F1 R1
  have gd0 := gd.mono k
  have hown := F1.own _ (.head _)
  refine' enterP0 (n := 0) (binds := [(Str.ofString "self", .ref x), (Str.ofString "kind", v1), (Str.ofString "precision", v2), (Str.ofString "height", .int d.height t1), (Str.ofString "width", .int d.width t2), (Str.ofString "components", .ref cl), (Str.ofString "n", .int 2 t3)]) [dx] [(dx, Atts [])] gd0 F1.kp R1 ?ho ?hcd ?hb ?hV ?hd ?hl ?h ?c1 ?c2 ?c3 ?c4
  walk_at "enter"
  case hV => intro p hp; rcases List.mem_singleton.mp hp with rfl; exact ⟨hown.1, hown.2.1, .head _⟩
  case hd => simp
  case h =>
  have FF := F1
  clear F F1
  intro L2 s2 E' A' m0 F R env Qr
  have gdd := gd; clear gd; have gd := gd0
  walk_at "go"
  refine ⟨rfl, ?_⟩
  have F3 := FF.did1 F.rs F.top
  refine Fs.frz F3 hd1 ?_; intro B4 k4 hi4 F4
  exact h _ _ _ (k.trans k4) ⟨_, _, _, _, _, _, _, ⟨dx, k4 _ _ hx0, hi4⟩, hcl.keeps (k.trans k4), hcc.mono (k.trans k4)⟩ F4

set_option maxHeartbeats 1000000 in
theorem nScan {v1 v2 v3 v4 v5 v6 : Value} {pl : Addr} {vs : List Value} {ps : List Int} {Q : Value → Shared → Prop} (F : Fs e G B L m U s) (gd : Gd w B) (rm : Rm A 2) (hpl : Is B pl (LstP vs)) (hi : IntsAre vs ps)
    (h : ∀ s' B' x, Kp B B' → ScB B' x ps → Fs e G B' L m U s' → Q (.ref x) s') : wpAny (model PR w) A (call (.ref 245) [.ref pl, v1, v2, v3, v4, v5, v6]) Q E s := by
  refine cInst F gd rm (okScan w) (fI := 228) (by k_is) (by k_is) ?_
  intro s1 A1 x dx B1 k hx0 hd1 hd2 F1 R1
  have gd0 := gd.mono k
  have hown := F1.own _ (.head _)
  refine' enterP0 (n := 0) (binds := [(Str.ofString "self", .ref x), (Str.ofString "places", .ref pl), (Str.ofString "dc_slots", v1), (Str.ofString "ac_slots", v2), (Str.ofString "start", v3), (Str.ofString "end", v4), (Str.ofString "high", v5), (Str.ofString "low", v6)]) [dx] [(dx, Atts [])] gd0 F1.kp R1 ?ho ?hcd ?hb ?hV ?hd ?hl ?h ?c1 ?c2 ?c3 ?c4
  walk_at "enter"
  case hV => intro p hp; rcases List.mem_singleton.mp hp with rfl; exact ⟨hown.1, hown.2.1, .head _⟩
  case hd => simp
  case h =>
  have FF := F1
  clear F F1
  intro L2 s2 E' A' m0 F R env Qr
  have gdd := gd; clear gd; have gd := gd0
  walk_at "go"
  refine ⟨rfl, ?_⟩
  have F3 := FF.did1 F.rs F.top
  refine Fs.frz F3 hd1 ?_; intro B4 k4 hi4 F4
  exact h _ _ _ (k.trans k4) ⟨_, _, _, _, _, _, _, _, ⟨dx, k4 _ _ hx0, hi4⟩, hpl.keeps (k.trans k4), hi⟩ F4
end
end
section
open PySem.SeqAt
set_option maxHeartbeats 1000000 in
theorem die {w : World} {A : Around} {E : Value → Shared → Prop} {s : Shared} {B : Heap} {t : Addr} {a b n : Int} {tk : Tok} {Q : Value → Shared → Prop}
    (gd : Gd w B) (kB : Kp B s.heap) (rm : Rm A 1) (ht : Is s.heap t (TrayP a b)) (hb : B.get? t = none) (hn : 0 < n) (hn2 : n < 1000000)
    (h : ∀ s' tk', Rs [t] s.gens B s B s' → Is s'.heap t (TrayP (dieF a b n).2.1 (dieF a b n).2.2) → Q (.int (dieF a b n).1 tk') s') :
    wpAny (model PR w) A (call (.ref 263) [.ref t, .int n tk]) Q E s := by
  obtain ⟨o, ho, t1, t2, hP⟩ := ht
  refine' enterP (n := 0) (binds := [(Str.ofString "tray", .ref t), (Str.ofString "many", .int n tk)]) [t] [(t, LsqP [.int a t1, .int b t2])] gd kB rm ?ho ?hcd ?hb ?hV ?hd ?hl ?h ?c1 ?c2 ?c3 ?c4
  walk_at "enter"
  case hV => intro p hp; cases hp with | head => exact ⟨⟨o, ho, hP⟩, hb, .head _⟩ | tail _ h => exact nomatch h
  case hd => simp
  case h =>
  intro L s1 E' A' m0 F R env Qr
  clear ho hP
  walk_at "go"
  by_cases c : 0 < a
  · refine ifP (by simpa using c) ?_
    walk_at "go"
    have e : dieF a b n = (a % n, a / n, b) := if_pos c
    rw [e] at h
    obtain ⟨o', z, q⟩ := F.top
    exact h _ _ F.rs ⟨o', z, _, _, q⟩
  · refine ifN (by simpa using c) ?_
    walk_at "go"
    have e : dieF a b n = ((b * 16807 + 59) % 2147483647 / 73 % n, a, (b * 16807 + 59) % 2147483647) := if_neg c
    rw [e] at h
    obtain ⟨o', z, q⟩ := F.top
    exact h _ _ F.rs ⟨o', z, _, _, q⟩
theorem dieF_bd {a b n : Int} (h : 0 < n) : 0 ≤ (dieF a b n).1 ∧ (dieF a b n).1 < n := by
  unfold dieF; split
  · exact ⟨Int.emod_nonneg _ (by lia), Int.emod_lt_of_pos _ h⟩
  · exact ⟨Int.emod_nonneg _ (by lia), Int.emod_lt_of_pos _ h⟩
/-- a tray, whatever lies in it -/
noncomputable def TrP : Obj → Prop := fun o => ∃ a b, TrayP a b o
section
variable {w : World} {A : Around} {E : Value → Shared → Prop} {s : Shared} {e : En} {G : Array GenState} {B : Heap} {L : Addr} {m : Str → Option Value} {U : Own}
/-- a die is thrown -/
theorem dieS {t : Addr} {n : Int} {tk : Tok} {Q : Value → Shared → Prop} (F : Fs e G B L m ((t, TrP) :: U) s) (gd : Gd w B) (rm : Rm A 1) (h0 : 0 < n) (h1 : n < 1000000)
    (h : ∀ s' r tk', 0 ≤ r → r < n → Fs e G B L m ((t, TrP) :: U) s' → Q (.int r tk') s') : wpAny (model PR w) A (call (.ref 263) [.ref t, .int n tk]) Q E s := by
  obtain ⟨o, ho, a, b, hP⟩ := F.top
  refine die gd F.kp rm ⟨o, ho, hP⟩ (F.own _ (.head _)).2.1 h0 h1 fun s' tk' R1 hi => ?_
  obtain ⟨h2, h3⟩ := dieF_bd (a := a) (b := b) h0
  refine h s' _ tk' h2 h3 (F.did1 R1 ?_)
  obtain ⟨o', ho', hP'⟩ := hi
  exact ⟨o', ho', _, _, hP'⟩
theorem bNeNilW {l b : Addr} {vs : List Value} {Q : Value → Shared → Prop} (hu : A.units + 20 < cLine) (hl : Is s.heap l (LsqP vs)) (hb : Is s.heap b (LstP []))
    (h : Q (.bool (!vs.isEmpty)) s) : wpAny (model PR w) A (compareOp .NotEq (.ref l) (.ref b)) Q E s := by
  have hl : s.heap.IsList l vs.toArray := hl
  cases vs with
  | nil =>
    exact RcNeAt.lists (e := fun _ => true) hl (lst_is hb) rfl (by lia) (fun j h1 _ => absurd h1 (Nat.not_lt_zero _)) PR w E Q h
  | cons v vs => exact RcNeAt.lists_lengths hl (lst_is hb) (by simp) (by lia) PR w E Q h
end

set_option maxHeartbeats 1000000 in
theorem lawLotsS {w : World} {A : Around} {E : Value → Shared → Prop} {s : Shared} {B : Heap} {t : Addr} {n : Nat} {tk : Tok} {Q : Value → Shared → Prop}
    (gd : Gd w B) (kB : Kp B s.heap) (rm : Rm A 3) (ht : Is s.heap t TrP) (htB : B.get? t = none) (h0 : 0 < n) (h1 : n < 1000)
    (h : ∀ s' B' l lvs (lots : List (Nat × Nat)), Kp B B' → Rs [t] s.gens B s B' s' → Is s'.heap t TrP → Is B' l (LstP lvs) → TupsAre B' lvs (lots.map fun l => [(l.1 : Int), (l.2 : Int)]) → (∀ l ∈ lots, l.1 + l.2 ≤ n) → lots.length ≤ 3 → Q (.ref l) s') :
    wpAny (model PR w) A (call (.ref 299) [.ref t, .int n tk]) Q E s := by
  refine' enterP (n := 2) (binds := [(Str.ofString "tray", .ref t), (Str.ofString "many", .int n tk)]) [t] [(t, TrP)] gd kB rm ?ho ?hcd ?hb ?hV ?hd ?hl ?h ?c1 ?c2 ?c3 ?c4
  walk_at "enter"
  case hV => intro p hp; rcases List.mem_singleton.mp hp with rfl; exact ⟨ht, htB, .head _⟩
  case hd => simp
  case h =>
  intro L s1 E' A' m0 F R env Qr
  walk_at "go"
  refine dieS F gd (R.less (by decide)) (by lia) (by lia) ?_
  clear F; intro s2 r tr hr0 hr1 F
  walk_at "go"
  by_cases c : r = 0
  · rw [show (r == (0 : Int)) = true from by simp [c]]; refine ifP rfl ?_
    walk_at "go"
    refine nLstP F ?_
    clear F; intro s3 B3 l3 k3 hl3 F
    refine h _ _ _ _ [(0, n)] (k.trans k3) F.rs F.top hl3 (.cons ⟨_, _, rfl, Is.keeps (by assumption) k3, .cons _ _ (.cons _ _ .nil)⟩ .nil) ?_ (by simp)
    intro l hl
    rcases List.mem_singleton.mp hl with rfl; simp
  · rw [show (r == (0 : Int)) = false from by simp [c]]; refine ifN Bool.false_ne_true ?_
    walk_at "go"
    refine nLstO F ?_
    clear F; intro s3 D hD F; walk_at "su"
    walk_at "go"
    refine for1 F R.hh ?_ (fun _ => rfl)
    walk_at "go"
    refine dieS F.swap gd (R.less (by decide)) (by lia) (by lia) ?_
    clear F; intro s4 r4 t4 hr40 hr41 F
    replace F := F.swap
    walk_at "go"
    refine bRange1 F ?_
    clear F; intro s5 B5 r5 k hr5 F; walk_at "lift"
    have k5 := k; clear k
    refine iRng0 (n := (1 + r4).toNat) F hr5 (by lia) (by lia) ?_
    clear F; intro s6 it hit F
    refine ForTodo.mk (B2 := B5) (B₀ := B5) (n := (1 + r4).toNat) it (nxRange0 _) (.refl _) ?_ F (fun i B' m' U' => ∃ ys lots, U' = [(D, LstP ys), (t, TrP)] ∧ TupsAre B' ys (lots.map fun l : Nat × Nat => [(l.1 : Int), (l.2 : Int)]) ∧ (∀ l ∈ lots, l.1 + l.2 ≤ n) ∧ lots.length = i ∧ m' (Str.ofString "tray") = some (.ref t) ∧ m' (Str.ofString "many") = some (.int n tk) ∧ m' (Str.ofString "found") = some (.ref D)) (exI2 [] [] ⟨rfl, .nil, (fun _ h => nomatch h), rfl, rfl, rfl, rfl⟩) ?_
    · intro i p hp
      rcases List.mem_singleton.mp hp with rfl; exact hit
    intro Iv
    refine ⟨?_, ?_, ?_⟩
    · rintro i B' B'' m' U' hEx k
      refine ea2_3 hEx ?_
      clear hEx; rintro ys lots h1 h2 h3
      exact exI2 ys lots ⟨h1, h2.mono k, h3⟩
    · rintro i v B7 m7 U7 s7 E7 hi k hEx ⟨tv, rfl⟩ F
      refine ea2_7 hEx ?_
      clear hEx; rintro ys lots rfl hys hlo hll m1 m2 m3
      walk_at "su"
      walk_at "lift"
      have k7 := k; clear k
      walk_at "go"
      refine dieS F.f3 gd (R.less (by decide)) (by lia) (by lia) ?_
      clear F; intro s8 r8 t8 hr80 hr81 F
      replace F := F.b3
      walk_at "go"
      refine mAppend (show Is _ D (LstP ys) by walk_at "at") ?_
      walk_at "go"
      refine bMin2 F R.hh ?_
      clear F; intro s9 t9 F
      walk_at "go"
      refine dieS F.f3 gd (R.less (by decide)) (by lia) (by lia) ?_
      clear F; intro s10 r10 t10 hr100 hr101 F
      replace F := F.b3
      walk_at "go"
      have hyl := hys.length
      refine aList F.swap (by rw [hyl, List.length_map]; lia) ?_
      clear F; intro s11 F
      replace F := F.swap; walk_at "su"
      walk_at "go"
      refine TurnQ.mk (.inl rfl) (k7.trans k) F (exI2 _ (lots ++ [(r8.toNat, (1 + r10).toNat)]) ⟨rfl, ?_, ?_, by simp [hll], m1, m2, m3⟩)
      · rw [List.map_append]
        refine (hys.mono k).app (.cons ⟨_, _, rfl, ht, ?_⟩ .nil)
        have e1 : ((r8.toNat : Nat) : Int) = r8 := by lia
        have e2 : (((1 + r10).toNat : Nat) : Int) = 1 + r10 := by lia
        show IntsAre _ [((r8.toNat : Nat) : Int), (((1 + r10).toNat : Nat) : Int)]
        rw [e1, e2]
        exact .cons _ _ (.cons _ _ .nil)
      · intro l hl
        rcases List.mem_append.mp hl with hl | hl
        · exact hlo l hl
        · rcases List.mem_singleton.mp hl with rfl
          show r8.toNat + (1 + r10).toNat ≤ n
          lia
    · rintro B7 m7 U7 s7 k7 hEx F
      refine ea2_7 hEx ?_
      clear hEx; rintro ys lots rfl hys hlo hll m1 m2 m3
      walk_at "su"
      walk_at "go"
      refine Fs.frz F hD ?_; intro B8 k8 hl8 F8
      exact h _ _ _ _ lots (k5.trans (k7.trans k8)) F8.rs F8.top hl8 (hys.mono k8) hlo (by lia)
end
section
theorem ifB {c : Prop} [Decidable c] {P R : Prop} (h1 : c → P) (h2 : ¬c → R) : if c then P else R := by
  by_cases h : c
  · rw [if_pos h]; exact h1 h
  · rw [if_neg h]; exact h2 h
section
variable {w : World} {A : Around} {E : Value → Shared → Prop} {s : Shared} {e : En} {G : Array GenState} {B : Heap} {L : Addr} {m : Str → Option Value} {U : Own}
theorem bPow {a b : Int} {t u : Tok} {Q : Value → Shared → Prop} (F : Fs e G B L m U s) (h0 : b ≥ 0) (h1 : ¬(b == 0) = true) (h2 : ¬(a == 0 || a == 1) = true) (h3 : ¬(a == -1) = true) (h4 : ¬Builtin.Int.intTooBig (((Builtin.Int.intBits a : Nat) : Int) * b) = true)
    (h : ∀ s' t', Fs e G B L m U s' → Q (.int (a ^ b.toNat) t') s') : wpAny (model PR w) A (binaryOp .Pow (.int a t) (.int b u)) Q E s :=
  PySem.AutoIntOps.pow_4 h0 h1 h2 h3 h4 (h _ _ (F.tk _))
end

set_option maxHeartbeats 1000000 in
theorem lawTrayS {w : World} {A : Around} {E : Value → Shared → Prop} {s : Shared} {B : Heap} {l : Addr} {svs : List Value} {sns : List Int} {Q : Value → Shared → Prop}
    (gd : Gd w B) (kB : Kp B s.heap) (rm : Rm A 1) (hl : Is s.heap l (LsqP svs)) (hi : IntsAre svs sns)
    (h : ∀ s' B' D, Kp B B' → Rs [] s.gens B s B' s' → s.heap.get? D = none → B'.get? D = none → Is s'.heap D TrP → Q (.ref D) s') :
    wpAny (model PR w) A (call (.ref 256) [.ref l]) Q E s := by
  refine' enterP (n := 0) (binds := [(Str.ofString "script", .ref l)]) [] [] gd kB rm ?ho ?hcd ?hb ?hV ?hd ?hl ?h ?c1 ?c2 ?c3 ?c4
  walk_at "enter"
  case hV => intro p hp; exact nomatch hp
  case hd => exact .nil
  case h =>
  intro L s1 E' A' m0 F R env Qr
  refine wpAny_execs_cons ?_
  refine wpAny_Assign_Name ?_ rfl
  refine wpAny_mono (Q := fun v s' => ∃ B2 x t, v = .int x t ∧ Kp B B2 ∧ Fs ⟨[], B, s⟩ s.gens B2 L (fun z => List.lookup z [(Str.ofString "script", Value.ref l)].reverse) [] s') ?_ ?_ (fun _ _ h => h)
  · walk_at "go"
    refine nLstP F ?_
    clear F; intro s2 B2 l2 k hl2 F; walk_at "lift"
    have k0 := k; clear k
    walk_at "go"
    refine bNeNilW R.u (F.old hl) (hl2.keeps F.kp) ?_
    walk_at "go"
    cases svs with
    | nil =>
      rw [show (!([] : List Value).isEmpty) = false from rfl]; refine ifN Bool.false_ne_true ?_
      walk_at "go"
      exact ⟨_, _, _, rfl, k0, F⟩
    | cons v svs =>
      rw [show (!(v :: svs).isEmpty) = true from rfl]; refine ifP rfl ?_
      walk_at "go"
      cases hi with | cons n t _ =>
      refine gLsq (F.old hl) (by lia) (by lia) (k := 0) rfl ?_
      exact ⟨_, _, _, rfl, k0, F⟩
  clear F
  rintro _ s2 hX9; refine ea3_3 hX9 ?_; clear hX9; rintro B2 told tt rfl k F
  walk_at "lift"
  have k0 := k; clear k
  refine sLoc F ?_ rfl rfl
  clear F; intro mk s3 F
  refine wpAny_execs_cons ?_
  refine wpAny_Assign_Name ?_ rfl
  refine wpAny_mono (Q := fun v s' => ∃ x t, v = .int x t ∧ Fs ⟨[], B, s⟩ s.gens B2 L (fun y => if y = Str.ofString "told" then some (.int told tt) else List.lookup y [(Str.ofString "script", Value.ref l)].reverse) [] s') ?_ ?_ (fun _ _ h => h)
  · walk_at "go"
    cases hc : decide (0 ≤ told) with
    | true =>
      refine ifP rfl ?_
      walk_at "go"
      exact ⟨_, _, rfl, F⟩
    | false =>
      refine ifN Bool.false_ne_true ?_
      walk_at "go"
      exact ⟨_, _, rfl, F⟩
  clear F
  rintro _ s4 hX9; refine ea2_2 hX9 ?_; clear hX9; rintro size ts rfl F
  refine sLoc F ?_ rfl rfl
  clear F; intro mk s5 F
  refine wpAny_execs_cons ?_
  refine wpAny_Return_some ?_
  refine List_ ?_
  refine spliced_more ?_
  refine wpAny_mono (Q := fun v s' => ∃ x t, v = .int x t ∧ Fs ⟨[], B, s⟩ s.gens B2 L (fun y => if y = Str.ofString "size" then some (.int size ts) else if y = Str.ofString "told" then some (.int told tt) else List.lookup y [(Str.ofString "script", Value.ref l)].reverse) [] s') ?_ ?_ (fun _ _ h => h)
  · walk_at "go"
    refine bPow F (by decide) (by decide) (by decide) (by decide) (by decide +kernel) ?_
    clear F; intro s6 t6 F
    walk_at "go"
    refine ifB (fun _ => ?_) (fun _ => ?_)
    · walk_at "go"
      exact ⟨_, _, rfl, F⟩
    · walk_at "go"
      exact ⟨_, _, rfl, F⟩
  clear F
  rintro _ s6 hX9; refine ea2_2 hX9 ?_; clear hX9; rintro x1 tx rfl F
  walk_at "go"
  refine bIntBool F ?_
  clear F; intro s7 t7 F
  walk_at "go"
  refine nLstO F ?_
  clear F; intro s8 D hD F; walk_at "su"
  walk_at "go"
  have F2 := F.weak (P' := TrP) fun o ho => ⟨_, _, _, _, ho.lsq⟩
  exact h _ _ _ k0 F2.rs hD (F2.own _ (.head _)).2.1 F2.top
end
section
noncomputable def smT (sm : List (Int × Int)) : List (List Int) := sm.map fun p => [p.1, p.2]

set_option maxHeartbeats 4000000 in
theorem lawFrameS {w : World} {A : Around} {E : Value → Shared → Prop} {s : Shared} {B : Heap} {t : Addr} {Q : Value → Shared → Prop}
    (gd : Gd w B) (kB : Kp B s.heap) (rm : Rm A 5) (ht : Is s.heap t TrP) (htB : B.get? t = none)
    (h : ∀ s' B' tt fx sl svs (d : FrD) (wide high : Int) t1 t2, Kp B B' → Rs [t] s.gens B s B' s' → Is s'.heap t TrP → FrB B' fx d → d.Ok → 1 ≤ wide → wide ≤ 3 → 1 ≤ high → high ≤ 2 →
      2 * d.mA * (wide - 1) < d.width → d.width ≤ 2 * d.mA * wide → 2 * d.mD * (high - 1) < d.height → d.height ≤ 2 * d.mD * high → Is B' sl (LstP svs) → TupsAre B' svs (smT d.sm) →
      Is B' tt (TupP [.ref fx, .int wide t1, .int high t2, .ref sl]) → Q (.ref tt) s') :
    wpAny (model PR w) A (call (.ref 268) [.ref t]) Q E s := by
  refine wpAny_call ?_
  refine' enterC0 (n := 4) (binds := [(Str.ofString "tray", .ref t)]) [t] [(t, TrP)] gd kB rm ?ho ?hcd ?hb ?hV ?hd ?hk ?hnd ?h ?c1 ?c2 ?c3
  case ho => k_is
  case hcd => k_is
  case hb => rfl
  case c1 => rfl
  case c2 => rfl
  case c3 => rfl
  case hV => intro p hp; rcases List.mem_singleton.mp hp with rfl; exact ⟨ht, htB, .head _⟩
  case hd => simp
  case hnd => decide
  case hk =>
    intro n y hy
    rcases List.mem_singleton.mp hy with rfl
    exact .inr ⟨rfl, rfl⟩
  case h =>
  intro L s1 E' A' m0 F R env Qr
  replace F : Fs ⟨[t], B, s⟩ s.gens B L _ [(L + 1, CelP (some (.ref t))), (t, TrP)] s1 := F
  have hne : L + 1 ≠ t := fun q => by
    have hd := F.dis
    rw [List.map_cons, List.nodup_cons] at hd
    exact hd.1 (by rw [q]; simp)
  obtain ⟨B1, k, hcell, F1⟩ := F.freeze (by
    rcases (F.own _ (.head _)).2.2.2 with q | q
    · exact q
    · exact absurd (List.mem_singleton.mp q) hne)
  clear F; have F := F1; clear F1
  walk_at "lift"
  have k1 := k; clear k
  refine wpAny_execs_cons ?_
  refine listComp1Use (cl := [(Str.ofString "tray", L + 1)]) F R.hh ?_ F.lg rfl (by decide) rfl (by decide) (fun _ => rfl) rfl rfl rfl
  walk_at "go"
  refine dieS F gd (R.less (by decide)) (by lia) (by lia) ?_
  clear F; intro s2 r2 t2 hr20 hr21 F
  walk_at "go"
  refine bRange1 F ?_
  clear F; intro s3 B3 rr k hrr F; walk_at "lift"
  have k3 := k; clear k
  refine iRng0 (n := (1 + r2).toNat) F hrr (by lia) (by lia) ?_
  clear F; intro s4 it4 hit4 F
  refine ⟨it4, B3, _, _, B3, _, _, (1 + r2).toNat, _, rfl, nxRange0 _, .refl _, ?_, F, fun i B' ys U' => U' = [(t, TrP)] ∧ ∃ sm : List (Int × Int), sm.length = i ∧ TupsAre B' ys (smT sm) ∧ ∀ p ∈ sm, 1 ≤ p.1 ∧ p.1 ≤ 2 ∧ 1 ≤ p.2 ∧ p.2 ≤ 2, ⟨rfl, [], rfl, .nil, fun _ h => nomatch h⟩, ?_, ?_, ?_⟩
  · intro i p hp
    rcases List.mem_singleton.mp hp with rfl; exact hit4
  · rintro i B' B'' ys U' hX9; refine anE2 hX9 ?_; clear hX9; rintro h1 hX9; refine ea1_3 hX9 ?_; clear hX9; rintro sm h2 h3 h4 k
    exact ⟨h1, sm, h2, h3.mono k, h4⟩
  · rintro C D i v B5 m5 ys U5 s5 E5 hC hi k hX9; refine anE2 hX9 ?_; clear hX9; rintro rfl hX9; refine ea1_3 hX9 ?_; clear hX9; rintro sm hsm hys hb ⟨tv, rfl⟩ F
    walk_at "su"
    walk_at "lift"
    have k5 := k; clear k
    walk_at "go"
    refine dieS F.f4 gd (R.less (by decide)) (by lia) (by lia) ?_
    clear F; intro s6 r6 t6 hr60 hr61 F
    replace F := F.b4
    walk_at "go"
    refine dieS F.f4 gd (R.less (by decide)) (by lia) (by lia) ?_
    clear F; intro s7 r7 t7 hr70 hr71 F
    replace F := F.b4
    walk_at "go"
    have hyl := hys.length
    have hsl : (smT sm).length = sm.length := List.length_map _
    refine CElt.mk (by lia) (k5.trans k) F ⟨rfl, sm ++ [(1 + r6, 1 + r7)], by simp [hsm], ?_, fun p hp => ?_⟩
    · have e1 : smT (sm ++ [(1 + r6, 1 + r7)]) = smT sm ++ [[1 + r6, 1 + r7]] := by unfold smT; simp
      rw [e1]
      exact (hys.mono k).app (.cons ⟨_, _, rfl, by assumption, .cons _ _ (.cons _ _ .nil)⟩ .nil)
    · rcases List.mem_append.mp hp with hp | hp
      · exact hb p hp
      · rcases List.mem_singleton.mp hp with rfl
        refine ⟨?_, ?_, ?_, ?_⟩ <;> simp only [] <;> lia
  · rintro B5 ys U5 k hX9; refine anE2 hX9 ?_; clear hX9; rintro rfl hX9; refine ea1_3 hX9 ?_; clear hX9; rintro sm hsm hys hb D s5 hD F
    walk_at "su"
    walk_at "lift"
    have k5 := k; clear k
    refine Fs.frz F hD ?_; clear F; intro B6 k hDl F
    walk_at "lift"
    have k6 := k; clear k
    have hzt := hys.mono k6; clear hys
    have hzl := hDl; clear hDl
    walk_at "go"
    refine listComp1 (cl := []) F R.hh ?_ F.lg rfl (by decide) rfl (by decide) (fun _ => rfl)
    walk_at "go"
    refine iLst F (hzl.keeps F.kp) ?_
    clear F; intro sia ita hita F
    have Bqa := hzl
    refine CompTodo.mk ita (nxList (lst_is hzl)) (.refl _) ?_ F (fun i B' ys U' => U' = [(t, TrP)] ∧ IntsAre ys ((sm.map Prod.fst).take i)) ⟨rfl, .nil⟩ ?_
    · intro i p hp
      rcases List.mem_singleton.mp hp with rfl; exact hita
    intro Iv
    refine ⟨fun _ _ _ _ _ h _ => h, ?_, ?_⟩
    · rintro C D' i v Bi mi ysi Ui si Ei hC hi k ⟨rfl, hysi⟩ hv F
      walk_at "su"
      refine hzt.getE hv ?_; rintro ks tt vt hks rfl hti hin
      unfold smT at hks
      rw [List.getElem?_map] at hks
      obtain ⟨pp, hpp, rfl⟩ := Option.map_eq_some_iff.mp hks
      obtain ⟨q1, q2, rfl⟩ := ints2 hin
      walk_at "lift"
      replace hti := hti.keeps k
      have ki := k; clear k
      walk_at "go"
      refine gTup (hti.keeps F.kp) (by lia) (by lia) (k := 0) rfl ?_
      have e1 : (sm.map Prod.fst).take (i + 1) = (sm.map Prod.fst).take i ++ [Prod.fst pp] := by
        rw [List.take_add_one, List.getElem?_map, hpp]; rfl
      have hl9 := hysi.length
      refine CElt.mk (by simp at hl9; lia) ki F ⟨rfl, ?_⟩
      rw [e1]
      exact intsApp hysi (.cons _ _ .nil)
    · rintro Bi ysi Ui k ⟨rfl, hysi⟩ D' si hD' F
      walk_at "su"
      have e1 : (sm.map Prod.fst).take ys.length = sm.map Prod.fst := List.take_of_length_le (by rw [List.length_map, hzt.length]; unfold smT; rw [List.length_map]; exact Nat.le_refl _)
      rw [e1] at hysi
      walk_at "lift"
      have ka := k; clear k
      walk_at "go"
      refine bMaxL F R.hh F.top hysi (by rw [List.length_map]; lia) ?_
      clear F; intro sja mr ta F hM1 hM2
      replace F := F.drop
      have hmr : 1 ≤ mr ∧ mr ≤ 2 := by
        obtain ⟨p, hp, rfl⟩ := List.mem_map.mp hM1
        have := hb p hp; lia
      obtain rfl : mr = mx (sm.map Prod.fst) := mx_of hM1 hM2 (by lia)
      walk_at "go"
      refine listComp1 (cl := []) F R.hh ?_ F.lg rfl (by decide) rfl (by decide) (fun _ => rfl)
      walk_at "go"
      refine iLst F (hzl.keeps F.kp) ?_
      clear F; intro sib itb hitb F
      have Bqb := hzl
      refine CompTodo.mk itb (nxList (lst_is hzl)) (.refl _) ?_ F (fun i B' ys U' => U' = [(t, TrP)] ∧ IntsAre ys ((sm.map Prod.snd).take i)) ⟨rfl, .nil⟩ ?_
      · intro i p hp
        rcases List.mem_singleton.mp hp with rfl; exact hitb
      intro Iv
      refine ⟨fun _ _ _ _ _ h _ => h, ?_, ?_⟩
      · rintro C D' i v Bi mi ysi Ui si Ei hC hi k ⟨rfl, hysi⟩ hv F
        walk_at "su"
        refine hzt.getE hv ?_; rintro ks tt vt hks rfl hti hin
        unfold smT at hks
        rw [List.getElem?_map] at hks
        obtain ⟨pp, hpp, rfl⟩ := Option.map_eq_some_iff.mp hks
        obtain ⟨q1, q2, rfl⟩ := ints2 hin
        walk_at "lift"
        replace hti := hti.keeps k
        have ki := k; clear k
        walk_at "go"
        refine gTup (hti.keeps F.kp) (by lia) (by lia) (k := 1) rfl ?_
        have e1 : (sm.map Prod.snd).take (i + 1) = (sm.map Prod.snd).take i ++ [Prod.snd pp] := by
          rw [List.take_add_one, List.getElem?_map, hpp]; rfl
        have hl9 := hysi.length
        refine CElt.mk (by simp at hl9; lia) ki F ⟨rfl, ?_⟩
        rw [e1]
        exact intsApp hysi (.cons _ _ .nil)
      · rintro Bi ysi Ui k ⟨rfl, hysi⟩ D' si hD' F
        walk_at "su"
        have e1 : (sm.map Prod.snd).take ys.length = sm.map Prod.snd := List.take_of_length_le (by rw [List.length_map, hzt.length]; unfold smT; rw [List.length_map]; exact Nat.le_refl _)
        rw [e1] at hysi
        walk_at "lift"
        have kb := k; clear k
        walk_at "go"
        refine bMaxL F R.hh F.top hysi (by rw [List.length_map]; lia) ?_
        clear F; intro sjb md tb F hM1 hM2
        replace F := F.drop
        have hmd : 1 ≤ md ∧ md ≤ 2 := by
          obtain ⟨p, hp, rfl⟩ := List.mem_map.mp hM1
          have := hb p hp; lia
        obtain rfl : md = mx (sm.map Prod.snd) := mx_of hM1 hM2 (by lia)
        walk_at "go"
        refine dieS F gd (R.less (by decide)) (by lia) (by lia) ?_
        clear F; intro s20 wr tw hw0 hw1 F
        walk_at "go"
        refine dieS F gd (R.less (by decide)) (by lia) (by lia) ?_
        clear F; intro s21 hr th hh0 hh1 F
        have kz := k; clear k
        walk_at "go"
        have hma : (1 ≤ mx (sm.map Prod.fst) ∧ mx (sm.map Prod.fst) ≤ 2) ∧ (1 ≤ mx (sm.map Prod.snd) ∧ mx (sm.map Prod.snd) ≤ 2) := ⟨hmr, hmd⟩
        refine dieS F gd (R.less (by decide)) (by lia) (by lia) ?_
        clear F; intro s22 cr tc hc0 hc1 F
        walk_at "go"
        refine dieS F gd (R.less (by decide)) (by lia) (by lia) ?_
        clear F; intro s23 cd2 td hd0 hd1 F
        walk_at "go"
        have hsml : sm.length ≤ 3 := by lia
        have hzl2 := hzt.length
        have hsl2 : (smT sm).length = sm.length := List.length_map _
        refine listComp1Use (cl := []) F R.hh ?_ F.lg rfl (by decide) rfl (by decide) (fun _ => rfl) rfl rfl rfl
        walk_at "go"
        refine bEnum F (hzl.keeps F.kp) ?_
        clear F; intro s30 en it30 hne30 hen hit30 F
        refine (nxEnum (elts := []) (x1 := 0) (pos := default) (lst_is hzl) hne30).self (.refl _) F ?_
        refine ⟨en, _, _, _, _, _, _, _, _, rfl, nxEnum (lst_is hzl) hne30, .refl _, ?_, F, fun i B' ys U' => U' = [(t, TrP)] ∧ ys.length = i ∧ ∀ (j : Nat) p, j < i → sm[j]? = some p → ∃ c, ys[j]? = some (Value.ref c) ∧ CompB B' c p, ⟨rfl, rfl, fun j p hj _ => absurd hj (Nat.not_lt_zero _)⟩, ?_, ?_, ?_⟩
        · intro i p hp
          simp only [List.mem_cons, List.not_mem_nil, or_false] at hp
          rcases hp with rfl | rfl
          · exact hen
          · exact hit30
        · rintro i B' B'' ys U' ⟨h1, h2, h3⟩ k
          exact ⟨h1, h2, fun j p hj hp => let ⟨c, a, b⟩ := h3 j p hj hp; ⟨c, a, b.mono k⟩⟩
        · rintro C Dc i v B31 m31 ys31 U31 s31 E31 hC hi k hX9 hV9; refine anE3 hX9 ?_; clear hX9; rintro rfl hyl hyc; refine ea3_3 hV9 ?_; clear hV9; rintro a tk xv rfl hx ha F
          walk_at "su"
          have hta : Is B31 a (TupP [.int i tk, xv]) := ⟨_, ha, rfl, 0, rfl⟩
          refine hzt.getE hx ?_; rintro ks tt vt hks rfl hti hin
          unfold smT at hks
          rw [List.getElem?_map] at hks
          obtain ⟨pp, hpp, rfl⟩ := Option.map_eq_some_iff.mp hks
          obtain ⟨q1, q2, rfl⟩ := ints2 hin
          walk_at "lift"
          replace hti := hti.keeps k
          have k31 := k; clear k
          walk_at "go"
          refine gTup (hti.keeps F.kp) (by lia) (by lia) (k := 0) rfl ?_
          walk_at "go"
          refine gTup (hti.keeps F.kp) (by lia) (by lia) (k := 1) rfl ?_
          walk_at "go"
          refine nComp F gd (R.less (by decide)) ?_
          clear F; intro s32 B32 xc k32 hcb F
          refine CElt.mk (by lia) (k31.trans k32) F ⟨rfl, by simp [hyl], fun j p hj hp => ?_⟩
          by_cases hji : j < i
          · obtain ⟨c, q3, q4⟩ := hyc j p hji hp
            exact ⟨c, by rw [List.getElem?_append_left (by lia)]; exact q3, q4.mono k32⟩
          · have : j = i := by lia
            subst this
            rw [hpp] at hp; cases hp
            refine ⟨xc, ?_, hcb⟩
            rw [List.getElem?_append_right (by lia), hyl, Nat.sub_self]; rfl
        · rintro B31 ys31 U31 k ⟨rfl, hyl, hyc⟩ Dc s31 hDc F
          walk_at "su"
          walk_at "lift"
          have k31 := k; clear k
          refine Fs.frz F hDc ?_; clear F; intro B32 k hcl F
          walk_at "lift"
          have k32 := k; clear k
          walk_at "go"
          have hcc : CompsB B32 ys31 sm := by
            refine ⟨by lia, fun i p hp => ?_⟩
            obtain ⟨c, q3, q4⟩ := hyc i p (by have := (List.getElem?_eq_some_iff.mp hp).1; lia) hp
            exact ⟨c, q3, q4.mono k32⟩
          refine nFrame (d := ⟨sm, 2 * mx (List.map Prod.fst sm) * (1 + wr) - cr, 2 * mx (List.map Prod.snd sm) * (1 + hr) - cd2⟩) F gd (R.less (by decide)) hcl hcc ?_
          clear F; intro s40 B40 fx k hfr F
          walk_at "lift"
          have k40 := k; clear k
          walk_at "go"
          obtain ⟨⟨ha1, ha2⟩, hd1', hd2'⟩ := hma
          have nl : ∀ (M W c : Int), (M = 1 ∨ M = 2) → 0 ≤ c → c < 2 * M → 2 * M * (1 + W - 1) < 2 * M * (1 + W) - c ∧ 2 * M * (1 + W) - c ≤ 2 * M * (1 + W) := fun M W c hM h0 h1 => by
            rcases hM with rfl | rfl <;> lia
          have n1 := nl (mx (List.map Prod.fst sm)) wr cr (by lia) hc0 hc1
          have n2 := nl (mx (List.map Prod.snd sm)) hr cd2 (by lia) hd0 hd1
          exact h _ _ _ _ _ _ ⟨sm, 2 * mx (List.map Prod.fst sm) * (1 + wr) - cr, 2 * mx (List.map Prod.snd sm) * (1 + hr) - cd2⟩ (1 + wr) (1 + hr) _ _ F.rn.bb F.rs F.top (hfr.mono k) ⟨by show 0 < sm.length; lia, by show sm.length ≤ 3; lia, hb⟩ (by lia) (by lia) (by lia) (by lia)
            n1.1 n1.2 n2.1 n2.2 hzl hzt (by assumption)
end
section
/-! for loops within a generator -/
section
variable {prog : Program} {w : World} {A : Around} {R : GenEnd} {Y : Protocol} {n : Nat} {s₀ : Shared} {c : Code} {fs : List Frame} {s : Shared} {env : Env}
  {K : Flow → Sem Fin} {H : Value → Sem Fin} {gd : Bool → Bool} {lv : List Value → List Value}

/-- what goes on once a loop of its own is over -/
noncomputable def backTo' (env : Env) (K : Flow → Sem Fin) (H : Value → Sem Fin) (gd : Bool → Bool) (lv : List Value → List Value) (r : Result) : Sem Fin :=
  ((match r with | .ok f => (.pure f : Sem Flow) | .error e => .raise e).onRaise fun (x : Value) => do
    if (← field x 1) == Value.none then unsupported "frame.own-activation:exception-without-traceback"
    setFlight x env.frame).wrap K H gd lv
theorem backTo_ok {f : Flow} : backTo' env K H gd lv (.ok f) = K f := rfl

theorem seg_For {target iter : Expr} {body : List Stmt} {pos : Pos} {E : Value → Shared → Prop}
    (hE : ∀ x s', E x s' → Seg (model prog w) A R Y n s₀ c (H x) fs s')
    (h : wpAny (model prog w) (A.over c fs) (eval iter env) (fun x s1 => wpAny (model prog w) (A.over c fs) (pyIter x) (fun it s2 =>
      ∀ p, Seg (model prog w) A R Y n s₀ (.forLoop target it body [] env) ((model prog w).den (.forLoop target it body [] env)) (.ret (backTo' env K H gd lv) none (gd false) (lv []) c p [] :: fs) s2) E s1) E s)
    (hs : ∀ x, foldedSetIterable iter env x = pure x) :
    Seg (model prog w) A R Y n s₀ c ((exec (.For target iter body [] pos) env).wrap K H gd lv) fs s := by
  rw [exec_For]
  refine seg_bind_wrap (wpAny_standAt ?_)
  refine seg_bind_wrap (wpAny_mono h (fun x s1 h1 => ?_) hE)
  refine seg_bind_wrap (wpAny_of_eq (hs x) ?_)
  refine seg_bind_wrap (wpAny_standAt ?_)
  refine seg_bind_wrap (wpAny_holding (wpAny_mono h1 (fun it s2 h2 => ?_) hE))
  exact seg_call h2

/-- what a loop does with what its body came to -/
noncomputable def loopK (target : Expr) (it : Value) (body : List Stmt) (env : Env) : Flow → Sem Fin
  | .next | .cont => .pure (.again (.forLoop target it body [] env))
  | .brk => .pure (.done .next)
  | .ret v => .pure (.done (.ret v))
noncomputable def loopH (env : Env) (x : Value) : Sem Fin := (do noteFrame x env; theTreesLotGoes x : Sem Unit).bind fun _ => .raise x

theorem seg_forLoop {target : Expr} {it : Value} {body : List Stmt} {E : Value → Shared → Prop}
    (hE : ∀ x s', E x s' → Seg (model prog w) A R Y n s₀ (.forLoop target it body [] env) (loopH env x) fs s')
    (h : wpAny (model prog w) (A.over (.forLoop target it body [] env) fs) (pyNext it) (fun r s1 => match r with
      | none => Seg (model prog w) A R Y n s₀ (.block [] env) (leafOf (.ok .next)) fs s1
      | some v => wpAny (model prog w) (A.over (.forLoop target it body [] env) fs) (letOwnedTupleGo target it v) (fun _ s2 => wpAny (model prog w) (A.over (.forLoop target it body [] env) fs) (assign target env v) (fun _ s3 =>
          Seg (model prog w) A R Y n s₀ (.forLoop target it body [] env) ((execs body env).wrap (loopK target it body env) (loopH env) id id) fs s3) E s2) E s1) E s) :
    Seg (model prog w) A R Y n s₀ (.forLoop target it body [] env) ((model prog w).den (.forLoop target it body [] env)) fs s := by
  show Seg _ A R Y n s₀ _ ((forTurn target it body [] env).onRaise (fun x => do noteFrame x env; theTreesLotGoes x)) fs s
  unfold forTurn
  rw [Sem.onRaise_eq_wrap]
  refine seg_bind_wrap (wpAny_standAt ?_)
  refine seg_bind_wrap (wpAny_onRaise (wpAny_mono h (fun r s1 h1 => ?_) fun x s' hx => wpAny_standAt (hE x s' hx)))
  cases r with
  | none =>
    refine seg_again rfl ?_
    exact h1
  | some v =>
    refine seg_bind_wrap (wpAny_mono h1 (fun _ s2 h2 => ?_) hE)
    refine seg_bind_wrap (wpAny_mono h2 (fun _ s3 h3 => ?_) hE)
    rw [Sem.bind_eq_wrap', Sem.wrap_wrap]
    have e1 : ((execs body env).wrap (loopK target it body env) (loopH env) id id) = _ := Sem.wrap_congr (execs body env) id id (K' := fun a => Sem.wrap Sem.pure (fun e => (do noteFrame e env; theTreesLotGoes e : Sem Unit).bind fun _ => .raise e) id id
      (match a with | .next => again (.forLoop target it body [] env) | .cont => again (.forLoop target it body [] env) | .brk => pure (Fin.done .next) | .ret v => pure (Fin.done (.ret v)))) (H' := fun e => Sem.wrap Sem.pure (fun e => (do noteFrame e env; theTreesLotGoes e : Sem Unit).bind fun _ => .raise e) id id (Sem.raise e)) (fun f => by cases f <;> rfl) (fun e => rfl)
    rw [e1] at h3
    exact h3
end

/-! pauses -/
/-- only W was changed, all else is there as it was -/
noncomputable def Cg (W : List Addr) (h h' : Heap) : Prop := (∀ b o, b ∉ W → h.get? b = some o → h'.get? b = some o) ∧ ∀ b ∈ W, (∃ o, h.get? b = some o) → ∃ o, h'.get? b = some o
/-- what the caller may count on -/
noncomputable def Dg (H0 : Heap) (W : List Addr) (h h' : Heap) : Prop := ∀ b o, h.get? b = some o → ((∃ o, H0.get? b = some o) ∨ b ∈ W ∨ ∃ a n, o.data = .seq a n) → h'.get? b = some o

/-- a generator at a pause -/
structure Ps (H0 : Heap) (W : List Addr) (B : Heap) (L : Addr) (m : Str → Option Value) (U : Own) (h : Heap) : Prop where
  kB : Kp B h
  ns : h.Ns L m
  lb : B.get? L = none
  own : ∀ p ∈ U, Is h p.1 p.2 ∧ B.get? p.1 = none ∧ p.1 ≠ L
  dis : (U.map (·.1)).Nodup
  hi : ∀ b, b = L ∨ b ∈ U.map (·.1) → H0.get? b = none ∧ b ∉ W ∧ ∀ o, h.get? b = some o → ∀ a n, o.data ≠ .seq a n
  wb : ∀ b ∈ W, B.get? b = none ∧ ∃ o, h.get? b = some o
  dom : ∀ b o, H0.get? b = some o → ∃ o', h.get? b = some o'

/-- the heap without what is the generator's -/
noncomputable def hid (h : Heap) (S : List Addr) : Heap := only h fun b => !S.contains b
theorem hid_get {h : Heap} {S : List Addr} {b : Addr} : (hid h S).get? b = if b ∈ S then none else h.get? b := by
  unfold hid; rw [only_get]; by_cases c : b ∈ S <;> simp [c]
noncomputable def eng (B : Heap) (L : Addr) (U : Own) (s : Shared) : En := ⟨[], B, { s with heap := hid s.heap (L :: U.map (·.1)) }⟩

section
variable {H0 : Heap} {W : List Addr} {B B' : Heap} {L : Addr} {m m' : Str → Option Value} {U U' : Own} {s s' : Shared} {h h' : Heap}
theorem Ps.wake (P : Ps H0 W B L m U s.heap) : Fs (eng B L U s) s.gens B L m U s := by
  refine ⟨⟨.refl _, fun _ _ e => .inl e, fun b o _ q => ?_, fun b o q => ?_, P.kB⟩, P.ns, P.lb, ?_, fun p hp => ⟨(P.own p hp).1, (P.own p hp).2.1, (P.own p hp).2.2, .inl ?_⟩, P.dis, rfl, rfl⟩
  · have q : (hid s.heap _).get? b = some o := q
    rw [hid_get] at q; split at q; exact nomatch q; exact q
  · have q : (hid s.heap _).get? b = some o := q
    rw [hid_get] at q; split at q; exact nomatch q; exact ⟨o, q⟩
  · show (hid s.heap _).get? L = none
    rw [hid_get, if_pos (.head _)]
  · show (hid s.heap _).get? p.1 = none
    rw [hid_get, if_pos (.tail _ (List.mem_map_of_mem hp))]
theorem Ps.cg (P : Ps H0 W B L m U h) (c : Cg W h h') : Ps H0 W B L m U h' := by
  have nW : ∀ b, b = L ∨ b ∈ U.map (·.1) → b ∉ W := fun b hb => (P.hi b hb).2.1
  refine ⟨fun b o q => c.1 b o (fun z => ?_) (P.kB b o q), ?_, P.lb, fun p hp => ⟨?_, (P.own p hp).2⟩, P.dis, fun b hb => ⟨(P.hi b hb).1, (P.hi b hb).2.1, fun o q => ?_⟩, fun b hb => ⟨(P.wb b hb).1, c.2 b hb (P.wb b hb).2⟩, fun b o q => ?_⟩
  · rw [(P.wb b z).1] at q; cases q
  · obtain ⟨o, es, ep, ho, r⟩ := P.ns
    exact ⟨o, es, ep, c.1 _ _ (nW L (.inl rfl)) ho, r⟩
  · obtain ⟨o, ho, q⟩ := (P.own p hp).1
    exact ⟨o, c.1 _ _ (nW _ (.inr (List.mem_map_of_mem hp))) ho, q⟩
  · rcases hb with rfl | hb
    · obtain ⟨o', es, ep, ho, r⟩ := P.ns
      have := c.1 _ _ (nW b (.inl rfl)) ho
      rw [q] at this; cases this
      exact (P.hi b (.inl rfl)).2.2 _ ho
    · obtain ⟨p, hp, rfl⟩ := List.mem_map.mp hb
      obtain ⟨o', ho, _⟩ := (P.own p hp).1
      have := c.1 _ _ (nW _ (.inr hb)) ho
      rw [q] at this; cases this
      exact (P.hi _ (.inr hb)).2.2 _ ho
  · obtain ⟨o', q'⟩ := P.dom b o q
    by_cases hb : b ∈ W
    · exact c.2 b hb ⟨o', q'⟩
    · exact ⟨o', c.1 b o' hb q'⟩
/-- what a segment leaves: from the pause at s to s' -/
theorem Ps.dg (P : Ps H0 W B L m U s.heap) {G : Array GenState} (F : Fs (eng B L U s) G B' L m' U' s') : Dg H0 W s.heap s'.heap := by
  intro b o q hb
  refine F.rn.hk b o (nomatch ·) ?_
  show (hid s.heap _).get? b = some o
  rw [hid_get, if_neg (fun z => ?_), q]
  have z : b = L ∨ b ∈ U.map (·.1) := by
    rcases List.mem_cons.mp z with z | z
    · exact .inl z
    · exact .inr z
  have := P.hi b z
  rcases hb with ⟨o', hb⟩ | hb | ⟨a, n, hb⟩
  · rw [this.1] at hb; cases hb
  · exact this.2.1 hb
  · exact this.2.2 _ q _ _ hb
/-- a segment ends in a pause -/
theorem Ps.pause (P : Ps H0 W B L m U s.heap) {G : Array GenState} (F : Fs (eng B L U s) G B' L m' U' s') (hU : ∀ p ∈ U', ∀ o, p.2 o → ∀ a n, o.data ≠ .seq a n)
    (hn : ∀ p ∈ U', p.1 ∈ U.map (·.1) ∨ s.heap.get? p.1 = none) : Ps H0 W B' L m' U' s'.heap := by
  refine ⟨F.kp, F.ns, F.lb, fun p hp => ⟨(F.own p hp).1, (F.own p hp).2.1, (F.own p hp).2.2.1⟩, F.dis, fun b hb => ?_, fun b hb => ?_, fun b o q => ?_⟩
  · rcases hb with rfl | hb
    · refine ⟨(P.hi b (.inl rfl)).1, (P.hi b (.inl rfl)).2.1, fun o q a n z => ?_⟩
      obtain ⟨o', es, ep, ho, hd, _⟩ := F.ns
      rw [q] at ho; cases ho
      rw [hd] at z; exact nomatch z
    · obtain ⟨p, hp, rfl⟩ := List.mem_map.mp hb
      obtain ⟨o', ho, hq⟩ := (F.own p hp).1
      have h3 : ∀ o, s'.heap.get? p.1 = some o → ∀ a n, o.data ≠ .seq a n := fun o q => by
        rw [q] at ho; cases ho; exact hU p hp _ hq
      rcases hn p hp with z | z
      · exact ⟨(P.hi _ (.inr z)).1, (P.hi _ (.inr z)).2.1, h3⟩
      · refine ⟨?_, fun y => ?_, h3⟩
        · cases y : H0.get? p.1 with
          | none => rfl
          | some o3 => obtain ⟨o4, y4⟩ := P.dom _ _ y; rw [z] at y4; cases y4
        obtain ⟨o2, y2⟩ := (P.wb _ y).2
        rw [z] at y2; cases y2
  · obtain ⟨h1, o, h2⟩ := P.wb b hb
    have hnb : ¬ (b = L ∨ b ∈ U.map (·.1)) := fun z => (P.hi b z).2.1 hb
    have h3 : (eng B L U s).s.heap.get? b = some o := by
      show (hid s.heap _).get? b = some o
      rw [hid_get, if_neg (fun z => hnb (by simpa using z)), h2]
    exact ⟨F.rn.bnone h1 h3, F.rn.th b o h3⟩
  · obtain ⟨o', q'⟩ := P.dom b o q
    have hnb : ¬ (b = L ∨ b ∈ U.map (·.1)) := fun z => by have := (P.hi b z).1; rw [q] at this; cases this
    refine F.rn.th b o' ?_
    show (hid s.heap _).get? b = some o'
    rw [hid_get, if_neg (fun z => hnb (by simpa using z)), q']
end

section
variable {prog : Program} {w : World} {A : Around} {R : GenEnd} {Y : Protocol} {fs : List Frame} {env : Env}
/-- a loop in a generator, turn by turn -/
theorem seg_iter {target : Expr} {it : Value} {body : List Stmt} {n : Nat} (cnt : Nat → Nat) (Inv : Nat → Shared → Shared → Prop)
    (turn : ∀ i s₀ s, i < n → Inv i s₀ s → (∀ s₀' s', Inv (i + 1) s₀' s' → Seg (model prog w) A R Y (cnt (i + 1)) s₀' (.forLoop target it body [] env) ((model prog w).den (.forLoop target it body [] env)) fs s') →
      Seg (model prog w) A R Y (cnt i) s₀ (.forLoop target it body [] env) ((model prog w).den (.forLoop target it body [] env)) fs s)
    (fin : ∀ s₀ s, Inv n s₀ s → Seg (model prog w) A R Y (cnt n) s₀ (.forLoop target it body [] env) ((model prog w).den (.forLoop target it body [] env)) fs s) :
    ∀ k i s₀ s, n - i = k → i ≤ n → Inv i s₀ s → Seg (model prog w) A R Y (cnt i) s₀ (.forLoop target it body [] env) ((model prog w).den (.forLoop target it body [] env)) fs s := by
  intro k
  induction k with
  | zero =>
    intro i s₀ s hk hi hI
    obtain rfl : i = n := by lia
    exact fin _ _ hI
  | succ k ih =>
    intro i s₀ s hk hi hI
    exact turn i s₀ s (by lia) hI fun s₀' s' hI' => ih (i + 1) s₀' s' (by lia) (by lia) hI'
end

/-- what a generator of blocks promises at each yield, and at its end -/
noncomputable def Yg (H0 : Heap) (W : List Addr) (bl : List (List Int)) : Protocol := fun k s₀ v s₁ kap =>
  Dg H0 W s₀.heap s₁.heap ∧ s₁.os = s₀.os ∧ s₁.gens = s₀.gens ∧ (∃ t vs ks, v = .ref t ∧ Is s₁.heap t (TupP vs) ∧ IntsAre vs ks ∧ bl[bl.length - 1 - k]? = some ks) ∧
    ∀ s2 : Shared, Cg W s₁.heap s2.heap → kap (.send .none) s2
noncomputable def Pg (H0 : Heap) (W : List Addr) (n : Nat) (s₀ s₁ : Shared) : Prop := n = 0 ∧ Dg H0 W s₀.heap s₁.heap ∧ s₁.os = s₀.os ∧ s₁.gens = s₀.gens
noncomputable def Rg (H0 : Heap) (W : List Addr) : GenEnd := fun n s₀ r s₁ => r = .ok (.ret .none) ∧ Pg H0 W n s₀ s₁

/-- a generator object -/
noncomputable def GenP (g : Nat) : Obj → Prop := fun o => ∃ nm qn, o.cls = .type "generator" ∧ o.data = .fields #[.int g 0, nm, qn] ∧ o.slots = #[]

section
variable {prog : Program} {w : World} {A : Around} {E : Value → Shared → Prop} {s : Shared} {B : Heap}
/-- a generator function is called -/
theorem enterG {f : Addr} {oc : Value} {od : Option Addr} {osl : Array (Option Value)} {name qual : Str} {params : Arguments} {body : List Stmt} {scope : Scope} {dV kV doc pm cdv ct : Value} {an : Option Addr}
    {pos : List Value} {binds : List (Str × Value)} {Q : Value → Shared → Prop} (gd : Gd w B) (kB : Kp B s.heap) (rm : Rm A 1)
    (ho : (hT.heap_1 w.params).lookup f = some ⟨oc, od, .func (fnOf name qual params body scope dV kV doc pm an cdv ct), osl⟩) (hcd : codeIn (hT.heap_1 w.params) cdv qual = true)
    (hbind : bindArgs (fnOf name qual params body scope dV kV doc pm an cdv ct) ⟨pos, []⟩ = pure binds)
    (hloc : ∀ y ∈ binds, scope.names.lookup y.1 = some .local)
    (h : ∀ L a s', s.heap.get? L = none → s.heap.get? a = none → a ≠ L → Kp s.heap s'.heap → s'.heap.Ns L (fun x => binds.reverse.lookup x) → Is s'.heap a (GenP s.gens.size) → s'.os = s.os →
      s'.gens = s.gens.push (.fresh (.func body (envX qual scope L f cdv []))) → Q (.ref a) s')
    (hcell : ∀ x ∈ scope.names, x.2 ≠ .cell) (hco : scope.isCoroutine = false) (hgen : scope.isGenerator = true) (hk : scope.kind = .function) :
    wpAny (model prog w) A (call (.ref f) pos) Q E s := by
  refine wpAny_call ?_
  have X := gd.X.keeps kB
  refine codeAny_call_generator (fd := fnOf name qual params body scope dV kV doc pm an cdv ct) (body := body) (by have := rm.dep; lia) (X _ _ ho) rfl hco hgen rfl (codeRec_of X hcd) ?_
  rw [hbind]
  refine wpAny_pure (wpAny_newFunctionEnv hcell hloc (fun h₁ hns hsb => ?_) hk)
  have k1 : Kp s.heap h₁ := fun b o q => hsb.extBut b o (Nat.ne_of_lt (Heap.lt_size q)) (Heap.get?_push_of_some _ q)
  have hsz : h₁.objs.size = s.heap.objs.size + 1 := by rw [hsb.1, Heap.size_push]
  refine ⟨(gd.lim.keeps kB).keeps k1, ?_⟩
  refine h s.heap.objs.size h₁.objs.size _ (none_of_size _) (none_of_le (by rw [hsz]; exact Nat.le_succ _)) (by rw [hsz]; exact Nat.succ_ne_self _) (k1.push _) ?_ ⟨_, Heap.get?_push_size _ rfl, _, _, rfl, rfl, rfl⟩ rfl rfl
  exact hns.keeps fun b o q => Heap.get?_push_of_some _ q
end

theorem hid_none {h : Heap} {S : List Addr} {b : Addr} (x : (hid h S).get? b = none) : b ∈ S ∨ h.get? b = none := by
  rw [hid_get] at x; split at x
  · exact .inl (by assumption)
  · exact .inr x
theorem hid_of {h : Heap} {S : List Addr} {b : Addr} (x : b ∈ S ∨ h.get? b = none) : (hid h S).get? b = none := by
  rw [hid_get]; split
  · rfl
  · rcases x with x | x
    · exact absurd x (by assumption)
    · exact x
theorem Rm.over {A : Around} {c : Code} {fs : List Frame} {n : Nat} (R : Rm A (n + 1)) (hh : (marksOver fs (A.handled, A.handled)).1 = A.handled) (hw : frameCount (fs.map Frame.where_) + c.weight ≤ 1)
    (hu : unitsOf (fs.map Frame.where_) + c.cUnits ≤ 8) : Rm (A.over c fs) n := by
  refine ⟨hh.trans R.hh, ?_, ?_⟩
  · have := R.dep; show A.depth + frameCount (fs.map Frame.where_) + c.weight + n < _; lia
  · have := R.un; show A.units + unitsOf (fs.map Frame.where_) + c.cUnits + 8 * n + 40 < _; lia
theorem span_index {α : Type} (f : Nat → List α) {many i j : Nat} (hi : i < many) (hj : j < (f i).length) :
    ((List.range many).flatMap f)[((List.range many).flatMap f).length - 1 - (((f i).drop (j + 1)).length + (((List.range many).drop (i + 1)).flatMap f).length)]? = (f i)[j]? := by
  have e1 : List.range many = (List.range many).take i ++ i :: (List.range many).drop (i + 1) := by
    have : (List.range many).drop i = i :: (List.range many).drop (i + 1) := by
      rw [List.drop_eq_getElem_cons (by simpa using hi)]; simp
    rw [← this, List.take_append_drop]
  have e2 : (List.range many).flatMap f = ((List.range many).take i).flatMap f ++ (f i ++ ((List.range many).drop (i + 1)).flatMap f) := by
    conv => lhs; rw [e1]
    rw [List.flatMap_append, List.flatMap_cons]
  rw [e2]
  generalize ((List.range many).take i).flatMap f = X
  generalize ((List.range many).drop (i + 1)).flatMap f = Z
  have e3 : (X ++ (f i ++ Z)).length - 1 - (((f i).drop (j + 1)).length + Z.length) = X.length + j := by
    simp only [List.length_append, List.length_drop]; lia
  rw [e3, List.getElem?_append_right (by lia), Nat.add_sub_cancel_left, List.getElem?_append_left hj]
theorem drop_step {α : Type} (f : Nat → List α) {many i : Nat} (hi : i < many) : (((List.range many).drop i).flatMap f).length = (f i).length + (((List.range many).drop (i + 1)).flatMap f).length := by
  have : (List.range many).drop i = i :: (List.range many).drop (i + 1) := by
    rw [List.drop_eq_getElem_cons (by simpa using hi)]; simp
  rw [this, List.flatMap_cons, List.length_append]

theorem withR {α : Type} {M : Model} {A : Around} {E : Value → Shared → Prop} {Q : α → Shared → Prop} {t : Sem α} {s : Shared} {c : Code} {fs : List Frame} {n : Nat} (R : Rm A (n + 1)) (hh : (marksOver fs (A.handled, A.handled)).1 = A.handled)
    (hw : (frameCount (fs.map Frame.where_) + c.weight).ble 1 = true) (hu : (unitsOf (fs.map Frame.where_) + c.cUnits).ble 8 = true) (h : Rm (A.over c fs) n → wpAny M (A.over c fs) t Q E s) : wpAny M (A.over c fs) t Q E s :=
  h (R.over hh (Nat.le_of_ble_eq_true hw) (Nat.le_of_ble_eq_true hu))
end
section
noncomputable def spanBl (d : FrD) (ps : List Nat) (first : Int) (many : Nat) : List (List Int) := (List.range many).flatMap fun (i : Nat) => uNum d ps (first + i)
/-- what is left of a range's lists, from i on -/
noncomputable def restLen (f : Nat → List (List Int)) (n i : Nat) : Nat := ((List.range (n - i)).flatMap fun j => f (i + j)).length

set_option maxHeartbeats 4000000 in
theorem spanS {w : World} {A : Around} {E : Value → Shared → Prop} {s : Shared} {B : Heap} {x y : Addr} {d : FrD} {ps : List Nat} {first : Int} {many : Nat} {t1 t2 : Tok} {Q : Value → Shared → Prop}
    (gd : Gd w B) (kB : Kp B s.heap) (rm : Rm A 1) (fr : FrB B x d) (ok : d.Ok) (sc : ScB B y (psI ps)) (pk : PsOk d ps) (hu : 0 < unA d ps) (hu2 : unA d ps < 1000000)
    (hf0 : 0 ≤ first) (hf1 : first < 1000) (hm : many < 1000)
    (h : ∀ s' a Lg gs, Kp s.heap s'.heap → s.heap.get? a = none → s.heap.get? Lg = none → a ≠ Lg → Is s'.heap a (GenP s.gens.size) → s'.gens = s.gens.push gs → s'.os = s.os →
      (∀ A2 W s2, Rm A2 9 → (∀ b ∈ W, B.get? b = none ∧ ((∃ o, s.heap.get? b = some o) ∨ b = a)) → Cg W s'.heap s2.heap →
        gs.Goes (model PR w) A2 (Rg s.heap W) (Yg s.heap W (spanBl d ps first many)) (spanBl d ps first many).length (.send .none) s2) → Q (.ref a) s') :
    wpAny (model PR w) A (call (.ref 49) [.ref x, .ref y, .int first t1, .int many t2]) Q E s := by
  refine' enterG (binds := [(Str.ofString "frame", .ref x), (Str.ofString "scan", .ref y), (Str.ofString "first", .int first t1), (Str.ofString "many", .int many t2)]) gd kB rm ?ho ?hcd ?hb ?hl ?h ?c1 ?c2 ?c3 ?c4
  walk_at "enter"
  case h =>
  intro L a s1 hL ha haL k1 hns hga hos hgens
  refine h s1 a L _ k1 ha hL haL hga hgens hos ?_
  intro A2 W s2 R hW hC
  have hLW : L ∉ W := fun z => by
    rcases (hW L z).2 with ⟨o, q⟩ | q
    · rw [hL] at q; cases q
    · exact haL q.symm
  have P0 : Ps s.heap W B L (fun z => List.lookup z [(Str.ofString "frame", .ref x), (Str.ofString "scan", .ref y), (Str.ofString "first", .int first t1), (Str.ofString "many", .int many t2)].reverse) [] s1.heap := by
    refine ⟨kB.trans k1, hns, none_kp kB hL, fun p hp => (nomatch hp), .nil, fun b hb => ?_, fun b hb => ⟨(hW b hb).1, ?_⟩, fun b o q => ⟨o, k1 b o q⟩⟩
    · rcases hb with rfl | hb
      · refine ⟨hL, hLW, fun o q a n z => ?_⟩
        refine ea3_3 hns ?_; clear hns; rintro o' es ep ho hd _
        rw [q] at ho; cases ho
        rw [hd] at z; exact nomatch z
      · exact nomatch hb
    · rcases (hW b hb).2 with ⟨o, q⟩ | rfl
      · exact ⟨o, k1 b o q⟩
      · obtain ⟨o, q, _⟩ := hga; exact ⟨o, q⟩
  replace P0 := P0.cg hC
  refine ⟨rfl, ?_⟩
  refine seg_func ?_
  refine seg_execs_cons ?_
  refine seg_For (fun _ _ q => q) ?_ (fun _ => rfl)
  have F := P0.wake
  have R0 := R; clear R
  refine withR R0 rfl rfl rfl ?_
  intro R
  walk_at "go"
  refine bRange2 F ?_
  clear F; intro s3 B3 r3 k hr F
  refine iRng F hr (by lia) (by lia) (by lia) (by lia) ?_
  clear F; intro s4 it1 hit1 F
  rw [show (first + (many : Int) - first).toNat = many by lia] at F
  clear R
  intro p1
  refine seg_iter (n := many) (fun i => (((List.range many).drop i).flatMap fun (i : Nat) => uNum d ps (first + i)).length)
    (fun i s0 s' => ∃ Bs m0 U0 B' m', Ps s.heap W Bs L m0 U0 s0.heap ∧ Kp B B' ∧ Kp Bs B' ∧ Fs (eng Bs L U0 s0) s0.gens B' L m' [(it1, RItP (first + i) (many - i) 1)] s' ∧ m' (Str.ofString "frame") = some (.ref x) ∧ m' (Str.ofString "scan") = some (.ref y) ∧
      (it1 ∈ L :: U0.map Prod.fst ∨ s0.heap.get? it1 = none)) ?_ ?_ many 0 s2 s4 rfl (Nat.zero_le _) ⟨B, _, [], B3, _, P0, k, k, F, rfl, rfl, hid_none hit1⟩
  · rintro i s0 s5 hi hX9; refine ea5_7 hX9 ?_; clear hX9; rintro Bs m0 U0 B5 m5 P5 kB5 ks5 F m1 m2 hi1 IH
    refine seg_forLoop (fun _ _ q => q) ?_
    refine withR R0 rfl rfl rfl ?_
    intro R
    have gd0 := gd
    replace gd := gd.mono kB5; replace fr := fr.mono kB5; replace sc := sc.mono kB5
    refine (nxRange (target := .Name (Str.ofString "index") default) first many).item R.hh (B₀ := B5) (.refl _) F hi ?_
    rintro _ s6 B6 k ⟨tv, rfl⟩ F
    refine (nxRange (B₀ := B5) first many).lets k F ⟨tv, rfl⟩ ?_
    clear F; intro s7 F; walk_at "lift"
    walk_at "go"
    refine seg_execs_cons ?_
    refine seg_For (fun _ _ q => q) ?_ (fun _ => rfl)
    clear R
    refine withR R0 rfl rfl rfl ?_
    intro R
    walk_at "go"
    refine unitNumberedS gd F.kp (R.less (by decide)) fr ok sc pk hu hu2 ?_
    have k6 := k; clear k
    intro s8 B8 l8 vs8 k R1 hl8 ht8; replace F := F.did R1
    refine iLst F (hl8.keeps F.kp) ?_
    clear F; intro s9 it2 hit2 F
    clear R
    intro p2
    have hlen := ht8.length
    have e0 : (((List.range many).drop i).flatMap fun (i : Nat) => uNum d ps (first + i)).length = vs8.length + (((List.range many).drop (i + 1)).flatMap fun (i : Nat) => uNum d ps (first + i)).length := by
      rw [drop_step _ hi, hlen]
    have e1 : (fun j => (vs8.drop j).length + (((List.range many).drop (i + 1)).flatMap fun (i : Nat) => uNum d ps (first + i)).length) 0 = (((List.range many).drop i).flatMap fun (i : Nat) => uNum d ps (first + i)).length := e0.symm
    show Seg _ _ _ _ (((List.range many).drop i).flatMap fun (i : Nat) => uNum d ps (first + i)).length _ _ _ _ _
    rw [← e1]
    refine seg_iter (n := vs8.length) (fun j => (vs8.drop j).length + (((List.range many).drop (i + 1)).flatMap fun (i : Nat) => uNum d ps (first + i)).length)
      (fun j s0 s' => ∃ Bs m0 U0 B' m', Ps s.heap W Bs L m0 U0 s0.heap ∧ Kp B8 B' ∧ Kp Bs B' ∧ Fs (eng Bs L U0 s0) s0.gens B' L m' [(it2, LItP l8 j), (it1, RItP (first + (i + 1 : Nat)) (many - (i + 1 : Nat)) 1)] s' ∧ m' (Str.ofString "frame") = some (.ref x) ∧ m' (Str.ofString "scan") = some (.ref y) ∧
        (it1 ∈ L :: U0.map Prod.fst ∨ s0.heap.get? it1 = none) ∧ (it2 ∈ L :: U0.map Prod.fst ∨ s0.heap.get? it2 = none)) ?_ ?_ vs8.length 0 s0 s9 rfl (Nat.zero_le _)
      ⟨Bs, m0, U0, B8, _, P5, .refl _, ks5.trans (k6.trans k), F, m1, m2, hi1, hid_none hit2⟩
    · rintro j s0' s10 hj hX9; refine ea5_8 hX9 ?_; clear hX9; rintro Bs' m0' U0' B10 m10 P10 kB10 ks10 F n1 n2 hi1' hi2' IH2
      refine seg_forLoop (fun _ _ q => q) ?_
      refine withR R0 rfl rfl rfl ?_
      intro R
      refine (nxList (B₀ := B10) (target := .Name (Str.ofString "block") default) (lst_is (hl8.keeps kB10))).item R.hh (.refl _) F hj ?_
      rintro v s11 B11 k11 hv F
      refine (nxList (B₀ := B10) (lst_is (hl8.keeps kB10))).lets k11 F hv ?_
      clear F; intro s12 F
      walk_at "go"
      refine seg_execs_cons ?_
      have e2 : (vs8.drop j).length + (((List.range many).drop (i + 1)).flatMap fun (i : Nat) => uNum d ps (first + i)).length = (vs8.drop (j + 1)).length + (((List.range many).drop (i + 1)).flatMap fun (i : Nat) => uNum d ps (first + i)).length + 1 := by
        simp only [List.length_drop]; lia
      rw [e2]
      refine seg_Expr_Yield rfl rfl rfl ?_
      walk_at "go"
      intro kap hk
      refine ht8.getE hv ?_; rintro ks tt vt hks rfl hti hin
      refine ⟨P10.dg F, F.os, F.gens, ⟨tt, vt, ks, rfl, (hti.keeps (kB10.trans k11)).keeps F.kp, hin, ?_⟩, fun s13 hC13 => hk .none s13 ?_⟩
      · have hj' : j < (uNum d ps (first + i)).length := by rw [← hlen]; exact hj
        have := span_index (fun (i : Nat) => uNum d ps (first + i)) hi hj'
        rw [hks] at this
        rw [← this]
        simp only [spanBl, List.length_drop, hlen]
      · have hP := (P10.pause F (by
            intro p hp o ho a' n' z
            simp only [List.cons_append, List.nil_append, List.mem_cons, List.not_mem_nil, or_false] at hp
            rcases hp with rfl | rfl
            · rw [ho.2] at z; exact nomatch z
            · rw [ho] at z; exact nomatch z) (by
            intro p hp
            have hne := (F.own p hp).2.2.1
            simp only [List.cons_append, List.nil_append, List.mem_cons, List.not_mem_nil, or_false] at hp
            have h3 : p.1 ∈ L :: U0'.map Prod.fst ∨ s0'.heap.get? p.1 = none := by
              rcases hp with rfl | rfl
              · exact hi2'
              · exact hi1'
            rcases h3 with z | z
            · rcases List.mem_cons.mp z with z | z
              · exact absurd z hne
              · exact .inl z
            · exact .inr z)).cg hC13
        exact seg_again rfl (IH2 s13 s13 ⟨B11, _, _, B11, _, hP, kB10.trans k11, .refl _, hP.wake, n1, n2, .inl (by simp), .inl (by simp)⟩)
    · rintro s0' s10 hX9; refine ea5_8 hX9 ?_; clear hX9; rintro Bs' m0' U0' B10 m10 P10 kB10 ks10 F n1 n2 hi1' hi2'
      refine seg_forLoop (fun _ _ q => q) ?_
      refine withR R0 rfl rfl rfl ?_
      intro R
      refine (nxList (B₀ := B10) (target := .Name (Str.ofString "block") default) (lst_is (hl8.keeps kB10))).done R.hh ?_ (.refl _) F ?_
      · intro p hp
        rcases List.mem_singleton.mp hp with rfl
        exact hid_of hi2'
      clear F; intro s11 F
      refine seg_leaf (.ok .next) ?_
      refine seg_again rfl ?_
      have e3 : (vs8.drop vs8.length).length + (((List.range many).drop (i + 1)).flatMap fun (i : Nat) => uNum d ps (first + i)).length = (((List.range many).drop (i + 1)).flatMap fun (i : Nat) => uNum d ps (first + i)).length := by
        simp
      rw [e3]
      exact IH s0' s11 ⟨Bs', m0', U0', B10, m10, P10, (kB5.trans (k6.trans k)).trans kB10, ks10, F, n1, n2, hi1'⟩
  · rintro s0' s10 hX9; refine ea5_7 hX9 ?_; clear hX9; rintro Bs' m0' U0' B10 m10 P10 kB10 ks10 F n1 n2 hi1'
    refine seg_forLoop (fun _ _ q => q) ?_
    refine withR R0 rfl rfl rfl ?_
    intro R
    refine (nxRange (B₀ := B10) (target := .Name (Str.ofString "index") default) first many).done R.hh ?_ (.refl _) F ?_
    · intro p hp
      rcases List.mem_singleton.mp hp with rfl
      exact hid_of hi1'
    clear F; intro s11 F
    refine seg_leaf (.ok .next) ?_
    refine seg_end (.ok (.ret .none)) ⟨rfl, by rw [List.drop_of_length_le (by simp)]; rfl, P10.dg F, F.os, F.gens⟩
end
section
theorem Cg.refl (W : List Addr) (h : Heap) : Cg W h h := ⟨fun _ _ _ e => e, fun _ _ e => e⟩
theorem Cg.trans {W : List Addr} {a b c : Heap} (x : Cg W a b) (y : Cg W b c) : Cg W a c := ⟨fun p o hp e => y.1 p o hp (x.1 p o hp e), fun p hp e => y.2 p hp (x.2 p hp e)⟩
/-- a base of old things and tuples and lists alone -/
noncomputable def Clean (H0 B : Heap) : Prop := ∀ b o, B.get? b = some o → (∃ o', H0.get? b = some o') ∨ ∃ a n, o.data = .seq a n
theorem Clean.old {H0 B : Heap} (k : Kp B H0) : Clean H0 B := fun b o e => .inl ⟨o, k b o e⟩

section
variable {e : En} {G : Array GenState} {H0 B B' : Heap} {L : Addr} {m m' : Str → Option Value} {U U' : Own} {s s' : Shared} {W : List Addr}
/-- a new owned object, and new generators -/
theorem Fs.takeG {a : Addr} {P : Obj → Prop} (F : Fs e G B L m U s) (k : Kp s.heap s'.heap) (ha : s.heap.get? a = none) (ho : Is s'.heap a P) (hos : s'.os = s.os) : Fs e s'.gens B L m ((a, P) :: U) s' := by
  have F1 := F.take k ha ho s.toks
  exact ⟨F1.rn, F1.ns, F1.lb, F1.lg, F1.own, F1.dis, hos.trans F.os, rfl⟩
/-- a generator has run for a while -/
theorem Fs.dg (F : Fs e G B L m U s) (D : Dg H0 W s.heap s'.heap) (hW : ∀ b, b = L ∨ b ∈ U.map (·.1) → b ∈ W) (hcl : Clean H0 B) (hE : ∀ b o, e.s.heap.get? b = some o → ∃ o', H0.get? b = some o') (hos : s'.os = s.os) : Fs e s'.gens B L m U s' := by
  refine ⟨⟨F.rn.bb, F.rn.bn, fun b o hb q => D b o (F.rn.hk b o hb q) (.inl (hE b o q)), fun b o q => ?_, fun b o q => ?_⟩, ?_, F.lb, F.lg, fun p hp => ⟨?_, (F.own p hp).2⟩, F.dis, hos.trans F.os, rfl⟩
  · obtain ⟨o', z⟩ := F.rn.th b o q
    exact ⟨o', D b o' z (.inl (hE b o q))⟩
  · rcases hcl b o q with z | z
    · exact D b o (F.kp b o q) (.inl z)
    · exact D b o (F.kp b o q) (.inr (.inr z))
  · obtain ⟨o, es, ep, ho, r⟩ := F.ns
    exact ⟨o, es, ep, D _ _ ho (.inr (.inl (hW L (.inl rfl)))), r⟩
  · obtain ⟨o, ho, q⟩ := (F.own p hp).1
    exact ⟨o, D _ _ ho (.inr (.inl (hW _ (.inr (List.mem_map_of_mem hp))))), q⟩
/-- seen from an entry of its own, where nothing but the frame's was changed -/
theorem Fs.wake (F : Fs e G B L m U s) : Fs (eng B L U s) s.gens B L m U s := by
  refine ⟨⟨.refl _, fun _ _ e => .inl e, fun b o _ q => ?_, fun b o q => ?_, F.kp⟩, F.ns, F.lb, hid_of (.inl (.head _)), fun p hp => ⟨(F.own p hp).1, (F.own p hp).2.1, (F.own p hp).2.2.1, .inl (hid_of (.inl (.tail _ (List.mem_map_of_mem hp))))⟩, F.dis, rfl, rfl⟩
  · have q : (hid s.heap _).get? b = some o := q
    rw [hid_get] at q; split at q; exact nomatch q; exact q
  · have q : (hid s.heap _).get? b = some o := q
    rw [hid_get] at q; split at q; exact nomatch q; exact ⟨o, q⟩
theorem Fs.wake_cg {G' : Array GenState} (F' : Fs (eng B L U s) G' B' L m' U' s') (hU : U'.map (·.1) = U.map (·.1)) : Cg (L :: U.map (·.1)) s.heap s'.heap := by
  refine ⟨fun b o hb q => F'.rn.hk b o (nomatch ·) ?_, fun b hb _ => ?_⟩
  · show (hid s.heap _).get? b = some o
    rw [hid_get, if_neg hb, q]
  · rcases List.mem_cons.mp hb with rfl | hb
    · exact F'.L_some
    · rw [← hU] at hb
      obtain ⟨p, hp, rfl⟩ := List.mem_map.mp hb
      obtain ⟨o, z, _⟩ := (F'.own p hp).1
      exact ⟨o, z⟩
theorem Fs.back {G' : Array GenState} (F : Fs e G B L m U s) (F' : Fs (eng B L U s) G' B' L m' U' s') (hU : U'.map (·.1) = U.map (·.1)) : Fs e G' B' L m' U' s' := by
  have cg := F'.wake_cg hU
  refine ⟨⟨F.rn.bb.trans F'.rn.bb, fun b o q => ?_, fun b o hb q => ?_, fun b o q => ?_, F'.kp⟩, F'.ns, F'.lb, F.lg, fun p hp => ⟨(F'.own p hp).1, (F'.own p hp).2.1, (F'.own p hp).2.2.1, ?_⟩, F'.dis, F'.os.trans F.os, F'.gens⟩
  · rcases F'.rn.bn b o q with z | z
    · exact F.rn.bn b o z
    · rcases hid_none z with z | z
      · exfalso
        rcases List.mem_cons.mp z with rfl | z
        · rw [F'.lb] at q; cases q
        · rw [← hU] at z
          obtain ⟨p, hp, rfl⟩ := List.mem_map.mp z
          rw [(F'.own p hp).2.1] at q; cases q
      · exact .inr (F.fresh z)
  · refine cg.1 b o (fun z => ?_) (F.rn.hk b o hb q)
    rcases List.mem_cons.mp z with rfl | z
    · rw [F.lg] at q; cases q
    · obtain ⟨p, hp, rfl⟩ := List.mem_map.mp z
      rcases (F.own p hp).2.2.2 with y | y
      · rw [q] at y; cases y
      · exact hb y
  · obtain ⟨o', z⟩ := F.rn.th b o q
    by_cases hb : b ∈ L :: U.map (·.1)
    · exact cg.2 b hb ⟨o', z⟩
    · exact ⟨o', cg.1 b o' hb z⟩
  · have : p.1 ∈ U.map (·.1) := hU ▸ List.mem_map_of_mem hp
    obtain ⟨p2, hp2, e2⟩ := List.mem_map.mp this
    rw [← e2]; exact (F.own p2 hp2).2.2.2
end

section
variable {prog : Program} {w : World} {A : Around} {E : Value → Shared → Prop} {s : Shared} {e : En} {G : Array GenState} {H0 B : Heap} {L : Addr} {m : Str → Option Value} {U : Own} {env : Env}
theorem nTupC {vs : List Value} {Q : Value → Shared → Prop} (F : Fs e G B L m U s) (hc : Clean H0 B) (h : ∀ s' B' t, Kp B B' → Clean H0 B' → Is B' t (TupP vs) → Fs e G B' L m U s' → Q (.ref t) s') (hz : vs.length ≤ 1000) :
    wpAny (model prog w) A (newTuple vs) Q E s := by
  refine wpAny_newTuple ?_ (by rw [sizeLine_eq]; lia)
  have hn := none_of_size s.heap
  have hn' := none_kp F.kp hn
  have F1 := F.take (h' := s.heap.push { cls := .type "tuple", data := .seq vs.toArray }) (P := TupP vs) (fun b o q => Heap.get?_push_of_some _ q) hn ⟨_, Heap.get?_push_size _ rfl, rfl, 0, rfl⟩ s.toks
  obtain ⟨B', k, hi, F2, hne⟩ := F1.freezeX (F.fresh hn)
  refine h _ B' _ k (fun b o q => ?_) hi F2
  by_cases hb : b = s.heap.objs.size
  · subst hb
    obtain ⟨o', z, hz⟩ := hi
    rw [q] at z; cases z
    exact .inr ⟨_, _, hz.2.choose_spec⟩
  · rw [hne b hb] at q; exact hc b o q
theorem uTupH {elts : List Expr} {k : Nat} {pos : Pos} {t : Addr} {vs : List Value} {Q : Unit → Shared → Prop} (F : Fs e G B L m U s) (hh : A.handled = none) (ht : Is s.heap t (TupP vs))
    (hn : (assignEach elts env).length = vs.length) (hstar : (assignEach elts env).findIdx? (·.1) = none)
    (h : ∀ s', Fs e G B L m U s' → wpAny (model prog w) A (assignInOrder ((assignEach elts env).map (·.2)) vs) Q E s') :
    wpAny (model prog w) A (assign (.Tuple elts k pos) env (.ref t)) Q E s := by
  have ht' : s.heap.IsTuple t vs.toArray := ht
  refine wpAny_assign_Tuple hh ht' (by simpa using hn) hstar fun h' he => ?_
  exact h _ (F.grown (h' := h') (fun b o q => he b o (Nat.ne_of_lt (Heap.lt_size q)) q) s.toks)

/-- what a turn over a generator leaves behind -/
noncomputable def TurnQH (e : En) (G : Array GenState) (H0 B' : Heap) (L a : Addr) (g : Nat) (ks : List Addr) (Inv : Heap → (Str → Option Value) → Own → Prop) (f : Flow) (s3 : Shared) : Prop :=
  (f = .next ∨ f = .cont) ∧ ∃ B'' m'' U'', Kp B' B'' ∧ Clean H0 B'' ∧ U''.map (·.1) = ks ∧ Fs e G B'' L m'' ((a, GenP g) :: U'') s3 ∧ Inv B'' m'' U''
theorem TurnQH.mk {H0 B' B'' : Heap} {a : Addr} {g : Nat} {ks : List Addr} {Inv : Heap → (Str → Option Value) → Own → Prop} {f : Flow} {m'' : Str → Option Value} {U'' : Own} (hf : f = .next ∨ f = .cont) (k : Kp B' B'') (c : Clean H0 B'') (hU : U''.map (·.1) = ks)
    (F : Fs e G B'' L m'' ((a, GenP g) :: U'') s) (hI : Inv B'' m'' U'') : TurnQH e G H0 B' L a g ks Inv f s := ⟨hf, _, _, _, k, c, hU, F, hI⟩

/-- a for loop over a generator of blocks -/
theorem forGen {target : Expr} {body : List Stmt} {R : Result → Shared → Prop} {a : Addr} {G0 : Array GenState} {gs : GenState} {bl : List (List Int)} {W : List Addr} (hh : A.handled = none) (rm : Rm A 1) (gd : Gd w B)
    (hWe : W = L :: a :: U.map (·.1)) (F : Fs e (G0.push gs) B L m ((a, GenP G0.size) :: U) s)
    (hgo : ∀ s2 : Shared, Cg W s.heap s2.heap → gs.Goes (model prog w) A.in1 (Rg H0 W) (Yg H0 W bl) bl.length (.send .none) s2)
    (hcl : Clean H0 B) (hE : ∀ b o, e.s.heap.get? b = some o → ∃ o', H0.get? b = some o')
    (Inv : Nat → Heap → (Str → Option Value) → Own → Prop) (h0 : Inv 0 B m U)
    (turn : ∀ j t vs ks B' m' U' s' E', bl[j]? = some ks → Clean H0 B' → Kp B B' → Inv j B' m' U' → Is s'.heap t (TupP vs) → IntsAre vs ks → Fs (eng B' L ((a, GenP G0.size) :: U') s') s'.gens B' L m' ((a, GenP G0.size) :: U') s' →
      TurnG prog w A target body env (.ref t) (TurnQH (eng B' L ((a, GenP G0.size) :: U') s') s'.gens H0 B' L a G0.size (U'.map (·.1)) (Inv (j + 1))) E' s')
    (fin : ∀ B' m' U' s', Kp B B' → Inv bl.length B' m' U' → Fs e (G0.push .finished) B' L m' U' s' → R (.ok .next) s') :
    codeAny (model prog w) A (.forLoop target (.ref a) body [] env) R s := by
  have setP : ∀ x y : GenState, (G0.push x).setIfInBounds G0.size y = G0.push y := fun x y => by
    apply Array.ext_getElem?
    intro i
    rw [Array.getElem?_setIfInBounds, Array.getElem?_push, Array.getElem?_push]
    by_cases hi : G0.size = i
    · subst hi; simp
    · have h2 : ¬ i = G0.size := fun h => hi h.symm
      rw [if_neg hi, if_neg h2, if_neg h2]
  have getP : ∀ x : GenState, (G0.push x)[G0.size]? = some x := fun x => by simp
  refine codeAny_forLoop_any (fun k s' => ∃ j B' m' U' gs', k = bl.length + 1 - j ∧ j ≤ bl.length ∧ Kp B B' ∧ Clean H0 B' ∧ U'.map (·.1) = U.map (·.1) ∧ Fs e (G0.push gs') B' L m' ((a, GenP G0.size) :: U') s' ∧ Inv j B' m' U' ∧
    ∀ s2 : Shared, Cg W s'.heap s2.heap → gs'.Goes (model prog w) A.in1 (Rg H0 W) (Yg H0 W bl) (bl.length - j) (.send .none) s2) ?_ (bl.length + 1) ⟨0, B, m, U, gs, rfl, Nat.zero_le _, .refl _, hcl, rfl, F, h0, hgo⟩
  rintro k s' hX9; refine ea5_8 hX9 ?_; clear hX9; rintro j B' m' U' gs' rfl hj kb hc' hU F' hI hg'
  obtain ⟨o, ho, nm, qn, hcls, hdat, hsl⟩ := F'.top
  have hgen : s'.heap.IsGen a G0.size := ⟨o, nm, qn, ho, hcls, hdat, hsl⟩
  have hW' : ∀ b, b = L ∨ b ∈ ((a, GenP G0.size) :: U').map (·.1) → b ∈ W := fun b hb => by
    rw [hWe]
    rcases hb with rfl | hb
    · exact .head _
    · refine .tail _ ?_
      have e1 : ((a, GenP G0.size) :: U').map (·.1) = a :: U.map (·.1) := by rw [List.map_cons, hU]
      rwa [e1] at hb
  refine wpAny_pyNext_gen (gs := gs') (n := bl.length - j) (P := Pg H0 W) (Y := Yg H0 W bl) hh (gd.lim.keeps (kb.trans F'.kp)) (by have := rm.dep; lia) hgen (by rw [F'.gens]; exact getP _) (hg' _ (Cg.refl _ _)) (fun v s₁ gs2 hy => ?_) (fun s₁ hp h' hk' => ?_)
  · obtain ⟨hD, hos, hgens, ⟨t, vs, ks, rfl, ht, hi, hidx⟩, hkap⟩ := hy
    have F1 : Fs e (G0.push gs2) B' L m' ((a, GenP G0.size) :: U') (s₁.setGen G0.size gs2) := by
      have F2 := F'.dg (s' := s₁.setGen G0.size gs2) (H0 := H0) (W := W) hD hW' hc' hE hos
      have e1 : (s₁.setGen G0.size gs2).gens = G0.push gs2 := by
        show s₁.gens.setIfInBounds _ _ = _
        rw [hgens]
        show (s'.gens.setIfInBounds _ _).setIfInBounds _ _ = _
        rw [F'.gens, setP, setP]
      rwa [e1] at F2
    obtain ⟨m, hm⟩ : ∃ m, bl.length - j = m + 1 := by
      cases q : bl.length - j with
      | zero => rw [q] at hkap; exact (hkap s₁ (Cg.refl _ _)).elim
      | succ m => exact ⟨m, rfl⟩
    rw [hm] at hkap hidx
    have hj2 : bl.length - 1 - (m + 1 - 1) = j := by lia
    rw [hj2] at hidx
    obtain ⟨o1, ho1, nm1, qn1, hcls1, hdat1, hsl1⟩ := F1.top
    refine letGo_plain (T := "generator") ⟨_, ho1, hcls1, hdat1⟩ (by decide) ?_
    refine wpAny_mono (turn j t vs ks B' m' U' _ _ hidx hc' kb hI ht hi F1.wake) (fun _ s4 h4 => wpAny_mono h4 (fun f s5 h5 => ?_) fun _ _ x => x) fun _ _ x => x
    refine anE2 h5 ?_; clear h5; rintro hf hX9; refine ea3_5 hX9 ?_; clear hX9; rintro B'' m'' U'' k'' c'' U2 F'' I''
    have hU2 : ((a, GenP G0.size) :: U'').map (·.1) = ((a, GenP G0.size) :: U').map (·.1) := by rw [List.map_cons, List.map_cons, U2]
    have cg := F''.wake_cg hU2
    have F3 := F1.back F'' hU2
    rw [F1.gens] at F3
    have : ∃ m_1, m_1 < bl.length + 1 - j ∧ ∃ j B' m' U' gs', m_1 = bl.length + 1 - j ∧ j ≤ bl.length ∧ Kp B B' ∧ Clean H0 B' ∧ U'.map (·.1) = U.map (·.1) ∧ Fs e (G0.push gs') B' L m' ((a, GenP G0.size) :: U') s5 ∧ Inv j B' m' U' ∧
        ∀ s2 : Shared, Cg W s5.heap s2.heap → gs'.Goes (model prog w) A.in1 (Rg H0 W) (Yg H0 W bl) (bl.length - j) (.send .none) s2 := by
      refine ⟨bl.length + 1 - (j + 1), by lia, j + 1, B'', m'', U'', gs2, rfl, by lia, kb.trans k'', c'', U2.trans hU, F3, I'', fun s2 hs2 => ?_⟩
      have e2 : bl.length - (j + 1) = m := by lia
      rw [e2]
      have cg' : Cg W s₁.heap s5.heap := by
        have e3 : W = L :: ((a, GenP G0.size) :: U').map (·.1) := by rw [hWe, List.map_cons, hU]
        rw [e3]; exact cg
      exact hkap s2 (cg'.trans hs2)
    rcases hf with rfl | rfl <;> exact this
  · refine anE4 hp ?_; clear hp; rintro hn0 hD hos hgens
    obtain rfl : j = bl.length := by lia
    have F2 := F'.dg (s' := s₁.setGen G0.size .finished) (H0 := H0) (W := W) hD hW' hc' hE hos
    have e1 : (s₁.setGen G0.size .finished).gens = G0.push .finished := by
      show s₁.gens.setIfInBounds _ _ = _
      rw [hgens]
      show (s'.gens.setIfInBounds _ _).setIfInBounds _ _ = _
      rw [F'.gens, setP, setP]
    rw [e1] at F2
    have F3 := (F2.grown (h' := h') hk' (s₁.setGen G0.size .finished).toks).drop
    exact wpAny_execs_nil (fin _ _ _ _ kb hI F3)

/-- what a turn leaves behind, generators too -/
noncomputable def TurnQG (e : En) (B2 : Heap) (L : Addr) (W : Own) (Inv : Array GenState → Heap → (Str → Option Value) → Own → Prop) (f : Flow) (s3 : Shared) : Prop :=
  (f = .next ∨ f = .cont) ∧ ∃ G'' B'' m'' U'', Kp B2 B'' ∧ Fs e G'' B'' L m'' (W ++ U'') s3 ∧ Inv G'' B'' m'' U''
theorem TurnQG.mk {B2 B'' : Heap} {W U'' : Own} {Inv : Array GenState → Heap → (Str → Option Value) → Own → Prop} {f : Flow} {m'' : Str → Option Value} (hf : f = .next ∨ f = .cont) (k : Kp B2 B'') (F : Fs e G B'' L m'' (W ++ U'') s) (hI : Inv G B'' m'' U'') :
    TurnQG e B2 L W Inv f s := ⟨hf, _, _, _, _, k, F, hI⟩
noncomputable def ForTodoG (prog : Program) (w : World) (A : Around) (e : En) (G : Array GenState) (L : Addr) (env : Env) (target : Expr) (body : List Stmt) (Q : Flow → Shared → Prop) (it : Value) (s2 : Shared) : Prop :=
      ∃ ita B2 m2 U2 B₀ St Mid n V, it = .ref ita ∧ Nx prog w B₀ ita St Mid n V target ∧ Kp B₀ B2 ∧ (∀ i, ∀ p ∈ St i, e.s.heap.get? p.1 = none) ∧ Fs e G B2 L m2 (St 0 ++ U2) s2 ∧
        ∃ Inv : Nat → Array GenState → Heap → (Str → Option Value) → Own → Prop, Inv 0 G B2 m2 U2 ∧ (∀ i G' B' B'' m' U', Inv i G' B' m' U' → Kp B' B'' → Inv i G' B'' m' U') ∧
        (∀ i v G' B' m' U' s' E', i < n → Kp B2 B' → Inv i G' B' m' U' → V B' i v → Fs e G' B' L m' (St (i + 1) ++ U') s' →
          TurnG prog w A target body env v (TurnQG e B2 L (St (i + 1)) (Inv (i + 1))) E' s') ∧
        (∀ G' B' m' U' s', Kp B2 B' → Inv n G' B' m' U' → Fs e G' B' L m' U' s' → Q .next s')
theorem ForTodoG.mk {target : Expr} {body : List Stmt} {Q : Flow → Shared → Prop} (ita : Addr) {B2 : Heap} {m2 : Str → Option Value} {U2 : Own} {B₀ : Heap} {St : Nat → Own} {Mid : Nat → Value → Own} {n : Nat} {V : Heap → Nat → Value → Prop}
    (N : Nx prog w B₀ ita St Mid n V target) (k0 : Kp B₀ B2) (hfr : ∀ i, ∀ p ∈ St i, e.s.heap.get? p.1 = none) (F : Fs e G B2 L m2 (St 0 ++ U2) s)
    (Inv : Nat → Array GenState → Heap → (Str → Option Value) → Own → Prop) (h0 : Inv 0 G B2 m2 U2)
    (h : let I := Inv; (∀ i G' B' B'' m' U', I i G' B' m' U' → Kp B' B'' → I i G' B'' m' U') ∧
        (∀ i v G' B' m' U' s' E', i < n → Kp B2 B' → I i G' B' m' U' → V B' i v → Fs e G' B' L m' (St (i + 1) ++ U') s' →
          TurnG prog w A target body env v (TurnQG e B2 L (St (i + 1)) (I (i + 1))) E' s') ∧
        (∀ G' B' m' U' s', Kp B2 B' → I n G' B' m' U' → Fs e G' B' L m' U' s' → Q .next s')) : ForTodoG prog w A e G L env target body Q (.ref ita) s :=
  ⟨ita, B2, m2, U2, B₀, St, Mid, n, V, rfl, N, k0, hfr, F, Inv, h0, h⟩
theorem for1G {target iter : Expr} {body : List Stmt} {pos : Pos} {Q : Flow → Shared → Prop} (F₀ : Fs e G B L m U s) (hh : A.handled = none)
    (h : wpAny (model prog w) A (eval iter env) (fun x s1 => wpAny (model prog w) A (pyIter x) (fun it s2 => ForTodoG prog w A e G L env target body Q it s2) E s1) E s)
    (hs : ∀ x, foldedSetIterable iter env x = pure x) :
    wpAny (model prog w) A (exec (.For target iter body [] pos) env) Q E s := by
  refine forStmt (wpAny_mono h (fun x s1 h1 => wpAny_mono h1 (fun it s2 h2 X => ?_) fun _ _ x => x) fun _ _ x => x) hs
  refine ea9_6 h2 ?_; clear h2; rintro ita B2 m2 U2 B₀ St Mid n V rfl N k0 hfr F2 hX9; refine ea1_4 hX9 ?_; clear hX9; rintro Inv h0 mono turn fin
  refine codeAny_forLoop_any (fun k s' => ∃ i G' B' m' U', k = n + 1 - i ∧ i ≤ n ∧ Kp B2 B' ∧ Fs e G' B' L m' (St i ++ U') s' ∧ Inv i G' B' m' U') ?_ (n + 1) ⟨0, G, B2, m2, U2, rfl, Nat.zero_le _, .refl _, F2, h0⟩
  rintro k s' hX9; refine ea5_5 hX9 ?_; clear hX9; rintro i G' B' m' U' rfl hi kb F' hI
  by_cases hlt : i < n
  · refine N.item hh (k0.trans kb) F' hlt fun v s2 B3 k2 hv F3 => ?_
    refine N.lets (k0.trans (kb.trans k2)) F3 hv fun s3 F4 => ?_
    refine wpAny_mono (turn i v G' B3 m' U' s3 _ hlt (kb.trans k2) (mono i G' B' B3 m' U' hI k2) hv F4) (fun _ s4 h4 => wpAny_mono h4 (fun f s5 h5 => ?_) fun _ _ x => x) fun _ _ x => x
    refine anE2 h5 ?_; clear h5; rintro hf hX9; refine ea4_3 hX9 ?_; clear hX9; rintro G'' B'' m'' U'' k'' F'' I''
    have : ∃ m_1, m_1 < n + 1 - i ∧ ∃ i_1 G' B' m' U', m_1 = n + 1 - i_1 ∧ i_1 ≤ n ∧ Kp B2 B' ∧ Fs e G' B' L m' (St i_1 ++ U') s5 ∧ Inv i_1 G' B' m' U' :=
      ⟨n + 1 - (i + 1), by lia, i + 1, G'', B'', m'', U'', rfl, hlt, k'', F'', I''⟩
    rcases hf with rfl | rfl <;> exact this
  · obtain rfl : i = n := by lia
    refine N.done hh (hfr i) (k0.trans kb) F' fun s2 F2 => ?_
    exact wpAny_execs_nil (fin _ _ _ _ _ kb hI F2)
end
end
section
theorem Rm.in1 {A : Around} {n : Nat} (r : Rm A (n + 1)) : Rm A.in1 n := ⟨r.hh, by have := r.dep; show A.depth + n < _; lia, by have := r.un; show A.units + 1 + _ + _ < _; lia⟩
/-- generators that have run out, behind those that were there -/
inductive FinG (G0 : Array GenState) : Array GenState → Prop
  | z : FinG G0 G0
  | s {G : Array GenState} : FinG G0 G → FinG G0 (G.push .finished)

theorem uNum_four {d : FrD} {ps : List Nat} {i : Int} {ks : List Int} (h : ks ∈ uNum d ps i) : ∃ a b c x, ks = [a, b, c, x] := by
  unfold uNum uAt at h
  split at h
  · rcases List.mem_singleton.mp h with rfl; exact ⟨_, _, _, _, rfl⟩
  · obtain ⟨pl, _, h⟩ := List.mem_flatMap.mp h
    unfold uComp at h
    obtain ⟨dn, _, h⟩ := List.mem_flatMap.mp h
    unfold uRow at h
    obtain ⟨ac, _, rfl⟩ := List.mem_map.mp h
    exact ⟨_, _, _, _, rfl⟩
theorem span_four {d : FrD} {ps : List Nat} {first : Int} {many : Nat} {ks : List Int} (h : ks ∈ spanBl d ps first many) : ∃ a b c x, ks = [a, b, c, x] := by
  obtain ⟨i, _, h⟩ := List.mem_flatMap.mp h
  exact uNum_four h

theorem all_stored {xs : Ents} {k : List Int} {a : Addr} {v : Value} (h : ∀ x ∈ xs, x.2.2 = v) : ∀ x ∈ storedH xs k a v, x.2.2 = v := by
  intro x hx
  cases q : atKey xs k with
  | none =>
    rw [storedH_new q] at hx
    rcases List.mem_append.mp hx with hx | hx
    · exact h x hx
    · rcases List.mem_singleton.mp hx with rfl; rfl
  | some p =>
    rw [storedH_old q] at hx
    obtain ⟨y, hy, rfl⟩ := List.mem_map.mp hx
    unfold putAt
    split
    · rfl
    · exact h y hy
/-- the lots' blocks, one behind another -/
noncomputable def lotBl (d : FrD) (ps : List Nat) (lots : List (Nat × Nat)) : List (List Int) := lots.flatMap fun l => spanBl d ps l.1 l.2
noncomputable def lotKs (d : FrD) (ps : List Nat) (lots : List (Nat × Nat)) : List (List Int) := (lotBl d ps lots).map (List.drop 1)
noncomputable def lotTs (lots : List (Nat × Nat)) : List (List Int) := lots.map fun l => [(l.1 : Int), (l.2 : Int)]

set_option maxHeartbeats 4000000 in
theorem lostBlocksS {w : World} {A : Around} {E : Value → Shared → Prop} {s : Shared} {B : Heap} {x y z : Addr} {d : FrD} {ps : List Nat} {lots : List (Nat × Nat)} {lvs : List Value} {Q : Value → Shared → Prop}
    (gd : Gd w B) (kB : Kp B s.heap) (rm : Rm A 12) (fr : FrB B x d) (ok : d.Ok) (sc : ScB B y (psI ps)) (pk : PsOk d ps) (hu : 0 < unA d ps) (hu2 : unA d ps < 1000000)
    (hz : Is B z (LstP lvs)) (hts : TupsAre B lvs (lotTs lots)) (hlt : ∀ l ∈ lots, l.1 < 1000 ∧ l.2 < 1000) (hlen : (lotBl d ps lots).length ≤ 10000)
    (h : ∀ s' B' G' D xs, Kp B B' → Rs [] G' B s B' s' → FinG s.gens G' → s.heap.get? D = none → B'.get? D = none → Is s'.heap D (DicP PR w xs) → KeysAt PR w B' xs → (∀ k, k ∈ xs.map (·.1) ↔ k ∈ lotKs d ps lots) → xs.length ≤ 10000 → (∀ x ∈ xs, x.2.2 = .bool true) → Q (.ref D) s') :
    wpAny (model PR w) A (call (.ref 61) [.ref x, .ref y, .ref z]) Q E s := by
  refine' enterP (n := 11) (binds := [(Str.ofString "frame", .ref x), (Str.ofString "scan", .ref y), (Str.ofString "lost", .ref z)]) [] [] gd kB rm ?ho ?hcd ?hb ?hV ?hd ?hl ?h ?c1 ?c2 ?c3 ?c4
  walk_at "enter"
  case hV => intro p hp; exact nomatch hp
  case hd => exact .nil
  case h =>
  intro L s1 E' A' m0 F R env Qr
  walk_at "go"
  refine nDic (prog := PR) F ?_
  clear F; intro s2 D hD F; walk_at "su"
  walk_at "go"
  refine for1G F R.hh ?_ (fun _ => rfl)
  walk_at "go"
  refine iLst F (hz.keeps F.kp) ?_
  clear F; intro s3 it hit F
  have hLl := hts.length
  have hLl2 : lvs.length = lots.length := by rw [hLl]; simp [lotTs]
  refine ForTodoG.mk (B2 := B) (B₀ := B) (n := lvs.length) it (nxList (lst_is hz)) (.refl _) ?_ F (fun i G' B' m' U' => FinG s.gens G' ∧ ∃ xs, U' = [(D, DicP PR w xs)] ∧ KeysAt PR w B' xs ∧ (∀ k, k ∈ xs.map (·.1) ↔ k ∈ lotKs d ps (lots.take i)) ∧ xs.length ≤ (lotBl d ps (lots.take i)).length ∧ (∀ x ∈ xs, x.2.2 = .bool true) ∧
    m' (Str.ofString "frame") = some (.ref x) ∧ m' (Str.ofString "scan") = some (.ref y) ∧ m' (Str.ofString "found") = some (.ref D)) ⟨.z, [], rfl, (fun _ h => nomatch h), (fun k => by simp [lotKs, lotBl]), Nat.zero_le _, (fun _ h => nomatch h), rfl, rfl, rfl⟩ ?_
  · intro i p hp
    rcases List.mem_singleton.mp hp with rfl; exact hit
  intro Iv
  refine ⟨?_, ?_, ?_⟩
  · rintro i G' B' B'' m' U' hX9; refine anE2 hX9 ?_; clear hX9; rintro h0 hX9; refine ea1_3 hX9 ?_; clear hX9; rintro xs h1 h2 h3 k
    exact ⟨h0, xs, h1, h2.mono k, h3⟩
  · rintro i v G' B' m' U' s4 E4 hi k hX9; refine anE2 hX9 ?_; clear hX9; rintro hG hX9; refine ea1_8 hX9 ?_; clear hX9; rintro xs rfl hK hks hxl hxv m1 m2 m3 hv F
    walk_at "su"
    have hi2 : i < lots.length := by lia
    refine hts.getE hv ?_; rintro kk tt vt hkk rfl hti hin
    have hkk2 : kk = [(lots[i].1 : Int), (lots[i].2 : Int)] := by
      unfold lotTs at hkk
      rw [List.getElem?_map, List.getElem?_eq_getElem hi2] at hkk
      exact (Option.some.inj hkk).symm
    subst hkk2
    obtain ⟨ta, tb, rfl⟩ := ints2 hin
    obtain ⟨hl1, hl2⟩ := hlt _ (List.getElem_mem hi2)
    have htk : lots.take (i + 1) = lots.take i ++ [lots[i]] := by rw [List.take_add_one]; simp [hi2]
    generalize hlo : lots[i] = lo at hl1 hl2 F htk hti ⊢
    walk_at "lift"
    replace hti := hti.keeps k
    walk_at "go"
    refine forStmt ?_ (fun _ => rfl)
    walk_at "go"
    refine spanS gd F.kp (R.less (by decide)) fr ok sc pk hu hu2 (by lia) (by lia) hl2 ?_
    have F5 := F
    intro s6 a Lg gs k1 ha hLg haL hga hgens hos hGo
    have hB : ∀ b o, B'.get? b = some o → s'.heap.get? b = some o := F5.kp
    have F6 := F5.takeG (s' := s6) k1 ha hga hos
    rw [hgens, F5.gens] at F6
    rw [F5.gens] at hga
    obtain ⟨og, hog, nmg, qng, gcls, gdat, gsl⟩ := hga
    refine wpAny_pyIter_gen ⟨og, nmg, qng, hog, gcls, gdat, gsl⟩ ?_
    intro X
    have hown : ∀ b, b = L ∨ b ∈ [it, D] → B'.get? b = none ∧ ∃ o, s'.heap.get? b = some o := fun b hb => by
      rcases hb with rfl | hb
      · exact ⟨F5.lb, F5.L_some⟩
      · have : ∃ p ∈ ([(it, LItP z (i + 1))] ++ [(D, DicP PR w xs)] : Own), p.1 = b := by
          rcases List.mem_cons.mp hb with rfl | hb
          · exact ⟨_, .head _, rfl⟩
          · rcases List.mem_singleton.mp hb with rfl; exact ⟨_, .tail _ (.head _), rfl⟩
        obtain ⟨p, hp, rfl⟩ := this
        obtain ⟨⟨o, ho, _⟩, h2, _⟩ := F5.own p hp
        exact ⟨h2, o, ho⟩
    refine forGen (H0 := s'.heap) (G0 := G') (bl := spanBl d ps (lo.1 : Int) lo.2) (W := L :: a :: [it, D]) R.hh (R.less (by decide)) gd rfl F6 (fun s2 hs2 => hGo _ _ s2 (Rm.in1 (R.less (by decide))) (fun b hb => ?_) hs2) (Clean.old F5.kp) (fun b o q => F5.rn.th b o q)
      (fun j B' m' U' => ∃ xs', U' = [(it, LItP z (i + 1)), (D, DicP PR w xs')] ∧ KeysAt PR w B' xs' ∧ (∀ k, k ∈ xs'.map (·.1) ↔ k ∈ lotKs d ps (lots.take i) ∨ k ∈ ((spanBl d ps lo.1 lo.2).take j).map (List.drop 1)) ∧ xs'.length ≤ (lotBl d ps (lots.take i)).length + j ∧ (∀ x ∈ xs', x.2.2 = .bool true) ∧
        m' (Str.ofString "frame") = some (.ref x) ∧ m' (Str.ofString "scan") = some (.ref y) ∧ m' (Str.ofString "found") = some (.ref D))
      ⟨xs, rfl, hK, (fun k => by rw [hks]; simp), hxl, hxv, m1, m2, m3⟩ ?_ ?_
    · rcases List.mem_cons.mp hb with rfl | hb
      · exact ⟨(hown b (.inl rfl)).1, .inl (hown b (.inl rfl)).2⟩
      · rcases List.mem_cons.mp hb with rfl | hb
        · exact ⟨none_kp F5.kp ha, .inr rfl⟩
        · exact ⟨(hown b (.inr hb)).1, .inl (hown b (.inr hb)).2⟩
    · rintro j t vs ks B7 m7 U7 s7 E7 hj hC7 kb7 hX9; refine ea1_8 hX9 ?_; clear hX9; rintro xs' rfl hK' hks' hxl' hxv' n1 n2 n3 ht hin7 F
      walk_at "su"
      refine TurnG.mk ?_
      refine ea4_1 (span_four (List.mem_of_getElem? hj)) ?_; rintro c1 c2 c3 c4 rfl
      refine ea4_1 (ints4 hin7) ?_; rintro u1 u2 u3 u4 rfl
      refine uTupH F R.hh ht rfl rfl ?_
      clear F; intro s8 F
      walk_at "gx"
      refine nTupC F hC7 ?_ (Nat.le_of_ble_eq_true rfl)
      clear F; intro s9 B9 t9 k9 hC9 ht9 F
      have hz9 : xs'.length ≤ 100000 := by
        have h1 : (lotBl d ps (lots.take i)).length ≤ (lotBl d ps lots).length := by
          have : lots = lots.take i ++ lots.drop i := (List.take_append_drop i lots).symm
          conv => rhs; rw [this]
          unfold lotBl; rw [List.flatMap_append, List.length_append]; exact Nat.le_add_right _ _
        have h2 : j < (spanBl d ps lo.1 lo.2).length := (List.getElem?_eq_some_iff.mp hj).1
        have h3 : (spanBl d ps lo.1 lo.2).length ≤ (lotBl d ps lots).length := by
          unfold lotBl
          rw [← hlo]
          exact (List.sublist_flatten_of_mem (List.mem_map_of_mem (f := fun l : Nat × Nat => spanBl d ps l.1 l.2) (List.getElem_mem hi2))).length_le
        lia
      refine sDic (F.f3) R.u (hK'.mono k9) (tupAt_in3 ht9) hz9 ?_
      clear F; intro s10 F; walk_at "su"
      walk_at "gx"
      have htj : (spanBl d ps lo.1 lo.2).take (j + 1) = (spanBl d ps lo.1 lo.2).take j ++ [[c1, c2, c3, c4]] := by
        rw [List.take_add_one, hj]; rfl
      refine TurnQH.mk (.inl rfl) k9 hC9 ?_ F.b3 ⟨_, rfl, (hK'.mono k9).stored (tupAt_in3 ht9), fun k => ?_, ?_, all_stored hxv', n1, n2, n3⟩
      · rfl
      · rw [keys_stored, hks', htj]
        simp only [List.map_append, List.mem_append, List.map_cons, List.map_nil, List.mem_singleton]
        show k = [c2, c3, c4] ∨ _ ↔ _ ∨ _ ∨ k = [c2, c3, c4]
        constructor
        · rintro (h | h | h)
          · exact .inr (.inr h)
          · exact .inl h
          · exact .inr (.inl h)
        · rintro (h | h | h)
          · exact .inr (.inl h)
          · exact .inr (.inr h)
          · exact .inl h
      · have := len_stored xs' [c2, c3, c4] t9 (.bool true)
        lia
    · rintro B7 m7 U7 s7 kb7 hX9; refine ea1_8 hX9 ?_; clear hX9; rintro xs' rfl hK' hks' hxl' hxv' n1 n2 n3 F
      walk_at "su"
      walk_at "gx"
      refine TurnQG.mk (.inl rfl) ?_ F ⟨.s hG, xs', rfl, hK', fun k => ?_, ?_, hxv', n1, n2, n3⟩
      · exact Kp.trans (by assumption) kb7
      · rw [hks', htk, List.take_length]
        unfold lotKs lotBl
        rw [List.flatMap_append, List.map_append, List.mem_append]
        simp
      · have e9 : lotBl d ps (lots.take i ++ [lo]) = lotBl d ps (lots.take i) ++ spanBl d ps lo.1 lo.2 := by
          unfold lotBl; rw [List.flatMap_append]; simp
        rw [htk, e9, List.length_append]; exact hxl'
  · rintro G' B' m' U' s4 k hX9; refine anE2 hX9 ?_; clear hX9; rintro hG hX9; refine ea1_8 hX9 ?_; clear hX9; rintro xs rfl hK hks hxl hxv m1 m2 m3 F
    walk_at "su"
    walk_at "gx"
    have e1 : lots.take lvs.length = lots := List.take_of_length_le (by lia)
    rw [e1] at hks hxl
    exact h _ B' G' D xs k F.rs hG hD (F.own _ (.head _)).2.1 F.top hK hks (by lia) hxv
end
section
/-- the mean of n numbers of this sum, halves away from 0 -/
noncomputable def rmF (t n : Int) : Int := if 0 ≤ t then (2 * (t.natAbs : Int) + n) / (2 * n) else -((2 * (t.natAbs : Int) + n) / (2 * n))

set_option maxHeartbeats 1000000 in
theorem roundedMeanS {w : World} {A : Around} {E : Value → Shared → Prop} {s : Shared} {B : Heap} {l : Addr} {vs : List Value} {ns : List Int} {Q : Value → Shared → Prop}
    (gd : Gd w B) (kB : Kp B s.heap) (rm : Rm A 1) (hl : Is s.heap l (LstP vs)) (hi : IntsAre vs ns) (hne : 0 < ns.length) (hz : ns.length ≤ 1000)
    (h : ∀ s' t, Rs [] s.gens B s B s' → Q (.int (rmF ns.sum ns.length) t) s') :
    wpAny (model PR w) A (call (.ref 75) [.ref l]) Q E s := by
  refine' enterP (n := 0) (binds := [(Str.ofString "numbers", .ref l)]) [] [] gd kB rm ?ho ?hcd ?hb ?hV ?hd ?hl ?h ?c1 ?c2 ?c3 ?c4
  walk_at "enter"
  case hV => intro p hp; exact nomatch hp
  case hd => exact .nil
  case h =>
  intro L s1 E' A' m0 F R env Qr
  have hvl := hi.length
  walk_at "go"
  refine bSumL F R.hh (F.old hl) hi ?_
  clear F; intro s2 t2 F
  walk_at "go"
  refine bMax2 F R.hh ?_
  clear F; intro s3 t3 F
  walk_at "go"
  refine bLenL F (F.old hl) (by lia) ?_
  clear F; intro s4 t4 F
  walk_at "go"
  refine bLenL F (F.old hl) (by lia) ?_
  clear F; intro s5 t5 F
  walk_at "go"
  have e0 : max ns.sum (-ns.sum) = (ns.sum.natAbs : Int) := by lia
  by_cases c : 0 ≤ ns.sum
  · rw [show decide (0 ≤ ns.sum) = true from decide_eq_true c]
    walk_at "go"
    have e1 : rmF ns.sum ns.length = (2 * max ns.sum (-ns.sum) + (vs.length : Int)) / (2 * (vs.length : Int)) := by
      unfold rmF; rw [if_pos c, e0, hvl]
    rw [← e1]
    exact h _ _ F.rs
  · rw [show decide (0 ≤ ns.sum) = false from decide_eq_false c]
    walk_at "go"
    have e1 : rmF ns.sum ns.length = -((2 * max ns.sum (-ns.sum) + (vs.length : Int)) / (2 * (vs.length : Int))) := by
      unfold rmF; rw [if_neg c, e0, hvl]
    rw [← e1]
    exact h _ _ F.rs

set_option maxHeartbeats 1000000 in
theorem lawRoundedS {w : World} {A : Around} {E : Value → Shared → Prop} {s : Shared} {B : Heap} {t n : Int} {t1 t2 : Tok} {Q : Value → Shared → Prop}
    (gd : Gd w B) (kB : Kp B s.heap) (rm : Rm A 1) (h0 : 0 < n) (h1 : n ≤ 1000)
    (h : ∀ s' u, Rs [] s.gens B s B s' → Q (.int (rmF t n) u) s') :
    wpAny (model PR w) A (call (.ref 287) [.int t t1, .int n t2]) Q E s := by
  refine' enterP (n := 0) (binds := [(Str.ofString "total", .int t t1), (Str.ofString "many", .int n t2)]) [] [] gd kB rm ?ho ?hcd ?hb ?hV ?hd ?hl ?h ?c1 ?c2 ?c3 ?c4
  walk_at "enter"
  case hV => intro p hp; exact nomatch hp
  case hd => exact .nil
  case h =>
  intro L s1 E' A' m0 F R env Qr
  walk_at "go"
  refine bAbs F ?_
  clear F; intro s2 t2 F
  walk_at "go"
  by_cases c : 0 ≤ t
  · rw [show decide (0 ≤ t) = true from decide_eq_true c]
    walk_at "go"
    have e1 : rmF t n = (2 * (t.natAbs : Int) + n) / (2 * n) := if_pos c
    rw [← e1]
    exact h _ _ F.rs
  · rw [show decide (0 ≤ t) = false from decide_eq_false c]
    walk_at "go"
    have e1 : rmF t n = 0 - (2 * (t.natAbs : Int) + n) / (2 * n) := by unfold rmF; rw [if_neg c]; lia
    rw [← e1]
    exact h _ _ F.rs

set_option maxHeartbeats 1000000 in
theorem lawBlocksAcrossS {w : World} {A : Around} {E : Value → Shared → Prop} {s : Shared} {B : Heap} {a b c : Int} {t1 t2 t3 : Tok} {Q : Value → Shared → Prop}
    (gd : Gd w B) (kB : Kp B s.heap) (rm : Rm A 1) (h0 : 0 < c) (h1 : c ≤ 1000) (hb : 0 ≤ b) (hb2 : b ≤ 1000)
    (h : ∀ s' u, Rs [] s.gens B s B s' → Q (.int (((a * b + c - 1) / c + 1) / 2) u) s') :
    wpAny (model PR w) A (call (.ref 275) [.int a t1, .int b t2, .int c t3]) Q E s := by
  refine' enterP (n := 0) (binds := [(Str.ofString "size", .int a t1), (Str.ofString "step", .int b t2), (Str.ofString "most", .int c t3)]) [] [] gd kB rm ?ho ?hcd ?hb ?hV ?hd ?hl ?h ?c1 ?c2 ?c3 ?c4
  walk_at "enter"
  case hV => intro p hp; exact nomatch hp
  case hd => exact .nil
  case h =>
  intro L s1 E' A' m0 F R env Qr
  walk_at "go"
  exact h _ _ F.rs
end
section
section
variable {prog : Program} {w : World} {A : Around} {E : Value → Shared → Prop} {s : Shared} {e : En} {G : Array GenState} {B : Heap} {L : Addr} {m : Str → Option Value} {U : Own} {env : Env}

/-- d.get(k, v) -/
theorem bGet {D t : Addr} {xs : Ents} {k : List Int} {v : Value} {Q : Value → Shared → Prop} (F : Fs e G B L m U s) (hd : Is s.heap D (DicP prog w xs)) (hns : (D == sysModules) = false) (hu : A.units + 20 < cLine) (K : KeysAt prog w B xs) (hk : TupAt prog w B t k)
    (h : ∀ s', Fs e G B L m U s' → Q ((valK xs k).getD v) s') : wpAny (model prog w) A (call (.builtin "dict.get") [.ref D, .ref t, v]) Q E s := by
  have hm := dic_of hd (K.mono F.kp)
  exact call_meetsIn PySem.F.slot_dict_get hm.typeIs PySem.F.entry_dict_get (PySem.F.args_dict_get_3 _ _ _) (meetsH_dict_get_default (tk prog w) D t hns v)
    ⟨show A.units + 1 < cLine by lia, k, xs, hk.mono F.kp, hm, h _ (F.tk _)⟩

theorem setHashed_heap {D t : Addr} {xs : Ents} {k : List Int} {v : Value} {Q : Unit → Shared → Prop} (hu : A.units < cLine) (hk : TupAt prog w s.heap t k) (hm : s.heap.DictOfH (tk prog w) D xs)
    (hQ : ∀ h', h'.DictOfH (tk prog w) D (storedH xs k t v) → Heap.SameBut D s.heap h' → Q () { s with heap := h' }) (hsz : xs.length ≤ sizeLine) :
    wpAny (model prog w) A (dictSetHashed D (.ref t) ((tk prog w).hash k) v) Q E s := by
  obtain ⟨o, es, ep, ho, hc, hd, he, his, hn⟩ := hm
  have hkey : (tk prog w).is s.heap k t := hk
  unfold dictSetHashed
  try with_reducible refine wpAny_holding ?_
  refine wpAny_bind (wpAny_dictFind_heap (knd := tk prog w) (s := s) hu hkey ho hd he his hn ?_ ?_)
  · intro hno
    have hnot : k ∉ xs.map (·.1) := not_mem_keys_of_get hno
    refine wpAny_bind (wpAny_rule (wpAny_updateDictKeys (hz := by have e := size_of_entries he; lia) (s := s) ho hd (hQ _ ⟨_, _, ep + 1, Heap.get?_update_self _ ho (Obj.isFreed_of_dict (Obj.data_mapDictKeys hd _)),
      hc.mapDictKeys _, Obj.data_mapDictKeys hd _, ?_, ?_, ?_⟩ (Heap.SameBut.update ..))))
    · rw [storedH_new (atKey_none_of_get hno)]
      simp [he, entryOfKey]
    · rw [storedH_new (atKey_none_of_get hno)]
      intro x hx
      rcases List.mem_append.mp hx with hx | hx
      · exact (tk prog w).keeps (his x hx) ho hd (Heap.SameBut.update ..)
      · simp only [List.mem_singleton] at hx
        subst hx
        exact (tk prog w).keeps hkey ho hd (Heap.SameBut.update ..)
    · rw [storedH_new (atKey_none_of_get hno)]
      rw [List.map_append, List.nodup_append]
      refine ⟨hn, by simp, ?_⟩
      intro x hx y hy
      simp only [List.map_cons, List.map_nil, List.mem_singleton] at hy
      subst hy
      exact fun e => hnot (e ▸ hx)
  · intro j p hj
    refine wpAny_bind (wpAny_rule (wpAny_bind (wpAny_updateDict (s := s) ho hd (wpAny_point (hQ _ ⟨_, _, ep, Heap.get?_update_self _ ho (Obj.isFreed_of_dict (Obj.data_mapDict hd _)),
      hc.mapDict _, Obj.data_mapDict hd _, ?_, ?_, ?_⟩ (Heap.SameBut.update ..))))))
    · rw [storedH_old (atKey_of_get hn hj)]
      have := modify_map_putAt (entryOfKey (tk prog w)) (fun e : DictEntry => { e with val := v }) k v (fun _ _ => rfl) hn hj
      rw [← he] at this
      obtain ⟨l⟩ := es
      simpa using this
    · rw [storedH_old (atKey_of_get hn hj)]
      intro x hx
      obtain ⟨y, hy, rfl⟩ := List.mem_map.mp hx
      unfold putAt
      split <;> exact (tk prog w).keeps (his y hy) ho hd (Heap.SameBut.update ..)
    · rw [storedH_old (atKey_of_get hn hj)]
      rw [keys_map_putAt]; exact hn

noncomputable def merH (xs ys : Ents) : Ents := ys.foldl (fun acc y => storedH acc y.1 y.2.1 y.2.2) xs
theorem merH_succ (xs ys : Ents) (i : Nat) (y : List Int × Addr × Value) (h : ys[i]? = some y) : merH xs (ys.take (i + 1)) = storedH (merH xs (ys.take i)) y.1 y.2.1 y.2.2 := by
  simp [merH, List.take_add_one, h, List.foldl_append]
theorem merH_len (xs ys : Ents) : (merH xs ys).length ≤ xs.length + ys.length := by
  induction ys generalizing xs with
  | nil => simp [merH]
  | cons y r ih =>
    have e1 := ih (storedH xs y.1 y.2.1 y.2.2)
    have e2 := len_stored xs y.1 y.2.1 y.2.2
    simp only [merH, List.foldl_cons, List.length_cons] at e1 ⊢
    lia
theorem val_merH (xs ys : Ents) (k : List Int) (hn : (ys.map (·.1)).Nodup) : valK (merH xs ys) k = (valK ys k).or (valK xs k) := by
  induction ys generalizing xs with
  | nil => simp [merH, valK, atKey]
  | cons y r ih =>
    rw [List.map_cons, List.nodup_cons] at hn
    have e1 := ih (storedH xs y.1 y.2.1 y.2.2) hn.2
    have e2 : merH xs (y :: r) = merH (storedH xs y.1 y.2.1 y.2.2) r := rfl
    rw [e2, e1, val_stored]
    have e3 : valK (y :: r) k = if y.1 = k then some y.2.2 else valK r k := by
      unfold valK; rw [atKey_cons]; split <;> rfl
    rw [e3]
    by_cases h : y.1 = k
    · rw [if_pos h, if_pos h]
      have : valK r k = none := by
        cases h2 : valK r k with
        | none => rfl
        | some v => exact absurd (valK_isSome.mp (by rw [h2]; rfl)) (h ▸ hn.1)
      rw [this]; rfl
    · rw [if_neg h, if_neg h]

theorem merge_heap {nm : String} {d o : Addr} {xs ys : Ents} {Q : Unit → Shared → Prop} (hu : A.units < cLine) (hdo : d ≠ o) (hoS : (o == sysModules) = false) (hne : xs ≠ [])
    (hd : s.heap.DictOfH (tk prog w) d xs) (ho : s.heap.DictOfH (tk prog w) o ys)
    (hQ : ∀ h', h'.DictOfH (tk prog w) d (merH xs ys) → Heap.SameBut d s.heap h' → Q () { s with heap := h' }) (hsz : xs.length + ys.length ≤ sizeLine) :
    wpAny (model prog w) A (Builtin.Dict.mergeDict nm d o) Q E s := by
  refine ea3_6 hd ?_; rintro od esd epd hod hcd hdd hed hid hnd
  refine ea3_6 ho ?_; rintro oo eso epo hoo hco hdo' heo hio hno
  have hlen : ys.length = eso.size := by rw [size_of_entries heo]
  have hdn : esd.isEmpty = false := by
    have h1 := size_of_entries hed
    have h2 : xs.length ≠ 0 := fun h => hne (List.length_eq_zero_iff.mp h)
    have h3 : esd.size ≠ 0 := by rw [h1]; exact h2
    simpa [Array.isEmpty] using h3
  unfold Builtin.Dict.mergeDict
  rw [if_neg (by simpa using hdo)]
  unfold Builtin.Dict.showsAll
  rw [if_neg (by rw [hoS]; exact Bool.false_ne_true)]
  refine wpAny_bind (wpAny_pure ?_)
  refine wpAny_bind (wpAny_dictEntries hoo hdo' ?_)
  have loop : wpAny (model prog w) A (do
      let epoch ← dictEpoch o
      let l ← dictEntries o
      forIn [:l.size] PUnit.unit fun i (_ : PUnit) => (do
          let l' ← dictEntries o
          match l'[i]? with
            | some e => do
              holding [e.key, e.val] (dictSetHashed d e.key e.hash e.val)
              let ep' ← dictEpoch o
              if (ep' != epoch) = true then do
                  (unsupported (toString nm ++ toString ":source-changed-during-callback") : Sem PUnit)
                  pure (ForInStep.yield PUnit.unit)
                else pure (ForInStep.yield PUnit.unit)
            | _ => do
              (unsupported "internal:dict-merge" : Sem PUnit)
              pure (ForInStep.yield PUnit.unit) : Sem (ForInStep PUnit))
      pure ()) Q E s := by
    refine wpAny_bind (wpAny_dictEpoch hoo hdo' ?_)
    refine wpAny_bind (wpAny_dictEntries hoo hdo' ?_)
    refine wpAny_bind ?_
    rw [Std.Legacy.Range.forIn_eq_forIn_range']
    simp only [Std.Legacy.Range.size, Nat.sub_zero, Nat.add_sub_cancel, Nat.div_one]
    refine wpAny_forIn_list _
      (fun rest _ s' => ∃ h' i, s' = { s with heap := h' } ∧ rest = List.range' i (eso.size - i) ∧ i ≤ eso.size ∧ h'.DictOfH (tk prog w) d (merH xs (ys.take i)) ∧ h'.get? o = some oo ∧ Heap.SameBut d s.heap h')
      _ ?_ ?_ _ _ ⟨s.heap, 0, rfl, by simp, Nat.zero_le _, by simpa [merH] using hd, hoo, Heap.SameBut.refl _ _⟩
    · rintro x rest b s' hX9; refine ea2_6 hX9 ?_; clear hX9; rintro h' i rfl hr hi hd' hoo' hs'
      have hlt : i < eso.size := by
        rcases Nat.lt_or_ge i eso.size with h | h
        · exact h
        · rw [Nat.sub_eq_zero_of_le h] at hr; simp at hr
      obtain ⟨rfl, hrest⟩ : x = i ∧ rest = List.range' (i + 1) (eso.size - (i + 1)) := by
        have e : eso.size - i = (eso.size - (i + 1)) + 1 := by lia
        rw [e, List.range'_succ] at hr
        injection hr with h1 h2
        exact ⟨h1, h2⟩
      refine wpAny_bind (wpAny_dictEntries hoo' hdo' ?_)
      obtain ⟨y, hy⟩ : ∃ y, ys[x]? = some y := ⟨ys[x]'(by rw [hlen]; exact hlt), List.getElem?_eq_getElem _⟩
      rw [entry_at heo x, hy]
      obtain ⟨k, a, v⟩ := y
      have hka : TupAt prog w s.heap a k := hio _ (List.mem_of_getElem? hy)
      have hka' : TupAt prog w h' a k := (tk prog w).keeps hka hod hdd hs'
      show wpAny _ _ (holding [Value.ref a, v] (dictSetHashed d (.ref a) ((tk prog w).hash k) v) >>= _) _ _ _
      have hmx : (merH xs (ys.take x)).length ≤ sizeLine := by
        have e1 := merH_len xs (ys.take x)
        have e2 : (ys.take x).length ≤ ys.length := by rw [List.length_take]; lia
        lia
      refine wpAny_bind (wpAny_holding (setHashed_heap hu hka' hd' (fun h'' hd'' hs'' => ?_) hmx))
      have hoo'' : h''.get? o = some oo := (hs''.2 o (Ne.symm hdo)).trans hoo'
      refine wpAny_bind (wpAny_dictEpoch hoo'' hdo' ?_)
      rw [if_neg (by simp)]
      exact wpAny_pure ⟨h'', x + 1, rfl, hrest, hlt, by rw [merH_succ xs ys x _ hy]; exact hd'', hoo'', hs'.trans hs''⟩
    · rintro b s' hX9; refine ea2_6 hX9 ?_; clear hX9; rintro h' i rfl hr hi hd' hoo' hs'
      have hin : i = eso.size := by
        rcases Nat.lt_or_ge i eso.size with h | h
        · have e : eso.size - i = (eso.size - (i + 1)) + 1 := by lia
          rw [e, List.range'_succ] at hr; exact nomatch hr
        · exact Nat.le_antisymm hi h
      refine wpAny_pure (hQ h' ?_ hs')
      rw [hin, ← hlen, List.take_length] at hd'; exact hd'
  dsimp only
  split
  · refine wpAny_bind (wpAny_dictEntries hod hdd ?_)
    rw [if_neg (by rw [hdn]; exact Bool.false_ne_true)]
    exact loop
  · exact loop

/-- d.update(o) where d is not empty -/
theorem bUpdate {D o : Addr} {xs ys : Ents} {Q : Value → Shared → Prop} (F : Fs e G B L m ((D, DicP prog w xs) :: U) s) (hdo : D ≠ o) (ho : Is s.heap o (DicP prog w ys)) (hoS : (o == sysModules) = false) (hne : xs ≠ []) (hu : A.units + 20 < cLine)
    (K : KeysAt prog w B xs) (K2 : KeysAt prog w B ys) (hz : xs.length + ys.length ≤ 100000)
    (h : ∀ s', Fs e G B L m ((D, DicP prog w (merH xs ys)) :: U) s' → Q .none s') : wpAny (model prog w) A (call (.builtin "dict.update") [.ref D, .ref o]) Q E s := by
  have hm := dic_of F.top (K.mono F.kp)
  have hm2 := dic_of ho (K2.mono F.kp)
  refine wpAny_call_entry PySem.F.slot_dict_update hm.typeIs PySem.F.entry_dict_update ?_ (PySem.F.args_dict_update_2 _ _)
  unfold Builtin.«dict.update»
  refine wpAny_bind ?_
  unfold Builtin.Dict.selfAndRest
  refine wpAny_bind (wpAny_notOrdered_dict hm.typeIs ?_)
  show wpAny _ _ (pure (D, [Value.ref o])) _ _ s
  refine wpAny_pure ?_
  show wpAny _ _ (Builtin.Dict.updateFrom "dict.update" D (.ref o) [] .none) _ _ s
  unfold Builtin.Dict.updateFrom
  refine wpAny_bind (wpAny_typeOf hm2.typeIs ?_)
  rw [if_neg (by decide)]
  refine wpAny_bind ?_
  unfold Builtin.Dict.merge
  refine wpAny_bind ?_
  unfold Builtin.Dict.readDirectly
  refine wpAny_bind (wpAny_isInstance hm2.typeIs isSubtype_dict_dict ?_)
  simp only [Bool.not_true, Bool.false_eq_true, if_false]
  refine wpAny_bind (wpAny_specialOf hm2.typeIs PySem.F.slot_dict_iter.lookup (wpAny_pure ?_))
  simp only [beq_self_eq_true, if_true]
  refine wpAny_bind (wpAny_pure ?_)
  refine merge_heap (by show A.units + 1 < _; lia) hdo hoS hne hm hm2 (fun h' hd' hs' => ?_) (by rw [sizeLine_eq]; lia)
  show wpAny _ _ (Builtin.Dict.addKeywords D [] >>= _) _ _ _
  exact wpAny_bind (wpAny_pure (wpAny_pure ⟨.none, rfl, h _ (F.upd (h' := h') hs'.extBut (dic_to hd') _)⟩))

/-- d == {} -/
theorem bEqDic {a b : Addr} {xs : Ents} {Q : Value → Shared → Prop} (hu : A.units + 20 < cLine) (ha : Is s.heap a (DicP prog w xs)) (hb : Is s.heap b (DicP prog w [])) (ha2 : (a == sysModules) = false) (hb2 : (b == sysModules) = false)
    (h : Q (.bool xs.isEmpty) s) : wpAny (model prog w) A (compareOp .Eq (.ref a) (.ref b)) Q E s := by
  obtain ⟨o, ho, hx, hn, es, ep, hdat, he⟩ := ha
  obtain ⟨o', ho', hx', hn', es', ep', hdat', he'⟩ := hb
  have hsz : es.size = xs.length := by have := congrArg List.length he; simpa using this
  have hsz' : es'.size = 0 := by have := congrArg List.length he'; simpa using this
  have hT : s.TypeIs (.ref a) "dict" := ⟨o, ho, hx.1⟩
  have hT' : s.TypeIs (.ref b) "dict" := ⟨o', ho', hx'.1⟩
  show wpAny _ _ (richCompare .Eq (.ref a) (.ref b)) _ _ _
  refine wpAny_richCompare_same_room (op := .Eq) hT hT' PySem.F.slot_dict_eq
    (wpAny_call_entry PySem.F.slot_dict_eq hT PySem.F.entry_dict_eq ?_ (PySem.F.args_dict_eq_2 _ _)) (by lia)
  refine wpAny_bind (m := Builtin.Dict.dictSlotArgs "__eq__" ⟨[.ref a, .ref b], []⟩) ?_
  unfold Builtin.Dict.dictSlotArgs
  refine wpAny_bind (wpAny_notOrdered_dict hT ?_)
  refine wpAny_bind (m := slotArgs "__eq__" 1 ⟨[.ref a, .ref b], []⟩) (wpAny_pure ?_)
  refine wpAny_pure ?_
  refine wpAny_bind (m := isInstance (.ref b) (.type "dict")) (wpAny_isInstance hT' isSubtype_dict_dict ?_)
  have key : wpAny (model prog w) A.in1 (Builtin.Dict.samePairs "dict.__eq__" a b) (fun r s' => r = xs.isEmpty ∧ s' = s) E s := by
    unfold Builtin.Dict.samePairs
    unfold Builtin.Dict.showsAll
    rw [if_neg (by rw [ha2]; exact Bool.false_ne_true), if_neg (by rw [hb2]; exact Bool.false_ne_true)]
    refine wpAny_bind (wpAny_pure ?_)
    refine wpAny_bind (wpAny_pure ?_)
    refine wpAny_bind (wpAny_dictEntries ho hdat ?_)
    refine wpAny_bind (wpAny_dictEntries ho' hdat' ?_)
    rw [hsz, hsz']
    cases xs with
    | nil =>
      rw [if_neg (by decide)]
      refine wpAny_bind (wpAny_dictEpoch ho hdat ?_)
      simp only [List.length_nil]
      rw [Std.Legacy.Range.forIn_eq_forIn_range']
      simp only [Std.Legacy.Range.size, Nat.sub_zero, Nat.add_sub_cancel, Nat.div_one, List.range'_zero, List.forIn_nil]
      exact wpAny_bind (wpAny_pure (wpAny_pure ⟨rfl, rfl⟩))
    | cons x r =>
      rw [if_pos (by simp)]
      exact wpAny_bind (wpAny_rule (wpAny_pure ⟨rfl, rfl⟩))
  refine wpAny_bind (m := Builtin.Dict.samePairs "dict.__eq__" a b) (wpAny_mono key (fun r s' hq => ?_) fun _ _ e => e)
  obtain ⟨rfl, rfl⟩ := hq
  refine wpAny_pure ⟨_, rfl, by nofun, ?_⟩
  have : (xs.isEmpty == true) = xs.isEmpty := by cases xs <;> rfl
  rw [this]; exact h
end
end
section
section
variable {prog : Program} {w : World} {A : Around} {E : Value → Shared → Prop} {s : Shared} {e : En} {G : Array GenState} {B : Heap} {L : Addr} {m : Str → Option Value} {U : Own} {env : Env}

/-- l.extend(b) -/
theorem bExtend {D b : Addr} {ys zs : List Value} {Q : Value → Shared → Prop} (F : Fs e G B L m ((D, LstP ys) :: U) s) (hb : Is s.heap b (LstP zs)) (hz : ys.length + zs.length ≤ 100000)
    (h : ∀ s', Fs e G B L m ((D, LstP (ys ++ zs)) :: U) s' → Q .none s') : wpAny (model prog w) A (call (.builtin "list.extend") [.ref D, .ref b]) Q E s := by
  obtain ⟨o, ho, n, rfl⟩ := F.top
  obtain ⟨o2, ho2, n2, rfl⟩ := hb
  have hsz' : ys.toArray.size + zs.toArray.size ≤ sizeLine := by rw [List.size_toArray, List.size_toArray, sizeLine_eq]; lia
  refine call_meets PySem.F.slot_list_extend ⟨_, ho, rfl⟩ PySem.F.entry_list_extend (PySem.F.args_list_extend_2 _ _) (AutoSeq1.list_extend_list_list_0 D ys.toArray n b zs.toArray n2 (extend_door hsz') (Nat.le_trans (Nat.le_add_right _ _) hsz')) ⟨ho, ho2, ?_⟩
  have e1 : ys.toArray ++ zs.toArray = (ys ++ zs).toArray := by simp
  have ho' : (s.heap.update D (Obj.mapSeq fun x => x ++ zs.toArray)).get? D = some { cls := .type "list", data := .seq (ys ++ zs).toArray (if (ys.toArray ++ zs.toArray).size == ys.toArray.size then n else n + 1) } := by
    rw [Heap.get?_update_self _ ho (by rw [mapSeq_app]; rfl), mapSeq_app, e1]
  exact h _ (F.upd (h' := s.heap.update D _) (Heap.SameBut.update ..).extBut ⟨_, ho', _, rfl⟩ _)

/-- list(range(k)) -/
theorem bListRange {r : Addr} {k : Int} {n : Nat} {Q : Value → Shared → Prop} (F : Fs e G B L m U s) (hh : A.handled = none) (hr : Is s.heap r (RngP 0 k)) (hk : k = (n : Int)) (hz : n ≤ 100000)
    (h : ∀ s' D vs, e.s.heap.get? D = none → IntsAre vs ((List.range n).map Int.ofNat) → Fs e G B L m ((D, LstP vs) :: U) s' → Q (.ref D) s') : wpAny (model prog w) A (call (.type "list") [.ref r]) Q E s := by
  obtain ⟨o, ho, t, u, v, rfl⟩ := hr
  subst hk
  have hr2 : Builtin.Range.rangeSize 0 (n : Int) 1 = (n : Int) := by
    unfold Builtin.Range.rangeSize
    rw [if_pos (by decide)]
    by_cases h0 : (0 : Int) < n
    · rw [if_pos h0]; lia
    · rw [if_neg h0]; lia
  have hs2 : Builtin.Range.small 0 (n : Int) 1 = true := by
    exact small_one (by lia) (by lia) (by lia) (by lia)
  refine call_list_range (n := n) hh ho hs2 hr2 (by lia) fun h' tk acc' c' hk hD hi => ?_
  refine h _ _ acc'.toList (F.fresh (none_of_size _)) ?_ (F.take (P := LstP acc'.toList) hk (none_of_size _) ⟨_, hD, c', by simp⟩ tk)
  obtain ⟨h1, h2⟩ := hi
  have h3 : acc'.toList.length = n := by rw [Array.length_toList]; exact h1
  have hgo : ∀ (l : List Value) (i : Nat), (∀ j v, l[j]? = some v → ∃ t, v = Value.int ((i + j : Nat) : Int) t) → IntsAre l ((List.range' i l.length).map Int.ofNat) := by
    intro l
    induction l with
    | nil => intro i _; exact .nil
    | cons x l ih =>
      intro i hx
      obtain ⟨t, rfl⟩ := hx 0 x rfl
      rw [List.length_cons, List.range'_succ, List.map_cons]
      refine .cons _ t (ih (i + 1) fun j v hj => ?_)
      obtain ⟨t2, e2⟩ := hx (j + 1) v hj
      exact ⟨t2, e2.trans (congrArg (fun z => Value.int z t2) (by lia))⟩
  have h4 := hgo acc'.toList 0 fun j v hj => by
    obtain ⟨t, e2⟩ := h2 j v (by simpa using hj)
    exact ⟨t, e2.trans (congrArg (fun z => Value.int z t) (by lia))⟩
  rw [h3] at h4
  rw [List.range_eq_range']; exact h4
end
end
section
theorem lk_list_keys : typeLookup (.type "list") "keys" = pure none := by rw [typeLookup_type, builtinLookup_eq_fast]; kernel_rfl

theorem noKeys {prog : Program} {w : World} {A : Around} {E : Value → Shared → Prop} {s : Shared} {a : Addr} {xs : Array Value} {k : Nat} {Q : Option Value → Shared → Prop}
    (hx : s.heap.get? a = some { cls := .type "list", data := .seq xs k }) (hA : A.handled = none)
    (h : ∀ h' tk e, Heap.NewExcOf s.heap h' e "AttributeError" → Q none { s with heap := h', toks := tk }) :
    wpAny (model prog w) A (getAttr? (.ref a) "keys") Q E s := by
  obtain ⟨hp, g, d, tk, os⟩ := s
  have hT : ∀ tk', (⟨hp, g, d, tk', os⟩ : Shared).TypeIs (.ref a) "list" := fun _ => ⟨_, hx, rfl⟩
  have f1 := sub_AttributeError
  have f3 := F.slot_list_getattribute.lookup
  have f4 := F.slot_list_getattribute.bind (.ref a)
  have f5 := am_list_getattr_none
  unfold getAttr? getAttrBy? getAttrBy
  repeat (any_goals (first | assumption | exact hT _ | ((with_reducible show wpAny _ _ (call (Value.builtin "list.__getattribute__") _ _) _ _ _); refine call_meets F.slot_list_getattribute (hT _) am_entry_list_getattribute (F.args_list_getattribute_2 _ _) (meets_getattribute_miss_list a xs k #[] "keys" _ lk_list_keys (by decide +kernel) (by size_fits)) ⟨hx, hA, fun h' tk' e hx' => ?_⟩) | wp_step))
  obtain ⟨t', u', he⟩ := hx'.there
  show wpAny _ _ (getattributeRaised _ _ _ _ _ _ _) _ _ _
  unfold getattributeRaised
  repeat (any_goals (first | assumption | wp_step))
  exact h _ _ _ hx'.of
end
section
theorem plain_dul : plainId "dict.update.loop" = true := by decide +kernel
theorem entry_dul : entryFor table "dict.update.loop" = some Builtin.«dict.update.loop» := entryFor_of_fast (by kernel_rfl)

section
variable {prog : Program} {w : World} {A : Around} {E : Value → Shared → Prop} {s : Shared} {e : En} {G : Array GenState} {B : Heap} {L : Addr} {m : Str → Option Value} {U : Own} {env : Env}

/-- a list of (key, value) -/
noncomputable def PairsAt (prog : Program) (w : World) (B : Heap) (vs : List Value) (ys : Ents) : Prop :=
  vs.length = ys.length ∧ ∀ (i : Nat) (v : Value) (y : List Int × Addr × Value), vs[i]? = some v → ys[i]? = some y → ∃ p : Addr, v = Value.ref p ∧ Is B p (TupP [Value.ref y.2.1, y.2.2]) ∧ TupAt prog w B y.2.1 y.1

theorem pairLoop {D it l : Addr} {vs : List Value} {ys : Ents} {R : Result → Shared → Prop} (hh : A.handled = none) (hu : A.units + 20 < cLine) (hl : Is B l (LstP vs)) (hp : PairsAt prog w B vs ys) (hit : e.s.heap.get? it = none) :
    ∀ (k i : Nat) (s : Shared) (xs : Ents) (t : Tok), vs.length - i = k → i ≤ vs.length → Fs e G B L m ((it, LItP l i) :: (D, DicP prog w xs) :: U) s → KeysAt prog w B xs → xs.length + (vs.length - i) ≤ 100000 →
      (∀ s', Fs e G B L m ((D, DicP prog w (merH xs (ys.drop i))) :: U) s' → KeysAt prog w B (merH xs (ys.drop i)) → R (.ok (.ret .none)) s') →
      codeAny (model prog w) A (.builtin "dict.update.loop" ⟨[.ref D, .ref it, .int i t, .none], []⟩) R s := by
  have hN := fun target => nxList (prog := prog) (w := w) (target := target) (it := it) (lst_is hl)
  intro k
  induction k with
  | zero =>
    intro i s xs t hk hi F K hz hR
    have hin : i = vs.length := by lia
    subst hin
    refine codeAny_builtin entry_dul ?_
    rw [Around.under_plainId plain_dul _]
    show wpAny _ A.in1 (pyNext (.ref it) >>= _) _ _ s
    refine wpAny_bind ((hN (.Name "x" default)).done (A := A.in1) hh (fun q hq => by rcases List.mem_singleton.mp hq with rfl; exact hit) (.refl _) F fun s' F' => ?_)
    have hd : ys.drop vs.length = [] := by rw [hp.1]; exact List.drop_length
    rw [hd] at hR
    show wpAny _ A.in1 (Builtin.Dict.addKeywords D [] >>= _) _ _ _
    exact wpAny_bind (wpAny_pure (wpAny_pure (hR s' F' K)))
  | succ k ih =>
    intro i s xs t hk hi F K hz hR
    have hlt : i < vs.length := by lia
    refine codeAny_builtin entry_dul ?_
    rw [Around.under_plainId plain_dul _]
    show wpAny _ A.in1 (pyNext (.ref it) >>= _) _ _ s
    obtain ⟨v, hv⟩ : ∃ v, vs[i]? = some v := ⟨vs[i], by simp [hlt]⟩
    obtain ⟨y, hy⟩ : ∃ y, ys[i]? = some y := ⟨ys[i]'(by rw [← hp.1]; exact hlt), List.getElem?_eq_getElem _⟩
    obtain ⟨p, rfl, hpt, hkt⟩ := hp.2 i v y hv hy
    have hit' : s.heap.IsListIter it l i := F.top
    have hl' := (lst_is hl).at fun o q => F.kp _ _ q
    refine wpAny_bind (wpAny_pyNext_list_item hit' hl' (by simpa using hv) fun h' hi' hs' => ?_)
    have F' := F.upd (P' := LItP l (i + 1)) hs'.extBut hi' s.toks
    show wpAny _ A.in1 (holding [Value.ref p] _ >>= _) _ _ _
    refine wpAny_bind (wpAny_holding ?_)
    obtain ⟨o, ho0, hc, n, hdat⟩ := hpt
    have ho := F'.kp _ _ ho0
    refine wpAny_bind (wpAny_tryCatch ?_)
    unfold Builtin.Dict.pairItems
    refine wpAny_bind (wpAny_typeOf (T := "tuple") ⟨o, ho, hc⟩ ?_)
    rw [if_pos (by decide)]
    refine wpAny_bind (wpAny_seqItems ho hdat ?_)
    refine wpAny_pure ?_
    show wpAny _ A.in1 (holding [Value.ref y.2.1, y.2.2] (dictSet D (.ref y.2.1) y.2.2)) _ _ _
    refine wpAny_holding ?_
    have hm := dic_of F'.swap.top (K.mono F'.kp)
    refine wpAny_dictSet_heap (knd := tk prog w) (show A.units + 1 < cLine by lia) (hkt.mono F'.kp) hm (fun h2 hm2 hs2 => ?_) (by rw [sizeLine_eq]; lia)
    have F2 := (F'.swap.upd (h' := h2) hs2.extBut (dic_to hm2) (s.toks + (tk prog w).draws y.1)).swap
    have hdr : ys.drop i = y :: ys.drop (i + 1) := by
      have h3 : i < ys.length := by rw [← hp.1]; exact hlt
      rw [List.drop_eq_getElem_cons h3]
      congr 1
      have := List.getElem?_eq_getElem h3
      rw [hy] at this; exact (Option.some.inj this).symm
    have hlen := len_stored xs y.1 y.2.1 y.2.2
    rw [hdr] at hR
    exact wpAny_pure ⟨plainId_quiet plain_dul _, ih (i + 1) _ _ _ (by lia) hlt F2 (K.stored hkt) (by lia) hR⟩
end
end
section
section
variable {prog : Program} {w : World} {A : Around} {E : Value → Shared → Prop} {s : Shared} {e : En} {G : Array GenState} {B : Heap} {L : Addr} {m : Str → Option Value} {U : Own} {env : Env}

theorem bDictOf {l : Addr} {vs : List Value} {ys : Ents} {Q : Value → Shared → Prop} (F : Fs e G B L m U s) (hh : A.handled = none) (hu : A.units + 40 < cLine) (hl : Is B l (LstP vs)) (hp : PairsAt prog w B vs ys) (hz : vs.length ≤ 100000)
    (h : ∀ s' D, e.s.heap.get? D = none → Fs e G B L m ((D, DicP prog w (merH [] ys)) :: U) s' → KeysAt prog w B (merH [] ys) → Q (.ref D) s') : wpAny (model prog w) A (call (.type "dict") [.ref l]) Q E s := by
  refine callType_codes (Q₁ := fun obj s₁ => obj = .ref s.heap.objs.size ∧ s₁ = { s with heap := s.heap.push { cls := .type "dict", data := .dict #[] } }) PySem.F.kt_called_dict (PySem.F.kt_typeCall_dict_1 _) PySem.F.entry_dict_init (kt_code_dict_new _ ⟨rfl, rfl⟩) ?_
  rintro obj s₁ ⟨rfl, rfl⟩
  have hnew : (s.heap.push { cls := .type "dict", data := .dict #[] }).DictOfH (tk prog w) s.heap.objs.size [] := Heap.DictOfH.new s.heap
  have F1 : Fs e G B L m ((s.heap.objs.size, DicP prog w []) :: U) { s with heap := s.heap.push { cls := .type "dict", data := .dict #[] } } :=
    F.take (fun b o q => Heap.get?_push_of_some _ q) (none_of_size _) (dic_to hnew) s.toks
  have hfr := F.fresh (none_of_size s.heap)
  generalize s.heap.objs.size = D at *
  refine ⟨hnew.typeIs, PySem.F.args_dict_init_2 _ _, ?_⟩
  unfold Builtin.«dict.__init__»
  refine wpAny_bind ?_
  unfold Builtin.Dict.selfAndRest
  refine wpAny_bind (wpAny_notOrdered_dict hnew.typeIs ?_)
  show wpAny _ _ (pure (D, [Value.ref l])) _ _ _
  refine wpAny_pure ?_
  show wpAny _ _ (Builtin.Dict.updateFrom "dict.__init__" D (.ref l) [] .none) _ _ _
  unfold Builtin.Dict.updateFrom
  obtain ⟨o, ho0, n, rfl⟩ := id hl
  have ho := F1.kp _ _ ho0
  refine wpAny_bind (wpAny_typeOf (T := "list") ⟨_, ho, rfl⟩ ?_)
  rw [if_pos (by decide)]
  refine wpAny_bind (noKeys ho hh fun h' tk' er hx => ?_)
  have F2 := F1.grown (h' := h') hx.keeps tk'
  show wpAny _ _ (rule _ >>= fun _ => pyIter (Value.ref l) >>= fun it => again (Code.builtin "dict.update.loop" { pos := [Value.ref D, it, rawInt 0, Value.none] })) _ _ _
  refine wpAny_bind (wpAny_rule ?_)
  refine wpAny_bind (iLst F2 ⟨_, F2.kp _ _ ho0, n, rfl⟩ fun s3 it hit F3 => ?_)
  refine wpAny_pure ⟨plainId_quiet plain_dul _, ?_⟩
  refine pairLoop (A := A.in1) hh (by show A.units + 1 + 20 < _; lia) hl hp hit (vs.length - 0) 0 s3 [] _ rfl (Nat.zero_le _) F3 (fun _ hq => nomatch hq) (by simp; lia) fun s4 F4 K4 => ?_
  exact ⟨rfl, h _ _ hfr (by simpa using F4) (by simpa using K4)⟩
end
end
section
section
variable {prog : Program} {w : World} {A : Around} {E : Value → Shared → Prop} {s : Shared} {e : En} {G : Array GenState} {B : Heap} {L C D : Addr} {m mC : Str → Option Value} {U : Own} {env : Env}
/-- the last clause of a comprehension: with the locals told -/
theorem compLastM {elt target iter : Expr} {ifs : List Expr} {gens : List Comprehension} {scope : Scope} {pos : Pos} {depth : Nat} {R : Result → Shared → Prop} {B₀ : Heap} {it : Addr} {St : Nat → Own} {Mid : Nat → Value → Own} {n : Nat} {V : Heap → Nat → Value → Prop}
    (N : Nx prog w B₀ it St Mid n V target) (hg : gens[depth]? = some ⟨target, iter, ifs, 0⟩) (hn : gens[depth + 1]? = none) (hh : A.handled = none) (hfr : ∀ i, ∀ p ∈ St i, e.s.heap.get? p.1 = none) (kB : Kp B₀ B)
    {ys : List Value} (F : Fs e G B C mC (St 0 ++ ((D, LstP ys) :: U)) s)
    (Inv : Nat → Heap → (Str → Option Value) → List Value → Own → Prop) (h0 : Inv 0 B mC ys U)
    (turn : ∀ i v B' m' ys U' s' E', i < n → Kp B B' → Inv i B' m' ys U' → V B' i v → Fs e G B' C m' (St (i + 1) ++ ((D, LstP ys) :: U')) s' →
      wpAny (model prog w) A (assign target env v) (fun _ s2 => wpAny (model prog w) A (tests ifs env) (fun ok s3 =>
        if ok = true then wpAny (model prog w) A (eval elt env) (fun y s4 => ys.length ≤ 100000 ∧ ∃ B'' m'' U'', Kp B B'' ∧ Fs e G B'' C m'' (St (i + 1) ++ ((D, LstP ys) :: U'')) s4 ∧ Inv (i + 1) B'' m'' (ys ++ [y]) U'') E' s3
        else ∃ B'' m'' U'', Kp B B'' ∧ Fs e G B'' C m'' (St (i + 1) ++ ((D, LstP ys) :: U'')) s3 ∧ Inv (i + 1) B'' m'' ys U'') E' s2) E' s')
    (mono : ∀ i B' B'' m' ys U', Inv i B' m' ys U' → Kp B' B'' → Inv i B'' m' ys U')
    (fin : ∀ B' m' ys U' s', Kp B B' → Inv n B' m' ys U' → Fs e G B' C m' ((D, LstP ys) :: U') s' → R (.ok .next) s') :
    codeAny (model prog w) A (.compLoop (.ListComp elt gens scope pos) depth (.ref it) (.ref D) env) R s := by
  refine codeAny_loop rfl (fun k s' => ∃ i B' m' ys U', k = n + 1 - i ∧ i ≤ n ∧ Kp B B' ∧ Fs e G B' C m' (St i ++ ((D, LstP ys) :: U')) s' ∧ Inv i B' m' ys U') ?_ (n + 1) ⟨0, B, mC, ys, U, rfl, Nat.zero_le _, .refl _, F, h0⟩
  rintro k s' hX9; refine ea5_5 hX9 ?_; clear hX9; rintro i B' m' ys U' rfl hi kb F' hI
  show wpAny _ A ((compTurn (.ListComp elt gens scope pos) depth (.ref it) (.ref D) env).onRaise (fun x => do noteFrame x env; theTreesLotGoes x)) _ _ s'
  refine wpAny_noted (turn_last hg hn ?_)
  by_cases hlt : i < n
  · refine N.item hh (kB.trans kb) F' hlt fun v s2 B2 k2 hv F2 => ?_
    refine N.lets (kB.trans (kb.trans k2)) F2 hv fun s3 F3 => ?_
    refine wpAny_mono (turn i v B2 m' ys U' s3 _ hlt (kb.trans k2) (mono i B' B2 m' ys U' hI k2) hv F3) (fun _ s4 h4 => wpAny_mono h4 (fun ok s5 h5 => ?_) fun _ _ x => x) fun _ _ x => x
    cases ok with
    | false =>
      simp only [Bool.false_eq_true, if_false] at h5 ⊢
      refine ea3_3 h5 ?_; clear h5; rintro B'' m'' U'' k'' F'' I''
      exact ⟨trivial, n + 1 - (i + 1), by lia, i + 1, B'', m'', ys, U'', rfl, hlt, k'', F'', I''⟩
    | true =>
      simp only [if_true] at h5 ⊢
      refine wpAny_mono h5 (fun y s6 h6 => ?_) fun _ _ x => x
      refine anE2 h6 ?_; clear h6; rintro hz hX9; refine ea3_3 hX9 ?_; clear hX9; rintro B'' m'' U'' k'' F'' I''
      refine aList (F''.perm List.perm_middle) hz fun s7 F7 => ?_
      exact ⟨trivial, n + 1 - (i + 1), by lia, i + 1, B'', m'', _, U'', rfl, hlt, k'', F7.perm List.perm_middle.symm, I''⟩
  · obtain rfl : i = n := by lia
    refine N.done hh (hfr i) (kB.trans kb) F' fun s2 F2 => ?_
    exact fin _ _ _ _ _ kb hI F2

end

section
variable {prog : Program} {w : World} {A : Around} {E : Value → Shared → Prop} {s : Shared} {e : En} {G : Array GenState} {B : Heap} {L : Addr} {m : Str → Option Value} {U : Own} {env : Env}

/-- what an element of an inner clause leaves behind -/
noncomputable def CEltI (e : En) (G : Array GenState) (B3 : Heap) (C : Addr) (W2 : Own) (W : List Value → Own) (ys : List Value) (Inv2 : Heap → (Str → Option Value) → List Value → Prop) (y : Value) (s4 : Shared) : Prop :=
  ys.length ≤ 100000 ∧ ∃ B'' m'', Kp B3 B'' ∧ Fs e G B'' C m'' (W2 ++ W ys) s4 ∧ Inv2 B'' m'' (ys ++ [y])
theorem CEltI.mk {B3 B'' : Heap} {W2 : Own} {W : List Value → Own} {ys : List Value} {Inv2 : Heap → (Str → Option Value) → List Value → Prop} {y : Value} {m'' : Str → Option Value} (hz : ys.length ≤ 100000) (k : Kp B3 B'')
    (F : Fs e G B'' L m'' (W2 ++ W ys) s) (hI : Inv2 B'' m'' (ys ++ [y])) : CEltI e G B3 L W2 W ys Inv2 y s := ⟨hz, _, _, k, F, hI⟩
/-- an inner clause: all that is to be shown of it -/
noncomputable def InTodo (prog : Program) (w : World) (A : Around) (e : En) (G : Array GenState) (elt t2 : Expr) (cenv : Env) (B2 : Heap) (C : Addr) (W : List Value → Own) (ys : List Value) (Nxt : Heap → List Value → Prop) (it' : Value) (s4 : Shared) : Prop :=
  ∃ itb B3 m3 B₁ St2 Mid2 n2 V2, it' = .ref itb ∧ Nx prog w B₁ itb St2 Mid2 n2 V2 t2 ∧ Kp B₁ B3 ∧ Kp B2 B3 ∧ (∀ i, ∀ p ∈ St2 i, e.s.heap.get? p.1 = none) ∧ Fs e G B3 C m3 (St2 0 ++ W ys) s4 ∧
    ∃ Inv2 : Nat → Heap → (Str → Option Value) → List Value → Prop, Inv2 0 B3 m3 ys ∧ (∀ i B' B'' m' ys, Inv2 i B' m' ys → Kp B' B'' → Inv2 i B'' m' ys) ∧
      (∀ j v B' m' ys s' E', j < n2 → Kp B3 B' → Inv2 j B' m' ys → V2 B' j v → Fs e G B' C m' (St2 (j + 1) ++ W ys) s' →
        wpAny (model prog w) A (assign t2 cenv v) (fun _ s2 => wpAny (model prog w) A (eval elt cenv) (CEltI e G B3 C (St2 (j + 1)) W ys (Inv2 (j + 1))) E' s2) E' s') ∧
      (∀ B' m' ys, Kp B3 B' → Inv2 n2 B' m' ys → Nxt B' ys)
theorem InTodo.mk {elt t2 : Expr} {cenv : Env} {B2 : Heap} {W : List Value → Own} {ys : List Value} {Nxt : Heap → List Value → Prop} (itb : Addr) {B3 : Heap} {m3 : Str → Option Value} {B₁ : Heap} {St2 : Nat → Own} {Mid2 : Nat → Value → Own} {n2 : Nat} {V2 : Heap → Nat → Value → Prop}
    (N : Nx prog w B₁ itb St2 Mid2 n2 V2 t2) (k0 : Kp B₁ B3) (k2 : Kp B2 B3) (hfr : ∀ i, ∀ p ∈ St2 i, e.s.heap.get? p.1 = none) (F : Fs e G B3 C m3 (St2 0 ++ W ys) s)
    (Inv2 : Nat → Heap → (Str → Option Value) → List Value → Prop) (h0 : Inv2 0 B3 m3 ys)
    (h : let I := Inv2; (∀ i B' B'' m' ys, I i B' m' ys → Kp B' B'' → I i B'' m' ys) ∧
      (∀ j v B' m' ys s' E', j < n2 → Kp B3 B' → I j B' m' ys → V2 B' j v → Fs e G B' C m' (St2 (j + 1) ++ W ys) s' →
        wpAny (model prog w) A (assign t2 cenv v) (fun _ s2 => wpAny (model prog w) A (eval elt cenv) (CEltI e G B3 C (St2 (j + 1)) W ys (I (j + 1))) E' s2) E' s') ∧
      (∀ B' m' ys, Kp B3 B' → I n2 B' m' ys → Nxt B' ys)) : InTodo prog w A e G elt t2 cenv B2 C W ys Nxt (.ref itb) s := ⟨itb, B3, m3, B₁, St2, Mid2, n2, V2, rfl, N, k0, k2, hfr, F, Inv2, h0, h⟩
/-- an outer turn -/
noncomputable def CTurn2 (prog : Program) (w : World) (A : Around) (e : En) (G : Array GenState) (elt t1 t2 i2 : Expr) (cenv : Env) (v : Value) (B2 : Heap) (C : Addr) (W : List Value → Own) (ys : List Value) (Nxt : Heap → List Value → Prop) (E' : Value → Shared → Prop) (s' : Shared) : Prop :=
  wpAny (model prog w) A (assign t1 cenv v) (fun _ s2 => wpAny (model prog w) A (eval i2 cenv) (fun x s3 => wpAny (model prog w) A (pyIter x) (fun it' s4 => InTodo prog w A e G elt t2 cenv B2 C W ys Nxt it' s4) E' s3) E' s2) E' s'
theorem CTurn2.mk {elt t1 t2 i2 : Expr} {cenv : Env} {v : Value} {B2 : Heap} {W : List Value → Own} {ys : List Value} {Nxt : Heap → List Value → Prop}
    (h : let env : Env := cenv; wpAny (model prog w) A (assign t1 env v) (fun _ s2 => wpAny (model prog w) A (eval i2 env) (fun x s3 => wpAny (model prog w) A (pyIter x) (fun it' s4 => InTodo prog w A e G elt t2 env B2 C W ys Nxt it' s4) E s3) E s2) E s) :
    CTurn2 prog w A e G elt t1 t2 i2 cenv v B2 C W ys Nxt E s := h
/-- two clauses of a list comprehension, that changes nothing of ours: all that is to be shown of it -/
noncomputable def CompTodo2 (prog : Program) (w : World) (A : Around) (e : En) (G : Array GenState) (env : Env) (elt t1 t2 i2 : Expr) (scope : Scope) (cl : List (Str × Addr))
    (Q : Heap → (Str → Option Value) → List Value → Own → Prop) (it : Value) (s : Shared) : Prop :=
  ∃ ita B2 m U B₀ St Mid n V, it = .ref ita ∧ Nx prog w B₀ ita St Mid n V t1 ∧ Kp B₀ B2 ∧ (∀ i, ∀ p ∈ St i, e.s.heap.get? p.1 = none) ∧ Fs e G B2 env.locals m (St 0 ++ U) s ∧
    ∃ Inv : Nat → Heap → List Value → Prop, Inv 0 B2 [] ∧ (∀ i B' B'' ys, Inv i B' ys → Kp B' B'' → Inv i B'' ys) ∧
    (∀ C D i v B' m' ys s' E', e.s.heap.get? C = none → i < n → Kp B2 B' → Inv i B' ys → V B' i v → Fs e G B' C m' (St (i + 1) ++ ((D, LstP ys) :: (env.locals, NsP m) :: U)) s' →
      CTurn2 prog w A e G elt t1 t2 i2 (compEnvC scope cl C env) v B2 C (fun ys => St (i + 1) ++ ((D, LstP ys) :: (env.locals, NsP m) :: U)) ys (Inv (i + 1)) E' s') ∧
    (∀ B' ys, Kp B2 B' → Inv n B' ys → Q B' m ys U)
theorem CompTodo2.mk {elt t1 t2 i2 : Expr} {scope : Scope} {cl : List (Str × Addr)} {Q : Heap → (Str → Option Value) → List Value → Own → Prop} (ita : Addr) {B2 : Heap} {B₀ : Heap} {St : Nat → Own} {Mid : Nat → Value → Own} {n : Nat} {V : Heap → Nat → Value → Prop}
    (N : Nx prog w B₀ ita St Mid n V t1) (k0 : Kp B₀ B2) (hfr : ∀ i, ∀ p ∈ St i, e.s.heap.get? p.1 = none) (F : Fs e G B2 env.locals m (St 0 ++ U) s)
    (Inv : Nat → Heap → List Value → Prop) (h0 : Inv 0 B2 [])
    (h : let I := Inv; (∀ i B' B'' ys, I i B' ys → Kp B' B'' → I i B'' ys) ∧
      (∀ C D i v B' m' ys s' E', e.s.heap.get? C = none → i < n → Kp B2 B' → I i B' ys → V B' i v → Fs e G B' C m' (St (i + 1) ++ ((D, LstP ys) :: (env.locals, NsP m) :: U)) s' →
        CTurn2 prog w A e G elt t1 t2 i2 (compEnvC scope cl C env) v B2 C (fun ys => St (i + 1) ++ ((D, LstP ys) :: (env.locals, NsP m) :: U)) ys (I (i + 1)) E' s') ∧
      (∀ B' ys, Kp B2 B' → I n B' ys → Q B' m ys U)) : CompTodo2 prog w A e G env elt t1 t2 i2 scope cl Q (.ref ita) s := ⟨ita, B2, m, U, B₀, St, Mid, n, V, rfl, N, k0, hfr, F, Inv, h0, h⟩

theorem permMid {x : Addr × (Obj → Prop)} {S T U : Own} : (S ++ (T ++ (x :: U))).Perm (S ++ (x :: (T ++ U))) := List.Perm.append_left _ List.perm_middle

theorem comp_of_todo2 {elt t1 t2 i1 i2 : Expr} {scope : Scope} {pos : Pos} {cl : List (Str × Addr)} {Q : Heap → (Str → Option Value) → List Value → Own → Prop} {it : Value}
    (hh : A.handled = none) (hs2 : ∀ C x, foldedSetIterable i2 (compEnvC scope cl C env) x = pure x) (T : CompTodo2 prog w A e G env elt t1 t2 i2 scope cl Q it s) :
    ∃ B2 m U2, Fs e G B2 env.locals m U2 s ∧
      ∀ C D s3, Fs e G B2 C (fun _ => none) ((D, LstP []) :: (env.locals, NsP m) :: U2) s3 → e.s.heap.get? C = none → e.s.heap.get? D = none → ∀ R : Result → Shared → Prop,
        (∀ s4 B4 m4 ys U4, Fs e G B4 C m4 ((D, LstP ys) :: (env.locals, NsP m) :: U4) s4 → Q B4 m ys U4 → R (.ok .next) s4) →
        codeAny (model prog w) A (.compStart (.ListComp elt [⟨t1, i1, [], 0⟩, ⟨t2, i2, [], 0⟩] scope pos) 0 it (.ref D) (compEnvC scope cl C env)) R s3 := by
  refine ea9_6 T ?_; clear T; rintro ita B2 m U B₀ St Mid n V rfl N k0 hfr F hX9; refine ea1_4 hX9 ?_; clear hX9; rintro Inv h0 mono turn fin
  refine ⟨B2, m, St 0 ++ U, F, fun C D s3 F3 hC hD R hR => ?_⟩
  have F4 : Fs e G B2 C (fun _ => none) (St 0 ++ ((D, LstP []) :: (env.locals, NsP m) :: U)) s3 := by
    refine F3.perm ?_
    have p1 : ((D, LstP []) :: (env.locals, NsP m) :: (St 0 ++ U)).Perm ((D, LstP []) :: (St 0 ++ ((env.locals, NsP m) :: U))) := List.Perm.cons _ List.perm_middle.symm
    exact p1.trans List.perm_middle.symm
  refine startN N rfl k0 F4 ?_
  refine compOuter (Inv := fun i B' ys U' => U' = (env.locals, NsP m) :: U ∧ Inv i B' ys) N rfl rfl (hs2 C) hh hfr k0 F4 ⟨rfl, h0⟩ ?_ ?_ ?_
  · rintro i v B' m' ys U' s' E' hi kb ⟨rfl, hI⟩ hv F'
    refine wpAny_mono (turn C D i v B' m' ys s' E' hC hi kb hI hv F') (fun _ s5 h5 => tests_nil ⟨rfl, wpAny_mono h5 (fun x s6 h6 => wpAny_mono h6 (fun it' s7 h7 => ?_) fun _ _ x => x) fun _ _ x => x⟩) fun _ _ x => x
    refine ea8_7 h7 ?_; clear h7; rintro itb B3 m3 B₁ St2 Mid2 n2 V2 rfl N2 k2 k3 hfr2 F7 hX9; refine ea1_4 hX9 ?_; clear hX9; rintro Inv2 i0 mono2 turn2 fin2
    intro X
    have F8 := F7.perm permMid
    refine startN N2 rfl k2 F8 ?_
    refine compLastM (Inv := fun j B' m' ys U' => U' = St (i + 1) ++ ((env.locals, NsP m) :: U) ∧ Inv2 j B' m' ys) N2 rfl rfl hh hfr2 k2 F8 ⟨rfl, i0⟩ ?_ ?_ ?_
    · rintro j v B5 m5 ys5 U5 s5 E5 hj kb5 ⟨rfl, hI5⟩ hv5 F5
      refine wpAny_mono (turn2 j v B5 m5 ys5 s5 E5 hj kb5 hI5 hv5 (F5.perm permMid.symm)) (fun _ s6 h6 => tests_nil ?_) fun _ _ x => x
      simp only [if_true]
      refine wpAny_mono h6 (fun y s7 h7 => ?_) fun _ _ x => x
      refine anE2 h7 ?_; clear h7; rintro hz hX9; refine ea2_3 hX9 ?_; clear hX9; rintro B6 m6 k6 F6 I6
      exact ⟨hz, B6, m6, _, k6, F6.perm permMid, rfl, I6⟩
    · rintro i B' B'' m' ys U' ⟨rfl, hI⟩ k
      exact ⟨rfl, mono2 i _ _ _ _ hI k⟩
    · rintro B5 m5 ys5 U5 s5 kb5 ⟨rfl, hI5⟩ F5
      exact ⟨B5, m5, ys5, _, k3.trans kb5, F5.perm List.perm_middle.symm, rfl, fin2 _ _ _ kb5 hI5⟩
  · rintro i B' B'' ys U' ⟨rfl, hI⟩ k
    exact ⟨rfl, mono i _ _ _ hI k⟩
  · rintro B' m' ys U' s' kb ⟨rfl, hI⟩ F'
    exact hR _ _ _ _ _ F' (fin _ _ kb hI)

/-- a list comprehension of two clauses -/
theorem listComp2 {elt t1 t2 i1 i2 : Expr} {scope : Scope} {pos : Pos} {cl : List (Str × Addr)} {Q : Value → Shared → Prop} (F₀ : Fs e G B L m U s) (hh : A.handled = none)
    (h : wpAny (model prog w) A (eval i1 env) (fun x s1 => wpAny (model prog w) A (pyIter x) (fun it s2 =>
      CompTodo2 prog w A e G env elt t1 t2 i2 scope cl (fun B' m ys U' => ∀ D s', e.s.heap.get? D = none → Fs e G B' env.locals m ((D, LstP ys) :: U') s' → Q (.ref D) s') it s2) E s1) E s)
    (hlg : e.s.heap.get? env.locals = none) (hclos : closureFor scope env = pure cl) (hcell : ∀ y ∈ scope.names, y.2 ≠ .cell) (hkind : scope.kind = .function) (hnames : ∀ y ∈ scope.names, y.2 = .local → scope.names.lookup y.1 = some .local)
    (hs : ∀ x, foldedSetIterable i1 env x = pure x) (hs2 : ∀ C x, foldedSetIterable i2 (compEnvC scope cl C env) x = pure x) :
    wpAny (model prog w) A (eval (.ListComp elt [⟨t1, i1, [], 0⟩, ⟨t2, i2, [], 0⟩] scope pos) env) Q E s := by
  refine listComp (G := G) (wpAny_mono h (fun x s1 h1 => wpAny_mono h1 (fun it s2 h2 => ?_) fun _ _ x => x) fun _ _ x => x) hlg hclos hcell hkind hnames hs
  refine ea3_2 (comp_of_todo2 (i1 := i1) (pos := pos) hh hs2 h2) ?_; rintro B2 m U2 F2 h3
  refine ⟨B2, m, U2, F2, fun C D s3 F3 hC hD X => h3 C D s3 F3 hC hD _ fun s4 B4 m4 ys U4 F4 q => ?_⟩
  exact ⟨B4, m4, ys, U4, F4, fun s5 F5 => q _ _ hD F5⟩
end


section
variable {prog : Program} {w : World} {A : Around} {E : Value → Shared → Prop} {s : Shared} {e : En} {G : Array GenState} {B : Heap} {L : Addr} {m : Str → Option Value} {U U1 U2 : Own} {env : Env}
/-- a cell in the midst of the owned objects is stored -/
theorem sCellM {x : Str} {c : Addr} {v : Value} {v₀ : Option Value} {Q : Unit → Shared → Prop} (U1 : Own) (F : Fs e G B L m (U1 ++ (c, CelP v₀) :: U2) s) (h : ∀ s', Fs e G B L m (U1 ++ (c, CelP (some v)) :: U2) s' → Q () s')
    (hc : env.cells.lookup x = some c := by rfl) (hl : celOk .cell env x = true := by rfl) :
    wpAny (model prog w) A (storeName env x v) Q E s :=
  sCell (F.perm List.perm_middle) (fun s' F' => h s' (F'.perm List.perm_middle.symm)) hc hl
theorem mExtend {D : Addr} {ys : List Value} {pos : Pos} {a : Expr} {as : List Expr} {pl : Sem Bool} {Q : Value → Shared → Prop} (hl : Is s.heap D (LstP ys))
    (h : wpAny (model prog w) A (spliced (backTo pos (starEach (a :: as) env))) (fun vs s₁ => wpAny (model prog w) A (call (.builtin "list.extend") (.ref D :: vs)) Q E s₁) E s)
    (hst : starEach (a :: as) env = (false, eval a env) :: starEach as env := by rfl) (hplain : (backTo pos (starEach as env)).any (·.1) = false := by rfl) :
    wpAny (model prog w) A (getMethod (.ref D) "extend" pl) (fun fx s₂ => wpAny (model prog w) A (callWith pos fx.1 fx.2 (backTo pos (starEach (a :: as) env)) []) Q E s₂) E s := by
  obtain ⟨o, ho, n, rfl⟩ := hl
  exact getMethod_builtin ⟨_, ho, rfl⟩ PySem.F.plainAttrs_list PySem.F.slot_list_extend PySem.F.type_list_extend (fun a q => by cases q; exact ⟨_, ho, rfl⟩) (callWith_method1 h hst hplain)
end
end
section
/-- a list of lists of tuples of ints -/
noncomputable def BlkAre (B : Heap) (vs : List Value) (bs : List (List (List Int))) : Prop := vs.length = bs.length ∧ ∀ (i : Nat) b, bs[i]? = some b → ∃ a ws, vs[i]? = some (Value.ref a) ∧ Is B a (LstP ws) ∧ TupsAre B ws b
theorem BlkAre.mono {B h : Heap} {vs : List Value} {bs : List (List (List Int))} (x : BlkAre B vs bs) (k : Kp B h) : BlkAre h vs bs := ⟨x.1, fun i b hb => let ⟨a, ws, p, q, r⟩ := x.2 i b hb; ⟨a, ws, p, q.keeps k, r.mono k⟩⟩
theorem BlkAre.nil {B : Heap} : BlkAre B [] [] := ⟨rfl, fun i b h => nomatch h⟩
theorem BlkAre.snoc {B : Heap} {vs : List Value} {bs : List (List (List Int))} {a : Addr} {ws : List Value} {b : List (List Int)} (x : BlkAre B vs bs) (ha : Is B a (LstP ws)) (ht : TupsAre B ws b) : BlkAre B (vs ++ [.ref a]) (bs ++ [b]) := by
  refine ⟨by simp [x.1], fun i c hc => ?_⟩
  by_cases hi : i < bs.length
  · rw [List.getElem?_append_left hi] at hc
    obtain ⟨p, q, r, z⟩ := x.2 i c hc
    exact ⟨p, q, by rw [List.getElem?_append_left (by rw [x.1]; exact hi)]; exact r, z⟩
  · have hl := (List.getElem?_eq_some_iff.mp hc).1
    have hi2 : i = bs.length := by simp at hl; lia
    subst hi2
    rw [List.getElem?_append_right (Nat.le_refl _)] at hc
    simp at hc; subst hc
    exact ⟨a, ws, by rw [← x.1]; simp, ha, ht⟩

noncomputable def lRow (d : FrD) (c : Nat) (x y : Int) (j : Nat) : List (List Int) := (List.range (d.at c).1.toNat).map fun (i : Nat) => [(c : Int), x * (d.at c).1 + (i : Int), y * (d.at c).2 + (j : Int)]
noncomputable def lComp (d : FrD) (x y : Int) (c : Nat) : List (List Int) := (List.range (d.at c).2.toNat).flatMap fun j => lRow d c x y j
noncomputable def lAt (d : FrD) (x y : Int) : List (List Int) := (List.range d.sm.length).flatMap fun c => lComp d x y c
theorem flatMap_le {α β : Type} (f : α → List β) (k : Nat) : ∀ (l : List α), (∀ x ∈ l, (f x).length ≤ k) → (l.flatMap f).length ≤ k * l.length
  | [], _ => Nat.zero_le _
  | a :: l, h => by
    rw [List.flatMap_cons, List.length_append, List.length_cons, Nat.mul_succ]
    have h1 := flatMap_le f k l fun x hx => h x (.tail _ hx)
    have h2 := h a (.head _)
    lia
theorem rows_le {d : FrD} {c : Nat} {x y : Int} {j : Nat} (h : (d.at c).1 ≤ 2) (hj : j ≤ 2) : ((List.range j).flatMap (lRow d c x y)).length ≤ 4 := by
  have h1 := flatMap_le (lRow d c x y) 2 (List.range j) fun k _ => by unfold lRow; rw [List.length_map, List.length_range]; lia
  rw [List.length_range] at h1; lia
theorem comps_le {d : FrD} {x y : Int} {j : Nat} (ok : d.Ok) (hj : j ≤ d.sm.length) : ((List.range j).flatMap (lComp d x y)).length ≤ 12 := by
  have hle := ok.le
  have h1 := flatMap_le (lComp d x y) 4 (List.range j) fun k hk => by
    have hk := List.mem_range.mp hk
    have hb := ok.bd _ (List.mem_of_getElem? (FrD.at_get (show k < d.sm.length by lia)))
    exact rows_le hb.2.1 (by lia)
  rw [List.length_range] at h1; lia
noncomputable def lUnits (d : FrD) (wide high : Int) : Option Nat → List (List (List Int))
  | none => (List.range (wide * high).toNat).map fun (i : Nat) => lAt d ((i : Int) % wide) ((i : Int) / wide)
  | some a => (List.range (d.bA (d.at a) * d.bD (d.at a)).toNat).map fun (i : Nat) => [[(a : Int), (i : Int) % d.bA (d.at a), (i : Int) / d.bA (d.at a)]]
noncomputable def aloneV (al : Option Nat) (t : Tok) : Value := match al with | none => .none | some a => .int (a : Int) t

set_option maxHeartbeats 4000000 in
theorem lawUnitsS {w : World} {A : Around} {E : Value → Shared → Prop} {s : Shared} {B : Heap} {x sl : Addr} {svs : List Value} {d : FrD} {wide high : Int} {al : Option Nat} {t1 t2 t3 : Tok} {Q : Value → Shared → Prop}
    (gd : Gd w B) (kB : Kp B s.heap) (rm : Rm A 5) (fr : FrB B x d) (ok : d.Ok) (hw : 1 ≤ wide ∧ wide ≤ 3) (hh : 1 ≤ high ∧ high ≤ 2) (hzl : Is B sl (LstP svs)) (hzt : TupsAre B svs (smT d.sm))
    (hal : ∀ a, al = some a → a < d.sm.length ∧ 1 ≤ d.bA (d.at a) ∧ d.bA (d.at a) ≤ 100 ∧ 1 ≤ d.bD (d.at a) ∧ d.bD (d.at a) ≤ 100)
    (h : ∀ s' B' D vs, Kp B B' → Rs [] s.gens B s B' s' → s.heap.get? D = none → Is B' D (LstP vs) → BlkAre B' vs (lUnits d wide high al) → Q (.ref D) s') :
    wpAny (model PR w) A (call (.ref 280) [.ref x, .int wide t1, .int high t2, .ref sl, aloneV al t3]) Q E s := by
  refine wpAny_call ?_
  refine' enterC0 (n := 4) (binds := [(Str.ofString "frame", .ref x), (Str.ofString "wide", .int wide t1), (Str.ofString "high", .int high t2), (Str.ofString "samplings", .ref sl), (Str.ofString "alone", aloneV al t3)]) [] [] gd kB rm ?ho ?hcd ?hb ?hV ?hd ?hk ?hnd ?h ?c1 ?c2 ?c3
  case ho => k_is
  case hcd => k_is
  case hb => rfl
  case c1 => rfl
  case c2 => rfl
  case c3 => rfl
  case hV => exact fun p hp => nomatch hp
  case hd => simp
  case hnd => decide
  case hk =>
    intro n y hy
    simp only [List.mem_cons, List.not_mem_nil, or_false] at hy
    rcases hy with rfl | rfl | rfl | rfl | rfl
    all_goals first | exact .inl rfl | exact .inr ⟨rfl, rfl⟩
  case h =>
  intro L s1 E' A' m0 F R env Qr
  replace F : Fs ⟨[], B, s⟩ s.gens B L _ [(L + 7, CelP none), (L + 6, CelP none), (L + 5, CelP none), (L + 4, CelP none), (L + 3, CelP none), (L + 2, CelP none), (L + 1, CelP (some (aloneV al t3)))] s1 := F
  cases al with
  | none =>
    walk_at "go"
    refine isNone ?_
    walk_at "go"
    refine ifP (by rfl) ?_
    walk_at "go"
    refine nLstO F ?_
    clear F; intro s3 FD hFD F; walk_at "su"
    have hwh : 1 ≤ wide * high ∧ wide * high ≤ 6 := by
      have h1 : wide = 1 ∨ wide = 2 ∨ wide = 3 := by lia
      have h2 : high = 1 ∨ high = 2 := by lia
      rcases h1 with rfl | rfl | rfl <;> rcases h2 with rfl | rfl <;> lia
    walk_at "go"
    refine for1 F R.hh ?_ (fun _ => rfl)
    walk_at "go"
    refine bRange1 F ?_
    clear F; intro s5 B5 r5 k hr F; walk_at "lift"
    have k5 := k; clear k
    refine iRng0 (n := (wide * high).toNat) F hr (by lia) (by lia) ?_
    clear F; intro s6 it6 hit6 F
    refine ForTodo.mk (B2 := B5) (B₀ := B5) (n := (wide * high).toNat) it6 (nxRange0 _) (.refl _) ?_ F (fun i B' m' U' => ∃ fs vd vr va vy vx, U' = [(FD, LstP fs), (L + 7, CelP none), (L + 6, CelP vd), (L + 5, CelP vr), (L + 4, CelP va), (L + 3, CelP vy), (L + 2, CelP vx), (L + 1, CelP (some .none))] ∧ fs.length = i ∧ BlkAre B' fs ((List.range i).map fun (i : Nat) => lAt d ((i : Int) % wide) ((i : Int) / wide)) ∧ m' (Str.ofString "samplings") = some (.ref sl) ∧ m' (Str.ofString "wide") = some (.int wide t1) ∧ m' (Str.ofString "found") = some (.ref FD)) (exI6 [] _ _ _ _ _ ⟨rfl, rfl, .nil, rfl, rfl, rfl⟩) ?_
    · intro i p hp
      rcases List.mem_singleton.mp hp with rfl; exact hit6
    intro Iv
    refine ⟨?_, ?_, ?_⟩
    · rintro i B' B'' m' U' hEx k
      refine ea6_4 hEx ?_
      clear hEx; rintro fs vd vr va vy vx h1 h2 h3 h4
      exact exI6 fs vd vr va vy vx ⟨h1, h2, h3.mono k, h4⟩
    · rintro i v B7 m7 U7 s7 E7 hi k hEx ⟨tv, rfl⟩ F
      refine ea6_6 hEx ?_
      clear hEx; rintro fs vd vr va vy vx rfl hfs hbl n1 n2 n3
      walk_at "su"
      walk_at "lift"
      have k7 := k; clear k
      walk_at "go"
      refine nLstO F ?_
      clear F; intro s8 BD hBD F; walk_at "su"
      walk_at "go"
      refine sCellM (x := Str.ofString "x") [_, _, _, _, _, _, _, _] F ?_
      clear F; intro s9 F; walk_at "su"
      walk_at "go"
      refine sCellM (x := Str.ofString "y") [_, _, _, _, _, _, _] F ?_
      clear F; intro s10 F; walk_at "su"
      walk_at "go"
      have k9 := k; clear k
      refine for1 F R.hh ?_ (fun _ => rfl)
      walk_at "go"
      refine bEnum F (hzl.keeps F.kp) ?_
      clear F; intro s30 en it30 hne30 hen hit30 F
      refine (nxEnum (elts := []) (x1 := 0) (pos := default) (lst_is hzl) hne30).self (.refl _) F ?_
      refine ForTodo.mk en (nxEnum (lst_is hzl) hne30) (.refl _) ?_ F (fun c B' m' U' => ∃ bs vd vr va, U' = [(BD, LstP bs), (it6, _), (FD, LstP fs), (L + 7, CelP none), (L + 6, CelP vd), (L + 5, CelP vr), (L + 4, CelP va), (L + 3, CelP (some (.int ((i : Int) / wide) _))), (L + 2, CelP (some (.int ((i : Int) % wide) _))), (L + 1, CelP (some .none))] ∧ TupsAre B' bs ((List.range c).flatMap (lComp d ((i : Int) % wide) ((i : Int) / wide))) ∧ m' (Str.ofString "samplings") = some (.ref sl) ∧ m' (Str.ofString "wide") = some (.int wide t1) ∧ m' (Str.ofString "found") = some (.ref FD) ∧ m' (Str.ofString "blocks") = some (.ref BD)) (exI4 [] _ _ _ ⟨rfl, .nil, n1, n2, n3, rfl⟩) ?_
      · intro i p hp
        simp only [List.mem_cons, List.not_mem_nil, or_false] at hp
        rcases hp with rfl | rfl
        · exact hen
        · exact hit30
      intro Iv
      refine ⟨?_, ?_, ?_⟩
      · rintro c B' B'' m' U' hEx k
        refine ea4_3 hEx ?_
        clear hEx; rintro bs vd vr va h1 h2 h3
        exact exI4 bs vd vr va ⟨h1, h2.mono k, h3⟩
      · rintro c v B31 m31 U31 s31 E31 hc k hEx hX9; refine ea3_3 hX9 ?_; clear hX9; rintro a tk xv rfl hx ha F
        refine ea4_6 hEx ?_
        clear hEx; rintro bs vd vr va rfl hbs n4 n5 n6 n7
        walk_at "su"
        have hta : Is B31 a (TupP [.int c tk, xv]) := ⟨_, ha, rfl, 0, rfl⟩
        refine hzt.getE hx ?_; rintro ks tt vt hks rfl hti hin
        unfold smT at hks
        rw [List.getElem?_map] at hks
        obtain ⟨pp, hpp, rfl⟩ := Option.map_eq_some_iff.mp hks
        obtain ⟨q1, q2, rfl⟩ := ints2 hin
        walk_at "lift"
        replace hti := hti.keeps k
        have k31 := k; clear k
        walk_at "go"
        refine sCellM (x := Str.ofString "at") [_, _, _, _, _, _, _, _] F ?_
        clear F; intro s32 F; walk_at "su"
        walk_at "go"
        refine sCellM (x := Str.ofString "right") [_, _, _, _, _, _, _] F ?_
        clear F; intro s33 F; walk_at "su"
        walk_at "go"
        refine sCellM (x := Str.ofString "down") [_, _, _, _, _, _] F ?_
        clear F; intro s34 F; walk_at "su"
        walk_at "go"
        refine mExtend (F.nth (P := LstP bs) (a := BD) 2 rfl) ?_
        walk_at "go"
        refine listComp2 (cl := [(Str.ofString "y", L + 3), (Str.ofString "x", L + 2), (Str.ofString "right", L + 5), (Str.ofString "down", L + 6), (Str.ofString "at", L + 4)]) F R.hh ?_ F.lg rfl (by decide) rfl (by decide) (fun _ => rfl) (fun _ _ => rfl)
        have hcl : c < d.sm.length := (List.getElem?_eq_some_iff.mp hpp).1
        obtain rfl : pp = d.at c := Option.some.inj (hpp.symm.trans (FrD.at_get hcl))
        have hbd := ok.bd _ (List.mem_of_getElem? hpp)
        have hx0 : 0 ≤ (i : Int) % wide ∧ (i : Int) % wide < wide := ⟨Int.emod_nonneg _ (by lia), Int.emod_lt_of_pos _ (by lia)⟩
        have hy0 : 0 ≤ (i : Int) / wide ∧ (i : Int) / wide ≤ 6 := ⟨Int.ediv_nonneg (by lia) (by lia), Int.le_trans (Int.ediv_le_self _ (by lia)) (by lia)⟩
        walk_at "go"
        refine bRange1 F ?_
        clear F; intro s35 B35 r35 k hr35 F; walk_at "lift"
        have k35 := k; clear k
        refine iRng0 (n := (d.at c).2.toNat) F hr35 (by lia) (by lia) ?_
        clear F; intro s36 it36 hit36 F
        refine CompTodo2.mk (B2 := B35) (B₀ := B35) (n := (d.at c).2.toNat) it36 (nxRange0 _) (.refl _) ?_ F (fun j B' ys => TupsAre B' ys ((List.range j).flatMap (lRow d c ((i : Int) % wide) ((i : Int) / wide)))) .nil ?_
        · intro i p hp
          rcases List.mem_singleton.mp hp with rfl; exact hit36
        intro Iv
        refine ⟨fun _ _ _ _ h k => h.mono k, ?_, ?_⟩
        · rintro C D j v B41 m41 ys41 s41 E41 hC hj k hys ⟨tj, rfl⟩ F
          walk_at "su"
          walk_at "lift"
          have k41 := k; clear k
          walk_at "go"
          refine bRange1 F ?_
          clear F; intro s42 B42 r42 k hr42 F; walk_at "lift"
          have k42 := k; clear k
          refine iRng0 (n := (d.at c).1.toNat) F hr42 (by lia) (by lia) ?_
          clear F; intro s43 it43 hit43 F
          refine InTodo.mk (B3 := B42) (B₁ := B42) (n2 := (d.at c).1.toNat) it43 (nxRange0 _) (.refl _) (k41.trans k42) ?_ F (fun i2 B' m' ys => m' (Str.ofString "j") = some (.int (j : Int) tj) ∧ TupsAre B' ys ((List.range j).flatMap (lRow d c ((i : Int) % wide) ((i : Int) / wide)) ++ (List.range i2).map fun (i2 : Nat) => [(c : Int), (i : Int) % wide * (d.at c).1 + (i2 : Int), (i : Int) / wide * (d.at c).2 + (j : Int)])) ⟨rfl, by simpa using hys.mono k42⟩ ?_
          · intro i p hp
            rcases List.mem_singleton.mp hp with rfl; exact hit43
          intro Iv
          refine ⟨fun _ _ _ _ _ h k => ⟨h.1, h.2.mono k⟩, ?_, ?_⟩
          · rintro i2 v B51 m51 ys51 s51 E51 hi2 k ⟨nj, hys2⟩ ⟨ti, rfl⟩ F
            walk_at "su"
            walk_at "lift"
            have k51 := k; clear k
            walk_at "go"
            have hl1 := hys2.length
            refine CEltI.mk ?_ (k51.trans k) F ⟨nj, ?_⟩
            · have hl2 := rows_le (d := d) (c := c) (x := (i : Int) % wide) (y := (i : Int) / wide) (j := j) hbd.2.1 (by lia)
              rw [List.length_append, List.length_map, List.length_range] at hl1; lia
            · rw [range_succ_map, ← List.append_assoc]
              exact (hys2.mono k).app (.cons ⟨_, _, rfl, by assumption, .cons _ _ (.cons _ _ (.cons _ _ .nil))⟩ .nil)
          · rintro B51 m51 ys51 k ⟨_, hys2⟩
            show TupsAre _ _ _
            rw [range_succ_flatMap]
            exact hys2
        · rintro B41 ys41 k hys D40 s40 hD40 F
          walk_at "lift"
          have k41 := k; clear k
          walk_at "go"
          refine bExtend (ys := bs) (zs := ys41) (U := _) (F.f4) F.top ?_ ?_
          · have hl1 := hbs.length
            have hl2 := hys.length
            have hl3 := rows_le (d := d) (c := c) (x := (i : Int) % wide) (y := (i : Int) / wide) (j := (d.at c).2.toNat) hbd.2.1 (by lia)
            have hl4 := comps_le (d := d) (x := (i : Int) % wide) (y := (i : Int) / wide) (j := c) ok (by lia)
            lia
          clear F; intro s60 F
          replace F := F.swap.drop.b3
          walk_at "go"
          refine TurnQ.mk (.inl rfl) (k31.trans (k35.trans k41)) F (exI4 _ _ _ _ ⟨rfl, ?_, n4, n5, n6, n7⟩)
          rw [range_succ_flatMap]
          exact (hbs.mono (k35.trans k41)).app hys
      · rintro B31 m31 U31 s31 k hEx F
        refine ea4_6 hEx ?_
        clear hEx; rintro bs vd vr va rfl hbs n4 n5 n6 n7
        walk_at "su"
        walk_at "lift"
        have k31 := k; clear k
        refine Fs.frz F hBD ?_; clear F; intro B61 k hBl F
        walk_at "lift"
        have k61 := k; clear k
        walk_at "go"
        refine mAppend (F.nth (P := LstP fs) (a := FD) 1 rfl) ?_
        walk_at "go"
        refine aList F.swap (by lia) ?_
        clear F; intro s62 F
        replace F := F.swap; walk_at "su"
        walk_at "go"
        refine TurnQ.mk (.inl rfl) (k7.trans (k9.trans (k31.trans k61))) F (exI6 _ _ _ _ _ _ ⟨rfl, by simp [hfs], ?_, n4, n5, n6⟩)
        rw [range_succ_map]
        have hsl : svs.length = d.sm.length := by rw [hzt.length]; unfold smT; rw [List.length_map]
        rw [hsl] at hbs
        exact (hbl.mono (k9.trans (k31.trans k61))).snoc hBl (hbs.mono k61)
    · rintro B7 m7 U7 s7 k hEx F
      refine ea6_6 hEx ?_
      clear hEx; rintro fs vd vr va vy vx rfl hfs hbl n1 n2 n3
      walk_at "su"
      walk_at "lift"
      have k7 := k; clear k
      refine Fs.frz F hFD ?_; clear F; intro B61 k hFl F
      walk_at "lift"
      have k61 := k; clear k
      walk_at "go"
      exact h _ _ _ _ F.rn.bb F.rs hFD hFl (hbl.mono k61)
  | some a =>
    refine anE5 (hal a rfl) ?_; rintro hal1 hal2 hal3 hal4 hal5
    have hpi := FrD.at_get hal1
    have hbd := ok.bd _ (List.mem_of_getElem? hpi)
    walk_at "go"
    refine isNone ?_
    walk_at "go"
    refine ifN (by exact Bool.false_ne_true) ?_
    walk_at "go"
    refine listComp1 (cl := []) F R.hh ?_ F.lg rfl (by decide) rfl (by decide) (fun _ => rfl)
    walk_at "go"
    refine iLst F (hzl.keeps F.kp) ?_
    clear F; intro sia ita hita F
    have Bqa := hzl
    have hsl : svs.length = d.sm.length := by rw [hzt.length]; unfold smT; rw [List.length_map]
    have hle := ok.le
    refine FrB.elim fr ?_; rintro cl u1 u2 u3 v1 v2 cs I hl hc
    refine CompTodo.mk ita (nxList (lst_is hzl)) (.refl _) ?_ F (fun i B' ys U' => U' = [(L + 7, CelP none), (L + 6, CelP none), (L + 5, CelP none), (L + 4, CelP none), (L + 3, CelP none), (L + 2, CelP none), (L + 1, CelP (some (aloneV (some a) t3)))] ∧ IntsAre ys ((d.sm.map Prod.fst).take i)) ⟨rfl, .nil⟩ ?_
    · intro i p hp
      rcases List.mem_singleton.mp hp with rfl; exact hita
    intro Iv
    refine ⟨fun _ _ _ _ _ h _ => h, ?_, ?_⟩
    · rintro C D' i v Bi mi ysi Ui si Ei hC hi k ⟨rfl, hysi⟩ hv F
      walk_at "su"
      refine hzt.getE hv ?_; rintro ks tt vt hks rfl hti hin
      unfold smT at hks
      rw [List.getElem?_map] at hks
      obtain ⟨pp, hpp, rfl⟩ := Option.map_eq_some_iff.mp hks
      obtain ⟨q1, q2, rfl⟩ := ints2 hin
      walk_at "lift"
      replace hti := hti.keeps k
      have ki := k; clear k
      walk_at "go"
      refine gTup (hti.keeps F.kp) (by lia) (by lia) (k := 0) rfl ?_
      have e1 : (d.sm.map Prod.fst).take (i + 1) = (d.sm.map Prod.fst).take i ++ [Prod.fst pp] := by
        rw [List.take_add_one, List.getElem?_map, hpp]; rfl
      have hl9 := hysi.length
      refine CElt.mk (by simp at hl9; lia) ki F ⟨rfl, ?_⟩
      rw [e1]
      exact intsApp hysi (.cons _ _ .nil)
    · rintro Bi ysi Ui k ⟨rfl, hysi⟩ D' si hD' F
      walk_at "su"
      have e1 : (d.sm.map Prod.fst).take svs.length = d.sm.map Prod.fst := List.take_of_length_le (by rw [List.length_map, hsl]; exact Nat.le_refl _)
      rw [e1] at hysi
      walk_at "lift"
      have ka := k; clear k
      walk_at "go"
      refine bMaxL F R.hh F.top hysi (by rw [List.length_map]; lia) ?_
      clear F; intro sja mr ta F hM1 hM2
      replace F := F.drop
      have hmr : 1 ≤ mr ∧ mr ≤ 2 := by
        obtain ⟨p, hp, rfl⟩ := List.mem_map.mp hM1
        have := ok.bd p hp; lia
      obtain rfl : mr = d.mA := mx_of hM1 hM2 (by lia)
      walk_at "go"
      refine listComp1 (cl := []) F R.hh ?_ F.lg rfl (by decide) rfl (by decide) (fun _ => rfl)
      walk_at "go"
      refine iLst F (hzl.keeps F.kp) ?_
      clear F; intro sib itb hitb F
      have Bqb := hzl
      refine CompTodo.mk itb (nxList (lst_is hzl)) (.refl _) ?_ F (fun i B' ys U' => U' = [(L + 7, CelP none), (L + 6, CelP none), (L + 5, CelP none), (L + 4, CelP none), (L + 3, CelP none), (L + 2, CelP none), (L + 1, CelP (some (aloneV (some a) t3)))] ∧ IntsAre ys ((d.sm.map Prod.snd).take i)) ⟨rfl, .nil⟩ ?_
      · intro i p hp
        rcases List.mem_singleton.mp hp with rfl; exact hitb
      intro Iv
      refine ⟨fun _ _ _ _ _ h _ => h, ?_, ?_⟩
      · rintro C D' i v Bi mi ysi Ui si Ei hC hi k ⟨rfl, hysi⟩ hv F
        walk_at "su"
        refine hzt.getE hv ?_; rintro ks tt vt hks rfl hti hin
        unfold smT at hks
        rw [List.getElem?_map] at hks
        obtain ⟨pp, hpp, rfl⟩ := Option.map_eq_some_iff.mp hks
        obtain ⟨q1, q2, rfl⟩ := ints2 hin
        walk_at "lift"
        replace hti := hti.keeps k
        have ki := k; clear k
        walk_at "go"
        refine gTup (hti.keeps F.kp) (by lia) (by lia) (k := 1) rfl ?_
        have e1 : (d.sm.map Prod.snd).take (i + 1) = (d.sm.map Prod.snd).take i ++ [Prod.snd pp] := by
          rw [List.take_add_one, List.getElem?_map, hpp]; rfl
        have hl9 := hysi.length
        refine CElt.mk (by simp at hl9; lia) ki F ⟨rfl, ?_⟩
        rw [e1]
        exact intsApp hysi (.cons _ _ .nil)
      · rintro Bi ysi Ui k ⟨rfl, hysi⟩ D' si hD' F
        walk_at "su"
        have e1 : (d.sm.map Prod.snd).take svs.length = d.sm.map Prod.snd := List.take_of_length_le (by rw [List.length_map, hsl]; exact Nat.le_refl _)
        rw [e1] at hysi
        walk_at "lift"
        have kb := k; clear k
        walk_at "go"
        refine bMaxL F R.hh F.top hysi (by rw [List.length_map]; lia) ?_
        clear F; intro sjb md tb F hM1 hM2
        replace F := F.drop
        have hmd : 1 ≤ md ∧ md ≤ 2 := by
          obtain ⟨p, hp, rfl⟩ := List.mem_map.mp hM1
          have := ok.bd p hp; lia
        obtain rfl : md = d.mD := mx_of hM1 hM2 (by lia)
        walk_at "go"
        obtain ⟨sv, hsv⟩ : ∃ v, svs[a]? = some v := ⟨svs[a]'(by lia), List.getElem?_eq_getElem _⟩
        refine hzt.getE hsv ?_; rintro ks tt vt hks rfl hti hin
        unfold smT at hks
        rw [List.getElem?_map, hpi] at hks
        obtain rfl : [(d.at a).1, (d.at a).2] = ks := Option.some.inj hks
        obtain ⟨q1, q2, rfl⟩ := ints2 hin
        refine gLst (hzl.keeps F.kp) (by lia) (by lia) (k := (a : Int)) (by simpa using hsv) ?_
        walk_at "go"
        refine gTup (hti.keeps F.kp) (by lia) (by lia) (k := 0) rfl ?_
        walk_at "go"
        have eA : ((d.width * (d.at a).1 + d.mA - 1) / d.mA + 1) / 2 = d.bA (d.at a) := by
          unfold FrD.bA FrD.pA; generalize (d.width * (d.at a).1 + d.mA - 1) / d.mA = z; lia
        have eD : ((d.height * (d.at a).2 + d.mD - 1) / d.mD + 1) / 2 = d.bD (d.at a) := by
          unfold FrD.bD FrD.pD; generalize (d.height * (d.at a).2 + d.mD - 1) / d.mD = z; lia
        refine lawBlocksAcrossS gd F.kp (R.less (by decide)) (by lia) (by lia) (by lia) (by lia) ?_
        intro s50 u50 R50; replace F := F.did R50
        rw [eA]
        walk_at "go"
        refine sCell (x := Str.ofString "across") F ?_
        clear F; intro s51 F; walk_at "su"
        walk_at "go"
        refine gLst (hzl.keeps F.kp) (by lia) (by lia) (k := (a : Int)) (by simpa using hsv) ?_
        walk_at "go"
        refine gTup (hti.keeps F.kp) (by lia) (by lia) (k := 1) rfl ?_
        walk_at "go"
        refine lawBlocksAcrossS gd F.kp (R.less (by decide)) (by lia) (by lia) (by lia) (by lia) ?_
        intro s52 u52 R52; replace F := F.did R52
        rw [eD]
        walk_at "go"
        refine listComp1 (cl := [(Str.ofString "alone", L + 1), (Str.ofString "across", L + 7)]) F R.hh ?_ F.lg rfl (by decide) rfl (by decide) (fun _ => rfl)
        have kc := k; clear k
        walk_at "go"
        have hm1 : 1 ≤ (d.bA (d.at a)) * (d.bD (d.at a)) := Int.mul_le_mul hal2 hal4 (by lia) (by lia)
        have hm2 : (d.bA (d.at a)) * (d.bD (d.at a)) ≤ 10000 := Int.le_trans (Int.mul_le_mul hal3 hal5 (by lia) (by lia)) (by lia)
        refine bRange1 F ?_
        clear F; intro s53 B53 r53 k hr53 F; walk_at "lift"
        have k53 := k; clear k
        refine iRng0 (n := ((d.bA (d.at a)) * (d.bD (d.at a))).toNat) F hr53 (by lia) (by lia) ?_
        clear F; intro s54 it54 hit54 F
        refine CompTodo.mk (B2 := B53) (B₀ := B53) (n := ((d.bA (d.at a)) * (d.bD (d.at a))).toNat) it54 (nxRange0 _) (.refl _) ?_ F (fun i B' ys U' => U' = [(L + 7, CelP (some (.int (d.bA (d.at a)) u50))), (L + 6, CelP none), (L + 5, CelP none), (L + 4, CelP none), (L + 3, CelP none), (L + 2, CelP none), (L + 1, CelP (some (aloneV (some a) t3)))] ∧ BlkAre B' ys ((List.range i).map fun (i : Nat) => [[(a : Int), (i : Int) % (d.bA (d.at a)), (i : Int) / (d.bA (d.at a))]])) ⟨rfl, .nil⟩ ?_
        · intro i p hp
          rcases List.mem_singleton.mp hp with rfl; exact hit54
        intro Iv
        refine ⟨fun _ _ _ _ _ h k => ⟨h.1, h.2.mono k⟩, ?_, ?_⟩
        · rintro C D i v B61 m61 ys U61 s61 E61 hC hi k ⟨rfl, hys⟩ ⟨ti, rfl⟩ F
          walk_at "su"
          walk_at "lift"
          have k61 := k; clear k
          walk_at "go"
          have k62 := k; clear k
          refine nLstP F ?_
          clear F; intro s63 B63 l63 k hl63 F; walk_at "lift"
          have k63 := k; clear k
          have hl8 := hys.1
          rw [List.length_map, List.length_range] at hl8
          refine CElt.mk (by lia) (k61.trans (k62.trans k63)) F ⟨rfl, ?_⟩
          rw [range_succ_map]
          exact (hys.mono (k62.trans k63)).snoc hl63 (.cons ⟨_, _, rfl, Is.keeps (by assumption) k63, .cons _ _ (.cons _ _ (.cons _ _ .nil))⟩ .nil)
        · rintro B61 ys U61 k ⟨rfl, hys⟩ D s61 hD F
          walk_at "su"
          walk_at "lift"
          have k61 := k; clear k
          refine Fs.frz F hD ?_; clear F; intro B64 k hFl F
          walk_at "lift"
          have k64 := k; clear k
          walk_at "go"
          refine h _ _ _ _ F.rn.bb F.rs hD hFl ?_
          simp only [lUnits]
          exact hys.mono k64
end
section
/-- from the n-th statement on -/
noncomputable def stepsOf (prog : Program) (w : World) (A : Around) (E : Value → Shared → Prop) (f : Addr) (n : Nat) (L : Addr) (Q : Flow → Shared → Prop) (s : Shared) (o : Option Obj) : Prop :=
  match o with
  | some ⟨_, _, .func fd, _⟩ => (match fd.body with
      | .stmts body => wpAny (model prog w) A (execs (body.drop n) (envX fd.qualname fd.scope L f fd.code (cellsFrom (L + 1) fd.scope.names []))) Q E s
      | _ => True)
  | _ => True
noncomputable def At (prog : Program) (w : World) (A : Around) (E : Value → Shared → Prop) (f : Addr) (n : Nat) (L : Addr) (Q : Flow → Shared → Prop) (s : Shared) : Prop := stepsOf prog w A E f n L Q s ((hT.heap_1 w.params).lookup f)

section
variable {prog : Program} {w : World} {A : Around} {E : Value → Shared → Prop} {s : Shared} {oc : Value} {od : Option Addr} {osl : Array (Option Value)} {name qual : Str} {params : Arguments} {body rest : List Stmt} {scope : Scope} {dV kV doc pm cdv ct : Value} {an : Option Addr} {f L : Addr} {n : Nat} {Q : Flow → Shared → Prop}
theorem At.of (ho : (hT.heap_1 w.params).lookup f = some ⟨oc, od, .func (fnOf name qual params body scope dV kV doc pm an cdv ct), osl⟩) (h : let env : Env := envX qual scope L f cdv (cellsFrom (L + 1) scope.names []); wpAny (model prog w) A (execs (body.drop n) env) Q E s) : At prog w A E f n L Q s := by
  unfold At; rw [ho]; exact h
theorem At.use (h : At prog w A E f n L Q s) (ho : (hT.heap_1 w.params).lookup f = some ⟨oc, od, .func (fnOf name qual params body scope dV kV doc pm an cdv ct), osl⟩) (hr : body.drop n = rest) : wpAny (model prog w) A (execs rest (envX qual scope L f cdv (cellsFrom (L + 1) scope.names []))) Q E s := by
  subst hr; unfold At at h; rw [ho] at h; exact h
end
end
section
theorem FrD.wA_of {d : FrD} {wide : Int} (ok : d.Ok) (h1 : 2 * d.mA * (wide - 1) < d.width) (h2 : d.width ≤ 2 * d.mA * wide) : d.wA = wide := by
  have h := ok.mA
  unfold FrD.wA
  have h3 : d.mA = 1 ∨ d.mA = 2 := by lia
  rcases h3 with h3 | h3 <;> rw [h3] at h1 h2 ⊢ <;> lia
theorem FrD.wD_of {d : FrD} {high : Int} (ok : d.Ok) (h1 : 2 * d.mD * (high - 1) < d.height) (h2 : d.height ≤ 2 * d.mD * high) : d.wD = high := by
  have h := ok.mD
  unfold FrD.wD
  have h3 : d.mD = 1 ∨ d.mD = 2 := by lia
  rcases h3 with h3 | h3 <;> rw [h3] at h1 h2 ⊢ <;> lia
theorem FrD.bA_of {d : FrD} {wide : Int} {c : Nat} (ok : d.Ok) (hc : c < d.sm.length) (hw : 1 ≤ wide) (h1 : 2 * d.mA * (wide - 1) < d.width) (h2 : d.width ≤ 2 * d.mA * wide) : 1 ≤ d.bA (d.at c) ∧ d.bA (d.at c) ≤ wide * (d.at c).1 := by
  have h := ok.mA
  have hb := ok.bd _ (List.mem_of_getElem? (FrD.at_get hc))
  unfold FrD.bA FrD.pA
  have h3 : d.mA = 1 ∨ d.mA = 2 := by lia
  have h4 : (d.at c).1 = 1 ∨ (d.at c).1 = 2 := by lia
  rcases h3 with h3 | h3 <;> rcases h4 with h4 | h4 <;> rw [h3] at h1 h2 ⊢ <;> rw [h4] <;> lia
theorem FrD.bD_of {d : FrD} {high : Int} {c : Nat} (ok : d.Ok) (hc : c < d.sm.length) (hw : 1 ≤ high) (h1 : 2 * d.mD * (high - 1) < d.height) (h2 : d.height ≤ 2 * d.mD * high) : 1 ≤ d.bD (d.at c) ∧ d.bD (d.at c) ≤ high * (d.at c).2 := by
  have h := ok.mD
  have hb := ok.bd _ (List.mem_of_getElem? (FrD.at_get hc))
  unfold FrD.bD FrD.pD
  have h3 : d.mD = 1 ∨ d.mD = 2 := by lia
  have h4 : (d.at c).2 = 1 ∨ (d.at c).2 = 2 := by lia
  rcases h3 with h3 | h3 <;> rcases h4 with h4 | h4 <;> rw [h3] at h1 h2 ⊢ <;> rw [h4] <;> lia

/-- what the law's first lines have drawn -/
structure LawD (d : FrD) (wide high : Int) (al : Option Nat) : Prop where
  ok : d.Ok
  w : 1 ≤ wide ∧ wide ≤ 3
  h : 1 ≤ high ∧ high ≤ 2
  wA : d.wA = wide
  wD : d.wD = high
  bA : ∀ c, c < d.sm.length → 1 ≤ d.bA (d.at c) ∧ d.bA (d.at c) ≤ wide * (d.at c).1
  bD : ∀ c, c < d.sm.length → 1 ≤ d.bD (d.at c) ∧ d.bD (d.at c) ≤ high * (d.at c).2
  none : al = none → 2 ≤ d.sm.length
  some : ∀ a, al = some a → a < d.sm.length

/-- what the first lines leave -/
structure LawS (w : World) (B : Heap) (d : FrD) (wide high : Int) (al : Option Nat) (fx sl t : Addr) (m : Str → Option Value) : Prop where
  D : LawD d wide high al
  fr : FrB B fx d
  hsl : ∃ svs, Is B sl (LstP svs) ∧ TupsAre B svs (smT d.sm)
  ntray : m (Str.ofString "tray") = some (.ref t)
  nframe : m (Str.ofString "frame") = some (.ref fx)
  nwide : ∃ t1, m (Str.ofString "wide") = some (.int wide t1)
  nhigh : ∃ t1, m (Str.ofString "high") = some (.int high t1)
  nsamp : m (Str.ofString "samplings") = some (.ref sl)
  nalone : ∃ t1, m (Str.ofString "alone") = some (aloneV al t1)
theorem LawS.elim {w : World} {B : Heap} {d : FrD} {wide high : Int} {al : Option Nat} {fx sl t : Addr} {m : Str → Option Value} (x : LawS w B d wide high al fx sl t m) {C : Prop}
    (k : LawD d wide high al → FrB B fx d → ∀ svs, Is B sl (LstP svs) → TupsAre B svs (smT d.sm) → m (Str.ofString "tray") = some (.ref t) → m (Str.ofString "frame") = some (.ref fx) → ∀ t1, m (Str.ofString "wide") = some (.int wide t1) → ∀ t2, m (Str.ofString "high") = some (.int high t2) →
      m (Str.ofString "samplings") = some (.ref sl) → ∀ t3, m (Str.ofString "alone") = some (aloneV al t3) → C) : C :=
  ea1_2 x.hsl fun svs a b => x.nwide.elim fun t1 h1 => x.nhigh.elim fun t2 h2 => x.nalone.elim fun t3 h3 => k x.D x.fr svs a b x.ntray x.nframe t1 h1 t2 h2 x.nsamp t3 h3
theorem LawS.mono {w : World} {B h : Heap} {d : FrD} {wide high : Int} {al : Option Nat} {fx sl t : Addr} {m : Str → Option Value} (x : LawS w B d wide high al fx sl t m) (k : Kp B h) : LawS w h d wide high al fx sl t m :=
  ⟨x.D, x.fr.mono k, let ⟨v, a, b⟩ := x.hsl; ⟨v, a.keeps k, b.mono k⟩, x.ntray, x.nframe, x.nwide, x.nhigh, x.nsamp, x.nalone⟩
theorem LawS.loc {w : World} {B : Heap} {d : FrD} {wide high : Int} {al : Option Nat} {fx sl t : Addr} {m m' : Str → Option Value} (x : LawS w B d wide high al fx sl t m)
    (h : ∀ y ∈ [Str.ofString "tray", Str.ofString "frame", Str.ofString "wide", Str.ofString "high", Str.ofString "samplings", Str.ofString "alone"], m' y = m y) : LawS w B d wide high al fx sl t m' := by
  refine ⟨x.D, x.fr, x.hsl, ?_, ?_, ?_, ?_, ?_, ?_⟩
  · rw [h _ (by simp)]; exact x.ntray
  · rw [h _ (by simp)]; exact x.nframe
  · rw [h _ (by simp)]; exact x.nwide
  · rw [h _ (by simp)]; exact x.nhigh
  · rw [h _ (by simp)]; exact x.nsamp
  · rw [h _ (by simp)]; exact x.nalone

set_option maxHeartbeats 8000000 in
theorem lawA1 {w : World} {A : Around} {E : Value → Shared → Prop} {s : Shared} {B : Heap} {l L : Addr} {svs : List Value} {sns : List Int} {m : Str → Option Value} {Q : Flow → Shared → Prop} {s₀ : Shared} {B₀ : Heap}
    (gd : Gd w B) (R : Rm A 15) (hsl : Is B l (LsqP svs)) (hi : IntsAre svs sns) (F : Fs ⟨[], B₀, s₀⟩ s₀.gens B L m [(L + 3, CelP none), (L + 2, CelP none), (L + 1, CelP none)] s) (hm : m (Str.ofString "script") = some (.ref l))
    (h : ∀ s' B' m' t fx sl d wide high al, Kp B B' → LawS w B' d wide high al fx sl t m' → Fs ⟨[], B₀, s₀⟩ s₀.gens B' L m' [(t, TrP), (L + 3, CelP none), (L + 2, CelP none), (L + 1, CelP none)] s' → At PR w A E 304 4 L Q s') :
    At PR w A E 304 0 L Q s := by
  refine' At.of ?ho ?h
  case ho => k_is
  case h =>
  intro env
  rw [List.drop_zero]
  walk_at "go"
  refine lawTrayS gd F.kp (R.less (by decide)) (hsl.keeps F.kp) hi ?_
  intro s1 B1 t k R1 ht htB htI
  have F3 := F.adopt (F.did R1) ht htB htI
  have hg : s1.gens = s₀.gens := F3.gens
  clear F; have F := F3; clear F3
  walk_at "lift"
  have k1 := k; clear k
  walk_at "go"
  refine lawFrameS gd F.kp (R.less (by decide)) F.top (F.own _ (.head _)).2.1 ?_
  intro s2 B2 tt fx sl svs2 d wide high u1 u2 k R2 hT fr ok hw1 hw2 hh1 hh2 hw3 hw4 hh3 hh4 hzl hzt htt
  replace F := F.did1 R2 hT
  replace gd := gd.mono k
  have k2 := k; clear k
  walk_at "go"
  have hsl2 : svs2.length = d.sm.length := by rw [hzt.length]; unfold smT; rw [List.length_map]
  have hle := ok.le
  have hne := ok.ne
  have base : ∀ al, (al = none → 2 ≤ d.sm.length) → (∀ a, al = some a → a < d.sm.length) → LawD d wide high al := fun al n1 n2 =>
    ⟨ok, ⟨hw1, hw2⟩, ⟨hh1, hh2⟩, FrD.wA_of ok hw3 hw4, FrD.wD_of ok hh3 hh4, fun c hc => FrD.bA_of ok hc hw1 hw3 hw4, fun c hc => FrD.bD_of ok hc hh1 hh3 hh4, n1, n2⟩
  refine bLenL F (hzl.keeps F.kp) (by lia) ?_
  clear F; intro s3 u3 F
  walk_at "go"
  by_cases c1 : svs2.length = 1
  · refine ifP (by rw [c1]; rfl) ?_; refine ifP rfl ?_
    walk_at "go"
    refine bLenL F (hzl.keeps F.kp) (by lia) ?_
    clear F; intro s4 u4 F
    walk_at "go"
    refine dieS F gd (R.less (by decide)) (by lia) (by lia) ?_
    clear F; intro s5 r5 u5 hr0 hr1 F
    (with_reducible refine' sLoc F ?_ rfl rfl); clear F; intro mk s' F; (with_reducible refine wpAny_execs_nil ?_)
    obtain ⟨a, rfl⟩ : ∃ a : Nat, r5 = (a : Int) := ⟨r5.toNat, by lia⟩
    refine' At.use (n := 4) (h _ _ _ t fx sl d wide high (some a) (k1.trans k2) ⟨base _ nofun (fun a' e => by cases e; lia), fr, ⟨_, hzl, hzt⟩, rfl, rfl, ⟨_, rfl⟩, ⟨_, rfl⟩, rfl, ⟨u5, rfl⟩⟩ F) ?ho1 ?hr1
    case ho1 => k_is
    case hr1 => rfl
  · refine ifN (by intro q; apply c1; have := eq_of_beq q; lia) ?_
    walk_at "go"
    refine dieS F gd (R.less (by decide)) (by lia) (by lia) ?_
    clear F; intro s4 r4 u4 hr40 hr41 F
    walk_at "go"
    by_cases c2 : r4 = 0
    · refine ifP (by rw [c2]; rfl) ?_
      walk_at "go"
      refine bLenL F (hzl.keeps F.kp) (by lia) ?_
      clear F; intro s6 u6 F
      walk_at "go"
      refine dieS F gd (R.less (by decide)) (by lia) (by lia) ?_
      clear F; intro s5 r5 u5 hr0 hr1 F
      (with_reducible refine' sLoc F ?_ rfl rfl); clear F; intro mk s' F; (with_reducible refine wpAny_execs_nil ?_)
      obtain ⟨a, rfl⟩ : ∃ a : Nat, r5 = (a : Int) := ⟨r5.toNat, by lia⟩
      refine' At.use (n := 4) (h _ _ _ t fx sl d wide high (some a) (k1.trans k2) ⟨base _ nofun (fun a' e => by cases e; lia), fr, ⟨_, hzl, hzt⟩, rfl, rfl, ⟨_, rfl⟩, ⟨_, rfl⟩, rfl, ⟨u5, rfl⟩⟩ F) ?ho2 ?hr2
      case ho2 => k_is
      case hr2 => rfl
    · refine ifN (by intro q; exact c2 (eq_of_beq q)) ?_
      (with_reducible refine isTrue_or_nil ?_); (with_reducible refine iteF ?_)
      refine wpAny_execs_nil ?_
      refine' At.use (n := 4) (h _ _ _ t fx sl d wide high none (k1.trans k2) ⟨base _ (fun _ => by lia) nofun, fr, ⟨_, hzl, hzt⟩, rfl, rfl, ⟨_, rfl⟩, ⟨_, rfl⟩, rfl, ⟨0, rfl⟩⟩ F) ?ho3 ?hr3
      case ho3 => k_is
      case hr3 => rfl
end
section
theorem flatten_le {α : Type} (k : Nat) : ∀ (l : List (List α)), (∀ x ∈ l, x.length ≤ k) → l.flatten.length ≤ k * l.length
  | [], _ => Nat.zero_le _
  | a :: l, h => by
    rw [List.flatten_cons, List.length_append, List.length_cons, Nat.mul_succ]
    have h1 := flatten_le k l fun x hx => h x (.tail _ hx)
    have h2 := h a (.head _)
    lia
theorem mul_bd {a b x y : Int} (ha : 0 ≤ a) (hb : 0 ≤ b) (h1 : a ≤ x) (h2 : b ≤ y) : 0 ≤ a * b ∧ a * b ≤ x * y :=
  ⟨Int.mul_nonneg ha hb, Int.mul_le_mul h1 h2 hb (Int.le_trans ha h1)⟩
theorem LawD.bd {d : FrD} {wide high : Int} {al : Option Nat} (h : LawD d wide high al) {c : Nat} (hc : c < d.sm.length) : 1 ≤ d.bA (d.at c) ∧ d.bA (d.at c) ≤ 6 ∧ 1 ≤ d.bD (d.at c) ∧ d.bD (d.at c) ≤ 4 := by
  have hb := h.ok.bd _ (List.mem_of_getElem? (FrD.at_get hc))
  have h1 := h.bA c hc
  have h2 := h.bD c hc
  have hw := h.w
  have hh := h.h
  have h3 := mul_bd (a := wide) (b := (d.at c).1) (x := 3) (y := 2) (by lia) (by lia) (by lia) (by lia)
  have h4 := mul_bd (a := high) (b := (d.at c).2) (x := 2) (y := 2) (by lia) (by lia) (by lia) (by lia)
  lia
theorem LawD.units_len {d : FrD} {wide high : Int} {al : Option Nat} (h : LawD d wide high al) : 1 ≤ (lUnits d wide high al).length ∧ (lUnits d wide high al).length ≤ 24 := by
  have hw := h.w
  have hh := h.h
  cases al with
  | none =>
    simp only [lUnits, List.length_map, List.length_range]
    have h3 := mul_bd (a := wide) (b := high) (x := 3) (y := 2) (by lia) (by lia) (by lia) (by lia)
    have h4 := mul_bd (a := 1) (b := 1) (x := wide) (y := high) (by lia) (by lia) (by lia) (by lia)
    lia
  | some a =>
    simp only [lUnits, List.length_map, List.length_range]
    have hb := h.bd (h.some a rfl)
    have h3 := mul_bd (a := d.bA (d.at a)) (b := d.bD (d.at a)) (x := 6) (y := 4) (by lia) (by lia) (by lia) (by lia)
    have h4 := mul_bd (a := 1) (b := 1) (x := d.bA (d.at a)) (y := d.bD (d.at a)) (by lia) (by lia) (by lia) (by lia)
    lia
theorem LawD.unit_len {d : FrD} {wide high : Int} {al : Option Nat} (h : LawD d wide high al) : ∀ b ∈ lUnits d wide high al, b.length ≤ 12 := by
  intro b hb
  cases al with
  | none =>
    simp only [lUnits] at hb
    obtain ⟨i, _, rfl⟩ := List.mem_map.mp hb
    exact comps_le h.ok (Nat.le_refl _)
  | some a =>
    simp only [lUnits] at hb
    obtain ⟨i, _, rfl⟩ := List.mem_map.mp hb
    simp

/-- the mcus and what is coded -/
structure LawM (w : World) (B : Heap) (us : List (List (List Int))) (mc cl : Addr) (bp : Bool) (m : Str → Option Value) : Prop where
  hmc : ∃ mvs, Is B mc (LstP mvs) ∧ BlkAre B mvs us
  hcl : ∃ cvs, Is B cl (LstP cvs) ∧ TupsAre B cvs us.flatten
  nmcus : m (Str.ofString "mcus") = some (.ref mc)
  npad : m (Str.ofString "is_padded") = some (.bool bp)
  ncoded : m (Str.ofString "coded") = some (.ref cl)
theorem LawM.mono {w : World} {B h : Heap} {us : List (List (List Int))} {mc cl : Addr} {bp : Bool} {m : Str → Option Value} (x : LawM w B us mc cl bp m) (k : Kp B h) : LawM w h us mc cl bp m :=
  ⟨let ⟨v, a, b⟩ := x.hmc; ⟨v, a.keeps k, b.mono k⟩, let ⟨v, a, b⟩ := x.hcl; ⟨v, a.keeps k, b.mono k⟩, x.nmcus, x.npad, x.ncoded⟩

set_option maxHeartbeats 8000000 in
theorem lawA2 {w : World} {A : Around} {E : Value → Shared → Prop} {s : Shared} {B : Heap} {L fx sl t : Addr} {m : Str → Option Value} {Q : Flow → Shared → Prop} {s₀ : Shared} {B₀ : Heap} {d : FrD} {wide high : Int} {al : Option Nat}
    (gd : Gd w B) (R : Rm A 15) (S : LawS w B d wide high al fx sl t m) (F : Fs ⟨[], B₀, s₀⟩ s₀.gens B L m [(t, TrP), (L + 3, CelP none), (L + 2, CelP none), (L + 1, CelP none)] s)
    (h : ∀ s' B' m' mc cl bp, Kp B B' → LawS w B' d wide high al fx sl t m' → LawM w B' (lUnits d wide high al) mc cl bp m' → Fs ⟨[], B₀, s₀⟩ s₀.gens B' L m' [(t, TrP), (L + 3, CelP none), (L + 2, CelP none), (L + 1, CelP none)] s' → At PR w A E 304 6 L Q s') :
    At PR w A E 304 4 L Q s := by
  refine' At.of ?ho ?h
  case ho => k_is
  case h =>
  intro env
  show wpAny _ _ (execs (List.drop (0 + 1 + 1 + 1 + 1) _) _) _ _ _
  rw [List.drop_succ_cons, List.drop_succ_cons, List.drop_succ_cons, List.drop_succ_cons, List.drop_zero]
  refine LawS.elim S ?_; rintro hD fr svs hzl hzt n1 n2 u1 n3 u2 n4 n5 u3 n6
  walk_at "go"
  have hul := hD.units_len
  refine lawUnitsS gd F.kp (R.less (by decide)) fr hD.ok hD.w hD.h hzl hzt (fun a e => ?_) ?_
  · have hb := hD.bd (hD.some a e)
    exact ⟨hD.some a e, hb.1, by lia, hb.2.2.1, by lia⟩
  intro s1 B1 mc mvs k R1 hmcN hmc hblk; replace F := F.did R1; walk_at "lift"
  have k1 := k; clear k
  generalize hus : lUnits d wide high al = us at *
  have hulen : ∀ b ∈ us, b.length ≤ 12 := by rw [← hus]; exact hD.unit_len
  walk_at "go"
  refine dieS F gd (R.less (by decide)) (by lia) (by lia) ?_
  clear F; intro s2 r2 u4 hr0 hr1 F
  walk_at "go"
  refine listComp2 (cl := []) F R.hh ?_ F.lg rfl (by decide) rfl (by decide) (fun _ => rfl) (fun _ _ => rfl)
  walk_at "go"
  refine iLst F (hmc.keeps F.kp) ?_
  clear F; intro s3 it3 hit3 F
  refine CompTodo2.mk it3 (nxList (lst_is hmc)) (.refl _) ?_ F (fun i B' ys => TupsAre B' ys (us.take i).flatten) .nil ?_
  · intro i p hp
    rcases List.mem_singleton.mp hp with rfl; exact hit3
  intro Iv
  refine ⟨fun _ _ _ _ h k => h.mono k, ?_, ?_⟩
  · rintro C D i v B4 m4 ys4 s4 E4 hC hi k hys hv F
    have hi' : i < us.length := by rw [← hblk.1]; exact hi
    refine ea2_3 (hblk.2 i us[i] (List.getElem?_eq_getElem hi')) ?_; rintro a ws hv2 haI hwt
    have : v = .ref a := Option.some.inj (hv.symm.trans hv2)
    subst this
    walk_at "lift"
    replace haI := haI.keeps k; replace hwt := hwt.mono k
    have k4 := k; clear k
    walk_at "go"
    refine iLst F (haI.keeps F.kp) ?_
    clear F; intro s5 it5 hit5 F
    refine InTodo.mk it5 (nxList (lst_is haI)) (.refl _) k4 ?_ F (fun j B' m' ys => TupsAre B' ys ((us.take i).flatten ++ us[i].take j)) (by simpa using hys) ?_
    · intro i p hp
      rcases List.mem_singleton.mp hp with rfl; exact hit5
    intro Iv
    refine ⟨fun _ _ _ _ _ h k => h.mono k, ?_, ?_⟩
    · rintro j v B6 m6 ys6 s6 E6 hj k hys2 hv F
      obtain ⟨ks, hks, hkt⟩ := hwt.get hv
      walk_at "lift"
      have k6 := k; clear k
      walk_at "go"
      have hl1 := hys2.length
      have hl2 := flatten_le 12 (us.take i) fun x hx => hulen x (List.mem_of_mem_take hx)
      have hl3 := hulen _ (List.getElem_mem hi')
      rw [List.length_append] at hl1
      rw [List.length_take] at hl1 hl2
      refine CEltI.mk (by lia) k6 F ?_
      have e1 : us[i].take (j + 1) = us[i].take j ++ [ks] := by rw [List.take_add_one, hks]; rfl
      show TupsAre B6 (ys6 ++ [v]) ((us.take i).flatten ++ us[i].take (j + 1))
      rw [e1, ← List.append_assoc]
      exact hys2.app (.cons (hkt.mono k6) .nil)
    · rintro B6 m6 ys6 k hys2
      replace hys2 : TupsAre B6 ys6 ((us.take i).flatten ++ us[i].take ws.length) := hys2
      show TupsAre B6 ys6 (us.take (i + 1)).flatten
      have e2 : us[i].take ws.length = us[i] := List.take_of_length_le (by rw [hwt.length]; exact Nat.le_refl _)
      rw [e2] at hys2
      rw [List.take_add_one, List.getElem?_eq_getElem hi', List.flatten_append]
      simpa using hys2
  · rintro B4 ys4 k hys D4 s4 hD4 F
    replace hys : TupsAre B4 ys4 (us.take _).flatten := hys
    rw [hblk.1, List.take_of_length_le (Nat.le_refl _)] at hys
    walk_at "lift"
    have k4 := k; clear k
    refine Fs.frz F hD4 ?_; clear F; intro B5 k hL4 F
    walk_at "lift"
    have k5 := k; clear k
    walk_at "to"
    refine' At.use (n := 6) (h _ _ _ mc _ _ ((k1.trans k4).trans (k5.trans k)) ⟨hD, fr, ⟨_, hzl, hzt⟩, by exact n1, by exact n2, ⟨_, by exact n3⟩, ⟨_, by exact n4⟩, by exact n5, ⟨_, by exact n6⟩⟩ ⟨⟨_, hmc.keeps ((k4.trans k5).trans k), hblk.mono ((k4.trans k5).trans k)⟩, ⟨_, hL4.keeps k, hys.mono (k5.trans k)⟩, by rfl, by rfl, by rfl⟩ F) ?ho1 ?hr1
    case ho1 => k_is
    case hr1 => rfl
end
section
noncomputable def SID : List (Int × Int) := [(-1, 0), (1, 0), (0, -1), (0, 1)]
theorem sidesAt {w : World} {B : Heap} (gd : Gd w B) : ∃ its : List Value, Is B 54 (TupP its) ∧ its.length = 4 ∧ ∀ (i : Nat) (v : Value), its[i]? = some v → ∃ (r : Int × Int) (t u : Tok) (a : Addr), SID[i]? = some r ∧ v = .ref a ∧ Is B a (TupP [.int r.1 t, .int r.2 u]) := by
  have e54 : (hT.heap_1 w.params).lookup 54 = some ⟨.type "tuple", none, .seq #[.ref 50, .ref 51, .ref 52, .ref 53] 0, #[]⟩ := by k_is
  have e50 : (hT.heap_1 w.params).lookup 50 = some ⟨.type "tuple", none, .seq #[.int (-1) 247, .int 0 248] 0, #[]⟩ := by k_is
  have e51 : (hT.heap_1 w.params).lookup 51 = some ⟨.type "tuple", none, .seq #[.int 1 249, .int 0 250] 0, #[]⟩ := by k_is
  have e52 : (hT.heap_1 w.params).lookup 52 = some ⟨.type "tuple", none, .seq #[.int 0 251, .int (-1) 253] 0, #[]⟩ := by k_is
  have e53 : (hT.heap_1 w.params).lookup 53 = some ⟨.type "tuple", none, .seq #[.int 0 254, .int 1 255] 0, #[]⟩ := by k_is
  refine ⟨[.ref 50, .ref 51, .ref 52, .ref 53], ⟨_, gd.X _ _ e54, rfl, 0, rfl⟩, rfl, fun i v h => ?_⟩
  match i, h with
  | 0, h => cases h; exact ⟨_, _, _, _, rfl, rfl, _, gd.X _ _ e50, rfl, 0, rfl⟩
  | 1, h => cases h; exact ⟨_, _, _, _, rfl, rfl, _, gd.X _ _ e51, rfl, 0, rfl⟩
  | 2, h => cases h; exact ⟨_, _, _, _, rfl, rfl, _, gd.X _ _ e52, rfl, 0, rfl⟩
  | 3, h => cases h; exact ⟨_, _, _, _, rfl, rfl, _, gd.X _ _ e53, rfl, 0, rfl⟩
  | n + 4, h => cases h

/-- within the padding -/
noncomputable def FrD.inn (d : FrD) (c : Nat) (x y : Int) : Bool := decide (0 ≤ x) && decide (x < d.wA * (d.at c).1) && (decide (0 ≤ y) && decide (y < d.wD * (d.at c).2))
noncomputable def okS (d : FrD) (G : List Int → Bool) (c : Nat) (x y : Int) (r : Int × Int) : Bool := d.inn c (x + r.1) (y + r.2) && !(G [(c : Int), x + r.1, y + r.2])
noncomputable def sidesOf (d : FrD) (G : List Int → Bool) (c : Nat) (x y : Int) : List (List Int) := (SID.filter (okS d G c x y)).map fun r => [(c : Int), x + r.1, y + r.2]
noncomputable def gone (xs : Ents) (k : List Int) : Bool := (valK xs k).isSome

set_option maxHeartbeats 2000000 in
theorem knownSidesS {w : World} {A : Around} {E : Value → Shared → Prop} {s : Shared} {B : Heap} {x g : Addr} {d : FrD} {c : Nat} {px py : Int} {tc tx ty : Tok} {xs : Ents} {Q : Value → Shared → Prop}
    (gd : Gd w B) (kB : Kp B s.heap) (rm : Rm A 6) (fr : FrB B x d) (ok : d.Ok) (hc : c < d.sm.length) (hg : Is s.heap g (DicP PR w xs)) (hgs : (g == sysModules) = false) (hgB : B.get? g = none) (K : KeysAt PR w B xs)
    (h : ∀ s' B' l vs, Kp B B' → Rs [] s.gens B s B' s' → Is B' l (LstP vs) → TupsAre B' vs (sidesOf d (gone xs) c px py) → Q (.ref l) s') :
    wpAny (model PR w) A (call (.ref 68) [.ref x, .ref g, .int c tc, .int px tx, .int py ty]) Q E s := by
  refine' enterP (n := 5) (binds := [(Str.ofString "frame", .ref x), (Str.ofString "gone", .ref g), (Str.ofString "component", .int c tc), (Str.ofString "x", .int px tx), (Str.ofString "y", .int py ty)]) [] [] gd kB rm ?ho ?hcd ?hb ?hV ?hd ?hl ?h ?c1 ?c2 ?c3 ?c4
  walk_at "enter"
  case hV => intro p hp; exact nomatch hp
  case hd => exact .nil
  case h =>
  intro L s1 E' A' m0 F R env Qr
  have fr0 := fr
  refine FrB.elim fr0 ?_; rintro cl t1 t2 t3 v1 v2 cs I hl hcc
  have hok := ok.le
  walk_at "go"
  refine paddedS gd F.kp (R.less (by decide)) fr ok (FrD.at_get hc) (by lia) ?_
  intro s2 B2 tt a1 b1 k R1 ht; replace F := F.did R1; walk_at "lift"; replace K := K.mono k
  walk_at "go"
  refine nLstO F ?_
  clear F; intro s3 D hD F; walk_at "su"
  walk_at "go"
  refine ea1_3 (sidesAt gd) ?_; rintro its hi1 hi2 hi3
  refine for1 F R.hh ?_ (fun _ => rfl)
  refine' eGlob F gd (v := .ref 54) ?zhe ?_ ?zc
  case zhe => k_is
  case zc => rfl
  refine iTup F (hi1.keeps F.kp) ?_
  clear F; intro s4 it hit F
  have k0 := k; clear k
  refine ForTodo.mk (B2 := B2) (B₀ := B2) (n := its.length) it (nxTuple hi1) (.refl _) ?_ F (fun i B' m' U' => ∃ ys, U' = [(D, LstP ys)] ∧ TupsAre B' ys (((SID.take i).filter (okS d (gone xs) c px py)).map fun r => [(c : Int), px + r.1, py + r.2]) ∧
    m' (Str.ofString "gone") = some (.ref g) ∧ m' (Str.ofString "component") = some (.int c tc) ∧ m' (Str.ofString "x") = some (.int px tx) ∧ m' (Str.ofString "y") = some (.int py ty) ∧ m' (Str.ofString "found") = some (.ref D) ∧
    m' (Str.ofString "across") = some (.int (d.wA * (d.at c).1) a1) ∧ m' (Str.ofString "down") = some (.int (d.wD * (d.at c).2) b1)) ⟨[], rfl, .nil, rfl, rfl, rfl, rfl, rfl, rfl, rfl⟩ ?_
  · intro i p hp
    rcases List.mem_singleton.mp hp with rfl; exact hit
  intro Iv
  refine ⟨?_, ?_, ?_⟩
  · rintro i B' B'' m' U' hX9; refine ea1_3 hX9 ?_; clear hX9; rintro ys h1 h2 h3 k
    exact ⟨ys, h1, h2.mono k, h3⟩
  · rintro i v Bq m' U' s5 E5 hi k hX9; refine ea1_9 hX9 ?_; clear hX9; rintro ys rfl hys m1 m2 m3 m4 m5 m6 m7 hv F
    walk_at "su"
    refine ea4_3 (hi3 i v hv) ?_; rintro r t u a hr rfl ha
    have htk : SID.take (i + 1) = SID.take i ++ [r] := by rw [List.take_add_one, hr]; rfl
    walk_at "lift"; replace K := K.mono k; replace ha := ha.keeps k
    have k1 := k; clear k
    have hu := R.u
    have notApp : ∀ s' B6 m6, Kp Bq B6 → okS d (gone xs) c px py r = false → Fs ⟨[], B, s⟩ s.gens B6 L m6 ([(it, TItP 54 (i + 1))] ++ [(D, LstP ys)]) s' → m6 (Str.ofString "gone") = some (.ref g) ∧ m6 (Str.ofString "component") = some (.int c tc) ∧ m6 (Str.ofString "x") = some (.int px tx) ∧ m6 (Str.ofString "y") = some (.int py ty) ∧ m6 (Str.ofString "found") = some (.ref D) ∧
        m6 (Str.ofString "across") = some (.int (d.wA * (d.at c).1) a1) ∧ m6 (Str.ofString "down") = some (.int (d.wD * (d.at c).2) b1) →
        ∃ B'' m'' U'', Kp B2 B'' ∧ Fs ⟨[], B, s⟩ s.gens B'' L m'' ([(it, TItP 54 (i + 1))] ++ U'') s' ∧ ∃ ys, U'' = [(D, LstP ys)] ∧ TupsAre B'' ys (((SID.take (i + 1)).filter (okS d (gone xs) c px py)).map fun r => [(c : Int), px + r.1, py + r.2]) ∧
          m'' (Str.ofString "gone") = some (.ref g) ∧ m'' (Str.ofString "component") = some (.int c tc) ∧ m'' (Str.ofString "x") = some (.int px tx) ∧ m'' (Str.ofString "y") = some (.int py ty) ∧ m'' (Str.ofString "found") = some (.ref D) ∧
          m'' (Str.ofString "across") = some (.int (d.wA * (d.at c).1) a1) ∧ m'' (Str.ofString "down") = some (.int (d.wD * (d.at c).2) b1) := by
      intro s' B6 m6 k6 hno F hm
      refine ⟨B6, m6, _, k1.trans k6, F, ys, rfl, ?_, hm⟩
      rw [htk, List.filter_append]
      simp only [List.filter_cons, hno, Bool.false_eq_true, if_false, List.filter_nil, List.append_nil]
      exact hys.mono k6
    walk_at "go"
    refine gTup (ht.keeps F.kp) (by lia) (by lia) (k := 1) rfl ?_
    walk_at "go"
    have kq := k; clear k
    have hno : ∀ b : Bool, okS d (gone xs) c px py r = b → b = false → okS d (gone xs) c px py r = false := fun b e1 e2 => e1.trans e2
    by_cases q1 : 0 ≤ px + r.1
    rotate_left
    · rw [show decide ((0 : Int) ≤ px + r.1) = false from decide_eq_false q1]
      walk_at "go"
      exact ⟨.inl rfl, notApp _ _ _ kq (by simp [okS, FrD.inn, q1]) F ⟨m1, m2, m3, m4, m5, m6, m7⟩⟩
    rw [show decide ((0 : Int) ≤ px + r.1) = true from decide_eq_true q1]
    walk_at "go"
    by_cases q2 : px + r.1 < d.wA * (d.at c).1
    rotate_left
    · rw [show decide (px + r.1 < d.wA * (d.at c).1) = false from decide_eq_false q2]
      walk_at "go"
      exact ⟨.inl rfl, notApp _ _ _ kq (by simp [okS, FrD.inn, q2]) F ⟨m1, m2, m3, m4, m5, m6, m7⟩⟩
    rw [show decide (px + r.1 < d.wA * (d.at c).1) = true from decide_eq_true q2]
    walk_at "go"
    refine gTup (ht.keeps F.kp) (by lia) (by lia) (k := 2) rfl ?_
    walk_at "go"
    by_cases q3 : 0 ≤ py + r.2
    rotate_left
    · rw [show decide ((0 : Int) ≤ py + r.2) = false from decide_eq_false q3]
      walk_at "go"
      exact ⟨.inl rfl, notApp _ _ _ kq (by simp [okS, FrD.inn, q3]) F ⟨m1, m2, m3, m4, m5, m6, m7⟩⟩
    rw [show decide ((0 : Int) ≤ py + r.2) = true from decide_eq_true q3]
    walk_at "go"
    by_cases q4 : py + r.2 < d.wD * (d.at c).2
    rotate_left
    · rw [show decide (py + r.2 < d.wD * (d.at c).2) = false from decide_eq_false q4]
      walk_at "go"
      exact ⟨.inl rfl, notApp _ _ _ kq (by simp [okS, FrD.inn, q4]) F ⟨m1, m2, m3, m4, m5, m6, m7⟩⟩
    rw [show decide (py + r.2 < d.wD * (d.at c).2) = true from decide_eq_true q4]
    walk_at "go"
    refine ninDic F (F.old hg) hgs hu (K.mono kq) (tupAt_in3 ht) ?_
    clear F; intro s6 F
    walk_at "go"
    cases q5 : (valK xs [(c : Int), px + r.1, py + r.2]).isSome with
    | true =>
      rw [show (!true) = false from rfl]
      walk_at "go"
      exact ⟨.inl rfl, notApp _ _ _ kq (by simp [okS, gone, q5]) F ⟨m1, m2, m3, m4, m5, m6, m7⟩⟩
    | false =>
      rw [show (!false) = true from rfl]
      walk_at "go"
      refine mAppend (show Is _ D (LstP ys) by walk_at "at") ?_
      walk_at "go"
      have hyl : ys.length ≤ 4 := by
        rw [hys.length, List.length_map]
        exact Nat.le_trans (List.length_filter_le _ _) (Nat.le_trans (List.length_take_le' _ _) (Nat.le_refl 4))
      refine aList F.swap (by lia) ?_
      clear F; intro s7 F
      replace F := F.swap; walk_at "su"
      walk_at "go"
      refine TurnQ.mk (.inl rfl) (k1.trans kq) F ⟨_, rfl, ?_, m1, m2, m3, m4, m5, m6, m7⟩
      have hyes : okS d (gone xs) c px py r = true := by simp [okS, FrD.inn, gone, q1, q2, q3, q4, q5]
      rw [htk, List.filter_append, List.map_append]
      simp only [List.filter_cons, hyes, if_true, List.filter_nil, List.map_cons, List.map_nil]
      exact (hys.mono kq).app (.cons ⟨_, _, rfl, ht, .cons _ _ (.cons _ _ (.cons _ _ .nil))⟩ .nil)
  · rintro Bq m' U' s5 k hX9; refine ea1_9 hX9 ?_; clear hX9; rintro ys rfl hys m1 m2 m3 m4 m5 m6 m7 F
    walk_at "su"
    walk_at "go"
    refine Fs.frz F hD ?_; intro B9 k9 hD9 F9
    refine h _ _ _ _ (k0.trans (k.trans k9)) F9.rs hD9 ?_
    have : SID.take its.length = SID := List.take_of_length_le (by rw [hi2]; exact Nat.le_refl _)
    rw [this] at hys
    exact hys.mono k9
end
section
/-! the grid -/
noncomputable def grL (pl : Addr) (t : Tok) : List (Str × Value) := [("planes", .ref pl), ("many", .int 4 t)]
/-- a grid: the planes' rows by address -/
noncomputable def GrB (B : Heap) (x : Addr) (ra : List (List Addr)) : Prop := ∃ pl t pas, InstB B x 210 (grL pl t) ∧ Is B pl (LstP pas) ∧ pas.length = ra.length ∧ ∀ (p : Nat) (r : List Addr), ra[p]? = some r → ∃ a, pas[p]? = some (Value.ref a) ∧ Is B a (LstP (r.map Value.ref))
theorem GrB.elim {B : Heap} {x : Addr} {ra : List (List Addr)} (h : GrB B x ra) {C : Prop} (k : ∀ pl t pas, InstB B x 210 (grL pl t) → Is B pl (LstP pas) → pas.length = ra.length → (∀ (p : Nat) (r : List Addr), ra[p]? = some r → ∃ a, pas[p]? = some (Value.ref a) ∧ Is B a (LstP (r.map Value.ref))) → C) : C := ea3_4 h k
theorem GrB.mono {B h : Heap} {x : Addr} {ra : List (List Addr)} (i : GrB B x ra) (k : Kp B h) : GrB h x ra :=
  exE3 i fun pl t pas q => exI3 pl t pas ⟨q.1.mono k, q.2.1.keeps k, q.2.2.1, fun p r hp => (q.2.2.2 p r hp).imp fun _ z => ⟨z.1, z.2.keeps k⟩⟩
/-- a cell's value -/
noncomputable def CellV (B : Heap) (v : Value) : Option (List Int) → Prop
  | none => v = .none
  | some ks => ∃ l vs, v = .ref l ∧ Is B l (LstP vs) ∧ IntsAre vs ks
theorem CellV.mono {B h : Heap} {v : Value} {o : Option (List Int)} (x : CellV B v o) (k : Kp B h) : CellV h v o := by
  cases o with
  | none => exact x
  | some ks => obtain ⟨l, vs, a, b, c⟩ := x; exact ⟨l, vs, a, b.keeps k, c⟩

set_option maxHeartbeats 1000000 in
theorem getS {w : World} {A : Around} {E : Value → Shared → Prop} {s : Shared} {B : Heap} {x a : Addr} {ra : List (List Addr)} {p c r : Nat} {t1 t2 t3 : Tok} {row : List Addr} {cs : List Value} {v : Value} {o : Option (List Int)} {Q : Value → Shared → Prop}
    (gd : Gd w B) (kB : Kp B s.heap) (rm : Rm A 1) (gr : GrB B x ra) (hp : ra[p]? = some row) (hr : row[r]? = some a) (ha : Is s.heap a (LsqP cs)) (hc : cs[c]? = some v) (hv : CellV B v o)
    (hb : p < 1000 ∧ c < 1000 ∧ r < 1000)
    (h : ∀ s' B' l vs, Kp B B' → Rs [] s.gens B s B' s' → Is B' l (LstP vs) → IntsAre vs (o.getD [0, 0, 0, 0]) → Q (.ref l) s') :
    wpAny (model PR w) A (call (.ref 200) [.ref x, .int p t1, .int c t2, .int r t3]) Q E s := by
  refine GrB.elim gr ?_; rintro pl tk pas I hl hpl hpa
  obtain ⟨pa, hpa1, hpa2⟩ := hpa p row hp
  refine' enterP (n := 0) (binds := [(Str.ofString "self", .ref x), (Str.ofString "place", .int p t1), (Str.ofString "x", .int c t2), (Str.ofString "y", .int r t3)]) [] [] gd kB rm ?ho ?hcd ?hb ?hV ?hd ?hl ?h ?c1 ?c2 ?c3 ?c4
  walk_at "enter"
  case hV => intro p hp; exact nomatch hp
  case hd => exact .nil
  case h =>
  intro L s1 E' A' m0 F R env Qr
  walk_at "go"
  refine gLst (hl.keeps F.kp) (by lia) (by lia) (k := p) hpa1 ?_
  walk_at "go"
  refine gLst (hpa2.keeps F.kp) (by lia) (by lia) (k := r) (x := .ref a) (by show (row.map Value.ref)[r]? = _; rw [List.getElem?_map, hr]; rfl) ?_
  walk_at "go"
  refine gLsq (F.old ha) (by lia) (by lia) (k := c) hc ?_
  walk_at "go"
  refine isNone ?_
  walk_at "go"
  cases o with
  | none =>
    obtain rfl : v = .none := hv
    rw [show (Value.none == Value.none) = true from rfl]
    walk_at "go"
    refine nLstO F ?_
    clear F; intro s2 D2 hD2 F; walk_at "su"
    walk_at "go"
    refine lMul F F.top (by lia) (by lia) ?_
    clear F; intro s3 D3 hD3 F
    refine Fs.frz F hD3 ?_; intro B4 k4 hi4 F4
    refine h _ _ _ _ k4 F4.drop.rs hi4 ?_
    exact .cons _ _ (.cons _ _ (.cons _ _ (.cons _ _ .nil)))
  | some ks =>
    refine ea2_3 hv ?_; clear hv; rintro l vs rfl hl1 hi
    rw [show (Value.ref l == Value.none) = false from rfl]
    walk_at "go"
    exact h _ _ _ _ (.refl _) F.rs hl1 hi

set_option maxHeartbeats 1000000 in
theorem putS {w : World} {A : Around} {E : Value → Shared → Prop} {s : Shared} {B : Heap} {x a l : Addr} {ra : List (List Addr)} {p c r : Nat} {t1 t2 t3 : Tok} {row : List Addr} {cs vs : List Value} {ks : List Int} {Q : Value → Shared → Prop}
    (gd : Gd w B) (kB : Kp B s.heap) (rm : Rm A 1) (gr : GrB B x ra) (hp : ra[p]? = some row) (hr : row[r]? = some a) (ha : Is s.heap a (LsqP cs)) (haB : B.get? a = none) (hc : c < cs.length) (hl0 : Is B l (LstP vs)) (hi : IntsAre vs ks)
    (hb : p < 1000 ∧ c < 1000 ∧ r < 1000) (hz : ks.length ≤ 1000)
    (h : ∀ s' B' v, Kp B B' → Rs [a] s.gens B s B' s' → CellV B' v (some ks) → Is s'.heap a (LsqP (cs.set c v)) → Q .none s') :
    wpAny (model PR w) A (call (.ref 207) [.ref x, .int p t1, .int c t2, .int r t3, .ref l]) Q E s := by
  refine GrB.elim gr ?_; rintro pl tk pas I hl hpl hpa
  obtain ⟨pa, hpa1, hpa2⟩ := hpa p row hp
  refine' enterP (n := 0) (binds := [(Str.ofString "self", .ref x), (Str.ofString "place", .int p t1), (Str.ofString "x", .int c t2), (Str.ofString "y", .int r t3), (Str.ofString "row", .ref l)]) [a] [(a, LsqP cs)] gd kB rm ?ho ?hcd ?hb ?hV ?hd ?hl ?h ?c1 ?c2 ?c3 ?c4
  walk_at "enter"
  case hV => intro p hp; rcases List.mem_singleton.mp hp with rfl; exact ⟨ha, haB, .head _⟩
  case hd => simp
  case h =>
  intro L s1 E' A' m0 F R env Qr
  walk_at "go"
  refine lCopy F (hl0.keeps F.kp) (by rw [hi.length]; lia) ?_
  clear F; intro s2 D2 hD2 F
  refine Fs.frz F hD2 ?_; clear F; intro B3 k hD3 F
  walk_at "lift"; replace hpa2 := hpa2.keeps k
  walk_at "go"
  refine gLst (hl.keeps F.kp) (by lia) (by lia) (k := p) hpa1 ?_
  walk_at "go"
  refine gLst (hpa2.keeps F.kp) (by lia) (by lia) (k := r) (x := .ref a) (by show (row.map Value.ref)[r]? = _; rw [List.getElem?_map, hr]; rfl) ?_
  walk_at "go"
  refine iOwn F (by lia) (by lia) (by simpa using hc) ?_
  clear F; intro s4 F
  walk_at "go"
  exact h _ _ _ k F.rs ⟨_, _, rfl, hD3, hi⟩ F.top
end
section
/-- what a grid gives back at a place -/
noncomputable def CellAt (B h : Heap) (ra : List (List Addr)) (k ks : List Int) : Prop :=
  ∃ (p c r : Nat) (row : List Addr) (a : Addr) (cs : List Value) (v : Value) (o : Option (List Int)), k = [(p : Int), (c : Int), (r : Int)] ∧ ra[p]? = some row ∧ row[r]? = some a ∧ Is h a (LsqP cs) ∧ cs[c]? = some v ∧ CellV B v o ∧ (p < 1000 ∧ c < 1000 ∧ r < 1000) ∧ o.getD [0, 0, 0, 0] = ks
theorem CellAt.mono {B B' h : Heap} {ra : List (List Addr)} {k ks : List Int} (x : CellAt B h ra k ks) (kb : Kp B B') : CellAt B' h ra k ks :=
  exE8 x fun p c r row a cs v o q => exI8 p c r row a cs v o ⟨q.1, q.2.1, q.2.2.1, q.2.2.2.1, q.2.2.2.2.1, q.2.2.2.2.2.1.mono kb, q.2.2.2.2.2.2⟩

set_option maxHeartbeats 2000000 in
theorem smoothRowS {w : World} {A : Around} {E : Value → Shared → Prop} {s : Shared} {B : Heap} {x l : Addr} {ra : List (List Addr)} {vs : List Value} {kss : List (List Int)} {V : List Int → List Int} {t1 : Tok} {Q : Value → Shared → Prop}
    (gd : Gd w B) (kB : Kp B s.heap) (rm : Rm A 3) (gr : GrB B x ra) (hl : Is B l (LstP vs)) (hts : TupsAre B vs kss) (hne : 0 < kss.length) (hz : kss.length ≤ 1000)
    (hV : ∀ k ∈ kss, CellAt B s.heap ra k (V k) ∧ 0 < (V k).length)
    (h : ∀ s' B' l' vs', Kp B B' → Rs [] s.gens B s B' s' → Is B' l' (LstP vs') → IntsAre vs' [rmF ((kss.map fun k => (V k).headD 0).sum) kss.length, 0, 0, 0] → Q (.ref l') s') :
    wpAny (model PR w) A (call (.ref 80) [.ref x, .ref l, .int 4 t1]) Q E s := by
  refine wpAny_call ?_
  refine' enterC0 (n := 2) (binds := [(Str.ofString "grid", .ref x), (Str.ofString "sides", .ref l), (Str.ofString "many", .int 4 t1)]) [] [] gd kB rm ?ho ?hcd ?hb ?hV ?hd ?hk ?hnd ?h ?c1 ?c2 ?c3
  case ho => k_is
  case hcd => k_is
  case hb => rfl
  case c1 => rfl
  case c2 => rfl
  case c3 => rfl
  case hV => intro p hp; exact nomatch hp
  case hd => exact .nil
  case hnd => decide
  case hk =>
    intro n y hy
    simp only [List.mem_cons, List.not_mem_nil, or_false] at hy
    rcases hy with rfl | rfl | rfl
    · exact .inr ⟨rfl, rfl⟩
    · exact .inl rfl
    · exact .inl rfl
  case h =>
  intro L s1 E' A' m0 F0 R env Qr
  have F1 : Fs ⟨[], B, s⟩ s.gens B L _ [(L + 1, CelP (some (.ref x)))] s1 := F0
  obtain ⟨B1, k1, hcell, F⟩ := F1.freeze0
  have kk := k1
  replace gd := gd.mono k1; replace gr := gr.mono k1; replace hl := hl.keeps k1; replace hts := hts.mono k1
  refine GrB.elim gr ?_; rintro pl tk pas I hpl hpl2 hpa
  walk_at "go"
  refine listComp1 (cl := [(Str.ofString "grid", L + 1)]) F R.hh ?_ F.lg rfl (by decide) rfl (by decide) (fun _ => rfl)
  walk_at "go"
  refine iLst F (hl.keeps F.kp) ?_
  clear F; intro s3 it hit F
  refine CompTodo.mk (B2 := B1) (B₀ := B1) it (nxList (lst_is hl)) (.refl _) ?_ F (fun i B' ys U' => U' = [] ∧ IntsAre ys ((kss.map fun k => (V k).headD 0).take i)) ⟨rfl, .nil⟩ ?_
  · intro i p hp
    rcases List.mem_singleton.mp hp with rfl; exact hit
  intro Iv
  refine ⟨fun _ _ _ _ _ h _ => h, ?_, ?_⟩
  · rintro C D i v Bq m' ys U' s4 E4 hC hi k ⟨rfl, hys⟩ hv F
    walk_at "su"
    refine hts.getE hv ?_; rintro ks tt vt hks rfl hti hin
    obtain ⟨hVk, hVl⟩ := hV ks (List.mem_of_getElem? hks)
    refine ea8_8 hVk ?_; clear hVk; rintro p c r row a cs v0 o rfl h2 h3 h4 h5 h6 h7 h8
    refine ea3_1 (ints3 hin) ?_; rintro u1 u2 u3 rfl
    walk_at "lift"
    replace hti := hti.keeps k; replace gr := gr.mono k
    have k5 := k; clear k
    walk_at "go"
    refine getS gd F.kp (R.less (by decide)) gr h2 h3 (F.old h4) h5 (h6.mono (k1.trans k5)) h7 ?_
    intro s6 B6 l6 vs6 k R1 hl6 hi6; replace F := F.did R1; walk_at "lift"
    rw [h8] at hi6
    obtain ⟨z, zs, hz2⟩ : ∃ z zs, V [(p : Int), (c : Int), (r : Int)] = z :: zs := by
      cases q : V [(p : Int), (c : Int), (r : Int)] with
      | nil => rw [q] at hVl; exact absurd hVl (by decide)
      | cons z zs => exact ⟨z, zs, rfl⟩
    obtain ⟨tz, hz3⟩ := intsGet hi6 (i := 0) (n := z) (by rw [hz2]; rfl)
    walk_at "go"
    refine gLst (hl6.keeps F.kp) (by lia) (by lia) (k := 0) hz3 ?_
    have e1 : (kss.map fun k => (V k).headD 0).take (i + 1) = (kss.map fun k => (V k).headD 0).take i ++ [z] := by
      rw [List.take_add_one, List.getElem?_map, hks]
      simp [hz2]
    refine ⟨by have := hys.length; simp at this; lia, B6, _, [], k5.trans k, F, rfl, ?_⟩
    rw [e1]
    exact intsApp hys (.cons _ _ .nil)
  · rintro Bq ys U' k ⟨rfl, hys⟩ D s5 hD F
    walk_at "su"
    have e1 : (kss.map fun k => (V k).headD 0).take vs.length = kss.map fun k => (V k).headD 0 := List.take_of_length_le (by rw [List.length_map, hts.length]; exact Nat.le_refl _)
    rw [e1] at hys
    walk_at "lift"
    have k5 := k; clear k
    walk_at "go"
    refine roundedMeanS gd F.kp (R.less (by decide)) F.top hys (by simpa using hne) (by simpa using hz) ?_
    intro s6 t6 R1; replace F := F.did R1
    walk_at "go"
    refine nLstO F ?_
    clear F; intro s7 D7 hD7 F; walk_at "su"
    walk_at "go"
    refine nLstO F ?_
    clear F; intro s8 D8 hD8 F; walk_at "su"
    walk_at "go"
    refine lMul F F.top (by lia) (by lia) ?_
    clear F; intro s9 D9 hD9 F
    refine lAdd F (show Is _ D7 (LstP [.int (rmF (List.map (fun k => (V k).headD 0) kss).sum ↑(List.map (fun k => (V k).headD 0) kss).length) t6]) by walk_at "at") F.top (by simp) ?_
    clear F; intro s10 D10 hD10 F
    refine Fs.frz F hD10 ?_; intro B11 k11 hi11 F11
    refine h _ _ _ _ ((k1.trans k5).trans k11) F11.rs hi11 ?_
    have e2 : (List.map (fun k => (V k).headD 0) kss).length = kss.length := List.length_map _
    rw [e2]
    exact .cons _ _ (.cons _ _ (.cons _ _ (.cons _ _ .nil)))
end
section
open PySem PySem.W PySem.Calls PyProof.Rows PySem.Spec
noncomputable def gallop' : Bool → Keyed → Array Keyed → Nat → Nat → Nat → StateT SortSt Sem (Option Nat) := sortPriv% PySem.Builtin.gallop
section
variable {prog : Program} {w : World} {A : Around} {E : Value → Shared → Prop} {s : Shared} {P : Keyed → Prop}

noncomputable def LtOk (prog : Program) (w : World) (A : Around) (E : Value → Shared → Prop) (s : Shared) (P : Keyed → Prop) : Prop :=
  ∀ (x y : Keyed) (st : SortSt) (Q : Option Bool → SortSt → Prop), P x → P y → kindOf st = tuples' true → (∀ b, Q (some b) st) → wpS (model prog w) A E s (lt' x y) Q st

noncomputable def Has (P : Keyed → Prop) (arr : Array Keyed) (n : Nat) : Prop := ∀ i, i < n → ∃ p, arr[i]? = some p ∧ P p

theorem wpS_gallop {st : SortSt} {left : Bool} {key : Keyed} {arr : Array Keyed} {base n hint : Nat} {Q : Option Nat → SortSt → Prop} (hL : LtOk prog w A E s P) (hk : kindOf st = tuples' true)
    (hP : P key) (ha : Has P arr (base + n)) (hh : hint < n) (h : ∀ k, k ≤ n → Q (some k) st) : wpS (model prog w) A E s (gallop' left key arr base n hint) Q st := by
  have hb : ∀ (i : Nat) (R : Option Bool → SortSt → Prop), i < n → (∀ b, R (some b) st) → wpS (model prog w) A E s
      (do
        let x ← elem' arr (base + i)
        if left = true then lt' x key
        else do
          let r ← lt' key x
          pure (Option.map (fun x => !x) r)) R st := by
    intro i R hi hR
    obtain ⟨p, hp, hPp⟩ := ha (base + i) (by lia)
    rw [elem'_eq, hp]
    refine wpS_bind (wpS_pure ?_)
    cases left
    · rw [if_neg (by decide)]
      exact wpS_bind (hL _ _ _ _ hP hPp hk fun b => wpS_pure (hR _))
    · rw [if_pos rfl]
      exact hL _ _ _ _ hPp hP hk hR
  refine wpS_bind ?_
  refine hb _ _ hh fun b => ?_
  cases b
  · refine wpS_bind (wpS_mono (Q := fun c st' => st' = st ∧ ∃ l o, c = (none, l, o)) (wpS_forRange (I := fun _ c st' => st' = st ∧ ∃ l o, c = (none, l, o)) ?_ (fun _ _ hh => hh) ⟨rfl, 0, 1, rfl⟩) ?_)
    · rintro x c st' _ _ ⟨rfl, l, o, rfl⟩
      dsimp only
      by_cases hge : o ≥ hint + 1
      · rw [if_pos hge]
        exact wpS_pure ⟨rfl, _, _, rfl⟩
      · rw [if_neg hge]
        refine wpS_bind (hb _ _ (by lia) fun b => ?_)
        cases b <;> exact wpS_pure ⟨rfl, _, _, rfl⟩
    rintro c st' ⟨rfl, l, o, rfl⟩
    refine wpS_bind (wpS_forRange (I := fun _ c st'' => st'' = st' ∧ ∃ l h, c = (none, l, h) ∧ h ≤ n) ?_ ?_ ⟨rfl, _, _, rfl, by dsimp only; lia⟩)
    · rintro x c st'' _ _ ⟨rfl, l, hh', rfl, hle⟩
      dsimp only
      by_cases hge : l ≥ hh'
      · rw [if_pos hge]
        exact wpS_pure (wpS_pure (h _ hle))
      · rw [if_neg hge]
        refine wpS_bind (hb _ _ (by lia) fun b => ?_)
        cases b
        · exact wpS_pure ⟨rfl, _, _, rfl, by lia⟩
        · exact wpS_pure ⟨rfl, _, _, rfl, hle⟩
    · rintro c st'' ⟨rfl, l, hh', rfl, hle⟩
      exact wpS_pure (h _ hle)
  · refine wpS_bind (wpS_mono (Q := fun c st' => st' = st ∧ ∃ l o, c = (none, l, o)) (wpS_forRange (I := fun _ c st' => st' = st ∧ ∃ l o, c = (none, l, o)) ?_ (fun _ _ hh => hh) ⟨rfl, 0, 1, rfl⟩) ?_)
    · rintro x c st' _ _ ⟨rfl, l, o, rfl⟩
      dsimp only
      by_cases hge : o ≥ n - hint
      · rw [if_pos hge]
        exact wpS_pure ⟨rfl, _, _, rfl⟩
      · rw [if_neg hge]
        refine wpS_bind (hb _ _ (by lia) fun b => ?_)
        cases b <;> exact wpS_pure ⟨rfl, _, _, rfl⟩
    rintro c st' ⟨rfl, l, o, rfl⟩
    refine wpS_bind (wpS_forRange (I := fun _ c st'' => st'' = st' ∧ ∃ l h, c = (none, l, h) ∧ h ≤ n) ?_ ?_ ⟨rfl, _, _, rfl, by dsimp only; lia⟩)
    · rintro x c st'' _ _ ⟨rfl, l, hh', rfl, hle⟩
      dsimp only
      by_cases hge : l ≥ hh'
      · rw [if_pos hge]
        exact wpS_pure (wpS_pure (h _ hle))
      · rw [if_neg hge]
        refine wpS_bind (hb _ _ (by lia) fun b => ?_)
        cases b
        · exact wpS_pure ⟨rfl, _, _, rfl, by lia⟩
        · exact wpS_pure ⟨rfl, _, _, rfl, hle⟩
    · rintro c st'' ⟨rfl, l, hh', rfl, hle⟩
      exact wpS_pure (h _ hle)
end
end
section
open PySem PySem.W PySem.Calls PyProof.Rows PySem.Spec
noncomputable def mergeLo' : Array Keyed → Array Keyed → StateT SortSt Sem (Array Keyed) := sortPriv% PySem.Builtin.mergeLo
noncomputable def mergeHi' : Array Keyed → Array Keyed → StateT SortSt Sem (Array Keyed) := sortPriv% PySem.Builtin.mergeHi
noncomputable def mergeAt' : Nat → StateT SortSt Sem Bool := sortPriv% PySem.Builtin.mergeAt

noncomputable def Pm (out a : Array Keyed) (ia : Nat) (b : Array Keyed) (ib : Nat) : Prop := out.toList.Perm (a.toList.take ia ++ b.toList.take ib)
theorem take_ex (a : Array Keyed) (i k : Nat) : a.toList.take (i + k) = a.toList.take i ++ (a.extract i (i + k)).toList := by
  rw [Array.toList_extract, List.extract, show i + k - i = k by lia, List.take_add]
theorem ex_all (a : Array Keyed) (i : Nat) : a.toList.take i ++ (a.extract i a.size).toList = a.toList := by
  rw [Array.toList_extract, List.extract, show a.size - i = a.toList.length - i by simp, ← List.length_drop, List.take_length, List.take_append_drop]
theorem ex_one {a : Array Keyed} {i : Nat} {x : Keyed} (h : a[i]? = some x) : (a.extract i (i + 1)).toList = [x] := by
  have h1 : a.toList[i]? = some x := by simpa using h
  rw [Array.toList_extract, List.extract, show i + 1 - i = 1 by lia]
  obtain ⟨hl, hx⟩ := List.getElem?_eq_some_iff.mp h1
  rw [List.drop_eq_getElem_cons hl, hx]
  rfl
theorem Pm.xa {out a b : Array Keyed} {ia ib : Nat} (h : Pm out a ia b ib) (k : Nat) : Pm (out ++ a.extract ia (ia + k)) a (ia + k) b ib := by
  unfold Pm at *
  rw [take_ex, Array.toList_append]
  refine (h.append_right _).trans ?_
  rw [List.append_assoc, List.append_assoc]
  exact (List.perm_append_comm).append_left _
theorem Pm.xb {out a b : Array Keyed} {ia ib : Nat} (h : Pm out a ia b ib) (k : Nat) : Pm (out ++ b.extract ib (ib + k)) a ia b (ib + k) := by
  unfold Pm at *
  rw [take_ex, Array.toList_append, ← List.append_assoc]
  exact h.append_right _
theorem Pm.pa {out a b : Array Keyed} {ia ib : Nat} {x : Keyed} (h : Pm out a ia b ib) (hx : a[ia]? = some x) : Pm (out.push x) a (ia + 1) b ib := by
  have := h.xa 1
  unfold Pm at *
  rw [Array.toList_append, ex_one hx] at this
  rw [Array.toList_push]; exact this
theorem Pm.pb {out a b : Array Keyed} {ia ib : Nat} {x : Keyed} (h : Pm out a ia b ib) (hx : b[ib]? = some x) : Pm (out.push x) a ia b (ib + 1) := by
  have := h.xb 1
  unfold Pm at *
  rw [Array.toList_append, ex_one hx] at this
  rw [Array.toList_push]; exact this
theorem Pm.done {out a b : Array Keyed} {ia ib : Nat} (h : Pm out a ia b ib) : (out ++ a.extract ia a.size ++ b.extract ib b.size).toList.Perm (a.toList ++ b.toList) := by
  rw [Array.toList_append, Array.toList_append, ← ex_all a ia]
  conv => rhs; rw [← ex_all b ib]
  unfold Pm at h
  refine ((h.append_right _).append_right _).trans ?_
  simp only [List.append_assoc]
  refine List.Perm.append_left _ ?_
  rw [← List.append_assoc, ← List.append_assoc]
  exact List.perm_append_comm.append_right _
theorem Pm.done2 {out a b : Array Keyed} {ia ib : Nat} (h : Pm out a ia b ib) : (out ++ b.extract ib b.size ++ a.extract ia a.size).toList.Perm (a.toList ++ b.toList) := by
  refine List.Perm.trans ?_ h.done
  simp only [Array.toList_append, List.append_assoc]
  exact List.perm_append_comm.append_left _
theorem Pm.size {out a b : Array Keyed} {ia ib : Nat} (h : Pm out a ia b ib) (ha : ia ≤ a.size) (hb : ib ≤ b.size) : out.size = ia + ib := by
  have := List.Perm.length_eq h
  simp only [Array.length_toList, List.length_append, List.length_take] at this
  lia

/-- all but the gallop -/
structure Same (st st' : SortSt) : Prop where
  k : kindOf st' = kindOf st
  a : arrOf st' = arrOf st
  p : pendingOf st' = pendingOf st
  f : failedOf st' = failedOf st

section
variable {prog : Program} {w : World} {A : Around} {E : Value → Shared → Prop} {s : Shared} {P : Keyed → Prop}
theorem wpS_elem {st : SortSt} {arr : Array Keyed} {i : Nat} {Q : Keyed → SortSt → Prop} (ha : Has P arr arr.size) (hi : i < arr.size) (h : ∀ p, arr[i]? = some p → P p → Q p st) :
    wpS (model prog w) A E s (elem' arr i) Q st := by
  obtain ⟨p, hp, hPp⟩ := ha i hi
  rw [elem'_eq, hp]
  exact wpS_pure (h p hp hPp)

noncomputable def setG' : Nat → StateT SortSt Sem Unit := sortPriv% PySem.Builtin.setMinGallop
theorem wpS_setG {st st' : SortSt} {g : Nat} {Q : Unit → SortSt → Prop} (hS : Same st st') (h : ∀ st'', Same st st'' → Q () st'') : wpS (model prog w) A E s (setG' g) Q st' :=
  wpS_modify (h _ ⟨hS.k, hS.a, hS.p, hS.f⟩)

/-- merge at work: what is out, and how far the two inputs are read -/
structure MI (a b out : Array Keyed) (ia ib : Nat) : Prop where
  pm : Pm out a ia b ib
  la : ia + 1 < a.size
  lb : ib < b.size
theorem MI.size {a b out : Array Keyed} {ia ib : Nat} (h : MI a b out ia ib) : out.size = ia + ib := h.pm.size (by have := h.la; lia) (by have := h.lb; lia)

theorem wpS_ite {σ α : Type} {M : Model} {c : Prop} [Decidable c] {x y : StateT σ Sem α} {Q : α → σ → Prop} {st : σ} (h1 : c → wpS M A E s x Q st) (h2 : ¬ c → wpS M A E s y Q st) : wpS M A E s (if c then x else y) Q st := by
  split
  · exact h1 ‹_›
  · exact h2 ‹_›
theorem wpS_same {σ α : Type} {M : Model} {c : Prop} {_ : Decidable c} {F : Nat → StateT σ Sem α} {y : Nat} {Q : α → σ → Prop} {st : σ} (h : ∀ z, wpS M A E s (F z) Q st) : ∀ x : Nat, wpS M A E s (if c then F x else F y) Q st := by
  intro x
  split
  · exact h _
  · exact h _
/-- two roads that go on alike -/
theorem wpS_tail2 {σ α : Type} {M : Model} {c : Prop} {c1 c2 : Array Keyed → Nat → Prop} {_ : Decidable c} {_ : ∀ o i, Decidable (c1 o i)} {_ : ∀ o i, Decidable (c2 o i)} {F r1 r2 : Array Keyed → Nat → StateT σ Sem α} {o0 : Array Keyed} {i0 : Nat} {Q : α → σ → Prop} {st : σ} {P1 : Array Keyed → Nat → Prop}
    (I : Array Keyed → Nat → Prop) (hT : ∀ o i, I o i → wpS M A E s (F o i) Q st) (h1 : ∀ o i, P1 o i → c1 o i → wpS M A E s (r1 o i) Q st) (h2 : ∀ o i, P1 o i → ¬c1 o i → c2 o i → wpS M A E s (r2 o i) Q st) (h3 : ∀ o i, P1 o i → ¬c1 o i → ¬c2 o i → I o i) (h4 : I o0 i0) :
    ∀ (o1 : Array Keyed) (i1 : Nat), P1 o1 i1 → wpS M A E s (if c then if c1 o1 i1 then r1 o1 i1 else if c2 o1 i1 then r2 o1 i1 else F o1 i1 else F o0 i0) Q st := by
  intro o1 i1 h
  split
  · split
    · exact h1 _ _ h ‹_›
    · split
      · exact h2 _ _ h ‹_› ‹_›
      · exact hT _ _ (h3 _ _ h ‹_› ‹_›)
  · exact hT _ _ h4
theorem wpS_tail1 {σ α : Type} {M : Model} {c : Prop} {c1 : Array Keyed → Nat → Prop} {_ : Decidable c} {_ : ∀ o i, Decidable (c1 o i)} {F r1 : Array Keyed → Nat → StateT σ Sem α} {o0 : Array Keyed} {i0 : Nat} {Q : α → σ → Prop} {st : σ} {P1 : Array Keyed → Nat → Prop}
    (I : Array Keyed → Nat → Prop) (hT : ∀ o i, I o i → wpS M A E s (F o i) Q st) (h1 : ∀ o i, P1 o i → c1 o i → wpS M A E s (r1 o i) Q st) (h3 : ∀ o i, P1 o i → ¬c1 o i → I o i) (h4 : I o0 i0) :
    ∀ (o1 : Array Keyed) (i1 : Nat), P1 o1 i1 → wpS M A E s (if c then if c1 o1 i1 then r1 o1 i1 else F o1 i1 else F o0 i0) Q st := by
  intro o1 i1 h
  split
  · split
    · exact h1 _ _ h ‹_›
    · exact hT _ _ (h3 _ _ h ‹_›)
  · exact hT _ _ h4
/-- the continuation is named -/
theorem wpS_name {σ α : Type} {M : Model} {x : StateT σ Sem α} {Q : α → σ → Prop} {st : σ} (h : let Q' := Q; wpS M A E s x Q' st) : wpS M A E s x Q st := h
/-! small steps, each once -/
theorem lt_b {i n : Nat} (h : i < n) (e : ¬ (i + 1 == n) = true) : i + 1 < n := Nat.lt_of_le_of_ne h fun q => e (beq_iff_eq.mpr q)
theorem sz1 {x y : Nat} {o : Array Keyed} {k : Keyed} (h : x + y ≤ o.size) : x + 1 ≤ (o.push k).size := by rw [Array.size_push]; exact Nat.succ_le_succ (Nat.le_trans (Nat.le_add_right _ _) h)
theorem sz2 {x y : Nat} {o : Array Keyed} {k : Keyed} (h : x + y ≤ o.size) : x + (y + 1) ≤ (o.push k).size := by rw [Array.size_push]; exact Nat.succ_le_succ h
theorem sz3 {x : Nat} {o o' : Array Keyed} {k : Keyed} (h : x ≤ o.size) (g : o.size ≤ o'.size) : x ≤ (o'.push k).size := by rw [Array.size_push]; exact Nat.le_succ_of_le (Nat.le_trans h g)
theorem sz4 {x : Nat} {o o' : Array Keyed} (h : x ≤ o.size) : x ≤ (o ++ o').size := by rw [Array.size_append]; exact Nat.le_trans h (Nat.le_add_right _ _)
theorem add_le {i k n : Nat} (h : k ≤ n - i) (g : i < n) : i + k ≤ n := Nat.add_le_of_le_sub' (Nat.le_of_lt g) h
theorem Has.to {P : Keyed → Prop} {a : Array Keyed} {i : Nat} (h : Has P a a.size) (g : i ≤ a.size) : Has P a (i + (a.size - i)) := (Nat.add_sub_of_le g).symm ▸ h
theorem Pm.one {a b : Array Keyed} {x : Keyed} (h : b[0]? = some x) : Pm #[x] a 0 b 1 := by
  have h0 : Pm #[] a 0 b 0 := by unfold Pm; simp
  exact h0.pb h
theorem MI.fin {a b o : Array Keyed} {i j x : Nat} (h : MI a b o i j) (hx : x ≤ o.size) (hn : a.size + b.size ≤ x) {C : Prop} : C :=
  absurd (Nat.le_trans (Nat.le_trans hn hx) (Nat.le_of_eq h.size)) (Nat.not_le_of_lt (Nat.add_lt_add (Nat.lt_of_succ_lt h.la) h.lb))
theorem one_max {n m : Nat} (h : 0 < n) : 1 ≤ max 0 (n + m) := Nat.le_trans (Nat.le_trans h (Nat.le_add_right _ _)) (Nat.le_max_right _ _)
theorem tail_a {i n : Nat} (h : i ≤ n) (e' : ¬ (i + 1 == n) = true) (e : ¬ (i == n) = true) : i + 1 < n := by
  have e1 : i < n := Nat.lt_of_le_of_ne h fun q => e (beq_iff_eq.mpr q)
  exact lt_b e1 e'
theorem tail_b {i n : Nat} (h : i ≤ n) (e : ¬ (i == n) = true) : i < n := Nat.lt_of_le_of_ne h fun q => e (beq_iff_eq.mpr q)
theorem wpS_mergeLo {st : SortSt} {a b : Array Keyed} {Q : Array Keyed → SortSt → Prop} (hL : LtOk prog w A E s P) (hk : kindOf st = tuples' true)
    (ha : Has P a a.size) (hb : Has P b b.size) (ha0 : 0 < a.size) (hb0 : 0 < b.size) (h : ∀ out st', Same st st' → out.toList.Perm (a.toList ++ b.toList) → Q out st') :
    wpS (model prog w) A E s (mergeLo' a b) Q st := by
  refine wpS_bind (wpS_lift (wpAny_rule ⟨rfl, ?_⟩))
  refine wpS_bind ?_
  refine wpS_elem hb hb0 fun x0 hx0 hP0 => ?_
  have hp0 : Pm #[x0] a 0 b 1 := .one hx0
  have hS0 : Same st st := ⟨rfl, rfl, rfl, rfl⟩
  refine wpS_ite (fun _ => wpS_pure (h _ _ hS0 hp0.done)) fun (e1 : ¬ (1 == b.size) = true) => wpS_ite (fun _ => wpS_pure (h _ _ hS0 hp0.done2)) fun (e2 : ¬ (0 + 1 == a.size) = true) => ?_
  refine wpS_bind (wpS_get ?_)
  refine wpS_bind (wpS_mono (Q := fun c st' => Same st st' ∧ ∃ r o i j g, c = (some r, o, i, j, g) ∧ r.toList.Perm (a.toList ++ b.toList))
    (wpS_forRange (I := fun x c st' => Same st st' ∧ ∃ o i j g, c = (none, o, i, j, g) ∧ MI a b o i j ∧ x ≤ o.size) ?step ?fin ⟨hS0, exI4 #[x0] 0 1 _ ⟨rfl, ⟨hp0, lt_b ha0 e2, lt_b hb0 e1⟩, Nat.zero_le _⟩⟩) ?post)
  case post =>
    rintro c st' ⟨hS, hE⟩
    refine ea5_2 hE ?_; clear hE
    rintro r o i j g rfl hr
    exact wpS_pure (h _ _ hS hr)
  case fin =>
    rintro c st' ⟨hS, hE⟩
    refine ea4_3 hE ?_; clear hE
    rintro o i j g rfl hM hx
    exact hM.fin hx (Nat.le_max_right _ _)
  case step =>
    rintro x c st' _ _ ⟨hS, hE⟩
    refine ea4_3 hE ?_; clear hE
    rintro o i j g rfl hM hx
    dsimp -zeta only
    refine wpS_bind (wpS_mono (Q := fun c st'' => st'' = st' ∧ ((∃ r o i j p q, c = (some r, o, i, j, p, q) ∧ r.toList.Perm (a.toList ++ b.toList)) ∨ ∃ o' i j p q, c = (none, o', i, j, p, q) ∧ MI a b o' i j ∧ x + 1 ≤ o'.size))
      (wpS_forRange (I := fun y c st'' => st'' = st' ∧ ∃ o' i j p q, c = (none, o', i, j, p, q) ∧ MI a b o' i j ∧ x + y ≤ o'.size) ?step1 ?fin1 ⟨rfl, exI5 o i j 0 0 ⟨rfl, hM, hx⟩⟩) ?post1)
    case fin1 =>
      rintro c st'' ⟨rfl, hE⟩
      refine ea5_3 hE ?_; clear hE
      rintro o' i j p q rfl hM' hx'
      exact ⟨rfl, .inr (exI5 _ _ _ _ _ ⟨rfl, hM', Nat.le_trans (Nat.add_le_add_left (one_max ha0) x) hx'⟩)⟩
    case step1 =>
      rintro y c st'' _ _ ⟨rfl, hE⟩
      refine ea5_3 hE ?_; clear hE
      rintro o' i j p q rfl ⟨hp, hla, hlb⟩ hx'
      dsimp -zeta only
      refine wpS_bind (wpS_elem hb hlb fun xb hxb hPb => ?_)
      refine wpS_bind (wpS_elem ha (i := i) (Nat.lt_of_succ_lt hla) fun xa hxa hPa => ?_)
      refine wpS_bind (hL _ _ _ _ hPb hPa (hS.k.trans hk) fun bw => ?_)
      cases bw
      · refine wpS_ite (fun e => nomatch e) fun _ => ?_
        refine wpS_bind (wpS_elem ha (i := i) (Nat.lt_of_succ_lt hla) fun xa hxa hPa => ?_)
        have hp' := hp.pa hxa
        refine wpS_ite (fun _ => wpS_pure ⟨rfl, .inl (exI6 _ _ _ _ _ _ ⟨rfl, hp'.done2⟩)⟩) fun e => ?_
        have hM' := MI.mk hp' (lt_b hla e) hlb
        refine wpS_ite (fun _ => wpS_pure ⟨rfl, .inr (exI5 _ _ _ _ _ ⟨rfl, hM', sz1 hx'⟩)⟩) fun _ => wpS_pure ⟨rfl, exI5 _ _ _ _ _ ⟨rfl, hM', sz2 hx'⟩⟩
      · refine wpS_ite (fun _ => ?_) fun e => absurd rfl e
        refine wpS_bind (wpS_elem hb hlb fun xb hxb hPb => ?_)
        have hp' := hp.pb hxb
        refine wpS_ite (fun _ => wpS_pure ⟨rfl, .inl (exI6 _ _ _ _ _ _ ⟨rfl, hp'.done⟩)⟩) fun e => ?_
        have hM' := MI.mk hp' hla (lt_b hlb e)
        refine wpS_ite (fun _ => wpS_pure ⟨rfl, .inr (exI5 _ _ _ _ _ ⟨rfl, hM', sz1 hx'⟩)⟩) fun _ => wpS_pure ⟨rfl, exI5 _ _ _ _ _ ⟨rfl, hM', sz2 hx'⟩⟩
    case post1 =>
      rintro c st'' ⟨rfl, hE | hE⟩
      · refine ea6_2 hE ?_; clear hE
        rintro r o' i' j' p q rfl hr
        exact wpS_pure ⟨hS, exI5 _ _ _ _ _ ⟨rfl, hr⟩⟩
      refine ea5_3 hE ?_; clear hE
      rintro o' i' j' p q rfl hM' hx'
      dsimp -zeta only
      refine wpS_bind (wpS_lift (wpAny_rule ⟨rfl, ?_⟩))
      refine wpS_bind (wpS_mono (Q := fun c st'' => Same st st'' ∧ ((∃ r o i j g p q, c = (some r, o, i, j, g, p, q) ∧ r.toList.Perm (a.toList ++ b.toList)) ∨ ∃ o' i j g p q, c = (none, o', i, j, g, p, q) ∧ MI a b o' i j ∧ x + 1 ≤ o'.size))
        (wpS_forRange (I := fun _ c st'' => Same st st'' ∧ ∃ o' i j g p q, c = (none, o', i, j, g, p, q) ∧ MI a b o' i j ∧ x + 1 ≤ o'.size) ?step2 (fun _ _ h => ⟨h.1, .inr h.2⟩) ⟨hS, exI6 o' i' j' _ p q ⟨rfl, hM', hx'⟩⟩) ?post2)
      case post2 =>
        rintro c st'' ⟨hS', hE | hE⟩
        · refine ea7_2 hE ?_; clear hE
          rintro r o' i' j' g' p q rfl hr
          exact wpS_pure ⟨hS', exI5 _ _ _ _ _ ⟨rfl, hr⟩⟩
        refine ea6_3 hE ?_; clear hE
        rintro o' i' j' g' p q rfl hM' hx'
        refine wpS_bind (wpS_setG hS' fun st3 hS3 => ?_)
        exact wpS_pure ⟨hS3, exI4 _ _ _ _ ⟨rfl, hM', hx'⟩⟩
      case step2 =>
        clear hS hM hM' hx'
        rintro y c st'' _ _ ⟨hS, hE⟩
        refine ea6_3 hE ?_; clear hE
        rintro o' i j g p q rfl ⟨hp, hla, hlb⟩ hx'
        dsimp only
        refine wpS_name ?_
        intro Qn
        generalize g - 1 = g1
        revert g1
        refine wpS_same (y := g) fun z => ?_
        refine wpS_bind (wpS_setG hS fun st3 hS3 => ?_)
        refine wpS_bind (wpS_elem hb hlb fun xb hxb hPb => ?_)
        refine wpS_bind (wpS_gallop hL (hS3.k.trans hk) hPb (ha.to (Nat.le_of_lt (Nat.lt_of_succ_lt hla))) (Nat.sub_pos_of_lt (Nat.lt_of_succ_lt hla)) fun k (hkn : k ≤ a.size - i) => ?_)
        try dsimp only
        have hf : Pm (o' ++ a.extract i (i + k)) a (i + k) b j ∧ x + 1 ≤ (o' ++ a.extract i (i + k)).size ∧ i + k ≤ a.size := ⟨hp.xa k, sz4 hx', add_le hkn (Nat.lt_of_succ_lt hla)⟩
        revert hf
        generalize o' ++ a.extract i (i + k) = o1
        generalize i + k = i1
        revert o1 i1
        refine wpS_tail2 (fun o ii => Pm o a ii b j ∧ ii + 1 < a.size ∧ x + 1 ≤ o.size) ?_ (fun o1 i1 h1 _ => wpS_pure ⟨hS3, .inl (exI7 _ _ _ _ _ _ _ ⟨rfl, h1.1.done2⟩)⟩) (fun o1 i1 h1 _ _ => wpS_pure ⟨hS3, .inl (exI7 _ _ _ _ _ _ _ ⟨rfl, h1.1.done⟩)⟩)
          (fun o1 i1 h1 e e' => ⟨h1.1, tail_a h1.2.2 e e', h1.2.1⟩) ⟨hp, hla, hx'⟩
        clear hp hla hx'
        rintro o2 i2 ⟨hp2, hla, hz2⟩
        try dsimp only
        refine wpS_bind (wpS_elem hb hlb fun xb2 hxb2 hPb2 => ?_)
        try dsimp only
        have hp3 := hp2.pb hxb2
        refine wpS_ite (fun _ => wpS_pure ⟨hS3, .inl (exI7 _ _ _ _ _ _ _ ⟨rfl, hp3.done⟩)⟩) fun e => ?_
        have hlb3 : j + 1 < b.size := lt_b hlb e
        refine wpS_bind (wpS_elem ha (i := i2) (Nat.lt_of_succ_lt hla) fun xa hxa hPa => ?_)
        refine wpS_bind (wpS_gallop hL (hS3.k.trans hk) hPa (hb.to (Nat.le_of_lt hlb3)) (Nat.sub_pos_of_lt hlb3) fun k2 (hk2 : k2 ≤ b.size - (j + 1)) => ?_)
        try dsimp only
        have hz3 : x + 1 ≤ (o2.push xb2).size := sz3 hz2 (Nat.le_refl _)
        have hf : Pm (o2.push xb2 ++ b.extract (j + 1) (j + 1 + k2)) a i2 b (j + 1 + k2) ∧ x + 1 ≤ (o2.push xb2 ++ b.extract (j + 1) (j + 1 + k2)).size ∧ j + 1 + k2 ≤ b.size := ⟨hp3.xb k2, sz4 hz3, add_le hk2 hlb3⟩
        revert hf
        generalize o2.push xb2 ++ b.extract (j + 1) (j + 1 + k2) = o4
        generalize j + 1 + k2 = j4
        revert o4 j4
        refine wpS_tail1 (fun o jj => Pm o a i2 b jj ∧ jj < b.size ∧ x + 1 ≤ o.size) ?_ (fun o4 j4 h1 _ => wpS_pure ⟨hS3, .inl (exI7 _ _ _ _ _ _ _ ⟨rfl, h1.1.done⟩)⟩)
          (fun o4 j4 h1 e => ⟨h1.1, tail_b h1.2.2 e, h1.2.1⟩) ⟨hp3, hlb3, hz3⟩
        clear hp3 hz3 hlb3 hp2 hz2
        rintro o5 j5 ⟨hp5, hlb, hz5⟩
        try dsimp only
        refine wpS_bind (wpS_elem ha (i := i2) (Nat.lt_of_succ_lt hla) fun xa2 hxa2 hPa2 => ?_)
        try dsimp only
        have hp6 := hp5.pa hxa2
        refine wpS_ite (fun _ => wpS_pure ⟨hS3, .inl (exI7 _ _ _ _ _ _ _ ⟨rfl, hp6.done2⟩)⟩) fun e => ?_
        have hM6 := MI.mk hp6 (lt_b hla e) hlb
        have hz6 : x + 1 ≤ (o5.push xa2).size := sz3 hz5 (Nat.le_refl _)
        refine wpS_ite (fun _ => wpS_pure ⟨hS3, .inr (exI6 _ _ _ _ _ _ ⟨rfl, hM6, hz6⟩)⟩) fun _ => wpS_pure ⟨hS3, exI6 _ _ _ _ _ _ ⟨rfl, hM6, hz6⟩⟩
end
end
section
open PySem PySem.W PySem.Calls PyProof.Rows PySem.Spec
noncomputable def Pd (out a : Array Keyed) (na : Nat) (b : Array Keyed) (nb : Nat) : Prop := out.toList.Perm (a.toList.drop na ++ b.toList.drop nb)
theorem drop_ex (a : Array Keyed) {i n : Nat} (h : i ≤ n) : a.toList.drop i = (a.extract i n).toList ++ a.toList.drop n := by
  rw [Array.toList_extract, List.extract]
  conv => lhs; rw [← List.take_append_drop (n - i) (a.toList.drop i)]
  rw [List.drop_drop, show i + (n - i) = n by lia]
theorem ex_front (a : Array Keyed) (n : Nat) : (a.extract 0 n).toList ++ a.toList.drop n = a.toList := by
  rw [← drop_ex a (Nat.zero_le n), List.drop_zero]
theorem Pd.xa {out a b : Array Keyed} {i na nb : Nat} (h : Pd out a na b nb) (hi : i ≤ na) : Pd (out ++ (a.extract i na).reverse) a i b nb := by
  unfold Pd at *
  rw [drop_ex a hi, Array.toList_append, Array.toList_reverse]
  refine (h.append_right _).trans ?_
  refine ((List.reverse_perm _).append_left _).trans ?_
  exact List.perm_append_comm.trans (List.Perm.of_eq (List.append_assoc _ _ _).symm)
theorem Pd.xb {out a b : Array Keyed} {i na nb : Nat} (h : Pd out a na b nb) (hi : i ≤ nb) : Pd (out ++ (b.extract i nb).reverse) a na b i := by
  unfold Pd at *
  rw [drop_ex b hi, Array.toList_append, Array.toList_reverse]
  refine (h.append_right _).trans ?_
  refine ((List.reverse_perm _).append_left _).trans ?_
  rw [List.append_assoc]
  exact List.perm_append_comm.append_left _
theorem Pd.pa {out a b : Array Keyed} {na nb : Nat} {x : Keyed} (h : Pd out a (na + 1) b nb) (hx : a[na]? = some x) : Pd (out.push x) a na b nb := by
  have := h.xa (Nat.le_succ na)
  unfold Pd at *
  rw [Array.toList_append, Array.toList_reverse, ex_one hx] at this
  rw [Array.toList_push]; exact this
theorem Pd.pb {out a b : Array Keyed} {na nb : Nat} {x : Keyed} (h : Pd out a na b (nb + 1)) (hx : b[nb]? = some x) : Pd (out.push x) a na b nb := by
  have := h.xb (Nat.le_succ nb)
  unfold Pd at *
  rw [Array.toList_append, Array.toList_reverse, ex_one hx] at this
  rw [Array.toList_push]; exact this
theorem Pd.pa1 {out a b : Array Keyed} {na nb : Nat} {x : Keyed} (h : Pd out a na b nb) (h0 : 0 < na) (hx : a[na - 1]? = some x) : Pd (out.push x) a (na - 1) b nb := by
  obtain ⟨n, rfl⟩ : ∃ n, na = n + 1 := ⟨na - 1, by lia⟩
  exact h.pa hx
theorem Pd.pb1 {out a b : Array Keyed} {na nb : Nat} {x : Keyed} (h : Pd out a na b nb) (h0 : 0 < nb) (hx : b[nb - 1]? = some x) : Pd (out.push x) a na b (nb - 1) := by
  obtain ⟨n, rfl⟩ : ∃ n, nb = n + 1 := ⟨nb - 1, by lia⟩
  exact h.pb hx
theorem Pd.done {out a b : Array Keyed} {na nb : Nat} (h : Pd out a na b nb) : (a.extract 0 na ++ b.extract 0 nb ++ out.reverse).toList.Perm (a.toList ++ b.toList) := by
  rw [Array.toList_append, Array.toList_append, Array.toList_reverse]
  conv => rhs; rw [← ex_front a na, ← ex_front b nb]
  unfold Pd at h
  refine (((List.reverse_perm _).trans h).append_left _).trans ?_
  simp only [List.append_assoc]
  refine List.Perm.append_left _ ?_
  rw [← List.append_assoc, ← List.append_assoc]
  exact List.perm_append_comm.append_right _
theorem Pd.done2 {out a b : Array Keyed} {na nb : Nat} (h : Pd out a na b nb) : (b.extract 0 nb ++ a.extract 0 na ++ out.reverse).toList.Perm (a.toList ++ b.toList) := by
  refine List.Perm.trans ?_ h.done
  simp only [Array.toList_append]
  exact List.perm_append_comm.append_right _
theorem Pd.size {out a b : Array Keyed} {na nb : Nat} (h : Pd out a na b nb) : out.size = (a.size - na) + (b.size - nb) := by
  have := List.Perm.length_eq h
  simp only [Array.length_toList, List.length_append, List.length_drop] at this
  lia

structure MH (a b out : Array Keyed) (na nb : Nat) : Prop where
  pm : Pd out a na b nb
  a0 : 0 < na
  b0 : 1 < nb
  la : na ≤ a.size
  lb : nb ≤ b.size

/-! small steps, each once -/
theorem pr1 {i n : Nat} (h : 0 < i) (g : i ≤ n) : i - 1 < n := Nat.lt_of_lt_of_le (Nat.sub_lt h Nat.one_pos) g
theorem pr2 {i n : Nat} (h : 1 < i) (g : i ≤ n) : i - 1 < n := pr1 (Nat.lt_of_succ_lt h) g
theorem pr3 {i : Nat} (h : 1 < i) (e : ¬ (i - 1 == 1) = true) : 1 < i - 1 := Nat.lt_of_le_of_ne (Nat.sub_pos_of_lt h) fun q => e (beq_iff_eq.mpr q.symm)
theorem pr4 {i : Nat} (e : ¬ (i - 1 == 0) = true) : 0 < i - 1 := Nat.pos_of_ne_zero fun q => e (beq_iff_eq.mpr q)
theorem pr5 {i n : Nat} (g : i ≤ n) : i - 1 ≤ n := Nat.le_trans (Nat.sub_le _ _) g
theorem pr6 {n : Nat} (h : 0 < n) (e : ¬ (n == 1) = true) : 1 < n := Nat.lt_of_le_of_ne h fun q => e (beq_iff_eq.mpr q.symm)
theorem pr7 {n : Nat} (e : ¬ (n == 0) = true) : 0 < n := Nat.pos_of_ne_zero fun q => e (beq_iff_eq.mpr q)
theorem pr8 {n : Nat} (e : ¬ (n == 0) = true) (e' : ¬ (n == 1) = true) : 1 < n := pr6 (pr7 e) e'
theorem pr9 {n : Nat} (h : 1 < n) : n - 1 - 1 < n - 1 := Nat.sub_lt (Nat.sub_pos_of_lt h) Nat.one_pos
theorem pr10 {n k m : Nat} (h : k ≤ n - 1) (g : n ≤ m) : k ≤ m := Nat.le_trans h (pr5 g)
theorem Has.low {P : Keyed → Prop} {a : Array Keyed} {i : Nat} (h : Has P a a.size) (g : i ≤ a.size) : Has P a (0 + i) := fun u hu => h u (Nat.lt_of_lt_of_le hu (Nat.le_trans (Nat.le_of_eq (Nat.zero_add _)) g))
theorem Pd.one {a b : Array Keyed} {x : Keyed} (h0 : 0 < a.size) (h : a[a.size - 1]? = some x) : Pd #[x] a (a.size - 1) b b.size := by
  have h1 : Pd #[] a a.size b b.size := by unfold Pd; simp
  exact h1.pa1 h0 h
theorem MH.fin {a b o : Array Keyed} {i j x : Nat} (h : MH a b o i j) (hx : x ≤ o.size) (hn : a.size + b.size ≤ x) {C : Prop} : C :=
  absurd (Nat.le_trans (Nat.le_trans hn hx) (Nat.le_of_eq h.pm.size)) (Nat.not_le_of_lt (Nat.add_lt_add (Nat.sub_lt (Nat.lt_of_lt_of_le h.a0 h.la) h.a0) (Nat.sub_lt (Nat.lt_of_lt_of_le (Nat.lt_of_succ_lt h.b0) h.lb) (Nat.lt_of_succ_lt h.b0))))
section
variable {prog : Program} {w : World} {A : Around} {E : Value → Shared → Prop} {s : Shared} {P : Keyed → Prop}
theorem wpS_mergeHi {st : SortSt} {a b : Array Keyed} {Q : Array Keyed → SortSt → Prop} (hL : LtOk prog w A E s P) (hk : kindOf st = tuples' true)
    (ha : Has P a a.size) (hb : Has P b b.size) (ha0 : 0 < a.size) (hb0 : 0 < b.size) (h : ∀ out st', Same st st' → out.toList.Perm (a.toList ++ b.toList) → Q out st') :
    wpS (model prog w) A E s (mergeHi' a b) Q st := by
  refine wpS_bind (wpS_lift (wpAny_rule ⟨rfl, ?_⟩))
  refine wpS_bind ?_
  refine wpS_elem (i := a.size - 1) ha (pr1 ha0 (Nat.le_refl _)) fun x0 hx0 hP0 => ?_
  have hp0 : Pd #[x0] a (a.size - 1) b b.size := .one ha0 hx0
  have hS0 : Same st st := ⟨rfl, rfl, rfl, rfl⟩
  refine wpS_ite (fun _ => wpS_pure (h _ _ hS0 hp0.done)) fun (e1 : ¬ (a.size - 1 == 0) = true) => wpS_ite (fun _ => wpS_pure (h _ _ hS0 hp0.done2)) fun (e2 : ¬ (b.size == 1) = true) => ?_
  refine wpS_bind (wpS_get ?_)
  refine wpS_bind (wpS_mono (Q := fun c st' => Same st st' ∧ ∃ r i j o g, c = (some r, i, j, o, g) ∧ r.toList.Perm (a.toList ++ b.toList))
    (wpS_forRange (I := fun x c st' => Same st st' ∧ ∃ i j o g, c = (none, i, j, o, g) ∧ MH a b o i j ∧ x ≤ o.size) ?step ?fin ⟨hS0, exI4 (a.size - 1) b.size #[x0] _ ⟨rfl, ⟨hp0, pr4 e1, pr6 hb0 e2, Nat.sub_le _ _, Nat.le_refl _⟩, Nat.zero_le _⟩⟩) ?post)
  case post =>
    rintro c st' ⟨hS, hE⟩
    refine ea5_2 hE ?_; clear hE
    rintro r i j o g rfl hr
    exact wpS_pure (h _ _ hS hr)
  case fin =>
    rintro c st' ⟨hS, hE⟩
    refine ea4_3 hE ?_; clear hE
    rintro i j o g rfl hM hx
    exact hM.fin hx (Nat.le_max_right _ _)
  case step =>
    rintro x c st' _ _ ⟨hS, hE⟩
    refine ea4_3 hE ?_; clear hE
    rintro i j o g rfl hM hx
    refine wpS_bind (wpS_mono (Q := fun c st'' => st'' = st' ∧ ((∃ r i j o p q, c = (some r, i, j, o, p, q) ∧ r.toList.Perm (a.toList ++ b.toList)) ∨ ∃ i j o' p q, c = (none, i, j, o', p, q) ∧ MH a b o' i j ∧ x + 1 ≤ o'.size))
      (wpS_forRange (I := fun y c st'' => st'' = st' ∧ ∃ i j o' p q, c = (none, i, j, o', p, q) ∧ MH a b o' i j ∧ x + y ≤ o'.size) ?step1 ?fin1 ⟨rfl, exI5 i j o 0 0 ⟨rfl, hM, hx⟩⟩) ?post1)
    case fin1 =>
      rintro c st'' ⟨rfl, hE⟩
      refine ea5_3 hE ?_; clear hE
      rintro i j o' p q rfl hM' hx'
      exact ⟨rfl, .inr (exI5 _ _ _ _ _ ⟨rfl, hM', Nat.le_trans (Nat.add_le_add_left (one_max ha0) x) hx'⟩)⟩
    case step1 =>
      rintro y c st'' _ _ ⟨rfl, hE⟩
      refine ea5_3 hE ?_; clear hE
      rintro i j o' p q rfl ⟨hp, hi0, hj0, hla, hlb⟩ hx'
      refine wpS_bind (wpS_elem (i := j - 1) hb (pr2 hj0 hlb) fun xb hxb hPb => ?_)
      refine wpS_bind (wpS_elem (i := i - 1) ha (pr1 hi0 hla) fun xa hxa hPa => ?_)
      refine wpS_bind (hL _ _ _ _ hPb hPa (hS.k.trans hk) fun bw => ?_)
      cases bw
      · refine wpS_ite (fun e => nomatch e) fun _ => ?_
        refine wpS_bind (wpS_elem (i := j - 1) hb (pr2 hj0 hlb) fun xb hxb hPb => ?_)
        have hp' := hp.pb1 (Nat.lt_of_succ_lt hj0) hxb
        refine wpS_ite (fun _ => wpS_pure ⟨rfl, .inl (exI6 _ _ _ _ _ _ ⟨rfl, hp'.done2⟩)⟩) fun (e : ¬ (j - 1 == 1) = true) => ?_
        have hM' := MH.mk hp' hi0 (pr3 hj0 e) hla (pr5 hlb)
        refine wpS_ite (fun _ => wpS_pure ⟨rfl, .inr (exI5 _ _ _ _ _ ⟨rfl, hM', sz1 hx'⟩)⟩) fun _ => wpS_pure ⟨rfl, exI5 _ _ _ _ _ ⟨rfl, hM', sz2 hx'⟩⟩
      · refine wpS_ite (fun _ => ?_) fun e => absurd rfl e
        refine wpS_bind (wpS_elem (i := i - 1) ha (pr1 hi0 hla) fun xa hxa hPa => ?_)
        have hp' := hp.pa1 hi0 hxa
        refine wpS_ite (fun _ => wpS_pure ⟨rfl, .inl (exI6 _ _ _ _ _ _ ⟨rfl, hp'.done⟩)⟩) fun (e : ¬ (i - 1 == 0) = true) => ?_
        have hM' := MH.mk hp' (pr4 e) hj0 (pr5 hla) hlb
        refine wpS_ite (fun _ => wpS_pure ⟨rfl, .inr (exI5 _ _ _ _ _ ⟨rfl, hM', sz1 hx'⟩)⟩) fun _ => wpS_pure ⟨rfl, exI5 _ _ _ _ _ ⟨rfl, hM', sz2 hx'⟩⟩
    case post1 =>
      rintro c st'' ⟨rfl, hE | hE⟩
      · refine ea6_2 hE ?_; clear hE
        rintro r i' j' o' p q rfl hr
        exact wpS_pure ⟨hS, exI5 _ _ _ _ _ ⟨rfl, hr⟩⟩
      refine ea5_3 hE ?_; clear hE
      rintro i' j' o' p q rfl hM' hx'
      refine wpS_bind (wpS_lift (wpAny_rule ⟨rfl, ?_⟩))
      refine wpS_bind (wpS_mono (Q := fun c st'' => Same st st'' ∧ ((∃ r i j o g p q, c = (some r, i, j, o, g, p, q) ∧ r.toList.Perm (a.toList ++ b.toList)) ∨ ∃ i j o' g p q, c = (none, i, j, o', g, p, q) ∧ MH a b o' i j ∧ x + 1 ≤ o'.size))
        (wpS_forRange (I := fun _ c st'' => Same st st'' ∧ ∃ i j o' g p q, c = (none, i, j, o', g, p, q) ∧ MH a b o' i j ∧ x + 1 ≤ o'.size) ?step2 (fun _ _ h => ⟨h.1, .inr h.2⟩) ⟨hS, exI6 i' j' o' _ p q ⟨rfl, hM', hx'⟩⟩) ?post2)
      case post2 =>
        rintro c st'' ⟨hS', hE | hE⟩
        · refine ea7_2 hE ?_; clear hE
          rintro r i' j' o' g' p q rfl hr
          exact wpS_pure ⟨hS', exI5 _ _ _ _ _ ⟨rfl, hr⟩⟩
        refine ea6_3 hE ?_; clear hE
        rintro i' j' o' g' p q rfl hM' hx'
        refine wpS_bind (wpS_setG hS' fun st3 hS3 => ?_)
        exact wpS_pure ⟨hS3, exI4 _ _ _ _ ⟨rfl, hM', hx'⟩⟩
      case step2 =>
        clear hS hM hM' hx'
        rintro y c st'' _ _ ⟨hS, hE⟩
        refine ea6_3 hE ?_; clear hE
        rintro i j o' g p q rfl ⟨hp, hi0, hj0, hla, hlb⟩ hx'
        dsimp only
        refine wpS_name ?_
        intro Qn
        generalize g - 1 = g1
        revert g1
        refine wpS_same (y := g) fun z => ?_
        refine wpS_bind (wpS_setG hS fun st3 hS3 => ?_)
        refine wpS_bind (wpS_elem (i := j - 1) hb (pr2 hj0 hlb) fun xb hxb hPb => ?_)
        refine wpS_bind (wpS_gallop hL (hS3.k.trans hk) hPb (ha.low hla) (pr1 hi0 (Nat.le_refl _)) fun k (hkn : k ≤ i) => ?_)
        try dsimp only
        have hf : Pd (o' ++ (a.extract k i).reverse) a k b j ∧ x + 1 ≤ (o' ++ (a.extract k i).reverse).size ∧ k ≤ a.size := ⟨hp.xa hkn, sz4 hx', Nat.le_trans hkn hla⟩
        revert hf
        generalize i - k = ac
        generalize o' ++ (a.extract k i).reverse = o1
        clear hkn
        revert k
        revert o1
        refine wpS_tail1 (fun o ii => Pd o a ii b j ∧ 0 < ii ∧ ii ≤ a.size ∧ x + 1 ≤ o.size) ?_ (fun o1 i1 h1 _ => wpS_pure ⟨hS3, .inl (exI7 _ _ _ _ _ _ _ ⟨rfl, h1.1.done⟩)⟩)
          (fun o1 i1 h1 e => ⟨h1.1, pr7 e, h1.2.2, h1.2.1⟩) ⟨hp, hi0, hla, hx'⟩
        clear hp hi0 hla hx'
        rintro o2 i2 hX9; refine anE4 hX9 ?_; clear hX9; intro hp2 hi0 hla hz2
        try dsimp only
        refine wpS_bind (wpS_elem (i := j - 1) hb (pr2 hj0 hlb) fun xb2 hxb2 hPb2 => ?_)
        try dsimp only
        have hp3 := hp2.pb1 (Nat.lt_of_succ_lt hj0) hxb2
        refine wpS_ite (fun _ => wpS_pure ⟨hS3, .inl (exI7 _ _ _ _ _ _ _ ⟨rfl, hp3.done2⟩)⟩) fun e => ?_
        have hj3 : 1 < j - 1 := pr3 hj0 e
        refine wpS_bind (wpS_elem (i := i2 - 1) ha (pr1 hi0 hla) fun xa hxa hPa => ?_)
        refine wpS_bind (wpS_gallop hL (hS3.k.trans hk) hPa (hb.low (pr5 hlb)) (pr9 hj0) fun k2 (hk2 : k2 ≤ j - 1) => ?_)
        try dsimp only
        have hz3 : x + 1 ≤ (o2.push xb2).size := sz3 hz2 (Nat.le_refl _)
        have hf : Pd (o2.push xb2 ++ (b.extract k2 (j - 1)).reverse) a i2 b k2 ∧ x + 1 ≤ (o2.push xb2 ++ (b.extract k2 (j - 1)).reverse).size ∧ k2 ≤ b.size := ⟨hp3.xb hk2, sz4 hz3, pr10 hk2 hlb⟩
        revert hf
        generalize j - 1 - k2 = bc
        generalize o2.push xb2 ++ (b.extract k2 (j - 1)).reverse = o4
        clear hk2
        revert k2
        revert o4
        refine wpS_tail2 (fun o jj => Pd o a i2 b jj ∧ 1 < jj ∧ jj ≤ b.size ∧ x + 1 ≤ o.size) ?_ (fun o4 j4 h1 _ => wpS_pure ⟨hS3, .inl (exI7 _ _ _ _ _ _ _ ⟨rfl, h1.1.done2⟩)⟩) (fun o4 j4 h1 _ _ => wpS_pure ⟨hS3, .inl (exI7 _ _ _ _ _ _ _ ⟨rfl, h1.1.done⟩)⟩)
          (fun o4 j4 h1 e e' => ⟨h1.1, pr8 e' e, h1.2.2, h1.2.1⟩) ⟨hp3, hj3, pr5 hlb, hz3⟩
        clear hp3 hz3 hj3 hp2 hz2
        rintro o5 j5 hX9; refine anE4 hX9 ?_; clear hX9; intro hp5 hj5 hlb5 hz5
        try dsimp only
        refine wpS_bind (wpS_elem (i := i2 - 1) ha (pr1 hi0 hla) fun xa2 hxa2 hPa2 => ?_)
        try dsimp only
        have hp6 := hp5.pa1 hi0 hxa2
        refine wpS_ite (fun _ => wpS_pure ⟨hS3, .inl (exI7 _ _ _ _ _ _ _ ⟨rfl, hp6.done⟩)⟩) fun e => ?_
        have hM6 := MH.mk hp6 (pr4 e) hj5 (pr5 hla) hlb5
        have hz6 : x + 1 ≤ (o5.push xa2).size := sz3 hz5 (Nat.le_refl _)
        refine wpS_ite (fun _ => wpS_pure ⟨hS3, .inr (exI6 _ _ _ _ _ _ ⟨rfl, hM6, hz6⟩)⟩) fun _ => wpS_pure ⟨hS3, exI6 _ _ _ _ _ _ ⟨rfl, hM6, hz6⟩⟩
end
end
section
open PySem PySem.W PySem.Calls PyProof.Rows PySem.Spec
/-- runs that lie one behind the other -/
noncomputable def Cont : List (Nat × Nat × Nat) → Nat → Nat → Prop
  | [], lo, hi => lo = hi
  | x :: r, lo, hi => x.1 = lo ∧ 0 < x.2.1 ∧ Cont r (lo + x.2.1) hi

theorem Cont.le : ∀ {l : List (Nat × Nat × Nat)} {lo hi : Nat}, Cont l lo hi → lo ≤ hi
  | [], _, _, h => Nat.le_of_eq h
  | _ :: _, _, _, h => Nat.le_trans (Nat.le_add_right _ _) h.2.2.le
theorem Cont.push : ∀ {l : List (Nat × Nat × Nat)} {lo hi n p : Nat}, Cont l lo hi → 0 < n → Cont (l ++ [(hi, n, p)]) lo (hi + n)
  | [], _, _, n, p, h, hn => by cases h; exact ⟨rfl, hn, rfl⟩
  | _ :: _, _, _, n, p, h, hn => ⟨h.1, h.2.1, h.2.2.push hn⟩
theorem Cont.pair : ∀ {l : List (Nat × Nat × Nat)} {lo hi i : Nat} {x y : Nat × Nat × Nat}, Cont l lo hi → l[i]? = some x → l[i + 1]? = some y →
    y.1 = x.1 + x.2.1 ∧ 0 < x.2.1 ∧ 0 < y.2.1 ∧ y.1 + y.2.1 ≤ hi ∧ Cont ((l.set i (x.1, x.2.1 + y.2.1, x.2.2)).eraseIdx (i + 1)) lo hi
  | [], _, _, _, _, _, _, h1, _ => by simp at h1
  | a :: [], _, _, i, _, _, _, _, h2 => by simp at h2
  | a :: b :: l, lo, hi, 0, x, y, h, h1, h2 => by
    simp at h1 h2
    subst h1 h2
    obtain ⟨e1, e2, e3, e4, e5⟩ := h
    exact ⟨by lia, e2, e4, by have := e5.le; lia, ⟨e1, show 0 < a.2.1 + b.2.1 by lia, by rw [Nat.add_assoc] at e5; exact e5⟩⟩
  | a :: b :: l, lo, hi, i + 1, x, y, h, h1, h2 => by
    obtain ⟨e1, e2, e3⟩ := h
    have h1' : (b :: l)[i]? = some x := by simpa using h1
    have h2' : (b :: l)[i + 1]? = some y := by simpa using h2
    obtain ⟨r1, r2, r3, r4, r5⟩ := e3.pair h1' h2'
    exact ⟨r1, r2, r3, r4, ⟨e1, e2, r5⟩⟩
theorem Cont.modify : ∀ {l : List (Nat × Nat × Nat)} {lo hi : Nat} (i q : Nat), Cont l lo hi → Cont (l.modify i fun x => (x.1, x.2.1, q)) lo hi
  | [], _, _, i, q, h => by cases i <;> exact h
  | a :: l, lo, hi, 0, q, h => ⟨h.1, h.2.1, h.2.2⟩
  | a :: l, lo, hi, i + 1, q, h => by
    rw [List.modify_succ_cons]
    exact ⟨h.1, h.2.1, h.2.2.modify i q⟩

theorem setMany (sa : Nat) : ∀ (m : List Keyed) (k : Nat) (a : Array Keyed), sa + k + m.length ≤ a.size →
    ((m.zipIdx k).foldl (fun a (x : Keyed × Nat) => a.setIfInBounds (sa + x.2) x.1) a).toList = a.toList.take (sa + k) ++ m ++ a.toList.drop (sa + k + m.length)
  | [], k, a, h => by simp
  | p :: m, k, a, h => by
    have hl : sa + k + (m.length + 1) ≤ a.size := h
    rw [List.zipIdx_cons, List.foldl_cons]
    rw [setMany sa m (k + 1) (a.setIfInBounds (sa + k) p) (by rw [Array.size_setIfInBounds]; lia)]
    rw [Array.toList_setIfInBounds]
    have h1 : (a.toList.set (sa + k) p).take (sa + (k + 1)) = a.toList.take (sa + k) ++ [p] := by
      rw [show sa + (k + 1) = sa + k + 1 by lia, List.take_add_one, List.take_set_of_le (Nat.le_refl _), List.getElem?_set_self (by simp; lia)]
      rfl
    rw [h1, List.drop_set_of_lt (by lia), show sa + (k + 1) + m.length = sa + k + (p :: m).length by simp; lia]
    simp

theorem ex_ex {a : Array Keyed} {i j k : Nat} (h1 : i ≤ j) (h2 : j ≤ k) : (a.extract i j).toList ++ (a.extract j k).toList = (a.extract i k).toList := by
  simp only [Array.toList_extract, List.extract]
  conv => rhs; rw [show k - i = (j - i) + (k - j) by lia, List.take_add, List.drop_drop, show i + (j - i) = j by lia]

theorem perm_put {a : Array Keyed} {m : List Keyed} {i j : Nat} (hij : i ≤ j) (hj : j ≤ a.size) (hm : m.Perm (a.extract i j).toList) :
    (m.zipIdx.foldl (fun a (x : Keyed × Nat) => a.setIfInBounds (i + x.2) x.1) a).Perm a := by
  have hl : m.length = j - i := by rw [hm.length_eq]; simp; lia
  rw [Array.perm_iff_toList_perm, setMany i m 0 a (by lia), hl, show i + 0 = i from rfl, show i + (j - i) = j by lia]
  have : a.toList = a.toList.take i ++ (a.extract i j).toList ++ a.toList.drop j := by
    conv => lhs; rw [← List.take_append_drop j a.toList]
    congr 1
    have := take_ex a i (j - i)
    rwa [show i + (j - i) = j by lia] at this
  conv => rhs; rw [this]
  exact (hm.append_left _).append_right _

structure SP (a₀ : Array Keyed) (hi : Nat) (st : SortSt) : Prop where
  perm : (arrOf st).Perm a₀
  kind : kindOf st = tuples' true
  failed : failedOf st = none
  cont : Cont (pendingOf st).toList 0 hi
theorem SP.size {a₀ : Array Keyed} {hi : Nat} {st : SortSt} (h : SP a₀ hi st) : (arrOf st).size = a₀.size := h.perm.size_eq
theorem SP.has {P : Keyed → Prop} {a₀ : Array Keyed} {hi : Nat} {st : SortSt} (h : SP a₀ hi st) (h0 : ∀ p, p ∈ a₀.toList → P p) : Has P (arrOf st) (arrOf st).size := by
  intro i hi'
  exact ⟨(arrOf st)[i], getElem?_pos _ i hi', h0 _ ((Array.perm_iff_toList_perm.mp h.perm).mem_iff.mp (by simp))⟩
theorem Has.ex {P : Keyed → Prop} {a : Array Keyed} (h : Has P a a.size) (i j : Nat) : Has P (a.extract i j) (a.extract i j).size := by
  intro k hk
  rw [Array.size_extract] at hk
  obtain ⟨p, hp, hPp⟩ := h (i + k) (by lia)
  refine ⟨p, ?_, hPp⟩
  rw [Array.getElem?_extract, if_pos (by lia)]
  exact hp

section
variable {prog : Program} {w : World} {A : Around} {E : Value → Shared → Prop} {s : Shared} {P : Keyed → Prop} {a₀ : Array Keyed}
theorem wpS_set {σ : Type} {M : Model} {Q : PUnit → σ → Prop} {st st' : σ} (h : Q ⟨⟩ st') : wpS M A E s (set st' : StateT σ Sem PUnit) Q st := by
  unfold wpS; rw [StateT.run_set]; exact wpAny_pure ⟨rfl, h⟩

theorem wpS_mergeAt {st : SortSt} {i hi : Nat} {Q : Bool → SortSt → Prop} (hL : LtOk prog w A E s P) (h0 : ∀ p, p ∈ a₀.toList → P p) (hB : SP a₀ hi st) (hhi : hi ≤ a₀.size) (hi1 : i + 1 < (pendingOf st).size)
    (h : ∀ st', SP a₀ hi st' → Q true st') : wpS (model prog w) A E s (mergeAt' i) Q st := by
  refine wpS_bind (wpS_get ?_)
  obtain ⟨x, hx⟩ : ∃ x, (pendingOf st)[i]? = some x := ⟨_, getElem?_pos _ i (by lia)⟩
  obtain ⟨y, hy⟩ : ∃ y, (pendingOf st)[i + 1]? = some y := ⟨_, getElem?_pos _ (i + 1) hi1⟩
  obtain ⟨e1, e2, e3, e4, e5⟩ := hB.cont.pair (i := i) (x := x) (y := y) (by simpa using hx) (by simpa using hy)
  have hsz := hB.size
  have hH := hB.has h0
  obtain ⟨sa, na, pw⟩ := x
  obtain ⟨sb, nb, pw2⟩ := y
  dsimp only at e1 e2 e3 e4 e5
  have e5' : Cont (((pendingOf st).setIfInBounds i (sa, na + nb, pw)).eraseIdxIfInBounds (i + 1)).toList 0 hi := by
    rw [Array.toList_eraseIdxIfInBounds, Array.toList_setIfInBounds]; exact e5
  unfold pendingOf at hx hy
  rw [hx, hy]
  refine wpS_bind (wpS_set ?_)
  have hB1 : SP a₀ hi (SortSt.mk' (kindOf st) (arrOf st) (((pendingOf st).setIfInBounds i (sa, na + nb, pw)).eraseIdxIfInBounds (i + 1)) (gallopOf st) (failedOf st)) :=
    ⟨hB.perm, hB.kind, hB.failed, e5'⟩
  have hA1 : arrOf (SortSt.mk' (kindOf st) (arrOf st) (((pendingOf st).setIfInBounds i (sa, na + nb, pw)).eraseIdxIfInBounds (i + 1)) (gallopOf st) (failedOf st)) = arrOf st := rfl
  generalize hst1 : SortSt.mk' (kindOf st) (arrOf st) (((pendingOf st).setIfInBounds i (sa, na + nb, pw)).eraseIdxIfInBounds (i + 1)) (gallopOf st) (failedOf st) = st1 at hB1 hA1
  refine wpS_bind (wpS_elem hH (i := sb) (show sb < (arrOf st).size by lia) fun xb hxb hPb => ?_)
  show wpS _ _ _ _ _ _ (SortSt.mk' (kindOf st) (arrOf st) (((pendingOf st).setIfInBounds i (sa, na + nb, pw)).eraseIdxIfInBounds (i + 1)) (gallopOf st) (failedOf st))
  rw [hst1]
  refine wpS_bind (wpS_gallop hL hB1.kind hPb (show Has P (arrOf st) (sa + na) from fun u hu => hH u (by lia)) e2 fun k hk => ?_)
  refine wpS_ite (fun _ => wpS_pure (h _ hB1)) fun (hk0 : ¬ (na - k == 0) = true) => ?_
  have hk0 : ¬ na - k = 0 := fun q => hk0 (beq_iff_eq.mpr q)
  refine wpS_bind (wpS_elem hH (i := sa + k + (na - k) - 1) (show sa + k + (na - k) - 1 < (arrOf st).size by lia) fun xa hxa hPa => ?_)
  refine wpS_bind (wpS_gallop hL hB1.kind hPa (show Has P (arrOf st) (sb + nb) from fun u hu => hH u (by lia)) (show nb - 1 < nb by lia) fun nb' hnb' => ?_)
  refine wpS_ite (fun _ => wpS_pure (h _ hB1)) fun (hn0 : ¬ (nb' == 0) = true) => ?_
  have hn0 : ¬ nb' = 0 := fun q => hn0 (beq_iff_eq.mpr q)
  have hxs : ((arrOf st).extract (sa + k) sb).size = na - k := by rw [Array.size_extract]; lia
  have hys : ((arrOf st).extract sb (sb + nb')).size = nb' := by rw [Array.size_extract]; lia
  refine wpS_ite (fun _ => ?_) fun _ => ?_
  · refine wpS_bind (wpS_mergeLo hL hB1.kind (hH.ex _ _) (hH.ex _ _) (by rw [hxs]; lia) (by rw [hys]; lia) fun out st2 hS (hp : out.toList.Perm (((arrOf st).extract (sa + k) sb).toList ++ ((arrOf st).extract sb (sb + nb')).toList)) => ?_)
    refine wpS_bind (wpS_modify ?_)
    refine wpS_bind (wpS_get ?_)
    rw [ex_ex (by lia) (by lia)] at hp
    have hB2 : SP a₀ hi (setArr st2 (out.toList.zipIdx.foldl (fun a (x : Keyed × Nat) => a.setIfInBounds (sa + k + x.2) x.1) (arrOf st2))) :=
      ⟨(by rw [← hA1, ← hS.a] at hp; exact (perm_put (by lia) (by rw [hS.a, hA1]; lia) hp).trans (by rw [hS.a]; exact hB1.perm)), hS.k.trans hB1.kind, hS.f.trans hB1.failed, by show Cont (pendingOf st2).toList 0 hi; rw [hS.p]; exact hB1.cont⟩
    have hf : failedOf st2 = none := hS.f.trans hB1.failed
    refine wpS_pure ?_
    show Q (failedOf st2).isNone _
    rw [hf]
    exact h _ hB2
  · refine wpS_bind (wpS_mergeHi hL hB1.kind (hH.ex _ _) (hH.ex _ _) (by rw [hxs]; lia) (by rw [hys]; lia) fun out st2 hS (hp : out.toList.Perm (((arrOf st).extract (sa + k) sb).toList ++ ((arrOf st).extract sb (sb + nb')).toList)) => ?_)
    refine wpS_bind (wpS_modify ?_)
    refine wpS_bind (wpS_get ?_)
    rw [ex_ex (by lia) (by lia)] at hp
    have hB2 : SP a₀ hi (setArr st2 (out.toList.zipIdx.foldl (fun a (x : Keyed × Nat) => a.setIfInBounds (sa + k + x.2) x.1) (arrOf st2))) :=
      ⟨(by rw [← hA1, ← hS.a] at hp; exact (perm_put (by lia) (by rw [hS.a, hA1]; lia) hp).trans (by rw [hS.a]; exact hB1.perm)), hS.k.trans hB1.kind, hS.f.trans hB1.failed, by show Cont (pendingOf st2).toList 0 hi; rw [hS.p]; exact hB1.cont⟩
    have hf : failedOf st2 = none := hS.f.trans hB1.failed
    refine wpS_pure ?_
    show Q (failedOf st2).isNone _
    rw [hf]
    exact h _ hB2
end
end
section
open PySem PySem.W PySem.Calls PyProof.Rows PySem.Spec
section
variable {prog : Program} {w : World} {A : Around} {E : Value → Shared → Prop} {s : Shared} {P : Keyed → Prop} {a₀ : Array Keyed}
theorem SP.setArr {hi : Nat} {st : SortSt} (h : SP a₀ hi st) {xs : Array Keyed} (hp : xs.Perm (arrOf st)) : SP a₀ hi (setArr st xs) :=
  ⟨hp.trans h.perm, h.kind, h.failed, h.cont⟩
theorem wpS_rev {st : SortSt} {i j hi : Nat} {Q : Unit → SortSt → Prop} (hB : SP a₀ hi st) (h : ∀ st', SP a₀ hi st' → Q () st') : wpS (model prog w) A E s (reverseSlice' i j) Q st :=
  wpS_reverse (h _ (hB.setArr (mirror_perm _ _ _ _)))
theorem wpS_down {st : SortSt} {i j hi : Nat} {Q : Unit → SortSt → Prop} (hB : SP a₀ hi st) (h : ∀ st', SP a₀ hi st' → Q () st') : wpS (model prog w) A E s (moveDown' i j) Q st := by
  rw [moveDown'_eq]; exact wpS_modify (h _ (hB.setArr (bubble_perm _ _ _)))
theorem wpS_cmp {st : SortSt} {i j hi : Nat} {Q : Option Bool → SortSt → Prop} (hL : LtOk prog w A E s P) (h0 : ∀ p, p ∈ a₀.toList → P p) (hB : SP a₀ hi st) (hi' : i < a₀.size) (hj : j < a₀.size)
    (h : ∀ b, Q (some b) st) : wpS (model prog w) A E s (ltAt' i j) Q st := by
  have hH := hB.has h0
  rw [ltAt'_eq]
  refine wpS_bind (wpS_get ?_)
  refine wpS_bind (wpS_elem hH (i := i) (by rw [hB.size]; exact hi') fun x hx hPx => ?_)
  refine wpS_bind (wpS_elem hH (i := j) (by rw [hB.size]; exact hj) fun y hy hPy => ?_)
  exact hL _ _ _ _ hPx hPy hB.kind h

theorem wpS_binS {st : SortSt} {lo n ok hi : Nat} {Q : Bool → SortSt → Prop} (hL : LtOk prog w A E s P) (h0 : ∀ p, p ∈ a₀.toList → P p) (hB : SP a₀ hi st) (hn : lo + n ≤ a₀.size)
    (h : ∀ st', SP a₀ hi st' → Q true st') : wpS (model prog w) A E s (binarySort' lo n ok) Q st := by
  refine wpS_bind (wpS_mono (Q := fun c st' => c = (none, ()) ∧ SP a₀ hi st') (wpS_forRange (I := fun _ c st' => c = (none, ()) ∧ SP a₀ hi st') ?step (fun _ _ hh => hh) ⟨rfl, hB⟩) ?post)
  case post =>
    rintro c st' ⟨rfl, hB'⟩
    exact wpS_pure (h _ hB')
  case step =>
    rintro k c st' hk1 hk2 ⟨rfl, hB'⟩
    refine wpS_bind (wpS_mono (Q := fun c st'' => st'' = st' ∧ ∃ l r, c = (none, l, r)) (wpS_forRange (I := fun _ c st'' => st'' = st' ∧ ∃ l r, c = (none, l, r) ∧ r ≤ k) ?_ ?_ ⟨rfl, 0, k, rfl, Nat.le_refl _⟩) ?_)
    · rintro x c st'' _ _ ⟨rfl, l, r, rfl, hr⟩
      refine wpS_ite (fun _ => wpS_pure ⟨rfl, _, _, rfl⟩) fun (hlt : ¬ l ≥ r) => ?_
      refine wpS_bind (wpS_cmp hL h0 hB' (i := lo + k) (j := lo + (l + r) / 2) (by lia) (by lia) fun b => ?_)
      cases b
      · exact wpS_pure ⟨rfl, _, _, rfl, hr⟩
      · exact wpS_pure ⟨rfl, _, _, rfl, show (l + r) / 2 ≤ k by lia⟩
    · rintro c st'' ⟨rfl, l, r, rfl, hr⟩
      exact ⟨rfl, _, _, rfl⟩
    · rintro c st'' ⟨rfl, l, r, rfl⟩
      refine wpS_bind (wpS_down hB' fun st3 hB3 => ?_)
      exact wpS_pure ⟨rfl, hB3⟩

/-- two roads with one tail -/
theorem wpS_iteT {σ α : Type} {M : Model} {c : Prop} [Decidable c] {x y : StateT σ Sem α} {Q : α → σ → Prop} {st : σ} (I : σ → Prop) (h0 : I st) (hx : (∀ st, I st → wpS M A E s y Q st) → wpS M A E s x Q st) (hy : ∀ st, I st → wpS M A E s y Q st) :
    wpS M A E s (if c then x else y) Q st := by
  split
  · exact hx hy
  · exact hy _ h0
theorem cn1 {lo n nrem N : Nat} (hn : lo + nrem ≤ N) (h : n < nrem) : lo + n < N := Nat.lt_of_lt_of_le (Nat.add_lt_add_left h lo) hn
theorem cn2 {lo n nrem N : Nat} (hn : lo + nrem ≤ N) (h : n < nrem) : lo + n - 1 < N := Nat.lt_of_le_of_lt (Nat.sub_le _ _) (cn1 hn h)
/-- the length of a run, as it is counted -/
noncomputable def CI (a₀ : Array Keyed) (hi : Nat) {β : Type} (f : Nat → β) (x : Nat) (c : β) (st : SortSt) : Prop := SP a₀ hi st ∧ ∃ n, c = f n ∧ 1 ≤ n ∧ n ≤ x
noncomputable def CI2 (a₀ : Array Keyed) (hi : Nat) {β : Type} (f : Nat → Nat → β) (x : Nat) (c : β) (st : SortSt) : Prop := SP a₀ hi st ∧ ∃ n q, c = f n q ∧ 1 ≤ n ∧ n ≤ x
theorem CI.mk {hi x n : Nat} {β : Type} {f : Nat → β} {st : SortSt} (h : SP a₀ hi st) (h1 : 1 ≤ n) (h2 : n ≤ x) : CI a₀ hi f x (f n) st := ⟨h, n, rfl, h1, h2⟩
theorem CI2.mk {hi x n q : Nat} {β : Type} {f : Nat → Nat → β} {st : SortSt} (h : SP a₀ hi st) (h1 : 1 ≤ n) (h2 : n ≤ x) : CI2 a₀ hi f x (f n q) st := ⟨h, n, q, rfl, h1, h2⟩
theorem CI.le {hi x y : Nat} {β : Type} {f : Nat → β} {c : β} {st : SortSt} (h : CI a₀ hi f x c st) (e : x ≤ y) : CI a₀ hi f y c st := ⟨h.1, h.2.imp fun _ q => ⟨q.1, q.2.1, Nat.le_trans q.2.2 e⟩⟩
theorem CI2.le {hi x y : Nat} {β : Type} {f : Nat → Nat → β} {c : β} {st : SortSt} (h : CI2 a₀ hi f x c st) (e : x ≤ y) : CI2 a₀ hi f y c st := ⟨h.1, h.2.imp fun _ q => q.imp fun _ q => ⟨q.1, q.2.1, Nat.le_trans q.2.2 e⟩⟩
theorem cn5 {x y : Nat} (h : x ≤ y) : max x y ≤ y := Nat.max_le.mpr ⟨h, Nat.le_refl _⟩

theorem wpS_cntR {st : SortSt} {lo nrem hi : Nat} {Q : Option Nat → SortSt → Prop} (hL : LtOk prog w A E s P) (h0 : ∀ p, p ∈ a₀.toList → P p) (hB : SP a₀ hi st) (hn : lo + nrem ≤ a₀.size) (h1 : 1 ≤ nrem)
    (h : ∀ n st', SP a₀ hi st' → 1 ≤ n → n ≤ nrem → Q (some n) st') : wpS (model prog w) A E s (countRun' lo nrem) Q st := by
  refine wpS_bind (wpS_mono (Q := CI a₀ hi (fun n => (none, n)) nrem) (wpS_forRange (I := CI a₀ hi fun n => (none, n)) ?_ (fun _ _ q => q.le (cn5 h1)) (.mk hB (Nat.le_refl _) (Nat.le_refl _))) ?_)
  · intro x c st' _ hx hC
    have hB' := hC.1; refine ea1_3 hC.2 ?_; clear hC
    rintro n rfl hn1 hn2
    have hnx := Nat.lt_of_le_of_lt hn2 hx
    refine wpS_bind (wpS_cmp hL h0 hB' (i := lo + n) (j := lo + n - 1) (cn1 hn hnx) (cn2 hn hnx) fun b => ?_)
    cases b
    · exact wpS_pure (.mk hB' (Nat.le_add_left _ _) (Nat.succ_le_succ hn2))
    · exact wpS_pure (.mk hB' hn1 (Nat.le_of_lt hnx))
  intro c st1 hC
  have hB1 := hC.1; refine ea1_3 hC.2 ?_; clear hC
  rintro n rfl hn1 hn2
  refine wpS_ite (fun _ => wpS_pure (h _ _ hB1 hn1 hn2)) fun (hne : ¬ (n == nrem) = true) => ?_
  have hnx : n < nrem := Nat.lt_of_le_of_ne hn2 fun q => hne (beq_iff_eq.mpr q)
  refine wpS_iteT (SP a₀ hi) hB1 (fun hT => ?_) fun st2 hB2 => ?_
  · refine wpS_bind (wpS_cmp hL h0 hB1 (i := lo) (j := lo + n - 1) (cn1 (n := 0) hn h1) (cn2 hn hnx) fun b => ?_)
    refine wpS_ite (fun _ => wpS_pure (h _ _ hB1 hn1 hn2)) fun _ => ?_
    exact wpS_bind (wpS_rev hB1 hT)
  refine wpS_bind (wpS_lift (wpAny_rule ⟨rfl, ?_⟩))
  refine wpS_bind (wpS_mono (Q := CI2 a₀ hi (fun m q => (none, m, q)) nrem) (wpS_forRange (I := CI2 a₀ hi fun m q => (none, m, q)) ?_ (fun _ _ q => q.le (cn5 hnx)) (.mk hB2 (Nat.le_add_left _ _) (Nat.le_refl _))) ?_)
  · intro x c st' _ hx hC
    have hB' := hC.1; refine ea2_3 hC.2 ?_; clear hC
    rintro m q rfl hm1 hm2
    have hmx := Nat.lt_of_le_of_lt hm2 hx
    refine wpS_bind (wpS_cmp hL h0 hB' (i := lo + m) (j := lo + m - 1) (cn1 hn hmx) (cn2 hn hmx) fun b => ?_)
    cases b
    · refine wpS_ite (fun e => nomatch e) fun _ => ?_
      refine wpS_bind (wpS_cmp hL h0 hB' (i := lo + m - 1) (j := lo + m) (cn2 hn hmx) (cn1 hn hmx) fun b => ?_)
      cases b
      · exact wpS_pure (.mk hB' (Nat.le_add_left _ _) (Nat.succ_le_succ hm2))
      · exact wpS_pure (.mk hB' hm1 (Nat.le_of_lt hmx))
    · refine wpS_ite (fun _ => ?_) fun e => absurd rfl e
      refine wpS_ite (fun _ => ?_) fun _ => ?_
      · refine wpS_bind (wpS_rev hB' fun st3 hB3 => ?_)
        exact wpS_pure (.mk hB3 (Nat.le_add_left _ _) (Nat.succ_le_succ hm2))
      · exact wpS_pure (.mk hB' (Nat.le_add_left _ _) (Nat.succ_le_succ hm2))
  intro c st3 hC
  have hB3 := hC.1; refine ea2_3 hC.2 ?_; clear hC
  rintro m q rfl hm1 hm2
  refine wpS_iteT (SP a₀ hi) hB3 (fun hT => wpS_bind (wpS_rev hB3 hT)) fun st4 hB4 => ?_
  refine wpS_bind (wpS_rev hB4 fun st5 hB5 => ?_)
  refine wpS_bind (wpS_mono (Q := CI a₀ hi (fun n => (none, n)) nrem) (wpS_forRange (I := CI a₀ hi fun n => (none, n)) ?_ (fun _ _ q => q.le (cn5 hm2)) (.mk hB5 hm1 (Nat.le_refl _))) ?_)
  · intro x c st' _ hx hC
    have hB' := hC.1; refine ea1_3 hC.2 ?_; clear hC
    rintro n' rfl hn1' hn2'
    have hnx' := Nat.lt_of_le_of_lt hn2' hx
    refine wpS_bind (wpS_cmp hL h0 hB' (i := lo + n') (j := lo + n' - 1) (cn1 hn hnx') (cn2 hn hnx') fun b => ?_)
    cases b
    · exact wpS_pure (.mk hB' (Nat.le_add_left _ _) (Nat.succ_le_succ hn2'))
    · exact wpS_pure (.mk hB' hn1' (Nat.le_of_lt hnx'))
  intro c st6 hC
  have hB6 := hC.1; refine ea1_3 hC.2 ?_; clear hC
  rintro n' rfl hn1' hn2'
  exact wpS_pure (h _ _ hB6 hn1' hn2')

theorem wpS_runs {st : SortSt} {Q : Unit → SortSt → Prop} (hL : LtOk prog w A E s P) (h0 : ∀ p, p ∈ a₀.toList → P p) (hB : SP a₀ 0 st)
    (h : ∀ st', (arrOf st').Perm a₀ → failedOf st' = none → Q () st') : wpS (model prog w) A E s sortRuns' Q st := by
  refine wpS_bind (wpS_get ?_)
  have hsz := hB.size
  have hsz' : (arrOf st).size = a₀.size := hB.size
  unfold arrOf at hsz'
  rw [hsz']
  refine wpS_bind (wpS_mono (Q := fun c st' => ∃ hi, c = (none, hi) ∧ hi ≤ a₀.size ∧ SP a₀ hi st') (wpS_forRange (I := fun _ c st' => ∃ hi, c = (none, hi) ∧ hi ≤ a₀.size ∧ SP a₀ hi st') ?step (fun _ _ hh => hh) ⟨0, rfl, Nat.zero_le _, hB⟩) ?post)
  case post =>
    rintro c st1 ⟨hi, rfl, hle, hB1⟩
    refine wpS_bind (wpS_mono (Q := fun c st' => c = (none, ()) ∧ SP a₀ hi st') (wpS_forRange (I := fun _ c st' => c = (none, ()) ∧ SP a₀ hi st') ?_ (fun _ _ hh => hh) ⟨rfl, hB1⟩) ?_)
    · rintro x c st' _ hx ⟨rfl, hB'⟩
      refine wpS_bind (wpS_get ?_)
      refine wpS_ite (fun _ => wpS_pure ⟨rfl, hB'⟩) fun (hp : ¬ (pendingOf st').size ≤ 1) => ?_
      refine wpS_bind ?_
      refine wpS_mergeAt hL h0 hB' hle ?_ fun st2 hB2 => wpS_pure ⟨rfl, hB2⟩
      unfold pendingOf at hp ⊢
      repeat' split
      all_goals lia
    · rintro c st' ⟨rfl, hB'⟩
      exact wpS_pure (h _ hB'.perm hB'.failed)
  case step =>
    rintro x c st' _ hx ⟨hi, rfl, hle, hB'⟩
    refine wpS_ite (fun _ => wpS_pure ⟨hi, rfl, hle, hB'⟩) fun (hlt : ¬ hi ≥ a₀.size) => ?_
    refine wpS_bind (wpS_cntR hL h0 hB' (lo := hi) (nrem := a₀.size - hi) (by lia) (by lia) fun n st1 hB1 hn1 hn2 => ?_)
    refine wpS_ite (fun (hmr : n < minRun' a₀.size a₀.size 0) => ?_) fun _ => ?_
    · refine wpS_bind (wpS_lift (wpAny_rule ⟨rfl, ?_⟩))
      refine wpS_bind (wpS_binS hL h0 hB1 (lo := hi) (n := min (a₀.size - hi) (minRun' a₀.size a₀.size 0)) (by lia) fun st2 hB2 => ?_)
      refine wpS_ite (fun e => nomatch e) fun _ => ?_
      refine wpS_bind (wpS_get ?_)
      cases hbk : (pendingOf st2).back? with
      | none =>
        dsimp only
        refine wpS_bind (wpS_modify (wpS_pure ⟨hi + min (a₀.size - hi) (minRun' a₀.size a₀.size 0), rfl, by lia, hB2.perm, hB2.kind, hB2.failed, ?_⟩))
        show Cont ((pendingOf st2).push (hi, min (a₀.size - hi) (minRun' a₀.size a₀.size 0), 0)).toList 0 (hi + min (a₀.size - hi) (minRun' a₀.size a₀.size 0))
        rw [Array.toList_push]
        exact hB2.cont.push (by lia)
      | some y =>
        obtain ⟨s1, n1, q1⟩ := y
        dsimp only
        refine wpS_bind (wpS_mono (Q := fun c st' => c = (none, ()) ∧ SP a₀ hi st') (wpS_forRange (I := fun _ c st' => c = (none, ()) ∧ SP a₀ hi st') ?_ (fun _ _ hh => hh) ⟨rfl, hB2⟩) ?_)
        · rintro y c st' _ _ ⟨rfl, hB3⟩
          refine wpS_bind (wpS_get ?_)
          by_cases hp1 : (pendingOf st').size > 1
          · obtain ⟨z, hz⟩ : ∃ z, (pendingOf st')[(pendingOf st').size - 2]? = some z := ⟨_, getElem?_pos _ _ (by lia)⟩
            obtain ⟨z1, z2, z3⟩ := z
            have hp2 : (pendingOf st').size - 2 + 1 < (pendingOf st').size := by lia
            unfold pendingOf at hp1 hz
            rw [if_pos hp1, hz]
            refine wpS_ite (fun _ => wpS_pure ⟨rfl, hB3⟩) fun _ => ?_
            refine wpS_bind (wpS_mergeAt hL h0 hB3 hle hp2 fun st4 hB4 => ?_)
            exact wpS_pure ⟨rfl, hB4⟩
          · unfold pendingOf at hp1
            rw [if_neg hp1]
            exact wpS_pure ⟨rfl, hB3⟩
        · rintro c st3 ⟨rfl, hB3⟩
          refine wpS_bind (wpS_modify ?_)
          have hB4 : SP a₀ hi (setPending st3 ((pendingOf st3).modify ((pendingOf st3).size - 1) fun x => (x.1, x.2.1, power' a₀.size (2 * s1 + n1) (2 * s1 + n1 + n1 + min (a₀.size - hi) (minRun' a₀.size a₀.size 0)) a₀.size))) :=
            ⟨hB3.perm, hB3.kind, hB3.failed, by show Cont (Array.modify _ _ _).toList 0 hi; rw [Array.toList_modify]; exact hB3.cont.modify _ _⟩
          refine wpS_bind (wpS_modify (wpS_pure ⟨hi + min (a₀.size - hi) (minRun' a₀.size a₀.size 0), rfl, by lia, hB4.perm, hB4.kind, hB4.failed, ?_⟩))
          show Cont ((pendingOf (setPending st3 _)).push (hi, min (a₀.size - hi) (minRun' a₀.size a₀.size 0), 0)).toList 0 (hi + min (a₀.size - hi) (minRun' a₀.size a₀.size 0))
          rw [Array.toList_push]
          exact hB4.cont.push (by lia)
    · have hB2 := hB1
      clear hB1
      revert hB2
      generalize st1 = st2
      intro hB2
      refine wpS_bind (wpS_get ?_)
      cases hbk : (pendingOf st2).back? with
      | none =>
        dsimp only
        refine wpS_bind (wpS_modify (wpS_pure ⟨hi + n, rfl, by lia, hB2.perm, hB2.kind, hB2.failed, ?_⟩))
        show Cont ((pendingOf st2).push (hi, n, 0)).toList 0 (hi + n)
        rw [Array.toList_push]
        exact hB2.cont.push (by lia)
      | some y =>
        obtain ⟨s1, n1, q1⟩ := y
        dsimp only
        refine wpS_bind (wpS_mono (Q := fun c st' => c = (none, ()) ∧ SP a₀ hi st') (wpS_forRange (I := fun _ c st' => c = (none, ()) ∧ SP a₀ hi st') ?_ (fun _ _ hh => hh) ⟨rfl, hB2⟩) ?_)
        · rintro y c st' _ _ ⟨rfl, hB3⟩
          refine wpS_bind (wpS_get ?_)
          by_cases hp1 : (pendingOf st').size > 1
          · obtain ⟨z, hz⟩ : ∃ z, (pendingOf st')[(pendingOf st').size - 2]? = some z := ⟨_, getElem?_pos _ _ (by lia)⟩
            obtain ⟨z1, z2, z3⟩ := z
            have hp2 : (pendingOf st').size - 2 + 1 < (pendingOf st').size := by lia
            unfold pendingOf at hp1 hz
            rw [if_pos hp1, hz]
            refine wpS_ite (fun _ => wpS_pure ⟨rfl, hB3⟩) fun _ => ?_
            refine wpS_bind (wpS_mergeAt hL h0 hB3 hle hp2 fun st4 hB4 => ?_)
            exact wpS_pure ⟨rfl, hB4⟩
          · unfold pendingOf at hp1
            rw [if_neg hp1]
            exact wpS_pure ⟨rfl, hB3⟩
        · rintro c st3 ⟨rfl, hB3⟩
          refine wpS_bind (wpS_modify ?_)
          have hB4 : SP a₀ hi (setPending st3 ((pendingOf st3).modify ((pendingOf st3).size - 1) fun x => (x.1, x.2.1, power' a₀.size (2 * s1 + n1) (2 * s1 + n1 + n1 + n) a₀.size))) :=
            ⟨hB3.perm, hB3.kind, hB3.failed, by show Cont (Array.modify _ _ _).toList 0 hi; rw [Array.toList_modify]; exact hB3.cont.modify _ _⟩
          refine wpS_bind (wpS_modify (wpS_pure ⟨hi + n, rfl, by lia, hB4.perm, hB4.kind, hB4.failed, ?_⟩))
          show Cont ((pendingOf (setPending st3 _)).push (hi, n, 0)).toList 0 (hi + n)
          rw [Array.toList_push]
          exact hB4.cont.push (by lia)
end
end
section
open PySem PySem.W PySem.Calls PyProof.Rows PySem.Spec
noncomputable def PK (h : Heap) (p : Keyed) : Prop := ∃ t a b c ta tb tc, p.1 = .ref t ∧ Is h t (TupP [.int a ta, .int b tb, .int c tc])
section
variable {prog : Program} {w : World} {A : Around} {E : Value → Shared → Prop} {s : Shared}
theorem oneLtAny {f : Bool} {a b : Int} {t u : Tok} {Q : Bool → Shared → Prop} (h : ∀ r, Q r s) : wpAny (model prog w) A (oneLt' f (.int a t) (.int b u)) Q E s := by
  cases f
  · rw [oneLt'_eq]
    simp only [Bool.false_eq_true, if_false]
    exact wpAny_bind (wpAny_richCompare_same (typeIs_int s a t) (typeIs_int s b u) slot_int_lt (call_int_lt ⟨nofun, wpAny_truthy_bool (h _)⟩))
  · exact oneLt_int (h _)
theorem keyLt_three {Q : Bool → Shared → Prop} {t u : Addr} {a b c a' b' c' : Int} {ta tb tc ta' tb' tc' : Tok} (hx : Is s.heap t (TupP [.int a ta, .int b tb, .int c tc])) (hy : Is s.heap u (TupP [.int a' ta', .int b' tb', .int c' tc']))
    (h : ∀ r, Q r s) : wpAny (model prog w) A (keyLt' (tuples' true) (.ref t) (.ref u)) Q E s := by
  obtain ⟨o, ho, hc, n, hd⟩ := hx
  obtain ⟨o', ho', hc', n', hd'⟩ := hy
  refine wpAny_bind (listItems_at ho hd ?_)
  refine wpAny_bind (listItems_at ho' hd' ?_)
  refine wpAny_bind ?_
  show wpAny _ _ (forIn [((Value.int a ta, Value.int a' ta'), 0), ((Value.int b tb, Value.int b' tb'), 1), ((Value.int c tc, Value.int c' tc'), 2)] _ _) _ _ _
  rw [List.forIn_cons]
  refine wpAny_bind (wpAny_bind (wpAny_eqBool_int ?_))
  cases hab : (a == a')
  · exact wpAny_bind (oneLtAny fun r => wpAny_pure (wpAny_pure (wpAny_pure (h _))))
  refine wpAny_pure ?_
  show wpAny _ _ (forIn _ _ _) _ _ _
  rw [List.forIn_cons]
  refine wpAny_bind (wpAny_bind (wpAny_eqBool_int ?_))
  cases hab : (b == b')
  · exact wpAny_bind (oneLtAny fun r => wpAny_pure (wpAny_pure (wpAny_pure (h _))))
  refine wpAny_pure ?_
  show wpAny _ _ (forIn _ _ _) _ _ _
  rw [List.forIn_cons]
  refine wpAny_bind (wpAny_bind (wpAny_eqBool_int ?_))
  cases hab : (c == c')
  · exact wpAny_bind (oneLtAny fun r => wpAny_pure (wpAny_pure (wpAny_pure (h _))))
  refine wpAny_pure ?_
  show wpAny _ _ (forIn _ _ _) _ _ _
  rw [List.forIn_nil]
  exact wpAny_pure (wpAny_pure (h _))
theorem ltOk : LtOk prog w A E s (PK s.heap) := by
  rintro x y st Q ⟨t, a, b, c, ta, tb, tc, hx, hX⟩ ⟨u, a', b', c', ta', tb', tc', hy, hY⟩ hk hQ
  rw [lt'_eq]
  refine wpS_bind (wpS_get ?_)
  rw [hk, hx, hy]
  refine wpS_bind (wpS_lift (wpAny_attempt (keyLt_three hX hY fun r => ⟨rfl, ?_⟩)))
  exact wpS_pure (hQ r)
theorem mapM_firsts : ∀ (vs : List Value) (Q : List (Option Value) → Shared → Prop), (∀ v ∈ vs, ∃ t a b c ta tb tc, v = .ref t ∧ Is s.heap t (TupP [.int a ta, .int b tb, .int c tc])) →
    (∀ ws ns, IntsAre ws ns → ws.length = vs.length → Q (ws.map some) s) → wpAny (model prog w) A (vs.mapM firstOfTuple') Q E s
  | [], Q, hv, h => by rw [List.mapM_nil]; exact wpAny_pure (h [] [] .nil rfl)
  | v :: vs, Q, hv, h => by
    obtain ⟨t, a, b, c, ta, tb, tc, rfl, o, ho, hc, n, hd⟩ := hv v (.head _)
    rw [List.mapM_cons]
    refine wpAny_bind ?_
    refine wpAny_bind (wpAny_typeOf (T := "tuple") ⟨o, ho, hc⟩ ?_)
    show wpAny _ _ (Builtin.List.listItems (.ref t) >>= _) _ _ _
    refine wpAny_bind (listItems_at ho hd (wpAny_pure ?_))
    refine wpAny_bind (mapM_firsts vs _ (fun v hm => hv v (.tail _ hm)) fun ws ns hI hl => ?_)
    exact wpAny_pure (h (.int a ta :: ws) (a :: ns) (.cons _ _ hI) (by simp [hl]))

theorem oneType_ints {v : Value} {vs : List Value} {ns : List Int} (hI : IntsAre (v :: vs) ns) : oneTypeOnly' (v :: vs).toArray = pure (some (Value.type "int")) := by
  rw [oneTypeOnly'_eq, List.mapM_toArray, mapM_typeOf_ints hI]
  simp only [map_pure, pure_bind]
  have hall : ((List.map (fun _ => Value.type "int") (v :: vs)).toArray.all fun x => x == Value.type "int") = true := by
    simp only [List.all_toArray, List.all_map, List.all_eq_true]
    intro _ _
    rfl
  have h0 : (List.map (fun _ => Value.type "int") (v :: vs)).toArray[0]? = some (Value.type "int") := by simp
  rw [h0]
  simp only [hall, if_true]

theorem keyKind_tuples {vs : List Value} {Q : SortKind → Shared → Prop} (h0 : 0 < vs.length) (hv : ∀ v ∈ vs, ∃ t a b c ta tb tc, v = .ref t ∧ Is s.heap t (TupP [.int a ta, .int b tb, .int c tc]))
    (h : Q (tuples' true) s) : wpAny (model prog w) A (keyKind' vs.toArray) Q E s := by
  rw [keyKind'_eq, List.mapM_toArray, map_eq_pure_bind]
  refine wpAny_bind (wpAny_bind (mapM_firsts vs _ hv fun ws ns hI hl => wpAny_pure ?_))
  rw [if_pos (by simp)]
  refine wpAny_bind (wpAny_rule ?_)
  have e1 : (List.map some ws).toArray.filterMap id = ws.toArray := by simp
  rw [e1]
  match ws, hI, hl with
  | [], _, hl => rw [← hl] at h0; exact absurd h0 (Nat.lt_irrefl _)
  | x :: ws, hI, hl =>
    rw [oneType_ints hI]
    exact wpAny_bind (wpAny_pure (wpAny_pure h))

theorem list_sort_keys {a : Addr} {vs : List Value} {n : Nat} {Q : Fin → Shared → Prop} (ho : s.heap.get? a = some (seqObj "list" vs.toArray n))
    (hv : ∀ v ∈ vs, ∃ t a b c ta tb tc, v = .ref t ∧ Is s.heap t (TupP [.int a ta, .int b tb, .int c tc])) (hz : vs.length ≤ 100000)
    (h : ∀ (out : Array Value), out.toList.Perm vs → Q (.done (.ret .none)) { s with heap := sortedHeap s.heap a vs out }) :
    wpAny (model prog w) A (Builtin.«list.sort» ⟨[.ref a], []⟩) Q E s := by
  rw [list_sort_plain]
  have ha : a < s.heap.objs.size := Heap.lt_size ho
  refine wpAny_bind (listItems_at ho rfl ?_)
  refine wpAny_bind (listUpdate_at ho rfl ?_ (hsz := by rw [List.size_toArray, sizeLine_eq]; lia) (hsz2 := Nat.zero_le _))
  obtain ⟨e1, ho1⟩ : ∃ e1, (s.heap.update a (Obj.mapSeq fun _ => #[])).get? a = some (seqObj "list" #[] e1) := ⟨_, get?_update_seq ho (fun _ => #[])⟩
  refine wpAny_bind (seqEpoch_at ho1 rfl ?_)
  refine wpAny_bind (wpAny_newTuple ?_)
  refine wpAny_bind (wpAny_newList ?_)
  refine wpAny_holding ?_
  have ho6 : (((s.heap.update a (Obj.mapSeq fun _ => #[])).push (seqObj "tuple" vs.toArray 0)).push (seqObj "list" #[] 0)).get? a = some (seqObj "list" #[] e1) := by
    rw [Heap.get?_push_ne _ _ _ (by rw [size_push', Heap.size_update]; exact Nat.ne_of_lt (Nat.lt_succ_of_lt ha)), Heap.get?_push_ne _ _ _ (by rw [Heap.size_update]; exact Nat.ne_of_lt ha)]
    exact ho1
  show wpAny (model prog w) A _ Q E { s with heap := ((s.heap.update a (Obj.mapSeq fun _ => #[])).push (seqObj "tuple" vs.toArray 0)).push (seqObj "list" #[] 0) }
  dsimp only
  have hsz : vs.toArray.size = vs.length := by simp
  have fin : ∀ xs : Array Keyed, xs.Perm (pairsOf vs) → Q (.done (.ret .none)) { s with heap := sortedHeap s.heap a vs (xs.map (·.2)) } := by
    intro xs hp
    refine h _ ?_
    rw [Array.toList_map]
    have h1 := (Array.perm_iff_toList_perm.mp hp).map (·.2)
    rw [pairsOf_toList] at h1
    rwa [show (vs.zip vs).map (·.2) = vs from by rw [← List.unzip_snd, List.unzip_zip rfl]] at h1
  have szOk : ∀ xs : Array Keyed, xs.Perm (pairsOf vs) → (xs.map (·.2)).size ≤ sizeLine + 1 := by
    intro xs hp
    rw [Array.size_map, hp.size_eq, pairsOf_size, sizeLine_eq]; lia
  have hK : ∀ v ∈ vs, ∃ t a' b c ta tb tc, v = .ref t ∧ Is (((s.heap.update a (Obj.mapSeq fun _ => #[])).push (seqObj "tuple" vs.toArray 0)).push (seqObj "list" #[] 0)) t (TupP [.int a' ta, .int b tb, .int c tc]) := by
    intro v hm
    obtain ⟨t, a', b, c, ta, tb, tc, e, o, hto, hcl, hd⟩ := hv v hm
    have hne : t ≠ a := by
      rintro rfl
      rw [ho] at hto
      cases hto
      exact absurd (Value.type.inj hcl) (by decide)
    exact ⟨t, a', b, c, ta, tb, tc, e, o, Heap.get?_push_of_some _ (Heap.get?_push_of_some _ ((Heap.SameBut.update ..).2 t hne |>.trans hto)), hcl, hd⟩
  by_cases h2 : vs.toArray.size < 2
  · rw [if_pos h2, if_pos h2]
    refine wpAny_bind (wpAny_pure ?_)
    rw [StateT.run_pure]
    refine wpAny_bind (wpAny_pure ?_)
    dsimp only
    refine wpAny_bind (seqEpoch_at ho6 rfl ?_)
    refine wpAny_bind (listUpdate_at ho6 rfl ?_ (hsz := Nat.zero_le _) (hsz2 := szOk (pairsOf vs) (Array.Perm.refl _)))
    simp only [bne_self_eq_false, Bool.false_eq_true, if_false]
    exact wpAny_pure (fin (pairsOf vs) (Array.Perm.refl _))
  · rw [if_neg h2, if_neg h2]
    refine wpAny_bind (keyKind_tuples (by lia) hK ?_)
    refine wpAny_bind (wpAny_mono (wpS_runs (a₀ := pairsOf vs) (st := SortSt.mk' (tuples' true) (vs.toArray.zip vs.toArray) #[] 7 none)
      (Q := fun _ st' => (arrOf st').Perm (pairsOf vs) ∧ failedOf st' = none) ltOk ?_ ⟨Array.Perm.refl _, rfl, rfl, rfl⟩ fun st' a1 a2 => ⟨a1, a2⟩) ?_ fun _ _ e => e)
    · intro p hp
      rw [pairsOf_toList] at hp
      obtain ⟨t, a', b, c, ta, tb, tc, e, hI⟩ := hK _ (mem_zip_self hp).2
      exact ⟨t, a', b, c, ta, tb, tc, e, hI⟩
    rintro ⟨⟨⟩, st'⟩ s' ⟨rfl, hp, hf⟩
    dsimp only
    refine wpAny_bind (seqEpoch_at ho6 rfl ?_)
    refine wpAny_bind (listUpdate_at ho6 rfl ?_ (hsz := Nat.zero_le _) (hsz2 := szOk _ hp))
    rw [hf]
    simp only [bne_self_eq_false, Bool.false_eq_true, if_false]
    exact wpAny_pure (fin _ hp)
end
end
section
open PySem PySem.W PySem.Calls PyProof.Rows PySem.Spec
section
variable {prog : Program} {w : World} {A : Around} {E : Value → Shared → Prop} {s : Shared}
theorem walksDict (hh : A.handled = none) (I d : Addr) (hne : d ≠ I) (es : Array DictEntry) (ep : Nat) :
    Walks prog w A I [I, d] [I] es.size (fun i v => ∃ x, es[i]? = some x ∧ x.key = v) (fun i h => Is h I (KItP d i es.size ep) ∧ Is h d (DicE es ep)) where
  sub := fun b hb => by simp at hb; simp [hb]
  frame := fun _ _ _ st hk => ⟨let ⟨o, e, p⟩ := st.1; ⟨o, hk I (by simp) o e, p⟩, let ⟨o, e, p⟩ := st.2; ⟨o, hk d (by simp) o e, p⟩⟩
  item := fun i s Q E hi st hQ => by
    obtain ⟨x, hx⟩ : ∃ p, es[i]? = some p := ⟨es[i], by simp [hi]⟩
    refine next_dict st.1 st.2 hx fun h' hit' hs' => ?_
    refine hQ _ h' s.toks ⟨x, hx, rfl⟩ ⟨hit', ?_⟩ fun b o hb e => hs'.extBut b o (fun h => hb (by simp [h])) e
    obtain ⟨o, e, p⟩ := st.2
    exact ⟨o, hs'.extBut d o hne e, p⟩
  done := fun s Q E st hQ => next_dict_end hh st.1 st.2 fun h' he' => hQ h' s.toks fun b o hb e => he' b o (fun h => hb (by simp [h])) e
  self := fun i s Q E st hQ => by
    obtain ⟨o, ho, hc, hd⟩ := st.1
    exact wpAny_pyIter_keyiter (it := I) (d := d) (i := i) (n := es.size) (ep := ep) ⟨o, ho, hc, hd⟩ hQ
theorem srcDict {d : Addr} {es : Array DictEntry} {ep : Nat} (lo : (d == sysModules) = false) : KdlSrc prog w "dict" d d es.size (fun i v => ∃ x, es[i]? = some x ∧ x.key = v) (fun h => Is h d (DicE es ep)) where
  type := fun _ ⟨o, ho, hx, _⟩ => ⟨o, ho, hx.1⟩
  there := fun _ ⟨o, ho, _⟩ => ⟨Heap.lt_size ho, Heap.lt_size ho⟩
  keep := fun _ _ ⟨o, ho, p⟩ hk => ⟨o, hk d (.inl rfl) o ho, p⟩
  notList := by decide
  notTuple := by decide
  hint := fun _ _ _ _ ⟨o, ho, hx, _⟩ hq => kdl_hint_dict ⟨o, ho, hx.1⟩ hq
  iter := fun _ s hh hm => ⟨_, _, (fun _ _ hq => iter_dict lo hm hq), walksDict hh _ d (let ⟨o, ho, _⟩ := hm; Nat.ne_of_lt (Heap.lt_size ho)) es ep,
    ⟨⟨_, Heap.get?_push_size _ rfl, rfl, rfl⟩, let ⟨o, ho, p⟩ := hm; ⟨o, Heap.get?_push_of_some _ ho, p⟩⟩⟩

theorem collect_dict {d : Addr} {es : Array DictEntry} {ep : Nat} {Q : List Value → Shared → Prop} (hh : A.handled = none) (lo : (d == sysModules) = false) (hm : Is s.heap d (DicE es ep)) (hz : es.size ≤ 100000)
    (h : ∀ h' tk, Kp s.heap h' → Q (es.toList.map (·.key)) { s with heap := h', toks := tk }) : wpAny (model prog w) A (collect (.ref d)) Q E s := by
  have hlt : d < s.heap.objs.size := let ⟨o, ho, _⟩ := hm; Heap.lt_size ho
  have key : ∀ R : Result → Shared → Prop, (∀ h' tk acc' c', Kp s.heap h' → h'.get? s.heap.objs.size = some { cls := .type "list", dict := none, data := .seq acc' c', slots := #[] } → ItemsOf (fun i v => ∃ x, es[i]? = some x ∧ x.key = v) acc' es.size →
      R (.ok (.ret (.ref s.heap.objs.size))) { s with heap := h', toks := tk }) → codeAny (model prog w) A (.builtin "proto.collect" ⟨[.ref d], []⟩) R s := by
    intro R hR
    refine codeAny_builtin PySem.F.entry_proto_collect ?_
    rw [Around.under_plainId PySem.F.plain_proto_collect _]
    show wpAny _ A.in1 (newList [] >>= fun l => again (.builtin "list.__iadd__" ⟨[l, .ref d], []⟩)) _ _ s
    refine wpAny_bind (wpAny_newObj_type ?_)
    refine wpAny_pure ⟨plainId_quiet PySem.F.plain_list_iadd _, codeAny_builtin PySem.F.entry_list_iadd ?_⟩
    rw [Around.under_plainId PySem.F.plain_list_iadd _]
    have hm1 : Is (s.heap.push { cls := .type "list", data := .seq ([] : List Value).toArray }) d (DicE es ep) := let ⟨o, ho, p⟩ := hm; ⟨o, Heap.get?_push_of_some _ ho, p⟩
    show wpAny _ A.in1 (Builtin.List.listExtendWith (.ref s.heap.objs.size) (.ref d) (.ref s.heap.objs.size)) _ _ { s with heap := s.heap.push { cls := .type "list", data := .seq ([] : List Value).toArray } }
    exact kdl_extend (s := { s with heap := s.heap.push { cls := .type "list", data := .seq ([] : List Value).toArray } }) (A := A) (R := R) (srcDict (es := es) (ep := ep) lo) hh hm1 s.heap.objs.size (Nat.ne_of_gt hlt) (Nat.ne_of_gt hlt) _ 0 (Heap.get?_push_size _ rfl)
      (fun h' tk acc' c' hk hS hacc => hR h' tk acc' c' (fun b o q => hk b o (Nat.ne_of_lt (Heap.lt_size q)) (Heap.get?_push_of_some _ q)) hS hacc) (by rw [sizeLine_eq]; lia)
  unfold collect
  refine wpAny_bind (wpAny_runValue (key _ fun h' tk acc' c' hk hS hacc => ?_))
  show wpAny _ A (load s.heap.objs.size >>= _) _ _ _
  refine wpAny_bind (wpAny_load hS ?_)
  have e1 : acc'.toList = es.toList.map (·.key) := by
    refine List.ext_getElem? fun i => ?_
    rw [List.getElem?_map]
    by_cases hi : i < es.size
    · obtain ⟨v, hv⟩ : ∃ v, acc'[i]? = some v := ⟨acc'[i]'(by rw [hacc.1]; exact hi), by simp [hacc.1, hi]⟩
      obtain ⟨x, hx, hxv⟩ := hacc.2 i v hv
      rw [Array.getElem?_toList, hv, Array.getElem?_toList, hx]
      exact congrArg some hxv.symm
    · rw [Array.getElem?_toList, Array.getElem?_toList, Array.getElem?_eq_none (by rw [hacc.1]; lia), Array.getElem?_eq_none (by lia)]; rfl
  show wpAny _ _ (pure acc'.toList) _ _ _
  rw [e1]
  exact wpAny_pure (h h' tk hk)
end

section
variable {prog : Program} {w : World} {A : Around} {E : Value → Shared → Prop} {s : Shared} {e : En} {G : Array GenState} {B : Heap} {L : Addr} {m : Str → Option Value} {U : Own} {env : Env}
theorem perm_unmap {α β : Type} {f : α → β} {xs : List α} : ∀ {l : List β}, l.Perm (xs.map f) → ∃ ys : List α, ys.Perm xs ∧ l = ys.map f := by
  intro l h
  generalize hm : xs.map f = m at h
  induction h generalizing xs with
  | nil => cases xs with | nil => exact ⟨[], .refl _, rfl⟩ | cons a b => cases hm
  | @cons x l1 l2 hp ih =>
    cases xs with
    | nil => cases hm
    | cons a b =>
      injection hm with h1 h2
      subst h1
      obtain ⟨ys, hy, e⟩ := ih h2
      exact ⟨a :: ys, hy.cons _, by rw [e]; rfl⟩
  | swap x y l =>
    match xs, hm with
    | a :: b :: c, hm =>
      injection hm with h1 h2
      injection h2 with h2 h3
      subst h1 h2 h3
      exact ⟨b :: a :: c, .swap .., rfl⟩
  | trans _ _ ih1 ih2 =>
    obtain ⟨y1, h1, e1⟩ := ih2 hm
    obtain ⟨y2, h2, e2⟩ := ih1 e1.symm
    exact ⟨y2, h2.trans h1, e2⟩

theorem kp_sorted {h : Heap} {a : Addr} {vs : List Value} {n : Nat} {out : Array Value} (ho : h.get? a = some (seqObj "list" vs.toArray n)) : Heap.ExtBut a h (sortedHeap h a vs out) ∧ Is (sortedHeap h a vs out) a (LstP out.toList) := by
  have ha : a < h.objs.size := Heap.lt_size ho
  obtain ⟨e1, ho1⟩ : ∃ e1, (h.update a (Obj.mapSeq fun _ => #[])).get? a = some (seqObj "list" #[] e1) := ⟨_, get?_update_seq ho (fun _ => #[])⟩
  have ho6 : (((h.update a (Obj.mapSeq fun _ => #[])).push (seqObj "tuple" vs.toArray 0)).push (seqObj "list" #[] 0)).get? a = some (seqObj "list" #[] e1) :=
    Heap.get?_push_of_some _ (Heap.get?_push_of_some _ ho1)
  refine ⟨fun b o hb q => ?_, ?_⟩
  · exact (Heap.get?_update_other _ _ (Ne.symm hb)).trans (Heap.get?_push_of_some _ (Heap.get?_push_of_some _ ((Heap.get?_update_other _ _ (Ne.symm hb)).trans q)))
  · obtain ⟨e2, ho7⟩ : ∃ e2, (sortedHeap h a vs out).get? a = some (seqObj "list" out e2) := ⟨_, get?_update_seq ho6 (fun _ => out)⟩
    exact ⟨_, ho7, e2, by simp [seqObj]⟩

theorem bSortedDic {D : Addr} {xs : Ents} {Q : Value → Shared → Prop} (F : Fs e G B L m U s) (hh : A.handled = none) (hu : A.units + 40 < cLine) (hd : Is s.heap D (DicP prog w xs)) (hns : (D == sysModules) = false) (K : KeysAt prog w B xs) (hz : xs.length ≤ 10000)
    (h3 : ∀ x ∈ xs, ∃ a b c, x.1 = [a, b, c])
    (h : ∀ s' D' (ys : Ents), e.s.heap.get? D' = none → Fs e G B L m ((D', LstP (ys.map fun x : List Int × Addr × Value => Value.ref x.2.1)) :: U) s' → List.Perm ys xs → Q (.ref D') s') : wpAny (model prog w) A (call (.builtin "sorted") [.ref D]) Q E s := by
  obtain ⟨o, ho, hx, hnd, es, ep, hdat, hes⟩ := id hd
  have hlen : es.size = xs.length := by rw [← Array.length_toList, hes, List.length_map]
  have hkeys : es.toList.map (·.key) = xs.map fun x => Value.ref x.2.1 := by rw [hes, List.map_map]; rfl
  refine Calls.call_function_entry kind_sorted plain_sorted entry_sorted (args_sorted1 _) ?_
  unfold Builtin.«sorted»
  refine wpAny_bind (m := checkCount "sorted" 1 1 _) (wpAny_pure ?_)
  refine wpAny_bind (collect_dict hh hns ⟨o, ho, hx, hdat⟩ (by lia) fun h1 tk1 k1 => ?_)
  rw [hkeys]
  refine wpAny_bind (wpAny_newList ?_)
  have F1 := F.grown k1 tk1
  have hS : (h1.push (seqObj "list" (xs.map fun x => Value.ref x.2.1).toArray 0)).get? h1.objs.size = some (seqObj "list" (xs.map fun x => Value.ref x.2.1).toArray 0) := Heap.get?_push_size _ rfl
  have F2 := F1.take (h' := h1.push (seqObj "list" (xs.map fun x => Value.ref x.2.1).toArray 0)) (P := LstP (xs.map fun x => Value.ref x.2.1)) (fun b o q => Heap.get?_push_of_some _ q) (none_of_size _) ⟨_, hS, 0, rfl⟩ tk1
  have hf := F1.fresh (none_of_size _)
  show wpAny _ _ _ _ _ { s with heap := h1.push (seqObj "list" (xs.map fun x => Value.ref x.2.1).toArray 0), toks := tk1 }
  refine wpAny_bind (wpAny_holding (wpAny_call_entry slot_list_sort ⟨_, hS, rfl⟩ entry_list_sort (list_sort_keys hS (fun v hv => ?_) (by simp; lia) fun out hp => ⟨_, rfl, ?_⟩) (args_list_sort _)))
  · obtain ⟨x, hxm, rfl⟩ := List.mem_map.mp hv
    obtain ⟨a, b, c, e3⟩ := h3 x hxm
    have ht := (K x hxm).mono F2.kp
    rw [e3] at ht
    obtain ⟨t1, t2, t3, hI⟩ := tupAt_out3 ht
    exact ⟨_, _, _, _, _, _, _, rfl, hI⟩
  · obtain ⟨ys, hy, e2⟩ := perm_unmap hp
    obtain ⟨k5, hI⟩ := kp_sorted (out := out) hS
    rw [e2] at hI
    exact wpAny_pure ⟨_, rfl, h _ _ ys hf (F2.upd k5 hI tk1) hy⟩
end
end
section
/-! the rounds, without a program in sight -/
noncomputable def sidesK (d : FrD) (G : List Int → Bool) : List Int → List (List Int)
  | [c, x, y] => sidesOf d G c.toNat x y
  | _ => []
noncomputable def newV (d : FrD) (V : List Int → List Int) (G : List Int → Bool) (k : List Int) : List Int := [rmF (((sidesK d G k).map fun k => (V k).headD 0).sum) (sidesK d G k).length, 0, 0, 0]
noncomputable def act (d : FrD) (G : List Int → Bool) (k : List Int) : Bool := G k && !(sidesK d G k).isEmpty
noncomputable def stepV (d : FrD) (V : List Int → List Int) (G : List Int → Bool) (k : List Int) : List Int := if act d G k then newV d V G k else V k
noncomputable def stepG (d : FrD) (G : List Int → Bool) (k : List Int) : Bool := G k && !act d G k
inductive Conc (d : FrD) : (List Int → List Int) → (List Int → Bool) → (List Int → List Int) → Prop
  | stop {V G} : (∀ k, act d G k = false) → Conc d V G V
  | step {V G V'} : (∃ k, act d G k = true) → Conc d (stepV d V G) (stepG d G) V' → Conc d V G V'
theorem Conc.det {d : FrD} {V : List Int → List Int} {G : List Int → Bool} {V1 V2 : List Int → List Int} (h : Conc d V G V1) (g : Conc d V G V2) : V1 = V2 := by
  induction h with
  | stop h =>
    cases g with
    | stop _ => rfl
    | step h2 _ => obtain ⟨k, hk⟩ := h2; rw [h k] at hk; cases hk
  | step h _ ih =>
    cases g with
    | stop h2 => obtain ⟨k, hk⟩ := h; rw [h2 k] at hk; cases hk
    | step _ g2 => exact ih g2

/-! the grid's rows, owned -/
noncomputable def rU (ra : List (List Addr)) (ct : Addr → List Value) : Own := ra.flatten.map fun a => (a, LsqP (ct a))
noncomputable def rRest (ra : List (List Addr)) (a : Addr) (ct : Addr → List Value) : Own := (ra.flatten.erase a).map fun a => (a, LsqP (ct a))
theorem rU_out {ra : List (List Addr)} {a : Addr} {ct : Addr → List Value} (h : a ∈ ra.flatten) : (rU ra ct).Perm ((a, LsqP (ct a)) :: rRest ra a ct) := (List.perm_cons_erase h).map fun a => (a, LsqP (ct a))
noncomputable def upd (ct : Addr → List Value) (a : Addr) (vs : List Value) : Addr → List Value := fun b => if b = a then vs else ct b
theorem rRest_upd {ra : List (List Addr)} {a : Addr} {ct : Addr → List Value} {vs : List Value} (hn : ra.flatten.Nodup) : rRest ra a (upd ct a vs) = rRest ra a ct := by
  unfold rRest
  refine List.map_congr_left fun b hb => ?_
  have : b ≠ a := fun e => (List.Nodup.not_mem_erase hn) (e ▸ hb)
  unfold upd; rw [if_neg this]
theorem rU_keys {ra : List (List Addr)} {ct : Addr → List Value} : (rU ra ct).map (·.1) = ra.flatten := by unfold rU; rw [List.map_map]; exact List.map_id' _

/-- a place's content, by the rows' contents -/
noncomputable def CellC (B : Heap) (ra : List (List Addr)) (ct : Addr → List Value) (k ks : List Int) : Prop :=
  ∃ (p c r : Nat) (row : List Addr) (a : Addr) (v : Value) (o : Option (List Int)), k = [(p : Int), (c : Int), (r : Int)] ∧ ra[p]? = some row ∧ row[r]? = some a ∧ (ct a)[c]? = some v ∧ CellV B v o ∧ (p < 1000 ∧ c < 1000 ∧ r < 1000) ∧ o.getD [0, 0, 0, 0] = ks
theorem CellC.mono {B B' : Heap} {ra : List (List Addr)} {ct : Addr → List Value} {k ks : List Int} (x : CellC B ra ct k ks) (kb : Kp B B') : CellC B' ra ct k ks :=
  exE7 x fun p c r row a v o q => exI7 p c r row a v o ⟨q.1, q.2.1, q.2.2.1, q.2.2.2.1, q.2.2.2.2.1.mono kb, q.2.2.2.2.2⟩
theorem mem_flat {ra : List (List Addr)} {p r : Nat} {row : List Addr} {a : Addr} (h1 : ra[p]? = some row) (h2 : row[r]? = some a) : a ∈ ra.flatten := List.mem_flatten.mpr ⟨row, List.mem_of_getElem? h1, List.mem_of_getElem? h2⟩
theorem CellC.at {B h : Heap} {ra : List (List Addr)} {ct : Addr → List Value} {k ks : List Int} (x : CellC B ra ct k ks) (hr : ∀ a ∈ ra.flatten, Is h a (LsqP (ct a))) : CellAt B h ra k ks :=
  exE7 x fun p c r row a v o q => exI8 p c r row a (ct a) v o ⟨q.1, q.2.1, q.2.2.1, hr a (mem_flat q.2.1 q.2.2.1), q.2.2.2.1, q.2.2.2.2.1, q.2.2.2.2.2⟩

theorem flat_inj : ∀ {ra : List (List Addr)} {p p' r r' : Nat} {row row' : List Addr} {a : Addr}, ra.flatten.Nodup → ra[p]? = some row → row[r]? = some a → ra[p']? = some row' → row'[r']? = some a → p = p' ∧ r = r'
  | [], _, _, _, _, _, _, _, _, h, _, _, _ => nomatch h
  | x :: ra, p, p', r, r', row, row', a, hn, h1, h2, h3, h4 => by
    rw [List.flatten_cons, List.nodup_append] at hn
    cases p with
    | zero =>
      cases p' with
      | zero =>
        cases h1; cases h3
        exact ⟨rfl, (List.getElem?_inj (List.getElem?_eq_some_iff.mp h2).1 hn.1).mp (h2.trans h4.symm)⟩
      | succ p' =>
        cases h1
        have h3 : ra[p']? = some row' := h3
        exact absurd rfl (hn.2.2 a (List.mem_of_getElem? h2) a (mem_flat h3 h4))
    | succ p =>
      have h1 : ra[p]? = some row := h1
      cases p' with
      | zero =>
        cases h3
        exact absurd rfl (hn.2.2 a (List.mem_of_getElem? h4) a (mem_flat h1 h2))
      | succ p' =>
        have h3 : ra[p']? = some row' := h3
        obtain ⟨e1, e2⟩ := flat_inj hn.2.1 h1 h2 h3 h4
        exact ⟨by rw [e1], e2⟩

/-- a place is given a new content -/
theorem CellC.put {B : Heap} {ra : List (List Addr)} {ct : Addr → List Value} {p c r : Nat} {row : List Addr} {a : Addr} {v : Value} {ks k' ks' : List Int} (hn : ra.flatten.Nodup) (h1 : ra[p]? = some row) (h2 : row[r]? = some a) (hc : c < (ct a).length)
    (hb : p < 1000 ∧ c < 1000 ∧ r < 1000) (hv : CellV B v (some ks)) (x : CellC B ra ct k' ks') : CellC B ra (upd ct a ((ct a).set c v)) k' (if k' = [(p : Int), (c : Int), (r : Int)] then ks else ks') := by
  refine ea7_7 x ?_; clear x; rintro p' c' r' row' a' v' o rfl g1 g2 g3 g4 g5 g6
  by_cases e : [(p' : Int), (c' : Int), (r' : Int)] = [(p : Int), (c : Int), (r : Int)]
  · rw [if_pos e]
    have e1 : p' = p := by injection e with e1 _; lia
    have e2 : c' = c := by injection e with _ e; injection e with e2 _; lia
    have e3 : r' = r := by injection e with _ e; injection e with _ e; injection e with e3 _; lia
    subst e1 e2 e3
    rw [h1] at g1; cases g1
    rw [h2] at g2; cases g2
    refine ⟨p', c', r', row, a, v, some ks, rfl, h1, h2, ?_, hv, hb, rfl⟩
    unfold upd; rw [if_pos rfl, List.getElem?_set_self hc]
  · rw [if_neg e]
    refine ⟨p', c', r', row', a', v', o, rfl, g1, g2, ?_, g4, g5, g6⟩
    unfold upd
    by_cases ea : a' = a
    · subst ea
      obtain ⟨e1, e2⟩ := flat_inj hn g1 g2 h1 h2
      have : c ≠ c' := fun e3 => e (by rw [e1, e2, e3])
      rw [if_pos rfl, List.getElem?_set_ne this]; exact g3
    · rw [if_neg ea]; exact g3
end
section
theorem sidesOf_mem {d : FrD} {G : List Int → Bool} {c : Nat} {x y : Int} {k : List Int} (h : k ∈ sidesOf d G c x y) : ∃ a b : Int, k = [(c : Int), a, b] ∧ d.inn c a b = true := by
  unfold sidesOf at h
  obtain ⟨r, hr, rfl⟩ := List.mem_map.mp h
  have := (List.mem_filter.mp hr).2
  unfold okS at this
  exact ⟨_, _, rfl, (Bool.and_eq_true_iff.mp this).1⟩
theorem sidesOf_len {d : FrD} {G : List Int → Bool} {c : Nat} {x y : Int} : (sidesOf d G c x y).length ≤ 4 := by
  unfold sidesOf
  rw [List.length_map]
  exact List.length_filter_le _ _

/-- rows to be put: place and content -/
noncomputable def RowT (B : Heap) (v : Value) (kv : List Int × List Int) : Prop := ∃ (t : Addr) (c x y : Int) (t1 t2 t3 : Tok) (l : Addr) (vs : List Value), v = .ref t ∧ kv.1 = [c, x, y] ∧ Is B t (TupP [.int c t1, .int x t2, .int y t3, .ref l]) ∧ Is B l (LstP vs) ∧ IntsAre vs kv.2
noncomputable def RowsAre (B : Heap) (vs : List Value) (kvs : List (List Int × List Int)) : Prop := vs.length = kvs.length ∧ ∀ (i : Nat) kv, kvs[i]? = some kv → ∃ v, vs[i]? = some v ∧ RowT B v kv
theorem RowT.mono {B h : Heap} {v : Value} {kv : List Int × List Int} (x : RowT B v kv) (k : Kp B h) : RowT h v kv :=
  exE9 x fun t c x y t1 t2 t3 l vs q => exI9 t c x y t1 t2 t3 l vs ⟨q.1, q.2.1, q.2.2.1.keeps k, q.2.2.2.1.keeps k, q.2.2.2.2⟩
theorem RowsAre.mono {B h : Heap} {vs : List Value} {kvs : List (List Int × List Int)} (x : RowsAre B vs kvs) (k : Kp B h) : RowsAre h vs kvs := ⟨x.1, fun i kv hi => let ⟨v, a, b⟩ := x.2 i kv hi; ⟨v, a, b.mono k⟩⟩
theorem RowsAre.nil {B : Heap} : RowsAre B [] [] := ⟨rfl, fun i kv h => nomatch h⟩
theorem RowsAre.snoc {B : Heap} {vs : List Value} {kvs : List (List Int × List Int)} {v : Value} {kv : List Int × List Int} (x : RowsAre B vs kvs) (h : RowT B v kv) : RowsAre B (vs ++ [v]) (kvs ++ [kv]) := by
  refine ⟨by simp [x.1], fun i kv' hi => ?_⟩
  by_cases c : i < kvs.length
  · rw [List.getElem?_append_left c] at hi
    obtain ⟨v', a, b⟩ := x.2 i kv' hi
    exact ⟨v', by rw [List.getElem?_append_left (by rw [x.1]; exact c)]; exact a, b⟩
  · rw [List.getElem?_append_right (by lia)] at hi
    have : i - kvs.length = 0 := by
      have := (List.getElem?_eq_some_iff.mp hi).1
      simp at this; lia
    rw [this] at hi
    cases hi
    refine ⟨v, ?_, h⟩
    rw [List.getElem?_append_right (by rw [x.1]; lia), x.1, this]; rfl

noncomputable def putK (V : List Int → List Int) (kv : List Int × List Int) : List Int → List Int := fun k => if k = kv.1 then kv.2 else V k
noncomputable def putKs (V : List Int → List Int) (kvs : List (List Int × List Int)) : List Int → List Int := kvs.foldl putK V
theorem putKs_get {f : List Int → List Int} : ∀ (kvs : List (List Int × List Int)) (V : List Int → List Int) (k : List Int), (∀ kv ∈ kvs, kv.2 = f kv.1) → putKs V kvs k = if k ∈ kvs.map (·.1) then f k else V k
  | [], V, k, _ => by simp [putKs]
  | kv :: r, V, k, h => by
    have ih := putKs_get r (putK V kv) k fun x hx => h x (.tail _ hx)
    show putKs (putK V kv) r k = _
    rw [ih]
    by_cases c : k ∈ r.map (·.1)
    · rw [if_pos c, if_pos (by rw [List.map_cons]; exact .tail _ c)]
    · rw [if_neg c]
      unfold putK
      by_cases e : k = kv.1
      · rw [if_pos e, if_pos (by rw [List.map_cons, e]; exact .head _), h kv (.head _), ← e]
      · rw [if_neg e, if_neg]
        rw [List.map_cons, List.mem_cons]
        rintro (z | z)
        · exact e z
        · exact c z

theorem rU_mem {ra : List (List Addr)} {ct : Addr → List Value} {a : Addr} (h : a ∈ ra.flatten) : (a, LsqP (ct a)) ∈ rU ra ct := List.mem_map_of_mem (f := fun a => (a, LsqP (ct a))) h
noncomputable def kvsOf1 (d : FrD) (V : List Int → List Int) (G : List Int → Bool) (ks : List (List Int)) : List (List Int × List Int) := (ks.filter (act d G)).map fun k => (k, newV d V G k)
set_option maxHeartbeats 8000000 in
theorem concealS {w : World} {A : Around} {E : Value → Shared → Prop} {s : Shared} {B : Heap} {x g y z : Addr} {d : FrD} {ps : List Nat} {lots : List (Nat × Nat)} {lvs : List Value} {ra : List (List Addr)} {ct : Addr → List Value} {V : List Int → List Int}
    {Dom : List Int → Prop} {Q : Value → Shared → Prop}
    (gd : Gd w B) (kB : Kp B s.heap) (rm : Rm A 14) (fr : FrB B x d) (ok : d.Ok) (sc : ScB B y (psI ps)) (pk : PsOk d ps) (hu : 0 < unA d ps) (hu2 : unA d ps < 1000000)
    (hz : Is B z (LstP lvs)) (hts : TupsAre B lvs (lotTs lots)) (hlt : ∀ l ∈ lots, l.1 < 1000 ∧ l.2 < 1000) (hlen : (lotBl d ps lots).length ≤ 10000)
    (gr : GrB B g ra) (hnd : ra.flatten.Nodup) (hown : ∀ a ∈ ra.flatten, Is s.heap a (LsqP (ct a)) ∧ B.get? a = none) (hsys : ∀ D : Addr, s.heap.get? D = none → (D == sysModules) = false)
    (hdom : ∀ (c : Nat) (x y : Int), c < d.sm.length → d.inn c x y = true → Dom [(c : Int), x, y])
    (hgone : ∀ k ∈ lotKs d ps lots, Dom k ∧ ∃ (c : Nat) (x y : Int), c < d.sm.length ∧ k = [(c : Int), x, y])
    (hV : ∀ k, Dom k → CellC B ra ct k (V k) ∧ 0 < (V k).length)
    (h : ∀ s' B' G' V' ct', Kp B B' → Rs ra.flatten G' B s B' s' → FinG s.gens G' → Conc d V (fun k => (lotKs d ps lots).contains k) V' → (∀ a ∈ ra.flatten, Is s'.heap a (LsqP (ct' a))) → (∀ k, Dom k → CellC B' ra ct' k (V' k)) → Q .none s') :
    wpAny (model PR w) A (call (.ref 87) [.ref x, .ref g, .ref y, .ref z]) Q E s := by
  refine' enterP (n := 13) (binds := [(Str.ofString "frame", .ref x), (Str.ofString "grid", .ref g), (Str.ofString "scan", .ref y), (Str.ofString "lost", .ref z)]) ra.flatten (rU ra ct) gd kB rm ?ho ?hcd ?hb ?hV ?hd ?hl ?h ?c1 ?c2 ?c3 ?c4
  walk_at "enter"
  case hV =>
    intro p hp
    obtain ⟨a, ha, rfl⟩ := List.mem_map.mp hp
    exact ⟨(hown a ha).1, (hown a ha).2, ha⟩
  case hd => rw [rU_keys]; exact hnd
  case h =>
  intro L s1 E' A' m0 F R env Qr
  refine FrB.elim fr ?_; rintro cl t1 t2 t3 v1 v2 cs I hl hcmp
  refine GrB.elim gr ?_; rintro gpl gtk gpas J _ _ _
  walk_at "go"
  refine lostBlocksS gd F.kp (R.less (by decide)) fr ok sc pk hu hu2 hz hts hlt hlen ?_
  intro s2 B2 G2 D xs k R1 hG2 hD hDB hDi hK hks hxl hxv
  have F2 := F.call R1
  rw [F.gens] at hG2
  have hDe : s.heap.get? D = none := F.fresh hD
  have F3 := F.adopt F2 hD hDB hDi
  have hns := hsys D hDe
  clear F F2; have F := F3; clear F3
  walk_at "lift"
  replace gr := gr.mono k
  have k0 := k; clear k
  walk_at "go"
  refine whileStmt fun X => ?_
  refine whileN (fun n s' => ∃ B' m' ct' xs' Vc, n = xs'.length ∧ Kp B2 B' ∧ Fs ⟨ra.flatten, B, s⟩ G2 B' L m' ((D, DicP PR w xs') :: rU ra ct') s' ∧ KeysAt PR w B' xs' ∧ (∀ x ∈ xs', x.2.2 = .bool true) ∧ (∀ k, k ∈ xs'.map (·.1) → k ∈ lotKs d ps lots) ∧
    (∀ k, Dom k → CellC B' ra ct' k (Vc k) ∧ 0 < (Vc k).length) ∧ (∀ V', Conc d Vc (gone xs') V' → Conc d V (fun k => (lotKs d ps lots).contains k) V') ∧ xs'.length ≤ 10000 ∧
    m' (Str.ofString "frame") = some (.ref x) ∧ m' (Str.ofString "grid") = some (.ref g) ∧ m' (Str.ofString "gone") = some (.ref D)) ?_ xs.length ?_
  rotate_left
  · refine ⟨B2, _, ct, xs, V, rfl, .refl _, F, hK, hxv, fun k hk => (hks k).mp hk, fun k hk => ⟨(hV k hk).1.mono k0, (hV k hk).2⟩, fun V' hV' => ?_, hxl, rfl, rfl, rfl⟩
    have : gone xs = fun k => (lotKs d ps lots).contains k := by
      funext k
      rw [Bool.eq_iff_iff]
      unfold gone
      rw [valK_isSome, hks, List.contains_iff_mem]
    rw [← this]; exact hV'
  rintro n s5 E5 hX9; refine ea5_12 hX9 ?_; clear hX9; rintro B5 m5 ct5 xs5 Vc rfl k5 F K5 xv5 ks5 hV5 hC5 hl5 m1 m2 m3
  have k := k5
  walk_at "lift"
  replace gr := gr.mono k; clear k
  have hDB5 : B5.get? D = none := (F.own _ (.head _)).2.1
  walk_at "go"
  refine truDic F F.top hns (by lia) ?_
  clear F; intro s6 F
  cases hemp : xs5.isEmpty with
  | true =>
    rw [show (!true) = false from rfl]; refine ifN Bool.false_ne_true ?_
    walk_at "go"
    have hx0 : xs5 = [] := List.isEmpty_iff.mp hemp
    refine h s6 B5 G2 Vc ct5 (k0.trans k5) F.rs hG2 (hC5 Vc (.stop fun k => ?_)) (fun a ha => F.at (.tail _ (rU_mem ha))) fun k hk => (hV5 k hk).1
    subst hx0; rfl
  | false =>
    rw [show (!false) = true from rfl]; refine ifP rfl ?_
    walk_at "go"
    refine nLstO F ?_
    clear F; intro s7 D2 hD2 F; walk_at "su"
    walk_at "go"
    have hu40 : A'.units + 40 < cLine := by have := R.un; lia
    have hu20 := R.u
    refine for1 F R.hh ?_ (fun _ => rfl)
    walk_at "go"
    refine bSortedDic F R.hh hu40 (F.nth (a := D) 1 rfl) hns K5 hl5 (fun x hx => ?_) ?_
    · obtain ⟨_, c, a, b, _, e⟩ := hgone _ (ks5 _ (List.mem_map_of_mem hx))
      exact ⟨_, _, _, e⟩
    clear F; intro s8 D3 ys hD3 F hys
    refine Fs.frz F hD3 ?_; clear F; intro B8 k hL3 F
    walk_at "lift"; replace gr := gr.mono k; replace K5 := K5.mono k
    have k8 := k; clear k
    refine iLst F (hL3.keeps F.kp) ?_
    clear F; intro s9 it9 hit9 F
    have hyl : ys.length = xs5.length := hys.length_eq
    refine ForTodo.mk (B2 := B8) (B₀ := B8) it9 (nxList (lst_is hL3)) (.refl _) ?_ F (fun i B' m' U' => ∃ rv, U' = (D2, LstP rv) :: (D, DicP PR w xs5) :: rU ra ct5 ∧ RowsAre B' rv (kvsOf1 d Vc (gone xs5) ((ys.take i).map (·.1))) ∧ m' (Str.ofString "frame") = some (.ref x) ∧ m' (Str.ofString "grid") = some (.ref g) ∧ m' (Str.ofString "gone") = some (.ref D) ∧ m' (Str.ofString "rows") = some (.ref D2)) ⟨[], rfl, .nil, m1, m2, m3, rfl⟩ ?_
    · intro i p hp
      rcases List.mem_singleton.mp hp with rfl; exact hit9
    intro Iv
    refine ⟨?_, ?_, ?_⟩
    · rintro i B' B'' m' U' hX9; refine ea1_3 hX9 ?_; clear hX9; rintro rv h1 h2 h3 k
      exact ⟨rv, h1, h2.mono k, h3⟩
    · rintro i v B10 m10 U10 s10 E10 hi k hX9; refine ea1_6 hX9 ?_; clear hX9; rintro rv rfl hrv n1 n2 n3 n4 hv F
      walk_at "su"
      have hi' : i < ys.length := by simpa using hi
      have hv' : v = .ref ys[i].2.1 := by
        rw [List.getElem?_map, List.getElem?_eq_getElem hi'] at hv
        exact (Option.some.inj hv).symm
      subst hv'
      have hmem : ys[i] ∈ xs5 := hys.mem_iff.mp (List.getElem_mem hi')
      refine anE2 (hgone _ (ks5 _ (List.mem_map_of_mem hmem))) ?_; rintro hDk hX9; refine ea3_2 hX9 ?_; clear hX9; rintro c a b hc hkey
      have htk := K5 _ hmem
      rw [hkey] at htk
      refine ea3_1 (tupAt_out3 htk) ?_; rintro u1 u2 u3 hti
      have hgn : gone xs5 [(c : Int), a, b] = true := by
        unfold gone; rw [valK_isSome, ← hkey]; exact List.mem_map_of_mem hmem
      have hstep : (ys.take (i + 1)).map (·.1) = (ys.take i).map (·.1) ++ [[(c : Int), a, b]] := by
        rw [List.take_add_one, List.getElem?_eq_getElem hi', List.map_append, ← hkey]; rfl
      walk_at "lift"; replace gr := gr.mono k; replace K5 := K5.mono k; replace hti := hti.keeps k
      have k10 := k; clear k
      walk_at "go"
      refine knownSidesS gd F.kp (R.less (by decide)) fr ok hc (show Is _ D _ by walk_at "at") hns (F.own (D, DicP PR w xs5) (by first | exact nthU_mem (k := 0) rfl | exact nthU_mem (k := 1) rfl | exact nthU_mem (k := 2) rfl | exact nthU_mem (k := 3) rfl)).2.1 K5 ?_
      intro s11 B11 l11 vs11 k R1 hl11 ht11; replace F := F.did R1; walk_at "lift"; replace gr := gr.mono k; replace K5 := K5.mono k
      have k11 := k; clear k
      walk_at "go"
      refine nLstP F ?_
      clear F; intro s12 B12 l12 k hl12 F; walk_at "lift"; replace gr := gr.mono k; replace K5 := K5.mono k; replace hl11 := hl11.keeps k; replace ht11 := ht11.mono k
      have k12 := k; clear k
      walk_at "go"
      refine bNeNil hu20 (hl11.keeps F.kp) (hl12.keeps F.kp) ?_
      walk_at "go"
      have hsk : sidesK d (gone xs5) [(c : Int), a, b] = sidesOf d (gone xs5) c a b := rfl
      have hlen11 := ht11.length
      have kq := (k10.trans k11).trans k12
      cases hve : vs11.isEmpty with
      | true =>
        rw [show (!true) = false from rfl]
        walk_at "go"
        have hs0 : sidesOf d (gone xs5) c a b = [] := by
          have : vs11 = [] := List.isEmpty_iff.mp hve
          rw [this] at hlen11; exact List.length_eq_zero_iff.mp hlen11.symm
        have hact : act d (gone xs5) [(c : Int), a, b] = false := by
          unfold act; rw [hsk, hs0]; simp
        refine TurnQ.mk (.inl rfl) kq F ⟨rv, rfl, ?_, n1, n2, n3, n4⟩
        unfold kvsOf1
        rw [hstep, List.filter_append]
        simp only [List.filter_cons, hact, Bool.false_eq_true, if_false, List.filter_nil, List.append_nil]
        exact hrv.mono (k11.trans k12)
      | false =>
        rw [show (!false) = true from rfl]
        walk_at "go"
        have hs0 : 0 < (sidesOf d (gone xs5) c a b).length := by
          rw [← hlen11]
          cases vs11 with
          | nil => cases hve
          | cons _ _ => exact Nat.succ_pos _
        have hact : act d (gone xs5) [(c : Int), a, b] = true := by
          unfold act; rw [hsk, hgn]
          cases q : sidesOf d (gone xs5) c a b with
          | nil => rw [q] at hs0; exact absurd hs0 (by decide)
          | cons _ _ => rfl
        refine mAppend (show Is _ D2 (LstP rv) by walk_at "at") ?_
        walk_at "go"
        refine smoothRowS (V := Vc) gd F.kp (R.less (by decide)) gr hl11 ht11 hs0 (Nat.le_trans sidesOf_len (by decide)) (fun k hk => ?_) ?_
        · refine ea2_2 (sidesOf_mem hk) ?_; rintro a' b' rfl hin
          have hD' := hdom c a' b' hc hin
          exact ⟨((hV5 _ hD').1.mono ((k8.trans kq))).at fun a ha => F.at (.tail _ (.tail _ (.tail _ (rU_mem ha)))), (hV5 _ hD').2⟩
        intro s13 B13 l13 vs13 k R1 hl13 hi13; replace F := F.did R1; walk_at "lift"
        have k13 := k; clear k
        walk_at "go"
        have hrl : rv.length ≤ 100000 := by
          rw [hrv.1]; unfold kvsOf1
          rw [List.length_map]
          refine Nat.le_trans (List.length_filter_le _ _) ?_
          rw [List.length_map, List.length_take]; lia
        refine aList F.swap hrl ?_
        clear F; intro s14 F
        replace F := F.swap; walk_at "su"
        walk_at "go"
        refine TurnQ.mk (.inl rfl) ((kq.trans k13).trans k) F ⟨_, rfl, ?_, n1, n2, n3, n4⟩
        have e1 : kvsOf1 d Vc (gone xs5) ((ys.take (i + 1)).map (·.1)) = kvsOf1 d Vc (gone xs5) ((ys.take i).map (·.1)) ++ [([(c : Int), a, b], newV d Vc (gone xs5) [(c : Int), a, b])] := by
          unfold kvsOf1
          rw [hstep, List.filter_append, List.map_append]
          simp only [List.filter_cons, hact, if_true, List.filter_nil, List.map_cons, List.map_nil]
        rw [e1]
        exact (hrv.mono (((k11.trans k12).trans k13).trans k)).snoc ⟨_, _, _, _, _, _, _, _, _, rfl, rfl, ht, hl13.keeps k, hi13⟩
    · rintro B10 m10 U10 s10 k10 hX9; refine ea1_6 hX9 ?_; clear hX9; rintro rv rfl hrv n1 n2 n3 n4 F
      walk_at "su"
      have htk : ys.take (ys.map fun x : List Int × Addr × Value => Value.ref x.2.1).length = ys := List.take_of_length_le (by rw [List.length_map]; exact Nat.le_refl _)
      rw [htk] at hrv
      have k := k10
      walk_at "lift"; replace gr := gr.mono k; replace K5 := K5.mono k; clear k
      generalize hkv : kvsOf1 d Vc (gone xs5) (ys.map (·.1)) = kvs at hrv
      have hact : ∀ k, k ∈ kvs.map (·.1) ↔ act d (gone xs5) k = true := fun k => by
        rw [← hkv]; unfold kvsOf1
        rw [List.map_map]
        constructor
        · intro hk
          obtain ⟨k', hk', rfl⟩ := List.mem_map.mp hk
          exact (List.mem_filter.mp hk').2
        · intro hk
          refine List.mem_map.mpr ⟨k, List.mem_filter.mpr ⟨?_, hk⟩, rfl⟩
          have : gone xs5 k = true := by unfold act at hk; exact (Bool.and_eq_true_iff.mp hk).1
          unfold gone at this
          rw [valK_isSome] at this
          exact (hys.map (·.1)).mem_iff.mpr this
      have hkv2 : ∀ kv ∈ kvs, kv.2 = newV d Vc (gone xs5) kv.1 := fun kv hk => by
        rw [← hkv] at hk
        obtain ⟨k', _, rfl⟩ := List.mem_map.mp hk
        rfl
      walk_at "go"
      refine nLstP F ?_
      clear F; intro s11 B11 l11 k hl11 F; walk_at "lift"; replace gr := gr.mono k; replace K5 := K5.mono k; replace hrv := hrv.mono k
      have k11 := k; clear k
      walk_at "go"
      refine bEqNil hu20 (F.nth (a := D2) (P := LstP rv) 0 rfl) (hl11.keeps F.kp) ?_
      walk_at "go"
      have kq := ((k0.trans k5).trans k8).trans (k10.trans k11)
      cases hre : rv.isEmpty with
      | true =>
        refine ifP rfl ?_
        walk_at "go"
        have hk0 : kvs = [] := by
          have : rv = [] := List.isEmpty_iff.mp hre
          rw [this] at hrv; exact List.length_eq_zero_iff.mp hrv.1.symm
        refine h s11 B11 G2 Vc ct5 kq F.rs hG2 (hC5 Vc (.stop fun k => ?_)) (fun a ha => F.at (.tail _ (.tail _ (rU_mem ha)))) fun k hk => (hV5 k hk).1.mono (k8.trans (k10.trans k11))
        cases q : act d (gone xs5) k with
        | false => rfl
        | true => have := (hact k).mpr q; rw [hk0] at this; exact nomatch this
      | false =>
        refine ifN Bool.false_ne_true ?_
        walk_at "go"
        refine Fs.frz F hD2 ?_; clear F; intro B12 k hL2 F
        walk_at "lift"; replace gr := gr.mono k; replace K5 := K5.mono k; replace hrv := hrv.mono k
        have k12 := k; clear k
        have hkn : (kvs.map (·.1)).Nodup := by
          rw [← hkv]; unfold kvsOf1
          rw [List.map_map]
          have : ((fun x : List Int × List Int => x.1) ∘ fun k => (k, newV d Vc (gone xs5) k)) = id := rfl
          rw [this, List.map_id]
          refine List.Nodup.sublist List.filter_sublist ?_
          obtain ⟨o, _, hdp⟩ := F.top
          exact ((hys.map (·.1)).nodup_iff).mpr hdp.nodup
        have hk1 : 0 < kvs.length := by
          rw [← hrv.1]
          cases rv with
          | nil => cases hre
          | cons _ _ => exact Nat.succ_pos _
        refine for1 F R.hh ?_ (fun _ => rfl)
        walk_at "go"
        refine iLst F (hL2.keeps F.kp) ?_
        clear F; intro s13 it13 hit13 F
        have hV12 : ∀ k, Dom k → CellC B12 ra ct5 k (Vc k) ∧ 0 < (Vc k).length := fun k hk => ⟨(hV5 k hk).1.mono (k8.trans (k10.trans (k11.trans k12))), (hV5 k hk).2⟩
        refine ForTodo.mk (B2 := B12) (B₀ := B12) (n := rv.length) it13 (nxList (lst_is hL2)) (.refl _) ?_ F (fun j B' m' U' => ∃ ct2 xs2, U' = (D, DicP PR w xs2) :: rU ra ct2 ∧ KeysAt PR w B' xs2 ∧ (∀ x ∈ xs2, x.2.2 = .bool true) ∧ (∀ k, k ∈ xs2.map (·.1) ↔ k ∈ xs5.map (·.1) ∧ k ∉ (kvs.take j).map (·.1)) ∧ xs2.length + j ≤ xs5.length ∧ (∀ k, Dom k → CellC B' ra ct2 k (putKs Vc (kvs.take j) k) ∧ 0 < (putKs Vc (kvs.take j) k).length) ∧ m' (Str.ofString "frame") = some (.ref x) ∧ m' (Str.ofString "grid") = some (.ref g) ∧ m' (Str.ofString "gone") = some (.ref D)) (exI2 ct5 xs5 ⟨rfl, K5, xv5, (fun k => by simp), Nat.le_refl _, hV12, n1, n2, n3⟩) ?_
        · intro i p hp
          rcases List.mem_singleton.mp hp with rfl; exact hit13
        intro Iv
        refine ⟨?_, ?_, ?_⟩
        · rintro i B' B'' m' U' hEx k
          refine ea2_7 hEx ?_
          clear hEx; rintro ct2 xs2 h1 h2 h3 h4 h5 h6 h7
          exact exI2 ct2 xs2 ⟨h1, h2.mono k, h3, h4, h5, fun k' hk' => ⟨(h6 k' hk').1.mono k, (h6 k' hk').2⟩, h7⟩
        · rintro j v B14 m14 U14 s14 E14 hj k hEx hv F
          refine ea2_9 hEx ?_
          clear hEx; rintro ct2 xs2 rfl K2 xv2 hks2 hl2 hV2 o1 o2 o3
          walk_at "su"
          have hj' : j < kvs.length := by rw [← hrv.1]; exact hj
          obtain ⟨v', hv', hRT⟩ := hrv.2 j kvs[j] (List.getElem?_eq_getElem hj'); refine ea9_5 hRT ?_; clear hRT; rintro tt c0 x0 y0 u1 u2 u3 ll lvv rfl hkey hti hll hli
          rw [hv] at hv'; cases hv'
          have hkm : kvs[j].1 ∈ kvs.map (·.1) := List.mem_map_of_mem (List.getElem_mem hj')
          have hact2 := (hact _).mp hkm
          have hg2 : gone xs5 kvs[j].1 = true := by unfold act at hact2; exact (Bool.and_eq_true_iff.mp hact2).1
          have hin5 : kvs[j].1 ∈ xs5.map (·.1) := by unfold gone at hg2; rwa [valK_isSome] at hg2
          obtain ⟨hDk, _⟩ := hgone _ (ks5 _ hin5)
          obtain ⟨hCk, hCl⟩ := hV2 _ hDk
          refine ea7_7 hCk ?_; rintro p c r row a vc oc hke g1 g2 g3 g4 g5 g6
          have hke2 := hke
          rw [hkey] at hke2
          obtain ⟨rfl, rfl, rfl⟩ : c0 = (p : Int) ∧ x0 = (c : Int) ∧ y0 = (r : Int) := by
            injection hke2 with q1 q; injection q with q2 q; injection q with q3 _; exact ⟨q1, q2, q3⟩
          have hstep : kvs.take (j + 1) = kvs.take j ++ [kvs[j]] := by rw [List.take_add_one, List.getElem?_eq_getElem hj']; rfl
          have hfresh : kvs[j].1 ∉ (kvs.take j).map (·.1) := by
            have hn2 := hkn
            rw [← List.take_append_drop j kvs, List.map_append, List.nodup_append] at hn2
            intro q
            refine hn2.2.2 _ q _ ?_ rfl
            rw [List.drop_eq_getElem_cons hj']; exact .head _
          have hlen2 : kvs[j].2.length ≤ 1000 := by
            rw [hkv2 _ (List.getElem_mem hj')]; exact (by decide : 4 ≤ 1000)
          have hnv : 0 < kvs[j].2.length := by
            rw [hkv2 _ (List.getElem_mem hj')]; exact (by decide : 0 < 4)
          walk_at "lift"; replace gr := gr.mono k; replace hti := hti.keeps k; replace hll := hll.keeps k
          have k14 := k; clear k
          walk_at "go"
          have hrow : a ∈ ra.flatten := mem_flat g1 g2
          have ha : (a, LsqP (ct2 a)) ∈ rU ra ct2 := rU_mem hrow
          have hFa := F.own _ (.tail _ (.tail _ ha))
          refine putS gd F.kp (R.less (by decide)) gr g1 g2 hFa.1 hFa.2.1 (List.getElem?_eq_some_iff.mp g3).1 hll hli g5 hlen2 ?_
          intro s15 B15 vn k R1 hcv hnew
          have pm : ((it13, LItP D2 (j + 1)) :: (D, DicP PR w xs2) :: rU ra ct2).Perm ((a, LsqP (ct2 a)) :: (it13, LItP D2 (j + 1)) :: (D, DicP PR w xs2) :: rRest ra a ct2) := by
            have p1 := (((rU_out (ct := ct2) hrow).cons (D, DicP PR w xs2)).cons (it13, LItP D2 (j + 1)))
            exact p1.trans (((List.Perm.swap (a, LsqP (ct2 a)) (D, DicP PR w xs2) _).cons _).trans (List.Perm.swap (a, LsqP (ct2 a)) (it13, LItP D2 (j + 1)) _))
          have F15 := (F.perm pm).did1 R1 hnew
          have pm2 : ((a, LsqP ((ct2 a).set c vn)) :: (it13, LItP D2 (j + 1)) :: (D, DicP PR w xs2) :: rRest ra a ct2).Perm ((it13, LItP D2 (j + 1)) :: (D, DicP PR w xs2) :: rU ra (upd ct2 a ((ct2 a).set c vn))) := by
            have e1 : upd ct2 a ((ct2 a).set c vn) a = (ct2 a).set c vn := if_pos rfl
            have p1 := (((rU_out (ct := upd ct2 a ((ct2 a).set c vn)) hrow).cons (D, DicP PR w xs2)).cons (it13, LItP D2 (j + 1)))
            rw [rRest_upd hnd, e1] at p1
            exact ((List.Perm.swap (it13, LItP D2 (j + 1)) (a, LsqP ((ct2 a).set c vn)) _).trans ((List.Perm.swap (D, DicP PR w xs2) (a, LsqP ((ct2 a).set c vn)) _).cons _)).trans p1.symm
          have F16 := F15.perm pm2
          clear F F15; have F := F16; clear F16
          walk_at "lift"; replace gr := gr.mono k
          have K2' := (K2.mono k)
          have k15 := k; clear k
          walk_at "go"
          obtain ⟨od, hod, hdp⟩ := F.nth (a := D) (P := DicP PR w xs2) 1 rfl
          refine mDic hod hdp.1 PySem.F.slot_dict_pop PySem.F.type_dict_pop ?_
          refine PyProof.Rows.callWith_method1 ?_
          walk_at "go"
          have hval : ∃ v, valK xs2 [(p : Int), (c : Int), (r : Int)] = some v := by
            have : kvs[j].1 ∈ xs2.map (·.1) := (hks2 _).mpr ⟨hin5, hfresh⟩
            rw [← valK_isSome, hke] at this
            exact Option.isSome_iff_exists.mp this
          obtain ⟨vv, hvv⟩ := hval
          have hvt : vv = .bool true := by
            unfold valK at hvv
            obtain ⟨pp, hpp, rfl⟩ := Option.map_eq_some_iff.mp hvv
            unfold atKey at hpp
            obtain ⟨xx, hxx, rfl⟩ := Option.map_eq_some_iff.mp hpp
            exact xv2 xx (List.mem_of_find?_eq_some hxx)
          subst hvt
          refine bPop F.swap hu20 (K2'.mono k) (tupAt_in3 ht) (by lia) hvv ?_
          clear F; intro s17 F
          replace F := F.swap
          walk_at "go"
          have hput : putKs Vc (kvs.take (j + 1)) = putK (putKs Vc (kvs.take j)) kvs[j] := by
            rw [hstep]; unfold putKs; rw [List.foldl_append]; rfl
          refine TurnQ.mk (.inl rfl) (k14.trans (k15.trans k)) F (exI2 _ (remK xs2 [(p : Int), (c : Int), (r : Int)]) ⟨rfl, (K2'.mono k).rem, fun x hx => xv2 x (List.mem_filter.mp hx).1, fun k' => ?_, ?_, fun k' hk' => ?_, o1, o2, o3⟩)
          · rw [keys_rem, hks2, hstep, List.map_append, List.mem_append]
            simp only [List.map_cons, List.map_nil, List.mem_singleton, hke]
            constructor
            · rintro ⟨q1, q2, q3⟩
              exact ⟨q2, fun q => q.elim q3 q1⟩
            · rintro ⟨q1, q2⟩
              exact ⟨fun q => q2 (.inr q), q1, fun q => q2 (.inl q)⟩
          · have : (remK xs2 [(p : Int), (c : Int), (r : Int)]).length < xs2.length := by
              have hm : [(p : Int), (c : Int), (r : Int)] ∈ xs2.map (·.1) := by rw [← valK_isSome, hvv]; rfl
              obtain ⟨xx, hx1, hx2⟩ := List.mem_map.mp hm
              unfold remK
              refine List.length_filter_lt_length_iff_exists.mpr ⟨xx, hx1, ?_⟩
              simpa using hx2
            lia
          · rw [hput]
            unfold putK
            have hq := hV2 k' hk'
            have := CellC.put hnd g1 g2 (List.getElem?_eq_some_iff.mp g3).1 g5 hcv ((hq.1.mono k15))
            rw [hke]
            by_cases e : k' = [(p : Int), (c : Int), (r : Int)]
            · rw [if_pos e] at this ⊢; exact ⟨this.mono k, hnv⟩
            · rw [if_neg e] at this ⊢; exact ⟨this.mono k, hq.2⟩
        · rintro B14 m14 U14 s14 k14 hEx F
          refine ea2_9 hEx ?_
          clear hEx; rintro ct2 xs2 rfl K2 xv2 hks2 hl2 hV2 o1 o2 o3
          walk_at "su"
          have htk2 : kvs.take rv.length = kvs := List.take_of_length_le (by rw [hrv.1]; exact Nat.le_refl _)
          rw [htk2] at hks2 hV2
          have hVs : putKs Vc kvs = stepV d Vc (gone xs5) := by
            funext k
            rw [putKs_get (f := newV d Vc (gone xs5)) kvs Vc k hkv2]
            unfold stepV
            by_cases q : act d (gone xs5) k = true
            · rw [if_pos ((hact k).mpr q), if_pos q]
            · rw [if_neg (fun z => q ((hact k).mp z)), if_neg q]
          have hGs : gone xs2 = stepG d (gone xs5) := by
            funext k
            rw [Bool.eq_iff_iff]
            unfold stepG
            rw [Bool.and_eq_true, Bool.not_eq_true']
            have e1 : gone xs2 k = true ↔ k ∈ xs2.map (·.1) := by unfold gone; exact valK_isSome
            have e2 : gone xs5 k = true ↔ k ∈ xs5.map (·.1) := by unfold gone; exact valK_isSome
            rw [e1, hks2, e2, hact]
            simp
          walk_at "go"
          have hll2 : rv.length = kvs.length := hrv.1
          refine ⟨xs2.length, by lia, B14, m14, ct2, xs2, putKs Vc kvs, rfl, (k5.trans (k8.trans (k10.trans (k11.trans k12)))).trans k14, F, K2, xv2, fun k hk => ks5 k ((hks2 k).mp hk).1, hV2, fun V' hV' => hC5 V' (.step ?_ ?_), by lia, o1, o2, o3⟩
          · have hm : kvs[0].1 ∈ kvs.map (·.1) := List.mem_map_of_mem (List.getElem_mem hk1)
            exact ⟨_, (hact _).mp hm⟩
          · rw [← hVs, ← hGs]; exact hV'
end
section
noncomputable def blank (p : Addr × Nat) : Addr × (Obj → Prop) := (p.1, LsqP (List.replicate p.2 Value.none))
/-- planes as they are laid: the rows' addresses, each with its width -/
structure Laid (d : FrD) (n : Nat) (ra : List (List Addr)) (l : List (Addr × Nat)) : Prop where
  len : ra.length = n
  keys : l.map (·.1) = ra.flatten
  row : ∀ (p : Nat) row, ra[p]? = some row → (row.length : Int) = d.wD * (d.at p).2 ∧ ∀ a ∈ row, ∃ k, (a, k) ∈ l ∧ (k : Int) = d.wA * (d.at p).1

section
variable {w : World} {A : Around} {E : Value → Shared → Prop} {s : Shared} {e : En} {G : Array GenState} {B : Heap} {L : Addr} {m : Str → Option Value} {U : Own}
set_option maxHeartbeats 4000000 in
theorem nGrid {f : Addr} {d : FrD} {Q : Value → Shared → Prop} (F : Fs e G B L m U s) (gd : Gd w B) (rm : Rm A 7) (fr : FrB B f d) (ok : d.Ok) (hw : 0 ≤ d.wA * 2 ∧ d.wA ≤ 100 ∧ 0 ≤ d.wD ∧ d.wD ≤ 100 ∧ 0 ≤ d.wA)
    (h : ∀ s' B' x ra l, Kp B B' → GrB B' x ra → Laid d d.sm.length ra l → Fs e G B' L m (l.map blank ++ U) s' → Q (.ref x) s') : wpAny (model PR w) A (call (.ref 210) [.ref f]) Q E s := by
  refine cInst F gd rm (okGrid w) (fI := 193) (by k_is) (by k_is) ?_
  intro s1 A1 x dx B1 k hx0 hd1 hd2 F1 R1
  have gd0 := gd.mono k
  have fr0 := fr.mono k
  have hown := F1.own _ (.head _)
  refine' enterC0 (n := 5) (binds := [(Str.ofString "self", .ref x), (Str.ofString "frame", .ref f)]) [dx] [(dx, Atts [])] gd0 F1.kp R1 ?ho ?hcd ?hb ?hV ?hd ?hk ?hnd ?h ?c1 ?c2 ?c3
  case ho => k_is
  case hcd => k_is
  case hb => rfl
  case c1 => rfl
  case c2 => rfl
  case c3 => rfl
  case hV => intro p hp; rcases List.mem_singleton.mp hp with rfl; exact ⟨hown.1, hown.2.1, .head _⟩
  case hd => simp
  case hnd => decide
  case hk =>
    intro n y hy
    simp only [List.mem_cons, List.not_mem_nil, or_false] at hy
    rcases hy with rfl | rfl
    · exact .inl rfl
    · exact .inl rfl
  case h =>
  have FF := F1
  clear F F1
  intro L2 s2 E' A' m0 F R env Qr
  replace F : Fs _ _ B1 L2 _ [(L2 + 1, CelP none), (dx, Atts [])] s2 := F
  replace F := F.swap
  have gdd := gd; clear gd; have gd := gd0
  have frr := fr; clear fr; have fr := fr0
  refine FrB.elim fr ?_; rintro cl t1 t2 t3 v1 v2 cs I hl hc
  walk_at "go"
  refine nLstO F ?_
  clear F; intro s3 pl hplN F
  replace F := F.swap; walk_at "su"
  walk_at "go"
  refine for1 F R.hh ?_ (fun _ => rfl)
  walk_at "go"
  refine bLenL F (hl.keeps F.kp) (by have := ok.le; have := hc.1; lia) ?_
  clear F; intro s4 t4 F
  walk_at "go"
  refine bRange1 F ?_
  have kq := k; clear k
  clear F; intro s5 B5 r5 k hr F; walk_at "lift"
  have hx1 := hx0
  replace hx0 := k _ _ hx0
  have k5 := k; clear k
  refine iRng0 (n := d.sm.length) F hr (by rw [hc.1]) (by have := ok.le; lia) ?_
  clear F; intro s6 it6 hit6 F
  obtain ⟨tq, rfl⟩ : ∃ q, q = t' := ⟨_, rfl⟩
  refine ForTodo.mk (B2 := B5) (B₀ := B5) (n := d.sm.length) it6 (nxRange0 d.sm.length) (.refl _) ?_ F (fun i B' m' U' => ∃ pas ra l cv, U' = (dx, Atts [("planes", .ref pl), ("many", .int (2 * 2) tq)]) :: (pl, LstP pas) :: (L2 + 1, CelP cv) :: l.map blank ∧ Laid d i ra l ∧ pas.length = i ∧ (∀ (p : Nat) row, ra[p]? = some row → ∃ a, pas[p]? = some (Value.ref a) ∧ Is B' a (LstP (row.map Value.ref))) ∧ m' (Str.ofString "self") = some (.ref x) ∧ m' (Str.ofString "frame") = some (.ref f)) (exI4 [] [] [] _ ⟨rfl, ⟨rfl, rfl, fun p row h => nomatch h⟩, rfl, (fun p row h => nomatch h), rfl, rfl⟩) ?_
  · intro i p hp
    rcases List.mem_singleton.mp hp with rfl; exact hit6
  intro Iv
  refine ⟨?_, ?_, ?_⟩
  · rintro i B' B'' m' U' hEx k
    refine ea4_5 hEx ?_
    clear hEx; rintro pas ra l cv h1 h2 h3 h4 h5
    exact exI4 pas ra l cv ⟨h1, h2, h3, fun p row hp => let ⟨a, q1, q2⟩ := h4 p row hp; ⟨a, q1, q2.keeps k⟩, h5⟩
  · rintro i v B7 m7 U7 s7 E7 hi k hEx ⟨tv, rfl⟩ F
    refine ea4_6 hEx ?_
    clear hEx; rintro pas ra l cv rfl hLd hpl hpa n1 n2
    walk_at "su"
    have hpi := FrD.at_get hi
    have hbd := ok.bd _ (List.mem_of_getElem? hpi)
    walk_at "lift"
    have hx7 := k _ _ hx0
    have k7 := k; clear k
    walk_at "go"
    have hle := ok.le
    refine paddedS gd F.kp (R.less (by decide)) fr ok hpi (by lia) ?_
    intro s8 B8 tt a8 b8 k R1' ht; replace F := F.did R1'; walk_at "lift"
    have hx8 := k _ _ hx7
    have k8 := k; clear k
    walk_at "go"
    refine sCell (x := Str.ofString "across") F.f4 ?_
    clear F; intro s9 F
    replace F := F.b4; walk_at "su"
    walk_at "go"
    refine aGet F gd ⟨dx, F.kp _ _ hx8, F.nth (a := dx) 1 rfl⟩ (okGrid w) rfl (by k_is) (by k_is) rfl ?_
    clear F; intro s10 F _
    refine mAppend (show Is _ pl (LstP pas) by walk_at "at") ?_
    walk_at "go"
    refine listComp1 (cl := [(Str.ofString "across", L2 + 1)]) F R.hh ?_ F.lg rfl (by decide) rfl (by decide) (fun _ => rfl)
    walk_at "go"
    refine bRange1 F ?_
    clear F; intro s11 B11 r11 k hr11 F; walk_at "lift"
    have hx11 := k _ _ hx8
    have k11 := k; clear k
    have hwd : 0 ≤ d.wD * (d.at i).2 ∧ d.wD * (d.at i).2 ≤ 200 := by
      have h2 : (d.at i).2 = 1 ∨ (d.at i).2 = 2 := by lia
      rcases h2 with h2 | h2 <;> rw [h2] <;> lia
    have hwa : 0 ≤ d.wA * (d.at i).1 ∧ d.wA * (d.at i).1 ≤ 200 := by
      have h2 : (d.at i).1 = 1 ∨ (d.at i).1 = 2 := by lia
      rcases h2 with h2 | h2 <;> rw [h2] <;> lia
    refine iRng0 (n := (d.wD * (d.at i).2).toNat) F hr11 (by lia) (by lia) ?_
    clear F; intro s12 it12 hit12 F
    refine CompTodo.mk (B2 := B11) (B₀ := B11) (n := (d.wD * (d.at i).2).toNat) it12 (nxRange0 _) (.refl _) ?_ F (fun j B' ys U' => ∃ nl : List (Addr × Nat), ys = nl.map (fun p => Value.ref p.1) ∧ nl.length = j ∧ (∀ p ∈ nl, (p.2 : Int) = d.wA * (d.at i).1) ∧ U'.Perm (nl.map blank ++ ((it6, RItP (0 + (i + 1 : Nat)) (d.sm.length - (i + 1 : Nat)) 1) :: (dx, Atts [("planes", .ref pl), ("many", .int (2 * 2) tq)]) :: (pl, LstP pas) :: (L2 + 1, CelP (some (.int (d.wA * (d.at i).1) a8))) :: l.map blank))) ⟨[], rfl, rfl, (fun _ h => nomatch h), .refl _⟩ ?_
    · intro i p hp
      rcases List.mem_singleton.mp hp with rfl; exact hit12
    intro Iv
    refine ⟨fun _ _ _ _ _ h _ => h, ?_, ?_⟩
    · rintro C D j v B13 m13 ys U13 s13 E13 hC hj k hX9; refine ea1_4 hX9 ?_; clear hX9; rintro nl rfl hnl hnw hperm hv F
      walk_at "su"
      obtain ⟨tv2, rfl⟩ := hv
      walk_at "lift"
      have k13 := k; clear k
      walk_at "go"
      refine nLstO F ?_
      clear F; intro s14 D1 hD1 F; walk_at "su"
      have hcm : (L2 + 1, CelP (some (.int (d.wA * (d.at i).1) a8))) ∈ U13 := hperm.mem_iff.mpr (by simp)
      refine eCell (F.at (List.mem_append_right [_, _, _, _] hcm)) ?_ rfl rfl
      refine lMul F F.top hwa.1 (by lia) ?_
      clear F; intro s15 D' hD' F
      have F2 := (F.dropC.weak (P' := LsqP (List.replicate (d.wA * (d.at i).1).toNat Value.none)) fun o => LstP.lsq).b4
      have hnl2 : nl.length ≤ 1000 := by lia
      refine ⟨by simp; lia, B13, _, _, k13, F2, nl ++ [(D', (d.wA * (d.at i).1).toNat)], by simp, by simp [hnl], ?_, ?_⟩
      · intro p hp
        rcases List.mem_append.mp hp with hp | hp
        · exact hnw p hp
        · rcases List.mem_singleton.mp hp with rfl
          show ((d.wA * (d.at i).1).toNat : Int) = _; lia
      · rw [List.map_append, List.append_assoc]
        have p1 := hperm.cons (D', LsqP (List.replicate (d.wA * (d.at i).1).toNat Value.none))
        exact p1.trans List.perm_middle.symm
    · rintro B13 ys U13 k hX9; refine ea1_4 hX9 ?_; clear hX9; rintro nl rfl hnl hnw hperm D s13 hD F
      walk_at "su"
      walk_at "lift"
      have k13 := k; clear k
      walk_at "go"
      refine Fs.frz F hD ?_; clear F; intro B14 k hDl F
      walk_at "lift"
      have k14 := k; clear k
      have p1 : U13.Perm ((pl, LstP pas) :: (it6, RItP (0 + (i + 1 : Nat)) (d.sm.length - (i + 1 : Nat)) 1) :: (dx, Atts [("planes", .ref pl), ("many", .int (2 * 2) tq)]) :: (L2 + 1, CelP (some (.int (d.wA * (d.at i).1) a8))) :: (l ++ nl).map blank) := by
        refine hperm.trans (List.perm_append_comm.trans ?_)
        have e1 : (l ++ nl).map blank = l.map blank ++ nl.map blank := List.map_append
        rw [e1]
        exact List.perm_middle (l₁ := [_, _])
      refine aList (F.perm p1) (by lia) ?_
      clear F; intro s15 F
      replace F := F.b3; walk_at "su"
      walk_at "go"
      have hrl : (nl.map (·.1)).length = nl.length := List.length_map _
      refine TurnQ.mk (.inl rfl) ((k7.trans k8).trans (k11.trans (k13.trans k14))) F (exI4 (pas ++ [.ref D]) (ra ++ [nl.map (·.1)]) (l ++ nl) _ ⟨rfl, ⟨by simp [hLd.len], ?_, fun p row hp => ?_⟩, by simp [hpl], fun p row hp => ?_, n1, n2⟩)
      · rw [List.map_append, hLd.keys, List.flatten_append]; simp
      · by_cases c : p < ra.length
        · rw [List.getElem?_append_left c] at hp
          obtain ⟨q1, q2⟩ := hLd.row p row hp
          exact ⟨q1, fun a ha => let ⟨k, q3, q4⟩ := q2 a ha; ⟨k, List.mem_append_left _ q3, q4⟩⟩
        · rw [List.getElem?_append_right (by lia)] at hp
          have hp0 : p - ra.length = 0 := by
            have := (List.getElem?_eq_some_iff.mp hp).1
            simp at this; lia
          rw [hp0] at hp
          have : p = i := by have := hLd.len; lia
          subst this
          cases hp
          refine ⟨by rw [hrl, hnl]; lia, fun a ha => ?_⟩
          obtain ⟨q, hq, rfl⟩ := List.mem_map.mp ha
          exact ⟨q.2, List.mem_append_right _ hq, hnw q hq⟩
      · by_cases c : p < ra.length
        · rw [List.getElem?_append_left c] at hp
          obtain ⟨a, q1, q2⟩ := hpa p row hp
          exact ⟨a, by rw [List.getElem?_append_left (by have := hLd.len; lia)]; exact q1, q2.keeps (k8.trans (k11.trans (k13.trans k14)))⟩
        · rw [List.getElem?_append_right (by lia)] at hp
          have hp0 : p - ra.length = 0 := by
            have := (List.getElem?_eq_some_iff.mp hp).1
            simp at this; lia
          rw [hp0] at hp
          cases hp
          refine ⟨D, ?_, ?_⟩
          · have e2 : p - pas.length = 0 := by have := hLd.len; lia
            rw [List.getElem?_append_right (by have := hLd.len; lia), e2]; rfl
          · rw [List.map_map]; exact hDl
  · rintro B7 m7 U7 s7 k7 hEx F
    refine ea4_6 hEx ?_
    clear hEx; rintro pas ra l cv rfl hLd hpl hpa n1 n2
    walk_at "su"
    walk_at "go"
    refine ⟨rfl, ?_⟩
    refine Fs.frz F.swap hplN ?_; intro B8 k8 hpl8 F8
    have F9 := FF.did1 F8.rs F8.top
    obtain ⟨B10, k10, hdx10, F10, hne⟩ := F9.freezeX hd1
    have F11 := FF.drop.adopts (l.map blank) F10 (fun p hp => ?_) ?_
    · refine h _ _ _ _ _ (kq.trans (k5.trans (k7.trans (k8.trans k10)))) ⟨pl, tq, pas, ⟨dx, (k7.trans (k8.trans k10)) _ _ hx0, hdx10⟩, hpl8.keeps k10, by rw [hpl, hLd.len], fun p row hp => let ⟨a, q1, q2⟩ := hpa p row hp; ⟨a, q1, q2.keeps (k8.trans k10)⟩⟩ hLd F11
    · have ho := F8.own p (.tail _ (.tail _ hp))
      have hdis := F8.dis
      have hpd : p.1 ≠ dx := fun e => by
        rw [List.map_cons, List.nodup_cons] at hdis
        exact hdis.1 (List.mem_map.mpr ⟨p, .tail _ hp, e⟩)
      refine ⟨?_, by rw [hne _ hpd]; exact ho.2.1, ho.1⟩
      rcases ho.2.2.2 with q | q
      · exact q
      · exact absurd (List.mem_singleton.mp q) hpd
    · have hdis := F8.dis
      rw [List.map_cons, List.nodup_cons, List.map_cons, List.nodup_cons] at hdis
      exact hdis.2.2
end
end
section
/-- what lies in the base for good -/
structure LawC (B : Heap) (d : FrD) (wide high : Int) (al : Option Nat) (fx sl mc cl : Addr) : Prop where
  D : LawD d wide high al
  fr : FrB B fx d
  hsl : ∃ svs, Is B sl (LstP svs) ∧ TupsAre B svs (smT d.sm)
  hmc : ∃ mvs, Is B mc (LstP mvs) ∧ BlkAre B mvs (lUnits d wide high al)
  hcl : ∃ cvs, Is B cl (LstP cvs) ∧ TupsAre B cvs (lUnits d wide high al).flatten
theorem LawC.mono {B h : Heap} {d : FrD} {wide high : Int} {al : Option Nat} {fx sl mc cl : Addr} (x : LawC B d wide high al fx sl mc cl) (k : Kp B h) : LawC h d wide high al fx sl mc cl :=
  ⟨x.D, x.fr.mono k, let ⟨v, a, b⟩ := x.hsl; ⟨v, a.keeps k, b.mono k⟩, let ⟨v, a, b⟩ := x.hmc; ⟨v, a.keeps k, b.mono k⟩, let ⟨v, a, b⟩ := x.hcl; ⟨v, a.keeps k, b.mono k⟩⟩
/-- the names -/
noncomputable def LawN (wide high : Int) (al : Option Nat) (fx sl t mc cl : Addr) (bp : Bool) (m : Str → Option Value) : Prop :=
  m (Str.ofString "tray") = some (.ref t) ∧ m (Str.ofString "frame") = some (.ref fx) ∧ (∃ t1, m (Str.ofString "wide") = some (.int wide t1)) ∧ (∃ t1, m (Str.ofString "high") = some (.int high t1)) ∧
  m (Str.ofString "samplings") = some (.ref sl) ∧ (∃ t1, m (Str.ofString "alone") = some (aloneV al t1)) ∧ m (Str.ofString "mcus") = some (.ref mc) ∧ m (Str.ofString "is_padded") = some (.bool bp) ∧ m (Str.ofString "coded") = some (.ref cl)
theorem LawN.elim {wide high : Int} {al : Option Nat} {fx sl t mc cl : Addr} {bp : Bool} {m : Str → Option Value} (x : LawN wide high al fx sl t mc cl bp m) {C : Prop}
    (k : m (Str.ofString "tray") = some (.ref t) → m (Str.ofString "frame") = some (.ref fx) → ∀ t1, m (Str.ofString "wide") = some (.int wide t1) → ∀ t2, m (Str.ofString "high") = some (.int high t2) →
      m (Str.ofString "samplings") = some (.ref sl) → ∀ t3, m (Str.ofString "alone") = some (aloneV al t3) → m (Str.ofString "mcus") = some (.ref mc) → m (Str.ofString "is_padded") = some (.bool bp) → m (Str.ofString "coded") = some (.ref cl) → C) : C :=
  anE9 x fun a b c d e f g h i => c.elim fun t1 c => d.elim fun t2 d => f.elim fun t3 f => k a b t1 c t2 d e t3 f g h i

theorem rU_take {P : Own} {ra : List (List Addr)} {a : Addr} {ct : Addr → List Value} (h : a ∈ ra.flatten) : (P ++ rU ra ct).Perm ((a, LsqP (ct a)) :: (P ++ rRest ra a ct)) :=
  (List.Perm.append_left P (rU_out h)).trans List.perm_middle
theorem rU_back {P : Own} {ra : List (List Addr)} {a : Addr} {ct : Addr → List Value} {vs : List Value} (hn : ra.flatten.Nodup) (h : a ∈ ra.flatten) : ((a, LsqP vs) :: (P ++ rRest ra a ct)).Perm (P ++ rU ra (upd ct a vs)) := by
  have e1 : upd ct a vs a = vs := if_pos rfl
  have p1 := rU_take (P := P) (ct := upd ct a vs) h
  rw [rRest_upd hn, e1] at p1
  exact p1.symm
/-- rows as they are laid -/
noncomputable def ctOf (l : List (Addr × Nat)) (a : Addr) : List Value := match l.find? (fun p => p.1 == a) with
  | some p => List.replicate p.2 .none
  | none => []
theorem ctOf_mem : ∀ {l : List (Addr × Nat)}, (l.map (·.1)).Nodup → ∀ {p : Addr × Nat}, p ∈ l → ctOf l p.1 = List.replicate p.2 .none
  | [], _, p, h => nomatch h
  | q :: l, hn, p, h => by
    rw [List.map_cons, List.nodup_cons] at hn
    unfold ctOf
    rw [List.find?_cons]
    rcases List.mem_cons.mp h with rfl | h
    · rw [beq_self_eq_true]
    · have : (q.1 == p.1) = false := by
        rw [beq_eq_false_iff_ne]
        intro e; exact hn.1 (by rw [e]; exact List.mem_map_of_mem h)
      rw [this]
      exact ctOf_mem hn.2 h
theorem blank_rU {l : List (Addr × Nat)} {ra : List (List Addr)} (hk : l.map (·.1) = ra.flatten) (hn : ra.flatten.Nodup) : l.map blank = rU ra (ctOf l) := by
  unfold rU
  rw [← hk, List.map_map]
  refine List.map_congr_left fun p hp => ?_
  show blank p = (p.1, LsqP (ctOf l p.1))
  rw [ctOf_mem (by rw [hk]; exact hn) hp]; rfl

noncomputable def DomK (d : FrD) (k : List Int) : Prop := ∃ (c : Nat) (x y : Int), c < d.sm.length ∧ k = [(c : Int), x, y] ∧ d.inn c x y = true
theorem inn_iff {d : FrD} {c : Nat} {x y : Int} : d.inn c x y = true ↔ (0 ≤ x ∧ x < d.wA * (d.at c).1) ∧ 0 ≤ y ∧ y < d.wD * (d.at c).2 := by
  unfold FrD.inn; simp

structure RowI (w : World) (B : Heap) (d : FrD) (ra : List (List Addr)) (ct : Addr → List Value) (xs : Ents) (V : List Int → List Int) (done : List Int → Prop) : Prop where
  K : KeysAt PR w B xs
  dom : ∀ k, k ∈ xs.map (·.1) ↔ done k
  val : ∀ k v, valK xs k = some v → ∃ l vs, v = Value.ref l ∧ Is B l (LstP vs) ∧ IntsAre vs (V k)
  cell : ∀ k, DomK d k → CellC B ra ct k (V k)
  len : ∀ k, (V k).length = 4
  zero : ∀ k, ¬ done k → V k = [0, 0, 0, 0]
theorem RowI.mono {w : World} {B h : Heap} {d : FrD} {ra : List (List Addr)} {ct : Addr → List Value} {xs : Ents} {V : List Int → List Int} {done : List Int → Prop} (x : RowI w B d ra ct xs V done) (k : Kp B h) : RowI w h d ra ct xs V done :=
  ⟨x.K.mono k, x.dom, fun y v hv => let ⟨l, vs, a, b, c⟩ := x.val y v hv; ⟨l, vs, a, b.keeps k, c⟩, fun y hy => (x.cell y hy).mono k, x.len, x.zero⟩
theorem RowI.congr {w : World} {B : Heap} {d : FrD} {ra : List (List Addr)} {ct : Addr → List Value} {xs : Ents} {V : List Int → List Int} {done done' : List Int → Prop} (x : RowI w B d ra ct xs V done) (h : ∀ k, done k ↔ done' k) : RowI w B d ra ct xs V done' :=
  ⟨x.K, fun k => (x.dom k).trans (h k), x.val, x.cell, x.len, fun k hk => x.zero k fun q => hk ((h k).mp q)⟩
/-- a new key with zeros -/
theorem RowI.zeros {w : World} {B : Heap} {d : FrD} {ra : List (List Addr)} {ct : Addr → List Value} {xs : Ents} {V : List Int → List Int} {done : List Int → Prop} {k : List Int} {t l : Addr} {vs : List Value} (x : RowI w B d ra ct xs V done) (hk : ¬ done k)
    (ht : TupAt PR w B t k) (hl : Is B l (LstP vs)) (hv : IntsAre vs [0, 0, 0, 0]) : RowI w B d ra ct (storedH xs k t (.ref l)) V (fun k' => k' = k ∨ done k') := by
  refine ⟨x.K.stored ht, fun k' => by rw [keys_stored, x.dom], fun k' v h => ?_, x.cell, x.len, fun k' h => x.zero k' fun q => h (.inr q)⟩
  rw [val_stored] at h
  split at h
  · next e => subst e; cases h; exact ⟨l, vs, rfl, hl, by rw [x.zero _ hk]; exact hv⟩
  · exact x.val k' v h
/-- a key's value drawn, put into the grid too -/
theorem RowI.put {w : World} {B : Heap} {d : FrD} {ra : List (List Addr)} {ct : Addr → List Value} {xs : Ents} {V : List Int → List Int} {done : List Int → Prop} {p c r : Nat} {a t l : Addr} {row : List Addr} {v : Value} {vs : List Value} {ks : List Int} (x : RowI w B d ra ct xs V done)
    (hk : done [(p : Int), (c : Int), (r : Int)]) (ht : TupAt PR w B t [(p : Int), (c : Int), (r : Int)]) (hl : Is B l (LstP vs)) (hv : IntsAre vs ks) (h4 : ks.length = 4)
    (hn : ra.flatten.Nodup) (h1 : ra[p]? = some row) (h2 : row[r]? = some a) (hc : c < (ct a).length) (hb : p < 1000 ∧ c < 1000 ∧ r < 1000) (hcv : CellV B v (some ks)) :
    RowI w B d ra (upd ct a ((ct a).set c v)) (storedH xs [(p : Int), (c : Int), (r : Int)] t (.ref l)) (fun k' => if k' = [(p : Int), (c : Int), (r : Int)] then ks else V k') done := by
  refine ⟨x.K.stored ht, fun k' => ?_, fun k' v' h => ?_, fun k' hk' => CellC.put hn h1 h2 hc hb hcv (x.cell k' hk'), fun k' => ?_, fun k' h => ?_⟩
  · rw [keys_stored, x.dom]
    exact ⟨fun q => q.elim (fun q => q ▸ hk) id, .inr⟩
  · rw [val_stored] at h
    split at h
    · next e => subst e; cases h; exact ⟨l, vs, rfl, hl, by rw [if_pos rfl]; exact hv⟩
    · next e => rw [if_neg (Ne.symm e)]; exact x.val k' v' h
  · split
    · exact h4
    · exact x.len k'
  · rw [if_neg fun q => h (by rw [q]; exact hk)]; exact x.zero k' h

theorem testMono {α : Type} {prog : Program} {w : World} {A : Around} {E : Value → Shared → Prop} {s : Shared} {e : En} {G : Array GenState} {B : Heap} {L : Addr} {m : Str → Option Value} {U : Own} {t : Sem α} {P : α → Shared → Prop} (F : Fs e G B L m U s)
    (h1 : wpAny (model prog w) A t (fun _ s' => ∃ B', Kp B B' ∧ Fs e G B' L m U s') E s) (h2 : ∀ b s', (∃ B', Kp B B' ∧ Fs e G B' L m U s') → P b s') : wpAny (model prog w) A t P E s :=
  wpAny_mono h1 h2 fun _ _ h => h
/-- rows and columns of a plane -/
noncomputable def nW (d : FrD) (wide : Int) (c : Nat) : Nat := (wide * (d.at c).1).toNat
noncomputable def nH (d : FrD) (high : Int) (c : Nat) : Nat := (high * (d.at c).2).toNat
noncomputable def DC (d : FrD) (wide high : Int) (c : Nat) (k : List Int) : Prop := ∃ p a b : Nat, p < c ∧ a < nW d wide p ∧ b < nH d high p ∧ k = [(p : Int), (a : Int), (b : Int)]
noncomputable def DX (d : FrD) (wide high : Int) (c i : Nat) (k : List Int) : Prop := DC d wide high c k ∨ ∃ a b : Nat, a < i ∧ b < nH d high c ∧ k = [(c : Int), (a : Int), (b : Int)]
noncomputable def DY (d : FrD) (wide high : Int) (c i j : Nat) (k : List Int) : Prop := DX d wide high c i k ∨ ∃ b : Nat, b < j ∧ k = [(c : Int), (i : Int), (b : Int)]
theorem three_inj {p a b p' a' b' : Nat} (h : [(p : Int), (a : Int), (b : Int)] = [(p' : Int), (a' : Int), (b' : Int)]) : p = p' ∧ a = a' ∧ b = b' := by
  injection h with e1 e2
  injection e2 with e2 e3
  injection e3 with e3 _
  exact ⟨Int.ofNat.inj e1, Int.ofNat.inj e2, Int.ofNat.inj e3⟩
theorem DY_new {d : FrD} {wide high : Int} {c i j : Nat} : ¬ DY d wide high c i j [(c : Int), (i : Int), (j : Int)] := by
  rintro ((⟨p, a, b, h1, h2, h3, e⟩ | ⟨a, b, h1, h2, e⟩) | ⟨b, h1, e⟩)
  · have := three_inj e; lia
  · have := three_inj e; lia
  · have := three_inj e; lia
theorem DY_succ {d : FrD} {wide high : Int} {c i j : Nat} (k : List Int) : (k = [(c : Int), (i : Int), (j : Int)] ∨ DY d wide high c i j k) ↔ DY d wide high c i (j + 1) k := by
  constructor
  · rintro (rfl | (h | ⟨b, h1, e⟩))
    · exact .inr ⟨j, Nat.lt_succ_self _, rfl⟩
    · exact .inl h
    · exact .inr ⟨b, Nat.lt_succ_of_lt h1, e⟩
  · rintro (h | ⟨b, h1, e⟩)
    · exact .inr (.inl h)
    · by_cases hb : b = j
      · subst hb; exact .inl e
      · exact .inr (.inr ⟨b, by lia, e⟩)
theorem DY_zero {d : FrD} {wide high : Int} {c i : Nat} (k : List Int) : DX d wide high c i k ↔ DY d wide high c i 0 k :=
  ⟨.inl, fun h => h.elim id fun ⟨b, h1, _⟩ => absurd h1 (Nat.not_lt_zero _)⟩
theorem DY_end {d : FrD} {wide high : Int} {c i : Nat} (k : List Int) : DY d wide high c i (nH d high c) k ↔ DX d wide high c (i + 1) k := by
  constructor
  · rintro ((h | ⟨a, b, h1, h2, e⟩) | ⟨b, h1, e⟩)
    · exact .inl h
    · exact .inr ⟨a, b, Nat.lt_succ_of_lt h1, h2, e⟩
    · exact .inr ⟨i, b, Nat.lt_succ_self _, h1, e⟩
  · rintro (h | ⟨a, b, h1, h2, e⟩)
    · exact .inl (.inl h)
    · by_cases ha : a = i
      · subst ha; exact .inr ⟨b, h2, e⟩
      · exact .inl (.inr ⟨a, b, by lia, h2, e⟩)
theorem DX_zero {d : FrD} {wide high : Int} {c : Nat} (k : List Int) : DC d wide high c k ↔ DX d wide high c 0 k :=
  ⟨.inl, fun h => h.elim id fun ⟨a, b, h1, _⟩ => absurd h1 (Nat.not_lt_zero _)⟩
theorem DX_end {d : FrD} {wide high : Int} {c : Nat} (k : List Int) : DX d wide high c (nW d wide c) k ↔ DC d wide high (c + 1) k := by
  constructor
  · rintro (⟨p, a, b, h1, h2, h3, e⟩ | ⟨a, b, h1, h2, e⟩)
    · exact ⟨p, a, b, Nat.lt_succ_of_lt h1, h2, h3, e⟩
    · exact ⟨c, a, b, Nat.lt_succ_self _, h1, h2, e⟩
  · rintro ⟨p, a, b, h1, h2, h3, e⟩
    by_cases hp : p = c
    · subst hp; exact .inr ⟨a, b, h2, h3, e⟩
    · exact .inl ⟨p, a, b, by lia, h2, h3, e⟩
theorem DC_end {d : FrD} {wide high : Int} {al : Option Nat} (h : LawD d wide high al) (k : List Int) : DC d wide high d.sm.length k ↔ DomK d k := by
  constructor
  · rintro ⟨p, a, b, h1, h2, h3, e⟩
    refine ⟨p, a, b, h1, e, inn_iff.mpr ?_⟩
    rw [h.wA, h.wD]
    unfold nW at h2; unfold nH at h3
    lia
  · rintro ⟨c, x, y, h1, e, hi⟩
    rw [inn_iff, h.wA, h.wD] at hi
    refine ⟨c, x.toNat, y.toNat, h1, ?_, ?_, ?_⟩
    · unfold nW; lia
    · unfold nH; lia
    · rw [e, Int.toNat_of_nonneg hi.1.1, Int.toNat_of_nonneg hi.2.1]

set_option maxHeartbeats 8000000 in
theorem lawB {w : World} {A : Around} {E : Value → Shared → Prop} {s : Shared} {B : Heap} {L fx sl t mc cl : Addr} {m : Str → Option Value} {Q : Flow → Shared → Prop} {s₀ : Shared} {B₀ : Heap} {d : FrD} {wide high : Int} {al : Option Nat} {bp : Bool}
    (gd : Gd w B) (R : Rm A 15) (S : LawC B d wide high al fx sl mc cl) (N : LawN wide high al fx sl t mc cl bp m) (F : Fs ⟨[], B₀, s₀⟩ s₀.gens B L m [(t, TrP), (L + 3, CelP none), (L + 2, CelP none), (L + 1, CelP none)] s)
    (h : ∀ s' B' m' gx RD ra ct xs V, Kp B B' → LawC B' d wide high al fx sl mc cl → LawN wide high al fx sl t mc cl bp m' → m' (Str.ofString "rows") = some (.ref RD) → s₀.heap.get? RD = none → GrB B' gx ra → ra.flatten.Nodup → RowI w B' d ra ct xs V (DomK d) → xs.length ≤ 1000 →
      Fs ⟨[], B₀, s₀⟩ s₀.gens B' L m' ([(RD, DicP PR w xs), (t, TrP), (L + 3, CelP none), (L + 2, CelP none), (L + 1, CelP (some (.ref gx)))] ++ rU ra ct) s' → At PR w A E 304 8 L Q s') :
    At PR w A E 304 6 L Q s := by
  refine' At.of ?ho ?h
  case ho => k_is
  case h =>
  intro env
  show wpAny _ _ (execs (List.drop (0 + 1 + 1 + 1 + 1 + 1 + 1) _) _) _ _ _
  rw [List.drop_succ_cons, List.drop_succ_cons, List.drop_succ_cons, List.drop_succ_cons, List.drop_succ_cons, List.drop_succ_cons, List.drop_zero]
  have hu20 := R.u
  have hD := S.D
  have fr := S.fr
  obtain ⟨svs, hzl, hzt⟩ := S.hsl
  obtain ⟨cvs, hcl, hct⟩ := S.hcl
  refine LawN.elim N ?_; rintro n1 n2 u3 n3 u4 n4 n5 u6 n6 n7 n8 n9
  have hw := hD.w
  have hh := hD.h
  walk_at "go"
  refine nGrid F gd (R.less (by decide)) fr hD.ok (by rw [hD.wA, hD.wD]; lia) ?_
  clear F; intro s1 B1 gx ra l k gr hLd F; walk_at "lift"
  have k1 := k; clear k
  have hnd : ra.flatten.Nodup := by
    have hdis := F.dis
    rw [List.map_append, List.nodup_append] at hdis
    have := hdis.1
    rw [List.map_map] at this
    rw [← hLd.keys]; exact this
  rw [blank_rU hLd.keys hnd] at F
  walk_at "go"
  refine nDic F ?_
  clear F; intro s2 RD hRD F; walk_at "su"
  have F2 : Fs ⟨[], B₀, s₀⟩ s₀.gens B1 _ _ ([(RD, DicP PR w []), (t, TrP), (L + 3, CelP none), (L + 2, CelP none), (L + 1, CelP none)] ++ rU ra (ctOf l)) _ := F.perm (.cons _ List.perm_append_comm)
  clear F; have F := F2; clear F2
  walk_at "go"
  replace gr := gr.mono k; replace hct := hct.mono (k1.trans k); replace hcl := hcl.keeps (k1.trans k)
  have k2 := k; clear k
  refine sCellM (x := Str.ofString "grid") [_, _, _, _] F ?_
  clear F; intro s3 F; walk_at "su"
  have F2 : Fs ⟨[], B₀, s₀⟩ s₀.gens B' _ _ ([(RD, DicP PR w []), (t, TrP), (L + 3, CelP none), (L + 2, CelP none), (L + 1, CelP (some (.ref gx)))] ++ rU ra (ctOf l)) _ := F
  clear F; have F := F2; clear F2
  walk_at "go"
  have hsl := hzt.length
  have hsl2 : (smT d.sm).length = d.sm.length := List.length_map _
  have hle := hD.ok.le
  refine for1 F R.hh ?_ (fun _ => rfl)
  walk_at "go"
  refine bEnum F (hzl.keeps F.kp) ?_
  clear F; intro s30 en it30 hne30 hen hit30 F
  refine (nxEnum (elts := []) (x1 := 0) (pos := default) (lst_is hzl) hne30).self (.refl _) F ?_
  refine ForTodo.mk en (nxEnum (lst_is hzl) hne30) (.refl _) ?_ F (fun c B' m' U' => ∃ xs ct V, U' = [(RD, DicP PR w xs), (t, TrP), (L + 3, CelP none), (L + 2, CelP none), (L + 1, CelP (some (.ref gx)))] ++ rU ra ct ∧ RowI w B' d ra ct xs V (DC d wide high c) ∧ xs.length ≤ 100 * c ∧ LawN wide high al fx sl t mc cl bp m' ∧ m' (Str.ofString "rows") = some (.ref RD)) (exI3 [] (ctOf l) (fun _ => [0, 0, 0, 0]) ⟨rfl, ?_, Nat.le_refl _, by exact N, by rfl⟩) ?_
  · intro i p hp
    simp only [List.mem_cons, List.not_mem_nil, or_false] at hp
    rcases hp with rfl | rfl
    · exact hen
    · exact hit30
  · refine ⟨(fun _ h => nomatch h), fun k => ⟨(fun h => by simp at h), fun ⟨p, a, b, h1, _⟩ => absurd h1 (Nat.not_lt_zero _)⟩, (fun k v h => by simp [valK, atKey] at h), fun k hk => ?_, fun _ => rfl, fun _ _ => rfl⟩
    refine ea3_3 hk ?_; clear hk; rintro c x y hc rfl hi
    rw [inn_iff] at hi
    have hbd := hD.ok.bd _ (List.mem_of_getElem? (FrD.at_get hc))
    have hcr : c < ra.length := by rw [hLd.len]; exact hc
    have hrow := hLd.row c ra[c] (List.getElem?_eq_getElem hcr)
    have hW := mul_bd (a := wide) (b := (d.at c).1) (x := 3) (y := 2) (by lia) (by lia) (by lia) (by lia)
    have hH := mul_bd (a := high) (b := (d.at c).2) (x := 2) (y := 2) (by lia) (by lia) (by lia) (by lia)
    rw [hD.wA, hD.wD] at hi
    rw [hD.wD] at hrow
    have hyr : y.toNat < ra[c].length := by lia
    obtain ⟨kk, hkl, hkk⟩ := hrow.2 ra[c][y.toNat] (List.getElem_mem hyr)
    rw [hD.wA] at hkk
    have hnl : (l.map (·.1)).Nodup := by rw [hLd.keys]; exact hnd
    refine ⟨c, x.toNat, y.toNat, ra[c], ra[c][y.toNat], .none, none, ?_, List.getElem?_eq_getElem hcr, List.getElem?_eq_getElem hyr, ?_, rfl, by lia, rfl⟩
    · rw [Int.toNat_of_nonneg hi.1.1, Int.toNat_of_nonneg hi.2.1]
    · rw [ctOf_mem hnl hkl, List.getElem?_replicate, if_pos (show x.toNat < kk by lia)]
  intro Iv
  refine ⟨?_, ?_, ?_⟩
  · rintro i B' B'' m' U' hEx k
    refine ea3_3 hEx ?_
    clear hEx; rintro xs ct V h1 h2 h3
    exact exI3 xs ct V ⟨h1, h2.mono k, h3⟩
  · rintro c v B31 m31 U31 s31 E31 hc k hEx hX9; refine ea3_3 hX9 ?_; clear hX9; rintro a tk xv rfl hx ha F
    refine ea3_5 hEx ?_
    clear hEx; rintro xs ct V rfl hRI hxl hN hr0
    walk_at "su"
    have hta : Is B31 a (TupP [.int c tk, xv]) := ⟨_, ha, rfl, 0, rfl⟩
    refine hzt.getE hx ?_; rintro ks tt vt hks rfl hti hin
    unfold smT at hks
    rw [List.getElem?_map] at hks
    obtain ⟨pp, hpp, rfl⟩ := Option.map_eq_some_iff.mp hks
    obtain ⟨q1, q2, rfl⟩ := ints2 hin
    have hcl2 : c < d.sm.length := (List.getElem?_eq_some_iff.mp hpp).1
    obtain rfl : pp = d.at c := Option.some.inj (hpp.symm.trans (FrD.at_get hcl2))
    have hbd := hD.ok.bd _ (List.mem_of_getElem? hpp)
    have hW := mul_bd (a := wide) (b := (d.at c).1) (x := 3) (y := 2) (by lia) (by lia) (by lia) (by lia)
    have hH := mul_bd (a := high) (b := (d.at c).2) (x := 2) (y := 2) (by lia) (by lia) (by lia) (by lia)
    have hWc : (d.at c).1 * wide = wide * (d.at c).1 := Int.mul_comm _ _
    have hHc : (d.at c).2 * high = high * (d.at c).2 := Int.mul_comm _ _
    walk_at "lift"
    replace hti := hti.keeps k; replace gr := gr.mono k; replace hct := hct.mono k; replace hcl := hcl.keeps k
    have k31 := k; clear k
    refine LawN.elim hN ?_; rintro o1 o2 v3 o3 v4 o4 o5 v6 o6 o7 o8 o9
    walk_at "go"
    refine for1 F R.hh ?_ (fun _ => rfl)
    walk_at "go"
    refine bRange1 F ?_
    clear F; intro s32 B32 r32 k hr32 F; walk_at "lift"
    replace hti := hti.keeps k; replace gr := gr.mono k; replace hct := hct.mono k; replace hcl := hcl.keeps k
    have k32 := k; clear k
    refine iRng0 (n := nW d wide c) F hr32 (by unfold nW; lia) (by unfold nW; lia) ?_
    clear F; intro s33 itx hitx F
    refine ForTodo.mk (B2 := B32) (B₀ := B32) (n := nW d wide c) itx (nxRange0 _) (.refl _) ?_ F (fun i B' m' U' => ∃ xs ct V, U' = [(en, EnP it30 (c + 1)), (it30, LItP sl (c + 1)), (RD, DicP PR w xs), (t, TrP), (L + 3, CelP none), (L + 2, CelP none), (L + 1, CelP (some (.ref gx)))] ++ rU ra ct ∧ RowI w B' d ra ct xs V (DX d wide high c i) ∧ xs.length ≤ 100 * c + 8 * i ∧ LawN wide high al fx sl t mc cl bp m' ∧ m' (Str.ofString "rows") = some (.ref RD) ∧ m' (Str.ofString "at") = some (.int c tk) ∧ m' (Str.ofString "down") = some (.int (d.at c).2 q2)) (exI3 xs ct V ⟨rfl, (hRI.mono k32).congr DX_zero, by lia, by exact hN, by exact hr0, by rfl, by rfl⟩) ?_
    · intro i p hp
      rcases List.mem_singleton.mp hp with rfl; exact hitx
    intro Iv
    refine ⟨?_, ?_, ?_⟩
    · rintro i B' B'' m' U' hEx k
      refine ea3_3 hEx ?_
      clear hEx; rintro xs ct V h1 h2 h3
      exact exI3 xs ct V ⟨h1, h2.mono k, h3⟩
    · rintro i v B41 m41 U41 s41 E41 hi k hEx ⟨tx, rfl⟩ F
      refine ea3_7 hEx ?_
      clear hEx; rintro xs ct V rfl hRI hxl hN hr0 hat hdn
      walk_at "su"
      have hi6 : i < 6 := by unfold nW at hi; lia
      walk_at "lift"
      replace gr := gr.mono k; replace hct := hct.mono k; replace hcl := hcl.keeps k
      have k41 := k; clear k
      refine LawN.elim hN ?_; rintro o1 o2 v3 o3 v4 o4 o5 v6 o6 o7 o8 o9
      walk_at "go"
      refine for1 F R.hh ?_ (fun _ => rfl)
      walk_at "go"
      refine bRange1 F ?_
      clear F; intro s42 B42 r42 k hr42 F; walk_at "lift"
      replace gr := gr.mono k; replace hct := hct.mono k; replace hcl := hcl.keeps k
      have k42 := k; clear k
      refine iRng0 (n := nH d high c) F hr42 (by unfold nH; lia) (by unfold nH; lia) ?_
      clear F; intro s43 ity hity F
      refine ForTodo.mk (B2 := B42) (B₀ := B42) (n := nH d high c) ity (nxRange0 _) (.refl _) ?_ F (fun j B' m' U' => ∃ xs ct V, U' = [(itx, RItP (0 + ((i + 1 : Nat) : Int)) ((nW d wide c : Int) - ((i + 1 : Nat) : Int)) 1), (en, EnP it30 (c + 1)), (it30, LItP sl (c + 1)), (RD, DicP PR w xs), (t, TrP), (L + 3, CelP none), (L + 2, CelP none), (L + 1, CelP (some (.ref gx)))] ++ rU ra ct ∧ RowI w B' d ra ct xs V (DY d wide high c i j) ∧ xs.length ≤ 100 * c + 8 * i + 2 * j ∧ LawN wide high al fx sl t mc cl bp m' ∧ m' (Str.ofString "rows") = some (.ref RD) ∧ m' (Str.ofString "at") = some (.int c tk) ∧ m' (Str.ofString "x") = some (.int i tx) ∧ m' (Str.ofString "down") = some (.int (d.at c).2 q2)) (exI3 xs ct V ⟨rfl, (hRI.mono k42).congr DY_zero, by lia, by exact hN, by exact hr0, by exact hat, by rfl, by exact hdn⟩) ?_
      · intro i p hp
        rcases List.mem_singleton.mp hp with rfl; exact hity
      intro Iv
      refine ⟨?_, ?_, ?_⟩
      · rintro i B' B'' m' U' hEx k
        refine ea3_3 hEx ?_
        clear hEx; rintro xs ct V h1 h2 h3
        exact exI3 xs ct V ⟨h1, h2.mono k, h3⟩
      · rintro j v B51 m51 U51 s51 E51 hj k hEx ⟨ty, rfl⟩ F
        refine ea3_8 hEx ?_
        clear hEx; rintro xs ct V rfl hRI hxl hN2 hr1 hat1 hx1 hdn1
        walk_at "su"
        have hj4 : j < 4 := by unfold nH at hj; lia
        walk_at "lift"
        replace gr := gr.mono k; replace hct := hct.mono k; replace hcl := hcl.keeps k
        have k51 := k; clear k
        refine LawN.elim hN2 ?_; rintro p1 p2 w3 p3 w4 p4 p5 w6 p6 p7 p8 p9
        have hc3 : c < 3 := by lia
        walk_at "go"
        refine nLstP F ?_
        clear F; intro s52 B52 l52 k hl52 F; walk_at "lift"
        replace gr := gr.mono k; replace hct := hct.mono k; replace hcl := hcl.keeps k
        have k52 := k; clear k
        walk_at "go"
        have htk := tupAt_in3 (prog := PR) (w := w) ht
        refine sDic F.f5 hu20 (hRI.K.mono (k52.trans k)) htk (by lia) ?_
        have hRI2 := (hRI.mono (k52.trans k)).zeros DY_new htk (hl52.keeps k) (.cons _ _ (.cons _ _ (.cons _ _ (.cons _ _ .nil))))
        clear F; intro s53 F
        replace F := F.b5
        replace gr := gr.mono k; replace hct := hct.mono k; replace hcl := hcl.keeps k
        have k53 := k; clear k
        walk_at "to"
        obtain ⟨B53, hB53⟩ : ∃ b, b = B' := ⟨_, rfl⟩
        subst hB53
        refine wpAny_execs_cons ?_
        refine wpAny_If ?_
        refine testMono F ?_ ?_
        · walk_at "go"
          cases bp with
          | true => refine ifP rfl ?_; exact ⟨_, .refl _, F⟩
          | false =>
            refine ifN Bool.false_ne_true ?_
            walk_at "go"
            cases al with
            | none =>
              refine PySem.EqNone.ne_int_none ?_
              walk_at "go"
              exact ⟨_, .refl _, F⟩
            | some a =>
              refine PyProof.Rows.ne_int ?_
              walk_at "go"
              cases hca : ((c : Int) != (a : Int)) with
              | true => refine ifP rfl ?_; exact ⟨_, .refl _, F⟩
              | false =>
                refine ifN Bool.false_ne_true ?_
                walk_at "go"
                refine inTups F hu20 ((hcl.keeps k).keeps F.kp) (hct.mono k) ht (.cons _ _ (.cons _ _ (.cons _ _ .nil))) ?_
                walk_at "go"
                cases (lUnits d wide high (some a)).flatten.contains [(c : Int), (i : Int), (j : Int)] with
                | true => refine ifP rfl ?_; exact ⟨_, k, F⟩
                | false =>
                  refine ifN Bool.false_ne_true ?_
                  walk_at "go"
                  exact ⟨_, k, F⟩
        rintro b s60 ⟨B60, k, F⟩
        walk_at "lift"
        replace gr := gr.mono k; replace hct := hct.mono k; replace hcl := hcl.keeps k
        have k60 := k; clear k
        cases b with
        | false =>
          refine ifN Bool.false_ne_true ?_
          walk_at "to"
          refine TurnQ.mk (.inl rfl) ((k51.trans k52).trans (k53.trans k60)) F (exI3 _ ct V ⟨rfl, (hRI2.mono k60).congr DY_succ, ?_, by exact hN2, by exact hr1, by exact hat1, by exact hx1, by exact hdn1⟩)
          have := len_stored xs [(c : Int), (i : Int), (j : Int)] t' (Value.ref l52)
          lia
        | true =>
          refine ifP rfl ?_
          have hxl2 := len_stored xs [(c : Int), (i : Int), (j : Int)] t' (Value.ref l52)
          have hRI3 := hRI2.mono k60
          generalize hxs2 : storedH xs [(c : Int), (i : Int), (j : Int)] t' (Value.ref l52) = xs2 at *
          walk_at "go"
          refine dieS (F.perm (List.perm_middle (l₁ := [_, _, _, _, _]))) gd (R.less (by decide)) (by lia) (by lia) ?_
          clear F; intro s61 r61 u61 hr610 hr611 F
          replace F := F.perm (List.perm_middle (l₁ := [_, _, _, _, _])).symm
          walk_at "go"
          refine dieS (F.perm (List.perm_middle (l₁ := [_, _, _, _, _]))) gd (R.less (by decide)) (by lia) (by lia) ?_
          clear F; intro s62 r62 u62 hr620 hr621 F
          replace F := F.perm (List.perm_middle (l₁ := [_, _, _, _, _])).symm
          walk_at "go"
          refine nLstP F ?_
          clear F; intro s63 B63 l63 k hl63 F; walk_at "lift"
          replace gr := gr.mono k; replace hct := hct.mono k; replace hcl := hcl.keeps k
          have k63 := k; clear k
          walk_at "go"
          have htk63 := tupAt_in3 (prog := PR) (w := w) ht
          refine sDic F.f5 hu20 (hRI3.K.mono (k63.trans k)) htk63 (by lia) ?_
          clear F; intro s64 F
          replace F := F.b5; walk_at "su"
          replace gr := gr.mono k; replace hct := hct.mono k; replace hcl := hcl.keeps k
          have k64 := k; clear k
          refine GrB.elim gr ?_; rintro gpl gtk gpas J _ _ _
          walk_at "go"
          have htk65 := tupAt_in3 (prog := PR) (w := w) ht
          have hK64 : KeysAt PR w B' (storedH xs2 [(c : Int), (i : Int), (j : Int)] _ (Value.ref l63)) := ((hRI3.K.mono (k63.trans k64)).stored htk63).mono k
          refine gDic F (F.nth (a := RD) 4 rfl) hu20 hK64 htk65 (v := Value.ref l63) (by rw [val_stored, if_pos rfl]) ?_
          clear F; intro s66 F
          replace gr := gr.mono k; replace hct := hct.mono k; replace hcl := hcl.keeps k
          have k66 := k; clear k
          walk_at "go"
          have hDk : DomK d [(c : Int), (i : Int), (j : Int)] := ⟨c, i, j, hcl2, rfl, inn_iff.mpr (by rw [hD.wA, hD.wD]; unfold nW at hi; unfold nH at hj; lia)⟩
          refine ea7_7 (hRI3.cell _ hDk) ?_; rintro p c' r row a vc oc hke g1 g2 g3 g4 g5 g6
          obtain ⟨rfl, rfl, rfl⟩ := three_inj hke
          have hrow : a ∈ ra.flatten := mem_flat g1 g2
          have hFa := F.own (a, LsqP (ct a)) (List.mem_append_right [_, _, _, _, _, _, _, _, _] (rU_mem hrow))
          have hcl3 := (List.getElem?_eq_some_iff.mp g3).1
          refine putS gd F.kp (R.less (by decide)) gr g1 g2 hFa.1 hFa.2.1 hcl3 (hl63.keeps (k64.trans k66)) (.cons _ _ (.cons _ _ (.cons _ _ (.cons _ _ .nil)))) g5 (by simp) ?_
          intro s67 B67 vn k R1 hcv hnew
          have F15 := (F.perm (rU_take (P := [_, _, _, _, _, _, _, _, _]) hrow)).did1 R1 hnew
          have F16 := F15.perm (rU_back (P := [_, _, _, _, _, _, _, _, _]) hnd hrow)
          clear F F15; have F := F16; clear F16
          walk_at "lift"
          have k67 := k; clear k
          walk_at "to"
          have kw := (k64.trans k66).trans k67
          refine TurnQ.mk (.inl rfl) (((k51.trans k52).trans (k53.trans k60)).trans (k63.trans kw)) F (exI3 _ (upd ct a ((ct a).set i vn)) _ ⟨rfl, (((hRI3.mono (k63.trans kw)).put (.inl rfl) (htk63.mono (k66.trans k67)) (hl63.keeps kw) (.cons _ _ (.cons _ _ (.cons _ _ (.cons _ _ .nil)))) rfl hnd g1 g2 hcl3 g5 hcv).congr DY_succ), ?_, by exact hN2, by exact hr1, by exact hat1, by exact hx1, by exact hdn1⟩)
          exact Nat.le_trans (len_stored _ _ _ _) (by lia)
      · rintro B51 m51 U51 s51 k hEx F
        refine ea3_8 hEx ?_
        clear hEx; rintro xs ct V rfl hRI hxl hN2 hr1 hat1 hx1 hdn1
        walk_at "su"
        have k51 := k; clear k
        walk_at "to"
        refine TurnQ.mk (.inl rfl) ((k41.trans k42).trans k51) F (exI3 xs ct V ⟨rfl, hRI.congr DY_end, ?_, by exact hN2, by exact hr1, by exact hat1, by exact hdn1⟩)
        have : nH d high c ≤ 4 := by unfold nH; lia
        lia
    · rintro B41 m41 U41 s41 k hEx F
      refine ea3_7 hEx ?_
      clear hEx; rintro xs ct V rfl hRI hxl hN hr0 hat hdn
      walk_at "su"
      have k41 := k; clear k
      walk_at "to"
      refine TurnQ.mk (.inl rfl) ((k31.trans k32).trans k41) F (exI3 xs ct V ⟨rfl, hRI.congr DX_end, ?_, by exact hN, by exact hr0⟩)
      have : nW d wide c ≤ 6 := by unfold nW; lia
      lia
  · rintro B31 m31 U31 s31 k hEx F
    refine ea3_5 hEx ?_
    clear hEx; rintro xs ct V rfl hRI hxl hN hr0
    walk_at "su"
    have k31 := k; clear k
    rw [hsl, hsl2] at hRI hxl
    walk_at "to"
    refine' At.use (n := 8) (h _ _ _ gx RD ra ct xs V (k1.trans (k2.trans k31)) (S.mono (k1.trans (k2.trans k31))) (by exact hN) (by exact hr0) hRD (gr.mono k31) hnd (hRI.congr (DC_end hD)) (by lia) F) ?ho1 ?hr1
    case ho1 => k_is
    case hr1 => rfl
end
section
theorem evalMono {α : Type} (C : α → Heap → Prop) {prog : Program} {w : World} {A : Around} {E : Value → Shared → Prop} {s : Shared} {e : En} {G : Array GenState} {B : Heap} {L : Addr} {m : Str → Option Value} {U : Own} {t : Sem α} {P : α → Shared → Prop} (F : Fs e G B L m U s)
    (h1 : wpAny (model prog w) A t (fun v s' => ∃ B', Kp B B' ∧ C v B' ∧ Fs e G B' L m U s') E s) (h2 : ∀ v s', (∃ B', Kp B B' ∧ C v B' ∧ Fs e G B' L m U s') → P v s') : wpAny (model prog w) A t P E s :=
  wpAny_mono h1 h2 fun _ _ h => h
noncomputable def psOf (d : FrD) : Option Nat → List Nat
  | some a => [a]
  | none => List.range d.sm.length

set_option maxHeartbeats 8000000 in
theorem lawC {w : World} {A : Around} {E : Value → Shared → Prop} {s : Shared} {B : Heap} {L fx sl t mc cl gx RD : Addr} {m : Str → Option Value} {Q : Flow → Shared → Prop} {s₀ : Shared} {B₀ : Heap} {d : FrD} {wide high : Int} {al : Option Nat} {bp : Bool} {xs : Ents} {U : Own}
    (gd : Gd w B) (R : Rm A 15) (S : LawC B d wide high al fx sl mc cl) (N : LawN wide high al fx sl t mc cl bp m) (hr0 : m (Str.ofString "rows") = some (.ref RD))
    (F : Fs ⟨[], B₀, s₀⟩ s₀.gens B L m ((RD, DicP PR w xs) :: (t, TrP) :: (L + 3, CelP none) :: (L + 2, CelP none) :: (L + 1, CelP (some (.ref gx))) :: U) s)
    (h : ∀ s' B' m' sx ll lvs lots, Kp B B' → ScB B' sx (psI (psOf d al)) → Is B' ll (LstP lvs) → TupsAre B' lvs (lotTs lots) → (∀ l ∈ lots, l.1 + l.2 ≤ (lUnits d wide high al).length) → lots.length ≤ 3 → LawN wide high al fx sl t mc cl bp m' → m' (Str.ofString "rows") = some (.ref RD) →
      m' (Str.ofString "scan") = some (.ref sx) → m' (Str.ofString "lost") = some (.ref ll) →
      Fs ⟨[], B₀, s₀⟩ s₀.gens B' L m' ((RD, DicP PR w xs) :: (t, TrP) :: (L + 3, CelP none) :: (L + 2, CelP none) :: (L + 1, CelP (some (.ref gx))) :: U) s' → At PR w A E 304 10 L Q s') :
    At PR w A E 304 8 L Q s := by
  refine' At.of ?ho ?h
  case ho => k_is
  case h =>
  intro env
  show wpAny _ _ (execs (List.drop (0 + 1 + 1 + 1 + 1 + 1 + 1 + 1 + 1) _) _) _ _ _
  rw [List.drop_succ_cons, List.drop_succ_cons, List.drop_succ_cons, List.drop_succ_cons, List.drop_succ_cons, List.drop_succ_cons, List.drop_succ_cons, List.drop_succ_cons, List.drop_zero]
  have hu20 := R.u
  have hD := S.D
  have fr := S.fr
  obtain ⟨svs, hzl, hzt⟩ := S.hsl
  obtain ⟨mvs, hmc, hmb⟩ := S.hmc
  refine LawN.elim N ?_; rintro n1 n2 u3 n3 u4 n4 n5 u6 n6 n7 n8 n9
  have hsl := hzt.length
  have hsl2 : (smT d.sm).length = d.sm.length := List.length_map _
  have hle := hD.ok.le
  have hul := hD.units_len
  refine wpAny_execs_cons ?_
  (with_reducible refine wpAny_Assign_Name ?_ ?_); rotate_left; (· with_unfolding_all rfl); walk_at "lq"
  refine evalMono (fun v B' => ∃ pl vs, v = Value.ref pl ∧ Is B' pl (LstP vs) ∧ IntsAre vs (psI (psOf d al))) F ?_ ?_
  · walk_at "go"
    cases al with
    | some a =>
      refine PyProof.Rows.isnot_none_gen ?_
      walk_at "go"
      refine ifP (by rfl) ?_
      walk_at "go"
      refine nLstP F ?_
      clear F; intro s2 B2 l2 k hl2 F
      exact ⟨B2, k, ⟨l2, _, rfl, hl2, .cons _ _ .nil⟩, F⟩
    | none =>
      refine PyProof.Rows.isnot_none_gen ?_
      walk_at "go"
      refine ifN (by exact Bool.false_ne_true) ?_
      walk_at "go"
      refine bLenL F (hzl.keeps F.kp) (by lia) ?_
      clear F; intro s2 t2 F
      walk_at "go"
      refine bRange1 F ?_
      clear F; intro s3 B3 r3 k hr3 F; walk_at "lift"
      have k3 := k; clear k
      walk_at "go"
      refine bListRange (n := svs.length) F R.hh (hr3.keeps F.kp) rfl (by lia) ?_
      clear F; intro s4 D4 vs4 hD4 hi4 F
      refine Fs.frz F hD4 ?_; intro B5 k hL5 F5
      refine ⟨B5, k3.trans k, ⟨D4, vs4, rfl, hL5, ?_⟩, F5⟩
      rw [hsl, hsl2] at hi4
      exact hi4
  rintro v s1 ⟨B1, k, ⟨pl, pvs, rfl, hpl, hpi⟩, F⟩
  walk_at "lift"
  have k1 := k; clear k
  have hpl1 : pvs.length ≤ 3 ∧ 0 < pvs.length := by
    have h1 := hpi.length
    unfold psI at h1
    rw [List.length_map] at h1
    cases al with
    | none => have := hD.none rfl; simp only [psOf, List.length_range] at h1; lia
    | some a => simp only [psOf, List.length_cons, List.length_nil] at h1; lia
  walk_at "go"
  refine nLstO F ?_
  clear F; intro s2 D2 hD2 F; walk_at "su"
  walk_at "go"
  refine bLenL F (hpl.keeps F.kp) (by lia) ?_
  clear F; intro s3 t3 F
  walk_at "go"
  refine lMul F F.top (by lia) (by lia) ?_
  clear F; intro s4 D4 hD4 F
  replace F := F.drop.drop
  walk_at "go"
  refine nLstO F ?_
  clear F; intro s2 D2 hD2 F; walk_at "su"
  walk_at "go"
  refine bLenL F (hpl.keeps F.kp) (by lia) ?_
  clear F; intro s3 t3 F
  walk_at "go"
  refine lMul F F.top (by lia) (by lia) ?_
  clear F; intro s4 D4 hD4 F
  replace F := F.drop.drop
  walk_at "go"
  refine nScan F gd (R.less (by decide)) hpl hpi ?_
  clear F; intro s5 B5 sx k hsx F; walk_at "lift"
  have k5 := k; clear k
  walk_at "go"
  refine bLenL F ((hmc.keeps (k1.trans k5)).keeps F.kp) (by rw [hmb.1]; lia) ?_
  clear F; intro s6 t6 F
  walk_at "go"
  refine lawLotsS gd F.kp (R.less (by decide)) (F.nth 1 rfl) (F.own _ (.tail _ (.head _))).2.1 (by rw [hmb.1]; lia) (by rw [hmb.1]; lia) ?_
  intro s7 B7 ll lvs lots k R7 hT hll hlt hlb hl3
  have F7 := (F.swap.did1 R7 hT).swap
  clear F; have F := F7; clear F7
  walk_at "lift"
  have k7 := k; clear k
  walk_at "to"
  rw [hmb.1] at hlb
  refine' At.use (n := 10) (h _ _ _ sx ll lvs lots ((k1.trans k5).trans (k7.trans k)) (hsx.mono (k7.trans k)) (hll.keeps k) (hlt.mono k) hlb hl3 (by exact N) (by exact hr0) (by rfl) (by rfl) F) ?ho1 ?hr1
  case ho1 => k_is
  case hr1 => rfl
end
section
section
variable {prog : Program} {w : World} {A : Around} {E : Value → Shared → Prop} {s : Shared} {e : En} {G : Array GenState} {B : Heap} {L : Addr} {m : Str → Option Value} {U : Own}
theorem gSlice {value slice : Expr} {l sl : Addr} {its : List Value} {a b : Nat} {b' : Int} {t u : Tok} {Q : Value → Shared → Prop} (F : Fs e G B L m U s) (hl : Is s.heap l (LstP its)) (hs0 : s.heap.IsSliceOf sl (.int a t) (.int b' u) .none) (hb' : b' = (b : Int)) (hab : a ≤ b) (hb : b ≤ its.length) (hz : its.length ≤ 100000)
    (h : ∀ s' D, e.s.heap.get? D = none → Fs e G B L m ((D, LstP ((its.drop a).take (b - a))) :: U) s' → Q (.ref D) s')
    (hs : subscripted slice false (.ref l) (.ref sl) = operate [.ref sl, .ref l] (getItem (.ref l) (.ref sl)) := by with_unfolding_all rfl) :
    wpAny (model prog w) A (subscriptTail value slice (.ref l) (.ref sl)) Q E s := by
  have hl := lst_is hl
  subst hb'
  refine tail_any hl.typeIs slot_list_getitem.lookup (wpAny_getItem_list_slice hl hs0 (.int _ _) (.int _ _) .none (by simp) ?_ (by rw [List.size_toArray, sizeLine_eq]; lia)) hs
  rw [slicePick_run _ _ _ (by simpa using hb) hab]
  exact h _ _ (F.fresh (none_of_size _)) (F.take (P := LstP ((its.drop a).take (b - a))) (fun b o q => Heap.get?_push_of_some _ q) (none_of_size _) ⟨_, Heap.get?_push_size _ rfl, 0, rfl⟩ s.toks)
end
theorem mSlice {o : Obj} {s : Shared} {e : En} {G : Array GenState} {B : Heap} {L : Addr} {m : Str → Option Value} {U : Own} {Q : Value → Shared → Prop} (F : Fs e G B L m U s) (h : ∀ s' a, s'.heap.get? a = some o → Fs e G B L m U s' → Q (.ref a) s') (hf : o.isFreed = false := by rfl) : Q (.ref s.heap.objs.size) { s with heap := s.heap.push o } :=
  h _ _ (Heap.get?_push_size _ hf) (F.grown (fun b o q => Heap.get?_push_of_some _ q) s.toks)
/-- the blocks of some lots -/
noncomputable def lotsU (us : List (List (List Int))) (lots : List (Nat × Nat)) : List (List Int) := lots.flatMap fun l => ((us.drop l.1).take l.2).flatten

set_option maxHeartbeats 8000000 in
theorem lawDs {w : World} {A : Around} {E : Value → Shared → Prop} {s : Shared} {B : Heap} {L fx sl t mc cl gx RD sx ll : Addr} {lvs : List Value} {lots : List (Nat × Nat)} {m : Str → Option Value} {Q : Flow → Shared → Prop} {s₀ : Shared} {B₀ : Heap} {d : FrD} {wide high : Int} {al : Option Nat} {bp : Bool} {xs : Ents} {U : Own}
    (gd : Gd w B) (R : Rm A 15) (S : LawC B d wide high al fx sl mc cl) (N : LawN wide high al fx sl t mc cl bp m) (hr0 : m (Str.ofString "rows") = some (.ref RD)) (hr1 : m (Str.ofString "scan") = some (.ref sx)) (hr2 : m (Str.ofString "lost") = some (.ref ll))
    (hll : Is B ll (LstP lvs)) (hlt : TupsAre B lvs (lotTs lots)) (hlb : ∀ l ∈ lots, l.1 + l.2 ≤ (lUnits d wide high al).length) (hl3 : lots.length ≤ 3)
    (F : Fs ⟨[], B₀, s₀⟩ s₀.gens B L m ((RD, DicP PR w xs) :: (t, TrP) :: (L + 3, CelP none) :: (L + 2, CelP none) :: (L + 1, CelP (some (.ref gx))) :: U) s)
    (h : ∀ s' B' m' GD gvs gks, Kp B B' → s₀.heap.get? GD = none → TupsAre B' gvs gks → (∀ k, k ∈ gks ↔ k ∈ lotsU (lUnits d wide high al) lots) → gks.length ≤ 900 → LawN wide high al fx sl t mc cl bp m' → m' (Str.ofString "rows") = some (.ref RD) →
      m' (Str.ofString "scan") = some (.ref sx) → m' (Str.ofString "lost") = some (.ref ll) →
      Fs ⟨[], B₀, s₀⟩ s₀.gens B' L m' ((GD, LstP gvs) :: (RD, DicP PR w xs) :: (t, TrP) :: (L + 3, CelP none) :: (L + 2, CelP (some (.ref GD))) :: (L + 1, CelP (some (.ref gx))) :: U) s' → At PR w A E 304 12 L Q s') :
    At PR w A E 304 10 L Q s := by
  refine' At.of ?ho ?h
  case ho => k_is
  case h =>
  intro env
  show wpAny _ _ (execs (List.drop (0 + 1 + 1 + 1 + 1 + 1 + 1 + 1 + 1 + 1 + 1) _) _) _ _ _
  rw [List.drop_succ_cons, List.drop_succ_cons, List.drop_succ_cons, List.drop_succ_cons, List.drop_succ_cons, List.drop_succ_cons, List.drop_succ_cons, List.drop_succ_cons, List.drop_succ_cons, List.drop_succ_cons, List.drop_zero]
  have hu20 := R.u
  have hD := S.D
  obtain ⟨mvs, hmc, hmb⟩ := S.hmc
  refine LawN.elim N ?_; rintro n1 n2 u3 n3 u4 n4 n5 u6 n6 n7 n8 n9
  have hul := hD.units_len
  have hun := hD.unit_len
  generalize hus : lUnits d wide high al = us at *
  walk_at "go"
  refine nLstO F ?_
  clear F; intro s2 GD hGD F; walk_at "su"
  walk_at "go"
  refine sCellM (x := Str.ofString "gone") [_, _, _, _] F ?_
  clear F; intro s3 F; walk_at "su"
  walk_at "to"
  refine wpAny_execs_cons ?_
  refine for1 F R.hh ?_ (fun _ => rfl)
  walk_at "go"
  refine iLst F (hll.keeps F.kp) ?_
  clear F; intro s4 it4 hit4 F
  refine ForTodo.mk (B2 := B) (B₀ := B) it4 (nxList (lst_is hll)) (.refl _) ?_ F (fun i B' m' U' => ∃ gvs gks, U' = (GD, LstP gvs) :: (RD, DicP PR w xs) :: (t, TrP) :: (L + 3, CelP none) :: (L + 2, CelP (some (.ref GD))) :: (L + 1, CelP (some (.ref gx))) :: U ∧ TupsAre B' gvs gks ∧ (∀ k, k ∈ gks ↔ k ∈ lotsU us (lots.take i)) ∧ gks.length ≤ 300 * i ∧ LawN wide high al fx sl t mc cl bp m' ∧ m' (Str.ofString "rows") = some (.ref RD) ∧ m' (Str.ofString "scan") = some (.ref sx) ∧ m' (Str.ofString "lost") = some (.ref ll)) (exI2 [] [] ⟨rfl, .nil, fun k => Iff.rfl, Nat.le_refl _, by exact N, by exact hr0, by exact hr1, by exact hr2⟩) ?_
  · intro i p hp
    rcases List.mem_singleton.mp hp with rfl; exact hit4
  intro Iv
  refine ⟨?_, ?_, ?_⟩
  · rintro i B' B'' m' U' hEx k
    refine ea2_3 hEx ?_
    clear hEx; rintro gvs gks h1 h2 h3
    exact exI2 gvs gks ⟨h1, h2.mono k, h3⟩
  · rintro i v B5 m5 U5 s5 E5 hi k hEx hv F
    refine ea2_8 hEx ?_
    clear hEx; rintro gvs gks rfl hgt hgk hgl hN o1 o2 o3
    walk_at "su"
    refine hlt.getE hv ?_; rintro ks tt vt hks rfl hti hin
    unfold lotTs at hks
    rw [List.getElem?_map] at hks
    obtain ⟨lt, hlo, rfl⟩ := Option.map_eq_some_iff.mp hks
    obtain ⟨q1, q2, rfl⟩ := ints2 hin
    walk_at "lift"
    replace hti := hti.keeps k
    have k5 := k; clear k
    refine LawN.elim hN ?_; rintro p1 p2 w3 p3 w4 p4 p5 w6 p6 p7 p8 p9
    walk_at "go"
    refine for1 F R.hh ?_ (fun _ => rfl)
    walk_at "go"
    refine wpAny_Slice ?_
    rw [evalPart_some]
    walk_at "go"
    rw [evalPart_some]
    walk_at "go"
    rw [evalPart_none]
    refine wpAny_pure ?_
    have hlm := hlb lt (List.mem_of_getElem? hlo)
    have hi3 : i < lots.length := (List.getElem?_eq_some_iff.mp hlo).1
    have Fx := F.grown (h' := s'.heap.push { cls := .type "slice", data := .fields #[.int lt.1 q1, .int (lt.1 + lt.2) t', .none] }) (fun b o q => Heap.get?_push_of_some _ q) s'.toks
    replace hmc := hmc.keeps k5
    refine gSlice (a := lt.1) (b := lt.1 + lt.2) Fx (hmc.keeps Fx.kp) ⟨_, Heap.get?_push_size _ rfl, rfl, rfl⟩ (by lia) (by lia) (by rw [hmb.1]; lia) (by rw [hmb.1]; lia) ?_
    clear F Fx; intro s9 ML hML F
    refine Fs.frz F hML ?_; clear F; intro B9 k hMl F
    walk_at "lift"
    have k9 := k; clear k
    replace hmb := hmb.mono (k5.trans k9)
    refine iLst F (hMl.keeps F.kp) ?_
    clear F; intro s10 itm hitm F
    have hbl : (((mvs.drop lt.1).take (lt.1 + lt.2 - lt.1))).length = lt.2 := by
      rw [List.length_take, List.length_drop, hmb.1]; lia
    refine ForTodo.mk (B2 := B9) (B₀ := B9) itm (nxList (lst_is hMl)) (.refl _) ?_ F (fun j B' m' U' => ∃ gvs2 gks2, U' = (it4, LItP ll (i + 1)) :: (GD, LstP gvs2) :: (RD, DicP PR w xs) :: (t, TrP) :: (L + 3, CelP none) :: (L + 2, CelP (some (.ref GD))) :: (L + 1, CelP (some (.ref gx))) :: U ∧ TupsAre B' gvs2 gks2 ∧ (∀ k, k ∈ gks2 ↔ k ∈ gks ∨ k ∈ ((us.drop lt.1).take j).flatten) ∧ gks2.length ≤ gks.length + 12 * j ∧ LawN wide high al fx sl t mc cl bp m' ∧ m' (Str.ofString "rows") = some (.ref RD) ∧ m' (Str.ofString "scan") = some (.ref sx) ∧ m' (Str.ofString "lost") = some (.ref ll)) (exI2 gvs gks ⟨rfl, hgt.mono k9, fun k => by simp, Nat.le_refl _, by exact hN, by exact o1, by exact o2, by exact o3⟩) ?_
    · intro i p hp
      rcases List.mem_singleton.mp hp with rfl; exact hitm
    intro Iv
    refine ⟨?_, ?_, ?_⟩
    · rintro i B' B'' m' U' hEx k
      refine ea2_3 hEx ?_
      clear hEx; rintro gvs gks h1 h2 h3
      exact exI2 gvs gks ⟨h1, h2.mono k, h3⟩
    · rintro j v B11 m11 U11 s11 E11 hj k hEx hv F
      refine ea2_8 hEx ?_
      clear hEx; rintro gvs2 gks2 rfl hgt2 hgk2 hgl2 hN2 r1 r2 r3
      walk_at "su"
      rw [hbl] at hj
      have hju : lt.1 + j < us.length := by lia
      refine ea2_3 (hmb.2 (lt.1 + j) us[lt.1 + j] (List.getElem?_eq_getElem hju)) ?_; rintro a ws hv2 haI hwt
      have hve : v = .ref a := by
        rw [List.getElem?_take, if_pos (by lia), List.getElem?_drop] at hv
        exact Option.some.inj (hv.symm.trans hv2)
      subst hve
      have hblen := hun _ (List.getElem_mem hju)
      have hstep : ((us.drop lt.1).take (j + 1)).flatten = ((us.drop lt.1).take j).flatten ++ us[lt.1 + j] := by
        rw [List.take_add_one, List.getElem?_drop, List.getElem?_eq_getElem hju, List.flatten_append]; simp
      walk_at "lift"
      replace haI := haI.keeps k; replace hwt := hwt.mono k
      have k11 := k; clear k
      generalize us[lt.1 + j] = blk at *
      walk_at "go"
      refine mExtend (F.nth (P := LstP gvs2) (a := GD) 2 rfl) ?_
      walk_at "go"
      refine listComp1 (cl := [(Str.ofString "gone", L + 2)]) F R.hh ?_ F.lg rfl (by decide) rfl (by decide) (fun _ => rfl)
      walk_at "go"
      refine iLst F (haI.keeps F.kp) ?_
      clear F; intro s12 itb hitb F
      refine CompTodo.mk (B2 := B11) (B₀ := B11) itb (nxList (lst_is haI)) (.refl _) ?_ F (fun q B' ys U' => U' = (itm, LItP ML (j + 1)) :: (it4, LItP ll (i + 1)) :: (GD, LstP gvs2) :: (RD, DicP PR w xs) :: (t, TrP) :: (L + 3, CelP none) :: (L + 2, CelP (some (.ref GD))) :: (L + 1, CelP (some (.ref gx))) :: U ∧ TupsAre B' ys ((blk.take q).filter fun k => !gks2.contains k)) ⟨rfl, .nil⟩ ?_
      · intro i p hp
        rcases List.mem_singleton.mp hp with rfl; exact hitb
      intro Iv
      refine ⟨fun _ _ _ _ _ h k => ⟨h.1, h.2.mono k⟩, ?_, ?_⟩
      · rintro C D q v B13 m13 ys13 U13 s13 E13 hC hq k ⟨rfl, hys⟩ hv F
        walk_at "su"
        refine hwt.getE hv ?_; rintro ks t3 tvs hks rfl hti3 hin3
        have hst2 : (blk.take (q + 1)).filter (fun k => !gks2.contains k) = (blk.take q).filter (fun k => !gks2.contains k) ++ (if gks2.contains ks then [] else [ks]) := by
          rw [List.take_add_one, hks, List.filter_append]
          congr 1
          simp only [Option.toList, List.filter_cons, List.filter_nil]
          cases gks2.contains ks <;> rfl
        walk_at "lift"
        replace hti3 := hti3.keeps k
        have k13 := k; clear k
        walk_at "go"
        refine ninTups F hu20 (F.nth (a := GD) (P := LstP gvs2) 5 rfl) (hgt2.mono k13) hti3 hin3 ?_
        walk_at "go"
        have hyl := hys.length
        have hyl2 : ((blk.take q).filter fun k => !gks2.contains k).length ≤ 12 := Nat.le_trans (List.length_filter_le _ _) (by rw [List.length_take]; lia)
        cases hgc : gks2.contains ks with
        | true =>
          rw [hgc, if_pos rfl, List.append_nil] at hst2
          rw [show (!true) = false from rfl]; refine ifN Bool.false_ne_true ?_
          exact ⟨_, _, _, k13, F, rfl, by rw [hst2]; exact hys⟩
        | false =>
          rw [hgc, if_neg Bool.false_ne_true] at hst2
          rw [show (!false) = true from rfl]; refine ifP rfl ?_
          walk_at "go"
          refine CElt.mk (by lia) k13 F ⟨rfl, ?_⟩
          rw [hst2]
          exact hys.app (.cons ⟨_, _, rfl, hti3, hin3⟩ .nil)
      · rintro B13 ys13 U13 k ⟨rfl, hys⟩ D13 s13 hD13 F
        walk_at "su"
        rw [List.take_of_length_le (by rw [hwt.length]; exact Nat.le_refl _)] at hys
        walk_at "lift"
        have k13 := k; clear k
        have hyl := hys.length
        have hyl2 : (blk.filter fun k => !gks2.contains k).length ≤ 12 := Nat.le_trans (List.length_filter_le _ _) hblen
        walk_at "go"
        have hgl3 := hgt2.length
        refine bExtend F.f4 F.top (by lia) ?_
        clear F; intro s14 F
        replace F := F.swap.drop.b3; walk_at "su"
        walk_at "to"
        refine TurnQ.mk (.inl rfl) (k11.trans k13) F (exI2 _ (gks2 ++ blk.filter (fun k => !gks2.contains k)) ⟨rfl, (hgt2.mono k13).app hys, fun k => ?_, by rw [List.length_append]; lia, by exact hN2, by exact r1, by exact r2, by exact r3⟩)
        rw [hstep, List.mem_append, List.mem_append, List.mem_filter, ← or_assoc, ← hgk2 k]
        constructor
        · rintro (h1 | ⟨h1, _⟩)
          · exact .inl h1
          · exact .inr h1
        · rintro (h1 | h1)
          · exact .inl h1
          · by_cases hk : k ∈ gks2
            · exact .inl hk
            · exact .inr ⟨h1, by simp [hk]⟩
    · rintro B11 m11 U11 s11 k hEx F
      refine ea2_8 hEx ?_
      clear hEx; rintro gvs2 gks2 rfl hgt2 hgk2 hgl2 hN2 r1 r2 r3
      walk_at "su"
      have k11 := k; clear k
      rw [hbl] at hgk2 hgl2
      walk_at "to"
      refine TurnQ.mk (.inl rfl) (k5.trans (k9.trans k11)) F (exI2 gvs2 gks2 ⟨rfl, hgt2, fun k => ?_, ?_, by exact hN2, by exact r1, by exact r2, by exact r3⟩)
      · rw [hgk2, hgk]
        unfold lotsU
        rw [List.take_add_one, hlo, List.flatMap_append]
        simp
      · lia
  · rintro B5 m5 U5 s5 k hEx F
    refine ea2_8 hEx ?_
    clear hEx; rintro gvs gks rfl hgt hgk hgl hN o1 o2 o3
    walk_at "su"
    have k5 := k; clear k
    have hlen : lvs.length = lots.length := by rw [hlt.length]; unfold lotTs; rw [List.length_map]
    rw [hlen, List.take_of_length_le (Nat.le_refl _)] at hgk
    rw [hlen] at hgl
    walk_at "to"
    refine' At.use (n := 12) (h _ _ _ GD gvs gks k5 hGD hgt hgk (by lia) (by exact hN) (by exact o1) (by exact o2) (by exact o3) F) ?ho1 ?hr1
    case ho1 => k_is
    case hr1 => rfl
end
section
/-! the law and the program speak of the same blocks -/
theorem comp_drop (d : FrD) (pl c : Nat) (x y : Int) : (uComp d pl c x y).map (List.drop 1) = lComp d x y c := by
  unfold uComp lComp
  rw [List.map_flatMap]
  congr 1
  funext j
  unfold uRow lRow
  rw [List.map_map]
  rfl
theorem flatMap_eq {α β : Type} {f g : α → List β} : ∀ {l : List α}, (∀ x ∈ l, f x = g x) → l.flatMap f = l.flatMap g
  | [], _ => rfl
  | a :: l, h => by rw [List.flatMap_cons, List.flatMap_cons, h a (.head _), flatMap_eq fun x hx => h x (.tail _ hx)]
theorem unit_drop {d : FrD} {wide high : Int} {al : Option Nat} (h : LawD d wide high al) (i : Nat) :
    (uNum d (psOf d al) i).map (List.drop 1) = match al with
      | none => lAt d ((i : Int) % wide) ((i : Int) / wide)
      | some a => [[(a : Int), (i : Int) % d.bA (d.at a), (i : Int) / d.bA (d.at a)]] := by
  cases al with
  | some a =>
    unfold uNum uAt unA psOf
    simp
  | none =>
    have h2 := h.none rfl
    have hn : ¬ (List.range d.sm.length).length = 1 := by rw [List.length_range]; lia
    have hu : unA d (psOf d none) = wide := by
      unfold unA psOf
      rw [if_neg hn, h.wA]
    unfold uNum
    rw [hu]
    unfold uAt
    show List.map (List.drop 1) (if (List.range d.sm.length).length = 1 then _ else _) = _
    rw [if_neg hn, List.map_flatMap]
    show List.flatMap _ (List.range (List.range d.sm.length).length) = lAt d _ _
    rw [List.length_range]
    unfold lAt
    refine flatMap_eq fun c hc => ?_
    rw [comp_drop]
    have hc := List.mem_range.mp hc
    show lComp d _ _ ((List.range d.sm.length).getD c 0) = _
    congr 1
    simp [hc]
theorem unit_at {d : FrD} {wide high : Int} {al : Option Nat} (h : LawD d wide high al) {i : Nat} (hi : i < (lUnits d wide high al).length) :
    (lUnits d wide high al)[i]? = some ((uNum d (psOf d al) i).map (List.drop 1)) := by
  rw [unit_drop h]
  cases al with
  | none =>
    simp only [lUnits, List.length_map, List.length_range] at hi ⊢
    simp [hi]
  | some a =>
    simp only [lUnits, List.length_map, List.length_range] at hi ⊢
    simp [hi]
theorem lots_iff {d : FrD} {wide high : Int} {al : Option Nat} (h : LawD d wide high al) {lots : List (Nat × Nat)} (hb : ∀ l ∈ lots, l.1 + l.2 ≤ (lUnits d wide high al).length) (k : List Int) :
    k ∈ lotKs d (psOf d al) lots ↔ k ∈ lotsU (lUnits d wide high al) lots := by
  unfold lotKs lotBl lotsU spanBl
  rw [List.mem_flatMap]
  constructor
  · intro hk
    obtain ⟨q, hq, rfl⟩ := List.mem_map.mp hk
    obtain ⟨l, hl, hq⟩ := List.mem_flatMap.mp hq
    obtain ⟨i, hi, hq⟩ := List.mem_flatMap.mp hq
    have hi := List.mem_range.mp hi
    have hlb := hb l hl
    have hu := unit_at h (show l.1 + i < _ by lia)
    refine ⟨l, hl, List.mem_flatten.mpr ⟨_, List.mem_of_getElem? (i := i) ?_, List.mem_map_of_mem (f := List.drop 1) hq⟩⟩
    rw [List.getElem?_take, if_pos hi, List.getElem?_drop, hu]
    simp
  · rintro ⟨l, hl, hk⟩
    obtain ⟨b, hbm, hk⟩ := List.mem_flatten.mp hk
    obtain ⟨i, hi⟩ := List.getElem?_of_mem hbm
    have hlb := hb l hl
    have hi2 : i < l.2 := by
      have := (List.getElem?_eq_some_iff.mp hi).1
      rw [List.length_take] at this; lia
    rw [List.getElem?_take, if_pos hi2, List.getElem?_drop, unit_at h (by lia)] at hi
    have hi := Option.some.inj hi
    rw [← hi] at hk
    obtain ⟨q, hq, rfl⟩ := List.mem_map.mp hk
    refine List.mem_map_of_mem (List.mem_flatMap.mpr ⟨l, hl, List.mem_flatMap.mpr ⟨i, List.mem_range.mpr hi2, ?_⟩⟩)
    simpa using hq
theorem unit_dom {d : FrD} {wide high : Int} {al : Option Nat} (h : LawD d wide high al) : ∀ b ∈ lUnits d wide high al, ∀ k ∈ b, DomK d k := by
  intro b hb k hk
  have hw := h.w
  have hh := h.h
  cases al with
  | some a =>
    simp only [lUnits] at hb
    obtain ⟨i, hi, rfl⟩ := List.mem_map.mp hb
    have hi := List.mem_range.mp hi
    rcases List.mem_singleton.mp hk with rfl
    have ha := h.some a rfl
    have h1 := h.bA a ha
    have h2 := h.bD a ha
    refine ⟨a, _, _, ha, rfl, inn_iff.mpr ?_⟩
    rw [h.wA, h.wD]
    have e1 : 0 ≤ (i : Int) % d.bA (d.at a) := Int.emod_nonneg _ (by lia)
    have e2 : (i : Int) % d.bA (d.at a) < d.bA (d.at a) := Int.emod_lt_of_pos _ (by lia)
    have e3 : 0 ≤ (i : Int) / d.bA (d.at a) := Int.ediv_nonneg (by lia) (by lia)
    have e4 : (i : Int) / d.bA (d.at a) < d.bD (d.at a) := Int.ediv_lt_of_lt_mul (by lia) (by rw [Int.mul_comm]; lia)
    lia
  | none =>
    simp only [lUnits] at hb
    obtain ⟨i, hi, rfl⟩ := List.mem_map.mp hb
    have hi := List.mem_range.mp hi
    unfold lAt at hk
    obtain ⟨c, hc, hk⟩ := List.mem_flatMap.mp hk
    have hc := List.mem_range.mp hc
    unfold lComp at hk
    obtain ⟨j, hj, hk⟩ := List.mem_flatMap.mp hk
    have hj := List.mem_range.mp hj
    unfold lRow at hk
    obtain ⟨q, hq, rfl⟩ := List.mem_map.mp hk
    have hq := List.mem_range.mp hq
    have hbd := h.ok.bd _ (List.mem_of_getElem? (FrD.at_get hc))
    refine ⟨c, _, _, hc, rfl, inn_iff.mpr ?_⟩
    rw [h.wA, h.wD]
    have e1 : 0 ≤ (i : Int) % wide := Int.emod_nonneg _ (by lia)
    have e2 : (i : Int) % wide < wide := Int.emod_lt_of_pos _ (by lia)
    have e3 : 0 ≤ (i : Int) / wide := Int.ediv_nonneg (by lia) (by lia)
    have e4 : (i : Int) / wide < high := Int.ediv_lt_of_lt_mul (by lia) (by rw [Int.mul_comm]; lia)
    generalize (i : Int) % wide = X at *
    generalize (i : Int) / wide = Y at *
    have p1 : (d.at c).1 = 1 ∨ (d.at c).1 = 2 := by lia
    have p2 : (d.at c).2 = 1 ∨ (d.at c).2 = 2 := by lia
    rcases p1 with p1 | p1 <;> rcases p2 with p2 | p2 <;> rw [p1] at hq ⊢ <;> rw [p2] at hj ⊢ <;> lia
theorem lots_dom {d : FrD} {wide high : Int} {al : Option Nat} (h : LawD d wide high al) {lots : List (Nat × Nat)} {k : List Int} (hk : k ∈ lotsU (lUnits d wide high al) lots) : DomK d k := by
  unfold lotsU at hk
  obtain ⟨l, _, hk⟩ := List.mem_flatMap.mp hk
  obtain ⟨b, hb, hk⟩ := List.mem_flatten.mp hk
  exact unit_dom h b (List.mem_of_mem_drop (List.mem_of_mem_take hb)) k hk
theorem lots_len {d : FrD} {wide high : Int} {al : Option Nat} (h : LawD d wide high al) {lots : List (Nat × Nat)} (hb : ∀ l ∈ lots, l.1 + l.2 ≤ (lUnits d wide high al).length) (h3 : lots.length ≤ 3) : (lotBl d (psOf d al) lots).length ≤ 10000 := by
  have hul := h.units_len
  have h1 := flatMap_le (fun l : Nat × Nat => spanBl d (psOf d al) l.1 l.2) 288 lots fun l hl => by
    have hlb := hb l hl
    have h2 := flatMap_le (fun (i : Nat) => uNum d (psOf d al) ((l.1 : Int) + i)) 12 (List.range l.2) fun i hi => by
      have hi := List.mem_range.mp hi
      have hu := unit_at h (show l.1 + i < _ by lia)
      have := h.unit_len _ (List.mem_of_getElem? hu)
      rw [List.length_map] at this
      simpa using this
    rw [List.length_range] at h2
    exact Nat.le_trans h2 (by lia)
  exact Nat.le_trans h1 (by lia)
theorem psOk {d : FrD} {wide high : Int} {al : Option Nat} (h : LawD d wide high al) : PsOk d (psOf d al) := by
  have h1 := h.ok.le
  have h2 := h.ok.ne
  cases al with
  | some a => exact ⟨by simp [psOf], by simp [psOf], fun c hc => by rcases List.mem_singleton.mp hc with rfl; exact h.some c rfl⟩
  | none => exact ⟨by simp [psOf]; lia, by simp [psOf]; lia, fun c hc => List.mem_range.mp hc⟩
theorem unA_bd {d : FrD} {wide high : Int} {al : Option Nat} (h : LawD d wide high al) : 0 < unA d (psOf d al) ∧ unA d (psOf d al) < 1000000 := by
  have hw := h.w
  cases al with
  | some a =>
    have := h.bd (h.some a rfl)
    have e : unA d (psOf d (some a)) = d.bA (d.at a) := by unfold unA psOf; simp
    rw [e]; lia
  | none =>
    have h2 := h.none rfl
    have e : unA d (psOf d none) = wide := by
      unfold unA psOf
      rw [if_neg (by rw [List.length_range]; lia), h.wA]
    rw [e]; lia
end
section
theorem PairsAt.mono {w : World} {B h : Heap} {vs : List Value} {ys : Ents} (x : PairsAt PR w B vs ys) (k : Kp B h) : PairsAt PR w h vs ys :=
  ⟨x.1, fun i v y hv hy => let ⟨p, a, b, c⟩ := x.2 i v y hv hy; ⟨p, a, b.keeps k, c.mono k⟩⟩
theorem PairsAt.nil {w : World} {B : Heap} : PairsAt PR w B [] [] := ⟨rfl, fun i v y h => nomatch h⟩
theorem PairsAt.snoc {w : World} {B : Heap} {vs : List Value} {ys : Ents} {p : Addr} {y : List Int × Addr × Value} (x : PairsAt PR w B vs ys) (hp : Is B p (TupP [Value.ref y.2.1, y.2.2])) (hy : TupAt PR w B y.2.1 y.1) : PairsAt PR w B (vs ++ [.ref p]) (ys ++ [y]) := by
  refine ⟨by simp [x.1], fun i v z hv hz => ?_⟩
  by_cases hi : i < ys.length
  · rw [List.getElem?_append_left hi] at hz
    rw [List.getElem?_append_left (by rw [x.1]; exact hi)] at hv
    exact x.2 i v z hv hz
  · have hl := (List.getElem?_eq_some_iff.mp hz).1
    have hi2 : i = ys.length := by simp at hl; lia
    subst hi2
    rw [List.getElem?_append_right (Nat.le_refl _)] at hz
    rw [List.getElem?_append_right (by rw [x.1]; exact Nat.le_refl _), x.1] at hv
    simp at hz hv; subst hz hv
    exact ⟨p, rfl, hp, hy⟩
theorem nodup_le {α : Type} [DecidableEq α] : ∀ (l m : List α), l.Nodup → (∀ x ∈ l, x ∈ m) → l.length ≤ m.length
  | [], _, _, _ => Nat.zero_le _
  | a :: l, m, hn, h => by
    have hn := List.nodup_cons.mp hn
    have h1 := nodup_le l (m.erase a) hn.2 fun x hx => (List.mem_erase_of_ne fun q => hn.1 (by rw [← q]; exact hx)).mpr (h x (.tail _ hx))
    have ha := h a (.head _)
    rw [List.length_erase_of_mem ha] at h1
    have : 0 < m.length := List.length_pos_of_mem ha
    rw [List.length_cons]; lia
theorem valK_cons (x : List Int × Addr × Value) (xs : Ents) (k : List Int) : valK (x :: xs) k = if x.1 = k then some x.2.2 else valK xs k := by
  unfold valK; rw [atKey_cons]; split <;> rfl
theorem valK_mem : ∀ {xs : Ents}, (xs.map (·.1)).Nodup → ∀ {i : Nat} {x : List Int × Addr × Value}, xs[i]? = some x → valK xs x.1 = some x.2.2
  | [], _, i, x, h => by simp at h
  | y :: ys, hn, 0, x, h => by
    have : y = x := by simpa using h
    subst this
    rw [valK_cons, if_pos rfl]
  | y :: ys, hn, i + 1, x, h => by
    rw [List.map_cons, List.nodup_cons] at hn
    have h' : ys[i]? = some x := by simpa using h
    rw [valK_cons, if_neg fun q => hn.1 (by rw [q]; exact List.mem_map_of_mem (List.mem_of_getElem? h')), valK_mem hn.2 h']
theorem valK_filter {f : List Int → Bool} {k : List Int} : ∀ {xs : Ents}, valK (xs.filter fun x => f x.1) k = if f k then valK xs k else none
  | [] => by simp [valK, atKey]
  | y :: ys => by
    have ih := valK_filter (f := f) (k := k) (xs := ys)
    rw [List.filter_cons]
    by_cases hy : y.1 = k
    · cases hf : f k with
      | true =>
        rw [hy, hf, if_pos rfl, valK_cons, if_pos hy, if_pos rfl, valK_cons, if_pos hy]
      | false =>
        rw [hy, hf, if_neg Bool.false_ne_true, ih, hf]
        simp
    · split
      · rw [valK_cons, if_neg hy, ih, valK_cons, if_neg hy]
      · rw [ih, valK_cons, if_neg hy]
structure KnOk (w : World) (B : Heap) (xs kn : Ents) (V : List Int → List Int) (G : List Int → Bool) : Prop where
  keys : KeysAt PR w B kn
  dom : ∀ k, (valK kn k).isSome = (decide (k ∈ xs.map (·.1)) && !G k)
  val : ∀ k v, valK kn k = some v → ∃ l vs, v = Value.ref l ∧ Is B l (LstP vs) ∧ IntsAre vs (V k) ∧ 0 < (V k).length
theorem KnOk.mono {w : World} {B h : Heap} {xs kn : Ents} {V : List Int → List Int} {G : List Int → Bool} (x : KnOk w B xs kn V G) (k : Kp B h) : KnOk w h xs kn V G :=
  ⟨x.keys.mono k, x.dom, fun y v hv => let ⟨l, vs, a, b, c⟩ := x.val y v hv; ⟨l, vs, a, b.keeps k, c⟩⟩

theorem KnOk.okS {w : World} {B : Heap} {xs kn : Ents} {V : List Int → List Int} {G : List Int → Bool} {d : FrD} (h : KnOk w B xs kn V G)
    (hK : ∀ k, k ∈ xs.map (·.1) ↔ ∃ (c : Nat) (x y : Int), c < d.sm.length ∧ k = [(c : Int), x, y] ∧ d.inn c x y = true) {c : Nat} (hc : c < d.sm.length) (a b : Int) (r : Int × Int) : (valK kn [(c : Int), a + r.1, b + r.2]).isSome = Mine.okS d G c a b r := by
  have hdm : ∀ x' y' : Int, decide ([(c : Int), x', y'] ∈ xs.map (·.1)) = d.inn c x' y' := fun x' y' => by
    rw [Bool.eq_iff_iff, decide_eq_true_iff, hK]
    constructor
    · rintro ⟨c', x2, y2, h1, h2, h3⟩
      injection h2 with e1 e2
      injection e2 with e2 e3
      injection e3 with e3 _
      have e1 := Int.ofNat.inj e1
      subst e1 e2 e3
      exact h3
    · intro h; exact ⟨c, x', y', hc, rfl, h⟩
  rw [h.dom, hdm]; rfl
theorem KnOk.len {w : World} {B : Heap} {xs kn : Ents} {V : List Int → List Int} {G : List Int → Bool} (h : KnOk w B xs kn V G) (hn : (kn.map (·.1)).Nodup) : kn.length ≤ xs.length := by
  have := nodup_le (kn.map (·.1)) (xs.map (·.1)) hn fun k hk => by
    have h1 := h.dom k
    rw [valK_isSome.mpr hk] at h1
    exact of_decide_eq_true (Bool.and_eq_true_iff.mp h1.symm).1
  simpa using this
theorem KeysAt.merH {w : World} {B : Heap} : ∀ {ys xs : Ents}, KeysAt PR w B xs → KeysAt PR w B ys → KeysAt PR w B (merH xs ys)
  | [], _, h, _ => h
  | y :: ys, xs, h, g => KeysAt.merH (ys := ys) (h.stored (g y (.head _))) fun p hp => g p (.tail _ hp)
theorem KnOk.step {w : World} {B : Heap} {xs kn lt : Ents} {V : List Int → List Int} {G : List Int → Bool} {d : FrD} (h : KnOk w B xs kn V G) (hlK : KeysAt PR w B lt) (hn : (lt.map (·.1)).Nodup)
    (hlS : ∀ k, (valK lt k).isSome = act d G k) (hlV : ∀ k v, valK lt k = some v → ∃ l vs, v = Value.ref l ∧ Is B l (LstP vs) ∧ IntsAre vs (newV d V G k)) (hGk : ∀ k, G k = true → k ∈ xs.map (·.1)) :
    KnOk w B xs (merH kn lt) (stepV d V G) (stepG d G) := by
  refine ⟨h.keys.merH hlK, fun k => ?_, fun k v hv => ?_⟩
  · rw [val_merH _ _ _ hn]
    have h1 := hlS k
    have h2 := h.dom k
    unfold stepG
    cases hq : valK lt k with
    | some v =>
      rw [hq] at h1
      have ha : act d G k = true := h1.symm
      have hg : G k = true := by unfold act at ha; exact (Bool.and_eq_true_iff.mp ha).1
      rw [ha, hg, decide_eq_true (hGk k hg)]; rfl
    | none =>
      rw [hq] at h1
      have ha : act d G k = false := h1.symm
      rw [ha, Option.none_or, h2]; simp
  · rw [val_merH _ _ _ hn] at hv
    have h1 := hlS k
    unfold stepV
    cases hq : valK lt k with
    | some v' =>
      rw [hq] at h1 hv
      have ha : act d G k = true := h1.symm
      cases hv
      obtain ⟨l, vs, a, b, c⟩ := hlV k _ hq
      rw [ha, if_pos rfl]
      exact ⟨l, vs, a, b, c, by unfold newV; simp⟩
    | none =>
      rw [hq] at h1 hv
      have ha : act d G k = false := h1.symm
      rw [ha, if_neg Bool.false_ne_true]
      exact h.val k v hv

theorem nthU_get {x : Addr × (Obj → Prop)} : ∀ (U : Own) (k : Nat), nthU U k = some x → U[k]? = some x := by
  intro U
  induction U with
  | nil => intro k h; cases k <;> cases h
  | cons y l ih =>
    intro k h
    cases k with
    | zero => cases h; rfl
    | succ k => rw [List.getElem?_cons_succ]; exact ih k h
theorem Fs.neN {e : En} {G : Array GenState} {B : Heap} {L a b : Addr} {m : Str → Option Value} {U : Own} {s : Shared} {P P' : Obj → Prop} {i j : Nat} (F : Fs e G B L m U s) (hi : nthU U i = some (a, P)) (hj : nthU U j = some (b, P')) (hij : i ≠ j) : a ≠ b := fun q => by
  have e1 : (U.map (·.1))[i]? = some a := by rw [List.getElem?_map, nthU_get _ _ hi]; rfl
  have e2 : (U.map (·.1))[j]? = some b := by rw [List.getElem?_map, nthU_get _ _ hj]; rfl
  exact hij ((List.getElem?_inj (List.getElem?_eq_some_iff.mp e1).1 F.dis).mp (e1.trans (by rw [q, e2])))
set_option maxHeartbeats 8000000 in
theorem lawConcealedS {w : World} {A : Around} {E : Value → Shared → Prop} {s : Shared} {B : Heap} {D gl : Addr} {xs : Ents} {gvs : List Value} {gks : List (List Int)} {d : FrD} {V0 : List Int → List Int} {Q : Value → Shared → Prop}
    (gd : Gd w B) (kB : Kp B s.heap) (rm : Rm A 6) (hD : Is B D (DicP PR w xs)) (hDs : (D == sysModules) = false) (K : KeysAt PR w B xs) (hxl : xs.length ≤ 1000)
    (hrow : ∀ k v, valK xs k = some v → ∃ l vs, v = Value.ref l ∧ Is B l (LstP vs) ∧ IntsAre vs (V0 k) ∧ 0 < (V0 k).length)
    (hzl : Is B gl (LstP gvs)) (hzt : TupsAre B gvs gks) (hgm : ∀ k ∈ gks, k ∈ xs.map (·.1)) (hgz : gks.length ≤ 10000)
    (hK : ∀ k, k ∈ xs.map (·.1) ↔ ∃ (c : Nat) (x y : Int), c < d.sm.length ∧ k = [(c : Int), x, y] ∧ d.inn c x y = true)
    (hsys : ∀ D : Addr, s.heap.get? D = none → (D == sysModules) = false)
    (h : ∀ s' B' D' zs V', Kp B B' → Rs [] s.gens B s B' s' → s.heap.get? D' = none → Is B' D' (DicP PR w zs) → KeysAt PR w B' zs → Conc d V0 (fun k => gks.contains k) V' →
      (∀ k ∈ xs.map (·.1), ∃ l vs, valK zs k = some (Value.ref l) ∧ Is B' l (LstP vs) ∧ IntsAre vs (V' k)) → Q (.ref D') s') :
    wpAny (model PR w) A (call (.ref 292) [.ref D, .ref gl]) Q E s := by
  refine wpAny_call ?_
  refine' enterC0 (n := 5) (binds := [(Str.ofString "rows", .ref D), (Str.ofString "gone", .ref gl)]) [] [] gd kB rm ?ho ?hcd ?hb ?hV ?hd ?hk ?hnd ?h ?c1 ?c2 ?c3
  case ho => k_is
  case hcd => k_is
  case hb => rfl
  case c1 => rfl
  case c2 => rfl
  case c3 => rfl
  case hV => exact fun p hp => nomatch hp
  case hd => simp
  case hnd => decide
  case hk =>
    intro n y hy
    simp only [List.mem_cons, List.not_mem_nil, or_false] at hy
    rcases hy with rfl | rfl
    all_goals first | exact .inl rfl | exact .inr ⟨rfl, rfl⟩
  case h =>
  intro L s1 E' A' m0 F R env Qr
  replace F : Fs ⟨[], B, s⟩ s.gens B L _ [(L + 4, CelP none), (L + 3, CelP none), (L + 2, CelP (some (.ref gl))), (L + 1, CelP (some (.ref D)))] s1 := F
  have hu20 := R.u
  have hu40 : A'.units + 40 < cLine := by have := R.un; lia
  obtain ⟨oD, hoD, hexD, hndD, es, ep, hdatD, hes⟩ := id hD
  have hesl : es.size = xs.length := by rw [← Array.length_toList, hes, List.length_map]
  have hdE : Is B D (DicE es ep) := ⟨oD, hoD, hexD, hdatD⟩
  walk_at "go"
  refine listComp1 (cl := [(Str.ofString "rows", L + 1), (Str.ofString "gone", L + 2)]) F R.hh ?_ F.lg rfl (by decide) rfl (by decide) (fun _ => rfl)
  walk_at "go"
  refine iDic F hDs (hdE.keeps F.kp) ?_
  clear F; intro s2 it2 hit2 F
  refine CompTodo.mk (B2 := B) (B₀ := B) (n := es.size) it2 (nxDict hdE) (.refl _) ?_ F (fun i B' ys U' => U' = [(L + 4, CelP none), (L + 3, CelP none), (L + 2, CelP (some (.ref gl))), (L + 1, CelP (some (.ref D)))] ∧ PairsAt PR w B' ys ((xs.take i).filter fun x => !gks.contains x.1)) ⟨rfl, .nil⟩ ?_
  · intro i p hp
    rcases List.mem_singleton.mp hp with rfl; exact hit2
  intro Iv
  refine ⟨fun _ _ _ _ _ h k => ⟨h.1, h.2.mono k⟩, ?_, ?_⟩
  · rintro C D' i v B3 m3 ys3 U3 s3 E3 hC hi k ⟨rfl, hys⟩ ⟨en, hen, rfl⟩ F
    walk_at "su"
    have hi' : i < xs.length := by lia
    have hen2 : en = entryOfKey (tk PR w) xs[i] := by
      have h1 : es.toList[i]? = some en := by rw [Array.getElem?_toList]; exact hen
      rw [hes, List.getElem?_map, List.getElem?_eq_getElem hi'] at h1
      exact (Option.some.inj h1).symm
    subst hen2
    refine ea3_3 ((hK _).mp (List.mem_map_of_mem (List.getElem_mem hi'))) ?_; rintro c a b hc hkey hinn
    have htk := K _ (List.getElem_mem hi')
    have htk2 := htk
    rw [hkey] at htk
    refine ea3_1 (tupAt_out3 htk) ?_; rintro u1 u2 u3 hti
    have hva : valK xs xs[i].1 = some xs[i].2.2 := valK_mem hndD (List.getElem?_eq_getElem hi')
    have hstep : (xs.take (i + 1)).filter (fun x => !gks.contains x.1) = (xs.take i).filter (fun x => !gks.contains x.1) ++ (if gks.contains xs[i].1 then [] else [xs[i]]) := by
      rw [List.take_add_one, List.getElem?_eq_getElem hi', List.filter_append]
      congr 1
      simp only [Option.toList, List.filter_cons, List.filter_nil]
      cases gks.contains xs[i].1 <;> rfl
    walk_at "lift"
    have k3 := k; clear k
    show wpAny _ _ (assign _ _ (Value.ref xs[i].2.1)) _ _ _
    generalize hxi : xs[i] = x at *
    walk_at "go"
    refine ninTups F hu20 (hzl.keeps F.kp) hzt (hti.keeps F.rn.bb) (.cons _ _ (.cons _ _ (.cons _ _ .nil))) ?_
    walk_at "go"
    rw [← hkey]
    have hyl := hys.1
    have hyl2 : ((xs.take i).filter fun x => !gks.contains x.1).length ≤ 1000 := Nat.le_trans (List.length_filter_le _ _) (by rw [List.length_take]; lia)
    cases hgc : gks.contains x.1 with
    | true =>
      rw [show (!true) = false from rfl]
      rw [hgc, if_pos rfl, List.append_nil] at hstep
      refine ifN Bool.false_ne_true ?_
      exact ⟨_, _, _, k3, F, rfl, by rw [hstep]; exact hys⟩
    | false =>
      rw [show (!false) = true from rfl]
      rw [hgc, if_neg Bool.false_ne_true] at hstep
      refine ifP rfl ?_
      walk_at "go"
      refine gDic F (hD.keeps (F.rn.bb.trans F.kp)) hu20 (K.mono F.rn.bb) (htk2.mono F.rn.bb) hva ?_
      clear F; intro s4 F
      walk_at "go"
      refine CElt.mk (by lia) (k3.trans k) F ⟨rfl, ?_⟩
      rw [hstep]
      exact (hys.mono k).snoc ht (htk2.mono F.rn.bb)
  · rintro B3 ys3 U3 k ⟨rfl, hys⟩ D3 s3 hD3 F
    walk_at "su"
    rw [show es.size = xs.length from hesl, List.take_of_length_le (Nat.le_refl _)] at hys
    generalize hks0 : (xs.filter fun x => !gks.contains x.1) = kn0 at hys
    have hkn0l : kn0.length ≤ 1000 := by rw [← hks0]; exact Nat.le_trans (List.length_filter_le _ _) hxl
    have hyl := hys.1
    walk_at "lift"
    have k3 := k; clear k
    refine Fs.frz F hD3 ?_; clear F; intro B4 k hL3 F
    walk_at "lift"
    have k4 := k; clear k
    walk_at "go"
    refine bDictOf F R.hh hu40 hL3 (hys.mono k4) (by lia) ?_
    clear F; intro s5 KD hKD F hkk
    walk_at "go"
    refine lCopy F (hzl.keeps F.kp) (by rw [hzt.length]; lia) ?_
    clear F; intro s6 LD hLD F
    refine Fs.frz F hLD ?_; clear F; intro B7 k hLl F
    walk_at "lift"
    have k7 := k; clear k
    walk_at "go"
    have k8 := k; clear k
    refine sCellM (x := Str.ofString "known") [_, _] F ?_
    clear F; intro s8 F; walk_at "su"
    walk_at "go"
    have hnd0 : (kn0.map (·.1)).Nodup := by rw [← hks0]; exact List.Nodup.sublist (List.filter_sublist.map _) hndD
    have hval0 : ∀ k, valK (merH [] kn0) k = if gks.contains k then none else valK xs k := fun k => by
      have e1 : valK (xs.filter fun x => !gks.contains x.1) k = _ := valK_filter (f := fun k => !gks.contains k)
      rw [val_merH _ _ _ hnd0, ← hks0, e1]
      cases gks.contains k <;> simp [valK, atKey]
    have hKn0 : KnOk w B' xs (merH [] kn0) V0 (fun k => gks.contains k) := by
      refine ⟨hkk.mono (k7.trans k8), fun k => ?_, fun k v hv => ?_⟩
      · rw [hval0]
        cases hg : gks.contains k with
        | true => simp
        | false =>
          rw [if_neg Bool.false_ne_true, Bool.eq_iff_iff, valK_isSome]
          simp
      · rw [hval0] at hv
        split at hv
        · cases hv
        · refine ea2_3 (hrow k v hv) ?_; rintro l vs q1 q2 q3
          exact ⟨l, vs, q1, q2.keeps F.rn.bb, q3⟩
    obtain ⟨B8, hB8⟩ : ∃ b, b = B' := ⟨_, rfl⟩
    subst hB8
    refine wpAny_mono (Q := fun f s' => f = Flow.next ∧ ∃ B' m' kn V G vl, Kp B8 B' ∧ Fs ⟨[], B, s⟩ s.gens B' L m' [(KD, DicP PR w kn), (L + 4, CelP vl), (L + 3, CelP (some (.ref KD))), (L + 2, CelP (some (.ref gl))), (L + 1, CelP (some (.ref D)))] s' ∧
      KnOk w B' xs kn V G ∧ Conc d V0 (fun k => gks.contains k) V ∧ (∀ k, G k = true → V k = V0 k)) ?_ ?_ (fun _ _ h => h)
    · refine whileStmt fun X => ?_
      refine whileN (fun n s' => ∃ B' m' LD lvs lks kn V G vl, n = lks.length ∧ Fs ⟨[], B, s⟩ s.gens B' L m' [(KD, DicP PR w kn), (L + 4, CelP vl), (L + 3, CelP (some (.ref KD))), (L + 2, CelP (some (.ref gl))), (L + 1, CelP (some (.ref D)))] s' ∧ Kp B8 B' ∧
        Is B' LD (LstP lvs) ∧ TupsAre B' lvs lks ∧ (∀ k, lks.contains k = G k) ∧ (∀ k ∈ lks, k ∈ xs.map (·.1)) ∧ lks.length ≤ 10000 ∧ KnOk w B' xs kn V G ∧ (∀ V', Conc d V G V' → Conc d V0 (fun k => gks.contains k) V') ∧ (∀ k, G k = true → V k = V0 k) ∧
        m' (Str.ofString "left") = some (.ref LD)) ?_ gks.length ?_
      rotate_left
      · exact ⟨B8, _, LD, gvs, gks, _, V0, _, _, rfl, F, .refl _, hLl.keeps k8, hzt, fun _ => rfl, hgm, hgz, hKn0, fun _ h => h, fun _ _ => rfl, rfl⟩
      rintro n s9 E9 hX9; refine ea9_12 hX9 ?_; clear hX9; rintro B9 m9 LD lvs lks kn V G vl rfl F k9 hLl hlt hG hlk hlz hKn hCo hV0 n1
      have k := k9
      walk_at "lift"
      clear k
      walk_at "go"
      refine nLstP F ?_
      clear F; intro s10 B10 l10 k hl10 F; walk_at "lift"
      have k10 := k; clear k
      walk_at "go"
      refine bNeNil hu20 ((hLl.keeps k10).keeps F.kp) (hl10.keeps F.kp) ?_
      walk_at "go"
      cases hve : lvs.isEmpty with
      | true =>
        rw [show (!true) = false from rfl]
        have hl0 : lks = [] := by
          have : lvs = [] := List.isEmpty_iff.mp hve
          rw [this] at hlt; exact List.length_eq_zero_iff.mp hlt.length.symm
        refine ifN Bool.false_ne_true ?_
        refine ⟨rfl, _, _, kn, V, G, vl, k9.trans k10, F, hKn.mono k10, hCo V (.stop fun k => ?_), hV0⟩
        unfold act
        rw [← hG k, hl0]; rfl
      | false =>
        rw [show (!false) = true from rfl]; refine ifP rfl ?_
        walk_at "go"
        refine nDic F ?_
        clear F; intro s11 TD hTD F; walk_at "su"
        walk_at "go"
        refine sCellM (x := Str.ofString "later") [_, _] F ?_
        clear F; intro s12 F; walk_at "su"
        have hTs := hsys TD hTD
        have hKs := hsys KD hKD
        have hKn := hKn.mono k10
        have hLl := hLl.keeps k10
        have hlt := hlt.mono k10
        walk_at "go"
        refine for1 F R.hh ?_ (fun _ => rfl)
        walk_at "go"
        refine iLst F (hLl.keeps F.kp) ?_
        clear F; intro s13 it13 hit13 F
        refine ForTodo.mk (B2 := B10) (B₀ := B10) it13 (nxList (lst_is hLl)) (.refl _) ?_ F (fun i B' m' U' => ∃ lt, U' = [(TD, DicP PR w lt), (KD, DicP PR w kn), (L + 4, CelP (some (.ref TD))), (L + 3, CelP (some (.ref KD))), (L + 2, CelP (some (.ref gl))), (L + 1, CelP (some (.ref D)))] ∧ KeysAt PR w B' lt ∧
          (∀ k, (valK lt k).isSome = ((lks.take i).contains k && act d G k)) ∧ (∀ k v, valK lt k = some v → ∃ l vs, v = Value.ref l ∧ Is B' l (LstP vs) ∧ IntsAre vs (newV d V G k)) ∧ lt.length ≤ i ∧ m' (Str.ofString "left") = some (.ref LD)) ⟨[], rfl, (fun _ h => nomatch h), (fun k => by simp [valK, atKey]), (fun k v h => by simp [valK, atKey] at h), Nat.le_refl _, n1⟩ ?_
        · intro i p hp
          rcases List.mem_singleton.mp hp with rfl; exact hit13
        intro Iv
        refine ⟨?_, ?_, ?_⟩
        · rintro i B' B'' m' U' hX9; refine ea1_5 hX9 ?_; clear hX9; rintro lt h1 h2 h3 h4 h5 k
          exact ⟨lt, h1, h2.mono k, h3, fun k' v hv => let ⟨l, vs, a, b, c⟩ := h4 k' v hv; ⟨l, vs, a, b.keeps k, c⟩, h5⟩
        · rintro i v B14 m14 U14 s14 E14 hi k hX9; refine ea1_6 hX9 ?_; clear hX9; rintro lt rfl hlK hlS hlV hll n2 hv F
          walk_at "su"
          refine hlt.getE hv ?_; rintro ks t tvs hks rfl hti hin
          refine ea3_3 ((hK _).mp (hlk _ (List.mem_of_getElem? hks))) ?_; rintro c a b hc rfl hinn
          refine ea3_1 (ints3 hin) ?_; rintro u1 u2 u3 rfl
          walk_at "lift"
          replace hti := hti.keeps k
          have hKn := hKn.mono k
          have k14 := k; clear k
          walk_at "gx"
          first | ((with_reducible refine' uItems F R.hh ?zut ?zun ?_); (case zut => assumption); (case zun => rfl); clear F; intro s' F) | ((with_reducible refine' uTup F R.hh ?zut ?zun ?zus ?_); (case zut => assumption); (case zun => rfl); (case zus => rfl); clear F; intro s' F)
          walk_at "gx"
          walk_at "tup"
          have ht1 := ht; have kt1 := k; clear ht k
          walk_at "gx"
          walk_at "tup"
          have ht2 := ht; have kt2 := k; clear ht k
          walk_at "gx"
          walk_at "tup"
          have ht3 := ht; have kt3 := k; clear ht k
          walk_at "gx"
          walk_at "tup"
          have ht4 := ht; have kt4 := k; clear ht k
          walk_at "gx"
          refine nLstP F ?_
          clear F; intro s15 B15 l15 k hl15 F; walk_at "lift"
          have k15 := k; clear k
          have kt := ((kt1.trans kt2).trans (kt3.trans kt4)).trans k15
          replace ht1 := ht1.keeps ((kt2.trans kt3).trans (kt4.trans k15))
          replace ht2 := ht2.keeps (kt3.trans (kt4.trans k15))
          replace ht3 := ht3.keeps (kt4.trans k15)
          replace ht4 := ht4.keeps k15
          have hbes := TupsAre.cons ⟨_, _, rfl, ht1, .cons _ _ (.cons _ _ (.cons _ _ .nil))⟩ (TupsAre.cons ⟨_, _, rfl, ht2, .cons _ _ (.cons _ _ (.cons _ _ .nil))⟩ (TupsAre.cons ⟨_, _, rfl, ht3, .cons _ _ (.cons _ _ (.cons _ _ .nil))⟩ (TupsAre.cons ⟨_, _, rfl, ht4, .cons _ _ (.cons _ _ (.cons _ _ .nil))⟩ .nil)))
          have ebes : [[(c : Int), a - 1, b], [(c : Int), a + 1, b], [(c : Int), a, b - 1], [(c : Int), a, b + 1]] = SID.map fun r => [(c : Int), a + r.1, b + r.2] := by
            unfold SID
            simp only [List.map_cons, List.map_nil, Int.add_zero, Int.sub_eq_add_neg]
          rw [ebes] at hbes
          generalize hbv : ([_, _, _, _] : List Value) = bvs at hbes hl15
          clear ht1 ht2 ht3 ht4
          have hKn := hKn.mono kt
          walk_at "gx"
          refine listComp1Use (cl := [(Str.ofString "known", L + 3)]) F R.hh ?_ F.lg rfl (by decide) rfl (by decide) (fun _ => rfl) rfl rfl rfl
          walk_at "gx"
          refine iLst F (hl15.keeps F.kp) ?_
          clear F; intro s16 it16 hit16 F
          have hokS : ∀ r : Int × Int, (valK kn [(c : Int), a + r.1, b + r.2]).isSome = okS d G c a b r := hKn.okS hK hc a b
          refine CompTodo.mk (B2 := B15) (B₀ := B15) (n := bvs.length) it16 (nxList (lst_is hl15)) (.refl _) ?_ F (fun j B' ys U' => U' = [(it13, LItP LD (i + 1)), (TD, DicP PR w lt), (KD, DicP PR w kn), (L + 4, CelP (some (.ref TD))), (L + 3, CelP (some (.ref KD))), (L + 2, CelP (some (.ref gl))), (L + 1, CelP (some (.ref D)))] ∧
            IntsAre ys (((SID.take j).filter (okS d G c a b)).map fun r => (V [(c : Int), a + r.1, b + r.2]).headD 0)) ⟨rfl, .nil⟩ ?_
          · intro i p hp
            rcases List.mem_singleton.mp hp with rfl; exact hit16
          intro Iv
          refine ⟨fun _ _ _ _ _ h _ => h, ?_, ?_⟩
          · rintro C D' j v B17 m17 ys17 U17 s17 E17 hC hj k ⟨rfl, hys⟩ hv F
            walk_at "su"
            refine hbes.getE hv ?_; rintro ks' t' tvs' hks' rfl hti' hin'
            rw [List.getElem?_map] at hks'
            obtain ⟨r, hr, rfl⟩ := Option.map_eq_some_iff.mp hks'
            refine ea3_1 (ints3 hin') ?_; rintro w1 w2 w3 rfl
            walk_at "lift"
            replace hti' := hti'.keeps k
            have hKn := hKn.mono k
            have k17 := k; clear k
            have hstep : ((SID.take (j + 1)).filter (okS d G c a b)).map (fun r => (V [(c : Int), a + r.1, b + r.2]).headD 0) = ((SID.take j).filter (okS d G c a b)).map (fun r => (V [(c : Int), a + r.1, b + r.2]).headD 0) ++ (if okS d G c a b r then [(V [(c : Int), a + r.1, b + r.2]).headD 0] else []) := by
              rw [List.take_add_one, hr, List.filter_append, List.map_append]
              congr 1
              simp only [Option.toList, List.filter_cons, List.filter_nil]
              cases okS d G c a b r <;> rfl
            have htk' : TupAt PR w B17 t' [(c : Int), a + r.1, b + r.2] := tupAt_in3 hti'
            walk_at "gx"
            refine inDic F (F.nth (a := KD) 5 rfl) hKs hu20 hKn.keys htk' ?_
            clear F; intro s18 F
            rw [hokS r]
            walk_at "gx"
            cases hok : okS d G c a b r with
            | false =>
              rw [hok, if_neg Bool.false_ne_true, List.append_nil] at hstep
              refine ifN Bool.false_ne_true ?_
              exact ⟨_, _, _, k17, F, rfl, by rw [hstep]; exact hys⟩
            | true =>
              rw [hok, if_pos rfl] at hstep
              refine ifP rfl ?_
              have hsome := hokS r
              rw [hok] at hsome
              obtain ⟨v', hv'⟩ := Option.isSome_iff_exists.mp hsome
              refine ea2_4 (hKn.val _ _ hv') ?_; rintro l' vs' rfl hl' hi' hp'
              walk_at "gx"
              refine gDic F (F.nth (a := KD) 5 rfl) hu20 hKn.keys htk' hv' ?_
              clear F; intro s19 F
              walk_at "gx"
              cases hVk : V [(c : Int), a + r.1, b + r.2] with
              | nil => rw [hVk] at hp'; exact absurd hp' (Nat.lt_irrefl _)
              | cons n rest =>
                rw [hVk] at hi' hstep
                cases hi' with
                | @cons vs2 ns2 _ tn hrest =>
                  refine gLst (hl'.keeps F.kp) (by lia) (by lia) (k := 0) rfl ?_
                  have hyl := hys.length
                  have hyl2 : ((SID.take j).filter (okS d G c a b)).length ≤ 4 := Nat.le_trans (List.length_filter_le _ _) (by rw [List.length_take]; unfold SID; simp; lia)
                  rw [List.length_map] at hyl
                  refine CElt.mk (by lia) k17 F ⟨rfl, ?_⟩
                  rw [hstep]
                  exact intsApp hys (.cons _ _ .nil)
          · rintro B17 ys17 U17 k ⟨rfl, hys⟩ D17 s17 hD17 F
            walk_at "su"
            have hbl : bvs.length = SID.length := by rw [hbes.length, List.length_map]
            rw [hbl, List.take_of_length_le (Nat.le_refl _)] at hys
            walk_at "lift"
            have hKn := hKn.mono k
            have k17 := k; clear k
            walk_at "gx"
            refine nLstP F ?_
            clear F; intro s18 B18 l18 k hl18 F; walk_at "lift"
            have hKn := hKn.mono k
            have k18 := k; clear k
            walk_at "gx"
            refine bNeNil hu20 F.top (hl18.keeps F.kp) ?_
            walk_at "gx"
            have hstep : lks.take (i + 1) = lks.take i ++ [[(c : Int), a, b]] := by rw [List.take_add_one, hks]; rfl
            have hGk : G [(c : Int), a, b] = true := by rw [← hG, List.contains_iff_mem]; exact List.mem_of_getElem? hks
            have hsk : sidesK d G [(c : Int), a, b] = (SID.filter (okS d G c a b)).map fun r => [(c : Int), a + r.1, b + r.2] := rfl
            have hylen := hys.length
            rw [List.length_map] at hylen
            have hy4 : (SID.filter (okS d G c a b)).length ≤ 4 := List.length_filter_le _ _
            have kq := k14.trans (kt.trans (k17.trans k18))
            cases hye : ys17.isEmpty with
            | true =>
              rw [show (!true) = false from rfl]; refine ifN Bool.false_ne_true ?_
              have hs0 : SID.filter (okS d G c a b) = [] := by
                have : ys17 = [] := List.isEmpty_iff.mp hye
                rw [this] at hylen; exact List.length_eq_zero_iff.mp hylen.symm
              have hact : act d G [(c : Int), a, b] = false := by
                unfold act; rw [hsk, hs0]; simp
              walk_at "gx"
              refine TurnQ.mk (.inl rfl) kq F.drop ⟨lt, rfl, hlK.mono (kt.trans (k17.trans k18)), fun k => ?_, fun k' v' hv' => let ⟨l, vs, a, b, c⟩ := hlV k' v' hv'; ⟨l, vs, a, b.keeps (kt.trans (k17.trans k18)), c⟩, by lia, n2⟩
              rw [hlS, hstep, List.contains_eq_mem, List.contains_eq_mem]
              by_cases hkk : k = [(c : Int), a, b]
              · rw [hkk, hact]; simp
              · simp [hkk]
            | false =>
              rw [show (!false) = true from rfl]; refine ifP rfl ?_
              have hs0 : 0 < (SID.filter (okS d G c a b)).length := by
                rw [← hylen]
                cases ys17 with
                | nil => cases hye
                | cons _ _ => exact Nat.succ_pos _
              have hact : act d G [(c : Int), a, b] = true := by
                unfold act; rw [hsk, hGk]
                cases q : SID.filter (okS d G c a b) with
                | nil => rw [q] at hs0; exact absurd hs0 (by decide)
                | cons _ _ => rfl
              walk_at "gx"
              refine bSumL F R.hh F.top hys ?_
              clear F; intro s19 t19 F
              walk_at "gx"
              refine bLenL F F.top (by lia) ?_
              clear F; intro s20 t20 F
              walk_at "gx"
              refine lawRoundedS gd F.kp (R.less (by decide)) (by lia) (by lia) ?_
              intro s21 u21 R21; replace F := F.did R21
              walk_at "gx"
              refine nLstP F ?_
              clear F; intro s22 B22 l22 k hl22 F; walk_at "lift"
              have k22 := k; clear k
              walk_at "gx"
              walk_at "tup"
              have ht23 := ht; have k23 := k; clear ht k
              walk_at "gx"
              have htk23 := tupAt_in3 (prog := PR) (w := w) ht23
              have hl9 := hlt.length
              refine sDic F.f3 hu20 ((hlK.mono (kt.trans (k17.trans k18))).mono (k22.trans k23)) htk23 (by lia) ?_
              clear F; intro s24 F
              replace F := F.b3; walk_at "su"
              walk_at "gx"
              have kw := (kt.trans (k17.trans k18)).trans (k22.trans k23)
              refine TurnQ.mk (.inl rfl) (k14.trans kw) F.drop ⟨_, rfl, (hlK.mono kw).stored htk23, fun k => ?_, fun k' v' hv' => ?_, Nat.le_trans (len_stored _ _ _ _) (Nat.succ_le_succ hll), n2⟩
              · rw [val_stored, hstep, List.contains_eq_mem]
                by_cases hkk : k = [(c : Int), a, b]
                · subst hkk; rw [if_pos rfl, hact]; simp
                · rw [if_neg (Ne.symm hkk), hlS, List.contains_eq_mem]; simp [hkk]
              · rw [val_stored] at hv'
                split at hv'
                · next hkk =>
                  subst hkk
                  cases hv'
                  refine ⟨_, _, rfl, hl22.keeps k23, ?_⟩
                  have e2 : newV d V G [(c : Int), a, b] = [rmF (((SID.filter (okS d G c a b)).map fun r => (V [(c : Int), a + r.1, b + r.2]).headD 0).sum) ys17.length, 0, 0, 0] := by
                    unfold newV
                    rw [hsk, List.map_map, List.length_map, hylen]; rfl
                  rw [e2]
                  exact .cons _ _ (.cons _ _ (.cons _ _ (.cons _ _ .nil)))
                · obtain ⟨l, vs, a, b, c⟩ := hlV k' v' hv'
                  exact ⟨l, vs, a, b.keeps kw, c⟩
        · rintro B14 m14 U14 s14 k hX9; refine ea1_6 hX9 ?_; clear hX9; rintro lt rfl hlK hlS hlV hll n2 F
          walk_at "su"
          rw [List.take_of_length_le (by rw [hlt.length]; exact Nat.le_refl _)] at hlS
          walk_at "lift"
          have hKn := hKn.mono k
          have k14 := k; clear k
          walk_at "gx"
          refine nDic F ?_
          clear F; intro s15 XD hXD F; walk_at "su"
          walk_at "gx"
          refine bEqDic hu20 (F.nth (a := TD) 1 rfl) F.top hTs (hsys XD hXD) ?_
          walk_at "gx"
          have hlS' : ∀ k, (valK lt k).isSome = act d G k := fun k => by
            rw [hlS, hG]
            unfold act
            cases G k <;> simp
          have hl9 := hlt.length
          cases hemp : lt.isEmpty with
          | true =>
            refine ifP rfl ?_
            walk_at "gx"
            have hl0 : lt = [] := List.isEmpty_iff.mp hemp
            refine wpAny_Break ?_
            refine ⟨rfl, _, _, kn, V, G, _, (k9.trans k10).trans k14, F.drop.drop, hKn, hCo V (.stop fun k => ?_), hV0⟩
            rw [← hlS', hl0]; rfl
          | false =>
            refine ifN Bool.false_ne_true ?_
            walk_at "gx"
            obtain ⟨oK, hoK, hpK⟩ := F.nth (a := KD) (P := DicP PR w kn) 2 rfl
            obtain ⟨oT, hoT, hpT⟩ := F.nth (a := TD) (P := DicP PR w lt) 1 rfl
            refine mDic hoK hpK.1 PySem.F.slot_dict_update PySem.F.type_dict_update ?_
            refine PyProof.Rows.callWith_method1 ?_
            walk_at "gx"
            obtain ⟨x0, hx0⟩ : ∃ x, x ∈ lt := by
              cases lt with
              | nil => cases hemp
              | cons x _ => exact ⟨x, .head _⟩
            have hact0 : act d G x0.1 = true := by rw [← hlS', valK_isSome]; exact List.mem_map_of_mem hx0
            have hG0 : G x0.1 = true := by unfold act at hact0; exact (Bool.and_eq_true_iff.mp hact0).1
            have hin0 : x0.1 ∈ lks := by rw [← List.contains_iff_mem, hG]; exact hG0
            have hne : kn ≠ [] := by
              refine ea3_3 ((hK _).mp (hlk _ hin0)) ?_; rintro c a b hc e0 _
              rw [e0] at hact0
              have hsk : sidesK d G [(c : Int), a, b] = (SID.filter (okS d G c a b)).map fun r => [(c : Int), a + r.1, b + r.2] := rfl
              unfold act at hact0
              rw [hsk] at hact0
              cases hq : SID.filter (okS d G c a b) with
              | nil => rw [hq] at hact0; simp at hact0
              | cons r rest =>
                have hr : r ∈ SID.filter (okS d G c a b) := by rw [hq]; exact .head _
                have h1 := hKn.okS hK hc a b r
                rw [(List.mem_filter.mp hr).2] at h1
                rintro rfl
                cases h1
            have hkl := hKn.len hpK.nodup
            have hKT : KD ≠ TD := F.neN (i := 2) (j := 1) rfl rfl (by decide)
            refine bUpdate F.f3 hKT ⟨oT, hoT, hpT⟩ hTs hne hu20 hKn.keys hlK (by lia) ?_
            clear F; intro s16 F
            replace F := F.swap.drop
            walk_at "gx"
            refine listComp1Use (cl := [(Str.ofString "later", L + 4)]) F R.hh ?_ F.lg rfl (by decide) rfl (by decide) (fun _ => rfl) rfl rfl rfl
            walk_at "gx"
            have hLl := hLl.keeps k14
            have hlt := hlt.mono k14
            refine iLst F (hLl.keeps F.kp) ?_
            clear F; intro s17 it17 hit17 F
            refine CompTodo.mk it17 (nxList (lst_is hLl)) (.refl _) ?_ F (fun i B' ys U' => U' = [(KD, DicP PR w (merH kn lt)), (TD, DicP PR w lt), (L + 4, CelP (some (.ref TD))), (L + 3, CelP (some (.ref KD))), (L + 2, CelP (some (.ref gl))), (L + 1, CelP (some (.ref D)))] ∧ TupsAre B' ys ((lks.take i).filter fun k => !(valK lt k).isSome)) ⟨rfl, .nil⟩ ?_
            · intro i p hp
              rcases List.mem_singleton.mp hp with rfl; exact hit17
            intro Iv
            refine ⟨fun _ _ _ _ _ h k => ⟨h.1, h.2.mono k⟩, ?_, ?_⟩
            · rintro C D' i v B18 m18 ys18 U18 s18 E18 hC hi k ⟨rfl, hys⟩ hv F
              walk_at "su"
              refine hlt.getE hv ?_; rintro ks t tvs hks rfl hti hin
              refine ea3_3 ((hK _).mp (hlk _ (List.mem_of_getElem? hks))) ?_; rintro c a b hc rfl hinn
              refine ea3_1 (ints3 hin) ?_; rintro u1 u2 u3 rfl
              have hstep : (lks.take (i + 1)).filter (fun k => !(valK lt k).isSome) = (lks.take i).filter (fun k => !(valK lt k).isSome) ++ (if (valK lt [(c : Int), a, b]).isSome then [] else [[(c : Int), a, b]]) := by
                rw [List.take_add_one, hks, List.filter_append]
                congr 1
                simp only [Option.toList, List.filter_cons, List.filter_nil]
                cases (valK lt [(c : Int), a, b]).isSome <;> rfl
              walk_at "lift"
              replace hti := hti.keeps k
              have k18 := k; clear k
              walk_at "gx"
              refine ninDic F (F.nth (a := TD) 4 rfl) hTs hu20 (hlK.mono k18) (tupAt_in3 hti) ?_
              clear F; intro s19 F
              walk_at "gx"
              have hyl := hys.length
              have hyl2 : ((lks.take i).filter fun k => !(valK lt k).isSome).length ≤ 10000 := Nat.le_trans (List.length_filter_le _ _) (by rw [List.length_take]; lia)
              cases hsm : (valK lt [(c : Int), a, b]).isSome with
              | true =>
                rw [hsm, if_pos rfl, List.append_nil] at hstep
                rw [show (!true) = false from rfl]; refine ifN Bool.false_ne_true ?_
                exact ⟨_, _, _, k18, F, rfl, by rw [hstep]; exact hys⟩
              | false =>
                rw [hsm, if_neg Bool.false_ne_true] at hstep
                rw [show (!false) = true from rfl]; refine ifP rfl ?_
                walk_at "gx"
                refine CElt.mk (by lia) k18 F ⟨rfl, ?_⟩
                rw [hstep]
                exact hys.app (.cons ⟨_, _, rfl, hti, .cons _ _ (.cons _ _ (.cons _ _ .nil))⟩ .nil)
            · rintro B18 ys18 U18 k ⟨rfl, hys⟩ D18 s18 hD18 F
              walk_at "su"
              rw [List.take_of_length_le (by rw [hlt.length]; exact Nat.le_refl _)] at hys
              walk_at "lift"
              have k18 := k; clear k
              refine Fs.frz F hD18 ?_; clear F; intro B19 k hL19 F
              walk_at "lift"
              have k19 := k; clear k
              walk_at "gx"
              have F := F.swap.drop
              refine ⟨_, ?_, B19, _, D18, ys18, _, _, stepV d V G, stepG d G, _, rfl, F, (k9.trans k10).trans ((k14.trans k18).trans k19), hL19, hys.mono k19, fun k => ?_, fun k hk => hlk k (List.mem_filter.mp hk).1, Nat.le_trans (List.length_filter_le _ _) hlz,
                (hKn.step hlK hpT.nodup hlS' hlV fun k hk => hlk k (by rw [← List.contains_iff_mem, hG]; exact hk)).mono (k18.trans k19), fun V' hV' => hCo V' (.step ⟨_, hact0⟩ hV'), fun k hk => ?_, rfl⟩
              · rw [List.length_filter_lt_length_iff_exists]
                exact ⟨x0.1, hin0, by rw [hlS', hact0]; simp⟩
              · unfold stepG
                rw [← hlS', ← hG k, Bool.eq_iff_iff]
                simp
              · unfold stepG at hk
                unfold stepV
                have hk2 := Bool.and_eq_true_iff.mp hk
                have ha : act d G k = false := by simpa using hk2.2
                rw [ha, if_neg Bool.false_ne_true]
                exact hV0 k hk2.1
    · rintro f s20 hX9; refine anE2 hX9 ?_; clear hX9; rintro rfl hX9; refine ea6_5 hX9 ?_; clear hX9; rintro B20 m20 kn V G vl k F hKn hCo hV0
      walk_at "lift"
      have hKs := hsys KD hKD
      have k20 := k; clear k
      show wpAny _ _ (execs _ _) _ _ _
      walk_at "gx"
      refine listComp1 (cl := [(Str.ofString "rows", L + 1), (Str.ofString "known", L + 3)]) F R.hh ?_ F.lg rfl (by decide) rfl (by decide) (fun _ => rfl)
      walk_at "gx"
      refine iDic F hDs (hdE.keeps (F.rn.bb.trans F.kp)) ?_
      clear F; intro s21 it21 hit21 F
      refine CompTodo.mk (n := es.size) it21 (nxDict (hdE.keeps F.rn.bb)) (.refl _) ?_ F (fun i B' ys U' => U' = [(KD, DicP PR w kn), (L + 4, CelP vl), (L + 3, CelP (some (.ref KD))), (L + 2, CelP (some (.ref gl))), (L + 1, CelP (some (.ref D)))] ∧ PairsAt PR w B' ys ((xs.take i).map fun x : List Int × Addr × Value => (x.1, x.2.1, (valK kn x.1).getD x.2.2))) ⟨rfl, .nil⟩ ?_
      · intro i p hp
        rcases List.mem_singleton.mp hp with rfl; exact hit21
      intro Iv
      refine ⟨fun _ _ _ _ _ h k => ⟨h.1, h.2.mono k⟩, ?_, ?_⟩
      · rintro C D' i v B3 m3 ys3 U3 s3 E3 hC hi k ⟨rfl, hys⟩ ⟨en, hen, rfl⟩ F
        walk_at "su"
        have hi' : i < xs.length := by lia
        have hen2 : en = entryOfKey (tk PR w) xs[i] := by
          have h1 : es.toList[i]? = some en := by rw [Array.getElem?_toList]; exact hen
          rw [hes, List.getElem?_map, List.getElem?_eq_getElem hi'] at h1
          exact (Option.some.inj h1).symm
        subst hen2
        have htk := K _ (List.getElem_mem hi')
        have hva : valK xs xs[i].1 = some xs[i].2.2 := valK_mem hndD (List.getElem?_eq_getElem hi')
        have hstep : (xs.take (i + 1)).map (fun x : List Int × Addr × Value => (x.1, x.2.1, (valK kn x.1).getD x.2.2)) = (xs.take i).map (fun x : List Int × Addr × Value => (x.1, x.2.1, (valK kn x.1).getD x.2.2)) ++ [(xs[i].1, xs[i].2.1, (valK kn xs[i].1).getD xs[i].2.2)] := by
          rw [List.take_add_one, List.getElem?_eq_getElem hi', List.map_append]; rfl
        walk_at "lift"
        have k3 := k; clear k
        show wpAny _ _ (assign _ _ (Value.ref xs[i].2.1)) _ _ _
        generalize hxi : xs[i] = x at *
        walk_at "gx"
        obtain ⟨oK, hoK, hpK⟩ := F.nth (a := KD) (P := DicP PR w kn) 3 rfl
        refine mDic hoK hpK.1 PySem.F.slot_dict_get PySem.F.type_dict_get ?_
        refine PyProof.Rows.callWith_method1 ?_
        walk_at "gx"
        refine gDic F (hD.keeps (F.rn.bb.trans F.kp)) hu20 (K.mono F.rn.bb) (htk.mono F.rn.bb) hva ?_
        clear F; intro s4 F
        walk_at "gx"
        refine bGet F (F.nth (a := KD) 3 rfl) hKs hu20 (hKn.keys.mono k3) (htk.mono F.rn.bb) ?_
        clear F; intro s5 F
        walk_at "go"
        have hyl := hys.1
        rw [List.length_map, List.length_take] at hyl
        refine CElt.mk (by lia) (k3.trans k) F ⟨rfl, ?_⟩
        rw [hstep]
        exact (hys.mono k).snoc ht (htk.mono F.rn.bb)
      · rintro B3 ys3 U3 k ⟨rfl, hys⟩ D3 s3 hD3 F
        walk_at "su"
        rw [show es.size = xs.length from hesl, List.take_of_length_le (Nat.le_refl _)] at hys
        have hyl := hys.1
        rw [List.length_map] at hyl
        walk_at "lift"
        have k3 := k; clear k
        refine Fs.frz F hD3 ?_; clear F; intro B4 k hL3 F
        walk_at "lift"
        have k4 := k; clear k
        walk_at "gx"
        refine bDictOf F R.hh hu40 hL3 (hys.mono k4) (by lia) ?_
        clear F; intro s5 ZD hZD F hkk
        refine Fs.frz F hZD ?_; clear F; intro B5 k hZl F
        walk_at "lift"
        have k5 := k; clear k
        walk_at "gx"
        have hnz : ((xs.map fun x : List Int × Addr × Value => (x.1, x.2.1, (valK kn x.1).getD x.2.2)).map (·.1)).Nodup := by
          rw [List.map_map]; exact hndD
        refine h _ _ _ _ V F.rn.bb F.rs hZD hZl (hkk.mono k5) hCo fun k hk => ?_
        obtain ⟨i, hi⟩ := List.getElem?_of_mem hk
        rw [List.getElem?_map] at hi
        obtain ⟨x, hx, rfl⟩ := Option.map_eq_some_iff.mp hi
        have hz1 : valK (merH [] (xs.map fun x : List Int × Addr × Value => (x.1, x.2.1, (valK kn x.1).getD x.2.2))) x.1 = some ((valK kn x.1).getD x.2.2) := by
          rw [val_merH _ _ _ hnz]
          have : valK (xs.map fun x : List Int × Addr × Value => (x.1, x.2.1, (valK kn x.1).getD x.2.2)) x.1 = some ((valK kn x.1).getD x.2.2) :=
            valK_mem (x := (x.1, x.2.1, (valK kn x.1).getD x.2.2)) hnz (i := i) (by rw [List.getElem?_map, hx]; rfl)
          rw [this]; rfl
        rw [hz1]
        cases hq : valK kn x.1 with
        | some v =>
          refine ea2_4 (hKn.val _ _ hq) ?_; rintro l vs rfl q1 q2 _
          exact ⟨l, vs, rfl, q1.keeps ((k3.trans k4).trans k5), q2⟩
        | none =>
          have h1 := hKn.dom x.1
          rw [hq, decide_eq_true hk] at h1
          have hg : G x.1 = true := by simpa using h1
          refine ea2_4 (hrow x.1 _ (valK_mem hndD hx)) ?_; rintro l vs e1 q1 q2 _
          refine ⟨l, vs, congrArg some e1, q1.keeps F.rn.bb, ?_⟩
          rw [hV0 _ hg]; exact q2
end
section
set_option maxHeartbeats 8000000 in
theorem lawE {w : World} {A : Around} {E : Value → Shared → Prop} {s : Shared} {B : Heap} {L fx sl t mc cl gx RD GD sx ll : Addr} {lvs gvs : List Value} {gks : List (List Int)} {lots : List (Nat × Nat)} {m : Str → Option Value} {Q : Flow → Shared → Prop} {s₀ : Shared} {B₀ : Heap} {d : FrD} {wide high : Int} {al : Option Nat} {bp : Bool} {xs : Ents}
    {ra : List (List Addr)} {ct : Addr → List Value} {V : List Int → List Int}
    (gd : Gd w B) (R : Rm A 15) (S : LawC B d wide high al fx sl mc cl) (N : LawN wide high al fx sl t mc cl bp m) (hr0 : m (Str.ofString "rows") = some (.ref RD)) (hr1 : m (Str.ofString "scan") = some (.ref sx)) (hr2 : m (Str.ofString "lost") = some (.ref ll))
    (sc : ScB B sx (psI (psOf d al))) (hll : Is B ll (LstP lvs)) (hlt : TupsAre B lvs (lotTs lots)) (hlb : ∀ l ∈ lots, l.1 + l.2 ≤ (lUnits d wide high al).length) (hl3 : lots.length ≤ 3)
    (gr : GrB B gx ra) (hnd : ra.flatten.Nodup) (hRI : RowI w B d ra ct xs V (DomK d)) (hxl : xs.length ≤ 1000) (hRD : s₀.heap.get? RD = none) (hGD : s₀.heap.get? GD = none)
    (hgt : TupsAre B gvs gks) (hgk : ∀ k, k ∈ gks ↔ k ∈ lotsU (lUnits d wide high al) lots) (hgz : gks.length ≤ 900) (hsys : ∀ D : Addr, s₀.heap.get? D = none → (D == sysModules) = false)
    (F : Fs ⟨[], B₀, s₀⟩ s₀.gens B L m ([(GD, LstP gvs), (RD, DicP PR w xs), (t, TrP), (L + 3, CelP none), (L + 2, CelP (some (.ref GD))), (L + 1, CelP (some (.ref gx)))] ++ rU ra ct) s)
    (h : ∀ s' B' G', Kp B₀ B' → FinG s₀.gens G' → Rs [] G' B₀ s₀ B' s' → Q (.ret (.bool true)) s') :
    At PR w A E 304 12 L Q s := by
  refine' At.of ?ho ?h
  case ho => k_is
  case h =>
  intro env
  show wpAny _ _ (execs (List.drop (0 + 1 + 1 + 1 + 1 + 1 + 1 + 1 + 1 + 1 + 1 + 1 + 1) _) _) _ _ _
  rw [List.drop_succ_cons, List.drop_succ_cons, List.drop_succ_cons, List.drop_succ_cons, List.drop_succ_cons, List.drop_succ_cons, List.drop_succ_cons, List.drop_succ_cons, List.drop_succ_cons, List.drop_succ_cons, List.drop_succ_cons, List.drop_succ_cons, List.drop_zero]
  have hu20 := R.u
  have hD := S.D
  have fr := S.fr
  have hul := hD.units_len
  refine LawN.elim N ?_; rintro n1 n2 u3 n3 u4 n4 n5 u6 n6 n7 n8 n9
  have hgone : ∀ k ∈ lotKs d (psOf d al) lots, DomK d k ∧ ∃ (c : Nat) (x y : Int), c < d.sm.length ∧ k = [(c : Int), x, y] := fun k hk => by
    have h1 := lots_dom hD ((lots_iff hD hlb k).mp hk)
    refine ea3_3 h1 ?_; rintro c x y h2 h3 _
    exact ⟨h1, c, x, y, h2, h3⟩
  have hub := unA_bd hD
  walk_at "go"
  refine concealS (Dom := DomK d) gd F.kp (R.less (by decide)) fr hD.ok sc (psOk hD) hub.1 hub.2 hll hlt (fun l hl => by have := hlb l hl; lia) (lots_len hD hlb hl3) gr hnd
    (fun a ha => have q := F.own (a, LsqP (ct a)) (List.mem_append_right _ (rU_mem ha)); ⟨q.1, q.2.1⟩) (fun D hD => hsys D (F.fresh hD)) (fun c x y hc hi => ⟨c, x, y, hc, rfl, hi⟩) hgone (fun k hk => ⟨hRI.cell k hk, by rw [hRI.len]; decide⟩) ?_
  intro s1 B1 G1 V1 ct1 k R1 hG1 hConc hct1 hcell1
  have hG0 : FinG s₀.gens G1 := by rw [← F.gens]; exact hG1
  have F1 := (F.perm List.perm_append_comm).calls (V' := rU ra ct1) (by rw [rU_keys, rU_keys]) (by rw [rU_keys]; exact R1) (fun p hp => by
    obtain ⟨a, ha, rfl⟩ := List.mem_map.mp hp
    exact hct1 a ha)
  have F2 := F1.perm List.perm_append_comm
  clear F F1; have F := F2; clear F2
  walk_at "lift"
  replace gr := gr.mono k; replace hRI := hRI.mono k; replace hgt := hgt.mono k
  have k1 := k; clear k
  refine Fs.frz F hGD ?_; clear F; intro B2 k hGl F
  walk_at "lift"
  replace gr := gr.mono k; replace hRI := hRI.mono k; replace hgt := hgt.mono k
  have k2 := k; clear k
  refine Fs.frz F hRD ?_; clear F; intro B3 k hRl F
  walk_at "lift"
  replace gr := gr.mono k; replace hRI := hRI.mono k; replace hgt := hgt.mono k; replace hGl := hGl.keeps k
  have k3 := k; clear k
  have F2 : Fs ⟨[], B₀, s₀⟩ G1 B3 L m ([(t, TrP), (L + 3, CelP none), (L + 2, CelP (some (.ref GD))), (L + 1, CelP (some (.ref gx)))] ++ rU ra ct1) s1 := F
  clear F; have F := F2; clear F2
  walk_at "go"
  have hRs := hsys RD hRD
  refine lawConcealedS (d := d) (V0 := V) gd F.kp (R.less (by decide)) hRl hRs hRI.K hxl (fun k v hv => ?_) hGl hgt (fun k hk => (hRI.dom k).mpr (lots_dom hD ((hgk k).mp hk))) (by lia) hRI.dom (fun D hD => hsys D (F.fresh hD)) ?_
  · obtain ⟨l, vs, a, b, c⟩ := hRI.val k v hv
    exact ⟨l, vs, a, b, c, by rw [hRI.len]; decide⟩
  intro s4 B4 ZD zs V2 k R4 hZD hZl hZK hConc2 hZv
  have hfe : (fun k => gks.contains k) = fun k => (lotKs d (psOf d al) lots).contains k := by
    funext k
    rw [Bool.eq_iff_iff, List.contains_iff_mem, List.contains_iff_mem, hgk, lots_iff hD hlb]
  rw [hfe] at hConc2
  obtain rfl : V1 = V2 := hConc.det hConc2
  replace F := F.did R4
  walk_at "lift"
  replace gr := gr.mono k; replace hRI := hRI.mono k; replace hRl := hRl.keeps k
  have k4 := k; clear k
  walk_at "go"
  refine sCellM (x := Str.ofString "due") [_] F ?_
  clear F; intro s5 F; walk_at "su"
  walk_at "go"
  obtain ⟨oD, hoD, hexD, hndD, es, ep, hdatD, hes⟩ := id hRl
  have hesl : es.size = xs.length := by rw [← Array.length_toList, hes, List.length_map]
  have hdE : Is B4 RD (DicE es ep) := ⟨oD, hoD, hexD, hdatD⟩
  refine GrB.elim gr ?_; rintro gpl gtk gpas J _ _ _
  refine listComp1 (cl := [(Str.ofString "grid", L + 1), (Str.ofString "due", L + 3)]) F R.hh ?_ F.lg rfl (by decide) rfl (by decide) (fun _ => rfl)
  walk_at "go"
  refine iDic F hRs (hdE.keeps F.kp) ?_
  clear F; intro s6 it6 hit6 F
  refine CompTodo.mk (n := es.size) it6 (nxDict hdE) (.refl _) ?_ F (fun i B' ys U' => U' = [(t, TrP), (L + 3, CelP (some (.ref ZD))), (L + 2, CelP (some (.ref GD))), (L + 1, CelP (some (.ref gx)))] ++ rU ra ct1 ∧ ys = []) ⟨rfl, rfl⟩ ?_
  · intro i p hp
    rcases List.mem_singleton.mp hp with rfl; exact hit6
  intro Iv
  refine ⟨fun _ _ _ _ _ h _ => h, ?_, ?_⟩
  · rintro C D' i v B7 m7 ys7 U7 s7 E7 hC hi k ⟨rfl, rfl⟩ ⟨en, hen, rfl⟩ F
    walk_at "su"
    have hi' : i < xs.length := by lia
    have hen2 : en = entryOfKey (tk PR w) xs[i] := by
      have h1 : es.toList[i]? = some en := by rw [Array.getElem?_toList]; exact hen
      rw [hes, List.getElem?_map, List.getElem?_eq_getElem hi'] at h1
      exact (Option.some.inj h1).symm
    subst hen2
    have hkx : xs[i].1 ∈ xs.map (·.1) := List.mem_map_of_mem (List.getElem_mem hi')
    have htk := hRI.K _ (List.getElem_mem hi')
    have hcl := hcell1 _ ((hRI.dom _).mp hkx)
    refine ea2_3 (hZv _ hkx) ?_; rintro l8 vs8 hv8 hl8 hi8
    refine ea7_7 hcl ?_; clear hcl; rintro p c r row a vc oc hke g1 g2 g3 g4 g5 g6
    have htk2 := htk
    rw [hke] at htk hv8 hi8 g6
    refine ea3_1 (tupAt_out3 htk) ?_; rintro w1 w2 w3 hti
    walk_at "lift"
    replace gr := gr.mono k; replace hti := hti.keeps k
    have k7 := k; clear k
    show wpAny _ _ (assign _ _ (Value.ref xs[i].2.1)) _ _ _
    generalize hxi : xs[i] = x at *
    walk_at "go"
    refine gTup (hti.keeps F.kp) (by lia) (by lia) (k := 0) rfl ?_
    walk_at "go"
    refine gTup (hti.keeps F.kp) (by lia) (by lia) (k := 1) rfl ?_
    walk_at "go"
    refine gTup (hti.keeps F.kp) (by lia) (by lia) (k := 2) rfl ?_
    walk_at "go"
    have hrow : row[r]? = some a := g2
    refine getS gd F.kp (R.less (by decide)) gr g1 g2 (F.at (List.mem_append_right [_, _, _, _, _, _, _] (rU_mem (mem_flat g1 g2)))) g3 (g4.mono ((k2.trans k3).trans (k4.trans k7))) g5 ?_
    intro s9 B9 l9 vs9 k R9 hl9 hi9
    replace F := F.did R9
    walk_at "lift"
    replace gr := gr.mono k
    have k9 := k; clear k
    walk_at "go"
    refine gDic F (hZl.keeps (k7.trans (k9.trans F.kp))) hu20 (hZK.mono (k7.trans k9)) (htk2.mono (k7.trans k9)) (by rw [hke]; exact hv8) ?_
    clear F; intro s10 F
    walk_at "go"
    refine bNeInts hu20 (hl9.keeps F.kp) ((hl8.keeps (k7.trans k9)).keeps F.kp) hi9 hi8 ?_
    rw [g6, decide_eq_true rfl]
    walk_at "go"
    rw [show (!true) = false from rfl]; refine ifN Bool.false_ne_true ?_
    exact ⟨_, _, _, k7.trans k9, F, rfl, rfl⟩
  · rintro B7 ys7 U7 k ⟨rfl, rfl⟩ D7 s7 hD7 F
    walk_at "su"
    walk_at "lift"
    have k7 := k; clear k
    walk_at "go"
    refine nLstP F ?_
    clear F; intro s8 B8 l8 k hl8 F; walk_at "lift"
    have k8 := k; clear k
    walk_at "go"
    refine bEqNil hu20 F.top (hl8.keeps F.kp) ?_
    walk_at "go"
    exact h _ _ _ F.rn.bb hG0 F.rs
end
section
set_option maxHeartbeats 8000000 in
theorem lawAll {w : World} {A : Around} {E : Value → Shared → Prop} {s : Shared} {B : Heap} {l L : Addr} {svs : List Value} {sns : List Int} {m : Str → Option Value} {Q : Flow → Shared → Prop} {s₀ : Shared} {B₀ : Heap}
    (gd : Gd w B) (R : Rm A 15) (hsl : Is B l (LsqP svs)) (hi : IntsAre svs sns) (F : Fs ⟨[], B₀, s₀⟩ s₀.gens B L m [(L + 3, CelP none), (L + 2, CelP none), (L + 1, CelP none)] s) (hm : m (Str.ofString "script") = some (.ref l))
    (hsys : ∀ D : Addr, s₀.heap.get? D = none → (D == sysModules) = false)
    (h : ∀ s' B' G', Kp B₀ B' → FinG s₀.gens G' → Rs [] G' B₀ s₀ B' s' → Q (.ret (.bool true)) s') : At PR w A E 304 0 L Q s := by
  refine lawA1 gd R hsl hi F hm fun s1 B1 m1 t fx sl d wide high al k1 S1 F1 => ?_
  have gd1 := gd.mono k1
  refine lawA2 gd1 R S1 F1 fun s2 B2 m2 mc cl bp k2 S2 M2 F2 => ?_
  have gd2 := gd1.mono k2
  have S2c : LawC B2 d wide high al fx sl mc cl := ⟨S2.D, S2.fr, S2.hsl, M2.hmc, M2.hcl⟩
  have N2 : LawN wide high al fx sl t mc cl bp m2 := ⟨S2.ntray, S2.nframe, S2.nwide, S2.nhigh, S2.nsamp, S2.nalone, M2.nmcus, M2.npad, M2.ncoded⟩
  refine lawB gd2 R S2c N2 F2 fun s3 B3 m3 gx RD ra ct xs V k3 S3 N3 hr3 hRD gr hnd hRI hxl F3 => ?_
  have gd3 := gd2.mono k3
  refine lawC gd3 R S3 N3 hr3 F3 fun s4 B4 m4 sx ll lvs lots k4 sc hll hlt hlb hl3 N4 o1 o2 o3 F4 => ?_
  have gd4 := gd3.mono k4
  refine lawDs gd4 R (S3.mono k4) N4 o1 o2 o3 hll hlt hlb hl3 F4 fun s5 B5 m5 GD gvs gks k5 hGD hgt hgk hgz N5 p1 p2 p3 F5 => ?_
  have gd5 := gd4.mono k5
  exact lawE gd5 R ((S3.mono k4).mono k5) N5 p1 p2 p3 (sc.mono k5) (hll.keeps k5) (hlt.mono k5) hlb hl3 ((gr.mono k4).mono k5) hnd ((hRI.mono k4).mono k5) hxl hRD hGD hgt hgk hgz hsys F5 h

set_option maxHeartbeats 8000000 in
theorem lawS {w : World} {A : Around} {E : Value → Shared → Prop} {s : Shared} {B : Heap} {l : Addr} {svs : List Value} {sns : List Int} {Q : Value → Shared → Prop}
    (gd : Gd w B) (kB : Kp B s.heap) (rm : Rm A 16) (hsl : Is B l (LsqP svs)) (hi : IntsAre svs sns) (hsys : ∀ D : Addr, s.heap.get? D = none → (D == sysModules) = false)
    (h : ∀ s' B' G', Kp B B' → FinG s.gens G' → Rs [] G' B s B' s' → Q (.bool true) s') :
    wpAny (model PR w) A (call (.ref 304) [.ref l]) Q E s := by
  refine wpAny_call ?_
  refine' enterC0 (n := 15) (binds := [(Str.ofString "script", .ref l)]) [] [] gd kB rm ?ho ?hcd ?hb ?hV ?hd ?hk ?hnd ?h ?c1 ?c2 ?c3
  case ho => k_is
  case hcd => k_is
  case hb => rfl
  case c1 => rfl
  case c2 => rfl
  case c3 => rfl
  case hV => exact fun p hp => nomatch hp
  case hd => simp
  case hnd => decide
  case hk =>
    intro n y hy
    simp only [List.mem_cons, List.not_mem_nil, or_false] at hy
    rcases hy with rfl
    all_goals first | exact .inl rfl | exact .inr ⟨rfl, rfl⟩
  case h =>
  intro L s1 E' A' m0 F R env Qr
  refine' At.use (n := 0) (lawAll gd R hsl hi F rfl hsys h) ?ho1 ?hr1
  case ho1 => k_is
  case hr1 => rfl
end
section
/-! the join: the head's walk is the walk of law -/
theorem finG_bare {G0 G : Array GenState} (x : FinG G0 G) (h : AllBare G0) : AllBare G := by
  induction x with
  | z => exact h
  | s _ ih => exact ih.push rfl
set_option maxHeartbeats 8000000 in
theorem lawEnd {w : World} {s₁ : Shared} {mg mb : Str → Option Value} {q : Program} {lo : List Str} {mean : ExcName → Option Value} {cl : Str → Option Addr} {fa a : Addr} {vs : List Value} {ns : List Int}
    (T : Top q lo mean mg mb s₁.heap) (X : (hT.heap_1 w.params).In s₁.heap) (seer : s₁.heap.NoSeer) (hmg : mg (Str.ofString "law") = some (.ref fa)) (hg : s₁.gens = #[])
    (hl : s₁.heap.IsList a vs.toArray) (hi : IntsAre vs ns) :
    wpAny (model PR w) callerA (call (.ref fa) [.ref a])
      (fun v s' => GoodWG PySem.Challenge.rw_pf0236_01.row.claim cl mean [ofPy (.list (ns.map .int))] s₁ (.ok (.ret v)) s')
      (fun e s' => GoodWG PySem.Challenge.rw_pf0236_01.row.claim cl mean [ofPy (.list (ns.map .int))] s₁ (.error e) s') s₁ := by
  have gd : Gd w s₁.heap := ⟨X, ⟨mg, T.g⟩, ⟨mb, T.b, T.builtins⟩, T.nolimit⟩
  have e : mg (Str.ofString "law") = some (.ref 304) := mg_of X T.g (by k_is)
  rw [hmg] at e
  cases e
  refine lawS gd (.refl _) ⟨rfl, by decide, by decide⟩ (lsq_iff.mpr hl) hi (fun D hD => beq_eq_false_iff_ne.mpr fun q => ?_) fun s' B' G' k1 hG R1 => ?_
  · obtain ⟨mm, ⟨o, _, _, ho, _⟩, _⟩ := seer.mods
    rw [← q, hD] at ho; cases ho
  · refine ⟨.inl ⟨_, .bool true, [], rfl, fun _ => rfl, .bool _, by first | with_unfolding_all rfl | exact postW_of (by wrow_shape) (by wtm_val) (by w_fin), fun _ => ⟨.nil, nofun⟩⟩, .of_keep fun b o z => R1.rn.hk b o (nomatch ·) z, R1.os, ?_⟩
    rw [R1.gens]
    exact finG_bare hG (.of_eq hg)
end
end Mine
set_option maxHeartbeats 8000000 in
theorem PySem.Challenge.cw_pf0236_01_holds : PySem.Challenge.rw_pf0236_01.Holds := by
  w_on
  refine holds_law Mine.wellS fun said => ?_
  refine PySem.W.holds_open (q := Mine.vw) (loose := []) (Xt := Mine.looksX) (XP := XL Mine.vw []) (Yf := Mine.hook.obs) (Ya := Mine.hook.val) (YP := Mine.hook.says) (N := 4108) Mine.left (Hook.of Mine.hook) (Hook.keeps Mine.hook) (fun s e => xl_of s (Bool.and_eq_true_iff.mp e).1) XL.keeps (by rfl) (by rfl) (by rfl) (fun s e => recFacts_of (Bool.and_eq_true_iff.mp e).2) (by rfl) said (by decide +kernel) ⟨rfl, rfl, rfl, rfl, rfl, by decide +kernel⟩ ?hw ?hc
  case hw => w_witness2
  case hc =>
    intro w s₀ s₁ mg mb G Y fa o pm cd doc dV kV ho hd hcd hD hmg hg args vals as hpre hlay hrd hwl hlo
    have KX : (Mine.hT.heap_1 w.params).In s₁.heap := kIn_of (show (kHook Mine.hT.heap_1 Mine.frAs Mine.frE).says w s₁.heap from Y)
    have X := (Ground.X G).1
    have V := (Ground.X G).2
    have GL := glob_more (Ground.glob G (by decide +kernel) (by decide +kernel)) V
    refine Ground.open G ?_
    intro T B D TE TW
    clear G Y ho hd hcd hD B D TE TW X V
    wrow_args hpre hlay hrd hwl hlo
    exact Mine.lawEnd T KX GL.seer hmg hg (by assumption) (by assumption)
