import PyProof.Rows.All
import Wide.All
import OpenK.AllK
import Wide.FinOn
import PySem.Challenge.RW_xm0080_01
open PySem PySem.W PyProof.Rows
set_option Elab.async false
set_option linter.unusedVariables false
set_option linter.unusedSectionVars false
namespace Mine
noncomputable def hd.view_39 : Program := view PySem.Challenge.pw_xm0080_01 [1, 3, 5, 6, 7, 8, 9, 10, 11, 13, 14, 15, 16, 17, 18, 19, 20, 22, 23, 25, 26, 27, 28, 30, 31, 32, 33, 34, 35]
theorem prog_eq : PySem.Challenge.rw_xm0080_01.row.prog = PySem.Challenge.pw_xm0080_01 := by kernel_rfl
theorem rec_eq : PySem.Challenge.rw_xm0080_01.row.records = [] := by kernel_rfl
set_option maxRecDepth 100000 in
theorem hlA (w : World) : (openEnds treeTable PySem.Challenge.rw_xm0080_01.row.prog w 2248).map (fun s => openSeen Mine.hd.view_39 [] (importedModules PySem.Challenge.rw_xm0080_01.row.prog.main.body) (fun s => xlAt Mine.hd.view_39 [] s && recOk PySem.Challenge.rw_xm0080_01.row.records s) true s) = some (openGood Mine.hd.view_39 []) := by
  rw [prog_eq, rec_eq]
  unfold openEnds fencedOpening topFrom opening Mine.hd.view_39
  rw [PySem.W.Fast.te14364793385576792824, PySem.W.Fast.te10274390034422433532, PySem.W.Fast.te1435165496053646825, PySem.W.Fast.te14289696077712309145, PySem.W.Fast.te14082659384304107361, PySem.W.Fast.te4187177175401517315, PySem.W.Fast.te5923862056798008813]
  kernel_rfl
theorem left_two {p q : Program} {loose : List Str} {Xt : Shared → Bool} {α : Type} {Yf : Shared → α} {Ya : World → α} {N : Nat} {g0 : Bool} (x : ∀ w, (openEnds treeTable p w N).map (fun s => openSeen q loose (importedModules p.main.body) Xt g0 s) = some (openGood q loose)) (y : ∀ w, (openEnds treeTable p w N).map Yf = some (Ya w)) : LeftO p q loose Xt Yf Ya N g0 := fun w => by
  have x := x w
  have y := y w
  revert x y
  cases openEnds treeTable p w N with
  | none => intro x; cases x
  | some s =>
    intro x y
    exact congrArg some (Prod.ext (Option.some.inj x) (Option.some.inj y))
local macro_rules | `(tactic| o_head $H) => `(tactic| (
  refine holds_open (q := Mine.hd.view_39) (loose := []) (Xt := fun s => xlAt Mine.hd.view_39 [] s && recOk (RowW.records PySem.Challenge.rw_xm0080_01.row.toRowW) s) (XP := XL Mine.hd.view_39 []) (Yf := Hook.obs $H) (Ya := Hook.val $H) (YP := Hook.says $H) (N := 2248) ?hl (Hook.of $H) (Hook.keeps $H) (fun s e => xl_of s (Bool.and_eq_true_iff.mp e).1) XL.keeps (by rfl) (by rfl) (by rfl) (fun s e => recFacts_of (Bool.and_eq_true_iff.mp e).2) (by rfl) (by first | assumption | decide +kernel) (by decide +kernel) ⟨rfl, rfl, rfl, rfl, rfl, by decide +kernel⟩ ?hw ?hc
  (case hl =>
    refine left_two hlA ?_
    intro w
    rw [prog_eq]
    unfold openEnds fencedOpening topFrom opening
    rw [PySem.W.Fast.te14364793385576792824, PySem.W.Fast.te10274390034422433532, PySem.W.Fast.te1435165496053646825, PySem.W.Fast.te14289696077712309145, PySem.W.Fast.te14082659384304107361]
    (show Option.map (fun s : Shared => List.map s.heap.get? _) _ = some (List.map (fun p : Nat × Obj => some p.2) _))
    kernel_rfl)))
set_option maxRecDepth 100000 in
set_option maxHeartbeats 8000000 in
open_top hd for PySem.Challenge.rw_xm0080_01
/-! taking apart, at once -/
theorem ob0_2  {P0 P1 : Prop} {G : Prop} (h : P0 ∧ P1) (g : P0 → P1 → G) : G := g h.1 h.2
theorem ob0_3  {P0 P1 P2 : Prop} {G : Prop} (h : P0 ∧ P1 ∧ P2) (g : P0 → P1 → P2 → G) : G := g h.1 h.2.1 h.2.2
theorem ob0_4  {P0 P1 P2 P3 : Prop} {G : Prop} (h : P0 ∧ P1 ∧ P2 ∧ P3) (g : P0 → P1 → P2 → P3 → G) : G := g h.1 h.2.1 h.2.2.1 h.2.2.2
theorem ob0_5  {P0 P1 P2 P3 P4 : Prop} {G : Prop} (h : P0 ∧ P1 ∧ P2 ∧ P3 ∧ P4) (g : P0 → P1 → P2 → P3 → P4 → G) : G := g h.1 h.2.1 h.2.2.1 h.2.2.2.1 h.2.2.2.2
theorem ob0_6  {P0 P1 P2 P3 P4 P5 : Prop} {G : Prop} (h : P0 ∧ P1 ∧ P2 ∧ P3 ∧ P4 ∧ P5) (g : P0 → P1 → P2 → P3 → P4 → P5 → G) : G := g h.1 h.2.1 h.2.2.1 h.2.2.2.1 h.2.2.2.2.1 h.2.2.2.2.2
theorem ob0_7  {P0 P1 P2 P3 P4 P5 P6 : Prop} {G : Prop} (h : P0 ∧ P1 ∧ P2 ∧ P3 ∧ P4 ∧ P5 ∧ P6) (g : P0 → P1 → P2 → P3 → P4 → P5 → P6 → G) : G := g h.1 h.2.1 h.2.2.1 h.2.2.2.1 h.2.2.2.2.1 h.2.2.2.2.2.1 h.2.2.2.2.2.2
theorem ob1_1 {a0 : Type} {P0 : a0 → Prop} {G : Prop} (h : ∃ x0, P0 x0) (g : ∀ x0, P0 x0 → G) : G := h.elim fun x0 h => g x0 h
theorem ob1_2 {a0 : Type} {P0 P1 : a0 → Prop} {G : Prop} (h : ∃ x0, P0 x0 ∧ P1 x0) (g : ∀ x0, P0 x0 → P1 x0 → G) : G := h.elim fun x0 h => g x0 h.1 h.2
theorem ob1_3 {a0 : Type} {P0 P1 P2 : a0 → Prop} {G : Prop} (h : ∃ x0, P0 x0 ∧ P1 x0 ∧ P2 x0) (g : ∀ x0, P0 x0 → P1 x0 → P2 x0 → G) : G := h.elim fun x0 h => g x0 h.1 h.2.1 h.2.2
theorem ob1_4 {a0 : Type} {P0 P1 P2 P3 : a0 → Prop} {G : Prop} (h : ∃ x0, P0 x0 ∧ P1 x0 ∧ P2 x0 ∧ P3 x0) (g : ∀ x0, P0 x0 → P1 x0 → P2 x0 → P3 x0 → G) : G := h.elim fun x0 h => g x0 h.1 h.2.1 h.2.2.1 h.2.2.2
theorem ob1_5 {a0 : Type} {P0 P1 P2 P3 P4 : a0 → Prop} {G : Prop} (h : ∃ x0, P0 x0 ∧ P1 x0 ∧ P2 x0 ∧ P3 x0 ∧ P4 x0) (g : ∀ x0, P0 x0 → P1 x0 → P2 x0 → P3 x0 → P4 x0 → G) : G := h.elim fun x0 h => g x0 h.1 h.2.1 h.2.2.1 h.2.2.2.1 h.2.2.2.2
theorem ob1_6 {a0 : Type} {P0 P1 P2 P3 P4 P5 : a0 → Prop} {G : Prop} (h : ∃ x0, P0 x0 ∧ P1 x0 ∧ P2 x0 ∧ P3 x0 ∧ P4 x0 ∧ P5 x0) (g : ∀ x0, P0 x0 → P1 x0 → P2 x0 → P3 x0 → P4 x0 → P5 x0 → G) : G := h.elim fun x0 h => g x0 h.1 h.2.1 h.2.2.1 h.2.2.2.1 h.2.2.2.2.1 h.2.2.2.2.2
theorem ob1_7 {a0 : Type} {P0 P1 P2 P3 P4 P5 P6 : a0 → Prop} {G : Prop} (h : ∃ x0, P0 x0 ∧ P1 x0 ∧ P2 x0 ∧ P3 x0 ∧ P4 x0 ∧ P5 x0 ∧ P6 x0) (g : ∀ x0, P0 x0 → P1 x0 → P2 x0 → P3 x0 → P4 x0 → P5 x0 → P6 x0 → G) : G := h.elim fun x0 h => g x0 h.1 h.2.1 h.2.2.1 h.2.2.2.1 h.2.2.2.2.1 h.2.2.2.2.2.1 h.2.2.2.2.2.2
theorem ob2_1 {a0 : Type} {a1 : Type} {P0 : a0 → a1 → Prop} {G : Prop} (h : ∃ x0 x1, P0 x0 x1) (g : ∀ x0 x1, P0 x0 x1 → G) : G := h.elim fun x0 h => h.elim fun x1 h => g x0 x1 h
theorem ob2_2 {a0 : Type} {a1 : Type} {P0 P1 : a0 → a1 → Prop} {G : Prop} (h : ∃ x0 x1, P0 x0 x1 ∧ P1 x0 x1) (g : ∀ x0 x1, P0 x0 x1 → P1 x0 x1 → G) : G := h.elim fun x0 h => h.elim fun x1 h => g x0 x1 h.1 h.2
theorem ob2_3 {a0 : Type} {a1 : Type} {P0 P1 P2 : a0 → a1 → Prop} {G : Prop} (h : ∃ x0 x1, P0 x0 x1 ∧ P1 x0 x1 ∧ P2 x0 x1) (g : ∀ x0 x1, P0 x0 x1 → P1 x0 x1 → P2 x0 x1 → G) : G := h.elim fun x0 h => h.elim fun x1 h => g x0 x1 h.1 h.2.1 h.2.2
theorem ob2_4 {a0 : Type} {a1 : Type} {P0 P1 P2 P3 : a0 → a1 → Prop} {G : Prop} (h : ∃ x0 x1, P0 x0 x1 ∧ P1 x0 x1 ∧ P2 x0 x1 ∧ P3 x0 x1) (g : ∀ x0 x1, P0 x0 x1 → P1 x0 x1 → P2 x0 x1 → P3 x0 x1 → G) : G := h.elim fun x0 h => h.elim fun x1 h => g x0 x1 h.1 h.2.1 h.2.2.1 h.2.2.2
theorem ob2_5 {a0 : Type} {a1 : Type} {P0 P1 P2 P3 P4 : a0 → a1 → Prop} {G : Prop} (h : ∃ x0 x1, P0 x0 x1 ∧ P1 x0 x1 ∧ P2 x0 x1 ∧ P3 x0 x1 ∧ P4 x0 x1) (g : ∀ x0 x1, P0 x0 x1 → P1 x0 x1 → P2 x0 x1 → P3 x0 x1 → P4 x0 x1 → G) : G := h.elim fun x0 h => h.elim fun x1 h => g x0 x1 h.1 h.2.1 h.2.2.1 h.2.2.2.1 h.2.2.2.2
theorem ob2_6 {a0 : Type} {a1 : Type} {P0 P1 P2 P3 P4 P5 : a0 → a1 → Prop} {G : Prop} (h : ∃ x0 x1, P0 x0 x1 ∧ P1 x0 x1 ∧ P2 x0 x1 ∧ P3 x0 x1 ∧ P4 x0 x1 ∧ P5 x0 x1) (g : ∀ x0 x1, P0 x0 x1 → P1 x0 x1 → P2 x0 x1 → P3 x0 x1 → P4 x0 x1 → P5 x0 x1 → G) : G := h.elim fun x0 h => h.elim fun x1 h => g x0 x1 h.1 h.2.1 h.2.2.1 h.2.2.2.1 h.2.2.2.2.1 h.2.2.2.2.2
theorem ob2_7 {a0 : Type} {a1 : Type} {P0 P1 P2 P3 P4 P5 P6 : a0 → a1 → Prop} {G : Prop} (h : ∃ x0 x1, P0 x0 x1 ∧ P1 x0 x1 ∧ P2 x0 x1 ∧ P3 x0 x1 ∧ P4 x0 x1 ∧ P5 x0 x1 ∧ P6 x0 x1) (g : ∀ x0 x1, P0 x0 x1 → P1 x0 x1 → P2 x0 x1 → P3 x0 x1 → P4 x0 x1 → P5 x0 x1 → P6 x0 x1 → G) : G := h.elim fun x0 h => h.elim fun x1 h => g x0 x1 h.1 h.2.1 h.2.2.1 h.2.2.2.1 h.2.2.2.2.1 h.2.2.2.2.2.1 h.2.2.2.2.2.2
theorem ob3_1 {a0 : Type} {a1 : Type} {a2 : Type} {P0 : a0 → a1 → a2 → Prop} {G : Prop} (h : ∃ x0 x1 x2, P0 x0 x1 x2) (g : ∀ x0 x1 x2, P0 x0 x1 x2 → G) : G := h.elim fun x0 h => h.elim fun x1 h => h.elim fun x2 h => g x0 x1 x2 h
theorem ob3_2 {a0 : Type} {a1 : Type} {a2 : Type} {P0 P1 : a0 → a1 → a2 → Prop} {G : Prop} (h : ∃ x0 x1 x2, P0 x0 x1 x2 ∧ P1 x0 x1 x2) (g : ∀ x0 x1 x2, P0 x0 x1 x2 → P1 x0 x1 x2 → G) : G := h.elim fun x0 h => h.elim fun x1 h => h.elim fun x2 h => g x0 x1 x2 h.1 h.2
theorem ob3_3 {a0 : Type} {a1 : Type} {a2 : Type} {P0 P1 P2 : a0 → a1 → a2 → Prop} {G : Prop} (h : ∃ x0 x1 x2, P0 x0 x1 x2 ∧ P1 x0 x1 x2 ∧ P2 x0 x1 x2) (g : ∀ x0 x1 x2, P0 x0 x1 x2 → P1 x0 x1 x2 → P2 x0 x1 x2 → G) : G := h.elim fun x0 h => h.elim fun x1 h => h.elim fun x2 h => g x0 x1 x2 h.1 h.2.1 h.2.2
theorem ob3_4 {a0 : Type} {a1 : Type} {a2 : Type} {P0 P1 P2 P3 : a0 → a1 → a2 → Prop} {G : Prop} (h : ∃ x0 x1 x2, P0 x0 x1 x2 ∧ P1 x0 x1 x2 ∧ P2 x0 x1 x2 ∧ P3 x0 x1 x2) (g : ∀ x0 x1 x2, P0 x0 x1 x2 → P1 x0 x1 x2 → P2 x0 x1 x2 → P3 x0 x1 x2 → G) : G := h.elim fun x0 h => h.elim fun x1 h => h.elim fun x2 h => g x0 x1 x2 h.1 h.2.1 h.2.2.1 h.2.2.2
theorem ob3_5 {a0 : Type} {a1 : Type} {a2 : Type} {P0 P1 P2 P3 P4 : a0 → a1 → a2 → Prop} {G : Prop} (h : ∃ x0 x1 x2, P0 x0 x1 x2 ∧ P1 x0 x1 x2 ∧ P2 x0 x1 x2 ∧ P3 x0 x1 x2 ∧ P4 x0 x1 x2) (g : ∀ x0 x1 x2, P0 x0 x1 x2 → P1 x0 x1 x2 → P2 x0 x1 x2 → P3 x0 x1 x2 → P4 x0 x1 x2 → G) : G := h.elim fun x0 h => h.elim fun x1 h => h.elim fun x2 h => g x0 x1 x2 h.1 h.2.1 h.2.2.1 h.2.2.2.1 h.2.2.2.2
theorem ob3_6 {a0 : Type} {a1 : Type} {a2 : Type} {P0 P1 P2 P3 P4 P5 : a0 → a1 → a2 → Prop} {G : Prop} (h : ∃ x0 x1 x2, P0 x0 x1 x2 ∧ P1 x0 x1 x2 ∧ P2 x0 x1 x2 ∧ P3 x0 x1 x2 ∧ P4 x0 x1 x2 ∧ P5 x0 x1 x2) (g : ∀ x0 x1 x2, P0 x0 x1 x2 → P1 x0 x1 x2 → P2 x0 x1 x2 → P3 x0 x1 x2 → P4 x0 x1 x2 → P5 x0 x1 x2 → G) : G := h.elim fun x0 h => h.elim fun x1 h => h.elim fun x2 h => g x0 x1 x2 h.1 h.2.1 h.2.2.1 h.2.2.2.1 h.2.2.2.2.1 h.2.2.2.2.2
theorem ob4_1 {a0 : Type} {a1 : Type} {a2 : Type} {a3 : Type} {P0 : a0 → a1 → a2 → a3 → Prop} {G : Prop} (h : ∃ x0 x1 x2 x3, P0 x0 x1 x2 x3) (g : ∀ x0 x1 x2 x3, P0 x0 x1 x2 x3 → G) : G := h.elim fun x0 h => h.elim fun x1 h => h.elim fun x2 h => h.elim fun x3 h => g x0 x1 x2 x3 h
theorem ob4_2 {a0 : Type} {a1 : Type} {a2 : Type} {a3 : Type} {P0 P1 : a0 → a1 → a2 → a3 → Prop} {G : Prop} (h : ∃ x0 x1 x2 x3, P0 x0 x1 x2 x3 ∧ P1 x0 x1 x2 x3) (g : ∀ x0 x1 x2 x3, P0 x0 x1 x2 x3 → P1 x0 x1 x2 x3 → G) : G := h.elim fun x0 h => h.elim fun x1 h => h.elim fun x2 h => h.elim fun x3 h => g x0 x1 x2 x3 h.1 h.2
theorem ob4_3 {a0 : Type} {a1 : Type} {a2 : Type} {a3 : Type} {P0 P1 P2 : a0 → a1 → a2 → a3 → Prop} {G : Prop} (h : ∃ x0 x1 x2 x3, P0 x0 x1 x2 x3 ∧ P1 x0 x1 x2 x3 ∧ P2 x0 x1 x2 x3) (g : ∀ x0 x1 x2 x3, P0 x0 x1 x2 x3 → P1 x0 x1 x2 x3 → P2 x0 x1 x2 x3 → G) : G := h.elim fun x0 h => h.elim fun x1 h => h.elim fun x2 h => h.elim fun x3 h => g x0 x1 x2 x3 h.1 h.2.1 h.2.2
theorem ob4_4 {a0 : Type} {a1 : Type} {a2 : Type} {a3 : Type} {P0 P1 P2 P3 : a0 → a1 → a2 → a3 → Prop} {G : Prop} (h : ∃ x0 x1 x2 x3, P0 x0 x1 x2 x3 ∧ P1 x0 x1 x2 x3 ∧ P2 x0 x1 x2 x3 ∧ P3 x0 x1 x2 x3) (g : ∀ x0 x1 x2 x3, P0 x0 x1 x2 x3 → P1 x0 x1 x2 x3 → P2 x0 x1 x2 x3 → P3 x0 x1 x2 x3 → G) : G := h.elim fun x0 h => h.elim fun x1 h => h.elim fun x2 h => h.elim fun x3 h => g x0 x1 x2 x3 h.1 h.2.1 h.2.2.1 h.2.2.2
theorem ob4_5 {a0 : Type} {a1 : Type} {a2 : Type} {a3 : Type} {P0 P1 P2 P3 P4 : a0 → a1 → a2 → a3 → Prop} {G : Prop} (h : ∃ x0 x1 x2 x3, P0 x0 x1 x2 x3 ∧ P1 x0 x1 x2 x3 ∧ P2 x0 x1 x2 x3 ∧ P3 x0 x1 x2 x3 ∧ P4 x0 x1 x2 x3) (g : ∀ x0 x1 x2 x3, P0 x0 x1 x2 x3 → P1 x0 x1 x2 x3 → P2 x0 x1 x2 x3 → P3 x0 x1 x2 x3 → P4 x0 x1 x2 x3 → G) : G := h.elim fun x0 h => h.elim fun x1 h => h.elim fun x2 h => h.elim fun x3 h => g x0 x1 x2 x3 h.1 h.2.1 h.2.2.1 h.2.2.2.1 h.2.2.2.2
theorem ob5_1 {a0 : Type} {a1 : Type} {a2 : Type} {a3 : Type} {a4 : Type} {P0 : a0 → a1 → a2 → a3 → a4 → Prop} {G : Prop} (h : ∃ x0 x1 x2 x3 x4, P0 x0 x1 x2 x3 x4) (g : ∀ x0 x1 x2 x3 x4, P0 x0 x1 x2 x3 x4 → G) : G := h.elim fun x0 h => h.elim fun x1 h => h.elim fun x2 h => h.elim fun x3 h => h.elim fun x4 h => g x0 x1 x2 x3 x4 h
theorem ob5_2 {a0 : Type} {a1 : Type} {a2 : Type} {a3 : Type} {a4 : Type} {P0 P1 : a0 → a1 → a2 → a3 → a4 → Prop} {G : Prop} (h : ∃ x0 x1 x2 x3 x4, P0 x0 x1 x2 x3 x4 ∧ P1 x0 x1 x2 x3 x4) (g : ∀ x0 x1 x2 x3 x4, P0 x0 x1 x2 x3 x4 → P1 x0 x1 x2 x3 x4 → G) : G := h.elim fun x0 h => h.elim fun x1 h => h.elim fun x2 h => h.elim fun x3 h => h.elim fun x4 h => g x0 x1 x2 x3 x4 h.1 h.2
theorem ob5_3 {a0 : Type} {a1 : Type} {a2 : Type} {a3 : Type} {a4 : Type} {P0 P1 P2 : a0 → a1 → a2 → a3 → a4 → Prop} {G : Prop} (h : ∃ x0 x1 x2 x3 x4, P0 x0 x1 x2 x3 x4 ∧ P1 x0 x1 x2 x3 x4 ∧ P2 x0 x1 x2 x3 x4) (g : ∀ x0 x1 x2 x3 x4, P0 x0 x1 x2 x3 x4 → P1 x0 x1 x2 x3 x4 → P2 x0 x1 x2 x3 x4 → G) : G := h.elim fun x0 h => h.elim fun x1 h => h.elim fun x2 h => h.elim fun x3 h => h.elim fun x4 h => g x0 x1 x2 x3 x4 h.1 h.2.1 h.2.2
theorem ob5_4 {a0 : Type} {a1 : Type} {a2 : Type} {a3 : Type} {a4 : Type} {P0 P1 P2 P3 : a0 → a1 → a2 → a3 → a4 → Prop} {G : Prop} (h : ∃ x0 x1 x2 x3 x4, P0 x0 x1 x2 x3 x4 ∧ P1 x0 x1 x2 x3 x4 ∧ P2 x0 x1 x2 x3 x4 ∧ P3 x0 x1 x2 x3 x4) (g : ∀ x0 x1 x2 x3 x4, P0 x0 x1 x2 x3 x4 → P1 x0 x1 x2 x3 x4 → P2 x0 x1 x2 x3 x4 → P3 x0 x1 x2 x3 x4 → G) : G := h.elim fun x0 h => h.elim fun x1 h => h.elim fun x2 h => h.elim fun x3 h => h.elim fun x4 h => g x0 x1 x2 x3 x4 h.1 h.2.1 h.2.2.1 h.2.2.2
theorem ob6_1 {a0 : Type} {a1 : Type} {a2 : Type} {a3 : Type} {a4 : Type} {a5 : Type} {P0 : a0 → a1 → a2 → a3 → a4 → a5 → Prop} {G : Prop} (h : ∃ x0 x1 x2 x3 x4 x5, P0 x0 x1 x2 x3 x4 x5) (g : ∀ x0 x1 x2 x3 x4 x5, P0 x0 x1 x2 x3 x4 x5 → G) : G := h.elim fun x0 h => h.elim fun x1 h => h.elim fun x2 h => h.elim fun x3 h => h.elim fun x4 h => h.elim fun x5 h => g x0 x1 x2 x3 x4 x5 h
theorem ob6_2 {a0 : Type} {a1 : Type} {a2 : Type} {a3 : Type} {a4 : Type} {a5 : Type} {P0 P1 : a0 → a1 → a2 → a3 → a4 → a5 → Prop} {G : Prop} (h : ∃ x0 x1 x2 x3 x4 x5, P0 x0 x1 x2 x3 x4 x5 ∧ P1 x0 x1 x2 x3 x4 x5) (g : ∀ x0 x1 x2 x3 x4 x5, P0 x0 x1 x2 x3 x4 x5 → P1 x0 x1 x2 x3 x4 x5 → G) : G := h.elim fun x0 h => h.elim fun x1 h => h.elim fun x2 h => h.elim fun x3 h => h.elim fun x4 h => h.elim fun x5 h => g x0 x1 x2 x3 x4 x5 h.1 h.2
theorem ob6_3 {a0 : Type} {a1 : Type} {a2 : Type} {a3 : Type} {a4 : Type} {a5 : Type} {P0 P1 P2 : a0 → a1 → a2 → a3 → a4 → a5 → Prop} {G : Prop} (h : ∃ x0 x1 x2 x3 x4 x5, P0 x0 x1 x2 x3 x4 x5 ∧ P1 x0 x1 x2 x3 x4 x5 ∧ P2 x0 x1 x2 x3 x4 x5) (g : ∀ x0 x1 x2 x3 x4 x5, P0 x0 x1 x2 x3 x4 x5 → P1 x0 x1 x2 x3 x4 x5 → P2 x0 x1 x2 x3 x4 x5 → G) : G := h.elim fun x0 h => h.elim fun x1 h => h.elim fun x2 h => h.elim fun x3 h => h.elim fun x4 h => h.elim fun x5 h => g x0 x1 x2 x3 x4 x5 h.1 h.2.1 h.2.2
theorem ob6_6 {a0 : Type} {a1 : Type} {a2 : Type} {a3 : Type} {a4 : Type} {a5 : Type} {P0 P1 P2 P3 P4 P5 : a0 → a1 → a2 → a3 → a4 → a5 → Prop} {G : Prop} (h : ∃ x0 x1 x2 x3 x4 x5, P0 x0 x1 x2 x3 x4 x5 ∧ P1 x0 x1 x2 x3 x4 x5 ∧ P2 x0 x1 x2 x3 x4 x5 ∧ P3 x0 x1 x2 x3 x4 x5 ∧ P4 x0 x1 x2 x3 x4 x5 ∧ P5 x0 x1 x2 x3 x4 x5) (g : ∀ x0 x1 x2 x3 x4 x5, P0 x0 x1 x2 x3 x4 x5 → P1 x0 x1 x2 x3 x4 x5 → P2 x0 x1 x2 x3 x4 x5 → P3 x0 x1 x2 x3 x4 x5 → P4 x0 x1 x2 x3 x4 x5 → P5 x0 x1 x2 x3 x4 x5 → G) : G := h.elim fun x0 h => h.elim fun x1 h => h.elim fun x2 h => h.elim fun x3 h => h.elim fun x4 h => h.elim fun x5 h => g x0 x1 x2 x3 x4 x5 h.1 h.2.1 h.2.2.1 h.2.2.2.1 h.2.2.2.2.1 h.2.2.2.2.2
theorem ob8_9 {a0 : Type} {a1 : Type} {a2 : Type} {a3 : Type} {a4 : Type} {a5 : Type} {a6 : Type} {a7 : Type} {P0 P1 P2 P3 P4 P5 P6 P7 P8 : a0 → a1 → a2 → a3 → a4 → a5 → a6 → a7 → Prop} {G : Prop} (h : ∃ x0 x1 x2 x3 x4 x5 x6 x7, P0 x0 x1 x2 x3 x4 x5 x6 x7 ∧ P1 x0 x1 x2 x3 x4 x5 x6 x7 ∧ P2 x0 x1 x2 x3 x4 x5 x6 x7 ∧ P3 x0 x1 x2 x3 x4 x5 x6 x7 ∧ P4 x0 x1 x2 x3 x4 x5 x6 x7 ∧ P5 x0 x1 x2 x3 x4 x5 x6 x7 ∧ P6 x0 x1 x2 x3 x4 x5 x6 x7 ∧ P7 x0 x1 x2 x3 x4 x5 x6 x7 ∧ P8 x0 x1 x2 x3 x4 x5 x6 x7) (g : ∀ x0 x1 x2 x3 x4 x5 x6 x7, P0 x0 x1 x2 x3 x4 x5 x6 x7 → P1 x0 x1 x2 x3 x4 x5 x6 x7 → P2 x0 x1 x2 x3 x4 x5 x6 x7 → P3 x0 x1 x2 x3 x4 x5 x6 x7 → P4 x0 x1 x2 x3 x4 x5 x6 x7 → P5 x0 x1 x2 x3 x4 x5 x6 x7 → P6 x0 x1 x2 x3 x4 x5 x6 x7 → P7 x0 x1 x2 x3 x4 x5 x6 x7 → P8 x0 x1 x2 x3 x4 x5 x6 x7 → G) : G := h.elim fun x0 h => h.elim fun x1 h => h.elim fun x2 h => h.elim fun x3 h => h.elim fun x4 h => h.elim fun x5 h => h.elim fun x6 h => h.elim fun x7 h => g x0 x1 x2 x3 x4 x5 x6 x7 h.1 h.2.1 h.2.2.1 h.2.2.2.1 h.2.2.2.2.1 h.2.2.2.2.2.1 h.2.2.2.2.2.2.1 h.2.2.2.2.2.2.2.1 h.2.2.2.2.2.2.2.2
theorem ob7_7 {a0 : Type} {a1 : Type} {a2 : Type} {a3 : Type} {a4 : Type} {a5 : Type} {a6 : Type} {P0 P1 P2 P3 P4 P5 P6 : a0 → a1 → a2 → a3 → a4 → a5 → a6 → Prop} {G : Prop} (h : ∃ x0 x1 x2 x3 x4 x5 x6, P0 x0 x1 x2 x3 x4 x5 x6 ∧ P1 x0 x1 x2 x3 x4 x5 x6 ∧ P2 x0 x1 x2 x3 x4 x5 x6 ∧ P3 x0 x1 x2 x3 x4 x5 x6 ∧ P4 x0 x1 x2 x3 x4 x5 x6 ∧ P5 x0 x1 x2 x3 x4 x5 x6 ∧ P6 x0 x1 x2 x3 x4 x5 x6) (g : ∀ x0 x1 x2 x3 x4 x5 x6, P0 x0 x1 x2 x3 x4 x5 x6 → P1 x0 x1 x2 x3 x4 x5 x6 → P2 x0 x1 x2 x3 x4 x5 x6 → P3 x0 x1 x2 x3 x4 x5 x6 → P4 x0 x1 x2 x3 x4 x5 x6 → P5 x0 x1 x2 x3 x4 x5 x6 → P6 x0 x1 x2 x3 x4 x5 x6 → G) : G := h.elim fun x0 h => h.elim fun x1 h => h.elim fun x2 h => h.elim fun x3 h => h.elim fun x4 h => h.elim fun x5 h => h.elim fun x6 h => g x0 x1 x2 x3 x4 x5 x6 h.1 h.2.1 h.2.2.1 h.2.2.2.1 h.2.2.2.2.1 h.2.2.2.2.2.1 h.2.2.2.2.2.2
theorem exI7 {a0 : Type} {a1 : Type} {a2 : Type} {a3 : Type} {a4 : Type} {a5 : Type} {a6 : Type} {P : a0 → a1 → a2 → a3 → a4 → a5 → a6 → Prop} (x0 : a0) (x1 : a1) (x2 : a2) (x3 : a3) (x4 : a4) (x5 : a5) (x6 : a6) (p : P x0 x1 x2 x3 x4 x5 x6) : ∃ x0 x1 x2 x3 x4 x5 x6, P x0 x1 x2 x3 x4 x5 x6 := ⟨x0, x1, x2, x3, x4, x5, x6, p⟩
theorem exI8 {a0 : Type} {a1 : Type} {a2 : Type} {a3 : Type} {a4 : Type} {a5 : Type} {a6 : Type} {a7 : Type} {P : a0 → a1 → a2 → a3 → a4 → a5 → a6 → a7 → Prop} (x0 : a0) (x1 : a1) (x2 : a2) (x3 : a3) (x4 : a4) (x5 : a5) (x6 : a6) (x7 : a7) (p : P x0 x1 x2 x3 x4 x5 x6 x7) : ∃ x0 x1 x2 x3 x4 x5 x6 x7, P x0 x1 x2 x3 x4 x5 x6 x7 := ⟨x0, x1, x2, x3, x4, x5, x6, x7, p⟩
theorem exI4 {α β γ δ : Type} {P : α → β → γ → δ → Prop} (a : α) (b : β) (c : γ) (d : δ) (x : P a b c d) : ∃ a b c d, P a b c d := ⟨a, b, c, d, x⟩
theorem exI5 {α β γ δ ε : Type} {P : α → β → γ → δ → ε → Prop} (a : α) (b : β) (c : γ) (d : δ) (e : ε) (x : P a b c d e) : ∃ a b c d e, P a b c d e := ⟨a, b, c, d, e, x⟩
theorem exI6 {α β γ δ ε ζ : Type} {P : α → β → γ → δ → ε → ζ → Prop} (a : α) (b : β) (c : γ) (d : δ) (e : ε) (f : ζ) (x : P a b c d e f) : ∃ a b c d e f, P a b c d e f := ⟨a, b, c, d, e, f, x⟩
theorem ob7_2 {a0 : Type} {a1 : Type} {a2 : Type} {a3 : Type} {a4 : Type} {a5 : Type} {a6 : Type} {P0 P1 : a0 → a1 → a2 → a3 → a4 → a5 → a6 → Prop} {G : Prop} (h : ∃ x0 x1 x2 x3 x4 x5 x6, P0 x0 x1 x2 x3 x4 x5 x6 ∧ P1 x0 x1 x2 x3 x4 x5 x6) (g : ∀ x0 x1 x2 x3 x4 x5 x6, P0 x0 x1 x2 x3 x4 x5 x6 → P1 x0 x1 x2 x3 x4 x5 x6 → G) : G := h.elim fun x0 h => h.elim fun x1 h => h.elim fun x2 h => h.elim fun x3 h => h.elim fun x4 h => h.elim fun x5 h => h.elim fun x6 h => g x0 x1 x2 x3 x4 x5 x6 h.1 h.2
theorem iteT {c : Prop} {i : Decidable c} {X Y : Prop} (h : c) (x : X) : @ite Prop c i X Y := (if_pos h).mpr x
theorem iteF {c : Prop} {i : Decidable c} {X Y : Prop} (h : ¬ c) (y : Y) : @ite Prop c i X Y := (if_neg h).mpr y
/-! small sums -/
theorem b63 {n : Nat} (h : n ≤ 1000) : (n : Int) < (2 : Int) ^ (63 : Nat) := by omega
theorem b62 {n : Nat} (h : n ≤ 1000) : (n : Int) < (2 : Int) ^ (62 : Nat) := by omega
theorem bn62 {n : Nat} (h : n ≤ 1000) : n < (2 : Nat) ^ (62 : Nat) := by omega
theorem b630 {n : Nat} (h : n ≤ 1000) : (0 : Int) + (n : Int) < (2 : Int) ^ (63 : Nat) := by omega
theorem b0 (n : Nat) : (0 : Int) ≤ (0 : Int) + (n : Int) := by omega
theorem b0b (n : Nat) : (0 : Int) ≤ (n : Int) := Int.natCast_nonneg n
theorem bt (n : Nat) : Int.toNat ((0 : Int) + (n : Int)) = n := by omega
theorem bt2 (n : Nat) : Int.toNat ((n : Int) - (0 : Int)) = n := by omega
theorem b62n (n : Nat) : -(2 : Int) ^ (62 : Nat) ≤ (n : Int) := by omega
theorem om1 : ∀ {x0 x1 x2 x3 : Nat}, x1 ≤ x2 → x3 + x2 < x0 → x3 + x1 < x0 := by first | exact fun {x0 x1 x2 x3} h1 h2 => Nat.lt_of_le_of_lt (Nat.add_le_add_left h1 x3) h2 | (intros; lia)
theorem om2 : ∀ {x0 x1 x2 x3 : Nat}, x1 ≤ x2 → x3 + (16 : Nat) * x2 + (200 : Nat) < x0 → x3 + (16 : Nat) * x1 + (200 : Nat) < x0 := by first | exact fun {x0 x1 x2 x3} h1 h2 => Nat.lt_of_le_of_lt (Nat.add_le_add_right (Nat.add_le_add_left (Nat.mul_le_mul_left 16 h1) x3) 200) h2 | (intros; lia)
theorem om3 : ∀ {x0 x1 x2 : Nat}, x2 + (x1 + (1 : Nat)) < x0 → x2 + (1 : Nat) + x1 < x0 := by first | exact fun {x0 x1 x2} h => Nat.lt_of_le_of_lt (Nat.le_of_eq (Nat.add_right_comm x2 1 x1)) h | (intros; lia)
theorem om4 : ∀ {x0 x1 x2 : Nat}, x2 + (16 : Nat) * (x1 + (1 : Nat)) + (200 : Nat) < x0 → x2 + (3 : Nat) + (16 : Nat) * x1 + (200 : Nat) < x0 := by intros; lia
theorem om5 : ∀ {x0 x1 : Nat}, x1 < x0 → x1 ≤ x0 - (1 : Nat) := by first | exact fun h => Nat.le_sub_one_of_lt h | (intros; omega)
theorem om6 : ∀ {x0 x1 : Nat}, x1 < x0 → x0 = Nat.succ (x0 - (1 : Nat)) := by first | exact fun h => (Nat.succ_pred_eq_of_pos (Nat.lt_of_le_of_lt (Nat.zero_le _) h)).symm | (intros; lia)
theorem om7 : ∀ {x0 x1 : Int} {x2 x3 : Nat}, Int.natAbs x1 < x3 → Int.natAbs x0 < x3 → x2 = x3 * (2 : Nat) → Int.natAbs (x1 + x0) < x2 := by first | exact fun {x0 x1 x2 x3} h1 h2 e => Nat.lt_of_le_of_lt (Int.natAbs_add_le x1 x0) (Nat.lt_of_lt_of_eq (Nat.add_lt_add h1 h2) ((Nat.mul_two x3).symm.trans e.symm)) | (intros; subst_vars; omega)
theorem om8 : ∀ {x0 : Int}, (0 : Int) ≤ x0 → -(2 : Int) ^ (63 : Nat) ≤ x0 := by intros; lia
theorem om9 : ∀ {x0 : Int}, (0 : Int) ≤ x0 → ¬x0 < (0 : Int) := by intros; simp_all
theorem om10 : ∀ {x0 : Int} {x1 : Nat}, Int.toNat x0 < x1 → x0 < (↑x1 : Int) := by first | exact fun {x0 x1} h => Int.lt_of_le_of_lt (Int.self_le_toNat x0) (Int.ofNat_lt.mpr h) | (intros; lia)
theorem om11 : ∀ {x0 x1 : Nat}, x0 ≤ (500000 : Nat) → x1 < x0 → x1 + (1 : Nat) ≤ (2 : Nat) ^ (20 : Nat) := by intros; subst_vars; exact Nat.lt_trans (by assumption) (Nat.lt_of_le_of_lt (by assumption) (by decide))
theorem om12 : ∀ {x0 : Int}, x0 + (↑(0 : Nat) : Int) = x0 := by intros; simp_all
theorem om13 : ∀ {x0 x1 : Int}, (↑(Int.toNat (x1 - x0)) : Int) - (↑(0 : Nat) : Int) = (↑(Int.toNat (x1 - x0)) : Int) := by intros; subst_vars; solve_by_elim (maxDepth := 4) [Nat.lt_of_lt_of_le, Nat.lt_of_le_of_lt, Nat.lt_trans, Nat.le_trans, Nat.le_of_lt, Nat.lt_succ_of_lt, Nat.le_succ_of_le, Nat.lt_succ_of_le, Nat.succ_le_of_lt, Nat.lt_of_succ_le, Nat.le_of_succ_le, Nat.le_refl, Nat.succ_pos, Nat.zero_le]
theorem om14 : ∀ {x0 x1 : Nat}, x1 < x0 → x0 - (x1 + (1 : Nat)) < x0 - x1 := by first | exact fun {x0 x1} h => Nat.sub_lt_sub_left h (Nat.lt_succ_self x1) | (intros; omega)
theorem om15 : ∀ {x0 x1 : Nat}, x1 ≤ x0 → x1 ≤ x0 := by intros; omega
theorem om16 : ∀ {x0 : Nat}, x0 < (2 : Nat) ^ (62 : Nat) → (↑x0 : Int) < (2 : Int) ^ (63 : Nat) := by intros; lia
theorem om17 : ∀ {x0 x1 : Nat}, x1 + (16 : Nat) * (0 : Nat) + (200 : Nat) < x0 → x1 + (64 : Nat) < x0 := by first | exact fun {x0 x1} h => Nat.lt_of_le_of_lt (Nat.add_le_add_left (show 64 ≤ 200 by decide) x1) h | (intros; lia)
theorem om18 : ∀ {x0 : Int}, -(2 : Int) ^ (63 : Nat) ≤ x0 → x0 < (2 : Int) ^ (63 : Nat) → (-9223372036854775808 : Int) ≤ x0 ∧ x0 < (9223372036854775808 : Int) := by intros; subst_vars; solve_by_elim (maxDepth := 4) [Nat.lt_of_lt_of_le, Nat.lt_of_le_of_lt, Nat.lt_trans, Nat.le_trans, Nat.le_of_lt, Nat.lt_succ_of_lt, Nat.le_succ_of_le, Nat.lt_succ_of_le, Nat.succ_le_of_lt, Nat.lt_of_succ_le, Nat.le_of_succ_le, Nat.le_refl, Nat.succ_pos, Nat.zero_le]
theorem om19 : ∀ {x0 : Int} {x1 : Nat}, x1 * Int.toNat x0 ≤ (2 : Nat) ^ (24 : Nat) → x1 * Int.toNat x0 ≤ (16777216 : Nat) := by intros; omega
theorem om20 : ∀ {x0 : Nat}, -(2 : Int) ^ (63 : Nat) ≤ (↑x0 : Int) := by intros; subst_vars; solve_by_elim (maxDepth := 4) [Nat.lt_of_lt_of_le, Nat.lt_of_le_of_lt, Nat.lt_trans, Nat.le_trans, Nat.le_of_lt, Nat.lt_succ_of_lt, Nat.le_succ_of_le, Nat.lt_succ_of_le, Nat.succ_le_of_lt, Nat.lt_of_succ_le, Nat.le_of_succ_le, Nat.le_refl, Nat.succ_pos, Nat.zero_le]
theorem om21 : ∀ {x0 : Nat}, x0 ≤ (1000 : Nat) → (↑x0 : Int) < (2 : Int) ^ (63 : Nat) := by intros; subst_vars; exact b63 (by assumption)
theorem om22 : ∀ {x0 : Nat}, x0 ≤ (1000 : Nat) → (1 : Nat) * x0 ≤ (16777216 : Nat) := by first | exact fun {x0} h => Nat.le_trans (Nat.le_of_eq (Nat.one_mul x0)) (Nat.le_trans h (by decide)) | (intros; lia)
theorem om23 : ∀ {x0 : Nat}, (0 : Int) ≤ (↑x0 : Int) := by intros; subst_vars; exact b0b _
theorem om24 : ∀ {x0 : Nat}, x0 < (1000 : Nat) → (↑x0 : Int) < (2 : Int) ^ (63 : Nat) := by intros; subst_vars; exact b63 (Nat.le_of_lt (Nat.lt_of_lt_of_le (by assumption) (by decide)))
theorem om25 : ∀ {x0 x1 x2 : Nat}, x0 < x2 → x1 = x2 → x0 < x1 := by intros; subst_vars; omega
theorem om26 : ∀ {x0 x1 : Nat}, ¬(x1 < x0 ∧ x0 < x1 + (1 : Nat) + (0 : Nat)) := by intros; lia
theorem om27 : ∀ {x0 x1 : Nat}, x1 < x1 + (1 : Nat) + x0 ∧ x1 + (1 : Nat) + x0 < x1 + (1 : Nat) + (x0 + (1 : Nat)) := by intros; lia
theorem om28 : ∀ {x0 x1 x2 : Nat}, x1 + (1 : Nat) + x0 ≥ x2 → ¬x1 + (1 : Nat) + x0 < x2 := by intros; simp_all
theorem om29 : ∀ {x0 x1 x2 : Nat}, x1 ≤ x2 ∨ x2 + (1 : Nat) + x0 ≤ x1 → ¬(x2 < x1 ∧ x1 < x2 + (1 : Nat) + x0) := by intros; lia
theorem om30 : ∀ {x0 : Int}, (0 : Int) < x0 → (0 : Int) ≤ x0 := by first | exact fun h => Int.le_of_lt h | (intros; lia)
theorem om31 : ∀ {x0 : Nat}, x0 + x0 < (2 : Nat) * x0 + (1 : Nat) := by intros; lia
theorem om32 : ∀ {x0 : Nat}, x0 ≤ (2 : Nat) * x0 + (1 : Nat) := by intros; lia
theorem om33 : ∀ {x0 : Nat}, (0 : Nat) < x0 → (x0 + (1 : Nat)) * (2 : Nat) ^ (0 : Nat) - (1 : Nat) ≠ (0 : Nat) := by intros; lia
theorem om34 : ∀ {x0 x1 : Nat}, x1 + (1 : Nat) ≤ x0 → x1 ≤ x0 := by intros; subst_vars; solve_by_elim (maxDepth := 4) [Nat.lt_of_lt_of_le, Nat.lt_of_le_of_lt, Nat.lt_trans, Nat.le_trans, Nat.le_of_lt, Nat.lt_succ_of_lt, Nat.le_succ_of_le, Nat.lt_succ_of_le, Nat.succ_le_of_lt, Nat.lt_of_succ_le, Nat.le_of_succ_le, Nat.le_refl, Nat.succ_pos, Nat.zero_le]
theorem om35 : ∀ {x0 x1 : Nat}, x1 < x0 → x1 < x0 + (1 : Nat) := by intros; subst_vars; solve_by_elim (maxDepth := 4) [Nat.lt_of_lt_of_le, Nat.lt_of_le_of_lt, Nat.lt_trans, Nat.le_trans, Nat.le_of_lt, Nat.lt_succ_of_lt, Nat.le_succ_of_le, Nat.lt_succ_of_le, Nat.succ_le_of_lt, Nat.lt_of_succ_le, Nat.le_of_succ_le, Nat.le_refl, Nat.succ_pos, Nat.zero_le]
theorem om36 : ∀ {x0 : Nat}, (0 : Nat) < x0 + (1 : Nat) := by intros; subst_vars; solve_by_elim (maxDepth := 4) [Nat.lt_of_lt_of_le, Nat.lt_of_le_of_lt, Nat.lt_trans, Nat.le_trans, Nat.le_of_lt, Nat.lt_succ_of_lt, Nat.le_succ_of_le, Nat.lt_succ_of_le, Nat.succ_le_of_lt, Nat.lt_of_succ_le, Nat.le_of_succ_le, Nat.le_refl, Nat.succ_pos, Nat.zero_le]
theorem om37 : ∀ {x0 x1 : Nat}, (0 : Nat) < (x0 + (1 : Nat)) * x1 → (x0 + (1 : Nat)) * x1 * (2 : Nat) - (1 : Nat) = (2 : Nat) * ((x0 + (1 : Nat)) * x1 - (1 : Nat)) + (1 : Nat) := by intros; lia
theorem om38 : ∀ {x0 x1 : Nat}, (0 : Nat) < x0 → x0 + (1 : Nat) ≤ (x0 + (1 : Nat)) * x1 → (0 : Nat) < (x0 + (1 : Nat)) * x1 - (1 : Nat) := by intros; omega
theorem om39 : ∀ {x0 x1 : Nat}, x1 + (1 : Nat) ≤ x0 → x1 < x0 := by intros; subst_vars; solve_by_elim (maxDepth := 4) [Nat.lt_of_lt_of_le, Nat.lt_of_le_of_lt, Nat.lt_trans, Nat.le_trans, Nat.le_of_lt, Nat.lt_succ_of_lt, Nat.le_succ_of_le, Nat.lt_succ_of_le, Nat.succ_le_of_lt, Nat.lt_of_succ_le, Nat.le_of_succ_le, Nat.le_refl, Nat.succ_pos, Nat.zero_le]
theorem om40 : ∀ {x0 : Nat}, x0 < x0 + (1 : Nat) := by intros; subst_vars; solve_by_elim (maxDepth := 4) [Nat.lt_of_lt_of_le, Nat.lt_of_le_of_lt, Nat.lt_trans, Nat.le_trans, Nat.le_of_lt, Nat.lt_succ_of_lt, Nat.le_succ_of_le, Nat.lt_succ_of_le, Nat.succ_le_of_lt, Nat.lt_of_succ_le, Nat.le_of_succ_le, Nat.le_refl, Nat.succ_pos, Nat.zero_le]
theorem om41 : ∀ {x0 x1 : Nat}, (x0 + (1 : Nat)) * x1 - (1 : Nat) ≤ (2 : Nat) * ((x0 + (1 : Nat)) * x1 - (1 : Nat)) + (1 : Nat) := by intros; lia
theorem om42 : ∀ {x0 x1 x2 : Nat}, x1 = x2 → x0 < x1 → x0 < x2 := by intros; simp_all
theorem om43 : ∀ {x0 x1 : Nat}, x0 ≥ x1 → ¬x0 < x1 := by intros; simp_all
theorem om44 : ∀ {x0 x1 x2 : Nat}, x1 < x0 → x2 = x0 → x1 < x2 := by intros; subst_vars; omega
theorem om45 : ∀ {x0 : Nat}, (0 : Nat) < x0 → x0 + (x0 + (2 : Nat) * x0) < (5 : Nat) * x0 := by intros; lia
theorem om46 : ∀ {x0 : Nat}, (2 : Nat) * x0 ≤ (5 : Nat) * x0 := by intros; lia
theorem om47 : ∀ {x0 : Nat}, x0 ≤ (5 : Nat) * x0 := by intros; lia
theorem om48 : ∀ {x0 x1 x2 : Nat}, x1 ≤ x0 → x0 < x1 + (x2 - x1) → x0 < x2 := by intros; omega
theorem om49 : ∀ {x0 x1 x2 : Nat}, x1 < x2 → x1 < x0 + (x2 - x0) := by first | exact fun h => Nat.lt_of_lt_of_le h (Nat.sub_le_iff_le_add'.mp (Nat.le_refl _)) | (intros; omega)
theorem om50 : ∀ {x0 x1 x2 : Nat}, x2 = x1 → x0 < x1 → x0 < x2 := by intros; subst_vars; omega
theorem om51 : ∀ {x0 x1 : Nat}, x0 * x1 ≤ (5 : Nat) * (x0 * x1) := by intros; lia
theorem om52 : ∀ {x0 x1 : Nat}, x1 ≤ x0 → x1 ≤ x0 + (1 : Nat) := by intros; subst_vars; solve_by_elim (maxDepth := 4) [Nat.lt_of_lt_of_le, Nat.lt_of_le_of_lt, Nat.lt_trans, Nat.le_trans, Nat.le_of_lt, Nat.lt_succ_of_lt, Nat.le_succ_of_le, Nat.lt_succ_of_le, Nat.succ_le_of_lt, Nat.lt_of_succ_le, Nat.le_of_succ_le, Nat.le_refl, Nat.succ_pos, Nat.zero_le]
theorem om53 : ∀ {x0 x1 x2 : Nat}, x2 ≤ x1 → x1 < x0 → x2 < x0 := by intros; subst_vars; solve_by_elim (maxDepth := 4) [Nat.lt_of_lt_of_le, Nat.lt_of_le_of_lt, Nat.lt_trans, Nat.le_trans, Nat.le_of_lt, Nat.lt_succ_of_lt, Nat.le_succ_of_le, Nat.lt_succ_of_le, Nat.succ_le_of_lt, Nat.lt_of_succ_le, Nat.le_of_succ_le, Nat.le_refl, Nat.succ_pos, Nat.zero_le]
theorem om54 : ∀ {x0 x1 x2 x3 x4 : Nat}, x1 * x2 ≤ x0 → x1 * x4 ≤ x1 * x2 → x1 * x4 = (5 : Nat) * (x1 * x3) → (5 : Nat) * (x1 * x3) ≤ x0 := by first | exact fun h1 h2 h3 => Nat.le_trans (Nat.le_of_eq h3.symm) (Nat.le_trans h2 h1) | (intros; lia)
theorem om55 : ∀ {x0 x1 x2 : Nat}, x2 ≤ x1 → x1 < x0 → x2 + (1 : Nat) ≤ x0 := by intros; subst_vars; solve_by_elim (maxDepth := 4) [Nat.lt_of_lt_of_le, Nat.lt_of_le_of_lt, Nat.lt_trans, Nat.le_trans, Nat.le_of_lt, Nat.lt_succ_of_lt, Nat.le_succ_of_le, Nat.lt_succ_of_le, Nat.succ_le_of_lt, Nat.lt_of_succ_le, Nat.le_of_succ_le, Nat.le_refl, Nat.succ_pos, Nat.zero_le]
theorem om56 : ∀ {x0 x1 x2 : Nat}, (0 : Nat) < x1 → (0 : Nat) = x1 → x2 = x0 := by intros; simp_all
theorem om57 : ∀ {x0 x1 : Nat}, x0 + (1 : Nat) ≤ x1 → x0 ≤ x1 := by intros; subst_vars; solve_by_elim (maxDepth := 4) [Nat.lt_of_lt_of_le, Nat.lt_of_le_of_lt, Nat.lt_trans, Nat.le_trans, Nat.le_of_lt, Nat.lt_succ_of_lt, Nat.le_succ_of_le, Nat.lt_succ_of_le, Nat.succ_le_of_lt, Nat.lt_of_succ_le, Nat.le_of_succ_le, Nat.le_refl, Nat.succ_pos, Nat.zero_le]
theorem om58 : ∀ {x0 x1 : Nat}, x0 + (1 : Nat) ≤ x1 → x0 < x1 := by intros; subst_vars; solve_by_elim (maxDepth := 4) [Nat.lt_of_lt_of_le, Nat.lt_of_le_of_lt, Nat.lt_trans, Nat.le_trans, Nat.le_of_lt, Nat.lt_succ_of_lt, Nat.le_succ_of_le, Nat.lt_succ_of_le, Nat.succ_le_of_lt, Nat.lt_of_succ_le, Nat.le_of_succ_le, Nat.le_refl, Nat.succ_pos, Nat.zero_le]
theorem om59 : ∀ {x0 x1 x2 : Nat}, x1 + x0 + x0 * x2 ≤ x1 + (x0 * x2 + x0) := by intros; lia
theorem om60 : ∀ {x0 : Nat}, (0 : Nat) < x0 → (0 : Int) < (↑x0 : Int) := by intros; simp_all
theorem om61 : ∀ {x0 : Nat}, (0 : Nat) < x0 → x0 ≠ (0 : Nat) := by intros; subst_vars; exact Nat.ne_of_gt (by assumption)
theorem om62 : ∀ {x0 x1 x2 : Nat}, (1 : Nat) + x1 * x2 + x0 ≤ x1 + ((1 : Nat) + x1 * x2) + x0 + (0 : Nat) + (1 : Nat) := by intros; lia
theorem om63 : ∀ {x0 x1 x2 x3 : Nat}, x1 + ((1 : Nat) + x1 * x3) + x2 + x0 + (1 : Nat) < x1 + ((1 : Nat) + x1 * x3) + x2 + (x0 + (1 : Nat)) + (1 : Nat) := by intros; subst_vars; solve_by_elim (maxDepth := 4) [Nat.lt_of_lt_of_le, Nat.lt_of_le_of_lt, Nat.lt_trans, Nat.le_trans, Nat.le_of_lt, Nat.lt_succ_of_lt, Nat.le_succ_of_le, Nat.lt_succ_of_le, Nat.succ_le_of_lt, Nat.lt_of_succ_le, Nat.le_of_succ_le, Nat.le_refl, Nat.succ_pos, Nat.zero_le]
theorem om64 : ∀ {x0 x1 x2 x3 : Nat}, x1 + ((1 : Nat) + x1 * x3) + x2 < x1 + ((1 : Nat) + x1 * x3) + x2 + (x0 + (1 : Nat)) + (1 : Nat) := by intros; lia
theorem om65 : ∀ {x0 x1 : Nat}, x0 ≤ x0 + x1 := by intros; simp_all
theorem om66 : ∀ {x0 x1 : Nat}, x0 + x1 < x0 + (x1 + (1 : Nat)) := by intros; subst_vars; solve_by_elim (maxDepth := 4) [Nat.lt_of_lt_of_le, Nat.lt_of_le_of_lt, Nat.lt_trans, Nat.le_trans, Nat.le_of_lt, Nat.lt_succ_of_lt, Nat.le_succ_of_le, Nat.lt_succ_of_le, Nat.succ_le_of_lt, Nat.lt_of_succ_le, Nat.le_of_succ_le, Nat.le_refl, Nat.succ_pos, Nat.zero_le]
theorem om67 : ∀ {x0 : Nat}, (1 : Nat) < x0 → x0 ≠ (0 : Nat) := by first | exact fun h => Nat.ne_of_gt (Nat.lt_trans Nat.zero_lt_one h) | (intros; lia)
theorem om68 : ∀ {x0 : Nat}, (1 : Nat) < x0 → (0 : Nat) < x0 := by intros; subst_vars; solve_by_elim (maxDepth := 4) [Nat.lt_of_lt_of_le, Nat.lt_of_le_of_lt, Nat.lt_trans, Nat.le_trans, Nat.le_of_lt, Nat.lt_succ_of_lt, Nat.le_succ_of_le, Nat.lt_succ_of_le, Nat.succ_le_of_lt, Nat.lt_of_succ_le, Nat.le_of_succ_le, Nat.le_refl, Nat.succ_pos, Nat.zero_le]
theorem om69 : ∀ {x0 : Nat}, (0 : Nat) < x0 → (1 : Nat) * (1 : Nat) ≤ x0 * (1 : Nat) := by intros; lia
theorem om70 : ∀ {x0 : Nat}, (1 : Nat) * (1 : Nat) ≤ x0 * (1 : Nat) → (1 : Nat) ≤ x0 := by intros; simp_all
theorem om71 : ∀ {x0 x1 : Nat}, (1 : Nat) < x0 → x0 * (1 : Nat) ≤ x0 * x1 → (1 : Nat) < x0 * x1 := by first | exact fun {x0 x1} h1 h2 => Nat.lt_of_lt_of_le h1 (Nat.le_trans (Nat.le_of_eq (Nat.mul_one x0).symm) h2) | (intros; lia)
theorem om72 : ∀ {x0 : Nat}, (0 : Nat) < x0 → (1 : Nat) ≤ x0 := by intros; subst_vars; solve_by_elim (maxDepth := 4) [Nat.lt_of_lt_of_le, Nat.lt_of_le_of_lt, Nat.lt_trans, Nat.le_trans, Nat.le_of_lt, Nat.lt_succ_of_lt, Nat.le_succ_of_le, Nat.lt_succ_of_le, Nat.succ_le_of_lt, Nat.lt_of_succ_le, Nat.le_of_succ_le, Nat.le_refl, Nat.succ_pos, Nat.zero_le]
theorem om73 : ∀ {x0 x1 : Nat}, (x0 + (1 : Nat)) * x1 - (1 : Nat) ≤ (x0 + (1 : Nat)) * x1 := by intros; simp_all
theorem om74 : ∀ {x0 x1 x2 : Nat}, x1 = x2 → x0 ≥ x1 → x2 ≤ x0 := by intros; subst_vars; omega
theorem om75 : ∀ {x0 x1 : Nat}, ¬(x0 < x1 ∧ x0 ≠ x0) := by intros; simp_all
theorem om76 : ∀ {x0 x1 : Nat}, x1 < x0 + (1 : Nat) → x1 ≥ x0 → x1 = x0 := by intros; subst_vars; exact Nat.le_antisymm (Nat.le_of_lt_succ (by assumption)) (by assumption)
theorem om77 : ∀ {x0 x1 x2 : Nat}, x2 ≤ x1 → x0 < x2 → ¬x1 = x0 := by first | exact fun h1 h2 q => Nat.lt_irrefl _ (Nat.lt_of_lt_of_le h2 (Nat.le_trans h1 (Nat.le_of_eq q))) | (intros; lia)
theorem om78 : ∀ {x0 x1 : Nat}, x0 < x1 → ¬x1 = x0 := by intros; subst_vars; exact Nat.ne_of_gt (by assumption)
theorem om79 : ∀ {x0 x1 x2 x3 : Nat}, x3 ≤ x1 → x2 < x3 → x0 = x1 → ¬x0 = x2 := by first | exact fun h1 h2 e q => Nat.lt_irrefl _ (Nat.lt_of_lt_of_le h2 (Nat.le_trans h1 (Nat.le_of_eq (e.symm.trans q)))) | (intros; lia)
theorem om80 : ∀ {x0 x1 : Nat}, x0 < x1 + (1 : Nat) → ¬x0 < x1 → x0 = x1 := by first | exact fun h1 h2 => Nat.le_antisymm (Nat.le_of_lt_succ h1) (Nat.le_of_not_lt h2) | (intros; lia)
theorem om81 : ∀ {x0 x1 : Nat}, x1 + (1 : Nat) ≤ x0 → x0 ≠ x1 := by intros; subst_vars; exact Nat.ne_of_gt (by assumption)
theorem om82 : ∀ {x0 x1 : Nat}, x1 < x0 + (1 : Nat) → ¬x1 = x0 → x1 < x0 := by first | exact fun h1 h2 => Nat.lt_of_le_of_ne (Nat.le_of_lt_succ h1) h2 | (intros; lia)
theorem om83 : ∀ {x0 x1 x2 : Nat}, x2 < x1 → x0 < x2 → x0 < x1 := by intros; subst_vars; solve_by_elim (maxDepth := 4) [Nat.lt_of_lt_of_le, Nat.lt_of_le_of_lt, Nat.lt_trans, Nat.le_trans, Nat.le_of_lt, Nat.lt_succ_of_lt, Nat.le_succ_of_le, Nat.lt_succ_of_le, Nat.succ_le_of_lt, Nat.lt_of_succ_le, Nat.le_of_succ_le, Nat.le_refl, Nat.succ_pos, Nat.zero_le]
theorem om84 : ∀ {x0 x1 : Nat}, x0 < x1 → x0 ≠ x1 := by first | exact fun h => Nat.ne_of_lt h | (intros; lia)
theorem om85 : ∀ {x0 x1 x2 : Nat}, x1 < x2 → x2 < x0 → x1 < x0 := by intros; subst_vars; solve_by_elim (maxDepth := 4) [Nat.lt_of_lt_of_le, Nat.lt_of_le_of_lt, Nat.lt_trans, Nat.le_trans, Nat.le_of_lt, Nat.lt_succ_of_lt, Nat.le_succ_of_le, Nat.lt_succ_of_le, Nat.succ_le_of_lt, Nat.lt_of_succ_le, Nat.le_of_succ_le, Nat.le_refl, Nat.succ_pos, Nat.zero_le]
theorem om86 : ∀ {x0 x1 x2 : Nat}, x2 ≤ x1 → x0 < x2 → ¬x0 = x1 := by first | exact fun h1 h2 q => Nat.lt_irrefl _ (Nat.lt_of_lt_of_le h2 (Nat.le_trans h1 (Nat.le_of_eq q.symm))) | (intros; lia)
theorem om87 : ∀ {x0 x1 : Nat}, x0 < x1 → ¬x0 = x1 := by first | exact fun h => Nat.ne_of_lt h | (intros; lia)
theorem om88 : ∀ {x0 x1 : Nat}, x1 < x0 → x1 ≠ x0 := by first | exact fun h => Nat.ne_of_lt h | (intros; lia)
theorem om89 : ∀ {x0 x1 x2 : Nat}, x1 < x2 → x2 ≤ x0 → x1 < x0 := by intros; subst_vars; solve_by_elim (maxDepth := 4) [Nat.lt_of_lt_of_le, Nat.lt_of_le_of_lt, Nat.lt_trans, Nat.le_trans, Nat.le_of_lt, Nat.lt_succ_of_lt, Nat.le_succ_of_le, Nat.lt_succ_of_le, Nat.succ_le_of_lt, Nat.lt_of_succ_le, Nat.le_of_succ_le, Nat.le_refl, Nat.succ_pos, Nat.zero_le]
theorem om90 : ∀ {x0 x1 x2 x3 : Nat}, x0 = x1 + x3 → x2 = x3 → x1 + x2 = x0 := by intros; subst_vars; solve_by_elim (maxDepth := 4) [Nat.lt_of_lt_of_le, Nat.lt_of_le_of_lt, Nat.lt_trans, Nat.le_trans, Nat.le_of_lt, Nat.lt_succ_of_lt, Nat.le_succ_of_le, Nat.lt_succ_of_le, Nat.succ_le_of_lt, Nat.lt_of_succ_le, Nat.le_of_succ_le, Nat.le_refl, Nat.succ_pos, Nat.zero_le]
theorem om91 : ∀ {x0 : Nat}, ¬x0 < (0 : Nat) := by decide
theorem om92 : ∀ {x0 : Nat}, ¬x0 < x0 := by intros; subst_vars; exact Nat.lt_irrefl _
theorem om93 : ∀ {x0 x1 : Nat}, ¬x1 = x0 → ¬x0 < x1 → ¬x0 < x1 + (1 : Nat) := by first | exact fun h1 h2 h3 => h1 (Nat.le_antisymm (Nat.le_of_not_lt h2) (Nat.le_of_lt_succ h3)) | (intros; lia)
theorem om94 : ∀ {x0 x1 : Nat}, ¬x0 < x1 → x1 ≤ x0 := by intros; simp_all
theorem om95 : ∀ {x0 x1 x2 : Nat}, x1 + (1 : Nat) ≤ x2 → x0 < x1 → x0 < x2 := by intros; subst_vars; solve_by_elim (maxDepth := 4) [Nat.lt_of_lt_of_le, Nat.lt_of_le_of_lt, Nat.lt_trans, Nat.le_trans, Nat.le_of_lt, Nat.lt_succ_of_lt, Nat.le_succ_of_le, Nat.lt_succ_of_le, Nat.succ_le_of_lt, Nat.lt_of_succ_le, Nat.le_of_succ_le, Nat.le_refl, Nat.succ_pos, Nat.zero_le]
theorem om96 : ∀ {x0 x1 : Nat}, ¬x1 = x0 → ¬x1 < x0 → ¬x1 < x0 + (1 : Nat) := by first | exact fun h1 h2 h3 => h1 (Nat.le_antisymm (Nat.le_of_lt_succ h3) (Nat.le_of_not_lt h2)) | (intros; lia)
theorem om97 : ∀ {x0 x1 x2 : Nat}, x1 < x0 → ¬(x1 = x0 ∧ x0 < x2) := by first | exact fun h q => Nat.ne_of_lt h q.1 | (intros; lia)
theorem om98 : ∀ {x0 x1 : Nat}, x1 < x0 → x0 ≠ x1 := by intros; subst_vars; exact Nat.ne_of_gt (by assumption)
theorem om99 : ∀ {x0 x1 x2 : Nat}, x1 < x2 → x2 < x0 → x1 < x2 ∧ x2 < x1 + (1 : Nat) + (x0 - (x1 + (1 : Nat))) := by first | exact fun h1 h2 => ⟨h1, Nat.lt_of_lt_of_eq h2 (Nat.add_sub_cancel' (Nat.lt_trans h1 h2)).symm⟩ | (intros; omega)
theorem om100 : (0 : Nat) < (1 : Nat) := by intros; subst_vars; solve_by_elim (maxDepth := 4) [Nat.lt_of_lt_of_le, Nat.lt_of_le_of_lt, Nat.lt_trans, Nat.le_trans, Nat.le_of_lt, Nat.lt_succ_of_lt, Nat.le_succ_of_le, Nat.lt_succ_of_le, Nat.succ_le_of_lt, Nat.lt_of_succ_le, Nat.le_of_succ_le, Nat.le_refl, Nat.succ_pos, Nat.zero_le]
theorem om101 : ∀ {x0 x1 : Nat}, x1 < x0 → (1 : Nat) < x1 → (1 : Nat) < x0 := by intros; subst_vars; solve_by_elim (maxDepth := 4) [Nat.lt_of_lt_of_le, Nat.lt_of_le_of_lt, Nat.lt_trans, Nat.le_trans, Nat.le_of_lt, Nat.lt_succ_of_lt, Nat.le_succ_of_le, Nat.lt_succ_of_le, Nat.succ_le_of_lt, Nat.lt_of_succ_le, Nat.le_of_succ_le, Nat.le_refl, Nat.succ_pos, Nat.zero_le]
theorem om102 : ∀ {x0 x1 : Nat}, x1 ≤ (4 : Nat) → x0 < x1 → (2 : Nat) < x0 → x0 = (3 : Nat) := by intros; lia
theorem om103 : (0 : Nat) < (2 : Nat) := by intros; subst_vars; solve_by_elim (maxDepth := 4) [Nat.lt_of_lt_of_le, Nat.lt_of_le_of_lt, Nat.lt_trans, Nat.le_trans, Nat.le_of_lt, Nat.lt_succ_of_lt, Nat.le_succ_of_le, Nat.lt_succ_of_le, Nat.succ_le_of_lt, Nat.lt_of_succ_le, Nat.le_of_succ_le, Nat.le_refl, Nat.succ_pos, Nat.zero_le]
theorem om104 : ∀ {x0 x1 : Nat}, (1 : Nat) < x1 → x1 < x0 → (1 : Nat) < x0 := by intros; subst_vars; solve_by_elim (maxDepth := 4) [Nat.lt_of_lt_of_le, Nat.lt_of_le_of_lt, Nat.lt_trans, Nat.le_trans, Nat.le_of_lt, Nat.lt_succ_of_lt, Nat.le_succ_of_le, Nat.lt_succ_of_le, Nat.succ_le_of_lt, Nat.lt_of_succ_le, Nat.le_of_succ_le, Nat.le_refl, Nat.succ_pos, Nat.zero_le]
theorem om105 : ∀ {x0 : Int}, (0 : Int) < x0 → x0 ≠ (0 : Int) := by first | exact fun h => Int.ne_of_gt h | (intros; lia)
theorem om106 : ∀ {x0 : Nat}, (3 : Nat) < x0 → (1 : Nat) < x0 := by intros; subst_vars; solve_by_elim (maxDepth := 4) [Nat.lt_of_lt_of_le, Nat.lt_of_le_of_lt, Nat.lt_trans, Nat.le_trans, Nat.le_of_lt, Nat.lt_succ_of_lt, Nat.le_succ_of_le, Nat.lt_succ_of_le, Nat.succ_le_of_lt, Nat.lt_of_succ_le, Nat.le_of_succ_le, Nat.le_refl, Nat.succ_pos, Nat.zero_le]
theorem om107 : (1 : Nat) < (3 : Nat) := by intros; subst_vars; solve_by_elim (maxDepth := 4) [Nat.lt_of_lt_of_le, Nat.lt_of_le_of_lt, Nat.lt_trans, Nat.le_trans, Nat.le_of_lt, Nat.lt_succ_of_lt, Nat.le_succ_of_le, Nat.lt_succ_of_le, Nat.succ_le_of_lt, Nat.lt_of_succ_le, Nat.le_of_succ_le, Nat.le_refl, Nat.succ_pos, Nat.zero_le]
theorem om108 : (1 : Nat) < (2 : Nat) := by intros; subst_vars; solve_by_elim (maxDepth := 4) [Nat.lt_of_lt_of_le, Nat.lt_of_le_of_lt, Nat.lt_trans, Nat.le_trans, Nat.le_of_lt, Nat.lt_succ_of_lt, Nat.le_succ_of_le, Nat.lt_succ_of_le, Nat.succ_le_of_lt, Nat.lt_of_succ_le, Nat.le_of_succ_le, Nat.le_refl, Nat.succ_pos, Nat.zero_le]
theorem om109 : ∀ {x0 : Nat}, (3 : Nat) < x0 → (2 : Nat) < x0 := by intros; subst_vars; solve_by_elim (maxDepth := 4) [Nat.lt_of_lt_of_le, Nat.lt_of_le_of_lt, Nat.lt_trans, Nat.le_trans, Nat.le_of_lt, Nat.lt_succ_of_lt, Nat.le_succ_of_le, Nat.lt_succ_of_le, Nat.succ_le_of_lt, Nat.lt_of_succ_le, Nat.le_of_succ_le, Nat.le_refl, Nat.succ_pos, Nat.zero_le]
theorem om110 : ∀ {x0 x1 x2 : Nat}, x1 + (1 : Nat) ≤ x2 → x2 < x0 → x1 < x0 := by intros; subst_vars; solve_by_elim (maxDepth := 4) [Nat.lt_of_lt_of_le, Nat.lt_of_le_of_lt, Nat.lt_trans, Nat.le_trans, Nat.le_of_lt, Nat.lt_succ_of_lt, Nat.le_succ_of_le, Nat.lt_succ_of_le, Nat.succ_le_of_lt, Nat.lt_of_succ_le, Nat.le_of_succ_le, Nat.le_refl, Nat.succ_pos, Nat.zero_le]
theorem om111 : ∀ {x0 x1 : Nat}, x1 < x0 → x1 ≤ x0 := by intros; subst_vars; solve_by_elim (maxDepth := 4) [Nat.lt_of_lt_of_le, Nat.lt_of_le_of_lt, Nat.lt_trans, Nat.le_trans, Nat.le_of_lt, Nat.lt_succ_of_lt, Nat.le_succ_of_le, Nat.lt_succ_of_le, Nat.succ_le_of_lt, Nat.lt_of_succ_le, Nat.le_of_succ_le, Nat.le_refl, Nat.succ_pos, Nat.zero_le]
theorem om112 : ∀ {x0 : Int}, (0 : Int) ≤ x0 → x0 ≠ (0 : Int) → (0 : Int) < x0 := by first | exact fun h1 h2 => Int.lt_iff_le_and_ne.mpr ⟨h1, Ne.symm h2⟩ | (intros; lia)
theorem om113 : ∀ {x0 x1 x2 : Nat}, x0 < x1 + (1 : Nat) → x2 = x1 + (1 : Nat) → x0 < x2 := by intros; subst_vars; omega
theorem om114 : ∀ {x0 : Nat}, (0 : Nat) < x0 → (↑x0 : Int) ≠ (0 : Int) := by intros; lia
theorem om115 : ∀ {x0 x1 : Nat}, x1 = (4 : Nat) → x0 < (4 : Nat) → x0 < x1 := by intros; subst_vars; omega
theorem om116 : ∀ {x0 x1 x2 : Nat}, x1 = x2 → x0 + (1 : Nat) ≤ x2 → x0 < x1 := by intros; subst_vars; solve_by_elim (maxDepth := 4) [Nat.lt_of_lt_of_le, Nat.lt_of_le_of_lt, Nat.lt_trans, Nat.le_trans, Nat.le_of_lt, Nat.lt_succ_of_lt, Nat.le_succ_of_le, Nat.lt_succ_of_le, Nat.succ_le_of_lt, Nat.lt_of_succ_le, Nat.le_of_succ_le, Nat.le_refl, Nat.succ_pos, Nat.zero_le]
theorem om117 : ∀ {x0 x1 x2 : Nat}, x1 < x2 → x0 < x1 → x0 < x2 := by intros; subst_vars; solve_by_elim (maxDepth := 4) [Nat.lt_of_lt_of_le, Nat.lt_of_le_of_lt, Nat.lt_trans, Nat.le_trans, Nat.le_of_lt, Nat.lt_succ_of_lt, Nat.le_succ_of_le, Nat.lt_succ_of_le, Nat.succ_le_of_lt, Nat.lt_of_succ_le, Nat.le_of_succ_le, Nat.le_refl, Nat.succ_pos, Nat.zero_le]
theorem om118 : ∀ {x0 x1 : Nat}, x1 ≠ x0 → x1 ≥ x0 → x0 < x1 := by first | exact fun h1 h2 => Nat.lt_of_le_of_ne h2 (Ne.symm h1) | (intros; lia)
theorem om119 : ∀ {x0 x1 : Nat}, x1 < x0 + (1 : Nat) → x1 ≠ x0 → x1 < x0 := by first | exact fun h1 h2 => Nat.lt_of_le_of_ne (Nat.le_of_lt_succ h1) h2 | (intros; lia)
theorem om120 : ∀ {x0 x1 : Nat}, x1 = x0 → x1 ≤ x0 := by intros; subst_vars; solve_by_elim (maxDepth := 4) [Nat.lt_of_lt_of_le, Nat.lt_of_le_of_lt, Nat.lt_trans, Nat.le_trans, Nat.le_of_lt, Nat.lt_succ_of_lt, Nat.le_succ_of_le, Nat.lt_succ_of_le, Nat.succ_le_of_lt, Nat.lt_of_succ_le, Nat.le_of_succ_le, Nat.le_refl, Nat.succ_pos, Nat.zero_le]
theorem om121 : ∀ {x0 : Nat}, x0 ≤ (3 : Nat) → x0 ≤ (4 : Nat) := by intros; subst_vars; solve_by_elim (maxDepth := 4) [Nat.lt_of_lt_of_le, Nat.lt_of_le_of_lt, Nat.lt_trans, Nat.le_trans, Nat.le_of_lt, Nat.lt_succ_of_lt, Nat.le_succ_of_le, Nat.lt_succ_of_le, Nat.succ_le_of_lt, Nat.lt_of_succ_le, Nat.le_of_succ_le, Nat.le_refl, Nat.succ_pos, Nat.zero_le]
theorem om122 : ∀ {x0 : Nat}, x0 ≤ (3 : Nat) → x0 + (1 : Nat) ≤ (4 : Nat) := by intros; subst_vars; solve_by_elim (maxDepth := 4) [Nat.lt_of_lt_of_le, Nat.lt_of_le_of_lt, Nat.lt_trans, Nat.le_trans, Nat.le_of_lt, Nat.lt_succ_of_lt, Nat.le_succ_of_le, Nat.lt_succ_of_le, Nat.succ_le_of_lt, Nat.lt_of_succ_le, Nat.le_of_succ_le, Nat.le_refl, Nat.succ_pos, Nat.zero_le]
theorem om123 : ∀ {x0 x1 x2 : Nat}, x1 ≤ x2 → x0 < x1 → x0 < x2 := by intros; subst_vars; solve_by_elim (maxDepth := 4) [Nat.lt_of_lt_of_le, Nat.lt_of_le_of_lt, Nat.lt_trans, Nat.le_trans, Nat.le_of_lt, Nat.lt_succ_of_lt, Nat.le_succ_of_le, Nat.lt_succ_of_le, Nat.succ_le_of_lt, Nat.lt_of_succ_le, Nat.le_of_succ_le, Nat.le_refl, Nat.succ_pos, Nat.zero_le]
theorem om124 : ∀ {x0 x1 : Nat}, x1 < x0 → x1 + (1 : Nat) ≤ x0 := by intros; subst_vars; solve_by_elim (maxDepth := 4) [Nat.lt_of_lt_of_le, Nat.lt_of_le_of_lt, Nat.lt_trans, Nat.le_trans, Nat.le_of_lt, Nat.lt_succ_of_lt, Nat.le_succ_of_le, Nat.lt_succ_of_le, Nat.succ_le_of_lt, Nat.lt_of_succ_le, Nat.le_of_succ_le, Nat.le_refl, Nat.succ_pos, Nat.zero_le]
theorem om125 : ∀ {x0 x1 : Nat}, x1 < x0 → x0 ≤ (3 : Nat) → x1 + (1 : Nat) ≤ (4 : Nat) := by intros; subst_vars; exact Nat.lt_trans (by assumption) (Nat.lt_of_le_of_lt (by assumption) (by decide))
theorem om126 : ∀ {x0 : Int}, (0 : Int) ≤ x0 → (↑(Int.natAbs x0) : Int) = x0 := by intros; lia
theorem om127 : ∀ {x0 : Int}, (0 : Int) ≤ x0 → ¬x0 = (0 : Int) → (0 : Int) < x0 := by first | exact fun h1 h2 => Int.lt_iff_le_and_ne.mpr ⟨h1, Ne.symm h2⟩ | (intros; lia)
theorem om128 : ∀ {x0 x1 : Int}, (0 : Int) ≤ x1 → x1 < x0 → Int.toNat x1 < Int.toNat x0 := by intros; lia
theorem om129 : ∀ {x0 : Int}, (0 : Int) ≤ (↑(Int.natAbs x0) : Int) := by intros; subst_vars; exact b0b _
theorem om130 : ∀ {x0 : Int}, (0 : Int) < x0 → ¬x0 = (0 : Int) := by first | exact fun h => Int.ne_of_gt h | (intros; lia)
theorem om131 : ∀ {x0 : Int}, x0 < (0 : Int) → ¬x0 = (0 : Int) := by intros; lia
theorem om132 : ∀ {x0 : Int}, x0 < (0 : Int) → (↑(Int.natAbs x0) : Int) = -x0 := by first | exact fun h => Int.ofNat_natAbs_of_nonpos (Int.le_of_lt h) | (intros; omega)
theorem om133 : ∀ {x0 : Int}, x0 ≠ (0 : Int) → (0 : Nat) < Int.natAbs x0 := by intros; simp_all
theorem om134 : ∀ {x0 : Nat}, (0 : Nat) < x0 → (0 : Int) - (↑x0 : Int) ≠ (0 : Int) := by intros; lia
theorem om135 : ∀ {x0 : Int} {x1 : Nat}, (0 : Nat) < x1 → x1 ≤ Int.natAbs x0 → ¬(0 : Int) < x0 → x0 < (0 : Int) := by intros; lia
theorem om136 : ∀ {x0 : Nat}, x0 ≠ (0 : Nat) → (↑x0 : Int) ≠ (0 : Int) := by intros; simp_all
theorem om137 : ∀ {x0 x1 x2 : Nat}, x1 + x2 < x0 → x2 + x1 < x0 := by first | exact fun h => Nat.lt_of_le_of_lt (Nat.le_of_eq (Nat.add_comm _ _)) h | (intros; lia)
theorem om138 : ∀ {x0 x1 x2 : Nat}, x1 + x2 < x0 → x1 + x2 ≤ x0 := by intros; subst_vars; solve_by_elim (maxDepth := 4) [Nat.lt_of_lt_of_le, Nat.lt_of_le_of_lt, Nat.lt_trans, Nat.le_trans, Nat.le_of_lt, Nat.lt_succ_of_lt, Nat.le_succ_of_le, Nat.lt_succ_of_le, Nat.succ_le_of_lt, Nat.lt_of_succ_le, Nat.le_of_succ_le, Nat.le_refl, Nat.succ_pos, Nat.zero_le]
theorem om139 : ∀ {x0 x1 : Nat}, x1 + x0 ≤ (9000 : Nat) → x1 ≤ (500000 : Nat) := by first | exact fun h => Nat.le_trans (Nat.le_trans (Nat.le_add_right _ _) h) (by decide) | (intros; lia)
theorem om140 : ∀ {x0 x1 : Nat}, x1 + x0 ≤ (9000 : Nat) → x0 ≤ (500000 : Nat) := by first | exact fun h => Nat.le_trans (Nat.le_trans (Nat.le_add_left _ _) h) (by decide) | (intros; lia)
theorem om141 : ∀ {x0 x1 : Nat}, x0 = x1 → x1 ≤ (1000 : Nat) → x0 < (2 : Nat) ^ (62 : Nat) := by intros; subst_vars; exact bn62 (by assumption)
theorem om142 : ∀ {x0 x1 : Nat}, x0 = x1 → x1 ≤ (1000 : Nat) → x0 ≤ (1000 : Nat) := by intros; subst_vars; omega
theorem om143 : ∀ {x0 x1 : Nat}, x1 ≤ (1000 : Nat) → x0 = x1 → x0 ≤ (1000 : Nat) := by intros; subst_vars; omega
theorem om144 : ∀ {x0 x1 : Nat}, x1 ≤ (1000 : Nat) → x0 < x1 → (↑x0 : Int) < (2 : Int) ^ (63 : Nat) := by intros; subst_vars; exact b63 (Nat.le_trans (Nat.le_of_lt (by assumption)) (by assumption))
theorem om145 : ∀ {x0 x1 x2 : Nat}, x0 < x1 → x1 = x2 → x2 ≤ (1000 : Nat) → (↑x0 : Int) < (2 : Int) ^ (63 : Nat) := by intros; subst_vars; exact b63 (Nat.le_trans (Nat.le_of_lt (by assumption)) (by assumption))
theorem om146 : ∀ {x0 x1 x2 : Nat}, x1 + (x2 + x0) ≤ (9000 : Nat) → x2 + x0 ≤ (9000 : Nat) := by first | exact fun h => Nat.le_trans (Nat.le_add_left _ _) h | (intros; lia)
theorem om147 : ∀ {x0 : Nat}, x0 ≤ (100 : Nat) → x0 ≤ (1000 : Nat) := by decide
theorem om148 : ∀ {x0 : Nat}, -(2 : Int) ^ (62 : Nat) ≤ (↑x0 : Int) := by intros; subst_vars; exact b62n _
theorem om149 : ∀ {x0 x1 : Nat}, x1 = x0 → x0 ≤ (100 : Nat) → (↑x1 : Int) < (2 : Int) ^ (62 : Nat) := by intros; subst_vars; exact b62 (Nat.le_trans (by assumption) (by decide))
theorem om150 : ∀ {x0 x1 : Nat}, x1 = x0 → Int.toNat ((↑x1 : Int) - (0 : Int)) = x0 := by intros; subst_vars; exact bt2 _
theorem om151 : ∀ {x0 x1 x2 : Nat}, x1 ≤ (100 : Nat) → x0 < x1 → x2 ≤ x0 → x2 < (2 : Nat) ^ (62 : Nat) := by first | exact fun h1 h2 h3 => bn62 (Nat.le_trans h3 (Nat.le_trans (Nat.le_of_lt h2) (Nat.le_trans h1 (by decide)))) | (intros; lia)
theorem om152 : ∀ {x0 x1 : Nat}, x0 ≤ (100 : Nat) → x1 = x0 → x1 < (2 : Nat) ^ (62 : Nat) := by intros; subst_vars; exact Nat.lt_of_le_of_lt (by assumption) (by decide)
theorem om153 : ∀ {x0 x1 x2 : Nat}, x1 ≤ (100 : Nat) → x0 < x1 → x2 ≤ x0 → (↑x2 : Int) < (2 : Int) ^ (62 : Nat) := by first | exact fun h1 h2 h3 => b62 (Nat.le_trans h3 (Nat.le_trans (Nat.le_of_lt h2) (Nat.le_trans h1 (by decide)))) | (intros; lia)
theorem om154 : ∀ {x0 x1 : Nat}, x0 ≤ (100 : Nat) → x1 = x0 → (↑x1 : Int) < (2 : Int) ^ (62 : Nat) := by intros; subst_vars; exact b62 (Nat.le_trans (by assumption) (by decide))
theorem om155 : ∀ {x0 x1 x2 : Nat}, x0 ≤ (100 : Nat) → x2 = x0 → Int.toNat ((↑x2 : Int) - (↑x1 : Int)) ≤ (1000 : Nat) := by intros; subst_vars; lia
theorem om156 : ∀ {x0 x1 x2 x3 : Nat}, x3 = x1 → x0 < Int.toNat ((↑x3 : Int) - (↑x2 : Int)) → x2 + x0 < x1 := by first | exact fun {x0 x1 x2 x3} e h => Nat.lt_of_lt_of_eq (Nat.add_lt_of_lt_sub' (Nat.lt_of_lt_of_eq h (Int.toNat_sub x3 x2))) e | (intros; subst_vars; omega)
theorem om157 : ∀ {x0 x1 : Nat}, (0 : Int) ≤ (↑x1 : Int) + (↑x0 : Int) := by intros; subst_vars; exact b0b _
theorem om158 : ∀ {x0 x1 x2 : Nat}, x1 ≤ (100 : Nat) → x2 + x0 < x1 → (↑x2 : Int) + (↑x0 : Int) < (2 : Int) ^ (63 : Nat) := by intros; subst_vars; exact b63 (Nat.le_trans (Nat.le_of_lt (by assumption)) (Nat.le_trans (by assumption) (by decide)))
theorem om159 : ∀ {x0 x1 : Nat}, Int.toNat ((↑x1 : Int) + (↑x0 : Int)) = x1 + x0 := by intros; subst_vars; solve_by_elim (maxDepth := 4) [Nat.lt_of_lt_of_le, Nat.lt_of_le_of_lt, Nat.lt_trans, Nat.le_trans, Nat.le_of_lt, Nat.lt_succ_of_lt, Nat.le_succ_of_le, Nat.lt_succ_of_le, Nat.succ_le_of_lt, Nat.lt_of_succ_le, Nat.le_of_succ_le, Nat.le_refl, Nat.succ_pos, Nat.zero_le]
theorem om160 : ∀ {x0 : Nat}, (0 : Int) ≤ (0 : Int) + (↑x0 : Int) := by intros; subst_vars; exact b0 _
theorem om161 : ∀ {x0 x1 : Nat}, x1 ≤ (100 : Nat) → x0 < x1 → (0 : Int) + (↑x0 : Int) < (2 : Int) ^ (63 : Nat) := by intros; subst_vars; exact b630 (Nat.le_trans (Nat.le_of_lt (by assumption)) (Nat.le_trans (by assumption) (by decide)))
theorem om162 : ∀ {x0 : Nat}, Int.toNat ((0 : Int) + (↑x0 : Int)) = x0 := by intros; subst_vars; exact bt _
theorem om163 : ∀ {x0 x1 : Nat}, x1 - x0 = Int.toNat ((↑x1 : Int) - (↑x0 : Int)) := by intros; simp_all
theorem om164 : ∀ {x0 x1 x2 x3 : Nat}, x0 ≤ (100 : Nat) → x2 = x0 → x3 ≤ Int.toNat ((↑x2 : Int) - (↑x1 : Int)) → x3 < (2 : Nat) ^ (62 : Nat) := by intros; subst_vars; omega
theorem om165 : ∀ {x0 x1 : Nat}, x0 ≤ (100 : Nat) → x1 = x0 → x1 ≤ (1000 : Nat) := by intros; subst_vars; exact Nat.le_trans (by assumption) (by decide)
theorem om166 : ∀ {x0 x1 x2 : Nat}, x1 ≤ (100 : Nat) → x0 < x1 → x2 ≤ x0 → (↑x2 : Int) < (2 : Int) ^ (63 : Nat) := by first | exact fun h1 h2 h3 => b63 (Nat.le_trans h3 (Nat.le_trans (Nat.le_of_lt h2) (Nat.le_trans h1 (by decide)))) | (intros; lia)
theorem om167 : ∀ {x0 x1 x2 : Nat}, x0 ≤ (100 : Nat) → x2 = x0 → x1 = x2 → x1 ≤ (1000 : Nat) := by intros; subst_vars; exact Nat.le_trans (by assumption) (by decide)
theorem om168 : ∀ {x0 x1 : Nat}, (5 : Nat) * (x0 * x1) ≤ (9000 : Nat) → x0 * x1 + x0 * x1 ≤ (9000 : Nat) := by intros; lia
theorem om169 : ∀ {x0 x1 x2 : Nat}, x2 = x1 → x0 < Int.toNat ((↑x2 : Int) - (0 : Int)) → x0 < x1 := by intros; subst_vars; solve_by_elim (maxDepth := 4) [Nat.lt_of_lt_of_le, Nat.lt_of_le_of_lt, Nat.lt_trans, Nat.le_trans, Nat.le_of_lt, Nat.lt_succ_of_lt, Nat.le_succ_of_le, Nat.lt_succ_of_le, Nat.succ_le_of_lt, Nat.lt_of_succ_le, Nat.le_of_succ_le, Nat.le_refl, Nat.succ_pos, Nat.zero_le]
theorem om170 : ∀ {x0 x1 : Nat}, (5 : Nat) * (x0 * x1) ≤ (9000 : Nat) → x0 * x1 + (x0 * x1 + (2 : Nat) * (x0 * x1)) ≤ (9000 : Nat) := by intros; lia
theorem om171 : ∀ {x0 x1 x2 : Nat}, x1 ≤ (100 : Nat) → x0 < x1 → x2 ≤ x0 → x2 ≤ (1000 : Nat) := by first | exact fun h1 h2 h3 => Nat.le_trans h3 (Nat.le_trans (Nat.le_of_lt h2) (Nat.le_trans h1 (by decide))) | (intros; lia)
theorem om172 : ∀ {x0 x1 x2 : Nat}, x0 ≤ (100 : Nat) → x1 = x2 → x2 ≤ x0 → x1 < (2 : Nat) ^ (62 : Nat) := by first | exact fun h1 e h2 => Nat.lt_of_le_of_lt (Nat.le_of_eq e) (bn62 (Nat.le_trans h2 (Nat.le_trans h1 (by decide)))) | (intros; subst_vars; lia)
theorem om173 : ∀ {x0 x1 : Nat}, x0 ≤ (100 : Nat) → Int.toNat ((↑x1 : Int) - (0 : Int)) = x0 → x1 ≤ (1000 : Nat) := by intros; subst_vars; exact Nat.le_trans (by assumption) (by decide)
theorem om174 : ∀ {x0 x1 x2 : Nat}, x2 ≤ x1 → x0 < x2 → x0 < x1 := by intros; subst_vars; solve_by_elim (maxDepth := 4) [Nat.lt_of_lt_of_le, Nat.lt_of_le_of_lt, Nat.lt_trans, Nat.le_trans, Nat.le_of_lt, Nat.lt_succ_of_lt, Nat.le_succ_of_le, Nat.lt_succ_of_le, Nat.succ_le_of_lt, Nat.lt_of_succ_le, Nat.le_of_succ_le, Nat.le_refl, Nat.succ_pos, Nat.zero_le]
theorem om175 : ∀ {x0 x1 : Nat}, x1 ≤ (100 : Nat) → x0 < x1 → (↑x0 : Int) < (2 : Int) ^ (63 : Nat) := by intros; subst_vars; exact b63 (Nat.le_trans (Nat.le_of_lt (by assumption)) (Nat.le_trans (by assumption) (by decide)))
theorem om176 : ∀ {x0 x1 : Nat}, x0 ≤ (100 : Nat) → x1 < x0 → (↑x1 : Int) < (2 : Int) ^ (63 : Nat) := by intros; subst_vars; exact b63 (Nat.le_trans (Nat.le_of_lt (by assumption)) (Nat.le_trans (by assumption) (by decide)))
theorem om177 : ∀ {x0 : Nat}, x0 ≤ (99 : Nat) → x0 ≤ (1000 : Nat) := by decide
theorem om178 : ∀ {x0 x1 : Nat}, x0 ≤ (99 : Nat) → x1 = x0 → x1 < (2 : Nat) ^ (62 : Nat) := by intros; subst_vars; exact Nat.lt_of_le_of_lt (by assumption) (by decide)
theorem om179 : ∀ {x0 x1 x2 : Nat}, x2 = x0 → x1 = x0 → (↑x2 : Int) = (↑x1 : Int) := by intros; subst_vars; solve_by_elim (maxDepth := 4) [Nat.lt_of_lt_of_le, Nat.lt_of_le_of_lt, Nat.lt_trans, Nat.le_trans, Nat.le_of_lt, Nat.lt_succ_of_lt, Nat.le_succ_of_le, Nat.lt_succ_of_le, Nat.succ_le_of_lt, Nat.lt_of_succ_le, Nat.le_of_succ_le, Nat.le_refl, Nat.succ_pos, Nat.zero_le]
theorem om180 : ∀ {x0 x1 : Nat}, x0 ≤ (99 : Nat) → x1 = x0 → x1 ≤ (1000 : Nat) := by intros; subst_vars; exact Nat.le_trans (by assumption) (by decide)
theorem om181 : ∀ {x0 x1 x2 : Nat}, x0 ≤ (99 : Nat) → x2 = x1 → x1 = x0 → x2 ≤ (1000 : Nat) := by intros; subst_vars; exact Nat.le_trans (by assumption) (by decide)
theorem om182 : ∀ {x0 x1 x2 x3 : Nat}, x2 = x1 → x3 = x1 → x0 < x3 → x0 < x2 := by intros; subst_vars; omega
theorem om183 : ∀ {x0 x1 x2 : Nat}, x1 ≤ (99 : Nat) → x2 = x1 → x0 < x2 → (↑x0 : Int) < (2 : Int) ^ (63 : Nat) := by intros; subst_vars; exact b63 (Nat.le_trans (Nat.le_of_lt (by assumption)) (Nat.le_trans (by assumption) (by decide)))
theorem om184 : ∀ {x0 : Nat}, x0 ≤ (99 : Nat) → x0 ≤ (100 : Nat) := by intros; subst_vars; solve_by_elim (maxDepth := 4) [Nat.lt_of_lt_of_le, Nat.lt_of_le_of_lt, Nat.lt_trans, Nat.le_trans, Nat.le_of_lt, Nat.lt_succ_of_lt, Nat.le_succ_of_le, Nat.lt_succ_of_le, Nat.succ_le_of_lt, Nat.lt_of_succ_le, Nat.le_of_succ_le, Nat.le_refl, Nat.succ_pos, Nat.zero_le]
theorem om185 : ∀ {x0 : Nat}, x0 ≤ (99 : Nat) → x0 + (1 : Nat) ≤ (100 : Nat) := by intros; subst_vars; solve_by_elim (maxDepth := 4) [Nat.lt_of_lt_of_le, Nat.lt_of_le_of_lt, Nat.lt_trans, Nat.le_trans, Nat.le_of_lt, Nat.lt_succ_of_lt, Nat.le_succ_of_le, Nat.lt_succ_of_le, Nat.succ_le_of_lt, Nat.lt_of_succ_le, Nat.le_of_succ_le, Nat.le_refl, Nat.succ_pos, Nat.zero_le]
theorem om186 : ∀ {x0 x1 : Nat}, x1 ≤ (99 : Nat) → x0 < x1 → (↑x0 : Int) < (2 : Int) ^ (63 : Nat) := by intros; subst_vars; exact b63 (Nat.le_trans (Nat.le_of_lt (by assumption)) (Nat.le_trans (by assumption) (by decide)))
theorem om187 : ∀ {x0 : Nat}, x0 ≤ (99 : Nat) → (↑x0 : Int) < (2 : Int) ^ (63 : Nat) := by decide
theorem om188 : ∀ {x0 x1 : Nat}, x0 ≤ (99 : Nat) → x1 < x0 → (↑x1 : Int) < (2 : Int) ^ (63 : Nat) := by intros; subst_vars; exact b63 (Nat.le_trans (Nat.le_of_lt (by assumption)) (Nat.le_trans (by assumption) (by decide)))
theorem om189 : ∀ {x0 x1 : Nat}, x1 ≤ (100 : Nat) → x0 < x1 → (↑x0 : Int) < (2 : Int) ^ (62 : Nat) := by intros; subst_vars; exact b62 (Nat.le_trans (Nat.le_of_lt (by assumption)) (Nat.le_trans (by assumption) (by decide)))
theorem om190 : ∀ {x0 : Nat}, x0 ≤ (100 : Nat) → (↑x0 : Int) < (2 : Int) ^ (62 : Nat) := by decide
theorem om191 : ∀ {x0 x1 : Nat} {x2 : Int}, x1 ≤ x0 → x0 < x1 + (0 : Nat) → x2 = (0 : Int) := by intros; lia
theorem om192 : ∀ {x0 x1 x2 : Nat}, x1 < Int.toNat ((↑x2 : Int) - (↑x0 : Int)) → x0 + x1 < x2 := by first | exact fun {x0 x1 x2} h => Nat.add_lt_of_lt_sub' (Nat.lt_of_lt_of_eq h (Int.toNat_sub x2 x0)) | (intros; omega)
theorem om193 : ∀ {x0 x1 x2 x3 : Nat}, x3 = x1 → x2 + x0 < x1 → x2 + x0 < x3 := by intros; subst_vars; omega
theorem om194 : ∀ {x0 x1 x2 x3 : Nat}, x1 + x0 < x2 → x3 = x2 → x1 < x3 := by first | exact fun h e => Nat.lt_of_lt_of_eq (Nat.lt_of_le_of_lt (Nat.le_add_right _ _) h) e.symm | (intros; subst_vars; lia)
theorem om195 : ∀ {x0 x1 x2 : Nat}, x1 ≤ (100 : Nat) → x2 + x0 < x1 → (↑x2 : Int) < (2 : Int) ^ (63 : Nat) := by first | exact fun h1 h2 => b63 (Nat.le_trans (Nat.le_of_lt (Nat.lt_of_le_of_lt (Nat.le_add_right _ _) h2)) (Nat.le_trans h1 (by decide))) | (intros; lia)
theorem om196 : ∀ {x0 x1 x2 : Nat}, x1 < x2 + (x0 + (1 : Nat)) → x1 ≥ x2 + x0 → x1 = x2 + x0 := by intros; subst_vars; exact Nat.le_antisymm (Nat.le_of_lt_succ (by assumption)) (by assumption)
theorem om197 : ∀ {x0 x1 : Nat}, x1 ≤ x1 + x0 := by intros; simp_all
theorem om198 : ∀ {x0 x1 x2 : Nat}, x1 < x2 → x1 < x0 + Int.toNat ((↑x2 : Int) - (↑x0 : Int)) := by first | exact fun {x0 x1 x2} h => Nat.lt_of_lt_of_le h (Nat.le_trans (Nat.sub_le_iff_le_add'.mp (Nat.le_refl _)) (Nat.add_le_add_left (Nat.le_of_eq (Int.toNat_sub x2 x0).symm) _)) | (intros; lia)
theorem om199 : ∀ {x0 x1 x2 : Nat}, x1 = x0 → x2 = x0 → x1 = x2 := by intros; subst_vars; exact bt2 _
theorem om200 : ∀ {x0 x1 x2 x3 : Nat}, x3 = x1 → x0 < x1 → x2 = x3 → x0 < x2 := by intros; subst_vars; omega
theorem om201 : ∀ {x0 : Nat}, -(2 : Int) ^ (62 : Nat) ≤ (↑x0 : Int) + (1 : Int) := by intros; subst_vars; exact b62n _
theorem om202 : ∀ {x0 x1 : Nat}, x1 ≤ (100 : Nat) → x0 < x1 → (↑x0 : Int) + (1 : Int) < (2 : Int) ^ (62 : Nat) := by first | exact fun {x0 x1} h1 h2 => b62 (n := x0 + 1) (Nat.le_trans h2 (Nat.le_trans h1 (by decide))) | (intros; lia)
theorem om203 : ∀ {x0 x1 : Nat}, Int.toNat ((↑x1 : Int) - ((↑x0 : Int) + (1 : Int))) = x1 - (x0 + (1 : Nat)) := by first | exact fun {x0 x1} => Int.toNat_sub x1 (x0 + 1) | (intros; omega)
theorem om204 : ∀ {x0 x1 x2 : Nat}, x1 < x2 - (x0 + (1 : Nat)) → x0 + (1 : Nat) + x1 < x2 := by first | exact fun h => Nat.add_lt_of_lt_sub' h | (intros; omega)
theorem om205 : ∀ {x0 x1 x2 x3 x4 : Nat}, x4 = x0 → x3 = x4 → x2 + (1 : Nat) + x1 < x0 → x2 + (1 : Nat) + x1 < x3 := by intros; subst_vars; omega
theorem om206 : ∀ {x0 x1 x2 x3 : Nat}, x3 = x1 → x2 + (1 : Nat) + x0 < x1 → x2 + (1 : Nat) + x0 < x3 := by intros; simp_all
theorem om207 : ∀ {x0 x1 x2 x3 : Nat}, x1 + (1 : Nat) + x0 < x2 → x3 = x2 → x1 < x3 := by first | exact fun h e => Nat.lt_of_lt_of_eq (Nat.lt_of_le_of_lt (Nat.le_trans (Nat.le_add_right _ 1) (Nat.le_add_right _ _)) h) e.symm | (intros; subst_vars; lia)
theorem om208 : ∀ {x0 x1 : Nat}, Int.toNat ((↑x1 : Int) + (1 : Int) + (↑x0 : Int)) = x1 + (1 : Nat) + x0 := by intros; subst_vars; solve_by_elim (maxDepth := 4) [Nat.lt_of_lt_of_le, Nat.lt_of_le_of_lt, Nat.lt_trans, Nat.le_trans, Nat.le_of_lt, Nat.lt_succ_of_lt, Nat.le_succ_of_le, Nat.lt_succ_of_le, Nat.succ_le_of_lt, Nat.lt_of_succ_le, Nat.le_of_succ_le, Nat.le_refl, Nat.succ_pos, Nat.zero_le]
theorem om209 : ∀ {x0 x1 : Nat}, (0 : Int) ≤ (↑x1 : Int) + (1 : Int) + (↑x0 : Int) := by intros; subst_vars; exact b0b _
theorem om210 : ∀ {x0 x1 x2 : Nat}, x1 ≤ (100 : Nat) → x2 + (1 : Nat) + x0 < x1 → (↑x2 : Int) + (1 : Int) + (↑x0 : Int) < (2 : Int) ^ (63 : Nat) := by intros; subst_vars; exact b63 (Nat.le_trans (Nat.le_of_lt (by assumption)) (Nat.le_trans (by assumption) (by decide)))
theorem om211 : ∀ {x0 x1 x2 : Nat}, x1 ≤ (100 : Nat) → x2 + (1 : Nat) + x0 < x1 → (↑x2 : Int) < (2 : Int) ^ (63 : Nat) := by first | exact fun h1 h2 => b63 (Nat.le_trans (Nat.le_of_lt (Nat.lt_of_le_of_lt (Nat.le_trans (Nat.le_add_right _ 1) (Nat.le_add_right _ _)) h2)) (Nat.le_trans h1 (by decide))) | (intros; lia)
theorem om212 : ∀ {x0 x1 x2 : Nat}, x1 ≤ (100 : Nat) → x2 + (1 : Nat) + x0 < x1 → (↑x2 : Int) + (1 : Int) < (2 : Int) ^ (62 : Nat) := by first | exact fun {x0 x1 x2} h1 h2 => b62 (n := x2 + 1) (Nat.le_trans (Nat.le_of_lt (Nat.lt_of_le_of_lt (Nat.le_add_right _ _) h2)) (Nat.le_trans h1 (by decide))) | (intros; lia)
theorem om213 : ∀ {x0 x1 : Nat}, ¬x1 + (1 : Nat) + x0 = x1 := by intros; lia
theorem om214 : ∀ {x0 : Nat}, x0 ≤ (4000 : Nat) → x0 ≤ (500000 : Nat) := by intros; subst_vars; exact Nat.le_trans (by assumption) (by decide)
theorem om215 : ∀ {x0 : Nat}, x0 ≤ (4000 : Nat) → x0 ≤ (9000 : Nat) := by intros; subst_vars; exact Nat.le_trans (by assumption) (by decide)
theorem om216 : ∀ {x0 x1 : Nat}, (↑x1 : Int) + (1 : Int) + (↑x0 : Int) = (↑(x1 + (1 : Nat) + x0) : Int) := by intros; subst_vars; solve_by_elim (maxDepth := 4) [Nat.lt_of_lt_of_le, Nat.lt_of_le_of_lt, Nat.lt_trans, Nat.le_trans, Nat.le_of_lt, Nat.lt_succ_of_lt, Nat.le_succ_of_le, Nat.lt_succ_of_le, Nat.succ_le_of_lt, Nat.lt_of_succ_le, Nat.le_of_succ_le, Nat.le_refl, Nat.succ_pos, Nat.zero_le]
theorem om217 : ∀ {x0 x1 x2 : Nat}, x1 ≤ (100 : Nat) → x2 + (1 : Nat) + x0 < x1 → x2 + (1 : Nat) + x0 < (1000 : Nat) := by intros; subst_vars; exact Nat.lt_trans (by assumption) (Nat.lt_of_le_of_lt (by assumption) (by decide))
theorem om218 : ∀ {x0 x1 x2 : Nat}, x1 ≤ (100 : Nat) → x2 + (1 : Nat) + x0 < x1 → x2 < (1000 : Nat) := by first | exact fun h1 h2 => Nat.lt_of_lt_of_le (Nat.lt_of_le_of_lt (Nat.le_trans (Nat.le_add_right _ 1) (Nat.le_add_right _ _)) h2) (Nat.le_trans h1 (by decide)) | (intros; lia)
theorem om219 : ∀ {x0 x1 x2 x3 : Nat}, x1 = x0 → x2 = x1 → x3 = x0 → x2 = x3 := by intros; subst_vars; exact bt2 _
theorem om220 : ∀ {x0 x1 x2 : Nat}, x1 = x0 → x1 = x2 → x2 ≤ x0 := by intros; subst_vars; solve_by_elim (maxDepth := 4) [Nat.lt_of_lt_of_le, Nat.lt_of_le_of_lt, Nat.lt_trans, Nat.le_trans, Nat.le_of_lt, Nat.lt_succ_of_lt, Nat.le_succ_of_le, Nat.lt_succ_of_le, Nat.succ_le_of_lt, Nat.lt_of_succ_le, Nat.le_of_succ_le, Nat.le_refl, Nat.succ_pos, Nat.zero_le]
theorem om221 : ∀ {x0 x1 x2 x3 : Nat}, x0 ≤ (100 : Nat) → x1 = x2 → x3 = x0 → x1 = x3 → x2 < (2 : Nat) ^ (62 : Nat) := by intros; subst_vars; exact Nat.lt_of_le_of_lt (by assumption) (by decide)
theorem om222 : ∀ {x0 x1 x2 x3 : Nat}, x0 ≤ (100 : Nat) → x1 = x2 → x3 = x0 → x1 = x3 → (↑x2 : Int) < (2 : Int) ^ (62 : Nat) := by intros; subst_vars; exact b62 (Nat.le_trans (by assumption) (by decide))
theorem om223 : ∀ {x0 x1 x2 x3 : Nat}, x1 = x2 → x3 = x0 → x1 = x3 → Int.toNat ((↑x2 : Int) - (0 : Int)) = x0 := by intros; subst_vars; exact bt2 _
theorem om224 : ∀ {x0 : Nat} {x1 : Int}, x0 < (0 : Nat) → (0 : Int) < x1 := by intros; simp_all
theorem om225 : ∀ {x0 : Int}, x0 ≠ (0 : Int) → (0 : Int) ≤ x0 → (0 : Int) < x0 := by first | exact fun h1 h2 => Int.lt_iff_le_and_ne.mpr ⟨h2, Ne.symm h1⟩ | (intros; lia)
theorem om226 : ∀ {x0 x1 : Nat}, x1 ≤ x0 → x1 ≥ x0 → x0 = x1 := by first | exact fun h1 h2 => Nat.le_antisymm h2 h1 | (intros; lia)
theorem om227 : ∀ {x0 x1 x2 : Nat}, x2 = x0 → x1 = x2 → x1 = x0 := by intros; subst_vars; exact bt2 _
theorem om228 : ∀ {x0 x1 : Nat}, (x0 + (1 : Nat)) * x1 ≤ (4000 : Nat) → (x0 + (1 : Nat)) * x1 - (1 : Nat) ≤ (4000 : Nat) := by first | exact fun h => Nat.le_trans (Nat.sub_le _ _) (Nat.le_trans h (by decide)) | (intros; omega)
theorem om229 : ∀ {x0 x1 x2 x3 : Nat}, x3 = x1 → x2 = x3 → x0 < x1 → x0 < x2 := by intros; subst_vars; omega
theorem om230 : ∀ {x0 x1 : Nat}, (x0 + (1 : Nat)) * x1 ≤ (4000 : Nat) → (x0 + (1 : Nat)) * x1 - (1 : Nat) ≤ (500000 : Nat) := by first | exact fun h => Nat.le_trans (Nat.sub_le _ _) (Nat.le_trans h (by decide)) | (intros; omega)
theorem om231 : -(2 : Int) ^ (62 : Nat) ≤ (1 : Int) := by intros; subst_vars; exact b62n _
theorem om232 : (1 : Int) < (2 : Int) ^ (62 : Nat) := by intros; subst_vars; exact b0b _
theorem om233 : ∀ {x0 x1 : Nat}, x0 ≤ (100 : Nat) → x1 = x0 → (↑x1 : Int) + (1 : Int) < (2 : Int) ^ (62 : Nat) := by first | exact fun {x0 x1} h e => b62 (n := x1 + 1) (Nat.le_trans (Nat.succ_le_succ (Nat.le_of_eq e)) (Nat.le_trans (Nat.succ_le_succ h) (by decide))) | (intros; subst_vars; lia)
theorem om234 : ∀ {x0 x1 : Nat}, x1 = x0 → Int.toNat ((↑x1 : Int) + (1 : Int) - (1 : Int)) = x0 := by intros; subst_vars; simp
theorem om235 : ∀ {x0 : Nat}, (1 : Int) + (↑x0 : Int) = (↑(x0 + (1 : Nat)) : Int) := by intros; lia
theorem om236 : ∀ {x0 x1 : Nat}, x0 ≤ (100 : Nat) → Int.toNat ((↑x1 : Int) + (1 : Int) - (1 : Int)) = x0 → x1 ≤ (1000 : Nat) := by intros; lia
theorem om237 : ∀ {x0 x1 x2 : Nat}, x1 ≤ (100 : Nat) → x0 < x1 → x2 = x0 + (1 : Nat) → x2 ≤ (1000 : Nat) := by intros; subst_vars; exact Nat.lt_trans (by assumption) (Nat.lt_of_le_of_lt (by assumption) (by decide))
theorem om238 : ∀ {x0 x1 : Nat}, x1 ≤ (100 : Nat) → x0 < x1 → x0 + (1 : Nat) ≤ (100 : Nat) := by intros; subst_vars; solve_by_elim (maxDepth := 4) [Nat.lt_of_lt_of_le, Nat.lt_of_le_of_lt, Nat.lt_trans, Nat.le_trans, Nat.le_of_lt, Nat.lt_succ_of_lt, Nat.le_succ_of_le, Nat.lt_succ_of_le, Nat.succ_le_of_lt, Nat.lt_of_succ_le, Nat.le_of_succ_le, Nat.le_refl, Nat.succ_pos, Nat.zero_le]
theorem om239 : ∀ {x0 : Nat}, x0 ≤ (1000 : Nat) → x0 < (2 : Nat) ^ (62 : Nat) := by intros; subst_vars; exact bn62 (by assumption)
theorem om240 : ∀ {x0 x1 : Nat}, (↑x0 : Int) < (↑x1 : Int) → x0 < x1 := by intros; simp_all
theorem om241 : ∀ {x0 : Int}, x0 < (18 : Int) → x0 < (2 : Int) ^ (63 : Nat) := by intros; lia
theorem om242 : ∀ {x0 : Nat} {x1 : Int}, x1 < (18 : Int) → x0 = (18 : Nat) → x1 < (↑x0 : Int) := by intros; subst_vars; omega
theorem om243 : ∀ {x0 x1 x2 x3 : Nat}, x1 = x2 → x3 = x1 → x0 < x3 → x0 < x2 := by intros; subst_vars; omega
theorem om244 : ∀ {x0 x1 x2 : Nat}, x1 ≤ (1000 : Nat) → x2 = x1 → x0 < x2 → (↑x0 : Int) < (2 : Int) ^ (63 : Nat) := by intros; subst_vars; exact b63 (Nat.le_trans (Nat.le_of_lt (by assumption)) (by assumption))
theorem om245 : ∀ {x0 x1 x2 : Nat}, x2 = x0 → x1 = x0 → x2 = x1 := by intros; subst_vars; exact bt2 _
theorem om246 : ∀ {x0 x1 : Nat}, x0 ≤ (1000 : Nat) → x1 = x0 → x1 ≤ (1000 : Nat) := by intros; subst_vars; omega
theorem om247 : ∀ {x0 x1 : Nat}, x0 * x1 ≤ (9000 : Nat) * (4 : Nat) → (1 : Nat) + x0 * x1 ≤ (40000 : Nat) := by first | exact fun h => Nat.le_trans (Nat.add_le_add_left h 1) (by decide) | (intros; lia)
theorem om248 : ∀ {x0 x1 x2 : Nat}, (1 : Nat) + x0 * x1 ≤ (40000 : Nat) → x0 * x2 ≤ x0 * x1 → (1 : Nat) + x0 * x2 ≤ (500000 : Nat) := by first | exact fun h1 h2 => Nat.le_trans (Nat.add_le_add_left h2 1) (Nat.le_trans h1 (by decide)) | (intros; lia)
theorem om249 : ∀ {x0 : Nat}, x0 ≤ (9000 : Nat) → x0 ≤ (500000 : Nat) := by intros; subst_vars; exact Nat.le_trans (by assumption) (by decide)
theorem om250 : ∀ {x0 x1 : Nat}, x1 = x0 → x0 ≤ x1 := by intros; subst_vars; solve_by_elim (maxDepth := 4) [Nat.lt_of_lt_of_le, Nat.lt_of_le_of_lt, Nat.lt_trans, Nat.le_trans, Nat.le_of_lt, Nat.lt_succ_of_lt, Nat.le_succ_of_le, Nat.lt_succ_of_le, Nat.succ_le_of_lt, Nat.lt_of_succ_le, Nat.le_of_succ_le, Nat.le_refl, Nat.succ_pos, Nat.zero_le]
theorem om251 : ∀ {x0 x1 x2 : Nat}, x2 = x0 → x0 ≤ (1000 : Nat) → x1 = x2 → x1 ≤ (1000 : Nat) := by intros; subst_vars; omega
theorem om252 : ∀ {x0 x1 : Nat}, (1 : Nat) + x0 * x1 ≤ (40000 : Nat) → (1 : Nat) + x0 * x1 ≤ (500000 : Nat) := by intros; subst_vars; exact Nat.le_trans (by assumption) (by decide)
theorem om253 : (8 : Nat) ≤ (500000 : Nat) := by intros; simp_all
theorem om254 : ∀ {x0 x1 x2 : Nat}, x1 = x2 → x0 < x2 → x0 < x1 := by intros; subst_vars; omega
theorem om255 : ∀ {x0 x1 : Nat}, x0 < x1 → x0 ≤ x1 := by intros; subst_vars; solve_by_elim (maxDepth := 4) [Nat.lt_of_lt_of_le, Nat.lt_of_le_of_lt, Nat.lt_trans, Nat.le_trans, Nat.le_of_lt, Nat.lt_succ_of_lt, Nat.le_succ_of_le, Nat.lt_succ_of_le, Nat.succ_le_of_lt, Nat.lt_of_succ_le, Nat.le_of_succ_le, Nat.le_refl, Nat.succ_pos, Nat.zero_le]
theorem om256 : ∀ {x0 x1 : Nat}, x1 ≤ (4 : Nat) → x0 < x1 → (↑x0 : Int) < (2 : Int) ^ (63 : Nat) := by intros; subst_vars; exact b63 (Nat.le_trans (Nat.le_of_lt (by assumption)) (Nat.le_trans (by assumption) (by decide)))
theorem om257 : ∀ {x0 x1 x2 : Nat}, x0 ≤ (1000 : Nat) → x2 = x0 → x1 = x2 → x1 ≤ (1000 : Nat) := by intros; subst_vars; omega
theorem om258 : ∀ {x0 x1 x2 x3 x4 : Nat}, x2 = x0 → x4 = x0 → x3 = x4 → x1 < x3 → x1 < x2 := by intros; subst_vars; omega
theorem om259 : ∀ {x0 x1 x2 x3 : Nat}, x1 ≤ (1000 : Nat) → x3 = x1 → x2 = x3 → x0 < x2 → (↑x0 : Int) < (2 : Int) ^ (63 : Nat) := by intros; subst_vars; exact b63 (Nat.le_trans (Nat.le_of_lt (by assumption)) (by assumption))
theorem om260 : ∀ {x0 x1 : Nat}, x0 ≤ (9000 : Nat) → (1 : Nat) + x0 * x1 ≤ (40000 : Nat) → x0 + ((1 : Nat) + x0 * x1) ≤ (500000 : Nat) := by first | exact fun h1 h2 => Nat.le_trans (Nat.add_le_add h1 h2) (by decide) | (intros; lia)
theorem om261 : ∀ {x0 x1 : Nat}, x0 < x1 → x0 + (1 : Nat) ≤ x1 := by intros; subst_vars; solve_by_elim (maxDepth := 4) [Nat.lt_of_lt_of_le, Nat.lt_of_le_of_lt, Nat.lt_trans, Nat.le_trans, Nat.le_of_lt, Nat.lt_succ_of_lt, Nat.le_succ_of_le, Nat.lt_succ_of_le, Nat.succ_le_of_lt, Nat.lt_of_succ_le, Nat.le_of_succ_le, Nat.le_refl, Nat.succ_pos, Nat.zero_le]
theorem om262 : ∀ {x0 x1 x2 x3 : Nat}, x2 = x0 → x1 = x2 → x3 = x0 → x1 = x3 := by intros; subst_vars; exact bt2 _
theorem om263 : ∀ {x0 x1 : Nat}, x1 = x0 → x0 ≤ (3 : Nat) → x1 ≤ (1000 : Nat) := by intros; subst_vars; first | assumption | rfl | decide | exact Nat.le_trans (by assumption) (by decide) | exact Nat.lt_of_le_of_lt (by assumption) (by decide) | exact Nat.lt_of_lt_of_le (by assumption) (by decide) | lia | omega
theorem om264 : ∀ {x0 x1 x2 : Nat}, x2 = x0 → x1 = x2 → x0 ≤ (3 : Nat) → x1 ≤ (1000 : Nat) := by intros; subst_vars; first | assumption | rfl | decide | exact Nat.le_trans (by assumption) (by decide) | exact Nat.lt_of_le_of_lt (by assumption) (by decide) | exact Nat.lt_of_lt_of_le (by assumption) (by decide) | lia | omega
theorem om265 : ∀ {x0 x1 : Nat}, x1 = (4 : Nat) → x0 = (4 : Nat) → x0 = x1 := by intros; subst_vars; first | assumption | rfl | decide | exact Nat.le_trans (by assumption) (by decide) | exact Nat.lt_of_le_of_lt (by assumption) (by decide) | exact Nat.lt_of_lt_of_le (by assumption) (by decide) | lia | omega
theorem om266 : ∀ {x0 : Nat}, x0 = (4 : Nat) → x0 ≤ (1000 : Nat) := by intros; subst_vars; simp
theorem om267 : ∀ {x0 : Nat}, x0 ≤ (3 : Nat) → x0 ≤ (1000 : Nat) := by intros; subst_vars; first | assumption | rfl | decide | exact Nat.le_trans (by assumption) (by decide) | exact Nat.lt_of_le_of_lt (by assumption) (by decide) | exact Nat.lt_of_lt_of_le (by assumption) (by decide) | lia | omega
theorem om268 : ∀ {x0 x1 x2 : Nat}, x0 ≤ (3 : Nat) → x1 = x2 → x2 = x0 → x1 ≤ (1000 : Nat) := by intros; subst_vars; first | assumption | rfl | decide | exact Nat.le_trans (by assumption) (by decide) | exact Nat.lt_of_le_of_lt (by assumption) (by decide) | exact Nat.lt_of_lt_of_le (by assumption) (by decide) | lia | omega
theorem om269 : ∀ {x0 : Nat}, x0 ≤ (3 : Nat) → x0 ≤ (99 : Nat) := by intros; subst_vars; first | assumption | rfl | decide | exact Nat.le_trans (by assumption) (by decide) | exact Nat.lt_of_le_of_lt (by assumption) (by decide) | exact Nat.lt_of_lt_of_le (by assumption) (by decide) | lia | omega
theorem om270 : ∀ {x0 : Nat}, x0 ≤ (5 : Nat) ^ (4 : Nat) → (10 : Nat) * x0 ≤ (9000 : Nat) := by intros; subst_vars; first | assumption | rfl | decide | exact Nat.le_trans (by assumption) (by decide) | exact Nat.lt_of_le_of_lt (by assumption) (by decide) | exact Nat.lt_of_lt_of_le (by assumption) (by decide) | lia | omega
theorem om271 : ∀ {x0 : Nat}, x0 ≤ (5 : Nat) ^ (4 : Nat) → (10 : Nat) * x0 ≤ (6250 : Nat) := by intros; lia
theorem om272 : ∀ {x0 x1 x2 : Nat}, x0 ≤ (3 : Nat) → x2 = x0 → x1 = x2 → x1 < (2 : Nat) ^ (62 : Nat) := by intros; subst_vars; first | assumption | rfl | decide | exact Nat.le_trans (by assumption) (by decide) | exact Nat.lt_of_le_of_lt (by assumption) (by decide) | exact Nat.lt_of_lt_of_le (by assumption) (by decide) | lia | omega
theorem om273 : ∀ {x0 x1 x2 : Nat}, x2 = x0 → x1 = x2 → x0 ≤ (3 : Nat) → x1 < (2 : Nat) ^ (62 : Nat) := by intros; subst_vars; first | assumption | rfl | decide | exact Nat.le_trans (by assumption) (by decide) | exact Nat.lt_of_le_of_lt (by assumption) (by decide) | exact Nat.lt_of_lt_of_le (by assumption) (by decide) | lia | omega
theorem om274 : ∀ {x0 x1 : Nat}, x1 = x0 → x0 ≤ (3 : Nat) → x1 ≤ (4 : Nat) := by intros; subst_vars; first | assumption | rfl | decide | exact Nat.le_trans (by assumption) (by decide) | exact Nat.lt_of_le_of_lt (by assumption) (by decide) | exact Nat.lt_of_lt_of_le (by assumption) (by decide) | lia | omega
theorem om275 : ∀ {x0 x1 x2 : Nat}, x1 = x0 → x2 = x0 → x2 = x1 := by intros; subst_vars; first | assumption | rfl | decide | exact Nat.le_trans (by assumption) (by decide) | exact Nat.lt_of_le_of_lt (by assumption) (by decide) | exact Nat.lt_of_lt_of_le (by assumption) (by decide) | lia | omega
theorem om276 : ∀ {x0 x1 x2 : Nat}, x1 = x0 → x0 ≤ (3 : Nat) → x2 = x0 → (6250 : Nat) + ((1 : Nat) + (6250 : Nat) * x2) + (8 : Nat) + x1 + (1 : Nat) ≤ (40000 : Nat) := by intros; subst_vars; lia
theorem om277 : ∀ {x0 x1 : Nat}, x1 = x0 → x0 = (4 : Nat) → x1 < (2 : Nat) ^ (62 : Nat) := by intros; subst_vars; first | assumption | rfl | decide | exact Nat.le_trans (by assumption) (by decide) | exact Nat.lt_of_le_of_lt (by assumption) (by decide) | exact Nat.lt_of_lt_of_le (by assumption) (by decide) | lia | omega
theorem om278 : ∀ {x0 x1 : Nat}, x1 = x0 → x0 = (4 : Nat) → x1 ≤ (1000 : Nat) := by intros; subst_vars; first | assumption | rfl | decide | exact Nat.le_trans (by assumption) (by decide) | exact Nat.lt_of_le_of_lt (by assumption) (by decide) | exact Nat.lt_of_lt_of_le (by assumption) (by decide) | lia | omega
theorem om279 : ∀ {x0 x1 : Nat}, x1 = x0 → x0 = (4 : Nat) → x1 = (4 : Nat) := by intros; subst_vars; first | assumption | rfl | decide | exact Nat.le_trans (by assumption) (by decide) | exact Nat.lt_of_le_of_lt (by assumption) (by decide) | exact Nat.lt_of_lt_of_le (by assumption) (by decide) | lia | omega
theorem om280 : ∀ {x0 x1 x2 : Nat}, x2 = x0 → x1 = x0 → x1 = x2 := by intros; subst_vars; first | assumption | rfl | decide | exact Nat.le_trans (by assumption) (by decide) | exact Nat.lt_of_le_of_lt (by assumption) (by decide) | exact Nat.lt_of_lt_of_le (by assumption) (by decide) | lia | omega
theorem om281 : ∀ {x0 x1 : Nat}, x1 = x0 → x0 = (4 : Nat) → (↑x1 : Int) < (2 : Int) ^ (62 : Nat) := by intros; subst_vars; first | assumption | rfl | decide | exact Nat.le_trans (by assumption) (by decide) | exact Nat.lt_of_le_of_lt (by assumption) (by decide) | exact Nat.lt_of_lt_of_le (by assumption) (by decide) | lia | omega
theorem om282 : ∀ {x0 x1 : Nat}, x1 = x0 → x0 = (4 : Nat) → Int.toNat ((↑x1 : Int) - (0 : Int)) = (4 : Nat) := by intros; subst_vars; first | assumption | rfl | decide | exact Nat.le_trans (by assumption) (by decide) | exact Nat.lt_of_le_of_lt (by assumption) (by decide) | exact Nat.lt_of_lt_of_le (by assumption) (by decide) | lia | omega
theorem om283 : (4 : Nat) ≤ (1000 : Nat) := by intros; subst_vars; first | assumption | rfl | decide | exact Nat.le_trans (by assumption) (by decide) | exact Nat.lt_of_le_of_lt (by assumption) (by decide) | exact Nat.lt_of_lt_of_le (by assumption) (by decide) | lia | omega
theorem om284 : ∀ {x0 x1 : Nat}, x0 < (4 : Nat) → x1 = (4 : Nat) → x0 < x1 := by intros; subst_vars; first | assumption | rfl | decide | exact Nat.le_trans (by assumption) (by decide) | exact Nat.lt_of_le_of_lt (by assumption) (by decide) | exact Nat.lt_of_lt_of_le (by assumption) (by decide) | lia | omega
theorem om285 : ∀ {x0 : Nat}, x0 < (4 : Nat) → (0 : Int) + (↑x0 : Int) < (2 : Int) ^ (63 : Nat) := by intros; subst_vars; first | assumption | rfl | decide | exact Nat.le_trans (by assumption) (by decide) | exact Nat.lt_of_le_of_lt (by assumption) (by decide) | exact Nat.lt_of_lt_of_le (by assumption) (by decide) | lia | omega
theorem om286 : ∀ {x0 : Nat}, x0 ≤ (3 : Nat) → x0 ≤ (100 : Nat) := by intros; subst_vars; first | assumption | rfl | decide | exact Nat.le_trans (by assumption) (by decide) | exact Nat.lt_of_le_of_lt (by assumption) (by decide) | exact Nat.lt_of_lt_of_le (by assumption) (by decide) | lia | omega
theorem om287 : ∀ {x0 : Nat}, x0 ≤ (2 : Nat) ^ (4 : Nat) → ((3 : Nat) + (3 : Nat) + (4 : Nat) + (1 : Nat)) * x0 ≤ (200 : Nat) := by intros; subst_vars; first | assumption | rfl | decide | exact Nat.le_trans (by assumption) (by decide) | exact Nat.lt_of_le_of_lt (by assumption) (by decide) | exact Nat.lt_of_lt_of_le (by assumption) (by decide) | lia | omega
theorem om288 : ∀ {x0 : Nat}, x0 ≤ (2 : Nat) ^ (3 : Nat) → ((10 : Nat) + (1 : Nat)) * x0 ≤ (4000 : Nat) := by intros; subst_vars; first | assumption | rfl | decide | exact Nat.le_trans (by assumption) (by decide) | exact Nat.lt_of_le_of_lt (by assumption) (by decide) | exact Nat.lt_of_lt_of_le (by assumption) (by decide) | lia | omega
theorem om289 : ∀ {x0 : Nat}, x0 ≤ (3 : Nat) → x0 + (1 : Nat) ≤ (100 : Nat) := by intros; subst_vars; first | assumption | rfl | decide | exact Nat.le_trans (by assumption) (by decide) | exact Nat.lt_of_le_of_lt (by assumption) (by decide) | exact Nat.lt_of_lt_of_le (by assumption) (by decide) | lia | omega
theorem om290 : ∀ {x0 : Nat}, x0 ≤ (2 : Nat) ^ (4 : Nat) → ((10 : Nat) + (1 : Nat)) * x0 ≤ (4000 : Nat) := by intros; subst_vars; first | assumption | rfl | decide | exact Nat.le_trans (by assumption) (by decide) | exact Nat.lt_of_le_of_lt (by assumption) (by decide) | exact Nat.lt_of_lt_of_le (by assumption) (by decide) | lia | omega
theorem om291 : ∀ {x0 x1 x2 x3 : Nat}, x0 ≤ (3 : Nat) → x1 = x3 → x2 + x3 = x0 → x1 < (2 : Nat) ^ (62 : Nat) := by intros; subst_vars; first | assumption | rfl | decide | exact Nat.le_trans (by assumption) (by decide) | exact Nat.lt_of_le_of_lt (by assumption) (by decide) | exact Nat.lt_of_lt_of_le (by assumption) (by decide) | lia | omega
theorem om292 : ∀ {x0 x1 : Nat}, x0 ≤ (3 : Nat) → x1 = x0 → (1 : Nat) + (6250 : Nat) * x1 ≤ (20000 : Nat) := by intros; subst_vars; lia
theorem om293 : ∀ {x0 x1 : Nat}, x1 ≤ (63 : Nat) → x0 = x1 → x0 ≤ (1000 : Nat) := by intros; subst_vars; exact Nat.le_trans (by assumption) (by decide)
theorem om294 : ∀ {x0 : Nat}, x0 ≤ (18 : Nat) → x0 ≤ (1000 : Nat) := by decide
theorem om295 : ∀ {x0 x1 : Nat}, x1 ≤ (18 : Nat) → x0 ≤ x1 → x0 ≤ (1000 : Nat) := by first | exact fun h1 h2 => Nat.le_trans h2 (Nat.le_trans h1 (by decide)) | (intros; lia)
theorem om296 : ∀ {x0 : Nat}, x0 < (3 : Nat) → (2 : Nat) + (4 : Nat) * x0 + (0 : Nat) ≤ (1000 : Nat) := by decide
theorem om297 : ∀ {x0 : Nat}, x0 < (3 : Nat) → (2 : Nat) + (4 : Nat) * x0 + (0 : Nat) + (1 : Nat) ≤ (1000 : Nat) := by decide
theorem om298 : ∀ {x0 : Nat}, x0 < (3 : Nat) → (2 : Nat) + (4 : Nat) * x0 + (2 : Nat) ≤ (1000 : Nat) := by decide
theorem om299 : ∀ {x0 : Nat}, x0 < (3 : Nat) → (2 : Nat) + (4 : Nat) * x0 + (2 : Nat) + (1 : Nat) ≤ (1000 : Nat) := by decide
theorem om300 : ∀ {x0 x1 x2 : Nat}, x0 < (3 : Nat) → x2 = x0 → x1 = x2 → x1 ≤ (1000 : Nat) := by first | exact fun h e1 e2 => Nat.le_trans (Nat.le_of_eq (e2.trans e1)) (Nat.le_trans (Nat.le_of_lt h) (by decide)) | (intros; subst_vars; lia)
theorem om301 : ∀ {x0 : Nat}, x0 < (4 : Nat) → (14 : Nat) + x0 ≤ (1000 : Nat) := by decide
theorem om302 : ∀ {x0 : Int}, (0 : Int) ≤ x0 → x0 < (5 : Int) → (-2 : Int) ≤ x0 - (2 : Int) ∧ x0 - (2 : Int) ≤ (2 : Int) := by intros; lia
theorem om303 : ∀ {x0 : Int}, (-2 : Int) ≤ x0 ∧ x0 ≤ (2 : Int) → Int.natAbs x0 < (2 : Nat) ^ (2 : Nat) := by intros; omega
theorem om304 : ∀ {x0 : Int}, (-4 : Int) ≤ x0 → x0 ≤ (4 : Int) → Int.natAbs x0 < (2 : Nat) ^ (3 : Nat) := by decide
theorem om305 : ∀ {x0 : Int}, (0 : Int) ≤ x0 → x0 < (4 : Int) → (-2 : Int) ≤ x0 - (1 : Int) ∧ x0 - (1 : Int) ≤ (2 : Int) := by intros; lia
theorem om306 : ∀ {x0 : Int}, (0 : Int) ≤ x0 → x0 < (4 : Int) → Int.natAbs (x0 - (1 : Int)) ≤ (2 : Nat) := by intros; omega
theorem om307 : ∀ {x0 : Int}, (-2 : Int) ≤ x0 ∧ x0 ≤ (2 : Int) → Int.natAbs x0 ≤ (2 : Nat) := by intros; omega
theorem om308 : ∀ {x0 x1 : Int}, Int.natAbs (x1 - (1 : Int)) * Int.natAbs x0 ≤ (2 : Nat) * (2 : Nat) → Int.natAbs (x1 - (1 : Int)) * Int.natAbs x0 < (2 : Nat) ^ (3 : Nat) := by intros; subst_vars; exact Nat.lt_of_le_of_lt (by assumption) (by decide)
theorem om309 : ∀ {x0 : Int}, x0 = (2 : Int) → x0 ≠ (0 : Int) := by intros; subst_vars; simp
theorem om310 : ∀ {x0 x1 x2 : Nat}, x1 = (4 : Nat) → x2 = (4 : Nat) → x0 < x1 → x0 < x2 := by intros; subst_vars; omega
theorem om311 : ∀ {x0 x1 : Nat}, x1 = (4 : Nat) → x0 < x1 → (↑x0 : Int) < (2 : Int) ^ (63 : Nat) := by intros; subst_vars; exact b63 (Nat.le_of_lt (Nat.lt_of_lt_of_le (by assumption) (by decide)))
theorem om312 : ∀ {x0 x1 x2 : Int}, x1 + x2 = x0 → (-2 : Int) ≤ x1 ∧ x1 ≤ (2 : Int) → (-2 : Int) ≤ x2 ∧ x2 ≤ (2 : Int) → (-4 : Int) ≤ x0 := by intros; subst_vars; lia
theorem om313 : ∀ {x0 x1 x2 : Int}, x1 + x2 = x0 → (-2 : Int) ≤ x1 ∧ x1 ≤ (2 : Int) → (-2 : Int) ≤ x2 ∧ x2 ≤ (2 : Int) → x0 ≤ (4 : Int) := by intros; subst_vars; lia
/-! the base: what is known and never changes -/
abbrev Base := Addr → Option Obj
noncomputable def Base.le (B B' : Base) : Prop := ∀ b o, B b = some o → B' b = some o
noncomputable def Base.In (B : Base) (h : Heap) : Prop := ∀ b o, B b = some o → h.get? b = some o
theorem Base.le.rfl {B : Base} : B.le B := fun _ _ e => e
theorem Base.le.trans {B B' B'' : Base} (x : B.le B') (y : B'.le B'') : B.le B'' := fun b o e => y b o (x b o e)
theorem Base.In.of_le {B B' : Base} {h : Heap} (x : B'.In h) (l : B.le B') : B.In h := fun b o e => x b o (l b o e)

/-- one step that only adds -/
structure Ext (B : Base) (h : Heap) (B' : Base) (h' : Heap) : Prop where
  le : B.le B'
  sub : B'.In h'
  keep : ∀ b o, h.get? b = some o → h'.get? b = some o
  off : ∀ b o, h.get? b = some o → B b = none → B' b = none

theorem Ext.refl {B : Base} {h : Heap} (s : B.In h) : Ext B h B h := ⟨.rfl, s, fun _ _ e => e, fun _ _ _ e => e⟩
theorem Ext.trans {B B' B'' : Base} {h h' h'' : Heap} (x : Ext B h B' h') (y : Ext B' h' B'' h'') : Ext B h B'' h'' :=
  ⟨x.le.trans y.le, y.sub, fun b o e => y.keep b o (x.keep b o e), fun b o e n => y.off b o (x.keep b o e) (x.off b o e n)⟩

/-- one step that changes no more than W of the objects that are not of the base -/
structure ExtW (W : List Addr) (B : Base) (h : Heap) (B' : Base) (h' : Heap) : Prop where
  le : B.le B'
  sub : B'.In h'
  keep : ∀ b o, b ∉ W → h.get? b = some o → h'.get? b = some o
  off : ∀ b o, h.get? b = some o → B b = none → B' b = none
  live : ∀ b o, h.get? b = some o → ∃ o', h'.get? b = some o'

/-- an object's predicate at an address -/
abbrev Ent := Addr × (Obj → Prop)
noncomputable def Ents (ps : List Ent) (h : Heap) : Prop := ∀ p ∈ ps, ∃ o, h.get? p.1 = some o ∧ p.2 o

noncomputable def lstO (vs : List Value) (n : Nat) : Obj := { cls := .type "list", data := .seq vs.toArray n }
noncomputable def tupO (vs : List Value) (n : Nat) : Obj := { cls := .type "tuple", data := .seq vs.toArray n }
/-- a list of one's own -/
noncomputable def LstP (vs : List Value) : Obj → Prop := fun o => ∃ n, o = lstO vs n

/-- what is known of the names: m tells some of them -/
structure Lo (env : Env) (m : Str → Option Value) (h : Heap) : Prop where
  ns : ∃ mL, h.Ns env.locals mL ∧ ∀ x v, env.kindOf x = some .local → m x = some v → mL x = some v
  cell : ∀ x c, env.kindOf x = some .cell → env.cells.lookup x = some c → ∃ v₀, h.IsCell c v₀ ∧ ∀ v, m x = some v → v₀ = some v
  apart : env.cells.Pairwise fun x y => x.2 ≠ y.2
  ne : ∀ x c, (x, c) ∈ env.cells → c ≠ env.locals
  ex : ∀ x c, (x, c) ∈ env.cells → ∃ o, h.get? c = some o

structure Fm (W : List Addr) (B₀ : Base) (h₀ : Heap) (own : List Addr) (env : Env) (B : Base) (m : Str → Option Value) (ps : List Ent) (h : Heap) : Prop where
  mono : B₀.le B
  sub : B.In h
  keep : ∀ b o, b ∉ W → h₀.get? b = some o → h.get? b = some o
  off : ∀ b o, h₀.get? b = some o → B₀ b = none → B b = none
  live : ∀ b o, h₀.get? b = some o → ∃ o', h.get? b = some o'
  lo : Lo env m h
  ents : Ents ps h
  nodup : (own ++ ps.map (·.1)).Nodup
  apart : ∀ a ∈ own ++ ps.map (·.1), B a = none
  fresh : ∀ a ∈ own ++ ps.map (·.1), a ∉ W → h₀.get? a = none
  there : ∀ a ∈ own, ∃ o, h.get? a = some o
  wex : ∀ a ∈ W, ∃ o, h₀.get? a = some o

theorem IsCell_keeps {h h' : Heap} {c : Addr} {v : Option Value} (x : h.IsCell c v) (e : ∀ o, h.get? c = some o → h'.get? c = some o) : h'.IsCell c v :=
  let ⟨o, ho, hd⟩ := x; ⟨o, e _ ho, hd⟩

/-- locals stay when nothing of theirs is touched -/
theorem Lo.keeps {env : Env} {m : Str → Option Value} {h h' : Heap} (x : Lo env m h) (k : ∀ b o, h.get? b = some o → h'.get? b = some o) : Lo env m h' :=
  ⟨let ⟨mL, a, b⟩ := x.ns; ⟨mL, a.keeps k, b⟩, fun y c hk hc => let ⟨v₀, a, b⟩ := x.cell y c hk hc; ⟨v₀, a.keeps k, b⟩, x.apart, x.ne, fun y c hm => let ⟨o, e⟩ := x.ex y c hm; ⟨o, k _ _ e⟩⟩
theorem Lo.keepsBut {env : Env} {m : Str → Option Value} {h h' : Heap} (x : Lo env m h) (W : List Addr) (hL : env.locals ∉ W) (hc : ∀ x c, (x, c) ∈ env.cells → c ∉ W)
    (k : ∀ b o, b ∉ W → h.get? b = some o → h'.get? b = some o) : Lo env m h' :=
  ⟨let ⟨mL, a, b⟩ := x.ns; ⟨mL, a.at' fun o e => k _ o hL e, b⟩, fun y c hk hl => let ⟨v₀, a, b⟩ := x.cell y c hk hl; ⟨v₀, IsCell_keeps a fun o e => k _ o (hc y c (mem_of_lookup hl)) e, b⟩, x.apart, x.ne, fun y c hm => let ⟨o, e⟩ := x.ex y c hm; ⟨o, k _ _ (hc y c hm) e⟩⟩

section
variable {W : List Addr} {B₀ B B' : Base} {h₀ h h' : Heap} {own : List Addr} {env : Env} {m : Str → Option Value} {ps : List Ent}

theorem Fm.forget {m' : Str → Option Value} (S : Fm W B₀ h₀ own env B m ps h) (hm : ∀ x v, m' x = some v → m x = some v) : Fm W B₀ h₀ own env B m' ps h :=
  { S with lo := ⟨let ⟨mL, a, b⟩ := S.lo.ns; ⟨mL, a, fun x v hx hv => b x v hx (hm x v hv)⟩,
      fun x c hx hc => let ⟨v₀, a, b⟩ := S.lo.cell x c hx hc; ⟨v₀, a, fun v hv => b v (hm x v hv)⟩, S.lo.apart, S.lo.ne, S.lo.ex⟩ }

theorem Fm.ext (S : Fm W B₀ h₀ own env B m ps h) (x : Ext B h B' h') : Fm W B₀ h₀ own env B' m ps h' where
  mono := S.mono.trans x.le
  sub := x.sub
  keep := fun b o hb e => x.keep b o (S.keep b o hb e)
  off := fun b o e n => let ⟨o', e'⟩ := S.live b o e; x.off b o' e' (S.off b o e n)
  live := fun b o e => let ⟨o', e'⟩ := S.live b o e; ⟨o', x.keep _ _ e'⟩
  lo := S.lo.keeps x.keep
  ents := fun p hp => let ⟨o, e, q⟩ := S.ents p hp; ⟨o, x.keep _ _ e, q⟩
  nodup := S.nodup
  apart := fun a ha => by
    have n := S.apart a ha
    rcases List.mem_append.mp ha with h1 | h1
    · obtain ⟨o, e⟩ := S.there a h1; exact x.off a o e n
    · first | (refine ob2_1 (List.mem_map.mp h1) fun p hp zr1 => ?_; subst zr1) | (refine ob1_2 (List.mem_map.mp h1) fun p hp zr2 => ?_; subst zr2) | (refine ob0_3 (List.mem_map.mp h1) fun p hp zr3 => ?_; subst zr3) | obtain ⟨p, hp, rfl⟩ := List.mem_map.mp h1
      obtain ⟨o, e, _⟩ := S.ents p hp; exact x.off _ o e n
  fresh := S.fresh
  there := fun a ha => let ⟨o, e⟩ := S.there a ha; ⟨o, x.keep _ _ e⟩
  wex := S.wex

/-- the frame's end, seen by its caller -/
theorem Fm.toExt (S : Fm [] B₀ h₀ own env B m ps h) : Ext B₀ h₀ B h := ⟨S.mono, S.sub, fun b o e => S.keep b o (by simp) e, S.off⟩
theorem Fm.toExtW (S : Fm W B₀ h₀ own env B m ps h) : ExtW W B₀ h₀ B h := ⟨S.mono, S.sub, S.keep, S.off, S.live⟩

theorem Fm.drop {ps' : List Ent} (S : Fm W B₀ h₀ own env B m ps h) (hs : ps'.Sublist ps) : Fm W B₀ h₀ own env B m ps' h :=
  { S with
    ents := fun p hp => S.ents p (hs.subset hp)
    nodup := S.nodup.sublist ((List.Sublist.refl _).append (hs.map _))
    apart := fun a ha => S.apart a (((List.Sublist.refl _).append (hs.map _)).subset ha)
    fresh := fun a ha => S.fresh a (((List.Sublist.refl _).append (hs.map _)).subset ha) }

theorem Fm.perm {ps' : List Ent} (S : Fm W B₀ h₀ own env B m ps h) (hs : ps.Perm ps') : Fm W B₀ h₀ own env B m ps' h :=
  { S with
    ents := fun p hp => S.ents p (hs.mem_iff.mpr hp)
    nodup := (List.Perm.nodup_iff ((hs.map _).append_left own)).mp S.nodup
    apart := fun a ha => S.apart a (((hs.map _).append_left own).mem_iff.mpr ha)
    fresh := fun a ha => S.fresh a (((hs.map _).append_left own).mem_iff.mpr ha) }

/-- one private object changes -/
theorem Fm.chg {a : Addr} {m' : Str → Option Value} {ps' : List Ent} (S : Fm W B₀ h₀ own env B m ps h) (ha : a ∈ own ++ ps.map (·.1))
    (k : ∀ b o, b ≠ a → h.get? b = some o → h'.get? b = some o) (la : ∃ o, h'.get? a = some o)
    (hps : ps'.map (·.1) = ps.map (·.1)) (he : Ents ps' h') (hl : Lo env m' h') : Fm W B₀ h₀ own env B m' ps' h' where
  mono := S.mono
  sub := fun b o e => k b o (fun q => by rw [q, S.apart a ha] at e; cases e) (S.sub b o e)
  keep := fun b o hb e => k b o (fun q => by
    have hW : a ∉ W := fun z => hb (q ▸ z)
    rw [q, S.fresh a ha hW] at e; cases e) (S.keep b o hb e)
  off := S.off
  live := fun b o e => by
    by_cases q : b = a
    · rw [q]; exact la
    · obtain ⟨o', e'⟩ := S.live b o e; exact ⟨o', k b o' q e'⟩
  lo := hl
  ents := he
  nodup := by rw [hps]; exact S.nodup
  apart := by rw [hps]; exact S.apart
  fresh := by rw [hps]; exact S.fresh
  there := fun b hb => by
    by_cases q : b = a
    · rw [q]; exact la
    · obtain ⟨o', e'⟩ := S.there b hb; exact ⟨o', k b o' q e'⟩
  wex := S.wex

/-- a private object of the list changes -/
theorem Fm.set {a : Addr} {P P' : Obj → Prop} {ps₁ ps₂ : List Ent} {o' : Obj} (S : Fm W B₀ h₀ own env B m (ps₁ ++ (a, P) :: ps₂) h)
    (k : ∀ b o, b ≠ a → h.get? b = some o → h'.get? b = some o) (e : h'.get? a = some o') (hp : P' o')
    (hL : env.locals ∈ own) (hC : ∀ x c, (x, c) ∈ env.cells → c ≠ a) : Fm W B₀ h₀ own env B m (ps₁ ++ (a, P') :: ps₂) h' := by
  have ha : a ∈ own ++ (ps₁ ++ (a, P) :: ps₂).map (·.1) := by simp
  have hn := S.nodup
  refine S.chg ha k ⟨o', e⟩ (by simp) ?_ ?_
  · intro p hp'
    by_cases q : p.1 = a
    · rcases List.mem_append.mp hp' with h1 | h1
      · exfalso
        rw [List.map_append, List.map_cons, ← List.append_assoc, List.nodup_append] at hn
        exact hn.2.2 p.1 (List.mem_append_right _ (List.mem_map_of_mem h1)) a (by simp) q
      · rcases List.mem_cons.mp h1 with h2 | h2
        · rw [h2]; exact ⟨o', e, hp⟩
        · exfalso
          rw [List.map_append, List.map_cons, ← List.append_assoc, List.nodup_append] at hn
          have h3 : p.1 ∈ ps₂.map (·.1) := List.mem_map_of_mem h2
          exact (List.nodup_cons.mp hn.2.1).1 (by rw [q] at h3; exact h3)
    · have hm : p ∈ ps₁ ++ (a, P) :: ps₂ := by
        rcases List.mem_append.mp hp' with h1 | h1
        · exact List.mem_append_left _ h1
        · rcases List.mem_cons.mp h1 with h2 | h2
          · exact absurd (by rw [h2]) q
          · exact List.mem_append_right _ (List.mem_cons_of_mem _ h2)
      first | (refine ob2_1 (S.ents p hm) fun o eo po => ?_) | (refine ob1_2 (S.ents p hm) fun o eo po => ?_) | (refine ob0_3 (S.ents p hm) fun o eo po => ?_) | obtain ⟨o, eo, po⟩ := S.ents p hm
      exact ⟨o, k _ _ q eo, po⟩
  · refine S.lo.keepsBut [a] (fun q => ?_) (fun x c hc q => hC x c hc (by simpa using q)) (fun b o hb => k b o (by simpa using hb))
    rw [List.nodup_append] at hn
    exact hn.2.2 _ hL a (by simp) (by simpa using q)

/-- a private object is made -/
theorem Fm.push {a : Addr} {P : Obj → Prop} {o : Obj} (S : Fm W B₀ h₀ own env B m ps h) (hn : h.get? a = none) (k : ∀ b o, h.get? b = some o → h'.get? b = some o)
    (e : h'.get? a = some o) (hp : P o) : Fm W B₀ h₀ own env B m ((a, P) :: ps) h' := by
  have h1 : ∀ b, b ∈ own ++ ps.map (·.1) → b ≠ a := fun b hb q => by
    rcases List.mem_append.mp hb with z | z
    · obtain ⟨o, eo⟩ := S.there b z; rw [q, hn] at eo; cases eo
    · first | (refine ob2_1 (List.mem_map.mp z) fun p hp zr4 => ?_; subst zr4) | (refine ob1_2 (List.mem_map.mp z) fun p hp zr5 => ?_; subst zr5) | (refine ob0_3 (List.mem_map.mp z) fun p hp zr6 => ?_; subst zr6) | obtain ⟨p, hp, rfl⟩ := List.mem_map.mp z
      obtain ⟨o, eo, _⟩ := S.ents p hp; rw [q, hn] at eo; cases eo
  have hB : B a = none := by
    cases q : B a with
    | none => rfl
    | some o => have := S.sub a o q; rw [hn] at this; cases this
  have hh : h₀.get? a = none := by
    cases q : h₀.get? a with
    | none => rfl
    | some o => obtain ⟨o', e'⟩ := S.live a o q; rw [hn] at e'; cases e'
  exact {
    mono := S.mono
    sub := fun b o e => k b o (S.sub b o e)
    keep := fun b o hb e => k b o (S.keep b o hb e)
    off := S.off
    live := fun b o e => let ⟨o', e'⟩ := S.live b o e; ⟨o', k _ _ e'⟩
    lo := S.lo.keeps k
    ents := fun p hp' => by
      rcases List.mem_cons.mp hp' with z | z
      · rw [z]; exact ⟨o, e, hp⟩
      · obtain ⟨o, eo, po⟩ := S.ents p z; exact ⟨o, k _ _ eo, po⟩
    nodup := by
      have := S.nodup
      rw [List.map_cons]
      refine (List.Perm.nodup_iff List.perm_middle).mpr (List.nodup_cons.mpr ⟨fun q => h1 a q rfl, this⟩)
    apart := fun b hb => by
      rw [List.map_cons] at hb
      rcases List.mem_cons.mp (List.perm_middle.mem_iff.mp hb) with z | z
      · rw [z]; exact hB
      · exact S.apart b z
    fresh := fun b hb hW => by
      rw [List.map_cons] at hb
      rcases List.mem_cons.mp (List.perm_middle.mem_iff.mp hb) with z | z
      · rw [z]; exact hh
      · exact S.fresh b z hW
    there := fun b hb => let ⟨o, e⟩ := S.there b hb; ⟨o, k _ _ e⟩
    wex := S.wex }

/-- a private object of one's own becomes part of the base -/
theorem Fm.freeze {a : Addr} {P : Obj → Prop} (S : Fm W B₀ h₀ own env B m ((a, P) :: ps) h) (hW : a ∉ W) :
    ∃ B', B.le B' ∧ (∃ o, B' a = some o ∧ P o) ∧ Fm W B₀ h₀ own env B' m ps h := by
  first | (refine ob2_1 (S.ents (a, P) (by simp)) fun o e po => ?_) | (refine ob1_2 (S.ents (a, P) (by simp)) fun o e po => ?_) | (refine ob0_3 (S.ents (a, P) (by simp)) fun o e po => ?_) | obtain ⟨o, e, po⟩ := S.ents (a, P) (by simp)
  have e : h.get? a = some o := e
  have hB : B a = none := S.apart a (by simp)
  have hh : h₀.get? a = none := S.fresh a (by simp) hW
  have hnd := List.nodup_cons.mp ((List.Perm.nodup_iff List.perm_middle).mp (show (own ++ a :: ps.map (·.1)).Nodup from S.nodup))
  have le : B.le (fun b => if b = a then some o else B b) := fun b o' eb => by
    by_cases q : b = a
    · rw [q, hB] at eb; cases eb
    · show (if b = a then some o else B b) = _
      rw [if_neg q]; exact eb
  refine ⟨fun b => if b = a then some o else B b, le, ⟨o, by simp, po⟩, ?_⟩
  exact {
    mono := S.mono.trans le
    sub := fun b o' eb => by
      by_cases q : b = a
      · subst q; simp only [if_true] at eb; rw [← eb]; exact e
      · simp only [if_neg q] at eb; exact S.sub b o' eb
    keep := S.keep
    off := fun b o' eb hb => by
      by_cases q : b = a
      · rw [q, hh] at eb; cases eb
      · show (if b = a then some o else B b) = _
        rw [if_neg q]; exact S.off b o' eb hb
    live := S.live
    lo := S.lo
    ents := fun p hp => S.ents p (List.mem_cons_of_mem _ hp)
    nodup := hnd.2
    apart := fun b hb => by
      show (if b = a then some o else B b) = _
      rw [if_neg (fun (q : b = a) => hnd.1 (by rw [← q]; exact hb))]
      refine S.apart b ?_
      exact List.perm_middle.mem_iff.mpr (List.mem_cons_of_mem _ hb)
    fresh := fun b hb hbW => S.fresh b (List.perm_middle.mem_iff.mpr (List.mem_cons_of_mem _ hb)) hbW
    there := S.there
    wex := S.wex }

theorem Ext.alloc {a : Addr} {o : Obj} (s : B.In h) (hn : h.get? a = none) (k : ∀ b o, h.get? b = some o → h'.get? b = some o) (e : h'.get? a = some o) :
    ∃ B', Ext B h B' h' ∧ B' a = some o := by
  have hB : B a = none := by
    cases q : B a with
    | none => rfl
    | some o => have := s a o q; rw [hn] at this; cases this
  refine ⟨fun b => if b = a then some o else B b, ⟨fun b o' eb => ?_, fun b o' eb => ?_, k, fun b o' eb hb => ?_⟩, by simp⟩
  · show (if b = a then some o else B b) = _
    rw [if_neg fun q => by rw [q, hB] at eb; cases eb]; exact eb
  · by_cases q : b = a
    · subst q; simp only [if_true] at eb; rw [← eb]; exact e
    · simp only [if_neg q] at eb; exact k _ _ (s b o' eb)
  · show (if b = a then some o else B b) = _
    rw [if_neg fun q => by rw [q, hn] at eb; cases eb]; exact hb

theorem Ext.keeps (s : B.In h) (k : ∀ b o, h.get? b = some o → h'.get? b = some o) : Ext B h B h' := ⟨.rfl, fun b o e => k b o (s b o e), k, fun _ _ _ n => n⟩

/-- a step of a callee that may change W' -/
theorem Fm.extW {W' : List Addr} {ps' : List Ent} (S : Fm W B₀ h₀ own env B m ps h) (x : ExtW W' B h B' h') (hL : env.locals ∉ W') (hC : ∀ y c, (y, c) ∈ env.cells → c ∉ W')
    (hO : ∀ a ∈ own, a ∉ W') (hW : ∀ a ∈ W', a ∈ ps.map (·.1)) (hps : ps'.map (·.1) = ps.map (·.1)) (he : Ents ps' h') : Fm W B₀ h₀ own env B' m ps' h' where
  mono := S.mono.trans x.le
  sub := x.sub
  keep := fun b o hb e => x.keep b o (fun q => by
    have := S.fresh b (List.mem_append_right _ (hW b q)) hb
    rw [this] at e; cases e) (S.keep b o hb e)
  off := fun b o e n => let ⟨o', e'⟩ := S.live b o e; x.off b o' e' (S.off b o e n)
  live := fun b o e => let ⟨o', e'⟩ := S.live b o e; x.live b o' e'
  lo := S.lo.keepsBut W' hL hC x.keep
  ents := he
  nodup := by rw [hps]; exact S.nodup
  apart := fun a ha => by
    rw [hps] at ha
    have n := S.apart a ha
    rcases List.mem_append.mp ha with h1 | h1
    · obtain ⟨o, e⟩ := S.there a h1; exact x.off a o e n
    · first | (refine ob2_1 (List.mem_map.mp h1) fun p hp zr7 => ?_; subst zr7) | (refine ob1_2 (List.mem_map.mp h1) fun p hp zr8 => ?_; subst zr8) | (refine ob0_3 (List.mem_map.mp h1) fun p hp zr9 => ?_; subst zr9) | obtain ⟨p, hp, rfl⟩ := List.mem_map.mp h1
      obtain ⟨o, e, _⟩ := S.ents p hp; exact x.off _ o e n
  fresh := by rw [hps]; exact S.fresh
  there := fun a ha => let ⟨o, e⟩ := S.there a ha; ⟨o, x.keep _ _ (hO a ha) e⟩
  wex := S.wex

/-- new things: none of W, no cell -/
noncomputable def NewW (W : List Addr) (env : Env) (wr : List Addr) : Prop := (∀ a ∈ wr, a ∉ W) ∧ ∀ x c, (x, c) ∈ env.cells → c ∉ wr
theorem Fm.newW {wr : List Addr} (S : Fm W B₀ h₀ own env B m ps h) (hn : ∀ a ∈ wr, h.get? a = none) : NewW W env wr :=
  ⟨fun a ha q => (by
    first | (refine ob1_1 (S.wex a q) fun o e => ?_) | (refine ob0_2 (S.wex a q) fun o e => ?_) | obtain ⟨o, e⟩ := S.wex a q
    first | (refine ob1_1 (S.live a o e) fun o' e' => ?_) | (refine ob0_2 (S.live a o e) fun o' e' => ?_) | obtain ⟨o', e'⟩ := S.live a o e
    rw [hn a ha] at e'; cases e'), fun x c hm q => (by
    first | (refine ob1_1 (S.lo.ex x c hm) fun o e => ?_) | (refine ob0_2 (S.lo.ex x c hm) fun o e => ?_) | obtain ⟨o, e⟩ := S.lo.ex x c hm
    rw [hn c q] at e; cases e)⟩
end
/-! loads, stores, the top's names, a call's start -/

/-- what is known of the top at a base -/
noncomputable def Tp (K : Frag) (B : Base) : Prop :=
  ∃ h₁ : Heap, (∀ b o, h₁.get? b = some o → B b = some o) ∧ K.In h₁ ∧ (∃ mg, h₁.Ns mainGlobals mg) ∧
    (∃ mb, h₁.Ns builtinsNs mb ∧ ∀ x : Str, x ≠ "__name__" → mb x = bootBuiltins x) ∧ h₁.NoLimit
theorem Tp.le {K : Frag} {B B' : Base} (T : Tp K B) (l : B.le B') : Tp K B' :=
  let ⟨h₁, a, r⟩ := T; ⟨h₁, fun b o e => l b o (a b o e), r⟩
theorem Tp.k {K : Frag} {B : Base} {h : Heap} (T : Tp K B) (s : B.In h) : K.In h :=
  let ⟨_, a, k, _⟩ := T; k.keeps fun b o e => s b o (a b o e)
theorem Tp.g {K : Frag} {B : Base} {h : Heap} (T : Tp K B) (s : B.In h) : ∃ mg, h.Ns mainGlobals mg :=
  let ⟨_, a, _, ⟨mg, g⟩, _⟩ := T; ⟨mg, g.keeps fun b o e => s b o (a b o e)⟩
theorem Tp.b {K : Frag} {B : Base} {h : Heap} (T : Tp K B) (s : B.In h) : ∃ mb, h.Ns builtinsNs mb ∧ ∀ x : Str, x ≠ "__name__" → mb x = bootBuiltins x :=
  let ⟨_, a, _, _, ⟨mb, g, q⟩, _⟩ := T; ⟨mb, g.keeps (fun b o e => s b o (a b o e)), q⟩
theorem Tp.lim {K : Frag} {B : Base} {h : Heap} (T : Tp K B) (s : B.In h) : h.NoLimit :=
  let ⟨_, a, _, _, _, l⟩ := T; l.keeps fun b o e => s b o (a b o e)
theorem Tp.obj {K : Frag} {B : Base} (T : Tp K B) {a : Addr} {o : Obj} (e : K.lookup a = some o) : B a = some o :=
  let ⟨_, q, k, _⟩ := T; q a o (k a o e)

/-- a state by its heap and its count of marks -/
noncomputable def mk (s : Shared) (h : Heap) (tk : Nat) : Shared := { s with heap := h, toks := tk }
theorem mk_self (s : Shared) : mk s s.heap s.toks = s := rfl

/-- room for n frames more -/
structure Room (n : Nat) (A : Around) : Prop where
  quiet : A.handled = none
  depth : A.depth + n < recursionLimit
  units : A.units + 16 * n + 200 < cLine
theorem Room.le {n k : Nat} {A : Around} (r : Room n A) (h : k ≤ n) : Room k A := ⟨r.quiet, by have := r.depth; exact om1 h this, by have := r.units; exact om2 h this⟩
theorem Room.deeper {n : Nat} {A : Around} (r : Room (n + 1) A) (env : Env) : Room n (A.deeper env) :=
  ⟨r.quiet, by have := r.depth; show A.depth + 1 + n < _; exact om3 this, by have := r.units; show A.units + 3 + 16 * n + 200 < _; exact om4 this⟩

section
variable {M : Model} {A : Around} {E : Value → Shared → Prop} {s : Shared} {K : Frag} {tk : Nat}
variable {W : List Addr} {B₀ B B' : Base} {h₀ h h' : Heap} {own : List Addr} {env : Env} {m : Str → Option Value} {ps : List Ent} {x : Str} {pos : Pos} {v : Value}

theorem ldnL {Q : Value → Shared → Prop} (S : Fm W B₀ h₀ own env B m ps h) (hv : m x = some v) (hq : Q v (mk s h tk))
    (hk : env.scope.kind = .function := by rfl) (hx : env.kindOf x = some .local := by rfl) : wpAny M A (loadName env x) Q E (mk s h tk) := by
  first | (refine ob2_1 (S.lo.ns) fun mL hn hm => ?_) | (refine ob1_2 (S.lo.ns) fun mL hn hm => ?_) | (refine ob0_3 (S.lo.ns) fun mL hn hm => ?_) | obtain ⟨mL, hn, hm⟩ := S.lo.ns
  exact wpAny_loadName_local hk hx hn (hm x v hx hv) hq
theorem ldnC {Q : Value → Shared → Prop} {c : Addr} (S : Fm W B₀ h₀ own env B m ps h) (hv : m x = some v) (hq : Q v (mk s h tk))
    (hk : env.scope.kind = .function := by rfl) (hx : env.kindOf x = some .cell := by rfl) (hc : env.cells.lookup x = some c := by rfl) : wpAny M A (loadName env x) Q E (mk s h tk) := by
  first | (refine ob2_1 (S.lo.cell x c hx hc) fun v₀ a b => ?_) | (refine ob1_2 (S.lo.cell x c hx hc) fun v₀ a b => ?_) | (refine ob0_3 (S.lo.cell x c hx hc) fun v₀ a b => ?_) | obtain ⟨v₀, a, b⟩ := S.lo.cell x c hx hc
  rw [b v hv] at a
  exact wpAny_loadName_cell hk hx hc a hq
theorem ldL {Q : Value → Shared → Prop} (S : Fm W B₀ h₀ own env B m ps h) (hv : m x = some v) (hq : Q v (mk s h tk))
    (hk : env.scope.kind = .function := by rfl) (hx : env.kindOf x = some .local := by rfl) (hd : (x == ("__debug__" : Str)) = false := by decide) :
    wpAny M A (eval (.Name x pos) env) Q E (mk s h tk) := wpAny_Name (ldnL S hv hq hk hx) hd
theorem ldC {Q : Value → Shared → Prop} {c : Addr} (S : Fm W B₀ h₀ own env B m ps h) (hv : m x = some v) (hq : Q v (mk s h tk))
    (hk : env.scope.kind = .function := by rfl) (hx : env.kindOf x = some .cell := by rfl) (hc : env.cells.lookup x = some c := by rfl) (hd : (x == ("__debug__" : Str)) = false := by decide) :
    wpAny M A (eval (.Name x pos) env) Q E (mk s h tk) := wpAny_Name (ldnC S hv hq hk hx hc) hd

theorem ldG {Q : Value → Shared → Prop} (S : Fm W B₀ h₀ own env B m ps h) (T : Tp K B₀) (e : nsIn K mainGlobals x = some (some v)) (hq : Q v (mk s h tk))
    (hk : env.scope.kind = .function := by rfl) (hx : env.kindOf x = some .globalImplicit := by rfl) (hg : env.globals = mainGlobals := by rfl) (hd : (x == ("__debug__" : Str)) = false := by decide) :
    wpAny M A (eval (.Name x pos) env) Q E (mk s h tk) := by
  first | (refine ob1_1 (T.g (S.sub.of_le S.mono)) fun mg g => ?_) | (refine ob0_2 (T.g (S.sub.of_le S.mono)) fun mg g => ?_) | obtain ⟨mg, g⟩ := T.g (S.sub.of_le S.mono)
  exact Calls.Name_function_global hk hx (Calls.loadGlobal_global (hg ▸ g) (mg_of (T.k (S.sub.of_le S.mono)) g e) hq) hd
theorem ldB {Q : Value → Shared → Prop} (S : Fm W B₀ h₀ own env B m ps h) (T : Tp K B₀) (e : nsIn K mainGlobals x = some none) (hv : bootBuiltins x = some v) (hn : x ≠ "__name__") (hq : Q v (mk s h tk))
    (hk : env.scope.kind = .function := by rfl) (hx : env.kindOf x = some .globalImplicit := by rfl) (hg : env.globals = mainGlobals := by rfl) (hb : env.builtins = builtinsNs := by rfl)
    (hd : (x == ("__debug__" : Str)) = false := by decide) : wpAny M A (eval (.Name x pos) env) Q E (mk s h tk) := by
  first | (refine ob1_1 (T.g (S.sub.of_le S.mono)) fun mg g => ?_) | (refine ob0_2 (T.g (S.sub.of_le S.mono)) fun mg g => ?_) | obtain ⟨mg, g⟩ := T.g (S.sub.of_le S.mono)
  first | (refine ob2_1 (T.b (S.sub.of_le S.mono)) fun mb b q => ?_) | (refine ob1_2 (T.b (S.sub.of_le S.mono)) fun mb b q => ?_) | (refine ob0_3 (T.b (S.sub.of_le S.mono)) fun mb b q => ?_) | obtain ⟨mb, b, q⟩ := T.b (S.sub.of_le S.mono)
  exact Calls.Name_function_global hk hx (Calls.loadGlobal_builtin (hg ▸ g) (mg_none_of (T.k (S.sub.of_le S.mono)) g e) (hb ▸ b) ((q x hn).trans hv) hq) hd

/-- m with one name told anew -/
abbrev upd (m : Str → Option Value) (x : Str) (v : Value) : Str → Option Value := fun y => if y = x then some v else m y

theorem Lo.setL {mL' : Str → Option Value} (x : Lo env m h) (y : Str) (v : Value) (hy : env.kindOf y = some .local) (hn : h'.Ns env.locals mL') (hm : ∀ z u, env.kindOf z = some .local → upd m y v z = some u → mL' z = some u)
    (k : ∀ b o, b ≠ env.locals → h.get? b = some o → h'.get? b = some o) : Lo env (upd m y v) h' :=
  ⟨⟨mL', hn, hm⟩, fun z c hk hc => by
    have : z ≠ y := fun q => by rw [q, hy] at hk; cases hk
    rw [show upd m y v z = m z from if_neg this]
    first | (refine ob2_1 (x.cell z c hk hc) fun v₀ a b => ?_) | (refine ob1_2 (x.cell z c hk hc) fun v₀ a b => ?_) | (refine ob0_3 (x.cell z c hk hc) fun v₀ a b => ?_) | obtain ⟨v₀, a, b⟩ := x.cell z c hk hc
    exact ⟨v₀, IsCell_keeps a fun o e => k c o (x.ne z c (mem_of_lookup hc)) e, b⟩, x.apart, x.ne, fun z c hm => let ⟨o, e⟩ := x.ex z c hm; ⟨o, k _ _ (x.ne z c hm) e⟩⟩

theorem st_L {Q : Unit → Shared → Prop} (S : Fm W B₀ h₀ own env B m ps h) (hL : env.locals ∈ own)
    (hq : ∀ h' tk, Fm W B₀ h₀ own env B (upd m x v) ps h' → Q () (mk s h' tk))
    (hk : env.scope.kind = .function := by rfl) (hx : env.kindOf x = some .local := by rfl) : wpAny M A (storeName env x v) Q E (mk s h tk) := by
  first | (refine ob2_1 (S.lo.ns) fun mL hn hm => ?_) | (refine ob1_2 (S.lo.ns) fun mL hn hm => ?_) | (refine ob0_3 (S.lo.ns) fun mL hn hm => ?_) | obtain ⟨mL, hn, hm⟩ := S.lo.ns
  refine wpAny_storeName_local hx hn (fun h' hn' hs => hq h' _ ?_) (by rw [hk]; rfl)
  have k : ∀ b o, b ≠ env.locals → h.get? b = some o → h'.get? b = some o := hs.extBut
  refine S.chg (List.mem_append_left _ hL) k ?_ rfl ?_ ?_
  · obtain ⟨o, _, _, ho, _⟩ := hn'; exact ⟨o, ho⟩
  · intro p hp
    first | (refine ob2_1 (S.ents p hp) fun o e q => ?_) | (refine ob1_2 (S.ents p hp) fun o e q => ?_) | (refine ob0_3 (S.ents p hp) fun o e q => ?_) | obtain ⟨o, e, q⟩ := S.ents p hp
    refine ⟨o, k _ _ (fun z => ?_) e, q⟩
    exact (List.nodup_append.mp S.nodup).2.2 _ hL p.1 (List.mem_map_of_mem hp) z.symm
  · exact S.lo.setL x v hx hn' (fun z u hz hu => by
      show (if z = x then some v else mL z) = _
      by_cases q : z = x
      · simpa [upd, q] using hu
      · rw [if_neg q]; exact hm z u hz (by simpa [upd, q] using hu)) k

theorem st_C {Q : Unit → Shared → Prop} {c : Addr} (S : Fm W B₀ h₀ own env B m ps h) (hL : c ∈ own)
    (hq : ∀ h' tk, Fm W B₀ h₀ own env B (upd m x v) ps h' → Q () (mk s h' tk))
    (hk : env.scope.kind = .function := by rfl) (hx : env.kindOf x = some .cell := by rfl) (hc : env.cells.lookup x = some c := by rfl) : wpAny M A (storeName env x v) Q E (mk s h tk) := by
  first | (refine ob2_1 (S.lo.cell x c hx hc) fun v₀ cv _ => ?_) | (refine ob1_2 (S.lo.cell x c hx hc) fun v₀ cv _ => ?_) | (refine ob0_3 (S.lo.cell x c hx hc) fun v₀ cv _ => ?_) | obtain ⟨v₀, cv, _⟩ := S.lo.cell x c hx hc
  refine wpAny_storeName_cell hk hx hc cv fun h' hc' hs => hq h' _ ?_
  have k : ∀ b o, b ≠ c → h.get? b = some o → h'.get? b = some o := hs.extBut
  refine S.chg (List.mem_append_left _ hL) k ?_ rfl ?_ ?_
  · obtain ⟨o, ho, _⟩ := hc'; exact ⟨o, ho⟩
  · intro p hp
    first | (refine ob2_1 (S.ents p hp) fun o e q => ?_) | (refine ob1_2 (S.ents p hp) fun o e q => ?_) | (refine ob0_3 (S.ents p hp) fun o e q => ?_) | obtain ⟨o, e, q⟩ := S.ents p hp
    refine ⟨o, k _ _ (fun z => ?_) e, q⟩
    exact (List.nodup_append.mp S.nodup).2.2 _ hL p.1 (List.mem_map_of_mem hp) z.symm
  · first | (refine ob2_1 (S.lo.ns) fun mL hn hm => ?_) | (refine ob1_2 (S.lo.ns) fun mL hn hm => ?_) | (refine ob0_3 (S.lo.ns) fun mL hn hm => ?_) | obtain ⟨mL, hn, hm⟩ := S.lo.ns
    refine ⟨⟨mL, hn.at' fun o e => k _ o (Ne.symm (S.lo.ne x c (mem_of_lookup hc))) e, fun z u hz hu => ?_⟩, fun z c' hz hc'' => ?_, S.lo.apart, S.lo.ne, fun z c' hm => ?_⟩
    · have : z ≠ x := fun q => by rw [q, hx] at hz; cases hz
      rw [show upd m x v z = m z from if_neg this] at hu; exact hm z u hz hu
    · by_cases q : z = x
      · subst q
        rw [hc] at hc''; cases hc''
        exact ⟨_, hc', fun u hu => by simpa [upd] using hu⟩
      · rw [show upd m x v z = m z from if_neg q]
        first | (refine ob2_1 (S.lo.cell z c' hz hc'') fun v₁ cv' b => ?_) | (refine ob1_2 (S.lo.cell z c' hz hc'') fun v₁ cv' b => ?_) | (refine ob0_3 (S.lo.cell z c' hz hc'') fun v₁ cv' b => ?_) | obtain ⟨v₁, cv', b⟩ := S.lo.cell z c' hz hc''
        refine ⟨v₁, IsCell_keeps cv' fun o e => ?_, b⟩
        exact (fun o e => k c' o (fun q' => q (name_of_addr S.lo.apart (mem_of_lookup hc'') (q' ▸ mem_of_lookup hc))) e) o e
    · by_cases q : c' = c
      · obtain ⟨o, ho, _⟩ := hc'; exact ⟨o, q ▸ ho⟩
      · obtain ⟨o, e⟩ := S.lo.ex z c' hm; exact ⟨o, k _ _ q e⟩
end

theorem bindL_eq {kindOf : Str → Option NameKind} {x : Str} (hx : kindOf x = some .local) : ∀ (binds : List (Str × Value)) (m : Str → Option Value),
    bindL kindOf binds m x = (binds.reverse.lookup x).or (m x) := by
  intro binds; induction binds with
  | nil => exact fun m => by simp [bindL]
  | cons p r ih =>
    obtain ⟨n, v⟩ := p; intro m; rw [bindL, ih, List.reverse_cons, List.lookup_append, Option.or_assoc]
    congr 1
    by_cases q : x = n
    · subst q; rw [if_pos hx]; simp
    · have h' : (x == n) = false := by simpa using q
      split <;> simp [List.lookup, h', q]
theorem bindC_eq {kindOf : Str → Option NameKind} {x : Str} (hx : kindOf x = some .cell) : ∀ (binds : List (Str × Value)) (m : Str → Option Value),
    bindC kindOf binds m x = (binds.reverse.lookup x).or (m x) := by
  intro binds; induction binds with
  | nil => exact fun m => by simp [bindC]
  | cons p r ih =>
    obtain ⟨n, v⟩ := p; intro m; rw [bindC, ih, List.reverse_cons, List.lookup_append, Option.or_assoc]
    congr 1
    by_cases q : x = n
    · subst q; rw [if_neg (by rw [hx]; simp)]; simp
    · have h' : (x == n) = false := by simpa using q
      split <;> simp [List.lookup, h', q]

abbrev ownOf (env : Env) : List Addr := env.locals :: env.cells.map (·.2)

section
variable {prog : Program} {w : World} {A : Around} {E : Value → Shared → Prop} {s : Shared} {K : Frag} {B : Base}
  {name qual : Str} {params : Arguments} {body : List Stmt} {scope : Scope} {dV kV doc pm cdv ct oc : Value} {an od : Option Addr} {osl : Array (Option Value)} {f : Addr} {vals : List Value} {binds : List (Str × Value)}

theorem cells_pairwise_nodup : ∀ {cs : List (Str × Addr)}, (cs.Pairwise fun x y => x.2 ≠ y.2) → (cs.map (·.2)).Nodup
  | [], _ => .nil
  | c :: r, h => by
    first | (refine ob1_1 (List.pairwise_cons.mp h) fun a b => ?_) | (refine ob0_2 (List.pairwise_cons.mp h) fun a b => ?_) | obtain ⟨a, b⟩ := List.pairwise_cons.mp h
    rw [List.map_cons, List.nodup_cons]
    exact ⟨fun q => by obtain ⟨d, hd, e⟩ := List.mem_map.mp q; exact a d hd e.symm, cells_pairwise_nodup b⟩

theorem cellsFrom_fst : ∀ (names : List (Str × NameKind)) (n n' : Nat) (acc acc' : List (Str × Addr)), acc.map (·.1) = acc'.map (·.1) →
    (cellsFrom n names acc).map (·.1) = (cellsFrom n' names acc').map (·.1) := by
  intro names; induction names with
  | nil => exact fun _ _ _ _ e => e
  | cons p r ih =>
    obtain ⟨x, k⟩ := p; intro n n' acc acc' e; unfold cellsFrom
    split
    · exact ih _ _ _ _ (by simp [e])
    · exact ih _ _ _ _ e
theorem lookup_of_nodup {l : List (Str × Addr)} : ∀ {n : Str} {c : Addr}, (l.map (·.1)).Nodup → (n, c) ∈ l → l.lookup n = some c := by
  induction l with
  | nil => exact fun _ h => absurd h List.not_mem_nil
  | cons p r ih =>
    obtain ⟨k, d⟩ := p; intro n c hn hm; rw [List.map_cons, List.nodup_cons] at hn
    rw [List.lookup_cons]
    rcases List.mem_cons.mp hm with e | hm
    · cases e; simp
    · have : (n == k) = false := by
        rw [beq_eq_false_iff_ne]; intro q; have h3 : n ∈ r.map (·.1) := List.mem_map_of_mem hm; exact hn.1 (q ▸ h3)
      rw [this]; exact ih hn.2 hm

/-- the start of a call: the objects ps are handed over -/
theorem enter {hp : Heap} {tk₀ : Nat} {Q : Value → Shared → Prop} (ps : List Ent) (T : Tp K B) (sub : B.In hp) (he : Ents ps hp) (hnd : (ps.map (·.1)).Nodup) (hB : ∀ a ∈ ps.map (·.1), B a = none)
    (hf : K.lookup f = some ⟨oc, od, .func (fnOf name qual params body scope dV kV doc pm an cdv ct), osl⟩) (hcd : codeIn K cdv qual = true) (hroom : A.depth < recursionLimit)
    (hbind : bindArgs (fnOf name qual params body scope dV kV doc pm an cdv ct) ⟨vals, []⟩ = pure binds)
    (hkind : ∀ n, ∀ x ∈ binds, scope.names.lookup x.1 = some .local ∨ (scope.names.lookup x.1 = some .cell ∧ ((cellsFrom n scope.names []).lookup x.1).isSome = true))
    (h : ∀ L h' tk, hp.objs.size ≤ L → Fm (ps.map (·.1)) B hp (ownOf (envX qual scope L f cdv (cellsFrom (L + 1) scope.names []))) (envX qual scope L f cdv (cellsFrom (L + 1) scope.names [])) B (fun x => binds.reverse.lookup x) ps h' →
      wpAny (model prog w) (A.deeper (envX qual scope L f cdv (cellsFrom (L + 1) scope.names []))) (execs body (envX qual scope L f cdv (cellsFrom (L + 1) scope.names [])))
        (fun fl s' => Q (match fl with | .ret v => v | _ => .none) s') (fun _ _ => False) (mk s h' tk))
    (hcn : ((cellsFrom 0 scope.names []).map (·.1)).Nodup) (hco : scope.isCoroutine = false) (hgen : scope.isGenerator = false) (hk : scope.kind = .function) :
    wpAny (model prog w) A (call (.ref f) vals) Q E (mk s hp tk₀) := by
  refine wpAny_call (codeAny_call_cells (fd := fnOf name qual params body scope dV kV doc pm an cdv ct) (body := body) (binds := binds) hroom ((T.k sub) _ _ hf) rfl (T.lim sub) (codeRec_of (T.k sub) hcd) rfl hbind rfl (hkind _) (fun s₁ X => ?_) hco hgen hk)
  first | (refine ob2_1 (X.toInCall.same) fun h₁ tk hs => ?_) | (refine ob1_2 (X.toInCall.same) fun h₁ tk hs => ?_) | (refine ob0_3 (X.toInCall.same) fun h₁ tk hs => ?_) | obtain ⟨h₁, tk, hs⟩ := X.toInCall.same
  have hs : s₁ = mk s h₁ tk := hs
  subst hs
  let env := envX qual scope hp.objs.size f cdv (cellsFrom (hp.objs.size + 1) scope.names [])
  have X' : InCallC (mk s hp tk₀) env.locals (bindL env.kindOf binds fun _ => none) env.cells (bindC env.kindOf binds fun _ => none) (mk s h₁ tk) := X
  have none_of : ∀ a, hp.objs.size ≤ a → hp.get? a = none := fun a ha => by
    cases e : hp.get? a with
    | none => rfl
    | some o' => exact absurd (Heap.lt_size e) (Nat.not_lt.mpr ha)
  have own_ge : ∀ a ∈ ownOf env, hp.objs.size ≤ a := fun a ha => by
    rcases List.mem_cons.mp ha with q | q
    · exact Nat.le_of_eq q.symm
    · first | (refine ob0_3 (List.mem_map.mp q) fun zn10 hc zr11 => ?_; obtain ⟨n, c⟩ := zn10; subst zr11) | obtain ⟨⟨n, c⟩, hc, rfl⟩ := List.mem_map.mp q
      exact Nat.le_of_lt (X'.above n c hc)
  have ps_lt : ∀ a ∈ ps.map (·.1), a < hp.objs.size := fun a ha => by
    first | (refine ob2_1 (List.mem_map.mp ha) fun p hp zr12 => ?_; subst zr12) | (refine ob1_2 (List.mem_map.mp ha) fun p hp zr13 => ?_; subst zr13) | (refine ob0_3 (List.mem_map.mp ha) fun p hp zr14 => ?_; subst zr14) | obtain ⟨p, hp, rfl⟩ := List.mem_map.mp ha
    first | (refine ob2_1 (he p hp) fun o e _ => ?_) | (refine ob1_2 (he p hp) fun o e _ => ?_) | (refine ob0_3 (he p hp) fun o e _ => ?_) | obtain ⟨o, e, _⟩ := he p hp
    exact Heap.lt_size e
  have cex : ∀ n c, (n, c) ∈ env.cells → ∃ o, h₁.get? c = some o := fun n c hc => by
    have hl : env.cells.lookup n = some c := lookup_of_nodup (by
      show ((cellsFrom (hp.objs.size + 1) scope.names []).map (·.1)).Nodup
      rw [cellsFrom_fst scope.names _ 0 [] [] rfl]; exact hcn) hc
    first | (refine ob2_1 (X'.cell n c hl) fun o ho _ => ?_) | (refine ob1_2 (X'.cell n c hl) fun o ho _ => ?_) | (refine ob0_3 (X'.cell n c hl) fun o ho _ => ?_) | obtain ⟨o, ho, _⟩ := X'.cell n c hl
    exact ⟨o, ho⟩
  have S : Fm (ps.map (·.1)) B hp (ownOf env) env B (fun x => binds.reverse.lookup x) ps h₁ := {
    mono := .rfl
    sub := fun b o e => X'.toInCall.keep b o (sub b o e)
    keep := fun b o _ e => X'.toInCall.keep b o e
    off := fun _ _ _ n => n
    live := fun b o e => ⟨o, X'.toInCall.keep b o e⟩
    lo := ⟨⟨_, X'.toInCall.ns, fun x v hx hv => by rw [bindL_eq hx]; simpa using hv⟩, fun x c hx hc => by
      have := X'.cell x c hc
      rw [bindC_eq hx] at this
      have : h₁.IsCell c ((binds.reverse.lookup x).or none) := this
      exact ⟨_, this, fun v hv => by simpa using hv⟩, X'.apart, fun x c hc => Nat.ne_of_gt (X'.above x c hc), cex⟩
    ents := fun p hp => let ⟨o, e, q⟩ := he p hp; ⟨o, X'.toInCall.keep _ _ e, q⟩
    nodup := by
      refine List.nodup_append.mpr ⟨?_, hnd, fun a ha b hb q => ?_⟩
      · refine List.nodup_cons.mpr ⟨fun q => ?_, cells_pairwise_nodup X'.apart⟩
        first | (refine ob0_3 (List.mem_map.mp q) fun zn15 hc e => ?_; obtain ⟨n, c⟩ := zn15) | obtain ⟨⟨n, c⟩, hc, e⟩ := List.mem_map.mp q
        exact Nat.ne_of_gt (X'.above n c hc) e
      · have h1 := own_ge a ha
        have h2 := ps_lt b hb
        rw [q] at h1
        exact absurd h2 (Nat.not_lt.mpr h1)
    apart := fun a ha => by
      rcases List.mem_append.mp ha with q | q
      · cases e : B a with
        | none => rfl
        | some o => have := sub a o e; rw [none_of a (own_ge a q)] at this; cases this
      · exact hB a q
    fresh := fun a ha hW => by
      rcases List.mem_append.mp ha with q | q
      · exact none_of a (own_ge a q)
      · exact absurd q hW
    there := fun a ha => by
      rcases List.mem_cons.mp ha with q | q
      · obtain ⟨o, _, _, ho, _⟩ := X'.toInCall.ns; exact ⟨o, q ▸ ho⟩
      · first | (refine ob0_3 (List.mem_map.mp q) fun zn16 hc zr17 => ?_; obtain ⟨n, c⟩ := zn16; subst zr17) | obtain ⟨⟨n, c⟩, hc, rfl⟩ := List.mem_map.mp q
        exact cex n c hc
    wex := fun a ha => by
      first | (refine ob2_1 (List.mem_map.mp ha) fun p hp' zr18 => ?_; subst zr18) | (refine ob1_2 (List.mem_map.mp ha) fun p hp' zr19 => ?_; subst zr19) | (refine ob0_3 (List.mem_map.mp ha) fun p hp' zr20 => ?_; subst zr20) | obtain ⟨p, hp', rfl⟩ := List.mem_map.mp ha
      first | (refine ob2_1 (he p hp') fun o e _ => ?_) | (refine ob1_2 (he p hp') fun o e _ => ?_) | (refine ob0_3 (he p hp') fun o e _ => ?_) | obtain ⟨o, e, _⟩ := he p hp'
      exact ⟨o, e⟩ }
  exact wpAny_mono (h _ h₁ tk (Nat.le_refl _) S) (fun _ _ q => q) fun _ _ q => q.elim

/-- a def of the top is called by its name -/
theorem callF {M : Model} {Q : Value → Shared → Prop} {pos : Pos} {e : Expr} {rest : List Expr} {env : Env} (T : Tp K B) (hf : fnIn K f = true)
    (h : wpAny M A (spliced (backTo pos (starEach (e :: rest) env))) (fun vs s₁ => B.In s₁.heap ∧ wpAny M A (call (.ref f) vs) Q E s₁) E s)
    (he : starEach (e :: rest) env = (false, eval e env) :: starEach rest env := by rfl) (hplain : (backTo pos (starEach rest env)).any (·.1) = false := by rfl) :
    wpAny M A (callWith pos (.ref f) [] (backTo pos (starEach (e :: rest) env)) []) Q E s := by
  rw [he] at h ⊢
  refine callWith_of (P := B.In) (by show ((false || (backTo pos (starEach rest env)).any (·.1)) || false) = false; rw [hplain]; rfl) (fun h hB => ?_) (Calls.evalArgs_plain h)
  have hk : keepIn K (.ref f) = true := by
    unfold fnIn at hf
    unfold keepIn
    split at hf
    · rename_i q; dsimp only; rw [q]
    · cases hf
  exact keeps_K hk h (T.k hB)
end
/-! expression rules over a frame -/

/-- so many bits at most -/
noncomputable def Sm (k : Nat) (x : Int) : Prop := x.natAbs < 2 ^ k
theorem Sm.le {k l : Nat} {x : Int} (h : Sm k x) (hl : k ≤ l) : Sm l x := Nat.lt_of_lt_of_le h (Nat.pow_le_pow_right (by decide) hl)
theorem Sm.mul {k l : Nat} {x y : Int} (hx : Sm k x) (hy : Sm l y) : Sm (k + l) (x * y) := by
  unfold Sm at *
  rw [Int.natAbs_mul, Nat.pow_add]
  exact Nat.mul_lt_mul'' hx hy
theorem Sm.neg {k : Nat} {x : Int} (hx : Sm k x) : Sm k (-x) := by unfold Sm at *; rwa [Int.natAbs_neg]
theorem Sm.add {k l n : Nat} {x y : Int} (hx : Sm k x) (hy : Sm l y) (h1 : k < n) (h2 : l < n) : Sm n (x + y) := by
  have a : x.natAbs < 2 ^ (n - 1) := Nat.lt_of_lt_of_le hx (Nat.pow_le_pow_right (by decide) (by exact om5 h1))
  have b : y.natAbs < 2 ^ (n - 1) := Nat.lt_of_lt_of_le hy (Nat.pow_le_pow_right (by decide) (by exact om5 h2))
  have e : 2 ^ n = 2 ^ (n - 1) * 2 := by rw [← Nat.pow_succ]; congr 1; exact om6 h2
  have := Int.natAbs_add_le x y
  unfold Sm
  exact om7 a b e
theorem Sm.sub {k l n : Nat} {x y : Int} (hx : Sm k x) (hy : Sm l y) (h1 : k < n) (h2 : l < n) : Sm n (x - y) := by
  rw [Int.sub_eq_add_neg]; exact hx.add hy.neg h1 h2
theorem Sm.lit {x : Int} (k : Nat) (h : x.natAbs < 2 ^ k) : Sm k x := h

section
variable {prog : Program} {w : World} {A : Around} {E : Value → Shared → Prop} {s : Shared} {K : Frag} {tk : Nat}
variable {W : List Addr} {B₀ B B' : Base} {h₀ h h' : Heap} {own : List Addr} {env : Env} {m : Str → Option Value} {ps : List Ent} {x : Str} {pos : Pos} {v : Value}

theorem newAt {h : Heap} : h.get? h.objs.size = none := by
  cases e : h.get? h.objs.size with
  | none => rfl
  | some o => exact absurd (Heap.lt_size e) (Nat.lt_irrefl _)

theorem tup_of {t : Addr} {vs : List Value} {n : Nat} (s : B.In h) (e : B t = some (tupO vs n)) : IsTup h t vs.toArray := ⟨_, s _ _ e, rfl, n, rfl⟩
theorem lst_of {t : Addr} {vs : List Value} {n : Nat} (s : B.In h) (e : B t = some (lstO vs n)) : h.IsList t vs.toArray := ⟨_, s _ _ e, rfl, n, rfl⟩
theorem pln_of {t : Addr} {vs : List Value} {n : Nat} (s : B.In h) (e : B t = some (lstO vs n)) : h.PlainList t vs.toArray := ⟨n, s _ _ e⟩
theorem Fm.plain {a : Addr} {vs : List Value} (S : Fm W B₀ h₀ own env B m ps h) (ha : (a, LstP vs) ∈ ps) : h.PlainList a vs.toArray := by
  first | (refine ob1_2 (S.ents _ ha) fun o e zq => ?_; refine ob1_1 zq fun n zr => ?_; clear zq; subst zr) | (refine ob3_1 (S.ents _ ha) fun o e n zr21 => ?_; subst zr21) | (refine ob2_2 (S.ents _ ha) fun o e n zr22 => ?_; subst zr22) | (refine ob1_3 (S.ents _ ha) fun o e n zr23 => ?_; subst zr23) | (refine ob0_4 (S.ents _ ha) fun o e n zr24 => ?_; subst zr24) | obtain ⟨o, e, n, rfl⟩ := S.ents _ ha
  exact ⟨n, e⟩

theorem mkTup {vs : List Value} {Q : Value → Shared → Prop} (S : Fm W B₀ h₀ own env B m ps h)
    (hq : ∀ B' h' t, B.le B' → B' t = some (tupO vs 0) → Fm W B₀ h₀ own env B' m ps h' → Q (.ref t) (mk s h' tk)) (hsz : vs.length ≤ sizeLine := by exact Nat.le_of_ble_eq_true rfl) :
    wpAny (model prog w) A (newTuple vs) Q E (mk s h tk) := by
  refine wpAny_newObj_type ?_ (by show vs.toArray.size ≤ sizeLine; rw [List.size_toArray]; exact hsz)
  have k : ∀ b o, h.get? b = some o → (h.push (tupO vs 0)).get? b = some o := fun b o e => Heap.get?_push_of_some _ e
  first | (refine ob2_1 (Ext.alloc (a := h.objs.size) (o := tupO vs 0) S.sub newAt k (Heap.get?_push_size _ rfl)) fun B' X e => ?_) | (refine ob1_2 (Ext.alloc (a := h.objs.size) (o := tupO vs 0) S.sub newAt k (Heap.get?_push_size _ rfl)) fun B' X e => ?_) | (refine ob0_3 (Ext.alloc (a := h.objs.size) (o := tupO vs 0) S.sub newAt k (Heap.get?_push_size _ rfl)) fun B' X e => ?_) | obtain ⟨B', X, e⟩ := Ext.alloc (a := h.objs.size) (o := tupO vs 0) S.sub newAt k (Heap.get?_push_size _ rfl)
  exact hq B' _ _ X.le e (S.ext X)

/-- a list display: one's own -/
theorem mkLst {vs : List Value} {Q : Value → Shared → Prop} (S : Fm W B₀ h₀ own env B m ps h)
    (hq : ∀ h' a, h.get? a = none → Fm W B₀ h₀ own env B m ((a, LstP vs) :: ps) h' → Q (.ref a) (mk s h' tk)) (hsz : vs.length ≤ sizeLine := by exact Nat.le_of_ble_eq_true rfl) :
    wpAny (model prog w) A (newList vs) Q E (mk s h tk) := by
  refine wpAny_newObj_type ?_ (by show vs.toArray.size ≤ sizeLine; rw [List.size_toArray]; exact hsz)
  exact hq _ _ newAt (S.push newAt (fun b o e => Heap.get?_push_of_some _ e) (Heap.get?_push_size _ rfl) ⟨0, rfl⟩)
/-- a list display: never changed -/
theorem mkLstB {vs : List Value} {Q : Value → Shared → Prop} (S : Fm W B₀ h₀ own env B m ps h)
    (hq : ∀ B' h' t, B.le B' → B' t = some (lstO vs 0) → Fm W B₀ h₀ own env B' m ps h' → Q (.ref t) (mk s h' tk)) (hsz : vs.length ≤ sizeLine := by exact Nat.le_of_ble_eq_true rfl) :
    wpAny (model prog w) A (newList vs) Q E (mk s h tk) := by
  refine wpAny_newObj_type ?_ (by show vs.toArray.size ≤ sizeLine; rw [List.size_toArray]; exact hsz)
  have k : ∀ b o, h.get? b = some o → (h.push (lstO vs 0)).get? b = some o := fun b o e => Heap.get?_push_of_some _ e
  first | (refine ob2_1 (Ext.alloc (a := h.objs.size) (o := lstO vs 0) S.sub newAt k (Heap.get?_push_size _ rfl)) fun B' X e => ?_) | (refine ob1_2 (Ext.alloc (a := h.objs.size) (o := lstO vs 0) S.sub newAt k (Heap.get?_push_size _ rfl)) fun B' X e => ?_) | (refine ob0_3 (Ext.alloc (a := h.objs.size) (o := lstO vs 0) S.sub newAt k (Heap.get?_push_size _ rfl)) fun B' X e => ?_) | obtain ⟨B', X, e⟩ := Ext.alloc (a := h.objs.size) (o := lstO vs 0) S.sub newAt k (Heap.get?_push_size _ rfl)
  exact hq B' _ _ X.le e (S.ext X)

theorem wpAny_List {elts : List Expr} {pos : Pos} {Q : Value → Shared → Prop}
    (h : wpAny (model prog w) A (spliced (backTo pos (starEach elts env))) (fun vs s₁ => wpAny (model prog w) A (newList vs) Q E s₁) E s) : wpAny (model prog w) A (eval (.List elts pos) env) Q E s := List_ h

/-- an item of a tuple of the base -/
theorem itemT {value slice : Expr} {t : Addr} {vs : List Value} {n : Nat} {k : Int} {u : Tok} {Q : Value → Shared → Prop} (S : Fm W B₀ h₀ own env B m ps h) (ht : B t = some (tupO vs n))
    (h0 : 0 ≤ k) (hk : k < 2 ^ 63) (hx : vs[k.toNat]? = some v) (hq : Q v (mk s h tk))
    (hs : subscripted slice false (.ref t) (.int k u) = operate [.ref t, .int k u] (getItem (.ref t) (.int k u)) := by with_unfolding_all rfl) :
    wpAny (model prog w) A (subscriptTail value slice (.ref t) (.int k u)) Q E (mk s h tk) := by
  have hlt : k.toNat < vs.length := by
    rcases Nat.lt_or_ge k.toNat vs.length with h1 | h1
    · exact h1
    · rw [List.getElem?_eq_none h1] at hx; cases hx
  refine item_tupleT (j := k.toNat) (tup_of S.sub ht) (by exact om8 h0) hk ?_ hx hq hs
  unfold seqIndex?
  have h1 : ¬ k < 0 := by exact om9 h0
  have h2 : k < (vs.length : Int) := by exact om10 hlt
  simp [h1, h0, h2]
/-- an item of a list -/
theorem itemL {value slice : Expr} {t : Addr} {vs : List Value} {k : Int} {u : Tok} {Q : Value → Shared → Prop} (ht : h.PlainList t vs.toArray)
    (h0 : 0 ≤ k) (hk : k < 2 ^ 63) (hx : vs[k.toNat]? = some v) (hq : Q v (mk s h tk))
    (hs : subscripted slice false (.ref t) (.int k u) = operate [.ref t, .int k u] (getItem (.ref t) (.int k u)) := by with_unfolding_all rfl) :
    wpAny (model prog w) A (subscriptTail value slice (.ref t) (.int k u)) Q E (mk s h tk) :=
  tail_any (s := mk s h tk) (T := "list") (Heap.IsList.typeIs (s := mk s h tk) ht.isList) slot_list_getitem.lookup (wpAny_getItem_list (s := mk s h tk) ht.isList h0 hk (by simpa using hx) hq) hs

theorem mulI {a b : Int} {t u : Tok} {Q : Value → Shared → Prop} {k l : Nat} (ha : Sm k a) (hb : Sm l b) (hk : k ≤ 500000) (hl : l ≤ 500000) (hq : ∀ t tk', Q (.int (a * b) t) (mk s h tk')) :
    wpAny (model prog w) A (binaryOp .Mult (.int a t) (.int b u)) Q E (mk s h tk) := by
  have bits : ∀ (x : Int) (k : Nat), k ≤ 500000 → Sm k x → Builtin.Int.intBits x ≤ 2 ^ 20 := fun x k hk hx => by
    have e : (2 : Nat) ^ 20 = 1048576 := by decide
    unfold Builtin.Int.intBits
    split
    · exact Nat.zero_le _
    · rename_i h0
      have h0' : x.natAbs ≠ 0 := by simpa using h0
      have := (Nat.log2_lt h0').mpr hx
      exact om11 hk this
  exact PyProof.Rows.mul_int (hq _ _) (IntMulOk.of_bits (bits a k hk ha) (bits b l hl hb))
theorem divI {a b : Int} {t u : Tok} {Q : Value → Shared → Prop} {k : Nat} (hb : b ≠ 0) (hs : Sm k b) (hk : k ≤ 9000) (hq : ∀ t tk', Q (.int (a.fdiv b) t) (mk s h tk')) :
    wpAny (model prog w) A (binaryOp .FloorDiv (.int a t) (.int b u)) Q E (mk s h tk) :=
  floordiv_int hb (hq _ _) (.inl (PyProof.noPylong_of_log2 (Nat.lt_of_lt_of_le ((Nat.log2_lt (by simpa using hb)).mpr hs) hk)))
theorem addI {a b : Int} {t u : Tok} {Q : Value → Shared → Prop} (hq : ∀ t tk', Q (.int (a + b) t) (mk s h tk')) : wpAny (model prog w) A (binaryOp .Add (.int a t) (.int b u)) Q E (mk s h tk) := PyProof.Rows.add_int (hq _ _)
theorem subI {a b : Int} {t u : Tok} {Q : Value → Shared → Prop} (hq : ∀ t tk', Q (.int (a - b) t) (mk s h tk')) : wpAny (model prog w) A (binaryOp .Sub (.int a t) (.int b u)) Q E (mk s h tk) := PyProof.Rows.sub_int (hq _ _)
theorem modI {a b : Int} {t u : Tok} {Q : Value → Shared → Prop} (hb : b ≠ 0) (hq : ∀ t tk', Q (.int (a.fmod b) t) (mk s h tk')) : wpAny (model prog w) A (binaryOp .Mod (.int a t) (.int b u)) Q E (mk s h tk) := mod_int' hb (hq _ _)
theorem negI {a : Int} {t : Tok} {Q : Value → Shared → Prop} (hq : ∀ t tk', Q (.int (-a) t) (mk s h tk')) : wpAny (model prog w) A (unaryOp .USub (.int a t)) Q E (mk s h tk) := PyProof.Rows.neg_int (hq _ _)
theorem cI {i : Int} {k : Nat} {pos : Pos} {Q : Value → Shared → Prop} (hq : ∀ t tk', Q (.int i t) (mk s h tk')) : wpAny (model prog w) A (eval (.Constant (.int i) k pos) env) Q E (mk s h tk) := wpAny_Constant_int (hq _ _)
theorem absI {a : Int} {t : Tok} {Q : Value → Shared → Prop} (hq : ∀ t tk', Q (.int (a.natAbs : Int) t) (mk s h tk')) : wpAny (model prog w) A (call (.builtin "abs") [.int a t]) Q E (mk s h tk) := by
  refine PyProof.Rows.call_abs_int fun u tk' => ?_
  rw [show (if a < 0 then -a else a) = (a.natAbs : Int) by split <;> (first | with_reducible assumption | with_reducible exact Int.natCast_nonneg _ | lia | omega)]
  exact hq _ _
/-- a tuple of the base, unpacked -/
theorem unpk {t : Addr} {vs : List Value} {n c : Nat} {Q : List Value → Shared → Prop} (hh : A.handled = none) (S : Fm W B₀ h₀ own env B m ps h) (ht : B t = some (tupO vs n)) (hc : c = vs.length)
    (hq : ∀ h', Fm W B₀ h₀ own env B m ps h' → Q vs (mk s h' tk)) : wpAny (model prog w) A (unpackItems (.ref t) c none) Q E (mk s h tk) := by
  subst hc
  have := unpackItems_tuple (prog := prog) (w := w) (A := A) (E := E) (s := mk s h tk) (t := t) (items := vs.toArray) (Q := Q) hh (tup_of S.sub ht) fun h' he =>
    hq h' (S.ext (Ext.keeps S.sub fun b o e => he b o (Nat.ne_of_lt (Heap.lt_size e)) e))
  rw [List.size_toArray] at this
  exact this
theorem asgT {elts : List Expr} {k : Nat} {pos : Pos} {t : Addr} {vs : List Value} {n : Nat} {Q : Unit → Shared → Prop} (hh : A.handled = none) (S : Fm W B₀ h₀ own env B m ps h) (ht : B t = some (tupO vs n))
    (hn : (assignEach elts env).length = vs.length) (hstar : (assignEach elts env).findIdx? (·.1) = none)
    (hq : ∀ h', Fm W B₀ h₀ own env B m ps h' → wpAny (model prog w) A (assignInOrder ((assignEach elts env).map (·.2)) vs) Q E (mk s h' tk)) :
    wpAny (model prog w) A (assign (.Tuple elts k pos) env (.ref t)) Q E (mk s h tk) := by
  first | (refine ob3_1 (tup_of S.sub ht) fun o e c r => ?_) | (refine ob2_2 (tup_of S.sub ht) fun o e c r => ?_) | (refine ob1_3 (tup_of S.sub ht) fun o e c r => ?_) | (refine ob0_4 (tup_of S.sub ht) fun o e c r => ?_) | obtain ⟨o, e, c, r⟩ := tup_of S.sub ht
  exact wpAny_assign_Tuple (s := mk s h tk) (items := vs.toArray) hh ⟨o, e, c, r⟩ (by simpa using hn) hstar fun h' he =>
    hq h' (S.ext (Ext.keeps S.sub fun b o e => he b o (Nat.ne_of_lt (Heap.lt_size e)) e))
end
/-! iterators -/

/-- the objects at wr are as they were in hd -/
noncomputable def Hold (hd : Heap) (wr : List Addr) : List Ent := wr.map fun a => (a, fun o => hd.get? a = some o)
theorem Hold.fst (hd : Heap) (wr : List Addr) : (Hold hd wr).map (·.1) = wr := by simp [Hold, Function.comp_def]

/-- the name may be stored -/
noncomputable def CanSt (env : Env) (own : List Addr) (x : Str) : Prop :=
  ∀ (M : Model) (A : Around) (E : Value → Shared → Prop) (s : Shared) (h : Heap) (tk : Nat) (W : List Addr) (B₀ : Base) (h₀ : Heap) (B : Base) (m : Str → Option Value) (ps : List Ent) (v : Value) (Q : Unit → Shared → Prop),
    Fm W B₀ h₀ own env B m ps h → (∀ h' tk', Fm W B₀ h₀ own env B (upd m x v) ps h' → Q () (mk s h' tk')) → wpAny M A (storeName env x v) Q E (mk s h tk)
theorem canL {env : Env} {own : List Addr} {x : Str} (hL : env.locals ∈ own) (hk : env.scope.kind = .function := by rfl) (hx : env.kindOf x = some .local := by rfl) : CanSt env own x :=
  fun _ _ _ _ _ _ _ _ _ _ _ _ _ _ S hq => st_L S hL hq hk hx
theorem canC {env : Env} {own : List Addr} {x : Str} {c : Addr} (hL : c ∈ own) (hk : env.scope.kind = .function := by rfl) (hx : env.kindOf x = some .cell := by rfl) (hc : env.cells.lookup x = some c := by rfl) : CanSt env own x :=
  fun _ _ _ _ _ _ _ _ _ _ _ _ _ _ S hq => st_C S hL hq hk hx hc

section
variable {W : List Addr} {B₀ B B' : Base} {h₀ h h' : Heap} {own : List Addr} {env : Env} {m : Str → Option Value} {ps : List Ent}

theorem Fm.lt (S : Fm W B₀ h₀ own env B m ps h) {a : Addr} (ha : a ∈ own ++ ps.map (·.1)) : ∃ o, h.get? a = some o := by
  rcases List.mem_append.mp ha with q | q
  · exact S.there a q
  · first | (refine ob2_1 (List.mem_map.mp q) fun p hp zr25 => ?_; subst zr25) | (refine ob1_2 (List.mem_map.mp q) fun p hp zr26 => ?_; subst zr26) | (refine ob0_3 (List.mem_map.mp q) fun p hp zr27 => ?_; subst zr27) | obtain ⟨p, hp, rfl⟩ := List.mem_map.mp q
    obtain ⟨o, e, _⟩ := S.ents p hp; exact ⟨o, e⟩

theorem Fm.held {hd : Heap} {wr : List Addr} (S : Fm W B₀ h₀ own env B m (ps ++ Hold hd wr) h) : ∀ a ∈ wr, ∃ o, h.get? a = some o ∧ hd.get? a = some o := fun a ha => by
  first | (refine ob2_1 (S.ents (a, fun o => hd.get? a = some o) (List.mem_append_right _ (List.mem_map.mpr ⟨a, ha, rfl⟩))) fun o e q => ?_) | (refine ob1_2 (S.ents (a, fun o => hd.get? a = some o) (List.mem_append_right _ (List.mem_map.mpr ⟨a, ha, rfl⟩))) fun o e q => ?_) | (refine ob0_3 (S.ents (a, fun o => hd.get? a = some o) (List.mem_append_right _ (List.mem_map.mpr ⟨a, ha, rfl⟩))) fun o e q => ?_) | obtain ⟨o, e, q⟩ := S.ents (a, fun o => hd.get? a = some o) (List.mem_append_right _ (List.mem_map.mpr ⟨a, ha, rfl⟩))
  exact ⟨o, e, q⟩

/-- the things held, held anew -/
theorem Fm.rehold {hd : Heap} {wr : List Addr} (S : Fm W B₀ h₀ own env B m (ps ++ Hold hd wr) h) : Fm W B₀ h₀ own env B m (ps ++ Hold h wr) h :=
  have e : (ps ++ Hold h wr).map (·.1) = (ps ++ Hold hd wr).map (·.1) := by simp [Hold.fst]
  { S with
    ents := fun p hp => by
      rcases List.mem_append.mp hp with q | q
      · exact S.ents p (List.mem_append_left _ q)
      · first | (refine ob2_1 (List.mem_map.mp q) fun a ha zr28 => ?_; subst zr28) | (refine ob1_2 (List.mem_map.mp q) fun a ha zr29 => ?_; subst zr29) | (refine ob0_3 (List.mem_map.mp q) fun a ha zr30 => ?_; subst zr30) | obtain ⟨a, ha, rfl⟩ := List.mem_map.mp q
        first | (refine ob2_1 (S.held a ha) fun o eo _ => ?_) | (refine ob1_2 (S.held a ha) fun o eo _ => ?_) | (refine ob0_3 (S.held a ha) fun o eo _ => ?_) | obtain ⟨o, eo, _⟩ := S.held a ha
        exact ⟨o, eo, eo⟩
    nodup := by rw [e]; exact S.nodup
    apart := by rw [e]; exact S.apart
    fresh := by rw [e]; exact S.fresh }

/-- the things held are turned -/
theorem Fm.turned {hd : Heap} {wr : List Addr} (S : Fm W B₀ h₀ own env B m (ps ++ Hold hd wr) h) (k : ∀ b o, b ∉ wr → h.get? b = some o → h'.get? b = some o) (ex : ∀ b ∈ wr, ∃ o, h'.get? b = some o)
    (hL : env.locals ∈ own) (hC : ∀ x c, (x, c) ∈ env.cells → c ∉ wr) : Fm W B₀ h₀ own env B m (ps ++ Hold h' wr) h' := by
  have inl : ∀ b ∈ wr, b ∈ (ps ++ Hold hd wr).map (·.1) := fun b hb => by rw [List.map_append, Hold.fst]; exact List.mem_append_right _ hb
  have hO : ∀ a ∈ own, a ∉ wr := fun a ha q => (List.nodup_append.mp S.nodup).2.2 a ha a (inl a q) rfl
  have X : ExtW wr B h B h' := ⟨.rfl, fun b o e => k b o (fun q => by rw [S.apart b (List.mem_append_right _ (inl b q))] at e; cases e) (S.sub b o e), k, fun _ _ _ n => n,
    fun b o e => by by_cases q : b ∈ wr; exact ex b q; exact ⟨o, k b o q e⟩⟩
  refine S.extW X (hO _ hL) hC hO inl (by simp [Hold.fst]) fun p hp => ?_
  rcases List.mem_append.mp hp with q | q
  · first | (refine ob2_1 (S.ents p (List.mem_append_left _ q)) fun o e po => ?_) | (refine ob1_2 (S.ents p (List.mem_append_left _ q)) fun o e po => ?_) | (refine ob0_3 (S.ents p (List.mem_append_left _ q)) fun o e po => ?_) | obtain ⟨o, e, po⟩ := S.ents p (List.mem_append_left _ q)
    refine ⟨o, k _ _ (fun z => ?_) e, po⟩
    have := S.nodup
    rw [List.map_append, Hold.fst, ← List.append_assoc] at this
    exact (List.nodup_append.mp this).2.2 p.1 (List.mem_append_right _ (List.mem_map_of_mem q)) p.1 z rfl
  · first | (refine ob2_1 (List.mem_map.mp q) fun a ha zr31 => ?_; subst zr31) | (refine ob1_2 (List.mem_map.mp q) fun a ha zr32 => ?_; subst zr32) | (refine ob0_3 (List.mem_map.mp q) fun a ha zr33 => ?_; subst zr33) | obtain ⟨a, ha, rfl⟩ := List.mem_map.mp q
    first | (refine ob1_1 (ex a ha) fun o e => ?_) | (refine ob0_2 (ex a ha) fun o e => ?_) | obtain ⟨o, e⟩ := ex a ha
    exact ⟨o, e, e⟩

/-- the things held are let go -/
theorem Fm.gone {hd : Heap} {wr : List Addr} (S : Fm W B₀ h₀ own env B m (ps ++ Hold hd wr) h) (k : ∀ b o, b ∉ wr → h.get? b = some o → h'.get? b = some o)
    (hL : env.locals ∈ own) (hC : ∀ x c, (x, c) ∈ env.cells → c ∉ wr) (hW : ∀ a ∈ wr, a ∉ W) : Fm W B₀ h₀ own env B m ps h' := by
  have inl : ∀ b ∈ wr, b ∈ own ++ (ps ++ Hold hd wr).map (·.1) := fun b hb => by rw [List.map_append, Hold.fst]; exact List.mem_append_right _ (List.mem_append_right _ hb)
  have inp : ∀ b, b ∈ own ++ ps.map (·.1) → b ∈ own ++ (ps ++ Hold hd wr).map (·.1) := fun b hb => by
    rw [List.map_append, ← List.append_assoc]; exact List.mem_append_left _ hb
  have nd := S.nodup
  rw [List.map_append, Hold.fst, ← List.append_assoc] at nd
  have nO : ∀ a, a ∈ own ++ ps.map (·.1) → a ∉ wr := fun a ha q => (List.nodup_append.mp nd).2.2 a ha a q rfl
  have h0 : ∀ b o, h₀.get? b = some o → b ∉ wr := fun b o e q => by rw [S.fresh b (inl b q) (hW b q)] at e; cases e
  exact {
    mono := S.mono
    sub := fun b o e => k b o (fun q => by rw [S.apart b (inl b q)] at e; cases e) (S.sub b o e)
    keep := fun b o hb e => k b o (h0 b o e) (S.keep b o hb e)
    off := S.off
    live := fun b o e => let ⟨o', e'⟩ := S.live b o e; ⟨o', k _ _ (h0 b o e) e'⟩
    lo := S.lo.keepsBut wr (nO _ (List.mem_append_left _ hL)) hC k
    ents := fun p hp => let ⟨o, e, q⟩ := S.ents p (List.mem_append_left _ hp); ⟨o, k _ _ (nO _ (List.mem_append_right _ (List.mem_map_of_mem hp))) e, q⟩
    nodup := (List.nodup_append.mp nd).1
    apart := fun a ha => S.apart a (inp a ha)
    fresh := fun a ha => S.fresh a (inp a ha)
    there := fun a ha => let ⟨o, e⟩ := S.there a ha; ⟨o, k _ _ (nO _ (List.mem_append_left _ ha)) e⟩
    wex := S.wex }
end

/-- an iterator: n turns, the i-th turns the names by P i -/
structure Itr (prog : Program) (w : World) (A : Around) (tgt : Expr) (B : Base) (I : Addr) (wr : List Addr) (n : Nat) (P : Nat → (Str → Option Value) → (Str → Option Value) → Prop)
    (ok : Env → List Addr → Prop) (St : Nat → Heap → Prop) : Prop where
  stay : ∀ i h h', St i h → B.In h → B.In h' → (∀ b ∈ wr, ∀ o, h.get? b = some o → h'.get? b = some o) → St i h'
  self : ∀ i (s : Shared) (Q : Value → Shared → Prop) (E : Value → Shared → Prop), St i s.heap → Q (.ref I) s → wpAny (model prog w) A (pyIter (.ref I)) Q E s
  turn : ∀ (W : List Addr) (B₀ : Base) (h₀ : Heap) (own : List Addr) (env : Env) (B₁ : Base) (m : Str → Option Value) (ps : List Ent) (s : Shared) (h hd : Heap) (tk i : Nat) (X K : Shared → Prop) (E : Value → Shared → Prop),
    B.le B₁ → i ≤ n → St i h → Fm W B₀ h₀ own env B₁ m (ps ++ Hold hd wr) h → env.locals ∈ own → (∀ x c, (x, c) ∈ env.cells → c ∉ wr) → (∀ a ∈ wr, a ∉ W) → ok env own →
    (i < n → ∀ m' h' tk', P i m m' → St (i + 1) h' → Fm W B₀ h₀ own env B₁ m' (ps ++ Hold h' wr) h' → K (mk s h' tk')) →
    (i = n → ∀ h' tk', Fm W B₀ h₀ own env B₁ m ps h' → X (mk s h' tk')) →
    wpAny (model prog w) A (pyNext (.ref I)) (fun r s₁ => match r with
      | none => X s₁
      | some v => wpAny (model prog w) A (letOwnedTupleGo tgt (.ref I) v) (fun _ s₁' => wpAny (model prog w) A (assign tgt env v) (fun _ s₂ => K s₂) E s₁') E s₁) E (mk s h tk)

section
variable {prog : Program} {w : World} {A : Around} {E : Value → Shared → Prop} {s : Shared} {tk : Nat}
variable {W : List Addr} {B₀ B B' : Base} {h₀ h h' : Heap} {own : List Addr} {env : Env} {m : Str → Option Value} {ps : List Ent} {x : Str} {pos : Pos} {v : Value}

/-- one of the library's walks, its item stored in a name -/
theorem itrWalks {I : Addr} {fp wr : List Addr} {n : Nat} {Pv : Nat → Value → Prop} {St : Nat → Heap → Prop} (V : Walks prog w A I fp wr n Pv St)
    (ex : ∀ i h, St i h → ∀ b ∈ wr, ∃ o, h.get? b = some o) (hb : ∀ b ∈ fp, b ∉ wr → ∃ o, B b = some o) :
    Itr prog w A (.Name x pos) B I wr n (fun i m m' => ∃ v, Pv i v ∧ m' = upd m x v) (fun env own => CanSt env own x) St where
  stay := fun i h h' st sb sb' k => V.frame i h h' st fun b hbf o e => by
    by_cases q : b ∈ wr
    · exact k b q o e
    · first | (refine ob1_1 (hb b hbf q) fun o' e' => ?_) | (refine ob0_2 (hb b hbf q) fun o' e' => ?_) | obtain ⟨o', e'⟩ := hb b hbf q
      rw [sb b o' e'] at e
      cases e
      exact sb' b _ e'
  self := V.self
  turn := fun W B₀ h₀ own env B₁ m ps s h hd tk i X K E le hi st S hL hC hW ok hK hX => by
    rcases Nat.lt_or_eq_of_le hi with h1 | h1
    · refine V.item i (mk s h tk) _ _ h1 st fun v h₂ tk₂ pv st₂ k => ?_
      refine wpAny_of_eq (t := letOwnedTupleGo (.Name x pos) (.ref I) v) (a := ()) rfl ?_
      refine wpAny_assign_Name ?_
      have S₂ := S.turned k (ex _ _ st₂) hL hC
      refine ok _ _ _ s h₂ tk₂ W B₀ h₀ B₁ m _ v _ S₂ fun h₃ tk₃ S₃ => ?_
      have e : ∀ b ∈ wr, ∀ o, h₂.get? b = some o → h₃.get? b = some o := fun b hb o e => by
        first | (refine ob2_1 (S₃.held b hb) fun o' e1 e2 => ?_) | (refine ob1_2 (S₃.held b hb) fun o' e1 e2 => ?_) | (refine ob0_3 (S₃.held b hb) fun o' e1 e2 => ?_) | obtain ⟨o', e1, e2⟩ := S₃.held b hb
        rw [e] at e2; cases e2; exact e1
      refine hK h1 (upd m x v) h₃ tk₃ ⟨v, pv, rfl⟩ ?_ S₃.rehold
      exact V.frame _ _ _ st₂ fun b hbf o eb => by
        by_cases q : b ∈ wr
        · exact e b q o eb
        · first | (refine ob1_1 (hb b hbf q) fun o' e' => ?_) | (refine ob0_2 (hb b hbf q) fun o' e' => ?_) | obtain ⟨o', e'⟩ := hb b hbf q
          have e1 := S₂.sub b o' (le b o' e')
          rw [e1] at eb
          cases eb
          exact S₃.sub b _ (le b _ e')
    · subst h1
      exact V.done (mk s h tk) _ _ st fun h₂ tk₂ k => hX rfl h₂ tk₂ (S.gone k hL hC hW)

/-- the items of a list of the base, each in a name -/
theorem iterL (x : Str) {l : Addr} {vs : List Value} {c : Nat} {Q : Value → Shared → Prop} (hh : A.handled = none) (S : Fm W B₀ h₀ own env B m ps h) (hl : B l = some (lstO vs c))
    (hq : ∀ h' I, (∀ pos, Itr prog w A (.Name x pos) B I [I] vs.length (fun i m m' => ∃ v, vs[i]? = some v ∧ m' = upd m x v) (fun env own => CanSt env own x) (fun i h => h.IsListIter I l i ∧ h.IsList l vs.toArray)) →
      NewW W env [I] → (h'.IsListIter I l 0 ∧ h'.IsList l vs.toArray) → Fm W B₀ h₀ own env B m (ps ++ Hold h' [I]) h' → Q (.ref I) (mk s h' tk)) :
    wpAny (model prog w) A (pyIter (.ref l)) Q E (mk s h tk) := by
  have hL := lst_of S.sub hl
  have hne : l ≠ h.objs.size := by obtain ⟨o, e, _⟩ := hL; exact Nat.ne_of_lt (Heap.lt_size e)
  refine wpAny_pyIter_list (s := mk s h tk) hL ?_
  have k : ∀ b o, h.get? b = some o → (h.push { cls := .type "list_iterator", data := .fields #[.ref l, .int 0 0] }).get? b = some o := fun b o e => Heap.get?_push_of_some _ e
  have e : (h.push { cls := .type "list_iterator", data := .fields #[.ref l, .int 0 0] }).get? h.objs.size = some { cls := .type "list_iterator", data := .fields #[.ref l, .int 0 0] } := Heap.get?_push_size _ rfl
  refine hq _ h.objs.size ?_ (S.newW fun a ha => by rw [List.mem_singleton.mp ha]; exact newAt) ⟨⟨_, e, rfl, rfl⟩, hL.at fun o e => k _ _ e⟩ ?_
  · intro pos
    have V := Walks.list (prog := prog) (w := w) (A := A) hh h.objs.size l hne vs.toArray
    have I0 := itrWalks (x := x) (pos := pos) (B := B) V (fun i h st b hb => by
      rw [List.mem_singleton.mp hb]; obtain ⟨⟨o, e, _⟩, _⟩ := st; exact ⟨o, e⟩) (fun b hb hw => by
      rcases List.mem_cons.mp hb with q | q
      · exact absurd (q ▸ List.mem_cons_self ..) hw
      · rw [List.mem_singleton.mp q]; exact ⟨_, hl⟩)
    simpa using I0
  · exact (S.push newAt k e (P := fun o => (h.push { cls := .type "list_iterator", data := .fields #[.ref l, .int 0 0] }).get? h.objs.size = some o) e).perm (List.perm_append_comm (l₁ := [_]) (l₂ := ps))

/-- a walk over tuples of two, stored in two names -/
theorem itrWalksT {I : Addr} {fp wr : List Addr} {n : Nat} {Pt : Nat → Array Value → Prop} {St : Nat → Heap → Prop} {Mid : Nat → Addr → Heap → Prop} {a b : Str} {pa pb tp : Pos} {kk : Nat} {Pv : Nat → Value → Value → Prop}
    (hh : A.handled = none) (V : WalksT prog w A I fp wr n Pt St Mid) (hP : ∀ i vals, Pt i vals → ∃ u v, vals = #[u, v] ∧ Pv i u v)
    (ex : ∀ i h, St i h → ∀ b ∈ wr, ∃ o, h.get? b = some o) (exM : ∀ i T h, Mid i T h → ∀ b ∈ wr, ∃ o, h.get? b = some o) (hb : ∀ b ∈ fp, b ∉ wr → ∃ o, B b = some o) :
    Itr prog w A (.Tuple [.Name a pa, .Name b pb] kk tp) B I wr n (fun i m m' => ∃ u v, Pv i u v ∧ m' = upd (upd m a u) b v) (fun env own => CanSt env own a ∧ CanSt env own b) St where
  stay := fun i h h' st sb sb' k => V.frame i h h' st fun b hbf o e => by
    by_cases q : b ∈ wr
    · exact k b q o e
    · first | (refine ob1_1 (hb b hbf q) fun o' e' => ?_) | (refine ob0_2 (hb b hbf q) fun o' e' => ?_) | obtain ⟨o', e'⟩ := hb b hbf q
      rw [sb b o' e'] at e
      cases e
      exact sb' b _ e'
  self := V.self
  turn := fun W B₀ h₀ own env B₁ m ps s h hd tk i X K E le hi st S hL hC hW ok hK hX => by
    rcases Nat.lt_or_eq_of_le hi with h1 | h1
    · refine V.item i (mk s h tk) _ _ h1 st fun T vals h₂ tk₂ pt hT hTT mid k => ?_
      first | (refine ob2_2 (hP i vals pt) fun u v zr34 pv => ?_; subst zr34) | (refine ob1_3 (hP i vals pt) fun u v zr35 pv => ?_; subst zr35) | (refine ob0_4 (hP i vals pt) fun u v zr36 pv => ?_; subst zr36) | obtain ⟨u, v, rfl, pv⟩ := hP i vals pt
      have S₂ := S.turned k (exM _ _ _ mid) hL hC
      refine V.go _ _ _ i T (mk s h₂ tk₂) _ _ mid fun h₃ st₃ k₃ => ?_
      have S₃ := S₂.turned k₃ (ex _ _ st₃) hL hC
      first | (refine ob2_1 (hTT) fun o eo r => ?_; try clear hTT) | (refine ob1_2 (hTT) fun o eo r => ?_; try clear hTT) | (refine ob0_3 (hTT) fun o eo r => ?_; try clear hTT) | obtain ⟨o, eo, r⟩ := hTT
      have hT₃ : h₃.IsTuple T #[u, v] := ⟨o, k₃ T o (V.apart _ _ _ mid) eo, r⟩
      refine wpAny_assign_Tuple (s := mk s h₃ tk₂) hh hT₃ rfl rfl fun h₄ he₄ => ?_
      have S₄ := S₃.ext (Ext.keeps S₃.sub fun b o e => he₄ b o (Nat.ne_of_lt (Heap.lt_size e)) e)
      show wpAny _ _ (assignInOrder [assign (.Name a pa) env, assign (.Name b pb) env] [u, v]) _ _ _
      refine assignInOrder_cons (wpAny_assign_Name ?_)
      refine ok.1 _ _ _ s h₄ tk₂ W B₀ h₀ B₁ m _ u _ S₄ fun h₅ tk₅ S₅ => ?_
      refine assignInOrder_cons (wpAny_assign_Name ?_)
      refine ok.2 _ _ _ s h₅ tk₅ W B₀ h₀ B₁ _ _ v _ S₅ fun h₆ tk₆ S₆ => ?_
      refine assignInOrder_nil ?_
      have e : ∀ b ∈ wr, ∀ o, h₃.get? b = some o → h₆.get? b = some o := fun b hb o e => by
        first | (refine ob2_1 (S₆.held b hb) fun o' e1 e2 => ?_) | (refine ob1_2 (S₆.held b hb) fun o' e1 e2 => ?_) | (refine ob0_3 (S₆.held b hb) fun o' e1 e2 => ?_) | obtain ⟨o', e1, e2⟩ := S₆.held b hb
        rw [e] at e2; cases e2; exact e1
      refine hK h1 _ h₆ tk₆ ⟨u, v, pv, rfl⟩ ?_ S₆.rehold
      exact V.frame _ _ _ st₃ fun b hbf o eb => by
        by_cases q : b ∈ wr
        · exact e b q o eb
        · first | (refine ob1_1 (hb b hbf q) fun o' e' => ?_) | (refine ob0_2 (hb b hbf q) fun o' e' => ?_) | obtain ⟨o', e'⟩ := hb b hbf q
          have e1 := S₃.sub b o' (le b o' e')
          rw [e1] at eb
          cases eb
          exact S₆.sub b _ (le b _ e')
    · subst h1
      exact V.done (mk s h tk) _ _ st fun h₂ tk₂ k => hX rfl h₂ tk₂ (S.gone k hL hC hW)

noncomputable def EnumSt (e it l : Addr) (vs : List Value) : Nat → Heap → Prop := fun i h => (∃ old, IsEnum h e it i old) ∧ h.IsListIter it l i ∧ h.IsList l vs.toArray

/-- enumerate over a list of the base -/
theorem enumL (a b : Str) {l : Addr} {vs : List Value} {c : Nat} {Q : Value → Shared → Prop} (hh : A.handled = none) (S : Fm W B₀ h₀ own env B m ps h) (hl : B l = some (lstO vs c))
    (hq : ∀ h' e it, (∀ pa pb kk tp, Itr prog w A (.Tuple [.Name a pa, .Name b pb] kk tp) B e [e, it] vs.length (fun i m m' => ∃ u v, (∃ t, vs[i]? = some v ∧ u = .int i t) ∧ m' = upd (upd m a u) b v)
        (fun env own => CanSt env own a ∧ CanSt env own b) (EnumSt e it l vs)) →
      NewW W env [e, it] → EnumSt e it l vs 0 h' → Fm W B₀ h₀ own env B m (ps ++ Hold h' [e, it]) h' → Q (.ref e) (mk s h' tk)) :
    wpAny (model prog w) A (call (.type "enumerate") [.ref l]) Q E (mk s h tk) := by
  have hL := lst_of S.sub hl
  have hlt : l < h.objs.size := by obtain ⟨o, e, _⟩ := hL; exact Heap.lt_size e
  refine call_enumerate_list (s := mk s h tk) hL fun h' he hit hsz k => ?_
  have k : ∀ b o, h.get? b = some o → h'.get? b = some o := k
  have he : IsEnum h' (h.objs.size + 1) h.objs.size 0 .none := he
  have hit : h'.IsListIter h.objs.size l 0 := hit
  have st : EnumSt (h.objs.size + 1) h.objs.size l vs 0 h' := ⟨⟨_, he⟩, hit, hL.at fun o e => k _ _ e⟩
  have n2 : h.get? (h.objs.size + 1) = none := by
    cases e : h.get? (h.objs.size + 1) with
    | none => rfl
    | some o => exact absurd (Heap.lt_size e) (Nat.not_lt.mpr (Nat.le_succ _))
  refine hq h' (h.objs.size + 1) h.objs.size ?_ (S.newW fun a ha => ?_) st ?_
  · intro pa pb kk tp
    have V := WalksT.enumerate (prog := prog) (w := w) (A := A) hh (h.objs.size + 1) h.objs.size l (Nat.succ_ne_self _) (Nat.ne_of_lt (Nat.lt_succ_of_lt hlt)) (Nat.ne_of_lt hlt) vs.toArray
    have I0 := itrWalksT (a := a) (b := b) (pa := pa) (pb := pb) (tp := tp) (kk := kk) (B := B) (Pv := fun i u v => ∃ t, vs[i]? = some v ∧ u = .int i t) hh V (fun i vals hp => by
        first | (refine ob3_1 (hp) fun t x h1 h2 => ?_; try clear hp) | (refine ob2_2 (hp) fun t x h1 h2 => ?_; try clear hp) | (refine ob1_3 (hp) fun t x h1 h2 => ?_; try clear hp) | (refine ob0_4 (hp) fun t x h1 h2 => ?_; try clear hp) | obtain ⟨t, x, h1, h2⟩ := hp
        exact ⟨_, _, h2, t, by simpa using h1, rfl⟩)
      (fun i h st b hb => by
        first | (refine ob0_3 (st) fun zn37 zn38 _ => ?_; try clear st; obtain ⟨old, he⟩ := zn37; obtain ⟨o, e, _⟩ := zn38) | obtain ⟨⟨old, he⟩, ⟨o, e, _⟩, _⟩ := st
        rcases List.mem_cons.mp hb with q | q
        · rw [q]; exact ⟨_, he⟩
        · rw [List.mem_singleton.mp q]; exact ⟨o, e⟩)
      (fun i T h st b hb => by
        first | (refine ob0_3 (st) fun zn39 zn40 _ => ?_; try clear st; obtain ⟨old, he⟩ := zn39; obtain ⟨o, e, _⟩ := zn40) | obtain ⟨⟨old, he⟩, ⟨o, e, _⟩, _⟩ := st
        rcases List.mem_cons.mp hb with q | q
        · rw [q]; exact ⟨_, he⟩
        · rw [List.mem_singleton.mp q]; exact ⟨o, e⟩)
      (fun b hb hw => by
        rcases List.mem_cons.mp hb with q | q
        · exact absurd (q ▸ List.mem_cons_self ..) hw
        · rcases List.mem_cons.mp q with q | q
          · exact absurd (q ▸ List.mem_cons_of_mem _ (List.mem_cons_self ..)) hw
          · rw [List.mem_singleton.mp q]; exact ⟨_, hl⟩)
    rw [List.size_toArray] at I0
    exact I0
  · rcases List.mem_cons.mp ha with q | q
    · rw [q]; exact n2
    · rw [List.mem_singleton.mp q]; exact newAt
  · first | (refine ob2_1 (id hit) fun o2 e2 _ => ?_) | (refine ob1_2 (id hit) fun o2 e2 _ => ?_) | (refine ob0_3 (id hit) fun o2 e2 _ => ?_) | obtain ⟨o2, e2, _⟩ := id hit
    have n1 : h.get? h.objs.size = none := newAt
    -- two new things
    have e1 := he
    have S1 : Fm W B₀ h₀ own env B m ((h.objs.size, fun o => h'.get? h.objs.size = some o) :: ps) h' := S.push n1 k e2 e2
    have S2 : Fm W B₀ h₀ own env B m ((h.objs.size + 1, fun o => h'.get? (h.objs.size + 1) = some o) :: (h.objs.size, fun o => h'.get? h.objs.size = some o) :: ps) h' := by
      have hne : ∀ b ∈ own ++ ((h.objs.size, fun o => h'.get? h.objs.size = some o) :: ps).map (·.1), b ≠ h.objs.size + 1 := fun b hb q => by
        rw [List.map_cons] at hb
        rcases List.mem_cons.mp (List.perm_middle.mem_iff.mp hb) with z | z
        · rw [q] at z; exact Nat.succ_ne_self _ z
        · first | (refine ob1_1 (S.lt z) fun o eo => ?_) | (refine ob0_2 (S.lt z) fun o eo => ?_) | obtain ⟨o, eo⟩ := S.lt z
          rw [q, n2] at eo; cases eo
      have hB : B (h.objs.size + 1) = none := by
        cases q : B (h.objs.size + 1) with
        | none => rfl
        | some o => have := S.sub _ o q; rw [n2] at this; cases this
      have hh : h₀.get? (h.objs.size + 1) = none := by
        cases q : h₀.get? (h.objs.size + 1) with
        | none => rfl
        | some o => obtain ⟨o', e'⟩ := S.live _ o q; rw [n2] at e'; cases e'
      exact { S1 with
        ents := fun p hp => by
          rcases List.mem_cons.mp hp with z | z
          · rw [z]; exact ⟨_, e1, e1⟩
          · exact S1.ents p z
        nodup := by
          rw [List.map_cons]
          exact (List.Perm.nodup_iff List.perm_middle).mpr (List.nodup_cons.mpr ⟨fun q => hne _ q rfl, S1.nodup⟩)
        apart := fun b hb => by
          rw [List.map_cons] at hb
          rcases List.mem_cons.mp (List.perm_middle.mem_iff.mp hb) with z | z
          · rw [z]; exact hB
          · exact S1.apart b z
        fresh := fun b hb hW => by
          rw [List.map_cons] at hb
          rcases List.mem_cons.mp (List.perm_middle.mem_iff.mp hb) with z | z
          · rw [z]; exact hh
          · exact S1.fresh b z hW }
    exact S2.perm (List.perm_append_comm (l₁ := [_, _]) (l₂ := ps))

noncomputable def rngO (a b : Int) (t u v : Tok) : Obj := { cls := .type "range", data := .fields #[.int a t, .int b u, .int 1 v] }
theorem mkRange1 {n : Int} {t : Tok} {Q : Value → Shared → Prop} (S : Fm W B₀ h₀ own env B m ps h)
    (hq : ∀ B' h' r t u v tk', B.le B' → B' r = some (rngO 0 n t u v) → Fm W B₀ h₀ own env B' m ps h' → Q (.ref r) (mk s h' tk')) :
    wpAny (model prog w) A (call (.type "range") [.int n t]) Q E (mk s h tk) := by
  refine call_range_1 (s := mk s h tk) ?_
  have k : ∀ b o, h.get? b = some o → (h.push (rngO 0 n tk t (tk + 1))).get? b = some o := fun b o e => Heap.get?_push_of_some _ e
  first | (refine ob2_1 (Ext.alloc (a := h.objs.size) (o := rngO 0 n tk t (tk + 1)) S.sub newAt k (Heap.get?_push_size _ rfl)) fun B' X e => ?_) | (refine ob1_2 (Ext.alloc (a := h.objs.size) (o := rngO 0 n tk t (tk + 1)) S.sub newAt k (Heap.get?_push_size _ rfl)) fun B' X e => ?_) | (refine ob0_3 (Ext.alloc (a := h.objs.size) (o := rngO 0 n tk t (tk + 1)) S.sub newAt k (Heap.get?_push_size _ rfl)) fun B' X e => ?_) | obtain ⟨B', X, e⟩ := Ext.alloc (a := h.objs.size) (o := rngO 0 n tk t (tk + 1)) S.sub newAt k (Heap.get?_push_size _ rfl)
  exact hq B' _ _ _ _ _ _ X.le e (S.ext X)
theorem mkRange2 {a n : Int} {t u : Tok} {Q : Value → Shared → Prop} (S : Fm W B₀ h₀ own env B m ps h)
    (hq : ∀ B' h' r t u v tk', B.le B' → B' r = some (rngO a n t u v) → Fm W B₀ h₀ own env B' m ps h' → Q (.ref r) (mk s h' tk')) :
    wpAny (model prog w) A (call (.type "range") [.int a t, .int n u]) Q E (mk s h tk) := by
  refine call_range_2 (s := mk s h tk) ?_
  have k : ∀ b o, h.get? b = some o → (h.push (rngO a n t u tk)).get? b = some o := fun b o e => Heap.get?_push_of_some _ e
  first | (refine ob2_1 (Ext.alloc (a := h.objs.size) (o := rngO a n t u tk) S.sub newAt k (Heap.get?_push_size _ rfl)) fun B' X e => ?_) | (refine ob1_2 (Ext.alloc (a := h.objs.size) (o := rngO a n t u tk) S.sub newAt k (Heap.get?_push_size _ rfl)) fun B' X e => ?_) | (refine ob0_3 (Ext.alloc (a := h.objs.size) (o := rngO a n t u tk) S.sub newAt k (Heap.get?_push_size _ rfl)) fun B' X e => ?_) | obtain ⟨B', X, e⟩ := Ext.alloc (a := h.objs.size) (o := rngO a n t u tk) S.sub newAt k (Heap.get?_push_size _ rfl)
  exact hq B' _ _ _ _ _ _ X.le e (S.ext X)

noncomputable def RangeSt (I : Addr) (a b : Int) : Nat → Heap → Prop := fun i h => IsRangeIter h I (a + (i : Nat)) (((b - a).toNat : Int) - (i : Nat)) 1
/-- the ints of a range, each in a name -/
theorem iterR (x : Str) {r : Addr} {a b : Int} {t u c : Tok} {Q : Value → Shared → Prop} (hh : A.handled = none) (S : Fm W B₀ h₀ own env B m ps h) (hl : B r = some (rngO a b t u c))
    (ha : -(2 ^ 62) ≤ a) (ha' : a < 2 ^ 62) (hb : -(2 ^ 62) ≤ b) (hb' : b < 2 ^ 62)
    (hq : ∀ h' I, (∀ pos, Itr prog w A (.Name x pos) B I [I] (b - a).toNat (fun i m m' => ∃ v, (∃ t, v = .int (a + i) t) ∧ m' = upd m x v) (fun env own => CanSt env own x) (RangeSt I a b)) →
      NewW W env [I] → RangeSt I a b 0 h' → Fm W B₀ h₀ own env B m (ps ++ Hold h' [I]) h' → Q (.ref I) (mk s h' tk)) :
    wpAny (model prog w) A (pyIter (.ref r)) Q E (mk s h tk) := by
  refine wpAny_pyIter_range (s := mk s h tk) (S.sub _ _ hl) (small_one ha ha' hb hb') ?_
  have hsz : Builtin.Range.rangeSize a b 1 = ((b - a).toNat : Int) := by rw [rangeSize_one]; split <;> (first | with_reducible assumption | with_reducible exact Int.natCast_nonneg _ | lia | omega)
  rw [hsz]
  have k : ∀ c o, h.get? c = some o → (h.push { cls := .type "range_iterator", data := .fields #[rawInt a, rawInt ((b - a).toNat : Int), rawInt 1] }).get? c = some o := fun b o e => Heap.get?_push_of_some _ e
  have e : (h.push { cls := .type "range_iterator", data := .fields #[rawInt a, rawInt ((b - a).toNat : Int), rawInt 1] }).get? h.objs.size = some { cls := .type "range_iterator", data := .fields #[rawInt a, rawInt ((b - a).toNat : Int), rawInt 1] } := Heap.get?_push_size _ rfl
  refine hq _ h.objs.size ?_ (S.newW fun a ha => by rw [List.mem_singleton.mp ha]; exact newAt) ?_ ?_
  · intro pos
    have V := Walks.range (prog := prog) (w := w) (A := A) hh h.objs.size a 1 (b - a).toNat
    have I0 := itrWalks (x := x) (pos := pos) (B := B) V (fun i h st b hb => by
      rw [List.mem_singleton.mp hb]; exact ⟨_, st⟩) (fun b hb hw => absurd hb hw)
    simp only [Int.mul_one] at I0
    exact I0
  · show IsRangeIter _ _ (a + ((0 : Nat) : Int)) (((b - a).toNat : Int) - ((0 : Nat) : Int)) 1
    rw [show a + ((0 : Nat) : Int) = a by exact om12, show ((b - a).toNat : Int) - ((0 : Nat) : Int) = ((b - a).toNat : Int) by exact om13]
    exact e
  · exact (S.push newAt k e (P := fun o => (h.push { cls := .type "range_iterator", data := .fields #[rawInt a, rawInt ((b - a).toNat : Int), rawInt 1] }).get? h.objs.size = some o) e).perm (List.perm_append_comm (l₁ := [_]) (l₂ := ps))

/-- a for loop by what holds between its turns -/
theorem forLoop {tgt : Expr} {body : List Stmt} {I : Addr} {wr : List Addr} {n : Nat} {P : Nat → (Str → Option Value) → (Str → Option Value) → Prop} {ok : Env → List Addr → Prop} {St : Nat → Heap → Prop} {R : Result → Shared → Prop} {hd : Heap}
    (Inv : Nat → Base → (Str → Option Value) → List Ent → Prop) (IT : Itr prog w A tgt B I wr n P ok St) (hok : ok env own) (hN : NewW W env wr) (hL : env.locals ∈ own)
    (S : Fm W B₀ h₀ own env B m (ps ++ Hold hd wr) h) (st : St 0 h) (inv : Inv 0 B m ps)
    (turn : ∀ i B₁ m₁ m₂ ps₁ h₁ tk₁ (E' : Value → Shared → Prop), i < n → B.le B₁ → Inv i B₁ m₁ ps₁ → P i m₁ m₂ → Fm W B₀ h₀ own env B₁ m₂ (ps₁ ++ Hold h₁ wr) h₁ →
      wpAny (model prog w) A (execs body env) (fun f s₃ => match f with
        | .next | .cont => ∃ B₂ m₃ ps₂ h₂ tk₂, s₃ = mk s h₂ tk₂ ∧ B₁.le B₂ ∧ Inv (i + 1) B₂ m₃ ps₂ ∧ Fm W B₀ h₀ own env B₂ m₃ (ps₂ ++ Hold h₁ wr) h₂
        | .brk => False
        | .ret v => R (.ok (.ret v)) s₃) E' (mk s h₁ tk₁))
    (done : ∀ B₁ m₁ ps₁ h₁ tk₁, B.le B₁ → Inv n B₁ m₁ ps₁ → Fm W B₀ h₀ own env B₁ m₁ ps₁ h₁ → R (.ok .next) (mk s h₁ tk₁)) :
    codeAny (model prog w) A (.forLoop tgt (.ref I) body [] env) R (mk s h tk) := by
  let J : Nat → Shared → Prop := fun k s' => ∃ i B₁ m₁ ps₁ hd₁ h₁ tk₁, s' = mk s h₁ tk₁ ∧ i ≤ n ∧ k = n - i ∧ B.le B₁ ∧ Inv i B₁ m₁ ps₁ ∧ St i h₁ ∧ Fm W B₀ h₀ own env B₁ m₁ (ps₁ ++ Hold hd₁ wr) h₁
  refine codeAny_forLoop_any J ?_ n
    (exI7 0 B m ps hd h tk ⟨rfl, Nat.zero_le _, rfl, .rfl, inv, st, S⟩)
  intro k s' zz; refine ob7_7 zz fun i B₁ m₁ ps₁ hd₁ h₁ tk₁ zr1 hi zr2 le inv st S => ?_; clear zz; subst zr1; subst zr2
  refine wpAny_mono (IT.turn W B₀ h₀ own env B₁ m₁ ps₁ s h₁ hd₁ tk₁ i (fun s₁ => wpAny (model prog w) A (execs [] env) (fun f s₃ => R (.ok f) s₃) (notedBy (model prog w) A env fun e s' => R (.error e) s') s₁)
    (fun s₂ => wpAny (model prog w) A (execs body env) (fun f s₃ => match f with
          | .next | .cont => ∃ k', k' < n - i ∧ J k' s₃
          | .brk => R (.ok .next) s₃
          | .ret v => R (.ok (.ret v)) s₃) (notedBy (model prog w) A env fun e s' => R (.error e) s') s₂)
    (notedBy (model prog w) A env fun e s' => R (.error e) s') le hi st S hL hN.2 hN.1 hok (fun hlt m₂ h₂ tk₂ p st₂ S₂ => ?_) fun he h₂ tk₂ S₂ => ?_) (fun r s₁ q => q) fun _ _ q => q
  · refine wpAny_mono (turn i B₁ m₁ m₂ ps₁ h₂ tk₂ _ hlt le inv p S₂) (fun f s₃ q => ?_) fun _ _ q => q
    have step : (∃ B₂ m₃ ps₂ h₃ tk₃, s₃ = mk s h₃ tk₃ ∧ B₁.le B₂ ∧ Inv (i + 1) B₂ m₃ ps₂ ∧ Fm W B₀ h₀ own env B₂ m₃ (ps₂ ++ Hold h₂ wr) h₃) →
        ∃ k', k' < n - i ∧ J k' s₃ := fun q => by
      first | (refine ob6_3 (q) fun B₂ m₃ ps₂ h₃ tk₃ e le₂ inv₂ S₃ => ?_; try clear q) | (refine ob5_4 (q) fun B₂ m₃ ps₂ h₃ tk₃ e le₂ inv₂ S₃ => ?_; try clear q) | (refine ob4_5 (q) fun B₂ m₃ ps₂ h₃ tk₃ e le₂ inv₂ S₃ => ?_; try clear q) | (refine ob3_6 (q) fun B₂ m₃ ps₂ h₃ tk₃ e le₂ inv₂ S₃ => ?_; try clear q) | (refine ob2_7 (q) fun B₂ m₃ ps₂ h₃ tk₃ e le₂ inv₂ S₃ => ?_; try clear q) | refine ob5_4 q fun B₂ m₃ ps₂ h₃ tk₃ e le₂ inv₂ S₃ => ?_
      refine ⟨n - (i + 1), by exact om14 hlt, exI7 (i + 1) B₂ m₃ ps₂ h₂ h₃ tk₃ ⟨e, hlt, rfl, le.trans le₂, inv₂, ?_, S₃⟩⟩
      refine IT.stay _ _ _ st₂ (S₂.sub.of_le le) (S₃.sub.of_le (le.trans le₂)) fun b hb o eb => ?_
      first | (refine ob2_1 (S₃.held b hb) fun o' e1 e2 => ?_) | (refine ob1_2 (S₃.held b hb) fun o' e1 e2 => ?_) | (refine ob0_3 (S₃.held b hb) fun o' e1 e2 => ?_) | obtain ⟨o', e1, e2⟩ := S₃.held b hb
      rw [eb] at e2; cases e2; exact e1
    cases f with
    | next => exact step q
    | cont => exact step q
    | brk => exact q.elim
    | ret v => exact q
  · refine wpAny_execs_nil ?_
    subst he
    exact done B₁ m₁ ps₁ h₂ tk₂ le inv S₂
end
/-! comprehensions -/
section
variable {prog : Program} {w : World} {A : Around} {E : Value → Shared → Prop} {s : Shared} {tk : Nat}

theorem comp_loop {elt target iter : Expr} {ifs : List Expr} {scope : Scope} {pos : Pos} {it acc : Value} {env : Env} {R : Result → Shared → Prop} (I : Nat → Shared → Prop)
    (turn : ∀ n s, I n s → wpAny (model prog w) A (pyNext it) (fun r s₁ => match r with
      | none => R (.ok .next) s₁
      | some v => wpAny (model prog w) A (letOwnedTupleGo target it v) (fun _ s₀ => wpAny (model prog w) A (assign target env v) (fun _ s₂ =>
          wpAny (model prog w) A (forIn ifs true fun c r => if r = true then do let ok ← isTrue c env (eval c env); pure (ForInStep.yield ok) else pure (ForInStep.yield r)) (fun ok s₃ =>
          if ok = true then wpAny (model prog w) A (eval elt env) (fun x s₄ =>
            wpAny (model prog w) A (call (.builtin "list.append") [acc, x]) (fun _ s₅ => ∃ m, m < n ∧ I m s₅) (notedBy (model prog w) A env fun e s' => R (.error e) s') s₄) (notedBy (model prog w) A env fun e s' => R (.error e) s') s₃
          else ∃ m, m < n ∧ I m s₃) (notedBy (model prog w) A env fun e s' => R (.error e) s') s₂)
          (notedBy (model prog w) A env fun e s' => R (.error e) s') s₀) (notedBy (model prog w) A env fun e s' => R (.error e) s') s₁) (notedBy (model prog w) A env fun e s' => R (.error e) s') s)
    (n : Nat) (s : Shared) (h : I n s) : codeAny (model prog w) A (.compLoop (.ListComp elt [⟨target, iter, ifs, 0⟩] scope pos) 0 it acc env) R s := by
  refine codeAny_loop rfl I (fun n s hI => ?_) n h
  show wpAny _ A ((compTurn (.ListComp elt [⟨target, iter, ifs, 0⟩] scope pos) 0 it acc env).onRaise (fun x => do noteFrame x env; theTreesLotGoes x)) _ _ s
  refine wpAny_noted ?_
  rw [compTurn_list]
  refine wpAny_bind (wpAny_standAt (wpAny_bind (wpAny_mono (turn n s hI) (fun r s₁ h₁ => ?_) fun _ _ h' => h')))
  cases r with
  | none => exact wpAny_pure h₁
  | some v =>
    refine wpAny_bind (wpAny_mono h₁ (fun _ s₀ h₀' => ?_) fun _ _ h' => h')
    refine wpAny_bind (wpAny_mono h₀' (fun _ s₂ h₂ => wpAny_bind (wpAny_mono h₂ (fun ok s₃ h₃ => ?_) fun _ _ h' => h')) fun _ _ h' => h')
    cases ok with
    | false => exact wpAny_pure ⟨rfl, h₃⟩
    | true =>
      exact wpAny_bind (wpAny_bind (wpAny_mono h₃ (fun x s₄ h₄ => wpAny_bind (wpAny_mono h₄ (fun _ s₅ h₅ => wpAny_pure (wpAny_pure ⟨rfl, h₅⟩)) fun _ _ h' => h')) fun _ _ h' => h'))

theorem newEnv_comp {M : Model} {scope : Scope} {globals : Addr} {cl : List (Str × Addr)} {qual : Str} {env : Env} {Q : Env → Shared → Prop}
    (hQ : ∀ t, Q { scope, locals := s.heap.objs.size, globals, cells := cellsFrom (s.heap.objs.size + 1) scope.names cl, qual, func := none, code := env.code, frame := env.frame, builtins := env.builtins }
      { s with heap := pushCells (s.heap.push { cls := .type "dict", data := .dict #[] }) scope.names, toks := t }) :
    wpAny M A (newFunctionEnv scope globals cl [] qual none .none (some env)) Q E s := by
  simp only [newFunctionEnv, Option.isSome_some, if_true]
  refine wpAny_bind (wpAny_alloc ?_)
  refine wpAny_bind (wpAny_layCells _ (fun name kind cells => by cases hkc : kind == NameKind.cell <;> simp) _ _ _ _ ?_)
  rw [show ({ s with heap := s.heap.push { cls := .type "dict", data := .dict #[] } } : Shared).heap.objs.size = s.heap.objs.size + 1 from Heap.size_push ..]
  exact wpAny_bind (wpAny_pure (wpAny_pure (hQ s.toks)))

theorem cellsFrom_append : ∀ (names : List (Str × NameKind)) (n : Nat) (acc : List (Str × Addr)), cellsFrom n names acc = cellsFrom n names [] ++ acc
  | [], _, _ => rfl
  | (x, k) :: r, n, acc => by
    unfold cellsFrom
    split
    · rw [cellsFrom_append r (n + 1) ((x, n) :: acc), cellsFrom_append r (n + 1) [(x, n)], List.append_assoc]; rfl
    · exact cellsFrom_append r n acc

/-- the frame of a comprehension -/
noncomputable def cenvOf (scope : Scope) (env : Env) (cl : List (Str × Addr)) (C : Addr) : Env :=
  { scope := relabel scope env, locals := C, globals := env.globals, cells := cellsFrom (C + 1) scope.names cl, qual := env.qual, func := none, code := env.code, frame := env.frame, builtins := env.builtins }
/-- its own things -/
noncomputable def cownOf (scope : Scope) (C : Addr) : List Addr := C :: (cellsFrom (C + 1) scope.names []).map (·.2)
/-- what it knows at its start -/
noncomputable def mcOf (cl : List (Str × Addr)) (m : Str → Option Value) : Str → Option Value := fun x => match cl.lookup x with
  | some _ => m x
  | none => none

variable {W : List Addr} {B₀ B B' : Base} {h₀ h h' : Heap} {own : List Addr} {env : Env} {m : Str → Option Value} {x : Str} {pos : Pos} {v : Value}

theorem pushCells_size (names : List (Str × NameKind)) : ∀ (h : Heap), h.objs.size ≤ (pushCells h names).objs.size := by
  induction names with
  | nil => intro h; exact Nat.le_refl _
  | cons p r ih =>
    intro h
    first | (refine ob1_1 (p) fun x k => ?_; try clear p) | (refine ob0_2 (p) fun x k => ?_; try clear p) | obtain ⟨x, k⟩ := p
    unfold pushCells
    split
    · exact Nat.le_trans (by rw [Heap.size_push]; exact Nat.le_succ _) (ih _)
    · exact ih h

theorem none_ge {h : Heap} {a : Addr} (ha : h.objs.size ≤ a) : h.get? a = none := by
  cases e : h.get? a with
  | none => rfl
  | some o => exact absurd (Heap.lt_size e) (Nat.not_lt.mpr ha)

/-- a comprehension's start -/
theorem comp_frame {scope : Scope} {cl : List (Str × Addr)} {psW psR : List Ent} {hd : Heap} {wr : List Addr}
    (S : Fm W B₀ h₀ own env B m ((psW ++ psR) ++ Hold hd wr) h)
    (hcl : ∀ p ∈ cl, env.kindOf p.1 = some .cell ∧ env.cells.lookup p.1 = some p.2 ∧ (relabel scope env).names.lookup p.1 = some .cell) (cn : List Str) (hcn : ∀ n, (cellsFrom n scope.names cl).map (·.1) = cn) (hnd : cn.Nodup) :
    Fm (psW.map (·.1)) B (hideAll h wr) (cownOf scope (h.objs.size + 1)) (cenvOf scope env cl (h.objs.size + 1)) B (mcOf cl m) ((psW ++ [(h.objs.size, LstP [])]) ++ Hold h wr)
      (pushCells ((h.push (lstO [] 0)).push { cls := .type "dict", data := .dict #[] }) scope.names) := by
  have e1 : (h.push (lstO [] 0)).objs.size = h.objs.size + 1 := Heap.size_push ..
  have e2 : ((h.push (lstO [] 0)).push { cls := .type "dict", data := .dict #[] }).objs.size = h.objs.size + 1 + 1 := by rw [Heap.size_push, e1]
  have k : ∀ b o, h.get? b = some o → (pushCells ((h.push (lstO [] 0)).push { cls := .type "dict", data := .dict #[] }) scope.names).get? b = some o := fun b o e =>
    pushCells_keeps _ _ b o (Heap.get?_push_of_some _ (Heap.get?_push_of_some _ e))
  have hD : (pushCells ((h.push (lstO [] 0)).push { cls := .type "dict", data := .dict #[] }) scope.names).get? h.objs.size = some (lstO [] 0) :=
    pushCells_keeps _ _ _ _ (Heap.get?_push_of_some _ (Heap.get?_push_size _ rfl))
  have hC : (pushCells ((h.push (lstO [] 0)).push { cls := .type "dict", data := .dict #[] }) scope.names).Ns (h.objs.size + 1) fun _ => none := by
    have := (Heap.Ns.new (h.push (lstO [] 0)) (.type "dict")).keeps (pushCells_keeps scope.names _)
    rw [e1] at this
    exact this
  have ok := cellsFrom_ok scope.names ((h.push (lstO [] 0)).push { cls := .type "dict", data := .dict #[] }) (h.objs.size + 1 + 1) [] ⟨fun _ _ hm => (nomatch hm), List.Pairwise.nil⟩ (by rw [e2]; exact Nat.le_refl _)
  rw [e2] at ok
  have nc : ∀ x c, (x, c) ∈ cellsFrom (h.objs.size + 1 + 1) scope.names [] → h.objs.size + 1 < c := fun x c hm => (ok.empty x c hm).2
  have own_ge : ∀ a ∈ cownOf scope (h.objs.size + 1), h.objs.size + 1 ≤ a := fun a ha => by
    rcases List.mem_cons.mp ha with q | q
    · exact Nat.le_of_eq q.symm
    · first | (refine ob0_3 (List.mem_map.mp q) fun zn41 hc zr42 => ?_; obtain ⟨n, c⟩ := zn41; subst zr42) | obtain ⟨⟨n, c⟩, hc, rfl⟩ := List.mem_map.mp q
      exact Nat.le_of_lt (nc n c hc)
  have old : ∀ a ∈ (psW ++ psR).map (·.1) ++ wr, ∃ o, h.get? a = some o := fun a ha => S.lt (by
    rw [List.map_append, Hold.fst]
    exact List.mem_append_right _ ha)
  have nd := S.nodup
  rw [List.map_append, Hold.fst, List.map_append] at nd
  have nd2 := (List.nodup_append.mp nd).2.1
  have inW : ∀ a ∈ psW.map (·.1), a ∈ (psW ++ psR).map (·.1) ++ wr := fun a ha => List.mem_append_left _ (by rw [List.map_append]; exact List.mem_append_left _ ha)
  have inr : ∀ a ∈ wr, a ∈ (psW ++ psR).map (·.1) ++ wr := fun a ha => List.mem_append_right _ ha
  have Wwr : ∀ a ∈ psW.map (·.1), a ∉ wr := fun a ha q => (List.nodup_append.mp nd2).2.2 a (List.mem_append_left _ ha) a q rfl
  have clIn : ∀ x c, (x, c) ∈ cl → ∃ v₀, h.IsCell c v₀ ∧ ∀ v, m x = some v → v₀ = some v := fun x c hm => S.lo.cell x c (hcl _ hm).1 (hcl _ hm).2.1
  have cells_eq : (cenvOf scope env cl (h.objs.size + 1)).cells = cellsFrom (h.objs.size + 1 + 1) scope.names [] ++ cl := cellsFrom_append ..
  have nodupN : ((cellsFrom (h.objs.size + 1 + 1) scope.names [] ++ cl).map (·.1)).Nodup := by rw [← cellsFrom_append, hcn]; exact hnd
  have pe : ((psW ++ [(h.objs.size, LstP [])]) ++ Hold h wr).map (·.1) = psW.map (·.1) ++ [h.objs.size] ++ wr := by rw [List.map_append, Hold.fst, List.map_append]; rfl
  exact {
    mono := .rfl
    sub := fun b o e => k b o (S.sub b o e)
    keep := fun b o _ e => k b o (of_hideAll _ e)
    off := fun _ _ _ n => n
    live := fun b o e => ⟨o, k b o (of_hideAll _ e)⟩
    lo := by
      refine ⟨⟨_, hC, fun x v hx hv => ?_⟩, fun x c hx hc => ?_, ?_, fun x c hm => ?_, fun x c hm => ?_⟩
      · exfalso
        unfold mcOf at hv
        split at hv
        · rename_i c hl
          have := (hcl _ (mem_of_lookup hl)).2.2
          have hx : (relabel scope env).names.lookup x = some .local := hx
          rw [this] at hx; cases hx
        · cases hv
      · rw [cells_eq] at hc
        have hm := mem_of_lookup hc
        rcases List.mem_append.mp hm with q | q
        · refine ⟨none, (ok.empty x c q).1, fun v hv => ?_⟩
          exfalso
          unfold mcOf at hv
          split at hv
          · rename_i c' hl
            rw [List.map_append, List.nodup_append] at nodupN
            exact nodupN.2.2 x (List.mem_map_of_mem (f := fun p : Str × Addr => p.1) q) x (List.mem_map_of_mem (f := fun p : Str × Addr => p.1) (mem_of_lookup hl)) rfl
          · cases hv
        · first | (refine ob2_1 (clIn x c q) fun v₀ a b => ?_) | (refine ob1_2 (clIn x c q) fun v₀ a b => ?_) | (refine ob0_3 (clIn x c q) fun v₀ a b => ?_) | obtain ⟨v₀, a, b⟩ := clIn x c q
          refine ⟨v₀, a.keeps k, fun v hv => b v ?_⟩
          unfold mcOf at hv
          split at hv
          · exact hv
          · cases hv
      · rw [cells_eq, List.pairwise_append]
        refine ⟨ok.apart, ?_, fun p hp q hq e => ?_⟩
        · have h1 : (cl.map (·.1)).Nodup := by rw [List.map_append, List.nodup_append] at nodupN; exact nodupN.2.1
          have : ∀ l : List (Str × Addr), (∀ p ∈ l, p ∈ cl) → (l.map (·.1)).Nodup → l.Pairwise fun x y => x.2 ≠ y.2 := fun l => by
            induction l with
            | nil => intro _ _; exact .nil
            | cons p r ih =>
              intro hs hn
              rw [List.map_cons, List.nodup_cons] at hn
              refine List.pairwise_cons.mpr ⟨fun q hq e => hn.1 ?_, ih (fun p hp => hs p (List.mem_cons_of_mem _ hp)) hn.2⟩
              have hp := (hcl p (hs p (List.mem_cons_self ..))).2.1
              have hq' := (hcl q (hs q (List.mem_cons_of_mem _ hq))).2.1
              have := name_of_addr S.lo.apart (mem_of_lookup hp) (e ▸ mem_of_lookup hq')
              rw [this]; exact List.mem_map_of_mem hq
          exact this cl (fun _ h => h) h1
        · first | (refine ob1_2 (clIn q.1 q.2 hq) fun v₀ zn43 _ => ?_; obtain ⟨o, a, _⟩ := zn43) | (refine ob0_3 (clIn q.1 q.2 hq) fun v₀ zn44 _ => ?_; obtain ⟨o, a, _⟩ := zn44) | obtain ⟨v₀, ⟨o, a, _⟩, _⟩ := clIn q.1 q.2 hq
          have h1 := nc p.1 p.2 hp
          have h2 := Heap.lt_size a
          have e' : p.2 = q.2 := e
          rw [e'] at h1
          exact absurd h2 (Nat.not_lt.mpr (Nat.le_of_lt (Nat.lt_of_succ_lt h1)))
      · rw [cells_eq] at hm
        show c ≠ h.objs.size + 1
        rcases List.mem_append.mp hm with q | q
        · exact Nat.ne_of_gt (nc x c q)
        · first | (refine ob1_2 (clIn x c q) fun v₀ zn45 _ => ?_; obtain ⟨o, a, _⟩ := zn45) | (refine ob0_3 (clIn x c q) fun v₀ zn46 _ => ?_; obtain ⟨o, a, _⟩ := zn46) | obtain ⟨v₀, ⟨o, a, _⟩, _⟩ := clIn x c q
          exact Nat.ne_of_lt (Nat.lt_succ_of_lt (Heap.lt_size a))
      · rw [cells_eq] at hm
        rcases List.mem_append.mp hm with q | q
        · obtain ⟨o, a, _⟩ := (ok.empty x c q).1; exact ⟨o, a⟩
        · obtain ⟨v₀, ⟨o, a, _⟩, _⟩ := clIn x c q; exact ⟨o, k _ _ a⟩
    ents := fun p hp => by
      rcases List.mem_append.mp hp with q | q
      · rcases List.mem_append.mp q with q | q
        · obtain ⟨o, e, po⟩ := S.ents p (List.mem_append_left _ (List.mem_append_left _ q)); exact ⟨o, k _ _ e, po⟩
        · rw [List.mem_singleton.mp q]; exact ⟨_, hD, 0, rfl⟩
      · first | (refine ob2_1 (List.mem_map.mp q) fun a ha zr47 => ?_; subst zr47) | (refine ob1_2 (List.mem_map.mp q) fun a ha zr48 => ?_; subst zr48) | (refine ob0_3 (List.mem_map.mp q) fun a ha zr49 => ?_; subst zr49) | obtain ⟨a, ha, rfl⟩ := List.mem_map.mp q
        first | (refine ob1_1 (old a (inr a ha)) fun o e => ?_) | (refine ob0_2 (old a (inr a ha)) fun o e => ?_) | obtain ⟨o, e⟩ := old a (inr a ha)
        exact ⟨o, k _ _ e, e⟩
    nodup := by
      rw [pe]
      refine List.nodup_append.mpr ⟨?_, ?_, fun a ha b hb q => ?_⟩
      · refine List.nodup_cons.mpr ⟨fun q => ?_, cells_pairwise_nodup ok.apart⟩
        first | (refine ob0_3 (List.mem_map.mp q) fun zn50 hc e => ?_; obtain ⟨n, c⟩ := zn50) | obtain ⟨⟨n, c⟩, hc, e⟩ := List.mem_map.mp q
        exact Nat.ne_of_gt (nc n c hc) e
      · rw [List.append_assoc]
        refine (List.Perm.nodup_iff (List.perm_middle (l₁ := psW.map (·.1)) (a := h.objs.size) (l₂ := wr))).mpr (List.nodup_cons.mpr ⟨fun q => ?_, ?_⟩)
        · have : ∃ o, h.get? h.objs.size = some o := by
            rcases List.mem_append.mp q with z | z
            · exact old _ (inW _ z)
            · exact old _ (inr _ z)
          first | (refine ob1_1 (this) fun o e => ?_; try clear this) | (refine ob0_2 (this) fun o e => ?_; try clear this) | obtain ⟨o, e⟩ := this
          exact absurd (Heap.lt_size e) (Nat.lt_irrefl _)
        · refine List.Nodup.sublist ?_ nd2
          exact (List.sublist_append_left _ _).append (List.Sublist.refl _)
      · have h1 := own_ge a ha
        rcases List.mem_append.mp hb with z | z
        · rcases List.mem_append.mp z with z | z
          · first | (refine ob1_1 (old b (inW b z)) fun o e => ?_) | (refine ob0_2 (old b (inW b z)) fun o e => ?_) | obtain ⟨o, e⟩ := old b (inW b z)
            have := Heap.lt_size e
            rw [← q] at this
            exact absurd this (Nat.not_lt.mpr (Nat.le_of_lt h1))
          · rw [List.mem_singleton.mp z] at q
            rw [q] at h1
            exact absurd h1 (Nat.not_le.mpr (Nat.lt_succ_self _))
        · first | (refine ob1_1 (old b (inr b z)) fun o e => ?_) | (refine ob0_2 (old b (inr b z)) fun o e => ?_) | obtain ⟨o, e⟩ := old b (inr b z)
          have := Heap.lt_size e
          rw [← q] at this
          exact absurd this (Nat.not_lt.mpr (Nat.le_of_lt h1))
    apart := fun a ha => by
      have nB : ∀ a, h.get? a = none → B a = none := fun a n => by
        cases e : B a with
        | none => rfl
        | some o => rw [S.sub a o e] at n; cases n
      rw [pe] at ha
      rcases List.mem_append.mp ha with z | z
      · exact nB a (none_ge (Nat.le_of_lt (own_ge a z)))
      · rcases List.mem_append.mp z with z | z
        · rcases List.mem_append.mp z with z | z
          · exact S.apart a (List.mem_append_right _ (by rw [List.map_append]; exact List.mem_append_left _ (by rw [List.map_append]; exact List.mem_append_left _ z)))
          · rw [List.mem_singleton.mp z]; exact nB _ newAt
        · exact S.apart a (List.mem_append_right _ (by rw [List.map_append, Hold.fst]; exact List.mem_append_right _ z))
    fresh := fun a ha hW => by
      have nH : ∀ a, h.get? a = none → (hideAll h wr).get? a = none := fun a n => by
        cases e : (hideAll h wr).get? a with
        | none => rfl
        | some o => rw [of_hideAll _ e] at n; cases n
      rw [pe] at ha
      rcases List.mem_append.mp ha with z | z
      · exact nH a (none_ge (Nat.le_of_lt (own_ge a z)))
      · rcases List.mem_append.mp z with z | z
        · rcases List.mem_append.mp z with z | z
          · exact absurd z hW
          · rw [List.mem_singleton.mp z]; exact nH _ newAt
        · exact hideAll_none _ z
    there := fun a ha => by
      rcases List.mem_cons.mp ha with q | q
      · obtain ⟨o, _, _, ho, _⟩ := hC; exact ⟨o, q ▸ ho⟩
      · first | (refine ob0_3 (List.mem_map.mp q) fun zn51 hc zr52 => ?_; obtain ⟨n, c⟩ := zn51; subst zr52) | obtain ⟨⟨n, c⟩, hc, rfl⟩ := List.mem_map.mp q
        obtain ⟨o, ho, _⟩ := (ok.empty n c hc).1; exact ⟨o, ho⟩
    wex := fun a ha => by
      first | (refine ob1_1 (old a (inW a ha)) fun o e => ?_) | (refine ob0_2 (old a (inW a ha)) fun o e => ?_) | obtain ⟨o, e⟩ := old a (inW a ha)
      exact ⟨o, hideAll_get _ e (Wwr a ha)⟩ }

/-- the outer frame without the iterator's things -/
theorem Fm.hide {ps : List Ent} {hd : Heap} {wr : List Addr} (S : Fm W B₀ h₀ own env B m (ps ++ Hold hd wr) h) (hL : env.locals ∈ own) (hC : ∀ x c, (x, c) ∈ env.cells → c ∉ wr) (hW : ∀ a ∈ wr, a ∉ W) :
    Fm W B₀ h₀ own env B m ps (hideAll h wr) := S.gone (fun _ _ hb e => hideAll_get wr e hb) hL hC hW

/-- what a block has made is taken over -/
theorem Fm.adopt {ps qs : List Ent} {hb : Heap} (S : Fm W B₀ h₀ own env B m ps h) (h0 : ∀ b o, h₀.get? b = some o → ∃ o', hb.get? b = some o')
    (hp : ∀ a ∈ own ++ ps.map (·.1), ∃ o, hb.get? a = some o) (he : Ents qs h) (hn : (qs.map (·.1)).Nodup) (hB : ∀ a ∈ qs.map (·.1), B a = none) (hf : ∀ a ∈ qs.map (·.1), hb.get? a = none) :
    Fm W B₀ h₀ own env B m (qs ++ ps) h :=
  { S with
    ents := fun p hp => by
      rcases List.mem_append.mp hp with q | q
      · exact he p q
      · exact S.ents p q
    nodup := by
      rw [List.map_append]
      refine (List.Perm.nodup_iff (show (own ++ (qs.map (·.1) ++ ps.map (·.1))).Perm (qs.map (·.1) ++ (own ++ ps.map (·.1))) by
        rw [← List.append_assoc, ← List.append_assoc]; exact List.Perm.append_right _ List.perm_append_comm)).mpr (List.nodup_append.mpr ⟨hn, S.nodup, fun a ha b hb' q => ?_⟩)
      first | (refine ob1_1 (hp b hb') fun o e => ?_) | (refine ob0_2 (hp b hb') fun o e => ?_) | obtain ⟨o, e⟩ := hp b hb'
      rw [← q, hf a ha] at e; cases e
    apart := fun a ha => by
      rw [List.map_append] at ha
      rcases List.mem_append.mp ha with q | q
      · exact S.apart a (List.mem_append_left _ q)
      · rcases List.mem_append.mp q with q | q
        · exact hB a q
        · exact S.apart a (List.mem_append_right _ q)
    fresh := fun a ha hW => by
      rw [List.map_append] at ha
      rcases List.mem_append.mp ha with q | q
      · exact S.fresh a (List.mem_append_left _ q) hW
      · rcases List.mem_append.mp q with q | q
        · cases e : h₀.get? a with
          | none => rfl
          | some o => obtain ⟨o', e'⟩ := h0 a o e; rw [hf a q] at e'; cases e'
        · exact S.fresh a (List.mem_append_right _ q) hW }

theorem ExtW.toExt {h h' : Heap} (X : ExtW [] B h B' h') : Ext B h B' h' := ⟨X.le, X.sub, fun b o e => X.keep b o (by simp) e, X.off⟩

abbrev testsOf (ifs : List Expr) (env : Env) : Sem Bool := forIn ifs true fun c r => if r = true then do let ok ← isTrue c env (eval c env); pure (ForInStep.yield ok) else pure (ForInStep.yield r)

/-- a namespace -/
noncomputable def NsP : Obj → Prop := fun o => ∃ es ep, o.data = .dict es ep ∧ StrKeys es

/-- a comprehension by what holds between its turns; the objects psW are handed over to it -/
theorem comp_go {elt tgt iter : Expr} {ifs : List Expr} {scope : Scope} {cpos : Pos} {cl : List (Str × Addr)} {psW psR : List Ent} {hd : Heap} {wr : List Addr} {I : Addr} {n : Nat}
    {P : Nat → (Str → Option Value) → (Str → Option Value) → Prop} {ok : Env → List Addr → Prop} {St : Nat → Heap → Prop} {RR : Value → Addr → Result → Shared → Prop}
    (Inv : Nat → Base → List Ent → List Ent → List Value → Prop) (IT : Itr prog w A tgt B I wr n P ok St) (hN : NewW W env wr) (hL : env.locals ∈ own) (hCW : ∀ x c, (x, c) ∈ env.cells → c ∉ psW.map (·.1))
    (S : Fm W B₀ h₀ own env B m ((psW ++ psR) ++ Hold hd wr) h) (st : St 0 h) (inv : Inv 0 B [] psW []) (hn : n ≤ sizeLine)
    (cn : List Str) (hcl : ∀ p ∈ cl, env.kindOf p.1 = some .cell ∧ env.cells.lookup p.1 = some p.2 ∧ (relabel scope env).names.lookup p.1 = some .cell) (hcn : ∀ n, (cellsFrom n scope.names cl).map (·.1) = cn) (hnd : cn.Nodup)
    (hok : ∀ C, ok (cenvOf scope env cl C) (cownOf scope C))
    (turn : ∀ C D i B₁ m₂ psN psW₁ ys h₁ tk₁ (E' : Value → Shared → Prop), h.objs.size ≤ D → h.objs.size ≤ C → i < n → ys.length ≤ i → B.le B₁ → psW₁.map (·.1) = psW.map (·.1) → Inv i B₁ psN psW₁ ys → P i (mcOf cl m) m₂ →
      Fm (psW.map (·.1)) B (hideAll h wr) (cownOf scope C) (cenvOf scope env cl C) B₁ m₂ ((psN ++ psW₁ ++ [(D, LstP ys)]) ++ Hold h₁ wr) h₁ →
      wpAny (model prog w) A (testsOf ifs (cenvOf scope env cl C)) (fun okb s₃ =>
        if okb = true then wpAny (model prog w) A (eval elt (cenvOf scope env cl C)) (fun y s₄ => ∃ B₂ m₃ psN₂ psW₂ h₂ tk₂, s₄ = mk s h₂ tk₂ ∧ B₁.le B₂ ∧ psW₂.map (·.1) = psW.map (·.1) ∧ Inv (i + 1) B₂ psN₂ psW₂ (ys ++ [y]) ∧ (∀ x v, mcOf cl m x = some v → m₃ x = some v) ∧
          Fm (psW.map (·.1)) B (hideAll h wr) (cownOf scope C) (cenvOf scope env cl C) B₂ m₃ ((psN₂ ++ psW₂ ++ [(D, LstP ys)]) ++ Hold h₁ wr) h₂) E' s₃
        else ∃ B₂ m₃ psN₂ psW₂ h₂ tk₂, s₃ = mk s h₂ tk₂ ∧ B₁.le B₂ ∧ psW₂.map (·.1) = psW.map (·.1) ∧ Inv (i + 1) B₂ psN₂ psW₂ ys ∧ (∀ x v, mcOf cl m x = some v → m₃ x = some v) ∧
          Fm (psW.map (·.1)) B (hideAll h wr) (cownOf scope C) (cenvOf scope env cl C) B₂ m₃ ((psN₂ ++ psW₂ ++ [(D, LstP ys)]) ++ Hold h₁ wr) h₂) E' (mk s h₁ tk₁))
    (done : ∀ C D B₂ psN psW₂ ys h' tk', h.objs.size ≤ D → h.objs.size ≤ C → B.le B₂ → psW₂.map (·.1) = psW.map (·.1) → Inv n B₂ psN psW₂ ys → ys.length ≤ n → Fm W B₀ h₀ own env B₂ m ((C, NsP) :: ((psN ++ [(D, LstP ys)]) ++ (psW₂ ++ psR))) h' → RR (.ref D) C (.ok .next) (mk s h' tk')) :
    wpAny (model prog w) A (newList []) (fun acc s₃ => wpAny (model prog w) A (newFunctionEnv scope env.globals cl [] env.qual none .none (some env)) (fun cenv s₄ =>
      codeAny (model prog w) A (.compStart (.ListComp elt [⟨tgt, iter, ifs, 0⟩] scope cpos) 0 (.ref I) acc { cenv with scope := relabel scope env }) (RR acc cenv.locals) s₄) E s₃) E (mk s h tk) := by
  have F0 := comp_frame (scope := scope) S hcl cn hcn hnd
  refine wpAny_newObj_type (newEnv_comp fun t => ?_)
  have e1 : (mk s (h.push (lstO [] 0)) tk).heap.objs.size = h.objs.size + 1 := Heap.size_push ..
  show codeAny (model prog w) A (.compStart _ 0 (.ref I) (.ref h.objs.size) (cenvOf scope env cl (mk s (h.push (lstO [] 0)) tk).heap.objs.size)) (RR (.ref h.objs.size) (mk s (h.push (lstO [] 0)) tk).heap.objs.size)
    (mk s (pushCells ((h.push (lstO [] 0)).push { cls := .type "dict", data := .dict #[] }) scope.names) t)
  rw [e1]
  generalize hH : pushCells ((h.push (lstO [] 0)).push { cls := .type "dict", data := .dict #[] }) scope.names = h2 at F0 ⊢
  let hh := hideAll h wr
  let co := cownOf scope (h.objs.size + 1)
  let ce := cenvOf scope env cl (h.objs.size + 1)
  let J : Nat → Shared → Prop := fun k s' => ∃ i B₁ psN psW₁ ys hd₁ h₁ tk₁, s' = mk s h₁ tk₁ ∧ i ≤ n ∧ k = n - i ∧ ys.length ≤ i ∧ B.le B₁ ∧ psW₁.map (·.1) = psW.map (·.1) ∧ Inv i B₁ psN psW₁ ys ∧ St i h₁ ∧
        Fm (psW.map (·.1)) B (hh) (co) (ce) B₁ (mcOf cl m) ((psN ++ psW₁ ++ [(h.objs.size, LstP ys)]) ++ Hold hd₁ wr) h₁
  have k2 : ∀ b o, h.get? b = some o → h2.get? b = some o := fun b o e => by
    rw [← hH]; exact pushCells_keeps _ _ b o (Heap.get?_push_of_some _ (Heap.get?_push_of_some _ e))
  have st2 : St 0 h2 := IT.stay 0 _ _ st S.sub F0.sub fun b _ o e => k2 b o e
  have CL : h.objs.size + 1 ∈ co := List.mem_cons_self ..
  have nCw : ∀ x c, (x, c) ∈ (ce).cells → c ∉ wr := fun x c hm q => by
    have hm : (x, c) ∈ cellsFrom (h.objs.size + 1 + 1) scope.names cl := hm
    rw [cellsFrom_append] at hm
    rcases List.mem_append.mp hm with z | z
    · have nd := F0.nodup
      rw [List.map_append, Hold.fst] at nd
      exact (List.nodup_append.mp nd).2.2 c (List.mem_cons_of_mem _ (List.mem_map_of_mem (f := fun p : Str × Addr => p.2) z)) c (List.mem_append_right _ q) rfl
    · exact hN.2 x c (mem_of_lookup (hcl _ z).2.1) q
  have nWR : ∀ a ∈ wr, a ∉ psW.map (·.1) := fun a ha q => by
    have nd := S.nodup
    rw [List.map_append, Hold.fst, List.map_append] at nd
    exact (List.nodup_append.mp (List.nodup_append.mp nd).2.1).2.2 a (List.mem_append_left _ q) a ha rfl
  -- the loop
  have loop : codeAny (model prog w) A (.compLoop (.ListComp elt [⟨tgt, iter, ifs, 0⟩] scope cpos) 0 (.ref I) (.ref h.objs.size) (ce))
      (RR (.ref h.objs.size) (h.objs.size + 1)) (mk s h2 t) := by
    refine comp_loop J ?_ n _
      (exI8 0 B [] psW [] h h2 t ⟨rfl, Nat.zero_le _, rfl, Nat.le_refl _, .rfl, rfl, inv, st2, F0⟩)
    intro k s' zz; refine ob8_9 zz fun i B₁ psN psW₁ ys hd₁ h₁ tk₁ zr1 hi zr2 hys le hpw inv st S₁ => ?_; clear zz; subst zr1; subst zr2
    refine wpAny_mono (IT.turn _ _ _ _ _ B₁ _ _ s h₁ hd₁ tk₁ i (fun s₁ => RR (.ref h.objs.size) (h.objs.size + 1) (.ok .next) s₁)
      (fun s₂ => wpAny (model prog w) A (testsOf ifs (ce)) (fun ok s₃ =>
          if ok = true then wpAny (model prog w) A (eval elt (ce)) (fun x s₄ =>
            wpAny (model prog w) A (call (.builtin "list.append") [.ref h.objs.size, x]) (fun _ s₅ => ∃ k', k' < n - i ∧ J k' s₅)
              (notedBy (model prog w) A (ce) fun e s' => RR (.ref h.objs.size) (h.objs.size + 1) (.error e) s') s₄)
            (notedBy (model prog w) A (ce) fun e s' => RR (.ref h.objs.size) (h.objs.size + 1) (.error e) s') s₃
          else ∃ k', k' < n - i ∧ J k' s₃)
          (notedBy (model prog w) A (ce) fun e s' => RR (.ref h.objs.size) (h.objs.size + 1) (.error e) s') s₂)
      (notedBy (model prog w) A (ce) fun e s' => RR (.ref h.objs.size) (h.objs.size + 1) (.error e) s')
      le hi st S₁ CL nCw nWR (hok _) (fun hlt m₂ h₃ tk₃ p st₃ S₃ => ?_) fun he h₃ tk₃ S₃ => ?_) (fun r s₁ q => q) fun _ _ q => q
    · refine wpAny_mono (turn (h.objs.size + 1) h.objs.size i B₁ m₂ psN psW₁ ys h₃ tk₃ _ (Nat.le_refl _) (Nat.le_succ _) hlt hys le hpw inv p S₃) (fun okb s₄ q => ?_) fun _ _ q => q
      have stays : ∀ {B₂ m₃ psX h₅}, Fm (psW.map (·.1)) B (hh) (co) (ce) B₂ m₃ (psX ++ Hold h₃ wr) h₅ → B₁.le B₂ → St (i + 1) h₅ := fun {B₂ m₃ psX h₅} S₅ le₂ =>
        IT.stay _ _ _ st₃ (S₃.sub.of_le le) (S₅.sub.of_le (le.trans le₂)) fun b hb o eb => by
          first | (refine ob2_1 (S₅.held b hb) fun o' e1' e2' => ?_) | (refine ob1_2 (S₅.held b hb) fun o' e1' e2' => ?_) | (refine ob0_3 (S₅.held b hb) fun o' e1' e2' => ?_) | obtain ⟨o', e1', e2'⟩ := S₅.held b hb
          rw [eb] at e2'; cases e2'; exact e1'
      cases okb with
      | false =>
        refine ob6_6 q fun B₂ m₃ psN₂ psW₂ h₅ tk₅ e le₂ hpw₂ inv₂ hm S₅ => ?_
        exact ⟨n - (i + 1), by exact om14 hlt, exI8 (i + 1) B₂ psN₂ psW₂ ys h₃ h₅ tk₅ ⟨e, hlt, rfl, Nat.le_succ_of_le hys, le.trans le₂, hpw₂, inv₂, stays S₅ le₂, S₅.forget hm⟩⟩
      | true =>
        refine wpAny_mono q (fun y s₅ q => ?_) fun _ _ q => q
        refine ob6_6 q fun B₂ m₃ psN₂ psW₂ h₅ tk₅ zr3 le₂ hpw₂ inv₂ hm S₅ => ?_; subst zr3
        have pl : h₅.PlainList h.objs.size ys.toArray := S₅.plain (List.mem_append_left _ (List.mem_append_right _ (List.mem_singleton.mpr rfl)))
        refine wpAny_list_append_plain (s := mk s h₅ tk₅) pl (fun h₆ pl₆ hs₆ => ?_) (by rw [List.size_toArray]; exact Nat.le_trans hys (Nat.le_trans hi hn))
        first | (refine ob1_1 (pl₆) fun c e6 => ?_; try clear pl₆) | (refine ob0_2 (pl₆) fun c e6 => ?_; try clear pl₆) | obtain ⟨c, e6⟩ := pl₆
        have e6 : h₆.get? h.objs.size = some (lstO (ys ++ [y]) c) := by rw [e6]; simp [lstO]
        have S₆ : Fm (psW.map (·.1)) B (hh) (co) (ce) B₂ m₃ ((psN₂ ++ psW₂) ++ (h.objs.size, LstP (ys ++ [y])) :: Hold h₃ wr) h₆ := by
          have S₅' : Fm (psW.map (·.1)) B (hh) (co) (ce) B₂ m₃ ((psN₂ ++ psW₂) ++ (h.objs.size, LstP ys) :: Hold h₃ wr) h₅ := by
            rw [List.append_assoc] at S₅; exact S₅
          refine S₅'.set hs₆.extBut e6 ⟨c, rfl⟩ CL fun x c hm q => ?_
          have hm : (x, c) ∈ cellsFrom (h.objs.size + 1 + 1) scope.names cl := hm
          rw [cellsFrom_append] at hm
          rcases List.mem_append.mp hm with z | z
          · have nd := S₅'.nodup
            refine (List.nodup_append.mp nd).2.2 c (List.mem_cons_of_mem _ (List.mem_map_of_mem (f := fun p : Str × Addr => p.2) z)) c ?_ rfl
            rw [q]; simp
          · first | (refine ob1_2 (S.lo.cell x c (hcl _ z).1 (hcl _ z).2.1) fun v₀ zn53 _ => ?_; obtain ⟨o, a, _⟩ := zn53) | (refine ob0_3 (S.lo.cell x c (hcl _ z).1 (hcl _ z).2.1) fun v₀ zn54 _ => ?_; obtain ⟨o, a, _⟩ := zn54) | obtain ⟨v₀, ⟨o, a, _⟩, _⟩ := S.lo.cell x c (hcl _ z).1 (hcl _ z).2.1
            rw [q] at a
            exact absurd (Heap.lt_size a) (Nat.lt_irrefl _)
        have S₇ : Fm (psW.map (·.1)) B (hh) (co) (ce) B₂ m₃ ((psN₂ ++ psW₂ ++ [(h.objs.size, LstP (ys ++ [y]))]) ++ Hold h₃ wr) h₆ := by
          rw [List.append_assoc]; exact S₆
        exact ⟨n - (i + 1), by exact om14 hlt, exI8 (i + 1) B₂ psN₂ psW₂ (ys ++ [y]) h₃ h₆ tk₅ ⟨rfl, hlt, rfl, by simp; exact om15 hys, le.trans le₂, hpw₂, inv₂, stays S₇ le₂, S₇.forget hm⟩⟩
    · subst he
      -- back in the outer frame
      have X : ExtW (psW.map (·.1)) B (hh) B₁ h₃ := ⟨le, S₃.sub, S₃.keep, S₃.off, S₃.live⟩
      have So := S.hide hL hN.2 hN.1
      have nd := So.nodup
      rw [List.map_append] at nd
      have nd₃ := S₃.nodup
      rw [List.map_append, List.map_append] at nd₃
      have S₄ : Fm W B₀ h₀ own env B₁ m (psW₁ ++ psR) h₃ := by
        refine So.extW X (fun q => ?_) hCW (fun a ha q => ?_) (fun a ha => ?_) (by rw [List.map_append, List.map_append, hpw]) fun p hp => ?_
        · exact (List.nodup_append.mp nd).2.2 _ hL _ (List.mem_append_left _ q) rfl
        · exact (List.nodup_append.mp nd).2.2 _ ha _ (List.mem_append_left _ q) rfl
        · rw [List.map_append]; exact List.mem_append_left _ ha
        · rcases List.mem_append.mp hp with q | q
          · exact S₃.ents p (List.mem_append_left _ (List.mem_append_right _ q))
          · first | (refine ob2_1 (So.ents p (List.mem_append_right _ q)) fun o e po => ?_) | (refine ob1_2 (So.ents p (List.mem_append_right _ q)) fun o e po => ?_) | (refine ob0_3 (So.ents p (List.mem_append_right _ q)) fun o e po => ?_) | obtain ⟨o, e, po⟩ := So.ents p (List.mem_append_right _ q)
            refine ⟨o, S₃.keep _ _ (fun z => ?_) e, po⟩
            exact (List.nodup_append.mp (List.nodup_append.mp nd).2.1).2.2 _ z _ (List.mem_map_of_mem q) rfl
      have inQ : ∀ p, p ∈ psN ++ [(h.objs.size, LstP ys)] → p ∈ psN ++ psW₁ ++ [(h.objs.size, LstP ys)] := fun p hp => by
        rcases List.mem_append.mp hp with q | q
        · exact List.mem_append_left _ (List.mem_append_left _ q)
        · exact List.mem_append_right _ q
      have inP : ∀ a, a ∈ (psN ++ [(h.objs.size, LstP ys)]).map (·.1) → a ∈ (psN ++ psW₁ ++ [(h.objs.size, LstP ys)]).map (·.1) := fun a ha => by
        first | (refine ob2_1 (List.mem_map.mp ha) fun p hp zr55 => ?_; subst zr55) | (refine ob1_2 (List.mem_map.mp ha) fun p hp zr56 => ?_; subst zr56) | (refine ob0_3 (List.mem_map.mp ha) fun p hp zr57 => ?_; subst zr57) | obtain ⟨p, hp, rfl⟩ := List.mem_map.mp ha
        exact List.mem_map_of_mem (inQ p hp)
      have inQ' : ∀ a, a ∈ ((h.objs.size + 1, NsP) :: (psN ++ [(h.objs.size, LstP ys)])).map (·.1) → a ∈ co ++ (psN ++ psW₁ ++ [(h.objs.size, LstP ys)]).map (·.1) := fun a ha => by
        rw [List.map_cons] at ha
        rcases List.mem_cons.mp ha with q | q
        · rw [q]; exact List.mem_append_left _ CL
        · exact List.mem_append_right _ (inP a q)
      refine done (h.objs.size + 1) h.objs.size B₁ psN psW₁ ys h₃ tk₃ (Nat.le_refl _) (Nat.le_succ _) le hpw inv hys (S₄.adopt (qs := (h.objs.size + 1, NsP) :: (psN ++ [(h.objs.size, LstP ys)])) (hb := hh) So.live (fun a ha => ?_) (fun p hp => ?_) ?_ (fun a ha => S₃.apart a (inQ' a ha)) fun a ha => ?_)
      · have : a ∈ own ++ (psW ++ psR).map (·.1) := by
          rw [List.map_append] at ha ⊢; rw [hpw] at ha; exact ha
        exact So.lt this
      · rcases List.mem_cons.mp hp with q | q
        · first | (refine ob1_2 (S₃.lo.ns) fun mL zn58 _ => ?_; obtain ⟨o, es, ep, ho, hd, hk, _⟩ := zn58) | (refine ob0_3 (S₃.lo.ns) fun mL zn59 _ => ?_; obtain ⟨o, es, ep, ho, hd, hk, _⟩ := zn59) | obtain ⟨mL, ⟨o, es, ep, ho, hd, hk, _⟩, _⟩ := S₃.lo.ns
          rw [q]; exact ⟨o, ho, es, ep, hd, hk⟩
        · exact S₃.ents p (inQ p q)
      · rw [List.map_cons]
        refine List.nodup_cons.mpr ⟨fun q => ?_, ?_⟩
        · exact (List.nodup_append.mp S₃.nodup).2.2 _ CL _ (inP _ q) rfl
        · refine List.Nodup.sublist ?_ (List.nodup_append.mp nd₃).2.1
          rw [List.map_append]
          exact (List.sublist_append_left _ _).append (List.Sublist.refl _)
      · refine S₃.fresh a (inQ' a ha) fun q => ?_
        rw [← hpw] at q
        have n1 := (List.nodup_append.mp nd₃).2.1
        rw [List.map_cons, List.map_append] at ha
        rcases List.mem_cons.mp ha with z | z
        · rw [z] at q
          exact (List.nodup_append.mp nd₃).2.2 _ CL _ (List.mem_append_left _ (List.mem_append_right _ q)) rfl
        · rw [List.append_assoc] at n1
          rcases List.mem_append.mp z with z | z
          · exact (List.nodup_append.mp n1).2.2 a z a (List.mem_append_left _ q) rfl
          · exact (List.nodup_append.mp (List.nodup_append.mp n1).2.1).2.2 a q a z rfl
  refine codeAny_compStart_list loop ?_
  exact IT.self 0 (mk s h2 t) _ _ st2 loop

theorem NsP.ns {o : Obj} {h : Heap} {a : Addr} (x : NsP o) (e : h.get? a = some o) : ∃ mC, h.Ns a mC := by
  first | (refine ob3_1 (x) fun es ep hd hk => ?_; try clear x) | (refine ob2_2 (x) fun es ep hd hk => ?_; try clear x) | (refine ob1_3 (x) fun es ep hd hk => ?_; try clear x) | (refine ob0_4 (x) fun es ep hd hk => ?_; try clear x) | obtain ⟨es, ep, hd, hk⟩ := x
  exact ⟨_, o, es, ep, e, hd, hk, fun _ => rfl⟩

/-- one private object is let go and may be anything -/
theorem Fm.lose {a : Addr} {P : Obj → Prop} {ps : List Ent} (S : Fm W B₀ h₀ own env B m ((a, P) :: ps) h) (hL : env.locals ∈ own) (hC : ∀ x c, (x, c) ∈ env.cells → c ≠ a) (hW : a ∉ W)
    (k : ∀ b o, b ≠ a → h.get? b = some o → h'.get? b = some o) : Fm W B₀ h₀ own env B m ps h' := by
  have S₁ : Fm W B₀ h₀ own env B m ((a, fun o => h.get? a = some o) :: ps) h :=
    { S with
      ents := fun p hp => by
        rcases List.mem_cons.mp hp with q | q
        · first | (refine ob2_1 (S.ents (a, P) (List.mem_cons_self ..)) fun o e _ => ?_) | (refine ob1_2 (S.ents (a, P) (List.mem_cons_self ..)) fun o e _ => ?_) | (refine ob0_3 (S.ents (a, P) (List.mem_cons_self ..)) fun o e _ => ?_) | obtain ⟨o, e, _⟩ := S.ents (a, P) (List.mem_cons_self ..)
          rw [q]; exact ⟨o, e, e⟩
        · exact S.ents p (List.mem_cons_of_mem _ q)
      nodup := S.nodup
      apart := S.apart
      fresh := S.fresh }
  have S₂ : Fm W B₀ h₀ own env B m (ps ++ Hold h [a]) h := S₁.perm (List.perm_append_comm (l₁ := [_]) (l₂ := ps))
  exact S₂.gone (fun b o hb e => k b o (fun q => hb (by rw [q]; exact List.mem_singleton.mpr rfl)) e) hL (fun x c hc q => hC x c hc (List.mem_singleton.mp q)) fun b hb => by rw [List.mem_singleton.mp hb]; exact hW

/-- the end of a comprehension whose value goes on -/
theorem comp_none {Q : Value → Shared → Prop} {C : Addr} {ps : List Ent} {acc : Value} (S : Fm W B₀ h₀ own env B m ((C, NsP) :: ps) h) (hL : env.locals ∈ own) (hC : ∀ x c, (x, c) ∈ env.cells → c ≠ C) (hW : C ∉ W)
    (hq : ∀ h', Fm W B₀ h₀ own env B m ps h' → Q acc (mk s h' tk)) : compPost (model prog w) A E none Q acc C (.ok .next) (mk s h tk) := by
  first | (refine ob2_1 (S.ents (C, NsP) (List.mem_cons_self ..)) fun o e x => ?_) | (refine ob1_2 (S.ents (C, NsP) (List.mem_cons_self ..)) fun o e x => ?_) | (refine ob0_3 (S.ents (C, NsP) (List.mem_cons_self ..)) fun o e x => ?_) | obtain ⟨o, e, x⟩ := S.ents (C, NsP) (List.mem_cons_self ..)
  first | (refine ob1_1 (x.ns e) fun mC hn => ?_) | (refine ob0_2 (x.ns e) fun mC hn => ?_) | obtain ⟨mC, hn⟩ := x.ns e
  exact ⟨mC, hn, fun h' hs => hq h' (S.lose hL hC hW hs.extBut)⟩

/-- the end of a comprehension whose value is stored -/
theorem comp_some {Q : Flow → Shared → Prop} {C : Addr} {ps : List Ent} {y : Str} {py : Pos} {v : Value} (S : Fm W B₀ h₀ own env B m ((C, NsP) :: ps) h) (hL : env.locals ∈ own) (hC : ∀ x c, (x, c) ∈ env.cells → c ≠ C) (hW : C ∉ W) (hy : CanSt env own y)
    (hq : ∀ h' tk', Fm W B₀ h₀ own env B (upd m y v) ps h' → Q .next (mk s h' tk')) : compPost (model prog w) A E (some (assign (.Name y py) env)) (fun _ s' => Q .next s') v C (.ok .next) (mk s h tk) := by
  show wpAny (model prog w) A (assign (.Name y py) env v) _ E (mk s h tk)
  refine wpAny_assign_Name (hy _ _ _ s h tk W B₀ h₀ B m _ v _ S fun h₂ tk₂ S₂ => ?_)
  first | (refine ob2_1 (S₂.ents (C, NsP) (List.mem_cons_self ..)) fun o e x => ?_) | (refine ob1_2 (S₂.ents (C, NsP) (List.mem_cons_self ..)) fun o e x => ?_) | (refine ob0_3 (S₂.ents (C, NsP) (List.mem_cons_self ..)) fun o e x => ?_) | obtain ⟨o, e, x⟩ := S₂.ents (C, NsP) (List.mem_cons_self ..)
  first | (refine ob1_1 (x.ns e) fun mC hn => ?_) | (refine ob0_2 (x.ns e) fun mC hn => ?_) | obtain ⟨mC, hn⟩ := x.ns e
  exact ⟨mC, hn, fun h' hs => hq h' tk₂ (S₂.lose hL hC hW hs.extBut)⟩

theorem comp_start {elt tgt iter : Expr} {ifs : List Expr} {scope : Scope} {cpos : Pos} (cl : List (Str × Addr)) {s : Shared} {Q : Value → Shared → Prop}
    (hclos : closureFor scope env = pure cl) (hkind : scope.kind = .function) (hnames : ∀ x ∈ scope.names, x.2 = .local → scope.names.lookup x.1 = some .local)
    (h : wpAny (model prog w) A (eval iter env) (fun xv s₁ => wpAny (model prog w) A (pyIter xv) (fun it s₂ =>
      wpAny (model prog w) A (newList []) (fun acc s₃ => wpAny (model prog w) A (newFunctionEnv scope env.globals cl [] env.qual none .none (some env)) (fun cenv s₄ =>
        codeAny (model prog w) A (.compStart (.ListComp elt [⟨tgt, iter, ifs, 0⟩] scope cpos) 0 it acc { cenv with scope := relabel scope env }) (compPost (model prog w) A E none Q acc cenv.locals) s₄) E s₃) E s₂) E s₁) E s)
    (hs : ∀ x, foldedSetIterable iter env x = pure x := by intro _; rfl) : wpAny (model prog w) A (eval (.ListComp elt [⟨tgt, iter, ifs, 0⟩] scope cpos) env) Q E s := by
  rw [eval_ListComp]
  exact wpAny_comprehension_free (use := none) rfl hs hclos hkind hnames h

/-- «y = [..]» -/
theorem comp_assign {elt tgt iter : Expr} {ifs : List Expr} {scope : Scope} {cpos spos py : Pos} {y : Str} (cl : List (Str × Addr)) {s : Shared} {Q : Flow → Shared → Prop}
    (hsw : swapsWith (.ListComp elt [⟨tgt, iter, ifs, 0⟩] scope cpos) (some (.Name y py)) spos.line env = pure true)
    (hclos : closureFor scope env = pure cl) (hkind : scope.kind = .function) (hnames : ∀ x ∈ scope.names, x.2 = .local → scope.names.lookup x.1 = some .local)
    (h : wpAny (model prog w) A (eval iter env) (fun xv s₁ => wpAny (model prog w) A (pyIter xv) (fun it s₂ =>
      wpAny (model prog w) A (newList []) (fun acc s₃ => wpAny (model prog w) A (newFunctionEnv scope env.globals cl [] env.qual none .none (some env)) (fun cenv s₄ =>
        codeAny (model prog w) A (.compStart (.ListComp elt [⟨tgt, iter, ifs, 0⟩] scope cpos) 0 it acc { cenv with scope := relabel scope env }) (compPost (model prog w) A E (some (assign (.Name y py) env)) (fun _ s' => Q .next s') acc cenv.locals) s₄) E s₃) E s₂) E s₁) E s)
    (hs : ∀ x, foldedSetIterable iter env x = pure x := by intro _; rfl) : wpAny (model prog w) A (exec (.Assign [.Name y py] (.ListComp elt [⟨tgt, iter, ifs, 0⟩] scope cpos) spos) env) Q E s := by
  rw [exec_Assign_Name_used _ _ _ _ hsw]
  refine wpAny_bind (wpAny_standAt (wpAny_bind ?_))
  show wpAny _ A (do let _ ← comprehension (.ListComp elt [⟨tgt, iter, ifs, 0⟩] scope cpos) scope env _ (newList []) false (eval iter env) (some (assign (.Name y py) env))) _ _ s
  exact wpAny_bind (wpAny_mono (wpAny_comprehension_free (use := some (assign (.Name y py) env)) (Q := fun _ s' => Q .next s') rfl hs hclos hkind hnames h) (fun _ s' hq => wpAny_pure (wpAny_pure hq)) fun _ _ e => e)

/-- a comprehension whose turns only add: its list is of the base at the end -/
theorem comp_pure {elt tgt iter : Expr} {ifs : List Expr} {scope : Scope} {cpos : Pos} {cl : List (Str × Addr)} {ps : List Ent} {hd : Heap} {wr : List Addr} {I : Addr} {n : Nat}
    {P : Nat → (Str → Option Value) → (Str → Option Value) → Prop} {ok : Env → List Addr → Prop} {St : Nat → Heap → Prop} {RR : Value → Addr → Result → Shared → Prop}
    (G : Nat → Base → List Value → Prop) (IT : Itr prog w A tgt B I wr n P ok St) (hN : NewW W env wr) (st : St 0 h) (S : Fm W B₀ h₀ own env B m (ps ++ Hold hd wr) h) (hL : env.locals ∈ own)
    (g0 : G 0 B []) (hG : ∀ B₁ B₂ ys, B₁.le B₂ → G n B₁ ys → G n B₂ ys) (hn : n ≤ sizeLine)
    (cn : List Str) (hcl : ∀ p ∈ cl, env.kindOf p.1 = some .cell ∧ env.cells.lookup p.1 = some p.2 ∧ (relabel scope env).names.lookup p.1 = some .cell) (hcn : ∀ n, (cellsFrom n scope.names cl).map (·.1) = cn) (hnd : cn.Nodup)
    (hok : ∀ C, ok (cenvOf scope env cl C) (cownOf scope C))
    (turn : ∀ C D i B₁ m₂ ys h₁ tk₁ (E' : Value → Shared → Prop), i < n → ys.length ≤ i → B.le B₁ → G i B₁ ys → P i (mcOf cl m) m₂ →
      Fm [] B (hideAll h wr) (cownOf scope C) (cenvOf scope env cl C) B₁ m₂ ((D, LstP ys) :: Hold h₁ wr) h₁ →
      wpAny (model prog w) A (testsOf ifs (cenvOf scope env cl C)) (fun okb s₃ =>
        if okb = true then wpAny (model prog w) A (eval elt (cenvOf scope env cl C)) (fun y s₄ => ∃ B₂ m₃ h₂ tk₂, s₄ = mk s h₂ tk₂ ∧ B₁.le B₂ ∧ G (i + 1) B₂ (ys ++ [y]) ∧ (∀ x v, mcOf cl m x = some v → m₃ x = some v) ∧
          Fm [] B (hideAll h wr) (cownOf scope C) (cenvOf scope env cl C) B₂ m₃ ((D, LstP ys) :: Hold h₁ wr) h₂) E' s₃
        else ∃ B₂ m₃ h₂ tk₂, s₃ = mk s h₂ tk₂ ∧ B₁.le B₂ ∧ G (i + 1) B₂ ys ∧ (∀ x v, mcOf cl m x = some v → m₃ x = some v) ∧
          Fm [] B (hideAll h wr) (cownOf scope C) (cenvOf scope env cl C) B₂ m₃ ((D, LstP ys) :: Hold h₁ wr) h₂) E' (mk s h₁ tk₁))
    (done : ∀ C D B₂ c ys h' tk', NewW W env [C] → B.le B₂ → G n B₂ ys → ys.length ≤ n → B₂ D = some (lstO ys c) → Fm W B₀ h₀ own env B₂ m ((C, NsP) :: ps) h' → RR (.ref D) C (.ok .next) (mk s h' tk')) :
    wpAny (model prog w) A (newList []) (fun acc s₃ => wpAny (model prog w) A (newFunctionEnv scope env.globals cl [] env.qual none .none (some env)) (fun cenv s₄ =>
      codeAny (model prog w) A (.compStart (.ListComp elt [⟨tgt, iter, ifs, 0⟩] scope cpos) 0 (.ref I) acc { cenv with scope := relabel scope env }) (RR acc cenv.locals) s₄) E s₃) E (mk s h tk) := by
  refine comp_go (psW := []) (psR := ps) (fun i B₁ psN psW₁ ys => psN = [] ∧ psW₁ = [] ∧ G i B₁ ys) IT hN hL (fun _ _ _ q => by cases q) S st ⟨rfl, rfl, g0⟩ hn cn hcl hcn hnd hok ?_ ?_
  · rintro C D i B₁ m₂ psN psW₁ ys h₁ tk₁ E' _ _ hi hy le _ ⟨rfl, rfl, g⟩ p F
    refine wpAny_mono (turn C D i B₁ m₂ ys h₁ tk₁ E' hi hy le g p F) (fun okb s₃ q => ?_) fun _ _ q => q
    cases okb with
    | false =>
      first | (refine ob6_3 (q) fun B₂ m₃ h₂ tk₂ e le₂ g₂ hm F₂ => ?_; try clear q) | (refine ob5_4 (q) fun B₂ m₃ h₂ tk₂ e le₂ g₂ hm F₂ => ?_; try clear q) | (refine ob4_5 (q) fun B₂ m₃ h₂ tk₂ e le₂ g₂ hm F₂ => ?_; try clear q) | (refine ob3_6 (q) fun B₂ m₃ h₂ tk₂ e le₂ g₂ hm F₂ => ?_; try clear q) | (refine ob2_7 (q) fun B₂ m₃ h₂ tk₂ e le₂ g₂ hm F₂ => ?_; try clear q) | obtain ⟨B₂, m₃, h₂, tk₂, e, le₂, g₂, hm, F₂⟩ := q
      exact exI6 B₂ m₃ [] [] h₂ tk₂ ⟨e, le₂, rfl, ⟨rfl, rfl, g₂⟩, hm, F₂⟩
    | true =>
      refine wpAny_mono q (fun y s₄ q => ?_) fun _ _ q => q
      first | (refine ob6_3 (q) fun B₂ m₃ h₂ tk₂ e le₂ g₂ hm F₂ => ?_; try clear q) | (refine ob5_4 (q) fun B₂ m₃ h₂ tk₂ e le₂ g₂ hm F₂ => ?_; try clear q) | (refine ob4_5 (q) fun B₂ m₃ h₂ tk₂ e le₂ g₂ hm F₂ => ?_; try clear q) | (refine ob3_6 (q) fun B₂ m₃ h₂ tk₂ e le₂ g₂ hm F₂ => ?_; try clear q) | (refine ob2_7 (q) fun B₂ m₃ h₂ tk₂ e le₂ g₂ hm F₂ => ?_; try clear q) | obtain ⟨B₂, m₃, h₂, tk₂, e, le₂, g₂, hm, F₂⟩ := q
      exact exI6 B₂ m₃ [] [] h₂ tk₂ ⟨e, le₂, rfl, ⟨rfl, rfl, g₂⟩, hm, F₂⟩
  · rintro C D B₂ psN psW₂ ys h' tk' hD hC le _ ⟨rfl, rfl, g⟩ hy F
    have nC : NewW W env [C] := S.newW fun a ha => by rw [List.mem_singleton.mp ha]; exact none_ge hC
    have nD : NewW W env [D] := S.newW fun a ha => by rw [List.mem_singleton.mp ha]; exact none_ge hD
    have F' : Fm W B₀ h₀ own env B₂ m ((D, LstP ys) :: (C, NsP) :: ps) h' := F.perm (List.Perm.swap ..)
    first | (refine ob2_2 (F'.freeze (nD.1 D (List.mem_singleton.mpr rfl))) fun B₃ le₃ zn60 F₃ => ?_; obtain ⟨o, e, c, rfl⟩ := zn60) | (refine ob1_3 (F'.freeze (nD.1 D (List.mem_singleton.mpr rfl))) fun B₃ le₃ zn61 F₃ => ?_; obtain ⟨o, e, c, rfl⟩ := zn61) | (refine ob0_4 (F'.freeze (nD.1 D (List.mem_singleton.mpr rfl))) fun B₃ le₃ zn62 F₃ => ?_; obtain ⟨o, e, c, rfl⟩ := zn62) | obtain ⟨B₃, le₃, ⟨o, e, c, rfl⟩, F₃⟩ := F'.freeze (nD.1 D (List.mem_singleton.mpr rfl))
    exact done C D B₃ c ys h' tk' nC (le.trans le₃) (hG _ _ _ le₃ g) hy e F₃

/-- the same, its list one's own at the end -/
theorem comp_priv {elt tgt iter : Expr} {ifs : List Expr} {scope : Scope} {cpos : Pos} {cl : List (Str × Addr)} {ps : List Ent} {hd : Heap} {wr : List Addr} {I : Addr} {n : Nat}
    {P : Nat → (Str → Option Value) → (Str → Option Value) → Prop} {ok : Env → List Addr → Prop} {St : Nat → Heap → Prop} {RR : Value → Addr → Result → Shared → Prop}
    (G : Nat → Base → List Value → Prop) (IT : Itr prog w A tgt B I wr n P ok St) (hN : NewW W env wr) (st : St 0 h) (S : Fm W B₀ h₀ own env B m (ps ++ Hold hd wr) h) (hL : env.locals ∈ own)
    (g0 : G 0 B []) (hn : n ≤ sizeLine)
    (cn : List Str) (hcl : ∀ p ∈ cl, env.kindOf p.1 = some .cell ∧ env.cells.lookup p.1 = some p.2 ∧ (relabel scope env).names.lookup p.1 = some .cell) (hcn : ∀ n, (cellsFrom n scope.names cl).map (·.1) = cn) (hnd : cn.Nodup)
    (hok : ∀ C, ok (cenvOf scope env cl C) (cownOf scope C))
    (turn : ∀ C D i B₁ m₂ ys h₁ tk₁ (E' : Value → Shared → Prop), i < n → ys.length ≤ i → B.le B₁ → G i B₁ ys → P i (mcOf cl m) m₂ →
      Fm [] B (hideAll h wr) (cownOf scope C) (cenvOf scope env cl C) B₁ m₂ ((D, LstP ys) :: Hold h₁ wr) h₁ →
      wpAny (model prog w) A (testsOf ifs (cenvOf scope env cl C)) (fun okb s₃ =>
        if okb = true then wpAny (model prog w) A (eval elt (cenvOf scope env cl C)) (fun y s₄ => ∃ B₂ m₃ h₂ tk₂, s₄ = mk s h₂ tk₂ ∧ B₁.le B₂ ∧ G (i + 1) B₂ (ys ++ [y]) ∧ (∀ x v, mcOf cl m x = some v → m₃ x = some v) ∧
          Fm [] B (hideAll h wr) (cownOf scope C) (cenvOf scope env cl C) B₂ m₃ ((D, LstP ys) :: Hold h₁ wr) h₂) E' s₃
        else ∃ B₂ m₃ h₂ tk₂, s₃ = mk s h₂ tk₂ ∧ B₁.le B₂ ∧ G (i + 1) B₂ ys ∧ (∀ x v, mcOf cl m x = some v → m₃ x = some v) ∧
          Fm [] B (hideAll h wr) (cownOf scope C) (cenvOf scope env cl C) B₂ m₃ ((D, LstP ys) :: Hold h₁ wr) h₂) E' (mk s h₁ tk₁))
    (done : ∀ C D B₂ ys h' tk', NewW W env [C] → h.get? D = none → B.le B₂ → G n B₂ ys → ys.length ≤ n → Fm W B₀ h₀ own env B₂ m ((C, NsP) :: (D, LstP ys) :: ps) h' → RR (.ref D) C (.ok .next) (mk s h' tk')) :
    wpAny (model prog w) A (newList []) (fun acc s₃ => wpAny (model prog w) A (newFunctionEnv scope env.globals cl [] env.qual none .none (some env)) (fun cenv s₄ =>
      codeAny (model prog w) A (.compStart (.ListComp elt [⟨tgt, iter, ifs, 0⟩] scope cpos) 0 (.ref I) acc { cenv with scope := relabel scope env }) (RR acc cenv.locals) s₄) E s₃) E (mk s h tk) := by
  refine comp_go (psW := []) (psR := ps) (fun i B₁ psN psW₁ ys => psN = [] ∧ psW₁ = [] ∧ G i B₁ ys) IT hN hL (fun _ _ _ q => by cases q) S st ⟨rfl, rfl, g0⟩ hn cn hcl hcn hnd hok ?_ ?_
  · rintro C D i B₁ m₂ psN psW₁ ys h₁ tk₁ E' _ _ hi hy le _ ⟨rfl, rfl, g⟩ p F
    refine wpAny_mono (turn C D i B₁ m₂ ys h₁ tk₁ E' hi hy le g p F) (fun okb s₃ q => ?_) fun _ _ q => q
    cases okb with
    | false =>
      first | (refine ob6_3 (q) fun B₂ m₃ h₂ tk₂ e le₂ g₂ hm F₂ => ?_; try clear q) | (refine ob5_4 (q) fun B₂ m₃ h₂ tk₂ e le₂ g₂ hm F₂ => ?_; try clear q) | (refine ob4_5 (q) fun B₂ m₃ h₂ tk₂ e le₂ g₂ hm F₂ => ?_; try clear q) | (refine ob3_6 (q) fun B₂ m₃ h₂ tk₂ e le₂ g₂ hm F₂ => ?_; try clear q) | (refine ob2_7 (q) fun B₂ m₃ h₂ tk₂ e le₂ g₂ hm F₂ => ?_; try clear q) | obtain ⟨B₂, m₃, h₂, tk₂, e, le₂, g₂, hm, F₂⟩ := q
      exact exI6 B₂ m₃ [] [] h₂ tk₂ ⟨e, le₂, rfl, ⟨rfl, rfl, g₂⟩, hm, F₂⟩
    | true =>
      refine wpAny_mono q (fun y s₄ q => ?_) fun _ _ q => q
      first | (refine ob6_3 (q) fun B₂ m₃ h₂ tk₂ e le₂ g₂ hm F₂ => ?_; try clear q) | (refine ob5_4 (q) fun B₂ m₃ h₂ tk₂ e le₂ g₂ hm F₂ => ?_; try clear q) | (refine ob4_5 (q) fun B₂ m₃ h₂ tk₂ e le₂ g₂ hm F₂ => ?_; try clear q) | (refine ob3_6 (q) fun B₂ m₃ h₂ tk₂ e le₂ g₂ hm F₂ => ?_; try clear q) | (refine ob2_7 (q) fun B₂ m₃ h₂ tk₂ e le₂ g₂ hm F₂ => ?_; try clear q) | obtain ⟨B₂, m₃, h₂, tk₂, e, le₂, g₂, hm, F₂⟩ := q
      exact exI6 B₂ m₃ [] [] h₂ tk₂ ⟨e, le₂, rfl, ⟨rfl, rfl, g₂⟩, hm, F₂⟩
  · rintro C D B₂ psN psW₂ ys h' tk' hD hC le _ ⟨rfl, rfl, g⟩ hy F
    have nC : NewW W env [C] := S.newW fun a ha => by rw [List.mem_singleton.mp ha]; exact none_ge hC
    exact done C D B₂ ys h' tk' nC (none_ge hD) le g hy F

/-- no tests -/
theorem tests_nil {env : Env} {Q : Bool → Shared → Prop} {s : Shared} (h : Q true s) : wpAny (model prog w) A (testsOf [] env) Q E s := wpAny_tests_nil h
theorem tests_one {env : Env} {c : Expr} {Q : Bool → Shared → Prop} {s : Shared} (h : wpAny (model prog w) A (isTrue c env (eval c env)) Q E s) : wpAny (model prog w) A (testsOf [c] env) Q E s := wpAny_tests_one h
end
/-! data -/
abbrev Rel (α : Type) := Base → α → Value → Prop
noncomputable def Mono {α : Type} (P : Rel α) : Prop := ∀ B B' x v, B.le B' → P B x v → P B' x v
noncomputable def IntV : Rel Int := fun _ i v => ∃ t, v = .int i t
noncomputable def RatV : Rel Rat := fun B r v => ∃ t n x y, v = .ref t ∧ B t = some (tupO [.int r.num x, .int r.den y] n)
noncomputable def LV {α : Type} (P : Rel α) : Rel (List α) := fun B xs v => ∃ l vs c, v = .ref l ∧ B l = some (lstO vs c) ∧ Paired (P B) xs vs
theorem IntV.mono : Mono IntV := fun _ _ _ _ _ h => h
theorem RatV.mono : Mono RatV := fun _ _ _ _ l h => ob4_2 h fun t n a b e h => ⟨t, n, a, b, e, l _ _ h⟩
theorem RatV.le {B B' : Base} {r : Rat} {v : Value} (x : RatV B r v) (l : B.le B') : RatV B' r v := RatV.mono _ _ _ _ l x
theorem pImp {α β : Type} {F G : α → β → Prop} (h : ∀ a b, F a b → G a b) {xs : List α} {ys : List β} (p : Paired F xs ys) : Paired G xs ys := by
  induction p with
  | nil => exact .nil
  | cons a _ ih => exact .cons (h _ _ a) ih
theorem pMono {α : Type} {P : Rel α} (hP : Mono P) {B B' : Base} (l : B.le B') {xs : List α} {vs : List Value} (h : Paired (P B) xs vs) : Paired (P B') xs vs := pImp (fun _ _ => hP _ _ _ _ l) h
theorem LV.mono {α : Type} {P : Rel α} (hP : Mono P) : Mono (LV P) := fun _ _ _ _ l h => ob3_3 h fun a vs c e b p => ⟨a, vs, c, e, l _ _ b, pMono hP l p⟩
theorem pGet {α β : Type} {F : α → β → Prop} {xs : List α} {ys : List β} (h : Paired F xs ys) : ∀ {i : Nat} {x : α}, xs[i]? = some x → ∃ y, ys[i]? = some y ∧ F x y := by
  induction h with
  | nil => intro i x e; rw [List.getElem?_nil] at e; cases e
  | cons a r ih =>
    intro i x e
    cases i with
    | zero => cases e; exact ⟨_, rfl, a⟩
    | succ i => exact ih (i := i) e
theorem pGet' {α β : Type} {F : α → β → Prop} {xs : List α} {ys : List β} (h : Paired F xs ys) : ∀ {i : Nat} {y : β}, ys[i]? = some y → ∃ x, xs[i]? = some x ∧ F x y := by
  induction h with
  | nil => intro i x e; rw [List.getElem?_nil] at e; cases e
  | cons a r ih =>
    intro i x e
    cases i with
    | zero => cases e; exact ⟨_, rfl, a⟩
    | succ i => exact ih (i := i) e
theorem pLen {α β : Type} {F : α → β → Prop} {xs : List α} {ys : List β} (h : Paired F xs ys) : ys.length = xs.length := h.length.symm
theorem pSet {α β : Type} {F : α → β → Prop} {x : α} {y : β} {xs : List α} {ys : List β} (i : Nat) (h : Paired F xs ys) (hx : F x y) : Paired F (xs.set i x) (ys.set i y) := by
  induction h generalizing i with
  | nil => exact .nil
  | cons a r ih =>
    cases i with
    | zero => exact .cons hx r
    | succ i => exact .cons a (ih i)
theorem pTake {α β : Type} {F : α → β → Prop} {xs : List α} {ys : List β} (i : Nat) (h : Paired F xs ys) : Paired F (xs.take i) (ys.take i) := by
  induction h generalizing i with
  | nil => rw [List.take_nil, List.take_nil]; exact .nil
  | cons a r ih =>
    cases i with
    | zero => exact .nil
    | succ i => exact .cons a (ih i)
theorem pAppend {α β : Type} {F : α → β → Prop} {xs : List α} {ys : List β} {xs' : List α} {ys' : List β} (h : Paired F xs ys) (h' : Paired F xs' ys') : Paired F (xs ++ xs') (ys ++ ys') := by
  induction h with
  | nil => exact h'
  | cons a _ ih => exact .cons a ih
theorem pSnocTake {α β : Type} {F : α → β → Prop} {xs : List α} {ys : List β} {i : Nat} {x : α} {y : β} (h : Paired F (xs.take i) ys) (hx : xs[i]? = some x) (hxy : F x y) : Paired F (xs.take (i + 1)) (ys ++ [y]) := by
  rw [List.take_add_one, hx]
  exact Paired.snoc h hxy
theorem pWhole {α β : Type} {F : α → β → Prop} {xs : List α} {ys : List β} {n : Nat} (h : Paired F (xs.take n) ys) (hn : n = xs.length) : Paired F xs ys := by
  subst hn
  rwa [List.take_length] at h
abbrev RowV : Rel (List Rat) := LV RatV
abbrev MatV : Rel (List (List Rat)) := LV RowV
abbrev IntsV : Rel (List Int) := LV IntV
abbrev IMatV : Rel (List (List Int)) := LV IntsV
theorem RowV.mono : Mono RowV := LV.mono RatV.mono
theorem MatV.mono : Mono MatV := LV.mono RowV.mono
theorem IntsV.mono : Mono IntsV := LV.mono IntV.mono
theorem IMatV.mono : Mono IMatV := LV.mono IntsV.mono
theorem IntV.mk {B : Base} {i : Int} {t : Tok} : IntV B i (.int i t) := ⟨t, rfl⟩
theorem RatV.mk {B : Base} {r : Rat} {t : Addr} {a d : Int} {x y : Tok} {n : Nat} (e : B t = some (tupO [.int a x, .int d y] n)) (ha : r.num = a) (hd : (r.den : Int) = d) : RatV B r (.ref t) :=
  ⟨t, n, x, y, rfl, by rw [ha, hd]; exact e⟩

theorem mc_upd {cl : List (Str × Addr)} {m : Str → Option Value} {t : Str} {v : Value} (ht : cl.lookup t = none) : ∀ x u, mcOf cl m x = some u → upd (mcOf cl m) t v x = some u := fun x u h => by
  by_cases q : x = t
  · subst q; unfold mcOf at h; rw [ht] at h; cases h
  · show (if x = t then _ else _) = _
    rw [if_neg q]; exact h
theorem mc_upd2 {cl : List (Str × Addr)} {m : Str → Option Value} {t t' : Str} {v v' : Value} (ht : cl.lookup t = none) (ht' : cl.lookup t' = none) : ∀ x u, mcOf cl m x = some u → upd (upd (mcOf cl m) t v) t' v' x = some u := fun x u h => by
  by_cases q : x = t'
  · subst q; unfold mcOf at h; rw [ht'] at h; cases h
  · show (if x = t' then _ else _) = _
    rw [if_neg q]; exact mc_upd ht x u h

noncomputable def wd {α : Type} : List (List α) → Nat
  | [] => 0
  | r :: _ => r.length
/-- no size is a worry -/
noncomputable def Dims {α : Type} (M : List (List α)) : Prop := M.length ≤ 1000 ∧ ∀ r ∈ M, r.length ≤ 1000

noncomputable def qrow (r : List Int) : List Rat := r.map fun (i : Int) => (i : Rat)
noncomputable def qmat (M : List (List Int)) : List (List Rat) := M.map qrow
noncomputable def rowSub (q : Rat) (r p : List Rat) : List Rat := List.zipWith (fun x y => x - q * y) r p
theorem fits {n : Nat} (h : n ≤ 1000) : n ≤ sizeLine := Nat.le_trans h (by unfold sizeLine; decide)

section
variable {prog : Program} {w : World} {A : Around} {E : Value → Shared → Prop} {s : Shared} {tk : Nat}
variable {W : List Addr} {B₀ B B' : Base} {h₀ h h' : Heap} {own : List Addr} {env : Env} {m : Str → Option Value} {ps : List Ent} {x : Str} {pos : Pos} {v : Value} {Q : Value → Shared → Prop}

theorem lenL {l : Addr} {vs : List Value} (hl : h.PlainList l vs.toArray) (hz : vs.length < 2 ^ 62) (hq : ∀ t tk', Q (.int vs.length t) (mk s h tk')) :
    wpAny (model prog w) A (call (.builtin "len") [.ref l]) Q E (mk s h tk) :=
  Calls.call_len_list (s := mk s h tk) hl.isList (by rw [List.size_toArray]; exact om16 hz) (by rw [List.size_toArray]; exact hq _ _)

/-- a copy, never changed -/
theorem copyB {l : Addr} {vs : List Value} (S : Fm W B₀ h₀ own env B m ps h) (hl : h.PlainList l vs.toArray) (hz : vs.length ≤ sizeLine)
    (hq : ∀ B' h' D c, B.le B' → B' D = some (lstO vs c) → Fm W B₀ h₀ own env B' m ps h' → Q (.ref D) (mk s h' tk)) : wpAny (model prog w) A (call (.type "list") [.ref l]) Q E (mk s h tk) := by
  first | (refine ob1_1 (hl) fun c e => ?_; try clear hl) | (refine ob0_2 (hl) fun c e => ?_; try clear hl) | obtain ⟨c, e⟩ := hl
  refine call_list_seq (s := mk s h tk) l (.inl rfl) e rfl rfl (fun h' c' k eD => ?_) (by rw [List.size_toArray]; exact hz)
  first | (refine ob2_1 (Ext.alloc (a := h.objs.size) (o := lstO vs c') S.sub newAt k eD) fun B' X e' => ?_) | (refine ob1_2 (Ext.alloc (a := h.objs.size) (o := lstO vs c') S.sub newAt k eD) fun B' X e' => ?_) | (refine ob0_3 (Ext.alloc (a := h.objs.size) (o := lstO vs c') S.sub newAt k eD) fun B' X e' => ?_) | obtain ⟨B', X, e'⟩ := Ext.alloc (a := h.objs.size) (o := lstO vs c') S.sub newAt k eD
  exact hq B' h' _ c' X.le e' (S.ext X)
/-- a copy of one's own -/
theorem copyP {l : Addr} {vs : List Value} (S : Fm W B₀ h₀ own env B m ps h) (hl : h.PlainList l vs.toArray) (hz : vs.length ≤ sizeLine)
    (hq : ∀ h' D, h.get? D = none → Fm W B₀ h₀ own env B m ((D, LstP vs) :: ps) h' → Q (.ref D) (mk s h' tk)) : wpAny (model prog w) A (call (.type "list") [.ref l]) Q E (mk s h tk) := by
  first | (refine ob1_1 (hl) fun c e => ?_; try clear hl) | (refine ob0_2 (hl) fun c e => ?_; try clear hl) | obtain ⟨c, e⟩ := hl
  refine call_list_seq (s := mk s h tk) l (.inl rfl) e rfl rfl (fun h' c' k eD => ?_) (by rw [List.size_toArray]; exact hz)
  exact hq h' _ newAt (S.push newAt k eD ⟨c', rfl⟩)

/-- a callee's new thing is taken over -/
theorem Fm.take {D : Addr} {o : Obj} {P : Obj → Prop} (S : Fm W B₀ h₀ own env B m ps h) (X : Ext B h B' h') (hn : h.get? D = none) (hB : B' D = none) (e : h'.get? D = some o) (hp : P o) :
    Fm W B₀ h₀ own env B' m ((D, P) :: ps) h' := by
  have S' := S.ext X
  have ne : ∀ a ∈ own ++ ps.map (·.1), a ≠ D := fun a ha q => by
    first | (refine ob1_1 (S.lt ha) fun o e => ?_) | (refine ob0_2 (S.lt ha) fun o e => ?_) | obtain ⟨o, e⟩ := S.lt ha
    rw [q, hn] at e; cases e
  have hh : h₀.get? D = none := by
    cases q : h₀.get? D with
    | none => rfl
    | some o => obtain ⟨o', e'⟩ := S.live D o q; rw [hn] at e'; cases e'
  exact { S' with
    ents := fun p hp' => by
      rcases List.mem_cons.mp hp' with q | q
      · rw [q]; exact ⟨o, e, hp⟩
      · exact S'.ents p q
    nodup := by
      rw [List.map_cons]
      exact (List.Perm.nodup_iff List.perm_middle).mpr (List.nodup_cons.mpr ⟨fun q => ne D q rfl, S'.nodup⟩)
    apart := fun b hb => by
      rw [List.map_cons] at hb
      rcases List.mem_cons.mp (List.perm_middle.mem_iff.mp hb) with z | z
      · rw [z]; exact hB
      · exact S'.apart b z
    fresh := fun b hb hW => by
      rw [List.map_cons] at hb
      rcases List.mem_cons.mp (List.perm_middle.mem_iff.mp hb) with z | z
      · rw [z]; exact hh
      · exact S'.fresh b z hW }

theorem pInts {B : Base} {xs : List Int} {vs : List Value} (h : Paired (IntV B) xs vs) : IntsAre vs xs := by
  induction h with
  | nil => exact .nil | cons a _ ih => exact a.elim fun t e => by rw [e]; exact .cons _ t ih

theorem setI {l : Addr} {vs : List Value} {k : Int} {t : Tok} {Q : Unit → Shared → Prop} (hl : h.PlainList l vs.toArray) (h0 : 0 ≤ k) (hk : k < 2 ^ 63) (hn : k.toNat < vs.length)
    (hq : ∀ h', (∃ o, h'.get? l = some o ∧ LstP (vs.set k.toNat v) o) → Heap.SameBut l h h' → Q () (mk s h' tk)) : wpAny (model prog w) A (setItem (.ref l) (.int k t) v) Q E (mk s h tk) := by
  first | (refine ob1_1 (hl) fun n e => ?_; try clear hl) | (refine ob0_2 (hl) fun n e => ?_; try clear hl) | obtain ⟨n, e⟩ := hl
  refine ki_setAt (s := mk s h tk) (n := n) e h0 hk (by rw [List.size_toArray]; exact om10 hn) (hq _ ⟨_, Heap.get?_update_self _ e rfl, n, ?_⟩ (Heap.SameBut.update ..))
  simp [Obj.mapSeq, lstO]

theorem own_cells {env : Env} : ∀ x c, (x, c) ∈ env.cells → c ∈ ownOf env := fun _ _ hm => List.mem_cons_of_mem _ (List.mem_map_of_mem (f := fun p : Str × Addr => p.2) hm)

/-- an item of a list of one's own is set -/
theorem setP (ps₁ : List Ent) {ps₂ : List Ent} {l : Addr} {vs : List Value} {k : Int} {t : Tok} {Q : Unit → Shared → Prop} (S : Fm W B₀ h₀ (ownOf env) env B m (ps₁ ++ (l, LstP vs) :: ps₂) h) (h0 : 0 ≤ k) (hk : k < 2 ^ 63) (hn : k.toNat < vs.length)
    (hq : ∀ h', Fm W B₀ h₀ (ownOf env) env B m (ps₁ ++ (l, LstP (vs.set k.toNat v)) :: ps₂) h' → Q () (mk s h' tk)) : wpAny (model prog w) A (setItem (.ref l) (.int k t) v) Q E (mk s h tk) := by
  refine setI (S.plain (by simp)) h0 hk hn fun h' ⟨o, e, p⟩ hs => hq h' ?_
  refine S.set hs.extBut e p (List.mem_cons_self ..) fun x c hm q => ?_
  exact (List.nodup_append.mp S.nodup).2.2 c (own_cells x c hm) l (by simp) q

/-- append to a list of one's own -/
theorem appP (ps₁ : List Ent) {ps₂ : List Ent} {l : Addr} {vs : List Value} {Q : Value → Shared → Prop} (S : Fm W B₀ h₀ (ownOf env) env B m (ps₁ ++ (l, LstP vs) :: ps₂) h) (hn : vs.length ≤ sizeLine)
    (hq : ∀ h', Fm W B₀ h₀ (ownOf env) env B m (ps₁ ++ (l, LstP (vs ++ [v])) :: ps₂) h' → Q .none (mk s h' tk)) : wpAny (model prog w) A (call (.builtin "list.append") [.ref l, v]) Q E (mk s h tk) := by
  have pl : h.PlainList l vs.toArray := S.plain (by simp)
  refine wpAny_list_append_plain (s := mk s h tk) pl (fun h' pl' hs => ?_) (by rw [List.size_toArray]; exact hn)
  first | (refine ob1_1 (pl') fun c e => ?_; try clear pl') | (refine ob0_2 (pl') fun c e => ?_; try clear pl') | obtain ⟨c, e⟩ := pl'
  have e : h'.get? l = some (lstO (vs ++ [v]) c) := by rw [e]; simp [lstO]
  refine hq h' (S.set hs.extBut e ⟨c, rfl⟩ (List.mem_cons_self ..) fun x c hm q => ?_)
  exact (List.nodup_append.mp S.nodup).2.2 c (own_cells x c hm) l (by simp) q

theorem inInts {l : Addr} {vs : List Value} {ns : List Int} {k : Int} {t : Tok} (hl : h.PlainList l vs.toArray) (hi : Paired (IntV B) ns vs) (hq : Q (.bool (decide (k ∈ ns))) (mk s h tk)) :
    wpAny (model prog w) A (compareOp .In (.int k t) (.ref l)) Q E (mk s h tk) := by
  refine in_list_ints (s := mk s h tk) hl.isList (pInts hi) ?_
  have : (ns.any (· == k)) = decide (k ∈ ns) := by
    rw [Bool.eq_iff_iff]; simp [List.any_eq_true]
  rw [this]; exact hq

theorem readsAll_ints {h : Heap} {vs : List Value} {ns : List Int} (p : IntsAre vs ns) : ReadsAll h vs (ns.map PyData.int) [] := by
  induction p with
  | nil => exact .nil | cons n t _ ih => exact .cons (.int n t) ih
theorem eqInts {a b : Addr} {xs ys : List Value} {ns ms : List Int} (ha : h.PlainList a xs.toArray) (hb : h.PlainList b ys.toArray) (hi : Paired (IntV B) ns xs) (hj : Paired (IntV B) ms ys) (R : Room 0 A) (hq : Q (.bool (decide (ns = ms))) (mk s h tk)) :
    wpAny (model prog w) A (compareOp .Eq (.ref a) (.ref b)) Q E (mk s h tk) := ke_eq_ints (s := mk s h tk) ha.isList hb.isList (pInts hi) (pInts hj) (by have := R.units; exact om17 this) hq
theorem neInts {a b : Addr} {xs ys : List Value} {ns ms : List Int} (ha : h.PlainList a xs.toArray) (hb : h.PlainList b ys.toArray) (hi : Paired (IntV B) ns xs) (hj : Paired (IntV B) ms ys) (R : Room 0 A) (hq : Q (.bool (!decide (ns = ms))) (mk s h tk)) :
    wpAny (model prog w) A (compareOp .NotEq (.ref a) (.ref b)) Q E (mk s h tk) := ke_ne_ints (s := mk s h tk) ha.isList hb.isList (pInts hi) (pInts hj) (by have := R.units; exact om17 this) hq

noncomputable def ratD (r : Rat) : PyData := .tuple [.int r.num, .int r.den]
theorem RatV.reads {r : Rat} {v : Value} (x : RatV B r v) (s : B.In h) : Reads h v (ratD r) [] := by
  first | (refine ob4_2 (x) fun t n a b zr63 e => ?_; try clear x; subst zr63) | (refine ob3_3 (x) fun t n a b zr64 e => ?_; try clear x; subst zr64) | (refine ob2_4 (x) fun t n a b zr65 e => ?_; try clear x; subst zr65) | (refine ob1_5 (x) fun t n a b zr66 e => ?_; try clear x; subst zr66) | (refine ob0_6 (x) fun t n a b zr67 e => ?_; try clear x; subst zr67) | obtain ⟨t, n, a, b, rfl, e⟩ := x
  exact .tuple (s _ _ e) rfl rfl (.cons (.int _ a) (.cons (.int _ b) .nil))
/-- «v != R0» -/
theorem neR0 {u v : Value} {r : Rat} (S : Fm W B₀ h₀ own env B m ps h) (hr : RatV B r u) (hz : RatV B 0 v) (R : Room 0 A) (hq : Q (.bool (decide (r ≠ 0))) (mk s h tk)) :
    wpAny (model prog w) A (compareOp .NotEq u v) Q E (mk s h tk) := by
  refine ne_dataH (s := mk s h tk) (hr.reads S.sub) (hz.reads S.sub) rfl rfl (by have := R.units; exact om17 this) ?_
  have : (!PyData.eqv (ratD r) (ratD 0)) = decide (r ≠ 0) := by
    have e : PyData.eqv (ratD r) (ratD 0) = decide (r = 0) := by
      have e1 : PyData.eqv (ratD r) (ratD 0) = ((r.num == 0) && (((r.den : Int) == 1) && true)) := rfl
      rw [e1, Bool.and_true, Bool.eq_iff_iff, Bool.and_eq_true, beq_iff_eq, beq_iff_eq, decide_eq_true_eq]
      constructor
      · intro q; exact Rat.num_eq_zero.mp q.1
      · rintro rfl; exact ⟨rfl, rfl⟩
    rw [e]; simp
  rw [this]; exact hq

theorem sumL {l : Addr} {vs : List Value} {ns : List Int} (hh : A.handled = none) (S : Fm W B₀ h₀ own env B m ps h) (hl : B l = some (lstO vs n)) (hi : Paired (IntV B) ns vs)
    (hq : ∀ h' tk' t, Fm W B₀ h₀ own env B m ps h' → Q (.int ns.sum t) (mk s h' tk')) : wpAny (model prog w) A (call (.builtin "sum") [.ref l]) Q E (mk s h tk) := by
  have L := lst_of S.sub hl
  have hall := (pInts hi).allInts
  first | (refine ob1_1 (hall.items) fun xs hxs => ?_) | (refine ob0_2 (hall.items) fun xs hxs => ?_) | obtain ⟨xs, hxs⟩ := hall.items
  rw [hxs] at L
  have e : ns.sum = preSum (numAt xs) xs.size := by
    have h1 := (pInts hi).numsOf
    have h2 : numsOf (vs.toArray).toList = ns := h1
    rw [hxs, nums_intItems] at h2
    rw [preSum_eq, List.take_of_length_le (by simp), h2]
  refine sum_intListG (s := mk s h tk) hh L fun h' tk' t' k => ?_
  rw [← e]
  exact hq h' tk' t' (S.ext (Ext.keeps S.sub k))

/-- a store into a place -/
theorem assignSub {M : Model} {o i : Expr} {pos : Pos} {v : Value} {Q : Unit → Shared → Prop} {s : Shared}
    (hq : wpAny M A (eval o env) (fun ov s₁ => wpAny M A (eval i env) (fun iv s₂ => wpAny M A (setItem ov iv v) Q E s₂) E s₁) E s) : wpAny M A (assign (.Subscript o i pos) env v) Q E s := by
  rw [PySem.assign_Subscript]
  refine wpAny_bind (wpAny_holding (wpAny_mono hq (fun ov s₁ h₁ => ?_) fun _ _ x => x))
  refine wpAny_bind (wpAny_holding (wpAny_mono h₁ (fun iv s₂ h₂ => ?_) fun _ _ x => x))
  refine wpAny_bind (wpAny_standAt (wpAny_bind (wpAny_holding (wpAny_mono h₂ (fun _ s₃ h₃ => ?_) fun _ _ x => x))))
  exact wpAny_release' h₃
end
/-! more rules -/
/-- names by a list -/
noncomputable def mL (l : List (Str × Value)) : Str → Option Value := fun x => l.lookup x
theorem mL_forget {l : List (Str × Value)} {m : Str → Option Value} (h : ∀ p ∈ l, m p.1 = some p.2) : ∀ x v, mL l x = some v → m x = some v := fun x v e => by
  have : (x, v) ∈ l := mem_of_lookup e
  exact h _ this

section
variable {prog : Program} {w : World} {A : Around} {E : Value → Shared → Prop} {s : Shared} {tk : Nat}
variable {W : List Addr} {B₀ B B' : Base} {h₀ h h' : Heap} {own : List Addr} {env : Env} {m : Str → Option Value} {ps : List Ent} {x : Str} {pos : Pos} {v : Value}

theorem st_C' {K : Model} {c : Addr} {Q : Unit → Shared → Prop} (S : Fm W B₀ h₀ (ownOf env) env B m ps h)
    (hq : ∀ h' tk, Fm W B₀ h₀ (ownOf env) env B (upd m x v) ps h' → Q () (mk s h' tk))
    (hk : env.scope.kind = .function := by rfl) (hx : env.kindOf x = some .cell := by rfl) (hc : env.cells.lookup x = some c := by rfl) : wpAny K A (storeName env x v) Q E (mk s h tk) :=
  st_C S (own_cells x c (mem_of_lookup hc)) hq hk hx hc
theorem canC' {x : Str} {c : Addr} (hk : env.scope.kind = .function := by rfl) (hx : env.kindOf x = some .cell := by rfl) (hc : env.cells.lookup x = some c := by rfl) : CanSt env (ownOf env) x := canC (own_cells x c (mem_of_lookup hc)) hk hx hc

/-- a callee changes one object of one's own -/
theorem Fm.extW1 {l : Addr} {P P' : Obj → Prop} (ps₁ : List Ent) {ps₂ : List Ent} (S : Fm W B₀ h₀ (ownOf env) env B m (ps₁ ++ (l, P) :: ps₂) h) (X : ExtW [l] B h B' h') (e : ∃ o, h'.get? l = some o ∧ P' o) :
    Fm W B₀ h₀ (ownOf env) env B' m (ps₁ ++ (l, P') :: ps₂) h' := by
  have nd := S.nodup
  have nl : ∀ a ∈ ownOf env, a ∉ [l] := fun a ha q => (List.nodup_append.mp nd).2.2 a ha l (by simp) (List.mem_singleton.mp q)
  have nd2 := (List.nodup_append.mp nd).2.1
  rw [List.map_append, List.map_cons] at nd2
  have nd3 := List.nodup_cons.mp ((List.Perm.nodup_iff List.perm_middle).mp nd2)
  refine S.extW X (nl _ (List.mem_cons_self ..)) (fun y c hm => nl c (own_cells y c hm)) nl (fun a ha => by rw [List.mem_singleton.mp ha]; simp) (by simp) fun p hp => ?_
  have keep : ∀ p, p ∈ ps₁ ∨ p ∈ ps₂ → ∃ o, h'.get? p.1 = some o ∧ p.2 o := fun p hp => by
    obtain ⟨o, eo, po⟩ := S.ents p (by rcases hp with q | q <;> simp [q])
    have hm : p.1 ∈ ps₁.map (fun p : Ent => p.1) ++ ps₂.map (fun p : Ent => p.1) := by
      rcases hp with q | q
      · exact List.mem_append_left _ (List.mem_map_of_mem (f := fun p : Ent => p.1) q)
      · exact List.mem_append_right _ (List.mem_map_of_mem (f := fun p : Ent => p.1) q)
    exact ⟨o, X.keep _ _ (fun q => nd3.1 (List.mem_singleton.mp q ▸ hm)) eo, po⟩
  rcases List.mem_append.mp hp with q | q
  · exact keep p (.inl q)
  · rcases List.mem_cons.mp q with q | q
    · rw [q]; exact e
    · exact keep p (.inr q)

theorem comp_some' {Q' : Shared → Prop} {C : Addr} (y : Str) {py : Pos} (S : Fm W B₀ h₀ own env B m ((C, NsP) :: ps) h) (hL : env.locals ∈ own) (hC : ∀ x c, (x, c) ∈ env.cells → c ≠ C) (hW : C ∉ W) (hy : CanSt env own y)
    (hq : ∀ h' tk', Fm W B₀ h₀ own env B (upd m y v) ps h' → Q' (mk s h' tk')) : compPost (model prog w) A E (some (assign (.Name y py) env)) (fun _ s' => Q' s') v C (.ok .next) (mk s h tk) :=
  comp_some (Q := fun _ => Q') S hL hC hW hy hq

theorem cType {K : Model} {pos : Pos} {T : String} {e : Expr} {rest : List Expr} {s : Shared} {Q : Value → Shared → Prop}
    (h : wpAny K A (spliced (backTo pos (starEach (e :: rest) env))) (fun vs s₁ => wpAny K A (call (.type T) vs) Q E s₁) E s)
    (he : starEach (e :: rest) env = (false, eval e env) :: starEach rest env := by exact rfl)
    (hplain : (backTo pos (starEach rest env)).any (·.1) = false := by exact rfl) :
    wpAny K A (callWith pos (.type T) [] (backTo pos (starEach (e :: rest) env)) []) Q E s := PyProof.Rows.callWith_type1 h he hplain
theorem cBuilt {K : Model} {pos : Pos} {T : String} {e : Expr} {rest : List Expr} {s : Shared} {Q : Value → Shared → Prop}
    (h : wpAny K A (spliced (backTo pos (starEach (e :: rest) env))) (fun vs s₁ => wpAny K A (call (.builtin T) vs) Q E s₁) E s)
    (he : starEach (e :: rest) env = (false, eval e env) :: starEach rest env := by exact rfl)
    (hplain : (backTo pos (starEach rest env)).any (·.1) = false := by exact rfl) :
    wpAny K A (callWith pos (.builtin T) [] (backTo pos (starEach (e :: rest) env)) []) Q E s := PyProof.Rows.callWith_builtin1 h he hplain

theorem cS {K : Model} {x : Str} {k : Nat} {pos : Pos} {Q : Value → Shared → Prop} (hq : ∀ t tk', Q (.str x t) (mk s h tk')) : wpAny K A (eval (.Constant (.str x) k pos) env) Q E (mk s h tk) := wpAny_Constant_str (hq _ _)
theorem cNone {K : Model} {k : Nat} {pos : Pos} {s : Shared} {Q : Value → Shared → Prop} (hq : Q .none s) : wpAny K A (eval (.Constant .none k pos) env) Q E s := wpAny_Constant_none hq

/-- the method append -/
theorem getApp {l : Addr} {vs : List Value} {pl : Sem Bool} {Q : Value × List Value → Shared → Prop} (hl : h.PlainList l vs.toArray) (hq : Q (.builtin "list.append", [.ref l]) (mk s h tk)) :
    wpAny (model prog w) A (getMethod (.ref l) "append" pl) Q E (mk s h tk) := by
  first | (refine ob1_1 (id hl) fun n e => ?_) | (refine ob0_2 (id hl) fun n e => ?_) | obtain ⟨n, e⟩ := id hl
  exact getMethod_list_of (s := mk s h tk) PySem.F.slot_list_append PySem.F.type_list_append hl.isList ⟨_, e, rfl⟩ hq

theorem foldl_rep (x : Value) : ∀ (n : Nat) (acc : Array Value), List.foldl (fun x1 x2 => x1 ++ x2) acc (List.replicate n #[x]) = acc ++ (List.replicate n x).toArray
  | 0, acc => by simp
  | n + 1, acc => by rw [List.replicate_succ, List.foldl_cons, foldl_rep x n]; apply Array.ext'; simp [List.replicate_succ]

theorem mulRaw {l : Addr} {items : Array Value} {k : Nat} {x : Int} {u : Tok} {s : Shared} {Q : Value → Shared → Prop}
    (hl : s.heap.get? l = some { cls := .type "list", dict := none, data := .seq items k, slots := #[] })
    (hlo : -(2 ^ 63 : Int) ≤ x) (hhi : x < 2 ^ 63) (hsz : items.size * x.toNat ≤ 2 ^ 24)
    (h : Q (.ref s.heap.objs.size) { s with heap := s.heap.push { cls := .type "list", data := .seq (List.foldl (fun x1 x2 => x1 ++ x2) #[] (List.replicate (if items.isEmpty = true then 0 else x.toNat) items)) } }) :
    wpAny (model prog w) A (binaryOp .Mult (.ref l) (.int x u)) Q E s :=
  wpAny_binaryOp_repeat_ref (T := "list") (U := "int") (by decide) ⟨_, hl, rfl⟩ (fun s' => typeIs_int s' x u) noFill_list_mul F.fills_int_mul F.slot_int_rmul repeat_list F.slot_int_index.lookup
    (call_meets F.slot_int_rmul (typeIs_int s x u) F.entry_int_rmul (F.args_int_rmul_2 _ _) (int___rmul___int_list x u l items k)
      ⟨hl, rfl, ⟨_, hl, rfl⟩, call_meets F.slot_list_mul ⟨_, hl, rfl⟩ F.entry_list_mul (F.args_list_mul_2 _ _)
        (AutoListH.list___mul___list_int_3 l items k x u (by simp [Builtin.List.listFitsIndex]; exact om18 hlo hhi) (by first | with_reducible assumption | with_reducible exact Int.natCast_nonneg _ | lia | omega) (by simp [Builtin.List.listTooLong, sizeLine]; exact om19 hsz))
        ⟨hl, h⟩⟩)

/-- «[x] * n»: a list of one's own -/
theorem mulList {l : Addr} {n : Nat} {u : Tok} {Q : Value → Shared → Prop} (S : Fm W B₀ h₀ own env B m ps h) (hl : h.PlainList l #[v]) (hn : n ≤ 1000)
    (hq : ∀ h' D, h.get? D = none → Fm W B₀ h₀ own env B m ((D, LstP (List.replicate n v)) :: ps) h' → Q (.ref D) (mk s h' tk)) :
    wpAny (model prog w) A (binaryOp .Mult (.ref l) (.int n u)) Q E (mk s h tk) := by
  first | (refine ob1_1 (hl) fun k e => ?_; try clear hl) | (refine ob0_2 (hl) fun k e => ?_; try clear hl) | obtain ⟨k, e⟩ := hl
  have e2 : List.foldl (fun x1 x2 => x1 ++ x2) #[] (List.replicate (if (#[v] : Array Value).isEmpty = true then 0 else ((n : Int)).toNat) #[v]) = (List.replicate n v).toArray := by
    rw [if_neg (by simp), Int.toNat_natCast, foldl_rep]; simp
  refine mulRaw (s := mk s h tk) e (by exact om20) (by exact om21 hn) (by rw [Int.toNat_natCast]; show 1 * n ≤ 16777216; exact om22 hn) ?_
  rw [e2]
  exact hq _ _ newAt (S.push newAt (fun b o e => Heap.get?_push_of_some _ e) (Heap.get?_push_size _ rfl) ⟨0, rfl⟩)

/-- a list joined with one, of the base -/
theorem addList {l b : Addr} {vs ws : List Value} {Q : Value → Shared → Prop} (S : Fm W B₀ h₀ own env B m ps h) (hl : h.PlainList l vs.toArray) (hb : h.PlainList b ws.toArray) (hz : vs.length + ws.length ≤ 1000)
    (hq : ∀ B' h' D c, B.le B' → B' D = some (lstO (vs ++ ws) c) → Fm W B₀ h₀ own env B' m ps h' → Q (.ref D) (mk s h' tk)) :
    wpAny (model prog w) A (binaryOp .Add (.ref l) (.ref b)) Q E (mk s h tk) := by
  first | (refine ob1_1 (hl) fun n e => ?_; try clear hl) | (refine ob0_2 (hl) fun n e => ?_; try clear hl) | obtain ⟨n, e⟩ := hl
  first | (refine ob1_1 (hb) fun n' e' => ?_; try clear hb) | (refine ob0_2 (hb) fun n' e' => ?_; try clear hb) | obtain ⟨n', e'⟩ := hb
  refine PySem.P.add_list (s := mk s h tk) (items := vs.toArray) (items2 := ws.toArray) e e' ?_ (by simp; exact Nat.le_trans hz (fits (Nat.le_refl _)))
  have e3 : vs.toArray ++ ws.toArray = (vs ++ ws).toArray := by simp
  rw [e3]
  have k : ∀ b o, h.get? b = some o → (h.push (lstO (vs ++ ws) 0)).get? b = some o := fun b o e => Heap.get?_push_of_some _ e
  first | (refine ob2_1 (Ext.alloc (a := h.objs.size) (o := lstO (vs ++ ws) 0) S.sub newAt k (Heap.get?_push_size _ rfl)) fun B' X e => ?_) | (refine ob1_2 (Ext.alloc (a := h.objs.size) (o := lstO (vs ++ ws) 0) S.sub newAt k (Heap.get?_push_size _ rfl)) fun B' X e => ?_) | (refine ob0_3 (Ext.alloc (a := h.objs.size) (o := lstO (vs ++ ws) 0) S.sub newAt k (Heap.get?_push_size _ rfl)) fun B' X e => ?_) | obtain ⟨B', X, e⟩ := Ext.alloc (a := h.objs.size) (o := lstO (vs ++ ws) 0) S.sub newAt k (Heap.get?_push_size _ rfl)
  exact hq B' _ _ 0 X.le e (S.ext X)

/-- «a[:n]» -/
theorem sliceL {value : Expr} {upper : Expr} {p pos : Pos} {Q : Value → Shared → Prop} 
    (hq : wpAny (model prog w) A (eval value env) (fun o s₁ => wpAny (model prog w) A (eval upper env) (fun vu s₂ => ∃ l items n t h tk, s₂ = mk s h tk ∧ o = .ref l ∧ vu = .int (n : Nat) t ∧ h.PlainList l (items : List Value).toArray ∧ items.length ≤ 1000 ∧
      ∃ (W : List Addr) (B₀ : Base) (h₀ : Heap) (own : List Addr) (B : Base) (ps : List Ent) (m : Str → Option Value), Fm W B₀ h₀ own env B m ps h ∧ ∀ B' h' D c, B.le B' → B' D = some (lstO (items.take n) c) → Fm W B₀ h₀ own env B' m ps h' → Q (.ref D) (mk s h' tk)) E s₁) E (mk s h tk))
    (ht : ∀ o r, letTemporaryGo value o r = pure () := by intro _ _; rfl) :
    wpAny (model prog w) A (eval (.Subscript value (.Slice none (some upper) none p) pos) env) Q E (mk s h tk) := by
  refine wpAny_Subscript_list_slice (wpAny_mono hq (fun o s₁ h₁ => evalPart_none_step (wpAny_mono h₁ (fun vu s₂ h₂ => ?_) fun _ _ e => e)) fun _ _ e => e) ht
  refine ob6_6 h₂ fun l items n t h tk zr1 zr2 zr3 hl hz zq => ob7_2 zq fun W B₀ h₀ own B ps m S hq => ?_; clear zq h₂; subst zr1; subst zr2; subst zr3
  refine ⟨l, items.toArray, none, some (n : Int), rfl, hl.isList, by rw [List.size_toArray]; exact fits hz, .none, .int _ _, ?_⟩
  rw [slicePick_upto']
  have k1 : ∀ b o, h.get? b = some o → (h.push { cls := .type "slice", data := .fields #[.none, .int (n : Int) t, .none] }).get? b = some o := fun b o e => Heap.get?_push_of_some _ e
  have S1 := S.ext (Ext.keeps S.sub k1)
  have k2 : ∀ b o, (h.push { cls := .type "slice", data := .fields #[.none, .int (n : Int) t, .none] }).get? b = some o → ((h.push { cls := .type "slice", data := .fields #[.none, .int (n : Int) t, .none] }).push (lstO (items.take n) 0)).get? b = some o := fun b o e => Heap.get?_push_of_some _ e
  first | (refine ob2_1 (Ext.alloc (o := lstO (items.take n) 0) S1.sub newAt k2 (Heap.get?_push_size _ rfl)) fun B' X e => ?_) | (refine ob1_2 (Ext.alloc (o := lstO (items.take n) 0) S1.sub newAt k2 (Heap.get?_push_size _ rfl)) fun B' X e => ?_) | (refine ob0_3 (Ext.alloc (o := lstO (items.take n) 0) S1.sub newAt k2 (Heap.get?_push_size _ rfl)) fun B' X e => ?_) | obtain ⟨B', X, e⟩ := Ext.alloc (o := lstO (items.take n) 0) S1.sub newAt k2 (Heap.get?_push_size _ rfl)
  rw [Heap.size_push] at e
  exact hq B' _ _ 0 X.le e (S1.ext X)
theorem slI {l : Addr} {items : List Value} {n : Nat} {t : Tok} {o vu : Value} {s : Shared} {Q : Value → Shared → Prop} (S : Fm W B₀ h₀ own env B m ps h) (hl : h.PlainList l items.toArray) (hz : items.length ≤ 1000) (eo : o = .ref l) (ev : vu = .int (n : Nat) t)
    (hq : ∀ B' h' D c, B.le B' → B' D = some (lstO (items.take n) c) → Fm W B₀ h₀ own env B' m ps h' → Q (.ref D) (mk s h' tk)) :
    ∃ l items n t h' tk', mk s h tk = mk s h' tk' ∧ o = .ref l ∧ vu = .int (n : Nat) t ∧ h'.PlainList l (items : List Value).toArray ∧ items.length ≤ 1000 ∧
      ∃ (W : List Addr) (B₀ : Base) (h₀ : Heap) (own : List Addr) (B : Base) (ps : List Ent) (m : Str → Option Value), Fm W B₀ h₀ own env B m ps h' ∧ ∀ B' h' D c, B.le B' → B' D = some (lstO (items.take n) c) → Fm W B₀ h₀ own env B' m ps h' → Q (.ref D) (mk s h' tk') :=
  ⟨l, items, n, t, h, tk, rfl, eo, ev, hl, hz, W, B₀, h₀, own, B, ps, m, S, hq⟩
end
/-! what is to come, named: keeps the proofs small -/
theorem hideQ {α : Type} {M : Model} {A : Around} {x : Sem α} {Q : α → Shared → Prop} {E : Value → Shared → Prop} {s : Shared} (h : let q := Q; wpAny M A x q E s) : wpAny M A x Q E s := h
theorem hideF {W : List Addr} {B₀ B : Base} {h₀ h : Heap} {env : Env} {m : Str → Option Value} {ps : List Ent} {M : Model} {A : Around} {ss : List Stmt} {Q : Flow → Shared → Prop} {E : Value → Shared → Prop} {s : Shared}
    (S : Fm W B₀ h₀ (ownOf env) env B m ps h) (H : let a := A; let e := env; let m' := m; let q := Q; Fm W B₀ h₀ (ownOf e) e B m' ps h → wpAny M a (execs ss e) q E s) : wpAny M A (execs ss env) Q E s := H S
theorem hideM {W : List Addr} {B₀ B : Base} {h₀ h : Heap} {own : List Addr} {env : Env} {m : Str → Option Value} {ps : List Ent} {G : Prop} (S : Fm W B₀ h₀ own env B m ps h) (H : let m' := m; Fm W B₀ h₀ own env B m' ps h → G) : G := H S
theorem hideC {W : List Addr} {B₀ B : Base} {h₀ h : Heap} {own : List Addr} {env : Env} {m : Str → Option Value} {ps : List Ent} {M : Model} {A : Around} {ifs : List Expr} {Q : Bool → Shared → Prop} {E : Value → Shared → Prop} {s : Shared}
    (S : Fm W B₀ h₀ own env B m ps h) (H : let e := env; let o := own; let q := Q; Fm W B₀ h₀ o e B m ps h → wpAny M A (testsOf ifs e) q E s) : wpAny M A (testsOf ifs env) Q E s := H S
theorem st_Lh {W : List Addr} {B₀ B : Base} {h₀ h : Heap} {own : List Addr} {env : Env} {m : Str → Option Value} {ps : List Ent} {x : Str} {v : Value} {M : Model} {A : Around} {E : Value → Shared → Prop} {s : Shared} {tk : Nat} {Q : Unit → Shared → Prop} (S : Fm W B₀ h₀ own env B m ps h) (hL : env.locals ∈ own)
    (hq : let m' := upd m x v; ∀ h' tk, Fm W B₀ h₀ own env B m' ps h' → Q () (mk s h' tk))
    (hk : env.scope.kind = .function := by rfl) (hx : env.kindOf x = some .local := by rfl) : wpAny M A (storeName env x v) Q E (mk s h tk) := st_L S hL hq hk hx
theorem st_Ch {W : List Addr} {B₀ B : Base} {h₀ h : Heap} {env : Env} {m : Str → Option Value} {ps : List Ent} {x : Str} {v : Value} {K : Model} {A : Around} {E : Value → Shared → Prop} {s : Shared} {tk : Nat} {c : Addr} {Q : Unit → Shared → Prop} (S : Fm W B₀ h₀ (ownOf env) env B m ps h)
    (hq : let m' := upd m x v; ∀ h' tk, Fm W B₀ h₀ (ownOf env) env B m' ps h' → Q () (mk s h' tk))
    (hk : env.scope.kind = .function := by rfl) (hx : env.kindOf x = some .cell := by rfl) (hc : env.cells.lookup x = some c := by rfl) : wpAny K A (storeName env x v) Q E (mk s h tk) := st_C' S hq hk hx hc
theorem Room.lt {k : Nat} {A : Around} (R : Room k A) : A.depth < recursionLimit := Nat.lt_of_le_of_lt (Nat.le_add_right _ _) R.depth
theorem LVm {α : Type} {P : Rel α} {B : Base} {xs : List α} {l : Addr} {vs : List Value} {c : Nat} (e : B l = some (lstO vs c)) (p : Paired (P B) xs vs) : LV P B xs (.ref l) := ⟨l, vs, c, rfl, e, p⟩
theorem mL_known {l : List (Str × Value)} {m : Str → Option Value} (h : l.map (fun p => m p.1) = l.map fun p => some p.2) : ∀ x v, mL l x = some v → m x = some v :=
  mL_forget (List.map_inj_left.mp h)
local macro_rules | `(tactic| walk_at "storeName") => `(tactic| first
  | (refine' st_Lh ?S ?o ?_; (case S => assumption); (case o => exact List.mem_cons_self ..); intro hM7)
  | (refine' st_Ch ?S ?_; (case S => assumption); intro hM7))
local macro_rules | `(tactic| walk_at "N") => `(tactic| first
  | (refine' ldL ?S ?v ?_; (case S => assumption); (case v => exact rfl))
  | (refine' ldC ?S ?v ?_; (case S => assumption); (case v => exact rfl))
  | (refine' ldG ?S ?T ?e ?_; (case S => assumption); (case T => assumption); (case e => k_dflt k_is))
  | (refine' ldB ?S ?T ?e ?b ?n ?_; (case S => assumption); (case T => assumption); (case e => k_dflt k_is); (case b => boot_by_name); (case n => decide)))
theorem dummy_fill : (fun (_ : OpenLaw) (_ : Params → Frag) => True) PySem.Challenge.rw_xm0080_01 Mine.hd.heap_39 := by
  k_fill
  trivial
section
variable {prog : Program} {w : World} {A : Around} {E : Value → Shared → Prop} {s : Shared} {h : Heap} {tk : Nat} {B : Base} {Q : Value → Shared → Prop}

theorem rneg_ok (T : Tp (Mine.hd.heap_39 w.params) B) (sub : B.In h) (R : Room 1 A) {q : Rat} {v : Value} (hv : RatV B q v)
    (hq : ∀ B' h' tk' v', Ext B h B' h' → RatV B' (-q) v' → Q v' (mk s h' tk')) :
    wpAny (model prog w) A (call (.ref 78) [v]) Q E (mk s h tk) := by
  first | (refine ob4_2 (hv) fun t n x y zr143 ht => ?_; try clear hv; subst zr143) | (refine ob3_3 (hv) fun t n x y zr144 ht => ?_; try clear hv; subst zr144) | (refine ob2_4 (hv) fun t n x y zr145 ht => ?_; try clear hv; subst zr145) | (refine ob1_5 (hv) fun t n x y zr146 ht => ?_; try clear hv; subst zr146) | (refine ob0_6 (hv) fun t n x y zr147 ht => ?_; try clear hv; subst zr147) | obtain ⟨t, n, x, y, rfl, ht⟩ := hv
  refine' enter (binds := [("a", .ref t)]) [] T sub ?he .nil ?hB ?hf ?hcd ?hroom ?hbind ?hkind ?hh ?hcn ?hco ?hgen ?hk
  ((case he => exact fun _ h => absurd h List.not_mem_nil); (case hB => exact fun _ h => absurd h List.not_mem_nil))
  ((case hf => k_dflt k_is); (case hcd => k_dflt k_is); (case hroom => exact Room.lt (by assumption)); (case hbind => exact rfl); (case hkind => exact kindsX rfl); (case hcn => decide +kernel); (case hco => exact rfl); (case hgen => exact rfl); (case hk => exact rfl))
  intro L h₁ tk₁ hL S
  refine hideF S ?_
  intro hA8 hE8 hM8 hQ8 S
  refine wpAny_execs_cons (wpAny_Return_some (Tuple_ (args_cons (wpAny_BinOp (cI fun t0 tk₂ => Subscript_ ?_)))))
  try (refine hideQ ?_; intro hQ9)
  walk_at "N"
  refine cI fun _ tk₃ => (itemT S ht (by decide) (by decide) rfl ?_)
  refine subI fun _ tk₄ => (args_cons (Subscript_ ?_))
  walk_at "N"
  refine cI fun _ tk₅ => (itemT S ht (by decide) (by decide) rfl (args_nil ?_))
  refine mkTup S fun B' h1 t' le et S' => ?_
  exact hq B' h1 _ _ S'.toExt (.mk et (by rw [Rat.neg_num, Int.zero_sub]) (by rw [Rat.neg_den]))

theorem gcd_step (x y : Int) : Int.gcd y (x % y) = Int.gcd x y := by
  rw [Int.emod_def, Int.gcd_sub_mul_left_right, Int.gcd_comm]

theorem gcd_ok (T : Tp (Mine.hd.heap_39 w.params) B) (sub : B.In h) (R : Room 1 A) {a b : Int} {t u : Tok}
    (hq : ∀ B' h' tk' t', Ext B h B' h' → Q (.int (Int.gcd a b) t') (mk s h' tk')) :
    wpAny (model prog w) A (call (.ref 41) [.int a t, .int b u]) Q E (mk s h tk) := by
  refine' enter (binds := [("a", .int a t), ("b", .int b u)]) [] T sub ?he .nil ?hB ?hf ?hcd ?hroom ?hbind ?hkind ?hh ?hcn ?hco ?hgen ?hk
  ((case he => exact fun _ h => absurd h List.not_mem_nil); (case hB => exact fun _ h => absurd h List.not_mem_nil))
  ((case hf => k_dflt k_is); (case hcd => k_dflt k_is); (case hroom => exact Room.lt (by assumption)); (case hbind => exact rfl); (case hkind => exact kindsX rfl); (case hcn => decide +kernel); (case hco => exact rfl); (case hgen => exact rfl); (case hk => exact rfl))
  intro L h₁ tk₁ hL S
  refine hideF S ?_
  intro hA8 hE8 hM8 hQ8 S
  refine wpAny_execs_cons ?_
  try (refine hideQ ?_; intro hQ9)
  refine Assign_Tuple_swapped (names := ["a", "b"]) (Tuple_ (args_cons (Call_ ?_)))
  walk_at "N"
  refine callWith_builtin1 (args_cons ?_)
  walk_at "N"
  refine args_nil (absI fun _ tk₂ => (args_cons (Call_ ?_)))
  walk_at "N"
  refine callWith_builtin1 (args_cons ?_)
  walk_at "N"
  refine args_nil (absI fun _ tk₃ => (args_nil ?_))
  refine mkTup S fun B₁ h₂ t' le et S₁ => ?_
  refine unpk R.quiet S₁ et rfl fun h₃ S₂ => ?_
  refine assignInOrder_cons (wpAny_bindName ?_)
  walk_at "storeName"
  intro h₄ tk₄ S₃
  refine assignInOrder_cons (wpAny_bindName ?_)
  walk_at "storeName"
  intro h₅ tk₅ S₄
  refine assignInOrder_nil ?_
  refine wpAny_execs_cons (wpAny_While ?_)
  try (refine hideQ ?_; intro hQ9)
  refine codeAny_whileLoop (fun n s' => ∃ (x y : Int) (tx ty : Tok) (B' : Base) (m' : Str → Option Value) (h' : Heap) (tk' : Nat), s' = mk s h' tk' ∧ Int.gcd x y = Int.gcd a b ∧ 0 ≤ x ∧ 0 ≤ y ∧ n = y.toNat ∧
    m' "a" = some (.int x tx) ∧ m' "b" = some (.int y ty) ∧ Fm [] B h _ _ B' m' [] h') ?_ (b.natAbs) ⟨_, _, _, _, _, _, _, _, rfl, ?_, ?_, ?_, ?_, rfl, rfl, S₄⟩
  · rintro n s' ⟨x, y, tx, ty, B', m', h', tk', rfl, hg, hx, hy, rfl, ma, mb, S⟩
    refine wpAny_isTrue_Compare1 (ldL S mb (cI fun _ tk₂ => PyProof.Rows.ne_int (wpAny_truthy_bool ?_)))
    by_cases h0 : y = 0
    · subst h0
      simp only [bne_self_eq_false, Bool.false_eq_true, if_false]
      refine wpAny_execs_nil ?_
      refine wpAny_execs_cons (wpAny_Return_some (ldL S ma ?_))
      try (refine hideQ ?_; intro hQ9)
      have e : (Int.gcd a b : Int) = x := by rw [← hg, Int.gcd_zero_right]; exact om126 hx
      have q := hq B' h' tk₂ tx S.toExt
      rw [e] at q
      exact q
    · have hb : (y != 0) = true := by simpa using h0
      refine iteT hb ?_
      refine wpAny_execs_cons ?_
      try (refine hideQ ?_; intro hQ9)
      refine Assign_Tuple_swapped (names := ["a", "b"]) (Tuple_ (args_cons (ldL S mb (args_cons (wpAny_BinOp (ldL S ma (ldL S mb (modI h0 fun _ tk₂ => args_nil ?_))))))))
      refine mkTup S fun B₁ h₂ t' le et S₁ => ?_
      refine unpk R.quiet S₁ et rfl fun h₃ S₂ => ?_
      refine assignInOrder_cons (wpAny_bindName ?_)
      walk_at "storeName"
      intro h₄ tk₄ S₃
      refine assignInOrder_cons (wpAny_bindName ?_)
      walk_at "storeName"
      intro h₅ tk₅ S₄
      refine assignInOrder_nil (wpAny_execs_nil ?_)
      have e : x.fmod y = x % y := Int.fmod_eq_emod_of_nonneg _ hy
      have h1 : 0 ≤ x % y := Int.emod_nonneg _ h0
      have h2 : x % y < y := Int.emod_lt_of_pos _ (by exact om127 hy h0)
      refine ⟨(x.fmod y).toNat, by rw [e]; exact om128 h1 h2, y, x.fmod y, _, _, B₁, _, h₅, tk₅, rfl, ?_, hy, by rw [e]; exact h1, rfl, rfl, rfl, S₄⟩
      rw [e, ← hg]; exact gcd_step x y
  · simp [Int.gcd]
  · exact om129
  · exact om129
  · simp

theorem divInt_pos {a b : Int} (hb : 0 < b) : (Rat.divInt a b).num = a.fdiv (Int.gcd a b) ∧ ((Rat.divInt a b).den : Int) = b.fdiv (Int.gcd a b) := by
  have h1 : (Int.gcd a b : Int) ∣ a := Int.gcd_dvd_left ..
  have h2 : (Int.gcd a b : Int) ∣ b := Int.gcd_dvd_right ..
  rw [Rat.num_divInt, Rat.den_divInt, Int.fdiv_eq_ediv_of_dvd h1, Int.fdiv_eq_ediv_of_dvd h2, Int.sign_eq_one_of_pos hb, Int.one_mul, Int.gcd_comm b a, if_neg (by exact om130 hb)]
  refine ⟨rfl, ?_⟩
  rw [Int.natCast_ediv, Int.natAbs_of_nonneg (by exact om30 hb)]
theorem divInt_negd {a b : Int} (hb : b < 0) : (Rat.divInt a b).num = a.fdiv (0 - Int.gcd a b) ∧ ((Rat.divInt a b).den : Int) = b.fdiv (0 - Int.gcd a b) := by
  have h1 : (0 - Int.gcd a b : Int) ∣ a := by rw [Int.zero_sub]; exact Int.neg_dvd.mpr (Int.gcd_dvd_left ..)
  have h2 : (0 - Int.gcd a b : Int) ∣ b := by rw [Int.zero_sub]; exact Int.neg_dvd.mpr (Int.gcd_dvd_right ..)
  rw [Rat.num_divInt, Rat.den_divInt, Int.fdiv_eq_ediv_of_dvd h1, Int.fdiv_eq_ediv_of_dvd h2, Int.sign_eq_neg_one_of_neg hb, Int.gcd_comm b a, if_neg (by exact om131 hb), Int.zero_sub, Int.ediv_neg, Int.ediv_neg]
  have h3 : (Int.gcd a b : Int) ∣ a := Int.gcd_dvd_left ..
  have h4 : (Int.gcd a b : Int) ∣ b := Int.gcd_dvd_right ..
  refine ⟨?_, ?_⟩
  · rw [Int.neg_mul, Int.one_mul, Int.neg_ediv_of_dvd h3]
  · rw [Int.natCast_ediv, show (b.natAbs : Int) = -b by exact om132 hb, Int.neg_ediv_of_dvd h4]

theorem gcd_pos_of {a b : Int} (hb : b ≠ 0) : 0 < Int.gcd a b := Int.gcd_pos_of_ne_zero_right _ hb
theorem gcd_le_of {a b : Int} (hb : b ≠ 0) : Int.gcd a b ≤ b.natAbs := Nat.le_of_dvd (by exact om133 hb) (Nat.gcd_dvd_right ..)

theorem rat_ok (T : Tp (Mine.hd.heap_39 w.params) B) (sub : B.In h) (R : Room 2 A) {a b : Int} {t u : Tok} {k : Nat} (hb : b ≠ 0) (sb : Sm k b) (hk : k ≤ 9000)
    (hq : ∀ B' h' tk' v', Ext B h B' h' → RatV B' (Rat.divInt a b) v' → Q v' (mk s h' tk')) :
    wpAny (model prog w) A (call (.ref 50) [.int a t, .int b u]) Q E (mk s h tk) := by
  refine' enter (binds := [("top", .int a t), ("bottom", .int b u)]) [] T sub ?he .nil ?hB ?hf ?hcd ?hroom ?hbind ?hkind ?hh ?hcn ?hco ?hgen ?hk
  ((case he => exact fun _ h => absurd h List.not_mem_nil); (case hB => exact fun _ h => absurd h List.not_mem_nil))
  ((case hf => k_dflt k_is); (case hcd => k_dflt k_is); (case hroom => exact Room.lt (by assumption)); (case hbind => exact rfl); (case hkind => exact kindsX rfl); (case hcn => decide +kernel); (case hco => exact rfl); (case hgen => exact rfl); (case hk => exact rfl))
  intro L h₁ tk₁ hL S
  refine hideF S ?_
  intro hA8 hE8 hM8 hQ8 S
  refine wpAny_execs_cons (wpAny_If (wpAny_isTrue_Compare1 ?_))
  try (refine hideQ ?_; intro hQ9)
  walk_at "N"
  refine cI fun _ tk₂ => PyProof.Rows.eq_int (wpAny_truthy_bool ?_)
  refine iteF (by simpa using hb) ?_
  refine wpAny_execs_nil (wpAny_execs_cons (wpAny_Assign_Name (IfExp_ (wpAny_isTrue_Compare1 ?_))))
  try (refine hideQ ?_; intro hQ9)
  walk_at "N"
  refine cI fun _ tk₃ => PyProof.Rows.gt_int (wpAny_truthy_bool ?_)
  have gp := gcd_pos_of (a := a) hb
  have gl := gcd_le_of (a := a) hb
  by_cases hp : 0 < b
  · refine iteT (by simpa using hp) ?_
    refine Call_ ?_
    walk_at "N"
    refine callF T (by k_dflt k_is) (args_cons ?_)
    walk_at "N"
    refine args_cons ?_
    walk_at "N"
    refine args_nil ⟨S.sub.of_le S.mono, ?_⟩
    refine gcd_ok (T.le S.mono) S.sub (R.deeper _) fun B₁ h₂ tk₄ t₁ X => ?_
    have S₁ := S.ext X
    walk_at "storeName"
    intro h₃ tk₅ S₂
    refine wpAny_execs_cons (wpAny_Return_some (Tuple_ (args_cons (wpAny_BinOp ?_))))
    try (refine hideQ ?_; intro hQ9)
    walk_at "N"
    walk_at "N"
    refine divI (k := k) (by exact om114 gp) (by unfold Sm at *; omega) hk fun _ tk₆ => args_cons (wpAny_BinOp ?_)
    walk_at "N"
    walk_at "N"
    refine divI (k := k) (by exact om114 gp) (by unfold Sm at *; omega) hk fun _ tk₇ => args_nil ?_
    refine mkTup S₂ fun B₂ h₄ t' le et S₃ => ?_
    exact hq _ _ _ _ S₃.toExt (.mk et (divInt_pos hp).1 (divInt_pos hp).2)
  · refine iteF (by simpa using hp) ?_
    refine wpAny_BinOp (cI fun _ tk₄ => Call_ ?_)
    walk_at "N"
    refine callF T (by k_dflt k_is) (args_cons ?_)
    walk_at "N"
    refine args_cons ?_
    walk_at "N"
    refine args_nil ⟨S.sub.of_le S.mono, ?_⟩
    refine gcd_ok (T.le S.mono) S.sub (R.deeper _) fun B₁ h₂ tk₄ t₁ X => ?_
    have S₁ := S.ext X
    refine subI fun _ tk₅ => ?_
    walk_at "storeName"
    intro h₃ tk₅ S₂
    refine wpAny_execs_cons (wpAny_Return_some (Tuple_ (args_cons (wpAny_BinOp ?_))))
    try (refine hideQ ?_; intro hQ9)
    walk_at "N"
    walk_at "N"
    refine divI (k := k) (by exact om134 gp) (by unfold Sm at *; omega) hk fun _ tk₆ => args_cons (wpAny_BinOp ?_)
    walk_at "N"
    walk_at "N"
    refine divI (k := k) (by exact om134 gp) (by unfold Sm at *; omega) hk fun _ tk₇ => args_nil ?_
    refine mkTup S₂ fun B₂ h₄ t' le et S₃ => ?_
    have hn : b < 0 := by exact om135 gp gl hp
    exact hq _ _ _ _ S₃.toExt (.mk et (divInt_negd hn).1 (divInt_negd hn).2)

/-- so many bits above and below -/
noncomputable def RatB (k : Nat) (r : Rat) : Prop := Sm k r.num ∧ Sm k r.den
theorem RatB.le {k l : Nat} {r : Rat} (x : RatB k r) (h : k ≤ l) : RatB l r := ⟨x.1.le h, x.2.le h⟩
theorem ratB_divInt {k : Nat} {a b : Int} (ha : Sm k a) (hb : Sm k b) (h0 : b ≠ 0) : RatB k (Rat.divInt a b) := by
  unfold RatB Sm at *
  rw [Rat.num_divInt, Rat.den_divInt, if_neg h0]
  constructor
  · refine Nat.lt_of_le_of_lt ?_ ha
    rw [Int.natAbs_ediv_of_dvd]
    · refine Nat.le_trans (Nat.div_le_self _ _) ?_
      rw [Int.natAbs_mul]
      rcases Int.lt_trichotomy b 0 with h | h | h
      · rw [Int.sign_eq_neg_one_of_neg h]; simp
      · exact absurd h h0
      · rw [Int.sign_eq_one_of_pos h]; simp
    · exact Int.dvd_mul_of_dvd_right (Int.gcd_dvd_right ..)
  · refine Nat.lt_of_le_of_lt ?_ hb
    rw [Int.natAbs_natCast]
    exact Nat.div_le_self _ _

theorem den_ne (r : Rat) : (r.den : Int) ≠ 0 := by have := r.den_nz; exact om136 this
theorem rsub_eq (a b : Rat) : Rat.divInt (a.num * b.den - b.num * a.den) (a.den * b.den) = a - b := by
  rw [← Rat.divInt_sub_divInt _ _ (den_ne a) (den_ne b), Rat.num_divInt_den, Rat.num_divInt_den]
theorem rmul_eq (a b : Rat) : Rat.divInt (a.num * b.num) (a.den * b.den) = a * b := by
  rw [← Rat.divInt_mul_divInt, Rat.num_divInt_den, Rat.num_divInt_den]
theorem rdiv_eq (a b : Rat) : Rat.divInt (a.num * b.den) (a.den * b.num) = a / b := by
  have e : Rat.divInt b.den b.num = b⁻¹ := by
    have := Rat.inv_divInt b.num b.den
    rw [Rat.num_divInt_den] at this
    exact this.symm
  rw [Rat.div_def, ← Rat.divInt_mul_divInt, Rat.num_divInt_den, e]
theorem num_ne {r : Rat} (h : r ≠ 0) : r.num ≠ 0 := fun e => h (Rat.num_eq_zero.mp e)

theorem rsub_B {a b : Rat} {k l n : Nat} (ha : RatB k a) (hb : RatB l b) (h : k + l < n) : RatB n (a - b) := by
  rw [← rsub_eq]
  refine ratB_divInt ((ha.1.mul hb.2).sub (hb.1.mul ha.2) h (by exact om137 h)) ((ha.2.mul hb.2).le (by exact om138 h)) (Int.mul_ne_zero (den_ne a) (den_ne b))
theorem rmul_B {a b : Rat} {k l : Nat} (ha : RatB k a) (hb : RatB l b) : RatB (k + l) (a * b) := by
  rw [← rmul_eq]
  exact ratB_divInt (ha.1.mul hb.1) (ha.2.mul hb.2) (Int.mul_ne_zero (den_ne a) (den_ne b))
theorem rdiv_B {a b : Rat} {k l : Nat} (ha : RatB k a) (hb : RatB l b) (h0 : b ≠ 0) : RatB (k + l) (a / b) := by
  rw [← rdiv_eq]
  exact ratB_divInt (ha.1.mul hb.2) (ha.2.mul hb.1) (Int.mul_ne_zero (den_ne a) (num_ne h0))
theorem rneg_B {a : Rat} {k : Nat} (ha : RatB k a) : RatB k (-a) := ⟨by rw [Rat.neg_num]; exact ha.1.neg, by rw [Rat.neg_den]; exact ha.2⟩

theorem rsub_ok (T : Tp (Mine.hd.heap_39 w.params) B) (sub : B.In h) (R : Room 3 A) {a b : Rat} {u v : Value} {k l : Nat} (hu : RatV B a u) (hv : RatV B b v) (ba : RatB k a) (bb : RatB l b) (hk : k + l ≤ 9000)
    (hq : ∀ B' h' tk' v', Ext B h B' h' → RatV B' (a - b) v' → Q v' (mk s h' tk')) :
    wpAny (model prog w) A (call (.ref 57) [u, v]) Q E (mk s h tk) := by
  first | (refine ob4_2 (hu) fun t n x y zr148 ht => ?_; try clear hu; subst zr148) | (refine ob3_3 (hu) fun t n x y zr149 ht => ?_; try clear hu; subst zr149) | (refine ob2_4 (hu) fun t n x y zr150 ht => ?_; try clear hu; subst zr150) | (refine ob1_5 (hu) fun t n x y zr151 ht => ?_; try clear hu; subst zr151) | (refine ob0_6 (hu) fun t n x y zr152 ht => ?_; try clear hu; subst zr152) | obtain ⟨t, n, x, y, rfl, ht⟩ := hu
  first | (refine ob4_2 (hv) fun t2 n2 x2 y2 zr153 ht2 => ?_; try clear hv; subst zr153) | (refine ob3_3 (hv) fun t2 n2 x2 y2 zr154 ht2 => ?_; try clear hv; subst zr154) | (refine ob2_4 (hv) fun t2 n2 x2 y2 zr155 ht2 => ?_; try clear hv; subst zr155) | (refine ob1_5 (hv) fun t2 n2 x2 y2 zr156 ht2 => ?_; try clear hv; subst zr156) | (refine ob0_6 (hv) fun t2 n2 x2 y2 zr157 ht2 => ?_; try clear hv; subst zr157) | obtain ⟨t2, n2, x2, y2, rfl, ht2⟩ := hv
  refine' enter (binds := [("a", .ref t), ("b", .ref t2)]) [] T sub ?he .nil ?hB ?hf ?hcd ?hroom ?hbind ?hkind ?hh ?hcn ?hco ?hgen ?hk
  ((case he => exact fun _ h => absurd h List.not_mem_nil); (case hB => exact fun _ h => absurd h List.not_mem_nil))
  ((case hf => k_dflt k_is); (case hcd => k_dflt k_is); (case hroom => exact Room.lt (by assumption)); (case hbind => exact rfl); (case hkind => exact kindsX rfl); (case hcn => decide +kernel); (case hco => exact rfl); (case hgen => exact rfl); (case hk => exact rfl))
  intro L h₁ tk₁ hL S
  refine hideF S ?_
  intro hA8 hE8 hM8 hQ8 S
  refine wpAny_execs_cons (wpAny_Return_some (Call_ ?_))
  try (refine hideQ ?_; intro hQ9)
  walk_at "N"
  refine callF T (by k_dflt k_is) (args_cons (wpAny_BinOp (wpAny_BinOp (Subscript_ ?_))))
  walk_at "N"
  refine cI fun _ _ => itemT S ht (by decide) (by decide) rfl (Subscript_ ?_)
  walk_at "N"
  refine cI fun _ _ => itemT S ht2 (by decide) (by decide) rfl (mulI ba.1 bb.2 (by exact om139 hk) (by exact om140 hk) fun _ _ => wpAny_BinOp (Subscript_ ?_))
  walk_at "N"
  refine cI fun _ _ => itemT S ht2 (by decide) (by decide) rfl (Subscript_ ?_)
  walk_at "N"
  refine cI fun _ _ => itemT S ht (by decide) (by decide) rfl (mulI bb.1 ba.2 (by exact om140 hk) (by exact om139 hk) fun _ _ => subI fun _ _ => args_cons (wpAny_BinOp (Subscript_ ?_)))
  walk_at "N"
  refine cI fun _ _ => itemT S ht (by decide) (by decide) rfl (Subscript_ ?_)
  walk_at "N"
  refine cI fun _ _ => itemT S ht2 (by decide) (by decide) rfl (mulI ba.2 bb.2 (by exact om139 hk) (by exact om140 hk) fun _ _ => args_nil ⟨S.sub.of_le S.mono, ?_⟩)
  refine rat_ok (T.le S.mono) S.sub (R.deeper _) (Int.mul_ne_zero (den_ne a) (den_ne b)) (ba.2.mul bb.2) hk fun B₁ h₂ tk₂ v' X hv' => ?_
  exact hq _ _ _ _ (S.ext X).toExt (rsub_eq a b ▸ hv')

theorem rmul_ok (T : Tp (Mine.hd.heap_39 w.params) B) (sub : B.In h) (R : Room 3 A) {a b : Rat} {u v : Value} {k l : Nat} (hu : RatV B a u) (hv : RatV B b v) (ba : RatB k a) (bb : RatB l b) (hk : k + l ≤ 9000)
    (hq : ∀ B' h' tk' v', Ext B h B' h' → RatV B' (a * b) v' → Q v' (mk s h' tk')) :
    wpAny (model prog w) A (call (.ref 64) [u, v]) Q E (mk s h tk) := by
  first | (refine ob4_2 (hu) fun t n x y zr158 ht => ?_; try clear hu; subst zr158) | (refine ob3_3 (hu) fun t n x y zr159 ht => ?_; try clear hu; subst zr159) | (refine ob2_4 (hu) fun t n x y zr160 ht => ?_; try clear hu; subst zr160) | (refine ob1_5 (hu) fun t n x y zr161 ht => ?_; try clear hu; subst zr161) | (refine ob0_6 (hu) fun t n x y zr162 ht => ?_; try clear hu; subst zr162) | obtain ⟨t, n, x, y, rfl, ht⟩ := hu
  first | (refine ob4_2 (hv) fun t2 n2 x2 y2 zr163 ht2 => ?_; try clear hv; subst zr163) | (refine ob3_3 (hv) fun t2 n2 x2 y2 zr164 ht2 => ?_; try clear hv; subst zr164) | (refine ob2_4 (hv) fun t2 n2 x2 y2 zr165 ht2 => ?_; try clear hv; subst zr165) | (refine ob1_5 (hv) fun t2 n2 x2 y2 zr166 ht2 => ?_; try clear hv; subst zr166) | (refine ob0_6 (hv) fun t2 n2 x2 y2 zr167 ht2 => ?_; try clear hv; subst zr167) | obtain ⟨t2, n2, x2, y2, rfl, ht2⟩ := hv
  refine' enter (binds := [("a", .ref t), ("b", .ref t2)]) [] T sub ?he .nil ?hB ?hf ?hcd ?hroom ?hbind ?hkind ?hh ?hcn ?hco ?hgen ?hk
  ((case he => exact fun _ h => absurd h List.not_mem_nil); (case hB => exact fun _ h => absurd h List.not_mem_nil))
  ((case hf => k_dflt k_is); (case hcd => k_dflt k_is); (case hroom => exact Room.lt (by assumption)); (case hbind => exact rfl); (case hkind => exact kindsX rfl); (case hcn => decide +kernel); (case hco => exact rfl); (case hgen => exact rfl); (case hk => exact rfl))
  intro L h₁ tk₁ hL S
  refine hideF S ?_
  intro hA8 hE8 hM8 hQ8 S
  refine wpAny_execs_cons (wpAny_Return_some (Call_ ?_))
  try (refine hideQ ?_; intro hQ9)
  walk_at "N"
  refine callF T (by k_dflt k_is) (args_cons (wpAny_BinOp (Subscript_ ?_)))
  walk_at "N"
  refine cI fun _ _ => itemT S ht (by decide) (by decide) rfl (Subscript_ ?_)
  walk_at "N"
  refine cI fun _ _ => itemT S ht2 (by decide) (by decide) rfl (mulI ba.1 bb.1 (by exact om139 hk) (by exact om140 hk) fun _ _ => args_cons (wpAny_BinOp (Subscript_ ?_)))
  walk_at "N"
  refine cI fun _ _ => itemT S ht (by decide) (by decide) rfl (Subscript_ ?_)
  walk_at "N"
  refine cI fun _ _ => itemT S ht2 (by decide) (by decide) rfl (mulI ba.2 bb.2 (by exact om139 hk) (by exact om140 hk) fun _ _ => args_nil ⟨S.sub.of_le S.mono, ?_⟩)
  refine rat_ok (T.le S.mono) S.sub (R.deeper _) (Int.mul_ne_zero (den_ne a) (den_ne b)) (ba.2.mul bb.2) hk fun B₁ h₂ tk₂ v' X hv' => ?_
  exact hq _ _ _ _ (S.ext X).toExt (rmul_eq a b ▸ hv')

theorem rdiv_ok (T : Tp (Mine.hd.heap_39 w.params) B) (sub : B.In h) (R : Room 3 A) {a b : Rat} {u v : Value} {k l : Nat} (hu : RatV B a u) (hv : RatV B b v) (ba : RatB k a) (bb : RatB l b) (hk : k + l ≤ 9000) (h0 : b ≠ 0)
    (hq : ∀ B' h' tk' v', Ext B h B' h' → RatV B' (a / b) v' → Q v' (mk s h' tk')) :
    wpAny (model prog w) A (call (.ref 71) [u, v]) Q E (mk s h tk) := by
  first | (refine ob4_2 (hu) fun t n x y zr168 ht => ?_; try clear hu; subst zr168) | (refine ob3_3 (hu) fun t n x y zr169 ht => ?_; try clear hu; subst zr169) | (refine ob2_4 (hu) fun t n x y zr170 ht => ?_; try clear hu; subst zr170) | (refine ob1_5 (hu) fun t n x y zr171 ht => ?_; try clear hu; subst zr171) | (refine ob0_6 (hu) fun t n x y zr172 ht => ?_; try clear hu; subst zr172) | obtain ⟨t, n, x, y, rfl, ht⟩ := hu
  first | (refine ob4_2 (hv) fun t2 n2 x2 y2 zr173 ht2 => ?_; try clear hv; subst zr173) | (refine ob3_3 (hv) fun t2 n2 x2 y2 zr174 ht2 => ?_; try clear hv; subst zr174) | (refine ob2_4 (hv) fun t2 n2 x2 y2 zr175 ht2 => ?_; try clear hv; subst zr175) | (refine ob1_5 (hv) fun t2 n2 x2 y2 zr176 ht2 => ?_; try clear hv; subst zr176) | (refine ob0_6 (hv) fun t2 n2 x2 y2 zr177 ht2 => ?_; try clear hv; subst zr177) | obtain ⟨t2, n2, x2, y2, rfl, ht2⟩ := hv
  refine' enter (binds := [("a", .ref t), ("b", .ref t2)]) [] T sub ?he .nil ?hB ?hf ?hcd ?hroom ?hbind ?hkind ?hh ?hcn ?hco ?hgen ?hk
  ((case he => exact fun _ h => absurd h List.not_mem_nil); (case hB => exact fun _ h => absurd h List.not_mem_nil))
  ((case hf => k_dflt k_is); (case hcd => k_dflt k_is); (case hroom => exact Room.lt (by assumption)); (case hbind => exact rfl); (case hkind => exact kindsX rfl); (case hcn => decide +kernel); (case hco => exact rfl); (case hgen => exact rfl); (case hk => exact rfl))
  intro L h₁ tk₁ hL S
  refine hideF S ?_
  intro hA8 hE8 hM8 hQ8 S
  refine wpAny_execs_cons (wpAny_Return_some (Call_ ?_))
  try (refine hideQ ?_; intro hQ9)
  walk_at "N"
  refine callF T (by k_dflt k_is) (args_cons (wpAny_BinOp (Subscript_ ?_)))
  walk_at "N"
  refine cI fun _ _ => itemT S ht (by decide) (by decide) rfl (Subscript_ ?_)
  walk_at "N"
  refine cI fun _ _ => itemT S ht2 (by decide) (by decide) rfl (mulI ba.1 bb.2 (by exact om139 hk) (by exact om140 hk) fun _ _ => args_cons (wpAny_BinOp (Subscript_ ?_)))
  walk_at "N"
  refine cI fun _ _ => itemT S ht (by decide) (by decide) rfl (Subscript_ ?_)
  walk_at "N"
  refine cI fun _ _ => itemT S ht2 (by decide) (by decide) rfl (mulI ba.2 bb.1 (by exact om139 hk) (by exact om140 hk) fun _ _ => args_nil ⟨S.sub.of_le S.mono, ?_⟩)
  refine rat_ok (T.le S.mono) S.sub (R.deeper _) (Int.mul_ne_zero (den_ne a) (num_ne h0)) (ba.2.mul bb.1) hk fun B₁ h₂ tk₂ v' X hv' => ?_
  exact hq _ _ _ _ (S.ext X).toExt (rdiv_eq a b ▸ hv')
end
/-! the mirror of echelon, plain -/
noncomputable def spot (F : List (List Rat)) (c row : Nat) : List Nat := (List.range' row (F.length - row)).filter fun i => decide ((F.getD i []).getD c 0 ≠ 0)
noncomputable def swp (i j : Nat) (F : List (List Rat)) : List (List Rat) := (F.set i (F.getD j [])).set j (F.getD i [])
noncomputable def scale (row c : Nat) (F : List (List Rat)) : List (List Rat) := F.set row ((F.getD row []).map fun x => x / (F.getD row []).getD c 0)
noncomputable def elimTo (n row c : Nat) (F : List (List Rat)) : List (List Rat) := F.mapIdx fun o r => if o < n ∧ o ≠ row then rowSub (r.getD c 0) r (F.getD row []) else r
noncomputable def elim (row c : Nat) (F : List (List Rat)) : List (List Rat) := elimTo F.length row c F
noncomputable def echStep (st : List (List Rat) × List Nat) (c : Nat) : List (List Rat) × List Nat :=
  match (spot st.1 c st.2.length).head? with
  | none => st
  | some p => (elim st.2.length c (scale st.2.length c (swp st.2.length p st.1)), st.2 ++ [c])
noncomputable def echTo (M : List (List Rat)) (n : Nat) : List (List Rat) × List Nat := (List.range n).foldl echStep (M, [])
noncomputable def ech (M : List (List Rat)) : List (List Rat) × List Nat := echTo M (wd M)
theorem echTo_succ (M : List (List Rat)) (n : Nat) : echTo M (n + 1) = echStep (echTo M n) n := by
  unfold echTo; rw [List.range_succ, List.foldl_append]; rfl

noncomputable def Rect (n w : Nat) (F : List (List Rat)) : Prop := F.length = n ∧ ∀ r ∈ F, r.length = w
noncomputable def Bnd (k : Nat) (F : List (List Rat)) : Prop := ∀ r ∈ F, ∀ x ∈ r, RatB k x

theorem getD_mem {α : Type} {F : List α} {d : α} {i : Nat} (h : i < F.length) : F.getD i d ∈ F := by
  rw [List.getD_eq_getElem?_getD, List.getElem?_eq_getElem h]; exact List.getElem_mem h
theorem getD_eq {α : Type} {F : List α} {d x : α} {i : Nat} (h : F[i]? = some x) : F.getD i d = x := by
  rw [List.getD_eq_getElem?_getD, h]; rfl
theorem get_getD {α : Type} {F : List α} (d : α) {i : Nat} (h : i < F.length) : F[i]? = some (F.getD i d) := by
  rw [List.getD_eq_getElem?_getD, List.getElem?_eq_getElem h]; rfl
theorem Rect.row {n w : Nat} {F : List (List Rat)} (R : Rect n w F) {i : Nat} (h : i < n) : (F.getD i []).length = w := R.2 _ (getD_mem (R.1 ▸ h))

theorem Rect.set {n w : Nat} {F : List (List Rat)} (R : Rect n w F) {i : Nat} {r : List Rat} (hr : r.length = w) : Rect n w (F.set i r) :=
  ⟨by rw [List.length_set]; exact R.1, fun x hx => (List.mem_or_eq_of_mem_set hx).elim (R.2 x) fun e => e ▸ hr⟩
theorem Bnd.set {k : Nat} {F : List (List Rat)} (b : Bnd k F) {i : Nat} {r : List Rat} (hr : ∀ x ∈ r, RatB k x) : Bnd k (F.set i r) :=
  fun x hx => (List.mem_or_eq_of_mem_set hx).elim (b x) fun e => e ▸ hr
theorem Bnd.le {k l : Nat} {F : List (List Rat)} (b : Bnd k F) (h : k ≤ l) : Bnd l F := fun r hr x hx => (b r hr x hx).le h
theorem Rect.swp {n w i j : Nat} {F : List (List Rat)} (R : Rect n w F) (hi : i < n) (hj : j < n) : Rect n w (swp i j F) := (R.set (R.row hj)).set (R.row hi)
theorem Bnd.swp {k i j : Nat} {F : List (List Rat)} (b : Bnd k F) (hi : i < F.length) (hj : j < F.length) : Bnd k (swp i j F) :=
  (b.set fun x hx => b _ (getD_mem hj) x hx).set fun x hx => b _ (getD_mem hi) x hx
theorem Rect.scale {n w i c : Nat} {F : List (List Rat)} (R : Rect n w F) (hi : i < n) : Rect n w (scale i c F) := R.set (by rw [List.length_map]; exact R.row hi)

theorem rowSub_len (q : Rat) (r p : List Rat) (h : r.length = p.length) : (rowSub q r p).length = r.length := by simp [rowSub, h]
theorem rowSub_get {q x y : Rat} {r p : List Rat} {i : Nat} (hx : r[i]? = some x) (hy : p[i]? = some y) : (rowSub q r p)[i]? = some (x - q * y) := by
  rw [rowSub, List.getElem?_zipWith, hx, hy]
theorem rowSub_zero (r p : List Rat) (h : r.length = p.length) : rowSub 0 r p = r := by
  refine List.ext_getElem? fun i => ?_
  rcases Nat.lt_or_ge i r.length with h1 | h1
  · rw [rowSub_get (List.getElem?_eq_getElem h1) (List.getElem?_eq_getElem (by exact om42 h h1)), List.getElem?_eq_getElem h1, Rat.zero_mul, Rat.sub_eq_add_neg]
    simp [Rat.neg_zero, Rat.add_zero]
  · rw [List.getElem?_eq_none h1, List.getElem?_eq_none (by rw [rowSub_len _ _ _ h]; exact h1)]
theorem rowSub_B {q : Rat} {r p : List Rat} {k₁ k₂ k₃ n : Nat} (bq : RatB k₃ q) (br : ∀ x ∈ r, RatB k₁ x) (bp : ∀ x ∈ p, RatB k₂ x) (hn : k₁ + (k₃ + k₂) < n) : ∀ x ∈ rowSub q r p, RatB n x := by
  intro x hx
  first | (refine ob1_1 (List.mem_iff_getElem?.mp hx) fun i hi => ?_) | (refine ob0_2 (List.mem_iff_getElem?.mp hx) fun i hi => ?_) | obtain ⟨i, hi⟩ := List.mem_iff_getElem?.mp hx
  rw [rowSub, List.getElem?_zipWith] at hi
  cases h1 : r[i]? with
  | none => rw [h1] at hi; simp at hi
  | some a =>
    cases h2 : p[i]? with
    | none => rw [h1, h2] at hi; simp at hi
    | some b =>
      rw [h1, h2] at hi
      simp at hi
      rw [← hi]
      exact rsub_B (br a (List.mem_of_getElem? h1)) (rmul_B bq (bp b (List.mem_of_getElem? h2))) hn

theorem elimTo_get (n row c : Nat) (F : List (List Rat)) (i : Nat) : (elimTo n row c F)[i]? = F[i]?.map fun r => if i < n ∧ i ≠ row then rowSub (r.getD c 0) r (F.getD row []) else r := by
  rw [elimTo, List.getElem?_mapIdx]
theorem elimTo_len (n row c : Nat) (F : List (List Rat)) : (elimTo n row c F).length = F.length := by simp [elimTo]
theorem elimTo_zero (row c : Nat) (F : List (List Rat)) : elimTo 0 row c F = F := by
  refine List.ext_getElem? fun i => ?_
  rw [elimTo_get]; cases F[i]? <;> simp
theorem elimTo_row (n row c : Nat) (F : List (List Rat)) : (elimTo n row c F).getD row [] = F.getD row [] := by
  rw [List.getD_eq_getElem?_getD, List.getD_eq_getElem?_getD, elimTo_get]
  cases F[row]? <;> simp
theorem elimTo_same (n row c : Nat) (F : List (List Rat)) : (elimTo n row c F).getD n [] = F.getD n [] := by
  rw [List.getD_eq_getElem?_getD, List.getD_eq_getElem?_getD, elimTo_get]
  cases F[n]? <;> simp
/-- one turn -/
theorem elimTo_succ {n row c : Nat} {F : List (List Rat)} (hn : n ≠ row) : elimTo (n + 1) row c F = (elimTo n row c F).set n (rowSub ((F.getD n []).getD c 0) (F.getD n []) (F.getD row [])) := by
  refine List.ext_getElem? fun i => ?_
  rw [List.getElem?_set, elimTo_get, elimTo_get, elimTo_len]
  by_cases q : n = i
  · subst q
    rw [if_pos rfl]
    rcases Nat.lt_or_ge n F.length with h1 | h1
    · rw [if_pos h1, get_getD [] h1]; simp [hn]
    · rw [if_neg (by exact om43 h1), List.getElem?_eq_none h1]; rfl
  · rw [if_neg q]
    cases F[i]? with
    | none => rfl
    | some r =>
      have : (i < n + 1 ∧ i ≠ row) ↔ (i < n ∧ i ≠ row) := by (first | with_reducible assumption | with_reducible exact Int.natCast_nonneg _ | lia | omega)
      simp [this]
theorem elimTo_skip {n row c w m : Nat} {F : List (List Rat)} (R : Rect m w F) (hrow : row < m) (h : n = row ∨ (F.getD n []).getD c 0 = 0) : elimTo (n + 1) row c F = elimTo n row c F := by
  refine List.ext_getElem? fun i => ?_
  rw [elimTo_get, elimTo_get]
  cases e : F[i]? with
  | none => rfl
  | some r =>
    by_cases q : i = n
    · subst q
      rcases h with h | h
      · subst h; simp
      · rw [getD_eq e] at h
        have hl : r.length = (F.getD row []).length := by rw [R.row hrow]; exact R.2 r (List.mem_of_getElem? e)
        simp only [Option.map_some]
        rw [h, rowSub_zero r _ hl, ite_self, ite_self]
    · have : (i < n + 1 ∧ i ≠ row) ↔ (i < n ∧ i ≠ row) := by (first | with_reducible assumption | with_reducible exact Int.natCast_nonneg _ | lia | omega)
      simp [this]
theorem Rect.elimTo {n m w row c : Nat} {F : List (List Rat)} (R : Rect m w F) (hrow : row < m) : Rect m w (elimTo n row c F) := by
  refine ⟨by rw [elimTo_len]; exact R.1, fun x hx => ?_⟩
  first | (refine ob1_1 (List.mem_iff_getElem?.mp hx) fun i hi => ?_) | (refine ob0_2 (List.mem_iff_getElem?.mp hx) fun i hi => ?_) | obtain ⟨i, hi⟩ := List.mem_iff_getElem?.mp hx
  rw [elimTo_get] at hi
  cases e : F[i]? with
  | none => rw [e] at hi; cases hi
  | some r =>
    rw [e] at hi
    have hr := R.2 r (List.mem_of_getElem? e)
    simp only [Option.map_some, Option.some.injEq] at hi
    rw [← hi]
    split
    · rw [rowSub_len _ _ _ (by rw [R.row hrow]; exact hr)]; exact hr
    · exact hr
theorem bnd_elimTo {n row c k : Nat} {F : List (List Rat)} {m w : Nat} (R : Rect m w F) (hrow : row < m) (hc : c < w) (b : ∀ o r, F[o]? = some r → o ≠ row → ∀ x ∈ r, RatB k x) (bp : ∀ x ∈ F.getD row [], RatB (2 * k) x) (hk : 0 < k) : Bnd (5 * k) (elimTo n row c F) := by
  intro x hx y hy
  first | (refine ob1_1 (List.mem_iff_getElem?.mp hx) fun i hi => ?_) | (refine ob0_2 (List.mem_iff_getElem?.mp hx) fun i hi => ?_) | obtain ⟨i, hi⟩ := List.mem_iff_getElem?.mp hx
  rw [elimTo_get] at hi
  cases e : F[i]? with
  | none => rw [e] at hi; cases hi
  | some r =>
    rw [e] at hi
    simp only [Option.map_some, Option.some.injEq] at hi
    rw [← hi] at hy
    split at hy
    · rename_i q
      have hr := R.2 r (List.mem_of_getElem? e)
      exact rowSub_B (b i r e q.2 _ (getD_mem (by exact om44 hc hr))) (b i r e q.2) bp (by exact om45 hk) y hy
    · rename_i q
      by_cases qi : i = row
      · subst qi; rw [getD_eq e] at bp; exact (bp y hy).le (by exact om46)
      · exact (b i r e qi y hy).le (by exact om47)

theorem spot_mem {F : List (List Rat)} {c row p : Nat} (h : (spot F c row).head? = some p) : row ≤ p ∧ p < F.length ∧ (F.getD p []).getD c 0 ≠ 0 := by
  have := List.mem_of_head? h
  unfold spot at this
  rw [List.mem_filter, List.mem_range'_1] at this
  first | (refine ob0_2 (this) fun zn76 h3 => ?_; try clear this; obtain ⟨h1, h2⟩ := zn76) | obtain ⟨⟨h1, h2⟩, h3⟩ := this
  exact ⟨h1, by exact om48 h1 h2, by simpa using h3⟩
theorem spot_none {F : List (List Rat)} {c row : Nat} (h : (spot F c row).head? = none) : ∀ p, row ≤ p → p < F.length → (F.getD p []).getD c 0 = 0 := by
  intro p h1 h2
  rw [List.head?_eq_none_iff] at h
  unfold spot at h
  rw [List.filter_eq_nil_iff] at h
  have := h p (List.mem_range'_1.mpr ⟨h1, by exact om49 h2⟩)
  simpa using this
noncomputable def nats (l : List Nat) : List Int := l.map fun n : Nat => (n : Int)
noncomputable def spotTo (F : List (List Rat)) (c row i : Nat) : List Nat := (List.range' row i).filter fun i => decide ((F.getD i []).getD c 0 ≠ 0)
theorem spotTo_succ (F : List (List Rat)) (c row i : Nat) : spotTo F c row (i + 1) = spotTo F c row i ++ if (F.getD (row + i) []).getD c 0 ≠ 0 then [row + i] else [] := by
  rw [spotTo, List.range'_1_concat, List.filter_append]
  congr 1
  by_cases h : (F.getD (row + i) []).getD c 0 = 0
  · rw [List.filter_cons_of_neg (by simpa using h), if_neg (by simpa using h)]; rfl
  · rw [List.filter_cons_of_pos (by simpa using h), if_pos h]; rfl
theorem nats_append (a b : List Nat) : nats (a ++ b) = nats a ++ nats b := List.map_append
theorem swp_row {F : List (List Rat)} {n wi row p : Nat} (R : Rect n wi F) (hr : row < n) (hp : p < n) : (swp row p F).getD row [] = F.getD p [] := by
  have h1 := R.1
  unfold swp
  rw [List.getD_eq_getElem?_getD, List.getElem?_set]
  by_cases e : p = row
  · subst e
    rw [if_pos rfl, if_pos (by rw [List.length_set]; exact om50 h1 hr)]; rfl
  · rw [if_neg e, List.getElem?_set, if_pos rfl, if_pos (by exact om44 hr h1)]; rfl
theorem scale_row {F : List (List Rat)} {n wi row c : Nat} (R : Rect n wi F) (hr : row < n) : (scale row c F).getD row [] = (F.getD row []).map fun x => x / (F.getD row []).getD c 0 := by
  have h1 := R.1
  unfold scale
  rw [List.getD_eq_getElem?_getD, List.getElem?_set, if_pos rfl, if_pos (by exact om44 hr h1)]; rfl
theorem scale_other {F : List (List Rat)} {row c o : Nat} (h : o ≠ row) : (scale row c F)[o]? = F[o]? := by
  unfold scale
  rw [List.getElem?_set, if_neg (fun q => h q.symm)]

/-- one column of echelon, its sizes -/
structure Cols (k n wi : Nat) (M : List (List Rat)) (c : Nat) : Prop where
  rect : Rect n wi (echTo M c).1
  bnd : Bnd (k * 5 ^ c) (echTo M c).1
  len : (echTo M c).2.length ≤ c
  lt : ∀ x ∈ (echTo M c).2, x < c
theorem scaled_bnd {F : List (List Rat)} {n wi row c k : Nat} (R : Rect n wi F) (hr : row < n) (hc : c < wi) (b : Bnd k F) (h0 : (F.getD row []).getD c 0 ≠ 0) :
    (∀ o r, (scale row c F)[o]? = some r → o ≠ row → ∀ x ∈ r, RatB k x) ∧ ∀ x ∈ (scale row c F).getD row [], RatB (2 * k) x := by
  refine ⟨fun o r e ho => ?_, fun x hx => ?_⟩
  · rw [scale_other ho] at e; exact b r (List.mem_of_getElem? e)
  · rw [scale_row R hr] at hx
    first | (refine ob2_1 (List.mem_map.mp hx) fun y hy zr77 => ?_; subst zr77) | (refine ob1_2 (List.mem_map.mp hx) fun y hy zr78 => ?_; subst zr78) | (refine ob0_3 (List.mem_map.mp hx) fun y hy zr79 => ?_; subst zr79) | obtain ⟨y, hy, rfl⟩ := List.mem_map.mp hx
    have hm := getD_mem (d := ([] : List Rat)) (show row < F.length by rw [R.1]; exact hr)
    rw [Nat.two_mul]
    exact rdiv_B (b _ hm y hy) (b _ hm _ (getD_mem (by rw [R.2 _ hm]; exact hc))) h0
theorem Cols.zero {k n wi : Nat} {M : List (List Rat)} (R : Rect n wi M) (b : Bnd k M) : Cols k n wi M 0 := ⟨R, by rw [Nat.pow_zero, Nat.mul_one]; exact b, Nat.le_refl _, fun x hx => by cases hx⟩
theorem Cols.succ {k n wi : Nat} {M : List (List Rat)} {c : Nat} (C : Cols k n wi M c) (hk : 0 < k) (hc : c < wi) : Cols k n wi M (c + 1) := by
  have e5 : k * 5 ^ (c + 1) = 5 * (k * 5 ^ c) := by rw [Nat.pow_succ]; ac_rfl
  have hk5 : 0 < k * 5 ^ c := Nat.mul_pos hk (Nat.pow_pos (by decide))
  have C' := C
  first | (refine ob3_1 (C) fun R b l lt => ?_; try clear C) | (refine ob2_2 (C) fun R b l lt => ?_; try clear C) | (refine ob1_3 (C) fun R b l lt => ?_; try clear C) | (refine ob0_4 (C) fun R b l lt => ?_; try clear C) | obtain ⟨R, b, l, lt⟩ := C
  cases e : (spot (echTo M c).1 c (echTo M c).2.length).head? with
  | none =>
    have e2 : echTo M (c + 1) = echTo M c := by rw [echTo_succ, echStep, e]
    exact ⟨by rw [e2]; exact R, by rw [e2, e5]; exact b.le (by exact om51), by rw [e2]; exact om52 l, fun x hx => by rw [e2] at hx; have := lt x hx; exact om35 this⟩
  | some p =>
    first | (refine ob2_1 (spot_mem e) fun h1 h2 h3 => ?_) | (refine ob1_2 (spot_mem e) fun h1 h2 h3 => ?_) | (refine ob0_3 (spot_mem e) fun h1 h2 h3 => ?_) | obtain ⟨h1, h2, h3⟩ := spot_mem e
    have e2 : echTo M (c + 1) = (elim (echTo M c).2.length c (scale (echTo M c).2.length c (swp (echTo M c).2.length p (echTo M c).1)), (echTo M c).2 ++ [c]) := by rw [echTo_succ, echStep, e]
    rw [R.1] at h2
    have hr : (echTo M c).2.length < n := by exact om53 h1 h2
    have R1 := R.swp hr h2
    have R2 := R1.scale (c := c) hr
    have hl := scaled_bnd R1 hr hc (b.swp (by rw [R.1]; exact hr) (by rw [R.1]; exact h2)) (by rw [swp_row R hr h2]; exact h3)
    refine ⟨by rw [e2]; exact R2.elimTo hr, ?_, by rw [e2]; simp; exact om15 l, fun x hx => ?_⟩
    · rw [e2, e5]
      exact bnd_elimTo R2 hr hc hl.1 hl.2 hk5
    · rw [e2] at hx
      rcases List.mem_append.mp hx with q | q
      · have := lt x q; exact om35 this
      · rw [List.mem_singleton.mp q]; exact om40
theorem cols {k n wi : Nat} {M : List (List Rat)} (R : Rect n wi M) (b : Bnd k M) (hk : 0 < k) : ∀ c, c ≤ wi → Cols k n wi M c := by
  intro rv
  induction rv with
  | zero => exact fun _ => .zero R b
  | succ c ih => exact fun h => (ih (by exact om34 h)).succ hk (by exact om39 h)
theorem pow_le {k c wi N : Nat} (h : k * 5 ^ wi ≤ N) (hc : c < wi) : 5 * (k * 5 ^ c) ≤ N := by
  have : 5 ^ (c + 1) ≤ 5 ^ wi := Nat.pow_le_pow_right (by decide) hc
  have h2 := Nat.mul_le_mul_left k this
  have e5 : k * 5 ^ (c + 1) = 5 * (k * 5 ^ c) := by rw [Nat.pow_succ]; ac_rfl
  exact om54 h h2 e5
theorem echTo_lenle {k n wi : Nat} {M : List (List Rat)} (hC : ∀ c, c ≤ wi → Cols k n wi M c) : ∀ c, c ≤ wi → (echTo M c).2.length ≤ n := by
  intro rv
  induction rv with
  | zero => exact fun _ => Nat.zero_le _
  | succ c ih =>
    intro h
    have ih := ih (by exact om34 h)
    have R := (hC c (by exact om34 h)).rect
    rw [echTo_succ, echStep]
    cases e : (spot (echTo M c).1 c (echTo M c).2.length).head? with
    | none => exact ih
    | some p =>
      first | (refine ob2_1 (spot_mem e) fun h1 h2 _ => ?_) | (refine ob1_2 (spot_mem e) fun h1 h2 _ => ?_) | (refine ob0_3 (spot_mem e) fun h1 h2 _ => ?_) | obtain ⟨h1, h2, _⟩ := spot_mem e
      rw [R.1] at h2
      show ((echTo M c).2 ++ [c]).length ≤ n
      rw [List.length_append]; show _ + 1 ≤ n; exact om55 h1 h2

noncomputable def nullTo (E : List (List Rat)) (pv : List Nat) (wi c : Nat) : Nat → List Rat
  | 0 => (List.replicate wi 0).set c 1
  | k + 1 => (nullTo E pv wi c k).set (pv.getD k 0) (-((E.getD k []).getD c 0))
theorem nullTo_len (E : List (List Rat)) (pv : List Nat) (wi c : Nat) : ∀ k, (nullTo E pv wi c k).length = wi := by
  intro rv
  induction rv with
  | zero => simp [nullTo]
  | succ k ih => rw [nullTo, List.length_set, ih]
noncomputable def nullBaseTo (E : List (List Rat)) (pv : List Nat) (wi n : Nat) : List (List Rat) := ((List.range n).filter fun c => decide (c ∉ pv)).map fun c => nullTo E pv wi c pv.length
noncomputable def nullBase (M : List (List Rat)) : List (List Rat) := nullBaseTo (ech M).1 (ech M).2 (wd M) (wd M)
theorem nullBaseTo_in {E : List (List Rat)} {pv : List Nat} {wi n : Nat} (h : n ∈ pv) : nullBaseTo E pv wi (n + 1) = nullBaseTo E pv wi n := by
  rw [nullBaseTo, List.range_succ, List.filter_append, List.filter_cons_of_neg (by simpa using h), List.filter_nil, List.append_nil]; rfl
theorem nullBaseTo_out {E : List (List Rat)} {pv : List Nat} {wi n : Nat} (h : n ∉ pv) : nullBaseTo E pv wi (n + 1) = nullBaseTo E pv wi n ++ [nullTo E pv wi n pv.length] := by
  rw [nullBaseTo, List.range_succ, List.filter_append, List.filter_cons_of_pos (by simpa using h), List.filter_nil, List.map_append]; rfl
theorem nats_mem {l : List Nat} {c : Nat} : (c : Int) ∈ nats l ↔ c ∈ l := by
  unfold nats
  rw [List.mem_map]
  exact ⟨fun ⟨a, h, e⟩ => by rw [← Int.ofNat.inj e]; exact h, fun h => ⟨c, h, rfl⟩⟩
theorem nats_get {l : List Nat} {i : Nat} (h : i < l.length) : (nats l)[i]? = some ((l.getD i 0 : Nat) : Int) := by
  rw [nats, List.getElem?_map, get_getD 0 h]; rfl

noncomputable def aug (M : List (List Rat)) (b : List Rat) : List (List Rat) := List.zipWith (fun r x => r ++ [x]) M b
theorem aug_get {M : List (List Rat)} {b : List Rat} {i : Nat} {r : List Rat} {x : Rat} (h : M[i]? = some r) (hx : b[i]? = some x) : (aug M b)[i]? = some (r ++ [x]) := by
  rw [aug, List.getElem?_zipWith, h, hx]
theorem aug_inv {M : List (List Rat)} {b : List Rat} {i : Nat} {q : List Rat} (h : (aug M b)[i]? = some q) : ∃ r x, M[i]? = some r ∧ b[i]? = some x ∧ q = r ++ [x] := by
  rw [aug, List.getElem?_zipWith] at h
  cases h1 : M[i]? with
  | none => rw [h1] at h; simp at h
  | some r =>
    cases h2 : b[i]? with
    | none => rw [h1, h2] at h; simp at h
    | some x => rw [h1, h2] at h; simp at h; exact ⟨r, x, rfl, rfl, h.symm⟩
theorem aug_rect {M : List (List Rat)} {b : List Rat} {n wi : Nat} (R : Rect n wi M) (hb : b.length = n) : Rect n (wi + 1) (aug M b) := by
  refine ⟨by rw [aug, List.length_zipWith, R.1, hb, Nat.min_self], fun q hq => ?_⟩
  first | (refine ob1_1 (List.mem_iff_getElem?.mp hq) fun i hi => ?_) | (refine ob0_2 (List.mem_iff_getElem?.mp hq) fun i hi => ?_) | obtain ⟨i, hi⟩ := List.mem_iff_getElem?.mp hq
  first | (refine ob4_1 (aug_inv hi) fun r x h1 h2 zr80 => ?_; subst zr80) | (refine ob3_2 (aug_inv hi) fun r x h1 h2 zr81 => ?_; subst zr81) | (refine ob2_3 (aug_inv hi) fun r x h1 h2 zr82 => ?_; subst zr82) | (refine ob1_4 (aug_inv hi) fun r x h1 h2 zr83 => ?_; subst zr83) | (refine ob0_5 (aug_inv hi) fun r x h1 h2 zr84 => ?_; subst zr84) | obtain ⟨r, x, h1, h2, rfl⟩ := aug_inv hi
  rw [List.length_append, R.2 r (List.mem_of_getElem? h1)]; rfl
theorem aug_bnd {M : List (List Rat)} {b : List Rat} {k : Nat} (B : Bnd k M) (hb : ∀ x ∈ b, RatB k x) : Bnd k (aug M b) := by
  intro q hq
  first | (refine ob1_1 (List.mem_iff_getElem?.mp hq) fun i hi => ?_) | (refine ob0_2 (List.mem_iff_getElem?.mp hq) fun i hi => ?_) | obtain ⟨i, hi⟩ := List.mem_iff_getElem?.mp hq
  first | (refine ob4_1 (aug_inv hi) fun r x h1 h2 zr85 => ?_; subst zr85) | (refine ob3_2 (aug_inv hi) fun r x h1 h2 zr86 => ?_; subst zr86) | (refine ob2_3 (aug_inv hi) fun r x h1 h2 zr87 => ?_; subst zr87) | (refine ob1_4 (aug_inv hi) fun r x h1 h2 zr88 => ?_; subst zr88) | (refine ob0_5 (aug_inv hi) fun r x h1 h2 zr89 => ?_; subst zr89) | obtain ⟨r, x, h1, h2, rfl⟩ := aug_inv hi
  intro y hy
  rcases List.mem_append.mp hy with z | z
  · exact B r (List.mem_of_getElem? h1) y z
  · rw [List.mem_singleton.mp z]; exact hb x (List.mem_of_getElem? h2)
theorem wd_rect {M : List (List Rat)} {n wi : Nat} (R : Rect n wi M) (hn : 0 < n) : wd M = wi := by
  cases M with
  | nil => have := R.1; simp at this; exact om56 hn this
  | cons r t => exact R.2 r (List.mem_cons_self ..)
noncomputable def solTo (E : List (List Rat)) (pv : List Nat) (wi : Nat) : Nat → List Rat
  | 0 => List.replicate wi 0
  | k + 1 => (solTo E pv wi k).set (pv.getD k 0) ((E.getD k []).getD wi 0)
theorem solTo_len (E : List (List Rat)) (pv : List Nat) (wi : Nat) : ∀ k, (solTo E pv wi k).length = wi := by
  intro rv
  induction rv with
  | zero => simp [solTo]
  | succ k ih => rw [solTo, List.length_set, ih]
noncomputable def sol (M : List (List Rat)) (b : List Rat) : List Rat := solTo (ech (aug M b)).1 (ech (aug M b)).2 (wd M) (ech (aug M b)).2.length
/-! rows of ints of one's own -/
noncomputable def IRowP (xs : List Int) : Obj → Prop := fun o => ∃ vs, LstP vs o ∧ Paired (IntV (fun _ => none)) xs vs
noncomputable def zE (as : List Addr) (F : List (List Int)) : List Ent := List.zipWith (fun a xs => (a, IRowP xs)) as F
theorem zE_fst : ∀ {as : List Addr} {F : List (List Int)}, as.length = F.length → (zE as F).map (fun p => p.1) = as
  | [], _, _ => rfl
  | a :: as, x :: F, h => by
    show a :: (zE as F).map (fun p => p.1) = a :: as
    rw [zE_fst (by simpa using h)]
  | _ :: _, [], h => by simp at h
theorem zE_split {as : List Addr} : ∀ {F : List (List Int)} {i : Nat} {a : Addr} {xs : List Int} (xs' : List Int), as[i]? = some a → F[i]? = some xs →
    zE as (F.set i xs') = zE (as.take i) (F.take i) ++ (a, IRowP xs') :: zE (as.drop (i + 1)) (F.drop (i + 1)) := by
  induction as with
  | nil => intro F i a xs xs' h1; rw [List.getElem?_nil] at h1; cases h1
  | cons b as ih =>
    intro F i a xs xs' h1 h2
    cases F with
    | nil => rw [List.getElem?_nil] at h2; cases h2
    | cons x F => cases i with
      | zero => cases h1; cases h2; rfl
      | succ i => exact congrArg (List.cons (b, IRowP x)) (ih (i := i) xs' h1 h2)
theorem set_same {α : Type} {F : List α} {i : Nat} {x : α} (h : F[i]? = some x) : F.set i x = F := by
  refine List.ext_getElem? fun j => ?_
  rw [List.getElem?_set]
  by_cases q : i = j
  · subst q
    rw [if_pos rfl, h]
    have := (List.getElem?_eq_some_iff.mp h).1
    rw [if_pos this]
  · rw [if_neg q]
theorem zE_mem {as : List Addr} {F : List (List Int)} {i : Nat} {a : Addr} {xs : List Int} (h1 : as[i]? = some a) (h2 : F[i]? = some xs) : (a, IRowP xs) ∈ zE as F := by
  refine List.mem_of_getElem? (i := i) ?_
  rw [zE, List.getElem?_zipWith, h1, h2]
theorem zE_inv {as : List Addr} {F : List (List Int)} {p : Ent} (h : p ∈ zE as F) : ∃ (i : Nat) (a : Addr) (xs : List Int), as[i]? = some a ∧ F[i]? = some xs ∧ p = (a, IRowP xs) := by
  first | (refine ob1_1 (List.mem_iff_getElem?.mp h) fun i hi => ?_) | (refine ob0_2 (List.mem_iff_getElem?.mp h) fun i hi => ?_) | obtain ⟨i, hi⟩ := List.mem_iff_getElem?.mp h
  rw [zE, List.getElem?_zipWith] at hi
  cases h1 : as[i]? with
  | none => rw [h1] at hi; simp at hi
  | some r =>
    cases h2 : F[i]? with
    | none => rw [h1, h2] at hi; simp at hi
    | some x => rw [h1, h2] at hi; simp at hi; exact ⟨i, r, x, h1, h2, hi.symm⟩

section
variable {prog : Program} {w : World} {A : Around} {E : Value → Shared → Prop} {s : Shared} {tk : Nat}
variable {W : List Addr} {B₀ B B' : Base} {h₀ h h' : Heap} {own : List Addr} {env : Env} {m : Str → Option Value} {ps : List Ent} {x : Str} {pos : Pos} {v : Value}

theorem Fm.row {a : Addr} {xs : List Int} (S : Fm W B₀ h₀ own env B m ps h) (hm : (a, IRowP xs) ∈ ps) : ∃ vs, h.PlainList a vs.toArray ∧ Paired (IntV B) xs vs := by
  first | (refine ob3_2 (S.ents _ hm) fun o e vs zn68 p => ?_; refine ob1_1 zn68 fun n zr69 => ?_; clear zn68; subst zr69) | (refine ob2_3 (S.ents _ hm) fun o e vs zn70 p => ?_; refine ob1_1 zn70 fun n zr71 => ?_; clear zn70; subst zr71) | (refine ob1_4 (S.ents _ hm) fun o e vs zn72 p => ?_; refine ob1_1 zn72 fun n zr73 => ?_; clear zn72; subst zr73) | (refine ob0_5 (S.ents _ hm) fun o e vs zn74 p => ?_; refine ob1_1 zn74 fun n zr75 => ?_; clear zn74; subst zr75) | obtain ⟨o, e, vs, ⟨n, rfl⟩, p⟩ := S.ents _ hm
  exact ⟨vs, ⟨n, e⟩, p⟩

/-- an item of a row of one's own is set -/
theorem setRow {as : List Addr} {F : List (List Int)} {ps₂ : List Ent} {a : Addr} {xs : List Int} {i k : Nat} {y z : Int} {t u : Tok} {Q : Unit → Shared → Prop} (S : Fm W B₀ h₀ (ownOf env) env B m (zE as F ++ ps₂) h)
    (ha : as[i]? = some a) (hx : F[i]? = some xs) (hz : z = k) (hk : k < 1000) (hn : k < xs.length)
    (hq : ∀ h', Fm W B₀ h₀ (ownOf env) env B m (zE as (F.set i (xs.set k y)) ++ ps₂) h' → Q () (mk s h' tk)) : wpAny (model prog w) A (setItem (.ref a) (.int z t) (.int y u)) Q E (mk s h tk) := by
  subst hz
  first | (refine ob2_1 (S.row (List.mem_append_left _ (zE_mem ha hx))) fun vs hl hp => ?_) | (refine ob1_2 (S.row (List.mem_append_left _ (zE_mem ha hx))) fun vs hl hp => ?_) | (refine ob0_3 (S.row (List.mem_append_left _ (zE_mem ha hx))) fun vs hl hp => ?_) | obtain ⟨vs, hl, hp⟩ := S.row (List.mem_append_left _ (zE_mem ha hx))
  have len := pLen hp
  refine setI hl (by exact om23) (by exact om24 hk) (by rw [Int.toNat_natCast]; exact om25 hn len) fun h' ⟨o, e, p⟩ hs => hq h' ?_
  rw [Int.toNat_natCast] at p
  have S' : Fm W B₀ h₀ (ownOf env) env B m (zE (as.take i) (F.take i) ++ (a, IRowP xs) :: (zE (as.drop (i + 1)) (F.drop (i + 1)) ++ ps₂)) h := by
    have := S
    rw [← set_same hx, zE_split xs ha hx, List.append_assoc] at this
    exact this
  rw [zE_split (xs.set k y) ha hx, List.append_assoc]
  refine S'.set hs.extBut e ⟨_, p, ?_⟩ (List.mem_cons_self ..) fun x c hm q => ?_
  · exact pSet k hp ⟨u, rfl⟩
  · exact (List.nodup_append.mp S'.nodup).2.2 c (own_cells x c hm) a (by simp) q
end

/-- rows of ints, read from outside -/
structure IM (h : Heap) (D : Addr) (as : List Addr) (F : List (List Int)) : Prop where
  top : h.PlainList D (as.map Value.ref).toArray
  len : as.length = F.length
  row : ∀ (i : Nat) (a : Addr) (xs : List Int), as[i]? = some a → F[i]? = some xs → ∃ vs, h.PlainList a vs.toArray ∧ Paired (IntV (fun _ => none)) xs vs
theorem IM.keeps {h h' : Heap} {D : Addr} {as : List Addr} {F : List (List Int)} (x : IM h D as F) (k : ∀ b o, h.get? b = some o → h'.get? b = some o) : IM h' D as F :=
  ⟨x.top.at fun _ e => k _ _ e, x.len, fun i a xs h1 h2 => let ⟨vs, p, q⟩ := x.row i a xs h1 h2; ⟨vs, p.at fun _ e => k _ _ e, q⟩⟩

/-! the mirror of bareiss -/
noncomputable def bcell (lead first ahead x y : Int) : Int := (x * lead - first * y).fdiv ahead
noncomputable def bcols (lead ahead : Int) (prow : List Int) (step j : Nat) (xs : List Int) : List Int :=
  xs.mapIdx fun c x => if step < c ∧ c < step + 1 + j then bcell lead (xs.getD step 0) ahead x (prow.getD c 0) else x
noncomputable def brow (lead ahead : Int) (prow : List Int) (step n : Nat) (xs : List Int) : List Int := (bcols lead ahead prow step (n - (step + 1)) xs).set step 0
noncomputable def browsTo (lead ahead : Int) (prow : List Int) (step n i : Nat) (F : List (List Int)) : List (List Int) :=
  F.mapIdx fun r xs => if step < r ∧ r < step + 1 + i then brow lead ahead prow step n xs else xs
theorem bcols_len (lead ahead : Int) (prow : List Int) (step j : Nat) (xs : List Int) : (bcols lead ahead prow step j xs).length = xs.length := by simp [bcols]
theorem brow_len (lead ahead : Int) (prow : List Int) (step n : Nat) (xs : List Int) : (brow lead ahead prow step n xs).length = xs.length := by simp [brow, bcols_len]
theorem browsTo_len (lead ahead : Int) (prow : List Int) (step n i : Nat) (F : List (List Int)) : (browsTo lead ahead prow step n i F).length = F.length := by simp [browsTo]
theorem bcols_get (lead ahead : Int) (prow : List Int) (step j : Nat) (xs : List Int) (c : Nat) :
    (bcols lead ahead prow step j xs)[c]? = xs[c]?.map fun x => if step < c ∧ c < step + 1 + j then bcell lead (xs.getD step 0) ahead x (prow.getD c 0) else x := by
  rw [bcols, List.getElem?_mapIdx]
theorem browsTo_get (lead ahead : Int) (prow : List Int) (step n i : Nat) (F : List (List Int)) (r : Nat) :
    (browsTo lead ahead prow step n i F)[r]? = F[r]?.map fun xs => if step < r ∧ r < step + 1 + i then brow lead ahead prow step n xs else xs := by
  rw [browsTo, List.getElem?_mapIdx]
theorem bcols_zero (lead ahead : Int) (prow : List Int) (step : Nat) (xs : List Int) : bcols lead ahead prow step 0 xs = xs := by
  refine List.ext_getElem? fun c => ?_
  rw [bcols_get]
  cases xs[c]? with
  | none => rfl
  | some x => rw [Option.map_some, if_neg (by exact om26)]
theorem bcols_succ (lead ahead : Int) (prow : List Int) (step j : Nat) (xs : List Int) :
    bcols lead ahead prow step (j + 1) xs = (bcols lead ahead prow step j xs).set (step + 1 + j) (bcell lead (xs.getD step 0) ahead (xs.getD (step + 1 + j) 0) (prow.getD (step + 1 + j) 0)) := by
  refine List.ext_getElem? fun c => ?_
  rw [List.getElem?_set, bcols_get, bcols_get, bcols_len]
  by_cases q : step + 1 + j = c
  · subst q
    rw [if_pos rfl]
    rcases Nat.lt_or_ge (step + 1 + j) xs.length with h1 | h1
    · have e : xs.getD (step + 1 + j) 0 = xs[step + 1 + j] := by simp [List.getD_eq_getElem?_getD, List.getElem?_eq_getElem h1]
      rw [if_pos h1, List.getElem?_eq_getElem h1, Option.map_some, if_pos (by exact om27), e]
    · rw [if_neg (by exact om28 h1), List.getElem?_eq_none h1]; rfl
  · rw [if_neg q]
    cases xs[c]? with
    | none => rfl
    | some x =>
      have : (step < c ∧ c < step + 1 + (j + 1)) ↔ (step < c ∧ c < step + 1 + j) := by (first | with_reducible assumption | with_reducible exact Int.natCast_nonneg _ | lia | omega)
      simp only [Option.map_some, this]
theorem browsTo_zero (lead ahead : Int) (prow : List Int) (step n : Nat) (F : List (List Int)) : browsTo lead ahead prow step n 0 F = F := by
  refine List.ext_getElem? fun c => ?_
  rw [browsTo_get]
  cases F[c]? with
  | none => rfl
  | some x => rw [Option.map_some, if_neg (by exact om26)]
theorem browsTo_succ (lead ahead : Int) (prow : List Int) (step n i : Nat) (F : List (List Int)) {xs : List Int} (h : F[step + 1 + i]? = some xs) :
    browsTo lead ahead prow step n (i + 1) F = (browsTo lead ahead prow step n i F).set (step + 1 + i) (brow lead ahead prow step n xs) := by
  refine List.ext_getElem? fun c => ?_
  rw [List.getElem?_set, browsTo_get, browsTo_get, browsTo_len]
  by_cases q : step + 1 + i = c
  · subst q
    have h1 := (List.getElem?_eq_some_iff.mp h).1
    rw [if_pos rfl, if_pos h1, h, Option.map_some, if_pos (by exact om27)]
  · rw [if_neg q]
    cases F[c]? with
    | none => rfl
    | some x =>
      have : (step < c ∧ c < step + 1 + (i + 1)) ↔ (step < c ∧ c < step + 1 + i) := by (first | with_reducible assumption | with_reducible exact Int.natCast_nonneg _ | lia | omega)
      simp only [Option.map_some, this]
theorem browsTo_keep {lead ahead : Int} {prow : List Int} {step n i : Nat} {F : List (List Int)} {r : Nat} (h : r ≤ step ∨ step + 1 + i ≤ r) : (browsTo lead ahead prow step n i F)[r]? = F[r]? := by
  rw [browsTo_get]
  cases F[r]? with
  | none => rfl
  | some x => rw [Option.map_some, if_neg (by exact om29 h)]
theorem bcols_keep {lead ahead : Int} {prow : List Int} {step j : Nat} {xs : List Int} {c : Nat} (h : c ≤ step ∨ step + 1 + j ≤ c) : (bcols lead ahead prow step j xs)[c]? = xs[c]? := by
  rw [bcols_get]
  cases xs[c]? with
  | none => rfl
  | some x => rw [Option.map_some, if_neg (by exact om29 h)]
section
variable {W : List Addr} {B₀ B B' : Base} {h₀ h h' : Heap} {own : List Addr} {env : Env} {m : Str → Option Value} {ps ps' ps₂ : List Ent}
theorem Fm.imp (S : Fm W B₀ h₀ own env B m ps h) (hps : ps'.map (fun p => p.1) = ps.map (fun p => p.1)) (he : Ents ps' h) : Fm W B₀ h₀ own env B m ps' h :=
  { S with ents := he, nodup := by rw [hps]; exact S.nodup, apart := by rw [hps]; exact S.apart, fresh := by rw [hps]; exact S.fresh }
theorem Fm.extWs {as : List Addr} {F F' : List (List Int)} (S : Fm W B₀ h₀ (ownOf env) env B m (zE as F ++ ps₂) h) (X : ExtW as B h B' h') (l1 : as.length = F.length) (l2 : as.length = F'.length) (he : Ents (zE as F') h') :
    Fm W B₀ h₀ (ownOf env) env B' m (zE as F' ++ ps₂) h' := by
  have nd := S.nodup
  have nd2 := (List.nodup_append.mp nd).2.1
  have nl : ∀ a ∈ ownOf env, a ∉ as := fun a ha q => (List.nodup_append.mp nd).2.2 a ha a (by rw [List.map_append, zE_fst l1]; exact List.mem_append_left _ q) rfl
  rw [List.map_append, zE_fst l1] at nd2
  refine S.extW X (nl _ (List.mem_cons_self ..)) (fun y c hm => nl c (own_cells y c hm)) nl (fun a ha => by rw [List.map_append, zE_fst l1]; exact List.mem_append_left _ ha) (by rw [List.map_append, List.map_append, zE_fst l1, zE_fst l2]) fun p hp => ?_
  rcases List.mem_append.mp hp with q | q
  · exact he p q
  · first | (refine ob2_1 (S.ents p (List.mem_append_right _ q)) fun o eo po => ?_) | (refine ob1_2 (S.ents p (List.mem_append_right _ q)) fun o eo po => ?_) | (refine ob0_3 (S.ents p (List.mem_append_right _ q)) fun o eo po => ?_) | obtain ⟨o, eo, po⟩ := S.ents p (List.mem_append_right _ q)
    exact ⟨o, X.keep _ _ (fun z => (List.nodup_append.mp nd2).2.2 p.1 z p.1 (List.mem_map_of_mem (f := fun p : Ent => p.1) q) rfl) eo, po⟩
theorem Fm.im {D : Addr} {as : List Addr} {F : List (List Int)} (S : Fm W B₀ h₀ own env B m ps h) (hD : (D, LstP (as.map Value.ref)) ∈ ps) (hl : as.length = F.length) (hs : ∀ p ∈ zE as F, p ∈ ps) : IM h D as F :=
  ⟨S.plain hD, hl, fun _ _ _ h1 h2 => S.row (hs _ (zE_mem h1 h2))⟩
end
theorem zE_snoc {as : List Addr} {F : List (List Int)} {a : Addr} {xs : List Int} (h : as.length = F.length) : zE (as ++ [a]) (F ++ [xs]) = zE as F ++ [(a, IRowP xs)] := by
  unfold zE; rw [List.zipWith_append h]; rfl

/-! the mirror of determinant -/
noncomputable def dPrev (F : List (List Int)) (c : Nat) : Int := (F.getD c []).getD c 0
noncomputable def dRun (M : List (List Int)) : Nat → List (List Int) × Int
  | 0 => (M, 1)
  | c + 1 => (browsTo (dPrev (dRun M c).1 c) (dRun M c).2 ((dRun M c).1.getD c []) c M.length (M.length - (c + 1)) (dRun M c).1, dPrev (dRun M c).1 c)
noncomputable def piv (M : List (List Int)) (c : Nat) : Int := dPrev (dRun M c).1 c
noncomputable def detV (M : List (List Int)) : Int := if ∀ c, c < M.length → 0 < piv M c then (dRun M M.length).2 else 0
noncomputable def Good (M : List (List Int)) : Prop := ∀ c, c < M.length → (∀ d, d < c → 0 < piv M d) → 0 ≤ piv M c ∧ (piv M c = 0 → ∀ q, c ≤ q → q < M.length → ((dRun M c).1.getD q []).getD c 0 = 0)
noncomputable def Sq (n : Nat) (M : List (List Int)) : Prop := M.length = n ∧ ∀ r ∈ M, r.length = n
noncomputable def SmM (k : Nat) (M : List (List Int)) : Prop := ∀ r ∈ M, ∀ x ∈ r, Sm k x
theorem getD_mem' {α : Type} {F : List α} {d : α} {i : Nat} (h : i < F.length) : F.getD i d ∈ F := by
  rw [List.getD_eq_getElem?_getD, List.getElem?_eq_getElem h]; exact List.getElem_mem h
theorem Sm.fdiv {k : Nat} {x a : Int} (h : Sm k x) (ha : 0 < a) : Sm k (x.fdiv a) := by
  rw [Int.fdiv_eq_ediv_of_nonneg _ (by exact om30 ha)]
  exact Nat.lt_of_le_of_lt (Int.natAbs_ediv_le_natAbs x a) h
theorem Sq.browsTo {n step i : Nat} {lead ahead : Int} {prow : List Int} {M : List (List Int)} (h : Sq n M) : Sq n (browsTo lead ahead prow step n i M) := by
  refine ⟨by rw [browsTo_len]; exact h.1, fun r hr => ?_⟩
  first | (refine ob1_1 (List.mem_iff_getElem?.mp hr) fun j hj => ?_) | (refine ob0_2 (List.mem_iff_getElem?.mp hr) fun j hj => ?_) | obtain ⟨j, hj⟩ := List.mem_iff_getElem?.mp hr
  rw [browsTo_get] at hj
  cases e : M[j]? with
  | none => rw [e] at hj; cases hj
  | some xs =>
    rw [e, Option.map_some] at hj
    have := h.2 xs (List.mem_of_getElem? e)
    cases hj
    split
    · rw [brow_len]; exact this
    · exact this
theorem smM_browsTo {n step i b : Nat} {lead ahead : Int} {prow : List Int} {M : List (List Int)} (h : SmM b M) (hl : Sm b lead) (ha : 0 < ahead) (hb : 0 < b) (hf : ∀ xs ∈ M, Sm b (xs.getD step 0))
    (hp' : ∀ c, Sm b (prow.getD c 0)) : SmM (2 * b + 1) (browsTo lead ahead prow step n i M) := by
  intro r hr x hx
  first | (refine ob1_1 (List.mem_iff_getElem?.mp hr) fun j hj => ?_) | (refine ob0_2 (List.mem_iff_getElem?.mp hr) fun j hj => ?_) | obtain ⟨j, hj⟩ := List.mem_iff_getElem?.mp hr
  rw [browsTo_get] at hj
  cases e : M[j]? with
  | none => rw [e] at hj; cases hj
  | some xs =>
    rw [e, Option.map_some] at hj
    have hm := List.mem_of_getElem? e
    cases hj
    split at hx
    · first | (refine ob1_1 (List.mem_iff_getElem?.mp hx) fun c hc => ?_) | (refine ob0_2 (List.mem_iff_getElem?.mp hx) fun c hc => ?_) | obtain ⟨c, hc⟩ := List.mem_iff_getElem?.mp hx
      rw [brow, List.getElem?_set] at hc
      split at hc
      · split at hc
        · cases hc; exact Sm.lit _ (Nat.pow_pos (by decide))
        · cases hc
      · rw [bcols_get] at hc
        cases e2 : xs[c]? with
        | none => rw [e2] at hc; cases hc
        | some y =>
          rw [e2, Option.map_some] at hc
          have hy := h xs hm y (List.mem_of_getElem? e2)
          cases hc
          split
          · unfold bcell
            refine Sm.fdiv (Sm.sub (hy.mul hl) ((hf xs hm).mul (hp' c)) (by exact om31) (by exact om31)) ha
          · exact hy.le (by exact om32)
    · exact (h xs hm x hx).le (by exact om32)
theorem sm_getD {b : Nat} {xs : List Int} (h : ∀ x ∈ xs, Sm b x) (c : Nat) : Sm b (xs.getD c 0) := by
  rcases Nat.lt_or_ge c xs.length with h1 | h1
  · exact h _ (getD_mem' h1)
  · rw [List.getD_eq_getElem?_getD, List.getElem?_eq_none h1]; exact Sm.lit _ (Nat.pow_pos (by decide))
/-- sizes and shape along the run -/
theorem dRun_ok {n k : Nat} {M : List (List Int)} (hs : Sq n M) (hb : SmM k M) (hk : 0 < k) : ∀ c, c ≤ n → (∀ d, d < c → 0 < piv M d) →
    Sq n (dRun M c).1 ∧ SmM ((k + 1) * 2 ^ c - 1) (dRun M c).1 ∧ 0 < (dRun M c).2 ∧ Sm ((k + 1) * 2 ^ c - 1) (dRun M c).2 := by
  intro rv
  induction rv with
  | zero => exact fun _  _ => ⟨hs, by rw [Nat.pow_zero, Nat.mul_one, Nat.add_sub_cancel]; exact hb, Int.one_pos, Sm.lit _ (by
      show 1 < 2 ^ _
      exact Nat.one_lt_two_pow (by exact om33 hk))⟩
  | succ c ih =>
    intro hc  hp
    first | (refine ob3_1 (ih (by first | with_reducible assumption | with_reducible exact Int.natCast_nonneg _ | lia | omega) fun d hd => hp d (by first | with_reducible assumption | with_reducible exact Int.natCast_nonneg _ | lia | omega)) fun h1 h2 h3 h4 => ?_) | (refine ob2_2 (ih (by first | with_reducible assumption | with_reducible exact Int.natCast_nonneg _ | lia | omega) fun d hd => hp d (by first | with_reducible assumption | with_reducible exact Int.natCast_nonneg _ | lia | omega)) fun h1 h2 h3 h4 => ?_) | (refine ob1_3 (ih (by first | with_reducible assumption | with_reducible exact Int.natCast_nonneg _ | lia | omega) fun d hd => hp d (by first | with_reducible assumption | with_reducible exact Int.natCast_nonneg _ | lia | omega)) fun h1 h2 h3 h4 => ?_) | (refine ob0_4 (ih (by exact om34 hc) fun d hd => hp d (by exact om35 hd)) fun h1 h2 h3 h4 => ?_) | obtain ⟨h1, h2, h3, h4⟩ := ih (by first | with_reducible assumption | with_reducible exact Int.natCast_nonneg _ | lia | omega) fun d hd => hp d (by first | with_reducible assumption | with_reducible exact Int.natCast_nonneg _ | lia | omega)
    have e2 : (k + 1) * 2 ^ (c + 1) - 1 = 2 * ((k + 1) * 2 ^ c - 1) + 1 := by
      have : 0 < (k + 1) * 2 ^ c := Nat.mul_pos (by exact om36) (Nat.pow_pos (by decide))
      rw [Nat.pow_succ, ← Nat.mul_assoc]; exact om37 this
    have hpos : 0 < (k + 1) * 2 ^ c - 1 := by
      have : k + 1 ≤ (k + 1) * 2 ^ c := Nat.le_mul_of_pos_right _ (Nat.pow_pos (by decide))
      exact om38 hk this
    have hprow : ∀ x ∈ (dRun M c).1.getD c [], Sm ((k + 1) * 2 ^ c - 1) x := h2 _ (getD_mem' (by rw [h1.1]; exact om39 hc))
    have hlead : Sm ((k + 1) * 2 ^ c - 1) (dPrev (dRun M c).1 c) := sm_getD hprow c
    refine ⟨?_, ?_, hp c (by exact om40), ?_⟩
    · show Sq n (browsTo _ _ _ _ M.length _ _)
      rw [hs.1]; exact h1.browsTo
    · rw [e2]
      show SmM _ (browsTo _ _ _ _ M.length _ _)
      exact smM_browsTo h2 hlead h3 hpos (fun xs hx => sm_getD (h2 xs hx) c) (sm_getD hprow)
    · rw [e2]; exact hlead.le (by exact om41)
section
variable {prog : Program} {w : World} {A : Around} {E : Value → Shared → Prop} {s : Shared} {h : Heap} {tk : Nat} {B : Base} {Q : Value → Shared → Prop}

theorem shape_ok (T : Tp (Mine.hd.heap_39 w.params) B) (sub : B.In h) (R : Room 1 A) {α : Type} {P : Rel α} {M : List (List α)} {v : Value} (hv : LV (LV P) B M v) (hM : Dims M)
    (hq : ∀ B' h' tk' t x y, Ext B h B' h' → B' t = some (tupO [.int M.length x, .int (wd M) y] 0) → Q (.ref t) (mk s h' tk')) :
    wpAny (model prog w) A (call (.ref 85) [v]) Q E (mk s h tk) := by
  first | (refine ob3_3 (hv) fun l vs c zr178 hl hp => ?_; try clear hv; subst zr178) | (refine ob2_4 (hv) fun l vs c zr179 hl hp => ?_; try clear hv; subst zr179) | (refine ob1_5 (hv) fun l vs c zr180 hl hp => ?_; try clear hv; subst zr180) | (refine ob0_6 (hv) fun l vs c zr181 hl hp => ?_; try clear hv; subst zr181) | obtain ⟨l, vs, c, rfl, hl, hp⟩ := hv
  refine' enter (binds := [("a", .ref l)]) [] T sub ?he .nil ?hB ?hf ?hcd ?hroom ?hbind ?hkind ?hh ?hcn ?hco ?hgen ?hk
  ((case he => exact fun _ h => absurd h List.not_mem_nil); (case hB => exact fun _ h => absurd h List.not_mem_nil))
  ((case hf => k_dflt k_is); (case hcd => k_dflt k_is); (case hroom => exact Room.lt (by assumption)); (case hbind => exact rfl); (case hkind => exact kindsX rfl); (case hcn => decide +kernel); (case hco => exact rfl); (case hgen => exact rfl); (case hk => exact rfl))
  intro L h₁ tk₁ hL S
  refine hideF S ?_
  intro hA8 hE8 hM8 hQ8 S
  have len : vs.length = M.length := pLen hp
  have sz := hM.1
  refine wpAny_execs_cons (wpAny_Return_some (Tuple_ (args_cons (Call_ ?_))))
  try (refine hideQ ?_; intro hQ9)
  walk_at "N"
  refine callWith_builtin1 (args_cons ?_)
  walk_at "N"
  refine args_nil (lenL (pln_of S.sub hl) (by exact om141 len sz) fun t₂ tk₂ => args_cons (IfExp_ (wpAny_isTrue_Compare1 (Call_ ?_))))
  walk_at "N"
  refine callWith_builtin1 (args_cons ?_)
  walk_at "N"
  refine args_nil (lenL (pln_of S.sub hl) (by exact om141 len sz) fun _ tk₃ => cI fun _ tk₄ => PyProof.Rows.gt_int (wpAny_truthy_bool ?_))
  cases hp with
  | nil =>
    refine iteF (by first | exact List.mem_cons_self | exact List.mem_cons_of_mem _ List.mem_cons_self | simp) ?_
    refine cI fun _ tk₅ => args_nil (mkTup S fun B' h' t le et S' => hq B' h' _ t _ _ S'.toExt et)
  | cons hx hr =>
    rename_i r v₀ M' vs'
    first | (refine ob3_3 (hx) fun lr vr cr zr182 hlr hpr => ?_; try clear hx; subst zr182) | (refine ob2_4 (hx) fun lr vr cr zr183 hlr hpr => ?_; try clear hx; subst zr183) | (refine ob1_5 (hx) fun lr vr cr zr184 hlr hpr => ?_; try clear hx; subst zr184) | (refine ob0_6 (hx) fun lr vr cr zr185 hlr hpr => ?_; try clear hx; subst zr185) | obtain ⟨lr, vr, cr, rfl, hlr, hpr⟩ := hx
    refine iteT (by first | exact List.mem_cons_self | exact List.mem_cons_of_mem _ List.mem_cons_self | simp) ?_
    refine Call_ ?_
    walk_at "N"
    refine callWith_builtin1 (args_cons (Subscript_ ?_))
    walk_at "N"
    have szr : r.length ≤ 1000 := hM.2 r (List.mem_cons_self ..)
    refine cI fun _ tk₅ => itemL (pln_of S.sub hl) (by decide) (by decide) rfl (args_nil (lenL (pln_of S.sub hlr) (by rw [pLen hpr]; omega) fun t₆ tk₆ => args_nil ?_))
    refine mkTup S fun B' h' t le et S' => hq B' h' _ t t₂ t₆ S'.toExt ?_
    rw [et, ← len]
    show some (tupO [_, .int (vr.length : Int) t₆] 0) = some (tupO [_, .int (r.length : Int) t₆] 0)
    rw [pLen hpr]

theorem copied_ok (T : Tp (Mine.hd.heap_39 w.params) B) (sub : B.In h) (R : Room 1 A) {M : List (List Rat)} {v : Value} (hv : MatV B M v) (hM : Dims M)
    (hq : ∀ B' h' tk' D vs, Ext B h B' h' → h.get? D = none → B' D = none → (∃ o, h'.get? D = some o ∧ LstP vs o) → Paired (RowV B') M vs → Q (.ref D) (mk s h' tk')) :
    wpAny (model prog w) A (call (.ref 97) [v]) Q E (mk s h tk) := by
  first | (refine ob3_3 (hv) fun l vs c zr186 hl hp => ?_; try clear hv; subst zr186) | (refine ob2_4 (hv) fun l vs c zr187 hl hp => ?_; try clear hv; subst zr187) | (refine ob1_5 (hv) fun l vs c zr188 hl hp => ?_; try clear hv; subst zr188) | (refine ob0_6 (hv) fun l vs c zr189 hl hp => ?_; try clear hv; subst zr189) | obtain ⟨l, vs, c, rfl, hl, hp⟩ := hv
  refine' enter (binds := [("a", .ref l)]) [] T sub ?he .nil ?hB ?hf ?hcd ?hroom ?hbind ?hkind ?hh ?hcn ?hco ?hgen ?hk
  ((case he => exact fun _ h => absurd h List.not_mem_nil); (case hB => exact fun _ h => absurd h List.not_mem_nil))
  ((case hf => k_dflt k_is); (case hcd => k_dflt k_is); (case hroom => exact Room.lt (by assumption)); (case hbind => exact rfl); (case hkind => exact kindsX rfl); (case hcn => decide +kernel); (case hco => exact rfl); (case hgen => exact rfl); (case hk => exact rfl))
  intro L h₁ tk₁ hL S
  refine hideF S ?_
  intro hA8 hE8 hM8 hQ8 S
  have len : vs.length = M.length := pLen hp
  have sz := hM.1
  refine wpAny_execs_cons (wpAny_Return_some (comp_start [] (by rfl) (by rfl) (by decide) ?_))
  try (refine hideQ ?_; intro hQ9)
  walk_at "N"
  refine iterL "row" R.quiet S hl fun h₂ I IT hN st S₂ => ?_
  refine comp_priv (ps := []) (fun i B₁ ys => Paired (RowV B₁) (M.take i) ys) (IT _) hN st S₂ (List.mem_cons_self ..) (by simpa using Paired.nil) (fits (by exact om142 len sz)) [] (fun p hp => by cases hp) (fun _ => rfl) .nil (fun C => canL (List.mem_cons_self ..)) ?_ ?_
  · intro C D i B₁ m₂ ys h₃ tk₂ E' hi _ le g zz13 F
    try (first | (refine hideC F ?_; intro hE9 hO9 hQ9 F) | (refine hideQ ?_; intro hQ9))
    first | (refine ob2_1 (zz13) fun y hy zr195 => ?_; try clear zz13; subst zr195) | (refine ob1_2 (zz13) fun y hy zr196 => ?_; try clear zz13; subst zr196) | (refine ob0_3 (zz13) fun y hy zr197 => ?_; try clear zz13; subst zr197) | obtain ⟨y, hy, rfl⟩ := zz13
    try (refine hideM F ?_; intro hM9 F)
    refine tests_nil ?_
    refine iteT rfl ?_
    first | (refine ob1_2 (pGet' hp hy) fun r hr zq => ?_; refine ob3_3 zq fun lr vr cr zr hlr hpr => ?_; clear zq; subst zr) | (refine ob5_3 (pGet' hp hy) fun r hr lr vr cr zr190 hlr hpr => ?_; subst zr190) | (refine ob4_4 (pGet' hp hy) fun r hr lr vr cr zr191 hlr hpr => ?_; subst zr191) | (refine ob3_5 (pGet' hp hy) fun r hr lr vr cr zr192 hlr hpr => ?_; subst zr192) | (refine ob2_6 (pGet' hp hy) fun r hr lr vr cr zr193 hlr hpr => ?_; subst zr193) | (refine ob1_7 (pGet' hp hy) fun r hr lr vr cr zr194 hlr hpr => ?_; subst zr194) | obtain ⟨r, hr, lr, vr, cr, rfl, hlr, hpr⟩ := pGet' hp hy
    refine Call_ ?_
    walk_at "N"
    refine callWith_type1 (args_cons ?_)
    walk_at "N"
    refine args_nil (copyB F (pln_of F.sub (le _ _ hlr)) (fits (by have := hM.2 r (List.mem_of_getElem? hr); have := pLen hpr; omega)) fun B₂ h₄ D' c' le₂ e₂ F₂ => ?_)
    exact exI4 B₂ _ h₄ _ ⟨rfl, le₂, pSnocTake (pMono RowV.mono le₂ g) hr (LVm (e₂) (pMono RatV.mono (le.trans le₂) hpr)), mc_upd rfl, F₂⟩
  · intro C D B₂ ys h' tk' hC hD le g _ F
    refine comp_none F (List.mem_cons_self ..) (fun x c hc q => hC.2 x c hc (List.mem_singleton.mpr q)) (hC.1 _ (List.mem_singleton.mpr rfl)) fun h'' F' => ?_
    exact hq B₂ h'' _ D ys F'.toExt (F'.fresh D (by first | exact List.mem_cons_self | exact List.mem_cons_of_mem _ List.mem_cons_self | simp) (by first | exact List.mem_cons_self | exact List.mem_cons_of_mem _ List.mem_cons_self | simp)) (F'.apart D (by first | exact List.mem_cons_self | exact List.mem_cons_of_mem _ List.mem_cons_self | simp)) (F'.ents (D, LstP ys) (by first | exact List.mem_cons_self | exact List.mem_cons_of_mem _ List.mem_cons_self | simp)) (pWhole g len)
end
section
variable {prog : Program} {w : World} {A : Around} {E : Value → Shared → Prop} {s : Shared} {h : Heap} {tk : Nat} {B : Base} {Q : Value → Shared → Prop}

theorem need_shape_ok (T : Tp (Mine.hd.heap_39 w.params) B) (sub : B.In h) (R : Room 1 A) {v : Value}
    (hq : ∀ B' h' tk', Ext B h B' h' → Q .none (mk s h' tk')) :
    wpAny (model prog w) A (call (.ref 92) [.bool true, v]) Q E (mk s h tk) := by
  refine' enter (binds := [("is_right", .bool true), ("text", v)]) [] T sub ?he .nil ?hB ?hf ?hcd ?hroom ?hbind ?hkind ?hh ?hcn ?hco ?hgen ?hk
  ((case he => exact fun _ h => absurd h List.not_mem_nil); (case hB => exact fun _ h => absurd h List.not_mem_nil))
  ((case hf => k_dflt k_is); (case hcd => k_dflt k_is); (case hroom => exact Room.lt (by assumption)); (case hbind => exact rfl); (case hkind => exact kindsX rfl); (case hcn => decide +kernel); (case hco => exact rfl); (case hgen => exact rfl); (case hk => exact rfl))
  intro L h₁ tk₁ hL S
  refine hideF S ?_
  intro hA8 hE8 hM8 hQ8 S
  refine wpAny_execs_cons (wpAny_If (isTrue_not (isTrue_plain ?_)))
  try (refine hideQ ?_; intro hQ9)
  walk_at "N"
  refine wpAny_truthy_bool ?_
  refine iteF (by decide) ?_
  exact wpAny_execs_nil (wpAny_execs_nil (hq _ _ _ S.toExt))

theorem from_whole_ok (T : Tp (Mine.hd.heap_39 w.params) B) (sub : B.In h) (R : Room 1 A) {M : List (List Int)} {v : Value} (hv : IMatV B M v) (hM : Dims M)
    (hq : ∀ B' h' tk' v', Ext B h B' h' → MatV B' (qmat M) v' → Q v' (mk s h' tk')) :
    wpAny (model prog w) A (call (.ref 102) [v]) Q E (mk s h tk) := by
  first | (refine ob3_3 (hv) fun l vs c zr198 hl hp => ?_; try clear hv; subst zr198) | (refine ob2_4 (hv) fun l vs c zr199 hl hp => ?_; try clear hv; subst zr199) | (refine ob1_5 (hv) fun l vs c zr200 hl hp => ?_; try clear hv; subst zr200) | (refine ob0_6 (hv) fun l vs c zr201 hl hp => ?_; try clear hv; subst zr201) | obtain ⟨l, vs, c, rfl, hl, hp⟩ := hv
  refine' enter (binds := [("a", .ref l)]) [] T sub ?he .nil ?hB ?hf ?hcd ?hroom ?hbind ?hkind ?hh ?hcn ?hco ?hgen ?hk
  ((case he => exact fun _ h => absurd h List.not_mem_nil); (case hB => exact fun _ h => absurd h List.not_mem_nil))
  ((case hf => k_dflt k_is); (case hcd => k_dflt k_is); (case hroom => exact Room.lt (by assumption)); (case hbind => exact rfl); (case hkind => exact kindsX rfl); (case hcn => decide +kernel); (case hco => exact rfl); (case hgen => exact rfl); (case hk => exact rfl))
  intro L h₁ tk₁ hL S
  refine hideF S ?_
  intro hA8 hE8 hM8 hQ8 S
  have len : vs.length = M.length := pLen hp
  have sz := hM.1
  refine wpAny_execs_cons (wpAny_Return_some (comp_start [] (by rfl) (by rfl) (by decide) ?_))
  try (refine hideQ ?_; intro hQ9)
  walk_at "N"
  refine iterL "row" R.quiet S hl fun h₂ I IT hN st S₂ => ?_
  refine comp_pure (ps := []) (fun i B₁ ys => Paired (RowV B₁) ((qmat M).take i) ys) (IT _) hN st S₂ (List.mem_cons_self ..) (by simpa using Paired.nil)
    (fun _ _ _ l g => pMono RowV.mono l g) (fits (by exact om142 len sz)) [] (fun p hp => by cases hp) (fun _ => rfl) .nil (fun C => canL (List.mem_cons_self ..)) ?_ ?_
  · intro C D i B₁ m₂ ys h₃ tk₂ E' hi _ le g zz13 F
    try (first | (refine hideC F ?_; intro hE9 hO9 hQ9 F) | (refine hideQ ?_; intro hQ9))
    first | (refine ob2_1 (zz13) fun y hy zr211 => ?_; try clear zz13; subst zr211) | (refine ob1_2 (zz13) fun y hy zr212 => ?_; try clear zz13; subst zr212) | (refine ob0_3 (zz13) fun y hy zr213 => ?_; try clear zz13; subst zr213) | obtain ⟨y, hy, rfl⟩ := zz13
    try (refine hideM F ?_; intro hM9 F)
    refine tests_nil ?_
    refine iteT rfl ?_
    first | (refine ob1_2 (pGet' hp hy) fun r hr zq => ?_; refine ob3_3 zq fun lr vr cr zr hlr hpr => ?_; clear zq; subst zr) | (refine ob5_3 (pGet' hp hy) fun r hr lr vr cr zr202 hlr hpr => ?_; subst zr202) | (refine ob4_4 (pGet' hp hy) fun r hr lr vr cr zr203 hlr hpr => ?_; subst zr203) | (refine ob3_5 (pGet' hp hy) fun r hr lr vr cr zr204 hlr hpr => ?_; subst zr204) | (refine ob2_6 (pGet' hp hy) fun r hr lr vr cr zr205 hlr hpr => ?_; subst zr205) | (refine ob1_7 (pGet' hp hy) fun r hr lr vr cr zr206 hlr hpr => ?_; subst zr206) | obtain ⟨r, hr, lr, vr, cr, rfl, hlr, hpr⟩ := pGet' hp hy
    have szr : r.length ≤ 1000 := hM.2 r (List.mem_of_getElem? hr)
    have lenr := pLen hpr
    refine comp_start [] (by rfl) (by rfl) (by decide) ?_
    walk_at "N"
    refine iterL "one" R.quiet F (le _ _ hlr) fun h₄ I₂ IT₂ hN₂ st₂ S₄ => ?_
    refine comp_pure (fun i B₂ zs => Paired (RatV B₂) ((qrow r).take i) zs) (IT₂ _) hN₂ st₂ S₄ (List.mem_cons_self ..) (by simpa using Paired.nil)
      (fun _ _ _ l g => pMono RatV.mono l g) (fits (by exact om143 szr lenr)) [] (fun p hp => by cases hp) (fun _ => rfl) .nil (fun C => canL (List.mem_cons_self ..)) ?_ ?_
    · intro C₂ D₂ j B₂ m₃ zs h₅ tk₃ E₂ hj _ le₂ g₂ zz13 F₂
      try (first | (refine hideC F₂ ?_; intro hE9 hO9 hQ9 F₂) | (refine hideQ ?_; intro hQ9))
      first | (refine ob2_1 (zz13) fun z hz zr214 => ?_; try clear zz13; subst zr214) | (refine ob1_2 (zz13) fun z hz zr215 => ?_; try clear zz13; subst zr215) | (refine ob0_3 (zz13) fun z hz zr216 => ?_; try clear zz13; subst zr216) | obtain ⟨z, hz, rfl⟩ := zz13
      try (refine hideM F₂ ?_; intro hM9 F₂)
      refine tests_nil ?_
      refine iteT rfl ?_
      first | (refine ob1_2 (pGet' hpr hz) fun x hx zq => ?_; refine ob1_1 zq fun t zr => ?_; clear zq; subst zr) | (refine ob3_1 (pGet' hpr hz) fun x hx t zr207 => ?_; subst zr207) | (refine ob2_2 (pGet' hpr hz) fun x hx t zr208 => ?_; subst zr208) | (refine ob1_3 (pGet' hpr hz) fun x hx t zr209 => ?_; subst zr209) | (refine ob0_4 (pGet' hpr hz) fun x hx t zr210 => ?_; subst zr210) | obtain ⟨x, hx, t, rfl⟩ := pGet' hpr hz
      refine Tuple_ (args_cons ?_)
      walk_at "N"
      refine args_cons (cI fun t₂ tk₄ => args_nil (mkTup F₂ fun B₃ h₆ t' le₃ et F₃ => ?_))
      refine exI4 B₃ _ h₆ _ ⟨rfl, le₃, pSnocTake (x := (x : Rat)) (pMono RatV.mono le₃ g₂) (by rw [qrow, List.getElem?_map, hx]; rfl) (.mk et rfl rfl), mc_upd rfl, F₃⟩
    · intro C₂ D₂ B₂ c₂ zs h₅ tk₃ hC le₂ g₂ _ e₂ F₂
      refine comp_none F₂ (List.mem_cons_self ..) (fun x c hc q => hC.2 x c hc (List.mem_singleton.mpr q)) (hC.1 _ (List.mem_singleton.mpr rfl)) fun h₆ F₃ => ?_
      refine exI4 B₂ _ h₆ _ ⟨rfl, le₂, pSnocTake (x := qrow r) (pMono RowV.mono le₂ g) (by rw [qmat, List.getElem?_map, hr]; rfl) (LVm (e₂) (pWhole g₂ (by simp [qrow, lenr]))), mc_upd rfl, F₃⟩
  · intro C D B₂ c₂ ys h' tk' hC le g _ e F
    refine comp_none F (List.mem_cons_self ..) (fun x c hc q => hC.2 x c hc (List.mem_singleton.mpr q)) (hC.1 _ (List.mem_singleton.mpr rfl)) fun h'' F' => ?_
    exact hq B₂ h'' _ _ F'.toExt (LVm (e) (pWhole g (by simp [qmat, len])))

theorem swap_rows_ok (T : Tp (Mine.hd.heap_39 w.params) B) (sub : B.In h) (R : Room 1 A) {l : Addr} {vs : List Value} {i j : Nat} {t u : Tok} {x y : Value} (he : ∃ o, h.get? l = some o ∧ LstP vs o) (hB : B l = none)
    (hi : vs[i]? = some x) (hj : vs[j]? = some y) (hz : vs.length ≤ 1000)
    (hq : ∀ B' h' tk', ExtW [l] B h B' h' → (∃ o, h'.get? l = some o ∧ LstP ((vs.set i y).set j x) o) → Q .none (mk s h' tk')) :
    wpAny (model prog w) A (call (.ref 109) [.ref l, .int i t, .int j u]) Q E (mk s h tk) := by
  have ii : i < vs.length := (List.getElem?_eq_some_iff.mp hi).1
  have jj : j < vs.length := (List.getElem?_eq_some_iff.mp hj).1
  refine' enter (binds := [("a", .ref l), ("one", .int i t), ("other", .int j u)]) [(l, LstP vs)] T sub ?he (by first | exact List.mem_cons_self | exact List.mem_cons_of_mem _ List.mem_cons_self | simp) ?hB ?hf ?hcd ?hroom ?hbind ?hkind ?hh ?hcn ?hco ?hgen ?hk
  case he => intro p hp; rw [List.mem_singleton.mp hp]; exact he
  case hB => intro a ha; rw [List.mem_singleton.mp ha]; exact hB
  ((case hf => k_dflt k_is); (case hcd => k_dflt k_is); (case hroom => exact Room.lt (by assumption)); (case hbind => exact rfl); (case hkind => exact kindsX rfl); (case hcn => decide +kernel); (case hco => exact rfl); (case hgen => exact rfl); (case hk => exact rfl))
  intro L h₁ tk₁ hL S
  refine hideF S ?_
  intro hA8 hE8 hM8 hQ8 S
  refine wpAny_execs_cons (Assign_Tuple (Tuple_ (args_cons (Subscript_ ?_))))
  try (refine hideQ ?_; intro hQ9)
  walk_at "N"
  walk_at "N"
  refine itemL (S.plain (List.mem_singleton.mpr rfl)) (by exact om23) (by exact om144 hz jj) (by rw [Int.toNat_natCast]; exact hj) (args_cons (Subscript_ ?_))
  walk_at "N"
  walk_at "N"
  refine itemL (S.plain (List.mem_singleton.mpr rfl)) (by exact om23) (by exact om144 hz ii) (by rw [Int.toNat_natCast]; exact hi) (args_nil ?_)
  refine mkTup S fun B₁ h₂ t' le et S₁ => ?_
  refine asgT R.quiet S₁ et rfl rfl fun h₃ S₂ => ?_
  refine assignInOrder_cons (assignSub ?_)
  walk_at "N"
  walk_at "N"
  refine setP [] S₂ (by exact om23) (by exact om144 hz ii) (by rw [Int.toNat_natCast]; exact ii) fun h₄ S₃ => ?_
  refine assignInOrder_cons (assignSub ?_)
  walk_at "N"
  walk_at "N"
  refine setP [] S₃ (by exact om23) (by exact om144 hz jj) (by rw [Int.toNat_natCast, List.length_set]; exact jj) fun h₅ S₄ => ?_
  refine assignInOrder_nil (wpAny_execs_nil ?_)
  have := S₄.ents _ (List.mem_singleton.mpr rfl)
  rw [Int.toNat_natCast, Int.toNat_natCast] at this
  exact hq B₁ h₅ _ S₄.toExtW this
end
section
variable {prog : Program} {w : World} {A : Around} {E : Value → Shared → Prop} {s : Shared} {h : Heap} {tk : Nat} {B : Base} {Q : Value → Shared → Prop}

theorem take_off_ok (T : Tp (Mine.hd.heap_39 w.params) B) (sub : B.In h) (R : Room 4 A) {l : Addr} {vs : List Value} {M : List (List Rat)} {i j : Nat} {t u : Tok} {r p : List Rat} {q : Rat} {v : Value} {k₁ k₂ k₃ : Nat}
    (he : ∃ o, h.get? l = some o ∧ LstP vs o) (hB : B l = none) (hp : Paired (RowV B) M vs) (hM : Dims M) (hi : M[i]? = some r) (hj : M[j]? = some p) (hrp : r.length = p.length) (hv : RatV B q v)
    (br : ∀ x ∈ r, RatB k₁ x) (bp : ∀ x ∈ p, RatB k₂ x) (bq : RatB k₃ q) (hk : k₁ + (k₃ + k₂) ≤ 9000)
    (hq : ∀ B' h' tk' y, ExtW [l] B h B' h' → (∃ o, h'.get? l = some o ∧ LstP (vs.set i y) o) → RowV B' (rowSub q r p) y → Q .none (mk s h' tk')) :
    wpAny (model prog w) A (call (.ref 114) [.ref l, .int i t, .int j u, v]) Q E (mk s h tk) := by
  refine' enter (binds := [("a", .ref l), ("row", .int i t), ("source", .int j u), ("number", v)]) [(l, LstP vs)] T sub ?he (by first | exact List.mem_cons_self | exact List.mem_cons_of_mem _ List.mem_cons_self | simp) ?hB ?hf ?hcd ?hroom ?hbind ?hkind ?hh ?hcn ?hco ?hgen ?hk
  case he => intro p hp; rw [List.mem_singleton.mp hp]; exact he
  case hB => intro a ha; rw [List.mem_singleton.mp ha]; exact hB
  ((case hf => k_dflt k_is); (case hcd => k_dflt k_is); (case hroom => exact Room.lt (by assumption)); (case hbind => exact rfl); (case hkind => exact kindsX rfl); (case hcn => decide +kernel); (case hco => exact rfl); (case hgen => exact rfl); (case hk => exact rfl))
  intro L h₁ tk₁ hL S
  refine hideF S ?_
  intro hA8 hE8 hM8 hQ8 S
  first | (refine ob1_2 (pGet hp hi) fun y hy zq => ?_; refine ob3_3 zq fun lr vr cr zr hlr hpr => ?_; clear zq; subst zr) | (refine ob5_3 (pGet hp hi) fun y hy lr vr cr zr217 hlr hpr => ?_; subst zr217) | (refine ob4_4 (pGet hp hi) fun y hy lr vr cr zr218 hlr hpr => ?_; subst zr218) | (refine ob3_5 (pGet hp hi) fun y hy lr vr cr zr219 hlr hpr => ?_; subst zr219) | (refine ob2_6 (pGet hp hi) fun y hy lr vr cr zr220 hlr hpr => ?_; subst zr220) | (refine ob1_7 (pGet hp hi) fun y hy lr vr cr zr221 hlr hpr => ?_; subst zr221) | obtain ⟨y, hy, lr, vr, cr, rfl, hlr, hpr⟩ := pGet hp hi
  first | (refine ob1_2 (pGet hp hj) fun z hz zq => ?_; refine ob3_3 zq fun lp vp cp zr hlp hpp => ?_; clear zq; subst zr) | (refine ob5_3 (pGet hp hj) fun z hz lp vp cp zr222 hlp hpp => ?_; subst zr222) | (refine ob4_4 (pGet hp hj) fun z hz lp vp cp zr223 hlp hpp => ?_; subst zr223) | (refine ob3_5 (pGet hp hj) fun z hz lp vp cp zr224 hlp hpp => ?_; subst zr224) | (refine ob2_6 (pGet hp hj) fun z hz lp vp cp zr225 hlp hpp => ?_; subst zr225) | (refine ob1_7 (pGet hp hj) fun z hz lp vp cp zr226 hlp hpp => ?_; subst zr226) | obtain ⟨z, hz, lp, vp, cp, rfl, hlp, hpp⟩ := pGet hp hj
  have ii : i < vs.length := (List.getElem?_eq_some_iff.mp hy).1
  have jj : j < vs.length := (List.getElem?_eq_some_iff.mp hz).1
  have len := pLen hp
  have sz := hM.1
  have szr : r.length ≤ 1000 := hM.2 r (List.mem_of_getElem? hi)
  have lenr := pLen hpr
  have lenp := pLen hpp
  refine wpAny_execs_cons (wpAny_Assign_Subscript (comp_start [("source", L + 1 + 1), ("number", L + 1 + 1 + 1), ("a", L + 1)] (by rfl) (by rfl) (by decide) (Call_ ?_)))
  try (refine hideQ ?_; intro hQ9)
  walk_at "N"
  refine callWith_type1 (args_cons (Subscript_ ?_))
  walk_at "N"
  walk_at "N"
  refine itemL (S.plain (List.mem_singleton.mpr rfl)) (by exact om23) (by exact om145 ii len sz) (by rw [Int.toNat_natCast]; exact hy) (args_nil ?_)
  refine enumL "at" "one" R.quiet S hlr fun h₂ e it IT hN st S₂ => ?_
  refine (IT default default 0 default).self 0 (mk s h₂ _) _ _ st ?_
  have T₂ := T.le S₂.mono
  have hid := S₂.hide (List.mem_cons_self ..) hN.2 hN.1
  have pl := hid.plain (List.mem_singleton.mpr rfl)
  refine comp_pure (ps := [(l, LstP vs)]) (fun n B₁ ys => Paired (RatV B₁) ((rowSub q r p).take n) ys) (IT _ _ _ _) hN st S₂ (List.mem_cons_self ..) (by simpa using Paired.nil)
    (fun _ _ _ l g => pMono RatV.mono l g) (fits (by exact om143 szr lenr)) ["source", "number", "a"] (by (repeat' (first | exact List.forall_mem_nil _ | refine List.forall_mem_cons.mpr ⟨⟨rfl, rfl, rfl⟩, ?_⟩))) (fun _ => rfl) (by decide +kernel) (fun C => ⟨canL (List.mem_cons_self ..), canL (List.mem_cons_self ..)⟩) ?_ ?_
  · intro C D n B₁ m₂ ys h₃ tk₂ E' hn _ le g zz13 F
    try (first | (refine hideC F ?_; intro hE9 hO9 hQ9 F) | (refine hideQ ?_; intro hQ9))
    first | (refine ob1_2 (zz13) fun _ o zq => ?_; refine ob1_1 zq fun ⟨t₁, ho, rfl⟩ zr => ?_; clear zq; subst zr) | (refine ob2_2 (zz13) fun _ o zn227 zr228 => ?_; try clear zz13; obtain ⟨t₁, ho, rfl⟩ := zn227; subst zr228) | (refine ob1_3 (zz13) fun _ o zn229 zr230 => ?_; try clear zz13; obtain ⟨t₁, ho, rfl⟩ := zn229; subst zr230) | (refine ob0_4 (zz13) fun _ o zn231 zr232 => ?_; try clear zz13; obtain ⟨t₁, ho, rfl⟩ := zn231; subst zr232) | obtain ⟨_, o, ⟨t₁, ho, rfl⟩, rfl⟩ := zz13
    try (refine hideM F ?_; intro hM9 F)
    refine tests_nil ?_
    refine iteT rfl ?_
    first | (refine ob2_1 (pGet' hpr ho) fun x hx ox => ?_) | (refine ob1_2 (pGet' hpr ho) fun x hx ox => ?_) | (refine ob0_3 (pGet' hpr ho) fun x hx ox => ?_) | obtain ⟨x, hx, ox⟩ := pGet' hpr ho
    have nr : n < r.length := (List.getElem?_eq_some_iff.mp hx).1
    have hx2 : p[n]? = some p[n] := List.getElem?_eq_getElem (by exact om42 hrp nr)
    first | (refine ob2_1 (pGet hpp hx2) fun o2 ho2 ox2 => ?_) | (refine ob1_2 (pGet hpp hx2) fun o2 ho2 ox2 => ?_) | (refine ob0_3 (pGet hpp hx2) fun o2 ho2 ox2 => ?_) | obtain ⟨o2, ho2, ox2⟩ := pGet hpp hx2
    have pl₁ : h₃.PlainList l vs.toArray := pl.at fun o e => F.keep l o (by first | exact List.mem_cons_self | exact List.mem_cons_of_mem _ List.mem_cons_self | simp) e
    refine Call_ ?_
    walk_at "N"
    refine callF T₂ (by k_dflt k_is) (args_cons ?_)
    walk_at "N"
    refine args_cons (Call_ ?_)
    walk_at "N"
    refine callF T₂ (by k_dflt k_is) (args_cons ?_)
    walk_at "N"
    refine args_cons (Subscript_ (Subscript_ ?_))
    walk_at "N"
    walk_at "N"
    refine itemL pl₁ (by exact om23) (by exact om145 jj len sz) (by rw [Int.toNat_natCast]; exact hz) ?_
    walk_at "N"
    refine itemL (pln_of F.sub (le _ _ hlp)) (by exact om23) (by exact om144 szr nr) (by rw [Int.toNat_natCast]; exact ho2) (args_nil ⟨F.sub.of_le F.mono, ?_⟩)
    refine rmul_ok (T₂.le F.mono) F.sub ((R.deeper _).le (Nat.le_of_ble_eq_true rfl)) (hv.le le) (ox2.le le) bq (bp _ (List.mem_of_getElem? hx2)) (by exact om146 hk) fun B₂ h₄ tk₃ v₂ X hv₂ => ?_
    have F₂ := F.ext X
    refine args_nil ⟨F₂.sub.of_le F₂.mono, ?_⟩
    refine rsub_ok (T₂.le F₂.mono) F₂.sub ((R.deeper _).le (Nat.le_of_ble_eq_true rfl)) ((ox.le le).le X.le) hv₂ (br _ (List.mem_of_getElem? hx)) (rmul_B bq (bp _ (List.mem_of_getElem? hx2))) hk fun B₃ h₅ tk₄ v₃ X₃ hv₃ => ?_
    refine exI4 B₃ _ h₅ _ ⟨rfl, X.le.trans X₃.le, pSnocTake (pMono RatV.mono (X.le.trans X₃.le) g) ?_ hv₃, mc_upd2 rfl rfl, F₂.ext X₃⟩
    rw [rowSub, List.getElem?_zipWith, hx, hx2]
  · intro C D B₂ c₂ ys h₃ tk₃ hC le g _ e F
    refine comp_none F (List.mem_cons_self ..) (fun x c hc q => hC.2 x c hc (List.mem_singleton.mpr q)) (hC.1 _ (List.mem_singleton.mpr rfl)) fun h₄ F' => ?_
    walk_at "N"
    walk_at "N"
    refine setP [] F' (by exact om23) (by exact om145 ii len sz) (by rw [Int.toNat_natCast]; exact ii) fun h₅ S₃ => ?_
    refine wpAny_execs_nil ?_
    have := S₃.ents _ (List.mem_singleton.mpr rfl)
    rw [Int.toNat_natCast] at this
    exact hq B₂ h₅ _ _ S₃.toExtW this (LVm (e) (pWhole g (by simp [rowSub, lenr, hrp])))
end
section
variable {prog : Program} {w : World} {A : Around} {E : Value → Shared → Prop} {s : Shared} {h : Heap} {tk : Nat} {B : Base} {Q : Value → Shared → Prop}

theorem R0_ok (T : Tp (Mine.hd.heap_39 w.params) B) : RatV B 0 (.ref 42) := ⟨42, _, _, _, rfl, T.obj (by k_dflt k_is)⟩
theorem R1_ok (T : Tp (Mine.hd.heap_39 w.params) B) : RatV B 1 (.ref 43) := ⟨43, _, _, _, rfl, T.obj (by k_dflt k_is)⟩

set_option maxHeartbeats 4000000 in
theorem echelon_ok (T : Tp (Mine.hd.heap_39 w.params) B) (sub : B.In h) (R : Room 5 A) {M : List (List Rat)} {v : Value} {k n wi : Nat} (hv : MatV B M v) (hR : Rect n wi M) (hw : wd M = wi) (hn : n ≤ 100) (hwi : wi ≤ 100)
    (hb : Bnd k M) (hk0 : 0 < k) (hk : k * 5 ^ wi ≤ 9000)
    (hq : ∀ B' h' tk' t f p, Ext B h B' h' → B' t = some (tupO [f, p] 0) → MatV B' (ech M).1 f → IntsV B' (nats (ech M).2) p → Q (.ref t) (mk s h' tk')) :
    wpAny (model prog w) A (call (.ref 119) [v]) Q E (mk s h tk) := by
  have hD : Dims M := ⟨by rw [hR.1]; exact om147 hn, fun r hr => by rw [hR.2 r hr]; exact om147 hwi⟩
  have hC := cols hR hb hk0
  first | (refine ob3_3 (hv) fun l vs c zr233 hl hp => ?_; try clear hv; subst zr233) | (refine ob2_4 (hv) fun l vs c zr234 hl hp => ?_; try clear hv; subst zr234) | (refine ob1_5 (hv) fun l vs c zr235 hl hp => ?_; try clear hv; subst zr235) | (refine ob0_6 (hv) fun l vs c zr236 hl hp => ?_; try clear hv; subst zr236) | obtain ⟨l, vs, c, rfl, hl, hp⟩ := hv
  refine' enter (binds := [("a", .ref l)]) [] T sub ?he .nil ?hB ?hf ?hcd ?hroom ?hbind ?hkind ?hh ?hcn ?hco ?hgen ?hk
  ((case he => exact fun _ h => absurd h List.not_mem_nil); (case hB => exact fun _ h => absurd h List.not_mem_nil))
  ((case hf => k_dflt k_is); (case hcd => k_dflt k_is); (case hroom => exact Room.lt (by assumption)); (case hbind => exact rfl); (case hkind => exact kindsX rfl); (case hcn => decide +kernel); (case hco => exact rfl); (case hgen => exact rfl); (case hk => exact rfl))
  intro L h₁ tk₁ hL S
  refine hideF S ?_
  intro hA8 hE8 hM8 hQ8 S
  refine wpAny_execs_cons (Assign_Tuple (Tuple_ (args_cons (Call_ ?_))))
  try (refine hideQ ?_; intro hQ9)
  walk_at "N"
  refine callF T (by k_dflt k_is) (args_cons ?_)
  walk_at "N"
  refine args_nil ⟨S.sub, ?_⟩
  refine copied_ok T S.sub ((R.deeper _).le (Nat.le_of_ble_eq_true rfl)) ⟨l, vs, c, rfl, hl, hp⟩ hD fun B₁ h₂ tk₂ D vs₁ X hnD hBD eD hp₁ => ?_
  first | (refine ob2_1 (eD) fun oD eD pD => ?_) | (refine ob1_2 (eD) fun oD eD pD => ?_) | (refine ob0_3 (eD) fun oD eD pD => ?_) | obtain ⟨oD, eD, pD⟩ := eD
  have S₂ := S.take X hnD hBD eD pD
  refine args_cons (List_ (args_nil ?_))
  refine mkLst S₂ fun h₃ P hnP S₃ => ?_
  refine args_nil (mkTup S₃ fun B₂ h₄ t le et S₄ => ?_)
  refine asgT R.quiet S₄ et rfl rfl fun h₅ S₅ => ?_
  refine assignInOrder_cons (wpAny_assign_Name ?_)
  walk_at "storeName"
  intro h₆ tk₆ S₆
  refine assignInOrder_cons (wpAny_assign_Name ?_)
  walk_at "storeName"
  intro h₇ tk₇ S₇
  refine assignInOrder_nil (wpAny_execs_cons (wpAny_For (Call_ ?_)))
  try (refine hideQ ?_; intro hQ9)
  walk_at "N"
  refine cType (args_cons (Subscript_ (Call_ ?_)))
  walk_at "N"
  have T₂ := T.le S₇.mono
  refine callF T (by k_dflt k_is) (args_cons ?_)
  walk_at "N"
  refine args_nil ⟨S₇.sub.of_le S₇.mono, ?_⟩
  refine shape_ok (P := RatV) T₂ S₇.sub ((R.deeper _).le (Nat.le_of_ble_eq_true rfl)) ⟨l, vs, c, rfl, S₇.mono _ _ hl, pMono RowV.mono S₇.mono hp⟩ hD fun B₃ h₈ tk₈ t₂ x y X₂ et₂ => ?_
  have S₈ := S₇.ext X₂
  refine cI fun _ tk₉ => itemT S₈ et₂ (by decide) (by decide) rfl (args_nil ?_)
  refine mkRange1 S₈ fun B₄ h₉ r t₃ u₃ v₃ tk₁₀ le₄ er S₉ => ?_
  refine iterR "column" R.quiet S₉ er (by decide) (by decide) (by exact om148) (by exact om149 hw hwi) fun h₁₀ I IT hN st S₁₀ => ?_
  have en : ((wd M : Int) - 0).toNat = wi := by exact om150 hw
  rw [en] at IT
  have T₁₁ := T.le S₁₀.mono
  have S₁₁ := S₁₀.forget (m' := mL [("found", .ref D), ("pivots", .ref P)]) (mL_known (by exact rfl))
  refine forLoop (fun i B m ps => ∃ vs pvs, m = mL [("found", .ref D), ("pivots", .ref P)] ∧ ps = [(P, LstP pvs), (D, LstP vs)] ∧ Paired (RowV B) (echTo M i).1 vs ∧ Paired (IntV B) (nats (echTo M i).2) pvs)
    (IT _) canC' hN (List.mem_cons_self ..) S₁₁ st ⟨vs₁, [], rfl, rfl, pMono RowV.mono (le.trans (X₂.le.trans le₄)) hp₁, .nil⟩ ?_ ?_
  · intro i B₅ m₁ m₂ ps₁ h₁₁ tk₁₁ E' hi le zz10 zz11 F
    try (first | (refine hideC F ?_; intro hE9 hO9 hQ9 F) | (refine hideQ ?_; intro hQ9))
    first | (refine ob2_4 (zz10) fun vs pvs zr252 zr253 hpf hpp => ?_; try clear zz10; subst zr252; subst zr253) | (refine ob1_5 (zz10) fun vs pvs zr254 zr255 hpf hpp => ?_; try clear zz10; subst zr254; subst zr255) | (refine ob0_6 (zz10) fun vs pvs zr256 zr257 hpf hpp => ?_; try clear zz10; subst zr256; subst zr257) | obtain ⟨vs, pvs, rfl, rfl, hpf, hpp⟩ := zz10
    first | (refine ob1_2 (zz11) fun _ zn258 zr260 => ?_; try clear zz11; refine ob1_1 zn258 fun tc zr259 => ?_; clear zn258; subst zr259; subst zr260) | (refine ob0_3 (zz11) fun _ zn261 zr263 => ?_; try clear zz11; refine ob1_1 zn261 fun tc zr262 => ?_; clear zn261; subst zr262; subst zr263) | obtain ⟨_, ⟨tc, rfl⟩, rfl⟩ := zz11
    try (refine hideM F ?_; intro hM9 F)
    have C := hC i (by exact om111 hi)
    have lp : pvs.length = (echTo M i).2.length := by rw [pLen hpp]; simp [nats]
    have es := echTo_succ M i
    have hpow := pow_le hk hi
    obtain ⟨CR, CB, CL, -⟩ := C
    generalize hst : echTo M i = st at *
    first | (refine ob1_1 (st) fun F₀ pv => ?_; try clear st) | (refine ob0_2 (st) fun F₀ pv => ?_; try clear st) | obtain ⟨F₀, pv⟩ := st
    have lv : vs.length = n := by rw [pLen hpf]; exact CR.1
    have lpi : pvs.length ≤ i := by rw [lp]; exact CL
    have hRF : Rect n wi F₀ := CR
    have hBF : Bnd (k * 5 ^ i) F₀ := CB
    have T₅ := T₁₁.le le
    refine wpAny_execs_cons (wpAny_Assign_Name (Call_ ?_))
    try (refine hideQ ?_; intro hQ9)
    walk_at "N"
    refine cBuilt (args_cons ?_)
    walk_at "N"
    refine args_nil (lenL (F.plain (List.mem_append_left _ (List.mem_cons_self ..))) (by exact om151 hwi hi lpi) fun t₁ tk₁₂ => ?_)
    walk_at "storeName"
    intro h₁₂ tk₁₃ F₁
    refine wpAny_execs_cons ?_
    try (refine hideQ ?_; intro hQ9)
    refine' comp_assign [("found", L + 1), ("column", L + 1 + 1)] ?hsw ?hcl ?hk ?hn ?hg ?hs
    ((case hk => rfl); (case hn => decide); (case hcl => rfl); (case hs => exact fun _ => rfl); (case hsw => rfl))
    refine Call_ ?_
    -- 1
    walk_at "N"
    -- 2
    refine cType (args_cons ?_)
    -- 3
    walk_at "N"
    -- 4
    refine args_cons (Call_ ?_)
    -- 5
    walk_at "N"
    refine cBuilt (args_cons ?_)
    -- 6
    walk_at "N"
    refine args_nil (lenL (F₁.plain (a := D) (vs := vs) (by first | exact List.mem_cons_self | exact List.mem_cons_of_mem _ List.mem_cons_self | simp)) (by exact om152 hn lv) fun t₂ tk₁₄ => args_nil ?_)
    refine mkRange2 F₁ fun B₆ h₁₃ r₂ ta tb tc' tk₁₅ le₆ er₂ F₂ => ?_
    refine iterR "at" R.quiet F₂ er₂ (by exact om148) (by exact om153 hwi hi lpi) (by exact om148) (by exact om154 hn lv) fun h₁₄ I₂ IT₂ hN₂ st₂ F₃ => ?_
    have F₃h := F₃.hide (List.mem_cons_self ..) hN₂.2 hN₂.1
    have plD := F₃h.plain (a := D) (vs := vs) (by first | exact List.mem_cons_self | exact List.mem_cons_of_mem _ List.mem_cons_self | simp)
    have T₆ := T₅.le le₆
    refine comp_pure (fun j B₁ ys => Paired (IntV B₁) (nats (spotTo F₀ i pvs.length j)) ys) (IT₂ _) hN₂ st₂ F₃ (List.mem_cons_self ..) .nil
      (fun _ _ _ l g => g) (fits (by exact om155 hn lv)) ["found", "column"] (by (repeat' (first | exact List.forall_mem_nil _ | refine List.forall_mem_cons.mpr ⟨⟨rfl, rfl, rfl⟩, ?_⟩))) (fun _ => rfl) (by decide +kernel) (fun C => canL (List.mem_cons_self ..)) ?_ ?_
    · intro C D' j B₇ m₂ ys h₁₅ tk₁₆ E₂ hj _ le₇ g zz13 G
      try (first | (refine hideC G ?_; intro hE9 hO9 hQ9 G) | (refine hideQ ?_; intro hQ9))
      first | (refine ob1_2 (zz13) fun _ zn264 zr266 => ?_; try clear zz13; refine ob1_1 zn264 fun tj zr265 => ?_; clear zn264; subst zr265; subst zr266) | (refine ob0_3 (zz13) fun _ zn267 zr269 => ?_; try clear zz13; refine ob1_1 zn267 fun tj zr268 => ?_; clear zn267; subst zr268; subst zr269) | obtain ⟨_, ⟨tj, rfl⟩, rfl⟩ := zz13
      try (refine hideM G ?_; intro hM9 G)
      refine tests_one (wpAny_isTrue_Compare1 (Subscript_ (Subscript_ ?_)))
      walk_at "N"
      walk_at "N"
      have hjn : pvs.length + j < n := by exact om156 lv hj
      obtain ⟨y, hy, lr, vr, cr, rfl, hlr, hpr⟩ := pGet hpf (get_getD [] (i := pvs.length + j) (by rw [hRF.1]; omega))
      have lrow := hRF.row hjn
      obtain ⟨z, hz, hzr⟩ := pGet hpr (get_getD 0 (i := i) (by rw [lrow]; omega))
      have plG : h₁₅.PlainList D vs.toArray := plD.at fun o e => G.keep D o (by first | exact List.mem_cons_self | exact List.mem_cons_of_mem _ List.mem_cons_self | simp) e
      refine itemL plG (by exact om157) (by exact om158 hn hjn) (by rw [show ((pvs.length : Int) + (j : Int)).toNat = pvs.length + j by exact om159]; exact hy) ?_
      walk_at "N"
      refine itemL (pln_of G.sub ((le₆.trans le₇) _ _ hlr)) (by exact om160) (by exact om161 hwi hi) (by rw [show (((0 : Int) + (i : Int))).toNat = i by exact om162]; exact hz) ?_
      walk_at "N"
      refine neR0 G (hzr.le (le₆.trans le₇)) ((R0_ok T₆).le G.mono) ((R.deeper _).le (Nat.le_of_ble_eq_true rfl)) (wpAny_truthy_bool ?_)
      have g' := g
      by_cases h0 : (F₀.getD (pvs.length + j) []).getD i 0 = 0
      · refine iteF (by simpa using h0) ?_
        refine exI4 B₇ _ h₁₅ _ ⟨rfl, .rfl, ?_, mc_upd rfl, G⟩
        show Paired _ (nats (spotTo F₀ i pvs.length (j + 1))) ys
        rw [spotTo_succ, if_neg (by simpa using h0), List.append_nil]; exact g
      · refine iteT (by simpa using h0) ?_
        walk_at "N"
        refine exI4 B₇ _ h₁₅ _ ⟨rfl, .rfl, ?_, mc_upd rfl, G⟩
        show Paired _ (nats (spotTo F₀ i pvs.length (j + 1))) (ys ++ [_])
        rw [spotTo_succ, if_pos h0, nats_append]
        exact pAppend g (.cons ⟨tj, by simp⟩ .nil)
    · intro C D' B₇ c₂ ys h₁₅ tk₁₆ hC' le₇ g hys eD' G
      refine comp_some' "spots" G (List.mem_cons_self ..) (fun x c hc q => hC'.2 x c hc (List.mem_singleton.mpr q)) (hC'.1 _ (List.mem_singleton.mpr rfl)) (canL (List.mem_cons_self ..)) fun h₁₆ tk₁₇ G₁ => ?_
      have espot : spotTo F₀ i pvs.length (vs.length - pvs.length) = spot F₀ i pvs.length := by rw [spotTo, spot, lv, hRF.1]
      have g : Paired (IntV B₇) (nats (spot F₀ i pvs.length)) ys := by
        rw [← espot, show vs.length - pvs.length = ((vs.length : Int) - (pvs.length : Int)).toNat by exact om163]; exact g
      have T₇ := T.le G₁.mono
      have le₆₇ := le₆.trans le₇
      refine wpAny_execs_cons (wpAny_If (wpAny_isTrue_Compare1 (Call_ ?_)))
      try (refine hideQ ?_; intro hQ9)
      walk_at "N"
      refine cBuilt (args_cons ?_)
      walk_at "N"
      refine args_nil (lenL (pln_of G₁.sub eD') (by exact om164 hn lv hys) fun t₅ tk₁₈ => cI fun _ tk₁₉ => PyProof.Rows.eq_int (wpAny_truthy_bool ?_))
      cases hs : (spot F₀ i pvs.length).head? with
      | none =>
        have e0 : spot F₀ i pvs.length = [] := List.head?_eq_none_iff.mp hs
        rw [e0] at g
        cases g
        refine iteT (by rfl) ?_
        refine wpAny_execs_cons (wpAny_Continue ?_)
        try (refine hideQ ?_; intro hQ9)
        have e1 : echTo M (i + 1) = (F₀, pv) := by rw [es, echStep, ← lp, hs]
        refine exI5 B₇ _ _ h₁₆ _ ⟨rfl, le₆₇, ⟨vs, pvs, rfl, rfl, ?_, ?_⟩, G₁.forget (mL_known (by exact rfl))⟩
        · rw [e1]; exact pMono RowV.mono le₆₇ hpf
        · rw [e1]; exact hpp
      | some p =>
        first | (refine ob2_1 (spot_mem hs) fun hp1 hp2 hp3 => ?_) | (refine ob1_2 (spot_mem hs) fun hp1 hp2 hp3 => ?_) | (refine ob0_3 (spot_mem hs) fun hp1 hp2 hp3 => ?_) | obtain ⟨hp1, hp2, hp3⟩ := spot_mem hs
        rw [hRF.1] at hp2
        have hr : pvs.length < n := by exact om53 hp1 hp2
        have hp0 : (nats (spot F₀ i pvs.length))[0]? = some (p : Int) := by rw [nats, List.getElem?_map, ← List.head?_eq_getElem?, hs]; rfl
        first | (refine ob1_2 (pGet g hp0) fun y0 hy0 zq => ?_; refine ob1_1 zq fun t0 zr => ?_; clear zq; subst zr) | (refine ob3_1 (pGet g hp0) fun y0 hy0 t0 zr237 => ?_; subst zr237) | (refine ob2_2 (pGet g hp0) fun y0 hy0 t0 zr238 => ?_; subst zr238) | (refine ob1_3 (pGet g hp0) fun y0 hy0 t0 zr239 => ?_; subst zr239) | (refine ob0_4 (pGet g hp0) fun y0 hy0 t0 zr240 => ?_; subst zr240) | obtain ⟨y0, hy0, t0, rfl⟩ := pGet g hp0
        have l0 : 0 < ys.length := (List.getElem?_eq_some_iff.mp hy0).1
        refine iteF (by rw [beq_iff_eq]; omega) ?_
        refine wpAny_execs_nil (wpAny_execs_cons (wpAny_Expr (Call_ ?_)))
        try (refine hideQ ?_; intro hQ9)
        walk_at "N"
        refine callF T₇ (by k_dflt k_is) (args_cons ?_)
        walk_at "N"
        refine args_cons ?_
        walk_at "N"
        refine args_cons (Subscript_ ?_)
        walk_at "N"
        refine cI fun _ tk₂₀ => itemL (pln_of G₁.sub eD') (by decide) (by decide) hy0 (args_nil ⟨G₁.sub, ?_⟩)
        have hpf7 := pMono RowV.mono le₆₇ hpf
        obtain ⟨yi, hyi, hyr⟩ := pGet hpf7 (get_getD [] (i := pvs.length) (by rw [hRF.1]; omega))
        obtain ⟨yp, hyp, hypr⟩ := pGet hpf7 (get_getD [] (i := p) (by rw [hRF.1]; omega))
        refine swap_rows_ok (i := pvs.length) (j := p) T₇ G₁.sub ((R.deeper _).le (Nat.le_of_ble_eq_true rfl)) (G₁.ents (D, LstP vs) (by first | exact List.mem_cons_self | exact List.mem_cons_of_mem _ List.mem_cons_self | simp)) (G₁.apart D (by first | exact List.mem_cons_self | exact List.mem_cons_of_mem _ List.mem_cons_self | simp)) hyi hyp (by exact om165 hn lv) fun B₈ h₁₇ tk₂₁ X₃ e₃ => ?_
        have G₂ := G₁.extW1 [(P, LstP pvs)] (ps₂ := Hold h₁₁ [I]) X₃ e₃
        have hpf1 : Paired (RowV B₈) (swp pvs.length p F₀) ((vs.set pvs.length yp).set p yi) := pMono RowV.mono X₃.le (pSet _ (pSet _ hpf7 hypr) hyr)
        obtain ⟨vs1, hvs1⟩ : ∃ vs1, vs1 = (vs.set pvs.length yp).set p yi := ⟨_, rfl⟩
        have lv1 : vs1.length = n := by rw [hvs1, List.length_set, List.length_set]; exact lv
        rw [← hvs1] at G₂ hpf1
        have R1 := hRF.swp hr hp2
        have BF1 := hBF.swp (i := pvs.length) (j := p) (by rw [hRF.1]; exact hr) (by rw [hRF.1]; exact hp2)
        have hld : ((swp pvs.length p F₀).getD pvs.length []).getD i 0 ≠ 0 := by rw [swp_row hRF hr hp2]; exact hp3
        have hBs := scaled_bnd R1 hr hi BF1 hld
        have hsr := scale_row (c := i) R1 hr
        have R2 := R1.scale (c := i) hr
        have est : echTo M (i + 1) = (elim pvs.length i (scale pvs.length i (swp pvs.length p F₀)), pv ++ [i]) := by rw [es, echStep, ← lp, hs]
        generalize swp pvs.length p F₀ = F1 at *
        have lrow1 := R1.row hr
        have brow1 := BF1 _ (getD_mem (d := ([] : List Rat)) (show pvs.length < F1.length by rw [R1.1]; exact hr))
        obtain ⟨y1, hy1, lr1, vr1, cr1, rfl, hlr1, hpr1⟩ := pGet hpf1 (get_getD [] (i := pvs.length) (by rw [R1.1]; omega))
        generalize hr1 : F1.getD pvs.length [] = r1 at *
        obtain ⟨z1, hz1, hz1r⟩ := pGet hpr1 (get_getD 0 (i := i) (by rw [lrow1]; omega))
        have bld := brow1 _ (getD_mem (d := (0 : Rat)) (show i < r1.length by rw [lrow1]; exact hi))
        generalize hld1 : r1.getD i 0 = ld at *
        refine wpAny_execs_cons (wpAny_Assign_Name (Subscript_ (Subscript_ ?_)))
        try (refine hideQ ?_; intro hQ9)
        walk_at "N"
        walk_at "N"
        refine itemL (G₂.plain (a := D) (vs := vs1) (by first | exact List.mem_cons_self | exact List.mem_cons_of_mem _ List.mem_cons_self | simp)) (by exact om23) (by exact om166 hwi hi lpi) (by rw [Int.toNat_natCast]; exact hy1) ?_
        walk_at "N"
        refine itemL (pln_of G₂.sub hlr1) (by exact om160) (by exact om161 hwi hi) (by rw [show (((0 : Int) + (i : Int))).toNat = i by exact om162]; exact hz1) ?_
        walk_at "storeName"
        intro h₁₈ tk₂₂ G₃
        refine wpAny_execs_cons (wpAny_Assign_Subscript ?_)
        try (refine hideQ ?_; intro hQ9)
        refine' comp_start [("lead", L + 1 + 1 + 1)] ?hcl2 ?hk2 ?hn2 ?hg2 ?hs2
        case hcl2 => rfl
        case hk2 => rfl
        case hn2 => decide
        case hs2 => exact fun _ => rfl
        refine Subscript_ ?_
        walk_at "N"
        walk_at "N"
        refine itemL (G₃.plain (a := D) (vs := vs1) (by first | exact List.mem_cons_self | exact List.mem_cons_of_mem _ List.mem_cons_self | simp)) (by exact om23) (by exact om166 hwi hi lpi) (by rw [Int.toNat_natCast]; exact hy1) ?_
        refine iterL "one" R.quiet G₃ hlr1 fun h₁₉ I₃ IT₃ hN₃ st₃ G₄ => ?_
        have lvr1 := pLen hpr1
        have T₈ := T.le G₃.mono
        refine comp_pure (fun j B₁ ys => Paired (RatV B₁) ((r1.map fun x => x / ld).take j) ys) (IT₃ _) hN₃ st₃ G₄ (List.mem_cons_self ..) .nil
          (fun _ _ _ l g => pMono RatV.mono l g) (fits (by exact om167 hwi lrow1 lvr1)) ["lead"] (by (repeat' (first | exact List.forall_mem_nil _ | refine List.forall_mem_cons.mpr ⟨⟨rfl, rfl, rfl⟩, ?_⟩))) (fun _ => rfl) (by decide +kernel) (fun C => canL (List.mem_cons_self ..)) ?_ ?_
        · intro C D' j B₉ m₃ zs h₂₀ tk₂₃ E₃ hj _ le₉ g zz13 K
          try (first | (refine hideC K ?_; intro hE9 hO9 hQ9 K) | (refine hideQ ?_; intro hQ9))
          first | (refine ob2_1 (zz13) fun o ho zr270 => ?_; try clear zz13; subst zr270) | (refine ob1_2 (zz13) fun o ho zr271 => ?_; try clear zz13; subst zr271) | (refine ob0_3 (zz13) fun o ho zr272 => ?_; try clear zz13; subst zr272) | obtain ⟨o, ho, rfl⟩ := zz13
          try (refine hideM K ?_; intro hM9 K)
          refine tests_nil ?_
          refine iteT rfl ?_
          first | (refine ob2_1 (pGet' hpr1 ho) fun x hx ox => ?_) | (refine ob1_2 (pGet' hpr1 ho) fun x hx ox => ?_) | (refine ob0_3 (pGet' hpr1 ho) fun x hx ox => ?_) | obtain ⟨x, hx, ox⟩ := pGet' hpr1 ho
          refine Call_ ?_
          walk_at "N"
          refine callF T₈ (by k_dflt k_is) (args_cons ?_)
          walk_at "N"
          refine args_cons ?_
          walk_at "N"
          refine args_nil ⟨K.sub.of_le K.mono, ?_⟩
          refine rdiv_ok (T₈.le K.mono) K.sub ((R.deeper _).le (Nat.le_of_ble_eq_true rfl)) (ox.le le₉) (hz1r.le le₉) (brow1 _ (List.mem_of_getElem? hx)) bld (by exact om168 hpow) hld fun B₁₀ h₂₁ tk₂₄ v₂ X₄ hv₂ => ?_
          refine exI4 B₁₀ _ h₂₁ _ ⟨rfl, X₄.le, pSnocTake (pMono RatV.mono X₄.le g) (by rw [List.getElem?_map, hx]; rfl) hv₂, mc_upd rfl, K.ext X₄⟩
        · intro C D' B₉ c₃ zs h₂₀ tk₂₃ hC3 le₉ g _ eD3 K
          refine comp_none K (List.mem_cons_self ..) (fun x c hc q => hC3.2 x c hc (List.mem_singleton.mpr q)) (hC3.1 _ (List.mem_singleton.mpr rfl)) fun h₂₁ K₁ => ?_
          walk_at "N"
          walk_at "N"
          refine setP [(P, LstP pvs)] (ps₂ := Hold h₁₁ [I]) K₁ (by exact om23) (by exact om166 hwi hi lpi) (by rw [Int.toNat_natCast, lv1]; exact hr) fun h₂₂ K₂ => ?_
          rw [Int.toNat_natCast] at K₂
          have hpf2 : Paired (RowV B₉) (scale pvs.length i F1) (vs1.set pvs.length (.ref D')) := by
            rw [scale, hr1, hld1]
            exact pSet _ (pMono RowV.mono le₉ hpf1) (LVm (eD3) (pWhole g (by rw [List.length_map]; exact lvr1)))
          obtain ⟨vs2, hvs2⟩ : ∃ vs2, vs2 = vs1.set pvs.length (.ref D') := ⟨_, rfl⟩
          have lv2 : vs2.length = n := by rw [hvs2, List.length_set]; exact lv1
          rw [← hvs2] at K₂ hpf2
          clear hvs2
          have hR2' := R2
          generalize hF2 : scale pvs.length i F1 = F2 at *
          refine wpAny_execs_cons (wpAny_For (Call_ ?_))
          try (refine hideQ ?_; intro hQ9)
          walk_at "N"
          refine cType (args_cons (Call_ ?_))
          walk_at "N"
          refine cBuilt (args_cons ?_)
          walk_at "N"
          refine args_nil (lenL (K₂.plain (a := D) (vs := vs2) (by first | exact List.mem_cons_self | exact List.mem_cons_of_mem _ List.mem_cons_self | simp)) (by exact om152 hn lv2) fun t₆ tk₂₄ => args_nil ?_)
          refine mkRange1 K₂ fun B₁₀ h₂₃ r₃ ta3 tb3 tc3 tk₂₅ le₁₀ er₃ K₃ => ?_
          refine iterR "other" R.quiet K₃ er₃ (by decide) (by decide) (by exact om148) (by exact om154 hn lv2) fun h₂₄ I₄ IT₄ hN₄ st₄ K₄ => ?_
          have K₅ := K₄.forget (m' := mL [("found", .ref D), ("pivots", .ref P), ("row", .int pvs.length t₁), ("column", .int (0 + i) tc)]) (mL_known (by exact rfl))
          refine forLoop (fun j B m ps => ∃ ws, m = mL [("found", .ref D), ("pivots", .ref P), ("row", .int pvs.length t₁), ("column", .int (0 + i) tc)] ∧ ps = [(P, LstP pvs)] ++ (D, LstP ws) :: Hold h₁₁ [I] ∧ Paired (RowV B) (elimTo j pvs.length i F2) ws)
            (IT₄ _) (canL (List.mem_cons_self ..)) hN₄ (List.mem_cons_self ..) K₅ st₄ ⟨vs2, rfl, rfl, by rw [elimTo_zero]; exact pMono RowV.mono le₁₀ hpf2⟩ ?_ ?_
          · intro j B₁₁ m₁ m₂ ps₁ h₂₅ tk₂₆ E₄ hj le₁₁ zz10 zz11 N
            try (first | (refine hideC N ?_; intro hE9 hO9 hQ9 N) | (refine hideQ ?_; intro hQ9))
            first | (refine ob1_3 (zz10) fun ws zr273 zr274 hws => ?_; try clear zz10; subst zr273; subst zr274) | (refine ob0_4 (zz10) fun ws zr275 zr276 hws => ?_; try clear zz10; subst zr275; subst zr276) | obtain ⟨ws, rfl, rfl, hws⟩ := zz10
            first | (refine ob1_2 (zz11) fun _ zn277 zr279 => ?_; try clear zz11; refine ob1_1 zn277 fun tj zr278 => ?_; clear zn277; subst zr278; subst zr279) | (refine ob0_3 (zz11) fun _ zn280 zr282 => ?_; try clear zz11; refine ob1_1 zn280 fun tj zr281 => ?_; clear zn280; subst zr281; subst zr282) | obtain ⟨_, ⟨tj, rfl⟩, rfl⟩ := zz11
            try (refine hideM N ?_; intro hM9 N)
            have hjn : j < n := by exact om169 lv2 hj
            have T₁₁ := T.le N.mono
            have lw : ws.length = n := by rw [pLen hws, elimTo_len]; exact R2.1
            have RE := R2.elimTo (n := j) (c := i) hr
            have ej := elimTo_same j pvs.length i F2
            have er := elimTo_row j pvs.length i F2
            have hlt : j < (elimTo j pvs.length i F2).length := by rw [RE.1]; exact hjn
            have hlr : pvs.length < (elimTo j pvs.length i F2).length := by rw [RE.1]; exact hr
            refine wpAny_execs_cons (wpAny_If (isTrue_and (wpAny_isTrue_Compare1 ?_)))
            try (refine hideQ ?_; intro hQ9)
            walk_at "N"
            walk_at "N"
            refine PyProof.Rows.ne_int (wpAny_truthy_bool ?_)
            by_cases hjr : j = pvs.length
            · refine iteF (by simp [hjr]) ?_
              refine iteF (by first | exact List.mem_cons_self | exact List.mem_cons_of_mem _ List.mem_cons_self | simp) ?_
              refine wpAny_execs_nil (wpAny_execs_nil ?_)
              exact exI5 B₁₁ _ _ h₂₅ _ ⟨rfl, .rfl, ⟨ws, rfl, rfl, by rw [elimTo_skip R2 hr (.inl hjr)]; exact hws⟩, N.forget (mL_known (by exact rfl))⟩
            refine iteT (by rw [bne_iff_ne]; omega) ?_
            first | (refine ob1_2 (pGet hws (get_getD [] hlt)) fun y hy zq => ?_; refine ob3_3 zq fun lr vr cr zr hlr' hpr => ?_; clear zq; subst zr) | (refine ob5_3 (pGet hws (get_getD [] hlt)) fun y hy lr vr cr zr241 hlr' hpr => ?_; subst zr241) | (refine ob4_4 (pGet hws (get_getD [] hlt)) fun y hy lr vr cr zr242 hlr' hpr => ?_; subst zr242) | (refine ob3_5 (pGet hws (get_getD [] hlt)) fun y hy lr vr cr zr243 hlr' hpr => ?_; subst zr243) | (refine ob2_6 (pGet hws (get_getD [] hlt)) fun y hy lr vr cr zr244 hlr' hpr => ?_; subst zr244) | (refine ob1_7 (pGet hws (get_getD [] hlt)) fun y hy lr vr cr zr245 hlr' hpr => ?_; subst zr245) | obtain ⟨y, hy, lr, vr, cr, rfl, hlr', hpr⟩ := pGet hws (get_getD [] hlt)
            rw [ej] at hpr
            have lrow := R2.row hjn
            obtain ⟨z, hz, hzr⟩ := pGet hpr (get_getD 0 (i := i) (by rw [lrow]; omega))
            refine isTrue_and (wpAny_isTrue_Compare1 (Subscript_ (Subscript_ ?_)))
            walk_at "N"
            walk_at "N"
            refine itemL (N.plain (a := D) (vs := ws) (by first | exact List.mem_cons_self | exact List.mem_cons_of_mem _ List.mem_cons_self | simp)) (by exact om160) (by exact om161 hn hjn) (by rw [show ((0 : Int) + (j : Int)).toNat = j by exact om162]; exact hy) ?_
            walk_at "N"
            refine itemL (pln_of N.sub hlr') (by exact om160) (by exact om161 hwi hi) (by rw [show (((0 : Int) + (i : Int))).toNat = i by exact om162]; exact hz) ?_
            walk_at "N"
            refine neR0 N hzr (R0_ok T₁₁) ((R.deeper _).le (Nat.le_of_ble_eq_true rfl)) (wpAny_truthy_bool ?_)
            by_cases h0 : (F2.getD j []).getD i 0 = 0
            · refine iteF (by simpa using h0) ?_
              refine iteF (by first | exact List.mem_cons_self | exact List.mem_cons_of_mem _ List.mem_cons_self | simp) ?_
              refine wpAny_execs_nil (wpAny_execs_nil ?_)
              exact exI5 B₁₁ _ _ h₂₅ _ ⟨rfl, .rfl, ⟨ws, rfl, rfl, by rw [elimTo_skip R2 hr (.inr h0)]; exact hws⟩, N.forget (mL_known (by exact rfl))⟩
            refine iteT (by simpa using h0) ?_
            refine isTrue_and_nil ?_
            refine iteT rfl ?_
            refine wpAny_execs_cons (wpAny_Expr (Call_ ?_))
            try (refine hideQ ?_; intro hQ9)
            walk_at "N"
            refine callF T₁₁ (by k_dflt k_is) (args_cons ?_)
            walk_at "N"
            refine args_cons ?_
            walk_at "N"
            refine args_cons ?_
            walk_at "N"
            refine args_cons (Subscript_ (Subscript_ ?_))
            walk_at "N"
            walk_at "N"
            refine itemL (N.plain (a := D) (vs := ws) (by first | exact List.mem_cons_self | exact List.mem_cons_of_mem _ List.mem_cons_self | simp)) (by exact om160) (by exact om161 hn hjn) (by rw [show ((0 : Int) + (j : Int)).toNat = j by exact om162]; exact hy) ?_
            walk_at "N"
            refine itemL (pln_of N.sub hlr') (by exact om160) (by exact om161 hwi hi) (by rw [show (((0 : Int) + (i : Int))).toNat = i by exact om162]; exact hz) (args_nil ⟨N.sub, ?_⟩)
            have eF2 : F2[j]? = some (F2.getD j []) := get_getD [] (by rw [R2.1]; exact hjn)
            have hbr := hBs.1 j _ eF2 hjr
            rw [Int.zero_add]
            refine take_off_ok (i := j) (j := pvs.length) T₁₁ N.sub ((R.deeper _).le (Nat.le_of_ble_eq_true rfl)) (N.ents (D, LstP ws) (by first | exact List.mem_cons_self | exact List.mem_cons_of_mem _ List.mem_cons_self | simp)) (N.apart D (by first | exact List.mem_cons_self | exact List.mem_cons_of_mem _ List.mem_cons_self | simp)) hws ⟨by rw [RE.1]; exact om147 hn, fun r hr => by rw [RE.2 r hr]; exact om147 hwi⟩
              (by rw [get_getD [] hlt, ej]) (by rw [get_getD [] hlr, er]) (by rw [lrow, R2.row hr]) hzr hbr hBs.2 (hbr _ (getD_mem (by rw [lrow]; exact hi))) (by exact om170 hpow) fun B₁₂ h₂₆ tk₂₇ y2 X₅ e₅ hy2 => ?_
            have N₁ := N.extW1 [(P, LstP pvs)] (ps₂ := Hold h₁₁ [I] ++ Hold h₂₅ [I₄]) X₅ e₅
            refine wpAny_execs_nil (wpAny_execs_nil ?_)
            refine exI5 B₁₂ _ ([(P, LstP pvs)] ++ (D, LstP (ws.set j y2)) :: Hold h₁₁ [I]) h₂₆ _ ⟨rfl, X₅.le, ⟨_, rfl, rfl, ?_⟩, N₁.forget (mL_known (by exact rfl))⟩
            rw [elimTo_succ hjr]
            exact pSet _ (pMono RowV.mono X₅.le hws) hy2
          · intro B₁₁ m₁ ps₁ h₂₅ tk₂₆ le₁₁ zz6 N
            try (first | (refine hideC N ?_; intro hE9 hO9 hQ9 N) | (refine hideQ ?_; intro hQ9))
            first | (refine ob1_3 (zz6) fun ws zr283 zr284 hws => ?_; try clear zz6; subst zr283; subst zr284) | (refine ob0_4 (zz6) fun ws zr285 zr286 hws => ?_; try clear zz6; subst zr285; subst zr286) | obtain ⟨ws, rfl, rfl, hws⟩ := zz6
            try (refine hideM N ?_; intro hM9 N)
            refine wpAny_execs_cons (wpAny_Expr (MethodCall_ ?_))
            try (refine hideQ ?_; intro hQ9)
            walk_at "N"
            refine getApp (N.plain (a := P) (vs := pvs) (by first | exact List.mem_cons_self | exact List.mem_cons_of_mem _ List.mem_cons_self | simp)) (callWith_method1 (args_cons ?_))
            walk_at "N"
            refine args_nil (appP [] (ps₂ := (D, LstP ws) :: Hold h₁₁ [I]) N (fits (by exact om171 hwi hi lpi)) fun h₂₆ N₁ => wpAny_execs_nil ?_)
            have leE := le₆₇.trans (X₃.le.trans (le₉.trans (le₁₀.trans le₁₁)))
            refine exI5 B₁₁ _ ([(P, _), (D, _)]) h₂₆ _ ⟨rfl, leE, ⟨ws, _, rfl, rfl, ?_, ?_⟩, N₁.forget (mL_known (by exact rfl))⟩
            · rw [est]
              have en2 : ((vs2.length : Int) - 0).toNat = n := by exact om150 lv2
              rw [en2] at hws
              rw [elim, R2.1]; exact hws
            · rw [est]
              show Paired _ (nats (pv ++ [i])) _
              rw [nats_append]
              exact pAppend hpp (.cons ⟨tc, by simp⟩ .nil)
  · intro B₅ m₁ ps₁ h₁₁ tk₁₁ le zz6 F
    try (first | (refine hideC F ?_; intro hE9 hO9 hQ9 F) | (refine hideQ ?_; intro hQ9))
    first | (refine ob2_4 (zz6) fun vs pvs zr287 zr288 hpf hpp => ?_; try clear zz6; subst zr287; subst zr288) | (refine ob1_5 (zz6) fun vs pvs zr289 zr290 hpf hpp => ?_; try clear zz6; subst zr289; subst zr290) | (refine ob0_6 (zz6) fun vs pvs zr291 zr292 hpf hpp => ?_; try clear zz6; subst zr291; subst zr292) | obtain ⟨vs, pvs, rfl, rfl, hpf, hpp⟩ := zz6
    try (refine hideM F ?_; intro hM9 F)
    refine wpAny_execs_cons (wpAny_Return_some (Tuple_ (args_cons ?_)))
    try (refine hideQ ?_; intro hQ9)
    walk_at "N"
    refine args_cons ?_
    walk_at "N"
    refine args_nil (mkTup F fun B₆ h₁₂ t' le₂ et₂ F₂ => ?_)
    first | (refine ob2_2 (F₂.freeze (by first | exact List.mem_cons_self | exact List.mem_cons_of_mem _ List.mem_cons_self | simp)) fun B₇ le₃ zn246 F₃ => ?_; obtain ⟨oP, eP, cP, rfl⟩ := zn246) | (refine ob1_3 (F₂.freeze (by first | exact List.mem_cons_self | exact List.mem_cons_of_mem _ List.mem_cons_self | simp)) fun B₇ le₃ zn247 F₃ => ?_; obtain ⟨oP, eP, cP, rfl⟩ := zn247) | (refine ob0_4 (F₂.freeze (by first | exact List.mem_cons_self | exact List.mem_cons_of_mem _ List.mem_cons_self | simp)) fun B₇ le₃ zn248 F₃ => ?_; obtain ⟨oP, eP, cP, rfl⟩ := zn248) | obtain ⟨B₇, le₃, ⟨oP, eP, cP, rfl⟩, F₃⟩ := F₂.freeze (by first | exact List.mem_cons_self | exact List.mem_cons_of_mem _ List.mem_cons_self | simp)
    first | (refine ob2_2 (F₃.freeze (by first | exact List.mem_cons_self | exact List.mem_cons_of_mem _ List.mem_cons_self | simp)) fun B₈ le₄ zn249 F₄ => ?_; obtain ⟨oD', eD', cD, rfl⟩ := zn249) | (refine ob1_3 (F₃.freeze (by first | exact List.mem_cons_self | exact List.mem_cons_of_mem _ List.mem_cons_self | simp)) fun B₈ le₄ zn250 F₄ => ?_; obtain ⟨oD', eD', cD, rfl⟩ := zn250) | (refine ob0_4 (F₃.freeze (by first | exact List.mem_cons_self | exact List.mem_cons_of_mem _ List.mem_cons_self | simp)) fun B₈ le₄ zn251 F₄ => ?_; obtain ⟨oD', eD', cD, rfl⟩ := zn251) | obtain ⟨B₈, le₄, ⟨oD', eD', cD, rfl⟩, F₄⟩ := F₃.freeze (by first | exact List.mem_cons_self | exact List.mem_cons_of_mem _ List.mem_cons_self | simp)
    have e : ech M = echTo M wi := by rw [ech, hw]
    refine hq B₈ h₁₂ _ t' _ _ F₄.toExt (le₄ _ _ (le₃ _ _ et₂)) (LVm (eD') (?_)) (LVm (le₄ _ _ eP) (?_))
    · rw [e]; exact pMono RowV.mono (le₂.trans (le₃.trans le₄)) hpf
    · rw [e]; exact hpp
end
section
variable {prog : Program} {w : World} {A : Around} {E : Value → Shared → Prop} {s : Shared} {h : Heap} {tk : Nat} {B : Base} {Q : Value → Shared → Prop}

set_option maxHeartbeats 4000000 in
theorem rank_ok (T : Tp (Mine.hd.heap_39 w.params) B) (sub : B.In h) (R : Room 6 A) {M : List (List Rat)} {v : Value} {k n wi : Nat} (hv : MatV B M v) (hR : Rect n wi M) (hw : wd M = wi) (hn : n ≤ 100) (hwi : wi ≤ 100)
    (hb : Bnd k M) (hk0 : 0 < k) (hk : k * 5 ^ wi ≤ 9000)
    (hq : ∀ B' h' tk' t, Ext B h B' h' → Q (.int (ech M).2.length t) (mk s h' tk')) :
    wpAny (model prog w) A (call (.ref 126) [v]) Q E (mk s h tk) := by
  have hC := cols hR hb hk0
  have hl := (hC wi (Nat.le_refl _)).len
  refine' enter (binds := [("a", v)]) [] T sub ?he .nil ?hB ?hf ?hcd ?hroom ?hbind ?hkind ?hh ?hcn ?hco ?hgen ?hk
  ((case he => exact fun _ h => absurd h List.not_mem_nil); (case hB => exact fun _ h => absurd h List.not_mem_nil))
  ((case hf => k_dflt k_is); (case hcd => k_dflt k_is); (case hroom => exact Room.lt (by assumption)); (case hbind => exact rfl); (case hkind => exact kindsX rfl); (case hcn => decide +kernel); (case hco => exact rfl); (case hgen => exact rfl); (case hk => exact rfl))
  intro L h₁ tk₁ hL S
  refine hideF S ?_
  intro hA8 hE8 hM8 hQ8 S
  refine wpAny_execs_cons (wpAny_Return_some (Call_ ?_))
  try (refine hideQ ?_; intro hQ9)
  walk_at "N"
  refine cBuilt (args_cons (Subscript_ (Call_ ?_)))
  walk_at "N"
  refine callF T (by k_dflt k_is) (args_cons ?_)
  walk_at "N"
  refine args_nil ⟨S.sub, ?_⟩
  refine echelon_ok T S.sub ((R.deeper _).le (Nat.le_of_ble_eq_true rfl)) hv hR hw hn hwi hb hk0 hk fun B₁ h₂ tk₂ t f p X et hf hp => ?_
  have S₁ := S.ext X
  first | (refine ob3_3 (hp) fun lp pvs c zr293 hlp hpp => ?_; try clear hp; subst zr293) | (refine ob2_4 (hp) fun lp pvs c zr294 hlp hpp => ?_; try clear hp; subst zr294) | (refine ob1_5 (hp) fun lp pvs c zr295 hlp hpp => ?_; try clear hp; subst zr295) | (refine ob0_6 (hp) fun lp pvs c zr296 hlp hpp => ?_; try clear hp; subst zr296) | obtain ⟨lp, pvs, c, rfl, hlp, hpp⟩ := hp
  refine cI fun _ tk₃ => itemT S₁ et (by decide) (by decide) rfl (args_nil ?_)
  have e : pvs.length = (ech M).2.length := by rw [pLen hpp]; simp [nats]
  have hl : (ech M).2.length ≤ wi := by rw [ech, hw]; exact hl
  refine lenL (pln_of S₁.sub hlp) (by exact om172 hwi e hl) fun t₁ tk₄ => ?_
  rw [e]
  exact hq _ _ _ _ S₁.toExt

set_option maxHeartbeats 4000000 in
theorem null_base_ok (T : Tp (Mine.hd.heap_39 w.params) B) (sub : B.In h) (R : Room 6 A) {M : List (List Rat)} {v : Value} {k n wi : Nat} (hv : MatV B M v) (hR : Rect n wi M) (hw : wd M = wi) (hn : n ≤ 100) (hwi : wi ≤ 100)
    (hb : Bnd k M) (hk0 : 0 < k) (hk : k * 5 ^ wi ≤ 9000)
    (hq : ∀ B' h' tk' v', Ext B h B' h' → MatV B' (nullBase M) v' → Q v' (mk s h' tk')) :
    wpAny (model prog w) A (call (.ref 133) [v]) Q E (mk s h tk) := by
  have hD : Dims M := ⟨by rw [hR.1]; exact om147 hn, fun r hr => by rw [hR.2 r hr]; exact om147 hwi⟩
  have hC := cols hR hb hk0
  have hlen := echTo_lenle hC wi (Nat.le_refl _)
  have hlt := (hC wi (Nat.le_refl _)).lt
  have hEr := (hC wi (Nat.le_refl _)).rect
  have ee : ech M = echTo M wi := by rw [ech, hw]
  have enb : nullBase M = nullBaseTo (ech M).1 (ech M).2 wi wi := by rw [nullBase, hw]
  rw [← ee] at hlen hlt hEr
  refine' enter (binds := [("a", v)]) [] T sub ?he .nil ?hB ?hf ?hcd ?hroom ?hbind ?hkind ?hh ?hcn ?hco ?hgen ?hk
  ((case he => exact fun _ h => absurd h List.not_mem_nil); (case hB => exact fun _ h => absurd h List.not_mem_nil))
  ((case hf => k_dflt k_is); (case hcd => k_dflt k_is); (case hroom => exact Room.lt (by assumption)); (case hbind => exact rfl); (case hkind => exact kindsX rfl); (case hcn => decide +kernel); (case hco => exact rfl); (case hgen => exact rfl); (case hk => exact rfl))
  intro L h₁ tk₁ hL S
  refine hideF S ?_
  intro hA8 hE8 hM8 hQ8 S
  refine wpAny_execs_cons (Assign_Tuple (Call_ ?_))
  try (refine hideQ ?_; intro hQ9)
  walk_at "N"
  refine callF T (by k_dflt k_is) (args_cons ?_)
  walk_at "N"
  refine args_nil ⟨S.sub, ?_⟩
  refine echelon_ok T S.sub ((R.deeper _).le (Nat.le_of_ble_eq_true rfl)) hv hR hw hn hwi hb hk0 hk fun B₁ h₂ tk₂ t f p X et hf hp => ?_
  generalize ech M = EE at *
  first | (refine ob1_1 (EE) fun EM pv => ?_; try clear EE) | (refine ob0_2 (EE) fun EM pv => ?_; try clear EE) | obtain ⟨EM, pv⟩ := EE
  have S₁ := S.ext X
  first | (refine ob3_3 (hf) fun lf fvs cf zr297 hlf hpf => ?_; try clear hf; subst zr297) | (refine ob2_4 (hf) fun lf fvs cf zr298 hlf hpf => ?_; try clear hf; subst zr298) | (refine ob1_5 (hf) fun lf fvs cf zr299 hlf hpf => ?_; try clear hf; subst zr299) | (refine ob0_6 (hf) fun lf fvs cf zr300 hlf hpf => ?_; try clear hf; subst zr300) | obtain ⟨lf, fvs, cf, rfl, hlf, hpf⟩ := hf
  first | (refine ob3_3 (hp) fun lp pvs cp zr301 hlp hpp => ?_; try clear hp; subst zr301) | (refine ob2_4 (hp) fun lp pvs cp zr302 hlp hpp => ?_; try clear hp; subst zr302) | (refine ob1_5 (hp) fun lp pvs cp zr303 hlp hpp => ?_; try clear hp; subst zr303) | (refine ob0_6 (hp) fun lp pvs cp zr304 hlp hpp => ?_; try clear hp; subst zr304) | obtain ⟨lp, pvs, cp, rfl, hlp, hpp⟩ := hp
  have lpv : pvs.length = pv.length := by rw [pLen hpp]; simp [nats]
  have lfv : fvs.length = n := by rw [pLen hpf]; exact hEr.1
  replace hlen : pv.length ≤ n := hlen
  refine asgT R.quiet S₁ et rfl rfl fun h₃ S₂ => ?_
  refine assignInOrder_cons (wpAny_assign_Name ?_)
  walk_at "storeName"
  intro h₄ tk₄ S₃
  refine assignInOrder_cons (wpAny_assign_Name ?_)
  walk_at "storeName"
  intro h₅ tk₅ S₄
  refine assignInOrder_nil (wpAny_execs_cons (wpAny_Assign_Name (List_ (args_nil ?_))))
  try (refine hideQ ?_; intro hQ9)
  refine mkLst S₄ fun h₆ P hnP S₅ => ?_
  walk_at "storeName"
  intro h₇ tk₇ S₆
  refine wpAny_execs_cons (wpAny_For (Call_ ?_))
  try (refine hideQ ?_; intro hQ9)
  walk_at "N"
  refine cType (args_cons (Subscript_ (Call_ ?_)))
  walk_at "N"
  have T₆ := T.le S₆.mono
  refine callF T₆ (by k_dflt k_is) (args_cons ?_)
  walk_at "N"
  refine args_nil ⟨S₆.sub, ?_⟩
  refine shape_ok (P := RatV) T₆ S₆.sub ((R.deeper _).le (Nat.le_of_ble_eq_true rfl)) (MatV.mono _ _ _ _ S₆.mono hv) hD fun B₃ h₈ tk₈ t₂ x y X₂ et₂ => ?_
  have S₈ := S₆.ext X₂
  refine cI fun _ tk₉ => itemT S₈ et₂ (by decide) (by decide) rfl (args_nil ?_)
  refine mkRange1 S₈ fun B₄ h₉ r t₃ u₃ v₃ tk₁₀ le₄ er S₉ => ?_
  refine iterR "column" R.quiet S₉ er (by decide) (by decide) (by exact om148) (by exact om149 hw hwi) fun h₁₀ I IT hN st S₁₀ => ?_
  have en : ((wd M : Int) - 0).toNat = wi := by exact om150 hw
  rw [en] at IT
  have S₁₁ := S₁₀.forget (m' := mL [("reduced", .ref lf), ("pivots", .ref lp), ("found", .ref P), ("a", v)]) (mL_known (by exact rfl))
  have le14 : B₁.le B₄ := X₂.le.trans le₄
  refine forLoop (fun i B m ps => ∃ ys, m = mL [("reduced", .ref lf), ("pivots", .ref lp), ("found", .ref P), ("a", v)] ∧ ps = [(P, LstP ys)] ∧ Paired (RowV B) (nullBaseTo EM pv wi i) ys)
    (IT _) (canL (List.mem_cons_self ..)) hN (List.mem_cons_self ..) S₁₁ st ⟨[], rfl, rfl, .nil⟩ ?_ ?_
  · intro i B₅ m₁ m₂ ps₁ h₁₁ tk₁₁ E' hi le zz10 zz11 F
    try (first | (refine hideC F ?_; intro hE9 hO9 hQ9 F) | (refine hideQ ?_; intro hQ9))
    first | (refine ob1_3 (zz10) fun ys zr315 zr316 hys => ?_; try clear zz10; subst zr315; subst zr316) | (refine ob0_4 (zz10) fun ys zr317 zr318 hys => ?_; try clear zz10; subst zr317; subst zr318) | obtain ⟨ys, rfl, rfl, hys⟩ := zz10
    first | (refine ob1_2 (zz11) fun _ zn319 zr321 => ?_; try clear zz11; refine ob1_1 zn319 fun tc zr320 => ?_; clear zn319; subst zr320; subst zr321) | (refine ob0_3 (zz11) fun _ zn322 zr324 => ?_; try clear zz11; refine ob1_1 zn322 fun tc zr323 => ?_; clear zn322; subst zr323; subst zr324) | obtain ⟨_, ⟨tc, rfl⟩, rfl⟩ := zz11
    try (refine hideM F ?_; intro hM9 F)
    have le15 := le14.trans le
    have T₅ := T.le F.mono
    have lys : ys.length ≤ i := by
      rw [pLen hys, nullBaseTo, List.length_map]
      exact Nat.le_trans (List.length_filter_le ..) (by first | exact List.mem_cons_self | exact List.mem_cons_of_mem _ List.mem_cons_self | simp)
    refine wpAny_execs_cons (wpAny_If (wpAny_isTrue_Compare1 ?_))
    try (refine hideQ ?_; intro hQ9)
    walk_at "N"
    walk_at "N"
    refine inInts (pln_of F.sub (le15 _ _ hlp)) hpp (wpAny_truthy_bool ?_)
    by_cases hin : i ∈ pv
    · refine iteT (by rw [decide_eq_true_eq, Int.zero_add]; exact nats_mem.mpr hin) ?_
      refine wpAny_execs_cons (wpAny_Continue ?_)
      try (refine hideQ ?_; intro hQ9)
      exact exI5 B₅ _ _ h₁₁ _ ⟨rfl, .rfl, ⟨ys, rfl, rfl, by rw [nullBaseTo_in hin]; exact hys⟩, F.forget (mL_known (by exact rfl))⟩
    refine iteF (by rw [decide_eq_true_eq, Int.zero_add]; exact fun q => hin (nats_mem.mp q)) ?_
    refine wpAny_execs_nil (wpAny_execs_cons (wpAny_Assign_Name (wpAny_BinOp (List_ (args_cons ?_)))))
    try (refine hideQ ?_; intro hQ9)
    walk_at "N"
    refine args_nil (mkLstB F fun B₆ h₁₂ l₀ le₆ e₀ F₁ => Subscript_ (Call_ ?_))
    walk_at "N"
    have T₆ := T.le F₁.mono
    refine callF T₆ (by k_dflt k_is) (args_cons ?_)
    walk_at "N"
    refine args_nil ⟨F₁.sub, ?_⟩
    refine shape_ok (P := RatV) T₆ F₁.sub ((R.deeper _).le (Nat.le_of_ble_eq_true rfl)) (MatV.mono _ _ _ _ F₁.mono hv) hD fun B₇ h₁₃ tk₁₃ t₄ x₄ y₄ X₄ et₄ => ?_
    have F₂ := F₁.ext X₄
    refine cI fun _ tk₁₄ => itemT F₂ et₄ (by decide) (by decide) rfl ?_
    refine mulList F₂ (pln_of F₂.sub (X₄.le _ _ e₀)) (by exact om173 hwi en) fun h₁₄ D hnD F₃ => ?_
    walk_at "storeName"
    intro h₁₅ tk₁₅ F₄
    refine wpAny_execs_cons (wpAny_Assign_Subscript ?_)
    try (refine hideQ ?_; intro hQ9)
    walk_at "N"
    walk_at "N"
    walk_at "N"
    refine setP [] F₄ (by exact om160) (by exact om161 hwi hi) (by rw [List.length_replicate, hw]; omega) fun h₁₆ F₅ => ?_
    rw [show ((0 : Int) + (i : Int)).toNat = i by exact om162, hw] at F₅
    refine wpAny_execs_cons (wpAny_For (Call_ ?_))
    try (refine hideQ ?_; intro hQ9)
    walk_at "N"
    refine cType (args_cons ?_)
    walk_at "N"
    have le57 := le₆.trans X₄.le
    refine args_nil (enumL "at" "spot" R.quiet F₅ (le57 _ _ (le15 _ _ hlp)) fun h₁₇ e it IT₂ hN₂ st₂ F₆ => ?_)
    refine (IT₂ default default 0 default).self 0 (mk s h₁₇ _) _ _ st₂ ?_
    have F₇ := F₆.forget (m' := mL [("reduced", .ref lf), ("pivots", .ref lp), ("found", .ref P), ("a", v), ("one", .ref D), ("column", .int (0 + i) tc)]) (mL_known (by exact rfl))
    refine forLoop (fun j B m ps => ∃ zs, m = mL [("reduced", .ref lf), ("pivots", .ref lp), ("found", .ref P), ("a", v), ("one", .ref D), ("column", .int (0 + i) tc)] ∧ ps = (D, LstP zs) :: (P, LstP ys) :: Hold h₁₁ [I] ∧ Paired (RatV B) (nullTo EM pv wi i j) zs)
      (IT₂ _ _ _ _) ⟨canL (List.mem_cons_self ..), canL (List.mem_cons_self ..)⟩ hN₂ (List.mem_cons_self ..) F₇ st₂ ⟨_, rfl, rfl, ?_⟩ ?_ ?_
    · exact pSet _ (by
        have : ∀ n, Paired (RatV B₇) (List.replicate n 0) (List.replicate n (.ref 42)) := fun n => by
          induction n with
          | zero => exact .nil
          | succ n ih => rw [List.replicate_succ, List.replicate_succ]; exact .cons (R0_ok (T₆.le X₄.le)) ih
        exact this wi) (R1_ok (T₆.le X₄.le))
    · intro j B₈ m₁ m₂ ps₁ h₁₈ tk₁₈ E₂ hj le₈ zz10 zz11 N
      try (first | (refine hideC N ?_; intro hE9 hO9 hQ9 N) | (refine hideQ ?_; intro hQ9))
      first | (refine ob1_3 (zz10) fun zs zr325 zr326 hzs => ?_; try clear zz10; subst zr325; subst zr326) | (refine ob0_4 (zz10) fun zs zr327 zr328 hzs => ?_; try clear zz10; subst zr327; subst zr328) | obtain ⟨zs, rfl, rfl, hzs⟩ := zz10
      first | (refine ob1_2 (zz11) fun _ sv zq => ?_; refine ob1_1 zq fun ⟨tj, hsv, rfl⟩ zr => ?_; clear zq; subst zr) | (refine ob2_2 (zz11) fun _ sv zn329 zr330 => ?_; try clear zz11; obtain ⟨tj, hsv, rfl⟩ := zn329; subst zr330) | (refine ob1_3 (zz11) fun _ sv zn331 zr332 => ?_; try clear zz11; obtain ⟨tj, hsv, rfl⟩ := zn331; subst zr332) | (refine ob0_4 (zz11) fun _ sv zn333 zr334 => ?_; try clear zz11; obtain ⟨tj, hsv, rfl⟩ := zn333; subst zr334) | obtain ⟨_, sv, ⟨tj, hsv, rfl⟩, rfl⟩ := zz11
      try (refine hideM N ?_; intro hM9 N)
      have T₈ := T.le N.mono
      have hj' : j < pv.length := by exact om42 lpv hj
      first | (refine ob1_2 (pGet' hpp hsv) fun sp hsp zq => ?_; refine ob1_1 zq fun tsp zr => ?_; clear zq; subst zr) | (refine ob3_1 (pGet' hpp hsv) fun sp hsp tsp zr305 => ?_; subst zr305) | (refine ob2_2 (pGet' hpp hsv) fun sp hsp tsp zr306 => ?_; subst zr306) | (refine ob1_3 (pGet' hpp hsv) fun sp hsp tsp zr307 => ?_; subst zr307) | (refine ob0_4 (pGet' hpp hsv) fun sp hsp tsp zr308 => ?_; subst zr308) | obtain ⟨sp, hsp, tsp, rfl⟩ := pGet' hpp hsv
      rw [nats_get hj'] at hsp
      cases hsp
      have hspl : pv.getD j 0 < wi := hlt _ (getD_mem hj')
      have lzs : zs.length = wi := by rw [pLen hzs, nullTo_len]
      refine wpAny_execs_cons (wpAny_Assign_Subscript (Call_ ?_))
      try (refine hideQ ?_; intro hQ9)
      walk_at "N"
      refine callF T₈ (by k_dflt k_is) (args_cons (Subscript_ (Subscript_ ?_)))
      walk_at "N"
      walk_at "N"
      have hjn : j < n := by exact om174 hlen hj'
      obtain ⟨y, hy, lr, vr, cr, rfl, hlr, hpr⟩ := pGet hpf (get_getD [] (i := j) (by rw [hEr.1]; omega))
      obtain ⟨z, hz, hzr⟩ := pGet hpr (get_getD 0 (i := i) (by rw [hEr.row hjn]; omega))
      have le18 := le15.trans (le57.trans le₈)
      refine itemL (pln_of N.sub (le18 _ _ hlf)) (by exact om23) (by exact om175 hn hjn) (by rw [Int.toNat_natCast]; exact hy) ?_
      walk_at "N"
      refine itemL (pln_of N.sub (le18 _ _ hlr)) (by exact om160) (by exact om161 hwi hi) (by rw [show (((0 : Int) + (i : Int))).toNat = i by exact om162]; exact hz) (args_nil ⟨N.sub, ?_⟩)
      refine rneg_ok T₈ N.sub ((R.deeper _).le (Nat.le_of_ble_eq_true rfl)) (hzr.le le18) fun B₉ h₁₉ tk₁₉ v₂ X₅ hv₂ => ?_
      have N₁ := N.ext X₅
      walk_at "N"
      walk_at "N"
      refine setP [] (ps₂ := ((P, LstP ys) :: Hold h₁₁ [I]) ++ Hold h₁₈ [e, it]) N₁ (by exact om23) (by exact om176 hwi hspl) (by rw [Int.toNat_natCast, lzs]; exact hspl) fun h₂₀ N₂ => ?_
      refine wpAny_execs_nil ?_
      refine exI5 B₉ _ ((D, LstP (zs.set ((pv.getD j 0 : Nat) : Int).toNat v₂)) :: (P, LstP ys) :: Hold h₁₁ [I]) h₂₀ _ ⟨rfl, X₅.le, ⟨_, rfl, rfl, ?_⟩, N₂.forget (mL_known (by exact rfl))⟩
      rw [Int.toNat_natCast]
      exact pSet _ (pMono RatV.mono X₅.le hzs) hv₂
    · intro B₈ m₁ ps₁ h₁₈ tk₁₈ le₈ zz6 N
      try (first | (refine hideC N ?_; intro hE9 hO9 hQ9 N) | (refine hideQ ?_; intro hQ9))
      first | (refine ob1_3 (zz6) fun zs zr335 zr336 hzs => ?_; try clear zz6; subst zr335; subst zr336) | (refine ob0_4 (zz6) fun zs zr337 zr338 hzs => ?_; try clear zz6; subst zr337; subst zr338) | obtain ⟨zs, rfl, rfl, hzs⟩ := zz6
      try (refine hideM N ?_; intro hM9 N)
      refine wpAny_execs_cons (wpAny_Expr (MethodCall_ ?_))
      try (refine hideQ ?_; intro hQ9)
      walk_at "N"
      refine getApp (N.plain (a := P) (vs := ys) (by first | exact List.mem_cons_self | exact List.mem_cons_of_mem _ List.mem_cons_self | simp)) (callWith_method1 (args_cons ?_))
      walk_at "N"
      refine args_nil (appP [(D, LstP zs)] (ps₂ := Hold h₁₁ [I]) N (fits (by exact om171 hwi hi lys)) fun h₁₉ N₁ => wpAny_execs_nil ?_)
      first | (refine ob2_2 (N₁.freeze (by first | exact List.mem_cons_self | exact List.mem_cons_of_mem _ List.mem_cons_self | simp)) fun B₉ le₉ zn309 N₂ => ?_; obtain ⟨oD, eD, cD, rfl⟩ := zn309) | (refine ob1_3 (N₁.freeze (by first | exact List.mem_cons_self | exact List.mem_cons_of_mem _ List.mem_cons_self | simp)) fun B₉ le₉ zn310 N₂ => ?_; obtain ⟨oD, eD, cD, rfl⟩ := zn310) | (refine ob0_4 (N₁.freeze (by first | exact List.mem_cons_self | exact List.mem_cons_of_mem _ List.mem_cons_self | simp)) fun B₉ le₉ zn311 N₂ => ?_; obtain ⟨oD, eD, cD, rfl⟩ := zn311) | obtain ⟨B₉, le₉, ⟨oD, eD, cD, rfl⟩, N₂⟩ := N₁.freeze (by first | exact List.mem_cons_self | exact List.mem_cons_of_mem _ List.mem_cons_self | simp)
      refine exI5 B₉ _ ([(P, _)]) h₁₉ _ ⟨rfl, le57.trans (le₈.trans le₉), ⟨_, rfl, rfl, ?_⟩, N₂.forget (mL_known (by exact rfl))⟩
      rw [nullBaseTo_out hin]
      refine pAppend (pMono RowV.mono (le57.trans (le₈.trans le₉)) hys) (.cons (LVm (eD) (pMono RatV.mono le₉ ?_)) .nil)
      rw [lpv] at hzs
      exact hzs
  · intro B₅ m₁ ps₁ h₁₁ tk₁₁ le zz6 F
    try (first | (refine hideC F ?_; intro hE9 hO9 hQ9 F) | (refine hideQ ?_; intro hQ9))
    first | (refine ob1_3 (zz6) fun ys zr339 zr340 hys => ?_; try clear zz6; subst zr339; subst zr340) | (refine ob0_4 (zz6) fun ys zr341 zr342 hys => ?_; try clear zz6; subst zr341; subst zr342) | obtain ⟨ys, rfl, rfl, hys⟩ := zz6
    try (refine hideM F ?_; intro hM9 F)
    refine wpAny_execs_cons (wpAny_Return_some ?_)
    try (refine hideQ ?_; intro hQ9)
    walk_at "N"
    first | (refine ob2_2 (F.freeze (by first | exact List.mem_cons_self | exact List.mem_cons_of_mem _ List.mem_cons_self | simp)) fun B₇ le₃ zn312 F₃ => ?_; obtain ⟨oP, eP, cP, rfl⟩ := zn312) | (refine ob1_3 (F.freeze (by first | exact List.mem_cons_self | exact List.mem_cons_of_mem _ List.mem_cons_self | simp)) fun B₇ le₃ zn313 F₃ => ?_; obtain ⟨oP, eP, cP, rfl⟩ := zn313) | (refine ob0_4 (F.freeze (by first | exact List.mem_cons_self | exact List.mem_cons_of_mem _ List.mem_cons_self | simp)) fun B₇ le₃ zn314 F₃ => ?_; obtain ⟨oP, eP, cP, rfl⟩ := zn314) | obtain ⟨B₇, le₃, ⟨oP, eP, cP, rfl⟩, F₃⟩ := F.freeze (by first | exact List.mem_cons_self | exact List.mem_cons_of_mem _ List.mem_cons_self | simp)
    refine hq B₇ h₁₁ _ _ F₃.toExt ?_
    rw [enb]
    exact (LVm (eP) (pMono RowV.mono le₃ hys))
end
section
variable {prog : Program} {w : World} {A : Around} {E : Value → Shared → Prop} {s : Shared} {h : Heap} {tk : Nat} {B : Base} {Q : Value → Shared → Prop}

set_option maxHeartbeats 4000000 in
theorem solve_ok (T : Tp (Mine.hd.heap_39 w.params) B) (sub : B.In h) (R : Room 7 A) {M : List (List Rat)} {b : List Rat} {v u : Value} {k n wi : Nat} (hv : MatV B M v) (hu : RowV B b u) (hR : Rect n wi M) (hbn : b.length = n) (hn0 : 0 < n) (hn : n ≤ 99) (hwi : wi ≤ 99)
    (hb : Bnd k M) (hbb : ∀ x ∈ b, RatB k x) (hk0 : 0 < k) (hk : k * 5 ^ (wi + 1) ≤ 9000)
    (hq : ∀ B' h' tk' t f p, Ext B h B' h' → B' t = some (tupO [f, p] 0) → MatV B' (nullBase M) p → ((wi ∈ (ech (aug M b)).2 ∧ f = .none) ∨ (wi ∉ (ech (aug M b)).2 ∧ RowV B' (sol M b) f)) → Q (.ref t) (mk s h' tk')) :
    wpAny (model prog w) A (call (.ref 138) [v, u]) Q E (mk s h tk) := by
  have hD : Dims M := ⟨by rw [hR.1]; exact om177 hn, fun r hr => by rw [hR.2 r hr]; exact om177 hwi⟩
  have hw : wd M = wi := wd_rect hR hn0
  have hRa := aug_rect hR hbn
  have hwa : wd (aug M b) = wi + 1 := wd_rect hRa hn0
  have hba := aug_bnd hb hbb
  have hk1 : k * 5 ^ wi ≤ 9000 := Nat.le_trans (Nat.mul_le_mul_left k (Nat.pow_le_pow_right (by decide) (Nat.le_succ _))) hk
  have hC := cols hRa hba hk0
  have hlen := echTo_lenle hC (wi + 1) (Nat.le_refl _)
  have hlt := (hC (wi + 1) (Nat.le_refl _)).lt
  have hEr := (hC (wi + 1) (Nat.le_refl _)).rect
  have ee : ech (aug M b) = echTo (aug M b) (wi + 1) := by rw [ech, hwa]
  rw [← ee] at hlen hlt hEr
  have hv0 := hv
  first | (refine ob3_3 (hv) fun l vs c zr343 hl hp => ?_; try clear hv; subst zr343) | (refine ob2_4 (hv) fun l vs c zr344 hl hp => ?_; try clear hv; subst zr344) | (refine ob1_5 (hv) fun l vs c zr345 hl hp => ?_; try clear hv; subst zr345) | (refine ob0_6 (hv) fun l vs c zr346 hl hp => ?_; try clear hv; subst zr346) | obtain ⟨l, vs, c, rfl, hl, hp⟩ := hv
  first | (refine ob3_3 (hu) fun lb us cb zr347 hlb hpb => ?_; try clear hu; subst zr347) | (refine ob2_4 (hu) fun lb us cb zr348 hlb hpb => ?_; try clear hu; subst zr348) | (refine ob1_5 (hu) fun lb us cb zr349 hlb hpb => ?_; try clear hu; subst zr349) | (refine ob0_6 (hu) fun lb us cb zr350 hlb hpb => ?_; try clear hu; subst zr350) | obtain ⟨lb, us, cb, rfl, hlb, hpb⟩ := hu
  have lvs : vs.length = n := by rw [pLen hp]; exact hR.1
  have lus : us.length = n := by rw [pLen hpb]; exact hbn
  refine' enter (binds := [("a", .ref l), ("b", .ref lb)]) [] T sub ?he .nil ?hB ?hf ?hcd ?hroom ?hbind ?hkind ?hh ?hcn ?hco ?hgen ?hk
  ((case he => exact fun _ h => absurd h List.not_mem_nil); (case hB => exact fun _ h => absurd h List.not_mem_nil))
  ((case hf => k_dflt k_is); (case hcd => k_dflt k_is); (case hroom => exact Room.lt (by assumption)); (case hbind => exact rfl); (case hkind => exact kindsX rfl); (case hcn => decide +kernel); (case hco => exact rfl); (case hgen => exact rfl); (case hk => exact rfl))
  intro L h₁ tk₁ hL S
  refine hideF S ?_
  intro hA8 hE8 hM8 hQ8 S
  refine wpAny_execs_cons (wpAny_Expr (Call_ ?_))
  try (refine hideQ ?_; intro hQ9)
  walk_at "N"
  refine callF T (by k_dflt k_is) (args_cons (wpAny_Compare1 (Call_ ?_)))
  walk_at "N"
  refine cBuilt (args_cons ?_)
  walk_at "N"
  refine args_nil (lenL (pln_of S.sub hl) (by exact om178 hn lvs) fun t₁ tk₂ => Call_ ?_)
  walk_at "N"
  refine cBuilt (args_cons ?_)
  walk_at "N"
  refine args_nil (lenL (pln_of S.sub hlb) (by exact om178 hn lus) fun t₂ tk₃ => PyProof.Rows.eq_int ?_)
  rw [show ((vs.length : Int) == (us.length : Int)) = true by rw [beq_iff_eq]; exact om179 lvs lus]
  refine args_cons (cS fun t₃ tk₄ => args_nil ⟨S.sub, ?_⟩)
  refine need_shape_ok T S.sub ((R.deeper _).le (Nat.le_of_ble_eq_true rfl)) fun B₁ h₂ tk₅ X => ?_
  have S₁ := S.ext X
  have T₁ := T.le X.le
  refine wpAny_execs_cons (wpAny_Assign_Name (Subscript_ (Call_ ?_)))
  try (refine hideQ ?_; intro hQ9)
  walk_at "N"
  refine callF T₁ (by k_dflt k_is) (args_cons ?_)
  walk_at "N"
  refine args_nil ⟨S₁.sub, ?_⟩
  refine shape_ok (P := RatV) T₁ S₁.sub ((R.deeper _).le (Nat.le_of_ble_eq_true rfl)) (MatV.mono _ _ _ _ S₁.mono hv0) hD fun B₂ h₃ tk₆ tt x y X₂ et₂ => ?_
  rw [hw] at et₂
  have S₂ := S₁.ext X₂
  refine cI fun _ tk₇ => itemT S₂ et₂ (by decide) (by decide) rfl ?_
  walk_at "storeName"
  intro h₄ tk₈ S₃
  have T₃ := T.le S₃.mono
  refine wpAny_execs_cons (Assign_Tuple (Call_ ?_))
  try (refine hideQ ?_; intro hQ9)
  walk_at "N"
  refine callF T₃ (by k_dflt k_is) (args_cons ?_)
  refine' comp_start [("b", L + 1)] ?hcl2 ?hk2 ?hn2 ?hg2 ?hs2
  case hcl2 => rfl
  case hk2 => rfl
  case hn2 => decide
  case hs2 => exact fun _ => rfl
  refine Call_ ?_
  walk_at "N"
  refine cType (args_cons ?_)
  walk_at "N"
  refine args_nil (enumL "at" "row" R.quiet S₃ (S₃.mono _ _ hl) fun h₅ e it IT hN st S₄ => ?_)
  refine (IT default default 0 default).self 0 (mk s h₅ _) _ _ st ?_
  have hp3 := pMono RowV.mono S₃.mono hp
  have hpb3 := pMono RatV.mono S₃.mono hpb
  refine comp_pure (ps := []) (fun i B₁ ys => Paired (RowV B₁) ((aug M b).take i) ys) (IT _ _ _ _) hN st S₄ (List.mem_cons_self ..) (by simpa using Paired.nil)
    (fun _ _ _ l g => pMono RowV.mono l g) (fits (by exact om180 hn lvs)) ["b"] (by (repeat' (first | exact List.forall_mem_nil _ | refine List.forall_mem_cons.mpr ⟨⟨rfl, rfl, rfl⟩, ?_⟩))) (fun _ => rfl) (by decide +kernel) (fun C => ⟨canL (List.mem_cons_self ..), canL (List.mem_cons_self ..)⟩) ?_ ?_
  · intro C D i B₅ m₂ ys h₆ tk₉ E' hi _ le₅ g zz13 F
    try (first | (refine hideC F ?_; intro hE9 hO9 hQ9 F) | (refine hideQ ?_; intro hQ9))
    first | (refine ob1_2 (zz13) fun _ rv zq => ?_; refine ob1_1 zq fun ⟨tj, hrv, rfl⟩ zr => ?_; clear zq; subst zr) | (refine ob2_2 (zz13) fun _ rv zn371 zr372 => ?_; try clear zz13; obtain ⟨tj, hrv, rfl⟩ := zn371; subst zr372) | (refine ob1_3 (zz13) fun _ rv zn373 zr374 => ?_; try clear zz13; obtain ⟨tj, hrv, rfl⟩ := zn373; subst zr374) | (refine ob0_4 (zz13) fun _ rv zn375 zr376 => ?_; try clear zz13; obtain ⟨tj, hrv, rfl⟩ := zn375; subst zr376) | obtain ⟨_, rv, ⟨tj, hrv, rfl⟩, rfl⟩ := zz13
    try (refine hideM F ?_; intro hM9 F)
    refine tests_nil ?_
    refine iteT rfl ?_
    first | (refine ob1_2 (pGet' hp3 hrv) fun r hr zq => ?_; refine ob3_3 zq fun lr vr cr zr hlr hpr => ?_; clear zq; subst zr) | (refine ob5_3 (pGet' hp3 hrv) fun r hr lr vr cr zr351 hlr hpr => ?_; subst zr351) | (refine ob4_4 (pGet' hp3 hrv) fun r hr lr vr cr zr352 hlr hpr => ?_; subst zr352) | (refine ob3_5 (pGet' hp3 hrv) fun r hr lr vr cr zr353 hlr hpr => ?_; subst zr353) | (refine ob2_6 (pGet' hp3 hrv) fun r hr lr vr cr zr354 hlr hpr => ?_; subst zr354) | (refine ob1_7 (pGet' hp3 hrv) fun r hr lr vr cr zr355 hlr hpr => ?_; subst zr355) | obtain ⟨r, hr, lr, vr, cr, rfl, hlr, hpr⟩ := pGet' hp3 hrv
    have lr1 := pLen hpr
    have lr2 := hR.2 r (List.mem_of_getElem? hr)
    refine wpAny_BinOp (Call_ ?_)
    walk_at "N"
    refine cType (args_cons ?_)
    walk_at "N"
    refine args_nil (copyB F (pln_of F.sub (le₅ _ _ hlr)) (fits (by exact om181 hwi lr1 lr2)) fun B₆ h₇ D' c' le₆ e₆ F₂ => List_ (args_cons (Subscript_ ?_)))
    walk_at "N"
    walk_at "N"
    have hib : i < b.length := by exact om182 hbn lvs hi
    first | (refine ob2_1 (pGet hpb3 (get_getD 0 hib)) fun xv hxv hxr => ?_) | (refine ob1_2 (pGet hpb3 (get_getD 0 hib)) fun xv hxv hxr => ?_) | (refine ob0_3 (pGet hpb3 (get_getD 0 hib)) fun xv hxv hxr => ?_) | obtain ⟨xv, hxv, hxr⟩ := pGet hpb3 (get_getD 0 hib)
    have le36 := le₅.trans le₆
    refine itemL (pln_of F₂.sub (le36 _ _ (S₃.mono _ _ hlb))) (by exact om23) (by exact om183 hn lvs hi) (by rw [Int.toNat_natCast]; exact hxv) (args_nil ?_)
    refine mkLstB F₂ fun B₇ h₈ l₇ le₇ e₇ F₃ => ?_
    refine addList F₃ (pln_of F₃.sub (le₇ _ _ e₆)) (pln_of F₃.sub e₇) (by simp; omega) fun B₈ h₉ D₈ c₈ le₈ e₈ F₄ => ?_
    refine exI4 B₈ _ h₉ _ ⟨rfl, le₆.trans (le₇.trans le₈), pSnocTake (pMono RowV.mono (le₆.trans (le₇.trans le₈)) g) (aug_get hr (get_getD 0 hib)) (LVm (e₈) (?_)), mc_upd2 rfl rfl, F₄⟩
    exact pAppend (pMono RatV.mono (le36.trans (le₇.trans le₈)) hpr) (.cons (hxr.le (le36.trans (le₇.trans le₈))) .nil)
  · intro C D B₅ c₂ ys h₆ tk₉ hC' le₅ g _ eD F
    refine comp_none F (List.mem_cons_self ..) (fun x c hc q => hC'.2 x c hc (List.mem_singleton.mpr q)) (hC'.1 _ (List.mem_singleton.mpr rfl)) fun h₇ F₁ => args_nil ⟨F₁.sub.of_le le₅, ?_⟩
    have T₅ := T.le F₁.mono
    refine echelon_ok (M := aug M b) T₅ F₁.sub ((R.deeper _).le (Nat.le_of_ble_eq_true rfl)) (LVm (eD) (pWhole g (by rw [hRa.1]; exact lvs))) hRa hwa (by exact om184 hn) (by exact om185 hwi) hba hk0 hk fun B₆ h₈ tk₁₀ t f p X₃ et hf hp' => ?_
    have esol : sol M b = solTo (ech (aug M b)).1 (ech (aug M b)).2 wi (ech (aug M b)).2.length := by rw [sol, hw]
    generalize ech (aug M b) = EE at *
    first | (refine ob1_1 (EE) fun EM pv => ?_; try clear EE) | (refine ob0_2 (EE) fun EM pv => ?_; try clear EE) | obtain ⟨EM, pv⟩ := EE
    have F₂ := F₁.ext X₃
    first | (refine ob3_3 (hf) fun lf fvs cf zr356 hlf hpf => ?_; try clear hf; subst zr356) | (refine ob2_4 (hf) fun lf fvs cf zr357 hlf hpf => ?_; try clear hf; subst zr357) | (refine ob1_5 (hf) fun lf fvs cf zr358 hlf hpf => ?_; try clear hf; subst zr358) | (refine ob0_6 (hf) fun lf fvs cf zr359 hlf hpf => ?_; try clear hf; subst zr359) | obtain ⟨lf, fvs, cf, rfl, hlf, hpf⟩ := hf
    first | (refine ob3_3 (hp') fun lp pvs cp zr360 hlp hpp => ?_; try clear hp'; subst zr360) | (refine ob2_4 (hp') fun lp pvs cp zr361 hlp hpp => ?_; try clear hp'; subst zr361) | (refine ob1_5 (hp') fun lp pvs cp zr362 hlp hpp => ?_; try clear hp'; subst zr362) | (refine ob0_6 (hp') fun lp pvs cp zr363 hlp hpp => ?_; try clear hp'; subst zr363) | obtain ⟨lp, pvs, cp, rfl, hlp, hpp⟩ := hp'
    have lpv : pvs.length = pv.length := by rw [pLen hpp]; simp [nats]
    have lfv : fvs.length = n := by rw [pLen hpf]; exact hEr.1
    replace hlen : pv.length ≤ n := hlen
    refine asgT R.quiet F₂ et rfl rfl fun h₉ F₃ => ?_
    refine assignInOrder_cons (wpAny_assign_Name ?_)
    walk_at "storeName"
    intro h₁₀ tk₁₁ F₄
    refine assignInOrder_cons (wpAny_assign_Name ?_)
    walk_at "storeName"
    intro h₁₁ tk₁₂ F₅
    have T₆ := T.le F₅.mono
    refine assignInOrder_nil (wpAny_execs_cons (wpAny_If (wpAny_isTrue_Compare1 ?_)))
    try (refine hideQ ?_; intro hQ9)
    walk_at "N"
    walk_at "N"
    refine inInts (pln_of F₅.sub hlp) hpp (wpAny_truthy_bool ?_)
    by_cases hin : wi ∈ pv
    · refine iteT (by rw [decide_eq_true_eq]; exact nats_mem.mpr hin) ?_
      refine wpAny_execs_cons (wpAny_Return_some (Tuple_ (args_cons (cNone (args_cons (Call_ ?_))))))
      try (refine hideQ ?_; intro hQ9)
      walk_at "N"
      refine callF T₆ (by k_dflt k_is) (args_cons ?_)
      walk_at "N"
      refine args_nil ⟨F₅.sub, ?_⟩
      refine null_base_ok T₆ F₅.sub ((R.deeper _).le (Nat.le_of_ble_eq_true rfl)) (MatV.mono _ _ _ _ F₅.mono hv0) hR hw (by exact om184 hn) (by exact om184 hwi) hb hk0 hk1 fun B₇ h₁₂ tk₁₃ v' X₄ hv' => ?_
      refine args_nil (mkTup (F₅.ext X₄) fun B₈ h₁₃ t' le₈ et₈ F₆ => ?_)
      exact hq B₈ h₁₃ _ t' _ _ F₆.toExt et₈ (MatV.mono _ _ _ _ le₈ hv') (.inl ⟨hin, rfl⟩)
    refine iteF (by rw [decide_eq_true_eq]; exact fun q => hin (nats_mem.mp q)) ?_
    refine wpAny_execs_nil (wpAny_execs_cons (wpAny_Assign_Name (wpAny_BinOp (List_ (args_cons ?_)))))
    try (refine hideQ ?_; intro hQ9)
    walk_at "N"
    refine args_nil (mkLstB F₅ fun B₇ h₁₂ l₀ le₇ e₀ F₆ => ?_)
    walk_at "N"
    refine mulList F₆ (pln_of F₆.sub e₀) (by exact om177 hwi) fun h₁₃ D hnD F₇ => ?_
    walk_at "storeName"
    intro h₁₄ tk₁₄ F₈
    refine wpAny_execs_cons (wpAny_For (Call_ ?_))
    try (refine hideQ ?_; intro hQ9)
    walk_at "N"
    refine cType (args_cons ?_)
    walk_at "N"
    refine args_nil (enumL "at" "column" R.quiet F₈ (le₇ _ _ hlp) fun h₁₅ e it IT₂ hN₂ st₂ F₉ => ?_)
    refine (IT₂ default default 0 default).self 0 (mk s h₁₅ _) _ _ st₂ ?_
    have F₁₀ := F₉.forget (m' := mL [("reduced", .ref lf), ("pivots", .ref lp), ("found", .ref D), ("a", .ref l), ("width", .int wi y)]) (mL_known (by exact rfl))
    refine forLoop (fun j B m ps => ∃ zs, m = mL [("reduced", .ref lf), ("pivots", .ref lp), ("found", .ref D), ("a", .ref l), ("width", .int wi y)] ∧ ps = [(D, LstP zs)] ∧ Paired (RatV B) (solTo EM pv wi j) zs)
      (IT₂ _ _ _ _) ⟨canL (List.mem_cons_self ..), canL (List.mem_cons_self ..)⟩ hN₂ (List.mem_cons_self ..) F₁₀ st₂ ⟨_, rfl, rfl, ?_⟩ ?_ ?_
    · have : ∀ n, Paired (RatV B₇) (List.replicate n 0) (List.replicate n (.ref 42)) := fun n => by
        induction n with
        | zero => exact .nil
        | succ n ih => rw [List.replicate_succ, List.replicate_succ]; exact .cons (R0_ok (T.le F₈.mono)) ih
      exact this wi
    · intro j B₈ m₁ m₂ ps₁ h₁₈ tk₁₈ E₂ hj le₈ zz10 zz11 N
      try (first | (refine hideC N ?_; intro hE9 hO9 hQ9 N) | (refine hideQ ?_; intro hQ9))
      first | (refine ob1_3 (zz10) fun zs zr377 zr378 hzs => ?_; try clear zz10; subst zr377; subst zr378) | (refine ob0_4 (zz10) fun zs zr379 zr380 hzs => ?_; try clear zz10; subst zr379; subst zr380) | obtain ⟨zs, rfl, rfl, hzs⟩ := zz10
      first | (refine ob1_2 (zz11) fun _ sv zq => ?_; refine ob1_1 zq fun ⟨tj, hsv, rfl⟩ zr => ?_; clear zq; subst zr) | (refine ob2_2 (zz11) fun _ sv zn381 zr382 => ?_; try clear zz11; obtain ⟨tj, hsv, rfl⟩ := zn381; subst zr382) | (refine ob1_3 (zz11) fun _ sv zn383 zr384 => ?_; try clear zz11; obtain ⟨tj, hsv, rfl⟩ := zn383; subst zr384) | (refine ob0_4 (zz11) fun _ sv zn385 zr386 => ?_; try clear zz11; obtain ⟨tj, hsv, rfl⟩ := zn385; subst zr386) | obtain ⟨_, sv, ⟨tj, hsv, rfl⟩, rfl⟩ := zz11
      try (refine hideM N ?_; intro hM9 N)
      have hj' : j < pv.length := by exact om42 lpv hj
      first | (refine ob1_2 (pGet' hpp hsv) fun sp hsp zq => ?_; refine ob1_1 zq fun tsp zr => ?_; clear zq; subst zr) | (refine ob3_1 (pGet' hpp hsv) fun sp hsp tsp zr364 => ?_; subst zr364) | (refine ob2_2 (pGet' hpp hsv) fun sp hsp tsp zr365 => ?_; subst zr365) | (refine ob1_3 (pGet' hpp hsv) fun sp hsp tsp zr366 => ?_; subst zr366) | (refine ob0_4 (pGet' hpp hsv) fun sp hsp tsp zr367 => ?_; subst zr367) | obtain ⟨sp, hsp, tsp, rfl⟩ := pGet' hpp hsv
      rw [nats_get hj'] at hsp
      cases hsp
      have hspl : pv.getD j 0 < wi := by
        have h1 : pv.getD j 0 < wi + 1 := hlt _ (getD_mem (d := (0 : Nat)) hj')
        have h2 : pv.getD j 0 ≠ wi := fun q => hin (q ▸ getD_mem hj')
        exact om119 h1 h2
      have lzs : zs.length = wi := by rw [pLen hzs, solTo_len]
      refine wpAny_execs_cons (wpAny_Assign_Subscript (Subscript_ (Subscript_ ?_)))
      try (refine hideQ ?_; intro hQ9)
      walk_at "N"
      walk_at "N"
      have hjn : j < n := by exact om174 hlen hj'
      obtain ⟨yv, hy, lr, vr, cr, rfl, hlr, hpr⟩ := pGet hpf (get_getD [] (i := j) (by rw [hEr.1]; omega))
      obtain ⟨z, hz, hzr⟩ := pGet hpr (get_getD 0 (i := wi) (by rw [hEr.row hjn]; omega))
      have le18 := le₇.trans le₈
      refine itemL (pln_of N.sub (le18 _ _ hlf)) (by exact om23) (by exact om186 hn hjn) (by rw [Int.toNat_natCast]; exact hy) ?_
      walk_at "N"
      refine itemL (pln_of N.sub (le18 _ _ hlr)) (by exact om23) (by exact om187 hwi) (by rw [Int.toNat_natCast]; exact hz) ?_
      walk_at "N"
      walk_at "N"
      refine setP [] (ps₂ := Hold h₁₈ [e, it]) N (by exact om23) (by exact om188 hwi hspl) (by rw [Int.toNat_natCast, lzs]; exact hspl) fun h₂₀ N₂ => ?_
      refine wpAny_execs_nil ?_
      refine exI5 B₈ _ ([(D, LstP (zs.set ((pv.getD j 0 : Nat) : Int).toNat z))]) h₂₀ _ ⟨rfl, .rfl, ⟨_, rfl, rfl, ?_⟩, N₂.forget (mL_known (by exact rfl))⟩
      rw [Int.toNat_natCast]
      exact pSet _ hzs (hzr.le le18)
    · intro B₈ m₁ ps₁ h₁₈ tk₁₈ le₈ zz6 N
      try (first | (refine hideC N ?_; intro hE9 hO9 hQ9 N) | (refine hideQ ?_; intro hQ9))
      first | (refine ob1_3 (zz6) fun zs zr387 zr388 hzs => ?_; try clear zz6; subst zr387; subst zr388) | (refine ob0_4 (zz6) fun zs zr389 zr390 hzs => ?_; try clear zz6; subst zr389; subst zr390) | obtain ⟨zs, rfl, rfl, hzs⟩ := zz6
      try (refine hideM N ?_; intro hM9 N)
      have T₈ := T.le N.mono
      refine wpAny_execs_cons (wpAny_Return_some (Tuple_ (args_cons ?_)))
      try (refine hideQ ?_; intro hQ9)
      walk_at "N"
      refine args_cons (Call_ ?_)
      walk_at "N"
      refine callF T₈ (by k_dflt k_is) (args_cons ?_)
      walk_at "N"
      refine args_nil ⟨N.sub, ?_⟩
      refine null_base_ok T₈ N.sub ((R.deeper _).le (Nat.le_of_ble_eq_true rfl)) (MatV.mono _ _ _ _ N.mono hv0) hR hw (by exact om184 hn) (by exact om184 hwi) hb hk0 hk1 fun B₉ h₁₉ tk₁₉ v' X₄ hv' => ?_
      refine args_nil (mkTup (N.ext X₄) fun B₁₀ h₂₀ t' le₁₀ et₁₀ N₁ => ?_)
      first | (refine ob2_2 (N₁.freeze (by first | exact List.mem_cons_self | exact List.mem_cons_of_mem _ List.mem_cons_self | simp)) fun B₁₁ le₁₁ zn368 N₂ => ?_; obtain ⟨oD, eD', cD, rfl⟩ := zn368) | (refine ob1_3 (N₁.freeze (by first | exact List.mem_cons_self | exact List.mem_cons_of_mem _ List.mem_cons_self | simp)) fun B₁₁ le₁₁ zn369 N₂ => ?_; obtain ⟨oD, eD', cD, rfl⟩ := zn369) | (refine ob0_4 (N₁.freeze (by first | exact List.mem_cons_self | exact List.mem_cons_of_mem _ List.mem_cons_self | simp)) fun B₁₁ le₁₁ zn370 N₂ => ?_; obtain ⟨oD, eD', cD, rfl⟩ := zn370) | obtain ⟨B₁₁, le₁₁, ⟨oD, eD', cD, rfl⟩, N₂⟩ := N₁.freeze (by first | exact List.mem_cons_self | exact List.mem_cons_of_mem _ List.mem_cons_self | simp)
      refine hq B₁₁ h₂₀ _ t' _ _ N₂.toExt (le₁₁ _ _ et₁₀) (MatV.mono _ _ _ _ (le₁₀.trans le₁₁) hv') (.inr ⟨hin, ?_⟩)
      rw [esol]
      rw [lpv] at hzs
      exact (LVm (eD') (pMono RatV.mono (X₄.le.trans (le₁₀.trans le₁₁)) hzs))
end
section
variable {prog : Program} {w : World} {A : Around} {E : Value → Shared → Prop} {s : Shared} {h : Heap} {tk : Nat} {B : Base} {Q : Value → Shared → Prop}

set_option maxHeartbeats 4000000 in
theorem pivot_row_ok (T : Tp (Mine.hd.heap_39 w.params) B) (sub : B.In h) (R : Room 1 A) {D : Addr} {as : List Addr} {F : List (List Int)} {n step : Nat} {t : Tok} (I : IM h D as F) (hF : F.length = n) (hr : ∀ r ∈ F, r.length = n) (hn : n ≤ 100) (hs : step < n)
    (hq : ∀ B' h' tk' t' r, Ext B h B' h' → step ≤ r → r < n → (F.getD r []).getD step 0 ≠ 0 → (∀ q, step ≤ q → q < r → (F.getD q []).getD step 0 = 0) → Q (.int (r : Nat) t') (mk s h' tk'))
    (hq' : ∀ B' h' tk', Ext B h B' h' → (∀ q, step ≤ q → q < n → (F.getD q []).getD step 0 = 0) → Q .none (mk s h' tk')) :
    wpAny (model prog w) A (call (.ref 145) [.ref D, .int step t]) Q E (mk s h tk) := by
  have la : as.length = n := by rw [I.len]; exact hF
  refine' enter (binds := [("a", .ref D), ("step", .int step t)]) [] T sub ?he .nil ?hB ?hf ?hcd ?hroom ?hbind ?hkind ?hh ?hcn ?hco ?hgen ?hk
  ((case he => exact fun _ h => absurd h List.not_mem_nil); (case hB => exact fun _ h => absurd h List.not_mem_nil))
  ((case hf => k_dflt k_is); (case hcd => k_dflt k_is); (case hroom => exact Room.lt (by assumption)); (case hbind => exact rfl); (case hkind => exact kindsX rfl); (case hcn => decide +kernel); (case hco => exact rfl); (case hgen => exact rfl); (case hk => exact rfl))
  intro L h₁ tk₁ hL S
  refine hideF S ?_
  intro hA8 hE8 hM8 hQ8 S
  refine wpAny_execs_cons (wpAny_For (Call_ ?_))
  try (refine hideQ ?_; intro hQ9)
  walk_at "N"
  refine cType (args_cons ?_)
  walk_at "N"
  refine args_cons (Call_ ?_)
  walk_at "N"
  refine cBuilt (args_cons ?_)
  walk_at "N"
  have I₁ := I.keeps fun b o e => S.keep b o (by first | exact List.mem_cons_self | exact List.mem_cons_of_mem _ List.mem_cons_self | simp) e
  refine args_nil (lenL I₁.top (by rw [List.length_map, la]; omega) fun t₁ tk₂ => args_nil ?_)
  refine mkRange2 S fun B₂ h₂ r₂ ta tb tc tk₃ le₂ er S₂ => ?_
  rw [List.length_map, la] at er
  refine iterR "row" R.quiet S₂ er (by exact om148) (by exact om189 hn hs) (by exact om148) (by exact om190 hn) fun h₃ It IT hN st S₃ => ?_
  have S₄ := S₃.forget (m' := mL [("a", .ref D), ("step", .int step t)]) (mL_known (by exact rfl))
  refine forLoop (fun i B m ps => m = mL [("a", .ref D), ("step", .int step t)] ∧ ps = [] ∧ ∀ q, step ≤ q → q < step + i → (F.getD q []).getD step 0 = 0)
    (IT _) (canL (List.mem_cons_self ..)) hN (List.mem_cons_self ..) S₄ st ⟨rfl, rfl, fun q h1 h2 => by exact om191 h1 h2⟩ ?_ ?_
  · intro i B₅ m₁ m₂ ps₁ h₅ tk₅ E' hi le zz10 zz11 N
    try (first | (refine hideC N ?_; intro hE9 hO9 hQ9 N) | (refine hideQ ?_; intro hQ9))
    first | (refine ob0_3 (zz10) fun zr411 zr412 hz => ?_; try clear zz10; subst zr411; subst zr412) | obtain ⟨rfl, rfl, hz⟩ := zz10
    first | (refine ob1_2 (zz11) fun _ zn413 zr415 => ?_; try clear zz11; refine ob1_1 zn413 fun tr zr414 => ?_; clear zn413; subst zr414; subst zr415) | (refine ob0_3 (zz11) fun _ zn416 zr418 => ?_; try clear zz11; refine ob1_1 zn416 fun tr zr417 => ?_; clear zn416; subst zr417; subst zr418) | obtain ⟨_, ⟨tr, rfl⟩, rfl⟩ := zz11
    try (refine hideM N ?_; intro hM9 N)
    have hin : step + i < n := by exact om192 hi
    have I₅ := I.keeps fun b o e => N.keep b o (by first | exact List.mem_cons_self | exact List.mem_cons_of_mem _ List.mem_cons_self | simp) e
    obtain ⟨a, ha⟩ : ∃ a, as[step + i]? = some a := ⟨_, List.getElem?_eq_getElem (by exact om193 la hin)⟩
    have hx := get_getD (F := F) [] (i := step + i) (by exact om193 hF hin)
    first | (refine ob2_1 (I₅.row _ _ _ ha hx) fun vs pl hp => ?_) | (refine ob1_2 (I₅.row _ _ _ ha hx) fun vs pl hp => ?_) | (refine ob0_3 (I₅.row _ _ _ ha hx) fun vs pl hp => ?_) | obtain ⟨vs, pl, hp⟩ := I₅.row _ _ _ ha hx
    have lr := hr _ (getD_mem (d := []) (show step + i < F.length by omega))
    first | (refine ob1_2 (pGet hp (get_getD 0 (i := step) (by exact om194 hin lr))) fun z hz1 zq => ?_; refine ob1_1 zq fun tz zr => ?_; clear zq; subst zr) | (refine ob3_1 (pGet hp (get_getD 0 (i := step) (by first | with_reducible assumption | with_reducible exact Int.natCast_nonneg _ | lia | omega))) fun z hz1 tz zr391 => ?_; subst zr391) | (refine ob2_2 (pGet hp (get_getD 0 (i := step) (by first | with_reducible assumption | with_reducible exact Int.natCast_nonneg _ | lia | omega))) fun z hz1 tz zr392 => ?_; subst zr392) | (refine ob1_3 (pGet hp (get_getD 0 (i := step) (by first | with_reducible assumption | with_reducible exact Int.natCast_nonneg _ | lia | omega))) fun z hz1 tz zr393 => ?_; subst zr393) | (refine ob0_4 (pGet hp (get_getD 0 (i := step) (by first | with_reducible assumption | with_reducible exact Int.natCast_nonneg _ | lia | omega))) fun z hz1 tz zr394 => ?_; subst zr394) | obtain ⟨z, hz1, tz, rfl⟩ := pGet hp (get_getD 0 (i := step) (by first | with_reducible assumption | with_reducible exact Int.natCast_nonneg _ | lia | omega))
    refine wpAny_execs_cons (wpAny_If (wpAny_isTrue_Compare1 (Subscript_ (Subscript_ ?_))))
    try (refine hideQ ?_; intro hQ9)
    walk_at "N"
    walk_at "N"
    refine itemL I₅.top (by exact om157) (by exact om158 hn hin) (by rw [List.getElem?_map, show ((step : Int) + (i : Int)).toNat = step + i by exact om159, ha]; rfl) ?_
    walk_at "N"
    refine itemL pl (by exact om23) (by exact om195 hn hin) (by rw [Int.toNat_natCast]; exact hz1) (cI fun _ tk₆ => PyProof.Rows.ne_int (wpAny_truthy_bool ?_))
    by_cases h0 : (F.getD (step + i) []).getD step 0 = 0
    · refine iteF (by simpa using h0) ?_
      refine wpAny_execs_nil (wpAny_execs_nil ?_)
      refine exI5 B₅ _ [] h₅ _ ⟨rfl, .rfl, ⟨rfl, rfl, fun q h1 h2 => ?_⟩, N.forget (mL_known (by exact rfl))⟩
      rcases Nat.lt_or_ge q (step + i) with h3 | h3
      · exact hz q h1 h3
      · rw [show q = step + i by exact om196 h2 h3]; exact h0
    · refine iteT (by simpa using h0) ?_
      refine wpAny_execs_cons (wpAny_Return_some ?_)
      try (refine hideQ ?_; intro hQ9)
      walk_at "N"
      have q := hq B₅ h₅ tk₆ tr (step + i) N.toExt (by exact om197) hin h0 hz
      rw [Int.natCast_add] at q
      exact q
  · intro B₅ m₁ ps₁ h₅ tk₅ le zz6 N
    try (first | (refine hideC N ?_; intro hE9 hO9 hQ9 N) | (refine hideQ ?_; intro hQ9))
    first | (refine ob0_3 (zz6) fun zr419 zr420 hz => ?_; try clear zz6; subst zr419; subst zr420) | obtain ⟨rfl, rfl, hz⟩ := zz6
    try (refine hideM N ?_; intro hM9 N)
    refine wpAny_execs_cons (wpAny_Return_some (cNone ?_))
    try (refine hideQ ?_; intro hQ9)
    exact hq' _ _ _ N.toExt fun q h1 h2 => hz q h1 (by exact om198 h2)

set_option maxHeartbeats 4000000 in
theorem bareiss_ok (T : Tp (Mine.hd.heap_39 w.params) B) (sub : B.In h) (R : Room 1 A) {D : Addr} {as : List Addr} {F : List (List Int)} {n step K : Nat} {t u : Tok} {ahead lead : Int} {prow : List Int} (htop : h.PlainList D (as.map Value.ref).toArray) (la : as.length = n) (hDa : D ∉ as)
    (he : Ents (zE as F) h) (hnd : as.Nodup) (hBa : ∀ a ∈ as, B a = none) (hF : F.length = n) (hr : ∀ r ∈ F, r.length = n) (hn : n ≤ 100) (hs : step < n) (hp0 : F[step]? = some prow) (hlead : prow.getD step 0 = lead)
    (hK : K ≤ 4000) (hb : ∀ r ∈ F, ∀ x ∈ r, Sm K x) (ha0 : ahead ≠ 0) (hab : Sm K ahead)
    (hq : ∀ B' h' tk', ExtW as B h B' h' → Ents (zE as (browsTo lead ahead prow step n (n - (step + 1)) F)) h' → Q .none (mk s h' tk')) :
    wpAny (model prog w) A (call (.ref 152) [.ref D, .int step t, .int ahead u]) Q E (mk s h tk) := by
  have laF : as.length = F.length := by exact om199 la hF
  have hfst := zE_fst laF
  refine' enter (binds := [("a", .ref D), ("step", .int step t), ("ahead", .int ahead u)]) (zE as F) T sub ?he (by rw [hfst]; exact hnd) ?hB ?hf ?hcd ?hroom ?hbind ?hkind ?hh ?hcn ?hco ?hgen ?hk
  case he => exact he
  case hB => intro a ha; rw [hfst] at ha; exact hBa a ha
  ((case hf => k_dflt k_is); (case hcd => k_dflt k_is); (case hroom => exact Room.lt (by assumption)); (case hbind => exact rfl); (case hkind => exact kindsX rfl); (case hcn => decide +kernel); (case hco => exact rfl); (case hgen => exact rfl); (case hk => exact rfl))
  intro L h₁ tk₁ hL S
  refine hideF S ?_
  intro hA8 hE8 hM8 hQ8 S
  rw [hfst] at S
  have lprow : prow.length = n := hr _ (List.mem_of_getElem? hp0)
  have bprow := hb _ (List.mem_of_getElem? hp0)
  obtain ⟨as0, has0⟩ : ∃ a, as[step]? = some a := ⟨_, List.getElem?_eq_getElem (by exact om200 hF hs laF)⟩
  have blead : Sm K lead := by rw [← hlead]; exact bprow _ (getD_mem (by exact om44 hs lprow))
  -- the top list, at any time
  have top : ∀ {own env B m ps h'}, Fm as B h₁ own env B m ps h' → True := fun _ => trivial
  have topS : ∀ {own : List Addr} {env : Env} {B₁ : Base} {m : Str → Option Value} {ps : List Ent} {h' : Heap}, Fm as B h own env B₁ m ps h' → h'.PlainList D (as.map Value.ref).toArray := fun N => htop.at fun o e => N.keep D o hDa e
  have rowM : ∀ {i : Nat} {a : Addr} {xs : List Int} {G : List (List Int)} {ps : List Ent}, as[i]? = some a → G[i]? = some xs → (a, IRowP xs) ∈ zE as G ++ ps := fun h1 h2 => List.mem_append_left _ (zE_mem h1 h2)
  refine wpAny_execs_cons (wpAny_Assign_Name (Subscript_ (Subscript_ ?_)))
  try (refine hideQ ?_; intro hQ9)
  walk_at "N"
  walk_at "N"
  first | (refine ob2_1 (S.row (zE_mem has0 hp0)) fun vp plp hpp => ?_) | (refine ob1_2 (S.row (zE_mem has0 hp0)) fun vp plp hpp => ?_) | (refine ob0_3 (S.row (zE_mem has0 hp0)) fun vp plp hpp => ?_) | obtain ⟨vp, plp, hpp⟩ := S.row (zE_mem has0 hp0)
  first | (refine ob1_2 (pGet hpp (get_getD 0 (i := step) (by exact om44 hs lprow))) fun zl hzl zq => ?_; refine ob1_1 zq fun tl zr => ?_; clear zq; subst zr) | (refine ob3_1 (pGet hpp (get_getD 0 (i := step) (by first | with_reducible assumption | with_reducible exact Int.natCast_nonneg _ | lia | omega))) fun zl hzl tl zr395 => ?_; subst zr395) | (refine ob2_2 (pGet hpp (get_getD 0 (i := step) (by first | with_reducible assumption | with_reducible exact Int.natCast_nonneg _ | lia | omega))) fun zl hzl tl zr396 => ?_; subst zr396) | (refine ob1_3 (pGet hpp (get_getD 0 (i := step) (by first | with_reducible assumption | with_reducible exact Int.natCast_nonneg _ | lia | omega))) fun zl hzl tl zr397 => ?_; subst zr397) | (refine ob0_4 (pGet hpp (get_getD 0 (i := step) (by first | with_reducible assumption | with_reducible exact Int.natCast_nonneg _ | lia | omega))) fun zl hzl tl zr398 => ?_; subst zr398) | obtain ⟨zl, hzl, tl, rfl⟩ := pGet hpp (get_getD 0 (i := step) (by first | with_reducible assumption | with_reducible exact Int.natCast_nonneg _ | lia | omega))
  refine itemL (topS S) (by exact om23) (by exact om175 hn hs) (by rw [List.getElem?_map, Int.toNat_natCast, has0]; rfl) ?_
  walk_at "N"
  refine itemL plp (by exact om23) (by exact om175 hn hs) (by rw [Int.toNat_natCast]; exact hzl) ?_
  rw [hlead]
  walk_at "storeName"
  intro h₂ tk₂ S₁
  refine wpAny_execs_cons (wpAny_For (Call_ ?_))
  try (refine hideQ ?_; intro hQ9)
  walk_at "N"
  refine cType (args_cons (wpAny_BinOp ?_))
  walk_at "N"
  refine cI fun _ tk₃ => addI fun _ tk₄ => args_cons (Call_ ?_)
  walk_at "N"
  refine cBuilt (args_cons ?_)
  walk_at "N"
  refine args_nil (lenL (topS S₁) (by rw [List.length_map, la]; omega) fun t₁ tk₅ => args_nil ?_)
  refine mkRange2 S₁ fun B₂ h₃ r₂ ta tb tc tk₆ le₂ er S₂ => ?_
  rw [List.length_map, la] at er
  refine iterR "row" R.quiet S₂ er (by exact om201) (by exact om202 hn hs) (by exact om148) (by exact om190 hn) fun h₄ It IT hN st S₃ => ?_
  have S₄ := S₃.forget (m' := mL [("a", .ref D), ("step", .int step t), ("ahead", .int ahead u), ("lead", .int lead tl)]) (mL_known (by exact rfl))
  have en : ((n : Int) - ((step : Int) + 1)).toNat = n - (step + 1) := by exact om203
  rw [en] at IT
  refine forLoop (fun i B m ps => m = mL [("a", .ref D), ("step", .int step t), ("ahead", .int ahead u), ("lead", .int lead tl)] ∧ ps = zE as (browsTo lead ahead prow step n i F))
    (IT _) (canL (List.mem_cons_self ..)) hN (List.mem_cons_self ..) S₄ st ⟨rfl, by rw [browsTo_zero]⟩ ?_ ?_
  · intro i B₅ m₁ m₂ ps₁ h₅ tk₅ E' hi le zz10 zz11 N
    try (first | (refine hideC N ?_; intro hE9 hO9 hQ9 N) | (refine hideQ ?_; intro hQ9))
    first | (refine ob0_2 (zz10) fun zr421 zr422 => ?_; try clear zz10; subst zr421; subst zr422) | obtain ⟨rfl, rfl⟩ := zz10
    first | (refine ob1_2 (zz11) fun _ zn423 zr425 => ?_; try clear zz11; refine ob1_1 zn423 fun tr zr424 => ?_; clear zn423; subst zr424; subst zr425) | (refine ob0_3 (zz11) fun _ zn426 zr428 => ?_; try clear zz11; refine ob1_1 zn426 fun tr zr427 => ?_; clear zn426; subst zr427; subst zr428) | obtain ⟨_, ⟨tr, rfl⟩, rfl⟩ := zz11
    try (refine hideM N ?_; intro hM9 N)
    have hin : step + 1 + i < n := by exact om204 hi
    obtain ⟨a, ha⟩ : ∃ a, as[step + 1 + i]? = some a := ⟨_, List.getElem?_eq_getElem (by exact om205 hF laF hin)⟩
    obtain ⟨xs, hx⟩ : ∃ xs, F[step + 1 + i]? = some xs := ⟨_, List.getElem?_eq_getElem (by exact om206 hF hin)⟩
    have hxm := List.mem_of_getElem? hx
    have lxs := hr _ hxm
    have bxs := hb _ hxm
    have hes := browsTo_succ lead ahead prow step n i F hx
    have hG : (browsTo lead ahead prow step n i F)[step + 1 + i]? = some xs := by rw [browsTo_keep (.inr (Nat.le_refl _))]; exact hx
    have hGs : (browsTo lead ahead prow step n i F)[step]? = some prow := by rw [browsTo_keep (.inl (Nat.le_refl _))]; exact hp0
    generalize browsTo lead ahead prow step n i F = G at *
    first | (refine ob2_1 (N.row (rowM ha hG)) fun vs pl hp => ?_) | (refine ob1_2 (N.row (rowM ha hG)) fun vs pl hp => ?_) | (refine ob0_3 (N.row (rowM ha hG)) fun vs pl hp => ?_) | obtain ⟨vs, pl, hp⟩ := N.row (rowM ha hG)
    first | (refine ob1_2 (pGet hp (get_getD 0 (i := step) (by exact om207 hin lxs))) fun z hz1 zq => ?_; refine ob1_1 zq fun tz zr => ?_; clear zq; subst zr) | (refine ob3_1 (pGet hp (get_getD 0 (i := step) (by first | with_reducible assumption | with_reducible exact Int.natCast_nonneg _ | lia | omega))) fun z hz1 tz zr399 => ?_; subst zr399) | (refine ob2_2 (pGet hp (get_getD 0 (i := step) (by first | with_reducible assumption | with_reducible exact Int.natCast_nonneg _ | lia | omega))) fun z hz1 tz zr400 => ?_; subst zr400) | (refine ob1_3 (pGet hp (get_getD 0 (i := step) (by first | with_reducible assumption | with_reducible exact Int.natCast_nonneg _ | lia | omega))) fun z hz1 tz zr401 => ?_; subst zr401) | (refine ob0_4 (pGet hp (get_getD 0 (i := step) (by first | with_reducible assumption | with_reducible exact Int.natCast_nonneg _ | lia | omega))) fun z hz1 tz zr402 => ?_; subst zr402) | obtain ⟨z, hz1, tz, rfl⟩ := pGet hp (get_getD 0 (i := step) (by first | with_reducible assumption | with_reducible exact Int.natCast_nonneg _ | lia | omega))
    have eri : ((step : Int) + 1 + (i : Int)).toNat = step + 1 + i := by exact om208
    refine wpAny_execs_cons (wpAny_Assign_Name (Subscript_ (Subscript_ ?_)))
    try (refine hideQ ?_; intro hQ9)
    walk_at "N"
    walk_at "N"
    refine itemL (topS N) (by exact om209) (by exact om210 hn hin) (by rw [List.getElem?_map, eri, ha]; rfl) ?_
    walk_at "N"
    refine itemL pl (by exact om23) (by exact om211 hn hin) (by rw [Int.toNat_natCast]; exact hz1) ?_
    have bf : Sm K (xs.getD step 0) := bxs _ (getD_mem (by exact om207 hin lxs))
    walk_at "storeName"
    intro h₆ tk₆ N₁
    refine wpAny_execs_cons (wpAny_For (Call_ ?_))
    try (refine hideQ ?_; intro hQ9)
    walk_at "N"
    refine cType (args_cons (wpAny_BinOp ?_))
    walk_at "N"
    refine cI fun _ tk₃ => addI fun _ tk₄ => args_cons (Call_ ?_)
    walk_at "N"
    refine cBuilt (args_cons ?_)
    walk_at "N"
    refine args_nil (lenL (topS N₁) (by rw [List.length_map, la]; omega) fun t₁ tk₅ => args_nil ?_)
    refine mkRange2 N₁ fun B₆ h₇ r₃ ta tb tc tk₇ le₆ er₃ N₂ => ?_
    rw [List.length_map, la] at er₃
    refine iterR "column" R.quiet N₂ er₃ (by exact om201) (by exact om212 hn hin) (by exact om148) (by exact om190 hn) fun h₈ It₂ IT₂ hN₂ st₂ N₃ => ?_
    have N₄ := N₃.forget (m' := mL [("a", .ref D), ("step", .int step t), ("ahead", .int ahead u), ("lead", .int lead tl), ("row", .int ((step : Int) + 1 + (i : Int)) tr), ("first", .int (xs.getD step 0) tz)]) (mL_known (by exact rfl))
    rw [en] at IT₂
    refine forLoop (fun j B m ps => m = mL [("a", .ref D), ("step", .int step t), ("ahead", .int ahead u), ("lead", .int lead tl), ("row", .int ((step : Int) + 1 + (i : Int)) tr), ("first", .int (xs.getD step 0) tz)] ∧ ps = zE as (G.set (step + 1 + i) (bcols lead ahead prow step j xs)) ++ Hold h₅ [It])
      (IT₂ _) (canL (List.mem_cons_self ..)) hN₂ (List.mem_cons_self ..) N₄ st₂ ⟨rfl, by rw [bcols_zero, set_same hG]⟩ ?_ ?_
    · intro j B₇ m₁ m₂ ps₁ h₉ tk₉ E₂ hj le₇ zz10 zz11 P
      try (first | (refine hideC P ?_; intro hE9 hO9 hQ9 P) | (refine hideQ ?_; intro hQ9))
      first | (refine ob0_2 (zz10) fun zr429 zr430 => ?_; try clear zz10; subst zr429; subst zr430) | obtain ⟨rfl, rfl⟩ := zz10
      first | (refine ob1_2 (zz11) fun _ zn431 zr433 => ?_; try clear zz11; refine ob1_1 zn431 fun tc zr432 => ?_; clear zn431; subst zr432; subst zr433) | (refine ob0_3 (zz11) fun _ zn434 zr436 => ?_; try clear zz11; refine ob1_1 zn434 fun tc zr435 => ?_; clear zn434; subst zr435; subst zr436) | obtain ⟨_, ⟨tc, rfl⟩, rfl⟩ := zz11
      try (refine hideM P ?_; intro hM9 P)
      have hjn : step + 1 + j < n := by exact om204 hj
      have hiG : step + 1 + i < G.length := (List.getElem?_eq_some_iff.mp hG).1
      have hG1 : (G.set (step + 1 + i) (bcols lead ahead prow step j xs))[step + 1 + i]? = some (bcols lead ahead prow step j xs) := by rw [List.getElem?_set, if_pos rfl, if_pos hiG]
      have hG2 : (G.set (step + 1 + i) (bcols lead ahead prow step j xs))[step]? = some prow := by rw [List.getElem?_set, if_neg (by exact om213)]; exact hGs
      rw [List.append_assoc] at P
      first | (refine ob2_1 (P.row (rowM ha hG1)) fun v1 pl1 hp1 => ?_) | (refine ob1_2 (P.row (rowM ha hG1)) fun v1 pl1 hp1 => ?_) | (refine ob0_3 (P.row (rowM ha hG1)) fun v1 pl1 hp1 => ?_) | obtain ⟨v1, pl1, hp1⟩ := P.row (rowM ha hG1)
      first | (refine ob2_1 (P.row (rowM has0 hG2)) fun v2 pl2 hp2 => ?_) | (refine ob1_2 (P.row (rowM has0 hG2)) fun v2 pl2 hp2 => ?_) | (refine ob0_3 (P.row (rowM has0 hG2)) fun v2 pl2 hp2 => ?_) | obtain ⟨v2, pl2, hp2⟩ := P.row (rowM has0 hG2)
      have hc1 : (bcols lead ahead prow step j xs)[step + 1 + j]? = some (xs.getD (step + 1 + j) 0) := by rw [bcols_keep (.inr (Nat.le_refl _))]; exact get_getD 0 (by exact om206 lxs hjn)
      first | (refine ob1_2 (pGet hp1 hc1) fun x1 hx1 zq => ?_; refine ob1_1 zq fun tx1 zr => ?_; clear zq; subst zr) | (refine ob3_1 (pGet hp1 hc1) fun x1 hx1 tx1 zr403 => ?_; subst zr403) | (refine ob2_2 (pGet hp1 hc1) fun x1 hx1 tx1 zr404 => ?_; subst zr404) | (refine ob1_3 (pGet hp1 hc1) fun x1 hx1 tx1 zr405 => ?_; subst zr405) | (refine ob0_4 (pGet hp1 hc1) fun x1 hx1 tx1 zr406 => ?_; subst zr406) | obtain ⟨x1, hx1, tx1, rfl⟩ := pGet hp1 hc1
      first | (refine ob1_2 (pGet hp2 (get_getD 0 (i := step + 1 + j) (by exact om206 lprow hjn))) fun x2 hx2 zq => ?_; refine ob1_1 zq fun tx2 zr => ?_; clear zq; subst zr) | (refine ob3_1 (pGet hp2 (get_getD 0 (i := step + 1 + j) (by first | with_reducible assumption | with_reducible exact Int.natCast_nonneg _ | lia | omega))) fun x2 hx2 tx2 zr407 => ?_; subst zr407) | (refine ob2_2 (pGet hp2 (get_getD 0 (i := step + 1 + j) (by first | with_reducible assumption | with_reducible exact Int.natCast_nonneg _ | lia | omega))) fun x2 hx2 tx2 zr408 => ?_; subst zr408) | (refine ob1_3 (pGet hp2 (get_getD 0 (i := step + 1 + j) (by first | with_reducible assumption | with_reducible exact Int.natCast_nonneg _ | lia | omega))) fun x2 hx2 tx2 zr409 => ?_; subst zr409) | (refine ob0_4 (pGet hp2 (get_getD 0 (i := step + 1 + j) (by first | with_reducible assumption | with_reducible exact Int.natCast_nonneg _ | lia | omega))) fun x2 hx2 tx2 zr410 => ?_; subst zr410) | obtain ⟨x2, hx2, tx2, rfl⟩ := pGet hp2 (get_getD 0 (i := step + 1 + j) (by first | with_reducible assumption | with_reducible exact Int.natCast_nonneg _ | lia | omega))
      have b1 : Sm K (xs.getD (step + 1 + j) 0) := bxs _ (getD_mem (by exact om206 lxs hjn))
      have b2 : Sm K (prow.getD (step + 1 + j) 0) := bprow _ (getD_mem (by exact om206 lprow hjn))
      have ecj : ((step : Int) + 1 + (j : Int)).toNat = step + 1 + j := by exact om208
      refine wpAny_execs_cons (wpAny_Assign_Subscript (wpAny_BinOp (wpAny_BinOp (wpAny_BinOp (Subscript_ (Subscript_ ?_))))))
      try (refine hideQ ?_; intro hQ9)
      walk_at "N"
      walk_at "N"
      refine itemL (topS P) (by exact om209) (by exact om210 hn hin) (by rw [List.getElem?_map, eri, ha]; rfl) ?_
      walk_at "N"
      refine itemL pl1 (by exact om209) (by exact om210 hn hjn) (by rw [ecj]; exact hx1) ?_
      walk_at "N"
      refine mulI b1 blead (by exact om214 hK) (by exact om214 hK) fun _ tk₁₀ => wpAny_BinOp ?_
      walk_at "N"
      refine Subscript_ (Subscript_ ?_)
      walk_at "N"
      walk_at "N"
      refine itemL (topS P) (by exact om23) (by exact om211 hn hjn) (by rw [List.getElem?_map, Int.toNat_natCast, has0]; rfl) ?_
      walk_at "N"
      refine itemL pl2 (by exact om209) (by exact om210 hn hjn) (by rw [ecj]; exact hx2) ?_
      refine mulI bf b2 (by exact om214 hK) (by exact om214 hK) fun _ tk₁₁ => subI fun _ tk₁₂ => ?_
      walk_at "N"
      refine divI ha0 hab (by exact om215 hK) fun _ tk₁₃ => Subscript_ ?_
      walk_at "N"
      walk_at "N"
      refine itemL (topS P) (by exact om209) (by exact om210 hn hin) (by rw [List.getElem?_map, eri, ha]; rfl) ?_
      walk_at "N"
      refine setRow P ha hG1 (k := step + 1 + j) (by exact om216) (by exact om217 hn hjn) (by rw [bcols_len]; omega) fun h₁₀ P₁ => ?_
      refine wpAny_execs_nil ?_
      rw [List.set_set] at P₁
      refine exI5 B₇ _ (zE as (G.set (step + 1 + i) (bcols lead ahead prow step (j + 1) xs)) ++ Hold h₅ [It]) h₁₀ _ ⟨rfl, .rfl, ⟨rfl, rfl⟩, ?_⟩
      rw [bcols_succ, List.append_assoc]
      exact P₁.forget (mL_known (by exact rfl))
    · intro B₇ m₁ ps₁ h₉ tk₉ le₇ zz6 P
      try (first | (refine hideC P ?_; intro hE9 hO9 hQ9 P) | (refine hideQ ?_; intro hQ9))
      first | (refine ob0_2 (zz6) fun zr437 zr438 => ?_; try clear zz6; subst zr437; subst zr438) | obtain ⟨rfl, rfl⟩ := zz6
      try (refine hideM P ?_; intro hM9 P)
      have hiG : step + 1 + i < G.length := (List.getElem?_eq_some_iff.mp hG).1
      have hG1 : (G.set (step + 1 + i) (bcols lead ahead prow step (n - (step + 1)) xs))[step + 1 + i]? = some (bcols lead ahead prow step (n - (step + 1)) xs) := by rw [List.getElem?_set, if_pos rfl, if_pos hiG]
      refine wpAny_execs_cons (wpAny_Assign_Subscript (cI fun _ tk₁₀ => Subscript_ ?_))
      try (refine hideQ ?_; intro hQ9)
      walk_at "N"
      walk_at "N"
      refine itemL (topS P) (by exact om209) (by exact om210 hn hin) (by rw [List.getElem?_map, eri, ha]; rfl) ?_
      walk_at "N"
      refine setRow P ha hG1 (k := step) rfl (by exact om218 hn hin) (by rw [bcols_len]; omega) fun h₁₀ P₁ => ?_
      refine wpAny_execs_nil ?_
      rw [List.set_set] at P₁
      refine exI5 B₇ _ (zE as (G.set (step + 1 + i) (brow lead ahead prow step n xs))) h₁₀ _ ⟨rfl, le₆.trans le₇, ⟨rfl, by rw [hes]⟩, ?_⟩
      exact P₁.forget (mL_known (by exact rfl))
  · intro B₅ m₁ ps₁ h₅ tk₅ le zz6 N
    try (first | (refine hideC N ?_; intro hE9 hO9 hQ9 N) | (refine hideQ ?_; intro hQ9))
    first | (refine ob0_2 (zz6) fun zr439 zr440 => ?_; try clear zz6; subst zr439; subst zr440) | obtain ⟨rfl, rfl⟩ := zz6
    try (refine hideM N ?_; intro hM9 N)
    refine wpAny_execs_nil ?_
    exact hq _ _ _ N.toExtW N.ents
end
section
variable {prog : Program} {w : World} {A : Around} {E : Value → Shared → Prop} {s : Shared} {h : Heap} {tk : Nat} {B : Base} {Q : Value → Shared → Prop}

set_option maxHeartbeats 4000000 in
theorem determinant_ok (T : Tp (Mine.hd.heap_39 w.params) B) (sub : B.In h) (R : Room 2 A) {M : List (List Int)} {v : Value} {n k : Nat} (hv : IMatV B M v) (hM : Sq n M) (hn : n ≤ 100) (hb : SmM k M) (hk0 : 0 < k) (hk : (k + 1) * 2 ^ n ≤ 4000) (hG : Good M)
    (hq : ∀ B' h' tk' t, Ext B h B' h' → Q (.int (detV M) t) (mk s h' tk')) :
    wpAny (model prog w) A (call (.ref 157) [v]) Q E (mk s h tk) := by
  first | (refine ob3_3 (hv) fun l vs c zr441 hl hp => ?_; try clear hv; subst zr441) | (refine ob2_4 (hv) fun l vs c zr442 hl hp => ?_; try clear hv; subst zr442) | (refine ob1_5 (hv) fun l vs c zr443 hl hp => ?_; try clear hv; subst zr443) | (refine ob0_6 (hv) fun l vs c zr444 hl hp => ?_; try clear hv; subst zr444) | obtain ⟨l, vs, c, rfl, hl, hp⟩ := hv
  have len : vs.length = n := by rw [pLen hp]; exact hM.1
  refine' enter (binds := [("a", .ref l)]) [] T sub ?he .nil ?hB ?hf ?hcd ?hroom ?hbind ?hkind ?hh ?hcn ?hco ?hgen ?hk
  ((case he => exact fun _ h => absurd h List.not_mem_nil); (case hB => exact fun _ h => absurd h List.not_mem_nil))
  ((case hf => k_dflt k_is); (case hcd => k_dflt k_is); (case hroom => exact Room.lt (by assumption)); (case hbind => exact rfl); (case hkind => exact kindsX rfl); (case hcn => decide +kernel); (case hco => exact rfl); (case hgen => exact rfl); (case hk => exact rfl))
  intro L h₁ tk₁ hL S
  refine hideF S ?_
  intro hA8 hE8 hM8 hQ8 S
  refine wpAny_execs_cons (wpAny_If (wpAny_isTrue_Compare1 ?_))
  try (refine hideQ ?_; intro hQ9)
  refine' comp_start [("a", L + 1)] ?hcl2 ?hk2 ?hn2 ?hg2 ?hs2
  case hcl2 => rfl
  case hk2 => rfl
  case hn2 => decide
  case hs2 => exact fun _ => rfl
  walk_at "N"
  refine iterL "row" R.quiet S hl fun h₂ I IT hN st S₂ => ?_
  refine comp_pure (ps := []) (fun i B₁ ys => ys = []) (IT _) hN st S₂ (List.mem_cons_self ..) rfl (fun _ _ _ _ g => g) (fits (by exact om165 hn len)) ["a"] (by (repeat' (first | exact List.forall_mem_nil _ | refine List.forall_mem_cons.mpr ⟨⟨rfl, rfl, rfl⟩, ?_⟩))) (fun _ => rfl) (by decide +kernel) (fun C => canL (List.mem_cons_self ..)) ?_ ?_
  · rintro C D i B₁ m₂ ys h₃ tk₂ E' hi _ le rfl ⟨y, hy, rfl⟩ F
    try (refine hideQ ?_; intro hQ9)
    first | (refine ob1_2 (pGet' hp hy) fun r hr zq => ?_; refine ob3_3 zq fun lr vr cr zr hlr hpr => ?_; clear zq; subst zr) | (refine ob5_3 (pGet' hp hy) fun r hr lr vr cr zr445 hlr hpr => ?_; subst zr445) | (refine ob4_4 (pGet' hp hy) fun r hr lr vr cr zr446 hlr hpr => ?_; subst zr446) | (refine ob3_5 (pGet' hp hy) fun r hr lr vr cr zr447 hlr hpr => ?_; subst zr447) | (refine ob2_6 (pGet' hp hy) fun r hr lr vr cr zr448 hlr hpr => ?_; subst zr448) | (refine ob1_7 (pGet' hp hy) fun r hr lr vr cr zr449 hlr hpr => ?_; subst zr449) | obtain ⟨r, hr, lr, vr, cr, rfl, hlr, hpr⟩ := pGet' hp hy
    have lenr : vr.length = n := by rw [pLen hpr]; exact hM.2 r (List.mem_of_getElem? hr)
    refine tests_one (wpAny_isTrue_Compare1 (Call_ ?_))
    walk_at "N"
    refine cBuilt (args_cons ?_)
    walk_at "N"
    refine args_nil (lenL (pln_of F.sub (le _ _ hlr)) (by exact om152 hn lenr) fun t₁ tk₃ => Call_ ?_)
    walk_at "N"
    refine cBuilt (args_cons ?_)
    walk_at "N"
    refine args_nil (lenL (pln_of F.sub (le _ _ hl)) (by exact om152 hn len) fun t₂ tk₄ => PyProof.Rows.ne_int (wpAny_truthy_bool ?_))
    refine iteF (by rw [bne_iff_ne]; omega) ?_
    exact exI4 B₁ _ h₃ _ ⟨rfl, .rfl, rfl, mc_upd rfl, F⟩
  intro C D B₂ c₂ ys h₃ tk₂ hC le g _ eD F
  subst g
  refine comp_none F (List.mem_cons_self ..) (fun x c hc q => hC.2 x c hc (List.mem_singleton.mpr q)) (hC.1 _ (List.mem_singleton.mpr rfl)) fun h₄ F₁ => List_ (args_nil ?_)
  refine mkLstB F₁ fun B₃ h₅ l₃ le₃ e₃ F₂ => ?_
  refine neInts (ns := []) (ms := []) (B := B₃) (pln_of F₂.sub (le₃ _ _ eD)) (pln_of F₂.sub e₃) .nil .nil ((R.deeper _).le (Nat.le_of_ble_eq_true rfl)) (wpAny_truthy_bool ?_)
  refine iteF (by decide) ?_
  refine wpAny_execs_nil (wpAny_execs_cons (Assign_Tuple_swapped (names := ["found", "sign", "ahead"]) (Tuple_ (args_cons ?_))))
  try (refine hideQ ?_; intro hQ9)
  refine' comp_start [] ?hcl3 ?hk3 ?hn3 ?hg3 ?hs3
  case hcl3 => rfl
  case hk3 => rfl
  case hn3 => decide
  case hs3 => exact fun _ => rfl
  walk_at "N"
  refine iterL "row" R.quiet F₂ (F₂.mono _ _ hl) fun h₆ I₂ IT₂ hN₂ st₂ F₃ => ?_
  have hp3 := pMono IntsV.mono F₂.mono hp
  have T₃ := T.le F₂.mono
  refine comp_go (psW := []) (psR := []) (fun i B₁ psN psW₁ ys => psW₁ = [] ∧ ∃ as, ys = as.map Value.ref ∧ as.length = i ∧ psN = zE as (M.take i)) (IT₂ _) hN₂ (List.mem_cons_self ..) (fun _ _ _ q => by cases q) F₃ st₂ ⟨rfl, [], rfl, rfl, rfl⟩ (fits (by exact om165 hn len))
    [] (fun p hp => by cases hp) (fun _ => rfl) .nil (fun C => canL (List.mem_cons_self ..)) ?_ ?_
  · intro C D i B₄ m₂ psN psW₁ ys h₇ tk₃ E' _ _ hi _ le₄ _ zz17 zz18 G
    try (first | (refine hideC G ?_; intro hE9 hO9 hQ9 G) | (refine hideQ ?_; intro hQ9))
    first | (refine ob0_5 (zz17) fun zr459 as zr460 las zr461 => ?_; try clear zz17; subst zr459; subst zr460; subst zr461) | obtain ⟨rfl, as, rfl, las, rfl⟩ := zz17
    first | (refine ob2_1 (zz18) fun y hy zr462 => ?_; try clear zz18; subst zr462) | (refine ob1_2 (zz18) fun y hy zr463 => ?_; try clear zz18; subst zr463) | (refine ob0_3 (zz18) fun y hy zr464 => ?_; try clear zz18; subst zr464) | obtain ⟨y, hy, rfl⟩ := zz18
    try (refine hideM G ?_; intro hM9 G)
    refine tests_nil ?_
    refine iteT rfl ?_
    first | (refine ob1_2 (pGet' hp3 hy) fun r hr zq => ?_; refine ob3_3 zq fun lr vr cr zr hlr hpr => ?_; clear zq; subst zr) | (refine ob5_3 (pGet' hp3 hy) fun r hr lr vr cr zr450 hlr hpr => ?_; subst zr450) | (refine ob4_4 (pGet' hp3 hy) fun r hr lr vr cr zr451 hlr hpr => ?_; subst zr451) | (refine ob3_5 (pGet' hp3 hy) fun r hr lr vr cr zr452 hlr hpr => ?_; subst zr452) | (refine ob2_6 (pGet' hp3 hy) fun r hr lr vr cr zr453 hlr hpr => ?_; subst zr453) | (refine ob1_7 (pGet' hp3 hy) fun r hr lr vr cr zr454 hlr hpr => ?_; subst zr454) | obtain ⟨r, hr, lr, vr, cr, rfl, hlr, hpr⟩ := pGet' hp3 hy
    have lenr : vr.length = n := by rw [pLen hpr]; exact hM.2 r (List.mem_of_getElem? hr)
    refine Call_ ?_
    walk_at "N"
    refine cType (args_cons ?_)
    walk_at "N"
    refine args_nil (copyP G (pln_of G.sub (le₄ _ _ hlr)) (fits (by exact om165 hn lenr)) fun h₈ D' hnD G₁ => ?_)
    have hin : i < M.length := (List.getElem?_eq_some_iff.mp hr).1
    have etk : M.take (i + 1) = M.take i ++ [r] := by rw [List.take_add_one, hr]; rfl
    have hsn : zE (as ++ [D']) (M.take i ++ [r]) = zE as (M.take i) ++ [(D', IRowP r)] := zE_snoc (by rw [List.length_take]; omega)
    have G₂ := G₁.perm (ps' := (zE as (M.take i) ++ [(D', LstP vr)] ++ [] ++ [(D, LstP (as.map Value.ref))]) ++ Hold h₇ [I₂]) (by
      simp only [List.append_assoc, List.nil_append, List.singleton_append]
      exact List.perm_middle.symm)
    have G₃ := G₂.imp (ps' := (zE as (M.take i) ++ [(D', IRowP r)] ++ [] ++ [(D, LstP (as.map Value.ref))]) ++ Hold h₇ [I₂]) (by first | exact List.mem_cons_self | exact List.mem_cons_of_mem _ List.mem_cons_self | simp) fun p hp => by
      by_cases q : p = (D', IRowP r)
      · rw [q]
        first | (refine ob2_1 (G₂.ents (D', LstP vr) (by first | exact List.mem_cons_self | exact List.mem_cons_of_mem _ List.mem_cons_self | simp)) fun o eo po => ?_) | (refine ob1_2 (G₂.ents (D', LstP vr) (by first | exact List.mem_cons_self | exact List.mem_cons_of_mem _ List.mem_cons_self | simp)) fun o eo po => ?_) | (refine ob0_3 (G₂.ents (D', LstP vr) (by first | exact List.mem_cons_self | exact List.mem_cons_of_mem _ List.mem_cons_self | simp)) fun o eo po => ?_) | obtain ⟨o, eo, po⟩ := G₂.ents (D', LstP vr) (by first | exact List.mem_cons_self | exact List.mem_cons_of_mem _ List.mem_cons_self | simp)
        exact ⟨o, eo, vr, po, hpr⟩
      · exact G₂.ents p (by
          simp only [List.mem_append, List.mem_singleton] at hp ⊢
          rcases hp with (((z | z) | z) | z) | z
          · exact .inl (.inl (.inl (.inl z)))
          · exact absurd z q
          · cases z
          · exact .inl (.inr z)
          · exact .inr z)
    rw [← hsn, ← etk] at G₃
    exact exI6 B₄ _ _ [] h₈ _ ⟨rfl, .rfl, rfl, ⟨rfl, as ++ [D'], by simp, by simp [las], rfl⟩, mc_upd rfl, G₃⟩
  intro C D' B₄ psN psW₂ ys h₇ tk₃ hD' hC' le₄ _ ⟨hw, as, hys, las, hps⟩ _ G
  subst hw hys hps
  have nC := F₃.newW (wr := [C]) fun a ha => by rw [List.mem_singleton.mp ha]; exact none_ge hC'
  have hMl := hM.1
  have las' : as.length = M.length := by exact om219 len las hMl
  have etk : M.take vs.length = M := List.take_of_length_le (by exact om220 las las')
  rw [etk] at G
  refine comp_none G (List.mem_cons_self ..) (fun x c hc q => nC.2 x c hc (List.mem_singleton.mpr q)) (nC.1 _ (List.mem_singleton.mpr rfl)) fun h₈ G₁ => ?_
  refine args_cons (cI fun ts tk₄ => args_cons (cI fun ta tk₅ => args_nil (mkTup G₁ fun B₅ h₉ t' le₅ et G₂ => ?_)))
  refine unpk R.quiet G₂ et rfl fun h₁₀ G₃ => ?_
  refine assignInOrder_cons (wpAny_bindName ?_)
  walk_at "storeName"
  intro h₁₁ tk₆ G₄
  refine assignInOrder_cons (wpAny_bindName ?_)
  walk_at "storeName"
  intro h₁₂ tk₇ G₅
  refine assignInOrder_cons (wpAny_bindName ?_)
  walk_at "storeName"
  intro h₁₃ tk₈ G₆
  refine assignInOrder_nil (wpAny_execs_cons (wpAny_For (Call_ ?_)))
  try (refine hideQ ?_; intro hQ9)
  walk_at "N"
  refine cType (args_cons (Call_ ?_))
  walk_at "N"
  refine cBuilt (args_cons ?_)
  walk_at "N"
  refine args_nil (lenL (pln_of G₆.sub (G₆.mono _ _ hl)) (by exact om221 hn las hMl las') fun t₁ tk₉ => args_nil ?_)
  refine mkRange1 G₆ fun B₆ h₁₄ r₂ ta2 tb2 tc2 tk₁₀ le₆ er G₇ => ?_
  refine iterR "step" R.quiet G₇ er (by decide) (by decide) (by exact om148) (by exact om222 hn las hMl las') fun h₁₅ It IT hN st G₈ => ?_
  have en : ((vs.length : Int) - 0).toNat = n := by exact om223 las hMl las'
  rw [en] at IT
  have G₉ := G₈.forget (m' := mL [("found", .ref D'), ("sign", .int 1 ts), ("ahead", .int 1 ta)]) (mL_known (by exact rfl))
  refine forLoop (fun c B m ps => ∃ t, m = mL [("found", .ref D'), ("sign", .int 1 ts), ("ahead", .int (dRun M c).2 t)] ∧ ps = zE as (dRun M c).1 ++ [(D', LstP (as.map Value.ref))] ∧ ∀ d, d < c → 0 < piv M d)
    (IT _) (canL (List.mem_cons_self ..)) hN (List.mem_cons_self ..) (by simpa [dRun] using G₉) st ⟨ta, rfl, rfl, fun d hd => by exact om224 hd⟩ ?_ ?_
  · intro c B₇ m₁ m₂ ps₁ h₁₆ tk₁₁ E' hc le₇ zz10 zz11 N
    try (first | (refine hideC N ?_; intro hE9 hO9 hQ9 N) | (refine hideQ ?_; intro hQ9))
    first | (refine ob1_3 (zz10) fun ta' zr465 zr466 hpos => ?_; try clear zz10; subst zr465; subst zr466) | (refine ob0_4 (zz10) fun ta' zr467 zr468 hpos => ?_; try clear zz10; subst zr467; subst zr468) | obtain ⟨ta', rfl, rfl, hpos⟩ := zz10
    first | (refine ob1_2 (zz11) fun _ zn469 zr471 => ?_; try clear zz11; refine ob1_1 zn469 fun tr zr470 => ?_; clear zn469; subst zr470; subst zr471) | (refine ob0_3 (zz11) fun _ zn472 zr474 => ?_; try clear zz11; refine ob1_1 zn472 fun tr zr473 => ?_; clear zn472; subst zr473; subst zr474) | obtain ⟨_, ⟨tr, rfl⟩, rfl⟩ := zz11
    try (refine hideM N ?_; intro hM9 N)
    first | (refine ob3_1 (dRun_ok hM hb hk0 c (by first | with_reducible assumption | with_reducible exact Int.natCast_nonneg _ | lia | omega) hpos) fun hSq hSm hah hahS => ?_) | (refine ob2_2 (dRun_ok hM hb hk0 c (by first | with_reducible assumption | with_reducible exact Int.natCast_nonneg _ | lia | omega) hpos) fun hSq hSm hah hahS => ?_) | (refine ob1_3 (dRun_ok hM hb hk0 c (by first | with_reducible assumption | with_reducible exact Int.natCast_nonneg _ | lia | omega) hpos) fun hSq hSm hah hahS => ?_) | (refine ob0_4 (dRun_ok hM hb hk0 c (by exact om111 hc) hpos) fun hSq hSm hah hahS => ?_) | obtain ⟨hSq, hSm, hah, hahS⟩ := dRun_ok hM hb hk0 c (by first | with_reducible assumption | with_reducible exact Int.natCast_nonneg _ | lia | omega) hpos
    have hbd : (k + 1) * 2 ^ c ≤ 4000 := Nat.le_trans (Nat.mul_le_mul_left _ (Nat.pow_le_pow_right (by decide) (by exact om111 hc))) hk
    have hg := hG c (by exact om50 hMl hc) hpos
    have T₇ := T.le N.mono
    have im : IM h₁₆ D' as (dRun M c).1 := N.im (by first | exact List.mem_cons_self | exact List.mem_cons_of_mem _ List.mem_cons_self | simp) (by rw [hSq.1]; omega) fun p hp => List.mem_append_left _ (List.mem_append_left _ hp)
    refine wpAny_execs_cons (wpAny_Assign_Name (Call_ ?_))
    try (refine hideQ ?_; intro hQ9)
    walk_at "N"
    refine callF T₇ (by k_dflt k_is) (args_cons ?_)
    walk_at "N"
    refine args_cons ?_
    walk_at "N"
    refine args_nil ⟨N.sub, ?_⟩
    rw [Int.zero_add]
    refine pivot_row_ok (n := n) (F := (dRun M c).1) T₇ N.sub ((R.deeper _).le (Nat.le_of_ble_eq_true rfl)) im hSq.1 hSq.2 hn hc (fun B₈ h₁₇ tk₁₂ t₈ r X hr1 hr2 hr3 hr4 => ?_) fun B₈ h₁₇ tk₁₂ X hz => ?_
    · have hpc : piv M c ≠ 0 := fun e => hr3 (hg.2 e r hr1 (by exact om50 hMl hr2))
      have hpp : 0 < piv M c := by have := hg.1; exact om225 hpc this
      have hrc : r = c := by
        rcases Nat.lt_or_ge c r with h1 | h1
        · exact absurd (hr4 c (Nat.le_refl _) h1) hpc
        · exact om226 hr1 h1
      subst hrc
      have N₁ := N.ext X
      walk_at "storeName"
      intro h₁₈ tk₁₃ N₂
      refine wpAny_execs_cons (wpAny_If (wpAny_isTrue_Compare1 ?_))
      try (refine hideQ ?_; intro hQ9)
      walk_at "N"
      refine cNone (is_none_ne (by first | exact List.mem_cons_self | exact List.mem_cons_of_mem _ List.mem_cons_self | simp) (wpAny_truthy_bool ?_))
      refine iteF (by decide) ?_
      refine wpAny_execs_nil (wpAny_execs_cons (wpAny_If (wpAny_isTrue_Compare1 ?_)))
      try (refine hideQ ?_; intro hQ9)
      walk_at "N"
      walk_at "N"
      refine PyProof.Rows.ne_int (wpAny_truthy_bool ?_)
      refine iteF (by first | exact List.mem_cons_self | exact List.mem_cons_of_mem _ List.mem_cons_self | simp) ?_
      refine wpAny_execs_nil (wpAny_execs_cons (wpAny_Expr (Call_ ?_)))
      try (refine hideQ ?_; intro hQ9)
      walk_at "N"
      have T₈ := T.le N₂.mono
      refine callF T₈ (by k_dflt k_is) (args_cons ?_)
      walk_at "N"
      refine args_cons ?_
      walk_at "N"
      refine args_cons ?_
      walk_at "N"
      refine args_nil ⟨N₂.sub, ?_⟩
      rw [Int.zero_add]
      have la1 : as.length = (dRun M r).1.length := by rw [hSq.1]; exact om227 hMl las'
      have nd := N₂.nodup
      rw [List.map_append, List.map_append, zE_fst la1] at nd
      have nd2 := (List.nodup_append.mp (List.nodup_append.mp (List.nodup_append.mp nd).2.1).1)
      have hprow : (dRun M r).1[r]? = some ((dRun M r).1.getD r []) := by
        rw [List.getD_eq_getElem?_getD, List.getElem?_eq_getElem (by rw [hSq.1]; exact hc)]; rfl
      refine bareiss_ok (n := n) (F := (dRun M r).1) (K := 4000) (lead := piv M r) (prow := (dRun M r).1.getD r []) T₈ N₂.sub ((R.deeper _).le (Nat.le_of_ble_eq_true rfl)) (N₂.plain (by first | exact List.mem_cons_self | exact List.mem_cons_of_mem _ List.mem_cons_self | simp)) (by exact om227 hMl las') (fun q => nd2.2.2 D' q D' (by first | exact List.mem_cons_self | exact List.mem_cons_of_mem _ List.mem_cons_self | simp) rfl)
        (fun p hp => N₂.ents p (List.mem_append_left _ (List.mem_append_left _ hp))) nd2.1 (fun a ha => N₂.apart a (List.mem_append_right _ (by rw [List.map_append, List.map_append, zE_fst la1]; exact List.mem_append_left _ (List.mem_append_left _ ha))))
        hSq.1 hSq.2 hn hc hprow rfl (Nat.le_refl _) (fun r hr x hx => (hSm r hr x hx).le (by exact om228 hbd)) (by exact om105 hah) (hahS.le (by exact om228 hbd)) fun B₉ h₁₉ tk₁₄ X₂ he₂ => ?_
      have hSq2 : Sq n (dRun M (r + 1)).1 := (dRun_ok hM hb hk0 (r + 1) (by exact om124 hc) fun d hd => by
        rcases Nat.lt_or_ge d r with h1 | h1
        · exact hpos d h1
        · rw [show d = r by exact om76 hd h1]; exact hpp).1
      have he₃ : Ents (zE as (dRun M (r + 1)).1) h₁₉ := by
        show Ents (zE as (browsTo _ _ _ _ M.length (M.length - (r + 1)) _)) h₁₉
        rw [hMl]; exact he₂
      rw [List.append_assoc] at N₂
      have N₃ := N₂.extWs X₂ la1 (by rw [hSq2.1]; omega) he₃
      refine wpAny_execs_cons (wpAny_Assign_Name (Subscript_ (Subscript_ ?_)))
      try (refine hideQ ?_; intro hQ9)
      walk_at "N"
      walk_at "N"
      obtain ⟨a, ha⟩ : ∃ a, as[r]? = some a := ⟨_, List.getElem?_eq_getElem (by exact om229 hMl las' hc)⟩
      have hk2 : (dRun M (r + 1)).1[r]? = some ((dRun M r).1.getD r []) := by
        show (browsTo _ _ _ _ _ _ _)[r]? = _
        rw [browsTo_keep (.inl (Nat.le_refl _))]; exact hprow
      first | (refine ob2_1 (N₃.row (List.mem_append_left _ (zE_mem ha hk2))) fun v3 pl3 hp3' => ?_) | (refine ob1_2 (N₃.row (List.mem_append_left _ (zE_mem ha hk2))) fun v3 pl3 hp3' => ?_) | (refine ob0_3 (N₃.row (List.mem_append_left _ (zE_mem ha hk2))) fun v3 pl3 hp3' => ?_) | obtain ⟨v3, pl3, hp3'⟩ := N₃.row (List.mem_append_left _ (zE_mem ha hk2))
      have l3 : ((dRun M r).1.getD r []).length = n := hSq.2 _ (getD_mem' (by rw [hSq.1]; exact hc))
      first | (refine ob1_2 (pGet hp3' (get_getD 0 (i := r) (by exact om44 hc l3))) fun z hz zq => ?_; refine ob1_1 zq fun tz zr => ?_; clear zq; subst zr) | (refine ob3_1 (pGet hp3' (get_getD 0 (i := r) (by first | with_reducible assumption | with_reducible exact Int.natCast_nonneg _ | lia | omega))) fun z hz tz zr455 => ?_; subst zr455) | (refine ob2_2 (pGet hp3' (get_getD 0 (i := r) (by first | with_reducible assumption | with_reducible exact Int.natCast_nonneg _ | lia | omega))) fun z hz tz zr456 => ?_; subst zr456) | (refine ob1_3 (pGet hp3' (get_getD 0 (i := r) (by first | with_reducible assumption | with_reducible exact Int.natCast_nonneg _ | lia | omega))) fun z hz tz zr457 => ?_; subst zr457) | (refine ob0_4 (pGet hp3' (get_getD 0 (i := r) (by first | with_reducible assumption | with_reducible exact Int.natCast_nonneg _ | lia | omega))) fun z hz tz zr458 => ?_; subst zr458) | obtain ⟨z, hz, tz, rfl⟩ := pGet hp3' (get_getD 0 (i := r) (by first | with_reducible assumption | with_reducible exact Int.natCast_nonneg _ | lia | omega))
      refine itemL (N₃.plain (a := D') (vs := as.map Value.ref) (by first | exact List.mem_cons_self | exact List.mem_cons_of_mem _ List.mem_cons_self | simp)) (by exact om160) (by exact om161 hn hc) (by rw [Int.zero_add, List.getElem?_map, Int.toNat_natCast, ha]; rfl) ?_
      walk_at "N"
      refine itemL pl3 (by exact om160) (by exact om161 hn hc) (by rw [Int.zero_add, Int.toNat_natCast]; exact hz) ?_
      walk_at "storeName"
      intro h₂₀ tk₁₅ N₄
      refine wpAny_execs_nil ?_
      refine exI5 B₉ _ (zE as (dRun M (r + 1)).1 ++ [(D', LstP (as.map Value.ref))]) h₂₀ _ ⟨rfl, X.le.trans X₂.le, ⟨tz, rfl, rfl, fun d hd => ?_⟩, ?_⟩
      · rcases Nat.lt_or_ge d r with h1 | h1
        · exact hpos d h1
        · rw [show d = r by exact om76 hd h1]; exact hpp
      · rw [List.append_assoc]
        exact N₄.forget (mL_known (by exact rfl))
    · have N₁ := N.ext X
      walk_at "storeName"
      intro h₁₈ tk₁₃ N₂
      refine wpAny_execs_cons (wpAny_If (wpAny_isTrue_Compare1 ?_))
      try (refine hideQ ?_; intro hQ9)
      walk_at "N"
      refine cNone (is_none_none (wpAny_truthy_bool ?_))
      refine iteT rfl ?_
      refine wpAny_execs_cons (wpAny_Return_some (cI fun t₉ tk₁₄ => ?_))
      try (refine hideQ ?_; intro hQ9)
      have e0 : detV M = 0 := by
        rw [detV, if_neg]
        intro q
        have h1 := q c (by exact om50 hMl hc)
        have h2 : piv M c = 0 := hz c (Nat.le_refl _) hc
        (first | with_reducible assumption | with_reducible exact Int.natCast_nonneg _ | lia | omega)
      have q := hq _ _ tk₁₄ t₉ N₂.toExt
      rw [e0] at q
      exact q
  · intro B₇ m₁ ps₁ h₁₆ tk₁₁ le₇ zz6 N
    try (first | (refine hideC N ?_; intro hE9 hO9 hQ9 N) | (refine hideQ ?_; intro hQ9))
    first | (refine ob1_3 (zz6) fun ta' zr475 zr476 hpos => ?_; try clear zz6; subst zr475; subst zr476) | (refine ob0_4 (zz6) fun ta' zr477 zr478 hpos => ?_; try clear zz6; subst zr477; subst zr478) | obtain ⟨ta', rfl, rfl, hpos⟩ := zz6
    try (refine hideM N ?_; intro hM9 N)
    first | (refine ob3_1 (dRun_ok hM hb hk0 n (Nat.le_refl _) hpos) fun hSq hSm hah hahS => ?_) | (refine ob2_2 (dRun_ok hM hb hk0 n (Nat.le_refl _) hpos) fun hSq hSm hah hahS => ?_) | (refine ob1_3 (dRun_ok hM hb hk0 n (Nat.le_refl _) hpos) fun hSq hSm hah hahS => ?_) | (refine ob0_4 (dRun_ok hM hb hk0 n (Nat.le_refl _) hpos) fun hSq hSm hah hahS => ?_) | obtain ⟨hSq, hSm, hah, hahS⟩ := dRun_ok hM hb hk0 n (Nat.le_refl _) hpos
    refine wpAny_execs_cons (wpAny_Return_some (wpAny_BinOp ?_))
    try (refine hideQ ?_; intro hQ9)
    walk_at "N"
    walk_at "N"
    refine mulI (k := 1) (Sm.lit _ (by decide)) hahS (by decide) (by exact om230 hk) fun t₉ tk₁₂ => ?_
    have e0 : detV M = 1 * (dRun M n).2 := by
      rw [detV, hMl, if_pos hpos, Int.one_mul]
    have q := hq _ _ tk₁₂ t₉ N.toExt
    rw [e0] at q
    exact q
end
noncomputable def minor (M : List (List Int)) (k : Nat) : List (List Int) := (M.take k).map fun r => r.take k
theorem minor_sq {n k : Nat} {M : List (List Int)} (h : Sq n M) (hk : k ≤ n) : Sq k (minor M k) := by
  refine ⟨by rw [minor, List.length_map, List.length_take, h.1]; (first | with_reducible assumption | with_reducible exact Int.natCast_nonneg _ | lia | omega), fun r hr => ?_⟩
  first | (refine ob2_1 (List.mem_map.mp hr) fun q hq zr479 => ?_; subst zr479) | (refine ob1_2 (List.mem_map.mp hr) fun q hq zr480 => ?_; subst zr480) | (refine ob0_3 (List.mem_map.mp hr) fun q hq zr481 => ?_; subst zr481) | obtain ⟨q, hq, rfl⟩ := List.mem_map.mp hr
  rw [List.length_take, h.2 q (List.mem_of_mem_take hq)]; (first | with_reducible assumption | with_reducible exact Int.natCast_nonneg _ | lia | omega)
theorem minor_sm {b k : Nat} {M : List (List Int)} (h : SmM b M) : SmM b (minor M k) := by
  intro r hr x hx
  first | (refine ob2_1 (List.mem_map.mp hr) fun q hq zr482 => ?_; subst zr482) | (refine ob1_2 (List.mem_map.mp hr) fun q hq zr483 => ?_; subst zr483) | (refine ob0_3 (List.mem_map.mp hr) fun q hq zr484 => ?_; subst zr484) | obtain ⟨q, hq, rfl⟩ := List.mem_map.mp hr
  exact h q (List.mem_of_mem_take hq) x (List.mem_of_mem_take hx)
noncomputable def minors (M : List (List Int)) : List Int := (List.range M.length).map fun j => detV (minor M (j + 1))
section
variable {prog : Program} {w : World} {A : Around} {E : Value → Shared → Prop} {s : Shared} {h : Heap} {tk : Nat} {B : Base} {Q : Value → Shared → Prop}

set_option maxHeartbeats 4000000 in
theorem leading_ok (T : Tp (Mine.hd.heap_39 w.params) B) (sub : B.In h) (R : Room 3 A) {M : List (List Int)} {v : Value} {n k : Nat} (hv : IMatV B M v) (hM : Sq n M) (hn : n ≤ 100) (hb : SmM k M) (hk0 : 0 < k) (hk : (k + 1) * 2 ^ n ≤ 4000) (hG : ∀ j, j < n → Good (minor M (j + 1)))
    (hq : ∀ B' h' tk' v', Ext B h B' h' → IntsV B' (minors M) v' → Q v' (mk s h' tk')) :
    wpAny (model prog w) A (call (.ref 162) [v]) Q E (mk s h tk) := by
  first | (refine ob3_3 (hv) fun l vs c zr485 hl hp => ?_; try clear hv; subst zr485) | (refine ob2_4 (hv) fun l vs c zr486 hl hp => ?_; try clear hv; subst zr486) | (refine ob1_5 (hv) fun l vs c zr487 hl hp => ?_; try clear hv; subst zr487) | (refine ob0_6 (hv) fun l vs c zr488 hl hp => ?_; try clear hv; subst zr488) | obtain ⟨l, vs, c, rfl, hl, hp⟩ := hv
  have hMl := hM.1
  have len : vs.length = n := by rw [pLen hp]; exact hM.1
  refine' enter (binds := [("a", .ref l)]) [] T sub ?he .nil ?hB ?hf ?hcd ?hroom ?hbind ?hkind ?hh ?hcn ?hco ?hgen ?hk
  ((case he => exact fun _ h => absurd h List.not_mem_nil); (case hB => exact fun _ h => absurd h List.not_mem_nil))
  ((case hf => k_dflt k_is); (case hcd => k_dflt k_is); (case hroom => exact Room.lt (by assumption)); (case hbind => exact rfl); (case hkind => exact kindsX rfl); (case hcn => decide +kernel); (case hco => exact rfl); (case hgen => exact rfl); (case hk => exact rfl))
  intro L h₁ tk₁ hL S
  refine hideF S ?_
  intro hA8 hE8 hM8 hQ8 S
  refine wpAny_execs_cons (wpAny_Return_some ?_)
  try (refine hideQ ?_; intro hQ9)
  refine' comp_start [("a", L + 1)] ?hcl2 ?hk2 ?hn2 ?hg2 ?hs2
  case hcl2 => rfl
  case hk2 => rfl
  case hn2 => decide
  case hs2 => exact fun _ => rfl
  refine Call_ ?_
  walk_at "N"
  refine cType (args_cons (cI fun _ tk₂ => args_cons (wpAny_BinOp (Call_ ?_))))
  walk_at "N"
  refine cBuilt (args_cons ?_)
  walk_at "N"
  refine args_nil (lenL (pln_of S.sub hl) (by exact om152 hn len) fun t₁ tk₃ => cI fun _ tk₄ => addI fun _ tk₅ => args_nil ?_)
  refine mkRange2 S fun B₁ h₂ r₁ ta tb tc tk₆ le₁ er S₁ => ?_
  refine iterR "size" R.quiet S₁ er (by exact om231) (by exact om232) (by exact om201) (by exact om233 hn len) fun h₃ I IT hN st S₂ => ?_
  have en : ((vs.length : Int) + 1 - 1).toNat = n := by exact om234 len
  rw [en] at IT
  have T₁ := T.le S₁.mono
  refine comp_pure (ps := []) (fun i B₁ ys => Paired (IntV B₁) ((minors M).take i) ys) (IT _) hN st S₂ (List.mem_cons_self ..) (by simpa using Paired.nil) (fun _ _ _ _ g => g) (fits (by exact om147 hn)) ["size", "a"] (by (repeat' (first | exact List.forall_mem_nil _ | refine List.forall_mem_cons.mpr ⟨⟨rfl, rfl, rfl⟩, ?_⟩))) (fun _ => rfl) (by decide +kernel)
    (fun C => canC (c := C + 1) (List.mem_cons_of_mem _ (List.mem_cons_self ..))) ?_ ?_
  · intro C D i B₂ m₂ ys h₄ tk₇ E' hi _ le g zz13 F
    try (first | (refine hideC F ?_; intro hE9 hO9 hQ9 F) | (refine hideQ ?_; intro hQ9))
    first | (refine ob1_2 (zz13) fun _ zn494 zr496 => ?_; try clear zz13; refine ob1_1 zn494 fun ti zr495 => ?_; clear zn494; subst zr495; subst zr496) | (refine ob0_3 (zz13) fun _ zn497 zr499 => ?_; try clear zz13; refine ob1_1 zn497 fun ti zr498 => ?_; clear zn497; subst zr498; subst zr499) | obtain ⟨_, ⟨ti, rfl⟩, rfl⟩ := zz13
    try (refine hideM F ?_; intro hM9 F)
    refine tests_nil ?_
    refine iteT rfl ?_
    have T₂ := T₁.le F.mono
    refine Call_ ?_
    walk_at "N"
    refine callF T₁ (by k_dflt k_is) (args_cons ?_)
    refine' comp_start [("size", C + 1)] ?hcl3 ?hk3 ?hn3 ?hg3 ?hs3
    case hcl3 => rfl
    case hk3 => rfl
    case hn3 => decide
    case hs3 => exact fun _ => rfl
    refine hideQ ?_; intro hQ7; refine sliceL ?_
    walk_at "N"
    walk_at "N"
    have e1 : (1 : Int) + (i : Int) = ((i + 1 : Nat) : Int) := by exact om235
    refine slI (n := i + 1) F (pln_of F.sub (le _ _ (le₁ _ _ hl))) (by exact om236 hn en) rfl (by rw [e1]) fun B₃ h₅ D₂ c₂ le₃ e₃ F₁ => ?_
    refine iterL "row" R.quiet F₁ e₃ fun h₆ I₂ IT₂ hN₂ st₂ F₂ => ?_
    have hpt := pTake (i + 1) hp
    have lt : (vs.take (i + 1)).length = i + 1 := by rw [List.length_take]; (first | with_reducible assumption | with_reducible exact Int.natCast_nonneg _ | lia | omega)
    refine comp_pure (fun j B₁ zs => Paired (IntsV B₁) ((minor M (i + 1)).take j) zs) (IT₂ _) hN₂ st₂ F₂ (List.mem_cons_self ..) (by simpa using Paired.nil)
      (fun _ _ _ l g => pMono IntsV.mono l g) (fits (by exact om237 hn hi lt)) ["size"] (by (repeat' (first | exact List.forall_mem_nil _ | refine List.forall_mem_cons.mpr ⟨⟨rfl, rfl, rfl⟩, ?_⟩))) (fun _ => rfl) (by decide +kernel) (fun C => canL (List.mem_cons_self ..)) ?_ ?_
    · intro C₂ D₃ j B₄ m₄ zs h₇ tk₈ E₂ hj _ le₄ g₂ zz13 K
      try (first | (refine hideC K ?_; intro hE9 hO9 hQ9 K) | (refine hideQ ?_; intro hQ9))
      first | (refine ob2_1 (zz13) fun z hz zr500 => ?_; try clear zz13; subst zr500) | (refine ob1_2 (zz13) fun z hz zr501 => ?_; try clear zz13; subst zr501) | (refine ob0_3 (zz13) fun z hz zr502 => ?_; try clear zz13; subst zr502) | obtain ⟨z, hz, rfl⟩ := zz13
      try (refine hideM K ?_; intro hM9 K)
      refine tests_nil ?_
      refine iteT rfl ?_
      first | (refine ob1_2 (pGet' hpt hz) fun r hr zq => ?_; refine ob3_3 zq fun lr vr cr zr hlr hpr => ?_; clear zq; subst zr) | (refine ob5_3 (pGet' hpt hz) fun r hr lr vr cr zr489 hlr hpr => ?_; subst zr489) | (refine ob4_4 (pGet' hpt hz) fun r hr lr vr cr zr490 hlr hpr => ?_; subst zr490) | (refine ob3_5 (pGet' hpt hz) fun r hr lr vr cr zr491 hlr hpr => ?_; subst zr491) | (refine ob2_6 (pGet' hpt hz) fun r hr lr vr cr zr492 hlr hpr => ?_; subst zr492) | (refine ob1_7 (pGet' hpt hz) fun r hr lr vr cr zr493 hlr hpr => ?_; subst zr493) | obtain ⟨r, hr, lr, vr, cr, rfl, hlr, hpr⟩ := pGet' hpt hz
      have lenr : vr.length = n := by rw [pLen hpr]; exact hM.2 r (List.mem_of_mem_take (List.mem_of_getElem? hr))
      refine hideQ ?_; intro hQ7; refine sliceL ?_
      walk_at "N"
      walk_at "N"
      refine slI (n := i + 1) K (pln_of K.sub (le₄ _ _ (le₃ _ _ (le _ _ (le₁ _ _ hlr))))) (by exact om165 hn lenr) rfl (by rw [e1]) fun B₅ h₈ D₅ c₅ le₅ e₅ K₁ => ?_
      exact exI4 B₅ _ h₈ _ ⟨rfl, le₅, pSnocTake (x := r.take (i + 1)) (pMono IntsV.mono le₅ g₂) (by rw [minor, List.getElem?_map, hr]; rfl) (LVm (e₅) (pTake (i + 1) hpr)), mc_upd rfl, K₁⟩
    · intro C₂ D₃ B₄ c₄ zs h₇ tk₈ hC₂ le₄ g₂ _ e₄ K
      refine comp_none K (List.mem_cons_self ..) (fun x c hc q => hC₂.2 x c hc (List.mem_singleton.mpr q)) (hC₂.1 _ (List.mem_singleton.mpr rfl)) fun h₈ K₁ => args_nil ⟨K₁.sub.of_le K₁.mono, ?_⟩
      have hsq := minor_sq hM (k := i + 1) (by exact om124 hi)
      refine determinant_ok (M := minor M (i + 1)) (T₁.le K₁.mono) K₁.sub ((R.deeper _).le (Nat.le_of_ble_eq_true rfl)) (LVm (e₄) (pWhole g₂ (by rw [hsq.1, lt]))) hsq (by exact om238 hn hi) (minor_sm hb) hk0
        (Nat.le_trans (Nat.mul_le_mul_left _ (Nat.pow_le_pow_right (by decide) (by exact om124 hi))) hk) (hG i hi) fun B₅ h₉ tk₉ t₉ X => ?_
      refine exI4 B₅ _ h₉ _ ⟨rfl, le₃.trans (le₄.trans X.le), pSnocTake (x := detV (minor M (i + 1))) g (by rw [minors, List.getElem?_map, hMl, List.getElem?_range hi]; rfl) ⟨_, rfl⟩, mc_upd rfl, K₁.ext X⟩
  · intro C D B₂ c₂ ys h₄ tk₇ hC le g _ e F
    refine comp_none F (List.mem_cons_self ..) (fun x c hc q => hC.2 x c hc (List.mem_singleton.mpr q)) (hC.1 _ (List.mem_singleton.mpr rfl)) fun h₅ F' => ?_
    exact hq B₂ h₅ _ _ F'.toExt (LVm (e) (pWhole g (by simp [minors, hMl])))
end
noncomputable def dot (xs ys : List Int) : Int := (List.zipWith (fun x y => x * y) xs ys).sum
noncomputable def prods (cs : List (List Int)) : List (List Int) := cs.map fun x => cs.map fun y => dot x y
noncomputable def prodDen (qs : List Rat) : Int := qs.foldl (fun t q => t * (q.den : Int)) 1
noncomputable def shareOf (times : Int) (q : Rat) : Int := q.num * times.fdiv q.den
noncomputable def restStep (left col : List Int) (share : Int) : List Int := List.zipWith (fun x c => x - share * c) left col
noncomputable def restTo (cs : List (List Int)) (qs : List Rat) (aim : List Int) : Nat → List Int
  | 0 => aim.map fun x => prodDen qs * x
  | k + 1 => restStep (restTo cs qs aim k) (cs.getD k []) (shareOf (prodDen qs) (qs.getD k 0))
noncomputable def rest (cs : List (List Int)) (qs : List Rat) (aim : List Int) : List Int := restTo cs qs aim cs.length
theorem restTo_len {cs : List (List Int)} {qs : List Rat} {aim : List Int} {n : Nat} (hc : ∀ c ∈ cs, c.length = n) (ha : aim.length = n) : ∀ k, k ≤ cs.length → (restTo cs qs aim k).length = n := by
  intro rv
  induction rv with
  | zero => intro _; rw [restTo, List.length_map]; exact ha
  | succ k ih =>
    intro h
    rw [restTo, restStep, List.length_zipWith, ih (by exact om57 h), hc _ (getD_mem' (d := []) (by exact om58 h)), Nat.min_self]
theorem sm_foldl {K : Nat} : ∀ (qs : List Rat) (b : Nat) (t : Int), Sm b t → (∀ q ∈ qs, RatB K q) → Sm (b + K * qs.length) (qs.foldl (fun t q => t * (q.den : Int)) t) := by
  intro rv
  induction rv with
  | nil => intro b  t  h  _; simpa using h
  | cons q qs ih =>
    intro b  t  h  hq
    have := ih (b + K) (t * (q.den : Int)) (h.mul (hq q (List.mem_cons_self ..)).2) fun q h => hq q (List.mem_cons_of_mem _ h)
    rw [List.foldl_cons, List.length_cons, Nat.mul_succ]
    exact this.le (by exact om59)
theorem prodDen_sm {K : Nat} {qs : List Rat} (h : ∀ q ∈ qs, RatB K q) : Sm (1 + K * qs.length) (prodDen qs) := sm_foldl qs 1 1 (Sm.lit _ (by decide)) h
theorem foldl_pos : ∀ (qs : List Rat) (t : Int), 0 < t → 0 < qs.foldl (fun t q => t * (q.den : Int)) t := by
  intro rv
  induction rv with
  | nil => exact fun t  h => h
  | cons q qs ih => exact fun t  h => ih _ (Int.mul_pos h (by have := q.den_pos; exact om60 this))
theorem prodDen_pos (qs : List Rat) : 0 < prodDen qs := foldl_pos qs 1 (by decide)
theorem shareOf_sm {K b : Nat} {q : Rat} {t : Int} (hq : RatB K q) (ht : Sm b t) : Sm (K + b) (shareOf t q) := by
  refine hq.1.mul ?_
  exact Sm.fdiv ht (by have := q.den_pos; exact om60 this)
theorem ratB_zero (K : Nat) (hK : 0 < K) : RatB K 0 := ⟨Sm.lit _ (Nat.pow_pos (by decide)), Sm.lit _ (by show 1 < 2 ^ K; exact Nat.one_lt_two_pow (by exact om61 hK))⟩
theorem restTo_sm {cs : List (List Int)} {qs : List Rat} {aim : List Int} {K b : Nat} (hK : 0 < K) (hq : ∀ q ∈ qs, RatB K q) (hc : SmM b cs) (ha : ∀ x ∈ aim, Sm b x) :
    ∀ k, ∀ x ∈ restTo cs qs aim k, Sm (K + (1 + K * qs.length) + b + k + 1) x := by
  intro rv
  induction rv with
  | zero =>
    intro x  hx
    first | (refine ob2_1 (List.mem_map.mp hx) fun y hy zr90 => ?_; subst zr90) | (refine ob1_2 (List.mem_map.mp hx) fun y hy zr91 => ?_; subst zr91) | (refine ob0_3 (List.mem_map.mp hx) fun y hy zr92 => ?_; subst zr92) | obtain ⟨y, hy, rfl⟩ := List.mem_map.mp hx
    exact ((prodDen_sm hq).mul (ha y hy)).le (by exact om62)
  | succ k ih =>
    intro x  hx
    first | (refine ob1_1 (List.mem_iff_getElem?.mp hx) fun i hi => ?_) | (refine ob0_2 (List.mem_iff_getElem?.mp hx) fun i hi => ?_) | obtain ⟨i, hi⟩ := List.mem_iff_getElem?.mp hx
    rw [restTo, restStep, List.getElem?_zipWith] at hi
    cases h1 : (restTo cs qs aim k)[i]? with
    | none => rw [h1] at hi; simp at hi
    | some r =>
      cases h2 : (cs.getD k [])[i]? with
      | none => rw [h1, h2] at hi; simp at hi
      | some c =>
        rw [h1, h2] at hi
        simp at hi
        rw [← hi]
        have hr := ih r (List.mem_of_getElem? h1)
        have hkc : k < cs.length := by
          rcases Nat.lt_or_ge k cs.length with h | h
          · exact h
          · rw [List.getD_eq_getElem?_getD, List.getElem?_eq_none h] at h2; simp at h2
        have hcm := hc _ (getD_mem' (d := []) hkc) c (List.mem_of_getElem? h2)
        have hqk : RatB K (qs.getD k 0) := by
          rcases Nat.lt_or_ge k qs.length with h | h
          · exact hq _ (getD_mem' h)
          · rw [List.getD_eq_getElem?_getD, List.getElem?_eq_none h]; exact ratB_zero K hK
        exact Sm.sub hr ((shareOf_sm hqk (prodDen_sm hq)).mul hcm) (by exact om63) (by exact om64)
theorem dot_sm_sum : ∀ (l : List Int) (b : Nat), (∀ x ∈ l, Sm b x) → Sm (b + l.length) l.sum := by
  intro rv
  induction rv with
  | nil => exact fun b  _ => Sm.lit _ (Nat.pow_pos (by decide))
  | cons x l ih =>
    intro b  h
    rw [List.sum_cons, List.length_cons]
    exact ((h x (List.mem_cons_self ..)).le (by exact om65)).add (ih b fun y hy => h y (List.mem_cons_of_mem _ hy)) (k := b + l.length) (by exact om66) (by exact om66)
theorem dot_sm {xs ys : List Int} {a b n : Nat} (hx : ∀ x ∈ xs, Sm a x) (hy : ∀ y ∈ ys, Sm b y) (hn : xs.length ≤ n) : Sm (a + b + n) (dot xs ys) := by
  refine (dot_sm_sum _ (a + b) fun z hz => ?_).le ?_
  · first | (refine ob1_1 (List.mem_iff_getElem?.mp hz) fun i hi => ?_) | (refine ob0_2 (List.mem_iff_getElem?.mp hz) fun i hi => ?_) | obtain ⟨i, hi⟩ := List.mem_iff_getElem?.mp hz
    rw [List.getElem?_zipWith] at hi
    cases h1 : xs[i]? with
    | none => rw [h1] at hi; simp at hi
    | some r =>
      cases h2 : ys[i]? with
      | none => rw [h1, h2] at hi; simp at hi
      | some c => rw [h1, h2] at hi; simp at hi; rw [← hi]; exact (hx r (List.mem_of_getElem? h1)).mul (hy c (List.mem_of_getElem? h2))
  · rw [List.length_zipWith]; (first | with_reducible assumption | with_reducible exact Int.natCast_nonneg _ | lia | omega)
noncomputable def rights (cs : List (List Int)) (aim : List Int) : List Int := cs.map fun c => dot c aim
noncomputable def qsol (cs : List (List Int)) (aim : List Int) : List Rat := sol (qmat (prods cs)) (qrow (rights cs aim))
noncomputable def leftOf (cs : List (List Int)) (aim : List Int) : List Int := rest cs (qsol cs aim) aim
noncomputable def transp (cs : List (List Int)) (k : Nat) : List (List Int) := (List.range k).map fun at' => cs.map fun c => c.getD at' 0
noncomputable def rankOf (cs : List (List Int)) (k : Nat) : Nat := (ech (qmat (transp cs k))).2.length
noncomputable def wideOf (cs : List (List Int)) (aim : List Int) : Int := detV (prods (cs ++ [aim]))

structure Fine (n : Nat) (cs : List (List Int)) (aim : List Int) : Prop where
  len : cs.length = n
  pos : 0 < n
  le : n ≤ 3
  rows : ∀ c ∈ cs, c.length = 4
  alen : aim.length = 4
  sm : SmM 3 cs
  sma : ∀ x ∈ aim, Sm 3 x
  solv : n ∉ (ech (aug (qmat (prods cs)) (qrow (rights cs aim)))).2
  upright : ∀ c ∈ cs, dot c (leftOf cs aim) = 0
  nulls : ∀ q ∈ nullBase (qmat (prods cs)), ∀ x ∈ rest cs q (List.replicate 4 0), x = 0
  count : rankOf cs 4 + (nullBase (qmat (prods cs))).length = n
  free : detV (prods cs) = 0 ↔ nullBase (qmat (prods cs)) ≠ []
  gram : dot (leftOf cs aim) (leftOf cs aim) * detV (prods cs) = prodDen (qsol cs aim) * prodDen (qsol cs aim) * wideOf cs aim
  minors : ∀ x ∈ minors (prods cs), 0 ≤ x
  wide0 : 0 ≤ wideOf cs aim
  wide1 : wideOf cs aim ≤ detV (prods cs) * dot aim aim
  most : detV (prods cs) ≠ 0 → (wideOf cs aim = detV (prods cs) * dot aim aim ↔ ∀ x ∈ rights cs aim, x = 0)
  good : Good (prods cs)
  good' : Good (prods (cs ++ [aim]))
  goods : ∀ j, j < n → Good (minor (prods cs) (j + 1))

theorem prods_sq (cs : List (List Int)) : Sq cs.length (prods cs) := ⟨by simp [prods], fun r hr => by
  obtain ⟨x, _, rfl⟩ := List.mem_map.mp hr; simp⟩
theorem prods_sm {cs : List (List Int)} {k n : Nat} (h : SmM k cs) (hn : ∀ c ∈ cs, c.length = n) : SmM (k + k + n) (prods cs) := by
  intro r hr x hx
  first | (refine ob2_1 (List.mem_map.mp hr) fun c hc zr93 => ?_; subst zr93) | (refine ob1_2 (List.mem_map.mp hr) fun c hc zr94 => ?_; subst zr94) | (refine ob0_3 (List.mem_map.mp hr) fun c hc zr95 => ?_; subst zr95) | obtain ⟨c, hc, rfl⟩ := List.mem_map.mp hr
  first | (refine ob2_1 (List.mem_map.mp hx) fun d hd zr96 => ?_; subst zr96) | (refine ob1_2 (List.mem_map.mp hx) fun d hd zr97 => ?_; subst zr97) | (refine ob0_3 (List.mem_map.mp hx) fun d hd zr98 => ?_; subst zr98) | obtain ⟨d, hd, rfl⟩ := List.mem_map.mp hx
  exact dot_sm (h c hc) (h d hd) (by rw [hn c hc]; exact Nat.le_refl _)
theorem qmat_rect {n w : Nat} {M : List (List Int)} (h : M.length = n) (hw : ∀ r ∈ M, r.length = w) : Rect n w (qmat M) := ⟨by simp [qmat, h], fun r hr => by
  first | (refine ob2_1 (List.mem_map.mp hr) fun x hx zr99 => ?_; subst zr99) | (refine ob1_2 (List.mem_map.mp hr) fun x hx zr100 => ?_; subst zr100) | (refine ob0_3 (List.mem_map.mp hr) fun x hx zr101 => ?_; subst zr101) | obtain ⟨x, hx, rfl⟩ := List.mem_map.mp hr
  rw [qrow, List.length_map]; exact hw x hx⟩
theorem ratB_int {k : Nat} {x : Int} (h : Sm k x) (hk : 0 < k) : RatB k (x : Rat) := ⟨by rw [Rat.num_intCast]; exact h, by rw [Rat.den_intCast]; exact Sm.lit _ (by show 1 < 2 ^ k; exact Nat.one_lt_two_pow (by exact om61 hk))⟩
theorem qrow_B {k : Nat} {r : List Int} (h : ∀ x ∈ r, Sm k x) (hk : 0 < k) : ∀ x ∈ qrow r, RatB k x := fun x hx => by
  first | (refine ob2_1 (List.mem_map.mp hx) fun y hy zr102 => ?_; subst zr102) | (refine ob1_2 (List.mem_map.mp hx) fun y hy zr103 => ?_; subst zr103) | (refine ob0_3 (List.mem_map.mp hx) fun y hy zr104 => ?_; subst zr104) | obtain ⟨y, hy, rfl⟩ := List.mem_map.mp hx
  exact ratB_int (h y hy) hk
theorem qmat_B {k : Nat} {M : List (List Int)} (h : SmM k M) (hk : 0 < k) : Bnd k (qmat M) := fun r hr => by
  first | (refine ob2_1 (List.mem_map.mp hr) fun y hy zr105 => ?_; subst zr105) | (refine ob1_2 (List.mem_map.mp hr) fun y hy zr106 => ?_; subst zr106) | (refine ob0_3 (List.mem_map.mp hr) fun y hy zr107 => ?_; subst zr107) | obtain ⟨y, hy, rfl⟩ := List.mem_map.mp hr
  exact qrow_B (h y hy) hk
theorem getD_B {K : Nat} (hK : 0 < K) {r : List Rat} (h : ∀ x ∈ r, RatB K x) (i : Nat) : RatB K (r.getD i 0) := by
  rcases Nat.lt_or_ge i r.length with h1 | h1
  · exact h _ (getD_mem h1)
  · rw [List.getD_eq_getElem?_getD, List.getElem?_eq_none h1]; exact ratB_zero K hK
theorem getD2_B {K : Nat} (hK : 0 < K) {E : List (List Rat)} (h : Bnd K E) (i j : Nat) : RatB K ((E.getD i []).getD j 0) := by
  rcases Nat.lt_or_ge i E.length with h1 | h1
  · exact getD_B hK (h _ (getD_mem h1)) j
  · have e : E.getD i [] = [] := by rw [List.getD_eq_getElem?_getD, List.getElem?_eq_none h1]; rfl
    rw [e]; exact ratB_zero K hK
theorem ratB_one (K : Nat) (hK : 0 < K) (h2 : 1 < K) : RatB K 1 := ⟨Sm.lit _ (by show 1 < 2 ^ K; exact Nat.one_lt_two_pow (by exact om67 h2)), Sm.lit _ (by show 1 < 2 ^ K; exact Nat.one_lt_two_pow (by exact om67 h2))⟩
theorem nullTo_B {K : Nat} (hK : 1 < K) {E : List (List Rat)} (h : Bnd K E) (pv : List Nat) (wi c : Nat) : ∀ k, ∀ x ∈ nullTo E pv wi c k, RatB K x := by
  intro rv
  induction rv with
  | zero =>
    intro x  hx
    rcases List.mem_or_eq_of_mem_set hx with q | q
    · rw [(List.mem_replicate.mp q).2]; exact ratB_zero K (by exact om68 hK)
    · rw [q]; exact ratB_one K (by exact om68 hK) hK
  | succ k ih =>
    intro x  hx
    rcases List.mem_or_eq_of_mem_set hx with q | q
    · exact ih x q
    · rw [q]; exact rneg_B (getD2_B (by exact om68 hK) h k c)
theorem solTo_B {K : Nat} (hK : 1 < K) {E : List (List Rat)} (h : Bnd K E) (pv : List Nat) (wi : Nat) : ∀ k, ∀ x ∈ solTo E pv wi k, RatB K x := by
  intro rv
  induction rv with
  | zero => intro x  hx; rw [(List.mem_replicate.mp hx).2]; exact ratB_zero K (by exact om68 hK)
  | succ k ih =>
    intro x  hx
    rcases List.mem_or_eq_of_mem_set hx with q | q
    · exact ih x q
    · rw [q]; exact getD2_B (by exact om68 hK) h k wi
theorem sol_len (M : List (List Rat)) (b : List Rat) : (sol M b).length = wd M := solTo_len _ _ _ _
theorem nullBase_len {M : List (List Rat)} : ∀ q ∈ nullBase M, q.length = wd M := fun q hq => by
  first | (refine ob2_1 (List.mem_map.mp hq) fun c _ zr108 => ?_; subst zr108) | (refine ob1_2 (List.mem_map.mp hq) fun c _ zr109 => ?_; subst zr109) | (refine ob0_3 (List.mem_map.mp hq) fun c _ zr110 => ?_; subst zr110) | obtain ⟨c, _, rfl⟩ := List.mem_map.mp hq
  exact nullTo_len _ _ _ _ _
theorem ech_B {M : List (List Rat)} {n wi k : Nat} (R : Rect n wi M) (hw : wd M = wi) (b : Bnd k M) (hk : 0 < k) : Bnd (k * 5 ^ wi) (ech M).1 := by
  have := (cols R b hk wi (Nat.le_refl _)).bnd
  rw [ech, hw]; exact this
theorem nullBase_B {M : List (List Rat)} {n wi k : Nat} (R : Rect n wi M) (hw : wd M = wi) (b : Bnd k M) (hk : 1 < k) : ∀ q ∈ nullBase M, ∀ x ∈ q, RatB (k * 5 ^ wi) x := fun q hq => by
  first | (refine ob2_1 (List.mem_map.mp hq) fun c _ zr111 => ?_; subst zr111) | (refine ob1_2 (List.mem_map.mp hq) fun c _ zr112 => ?_; subst zr112) | (refine ob0_3 (List.mem_map.mp hq) fun c _ zr113 => ?_; subst zr113) | obtain ⟨c, _, rfl⟩ := List.mem_map.mp hq
  have h1 : 1 * 1 ≤ 5 ^ wi * 1 := by have := Nat.pow_pos (n := wi) (show 0 < 5 by decide); exact om69 this
  have h2 : k * 1 ≤ k * 5 ^ wi := Nat.mul_le_mul_left _ (by exact om70 h1)
  exact nullTo_B (by exact om71 hk h2) (ech_B R hw b (by exact om68 hk)) _ _ _ _
theorem sol_B {M : List (List Rat)} {b : List Rat} {n wi k : Nat} (R : Rect n wi (aug M b)) (hw : wd (aug M b) = wi) (bb : Bnd k (aug M b)) (hk : 1 < k) : ∀ x ∈ sol M b, RatB (k * 5 ^ wi) x := by
  have h1 : 0 < 5 ^ wi := Nat.pow_pos (by decide)
  have h2 : k * 1 ≤ k * 5 ^ wi := Nat.mul_le_mul_left _ (by exact om72 h1)
  exact solTo_B (by exact om71 hk h2) (ech_B R hw bb (by exact om68 hk)) _ _ _
theorem detV_sm {n k : Nat} {M : List (List Int)} (hs : Sq n M) (hb : SmM k M) (hk : 0 < k) : Sm ((k + 1) * 2 ^ n) (detV M) := by
  unfold detV
  split
  · rename_i h
    rw [hs.1] at h ⊢
    exact (dRun_ok hs hb hk n (Nat.le_refl _) h).2.2.2.le (by exact om73)
  · exact Sm.lit _ (Nat.pow_pos (by decide))
theorem lits_int (hp : Heap) {vs : List Value} {ds : List PyData} (p : DataAre vs ds) : (∀ d ∈ ds, ∃ i, d = .int i) → ∀ {j : Nat}, j < ds.length → ∃ d t, vs[j]? = some (.int d t) := by
  induction p with
  | nil => intro _ j h; exact absurd h (Nat.not_lt_zero _)
  | cons h r ih =>
    intro ha j hj
    cases j with
    | zero => exact (ha _ (List.mem_cons_self ..)).elim fun i e => by subst e; have h' := h hp; cases h'; exact ⟨_, _, rfl⟩
    | succ j => exact ih (fun d hd => ha d (List.mem_cons_of_mem _ hd)) (j := j) (Nat.lt_of_succ_lt_succ hj)
section
variable {prog : Program} {w : World} {A : Around} {E : Value → Shared → Prop} {s : Shared} {h : Heap} {tk : Nat} {B : Base} {Q : Value → Shared → Prop}

set_option maxHeartbeats 600000 in
theorem draw_ok (T : Tp (Mine.hd.heap_39 w.params) B) (sub : B.In h) (R : Room 1 A) {P lc : Addr} {cs : List Value} {ns : List Int} {c k : Nat} {m : Int} {t u : Tok} (he : ∃ o, h.get? P = some o ∧ LstP [.ref lc, .int (k : Nat) t] o) (hB : B P = none)
    (hlc : B lc = some (lstO cs c)) (hp : Paired (IntV B) ns cs) (hn : cs.length ≤ 1000) (hk : k ≤ 1000) (hm : 0 < m)
    (hq : ∀ B' h' tk' d t t', ExtW [P] B h B' h' → (∃ o, h'.get? P = some o ∧ LstP [.ref lc, .int (k + 1 : Nat) t'] o) → 0 ≤ d → d < m → Q (.int d t) (mk s h' tk')) :
    wpAny (model prog w) A (call (.ref 169) [.ref P, .int m u]) Q E (mk s h tk) := by
  refine' enter (binds := [("pool", .ref P), ("many", .int m u)]) [(P, LstP [.ref lc, .int (k : Nat) t])] T sub ?he (by first | exact List.mem_cons_self | exact List.mem_cons_of_mem _ List.mem_cons_self | simp) ?hB ?hf ?hcd ?hroom ?hbind ?hkind ?hh ?hcn ?hco ?hgen ?hk
  case he => intro p hp; rw [List.mem_singleton.mp hp]; exact he
  case hB => intro a ha; rw [List.mem_singleton.mp ha]; exact hB
  ((case hf => k_dflt k_is); (case hcd => k_dflt k_is); (case hroom => exact Room.lt (by assumption)); (case hbind => exact rfl); (case hkind => exact kindsX rfl); (case hcn => decide +kernel); (case hco => exact rfl); (case hgen => exact rfl); (case hk => exact rfl))
  intro L h₁ tk₁ hL S
  refine hideF S ?_
  intro hA8 hE8 hM8 hQ8 S
  refine wpAny_execs_cons (wpAny_Assign_Name (Subscript_ ?_))
  try (refine hideQ ?_; intro hQ9)
  walk_at "N"
  refine cI fun _ tk₂ => itemL (S.plain (List.mem_singleton.mpr rfl)) (by decide) (by decide) rfl ?_
  walk_at "storeName"
  intro h₂ tk₃ S₁
  refine wpAny_execs_cons (wpAny_Assign_Subscript (wpAny_BinOp ?_))
  try (refine hideQ ?_; intro hQ9)
  walk_at "N"
  refine cI fun _ tk₄ => addI fun t₁ tk₅ => ?_
  walk_at "N"
  refine cI fun _ tk₆ => setP [] S₁ (by decide) (by decide) (Nat.lt_succ_self 1) fun h₃ S₂ => ?_
  have S₃ : Fm [P] B h _ _ B _ [(P, LstP [.ref lc, .int (k + 1 : Nat) t₁])] h₃ := S₂
  refine wpAny_execs_cons (wpAny_If (wpAny_isTrue_Compare1 ?_))
  try (refine hideQ ?_; intro hQ9)
  walk_at "N"
  refine Call_ ?_
  walk_at "N"
  refine cBuilt (args_cons (Subscript_ ?_))
  walk_at "N"
  refine cI fun _ tk₇ => itemL (S₃.plain (List.mem_singleton.mpr rfl)) (by decide) (by decide) rfl (args_nil (lenL (pln_of S₃.sub hlc) (by exact om239 hn) fun t₂ tk₈ => PyProof.Rows.lt_int (wpAny_truthy_bool ?_)))
  have ents := S₃.ents _ (List.mem_singleton.mpr rfl)
  by_cases hlt : (k : Int) < (cs.length : Int)
  · refine iteT (by simpa using hlt) ?_
    obtain ⟨v, hv⟩ : ∃ v, cs[k]? = some v := ⟨_, List.getElem?_eq_getElem (by exact om240 hlt)⟩
    first | (refine ob1_2 (pGet' hp hv) fun x hx zq => ?_; refine ob1_1 zq fun tx zr => ?_; clear zq; subst zr) | (refine ob3_1 (pGet' hp hv) fun x hx tx zr505 => ?_; subst zr505) | (refine ob2_2 (pGet' hp hv) fun x hx tx zr506 => ?_; subst zr506) | (refine ob1_3 (pGet' hp hv) fun x hx tx zr507 => ?_; subst zr507) | (refine ob0_4 (pGet' hp hv) fun x hx tx zr508 => ?_; subst zr508) | obtain ⟨x, hx, tx, rfl⟩ := pGet' hp hv
    refine wpAny_execs_cons (wpAny_Return_some (wpAny_BinOp (Call_ ?_)))
    try (refine hideQ ?_; intro hQ9)
    walk_at "N"
    refine cBuilt (args_cons (Subscript_ (Subscript_ ?_)))
    walk_at "N"
    refine cI fun _ tk₉ => itemL (S₃.plain (List.mem_singleton.mpr rfl)) (by decide) (by decide) rfl ?_
    walk_at "N"
    refine itemL (pln_of S₃.sub hlc) (by exact om23) (by exact om21 hk) (by rw [Int.toNat_natCast]; exact hv) (args_nil (absI fun _ tk₁₀ => ?_))
    walk_at "N"
    refine modI (by exact om105 hm) fun t₄ tk₁₁ => ?_
    exact hq B h₃ _ _ t₄ t₁ S₃.toExtW ents (Int.fmod_nonneg_of_pos _ hm) (Int.fmod_lt_of_pos _ hm)
  · refine iteF (by simpa using hlt) ?_
    refine wpAny_execs_nil ?_
    refine wpAny_execs_cons ?_
    try (refine hideQ ?_; intro hQ9)
    refine wpAny_Return_some ?_
    refine wpAny_BinOp ?_
    refine Subscript_ ?_
    refine' Tuple_lits (s := mk s h₃ tk₈) (ds := [.int 0, .int 3, .int 3, .int 2, .int 3, .int 2, .int 2, .int 3, .int 2, .int 1, .int 2, .int 3, .int 3, .int 2, .int 3, .int 3, .int 2, .int 3]) ?hl ?hsz _ ?hh2
    case hl => rfl
    case hsz => exact Nat.le_of_ble_eq_true rfl
    intro a o h₄ tk₉ ha eo ho hkeep
    first | (refine ob4_1 (ho) fun hcls vs n' hdat hda => ?_; try clear ho) | (refine ob3_2 (ho) fun hcls vs n' hdat hda => ?_; try clear ho) | (refine ob2_3 (ho) fun hcls vs n' hdat hda => ?_; try clear ho) | (refine ob1_4 (ho) fun hcls vs n' hdat hda => ?_; try clear ho) | (refine ob0_5 (ho) fun hcls vs n' hdat hda => ?_; try clear ho) | obtain ⟨hcls, vs, n', hdat, hda⟩ := ho
    have hln : h₃.get? a = none := none_ge ha
    first | (refine ob2_1 (Ext.alloc (a := a) (o := o) S₃.sub hln hkeep eo) fun B₁ X eB => ?_) | (refine ob1_2 (Ext.alloc (a := a) (o := o) S₃.sub hln hkeep eo) fun B₁ X eB => ?_) | (refine ob0_3 (Ext.alloc (a := a) (o := o) S₃.sub hln hkeep eo) fun B₁ X eB => ?_) | obtain ⟨B₁, X, eB⟩ := Ext.alloc (a := a) (o := o) S₃.sub hln hkeep eo
    have S₄ := S₃.ext X
    show wpAny _ _ _ _ _ (mk s h₄ tk₉)
    refine wpAny_BinOp ?_
    walk_at "N"
    refine cI fun _ tk₁₀ => modI (by decide) fun t₅ tk₁₁ => ?_
    have j0 := Int.fmod_nonneg_of_pos (k : Int) (show (0 : Int) < 18 by decide)
    have j1 := Int.fmod_lt_of_pos (k : Int) (show (0 : Int) < 18 by decide)
    obtain ⟨d, td, hd⟩ := lits_int h₄ hda (by first | exact List.mem_cons_self | exact List.mem_cons_of_mem _ List.mem_cons_self | simp) (j := ((k : Int).fmod 18).toNat) (by show _ < 18; omega)
    have hl18 : vs.length = 18 := dataAre_len hda
    refine item_tupleT (j := ((k : Int).fmod 18).toNat) ⟨o, eo, hcls, n', hdat⟩ (by exact om8 j0) (by exact om241 j1) ?_ (by simpa using hd) ?_ (by with_unfolding_all rfl)
    · unfold seqIndex?
      have h1 : ¬ (k : Int).fmod 18 < 0 := by exact om9 j0
      have h2 : (k : Int).fmod 18 < (vs.length : Int) := by exact om242 j1 hl18
      simp [h1, j0, h2]
    walk_at "N"
    refine modI (by exact om105 hm) fun t₆ tk₁₂ => ?_
    exact hq B₁ h₄ _ _ t₆ t₁ S₄.toExtW (S₄.ents _ (List.mem_singleton.mpr rfl)) (Int.fmod_nonneg_of_pos _ hm) (Int.fmod_lt_of_pos _ hm)
end
section
variable {prog : Program} {w : World} {A : Around} {E : Value → Shared → Prop} {s : Shared} {h : Heap} {tk : Nat} {B : Base} {Q : Value → Shared → Prop}

set_option maxHeartbeats 1000000 in
theorem by_ok (T : Tp (Mine.hd.heap_39 w.params) B) (sub : B.In h) (R : Room 1 A) {xs ys : List Int} {u v : Value} {k l : Nat} (hu : IntsV B xs u) (hv : IntsV B ys v) (hl : xs.length = ys.length) (hn : xs.length ≤ 1000) (hx : ∀ x ∈ xs, Sm k x) (hy : ∀ y ∈ ys, Sm l y) (hk : k ≤ 500000) (hl' : l ≤ 500000)
    (hq : ∀ B' h' tk' t, Ext B h B' h' → Q (.int (dot xs ys) t) (mk s h' tk')) :
    wpAny (model prog w) A (call (.ref 174) [u, v]) Q E (mk s h tk) := by
  first | (refine ob3_3 (hu) fun la us ca zr509 hla hpa => ?_; try clear hu; subst zr509) | (refine ob2_4 (hu) fun la us ca zr510 hla hpa => ?_; try clear hu; subst zr510) | (refine ob1_5 (hu) fun la us ca zr511 hla hpa => ?_; try clear hu; subst zr511) | (refine ob0_6 (hu) fun la us ca zr512 hla hpa => ?_; try clear hu; subst zr512) | obtain ⟨la, us, ca, rfl, hla, hpa⟩ := hu
  first | (refine ob3_3 (hv) fun lb vs cb zr513 hlb hpb => ?_; try clear hv; subst zr513) | (refine ob2_4 (hv) fun lb vs cb zr514 hlb hpb => ?_; try clear hv; subst zr514) | (refine ob1_5 (hv) fun lb vs cb zr515 hlb hpb => ?_; try clear hv; subst zr515) | (refine ob0_6 (hv) fun lb vs cb zr516 hlb hpb => ?_; try clear hv; subst zr516) | obtain ⟨lb, vs, cb, rfl, hlb, hpb⟩ := hv
  have lus := pLen hpa
  refine' enter (binds := [("one", .ref la), ("other", .ref lb)]) [] T sub ?he .nil ?hB ?hf ?hcd ?hroom ?hbind ?hkind ?hh ?hcn ?hco ?hgen ?hk
  ((case he => exact fun _ h => absurd h List.not_mem_nil); (case hB => exact fun _ h => absurd h List.not_mem_nil))
  ((case hf => k_dflt k_is); (case hcd => k_dflt k_is); (case hroom => exact Room.lt (by assumption)); (case hbind => exact rfl); (case hkind => exact kindsX rfl); (case hcn => decide +kernel); (case hco => exact rfl); (case hgen => exact rfl); (case hk => exact rfl))
  intro L h₁ tk₁ hL S
  refine hideF S ?_
  intro hA8 hE8 hM8 hQ8 S
  refine wpAny_execs_cons (wpAny_Return_some (Call_ ?_))
  try (refine hideQ ?_; intro hQ9)
  walk_at "N"
  refine cBuilt (args_cons ?_)
  refine' comp_start [("other", L + 1)] ?hcl2 ?hk2 ?hn2 ?hg2 ?hs2
  case hcl2 => rfl
  case hk2 => rfl
  case hn2 => decide
  case hs2 => exact fun _ => rfl
  refine Call_ ?_
  walk_at "N"
  refine cType (args_cons ?_)
  walk_at "N"
  refine args_nil (enumL "at" "number" R.quiet S hla fun h₂ e it IT hN st S₁ => ?_)
  refine (IT default default 0 default).self 0 (mk s h₂ _) _ _ st ?_
  refine comp_pure (ps := []) (fun i B₁ zs => Paired (IntV B₁) ((List.zipWith (fun x y => x * y) xs ys).take i) zs) (IT _ _ _ _) hN st S₁ (List.mem_cons_self ..) (by simpa using Paired.nil)
    (fun _ _ _ _ g => g) (fits (by exact om143 hn lus)) ["other"] (by (repeat' (first | exact List.forall_mem_nil _ | refine List.forall_mem_cons.mpr ⟨⟨rfl, rfl, rfl⟩, ?_⟩))) (fun _ => rfl) (by decide +kernel) (fun C => ⟨canL (List.mem_cons_self ..), canL (List.mem_cons_self ..)⟩) ?_ ?_
  · intro C D i B₂ m₂ zs h₃ tk₂ E' hi _ le g zz13 F
    try (first | (refine hideC F ?_; intro hE9 hO9 hQ9 F) | (refine hideQ ?_; intro hQ9))
    first | (refine ob1_2 (zz13) fun _ xv zq => ?_; refine ob1_1 zq fun ⟨ti, hxv, rfl⟩ zr => ?_; clear zq; subst zr) | (refine ob2_2 (zz13) fun _ xv zn529 zr530 => ?_; try clear zz13; obtain ⟨ti, hxv, rfl⟩ := zn529; subst zr530) | (refine ob1_3 (zz13) fun _ xv zn531 zr532 => ?_; try clear zz13; obtain ⟨ti, hxv, rfl⟩ := zn531; subst zr532) | (refine ob0_4 (zz13) fun _ xv zn533 zr534 => ?_; try clear zz13; obtain ⟨ti, hxv, rfl⟩ := zn533; subst zr534) | obtain ⟨_, xv, ⟨ti, hxv, rfl⟩, rfl⟩ := zz13
    try (refine hideM F ?_; intro hM9 F)
    refine tests_nil ?_
    refine iteT rfl ?_
    first | (refine ob1_2 (pGet' hpa hxv) fun x hx1 zq => ?_; refine ob1_1 zq fun tx zr => ?_; clear zq; subst zr) | (refine ob3_1 (pGet' hpa hxv) fun x hx1 tx zr517 => ?_; subst zr517) | (refine ob2_2 (pGet' hpa hxv) fun x hx1 tx zr518 => ?_; subst zr518) | (refine ob1_3 (pGet' hpa hxv) fun x hx1 tx zr519 => ?_; subst zr519) | (refine ob0_4 (pGet' hpa hxv) fun x hx1 tx zr520 => ?_; subst zr520) | obtain ⟨x, hx1, tx, rfl⟩ := pGet' hpa hxv
    have hi' : i < ys.length := by exact om243 hl lus hi
    first | (refine ob1_2 (pGet hpb (get_getD 0 hi')) fun y hy1 zq => ?_; refine ob1_1 zq fun ty zr => ?_; clear zq; subst zr) | (refine ob3_1 (pGet hpb (get_getD 0 hi')) fun y hy1 ty zr521 => ?_; subst zr521) | (refine ob2_2 (pGet hpb (get_getD 0 hi')) fun y hy1 ty zr522 => ?_; subst zr522) | (refine ob1_3 (pGet hpb (get_getD 0 hi')) fun y hy1 ty zr523 => ?_; subst zr523) | (refine ob0_4 (pGet hpb (get_getD 0 hi')) fun y hy1 ty zr524 => ?_; subst zr524) | obtain ⟨y, hy1, ty, rfl⟩ := pGet hpb (get_getD 0 hi')
    refine wpAny_BinOp ?_
    walk_at "N"
    refine Subscript_ ?_
    walk_at "N"
    walk_at "N"
    refine itemL (pln_of F.sub (le _ _ hlb)) (by exact om23) (by exact om244 hn lus hi) (by rw [Int.toNat_natCast]; exact hy1) ?_
    refine mulI (hx x (List.mem_of_getElem? hx1)) (hy _ (getD_mem hi')) hk hl' fun t₁ tk₃ => ?_
    exact exI4 B₂ _ h₃ _ ⟨rfl, .rfl, pSnocTake g (by rw [List.getElem?_zipWith, hx1, get_getD 0 hi']) ⟨_, rfl⟩, mc_upd2 rfl rfl, F⟩
  · intro C D B₂ c₂ zs h₃ tk₂ hC le g _ eD F
    refine comp_none F (List.mem_cons_self ..) (fun x c hc q => hC.2 x c hc (List.mem_singleton.mpr q)) (hC.1 _ (List.mem_singleton.mpr rfl)) fun h₄ F₁ => args_nil ?_
    refine sumL R.quiet F₁ eD (pWhole g (by simp; omega)) fun h₅ tk₃ t F₂ => ?_
    exact hq B₂ h₅ _ t F₂.toExt

set_option maxHeartbeats 1000000 in
theorem products_ok (T : Tp (Mine.hd.heap_39 w.params) B) (sub : B.In h) (R : Room 2 A) {cs : List (List Int)} {v : Value} {k n : Nat} (hv : IMatV B cs v) (hc : ∀ c ∈ cs, c.length = n) (hn : n ≤ 1000) (hcs : cs.length ≤ 1000) (hx : SmM k cs) (hk : k ≤ 500000)
    (hq : ∀ B' h' tk' v', Ext B h B' h' → IMatV B' (prods cs) v' → Q v' (mk s h' tk')) :
    wpAny (model prog w) A (call (.ref 179) [v]) Q E (mk s h tk) := by
  first | (refine ob3_3 (hv) fun l vs c zr525 hl hp => ?_; try clear hv; subst zr525) | (refine ob2_4 (hv) fun l vs c zr526 hl hp => ?_; try clear hv; subst zr526) | (refine ob1_5 (hv) fun l vs c zr527 hl hp => ?_; try clear hv; subst zr527) | (refine ob0_6 (hv) fun l vs c zr528 hl hp => ?_; try clear hv; subst zr528) | obtain ⟨l, vs, c, rfl, hl, hp⟩ := hv
  have len := pLen hp
  refine' enter (binds := [("columns", .ref l)]) [] T sub ?he .nil ?hB ?hf ?hcd ?hroom ?hbind ?hkind ?hh ?hcn ?hco ?hgen ?hk
  ((case he => exact fun _ h => absurd h List.not_mem_nil); (case hB => exact fun _ h => absurd h List.not_mem_nil))
  ((case hf => k_dflt k_is); (case hcd => k_dflt k_is); (case hroom => exact Room.lt (by assumption)); (case hbind => exact rfl); (case hkind => exact kindsX rfl); (case hcn => decide +kernel); (case hco => exact rfl); (case hgen => exact rfl); (case hk => exact rfl))
  intro L h₁ tk₁ hL S
  refine hideF S ?_
  intro hA8 hE8 hM8 hQ8 S
  refine wpAny_execs_cons (wpAny_Return_some ?_)
  try (refine hideQ ?_; intro hQ9)
  refine' comp_start [("columns", L + 1)] ?hcl2 ?hk2 ?hn2 ?hg2 ?hs2
  case hcl2 => rfl
  case hk2 => rfl
  case hn2 => decide
  case hs2 => exact fun _ => rfl
  walk_at "N"
  refine iterL "one" R.quiet S hl fun h₂ I IT hN st S₂ => ?_
  refine comp_pure (ps := []) (fun i B₁ ys => Paired (IntsV B₁) ((prods cs).take i) ys) (IT _) hN st S₂ (List.mem_cons_self ..) (by simpa using Paired.nil)
    (fun _ _ _ l g => pMono IntsV.mono l g) (fits (by exact om143 hcs len)) ["one", "columns"] (by (repeat' (first | exact List.forall_mem_nil _ | refine List.forall_mem_cons.mpr ⟨⟨rfl, rfl, rfl⟩, ?_⟩))) (fun _ => rfl) (by decide +kernel) (fun C => canC (c := C + 1) (List.mem_cons_of_mem _ (List.mem_cons_self ..))) ?_ ?_
  · intro C D i B₁ m₂ ys h₃ tk₂ E' hi _ le g zz13 F
    try (first | (refine hideC F ?_; intro hE9 hO9 hQ9 F) | (refine hideQ ?_; intro hQ9))
    first | (refine ob2_1 (zz13) fun y hy zr535 => ?_; try clear zz13; subst zr535) | (refine ob1_2 (zz13) fun y hy zr536 => ?_; try clear zz13; subst zr536) | (refine ob0_3 (zz13) fun y hy zr537 => ?_; try clear zz13; subst zr537) | obtain ⟨y, hy, rfl⟩ := zz13
    try (refine hideM F ?_; intro hM9 F)
    refine tests_nil ?_
    refine iteT rfl ?_
    first | (refine ob2_1 (pGet' hp hy) fun x hx1 hxv => ?_) | (refine ob1_2 (pGet' hp hy) fun x hx1 hxv => ?_) | (refine ob0_3 (pGet' hp hy) fun x hx1 hxv => ?_) | obtain ⟨x, hx1, hxv⟩ := pGet' hp hy
    have lx := hc x (List.mem_of_getElem? hx1)
    have T₁ := T.le le
    refine' comp_start [("one", C + 1)] ?hcl3 ?hk3 ?hn3 ?hg3 ?hs3
    case hcl3 => rfl
    case hk3 => rfl
    case hn3 => decide
    case hs3 => exact fun _ => rfl
    walk_at "N"
    refine iterL "other" R.quiet F (le _ _ hl) fun h₄ I₂ IT₂ hN₂ st₂ S₄ => ?_
    refine comp_pure (fun j B₂ zs => Paired (IntV B₂) ((cs.map fun y => dot x y).take j) zs) (IT₂ _) hN₂ st₂ S₄ (List.mem_cons_self ..) (by simpa using Paired.nil)
      (fun _ _ _ l g => g) (fits (by exact om143 hcs len)) ["one"] (by (repeat' (first | exact List.forall_mem_nil _ | refine List.forall_mem_cons.mpr ⟨⟨rfl, rfl, rfl⟩, ?_⟩))) (fun _ => rfl) (by decide +kernel) (fun C => canL (List.mem_cons_self ..)) ?_ ?_
    · intro C₂ D₂ j B₂ m₃ zs h₅ tk₃ E₂ hj _ le₂ g₂ zz13 F₂
      try (first | (refine hideC F₂ ?_; intro hE9 hO9 hQ9 F₂) | (refine hideQ ?_; intro hQ9))
      first | (refine ob2_1 (zz13) fun z hz zr538 => ?_; try clear zz13; subst zr538) | (refine ob1_2 (zz13) fun z hz zr539 => ?_; try clear zz13; subst zr539) | (refine ob0_3 (zz13) fun z hz zr540 => ?_; try clear zz13; subst zr540) | obtain ⟨z, hz, rfl⟩ := zz13
      try (refine hideM F₂ ?_; intro hM9 F₂)
      refine tests_nil ?_
      refine iteT rfl ?_
      first | (refine ob2_1 (pGet' hp hz) fun y' hy1 hyv => ?_) | (refine ob1_2 (pGet' hp hz) fun y' hy1 hyv => ?_) | (refine ob0_3 (pGet' hp hz) fun y' hy1 hyv => ?_) | obtain ⟨y', hy1, hyv⟩ := pGet' hp hz
      have ly := hc y' (List.mem_of_getElem? hy1)
      refine Call_ ?_
      walk_at "N"
      refine callF T (by k_dflt k_is) (args_cons ?_)
      walk_at "N"
      refine args_cons ?_
      walk_at "N"
      refine args_nil ⟨F₂.sub.of_le (le.trans le₂), ?_⟩
      refine by_ok (T.le (le.trans le₂)) F₂.sub ((R.deeper _).le (Nat.le_of_ble_eq_true rfl)) (IntsV.mono _ _ _ _ (le.trans le₂) hxv) (IntsV.mono _ _ _ _ (le.trans le₂) hyv) (by exact om245 lx ly) (by exact om246 hn lx) (hx x (List.mem_of_getElem? hx1)) (hx y' (List.mem_of_getElem? hy1)) hk hk fun B₃ h₆ tk₄ t X => ?_
      exact exI4 B₃ _ h₆ _ ⟨rfl, X.le, pSnocTake g₂ (by rw [List.getElem?_map, hy1]; rfl) ⟨_, rfl⟩, mc_upd rfl, F₂.ext X⟩
    · intro C₂ D₂ B₂ c₂ zs h₅ tk₃ hC le₂ g₂ _ e₂ F₂
      refine comp_none F₂ (List.mem_cons_self ..) (fun x c hc q => hC.2 x c hc (List.mem_singleton.mpr q)) (hC.1 _ (List.mem_singleton.mpr rfl)) fun h₆ F₃ => ?_
      exact exI4 B₂ _ h₆ _ ⟨rfl, le₂, pSnocTake (pMono IntsV.mono le₂ g) (by rw [prods, List.getElem?_map, hx1]; rfl) (LVm (e₂) (pWhole g₂ (by simp [len]))), mc_upd rfl, F₃⟩
  · intro C D B₂ c₂ ys h' tk' hC le g _ e F
    refine comp_none F (List.mem_cons_self ..) (fun x c hc q => hC.2 x c hc (List.mem_singleton.mpr q)) (hC.1 _ (List.mem_singleton.mpr rfl)) fun h'' F' => ?_
    exact hq B₂ h'' _ _ F'.toExt (LVm (e) (pWhole g (by simp [prods, len])))
end
section
variable {prog : Program} {w : World} {A : Around} {E : Value → Shared → Prop} {s : Shared} {h : Heap} {tk : Nat} {B : Base} {Q : Value → Shared → Prop}

set_option maxHeartbeats 2000000 in
theorem rest_ok (T : Tp (Mine.hd.heap_39 w.params) B) (sub : B.In h) (R : Room 2 A) {cs : List (List Int)} {qs : List Rat} {aim : List Int} {u v y : Value} {K n : Nat} (hu : IMatV B cs u) (hv : RowV B qs v) (hy : IntsV B aim y)
    (hc : ∀ c ∈ cs, c.length = n) (ha : aim.length = n) (hn : n ≤ 1000) (hcs : cs.length ≤ 4) (hqs : qs.length = cs.length) (hx : SmM 8 cs) (hax : ∀ x ∈ aim, Sm 8 x) (hK0 : 0 < K) (hK : K ≤ 9000) (hqb : ∀ q ∈ qs, RatB K q)
    (hq : ∀ B' h' tk' t l tt, Ext B h B' h' → B' t = some (tupO [.int (prodDen qs) tt, l] 0) → IntsV B' (rest cs qs aim) l → Q (.ref t) (mk s h' tk')) :
    wpAny (model prog w) A (call (.ref 184) [u, v, y]) Q E (mk s h tk) := by
  first | (refine ob3_3 (hu) fun lc us cc zr541 hlc hpc => ?_; try clear hu; subst zr541) | (refine ob2_4 (hu) fun lc us cc zr542 hlc hpc => ?_; try clear hu; subst zr542) | (refine ob1_5 (hu) fun lc us cc zr543 hlc hpc => ?_; try clear hu; subst zr543) | (refine ob0_6 (hu) fun lc us cc zr544 hlc hpc => ?_; try clear hu; subst zr544) | obtain ⟨lc, us, cc, rfl, hlc, hpc⟩ := hu
  first | (refine ob3_3 (hv) fun lq vs cq zr545 hlq hpq => ?_; try clear hv; subst zr545) | (refine ob2_4 (hv) fun lq vs cq zr546 hlq hpq => ?_; try clear hv; subst zr546) | (refine ob1_5 (hv) fun lq vs cq zr547 hlq hpq => ?_; try clear hv; subst zr547) | (refine ob0_6 (hv) fun lq vs cq zr548 hlq hpq => ?_; try clear hv; subst zr548) | obtain ⟨lq, vs, cq, rfl, hlq, hpq⟩ := hv
  first | (refine ob3_3 (hy) fun la as ca zr549 hla hpa => ?_; try clear hy; subst zr549) | (refine ob2_4 (hy) fun la as ca zr550 hla hpa => ?_; try clear hy; subst zr550) | (refine ob1_5 (hy) fun la as ca zr551 hla hpa => ?_; try clear hy; subst zr551) | (refine ob0_6 (hy) fun la as ca zr552 hla hpa => ?_; try clear hy; subst zr552) | obtain ⟨la, as, ca, rfl, hla, hpa⟩ := hy
  have lus := pLen hpc
  have lvs := pLen hpq
  have las := pLen hpa
  have hPs := prodDen_sm hqb
  have hPk : 1 + K * qs.length ≤ 40000 := by
    have := Nat.mul_le_mul hK (show qs.length ≤ 4 by omega)
    exact om247 this
  refine' enter (binds := [("columns", .ref lc), ("numbers", .ref lq), ("aim", .ref la)]) [] T sub ?he .nil ?hB ?hf ?hcd ?hroom ?hbind ?hkind ?hh ?hcn ?hco ?hgen ?hk
  ((case he => exact fun _ h => absurd h List.not_mem_nil); (case hB => exact fun _ h => absurd h List.not_mem_nil))
  ((case hf => k_dflt k_is); (case hcd => k_dflt k_is); (case hroom => exact Room.lt (by assumption)); (case hbind => exact rfl); (case hkind => exact kindsX rfl); (case hcn => decide +kernel); (case hco => exact rfl); (case hgen => exact rfl); (case hk => exact rfl))
  intro L h₁ tk₁ hL S
  refine hideF S ?_
  intro hA8 hE8 hM8 hQ8 S
  refine wpAny_execs_cons (wpAny_Assign_Name (cI fun t₁ tk₂ => ?_))
  try (refine hideQ ?_; intro hQ9)
  walk_at "storeName"
  intro h₂ tk₃ S₁
  refine wpAny_execs_cons (wpAny_For ?_)
  try (refine hideQ ?_; intro hQ9)
  walk_at "N"
  refine iterL "number" R.quiet S₁ hlq fun h₃ I IT hN st S₂ => ?_
  have S₃ := S₂.forget (m' := mL [("columns", .ref lc), ("numbers", .ref lq), ("aim", .ref la), ("times", .int 1 t₁)]) (mL_known (by exact rfl))
  refine forLoop (fun i B m ps => ∃ x t, m = mL [("columns", .ref lc), ("numbers", .ref lq), ("aim", .ref la), ("times", .int x t)] ∧ ps = [] ∧ x = prodDen (qs.take i))
    (IT _) (canL (List.mem_cons_self ..)) hN (List.mem_cons_self ..) S₃ st ⟨_, _, rfl, rfl, rfl⟩ ?_ ?_
  · intro i B₂ m₁ m₂ ps₁ h₄ tk₄ E' hi le zz10 zz11 F
    try (first | (refine hideC F ?_; intro hE9 hO9 hQ9 F) | (refine hideQ ?_; intro hQ9))
    first | (refine ob2_3 (zz10) fun x t zr586 zr587 hxe => ?_; try clear zz10; subst zr586; subst zr587) | (refine ob1_4 (zz10) fun x t zr588 zr589 hxe => ?_; try clear zz10; subst zr588; subst zr589) | (refine ob0_5 (zz10) fun x t zr590 zr591 hxe => ?_; try clear zz10; subst zr590; subst zr591) | obtain ⟨x, t, rfl, rfl, hxe⟩ := zz10
    first | (refine ob2_1 (zz11) fun qv hqv zr592 => ?_; try clear zz11; subst zr592) | (refine ob1_2 (zz11) fun qv hqv zr593 => ?_; try clear zz11; subst zr593) | (refine ob0_3 (zz11) fun qv hqv zr594 => ?_; try clear zz11; subst zr594) | obtain ⟨qv, hqv, rfl⟩ := zz11
    try (refine hideM F ?_; intro hM9 F)
    first | (refine ob6_2 (pGet' hpq hqv) fun q hq1 lt nt ta tb zr553 hlt => ?_; subst zr553) | (refine ob5_3 (pGet' hpq hqv) fun q hq1 lt nt ta tb zr554 hlt => ?_; subst zr554) | (refine ob4_4 (pGet' hpq hqv) fun q hq1 lt nt ta tb zr555 hlt => ?_; subst zr555) | (refine ob3_5 (pGet' hpq hqv) fun q hq1 lt nt ta tb zr556 hlt => ?_; subst zr556) | (refine ob2_6 (pGet' hpq hqv) fun q hq1 lt nt ta tb zr557 hlt => ?_; subst zr557) | (refine ob1_7 (pGet' hpq hqv) fun q hq1 lt nt ta tb zr558 hlt => ?_; subst zr558) | obtain ⟨q, hq1, lt, nt, ta, tb, rfl, hlt⟩ := pGet' hpq hqv
    refine wpAny_execs_cons (wpAny_Assign_Name (wpAny_BinOp ?_))
    try (refine hideQ ?_; intro hQ9)
    walk_at "N"
    refine Subscript_ ?_
    walk_at "N"
    have bx : Sm (1 + K * (qs.take i).length) x := by rw [hxe]; exact prodDen_sm fun q h => hqb q (List.mem_of_mem_take h)
    have bl : K * (qs.take i).length ≤ K * qs.length := Nat.mul_le_mul_left _ (by rw [List.length_take]; omega)
    refine cI fun _ tk₅ => itemT F (le _ _ hlt) (by decide) (by decide) rfl (mulI bx (hqb q (List.mem_of_getElem? hq1)).2 (by exact om248 hPk bl) (by exact om249 hK) fun t₂ tk₆ => ?_)
    walk_at "storeName"
    intro h₅ tk₇ F₁
    refine wpAny_execs_nil ?_
    refine exI5 B₂ _ [] h₅ _ ⟨rfl, .rfl, ⟨_, _, rfl, rfl, ?_⟩, F₁.forget (mL_known (by exact rfl))⟩
    rw [List.take_add_one, hq1, hxe]
    simp [prodDen, List.foldl_append]
  · intro B₂ m₁ ps₁ h₄ tk₄ le zz6 F
    try (first | (refine hideC F ?_; intro hE9 hO9 hQ9 F) | (refine hideQ ?_; intro hQ9))
    first | (refine ob2_3 (zz6) fun x t zr595 zr596 hxe => ?_; try clear zz6; subst zr595; subst zr596) | (refine ob1_4 (zz6) fun x t zr597 zr598 hxe => ?_; try clear zz6; subst zr597; subst zr598) | (refine ob0_5 (zz6) fun x t zr599 zr600 hxe => ?_; try clear zz6; subst zr599; subst zr600) | obtain ⟨x, t, rfl, rfl, hxe⟩ := zz6
    try (refine hideM F ?_; intro hM9 F)
    rw [List.take_of_length_le (by exact om250 lvs)] at hxe
    subst hxe
    refine wpAny_execs_cons ?_
    try (refine hideQ ?_; intro hQ9)
    refine' comp_assign [("times", L + 1)] ?hsw ?hcl ?hk' ?hn ?hg ?hs
    case hk' => rfl
    case hn => decide
    case hcl => rfl
    case hs => exact fun _ => rfl
    case hsw => rfl
    walk_at "N"
    refine iterL "number" R.quiet F (le _ _ hla) fun h₅ I₂ IT₂ hN₂ st₂ F₁ => ?_
    refine comp_pure (ps := []) (fun i B₁ zs => Paired (IntV B₁) ((aim.map fun x => prodDen qs * x).take i) zs) (IT₂ _) hN₂ st₂ F₁ (List.mem_cons_self ..) (by simpa using Paired.nil)
      (fun _ _ _ _ g => g) (fits (by exact om251 ha hn las)) ["times"] (by (repeat' (first | exact List.forall_mem_nil _ | refine List.forall_mem_cons.mpr ⟨⟨rfl, rfl, rfl⟩, ?_⟩))) (fun _ => rfl) (by decide +kernel) (fun C => canL (List.mem_cons_self ..)) ?_ ?_
    · intro C D i B₃ m₃ zs h₆ tk₅ E' hi _ le₃ g zz13 G
      try (first | (refine hideC G ?_; intro hE9 hO9 hQ9 G) | (refine hideQ ?_; intro hQ9))
      first | (refine ob2_1 (zz13) fun xv hxv zr601 => ?_; try clear zz13; subst zr601) | (refine ob1_2 (zz13) fun xv hxv zr602 => ?_; try clear zz13; subst zr602) | (refine ob0_3 (zz13) fun xv hxv zr603 => ?_; try clear zz13; subst zr603) | obtain ⟨xv, hxv, rfl⟩ := zz13
      try (refine hideM G ?_; intro hM9 G)
      refine tests_nil ?_
      refine iteT rfl ?_
      first | (refine ob1_2 (pGet' hpa hxv) fun x hx1 zq => ?_; refine ob1_1 zq fun tx zr => ?_; clear zq; subst zr) | (refine ob3_1 (pGet' hpa hxv) fun x hx1 tx zr559 => ?_; subst zr559) | (refine ob2_2 (pGet' hpa hxv) fun x hx1 tx zr560 => ?_; subst zr560) | (refine ob1_3 (pGet' hpa hxv) fun x hx1 tx zr561 => ?_; subst zr561) | (refine ob0_4 (pGet' hpa hxv) fun x hx1 tx zr562 => ?_; subst zr562) | obtain ⟨x, hx1, tx, rfl⟩ := pGet' hpa hxv
      refine wpAny_BinOp ?_
      walk_at "N"
      walk_at "N"
      refine mulI hPs (hax x (List.mem_of_getElem? hx1)) (by exact om252 hPk) (by exact om253) fun t₂ tk₆ => ?_
      exact exI4 B₃ _ h₆ _ ⟨rfl, .rfl, pSnocTake g (by rw [List.getElem?_map, hx1]; rfl) ⟨_, rfl⟩, mc_upd rfl, G⟩
    intro C D B₃ c₃ zs h₆ tk₅ hC le₃ g _ eD G
    refine comp_some' "left" G (List.mem_cons_self ..) (fun x c hc q => hC.2 x c hc (List.mem_singleton.mpr q)) (hC.1 _ (List.mem_singleton.mpr rfl)) (canL (List.mem_cons_self ..)) fun h₇ tk₆ G₁ => ?_
    have g0 : Paired (IntV B₃) (restTo cs qs aim 0) zs := pWhole g (by simp [las, restTo])
    refine wpAny_execs_cons (wpAny_For (Call_ ?_))
    try (refine hideQ ?_; intro hQ9)
    walk_at "N"
    refine cType (args_cons ?_)
    walk_at "N"
    refine args_nil (enumL "spot" "column" R.quiet G₁ (le₃ _ _ (le _ _ hlc)) fun h₈ e it IT₃ hN₃ st₃ G₂ => ?_)
    refine (IT₃ default default 0 default).self 0 (mk s h₈ _) _ _ st₃ ?_
    have G₃ := G₂.forget (m' := mL [("columns", .ref lc), ("numbers", .ref lq), ("times", .int (prodDen qs) t), ("left", .ref D)]) (mL_known (by exact rfl))
    refine forLoop (fun k B m ps => ∃ l, m = mL [("columns", .ref lc), ("numbers", .ref lq), ("times", .int (prodDen qs) t), ("left", l)] ∧ ps = [] ∧ IntsV B (restTo cs qs aim k) l)
      (IT₃ _ _ _ _) ⟨canL (List.mem_cons_self ..), canC'⟩ hN₃ (List.mem_cons_self ..) G₃ st₃ ⟨_, rfl, rfl, _, _, _, rfl, eD, g0⟩ ?_ ?_
    · intro k B₄ m₁ m₂ ps₁ h₉ tk₇ E' hk le₄ zz10 zz11 N
      try (first | (refine hideC N ?_; intro hE9 hO9 hQ9 N) | (refine hideQ ?_; intro hQ9))
      first | (refine ob1_3 (zz10) fun l zr604 zr605 hl => ?_; try clear zz10; subst zr604; subst zr605) | (refine ob0_4 (zz10) fun l zr606 zr607 hl => ?_; try clear zz10; subst zr606; subst zr607) | obtain ⟨l, rfl, rfl, hl⟩ := zz10
      first | (refine ob1_2 (zz11) fun _ cv zq => ?_; refine ob1_1 zq fun ⟨tk', hcv, rfl⟩ zr => ?_; clear zq; subst zr) | (refine ob2_2 (zz11) fun _ cv zn608 zr609 => ?_; try clear zz11; obtain ⟨tk', hcv, rfl⟩ := zn608; subst zr609) | (refine ob1_3 (zz11) fun _ cv zn610 zr611 => ?_; try clear zz11; obtain ⟨tk', hcv, rfl⟩ := zn610; subst zr611) | (refine ob0_4 (zz11) fun _ cv zn612 zr613 => ?_; try clear zz11; obtain ⟨tk', hcv, rfl⟩ := zn612; subst zr613) | obtain ⟨_, cv, ⟨tk', hcv, rfl⟩, rfl⟩ := zz11
      try (refine hideM N ?_; intro hM9 N)
      have leA := le.trans (le₃.trans le₄)
      first | (refine ob1_2 (pGet' hpc hcv) fun col hcol zq => ?_; refine ob3_3 zq fun lcol vcol ccol zr hlcol hpcol => ?_; clear zq; subst zr) | (refine ob5_3 (pGet' hpc hcv) fun col hcol lcol vcol ccol zr563 hlcol hpcol => ?_; subst zr563) | (refine ob4_4 (pGet' hpc hcv) fun col hcol lcol vcol ccol zr564 hlcol hpcol => ?_; subst zr564) | (refine ob3_5 (pGet' hpc hcv) fun col hcol lcol vcol ccol zr565 hlcol hpcol => ?_; subst zr565) | (refine ob2_6 (pGet' hpc hcv) fun col hcol lcol vcol ccol zr566 hlcol hpcol => ?_; subst zr566) | (refine ob1_7 (pGet' hpc hcv) fun col hcol lcol vcol ccol zr567 hlcol hpcol => ?_; subst zr567) | obtain ⟨col, hcol, lcol, vcol, ccol, rfl, hlcol, hpcol⟩ := pGet' hpc hcv
      have hcolm := List.mem_of_getElem? hcol
      have lcl := hc col hcolm
      have hkc : k < cs.length := by exact om42 lus hk
      first | (refine ob6_2 (pGet hpq (get_getD 0 (i := k) (by exact om254 hqs hkc))) fun qv hqv lt nt ta tb zr568 hlt => ?_; subst zr568) | (refine ob5_3 (pGet hpq (get_getD 0 (i := k) (by exact om254 hqs hkc))) fun qv hqv lt nt ta tb zr569 hlt => ?_; subst zr569) | (refine ob4_4 (pGet hpq (get_getD 0 (i := k) (by exact om254 hqs hkc))) fun qv hqv lt nt ta tb zr570 hlt => ?_; subst zr570) | (refine ob3_5 (pGet hpq (get_getD 0 (i := k) (by exact om254 hqs hkc))) fun qv hqv lt nt ta tb zr571 hlt => ?_; subst zr571) | (refine ob2_6 (pGet hpq (get_getD 0 (i := k) (by exact om254 hqs hkc))) fun qv hqv lt nt ta tb zr572 hlt => ?_; subst zr572) | (refine ob1_7 (pGet hpq (get_getD 0 (i := k) (by exact om254 hqs hkc))) fun qv hqv lt nt ta tb zr573 hlt => ?_; subst zr573) | obtain ⟨qv, hqv, lt, nt, ta, tb, rfl, hlt⟩ := pGet hpq (get_getD 0 (i := k) (by exact om254 hqs hkc))
      have hqm : RatB K (qs.getD k 0) := hqb _ (getD_mem (by exact om254 hqs hkc))
      have bsh := shareOf_sm hqm hPs
      first | (refine ob3_3 (hl) fun ll vl cl zr574 hll hpl => ?_; try clear hl; subst zr574) | (refine ob2_4 (hl) fun ll vl cl zr575 hll hpl => ?_; try clear hl; subst zr575) | (refine ob1_5 (hl) fun ll vl cl zr576 hll hpl => ?_; try clear hl; subst zr576) | (refine ob0_6 (hl) fun ll vl cl zr577 hll hpl => ?_; try clear hl; subst zr577) | obtain ⟨ll, vl, cl, rfl, hll, hpl⟩ := hl
      have lrt := restTo_len hc ha k (by exact om255 hkc) (qs := qs)
      have lvl := pLen hpl
      refine wpAny_execs_cons (wpAny_Assign_Name (wpAny_BinOp (Subscript_ (Subscript_ ?_))))
      try (refine hideQ ?_; intro hQ9)
      walk_at "N"
      walk_at "N"
      refine itemL (pln_of N.sub (leA _ _ hlq)) (by exact om23) (by exact om256 hcs hkc) (by rw [Int.toNat_natCast]; exact hqv) ?_
      refine cI fun _ tk₈ => itemT N (leA _ _ hlt) (by decide) (by decide) rfl (wpAny_BinOp ?_)
      walk_at "N"
      refine Subscript_ (Subscript_ ?_)
      walk_at "N"
      walk_at "N"
      refine itemL (pln_of N.sub (leA _ _ hlq)) (by exact om23) (by exact om256 hcs hkc) (by rw [Int.toNat_natCast]; exact hqv) ?_
      refine cI fun _ tk₉ => itemT N (leA _ _ hlt) (by decide) (by decide) rfl ?_
      refine divI (den_ne _) hqm.2 hK fun t₃ tk₁₀ => mulI hqm.1 (Sm.fdiv hPs (by have := (qs.getD k 0).den_pos; omega)) (by exact om249 hK) (by exact om252 hPk) fun t₄ tk₁₁ => ?_
      walk_at "storeName"
      intro h₁₀ tk₁₂ N₁
      refine wpAny_execs_cons ?_
      try (refine hideQ ?_; intro hQ9)
      refine' comp_assign [("share", L + 1 + 1 + 1), ("column", L + 1 + 1)] ?hsw2 ?hcl2 ?hk2' ?hn2 ?hg2 ?hs2
      case hk2' => rfl
      case hn2 => decide
      case hcl2 => rfl
      case hs2 => exact fun _ => rfl
      case hsw2 => rfl
      refine Call_ ?_
      walk_at "N"
      refine cType (args_cons ?_)
      walk_at "N"
      refine args_nil (enumL "at" "number" R.quiet N₁ hll fun h₁₁ e₂ it₂ IT₄ hN₄ st₄ N₂ => ?_)
      refine (IT₄ default default 0 default).self 0 (mk s h₁₁ _) _ _ st₄ ?_
      refine comp_pure (fun i B₁ zs => Paired (IntV B₁) ((restTo cs qs aim (k + 1)).take i) zs) (IT₄ _ _ _ _) hN₄ st₄ N₂ (List.mem_cons_self ..) (by simpa using Paired.nil)
        (fun _ _ _ _ g => g) (fits (by exact om257 hn lrt lvl)) ["share", "column"] (by (repeat' (first | exact List.forall_mem_nil _ | refine List.forall_mem_cons.mpr ⟨⟨rfl, rfl, rfl⟩, ?_⟩))) (fun _ => rfl) (by decide +kernel) (fun C => ⟨canL (List.mem_cons_self ..), canL (List.mem_cons_self ..)⟩) ?_ ?_
      · intro C D i B₅ m₃ zs h₁₂ tk₁₃ E' hi _ le₅ g zz13 P
        try (first | (refine hideC P ?_; intro hE9 hO9 hQ9 P) | (refine hideQ ?_; intro hQ9))
        first | (refine ob1_2 (zz13) fun _ xv zq => ?_; refine ob1_1 zq fun ⟨ti, hxv, rfl⟩ zr => ?_; clear zq; subst zr) | (refine ob2_2 (zz13) fun _ xv zn614 zr615 => ?_; try clear zz13; obtain ⟨ti, hxv, rfl⟩ := zn614; subst zr615) | (refine ob1_3 (zz13) fun _ xv zn616 zr617 => ?_; try clear zz13; obtain ⟨ti, hxv, rfl⟩ := zn616; subst zr617) | (refine ob0_4 (zz13) fun _ xv zn618 zr619 => ?_; try clear zz13; obtain ⟨ti, hxv, rfl⟩ := zn618; subst zr619) | obtain ⟨_, xv, ⟨ti, hxv, rfl⟩, rfl⟩ := zz13
        try (refine hideM P ?_; intro hM9 P)
        refine tests_nil ?_
        refine iteT rfl ?_
        first | (refine ob1_2 (pGet' hpl hxv) fun x hx1 zq => ?_; refine ob1_1 zq fun tx zr => ?_; clear zq; subst zr) | (refine ob3_1 (pGet' hpl hxv) fun x hx1 tx zr578 => ?_; subst zr578) | (refine ob2_2 (pGet' hpl hxv) fun x hx1 tx zr579 => ?_; subst zr579) | (refine ob1_3 (pGet' hpl hxv) fun x hx1 tx zr580 => ?_; subst zr580) | (refine ob0_4 (pGet' hpl hxv) fun x hx1 tx zr581 => ?_; subst zr581) | obtain ⟨x, hx1, tx, rfl⟩ := pGet' hpl hxv
        have hic : i < col.length := by exact om258 lcl lrt lvl hi
        first | (refine ob1_2 (pGet hpcol (get_getD 0 hic)) fun y hy1 zq => ?_; refine ob1_1 zq fun ty zr => ?_; clear zq; subst zr) | (refine ob3_1 (pGet hpcol (get_getD 0 hic)) fun y hy1 ty zr582 => ?_; subst zr582) | (refine ob2_2 (pGet hpcol (get_getD 0 hic)) fun y hy1 ty zr583 => ?_; subst zr583) | (refine ob1_3 (pGet hpcol (get_getD 0 hic)) fun y hy1 ty zr584 => ?_; subst zr584) | (refine ob0_4 (pGet hpcol (get_getD 0 hic)) fun y hy1 ty zr585 => ?_; subst zr585) | obtain ⟨y, hy1, ty, rfl⟩ := pGet hpcol (get_getD 0 hic)
        refine wpAny_BinOp ?_
        walk_at "N"
        refine wpAny_BinOp ?_
        walk_at "N"
        refine Subscript_ ?_
        walk_at "N"
        walk_at "N"
        refine itemL (pln_of P.sub (le₅ _ _ (leA _ _ hlcol))) (by exact om23) (by exact om259 hn lrt lvl hi) (by rw [Int.toNat_natCast]; exact hy1) ?_
        refine mulI bsh (hx col hcolm _ (getD_mem hic)) (by exact om260 hK hPk) (by exact om253) fun t₅ tk₁₄ => subI fun t₆ tk₁₅ => ?_
        refine exI4 B₅ _ h₁₂ _ ⟨rfl, .rfl, pSnocTake g ?_ ⟨_, rfl⟩, mc_upd2 rfl rfl, P⟩
        rw [restTo, restStep, List.getElem?_zipWith, hx1, getD_eq hcol, get_getD 0 hic]
        rfl
      · intro C D B₅ c₅ zs h₁₂ tk₁₃ hC5 le₅ g _ eD5 P
        refine comp_some' "left" P (List.mem_cons_self ..) (fun x c hc q => hC5.2 x c hc (List.mem_singleton.mpr q)) (hC5.1 _ (List.mem_singleton.mpr rfl)) (canL (List.mem_cons_self ..)) fun h₁₃ tk₁₄ P₁ => wpAny_execs_nil ?_
        have lr1 := restTo_len hc ha (k + 1) (by exact om261 hkc) (qs := qs)
        exact exI5 B₅ _ [] h₁₃ _ ⟨rfl, le₅, ⟨_, rfl, rfl, _, _, _, rfl, eD5, pWhole g (by exact om262 lrt lvl lr1)⟩, P₁.forget (mL_known (by exact rfl))⟩
    · intro B₄ m₁ ps₁ h₉ tk₇ le₄ zz6 N
      try (first | (refine hideC N ?_; intro hE9 hO9 hQ9 N) | (refine hideQ ?_; intro hQ9))
      first | (refine ob1_3 (zz6) fun l zr620 zr621 hl => ?_; try clear zz6; subst zr620; subst zr621) | (refine ob0_4 (zz6) fun l zr622 zr623 hl => ?_; try clear zz6; subst zr622; subst zr623) | obtain ⟨l, rfl, rfl, hl⟩ := zz6
      try (refine hideM N ?_; intro hM9 N)
      refine wpAny_execs_cons (wpAny_Return_some (Tuple_ (args_cons ?_)))
      try (refine hideQ ?_; intro hQ9)
      walk_at "N"
      refine args_cons ?_
      walk_at "N"
      refine args_nil (mkTup N fun B₅ h₁₀ t' le₅ et N₁ => ?_)
      refine hq B₅ h₁₀ _ t' l t N₁.toExt et (IntsV.mono _ _ _ _ le₅ ?_)
      rw [lus] at hl
      exact hl
end
theorem reads_row {B : Base} {h : Heap} (sub : B.In h) {rs : List Rat} {vs : List Value} (p : Paired (RatV B) rs vs) : ∃ as, ReadsAll h vs (rs.map ratD) as := by
  induction p with
  | nil => exact ⟨_, .nil⟩ | cons a _ ih => exact ih.elim fun as q => ⟨_, .cons (RatV.reads a sub) q⟩
theorem reads_mat {B : Base} {h : Heap} (sub : B.In h) {M : List (List Rat)} {vs : List Value} (p : Paired (RowV B) M vs) : ∃ as, ReadsAll h vs (M.map fun r => .list (r.map ratD)) as := by
  induction p with
  | nil => exact ⟨_, .nil⟩
  | cons a _ ih =>
    refine ih.elim fun as q => ob3_3 a fun l vs c e hl hp => (reads_row sub hp).elim fun bs q2 => ?_
    subst e
    exact ⟨_, .cons (.list (sub _ _ hl) rfl rfl q2) q⟩
theorem canRow : ∀ rs : List Rat, PyData.canLayAll0 (rs.map ratD) = true
  | [] => rfl
  | r :: rs => by
    show (PyData.canLay0 (ratD r) && PyData.canLayAll0 (rs.map ratD)) = true
    rw [canRow rs]; rfl
theorem canMat : ∀ M : List (List Rat), PyData.canLayAll0 (M.map fun r => PyData.list (r.map ratD)) = true
  | [] => rfl
  | r :: M => by
    show (PyData.canLayAll0 (r.map ratD) && PyData.canLayAll0 (M.map fun r => PyData.list (r.map ratD))) = true
    rw [canRow, canMat M]; rfl
section
variable {prog : Program} {w : World} {A : Around} {E : Value → Shared → Prop} {s : Shared} {h : Heap} {tk : Nat} {B : Base} {Q : Value → Shared → Prop}
/-- «free != []» -/
theorem neNil {M : List (List Rat)} {v : Value} {l : Addr} {c : Nat} (sub : B.In h) (hM : MatV B M v) (hl : B l = some (lstO [] c)) (R : Room 0 A) (hq : Q (.bool (decide (M ≠ []))) (mk s h tk)) :
    wpAny (model prog w) A (compareOp .NotEq v (.ref l)) Q E (mk s h tk) := by
  first | (refine ob3_3 (hM) fun lm vs cm zr624 hlm hp => ?_; try clear hM; subst zr624) | (refine ob2_4 (hM) fun lm vs cm zr625 hlm hp => ?_; try clear hM; subst zr625) | (refine ob1_5 (hM) fun lm vs cm zr626 hlm hp => ?_; try clear hM; subst zr626) | (refine ob0_6 (hM) fun lm vs cm zr627 hlm hp => ?_; try clear hM; subst zr627) | obtain ⟨lm, vs, cm, rfl, hlm, hp⟩ := hM
  first | (refine ob1_1 (reads_mat sub hp) fun as ra => ?_) | (refine ob0_2 (reads_mat sub hp) fun as ra => ?_) | obtain ⟨as, ra⟩ := reads_mat sub hp
  refine PySem.SeqAt.compareNe_reads (s := mk s h tk) (da := .list (M.map fun r : List Rat => PyData.list (r.map ratD))) (db := .list []) (.list (sub _ _ hlm) rfl rfl ra) (.list (sub _ _ hl) rfl rfl .nil) (canMat M) rfl ?_ ?_
  · have := R.units
    have h2 : (PyData.list ([] : List PyData)).depth = 1 := rfl
    rw [h2]
    (first | with_reducible assumption | with_reducible exact Int.natCast_nonneg _ | lia | omega)
  · have e : (!PyData.eqv (.list (M.map fun r : List Rat => PyData.list (r.map ratD))) (.list [])) = decide (M ≠ []) := by
      cases M with
      | nil => rfl
      | cons r M => rfl
    rw [e]; exact hq

set_option maxHeartbeats 4000000 in
theorem looked_ok (T : Tp (Mine.hd.heap_39 w.params) B) (sub : B.In h) (R : Room 9 A) {cs : List (List Int)} {aim : List Int} {u v : Value} {n : Nat} (hu : IMatV B cs u) (hv : IntsV B aim v) (X : Fine n cs aim)
    (hq : ∀ B' h' tk' t l t1 t2, Ext B h B' h' → B' t = some (tupO [.int (rankOf cs 4) t1, .int (prodDen (qsol cs aim)) t2, l] 0) → IntsV B' (leftOf cs aim) l → Q (.ref t) (mk s h' tk')) :
    wpAny (model prog w) A (call (.ref 189) [u, v]) Q E (mk s h tk) := by
  have hu0 := hu
  have hv0 := hv
  first | (refine ob3_3 (hu) fun lc us cc zr628 hlc hpc => ?_; try clear hu; subst zr628) | (refine ob2_4 (hu) fun lc us cc zr629 hlc hpc => ?_; try clear hu; subst zr629) | (refine ob1_5 (hu) fun lc us cc zr630 hlc hpc => ?_; try clear hu; subst zr630) | (refine ob0_6 (hu) fun lc us cc zr631 hlc hpc => ?_; try clear hu; subst zr631) | obtain ⟨lc, us, cc, rfl, hlc, hpc⟩ := hu
  first | (refine ob3_3 (hv) fun la as ca zr632 hla hpa => ?_; try clear hv; subst zr632) | (refine ob2_4 (hv) fun la as ca zr633 hla hpa => ?_; try clear hv; subst zr633) | (refine ob1_5 (hv) fun la as ca zr634 hla hpa => ?_; try clear hv; subst zr634) | (refine ob0_6 (hv) fun la as ca zr635 hla hpa => ?_; try clear hv; subst zr635) | obtain ⟨la, as, ca, rfl, hla, hpa⟩ := hv
  have lcs := X.len
  have lus := pLen hpc
  have las := pLen hpa
  have hn1 := X.pos
  have hn3 := X.le
  have hal := X.alen
  have hsq := prods_sq cs
  rw [lcs] at hsq
  have hpsm : SmM 10 (prods cs) := prods_sm X.sm X.rows
  have hrsm : ∀ x ∈ rights cs aim, Sm 10 x := fun x hx => by
    first | (refine ob2_1 (List.mem_map.mp hx) fun c hc zr636 => ?_; subst zr636) | (refine ob1_2 (List.mem_map.mp hx) fun c hc zr637 => ?_; subst zr637) | (refine ob0_3 (List.mem_map.mp hx) fun c hc zr638 => ?_; subst zr638) | obtain ⟨c, hc, rfl⟩ := List.mem_map.mp hx
    exact dot_sm (X.sm c hc) X.sma (by rw [X.rows c hc]; exact Nat.le_refl _)
  refine' enter (binds := [("columns", .ref lc), ("aim", .ref la)]) [] T sub ?he .nil ?hB ?hf ?hcd ?hroom ?hbind ?hkind ?hh ?hcn ?hco ?hgen ?hk
  ((case he => exact fun _ h => absurd h List.not_mem_nil); (case hB => exact fun _ h => absurd h List.not_mem_nil))
  ((case hf => k_dflt k_is); (case hcd => k_dflt k_is); (case hroom => exact Room.lt (by assumption)); (case hbind => exact rfl); (case hkind => exact kindsX rfl); (case hcn => decide +kernel); (case hco => exact rfl); (case hgen => exact rfl); (case hk => exact rfl))
  intro L h₁ tk₁ hL S
  refine hideF S ?_
  intro hA8 hE8 hM8 hQ8 S
  refine wpAny_execs_cons (Assign_Tuple_swapped (names := ["products", "right"]) (Tuple_ (args_cons (Call_ ?_))))
  try (refine hideQ ?_; intro hQ9)
  walk_at "N"
  refine callF T (by k_dflt k_is) (args_cons ?_)
  walk_at "N"
  refine args_nil ⟨S.sub, ?_⟩
  refine products_ok T S.sub ((R.deeper _).le (Nat.le_of_ble_eq_true rfl)) hu0 X.rows (by decide) (by exact om263 lcs hn3) X.sm (by decide) fun B₁ h₂ tk₂ pv X₁ hpv => ?_
  have S₁ := S.ext X₁
  have T₁ := T.le S₁.mono
  refine args_cons ?_
  refine' comp_start [("aim", L + 1 + 1)] ?hcl2 ?hk2 ?hn2 ?hg2 ?hs2
  case hcl2 => rfl
  case hk2 => rfl
  case hn2 => decide
  case hs2 => exact fun _ => rfl
  walk_at "N"
  refine iterL "column" R.quiet S₁ (S₁.mono _ _ hlc) fun h₃ I IT hN st S₂ => ?_
  refine comp_pure (ps := []) (fun i B₁ ys => Paired (IntV B₁) ((rights cs aim).take i) ys) (IT _) hN st S₂ (List.mem_cons_self ..) (by simpa using Paired.nil)
    (fun _ _ _ _ g => g) (fits (by exact om264 lcs lus hn3)) ["aim"] (by (repeat' (first | exact List.forall_mem_nil _ | refine List.forall_mem_cons.mpr ⟨⟨rfl, rfl, rfl⟩, ?_⟩))) (fun _ => rfl) (by decide +kernel) (fun C => canL (List.mem_cons_self ..)) ?_ ?_
  · intro C D i B₂ m₂ ys h₄ tk₃ E' hi _ le g zz13 F
    try (first | (refine hideC F ?_; intro hE9 hO9 hQ9 F) | (refine hideQ ?_; intro hQ9))
    first | (refine ob2_1 (zz13) fun y hy zr692 => ?_; try clear zz13; subst zr692) | (refine ob1_2 (zz13) fun y hy zr693 => ?_; try clear zz13; subst zr693) | (refine ob0_3 (zz13) fun y hy zr694 => ?_; try clear zz13; subst zr694) | obtain ⟨y, hy, rfl⟩ := zz13
    try (refine hideM F ?_; intro hM9 F)
    refine tests_nil ?_
    refine iteT rfl ?_
    first | (refine ob2_1 (pGet' hpc hy) fun x hx1 hxv => ?_) | (refine ob1_2 (pGet' hpc hy) fun x hx1 hxv => ?_) | (refine ob0_3 (pGet' hpc hy) fun x hx1 hxv => ?_) | obtain ⟨x, hx1, hxv⟩ := pGet' hpc hy
    have lx := X.rows x (List.mem_of_getElem? hx1)
    have leB := S₁.mono.trans le
    refine Call_ ?_
    walk_at "N"
    refine callF T₁ (by k_dflt k_is) (args_cons ?_)
    walk_at "N"
    refine args_cons ?_
    walk_at "N"
    refine args_nil ⟨F.sub.of_le le, ?_⟩
    refine by_ok (T₁.le le) F.sub ((R.deeper _).le (Nat.le_of_ble_eq_true rfl)) (IntsV.mono _ _ _ _ leB hxv) (IntsV.mono _ _ _ _ leB hv0) (by exact om265 hal lx) (by exact om266 lx) (X.sm x (List.mem_of_getElem? hx1)) X.sma (by decide) (by decide) fun B₃ h₆ tk₄ t X => ?_
    exact exI4 B₃ _ h₆ _ ⟨rfl, X.le, pSnocTake g (by rw [rights, List.getElem?_map, hx1]; rfl) ⟨_, rfl⟩, mc_upd rfl, F.ext X⟩
  intro C D B₂ c₂ rvs h₄ tk₃ hC le₂ g _ eR F
  have g : Paired (IntV B₂) (rights cs aim) rvs := pWhole g (by simp [rights, lus])
  have lrv := pLen g
  have gR := g
  have lrr : (rights cs aim).length = n := by simp [rights, lcs]
  refine comp_none F (List.mem_cons_self ..) (fun x c hc q => hC.2 x c hc (List.mem_singleton.mpr q)) (hC.1 _ (List.mem_singleton.mpr rfl)) fun h₅ F₁ => args_nil ?_
  refine mkTup F₁ fun B₃ h₆ t' le₃ et F₂ => ?_
  refine unpk R.quiet F₂ et rfl fun h₇ F₃ => ?_
  refine assignInOrder_cons (wpAny_bindName ?_)
  walk_at "storeName"
  intro h₈ tk₄ F₄
  refine assignInOrder_cons (wpAny_bindName ?_)
  walk_at "storeName"
  intro h₉ tk₅ F₅
  have T₅ := T.le F₅.mono
  have hpv5 : IMatV B₃ (prods cs) pv := IMatV.mono _ _ _ _ (le₂.trans le₃) hpv
  refine assignInOrder_nil (wpAny_execs_cons (Assign_Tuple (Call_ ?_)))
  try (refine hideQ ?_; intro hQ9)
  walk_at "N"
  refine callF T₅ (by k_dflt k_is) (args_cons (Call_ ?_))
  walk_at "N"
  refine callF T₅ (by k_dflt k_is) (args_cons ?_)
  walk_at "N"
  refine args_nil ⟨F₅.sub, ?_⟩
  refine from_whole_ok T₅ F₅.sub ((R.deeper _).le (Nat.le_of_ble_eq_true rfl)) hpv5 ⟨by rw [hsq.1]; exact om267 hn3, fun r hr => by rw [hsq.2 r hr]; exact om267 hn3⟩ fun B₄ h₁₀ tk₆ qv X₂ hqv => ?_
  have F₆ := F₅.ext X₂
  have T₆ := T.le F₆.mono
  refine args_cons ?_
  refine' comp_start [] ?hcl3 ?hk3 ?hn3 ?hg3 ?hs3
  case hcl3 => rfl
  case hk3 => rfl
  case hn3 => decide
  case hs3 => exact fun _ => rfl
  walk_at "N"
  refine iterL "number" R.quiet F₆ (X₂.le _ _ (le₃ _ _ eR)) fun h₁₁ I₂ IT₂ hN₂ st₂ F₇ => ?_
  refine comp_pure (ps := []) (fun i B₁ ys => Paired (RatV B₁) ((qrow (rights cs aim)).take i) ys) (IT₂ _) hN₂ st₂ F₇ (List.mem_cons_self ..) (by simpa using Paired.nil)
    (fun _ _ _ l g => pMono RatV.mono l g) (fits (by exact om268 hn3 lrv lrr)) [] (fun p hp => by cases hp) (fun _ => rfl) .nil (fun C => canL (List.mem_cons_self ..)) ?_ ?_
  · intro C D i B₅ m₂ ys h₁₂ tk₇ E' hi _ le g5 zz13 G
    try (first | (refine hideC G ?_; intro hE9 hO9 hQ9 G) | (refine hideQ ?_; intro hQ9))
    first | (refine ob2_1 (zz13) fun y hy zr695 => ?_; try clear zz13; subst zr695) | (refine ob1_2 (zz13) fun y hy zr696 => ?_; try clear zz13; subst zr696) | (refine ob0_3 (zz13) fun y hy zr697 => ?_; try clear zz13; subst zr697) | obtain ⟨y, hy, rfl⟩ := zz13
    try (refine hideM G ?_; intro hM9 G)
    refine tests_nil ?_
    refine iteT rfl ?_
    first | (refine ob1_2 (pGet' g hy) fun x hx1 zq => ?_; refine ob1_1 zq fun tx zr => ?_; clear zq; subst zr) | (refine ob3_1 (pGet' g hy) fun x hx1 tx zr639 => ?_; subst zr639) | (refine ob2_2 (pGet' g hy) fun x hx1 tx zr640 => ?_; subst zr640) | (refine ob1_3 (pGet' g hy) fun x hx1 tx zr641 => ?_; subst zr641) | (refine ob0_4 (pGet' g hy) fun x hx1 tx zr642 => ?_; subst zr642) | obtain ⟨x, hx1, tx, rfl⟩ := pGet' g hy
    refine Tuple_ (args_cons ?_)
    walk_at "N"
    refine args_cons (cI fun t₂ tk₈ => args_nil (mkTup G fun B₆ h₁₃ t₉ le₆ et₆ G₁ => ?_))
    exact exI4 B₆ _ h₁₃ _ ⟨rfl, le₆, pSnocTake (x := (x : Rat)) (pMono RatV.mono le₆ g5) (by rw [qrow, List.getElem?_map, hx1]; rfl) (.mk et₆ rfl rfl), mc_upd rfl, G₁⟩
  intro C₃ D₃ B₅ c₃ ys h₁₂ tk₇ hC₃ le₅ g5 _ eQ G
  refine comp_none G (List.mem_cons_self ..) (fun x c hc q => hC₃.2 x c hc (List.mem_singleton.mpr q)) (hC₃.1 _ (List.mem_singleton.mpr rfl)) fun h₁₃ G₁ => args_nil ⟨G₁.sub.of_le (X₂.le.trans le₅), ?_⟩
  have hqR : Rect n n (qmat (prods cs)) := qmat_rect hsq.1 hsq.2
  have hqw : wd (qmat (prods cs)) = n := wd_rect hqR hn1
  have hqB : Bnd 10 (qmat (prods cs)) := qmat_B hpsm (by decide)
  have hrl : (qrow (rights cs aim)).length = n := by rw [qrow, List.length_map]; exact lrr
  have haR := aug_rect hqR hrl
  have haB := aug_bnd hqB (qrow_B hrsm (by decide))
  have haw : wd (aug (qmat (prods cs)) (qrow (rights cs aim))) = n + 1 := wd_rect haR hn1
  have h5 : (5 : Nat) ^ (n + 1) ≤ 5 ^ 4 := Nat.pow_le_pow_right (by decide) (by exact om122 hn3)
  have h5' : (5 : Nat) ^ n ≤ 5 ^ 4 := Nat.pow_le_pow_right (by decide) (by exact om121 hn3)
  have e54 : (5 : Nat) ^ 4 = 625 := by decide
  have T₇ := T.le G₁.mono
  refine solve_ok (M := qmat (prods cs)) (b := qrow (rights cs aim)) T₇ G₁.sub ((R.deeper _).le (Nat.le_of_ble_eq_true rfl)) (MatV.mono _ _ _ _ le₅ hqv) (LVm (eQ) (pWhole g5 (by rw [hrl, lrv]; exact lrr))) hqR hrl hn1 (by exact om269 hn3) (by exact om269 hn3) hqB (qrow_B hrsm (by decide)) (by decide) (by exact om270 h5) fun B₆ h₁₄ tk₈ ts f p X₃ ets hfree htold => ?_
  have htold : RowV B₆ (qsol cs aim) f := by
    rcases htold with q | q
    · exact absurd q.1 X.solv
    · exact q.2
  have hqsl : (qsol cs aim).length = n := by rw [qsol, sol_len, hqw]
  have hqsB : ∀ x ∈ qsol cs aim, RatB 6250 x := fun x hx => (sol_B haR haw haB (by decide) x hx).le (by exact om271 h5)
  have G₂ := G₁.ext X₃
  refine asgT R.quiet G₂ ets rfl rfl fun h₁₅ G₃ => ?_
  refine assignInOrder_cons (wpAny_assign_Name ?_)
  walk_at "storeName"
  intro h₁₆ tk₉ G₄
  refine assignInOrder_cons (wpAny_assign_Name ?_)
  walk_at "storeName"
  intro h₁₇ tk₁₀ G₅
  have G₆ := G₅.forget (m' := mL [("columns", .ref lc), ("aim", .ref la), ("products", pv), ("right", .ref D), ("told", f), ("free", p)]) (mL_known (by exact rfl))
  have leP : B₃.le B₆ := X₂.le.trans (le₅.trans X₃.le)
  have hpv6 : IMatV B₆ (prods cs) pv := IMatV.mono _ _ _ _ leP hpv5
  have eR6 := leP _ _ (le₃ _ _ eR)
  refine assignInOrder_nil ?_
  have T₈ := T.le G₆.mono
  have le06 := G₆.mono
  have hu6 : IMatV B₆ cs (.ref lc) := IMatV.mono _ _ _ _ le06 hu0
  have hv6 : IntsV B₆ aim (.ref la) := IntsV.mono _ _ _ _ le06 hv0
  have htold0 := htold
  first | (refine ob3_3 (htold) fun lf fvs cf zr643 hlf hpf => ?_; try clear htold; subst zr643) | (refine ob2_4 (htold) fun lf fvs cf zr644 hlf hpf => ?_; try clear htold; subst zr644) | (refine ob1_5 (htold) fun lf fvs cf zr645 hlf hpf => ?_; try clear htold; subst zr645) | (refine ob0_6 (htold) fun lf fvs cf zr646 hlf hpf => ?_; try clear htold; subst zr646) | obtain ⟨lf, fvs, cf, rfl, hlf, hpf⟩ := htold
  have lfv := pLen hpf
  refine wpAny_execs_cons (wpAny_If (isTrue_or (wpAny_isTrue_Compare1 ?_)))
  try (refine hideQ ?_; intro hQ9)
  walk_at "N"
  refine cNone (is_none_ne (by first | exact List.mem_cons_self | exact List.mem_cons_of_mem _ List.mem_cons_self | simp) (wpAny_truthy_bool ?_))
  refine iteF (by decide) ?_
  refine isTrue_or (wpAny_isTrue_Compare1 (Call_ ?_))
  walk_at "N"
  refine cBuilt (args_cons ?_)
  walk_at "N"
  refine args_nil (lenL (pln_of G₆.sub hlf) (by exact om272 hn3 hqsl lfv) fun _ _ => Call_ ?_)
  walk_at "N"
  refine cBuilt (args_cons ?_)
  walk_at "N"
  refine args_nil (lenL (pln_of G₆.sub (le06 _ _ hlc)) (by exact om273 lcs lus hn3) fun _ tk₁₁ => PyProof.Rows.ne_int (wpAny_truthy_bool ?_))
  refine iteF (by rw [bne_iff_ne]; omega) ?_
  refine isTrue_or_nil ?_
  refine iteF (by decide) ?_
  refine wpAny_execs_nil (wpAny_execs_cons (Assign_Tuple (Call_ ?_)))
  try (refine hideQ ?_; intro hQ9)
  walk_at "N"
  refine callF T₈ (by k_dflt k_is) (args_cons ?_)
  walk_at "N"
  refine args_cons ?_
  walk_at "N"
  refine args_cons ?_
  walk_at "N"
  refine args_nil ⟨G₆.sub, ?_⟩
  have sm8 : SmM 8 cs := fun r hr x hx => (X.sm r hr x hx).le (by decide)
  have sma8 : ∀ x ∈ aim, Sm 8 x := fun x hx => (X.sma x hx).le (by decide)
  refine rest_ok (K := 6250) T₈ G₆.sub ((R.deeper _).le (Nat.le_of_ble_eq_true rfl)) hu6 htold0 hv6 X.rows hal (by decide) (by exact om274 lcs hn3) (by exact om275 lcs hqsl) sm8 sma8 (by decide) (by decide) hqsB fun B₇ h₁₈ tk₁₂ tr lr tt X₄ etr hleft => ?_
  have hleft : IntsV B₇ (leftOf cs aim) lr := hleft
  have hlsm : ∀ x ∈ leftOf cs aim, Sm 40000 x := fun x hx => (restTo_sm (K := 6250) (b := 8) (by decide) hqsB sm8 sma8 _ x hx).le (by exact om276 lcs hn3 hqsl)
  have hll : (leftOf cs aim).length = 4 := restTo_len X.rows hal _ (Nat.le_refl _)
  have G₇ := G₆.ext X₄
  refine asgT R.quiet G₇ etr rfl rfl fun h₁₉ G₈ => ?_
  refine assignInOrder_cons (wpAny_assign_Name ?_)
  walk_at "storeName"
  intro h₂₀ tk₁₃ G₉
  refine assignInOrder_cons (wpAny_assign_Name ?_)
  walk_at "storeName"
  intro h₂₁ tk₁₄ G₁₀
  have le07 := G₁₀.mono
  have T₉ := T.le G₁₀.mono
  refine assignInOrder_nil (wpAny_execs_cons (wpAny_If (wpAny_isTrue_Compare1 ?_)))
  try (refine hideQ ?_; intro hQ9)
  refine' comp_start [("left", L + 1 + 1 + 1)] ?hcl4 ?hk4 ?hn4 ?hg4 ?hs4
  case hcl4 => rfl
  case hk4 => rfl
  case hn4 => decide
  case hs4 => exact fun _ => rfl
  walk_at "N"
  refine iterL "column" R.quiet G₁₀ (le07 _ _ hlc) fun h₂₂ I₄ IT₄ hN₄ st₄ G₁₁ => ?_
  refine comp_pure (ps := []) (fun i B₁ ys => ys = []) (IT₄ _) hN₄ st₄ G₁₁ (List.mem_cons_self ..) rfl
    (fun _ _ _ _ g => g) (fits (by exact om264 lcs lus hn3)) ["left"] (by (repeat' (first | exact List.forall_mem_nil _ | refine List.forall_mem_cons.mpr ⟨⟨rfl, rfl, rfl⟩, ?_⟩))) (fun _ => rfl) (by decide +kernel) (fun C => canL (List.mem_cons_self ..)) ?_ ?_
  · rintro C D i B₈ m₂ ys h₂₃ tk₁₅ E' hi _ le8 rfl ⟨y, hy, rfl⟩ F
    try (refine hideQ ?_; intro hQ9)
    first | (refine ob2_1 (pGet' hpc hy) fun x hx1 hxv => ?_) | (refine ob1_2 (pGet' hpc hy) fun x hx1 hxv => ?_) | (refine ob0_3 (pGet' hpc hy) fun x hx1 hxv => ?_) | obtain ⟨x, hx1, hxv⟩ := pGet' hpc hy
    have hxm := List.mem_of_getElem? hx1
    have lx := X.rows x hxm
    refine tests_one (wpAny_isTrue_Compare1 (Call_ ?_))
    walk_at "N"
    refine callF T₉ (by k_dflt k_is) (args_cons ?_)
    walk_at "N"
    refine args_cons ?_
    walk_at "N"
    refine args_nil ⟨F.sub.of_le le8, ?_⟩
    refine by_ok (T₉.le le8) F.sub ((R.deeper _).le (Nat.le_of_ble_eq_true rfl)) (IntsV.mono _ _ _ _ (le07.trans le8) hxv) (IntsV.mono _ _ _ _ le8 hleft) (by exact om265 hll lx) (by exact om266 lx) (X.sm x hxm) hlsm (by decide) (by decide) fun B₉ h₂₄ tk₁₆ t X₅ => ?_
    refine cI fun _ tk₁₇ => PyProof.Rows.ne_int (wpAny_truthy_bool ?_)
    refine iteF (by rw [X.upright x hxm]; decide) ?_
    exact exI4 B₉ _ h₂₄ _ ⟨rfl, X₅.le, rfl, mc_upd rfl, F.ext X₅⟩
  intro C₄ D₄ B₈ c₄ ys h₂₃ tk₁₅ hC₄ le78 g _ eD₄ F₈
  subst g
  refine comp_none F₈ (List.mem_cons_self ..) (fun x c hc q => hC₄.2 x c hc (List.mem_singleton.mpr q)) (hC₄.1 _ (List.mem_singleton.mpr rfl)) fun h₂₄ F₉ => List_ (args_nil ?_)
  refine mkLstB F₉ fun B₉ h₂₅ l₉ le89 e₉ F₁₀ => ?_
  refine neInts (ns := []) (ms := []) (B := B₉) (pln_of F₁₀.sub (le89 _ _ eD₄)) (pln_of F₁₀.sub e₉) .nil .nil ((R.deeper _).le (Nat.le_of_ble_eq_true rfl)) (wpAny_truthy_bool ?_)
  refine iteF (by decide) ?_
  have F₁₁ := F₁₀.forget (m' := mL [("columns", .ref lc), ("aim", .ref la), ("products", pv), ("right", .ref D), ("free", p), ("times", .int (prodDen (qsol cs aim)) tt), ("left", lr)]) (mL_known (by exact rfl))
  have le79 := le78.trans le89
  have le69 : B₆.le B₉ := X₄.le.trans le79
  have hfree0 := MatV.mono _ _ _ _ le69 hfree
  have hfree1 := hfree0
  first | (refine ob3_3 (hfree0) fun lfr frs cfr zr647 hlfr hpfr => ?_; try clear hfree0; subst zr647) | (refine ob2_4 (hfree0) fun lfr frs cfr zr648 hlfr hpfr => ?_; try clear hfree0; subst zr648) | (refine ob1_5 (hfree0) fun lfr frs cfr zr649 hlfr hpfr => ?_; try clear hfree0; subst zr649) | (refine ob0_6 (hfree0) fun lfr frs cfr zr650 hlfr hpfr => ?_; try clear hfree0; subst zr650) | obtain ⟨lfr, frs, cfr, rfl, hlfr, hpfr⟩ := hfree0
  have lfrs := pLen hpfr
  have hcnt := X.count
  refine wpAny_execs_nil (wpAny_execs_cons (wpAny_For ?_))
  try (refine hideQ ?_; intro hQ9)
  walk_at "N"
  refine iterL "numbers" R.quiet F₁₁ hlfr fun h₂₆ I₅ IT₅ hN₅ st₅ F₁₂ => ?_
  refine forLoop (fun k B m ps => m = mL [("columns", .ref lc), ("aim", .ref la), ("products", pv), ("right", .ref D), ("free", .ref lfr), ("times", .int (prodDen (qsol cs aim)) tt), ("left", lr)] ∧ ps = [])
    (IT₅ _) (canL (List.mem_cons_self ..)) hN₅ (List.mem_cons_self ..) F₁₂ st₅ ⟨rfl, rfl⟩ ?_ ?_
  · intro k B₁₀ m₁ m₂ ps₁ h₂₇ tk₁₆ E' hk le10 zz10 zz11 N
    try (first | (refine hideC N ?_; intro hE9 hO9 hQ9 N) | (refine hideQ ?_; intro hQ9))
    first | (refine ob0_2 (zz10) fun zr698 zr699 => ?_; try clear zz10; subst zr698; subst zr699) | obtain ⟨rfl, rfl⟩ := zz10
    first | (refine ob2_1 (zz11) fun qv hqv1 zr700 => ?_; try clear zz11; subst zr700) | (refine ob1_2 (zz11) fun qv hqv1 zr701 => ?_; try clear zz11; subst zr701) | (refine ob0_3 (zz11) fun qv hqv1 zr702 => ?_; try clear zz11; subst zr702) | obtain ⟨qv, hqv1, rfl⟩ := zz11
    try (refine hideM N ?_; intro hM9 N)
    first | (refine ob2_1 (pGet' hpfr hqv1) fun q hq1 hqv2 => ?_) | (refine ob1_2 (pGet' hpfr hqv1) fun q hq1 hqv2 => ?_) | (refine ob0_3 (pGet' hpfr hqv1) fun q hq1 hqv2 => ?_) | obtain ⟨q, hq1, hqv2⟩ := pGet' hpfr hqv1
    have hqm := List.mem_of_getElem? hq1
    have lq : q.length = n := by rw [nullBase_len q hqm, hqw]
    have bq : ∀ x ∈ q, RatB 6250 x := fun x hx => (nullBase_B hqR hqw hqB (by decide) q hqm x hx).le (by exact om271 h5')
    have T₁₀ := T.le N.mono
    refine wpAny_execs_cons (wpAny_If (wpAny_isTrue_Compare1 ?_))
    try (refine hideQ ?_; intro hQ9)
    refine' comp_start [] ?hcl5 ?hk5 ?hn5 ?hg5 ?hs5
    case hcl5 => rfl
    case hk5 => rfl
    case hn5 => decide
    case hs5 => exact fun _ => rfl
    refine Subscript_ (Call_ ?_)
    walk_at "N"
    refine callF T₁₀ (by k_dflt k_is) (args_cons ?_)
    walk_at "N"
    refine args_cons ?_
    walk_at "N"
    refine args_cons (wpAny_BinOp (List_ (args_cons (cI fun t0 tk₁₇ => args_nil ?_))))
    refine mkLstB N fun B₁₁ h₂₈ l₀ le11 e₀ N₁ => Call_ ?_
    walk_at "N"
    refine cBuilt (args_cons ?_)
    walk_at "N"
    refine args_nil (lenL (pln_of N₁.sub (N₁.mono _ _ hla)) (by exact om277 las hal) fun _ tk₁₈ => ?_)
    refine mulList N₁ (pln_of N₁.sub e₀) (by exact om278 las hal) fun h₂₉ D₅ hnD N₂ => ?_
    first | (refine ob2_2 (N₂.freeze (by first | exact List.mem_cons_self | exact List.mem_cons_of_mem _ List.mem_cons_self | simp)) fun B₁₂ le12 zn651 N₃ => ?_; obtain ⟨oD, eD5, cD, rfl⟩ := zn651) | (refine ob1_3 (N₂.freeze (by first | exact List.mem_cons_self | exact List.mem_cons_of_mem _ List.mem_cons_self | simp)) fun B₁₂ le12 zn652 N₃ => ?_; obtain ⟨oD, eD5, cD, rfl⟩ := zn652) | (refine ob0_4 (N₂.freeze (by first | exact List.mem_cons_self | exact List.mem_cons_of_mem _ List.mem_cons_self | simp)) fun B₁₂ le12 zn653 N₃ => ?_; obtain ⟨oD, eD5, cD, rfl⟩ := zn653) | obtain ⟨B₁₂, le12, ⟨oD, eD5, cD, rfl⟩, N₃⟩ := N₂.freeze (by first | exact List.mem_cons_self | exact List.mem_cons_of_mem _ List.mem_cons_self | simp)
    refine args_nil ⟨N₃.sub.of_le (le11.trans le12), ?_⟩
    have hz : IntsV B₁₂ (List.replicate 4 0) (.ref D₅) := ⟨_, _, _, rfl, eD5, by
      rw [show as.length = 4 by exact om279 las hal]
      have : ∀ n, Paired (IntV B₁₂) (List.replicate n 0) (List.replicate n (.int 0 t0)) := fun n => by
        induction n with
        | zero => exact .nil
        | succ n ih => rw [List.replicate_succ, List.replicate_succ]; exact .cons ⟨_, rfl⟩ ih
      exact this 4⟩
    refine rest_ok (K := 6250) (T.le N₃.mono) N₃.sub ((R.deeper _).le (Nat.le_of_ble_eq_true rfl)) (IMatV.mono _ _ _ _ N₃.mono hu0) (RowV.mono _ _ _ _ (le10.trans (le11.trans le12)) hqv2) hz X.rows (by first | exact List.mem_cons_self | exact List.mem_cons_of_mem _ List.mem_cons_self | simp) (by decide) (by exact om274 lcs hn3) (by exact om280 lcs lq) sm8 (fun x hx => by rw [(List.mem_replicate.mp hx).2]; exact Sm.lit _ (by decide)) (by decide) (by decide) bq fun B₁₃ h₃₀ tk₁₉ t₁₃ l₁₃ tt₁₃ X₅ et₁₃ hl₁₃ => ?_
    have N₄ := N₃.ext X₅
    refine cI fun _ tk₂₀ => itemT N₄ et₁₃ (by decide) (by decide) rfl ?_
    first | (refine ob3_3 (hl₁₃) fun lr3 vr3 cr3 zr654 hlr3 hpr3 => ?_; try clear hl₁₃; subst zr654) | (refine ob2_4 (hl₁₃) fun lr3 vr3 cr3 zr655 hlr3 hpr3 => ?_; try clear hl₁₃; subst zr655) | (refine ob1_5 (hl₁₃) fun lr3 vr3 cr3 zr656 hlr3 hpr3 => ?_; try clear hl₁₃; subst zr656) | (refine ob0_6 (hl₁₃) fun lr3 vr3 cr3 zr657 hlr3 hpr3 => ?_; try clear hl₁₃; subst zr657) | obtain ⟨lr3, vr3, cr3, rfl, hlr3, hpr3⟩ := hl₁₃
    have lvr3 : vr3.length = 4 := by rw [pLen hpr3]; exact restTo_len X.rows (by first | exact List.mem_cons_self | exact List.mem_cons_of_mem _ List.mem_cons_self | simp) _ (Nat.le_refl _)
    refine iterL "number" R.quiet N₄ hlr3 fun h₃₁ I₆ IT₆ hN₆ st₆ N₅ => ?_
    refine comp_pure (fun i B₁ ys => ys = []) (IT₆ _) hN₆ st₆ N₅ (List.mem_cons_self ..) rfl
      (fun _ _ _ _ g => g) (fits (by exact om266 lvr3)) [] (fun p hp => by cases hp) (fun _ => rfl) .nil (fun C => canL (List.mem_cons_self ..)) ?_ ?_
    · rintro C D i B₁₄ m₂ ys h₃₂ tk₂₁ E' hi _ le14 rfl ⟨y, hy, rfl⟩ G
      try (refine hideQ ?_; intro hQ9)
      first | (refine ob1_2 (pGet' hpr3 hy) fun x hx1 zq => ?_; refine ob1_1 zq fun tx zr => ?_; clear zq; subst zr) | (refine ob3_1 (pGet' hpr3 hy) fun x hx1 tx zr658 => ?_; subst zr658) | (refine ob2_2 (pGet' hpr3 hy) fun x hx1 tx zr659 => ?_; subst zr659) | (refine ob1_3 (pGet' hpr3 hy) fun x hx1 tx zr660 => ?_; subst zr660) | (refine ob0_4 (pGet' hpr3 hy) fun x hx1 tx zr661 => ?_; subst zr661) | obtain ⟨x, hx1, tx, rfl⟩ := pGet' hpr3 hy
      have hx0 : x = 0 := X.nulls q hqm x (List.mem_of_getElem? hx1)
      refine tests_one (wpAny_isTrue_Compare1 ?_)
      walk_at "N"
      refine cI fun _ tk₂₂ => PyProof.Rows.ne_int (wpAny_truthy_bool ?_)
      refine iteF (by rw [hx0]; decide) ?_
      exact exI4 B₁₄ _ h₃₂ _ ⟨rfl, .rfl, rfl, mc_upd rfl, G⟩
    intro C₆ D₆ B₁₄ c₆ ys h₃₂ tk₂₁ hC₆ le14 g _ eD₆ G
    subst g
    refine comp_none G (List.mem_cons_self ..) (fun x c hc q => hC₆.2 x c hc (List.mem_singleton.mpr q)) (hC₆.1 _ (List.mem_singleton.mpr rfl)) fun h₃₃ G₁ => List_ (args_nil ?_)
    refine mkLstB G₁ fun B₁₅ h₃₄ l₁₅ le15 e₁₅ G₂ => ?_
    refine neInts (ns := []) (ms := []) (B := B₁₅) (pln_of G₂.sub (le15 _ _ eD₆)) (pln_of G₂.sub e₁₅) .nil .nil ((R.deeper _).le (Nat.le_of_ble_eq_true rfl)) (wpAny_truthy_bool ?_)
    refine iteF (by decide) ?_
    refine wpAny_execs_nil (wpAny_execs_nil ?_)
    exact exI5 B₁₅ _ [] h₃₄ _ ⟨rfl, le11.trans (le12.trans (X₅.le.trans (le14.trans le15))), ⟨rfl, rfl⟩, G₂.forget (mL_known (by exact rfl))⟩
  intro B₁₀ m₁ ps₁ h₂₇ tk₁₆ le10 zz6 N
  try (first | (refine hideC N ?_; intro hE9 hO9 hQ9 N) | (refine hideQ ?_; intro hQ9))
  first | (refine ob0_2 (zz6) fun zr703 zr704 => ?_; try clear zz6; subst zr703; subst zr704) | obtain ⟨rfl, rfl⟩ := zz6
  try (refine hideM N ?_; intro hM9 N)
  have T₁₀ := T.le N.mono
  -- the rank
  refine wpAny_execs_cons (wpAny_Assign_Name (Call_ ?_))
  try (refine hideQ ?_; intro hQ9)
  walk_at "N"
  refine callF T₁₀ (by k_dflt k_is) (args_cons (Call_ ?_))
  walk_at "N"
  refine callF T₁₀ (by k_dflt k_is) (args_cons ?_)
  refine' comp_start [("columns", L + 1)] ?hcl6 ?hk6 ?hn6 ?hg6 ?hs6
  case hcl6 => rfl
  case hk6 => rfl
  case hn6 => decide
  case hs6 => exact fun _ => rfl
  refine Call_ ?_
  walk_at "N"
  refine cType (args_cons (Call_ ?_))
  walk_at "N"
  refine cBuilt (args_cons ?_)
  walk_at "N"
  refine args_nil (lenL (pln_of N.sub (N.mono _ _ hla)) (by exact om277 las hal) fun _ tk₁₇ => args_nil ?_)
  refine mkRange1 N fun B₁₁ h₂₈ r₁₁ ta tb tc tk₁₈ le11 er N₁ => ?_
  refine iterR "at" R.quiet N₁ er (by decide) (by decide) (by exact om148) (by exact om281 las hal) fun h₂₉ I₇ IT₇ hN₇ st₇ N₂ => ?_
  rw [show ((as.length : Int) - 0).toNat = 4 by exact om282 las hal] at IT₇
  refine comp_pure (ps := []) (fun i B₁ ys => Paired (IntsV B₁) ((transp cs 4).take i) ys) (IT₇ _) hN₇ st₇ N₂ (List.mem_cons_self ..) (by simpa using Paired.nil)
    (fun _ _ _ l g => pMono IntsV.mono l g) (fits (by exact om283)) ["at", "columns"] (by (repeat' (first | exact List.forall_mem_nil _ | refine List.forall_mem_cons.mpr ⟨⟨rfl, rfl, rfl⟩, ?_⟩))) (fun _ => rfl) (by decide +kernel) (fun C => canC (c := C + 1) (List.mem_cons_of_mem _ (List.mem_cons_self ..))) ?_ ?_
  · intro C D i B₁₂ m₂ ys h₃₀ tk₁₉ E' hi _ le12 g zz13 F
    try (first | (refine hideC F ?_; intro hE9 hO9 hQ9 F) | (refine hideQ ?_; intro hQ9))
    first | (refine ob1_2 (zz13) fun _ zn705 zr707 => ?_; try clear zz13; refine ob1_1 zn705 fun ti zr706 => ?_; clear zn705; subst zr706; subst zr707) | (refine ob0_3 (zz13) fun _ zn708 zr710 => ?_; try clear zz13; refine ob1_1 zn708 fun ti zr709 => ?_; clear zn708; subst zr709; subst zr710) | obtain ⟨_, ⟨ti, rfl⟩, rfl⟩ := zz13
    try (refine hideM F ?_; intro hM9 F)
    refine tests_nil ?_
    refine iteT rfl ?_
    refine' comp_start [("at", C + 1)] ?hcl7 ?hk7 ?hn7 ?hg7 ?hs7
    case hcl7 => rfl
    case hk7 => rfl
    case hn7 => decide
    case hs7 => exact fun _ => rfl
    walk_at "N"
    have leC := N.mono.trans (le11.trans le12)
    refine iterL "column" R.quiet F (leC _ _ hlc) fun h₃₁ I₈ IT₈ hN₈ st₈ F₁ => ?_
    refine comp_pure (fun j B₁ zs => Paired (IntV B₁) ((cs.map fun c : List Int => c.getD i (0 : Int)).take j) zs) (IT₈ _) hN₈ st₈ F₁ (List.mem_cons_self ..) (by simpa using Paired.nil)
      (fun _ _ _ _ g => g) (fits (by exact om264 lcs lus hn3)) ["at"] (by (repeat' (first | exact List.forall_mem_nil _ | refine List.forall_mem_cons.mpr ⟨⟨rfl, rfl, rfl⟩, ?_⟩))) (fun _ => rfl) (by decide +kernel) (fun C => canL (List.mem_cons_self ..)) ?_ ?_
    · intro C₂ D₂ j B₁₃ m₃ zs h₃₂ tk₂₀ E₂ hj _ le13 g₂ zz13 F₂
      try (first | (refine hideC F₂ ?_; intro hE9 hO9 hQ9 F₂) | (refine hideQ ?_; intro hQ9))
      first | (refine ob2_1 (zz13) fun y hy zr711 => ?_; try clear zz13; subst zr711) | (refine ob1_2 (zz13) fun y hy zr712 => ?_; try clear zz13; subst zr712) | (refine ob0_3 (zz13) fun y hy zr713 => ?_; try clear zz13; subst zr713) | obtain ⟨y, hy, rfl⟩ := zz13
      try (refine hideM F₂ ?_; intro hM9 F₂)
      refine tests_nil ?_
      refine iteT rfl ?_
      first | (refine ob1_2 (pGet' hpc hy) fun x hx1 zq => ?_; refine ob3_3 zq fun lx1 vx1 cx1 zr hlx1 hpx1 => ?_; clear zq; subst zr) | (refine ob5_3 (pGet' hpc hy) fun x hx1 lx1 vx1 cx1 zr662 hlx1 hpx1 => ?_; subst zr662) | (refine ob4_4 (pGet' hpc hy) fun x hx1 lx1 vx1 cx1 zr663 hlx1 hpx1 => ?_; subst zr663) | (refine ob3_5 (pGet' hpc hy) fun x hx1 lx1 vx1 cx1 zr664 hlx1 hpx1 => ?_; subst zr664) | (refine ob2_6 (pGet' hpc hy) fun x hx1 lx1 vx1 cx1 zr665 hlx1 hpx1 => ?_; subst zr665) | (refine ob1_7 (pGet' hpc hy) fun x hx1 lx1 vx1 cx1 zr666 hlx1 hpx1 => ?_; subst zr666) | obtain ⟨x, hx1, lx1, vx1, cx1, rfl, hlx1, hpx1⟩ := pGet' hpc hy
      have lx := X.rows x (List.mem_of_getElem? hx1)
      first | (refine ob1_2 (pGet hpx1 (get_getD 0 (i := i) (by exact om284 hi lx))) fun z hz1 zq => ?_; refine ob1_1 zq fun tz zr => ?_; clear zq; subst zr) | (refine ob3_1 (pGet hpx1 (get_getD 0 (i := i) (by first | with_reducible assumption | with_reducible exact Int.natCast_nonneg _ | lia | omega))) fun z hz1 tz zr667 => ?_; subst zr667) | (refine ob2_2 (pGet hpx1 (get_getD 0 (i := i) (by first | with_reducible assumption | with_reducible exact Int.natCast_nonneg _ | lia | omega))) fun z hz1 tz zr668 => ?_; subst zr668) | (refine ob1_3 (pGet hpx1 (get_getD 0 (i := i) (by first | with_reducible assumption | with_reducible exact Int.natCast_nonneg _ | lia | omega))) fun z hz1 tz zr669 => ?_; subst zr669) | (refine ob0_4 (pGet hpx1 (get_getD 0 (i := i) (by first | with_reducible assumption | with_reducible exact Int.natCast_nonneg _ | lia | omega))) fun z hz1 tz zr670 => ?_; subst zr670) | obtain ⟨z, hz1, tz, rfl⟩ := pGet hpx1 (get_getD 0 (i := i) (by first | with_reducible assumption | with_reducible exact Int.natCast_nonneg _ | lia | omega))
      refine Subscript_ ?_
      walk_at "N"
      walk_at "N"
      refine itemL (pln_of F₂.sub (le13 _ _ (leC _ _ hlx1))) (by exact om160) (by exact om285 hi) (by rw [show ((0 : Int) + (i : Int)).toNat = i by exact om162]; exact hz1) ?_
      exact exI4 B₁₃ _ h₃₂ _ ⟨rfl, .rfl, pSnocTake g₂ (by rw [List.getElem?_map, hx1]; rfl) ⟨_, rfl⟩, mc_upd rfl, F₂⟩
    · intro C₂ D₂ B₁₃ c₁₃ zs h₃₂ tk₂₀ hC2 le13 g₂ _ e₁₃ F₂
      refine comp_none F₂ (List.mem_cons_self ..) (fun x c hc q => hC2.2 x c hc (List.mem_singleton.mpr q)) (hC2.1 _ (List.mem_singleton.mpr rfl)) fun h₃₃ F₃ => ?_
      exact exI4 B₁₃ _ h₃₃ _ ⟨rfl, le13, pSnocTake (x := cs.map fun c : List Int => c.getD i (0 : Int)) (pMono IntsV.mono le13 g) (by rw [transp, List.getElem?_map, List.getElem?_range hi]; rfl) (LVm (e₁₃) (pWhole g₂ (by simp [lus]))), mc_upd rfl, F₃⟩
  intro C₇ D₇ B₁₂ c₇ tvs h₃₀ tk₁₉ hC₇ le12 g _ eD₇ F
  have htl : (transp cs 4).length = 4 := by simp [transp]
  have htr : ∀ r ∈ transp cs 4, r.length = n := fun r hr => by
    first | (refine ob2_1 (List.mem_map.mp hr) fun x _ zr671 => ?_; subst zr671) | (refine ob1_2 (List.mem_map.mp hr) fun x _ zr672 => ?_; subst zr672) | (refine ob0_3 (List.mem_map.mp hr) fun x _ zr673 => ?_; subst zr673) | obtain ⟨x, _, rfl⟩ := List.mem_map.mp hr
    rw [List.length_map]; exact lcs
  have hts : SmM 10 (transp cs 4) := fun r hr x hx => by
    first | (refine ob2_1 (List.mem_map.mp hr) fun i _ zr674 => ?_; subst zr674) | (refine ob1_2 (List.mem_map.mp hr) fun i _ zr675 => ?_; subst zr675) | (refine ob0_3 (List.mem_map.mp hr) fun i _ zr676 => ?_; subst zr676) | obtain ⟨i, _, rfl⟩ := List.mem_map.mp hr
    first | (refine ob2_1 (List.mem_map.mp hx) fun c hc zr677 => ?_; subst zr677) | (refine ob1_2 (List.mem_map.mp hx) fun c hc zr678 => ?_; subst zr678) | (refine ob0_3 (List.mem_map.mp hx) fun c hc zr679 => ?_; subst zr679) | obtain ⟨c, hc, rfl⟩ := List.mem_map.mp hx
    exact (sm_getD (X.sm c hc) i).le (by decide)
  have htv : IMatV B₁₂ (transp cs 4) (.ref D₇) := (LVm (eD₇) (pWhole g (by rw [htl])))
  refine comp_none F (List.mem_cons_self ..) (fun x c hc q => hC₇.2 x c hc (List.mem_singleton.mpr q)) (hC₇.1 _ (List.mem_singleton.mpr rfl)) fun h₃₁ F₁ => args_nil ⟨F₁.sub.of_le (le11.trans le12), ?_⟩
  refine from_whole_ok (T.le F₁.mono) F₁.sub ((R.deeper _).le (Nat.le_of_ble_eq_true rfl)) htv ⟨by rw [htl]; decide, fun r hr => by rw [htr r hr]; exact om267 hn3⟩ fun B₁₃ h₃₂ tk₂₀ mv X₆ hmv => args_nil ⟨X₆.sub.of_le ((le11.trans le12).trans X₆.le), ?_⟩
  have F₂ := F₁.ext X₆
  have htR : Rect 4 n (qmat (transp cs 4)) := qmat_rect htl htr
  refine rank_ok (k := 10) (T.le F₂.mono) F₂.sub ((R.deeper _).le (Nat.le_of_ble_eq_true rfl)) hmv htR (wd_rect htR (by decide)) (by decide) (by exact om286 hn3) (qmat_B hts (by decide)) (by decide) (by exact om270 h5') fun B₁₄ h₃₃ tk₂₁ tmany X₇ => ?_
  have F₃ := F₂.ext X₇
  walk_at "storeName"
  intro h₃₄ tk₂₂ F₄
  have hdsm : Sm 200 (detV (prods cs)) := (detV_sm hsq hpsm (by decide)).le (by
    have : (2 : Nat) ^ n ≤ 2 ^ 3 := Nat.pow_le_pow_right (by decide) hn3
    omega)
  have h2n : (2 : Nat) ^ n ≤ 2 ^ 3 := Nat.pow_le_pow_right (by decide) hn3
  have hsq' := prods_sq (cs ++ [aim])
  rw [show (cs ++ [aim]).length = n + 1 by simp [lcs]] at hsq'
  have hrows' : ∀ c ∈ cs ++ [aim], c.length = 4 := fun c hc => by
    rcases List.mem_append.mp hc with q | q
    · exact X.rows c q
    · rw [List.mem_singleton.mp q]; exact hal
  have hsm' : SmM 3 (cs ++ [aim]) := fun c hc => by
    rcases List.mem_append.mp hc with q | q
    · exact X.sm c q
    · rw [List.mem_singleton.mp q]; exact X.sma
  have h2n' : (2 : Nat) ^ (n + 1) ≤ 2 ^ 4 := Nat.pow_le_pow_right (by decide) (by exact om122 hn3)
  have hwsm : Sm 200 (wideOf cs aim) := (detV_sm hsq' (prods_sm hsm' hrows') (by decide)).le (by exact om287 h2n')
  have le9n := F₄.mono
  have T₁₁ := T.le F₄.mono
  have lepv : B₆.le B₁₄ := le69.trans (le10.trans ((le11.trans le12).trans (X₆.le.trans X₇.le)))
  have hpv14 := IMatV.mono _ _ _ _ lepv hpv6
  refine wpAny_execs_cons (Assign_Tuple_swapped (names := ["number", "wide"]) (Tuple_ (args_cons (Call_ ?_))))
  try (refine hideQ ?_; intro hQ9)
  walk_at "N"
  refine callF T₁₁ (by k_dflt k_is) (args_cons ?_)
  walk_at "N"
  refine args_nil ⟨F₄.sub, ?_⟩
  refine determinant_ok (M := prods cs) (k := 10) T₁₁ F₄.sub ((R.deeper _).le (Nat.le_of_ble_eq_true rfl)) hpv14 hsq (by exact om286 hn3) hpsm (by decide) (by exact om288 h2n) X.good fun B₁₅ h₃₅ tk₂₃ tnum X₈ => args_cons (Call_ ?_)
  have F₅ := F₄.ext X₈
  walk_at "N"
  have T₁₂ := T.le F₅.mono
  refine callF T₁₂ (by k_dflt k_is) (args_cons (Call_ ?_))
  walk_at "N"
  refine callF T₁₂ (by k_dflt k_is) (args_cons (wpAny_BinOp ?_))
  walk_at "N"
  refine List_ (args_cons ?_)
  walk_at "N"
  refine args_nil (mkLstB F₅ fun B₁₆ h₃₆ l₁₆ le16 e₁₆ F₆ => ?_)
  refine addList F₆ (pln_of F₆.sub (F₆.mono _ _ hlc)) (pln_of F₆.sub e₁₆) (by simp; omega) fun B₁₇ h₃₇ D₁₇ c₁₇ le17 e₁₇ F₇ => args_nil ⟨F₇.sub.of_le (le16.trans le17), ?_⟩
  have hcat : IMatV B₁₇ (cs ++ [aim]) (.ref D₁₇) := (LVm (e₁₇) (pAppend (pMono IntsV.mono F₇.mono hpc) (.cons (IntsV.mono _ _ _ _ F₇.mono hv0) .nil)))
  refine products_ok (T.le F₇.mono) F₇.sub ((R.deeper _).le (Nat.le_of_ble_eq_true rfl)) hcat hrows' (by decide) (by simp; omega) hsm' (by decide) fun B₁₈ h₃₈ tk₂₄ wv X₉ hwv => args_nil ⟨X₉.sub.of_le ((le16.trans le17).trans X₉.le), ?_⟩
  have F₈' := F₇.ext X₉
  refine determinant_ok (M := prods (cs ++ [aim])) (k := 10) (T.le F₈'.mono) F₈'.sub ((R.deeper _).le (Nat.le_of_ble_eq_true rfl)) hwv hsq' (by exact om289 hn3) (prods_sm hsm' hrows') (by decide) (by exact om290 h2n') X.good' fun B₁₉ h₃₉ tk₂₅ twide X₁₀ => args_nil ?_
  have F₉' := F₈'.ext X₁₀
  refine mkTup F₉' fun B₂₀ h₄₀ t₂₀ le20 et₂₀ F₁₀' => ?_
  refine unpk R.quiet F₁₀' et₂₀ rfl fun h₄₁ K₁ => ?_
  refine assignInOrder_cons (wpAny_bindName ?_)
  walk_at "storeName"
  intro h₄₂ tk₂₆ K₂
  refine assignInOrder_cons (wpAny_bindName ?_)
  walk_at "storeName"
  intro h₄₃ tk₂₇ K₃
  have K₄ := K₃.forget (m' := mL [("columns", .ref lc), ("aim", .ref la), ("products", pv), ("right", .ref D), ("free", .ref lfr), ("times", .int (prodDen (qsol cs aim)) tt), ("left", lr), ("many", .int (ech (qmat (transp cs 4))).2.length tmany), ("number", .int (detV (prods cs)) tnum), ("wide", .int (detV (prods (cs ++ [aim]))) twide)]) (mL_known (by exact rfl))
  have leE : B₁₄.le B₂₀ := X₈.le.trans ((le16.trans le17).trans (X₉.le.trans (X₁₀.le.trans le20)))
  have le6e := lepv.trans leE
  have hfreeE : MatV B₂₀ _ _ := MatV.mono _ _ _ _ ((le10.trans ((le11.trans le12).trans (X₆.le.trans X₇.le))).trans leE) hfree1
  have hlfrE := ((le10.trans ((le11.trans le12).trans (X₆.le.trans X₇.le))).trans leE) _ _ hlfr
  have T₂₀ := T.le K₄.mono
  have hc2 := X.count
  refine assignInOrder_nil (wpAny_execs_cons (wpAny_If (isTrue_or (wpAny_isTrue_Compare1 (wpAny_BinOp ?_)))))
  try (refine hideQ ?_; intro hQ9)
  walk_at "N"
  refine Call_ ?_
  walk_at "N"
  refine cBuilt (args_cons ?_)
  walk_at "N"
  refine args_nil (lenL (pln_of K₄.sub hlfrE) (by exact om291 hn3 lfrs hc2) fun _ tk₂₈ => addI fun _ tk₂₉ => Call_ ?_)
  walk_at "N"
  refine cBuilt (args_cons ?_)
  walk_at "N"
  refine args_nil (lenL (pln_of K₄.sub (K₄.mono _ _ hlc)) (by first | with_reducible assumption | with_reducible exact Int.natCast_nonneg _ | lia | omega) fun _ tk₃₀ => PyProof.Rows.ne_int (wpAny_truthy_bool ?_))
  refine iteF (by rw [bne_iff_ne]; unfold rankOf at hc2; omega) ?_
  refine isTrue_or (wpAny_isTrue_Compare1 (wpAny_Compare1 ?_))
  walk_at "N"
  refine cI fun _ tk₃₁ => PyProof.Rows.eq_int (wpAny_Compare1 ?_)
  walk_at "N"
  refine List_ (args_nil (mkLstB K₄ fun B₂₁ h₄₄ l₂₁ le21 e₂₁ K₅ => ?_))
  refine neNil K₅.sub (MatV.mono _ _ _ _ le21 hfreeE) e₂₁ ((R.deeper _).le (Nat.le_of_ble_eq_true rfl)) (ne_bool (wpAny_truthy_bool ?_))
  try show @ite Prop _ _ _ _
  rw [if_neg (by
    have := X.free
    by_cases q : detV (prods cs) = 0
    · rw [q, decide_eq_true (this.mp q)]; decide
    · rw [decide_eq_false fun z => q (this.mpr z)]; simpa using q)]
  refine isTrue_or_nil ?_
  refine iteF (by decide) ?_
  have leF : B₆.le B₂₁ := le6e.trans le21
  have hleftF : IntsV B₂₁ (leftOf cs aim) lr := IntsV.mono _ _ _ _ (le79.trans ((le10.trans ((le11.trans le12).trans (X₆.le.trans X₇.le))).trans (leE.trans le21))) hleft
  have hpvF : IMatV B₂₁ (prods cs) pv := IMatV.mono _ _ _ _ leF hpv6
  have haimF : IntsV B₂₁ aim (.ref la) := IntsV.mono _ _ _ _ K₅.mono hv0
  have eRF := leF _ _ eR6
  have T₂₁ := T.le K₅.mono
  have hPs : Sm 20000 (prodDen (qsol cs aim)) := (prodDen_sm hqsB).le (by first | with_reducible assumption | with_reducible exact Int.natCast_nonneg _ | lia | omega)
  have hgram := X.gram
  unfold wideOf at hgram hwsm
  refine wpAny_execs_nil (wpAny_execs_cons (wpAny_If (isTrue_or (wpAny_isTrue_Compare1 (wpAny_BinOp (Call_ ?_))))))
  try (refine hideQ ?_; intro hQ9)
  walk_at "N"
  refine callF T₂₁ (by k_dflt k_is) (args_cons ?_)
  walk_at "N"
  refine args_cons ?_
  walk_at "N"
  refine args_nil ⟨K₅.sub, ?_⟩
  refine by_ok T₂₁ K₅.sub ((R.deeper _).le (Nat.le_of_ble_eq_true rfl)) hleftF hleftF rfl (by first | with_reducible assumption | with_reducible exact Int.natCast_nonneg _ | lia | omega) hlsm hlsm (by decide) (by decide) fun B₂₂ h₄₅ tk₃₂ t₂₂ Y₁ => ?_
  have K₆ := K₅.ext Y₁
  walk_at "N"
  refine mulI (k := 90000) ((dot_sm hlsm hlsm (by rw [hll]; exact Nat.le_refl _)).le (by decide)) hdsm (by decide) (by decide) fun t₂₃ tk₃₃ => wpAny_BinOp (wpAny_BinOp ?_)
  walk_at "N"
  walk_at "N"
  refine mulI hPs hPs (by decide) (by decide) fun t₂₄ tk₃₄ => ?_
  walk_at "N"
  refine mulI (k := 40000) ((hPs.mul hPs).le (by decide)) hwsm (by decide) (by decide) fun t₂₅ tk₃₅ => PyProof.Rows.ne_int (wpAny_truthy_bool ?_)
  refine iteF (by rw [hgram]; simp) ?_
  refine isTrue_or (wpAny_isTrue_Compare1 ?_)
  have T₂₂ := T.le K₆.mono
  refine' comp_start [] ?hcl8 ?hk8 ?hn8 ?hg8 ?hs8
  case hcl8 => rfl
  case hk8 => rfl
  case hn8 => decide
  case hs8 => exact fun _ => rfl
  refine Call_ ?_
  walk_at "N"
  refine callF T₂₂ (by k_dflt k_is) (args_cons ?_)
  walk_at "N"
  refine args_nil ⟨K₆.sub, ?_⟩
  refine leading_ok (M := prods cs) (k := 10) T₂₂ K₆.sub ((R.deeper _).le (Nat.le_of_ble_eq_true rfl)) (IMatV.mono _ _ _ _ Y₁.le hpvF) hsq (by first | with_reducible assumption | with_reducible exact Int.natCast_nonneg _ | lia | omega) hpsm (by decide) (by first | with_reducible assumption | with_reducible exact Int.natCast_nonneg _ | lia | omega) X.goods fun B₂₃ h₄₆ tk₃₆ mv Y₂ hmv => ?_
  have K₇ := K₆.ext Y₂
  first | (refine ob3_3 (hmv) fun lm mvs cm zr680 hlm hpm => ?_; try clear hmv; subst zr680) | (refine ob2_4 (hmv) fun lm mvs cm zr681 hlm hpm => ?_; try clear hmv; subst zr681) | (refine ob1_5 (hmv) fun lm mvs cm zr682 hlm hpm => ?_; try clear hmv; subst zr682) | (refine ob0_6 (hmv) fun lm mvs cm zr683 hlm hpm => ?_; try clear hmv; subst zr683) | obtain ⟨lm, mvs, cm, rfl, hlm, hpm⟩ := hmv
  have lmvs : mvs.length = n := by rw [pLen hpm]; simp [minors, hsq.1]
  refine iterL "one" R.quiet K₇ hlm fun h₄₇ I₉ IT₉ hN₉ st₉ K₈ => ?_
  refine comp_pure (ps := []) (fun i B₁ ys => ys = []) (IT₉ _) hN₉ st₉ K₈ (List.mem_cons_self ..) rfl
    (fun _ _ _ _ g => g) (fits (by first | with_reducible assumption | with_reducible exact Int.natCast_nonneg _ | lia | omega)) [] (fun p hp => by cases hp) (fun _ => rfl) .nil (fun C => canL (List.mem_cons_self ..)) ?_ ?_
  · rintro C D i B₂₄ m₂ ys h₄₈ tk₃₇ E' hi _ le24 rfl ⟨y, hy, rfl⟩ G
    try (refine hideQ ?_; intro hQ9)
    first | (refine ob1_2 (pGet' hpm hy) fun x hx1 zq => ?_; refine ob1_1 zq fun tx zr => ?_; clear zq; subst zr) | (refine ob3_1 (pGet' hpm hy) fun x hx1 tx zr684 => ?_; subst zr684) | (refine ob2_2 (pGet' hpm hy) fun x hx1 tx zr685 => ?_; subst zr685) | (refine ob1_3 (pGet' hpm hy) fun x hx1 tx zr686 => ?_; subst zr686) | (refine ob0_4 (pGet' hpm hy) fun x hx1 tx zr687 => ?_; subst zr687) | obtain ⟨x, hx1, tx, rfl⟩ := pGet' hpm hy
    have hx0 := X.minors x (List.mem_of_getElem? hx1)
    refine tests_one (wpAny_isTrue_Compare1 ?_)
    walk_at "N"
    refine cI fun _ tk₃₈ => PyProof.Rows.lt_int (wpAny_truthy_bool ?_)
    refine iteF (by rw [decide_eq_true_eq]; omega) ?_
    exact exI4 B₂₄ _ h₄₈ _ ⟨rfl, .rfl, rfl, mc_upd rfl, G⟩
  intro C₉ D₉ B₂₄ c₉ ys h₄₈ tk₃₇ hC₉ le24 g _ eD₉ G
  subst g
  refine comp_none G (List.mem_cons_self ..) (fun x c hc q => hC₉.2 x c hc (List.mem_singleton.mpr q)) (hC₉.1 _ (List.mem_singleton.mpr rfl)) fun h₄₉ K₉ => List_ (args_nil ?_)
  refine mkLstB K₉ fun B₂₅ h₅₀ l₂₅ le25 e₂₅ K₁₀ => ?_
  refine neInts (ns := []) (ms := []) (B := B₂₅) (pln_of K₁₀.sub (le25 _ _ eD₉)) (pln_of K₁₀.sub e₂₅) .nil .nil ((R.deeper _).le (Nat.le_of_ble_eq_true rfl)) (wpAny_truthy_bool ?_)
  refine iteF (by decide) ?_
  refine isTrue_or_nil ?_
  refine iteF (by decide) ?_
  have leG : B₂₁.le B₂₅ := Y₁.le.trans (Y₂.le.trans (le24.trans le25))
  have T₂₅ := T.le K₁₀.mono
  have haimG := IntsV.mono _ _ _ _ leG haimF
  have hadot : Sm 10 (dot aim aim) := dot_sm X.sma X.sma (by rw [hal]; exact Nat.le_refl _)
  refine wpAny_execs_nil (wpAny_execs_cons (wpAny_Assign_Name (wpAny_BinOp ?_)))
  try (refine hideQ ?_; intro hQ9)
  walk_at "N"
  refine Call_ ?_
  walk_at "N"
  refine callF T₂₅ (by k_dflt k_is) (args_cons ?_)
  walk_at "N"
  refine args_cons ?_
  walk_at "N"
  refine args_nil ⟨K₁₀.sub, ?_⟩
  refine by_ok T₂₅ K₁₀.sub ((R.deeper _).le (Nat.le_of_ble_eq_true rfl)) haimG haimG rfl (by first | with_reducible assumption | with_reducible exact Int.natCast_nonneg _ | lia | omega) X.sma X.sma (by decide) (by decide) fun B₂₆ h₅₁ tk₃₉ t₂₆ Y₃ => ?_
  have K₁₁ := K₁₀.ext Y₃
  refine mulI hdsm hadot (by decide) (by decide) fun t₂₇ tk₄₀ => ?_
  walk_at "storeName"
  intro h₅₂ tk₄₁ K₁₂
  have K₁₃ := K₁₂.forget (m' := mL [("right", .ref D), ("times", .int (prodDen (qsol cs aim)) tt), ("left", lr), ("many", .int (ech (qmat (transp cs 4))).2.length tmany), ("number", .int (detV (prods cs)) tnum), ("wide", .int (detV (prods (cs ++ [aim]))) twide), ("most", .int (detV (prods cs) * dot aim aim) t₂₇)]) (mL_known (by exact rfl))
  have hw0 := X.wide0
  have hw1 := X.wide1
  have hmost := X.most
  unfold wideOf at hw0 hw1 hmost
  refine wpAny_execs_cons (wpAny_If (isTrue_or (isTrue_not (isTrue_chain (cI fun _ tk₄₂ => test_link ?_)))))
  try (refine hideQ ?_; intro hQ9)
  walk_at "N"
  refine PyProof.Rows.le_int (wpAny_truthy_bool ?_)
  refine iteT (by rw [decide_eq_true_eq]; exact hw0) ?_
  refine test_last ?_
  walk_at "N"
  refine PyProof.Rows.le_int (wpAny_truthy_bool ?_)
  rw [decide_eq_true hw1, if_neg (by decide)]
  refine isTrue_or (isTrue_and (wpAny_isTrue_Compare1 ?_))
  walk_at "N"
  refine cI fun _ tk₄₃ => PyProof.Rows.ne_int (wpAny_truthy_bool ?_)
  have leH := leG.trans Y₃.le
  by_cases hd0 : detV (prods cs) = 0
  · refine iteF (by rw [hd0]; decide) ?_
    refine iteF (by decide) ?_
    refine isTrue_or_nil ?_
    refine iteF (by decide) ?_
    refine wpAny_execs_nil (wpAny_execs_cons (wpAny_Return_some (Tuple_ (args_cons ?_))))
    try (refine hideQ ?_; intro hQ9)
    walk_at "N"
    refine args_cons ?_
    walk_at "N"
    refine args_cons ?_
    walk_at "N"
    refine args_nil (mkTup K₁₃ fun B₄₀ h₄₀' t₄₀ le40 et₄₀ Z => ?_)
    exact hq B₄₀ h₄₀' _ t₄₀ lr tmany tt Z.toExt et₄₀ (IntsV.mono _ _ _ _ (leH.trans le40) hleftF)
  refine iteT (by rw [bne_iff_ne]; exact hd0) ?_
  refine isTrue_and (wpAny_isTrue_Compare1 (wpAny_Compare1 ?_))
  walk_at "N"
  walk_at "N"
  refine PyProof.Rows.eq_int (wpAny_Compare1 ?_)
  refine' comp_start [] ?hcl9 ?hk9 ?hn9 ?hg9 ?hs9
  case hcl9 => rfl
  case hk9 => rfl
  case hn9 => decide
  case hs9 => exact fun _ => rfl
  walk_at "N"
  have eRG := leH _ _ eRF
  refine iterL "one" R.quiet K₁₃ eRG fun h₅₃ I₁₀ IT₁₀ hN₁₀ st₁₀ K₁₄ => ?_
  refine comp_pure (ps := []) (fun i B₁ ys => Paired (IntV B₁) (((rights cs aim).take i).filter fun x => decide (x ≠ 0)) ys) (IT₁₀ _) hN₁₀ st₁₀ K₁₄ (List.mem_cons_self ..) (by simpa using Paired.nil)
    (fun _ _ _ _ g => g) (fits (by first | with_reducible assumption | with_reducible exact Int.natCast_nonneg _ | lia | omega)) [] (fun p hp => by cases hp) (fun _ => rfl) .nil (fun C => canL (List.mem_cons_self ..)) ?_ ?_
  · intro C D' i B₂₇ m₂ ys h₅₄ tk₄₄ E' hi _ le27 g' zz13 G
    try (first | (refine hideC G ?_; intro hE9 hO9 hQ9 G) | (refine hideQ ?_; intro hQ9))
    first | (refine ob2_1 (zz13) fun y hy zr714 => ?_; try clear zz13; subst zr714) | (refine ob1_2 (zz13) fun y hy zr715 => ?_; try clear zz13; subst zr715) | (refine ob0_3 (zz13) fun y hy zr716 => ?_; try clear zz13; subst zr716) | obtain ⟨y, hy, rfl⟩ := zz13
    try (refine hideM G ?_; intro hM9 G)
    first | (refine ob1_2 (pGet' gR hy) fun x hx1 zq => ?_; refine ob1_1 zq fun tx zr => ?_; clear zq; subst zr) | (refine ob3_1 (pGet' gR hy) fun x hx1 tx zr688 => ?_; subst zr688) | (refine ob2_2 (pGet' gR hy) fun x hx1 tx zr689 => ?_; subst zr689) | (refine ob1_3 (pGet' gR hy) fun x hx1 tx zr690 => ?_; subst zr690) | (refine ob0_4 (pGet' gR hy) fun x hx1 tx zr691 => ?_; subst zr691) | obtain ⟨x, hx1, tx, rfl⟩ := pGet' gR hy
    refine tests_one (wpAny_isTrue_Compare1 ?_)
    walk_at "N"
    refine cI fun _ tk₄₅ => PyProof.Rows.ne_int (wpAny_truthy_bool ?_)
    by_cases hx0 : x = 0
    · refine iteF (by rw [hx0]; decide) ?_
      refine exI4 B₂₇ _ h₅₄ _ ⟨rfl, .rfl, ?_, mc_upd rfl, G⟩
      rw [List.take_add_one, hx1, List.filter_append]
      show Paired _ (_ ++ List.filter _ [x]) _
      rw [List.filter_cons_of_neg (by simpa using hx0), List.filter_nil, List.append_nil]
      exact g'
    · refine iteT (by rw [bne_iff_ne]; exact hx0) ?_
      walk_at "N"
      refine exI4 B₂₇ _ h₅₄ _ ⟨rfl, .rfl, ?_, mc_upd rfl, G⟩
      rw [List.take_add_one, hx1, List.filter_append]
      show Paired _ (_ ++ List.filter _ [x]) _
      rw [List.filter_cons_of_pos (by simpa using hx0), List.filter_nil]
      exact pAppend g' (.cons ⟨tx, rfl⟩ .nil)
  intro C₁₀ D₁₀ B₂₇ c₁₀ ys h₅₄ tk₄₄ hC₁₀ le27 g' _ eD₁₀ G
  rw [List.take_of_length_le (by first | with_reducible assumption | with_reducible exact Int.natCast_nonneg _ | lia | omega)] at g'
  refine comp_none G (List.mem_cons_self ..) (fun x c hc q => hC₁₀.2 x c hc (List.mem_singleton.mpr q)) (hC₁₀.1 _ (List.mem_singleton.mpr rfl)) fun h₅₅ K₁₅ => List_ (args_nil ?_)
  refine mkLstB K₁₅ fun B₂₈ h₅₆ l₂₈ le28 e₂₈ K₁₆ => ?_
  refine eqInts (ms := []) (B := B₂₈) (pln_of K₁₆.sub (le28 _ _ eD₁₀)) (pln_of K₁₆.sub e₂₈) g' .nil ((R.deeper _).le (Nat.le_of_ble_eq_true rfl)) (ne_bool (wpAny_truthy_bool ?_))
  try show @ite Prop _ _ _ _
  rw [if_neg (by
    have h1 := hmost hd0
    have h2 : (∀ x ∈ rights cs aim, x = 0) ↔ (rights cs aim).filter (fun x => decide (x ≠ 0)) = [] := by
      rw [List.filter_eq_nil_iff]
      simp
    rw [h2] at h1
    rw [bne_iff_ne, ne_eq, Classical.not_not, Bool.eq_iff_iff, beq_iff_eq, decide_eq_true_eq]
    exact h1), if_neg (by decide)]
  refine isTrue_or_nil ?_
  refine iteF (by decide) ?_
  have leI := leH.trans (le27.trans le28)
  refine wpAny_execs_nil (wpAny_execs_cons (wpAny_Return_some (Tuple_ (args_cons ?_))))
  try (refine hideQ ?_; intro hQ9)
  walk_at "N"
  refine args_cons ?_
  walk_at "N"
  refine args_cons ?_
  walk_at "N"
  refine args_nil (mkTup K₁₆ fun B₄₀ h₄₀' t₄₀ le40 et₄₀ Z => ?_)
  exact hq B₄₀ h₄₀' _ t₄₀ lr tmany tt Z.toExt et₄₀ (IntsV.mono _ _ _ _ (leI.trans le40) hleftF)
end
abbrev Fm.like {W : List Addr} {B₀ B : Base} {h₀ h : Heap} {own : List Addr} {env : Env} {m : Str → Option Value} {ps : List Ent} (_ : Fm W B₀ h₀ own env B m ps h) (B' : Base) (m' : Str → Option Value) (ps' : List Ent) (h' : Heap) : Prop := Fm W B₀ h₀ own env B' m' ps' h'
noncomputable def EndOk (cs ds : List (List Int)) (aim : List Int) : Prop :=
  prodDen (qsol ds aim) * prodDen (qsol ds aim) * dot (leftOf cs aim) (leftOf cs aim) ≤ prodDen (qsol cs aim) * prodDen (qsol cs aim) * dot (leftOf ds aim) (leftOf ds aim) ∧
  ((leftOf ds aim).map (fun x => prodDen (qsol cs aim) * x) = (leftOf cs aim).map (fun x => prodDen (qsol ds aim) * x) ∨ rankOf ds 4 < rankOf cs 4)
/-- the plain law: what is left to prove -/
noncomputable def Plain : Prop := ∀ c0 c1 c2 aim : List Int, c0.length = 4 → c1.length = 4 → c2.length = 4 → aim.length = 4 → (∀ x ∈ c0, Sm 3 x) → (∀ x ∈ c1, Sm 3 x) → (∀ x ∈ c2, Sm 3 x) → (∀ x ∈ aim, Sm 3 x) →
  Fine 3 [c0, c1, c2] aim ∧ Fine 2 [c0, c2] aim ∧ EndOk [c0, c1, c2] [c0, c2] aim
theorem fine_sm {n : Nat} {cs : List (List Int)} {aim : List Int} (X : Fine n cs aim) : (∀ x ∈ leftOf cs aim, Sm 40000 x) ∧ (leftOf cs aim).length = 4 ∧ Sm 20000 (prodDen (qsol cs aim)) := by
  have lcs := X.len
  have hn1 := X.pos
  have hn3 := X.le
  have hsq := prods_sq cs
  rw [lcs] at hsq
  have hpsm : SmM 10 (prods cs) := prods_sm X.sm X.rows
  have hrsm : ∀ x ∈ rights cs aim, Sm 10 x := fun x hx => by
    first | (refine ob2_1 (List.mem_map.mp hx) fun c hc zr717 => ?_; subst zr717) | (refine ob1_2 (List.mem_map.mp hx) fun c hc zr718 => ?_; subst zr718) | (refine ob0_3 (List.mem_map.mp hx) fun c hc zr719 => ?_; subst zr719) | obtain ⟨c, hc, rfl⟩ := List.mem_map.mp hx
    exact dot_sm (X.sm c hc) X.sma (by rw [X.rows c hc]; exact Nat.le_refl _)
  have lrr : (rights cs aim).length = n := by simp [rights, lcs]
  have hqR : Rect n n (qmat (prods cs)) := qmat_rect hsq.1 hsq.2
  have hqw : wd (qmat (prods cs)) = n := wd_rect hqR hn1
  have hqB : Bnd 10 (qmat (prods cs)) := qmat_B hpsm (by decide)
  have hrl : (qrow (rights cs aim)).length = n := by rw [qrow, List.length_map]; exact lrr
  have haR := aug_rect hqR hrl
  have haB := aug_bnd hqB (qrow_B hrsm (by decide))
  have haw : wd (aug (qmat (prods cs)) (qrow (rights cs aim))) = n + 1 := wd_rect haR hn1
  have h5 : (5 : Nat) ^ (n + 1) ≤ 5 ^ 4 := Nat.pow_le_pow_right (by decide) (by exact om122 hn3)
  have e54 : (5 : Nat) ^ 4 = 625 := by decide
  have hqsl : (qsol cs aim).length = n := by rw [qsol, sol_len, hqw]
  have hqsB : ∀ x ∈ qsol cs aim, RatB 6250 x := fun x hx => (sol_B haR haw haB (by decide) x hx).le (by exact om271 h5)
  have sm8 : SmM 8 cs := fun r hr x hx => (X.sm r hr x hx).le (by decide)
  have sma8 : ∀ x ∈ aim, Sm 8 x := fun x hx => (X.sma x hx).le (by decide)
  exact ⟨fun x hx => (restTo_sm (K := 6250) (b := 8) (by decide) hqsB sm8 sma8 _ x hx).le (by exact om276 lcs hn3 hqsl), restTo_len X.rows X.alen _ (Nat.le_refl _), (prodDen_sm hqsB).le (by exact om292 hn3 hqsl)⟩
/-- a number of the draws, less 2 -/
noncomputable def Drawn4 (r : List Int) : Prop := r.length = 4 ∧ ∀ x ∈ r, -2 ≤ x ∧ x ≤ 2
section
variable {prog : Program} {w : World} {A : Around} {E : Value → Shared → Prop} {s : Shared} {h : Heap} {tk : Nat} {B : Base} {Q : Value → Shared → Prop}

/-- «a[:n]» -/
theorem sliceLI {env : Env} {value : Expr} {upper : Expr} {p pos : Pos} {Q : Value → Shared → Prop} 
    (hq : wpAny (model prog w) A (eval value env) (fun o s₁ => wpAny (model prog w) A (eval upper env) (fun vu s₂ => ∃ l items n t h tk, s₂ = mk s h tk ∧ o = .ref l ∧ vu = .int (n : Nat) t ∧ h.IsList l (items : List Value).toArray ∧ items.length ≤ 1000 ∧
      ∃ (W : List Addr) (B₀ : Base) (h₀ : Heap) (own : List Addr) (B : Base) (ps : List Ent) (m : Str → Option Value), Fm W B₀ h₀ own env B m ps h ∧ ∀ B' h' D c, B.le B' → B' D = some (lstO (items.take n) c) → Fm W B₀ h₀ own env B' m ps h' → Q (.ref D) (mk s h' tk)) E s₁) E (mk s h tk))
    (ht : ∀ o r, letTemporaryGo value o r = pure () := by intro _ _; rfl) :
    wpAny (model prog w) A (eval (.Subscript value (.Slice none (some upper) none p) pos) env) Q E (mk s h tk) := by
  refine wpAny_Subscript_list_slice (wpAny_mono hq (fun o s₁ h₁ => evalPart_none_step (wpAny_mono h₁ (fun vu s₂ h₂ => ?_) fun _ _ e => e)) fun _ _ e => e) ht
  refine ob6_6 h₂ fun l items n t h tk zr1 zr2 zr3 hl hz zq => ob7_2 zq fun W B₀ h₀ own B ps m S hq => ?_; clear zq h₂; subst zr1; subst zr2; subst zr3
  refine ⟨l, items.toArray, none, some (n : Int), rfl, hl, by rw [List.size_toArray]; exact fits hz, .none, .int _ _, ?_⟩
  rw [slicePick_upto']
  have k1 : ∀ b o, h.get? b = some o → (h.push { cls := .type "slice", data := .fields #[.none, .int (n : Int) t, .none] }).get? b = some o := fun b o e => Heap.get?_push_of_some _ e
  have S1 := S.ext (Ext.keeps S.sub k1)
  have k2 : ∀ b o, (h.push { cls := .type "slice", data := .fields #[.none, .int (n : Int) t, .none] }).get? b = some o → ((h.push { cls := .type "slice", data := .fields #[.none, .int (n : Int) t, .none] }).push (lstO (items.take n) 0)).get? b = some o := fun b o e => Heap.get?_push_of_some _ e
  first | (refine ob2_1 (Ext.alloc (o := lstO (items.take n) 0) S1.sub newAt k2 (Heap.get?_push_size _ rfl)) fun B' X e => ?_) | (refine ob1_2 (Ext.alloc (o := lstO (items.take n) 0) S1.sub newAt k2 (Heap.get?_push_size _ rfl)) fun B' X e => ?_) | (refine ob0_3 (Ext.alloc (o := lstO (items.take n) 0) S1.sub newAt k2 (Heap.get?_push_size _ rfl)) fun B' X e => ?_) | obtain ⟨B', X, e⟩ := Ext.alloc (o := lstO (items.take n) 0) S1.sub newAt k2 (Heap.get?_push_size _ rfl)
  rw [Heap.size_push] at e
  exact hq B' _ _ 0 X.le e (S1.ext X)

theorem draw_fm {W : List Addr} {B₀ : Base} {h₀ : Heap} {env : Env} {mp : Str → Option Value} {ps₁ ps₂ : List Ent} {P lc : Addr} {cs : List Value} {ns : List Int} {c k : Nat} {m : Int} {t u : Tok} (S : Fm W B₀ h₀ (ownOf env) env B mp (ps₁ ++ (P, LstP [.ref lc, .int (k : Nat) t]) :: ps₂) h)
    (T : Tp (Mine.hd.heap_39 w.params) B) (R : Room 1 A) (hlc : B lc = some (lstO cs c)) (hp : Paired (IntV B) ns cs) (hn : cs.length ≤ 1000) (hk : k ≤ 1000) (hm : 0 < m)
    (hq : ∀ B' h' tk' d td t', B.le B' → Fm W B₀ h₀ (ownOf env) env B' mp (ps₁ ++ (P, LstP [.ref lc, .int (k + 1 : Nat) t']) :: ps₂) h' → 0 ≤ d → d < m → Q (.int d td) (mk s h' tk')) :
    wpAny (model prog w) A (call (.ref 169) [.ref P, .int m u]) Q E (mk s h tk) :=
  draw_ok T S.sub R (S.ents _ (List.mem_append_right _ (List.mem_cons_self ..))) (S.apart P (by first | exact List.mem_cons_self | exact List.mem_cons_of_mem _ List.mem_cons_self | simp)) hlc hp hn hk hm fun B' h' tk' d td t' X e h0 h1 => hq B' h' tk' d td t' X.le (S.extW1 ps₁ X e) h0 h1

theorem slI2 {env : Env} {W : List Addr} {B₀ B : Base} {h₀ h : Heap} {own : List Addr} {m : Str → Option Value} {ps : List Ent} {tk : Nat} {l : Addr} {items : List Value} {n : Nat} {t : Tok} {o vu : Value} {s : Shared} {Q : Value → Shared → Prop} (S : Fm W B₀ h₀ own env B m ps h) (hl : h.IsList l items.toArray) (hz : items.length ≤ 1000) (eo : o = .ref l) (ev : vu = .int (n : Nat) t)
    (hq : ∀ B' h' D c, B.le B' → B' D = some (lstO (items.take n) c) → Fm W B₀ h₀ own env B' m ps h' → Q (.ref D) (mk s h' tk)) :
    ∃ l items n t h' tk', mk s h tk = mk s h' tk' ∧ o = .ref l ∧ vu = .int (n : Nat) t ∧ h'.IsList l (items : List Value).toArray ∧ items.length ≤ 1000 ∧
      ∃ (W : List Addr) (B₀ : Base) (h₀ : Heap) (own : List Addr) (B : Base) (ps : List Ent) (m : Str → Option Value), Fm W B₀ h₀ own env B m ps h' ∧ ∀ B' h' D c, B.le B' → B' D = some (lstO (items.take n) c) → Fm W B₀ h₀ own env B' m ps h' → Q (.ref D) (mk s h' tk') :=
  ⟨l, items, n, t, h, tk, rfl, eo, ev, hl, hz, W, B₀, h₀, own, B, ps, m, S, hq⟩
set_option maxHeartbeats 4000000 in
theorem law_ok (T : Tp (Mine.hd.heap_39 w.params) B) (sub : B.In h) (R : Room 10 A) {l : Addr} {vs : List Value} {ns : List Int} {c : Nat} (hl : ∃ o, B l = some o ∧ o.cls = .type "list" ∧ o.data = .seq vs.toArray c) (hp : Paired (IntV B) ns vs) (hn : ns.length ≤ 63) (plain : Plain)
    (hq : ∀ B' h' tk', Ext B h B' h' → Q (.bool true) (mk s h' tk')) :
    wpAny (model prog w) A (call (.ref 194) [.ref l]) Q E (mk s h tk) := by
  have len := pLen hp
  first | (refine ob3_1 (hl) fun oS hlS hcS hdS => ?_; try clear hl) | (refine ob2_2 (hl) fun oS hlS hcS hdS => ?_; try clear hl) | (refine ob1_3 (hl) fun oS hlS hcS hdS => ?_; try clear hl) | (refine ob0_4 (hl) fun oS hlS hcS hdS => ?_; try clear hl) | obtain ⟨oS, hlS, hcS, hdS⟩ := hl
  refine' enter (binds := [("script", .ref l)]) [] T sub ?he .nil ?hB ?hf ?hcd ?hroom ?hbind ?hkind ?hh ?hcn ?hco ?hgen ?hk
  ((case he => exact fun _ h => absurd h List.not_mem_nil); (case hB => exact fun _ h => absurd h List.not_mem_nil))
  ((case hf => k_dflt k_is); (case hcd => k_dflt k_is); (case hroom => exact Room.lt (by assumption)); (case hbind => exact rfl); (case hkind => exact kindsX rfl); (case hcn => decide +kernel); (case hco => exact rfl); (case hgen => exact rfl); (case hk => exact rfl))
  intro L h₁ tk₁ hL S
  refine hideF S ?_
  intro hA8 hE8 hM8 hQ8 S
  refine wpAny_execs_cons (wpAny_Assign_Name (List_ (args_cons ?_)))
  try (refine hideQ ?_; intro hQ9)
  refine' comp_start [] ?hcl2 ?hk2 ?hn2 ?hg2 ?hs2
  case hcl2 => rfl
  case hk2 => rfl
  case hn2 => decide
  case hs2 => exact fun _ => rfl
  refine hideQ ?_; intro hQ7; refine sliceLI ?_
  walk_at "N"
  refine cI fun t₁ tk₂ => ?_
  refine slI2 (n := 18) S ⟨oS, S.sub _ _ hlS, hcS, c, hdS⟩ (by exact om293 hn len) rfl rfl fun B₁ h₂ D₁ c₁ le₁ e₁ S₁ => ?_
  refine iterL "cell" R.quiet S₁ e₁ fun h₃ I IT hN st S₂ => ?_
  have hpt := pTake 18 hp
  have T₁ := T.le S₁.mono
  have lt18 : (vs.take 18).length ≤ 18 := by rw [List.length_take]; (first | with_reducible assumption | with_reducible exact Int.natCast_nonneg _ | lia | omega)
  refine comp_pure (ps := []) (fun i B₁ ys => Paired (IntV B₁) ((ns.take 18).take i) ys) (IT _) hN st S₂ (List.mem_cons_self ..) (by simpa using Paired.nil)
    (fun _ _ _ _ g => g) (fits (by exact om294 lt18)) [] (fun p hp => by cases hp) (fun _ => rfl) .nil (fun C => canL (List.mem_cons_self ..)) ?_ ?_
  · intro C D i B₂ m₂ ys h₄ tk₃ E' hi _ le g zz13 F
    try (first | (refine hideC F ?_; intro hE9 hO9 hQ9 F) | (refine hideQ ?_; intro hQ9))
    first | (refine ob2_1 (zz13) fun y hy zr769 => ?_; try clear zz13; subst zr769) | (refine ob1_2 (zz13) fun y hy zr770 => ?_; try clear zz13; subst zr770) | (refine ob0_3 (zz13) fun y hy zr771 => ?_; try clear zz13; subst zr771) | obtain ⟨y, hy, rfl⟩ := zz13
    try (refine hideM F ?_; intro hM9 F)
    refine tests_nil ?_
    refine iteT rfl ?_
    first | (refine ob1_2 (pGet' hpt hy) fun x hx1 zq => ?_; refine ob1_1 zq fun tx zr => ?_; clear zq; subst zr) | (refine ob3_1 (pGet' hpt hy) fun x hx1 tx zr720 => ?_; subst zr720) | (refine ob2_2 (pGet' hpt hy) fun x hx1 tx zr721 => ?_; subst zr721) | (refine ob1_3 (pGet' hpt hy) fun x hx1 tx zr722 => ?_; subst zr722) | (refine ob0_4 (pGet' hpt hy) fun x hx1 tx zr723 => ?_; subst zr723) | obtain ⟨x, hx1, tx, rfl⟩ := pGet' hpt hy
    refine Call_ ?_
    walk_at "N"
    refine cType (args_cons ?_)
    walk_at "N"
    refine args_nil (call_int_int ?_)
    exact exI4 B₂ _ h₄ _ ⟨rfl, .rfl, pSnocTake g hx1 ⟨tx, rfl⟩, mc_upd rfl, F⟩
  intro C₂ D₂ B₂ c₂ cs h₄ tk₃ hC₂ le₂ g hcs eD F
  refine comp_none F (List.mem_cons_self ..) (fun x c hc q => hC₂.2 x c hc (List.mem_singleton.mpr q)) (hC₂.1 _ (List.mem_singleton.mpr rfl)) fun h₅ F₁ => ?_
  refine args_cons (cI fun t₂ tk₄ => args_nil (mkLst F₁ fun h₆ P hnP F₂ => ?_))
  walk_at "storeName"
  intro h₇ tk₅ F₃
  have F₃ : Fm [] B h _ _ B₂ _ [(P, LstP [.ref D₂, .int (0 : Nat) t₂])] h₇ := F₃
  have T₂ := T.le F₃.mono
  have hcs' : cs.length ≤ 1000 := by exact om295 lt18 hcs
  refine wpAny_execs_cons (Assign_Tuple (Tuple_ (args_cons (Call_ ?_))))
  try (refine hideQ ?_; intro hQ9)
  walk_at "N"
  refine callF T₂ (by k_dflt k_is) (args_cons ?_)
  walk_at "N"
  refine args_cons (cI fun t₃ tk₆ => args_nil ⟨F₃.sub, ?_⟩)
  refine draw_ok (k := 0) T₂ F₃.sub ((R.deeper _).le (Nat.le_of_ble_eq_true rfl)) (F₃.ents _ (List.mem_cons_self ..)) (F₃.apart P (by first | exact List.mem_cons_self | exact List.mem_cons_of_mem _ List.mem_cons_self | simp)) eD g hcs' (by decide) (by decide) fun B₃ h₈ tk₇ form tf t₄ X₁ e₂ hf0 hf3 => ?_
  have F₄ := F₃.extW1 [] X₁ e₂
  refine args_cons (List_ (args_nil (mkLst F₄ fun h₉ C hnC F₅ => args_nil ?_)))
  refine mkTup F₅ fun B₄ h₁₀ tt le₄ et F₆ => ?_
  refine asgT R.quiet F₆ et rfl rfl fun h₁₁ F₇ => ?_
  refine assignInOrder_cons (wpAny_assign_Name ?_)
  walk_at "storeName"
  intro h₁₂ tk₈ F₈
  refine assignInOrder_cons (wpAny_assign_Name ?_)
  walk_at "storeName"
  intro h₁₃ tk₉ F₉
  have T₄ := T.le F₉.mono
  have eD4 := le₄ _ _ (X₁.le _ _ eD)
  refine assignInOrder_nil (wpAny_execs_cons (wpAny_Assign_Name (wpAny_BinOp (Call_ ?_))))
  try (refine hideQ ?_; intro hQ9)
  walk_at "N"
  refine callF T₄ (by k_dflt k_is) (args_cons ?_)
  walk_at "N"
  refine args_cons (cI fun t₅ tk₁₀ => args_nil ⟨F₉.sub, ?_⟩)
  refine draw_ok (k := 1) T₄ F₉.sub ((R.deeper _).le (Nat.le_of_ble_eq_true rfl)) (F₉.ents _ (List.mem_cons_of_mem _ (List.mem_cons_self ..))) (F₉.apart P (by first | exact List.mem_cons_self | exact List.mem_cons_of_mem _ List.mem_cons_self | simp)) eD4 g hcs' (by decide) (by decide) fun B₅ h₁₄ tk₁₁ m0 tm t₆ X₂ e₃ hm0 hm4 => ?_
  have F₁₀ := F₉.extW1 [(C, LstP [])] X₂ e₃
  refine cI fun _ tk₁₂ => subI fun t₇ tk₁₃ => ?_
  walk_at "storeName"
  intro h₁₅ tk₁₄ F₁₁
  have eD5 := X₂.le _ _ eD4
  refine wpAny_execs_cons (wpAny_For (Call_ ?_))
  try (refine hideQ ?_; intro hQ9)
  walk_at "N"
  refine cType (args_cons (cI fun _ tk₁₅ => args_nil ?_))
  refine mkRange1 F₁₁ fun B₆ h₁₆ r₆ ta tb tc tk₁₆ le₆ er F₁₂ => ?_
  refine iterR "turn" R.quiet F₁₂ er (by decide) (by decide) (by decide) (by decide) fun h₁₇ It IT₂ hN₂ st₂ F₁₃ => ?_
  have eD6 := le₆ _ _ eD5
  have F₁₄ := F₁₃.forget (m' := mL [("pool", .ref P), ("form", .int form tf), ("columns", .ref C), ("many", .int (m0 - 1) t₇)]) (mL_known (by exact rfl))
  rw [show ((3 : Int) - 0).toNat = 3 from rfl] at IT₂
  refine forLoop (fun i B m ps => ∃ t rows rvs, m = mL [("pool", .ref P), ("form", .int form tf), ("columns", .ref C), ("many", .int (m0 - 1) t₇)] ∧ ps = [(C, LstP rvs)] ++ (P, LstP [.ref D₂, .int (2 + 4 * i : Nat) t]) :: [] ∧ Paired (IntsV B) rows rvs ∧ rows.length = i ∧ ∀ r ∈ rows, Drawn4 r)
    (IT₂ _) (canL (List.mem_cons_self ..)) hN₂ (List.mem_cons_self ..) F₁₄ st₂ ⟨t₆, [], [], rfl, rfl, .nil, rfl, fun r hr => by cases hr⟩ ?_ ?_
  · intro i B₇ m₁ m₂ ps₁ h₁₈ tk₁₇ E' hi le7 zz10 zz11 N
    try (first | (refine hideC N ?_; intro hE9 hO9 hQ9 N) | (refine hideQ ?_; intro hQ9))
    first | (refine ob3_5 (zz10) fun t rows rvs zr772 zr773 hrv hrl hrd => ?_; try clear zz10; subst zr772; subst zr773) | (refine ob2_6 (zz10) fun t rows rvs zr774 zr775 hrv hrl hrd => ?_; try clear zz10; subst zr774; subst zr775) | (refine ob1_7 (zz10) fun t rows rvs zr776 zr777 hrv hrl hrd => ?_; try clear zz10; subst zr776; subst zr777) | obtain ⟨t, rows, rvs, rfl, rfl, hrv, hrl, hrd⟩ := zz10
    first | (refine ob1_2 (zz11) fun _ zn778 zr780 => ?_; try clear zz11; refine ob1_1 zn778 fun tr zr779 => ?_; clear zn778; subst zr779; subst zr780) | (refine ob0_3 (zz11) fun _ zn781 zr783 => ?_; try clear zz11; refine ob1_1 zn781 fun tr zr782 => ?_; clear zn781; subst zr782; subst zr783) | obtain ⟨_, ⟨tr, rfl⟩, rfl⟩ := zz11
    try (refine hideM N ?_; intro hM9 N)
    have lrvs := pLen hrv
    have N0 : Fm [] B h _ _ B₇ _ ([(C, LstP rvs)] ++ (P, LstP [.ref D₂, .int (2 + 4 * i + 0 : Nat) t]) :: Hold h₁₈ [It]) h₁₈ := N
    refine wpAny_execs_cons (Assign_Tuple_swapped (names := ["first", "second"]) (Tuple_ (args_cons (wpAny_BinOp (Call_ ?_)))))
    try (refine hideQ ?_; intro hQ9)
    walk_at "N"
    have TT1 := T.le N0.mono
    refine callF TT1 (by k_dflt k_is) (args_cons ?_)
    walk_at "N"
    refine args_cons (cI fun _ _ => args_nil ⟨N0.sub, ?_⟩)
    refine draw_fm (ps₁ := [(C, LstP rvs)]) (ps₂ := Hold h₁₈ [It]) N0 TT1 ((R.deeper _).le (Nat.le_of_ble_eq_true rfl)) (le7 _ _ eD6) g hcs' (k := 2 + 4 * i + 0) (by exact om296 hi) (by decide) fun B1a hh1a tka1 da td1 tt1 le1a N0a da0 da5 => ?_
    refine cI fun _ _ => subI fun _ _ => args_cons (wpAny_BinOp (Call_ ?_))
    walk_at "N"
    have TT1b := T.le N0a.mono
    refine callF TT1b (by k_dflt k_is) (args_cons ?_)
    walk_at "N"
    refine args_cons (cI fun _ _ => args_nil ⟨N0a.sub, ?_⟩)
    refine draw_fm (ps₁ := [(C, LstP rvs)]) (ps₂ := Hold h₁₈ [It]) N0a TT1b ((R.deeper _).le (Nat.le_of_ble_eq_true rfl)) (le1a _ _ (le7 _ _ eD6)) g hcs' (k := 2 + 4 * i + 0 + 1) (by exact om297 hi) (by decide) fun B1b hh1b tkb1 db td1b tt1b le1b N0b db0 db5 => ?_
    refine cI fun _ _ => subI fun _ _ => args_nil ?_
    refine mkTup N0b fun B1c hh1c tt1c le1c et1 N0c => ?_
    refine unpk R.quiet N0c et1 rfl fun hh1d N0d => ?_
    refine assignInOrder_cons (wpAny_bindName ?_)
    walk_at "storeName"
    intro hh1e tke1 N0e
    refine assignInOrder_cons (wpAny_bindName ?_)
    walk_at "storeName"
    intro hh1f tkf1 N0f
    refine assignInOrder_nil ?_
    have le71 : B₇.le B1c := le1a.trans (le1b.trans le1c)
    refine wpAny_execs_cons (Assign_Tuple_swapped (names := ["third", "fourth"]) (Tuple_ (args_cons (wpAny_BinOp (Call_ ?_)))))
    try (refine hideQ ?_; intro hQ9)
    walk_at "N"
    have TT2 := T.le N0f.mono
    refine callF TT2 (by k_dflt k_is) (args_cons ?_)
    walk_at "N"
    refine args_cons (cI fun _ _ => args_nil ⟨N0f.sub, ?_⟩)
    refine draw_fm (ps₁ := [(C, LstP rvs)]) (ps₂ := Hold h₁₈ [It]) N0f TT2 ((R.deeper _).le (Nat.le_of_ble_eq_true rfl)) ((le7.trans le71) _ _ eD6) g hcs' (k := 2 + 4 * i + 2) (by exact om298 hi) (by decide) fun B2a hh2a tka2 dc td2 tt2 le2a N0fa dc0 dc5 => ?_
    refine cI fun _ _ => subI fun _ _ => args_cons (wpAny_BinOp (Call_ ?_))
    walk_at "N"
    have TT2b := T.le N0fa.mono
    refine callF TT2b (by k_dflt k_is) (args_cons ?_)
    walk_at "N"
    refine args_cons (cI fun _ _ => args_nil ⟨N0fa.sub, ?_⟩)
    refine draw_fm (ps₁ := [(C, LstP rvs)]) (ps₂ := Hold h₁₈ [It]) N0fa TT2b ((R.deeper _).le (Nat.le_of_ble_eq_true rfl)) (le2a _ _ ((le7.trans le71) _ _ eD6)) g hcs' (k := 2 + 4 * i + 2 + 1) (by exact om299 hi) (by decide) fun B2b hh2b tkb2 dd td2b tt2b le2b N0fb dd0 dd5 => ?_
    refine cI fun _ _ => subI fun _ _ => args_nil ?_
    refine mkTup N0fb fun B2c hh2c tt2c le2c et2 N0fc => ?_
    refine unpk R.quiet N0fc et2 rfl fun hh2d N0fd => ?_
    refine assignInOrder_cons (wpAny_bindName ?_)
    walk_at "storeName"
    intro hh2e tke2 N0fe
    refine assignInOrder_cons (wpAny_bindName ?_)
    walk_at "storeName"
    intro hh2f tkf2 N0ff
    refine assignInOrder_nil ?_
    have le72 : B1c.le B2c := le2a.trans (le2b.trans le2c)
    refine wpAny_execs_cons (wpAny_Expr (MethodCall_ ?_))
    try (refine hideQ ?_; intro hQ9)
    walk_at "N"
    refine getApp (N0ff.plain (a := C) (vs := rvs) (by first | exact List.mem_cons_self | exact List.mem_cons_of_mem _ List.mem_cons_self | simp)) (callWith_method1 (args_cons (List_ (args_cons ?_))))
    walk_at "N"
    refine args_cons ?_
    walk_at "N"
    refine args_cons ?_
    walk_at "N"
    refine args_cons ?_
    walk_at "N"
    refine args_nil (mkLstB N0ff fun B₈ h₁₉ l₈ le8 e₈ N₁ => args_nil (appP [] (ps₂ := (P, LstP [.ref D₂, .int (2 + 4 * i + 2 + 1 + 1 : Nat) tt2b]) :: Hold h₁₈ [It]) N₁ (fits (by exact om300 hi hrl lrvs)) fun h₂₀ N₂ => wpAny_execs_nil ?_))
    refine exI5 B₈ _ ([(C, LstP (rvs ++ [.ref l₈]))] ++ (P, LstP [.ref D₂, .int (2 + 4 * (i + 1) : Nat) tt2b]) :: []) h₂₀ _ ⟨rfl, le71.trans (le72.trans le8), ⟨tt2b, rows ++ [[da - 2, db - 2, dc - 2, dd - 2]], _, rfl, rfl, ?_, by simp [hrl], ?_⟩, N₂.forget (mL_known (by exact rfl))⟩
    · exact pAppend (pMono IntsV.mono (le71.trans (le72.trans le8)) hrv) (.cons (LVm (e₈) (.cons ⟨_, rfl⟩ (.cons ⟨_, rfl⟩ (.cons ⟨_, rfl⟩ (.cons ⟨_, rfl⟩ .nil))))) .nil)
    · intro r hr
      rcases List.mem_append.mp hr with q | q
      · exact hrd r q
      · rw [List.mem_singleton.mp q]
        refine ⟨rfl, fun x hx => ?_⟩
        simp only [List.mem_cons, List.not_mem_nil, or_false] at hx
        rcases hx with rfl | rfl | rfl | rfl <;> (first | with_reducible assumption | with_reducible exact Int.natCast_nonneg _ | lia | omega)
  intro B₇ m₁ ps₁ h₁₈ tk₁₇ le7 zz6 N
  try (first | (refine hideC N ?_; intro hE9 hO9 hQ9 N) | (refine hideQ ?_; intro hQ9))
  first | (refine ob3_5 (zz6) fun t rows rvs zr784 zr785 hrv hrl hrd => ?_; try clear zz6; subst zr784; subst zr785) | (refine ob2_6 (zz6) fun t rows rvs zr786 zr787 hrv hrl hrd => ?_; try clear zz6; subst zr786; subst zr787) | (refine ob1_7 (zz6) fun t rows rvs zr788 zr789 hrv hrl hrd => ?_; try clear zz6; subst zr788; subst zr789) | obtain ⟨t, rows, rvs, rfl, rfl, hrv, hrl, hrd⟩ := zz6
  try (refine hideM N ?_; intro hM9 N)
  have lrvs := pLen hrv
  have T₇ := T.le N.mono
  have eD7 := le7 _ _ eD6
  have nPc : P ≠ L + 1 := fun q => (List.nodup_append.mp N.nodup).2.2 (L + 1) (own_cells "pool" (L + 1) (mem_of_lookup (by rfl))) P (by first | exact List.mem_cons_self | exact List.mem_cons_of_mem _ List.mem_cons_self | simp) q.symm
  refine wpAny_execs_cons ?_
  try (refine hideQ ?_; intro hQ9)
  refine' comp_assign [("pool", L + 1)] ?hsw3 ?hcl3 ?hk3 ?hn3 ?hg3 ?hs3
  case hk3 => rfl
  case hn3 => decide
  case hcl3 => rfl
  case hs3 => exact fun _ => rfl
  case hsw3 => rfl
  refine Call_ ?_
  walk_at "N"
  refine cType (args_cons (cI fun _ tk₁₈ => args_nil ?_))
  refine mkRange1 N fun B₈ h₁₉ r₈ ta8 tb8 tc8 tk₁₉ le8 er8 N₁ => ?_
  refine iterR "at" R.quiet N₁ er8 (by decide) (by decide) (by decide) (by decide) fun h₂₀ I₃ IT₃ hN₃ st₃ N₂ => ?_
  rw [show ((4 : Int) - 0).toNat = 4 from rfl] at IT₃
  have N₃ := N₂.perm (ps' := ([(P, LstP [.ref D₂, .int (2 + 4 * 3 : Nat) t])] ++ [(C, LstP rvs)]) ++ Hold h₂₀ [I₃]) (by
    refine List.Perm.append_right _ ?_
    exact List.Perm.swap ..)
  have T₈ := T.le N₃.mono
  have eD8 := le8 _ _ eD7
  refine comp_go (psW := [(P, LstP [.ref D₂, .int (2 + 4 * 3 : Nat) t])]) (psR := [(C, LstP rvs)]) (fun i B psN psW ys => psN = [] ∧ ∃ t xs, psW = [(P, LstP [.ref D₂, .int (14 + i : Nat) t])] ∧ Paired (IntV B) xs ys ∧ xs.length = i ∧ ∀ x ∈ xs, -2 ≤ x ∧ x ≤ 2)
    (IT₃ _) hN₃ (List.mem_cons_self ..) (fun x c hm q => (List.nodup_append.mp N.nodup).2.2 c (own_cells x c hm) P (by first | exact List.mem_cons_self | exact List.mem_cons_of_mem _ List.mem_cons_self | simp) (by simpa using q)) N₃ st₃ ⟨rfl, t, [], rfl, .nil, rfl, fun x hx => by cases hx⟩ (fits (by decide))
    ["pool"] (by (repeat' (first | exact List.forall_mem_nil _ | refine List.forall_mem_cons.mpr ⟨⟨rfl, rfl, rfl⟩, ?_⟩))) (fun _ => rfl) (by decide +kernel) (fun C => canL (List.mem_cons_self ..)) ?_ ?_
  · intro Cc D i B₉ m₂ psN psW₁ ys h₂₁ tk₂₀ E' _ _ hi _ le9 _ zz17 zz18 F
    try (first | (refine hideC F ?_; intro hE9 hO9 hQ9 F) | (refine hideQ ?_; intro hQ9))
    first | (refine ob0_7 (zz17) fun zr790 t9 xs zr791 hxs hxl hxb => ?_; try clear zz17; subst zr790; subst zr791) | obtain ⟨rfl, t9, xs, rfl, hxs, hxl, hxb⟩ := zz17
    first | (refine ob1_2 (zz18) fun _ zn792 zr794 => ?_; try clear zz18; refine ob1_1 zn792 fun ti zr793 => ?_; clear zn792; subst zr793; subst zr794) | (refine ob0_3 (zz18) fun _ zn795 zr797 => ?_; try clear zz18; refine ob1_1 zn795 fun ti zr796 => ?_; clear zn795; subst zr796; subst zr797) | obtain ⟨_, ⟨ti, rfl⟩, rfl⟩ := zz18
    try (refine hideM F ?_; intro hM9 F)
    refine tests_nil ?_
    refine iteT rfl ?_
    refine wpAny_BinOp (Call_ ?_)
    walk_at "N"
    refine callF T₈ (by k_dflt k_is) (args_cons ?_)
    walk_at "N"
    refine args_cons (cI fun _ tk₂₁ => args_nil ⟨F.sub.of_le le9, ?_⟩)
    refine draw_ok (k := 14 + i) (T₈.le le9) F.sub ((R.deeper _).le (Nat.le_of_ble_eq_true rfl)) (F.ents (P, LstP [.ref D₂, .int (14 + i : Nat) t9]) (List.mem_append_left _ (List.mem_append_left _ (List.mem_append_right _ (List.mem_singleton.mpr rfl))))) (F.apart P (by first | exact List.mem_cons_self | exact List.mem_cons_of_mem _ List.mem_cons_self | simp)) (le9 _ _ eD8) g hcs' (by exact om301 hi) (by decide) fun B₁₀ h₂₂ tk₂₂ d td t10 X e10 hd0 hd5 => ?_
    have nd := F.nodup
    have nO : ∀ a ∈ cownOf _ Cc, a ∉ [P] := fun a ha q => (List.nodup_append.mp nd).2.2 a ha P (by first | exact List.mem_cons_self | exact List.mem_cons_of_mem _ List.mem_cons_self | simp) (List.mem_singleton.mp q)
    have F₁ := F.extW (ps' := ([] ++ [(P, LstP [.ref D₂, .int (14 + i + 1 : Nat) t10])] ++ [(D, LstP ys)]) ++ Hold h₂₁ [I₃]) X (nO _ (List.mem_cons_self ..))
      (fun y c hm q => by
        have hm : (y, c) ∈ [(("pool" : Str), L + 1)] := hm
        rw [List.mem_singleton] at hm q
        cases hm
        exact nPc q.symm) nO (fun a ha => by rw [List.mem_singleton.mp ha]; simp) (by first | exact List.mem_cons_self | exact List.mem_cons_of_mem _ List.mem_cons_self | simp) (fun p hp => by
        rcases List.mem_append.mp hp with z | z
        · rcases List.mem_append.mp z with z | z
          · have z : p = (P, LstP [.ref D₂, .int (14 + i + 1 : Nat) t10]) := by simpa using z
            rw [z]; exact e10
          · rw [List.mem_singleton.mp z]
            first | (refine ob2_1 (F.ents (D, LstP ys) (by first | exact List.mem_cons_self | exact List.mem_cons_of_mem _ List.mem_cons_self | simp)) fun o eo po => ?_) | (refine ob1_2 (F.ents (D, LstP ys) (by first | exact List.mem_cons_self | exact List.mem_cons_of_mem _ List.mem_cons_self | simp)) fun o eo po => ?_) | (refine ob0_3 (F.ents (D, LstP ys) (by first | exact List.mem_cons_self | exact List.mem_cons_of_mem _ List.mem_cons_self | simp)) fun o eo po => ?_) | obtain ⟨o, eo, po⟩ := F.ents (D, LstP ys) (by first | exact List.mem_cons_self | exact List.mem_cons_of_mem _ List.mem_cons_self | simp)
            refine ⟨o, X.keep _ _ (fun q => ?_) eo, po⟩
            have := (List.nodup_append.mp nd).2.1
            simp at this q
            exact this.1.1 q.symm
        · first | (refine ob2_1 (F.ents p (List.mem_append_right _ z)) fun o eo po => ?_) | (refine ob1_2 (F.ents p (List.mem_append_right _ z)) fun o eo po => ?_) | (refine ob0_3 (F.ents p (List.mem_append_right _ z)) fun o eo po => ?_) | obtain ⟨o, eo, po⟩ := F.ents p (List.mem_append_right _ z)
          refine ⟨o, X.keep _ _ (fun q => ?_) eo, po⟩
          have h2 := (List.nodup_append.mp nd).2.1
          rw [List.map_append] at h2
          exact (List.nodup_append.mp h2).2.2 P (by first | exact List.mem_cons_self | exact List.mem_cons_of_mem _ List.mem_cons_self | simp) p.1 (List.mem_map_of_mem (f := fun p : Ent => p.1) z) (List.mem_singleton.mp q).symm)
    refine cI fun _ tk₂₃ => subI fun t11 tk₂₄ => ?_
    exact exI6 B₁₀ _ [] ([(P, LstP [.ref D₂, .int (14 + i + 1 : Nat) t10])]) h₂₂ _ ⟨rfl, X.le, rfl, ⟨rfl, t10, xs ++ [d - 2], rfl, pAppend hxs (.cons ⟨_, rfl⟩ .nil), by simp [hxl], fun x hx => by
      rcases List.mem_append.mp hx with q | q
      · exact hxb x q
      · rw [List.mem_singleton.mp q]; exact om302 hd0 hd5⟩, mc_upd rfl, F₁⟩
  intro Cc D B₉ psN psW₂ ys h₂₁ tk₂₀ hD hCc le9 _ zz12 _ F
  try (first | (refine hideC F ?_; intro hE9 hO9 hQ9 F) | (refine hideQ ?_; intro hQ9))
  first | (refine ob0_7 (zz12) fun zr798 t9 aim zr799 haim haiml haimb => ?_; try clear zz12; subst zr798; subst zr799) | obtain ⟨rfl, t9, aim, rfl, haim, haiml, haimb⟩ := zz12
  try (refine hideM F ?_; intro hM9 F)
  have nC := N₃.newW (wr := [Cc]) fun a ha => by rw [List.mem_singleton.mp ha]; exact none_ge hCc
  refine comp_some' "aim" F (List.mem_cons_self ..) (fun x c hc q => nC.2 x c hc (List.mem_singleton.mpr q)) (nC.1 _ (List.mem_singleton.mpr rfl)) (canL (List.mem_cons_self ..)) fun h₂₂ tk₂₁ F₁ => ?_
  first | (refine ob2_2 (Fm.freeze (ps := [(P, LstP [.ref D₂, .int (14 + 4 : Nat) t9]), (C, LstP rvs)]) F₁ (by first | exact List.mem_cons_self | exact List.mem_cons_of_mem _ List.mem_cons_self | simp)) fun B₁₀ le10 zn724 F₂ => ?_; obtain ⟨oA, eA, cA, rfl⟩ := zn724) | (refine ob1_3 (Fm.freeze (ps := [(P, LstP [.ref D₂, .int (14 + 4 : Nat) t9]), (C, LstP rvs)]) F₁ (by first | exact List.mem_cons_self | exact List.mem_cons_of_mem _ List.mem_cons_self | simp)) fun B₁₀ le10 zn725 F₂ => ?_; obtain ⟨oA, eA, cA, rfl⟩ := zn725) | (refine ob0_4 (Fm.freeze (ps := [(P, LstP [.ref D₂, .int (14 + 4 : Nat) t9]), (C, LstP rvs)]) F₁ (by first | exact List.mem_cons_self | exact List.mem_cons_of_mem _ List.mem_cons_self | simp)) fun B₁₀ le10 zn726 F₂ => ?_; obtain ⟨oA, eA, cA, rfl⟩ := zn726) | obtain ⟨B₁₀, le10, ⟨oA, eA, cA, rfl⟩, F₂⟩ := Fm.freeze (ps := [(P, LstP [.ref D₂, .int (14 + 4 : Nat) t9]), (C, LstP rvs)]) F₁ (by first | exact List.mem_cons_self | exact List.mem_cons_of_mem _ List.mem_cons_self | simp)
  have haimV : IntsV B₁₀ aim (.ref D) := (LVm (eA) (haim))
  have hrv10 := pMono IntsV.mono (le8.trans (le9.trans le10)) hrv
  have F₃ := (F₂.drop (ps' := [(C, LstP rvs)]) (by first | exact List.mem_cons_self | exact List.mem_cons_of_mem _ List.mem_cons_self | simp)).forget (m' := mL [("form", .int form tf), ("columns", .ref C), ("many", .int (m0 - 1) t₇), ("aim", .ref D)]) (mL_known (by exact rfl))
  obtain ⟨r0, r1, r2, rfl⟩ : ∃ a b c, rows = [a, b, c] := by
    match rows, hrl with
    | [a, b, c], _ => exact ⟨a, b, c, rfl⟩
  have hr0 := hrd r0 (by first | exact List.mem_cons_self | exact List.mem_cons_of_mem _ List.mem_cons_self | simp)
  have hr1 := hrd r1 (by first | exact List.mem_cons_self | exact List.mem_cons_of_mem _ List.mem_cons_self | simp)
  have hr2 := hrd r2 (by first | exact List.mem_cons_self | exact List.mem_cons_of_mem _ List.mem_cons_self | simp)
  have sm2 : ∀ {x : Int}, -2 ≤ x ∧ x ≤ 2 → Sm 2 x := fun {x} hx => by unfold Sm; exact om303 hx
  have sm3 : ∀ {x : Int}, -4 ≤ x → x ≤ 4 → Sm 3 x := fun {x} h1 h2 => by unfold Sm; exact om304 h1 h2
  cases hrv10 with
  | cons hv0 hrest =>
  rename_i v0 rvs1
  cases hrest with
  | cons hv1 hrest =>
  rename_i v1 rvs2
  cases hrest with
  | cons hv2 hrest =>
  rename_i v2 rvs3
  cases hrest
  have hv0' := hv0
  first | (refine ob3_3 (hv0) fun l0 w0 cw0 zr727 hl0 hp0 => ?_; try clear hv0; subst zr727) | (refine ob2_4 (hv0) fun l0 w0 cw0 zr728 hl0 hp0 => ?_; try clear hv0; subst zr728) | (refine ob1_5 (hv0) fun l0 w0 cw0 zr729 hl0 hp0 => ?_; try clear hv0; subst zr729) | (refine ob0_6 (hv0) fun l0 w0 cw0 zr730 hl0 hp0 => ?_; try clear hv0; subst zr730) | obtain ⟨l0, w0, cw0, rfl, hl0, hp0⟩ := hv0
  have lw0 : w0.length = 4 := by rw [pLen hp0]; exact hr0.1
  refine wpAny_execs_cons (wpAny_mono (Q := fun f s' => f = .next ∧ ∃ B' h' tk' x1 v1', s' = mk s h' tk' ∧ B₁₀.le B' ∧ F₃.like B' (mL [("form", .int form tf), ("columns", .ref C), ("many", .int (m0 - 1) t₇), ("aim", .ref D)]) [(C, LstP [.ref l0, v1', v2])] h' ∧
    IntsV B' x1 v1' ∧ x1.length = 4 ∧ (∀ x ∈ x1, Sm 3 x) ∧ (form ≠ 0 → x1 = r1)) (E := fun _ _ => False) ?_ ?_ fun _ _ e => e)
  · refine wpAny_If (wpAny_isTrue_Compare1 ?_)
    walk_at "N"
    refine cI fun _ tk₂₂ => PyProof.Rows.eq_int (wpAny_truthy_bool ?_)
    by_cases hf : form = 0
    · refine iteT (by rw [hf]; rfl) ?_
      refine wpAny_execs_cons (wpAny_Assign_Subscript ?_)
      try (refine hideQ ?_; intro hQ9)
      refine' comp_start [("many", L + 1 + 1 + 1)] ?hcl4 ?hk4 ?hn4 ?hg4 ?hs4
      case hcl4 => rfl
      case hk4 => rfl
      case hn4 => decide
      case hs4 => exact fun _ => rfl
      refine Subscript_ ?_
      walk_at "N"
      refine cI fun _ tk₂₃ => itemL (F₃.plain (a := C) (List.mem_singleton.mpr rfl)) (by decide) (by decide) rfl ?_
      refine iterL "number" R.quiet F₃ hl0 fun h₂₃ I₄ IT₄ hN₄ st₄ F₄ => ?_
      refine comp_pure (fun i B₁ ys => Paired (IntV B₁) ((r0.map fun x => (m0 - 1) * x).take i) ys) (IT₄ _) hN₄ st₄ F₄ (List.mem_cons_self ..) (by simpa using Paired.nil)
        (fun _ _ _ _ g => g) (fits (by exact om266 lw0)) ["many"] (by (repeat' (first | exact List.forall_mem_nil _ | refine List.forall_mem_cons.mpr ⟨⟨rfl, rfl, rfl⟩, ?_⟩))) (fun _ => rfl) (by decide +kernel) (fun C => canL (List.mem_cons_self ..)) ?_ ?_
      · intro Cc D' i B₁₁ m₂ ys h₂₄ tk₂₄ E' hi _ le11 g' zz13 G
        try (first | (refine hideC G ?_; intro hE9 hO9 hQ9 G) | (refine hideQ ?_; intro hQ9))
        first | (refine ob2_1 (zz13) fun y hy zr800 => ?_; try clear zz13; subst zr800) | (refine ob1_2 (zz13) fun y hy zr801 => ?_; try clear zz13; subst zr801) | (refine ob0_3 (zz13) fun y hy zr802 => ?_; try clear zz13; subst zr802) | obtain ⟨y, hy, rfl⟩ := zz13
        try (refine hideM G ?_; intro hM9 G)
        refine tests_nil ?_
        refine iteT rfl ?_
        first | (refine ob1_2 (pGet' hp0 hy) fun x hx1 zq => ?_; refine ob1_1 zq fun tx zr => ?_; clear zq; subst zr) | (refine ob3_1 (pGet' hp0 hy) fun x hx1 tx zr731 => ?_; subst zr731) | (refine ob2_2 (pGet' hp0 hy) fun x hx1 tx zr732 => ?_; subst zr732) | (refine ob1_3 (pGet' hp0 hy) fun x hx1 tx zr733 => ?_; subst zr733) | (refine ob0_4 (pGet' hp0 hy) fun x hx1 tx zr734 => ?_; subst zr734) | obtain ⟨x, hx1, tx, rfl⟩ := pGet' hp0 hy
        refine wpAny_BinOp ?_
        walk_at "N"
        walk_at "N"
        refine mulI (k := 2) (sm2 (by exact om305 hm0 hm4)) (sm2 (hr0.2 x (List.mem_of_getElem? hx1))) (by decide) (by decide) fun _ tk₂₅ => ?_
        exact exI4 B₁₁ _ h₂₄ _ ⟨rfl, .rfl, pSnocTake g' (by rw [List.getElem?_map, hx1]; rfl) ⟨_, rfl⟩, mc_upd rfl, G⟩
      intro Cc D' B₁₁ c₁₁ ys h₂₄ tk₂₄ hC11 le11 g' _ eD' G
      refine comp_none G (List.mem_cons_self ..) (fun x c hc q => hC11.2 x c hc (List.mem_singleton.mpr q)) (hC11.1 _ (List.mem_singleton.mpr rfl)) fun h₂₅ G₁ => ?_
      walk_at "N"
      refine cI fun _ tk₂₆ => setP [] G₁ (by decide) (by decide) (by show (1 : Nat) < 3; decide) fun h₂₆ G₂ => wpAny_execs_nil ?_
      refine ⟨rfl, exI5 B₁₁ h₂₆ _ (r0.map fun x => (m0 - 1) * x) (.ref D') ⟨rfl, le11, G₂, (LVm (eD') (pWhole g' (by rw [List.length_map, lw0]; exact hr0.1.symm))), by rw [List.length_map]; exact hr0.1, fun x hx => ?_, fun q => absurd hf q⟩⟩
      first | (refine ob2_1 (List.mem_map.mp hx) fun y hy zr735 => ?_; subst zr735) | (refine ob1_2 (List.mem_map.mp hx) fun y hy zr736 => ?_; subst zr736) | (refine ob0_3 (List.mem_map.mp hx) fun y hy zr737 => ?_; subst zr737) | obtain ⟨y, hy, rfl⟩ := List.mem_map.mp hx
      have hy2 := hr0.2 y hy
      unfold Sm
      rw [Int.natAbs_mul]
      have h1 : (m0 - 1).natAbs ≤ 2 := by exact om306 hm0 hm4
      have h2 : y.natAbs ≤ 2 := by exact om307 hy2
      have := Nat.mul_le_mul h1 h2
      exact om308 this
    · refine iteF (by simpa using hf) ?_
      refine wpAny_execs_nil ?_
      exact ⟨rfl, exI5 B₁₀ h₂₂ _ r1 v1 ⟨rfl, .rfl, F₃, hv1, hr1.1, fun x hx => (sm2 (hr1.2 x hx)).le (by decide), fun _ => rfl⟩⟩
  rintro f s' ⟨rfl, B₁₁, h₂₃, tk₂₂, x1, v1', rfl, le11, F₄, hv1', lx1, sx1, hx1r⟩
  have hv1'' := hv1'
  first | (refine ob3_3 (hv1') fun l1 w1 cw1 zr738 hl1 hp1 => ?_; try clear hv1'; subst zr738) | (refine ob2_4 (hv1') fun l1 w1 cw1 zr739 hl1 hp1 => ?_; try clear hv1'; subst zr739) | (refine ob1_5 (hv1') fun l1 w1 cw1 zr740 hl1 hp1 => ?_; try clear hv1'; subst zr740) | (refine ob0_6 (hv1') fun l1 w1 cw1 zr741 hl1 hp1 => ?_; try clear hv1'; subst zr741) | obtain ⟨l1, w1, cw1, rfl, hl1, hp1⟩ := hv1'
  have lw1 : w1.length = 4 := by rw [pLen hp1]; exact lx1
  refine wpAny_execs_cons (wpAny_mono (Q := fun f s' => f = .next ∧ ∃ B' h' tk' x2 v2', s' = mk s h' tk' ∧ B₁₁.le B' ∧ F₃.like B' (mL [("form", .int form tf), ("columns", .ref C), ("many", .int (m0 - 1) t₇), ("aim", .ref D)]) [(C, LstP [.ref l0, .ref l1, v2'])] h' ∧
    IntsV B' x2 v2' ∧ x2.length = 4 ∧ (∀ x ∈ x2, Sm 3 x)) (E := fun _ _ => False) ?_ ?_ fun _ _ e => e)
  · refine wpAny_If (wpAny_isTrue_Compare1 ?_)
    walk_at "N"
    refine cI fun _ tk₂₃ => PyProof.Rows.eq_int (wpAny_truthy_bool ?_)
    by_cases hf : form = 2
    · refine iteT (by rw [hf]; rfl) ?_
      have hx1e := hx1r (by exact om309 hf)
      subst hx1e
      refine wpAny_execs_cons (wpAny_Assign_Subscript ?_)
      try (refine hideQ ?_; intro hQ9)
      refine' comp_start [("columns", L + 1 + 1)] ?hcl5 ?hk5 ?hn5 ?hg5 ?hs5
      case hcl5 => rfl
      case hk5 => rfl
      case hn5 => decide
      case hs5 => exact fun _ => rfl
      refine Call_ ?_
      walk_at "N"
      refine cType (args_cons (Subscript_ ?_))
      walk_at "N"
      refine cI fun _ tk₂₄ => itemL (F₄.plain (a := C) (List.mem_singleton.mpr rfl)) (by decide) (by decide) rfl ?_
      refine args_nil (enumL "at" "number" R.quiet F₄ (le11 _ _ hl0) fun h₂₄ e it IT₄ hN₄ st₄ F₅ => ?_)
      refine (IT₄ default default 0 default).self 0 (mk s h₂₄ _) _ _ st₄ ?_
      have F5h := F₅.hide (List.mem_cons_self ..) hN₄.2 hN₄.1
      have plC := F5h.plain (a := C) (vs := [.ref l0, .ref l1, v2]) (by first | exact List.mem_cons_self | exact List.mem_cons_of_mem _ List.mem_cons_self | simp)
      refine comp_pure (fun i B₁ ys => Paired (IntV B₁) ((List.zipWith (fun x y => x + y) r0 x1).take i) ys) (IT₄ _ _ _ _) hN₄ st₄ F₅ (List.mem_cons_self ..) (by simpa using Paired.nil)
        (fun _ _ _ _ g => g) (fits (by exact om266 lw0)) ["columns"] (by (repeat' (first | exact List.forall_mem_nil _ | refine List.forall_mem_cons.mpr ⟨⟨rfl, rfl, rfl⟩, ?_⟩))) (fun _ => rfl) (by decide +kernel) (fun C => ⟨canL (List.mem_cons_self ..), canL (List.mem_cons_self ..)⟩) ?_ ?_
      · intro Cc D' i B₁₂ m₂ ys h₂₅ tk₂₅ E' hi _ le12 g' zz13 G
        try (first | (refine hideC G ?_; intro hE9 hO9 hQ9 G) | (refine hideQ ?_; intro hQ9))
        first | (refine ob1_2 (zz13) fun _ y zq => ?_; refine ob1_1 zq fun ⟨ti, hy, rfl⟩ zr => ?_; clear zq; subst zr) | (refine ob2_2 (zz13) fun _ y zn803 zr804 => ?_; try clear zz13; obtain ⟨ti, hy, rfl⟩ := zn803; subst zr804) | (refine ob1_3 (zz13) fun _ y zn805 zr806 => ?_; try clear zz13; obtain ⟨ti, hy, rfl⟩ := zn805; subst zr806) | (refine ob0_4 (zz13) fun _ y zn807 zr808 => ?_; try clear zz13; obtain ⟨ti, hy, rfl⟩ := zn807; subst zr808) | obtain ⟨_, y, ⟨ti, hy, rfl⟩, rfl⟩ := zz13
        try (refine hideM G ?_; intro hM9 G)
        refine tests_nil ?_
        refine iteT rfl ?_
        first | (refine ob1_2 (pGet' hp0 hy) fun x hx1 zq => ?_; refine ob1_1 zq fun tx zr => ?_; clear zq; subst zr) | (refine ob3_1 (pGet' hp0 hy) fun x hx1 tx zr742 => ?_; subst zr742) | (refine ob2_2 (pGet' hp0 hy) fun x hx1 tx zr743 => ?_; subst zr743) | (refine ob1_3 (pGet' hp0 hy) fun x hx1 tx zr744 => ?_; subst zr744) | (refine ob0_4 (pGet' hp0 hy) fun x hx1 tx zr745 => ?_; subst zr745) | obtain ⟨x, hx1, tx, rfl⟩ := pGet' hp0 hy
        have hi1 : i < x1.length := by exact om310 lw0 lx1 hi
        first | (refine ob1_2 (pGet hp1 (get_getD 0 hi1)) fun z hz1 zq => ?_; refine ob1_1 zq fun tz zr => ?_; clear zq; subst zr) | (refine ob3_1 (pGet hp1 (get_getD 0 hi1)) fun z hz1 tz zr746 => ?_; subst zr746) | (refine ob2_2 (pGet hp1 (get_getD 0 hi1)) fun z hz1 tz zr747 => ?_; subst zr747) | (refine ob1_3 (pGet hp1 (get_getD 0 hi1)) fun z hz1 tz zr748 => ?_; subst zr748) | (refine ob0_4 (pGet hp1 (get_getD 0 hi1)) fun z hz1 tz zr749 => ?_; subst zr749) | obtain ⟨z, hz1, tz, rfl⟩ := pGet hp1 (get_getD 0 hi1)
        have plG : h₂₅.PlainList C [.ref l0, .ref l1, v2].toArray := plC.at fun o e => G.keep C o (by first | exact List.mem_cons_self | exact List.mem_cons_of_mem _ List.mem_cons_self | simp) e
        refine wpAny_BinOp ?_
        walk_at "N"
        refine Subscript_ (Subscript_ ?_)
        walk_at "N"
        refine cI fun _ tk₂₆ => itemL plG (by decide) (by decide) rfl ?_
        walk_at "N"
        refine itemL (pln_of G.sub (le12 _ _ hl1)) (by exact om23) (by exact om311 lx1 hi1) (by rw [Int.toNat_natCast]; exact hz1) (addI fun _ tk₂₇ => ?_)
        exact exI4 B₁₂ _ h₂₅ _ ⟨rfl, .rfl, pSnocTake g' (by rw [List.getElem?_zipWith, hx1, get_getD 0 hi1]) ⟨_, rfl⟩, mc_upd2 rfl rfl, G⟩
      intro Cc D' B₁₂ c₁₂ ys h₂₅ tk₂₅ hC12 le12 g' _ eD' G
      refine comp_none G (List.mem_cons_self ..) (fun x c hc q => hC12.2 x c hc (List.mem_singleton.mpr q)) (hC12.1 _ (List.mem_singleton.mpr rfl)) fun h₂₆ G₁ => ?_
      walk_at "N"
      refine cI fun _ tk₂₈ => setP [] G₁ (by decide) (by decide) (by show (2 : Nat) < 3; decide) fun h₂₇ G₂ => wpAny_execs_nil ?_
      have l0' := hr0.1
      refine ⟨rfl, exI5 B₁₂ h₂₇ _ (List.zipWith (fun x y => x + y) r0 x1) (.ref D') ⟨rfl, le12, G₂, (LVm (eD') (pWhole g' (by rw [List.length_zipWith]; omega))), by rw [List.length_zipWith]; (first | with_reducible assumption | with_reducible exact Int.natCast_nonneg _ | lia | omega), fun x hx => ?_⟩⟩
      first | (refine ob1_1 (List.mem_iff_getElem?.mp hx) fun i hi => ?_) | (refine ob0_2 (List.mem_iff_getElem?.mp hx) fun i hi => ?_) | obtain ⟨i, hi⟩ := List.mem_iff_getElem?.mp hx
      rw [List.getElem?_zipWith] at hi
      cases ha : r0[i]? with
      | none => rw [ha] at hi; simp at hi
      | some p =>
        cases hb : x1[i]? with
        | none => rw [ha, hb] at hi; simp at hi
        | some q =>
          rw [ha, hb] at hi
          simp at hi
          have h1 := hr0.2 p (List.mem_of_getElem? ha)
          have h2 := hr1.2 q (List.mem_of_getElem? hb)
          exact sm3 (by exact om312 hi h1 h2) (by exact om313 hi h1 h2)
    · refine iteF (by simpa using hf) ?_
      refine wpAny_execs_nil ?_
      exact ⟨rfl, exI5 B₁₁ h₂₃ _ r2 v2 ⟨rfl, .rfl, F₄, IntsV.mono _ _ _ _ le11 hv2, hr2.1, fun x hx => (sm2 (hr2.2 x hx)).le (by decide)⟩⟩
  rintro f s' ⟨rfl, B₁₂, h₂₄, tk₂₃, x2, v2', rfl, le12, F₅, hv2', lx2, sx2⟩
  have sr0 : ∀ x ∈ r0, Sm 3 x := fun x hx => (sm2 (hr0.2 x hx)).le (by decide)
  have saim : ∀ x ∈ aim, Sm 3 x := fun x hx => (sm2 (haimb x hx)).le (by decide)
  first | (refine ob2_1 (plain r0 x1 x2 aim hr0.1 lx1 lx2 haiml sr0 sx1 sx2 saim) fun fine3 fine2 hend => ?_) | (refine ob1_2 (plain r0 x1 x2 aim hr0.1 lx1 lx2 haiml sr0 sx1 sx2 saim) fun fine3 fine2 hend => ?_) | (refine ob0_3 (plain r0 x1 x2 aim hr0.1 lx1 lx2 haiml sr0 sx1 sx2 saim) fun fine3 fine2 hend => ?_) | obtain ⟨fine3, fine2, hend⟩ := plain r0 x1 x2 aim hr0.1 lx1 lx2 haiml sr0 sx1 sx2 saim
  first | (refine ob2_2 (F₅.freeze (by first | exact List.mem_cons_self | exact List.mem_cons_of_mem _ List.mem_cons_self | simp)) fun B₁₃ le13 zn750 F₆ => ?_; obtain ⟨oC, eC, cC, rfl⟩ := zn750) | (refine ob1_3 (F₅.freeze (by first | exact List.mem_cons_self | exact List.mem_cons_of_mem _ List.mem_cons_self | simp)) fun B₁₃ le13 zn751 F₆ => ?_; obtain ⟨oC, eC, cC, rfl⟩ := zn751) | (refine ob0_4 (F₅.freeze (by first | exact List.mem_cons_self | exact List.mem_cons_of_mem _ List.mem_cons_self | simp)) fun B₁₃ le13 zn752 F₆ => ?_; obtain ⟨oC, eC, cC, rfl⟩ := zn752) | obtain ⟨B₁₃, le13, ⟨oC, eC, cC, rfl⟩, F₆⟩ := F₅.freeze (by first | exact List.mem_cons_self | exact List.mem_cons_of_mem _ List.mem_cons_self | simp)
  have le10' := le11.trans (le12.trans le13)
  have hcols : IMatV B₁₃ [r0, x1, x2] (.ref C) := (LVm (eC) (.cons (IntsV.mono _ _ _ _ le10' hv0') (.cons (IntsV.mono _ _ _ _ (le12.trans le13) hv1'') (.cons (IntsV.mono _ _ _ _ le13 hv2') .nil))))
  have haim3 := IntsV.mono _ _ _ _ le10' haimV
  have T₁₃ := T.le F₆.mono
  refine wpAny_execs_cons (Assign_Tuple (Tuple_ (args_cons (Call_ ?_))))
  try (refine hideQ ?_; intro hQ9)
  walk_at "N"
  refine callF T₁₃ (by k_dflt k_is) (args_cons ?_)
  walk_at "N"
  refine args_cons ?_
  walk_at "N"
  refine args_nil ⟨F₆.sub, ?_⟩
  refine looked_ok T₁₃ F₆.sub ((R.deeper _).le (Nat.le_of_ble_eq_true rfl)) hcols haim3 fine3 fun B₁₄ h₂₅ tk₂₄ tw lw tw1 tw2 X₄ etw hlw => ?_
  have F₇ := F₆.ext X₄
  have T₁₄ := T.le F₇.mono
  have eC4 := X₄.le _ _ eC
  refine args_cons (Call_ ?_)
  walk_at "N"
  refine callF T₁₄ (by k_dflt k_is) (args_cons (List_ (args_cons (Subscript_ ?_))))
  walk_at "N"
  refine cI fun _ tk₂₅ => itemL (pln_of F₇.sub eC4) (by decide) (by decide) rfl (args_cons (Subscript_ ?_))
  walk_at "N"
  refine cI fun _ tk₂₆ => itemL (pln_of F₇.sub eC4) (by decide) (by decide) rfl (args_nil ?_)
  refine mkLstB F₇ fun B₁₅ h₂₆ l₁₅ le15 e₁₅ F₈ => args_cons ?_
  walk_at "N"
  refine args_nil ⟨F₈.sub.of_le le15, ?_⟩
  have hcols2 : IMatV B₁₅ [r0, x2] (.ref l₁₅) := (LVm (e₁₅) (.cons (IntsV.mono _ _ _ _ (le10'.trans (X₄.le.trans le15)) hv0') (.cons (IntsV.mono _ _ _ _ (le13.trans (X₄.le.trans le15)) hv2') .nil)))
  refine looked_ok (T.le F₈.mono) F₈.sub ((R.deeper _).le (Nat.le_of_ble_eq_true rfl)) hcols2 (IntsV.mono _ _ _ _ (X₄.le.trans le15) haim3) fine2 fun B₁₆ h₂₇ tk₂₇ tl ll tl1 tl2 X₅ etl hll => ?_
  have F₉ := F₈.ext X₅
  first | (refine ob2_1 (fine_sm fine3) fun slw llw stw => ?_) | (refine ob1_2 (fine_sm fine3) fun slw llw stw => ?_) | (refine ob0_3 (fine_sm fine3) fun slw llw stw => ?_) | obtain ⟨slw, llw, stw⟩ := fine_sm fine3
  first | (refine ob2_1 (fine_sm fine2) fun sll lll stl => ?_) | (refine ob1_2 (fine_sm fine2) fun sll lll stl => ?_) | (refine ob0_3 (fine_sm fine2) fun sll lll stl => ?_) | obtain ⟨sll, lll, stl⟩ := fine_sm fine2
  unfold EndOk at hend
  generalize leftOf [r0, x1, x2] aim = LW, leftOf [r0, x2] aim = LL, prodDen (qsol [r0, x1, x2] aim) = TW, prodDen (qsol [r0, x2] aim) = TL, rankOf [r0, x1, x2] 4 = RW, rankOf [r0, x2] 4 = RL at *
  refine args_nil (mkTup F₉ fun B₁₇ h₂₈ t₁₇ le17 et₁₇ F₁₀ => ?_)
  have etw' := le17 _ _ (X₅.le _ _ (le15 _ _ etw))
  have etl' := le17 _ _ etl
  have hlw' : IntsV B₁₇ LW lw := IntsV.mono _ _ _ _ (le15.trans (X₅.le.trans le17)) hlw
  have hll' : IntsV B₁₇ LL ll := IntsV.mono _ _ _ _ le17 hll
  refine asgT R.quiet F₁₀ et₁₇ rfl rfl fun h₂₉ F₁₁ => ?_
  refine assignInOrder_cons (wpAny_assign_Name ?_)
  walk_at "storeName"
  intro h₃₀ tk₂₈ F₁₂
  refine assignInOrder_cons (wpAny_assign_Name ?_)
  walk_at "storeName"
  intro h₃₁ tk₂₉ F₁₃
  have T₁₇ := T.le F₁₃.mono
  refine assignInOrder_nil ?_
  refine wpAny_execs_cons (wpAny_If (isTrue_or (wpAny_isTrue_Compare1 ?_)))
  try (refine hideQ ?_; intro hQ9)
  walk_at "N"
  refine cNone (is_none_ne (by first | exact List.mem_cons_self | exact List.mem_cons_of_mem _ List.mem_cons_self | simp) (wpAny_truthy_bool ?_))
  refine iteF (by decide) ?_
  refine isTrue_or (wpAny_isTrue_Compare1 ?_)
  walk_at "N"
  refine cNone (is_none_ne (by first | exact List.mem_cons_self | exact List.mem_cons_of_mem _ List.mem_cons_self | simp) (wpAny_truthy_bool ?_))
  refine iteF (by decide) ?_
  refine isTrue_or_nil ?_
  refine iteF (by decide) ?_
  refine wpAny_execs_nil ?_
  refine wpAny_execs_cons ?_
  try (refine hideQ ?_; intro hQ9)
  refine Assign_Tuple_swapped (names := ["far", "near"]) ?_
  refine Tuple_ ?_
  refine args_cons ?_
  refine wpAny_BinOp ?_
  refine wpAny_BinOp ?_
  refine Subscript_ ?_
  walk_at "N"
  refine cI fun _ tk₃₀ => itemT F₁₃ etw' (by decide) (by decide) rfl (Subscript_ ?_)
  walk_at "N"
  refine cI fun _ tk₃₁ => itemT F₁₃ etw' (by decide) (by decide) rfl (mulI stw stw (by decide) (by decide) fun _ tk₃₂ => Call_ ?_)
  walk_at "N"
  refine callF T₁₇ (by k_dflt k_is) (args_cons (Subscript_ ?_))
  walk_at "N"
  refine cI fun _ tk₃₃ => itemT F₁₃ etl' (by decide) (by decide) rfl (args_cons (Subscript_ ?_))
  walk_at "N"
  refine cI fun _ tk₃₄ => itemT F₁₃ etl' (by decide) (by decide) rfl (args_nil ⟨F₁₃.sub, ?_⟩)
  refine by_ok T₁₇ F₁₃.sub ((R.deeper _).le (Nat.le_of_ble_eq_true rfl)) hll' hll' rfl (by exact om266 lll) sll sll (by decide) (by decide) fun B₁₈ h₃₂ tk₃₅ _ X₆ => ?_
  have F₁₄ := F₁₃.ext X₆
  have etw8 := X₆.le _ _ etw'
  have etl8 := X₆.le _ _ etl'
  have T₁₈ := T.le F₁₄.mono
  refine mulI (k := 40000) (l := 90000) ((stw.mul stw).le (by decide)) ((dot_sm sll sll (by rw [lll]; exact Nat.le_refl _)).le (by decide)) (by decide) (by decide) fun t₁₈ tk₃₆ => ?_
  refine args_cons (wpAny_BinOp (wpAny_BinOp (Subscript_ ?_)))
  walk_at "N"
  refine cI fun _ tk₃₇ => itemT F₁₄ etl8 (by decide) (by decide) rfl (Subscript_ ?_)
  walk_at "N"
  refine cI fun _ tk₃₈ => itemT F₁₄ etl8 (by decide) (by decide) rfl (mulI stl stl (by decide) (by decide) fun _ tk₃₉ => Call_ ?_)
  walk_at "N"
  refine callF T₁₈ (by k_dflt k_is) (args_cons (Subscript_ ?_))
  walk_at "N"
  refine cI fun _ tk₄₀ => itemT F₁₄ etw8 (by decide) (by decide) rfl (args_cons (Subscript_ ?_))
  walk_at "N"
  refine cI fun _ tk₄₁ => itemT F₁₄ etw8 (by decide) (by decide) rfl (args_nil ⟨F₁₄.sub, ?_⟩)
  have hlw8 := IntsV.mono _ _ _ _ X₆.le hlw'
  have hll8 := IntsV.mono _ _ _ _ X₆.le hll'
  refine by_ok T₁₈ F₁₄.sub ((R.deeper _).le (Nat.le_of_ble_eq_true rfl)) hlw8 hlw8 rfl (by exact om266 llw) slw slw (by decide) (by decide) fun B₁₉ h₃₃ tk₄₂ _ X₇ => ?_
  have F₁₅ := F₁₄.ext X₇
  refine mulI (k := 40000) (l := 90000) ((stl.mul stl).le (by decide)) ((dot_sm slw slw (by rw [llw]; exact Nat.le_refl _)).le (by decide)) (by decide) (by decide) fun t₁₉ tk₄₃ => args_nil ?_
  refine mkTup F₁₅ fun B₂₀ h₃₄ t₂₀ le20 et₂₀ F₁₆ => ?_
  refine unpk R.quiet F₁₆ et₂₀ rfl fun h₃₅ F₁₇ => ?_
  refine assignInOrder_cons (wpAny_bindName ?_)
  walk_at "storeName"
  intro h₃₆ tk₄₄ F₁₈
  refine assignInOrder_cons (wpAny_bindName ?_)
  walk_at "storeName"
  intro h₃₇ tk₄₅ F₁₉
  have F₂₀ := F₁₉.forget (m' := mL [("whole", .ref tw), ("less", .ref tl), ("far", .int (TW * TW * dot LL LL) t₁₈), ("near", .int (TL * TL * dot LW LW) t₁₉)]) (mL_known (by exact rfl))
  have leZ := X₇.le.trans le20
  have etw9 := leZ _ _ etw8
  have etl9 := leZ _ _ etl8
  refine assignInOrder_nil (wpAny_execs_cons (wpAny_Assign_Name (wpAny_Compare1 ?_)))
  try (refine hideQ ?_; intro hQ9)
  have hll9 := IntsV.mono _ _ _ _ leZ hll8
  have hlw9 := IntsV.mono _ _ _ _ leZ hlw8
  first | (refine ob3_3 (hll9) fun a1 y1 c1 zr753 hl1' hp1' => ?_; try clear hll9; subst zr753) | (refine ob2_4 (hll9) fun a1 y1 c1 zr754 hl1' hp1' => ?_; try clear hll9; subst zr754) | (refine ob1_5 (hll9) fun a1 y1 c1 zr755 hl1' hp1' => ?_; try clear hll9; subst zr755) | (refine ob0_6 (hll9) fun a1 y1 c1 zr756 hl1' hp1' => ?_; try clear hll9; subst zr756) | obtain ⟨a1, y1, c1, rfl, hl1', hp1'⟩ := hll9
  first | (refine ob3_3 (hlw9) fun a2 y2 c2' zr757 hl2' hp2' => ?_; try clear hlw9; subst zr757) | (refine ob2_4 (hlw9) fun a2 y2 c2' zr758 hl2' hp2' => ?_; try clear hlw9; subst zr758) | (refine ob1_5 (hlw9) fun a2 y2 c2' zr759 hl2' hp2' => ?_; try clear hlw9; subst zr759) | (refine ob0_6 (hlw9) fun a2 y2 c2' zr760 hl2' hp2' => ?_; try clear hlw9; subst zr760) | obtain ⟨a2, y2, c2', rfl, hl2', hp2'⟩ := hlw9
  have ly1 : y1.length = 4 := by rw [pLen hp1']; exact lll
  have ly2 : y2.length = 4 := by rw [pLen hp2']; exact llw
  refine' comp_start [("whole", L + 1 + 1 + 1 + 1)] ?hcl61 ?hk61 ?hn61 ?hg61 ?hs61
  case hcl61 => rfl
  case hk61 => rfl
  case hn61 => decide
  case hs61 => exact fun _ => rfl
  refine Subscript_ ?_
  walk_at "N"
  refine cI fun _ _ => itemT F₂₀ etl9 (by decide) (by decide) rfl ?_
  refine iterL "number" R.quiet F₂₀ hl1' fun h61 I61 IT61 hN61 st61 G61 => ?_
  refine comp_pure (ps := []) (fun i B₁ ys => Paired (IntV B₁) ((LL.map fun x => TW * x).take i) ys) (IT61 _) hN61 st61 G61 (List.mem_cons_self ..) (by simpa using Paired.nil)
    (fun _ _ _ _ g => g) (fits (by exact om266 ly1)) ["whole"] (by (repeat' (first | exact List.forall_mem_nil _ | refine List.forall_mem_cons.mpr ⟨⟨rfl, rfl, rfl⟩, ?_⟩))) (fun _ => rfl) (by decide +kernel) (fun C => canL (List.mem_cons_self ..)) ?_ ?_
  · intro Cc D' i Bx m₂ ys hx tkx E' hi _ lex g' zz13 G
    try (first | (refine hideC G ?_; intro hE9 hO9 hQ9 G) | (refine hideQ ?_; intro hQ9))
    first | (refine ob2_1 (zz13) fun y hy zr809 => ?_; try clear zz13; subst zr809) | (refine ob1_2 (zz13) fun y hy zr810 => ?_; try clear zz13; subst zr810) | (refine ob0_3 (zz13) fun y hy zr811 => ?_; try clear zz13; subst zr811) | obtain ⟨y, hy, rfl⟩ := zz13
    try (refine hideM G ?_; intro hM9 G)
    refine tests_nil ?_
    refine iteT rfl ?_
    first | (refine ob1_2 (pGet' hp1' hy) fun x hx1 zq => ?_; refine ob1_1 zq fun tx zr => ?_; clear zq; subst zr) | (refine ob3_1 (pGet' hp1' hy) fun x hx1 tx zr761 => ?_; subst zr761) | (refine ob2_2 (pGet' hp1' hy) fun x hx1 tx zr762 => ?_; subst zr762) | (refine ob1_3 (pGet' hp1' hy) fun x hx1 tx zr763 => ?_; subst zr763) | (refine ob0_4 (pGet' hp1' hy) fun x hx1 tx zr764 => ?_; subst zr764) | obtain ⟨x, hx1, tx, rfl⟩ := pGet' hp1' hy
    refine wpAny_BinOp (Subscript_ ?_)
    walk_at "N"
    refine cI fun _ _ => itemT G (lex _ _ etw9) (by decide) (by decide) rfl ?_
    walk_at "N"
    refine mulI stw (sll x (List.mem_of_getElem? hx1)) (by decide) (by decide) fun _ _ => ?_
    exact exI4 Bx _ hx _ ⟨rfl, .rfl, pSnocTake g' (by rw [List.getElem?_map, hx1]; rfl) ⟨_, rfl⟩, mc_upd rfl, G⟩
  intro Cc61 D61 B61 c61 ys61 hh61 tk61 hC61 le61 g61 _ eD61 G
  have g61 := pWhole g61 (by rw [List.length_map]; omega)
  refine comp_none G (List.mem_cons_self ..) (fun x c hc q => hC61.2 x c hc (List.mem_singleton.mpr q)) (hC61.1 _ (List.mem_singleton.mpr rfl)) fun hz61 Z61 => ?_
  refine' comp_start [("less", L + 1 + 1 + 1 + 1 + 1)] ?hcl62 ?hk62 ?hn62 ?hg62 ?hs62
  case hcl62 => rfl
  case hk62 => rfl
  case hn62 => decide
  case hs62 => exact fun _ => rfl
  refine Subscript_ ?_
  walk_at "N"
  refine cI fun _ _ => itemT Z61 (le61 _ _ etw9) (by decide) (by decide) rfl ?_
  refine iterL "number" R.quiet Z61 (le61 _ _ hl2') fun h62 I62 IT62 hN62 st62 G62 => ?_
  refine comp_pure (ps := []) (fun i B₁ ys => Paired (IntV B₁) ((LW.map fun x => TL * x).take i) ys) (IT62 _) hN62 st62 G62 (List.mem_cons_self ..) (by simpa using Paired.nil)
    (fun _ _ _ _ g => g) (fits (by exact om266 ly2)) ["less"] (by (repeat' (first | exact List.forall_mem_nil _ | refine List.forall_mem_cons.mpr ⟨⟨rfl, rfl, rfl⟩, ?_⟩))) (fun _ => rfl) (by decide +kernel) (fun C => canL (List.mem_cons_self ..)) ?_ ?_
  · intro Cc D' i Bx m₂ ys hx tkx E' hi _ lex g' zz13 G
    try (first | (refine hideC G ?_; intro hE9 hO9 hQ9 G) | (refine hideQ ?_; intro hQ9))
    first | (refine ob2_1 (zz13) fun y hy zr812 => ?_; try clear zz13; subst zr812) | (refine ob1_2 (zz13) fun y hy zr813 => ?_; try clear zz13; subst zr813) | (refine ob0_3 (zz13) fun y hy zr814 => ?_; try clear zz13; subst zr814) | obtain ⟨y, hy, rfl⟩ := zz13
    try (refine hideM G ?_; intro hM9 G)
    refine tests_nil ?_
    refine iteT rfl ?_
    first | (refine ob1_2 (pGet' hp2' hy) fun x hx1 zq => ?_; refine ob1_1 zq fun tx zr => ?_; clear zq; subst zr) | (refine ob3_1 (pGet' hp2' hy) fun x hx1 tx zr765 => ?_; subst zr765) | (refine ob2_2 (pGet' hp2' hy) fun x hx1 tx zr766 => ?_; subst zr766) | (refine ob1_3 (pGet' hp2' hy) fun x hx1 tx zr767 => ?_; subst zr767) | (refine ob0_4 (pGet' hp2' hy) fun x hx1 tx zr768 => ?_; subst zr768) | obtain ⟨x, hx1, tx, rfl⟩ := pGet' hp2' hy
    refine wpAny_BinOp (Subscript_ ?_)
    walk_at "N"
    refine cI fun _ _ => itemT G (lex _ _ (le61 _ _ etl9)) (by decide) (by decide) rfl ?_
    walk_at "N"
    refine mulI stl (slw x (List.mem_of_getElem? hx1)) (by decide) (by decide) fun _ _ => ?_
    exact exI4 Bx _ hx _ ⟨rfl, .rfl, pSnocTake g' (by rw [List.getElem?_map, hx1]; rfl) ⟨_, rfl⟩, mc_upd rfl, G⟩
  intro Cc62 D62 B62 c62 ys62 hh62 tk62 hC62 le62 g62 _ eD62 G
  have g62 := pWhole g62 (by rw [List.length_map]; omega)
  refine comp_none G (List.mem_cons_self ..) (fun x c hc q => hC62.2 x c hc (List.mem_singleton.mpr q)) (hC62.1 _ (List.mem_singleton.mpr rfl)) fun hz62 Z62 => ?_
  refine eqInts (B := B62) (pln_of Z62.sub (le62 _ _ eD61)) (pln_of Z62.sub eD62) g61 g62 ((R.deeper _).le (Nat.le_of_ble_eq_true rfl)) ?_
  walk_at "storeName"
  intro h₇₀ tk₇₀ Z₂
  refine wpAny_execs_cons ?_
  try (refine hideQ ?_; intro hQ9)
  refine wpAny_Return_some ?_
  refine BoolOp_and (wpAny_Compare1 ?_)
  walk_at "N"
  walk_at "N"
  refine PyProof.Rows.ge_int (wpAny_truthy_bool ?_)
  refine iteT (by rw [decide_eq_true_eq]; exact hend.1) ?_
  refine BoolOp_one (BoolOp_or ?_)
  walk_at "N"
  refine wpAny_truthy_bool ?_
  by_cases hs : LL.map (fun x => TW * x) = LW.map (fun x => TL * x)
  · rw [decide_eq_true hs, if_pos rfl]
    exact hq _ _ _ Z₂.toExt
  · rw [decide_eq_false hs, if_neg (by decide)]
    refine BoolOp_one (wpAny_Compare1 (Subscript_ ?_))
    walk_at "N"
    have leY := le61.trans le62
    refine cI fun _ _ => itemT Z₂ (leY _ _ etw9) (by decide) (by decide) rfl (Subscript_ ?_)
    walk_at "N"
    refine cI fun _ _ => itemT Z₂ (leY _ _ etl9) (by decide) (by decide) rfl (PyProof.Rows.gt_int ?_)
    have hlt := hend.2.resolve_left hs
    rw [decide_eq_true (show (RW : Int) > (RL : Int) by omega)]
    exact hq _ _ _ Z₂.toExt
end
/-- a property of rows that row operations keep -/
structure Cl (P : List Rat → Prop) : Prop where
  sub : ∀ q r p, P r → P p → r.length = p.length → P (rowSub q r p)
  mul : ∀ q r, P r → P (r.map fun x => x * q)
theorem map_div {r : List Rat} {q : Rat} : (r.map fun x => x / q) = r.map fun x => x * q⁻¹ := by
  refine List.map_congr_left fun x _ => ?_
  rw [Rat.div_def]
theorem all_elim {P : List Rat → Prop} (C : Cl P) {n w row c m : Nat} {F : List (List Rat)} (R : Rect m w F) (hr : row < m) (h : ∀ r ∈ F, P r) : ∀ r ∈ elimTo n row c F, P r := by
  intro x hx
  first | (refine ob1_1 (List.mem_iff_getElem?.mp hx) fun i hi => ?_) | (refine ob0_2 (List.mem_iff_getElem?.mp hx) fun i hi => ?_) | obtain ⟨i, hi⟩ := List.mem_iff_getElem?.mp hx
  rw [elimTo_get] at hi
  cases e : F[i]? with
  | none => rw [e] at hi; cases hi
  | some r =>
    rw [e, Option.map_some] at hi
    have hm := List.mem_of_getElem? e
    cases hi
    split
    · exact C.sub _ _ _ (h r hm) (h _ (getD_mem (by rw [R.1]; exact hr))) (by rw [R.2 r hm, R.row hr])
    · exact h r hm
theorem all_scale {P : List Rat → Prop} (C : Cl P) {w row c m : Nat} {F : List (List Rat)} (R : Rect m w F) (hr : row < m) (h : ∀ r ∈ F, P r) : ∀ r ∈ scale row c F, P r := by
  intro x hx
  rcases List.mem_or_eq_of_mem_set hx with q | q
  · exact h x q
  · rw [q, map_div]; exact C.mul _ _ (h _ (getD_mem (by rw [R.1]; exact hr)))
theorem all_swp {P : List Rat → Prop} {w i j m : Nat} {F : List (List Rat)} (R : Rect m w F) (hi : i < m) (hj : j < m) (h : ∀ r ∈ F, P r) : ∀ r ∈ swp i j F, P r := by
  intro x hx
  rcases List.mem_or_eq_of_mem_set hx with q | q
  · rcases List.mem_or_eq_of_mem_set q with q | q
    · exact h x q
    · rw [q]; exact h _ (getD_mem (by rw [R.1]; exact hj))
  · rw [q]; exact h _ (getD_mem (by rw [R.1]; exact hi))
theorem echTo_rect {n w : Nat} {M : List (List Rat)} (R : Rect n w M) : ∀ c, Rect n w (echTo M c).1 := by
  intro rv
  induction rv with
  | zero => exact R
  | succ c ih =>
    have ih := ih
    rw [echTo_succ, echStep]
    cases e : (spot (echTo M c).1 c (echTo M c).2.length).head? with
    | none => exact ih
    | some p =>
      first | (refine ob2_1 (spot_mem e) fun h1 h2 _ => ?_) | (refine ob1_2 (spot_mem e) fun h1 h2 _ => ?_) | (refine ob0_3 (spot_mem e) fun h1 h2 _ => ?_) | obtain ⟨h1, h2, _⟩ := spot_mem e
      rw [ih.1] at h2
      exact ((ih.swp (by exact om53 h1 h2) h2).scale (by exact om53 h1 h2)).elimTo (by exact om53 h1 h2)
theorem echTo_all {P : List Rat → Prop} (C : Cl P) {n w : Nat} {M : List (List Rat)} (R : Rect n w M) (h : ∀ r ∈ M, P r) : ∀ c, ∀ r ∈ (echTo M c).1, P r := by
  intro rv
  induction rv with
  | zero => exact h
  | succ c ih =>
    have ih := ih
    have iR := echTo_rect R c
    rw [echTo_succ, echStep]
    cases e : (spot (echTo M c).1 c (echTo M c).2.length).head? with
    | none => exact ih
    | some p =>
      first | (refine ob2_1 (spot_mem e) fun h1 h2 _ => ?_) | (refine ob1_2 (spot_mem e) fun h1 h2 _ => ?_) | (refine ob0_3 (spot_mem e) fun h1 h2 _ => ?_) | obtain ⟨h1, h2, _⟩ := spot_mem e
      rw [iR.1] at h2
      have R1 := iR.swp (i := (echTo M c).2.length) (by exact om53 h1 h2) h2
      exact all_elim C (R1.scale (by exact om53 h1 h2)) (by exact om53 h1 h2) (all_scale C R1 (by exact om53 h1 h2) (all_swp iR (by exact om53 h1 h2) h2 ih))
theorem rowSub_undo {q : Rat} {r p : List Rat} (h : r.length = p.length) : rowSub (-q) (rowSub q r p) p = r := by
  refine List.ext_getElem? fun i => ?_
  rcases Nat.lt_or_ge i r.length with h1 | h1
  · have e1 := List.getElem?_eq_getElem h1
    have e2 := List.getElem?_eq_getElem (show i < p.length by exact om42 h h1)
    rw [rowSub_get (rowSub_get e1 e2) e2, e1]
    congr 1
    grind
  · rw [List.getElem?_eq_none h1, List.getElem?_eq_none (by rw [rowSub_len _ _ _ (by rw [rowSub_len _ _ _ h, h]), rowSub_len _ _ _ h]; exact h1)]
theorem all_elim_rev {P : List Rat → Prop} (C : Cl P) {n w row c m : Nat} {F : List (List Rat)} (R : Rect m w F) (hr : row < m) (h : ∀ r ∈ elimTo n row c F, P r) : ∀ r ∈ F, P r := by
  intro r hm
  first | (refine ob1_1 (List.mem_iff_getElem?.mp hm) fun i hi => ?_) | (refine ob0_2 (List.mem_iff_getElem?.mp hm) fun i hi => ?_) | obtain ⟨i, hi⟩ := List.mem_iff_getElem?.mp hm
  have hp : P (F.getD row []) := by
    have := h ((elimTo n row c F).getD row []) (getD_mem (by rw [elimTo_len, R.1]; exact hr))
    rwa [elimTo_row] at this
  have hl : r.length = (F.getD row []).length := by rw [R.2 r hm, R.row hr]
  have e := elimTo_get n row c F i
  rw [hi, Option.map_some] at e
  have hx := h _ (List.mem_of_getElem? e)
  split at hx
  · have := C.sub (-(r.getD c 0)) _ _ hx hp (by rw [rowSub_len _ _ _ hl, hl])
    rwa [rowSub_undo hl] at this
  · exact hx
theorem all_scale_rev {P : List Rat → Prop} (C : Cl P) {w row c m : Nat} {F : List (List Rat)} (R : Rect m w F) (hr : row < m) (h0 : (F.getD row []).getD c 0 ≠ 0) (h : ∀ r ∈ scale row c F, P r) : ∀ r ∈ F, P r := by
  intro r hm
  first | (refine ob1_1 (List.mem_iff_getElem?.mp hm) fun i hi => ?_) | (refine ob0_2 (List.mem_iff_getElem?.mp hm) fun i hi => ?_) | obtain ⟨i, hi⟩ := List.mem_iff_getElem?.mp hm
  by_cases q : i = row
  · subst q
    have hp := h ((scale i c F).getD i []) (getD_mem (by rw [scale, List.length_set, R.1]; exact hr))
    rw [scale_row R hr, getD_eq hi] at hp
    rw [getD_eq hi] at h0
    have := C.mul (r.getD c 0) _ hp
    rw [List.map_map] at this
    have e : (r.map ((fun x => x * r.getD c 0) ∘ fun x => x / r.getD c 0)) = r := by
      rw [List.map_congr_left (g := id) fun x _ => ?_, List.map_id]
      exact Rat.div_mul_cancel h0
    rwa [e] at this
  · exact h r (List.mem_of_getElem? (i := i) (by rw [scale_other q]; exact hi))
theorem swp_get {F : List (List Rat)} {n w i j : Nat} (R : Rect n w F) (hi : i < n) (hj : j < n) (k : Nat) : (swp i j F)[k]? = if k = j then F[i]? else if k = i then F[j]? else F[k]? := by
  have h1 := R.1
  unfold swp
  rw [List.getElem?_set, List.length_set]
  by_cases e : j = k
  · subst e
    rw [if_pos rfl, if_pos rfl, if_pos (by exact om44 hj h1), get_getD [] (by exact om44 hi h1)]
  · rw [if_neg e, if_neg (fun q => e q.symm), List.getElem?_set]
    by_cases e2 : i = k
    · subst e2
      rw [if_pos rfl, if_pos rfl, if_pos (by exact om44 hi h1), get_getD [] (show j < F.length by exact om44 hj h1)]
    · rw [if_neg e2, if_neg (fun q => e2 q.symm)]
theorem all_swp_rev {P : List Rat → Prop} {w i j m : Nat} {F : List (List Rat)} (R : Rect m w F) (hi : i < m) (hj : j < m) (h : ∀ r ∈ swp i j F, P r) : ∀ r ∈ F, P r := by
  intro r hm
  first | (refine ob1_1 (List.mem_iff_getElem?.mp hm) fun k hk => ?_) | (refine ob0_2 (List.mem_iff_getElem?.mp hm) fun k hk => ?_) | obtain ⟨k, hk⟩ := List.mem_iff_getElem?.mp hm
  by_cases e1 : k = i
  · subst e1
    exact h r (List.mem_of_getElem? (i := j) (by rw [swp_get R hi hj, if_pos rfl]; exact hk))
  · by_cases e2 : k = j
    · subst e2
      exact h r (List.mem_of_getElem? (i := i) (by rw [swp_get R hi hj, if_neg (fun q => e1 q.symm), if_pos rfl]; exact hk))
    · exact h r (List.mem_of_getElem? (i := k) (by rw [swp_get R hi hj, if_neg e2, if_neg e1]; exact hk))
theorem echTo_all_rev {P : List Rat → Prop} (C : Cl P) {n w : Nat} {M : List (List Rat)} (R : Rect n w M) : ∀ c, (∀ r ∈ (echTo M c).1, P r) → ∀ r ∈ M, P r := by
  intro rv
  induction rv with
  | zero => exact fun h => h
  | succ c ih =>
    intro h
    have iR := echTo_rect R c
    refine ih ?_
    rw [echTo_succ, echStep] at h
    cases e : (spot (echTo M c).1 c (echTo M c).2.length).head? with
    | none => rw [e] at h; exact h
    | some p =>
      rw [e] at h
      first | (refine ob2_1 (spot_mem e) fun h1 h2 h3 => ?_) | (refine ob1_2 (spot_mem e) fun h1 h2 h3 => ?_) | (refine ob0_3 (spot_mem e) fun h1 h2 h3 => ?_) | obtain ⟨h1, h2, h3⟩ := spot_mem e
      rw [iR.1] at h2
      have hr : (echTo M c).2.length < n := by exact om53 h1 h2
      have R1 := iR.swp hr h2
      exact all_swp_rev iR hr h2 (all_scale_rev C R1 hr (by rw [swp_row iR hr h2]; exact h3) (all_elim_rev C (R1.scale hr) hr h))
noncomputable def en (F : List (List Rat)) (i j : Nat) : Rat := (F.getD i []).getD j 0
theorem getD_over {r : List Rat} {j : Nat} (h : r.length ≤ j) : r.getD j 0 = 0 := by
  rw [List.getD_eq_getElem?_getD, List.getElem?_eq_none h]; rfl
theorem rowSub_getD {q : Rat} {r p : List Rat} (h : r.length = p.length) (j : Nat) : (rowSub q r p).getD j 0 = r.getD j 0 - q * p.getD j 0 := by
  rcases Nat.lt_or_ge j r.length with h1 | h1
  · exact getD_eq (rowSub_get (get_getD 0 h1) (get_getD 0 (by exact om42 h h1)))
  · rw [getD_over (by rw [rowSub_len _ _ _ h]; exact h1), getD_over h1, getD_over (by exact om74 h h1)]; grind
theorem en_elim {n w row c : Nat} {F : List (List Rat)} (R : Rect n w F) (hr : row < n) {i : Nat} (hi : i < n) (j : Nat) :
    en (elim row c F) i j = if i = row then en F row j else en F i j - en F i c * en F row j := by
  have e := elimTo_get F.length row c F i
  rw [get_getD [] (show i < F.length by rw [R.1]; exact hi), Option.map_some] at e
  unfold en elim
  rw [getD_eq e]
  by_cases q : i = row
  · subst q; rw [if_neg (by exact om75), if_pos rfl]
  · rw [if_pos ⟨by rw [R.1]; exact hi, q⟩, if_neg q, rowSub_getD (by rw [R.row hi, R.row hr])]
theorem en_scale {n w row c : Nat} {F : List (List Rat)} (R : Rect n w F) (hr : row < n) (i j : Nat) :
    en (scale row c F) i j = if i = row then en F row j / en F row c else en F i j := by
  by_cases q : i = row
  · subst q
    rw [if_pos rfl]
    unfold en
    rw [scale_row R hr]
    rcases Nat.lt_or_ge j (F.getD i []).length with h1 | h1
    · have e : ((F.getD i []).map fun x => x / (F.getD i []).getD c 0)[j]? = some ((F.getD i []).getD j 0 / (F.getD i []).getD c 0) := by
        rw [List.getElem?_map, get_getD 0 h1]; rfl
      exact getD_eq e
    · rw [getD_over (by rw [List.length_map]; exact h1), getD_over h1, Rat.div_def, Rat.zero_mul]
  · rw [if_neg q]
    unfold en
    rw [List.getD_eq_getElem?_getD (l := scale row c F), scale_other q, ← List.getD_eq_getElem?_getD]
theorem en_swp {n w row p : Nat} {F : List (List Rat)} (R : Rect n w F) (hr : row < n) (hp : p < n) (i j : Nat) :
    en (swp row p F) i j = if i = p then en F row j else if i = row then en F p j else en F i j := by
  unfold en
  rw [List.getD_eq_getElem?_getD (l := swp row p F), swp_get R hr hp]
  split
  · rw [← List.getD_eq_getElem?_getD]
  · split
    · rw [← List.getD_eq_getElem?_getD]
    · rw [← List.getD_eq_getElem?_getD]
/-! the shape of a half-done echelon form -/
structure Shp (n w : Nat) (F : List (List Rat)) (pv : List Nat) (c : Nat) : Prop where
  rect : Rect n w F
  lt : ∀ x ∈ pv, x < c
  le : pv.length ≤ n
  unit : ∀ k, k < pv.length → ∀ i, i < n → en F i (pv.getD k 0) = if i = k then 1 else 0
  low : ∀ i, pv.length ≤ i → i < n → ∀ j, j < c → en F i j = 0
  left : ∀ k, k < pv.length → ∀ j, j < pv.getD k 0 → en F k j = 0
  all : pv = (List.range c).filter fun d => decide (d ∈ pv)

theorem snoc_lt {pv : List Nat} {c k : Nat} (h : k < pv.length) : (pv ++ [c]).getD k 0 = pv.getD k 0 := by
  rw [List.getD_eq_getElem?_getD, List.getElem?_append_left h, ← List.getD_eq_getElem?_getD]
theorem snoc_eq {pv : List Nat} {c : Nat} : (pv ++ [c]).getD pv.length 0 = c := by
  rw [List.getD_eq_getElem?_getD, List.getElem?_append_right (Nat.le_refl _), Nat.sub_self]; rfl
theorem Shp.zero {n w : Nat} {M : List (List Rat)} (R : Rect n w M) : Shp n w M [] 0 :=
  ⟨R, fun _ h => absurd h List.not_mem_nil, Nat.zero_le _, fun _ h => absurd h (Nat.not_lt_zero _), fun _ _ _ _ h => absurd h (Nat.not_lt_zero _), fun _ h => absurd h (Nat.not_lt_zero _), rfl⟩
theorem Shp.none {n w c : Nat} {F : List (List Rat)} {pv : List Nat} (S : Shp n w F pv c) (h : ∀ p, pv.length ≤ p → p < F.length → (F.getD p []).getD c 0 = 0) : Shp n w F pv (c + 1) := by
  refine ⟨S.rect, fun x hx => Nat.lt_succ_of_lt (S.lt x hx), S.le, S.unit, fun i h1 h2 j hj => ?_, S.left, ?_⟩
  · rcases Nat.lt_or_ge j c with q | q
    · exact S.low i h1 h2 j q
    · have : j = c := by exact om76 hj q
      subst this
      exact h i h1 (by rw [S.rect.1]; exact h2)
  · rw [List.range_succ, List.filter_append, ← S.all, List.filter_cons_of_neg, List.filter_nil, List.append_nil]
    have : c ∉ pv := fun q => Nat.lt_irrefl _ (S.lt c q)
    simpa using this
theorem Shp.some {n w c p : Nat} {F : List (List Rat)} {pv : List Nat} (S : Shp n w F pv c) (h1 : pv.length ≤ p) (h2 : p < n) (h3 : en F p c ≠ 0) :
    Shp n w (elim pv.length c (scale pv.length c (swp pv.length p F))) (pv ++ [c]) (c + 1) := by
  have R := S.rect
  have hm : pv.length < n := by exact om53 h1 h2
  have R1 := R.swp hm h2
  have R2 := R1.scale (c := c) hm
  have hrow : ∀ j, en (swp pv.length p F) pv.length j = en F p j := fun j => by
    rw [en_swp R hm h2]
    by_cases q : pv.length = p
    · rw [if_pos q, ← q]
    · rw [if_neg q, if_pos rfl]
  have hS : ∀ i j, i < n → i ≠ pv.length → en (elim pv.length c (scale pv.length c (swp pv.length p F))) i j = en (swp pv.length p F) i j - en (swp pv.length p F) i c * (en F p j / en F p c) := fun i j hi hne => by
    rw [en_elim R2 hm hi, if_neg hne, en_scale R1 hm, if_neg hne, en_scale R1 hm, if_neg hne, en_scale R1 hm, if_pos rfl, hrow, hrow]
  have hT : ∀ j, en (elim pv.length c (scale pv.length c (swp pv.length p F))) pv.length j = en F p j / en F p c := fun j => by
    rw [en_elim R2 hm hm, if_pos rfl, en_scale R1 hm, if_pos rfl, hrow, hrow]
  have hd1 : en F p c / en F p c = 1 := by rw [Rat.div_def]; exact Rat.mul_inv_cancel _ h3
  have hz : ∀ j, en F p j = 0 → en F p j / en F p c = 0 := fun j q => by rw [q, Rat.div_def, Rat.zero_mul]
  have len : (pv ++ [c]).length = pv.length + 1 := by simp
  refine ⟨R2.elimTo hm, fun x hx => ?_, by rw [len]; exact hm, fun k hk i hi => ?_, fun i hi hn j hj => ?_, fun k hk j hj => ?_, ?_⟩
  · rcases List.mem_append.mp hx with q | q
    · exact Nat.lt_succ_of_lt (S.lt x q)
    · rw [List.mem_singleton.mp q]; exact Nat.lt_succ_self _
  · rw [len] at hk
    by_cases hk2 : k < pv.length
    · rw [snoc_lt hk2]
      have hp0 : en F p (pv.getD k 0) = 0 := by rw [S.unit k hk2 p h2, if_neg (by exact om77 h1 hk2)]
      by_cases e : i = pv.length
      · rw [e, hT, hz _ hp0, if_neg (by exact om78 hk2)]
      · rw [hS i _ hi e, hz _ hp0, Rat.mul_zero, Rat.sub_eq_add_neg, Rat.neg_zero, Rat.add_zero, en_swp R hm h2]
        by_cases e2 : i = p
        · rw [if_pos e2, S.unit k hk2 _ hm, if_neg (by exact om78 hk2), if_neg (by exact om79 h1 hk2 e2)]
        · rw [if_neg e2, if_neg e, S.unit k hk2 _ hi]
    · have ek : k = pv.length := by exact om80 hk hk2
      rw [ek, snoc_eq]
      by_cases e : i = pv.length
      · rw [e, hT, hd1, if_pos rfl]
      · rw [hS i _ hi e, hd1, Rat.mul_one, Rat.sub_self, if_neg e]
  · rw [len] at hi
    have e : i ≠ pv.length := by exact om81 hi
    rw [hS i _ hn e]
    by_cases ej : j = c
    · rw [ej, hd1, Rat.mul_one, Rat.sub_self]
    · rw [hz j (S.low p h1 h2 j (by exact om82 hj ej)), Rat.mul_zero, Rat.sub_eq_add_neg, Rat.neg_zero, Rat.add_zero, en_swp R hm h2]
      by_cases e2 : i = p
      · rw [if_pos e2]; exact S.low _ (Nat.le_refl _) hm j (by exact om82 hj ej)
      · rw [if_neg e2, if_neg e]; exact S.low i (by exact om34 hi) hn j (by exact om82 hj ej)
  · rw [len] at hk
    by_cases hk2 : k < pv.length
    · rw [snoc_lt hk2] at hj
      have hlt := S.lt _ (getD_mem (d := 0) hk2)
      rw [hS k _ (by exact om83 hm hk2) (by exact om84 hk2), hz j (S.low p h1 h2 j (by exact om85 hj hlt)), Rat.mul_zero, Rat.sub_eq_add_neg, Rat.neg_zero, Rat.add_zero, en_swp R hm h2, if_neg (by exact om86 h1 hk2), if_neg (by exact om87 hk2)]
      exact S.left k hk2 j hj
    · have ek : k = pv.length := by exact om80 hk hk2
      rw [ek, snoc_eq] at hj
      rw [ek, hT]
      exact hz j (S.low p h1 h2 j hj)
  · have hc : c ∉ pv := fun q => Nat.lt_irrefl _ (S.lt c q)
    rw [List.range_succ, List.filter_append, List.filter_cons_of_pos (by simp), List.filter_nil]
    congr 1
    refine S.all.trans (List.filter_congr fun d hd => ?_)
    have : d < c := List.mem_range.mp hd
    have h5 : d ≠ c := by exact om88 this
    simp [h5]
theorem shp {n w : Nat} {M : List (List Rat)} (R : Rect n w M) : ∀ c, Shp n w (echTo M c).1 (echTo M c).2 c := by
  intro rv
  induction rv with
  | zero => exact Shp.zero R
  | succ c ih =>
    have S := ih
    rw [echTo_succ, echStep]
    cases e : (spot (echTo M c).1 c (echTo M c).2.length).head? with
    | none => exact S.none (spot_none e)
    | some p =>
      first | (refine ob2_1 (spot_mem e) fun h1 h2 h3 => ?_) | (refine ob1_2 (spot_mem e) fun h1 h2 h3 => ?_) | (refine ob0_3 (spot_mem e) fun h1 h2 h3 => ?_) | obtain ⟨h1, h2, h3⟩ := spot_mem e
      rw [S.rect.1] at h2
      exact S.some h1 h2 h3
theorem Shp.inj {n w c : Nat} {F : List (List Rat)} {pv : List Nat} (S : Shp n w F pv c) {k l : Nat} (hk : k < pv.length) (hl : l < pv.length) (h : pv.getD k 0 = pv.getD l 0) : k = l := by
  have h1 := S.unit k hk k (by have := S.le; exact om89 hk this)
  have h2 := S.unit l hl k (by have := S.le; exact om89 hk this)
  rw [if_pos rfl] at h1
  rw [← h, h1] at h2
  by_cases e : k = l
  · exact e
  · rw [if_neg e] at h2; exact absurd h2 (by decide)
theorem Shp.idx {n w c : Nat} {F : List (List Rat)} {pv : List Nat} (_ : Shp n w F pv c) {j : Nat} (h : j ∈ pv) : ∃ k, k < pv.length ∧ pv.getD k 0 = j := by
  first | (refine ob1_1 (List.mem_iff_getElem?.mp h) fun k hk => ?_) | (refine ob0_2 (List.mem_iff_getElem?.mp h) fun k hk => ?_) | obtain ⟨k, hk⟩ := List.mem_iff_getElem?.mp h
  exact ⟨k, (List.getElem?_eq_some_iff.mp hk).1, getD_eq hk⟩
theorem count_pv {n w c : Nat} {F : List (List Rat)} {pv : List Nat} (S : Shp n w F pv c) : pv.length + ((List.range c).filter fun d => decide (d ∉ pv)).length = c := by
  have e : pv.length = ((List.range c).filter fun d => decide (d ∈ pv)).length := congrArg List.length S.all
  rw [e, ← List.countP_eq_length_filter, ← List.countP_eq_length_filter]
  have := List.length_eq_countP_add_countP (fun d => decide (d ∈ pv)) (l := List.range c)
  rw [List.length_range] at this
  rw [← List.countP_eq_length_filter] at *
  have h2 : List.countP (fun d => decide (d ∉ pv)) (List.range c) = List.countP (fun a => decide ¬decide (a ∈ pv) = true) (List.range c) := by
    congr 1; funext d; simp
  exact om90 this h2

/-! sums -/
noncomputable def sm : Nat → (Nat → Rat) → Rat
  | 0, _ => 0
  | n + 1, f => sm n f + f n
theorem sm_congr {f g : Nat → Rat} : ∀ n, (∀ j, j < n → f j = g j) → sm n f = sm n g := by
  intro rv
  induction rv with
  | zero => exact fun _ => rfl
  | succ n ih => intro h; rw [sm, sm, ih fun j hj => h j (by exact om35 hj), h n (by exact om40)]
theorem sm_lin {f g : Nat → Rat} (q : Rat) : ∀ n, sm n (fun j => f j - q * g j) = sm n f - q * sm n g := by
  intro rv
  induction rv with
  | zero => simp only [sm]; grind
  | succ n ih => rw [sm, sm, sm, ih]; grind
theorem sm_mul {f : Nat → Rat} (q : Rat) : ∀ n, sm n (fun j => f j * q) = sm n f * q := by
  intro rv
  induction rv with
  | zero => simp [sm]
  | succ n ih => rw [sm, sm, ih]; grind
theorem sm_zero {f : Nat → Rat} : ∀ n, (∀ j, j < n → f j = 0) → sm n f = 0 := by
  intro rv
  induction rv with
  | zero => exact fun _ => rfl
  | succ n ih => intro h; rw [sm, ih fun j hj => h j (by exact om35 hj), h n (by exact om40), Rat.add_zero]
theorem sm_upd {f g : Nat → Rat} {p : Nat} (h : ∀ j, j ≠ p → g j = f j) : ∀ n, sm n g = sm n f + if p < n then g p - f p else 0 := by
  intro rv
  induction rv with
  | zero => rw [if_neg (by exact om91)]; simp only [sm]; grind
  | succ n ih =>
    rw [sm, sm, ih]
    by_cases e : n = p
    · subst e; rw [if_neg (by exact om92), if_pos (by exact om40)]; grind
    · rw [h n e]
      by_cases e2 : p < n
      · rw [if_pos e2, if_pos (by exact om35 e2)]; grind
      · rw [if_neg e2, if_neg (by exact om93 e e2)]; grind
/-- a row held against numbers -/
noncomputable def rd (w : Nat) (r x : List Rat) : Rat := sm w fun j => r.getD j 0 * x.getD j 0
theorem getD_set {α : Type} {d y : α} {x : List α} {p j : Nat} : (x.set p y).getD j d = if p = j ∧ j < x.length then y else x.getD j d := by
  rw [List.getD_eq_getElem?_getD, List.getElem?_set]
  by_cases e : p = j
  · subst e
    rw [if_pos rfl]
    by_cases h : p < x.length
    · rw [if_pos h, if_pos ⟨rfl, h⟩]; rfl
    · rw [if_neg h, if_neg (fun q => h q.2), List.getD_eq_getElem?_getD, List.getElem?_eq_none (by exact om94 h)]
  · rw [if_neg e, if_neg (fun q => e q.1), List.getD_eq_getElem?_getD]
theorem rd_set {w p : Nat} {r x : List Rat} {y : Rat} (hx : x.length = w) (hp : p < w) : rd w r (x.set p y) = rd w r x + r.getD p 0 * (y - x.getD p 0) := by
  unfold rd
  rw [sm_upd (f := fun j => r.getD j 0 * x.getD j 0) (p := p) (fun j hj => by rw [getD_set, if_neg (fun q => hj q.1.symm)]) w, if_pos hp]
  rw [getD_set, if_pos ⟨rfl, by exact om50 hx hp⟩]
  grind
theorem rd_cl (w : Nat) (x : List Rat) : Cl fun r => rd w r x = 0 where
  sub := fun q r p h1 h2 hl => by
    have e : rd w (rowSub q r p) x = rd w r x - q * rd w p x := by
      unfold rd
      rw [← sm_lin]
      refine sm_congr w fun j _ => ?_
      rw [rowSub_getD hl]; grind
    rw [e, h1, h2]; grind
  mul := fun q r h => by
    have e : rd w (r.map fun x => x * q) x = rd w r x * q := by
      unfold rd
      rw [← sm_mul]
      refine sm_congr w fun j _ => ?_
      rcases Nat.lt_or_ge j r.length with h1 | h1
      · have e : (r.map fun x => x * q)[j]? = some (r.getD j 0 * q) := by rw [List.getElem?_map, get_getD 0 h1]; rfl
        rw [getD_eq e]; grind
      · rw [getD_over (by rw [List.length_map]; exact h1), getD_over h1]; grind
    rw [e, h]; grind

/-! null vectors -/
theorem replicate_getD (w j : Nat) : (List.replicate w (0 : Rat)).getD j 0 = 0 := by
  rcases Nat.lt_or_ge j w with h | h
  · rw [List.getD_eq_getElem?_getD, List.getElem?_replicate, if_pos h]; rfl
  · exact getD_over (by rw [List.length_replicate]; exact h)
theorem rd_replicate (w : Nat) (r : List Rat) (n : Nat) : rd w r (List.replicate n 0) = 0 := sm_zero w fun j _ => by rw [replicate_getD, Rat.mul_zero]
theorem nullTo_other {E : List (List Rat)} {pv : List Nat} {w c j : Nat} (hj : j ≠ c) : ∀ k, (∀ l, l < k → pv.getD l 0 ≠ j) → (nullTo E pv w c k).getD j 0 = 0 := by
  intro rv
  induction rv with
  | zero => intro _; rw [nullTo, getD_set, if_neg (fun q => hj q.1.symm), replicate_getD]
  | succ k ih =>
    intro h
    rw [nullTo, getD_set, if_neg (fun q => h k (by exact om40) q.1)]
    exact ih fun l hl => h l (by exact om35 hl)
theorem nullTo_own {E : List (List Rat)} {pv : List Nat} {w c : Nat} (hc : c < w) : ∀ k, (∀ l, l < k → pv.getD l 0 ≠ c) → (nullTo E pv w c k).getD c 0 = 1 := by
  intro rv
  induction rv with
  | zero => intro _; rw [nullTo, getD_set, if_pos ⟨rfl, by rw [List.length_replicate]; exact hc⟩]
  | succ k ih =>
    intro h
    rw [nullTo, getD_set, if_neg (fun q => h k (by exact om40) q.1)]
    exact ih fun l hl => h l (by exact om35 hl)
section
variable {n w : Nat} {E : List (List Rat)} {pv : List Nat} (S : Shp n w E pv w)
include S
theorem Shp.ne {c k : Nat} (hn : c ∉ pv) (hk : k < pv.length) : pv.getD k 0 ≠ c := fun q => hn (by rw [← q]; exact getD_mem hk)
theorem nullTo_row {c i : Nat} (hc : c < w) (hn : c ∉ pv) (hi : i < n) : ∀ k, k ≤ pv.length → rd w (E.getD i []) (nullTo E pv w c k) = if i < k then 0 else en E i c := by
  intro rv
  induction rv with
  | zero =>
    intro _
    rw [nullTo, rd_set (by simp) hc, rd_replicate, if_neg (by exact om91), replicate_getD]
    unfold en; grind
  | succ k ih =>
    intro h
    have hp := S.lt _ (getD_mem (d := 0) (show k < pv.length by exact om58 h))
    rw [nullTo, rd_set (nullTo_len ..) hp, ih (by exact om57 h), nullTo_other (S.ne hn (by exact om58 h)) k fun l hl q => by have := S.inj (by exact om95 h hl) (by exact om58 h) q; (first | with_reducible assumption | with_reducible exact Int.natCast_nonneg _ | lia | omega)]
    have hu := S.unit k (by exact om58 h) i hi
    unfold en at hu ⊢
    rw [hu]
    by_cases e : i = k
    · subst e; rw [if_neg (by exact om92), if_pos rfl, if_pos (by exact om40)]; grind
    · rw [if_neg e]
      by_cases e2 : i < k
      · rw [if_pos e2, if_pos (by exact om35 e2)]; grind
      · rw [if_neg e2, if_neg (by exact om96 e e2)]; grind
theorem nullTo_null {c : Nat} (hc : c < w) (hn : c ∉ pv) : ∀ r ∈ E, rd w r (nullTo E pv w c pv.length) = 0 := by
  intro r hr
  first | (refine ob1_1 (List.mem_iff_getElem?.mp hr) fun i hi => ?_) | (refine ob0_2 (List.mem_iff_getElem?.mp hr) fun i hi => ?_) | obtain ⟨i, hi⟩ := List.mem_iff_getElem?.mp hr
  have hin : i < n := by rw [← S.rect.1]; exact (List.getElem?_eq_some_iff.mp hi).1
  rw [← getD_eq (d := []) hi, nullTo_row S hc hn hin pv.length (Nat.le_refl _)]
  split
  · rfl
  · exact S.low i (by first | with_reducible assumption | with_reducible exact Int.natCast_nonneg _ | lia | omega) hin c hc
theorem nullTo_above {c j : Nat} (hn : c ∉ pv) (hj : c < j) : (nullTo E pv w c pv.length).getD j 0 = 0 := by
  by_cases q : j ∈ pv
  · first | (refine ob2_1 (S.idx q) fun k hk e => ?_) | (refine ob1_2 (S.idx q) fun k hk e => ?_) | (refine ob0_3 (S.idx q) fun k hk e => ?_) | obtain ⟨k, hk, e⟩ := S.idx q
    have key : ∀ l, l ≤ pv.length → (nullTo E pv w c l).getD j 0 = 0 := by
      intro l
      induction l with
      | zero => intro _; rw [nullTo, getD_set, if_neg (by exact om97 hj), replicate_getD]
      | succ l ih =>
        intro hl
        rw [nullTo, getD_set]
        split
        · rename_i q2
          have := S.left l (by exact om58 hl) c (by rw [q2.1]; exact hj)
          unfold en at this
          rw [this]; rfl
        · exact ih (by exact om57 hl)
    exact key _ (Nat.le_refl _)
  · exact nullTo_other (by exact om98 hj) _ fun l hl => S.ne q hl
end
/-! four-long vectors, projected off one by one -/
structure V4 where
  a : Rat
  b : Rat
  c : Rat
  d : Rat
noncomputable def ip (x y : V4) : Rat := x.a * y.a + x.b * y.b + x.c * y.c + x.d * y.d
noncomputable def sb (x : V4) (q : Rat) (y : V4) : V4 := ⟨x.a - q * y.a, x.b - q * y.b, x.c - q * y.c, x.d - q * y.d⟩
noncomputable def vz : V4 := ⟨0, 0, 0, 0⟩
theorem ip_comm (x y : V4) : ip x y = ip y x := by unfold ip; grind
theorem ip_sb (x y z : V4) (q : Rat) : ip (sb x q y) z = ip x z - q * ip y z := by unfold ip sb; grind
theorem ip_sb' (x y z : V4) (q : Rat) : ip z (sb x q y) = ip z x - q * ip z y := by unfold ip sb; grind
theorem ip_vz (x : V4) : ip vz x = 0 := by unfold ip vz; grind
theorem sq_nn (a : Rat) : 0 ≤ a * a := by
  rcases Rat.le_total (a := 0) (b := a) with h | h
  · exact Rat.mul_nonneg h h
  · have h2 : 0 ≤ -a := by grind
    have := Rat.mul_nonneg h2 h2
    grind
theorem sq_z {a : Rat} (h : a * a = 0) : a = 0 := by
  rcases Rat.mul_eq_zero.mp h with h | h <;> exact h
theorem ip_nn (x : V4) : 0 ≤ ip x x := by
  have h1 := sq_nn x.a
  have h2 := sq_nn x.b
  have h3 := sq_nn x.c
  have h4 := sq_nn x.d
  unfold ip; grind
theorem ip_z {x : V4} (h : ip x x = 0) : x = vz := by
  have h1 := sq_nn x.a
  have h2 := sq_nn x.b
  have h3 := sq_nn x.c
  have h4 := sq_nn x.d
  unfold ip at h
  have e1 : x.a = 0 := sq_z (by grind)
  have e2 : x.b = 0 := sq_z (by grind)
  have e3 : x.c = 0 := sq_z (by grind)
  have e4 : x.d = 0 := sq_z (by grind)
  first | (refine ob3_1 (x) fun a b c d => ?_; try clear x) | (refine ob2_2 (x) fun a b c d => ?_; try clear x) | (refine ob1_3 (x) fun a b c d => ?_; try clear x) | (refine ob0_4 (x) fun a b c d => ?_; try clear x) | obtain ⟨a, b, c, d⟩ := x
  simp only [] at e1 e2 e3 e4
  rw [e1, e2, e3, e4]; rfl
theorem ip_all {x : V4} (h : ip x x = 0) (y : V4) : ip x y = 0 := by rw [ip_z h, ip_vz]

noncomputable def U (v : Nat → V4) : Nat → Nat → V4
  | 0, i => v i
  | c + 1, i => sb (U v c i) (ip (U v c i) (U v c c) / ip (U v c c) (U v c c)) (U v c c)
theorem U_AB (v : Nat → V4) : ∀ c i, (∀ y, (∀ j, j < c → ip (v j) y = 0) → ip (U v c i) y = ip (v i) y) ∧ ∀ j, j < c → ip (v j) (U v c i) = 0 := by
  intro rv
  induction rv with
  | zero => exact fun i => ⟨fun _ _ => rfl, fun j h => by cases h⟩
  | succ c ih =>
    intro i
    first | (refine ob1_1 (ih i) fun a1 b1 => ?_) | (refine ob0_2 (ih i) fun a1 b1 => ?_) | obtain ⟨a1, b1⟩ := ih i
    first | (refine ob1_1 (ih c) fun a2 b2 => ?_) | (refine ob0_2 (ih c) fun a2 b2 => ?_) | obtain ⟨a2, b2⟩ := ih c
    have low : ∀ j, j < c → ip (v j) (U v (c + 1) i) = 0 := fun j hj => by
      rw [U, ip_sb', b1 j hj, b2 j hj]; grind
    refine ⟨fun y hy => ?_, fun j hj => ?_⟩
    · rw [U, ip_sb, a1 y fun j hj => hy j (by exact om35 hj), a2 y fun j hj => hy j (by exact om35 hj), hy c (by exact om40)]; grind
    · rcases Nat.lt_or_ge j c with q | q
      · exact low j q
      · have : j = c := by exact om76 hj q
        subst this
        rw [← a2 _ low, U, ip_sb', ip_comm (U v j j) (U v j i)]
        by_cases z : ip (U v j j) (U v j j) = 0
        · have := ip_all z (U v j i)
          rw [ip_comm] at this
          rw [z, this]; grind
        · rw [Rat.div_mul_cancel z]; grind
/-- x is made of the first c -/
noncomputable def Sp (v : Nat → V4) (c : Nat) (x : V4) : Prop := ∀ y, (∀ j, j < c → ip (v j) y = 0) → ip x y = 0
theorem Sp.self {v : Nat → V4} {c i : Nat} (h : i < c) : Sp v c (v i) := fun _ hy => hy i h
theorem Sp.sb {v : Nat → V4} {c : Nat} {x y : V4} (hx : Sp v c x) (hy : Sp v c y) (q : Rat) : Sp v c (sb x q y) := fun z hz => by
  rw [ip_sb, hx z hz, hy z hz]; grind
theorem Sp.zero {v : Nat → V4} {c : Nat} : Sp v c vz := fun y _ => ip_vz y
theorem w_zero (v : Nat → V4) (c : Nat) : ip (U v c c) (U v c c) = 0 ↔ Sp v c (v c) := by
  first | (refine ob1_1 (U_AB v c c) fun a b => ?_) | (refine ob0_2 (U_AB v c c) fun a b => ?_) | obtain ⟨a, b⟩ := U_AB v c c
  constructor
  · intro h y hy
    rw [← a y hy]; exact ip_all h y
  · intro h
    rw [a _ b]; exact h _ b
noncomputable def D (v : Nat → V4) : Nat → Rat
  | 0 => 1
  | c + 1 => D v c * ip (U v c c) (U v c c)
theorem D_nn (v : Nat → V4) : ∀ c, 0 ≤ D v c := by
  intro rv
  induction rv with
  | zero => rw [D]; decide
  | succ c ih => rw [D]; exact Rat.mul_nonneg (ih) (ip_nn _)
theorem D_zero (v : Nat → V4) : ∀ m, D v m = 0 ↔ ∃ d, d < m ∧ Sp v d (v d) := by
  intro rv
  induction rv with
  | zero => exact ⟨fun h => absurd h (by rw [D]; decide), fun ⟨d, h, _⟩ => by cases h⟩
  | succ c ih =>
    rw [D, Rat.mul_eq_zero, ih, w_zero]
    constructor
    · rintro (⟨d, h, s⟩ | s)
      · exact ⟨d, by exact om35 h, s⟩
      · exact ⟨c, by exact om40, s⟩
    · rintro ⟨d, h, s⟩
      rcases Nat.lt_or_ge d c with q | q
      · exact .inl ⟨d, q, s⟩
      · have : d = c := by exact om76 h q
        subst this; exact .inr s
noncomputable def res (v : Nat → V4) (x : Nat → Rat) (b : V4) : Nat → V4
  | 0 => b
  | k + 1 => sb (res v x b k) (x k) (v k)
theorem ip_res (v : Nat → V4) (x : Nat → Rat) (b y : V4) : ∀ n, ip (res v x b n) y = ip b y - sm n fun j => x j * ip (v j) y := by
  intro rv
  induction rv with
  | zero => rw [res, sm]; grind
  | succ n ih => rw [res, sm, ip_sb, ih]; grind
/-- what is left over is the last vector, projected -/
theorem res_U {v : Nat → V4} {x : Nat → Rat} {n : Nat} (h : ∀ j, j < n → ip (v j) (res v x (v n) n) = 0) : res v x (v n) n = U v n n := by
  first | (refine ob1_1 (U_AB v n n) fun a b => ?_) | (refine ob0_2 (U_AB v n n) fun a b => ?_) | obtain ⟨a, b⟩ := U_AB v n n
  have hy : ∀ j, j < n → ip (v j) (sb (res v x (v n) n) 1 (U v n n)) = 0 := fun j hj => by
    rw [ip_sb', h j hj, b j hj]; grind
  have e1 := a _ hy
  have e2 : ip (res v x (v n) n) (sb (res v x (v n) n) 1 (U v n n)) = ip (v n) (sb (res v x (v n) n) 1 (U v n n)) := by
    rw [ip_res, sm_zero n fun j hj => by rw [hy j hj, Rat.mul_zero]]; grind
  have e3 : ip (sb (res v x (v n) n) 1 (U v n n)) (sb (res v x (v n) n) 1 (U v n n)) = 0 := by
    rw [ip_sb, e1, e2]; grind
  have e4 := ip_z e3
  unfold sb vz at e4
  injection e4 with h1 h2 h3 h4
  have f1 : (res v x (v n) n).a = (U v n n).a := by grind
  have f2 : (res v x (v n) n).b = (U v n n).b := by grind
  have f3 : (res v x (v n) n).c = (U v n n).c := by grind
  have f4 : (res v x (v n) n).d = (U v n n).d := by grind
  have eta : ∀ z : V4, z = ⟨z.a, z.b, z.c, z.d⟩ := fun _ => rfl
  rw [eta (res v x (v n) n), eta (U v n n), f1, f2, f3, f4]
/-! the determinant's run, on products of vectors -/
noncomputable def gi (F : List (List Int)) (i j : Nat) : Int := (F.getD i []).getD j 0
theorem dRun_sq {m : Nat} {M : List (List Int)} (h : Sq m M) : ∀ c, Sq m (dRun M c).1 := by
  intro rv
  induction rv with
  | zero => exact h
  | succ c ih =>
    show Sq m (browsTo _ _ _ _ M.length _ _)
    rw [h.1]; exact (ih).browsTo
theorem gi_step {M : List (List Int)} {c m i j : Nat} (h : Sq m M) (hi : c < i) (hi' : i < m) (hj : c < j) (hj' : j < m) :
    gi (dRun M (c + 1)).1 i j = (gi (dRun M c).1 i j * gi (dRun M c).1 c c - gi (dRun M c).1 i c * gi (dRun M c).1 c j).fdiv (dRun M c).2 := by
  have hs := dRun_sq h c
  have e := browsTo_get (dPrev (dRun M c).1 c) (dRun M c).2 ((dRun M c).1.getD c []) c M.length (M.length - (c + 1)) (dRun M c).1 i
  rw [get_getD [] (show i < (dRun M c).1.length by rw [hs.1]; exact hi'), Option.map_some, h.1, if_pos (by exact om99 hi hi')] at e
  have er : (dRun M (c + 1)).1.getD i [] = brow (dPrev (dRun M c).1 c) (dRun M c).2 ((dRun M c).1.getD c []) c m ((dRun M c).1.getD i []) := by
    refine getD_eq ?_
    show (browsTo _ _ _ c M.length (M.length - (c + 1)) _)[i]? = _
    rw [h.1]; exact e
  have hl : ((dRun M c).1.getD i []).length = m := hs.2 _ (getD_mem (by rw [hs.1]; exact hi'))
  have e2 := bcols_get (dPrev (dRun M c).1 c) (dRun M c).2 ((dRun M c).1.getD c []) c (m - (c + 1)) ((dRun M c).1.getD i []) j
  rw [get_getD 0 (show j < ((dRun M c).1.getD i []).length by rw [hl]; exact hj'), Option.map_some, if_pos (by exact om99 hj hj')] at e2
  unfold gi
  rw [er, brow, getD_set, if_neg (by exact om97 hj), getD_eq e2]
  rfl
noncomputable def m2 (a b c d e f g h k : Int) : Int := k * e * a - k * d * b - g * c * e - h * f * a + h * d * c + g * b * f
theorem m2_fst (a b c d e f g h k : Int) : (k * a - g * c) * (e * a - d * b) - (h * a - g * b) * (f * a - d * c) = a * m2 a b c d e f g h k := by
  unfold m2; grind
theorem m2_snd (a b c p d e f q g h k r s t u v : Int) : m2 a b p d e q s t v * m2 a b c d e f g h k - m2 a b c d e f s t u * m2 a b p d e q g h r =
    (e * a - d * b) * (v * m2 a b c d e f g h k - u * m2 a b p d e q g h r + t * m2 a c p d f q g k r - s * m2 b c p e f q h k r) := by
  unfold m2; grind
theorem dvd_run {M : List (List Int)} {m c i j : Nat} (h : Sq m M) (hm : m ≤ 4) (hp : ∀ d, d < c → 0 < piv M d) (hi : c < i) (hi' : i < m) (hj : c < j) (hj' : j < m) :
    (dRun M c).2 ∣ gi (dRun M c).1 i j * gi (dRun M c).1 c c - gi (dRun M c).1 i c * gi (dRun M c).1 c j := by
  have s1 : ∀ i j, 0 < i → i < m → 0 < j → j < m → gi (dRun M 1).1 i j = gi M i j * gi M 0 0 - gi M i 0 * gi M 0 j := fun i j h1 h2 h3 h4 => by
    rw [gi_step h h1 h2 h3 h4]; show Int.fdiv _ 1 = _; rw [Int.fdiv_one]; rfl
  have q1 : (dRun M 1).2 = gi M 0 0 := rfl
  match c, hp, hi, hj with
  | 0, _, _, _ => exact ⟨_, (Int.one_mul _).symm⟩
  | 1, hp, hi, hj =>
    rw [q1, s1 _ _ (by exact om68 hi) hi' (by exact om68 hj) hj', s1 _ _ (by exact om68 hi) hi' (by exact om100) (by exact om101 hj' hj), s1 _ _ (by exact om100) (by exact om101 hj' hj) (by exact om68 hj) hj', s1 _ _ (by exact om100) (by exact om101 hj' hj) (by exact om100) (by exact om101 hj' hj), m2_fst]
    exact ⟨_, rfl⟩
  | 2, hp, hi, hj =>
    have ei : i = 3 := by exact om102 hm hi' hi
    have ej : j = 3 := by exact om102 hm hj' hj
    subst ei
    subst ej
    have p0 : (0 : Int) < gi M 0 0 := hp 0 (by exact om103)
    have s2 : ∀ i j, 1 < i → i < m → 1 < j → j < m → gi (dRun M 2).1 i j = m2 (gi M 0 0) (gi M 0 1) (gi M 0 j) (gi M 1 0) (gi M 1 1) (gi M 1 j) (gi M i 0) (gi M i 1) (gi M i j) := fun i j h1 h2 h3 h4 => by
      rw [gi_step h h1 h2 h3 h4, q1, s1 _ _ (by exact om68 h1) h2 (by exact om68 h3) h4, s1 _ _ (by exact om68 h1) h2 (by exact om100) (by exact om104 h3 h4), s1 _ _ (by exact om100) (by exact om104 h3 h4) (by exact om68 h3) h4, s1 _ _ (by exact om100) (by exact om104 h3 h4) (by exact om100) (by exact om104 h3 h4), m2_fst]
      exact Int.mul_fdiv_cancel_left _ (by exact om105 p0)
    have q2 : (dRun M 2).2 = gi (dRun M 1).1 1 1 := rfl
    rw [q2, s1 _ _ (by exact om100) (by exact om106 hj') (by exact om100) (by exact om106 hj'), s2 _ _ (by exact om107) hi' (by exact om107) hj', s2 _ _ (by exact om107) hi' (by exact om108) (by exact om109 hj'), s2 _ _ (by exact om108) (by exact om109 hj') (by exact om107) hj', s2 _ _ (by exact om108) (by exact om109 hj') (by exact om108) (by exact om109 hj'), m2_snd]
    exact ⟨_, rfl⟩
  | c + 3, _, hi, _ => (first | with_reducible assumption | with_reducible exact Int.natCast_nonneg _ | lia | omega)
theorem step_alg {P F00 F10 F01 F11 k : Int} {d u w s t : Rat} (hP : (P : Rat) = d) (hd : d ≠ 0) (hw : w ≠ 0) (e : F11 * F00 - F10 * F01 = P * k) (h00 : (F00 : Rat) = d * w) (h10 : (F10 : Rat) = d * s) (h01 : (F01 : Rat) = d * t) (h11 : (F11 : Rat) = d * u) :
    (k : Rat) = d * w * (u - s / w * t) := by
  have e2 : (F11 : Rat) * F00 - F10 * F01 = P * k := by
    rw [← Rat.intCast_mul, ← Rat.intCast_mul, ← Rat.intCast_mul, ← Rat.intCast_sub, e]
  rw [h00, h10, h01, h11, hP] at e2
  have e3 : d * (d * w * u - d * s * t) = d * k := by grind
  have e4 : d * w * u - d * s * t = k := by
    have : d * ((d * w * u - d * s * t) - k) = 0 := by grind
    rcases Rat.mul_eq_zero.mp this with z | z
    · exact absurd z hd
    · grind
  have e5 : s / w * w = s := Rat.div_mul_cancel hw
  grind
theorem bare {M : List (List Int)} {m : Nat} {v : Nat → V4} (h : Sq m M) (hm : m ≤ 4) (hg : ∀ i j, i < m → j < m → (gi M i j : Rat) = ip (v i) (v j)) : ∀ c, c ≤ m → (∀ d, d < c → 0 < piv M d) →
    ((dRun M c).2 : Rat) = D v c ∧ 0 < (dRun M c).2 ∧ ∀ i j, c ≤ i → i < m → c ≤ j → j < m → (gi (dRun M c).1 i j : Rat) = D v c * ip (U v c i) (U v c j) := by
  intro rv
  induction rv with
  | zero => exact fun _  _ => ⟨rfl, by show (0 : Int) < 1; decide, fun i j _ h1 _ h2 => by rw [D, Rat.one_mul]; exact hg i j h1 h2⟩
  | succ c ih =>
    intro hc  hp
    first | (refine ob2_1 (ih (by first | with_reducible assumption | with_reducible exact Int.natCast_nonneg _ | lia | omega) fun d hd => hp d (by first | with_reducible assumption | with_reducible exact Int.natCast_nonneg _ | lia | omega)) fun h1 h2 h3 => ?_) | (refine ob1_2 (ih (by first | with_reducible assumption | with_reducible exact Int.natCast_nonneg _ | lia | omega) fun d hd => hp d (by first | with_reducible assumption | with_reducible exact Int.natCast_nonneg _ | lia | omega)) fun h1 h2 h3 => ?_) | (refine ob0_3 (ih (by exact om34 hc) fun d hd => hp d (by exact om35 hd)) fun h1 h2 h3 => ?_) | obtain ⟨h1, h2, h3⟩ := ih (by first | with_reducible assumption | with_reducible exact Int.natCast_nonneg _ | lia | omega) fun d hd => hp d (by first | with_reducible assumption | with_reducible exact Int.natCast_nonneg _ | lia | omega)
    have hl : (((dRun M (c + 1)).2 : Int) : Rat) = D v (c + 1) := h3 c c (Nat.le_refl _) (by exact om39 hc) (Nat.le_refl _) (by exact om39 hc)
    have hpc : 0 < (dRun M (c + 1)).2 := hp c (by exact om40)
    refine ⟨hl, hpc, fun i j hi hi' hj hj' => ?_⟩
    first | (refine ob1_1 (dvd_run h hm (fun d hd => hp d (by exact om35 hd)) (show c < i by exact om39 hi) hi' (show c < j by exact om39 hj) hj') fun k hk => ?_) | (refine ob0_2 (dvd_run h hm (fun d hd => hp d (by first | with_reducible assumption | with_reducible exact Int.natCast_nonneg _ | lia | omega)) (show c < i by (first | with_reducible assumption | with_reducible exact Int.natCast_nonneg _ | lia | omega)) hi' (show c < j by (first | with_reducible assumption | with_reducible exact Int.natCast_nonneg _ | lia | omega)) hj') fun k hk => ?_) | obtain ⟨k, hk⟩ := dvd_run h hm (fun d hd => hp d (by first | with_reducible assumption | with_reducible exact Int.natCast_nonneg _ | lia | omega)) (show c < i by (first | with_reducible assumption | with_reducible exact Int.natCast_nonneg _ | lia | omega)) hi' (show c < j by (first | with_reducible assumption | with_reducible exact Int.natCast_nonneg _ | lia | omega)) hj'
    rw [gi_step h (by exact om39 hi) hi' (by exact om39 hj) hj', hk, Int.mul_fdiv_cancel_left _ (by exact om105 h2)]
    have hd : D v c ≠ 0 := by
      rw [← h1]; exact fun q => by have := Rat.intCast_eq_zero_iff.mp q; (first | with_reducible assumption | with_reducible exact Int.natCast_nonneg _ | lia | omega)
    have hw : ip (U v c c) (U v c c) ≠ 0 := fun q => by
      rw [D, q, Rat.mul_zero] at hl
      have := Rat.intCast_eq_zero_iff.mp hl; (first | with_reducible assumption | with_reducible exact Int.natCast_nonneg _ | lia | omega)
    have key := step_alg h1 hd hw hk (h3 c c (Nat.le_refl _) (by exact om110 hj hj') (Nat.le_refl _) (by exact om110 hj hj')) (h3 i c (by exact om34 hi) hi' (Nat.le_refl _) (by exact om110 hj hj')) (h3 c j (Nat.le_refl _) (by exact om110 hj hj') (by exact om34 hj) hj') (h3 i j (by exact om34 hi) hi' (by exact om34 hj) hj')
    rw [key, D, U, U, ip_sb, ip_sb', ip_sb', ip_comm (U v c j) (U v c c)]
    have e5 : ip (U v c i) (U v c c) / ip (U v c c) (U v c c) * ip (U v c c) (U v c c) = ip (U v c i) (U v c c) := Rat.div_mul_cancel hw
    have e6 : ip (U v c c) (U v c j) / ip (U v c c) (U v c c) * ip (U v c c) (U v c c) = ip (U v c c) (U v c j) := Rat.div_mul_cancel hw
    generalize ip (U v c i) (U v c c) / ip (U v c c) (U v c c) = s at *
    generalize ip (U v c c) (U v c j) / ip (U v c c) (U v c c) = t at *
    grind
theorem rpos_of {x : Int} {q : Rat} (h : (x : Rat) = q) (hq : 0 ≤ q) : 0 ≤ x := by
  rw [← h] at hq
  exact Rat.intCast_nonneg.mp hq
theorem good_of {M : List (List Int)} {m : Nat} {v : Nat → V4} (h : Sq m M) (hm : m ≤ 4) (hg : ∀ i j, i < m → j < m → (gi M i j : Rat) = ip (v i) (v j)) : Good M := by
  intro c hc hp
  rw [h.1] at hc
  first | (refine ob2_1 (bare h hm hg c (by first | with_reducible assumption | with_reducible exact Int.natCast_nonneg _ | lia | omega) hp) fun h1 h2 h3 => ?_) | (refine ob1_2 (bare h hm hg c (by first | with_reducible assumption | with_reducible exact Int.natCast_nonneg _ | lia | omega) hp) fun h1 h2 h3 => ?_) | (refine ob0_3 (bare h hm hg c (by exact om111 hc) hp) fun h1 h2 h3 => ?_) | obtain ⟨h1, h2, h3⟩ := bare h hm hg c (by first | with_reducible assumption | with_reducible exact Int.natCast_nonneg _ | lia | omega) hp
  have hl : (piv M c : Rat) = D v c * ip (U v c c) (U v c c) := h3 c c (Nat.le_refl _) hc (Nat.le_refl _) hc
  refine ⟨rpos_of hl (Rat.mul_nonneg (D_nn v c) (ip_nn _)), fun e q h4 h5 => ?_⟩
  rw [h.1] at h5
  rw [e] at hl
  have hd : D v c ≠ 0 := by
    rw [← h1]; exact fun q => by have := Rat.intCast_eq_zero_iff.mp q; (first | with_reducible assumption | with_reducible exact Int.natCast_nonneg _ | lia | omega)
  have hw : ip (U v c c) (U v c c) = 0 := by
    rcases Rat.mul_eq_zero.mp hl.symm with z | z
    · exact absurd z hd
    · exact z
  have h6 := h3 q c h4 h5 (Nat.le_refl _) hc
  rw [ip_comm, ip_all hw, Rat.mul_zero] at h6
  exact Rat.intCast_eq_zero_iff.mp h6
theorem detV_of {M : List (List Int)} {m : Nat} {v : Nat → V4} (h : Sq m M) (hm : m ≤ 4) (hg : ∀ i j, i < m → j < m → (gi M i j : Rat) = ip (v i) (v j)) : (detV M : Rat) = D v m := by
  unfold detV
  split
  · rename_i hp
    rw [h.1] at hp ⊢
    exact (bare h hm hg m (Nat.le_refl _) hp).1
  · rename_i hn
    have key : ∀ c, c ≤ m → D v c ≠ 0 → ∀ d, d < c → 0 < piv M d := by
      intro c
      induction c with
      | zero => intro _ _ d hd; cases hd
      | succ c ih =>
        intro hc hD
        have hD' : D v c ≠ 0 := fun q => hD (by rw [D, q, Rat.zero_mul])
        have ihc := ih (by exact om34 hc) hD'
        intro d hd
        rcases Nat.lt_or_ge d c with q | q
        · exact ihc d q
        · have : d = c := by exact om76 hd q
          subst this
          have hl : (piv M d : Rat) = D v (d + 1) := (bare h hm hg d (by exact om34 hc) ihc).2.2 d d (Nat.le_refl _) (by exact om39 hc) (Nat.le_refl _) (by exact om39 hc)
          have h0 := rpos_of hl (D_nn v _)
          have hne : piv M d ≠ 0 := fun q => hD (by rw [← hl, q]; rfl)
          exact om112 h0 hne
    by_cases z : D v m = 0
    · rw [z]; rfl
    · exact absurd (by rw [h.1]; exact key m (Nat.le_refl _) z) hn
/-! from lists to vectors -/
noncomputable def vec (c : List Int) : V4 := ⟨((c.getD 0 0 : Int) : Rat), ((c.getD 1 0 : Int) : Rat), ((c.getD 2 0 : Int) : Rat), ((c.getD 3 0 : Int) : Rat)⟩
noncomputable def vs (cs : List (List Int)) (aim : List Int) (j : Nat) : V4 := vec ((cs ++ [aim]).getD j [])
noncomputable def sc (t : Rat) (z : V4) : V4 := ⟨t * z.a, t * z.b, t * z.c, t * z.d⟩
theorem four {c : List Int} (h : c.length = 4) : ∃ x y z u, c = [x, y, z, u] := by
  match c, h with
  | [x, y, z, u], _ => exact ⟨x, y, z, u, rfl⟩
theorem dot_vec {c d : List Int} (hc : c.length = 4) (hd : d.length = 4) : (dot c d : Rat) = ip (vec c) (vec d) := by
  first | (refine ob4_1 (four hc) fun x y z u zr114 => ?_; subst zr114) | (refine ob3_2 (four hc) fun x y z u zr115 => ?_; subst zr115) | (refine ob2_3 (four hc) fun x y z u zr116 => ?_; subst zr116) | (refine ob1_4 (four hc) fun x y z u zr117 => ?_; subst zr117) | (refine ob0_5 (four hc) fun x y z u zr118 => ?_; subst zr118) | obtain ⟨x, y, z, u, rfl⟩ := four hc
  first | (refine ob4_1 (four hd) fun x' y' z' u' zr119 => ?_; subst zr119) | (refine ob3_2 (four hd) fun x' y' z' u' zr120 => ?_; subst zr120) | (refine ob2_3 (four hd) fun x' y' z' u' zr121 => ?_; subst zr121) | (refine ob1_4 (four hd) fun x' y' z' u' zr122 => ?_; subst zr122) | (refine ob0_5 (four hd) fun x' y' z' u' zr123 => ?_; subst zr123) | obtain ⟨x', y', z', u', rfl⟩ := four hd
  have e : dot [x, y, z, u] [x', y', z', u'] = x * x' + (y * y' + (z * z' + (u * u' + 0))) := rfl
  have e2 : ip (vec [x, y, z, u]) (vec [x', y', z', u']) = x * x' + y * y' + z * z' + u * u' := rfl
  rw [e, e2, Rat.intCast_add, Rat.intCast_add, Rat.intCast_add, Rat.intCast_add, Rat.intCast_mul, Rat.intCast_mul, Rat.intCast_mul, Rat.intCast_mul]
  have e3 : ((0 : Int) : Rat) = 0 := rfl
  rw [e3]; grind
theorem getD_map' {α β : Type} {f : α → β} {d : α} {l : List α} (i : Nat) : (l.map f).getD i (f d) = f (l.getD i d) := by
  rw [List.getD_eq_getElem?_getD, List.getElem?_map, List.getD_eq_getElem?_getD]
  cases l[i]? <;> rfl
theorem getD_map_lt {α β : Type} {f : α → β} {d : α} {e : β} {l : List α} {i : Nat} (h : i < l.length) : (l.map f).getD i e = f (l.getD i d) := by
  rw [List.getD_eq_getElem?_getD, List.getElem?_map, List.getD_eq_getElem?_getD, List.getElem?_eq_getElem h]; rfl
theorem en_qmat (M : List (List Int)) (i j : Nat) : en (qmat M) i j = (gi M i j : Rat) := by
  have e1 : (qmat M).getD i [] = qrow (M.getD i []) := getD_map' (f := qrow) (d := []) i
  have e2 : (qrow (M.getD i [])).getD j 0 = (((M.getD i []).getD j 0 : Int) : Rat) := getD_map' (f := fun i : Int => (i : Rat)) (d := 0) j
  unfold en gi
  rw [e1, e2]
theorem gi_prods {cs : List (List Int)} {i j : Nat} (hi : i < cs.length) (hj : j < cs.length) : gi (prods cs) i j = dot (cs.getD i []) (cs.getD j []) := by
  unfold gi prods
  rw [getD_map_lt (d := []) hi, getD_map_lt (d := []) hj]
theorem vs_lt {cs : List (List Int)} {aim : List Int} {j : Nat} (h : j < cs.length) : vs cs aim j = vec (cs.getD j []) := by
  rw [vs, List.getD_eq_getElem?_getD, List.getElem?_append_left h, ← List.getD_eq_getElem?_getD]
theorem vs_at {cs : List (List Int)} {aim : List Int} : vs cs aim cs.length = vec aim := by
  rw [vs, List.getD_eq_getElem?_getD, List.getElem?_append_right (Nat.le_refl _), Nat.sub_self]; rfl
theorem gram_ip {cs : List (List Int)} {aim : List Int} (h4 : ∀ c ∈ cs, c.length = 4) {i j : Nat} (hi : i < cs.length) (hj : j < cs.length) : (gi (prods cs) i j : Rat) = ip (vs cs aim i) (vs cs aim j) := by
  rw [gi_prods hi hj, dot_vec (h4 _ (getD_mem hi)) (h4 _ (getD_mem hj)), vs_lt hi, vs_lt hj]
theorem gram_ip' {cs : List (List Int)} {aim : List Int} (h4 : ∀ c ∈ cs, c.length = 4) (ha : aim.length = 4) {i j : Nat} (hi : i < cs.length + 1) (hj : j < cs.length + 1) : (gi (prods (cs ++ [aim])) i j : Rat) = ip (vs cs aim i) (vs cs aim j) := by
  have l : (cs ++ [aim]).length = cs.length + 1 := by simp
  have h4' : ∀ c ∈ cs ++ [aim], c.length = 4 := fun c hc => by
    rcases List.mem_append.mp hc with q | q
    · exact h4 c q
    · rw [List.mem_singleton.mp q]; exact ha
  rw [gi_prods (by exact om113 hi l) (by exact om113 hj l), dot_vec (h4' _ (getD_mem (by exact om113 hi l))) (h4' _ (getD_mem (by exact om113 hj l)))]; rfl

/-! what is left over -/
theorem dvd_foldl : ∀ (qs : List Rat) (t : Int), t ∣ qs.foldl (fun t q => t * (q.den : Int)) t := by
  intro rv
  induction rv with
  | nil => exact fun t => ⟨1, (Int.mul_one t).symm⟩
  | cons q qs ih => exact fun t => Int.dvd_trans ⟨(q.den : Int), rfl⟩ (ih (t * (q.den : Int)))
theorem den_dvd : ∀ (qs : List Rat) (t : Int), ∀ q ∈ qs, (q.den : Int) ∣ qs.foldl (fun t q => t * (q.den : Int)) t := by
  intro qs
  induction qs with
  | nil => exact fun _ _ h => absurd h List.not_mem_nil
  | cons p qs ih =>
    intro t q h
    rcases List.mem_cons.mp h with e | e
    · subst e
      exact Int.dvd_trans ⟨t, Int.mul_comm _ _⟩ (dvd_foldl qs (t * (q.den : Int)))
    · exact ih _ q e
theorem share_rat {qs : List Rat} {q : Rat} (h : q ∈ qs) : (shareOf (prodDen qs) q : Rat) = (prodDen qs : Rat) * q := by
  first | (refine ob1_1 (den_dvd qs 1 q h) fun k hk => ?_) | (refine ob0_2 (den_dvd qs 1 q h) fun k hk => ?_) | obtain ⟨k, hk⟩ := den_dvd qs 1 q h
  have hk : prodDen qs = (q.den : Int) * k := hk
  have hd : (q.den : Int) ≠ 0 := by have := q.den_pos; exact om114 this
  rw [shareOf, hk, Int.mul_fdiv_cancel_left _ hd, Rat.intCast_mul, Rat.intCast_mul]
  have hd2 : (q.den : Rat) ≠ 0 := fun z => by
    rw [← Rat.intCast_natCast] at z
    exact hd (Rat.intCast_eq_zero_iff.mp z)
  have e0 : (q.num : Rat) / (q.den : Rat) = q := by rw [← Rat.mkRat_eq_div]; exact Rat.mkRat_self q
  have : q * (q.den : Rat) = q.num := by
    have e1 : (q.num : Rat) / (q.den : Rat) * (q.den : Rat) = q.num := Rat.div_mul_cancel hd2
    rwa [e0] at e1
  have e : (((q.den : Nat) : Int) : Rat) = (q.den : Rat) := Rat.intCast_natCast q.den
  rw [e]
  grind
theorem zip_getD {f : Int → Int → Int} {l c : List Int} {i : Nat} (hl : l.length = 4) (hc : c.length = 4) (hi : i < 4) : (List.zipWith f l c).getD i 0 = f (l.getD i 0) (c.getD i 0) := by
  refine getD_eq ?_
  rw [List.getElem?_zipWith, get_getD 0 (show i < l.length by exact om115 hl hi), get_getD 0 (show i < c.length by exact om115 hc hi)]
theorem vec_step {l c : List Int} (hl : l.length = 4) (hc : c.length = 4) (share : Int) : vec (restStep l c share) = sb (vec l) share (vec c) := by
  unfold vec restStep sb
  simp only []
  rw [zip_getD hl hc (by decide), zip_getD hl hc (by decide), zip_getD hl hc (by decide), zip_getD hl hc (by decide)]
  rw [Rat.intCast_sub, Rat.intCast_mul, Rat.intCast_sub, Rat.intCast_mul, Rat.intCast_sub, Rat.intCast_mul, Rat.intCast_sub, Rat.intCast_mul]
theorem vec_map {l : List Int} (hl : l.length = 4) (t : Int) : vec (l.map fun x => t * x) = sc t (vec l) := by
  first | (refine ob4_1 (four hl) fun x y z u zr124 => ?_; subst zr124) | (refine ob3_2 (four hl) fun x y z u zr125 => ?_; subst zr125) | (refine ob2_3 (four hl) fun x y z u zr126 => ?_; subst zr126) | (refine ob1_4 (four hl) fun x y z u zr127 => ?_; subst zr127) | (refine ob0_5 (four hl) fun x y z u zr128 => ?_; subst zr128) | obtain ⟨x, y, z, u, rfl⟩ := four hl
  have e : vec ([x, y, z, u].map fun x => t * x) = ⟨((t * x : Int) : Rat), ((t * y : Int) : Rat), ((t * z : Int) : Rat), ((t * u : Int) : Rat)⟩ := rfl
  rw [e, Rat.intCast_mul, Rat.intCast_mul, Rat.intCast_mul, Rat.intCast_mul]; rfl
theorem sb_sc (x y : V4) (t q : Rat) : sb (sc t x) (t * q) y = sc t (sb x q y) := by
  unfold sb sc
  simp only []
  congr 1 <;> grind
theorem vec_rest {cs : List (List Int)} {qs : List Rat} {aim b : List Int} (h4 : ∀ c ∈ cs, c.length = 4) (hb : b.length = 4) (hq : qs.length = cs.length) :
    ∀ k, k ≤ cs.length → vec (restTo cs qs b k) = sc (prodDen qs) (res (vs cs aim) (fun j => qs.getD j 0) (vec b) k) := by
  intro rv
  induction rv with
  | zero => intro _; rw [restTo, vec_map hb]; rfl
  | succ k ih =>
    intro h
    rw [restTo, vec_step (restTo_len h4 hb k (by exact om57 h)) (h4 _ (getD_mem (by exact om58 h))), ih (by exact om57 h), share_rat (getD_mem (by exact om116 hq h)), sb_sc, res, vs_lt (by exact om58 h)]
theorem ip_sc (t : Rat) (x y : V4) : ip (sc t x) y = t * ip x y := by unfold ip sc; grind
theorem ip_sc' (t : Rat) (x y : V4) : ip x (sc t y) = t * ip x y := by unfold ip sc; grind

/-! pivots -/
theorem cl_rows (v : Nat → V4) (w : Nat) {C : V4 → Prop} (hC : ∀ x y q, C x → C y → C (sb x q y)) (hz : C vz) : Cl fun r => ∃ y, C y ∧ ∀ j, j < w → r.getD j 0 = ip y (v j) where
  sub := fun q r p ⟨y, cy, hy⟩ ⟨z, cz, hz⟩ hl => ⟨sb y q z, hC y z q cy cz, fun j hj => by rw [rowSub_getD hl, hy j hj, hz j hj, ip_sb]⟩
  mul := fun q r ⟨y, cy, hy⟩ => ⟨sb vz (-q) y, hC _ _ _ hz cy, fun j hj => by
    have e : (r.map fun x => x * q).getD j 0 = r.getD j 0 * q := by
      rcases Nat.lt_or_ge j r.length with h1 | h1
      · exact getD_map_lt h1
      · rw [getD_over (by rw [List.length_map]; exact h1), getD_over h1]; grind
    rw [e, hy j hj, ip_sb, ip_vz]; grind⟩
theorem ech_shp {M : List (List Rat)} {n w : Nat} (R : Rect n w M) (hw : wd M = w) : Shp n w (ech M).1 (ech M).2 w := by
  rw [ech, hw]; exact shp R w
theorem sm_one {f : Nat → Rat} {n c : Nat} (hc : c < n) (h : ∀ j, j ≠ c → j < n → f j = 0) : sm n f = f c := by
  have e : sm n f = sm n fun j => if j = c then f c else 0 := sm_congr n fun j hj => by
    by_cases q : j = c
    · rw [q, if_pos rfl]
    · rw [if_neg q, h j q hj]
  rw [e, sm_upd (f := fun _ => 0) (p := c) (fun j hj => if_neg hj), if_pos hc, if_pos rfl, sm_zero n fun _ _ => rfl]
  grind
theorem pivot_iff {M : List (List Rat)} {n w : Nat} {v : Nat → V4} (R : Rect n w M) (hw : wd M = w) (hrow : ∀ r ∈ M, ∃ y, True ∧ ∀ j, j < w → r.getD j 0 = ip y (v j))
    (hnull : ∀ x : List Rat, (∀ r ∈ M, rd w r x = 0) → res v (fun j => x.getD j 0) vz w = vz) {c : Nat} (hc : c < w) : c ∈ (ech M).2 ↔ ¬ Sp v c (v c) := by
  have S := ech_shp R hw
  constructor
  · intro h hs
    first | (refine ob2_1 (S.idx h) fun k hk e => ?_) | (refine ob1_2 (S.idx h) fun k hk e => ?_) | (refine ob0_3 (S.idx h) fun k hk e => ?_) | obtain ⟨k, hk, e⟩ := S.idx h
    have hkn : k < n := by have := S.le; exact om89 hk this
    have := echTo_all (cl_rows v w (C := fun _ => True) (fun _ _ _ _ _ => trivial) trivial) R hrow (wd M) _ (getD_mem (d := []) (show k < (echTo M (wd M)).1.length by rw [(echTo_rect R _).1]; exact hkn))
    first | (refine ob2_1 (this) fun y _ hy => ?_; try clear this) | (refine ob1_2 (this) fun y _ hy => ?_; try clear this) | (refine ob0_3 (this) fun y _ hy => ?_; try clear this) | obtain ⟨y, _, hy⟩ := this
    have h1 := S.unit k hk k hkn
    rw [e, if_pos rfl] at h1
    have h2 := hy c hc
    have h3 : ip y (v c) = 1 := by rw [← h2]; exact h1
    have h4 := hs y fun j hj => by
      rw [ip_comm, ← hy j (by exact om117 hc hj)]
      exact S.left k hk j (by rw [e]; exact hj)
    rw [ip_comm, h3] at h4
    exact absurd h4 (by decide)
  · intro h
    refine Classical.byContradiction fun hn => h ?_
    have hx := hnull (nullTo (ech M).1 (ech M).2 w c (ech M).2.length) (echTo_all_rev (rd_cl w _) R (wd M) (nullTo_null S hc hn))
    intro y hy
    have e := ip_res v (fun j => (nullTo (ech M).1 (ech M).2 w c (ech M).2.length).getD j 0) vz y w
    rw [hx, ip_vz, sm_one hc ?_, nullTo_own hc _ fun l hl => S.ne hn hl] at e
    · grind
    · intro j hj hjw
      rcases Nat.lt_or_ge j c with q | q
      · rw [hy j q, Rat.mul_zero]
      · rw [nullTo_above S hn (by exact om118 hj q), Rat.zero_mul]
theorem pv_same {M N : List (List Rat)} {n m w : Nat} (R : Rect n w M) (R' : Rect m w N) (hw : wd M = w) (hw' : wd N = w) (h : ∀ c, c < w → (c ∈ (ech M).2 ↔ c ∈ (ech N).2)) : (ech M).2 = (ech N).2 := by
  refine (ech_shp R hw).all.trans (Eq.trans (List.filter_congr fun d hd => ?_) (ech_shp R' hw').all.symm)
  exact decide_eq_decide.mpr (h d (List.mem_range.mp hd))

/-! solving -/
theorem solTo_other {E : List (List Rat)} {pv : List Nat} {w j : Nat} : ∀ k, (∀ l, l < k → pv.getD l 0 ≠ j) → (solTo E pv w k).getD j 0 = 0 := by
  intro rv
  induction rv with
  | zero => intro _; rw [solTo, replicate_getD]
  | succ k ih =>
    intro h
    rw [solTo, getD_set, if_neg (fun q => h k (by exact om40) q.1)]
    exact ih fun l hl => h l (by exact om35 hl)
theorem solTo_row {n w : Nat} {E : List (List Rat)} {pv : List Nat} (S : Shp n (w + 1) E pv (w + 1)) (hn : w ∉ pv) {i : Nat} (hi : i < n) : ∀ k, k ≤ pv.length → rd w (E.getD i []) (solTo E pv w k) = if i < k then en E i w else 0 := by
  intro rv
  induction rv with
  | zero => intro _; rw [solTo, rd_replicate, if_neg (by exact om91)]
  | succ k ih =>
    intro h
    have hp := S.lt _ (getD_mem (d := 0) (show k < pv.length by exact om58 h))
    have hp2 := S.ne hn (show k < pv.length by exact om58 h)
    rw [solTo, rd_set (solTo_len ..) (by exact om119 hp hp2), ih (by exact om57 h), solTo_other k fun l hl q => by have := S.inj (by exact om95 h hl) (by exact om58 h) q; (first | with_reducible assumption | with_reducible exact Int.natCast_nonneg _ | lia | omega)]
    have hu := S.unit k (by exact om58 h) i hi
    unfold en at hu ⊢
    rw [hu]
    by_cases e : i = k
    · subst e; rw [if_neg (by exact om92), if_pos rfl, if_pos (by exact om40)]; grind
    · rw [if_neg e]
      by_cases e2 : i < k
      · rw [if_pos e2, if_pos (by exact om35 e2)]; grind
      · rw [if_neg e2, if_neg (by exact om96 e e2)]; grind
theorem rd_congr {w : Nat} {r r' x x' : List Rat} (h : ∀ j, j < w → r.getD j 0 = r'.getD j 0) (h2 : ∀ j, j < w → x.getD j 0 = x'.getD j 0) : rd w r x = rd w r' x' :=
  sm_congr w fun j hj => by rw [h j hj, h2 j hj]
theorem sol_solves {M : List (List Rat)} {b : List Rat} {n w : Nat} (R : Rect n (w + 1) (aug M b)) (hw : wd (aug M b) = w + 1) (hm : wd M = w) (hn : w ∉ (ech (aug M b)).2) : ∀ r ∈ aug M b, rd w r (sol M b) = r.getD w 0 := by
  have S := ech_shp R hw
  have key : ∀ r, rd (w + 1) r (sol M b ++ [-1]) = rd w r (sol M b) - r.getD w 0 := fun r => by
    have l : (sol M b).length = w := by rw [sol_len, hm]
    have e1 : (sol M b ++ [-1]).getD w 0 = -1 := by
      rw [List.getD_eq_getElem?_getD, List.getElem?_append_right (by exact om120 l), l, Nat.sub_self]; rfl
    have e2 : sm w (fun j => r.getD j 0 * (sol M b ++ [-1]).getD j 0) = rd w r (sol M b) := sm_congr w fun j hj => by
      rw [List.getD_eq_getElem?_getD (l := sol M b ++ [-1]), List.getElem?_append_left (by exact om50 l hj), ← List.getD_eq_getElem?_getD]
    rw [rd, sm, e1, e2]; grind
  intro r hr
  have := echTo_all_rev (rd_cl (w + 1) (sol M b ++ [-1])) R (wd (aug M b)) (fun r hr => by
    rw [key]
    first | (refine ob1_1 (List.mem_iff_getElem?.mp hr) fun i hi => ?_) | (refine ob0_2 (List.mem_iff_getElem?.mp hr) fun i hi => ?_) | obtain ⟨i, hi⟩ := List.mem_iff_getElem?.mp hr
    have hin : i < n := by rw [← S.rect.1]; exact (List.getElem?_eq_some_iff.mp hi).1
    have h1 := solTo_row S hn hin (ech (aug M b)).2.length (Nat.le_refl _)
    have e3 : rd w r (sol M b) = if i < (ech (aug M b)).2.length then en (ech (aug M b)).1 i w else 0 := by
      rw [← h1, sol, hm]
      have e4 : (ech (aug M b)).1.getD i [] = r := getD_eq hi
      rw [e4]
    have e5 : r.getD w 0 = en (ech (aug M b)).1 i w := by
      have e4 : (ech (aug M b)).1.getD i [] = r := getD_eq hi
      rw [en, e4]
    rw [e3, e5]
    by_cases q : i < (ech (aug M b)).2.length
    · rw [if_pos q]; grind
    · rw [if_neg q, S.low i (by exact om94 q) hin w (by exact om40)]; grind) r hr
  rw [key] at this
  grind
theorem mem_qmat {M : List (List Int)} {r : List Rat} (h : r ∈ qmat M) : ∃ i, i < M.length ∧ ∀ j, r.getD j 0 = (gi M i j : Rat) := by
  first | (refine ob1_1 (List.mem_iff_getElem?.mp h) fun i hi => ?_) | (refine ob0_2 (List.mem_iff_getElem?.mp h) fun i hi => ?_) | obtain ⟨i, hi⟩ := List.mem_iff_getElem?.mp h
  refine ⟨i, ?_, fun j => ?_⟩
  · have := (List.getElem?_eq_some_iff.mp hi).1
    rw [qmat, List.length_map] at this; exact this
  · rw [← en_qmat, en, getD_eq hi]
theorem qmat_mem {M : List (List Int)} {i : Nat} (h : i < M.length) : (qmat M).getD i [] ∈ qmat M := getD_mem (by rw [qmat, List.length_map]; exact h)

/-- the columns and the aim -/
structure Base4 (n : Nat) (cs : List (List Int)) (aim : List Int) : Prop where
  len : cs.length = n
  pos : 0 < n
  le : n ≤ 3
  rows : ∀ c ∈ cs, c.length = 4
  alen : aim.length = 4
section
variable {n : Nat} {cs : List (List Int)} {aim : List Int} (X : Base4 n cs aim)
include X
theorem Base4.sq : Sq n (prods cs) := by
  have := prods_sq cs
  rwa [X.len] at this
theorem Base4.R : Rect n n (qmat (prods cs)) := qmat_rect X.sq.1 X.sq.2
theorem Base4.w : wd (qmat (prods cs)) = n := wd_rect X.R X.pos
theorem Base4.g {i j : Nat} (hi : i < n) (hj : j < n) : (gi (prods cs) i j : Rat) = ip (vs cs aim i) (vs cs aim j) := gram_ip X.rows (by rw [X.len]; exact hi) (by rw [X.len]; exact hj)
theorem Base4.vn : vs cs aim n = vec aim := by rw [← X.len]; exact vs_at
theorem Base4.Rt : Rect 4 n (qmat (transp cs 4)) := qmat_rect (by simp [transp]) fun r hr => by
  first | (refine ob2_1 (List.mem_map.mp hr) fun i _ zr129 => ?_; subst zr129) | (refine ob1_2 (List.mem_map.mp hr) fun i _ zr130 => ?_; subst zr130) | (refine ob0_3 (List.mem_map.mp hr) fun i _ zr131 => ?_; subst zr131) | obtain ⟨i, _, rfl⟩ := List.mem_map.mp hr
  rw [List.length_map]; exact X.len
theorem Base4.wt : wd (qmat (transp cs 4)) = n := wd_rect X.Rt (by decide)
theorem Base4.rl : (rights cs aim).length = n := by rw [rights, List.length_map]; exact X.len
theorem Base4.Ra : Rect n (n + 1) (aug (qmat (prods cs)) (qrow (rights cs aim))) := aug_rect X.R (by rw [qrow, List.length_map]; exact X.rl)
theorem Base4.wa : wd (aug (qmat (prods cs)) (qrow (rights cs aim))) = n + 1 := wd_rect X.Ra X.pos
/-- null numbers of the products make nothing -/
theorem Base4.nullG (x : List Rat) (h : ∀ r ∈ qmat (prods cs), rd n r x = 0) : res (vs cs aim) (fun j => x.getD j 0) vz n = vz := by
  have key : ∀ j, j < n → ip (vs cs aim j) (res (vs cs aim) (fun j => x.getD j 0) vz n) = 0 := fun j hj => by
    have h1 := h _ (qmat_mem (M := prods cs) (i := j) (by rw [X.sq.1]; exact hj))
    rw [ip_comm, ip_res, ip_vz]
    have e : sm n (fun l => x.getD l 0 * ip (vs cs aim l) (vs cs aim j)) = rd n ((qmat (prods cs)).getD j []) x := sm_congr n fun l hl => by
      have e2 : ((qmat (prods cs)).getD j []).getD l 0 = ip (vs cs aim j) (vs cs aim l) := by
        rw [← X.g hj hl, ← en_qmat]; rfl
      rw [e2, ip_comm (vs cs aim j), Rat.mul_comm]
    rw [e, h1]; grind
  refine ip_z ?_
  rw [ip_res, ip_vz, sm_zero n fun j hj => by rw [key j hj, Rat.mul_zero]]
  grind
theorem Base4.rowG : ∀ r ∈ qmat (prods cs), ∃ y, True ∧ ∀ j, j < n → r.getD j 0 = ip y (vs cs aim j) := fun r hr => by
  first | (refine ob2_1 (mem_qmat hr) fun i hi e => ?_) | (refine ob1_2 (mem_qmat hr) fun i hi e => ?_) | (refine ob0_3 (mem_qmat hr) fun i hi e => ?_) | obtain ⟨i, hi, e⟩ := mem_qmat hr
  rw [X.sq.1] at hi
  exact ⟨_, trivial, fun j hj => by rw [e j, X.g hi hj]⟩
theorem Base4.gi_t {i j : Nat} (hi : i < 4) (hj : j < n) : gi (transp cs 4) i j = (cs.getD j []).getD i 0 := by
  have e1 : (transp cs 4).getD i [] = cs.map fun c => c.getD i 0 := by
    have e0 := getD_map_lt (f := fun at' => cs.map fun c => c.getD at' 0) (d := 0) (e := []) (l := List.range 4) (i := i) (by rw [List.length_range]; exact hi)
    have e2 : (List.range 4).getD i 0 = i := getD_eq (List.getElem?_range hi)
    rw [e2] at e0
    exact e0
  unfold gi
  rw [e1]
  exact getD_map_lt (by rw [X.len]; exact hj)
theorem Base4.rowT : ∀ r ∈ qmat (transp cs 4), ∃ y, True ∧ ∀ j, j < n → r.getD j 0 = ip y (vs cs aim j) := fun r hr => by
  first | (refine ob2_1 (mem_qmat hr) fun i hi e => ?_) | (refine ob1_2 (mem_qmat hr) fun i hi e => ?_) | (refine ob0_3 (mem_qmat hr) fun i hi e => ?_) | obtain ⟨i, hi, e⟩ := mem_qmat hr
  have hi : i < 4 := by rw [transp, List.length_map, List.length_range] at hi; exact hi
  refine ⟨⟨if i = 0 then 1 else 0, if i = 1 then 1 else 0, if i = 2 then 1 else 0, if i = 3 then 1 else 0⟩, trivial, fun j hj => ?_⟩
  rw [e j, X.gi_t hi hj, vs_lt (by rw [X.len]; exact hj)]
  unfold ip vec
  rcases (show i = 0 ∨ i = 1 ∨ i = 2 ∨ i = 3 by lia) with rfl | rfl | rfl | rfl
  · simp only [reduceIte, Nat.reduceEqDiff]; grind
  · simp only [reduceIte, Nat.reduceEqDiff]; grind
  · simp only [reduceIte, Nat.reduceEqDiff]; grind
  · simp only [reduceIte, Nat.reduceEqDiff]; grind
theorem res_part (v : Nat → V4) (x : Nat → Rat) (f : V4 → Rat) (hf : ∀ a q b, f (sb a q b) = f a - q * f b) (b : V4) : ∀ n, f (res v x b n) = f b - sm n fun j => x j * f (v j) := by
  intro rv
  induction rv with
  | zero => rw [res, sm]; grind
  | succ n ih => rw [res, sm, hf, ih]; grind
theorem Base4.nullT (x : List Rat) (h : ∀ r ∈ qmat (transp cs 4), rd n r x = 0) : res (vs cs aim) (fun j => x.getD j 0) vz n = vz := by
  have key : ∀ (f : V4 → Rat) (i : Nat), i < 4 → (∀ a q b, f (sb a q b) = f a - q * f b) → f vz = 0 → (∀ c, f (vec c) = ((c.getD i 0 : Int) : Rat)) → f (res (vs cs aim) (fun j => x.getD j 0) vz n) = 0 := fun f i hi hf hz hv => by
    have h1 := h _ (qmat_mem (M := transp cs 4) (i := i) (by rw [transp, List.length_map, List.length_range]; exact hi))
    rw [res_part X _ _ f hf, hz]
    have e : sm n (fun l => x.getD l 0 * f (vs cs aim l)) = rd n ((qmat (transp cs 4)).getD i []) x := sm_congr n fun l hl => by
      have e2 : ((qmat (transp cs 4)).getD i []).getD l 0 = f (vs cs aim l) := by
        rw [vs_lt (by rw [X.len]; exact hl), hv, ← X.gi_t hi hl, ← en_qmat]; rfl
      rw [e2, Rat.mul_comm]
    rw [e, h1]; grind
  have h0 := key (fun z => z.a) 0 (by decide) (fun _ _ _ => rfl) rfl fun _ => rfl
  have h1 := key (fun z => z.b) 1 (by decide) (fun _ _ _ => rfl) rfl fun _ => rfl
  have h2 := key (fun z => z.c) 2 (by decide) (fun _ _ _ => rfl) rfl fun _ => rfl
  have h3 := key (fun z => z.d) 3 (by decide) (fun _ _ _ => rfl) rfl fun _ => rfl
  have eta : ∀ z : V4, z.a = 0 → z.b = 0 → z.c = 0 → z.d = 0 → z = vz := fun z e0 e1 e2 e3 => by
    first | (refine ob3_1 (z) fun a b c d => ?_; try clear z) | (refine ob2_2 (z) fun a b c d => ?_; try clear z) | (refine ob1_3 (z) fun a b c d => ?_; try clear z) | (refine ob0_4 (z) fun a b c d => ?_; try clear z) | obtain ⟨a, b, c, d⟩ := z
    cases e0; cases e1; cases e2; cases e3; rfl
  exact eta _ h0 h1 h2 h3
theorem Base4.pivG {c : Nat} (hc : c < n) : c ∈ (ech (qmat (prods cs))).2 ↔ ¬ Sp (vs cs aim) c (vs cs aim c) := pivot_iff X.R X.w X.rowG X.nullG hc
theorem Base4.pivT {c : Nat} (hc : c < n) : c ∈ (ech (qmat (transp cs 4))).2 ↔ ¬ Sp (vs cs aim) c (vs cs aim c) := pivot_iff X.Rt X.wt X.rowT X.nullT hc
theorem Base4.same : (ech (qmat (transp cs 4))).2 = (ech (qmat (prods cs))).2 := pv_same X.Rt X.R X.wt X.w fun c hc => by rw [X.pivT hc, X.pivG hc]
theorem Base4.aug_row {r : List Rat} (h : r ∈ aug (qmat (prods cs)) (qrow (rights cs aim))) : ∃ i, i < n ∧ ∀ j, j < n + 1 → r.getD j 0 = ip (vs cs aim i) (vs cs aim j) := by
  first | (refine ob1_1 (List.mem_iff_getElem?.mp h) fun i hi => ?_) | (refine ob0_2 (List.mem_iff_getElem?.mp h) fun i hi => ?_) | obtain ⟨i, hi⟩ := List.mem_iff_getElem?.mp h
  first | (refine ob4_1 (aug_inv hi) fun r' x h1 h2 zr132 => ?_; subst zr132) | (refine ob3_2 (aug_inv hi) fun r' x h1 h2 zr133 => ?_; subst zr133) | (refine ob2_3 (aug_inv hi) fun r' x h1 h2 zr134 => ?_; subst zr134) | (refine ob1_4 (aug_inv hi) fun r' x h1 h2 zr135 => ?_; subst zr135) | (refine ob0_5 (aug_inv hi) fun r' x h1 h2 zr136 => ?_; subst zr136) | obtain ⟨r', x, h1, h2, rfl⟩ := aug_inv hi
  have hin : i < n := by rw [← X.R.1]; exact (List.getElem?_eq_some_iff.mp h1).1
  have hl : r'.length = n := X.R.2 _ (List.mem_of_getElem? h1)
  refine ⟨i, hin, fun j hj => ?_⟩
  rcases Nat.lt_or_ge j n with q | q
  · rw [List.getD_eq_getElem?_getD, List.getElem?_append_left (by exact om50 hl q), ← List.getD_eq_getElem?_getD, ← X.g hin q, ← en_qmat, en, getD_eq h1]
  · have : j = n := by exact om76 hj q
    subst this
    rw [List.getD_eq_getElem?_getD, List.getElem?_append_right (by exact om120 hl), hl, Nat.sub_self]
    show x = _
    have hc : i < cs.length := by rw [X.len]; exact hin
    have e1 : x = (((rights cs aim).getD i 0 : Int) : Rat) := by
      rw [← getD_eq (d := 0) h2]
      exact getD_map' (f := fun i : Int => (i : Rat)) (d := 0) i
    have e2 : (rights cs aim).getD i 0 = dot (cs.getD i []) aim := getD_map_lt hc
    rw [e1, e2, dot_vec (X.rows _ (getD_mem hc)) X.alen, X.vn, vs_lt hc]
theorem Base4.row_aug {i : Nat} (hi : i < n) : ∃ r ∈ aug (qmat (prods cs)) (qrow (rights cs aim)), ∀ j, j < n + 1 → r.getD j 0 = ip (vs cs aim i) (vs cs aim j) := by
  have hc : i < cs.length := by rw [X.len]; exact hi
  have h1 := get_getD (α := List Rat) [] (show i < (qmat (prods cs)).length by rw [X.R.1]; exact hi)
  have h2 := get_getD (α := Rat) 0 (show i < (qrow (rights cs aim)).length by rw [qrow, List.length_map, X.rl]; exact hi)
  have h3 := aug_get h1 h2
  refine ⟨_, List.mem_of_getElem? h3, fun j hj => ?_⟩
  have hl : ((qmat (prods cs)).getD i []).length = n := X.R.2 _ (List.mem_of_getElem? h1)
  rcases Nat.lt_or_ge j n with q | q
  · rw [List.getD_eq_getElem?_getD, List.getElem?_append_left (by exact om50 hl q), ← List.getD_eq_getElem?_getD, ← X.g hi q, ← en_qmat]; rfl
  · have : j = n := by exact om76 hj q
    subst this
    rw [List.getD_eq_getElem?_getD, List.getElem?_append_right (by exact om120 hl), hl, Nat.sub_self]
    show (qrow (rights cs aim)).getD i 0 = _
    have e1 : (qrow (rights cs aim)).getD i 0 = (((rights cs aim).getD i 0 : Int) : Rat) := getD_map' (f := fun i : Int => (i : Rat)) (d := 0) i
    have e2 : (rights cs aim).getD i 0 = dot (cs.getD i []) aim := getD_map_lt hc
    rw [e1, e2, dot_vec (X.rows _ (getD_mem hc)) X.alen, X.vn, vs_lt hc]
theorem Base4.solv : n ∉ (ech (aug (qmat (prods cs)) (qrow (rights cs aim)))).2 := by
  intro h
  have S := ech_shp X.Ra X.wa
  first | (refine ob2_1 (S.idx h) fun k hk e => ?_) | (refine ob1_2 (S.idx h) fun k hk e => ?_) | (refine ob0_3 (S.idx h) fun k hk e => ?_) | obtain ⟨k, hk, e⟩ := S.idx h
  have hkn : k < n := by have := S.le; exact om89 hk this
  have hC := cl_rows (vs cs aim) (n + 1) (C := Sp (vs cs aim) n) (fun x y q hx hy => hx.sb hy q) Sp.zero
  have hall := echTo_all hC X.Ra (fun r hr => by
    first | (refine ob2_1 (X.aug_row hr) fun i hi hr => ?_) | (refine ob1_2 (X.aug_row hr) fun i hi hr => ?_) | (refine ob0_3 (X.aug_row hr) fun i hi hr => ?_) | obtain ⟨i, hi, hr⟩ := X.aug_row hr
    exact ⟨_, Sp.self hi, hr⟩) (wd (aug (qmat (prods cs)) (qrow (rights cs aim)))) _ (getD_mem (d := []) (show k < (echTo _ (wd _)).1.length by rw [(echTo_rect X.Ra _).1]; exact hkn))
  first | (refine ob2_1 (hall) fun y sy hy => ?_; try clear hall) | (refine ob1_2 (hall) fun y sy hy => ?_; try clear hall) | (refine ob0_3 (hall) fun y sy hy => ?_; try clear hall) | obtain ⟨y, sy, hy⟩ := hall
  have h1 := S.unit k hk k hkn
  rw [e, if_pos rfl] at h1
  have h3 : ip y (vs cs aim n) = 1 := by rw [← hy n (by exact om40)]; exact h1
  have h4 := sy y fun j hj => by
    rw [ip_comm, ← hy j (by exact om35 hj)]
    exact S.left k hk j (by rw [e]; exact hj)
  rw [ip_all h4] at h3
  exact absurd h3 (by decide)
/-- what is left over, as a vector -/
theorem Base4.left : ∃ ρ : V4, vec (leftOf cs aim) = sc (prodDen (qsol cs aim)) ρ ∧ (∀ j, j < n → ip (vs cs aim j) ρ = 0) ∧ Sp (vs cs aim) n (sb (vs cs aim n) 1 ρ) ∧ ρ = U (vs cs aim) n n := by
  have ql : (qsol cs aim).length = cs.length := by rw [qsol, sol_len, X.w, X.len]
  have hp : ∀ j, j < n → ip (vs cs aim j) (res (vs cs aim) (fun j => (qsol cs aim).getD j 0) (vs cs aim n) n) = 0 := fun j hj => by
    first | (refine ob2_1 (X.row_aug hj) fun r hr er => ?_) | (refine ob1_2 (X.row_aug hj) fun r hr er => ?_) | (refine ob0_3 (X.row_aug hj) fun r hr er => ?_) | obtain ⟨r, hr, er⟩ := X.row_aug hj
    have hs := sol_solves X.Ra X.wa X.w X.solv r hr
    rw [ip_comm, ip_res, ip_comm, ← er n (by exact om40), ← hs]
    have e : sm n (fun l => (qsol cs aim).getD l 0 * ip (vs cs aim l) (vs cs aim j)) = rd n r (qsol cs aim) := sm_congr n fun l hl => by
      rw [er l (by exact om35 hl), ip_comm (vs cs aim j), Rat.mul_comm]
    rw [e]; unfold qsol; grind
  refine ⟨_, ?_, hp, fun y hy => ?_, res_U hp⟩
  · rw [leftOf, rest, vec_rest (aim := aim) X.rows X.alen ql _ (Nat.le_refl _), X.vn, X.len]
  · rw [ip_sb, ip_res, sm_zero n fun j hj => by rw [hy j hj, Rat.mul_zero]]; grind
theorem Base4.leftLen : (leftOf cs aim).length = 4 := restTo_len X.rows X.alen _ (Nat.le_refl _)
theorem Base4.detV : (detV (prods cs) : Rat) = D (vs cs aim) n := detV_of X.sq (by have := X.le; exact om121 this) fun _ _ hi hj => X.g hi hj
theorem Base4.sq' : Sq (n + 1) (prods (cs ++ [aim])) := by
  have := prods_sq (cs ++ [aim])
  rwa [List.length_append, X.len] at this
theorem Base4.g' {i j : Nat} (hi : i < n + 1) (hj : j < n + 1) : (gi (prods (cs ++ [aim])) i j : Rat) = ip (vs cs aim i) (vs cs aim j) := gram_ip' X.rows X.alen (by rw [X.len]; exact hi) (by rw [X.len]; exact hj)
theorem Base4.wide : (wideOf cs aim : Rat) = D (vs cs aim) n * ip (U (vs cs aim) n n) (U (vs cs aim) n n) := detV_of X.sq' (by have := X.le; exact om122 this) fun _ _ hi hj => X.g' hi hj
theorem Base4.gm {k : Nat} (hk : k ≤ n) {i j : Nat} (hi : i < k) (hj : j < k) : (gi (minor (prods cs) k) i j : Rat) = ip (vs cs aim i) (vs cs aim j) := by
  have e1 : (minor (prods cs) k).getD i [] = ((prods cs).getD i []).take k := by
    have h0 : i < (List.take k (prods cs)).length := by rw [List.length_take, X.sq.1]; (first | with_reducible assumption | with_reducible exact Int.natCast_nonneg _ | lia | omega)
    have := getD_map_lt (f := fun r : List Int => r.take k) (d := []) (e := []) h0
    rw [minor, this, List.getD_eq_getElem?_getD (l := List.take k _), List.getElem?_take_of_lt hi, ← List.getD_eq_getElem?_getD]
  have e2 : gi (minor (prods cs) k) i j = gi (prods cs) i j := by
    unfold gi
    rw [e1, List.getD_eq_getElem?_getD (l := List.take k _), List.getElem?_take_of_lt hj, ← List.getD_eq_getElem?_getD]
  rw [e2, X.g (by exact om123 hk hi) (by exact om123 hk hj)]
end
theorem rat_inj {x y : Int} (h : (x : Rat) = y) : x = y := Rat.intCast_inj.mp h
theorem ip_le {ρ b : V4} (h : ip (sb b 1 ρ) ρ = 0) : ip ρ ρ ≤ ip b b ∧ (ip ρ ρ = ip b b → ip (sb b 1 ρ) (sb b 1 ρ) = 0) := by
  have h2 := ip_nn (sb b 1 ρ)
  have e : ip (sb b 1 ρ) (sb b 1 ρ) = ip b b - ip ρ ρ := by
    rw [ip_sb] at h
    rw [ip_sb, ip_sb', ip_sb', ip_comm ρ b]; grind
  rw [e] at h2 ⊢
  exact ⟨by grind, fun q => by rw [q]; grind⟩
theorem fine_of {n : Nat} {cs : List (List Int)} {aim : List Int} (X : Base4 n cs aim) (hs : SmM 3 cs) (hsa : ∀ x ∈ aim, Sm 3 x) : Fine n cs aim := by
  first | (refine ob4_1 (X.left) fun ρ hl hp hspan hU => ?_) | (refine ob3_2 (X.left) fun ρ hl hp hspan hU => ?_) | (refine ob2_3 (X.left) fun ρ hl hp hspan hU => ?_) | (refine ob1_4 (X.left) fun ρ hl hp hspan hU => ?_) | (refine ob0_5 (X.left) fun ρ hl hp hspan hU => ?_) | obtain ⟨ρ, hl, hp, hspan, hU⟩ := X.left
  have S := ech_shp X.R X.w
  have hdet := X.detV
  have hwide := X.wide
  rw [← hU, ← hdet] at hwide
  have hll := X.leftLen
  have hdd : (dot (leftOf cs aim) (leftOf cs aim) : Rat) = prodDen (qsol cs aim) * prodDen (qsol cs aim) * ip ρ ρ := by
    rw [dot_vec hll hll, hl, ip_sc, ip_sc']; grind
  have haa : (dot aim aim : Rat) = ip (vs cs aim n) (vs cs aim n) := by rw [dot_vec X.alen X.alen, X.vn]
  have hnull : ∀ c, c < n → (Sp (vs cs aim) c (vs cs aim c) ↔ c ∉ (ech (qmat (prods cs))).2) := fun c hc => by
    rw [X.pivG hc]; exact Classical.not_not.symm
  have hfree : detV (prods cs) = 0 ↔ nullBase (qmat (prods cs)) ≠ [] := by
    have h1 : detV (prods cs) = 0 ↔ D (vs cs aim) n = 0 := by
      rw [← hdet]; exact Rat.intCast_eq_zero_iff.symm
    rw [h1, D_zero, nullBase, nullBaseTo, X.w, Ne, List.map_eq_nil_iff, List.filter_eq_nil_iff]
    constructor
    · rintro ⟨d, hd, sd⟩ q
      exact q d (List.mem_range.mpr hd) (decide_eq_true ((hnull d hd).mp sd))
    · intro q
      refine Classical.byContradiction fun hn => q fun d hd hd2 => hn ⟨d, List.mem_range.mp hd, ?_⟩
      exact (hnull d (List.mem_range.mp hd)).mpr (of_decide_eq_true hd2)
  have hrho := ip_le (hspan ρ hp)
  have hD := D_nn (vs cs aim) n
  rw [← hdet] at hD
  have hrights : ∀ j, j < n → (((rights cs aim).getD j 0 : Int) : Rat) = ip (vs cs aim j) (vs cs aim n) := fun j hj => by
    have hc : j < cs.length := by rw [X.len]; exact hj
    have e2 : (rights cs aim).getD j 0 = dot (cs.getD j []) aim := getD_map_lt hc
    rw [e2, dot_vec (X.rows _ (getD_mem hc)) X.alen, X.vn, vs_lt hc]
  refine { len := X.len, pos := X.pos, le := X.le, rows := X.rows, alen := X.alen, sm := hs, sma := hsa, solv := X.solv, upright := ?_, nulls := ?_, count := ?_, free := hfree, gram := ?_, minors := ?_, wide0 := ?_, wide1 := ?_, most := ?_, good := ?_, good' := ?_, goods := ?_ }
  · intro c hc
    first | (refine ob1_1 (List.mem_iff_getElem?.mp hc) fun j hj => ?_) | (refine ob0_2 (List.mem_iff_getElem?.mp hc) fun j hj => ?_) | obtain ⟨j, hj⟩ := List.mem_iff_getElem?.mp hc
    have hjn : j < cs.length := (List.getElem?_eq_some_iff.mp hj).1
    have e : (dot c (leftOf cs aim) : Rat) = 0 := by
      rw [dot_vec (X.rows c hc) hll, hl, ip_sc', ← getD_eq (d := []) hj, ← vs_lt (aim := aim) hjn, hp j (by rw [← X.len]; exact hjn), Rat.mul_zero]
    exact Rat.intCast_eq_zero_iff.mp e
  · intro q hq
    first | (refine ob2_1 (List.mem_map.mp hq) fun c hc zr137 => ?_; subst zr137) | (refine ob1_2 (List.mem_map.mp hq) fun c hc zr138 => ?_; subst zr138) | (refine ob0_3 (List.mem_map.mp hq) fun c hc zr139 => ?_; subst zr139) | obtain ⟨c, hc, rfl⟩ := List.mem_map.mp hq
    rw [List.mem_filter, List.mem_range] at hc
    have hcn : c < n := by rw [← X.w]; exact hc.1
    have hx := X.nullG _ (echTo_all_rev (rd_cl n _) X.R (wd (qmat (prods cs))) (nullTo_null S hcn (of_decide_eq_true hc.2)))
    rw [X.w] at hq ⊢
    generalize hgq : nullTo (ech (qmat (prods cs))).1 (ech (qmat (prods cs))).2 n c (ech (qmat (prods cs))).2.length = q at *
    have ql : q.length = cs.length := by rw [← hgq, nullTo_len, X.len]
    have e := vec_rest (aim := aim) (b := List.replicate 4 0) X.rows (by simp) ql cs.length (Nat.le_refl _)
    have ez : vec (List.replicate 4 0) = vz := rfl
    rw [ez, X.len, hx] at e
    have lr : (restTo cs q (List.replicate 4 0) n).length = 4 := restTo_len X.rows (by simp) _ (by rw [X.len]; exact Nat.le_refl _)
    rw [rest, X.len]
    first | (refine ob4_1 (four lr) fun x y z u hr => ?_) | (refine ob3_2 (four lr) fun x y z u hr => ?_) | (refine ob2_3 (four lr) fun x y z u hr => ?_) | (refine ob1_4 (four lr) fun x y z u hr => ?_) | (refine ob0_5 (four lr) fun x y z u hr => ?_) | obtain ⟨x, y, z, u, hr⟩ := four lr
    rw [hr] at e ⊢
    have e1 : ((x : Int) : Rat) = (prodDen q : Rat) * 0 := congrArg V4.a e
    have e2 : ((y : Int) : Rat) = (prodDen q : Rat) * 0 := congrArg V4.b e
    have e3 : ((z : Int) : Rat) = (prodDen q : Rat) * 0 := congrArg V4.c e
    have e4 : ((u : Int) : Rat) = (prodDen q : Rat) * 0 := congrArg V4.d e
    rw [Rat.mul_zero] at e1 e2 e3 e4
    have e1 := Rat.intCast_eq_zero_iff.mp e1
    have e2 := Rat.intCast_eq_zero_iff.mp e2
    have e3 := Rat.intCast_eq_zero_iff.mp e3
    have e4 := Rat.intCast_eq_zero_iff.mp e4
    subst e1 e2 e3 e4
    intro x hx
    simpa using hx
  · rw [rankOf, X.same, nullBase, nullBaseTo, X.w, List.length_map]
    exact count_pv S
  · refine rat_inj ?_
    rw [Rat.intCast_mul, Rat.intCast_mul, Rat.intCast_mul, hdd, hwide]; grind
  · intro x hx
    first | (refine ob2_1 (List.mem_map.mp hx) fun j hj zr140 => ?_; subst zr140) | (refine ob1_2 (List.mem_map.mp hx) fun j hj zr141 => ?_; subst zr141) | (refine ob0_3 (List.mem_map.mp hx) fun j hj zr142 => ?_; subst zr142) | obtain ⟨j, hj, rfl⟩ := List.mem_map.mp hx
    have hj : j < n := by rw [← X.sq.1]; exact List.mem_range.mp hj
    exact rpos_of (detV_of (minor_sq X.sq (by exact om124 hj)) (by have := X.le; exact om125 hj this) fun _ _ h1 h2 => X.gm (k := j + 1) (by exact om124 hj) h1 h2) (D_nn _ _)
  · refine rpos_of hwide (Rat.mul_nonneg hD (ip_nn _))
  · refine Rat.intCast_le_intCast.mp ?_
    rw [Rat.intCast_mul, hwide, haa]
    exact Rat.mul_le_mul_of_nonneg_left hrho.1 hD
  · intro hne
    have hdne : (detV (prods cs) : Rat) ≠ 0 := fun z => hne (Rat.intCast_eq_zero_iff.mp z)
    have h1 : wideOf cs aim = detV (prods cs) * dot aim aim ↔ ip ρ ρ = ip (vs cs aim n) (vs cs aim n) := by
      constructor
      · intro e
        have e2 : (wideOf cs aim : Rat) = detV (prods cs) * dot aim aim := by rw [e, Rat.intCast_mul]
        rw [hwide, haa] at e2
        have : (detV (prods cs) : Rat) * (ip ρ ρ - ip (vs cs aim n) (vs cs aim n)) = 0 := by grind
        rcases Rat.mul_eq_zero.mp this with z | z
        · exact absurd z hdne
        · grind
      · intro e
        refine rat_inj ?_
        rw [Rat.intCast_mul, hwide, haa, e]
    rw [h1]
    constructor
    · intro e x hx
      first | (refine ob1_1 (List.mem_iff_getElem?.mp hx) fun j hj => ?_) | (refine ob0_2 (List.mem_iff_getElem?.mp hx) fun j hj => ?_) | obtain ⟨j, hj⟩ := List.mem_iff_getElem?.mp hx
      have hjn : j < n := by rw [← X.rl]; exact (List.getElem?_eq_some_iff.mp hj).1
      have h2 := ip_all (hrho.2 e) (vs cs aim j)
      rw [ip_sb, ip_comm ρ, hp j hjn, ip_comm, ← hrights j hjn, getD_eq hj] at h2
      have h3 : (x : Rat) = 0 := by grind
      exact Rat.intCast_eq_zero_iff.mp h3
    · intro hz
      have h2 : ∀ j, j < n → ip (vs cs aim j) (sb (vs cs aim n) 1 ρ) = 0 := fun j hj => by
        rw [ip_sb', hp j hj, ← hrights j hj, hz _ (getD_mem (by rw [X.rl]; exact hj))]
        have e0 : ((0 : Int) : Rat) = 0 := rfl
        rw [e0]; grind
      have h3 := hspan _ h2
      have h4 := ip_z h3
      have h5 := ip_all h3 ρ
      have h6 := ip_all h3 (vs cs aim n)
      rw [ip_sb] at h5 h6
      rw [ip_comm ρ] at h6
      grind
  · exact good_of X.sq (by have := X.le; exact om121 this) fun _ _ h1 h2 => X.g h1 h2
  · exact good_of X.sq' (by have := X.le; exact om122 this) fun _ _ h1 h2 => X.g' h1 h2
  · intro j hj
    exact good_of (minor_sq X.sq (by exact om124 hj)) (by have := X.le; exact om125 hj this) fun _ _ h1 h2 => X.gm (k := j + 1) (by exact om124 hj) h1 h2
theorem three_count {l k : List Nat} (hk : k = (List.range 3).filter fun d => decide (d ∈ k)) (hl : l = (List.range 2).filter fun d => decide (d ∈ l)) (h0 : 0 ∈ l ↔ 0 ∈ k) (h1 : 1 ∈ k) (h2 : 1 ∈ l → 2 ∈ k) : l.length < k.length := by
  have ek : k.length = ((List.range 3).filter fun d => decide (d ∈ k)).length := congrArg List.length hk
  have el : l.length = ((List.range 2).filter fun d => decide (d ∈ l)).length := congrArg List.length hl
  have r3 : List.range 3 = [0, 1, 2] := rfl
  have r2 : List.range 2 = [0, 1] := rfl
  rw [ek, el, r3, r2]
  by_cases a : 0 ∈ l
  · have a' := h0.mp a
    by_cases b : 1 ∈ l
    · have b' := h2 b
      simp [a, a', b, b', h1]
    · by_cases c : 2 ∈ k <;> simp [a, a', b, c, h1]
  · have a' : 0 ∉ k := fun q => a (h0.mpr q)
    by_cases b : 1 ∈ l
    · have b' := h2 b
      simp [a, a', b, b', h1]
    · by_cases c : 2 ∈ k <;> simp [a, a', b, c, h1]
theorem end_of {c0 c1 c2 aim : List Int} (h0 : c0.length = 4) (h1 : c1.length = 4) (h2 : c2.length = 4) (ha : aim.length = 4) : EndOk [c0, c1, c2] [c0, c2] aim := by
  have X : Base4 3 [c0, c1, c2] aim := ⟨rfl, by decide, by decide, by rintro c hc; simp only [List.mem_cons, List.not_mem_nil, or_false] at hc; rcases hc with rfl | rfl | rfl <;> assumption, ha⟩
  have Y : Base4 2 [c0, c2] aim := ⟨rfl, by decide, by decide, by rintro c hc; simp only [List.mem_cons, List.not_mem_nil, or_false] at hc; rcases hc with rfl | rfl <;> assumption, ha⟩
  first | (refine ob4_1 (X.left) fun ρ hl hp hspan _ => ?_) | (refine ob3_2 (X.left) fun ρ hl hp hspan _ => ?_) | (refine ob2_3 (X.left) fun ρ hl hp hspan _ => ?_) | (refine ob1_4 (X.left) fun ρ hl hp hspan _ => ?_) | (refine ob0_5 (X.left) fun ρ hl hp hspan _ => ?_) | obtain ⟨ρ, hl, hp, hspan, _⟩ := X.left
  first | (refine ob4_1 (Y.left) fun σ kl kp kspan _ => ?_) | (refine ob3_2 (Y.left) fun σ kl kp kspan _ => ?_) | (refine ob2_3 (Y.left) fun σ kl kp kspan _ => ?_) | (refine ob1_4 (Y.left) fun σ kl kp kspan _ => ?_) | (refine ob0_5 (Y.left) fun σ kl kp kspan _ => ?_) | obtain ⟨σ, kl, kp, kspan, _⟩ := Y.left
  have v0 : vs [c0, c1, c2] aim 0 = vec c0 := rfl
  have v1 : vs [c0, c1, c2] aim 1 = vec c1 := rfl
  have v2 : vs [c0, c1, c2] aim 2 = vec c2 := rfl
  have v3 : vs [c0, c1, c2] aim 3 = vec aim := rfl
  have u0 : vs [c0, c2] aim 0 = vec c0 := rfl
  have u1 : vs [c0, c2] aim 1 = vec c2 := rfl
  have u2 : vs [c0, c2] aim 2 = vec aim := rfl
  have p0 : ip (vec c0) ρ = 0 := hp 0 (by decide)
  have p1 : ip (vec c1) ρ = 0 := hp 1 (by decide)
  have p2 : ip (vec c2) ρ = 0 := hp 2 (by decide)
  have q0 : ip (vec c0) σ = 0 := kp 0 (by decide)
  have q1 : ip (vec c2) σ = 0 := kp 1 (by decide)
  have two : ∀ y, ip (vec c0) y = 0 → ip (vec c2) y = 0 → ∀ j, j < 2 → ip (vs [c0, c2] aim j) y = 0 := fun y a b j hj => by
    rcases (show j = 0 ∨ j = 1 by lia) with rfl | rfl
    · exact a
    · exact b
  have three : ∀ y, ip (vec c0) y = 0 → ip (vec c1) y = 0 → ip (vec c2) y = 0 → ∀ j, j < 3 → ip (vs [c0, c1, c2] aim j) y = 0 := fun y a b c j hj => by
    rcases (show j = 0 ∨ j = 1 ∨ j = 2 by lia) with rfl | rfl | rfl
    · exact a
    · exact b
    · exact c
  rw [v3] at hspan
  rw [u2] at kspan
  have e1 := hspan ρ (three ρ p0 p1 p2)
  have e2 := kspan ρ (two ρ p0 p2)
  rw [ip_sb] at e1 e2
  have hT : (0 : Rat) ≤ 0 := by decide
  refine ⟨?_, ?_⟩
  · have e3 := ip_nn (sb σ 1 ρ)
    rw [ip_sb, ip_sb', ip_sb', ip_comm ρ σ] at e3
    have e4 : ip ρ ρ ≤ ip σ σ := by grind
    refine Rat.intCast_le_intCast.mp ?_
    rw [Rat.intCast_mul, Rat.intCast_mul, Rat.intCast_mul, Rat.intCast_mul, dot_vec X.leftLen X.leftLen, dot_vec Y.leftLen Y.leftLen, hl, kl, ip_sc, ip_sc', ip_sc, ip_sc']
    generalize ((prodDen (qsol [c0, c2] aim) : Int) : Rat) = tl
    generalize ((prodDen (qsol [c0, c1, c2] aim) : Int) : Rat) = tw
    have e5 := Rat.mul_le_mul_of_nonneg_left e4 (Rat.mul_nonneg (sq_nn tl) (sq_nn tw))
    grind
  · by_cases hs : Sp (vs [c0, c2] aim) 2 (vec c1)
    · left
      have q2 := hs σ (two σ q0 q1)
      have e3 := hspan σ (three σ q0 q2 q1)
      have e4 := kspan σ (two σ q0 q1)
      rw [ip_sb] at e3 e4
      rw [ip_comm ρ σ] at e3
      have e5 : ip (sb σ 1 ρ) (sb σ 1 ρ) = 0 := by
        rw [ip_sb, ip_sb', ip_sb', ip_comm ρ σ]; grind
      have e6 := ip_z e5
      have f1 : σ.a - 1 * ρ.a = 0 := congrArg V4.a e6
      have f2 : σ.b - 1 * ρ.b = 0 := congrArg V4.b e6
      have f3 : σ.c - 1 * ρ.c = 0 := congrArg V4.c e6
      have f4 : σ.d - 1 * ρ.d = 0 := congrArg V4.d e6
      first | (refine ob4_1 (four X.leftLen) fun x y z u hr => ?_) | (refine ob3_2 (four X.leftLen) fun x y z u hr => ?_) | (refine ob2_3 (four X.leftLen) fun x y z u hr => ?_) | (refine ob1_4 (four X.leftLen) fun x y z u hr => ?_) | (refine ob0_5 (four X.leftLen) fun x y z u hr => ?_) | obtain ⟨x, y, z, u, hr⟩ := four X.leftLen
      first | (refine ob4_1 (four Y.leftLen) fun x' y' z' u' hr' => ?_) | (refine ob3_2 (four Y.leftLen) fun x' y' z' u' hr' => ?_) | (refine ob2_3 (four Y.leftLen) fun x' y' z' u' hr' => ?_) | (refine ob1_4 (four Y.leftLen) fun x' y' z' u' hr' => ?_) | (refine ob0_5 (four Y.leftLen) fun x' y' z' u' hr' => ?_) | obtain ⟨x', y', z', u', hr'⟩ := four Y.leftLen
      rw [hr] at hl ⊢
      rw [hr'] at kl ⊢
      generalize prodDen (qsol [c0, c2] aim) = tl at *
      generalize prodDen (qsol [c0, c1, c2] aim) = tw at *
      have g1 : (x : Rat) = tw * ρ.a := congrArg V4.a hl
      have g2 : (y : Rat) = tw * ρ.b := congrArg V4.b hl
      have g3 : (z : Rat) = tw * ρ.c := congrArg V4.c hl
      have g4 : (u : Rat) = tw * ρ.d := congrArg V4.d hl
      have k1 : (x' : Rat) = tl * σ.a := congrArg V4.a kl
      have k2 : (y' : Rat) = tl * σ.b := congrArg V4.b kl
      have k3 : (z' : Rat) = tl * σ.c := congrArg V4.c kl
      have k4 : (u' : Rat) = tl * σ.d := congrArg V4.d kl
      have i1 : tw * x' = tl * x := rat_inj (by rw [Rat.intCast_mul, Rat.intCast_mul, g1, k1]; grind)
      have i2 : tw * y' = tl * y := rat_inj (by rw [Rat.intCast_mul, Rat.intCast_mul, g2, k2]; grind)
      have i3 : tw * z' = tl * z := rat_inj (by rw [Rat.intCast_mul, Rat.intCast_mul, g3, k3]; grind)
      have i4 : tw * u' = tl * u := rat_inj (by rw [Rat.intCast_mul, Rat.intCast_mul, g4, k4]; grind)
      show [tw * x', tw * y', tw * z', tw * u'] = [tl * x, tl * y, tl * z, tl * u]
      rw [i1, i2, i3, i4]
    · right
      have SX := ech_shp X.Rt X.wt
      have SY := ech_shp Y.Rt Y.wt
      refine three_count SX.all SY.all ?_ ?_ ?_
      · rw [X.pivT (by decide), Y.pivT (by decide)]
        refine not_congr ⟨fun h y _ => h y fun j hj => absurd hj (Nat.not_lt_zero _), fun h y _ => h y fun j hj => absurd hj (Nat.not_lt_zero _)⟩
      · rw [X.pivT (by decide), v1]
        intro h
        refine hs fun y hy => h y fun j hj => ?_
        have : j = 0 := by (first | with_reducible assumption | with_reducible exact Int.natCast_nonneg _ | lia | omega)
        subst this
        exact hy 0 (by decide)
      · rw [X.pivT (by decide), Y.pivT (by decide), u1, v2]
        intro hn h
        refine hs fun y hy => ?_
        have y0 : ip (vec c0) y = 0 := hy 0 (by decide)
        have y1 : ip (vec c2) y = 0 := hy 1 (by decide)
        refine Classical.byContradiction fun hne => hn fun z hz => ?_
        have z0 : ip (vec c0) z = 0 := hz 0 (by decide)
        have key := h (sb z (ip (vec c1) z / ip (vec c1) y) y) fun j hj => by
          rcases (show j = 0 ∨ j = 1 by lia) with rfl | rfl
          · show ip (vec c0) _ = 0; rw [ip_sb', z0, y0]; grind
          · show ip (vec c1) _ = 0; rw [ip_sb', Rat.div_mul_cancel hne]; grind
        rw [ip_sb', y1] at key
        grind
theorem plain : Plain := fun c0 c1 c2 aim h0 h1 h2 ha s0 s1 s2 sa => by
  refine ⟨fine_of ⟨rfl, by decide, by decide, ?_, ha⟩ ?_ sa, fine_of ⟨rfl, by decide, by decide, ?_, ha⟩ ?_ sa, end_of h0 h1 h2 ha⟩
  · rintro c hc; simp only [List.mem_cons, List.not_mem_nil, or_false] at hc; rcases hc with rfl | rfl | rfl <;> assumption
  · rintro c hc; simp only [List.mem_cons, List.not_mem_nil, or_false] at hc; rcases hc with rfl | rfl | rfl <;> assumption
  · rintro c hc; simp only [List.mem_cons, List.not_mem_nil, or_false] at hc; rcases hc with rfl | rfl <;> assumption
  · rintro c hc; simp only [List.mem_cons, List.not_mem_nil, or_false] at hc; rcases hc with rfl | rfl <;> assumption
open PySem.Spec PySem.Calls
theorem pOfInts {B : Base} : ∀ {vs : List Value} {xs : List Int}, IntsAre vs xs → Paired (IntV B) xs vs
  | _, _, .nil => .nil
  | _, _, .cons _ t r => .cons ⟨t, rfl⟩ (pOfInts r)
set_option maxRecDepth 100000 in
set_option maxHeartbeats 4000000 in
theorem final : PySem.Challenge.rw_xm0080_01.Holds := by
  apply Mine.hd
  intro w s₀ s₁ mg mb G Y fa o pm cd doc dV kV ho hd hcd hD hmg hg args vals as hpre hlay hrd hwl hlo
  have KX := kIn_of Y
  refine Ground.open G ?_
  intro T B D TE TW
  have h1 : mg "law" = some (.ref 194) := mg_of KX T.g (by k_dflt k_is)
  have h2 : mg "law" = some (.ref fa) := hmg
  rw [h1] at h2
  obtain rfl : 194 = fa := by cases h2; rfl
  clear h2 hmg hd hcd hD ho
  have TP : Tp (Mine.hd.heap_39 w.params) (fun a => s₁.heap.get? a) := ⟨s₁.heap, fun _ _ e => e, KX, ⟨mg, T.g⟩, ⟨mb, T.b, T.builtins⟩, T.nolimit⟩
  clear KX Y G T B D TE TW
  wrow_args hpre hlay hrd hwl hlo
  rename_i ns a1 a2 a3 a4 a5 a6 a7 l vs a8 hL a9 a10 a11 hI a12 hc a13
  obtain ⟨o', ho', hc', n', hd'⟩ := hL
  show wpAny _ _ (call (.ref 194) [.ref l]) _ _ (mk s₁ s₁.heap s₁.toks)
  refine law_ok TP (fun _ _ e => e) ⟨rfl, by decide, by decide⟩ ⟨o', ho', hc', hd'⟩ (pOfInts hI) (by omega) plain fun B' h' tk' X => ?_
  exact ⟨.inl ⟨_, _, [], rfl, fun _ => rfl, ReadsW.bool true, (by first | rfl | wrow_post), fun _ => ⟨List.nodup_nil, fun _ hm => (nomatch hm)⟩⟩, .of_keep X.keep, rfl, .of_eq hg⟩
end Mine
theorem PySem.Challenge.cw_xm0080_01_holds : PySem.Challenge.rw_xm0080_01.Holds := by
  exact Mine.final
