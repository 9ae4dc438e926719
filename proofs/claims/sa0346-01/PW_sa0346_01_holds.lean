import PyProof.Rows.All
import Wide.All
import OpenK.AllK
import Wide.FinOn
import KE.KLcPair
import Lean
import PySem.Challenge.RW_sa0346_01
set_option Elab.async false
set_option linter.unusedVariables false
set_option linter.unusedSimpArgs false
section
open PySem PySem.W PyProof.Rows
set_option Elab.async false
set_option linter.unusedVariables false
set_option maxRecDepth 100000
set_option maxHeartbeats 0
namespace Mine
/-- an assignment -/
def isAsg : Stmt → Bool
  | .Assign .. => true
  | _ => false
/-- the text's defs and classes, without the rows that say the module's name -/
def view : Program := { PySem.Challenge.pw_sa0346_01 with main := { PySem.Challenge.pw_sa0346_01.main with body := PySem.Challenge.pw_sa0346_01.main.body.filter fun s => !isAsg s } }
abbrev prog0 : Program := PySem.Challenge.pw_sa0346_01
theorem prog0_opens : opening prog0 = plainProg prog0.main.scope.names := by rfl
theorem prog0_fence (s : Shared) : fenceModules? prog0 s = some s := by rfl
/-- where the opening ends, as the library's boot knows it -/
theorem boot_at {N : Nat} (hN : Nat.ble 600 N = true) (w : World) : ∃ os, fencedOpening treeTable prog0 w N = some ⟨boot_heap w.params, #[], boot_drawn, boot_toks, os⟩ := by
  have h := boot_open (p := prog0) (N := N) prog0_opens hN prog0_fence w
  obtain ⟨s, h1, h2⟩ := Option.map_eq_some_iff.mp h
  obtain ⟨a, b, c, d, e⟩ := s
  simp only [Prod.mk.injEq] at h2
  obtain ⟨rfl, rfl, rfl, rfl⟩ := h2
  exact ⟨e, h1⟩
theorem left_by {q : Program} {loose : List Str} {Xt : Shared → Bool} {α : Type} {Yf : Shared → α} {Ya : World → α} {N : Nat} (hN : Nat.ble 600 N = true)
    (h1 : ∀ w os, (topFrom treeTable prog0 w N ⟨boot_heap w.params, #[], boot_drawn, boot_toks, os⟩).map (fun s => openSeen q loose (importedModules prog0.main.body) Xt true s) = some (openGood q loose))
    (h2 : ∀ w os, (topFrom treeTable prog0 w N ⟨boot_heap w.params, #[], boot_drawn, boot_toks, os⟩).map Yf = some (Ya w)) : LeftO prog0 q loose Xt Yf Ya N := fun w => by
  obtain ⟨os, e⟩ := boot_at hN w
  have h1 := h1 w os
  have h2 := h2 w os
  unfold openEnds
  rw [e]
  show (topFrom treeTable prog0 w N _).map _ = _
  generalize topFrom treeTable prog0 w N _ = r at h1 h2
  cases r with
  | none => cases h1
  | some s => exact congrArg some (congr (congrArg Prod.mk (Option.some.inj h1)) (Option.some.inj h2))
/-- what is looked at behind the top -/
theorem seen_ok (w : World) (os : OsState) : (topFrom treeTable prog0 w 4640 ⟨boot_heap w.params, #[], boot_drawn, boot_toks, os⟩).map (fun s => openSeen view [] (importedModules prog0.main.body) (fun s => xlAt Mine.view [] s && recOk (RowW.records (PySem.Challenge.rw_sa0346_01.row).toRowW) s) true s) = some (openGood view []) := by
  delta topFrom
  rewrite [PySem.W.Fast.te14082659384304107361, PySem.W.Fast.te14364793385576792824, PySem.W.Fast.te4187177175401517315, PySem.W.Fast.te5923862056798008813]
  kernel_rfl
theorem said_ok : OpenLaw.wellSaid PySem.Challenge.rw_sa0346_01 = true := by
  rewrite [PySem.W.Fast.te9446332074065402090]
  kernel_rfl
theorem tables_ok : Program.tablesWhole prog0 = true := by decide +kernel
local macro_rules | `(tactic| o_head $H:term) => `(tactic| (
  refine holds_open (q := Mine.view) (loose := []) (Xt := fun s => xlAt Mine.view [] s && recOk (RowW.records (PySem.Challenge.rw_sa0346_01.row).toRowW) s) (XP := XL Mine.view []) (Yf := Hook.obs $H) (Ya := Hook.val $H) (YP := Hook.says $H) (N := 4640) ?hl (Hook.of $H) (Hook.keeps $H) (fun s e => xl_of s (Bool.and_eq_true_iff.mp e).1) XL.keeps (by rfl) (by rfl) (by rfl) (fun s e => recFacts_of (Bool.and_eq_true_iff.mp e).2) (by rfl) (by assumption) (by decide +kernel) ⟨rfl, rfl, rfl, rfl, rfl, Mine.tables_ok⟩ ?hw ?hc
  case hl =>
    refine Mine.left_by (by rfl) Mine.seen_ok fun w os => ?_
    delta topFrom
    rewrite [PySem.W.Fast.te14082659384304107361, PySem.W.Fast.te14364793385576792824]
    kernel_rfl))
local macro_rules | `(tactic| o_law) => `(tactic| refine holds_law Mine.said_ok fun said => ?_)
open_top hd for PySem.Challenge.rw_sa0346_01
end Mine
end
section
open PySem PySem.W PyProof.Rows
set_option Elab.async false
set_option linter.unusedVariables false
namespace Mine
/-- the goal as a bare word, while a hypothesis is taken apart -/
theorem hide {p : Prop} (h : ∀ G : Prop, (p → G) → G) : p := h p id
/-! to take a fact apart in one step -/
theorem an2 {p0 p1 G : Prop} (h : p0 ∧ p1) (k : p0 → p1 → G) : G := k h.1 h.2
theorem an3 {p0 p1 p2 G : Prop} (h : p0 ∧ p1 ∧ p2) (k : p0 → p1 → p2 → G) : G := k h.1 h.2.1 h.2.2
theorem an4 {p0 p1 p2 p3 G : Prop} (h : p0 ∧ p1 ∧ p2 ∧ p3) (k : p0 → p1 → p2 → p3 → G) : G := k h.1 h.2.1 h.2.2.1 h.2.2.2
theorem an5 {p0 p1 p2 p3 p4 G : Prop} (h : p0 ∧ p1 ∧ p2 ∧ p3 ∧ p4) (k : p0 → p1 → p2 → p3 → p4 → G) : G := k h.1 h.2.1 h.2.2.1 h.2.2.2.1 h.2.2.2.2
theorem an6 {p0 p1 p2 p3 p4 p5 G : Prop} (h : p0 ∧ p1 ∧ p2 ∧ p3 ∧ p4 ∧ p5) (k : p0 → p1 → p2 → p3 → p4 → p5 → G) : G := k h.1 h.2.1 h.2.2.1 h.2.2.2.1 h.2.2.2.2.1 h.2.2.2.2.2
theorem an7 {p0 p1 p2 p3 p4 p5 p6 G : Prop} (h : p0 ∧ p1 ∧ p2 ∧ p3 ∧ p4 ∧ p5 ∧ p6) (k : p0 → p1 → p2 → p3 → p4 → p5 → p6 → G) : G := k h.1 h.2.1 h.2.2.1 h.2.2.2.1 h.2.2.2.2.1 h.2.2.2.2.2.1 h.2.2.2.2.2.2
theorem an8 {p0 p1 p2 p3 p4 p5 p6 p7 G : Prop} (h : p0 ∧ p1 ∧ p2 ∧ p3 ∧ p4 ∧ p5 ∧ p6 ∧ p7) (k : p0 → p1 → p2 → p3 → p4 → p5 → p6 → p7 → G) : G := k h.1 h.2.1 h.2.2.1 h.2.2.2.1 h.2.2.2.2.1 h.2.2.2.2.2.1 h.2.2.2.2.2.2.1 h.2.2.2.2.2.2.2
theorem an9 {p0 p1 p2 p3 p4 p5 p6 p7 p8 G : Prop} (h : p0 ∧ p1 ∧ p2 ∧ p3 ∧ p4 ∧ p5 ∧ p6 ∧ p7 ∧ p8) (k : p0 → p1 → p2 → p3 → p4 → p5 → p6 → p7 → p8 → G) : G := k h.1 h.2.1 h.2.2.1 h.2.2.2.1 h.2.2.2.2.1 h.2.2.2.2.2.1 h.2.2.2.2.2.2.1 h.2.2.2.2.2.2.2.1 h.2.2.2.2.2.2.2.2
theorem an10 {p0 p1 p2 p3 p4 p5 p6 p7 p8 p9 G : Prop} (h : p0 ∧ p1 ∧ p2 ∧ p3 ∧ p4 ∧ p5 ∧ p6 ∧ p7 ∧ p8 ∧ p9) (k : p0 → p1 → p2 → p3 → p4 → p5 → p6 → p7 → p8 → p9 → G) : G := k h.1 h.2.1 h.2.2.1 h.2.2.2.1 h.2.2.2.2.1 h.2.2.2.2.2.1 h.2.2.2.2.2.2.1 h.2.2.2.2.2.2.2.1 h.2.2.2.2.2.2.2.2.1 h.2.2.2.2.2.2.2.2.2
theorem an11 {p0 p1 p2 p3 p4 p5 p6 p7 p8 p9 p10 G : Prop} (h : p0 ∧ p1 ∧ p2 ∧ p3 ∧ p4 ∧ p5 ∧ p6 ∧ p7 ∧ p8 ∧ p9 ∧ p10) (k : p0 → p1 → p2 → p3 → p4 → p5 → p6 → p7 → p8 → p9 → p10 → G) : G := k h.1 h.2.1 h.2.2.1 h.2.2.2.1 h.2.2.2.2.1 h.2.2.2.2.2.1 h.2.2.2.2.2.2.1 h.2.2.2.2.2.2.2.1 h.2.2.2.2.2.2.2.2.1 h.2.2.2.2.2.2.2.2.2.1 h.2.2.2.2.2.2.2.2.2.2
theorem an12 {p0 p1 p2 p3 p4 p5 p6 p7 p8 p9 p10 p11 G : Prop} (h : p0 ∧ p1 ∧ p2 ∧ p3 ∧ p4 ∧ p5 ∧ p6 ∧ p7 ∧ p8 ∧ p9 ∧ p10 ∧ p11) (k : p0 → p1 → p2 → p3 → p4 → p5 → p6 → p7 → p8 → p9 → p10 → p11 → G) : G := k h.1 h.2.1 h.2.2.1 h.2.2.2.1 h.2.2.2.2.1 h.2.2.2.2.2.1 h.2.2.2.2.2.2.1 h.2.2.2.2.2.2.2.1 h.2.2.2.2.2.2.2.2.1 h.2.2.2.2.2.2.2.2.2.1 h.2.2.2.2.2.2.2.2.2.2.1 h.2.2.2.2.2.2.2.2.2.2.2
theorem an13 {p0 p1 p2 p3 p4 p5 p6 p7 p8 p9 p10 p11 p12 G : Prop} (h : p0 ∧ p1 ∧ p2 ∧ p3 ∧ p4 ∧ p5 ∧ p6 ∧ p7 ∧ p8 ∧ p9 ∧ p10 ∧ p11 ∧ p12) (k : p0 → p1 → p2 → p3 → p4 → p5 → p6 → p7 → p8 → p9 → p10 → p11 → p12 → G) : G := k h.1 h.2.1 h.2.2.1 h.2.2.2.1 h.2.2.2.2.1 h.2.2.2.2.2.1 h.2.2.2.2.2.2.1 h.2.2.2.2.2.2.2.1 h.2.2.2.2.2.2.2.2.1 h.2.2.2.2.2.2.2.2.2.1 h.2.2.2.2.2.2.2.2.2.2.1 h.2.2.2.2.2.2.2.2.2.2.2.1 h.2.2.2.2.2.2.2.2.2.2.2.2
theorem an14 {p0 p1 p2 p3 p4 p5 p6 p7 p8 p9 p10 p11 p12 p13 G : Prop} (h : p0 ∧ p1 ∧ p2 ∧ p3 ∧ p4 ∧ p5 ∧ p6 ∧ p7 ∧ p8 ∧ p9 ∧ p10 ∧ p11 ∧ p12 ∧ p13) (k : p0 → p1 → p2 → p3 → p4 → p5 → p6 → p7 → p8 → p9 → p10 → p11 → p12 → p13 → G) : G := k h.1 h.2.1 h.2.2.1 h.2.2.2.1 h.2.2.2.2.1 h.2.2.2.2.2.1 h.2.2.2.2.2.2.1 h.2.2.2.2.2.2.2.1 h.2.2.2.2.2.2.2.2.1 h.2.2.2.2.2.2.2.2.2.1 h.2.2.2.2.2.2.2.2.2.2.1 h.2.2.2.2.2.2.2.2.2.2.2.1 h.2.2.2.2.2.2.2.2.2.2.2.2.1 h.2.2.2.2.2.2.2.2.2.2.2.2.2
theorem an15 {p0 p1 p2 p3 p4 p5 p6 p7 p8 p9 p10 p11 p12 p13 p14 G : Prop} (h : p0 ∧ p1 ∧ p2 ∧ p3 ∧ p4 ∧ p5 ∧ p6 ∧ p7 ∧ p8 ∧ p9 ∧ p10 ∧ p11 ∧ p12 ∧ p13 ∧ p14) (k : p0 → p1 → p2 → p3 → p4 → p5 → p6 → p7 → p8 → p9 → p10 → p11 → p12 → p13 → p14 → G) : G := k h.1 h.2.1 h.2.2.1 h.2.2.2.1 h.2.2.2.2.1 h.2.2.2.2.2.1 h.2.2.2.2.2.2.1 h.2.2.2.2.2.2.2.1 h.2.2.2.2.2.2.2.2.1 h.2.2.2.2.2.2.2.2.2.1 h.2.2.2.2.2.2.2.2.2.2.1 h.2.2.2.2.2.2.2.2.2.2.2.1 h.2.2.2.2.2.2.2.2.2.2.2.2.1 h.2.2.2.2.2.2.2.2.2.2.2.2.2.1 h.2.2.2.2.2.2.2.2.2.2.2.2.2.2
theorem an16 {p0 p1 p2 p3 p4 p5 p6 p7 p8 p9 p10 p11 p12 p13 p14 p15 G : Prop} (h : p0 ∧ p1 ∧ p2 ∧ p3 ∧ p4 ∧ p5 ∧ p6 ∧ p7 ∧ p8 ∧ p9 ∧ p10 ∧ p11 ∧ p12 ∧ p13 ∧ p14 ∧ p15) (k : p0 → p1 → p2 → p3 → p4 → p5 → p6 → p7 → p8 → p9 → p10 → p11 → p12 → p13 → p14 → p15 → G) : G := k h.1 h.2.1 h.2.2.1 h.2.2.2.1 h.2.2.2.2.1 h.2.2.2.2.2.1 h.2.2.2.2.2.2.1 h.2.2.2.2.2.2.2.1 h.2.2.2.2.2.2.2.2.1 h.2.2.2.2.2.2.2.2.2.1 h.2.2.2.2.2.2.2.2.2.2.1 h.2.2.2.2.2.2.2.2.2.2.2.1 h.2.2.2.2.2.2.2.2.2.2.2.2.1 h.2.2.2.2.2.2.2.2.2.2.2.2.2.1 h.2.2.2.2.2.2.2.2.2.2.2.2.2.2.1 h.2.2.2.2.2.2.2.2.2.2.2.2.2.2.2
theorem an17 {p0 p1 p2 p3 p4 p5 p6 p7 p8 p9 p10 p11 p12 p13 p14 p15 p16 G : Prop} (h : p0 ∧ p1 ∧ p2 ∧ p3 ∧ p4 ∧ p5 ∧ p6 ∧ p7 ∧ p8 ∧ p9 ∧ p10 ∧ p11 ∧ p12 ∧ p13 ∧ p14 ∧ p15 ∧ p16) (k : p0 → p1 → p2 → p3 → p4 → p5 → p6 → p7 → p8 → p9 → p10 → p11 → p12 → p13 → p14 → p15 → p16 → G) : G := k h.1 h.2.1 h.2.2.1 h.2.2.2.1 h.2.2.2.2.1 h.2.2.2.2.2.1 h.2.2.2.2.2.2.1 h.2.2.2.2.2.2.2.1 h.2.2.2.2.2.2.2.2.1 h.2.2.2.2.2.2.2.2.2.1 h.2.2.2.2.2.2.2.2.2.2.1 h.2.2.2.2.2.2.2.2.2.2.2.1 h.2.2.2.2.2.2.2.2.2.2.2.2.1 h.2.2.2.2.2.2.2.2.2.2.2.2.2.1 h.2.2.2.2.2.2.2.2.2.2.2.2.2.2.1 h.2.2.2.2.2.2.2.2.2.2.2.2.2.2.2.1 h.2.2.2.2.2.2.2.2.2.2.2.2.2.2.2.2
theorem an18 {p0 p1 p2 p3 p4 p5 p6 p7 p8 p9 p10 p11 p12 p13 p14 p15 p16 p17 G : Prop} (h : p0 ∧ p1 ∧ p2 ∧ p3 ∧ p4 ∧ p5 ∧ p6 ∧ p7 ∧ p8 ∧ p9 ∧ p10 ∧ p11 ∧ p12 ∧ p13 ∧ p14 ∧ p15 ∧ p16 ∧ p17) (k : p0 → p1 → p2 → p3 → p4 → p5 → p6 → p7 → p8 → p9 → p10 → p11 → p12 → p13 → p14 → p15 → p16 → p17 → G) : G := k h.1 h.2.1 h.2.2.1 h.2.2.2.1 h.2.2.2.2.1 h.2.2.2.2.2.1 h.2.2.2.2.2.2.1 h.2.2.2.2.2.2.2.1 h.2.2.2.2.2.2.2.2.1 h.2.2.2.2.2.2.2.2.2.1 h.2.2.2.2.2.2.2.2.2.2.1 h.2.2.2.2.2.2.2.2.2.2.2.1 h.2.2.2.2.2.2.2.2.2.2.2.2.1 h.2.2.2.2.2.2.2.2.2.2.2.2.2.1 h.2.2.2.2.2.2.2.2.2.2.2.2.2.2.1 h.2.2.2.2.2.2.2.2.2.2.2.2.2.2.2.1 h.2.2.2.2.2.2.2.2.2.2.2.2.2.2.2.2.1 h.2.2.2.2.2.2.2.2.2.2.2.2.2.2.2.2.2
theorem an19 {p0 p1 p2 p3 p4 p5 p6 p7 p8 p9 p10 p11 p12 p13 p14 p15 p16 p17 p18 G : Prop} (h : p0 ∧ p1 ∧ p2 ∧ p3 ∧ p4 ∧ p5 ∧ p6 ∧ p7 ∧ p8 ∧ p9 ∧ p10 ∧ p11 ∧ p12 ∧ p13 ∧ p14 ∧ p15 ∧ p16 ∧ p17 ∧ p18) (k : p0 → p1 → p2 → p3 → p4 → p5 → p6 → p7 → p8 → p9 → p10 → p11 → p12 → p13 → p14 → p15 → p16 → p17 → p18 → G) : G := k h.1 h.2.1 h.2.2.1 h.2.2.2.1 h.2.2.2.2.1 h.2.2.2.2.2.1 h.2.2.2.2.2.2.1 h.2.2.2.2.2.2.2.1 h.2.2.2.2.2.2.2.2.1 h.2.2.2.2.2.2.2.2.2.1 h.2.2.2.2.2.2.2.2.2.2.1 h.2.2.2.2.2.2.2.2.2.2.2.1 h.2.2.2.2.2.2.2.2.2.2.2.2.1 h.2.2.2.2.2.2.2.2.2.2.2.2.2.1 h.2.2.2.2.2.2.2.2.2.2.2.2.2.2.1 h.2.2.2.2.2.2.2.2.2.2.2.2.2.2.2.1 h.2.2.2.2.2.2.2.2.2.2.2.2.2.2.2.2.1 h.2.2.2.2.2.2.2.2.2.2.2.2.2.2.2.2.2.1 h.2.2.2.2.2.2.2.2.2.2.2.2.2.2.2.2.2.2
theorem ex1 {A : Type} {p : A → Prop} {G : Prop} (h : ∃ x0, p x0) (k : ∀ x0, p x0 → G) : G := h.elim k
theorem ex2 {A B : Type} {p : A → B → Prop} {G : Prop} (h : ∃ x0 x1, p x0 x1) (k : ∀ x0 x1, p x0 x1 → G) : G := h.elim fun x h => ex1 h (k x)
theorem ex3 {A B C : Type} {p : A → B → C → Prop} {G : Prop} (h : ∃ x0 x1 x2, p x0 x1 x2) (k : ∀ x0 x1 x2, p x0 x1 x2 → G) : G := h.elim fun x h => ex2 h (k x)
theorem ex4 {A B C D : Type} {p : A → B → C → D → Prop} {G : Prop} (h : ∃ x0 x1 x2 x3, p x0 x1 x2 x3) (k : ∀ x0 x1 x2 x3, p x0 x1 x2 x3 → G) : G := h.elim fun x h => ex3 h (k x)
theorem ex5 {A B C D E : Type} {p : A → B → C → D → E → Prop} {G : Prop} (h : ∃ x0 x1 x2 x3 x4, p x0 x1 x2 x3 x4) (k : ∀ x0 x1 x2 x3 x4, p x0 x1 x2 x3 x4 → G) : G := h.elim fun x h => ex4 h (k x)
theorem ex6 {A B C D E F : Type} {p : A → B → C → D → E → F → Prop} {G : Prop} (h : ∃ x0 x1 x2 x3 x4 x5, p x0 x1 x2 x3 x4 x5) (k : ∀ x0 x1 x2 x3 x4 x5, p x0 x1 x2 x3 x4 x5 → G) : G := h.elim fun x h => ex5 h (k x)
theorem ex7 {A B C D E F H : Type} {p : A → B → C → D → E → F → H → Prop} {G : Prop} (h : ∃ x0 x1 x2 x3 x4 x5 x6, p x0 x1 x2 x3 x4 x5 x6) (k : ∀ x0 x1 x2 x3 x4 x5 x6, p x0 x1 x2 x3 x4 x5 x6 → G) : G := h.elim fun x h => ex6 h (k x)
theorem ex8 {A B C D E F H I : Type} {p : A → B → C → D → E → F → H → I → Prop} {G : Prop} (h : ∃ x0 x1 x2 x3 x4 x5 x6 x7, p x0 x1 x2 x3 x4 x5 x6 x7) (k : ∀ x0 x1 x2 x3 x4 x5 x6 x7, p x0 x1 x2 x3 x4 x5 x6 x7 → G) : G := h.elim fun x h => ex7 h (k x)
/-- none and some -/
theorem ns {α : Type} {x : Option α} {o : α} {G : Prop} (a : x = none) (b : x = some o) : G := by rw [a] at b; cases b
theorem none_ne {α : Type} {o : α} : (none : Option α) ≠ some o := nofun
theorem none_of {α : Type} {x : Option α} (h : ∀ o, x = some o → False) : x = none := by
  cases x with
  | none => rfl
  | some o => exact (h o rfl).elim

/-- pure values -/
inductive AV where
  | none
  | bool (b : Bool)
  | int (i : Int)
  | fn (a : Addr)
  | list (l : List AV)
  | tup (l : List AV)
  | ring (n w f g : AV)
  | own

/-- the frozen part of a heap -/
abbrev Fz := Addr → Option Obj

def IsSeqF (F : Fz) (T : String) (a : Addr) (vs : List Value) : Prop := ∃ o, F a = some o ∧ o.cls = .type T ∧ ∃ n, o.data = .seq vs.toArray n

structure Gd where
  prog : Program
  w : World
  K : Frag
  p : Program
  loose : List Str
  mean : ExcName → Option Value
  mg : Str → Option Value
  mb : Str → Option Value
  ringC : Addr

mutual
inductive Rep (C : Addr) (F : Fz) : Value → AV → Prop
  | none : Rep C F .none .none
  | bool {b} : Rep C F (.bool b) (.bool b)
  | int {i t} : Rep C F (.int i t) (.int i)
  | fn {a} : Rep C F (.ref a) (.fn a)
  | list {a vs l} : IsSeqF F "list" a vs → Reps C F vs l → Rep C F (.ref a) (.list l)
  | tup {a vs l} : IsSeqF F "tuple" a vs → Reps C F vs l → Rep C F (.ref a) (.tup l)
  | ring {x dx k vn vw vf vg n w f g} {h1 h2 h3 h4 : Int} {t1 t2 t3 t4 : Tok} : F x = some (instObj C dx) →
      F dx = some (dictOf [⟨h1, .str "n" t1, vn⟩, ⟨h2, .str "w" t2, vw⟩, ⟨h3, .str "mul" t3, vf⟩, ⟨h4, .str "divrem" t4, vg⟩] k) →
      Rep C F vn n → Rep C F vw w → Rep C F vf f → Rep C F vg g → Rep C F (.ref x) (.ring n w f g)
inductive Reps (C : Addr) (F : Fz) : List Value → List AV → Prop
  | nil : Reps C F [] []
  | cons {v x vs xs} : Rep C F v x → Reps C F vs xs → Reps C F (v :: vs) (x :: xs)
end

def Le (F F' : Fz) : Prop := ∀ a o, F a = some o → F' a = some o
theorem Le.refl (F : Fz) : Le F F := fun _ _ h => h
theorem Le.trans {F G H : Fz} (x : Le F G) (y : Le G H) : Le F H := fun a o h => y a o (x a o h)
theorem IsSeqF.mono {F F' : Fz} {T a vs} (h : IsSeqF F T a vs) (le : Le F F') : IsSeqF F' T a vs := let ⟨o, e, r⟩ := h; ⟨o, le _ _ e, r⟩

mutual
theorem Rep.mono {C : Addr} {F F' : Fz} (le : Le F F') {v : Value} {x : AV} (h : Rep C F v x) : Rep C F' v x := by
  cases h with
  | none => exact .none
  | bool => exact .bool
  | int => exact .int
  | fn => exact .fn
  | list h r => exact .list (h.mono le) (Reps.mono le r)
  | tup h r => exact .tup (h.mono le) (Reps.mono le r)
  | ring a b r1 r2 r3 r4 => exact .ring (le _ _ a) (le _ _ b) (Rep.mono le r1) (Rep.mono le r2) (Rep.mono le r3) (Rep.mono le r4)
theorem Reps.mono {C : Addr} {F F' : Fz} (le : Le F F') {vs : List Value} {xs : List AV} (h : Reps C F vs xs) : Reps C F' vs xs := by
  cases h with
  | nil => exact .nil
  | cons a b => exact .cons (Rep.mono le a) (Reps.mono le b)
end

/-! a value taken apart -/
section
variable {C : Addr} {F : Fz} {v : Value} {vs : List Value}
def RepInv (C : Addr) (F : Fz) (v : Value) : AV → Prop
  | .none => v = .none
  | .bool b => v = .bool b
  | .int i => ∃ t, v = .int i t
  | .fn a => v = .ref a
  | .list l => ∃ a vs, v = .ref a ∧ IsSeqF F "list" a vs ∧ Reps C F vs l
  | .tup l => ∃ a vs, v = .ref a ∧ IsSeqF F "tuple" a vs ∧ Reps C F vs l
  | .own => False
  | _ => True
theorem Rep.inv {x : AV} (h : Rep C F v x) : RepInv C F v x := by
  cases h <;> first | exact rfl | exact ⟨_, rfl⟩ | exact ⟨_, _, rfl, ‹_›, ‹_›⟩ | exact True.intro
theorem Rep.no {G : Prop} (h : Rep C F v .own) : G := False.elim h.inv
section
variable {x : AV} {G : Value → Prop} (h : Rep C F v x)
include h
@[elab_as_elim] theorem Rep.noneE (e : x = .none) (k : G .none) : G v := by subst e; exact (h.inv : v = .none) ▸ k
@[elab_as_elim] theorem Rep.intE {i : Int} (e : x = .int i) (k : ∀ t, G (.int i t)) : G v := by subst e; exact Exists.elim h.inv fun t e => e ▸ k t
@[elab_as_elim] theorem Rep.boolE {b : Bool} (e : x = .bool b) (k : G (.bool b)) : G v := by subst e; exact (h.inv : v = .bool b) ▸ k
@[elab_as_elim] theorem Rep.fnE {a : Addr} (e : x = .fn a) (k : G (.ref a)) : G v := by subst e; exact (h.inv : v = .ref a) ▸ k
@[elab_as_elim] theorem Rep.listE {l : List AV} (e : x = .list l) (k : ∀ a vs, IsSeqF F "list" a vs → Reps C F vs l → G (.ref a)) : G v := by subst e; exact ex2 h.inv fun a vs e => e.1 ▸ k a vs e.2.1 e.2.2
@[elab_as_elim] theorem Rep.tupE {l : List AV} (e : x = .tup l) (k : ∀ a vs, IsSeqF F "tuple" a vs → Reps C F vs l → G (.ref a)) : G v := by subst e; exact ex2 h.inv fun a vs e => e.1 ▸ k a vs e.2.1 e.2.2
end
@[elab_as_elim] theorem Reps.nil_ {G : List Value → Prop} (h : Reps C F vs []) (k : G []) : G vs := by cases h; exact k
@[elab_as_elim] theorem Reps.cons_ {x : AV} {xs : List AV} {G : List Value → Prop} (h : Reps C F vs (x :: xs)) (k : ∀ v vs, Rep C F v x → Reps C F vs xs → G (v :: vs)) : G vs := by cases h; exact k _ _ ‹_› ‹_›
theorem Reps.cons_' {x : AV} {xs : List AV} {G : Prop} (h : Reps C F (v :: vs) (x :: xs)) (k : Rep C F v x → Reps C F vs xs → G) : G := by cases h; exact k ‹_› ‹_›
@[elab_as_elim] theorem Reps.one_ {x : AV} {G : List Value → Prop} (h : Reps C F vs [x]) (k : ∀ v, Rep C F v x → G [v]) : G vs := h.cons_ fun v _ r e => e.nil_ (G := fun vs => G (v :: vs)) (k v r)
@[elab_as_elim] theorem Reps.two_ {x y : AV} {G : List Value → Prop} (h : Reps C F vs [x, y]) (k : ∀ v u, Rep C F v x → Rep C F u y → G [v, u]) : G vs := h.cons_ fun v _ r e => e.one_ (G := fun vs => G (v :: vs)) fun u q => k v u r q
@[elab_as_elim] theorem Reps.three_ {x y z : AV} {G : List Value → Prop} (h : Reps C F vs [x, y, z]) (k : ∀ v u t, Rep C F v x → Rep C F u y → Rep C F t z → G [v, u, t]) : G vs := h.cons_ fun v _ r e => e.two_ (G := fun vs => G (v :: vs)) fun u t q w => k v u t r q w
end

theorem Reps.len {C : Addr} {F : Fz} : ∀ {vs : List Value} {xs : List AV}, Reps C F vs xs → vs.length = xs.length
  | [], _, h => by cases h; rfl
  | _ :: vs, _, h => by
    cases h with
    | cons _ b => simp [b.len]
theorem Reps.get {C : Addr} {F : Fz} : ∀ {vs : List Value} {xs : List AV}, Reps C F vs xs → ∀ {j : Nat} {x : AV}, xs[j]? = some x → ∃ v, vs[j]? = some v ∧ Rep C F v x
  | [], _, h, j, x, e => by cases h; simp at e
  | v :: vs, _, h, 0, x, e => by
    cases h with
    | cons a _ => simp at e; subst e; exact ⟨v, rfl, a⟩
  | v :: vs, _, h, j + 1, x, e => by
    cases h with
    | cons _ b => simpa using b.get (j := j) (by simpa using e)
theorem Reps.app {C : Addr} {F : Fz} : ∀ {vs us : List Value} {xs ys : List AV}, Reps C F vs xs → Reps C F us ys → Reps C F (vs ++ us) (xs ++ ys)
  | [], _, _, _, h, k => by cases h; exact k
  | _ :: vs, _, _, _, h, k => by
    cases h with
    | cons a b => exact .cons a (b.app k)
theorem Reps.setAt {C : Addr} {F : Fz} {v : Value} {x : AV} (hv : Rep C F v x) : ∀ {vs : List Value} {xs : List AV}, Reps C F vs xs → ∀ j : Nat, Reps C F (vs.set j v) (xs.set j x)
  | [], _, h, j => by cases h; exact .nil
  | _ :: vs, _, h, 0 => by
    cases h with
    | cons a b => exact .cons hv b
  | _ :: vs, _, h, j + 1 => by
    cases h with
    | cons a b => exact .cons a (b.setAt hv j)
theorem Reps.take {C : Addr} {F : Fz} : ∀ {vs : List Value} {xs : List AV}, Reps C F vs xs → ∀ j : Nat, Reps C F (vs.take j) (xs.take j)
  | [], _, h, j => by cases h; simpa using .nil
  | _ :: vs, _, h, 0 => .nil
  | _ :: vs, _, h, j + 1 => by
    cases h with
    | cons a b => exact .cons a (b.take j)
theorem Reps.rep {C : Addr} {F : Fz} {v : Value} {x : AV} (hv : Rep C F v x) : ∀ n : Nat, Reps C F (List.replicate n v) (List.replicate n x)
  | 0 => .nil
  | n + 1 => .cons hv (Reps.rep hv n)

/-- the locals as pure values, the cells that are written once, and the contents of the one list that is still being built -/
structure Cx where
  loc : List (String × AV)
  cel : List (String × AV)
  own : Option (Bool × List AV)

def Cx.setOwn (c : Cx) (b : Bool) (l : List AV) : Cx := ⟨c.loc, c.cel, some (b, l)⟩
/-- the pure frame -/
def look (x : String) : List (String × AV) → Option AV
  | [] => none
  | (y, u) :: r => if x = y then some u else look x r
def put (x : String) (v : AV) : List (String × AV) → List (String × AV)
  | [] => [(x, v)]
  | (y, u) :: r => if x = y then (y, v) :: r else (y, u) :: put x v r
theorem look_put (x y : String) (v : AV) : ∀ l : List (String × AV), look y (put x v l) = if y = x then some v else look y l
  | [] => by simp [look, put]
  | (z, u) :: r => by
    simp only [put]
    by_cases h : x = z
    · subst h
      simp only [if_true, look]
      by_cases q : y = x <;> simp [q]
    · simp only [if_neg h, look, look_put x y v r]
      by_cases q : y = z
      · subst q
        simp [Ne.symm h]
      · simp [q]
theorem toNat_inj {a b : Char} (h : a.toNat = b.toNat) : a = b := Char.ext (UInt32.toNat_inj.mp h)
theorem map_toNat_inj : ∀ {l m : List Char}, l.map Char.toNat = m.map Char.toNat → l = m
  | [], [], _ => rfl
  | [], _ :: _, h => by simp at h
  | _ :: _, [], h => by simp at h
  | a :: l, b :: m, h => by
    simp only [List.map_cons, List.cons.injEq] at h
    rw [toNat_inj h.1, map_toNat_inj h.2]
theorem ofString_inj {a b : String} (h : Str.ofString a = Str.ofString b) : a = b := by
  rw [Str.ofString_eq_toList, Str.ofString_eq_toList] at h
  have h1 : a.toList.map Char.toNat = b.toList.map Char.toNat := by simpa using h
  exact String.toList_inj.mp (map_toNat_inj h1)

structure Bs (g : Gd) (h : Heap) : Prop where
  k : g.K.In h
  t : Top g.p g.loose g.mean g.mg g.mb h
theorem Bs.keeps {g : Gd} {h h' : Heap} (b : Bs g h) (k : ∀ b o, h.get? b = some o → h'.get? b = some o) : Bs g h' := ⟨b.k.keeps k, b.t.keeps k⟩

/-- the contents of the open list; the flag: nothing but appends so far -/
def HoldsAt (h : Heap) (a : Addr) (b : Bool) (vs : List Value) : Prop := h.IsList a vs.toArray ∧ (b = true → h.PlainList a vs.toArray)
theorem HoldsAt.at_ {h h' : Heap} {a : Addr} {b : Bool} {vs : List Value} (x : HoldsAt h a b vs) (k : ∀ o, h.get? a = some o → h'.get? a = some o) : HoldsAt h' a b vs :=
  ⟨let ⟨o, e, r⟩ := x.1; ⟨o, k _ e, r⟩, fun q => let ⟨n, e⟩ := x.2 q; ⟨n, k _ e⟩⟩
theorem HoldsAt.some {h : Heap} {a : Addr} {b : Bool} {vs : List Value} (x : HoldsAt h a b vs) : ∃ o, h.get? a = some o := let ⟨o, e, _⟩ := x.1; ⟨o, e⟩
def OwnAt (g : Gd) (h₀ : Heap) (L : Addr) (F : Fz) (h : Heap) (own : Option (Bool × List AV)) (oa : Option Addr) : Prop :=
  (own = none ∧ oa = none) ∨ ∃ b l a, own = some (b, l) ∧ oa = some a ∧ F a = none ∧ a ≠ L ∧ h₀.get? a = none ∧ ∃ vs : List Value, HoldsAt h a b vs ∧ Reps g.ringC F vs l

theorem OwnAt.map {g : Gd} {h₀ : Heap} {L : Addr} {F F' : Fz} {h h' : Heap} {own : Option (Bool × List AV)} {oa : Option Addr} (x : OwnAt g h₀ L F h own oa) (le : Le F F')
    (k : ∀ a, oa = some a → F a = none → (∃ o, h.get? a = some o) → F' a = none ∧ ∀ o, h.get? a = some o → h'.get? a = some o) : OwnAt g h₀ L F' h' own oa :=
  x.imp id fun x => ex3 x fun b l a x => an6 x fun q r e1 e2 e3 x => x.elim fun vs x => ⟨b, l, a, q, r, (k a r e1 x.1.some).1, e2, e3, vs, x.1.at_ (k a r e1 x.1.some).2, x.2.mono le⟩

def RepO (C : Addr) (F : Fz) (oa : Option Addr) (v : Value) (x : AV) : Prop := (x = .own ∧ ∃ a, oa = some a ∧ v = .ref a) ∨ Rep C F v x

/-- a place in a def's body -/
structure Pl where
  g : Gd
  A : Around
  cn : Str
  cs : Scope
  L : Addr
  f : Option Addr
  ccd : Value
  cl : List (Str × Addr)
  h₀ : Heap
  d : Nat
  fm : Option Addr

abbrev Pl.env (P : Pl) : Env := { scope := P.cs, locals := P.L, globals := mainGlobals, cells := P.cl, qual := P.cn ++ ".<locals>.", func := P.f, code := P.ccd, frame := P.fm, builtins := builtinsNs }

structure Pl.Ok (P : Pl) : Prop where
  kind : P.cs.kind = .function
  hand : P.A.handled = none
  room : P.A.depth + P.d < recursionLimit
  units : P.A.units + 10 * P.d + 100 < cLine

structure SR (P : Pl) (c : Cx) (F : Fz) (oa : Option Addr) (h : Heap) : Prop where
  base : Bs P.g P.h₀
  fr : ∃ m, Fr P.h₀ P.L h m ∧ ∀ x v, look x c.loc = some v → ∃ u, m (Str.ofString x) = some u ∧ RepO P.g.ringC F oa u v
  cel : ∀ x v, look x c.cel = some v → ∃ ca u o, P.cl.lookup (Str.ofString x) = some ca ∧ F ca = some o ∧ o.data = .cell (some u) ∧ Rep P.g.ringC F u v
  sub : ∀ a o, F a = some o → h.get? a = some o
  notL : F P.L = none
  own : OwnAt P.g P.h₀ P.L F h c.own oa

structure Stp (b : Bool) (L : Addr) (F : Fz) (oa : Option Addr) (h : Heap) (F' : Fz) (oa' : Option Addr) (h' : Heap) : Prop where
  le : Le F F'
  kp : ∀ b o, b ≠ L → oa ≠ some b → h.get? b = some o → h'.get? b = some o
  dom : ∀ b, h'.get? b = none → h.get? b = none
  fresh : ∀ a o, F' a = some o → F a = some o ∨ h.get? a = none ∨ oa = some a
  ow : oa' = oa ∨ oa' = none ∨ (b = true ∧ ∃ a, oa' = some a ∧ h.get? a = none)

theorem Stp.refl {b : Bool} {L : Addr} {F : Fz} {oa : Option Addr} {h : Heap} : Stp b L F oa h F oa h := ⟨.refl _, fun _ _ _ _ e => e, fun _ e => e, fun _ _ e => .inl e, .inl rfl⟩
theorem Stp.trans {b : Bool} {L : Addr} {F F' F'' : Fz} {oa oa' oa'' : Option Addr} {h h' h'' : Heap} (x : Stp b L F oa h F' oa' h') (y : Stp b L F' oa' h' F'' oa'' h'') : Stp b L F oa h F'' oa'' h'' where
  le := x.le.trans y.le
  kp := fun b o n1 n2 e => y.kp b o n1 (fun e' => by
    rcases x.ow with q | q | ⟨_, a, q, r⟩
    · exact n2 (q ▸ e')
    · rw [q] at e'; cases e'
    · rw [q] at e'; cases e'; rw [e] at r; cases r) (x.kp b o n1 n2 e)
  dom := fun b e => x.dom b (y.dom b e)
  fresh := fun a o e => by
    rcases y.fresh a o e with q | q | q
    · exact x.fresh a o q
    · exact .inr (.inl (x.dom a q))
    · rcases x.ow with r | r | ⟨_, b, r, z⟩
      · exact .inr (.inr (r ▸ q))
      · rw [r] at q; cases q
      · rw [r] at q; cases q; exact .inr (.inl z)
  ow := by
    rcases y.ow with q | q | ⟨z, a, q, r⟩
    · rw [q]; exact x.ow
    · exact .inr (.inl q)
    · exact .inr (.inr ⟨z, a, q, x.dom a r⟩)
theorem Stp.up {b : Bool} {L : Addr} {F F' : Fz} {oa oa' : Option Addr} {h h' : Heap} (x : Stp false L F oa h F' oa' h') : Stp b L F oa h F' oa' h' :=
  ⟨x.le, x.kp, x.dom, x.fresh, x.ow.imp id fun q => q.imp id fun z => absurd z.1 (by decide)⟩
theorem Stp.same {L : Addr} {F F' : Fz} {oa oa' : Option Addr} {h h' : Heap} (x : Stp false L F oa h F' oa' h') {a : Addr} (e : oa' = some a) : oa = some a := by
  rcases x.ow with q | q | ⟨q, _⟩
  · rw [← q]; exact e
  · rw [q] at e; cases e
  · cases q

def Post (b : Bool) (P : Pl) {α β : Type} (s : Shared) (F : Fz) (oa : Option Addr) (R : Fz → α → β → Prop) (Q : β → Cx → Prop) (x : α) (s' : Shared) : Prop :=
  ∃ h' tk' F' oa' c' y, s' = { s with heap := h', toks := tk' } ∧ SR P c' F' oa' h' ∧ Stp b P.L F oa s.heap F' oa' h' ∧ R F' x y ∧ Q y c'

abbrev Wp (P : Pl) {α : Type} (t : Sem α) (Q : α → Shared → Prop) (s : Shared) : Prop := wpAny (model P.g.prog P.g.w) P.A t Q (fun _ _ => False) s

/-- the triple -/
structure Tri (b : Bool) (P : Pl) {α β : Type} (t : Sem α) (R : Fz → α → β → Prop) (c : Cx) (Q : β → Cx → Prop) : Prop where
  run : ∀ (s : Shared) (F : Fz) (oa : Option Addr), SR P c F oa s.heap → Wp P t (Post b P s F oa R Q) s

theorem Post.here {b : Bool} {P : Pl} {α β : Type} {s : Shared} {F : Fz} {oa : Option Addr} {R : Fz → α → β → Prop} {Q : β → Cx → Prop} {x : α} {c : Cx} {y : β} {tk : Nat}
    (S : SR P c F oa s.heap) (r : R F x y) (q : Q y c) : Post b P s F oa R Q x { s with toks := tk } := ⟨s.heap, tk, F, oa, c, y, rfl, S, .refl, r, q⟩
theorem Post.now {b : Bool} {P : Pl} {α β : Type} {s : Shared} {F : Fz} {oa : Option Addr} {R : Fz → α → β → Prop} {Q : β → Cx → Prop} {x : α} {c : Cx} {y : β}
    (S : SR P c F oa s.heap) (r : R F x y) (q : Q y c) : Post b P s F oa R Q x s := ⟨s.heap, s.toks, F, oa, c, y, rfl, S, .refl, r, q⟩

theorem Post.of {b : Bool} {P : Pl} {α β : Type} {s : Shared} {F : Fz} {oa : Option Addr} {R : Fz → α → β → Prop} {Q : β → Cx → Prop} {x : α} (y : β) {h' : Heap} {tk' : Nat} {F' : Fz} {oa' : Option Addr} {c' : Cx}
    (S : SR P c' F' oa' h') (st : Stp b P.L F oa s.heap F' oa' h') (r : R F' x y) (q : Q y c') : Post b P s F oa R Q x { s with heap := h', toks := tk' } := ⟨h', tk', F', oa', c', y, rfl, S, st, r, q⟩
@[elab_as_elim] theorem Post.elim {b : Bool} {P : Pl} {α β : Type} {s : Shared} {F : Fz} {oa : Option Addr} {R : Fz → α → β → Prop} {Q : β → Cx → Prop} {x : α} {s' : Shared} {G : Shared → Prop} (p : Post b P s F oa R Q x s')
    (k : ∀ h' tk' F' oa' c' y, SR P c' F' oa' h' → Stp b P.L F oa s.heap F' oa' h' → R F' x y → Q y c' → G { s with heap := h', toks := tk' }) : G s' := by
  obtain ⟨h', tk', F', oa', c', y, rfl, S', st, r, q⟩ := p
  exact k h' tk' F' oa' c' y S' st r q
theorem Tri.mono {b : Bool} {P : Pl} {α β : Type} {t : Sem α} {R : Fz → α → β → Prop} {c : Cx} {Q Q' : β → Cx → Prop} (h : Tri b P t R c Q) (k : ∀ y c', Q y c' → Q' y c') : Tri b P t R c Q' :=
  ⟨fun s F oa S => wpAny_mono (h.run s F oa S) (fun _ _ p => p.elim fun h' tk' F' oa' c' y S' st r q => ⟨h', tk', F', oa', c', y, rfl, S', st, r, k _ _ q⟩) fun _ _ x => x⟩

/-- go on behind a triple -/
theorem Tri.goE {b : Bool} {P : Pl} {α β : Type} {t : Sem α} {R : Fz → α → β → Prop} {c : Cx} {Q : β → Cx → Prop} (h : Tri b P t R c Q) {s : Shared} {F : Fz} {oa : Option Addr} (S : SR P c F oa s.heap) {Q' : α → Shared → Prop} {E : Value → Shared → Prop}
    (k : ∀ h' tk' F' oa' c' x y, SR P c' F' oa' h' → Stp b P.L F oa s.heap F' oa' h' → R F' x y → Q y c' → Q' x { s with heap := h', toks := tk' }) : wpAny (model P.g.prog P.g.w) P.A t Q' E s :=
  wpAny_mono (h.run s F oa S) (fun x _ p => p.elim fun h' tk' F' oa' c' y S' st r q => k h' tk' F' oa' c' x y S' st r q) fun _ _ e => e.elim
theorem Tri.go {b : Bool} {P : Pl} {α β : Type} {t : Sem α} {R : Fz → α → β → Prop} {c : Cx} {Q : β → Cx → Prop} (h : Tri b P t R c Q) {s : Shared} {F : Fz} {oa : Option Addr} (S : SR P c F oa s.heap) {Q' : α → Shared → Prop}
    (k : ∀ h' tk' F' oa' c' x y, SR P c' F' oa' h' → Stp b P.L F oa s.heap F' oa' h' → R F' x y → Q y c' → Q' x { s with heap := h', toks := tk' }) : Wp P t Q' s := h.goE S k

/-- behind a step: what follows -/
theorem Tri.on {b : Bool} {P : Pl} {α β : Type} {t : Sem α} {R : Fz → α → β → Prop} {c1 : Cx} {Q : β → Cx → Prop} (h : Tri b P t R c1 Q) {s : Shared} {F F1 : Fz} {oa oa1 : Option Addr} {h1 : Heap} {tk1 : Nat} (S1 : SR P c1 F1 oa1 h1) (st1 : Stp b P.L F oa s.heap F1 oa1 h1) :
    Wp P t (Post b P s F oa R Q) { s with heap := h1, toks := tk1 } :=
  h.go (s := { s with heap := h1, toks := tk1 }) S1 fun h2 tk2 F2 oa2 c2 x y S2 st2 r q => ⟨h2, tk2, F2, oa2, c2, y, rfl, S2, st1.trans st2, r, q⟩

abbrev RV (P : Pl) : Fz → Value → AV → Prop := Rep P.g.ringC
abbrev RL (P : Pl) : Fz → List Value → List AV → Prop := Reps P.g.ringC
abbrev RB : Fz → Bool → Bool → Prop := fun _ a b => a = b

abbrev Ev (P : Pl) (e : Expr) (c : Cx) (Q : AV → Cx → Prop) : Prop := Tri false P (eval e P.env) (RV P) c Q
abbrev Tr (P : Pl) (e : Expr) (c : Cx) (Q : Bool → Cx → Prop) : Prop := Tri false P (isTrue e P.env (eval e P.env)) RB c Q
abbrev EvL (P : Pl) (pos : Pos) (es : List Expr) (c : Cx) (Q : List AV → Cx → Prop) : Prop := Tri false P (spliced (backTo pos (starEach es P.env))) (RL P) c Q

def upd (F : Fz) (a : Addr) (o : Obj) : Fz := fun b => if b = a then some o else F b
theorem get_size_none (h : Heap) : h.get? h.objs.size = none := by
  cases q : h.get? h.objs.size with
  | none => rfl
  | some o => exact absurd (Heap.lt_size q) (Nat.lt_irrefl _)
theorem ne_of_none {h : Heap} {a b : Addr} {o : Obj} (x : h.get? a = none) (y : h.get? b = some o) : b ≠ a := by
  rintro rfl; rw [x] at y; cases y
theorem le_upd {F : Fz} {a : Addr} {o : Obj} (x : F a = none) : Le F (upd F a o) := fun b q e => by
  unfold upd
  split
  · rename_i h; subst h; rw [x] at e; cases e
  · exact e
theorem SR.F_none {P : Pl} {c : Cx} {F : Fz} {oa : Option Addr} {h : Heap} (S : SR P c F oa h) {a : Addr} (x : h.get? a = none) : F a = none := by
  cases q : F a with
  | none => rfl
  | some o => rw [S.sub a o q] at x; cases x
theorem SR.L_some {P : Pl} {c : Cx} {F : Fz} {oa : Option Addr} {h : Heap} (S : SR P c F oa h) : ∃ o, h.get? P.L = some o := by
  obtain ⟨m, fr, _⟩ := S.fr
  refine hide fun G kG => ?_; obtain ⟨o, es, ep, e, _⟩ := fr.ns; refine kG ?_; clear kG G
  exact ⟨o, e⟩
theorem SR.own_some {P : Pl} {c : Cx} {F : Fz} {oa : Option Addr} {h : Heap} (S : SR P c F oa h) {a : Addr} (e : oa = some a) : (∃ o, h.get? a = some o) ∧ F a = none ∧ a ≠ P.L ∧ P.h₀.get? a = none :=
  S.own.elim (fun q => ns q.2 e) fun x => ex3 x fun b l a' x => an6 x fun _ r e1 e2 e3 x => x.elim fun vs x => Option.some.inj (r.symm.trans e) ▸ ⟨x.1.some, e1, e2, e3⟩
theorem SR.free {P : Pl} {c : Cx} {F : Fz} {oa : Option Addr} {h : Heap} (S : SR P c F oa h) {a : Addr} (e : h.get? a = none) : F a = none ∧ oa ≠ some a ∧ a ≠ P.L :=
  ⟨S.F_none e, fun z => ex1 (S.own_some z).1 fun _ w => ns e w, fun z => ex1 S.L_some fun _ w => ns e (z ▸ w)⟩

/-- a larger frozen part -/
theorem RepO.mono {C : Addr} {F F' : Fz} {oa : Option Addr} (le : Le F F') {v : Value} {x : AV} (h : RepO C F oa v x) : RepO C F' oa v x :=
  h.imp id (Rep.mono le)
/-- a step that touches, beside what it keeps, objects X that no one sees -/
theorem SR.over {P : Pl} {c : Cx} {F F' : Fz} {oa : Option Addr} {h h' : Heap} {X : Addr → Prop} (S : SR P c F oa h) (k : ∀ b o, ¬ X b → h.get? b = some o → h'.get? b = some o) (le : Le F F') (sub : ∀ a o, F' a = some o → h'.get? a = some o)
    (fresh : ∀ a o, F' a = some o → F a = some o ∨ (a ≠ P.L ∧ oa ≠ some a)) (hL : ¬ X P.L) (hO : ∀ b, X b → oa ≠ some b) (hh : ∀ b, X b → P.h₀.get? b = none) : SR P c F' oa h' where
  base := S.base
  fr := ex1 S.fr fun m x => ⟨m, ⟨x.1.ns.at' fun o e => k _ o hL e, fun b o e => k b o (fun z => ns (hh b z) e) (x.1.keep b o e), x.1.above⟩, fun y v e => ex1 (x.2 y v e) fun u e => ⟨u, e.1, e.2.mono le⟩⟩
  cel := fun x v e => ex3 (S.cel x v e) fun ca u o e => ⟨ca, u, o, e.1, le _ _ e.2.1, e.2.2.1, e.2.2.2.mono le⟩
  sub := sub
  notL := none_of fun o q => (fresh _ _ q).elim (fun r => ns S.notL r) fun r => r.1 rfl
  own := S.own.map le fun a r e1 _ => ⟨none_of fun o q => (fresh _ _ q).elim (fun z => ns e1 z) fun z => z.2 r, fun o e => k _ o (fun x => hO _ x r) e⟩
theorem Stp.over {b : Bool} {L : Addr} {F F1 F2 : Fz} {oa oa1 : Option Addr} {h h1 h2 : Heap} {X : Addr → Prop} (st : Stp b L F oa h F1 oa1 h1) (k : ∀ b o, ¬ X b → h1.get? b = some o → h2.get? b = some o) (le : Le F1 F2)
    (fresh : ∀ a o, F2 a = some o → F1 a = some o ∨ h.get? a = none) (hX : ∀ b, X b → h.get? b = none) : Stp b L F oa h F2 oa1 h2 where
  le := st.le.trans le
  kp := fun b o n1 n2 e => k b o (fun x => ns (hX b x) e) (st.kp b o n1 n2 e)
  dom := fun b e => (Classical.em (X b)).elim (hX b) fun x => st.dom b (none_of fun o q => ns e (k b o x q))
  fresh := fun a o e => (fresh a o e).elim (st.fresh a o) fun z => .inr (.inl z)
  ow := st.ow
theorem SR.grow {P : Pl} {c : Cx} {F F' : Fz} {oa : Option Addr} {h h' : Heap} (S : SR P c F oa h) (k : ∀ b o, h.get? b = some o → h'.get? b = some o) (le : Le F F') (sub : ∀ a o, F' a = some o → h'.get? a = some o)
    (fresh : ∀ a o, F' a = some o → F a = some o ∨ h.get? a = none) : SR P c F' oa h' :=
  S.over (X := fun _ => False) (fun b o _ => k b o) le sub (fun a o e => (fresh a o e).imp id fun n => ⟨(S.free n).2.2, (S.free n).2.1⟩) id (fun _ z => z.elim) fun _ z => z.elim
theorem stp_grow {b : Bool} {L : Addr} {F F' : Fz} {oa : Option Addr} {h h' : Heap} (k : ∀ b o, h.get? b = some o → h'.get? b = some o) (le : Le F F') (fresh : ∀ a o, F' a = some o → F a = some o ∨ h.get? a = none) : Stp b L F oa h F' oa h' :=
  Stp.refl.over (X := fun _ => False) (fun b o _ => k b o) le fresh fun _ z => z.elim
/-- a step that keeps every object -/
theorem SR.keeps {P : Pl} {c : Cx} {F : Fz} {oa : Option Addr} {h h' : Heap} (S : SR P c F oa h) (k : ∀ b o, h.get? b = some o → h'.get? b = some o) : SR P c F oa h' := S.grow k (.refl _) (fun a o e => k a o (S.sub a o e)) fun _ _ e => .inl e
theorem stp_keeps {b : Bool} {L : Addr} {F : Fz} {oa : Option Addr} {h h' : Heap} (k : ∀ b o, h.get? b = some o → h'.get? b = some o) : Stp b L F oa h F oa h' := stp_grow k (.refl _) fun _ _ e => .inl e

/-- a new object, frozen at once -/
theorem SR.alloc {P : Pl} {c : Cx} {F : Fz} {oa : Option Addr} {h : Heap} (S : SR P c F oa h) (o : Obj) (hf : o.isFreed = false := by rfl) :
    SR P c (upd F h.objs.size o) oa (h.push o) ∧ (∀ b, Stp b P.L F oa h (upd F h.objs.size o) oa (h.push o)) ∧ upd F h.objs.size o h.objs.size = some o := by
  have n := S.F_none (get_size_none h)
  have k : ∀ b o', h.get? b = some o' → (h.push o).get? b = some o' := fun b o' e => Heap.get?_push_of_some _ e
  have fresh : ∀ a q, upd F h.objs.size o a = some q → F a = some q ∨ h.get? a = none := fun a q e => by
    unfold upd at e
    split at e
    · rename_i r; subst r; exact .inr (get_size_none h)
    · exact .inl e
  refine ⟨S.grow k (le_upd n) (fun a q e => ?_) fresh, fun _ => stp_grow k (le_upd n) fresh, by simp [upd]⟩
  unfold upd at e
  split at e
  · rename_i r; subst r; cases e; exact Heap.get?_push_size _ hf
  · exact k _ _ (S.sub a q e)

section
variable {P : Pl}

theorem ev_int {i : Int} {k : Nat} {pos : Pos} {c : Cx} {Q : AV → Cx → Prop} (h : Q (.int i) c) : Ev P (.Constant (.int i) k pos) c Q :=
  ⟨fun _ _ _ S => wpAny_Constant_int (Post.here S .int h)⟩

theorem ev_local {x : String} {pos : Pos} {c : Cx} {v : AV} {Q : AV → Cx → Prop} (ok : P.Ok) (hx : look x c.loc = some v) (hv : v ≠ .own) (h : Q v c) (hk : P.env.kindOf (Str.ofString x) = some .local := by rfl)
    (hd : (Str.ofString x == ("__debug__" : Str)) = false := by decide) : Ev P (.Name (Str.ofString x) pos) c Q := by
  refine ⟨fun s F oa S => ?_⟩
  obtain ⟨m, fr, hm⟩ := S.fr
  obtain ⟨u, hu, hr⟩ := hm x v hx
  have hr' : Rep P.g.ringC F u v := hr.resolve_left fun e => hv e.1
  exact wpAny_Name (wpAny_loadName_local ok.kind hk fr.ns hu (Post.now S hr' h)) hd

theorem ev_global {x : Str} {a : Addr} {pos : Pos} {c : Cx} {Q : AV → Cx → Prop} (ok : P.Ok) (e : nsIn P.g.K mainGlobals x = some (some (.ref a))) (h : Q (.fn a) c) (hk : P.env.kindOf x = some .globalImplicit := by rfl)
    (hd : (x == ("__debug__" : Str)) = false := by decide) : Ev P (.Name x pos) c Q := by
  refine ⟨fun s F oa S => ?_⟩
  obtain ⟨m, fr, hm⟩ := S.fr
  have T := S.base.t.keeps fr.keep
  exact Calls.Name_function_global ok.kind hk (Calls.loadGlobal_global T.g (mg_of (S.base.k.keeps fr.keep) T.g e) (Post.now S .fn h)) hd

end
end Mine
end
section
open PySem PySem.W PyProof.Rows
set_option Elab.async false
set_option linter.unusedVariables false
namespace Mine
section
variable {P : Pl}

/-! operators on ints -/
structure BinOk (P : Pl) (op : Operator) (i j k : Int) : Prop where
  run : ∀ (s : Shared) (t u : Tok) (Q : Value → Shared → Prop), (∀ t' tk', Q (.int k t') { s with toks := tk' }) → Wp P (binaryOp op (.int i t) (.int j u)) Q s
structure AugOk (P : Pl) (op : Operator) (i j k : Int) : Prop where
  run : ∀ (s : Shared) (t u : Tok) (Q : Value → Shared → Prop), (∀ t' tk', Q (.int k t') { s with toks := tk' }) → Wp P (inplaceOp op (.int i t) (.int j u)) Q s

theorem bits_small {i : Int} (h : i.natAbs < 2 ^ 64) : Builtin.Int.intBits i ≤ 64 := by
  unfold Builtin.Int.intBits
  split
  · omega
  · rename_i h0
    have h0' : i.natAbs ≠ 0 := by
      intro e; apply h0; simp; omega
    have := (Nat.log2_lt h0').mpr h
    omega
theorem mul_small {i j : Int} (h : i.natAbs < 2 ^ 64 ∨ j.natAbs < 2 ^ 64) : IntMulOk i j := h.elim (fun h => .of_left (bits_small h)) fun h => .of_right (bits_small h)
theorem div_small {i j : Int} (h : j.natAbs < 2 ^ 64) : Builtin.divisionGoesByPylong i j = false := by
  unfold Builtin.divisionGoesByPylong
  have : ((if (j == 0) = true then 0 else j.natAbs.log2 / 30 + 1) > 300) = False := by
    rw [eq_iff_iff, iff_false]
    split
    · omega
    · rename_i h0
      have h0' : j.natAbs ≠ 0 := by
        intro e; apply h0; simp; omega
      have := (Nat.log2_lt h0').mpr h
      omega
  simp only [this, decide_false, Bool.false_and]

theorem bin_add {i j : Int} : BinOk P .Add i j (i + j) := ⟨fun _ _ _ _ h => add_int (h _ _)⟩
theorem bin_sub {i j : Int} : BinOk P .Sub i j (i - j) := ⟨fun _ _ _ _ h => sub_int (h _ _)⟩
theorem bin_mul {i j : Int} (hm : i.natAbs < 2 ^ 64 ∨ j.natAbs < 2 ^ 64) : BinOk P .Mult i j (i * j) := ⟨fun _ _ _ _ h => mul_int (h _ _) (mul_small hm)⟩
theorem bin_div {i j : Int} (h0 : j ≠ 0) (hm : j.natAbs < 2 ^ 64) : BinOk P .FloorDiv i j (i.fdiv j) := ⟨fun _ _ _ _ h => floordiv_int h0 (h _ _) (.inl (div_small hm))⟩
theorem bin_mod {i j : Int} (h0 : j ≠ 0) : BinOk P .Mod i j (i.fmod j) := ⟨fun _ _ _ _ h => mod_int h0 (h _ _)⟩
theorem bin_shr {i j : Int} (h0 : 0 ≤ j) : BinOk P .RShift i j (i.fdiv (2 ^ j.toNat)) := ⟨fun _ _ _ _ h => rshift_int h0 (h _ _)⟩
theorem bin_shl {i j : Int} (h0 : 0 ≤ j) (h1 : j ≤ 1000) (hi : i.natAbs < 2 ^ 64) : BinOk P .LShift i j (i * 2 ^ j.toNat) := ⟨fun _ _ _ _ h => lshift_int h0 (by
  have := bits_small hi
  have e : (2 : Int) ^ 27 = 134217728 := by decide
  omega) (h _ _)⟩
theorem bin_and {i j : Int} : BinOk P .BitAnd i j (Builtin.bitAnd i j) := ⟨fun _ _ _ _ h => and_int (h _ _)⟩
theorem bin_or {i j : Int} : BinOk P .BitOr i j (Builtin.bitOr i j) := ⟨fun _ _ _ _ h => or_int (h _ _)⟩
theorem bin_pow {i j : Int} (h0 : 0 ≤ j) (h1 : j ≤ 1000) (hi : i.natAbs < 2 ^ 64) : BinOk P .Pow i j (i ^ j.toNat) := ⟨fun _ _ _ _ h => pow_int h0 (by
  have := bits_small hi
  have e : (2 : Int) ^ 27 = 134217728 := by decide
  have q : (Builtin.Int.intBits i : Int) * j ≤ 64 * 1000 := Int.mul_le_mul (by omega) h1 h0 (by omega)
  omega) (h _ _)⟩
theorem aug_add {i j : Int} : AugOk P .Add i j (i + j) := ⟨fun _ _ _ _ h => iadd_int (h _ _)⟩
theorem aug_sub {i j : Int} : AugOk P .Sub i j (i - j) := ⟨fun _ _ _ _ h => isub_int (h _ _)⟩
theorem aug_mod {i j : Int} (h0 : j ≠ 0) : AugOk P .Mod i j (i.fmod j) := ⟨fun _ _ _ _ h => imod_int h0 (h _ _)⟩
theorem aug_shr {i j : Int} (h0 : 0 ≤ j) : AugOk P .RShift i j (i.fdiv (2 ^ j.toNat)) := ⟨fun _ _ _ _ h => irshift_int h0 (h _ _)⟩

theorem ev_bin {l r : Expr} {op : Operator} {pos : Pos} {c : Cx} {Q : AV → Cx → Prop}
    (h : Ev P l c fun a c1 => Ev P r c1 fun b c2 => ∃ i j k, a = .int i ∧ b = .int j ∧ BinOk P op i j k ∧ Q (.int k) c2) : Ev P (.BinOp l op r pos) c Q := by
  refine ⟨fun s F oa S => ?_⟩
  refine wpAny_BinOp (h.go S fun h1 tk1 F1 oa1 c1 a av S1 st1 ra q1 => q1.go S1 fun h2 tk2 F2 oa2 c2 b bv S2 st2 rb q => ?_)
  refine ex3 q fun i j k q => an4 q fun e1 e2 hop q => ?_
  refine ra.intE e1 fun t => ?_
  refine rb.intE e2 fun u => ?_
  exact hop.run _ _ _ _ fun t' tk' => Post.of (AV.int k) S2 (st1.trans st2) .int q

theorem ev_neg {e : Expr} {pos : Pos} {c : Cx} {Q : AV → Cx → Prop} (h : Ev P e c fun a c1 => ∃ i, a = .int i ∧ Q (.int (-i)) c1) : Ev P (.UnaryOp .USub e pos) c Q := by
  refine ⟨fun s F oa S => ?_⟩
  show Wp P (do let v ← eval e P.env; standAt pos; holding [v] (unaryOp .USub v)) _ s
  refine wpAny_bind (h.go S fun h1 tk1 F1 oa1 c1 a av S1 st1 ra q => ?_)
  refine ex1 q fun i q => ?_
  refine ra.intE q.1 fun t => ?_
  refine an2 q fun _ q => ?_
  exact wpAny_bind (wpAny_standAt (wpAny_holding (neg_int (Post.of (AV.int (-i)) S1 st1 .int q))))

/-! comparisons -/
structure CmpOk (P : Pl) (op : CmpOp) (a b : AV) (r : Bool) : Prop where
  run : ∀ (s : Shared) (F : Fz) (v u : Value) (Q : Value → Shared → Prop), (∀ a o, F a = some o → s.heap.get? a = some o) → Rep P.g.ringC F v a → Rep P.g.ringC F u b → Q (.bool r) s → Wp P (compareOp op v u) Q s

abbrev avI (l : List Int) : AV := .list (l.map .int)
theorem Reps.ints {C : Addr} {F : Fz} : ∀ {vs : List Value} {l : List Int}, Reps C F vs (l.map .int) → IntsAre vs l
  | _, [], h => h.nil_ .nil
  | _, i :: l, h => h.cons_ fun v vs a b => a.intE rfl fun t => .cons _ _ (Reps.ints b)
theorem IsSeqF.list {F : Fz} {a : Addr} {vs : List Value} {h : Heap} (x : IsSeqF F "list" a vs) (sub : ∀ a o, F a = some o → h.get? a = some o) : h.IsList a vs.toArray := let ⟨o, e, r⟩ := x; ⟨o, sub _ _ e, r⟩
theorem IsSeqF.tup {F : Fz} {a : Addr} {vs : List Value} {h : Heap} (x : IsSeqF F "tuple" a vs) (sub : ∀ a o, F a = some o → h.get? a = some o) : IsTup h a vs.toArray := let ⟨o, e, r⟩ := x; ⟨o, sub _ _ e, r⟩

theorem units_lt (ok : P.Ok) : P.A.units + 64 < cLine := by have := ok.units; omega
theorem cmp_lt {i j : Int} : CmpOk P .Lt (.int i) (.int j) (decide (i < j)) := ⟨fun _ _ _ _ _ _ ra rb h => ra.intE rfl fun _ => rb.intE rfl fun _ => lt_int h⟩
theorem cmp_gt {i j : Int} : CmpOk P .Gt (.int i) (.int j) (decide (j < i)) := ⟨fun _ _ _ _ _ _ ra rb h => ra.intE rfl fun _ => rb.intE rfl fun _ => gt_int h⟩
theorem cmp_le {i j : Int} : CmpOk P .LtE (.int i) (.int j) (decide (i ≤ j)) := ⟨fun _ _ _ _ _ _ ra rb h => ra.intE rfl fun _ => rb.intE rfl fun _ => le_int h⟩
theorem cmp_ge {i j : Int} : CmpOk P .GtE (.int i) (.int j) (decide (j ≤ i)) := ⟨fun _ _ _ _ _ _ ra rb h => ra.intE rfl fun _ => rb.intE rfl fun _ => ge_int h⟩
theorem cmp_eq {i j : Int} : CmpOk P .Eq (.int i) (.int j) (decide (i = j)) := ⟨fun _ _ _ _ _ _ ra rb h => ra.intE rfl fun _ => rb.intE rfl fun _ => eq_int h⟩
theorem cmp_ne {i j : Int} : CmpOk P .NotEq (.int i) (.int j) (!decide (i = j)) := ⟨fun _ _ _ _ _ _ ra rb h => ra.intE rfl fun _ => rb.intE rfl fun _ => ne_int h⟩
theorem cmp_eqB {i j : Bool} : CmpOk P .Eq (.bool i) (.bool j) (i == j) := ⟨fun _ _ _ _ _ _ ra rb h => ra.boolE rfl (rb.boolE rfl (eq_bool h))⟩
theorem cmp_neB {i j : Bool} : CmpOk P .NotEq (.bool i) (.bool j) (i != j) := ⟨fun _ _ _ _ _ _ ra rb h => ra.boolE rfl (rb.boolE rfl (ne_bool h))⟩
theorem cmp_eqL (ok : P.Ok) {l m : List Int} : CmpOk P .Eq (avI l) (avI m) (decide (l = m)) := ⟨fun _ _ _ _ _ sub ra rb h => ra.listE rfl fun _ _ x r => rb.listE rfl fun _ _ y q => eq_intsK (x.list sub) r.ints (y.list sub) q.ints (units_lt ok) h⟩
theorem cmp_neL (ok : P.Ok) {l m : List Int} : CmpOk P .NotEq (avI l) (avI m) (!decide (l = m)) := ⟨fun _ _ _ _ _ sub ra rb h => ra.listE rfl fun _ _ x r => rb.listE rfl fun _ _ y q => ne_intsK (x.list sub) r.ints (y.list sub) q.ints (units_lt ok) h⟩
theorem cmp_inT {i : Int} {l : List Int} : CmpOk P .In (.int i) (.tup (l.map .int)) (l.any (· == i)) := ⟨fun _ _ _ _ _ sub ra rb h => ra.intE rfl fun _ => rb.tupE rfl fun _ _ y q => in_tuple_ints (y.tup sub) q.ints h⟩
theorem cmp_inL {i : Int} {l : List Int} : CmpOk P .In (.int i) (avI l) (l.any (· == i)) := ⟨fun _ _ _ _ _ sub ra rb h => ra.intE rfl fun _ => rb.listE rfl fun _ _ y q => in_list_ints (y.list sub) q.ints h⟩
theorem cmp_isN {a : AV} {r : Bool} (hr : r = match a with | .none => true | _ => false) : CmpOk P .Is a .none r := ⟨fun _ _ v _ _ _ ra rb h => by
  subst hr
  cases rb
  refine is_none_gen ?_
  cases ra <;> exact h⟩
theorem cmp_notN {a : AV} {r : Bool} (hr : r = match a with | .none => false | _ => true) : CmpOk P .IsNot a .none r := ⟨fun _ _ v _ _ _ ra rb h => by
  subst hr
  cases rb
  refine isnot_none_gen ?_
  cases ra <;> exact h⟩

theorem ev_cmp {l r : Expr} {op : CmpOp} {pos : Pos} {c : Cx} {Q : AV → Cx → Prop} (h : Ev P l c fun a c1 => Ev P r c1 fun b c2 => ∃ k, CmpOk P op a b k ∧ Q (.bool k) c2)
    (hm : behindInMarks op r = false := by rfl) : Ev P (.Compare l [op] [r] pos) c Q := by
  refine ⟨fun s F oa S => ?_⟩
  refine wpAny_Compare1 (h.go S fun h1 tk1 F1 oa1 c1 a av S1 st1 ra q1 => q1.go S1 fun h2 tk2 F2 oa2 c2 b bv S2 st2 rb q => ?_) hm
  refine ex1 q fun k q => ?_
  exact q.1.run _ F2 _ _ _ S2.sub (ra.mono st2.le) rb (Post.of (AV.bool k) S2 (st1.trans st2) .bool q.2)

/-! truth -/
theorem tr_cmp {l r : Expr} {op : CmpOp} {pos : Pos} {c : Cx} {Q : Bool → Cx → Prop} (h : Ev P l c fun a c1 => Ev P r c1 fun b c2 => ∃ k, CmpOk P op a b k ∧ Q k c2)
    (hm : behindInMarks op r = false := by rfl) : Tr P (.Compare l [op] [r] pos) c Q := by
  refine ⟨fun s F oa S => ?_⟩
  refine wpAny_isTrue_Compare1 (h.go S fun h1 tk1 F1 oa1 c1 a av S1 st1 ra q1 => q1.go S1 fun h2 tk2 F2 oa2 c2 b bv S2 st2 rb q => ?_) hm
  refine ex1 q fun k q => ?_
  exact q.1.run _ F2 _ _ _ S2.sub (ra.mono st2.le) rb (wpAny_truthy_bool (Post.of k S2 (st1.trans st2) rfl q.2))
theorem tr_not {e : Expr} {pos : Pos} {c : Cx} {Q : Bool → Cx → Prop} (h : Tr P e c fun b c1 => Q (!b) c1) : Tr P (.UnaryOp .Not e pos) c Q := by
  refine ⟨fun s F oa S => ?_⟩
  refine isTrue_not (h.go S fun h1 tk1 F1 oa1 c1 a av S1 st1 ra q => ?_)
  exact Post.of (!av) S1 st1 (congrArg _ ra) q
theorem tr_plain {e : Expr} {c : Cx} {Q : Bool → Cx → Prop} (h : Ev P e c fun a c1 => ∃ b, a = .bool b ∧ Q b c1)
    (he : isTrue e P.env (eval e P.env) = (do let v ← eval e P.env; standAt e.pos; holding [v] (truthy v)) := by rfl) : Tr P e c Q := by
  refine ⟨fun s F oa S => ?_⟩
  refine isTrue_plain (h.go S fun h1 tk1 F1 oa1 c1 a av S1 st1 ra q => ?_) he
  refine ex1 q fun b q => ?_
  refine ra.boolE q.1 ?_
  exact wpAny_truthy_bool (Post.of b S1 st1 rfl q.2)
abbrev TrAll (P : Pl) (op : BoolOp) (es : List Expr) (c : Cx) (Q : Bool → Cx → Prop) : Prop := Tri false P (allTrue op es P.env) RB c Q
theorem tr_bool {op : BoolOp} {es : List Expr} {pos : Pos} {c : Cx} {Q : Bool → Cx → Prop} (h : TrAll P op es c Q) : Tr P (.BoolOp op es pos) c Q := h
theorem trAll_nil {op : BoolOp} {c : Cx} {Q : Bool → Cx → Prop} (h : Q (op == .And) c) : TrAll P op [] c Q := ⟨fun _ _ _ S => wpAny_pure (Post.now S rfl h)⟩
theorem trAll_and {e : Expr} {es : List Expr} {c : Cx} {Q : Bool → Cx → Prop} (h : Tr P e c fun b c1 => if b = true then TrAll P .And es c1 Q else Q false c1) : TrAll P .And (e :: es) c Q := by
  refine ⟨fun s F oa S => ?_⟩
  refine isTrue_and (pos := default) (whole := pure default) (h.go S fun h1 tk1 F1 oa1 c1 a av S1 st1 ra q => ?_)
  subst ra
  cases a with
  | true => exact Tri.on q S1 st1
  | false => exact Post.of false S1 st1 rfl q
theorem trAll_or {e : Expr} {es : List Expr} {c : Cx} {Q : Bool → Cx → Prop} (h : Tr P e c fun b c1 => if b = true then Q true c1 else TrAll P .Or es c1 Q) : TrAll P .Or (e :: es) c Q := by
  refine ⟨fun s F oa S => ?_⟩
  refine isTrue_or (pos := default) (whole := pure default) (h.go S fun h1 tk1 F1 oa1 c1 a av S1 st1 ra q => ?_)
  subst ra
  cases a with
  | true => exact Post.of true S1 st1 rfl q
  | false => exact Tri.on q S1 st1

theorem ev_not {e : Expr} {pos : Pos} {c : Cx} {Q : AV → Cx → Prop} (h : Ev P e c fun a c1 => ∃ b, a = .bool b ∧ Q (.bool (!b)) c1) : Ev P (.UnaryOp .Not e pos) c Q := by
  refine ⟨fun s F oa S => ?_⟩
  show Wp P (do let v ← eval e P.env; standAt pos; holding [v] (unaryOp .Not v)) _ s
  refine wpAny_bind (h.go S fun h1 tk1 F1 oa1 c1 a av S1 st1 ra q => ?_)
  refine ex1 q fun i q => ?_
  refine ra.boolE q.1 ?_
  exact wpAny_bind (wpAny_standAt (wpAny_holding (not_of (wpAny_truthy_bool (Post.of (AV.bool (!i)) S1 st1 .bool q.2)))))
theorem ev_if {t b o : Expr} {pos : Pos} {c : Cx} {Q : AV → Cx → Prop} (h : Tr P t c fun k c1 => if k = true then Ev P b c1 Q else Ev P o c1 Q) : Ev P (.IfExp t b o pos) c Q := by
  refine ⟨fun s F oa S => ?_⟩
  refine IfExp_ (h.go S fun h1 tk1 F1 oa1 c1 a av S1 st1 ra q => ?_)
  subst ra
  cases a with
  | true => exact Tri.on q S1 st1
  | false => exact Tri.on q S1 st1
theorem ev_or2 {a b : Expr} {pos : Pos} {c : Cx} {Q : AV → Cx → Prop} (h : Ev P a c fun x c1 => ∃ k, x = .bool k ∧ if k = true then Q (.bool true) c1 else Ev P b c1 Q) : Ev P (.BoolOp .Or [a, b] pos) c Q := by
  refine ⟨fun s F oa S => ?_⟩
  refine BoolOp_or (h.go S fun h1 tk1 F1 oa1 c1 x av S1 st1 ra q => ?_)
  refine ex1 q fun k q => ?_
  refine ra.boolE q.1 ?_
  refine an2 q fun _ q => ?_
  refine wpAny_truthy_bool ?_
  cases k with
  | true => exact Post.of (AV.bool true) S1 st1 .bool q
  | false => exact BoolOp_one (Tri.on q S1 st1)
theorem ev_and2 {a b : Expr} {pos : Pos} {c : Cx} {Q : AV → Cx → Prop} (h : Ev P a c fun x c1 => ∃ k, x = .bool k ∧ if k = true then Ev P b c1 Q else Q (.bool false) c1) : Ev P (.BoolOp .And [a, b] pos) c Q := by
  refine ⟨fun s F oa S => ?_⟩
  refine BoolOp_and (h.go S fun h1 tk1 F1 oa1 c1 x av S1 st1 ra q => ?_)
  refine ex1 q fun k q => ?_
  refine ra.boolE q.1 ?_
  refine an2 q fun _ q => ?_
  refine wpAny_truthy_bool ?_
  cases k with
  | false => exact Post.of (AV.bool false) S1 st1 .bool q
  | true => exact BoolOp_one (Tri.on q S1 st1)

/-! displays, arguments -/
theorem fit_of {C : Addr} {F : Fz} {vs : List Value} {l : List AV} (r : Reps C F vs l) (h : l.length ≤ 1000) : vs.length ≤ sizeLine := by
  have := r.len
  rw [sizeLine_eq]; omega
theorem evl_nil {pos : Pos} {c : Cx} {Q : List AV → Cx → Prop} (h : Q [] c) : EvL P pos [] c Q := ⟨fun _ _ _ S => spliced_none (Post.now S .nil h)⟩
theorem evl_cons {pos : Pos} {e : Expr} {es : List Expr} {c : Cx} {Q : List AV → Cx → Prop} (h : Ev P e c fun a c1 => EvL P pos es c1 fun l c2 => Q (a :: l) c2)
    (he : starEach (e :: es) P.env = (false, eval e P.env) :: starEach es P.env := by rfl) : EvL P pos (e :: es) c Q := by
  refine ⟨fun s F oa S => ?_⟩
  refine spliced_more (h.go S fun h1 tk1 F1 oa1 c1 a av S1 st1 ra q1 => q1.go S1 fun h2 tk2 F2 oa2 c2 b bv S2 st2 rb q => ?_) he
  exact Post.of (av :: bv) S2 (st1.trans st2) (.cons (ra.mono st2.le) rb) q
theorem ev_tuple {pos : Pos} {es : List Expr} {k : Nat} {c : Cx} {Q : AV → Cx → Prop} (h : EvL P pos es c fun l c1 => l.length ≤ 1000 ∧ Q (.tup l) c1) : Ev P (.Tuple es k pos) c Q := by
  refine ⟨fun s F oa S => ?_⟩
  refine Tuple_ (h.go S fun h1 tk1 F1 oa1 c1 a av S1 st1 ra q => ?_)
  refine an3 (S1.alloc { cls := .type "tuple", data := .seq a.toArray }) fun S2 st2 e2 => ?_
  exact wpAny_newTuple (Post.of (AV.tup av) S2 (st1.trans (st2 _)) (.tup ⟨_, e2, rfl, 0, rfl⟩ (ra.mono (st2 true).le)) q.2) (fit_of ra q.1)
theorem ev_list {pos : Pos} {es : List Expr} {c : Cx} {Q : AV → Cx → Prop} (h : EvL P pos es c fun l c1 => l.length ≤ 1000 ∧ Q (.list l) c1) : Ev P (.List es pos) c Q := by
  refine ⟨fun s F oa S => ?_⟩
  refine List_ (h.go S fun h1 tk1 F1 oa1 c1 a av S1 st1 ra q => ?_)
  refine an3 (S1.alloc { cls := .type "list", data := .seq a.toArray }) fun S2 st2 e2 => ?_
  exact wpAny_newList (Post.of (AV.list av) S2 (st1.trans (st2 _)) (.list ⟨_, e2, rfl, 0, rfl⟩ (ra.mono (st2 true).le)) q.2) (fit_of ra q.1)
end
end Mine
end
section
open PySem PySem.W PyProof.Rows
set_option Elab.async false
set_option linter.unusedVariables false
namespace Mine

/-- how a statement ends -/
inductive Fl where
  | next
  | brk
  | cont
  | ret (v : AV)
def RF (P : Pl) (F : Fz) : Flow → Fl → Prop
  | .next, .next => True
  | .brk, .brk => True
  | .cont, .cont => True
  | .ret v, .ret x => Rep P.g.ringC F v x
  | _, _ => False
@[elab_as_elim] theorem RF.elim {P : Pl} {F : Fz} {a : Flow} {x : Fl} {G : Flow → Fl → Prop} (r : RF P F a x) (n : G .next .next) (b : G .brk .brk) (c : G .cont .cont) (t : ∀ v u, Rep P.g.ringC F v u → G (.ret v) (.ret u)) : G a x := by
  cases a <;> cases x <;> first | exact False.elim r | exact n | exact b | exact c | exact t _ _ r
theorem rf_next {P : Pl} {F : Fz} : RF P F .next .next := trivial
abbrev Ex (P : Pl) (st : Stmt) (c : Cx) (Q : Fl → Cx → Prop) : Prop := Tri true P (exec st P.env) (RF P) c Q
abbrev ExB (P : Pl) (l : List Stmt) (c : Cx) (Q : Fl → Cx → Prop) : Prop := Tri true P (execs l P.env) (RF P) c Q
def sq (K : Cx → Prop) (Q : Fl → Cx → Prop) : Fl → Cx → Prop
  | .next, c => K c
  | f, c => Q f c

def Cx.put (c : Cx) (x : String) (v : AV) : Cx := { c with loc := Mine.put x v c.loc }

section
variable {P : Pl}

theorem exb_nil {c : Cx} {Q : Fl → Cx → Prop} (h : Q .next c) : ExB P [] c Q := ⟨fun _ _ _ S => wpAny_execs_nil (Post.now S rf_next h)⟩
theorem exb_cons {st : Stmt} {r : List Stmt} {c : Cx} {Q : Fl → Cx → Prop} (h : Ex P st c (sq (fun c1 => ExB P r c1 Q) Q)) : ExB P (st :: r) c Q := by
  refine ⟨fun s F oa S => ?_⟩
  refine wpAny_execs_cons (h.go S fun h1 tk1 F1 oa1 c1 a av S1 st1 ra q => ?_)
  revert q
  refine RF.elim ra (fun q => ?_) (fun q => Post.of Fl.brk S1 st1 True.intro q) (fun q => Post.of Fl.cont S1 st1 True.intro q) fun v u ra q => Post.of (Fl.ret u) S1 st1 ra q
  exact Tri.on q S1 st1

theorem ex_return {e : Expr} {pos : Pos} {c : Cx} {Q : Fl → Cx → Prop} (h : Ev P e c fun v c1 => Q (.ret v) c1) : Ex P (.Return (some e) pos) c Q := by
  refine ⟨fun s F oa S => ?_⟩
  exact wpAny_Return_some (h.go S fun h1 tk1 F1 oa1 c1 a av S1 st1 ra q => Post.of (Fl.ret av) S1 st1.up ra q)
theorem ex_if {t : Expr} {b o : List Stmt} {pos : Pos} {c : Cx} {Q : Fl → Cx → Prop} (h : Tr P t c fun k c1 => if k = true then ExB P b c1 Q else ExB P o c1 Q) : Ex P (.If t b o pos) c Q := by
  refine ⟨fun s F oa S => ?_⟩
  refine wpAny_If (h.go S fun h1 tk1 F1 oa1 c1 a av S1 st1 ra q => ?_)
  subst ra
  cases a with
  | true => exact Tri.on q S1 st1.up
  | false => exact Tri.on q S1 st1.up
theorem ex_pass {pos : Pos} {c : Cx} {Q : Fl → Cx → Prop} (h : Q .next c) : Ex P (.Pass pos) c Q := ⟨fun _ _ _ S => wpAny_Pass (Post.now S rf_next h)⟩

theorem scope_ok (ok : P.Ok) : (P.env.scope.kind == .class || (P.env.scope.kind == .module && P.env.locals != P.env.globals)) = false := by
  show (P.cs.kind == .class || (P.cs.kind == .module && _)) = false
  rw [ok.kind]; rfl

theorem ns_some {h : Heap} {a : Addr} {m : Str → Option Value} (n : h.Ns a m) : ∃ o, h.get? a = some o := by
  obtain ⟨o, es, ep, e, _⟩ := n
  exact ⟨o, e⟩
theorem put_of {C : Addr} {F : Fz} {oa : Option Addr} {m : Str → Option Value} {l : List (String × AV)} {x y : String} {u : Value} {v w : AV} (h : look y l = some w → ∃ u, m (Str.ofString y) = some u ∧ RepO C F oa u w) (hr : RepO C F oa u v) (e : look y (Mine.put x v l) = some w) :
    ∃ u', (if Str.ofString y = Str.ofString x then some u else m (Str.ofString y)) = some u' ∧ RepO C F oa u' w := by
  rw [look_put] at e
  by_cases q : y = x
  · subst q
    rw [if_pos rfl] at e
    exact ⟨u, if_pos rfl, Option.some.inj e ▸ hr⟩
  · rw [if_neg q] at e
    rw [if_neg fun h => q (ofString_inj h)]
    exact h e
/-- a store of a local -/
theorem wp_store {x : String} {u : Value} {v : AV} {c : Cx} {F : Fz} {oa : Option Addr} {s : Shared} (ok : P.Ok) (S : SR P c F oa s.heap) (hr : RepO P.g.ringC F oa u v) (hk : P.env.kindOf (Str.ofString x) = some .local) {Q' : Unit → Shared → Prop}
    (k : ∀ h' tk', SR P (c.put x v) F oa h' → (∀ b, Stp b P.L F oa s.heap F oa h') → Q' () { s with heap := h', toks := tk' }) : Wp P (storeName P.env (Str.ofString x) u) Q' s := by
  refine ex1 S.fr fun m fr => ?_
  refine wpAny_storeName_local hk fr.1.ns (fun h' hn hs => ?_) (scope_ok ok)
  have up : ∀ b o, b ≠ P.L → s.heap.get? b = some o → h'.get? b = some o := fun b o n e => (hs.2 b n).trans e
  exact k h' _ ⟨S.base, ⟨_, fr.1.set hn hs, fun y w e => put_of (fr.2 y w) hr e⟩, S.cel, fun a o e => up a o (fun q => ns S.notL (q ▸ e)) (S.sub a o e), S.notL, S.own.map (.refl _) fun a r e1 _ => ⟨e1, fun o e => up a o (S.own_some r).2.2.1 e⟩⟩
    fun b => ⟨.refl _, fun b o n _ e => up b o n e, fun b e => (Classical.em (b = P.L)).elim (fun q => ex1 (ns_some hn) fun _ w => ns (show h'.get? P.L = none from q ▸ e) w) fun q => (hs.2 b q) ▸ e, fun _ _ e => .inl e, .inl rfl⟩

theorem ex_assign {x : String} {e : Expr} {p pos : Pos} {c : Cx} {Q : Fl → Cx → Prop} (ok : P.Ok) (h : Ev P e c fun v c1 => Q .next (c1.put x v)) (hk : P.env.kindOf (Str.ofString x) = some .local := by rfl)
    (hs : swapsWith e (some (.Name (Str.ofString x) p)) pos.line P.env = pure false := by rfl) : Ex P (.Assign [.Name (Str.ofString x) p] e pos) c Q := by
  refine ⟨fun s F oa S => ?_⟩
  refine wpAny_Assign_Name (h.go S fun h1 tk1 F1 oa1 c1 a av S1 st1 ra q => wp_store ok S1 (.inr ra) hk fun h2 tk2 S2 st2 => ?_) hs
  exact Post.of Fl.next S2 (st1.up.trans (st2 _)) rf_next q
theorem ex_aug {x : String} {op : Operator} {e : Expr} {p pos : Pos} {c : Cx} {i : Int} {Q : Fl → Cx → Prop} (ok : P.Ok) (hx : look x c.loc = some (.int i))
    (h : Ev P e c fun b c1 => ∃ j k, b = .int j ∧ AugOk P op i j k ∧ Q .next (c1.put x (.int k))) (hk : P.env.kindOf (Str.ofString x) = some .local := by rfl) : Ex P (.AugAssign (.Name (Str.ofString x) p) op e pos) c Q := by
  refine ⟨fun s F oa S => ?_⟩
  refine ex1 S.fr fun m fr => ?_
  refine ex1 (fr.2 x _ hx) fun u hu => ?_
  refine (hu.2.resolve_left fun e => nomatch e.1).intE (G := fun u => m _ = some u → _) rfl (fun t hu => ?_) hu.1
  refine wpAny_AugAssign_Name (wpAny_loadName_local ok.kind hk fr.1.ns hu (h.go S fun h1 tk1 F1 oa1 c1 a av S1 st1 ra q => ?_))
  refine ex2 q fun j k q => ?_
  refine ra.intE q.1 fun t => ?_
  refine an3 q fun _ hop q => ?_
  refine hop.run _ _ _ _ fun t' tk' => wp_store (s := { s with heap := h1, toks := tk' }) ok S1 (.inr .int) hk fun h2 tk2 S2 st2 => ?_
  exact Post.of Fl.next S2 (st1.up.trans (st2 _)) rf_next q

/-! stores of a tuple's items -/
theorem wp_bind {x : String} {u : Value} {v : AV} {c : Cx} {F : Fz} {oa : Option Addr} {s : Shared} (ok : P.Ok) (S : SR P c F oa s.heap) (hr : RepO P.g.ringC F oa u v) (hk : P.env.kindOf (Str.ofString x) = some .local) {Q' : Unit → Shared → Prop}
    (k : ∀ h' tk', SR P (c.put x v) F oa h' → (∀ b, Stp b P.L F oa s.heap F oa h') → Q' () { s with heap := h', toks := tk' }) : Wp P (bindName P.env (Str.ofString x) u) Q' s := wpAny_bindName (wp_store ok S hr hk k)

theorem keeps_but {h h' : Heap} (he : Heap.ExtBut h.objs.size h h') : ∀ b o, h.get? b = some o → h'.get? b = some o :=
  fun b o e => he b o (ne_of_none (get_size_none h) e) e

theorem wp_two {x y : String} {a b : Value} {v w : AV} {c : Cx} {F : Fz} {oa : Option Addr} {s : Shared} (ok : P.Ok) (S : SR P c F oa s.heap) (ra : RepO P.g.ringC F oa a v) (rb : RepO P.g.ringC F oa b w)
    (hx : P.env.kindOf (Str.ofString x) = some .local) (hy : P.env.kindOf (Str.ofString y) = some .local) {Q' : Flow → Shared → Prop}
    (k : ∀ h' tk', SR P ((c.put y w).put x v) F oa h' → (∀ b, Stp b P.L F oa s.heap F oa h') → Q' .next { s with heap := h', toks := tk' }) :
    Wp P (newTuple [a, b]) (fun t s1 => Wp P (unpackItems t 2 none) (fun items s2 => Wp P (assignInOrder ([Str.ofString y, Str.ofString x].map fun n => bindName P.env n) items.reverse) (fun _ => Q' .next) s2) s1) s := by
  refine wpAny_newTuple ?_ (by rw [sizeLine_eq]; simp)
  have k3 : ∀ b' o', s.heap.get? b' = some o' → (s.heap.push { cls := .type "tuple", data := .seq [a, b].toArray }).get? b' = some o' := fun b' o' e => Heap.get?_push_of_some _ e
  refine unpackItems_tuple (items := [a, b].toArray) ok.hand ⟨_, Heap.get?_push_size _ rfl, rfl, 0, rfl⟩ fun h4 he => ?_
  have k4 := fun b' o' e => keeps_but he b' o' (k3 b' o' e)
  have S4 := S.keeps k4
  have st4 : ∀ b, Stp b P.L F oa s.heap F oa h4 := fun _ => stp_keeps k4
  show Wp P (assignInOrder [bindName P.env (Str.ofString y), bindName P.env (Str.ofString x)] [b, a]) _ _
  refine assignInOrder_cons (wp_bind (s := { s with heap := h4 }) ok S4 rb hy fun h5 tk5 S5 st5 => assignInOrder_cons (wp_bind (s := { s with heap := h5, toks := tk5 }) ok S5 ra hx fun h6 tk6 S6 st6 => assignInOrder_nil ?_))
  exact k h6 tk6 S6 fun b => (st4 b).trans ((st5 b).trans (st6 b))
theorem ex_tup2 {x y : String} {e1 e2 : Expr} {k1 k2 : Nat} {p1 p2 pt pv pos : Pos} {c : Cx} {Q : Fl → Cx → Prop} (ok : P.Ok) (h : Ev P e1 c fun v c1 => Ev P e2 c1 fun w c2 => Q .next ((c2.put y w).put x v))
    (hx : P.env.kindOf (Str.ofString x) = some .local := by rfl) (hy : P.env.kindOf (Str.ofString y) = some .local := by rfl)
    (hl : swapsWithSole [.Tuple [.Name (Str.ofString x) p1, .Name (Str.ofString y) p2] k1 pt] (.Tuple [e1, e2] k2 pv) pos.line P.env = pure false := by rfl)
    (hs : swappedStores [.Tuple [.Name (Str.ofString x) p1, .Name (Str.ofString y) p2] k1 pt] (.Tuple [e1, e2] k2 pv) P.env = pure (some [Str.ofString x, Str.ofString y]) := by rfl)
    (he1 : ∀ r, starEach (e1 :: r) P.env = (false, eval e1 P.env) :: starEach r P.env := by intro r; rfl) (he2 : ∀ r, starEach (e2 :: r) P.env = (false, eval e2 P.env) :: starEach r P.env := by intro r; rfl) :
    Ex P (.Assign [.Tuple [.Name (Str.ofString x) p1, .Name (Str.ofString y) p2] k1 pt] (.Tuple [e1, e2] k2 pv) pos) c Q := by
  refine ⟨fun s F oa S => ?_⟩
  refine Assign_Tuple_swapped (names := [Str.ofString x, Str.ofString y]) ?_ hl hs
  refine Tuple_ (spliced_more (h.go S fun h1 tk1 F1 oa1 c1 a av S1 st1 ra q1 => spliced_more (q1.go S1 fun h2 tk2 F2 oa2 c2 b bv S2 st2 rb q => spliced_none ?_) (he2 _)) (he1 _))
  exact wp_two ok S2 (.inr (ra.mono st2.le)) (.inr rb) hx hy fun h6 tk6 S6 st6 => Post.of Fl.next S6 (st1.up.trans (st2.up.trans (st6 _))) rf_next q
end
end Mine
end
section
open PySem PySem.W PyProof.Rows
set_option Elab.async false
set_option linter.unusedVariables false
namespace Mine
section
variable {P : Pl}

theorem wp_three {x y z : String} {a b d : Value} {v w t : AV} {c : Cx} {F : Fz} {oa : Option Addr} {s : Shared} (ok : P.Ok) (S : SR P c F oa s.heap) (ra : RepO P.g.ringC F oa a v) (rb : RepO P.g.ringC F oa b w) (rd : RepO P.g.ringC F oa d t)
    (hx : P.env.kindOf (Str.ofString x) = some .local) (hy : P.env.kindOf (Str.ofString y) = some .local) (hz : P.env.kindOf (Str.ofString z) = some .local) {Q' : Flow → Shared → Prop}
    (k : ∀ h' tk', SR P (((c.put z t).put y w).put x v) F oa h' → (∀ b, Stp b P.L F oa s.heap F oa h') → Q' .next { s with heap := h', toks := tk' }) :
    Wp P (newTuple [a, b, d]) (fun t s1 => Wp P (unpackItems t 3 none) (fun items s2 => Wp P (assignInOrder ([Str.ofString z, Str.ofString y, Str.ofString x].map fun n => bindName P.env n) items.reverse) (fun _ => Q' .next) s2) s1) s := by
  refine wpAny_newTuple ?_ (by rw [sizeLine_eq]; simp)
  have k3 : ∀ b' o', s.heap.get? b' = some o' → (s.heap.push { cls := .type "tuple", data := .seq [a, b, d].toArray }).get? b' = some o' := fun b' o' e => Heap.get?_push_of_some _ e
  refine unpackItems_tuple (items := [a, b, d].toArray) ok.hand ⟨_, Heap.get?_push_size _ rfl, rfl, 0, rfl⟩ fun h4 he => ?_
  have k4 := fun b' o' e => keeps_but he b' o' (k3 b' o' e)
  have S4 := S.keeps k4
  have st4 : ∀ b, Stp b P.L F oa s.heap F oa h4 := fun _ => stp_keeps k4
  show Wp P (assignInOrder [bindName P.env (Str.ofString z), bindName P.env (Str.ofString y), bindName P.env (Str.ofString x)] [d, b, a]) _ _
  refine assignInOrder_cons (wp_bind (s := { s with heap := h4 }) ok S4 rd hz fun h5 tk5 S5 st5 => assignInOrder_cons (wp_bind (s := { s with heap := h5, toks := tk5 }) ok S5 rb hy fun h6 tk6 S6 st6 =>
    assignInOrder_cons (wp_bind (s := { s with heap := h6, toks := tk6 }) ok S6 ra hx fun h7 tk7 S7 st7 => assignInOrder_nil ?_)))
  exact k h7 tk7 S7 fun b => (st4 b).trans ((st5 b).trans ((st6 b).trans (st7 b)))

theorem ex_tup3 {x y z : String} {e1 e2 e3 : Expr} {k1 k2 : Nat} {p1 p2 p3 pt pv pos : Pos} {c : Cx} {Q : Fl → Cx → Prop} (ok : P.Ok)
    (h : Ev P e1 c fun v c1 => Ev P e2 c1 fun w c2 => Ev P e3 c2 fun t c3 => Q .next (((c3.put z t).put y w).put x v))
    (hx : P.env.kindOf (Str.ofString x) = some .local := by rfl) (hy : P.env.kindOf (Str.ofString y) = some .local := by rfl) (hz : P.env.kindOf (Str.ofString z) = some .local := by rfl)
    (hl : swapsWithSole [.Tuple [.Name (Str.ofString x) p1, .Name (Str.ofString y) p2, .Name (Str.ofString z) p3] k1 pt] (.Tuple [e1, e2, e3] k2 pv) pos.line P.env = pure false := by rfl)
    (hs : swappedStores [.Tuple [.Name (Str.ofString x) p1, .Name (Str.ofString y) p2, .Name (Str.ofString z) p3] k1 pt] (.Tuple [e1, e2, e3] k2 pv) P.env = pure (some [Str.ofString x, Str.ofString y, Str.ofString z]) := by rfl)
    (he1 : ∀ r, starEach (e1 :: r) P.env = (false, eval e1 P.env) :: starEach r P.env := by intro r; rfl) (he2 : ∀ r, starEach (e2 :: r) P.env = (false, eval e2 P.env) :: starEach r P.env := by intro r; rfl)
    (he3 : ∀ r, starEach (e3 :: r) P.env = (false, eval e3 P.env) :: starEach r P.env := by intro r; rfl) :
    Ex P (.Assign [.Tuple [.Name (Str.ofString x) p1, .Name (Str.ofString y) p2, .Name (Str.ofString z) p3] k1 pt] (.Tuple [e1, e2, e3] k2 pv) pos) c Q := by
  refine ⟨fun s F oa S => ?_⟩
  refine Assign_Tuple_swapped (names := [Str.ofString x, Str.ofString y, Str.ofString z]) ?_ hl hs
  refine Tuple_ (spliced_more (h.go S fun h1 tk1 F1 oa1 c1 a av S1 st1 ra q1 => spliced_more (q1.go S1 fun h2 tk2 F2 oa2 c2 b bv S2 st2 rb q2 =>
    spliced_more (q2.go S2 fun h3 tk3 F3 oa3 c3 d dv S3 st3 rd q => spliced_none ?_) (he3 _)) (he2 _)) (he1 _))
  exact wp_three ok S3 (.inr (ra.mono (st2.trans st3).le)) (.inr (rb.mono st3.le)) (.inr rd) hx hy hz fun h6 tk6 S6 st6 => Post.of Fl.next S6 (st1.up.trans (st2.up.trans (st3.up.trans (st6 _)))) rf_next q

/-! the tuple that comes back from a call, unpacked -/
theorem ex_unpack2 {x y : String} {e : Expr} {k1 : Nat} {p1 p2 pt pos : Pos} {c : Cx} {Q : Fl → Cx → Prop} (ok : P.Ok) (h : Ev P e c fun v c1 => ∃ a b, v = .tup [a, b] ∧ Q .next ((c1.put x a).put y b))
    (hx : P.env.kindOf (Str.ofString x) = some .local := by rfl) (hy : P.env.kindOf (Str.ofString y) = some .local := by rfl)
    (hl : swapsWithSole [.Tuple [.Name (Str.ofString x) p1, .Name (Str.ofString y) p2] k1 pt] e pos.line P.env = pure false := by rfl)
    (hs : swappedStores [.Tuple [.Name (Str.ofString x) p1, .Name (Str.ofString y) p2] k1 pt] e P.env = pure none := by rfl) :
    Ex P (.Assign [.Tuple [.Name (Str.ofString x) p1, .Name (Str.ofString y) p2] k1 pt] e pos) c Q := by
  refine ⟨fun s F oa S => ?_⟩
  refine Assign_Tuple (h.go S fun h1 tk1 F1 oa1 c1 a av S1 st1 ra q => ?_) hl hs
  refine ex2 q fun v1 v2 q => ?_
  refine ra.tupE q.1 fun t vs hI r => ?_
  revert hI
  refine r.two_ fun u1 u2 r1 r2 hI => ?_
  refine assign_Tuple_tuple (s := { s with heap := h1, toks := tk1 }) ok.hand (hI.tup S1.sub) rfl rfl fun h4 he => ?_
  have k4 := fun b' o' e => keeps_but he b' o' e
  have S4 := S1.keeps k4
  have st4 : Stp true P.L F1 oa1 h1 F1 oa1 h4 := stp_keeps k4
  show Wp P (assignInOrder [assign (.Name (Str.ofString x) p1) P.env, assign (.Name (Str.ofString y) p2) P.env] [u1, u2]) _ _
  refine assignInOrder_cons (wpAny_assign_Name (wp_store (s := { s with heap := h4, toks := tk1 }) ok S4 (.inr r1) hx fun h5 tk5 S5 st5 => assignInOrder_cons (wpAny_assign_Name (wp_store (s := { s with heap := h5, toks := tk5 }) ok S5 (.inr r2) hy fun h6 tk6 S6 st6 => assignInOrder_nil ?_))))
  exact Post.of Fl.next S6 (st1.up.trans (st4.trans ((st5 _).trans (st6 _)))) rf_next q.2

/-! a list of the frame's own -/
def EvN (P : Pl) (e : Expr) (c : Cx) (Q : List AV → Cx → Prop) : Prop :=
  ∀ (s : Shared) (F : Fz) (oa : Option Addr), SR P c F oa s.heap → Wp P (eval e P.env) (fun v s' => ∃ h' tk' F' oa' c' l a vs, s' = { s with heap := h', toks := tk' } ∧ SR P c' F' oa' h' ∧ Stp false P.L F oa s.heap F' oa' h' ∧
    v = .ref a ∧ s.heap.get? a = none ∧ F' a = none ∧ oa' ≠ some a ∧ h'.PlainList a vs.toArray ∧ Reps P.g.ringC F' vs l ∧ Q l c') s

theorem EvN.go {e : Expr} {c : Cx} {Q : List AV → Cx → Prop} (h : EvN P e c Q) {s : Shared} {F : Fz} {oa : Option Addr} (S : SR P c F oa s.heap) {Q' : Value → Shared → Prop}
    (k : ∀ h' tk' F' oa' c' l a vs, SR P c' F' oa' h' → Stp false P.L F oa s.heap F' oa' h' → s.heap.get? a = none → F' a = none → oa' ≠ some a → h'.PlainList a vs.toArray → Reps P.g.ringC F' vs l → Q l c' → Q' (.ref a) { s with heap := h', toks := tk' }) : Wp P (eval e P.env) Q' s := by
  refine wpAny_mono (h s F oa S) (fun v s1 p => ?_) fun _ _ x => x
  refine ex8 p fun h1 tk1 F1 oa1 c1 l a vs p => an10 p fun e1 S1 st1 e2 n0 fa na hl r q => ?_
  rw [e1, e2]
  exact k h1 tk1 F1 oa1 c1 l a vs S1 st1 n0 fa na hl r q

theorem evn_nil {pos : Pos} {c : Cx} {Q : List AV → Cx → Prop} (h : Q [] c) : EvN P (.List [] pos) c Q := by
  intro s F oa S
  refine List_ (spliced_none (wpAny_newList ?_ (by simp)))
  have k : ∀ b o', s.heap.get? b = some o' → (s.heap.push { cls := .type "list", data := .seq #[] }).get? b = some o' := fun b o' e => Heap.get?_push_of_some _ e
  have f := S.free (get_size_none s.heap)
  exact ⟨_, s.toks, F, oa, c, [], _, [], rfl, S.keeps k, stp_keeps k, rfl, get_size_none _, f.1, f.2.1, ⟨0, Heap.get?_push_size _ rfl⟩, .nil, h⟩

theorem plain_ns {h : Heap} {a : Addr} {l : Array Value} {m : Str → Option Value} (x : h.PlainList a l) (y : h.Ns a m) : False := by
  obtain ⟨o, es, ep, e, hd, _⟩ := y
  obtain ⟨n, e'⟩ := x
  rw [e] at e'; cases e'; cases hd
/-- the stores of a fresh list and of what was reckoned behind it -/
theorem SR.adopt {c c' : Cx} {F F' : Fz} {oa oa' : Option Addr} {h h' : Heap} {a : Addr} {vs : List Value} {l : List AV} (S : SR P c F oa h) (S' : SR P c' F' oa' h') (st : Stp false P.L F oa h F' oa' h')
    (fa : F a = none) (na : oa ≠ some a) (hl : h.PlainList a vs.toArray) (r : Reps P.g.ringC F vs l) (h0 : P.h₀.get? a = none) (no : c'.own = none) :
    SR P ((c').setOwn true (l)) F' (some a) h' ∧ (∀ {F0 : Fz} {oa0 : Option Addr} {s0 : Heap}, Stp false P.L F0 oa0 s0 F' oa' h' → s0.get? a = none → Stp true P.L F0 oa0 s0 F' (some a) h') := by
  have aL : a ≠ P.L := fun e => ex1 S.fr fun m fr => plain_ns (e ▸ hl) fr.1.ns
  have kp := st.kp a
  have hl' : h'.PlainList a vs.toArray := ex1 hl fun n e => ⟨n, kp _ aL na e⟩
  have fa' : F' a = none := none_of fun o q => (st.fresh a o q).elim (ns fa) fun z => z.elim (fun z => ex1 hl fun _ e => ns z e) na
  refine ⟨⟨S'.base, ?_, S'.cel, S'.sub, S'.notL, .inr ⟨true, l, a, rfl, rfl, fa', aL, h0, vs, ⟨ex1 hl' fun n e => ⟨_, e, rfl, n, rfl⟩, fun _ => hl'⟩, r.mono st.le⟩⟩, fun st0 n0 => ⟨st0.le, st0.kp, st0.dom, st0.fresh, .inr (.inr ⟨rfl, a, rfl, n0⟩)⟩⟩
  exact ex1 S'.fr fun m fr => ⟨m, fr.1, fun x v e => ex1 (fr.2 x v e) fun u e => ⟨u, e.1, .inr (e.2.elim (fun z => ex1 z.2 fun b z => S'.own.elim (fun q => ns q.2 z.1) fun q => ex3 q fun _ _ _ q => ns no q.1) id)⟩⟩

theorem h0_none {c : Cx} {F : Fz} {oa : Option Addr} {h : Heap} (S : SR P c F oa h) {a : Addr} (e : h.get? a = none) : P.h₀.get? a = none := none_of fun o q => ex1 S.fr fun _ fr => ns e (fr.1.keep a o q)

theorem ex_assignO {x : String} {e : Expr} {p pos : Pos} {c : Cx} {Q : Fl → Cx → Prop} (ok : P.Ok) (h : EvN P e c fun l c1 => c1.own = none ∧ Q .next ((c1.put x .own).setOwn true (l))) (hk : P.env.kindOf (Str.ofString x) = some .local := by rfl)
    (hs : swapsWith e (some (.Name (Str.ofString x) p)) pos.line P.env = pure false := by rfl) : Ex P (.Assign [.Name (Str.ofString x) p] e pos) c Q := by
  refine ⟨fun s F oa S => ?_⟩
  refine wpAny_Assign_Name (h.go S fun h1 tk1 F1 oa1 c1 l a vs S1 st1 n0 fa na hl r q => ?_) hs
  refine an2 (S1.adopt S1 .refl fa na hl r (h0_none S n0) q.1) fun S2 up => ?_
  refine wp_store (s := { s with heap := h1, toks := tk1 }) ok S2 (.inl ⟨rfl, a, rfl, rfl⟩) hk fun h3 tk3 S3 st3 => ?_
  exact Post.of Fl.next S3 ((up st1 n0).trans (st3 _)) rf_next q.2

theorem ex_tup2O {x y : String} {e1 e2 : Expr} {k1 k2 : Nat} {p1 p2 pt pv pos : Pos} {c : Cx} {Q : Fl → Cx → Prop} (ok : P.Ok)
    (h : EvN P e1 c fun l c1 => Ev P e2 c1 fun w c2 => c2.own = none ∧ Q .next (((c2.put y w).put x .own).setOwn true (l)))
    (hx : P.env.kindOf (Str.ofString x) = some .local := by rfl) (hy : P.env.kindOf (Str.ofString y) = some .local := by rfl)
    (hl : swapsWithSole [.Tuple [.Name (Str.ofString x) p1, .Name (Str.ofString y) p2] k1 pt] (.Tuple [e1, e2] k2 pv) pos.line P.env = pure false := by rfl)
    (hs : swappedStores [.Tuple [.Name (Str.ofString x) p1, .Name (Str.ofString y) p2] k1 pt] (.Tuple [e1, e2] k2 pv) P.env = pure (some [Str.ofString x, Str.ofString y]) := by rfl)
    (he1 : ∀ r, starEach (e1 :: r) P.env = (false, eval e1 P.env) :: starEach r P.env := by intro r; rfl) (he2 : ∀ r, starEach (e2 :: r) P.env = (false, eval e2 P.env) :: starEach r P.env := by intro r; rfl) :
    Ex P (.Assign [.Tuple [.Name (Str.ofString x) p1, .Name (Str.ofString y) p2] k1 pt] (.Tuple [e1, e2] k2 pv) pos) c Q := by
  refine ⟨fun s F oa S => ?_⟩
  refine Assign_Tuple_swapped (names := [Str.ofString x, Str.ofString y]) ?_ hl hs
  refine Tuple_ (spliced_more (h.go S fun h1 tk1 F1 oa1 c1 l a vs S1 st1 n0 fa na hl r q1 => ?_) (he1 _))
  refine spliced_more (q1.go (s := { s with heap := h1, toks := tk1 }) S1 fun h2 tk2 F2 oa2 c2 b bv S2 st2 rb q => spliced_none ?_) (he2 _)
  refine an2 (S1.adopt S2 st2 fa na hl r (h0_none S n0) q.1) fun S3 up => ?_
  exact wp_two (s := { s with heap := h2, toks := tk2 }) ok S3 (.inl ⟨rfl, a, rfl, rfl⟩) (.inr rb) hx hy fun h6 tk6 S6 st6 => Post.of Fl.next S6 ((up (st1.trans st2) n0).trans (st6 _)) rf_next q.2

theorem ex_tup3O {x y z : String} {e1 e2 e3 : Expr} {k1 k2 : Nat} {p1 p2 p3 pt pv pos : Pos} {c : Cx} {Q : Fl → Cx → Prop} (ok : P.Ok)
    (h : EvN P e1 c fun l c1 => Ev P e2 c1 fun w c2 => Ev P e3 c2 fun t c3 => c3.own = none ∧ Q .next ((((c3.put z t).put y w).put x .own).setOwn true (l)))
    (hx : P.env.kindOf (Str.ofString x) = some .local := by rfl) (hy : P.env.kindOf (Str.ofString y) = some .local := by rfl) (hz : P.env.kindOf (Str.ofString z) = some .local := by rfl)
    (hl : swapsWithSole [.Tuple [.Name (Str.ofString x) p1, .Name (Str.ofString y) p2, .Name (Str.ofString z) p3] k1 pt] (.Tuple [e1, e2, e3] k2 pv) pos.line P.env = pure false := by rfl)
    (hs : swappedStores [.Tuple [.Name (Str.ofString x) p1, .Name (Str.ofString y) p2, .Name (Str.ofString z) p3] k1 pt] (.Tuple [e1, e2, e3] k2 pv) P.env = pure (some [Str.ofString x, Str.ofString y, Str.ofString z]) := by rfl)
    (he1 : ∀ r, starEach (e1 :: r) P.env = (false, eval e1 P.env) :: starEach r P.env := by intro r; rfl) (he2 : ∀ r, starEach (e2 :: r) P.env = (false, eval e2 P.env) :: starEach r P.env := by intro r; rfl)
    (he3 : ∀ r, starEach (e3 :: r) P.env = (false, eval e3 P.env) :: starEach r P.env := by intro r; rfl) :
    Ex P (.Assign [.Tuple [.Name (Str.ofString x) p1, .Name (Str.ofString y) p2, .Name (Str.ofString z) p3] k1 pt] (.Tuple [e1, e2, e3] k2 pv) pos) c Q := by
  refine ⟨fun s F oa S => ?_⟩
  refine Assign_Tuple_swapped (names := [Str.ofString x, Str.ofString y, Str.ofString z]) ?_ hl hs
  refine Tuple_ (spliced_more (h.go S fun h1 tk1 F1 oa1 c1 l a vs S1 st1 n0 fa na hl r q1 => ?_) (he1 _))
  refine spliced_more (q1.go (s := { s with heap := h1, toks := tk1 }) S1 fun h2 tk2 F2 oa2 c2 b bv S2 st2 rb q2 => spliced_more (q2.go (s := { s with heap := h2, toks := tk2 }) S2 fun h3 tk3 F3 oa3 c3 d dv S3 st3 rd q => spliced_none ?_) (he3 _)) (he2 _)
  refine an2 (S1.adopt S3 (st2.trans st3) fa na hl r (h0_none S n0) q.1) fun S4 up => ?_
  exact wp_three (s := { s with heap := h3, toks := tk3 }) ok S4 (.inl ⟨rfl, a, rfl, rfl⟩) (.inr (rb.mono st3.le)) (.inr rd) hx hy hz fun h6 tk6 S6 st6 => Post.of Fl.next S6 ((up (st1.trans (st2.trans st3)) n0).trans (st6 _)) rf_next q.2

/-- the open list is frozen where it is handed on -/
def thaw (l : List AV) : List (String × AV) → List (String × AV)
  | [] => []
  | (y, .own) :: r => (y, .list l) :: thaw l r
  | (y, u) :: r => (y, u) :: thaw l r
theorem look_thaw (l : List AV) (x : String) : ∀ c : List (String × AV), look x (thaw l c) = (look x c).map fun u => match u with | .own => .list l | u => u
  | [] => rfl
  | (y, u) :: r => by
    have ih := look_thaw l x r
    cases u <;> simp only [thaw, look, ih] <;> split <;> rfl
def Cx.freeze (c : Cx) (l : List AV) : Cx := { c with loc := thaw l c.loc, own := none }

theorem upd_some {F : Fz} {a b : Addr} {o q : Obj} (e : upd F a o b = some q) : (b = a ∧ q = o) ∨ F b = some q := by
  unfold upd at e
  split at e
  · exact .inl ⟨‹_›, (Option.some.inj e).symm⟩
  · exact .inr e
theorem own_plain {c : Cx} {F : Fz} {oa : Option Addr} {h : Heap} {a : Addr} {b : Bool} {l : List AV} (S : SR P c F oa h) (ho : c.own = some (b, l)) (e1 : oa = some a) :
    ∃ o, F a = none ∧ a ≠ P.L ∧ h.get? a = some o ∧ Rep P.g.ringC (upd F a o) (.ref a) (.list l) := by
  refine S.own.elim (fun q => ns q.1 ho) fun q => ex3 q fun b' l' a' q => an6 q fun q1 q2 f1 f2 f3 q => ex1 q fun vs q => ?_
  rw [ho] at q1; cases q1
  rw [e1] at q2; cases q2
  exact ex1 q.1.1 fun o g => an2 g fun g1 g => ⟨o, f1, f2, g1, ex1 g.2 fun n g3 => .list ⟨o, if_pos rfl, g.1, n, g3⟩ (q.2.mono (le_upd f1))⟩
theorem own_freeze {c : Cx} {F : Fz} {oa : Option Addr} {h : Heap} {a : Addr} {l : List AV} {o : Obj} (S : SR P c F oa h) (e1 : oa = some a) (g : F a = none ∧ a ≠ P.L ∧ h.get? a = some o ∧ Rep P.g.ringC (upd F a o) (.ref a) (.list l)) : SR P (c.freeze l) (upd F a o) none h where
  base := S.base
  fr := ex1 S.fr fun m fr => ⟨m, fr.1, fun y v e => by
    rw [show look y (c.freeze l).loc = _ from look_thaw l y c.loc] at e
    refine ex1 (Option.map_eq_some_iff.mp e) fun w e => ex1 (fr.2 y w e.1) fun u k => ⟨u, k.1, .inr ?_⟩
    refine k.2.elim (fun z => ex1 z.2 fun b' z2 => ?_) fun k2 => ?_
    · have := z.1; subst this
      rw [← e.2, z2.2, ← Option.some.inj (e1.symm.trans z2.1)]
      exact g.2.2.2
    · have : w = v := by cases k2 <;> exact e.2
      exact this ▸ k2.mono (le_upd g.1)⟩
  cel := fun x v e => ex3 (S.cel x v e) fun ca u o e => ⟨ca, u, o, e.1, le_upd g.1 _ _ e.2.1, e.2.2.1, e.2.2.2.mono (le_upd g.1)⟩
  sub := fun b o' e => (upd_some e).elim (fun z => z.1 ▸ z.2 ▸ g.2.2.1) (S.sub b o')
  notL := (if_neg (Ne.symm g.2.1)).trans S.notL
  own := .inl ⟨rfl, rfl⟩
theorem ev_own {x : String} {pos : Pos} {c : Cx} {b : Bool} {l : List AV} {Q : AV → Cx → Prop} (ok : P.Ok) (hx : look x c.loc = some .own) (ho : c.own = some (b, l)) (h : Q (.list l) (c.freeze l)) (hk : P.env.kindOf (Str.ofString x) = some .local := by rfl)
    (hd : (Str.ofString x == ("__debug__" : Str)) = false := by decide) : Ev P (.Name (Str.ofString x) pos) c Q := by
  refine ⟨fun s F oa S => ?_⟩
  refine ex1 S.fr fun m fr => ?_
  refine ex1 (fr.2 x _ hx) fun u hu => ?_
  refine ex1 (hu.2.elim (fun z => z.2) Rep.no) fun a e => ?_
  refine ex1 (own_plain S ho e.1) fun o g => ?_
  exact wpAny_Name (wpAny_loadName_local ok.kind hk fr.1.ns (e.2 ▸ hu.1) (Post.of (s := s) (tk' := s.toks) (AV.list l) (own_freeze S e.1 g) ⟨le_upd g.1, fun _ _ _ _ e => e, fun _ e => e, fun b' o' w => (upd_some w).elim (fun z => .inr (.inr (z.1 ▸ e.1))) .inl, .inr (.inl rfl)⟩ g.2.2.2 h)) hd
end
end Mine
end
section
open PySem PySem.W PyProof.Rows
set_option Elab.async false
set_option linter.unusedVariables false
namespace Mine
section
variable {P : Pl}

/-- the open list, where it stands -/
theorem own_at {c : Cx} {F : Fz} {oa : Option Addr} {h : Heap} {a : Addr} {b : Bool} {l : List AV} (S : SR P c F oa h) (ho : c.own = some (b, l)) (e1 : oa = some a) : ∃ vs : List Value, HoldsAt h a b vs ∧ Reps P.g.ringC F vs l := by
  refine S.own.elim (fun q => ns q.1 ho) fun q => ex3 q fun b' l' a' q => an6 q fun q1 q2 f1 f2 f3 q => ?_
  rw [ho] at q1; cases q1
  rw [e1] at q2; cases q2
  exact q
/-- a local that names the open list -/
theorem own_ref {c : Cx} {F : Fz} {oa : Option Addr} {h : Heap} {x : String} (S : SR P c F oa h) (hx : look x c.loc = some .own) : ∃ (a : Addr) (m : Str → Option Value), oa = some a ∧ Fr P.h₀ P.L h m ∧ m (Str.ofString x) = some (.ref a) :=
  ex1 S.fr fun m fr => ex1 (fr.2 x _ hx) fun _ hu => hu.2.elim (fun z => ex1 z.2 fun a e => ⟨a, m, e.1, fr.1, e.2 ▸ hu.1⟩) Rep.no
theorem local_ref {c : Cx} {F : Fz} {oa : Option Addr} {h : Heap} {x : String} {v : AV} (S : SR P c F oa h) (hx : look x c.loc = some v) (hv : v ≠ .own) : ∃ (u : Value) (m : Str → Option Value), Fr P.h₀ P.L h m ∧ m (Str.ofString x) = some u ∧ Rep P.g.ringC F u v :=
  ex1 S.fr fun m fr => ex1 (fr.2 x _ hx) fun u hu => ⟨u, m, fr.1, hu.1, hu.2.resolve_left fun e => hv e.1⟩
theorem own_same {c : Cx} {F F' : Fz} {oa oa' : Option Addr} {h h' : Heap} {a : Addr} {b : Bool} {l : List AV} (S : SR P c F' oa' h') (st : Stp false P.L F oa h F' oa' h') (ho : c.own = some (b, l)) (e1 : oa = some a) : oa' = some a :=
  S.own.elim (fun q => ns q.1 ho) fun q => ex3 q fun b' l' a' q => q.2.1.trans ((st.same q.2.1).symm.trans e1)
/-! items -/
/-- an item of the open list -/
theorem ev_itemO {x : String} {p : Pos} {i : Expr} {pos : Pos} {c : Cx} {Q : AV → Cx → Prop} (ok : P.Ok) (hx : look x c.loc = some .own)
    (h : Ev P i c fun b c1 => ∃ f l k y, c1.own = some (f, l) ∧ b = .int k ∧ 0 ≤ k ∧ k < 2 ^ 63 ∧ l[k.toNat]? = some y ∧ Q y c1) (hk : P.env.kindOf (Str.ofString x) = some .local := by rfl)
    (hd : (Str.ofString x == ("__debug__" : Str)) = false := by decide)
    (hs : ∀ (a : Addr) (k : Int) (u : Tok), subscripted i false (.ref a) (.int k u) = operate [.ref a, .int k u] (getItem (.ref a) (.int k u)) := by intro a k u; rfl) : Ev P (.Subscript (.Name (Str.ofString x) p) i pos) c Q := by
  refine ⟨fun s F oa S => ?_⟩
  refine ex2 (own_ref S hx) fun a m x => an3 x fun e1 fr hu => ?_
  refine Subscript_ (wpAny_Name (wpAny_loadName_local ok.kind hk fr.ns hu (h.go S fun h1 tk1 F1 oa1 c1 b bv S1 st1 rb q => ?_)) hd)
  refine ex4 q fun f l k y q => an6 q fun e3 e4 e5 e6 e7 q => ?_
  refine rb.intE e4 fun t => ?_
  refine ex1 (own_at S1 e3 (own_same S1 st1 e3 e1)) fun vs f => ?_
  refine ex1 (f.2.get e7) fun v g => ?_
  exact tail_any (s := { s with heap := h1, toks := tk1 }) (Heap.IsList.typeIs (s := { s with heap := h1, toks := tk1 }) f.1.1) PySem.F.slot_list_getitem.lookup
    (wpAny_getItem_list f.1.1 e5 e6 ((List.getElem?_toArray ..).trans g.1) (Post.of y S1 st1 g.2 q)) (hs _ _ _)

/-- a change of the open list -/
theorem SR.change {c : Cx} {F : Fz} {oa : Option Addr} {h h' : Heap} {a : Addr} (S : SR P c F oa h) (e : oa = some a) (hs : Heap.SameBut a h h') {b : Bool} {l : List AV} {vs : List Value} (hl : HoldsAt h' a b vs) (r : Reps P.g.ringC F vs l) :
    SR P ((c).setOwn b (l)) F oa h' ∧ ∀ b, Stp b P.L F oa h F oa h' := by
  refine an4 (S.own_some e) fun _ f1 f2 f3 => ?_
  have up : ∀ b o, b ≠ a → h.get? b = some o → h'.get? b = some o := fun b o n e => (hs.2 b n).trans e
  exact ⟨⟨S.base, ex1 S.fr fun m fr => ⟨m, ⟨fr.1.ns.at' fun o e => up _ o (Ne.symm f2) e, fun b o e => up b o (fun z => ns (z ▸ f3) e) (fr.1.keep b o e), fr.1.above⟩, fr.2⟩, S.cel, fun b o e => up b o (fun z => ns (z ▸ f1) e) (S.sub b o e), S.notL, .inr ⟨b, l, a, rfl, e, f1, f2, f3, vs, hl, r⟩⟩,
    fun _ => ⟨.refl _, fun b o _ n e' => up b o (fun z => n (z ▸ e)) e', fun b q => (Classical.em (b = a)).elim (fun z => ex1 hl.some fun _ e' => ns (z ▸ q) e') fun z => (hs.2 b z) ▸ q, fun _ _ e => .inl e, .inl rfl⟩⟩

/-- found[i] = e -/
theorem ex_setO {x : String} {p ps : Pos} {i e : Expr} {pos : Pos} {c : Cx} {Q : Fl → Cx → Prop} (ok : P.Ok)
    (h : Ev P e c fun v c1 => look x c1.loc = some .own ∧ Ev P i c1 fun b c2 => ∃ f l k, c2.own = some (f, l) ∧ b = .int k ∧ 0 ≤ k ∧ k < 2 ^ 63 ∧ k < l.length ∧ Q .next ((c2).setOwn false (l.set k.toNat v))) (hk : P.env.kindOf (Str.ofString x) = some .local := by rfl)
    (hd : (Str.ofString x == ("__debug__" : Str)) = false := by decide)
    (hs : swapsWith e (some (.Subscript (.Name (Str.ofString x) p) i ps)) pos.line P.env = pure false := by rfl) : Ex P (.Assign [.Subscript (.Name (Str.ofString x) p) i ps] e pos) c Q := by
  refine ⟨fun s F oa S => ?_⟩
  refine wpAny_Assign_Subscript (h.go S fun h0 tk0 F0 oa0 c0 v vv S0 st0 rv q0 => ?_) hs
  refine an2 q0 fun hx q0 => ?_
  refine ex2 (own_ref S0 hx) fun a m x => an3 x fun e1 fr hu => ?_
  refine wpAny_Name (wpAny_loadName_local (s := { s with heap := h0, toks := tk0 }) ok.kind hk fr.ns hu (q0.go (s := { s with heap := h0, toks := tk0 }) S0 fun h1 tk1 F1 oa1 c1 b bv S1 st1 rb q => ?_)) hd
  refine ex3 q fun f l k q => an6 q fun e3 e4 e5 e6 e7 q => ?_
  refine rb.intE e4 fun t => ?_
  have q2 := own_same S1 st1 e3 e1
  refine ex1 (own_at S1 e3 q2) fun vs f => ?_
  refine wpAny_setItem_list (s := { s with heap := h1, toks := tk1 }) f.1.1 e5 e6 (by rw [List.size_toArray, f.2.len]; exact e7) fun h2 hl2 hs2 => ?_
  refine an2 (S1.change q2 hs2 (b := false) (vs := vs.set k.toNat v) ⟨(List.setIfInBounds_toArray ..) ▸ hl2, fun z => nomatch z⟩ (f.2.setAt (rv.mono st1.le) k.toNat)) fun S2 st2 => ?_
  exact Post.of Fl.next S2 (st0.up.trans (st1.up.trans (st2 _))) rf_next q

theorem fit_app {C : Addr} {F : Fz} {vs : List Value} {l : List AV} (r : Reps C F vs l) (h : l.length ≤ 100000) : vs.toArray.size ≤ sizeLine := by rw [List.size_toArray, r.len, sizeLine_eq]; omega
/-- found.append(e) -/
theorem ex_appO {x : String} {p pa pc : Pos} {e : Expr} {pos : Pos} {c : Cx} {l0 : List AV} {Q : Fl → Cx → Prop} {pl : Sem Bool} (ok : P.Ok) (hx : look x c.loc = some .own) (ho : c.own = some (true, l0))
    (h : Ev P e c fun v c1 => ∃ l, c1.own = some (true, l) ∧ l.length ≤ 100000 ∧ Q .next ((c1).setOwn true (l ++ [v]))) (hk : P.env.kindOf (Str.ofString x) = some .local := by rfl)
    (hd : (Str.ofString x == ("__debug__" : Str)) = false := by decide)
    (he1 : starEach [e] P.env = (false, eval e P.env) :: starEach [] P.env := by rfl) (hi : interactive P.env = false := by rfl)
    (hsw : swapsWith (.Call (.Attribute (.Name (Str.ofString x) p) "append" pa) [e] [] pc) none pos.line P.env = pure false := by rfl)
    (he : eval (.Call (.Attribute (.Name (Str.ofString x) p) "append" pa) [e] [] pc) P.env = (do
      let ov ← eval (.Name (Str.ofString x) p) P.env
      standAt pa.atName
      let (f, first) ← holding [ov] (getMethod ov "append" pl)
      callWith pc f first (backTo pc (starEach [e] P.env)) []) := by rfl) : Ex P (.Expr (.Call (.Attribute (.Name (Str.ofString x) p) "append" pa) [e] [] pc) pos) c Q := by
  refine ⟨fun s F oa S => ?_⟩
  refine ex2 (own_ref S hx) fun a m x => an3 x fun e1 fr hu => ?_
  refine ex1 (own_at S ho e1) fun vs0 f0 => ex1 (f0.1.2 rfl) fun n hobj => ?_
  refine wpAny_Expr_any (MethodCall_ (wpAny_Name (wpAny_loadName_local ok.kind hk fr.ns hu (Calls.getMethod_list_append hobj rfl rfl ?_)) hd) he) hi hsw
  refine Calls.callWith_builtin (by rw [he1]; rfl) ?_
  rw [he1]
  refine Calls.evalArgs_plain (Calls.spliced_cons (h.go S fun h1 tk1 F1 oa1 c1 b bv S1 st1 rb q => spliced_none ?_))
  refine ex1 q fun l q => an3 q fun e3 e4 q => ?_
  have q2 := own_same S1 st1 e3 e1
  refine ex1 (own_at S1 e3 q2) fun vs f => ?_
  refine wpAny_list_append_plain (s := { s with heap := h1, toks := tk1 }) (f.1.2 rfl) (fun h2 hl2 hs2 => ?_) (fit_app f.2 e4)
  have hl3 : h2.PlainList a (vs ++ [b]).toArray := (List.push_toArray ..) ▸ hl2
  refine an2 (S1.change q2 hs2 (b := true) (vs := vs ++ [b]) ⟨ex1 hl3 fun n e => ⟨_, e, rfl, n, rfl⟩, fun _ => hl3⟩ (f.2.app (.cons rb .nil))) fun S2 st2 => ?_
  exact Post.of Fl.next S2 (st1.up.trans (st2 _)) rf_next q

theorem fold_rep (v : Value) : ∀ (m : Nat) (acc : Array Value), List.foldl (fun x1 x2 => x1 ++ x2) acc (List.replicate m #[v]) = acc ++ (List.replicate m v).toArray
  | 0, acc => by simp
  | m + 1, acc => by rw [List.replicate_succ, List.foldl_cons, fold_rep v m, List.replicate_succ]; apply Array.ext'; simp
theorem rep_fit {v : Value} {n : Int} (n0 : 0 ≤ n) (n1 : n ≤ 100000) : (¬(!Builtin.List.listFitsIndex n) = true) ∧ (¬(#[v] : Array Value).size * n.toNat > (2 ^ 63 - 1) / 8) ∧ ¬Builtin.List.listTooLong ((#[v] : Array Value).size * n.toNat) = true :=
  ⟨by simp [Builtin.List.listFitsIndex]; omega, by simp; omega, by simp [Builtin.List.listTooLong, sizeLine]; omega⟩
/-! [i] * n, a list of the frame's own -/
theorem evn_rep {i : Int} {k : Nat} {p1 p2 pos : Pos} {e : Expr} {c : Cx} {Q : List AV → Cx → Prop} (h : Ev P e c fun a c1 => ∃ n, a = .int n ∧ 0 ≤ n ∧ n ≤ 100000 ∧ Q (List.replicate n.toNat (.int i)) c1) :
    EvN P (.BinOp (.List [.Constant (.int i) k p1] p2) .Mult e pos) c Q := by
  intro s F oa S
  refine wpAny_BinOp (List_ (spliced_more (wpAny_Constant_int (spliced_none (wpAny_newList ?_ (by rw [sizeLine_eq]; simp)))) rfl))
  refine an3 (S.alloc { cls := .type "list", data := .seq [Value.int i s.toks].toArray }) fun S0 st0 e0 => ?_
  refine h.go (s := { s with heap := s.heap.push { cls := .type "list", data := .seq [Value.int i s.toks].toArray }, toks := s.toks + 1 }) S0 fun h1 tk1 F1 oa1 c1 a av S1 st1 ra q => ?_
  refine ex1 q fun n q => an4 q fun e1 n0 n1 q => ?_
  refine ra.intE e1 fun t => ?_
  have hl : h1.get? s.heap.objs.size = some { cls := .type "list", data := .seq #[Value.int i s.toks] } := S1.sub _ _ (st1.le _ _ e0)
  have e9 : (List.foldl (fun x1 x2 => x1 ++ x2) #[] (List.replicate (if (#[Value.int i s.toks] : Array Value).isEmpty = true then 0 else n.toNat) #[Value.int i s.toks])) = (List.replicate n.toNat (Value.int i s.toks)).toArray := (fold_rep _ n.toNat #[]).trans (Array.empty_append ..)
  refine an3 (S1.free (get_size_none h1)) fun f1 f2 f3 => ?_
  have k9 : ∀ (o : Obj) b o', h1.get? b = some o' → (h1.push o).get? b = some o' := fun o b o' e => Heap.get?_push_of_some _ e
  have R9 := rep_fit (v := Value.int i s.toks) n0 n1
  have n9 : s.heap.get? h1.objs.size = none := (st0 false).trans st1 |>.dom _ (get_size_none h1)
  have hl' : ({ s with heap := h1, toks := tk1 } : Shared).heap.get? s.heap.objs.size = some { cls := .type "list", dict := none, data := .seq #[Value.int i s.toks] 0, slots := #[] } := hl
  refine wpAny_binaryOp_repeat_ref (T := "list") (U := "int") (by decide) ⟨_, hl', rfl⟩ (fun s' => typeIs_int s' n t) noFill_list_mul PySem.F.fills_int_mul PySem.F.slot_int_rmul repeat_list PySem.F.slot_int_index.lookup
    (call_meets PySem.F.slot_int_rmul (typeIs_int { s with heap := h1, toks := tk1 } n t) PySem.F.entry_int_rmul (PySem.F.args_int_rmul_2 _ _) (int___rmul___int_list n t _ _ 0)
      ⟨hl', rfl, ⟨_, hl', rfl⟩, call_meets PySem.F.slot_list_mul ⟨_, hl', rfl⟩ PySem.F.entry_list_mul (PySem.F.args_list_mul_2 _ _)
        (AutoListH.list___mul___list_int_3 _ _ 0 n t R9.1 R9.2.1 R9.2.2) ⟨hl', ?_⟩⟩)
  rw [e9]
  exact ⟨_, tk1, F1, oa1, c1, _, h1.objs.size, List.replicate n.toNat (Value.int i s.toks), rfl, S1.keeps (k9 _), ((st0 _).trans st1).trans (stp_keeps (k9 _)), rfl, n9, f1, f2, ⟨0, Heap.get?_push_size _ rfl⟩, Reps.rep .int _, q⟩

/-! slices from the left -/
theorem pick_take (vs : List Value) {k : Int} (k0 : 0 ≤ k) : slicePick vs.toArray none (some k) none = (vs.take k.toNat).toArray := by
  have e8 : ∀ n : Nat, slicePick vs.toArray none (some (n : Int)) none = (vs.take n).toArray := fun n => by rw [slicePick_upto']
  have ek : k = ((k.toNat : Nat) : Int) := by omega
  rw [← e8 k.toNat, ← ek]
theorem ev_upto {x : String} {p ps : Pos} {e : Expr} {pos : Pos} {c : Cx} {l : List AV} {Q : AV → Cx → Prop} (ok : P.Ok) (hx : look x c.loc = some (.list l)) (hl : l.length ≤ 100000)
    (h : Ev P e c fun b c1 => ∃ k, b = .int k ∧ 0 ≤ k ∧ Q (.list (l.take k.toNat)) c1) (hk : P.env.kindOf (Str.ofString x) = some .local := by rfl)
    (hd : (Str.ofString x == ("__debug__" : Str)) = false := by decide) : Ev P (.Subscript (.Name (Str.ofString x) p) (.Slice none (some e) none ps) pos) c Q := by
  refine ⟨fun s F oa S => ?_⟩
  refine ex2 (local_ref S hx nofun) fun u m x => an3 x fun fr hu hr => ?_
  refine Subscript_ (wpAny_Name (wpAny_loadName_local ok.kind hk fr.ns hu (wpAny_Slice ?_)) hd)
  refine wpAny_pure (h.go S fun h1 tk1 F1 oa1 c1 b bv S1 st1 rb q => wpAny_pure ?_)
  refine ex1 q fun k q => an3 q fun e1 k0 q => ?_
  refine rb.intE e1 fun t => ?_
  refine hr.listE rfl fun a vs hI r => ?_
  have hl1 : Heap.IsList h1 a vs.toArray := (hI.mono st1.le).list S1.sub
  refine subscriptTail_ops (s := { s with heap := h1.push { cls := .type "slice", data := .fields #[Value.none, Value.int k t, Value.none] }, toks := tk1 })
    (Heap.IsList.typeIs (s := { s with heap := h1.push { cls := .type "slice", data := .fields #[Value.none, Value.int k t, Value.none] }, toks := tk1 }) (hl1.push _)) list_getitem_lookup
    (wpAny_getItem_list_slice (hl1.push _) (Heap.IsSliceOf.new ..) .none (.int k t) .none nofun ?_ (fit_app r hl)) rfl (fun _ => rfl)
  rw [pick_take vs k0]
  have S2 := S1.keeps (h' := h1.push { cls := .type "slice", data := .fields #[Value.none, Value.int k t, Value.none] }) fun b o e => Heap.get?_push_of_some _ e
  have st2 : Stp false P.L F1 oa1 h1 F1 oa1 (h1.push { cls := .type "slice", data := .fields #[Value.none, Value.int k t, Value.none] }) := stp_keeps fun b o e => Heap.get?_push_of_some _ e
  refine an3 (S2.alloc { cls := .type "list", data := .seq (vs.take k.toNat).toArray }) fun S3 st3 e3 => ?_
  exact Post.of (AV.list (l.take k.toNat)) S3 (st1.trans (st2.trans (st3 _))) (.list ⟨_, e3, rfl, 0, rfl⟩ (((r.mono st1.le).take _).mono (st3 true).le)) q
theorem ev_all {x : String} {p ps : Pos} {pos : Pos} {c : Cx} {l : List AV} {Q : AV → Cx → Prop} (ok : P.Ok) (hx : look x c.loc = some (.list l)) (hl : l.length ≤ 100000)
    (h : Q (.list l) c) (hk : P.env.kindOf (Str.ofString x) = some .local := by rfl)
    (hd : (Str.ofString x == ("__debug__" : Str)) = false := by decide) : Ev P (.Subscript (.Name (Str.ofString x) p) (.Slice none none none ps) pos) c Q := by
  refine ⟨fun s F oa S => ?_⟩
  refine ex2 (local_ref S hx nofun) fun u m x => an3 x fun fr hu hr => ?_
  refine Subscript_ (wpAny_Name (wpAny_loadName_local ok.kind hk fr.ns hu (wpAny_Slice ?_)) hd)
  refine wpAny_pure (wpAny_pure (wpAny_pure ?_))
  refine hr.listE rfl fun a vs hI r => ?_
  have hl1 : Heap.IsList s.heap a vs.toArray := hI.list S.sub
  refine subscriptTail_ops (s := { s with heap := s.heap.push { cls := .type "slice", data := .fields #[Value.none, Value.none, Value.none] } })
    (Heap.IsList.typeIs (s := { s with heap := s.heap.push { cls := .type "slice", data := .fields #[Value.none, Value.none, Value.none] } }) (hl1.push _)) list_getitem_lookup
    (wpAny_getItem_list_slice (hl1.push _) (Heap.IsSliceOf.new ..) .none .none .none nofun ?_ (fit_app r hl)) rfl (fun _ => rfl)
  rw [slicePick_all]
  have S2 := S.keeps (h' := s.heap.push { cls := .type "slice", data := .fields #[Value.none, Value.none, Value.none] }) fun b o e => Heap.get?_push_of_some _ e
  have st2 : Stp false P.L F oa s.heap F oa (s.heap.push { cls := .type "slice", data := .fields #[Value.none, Value.none, Value.none] }) := stp_keeps fun b o e => Heap.get?_push_of_some _ e
  refine an3 (S2.alloc { cls := .type "list", data := .seq vs.toArray }) fun S3 st3 e3 => ?_
  exact Post.of (AV.list l) S3 (st2.trans (st3 _)) (.list ⟨_, e3, rfl, 0, rfl⟩ (r.mono (st3 true).le)) h
end
end Mine
end
section
open PySem PySem.W PyProof.Rows
set_option Elab.async false
set_option linter.unusedVariables false
set_option maxRecDepth 10000
namespace Mine

/-- the contract of a def: the call ends, changes nothing old, and gives back r -/
structure Ok (g : Gd) (d : Nat) (f : Addr) (avs : List AV) (r : AV) : Prop where
  run : ∀ (A : Around) (s : Shared) (F : Fz) (vs : List Value), Bs g s.heap → A.handled = none → A.depth + d < recursionLimit → A.units + 10 * d + 100 < cLine → (∀ a o, F a = some o → s.heap.get? a = some o) → Reps g.ringC F vs avs →
    wpAny (model g.prog g.w) A (call (.ref f) vs) (fun v s' => ∃ h' tk' F', s' = { s with heap := h', toks := tk' } ∧ (∀ b o, s.heap.get? b = some o → h'.get? b = some o) ∧ Le F F' ∧ (∀ a o, F' a = some o → h'.get? a = some o) ∧
      (∀ a o, F' a = some o → F a = some o ∨ s.heap.get? a = none) ∧ Rep g.ringC F' v r) (fun _ _ => False) s

theorem SR.bs {P : Pl} {c : Cx} {F : Fz} {oa : Option Addr} {h : Heap} (S : SR P c F oa h) : Bs P.g h := ex1 S.fr fun _ fr => S.base.keeps fr.1.keep

section
variable {P : Pl}

/-- a call by its contract, from the place where the arguments stand -/
theorem wp_ok {d : Nat} {f : Addr} {avs : List AV} {r : AV} {vs : List Value} {c : Cx} {F F0 : Fz} {oa oa0 : Option Addr} {s s0 : Shared} {Q : AV → Cx → Prop} (ok : P.Ok) (hd : d ≤ P.d) (C : Ok P.g d f avs r)
    (S : SR P c F oa s.heap) (st : Stp false P.L F0 oa0 s0.heap F oa s.heap) (e : ∃ tk, s = { s0 with heap := s.heap, toks := tk }) (R : Reps P.g.ringC F vs avs) (q : Q r c) : Wp P (call (.ref f) vs) (Post false P s0 F0 oa0 (RV P) Q) s := by
  refine wpAny_mono (C.run P.A s F vs S.bs ok.hand (by have := ok.room; omega) (by have := ok.units; omega) S.sub R) (fun v s1 p => ?_) fun _ _ x => x
  refine ex3 p fun h' tk' F' p => an6 p fun e1 k le sub fresh rr => ex1 e fun tk e => ?_
  exact ⟨h', tk', F', oa, c, r, by rw [e1, e], S.grow k le sub fresh, st.trans (stp_grow k le fresh), rr, q⟩

theorem ev_call {fe e : Expr} {rest : List Expr} {pos : Pos} {c : Cx} {Q : AV → Cx → Prop} (ok : P.Ok)
    (h : Ev P fe c fun fv c1 => ∃ a, fv = .fn a ∧ keepIn P.g.K (.ref a) = true ∧ EvL P pos (e :: rest) c1 fun l c2 => ∃ d r, d ≤ P.d ∧ Ok P.g d a l r ∧ Q r c2)
    (he : starEach (e :: rest) P.env = (false, eval e P.env) :: starEach rest P.env := by rfl) (hplain : (backTo pos (starEach rest P.env)).any (·.1) = false := by rfl)
    (hc : eval (.Call fe (e :: rest) [] pos) P.env = (do callWith pos (← eval fe P.env) [] (backTo pos (starEach (e :: rest) P.env)) (backToKw pos (keywordEach [] P.env))) := by rfl) : Ev P (.Call fe (e :: rest) [] pos) c Q := by
  refine ⟨fun s F oa S => ?_⟩
  refine Call_ (h.go S fun h1 tk1 F1 oa1 c1 a av S1 st1 ra q1 => ?_) hc
  refine ex1 q1 fun f q1 => an3 q1 fun e1 hk q1 => ?_
  refine ra.fnE e1 ?_
  refine callWith_K (s := { s with heap := h1, toks := tk1 }) S1.bs.k hk (q1.go (s := { s with heap := h1, toks := tk1 }) S1 fun h2 tk2 F2 oa2 c2 b bv S2 st2 rb q => ⟨S2.bs.k, ?_⟩) he hplain
  refine ex2 q fun d r q => an3 q fun hd C q => ?_
  exact wp_ok (s := { s with heap := h2, toks := tk2 }) ok hd C S2 (st1.trans st2) ⟨tk2, rfl⟩ rb q

/-! names of built-ins -/
theorem wp_builtin {x : Str} {pos : Pos} {v : Value} {c : Cx} {F : Fz} {oa : Option Addr} {s : Shared} {Q : Value → Shared → Prop} (ok : P.Ok) (S : SR P c F oa s.heap) (e : nsIn P.g.K mainGlobals x = some none) (hv : bootBuiltins x = some v) (hn : x ≠ "__name__") (q : Q v s)
    (hk : P.env.kindOf x = some .globalImplicit := by rfl) (hd : (x == ("__debug__" : Str)) = false := by decide) : Wp P (eval (.Name x pos) P.env) Q s := by
  have T := S.bs.t
  have X := S.bs.k
  exact Calls.Name_function_global ok.kind hk (Calls.loadGlobal_builtin T.g (mg_none_of X T.g e) T.b ((T.builtins x hn).trans hv) q) hd

structure BInt (P : Pl) (id : String) (l : List AV) (n : Int) : Prop where
  run : ∀ (s : Shared) (F : Fz) (vs : List Value) (Q : Value → Shared → Prop), (∀ a o, F a = some o → s.heap.get? a = some o) → Reps P.g.ringC F vs l → (∀ t tk, Q (.int n t) { s with toks := tk }) → Wp P (call (.builtin id) vs) Q s
theorem bi_len {l : List AV} (h : l.length < 2 ^ 62) : BInt P "len" [.list l] l.length := by
  refine ⟨fun s F vs Q sub R q => ?_⟩
  refine R.one_ fun v a => ?_
  refine a.listE rfl fun u vs hI r => ?_
  have e : vs.toArray.size = l.length := (List.size_toArray ..).trans r.len
  refine Calls.call_len_list (hI.list sub) (by rw [e]; omega) ?_
  rw [e]; exact q (s.toks + 1) (s.toks + 1 + 1)
theorem bi_abs {i : Int} : BInt P "abs" [.int i] (i.natAbs : Int) := by
  refine ⟨fun s F vs Q sub R q => ?_⟩
  refine R.one_ fun v a => ?_
  refine a.intE rfl fun t => ?_
  refine call_abs_int fun u tk => ?_
  have e : (if i < 0 then -i else i) = (i.natAbs : Int) := by split <;> omega
  rw [e]; exact q u tk
theorem ev_bcall {id : String} {x : Str} {fp pos : Pos} {e : Expr} {rest : List Expr} {c : Cx} {Q : AV → Cx → Prop} (ok : P.Ok) (hx : nsIn P.g.K mainGlobals x = some none) (hv : bootBuiltins x = some (.builtin id)) (hn : x ≠ "__name__")
    (h : EvL P pos (e :: rest) c fun l c1 => ∃ n, BInt P id l n ∧ Q (.int n) c1)
    (hk : P.env.kindOf x = some .globalImplicit := by rfl) (hd : (x == ("__debug__" : Str)) = false := by decide)
    (he : starEach (e :: rest) P.env = (false, eval e P.env) :: starEach rest P.env := by rfl) (hplain : (backTo pos (starEach rest P.env)).any (·.1) = false := by rfl)
    (hc : eval (.Call (.Name x fp) (e :: rest) [] pos) P.env = (do callWith pos (← eval (.Name x fp) P.env) [] (backTo pos (starEach (e :: rest) P.env)) (backToKw pos (keywordEach [] P.env))) := by rfl) : Ev P (.Call (.Name x fp) (e :: rest) [] pos) c Q := by
  refine ⟨fun s F oa S => ?_⟩
  refine Call_ (wp_builtin ok S hx hv hn ?_ hk hd) hc
  refine callWith_builtin1 (h.go S fun h1 tk1 F1 oa1 c1 a av S1 st1 ra q => ?_) he hplain
  refine ex1 q fun n q => ?_
  exact q.1.run { s with heap := h1, toks := tk1 } F1 _ _ S1.sub ra fun t tk => Post.of (AV.int n) S1 st1 .int q.2

/-! bit_length of an int -/
theorem ev_bits {o : Expr} {pa pos : Pos} {c : Cx} {Q : AV → Cx → Prop} {pl : Sem Bool} (h : Ev P o c fun a c1 => ∃ i, a = .int i ∧ Q (.int (Builtin.Int.intBits i)) c1)
    (he : eval (.Call (.Attribute o (Str.ofString "bit_length") pa) [] [] pos) P.env = (do
      let ov ← eval o P.env
      standAt pa.atName
      let (f, first) ← holding [ov] (getMethod ov (Str.ofString "bit_length") pl)
      callWith pos f first (backTo pos (starEach [] P.env)) []) := by rfl) : Ev P (.Call (.Attribute o (Str.ofString "bit_length") pa) [] [] pos) c Q := by
  refine ⟨fun s F oa S => ?_⟩
  refine MethodCall_ (h.go S fun h1 tk1 F1 oa1 c1 a av S1 st1 ra q => ?_) he
  refine ex1 q fun i q => ?_
  refine ra.intE q.1 fun t => ?_
  exact getMethod_int_bit_length (callWith_method0 (call_int_bit_length (Post.of _ S1 st1 .int q.2)))

/-! the ring: its fields, its methods -/
def fld (nm : String) : AV → Option AV
  | .ring n w f g => if nm = "n" then some n else if nm = "w" then some w else if nm = "mul" then some f else if nm = "divrem" then some g else none
  | _ => none

theorem fld_some {nm : String} {n w f g v : AV} (h : fld nm (.ring n w f g) = some v) : (nm = "n" ∧ n = v) ∨ (nm = "w" ∧ w = v) ∨ (nm = "mul" ∧ f = v) ∨ (nm = "divrem" ∧ g = v) := by
  simp only [fld] at h
  split at h
  · exact .inl ⟨‹_›, Option.some.inj h⟩
  split at h
  · exact .inr (.inl ⟨‹_›, Option.some.inj h⟩)
  split at h
  · exact .inr (.inr (.inl ⟨‹_›, Option.some.inj h⟩))
  split at h
  · exact .inr (.inr (.inr ⟨‹_›, Option.some.inj h⟩))
  · cases h
theorem fld_ring {nm : String} {a v : AV} (h : fld nm a = some v) : ∃ n w f g, a = .ring n w f g := by
  cases a <;> first | exact ⟨_, _, _, _, rfl⟩ | cases h
def NoFld (nm : String) : Prop := (Str.ofString "n" == Str.ofString nm) = false ∧ (Str.ofString "w" == Str.ofString nm) = false ∧ (Str.ofString "mul" == Str.ofString nm) = false ∧ (Str.ofString "divrem" == Str.ofString nm) = false
/-- a ring in a heap -/
def RingAt (C : Addr) (F : Fz) (x dx : Addr) (od : Obj) (n w f g : AV) : Prop := F x = some (instObj C dx) ∧ F dx = some od ∧
  ∃ (es : List DictEntry) (k : Nat), od = dictOf es k ∧ (∀ nm v, fld nm (.ring n w f g) = some v → ∃ u, getL (Str.ofString nm) es = some (some u) ∧ Rep C F u v) ∧ ∀ nm, NoFld nm → getL (Str.ofString nm) es = some none
theorem ring_flds {C : Addr} {F : Fz} {n w f g : AV} {vn vw vf vg : Value} (h1 h2 h3 h4 : Int) (t1 t2 t3 t4 : Tok) (r1 : Rep C F vn n) (r2 : Rep C F vw w) (r3 : Rep C F vf f) (r4 : Rep C F vg g) {nm : String} {v : AV} (h : fld nm (.ring n w f g) = some v) :
    ∃ u, getL (Str.ofString nm) [⟨h1, .str "n" t1, vn⟩, ⟨h2, .str "w" t2, vw⟩, ⟨h3, .str "mul" t3, vf⟩, ⟨h4, .str "divrem" t4, vg⟩] = some (some u) ∧ Rep C F u v := by
  rcases fld_some h with ⟨rfl, rfl⟩ | ⟨rfl, rfl⟩ | ⟨rfl, rfl⟩ | ⟨rfl, rfl⟩
  · exact ⟨vn, by rfl, r1⟩
  · exact ⟨vw, by rfl, r2⟩
  · exact ⟨vf, by rfl, r3⟩
  · exact ⟨vg, by rfl, r4⟩
theorem ring_none {vn vw vf vg : Value} (h1 h2 h3 h4 : Int) (t1 t2 t3 t4 : Tok) {nm : String} (h : NoFld nm) : getL (Str.ofString nm) [⟨h1, .str "n" t1, vn⟩, ⟨h2, .str "w" t2, vw⟩, ⟨h3, .str "mul" t3, vf⟩, ⟨h4, .str "divrem" t4, vg⟩] = some none := by
  simp only [getL, List.find?_cons, Value.isStr, h.1, h.2.1, h.2.2.1, h.2.2.2, List.find?_nil, List.any_cons, DictEntry.refKey, List.any_nil, Bool.or_false]
  rfl
theorem ring_at {C : Addr} {F : Fz} {u : Value} {n w f g : AV} (r : Rep C F u (.ring n w f g)) : ∃ x dx od, u = .ref x ∧ RingAt C F x dx od n w f g := by
  cases r with
  | ring e1 e2 r1 r2 r3 r4 => exact ⟨_, _, _, rfl, e1, e2, _, _, rfl, fun _ _ => ring_flds _ _ _ _ _ _ _ _ r1 r2 r3 r4, fun _ => ring_none _ _ _ _ _ _ _ _⟩
theorem ring_get {C : Addr} {F : Fz} {u : Value} {a v : AV} {nm : String} (r : Rep C F u a) (h : fld nm a = some v) :
    ∃ x dx od u', u = .ref x ∧ F x = some (instObj C dx) ∧ F dx = some od ∧ (∃ es k, od = dictOf es k ∧ getL (Str.ofString nm) es = some (some u')) ∧ Rep C F u' v := by
  refine ex4 (fld_ring h) fun n w f g e => ?_
  rw [e] at r h
  exact ex3 (ring_at r) fun x dx od z => ex2 z.2.2.2 fun es k q => ex1 (q.2.1 nm v h) fun u' w => ⟨x, dx, od, u', z.1, z.2.1, z.2.2.1, ⟨es, k, q.1, w.1⟩, w.2⟩
theorem rep_handed {C : Addr} {F : Fz} {u : Value} {v : AV} (r : Rep C F u v) : handedIn u = true := by cases r <;> rfl

theorem inst_at {C x dx : Addr} {F : Fz} {od : Obj} {h : Heap} (sub : ∀ a o, F a = some o → h.get? a = some o) (e1 : F x = some (instObj C dx)) (e2 : F dx = some od) : PySem.W.InstAt h x (instObj C dx) C (some od) :=
  ⟨sub _ _ e1, rfl, rfl, sub _ _ e2⟩

theorem wp_attr {u : Value} {a v : AV} {nm : String} {b : Bool} {F : Fz} {s : Shared} {Q : Value → Shared → Prop} (X : P.g.K.In s.heap) (sub : ∀ a o, F a = some o → s.heap.get? a = some o) (hg : plainGet P.g.K P.g.ringC (Str.ofString nm) = true) (hh : hasDictIn P.g.K P.g.ringC = true)
    (ha : findIn P.g.K (.ref P.g.ringC) (Str.ofString nm) = some none) (r : Rep P.g.ringC F u a) (hf : fld nm a = some v) (q : ∀ u tk, Rep P.g.ringC F u v → Q u { s with toks := tk }) : Wp P (getAttr u (Str.ofString nm) b) Q s := by
  refine ex4 (ring_get r hf) fun x dx od u' z => an5 z fun e0 e1 e2 z e5 => ex2 z fun es k e => ?_
  rw [e0]
  exact get_value X (inst_at sub e1 (e2.trans (congrArg _ e.1))) (plainGet_of hg).1 (findObj_own hh ha rfl e.2) (rep_handed e5) (q u' _ e5)

theorem ev_attr {o : Expr} {nm : String} {pos : Pos} {c : Cx} {Q : AV → Cx → Prop} (hg : plainGet P.g.K P.g.ringC (Str.ofString nm) = true) (hh : hasDictIn P.g.K P.g.ringC = true) (ha : findIn P.g.K (.ref P.g.ringC) (Str.ofString nm) = some none)
    (h : Ev P o c fun a c1 => ∃ v, fld nm a = some v ∧ Q v c1)
    (he : eval (.Attribute o (Str.ofString nm) pos) P.env = (do
      let o' ← eval o P.env
      standAt pos.atName
      let r ← holding [o'] (getAttr o' (Str.ofString nm) true)
      letTemporaryGo o o' r
      pure r) := by rfl) : Ev P (.Attribute o (Str.ofString nm) pos) c Q := by
  refine ⟨fun s F oa S => ?_⟩
  refine Attribute_any_ (h.go S fun h1 tk1 F1 oa1 c1 a av S1 st1 ra q => ?_) he
  refine ex1 q fun v q => an2 q fun hf q => ?_
  exact wp_attr (s := { s with heap := h1, toks := tk1 }) S1.bs.k S1.sub hg hh ha ra hf fun u tk r => Post.of v S1 st1 r q

/-- a call of a field that holds a def -/
theorem ev_fcall {o e : Expr} {rest : List Expr} {nm : String} {pa pos : Pos} {c : Cx} {Q : AV → Cx → Prop} {pl : Sem Bool} (ok : P.Ok) (hg : plainGet P.g.K P.g.ringC (Str.ofString nm) = true) (hh : hasDictIn P.g.K P.g.ringC = true) (ha : findIn P.g.K (.ref P.g.ringC) (Str.ofString nm) = some none)
    (h : Ev P o c fun a c1 => ∃ f, fld nm a = some (.fn f) ∧ keepIn P.g.K (.ref f) = true ∧ EvL P pos (e :: rest) c1 fun l c2 => ∃ d r, d ≤ P.d ∧ Ok P.g d f l r ∧ Q r c2)
    (hs : starEach (e :: rest) P.env = (false, eval e P.env) :: starEach rest P.env := by rfl) (hplain : (backTo pos (starEach rest P.env)).any (·.1) = false := by rfl)
    (he : eval (.Call (.Attribute o (Str.ofString nm) pa) (e :: rest) [] pos) P.env = (do
      let ov ← eval o P.env
      standAt pa.atName
      let (f, first) ← holding [ov] (getMethod ov (Str.ofString nm) pl)
      callWith pos f first (backTo pos (starEach (e :: rest) P.env)) []) := by rfl) : Ev P (.Call (.Attribute o (Str.ofString nm) pa) (e :: rest) [] pos) c Q := by
  refine ⟨fun s F oa S => ?_⟩
  refine MethodCall_ (h.go S fun h1 tk1 F1 oa1 c1 a av S1 st1 ra q1 => ?_) he
  refine ex1 q1 fun f q1 => an3 q1 fun hf hk q1 => ?_
  refine ex4 (ring_get ra hf) fun x dx od u' z => ?_
  have ra' := ra
  rw [z.1] at ra' ⊢
  refine method_usual (s := { s with heap := h1, toks := tk1 }) S1.bs.k (inst_at S1.sub z.2.1 z.2.2.1) (plainGet_of hg).1 (plainGet_of hg).2 ha rfl ?_
  refine wp_attr (s := { s with heap := h1, toks := tk1 }) S1.bs.k S1.sub hg hh ha ra' hf fun u tk r => ?_
  refine r.fnE rfl ?_
  refine callWith_K (s := { s with heap := h1, toks := tk }) S1.bs.k hk (q1.go (s := { s with heap := h1, toks := tk }) S1 fun h2 tk2 F2 oa2 c2 b bv S2 st2 rb q => ⟨S2.bs.k, ?_⟩) hs hplain
  refine ex2 q fun d r q => an3 q fun hd C q => ?_
  exact wp_ok (s := { s with heap := h2, toks := tk2 }) ok hd C S2 (st1.trans st2) ⟨tk2, rfl⟩ rb q

theorem shadow_none {nm : String} {es : List DictEntry} {k : Nat} (h : getL (Str.ofString nm) es = some none) : shadowIn (some (dictOf es k)) (Str.ofString nm) = some false := by
  show (lookIn (Str.ofString nm) (dictOf es k)).map _ = _
  rw [lookIn_dict, h]; rfl

theorem ring_shadow {C : Addr} {F : Fz} {x dx : Addr} {od : Obj} {n w f g : AV} {nm : String} (z : RingAt C F x dx od n w f g) (hnm : NoFld nm) : shadowIn (some od) (Str.ofString nm) = some false :=
  ex2 z.2.2 fun es k q => (congrArg (fun o => shadowIn (some o) _) q.1).trans (shadow_none (q.2.2 nm hnm))
/-- a call of a method -/
theorem ev_mcall {o e : Expr} {rest : List Expr} {nm : String} {pa pos : Pos} {c : Cx} {Q : AV → Cx → Prop} {pl : Sem Bool} {f : Addr} (ok : P.Ok) (hg : plainGet P.g.K P.g.ringC (Str.ofString nm) = true)
    (ha : findIn P.g.K (.ref P.g.ringC) (Str.ofString nm) = some (some (.ref f))) (hfn : isFn P.g.K (.ref f) = true) (hk : keepIn P.g.K (.ref f) = true)
    (hnm : (Str.ofString "n" == Str.ofString nm) = false ∧ (Str.ofString "w" == Str.ofString nm) = false ∧ (Str.ofString "mul" == Str.ofString nm) = false ∧ (Str.ofString "divrem" == Str.ofString nm) = false)
    (h : Ev P o c fun a c1 => ∃ n w fm fd, a = .ring n w fm fd ∧ EvL P pos (e :: rest) c1 fun l c2 => ∃ d r, d ≤ P.d ∧ Ok P.g d f (.ring n w fm fd :: l) r ∧ Q r c2)
    (hs : starEach (e :: rest) P.env = (false, eval e P.env) :: starEach rest P.env := by rfl) (hplain : (backTo pos (starEach rest P.env)).any (·.1) = false := by rfl)
    (he : eval (.Call (.Attribute o (Str.ofString nm) pa) (e :: rest) [] pos) P.env = (do
      let ov ← eval o P.env
      standAt pa.atName
      let (f, first) ← holding [ov] (getMethod ov (Str.ofString nm) pl)
      callWith pos f first (backTo pos (starEach (e :: rest) P.env)) []) := by rfl) : Ev P (.Call (.Attribute o (Str.ofString nm) pa) (e :: rest) [] pos) c Q := by
  refine ⟨fun s F oa S => ?_⟩
  refine MethodCall_ (h.go S fun h1 tk1 F1 oa1 c1 a av S1 st1 ra q1 => ?_) he
  refine ex4 q1 fun n w fm fd q1 => an2 q1 fun e1 q1 => ?_
  rw [e1] at ra
  refine ex3 (ring_at ra) fun x dx od z => ?_
  have ra' := ra
  rw [z.1] at ra' ⊢
  refine method_fn (s := { s with heap := h1, toks := tk1 }) S1.bs.k (inst_at S1.sub z.2.1 z.2.2.1) (plainGet_of hg).1 (plainGet_of hg).2 ha (beq_iff_eq.mp hfn) (ring_shadow z.2 hnm) ?_
  refine callWith_K (s := { s with heap := h1, toks := tk1 }) S1.bs.k hk (q1.go (s := { s with heap := h1, toks := tk1 }) S1 fun h2 tk2 F2 oa2 c2 b bv S2 st2 rb q => ⟨S2.bs.k, ?_⟩) hs hplain
  refine ex2 q fun d r q => an3 q fun hd C q => ?_
  exact wp_ok (s := { s with heap := h2, toks := tk2 }) ok hd C S2 (st1.trans st2) ⟨tk2, rfl⟩ (.cons (ra'.mono st2.le) rb) q
end
end Mine
end
section
open PySem PySem.W PyProof.Rows
set_option Elab.async false
set_option linter.unusedVariables false
set_option maxRecDepth 10000
namespace Mine

/-! a def's frame is entered -/
theorem lookup_zip : ∀ (names : List String) (vs : List Value) (x : String) (v : AV) (avs : List AV) {C : Addr} {F : Fz}, Reps C F vs avs → look x (names.zip avs) = some v → ∃ u, ((names.map Str.ofString).zip vs).lookup (Str.ofString x) = some u ∧ Rep C F u v
  | [], _, _, _, _, _, _, _, h => nomatch h
  | n :: names, [], _, _, avs, _, _, r, h => by
    cases avs with
    | nil => cases h
    | cons _ _ => exact absurd r.len (by simp)
  | n :: names, w :: vs, x, v, avs, C, F, r, h => by
    cases avs with
    | nil => cases h
    | cons a' avs =>
      have h : (if x = n then some a' else look x (names.zip avs)) = some v := h
      refine r.cons_' fun a b => ?_
      simp only [List.map_cons, List.zip_cons_cons, List.lookup_cons]
      by_cases q : x = n
      · subst q
        rw [if_pos rfl] at h
        exact ⟨w, by simp, Option.some.inj h ▸ a⟩
      · rw [if_neg q] at h
        have : (Str.ofString x == Str.ofString n) = false := beq_eq_false_iff_ne.mpr fun e => q (ofString_inj e)
        rw [this]
        exact lookup_zip names vs x v _ b h

def retIs (r : AV) : Fl → Prop
  | .ret v => v = r
  | .next => r = .none
  | _ => False

theorem locals_of {scope : Scope} {names : List String} (hloc : ∀ n ∈ names, scope.names.lookup (Str.ofString n) = some .local) {vs : List Value} {x : Str × Value} (hx : x ∈ (names.map Str.ofString).zip vs) : scope.names.lookup x.1 = some .local :=
  ex1 (List.mem_map.mp (List.of_mem_zip (a := x.1) (b := x.2) hx).1) fun n e => e.2 ▸ hloc n e.1
theorem binds_rev {names : List String} {vs : List Value} (hnd : (names.map Str.ofString).Nodup) (hlen : vs.length = names.length) : (fun x => ((names.map Str.ofString).zip vs).reverse.lookup x) = fun x => ((names.map Str.ofString).zip vs).lookup x := by
  funext x
  exact lookup_reverse_of_nodup _ (by rw [List.map_fst_zip (by simp [hlen])]; exact hnd) x
/-- what a call of a def leaves -/
def CallPost (g : Gd) (s : Shared) (F : Fz) (r : AV) (v : Value) (s' : Shared) : Prop := ∃ h' tk' F', s' = { s with heap := h', toks := tk' } ∧ (∀ b o, s.heap.get? b = some o → h'.get? b = some o) ∧ Le F F' ∧ (∀ a o, F' a = some o → h'.get? a = some o) ∧
      (∀ a o, F' a = some o → F a = some o ∨ s.heap.get? a = none) ∧ Rep g.ringC F' v r
/-- a body that ends, seen from the call -/
theorem call_done {P : Pl} {s : Shared} {F F' : Fz} {h₁ h' : Heap} {tk' : Nat} {c' : Cx} {oa' : Option Addr} {r : AV} {fl : Flow} {y : Fl} (hL : P.L = s.heap.objs.size) (kp : ∀ b o, s.heap.get? b = some o → h₁.get? b = some o)
    (S' : SR P c' F' oa' h') (st : Stp true P.L F none h₁ F' oa' h') (rr : RF P F' fl y) (q : retIs r y) {v : Value} (hv : fl = .next ∧ v = .none ∨ fl = .ret v) : CallPost P.g s F r v { s with heap := h', toks := tk' } := by
  refine ⟨h', tk', F', rfl, fun b o e => st.kp b o (hL ▸ Nat.ne_of_lt (Heap.lt_size e)) nofun (kp b o e), st.le, S'.sub, fun a o e => (st.fresh a o e).elim .inl fun z => z.elim (fun z => .inr (none_of fun o' w => ns z (kp a o' w))) nofun, ?_⟩
  revert q hv
  refine rr.elim (fun q hv => ?_) (fun q _ => q.elim) (fun q _ => q.elim) (fun v' u ra q hv => ?_)
  · exact hv.elim (fun z => z.2 ▸ (show r = .none from q) ▸ .none) nofun
  · exact hv.elim (fun z => nomatch z.1) fun z => Flow.ret.inj z ▸ (show u = r from q) ▸ ra
theorem ok_fn {g : Gd} {d : Nat} {f : Addr} {name qual : Str} {params : Arguments} {body : List Stmt} {scope : Scope} {dV kV doc pm cdv ct oc : Value} {an od : Option Addr} {osl : Array (Option Value)} {names : List String} {avs : List AV} {r : AV}
    (ho : g.K.lookup f = some ⟨oc, od, .func (fnOf name qual params body scope dV kV doc pm an cdv ct), osl⟩) (hcd : codeIn g.K cdv qual = true)
    (hbind : ∀ vs : List Value, vs.length = names.length → bindArgs (fnOf name qual params body scope dV kV doc pm an cdv ct) ⟨vs, []⟩ = pure ((names.map Str.ofString).zip vs))
    (hnd : (names.map Str.ofString).Nodup) (hl : avs.length = names.length) (hloc : ∀ n ∈ names, scope.names.lookup (Str.ofString n) = some .local) (hcell : ∀ x ∈ scope.names, x.2 ≠ .cell)
    (hco : scope.isCoroutine = false) (hgen : scope.isGenerator = false) (hk : scope.kind = .function)
    (h : ∀ (A : Around) (h₀ : Heap), let P : Pl := ⟨g, A, qual, scope, h₀.objs.size, some f, cdv, [], h₀, d, some h₀.objs.size⟩; P.Ok → ExB P body ⟨names.zip avs, [], none⟩ fun fl _ => retIs r fl) : Ok g (d + 1) f avs r := by
  refine ⟨fun A s F vs B hh hd hu sub R => ?_⟩
  have X := B.k
  refine wpAny_call (codeAny_call_def (fd := fnOf name qual params body scope dV kV doc pm an cdv ct) (body := body) (binds := (names.map Str.ofString).zip vs) (by omega) (X _ _ ho) rfl B.t.nolimit (codeRec_of X hcd) rfl
    (BindsTo.of_eq (hbind vs (by rw [R.len, hl]))) hcell (fun x hx => ?_) (fun h₁ hns kp => ?_) hco hgen hk)
  · exact locals_of hloc hx
  · have hlen : vs.length = names.length := by rw [R.len, hl]
    have ok : Pl.Ok ⟨g, A.deeper (callEnv (fnOf name qual params body scope dV kV doc pm an cdv ct) s.heap.objs.size f), qual, scope, s.heap.objs.size, some f, cdv, [], s.heap, d, some s.heap.objs.size⟩ := ⟨hk, hh, by show A.depth + 1 + d < _; omega, by show A.units + 3 + 10 * d + 100 < _; omega⟩
    rw [binds_rev hnd hlen] at hns
    have S : SR ⟨g, A.deeper (callEnv (fnOf name qual params body scope dV kV doc pm an cdv ct) s.heap.objs.size f), qual, scope, s.heap.objs.size, some f, cdv, [], s.heap, d, some s.heap.objs.size⟩ ⟨names.zip avs, [], none⟩ F none h₁ :=
      ⟨B, ⟨_, ⟨hns, kp, Nat.le_refl _⟩, fun x v e => ex1 (lookup_zip names vs x v avs R e) fun u e => ⟨u, e.1, .inr e.2⟩⟩, nofun, fun a o e => kp _ _ (sub a o e), none_of fun o q => Nat.lt_irrefl _ (Heap.lt_size (sub _ _ q)), .inl ⟨rfl, rfl⟩⟩
    refine Tri.goE (h _ _ ok) (s := { s with heap := h₁, toks := s.toks + ((names.map Str.ofString).zip vs).length }) S fun h' tk' F' oa' c' fl y S' st rr q => ?_
    have done := fun v => @call_done _ s F F' h₁ h' tk' c' oa' r fl y rfl kp S' st rr q v
    revert q done
    refine rr.elim (fun q done => ?_) (fun q _ => q.elim) (fun q _ => q.elim) (fun v' u ra q done => ?_)
    · exact done _ (.inl ⟨rfl, rfl⟩)
    · exact done _ (.inr rfl)

section
variable {P : Pl}

/-! loops -/
/-- behind a turn of a loop -/
def lq (N : Cx → Prop) (R : Fl → Cx → Prop) : Fl → Cx → Prop := fun fl c3 => match fl with | .next => N c3 | .cont => N c3 | .brk => R .next c3 | .ret r => R (.ret r) c3
theorem lq_next {c : Cx} {N : Cx → Prop} {R : Fl → Cx → Prop} (h : N c) : lq N R .next c := h
theorem lq_ret {c : Cx} {N : Cx → Prop} {R : Fl → Cx → Prop} {v : AV} (h : R (.ret v) c) : lq N R (.ret v) c := h

structure Its (P : Pl) (s : Shared) (c : Cx) (F : Fz) (oa : Option Addr) (h : Heap) (it : Value) (items : List AV) : Prop where
  run : ∃ (I : Addr) (fp wr : List Addr) (Pv : Nat → Value → Prop) (St : Nat → Heap → Prop), it = .ref I ∧ Walks P.g.prog P.g.w P.A I fp wr items.length Pv St ∧ St 0 h ∧ P.L ∉ fp ∧ (∀ b ∈ fp, oa ≠ some b) ∧ (∀ b ∈ wr, F b = none ∧ s.heap.get? b = none) ∧
    (∀ i h, St i h → ∀ b ∈ fp, ∃ o, h.get? b = some o) ∧ ∀ i v, i < items.length → Pv i v → ∀ F', Le F F' → ∃ x, items[i]? = some x ∧ Rep P.g.ringC F' v x
/-- what an iterable gives -/
def ItPost (P : Pl) (Q : List AV → Cx → Prop) (s : Shared) (F : Fz) (oa : Option Addr) (it : Value) (s2 : Shared) : Prop := ∃ h' tk' F' oa' c' items, s2 = { s with heap := h', toks := tk' } ∧ SR P c' F' oa' h' ∧ Stp false P.L F oa s.heap F' oa' h' ∧ Its P s c' F' oa' h' it items ∧ Q items c'
def ItOk (P : Pl) (e : Expr) (c : Cx) (Q : List AV → Cx → Prop) : Prop :=
  ∀ (s : Shared) (F : Fz) (oa : Option Addr), SR P c F oa s.heap → Wp P (eval e P.env) (fun x s1 => Wp P (pyIter x) (ItPost P Q s F oa) s1) s

/-- what a loop ends with -/
def LoopR (P : Pl) (s : Shared) (F : Fz) (oa : Option Addr) (Q : Fl → Cx → Prop) : Result → Shared → Prop := fun r s' => match r with | .ok f => Post true P s F oa (RF P) Q f s' | .error e => cameBackBy (model P.g.prog P.g.w) P.A P.env (fun _ _ => False) e s'
def ForInv (P : Pl) (s : Shared) (F : Fz) (oa : Option Addr) (F' : Fz) (St : Nat → Heap → Prop) (n : Nat) (J : Nat → Cx → Prop) (fp wr : List Addr) (k : Nat) (s' : Shared) : Prop :=
  ∃ h2 tk2 F2 oa2 c2 i, s' = { s with heap := h2, toks := tk2 } ∧ St i h2 ∧ SR P c2 F2 oa2 h2 ∧ Stp true P.L F oa s.heap F2 oa2 h2 ∧ Le F' F2 ∧ J i c2 ∧ i ≤ n ∧ k = n + 1 - i ∧ (∀ b ∈ fp, oa2 ≠ some b) ∧ (∀ b ∈ wr, F2 b = none)
/-- the turns of a loop over items, from its walk -/
theorem its_up {s : Shared} {c2 : Cx} {F F2 : Fz} {oa oa2 : Option Addr} {h2 : Heap} {fp wr : List Addr} (S : SR P c2 F2 oa2 h2) (st : Stp true P.L F oa s.heap F2 oa2 h2) (hs : ∀ b, s.heap.get? b = none → P.h₀.get? b = none) (Lf : P.L ∉ fp) (wfp : ∀ b ∈ wr, b ∈ fp) (of2 : ∀ b ∈ fp, oa2 ≠ some b)
    (wrF : ∀ b ∈ wr, F2 b = none) (wrS : ∀ b ∈ wr, s.heap.get? b = none) {h3 : Heap} (k3 : ∀ b o, b ∉ wr → h2.get? b = some o → h3.get? b = some o) : SR P c2 F2 oa2 h3 ∧ Stp true P.L F oa s.heap F2 oa2 h3 :=
  ⟨S.over (X := (· ∈ wr)) k3 (.refl _) (fun a o e => k3 a o (fun z => ns (wrF a z) e) (S.sub a o e)) (fun _ _ e => .inl e) (fun z => Lf (wfp _ z)) (fun b z => of2 _ (wfp _ z)) fun b z => hs b (wrS b z), st.over (X := (· ∈ wr)) k3 (.refl _) (fun _ _ e => .inl e) wrS⟩
/-- an address that was seen before a step is not handed out by it -/
theorem Stp.no_own {b : Bool} {L : Addr} {F F' : Fz} {oa oa' : Option Addr} {h h' : Heap} (st : Stp b L F oa h F' oa' h') {a : Addr} (n : oa ≠ some a) (e : ∃ o, h.get? a = some o) : oa' ≠ some a := fun z =>
  st.ow.elim (fun w => n (w ▸ z)) fun w => w.elim (fun w => nomatch w.symm.trans z) fun w => ex1 w.2 fun a' w => ex1 e fun _ e => ns w.2 (Option.some.inj (w.1.symm.trans z) ▸ e)
theorem Stp.no_fz {b : Bool} {L : Addr} {F F' : Fz} {oa oa' : Option Addr} {h h' : Heap} (st : Stp b L F oa h F' oa' h') {a : Addr} (n : oa ≠ some a) (f : F a = none) (e : ∃ o, h.get? a = some o) : F' a = none :=
  none_of fun o w => (st.fresh a o w).elim (ns f) fun z => z.elim (fun z => ex1 e fun _ e => ns z e) n
theorem SR.h0_of {c : Cx} {F : Fz} {oa : Option Addr} {h : Heap} (S : SR P c F oa h) (a : Addr) (e : h.get? a = none) : P.h₀.get? a = none := none_of fun o q => ex1 S.fr fun _ fr => ns e (fr.1.keep a o q)
theorem turn_lt {i n : Nat} (h : i < n) : n + 1 - (i + 1) < n + 1 - i := by omega
theorem ex_for {x : String} {px pos : Pos} {iter : Expr} {body : List Stmt} {c : Cx} {Q : Fl → Cx → Prop} (ok : P.Ok)
    (h : ItOk P iter c fun items c1 => ∃ I : Nat → Cx → Prop, I 0 c1 ∧ (∀ i v c2, items[i]? = some v → I i c2 → ExB P body (c2.put x v) (lq (I (i + 1)) Q)) ∧ ∀ c2, I items.length c2 → Q .next c2)
    (hk : P.env.kindOf (Str.ofString x) = some .local := by rfl) (hs : ∀ x, foldedSetIterable iter P.env x = pure x := by intro _; rfl) : Ex P (.For (.Name (Str.ofString x) px) iter body [] pos) c Q := by
  refine ⟨fun s F oa S => ?_⟩
  refine wpAny_For (wpAny_mono (h s F oa S) (fun xv s1 h1 => wpAny_mono h1 (fun it s2 h2 => ?_) fun _ _ e => e) fun _ _ e => e) hs
  refine ex6 h2 fun h' tk' F' oa' c' items h2 => an5 h2 fun e2 S' st hI q => ?_
  refine ex5 hI.run fun I fp wr Pv St hI => an8 hI fun e1 W st0 Lf of wrF hex hit => ?_
  refine ex1 q fun J q => an3 q fun j0 step done => ?_
  subst e2 e1
  clear h2 hI q h1
  have wrS : ∀ b ∈ wr, s.heap.get? b = none := fun b hb => (wrF b hb).2
  have wfp := W.sub
  refine codeAny_forLoop (R := LoopR P s F oa Q) (ForInv P s F oa F' St items.length J fp wr) ?_ (items.length + 1)
    ⟨h', tk', F', oa', c', 0, rfl, st0, S', st.up, .refl _, j0, Nat.zero_le _, rfl, of, fun b hb => (wrF b hb).1⟩
  intro k s' p
  refine ex6 p fun h2 tk2 F2 oa2 c2 i p => an10 p fun e1 sti S2 st2 le2 hJ hi e2 of2 wrF2 => ?_
  subst e1 e2
  clear p
  have up := fun {h3 : Heap} (k3 : ∀ b o, b ∉ wr → h2.get? b = some o → h3.get? b = some o) => its_up (s := s) S2 st2 S.h0_of Lf wfp of2 wrF2 wrS k3
  by_cases hlt : i < items.length
  · refine W.item i { s with heap := h2, toks := tk2 } _ _ hlt sti fun v h3 tk3 hP st3 k3 => ?_
    refine an2 (up k3) fun S3 stp3 => ex1 (hit i v hlt hP F2 le2) fun x' hx' => ?_
    refine wpAny_mono (wp_store (s := { s with heap := h3, toks := tk3 }) ok S3 (.inr hx'.2) hk fun h4 tk4 S4 st4 => ?_ : Wp P (storeName P.env (Str.ofString x) v) (fun _ s4 => wpAny (model P.g.prog P.g.w) P.A (execs body P.env) _ _ s4) _) (fun _ _ e => e) (fun _ _ e => e.elim) |> wpAny_assign_Name
    have keep4 : ∀ b ∈ fp, ∀ o, h3.get? b = some o → h4.get? b = some o := fun b hb o e => (st4 true).kp b o (fun z => Lf (z ▸ hb)) (of2 b hb) e
    have hex4 : ∀ b ∈ fp, ∃ o, h4.get? b = some o := fun b hb => ex1 (hex _ _ st3 b hb) fun o e => ⟨o, keep4 b hb o e⟩
    refine Tri.goE (step i x' c2 hx'.1 hJ) (s := { s with heap := h4, toks := tk4 }) S4 fun h5 tk5 F5 oa5 c5 fl y S5 st5 rr q => ?_
    have stp5 := stp3.trans ((st4 true).trans st5)
    have nxt : J (i + 1) c5 → ∃ m, m < items.length + 1 - i ∧ ForInv P s F oa F' St items.length J fp wr m { s with heap := h5, toks := tk5 } := fun hJ' =>
      ⟨items.length + 1 - (i + 1), turn_lt hlt, h5, tk5, F5, oa5, c5, i + 1, rfl, W.frame _ _ _ st3 fun b hb o e => st5.kp b o (fun z => Lf (z ▸ hb)) (of2 b hb) (keep4 b hb o e), S5, stp5, le2.trans st5.le, hJ', hlt, rfl, fun b hb => st5.no_own (of2 b hb) (hex4 b hb), fun b hb => st5.no_fz (of2 b (wfp b hb)) (wrF2 b hb) (hex4 b (wfp b hb))⟩
    revert q
    refine rr.elim nxt (fun q => ?_) nxt (fun v u rr q => ?_)
    · exact Post.of Fl.next S5 stp5 rf_next q
    · exact Post.of (Fl.ret u) S5 stp5 rr q
  · have e : i = items.length := Nat.le_antisymm hi (Nat.le_of_not_lt hlt)
    subst e
    refine W.done { s with heap := h2, toks := tk2 } _ _ sti fun h3 tk3 k3 => wpAny_execs_nil ?_
    exact Post.of Fl.next (up k3).1 (up k3).2 rf_next (done c2 hJ)
end
end Mine
end
section
open PySem PySem.W PyProof.Rows
set_option Elab.async false
set_option linter.unusedVariables false
set_option maxRecDepth 10000
namespace Mine
section
variable {P : Pl}

/-! while -/
def WhileInv (P : Pl) (s : Shared) (F : Fz) (oa : Option Addr) (I : Nat → Cx → Prop) (k : Nat) (s' : Shared) : Prop :=
  ∃ h2 tk2 F2 oa2 c2, s' = { s with heap := h2, toks := tk2 } ∧ SR P c2 F2 oa2 h2 ∧ Stp true P.L F oa s.heap F2 oa2 h2 ∧ I k c2
theorem ex_while {t : Expr} {body : List Stmt} {pos : Pos} {c : Cx} {Q : Fl → Cx → Prop} (I : Nat → Cx → Prop) (h0 : ∃ n, I n c)
    (turn : ∀ n c1, I n c1 → Tr P t c1 fun b c2 => if b = true then ExB P body c2 (lq (fun c3 => ∃ m, m < n ∧ I m c3) Q) else Q .next c2) :
    Ex P (.While t body [] pos) c Q := by
  refine ⟨fun s F oa S => ?_⟩
  obtain ⟨n0, h0⟩ := h0
  refine wpAny_While (codeAny_whileLoop (R := LoopR P s F oa Q) (WhileInv P s F oa I) ?_ n0 ⟨s.heap, s.toks, F, oa, c, rfl, S, .refl, h0⟩)
  intro k s' p
  refine ex5 p fun h2 tk2 F2 oa2 c2 p => an4 p fun e1 S2 st2 hI => ?_
  subst e1
  clear p
  refine Tri.goE (turn k c2 hI) (s := { s with heap := h2, toks := tk2 }) S2 fun h3 tk3 F3 oa3 c3 b y S3 st3 rb q => ?_
  subst rb
  cases b with
  | false => exact wpAny_execs_nil (Post.of Fl.next S3 (st2.trans st3.up) rf_next q)
  | true =>
    refine Tri.goE q (s := { s with heap := h3, toks := tk3 }) S3 fun h4 tk4 F4 oa4 c4 fl y S4 st4 rr q => ?_
    have st := st2.trans (st3.up.trans st4)
    revert q
    refine rr.elim (fun q => ?_) (fun q => ?_) (fun q => ?_) (fun v u rr q => ?_)
    · exact ex1 q fun m q => ⟨m, q.1, h4, tk4, F4, oa4, c4, rfl, S4, st, q.2⟩
    · exact Post.of Fl.next S4 st rf_next q
    · exact ex1 q fun m q => ⟨m, q.1, h4, tk4, F4, oa4, c4, rfl, S4, st, q.2⟩
    · exact Post.of (Fl.ret u) S4 st rr q

/-! range -/
def rangeL (a st : Int) (n : Nat) : List AV := (List.range n).map fun (i : Nat) => AV.int (a + (i : Int) * st)

theorem range_item {C : Addr} {a st : Int} {n i : Nat} {v : Value} {F : Fz} (hi : i < (rangeL a st n).length) (hv : ∃ t, v = .int (a + (i : Int) * st) t) : ∃ x, (rangeL a st n)[i]? = some x ∧ Rep C F v x := by
  refine ex1 hv fun t e => ?_
  simp only [rangeL, List.length_map, List.length_range] at hi
  exact ⟨.int (a + (i : Int) * st), by simp [rangeL, hi], e ▸ .int⟩
theorem range_len (a st : Int) (n : Nat) : (rangeL a st n).length = n := by simp [rangeL]
theorem range_iter0 (hr : Heap) (a st : Int) (n : Nat) : IsRangeIter (hr.push { cls := .type "range_iterator", data := .fields #[rawInt a, rawInt (n : Int), rawInt st] }) hr.objs.size (a + ((0 : Nat) : Int) * st) ((n : Int) - ((0 : Nat) : Int)) st := by
  show IsRangeIter _ _ _ _ _
  simpa using Heap.get?_push_size _ rfl
theorem range_fin {s : Shared} {F F1 : Fz} {oa oa1 : Option Addr} {c1 : Cx} {h1 : Heap} {a b st : Int} {n : Nat} {t u v : Tok} {tk : Nat} {Q : List AV → Cx → Prop} (ok : P.Ok) (S1 : SR P c1 F1 oa1 h1) (st1 : Stp false P.L F oa s.heap F1 oa1 h1)
    (hsm : Builtin.Range.small a b st = true) (hsz : Builtin.Range.rangeSize a b st = ((n : Nat) : Int)) (q : Q (rangeL a st n) c1) :
    Wp P (pyIter (.ref h1.objs.size)) (ItPost P Q s F oa) { s with heap := h1.push { cls := .type "range", data := .fields #[.int a t, .int b u, .int st v] }, toks := tk } := by
  have k1 : ∀ b' o', h1.get? b' = some o' → (h1.push { cls := .type "range", data := .fields #[.int a t, .int b u, .int st v] }).get? b' = some o' := fun b' o' e => Heap.get?_push_of_some _ e
  have S2 := S1.keeps k1
  refine wpAny_pyIter_range (s := { s with heap := h1.push { cls := .type "range", data := .fields #[.int a t, .int b u, .int st v] }, toks := tk }) (IsRange.new ..) hsm ?_
  generalize hh : h1.push { cls := .type "range", data := .fields #[.int a t, .int b u, .int st v] } = hr at S2 k1
  clear hh
  have k2 : ∀ b' o', hr.get? b' = some o' → (hr.push { cls := .type "range_iterator", data := .fields #[rawInt a, rawInt (Builtin.Range.rangeSize a b st), rawInt st] }).get? b' = some o' := fun b' o' e => Heap.get?_push_of_some _ e
  refine an3 (S2.free (get_size_none hr)) fun f1 f2 f3 => ?_
  have d1 : h1.get? hr.objs.size = none := none_of fun o q => ns (get_size_none hr) (k1 _ _ q)
  have W := Walks.range (prog := P.g.prog) (w := P.g.w) (A := P.A) ok.hand hr.objs.size a st n
  rw [hsz] at k2 ⊢
  exact ⟨_, tk, F1, oa1, c1, rangeL a st n, rfl, S2.keeps k2, st1.trans (stp_keeps fun b o e => k2 _ _ (k1 _ _ e)), ⟨hr.objs.size, [hr.objs.size], [hr.objs.size], _, fun i h => IsRangeIter h hr.objs.size (a + ((i : Nat) : Int) * st) ((n : Int) - ((i : Nat) : Int)) st, rfl, (range_len a st n).symm ▸ W, range_iter0 hr a st n, fun z => f3 (List.mem_singleton.mp z).symm, fun b' hb => (List.mem_singleton.mp hb) ▸ f2,
    fun b' hb => (List.mem_singleton.mp hb) ▸ ⟨f1, st1.dom _ d1⟩, fun i h st b' hb => (List.mem_singleton.mp hb) ▸ ⟨_, st⟩, fun i v hi hv F' _ => range_item hi hv⟩, q⟩
theorem it_range {x : Str} {fp pos : Pos} {e : Expr} {rest : List Expr} {c : Cx} {Q : List AV → Cx → Prop} (ok : P.Ok) (hx : nsIn P.g.K mainGlobals x = some none) (hv : bootBuiltins x = some (.type "range")) (hn : x ≠ "__name__")
    (h : EvL P pos (e :: rest) c fun l c1 => ∃ a b st n, (l = [.int b] ∧ a = 0 ∧ st = 1 ∨ l = [.int a, .int b] ∧ st = 1 ∨ l = [.int a, .int b, .int st] ∧ st ≠ 0 ∧ st.natAbs < 2 ^ 64) ∧ Builtin.Range.small a b st = true ∧ Builtin.Range.rangeSize a b st = ((n : Nat) : Int) ∧ Q (rangeL a st n) c1)
    (hk : P.env.kindOf x = some .globalImplicit := by rfl) (hd : (x == ("__debug__" : Str)) = false := by decide)
    (he : starEach (e :: rest) P.env = (false, eval e P.env) :: starEach rest P.env := by rfl) (hplain : (backTo pos (starEach rest P.env)).any (·.1) = false := by rfl)
    (hc : eval (.Call (.Name x fp) (e :: rest) [] pos) P.env = (do callWith pos (← eval (.Name x fp) P.env) [] (backTo pos (starEach (e :: rest) P.env)) (backToKw pos (keywordEach [] P.env))) := by rfl) : ItOk P (.Call (.Name x fp) (e :: rest) [] pos) c Q := by
  intro s F oa S
  refine Call_ (wp_builtin ok S hx hv hn ?_ hk hd) hc
  refine callWith_type1 (h.go S fun h1 tk1 F1 oa1 c1 vs av S1 st1 ra q => ?_) he hplain
  refine ex4 q fun a b st n q => an4 q fun hargs hsm hsz q => ?_
  have fin := fun t u v tk => range_fin (s := s) (t := t) (u := u) (v := v) (tk := tk) ok S1 st1 hsm hsz q
  refine hargs.elim (fun e => an3 e fun e1 e2 e3 => ?_) fun e => e.elim (fun e => an2 e fun e1 e3 => ?_) fun e => an3 e fun e1 e2 e3 => ?_
  · subst e1 e2 e3
    exact ra.one_ fun v1 r1 => r1.intE rfl fun t1 => call_range_1 (s := { s with heap := h1, toks := tk1 }) (fin _ _ _ _)
  · subst e1 e3
    exact ra.two_ fun v1 v2 r1 r2 => r1.intE rfl fun t1 => r2.intE rfl fun t2 => call_range_2 (s := { s with heap := h1, toks := tk1 }) (fin _ _ _ _)
  · subst e1
    exact ra.three_ fun v1 v2 v3 r1 r2 r3 => r1.intE rfl fun t1 => r2.intE rfl fun t2 => r3.intE rfl fun t3 => call_range_3 (s := { s with heap := h1, toks := tk1 }) e2 (fin _ _ _ _) (.inl (div_small e3))

theorem rsize_up (a b : Int) : Builtin.Range.rangeSize a b 1 = (((b - a).toNat : Nat) : Int) := by
  rw [rangeSize_one]; split <;> omega
theorem rsize_down (a b : Int) : Builtin.Range.rangeSize a b (-1) = (((a - b).toNat : Nat) : Int) := by
  unfold Builtin.Range.rangeSize
  simp only [show ¬ ((-1 : Int) > 0) by decide, if_false, Int.neg_neg, Int.ediv_one]
  split <;> omega
theorem small_down {a b : Int} (ha : -(2 ^ 62) ≤ a) (ha' : a < 2 ^ 62) (hb : -(2 ^ 62) ≤ b) (hb' : b < 2 ^ 62) : Builtin.Range.small a b (-1) = true := by
  unfold Builtin.Range.small
  rw [rsize_down]
  simp only [Builtin.Range.rangeFitsLong, Bool.and_eq_true, Bool.or_eq_true, decide_eq_true_eq, beq_iff_eq, show ¬ ((-1 : Int) > 0) by decide, if_false]
  omega

/-! enumerate -/
theorem get_succ_none (h : Heap) : h.get? (h.objs.size + 1) = none := none_of fun o q => absurd (Heap.lt_size q) (Nat.not_lt.mpr (Nat.le_succ _))
theorem all2 {a b : Addr} {p : Addr → Prop} (x : p a) (y : p b) : ∀ c ∈ [a, b], p c := fun c h => (List.mem_cons.mp h).elim (fun e => e ▸ x) fun h => (List.mem_singleton.mp h) ▸ y
theorem get_of {l : List AV} {i : Nat} (h : i < l.length) : ∃ x, l[i]? = some x := ⟨l[i], by simp [h]⟩
def EnumInv (P : Pl) (s : Shared) (F : Fz) (oa : Option Addr) (F1 : Fz) (it la : Addr) (vs : List Value) (n : Nat) (J : Nat → Cx → Prop) (k : Nat) (s' : Shared) : Prop :=
  ∃ h2 tk2 F2 oa2 c2 i old, s' = { s with heap := h2, toks := tk2 } ∧ IsEnum h2 (it + 1) it ((i : Nat) : Int) old ∧ h2.IsListIter it la i ∧ h2.IsList la vs.toArray ∧ SR P c2 F2 oa2 h2 ∧ Stp true P.L F oa s.heap F2 oa2 h2 ∧ Le F1 F2 ∧ J i c2 ∧ i ≤ n ∧ k = n + 1 - i ∧
    oa2 ≠ some it ∧ oa2 ≠ some (it + 1) ∧ oa2 ≠ some la ∧ F2 it = none ∧ F2 (it + 1) = none
theorem ex_forE {xi xv : String} {pi pv pt fp pc pos : Pos} {x1 : Nat} {e : Expr} {body : List Stmt} {c : Cx} {Q : Fl → Cx → Prop} (ok : P.Ok) (hx : nsIn P.g.K mainGlobals (Str.ofString "enumerate") = some none) (hv : bootBuiltins (Str.ofString "enumerate") = some (.type "enumerate"))
    (h : Ev P e c fun a c1 => ∃ l, a = .list l ∧ ∃ I : Nat → Cx → Prop, I 0 c1 ∧ (∀ i v c2, l[i]? = some v → I i c2 → ExB P body ((c2.put xi (.int i)).put xv v) (lq (I (i + 1)) Q)) ∧ ∀ c2, I l.length c2 → Q .next c2)
    (hki : P.env.kindOf (Str.ofString xi) = some .local := by rfl) (hkv : P.env.kindOf (Str.ofString xv) = some .local := by rfl)
    (hk : P.env.kindOf (Str.ofString "enumerate") = some .globalImplicit := by rfl)
    (he : starEach [e] P.env = (false, eval e P.env) :: starEach [] P.env := by rfl)
    (hc : eval (.Call (.Name (Str.ofString "enumerate") fp) [e] [] pc) P.env = (do callWith pc (← eval (.Name (Str.ofString "enumerate") fp) P.env) [] (backTo pc (starEach [e] P.env)) (backToKw pc (keywordEach [] P.env))) := by rfl)
    (hs : ∀ x, foldedSetIterable (.Call (.Name (Str.ofString "enumerate") fp) [e] [] pc) P.env x = pure x := by intro _; rfl) :
    Ex P (.For (.Tuple [.Name (Str.ofString xi) pi, .Name (Str.ofString xv) pv] x1 pt) (.Call (.Name (Str.ofString "enumerate") fp) [e] [] pc) body [] pos) c Q := by
  refine ⟨fun s F oa S => ?_⟩
  refine wpAny_For (Call_ (wp_builtin ok S hx hv (by decide) (callWith_type1 ?_ he rfl) hk (by decide)) hc) hs
  rw [he]
  refine Calls.spliced_cons (h.go S fun h1 tk1 F1 oa1 c1 a av S1 st1 ra q => spliced_none ?_)
  refine ex1 q fun l q => an2 q fun e1 q => ex1 q fun J q => an3 q fun j0 step done => ?_
  clear q h
  refine ra.listE e1 fun la vs hI r => ?_
  have hL : Heap.IsList h1 la vs.toArray := hI.list S1.sub
  refine call_enumerate_list (s := { s with heap := h1, toks := tk1 }) hL fun h2 hen hli hz k2 => ?_
  have hen : IsEnum h2 (h1.objs.size + 1) h1.objs.size 0 .none := hen
  have hli : h2.IsListIter h1.objs.size la 0 := hli
  have k2 : ∀ b o, h1.get? b = some o → h2.get? b = some o := k2
  refine wpAny_pyIter_enum (s := { s with heap := h2, toks := tk1 }) hen ?_
  show codeAny _ _ (.forLoop _ (.ref (h1.objs.size + 1)) _ _ _) _ _
  have n0 : h1.get? h1.objs.size = none := get_size_none h1
  have n1 : h1.get? (h1.objs.size + 1) = none := get_succ_none h1
  refine ex1 hI fun lo hlo => ?_
  have llt : la < h1.objs.size := Heap.lt_size (S1.sub _ _ hlo.1)
  have A := S1.free n0
  have B := S1.free n1
  have s0 := st1.dom _ n0
  have s1 := st1.dom _ n1
  have hlen := r.len
  have llt2 : la ≠ h1.objs.size := Nat.ne_of_lt llt
  have llt3 : la ≠ h1.objs.size + 1 := Nat.ne_of_lt (Nat.lt_succ_of_lt llt)
  have laL : la ≠ P.L := fun z => ns S1.notL (z ▸ hlo.1)
  have lao : oa1 ≠ some la := fun z => ns (S1.own_some z).2.1 hlo.1
  have hei : h1.objs.size + 1 ≠ h1.objs.size := Nat.succ_ne_self _
  clear hz llt hlo hI e1
  generalize hI' : h1.objs.size = it at hen hli n0 n1 llt2 llt3 hei A B s0 s1 ⊢
  clear hI'
  refine codeAny_forLoop_any (R := LoopR P s F oa Q) (EnumInv P s F oa F1 it la vs l.length J) ?_ (l.length + 1)
    ⟨h2, tk1, F1, oa1, c1, 0, .none, rfl, hen, hli, hL.at fun o e => k2 _ _ e, S1.keeps k2, st1.up.trans (stp_keeps k2), .refl _, j0, Nat.zero_le _, rfl, A.2.1, B.2.1, lao, A.1, B.1⟩
  intro k s' p
  refine ex7 p fun h2 tk2 F2 oa2 c2 i old p => an15 p fun e1 hen2 hli2 hl2 S2 st2 le2 hJ hi e2 o1 o2 o3 f1 f2 => ?_
  subst e1 e2
  clear p
  -- a step that changes the loop's own two objects alone
  have up := fun {h3 : Heap} (k3 : ∀ b o, b ≠ it + 1 → b ≠ it → h2.get? b = some o → h3.get? b = some o) => its_up (s := s) (fp := [it + 1, it]) (wr := [it + 1, it]) S2 st2 S.h0_of (by simp [Ne.symm A.2.2, Ne.symm B.2.2]) (fun _ z => z) (all2 o2 o1) (all2 f2 f1) (all2 s1 s0) fun b o n => k3 b o (fun z => n (z ▸ List.mem_cons_self)) (fun z => n (z ▸ List.mem_cons_of_mem _ List.mem_cons_self))
  by_cases hlt : i < l.length
  · refine ex1 (get_of hlt) fun x hx => ex1 (r.get hx) fun v hv => ?_
    refine wpAny_pyNext_enum_item (s := { s with heap := h2, toks := tk2 }) hen2 hli2 hl2 ((List.getElem?_toArray ..).trans hv.1) hei fun h3 heo hli3 ht3 hz3 k3 => ?_
    refine wpAny_letOwnedTupleGo_enum (s := { s with heap := h3, toks := tk2 + 1 }) heo fun h4 hen4 hs4 => ?_
    have hs4 : Heap.SameBut (it + 1) h3 h4 := hs4
    have ht4 : IsTup h4 h2.objs.size #[.int i tk2, v] := ⟨_, (hs4.2 _ (Nat.ne_of_gt (Heap.lt_size hen2))).trans ht3, rfl, _, rfl⟩
    refine assign_Tuple_tuple (s := { s with heap := h4, toks := tk2 + 1 }) ok.hand ht4 rfl rfl fun h5 hx5 => ?_
    have k45 := fun b' o' e => keeps_but hx5 b' o' e
    have k25 : ∀ b o, b ≠ it + 1 → b ≠ it → h2.get? b = some o → h5.get? b = some o := fun b o n1 n2 e => k45 _ _ ((hs4.2 b n1).trans (k3 b o n1 n2 e))
    refine an2 (up k25) fun S5 st5 => ?_
    have hen5 := k45 _ _ hen4
    have hli5 : h5.IsListIter it la (i + 1) := hli3.at fun o e => k45 _ _ ((hs4.2 _ (Ne.symm hei)).trans e)
    have hl5 : h5.IsList la vs.toArray := hl2.at fun o e => k25 _ o llt3 llt2 e
    clear hz3 heo hli3 ht3 k3 hs4 hen4 ht4 hx5 k45 k25
    refine wpAny_mono (Q := fun (_ : Unit) s4 => Wp P (execs body P.env) _ s4) (E := fun _ _ => False) ?_ (fun _ _ e => wpAny_mono e (fun _ _ e => e) fun _ _ e => e.elim) fun _ _ e => e.elim
    show Wp P (assignInOrder [assign (.Name (Str.ofString xi) pi) P.env, assign (.Name (Str.ofString xv) pv) P.env] [.int i tk2, v]) _ _
    refine assignInOrder_cons (wpAny_assign_Name (wp_store (s := { s with heap := h5, toks := tk2 + 1 }) ok S5 (.inr .int) hki fun h6 tk6 S6 st6 => assignInOrder_cons (wpAny_assign_Name (wp_store (s := { s with heap := h6, toks := tk6 }) ok S6 (.inr (hv.2.mono le2)) hkv fun h7 tk7 S7 st7 => assignInOrder_nil ?_))))
    have st67 := (st6 true).trans (st7 true)
    have ex7 : ∀ b o, b ≠ P.L → oa2 ≠ some b → h5.get? b = some o → h7.get? b = some o := fun b o n1 n2 e => st67.kp b o n1 n2 e
    refine Tri.goE (step i x c2 hx hJ) (s := { s with heap := h7, toks := tk7 }) S7 fun h8 tk8 F8 oa8 c8 fl y S8 st8 rr q => ?_
    have stp := st5.trans (st67.trans st8)
    have kk : ∀ b o, b ≠ P.L → oa2 ≠ some b → h5.get? b = some o → h8.get? b = some o := fun b o n1 n2 e => st8.kp b o n1 n2 (ex7 b o n1 n2 e)
    have hen8 : IsEnum h8 (it + 1) it (((i + 1 : Nat)) : Int) v := (Int.natCast_succ i) ▸ kk _ _ B.2.2 o2 hen5
    have hli8 : h8.IsListIter it la (i + 1) := hli5.at fun o e => kk _ o A.2.2 o1 e
    have hl8 : h8.IsList la vs.toArray := hl5.at fun o e => kk _ o laL o3 e
    have i7 : ∃ o, h7.get? it = some o := ex1 hli5 fun o e => ⟨o, ex7 _ _ A.2.2 o1 e.1⟩
    have e7 : ∃ o, h7.get? (it + 1) = some o := ⟨_, ex7 _ _ B.2.2 o2 hen5⟩
    have l7 : ∃ o, h7.get? la = some o := ex1 hl5 fun o e => ⟨o, ex7 _ _ laL o3 e.1⟩
    have nxt : J (i + 1) c8 → ∃ m, m < l.length + 1 - i ∧ EnumInv P s F oa F1 it la vs l.length J m { s with heap := h8, toks := tk8 } := fun hJ' =>
      ⟨l.length + 1 - (i + 1), turn_lt hlt, h8, tk8, F8, oa8, c8, i + 1, v, rfl, hen8, hli8, hl8, S8, stp, le2.trans st8.le, hJ', hlt, rfl, st8.no_own o1 i7, st8.no_own o2 e7, st8.no_own o3 l7, st8.no_fz o1 f1 i7, st8.no_fz o2 f2 e7⟩
    revert q
    refine rr.elim nxt (fun q => ?_) nxt (fun v u rr q => ?_)
    · exact Post.of Fl.next S8 stp rf_next q
    · exact Post.of (Fl.ret u) S8 stp rr q
  · have e : i = l.length := Nat.le_antisymm hi (Nat.le_of_not_lt hlt)
    subst e
    refine wpAny_pyNext_enum_end (s := { s with heap := h2, toks := tk2 }) ok.hand hen2 hli2 hl2 ((List.getElem?_toArray ..).trans (List.getElem?_eq_none (Nat.le_of_eq hlen))) fun h3 k3 => wpAny_execs_nil ?_
    refine an2 (up fun b o _ n2 e => k3 b o n2 e) fun S3 stp3 => ?_
    exact Post.of Fl.next S3 stp3 rf_next (done c2 hJ)
end
end Mine
end
section
open PySem PySem.W PyProof.Rows
set_option Elab.async false
set_option maxRecDepth 10000
set_option linter.unusedVariables false
namespace Mine
section
variable {P : Pl} {c : Cx} {Q : AV → Cx → Prop}

theorem sq_next {K : Cx → Prop} {R : Fl → Cx → Prop} (h : K c) : sq K R .next c := h
theorem sq_ret {K : Cx → Prop} {R : Fl → Cx → Prop} {v : AV} (h : R (.ret v) c) : sq K R (.ret v) c := h
theorem ret_is {r v : AV} (h : v = r) : retIs r (.ret v) := h
theorem ret_none {r : AV} (h : r = .none) : retIs r .next := h

theorem if_dec {p : Prop} [Decidable p] {A B : Prop} (h1 : p → A) (h2 : ¬ p → B) : if decide p = true then A else B := by
  by_cases h : p
  · rw [if_pos (decide_eq_true h)]; exact h1 h
  · rw [if_neg (by simpa using h)]; exact h2 h
theorem if_ndec {p : Prop} [Decidable p] {A B : Prop} (h1 : ¬ p → A) (h2 : p → B) : if (!decide p) = true then A else B := by
  by_cases h : p
  · rw [if_neg (by simpa using h)]; exact h2 h
  · rw [if_pos (by simpa using h)]; exact h1 h
theorem if_bool {k : Bool} {A B : Prop} (h1 : k = true → A) (h2 : k = false → B) : if k = true then A else B := by
  cases k with
  | true => exact h1 rfl
  | false => exact h2 rfl
theorem if_tt {A B : Prop} (h : A) : if true = true then A else B := h
theorem if_ff {A B : Prop} (h : B) : if false = true then A else B := h

theorem ev_add {l r : Expr} {pos : Pos} (h : Ev P l c fun a c1 => Ev P r c1 fun b c2 => ∃ i j, a = .int i ∧ b = .int j ∧ Q (.int (i + j)) c2) : Ev P (.BinOp l .Add r pos) c Q :=
  ev_bin (h.mono fun _ _ h => h.mono fun _ _ h => ex2 h fun i j h => an3 h fun a b q => ⟨i, j, _, a, b, bin_add, q⟩)
theorem ev_sub {l r : Expr} {pos : Pos} (h : Ev P l c fun a c1 => Ev P r c1 fun b c2 => ∃ i j, a = .int i ∧ b = .int j ∧ Q (.int (i - j)) c2) : Ev P (.BinOp l .Sub r pos) c Q :=
  ev_bin (h.mono fun _ _ h => h.mono fun _ _ h => ex2 h fun i j h => an3 h fun a b q => ⟨i, j, _, a, b, bin_sub, q⟩)
theorem ev_mul {l r : Expr} {pos : Pos} (h : Ev P l c fun a c1 => Ev P r c1 fun b c2 => ∃ i j, a = .int i ∧ b = .int j ∧ (i.natAbs < 2 ^ 64 ∨ j.natAbs < 2 ^ 64) ∧ Q (.int (i * j)) c2) : Ev P (.BinOp l .Mult r pos) c Q :=
  ev_bin (h.mono fun _ _ h => h.mono fun _ _ h => ex2 h fun i j h => an4 h fun a b z q => ⟨i, j, _, a, b, bin_mul z, q⟩)
theorem ev_div {l r : Expr} {pos : Pos} (h : Ev P l c fun a c1 => Ev P r c1 fun b c2 => ∃ i j, a = .int i ∧ b = .int j ∧ 0 < j ∧ j < 2 ^ 64 ∧ Q (.int (i / j)) c2) : Ev P (.BinOp l .FloorDiv r pos) c Q :=
  ev_bin (h.mono fun _ _ h => h.mono fun _ _ h => ex2 h fun i j h => an5 h fun a b z1 z2 q => ⟨i, j, _, a, b, bin_div (by omega) (by omega), by rw [Int.fdiv_eq_ediv_of_nonneg _ (by omega)]; exact q⟩)
theorem ev_mod {l r : Expr} {pos : Pos} (h : Ev P l c fun a c1 => Ev P r c1 fun b c2 => ∃ i j, a = .int i ∧ b = .int j ∧ 0 < j ∧ Q (.int (i % j)) c2) : Ev P (.BinOp l .Mod r pos) c Q :=
  ev_bin (h.mono fun _ _ h => h.mono fun _ _ h => ex2 h fun i j h => an4 h fun a b z1 q => ⟨i, j, _, a, b, bin_mod (by omega), by rw [Int.fmod_eq_emod_of_nonneg _ (by omega)]; exact q⟩)
theorem ev_shl {l r : Expr} {pos : Pos} (h : Ev P l c fun a c1 => Ev P r c1 fun b c2 => ∃ i j, a = .int i ∧ b = .int j ∧ 0 ≤ j ∧ j ≤ 1000 ∧ i.natAbs < 2 ^ 64 ∧ Q (.int (i * 2 ^ j.toNat)) c2) : Ev P (.BinOp l .LShift r pos) c Q :=
  ev_bin (h.mono fun _ _ h => h.mono fun _ _ h => ex2 h fun i j h => an6 h fun a b z1 z2 z3 q => ⟨i, j, _, a, b, bin_shl z1 z2 z3, q⟩)
theorem ev_shr {l r : Expr} {pos : Pos} (h : Ev P l c fun a c1 => Ev P r c1 fun b c2 => ∃ i j, a = .int i ∧ b = .int j ∧ 0 ≤ j ∧ Q (.int (i / 2 ^ j.toNat)) c2) : Ev P (.BinOp l .RShift r pos) c Q :=
  ev_bin (h.mono fun _ _ h => h.mono fun _ _ h => ex2 h fun i j h => an4 h fun a b z1 q => ⟨i, j, _, a, b, bin_shr z1, by rw [Int.fdiv_eq_ediv_of_nonneg _ (Int.le_of_lt (Int.pow_pos (by decide)))]; exact q⟩)
theorem ev_and {l r : Expr} {pos : Pos} (h : Ev P l c fun a c1 => Ev P r c1 fun b c2 => ∃ i j, a = .int i ∧ b = .int j ∧ Q (.int (Builtin.bitAnd i j)) c2) : Ev P (.BinOp l .BitAnd r pos) c Q :=
  ev_bin (h.mono fun _ _ h => h.mono fun _ _ h => ex2 h fun i j h => an3 h fun a b q => ⟨i, j, _, a, b, bin_and, q⟩)
theorem ev_or {l r : Expr} {pos : Pos} (h : Ev P l c fun a c1 => Ev P r c1 fun b c2 => ∃ i j, a = .int i ∧ b = .int j ∧ Q (.int (Builtin.bitOr i j)) c2) : Ev P (.BinOp l .BitOr r pos) c Q :=
  ev_bin (h.mono fun _ _ h => h.mono fun _ _ h => ex2 h fun i j h => an3 h fun a b q => ⟨i, j, _, a, b, bin_or, q⟩)
theorem ev_pow {l r : Expr} {pos : Pos} (h : Ev P l c fun a c1 => Ev P r c1 fun b c2 => ∃ i j, a = .int i ∧ b = .int j ∧ 0 ≤ j ∧ j ≤ 1000 ∧ i.natAbs < 2 ^ 64 ∧ Q (.int (i ^ j.toNat)) c2) : Ev P (.BinOp l .Pow r pos) c Q :=
  ev_bin (h.mono fun _ _ h => h.mono fun _ _ h => ex2 h fun i j h => an6 h fun a b z1 z2 z3 q => ⟨i, j, _, a, b, bin_pow z1 z2 z3, q⟩)

section
variable {l r : Expr} {pos : Pos} {R : Bool → Cx → Prop}
theorem tr_lt (h : Ev P l c fun a c1 => Ev P r c1 fun b c2 => ∃ i j, a = .int i ∧ b = .int j ∧ R (decide (i < j)) c2) (hm : behindInMarks .Lt r = false := by rfl) : Tr P (.Compare l [.Lt] [r] pos) c R :=
  tr_cmp (h.mono fun _ _ h => h.mono fun _ _ h => ex2 h fun _ _ h => an3 h fun a b q => ⟨_, a ▸ b ▸ cmp_lt, q⟩) hm
theorem tr_gt (h : Ev P l c fun a c1 => Ev P r c1 fun b c2 => ∃ i j, a = .int i ∧ b = .int j ∧ R (decide (j < i)) c2) (hm : behindInMarks .Gt r = false := by rfl) : Tr P (.Compare l [.Gt] [r] pos) c R :=
  tr_cmp (h.mono fun _ _ h => h.mono fun _ _ h => ex2 h fun _ _ h => an3 h fun a b q => ⟨_, a ▸ b ▸ cmp_gt, q⟩) hm
theorem tr_le (h : Ev P l c fun a c1 => Ev P r c1 fun b c2 => ∃ i j, a = .int i ∧ b = .int j ∧ R (decide (i ≤ j)) c2) (hm : behindInMarks .LtE r = false := by rfl) : Tr P (.Compare l [.LtE] [r] pos) c R :=
  tr_cmp (h.mono fun _ _ h => h.mono fun _ _ h => ex2 h fun _ _ h => an3 h fun a b q => ⟨_, a ▸ b ▸ cmp_le, q⟩) hm
theorem tr_ge (h : Ev P l c fun a c1 => Ev P r c1 fun b c2 => ∃ i j, a = .int i ∧ b = .int j ∧ R (decide (j ≤ i)) c2) (hm : behindInMarks .GtE r = false := by rfl) : Tr P (.Compare l [.GtE] [r] pos) c R :=
  tr_cmp (h.mono fun _ _ h => h.mono fun _ _ h => ex2 h fun _ _ h => an3 h fun a b q => ⟨_, a ▸ b ▸ cmp_ge, q⟩) hm
end

/-- two values compared by == -/
def eqB : AV → AV → Option Bool
  | .int i, .int j => some (decide (i = j))
  | .bool i, .bool j => some (i == j)
  | _, _ => none
theorem cmp_of {op : CmpOp} {a b : AV} {k : Bool} (ok : P.Ok) (h : (op = .Eq ∧ ((∃ i j, a = .int i ∧ b = .int j ∧ k = decide (i = j)) ∨ (∃ i j, a = .bool i ∧ b = .bool j ∧ k = (i == j)) ∨ ∃ i j, a = avI i ∧ b = avI j ∧ k = decide (i = j))) ∨
    (op = .NotEq ∧ ((∃ i j, a = .int i ∧ b = .int j ∧ k = !decide (i = j)) ∨ (∃ i j, a = .bool i ∧ b = .bool j ∧ k = (i != j)) ∨ ∃ i j, a = avI i ∧ b = avI j ∧ k = !decide (i = j)))) : CmpOk P op a b k := by
  rcases h with ⟨rfl, ⟨i, j, rfl, rfl, rfl⟩ | ⟨i, j, rfl, rfl, rfl⟩ | ⟨i, j, rfl, rfl, rfl⟩⟩ | ⟨rfl, ⟨i, j, rfl, rfl, rfl⟩ | ⟨i, j, rfl, rfl, rfl⟩ | ⟨i, j, rfl, rfl, rfl⟩⟩
  · exact cmp_eq
  · exact cmp_eqB
  · exact cmp_eqL ok
  · exact cmp_ne
  · exact cmp_neB
  · exact cmp_neL ok
end
end Mine
namespace Mine
section
variable {P : Pl} {c : Cx} {Q : AV → Cx → Prop}
/-- an item at a place -/
def ItemR (a : AV) (k : Int) (x : AV) : Prop :=
  (∃ l, a = .list l ∧ 0 ≤ k ∧ k < 2 ^ 63 ∧ l[k.toNat]? = some x) ∨ (∃ l, a = .list l ∧ k < 0 ∧ -(2 ^ 63) ≤ k ∧ -(l.length : Int) ≤ k ∧ l[(k + l.length).toNat]? = some x) ∨ ∃ l, a = .tup l ∧ 0 ≤ k ∧ k < 2 ^ 63 ∧ l[k.toNat]? = some x
theorem seq_at {vs : List Value} {v : Value} {k : Int} (e3 : 0 ≤ k) (g1 : vs[k.toNat]? = some v) : seqIndex? k vs.toArray.size = some k.toNat := by
  have hlt : k.toNat < vs.length := by
    rcases Nat.lt_or_ge k.toNat vs.length with z | z
    · exact z
    · rw [List.getElem?_eq_none z] at g1; cases g1
  unfold seqIndex?
  simp only [Int.not_lt.mpr e3, if_false]
  rw [if_pos (by simp; omega)]
theorem ev_sel {o i : Expr} {pos : Pos} (h : Ev P o c fun a c1 => Ev P i c1 fun b c2 => ∃ k x, b = .int k ∧ ItemR a k x ∧ Q x c2)
    (hs : ∀ (a : Addr) (k : Int) (u : Tok), subscripted i false (.ref a) (.int k u) = operate [.ref a, .int k u] (getItem (.ref a) (.int k u)) := by intro a k u; rfl) : Ev P (.Subscript o i pos) c Q := by
  refine ⟨fun s F oa S => ?_⟩
  refine Subscript_ (h.go S fun h1 tk1 F1 oa1 c1 a av S1 st1 ra q1 => q1.go S1 fun h2 tk2 F2 oa2 c2 b bv S2 st2 rb q => ?_)
  refine ex2 q fun k x q => an3 q fun e2 hx q => ?_
  refine rb.intE e2 fun t => ?_
  have fin : ∀ {v : Value}, Rep P.g.ringC F1 v x → Post false P s F oa (RV P) Q v { s with heap := h2, toks := tk2 } := fun r => Post.of x S2 (st1.trans st2) (r.mono st2.le) q
  refine hx.elim (fun z => ex1 z fun l z => an4 z fun e1 e3 e4 e5 => ?_) fun z => z.elim (fun z => ex1 z fun l z => an5 z fun e1 e3 e4 e6 e5 => ?_) fun z => ex1 z fun l z => an4 z fun e1 e3 e4 e5 => ?_
  · refine ra.listE e1 fun u vs hI r => ex1 (r.get e5) fun v g => ?_
    have hl := (hI.mono st2.le).list S2.sub
    exact tail_any (s := { s with heap := h2, toks := tk2 }) (Heap.IsList.typeIs (s := { s with heap := h2, toks := tk2 }) hl) PySem.F.slot_list_getitem.lookup
      (wpAny_getItem_list hl e3 e4 ((List.getElem?_toArray ..).trans g.1) (fin g.2)) (hs _ _ _)
  · refine ra.listE e1 fun u vs hI r => ex1 (r.get e5) fun v g => ?_
    have hl := (hI.mono st2.le).list S2.sub
    have hn : vs.toArray.size = l.length := (List.size_toArray ..).trans r.len
    exact tail_any (s := { s with heap := h2, toks := tk2 }) (Heap.IsList.typeIs (s := { s with heap := h2, toks := tk2 }) hl) PySem.F.slot_list_getitem.lookup
      (wpAny_getItem_list_neg hl e3 (hn.symm ▸ e6) e4 (hn.symm ▸ (List.getElem?_toArray ..).trans g.1) (fin g.2)) (hs _ _ _)
  · refine ra.tupE e1 fun u vs hI r => ex1 (r.get e5) fun v g => ?_
    exact item_tupleT (s := { s with heap := h2, toks := tk2 }) ((hI.mono st2.le).tup S2.sub) (Int.le_trans (by decide) e3) e4 (j := k.toNat) (seq_at e3 g.1) g.1 (fin g.2) (hs _ _ _)
theorem item_int {l : List Int} {k : Int} (h0 : 0 ≤ k) (h1 : k < l.length) (h2 : l.length ≤ 100000) : ItemR (avI l) k (.int (l.getD k.toNat 0)) := by
  refine .inl ⟨_, rfl, h0, by omega, ?_⟩
  have : k.toNat < l.length := by omega
  simp [List.getD, this]
theorem item_last {l : List Int} (h1 : l ≠ []) (h2 : l.length ≤ 100000) : ItemR (avI l) (-1) (.int (l.getD (l.length - 1) 0)) := by
  have h3 : 0 < l.length := List.length_pos_iff.mpr h1
  refine .inr (.inl ⟨_, rfl, by omega, by omega, by rw [List.length_map]; omega, ?_⟩)
  have : l.length - 1 < l.length := by omega
  have e : (-1 + ((l.map AV.int).length : Int)).toNat = l.length - 1 := by rw [List.length_map]; omega
  rw [e]
  simp [List.getD, this]
theorem item_t0 {x : AV} {r : List AV} : ItemR (.tup (x :: r)) 0 x := .inr (.inr ⟨_, rfl, by decide, by decide, rfl⟩)
theorem item_t1 {x y : AV} {r : List AV} : ItemR (.tup (x :: y :: r)) 1 y := .inr (.inr ⟨_, rfl, by decide, by decide, rfl⟩)
theorem item_t2 {x y z : AV} {r : List AV} : ItemR (.tup (x :: y :: z :: r)) 2 z := .inr (.inr ⟨_, rfl, by decide, by decide, rfl⟩)

/-- == and != in a test, in a value -/
def EqR (op : CmpOp) (a b : AV) (k : Bool) : Prop := (op = .Eq ∧ ((∃ i j, a = .int i ∧ b = .int j ∧ k = decide (i = j)) ∨ (∃ i j, a = .bool i ∧ b = .bool j ∧ k = (i == j)) ∨ ∃ i j, a = avI i ∧ b = avI j ∧ k = decide (i = j))) ∨
    (op = .NotEq ∧ ((∃ i j, a = .int i ∧ b = .int j ∧ k = !decide (i = j)) ∨ (∃ i j, a = .bool i ∧ b = .bool j ∧ k = (i != j)) ∨ ∃ i j, a = avI i ∧ b = avI j ∧ k = !decide (i = j)))
theorem eqr_int {i j : Int} : EqR .Eq (.int i) (.int j) (decide (i = j)) := .inl ⟨rfl, .inl ⟨_, _, rfl, rfl, rfl⟩⟩
theorem eqr_bool {i j : Bool} : EqR .Eq (.bool i) (.bool j) (i == j) := .inl ⟨rfl, .inr (.inl ⟨_, _, rfl, rfl, rfl⟩)⟩
theorem eqr_list {i j : List Int} : EqR .Eq (avI i) (avI j) (decide (i = j)) := .inl ⟨rfl, .inr (.inr ⟨_, _, rfl, rfl, rfl⟩)⟩
theorem eqr_list0 {i : List Int} : EqR .Eq (avI i) (.list []) (decide (i = [])) := eqr_list (j := [])
theorem eqr_list1 {i : List Int} {j : Int} : EqR .Eq (avI i) (.list [.int j]) (decide (i = [j])) := eqr_list (j := [j])
theorem ner_int {i j : Int} : EqR .NotEq (.int i) (.int j) (!decide (i = j)) := .inr ⟨rfl, .inl ⟨_, _, rfl, rfl, rfl⟩⟩
theorem ner_bool {i j : Bool} : EqR .NotEq (.bool i) (.bool j) (i != j) := .inr ⟨rfl, .inr (.inl ⟨_, _, rfl, rfl, rfl⟩)⟩
theorem ner_list {i j : List Int} : EqR .NotEq (avI i) (avI j) (!decide (i = j)) := .inr ⟨rfl, .inr (.inr ⟨_, _, rfl, rfl, rfl⟩)⟩
theorem ner_list0 {i : List Int} : EqR .NotEq (avI i) (.list []) (!decide (i = [])) := ner_list (j := [])
section
variable {l r : Expr} {pos : Pos} {R : Bool → Cx → Prop}
theorem tr_eq (ok : P.Ok) (h : Ev P l c fun a c1 => Ev P r c1 fun b c2 => ∃ k, EqR .Eq a b k ∧ R k c2) (hm : behindInMarks .Eq r = false := by rfl) : Tr P (.Compare l [.Eq] [r] pos) c R :=
  tr_cmp (h.mono fun _ _ h => h.mono fun _ _ h => ex1 h fun _ h => an2 h fun z q => ⟨_, cmp_of ok z, q⟩) hm
theorem tr_ne (ok : P.Ok) (h : Ev P l c fun a c1 => Ev P r c1 fun b c2 => ∃ k, EqR .NotEq a b k ∧ R k c2) (hm : behindInMarks .NotEq r = false := by rfl) : Tr P (.Compare l [.NotEq] [r] pos) c R :=
  tr_cmp (h.mono fun _ _ h => h.mono fun _ _ h => ex1 h fun _ h => an2 h fun z q => ⟨_, cmp_of ok z, q⟩) hm
theorem tr_in (h : Ev P l c fun a c1 => Ev P r c1 fun b c2 => ∃ i m, a = .int i ∧ (b = .tup (m.map .int) ∨ b = avI m) ∧ R (m.any (· == i)) c2) (hm : behindInMarks .In r = false := by rfl) : Tr P (.Compare l [.In] [r] pos) c R :=
  tr_cmp (h.mono fun _ _ h => h.mono fun _ _ h => ex2 h fun _ _ h => an3 h fun z y q => ⟨_, z ▸ y.elim (fun y => y ▸ cmp_inT) (fun y => y ▸ cmp_inL), q⟩) hm
theorem tr_isN (h : Ev P l c fun a c1 => Ev P r c1 fun b c2 => b = .none ∧ R (match a with | .none => true | _ => false) c2) (hm : behindInMarks .Is r = false := by rfl) : Tr P (.Compare l [.Is] [r] pos) c R :=
  tr_cmp (h.mono fun _ _ h => h.mono fun _ _ h => an2 h fun z q => ⟨_, z ▸ cmp_isN rfl, q⟩) hm
theorem tr_notN (h : Ev P l c fun a c1 => Ev P r c1 fun b c2 => b = .none ∧ R (match a with | .none => false | _ => true) c2) (hm : behindInMarks .IsNot r = false := by rfl) : Tr P (.Compare l [.IsNot] [r] pos) c R :=
  tr_cmp (h.mono fun _ _ h => h.mono fun _ _ h => an2 h fun z q => ⟨_, z ▸ cmp_notN rfl, q⟩) hm
theorem ev_eq (ok : P.Ok) (h : Ev P l c fun a c1 => Ev P r c1 fun b c2 => ∃ k, EqR .Eq a b k ∧ Q (.bool k) c2) (hm : behindInMarks .Eq r = false := by rfl) : Ev P (.Compare l [.Eq] [r] pos) c Q :=
  ev_cmp (h.mono fun _ _ h => h.mono fun _ _ h => ex1 h fun _ h => an2 h fun z q => ⟨_, cmp_of ok z, q⟩) hm
theorem ev_ne (ok : P.Ok) (h : Ev P l c fun a c1 => Ev P r c1 fun b c2 => ∃ k, EqR .NotEq a b k ∧ Q (.bool k) c2) (hm : behindInMarks .NotEq r = false := by rfl) : Ev P (.Compare l [.NotEq] [r] pos) c Q :=
  ev_cmp (h.mono fun _ _ h => h.mono fun _ _ h => ex1 h fun _ h => an2 h fun z q => ⟨_, cmp_of ok z, q⟩) hm
theorem ev_lt (h : Ev P l c fun a c1 => Ev P r c1 fun b c2 => ∃ i j, a = .int i ∧ b = .int j ∧ Q (.bool (decide (i < j))) c2) (hm : behindInMarks .Lt r = false := by rfl) : Ev P (.Compare l [.Lt] [r] pos) c Q :=
  ev_cmp (h.mono fun _ _ h => h.mono fun _ _ h => ex2 h fun _ _ h => an3 h fun a b q => ⟨_, a ▸ b ▸ cmp_lt, q⟩) hm
theorem ev_gt (h : Ev P l c fun a c1 => Ev P r c1 fun b c2 => ∃ i j, a = .int i ∧ b = .int j ∧ Q (.bool (decide (j < i))) c2) (hm : behindInMarks .Gt r = false := by rfl) : Ev P (.Compare l [.Gt] [r] pos) c Q :=
  ev_cmp (h.mono fun _ _ h => h.mono fun _ _ h => ex2 h fun _ _ h => an3 h fun a b q => ⟨_, a ▸ b ▸ cmp_gt, q⟩) hm
end
theorem ev_none {k : Nat} {pos : Pos} (h : Q .none c) : Ev P (.Constant .none k pos) c Q :=
  ⟨fun _ _ _ S => wpAny_pure (Post.now S .none h)⟩
theorem ev_boolC {b : Bool} {k : Nat} {pos : Pos} (h : Q (.bool b) c) : Ev P (.Constant (.bool b) k pos) c Q :=
  ⟨fun _ _ _ S => wpAny_pure (Post.now S .bool h)⟩
end
end Mine
namespace Mine
section
variable {P : Pl}
theorem bi_lenI {l : List Int} (h : l.length ≤ 100000) : BInt P "len" [avI l] l.length := by
  have := bi_len (P := P) (l := l.map AV.int) (by rw [List.length_map]; omega)
  rw [List.length_map] at this; exact this
end
end Mine
namespace Mine
theorem look_freeze {x : String} {c : Cx} {l : List AV} {v : AV} (h : look x c.loc = some v) (hv : v ≠ .own) : look x (c.freeze l).loc = some v := by
  show look x (thaw l c.loc) = some v
  rw [look_thaw, h]
  cases v <;> first | rfl | exact absurd rfl hv
end Mine
namespace Mine
section
variable {P : Pl} {c : Cx} {Q : AV → Cx → Prop}
theorem ev_uptoI {x : String} {p ps : Pos} {e : Expr} {pos : Pos} {l : List Int} (ok : P.Ok) (hx : look x c.loc = some (avI l)) (hl : l.length ≤ 100000)
    (h : Ev P e c fun b c1 => ∃ k, b = .int k ∧ 0 ≤ k ∧ Q (avI (l.take k.toNat)) c1) (hk : P.env.kindOf (Str.ofString x) = some .local := by rfl)
    (hd : (Str.ofString x == ("__debug__" : Str)) = false := by decide) : Ev P (.Subscript (.Name (Str.ofString x) p) (.Slice none (some e) none ps) pos) c Q :=
  ev_upto ok hx (by rw [List.length_map]; exact hl) (h.mono fun _ _ h => ex1 h fun k h => ⟨k, h.1, h.2.1, List.map_take (f := AV.int) ▸ h.2.2⟩) hk hd
theorem ev_allI {x : String} {p ps : Pos} {pos : Pos} {l : List Int} (ok : P.Ok) (hx : look x c.loc = some (avI l)) (hl : l.length ≤ 100000)
    (h : Q (avI l) c) (hk : P.env.kindOf (Str.ofString x) = some .local := by rfl)
    (hd : (Str.ofString x == ("__debug__" : Str)) = false := by decide) : Ev P (.Subscript (.Name (Str.ofString x) p) (.Slice none none none ps) pos) c Q :=
  ev_all ok hx (by rw [List.length_map]; exact hl) h hk hd
end
end Mine
namespace Mine
section
variable {P : Pl}
theorem aug_modP {i j : Int} (h : 0 < j) : AugOk P .Mod i j (i % j) := by
  have := aug_mod (P := P) (i := i) (j := j) (by omega)
  rw [Int.fmod_eq_emod_of_nonneg _ (by omega)] at this; exact this
theorem aug_shrP {i j : Int} (h : 0 ≤ j) : AugOk P .RShift i j (i / 2 ^ j.toNat) := by
  have := aug_shr (P := P) (i := i) (j := j) h
  rw [Int.fdiv_eq_ediv_of_nonneg _ (Int.le_of_lt (Int.pow_pos (by decide)))] at this; exact this
end
end Mine
namespace Mine
section
variable {P : Pl} {c : Cx}
theorem lk_int {x : String} {l : List (String × AV)} {i j : Int} (h : look x l = some (.int i)) (e : i = j) : look x l = some (.int j) := e ▸ h
theorem lk_eq {x : String} {l : List (String × AV)} {i j : AV} (h : look x l = some i) (e : i = j) : look x l = some j := e ▸ h
theorem trAll_nilA {R : Bool → Cx → Prop} (h : R true c) : TrAll P .And [] c R := trAll_nil h
theorem trAll_nilO {R : Bool → Cx → Prop} (h : R false c) : TrAll P .Or [] c R := trAll_nil h
end
end Mine
namespace Mine
def isOwn : AV → Bool
  | .own => true
  | _ => false
theorem not_own {v : AV} (h : isOwn v = false) : v ≠ .own := fun e => by rw [e] at h; cases h
theorem ev_loc {P : Pl} {c : Cx} {Q : AV → Cx → Prop} {x : String} {pos : Pos} {v : AV} (ok : P.Ok) (hx : look x c.loc = some v) (hv : isOwn v = false) (h : Q v c) (hk : P.env.kindOf (Str.ofString x) = some .local := by rfl)
    (hd : (Str.ofString x == ("__debug__" : Str)) = false := by decide) : Ev P (.Name (Str.ofString x) pos) c Q := ev_local ok hx (not_own hv) h hk hd
theorem look_frz {x : String} {c : Cx} {l : List AV} {v : AV} (h : look x c.loc = some v) (hv : isOwn v = false) : look x (c.freeze l).loc = some v := look_freeze h (not_own hv)
end Mine
namespace Mine
/-- what a statement leaves behind, told apart from what comes next -/
theorem ex_cut {P : Pl} {st : Stmt} {c : Cx} {Q : Fl → Cx → Prop} (J : Cx → Prop) (h1 : Ex P st c fun fl c1 => fl = .next ∧ J c1) (h2 : ∀ c1, J c1 → Q .next c1) : Ex P st c Q :=
  h1.mono fun _ _ h => h.1 ▸ h2 _ h.2
theorem fl_next {P : Cx → Prop} {c : Cx} (h : P c) : Fl.next = .next ∧ P c := ⟨rfl, h⟩
end Mine
namespace Mine
section
variable {P : Pl} {c : Cx}
theorem rangeL_get {a st : Int} {n i : Nat} {v : AV} (h : (rangeL a st n)[i]? = some v) : i < n ∧ v = .int (a + (i : Int) * st) := by
  have hi : i < n := by
    rcases Nat.lt_or_ge i n with q | q
    · exact q
    · rw [List.getElem?_eq_none (by simpa [rangeL] using q)] at h; cases h
  refine ⟨hi, ?_⟩
  simpa [rangeL, hi] using h.symm
theorem rangeL_len {a st : Int} {n : Nat} : (rangeL a st n).length = n := by simp [rangeL]
/-- for x in range(b) -/
theorem ex_forU {x : String} {px fp pc pos : Pos} {e : Expr} {body : List Stmt} {Q : Fl → Cx → Prop} (ok : P.Ok) (hx : nsIn P.g.K mainGlobals (Str.ofString "range") = some none) (hv : bootBuiltins (Str.ofString "range") = some (.type "range"))
    (h : EvL P pc [e] c fun l c1 => ∃ b : Int, l = [.int b] ∧ -(2 ^ 62) ≤ b ∧ b < 2 ^ 62 ∧ ∃ I : Nat → Cx → Prop, I 0 c1 ∧ (∀ (i : Nat) c2, i < b.toNat → I i c2 → ExB P body (c2.put x (.int i)) (lq (I (i + 1)) Q)) ∧ ∀ c2, I b.toNat c2 → Q .next c2)
    (hkx : P.env.kindOf (Str.ofString x) = some .local := by rfl) (hk : P.env.kindOf (Str.ofString "range") = some .globalImplicit := by rfl)
    (he : starEach [e] P.env = (false, eval e P.env) :: starEach [] P.env := by rfl)
    (hc : eval (.Call (.Name (Str.ofString "range") fp) [e] [] pc) P.env = (do callWith pc (← eval (.Name (Str.ofString "range") fp) P.env) [] (backTo pc (starEach [e] P.env)) (backToKw pc (keywordEach [] P.env))) := by rfl)
    (hs : ∀ x, foldedSetIterable (.Call (.Name (Str.ofString "range") fp) [e] [] pc) P.env x = pure x := by intro _; rfl) :
    Ex P (.For (.Name (Str.ofString x) px) (.Call (.Name (Str.ofString "range") fp) [e] [] pc) body [] pos) c Q := by
  refine ex_for ok (it_range ok hx hv (by decide) (h.mono fun l c1 z => ?_) hk (by decide) he rfl hc) hkx hs
  refine ex1 z fun b z => an4 z fun e1 h1 h2 z => ex1 z fun I z => an3 z fun i0 st dn => ?_
  refine ⟨0, b, 1, b.toNat, .inl ⟨e1, rfl, rfl⟩, small_one (by omega) (by omega) h1 h2, by rw [rsize_up]; omega, I, i0, fun i v c2 hv hI => ?_, by rw [rangeL_len]; exact dn⟩
  have g := rangeL_get hv
  rw [g.2, Int.zero_add, Int.mul_one]; exact st i c2 g.1 hI
/-- for x in range(a, b) -/
theorem ex_forB {x : String} {px fp pc pos : Pos} {e e2 : Expr} {body : List Stmt} {Q : Fl → Cx → Prop} (ok : P.Ok) (hx : nsIn P.g.K mainGlobals (Str.ofString "range") = some none) (hv : bootBuiltins (Str.ofString "range") = some (.type "range"))
    (h : EvL P pc [e, e2] c fun l c1 => ∃ a b : Int, l = [.int a, .int b] ∧ -(2 ^ 62) ≤ a ∧ a < 2 ^ 62 ∧ -(2 ^ 62) ≤ b ∧ b < 2 ^ 62 ∧ ∃ I : Nat → Cx → Prop, I 0 c1 ∧ (∀ (i : Nat) c2, i < (b - a).toNat → I i c2 → ExB P body (c2.put x (.int (a + i))) (lq (I (i + 1)) Q)) ∧ ∀ c2, I (b - a).toNat c2 → Q .next c2)
    (hkx : P.env.kindOf (Str.ofString x) = some .local := by rfl) (hk : P.env.kindOf (Str.ofString "range") = some .globalImplicit := by rfl)
    (he : starEach [e, e2] P.env = (false, eval e P.env) :: starEach [e2] P.env := by rfl) (hp : (backTo pc (starEach [e2] P.env)).any (·.1) = false := by rfl)
    (hc : eval (.Call (.Name (Str.ofString "range") fp) [e, e2] [] pc) P.env = (do callWith pc (← eval (.Name (Str.ofString "range") fp) P.env) [] (backTo pc (starEach [e, e2] P.env)) (backToKw pc (keywordEach [] P.env))) := by rfl)
    (hs : ∀ x, foldedSetIterable (.Call (.Name (Str.ofString "range") fp) [e, e2] [] pc) P.env x = pure x := by intro _; rfl) :
    Ex P (.For (.Name (Str.ofString x) px) (.Call (.Name (Str.ofString "range") fp) [e, e2] [] pc) body [] pos) c Q := by
  refine ex_for ok (it_range ok hx hv (by decide) (h.mono fun l c1 z => ?_) hk (by decide) he hp hc) hkx hs
  refine ex2 z fun a b z => an6 z fun e1 h1 h2 h3 h4 z => ex1 z fun I z => an3 z fun i0 st dn => ?_
  refine ⟨a, b, 1, (b - a).toNat, .inr (.inl ⟨e1, rfl⟩), small_one h1 h2 h3 h4, rsize_up a b, I, i0, fun i v c2 hv hI => ?_, by rw [rangeL_len]; exact dn⟩
  have g := rangeL_get hv
  rw [g.2, Int.mul_one]; exact st i c2 g.1 hI
/-- for x in range(a, b, -1) -/
theorem ex_forD {x : String} {px fp pc pos : Pos} {e e2 e3 : Expr} {body : List Stmt} {Q : Fl → Cx → Prop} (ok : P.Ok) (hx : nsIn P.g.K mainGlobals (Str.ofString "range") = some none) (hv : bootBuiltins (Str.ofString "range") = some (.type "range"))
    (h : EvL P pc [e, e2, e3] c fun l c1 => ∃ a b : Int, l = [.int a, .int b, .int (-1)] ∧ -(2 ^ 62) ≤ a ∧ a < 2 ^ 62 ∧ -(2 ^ 62) ≤ b ∧ b < 2 ^ 62 ∧ ∃ I : Nat → Cx → Prop, I 0 c1 ∧ (∀ (i : Nat) c2, i < (a - b).toNat → I i c2 → ExB P body (c2.put x (.int (a - i))) (lq (I (i + 1)) Q)) ∧ ∀ c2, I (a - b).toNat c2 → Q .next c2)
    (hkx : P.env.kindOf (Str.ofString x) = some .local := by rfl) (hk : P.env.kindOf (Str.ofString "range") = some .globalImplicit := by rfl)
    (he : starEach [e, e2, e3] P.env = (false, eval e P.env) :: starEach [e2, e3] P.env := by rfl) (hp : (backTo pc (starEach [e2, e3] P.env)).any (·.1) = false := by rfl)
    (hc : eval (.Call (.Name (Str.ofString "range") fp) [e, e2, e3] [] pc) P.env = (do callWith pc (← eval (.Name (Str.ofString "range") fp) P.env) [] (backTo pc (starEach [e, e2, e3] P.env)) (backToKw pc (keywordEach [] P.env))) := by rfl)
    (hs : ∀ x, foldedSetIterable (.Call (.Name (Str.ofString "range") fp) [e, e2, e3] [] pc) P.env x = pure x := by intro _; rfl) :
    Ex P (.For (.Name (Str.ofString x) px) (.Call (.Name (Str.ofString "range") fp) [e, e2, e3] [] pc) body [] pos) c Q := by
  refine ex_for ok (it_range ok hx hv (by decide) (h.mono fun l c1 z => ?_) hk (by decide) he hp hc) hkx hs
  refine ex2 z fun a b z => an6 z fun e1 h1 h2 h3 h4 z => ex1 z fun I z => an3 z fun i0 st dn => ?_
  refine ⟨a, b, -1, (a - b).toNat, .inr (.inr ⟨e1, by decide, by decide⟩), small_down h1 h2 h3 h4, rsize_down a b, I, i0, fun i v c2 hv hI => ?_, by rw [rangeL_len]; exact dn⟩
  have g := rangeL_get hv
  rw [g.2, Int.mul_neg_one, ← Int.sub_eq_add_neg]; exact st i c2 g.1 hI
end
end Mine
namespace Mine
/-- what holds between the turns, closed to the walk -/
structure Inv (p : Prop) : Prop where
  out : p
end Mine
end
section
/-! limbs of a number: plain arithmetic, no program in sight -/
namespace Mine

/-- the number that limbs stand for -/
def val (w : Nat) : List Int → Int
  | [] => 0
  | x :: r => x + 2 ^ w * val w r
/-- every limb is below the base -/
def Wf (w : Nat) (l : List Int) : Prop := ∀ x ∈ l, 0 ≤ x ∧ x < 2 ^ w
/-- the limbs of a number, the last one not nought -/
def limF (w : Nat) : Nat → Nat → List Int
  | 0, _ => []
  | k + 1, n => if n = 0 ∨ w = 0 then [] else ((n % 2 ^ w : Nat) : Int) :: limF w k (n / 2 ^ w)
@[irreducible] def lim (w : Nat) (n : Nat) : List Int := limF w n n
theorem lim_def (w n : Nat) : lim w n = limF w n n := by unfold lim; rfl
theorem lim_less {w m : Nat} (hw : w ≠ 0) : (m + 1) / 2 ^ w ≤ m := Nat.le_of_lt_succ (Nat.div_lt_self (Nat.succ_pos _) (Nat.one_lt_two_pow hw))
theorem limF_0 {w : Nat} : ∀ k, limF w k 0 = []
  | 0 => rfl
  | k + 1 => if_pos (.inl rfl)
theorem limF_any {w : Nat} (hw : w ≠ 0) : ∀ k k' n, n ≤ k → n ≤ k' → limF w k n = limF w k' n
  | 0, k', n, h, _ => by rw [Nat.le_zero.mp h, limF_0, limF_0]
  | k + 1, 0, n, _, h => by rw [Nat.le_zero.mp h, limF_0, limF_0]
  | k + 1, k' + 1, 0, _, _ => by rw [limF_0, limF_0]
  | k + 1, k' + 1, n + 1, h, h' => by
    show (if _ then _ else _) = (if _ then _ else _)
    rw [limF_any hw k k' _ (Nat.le_trans (lim_less hw) (Nat.le_of_succ_le_succ h)) (Nat.le_trans (lim_less hw) (Nat.le_of_succ_le_succ h'))]

section
variable {w : Nat}
theorem pw (w : Nat) : (0 : Int) < 2 ^ w := Int.pow_pos (by decide)
theorem pwc (w : Nat) : ((2 ^ w : Nat) : Int) = 2 ^ w := by simp
theorem lim_zero : lim w 0 = [] := by rw [lim_def]; rfl
theorem lim_w0 (n : Nat) : lim 0 n = [] := by
  rw [lim_def]
  cases n with
  | zero => rfl
  | succ n => exact if_pos (Or.inr rfl)
theorem lim_pos {n : Nat} (h : n ≠ 0) (hw : w ≠ 0) : lim w n = ((n % 2 ^ w : Nat) : Int) :: lim w (n / 2 ^ w) := by
  cases n with
  | zero => exact absurd rfl h
  | succ m => rw [lim_def, lim_def]; exact (if_neg fun e => e.elim h hw).trans (congrArg _ (limF_any hw _ _ _ (lim_less hw) (Nat.le_refl _)))
theorem val_nil : val w [] = 0 := rfl
theorem val_cons {x : Int} {r : List Int} : val w (x :: r) = x + 2 ^ w * val w r := rfl
theorem Wf.nil : Wf w [] := fun _ h => nomatch h
theorem Wf.cons {x : Int} {r : List Int} (h0 : 0 ≤ x) (h1 : x < 2 ^ w) (h : Wf w r) : Wf w (x :: r) := fun y hy => (List.mem_cons.mp hy).elim (fun e => e ▸ ⟨h0, h1⟩) (h y)
theorem Wf.head {x : Int} {r : List Int} (h : Wf w (x :: r)) : 0 ≤ x ∧ x < 2 ^ w := h x (.head _)
theorem Wf.tail {x : Int} {r : List Int} (h : Wf w (x :: r)) : Wf w r := fun y hy => h y (.tail _ hy)
theorem Wf.app {l m : List Int} (h : Wf w l) (k : Wf w m) : Wf w (l ++ m) := fun y hy => (List.mem_append.mp hy).elim (h y) (k y)
theorem Wf.take {l : List Int} (h : Wf w l) (k : Nat) : Wf w (l.take k) := fun y hy => h y (List.mem_of_mem_take hy)
theorem Wf.drop {l : List Int} (h : Wf w l) (k : Nat) : Wf w (l.drop k) := fun y hy => h y (List.mem_of_mem_drop hy)
theorem Wf.get {l : List Int} (h : Wf w l) (k : Nat) : 0 ≤ l.getD k 0 ∧ l.getD k 0 < 2 ^ w := by
  by_cases hk : k < l.length
  · have e : l.getD k 0 = l[k] := by simp [List.getD, hk]
    rw [e]; exact h _ (List.getElem_mem hk)
  · have e : l.getD k 0 = 0 := by simp [List.getD, Nat.not_lt.mp hk]
    rw [e]; exact ⟨Int.le_refl _, pw w⟩
theorem val_app : ∀ l m : List Int, val w (l ++ m) = val w l + 2 ^ (w * l.length) * val w m
  | [], m => by simp [val]
  | x :: l, m => by
    simp only [List.cons_append, val, val_app l m, List.length_cons]
    have : (2 : Int) ^ (w * (l.length + 1)) = 2 ^ w * 2 ^ (w * l.length) := by rw [Nat.mul_add, Nat.mul_one, Nat.add_comm, Int.pow_add]
    rw [this, Int.mul_add, Int.mul_assoc]; omega
theorem val_take_succ (l : List Int) (k : Nat) : val w (l.take (k + 1)) = val w (l.take k) + 2 ^ (w * k) * l.getD k 0 := by
  by_cases hk : k < l.length
  · rw [List.take_add_one, val_app, List.length_take, Nat.min_eq_left (Nat.le_of_lt hk)]
    simp [hk, val, List.getD]
  · have h1 : l.take (k + 1) = l := List.take_of_length_le (by omega)
    have h2 : l.take k = l := List.take_of_length_le (by omega)
    rw [h1, h2]
    have e : l.getD k 0 = 0 := by simp [List.getD, Nat.not_lt.mp hk]
    rw [e]; simp
theorem Wf.val_nonneg : ∀ {l : List Int}, Wf w l → 0 ≤ val w l
  | [], _ => Int.le_refl _
  | x :: r, h => by
    have h1 := h.head
    have h2 := Int.mul_nonneg (Int.le_of_lt (pw w)) h.tail.val_nonneg
    rw [val]; omega
theorem Wf.val_lt : ∀ {l : List Int}, Wf w l → val w l < 2 ^ (w * l.length)
  | [], _ => by simp [val]
  | x :: r, h => by
    have h1 := h.head
    have h2 := h.tail.val_lt
    have e : (2 : Int) ^ (w * (r.length + 1)) = 2 ^ w * 2 ^ (w * r.length) := by rw [Nat.mul_add, Nat.mul_one, Nat.add_comm, Int.pow_add]
    rw [val, List.length_cons, e]
    have h3 : 2 ^ w * (val w r + 1) ≤ 2 ^ w * 2 ^ (w * r.length) := Int.mul_le_mul_of_nonneg_left (by omega) (Int.le_of_lt (pw w))
    rw [Int.mul_add, Int.mul_one] at h3
    omega
theorem lim_wf : ∀ n : Nat, Wf w (lim w n) := by
  intro n
  induction n using Nat.strongRecOn with
  | ind n ih =>
    by_cases hn : n = 0
    · subst hn; rw [lim_zero]; exact .nil
    by_cases hw : w = 0
    · subst hw; rw [lim_w0]; exact .nil
    rw [lim_pos hn hw]
    have h1 := Nat.mod_lt n (Nat.two_pow_pos w)
    exact .cons (by omega) (by rw [← pwc]; omega) (ih _ (Nat.div_lt_self (by omega) (Nat.one_lt_two_pow hw)))
theorem val_lim (hw : w ≠ 0) : ∀ n : Nat, val w (lim w n) = n := by
  intro n
  induction n using Nat.strongRecOn with
  | ind n ih =>
    by_cases hn : n = 0
    · subst hn; rw [lim_zero]; rfl
    rw [lim_pos hn hw, val, ih _ (Nat.div_lt_self (by omega) (Nat.one_lt_two_pow hw)), ← pwc]
    have := Nat.mod_add_div n (2 ^ w)
    rw [← Int.natCast_mul, ← Int.natCast_add, this]
theorem lim_len_lo (hw : w ≠ 0) : ∀ n : Nat, lim w n = [] ∨ (2 : Int) ^ (w * ((lim w n).length - 1)) ≤ n := by
  intro n
  induction n using Nat.strongRecOn with
  | ind n ih =>
    by_cases hn : n = 0
    · subst hn; exact .inl lim_zero
    right
    rw [lim_pos hn hw, List.length_cons, Nat.add_sub_cancel]
    rcases ih (n / 2 ^ w) (Nat.div_lt_self (by omega) (Nat.one_lt_two_pow hw)) with h | h
    · rw [h]; simp; omega
    · have hl : (lim w (n / 2 ^ w)).length = (lim w (n / 2 ^ w)).length - 1 + 1 ∨ (lim w (n / 2 ^ w)).length = 0 := by omega
      rcases hl with hl | hl
      · rw [hl]
        have e : (2 : Int) ^ (w * ((lim w (n / 2 ^ w)).length - 1 + 1)) = 2 ^ w * 2 ^ (w * ((lim w (n / 2 ^ w)).length - 1)) := by rw [Nat.mul_add, Nat.mul_one, Nat.add_comm, Int.pow_add]
        rw [e]
        have h3 := Int.mul_le_mul_of_nonneg_left h (Int.le_of_lt (pw w))
        have h4 := Nat.div_mul_le_self n (2 ^ w)
        have h5 : (2 : Int) ^ w * ((n / 2 ^ w : Nat) : Int) ≤ n := by rw [← pwc, ← Int.natCast_mul]; rw [Nat.mul_comm] at h4; omega
        omega
      · rw [hl]; simp; omega
/-- limbs are told by their number -/
theorem lim_uniq (hw : w ≠ 0) : ∀ {l : List Int} {n : Nat}, Wf w l → val w l = n → (l = [] ∨ (2 : Int) ^ (w * (l.length - 1)) ≤ n) → l = lim w n
  | [], n, _, hv, _ => by
    have : n = 0 := by simp [val] at hv; omega
    subst this; exact lim_zero.symm
  | x :: r, n, hf, hv, hl => by
    have hl' := hl.resolve_left (by simp)
    have hx := hf.head
    have hr := hf.tail.val_nonneg
    obtain ⟨m, hm⟩ := Int.eq_ofNat_of_zero_le hr
    obtain ⟨y, hy⟩ := Int.eq_ofNat_of_zero_le hx.1
    have hp : (0 : Int) < 2 ^ (w * ((x :: r).length - 1)) := Int.pow_pos (by decide)
    have hn : n ≠ 0 := by omega
    rw [val, hm] at hv
    subst hy
    have hy2 : y < 2 ^ w := by have := hx.2; rw [← pwc] at this; omega
    have e1 : n = y + 2 ^ w * m := by rw [← pwc, ← Int.natCast_mul] at hv; omega
    have e2 : n % 2 ^ w = y := by rw [e1, Nat.add_mul_mod_self_left, Nat.mod_eq_of_lt hy2]
    have e3 : n / 2 ^ w = m := by rw [e1, Nat.add_mul_div_left _ _ (Nat.two_pow_pos w), Nat.div_eq_of_lt hy2, Nat.zero_add]
    rw [lim_pos hn hw, e2, e3]
    congr 1
    refine lim_uniq hw hf.tail hm ?_
    by_cases hr0 : r = []
    · exact .inl hr0
    right
    have hlen : 0 < r.length := List.length_pos_iff.mpr hr0
    simp only [List.length_cons, Nat.add_sub_cancel] at hl'
    have e4 : (2 : Int) ^ (w * r.length) = 2 ^ w * 2 ^ (w * (r.length - 1)) := by
      rw [← Int.pow_add]; congr 1
      have : r.length = r.length - 1 + 1 := by omega
      conv => lhs; rw [this, Nat.mul_add, Nat.mul_one, Nat.add_comm]
    rw [e4] at hl'
    -- 2^w * P ≤ y + 2^w * m, y < 2^w
    have hlt : (2 : Int) ^ w * 2 ^ (w * (r.length - 1)) < 2 ^ w * (m + 1) := by
      have := hx.2
      rw [Int.mul_add, Int.mul_one]
      omega
    have := Int.lt_of_mul_lt_mul_left hlt (Int.le_of_lt (pw w))
    omega
theorem lim_one {n : Nat} (hw : w ≠ 0) (h0 : n ≠ 0) (h1 : n < 2 ^ w) : lim w n = [(n : Int)] := by
  rw [lim_pos h0 hw, Nat.mod_eq_of_lt h1, Nat.div_eq_of_lt h1, lim_zero]
theorem lim_nil_iff (hw : w ≠ 0) {n : Nat} : lim w n = [] ↔ n = 0 := by
  constructor
  · intro h
    have := val_lim hw n
    rw [h] at this
    simp [val] at this; omega
  · rintro rfl; exact lim_zero
theorem lim_inj (hw : w ≠ 0) {a b : Nat} (h : lim w a = lim w b) : a = b := by
  have h1 := val_lim hw a
  rw [h, val_lim hw b] at h1
  omega
theorem lim_len_le (hw : w ≠ 0) {n k : Nat} (h : n < 2 ^ k) : (lim w n).length ≤ k := by
  rcases lim_len_lo hw n with h1 | h1
  · rw [h1]; simp
  · rcases Nat.lt_or_ge k (lim w n).length with h2 | h2
    · exfalso
      have h3 : k ≤ w * ((lim w n).length - 1) := by
        have : 1 * ((lim w n).length - 1) ≤ w * ((lim w n).length - 1) := Nat.mul_le_mul_right _ (by omega)
        omega
      have h4 : (2 : Nat) ^ k ≤ 2 ^ (w * ((lim w n).length - 1)) := Nat.pow_le_pow_right (by decide) h3
      rw [← pwc] at h1
      omega
    · exact h2
end
end Mine
namespace Mine
section
variable {w : Nat}
theorem take_done (hw : w ≠ 0) {l : List Int} {N k : Nat} (hf : Wf w l) (hv : val w (l.take k) = N) (hk : k ≤ l.length) (h : k = 0 ∨ l.getD (k - 1) 0 ≠ 0) : l.take k = lim w N := by
  refine lim_uniq hw (hf.take k) hv ?_
  rcases Nat.eq_zero_or_pos k with h0 | h0
  · subst h0; exact .inl (by simp)
  right
  rcases h with h | h
  · omega
  have e : k = k - 1 + 1 := by omega
  rw [List.length_take, Nat.min_eq_left hk]
  rw [e, val_take_succ] at hv
  have h1 := (hf.take (k - 1)).val_nonneg
  have h2 := hf.get (k - 1)
  have h3 : (2 : Int) ^ (w * (k - 1)) * 1 ≤ 2 ^ (w * (k - 1)) * l.getD (k - 1) 0 := Int.mul_le_mul_of_nonneg_left (by omega) (Int.le_of_lt (Int.pow_pos (by decide)))
  omega
theorem take_zero_last {l : List Int} {k : Nat} (h : l.getD k 0 = 0) : val w (l.take k) = val w (l.take (k + 1)) := by
  rw [val_take_succ, h]; simp
theorem getD_lim_pos {l : List Int} {k : Nat} (h : l.getD k 0 ≠ 0) : k < l.length := by
  rcases Nat.lt_or_ge k l.length with q | q
  · exact q
  · exact absurd (by simp [List.getD, q]) h
end
end Mine
namespace Mine
section
variable {w : Nat}
theorem pow_succ_mul (w k : Nat) : (2 : Int) ^ (w * (k + 1)) = 2 ^ (w * k) * 2 ^ w := by rw [Nat.mul_add, Nat.mul_one, Int.pow_add]
theorem pow_pos' (k : Nat) : (0 : Int) < 2 ^ k := Int.pow_pos (by decide)
/-- one more limb -/
theorem val_snoc (f : List Int) (x : Int) : val w (f ++ [x]) = val w f + 2 ^ (w * f.length) * x := by rw [val_app]; simp [val]
theorem Wf.snoc {f : List Int} {x : Int} (h : Wf w f) (h0 : 0 ≤ x) (h1 : x < 2 ^ w) : Wf w (f ++ [x]) := h.app (.cons h0 h1 .nil)
/-- a limb split off -/
theorem split_limb (f : List Int) (m : Int) : val w (f ++ [m % 2 ^ w]) + 2 ^ (w * (f ++ [m % 2 ^ w]).length) * (m / 2 ^ w) = val w f + 2 ^ (w * f.length) * m := by
  rw [val_snoc, List.length_append, List.length_singleton, pow_succ_mul]
  have h := Int.mul_ediv_add_emod m (2 ^ w)
  have : 2 ^ (w * f.length) * (m % 2 ^ w) + 2 ^ (w * f.length) * 2 ^ w * (m / 2 ^ w) = 2 ^ (w * f.length) * m := by
    rw [Int.mul_assoc, ← Int.mul_add, Int.add_comm, h]
  omega
end
end Mine
namespace Mine
theorem lim_len_aux {w N : Nat} {f : List Int} (hw : 1 ≤ w) (h : (2 : Int) ^ (w * (f.length - 1)) ≤ N) (hN : N < 2 ^ 1000) : f.length ≤ 1001 := by
  rcases Nat.lt_or_ge 1001 f.length with h2 | h2
  · exfalso
    have h3 : 1000 ≤ w * (f.length - 1) := by
      have : 1 * (f.length - 1) ≤ w * (f.length - 1) := Nat.mul_le_mul_right _ hw
      omega
    have h4 : (2 : Nat) ^ 1000 ≤ 2 ^ (w * (f.length - 1)) := Nat.pow_le_pow_right (by decide) h3
    rw [← pwc] at h
    omega
  · exact h2
end Mine
end
section
open PySem PySem.W
namespace Mine
theorem bitAnd_nat (x y : Nat) : Builtin.bitAnd (x : Int) (y : Int) = ((x &&& y : Nat) : Int) := by
  unfold Builtin.bitAnd
  have h1 : decide (0 ≤ (x : Int)) = true := decide_eq_true (by omega)
  have h2 : decide (0 ≤ (y : Int)) = true := decide_eq_true (by omega)
  rw [h1, h2]; rfl
theorem bitOr_nat (x y : Nat) : Builtin.bitOr (x : Int) (y : Int) = ((x ||| y : Nat) : Int) := by
  unfold Builtin.bitOr
  have e1 : Builtin.bitNot (x : Int) = -(x : Int) - 1 := rfl
  have e2 : Builtin.bitNot (y : Int) = -(y : Int) - 1 := rfl
  unfold Builtin.bitAnd
  have h1 : decide (0 ≤ Builtin.bitNot (x : Int)) = false := decide_eq_false (by rw [e1]; omega)
  have h2 : decide (0 ≤ Builtin.bitNot (y : Int)) = false := decide_eq_false (by rw [e2]; omega)
  rw [h1, h2]
  have e3 : ∀ z : Int, Builtin.bitNot (Builtin.bitNot z) = z := fun z => by show -(-z - 1) - 1 = z; omega
  simp only [e3, Int.toNat_natCast]
theorem mask_eq {w : Nat} {x : Int} (h : 0 ≤ x) : Builtin.bitAnd x (1 * 2 ^ ((w : Nat) : Int).toNat - 1) = x % 2 ^ w := by
  obtain ⟨n, rfl⟩ := Int.eq_ofNat_of_zero_le h
  have hp : 0 < 2 ^ w := Nat.two_pow_pos w
  have e : (1 * 2 ^ ((w : Nat) : Int).toNat - 1 : Int) = ((2 ^ w - 1 : Nat) : Int) := by
    rw [Int.toNat_natCast, Int.one_mul, ← pwc]; omega
  rw [e, bitAnd_nat, Nat.and_two_pow_sub_one_eq_mod, ← pwc]
  exact (Int.natCast_emod _ _).symm ▸ rfl
theorem or_eq {w : Nat} {x y : Int} (h : 0 ≤ x) (h0 : 0 ≤ y) (h1 : y < 2 ^ w) : Builtin.bitOr (x * 2 ^ ((w : Nat) : Int).toNat) y = x * 2 ^ w + y := by
  obtain ⟨n, rfl⟩ := Int.eq_ofNat_of_zero_le h
  obtain ⟨m, rfl⟩ := Int.eq_ofNat_of_zero_le h0
  have hm : m < 2 ^ w := by rw [← pwc] at h1; omega
  rw [Int.toNat_natCast, ← pwc, ← Int.natCast_mul, bitOr_nat, ← Int.natCast_add, Nat.mul_comm, ← Nat.two_pow_add_eq_or_of_lt hm]
theorem shl_eq {w : Nat} : (1 : Int) * 2 ^ ((w : Nat) : Int).toNat = 2 ^ w := by rw [Int.toNat_natCast, Int.one_mul]
theorem and1 (x : Int) : Builtin.bitAnd x 1 = x % 2 := PyProof.Rows.bitAnd_m1 x
theorem and3 (x : Int) : Builtin.bitAnd x 3 = x % 4 := PyProof.Rows.bitAnd_m2 x
theorem and7 (x : Int) : Builtin.bitAnd x 7 = x % 8 := PyProof.Rows.bitAnd_m3 x
end Mine
end
section
open PySem PySem.W PyProof.Rows
set_option Elab.async false
namespace Mine
section
variable {P : Pl}
/-- an expression for itself that gives None -/
theorem ex_expr {e : Expr} {pos : Pos} {c : Cx} {Q : Fl → Cx → Prop} (h : Ev P e c fun v c1 => v = .none ∧ Q .next c1) (hi : interactive P.env = false := by rfl) (hs : swapsWith e none pos.line P.env = pure false := by rfl) : Ex P (.Expr e pos) c Q := by
  refine ⟨fun s F oa S => wpAny_Expr (h.go S fun h1 tk1 F1 oa1 c1 a av S1 st1 ra q => ?_) hi hs⟩
  exact ra.noneE q.1 (Post.of Fl.next S1 st1.up rf_next q.2)
end
end Mine
end
section
open PySem PySem.W PyProof.Rows
set_option Elab.async false
set_option maxRecDepth 10000
set_option linter.unusedVariables false
namespace Mine

/-- the place inside a comprehension -/
abbrev Pl.comp (P : Pl) (scope : Scope) (cl : List (Str × Addr)) (C : Addr) : Pl := ⟨P.g, P.A, P.cn, relabel scope P.env, C, none, P.ccd, cl, P.h₀, P.d, P.fm⟩

section
variable {P : Pl}
/-- what a comprehension has of its own -/
def CX (D C : Addr) (wr : List Addr) (b : Addr) : Prop := b = D ∨ b = C ∨ b ∈ wr
def CompInv (P : Pl) (s : Shared) (F : Fz) (oa : Option Addr) (c1 : Cx) (F1 : Fz) (oa1 : Option Addr) (St : Nat → Heap → Prop) (D C : Addr) (wr : List Addr) (ys : List AV) (n : Nat) (k : Nat) (s' : Shared) : Prop :=
  ∃ h2 tk2 F2 vs m i, s' = { s with heap := h2, toks := tk2 } ∧ St i h2 ∧ SR P c1 F2 oa1 h2 ∧ Stp false P.L F oa s.heap F2 oa1 h2 ∧ Le F1 F2 ∧ h2.Ns C m ∧ h2.PlainList D (vs : List Value).toArray ∧ Reps P.g.ringC F2 vs (ys.take i) ∧ i ≤ n ∧ k = n + 1 - i ∧ ∀ b, CX D C wr b → F2 b = none
theorem comp_X {D C L : Addr} {wr : List Addr} {F1 : Fz} {oa1 : Option Addr} {h : Heap} (d : F1 D = none ∧ oa1 ≠ some D ∧ D ≠ L) (c : F1 C = none ∧ oa1 ≠ some C ∧ C ≠ L) (ds : h.get? D = none) (cs : h.get? C = none) (w : ∀ b ∈ wr, F1 b = none ∧ h.get? b = none) (w' : ∀ b ∈ wr, oa1 ≠ some b ∧ b ≠ L) :
    ∀ b, CX D C wr b → F1 b = none ∧ oa1 ≠ some b ∧ b ≠ L ∧ h.get? b = none := fun b z =>
  z.elim (fun e => e ▸ ⟨d.1, d.2.1, d.2.2, ds⟩) fun z => z.elim (fun e => e ▸ ⟨c.1, c.2.1, c.2.2, cs⟩) fun z => ⟨(w b z).1, (w' b z).1, (w' b z).2, (w b z).2⟩
theorem comp_new {h h₁ : Heap} {o : Obj} (hs : Heap.SameBut (h.push { cls := .type "list", dict := none, data := .seq ([] : List Value).toArray }).objs.size ((h.push { cls := .type "list", dict := none, data := .seq ([] : List Value).toArray }).push o) h₁) :
    (∀ b o, h.get? b = some o → h₁.get? b = some o) ∧ h₁.PlainList h.objs.size #[] ∧ (h.push { cls := .type "list", dict := none, data := .seq ([] : List Value).toArray }).objs.size = h.objs.size + 1 :=
  ⟨fun b o e => hs.extBut b o (Nat.ne_of_lt (by rw [Heap.size_push]; exact Nat.lt_succ_of_lt (Heap.lt_size e))) (Heap.get?_push_of_some _ (Heap.get?_push_of_some _ e)),
    ⟨_, hs.extBut _ _ (Nat.ne_of_lt (by rw [Heap.size_push]; exact Nat.lt_succ_self _)) (Heap.get?_push_of_some _ (Heap.get?_push_size _ rfl))⟩, Heap.size_push ..⟩
theorem comp_kind {scope : Scope} {cl : List (Str × Addr)} {C : Addr} (hkind : scope.kind = .function) : ((P.comp scope cl C).env.scope.kind == .class || ((P.comp scope cl C).env.scope.kind == .module && (P.comp scope cl C).env.locals != (P.comp scope cl C).env.globals)) = false := by
  show ((relabel scope P.env).kind == _ || _) = false
  simp [relabel, hkind]
theorem comp_var {x y : String} {xv v : AV} {u : Value} {C : Addr} {F : Fz} {oa : Option Addr} {m : Str → Option Value} (r : Rep C F u xv) (e : look y [(x, xv)] = some v) : ∃ u', (if Str.ofString y = Str.ofString x then some u else m (Str.ofString y)) = some u' ∧ RepO C F oa u' v := by
  have e : (if y = x then some xv else none) = some v := e
  split at e
  · exact ⟨u, if_pos (congrArg _ ‹_›), .inr (Option.some.inj e ▸ r)⟩
  · cases e
theorem comp_fit {C : Addr} {F : Fz} {vs : List Value} {ys : List AV} {i n : Nat} (rs : Reps C F vs (ys.take i)) (hi : i ≤ n) (hn : n ≤ 100000) : vs.toArray.size ≤ sizeLine := by
  rw [List.size_toArray, rs.len, List.length_take, sizeLine_eq]; omega
theorem comp_more {C : Addr} {F : Fz} {vs : List Value} {a : Value} {y : AV} {ys : List AV} {i : Nat} (hy : ys[i]? = some y) (rs : Reps C F vs (ys.take i)) (ra : Rep C F a y) : Reps C F (vs ++ [a]) (ys.take (i + 1)) := by
  rw [List.take_add_one, hy]
  exact rs.app (.cons ra .nil)
set_option maxHeartbeats 1000000 in
/-- a comprehension of one name, whatever stands behind its list -/
theorem comp_core {x : String} {px pos pos2 : Pos} {elt iter : Expr} {scope : Scope} {cl : List (Str × Addr)} {c : Cx} {cels : List (String × AV)} {K : List AV → Cx → Prop} {use : Option (Value → Sem Unit)} {R : Value → Shared → Prop} {s : Shared} {F : Fz} {oa : Option Addr} (ok : P.Ok) (S : SR P c F oa s.heap)
    (hclos : closureFor scope P.env = pure cl) (hcell : ∀ y ∈ scope.names, y.2 ≠ .cell) (hkind : scope.kind = .function)
    (hnames : ∀ y ∈ scope.names, y.2 = .local → scope.names.lookup y.1 = some .local) (hx : scope.names.lookup (Str.ofString x) = some .local)
    (h : ItOk P iter c fun items c1 => ∃ ys : List AV, ys.length = items.length ∧ items.length ≤ 100000 ∧ (∀ y v, look y cels = some v → look y c1.cel = some v ∧ cl.lookup (Str.ofString y) = P.cl.lookup (Str.ofString y)) ∧
      (∀ (i : Nat) (v z : AV) (C : Addr), items[i]? = some v → ys[i]? = some z → (P.comp scope cl C).Ok → Ev (P.comp scope cl C) elt ⟨[(x, v)], cels, none⟩ fun a _ => a = z) ∧ K ys c1)
    (hs : ∀ x, foldedSetIterable iter P.env x = pure x)
    (fin : ∀ (D C : Addr) (m : Str → Option Value) (h3 : Heap) (tk3 : Nat) (F' : Fz) (oa1 : Option Addr) (c1 : Cx) (ys : List AV), SR P c1 F' oa1 h3 → Stp false P.L F oa s.heap F' oa1 h3 → Rep P.g.ringC F' (.ref D) (.list ys) → h3.Ns C m → C ≠ P.L → oa1 ≠ some C → s.heap.get? C = none → P.h₀.get? C = none → F' C = none → K ys c1 →
      compPost (model P.g.prog P.g.w) P.A (fun _ _ => False) use R (.ref D) C (.ok .next) { s with heap := h3, toks := tk3 }) :
    wpAny (model P.g.prog P.g.w) P.A (comprehension (.ListComp elt [⟨.Name (Str.ofString x) px, iter, [], 0⟩] scope pos) scope P.env pos2 (newList []) false (eval iter P.env) use) R (fun _ _ => False) s := by
  refine wpAny_comprehension_free rfl hs hclos hkind hnames (wpAny_mono (h s F oa S) (fun xv s1 h1 => wpAny_mono h1 (fun it s2 h2 => ?_) fun _ _ e => e) fun _ _ e => e)
  refine ex6 h2 fun h' tk' F1 oa1 c1 items h2 => an5 h2 fun e2 S1 st1 hI q => ?_
  refine ex5 hI.run fun I fp wr Pv St hI => an8 hI fun e1 W st0 Lf of wrF hex hit => ?_
  refine ex1 q fun ys q => an5 q fun hlen hmax hcels helt q => ?_
  subst e2 e1
  clear h2 hI h1 h
  refine wpAny_newObj_type (wpAny_newFunctionEnv hcell (by intro y hy; simp at hy) (fun h₁ hns₁ hsb₁ => ?_) hkind)
  dsimp only at hns₁ hsb₁ ⊢
  refine an3 (comp_new hsb₁) fun k1 pl1 hC => ?_
  rw [hC] at hns₁ ⊢
  have d0 : h'.get? h'.objs.size = none := get_size_none h'
  have c0 : h'.get? (h'.objs.size + 1) = none := get_succ_none h'
  have hCL : P.h₀.objs.size ≤ h'.objs.size + 1 := ex1 S1.fr fun m fr => ex1 S1.L_some fun o e => Nat.le_trans fr.1.above (Nat.le_of_lt (Nat.lt_succ_of_lt (Heap.lt_size e)))
  have hDC : h'.objs.size ≠ h'.objs.size + 1 := (Nat.succ_ne_self _).symm
  have dn := S1.free d0
  have cn := S1.free c0
  have ds := st1.dom _ d0
  have cs := st1.dom _ c0
  have dfp : h'.objs.size ∉ fp := fun hm => ex1 (hex _ _ st0 _ hm) fun _ e => ns d0 e
  have cfp : h'.objs.size + 1 ∉ fp := fun hm => ex1 (hex _ _ st0 _ hm) fun _ e => ns c0 e
  clear hC hsb₁
  generalize hD : h'.objs.size = D at *
  generalize hCC : D + 1 = C at *
  have okc : (P.comp scope cl C).Ok := ⟨hkind, ok.hand, ok.room, ok.units⟩
  have wfp := W.sub
  have X := comp_X (D := D) (C := C) (wr := wr) dn cn ds cs (fun b z => wrF b z) (fun b z => ⟨of _ (wfp _ z), fun e => Lf (e ▸ wfp _ z)⟩)
  have stF : St 0 h₁ := W.frame _ _ _ st0 fun b _ o e => k1 b o e
  have S1' : SR P c1 F1 oa1 h₁ := S1.keeps k1
  have st1' : Stp false P.L F oa s.heap F1 oa1 h₁ := st1.trans (stp_keeps k1)
  have hdm := S.h0_of
  clear d0 c0 hD hCC k1 S st0 S1 st1
  have loop : ∀ s₃ : Shared, s₃ = { s with heap := h₁, toks := tk' + ([] : List (Str × Value)).length } →
      codeAny (model P.g.prog P.g.w) P.A (.compLoop (.ListComp elt [⟨.Name (Str.ofString x) px, iter, [], 0⟩] scope pos) 0 (.ref I) (.ref D) (P.comp scope cl C).env)
        (compPost (model P.g.prog P.g.w) P.A (fun _ _ => False) use R (.ref D) C) s₃ := by
    intro s₃ e₃
    subst e₃
    refine codeAny_compLoop_tests (CompInv P s F oa c1 F1 oa1 St D C wr ys items.length) ?_
      (items.length + 1) ⟨h₁, _, F1, [], _, 0, rfl, stF, S1', st1', .refl _, hns₁, pl1, .nil, Nat.zero_le _, rfl, fun b z => (X b z).1⟩
    clear S1' st1' stF pl1 hns₁
    intro k s' p
    refine ex6 p fun h2 tk2 F2 vs m i p => an11 p fun e1 sti S2 st2 le2 hn2 pl2 rs hi e2 xF => ?_
    subst e1 e2
    clear p
    have over := fun {F' h'} k le sub fresh => S2.over (F' := F') (h' := h') (X := CX D C wr) k le sub fresh (fun z => (X _ z).2.2.1 rfl) (fun b z => (X b z).2.1) fun b z => hdm b (X b z).2.2.2
    by_cases hlt : i < items.length
    · refine W.item i { s with heap := h2, toks := tk2 } _ _ hlt sti fun v h3 tk3 hP st3 k3 => ?_
      refine ex1 (hit i v hlt hP F2 le2) fun xv hxv => ?_
      have cw : C ∉ wr := fun z => cfp (wfp _ z)
      have dw : D ∉ wr := fun z => dfp (wfp _ z)
      refine wpAny_assign_Name (wpAny_storeName_local (env := (P.comp scope cl C).env) (m := m) (lookup_relabel_local hx) (hn2.at' fun o e => k3 _ o cw e) (fun h4 hn4 hs4 => ?_) (comp_kind hkind))
      have k4 : ∀ b o, b ≠ C → b ∉ wr → h2.get? b = some o → h4.get? b = some o := fun b o n1 n2 e => hs4.extBut b o n1 (k3 b o n2 e)
      have kX4 : ∀ b o, ¬ CX D C wr b → h2.get? b = some o → h4.get? b = some o := fun b o n e => k4 b o (fun z => n (.inr (.inl z))) (fun z => n (.inr (.inr z))) e
      have S4 : SR P c1 F2 oa1 h4 := over kX4 (.refl _) (fun a o e => kX4 a o (fun z => ns (xF a z) e) (S2.sub a o e)) (fun a o e => .inl e)
      have st4 : St (i + 1) h4 := W.frame _ _ _ st3 fun b hb o e => hs4.extBut b o (fun z => cfp ((show b = C from z) ▸ hb)) e
      refine wpAny_pure ?_
      rw [if_pos rfl]
      refine ex1 (get_of (l := ys) (i := i) (hlen.symm ▸ hlt)) fun y hy => ?_
      have S4c : SR (P.comp scope cl C) ⟨[(x, xv)], cels, none⟩ F2 none h4 :=
        ⟨S4.base, ⟨_, ⟨hn4, ex1 S4.fr fun m fr => fr.1.keep, hCL⟩, fun y' v' e => comp_var hxv.2 e⟩, fun y' v' e => ex3 (S4.cel _ _ (hcels y' v' e).1) fun ca u o z => ⟨ca, u, o, (hcels y' v' e).2.trans z.1, z.2⟩, S4.sub, xF _ (.inr (.inl rfl)), .inl ⟨rfl, rfl⟩⟩
      have xs4 : ∀ b, CX D C wr b → ∃ o, h4.get? b = some o := fun b z => z.elim (fun z => ex1 pl2 fun _ e => ⟨_, z ▸ k4 _ _ hDC dw e⟩) fun z => z.elim (fun z => z ▸ ns_some hn4) fun z => hex _ _ st4 _ (wfp _ z)
      have pl4 := pl2.at fun o e => k4 _ o hDC dw e
      refine Tri.goE (helt i xv y C hxv.1 hy okc) (s := { s with heap := h4, toks := tk3 + 1 }) S4c fun h5 tk5 F5 oa5 c5 a a' S5 st5 ra ea => ?_
      subst ea
      have k5 : ∀ b o, b ≠ C → h4.get? b = some o → h5.get? b = some o := fun b o n e => st5.kp b o n none_ne e
      have xF5 : ∀ b, CX D C wr b → F5 b = none := fun b z => st5.no_fz none_ne (xF b z) (xs4 b z)
      refine wpAny_list_append_plain (hsz := comp_fit rs hi hmax) (pl4.at fun o e => k5 _ o hDC e) fun h6 pl6 hs6 => ?_
      have k56 : ∀ b o, ¬ CX D C wr b → h4.get? b = some o → h6.get? b = some o := fun b o n e => hs6.extBut b o (fun z => n (.inl z)) (k5 b o (fun z => n (.inr (.inl z))) e)
      have k26 : ∀ b o, ¬ CX D C wr b → h2.get? b = some o → h6.get? b = some o := fun b o n e => k56 b o n (kX4 b o n e)
      have new2 : ∀ a o, F5 a = some o → F2 a = some o ∨ (h4.get? a = none ∧ h2.get? a = none) := fun a o e => (st5.fresh a o e).imp id fun z => z.elim (fun q => ⟨q, none_of fun o' w => ns (xF5 a (Classical.byContradiction fun n => ns q (kX4 a o' n w))) e⟩) nofun
      have S6 : SR P c1 F5 oa1 h6 := over k26 st5.le (fun a o e => hs6.extBut a o (fun z => ns (xF5 _ (.inl z)) e) (S5.sub a o e)) (fun a o e => (new2 a o e).imp id fun q => ⟨(S4.free q.1).2.2, (S4.free q.1).2.1⟩)
      have st6 : Stp false P.L F oa s.heap F5 oa1 h6 := st2.over (X := CX D C wr) k26 st5.le (fun a o e => (new2 a o e).imp id fun q => st2.dom a q.2) fun b z => (X b z).2.2.2
      refine ex1 S5.fr fun m5 fr5 => ?_
      exact ⟨items.length + 1 - (i + 1), turn_lt hlt, h6, tk5, F5, vs ++ [a], m5, i + 1, rfl, W.frame _ _ _ st4 fun b hb o e => hs6.extBut b o (fun z => dfp (z ▸ hb)) (k5 b o (fun z => cfp (z ▸ hb)) e), S6, st6, le2.trans st5.le, fr5.1.ns.at' (fun o e => hs6.extBut C o (Ne.symm hDC) e), (List.push_toArray ..) ▸ pl6, comp_more hy (rs.mono st5.le) ra, hlt, rfl, xF5⟩
    · have e : i = items.length := Nat.le_antisymm hi (Nat.le_of_not_lt hlt)
      subst e
      refine W.done { s with heap := h2, toks := tk2 } _ _ sti fun h3 tk3 k3 => ?_
      have kX3 : ∀ b o, ¬ CX D C wr b → h2.get? b = some o → h3.get? b = some o := fun b o n e => k3 b o (fun z => n (.inr (.inr z))) e
      refine ex1 pl2 fun n pe => ?_
      have pe3 := k3 D _ (fun z => dfp (wfp _ z)) pe
      have lf := le_upd (o := { cls := .type "list", data := .seq vs.toArray n }) (xF D (.inl rfl))
      rw [List.take_of_length_le (Nat.le_of_eq hlen)] at rs
      have S3 : SR P c1 (upd F2 D { cls := .type "list", data := .seq vs.toArray n }) oa1 h3 := over kX3 lf (fun a o e => (upd_some e).elim (fun z => z.1 ▸ z.2 ▸ pe3) fun z => kX3 a o (fun w => ns (xF a w) z) (S2.sub a o z)) (fun a o e => (upd_some e).elim (fun z => .inr (z.1 ▸ ⟨dn.2.2, dn.2.1⟩)) .inl)
      have st3 : Stp false P.L F oa s.heap (upd F2 D { cls := .type "list", data := .seq vs.toArray n }) oa1 h3 := st2.over (X := CX D C wr) kX3 lf (fun a o e => (upd_some e).elim (fun z => .inr (z.1 ▸ ds)) .inl) fun b z => (X b z).2.2.2
      have cu : upd F2 D { cls := .type "list", data := .seq vs.toArray n } C = none := (if_neg (Ne.symm hDC)).trans (xF C (.inr (.inl rfl)))
      exact fin D C m h3 tk3 _ oa1 c1 ys S3 st3 (.list ⟨_, if_pos rfl, rfl, n, rfl⟩ (rs.mono lf)) (hn2.at' fun o e => k3 _ o (fun z => cfp (wfp _ z)) e) cn.2.2 cn.2.1 cs (hdm _ cs) cu q
  exact codeAny_compStart_list (loop _ rfl) (W.self 0 _ _ _ stF (loop _ rfl))
/-- what stands behind a comprehension: its names are let go -/
theorem SR.goes {P : Pl} {c : Cx} {F : Fz} {oa : Option Addr} {h h' : Heap} {C : Addr} (S : SR P c F oa h) (hs : Heap.SameBut C h h') (cL : C ≠ P.L) (cO : oa ≠ some C) (ch : P.h₀.get? C = none) (cu : F C = none) : SR P c F oa h' :=
  have k : ∀ b o, ¬ (b = C) → h.get? b = some o → h'.get? b = some o := fun b o n e => hs.extBut b o n e
  S.over (X := (· = C)) k (.refl _) (fun a o e => k a o (fun z => by rw [z, cu] at e; cases e) (S.sub a o e)) (fun _ _ e => .inl e) (fun z => cL z.symm) (fun _ z => z ▸ cO) (fun _ z => z ▸ ch)
theorem Stp.goes {b : Bool} {L : Addr} {F F1 : Fz} {oa oa1 : Option Addr} {h h1 h2 : Heap} {C : Addr} (st : Stp b L F oa h F1 oa1 h1) (hs : Heap.SameBut C h1 h2) (cs : h.get? C = none) : Stp b L F oa h F1 oa1 h2 :=
  st.over (X := (· = C)) (fun b o n e => hs.extBut b o n e) (.refl _) (fun _ _ e => .inl e) (fun _ z => z ▸ cs)
theorem ev_comp {x : String} {px pos : Pos} {elt iter : Expr} {scope : Scope} {cl : List (Str × Addr)} {c : Cx} {cels : List (String × AV)} {Q : AV → Cx → Prop} (ok : P.Ok)
    (hclos : closureFor scope P.env = pure cl) (hcell : ∀ y ∈ scope.names, y.2 ≠ .cell) (hkind : scope.kind = .function)
    (hnames : ∀ y ∈ scope.names, y.2 = .local → scope.names.lookup y.1 = some .local) (hx : scope.names.lookup (Str.ofString x) = some .local)
    (h : ItOk P iter c fun items c1 => ∃ ys : List AV, ys.length = items.length ∧ items.length ≤ 100000 ∧ (∀ y v, look y cels = some v → look y c1.cel = some v ∧ cl.lookup (Str.ofString y) = P.cl.lookup (Str.ofString y)) ∧
      (∀ (i : Nat) (v y : AV) (C : Addr), items[i]? = some v → ys[i]? = some y → (P.comp scope cl C).Ok → Ev (P.comp scope cl C) elt ⟨[(x, v)], cels, none⟩ fun a _ => a = y) ∧ Q (.list ys) c1)
    (hs : ∀ x, foldedSetIterable iter P.env x = pure x := by intro _; rfl) : Ev P (.ListComp elt [⟨.Name (Str.ofString x) px, iter, [], 0⟩] scope pos) c Q := by
  refine ⟨fun s F oa S => ?_⟩
  rw [eval_ListComp]
  exact comp_core (use := none) (R := Post false P s F oa (RV P) Q) (K := fun ys c1 => Q (.list ys) c1) ok S hclos hcell hkind hnames hx h hs fun D C m h3 tk3 F' oa1 c1 ys S3 st3 r hn cL cO cs ch cu q =>
    ⟨m, hn, fun h4 hs4 => Post.of (AV.list ys) (S3.goes hs4 cL cO ch cu) (st3.goes hs4 cs) r q⟩
/-- y = [elt for x in iter], y a local of a function and on the same row: the store stands before the inner names are let go -/
theorem ex_assignC {x y : String} {px py pos spos : Pos} {elt iter : Expr} {scope : Scope} {cl : List (Str × Addr)} {c : Cx} {cels : List (String × AV)} {Q : Fl → Cx → Prop} (ok : P.Ok)
    (hclos : closureFor scope P.env = pure cl) (hcell : ∀ y ∈ scope.names, y.2 ≠ .cell) (hkind : scope.kind = .function)
    (hnames : ∀ y ∈ scope.names, y.2 = .local → scope.names.lookup y.1 = some .local) (hx : scope.names.lookup (Str.ofString x) = some .local)
    (h : ItOk P iter c fun items c1 => ∃ ys : List AV, ys.length = items.length ∧ items.length ≤ 100000 ∧ (∀ y v, look y cels = some v → look y c1.cel = some v ∧ cl.lookup (Str.ofString y) = P.cl.lookup (Str.ofString y)) ∧
      (∀ (i : Nat) (v z : AV) (C : Addr), items[i]? = some v → ys[i]? = some z → (P.comp scope cl C).Ok → Ev (P.comp scope cl C) elt ⟨[(x, v)], cels, none⟩ fun a _ => a = z) ∧ Q .next (c1.put y (.list ys)))
    (hs : ∀ x, foldedSetIterable iter P.env x = pure x := by intro _; rfl) (hk : P.env.kindOf (Str.ofString y) = some .local := by rfl)
    (hsw : swapsWith (.ListComp elt [⟨.Name (Str.ofString x) px, iter, [], 0⟩] scope pos) (some (.Name (Str.ofString y) py)) spos.line P.env = pure true := by rfl) :
    Ex P (.Assign [.Name (Str.ofString y) py] (.ListComp elt [⟨.Name (Str.ofString x) px, iter, [], 0⟩] scope pos) spos) c Q := by
  refine ⟨fun s F oa S => ?_⟩
  rw [exec_Assign_Name_used _ _ _ _ hsw]
  refine wpAny_bind (wpAny_standAt (wpAny_bind ?_))
  show wpAny _ _ (do let _ ← comprehension (.ListComp elt [⟨.Name (Str.ofString x) px, iter, [], 0⟩] scope pos) scope P.env _ (newList []) false (eval iter P.env) (some (assign (.Name (Str.ofString y) py) P.env))) _ _ s
  refine wpAny_bind (wpAny_mono (comp_core (use := some (assign (.Name (Str.ofString y) py) P.env)) (R := fun _ s' => Post true P s F oa (RF P) Q .next s') (K := fun ys c1 => Q .next (c1.put y (.list ys))) ok S hclos hcell hkind hnames hx h hs fun D C m h3 tk3 F' oa1 c1 ys S3 st3 r hn cL cO cs ch cu q => ?_) (fun _ s' hq => wpAny_pure (wpAny_pure hq)) fun _ _ e => e)
  refine wpAny_assign_Name (wp_store (s := { s with heap := h3, toks := tk3 }) (v := .list ys) ok S3 (.inr r) hk fun h5 tk5 S5 st5 => ?_)
  exact ⟨m, hn.at' fun o e => (st5 false).kp _ o cL cO e, fun h6 hs6 => Post.of Fl.next (S5.goes hs6 cL cO ch cu) ((st3.up.trans (st5 true)).goes hs6 cs) rf_next q⟩
end
end Mine
end
section
open PySem PySem.W PyProof.Rows
set_option Elab.async false
set_option maxRecDepth 10000
set_option linter.unusedVariables false
namespace Mine
section
variable {P : Pl}
theorem seq_item {C : Addr} {F F' : Fz} {vs : List Value} {l : List AV} {i : Nat} {v : Value} (r : Reps C F vs l) (hi : i < l.length) (hv : vs.toArray[i]? = some v) (le : Le F F') : ∃ x, l[i]? = some x ∧ Rep C F' v x :=
  ex1 (get_of hi) fun x hx => ex1 (r.get hx) fun u hu => ⟨x, hx, Option.some.inj (hu.1.symm.trans ((List.getElem?_toArray ..).symm.trans hv)) ▸ hu.2.mono le⟩
/-- the items of a list, of a tuple: what both have in common -/
theorem it_seq {s : Shared} {F F1 : Fz} {oa oa1 : Option Addr} {c1 : Cx} {h1 : Heap} {tk1 : Nat} {la : Addr} {vs : List Value} {l : List AV} {Q : List AV → Cx → Prop} {o : Obj} {St : Nat → Heap → Prop} (hf : o.isFreed = false) (S1 : SR P c1 F1 oa1 h1) (st1 : Stp false P.L F oa s.heap F1 oa1 h1) (hlo : ∃ o, F1 la = some o) (r : Reps P.g.ringC F1 vs l)
    (W : Walks P.g.prog P.g.w P.A h1.objs.size [h1.objs.size, la] [h1.objs.size] vs.toArray.size (fun i v => vs.toArray[i]? = some v) St) (s0 : St 0 (h1.push o)) (ex : ∀ i h, St i h → (∃ o, h.get? h1.objs.size = some o) ∧ ∃ o, h.get? la = some o) (q : Q l c1) : ItPost P Q s F oa (.ref h1.objs.size) { s with heap := h1.push o, toks := tk1 } := by
  have k2 : ∀ b' o', h1.get? b' = some o' → (h1.push o).get? b' = some o' := fun b' o' e => Heap.get?_push_of_some _ e
  refine an3 (S1.free (get_size_none h1)) fun f1 f2 f3 => ?_
  have laL : P.L ≠ la := fun z => ex1 hlo fun _ e => ns S1.notL (z ▸ e)
  have lao : oa1 ≠ some la := fun z => ex1 hlo fun _ e => ns (S1.own_some z).2.1 e
  have hlen : vs.toArray.size = l.length := (List.size_toArray ..).trans r.len
  rw [hlen] at W
  exact ⟨_, _, _, _, _, l, rfl, S1.keeps k2, st1.trans (stp_keeps k2), ⟨h1.objs.size, [h1.objs.size, la], [h1.objs.size], _, St, rfl, W, s0, fun z => (List.mem_cons.mp z).elim (fun z => f3 z.symm) fun z => laL (List.mem_singleton.mp z), all2 f2 lao,
    fun b' hb => (List.mem_singleton.mp hb) ▸ ⟨f1, st1.dom _ (get_size_none h1)⟩, fun i h st => all2 (ex i h st).1 (ex i h st).2, fun i v hi hv F' le => seq_item r hi hv le⟩, q⟩
theorem it_list {e : Expr} {c : Cx} {Q : List AV → Cx → Prop} (ok : P.Ok) (h : Ev P e c fun a c1 => ∃ l, a = .list l ∧ Q l c1) : ItOk P e c Q := by
  intro s F oa S
  refine h.go S fun h1 tk1 F1 oa1 c1 a av S1 st1 ra q => ?_
  refine ex1 q fun l q => ra.listE q.1 fun la vs hI r => ?_
  have hL : Heap.IsList h1 la vs.toArray := hI.list S1.sub
  refine wpAny_pyIter_list (s := { s with heap := h1, toks := tk1 }) hL ?_
  refine ex1 hI fun lo hlo => ?_
  exact it_seq rfl S1 st1 ⟨lo, hlo.1⟩ r (Walks.list (prog := P.g.prog) (w := P.g.w) (A := P.A) ok.hand h1.objs.size la (Nat.ne_of_lt (Heap.lt_size (S1.sub _ _ hlo.1))) vs.toArray)
    ⟨⟨_, Heap.get?_push_size _ rfl, rfl, rfl⟩, hL.at fun o e => Heap.get?_push_of_some _ e⟩ (fun i h st => ⟨ex1 st.1 fun o e => ⟨o, e.1⟩, ex1 st.2 fun o e => ⟨o, e.1⟩⟩) q.2
theorem it_tup {e : Expr} {c : Cx} {Q : List AV → Cx → Prop} (ok : P.Ok) (h : Ev P e c fun a c1 => ∃ l, a = .tup l ∧ Q l c1) : ItOk P e c Q := by
  intro s F oa S
  refine h.go S fun h1 tk1 F1 oa1 c1 a av S1 st1 ra q => ?_
  refine ex1 q fun l q => ra.tupE q.1 fun la vs hI r => ?_
  refine ex1 hI fun lo hlo => ?_
  have hL : Heap.IsTuple h1 la vs.toArray := ex1 hlo.2.2 fun n d => ⟨lo, S1.sub _ _ hlo.1, hlo.2.1, n, d⟩
  refine wpAny_pyIter_tuple (s := { s with heap := h1, toks := tk1 }) hL ?_
  exact it_seq rfl S1 st1 ⟨lo, hlo.1⟩ r (Walks.tuple (prog := P.g.prog) (w := P.g.w) (A := P.A) ok.hand h1.objs.size la (Nat.ne_of_lt (Heap.lt_size (S1.sub _ _ hlo.1))) vs.toArray)
    ⟨⟨_, Heap.get?_push_size _ rfl, rfl, rfl⟩, hL.at fun o e => Heap.get?_push_of_some _ e⟩ (fun i h st => ⟨ex1 st.1 fun o e => ⟨o, e.1⟩, ex1 st.2 fun o e => ⟨o, e.1⟩⟩) q.2
/-- a name whose value lies in a cell -/
theorem ev_cell {x : String} {pos : Pos} {c : Cx} {v : AV} {Q : AV → Cx → Prop} (ok : P.Ok) (hx : look x c.cel = some v) (h : Q v c) (hk : P.env.kindOf (Str.ofString x) = some .cell := by rfl)
    (hd : (Str.ofString x == ("__debug__" : Str)) = false := by decide) : Ev P (.Name (Str.ofString x) pos) c Q := by
  refine ⟨fun s F oa S => ?_⟩
  refine ex3 (S.cel x v hx) fun ca u o e => an4 e fun e1 e2 e3 e4 => ?_
  exact wpAny_Name (wpAny_loadName_cell ok.kind hk e1 ⟨o, S.sub _ _ e2, e3⟩ (Post.now S e4 h)) hd
/-- a fresh list of what is written -/
theorem evn_list {pos : Pos} {es : List Expr} {c : Cx} {Q : List AV → Cx → Prop} (h : EvL P pos es c fun l c1 => l.length ≤ 1000 ∧ Q l c1) : EvN P (.List es pos) c Q := by
  intro s F oa S
  refine List_ (h.go S fun h1 tk1 F1 oa1 c1 a av S1 st1 ra q => ?_)
  refine wpAny_newList ?_ (fit_of ra q.1)
  have k : ∀ b o', h1.get? b = some o' → (h1.push { cls := .type "list", data := .seq a.toArray }).get? b = some o' := fun b o' e => Heap.get?_push_of_some _ e
  have f := S1.free (get_size_none h1)
  exact ⟨_, tk1, F1, oa1, c1, av, _, a, rfl, S1.keeps k, st1.trans (stp_keeps k), rfl, st1.dom _ (get_size_none _), f.1, f.2.1, ⟨0, Heap.get?_push_size _ rfl⟩, ra, q.2⟩
/-- the rest by a number of any sign but nought -/
theorem ev_modF {l r : Expr} {pos : Pos} {c : Cx} {Q : AV → Cx → Prop} (h : Ev P l c fun a c1 => Ev P r c1 fun b c2 => ∃ i j, a = .int i ∧ b = .int j ∧ j ≠ 0 ∧ Q (.int (i.fmod j)) c2) : Ev P (.BinOp l .Mod r pos) c Q := by
  exact ev_bin (h.mono fun _ _ h => h.mono fun _ _ h => ex2 h fun i j h => an4 h fun a b z1 q => ⟨i, j, _, a, b, bin_mod z1, q⟩)
end
end Mine
end
section
open PySem PySem.W PyProof.Rows
set_option Elab.async false
set_option maxRecDepth 10000
set_option linter.unusedVariables false
namespace Mine
/-! statements that open no new list -/
abbrev ExF (P : Pl) (st : Stmt) (c : Cx) (Q : Fl → Cx → Prop) : Prop := Tri false P (exec st P.env) (RF P) c Q
abbrev ExBF (P : Pl) (l : List Stmt) (c : Cx) (Q : Fl → Cx → Prop) : Prop := Tri false P (execs l P.env) (RF P) c Q
section
variable {P : Pl}
theorem exf_nil {c : Cx} {Q : Fl → Cx → Prop} (h : Q .next c) : ExBF P [] c Q := ⟨fun _ _ _ S => wpAny_execs_nil (Post.now S rf_next h)⟩
theorem exf_cons {st : Stmt} {r : List Stmt} {c : Cx} {Q : Fl → Cx → Prop} (h : ExF P st c (sq (fun c1 => ExBF P r c1 Q) Q)) : ExBF P (st :: r) c Q := by
  refine ⟨fun s F oa S => ?_⟩
  refine wpAny_execs_cons (h.go S fun h1 tk1 F1 oa1 c1 a av S1 st1 ra q => ?_)
  revert q
  refine RF.elim ra (fun q => ?_) (fun q => Post.of Fl.brk S1 st1 True.intro q) (fun q => Post.of Fl.cont S1 st1 True.intro q) fun v u ra q => Post.of (Fl.ret u) S1 st1 ra q
  exact Tri.on q S1 st1
theorem exf_return {e : Expr} {pos : Pos} {c : Cx} {Q : Fl → Cx → Prop} (h : Ev P e c fun v c1 => Q (.ret v) c1) : ExF P (.Return (some e) pos) c Q := by
  refine ⟨fun s F oa S => ?_⟩
  exact wpAny_Return_some (h.go S fun h1 tk1 F1 oa1 c1 a av S1 st1 ra q => Post.of (Fl.ret av) S1 st1 ra q)
theorem exf_if {t : Expr} {b o : List Stmt} {pos : Pos} {c : Cx} {Q : Fl → Cx → Prop} (h : Tr P t c fun k c1 => if k = true then ExBF P b c1 Q else ExBF P o c1 Q) : ExF P (.If t b o pos) c Q := by
  refine ⟨fun s F oa S => ?_⟩
  refine wpAny_If (h.go S fun h1 tk1 F1 oa1 c1 a av S1 st1 ra q => ?_)
  subst ra
  cases a with
  | true => exact Tri.on q S1 st1
  | false => exact Tri.on q S1 st1
theorem exf_setO {x : String} {p ps : Pos} {i e : Expr} {pos : Pos} {c : Cx} {Q : Fl → Cx → Prop} (ok : P.Ok)
    (h : Ev P e c fun v c1 => look x c1.loc = some .own ∧ Ev P i c1 fun b c2 => ∃ f l k, c2.own = some (f, l) ∧ b = .int k ∧ 0 ≤ k ∧ k < 2 ^ 63 ∧ k < l.length ∧ Q .next ((c2).setOwn false (l.set k.toNat v))) (hk : P.env.kindOf (Str.ofString x) = some .local := by rfl)
    (hd : (Str.ofString x == ("__debug__" : Str)) = false := by decide)
    (hs : swapsWith e (some (.Subscript (.Name (Str.ofString x) p) i ps)) pos.line P.env = pure false := by rfl) : ExF P (.Assign [.Subscript (.Name (Str.ofString x) p) i ps] e pos) c Q := by
  refine ⟨fun s F oa S => ?_⟩
  refine wpAny_Assign_Subscript (h.go S fun h0 tk0 F0 oa0 c0 v vv S0 st0 rv q0 => ?_) hs
  refine an2 q0 fun hx q0 => ?_
  refine ex2 (own_ref S0 hx) fun a m x => an3 x fun e1 fr hu => ?_
  refine wpAny_Name (wpAny_loadName_local (s := { s with heap := h0, toks := tk0 }) ok.kind hk fr.ns hu (q0.go (s := { s with heap := h0, toks := tk0 }) S0 fun h1 tk1 F1 oa1 c1 b bv S1 st1 rb q => ?_)) hd
  refine ex3 q fun f l k q => an6 q fun e3 e4 e5 e6 e7 q => ?_
  refine rb.intE e4 fun t => ?_
  have q2 := own_same S1 st1 e3 e1
  refine ex1 (own_at S1 e3 q2) fun vs f => ?_
  refine wpAny_setItem_list (s := { s with heap := h1, toks := tk1 }) f.1.1 e5 e6 (by rw [List.size_toArray, f.2.len]; exact e7) fun h2 hl2 hs2 => ?_
  refine an2 (S1.change q2 hs2 (b := false) (vs := vs.set k.toNat v) ⟨(List.setIfInBounds_toArray ..) ▸ hl2, fun z => nomatch z⟩ (f.2.setAt (rv.mono st1.le) k.toNat)) fun S2 st2 => ?_
  exact Post.of Fl.next S2 (st0.trans (st1.trans (st2 _))) rf_next q
end
def CallPostM (g : Gd) (s : Shared) (F : Fz) (a : Addr) (ow' : List AV) (r : AV) (v : Value) (s' : Shared) : Prop := ∃ h' tk' F' b' us', s' = { s with heap := h', toks := tk' } ∧ (∀ b o, b ≠ a → s.heap.get? b = some o → h'.get? b = some o) ∧ Le F F' ∧ (∀ a o, F' a = some o → h'.get? a = some o) ∧
      (∀ a o, F' a = some o → F a = some o ∨ s.heap.get? a = none) ∧ HoldsAt h' a b' us' ∧ Reps g.ringC F' us' ow' ∧ Rep g.ringC F' v r
/-- the contract of a def that changes the caller's open list, its first argument -/
structure OkM (g : Gd) (d : Nat) (f : Addr) (ow : List AV) (avs : List AV) (r : AV) (ow' : List AV) : Prop where
  run : ∀ (A : Around) (s : Shared) (F : Fz) (vs : List Value) (a : Addr) (b : Bool) (us : List Value) (h₀ : Heap), Bs g h₀ → h₀.objs.size ≤ s.heap.objs.size → (∀ b o, h₀.get? b = some o → s.heap.get? b = some o) → A.handled = none → A.depth + d < recursionLimit → A.units + 10 * d + 100 < cLine →
    (∀ a o, F a = some o → s.heap.get? a = some o) → Reps g.ringC F vs avs → F a = none → h₀.get? a = none → HoldsAt s.heap a b us → Reps g.ringC F us ow →
    wpAny (model g.prog g.w) A (call (.ref f) (.ref a :: vs)) (CallPostM g s F a ow' r) (fun _ _ => False) s

def retOwn (r : AV) (ow' : List AV) (fl : Fl) (c : Cx) : Prop := (∃ b, c.own = some (b, ow')) ∧ retIs r fl

theorem lookup_zipM {C a : Addr} {F : Fz} {n0 x : String} {names : List String} {vs : List Value} {avs : List AV} {v : AV} (R : Reps C F vs avs) (e : look x ((n0, .own) :: names.zip avs) = some v) :
    ∃ u, (((n0 :: names).map Str.ofString).zip (.ref a :: vs)).lookup (Str.ofString x) = some u ∧ RepO C F (some a) u v := by
  have e2 : (if x = n0 then some AV.own else look x (names.zip avs)) = some v := e
  clear e
  simp only [List.map_cons, List.zip_cons_cons, List.lookup_cons]
  by_cases z : x = n0
  · rw [if_pos z] at e2
    exact ⟨.ref a, by rw [z]; simp, .inl ⟨(Option.some.inj e2).symm, a, rfl, rfl⟩⟩
  · rw [if_neg z] at e2
    rw [show (Str.ofString x == Str.ofString n0) = false from beq_eq_false_iff_ne.mpr fun e => z (ofString_inj e)]
    exact ex1 (lookup_zip names vs x v avs R e2) fun u e => ⟨u, e.1, .inr e.2⟩
/-- a body that ends, seen from the call that lent it a list -/
theorem callM_done {P : Pl} {s : Shared} {F F' : Fz} {h₁ h' : Heap} {tk' : Nat} {c' : Cx} {oa' : Option Addr} {a : Addr} {ow' : List AV} {r : AV} {fl : Flow} {y : Fl} (hL : P.L = s.heap.objs.size) (kp : ∀ b o, s.heap.get? b = some o → h₁.get? b = some o)
    (S' : SR P c' F' oa' h') (st : Stp false P.L F (some a) h₁ F' oa' h') (rr : RF P F' fl y) (q : retOwn r ow' y c') {v : Value} (hv : fl = .next ∧ v = .none ∨ fl = .ret v) : CallPostM P.g s F a ow' r v { s with heap := h', toks := tk' } := by
  refine ex1 q.1 fun b hown => ?_
  have oa2 : oa' = some a := own_same S' st hown rfl
  have aF : F' a = none := (S'.own_some oa2).2.1
  refine ex1 (own_at S' hown oa2) fun us hu => ?_
  refine ⟨h', tk', F', b, us, rfl, fun b o n e => st.kp b o (hL ▸ Nat.ne_of_lt (Heap.lt_size e)) (fun z => n (Option.some.inj z).symm) (kp b o e), st.le, S'.sub, fun a' o e => (st.fresh a' o e).elim .inl fun z => z.elim (fun z => .inr (none_of fun o' w => ns z (kp a' o' w))) fun z => ns aF (Option.some.inj z ▸ e), hu.1, hu.2, ?_⟩
  have q := q.2
  revert q hv
  refine rr.elim (fun hv q => ?_) (fun _ q => q.elim) (fun _ q => q.elim) (fun v' u ra hv q => ?_)
  · exact hv.elim (fun z => z.2 ▸ (show r = .none from q) ▸ .none) nofun
  · exact hv.elim (fun z => nomatch z.1) fun z => Flow.ret.inj z ▸ (show u = r from q) ▸ ra
theorem okm_fn {g : Gd} {d : Nat} {f : Addr} {name qual : Str} {params : Arguments} {body : List Stmt} {scope : Scope} {dV kV doc pm cdv ct oc : Value} {an od : Option Addr} {osl : Array (Option Value)} {n0 : String} {names : List String} {avs ow ow' : List AV} {r : AV}
    (ho : g.K.lookup f = some ⟨oc, od, .func (fnOf name qual params body scope dV kV doc pm an cdv ct), osl⟩) (hcd : codeIn g.K cdv qual = true)
    (hbind : ∀ vs : List Value, vs.length = names.length + 1 → bindArgs (fnOf name qual params body scope dV kV doc pm an cdv ct) ⟨vs, []⟩ = pure (((n0 :: names).map Str.ofString).zip vs))
    (hnd : ((n0 :: names).map Str.ofString).Nodup) (hl : avs.length = names.length) (hloc : ∀ n ∈ n0 :: names, scope.names.lookup (Str.ofString n) = some .local) (hcell : ∀ x ∈ scope.names, x.2 ≠ .cell)
    (hco : scope.isCoroutine = false) (hgen : scope.isGenerator = false) (hk : scope.kind = .function)
    (h : ∀ (A : Around) (h₀ : Heap) (L : Addr) (b : Bool), let P : Pl := ⟨g, A, qual, scope, L, some f, cdv, [], h₀, d, some L⟩; P.Ok → ExBF P body ⟨(n0, .own) :: names.zip avs, [], some (b, ow)⟩ fun fl c => retOwn r ow' fl c) : OkM g (d + 1) f ow avs r ow' := by
  refine ⟨fun A s F vs a b us h₀ B hsz up hh hd hu sub R aF ah hold ru => ?_⟩
  have X := B.k.keeps up
  have hlen : vs.length = names.length := by rw [R.len, hl]
  have hnf : Str.ofString n0 ∉ names.map Str.ofString := (List.nodup_cons.mp hnd).1
  refine wpAny_call (codeAny_call_def (fd := fnOf name qual params body scope dV kV doc pm an cdv ct) (body := body) (binds := ((n0 :: names).map Str.ofString).zip (.ref a :: vs)) (by omega) (X _ _ ho) rfl (B.t.keeps up).nolimit (codeRec_of X hcd) rfl
    (BindsTo.of_eq (hbind (.ref a :: vs) (by rw [List.length_cons, hlen]))) hcell (fun x hx => ?_) (fun h₁ hns kp => ?_) hco hgen hk)
  · exact locals_of (names := n0 :: names) (vs := .ref a :: vs) hloc hx
  · have ok : Pl.Ok ⟨g, A.deeper (callEnv (fnOf name qual params body scope dV kV doc pm an cdv ct) s.heap.objs.size f), qual, scope, s.heap.objs.size, some f, cdv, [], h₀, d, some s.heap.objs.size⟩ := ⟨hk, hh, by show A.depth + 1 + d < _; omega, by show A.units + 3 + 10 * d + 100 < _; omega⟩
    rw [binds_rev (names := n0 :: names) (vs := .ref a :: vs) hnd (congrArg (· + 1) hlen)] at hns
    have hLa : a ≠ s.heap.objs.size := ex1 hold.some fun _ e => Nat.ne_of_lt (Heap.lt_size e)
    have FL : F s.heap.objs.size = none := none_of fun o q => Nat.lt_irrefl _ (Heap.lt_size (sub _ _ q))
    have S : SR ⟨g, A.deeper (callEnv (fnOf name qual params body scope dV kV doc pm an cdv ct) s.heap.objs.size f), qual, scope, s.heap.objs.size, some f, cdv, [], h₀, d, some s.heap.objs.size⟩ ⟨(n0, .own) :: names.zip avs, [], some (b, ow)⟩ F (some a) h₁ :=
      ⟨B, ⟨_, ⟨hns, fun b o e => kp _ _ (up b o e), hsz⟩, fun x v e => lookup_zipM R e⟩, nofun, fun a o e => kp _ _ (sub a o e), FL, .inr ⟨b, ow, a, rfl, rfl, aF, hLa, ah, us, hold.at_ (kp _), ru⟩⟩
    refine Tri.goE (h _ _ _ b ok) (s := { s with heap := h₁, toks := s.toks + (((n0 :: names).map Str.ofString).zip (.ref a :: vs)).length }) S fun h' tk' F' oa' c' fl y S' st rr q => ?_
    have done := fun v => @callM_done _ s F F' h₁ h' tk' c' oa' a ow' r fl y rfl kp S' st rr q v
    revert q done
    refine rr.elim (fun q done => ?_) (fun q _ => q.2.elim) (fun q _ => q.2.elim) (fun v' u ra q done => ?_)
    · exact done _ (.inl ⟨rfl, rfl⟩)
    · exact done _ (.inr rfl)
section
variable {P : Pl}
/-- a call that hands in the open list and one more argument -/
theorem ev_pour {x : String} {fx : Str} {f : Addr} {px fp pos : Pos} {e : Expr} {c : Cx} {Q : AV → Cx → Prop} (ok : P.Ok) (hf : nsIn P.g.K mainGlobals fx = some (some (.ref f))) (hkeep : keepIn P.g.K (.ref f) = true)
    (hx : look x c.loc = some .own)
    (h : Ev P e c fun v c1 => ∃ fl ow d r ow', c1.own = some (fl, ow) ∧ d ≤ P.d ∧ OkM P.g d f ow [v] r ow' ∧ ∀ b, Q r (c1.setOwn b ow'))
    (hk : P.env.kindOf fx = some .globalImplicit := by rfl) (hd : (fx == ("__debug__" : Str)) = false := by decide)
    (hkx : P.env.kindOf (Str.ofString x) = some .local := by rfl) (hdx : (Str.ofString x == ("__debug__" : Str)) = false := by decide)
    (he1 : starEach [.Name (Str.ofString x) px, e] P.env = (false, eval (.Name (Str.ofString x) px) P.env) :: starEach [e] P.env := by rfl) (he2 : starEach [e] P.env = (false, eval e P.env) :: starEach [] P.env := by rfl)
    (hplain : (backTo pos (starEach [e] P.env)).any (·.1) = false := by rfl)
    (hc : eval (.Call (.Name fx fp) [.Name (Str.ofString x) px, e] [] pos) P.env = (do callWith pos (← eval (.Name fx fp) P.env) [] (backTo pos (starEach [.Name (Str.ofString x) px, e] P.env)) (backToKw pos (keywordEach [] P.env))) := by rfl) :
    Ev P (.Call (.Name fx fp) [.Name (Str.ofString x) px, e] [] pos) c Q := by
  refine ⟨fun s F oa S => ?_⟩
  refine Call_ ((ev_global (Q := fun v c1 => v = .fn f ∧ c1 = c) ok hf ⟨rfl, rfl⟩ hk hd).go S fun h1 tk1 F1 oa1 c1 a av S1 st1 ra q => ?_) hc
  refine ra.fnE q.1 ?_
  have e2 := q.2
  subst e2
  refine ex2 (own_ref S1 hx) fun al m z => an3 z fun ea fr hu => ?_
  refine callWith_K (s := { s with heap := h1, toks := tk1 }) S1.bs.k hkeep (spliced_more (wpAny_Name (wpAny_loadName_local (s := { s with heap := h1, toks := tk1 }) ok.kind hkx fr.ns hu (spliced_more (h.go (s := { s with heap := h1, toks := tk1 }) S1 fun h2 tk2 F2 oa2 c2 b bv S2 st2 rb q => spliced_none ?_) he2)) hdx) he1) he1 hplain
  refine ex5 q fun fl ow d r ow' q => an4 q fun z1 hd' C q => ?_
  refine ⟨S2.bs.k, ?_⟩
  have eo := own_same S2 st2 z1 ea
  refine an4 (S2.own_some eo) fun eh e3 e4 e5 => ?_
  refine ex1 (own_at S2 z1 eo) fun us3 hu3 => ?_
  refine ex1 S2.fr fun m2 fr2 => ?_
  have hsz : P.h₀.objs.size ≤ h2.objs.size := ex1 S2.L_some fun o e => Nat.le_trans fr2.1.above (Nat.le_of_lt (Heap.lt_size e))
  refine wpAny_mono (C.run P.A { s with heap := h2, toks := tk2 } F2 [b] al fl us3 P.h₀ S2.base hsz fr2.1.keep ok.hand (by have := ok.room; omega) (by have := ok.units; omega) S2.sub (.cons rb .nil) e3 e5 hu3.1 hu3.2) (fun v s1 p => ?_) fun _ _ x => x
  refine ex5 p fun h' tk' F' b' us' p => an8 p fun e9 kp le sub fresh hold ru rr => ?_
  subst e9
  have a'F : F' al = none := none_of fun o w => (fresh _ _ w).elim (ns e3) fun z => ex1 eh fun _ e => ns z e
  have LL : F' P.L = none := none_of fun o w => (fresh _ _ w).elim (ns S2.notL) fun z => ex1 S2.L_some fun _ e => ns z e
  have S3 : SR P (c2.setOwn b' ow') F' (some al) h' :=
    ⟨S2.base, ⟨m2, ⟨fr2.1.ns.at' fun o e => kp _ o (Ne.symm e4) e, fun b o e => kp b o (fun z => ns (z ▸ e5) e) (fr2.1.keep b o e), fr2.1.above⟩, fun x v e => ex1 (fr2.2 x v e) fun u w => ⟨u, w.1, eo ▸ w.2.mono le⟩⟩,
      fun x v e => ex3 (S2.cel x v e) fun ca u o w => ⟨ca, u, o, w.1, le _ _ w.2.1, w.2.2.1, w.2.2.2.mono le⟩, sub, LL, .inr ⟨b', ow', al, rfl, rfl, a'F, e4, e5, us', hold, ru⟩⟩
  have dom3 : ∀ b, h'.get? b = none → h2.get? b = none := fun b e => (Classical.em (b = al)).elim (fun z => ex1 hold.some fun _ w => ns (z ▸ e) w) fun z => none_of fun o w => ns e (kp b o z w)
  have st3 : Stp false P.L F2 oa2 h2 F' (some al) h' :=
    ⟨le, fun b o _ n e => kp b o (fun z => n (eo.trans (congrArg some z.symm))) e, dom3, fun a o e => (fresh a o e).imp id .inl, .inl eo.symm⟩
  exact Post.of r S3 (st1.trans (st2.trans st3)) rr (q b')
end
end Mine
end
section
open PySem PySem.W PyProof.Rows
set_option Elab.async false
set_option maxRecDepth 10000
set_option linter.unusedVariables false
namespace Mine
theorem look_one {x y : String} {v w : AV} (e : look x [(y, v)] = some w) : x = y ∧ v = w := by
  have e2 : (if x = y then some v else none) = some w := e
  split at e2
  · exact ⟨‹_›, Option.some.inj e2⟩
  · cases e2
theorem bind2L {k : Str → Option NameKind} {a b : Str} {v w : Value} (ha : k a = some .local) (hb : k b = some .cell) : bindL k [(a, v), (b, w)] (fun _ => none) a = some v := by
  simp [bindL, ha, hb]
theorem bind2C {k : Str → Option NameKind} {a b : Str} {v w : Value} (ha : k a = some .local) (hb : k b = some .cell) : bindC k [(a, v), (b, w)] (fun _ => none) b = some w := by
  simp [bindC, ha, hb]
theorem inc_cell {s s₁ : Shared} {L : Addr} {mL mC : Str → Option Value} {y : Str} {a : Addr} {cells : List (Str × Addr)} (x : InCallC s L mL cells mC s₁) (hy : cells.lookup y = some a) :
    ∃ (h' : Heap) (tk : Nat) (co : Obj), s₁ = { s with heap := h', toks := tk } ∧ h'.Ns L mL ∧ (∀ b o, s.heap.get? b = some o → h'.get? b = some o) ∧ h'.get? a = some co ∧ co.data = .cell (mC y) := by
  obtain ⟨⟨⟨h1', tk1, rfl⟩, hns, kp, _⟩, hcell, _, _⟩ := x
  obtain ⟨co, hco1, hco2⟩ := hcell y a hy
  exact ⟨h1', tk1, co, rfl, hns, kp, hco1, hco2⟩
theorem lookup_self (x : Str) (a : Addr) : [(x, a)].lookup x = some a := by simp
theorem start_L {F : Fz} {L n : Nat} {co : Obj} (hL : L = n) (lF : F n = none) : upd F (n + 1) co L = none := by
  subst hL
  exact (if_neg (Nat.succ_ne_self _).symm).trans lF
theorem okc_start {P : Pl} {h h' : Heap} {n0 n1 : String} {a0 a1 : AV} {v0 v1 : Value} {F : Fz} {co : Obj} {m : Str → Option Value} (B : Bs P.g h) (hL : P.L = h.objs.size) (hcl : P.cl = [(Str.ofString n1, h.objs.size + 1)]) (h0 : P.h₀ = h) (sub : ∀ a o, F a = some o → h.get? a = some o) (r0 : Rep P.g.ringC F v0 a0) (r1 : Rep P.g.ringC F v1 a1)
    (hns : h'.Ns h.objs.size m) (kp : ∀ b o, h.get? b = some o → h'.get? b = some o) (hco : h'.get? (h.objs.size + 1) = some co) (hcd : co.data = .cell (some v1)) (hm : m (Str.ofString n0) = some v0) :
    h.get? (h.objs.size + 1) = none ∧ Le F (upd F (h.objs.size + 1) co) ∧ SR P ⟨[(n0, a0)], [(n1, a1)], none⟩ (upd F (h.objs.size + 1) co) none h' := by
  have cn := get_succ_none h
  have cF : F (h.objs.size + 1) = none := none_of fun o q => ns cn (sub _ _ q)
  have lF : F h.objs.size = none := none_of fun o q => ns (get_size_none h) (sub _ _ q)
  have le0 := le_upd (o := co) cF
  refine ⟨cn, le0, h0 ▸ B, ⟨m, ⟨hL ▸ hns, fun b o e => kp b o (h0 ▸ e), h0 ▸ hL ▸ Nat.le_refl _⟩, fun x v e => ?_⟩, fun x v e => ?_, fun a o e => (upd_some e).elim (fun z => z.1 ▸ z.2 ▸ hco) fun z => kp _ _ (sub a o z), start_L hL lF, .inl ⟨rfl, rfl⟩⟩
  · refine an2 (look_one e) fun w z => ?_
    exact ⟨v0, w ▸ hm, .inr (z ▸ r0.mono le0)⟩
  · refine an2 (look_one e) fun w z => ?_
    exact ⟨h.objs.size + 1, v1, co, by rw [hcl, w]; exact lookup_self _ _, if_pos rfl, hcd, z ▸ r1.mono le0⟩
theorem CallPost.less {g : Gd} {s : Shared} {F : Fz} {a : Addr} {o : Obj} {r : AV} {v : Value} {s' : Shared} (x : CallPost g s (upd F a o) r v s') (le : Le F (upd F a o)) (cn : s.heap.get? a = none) : CallPost g s F r v s' :=
  ex3 x fun h' tk' F' x => an6 x fun e k l sub fr rr => ⟨h', tk', F', e, k, le.trans l, sub, fun b q e => (fr b q e).elim (fun z => (upd_some z).elim (fun w => .inr (w.1 ▸ cn)) .inl) .inr, rr⟩
/-- the entry of a def of two parameters, of which the second lies in a cell -/
theorem okc_fn {g : Gd} {d : Nat} {f : Addr} {name qual : Str} {params : Arguments} {body : List Stmt} {scope : Scope} {dV kV doc pm cdv ct oc : Value} {an od : Option Addr} {osl : Array (Option Value)} {n0 n1 : String} {a0 a1 r : AV}
    (ho : g.K.lookup f = some ⟨oc, od, .func (fnOf name qual params body scope dV kV doc pm an cdv ct), osl⟩) (hcd : codeIn g.K cdv qual = true)
    (hbind : ∀ v w : Value, bindArgs (fnOf name qual params body scope dV kV doc pm an cdv ct) ⟨[v, w], []⟩ = pure [(Str.ofString n0, v), (Str.ofString n1, w)])
    (h0 : scope.names.lookup (Str.ofString n0) = some .local) (h1 : scope.names.lookup (Str.ofString n1) = some .cell) (hcl : ∀ n, cellsFrom n scope.names [] = [(Str.ofString n1, n)])
    (hco : scope.isCoroutine = false) (hgen : scope.isGenerator = false) (hk : scope.kind = .function)
    (h : ∀ (A : Around) (h₀ : Heap) (L : Addr), let P : Pl := ⟨g, A, qual, scope, L, some f, cdv, [(Str.ofString n1, L + 1)], h₀, d, some L⟩; P.Ok → ExB P body ⟨[(n0, a0)], [(n1, a1)], none⟩ fun fl _ => retIs r fl) : Ok g (d + 1) f [a0, a1] r := by
  refine ⟨fun A s F vs B hh hd hu sub R => ?_⟩
  refine R.two_ fun v0 v1 r0 r1 => ?_
  have X := B.k
  refine wpAny_call (codeAny_call_cells (fd := fnOf name qual params body scope dV kV doc pm an cdv ct) (body := body) (binds := [(Str.ofString n0, v0), (Str.ofString n1, v1)]) (by omega) (X _ _ ho) rfl B.t.nolimit (codeRec_of X hcd) rfl (hbind _ _) rfl (fun x hx => ?_) (fun s₁ hin => ?_) hco hgen hk)
  · refine (List.mem_cons.mp hx).elim (fun e => .inl (e ▸ h0)) fun hx => .inr ((List.mem_singleton.mp hx) ▸ ⟨h1, ?_⟩)
    show ((cellsFrom _ scope.names []).lookup _).isSome = true
    rw [hcl]; simp
  · have env : callEnvC (fnOf name qual params body scope dV kV doc pm an cdv ct) s.heap.objs.size f = Pl.env ⟨g, A, qual, scope, s.heap.objs.size, some f, cdv, [(Str.ofString n1, s.heap.objs.size + 1)], s.heap, d, some s.heap.objs.size⟩ := by
      show newEnv scope s.heap.objs.size _ (cellsFrom (s.heap.objs.size + 1) scope.names []) _ _ _ _ _ = _
      rw [hcl]
      rfl
    rw [env] at hin ⊢
    refine ex2 (inc_cell (y := Str.ofString n1) (a := s.heap.objs.size + 1) hin (lookup_self _ _)) fun h1' tk1 z => ex1 z fun co z => ?_
    have e1 := z.1
    subst e1
    have ok : Pl.Ok ⟨g, A.deeper (Pl.env ⟨g, A, qual, scope, s.heap.objs.size, some f, cdv, [(Str.ofString n1, s.heap.objs.size + 1)], s.heap, d, some s.heap.objs.size⟩), qual, scope, s.heap.objs.size, some f, cdv, [(Str.ofString n1, s.heap.objs.size + 1)], s.heap, d, some s.heap.objs.size⟩ := ⟨hk, hh, by show A.depth + 1 + d < _; omega, by show A.units + 3 + 10 * d + 100 < _; omega⟩
    refine an3 (okc_start (P := ⟨g, A.deeper (Pl.env ⟨g, A, qual, scope, s.heap.objs.size, some f, cdv, [(Str.ofString n1, s.heap.objs.size + 1)], s.heap, d, some s.heap.objs.size⟩), qual, scope, s.heap.objs.size, some f, cdv, [(Str.ofString n1, s.heap.objs.size + 1)], s.heap, d, some s.heap.objs.size⟩) (a0 := a0) (a1 := a1) B rfl rfl rfl sub r0 r1 z.2.1 z.2.2.1 z.2.2.2.1 (z.2.2.2.2.trans (congrArg Data.cell (bind2C (k := fun n => scope.names.lookup n) h0 h1))) (bind2L (k := fun n => scope.names.lookup n) h0 h1)) fun cn le0 S => ?_
    refine Tri.goE (h _ _ _ ok) (s := { s with heap := h1', toks := tk1 }) S fun h' tk' F' oa' c' fl y S' st rr q => ?_
    have done := fun v hv => (@call_done _ s _ F' h1' h' tk' c' oa' r fl y rfl z.2.2.1 S' st rr q v hv).less le0 cn
    revert q done
    refine rr.elim (fun q done => ?_) (fun q _ => q.elim) (fun q _ => q.elim) (fun v' u ra q done => ?_)
    · exact done _ (.inl ⟨rfl, rfl⟩)
    · exact done _ (.inr rfl)
end Mine
end
section
open PySem PySem.W PyProof.Rows
set_option Elab.async false
set_option maxRecDepth 10000
set_option linter.unusedVariables false
namespace Mine
section
variable {P : Pl}
def CompEInv (P : Pl) (s : Shared) (F : Fz) (oa : Option Addr) (c1 : Cx) (F1 : Fz) (oa1 : Option Addr) (it la : Addr) (vs : List Value) (D C : Addr) (ys : List AV) (n : Nat) (k : Nat) (s' : Shared) : Prop :=
  ∃ h2 tk2 F2 vs' m i old, s' = { s with heap := h2, toks := tk2 } ∧ IsEnum h2 (it + 1) it ((i : Nat) : Int) old ∧ h2.IsListIter it la i ∧ h2.IsList la vs.toArray ∧ SR P c1 F2 oa1 h2 ∧ Stp false P.L F oa s.heap F2 oa1 h2 ∧ Le F1 F2 ∧ h2.Ns C m ∧ h2.PlainList D (vs' : List Value).toArray ∧ Reps P.g.ringC F2 vs' (ys.take i) ∧ i ≤ n ∧ k = n + 1 - i ∧ ∀ b, CX D C [it, it + 1] b → F2 b = none
set_option maxHeartbeats 1600000 in
/-- a comprehension over enumerate -/
theorem ev_compE {xi xv : String} {pi pv pt fp pc pos : Pos} {x1 : Nat} {elt e : Expr} {scope : Scope} {cl : List (Str × Addr)} {c : Cx} {cels : List (String × AV)} {Q : AV → Cx → Prop} (ok : P.Ok)
    (hb : nsIn P.g.K mainGlobals (Str.ofString "enumerate") = some none) (hv : bootBuiltins (Str.ofString "enumerate") = some (.type "enumerate"))
    (hclos : closureFor scope P.env = pure cl) (hcell : ∀ y ∈ scope.names, y.2 ≠ .cell) (hkind : scope.kind = .function)
    (hnames : ∀ y ∈ scope.names, y.2 = .local → scope.names.lookup y.1 = some .local) (hxi : scope.names.lookup (Str.ofString xi) = some .local) (hxv : scope.names.lookup (Str.ofString xv) = some .local)
    (h : Ev P e c fun a c1 => ∃ items ys : List AV, a = .list items ∧ ys.length = items.length ∧ items.length ≤ 100000 ∧ (∀ y v, look y cels = some v → look y c1.cel = some v ∧ cl.lookup (Str.ofString y) = P.cl.lookup (Str.ofString y)) ∧
      (∀ (i : Nat) (v y : AV) (C : Addr), items[i]? = some v → ys[i]? = some y → (P.comp scope cl C).Ok → Ev (P.comp scope cl C) elt ((Cx.mk [] cels none).put xi (.int i) |>.put xv v) fun a _ => a = y) ∧ Q (.list ys) c1)
    (hk : P.env.kindOf (Str.ofString "enumerate") = some .globalImplicit := by rfl)
    (he : starEach [e] P.env = (false, eval e P.env) :: starEach [] P.env := by rfl)
    (hc : eval (.Call (.Name (Str.ofString "enumerate") fp) [e] [] pc) P.env = (do callWith pc (← eval (.Name (Str.ofString "enumerate") fp) P.env) [] (backTo pc (starEach [e] P.env)) (backToKw pc (keywordEach [] P.env))) := by rfl)
    (hs : ∀ x, foldedSetIterable (.Call (.Name (Str.ofString "enumerate") fp) [e] [] pc) P.env x = pure x := by intro _; rfl) :
    Ev P (.ListComp elt [⟨.Tuple [.Name (Str.ofString xi) pi, .Name (Str.ofString xv) pv] x1 pt, .Call (.Name (Str.ofString "enumerate") fp) [e] [] pc, [], 0⟩] scope pos) c Q := by
  refine ⟨fun s F oa S => ?_⟩
  rw [eval_ListComp]
  refine wpAny_comprehension_free (use := none) rfl hs hclos hkind hnames (Call_ (wp_builtin ok S hb hv (by decide) (callWith_type1 ?_ he rfl) hk (by decide)) hc)
  rw [he]
  refine Calls.spliced_cons (h.go S fun h1 tk1 F1 oa1 c1 a av S1 st1 ra q => spliced_none ?_)
  refine ex2 q fun items ys q => an6 q fun e1 hlen hmax hcels helt q => ?_
  clear h
  refine ra.listE e1 fun la vs hI r => ?_
  have hL : Heap.IsList h1 la vs.toArray := hI.list S1.sub
  refine call_enumerate_list (s := { s with heap := h1, toks := tk1 }) hL fun h2 hen hli hz k2 => ?_
  have hen : IsEnum h2 (h1.objs.size + 1) h1.objs.size 0 .none := hen
  have hli : h2.IsListIter h1.objs.size la 0 := hli
  have k2 : ∀ b o, h1.get? b = some o → h2.get? b = some o := k2
  refine wpAny_pyIter_enum (s := { s with heap := h2, toks := tk1 }) hen ?_
  have n0 : h1.get? h1.objs.size = none := get_size_none h1
  have n1 : h1.get? (h1.objs.size + 1) = none := get_succ_none h1
  refine ex1 hI fun lo hlo => ?_
  have llt : la < h1.objs.size := Heap.lt_size (S1.sub _ _ hlo.1)
  have an := S1.free n0
  have bn := S1.free n1
  have s0 := st1.dom _ n0
  have s1 := st1.dom _ n1
  have S2 := S1.keeps k2
  have st2 := st1.trans (stp_keeps k2)
  have hei : h1.objs.size + 1 ≠ h1.objs.size := Nat.succ_ne_self _
  have llt2 : la ≠ h1.objs.size := Nat.ne_of_lt llt
  have llt3 : la ≠ h1.objs.size + 1 := Nat.ne_of_lt (Nat.lt_succ_of_lt llt)
  have hl2 : h2.IsList la vs.toArray := hL.at fun o e => k2 _ _ e
  have hlr := r.len
  clear hz k2 llt hlo hI hL e1
  generalize hI' : h1.objs.size = it at hen hli n0 n1 llt2 llt3 hei an bn s0 s1 ⊢
  clear hI' n0 n1 S1 st1
  refine wpAny_newObj_type (wpAny_newFunctionEnv hcell (by intro y hy; simp at hy) (fun h₁ hns₁ hsb₁ => ?_) hkind)
  dsimp only at hns₁ hsb₁ ⊢
  refine an3 (comp_new hsb₁) fun k1 pl1 hC => ?_
  rw [hC] at hns₁ ⊢
  have d0 : h2.get? h2.objs.size = none := get_size_none h2
  have c0 : h2.get? (h2.objs.size + 1) = none := get_succ_none h2
  have hCL : P.h₀.objs.size ≤ h2.objs.size + 1 := ex1 S2.fr fun m fr => ex1 S2.L_some fun o e => Nat.le_trans fr.1.above (Nat.le_of_lt (Nat.lt_succ_of_lt (Heap.lt_size e)))
  have hDC : h2.objs.size ≠ h2.objs.size + 1 := (Nat.succ_ne_self _).symm
  have dn := S2.free d0
  have cn := S2.free c0
  have ds := st2.dom _ d0
  have cs := st2.dom _ c0
  have ne0 : ∀ a o, h2.get? a = some o → a ≠ h2.objs.size ∧ a ≠ h2.objs.size + 1 := fun a o e => ⟨fun z => ns (z ▸ d0) e, fun z => ns (z ▸ c0) e⟩
  have iN := ex1 hli fun o e => ne0 _ o e.1
  have eN := ne0 _ _ hen
  have lN := ex1 hl2 fun o e => ne0 _ o e.1
  clear hC hsb₁ ne0
  generalize hD : h2.objs.size = D at *
  generalize hCC : D + 1 = C at *
  have okc : (P.comp scope cl C).Ok := ⟨hkind, ok.hand, ok.room, ok.units⟩
  have X := comp_X (D := D) (C := C) (wr := [it, it + 1]) dn cn ds cs (all2 ⟨an.1, s0⟩ ⟨bn.1, s1⟩) (all2 ⟨an.2.1, an.2.2⟩ ⟨bn.2.1, bn.2.2⟩)
  have S1' : SR P c1 F1 oa1 h₁ := S2.keeps k1
  have st1' : Stp false P.L F oa s.heap F1 oa1 h₁ := st2.trans (stp_keeps k1)
  have hdm := S.h0_of
  have hen1 := k1 _ _ hen
  have hli1 : h₁.IsListIter it la 0 := hli.at fun o e => k1 _ o e
  have hl1 : h₁.IsList la vs.toArray := hl2.at fun o e => k1 _ o e
  clear d0 c0 hD hCC k1 S hli hl2 S2 st2 an bn s0 s1
  have loop : ∀ s₃ : Shared, s₃ = { s with heap := h₁, toks := tk1 + ([] : List (Str × Value)).length } →
      codeAny (model P.g.prog P.g.w) P.A (.compLoop (.ListComp elt [⟨.Tuple [.Name (Str.ofString xi) pi, .Name (Str.ofString xv) pv] x1 pt, .Call (.Name (Str.ofString "enumerate") fp) [e] [] pc, [], 0⟩] scope pos) 0 (.ref (it + 1)) (.ref D) (P.comp scope cl C).env)
        (compPost (model P.g.prog P.g.w) P.A (fun _ _ => False) none (Post false P s F oa (RV P) Q) (.ref D) C) s₃ := by
    intro s₃ e₃
    subst e₃
    refine LCp.codeAny_compLoop_pair (CompEInv P s F oa c1 F1 oa1 it la vs D C ys items.length) ?_
      (items.length + 1) ⟨h₁, _, F1, [], _, 0, .none, rfl, hen1, hli1, hl1, S1', st1', .refl _, hns₁, pl1, .nil, Nat.zero_le _, rfl, fun b z => (X b z).1⟩
    clear S1' st1' pl1 hns₁ hen1 hli1 hl1 hen
    intro k s' p
    refine ex7 p fun h2 tk2 F2 vs' m i old p => an13 p fun e1 hen2 hli2 hl2 S2 st2 le2 hn2 pl2 rs hi e2 xF => ?_
    subst e1 e2
    clear p
    have over := fun {F' h'} k le sub fresh => S2.over (F' := F') (h' := h') (X := CX D C [it, it + 1]) k le sub fresh (fun z => (X _ z).2.2.1 rfl) (fun b z => (X b z).2.1) fun b z => hdm b (X b z).2.2.2
    by_cases hlt : i < items.length
    · refine ex1 (get_of hlt) fun x hx => ex1 (r.get hx) fun v hv => ex1 (get_of (l := ys) (i := i) (hlen.symm ▸ hlt)) fun y hy => ?_
      refine wpAny_pyNext_enum_item (s := { s with heap := h2, toks := tk2 }) hen2 hli2 hl2 ((List.getElem?_toArray ..).trans hv.1) hei fun h3 heo hli3 ht3 hz3 k3 => ?_
      refine wpAny_letOwnedTupleGo_enum (s := { s with heap := h3, toks := tk2 + 1 }) heo fun h4 hen4 hs4 => ?_
      have hs4 : Heap.SameBut (it + 1) h3 h4 := hs4
      have ht4 : IsTup h4 h2.objs.size #[.int i tk2, v] := ⟨_, (hs4.2 _ (Nat.ne_of_gt (Heap.lt_size hen2))).trans ht3, rfl, _, rfl⟩
      refine assign_Tuple_tuple (s := { s with heap := h4, toks := tk2 + 1 }) ok.hand ht4 rfl rfl fun h5 hx5 => ?_
      have k45 := fun b' o' e => keeps_but hx5 b' o' e
      have k5 : ∀ b o, b ≠ it + 1 → b ≠ it → h2.get? b = some o → h5.get? b = some o := fun b o n1 n2 e => k45 _ _ ((hs4.2 b n1).trans (k3 b o n1 n2 e))
      have hen5 := k45 _ _ hen4
      have hli5 : h5.IsListIter it la (i + 1) := hli3.at fun o e => k45 _ _ ((hs4.2 _ (Ne.symm hei)).trans e)
      have hl5 : h5.IsList la vs.toArray := hl2.at fun o e => k5 _ o llt3 llt2 e
      have pl5 := pl2.at fun o e => k5 _ o (Ne.symm eN.1) (Ne.symm iN.1) e
      have hn5 := hn2.at' fun o e => k5 C o (Ne.symm eN.2) (Ne.symm iN.2) e
      have kX5 : ∀ b o, ¬ CX D C [it, it + 1] b → h2.get? b = some o → h5.get? b = some o := fun b o n e => k5 b o (fun z => n (.inr (.inr (z ▸ List.mem_cons_of_mem _ List.mem_cons_self)))) (fun z => n (.inr (.inr (z ▸ List.mem_cons_self)))) e
      clear k5 k45 hx5 ht4 hs4 hen4 k3 hz3 ht3 hli3 heo
      have S5 : SR P c1 F2 oa1 h5 := over kX5 (.refl _) (fun a o e => kX5 a o (fun z => ns (xF a z) e) (S2.sub a o e)) (fun a o e => .inl e)
      have S5c : SR (P.comp scope cl C) ⟨[], cels, none⟩ F2 none h5 :=
        ⟨S5.base, ⟨_, ⟨hn5, ex1 S5.fr fun m fr => fr.1.keep, hCL⟩, fun y' v' e => nomatch e⟩, fun y' v' e => ex3 (S5.cel _ _ (hcels y' v' e).1) fun ca u o z => ⟨ca, u, o, (hcels y' v' e).2.trans z.1, z.2⟩, S5.sub, xF _ (.inr (.inl rfl)), .inl ⟨rfl, rfl⟩⟩
      have hki : (P.comp scope cl C).env.kindOf (Str.ofString xi) = some .local := lookup_relabel_local hxi
      have hkv : (P.comp scope cl C).env.kindOf (Str.ofString xv) = some .local := lookup_relabel_local hxv
      refine wpAny_mono (Q := fun (_ : Unit) s4 => Wp (P.comp scope cl C) (eval elt (P.comp scope cl C).env) _ s4) (E := fun _ _ => False) ?_ (fun _ _ e => wpAny_mono e (fun _ _ e => e) fun _ _ e => e.elim) fun _ _ e => e.elim
      show Wp (P.comp scope cl C) (assignInOrder [assign (.Name (Str.ofString xi) pi) (P.comp scope cl C).env, assign (.Name (Str.ofString xv) pv) (P.comp scope cl C).env] [.int i tk2, v]) _ _
      refine assignInOrder_cons (wpAny_assign_Name (wp_store (P := P.comp scope cl C) (s := { s with heap := h5, toks := tk2 + 1 }) okc S5c (.inr .int) hki fun h6 tk6 S6 st6 => assignInOrder_cons (wpAny_assign_Name (wp_store (P := P.comp scope cl C) (s := { s with heap := h6, toks := tk6 }) okc S6 (.inr (hv.2.mono le2)) hkv fun h7 tk7 S7 st7 => assignInOrder_nil ?_))))
      have st57 := (st6 false).trans (st7 false)
      refine Tri.goE (helt i x y C hx hy okc) (s := { s with heap := h7, toks := tk7 }) S7 fun h8 tk8 F8 oa8 c8 a a' S8 st8 ra ea => ?_
      subst ea
      have st58 := st57.trans st8
      have k8 : ∀ b o, b ≠ C → h5.get? b = some o → h8.get? b = some o := fun b o n e => st58.kp b o n none_ne e
      have xs5 : ∀ b, CX D C [it, it + 1] b → ∃ o, h5.get? b = some o := fun b z => z.elim (fun z => ex1 pl5 fun _ e => ⟨_, z ▸ e⟩) fun z => z.elim (fun z => z ▸ S5c.L_some) (all2 (p := fun b => ∃ o, h5.get? b = some o) (ex1 hli5 fun o e => ⟨o, e.1⟩) ⟨_, hen5⟩ b)
      have xF8 : ∀ b, CX D C [it, it + 1] b → F8 b = none := fun b z => st58.no_fz none_ne (xF b z) (xs5 b z)
      refine wpAny_list_append_plain (hsz := comp_fit rs hi hmax) (pl5.at fun o e => k8 _ o hDC e) fun h9 pl9 hs9 => ?_
      have k29 : ∀ b o, ¬ CX D C [it, it + 1] b → h2.get? b = some o → h9.get? b = some o := fun b o n e => hs9.extBut b o (fun z => n (.inl z)) (k8 b o (fun z => n (.inr (.inl z))) (kX5 b o n e))
      have new2 : ∀ a o, F8 a = some o → F2 a = some o ∨ (h5.get? a = none ∧ h2.get? a = none) := fun a o e => (st58.fresh a o e).imp id fun z => z.elim (fun q => ⟨q, none_of fun o' w => ns (xF8 a (Classical.byContradiction fun n => ns q (kX5 a o' n w))) e⟩) fun z => absurd z none_ne
      have S9 : SR P c1 F8 oa1 h9 := over k29 st58.le (fun a o e => hs9.extBut a o (fun z => ns (xF8 _ (.inl z)) e) (S8.sub a o e)) (fun a o e => (new2 a o e).imp id fun q => ⟨(S5.free q.1).2.2, (S5.free q.1).2.1⟩)
      have st9 : Stp false P.L F oa s.heap F8 oa1 h9 := st2.over (X := CX D C [it, it + 1]) k29 st58.le (fun a o e => (new2 a o e).imp id fun q => st2.dom a q.2) fun b z => (X b z).2.2.2
      refine ex1 S8.fr fun m8 fr8 => ?_
      exact ⟨items.length + 1 - (i + 1), turn_lt hlt, h9, tk8, F8, vs' ++ [a], m8, i + 1, v, rfl, (Int.natCast_succ i) ▸ hs9.extBut _ _ eN.1 (k8 _ _ eN.2 hen5), hli5.at fun o e => hs9.extBut _ o iN.1 (k8 _ o iN.2 e), hl5.at fun o e => hs9.extBut _ o lN.1 (k8 _ o lN.2 e), S9, st9, le2.trans st58.le, fr8.1.ns.at' (fun o e => hs9.extBut C o (Ne.symm hDC) e), (List.push_toArray ..) ▸ pl9, comp_more hy (rs.mono st58.le) ra, hlt, rfl, xF8⟩
    · have e : i = items.length := Nat.le_antisymm hi (Nat.le_of_not_lt hlt)
      subst e
      refine wpAny_pyNext_enum_end (s := { s with heap := h2, toks := tk2 }) ok.hand hen2 hli2 hl2 ((List.getElem?_toArray ..).trans (List.getElem?_eq_none (Nat.le_of_eq hlr))) fun h3 k3 => ?_
      refine ⟨m, hn2.at' fun o e => k3 _ o (Ne.symm iN.2) e, fun h4 hs4 => ?_⟩
      have kX4 : ∀ b o, ¬ CX D C [it, it + 1] b → h2.get? b = some o → h4.get? b = some o := fun b o n e => hs4.extBut b o (fun z => n (.inr (.inl z))) (k3 b o (fun z => n (.inr (.inr (z ▸ List.mem_cons_self)))) e)
      refine ex1 pl2 fun n pe => ?_
      have pe4 := hs4.extBut D _ hDC (k3 D _ (Ne.symm iN.1) pe)
      have lf := le_upd (o := { cls := .type "list", data := .seq vs'.toArray n }) (xF D (.inl rfl))
      rw [List.take_of_length_le (Nat.le_of_eq hlen)] at rs
      have S4 : SR P c1 (upd F2 D { cls := .type "list", data := .seq vs'.toArray n }) oa1 h4 := over kX4 lf (fun a o e => (upd_some e).elim (fun z => z.1 ▸ z.2 ▸ pe4) fun z => kX4 a o (fun w => ns (xF a w) z) (S2.sub a o z)) (fun a o e => (upd_some e).elim (fun z => .inr (z.1 ▸ ⟨dn.2.2, dn.2.1⟩)) .inl)
      exact Post.of (AV.list ys) S4 (st2.over (X := CX D C [it, it + 1]) kX4 lf (fun a o e => (upd_some e).elim (fun z => .inr (z.1 ▸ ds)) .inl) fun b z => (X b z).2.2.2) (.list ⟨_, if_pos rfl, rfl, n, rfl⟩ (rs.mono lf)) q
  exact codeAny_compStart_list (loop _ rfl) (wpAny_pyIter_enum hen1 (loop _ rfl))
end
end Mine
end
section
open PySem PySem.W PyProof.Rows
set_option Elab.async false
set_option maxRecDepth 10000
set_option linter.unusedVariables false
namespace Mine
section
variable {P : Pl}
theorem sum_of {vs : List Value} {l : List Int} (hi : IntsAre vs l) {xs : Array (Int × Tok)} (ex : vs.toArray = intItems xs) : preSum (numAt xs) xs.size = l.sum := by
  rw [preSum_eq, List.take_of_length_le (by simp), ← nums_intItems, ← ex, ← hi.numsOf]
theorem ev_sum {x : Str} {fp pos : Pos} {e : Expr} {c : Cx} {Q : AV → Cx → Prop} (ok : P.Ok) (hx : nsIn P.g.K mainGlobals x = some none) (hv : bootBuiltins x = some (.builtin "sum")) (hn : x ≠ "__name__")
    (h : Ev P e c fun a c1 => ∃ l : List Int, a = avI l ∧ Q (.int l.sum) c1)
    (hk : P.env.kindOf x = some .globalImplicit := by rfl) (hd : (x == ("__debug__" : Str)) = false := by decide)
    (he : starEach [e] P.env = (false, eval e P.env) :: starEach [] P.env := by rfl) (hplain : (backTo pos (starEach [] P.env)).any (·.1) = false := by rfl)
    (hc : eval (.Call (.Name x fp) [e] [] pos) P.env = (do callWith pos (← eval (.Name x fp) P.env) [] (backTo pos (starEach [e] P.env)) (backToKw pos (keywordEach [] P.env))) := by rfl) : Ev P (.Call (.Name x fp) [e] [] pos) c Q := by
  refine ⟨fun s F oa S => ?_⟩
  refine Call_ (wp_builtin ok S hx hv hn ?_ hk hd) hc
  refine callWith_builtin1 ?_ he hplain
  refine spliced_more (h.go S fun h1 tk1 F1 oa1 c1 a av S1 st1 ra q => spliced_none ?_) he
  refine ex1 q fun l q => ra.listE q.1 fun la vs hI r => ?_
  have hi := Reps.ints r
  refine ex1 hi.allInts.items fun xs ex => ?_
  refine sum_intListG (s := { s with heap := h1, toks := tk1 }) ok.hand (ex ▸ hI.list S1.sub) fun h' tk t' k => ?_
  rw [sum_of hi ex]
  exact Post.of (AV.int l.sum) (S1.keeps k) (st1.trans (stp_keeps k)) .int q.2
theorem ev_int1 {x : Str} {fp pos : Pos} {e : Expr} {c : Cx} {Q : AV → Cx → Prop} (ok : P.Ok) (hx : nsIn P.g.K mainGlobals x = some none) (hv : bootBuiltins x = some (.type "int")) (hn : x ≠ "__name__")
    (h : Ev P e c fun a c1 => ∃ i, a = .int i ∧ Q (.int i) c1)
    (hk : P.env.kindOf x = some .globalImplicit := by rfl) (hd : (x == ("__debug__" : Str)) = false := by decide)
    (he : starEach [e] P.env = (false, eval e P.env) :: starEach [] P.env := by rfl) (hplain : (backTo pos (starEach [] P.env)).any (·.1) = false := by rfl)
    (hc : eval (.Call (.Name x fp) [e] [] pos) P.env = (do callWith pos (← eval (.Name x fp) P.env) [] (backTo pos (starEach [e] P.env)) (backToKw pos (keywordEach [] P.env))) := by rfl) : Ev P (.Call (.Name x fp) [e] [] pos) c Q := by
  refine ⟨fun s F oa S => ?_⟩
  refine Call_ (wp_builtin ok S hx hv hn ?_ hk hd) hc
  refine callWith_type1 ?_ he hplain
  refine spliced_more (h.go S fun h1 tk1 F1 oa1 c1 a av S1 st1 ra q => spliced_none ?_) he
  refine ex1 q fun i q => ra.intE q.1 fun t => ?_
  exact call_int_int (Post.of (AV.int i) S1 st1 .int q.2)
/-- a loop over the items of a tuple (or of what else it walks) -/
theorem ex_forT {x : String} {px pos : Pos} {iter : Expr} {body : List Stmt} {c : Cx} {Q : Fl → Cx → Prop} (ok : P.Ok)
    (h : Ev P iter c fun a c1 => ∃ items, a = .tup items ∧ ∃ I : Nat → Cx → Prop, I 0 c1 ∧ (∀ (i : Nat) v c2, items[i]? = some v → I i c2 → ExB P body (c2.put x v) (lq (I (i + 1)) Q)) ∧ ∀ c2, I items.length c2 → Q .next c2)
    (hk : P.env.kindOf (Str.ofString x) = some .local := by rfl) (hs : ∀ x, foldedSetIterable iter P.env x = pure x := by intro _; rfl) : Ex P (.For (.Name (Str.ofString x) px) iter body [] pos) c Q :=
  ex_for ok (it_tup ok h) hk hs
end
end Mine
end
section
open PySem PySem.W PyProof.Rows
set_option Elab.async false
set_option maxRecDepth 10000
set_option linter.unusedVariables false
namespace Mine
section
variable {P : Pl}
theorem look_two {x y z : String} {v w u : AV} (e : look z [(x, v), (y, w)] = some u) : (z = x ∧ v = u) ∨ (z = y ∧ w = u) := by
  have e2 : (if z = x then some v else if z = y then some w else none) = some u := e
  split at e2
  · exact .inl ⟨‹_›, Option.some.inj e2⟩
  · split at e2
    · exact .inr ⟨‹_›, Option.some.inj e2⟩
    · cases e2
theorem two_cells {c : Cx} {F : Fz} {oa : Option Addr} {h h' : Heap} {ca cb : Addr} {o5 o6 : Obj} {x y : String} {v1 v2 : AV} {u1 u2 : Value} (S : SR P c F oa h) (hca : P.cl.lookup (Str.ofString x) = some ca) (hcb : P.cl.lookup (Str.ofString y) = some cb) (hab : ca ≠ cb)
    (ha : P.h₀.get? ca = none) (hb : P.h₀.get? cb = none) (la : ca ≠ P.L) (lb : cb ≠ P.L) (fa : F ca = none) (fb : F cb = none) (oca : oa ≠ some ca) (ocb : oa ≠ some cb) (r1 : Rep P.g.ringC F u1 v1) (r2 : Rep P.g.ringC F u2 v2)
    (k : ∀ b o, b ≠ ca → b ≠ cb → h.get? b = some o → h'.get? b = some o) (g5 : h'.get? ca = some o5) (g6 : h'.get? cb = some o6) (d5 : o5.data = .cell (some u1)) (d6 : o6.data = .cell (some u2)) : SR P ⟨c.loc, [(x, v1), (y, v2)], c.own⟩ (upd (upd F ca o5) cb o6) oa h' := by
  have fb2 : upd F ca o5 cb = none := (if_neg (Ne.symm hab)).trans fb
  have le : Le F (upd (upd F ca o5) cb o6) := (le_upd fa).trans (le_upd fb2)
  have xx : ∀ {p : Addr → Prop}, p ca → p cb → ∀ b, b ∈ [ca, cb] → p b := fun p q => all2 p q
  have S6 : SR P c (upd (upd F ca o5) cb o6) oa h' := S.over (X := (· ∈ [ca, cb])) (fun b o n => k b o (fun z => n (z ▸ List.mem_cons_self)) fun z => n (z ▸ List.mem_cons_of_mem _ List.mem_cons_self)) le
    (fun a o e => (upd_some e).elim (fun z => z.1 ▸ z.2 ▸ g6) fun e => (upd_some e).elim (fun z => z.1 ▸ z.2 ▸ g5) fun e => k a o (fun z => ns (z ▸ fa) e) (fun z => ns (z ▸ fb) e) (S.sub a o e))
    (fun a o e => (upd_some e).elim (fun z => .inr (z.1 ▸ ⟨lb, ocb⟩)) fun e => (upd_some e).elim (fun z => .inr (z.1 ▸ ⟨la, oca⟩)) .inl)
    (fun w => xx (p := (· ≠ P.L)) la lb _ w rfl) (xx oca ocb) (xx (p := fun b => P.h₀.get? b = none) ha hb)
  refine ⟨S6.base, S6.fr, fun y' v' e => (look_two e).elim (fun z => ?_) fun z => ?_, S6.sub, S6.notL, S6.own⟩
  · exact ⟨ca, u1, o5, z.1 ▸ hca, (if_neg hab).trans (if_pos rfl), d5, z.2 ▸ r1.mono le⟩
  · exact ⟨cb, u2, o6, z.1 ▸ hcb, if_pos rfl, d6, z.2 ▸ r2.mono le⟩
/-- two cells, as yet empty, are stored -/
theorem cells2 {x y : String} {e : Expr} {k1 : Nat} {p1 p2 pt pos : Pos} {c : Cx} {K : AV → AV → Cx → Prop} {Q' : Flow → Shared → Prop} {s : Shared} {F : Fz} {oa : Option Addr} {ca cb : Addr} (ok : P.Ok) (S : SR P c F oa s.heap)
    (hca : P.cl.lookup (Str.ofString x) = some ca) (hcb : P.cl.lookup (Str.ofString y) = some cb) (hab : ca ≠ cb) (hxy : x ≠ y)
    (ua : ∃ o, s.heap.get? ca = some o ∧ o.data = .cell none) (ub : ∃ o, s.heap.get? cb = some o ∧ o.data = .cell none) (ha : P.h₀.get? ca = none) (hb : P.h₀.get? cb = none)
    (la : ca ≠ P.L) (lb : cb ≠ P.L) (fa : F ca = none) (fb : F cb = none) (oca : oa ≠ some ca) (ocb : oa ≠ some cb)
    (h : Ev P e c fun a c2 => ∃ v w, a = .tup [v, w] ∧ K v w c2)
    (k : ∀ v w c2 F' oa' h' tk', K v w c2 → SR P ⟨c2.loc, [(x, v), (y, w)], c2.own⟩ F' oa' h' → Q' .next { s with heap := h', toks := tk' })
    (hx : P.env.kindOf (Str.ofString x) = some .cell := by rfl) (hy : P.env.kindOf (Str.ofString y) = some .cell := by rfl)
    (hl : swapsWithSole [.Tuple [.Name (Str.ofString x) p1, .Name (Str.ofString y) p2] k1 pt] e pos.line P.env = pure false := by rfl)
    (hs : swappedStores [.Tuple [.Name (Str.ofString x) p1, .Name (Str.ofString y) p2] k1 pt] e P.env = pure none := by rfl) :
    Wp P (exec (.Assign [.Tuple [.Name (Str.ofString x) p1, .Name (Str.ofString y) p2] k1 pt] e pos) P.env) Q' s := by
  refine Assign_Tuple (h.go S fun h1 tk1 F1 oa1 c1 a av S1 st1 ra q => ?_) hl hs
  refine ex2 q fun v1 v2 q => ra.tupE q.1 fun t l hI r => ?_
  revert hI
  refine r.two_ fun u1 u2 r1 r2 hI => ?_
  refine ex1 ua fun oo1 ea => ex1 ub fun oo2 eb => ?_
  have oe1 := st1.no_own oca ⟨_, ea.1⟩
  have oe2 := st1.no_own ocb ⟨_, eb.1⟩
  have fa1 := st1.no_fz oca fa ⟨_, ea.1⟩
  have fb1 := st1.no_fz ocb fb ⟨_, eb.1⟩
  have ea1 := st1.kp _ _ la oca ea.1
  have eb1 := st1.kp _ _ lb ocb eb.1
  refine assign_Tuple_tuple (s := { s with heap := h1, toks := tk1 }) ok.hand (hI.tup S1.sub) rfl rfl fun h4 he => ?_
  have k4 := fun b' o' e => keeps_but he b' o' e
  show Wp P (assignInOrder [assign (.Name (Str.ofString x) p1) P.env, assign (.Name (Str.ofString y) p2) P.env] [u1, u2]) _ _
  refine assignInOrder_cons (wpAny_assign_Name (wpAny_storeName_cell (s := { s with heap := h4, toks := tk1 }) ok.kind hx hca ⟨_, k4 _ _ ea1, ea.2⟩ fun h5 hv5 hs5 => assignInOrder_cons (wpAny_assign_Name (wpAny_storeName_cell (s := { s with heap := h5, toks := tk1 }) ok.kind hy hcb ⟨_, (hs5.2 _ (Ne.symm hab)).trans (k4 _ _ eb1), eb.2⟩ fun h6 hv6 hs6 => assignInOrder_nil ?_))))
  refine ex1 hv5 fun o5 g5 => ex1 hv6 fun o6 g6 => ?_
  exact k v1 v2 c1 (upd (upd F1 ca o5) cb o6) oa1 h6 tk1 q.2 (two_cells S1 hca hcb hab ha hb la lb fa1 fb1 oe1 oe2 r1 r2 (fun b o n1 n2 e => (hs6.2 b n2).trans ((hs5.2 b n1).trans (k4 _ _ e))) ((hs6.2 _ hab).trans g5.1) g6.1 g5.2 g6.2)
end
end Mine
end
section
open PySem PySem.W PyProof.Rows
set_option Elab.async false
set_option maxRecDepth 10000
set_option linter.unusedVariables false
namespace Mine
section
variable {P : Pl}
theorem tr_ifE {t a b : Expr} {pos : Pos} {c : Cx} {Q : Bool → Cx → Prop} (h : Tr P t c fun k c1 => if k = true then Tr P a c1 Q else Tr P b c1 Q) : Tr P (.IfExp t a b pos) c Q := by
  refine ⟨fun s F oa S => ?_⟩
  show Wp P (isTrue t P.env (eval t P.env) >>= fun k => if k = true then isTrue a P.env (eval a P.env) else isTrue b P.env (eval b P.env)) _ _
  refine wpAny_bind (h.go S fun h1 tk1 F1 oa1 c1 x xv S1 st1 ra q => ?_)
  subst ra
  cases x with
  | true => exact Tri.on q S1 st1
  | false => exact Tri.on q S1 st1
/-- the end that the law wants -/
def LawEnd (P : Pl) (s : Shared) (fl : Flow) (s' : Shared) : Prop := fl = .ret (.bool true) ∧ ∃ h' tk', s' = { s with heap := h', toks := tk' } ∧ ∀ b o, P.h₀.get? b = some o → h'.get? b = some o
/-- the law's body: one statement, the two cells, the rest -/
theorem law_three {st1 : Stmt} {x y : String} {e : Expr} {k1 : Nat} {p1 p2 pt pos : Pos} {rest : List Stmt} {c : Cx} {s : Shared} {F : Fz} {ca cb : Addr} (ok : P.Ok) (S : SR P c F none s.heap)
    (hca : P.cl.lookup (Str.ofString x) = some ca) (hcb : P.cl.lookup (Str.ofString y) = some cb) (hab : ca ≠ cb) (hxy : x ≠ y)
    (ua : ∃ o, s.heap.get? ca = some o ∧ o.data = .cell none) (ub : ∃ o, s.heap.get? cb = some o ∧ o.data = .cell none) (ha : P.h₀.get? ca = none) (hb : P.h₀.get? cb = none)
    (la : ca ≠ P.L) (lb : cb ≠ P.L) (fa : F ca = none) (fb : F cb = none)
    (h : Ex P st1 c fun fl c1 => fl = .next ∧ Ev P e c1 fun a c2 => ∃ v w, a = .tup [v, w] ∧ ExB P rest ⟨c2.loc, [(x, v), (y, w)], c2.own⟩ fun fl _ => retIs (.bool true) fl)
    (hx : P.env.kindOf (Str.ofString x) = some .cell := by rfl) (hy : P.env.kindOf (Str.ofString y) = some .cell := by rfl)
    (hl : swapsWithSole [.Tuple [.Name (Str.ofString x) p1, .Name (Str.ofString y) p2] k1 pt] e pos.line P.env = pure false := by rfl)
    (hs : swappedStores [.Tuple [.Name (Str.ofString x) p1, .Name (Str.ofString y) p2] k1 pt] e P.env = pure none := by rfl) :
    Wp P (execs (st1 :: .Assign [.Tuple [.Name (Str.ofString x) p1, .Name (Str.ofString y) p2] k1 pt] e pos :: rest) P.env) (LawEnd P s) s := by
  refine wpAny_execs_cons (h.go S fun h1 tk1 F1 oa1 c1 a av S1 st1 ra q => ?_)
  revert q
  refine ra.elim (fun q => ?_) (fun q => nomatch q.1) (fun q => nomatch q.1) fun _ _ _ q => nomatch q.1
  refine ex1 ua fun o1 ea => ex1 ub fun o2 eb => ?_
  have ex1' : ∀ b o, b ≠ P.L → s.heap.get? b = some o → h1.get? b = some o := fun b o n e => st1.kp b o n none_ne e
  refine wpAny_execs_cons (cells2 (s := { s with heap := h1, toks := tk1 }) (K := fun v w c2 => ExB P rest ⟨c2.loc, [(x, v), (y, w)], c2.own⟩ fun fl _ => retIs (.bool true) fl) ok S1 hca hcb hab hxy ⟨o1, ex1' _ _ la ea.1, ea.2⟩ ⟨o2, ex1' _ _ lb eb.1, eb.2⟩ ha hb la lb (st1.no_fz none_ne fa ⟨_, ea.1⟩) (st1.no_fz none_ne fb ⟨_, eb.1⟩) (st1.no_own none_ne ⟨_, ea.1⟩) (st1.no_own none_ne ⟨_, eb.1⟩) q.2 (fun v w c2 F' oa' h' tk' hK S' => ?_) hx hy hl hs)
  refine hK.go (s := { s with heap := h', toks := tk' }) S' fun h3 tk3 F3 oa3 c3 fl flv S3 st3 rf r => ?_
  refine ex1 S3.fr fun m fr => ?_
  refine ⟨?_, h3, tk3, rfl, fr.1.keep⟩
  revert r
  exact rf.elim (fun r => nomatch (show AV.bool true = .none from r)) (fun r => r.elim) (fun r => r.elim) fun v u ra r => ra.boolE r rfl
end
/-- a run of the law's body -/
structure LawRun (g : Gd) (f : Addr) (script : List Int) : Prop where
  run : ∀ {name qual : Str} {params : Arguments} {body : List Stmt} {scope : Scope} {dV kV doc pm cdv ct oc : Value} {an od : Option Addr} {osl : Array (Option Value)},
    g.K.lookup f = some ⟨oc, od, .func (fnOf name qual params body scope dV kV doc pm an cdv ct), osl⟩ → ∀ (A : Around) (h₀ : Heap) (L : Addr) (s : Shared) (F : Fz), Pl.Ok ⟨g, A, qual, scope, L, some f, cdv, [(Str.ofString "w", L + 1 + 1), (Str.ofString "n", L + 1)], h₀, 10, some L⟩ →
    SR ⟨g, A, qual, scope, L, some f, cdv, [(Str.ofString "w", L + 1 + 1), (Str.ofString "n", L + 1)], h₀, 10, some L⟩ ⟨[("script", avI script)], [], none⟩ F none s.heap →
    (∃ o, s.heap.get? (L + 1) = some o ∧ o.data = .cell none) → (∃ o, s.heap.get? (L + 1 + 1) = some o ∧ o.data = .cell none) → h₀.get? (L + 1) = none → h₀.get? (L + 1 + 1) = none → F (L + 1) = none → F (L + 1 + 1) = none →
    Wp ⟨g, A, qual, scope, L, some f, cdv, [(Str.ofString "w", L + 1 + 1), (Str.ofString "n", L + 1)], h₀, 10, some L⟩ (execs body (Pl.env ⟨g, A, qual, scope, L, some f, cdv, [(Str.ofString "w", L + 1 + 1), (Str.ofString "n", L + 1)], h₀, 10, some L⟩))
      (LawEnd ⟨g, A, qual, scope, L, some f, cdv, [(Str.ofString "w", L + 1 + 1), (Str.ofString "n", L + 1)], h₀, 10, some L⟩ s) s
theorem lawrun_mk {g : Gd} {f : Addr} {script : List Int} {name qual : Str} {params : Arguments} {body : List Stmt} {scope : Scope} {dV kV doc pm cdv ct oc : Value} {an od : Option Addr} {osl : Array (Option Value)}
    (ho : g.K.lookup f = some ⟨oc, od, .func (fnOf name qual params body scope dV kV doc pm an cdv ct), osl⟩)
    (h : ∀ (A : Around) (h₀ : Heap) (L : Addr) (s : Shared) (F : Fz), let P : Pl := ⟨g, A, qual, scope, L, some f, cdv, [(Str.ofString "w", L + 1 + 1), (Str.ofString "n", L + 1)], h₀, 10, some L⟩; P.Ok →
      SR P ⟨[("script", avI script)], [], none⟩ F none s.heap →
      (∃ o, s.heap.get? (L + 1) = some o ∧ o.data = .cell none) → (∃ o, s.heap.get? (L + 1 + 1) = some o ∧ o.data = .cell none) → h₀.get? (L + 1) = none → h₀.get? (L + 1 + 1) = none → F (L + 1) = none → F (L + 1 + 1) = none →
      Wp P (execs body P.env)
        (LawEnd P s) s) : LawRun g f script := by
  refine ⟨fun e => ?_⟩
  rw [ho] at e
  simp only [Option.some.injEq, Obj.mk.injEq, Data.func.injEq, FuncData.mk.injEq, FuncBody.stmts.injEq] at e
  refine hide fun G kG => ?_; obtain ⟨_, _, ⟨_, rfl, _, rfl, rfl, _, _, _, _, _, _, _, rfl, _⟩, _⟩ := e; refine kG ?_; clear kG G
  exact h
end Mine
end
section
/-! the comprehension's rules stand in CalcB -/
end
section
open PySem PySem.W PyProof.Rows
set_option Elab.async false
set_option maxRecDepth 10000
namespace Mine
theorem look_hit {x : String} {c : Cx} {v : AV} : look x (c.put x v).loc = some v := by simp [Cx.put, look_put]
theorem look_miss {x y : String} {c : Cx} {v : AV} {r : Option AV} (h : x ≠ y) (k : look x c.loc = r) : look x (c.put y v).loc = r := by simp [Cx.put, look_put, h, k]
theorem look_own {x : String} {c : Cx} {b : Bool} {l : List AV} {r : Option AV} (k : look x c.loc = r) : look x (c.setOwn b l).loc = r := k
theorem look_zip0 {x : String} {v : AV} {xs : List String} {vs : List AV} {k : List (String × AV)} {o : Option (Bool × List AV)} : look x (Cx.mk (List.zip (x :: xs) (v :: vs)) k o).loc = some v := by simp [look]
theorem look_zipS {x y : String} {v : AV} {xs : List String} {vs : List AV} {k : List (String × AV)} {o : Option (Bool × List AV)} {r : Option AV} (h : x ≠ y) (q : look x (Cx.mk (List.zip xs vs) k o).loc = r) : look x (Cx.mk (List.zip (y :: xs) (v :: vs)) k o).loc = r := by
  rw [← q]; simp [look, h]
theorem vecS {n : Nat} {P : List Value → Prop} (h : ∀ a vs, vs.length = n → P (a :: vs)) (vs : List Value) (e : vs.length = n + 1) : P vs := by
  cases vs with
  | nil => cases e
  | cons a vs => exact h a vs (Nat.succ.inj e)
theorem vec0 {P : List Value → Prop} (h : P []) (vs : List Value) (e : vs.length = 0) : P vs := List.eq_nil_of_length_eq_zero e ▸ h
theorem vec1 {P : List Value → Prop} (h : ∀ a, P [a]) : ∀ vs : List Value, vs.length = 1 → P vs := vecS fun a => vec0 (P := fun l => P (a :: l)) (h a)
theorem vec2 {P : List Value → Prop} (h : ∀ a b, P [a, b]) : ∀ vs : List Value, vs.length = 2 → P vs := vecS fun a => vec1 (P := fun l => P (a :: l)) (h a)
theorem vec3 {P : List Value → Prop} (h : ∀ a b c, P [a, b, c]) : ∀ vs : List Value, vs.length = 3 → P vs := vecS fun a => vec2 (P := fun l => P (a :: l)) (h a)
theorem vec4 {P : List Value → Prop} (h : ∀ a b c d, P [a, b, c, d]) : ∀ vs : List Value, vs.length = 4 → P vs := vecS fun a => vec3 (P := fun l => P (a :: l)) (h a)
theorem vec5 {P : List Value → Prop} (h : ∀ a b c d e, P [a, b, c, d, e]) : ∀ vs : List Value, vs.length = 5 → P vs := vecS fun a => vec4 (P := fun l => P (a :: l)) (h a)
theorem vec6 {P : List Value → Prop} (h : ∀ a b c d e f, P [a, b, c, d, e, f]) : ∀ vs : List Value, vs.length = 6 → P vs := vecS fun a => vec5 (P := fun l => P (a :: l)) (h a)
theorem vec7 {P : List Value → Prop} (h : ∀ a b c d e f g, P [a, b, c, d, e, f, g]) : ∀ vs : List Value, vs.length = 7 → P vs := vecS fun a => vec6 (P := fun l => P (a :: l)) (h a)
/-! small arithmetic: a bound from a bound, by evaluation -/
theorem up_le {x a b : Nat} (h : x ≤ a) (k : Nat.ble a b = true) : x ≤ b := Nat.le_trans h (Nat.le_of_ble_eq_true k)
theorem up_lt {x a b : Nat} (h : x ≤ a) (k : Nat.ble (a + 1) b = true) : x < b := Nat.lt_of_lt_of_le (Nat.lt_succ_of_le h) (Nat.le_of_ble_eq_true k)
theorem lt_le {x a b : Nat} (h : x < a) (k : Nat.ble a b = true) : x ≤ b := Nat.le_trans (Nat.le_of_lt h) (Nat.le_of_ble_eq_true k)
theorem lt_lt {x a b : Nat} (h : x < a) (k : Nat.ble a b = true) : x < b := Nat.lt_of_lt_of_le h (Nat.le_of_ble_eq_true k)
theorem dn_le {x a b : Nat} (h : a ≤ x) (k : Nat.ble b a = true) : b ≤ x := Nat.le_trans (Nat.le_of_ble_eq_true k) h
theorem dn_lt {x a b : Nat} (h : a ≤ x) (k : Nat.ble (b + 1) a = true) : b < x := Nat.lt_of_lt_of_le (Nat.le_of_ble_eq_true k) h
theorem dn_ne {x a : Nat} (h : a ≤ x) (k : Nat.ble 1 a = true) : x ≠ 0 := Nat.ne_of_gt (dn_lt h k)
theorem iup_le {x a : Nat} {C : Int} (h : x ≤ a) (k : decide ((a : Int) ≤ C) = true) : (x : Int) ≤ C := Int.le_trans (Int.ofNat_le.mpr h) (of_decide_eq_true k)
theorem iup_lt {x a : Nat} {C : Int} (h : x ≤ a) (k : decide ((a : Int) < C) = true) : (x : Int) < C := Int.lt_of_le_of_lt (Int.ofNat_le.mpr h) (of_decide_eq_true k)
theorem idn_le {x a : Nat} {C : Int} (h : a ≤ x) (k : decide (C ≤ (a : Int)) = true) : C ≤ (x : Int) := Int.le_trans (of_decide_eq_true k) (Int.ofNat_le.mpr h)
theorem idn_lt {x a : Nat} {C : Int} (h : a ≤ x) (k : decide (C < (a : Int)) = true) : C < (x : Int) := Int.lt_of_lt_of_le (of_decide_eq_true k) (Int.ofNat_le.mpr h)
theorem ilt_le {x a : Nat} {C : Int} (h : x < a) (k : decide ((a : Int) ≤ C) = true) : (x : Int) ≤ C := Int.le_trans (Int.le_of_lt (Int.ofNat_lt.mpr h)) (of_decide_eq_true k)
theorem ilt_lt {x a : Nat} {C : Int} (h : x < a) (k : decide ((a : Int) ≤ C) = true) : (x : Int) < C := Int.lt_of_lt_of_le (Int.ofNat_lt.mpr h) (of_decide_eq_true k)
theorem ineg_le {x : Nat} {C : Int} (k : decide (C ≤ 0) = true) : C ≤ (x : Int) := Int.le_trans (of_decide_eq_true k) (Int.natCast_nonneg x)
theorem ineg_lt {x : Nat} {C : Int} (k : decide (C < 0) = true) : C < (x : Int) := Int.lt_of_lt_of_le (of_decide_eq_true k) (Int.natCast_nonneg x)
theorem gt_ne {x : Nat} (h : 0 < x) : x ≠ 0 := Nat.ne_of_gt h
theorem dn_neZ {x a : Nat} (h : a ≤ x) (k : Nat.ble 1 a = true) : ¬ x = 0 := dn_ne h k
end Mine
end
section
namespace Mine
section
variable {w : Nat}
theorem val_split {l : List Int} {k : Nat} (hk : k ≤ l.length) : val w l = val w (l.take k) + 2 ^ (w * k) * val w (l.drop k) := by
  have h := val_app (w := w) (l.take k) (l.drop k)
  rw [List.take_append_drop, List.length_take, Nat.min_eq_left hk] at h
  exact h
theorem drop_cons {l : List Int} {k : Nat} (hk : k < l.length) : l.drop k = l.getD k 0 :: l.drop (k + 1) := by
  rw [List.drop_eq_getElem_cons hk]; simp [List.getD, hk]
theorem len_lt_lt (hw : w ≠ 0) {a b : Nat} (h : (lim w a).length < (lim w b).length) : a < b := by
  have h1 := (lim_wf (w := w) a).val_lt
  rw [val_lim hw] at h1
  rcases lim_len_lo hw b with h2 | h2
  · rw [h2] at h; simp at h
  · have h3 : w * (lim w a).length ≤ w * ((lim w b).length - 1) := Nat.mul_le_mul_left _ (by omega)
    have h4 : (2 : Nat) ^ (w * (lim w a).length) ≤ 2 ^ (w * ((lim w b).length - 1)) := Nat.pow_le_pow_right (by decide) h3
    rw [← pwc] at h1 h2
    omega
theorem top_lt {l m : List Int} {k : Nat} (hl : Wf w l) (hm : Wf w m) (he : l.length = m.length) (hk : k < l.length) (hd : l.drop (k + 1) = m.drop (k + 1)) (h : l.getD k 0 < m.getD k 0) : val w l < val w m := by
  rw [val_split (w := w) (Nat.le_of_lt hk), val_split (w := w) (l := m) (k := k) (by omega), drop_cons hk, drop_cons (l := m) (k := k) (by omega), val_cons, val_cons, hd]
  have h1 := (hl.take k).val_lt
  have h2 := (hm.take k).val_nonneg
  rw [List.length_take, Nat.min_eq_left (Nat.le_of_lt hk)] at h1
  have h3 : (2 : Int) ^ (w * k) * (l.getD k 0 + 1) ≤ 2 ^ (w * k) * m.getD k 0 := Int.mul_le_mul_of_nonneg_left (by omega) (Int.le_of_lt (pow_pos' _))
  rw [Int.mul_add, Int.mul_one] at h3
  rw [Int.mul_add, Int.mul_add]
  omega
theorem even_lim (hw : 1 ≤ w) {n : Nat} (hn : n ≠ 0) : ((lim w n).getD 0 0) % 2 = ((n % 2 : Nat) : Int) := by
  rw [lim_pos hn (by omega)]
  simp only [List.getD_cons_zero]
  have : n % 2 ^ w % 2 = n % 2 := by
    have e : 2 ^ w = 2 * 2 ^ (w - 1) := by rw [← Nat.pow_succ']; congr 1; omega
    rw [e, Nat.mod_mul_right_mod]
  omega
theorem lim_len0 (hw : w ≠ 0) {n : Nat} : (lim w n).length = 0 ↔ n = 0 := by rw [List.length_eq_zero_iff, lim_nil_iff hw]
/-- a limb of a number -/
theorem limb_at (hw : w ≠ 0) : ∀ (n q : Nat), (lim w n).getD q 0 = ((n / 2 ^ (w * q) % 2 ^ w : Nat) : Int) := by
  intro n q
  induction q generalizing n with
  | zero =>
    by_cases hn : n = 0
    · subst hn; rw [lim_zero]; simp
    · rw [lim_pos hn hw]; simp
  | succ q ih =>
    by_cases hn : n = 0
    · subst hn; rw [lim_zero]; simp
    · rw [lim_pos hn hw, List.getD_cons_succ, ih, Nat.div_div_eq_div_mul, ← Nat.pow_add, Nat.mul_add, Nat.mul_one, Nat.add_comm w]
theorem val_set : ∀ (l : List Int) (k : Nat) (x : Int), k < l.length → val w (l.set k x) = val w l + 2 ^ (w * k) * (x - l.getD k 0)
  | [], _, _, h => absurd h (Nat.not_lt_zero _)
  | y :: r, 0, x, _ => by simp [val]; omega
  | y :: r, k + 1, x, h => by
    have ih := val_set r k x (by simpa using h)
    rw [List.set_cons_succ, val_cons, val_cons, ih, List.getD_cons_succ, pow_succ_mul, Int.mul_add, ← Int.mul_assoc, Int.mul_comm (2 ^ (w * k)) (2 ^ w)]
    omega
theorem Wf.set {l : List Int} {x : Int} (h : Wf w l) (k : Nat) (h0 : 0 ≤ x) (h1 : x < 2 ^ w) : Wf w (l.set k x) := fun y hy => by
  rcases List.mem_or_eq_of_mem_set hy with q | q
  · exact h y q
  · subst q; exact ⟨h0, h1⟩
theorem getD_set_ne {l : List Int} {k j : Nat} {x : Int} (h : k ≠ j) : (l.set k x).getD j 0 = l.getD j 0 := by
  simp [List.getD, List.getElem?_set_ne h]
theorem val_zeros : ∀ n : Nat, val w (List.replicate n 0) = 0
  | 0 => rfl
  | n + 1 => by rw [List.replicate_succ, val_cons, val_zeros n]; simp
theorem wf_zeros (n : Nat) : Wf w (List.replicate n 0) := fun x hx => by rw [(List.mem_replicate.mp hx).2]; exact ⟨Int.le_refl _, pw w⟩
theorem getD_rep (n k : Nat) : (List.replicate n (0 : Int)).getD k 0 = 0 := by
  by_cases h : k < n <;> simp [List.getD, h]
end
theorem own_int {c : Cx} {b : Bool} {f : List Int} {i : Int} {R : AV → Prop} (ho : c.own = some (b, f.map .int)) (h0 : 0 ≤ i) (h1 : i < f.length) (h2 : f.length ≤ 100000) (h : R (.int (f.getD i.toNat 0))) :
    ∃ (fl : Bool) (l : List AV) (k : Int) (y : AV), c.own = some (fl, l) ∧ (AV.int i) = .int k ∧ 0 ≤ k ∧ k < 2 ^ 63 ∧ l[k.toNat]? = some y ∧ R y := by
  refine ⟨b, _, i, _, ho, rfl, h0, by omega, ?_, h⟩
  rw [List.getElem?_map, List.getD_eq_getElem?_getD, List.getElem?_eq_getElem (by omega)]; rfl
theorem getD_len {l : List Int} : l.getD l.length 0 = 0 := by rw [List.getD_eq_getElem?_getD, List.getElem?_eq_none (Nat.le_refl _)]; rfl
theorem bitOr_comm {x y : Int} (hx : 0 ≤ x) (hy : 0 ≤ y) : PySem.Builtin.bitOr x y = PySem.Builtin.bitOr y x := by
  rw [← Int.toNat_of_nonneg hx, ← Int.toNat_of_nonneg hy, bitOr_nat, bitOr_nat, Nat.or_comm]
end Mine
end
section
namespace Mine
variable {w : Nat}
theorem log2_shift {x y k : Nat} (hx : x ≠ 0) (hy : y < 2 ^ k) : (y + 2 ^ k * x).log2 = k + x.log2 := by
  have h1 := Nat.log2_self_le hx
  have h2 := Nat.lt_log2_self (n := x)
  have h0 : y + 2 ^ k * x ≠ 0 := by
    have := Nat.mul_pos (Nat.two_pow_pos k) (Nat.pos_of_ne_zero hx); omega
  have h3 : (2 : Nat) ^ k * 2 ^ x.log2 ≤ 2 ^ k * x := Nat.mul_le_mul_left _ h1
  have h4 : (2 : Nat) ^ k * (x + 1) ≤ 2 ^ k * 2 ^ (x.log2 + 1) := Nat.mul_le_mul_left _ h2
  rw [← Nat.pow_add] at h3 h4
  rw [Nat.mul_add] at h4
  refine Nat.le_antisymm ?_ ?_
  · have := (Nat.log2_lt h0 (k := k + x.log2 + 1)).mpr (by rw [Nat.add_assoc]; omega)
    omega
  · exact (Nat.le_log2 h0).mpr (by omega)
theorem intBits_pos {x : Nat} (h : x ≠ 0) : PySem.Builtin.Int.intBits (x : Int) = x.log2 + 1 := by
  unfold PySem.Builtin.Int.intBits
  rw [if_neg (by simp [h])]; simp
theorem bits_lim (hw : w ≠ 0) {M : Nat} (h : M ≠ 0) : (((lim w M).length : Int) - 1) * w + PySem.Builtin.Int.intBits ((lim w M).getD ((lim w M).length - 1) 0) = ((M.log2 + 1 : Nat) : Int) := by
  have hl : (lim w M).length ≠ 0 := fun e => h ((lim_len0 hw).mp e)
  generalize hq : (lim w M).length - 1 = q
  have hlq : (lim w M).length = q + 1 := by omega
  have hlo : 2 ^ (w * q) ≤ M := by
    rcases lim_len_lo hw M with h1 | h1
    · rw [h1] at hl; simp at hl
    · rw [hq, ← pwc] at h1; omega
  have hhi : M < 2 ^ (w * (q + 1)) := by
    have := (lim_wf (w := w) M).val_lt
    rw [val_lim hw, hlq, ← pwc] at this; omega
  have ht : M / 2 ^ (w * q) ≠ 0 := Nat.ne_of_gt (Nat.div_pos hlo (Nat.two_pow_pos _))
  have hts : M / 2 ^ (w * q) < 2 ^ w := Nat.div_lt_of_lt_mul (by rw [← Nat.pow_add]; rw [Nat.mul_add, Nat.mul_one] at hhi; exact hhi)
  rw [limb_at hw, Nat.mod_eq_of_lt hts, intBits_pos ht, hlq]
  have hM : M = M % 2 ^ (w * q) + 2 ^ (w * q) * (M / 2 ^ (w * q)) := (Nat.mod_add_div _ _).symm
  have hg := log2_shift (k := w * q) ht (Nat.mod_lt M (Nat.two_pow_pos _))
  rw [← hM] at hg
  have e1 : (((q + 1 : Nat) : Int) - 1) = q := by omega
  rw [hg, e1]
  simp only [Int.natCast_add, Int.natCast_mul]
  rw [Int.mul_comm (w : Int)]
  omega
theorem bit_lim (hw : w ≠ 0) {M k : Nat} : ((M / 2 ^ (w * (k / w)) % 2 ^ w : Nat) : Int) / 2 ^ (k % w) % 2 = ((M / 2 ^ k % 2 : Nat) : Int) := by
  have h1 : k % w < w := Nat.mod_lt _ (by omega)
  have h2 : (M / 2 ^ (w * (k / w)) % 2 ^ w) / 2 ^ (k % w) % 2 = M / 2 ^ k % 2 := by
    have e : w = k % w + (w - k % w - 1 + 1) := by omega
    conv => lhs; lhs; lhs; rhs; rw [e]
    rw [Nat.pow_add, Nat.mod_mul_right_div_self, Nat.pow_succ, Nat.mod_mul_left_mod, Nat.div_div_eq_div_mul, ← Nat.pow_add, Nat.div_add_mod]
  rw [← pwc, ← Int.natCast_ediv, show (2 : Int) = ((2 : Nat) : Int) from rfl, ← Int.natCast_emod, h2]
theorem lim_10k {K k : Nat} (hw : w ≠ 0) (h : K < 2 ^ k) (hk : k ≤ 10000) : (lim w K).length ≤ 10000 := Nat.le_trans (lim_len_le hw h) hk
end Mine
end
section
namespace Mine
theorem lk_to {x : String} {l : List (String × AV)} {a b : AV} (h : look x l = some a) (e : a = b) : look x l = some b := e ▸ h
def rhalf (N X : Nat) : Nat := if X % 2 = 0 then X / 2 else (X + N) / 2
def dbl (N : Nat) (s : Nat × Nat × Nat) : Nat × Nat × Nat := (s.1 * s.2.1 % N, (s.2.1 * s.2.1 % N + N - (s.2.2 + s.2.2) % N) % N, s.2.2 * s.2.2 % N)
def nxt (N p d q : Nat) (s : Nat × Nat × Nat) : Nat × Nat × Nat := (rhalf N ((p * s.1 % N + s.2.1) % N), rhalf N ((d * s.1 % N + p * s.2.1 % N) % N), s.2.2 * q % N)
def lrow (N p d q m : Nat) : Nat → Nat × Nat × Nat
  | 0 => (1 % N, p, q)
  | i + 1 => if m / 2 ^ (m.log2 - 1 - i) % 2 = 1 then nxt N p d q (dbl N (lrow N p d q m i)) else dbl N (lrow N p d q m i)
theorem rhalf_lt {N X : Nat} (h : X < N) : rhalf N X < N := by
  unfold rhalf; split <;> omega
theorem dbl_lt {N : Nat} (h : 0 < N) (s : Nat × Nat × Nat) : (dbl N s).1 < N ∧ (dbl N s).2.1 < N ∧ (dbl N s).2.2 < N := ⟨Nat.mod_lt _ h, Nat.mod_lt _ h, Nat.mod_lt _ h⟩
theorem nxt_lt {N p d q : Nat} (h : 0 < N) (s : Nat × Nat × Nat) : (nxt N p d q s).1 < N ∧ (nxt N p d q s).2.1 < N ∧ (nxt N p d q s).2.2 < N := ⟨rhalf_lt (Nat.mod_lt _ h), rhalf_lt (Nat.mod_lt _ h), Nat.mod_lt _ h⟩
theorem lrow_lt {N p d q m : Nat} (hp : p < N) (hq : q < N) : ∀ i, (lrow N p d q m i).1 < N ∧ (lrow N p d q m i).2.1 < N ∧ (lrow N p d q m i).2.2 < N
  | 0 => ⟨Nat.mod_lt _ (by omega), hp, hq⟩
  | i + 1 => by
    rw [lrow]; split
    · exact nxt_lt (by omega) _
    · exact dbl_lt (by omega) _
end Mine
end
section
namespace Mine
/-- the sequence U over the integers -/
def lu (p q : Int) : Nat → Int
  | 0 => 0
  | 1 => 1
  | n + 2 => p * lu p q (n + 1) - q * lu p q n
theorem lu_bound {p q : Int} (hp : p.natAbs ≤ 9) (hq : q.natAbs ≤ 9) : ∀ n, (lu p q n).natAbs ≤ 18 ^ n ∧ (lu p q (n + 1)).natAbs ≤ 18 ^ (n + 1)
  | 0 => by simp [lu]
  | n + 1 => by
    obtain ⟨h1, h2⟩ := lu_bound hp hq n
    refine ⟨h2, ?_⟩
    rw [lu]
    have h3 : (p * lu p q (n + 1)).natAbs ≤ 9 * 18 ^ (n + 1) := by rw [Int.natAbs_mul]; exact Nat.mul_le_mul hp h2
    have h4 : (q * lu p q n).natAbs ≤ 9 * 18 ^ n := by rw [Int.natAbs_mul]; exact Nat.mul_le_mul hq h1
    rw [Nat.pow_succ] at h3 ⊢
    rw [Nat.pow_succ]
    generalize p * lu p q (n + 1) = a at *
    generalize q * lu p q n = b at *
    generalize (18 : Nat) ^ n = k at *
    omega
theorem lu_small {p q : Int} (hp : p.natAbs ≤ 9) (hq : q.natAbs ≤ 9) {n : Nat} (hn : n ≤ 20) : (lu p q n).natAbs < 2 ^ 90 :=
  Nat.lt_of_le_of_lt (Nat.le_trans (lu_bound hp hq n).1 (Nat.pow_le_pow_right (by decide) hn)) (by decide)
end Mine
end
section
namespace Mine
/-- U by rests -/
def um (N a b : Nat) : Nat → Nat
  | 0 => 0
  | 1 => 1
  | k + 2 => (a * um N a b (k + 1) % N + N - b * um N a b k % N) % N
theorem um_lt {N a b : Nat} (hN : 1 < N) : ∀ k, um N a b k < N
  | 0 => by rw [um]; omega
  | 1 => by rw [um]; omega
  | k + 2 => Nat.mod_lt _ (by omega)
/-- the first index from 1 on at which u is nought -/
def rkf (u : Nat → Nat) : Nat → Option Nat
  | 0 => none
  | m + 1 => match rkf u m with
    | some r => some r
    | none => if u (m + 1) = 0 then some (m + 1) else none
theorem rkf_up {u : Nat → Nat} {r : Nat} : ∀ {m n : Nat}, rkf u m = some r → m ≤ n → rkf u n = some r
  | m, 0, h, hn => by rw [show m = 0 by omega] at h; exact h
  | m, n + 1, h, hn => by
    rcases Nat.lt_or_ge n m with h1 | h1
    · rw [show n + 1 = m by omega]; exact h
    · rw [rkf, rkf_up h h1]
def rkv : Option Nat → AV
  | none => .none
  | some r => .int r
def lres (w N : Nat) (p q : Int) (m : Nat) : AV := .tup [avI (lim w (if m = 0 then 0 else (lrow N (p % N).toNat ((p * p - 4 * q) % N).toNat (q % N).toNat m m.log2).1)),
  avI (lim w (if m = 0 then 2 % N else (lrow N (p % N).toNat ((p * p - 4 * q) % N).toNat (q % N).toNat m m.log2).2.1)),
  avI (lim w (if m = 0 then 1 else (lrow N (p % N).toNat ((p * p - 4 * q) % N).toNat (q % N).toNat m m.log2).2.2))]
end Mine
end
section
namespace Mine
def jin : Nat → Nat → Nat → Int → Nat × Int
  | 0, a, _, s => (a, s)
  | f + 1, a, n, s => if a % 2 = 0 then jin f (a / 2) n (if n % 8 = 3 ∨ n % 8 = 5 then -s else s) else (a, s)
theorem jin_zero {n : Nat} : ∀ {f : Nat} {s : Int}, (jin f 0 n s).1 = 0
  | 0, _ => rfl
  | f + 1, s => by rw [jin, if_pos rfl]; exact jin_zero
def jout : Nat → Nat → Nat → Int → Int
  | 0, _, n, s => if n = 1 then s else 0
  | f + 1, a, n, s => if 0 < a then jout f (n % (jin a a n s).1) (jin a a n s).1 (if n % 4 = 3 ∧ (jin a a n s).1 % 4 = 3 then -(jin a a n s).2 else (jin a a n s).2) else if n = 1 then s else 0
theorem jout_zero {f n : Nat} {s : Int} : jout f 0 n s = if n = 1 then s else 0 := by cases f <;> simp [jout]
def jpl (a n : Nat) : Int := jout (a % n) (a % n) n 1
def jsm2 (d N : Nat) (s : Int) : Int :=
  if d = 0 then (if N = 1 then 1 else 0) else if 1 < d then (if d % 4 = 3 ∧ N % 4 = 3 then -s else s) * jpl (N % d) d else (if d % 4 = 3 ∧ N % 4 = 3 then -s else s)
def jsm (d : Int) (N : Nat) : Int :=
  jsm2 (jin d.natAbs d.natAbs N (if d < 0 then (if N % 4 = 3 then -1 else 1) else 1)).1 N (jin d.natAbs d.natAbs N (if d < 0 then (if N % 4 = 3 then -1 else 1) else 1)).2
theorem map35 (a b : Int) : AV.tup [.int a, .int b] = .tup ([a, b].map .int) := rfl
theorem any35 {k : Int} {A B : Prop} (h1 : k = 3 ∨ k = 5 → A) (h2 : ¬ (k = 3 ∨ k = 5) → B) : if ([(3 : Int), 5].any (· == k)) = true then A else B := by
  have e : ([(3 : Int), 5].any (· == k)) = true ↔ (k = 3 ∨ k = 5) := by
    simp only [List.any_cons, List.any_nil, Bool.or_false, Bool.or_eq_true, beq_iff_eq]; omega
  split
  · rename_i h; exact h1 (e.mp h)
  · rename_i h; exact h2 fun h3 => h (e.mpr h3)
end Mine
end
section
set_option maxRecDepth 100000
namespace Mine
def primes : List Nat := [3, 5, 7, 11, 13, 17, 19, 23]
/-- the squares, as the law lists them -/
def squares (N : Nat) : List Int := (List.range (N - 1)).map fun (i : Nat) => ((1 : Int) + i) * (1 + i) % N
def sgn (d : Int) (N : Nat) : Int := if d % N = 0 then 0 else if (squares N).any (· == d % N) then 1 else 0 - 1
def chkJ (N : Nat) : Bool := (List.range 154).all fun (k : Nat) => jsm ((k : Int) - 36) N == sgn ((k : Int) - 36) N
theorem chkJ_all : (primes.all chkJ) = true := by decide +kernel
def nx (N a b u v : Nat) : Nat := (a * v % N + N - b * u % N) % N
theorem um_nx {N a b k : Nat} : um N a b (k + 2) = nx N a b (um N a b k) (um N a b (k + 1)) := rfl
/-- the noughts from k on stand where r divides the index -/
def scan (N a b r : Nat) : Nat → Nat → Nat → Nat → Bool
  | 0, _, _, _ => true
  | f + 1, k, u, v => ((u == 0) == (k % r == 0)) && scan N a b r f (k + 1) v (nx N a b u v)
theorem scan_ok {N a b r : Nat} : ∀ {f k : Nat}, scan N a b r f k (um N a b k) (um N a b (k + 1)) = true → ∀ j, k ≤ j → j < k + f → (um N a b j = 0 ↔ j % r = 0)
  | 0, k, _, j, h1, h2 => by omega
  | f + 1, k, h, j, h1, h2 => by
    rw [scan, Bool.and_eq_true, ← um_nx] at h
    rcases Nat.eq_or_lt_of_le h1 with e | e
    · subst e
      have := beq_iff_eq.mp h.1
      rw [Bool.eq_iff_iff, beq_iff_eq, beq_iff_eq] at this
      exact this
    · exact scan_ok h.2 j (by omega) (by omega)
/-- the sign of a * a - 4 b over N, by squares of rests -/
def sgnR (a b N : Nat) : Int := sgn ((a : Int) * a - 4 * b) N
/-! the same look in few words, for the kernel: numbers alone, and the recursors by name -/
noncomputable def nxK (N a b u v : Nat) : Nat := Nat.mod (Nat.sub (Nat.add (Nat.mod (Nat.mul a v) N) N) (Nat.mod (Nat.mul b u) N)) N
noncomputable def eqv (x y : Bool) : Bool := @Bool.rec (fun _ => Bool) (@Bool.rec (fun _ => Bool) true false y) y x
noncomputable def scanK (N a b r f : Nat) : Nat → Nat → Nat → Bool := @Nat.rec (fun _ => Nat → Nat → Nat → Bool) (fun _ _ _ => true)
  (fun _ ih k u v => @Bool.rec (fun _ => Bool) false (ih (Nat.add k 1) v (nxK N a b u v)) (eqv (Nat.beq u 0) (Nat.beq (Nat.mod k r) 0))) f
noncomputable def fndK (N a b f : Nat) : Nat → Nat → Nat → Nat := @Nat.rec (fun _ => Nat → Nat → Nat → Nat) (fun k _ _ => k)
  (fun _ ih k u v => @Bool.rec (fun _ => Nat) (ih (Nat.add k 1) v (nxK N a b u v)) k (Nat.beq u 0)) f
noncomputable def allK (p : Nat → Bool) (n : Nat) : Bool := @Nat.rec (fun _ => Bool) true (fun i ih => @Bool.rec (fun _ => Bool) false ih (p i)) n
/-- no square of 1 .. n is x -/
noncomputable def noSq (N x n : Nat) : Bool := allK (fun i => eqv false (Nat.beq (Nat.mod (Nat.mul (Nat.add 1 i) (Nat.add 1 i)) N) x)) n
noncomputable def divK (m r : Nat) : Bool := @Bool.rec (fun _ => Bool) false (Nat.ble 2 r) (Nat.beq (Nat.mod m r) 0)
noncomputable def sgnK (N r x : Nat) : Bool := @Bool.rec (fun _ => Bool) (@Bool.rec (fun _ => Bool) (divK (Nat.sub N 1) r) (divK (Nat.add N 1) r) (noSq N x (Nat.sub N 1))) (Nat.beq r N) (Nat.beq x 0)
noncomputable def okK (N a b r : Nat) : Bool := @Bool.rec (fun _ => Bool) false (@Bool.rec (fun _ => Bool) false (@Bool.rec (fun _ => Bool) false (scanK N a b r (Nat.add (Nat.mul 3 N) 3) 0 0 1) (sgnK N r (Nat.mod (Nat.add (Nat.mul a a) (Nat.mul (Nat.mul 4 (Nat.sub N 1)) b)) N))) (Nat.ble r (Nat.add N 1))) (Nat.ble 1 r)
noncomputable def chkR (N : Nat) : Bool := allK (fun a => allK (fun b => @Bool.rec (fun _ => Bool) (okK N a b (fndK N a b (Nat.add N 1) 1 1 (nxK N a b 0 1))) true (Nat.beq b 0)) N) N
theorem chkR_3 : chkR 3 = true := by decide +kernel
theorem chkR_5 : chkR 5 = true := by decide +kernel
theorem chkR_7 : chkR 7 = true := by decide +kernel
theorem chkR_11 : chkR 11 = true := by decide +kernel
theorem chkR_13 : chkR 13 = true := by decide +kernel
theorem chkR_17 : chkR 17 = true := by decide +kernel
theorem chkR_19 : chkR 19 = true := by decide +kernel
theorem chkR_23 : chkR 23 = true := by decide +kernel
theorem chkR_all {N : Nat} (h : N ∈ primes) : chkR N = true := by
  simp only [primes, List.mem_cons, List.not_mem_nil, or_false] at h
  rcases h with rfl | rfl | rfl | rfl | rfl | rfl | rfl | rfl
  · exact chkR_3
  · exact chkR_5
  · exact chkR_7
  · exact chkR_11
  · exact chkR_13
  · exact chkR_17
  · exact chkR_19
  · exact chkR_23
theorem brec {x y : Bool} (h : @Bool.rec (fun _ => Bool) false y x = true) : x = true ∧ y = true := by
  cases x with
  | false => cases h
  | true => exact ⟨rfl, h⟩
theorem nbeq (x y : Nat) : Nat.beq x y = (x == y) := by rw [Bool.eq_iff_iff, Nat.beq_eq, beq_iff_eq]
theorem allK_at {p : Nat → Bool} : ∀ {n : Nat}, allK p n = true → ∀ i, i < n → p i = true
  | 0, _, _, h => absurd h (Nat.not_lt_zero _)
  | n + 1, e, i, h => by
    have e := brec (x := p n) (y := allK p n) e
    rcases Nat.lt_or_ge i n with q | q
    · exact allK_at e.2 i q
    · rw [Nat.le_antisymm (Nat.le_of_lt_succ h) q]; exact e.1
theorem eqv_eq (x y : Bool) : eqv x y = (x == y) := by cases x <;> cases y <;> rfl
theorem scanK_eq (N a b r : Nat) : ∀ f k u v, scanK N a b r f k u v = scan N a b r f k u v
  | 0, _, _, _ => rfl
  | f + 1, k, u, v => by
    rw [scan, ← scanK_eq N a b r f (k + 1) v (nx N a b u v)]
    show @Bool.rec (fun _ => Bool) false (scanK N a b r f (k + 1) v (nx N a b u v)) (eqv (Nat.beq u 0) (Nat.beq (k % r) 0)) = _
    rw [eqv_eq, nbeq, nbeq]
    cases ((u == 0) == (k % r == 0)) <;> rfl
theorem divK_at {m r : Nat} (h : divK m r = true) : m % r = 0 ∧ 2 ≤ r := by
  have h := brec (x := Nat.beq (Nat.mod m r) 0) (y := Nat.ble 2 r) h
  exact ⟨Nat.eq_of_beq_eq_true h.1, Nat.le_of_ble_eq_true h.2⟩
theorem sgn_rest {a b N : Nat} (hN : 1 ≤ N) : ((a : Int) * a - 4 * b) % N = (((a * a + 4 * (N - 1) * b) % N : Nat) : Int) := by
  obtain ⟨M, rfl⟩ : ∃ M, N = M + 1 := ⟨N - 1, by omega⟩
  have e : ((a * a + 4 * (M + 1 - 1) * b : Nat) : Int) = ((a : Int) * a - 4 * b) + ((M + 1 : Nat) : Int) * (4 * b) := by
    rw [Nat.add_sub_cancel]; push_cast; grind
  rw [Int.natCast_emod, e, Int.add_mul_emod_self_left]
theorem squares_any {N x : Nat} : (squares N).any (· == (x : Int)) = true ↔ ∃ i, i < N - 1 ∧ (1 + i) * (1 + i) % N = x := by
  unfold squares
  simp only [List.any_map, List.any_eq_true, List.mem_range, Function.comp, beq_iff_eq]
  exact ⟨fun ⟨i, h, e⟩ => ⟨i, h, by exact_mod_cast e⟩, fun ⟨i, h, e⟩ => ⟨i, h, by exact_mod_cast e⟩⟩
theorem noSq_at {N x n : Nat} : (noSq N x n = true → ∀ i, i < n → (1 + i) * (1 + i) % N ≠ x) ∧ (noSq N x n = false → ∃ i, i < n ∧ (1 + i) * (1 + i) % N = x) := by
  refine ⟨fun h i hi e => ?_, fun h => ?_⟩
  · have := allK_at h i hi
    rw [eqv_eq, show Nat.beq (Nat.mod (Nat.mul (Nat.add 1 i) (Nat.add 1 i)) N) x = true from Nat.beq_eq.mpr e] at this
    cases this
  · induction n with
    | zero => cases h
    | succ n ih =>
      cases q : Nat.beq (Nat.mod (Nat.mul (Nat.add 1 n) (Nat.add 1 n)) N) x with
      | true => exact ⟨n, Nat.lt_succ_self _, Nat.eq_of_beq_eq_true q⟩
      | false =>
        have h : @Bool.rec (fun _ => Bool) false (noSq N x n) (eqv false (Nat.beq (Nat.mod (Nat.mul (Nat.add 1 n) (Nat.add 1 n)) N) x)) = false := h
        rw [q] at h
        obtain ⟨i, h1, h2⟩ := ih h
        exact ⟨i, Nat.lt_succ_of_lt h1, h2⟩
theorem sgnK_at {N r a b : Nat} (hN : 1 ≤ N) (h : sgnK N r ((a * a + 4 * (N - 1) * b) % N) = true) : (sgnR a b N = 0 → r = N) ∧ (sgnR a b N ≠ 0 → ((N : Int) - sgnR a b N) % (r : Int) = 0 ∧ 2 ≤ r) := by
  have e := sgn_rest (a := a) (b := b) hN
  unfold sgnR sgn
  rw [e]
  generalize (a * a + 4 * (N - 1) * b) % N = x at h
  unfold sgnK at h
  cases q : Nat.beq x 0 with
  | true =>
    rw [q] at h
    have hx : (x : Int) = 0 := by exact_mod_cast Nat.eq_of_beq_eq_true q
    rw [if_pos hx]
    exact ⟨fun _ => Nat.eq_of_beq_eq_true h, fun z => absurd rfl z⟩
  | false =>
    rw [q] at h
    have hx : ¬ (x : Int) = 0 := fun z => Nat.ne_of_beq_eq_false q (by exact_mod_cast z)
    rw [if_neg hx]
    cases w : noSq N x (Nat.sub N 1) with
    | true =>
      rw [w] at h
      have h := divK_at (m := N + 1) h
      rw [if_neg fun z => by obtain ⟨i, z1, z2⟩ := squares_any.mp z; exact noSq_at.1 w i z1 z2]
      refine ⟨fun z => absurd z (by decide), fun _ => ⟨?_, h.2⟩⟩
      have : ((N : Int) - (0 - 1)) = ((N + 1 : Nat) : Int) := by push_cast; omega
      rw [this]; exact_mod_cast h.1
    | false =>
      rw [w] at h
      have h := divK_at (m := N - 1) h
      rw [if_pos (squares_any.mpr (noSq_at.2 w))]
      refine ⟨fun z => absurd z (by decide), fun _ => ⟨?_, h.2⟩⟩
      have : ((N : Int) - 1) = ((N - 1 : Nat) : Int) := by omega
      rw [this]; exact_mod_cast h.1
theorem rkf_none {u : Nat → Nat} {r : Nat} (h : ∀ k, 1 ≤ k → k < r → u k ≠ 0) : ∀ m, m < r → rkf u m = none
  | 0, _ => rfl
  | m + 1, hm => by rw [rkf, rkf_none h m (by omega)]; simp [h (m + 1) (by omega) hm]
theorem rkf_some {u : Nat → Nat} {r : Nat} (hr : 1 ≤ r) (h : ∀ k, 1 ≤ k → k < r → u k ≠ 0) (h0 : u r = 0) {m : Nat} (hm : r ≤ m) : rkf u m = some r := by
  have h1 : rkf u r = some r := by
    obtain ⟨r, rfl⟩ : ∃ r', r = r' + 1 := ⟨r - 1, by omega⟩
    rw [rkf, rkf_none h r (by omega)]; simp [h0]
  exact rkf_up h1 hm
/-- all that the law asks of the rank, over rests a, b -/
theorem rank_facts {N a b : Nat} (hN : N ∈ primes) (ha : a < N) (hb : b < N) (hb0 : b ≠ 0) : ∃ r, 1 ≤ r ∧ r ≤ N + 1 ∧ rkf (um N a b) (N + 1) = some r ∧ rkf (um N a b) (r - 1) = none ∧ (sgnR a b N = 0 → r = N) ∧ (sgnR a b N ≠ 0 → ((N : Int) - sgnR a b N) % (r : Int) = 0 ∧ 2 ≤ r) ∧
    ∀ j, j < 3 * N + 3 → (um N a b j = 0 ↔ j % r = 0) := by
  have h3 := allK_at (allK_at (chkR_all hN) a ha) b hb
  rw [show Nat.beq b 0 = false by cases b with | zero => exact absurd rfl hb0 | succ _ => rfl] at h3
  have h3 : okK N a b (fndK N a b (N + 1) 1 1 (nxK N a b 0 1)) = true := h3
  generalize fndK N a b (N + 1) 1 1 (nxK N a b 0 1) = r at h3
  have h4 := brec (x := Nat.ble 1 r) h3
  have h5 := brec (x := Nat.ble r (N + 1)) h4.2
  have h6 := brec (x := sgnK N r ((a * a + 4 * (N - 1) * b) % N)) h5.2
  have h7 : scan N a b r (3 * N + 3) 0 0 1 = true := (scanK_eq ..).symm.trans h6.2
  have h4 : 1 ≤ r := Nat.le_of_ble_eq_true h4.1
  have h5 : r ≤ N + 1 := Nat.le_of_ble_eq_true h5.1
  have h6 := sgnK_at (Nat.lt_of_le_of_lt (Nat.zero_le a) ha) h6.1
  have sc := scan_ok (k := 0) h7
  have hz : ∀ j, j < 3 * N + 3 → (um N a b j = 0 ↔ j % r = 0) := fun j hj => sc j (Nat.zero_le _) (by omega)
  have hnz : ∀ k, 1 ≤ k → k < r → um N a b k ≠ 0 := fun k k1 k2 e => by
    have := (hz k (by omega)).mp e
    rw [Nat.mod_eq_of_lt k2] at this; omega
  have hr0 : um N a b r = 0 := (hz r (by omega)).mpr (Nat.mod_self r)
  refine ⟨r, h4, h5, rkf_some h4 hnz hr0 h5, rkf_none hnz _ (by omega), h6.1, h6.2, hz⟩
end Mine
end
section
namespace Mine
def lv (p q : Int) (k : Nat) : Int := 2 * lu p q (k + 1) - p * lu p q k
theorem lu_two (p q : Int) (k : Nat) : lu p q (k + 2) = p * lu p q (k + 1) - q * lu p q k := rfl
theorem lu_next (p q : Int) (k : Nat) : 2 * lu p q (k + 1) = p * lu p q k + lv p q k := by unfold lv; omega
theorem lv_next (p q : Int) (k : Nat) : 2 * lv p q (k + 1) = (p * p - 4 * q) * lu p q k + p * lv p q k := by
  unfold lv; rw [lu_two]; grind
theorem add_form (p q : Int) (m : Nat) : ∀ n, 2 * lu p q (m + n) = lu p q m * lv p q n + lv p q m * lu p q n ∧ 2 * lv p q (m + n) = lv p q m * lv p q n + (p * p - 4 * q) * (lu p q m * lu p q n)
  | 0 => by
    have h0 : lu p q 0 = 0 := rfl
    have h1 : lv p q 0 = 2 := by unfold lv; rw [h0]; show 2 * (1 : Int) - _ = _; omega
    rw [Nat.add_zero, h0, h1]; constructor <;> grind
  | n + 1 => by
    obtain ⟨h1, h2⟩ := add_form p q m n
    have e1 := lu_next p q n
    have e2 := lv_next p q n
    have e3 := lu_next p q (m + n)
    have e4 := lv_next p q (m + n)
    rw [← Nat.add_assoc]
    constructor
    · have : 2 * (2 * lu p q (m + n + 1)) = 2 * (lu p q m * lv p q (n + 1) + lv p q m * lu p q (n + 1)) := by grind
      omega
    · have : 2 * (2 * lv p q (m + n + 1)) = 2 * (lv p q m * lv p q (n + 1) + (p * p - 4 * q) * (lu p q m * lu p q (n + 1))) := by grind
      omega
theorem norm_form (p q : Int) : ∀ k, lv p q k * lv p q k - (p * p - 4 * q) * (lu p q k * lu p q k) = 4 * q ^ k
  | 0 => by
    have h0 : lu p q 0 = 0 := rfl
    have h1 : lv p q 0 = 2 := by unfold lv; rw [h0]; show 2 * (1 : Int) - _ = _; omega
    rw [h0, h1]; grind
  | k + 1 => by
    have h := norm_form p q k
    have e1 := lu_next p q k
    have e2 := lv_next p q k
    rw [Int.pow_succ]
    generalize q ^ k = z at *
    generalize lu p q k = a at *
    generalize lv p q k = b at *
    generalize lu p q (k + 1) = c at *
    generalize lv p q (k + 1) = d at *
    have : 4 * (d * d - (p * p - 4 * q) * (c * c)) = 4 * (4 * (z * q)) := by
      have h1 : 4 * (d * d - (p * p - 4 * q) * (c * c)) = (2 * d) * (2 * d) - (p * p - 4 * q) * ((2 * c) * (2 * c)) := by grind
      rw [h1, e1, e2]; grind
    omega
theorem lu_dbl (p q : Int) (k : Nat) : lu p q (k + k) = lu p q k * lv p q k := by
  have h := (add_form p q k k).1
  have : 2 * lu p q (k + k) = 2 * (lu p q k * lv p q k) := by rw [h]; grind
  omega
theorem lv_dbl (p q : Int) (k : Nat) : lv p q (k + k) = lv p q k * lv p q k - 2 * q ^ k := by
  have h := (add_form p q k k).2
  have h2 := norm_form p q k
  generalize (p * p - 4 * q) * (lu p q k * lu p q k) = z at *
  omega
theorem lu_add (p q : Int) (m : Nat) : ∀ n, lu p q (m + n + 1) = lu p q (m + 1) * lu p q (n + 1) - q * lu p q m * lu p q n ∧ lu p q (m + (n + 1) + 1) = lu p q (m + 1) * lu p q (n + 2) - q * lu p q m * lu p q (n + 1)
  | 0 => by
    have h0 : lu p q 0 = 0 := rfl
    have h1 : lu p q 1 = 1 := rfl
    have h2 : lu p q 2 = p := by rw [lu_two, h0, h1]; omega
    constructor
    · show lu p q (m + 1) = lu p q (m + 1) * lu p q 1 - q * lu p q m * lu p q 0
      rw [h0, h1]; omega
    · show lu p q (m + 2) = lu p q (m + 1) * lu p q 2 - q * lu p q m * lu p q 1
      rw [h1, h2, lu_two]; grind
  | n + 1 => by
    obtain ⟨h1, h2⟩ := lu_add p q m n
    refine ⟨h2, ?_⟩
    have e : m + (n + 1 + 1) + 1 = (m + n + 1) + 2 := by omega
    rw [e, lu_two, show m + n + 1 + 1 = m + (n + 1) + 1 by omega, h1, h2, show n + 1 + 2 = (n + 1) + 2 from rfl, lu_two p q (n + 1)]
    have e2 := lu_two p q n
    rw [show n + 1 + 1 = n + 2 from rfl, e2]
    grind
/-- U at an index divides U at its multiples -/
theorem lu_dvd (p q : Int) (a : Nat) : ∀ k, lu p q a ∣ lu p q (a * k)
  | 0 => by rw [Nat.mul_zero]; exact Int.dvd_zero _
  | k + 1 => by
    rcases Nat.eq_zero_or_pos a with h | h
    · subst h; rw [Nat.zero_mul]; exact Int.dvd_refl _
    · obtain ⟨b, rfl⟩ : ∃ b, a = b + 1 := ⟨a - 1, by omega⟩
      have e : (b + 1) * (k + 1) = (b + 1) * k + b + 1 := by rw [Nat.mul_add, Nat.mul_one]; omega
      rw [e, (lu_add p q ((b + 1) * k) b).1]
      exact Int.dvd_sub (Int.dvd_mul_of_dvd_right (Int.dvd_refl _)) (by rw [Int.mul_assoc, Int.mul_comm q, Int.mul_assoc]; exact Int.dvd_mul_of_dvd_left (lu_dvd p q (b + 1) k))
end Mine
end
section
namespace Mine
/-- alike by rests of N -/
def Cg (N : Nat) (x y : Int) : Prop := (N : Int) ∣ x - y
section
variable {N : Nat} {x y z x' y' : Int}
theorem Cg.rfl' : Cg N x x := by unfold Cg; rw [Int.sub_self]; exact Int.dvd_zero _
theorem Cg.symm (h : Cg N x y) : Cg N y x := by obtain ⟨t, h⟩ := h; exact ⟨-t, by rw [Int.mul_neg, ← h]; omega⟩
theorem Cg.trans (h : Cg N x y) (k : Cg N y z) : Cg N x z := by obtain ⟨t, h⟩ := h; obtain ⟨s, k⟩ := k; exact ⟨t + s, by rw [Int.mul_add, ← h, ← k]; omega⟩
theorem Cg.add (h : Cg N x y) (k : Cg N x' y') : Cg N (x + x') (y + y') := by obtain ⟨t, h⟩ := h; obtain ⟨s, k⟩ := k; exact ⟨t + s, by rw [Int.mul_add, ← h, ← k]; omega⟩
theorem Cg.sub (h : Cg N x y) (k : Cg N x' y') : Cg N (x - x') (y - y') := by obtain ⟨t, h⟩ := h; obtain ⟨s, k⟩ := k; exact ⟨t - s, by rw [Int.mul_sub, ← h, ← k]; omega⟩
theorem Cg.mul (h : Cg N x y) (k : Cg N x' y') : Cg N (x * x') (y * y') := by
  obtain ⟨t, h⟩ := h; obtain ⟨s, k⟩ := k
  exact ⟨x * s + t * y', by grind⟩
theorem Cg.mod (x : Int) : Cg N (x % N) x := ⟨-(x / N), by have := Int.mul_ediv_add_emod x N; rw [Int.mul_neg]; omega⟩
theorem Cg.addN (x : Int) : Cg N (x + N) x := ⟨1, by omega⟩
theorem Cg.half (ho : N % 2 = 1) (h : Cg N (2 * x) (2 * y)) : Cg N x y := by
  obtain ⟨t, h⟩ := h
  obtain ⟨m, hm⟩ : ∃ m : Nat, N = 2 * m + 1 := ⟨N / 2, by omega⟩
  refine ⟨(x - y) - m * t, ?_⟩
  have h1 : 2 * (x - y) = N * t := by omega
  have h2 : (N : Int) = 2 * m + 1 := by omega
  rw [Int.mul_sub]
  have h3 : (N : Int) * (m * t) = m * (2 * (x - y)) := by rw [h1]; grind
  rw [h3, h2]; grind
theorem Cg.eq (h : Cg N x y) (hx0 : 0 ≤ x) (hx : x < N) (hy0 : 0 ≤ y) (hy : y < N) : x = y := by
  obtain ⟨t, h⟩ := h
  rcases Int.lt_trichotomy t 0 with h1 | h1 | h1
  · have : (N : Int) * t ≤ N * (-1) := Int.mul_le_mul_of_nonneg_left (by omega) (by omega)
    omega
  · subst h1; omega
  · have : (N : Int) * 1 ≤ N * t := Int.mul_le_mul_of_nonneg_left (by omega) (by omega)
    omega
end
theorem cg_mod {N x : Nat} {y : Int} (h : Cg N x y) : Cg N ((x % N : Nat) : Int) y := by
  rw [Int.natCast_emod]; exact (Cg.mod _).trans h
theorem cg_mul {N x x' : Nat} {y y' : Int} (h : Cg N x y) (k : Cg N x' y') : Cg N ((x * x' % N : Nat) : Int) (y * y') := cg_mod (by rw [Int.natCast_mul]; exact h.mul k)
theorem cg_add {N x x' : Nat} {y y' : Int} (h : Cg N x y) (k : Cg N x' y') : Cg N (((x + x') % N : Nat) : Int) (y + y') := cg_mod (by rw [Int.natCast_add]; exact h.add k)
theorem cg_sub {N x x' : Nat} {y y' : Int} (hl : x' ≤ x + N) (h : Cg N x y) (k : Cg N x' y') : Cg N (((x + N - x') % N : Nat) : Int) (y - y') := cg_mod (by
  have e : ((x + N - x' : Nat) : Int) = ((x : Int) + N) - x' := by omega
  rw [e]; exact ((Cg.addN _).trans h).sub k)
theorem cg_half {N x : Nat} {y : Int} (ho : N % 2 = 1) (h : Cg N x (2 * y)) : Cg N (rhalf N x : Nat) y := by
  refine Cg.half ho (Cg.trans ?_ h)
  unfold rhalf
  split
  · rw [show 2 * ((x / 2 : Nat) : Int) = x by omega]; exact Cg.rfl'
  · rw [show 2 * (((x + N) / 2 : Nat) : Int) = (x : Int) + N by omega]; exact Cg.addN _
theorem um_lu {N a b : Nat} (hN : 0 < N) : ∀ k, Cg N (um N a b k : Nat) (lu a b k) ∧ Cg N (um N a b (k + 1) : Nat) (lu a b (k + 1))
  | 0 => ⟨Cg.rfl', Cg.rfl'⟩
  | k + 1 => by
    obtain ⟨h1, h2⟩ := um_lu hN k
    refine ⟨h2, ?_⟩
    rw [um_nx, lu_two]
    exact cg_sub (Nat.le_trans (Nat.le_of_lt (Nat.mod_lt _ hN)) (Nat.le_add_left _ _)) (cg_mul Cg.rfl' h2) (cg_mul Cg.rfl' h1)
/-- the state of the ladder at index k -/
def St (N a b k : Nat) (s : Nat × Nat × Nat) : Prop := Cg N s.1 (lu a b k) ∧ Cg N s.2.1 (lv a b k) ∧ Cg N s.2.2 ((b : Int) ^ k)
theorem st_dbl {N a b k : Nat} {s : Nat × Nat × Nat} (hN : 0 < N) (h : St N a b k s) : St N a b (k + k) (dbl N s) := by
  obtain ⟨h1, h2, h3⟩ := h
  refine ⟨?_, ?_, ?_⟩
  · rw [lu_dbl]; exact cg_mul h1 h2
  · rw [lv_dbl]
    refine cg_sub (Nat.le_trans (Nat.le_of_lt (Nat.mod_lt _ hN)) (Nat.le_add_left _ _)) (cg_mul h2 h2) ?_
    have := cg_add h3 h3
    rwa [show (b : Int) ^ k + (b : Int) ^ k = 2 * (b : Int) ^ k by omega] at this
  · rw [Int.pow_add]; exact cg_mul h3 h3
theorem st_nxt {N a b d k : Nat} {s : Nat × Nat × Nat} (ho : N % 2 = 1) (hd : Cg N d ((a : Int) * a - 4 * b)) (h : St N a b k s) : St N a b (k + 1) (nxt N a d b s) := by
  obtain ⟨h1, h2, h3⟩ := h
  refine ⟨?_, ?_, ?_⟩
  · exact cg_half ho (by rw [lu_next]; exact cg_add (cg_mul Cg.rfl' h1) h2)
  · exact cg_half ho (by rw [lv_next]; exact cg_add (cg_mul hd h1) (cg_mul Cg.rfl' h2))
  · rw [Int.pow_succ]; exact cg_mul h3 Cg.rfl'
theorem st_row {N a b d m : Nat} (hN : 1 < N) (ho : N % 2 = 1) (hd : Cg N d ((a : Int) * a - 4 * b)) (hm : m ≠ 0) : ∀ i, i ≤ m.log2 → St N a b (m / 2 ^ (m.log2 - i)) (lrow N a d b m i)
  | 0, _ => by
    have h1 := Nat.log2_self_le hm
    have h2 := Nat.lt_log2_self (n := m)
    have e : m / 2 ^ (m.log2 - 0) = 1 := by
      rw [Nat.sub_zero]
      refine Nat.le_antisymm ?_ (Nat.div_pos h1 (Nat.two_pow_pos _))
      have := (Nat.div_lt_iff_lt_mul (Nat.two_pow_pos m.log2)).mpr (show m < 2 * 2 ^ m.log2 by rw [Nat.pow_succ] at h2; omega)
      omega
    rw [e]
    refine ⟨?_, ?_, ?_⟩
    · show Cg N ((1 % N : Nat) : Int) 1
      rw [Nat.mod_eq_of_lt hN]; exact Cg.rfl'
    · have : lv (a : Int) b 1 = a := by
        unfold lv
        have h2 : lu (a : Int) b 2 = a := by rw [lu_two]; show (a : Int) * 1 - b * 0 = a; omega
        rw [show 1 + 1 = 2 from rfl, h2]; show 2 * (a : Int) - a * 1 = a; omega
      rw [this]; exact Cg.rfl'
    · rw [Int.pow_succ, Int.pow_zero, Int.one_mul]; exact Cg.rfl'
  | i + 1, hi => by
    have ih := st_row hN ho hd hm i (by omega)
    have e : m.log2 - i = (m.log2 - 1 - i) + 1 := by omega
    have e2 : m.log2 - (i + 1) = m.log2 - 1 - i := by omega
    rw [e] at ih
    rw [e2, lrow]
    generalize hq : m / 2 ^ (m.log2 - 1 - i) = q
    have hh : m / 2 ^ (m.log2 - 1 - i + 1) = q / 2 := by rw [Nat.pow_succ, ← Nat.div_div_eq_div_mul, hq]
    rw [hh] at ih
    have hdb := st_dbl (by omega) ih
    split
    · rw [show q = q / 2 + q / 2 + 1 by omega]; exact st_nxt ho hd hdb
    · rw [show q = q / 2 + q / 2 by omega]; exact hdb
/-- the ladder gives U by rests -/
theorem lrow_um {N a b d m : Nat} (hN : 1 < N) (ho : N % 2 = 1) (ha : a < N) (hb : b < N) (hd : Cg N d ((a : Int) * a - 4 * b)) (hm : m ≠ 0) : (lrow N a d b m m.log2).1 = um N a b m := by
  have h := (st_row hN ho hd hm m.log2 (Nat.le_refl _)).1
  rw [Nat.sub_self, Nat.pow_zero, Nat.div_one] at h
  have h2 := (um_lu (a := a) (b := b) (by omega : 0 < N) m).1
  have l1 := (lrow_lt (d := d) (m := m) ha hb m.log2).1
  have l2 := um_lt (a := a) (b := b) hN m
  exact Int.ofNat_inj.mp ((h.trans h2.symm).eq (by omega) (by omega) (by omega) (by omega))
end Mine
end
section
open PySem PySem.W PyProof.Rows
set_option maxRecDepth 100000
namespace Mine
set_option compiler.extract_closed false
-- one look into the frame
local macro_rules | `(tactic| walk_at "lk") => `(tactic| first | assumption | ((with_reducible show look _ (Cx.put _ _ _).loc = _); first | with_reducible exact look_hit | refine look_miss (by decide) (by walk_at "lk")) | ((with_reducible show look _ (Cx.setOwn _ _ _).loc = _); refine look_own (by walk_at "lk")) | ((with_reducible show look _ (Cx.freeze _ _).loc = _); refine look_frz (by walk_at "lk") (by rfl)) | with_reducible exact look_zip0 | refine look_zipS (by decide) (by walk_at "lk") | (simp only [Cx.put, Cx.setOwn, look_put, look, List.zip_cons_cons, List.zip_nil_right, List.zip_nil_left, String.reduceEq, reduceIte] <;> first | with_reducible rfl | assumption))
local macro_rules | `(tactic| walk_at "o") => `(tactic| first | with_reducible assumption | (decide; done) | exact up_le (by assumption) (by rfl) | exact dn_le (by assumption) (by rfl) | exact up_lt (by assumption) (by rfl) | exact dn_lt (by assumption) (by rfl) | exact lt_le (by assumption) (by rfl) | exact lt_lt (by assumption) (by rfl) | exact dn_ne (by assumption) (by rfl) | exact ineg_le (by rfl) | exact ineg_lt (by rfl) | exact iup_le (by assumption) (by rfl) | exact iup_lt (by assumption) (by rfl) | exact idn_le (by assumption) (by rfl) | exact idn_lt (by assumption) (by rfl) | exact ilt_le (by assumption) (by rfl) | exact ilt_lt (by assumption) (by rfl) | omega)
section
noncomputable abbrev GG (w : World) (mean : ExcName → Option Value) (mg mb : Str → Option Value) : Gd := ⟨PySem.Challenge.rw_sa0346_01.row.prog, w, hd.heap_1 w.params, view, looseW view [], mean, mg, mb, 208⟩
/-- a ring of rests, a signed number -/
abbrev rg (w N : Nat) : AV := .ring (avI (lim w N)) (.int w) (.fn 289) (.fn 331)
abbrev sg (w : Nat) (x : Int) : AV := .tup [.bool (decide (x < 0)), avI (lim w x.natAbs)]

variable {W : World} {mean : ExcName → Option Value} {mg mb : Str → Option Value}
set_option maxHeartbeats 400000 in
theorem normal_ok {w : Nat} (hw : w ≠ 0) (l : List Int) (N : Nat) (hf : Wf w l) (hv : val w l = N) (hl : l.length ≤ 100000) : Ok (GG W mean mg mb) 1 58 [avI l] (avI (lim w N)) := by
  refine ok_fn (names := ["a"]) (by exact rfl) (by rfl) (vec1 fun _ => rfl) (by decide) rfl (by decide) (by decide) rfl rfl rfl ?_
  intro A h₀ P ok
  repeat' (first | ((fail_if_success (fail_if_success (with_reducible show Ev _ (Expr.Name _ _) _ _))); refine ev_loc (by assumption) (by walk_at "lk") (by rfl) ?_) | ((with_reducible show Ev _ (Expr.Call (Expr.Name (Str.ofString "len") _) _ _ _) _ _); refine ev_bcall (id := "len") (by assumption) (by rfl) (by boot_by_name) (by decide) ?_) | ((fail_if_success (fail_if_success (with_reducible show ExB _ _ _ _))); with_reducible refine exb_cons ?_) | ((fail_if_success (fail_if_success (with_reducible show EvL _ _ _ _ _))); refine evl_cons ?_) | ((fail_if_success (fail_if_success (with_reducible show EvL _ _ _ _ _))); refine evl_nil ?_) | ((with_reducible show Ex _ (Stmt.Assign [Expr.Name _ _] _ _) _ _); refine ex_assign (by assumption) ?_) | ((with_reducible show Exists _); with_reducible refine ⟨_, bi_lenI ?_, ?_⟩) | ((with_reducible show _ ≤ _); first | walk_at "o" | (rw [List.length_map]; omega) | (simp only [List.length_cons, List.length_nil]; omega)) | (with_reducible refine sq_next ?_))

  refine ex_while (fun n c => look "a" c.loc = some (avI l) ∧ look "end" c.loc = some (.int n) ∧ n ≤ l.length ∧ val w (l.take n) = N) ⟨l.length, by walk_at "lk", by walk_at "lk", Nat.le_refl _, by simpa using hv⟩ ?_
  rintro n c hI; (first | refine an4 hI fun h1 h2 h3 h4 => ?_ | refine an4 hI.out fun h1 h2 h3 h4 => ?_); clear hI
  repeat' (first | ((fail_if_success (fail_if_success (with_reducible show Ev _ (Expr.Name _ _) _ _))); refine ev_loc (by assumption) (by walk_at "lk") (by rfl) ?_) | ((with_reducible show Ev _ (Expr.Constant (Const.int _) _ _) _ _); refine ev_int ?_) | ((fail_if_success (fail_if_success (with_reducible show Ev _ (Expr.BinOp _ Operator.Sub _ _) _ _))); refine ev_sub ?_) | ((with_reducible show Ev _ (Expr.Subscript (Expr.Name _ _) (Expr.Slice none (some _) none _) _) _ _); refine ev_uptoI (by assumption) (by walk_at "lk") ?_ ?_) | ((fail_if_success (fail_if_success (with_reducible show Ev _ (Expr.Subscript (Expr.Name _ _) _ _) _ _))); refine ev_sel ?_) | ((fail_if_success (fail_if_success (with_reducible show ExB _ _ _ _))); with_reducible refine exb_cons ?_) | ((fail_if_success (fail_if_success (with_reducible show ExB _ _ _ _))); refine exb_nil ?_) | ((fail_if_success (fail_if_success (with_reducible show TrAll _ _ _ _ _))); refine trAll_and ?_) | ((fail_if_success (fail_if_success (with_reducible show TrAll _ _ _ _ _))); refine trAll_nilA ?_) | ((fail_if_success (fail_if_success (with_reducible show Tr _ (Expr.Compare _ [CmpOp.Gt] _ _) _ _))); refine tr_gt ?_) | ((fail_if_success (fail_if_success (with_reducible show Tr _ (Expr.Compare _ [CmpOp.Eq] _ _) _ _))); refine tr_eq (by assumption) ?_) | ((fail_if_success (fail_if_success (with_reducible show Tr _ (Expr.BoolOp _ _ _) _ _))); refine tr_bool ?_) | ((with_reducible show Ex _ (Stmt.AugAssign _ _ _ _) _ _); refine ex_aug (by assumption) (by walk_at "lk") ?_) | ((with_reducible show Ex _ (Stmt.Return _ _) _ _); refine ex_return ?_) | ((with_reducible show Exists _); with_reducible refine ⟨_, _, rfl, rfl, ?_⟩) | ((with_reducible show Exists _); with_reducible refine ⟨_, _, rfl, item_int ?_ ?_ ?_, ?_⟩) | ((with_reducible show Exists _); with_reducible refine ⟨_, _, rfl, aug_sub, ?_⟩) | ((with_reducible show Exists _); with_reducible refine ⟨_, eqr_int, ?_⟩) | ((with_reducible show Exists _); with_reducible refine ⟨_, rfl, ?_⟩) | ((with_reducible show _ ∧ _); refine And.intro ?_ ?_) | ((with_reducible show _ ≤ _); first | walk_at "o" | (rw [List.length_map]; omega) | (simp only [List.length_cons, List.length_nil]; omega)) | ((with_reducible show _ < _); first | walk_at "o" | (rw [List.length_map]; omega)) | ((fail_if_success (fail_if_success (with_reducible show ite _ _ _))); with_reducible refine if_tt ?_) | ((fail_if_success (fail_if_success (with_reducible show ite _ _ _))); with_reducible refine if_ff ?_) | ((fail_if_success (fail_if_success (with_reducible show ite _ _ _))); with_reducible (refine if_dec ?_ ?_ <;> intro _)) | (with_reducible refine sq_next ?_) | (with_reducible refine sq_ret ?_) | (with_reducible refine lq_next ?_) | (with_reducible refine ret_is ?_))
  · have e : (n : Int) - 1 = ((n - 1 : Nat) : Int) := by omega
    rename_i a1 a2
    rw [e, Int.toNat_natCast] at a2
    refine ⟨n - 1, by walk_at "o", by walk_at "lk", lk_int (by walk_at "lk") (by walk_at "o"), by walk_at "o", ?_⟩
    rw [take_zero_last a2, show n - 1 + 1 = n by omega]; exact h4
  · rename_i a1 a2
    rw [show (n : Int) - 1 = ((n - 1 : Nat) : Int) by walk_at "o", Int.toNat_natCast] at a2
    rw [Int.toNat_natCast, take_done hw hf h4 h3 (.inr a2)]
  · rename_i a1
    rw [Int.toNat_natCast, take_done hw hf h4 h3 (.inl (by walk_at "o"))]

set_option maxHeartbeats 400000 in
theorem nat_of_ok {w : Nat} (hw : 1 ≤ w) (hw2 : w ≤ 60) (N : Nat) (hN : N < 2 ^ 1000) : Ok (GG W mean mg mb) 1 65 [.int N, .int w] (avI (lim w N)) := by
  refine ok_fn (names := ["number", "w"]) (by exact rfl) (by rfl) (vec2 fun _ _ => rfl) (by decide) rfl (by decide) (by decide) rfl rfl rfl ?_
  intro A h₀ P ok
  repeat' (first | ((fail_if_success (fail_if_success (with_reducible show Ev _ (Expr.Name _ _) _ _))); refine ev_loc (by assumption) (by walk_at "lk") (by rfl) ?_) | ((with_reducible show Ev _ (Expr.Constant (Const.int _) _ _) _ _); refine ev_int ?_) | ((fail_if_success (fail_if_success (with_reducible show Ev _ (Expr.BinOp _ Operator.Sub _ _) _ _))); refine ev_sub ?_) | ((fail_if_success (fail_if_success (with_reducible show Ev _ (Expr.BinOp _ Operator.LShift _ _) _ _))); refine ev_shl ?_) | ((with_reducible show ExB _ (Stmt.Raise _ _ _ :: _) _ _); exfalso; omega) | ((fail_if_success (fail_if_success (with_reducible show ExB _ _ _ _))); with_reducible refine exb_cons ?_) | ((fail_if_success (fail_if_success (with_reducible show ExB _ _ _ _))); refine exb_nil ?_) | ((fail_if_success (fail_if_success (with_reducible show Tr _ (Expr.Compare _ [CmpOp.Lt] _ _) _ _))); refine tr_lt ?_) | ((with_reducible show Ex _ (Stmt.Assign [Expr.Tuple [Expr.Name (Str.ofString "found") _, _] _ _] (Expr.Tuple _ _ _) _) _ _); refine ex_tup2O (by assumption) ?_) | ((with_reducible show Ex _ (Stmt.If _ _ _ _) _ _); refine ex_if ?_) | ((with_reducible show EvN _ _ _ _); first | refine evn_nil ?_ | refine evn_rep ?_) | ((with_reducible show Cx.own _ = _); first | rfl | assumption) | ((with_reducible show Exists _); with_reducible refine ⟨_, _, rfl, rfl, ?_⟩) | ((with_reducible show _ ∧ _); refine And.intro ?_ ?_) | ((with_reducible show _ ≤ _); first | walk_at "o" | (rw [List.length_map]; omega) | (simp only [List.length_cons, List.length_nil]; omega)) | ((with_reducible show _ < _); first | walk_at "o" | (rw [List.length_map]; omega)) | ((fail_if_success (fail_if_success (with_reducible show ite _ _ _))); with_reducible (refine if_dec ?_ ?_ <;> intro _)) | (with_reducible refine sq_next ?_))
  refine ex_while (fun n c => ∃ f : List Int, look "number" c.loc = some (.int n) ∧ look "w" c.loc = some (.int w) ∧ look "mask" c.loc = some (.int (1 * 2 ^ ((w : Nat) : Int).toNat - 1)) ∧ look "found" c.loc = some .own ∧ c.own = some (true, f.map .int) ∧ Wf w f ∧
    val w f + 2 ^ (w * f.length) * (n : Int) = N ∧ (f = [] ∨ (2 : Int) ^ (w * (f.length - 1)) ≤ N)) ⟨N, [], by walk_at "lk", by walk_at "lk", by walk_at "lk", by walk_at "lk", rfl, .nil, by simp [val], .inl rfl⟩ ?_
  rintro n c hI; (first | refine ex1 hI fun f hI => ?_ | refine ex1 hI.out fun f hI => ?_); refine an8 hI fun h1 h2 h3 h4 h5 h6 h7 h8 => ?_; clear hI
  repeat' (first | ((fail_if_success (fail_if_success (with_reducible show Ev _ (Expr.Name _ _) _ _))); refine ev_loc (by assumption) (by walk_at "lk") (by rfl) ?_) | ((fail_if_success (fail_if_success (with_reducible show Ev _ (Expr.Name _ _) _ _))); refine ev_own (by assumption) (by walk_at "lk") (by first | rfl | assumption) ?_) | ((with_reducible show Ev _ (Expr.Constant (Const.int _) _ _) _ _); refine ev_int ?_) | ((fail_if_success (fail_if_success (with_reducible show Ev _ (Expr.BinOp _ Operator.BitAnd _ _) _ _))); refine ev_and ?_) | ((fail_if_success (fail_if_success (with_reducible show ExB _ _ _ _))); with_reducible refine exb_cons ?_) | ((fail_if_success (fail_if_success (with_reducible show ExB _ _ _ _))); refine exb_nil ?_) | ((fail_if_success (fail_if_success (with_reducible show Tr _ (Expr.Compare _ [CmpOp.Gt] _ _) _ _))); refine tr_gt ?_) | ((with_reducible show Ex _ (Stmt.AugAssign _ _ _ _) _ _); refine ex_aug (by assumption) (by walk_at "lk") ?_) | ((with_reducible show Ex _ (Stmt.Return _ _) _ _); refine ex_return ?_) | ((with_reducible show Ex _ (Stmt.Expr (Expr.Call (Expr.Attribute _ _ _) _ _ _) _) _ _); refine ex_appO (by assumption) (by walk_at "lk") (by first | rfl | assumption) ?_) | ((with_reducible show ∃ l, Cx.own _ = some (true, l) ∧ _); refine ⟨_, by first | rfl | assumption, ?_, ?_⟩) | ((with_reducible show Exists _); with_reducible refine ⟨_, _, rfl, rfl, ?_⟩) | ((with_reducible show Exists _); with_reducible refine ⟨_, _, rfl, aug_shrP ?_, ?_⟩) | ((with_reducible show _ ≤ _); first | walk_at "o" | (rw [List.length_map]; omega) | (simp only [List.length_cons, List.length_nil]; omega)) | ((fail_if_success (fail_if_success (with_reducible show ite _ _ _))); with_reducible (refine if_dec ?_ ?_ <;> intro _)) | (with_reducible refine sq_next ?_) | (with_reducible refine sq_ret ?_) | (with_reducible refine lq_next ?_) | (with_reducible refine ret_is ?_))
  · rw [List.length_map]
    have := h8.elim (fun h => by rw [h]; simp) (fun h => lim_len_aux hw h hN)
    omega
  · rw [mask_eq (by walk_at "o"), Int.toNat_natCast]
    have hlt : n / 2 ^ w < n := Nat.div_lt_self (by walk_at "o") (Nat.one_lt_two_pow (by walk_at "o"))
    have hm := Int.emod_lt_of_pos (n : Int) (pw w)
    have hm0 := Int.emod_nonneg (n : Int) (Int.ne_of_gt (pw w))
    refine ⟨n / 2 ^ w, hlt, f ++ [(n : Int) % 2 ^ w], lk_int (by walk_at "lk") (by rw [Int.natCast_ediv, pwc]), by walk_at "lk", by walk_at "lk", by walk_at "lk", by simp [Cx.put, Cx.setOwn], h6.snoc hm0 hm, ?_, .inr ?_⟩
    · rw [Int.natCast_ediv, pwc, split_limb]; exact h7
    · rw [List.length_append, List.length_singleton, Nat.add_sub_cancel]
      have := h6.val_nonneg
      have h9 : (2 : Int) ^ (w * f.length) * 1 ≤ 2 ^ (w * f.length) * n := Int.mul_le_mul_of_nonneg_left (by walk_at "o") (Int.le_of_lt (pow_pos' _))
      omega
  · have e : n = 0 := by omega
    subst e
    rw [lim_uniq (by walk_at "o") h6 (by simpa using h7) h8]
end
section
variable {W : World} {mean : ExcName → Option Value} {mg mb : Str → Option Value}
set_option maxHeartbeats 400000 in
theorem add_ok {w : Nat} (hw : 1 ≤ w) (hw2 : w ≤ 60) (M N : Nat) (hl : (lim w M).length ≤ 10000) (hm : (lim w N).length ≤ 10000) : Ok (GG W mean mg mb) 1 86 [avI (lim w M), avI (lim w N), .int w] (avI (lim w (M + N))) := by
  refine ok_fn (names := ["a", "b", "w"]) (by exact rfl) (by rfl) (vec3 fun _ _ _ => rfl) (by decide) rfl (by decide) (by decide) rfl rfl rfl ?_
  intro A h₀ P ok
  refine exb_cons (ex_cut (fun c => Inv (∃ X Y : Nat, X + Y = M + N ∧ (lim w Y).length ≤ (lim w X).length ∧ (lim w X).length ≤ 10000 ∧ (lim w Y).length ≤ 10000 ∧ look "a" c.loc = some (avI (lim w X)) ∧ look "b" c.loc = some (avI (lim w Y)) ∧ look "w" c.loc = some (.int w) ∧ c.own = none)) ?_ ?_)
  · repeat' (first | ((fail_if_success (fail_if_success (with_reducible show Ev _ (Expr.Name _ _) _ _))); refine ev_loc (by assumption) (by walk_at "lk") (by rfl) ?_) | ((with_reducible show Ev _ (Expr.Call (Expr.Name (Str.ofString "len") _) _ _ _) _ _); refine ev_bcall (id := "len") (by assumption) (by rfl) (by boot_by_name) (by decide) ?_) | ((fail_if_success (fail_if_success (with_reducible show ExB _ _ _ _))); with_reducible refine exb_cons ?_) | ((fail_if_success (fail_if_success (with_reducible show ExB _ _ _ _))); refine exb_nil ?_) | ((fail_if_success (fail_if_success (with_reducible show EvL _ _ _ _ _))); refine evl_cons ?_) | ((fail_if_success (fail_if_success (with_reducible show EvL _ _ _ _ _))); refine evl_nil ?_) | ((fail_if_success (fail_if_success (with_reducible show Tr _ (Expr.Compare _ [CmpOp.Lt] _ _) _ _))); refine tr_lt ?_) | ((with_reducible show Ex _ (Stmt.Assign [Expr.Tuple [_, _] _ _] (Expr.Tuple _ _ _) _) _ _); refine ex_tup2 (by assumption) ?_) | ((with_reducible show Ex _ (Stmt.If _ _ _ _) _ _); refine ex_if ?_) | ((with_reducible show Exists _); with_reducible refine ⟨_, _, rfl, rfl, ?_⟩) | ((with_reducible show Exists _); with_reducible refine ⟨_, bi_lenI ?_, ?_⟩) | ((with_reducible show _ ∧ _); refine And.intro ?_ ?_) | ((with_reducible show Fl.next = Fl.next); rfl) | ((with_reducible show _ ≤ _); first | walk_at "o" | (rw [List.length_map]; omega) | (simp only [List.length_cons, List.length_nil]; omega)) | ((fail_if_success (fail_if_success (with_reducible show ite _ _ _))); with_reducible (refine if_dec ?_ ?_ <;> intro _)) | (with_reducible refine sq_next ?_))
    · exact ⟨N, M, by walk_at "o", by walk_at "o", hm, hl, by walk_at "lk", by walk_at "lk", by walk_at "lk", rfl⟩
    · exact ⟨M, N, rfl, by walk_at "o", hl, hm, by walk_at "lk", by walk_at "lk", by walk_at "lk", rfl⟩
  rintro c hI; (first | refine ex2 hI fun X Y hI => ?_ | refine ex2 hI.out fun X Y hI => ?_); refine an8 hI fun hXY hlen hX hY h1 h2 h3 h4 => ?_; clear hI
  rw [← hXY]
  repeat' (first | ((fail_if_success (fail_if_success (with_reducible show Ev _ (Expr.Name _ _) _ _))); refine ev_loc (by assumption) (by walk_at "lk") (by rfl) ?_) | ((with_reducible show Ev _ (Expr.Constant (Const.int _) _ _) _ _); refine ev_int ?_) | ((fail_if_success (fail_if_success (with_reducible show Ev _ (Expr.BinOp _ Operator.Sub _ _) _ _))); refine ev_sub ?_) | ((fail_if_success (fail_if_success (with_reducible show Ev _ (Expr.BinOp _ Operator.LShift _ _) _ _))); refine ev_shl ?_) | ((with_reducible show Ev _ (Expr.Call (Expr.Name (Str.ofString "len") _) _ _ _) _ _); refine ev_bcall (id := "len") (by assumption) (by rfl) (by boot_by_name) (by decide) ?_) | ((fail_if_success (fail_if_success (with_reducible show ExB _ _ _ _))); with_reducible refine exb_cons ?_) | ((fail_if_success (fail_if_success (with_reducible show EvL _ _ _ _ _))); refine evl_cons ?_) | ((fail_if_success (fail_if_success (with_reducible show EvL _ _ _ _ _))); refine evl_nil ?_) | ((with_reducible show Ex _ (Stmt.For _ (Expr.Call (Expr.Name (Str.ofString "range") _) [_] _ _) _ _ _) _ _); refine ex_forU (by assumption) (by rfl) (by boot_by_name) ?_) | ((with_reducible show Ex _ (Stmt.Assign [Expr.Tuple [Expr.Name (Str.ofString "found") _, _, _] _ _] (Expr.Tuple _ _ _) _) _ _); refine ex_tup3O (by assumption) ?_) | ((with_reducible show EvN _ _ _ _); first | refine evn_nil ?_ | refine evn_rep ?_) | ((with_reducible show Cx.own _ = _); first | rfl | assumption) | ((with_reducible show Exists _); with_reducible refine ⟨_, _, rfl, rfl, ?_⟩) | ((with_reducible show Exists _); with_reducible refine ⟨_, bi_lenI ?_, ?_⟩) | ((with_reducible show Exists _); with_reducible refine ⟨_, rfl, ?_⟩) | ((with_reducible show _ ∧ _); refine And.intro ?_ ?_) | ((with_reducible show _ ≤ _); first | walk_at "o" | (rw [List.length_map]; omega) | (simp only [List.length_cons, List.length_nil]; omega)) | ((with_reducible show _ < _); first | walk_at "o" | (rw [List.length_map]; omega)) | (with_reducible refine sq_next ?_))
  have len1 : ∀ f : List Int, f.length ≤ (lim w X).length → (f.map AV.int).length ≤ 100000 := fun f h => by rw [List.length_map]; omega
  refine ⟨fun i c => Inv (∃ (f : List Int) (k : Int), look "a" c.loc = some (avI (lim w X)) ∧ look "b" c.loc = some (avI (lim w Y)) ∧ look "w" c.loc = some (.int w) ∧ look "mask" c.loc = some (.int (1 * 2 ^ ((w : Nat) : Int).toNat - 1)) ∧ look "carry" c.loc = some (.int k) ∧ look "found" c.loc = some .own ∧
    c.own = some (true, f.map .int) ∧ Wf w f ∧ f.length = i ∧ 0 ≤ k ∧ k ≤ 1 ∧ val w f + 2 ^ (w * f.length) * k = val w ((lim w X).take i) + val w ((lim w Y).take i)), ⟨[], 0, by walk_at "lk", by walk_at "lk", by walk_at "lk", by walk_at "lk", by walk_at "lk", by walk_at "lk", rfl, .nil, rfl, by walk_at "o", by walk_at "o", by simp [val]⟩, ?_, ?_⟩
  · rintro i c hi hI; (first | refine ex2 hI fun f k hI => ?_ | refine ex2 hI.out fun f k hI => ?_); refine an12 hI fun g1 g2 g3 g4 g5 g6 g7 g8 g9 g10 g11 g12 => ?_; clear hI
    have b1 := (lim_wf (w := w) X).get i
    have b2 := (lim_wf (w := w) Y).get i
    have hp := pw w
    repeat' (first | ((fail_if_success (fail_if_success (with_reducible show Ev _ (Expr.Name _ _) _ _))); refine ev_loc (by assumption) (by walk_at "lk") (by rfl) ?_) | ((fail_if_success (fail_if_success (with_reducible show Ev _ (Expr.BinOp _ Operator.Add _ _) _ _))); refine ev_add ?_) | ((fail_if_success (fail_if_success (with_reducible show Ev _ (Expr.BinOp _ Operator.BitAnd _ _) _ _))); refine ev_and ?_) | ((fail_if_success (fail_if_success (with_reducible show Ev _ (Expr.Subscript (Expr.Name _ _) _ _) _ _))); refine ev_sel ?_) | ((fail_if_success (fail_if_success (with_reducible show ExB _ _ _ _))); with_reducible refine exb_cons ?_) | ((fail_if_success (fail_if_success (with_reducible show ExB _ _ _ _))); refine exb_nil ?_) | ((with_reducible show Ex _ (Stmt.AugAssign _ _ _ _) _ _); refine ex_aug (by assumption) (by walk_at "lk") ?_) | ((with_reducible show Ex _ (Stmt.Expr (Expr.Call (Expr.Attribute _ _ _) _ _ _) _) _ _); refine ex_appO (by assumption) (by walk_at "lk") (by first | rfl | assumption) ?_) | ((with_reducible show ∃ l, Cx.own _ = some (true, l) ∧ _); refine ⟨_, by first | rfl | assumption, ?_, ?_⟩) | ((with_reducible show Exists _); with_reducible refine ⟨_, _, rfl, rfl, ?_⟩) | ((with_reducible show Exists _); with_reducible refine ⟨_, _, rfl, item_int ?_ ?_ ?_, ?_⟩) | ((with_reducible show Exists _); with_reducible refine ⟨_, _, rfl, aug_add, ?_⟩) | ((with_reducible show Exists _); with_reducible refine ⟨_, _, rfl, aug_shrP ?_, ?_⟩) | ((with_reducible show _ ≤ _); first | walk_at "o" | (rw [List.length_map]; omega) | (simp only [List.length_cons, List.length_nil]; omega)) | ((with_reducible show _ < _); first | walk_at "o" | (rw [List.length_map]; omega)) | (with_reducible refine sq_next ?_) | (with_reducible refine lq_next ?_))
    · rw [mask_eq (by simp only [Int.toNat_natCast]; omega), Int.toNat_natCast, Int.toNat_natCast]
      generalize hm : k + ((lim w X).getD i 0 + (lim w Y).getD i 0) = m
      have hm0 := Int.emod_nonneg m (Int.ne_of_gt hp)
      have hm1 := Int.emod_lt_of_pos m hp
      refine ⟨f ++ [m % 2 ^ w], m / 2 ^ w, by walk_at "lk", by walk_at "lk", by walk_at "lk", by walk_at "lk", by walk_at "lk", by walk_at "lk", by simp [Cx.put, Cx.setOwn], g8.snoc hm0 hm1, by simp [g9], Int.ediv_nonneg (by walk_at "o") (Int.le_of_lt hp), ?_, ?_⟩
      · exact Int.lt_add_one_iff.mp (Int.ediv_lt_of_lt_mul hp (by walk_at "o"))
      · rw [split_limb, val_take_succ, val_take_succ, g9, ← hm]
        rw [g9] at g12
        rw [Int.mul_add, Int.mul_add]; omega
  rintro c1 hI; (first | refine ex2 hI fun f k hI => ?_ | refine ex2 hI.out fun f k hI => ?_); refine an12 hI fun g1 g2 g3 g4 g5 g6 g7 g8 g9 g10 g11 g12 => ?_; clear hI
  repeat' (first | ((fail_if_success (fail_if_success (with_reducible show Ev _ (Expr.Name _ _) _ _))); refine ev_loc (by assumption) (by walk_at "lk") (by rfl) ?_) | ((with_reducible show Ev _ (Expr.Call (Expr.Name (Str.ofString "len") _) _ _ _) _ _); refine ev_bcall (id := "len") (by assumption) (by rfl) (by boot_by_name) (by decide) ?_) | ((fail_if_success (fail_if_success (with_reducible show ExB _ _ _ _))); with_reducible refine exb_cons ?_) | ((fail_if_success (fail_if_success (with_reducible show EvL _ _ _ _ _))); refine evl_cons ?_) | ((fail_if_success (fail_if_success (with_reducible show EvL _ _ _ _ _))); refine evl_nil ?_) | ((with_reducible show Ex _ (Stmt.For _ (Expr.Call (Expr.Name (Str.ofString "range") _) [_, _] _ _) _ _ _) _ _); refine ex_forB (by assumption) (by rfl) (by boot_by_name) ?_) | ((with_reducible show Exists _); with_reducible refine ⟨_, bi_lenI ?_, ?_⟩) | ((with_reducible show Exists _); with_reducible refine ⟨_, _, rfl, ?_⟩) | ((with_reducible show _ ∧ _); refine And.intro ?_ ?_) | ((with_reducible show _ ≤ _); first | walk_at "o" | (rw [List.length_map]; omega) | (simp only [List.length_cons, List.length_nil]; omega)) | ((with_reducible show _ < _); first | walk_at "o" | (rw [List.length_map]; omega)) | (with_reducible refine sq_next ?_))
  have e0 : (((lim w X).length : Int) - (lim w Y).length).toNat = (lim w X).length - (lim w Y).length := by omega
  refine ⟨fun i c => Inv (∃ (f : List Int) (k : Int), look "a" c.loc = some (avI (lim w X)) ∧ look "w" c.loc = some (.int w) ∧ look "mask" c.loc = some (.int (1 * 2 ^ ((w : Nat) : Int).toNat - 1)) ∧ look "carry" c.loc = some (.int k) ∧ look "found" c.loc = some .own ∧
    c.own = some (true, f.map .int) ∧ Wf w f ∧ f.length = (lim w Y).length + i ∧ 0 ≤ k ∧ k ≤ 1 ∧ val w f + 2 ^ (w * f.length) * k = val w ((lim w X).take ((lim w Y).length + i)) + Y), ⟨f, k, g1, g3, g4, g5, g6, g7, g8, by walk_at "o", g10, g11, ?_⟩, ?_, ?_⟩
  · have e1 : ((lim w Y).length : Int).toNat = (lim w Y).length := by omega
    rw [e1, List.take_length, val_lim (by walk_at "o")] at g12
    rw [g12]; simp
  · rintro i c hi hI; (first | refine ex2 hI fun f k hI => ?_ | refine ex2 hI.out fun f k hI => ?_); refine an11 hI fun g1 g3 g4 g5 g6 g7 g8 g9 g10 g11 g12 => ?_; clear hI
    have b1 := (lim_wf (w := w) X).get ((lim w Y).length + i)
    have hp := pw w
    have e1 : ((lim w Y).length : Int) + i = (((lim w Y).length + i : Nat) : Int) := by omega
    rw [e1]
    repeat' (first | ((fail_if_success (fail_if_success (with_reducible show Ev _ (Expr.Name _ _) _ _))); refine ev_loc (by assumption) (by walk_at "lk") (by rfl) ?_) | ((fail_if_success (fail_if_success (with_reducible show Ev _ (Expr.BinOp _ Operator.BitAnd _ _) _ _))); refine ev_and ?_) | ((fail_if_success (fail_if_success (with_reducible show Ev _ (Expr.Subscript (Expr.Name _ _) _ _) _ _))); refine ev_sel ?_) | ((fail_if_success (fail_if_success (with_reducible show ExB _ _ _ _))); with_reducible refine exb_cons ?_) | ((fail_if_success (fail_if_success (with_reducible show ExB _ _ _ _))); refine exb_nil ?_) | ((with_reducible show Ex _ (Stmt.AugAssign _ _ _ _) _ _); refine ex_aug (by assumption) (by walk_at "lk") ?_) | ((with_reducible show Ex _ (Stmt.Expr (Expr.Call (Expr.Attribute _ _ _) _ _ _) _) _ _); refine ex_appO (by assumption) (by walk_at "lk") (by first | rfl | assumption) ?_) | ((with_reducible show ∃ l, Cx.own _ = some (true, l) ∧ _); refine ⟨_, by first | rfl | assumption, ?_, ?_⟩) | ((with_reducible show Exists _); with_reducible refine ⟨_, _, rfl, rfl, ?_⟩) | ((with_reducible show Exists _); with_reducible refine ⟨_, _, rfl, item_int ?_ ?_ ?_, ?_⟩) | ((with_reducible show Exists _); with_reducible refine ⟨_, _, rfl, aug_add, ?_⟩) | ((with_reducible show Exists _); with_reducible refine ⟨_, _, rfl, aug_shrP ?_, ?_⟩) | ((with_reducible show _ ≤ _); first | walk_at "o" | (rw [List.length_map]; omega) | (simp only [List.length_cons, List.length_nil]; omega)) | ((with_reducible show _ < _); first | walk_at "o" | (rw [List.length_map]; omega)) | (with_reducible refine sq_next ?_) | (with_reducible refine lq_next ?_))
    · rw [mask_eq (by simp only [Int.toNat_natCast]; omega), Int.toNat_natCast, Int.toNat_natCast]
      generalize hm : k + (lim w X).getD ((lim w Y).length + i) 0 = m
      have hm0 := Int.emod_nonneg m (Int.ne_of_gt hp)
      have hm1 := Int.emod_lt_of_pos m hp
      refine ⟨f ++ [m % 2 ^ w], m / 2 ^ w, by walk_at "lk", by walk_at "lk", by walk_at "lk", by walk_at "lk", by walk_at "lk", by simp [Cx.put, Cx.setOwn], g8.snoc hm0 hm1, by simp [g9]; omega, Int.ediv_nonneg (by walk_at "o") (Int.le_of_lt hp), ?_, ?_⟩
      · exact Int.lt_add_one_iff.mp (Int.ediv_lt_of_lt_mul hp (by walk_at "o"))
      · rw [split_limb, ← Nat.add_assoc, val_take_succ, g9, ← hm]
        rw [g9] at g12
        rw [Int.mul_add]; omega
  rintro c2 hI; (first | refine ex2 hI fun f k hI => ?_ | refine ex2 hI.out fun f k hI => ?_); refine an11 hI fun g1 g3 g4 g5 g6 g7 g8 g9 g10 g11 g12 => ?_; clear hI
  have e2 : (lim w Y).length + (((lim w X).length : Int) - (lim w Y).length).toNat = (lim w X).length := by omega
  rw [e2] at g9
  rw [e2, List.take_length, val_lim (by walk_at "o")] at g12
  have hp := pw w
  repeat' (first | ((fail_if_success (fail_if_success (with_reducible show Ev _ (Expr.Name _ _) _ _))); refine ev_loc (by assumption) (by walk_at "lk") (by rfl) ?_) | ((fail_if_success (fail_if_success (with_reducible show Ev _ (Expr.Name _ _) _ _))); refine ev_own (by assumption) (by walk_at "lk") (by first | rfl | assumption) ?_) | ((with_reducible show Ev _ (Expr.Constant (Const.int _) _ _) _ _); refine ev_int ?_) | ((fail_if_success (fail_if_success (with_reducible show ExB _ _ _ _))); with_reducible refine exb_cons ?_) | ((fail_if_success (fail_if_success (with_reducible show ExB _ _ _ _))); refine exb_nil ?_) | ((fail_if_success (fail_if_success (with_reducible show Tr _ (Expr.Compare _ [CmpOp.Gt] _ _) _ _))); refine tr_gt ?_) | ((with_reducible show Ex _ (Stmt.If _ _ _ _) _ _); refine ex_if ?_) | ((with_reducible show Ex _ (Stmt.Return _ _) _ _); refine ex_return ?_) | ((with_reducible show Ex _ (Stmt.Expr (Expr.Call (Expr.Attribute _ _ _) _ _ _) _) _ _); refine ex_appO (by assumption) (by walk_at "lk") (by first | rfl | assumption) ?_) | ((with_reducible show ∃ l, Cx.own _ = some (true, l) ∧ _); refine ⟨_, by first | rfl | assumption, ?_, ?_⟩) | ((with_reducible show Exists _); with_reducible refine ⟨_, _, rfl, rfl, ?_⟩) | ((with_reducible show _ ≤ _); first | walk_at "o" | (rw [List.length_map]; omega) | (simp only [List.length_cons, List.length_nil]; omega)) | ((fail_if_success (fail_if_success (with_reducible show ite _ _ _))); with_reducible (refine if_dec ?_ ?_ <;> intro _)) | (with_reducible refine sq_next ?_) | (with_reducible refine sq_ret ?_) | (with_reducible refine ret_is ?_))
  · have hk : k = 1 := by omega
    subst hk
    have h1 : (2 : Int) ^ 1 ≤ 2 ^ w := by rw [← pwc, ← pwc]; exact Int.ofNat_le.mpr (Nat.pow_le_pow_right (by decide) hw)
    rw [← lim_uniq (w := w) (l := f ++ [1]) (n := X + Y) (by walk_at "o") (g8.snoc (by walk_at "o") (by walk_at "o")) (by rw [val_snoc]; omega) (.inr (by
      rw [List.length_append, List.length_singleton, Nat.add_sub_cancel]
      have := g8.val_nonneg
      omega))]
    simp
  · have hk : k = 0 := by omega
    rw [hk, Int.mul_zero, Int.add_zero] at g12
    have g13 : val w f = ((X + Y : Nat) : Int) := by rw [g12, Int.natCast_add]
    have g14 := lim_len_lo (w := w) (by walk_at "o") X
    have g15 : f = [] ∨ 2 ^ (w * (f.length - 1)) ≤ ((X + Y : Nat) : Int) := by
      rcases g14 with h | h
      · exact .inl (by rw [h] at g9; exact List.length_eq_zero_iff.mp g9)
      · right; rw [g9]; omega
    rw [← lim_uniq (w := w) (l := f) (n := X + Y) (by walk_at "o") g8 g13 g15]
end
section
variable {W : World} {mean : ExcName → Option Value} {mg mb : Str → Option Value}
set_option maxHeartbeats 400000 in
theorem is_even_ok {w : Nat} (hw : 1 ≤ w) (N : Nat) (hl : (lim w N).length ≤ 100000) : Ok (GG W mean mg mb) 1 72 [avI (lim w N)] (.bool (decide (N % 2 = 0))) := by
  refine ok_fn (names := ["a"]) (by exact rfl) (by rfl) (vec1 fun _ => rfl) (by decide) rfl (by decide) (by decide) rfl rfl rfl ?_
  intro A h₀ P ok
  repeat' (first | ((fail_if_success (fail_if_success (with_reducible show Ev _ (Expr.Name _ _) _ _))); refine ev_loc (by assumption) (by walk_at "lk") (by rfl) ?_) | ((with_reducible show Ev _ (Expr.Constant (Const.int _) _ _) _ _); refine ev_int ?_) | ((fail_if_success (fail_if_success (with_reducible show Ev _ (Expr.BinOp _ Operator.BitAnd _ _) _ _))); refine ev_and ?_) | ((fail_if_success (fail_if_success (with_reducible show Ev _ (Expr.Subscript (Expr.Name _ _) _ _) _ _))); refine ev_sel ?_) | ((with_reducible show Ev _ (Expr.Call (Expr.Name (Str.ofString "len") _) _ _ _) _ _); refine ev_bcall (id := "len") (by assumption) (by rfl) (by boot_by_name) (by decide) ?_) | ((fail_if_success (fail_if_success (with_reducible show Ev _ (Expr.BoolOp BoolOp.Or _ _) _ _))); refine ev_or2 ?_) | ((fail_if_success (fail_if_success (with_reducible show Ev _ (Expr.Compare _ [CmpOp.Eq] _ _) _ _))); refine ev_eq (by assumption) ?_) | ((fail_if_success (fail_if_success (with_reducible show ExB _ _ _ _))); with_reducible refine exb_cons ?_) | ((fail_if_success (fail_if_success (with_reducible show EvL _ _ _ _ _))); refine evl_cons ?_) | ((fail_if_success (fail_if_success (with_reducible show EvL _ _ _ _ _))); refine evl_nil ?_) | ((with_reducible show Ex _ (Stmt.Return _ _) _ _); refine ex_return ?_) | ((with_reducible show Exists _); with_reducible refine ⟨_, _, rfl, rfl, ?_⟩) | ((with_reducible show Exists _); with_reducible refine ⟨_, _, rfl, item_int ?_ ?_ ?_, ?_⟩) | ((with_reducible show Exists _); with_reducible refine ⟨_, eqr_int, ?_⟩) | ((with_reducible show Exists _); with_reducible refine ⟨_, bi_lenI ?_, ?_⟩) | ((with_reducible show Exists _); with_reducible refine ⟨_, rfl, ?_⟩) | ((with_reducible show _ ≤ _); first | walk_at "o" | (rw [List.length_map]; omega) | (simp only [List.length_cons, List.length_nil]; omega)) | ((with_reducible show _ < _); first | walk_at "o" | (rw [List.length_map]; omega)) | ((fail_if_success (fail_if_success (with_reducible show ite _ _ _))); with_reducible (refine if_dec ?_ ?_ <;> intro _)) | (with_reducible refine sq_ret ?_) | (with_reducible refine ret_is ?_))
  · rename_i a
    rw [show N = 0 from (lim_len0 (w := w) (by walk_at "o")).mp (by walk_at "o")]; rfl
  · rename_i a
    have hn : N ≠ 0 := fun e => a (by rw [e, lim_zero]; rfl)
    rw [and1]
    have := even_lim hw hn
    rw [Int.toNat_zero, this]
    have e : (((N % 2 : Nat) : Int) = 0) = (N % 2 = 0) := propext (by walk_at "o")
    simp only [e]
set_option maxHeartbeats 400000 in
theorem compare_ok {w : Nat} (hw : w ≠ 0) (M N : Nat) (hl : (lim w M).length ≤ 100000) (hm : (lim w N).length ≤ 100000) : Ok (GG W mean mg mb) 1 79 [avI (lim w M), avI (lim w N)] (.int (if M < N then -1 else if M = N then 0 else 1)) := by
  refine ok_fn (names := ["a", "b"]) (by exact rfl) (by rfl) (vec2 fun _ _ => rfl) (by decide) rfl (by decide) (by decide) rfl rfl rfl ?_
  intro A h₀ P ok
  repeat' (first | ((fail_if_success (fail_if_success (with_reducible show Ev _ (Expr.Name _ _) _ _))); refine ev_loc (by assumption) (by walk_at "lk") (by rfl) ?_) | ((with_reducible show Ev _ (Expr.Constant (Const.int _) _ _) _ _); refine ev_int ?_) | ((fail_if_success (fail_if_success (with_reducible show Ev _ (Expr.BinOp _ Operator.Sub _ _) _ _))); refine ev_sub ?_) | ((with_reducible show Ev _ (Expr.Call (Expr.Name (Str.ofString "len") _) _ _ _) _ _); refine ev_bcall (id := "len") (by assumption) (by rfl) (by boot_by_name) (by decide) ?_) | ((fail_if_success (fail_if_success (with_reducible show Ev _ (Expr.UnaryOp UnaryOp.USub _ _) _ _))); refine ev_neg ?_) | ((fail_if_success (fail_if_success (with_reducible show Ev _ (Expr.IfExp _ _ _ _) _ _))); refine ev_if ?_) | ((fail_if_success (fail_if_success (with_reducible show ExB _ _ _ _))); with_reducible refine exb_cons ?_) | ((fail_if_success (fail_if_success (with_reducible show ExB _ _ _ _))); refine exb_nil ?_) | ((fail_if_success (fail_if_success (with_reducible show EvL _ _ _ _ _))); refine evl_cons ?_) | ((fail_if_success (fail_if_success (with_reducible show EvL _ _ _ _ _))); refine evl_nil ?_) | ((fail_if_success (fail_if_success (with_reducible show Tr _ (Expr.Compare _ [CmpOp.Lt] _ _) _ _))); refine tr_lt ?_) | ((fail_if_success (fail_if_success (with_reducible show Tr _ (Expr.Compare _ [CmpOp.NotEq] _ _) _ _))); refine tr_ne (by assumption) ?_) | ((with_reducible show Ex _ (Stmt.For _ (Expr.Call (Expr.Name (Str.ofString "range") _) [_, _, _] _ _) _ _ _) _ _); refine ex_forD (by assumption) (by rfl) (by boot_by_name) ?_) | ((with_reducible show Ex _ (Stmt.If _ _ _ _) _ _); refine ex_if ?_) | ((with_reducible show Ex _ (Stmt.Return _ _) _ _); refine ex_return ?_) | ((with_reducible show Exists _); with_reducible refine ⟨_, _, rfl, rfl, ?_⟩) | ((with_reducible show Exists _); with_reducible refine ⟨_, ner_int, ?_⟩) | ((with_reducible show Exists _); with_reducible refine ⟨_, bi_lenI ?_, ?_⟩) | ((with_reducible show Exists _); with_reducible refine ⟨_, rfl, ?_⟩) | ((with_reducible show Exists _); with_reducible refine ⟨_, _, rfl, ?_⟩) | ((with_reducible show _ ∧ _); refine And.intro ?_ ?_) | ((with_reducible show _ ≤ _); first | walk_at "o" | (rw [List.length_map]; omega) | (simp only [List.length_cons, List.length_nil]; omega)) | ((with_reducible show _ < _); first | walk_at "o" | (rw [List.length_map]; omega)) | ((fail_if_success (fail_if_success (with_reducible show ite _ _ _))); with_reducible (refine if_dec ?_ ?_ <;> intro _)) | ((fail_if_success (fail_if_success (with_reducible show ite _ _ _))); with_reducible (refine if_ndec ?_ ?_ <;> intro _)) | (with_reducible refine sq_next ?_) | (with_reducible refine sq_ret ?_) | (with_reducible refine ret_is ?_))
  · rename_i a b
    rw [if_pos (len_lt_lt hw (by walk_at "o"))]
  · rename_i a b
    have h := len_lt_lt (w := w) hw (a := N) (b := M) (by walk_at "o")
    rw [if_neg (by walk_at "o"), if_neg (by walk_at "o")]
  · rename_i he
    have he : (lim w M).length = (lim w N).length := by omega
    refine ⟨fun i c => Inv (look "a" c.loc = some (avI (lim w M)) ∧ look "b" c.loc = some (avI (lim w N)) ∧ (lim w M).drop ((lim w M).length - i) = (lim w N).drop ((lim w M).length - i)), ⟨by walk_at "lk", by walk_at "lk", by simp [he]⟩, ?_, ?_⟩
    · intro i c hi hI; (first | refine an3 hI fun h1 h2 h3 => ?_ | refine an3 hI.out fun h1 h2 h3 => ?_); clear hI
      have hi' : i < (lim w M).length := by omega
      have e1 : ((lim w M).length : Int) - 1 - i = (((lim w M).length - 1 - i : Nat) : Int) := by omega
      have e2 : (lim w M).length - 1 - i + 1 = (lim w M).length - i := by omega
      rw [e1]
      repeat' (first | ((fail_if_success (fail_if_success (with_reducible show Ev _ (Expr.Name _ _) _ _))); refine ev_loc (by assumption) (by walk_at "lk") (by rfl) ?_) | ((with_reducible show Ev _ (Expr.Constant (Const.int _) _ _) _ _); refine ev_int ?_) | ((fail_if_success (fail_if_success (with_reducible show Ev _ (Expr.Subscript (Expr.Name _ _) _ _) _ _))); refine ev_sel ?_) | ((fail_if_success (fail_if_success (with_reducible show Ev _ (Expr.UnaryOp UnaryOp.USub _ _) _ _))); refine ev_neg ?_) | ((fail_if_success (fail_if_success (with_reducible show Ev _ (Expr.IfExp _ _ _ _) _ _))); refine ev_if ?_) | ((fail_if_success (fail_if_success (with_reducible show ExB _ _ _ _))); with_reducible refine exb_cons ?_) | ((fail_if_success (fail_if_success (with_reducible show ExB _ _ _ _))); refine exb_nil ?_) | ((fail_if_success (fail_if_success (with_reducible show Tr _ (Expr.Compare _ [CmpOp.Lt] _ _) _ _))); refine tr_lt ?_) | ((fail_if_success (fail_if_success (with_reducible show Tr _ (Expr.Compare _ [CmpOp.NotEq] _ _) _ _))); refine tr_ne (by assumption) ?_) | ((with_reducible show Ex _ (Stmt.If _ _ _ _) _ _); refine ex_if ?_) | ((with_reducible show Ex _ (Stmt.Return _ _) _ _); refine ex_return ?_) | ((with_reducible show Exists _); with_reducible refine ⟨_, _, rfl, rfl, ?_⟩) | ((with_reducible show Exists _); with_reducible refine ⟨_, _, rfl, item_int ?_ ?_ ?_, ?_⟩) | ((with_reducible show Exists _); with_reducible refine ⟨_, ner_int, ?_⟩) | ((with_reducible show Exists _); with_reducible refine ⟨_, rfl, ?_⟩) | ((with_reducible show _ ≤ _); first | walk_at "o" | (rw [List.length_map]; omega) | (simp only [List.length_cons, List.length_nil]; omega)) | ((with_reducible show _ < _); first | walk_at "o" | (rw [List.length_map]; omega)) | ((fail_if_success (fail_if_success (with_reducible show ite _ _ _))); with_reducible (refine if_dec ?_ ?_ <;> intro _)) | ((fail_if_success (fail_if_success (with_reducible show ite _ _ _))); with_reducible (refine if_ndec ?_ ?_ <;> intro _)) | (with_reducible refine sq_next ?_) | (with_reducible refine sq_ret ?_) | (with_reducible refine lq_next ?_) | (with_reducible refine lq_ret ?_) | (with_reducible refine ret_is ?_))
      · rename_i a b
        rw [Int.toNat_natCast] at b
        have := top_lt (lim_wf (w := w) M) (lim_wf N) he (k := (lim w M).length - 1 - i) (by walk_at "o") (by rw [e2]; exact h3) b
        rw [val_lim hw, val_lim hw] at this
        rw [if_pos (by walk_at "o")]
      · rename_i a b
        rw [Int.toNat_natCast] at a b
        have := top_lt (lim_wf (w := w) N) (lim_wf M) he.symm (k := (lim w M).length - 1 - i) (by walk_at "o") (by rw [e2]; exact h3.symm) (by walk_at "o")
        rw [val_lim hw, val_lim hw] at this
        rw [if_neg (by walk_at "o"), if_neg (by walk_at "o")]
      · rename_i a
        rw [Int.toNat_natCast] at a
        have hd : (lim w M).length - (i + 1) = (lim w M).length - 1 - i := by omega
        refine ⟨by walk_at "lk", by walk_at "lk", ?_⟩
        rw [hd, drop_cons (by walk_at "o"), drop_cons (l := lim w N) (by walk_at "o"), e2, h3, a]
    · intro c hI; (first | refine an3 hI fun h1 h2 h3 => ?_ | refine an3 hI.out fun h1 h2 h3 => ?_); clear hI
      have : (lim w M) = lim w N := by simpa [show (lim w M).length - (((lim w M).length : Int) - 1 - -1).toNat = 0 by omega] using h3
      have hmn := lim_inj hw this
      repeat' (first | ((with_reducible show Ev _ (Expr.Constant (Const.int _) _ _) _ _); refine ev_int ?_) | ((fail_if_success (fail_if_success (with_reducible show ExB _ _ _ _))); with_reducible refine exb_cons ?_) | ((with_reducible show Ex _ (Stmt.Return _ _) _ _); refine ex_return ?_) | (with_reducible refine sq_next ?_) | (with_reducible refine sq_ret ?_) | (with_reducible refine ret_is ?_))
      rw [if_neg (by walk_at "o"), if_pos hmn]
end
section
variable {W : World} {mean : ExcName → Option Value} {mg mb : Str → Option Value}
set_option maxHeartbeats 400000 in
theorem sub_ok {w : Nat} (hw : 1 ≤ w) (hw2 : w ≤ 60) (M N : Nat) (hle : N ≤ M) (hl : (lim w M).length ≤ 10000) (hm : (lim w N).length ≤ 10000) : Ok (GG W mean mg mb) 2 93 [avI (lim w M), avI (lim w N), .int w] (avI (lim w (M - N))) := by
  refine ok_fn (names := ["a", "b", "w"]) (by exact rfl) (by rfl) (vec3 fun _ _ _ => rfl) (by decide) rfl (by decide) (by decide) rfl rfl rfl ?_
  intro A h₀ P ok
  repeat' (first | ((fail_if_success (fail_if_success (with_reducible show Ev _ (Expr.Name _ _) _ _))); refine ev_loc (by assumption) (by walk_at "lk") (by rfl) ?_) | ((fail_if_success (fail_if_success (with_reducible show Ev _ (Expr.Name _ _) _ _))); refine ev_global (by assumption) (by rfl) ?_) | ((fail_if_success (fail_if_success (with_reducible show Ev _ (Expr.Call (Expr.Name _ _) _ _ _) _ _))); refine ev_call (by assumption) ?_) | ((fail_if_success (fail_if_success (with_reducible show ExB _ _ _ _))); with_reducible refine exb_cons ?_) | ((fail_if_success (fail_if_success (with_reducible show EvL _ _ _ _ _))); refine evl_cons ?_) | ((fail_if_success (fail_if_success (with_reducible show EvL _ _ _ _ _))); refine evl_nil ?_) | ((fail_if_success (fail_if_success (with_reducible show Tr _ (Expr.Compare _ [CmpOp.Lt] _ _) _ _))); refine tr_lt ?_) | ((with_reducible show Ex _ (Stmt.If _ _ _ _) _ _); refine ex_if ?_) | ((with_reducible show ∃ a, _ = AV.fn a ∧ _ ∧ _); refine ⟨_, rfl, by rfl, ?_⟩))
  refine ⟨1, _, Nat.le_of_ble_eq_true rfl, compare_ok (by walk_at "o") M N (by walk_at "o") (by walk_at "o"), ?_⟩
  rw [if_neg (show ¬ M < N by omega)]
  repeat' (first | ((fail_if_success (fail_if_success (with_reducible show Ev _ (Expr.Name _ _) _ _))); refine ev_loc (by assumption) (by walk_at "lk") (by rfl) ?_) | ((with_reducible show Ev _ (Expr.Constant (Const.int _) _ _) _ _); refine ev_int ?_) | ((fail_if_success (fail_if_success (with_reducible show Ev _ (Expr.BinOp _ Operator.LShift _ _) _ _))); refine ev_shl ?_) | ((with_reducible show Ev _ (Expr.Call (Expr.Name (Str.ofString "len") _) _ _ _) _ _); refine ev_bcall (id := "len") (by assumption) (by rfl) (by boot_by_name) (by decide) ?_) | ((with_reducible show ExB _ (Stmt.Raise _ _ _ :: _) _ _); exfalso; omega) | ((fail_if_success (fail_if_success (with_reducible show ExB _ _ _ _))); with_reducible refine exb_cons ?_) | ((fail_if_success (fail_if_success (with_reducible show ExB _ _ _ _))); refine exb_nil ?_) | ((fail_if_success (fail_if_success (with_reducible show EvL _ _ _ _ _))); refine evl_cons ?_) | ((fail_if_success (fail_if_success (with_reducible show EvL _ _ _ _ _))); refine evl_nil ?_) | ((with_reducible show Ex _ (Stmt.For _ (Expr.Call (Expr.Name (Str.ofString "range") _) [_] _ _) _ _ _) _ _); refine ex_forU (by assumption) (by rfl) (by boot_by_name) ?_) | ((with_reducible show Ex _ (Stmt.Assign [Expr.Tuple [Expr.Name (Str.ofString "found") _, _, _] _ _] (Expr.Tuple _ _ _) _) _ _); refine ex_tup3O (by assumption) ?_) | ((with_reducible show EvN _ _ _ _); first | refine evn_nil ?_ | refine evn_rep ?_) | ((with_reducible show Cx.own _ = _); first | rfl | assumption) | ((with_reducible show Exists _); with_reducible refine ⟨_, _, rfl, rfl, ?_⟩) | ((with_reducible show Exists _); with_reducible refine ⟨_, bi_lenI ?_, ?_⟩) | ((with_reducible show Exists _); with_reducible refine ⟨_, rfl, ?_⟩) | ((with_reducible show _ ∧ _); refine And.intro ?_ ?_) | ((with_reducible show _ ≤ _); first | walk_at "o" | (rw [List.length_map]; omega) | (simp only [List.length_cons, List.length_nil]; omega)) | ((with_reducible show _ < _); first | walk_at "o" | (rw [List.length_map]; omega)) | ((fail_if_success (fail_if_success (with_reducible show ite _ _ _))); with_reducible (refine if_dec ?_ ?_ <;> intro _)) | (with_reducible refine sq_next ?_))
  have len1 : ∀ f : List Int, f.length ≤ (lim w M).length → (f.map AV.int).length ≤ 100000 := fun f h => by rw [List.length_map]; omega
  have hlen : (lim w N).length ≤ (lim w M).length := by
    rcases Nat.lt_or_ge (lim w M).length (lim w N).length with h | h
    · have := len_lt_lt (w := w) (by walk_at "o") h; omega
    · exact h
  refine ⟨fun i c => Inv (∃ (f : List Int) (k : Int), look "a" c.loc = some (avI (lim w M)) ∧ look "b" c.loc = some (avI (lim w N)) ∧ look "base" c.loc = some (.int (2 ^ w)) ∧ look "borrow" c.loc = some (.int k) ∧ look "found" c.loc = some .own ∧
    c.own = some (true, f.map .int) ∧ Wf w f ∧ f.length = i ∧ 0 ≤ k ∧ k ≤ 1 ∧ val w f - 2 ^ (w * f.length) * k = val w ((lim w M).take i) - val w ((lim w N).take i)), ⟨[], 0, by walk_at "lk", by walk_at "lk", lk_int (by walk_at "lk") shl_eq, by walk_at "lk", by walk_at "lk", rfl, .nil, rfl, by walk_at "o", by walk_at "o", by simp [val]⟩, ?_, ?_⟩
  · rintro i c hi hI; (first | refine ex2 hI fun f k hI => ?_ | refine ex2 hI.out fun f k hI => ?_); refine an11 hI fun g1 g2 g3 g5 g6 g7 g8 g9 g10 g11 g12 => ?_; clear hI
    have b1 := (lim_wf (w := w) M).get i
    have b2 := (lim_wf (w := w) N).get i
    have b3 : ¬ ((i : Int) < ((lim w N).length : Int)) → (lim w N).getD i 0 = 0 := fun h => by
      rw [List.getD_eq_getElem?_getD, List.getElem?_eq_none (by walk_at "o")]; rfl
    have hp := pw w
    have e3 : ∀ m : Int, val w (f ++ [m]) - 2 ^ (w * (f ++ [m]).length) * 0 = val w f + 2 ^ (w * f.length) * m := fun m => by rw [val_snoc]; omega
    have e4 : ∀ m : Int, val w (f ++ [m + 2 ^ w]) - 2 ^ (w * (f ++ [m + 2 ^ w]).length) * 1 = val w f + 2 ^ (w * f.length) * m := fun m => by
      rw [val_snoc, List.length_append, List.length_singleton, pow_succ_mul, Int.mul_add]; omega
    have st : ∀ m, m = (lim w M).getD i 0 - k - (lim w N).getD i 0 → val w f + 2 ^ (w * f.length) * m = val w ((lim w M).take (i + 1)) - val w ((lim w N).take (i + 1)) := fun m h => by
      rw [val_take_succ, val_take_succ, h, ← g9, Int.mul_sub, Int.mul_sub]
      rw [← g9] at g12
      omega
    repeat' (first | ((fail_if_success (fail_if_success (with_reducible show Ev _ (Expr.Name _ _) _ _))); refine ev_loc (by assumption) (by walk_at "lk") (by rfl) ?_) | ((with_reducible show Ev _ (Expr.Constant (Const.int _) _ _) _ _); refine ev_int ?_) | ((fail_if_success (fail_if_success (with_reducible show Ev _ (Expr.BinOp _ Operator.Add _ _) _ _))); refine ev_add ?_) | ((fail_if_success (fail_if_success (with_reducible show Ev _ (Expr.BinOp _ Operator.Sub _ _) _ _))); refine ev_sub ?_) | ((fail_if_success (fail_if_success (with_reducible show Ev _ (Expr.Subscript (Expr.Name _ _) _ _) _ _))); refine ev_sel ?_) | ((with_reducible show Ev _ (Expr.Call (Expr.Name (Str.ofString "len") _) _ _ _) _ _); refine ev_bcall (id := "len") (by assumption) (by rfl) (by boot_by_name) (by decide) ?_) | ((fail_if_success (fail_if_success (with_reducible show Ev _ (Expr.IfExp _ _ _ _) _ _))); refine ev_if ?_) | ((fail_if_success (fail_if_success (with_reducible show ExB _ _ _ _))); with_reducible refine exb_cons ?_) | ((fail_if_success (fail_if_success (with_reducible show ExB _ _ _ _))); refine exb_nil ?_) | ((fail_if_success (fail_if_success (with_reducible show EvL _ _ _ _ _))); refine evl_cons ?_) | ((fail_if_success (fail_if_success (with_reducible show EvL _ _ _ _ _))); refine evl_nil ?_) | ((fail_if_success (fail_if_success (with_reducible show Tr _ (Expr.Compare _ [CmpOp.Lt] _ _) _ _))); refine tr_lt ?_) | ((with_reducible show Ex _ (Stmt.Assign [Expr.Name _ _] _ _) _ _); refine ex_assign (by assumption) ?_) | ((with_reducible show Ex _ (Stmt.Expr (Expr.Call (Expr.Attribute _ _ _) _ _ _) _) _ _); refine ex_appO (by assumption) (by walk_at "lk") (by first | rfl | assumption) ?_) | ((with_reducible show ∃ l, Cx.own _ = some (true, l) ∧ _); refine ⟨_, by first | rfl | assumption, ?_, ?_⟩) | ((with_reducible show Exists _); with_reducible refine ⟨_, _, rfl, rfl, ?_⟩) | ((with_reducible show Exists _); with_reducible refine ⟨_, _, rfl, item_int ?_ ?_ ?_, ?_⟩) | ((with_reducible show Exists _); with_reducible refine ⟨_, bi_lenI ?_, ?_⟩) | ((with_reducible show _ ≤ _); first | walk_at "o" | (rw [List.length_map]; omega) | (simp only [List.length_cons, List.length_nil]; omega)) | ((with_reducible show _ < _); first | walk_at "o" | (rw [List.length_map]; omega)) | ((fail_if_success (fail_if_success (with_reducible show ite _ _ _))); with_reducible (refine if_dec ?_ ?_ <;> intro _)) | (with_reducible refine sq_next ?_) | (with_reducible refine lq_next ?_))
    all_goals first | (exfalso; omega) | exact len1 f (by walk_at "o") | skip
    all_goals simp only [Int.toNat_natCast, Int.one_mul] at *
    · refine ⟨f ++ [((lim w M).getD i 0 - k - (lim w N).getD i 0) + 2 ^ w], 1, by walk_at "lk", by walk_at "lk", by walk_at "lk", by walk_at "lk", by walk_at "lk", by simp [Cx.put, Cx.setOwn], g8.snoc (by walk_at "o") (by walk_at "o"), by simp [g9], by walk_at "o", by walk_at "o", ?_⟩
      rw [e4, st _ (by walk_at "o")]
    · refine ⟨f ++ [((lim w M).getD i 0 - k - (lim w N).getD i 0)], 0, by walk_at "lk", by walk_at "lk", by walk_at "lk", by walk_at "lk", by walk_at "lk", by simp [Cx.put, Cx.setOwn], g8.snoc (by walk_at "o") (by walk_at "o"), by simp [g9], by walk_at "o", by walk_at "o", ?_⟩
      rw [e3, st _ (by walk_at "o")]
    · refine ⟨f ++ [((lim w M).getD i 0 - k - 0) + 2 ^ w], 1, by walk_at "lk", by walk_at "lk", by walk_at "lk", by walk_at "lk", by walk_at "lk", by simp [Cx.put, Cx.setOwn], g8.snoc (by walk_at "o") (by walk_at "o"), by simp [g9], by walk_at "o", by walk_at "o", ?_⟩
      rw [e4, st _ (by walk_at "o")]
    · refine ⟨f ++ [((lim w M).getD i 0 - k - 0)], 0, by walk_at "lk", by walk_at "lk", by walk_at "lk", by walk_at "lk", by walk_at "lk", by simp [Cx.put, Cx.setOwn], g8.snoc (by walk_at "o") (by walk_at "o"), by simp [g9], by walk_at "o", by walk_at "o", ?_⟩
      rw [e3, st _ (by walk_at "o")]
  rintro c1 hI; (first | refine ex2 hI fun f k hI => ?_ | refine ex2 hI.out fun f k hI => ?_); refine an11 hI fun g1 g2 g3 g5 g6 g7 g8 g9 g10 g11 g12 => ?_; clear hI
  have e1 : ((lim w M).length : Int).toNat = (lim w M).length := by omega
  rw [e1] at g9
  rw [e1, List.take_length, val_lim (by walk_at "o"), List.take_of_length_le hlen, val_lim (by walk_at "o")] at g12
  have hk : k = 0 := by
    have h1 := g8.val_lt
    have h2 := pow_pos' (w * f.length)
    rcases (by omega : k = 0 ∨ k = 1) with h | h
    · exact h
    · rw [h] at g12; omega
  subst hk
  repeat' (first | ((fail_if_success (fail_if_success (with_reducible show Ev _ (Expr.Name _ _) _ _))); refine ev_own (by assumption) (by walk_at "lk") (by first | rfl | assumption) ?_) | ((fail_if_success (fail_if_success (with_reducible show Ev _ (Expr.Name _ _) _ _))); refine ev_global (by assumption) (by rfl) ?_) | ((fail_if_success (fail_if_success (with_reducible show Ev _ (Expr.Call (Expr.Name _ _) _ _ _) _ _))); refine ev_call (by assumption) ?_) | ((fail_if_success (fail_if_success (with_reducible show ExB _ _ _ _))); with_reducible refine exb_cons ?_) | ((fail_if_success (fail_if_success (with_reducible show EvL _ _ _ _ _))); refine evl_cons ?_) | ((fail_if_success (fail_if_success (with_reducible show EvL _ _ _ _ _))); refine evl_nil ?_) | ((with_reducible show Ex _ (Stmt.Return _ _) _ _); refine ex_return ?_) | ((with_reducible show ∃ a, _ = AV.fn a ∧ _ ∧ _); refine ⟨_, rfl, by rfl, ?_⟩) | (with_reducible refine sq_next ?_))
  refine ⟨1, _, Nat.le_of_ble_eq_true rfl, normal_ok (by walk_at "o") f (M - N) g8 (by walk_at "o") (by walk_at "o"), ?_⟩
  repeat' (first | (with_reducible refine sq_ret ?_) | (with_reducible refine ret_is ?_))
  rfl
end
section
variable {W : World} {mean : ExcName → Option Value} {mg mb : Str → Option Value}
set_option maxHeartbeats 400000 in
theorem divrem_limb_ok {w : Nat} (hw : 1 ≤ w) (hw2 : w ≤ 60) (M n : Nat) (hn0 : n ≠ 0) (hn : n < 2 ^ w) (hl : (lim w M).length ≤ 10000) : Ok (GG W mean mg mb) 2 100 [avI (lim w M), .int n, .int w] (.tup [avI (lim w (M / n)), .int (M % n : Nat)]) := by
  refine ok_fn (names := ["a", "limb", "w"]) (by exact rfl) (by rfl) (vec3 fun _ _ _ => rfl) (by decide) rfl (by decide) (by decide) rfl rfl rfl ?_
  intro A h₀ P ok
  have h60 : (2 : Nat) ^ w ≤ 2 ^ 60 := Nat.pow_le_pow_right (by decide) hw2
  have hnw : (n : Int) < 2 ^ w := by rw [← pwc]; omega
  repeat' (first | ((fail_if_success (fail_if_success (with_reducible show Ev _ (Expr.Name _ _) _ _))); refine ev_loc (by assumption) (by walk_at "lk") (by rfl) ?_) | ((with_reducible show Ev _ (Expr.Constant (Const.int _) _ _) _ _); refine ev_int ?_) | ((fail_if_success (fail_if_success (with_reducible show Ev _ (Expr.BinOp _ Operator.Sub _ _) _ _))); refine ev_sub ?_) | ((with_reducible show Ev _ (Expr.Call (Expr.Name (Str.ofString "len") _) _ _ _) _ _); refine ev_bcall (id := "len") (by assumption) (by rfl) (by boot_by_name) (by decide) ?_) | ((fail_if_success (fail_if_success (with_reducible show Ev _ (Expr.UnaryOp UnaryOp.USub _ _) _ _))); refine ev_neg ?_) | ((with_reducible show ExB _ (Stmt.Raise _ _ _ :: _) _ _); exfalso; omega) | ((fail_if_success (fail_if_success (with_reducible show ExB _ _ _ _))); with_reducible refine exb_cons ?_) | ((fail_if_success (fail_if_success (with_reducible show ExB _ _ _ _))); refine exb_nil ?_) | ((fail_if_success (fail_if_success (with_reducible show EvL _ _ _ _ _))); refine evl_cons ?_) | ((fail_if_success (fail_if_success (with_reducible show EvL _ _ _ _ _))); refine evl_nil ?_) | ((fail_if_success (fail_if_success (with_reducible show Tr _ (Expr.Compare _ [CmpOp.Eq] _ _) _ _))); refine tr_eq (by assumption) ?_) | ((with_reducible show Ex _ (Stmt.For _ (Expr.Call (Expr.Name (Str.ofString "range") _) [_, _, _] _ _) _ _ _) _ _); refine ex_forD (by assumption) (by rfl) (by boot_by_name) ?_) | ((with_reducible show Ex _ (Stmt.Assign [Expr.Tuple [Expr.Name (Str.ofString "found") _, _] _ _] (Expr.Tuple _ _ _) _) _ _); refine ex_tup2O (by assumption) ?_) | ((with_reducible show Ex _ (Stmt.If _ _ _ _) _ _); refine ex_if ?_) | ((with_reducible show EvN _ _ _ _); first | refine evn_nil ?_ | refine evn_rep ?_) | ((with_reducible show Cx.own _ = _); first | rfl | assumption) | ((with_reducible show Exists _); with_reducible refine ⟨_, _, rfl, rfl, ?_⟩) | ((with_reducible show Exists _); with_reducible refine ⟨_, eqr_int, ?_⟩) | ((with_reducible show Exists _); with_reducible refine ⟨_, bi_lenI ?_, ?_⟩) | ((with_reducible show Exists _); with_reducible refine ⟨_, rfl, ?_⟩) | ((with_reducible show Exists _); with_reducible refine ⟨_, _, rfl, ?_⟩) | ((with_reducible show _ ∧ _); refine And.intro ?_ ?_) | ((with_reducible show _ ≤ _); first | walk_at "o" | (rw [List.length_map]; omega) | (simp only [List.length_cons, List.length_nil]; omega)) | ((with_reducible show _ < _); first | walk_at "o" | (rw [List.length_map]; omega)) | ((fail_if_success (fail_if_success (with_reducible show ite _ _ _))); with_reducible (refine if_dec ?_ ?_ <;> intro _)) | (with_reducible refine sq_next ?_))
  refine ⟨fun i c => Inv (∃ (b : Bool) (f : List Int) (r : Int), look "a" c.loc = some (avI (lim w M)) ∧ look "limb" c.loc = some (.int n) ∧ look "w" c.loc = some (.int w) ∧ look "rest" c.loc = some (.int r) ∧ look "found" c.loc = some .own ∧
    c.own = some (b, f.map .int) ∧ Wf w f ∧ f.length = (lim w M).length ∧ 0 ≤ r ∧ r < n ∧ val w ((lim w M).drop ((lim w M).length - i)) = n * val w (f.drop ((lim w M).length - i)) + r),
    ⟨true, List.replicate (lim w M).length 0, 0, by walk_at "lk", by walk_at "lk", by walk_at "lk", by walk_at "lk", by walk_at "lk", by simp [Cx.setOwn], wf_zeros _, by simp, by walk_at "o", by walk_at "o", by simp [val]⟩, ?_, ?_⟩
  · rintro i c hi hI; (first | refine ex3 hI fun b f r hI => ?_ | refine ex3 hI.out fun b f r hI => ?_); refine an11 hI fun g1 g2 g3 g5 g6 g7 g8 g9 g10 g11 g12 => ?_; clear hI
    have hi' : i < (lim w M).length := by omega
    have b1 := (lim_wf (w := w) M).get ((lim w M).length - 1 - i)
    have hp := pw w
    have e1 : ((lim w M).length : Int) - 1 - i = (((lim w M).length - 1 - i : Nat) : Int) := by omega
    have e2 : (lim w M).length - 1 - i + 1 = (lim w M).length - i := by omega
    have e3 : (lim w M).length - (i + 1) = (lim w M).length - 1 - i := by omega
    rw [e1]
    repeat' (first | ((fail_if_success (fail_if_success (with_reducible show Ev _ (Expr.Name _ _) _ _))); refine ev_loc (by assumption) (by walk_at "lk") (by rfl) ?_) | ((fail_if_success (fail_if_success (with_reducible show Ev _ (Expr.BinOp _ Operator.FloorDiv _ _) _ _))); refine ev_div ?_) | ((fail_if_success (fail_if_success (with_reducible show Ev _ (Expr.BinOp _ Operator.LShift _ _) _ _))); refine ev_shl ?_) | ((fail_if_success (fail_if_success (with_reducible show Ev _ (Expr.BinOp _ Operator.BitOr _ _) _ _))); refine ev_or ?_) | ((fail_if_success (fail_if_success (with_reducible show Ev _ (Expr.Subscript (Expr.Name _ _) _ _) _ _))); refine ev_sel ?_) | ((fail_if_success (fail_if_success (with_reducible show ExB _ _ _ _))); with_reducible refine exb_cons ?_) | ((fail_if_success (fail_if_success (with_reducible show ExB _ _ _ _))); refine exb_nil ?_) | ((with_reducible show Ex _ (Stmt.Assign [Expr.Name _ _] _ _) _ _); refine ex_assign (by assumption) ?_) | ((with_reducible show Ex _ (Stmt.Assign [Expr.Subscript _ _ _] _ _) _ _); refine ex_setO (by assumption) ?_) | ((with_reducible show Ex _ (Stmt.AugAssign _ _ _ _) _ _); refine ex_aug (by assumption) (by walk_at "lk") ?_) | ((with_reducible show ∃ f l k, Cx.own _ = some (f, l) ∧ _ ∧ _); refine ⟨_, _, _, by first | rfl | assumption, rfl, ?_, ?_, ?_, ?_⟩) | ((with_reducible show look _ _ = _); walk_at "lk") | ((with_reducible show Exists _); with_reducible refine ⟨_, _, rfl, rfl, ?_⟩) | ((with_reducible show Exists _); with_reducible refine ⟨_, _, rfl, item_int ?_ ?_ ?_, ?_⟩) | ((with_reducible show Exists _); with_reducible refine ⟨_, _, rfl, aug_modP ?_, ?_⟩) | ((with_reducible show _ ∧ _); refine And.intro ?_ ?_) | ((with_reducible show _ ≤ _); first | walk_at "o" | (rw [List.length_map]; omega) | (simp only [List.length_cons, List.length_nil]; omega)) | ((with_reducible show _ < _); first | walk_at "o" | (rw [List.length_map]; omega)) | (with_reducible refine sq_next ?_) | (with_reducible refine lq_next ?_))
    · generalize hj : (lim w M).length - 1 - i = j at *
      have e5 : Builtin.bitOr (r * 2 ^ ((w : Nat) : Int).toNat) ((lim w M).getD ((j : Nat) : Int).toNat 0) = r * 2 ^ w + (lim w M).getD j 0 := by
        rw [Int.toNat_natCast j, or_eq g10 b1.1 b1.2]
      rw [e5, Int.toNat_natCast j]
      generalize hm : r * 2 ^ w + (lim w M).getD j 0 = m
      have hm0 : 0 ≤ m := by have := Int.mul_nonneg g10 (Int.le_of_lt hp); omega
      have hr : r * 2 ^ w ≤ (n - 1) * 2 ^ w := Int.mul_le_mul_of_nonneg_right (by walk_at "o") (Int.le_of_lt hp)
      rw [Int.sub_mul] at hr
      refine ⟨false, f.set j (m / n), m % n, by walk_at "lk", by walk_at "lk", by walk_at "lk", by walk_at "lk", by walk_at "lk", by simp [Cx.put, Cx.setOwn, List.map_set], g8.set j (Int.ediv_nonneg hm0 (by walk_at "o")) (Int.ediv_lt_of_lt_mul (by walk_at "o") (by rw [Int.mul_comm]; omega)), by simp [g9], Int.emod_nonneg _ (by walk_at "o"), Int.emod_lt_of_pos _ (by walk_at "o"), ?_⟩
      rw [e3, drop_cons (by walk_at "o"), drop_cons (l := f.set j (m / n)) (by rw [List.length_set]; omega), val_cons, val_cons, List.drop_set_of_lt (by walk_at "o"), e2, g12]
      have h1 : (f.set j (m / n)).getD j 0 = m / n := by
        rw [List.getD_eq_getElem?_getD, List.getElem?_set_self (by walk_at "o")]; rfl
      rw [h1]
      have h2 := Int.mul_ediv_add_emod m n
      have h3 : (n : Int) * (m / n + 2 ^ w * val w (f.drop ((lim w M).length - i))) = n * (m / n) + 2 ^ w * (n * val w (f.drop ((lim w M).length - i))) := by
        rw [Int.mul_add, Int.mul_left_comm]
      rw [h3, Int.mul_add, Int.mul_comm (2 ^ w) r]
      omega
  · rintro c1 hI; (first | refine ex3 hI fun b f r hI => ?_ | refine ex3 hI.out fun b f r hI => ?_); refine an11 hI fun g1 g2 g3 g5 g6 g7 g8 g9 g10 g11 g12 => ?_; clear hI
    have e1 : (lim w M).length - ((lim w M).length - 1 - -1 : Int).toNat = 0 := by omega
    rw [e1, List.drop_zero, List.drop_zero, val_lim (by walk_at "o")] at g12
    have hv := g8.val_nonneg
    have hd : val w f = ((M / n : Nat) : Int) ∧ r = ((M % n : Nat) : Int) := by
      rw [Int.natCast_ediv, Int.natCast_emod]
      have := (Int.ediv_emod_unique (a := M) (b := n) (q := val w f) (r := r) (by walk_at "o")).mpr ⟨by walk_at "o", g10, g11⟩
      exact ⟨this.1.symm, this.2.symm⟩
    repeat' (first | ((fail_if_success (fail_if_success (with_reducible show Ev _ (Expr.Name _ _) _ _))); refine ev_own (by assumption) (by walk_at "lk") (by first | rfl | assumption) ?_) | ((fail_if_success (fail_if_success (with_reducible show Ev _ (Expr.Name _ _) _ _))); refine ev_global (by assumption) (by rfl) ?_) | ((fail_if_success (fail_if_success (with_reducible show Ev _ (Expr.Call (Expr.Name _ _) _ _ _) _ _))); refine ev_call (by assumption) ?_) | ((fail_if_success (fail_if_success (with_reducible show Ev _ (Expr.Tuple _ _ _) _ _))); refine ev_tuple ?_) | ((fail_if_success (fail_if_success (with_reducible show ExB _ _ _ _))); with_reducible refine exb_cons ?_) | ((fail_if_success (fail_if_success (with_reducible show EvL _ _ _ _ _))); refine evl_cons ?_) | ((fail_if_success (fail_if_success (with_reducible show EvL _ _ _ _ _))); refine evl_nil ?_) | ((with_reducible show Ex _ (Stmt.Return _ _) _ _); refine ex_return ?_) | ((with_reducible show ∃ a, _ = AV.fn a ∧ _ ∧ _); refine ⟨_, rfl, by rfl, ?_⟩) | (with_reducible refine sq_next ?_))
    refine ⟨1, _, Nat.le_of_ble_eq_true rfl, normal_ok (by walk_at "o") f (M / n) g8 hd.1 (by walk_at "o"), ?_⟩
    repeat' (first | ((fail_if_success (fail_if_success (with_reducible show Ev _ (Expr.Name _ _) _ _))); refine ev_loc (by assumption) (by walk_at "lk") (by rfl) ?_) | ((fail_if_success (fail_if_success (with_reducible show EvL _ _ _ _ _))); refine evl_cons ?_) | ((fail_if_success (fail_if_success (with_reducible show EvL _ _ _ _ _))); refine evl_nil ?_) | ((with_reducible show _ ∧ _); refine And.intro ?_ ?_) | ((with_reducible show _ ≤ _); first | walk_at "o" | (rw [List.length_map]; omega) | (simp only [List.length_cons, List.length_nil]; omega)) | (with_reducible refine sq_ret ?_) | (with_reducible refine ret_is ?_))
    rw [hd.2]
end
section
variable {W : World} {mean : ExcName → Option Value} {mg mb : Str → Option Value}
set_option maxHeartbeats 400000 in
theorem neg_rest {n : Nat} {z : Int} (hn : n ≠ 0) (h2 : z < 0) (h4 : z.natAbs % n ≠ 0) : z % n = n - (z.natAbs % n : Nat) := by
  have h5 : z = -(z.natAbs : Int) := by omega
  have h6 := Nat.mod_lt z.natAbs (Nat.pos_of_ne_zero hn)
  have h7 := Nat.mod_add_div z.natAbs n
  have h8 : z = (n - (z.natAbs % n : Nat)) + n * (-((z.natAbs / n : Nat) : Int) - 1) := by
    rw [Int.mul_sub, Int.mul_neg, ← Int.natCast_mul]; omega
  rw [h8, Int.add_mul_emod_self_left]
  have : ((n : Int) - (z.natAbs % n : Nat)) % n = n - (z.natAbs % n : Nat) := Int.emod_eq_of_lt (by walk_at "o") (by walk_at "o")
  rw [this, ← h8]
set_option maxHeartbeats 400000 in
theorem divrem_small_ok {w : Nat} (hw : 1 ≤ w) (hw2 : w ≤ 60) (M n : Nat) (hn0 : n ≠ 0) (hn : n < 2 ^ w) (hl : (lim w M).length ≤ 10000) : Ok (GG W mean mg mb) 3 296 [avI (lim w M), avI [(n : Int)], .int w] (.tup [avI (lim w (M / n)), avI (lim w (M % n))]) := by
  refine ok_fn (names := ["a", "b", "w"]) (by exact rfl) (by rfl) (vec3 fun _ _ _ => rfl) (by decide) rfl (by decide) (by decide) rfl rfl rfl ?_
  intro A h₀ P ok
  have h60 : (2 : Nat) ^ w ≤ 2 ^ 60 := Nat.pow_le_pow_right (by decide) hw2
  repeat' (first | ((fail_if_success (fail_if_success (with_reducible show Ev _ (Expr.Name _ _) _ _))); refine ev_loc (by assumption) (by walk_at "lk") (by rfl) ?_) | ((fail_if_success (fail_if_success (with_reducible show Ev _ (Expr.Name _ _) _ _))); refine ev_global (by assumption) (by rfl) ?_) | ((with_reducible show Ev _ (Expr.Constant (Const.int _) _ _) _ _); refine ev_int ?_) | ((fail_if_success (fail_if_success (with_reducible show Ev _ (Expr.Subscript (Expr.Name _ _) _ _) _ _))); refine ev_sel ?_) | ((fail_if_success (fail_if_success (with_reducible show Ev _ (Expr.Call (Expr.Name _ _) _ _ _) _ _))); refine ev_call (by assumption) ?_) | ((fail_if_success (fail_if_success (with_reducible show ExB _ _ _ _))); with_reducible refine exb_cons ?_) | ((fail_if_success (fail_if_success (with_reducible show EvL _ _ _ _ _))); refine evl_cons ?_) | ((fail_if_success (fail_if_success (with_reducible show EvL _ _ _ _ _))); refine evl_nil ?_) | ((with_reducible show Ex _ (Stmt.Assign [Expr.Tuple [_, _] _ _] _ _) _ _); refine ex_unpack2 (by assumption) ?_) | ((with_reducible show ∃ a, _ = AV.fn a ∧ _ ∧ _); refine ⟨_, rfl, by rfl, ?_⟩) | ((with_reducible show Exists _); with_reducible refine ⟨_, _, rfl, item_int ?_ ?_ ?_, ?_⟩) | ((with_reducible show _ ≤ _); first | walk_at "o" | (rw [List.length_map]; omega) | (simp only [List.length_cons, List.length_nil]; omega)))
  · exact Int.zero_lt_one
  refine ⟨2, _, Nat.le_of_ble_eq_true rfl, divrem_limb_ok hw hw2 M n hn0 hn hl, ?_⟩
  repeat' (first | ((fail_if_success (fail_if_success (with_reducible show Ev _ (Expr.Name _ _) _ _))); refine ev_loc (by assumption) (by walk_at "lk") (by rfl) ?_) | ((with_reducible show Ev _ (Expr.Constant (Const.int _) _ _) _ _); refine ev_int ?_) | ((fail_if_success (fail_if_success (with_reducible show Ev _ (Expr.IfExp _ _ _ _) _ _))); refine ev_if ?_) | ((fail_if_success (fail_if_success (with_reducible show Ev _ (Expr.Tuple _ _ _) _ _))); refine ev_tuple ?_) | ((fail_if_success (fail_if_success (with_reducible show Ev _ (Expr.List _ _) _ _))); refine ev_list ?_) | ((fail_if_success (fail_if_success (with_reducible show ExB _ _ _ _))); with_reducible refine exb_cons ?_) | ((fail_if_success (fail_if_success (with_reducible show EvL _ _ _ _ _))); refine evl_cons ?_) | ((fail_if_success (fail_if_success (with_reducible show EvL _ _ _ _ _))); refine evl_nil ?_) | ((fail_if_success (fail_if_success (with_reducible show Tr _ (Expr.Compare _ [CmpOp.Gt] _ _) _ _))); refine tr_gt ?_) | ((with_reducible show Ex _ (Stmt.Return _ _) _ _); refine ex_return ?_) | ((with_reducible show Exists _); with_reducible refine ⟨_, _, rfl, rfl, ?_⟩) | ((with_reducible show Exists _); with_reducible refine ⟨_, _, rfl, ?_⟩) | ((with_reducible show _ ∧ _); refine And.intro ?_ ?_) | ((with_reducible show _ ≤ _); first | walk_at "o" | (rw [List.length_map]; omega) | (simp only [List.length_cons, List.length_nil]; omega)) | ((fail_if_success (fail_if_success (with_reducible show ite _ _ _))); with_reducible (refine if_dec ?_ ?_ <;> intro _)) | (with_reducible refine sq_next ?_) | (with_reducible refine sq_ret ?_) | (with_reducible refine ret_is ?_))
  · rw [lim_one (by walk_at "o") (n := M % n) (by walk_at "o") (Nat.lt_of_lt_of_le (Nat.mod_lt _ (by walk_at "o")) (by walk_at "o"))]; rfl
  · rw [show M % n = 0 by walk_at "o", lim_zero]; rfl
set_option maxHeartbeats 400000 in
theorem divrem_school_ok {w : Nat} (hw : 1 ≤ w) (hw2 : w ≤ 60) (M n : Nat) (hn0 : n ≠ 0) (hn : n < 2 ^ w) (hl : (lim w M).length ≤ 10000) : Ok (GG W mean mg mb) 4 331 [avI (lim w M), avI (lim w n), .int w] (.tup [avI (lim w (M / n)), avI (lim w (M % n))]) := by
  refine ok_fn (names := ["a", "b", "w"]) (by exact rfl) (by rfl) (vec3 fun _ _ _ => rfl) (by decide) rfl (by decide) (by decide) rfl rfl rfl ?_
  intro A h₀ P ok
  have h60 : (2 : Nat) ^ w ≤ 2 ^ 60 := Nat.pow_le_pow_right (by decide) hw2
  have h1 : lim w n = [(n : Int)] := lim_one (by walk_at "o") hn0 hn
  have hl1 : (lim w n).length = 1 := by rw [h1]; rfl
  repeat' (first | ((fail_if_success (fail_if_success (with_reducible show Ev _ (Expr.Name _ _) _ _))); refine ev_loc (by assumption) (by walk_at "lk") (by rfl) ?_) | ((fail_if_success (fail_if_success (with_reducible show Ev _ (Expr.Name _ _) _ _))); refine ev_global (by assumption) (by rfl) ?_) | ((with_reducible show Ev _ (Expr.Constant (Const.int _) _ _) _ _); refine ev_int ?_) | ((with_reducible show Ev _ (Expr.Call (Expr.Name (Str.ofString "len") _) _ _ _) _ _); refine ev_bcall (id := "len") (by assumption) (by rfl) (by boot_by_name) (by decide) ?_) | ((fail_if_success (fail_if_success (with_reducible show Ev _ (Expr.Call (Expr.Name _ _) _ _ _) _ _))); refine ev_call (by assumption) ?_) | ((with_reducible show ExB _ (Stmt.Raise _ _ _ :: _) _ _); exfalso; omega) | ((fail_if_success (fail_if_success (with_reducible show ExB _ _ _ _))); with_reducible refine exb_cons ?_) | ((fail_if_success (fail_if_success (with_reducible show ExB _ _ _ _))); refine exb_nil ?_) | ((fail_if_success (fail_if_success (with_reducible show EvL _ _ _ _ _))); refine evl_cons ?_) | ((fail_if_success (fail_if_success (with_reducible show EvL _ _ _ _ _))); refine evl_nil ?_) | ((fail_if_success (fail_if_success (with_reducible show Tr _ (Expr.Compare _ [CmpOp.Lt] _ _) _ _))); refine tr_lt ?_) | ((fail_if_success (fail_if_success (with_reducible show Tr _ (Expr.Compare _ [CmpOp.Eq] _ _) _ _))); refine tr_eq (by assumption) ?_) | ((with_reducible show Ex _ (Stmt.If _ _ _ _) _ _); refine ex_if ?_) | ((with_reducible show ∃ a, _ = AV.fn a ∧ _ ∧ _); refine ⟨_, rfl, by rfl, ?_⟩) | ((with_reducible show Exists _); with_reducible refine ⟨_, eqr_int, ?_⟩) | ((with_reducible show Exists _); with_reducible refine ⟨_, bi_lenI ?_, ?_⟩) | ((with_reducible show _ ≤ _); first | walk_at "o" | (rw [List.length_map]; omega) | (simp only [List.length_cons, List.length_nil]; omega)) | ((fail_if_success (fail_if_success (with_reducible show ite _ _ _))); with_reducible (refine if_dec ?_ ?_ <;> intro _)) | (with_reducible refine sq_next ?_))
  refine ⟨1, _, Nat.le_of_ble_eq_true rfl, compare_ok (by walk_at "o") M n (by walk_at "o") (by walk_at "o"), ?_⟩
  repeat' (first | ((fail_if_success (fail_if_success (with_reducible show Ev _ (Expr.Name _ _) _ _))); refine ev_loc (by assumption) (by walk_at "lk") (by rfl) ?_) | ((fail_if_success (fail_if_success (with_reducible show Ev _ (Expr.Name _ _) _ _))); refine ev_global (by assumption) (by rfl) ?_) | ((with_reducible show Ev _ (Expr.Constant (Const.int _) _ _) _ _); refine ev_int ?_) | ((fail_if_success (fail_if_success (with_reducible show Ev _ (Expr.BinOp _ Operator.Sub _ _) _ _))); refine ev_sub ?_) | ((with_reducible show Ev _ (Expr.Subscript (Expr.Name _ _) (Expr.Slice none none none _) _) _ _); refine ev_allI (by assumption) (by walk_at "lk") ?_ ?_) | ((fail_if_success (fail_if_success (with_reducible show Ev _ (Expr.Subscript (Expr.Name _ _) _ _) _ _))); refine ev_sel ?_) | ((with_reducible show Ev _ (Expr.Call (Expr.Name (Str.ofString "len") _) _ _ _) _ _); refine ev_bcall (id := "len") (by assumption) (by rfl) (by boot_by_name) (by decide) ?_) | ((fail_if_success (fail_if_success (with_reducible show Ev _ (Expr.Call (Expr.Name _ _) _ _ _) _ _))); refine ev_call (by assumption) ?_) | ((fail_if_success (fail_if_success (with_reducible show Ev _ (Expr.UnaryOp UnaryOp.USub _ _) _ _))); refine ev_neg ?_) | ((fail_if_success (fail_if_success (with_reducible show Ev _ (Expr.Tuple _ _ _) _ _))); refine ev_tuple ?_) | ((fail_if_success (fail_if_success (with_reducible show Ev _ (Expr.List _ _) _ _))); refine ev_list ?_) | ((fail_if_success (fail_if_success (with_reducible show ExB _ _ _ _))); with_reducible refine exb_cons ?_) | ((fail_if_success (fail_if_success (with_reducible show ExB _ _ _ _))); refine exb_nil ?_) | ((fail_if_success (fail_if_success (with_reducible show EvL _ _ _ _ _))); refine evl_cons ?_) | ((fail_if_success (fail_if_success (with_reducible show EvL _ _ _ _ _))); refine evl_nil ?_) | ((fail_if_success (fail_if_success (with_reducible show Tr _ (Expr.Compare _ [CmpOp.Eq] _ _) _ _))); refine tr_eq (by assumption) ?_) | ((with_reducible show Ex _ (Stmt.Assign [Expr.Name _ _] _ _) _ _); refine ex_assign (by assumption) ?_) | ((with_reducible show Ex _ (Stmt.If _ _ _ _) _ _); refine ex_if ?_) | ((with_reducible show Ex _ (Stmt.Return _ _) _ _); refine ex_return ?_) | ((with_reducible show ∃ a, _ = AV.fn a ∧ _ ∧ _); refine ⟨_, rfl, by rfl, ?_⟩) | ((with_reducible show Exists _); with_reducible refine ⟨_, _, rfl, rfl, ?_⟩) | ((with_reducible show Exists _); with_reducible refine ⟨_, _, rfl, item_last ?_ ?_, ?_⟩) | ((with_reducible show Exists _); with_reducible refine ⟨_, eqr_int, ?_⟩) | ((with_reducible show Exists _); with_reducible refine ⟨_, bi_lenI ?_, ?_⟩) | ((with_reducible show Exists _); with_reducible refine ⟨_, rfl, ?_⟩) | ((with_reducible show _ ∧ _); refine And.intro ?_ ?_) | ((with_reducible show _ ≤ _); first | walk_at "o" | (rw [List.length_map]; omega) | (simp only [List.length_cons, List.length_nil]; omega)) | ((fail_if_success (fail_if_success (with_reducible show ite _ _ _))); with_reducible (refine if_dec ?_ ?_ <;> intro _)) | (with_reducible refine sq_next ?_) | (with_reducible refine sq_ret ?_) | (with_reducible refine ret_is ?_))
  · rename_i hc
    have hlt : M < n := by
      rcases Nat.lt_or_ge M n with h | h
      · exact h
      · rw [if_neg (by walk_at "o")] at hc; split at hc <;> omega
    rw [Nat.div_eq_of_lt hlt, Nat.mod_eq_of_lt hlt, lim_zero]; rfl
  all_goals first | (exfalso; omega) | skip
  rw [h1]
  refine ⟨3, _, Nat.le_of_ble_eq_true rfl, divrem_small_ok hw hw2 M n hn0 hn hl, ?_⟩
  repeat' (first | (with_reducible refine sq_ret ?_) | (with_reducible refine ret_is ?_))
  rfl
set_option maxHeartbeats 400000 in
theorem signed_rest_ok {w : Nat} (hw : 1 ≤ w) (hw2 : w ≤ 60) (z : Int) (n : Nat) (hz : z.natAbs < 2 ^ 1000) (hn0 : n ≠ 0) (hn : n < 2 ^ w) : Ok (GG W mean mg mb) 5 163 [.int z, avI (lim w n), .int w, .fn 331] (avI (lim w (z % n).toNat)) := by
  refine ok_fn (names := ["number", "n", "w", "divrem"]) (by exact rfl) (by rfl) (vec4 fun _ _ _ _ => rfl) (by decide) rfl (by decide) (by decide) rfl rfl rfl ?_
  intro A h₀ P ok
  have h1 : lim w n = [(n : Int)] := lim_one (by walk_at "o") hn0 hn
  have hl1 : (lim w n).length = 1 := by rw [h1]; rfl
  have hlz := lim_len_le (w := w) (by walk_at "o") hz
  repeat' (first | ((fail_if_success (fail_if_success (with_reducible show Ev _ (Expr.Name _ _) _ _))); refine ev_loc (by assumption) (by walk_at "lk") (by rfl) ?_) | ((fail_if_success (fail_if_success (with_reducible show Ev _ (Expr.Name _ _) _ _))); refine ev_global (by assumption) (by rfl) ?_) | ((fail_if_success (fail_if_success (with_reducible show Ev _ (Expr.Subscript _ _ _) _ _))); refine ev_sel ?_) | ((with_reducible show Ev _ (Expr.Call (Expr.Name (Str.ofString "abs") _) _ _ _) _ _); refine ev_bcall (id := "abs") (by assumption) (by rfl) (by boot_by_name) (by decide) ?_) | ((fail_if_success (fail_if_success (with_reducible show Ev _ (Expr.Call (Expr.Name _ _) _ _ _) _ _))); refine ev_call (by assumption) ?_) | ((fail_if_success (fail_if_success (with_reducible show ExB _ _ _ _))); with_reducible refine exb_cons ?_) | ((fail_if_success (fail_if_success (with_reducible show EvL _ _ _ _ _))); refine evl_cons ?_) | ((fail_if_success (fail_if_success (with_reducible show EvL _ _ _ _ _))); refine evl_nil ?_) | ((with_reducible show Ex _ (Stmt.Assign [Expr.Name _ _] _ _) _ _); refine ex_assign (by assumption) ?_) | ((with_reducible show ∃ a, _ = AV.fn a ∧ _ ∧ _); refine ⟨_, rfl, by rfl, ?_⟩) | ((with_reducible show Exists _); with_reducible refine ⟨_, bi_abs, ?_⟩))
  refine ⟨1, _, Nat.le_of_ble_eq_true rfl, nat_of_ok hw hw2 z.natAbs hz, ?_⟩
  repeat' (first | ((fail_if_success (fail_if_success (with_reducible show Ev _ (Expr.Name _ _) _ _))); refine ev_loc (by assumption) (by walk_at "lk") (by rfl) ?_) | ((fail_if_success (fail_if_success (with_reducible show EvL _ _ _ _ _))); refine evl_cons ?_) | ((fail_if_success (fail_if_success (with_reducible show EvL _ _ _ _ _))); refine evl_nil ?_))
  refine ⟨4, _, Nat.le_of_ble_eq_true rfl, divrem_school_ok hw hw2 z.natAbs n hn0 hn (by walk_at "o"), ?_⟩
  have hr := Nat.mod_lt z.natAbs (Nat.pos_of_ne_zero hn0)
  have hlr := lim_len_le (w := w) (n := z.natAbs % n) (k := 1000) (by walk_at "o") (Nat.lt_of_le_of_lt (Nat.mod_le _ _) hz)
  repeat' (first | ((fail_if_success (fail_if_success (with_reducible show Ev _ (Expr.Name _ _) _ _))); refine ev_loc (by assumption) (by walk_at "lk") (by rfl) ?_) | ((fail_if_success (fail_if_success (with_reducible show Ev _ (Expr.Name _ _) _ _))); refine ev_global (by assumption) (by rfl) ?_) | ((with_reducible show Ev _ (Expr.Constant (Const.int _) _ _) _ _); refine ev_int ?_) | ((fail_if_success (fail_if_success (with_reducible show Ev _ (Expr.Call (Expr.Name _ _) _ _ _) _ _))); refine ev_call (by assumption) ?_) | ((fail_if_success (fail_if_success (with_reducible show Ev _ (Expr.IfExp _ _ _ _) _ _))); refine ev_if ?_) | ((fail_if_success (fail_if_success (with_reducible show Ev _ (Expr.List _ _) _ _))); refine ev_list ?_) | ((fail_if_success (fail_if_success (with_reducible show ExB _ _ _ _))); with_reducible refine exb_cons ?_) | ((fail_if_success (fail_if_success (with_reducible show EvL _ _ _ _ _))); refine evl_cons ?_) | ((fail_if_success (fail_if_success (with_reducible show EvL _ _ _ _ _))); refine evl_nil ?_) | ((fail_if_success (fail_if_success (with_reducible show TrAll _ _ _ _ _))); refine trAll_and ?_) | ((fail_if_success (fail_if_success (with_reducible show TrAll _ _ _ _ _))); refine trAll_nilA ?_) | ((fail_if_success (fail_if_success (with_reducible show Tr _ (Expr.Compare _ [CmpOp.Lt] _ _) _ _))); refine tr_lt ?_) | ((fail_if_success (fail_if_success (with_reducible show Tr _ (Expr.Compare _ [CmpOp.NotEq] _ _) _ _))); refine tr_ne (by assumption) ?_) | ((fail_if_success (fail_if_success (with_reducible show Tr _ (Expr.BoolOp _ _ _) _ _))); refine tr_bool ?_) | ((with_reducible show Ex _ (Stmt.Return _ _) _ _); refine ex_return ?_) | ((with_reducible show ∃ a, _ = AV.fn a ∧ _ ∧ _); refine ⟨_, rfl, by rfl, ?_⟩) | ((with_reducible show Exists _); with_reducible refine ⟨_, _, rfl, rfl, ?_⟩) | ((with_reducible show Exists _); with_reducible refine ⟨_, _, rfl, item_t1, ?_⟩) | ((with_reducible show Exists _); with_reducible refine ⟨_, ner_list0, ?_⟩) | ((with_reducible show _ ∧ _); refine And.intro ?_ ?_) | ((with_reducible show _ ≤ _); first | walk_at "o" | (rw [List.length_map]; omega) | (simp only [List.length_cons, List.length_nil]; omega)) | ((fail_if_success (fail_if_success (with_reducible show ite _ _ _))); with_reducible refine if_tt ?_) | ((fail_if_success (fail_if_success (with_reducible show ite _ _ _))); with_reducible refine if_ff ?_) | ((fail_if_success (fail_if_success (with_reducible show ite _ _ _))); with_reducible (refine if_dec ?_ ?_ <;> intro _)) | ((fail_if_success (fail_if_success (with_reducible show ite _ _ _))); with_reducible (refine if_ndec ?_ ?_ <;> intro _)) | (with_reducible refine sq_next ?_) | (with_reducible refine sq_ret ?_) | (with_reducible refine ret_is ?_))
  · rename_i h2 h3
    have h4 : z.natAbs % n ≠ 0 := fun e => h3 (by rw [e, lim_zero])
    refine ⟨2, _, Nat.le_of_ble_eq_true rfl, sub_ok hw hw2 n (z.natAbs % n) (by walk_at "o") (by walk_at "o") (by walk_at "o"), ?_⟩
    have e : n - z.natAbs % n = (z % n).toNat := by
      have := neg_rest (n := n) hn0 h2 h4; omega
    rw [e]
    repeat' (first | (with_reducible refine sq_ret ?_) | (with_reducible refine ret_is ?_))
    rfl
  · rename_i h2 h3
    have h4 : z.natAbs % n = 0 := (lim_nil_iff (w := w) (by walk_at "o")).mp h3
    have e : (z % n).toNat = 0 := by
      have h5 : z % n = 0 := Int.emod_eq_zero_of_dvd (Int.ofNat_dvd_left.mpr (Nat.dvd_of_mod_eq_zero h4))
      omega
    rw [e, h4]
  · rename_i h2
    have e : (z % n).toNat = z.natAbs % n := by
      have h5 : (z.natAbs : Int) = z := by omega
      rw [show z % n = ((z.natAbs % n : Nat) : Int) by rw [Int.natCast_emod, h5]]; exact Int.toNat_natCast _
    rw [e]
end
section
variable {W : World} {mean : ExcName → Option Value} {mg mb : Str → Option Value}
set_option maxHeartbeats 400000 in
theorem mul_school_ok {w : Nat} (hw : 1 ≤ w) (hw2 : w ≤ 60) (M N : Nat) (hl : (lim w M).length ≤ 10000) (hm : (lim w N).length ≤ 10000) : Ok (GG W mean mg mb) 2 289 [avI (lim w M), avI (lim w N), .int w] (avI (lim w (M * N))) := by
  refine ok_fn (names := ["a", "b", "w"]) (by exact rfl) (by rfl) (vec3 fun _ _ _ => rfl) (by decide) rfl (by decide) (by decide) rfl rfl rfl ?_
  intro A h₀ P ok
  have h60 : (2 : Nat) ^ w ≤ 2 ^ 60 := Nat.pow_le_pow_right (by decide) hw2
  have h60' : (2 : Int) ^ w ≤ 2 ^ 60 := by rw [← pwc]; omega
  have hp := pw w
  repeat' (first | ((fail_if_success (fail_if_success (with_reducible show Ev _ (Expr.Name _ _) _ _))); refine ev_loc (by assumption) (by walk_at "lk") (by rfl) ?_) | ((with_reducible show Ev _ (Expr.Constant (Const.int _) _ _) _ _); refine ev_int ?_) | ((fail_if_success (fail_if_success (with_reducible show Ev _ (Expr.BinOp _ Operator.Add _ _) _ _))); refine ev_add ?_) | ((fail_if_success (fail_if_success (with_reducible show Ev _ (Expr.BinOp _ Operator.Sub _ _) _ _))); refine ev_sub ?_) | ((fail_if_success (fail_if_success (with_reducible show Ev _ (Expr.BinOp _ Operator.LShift _ _) _ _))); refine ev_shl ?_) | ((with_reducible show Ev _ (Expr.Call (Expr.Name (Str.ofString "len") _) _ _ _) _ _); refine ev_bcall (id := "len") (by assumption) (by rfl) (by boot_by_name) (by decide) ?_) | ((fail_if_success (fail_if_success (with_reducible show ExB _ _ _ _))); with_reducible refine exb_cons ?_) | ((fail_if_success (fail_if_success (with_reducible show EvL _ _ _ _ _))); refine evl_cons ?_) | ((fail_if_success (fail_if_success (with_reducible show EvL _ _ _ _ _))); refine evl_nil ?_) | ((with_reducible show Ex _ (Stmt.For _ (Expr.Call (Expr.Name (Str.ofString "enumerate") _) _ _ _) _ _ _) _ _); refine ex_forE (by assumption) (by rfl) (by boot_by_name) ?_) | ((with_reducible show Ex _ (Stmt.Assign [Expr.Tuple [Expr.Name (Str.ofString "found") _, _] _ _] (Expr.Tuple _ _ _) _) _ _); refine ex_tup2O (by assumption) ?_) | ((with_reducible show EvN _ _ _ _); first | refine evn_nil ?_ | refine evn_rep ?_) | ((with_reducible show Cx.own _ = _); first | rfl | assumption) | ((with_reducible show Exists _); with_reducible refine ⟨_, _, rfl, rfl, ?_⟩) | ((with_reducible show Exists _); with_reducible refine ⟨_, bi_lenI ?_, ?_⟩) | ((with_reducible show Exists _); with_reducible refine ⟨_, rfl, ?_⟩) | ((with_reducible show _ ∧ _); refine And.intro ?_ ?_) | ((with_reducible show _ ≤ _); first | walk_at "o" | (rw [List.length_map]; omega) | (simp only [List.length_cons, List.length_nil]; omega)) | ((with_reducible show _ < _); first | walk_at "o" | (rw [List.length_map]; omega)) | (with_reducible refine sq_next ?_))
  refine ⟨fun i c => Inv (∃ (b : Bool) (f : List Int), look "a" c.loc = some (avI (lim w M)) ∧ look "b" c.loc = some (avI (lim w N)) ∧ look "w" c.loc = some (.int w) ∧ look "mask" c.loc = some (.int (1 * 2 ^ ((w : Nat) : Int).toNat - 1)) ∧ look "found" c.loc = some .own ∧
    c.own = some (b, f.map .int) ∧ Wf w f ∧ f.length = (lim w M).length + (lim w N).length ∧ val w f = val w ((lim w M).take i) * N ∧ ∀ j, i + (lim w N).length ≤ j → f.getD j 0 = 0),
    ⟨true, List.replicate ((lim w M).length + (lim w N).length) 0, by walk_at "lk", by walk_at "lk", by walk_at "lk", by walk_at "lk", by walk_at "lk", by simp [Cx.setOwn]; omega, wf_zeros _, by simp, by rw [val_zeros]; simp [val], fun j _ => getD_rep _ _⟩, ?_, ?_⟩
  · rintro i v c hv hI; (first | refine ex2 hI fun b f hI => ?_ | refine ex2 hI.out fun b f hI => ?_); refine an10 hI fun g1 g2 g3 g4 g5 g7 g8 g9 g12 g13 => ?_; clear hI
    rw [List.getElem?_map] at hv
    have hi : i < (lim w M).length := by
      rcases Nat.lt_or_ge i (lim w M).length with h | h
      · exact h
      · rw [List.getElem?_eq_none h] at hv; cases hv
    have hv2 : v = .int ((lim w M).getD i 0) := by
      rw [List.getD_eq_getElem?_getD]
      rw [List.getElem?_eq_getElem hi] at hv ⊢
      exact (Option.some.inj hv).symm
    subst hv2
    have b1 := (lim_wf (w := w) M).get i
    repeat' (first | ((fail_if_success (fail_if_success (with_reducible show Ev _ (Expr.Name _ _) _ _))); refine ev_loc (by assumption) (by walk_at "lk") (by rfl) ?_) | ((with_reducible show Ev _ (Expr.Constant (Const.int _) _ _) _ _); refine ev_int ?_) | ((fail_if_success (fail_if_success (with_reducible show ExB _ _ _ _))); with_reducible refine exb_cons ?_) | ((with_reducible show Ex _ (Stmt.For _ (Expr.Call (Expr.Name (Str.ofString "enumerate") _) _ _ _) _ _ _) _ _); refine ex_forE (by assumption) (by rfl) (by boot_by_name) ?_) | ((with_reducible show Ex _ (Stmt.Assign [Expr.Name _ _] _ _) _ _); refine ex_assign (by assumption) ?_) | ((with_reducible show Exists _); with_reducible refine ⟨_, rfl, ?_⟩) | (with_reducible refine sq_next ?_))
    refine ⟨fun s c => Inv (∃ (b : Bool) (f' : List Int) (k : Int), look "a" c.loc = some (avI (lim w M)) ∧ look "b" c.loc = some (avI (lim w N)) ∧ look "w" c.loc = some (.int w) ∧ look "mask" c.loc = some (.int (1 * 2 ^ ((w : Nat) : Int).toNat - 1)) ∧ look "found" c.loc = some .own ∧ look "at" c.loc = some (.int i) ∧ look "limb" c.loc = some (.int ((lim w M).getD i 0)) ∧ look "carry" c.loc = some (.int k) ∧
      c.own = some (b, f'.map .int) ∧ Wf w f' ∧ f'.length = (lim w M).length + (lim w N).length ∧ 0 ≤ k ∧ k < 2 ^ w ∧ val w f' + 2 ^ (w * (i + s)) * k = val w f + 2 ^ (w * i) * ((lim w M).getD i 0 * val w ((lim w N).take s)) ∧ ∀ j, i + (lim w N).length ≤ j → f'.getD j 0 = 0),
      ⟨b, f, 0, by walk_at "lk", by walk_at "lk", by walk_at "lk", by walk_at "lk", by walk_at "lk", by walk_at "lk", by walk_at "lk", by walk_at "lk", g7, g8, g9, by walk_at "o", hp, by simp [val], g13⟩, ?_, ?_⟩
    · rintro s v c2 hv hI; (first | refine ex3 hI fun b' f' k hI => ?_ | refine ex3 hI.out fun b' f' k hI => ?_); refine an15 hI fun r1 r2 r3 r4 r5 r6 r7 r8 r9 r10 r11 r12 r13 r14 r15 => ?_; clear hI
      rw [List.getElem?_map] at hv
      have hs : s < (lim w N).length := by
        rcases Nat.lt_or_ge s (lim w N).length with h | h
        · exact h
        · rw [List.getElem?_eq_none h] at hv; cases hv
      have hv2 : v = .int ((lim w N).getD s 0) := by
        rw [List.getD_eq_getElem?_getD]
        rw [List.getElem?_eq_getElem hs] at hv ⊢
        exact (Option.some.inj hv).symm
      subst hv2
      have b2 := (lim_wf (w := w) N).get s
      have b3 := r10.get (i + s)
      have e1 : ((i : Int) + s).toNat = i + s := by omega
      repeat' (first | ((fail_if_success (fail_if_success (with_reducible show Ev _ (Expr.Name _ _) _ _))); refine ev_loc (by assumption) (by walk_at "lk") (by rfl) ?_) | ((fail_if_success (fail_if_success (with_reducible show Ev _ (Expr.BinOp _ Operator.Add _ _) _ _))); refine ev_add ?_) | ((fail_if_success (fail_if_success (with_reducible show Ev _ (Expr.BinOp _ Operator.Mult _ _) _ _))); refine ev_mul ?_) | ((fail_if_success (fail_if_success (with_reducible show Ev _ (Expr.BinOp _ Operator.BitAnd _ _) _ _))); refine ev_and ?_) | ((fail_if_success (fail_if_success (with_reducible show Ev _ (Expr.Subscript (Expr.Name _ _) _ _) _ _))); refine ev_itemO (by assumption) (by walk_at "lk") ?_) | ((fail_if_success (fail_if_success (with_reducible show ExB _ _ _ _))); with_reducible refine exb_cons ?_) | ((fail_if_success (fail_if_success (with_reducible show ExB _ _ _ _))); refine exb_nil ?_) | ((with_reducible show Ex _ (Stmt.Assign [Expr.Subscript _ _ _] _ _) _ _); refine ex_setO (by assumption) ?_) | ((with_reducible show Ex _ (Stmt.AugAssign _ _ _ _) _ _); refine ex_aug (by assumption) (by walk_at "lk") ?_) | ((with_reducible show ∃ f l k y, Cx.own _ = some (f, l) ∧ _ ∧ _); first | refine own_int (by first | rfl | assumption) ?_ ?_ ?_ ?_ | refine ⟨_, _, _, _, rfl, rfl, by decide, by decide, rfl, ?_⟩) | ((with_reducible show ∃ f l k, Cx.own _ = some (f, l) ∧ _ ∧ _); refine ⟨_, _, _, by first | rfl | assumption, rfl, ?_, ?_, ?_, ?_⟩) | ((with_reducible show look _ _ = _); walk_at "lk") | ((with_reducible show Exists _); with_reducible refine ⟨_, _, rfl, rfl, ?_⟩) | ((with_reducible show Exists _); with_reducible refine ⟨_, _, rfl, aug_add, ?_⟩) | ((with_reducible show Exists _); with_reducible refine ⟨_, _, rfl, aug_shrP ?_, ?_⟩) | ((with_reducible show _ ∧ _); refine And.intro ?_ ?_) | ((with_reducible show _ ≤ _); first | walk_at "o" | (rw [List.length_map]; omega) | (simp only [List.length_cons, List.length_nil]; omega)) | ((with_reducible show _ < _); first | walk_at "o" | (rw [List.length_map]; omega)) | ((with_reducible show _ ∨ _); first | (refine Or.inl ?_; walk_at "o") | omega) | (with_reducible refine sq_next ?_) | (with_reducible refine lq_next ?_))
      · rw [e1]
        generalize hx : (lim w M).getD i 0 = x at *
        generalize hy : (lim w N).getD s 0 = y at *
        generalize hz : f'.getD (i + s) 0 = z at *
        have hxy : x * y ≤ (2 ^ w - 1) * (2 ^ w - 1) := Int.mul_le_mul (by walk_at "o") (by walk_at "o") b2.1 (by walk_at "o")
        have hxy0 := Int.mul_nonneg b1.1 b2.1
        rw [Int.sub_mul, Int.mul_sub] at hxy
        generalize hm : k + (z + x * y) = m
        have hm0 := Int.emod_nonneg m (Int.ne_of_gt hp)
        have hm1 := Int.emod_lt_of_pos m hp
        rw [mask_eq (by walk_at "o"), Int.toNat_natCast w]
        refine ⟨false, f'.set (i + s) (m % 2 ^ w), m / 2 ^ w, by walk_at "lk", by walk_at "lk", by walk_at "lk", by walk_at "lk", by walk_at "lk", by walk_at "lk", by walk_at "lk", by walk_at "lk", by simp [Cx.put, Cx.setOwn, List.map_set], r10.set _ hm0 hm1, by simp [r11], Int.ediv_nonneg (by walk_at "o") (Int.le_of_lt hp), Int.ediv_lt_of_lt_mul hp (by walk_at "o"), ?_, fun j hj => by rw [getD_set_ne (by walk_at "o")]; exact r15 j hj⟩
        rw [val_set _ _ _ (by walk_at "o"), hz, ← Nat.add_assoc, pow_succ_mul, val_take_succ, hy]
        have h1 := Int.mul_ediv_add_emod m (2 ^ w)
        have h2 : (2 : Int) ^ (w * (i + s)) * (m % 2 ^ w - z) + 2 ^ (w * (i + s)) * 2 ^ w * (m / 2 ^ w) = 2 ^ (w * (i + s)) * k + 2 ^ (w * i) * (x * (2 ^ (w * s) * y)) := by
          have h3 : (2 : Int) ^ (w * (i + s)) = 2 ^ (w * i) * 2 ^ (w * s) := by rw [Nat.mul_add, Int.pow_add]
          have h4 : m % 2 ^ w = m - 2 ^ w * (m / 2 ^ w) := by omega
          rw [h4, ← hm, h3]
          grind
        rw [Int.mul_add x, Int.mul_add]
        omega
    · rintro c3 hI; (first | refine ex3 hI fun b' f' k hI => ?_ | refine ex3 hI.out fun b' f' k hI => ?_); refine an15 hI fun r1 r2 r3 r4 r5 r6 r7 r8 r9 r10 r11 r12 r13 r14 r15 => ?_; clear hI
      rw [List.length_map, List.take_length, val_lim (by walk_at "o")] at r14
      have e1 : ((i : Int) + (lim w N).length).toNat = i + (lim w N).length := by omega
      repeat' (first | ((fail_if_success (fail_if_success (with_reducible show Ev _ (Expr.Name _ _) _ _))); refine ev_loc (by assumption) (by walk_at "lk") (by rfl) ?_) | ((fail_if_success (fail_if_success (with_reducible show Ev _ (Expr.BinOp _ Operator.Add _ _) _ _))); refine ev_add ?_) | ((with_reducible show Ev _ (Expr.Call (Expr.Name (Str.ofString "len") _) _ _ _) _ _); refine ev_bcall (id := "len") (by assumption) (by rfl) (by boot_by_name) (by decide) ?_) | ((fail_if_success (fail_if_success (with_reducible show ExB _ _ _ _))); with_reducible refine exb_cons ?_) | ((fail_if_success (fail_if_success (with_reducible show ExB _ _ _ _))); refine exb_nil ?_) | ((fail_if_success (fail_if_success (with_reducible show EvL _ _ _ _ _))); refine evl_cons ?_) | ((fail_if_success (fail_if_success (with_reducible show EvL _ _ _ _ _))); refine evl_nil ?_) | ((with_reducible show Ex _ (Stmt.Assign [Expr.Subscript _ _ _] _ _) _ _); refine ex_setO (by assumption) ?_) | ((with_reducible show ∃ f l k, Cx.own _ = some (f, l) ∧ _ ∧ _); refine ⟨_, _, _, by first | rfl | assumption, rfl, ?_, ?_, ?_, ?_⟩) | ((with_reducible show look _ _ = _); walk_at "lk") | ((with_reducible show Exists _); with_reducible refine ⟨_, _, rfl, rfl, ?_⟩) | ((with_reducible show Exists _); with_reducible refine ⟨_, bi_lenI ?_, ?_⟩) | ((with_reducible show _ ∧ _); refine And.intro ?_ ?_) | ((with_reducible show _ ≤ _); first | walk_at "o" | (rw [List.length_map]; omega) | (simp only [List.length_cons, List.length_nil]; omega)) | ((with_reducible show _ < _); first | walk_at "o" | (rw [List.length_map]; omega)) | (with_reducible refine sq_next ?_) | (with_reducible refine lq_next ?_))
      · rw [e1]
        refine ⟨false, f'.set (i + (lim w N).length) k, by walk_at "lk", by walk_at "lk", by walk_at "lk", by walk_at "lk", by walk_at "lk", by simp [Cx.put, Cx.setOwn, List.map_set], r10.set _ r12 r13, by simp [r11], ?_, fun j hj => by rw [getD_set_ne (by walk_at "o")]; exact r15 j (by walk_at "o")⟩
        rw [val_set _ _ _ (by walk_at "o"), r15 _ (Nat.le_refl _), val_take_succ, Int.sub_zero, Int.add_mul, ← g12]
        rw [Int.mul_assoc]
        exact r14
  · rintro c1 hI; (first | refine ex2 hI fun b f hI => ?_ | refine ex2 hI.out fun b f hI => ?_); refine an10 hI fun g1 g2 g3 g4 g5 g7 g8 g9 g12 g13 => ?_; clear hI
    rw [List.length_map, List.take_length, val_lim (by walk_at "o"), ← Int.natCast_mul] at g12
    repeat' (first | ((fail_if_success (fail_if_success (with_reducible show Ev _ (Expr.Name _ _) _ _))); refine ev_own (by assumption) (by walk_at "lk") (by first | rfl | assumption) ?_) | ((fail_if_success (fail_if_success (with_reducible show Ev _ (Expr.Name _ _) _ _))); refine ev_global (by assumption) (by rfl) ?_) | ((fail_if_success (fail_if_success (with_reducible show Ev _ (Expr.Call (Expr.Name _ _) _ _ _) _ _))); refine ev_call (by assumption) ?_) | ((fail_if_success (fail_if_success (with_reducible show ExB _ _ _ _))); with_reducible refine exb_cons ?_) | ((fail_if_success (fail_if_success (with_reducible show EvL _ _ _ _ _))); refine evl_cons ?_) | ((fail_if_success (fail_if_success (with_reducible show EvL _ _ _ _ _))); refine evl_nil ?_) | ((with_reducible show Ex _ (Stmt.Return _ _) _ _); refine ex_return ?_) | ((with_reducible show ∃ a, _ = AV.fn a ∧ _ ∧ _); refine ⟨_, rfl, by rfl, ?_⟩) | (with_reducible refine sq_next ?_))
    refine ⟨1, _, Nat.le_of_ble_eq_true rfl, normal_ok (by walk_at "o") f (M * N) g8 g12 (by walk_at "o"), ?_⟩
    repeat' (first | (with_reducible refine sq_ret ?_) | (with_reducible refine ret_is ?_))
    rfl
end
section
variable {W : World} {mean : ExcName → Option Value} {mg mb : Str → Option Value}
set_option maxHeartbeats 400000 in
theorem half_ok {w : Nat} (hw : 2 ≤ w) (hw2 : w ≤ 60) (M : Nat) (hl : (lim w M).length ≤ 10000) : Ok (GG W mean mg mb) 2 114 [avI (lim w M), .int 1, .int w] (avI (lim w (M / 2))) := by
  refine ok_fn (names := ["a", "n", "w"]) (by exact rfl) (by rfl) (vec3 fun _ _ _ => rfl) (by decide) rfl (by decide) (by decide) rfl rfl rfl ?_
  intro A h₀ P ok
  have h60 : (2 : Nat) ^ w ≤ 2 ^ 60 := Nat.pow_le_pow_right (by decide) hw2
  have h60' : (2 : Int) ^ w ≤ 2 ^ 60 := by rw [← pwc]; omega
  have q0 : (1 : Int) / w = 0 := Int.ediv_eq_zero_of_lt (by walk_at "o") (by walk_at "o")
  have q1 : (1 : Int) % w = 1 := Int.emod_eq_of_lt (by walk_at "o") (by walk_at "o")
  repeat' (first | ((fail_if_success (fail_if_success (with_reducible show Ev _ (Expr.Name _ _) _ _))); refine ev_loc (by assumption) (by walk_at "lk") (by rfl) ?_) | ((with_reducible show Ev _ (Expr.Constant (Const.int _) _ _) _ _); refine ev_int ?_) | ((fail_if_success (fail_if_success (with_reducible show Ev _ (Expr.BinOp _ Operator.Sub _ _) _ _))); refine ev_sub ?_) | ((fail_if_success (fail_if_success (with_reducible show Ev _ (Expr.BinOp _ Operator.FloorDiv _ _) _ _))); refine ev_div ?_) | ((fail_if_success (fail_if_success (with_reducible show Ev _ (Expr.BinOp _ Operator.Mod _ _) _ _))); refine ev_mod ?_) | ((fail_if_success (fail_if_success (with_reducible show Ev _ (Expr.BinOp _ Operator.LShift _ _) _ _))); refine ev_shl ?_) | ((with_reducible show Ev _ (Expr.Call (Expr.Name (Str.ofString "len") _) _ _ _) _ _); refine ev_bcall (id := "len") (by assumption) (by rfl) (by boot_by_name) (by decide) ?_) | ((fail_if_success (fail_if_success (with_reducible show ExB _ _ _ _))); with_reducible refine exb_cons ?_) | ((fail_if_success (fail_if_success (with_reducible show EvL _ _ _ _ _))); refine evl_cons ?_) | ((fail_if_success (fail_if_success (with_reducible show EvL _ _ _ _ _))); refine evl_nil ?_) | ((with_reducible show Ex _ (Stmt.For _ (Expr.Call (Expr.Name (Str.ofString "range") _) [_, _] _ _) _ _ _) _ _); refine ex_forB (by assumption) (by rfl) (by boot_by_name) ?_) | ((with_reducible show Ex _ (Stmt.Assign [Expr.Tuple [Expr.Name (Str.ofString "found") _, _] _ _] (Expr.Tuple _ _ _) _) _ _); refine ex_tup2O (by assumption) ?_) | ((with_reducible show Ex _ (Stmt.Assign [Expr.Tuple [_, _] _ _] (Expr.Tuple _ _ _) _) _ _); refine ex_tup2 (by assumption) ?_) | ((with_reducible show EvN _ _ _ _); first | refine evn_nil ?_ | refine evn_rep ?_) | ((with_reducible show Cx.own _ = _); first | rfl | assumption) | ((with_reducible show Exists _); with_reducible refine ⟨_, _, rfl, rfl, ?_⟩) | ((with_reducible show Exists _); with_reducible refine ⟨_, bi_lenI ?_, ?_⟩) | ((with_reducible show Exists _); with_reducible refine ⟨_, _, rfl, ?_⟩) | ((with_reducible show _ ∧ _); refine And.intro ?_ ?_) | ((with_reducible show _ ≤ _); first | walk_at "o" | (rw [List.length_map]; omega) | (simp only [List.length_cons, List.length_nil]; omega)) | ((with_reducible show _ < _); first | walk_at "o" | (rw [List.length_map]; omega)) | (with_reducible refine sq_next ?_))
  rw [q0, q1]
  refine ⟨fun i c => Inv (∃ (f : List Int), look "a" c.loc = some (avI (lim w M)) ∧ look "w" c.loc = some (.int w) ∧ look "few" c.loc = some (.int 1) ∧ look "mask" c.loc = some (.int (1 * 2 ^ ((w : Nat) : Int).toNat - 1)) ∧ look "found" c.loc = some .own ∧
    c.own = some (true, f.map .int) ∧ Wf w f ∧ f.length = i ∧ 2 * val w f + (M % 2 : Nat) = val w ((lim w M).take i) + 2 ^ (w * i) * ((lim w M).getD i 0 % 2)),
    ⟨[], by walk_at "lk", by walk_at "lk", by walk_at "lk", by walk_at "lk", by walk_at "lk", rfl, .nil, rfl, ?_⟩, ?_, ?_⟩
  · rcases Nat.eq_zero_or_pos M with h | h
    · subst h; simp [val, lim_zero]
    · have := even_lim (w := w) (by walk_at "o") (n := M) (by walk_at "o")
      simp only [val_nil, List.take_zero, Nat.mul_zero, this]; omega
  · rintro i c hi hI; (first | refine ex1 hI fun f hI => ?_ | refine ex1 hI.out fun f hI => ?_); refine an9 hI fun g1 g2 g3 g5 g6 g7 g8 g9 g12 => ?_; clear hI
    have b1 := (lim_wf (w := w) M).get i
    have b2 := (lim_wf (w := w) M).get (i + 1)
    have b3 : ¬ ((i : Int) + 1 < ((lim w M).length : Int)) → (lim w M).getD (i + 1) 0 = 0 := fun h => by
      rw [List.getD_eq_getElem?_getD, List.getElem?_eq_none (by walk_at "o")]; rfl
    rw [Int.zero_add]
    have hp := pw w
    have st : ∀ u : Int, 0 ≤ u → u < 2 ^ w → Builtin.bitAnd (Builtin.bitOr ((lim w M).getD i 0 / 2) (u * 2 ^ (w - 1))) (1 * 2 ^ ((w : Nat) : Int).toNat - 1) = (lim w M).getD i 0 / 2 + 2 ^ (w - 1) * (u % 2) := by
      intro u h0 h1
      have h2 : (2 : Int) ^ w = 2 ^ (w - 1) * 2 := by rw [show w = w - 1 + 1 by walk_at "o", Int.pow_succ]; simp
      have h3 : (0 : Int) < 2 ^ (w - 1) := Int.pow_pos (by decide)
      have h4 : Builtin.bitOr ((lim w M).getD i 0 / 2) (u * 2 ^ (w - 1)) = u * 2 ^ (w - 1) + (lim w M).getD i 0 / 2 := by
        rw [bitOr_comm (by walk_at "o") (Int.mul_nonneg h0 (Int.le_of_lt h3))]
        have := or_eq (w := w - 1) (x := u) (y := (lim w M).getD i 0 / 2) h0 (by walk_at "o") (by walk_at "o")
        rw [Int.toNat_natCast] at this
        exact this
      have h5 : 0 ≤ u * 2 ^ (w - 1) := Int.mul_nonneg h0 (Int.le_of_lt h3)
      rw [h4, mask_eq (by walk_at "o"), h2]
      have h6 : u * 2 ^ (w - 1) + (lim w M).getD i 0 / 2 = ((lim w M).getD i 0 / 2 + 2 ^ (w - 1) * (u % 2)) + (2 ^ (w - 1) * 2) * (u / 2) := by
        have := Int.mul_ediv_add_emod u 2
        rw [Int.mul_assoc, Int.add_assoc, ← Int.mul_add, Int.add_comm (u % 2), this, Int.mul_comm u]; omega
      rw [h6, Int.add_mul_emod_self_left]
      have h7 : 2 ^ (w - 1) * (u % 2) ≤ 2 ^ (w - 1) * 1 := Int.mul_le_mul_of_nonneg_left (by walk_at "o") (Int.le_of_lt h3)
      have h8 : 0 ≤ 2 ^ (w - 1) * (u % 2) := Int.mul_nonneg (Int.le_of_lt h3) (by walk_at "o")
      exact Int.emod_eq_of_lt (by walk_at "o") (by walk_at "o")
    have fin : ∀ u : Int, 0 ≤ u → u < 2 ^ w → u = (lim w M).getD (i + 1) 0 → Inv (∃ (f' : List Int), f.map AV.int ++ [.int ((lim w M).getD i 0 / 2 + 2 ^ (w - 1) * (u % 2))] = f'.map .int ∧ Wf w f' ∧ f'.length = i + 1 ∧ 2 * val w f' + (M % 2 : Nat) = val w ((lim w M).take (i + 1)) + 2 ^ (w * (i + 1)) * ((lim w M).getD (i + 1) 0 % 2)) := by
      intro u h0 h1 hu
      have h2 : (2 : Int) ^ w = 2 ^ (w - 1) * 2 := by rw [show w = w - 1 + 1 by walk_at "o", Int.pow_succ]; simp
      have h3 : (0 : Int) < 2 ^ (w - 1) := Int.pow_pos (by decide)
      have h7 : 2 ^ (w - 1) * (u % 2) ≤ 2 ^ (w - 1) * 1 := Int.mul_le_mul_of_nonneg_left (by walk_at "o") (Int.le_of_lt h3)
      have h8 : 0 ≤ 2 ^ (w - 1) * (u % 2) := Int.mul_nonneg (Int.le_of_lt h3) (by walk_at "o")
      refine ⟨f ++ [(lim w M).getD i 0 / 2 + 2 ^ (w - 1) * (u % 2)], by simp, g8.snoc (by walk_at "o") (by walk_at "o"), by simp [g9], ?_⟩
      rw [val_snoc, val_take_succ, ← hu, g9, pow_succ_mul, h2]
      generalize (lim w M).getD i 0 = x at *
      have h9 : x = 2 * (x / 2) + x % 2 := by omega
      have h10 : (2 : Int) ^ (w * i) * x = 2 * (2 ^ (w * i) * (x / 2)) + 2 ^ (w * i) * (x % 2) := by
        conv => lhs; rw [h9]
        rw [Int.mul_add, Int.mul_left_comm]
      rw [h10, Int.mul_add]
      have h11 : (2 : Int) ^ (w * i) * (2 ^ (w - 1) * 2) * (u % 2) = 2 * (2 ^ (w * i) * (2 ^ (w - 1) * (u % 2))) := by
        rw [Int.mul_assoc, Int.mul_assoc, Int.mul_left_comm 2, Int.mul_left_comm _ 2, Int.mul_left_comm _ 2]
        
      rw [Int.mul_add (2 ^ (w * i)), h11]; omega
    have ew : ((w : Int) - 1).toNat = w - 1 := by omega
    have ei : ((i : Int) + 1).toNat = i + 1 := by omega
    have e1 : (2 : Int) ^ Int.toNat 1 = 2 := rfl
    repeat' (first | ((fail_if_success (fail_if_success (with_reducible show Ev _ (Expr.Name _ _) _ _))); refine ev_loc (by assumption) (by walk_at "lk") (by rfl) ?_) | ((with_reducible show Ev _ (Expr.Constant (Const.int _) _ _) _ _); refine ev_int ?_) | ((fail_if_success (fail_if_success (with_reducible show Ev _ (Expr.BinOp _ Operator.Add _ _) _ _))); refine ev_add ?_) | ((fail_if_success (fail_if_success (with_reducible show Ev _ (Expr.BinOp _ Operator.Sub _ _) _ _))); refine ev_sub ?_) | ((fail_if_success (fail_if_success (with_reducible show Ev _ (Expr.BinOp _ Operator.LShift _ _) _ _))); refine ev_shl ?_) | ((fail_if_success (fail_if_success (with_reducible show Ev _ (Expr.BinOp _ Operator.RShift _ _) _ _))); refine ev_shr ?_) | ((fail_if_success (fail_if_success (with_reducible show Ev _ (Expr.BinOp _ Operator.BitAnd _ _) _ _))); refine ev_and ?_) | ((fail_if_success (fail_if_success (with_reducible show Ev _ (Expr.BinOp _ Operator.BitOr _ _) _ _))); refine ev_or ?_) | ((fail_if_success (fail_if_success (with_reducible show Ev _ (Expr.Subscript (Expr.Name _ _) _ _) _ _))); refine ev_sel ?_) | ((with_reducible show Ev _ (Expr.Call (Expr.Name (Str.ofString "len") _) _ _ _) _ _); refine ev_bcall (id := "len") (by assumption) (by rfl) (by boot_by_name) (by decide) ?_) | ((fail_if_success (fail_if_success (with_reducible show Ev _ (Expr.IfExp _ _ _ _) _ _))); refine ev_if ?_) | ((fail_if_success (fail_if_success (with_reducible show ExB _ _ _ _))); with_reducible refine exb_cons ?_) | ((fail_if_success (fail_if_success (with_reducible show ExB _ _ _ _))); refine exb_nil ?_) | ((fail_if_success (fail_if_success (with_reducible show EvL _ _ _ _ _))); refine evl_cons ?_) | ((fail_if_success (fail_if_success (with_reducible show EvL _ _ _ _ _))); refine evl_nil ?_) | ((fail_if_success (fail_if_success (with_reducible show Tr _ (Expr.Compare _ [CmpOp.Lt] _ _) _ _))); refine tr_lt ?_) | ((with_reducible show Ex _ (Stmt.Assign [Expr.Name _ _] _ _) _ _); refine ex_assign (by assumption) ?_) | ((with_reducible show Ex _ (Stmt.Expr (Expr.Call (Expr.Attribute _ _ _) _ _ _) _) _ _); refine ex_appO (by assumption) (by walk_at "lk") (by first | rfl | assumption) ?_) | ((with_reducible show ∃ l, Cx.own _ = some (true, l) ∧ _); refine ⟨_, by first | rfl | assumption, ?_, ?_⟩) | ((with_reducible show Exists _); with_reducible refine ⟨_, _, rfl, rfl, ?_⟩) | ((with_reducible show Exists _); with_reducible refine ⟨_, _, rfl, item_int ?_ ?_ ?_, ?_⟩) | ((with_reducible show Exists _); with_reducible refine ⟨_, bi_lenI ?_, ?_⟩) | ((with_reducible show _ ∧ _); refine And.intro ?_ ?_) | ((with_reducible show _ ≤ _); first | walk_at "o" | (rw [List.length_map]; omega) | (simp only [List.length_cons, List.length_nil]; omega)) | ((with_reducible show _ < _); first | walk_at "o" | (rw [List.length_map]; omega)) | ((fail_if_success (fail_if_success (with_reducible show ite _ _ _))); with_reducible (refine if_dec ?_ ?_ <;> intro _)) | (with_reducible refine sq_next ?_) | (with_reducible refine lq_next ?_))
    · rw [ei]; omega
    · rw [ei, ew, Int.toNat_natCast i, e1, st _ b2.1 b2.2]
      (first | refine ex1 (fin _ b2.1 b2.2 rfl) fun f' hE => ?_ | refine ex1 (fin _ b2.1 b2.2 rfl).out fun f' hE => ?_); refine an4 hE fun k1 k2 k3 k4 => ?_; clear hE
      exact ⟨f', by walk_at "lk", by walk_at "lk", by walk_at "lk", by walk_at "lk", by walk_at "lk", by rw [← k1]; rfl, k2, k3, k4⟩
    · rw [ew, Int.toNat_natCast i, e1, st 0 (by walk_at "o") hp]
      refine ex1 (fin 0 (by walk_at "o") hp (b3 (by assumption)).symm).out fun f' hE => ?_; refine an4 hE fun k1 k2 k3 k4 => ?_; clear hE
      exact ⟨f', by walk_at "lk", by walk_at "lk", by walk_at "lk", by walk_at "lk", by walk_at "lk", by rw [← k1]; rfl, k2, k3, k4⟩
  · rintro c1 hI; (first | refine ex1 hI fun f hI => ?_ | refine ex1 hI.out fun f hI => ?_); refine an9 hI fun g1 g2 g3 g5 g6 g7 g8 g9 g12 => ?_; clear hI
    have e1 : (((lim w M).length : Int) - 0).toNat = (lim w M).length := by omega
    rw [e1] at g9
    rw [e1, List.take_length, val_lim (by walk_at "o"), getD_len] at g12
    have hv := g8.val_nonneg
    repeat' (first | ((fail_if_success (fail_if_success (with_reducible show Ev _ (Expr.Name _ _) _ _))); refine ev_own (by assumption) (by walk_at "lk") (by first | rfl | assumption) ?_) | ((fail_if_success (fail_if_success (with_reducible show Ev _ (Expr.Name _ _) _ _))); refine ev_global (by assumption) (by rfl) ?_) | ((fail_if_success (fail_if_success (with_reducible show Ev _ (Expr.Call (Expr.Name _ _) _ _ _) _ _))); refine ev_call (by assumption) ?_) | ((fail_if_success (fail_if_success (with_reducible show ExB _ _ _ _))); with_reducible refine exb_cons ?_) | ((fail_if_success (fail_if_success (with_reducible show EvL _ _ _ _ _))); refine evl_cons ?_) | ((fail_if_success (fail_if_success (with_reducible show EvL _ _ _ _ _))); refine evl_nil ?_) | ((with_reducible show Ex _ (Stmt.Return _ _) _ _); refine ex_return ?_) | ((with_reducible show ∃ a, _ = AV.fn a ∧ _ ∧ _); refine ⟨_, rfl, by rfl, ?_⟩) | (with_reducible refine sq_next ?_))
    refine ⟨1, _, Nat.le_of_ble_eq_true rfl, normal_ok (by walk_at "o") f (M / 2) g8 (by simp at g12; omega) (by walk_at "o"), ?_⟩
    repeat' (first | (with_reducible refine sq_ret ?_) | (with_reducible refine ret_is ?_))
    rfl
end
section
variable {W : World} {mean : ExcName → Option Value} {mg mb : Str → Option Value}
set_option maxHeartbeats 400000 in
theorem bits_ok {w : Nat} (hw : 1 ≤ w) (hw2 : w ≤ 60) (M : Nat) (hl : (lim w M).length ≤ 10000) : Ok (GG W mean mg mb) 1 121 [avI (lim w M), .int w] (.int (if M = 0 then 0 else Nat.log2 M + 1 : Nat)) := by
  refine ok_fn (names := ["a", "w"]) (by exact rfl) (by rfl) (vec2 fun _ _ => rfl) (by decide) rfl (by decide) (by decide) rfl rfl rfl ?_
  intro A h₀ P ok
  repeat' (first | ((fail_if_success (fail_if_success (with_reducible show Ev _ (Expr.Name _ _) _ _))); refine ev_loc (by assumption) (by walk_at "lk") (by rfl) ?_) | ((with_reducible show Ev _ (Expr.Constant (Const.int _) _ _) _ _); refine ev_int ?_) | ((fail_if_success (fail_if_success (with_reducible show Ev _ (Expr.BinOp _ Operator.Add _ _) _ _))); refine ev_add ?_) | ((fail_if_success (fail_if_success (with_reducible show Ev _ (Expr.BinOp _ Operator.Sub _ _) _ _))); refine ev_sub ?_) | ((fail_if_success (fail_if_success (with_reducible show Ev _ (Expr.BinOp _ Operator.Mult _ _) _ _))); refine ev_mul ?_) | ((fail_if_success (fail_if_success (with_reducible show Ev _ (Expr.Subscript (Expr.Name _ _) _ _) _ _))); refine ev_sel ?_) | ((with_reducible show Ev _ (Expr.Call (Expr.Name (Str.ofString "len") _) _ _ _) _ _); refine ev_bcall (id := "len") (by assumption) (by rfl) (by boot_by_name) (by decide) ?_) | ((with_reducible show Ev _ (Expr.Call (Expr.Attribute _ (Str.ofString "bit_length") _) _ _ _) _ _); refine ev_bits ?_) | ((fail_if_success (fail_if_success (with_reducible show Ev _ (Expr.UnaryOp UnaryOp.USub _ _) _ _))); refine ev_neg ?_) | ((fail_if_success (fail_if_success (with_reducible show Ev _ (Expr.IfExp _ _ _ _) _ _))); refine ev_if ?_) | ((fail_if_success (fail_if_success (with_reducible show ExB _ _ _ _))); with_reducible refine exb_cons ?_) | ((fail_if_success (fail_if_success (with_reducible show EvL _ _ _ _ _))); refine evl_cons ?_) | ((fail_if_success (fail_if_success (with_reducible show EvL _ _ _ _ _))); refine evl_nil ?_) | ((fail_if_success (fail_if_success (with_reducible show Tr _ (Expr.Compare _ [CmpOp.Gt] _ _) _ _))); refine tr_gt ?_) | ((with_reducible show Ex _ (Stmt.Return _ _) _ _); refine ex_return ?_) | ((with_reducible show Exists _); with_reducible refine ⟨_, _, rfl, rfl, ?_⟩) | ((with_reducible show Exists _); with_reducible refine ⟨_, _, rfl, item_last ?_ ?_, ?_⟩) | ((with_reducible show Exists _); with_reducible refine ⟨_, bi_lenI ?_, ?_⟩) | ((with_reducible show Exists _); with_reducible refine ⟨_, rfl, ?_⟩) | ((with_reducible show _ ∧ _); refine And.intro ?_ ?_) | ((with_reducible show _ ≤ _); first | walk_at "o" | (rw [List.length_map]; omega) | (simp only [List.length_cons, List.length_nil]; omega)) | ((with_reducible show _ ∨ _); first | (refine Or.inl ?_; walk_at "o") | omega) | ((fail_if_success (fail_if_success (with_reducible show ite _ _ _))); with_reducible (refine if_dec ?_ ?_ <;> intro _)) | (with_reducible refine sq_ret ?_) | (with_reducible refine ret_is ?_))
  · intro h; rename_i h2; rw [h] at h2; simp at h2
  · rename_i h
    have h0 : M ≠ 0 := fun e => by rw [e, lim_zero] at h; simp at h
    rw [if_neg h0, ← bits_lim (w := w) (by walk_at "o") h0]
  · rename_i h
    rw [if_pos ((lim_len0 (w := w) (by walk_at "o")).mp (by walk_at "o"))]; rfl
set_option maxHeartbeats 400000 in
theorem bit_ok {w : Nat} (hw : 1 ≤ w) (hw2 : w ≤ 60) (M k : Nat) (hk : k < 100000) (hl : (lim w M).length ≤ 10000) : Ok (GG W mean mg mb) 1 128 [avI (lim w M), .int k, .int w] (.int (M / 2 ^ k % 2 : Nat)) := by
  refine ok_fn (names := ["a", "n", "w"]) (by exact rfl) (by rfl) (vec3 fun _ _ _ => rfl) (by decide) rfl (by decide) (by decide) rfl rfl rfl ?_
  intro A h₀ P ok
  repeat' (first | ((fail_if_success (fail_if_success (with_reducible show Ev _ (Expr.Name _ _) _ _))); refine ev_loc (by assumption) (by walk_at "lk") (by rfl) ?_) | ((with_reducible show Ev _ (Expr.Constant (Const.int _) _ _) _ _); refine ev_int ?_) | ((fail_if_success (fail_if_success (with_reducible show Ev _ (Expr.BinOp _ Operator.FloorDiv _ _) _ _))); refine ev_div ?_) | ((fail_if_success (fail_if_success (with_reducible show Ev _ (Expr.BinOp _ Operator.Mod _ _) _ _))); refine ev_mod ?_) | ((fail_if_success (fail_if_success (with_reducible show Ev _ (Expr.BinOp _ Operator.RShift _ _) _ _))); refine ev_shr ?_) | ((fail_if_success (fail_if_success (with_reducible show Ev _ (Expr.BinOp _ Operator.BitAnd _ _) _ _))); refine ev_and ?_) | ((fail_if_success (fail_if_success (with_reducible show Ev _ (Expr.Subscript (Expr.Name _ _) _ _) _ _))); refine ev_sel ?_) | ((with_reducible show Ev _ (Expr.Call (Expr.Name (Str.ofString "len") _) _ _ _) _ _); refine ev_bcall (id := "len") (by assumption) (by rfl) (by boot_by_name) (by decide) ?_) | ((fail_if_success (fail_if_success (with_reducible show Ev _ (Expr.IfExp _ _ _ _) _ _))); refine ev_if ?_) | ((fail_if_success (fail_if_success (with_reducible show ExB _ _ _ _))); with_reducible refine exb_cons ?_) | ((fail_if_success (fail_if_success (with_reducible show EvL _ _ _ _ _))); refine evl_cons ?_) | ((fail_if_success (fail_if_success (with_reducible show EvL _ _ _ _ _))); refine evl_nil ?_) | ((fail_if_success (fail_if_success (with_reducible show Tr _ (Expr.Compare _ [CmpOp.Lt] _ _) _ _))); refine tr_lt ?_) | ((with_reducible show Ex _ (Stmt.Return _ _) _ _); refine ex_return ?_) | ((with_reducible show Exists _); with_reducible refine ⟨_, _, rfl, rfl, ?_⟩) | ((with_reducible show Exists _); with_reducible refine ⟨_, _, rfl, item_int ?_ ?_ ?_, ?_⟩) | ((with_reducible show Exists _); with_reducible refine ⟨_, bi_lenI ?_, ?_⟩) | ((with_reducible show _ ∧ _); refine And.intro ?_ ?_) | ((with_reducible show _ ≤ _); first | walk_at "o" | (rw [List.length_map]; omega) | (simp only [List.length_cons, List.length_nil]; omega)) | ((with_reducible show _ < _); first | walk_at "o" | (rw [List.length_map]; omega)) | ((fail_if_success (fail_if_success (with_reducible show ite _ _ _))); with_reducible (refine if_dec ?_ ?_ <;> intro _)) | (with_reducible refine sq_ret ?_) | (with_reducible refine ret_is ?_))
  · have e1 : ((k : Int) / w).toNat = k / w := by rw [← Int.natCast_ediv]; rfl
    have e2 : ((k : Int) % w).toNat = k % w := by rw [← Int.natCast_emod]; rfl
    rw [and1, e1, e2, limb_at (by walk_at "o"), bit_lim (by walk_at "o")]
  · rename_i h
    have e1 : ((k : Int) / w) = ((k / w : Nat) : Int) := by rw [Int.natCast_ediv]
    rw [e1] at h
    rw [← bit_lim (w := w) (by walk_at "o"), ← limb_at (by walk_at "o"), List.getD_eq_getElem?_getD, List.getElem?_eq_none (by walk_at "o")]
    simp
set_option maxHeartbeats 400000 in
theorem rest_small_ok {w : Nat} (hw : 1 ≤ w) (hw2 : w ≤ 60) (M d : Nat) (hd : d ≠ 0) (hd2 : d < 2 ^ 60) (hl : (lim w M).length ≤ 10000) : Ok (GG W mean mg mb) 1 135 [avI (lim w M), .int d, .int w] (.int (M % d : Nat)) := by
  refine ok_fn (names := ["a", "d", "w"]) (by exact rfl) (by rfl) (vec3 fun _ _ _ => rfl) (by decide) rfl (by decide) (by decide) rfl rfl rfl ?_
  intro A h₀ P ok
  repeat' (first | ((fail_if_success (fail_if_success (with_reducible show Ev _ (Expr.Name _ _) _ _))); refine ev_loc (by assumption) (by walk_at "lk") (by rfl) ?_) | ((with_reducible show Ev _ (Expr.Constant (Const.int _) _ _) _ _); refine ev_int ?_) | ((fail_if_success (fail_if_success (with_reducible show Ev _ (Expr.BinOp _ Operator.Sub _ _) _ _))); refine ev_sub ?_) | ((with_reducible show Ev _ (Expr.Call (Expr.Name (Str.ofString "len") _) _ _ _) _ _); refine ev_bcall (id := "len") (by assumption) (by rfl) (by boot_by_name) (by decide) ?_) | ((fail_if_success (fail_if_success (with_reducible show Ev _ (Expr.UnaryOp UnaryOp.USub _ _) _ _))); refine ev_neg ?_) | ((with_reducible show ExB _ (Stmt.Raise _ _ _ :: _) _ _); exfalso; omega) | ((fail_if_success (fail_if_success (with_reducible show ExB _ _ _ _))); with_reducible refine exb_cons ?_) | ((fail_if_success (fail_if_success (with_reducible show ExB _ _ _ _))); refine exb_nil ?_) | ((fail_if_success (fail_if_success (with_reducible show EvL _ _ _ _ _))); refine evl_cons ?_) | ((fail_if_success (fail_if_success (with_reducible show EvL _ _ _ _ _))); refine evl_nil ?_) | ((fail_if_success (fail_if_success (with_reducible show Tr _ (Expr.Compare _ [CmpOp.Eq] _ _) _ _))); refine tr_eq (by assumption) ?_) | ((with_reducible show Ex _ (Stmt.For _ (Expr.Call (Expr.Name (Str.ofString "range") _) [_, _, _] _ _) _ _ _) _ _); refine ex_forD (by assumption) (by rfl) (by boot_by_name) ?_) | ((with_reducible show Ex _ (Stmt.Assign [Expr.Name _ _] _ _) _ _); refine ex_assign (by assumption) ?_) | ((with_reducible show Ex _ (Stmt.If _ _ _ _) _ _); refine ex_if ?_) | ((with_reducible show Exists _); with_reducible refine ⟨_, _, rfl, rfl, ?_⟩) | ((with_reducible show Exists _); with_reducible refine ⟨_, eqr_int, ?_⟩) | ((with_reducible show Exists _); with_reducible refine ⟨_, bi_lenI ?_, ?_⟩) | ((with_reducible show Exists _); with_reducible refine ⟨_, rfl, ?_⟩) | ((with_reducible show Exists _); with_reducible refine ⟨_, _, rfl, ?_⟩) | ((with_reducible show _ ∧ _); refine And.intro ?_ ?_) | ((with_reducible show _ ≤ _); first | walk_at "o" | (rw [List.length_map]; omega) | (simp only [List.length_cons, List.length_nil]; omega)) | ((with_reducible show _ < _); first | walk_at "o" | (rw [List.length_map]; omega)) | ((fail_if_success (fail_if_success (with_reducible show ite _ _ _))); with_reducible (refine if_dec ?_ ?_ <;> intro _)) | (with_reducible refine sq_next ?_))
  refine ⟨fun i c => Inv (look "a" c.loc = some (avI (lim w M)) ∧ look "d" c.loc = some (.int d) ∧ look "w" c.loc = some (.int w) ∧ look "rest" c.loc = some (.int (val w ((lim w M).drop ((lim w M).length - i)) % d))), ⟨by walk_at "lk", by walk_at "lk", by walk_at "lk", lk_int (by walk_at "lk") (by simp [val])⟩, ?_, ?_⟩
  · rintro i c hi hI; (first | refine an4 hI fun g1 g2 g3 g5 => ?_ | refine an4 hI.out fun g1 g2 g3 g5 => ?_); clear hI
    have hi' : i < (lim w M).length := by omega
    have b1 := (lim_wf (w := w) M).get ((lim w M).length - 1 - i)
    have hp := pw w
    have e1 : ((lim w M).length : Int) - 1 - i = (((lim w M).length - 1 - i : Nat) : Int) := by omega
    have e2 : (lim w M).length - 1 - i + 1 = (lim w M).length - i := by omega
    have e3 : (lim w M).length - (i + 1) = (lim w M).length - 1 - i := by omega
    have hr0 := Int.emod_nonneg (val w ((lim w M).drop ((lim w M).length - i))) (b := (d : Int)) (by walk_at "o")
    have hr1 := Int.emod_lt_of_pos (val w ((lim w M).drop ((lim w M).length - i))) (b := (d : Int)) (by walk_at "o")
    rw [e1]
    repeat' (first | ((fail_if_success (fail_if_success (with_reducible show Ev _ (Expr.Name _ _) _ _))); refine ev_loc (by assumption) (by walk_at "lk") (by rfl) ?_) | ((fail_if_success (fail_if_success (with_reducible show Ev _ (Expr.BinOp _ Operator.Mod _ _) _ _))); refine ev_mod ?_) | ((fail_if_success (fail_if_success (with_reducible show Ev _ (Expr.BinOp _ Operator.LShift _ _) _ _))); refine ev_shl ?_) | ((fail_if_success (fail_if_success (with_reducible show Ev _ (Expr.BinOp _ Operator.BitOr _ _) _ _))); refine ev_or ?_) | ((fail_if_success (fail_if_success (with_reducible show Ev _ (Expr.Subscript (Expr.Name _ _) _ _) _ _))); refine ev_sel ?_) | ((fail_if_success (fail_if_success (with_reducible show ExB _ _ _ _))); with_reducible refine exb_cons ?_) | ((fail_if_success (fail_if_success (with_reducible show ExB _ _ _ _))); refine exb_nil ?_) | ((with_reducible show Ex _ (Stmt.Assign [Expr.Name _ _] _ _) _ _); refine ex_assign (by assumption) ?_) | ((with_reducible show Exists _); with_reducible refine ⟨_, _, rfl, rfl, ?_⟩) | ((with_reducible show Exists _); with_reducible refine ⟨_, _, rfl, item_int ?_ ?_ ?_, ?_⟩) | ((with_reducible show _ ∧ _); refine And.intro ?_ ?_) | ((with_reducible show _ ≤ _); first | walk_at "o" | (rw [List.length_map]; omega) | (simp only [List.length_cons, List.length_nil]; omega)) | ((with_reducible show _ < _); first | walk_at "o" | (rw [List.length_map]; omega)) | (with_reducible refine sq_next ?_) | (with_reducible refine lq_next ?_))
    refine ⟨by walk_at "lk", by walk_at "lk", by walk_at "lk", lk_int (by walk_at "lk") ?_⟩
    rw [e3]
    generalize hj : (lim w M).length - 1 - i = j at *
    rw [Int.toNat_natCast j, or_eq hr0 b1.1 b1.2, drop_cons (l := lim w M) (k := j) (by walk_at "o"), val_cons, e2, Int.add_comm, Int.mul_comm (2 ^ w)]
    simp [Int.add_emod, Int.mul_emod]
  · rintro c1 hI; (first | refine an4 hI fun g1 g2 g3 g5 => ?_ | refine an4 hI.out fun g1 g2 g3 g5 => ?_); clear hI
    have e1 : (lim w M).length - ((lim w M).length - 1 - -1 : Int).toNat = 0 := by omega
    rw [e1, List.drop_zero, val_lim (by walk_at "o")] at g5
    repeat' (first | ((fail_if_success (fail_if_success (with_reducible show Ev _ (Expr.Name _ _) _ _))); refine ev_loc (by assumption) (by walk_at "lk") (by rfl) ?_) | ((fail_if_success (fail_if_success (with_reducible show ExB _ _ _ _))); with_reducible refine exb_cons ?_) | ((with_reducible show Ex _ (Stmt.Return _ _) _ _); refine ex_return ?_) | (with_reducible refine sq_next ?_) | (with_reducible refine sq_ret ?_) | (with_reducible refine ret_is ?_))
    rfl
set_option maxHeartbeats 400000 in
theorem check_odd_ok {w : Nat} (hw : 1 ≤ w) (hw2 : w ≤ 60) (M : Nat) (hm : 3 ≤ M) (ho : M % 2 = 1) (hl : (lim w M).length ≤ 10000) : Ok (GG W mean mg mb) 2 142 [avI (lim w M)] .none := by
  refine ok_fn (names := ["n"]) (by exact rfl) (by rfl) (vec1 fun _ => rfl) (by decide) rfl (by decide) (by decide) rfl rfl rfl ?_
  intro A h₀ P ok
  have hf : decide (M % 2 = 0) = false := by rw [decide_eq_false_iff_not]; omega
  have hn : lim w M ≠ [1] := fun h => by
    have := val_lim (w := w) (by walk_at "o") M
    rw [h] at this; simp [val] at this; omega
  repeat' (first | ((fail_if_success (fail_if_success (with_reducible show Ev _ (Expr.Name _ _) _ _))); refine ev_loc (by assumption) (by walk_at "lk") (by rfl) ?_) | ((fail_if_success (fail_if_success (with_reducible show Ev _ (Expr.Name _ _) _ _))); refine ev_global (by assumption) (by rfl) ?_) | ((fail_if_success (fail_if_success (with_reducible show Ev _ (Expr.Call (Expr.Name _ _) _ _ _) _ _))); refine ev_call (by assumption) ?_) | ((fail_if_success (fail_if_success (with_reducible show ExB _ _ _ _))); with_reducible refine exb_cons ?_) | ((fail_if_success (fail_if_success (with_reducible show EvL _ _ _ _ _))); refine evl_cons ?_) | ((fail_if_success (fail_if_success (with_reducible show EvL _ _ _ _ _))); refine evl_nil ?_) | ((fail_if_success (fail_if_success (with_reducible show TrAll _ _ _ _ _))); refine trAll_or ?_) | ((fail_if_success (fail_if_success (with_reducible show Tr _ (Expr.BoolOp _ _ _) _ _))); refine tr_bool ?_) | ((with_reducible show Tr _ (_) _ _); refine tr_plain ?_) | ((with_reducible show Ex _ (Stmt.If _ _ _ _) _ _); refine ex_if ?_) | ((with_reducible show ∃ a, _ = AV.fn a ∧ _ ∧ _); refine ⟨_, rfl, by rfl, ?_⟩))
  refine ⟨1, _, Nat.le_of_ble_eq_true rfl, is_even_ok (by walk_at "o") M (by walk_at "o"), ?_⟩
  rw [hf]
  repeat' (first | ((fail_if_success (fail_if_success (with_reducible show Ev _ (Expr.Name _ _) _ _))); refine ev_loc (by assumption) (by walk_at "lk") (by rfl) ?_) | ((with_reducible show Ev _ (Expr.Constant (Const.int _) _ _) _ _); refine ev_int ?_) | ((fail_if_success (fail_if_success (with_reducible show Ev _ (Expr.List _ _) _ _))); refine ev_list ?_) | ((fail_if_success (fail_if_success (with_reducible show ExB _ _ _ _))); with_reducible refine exb_cons ?_) | ((fail_if_success (fail_if_success (with_reducible show ExB _ _ _ _))); refine exb_nil ?_) | ((fail_if_success (fail_if_success (with_reducible show EvL _ _ _ _ _))); refine evl_cons ?_) | ((fail_if_success (fail_if_success (with_reducible show EvL _ _ _ _ _))); refine evl_nil ?_) | ((fail_if_success (fail_if_success (with_reducible show TrAll _ _ _ _ _))); refine trAll_or ?_) | ((fail_if_success (fail_if_success (with_reducible show TrAll _ _ _ _ _))); refine trAll_nilO ?_) | ((fail_if_success (fail_if_success (with_reducible show Tr _ (Expr.Compare _ [CmpOp.Eq] _ _) _ _))); refine tr_eq (by assumption) ?_) | ((with_reducible show Exists _); with_reducible refine ⟨_, eqr_list1, ?_⟩) | ((with_reducible show Exists _); with_reducible refine ⟨_, rfl, ?_⟩) | ((with_reducible show _ ∧ _); refine And.intro ?_ ?_) | ((with_reducible show AV.none = AV.none); rfl) | ((with_reducible show _ ≤ _); first | walk_at "o" | (rw [List.length_map]; omega) | (simp only [List.length_cons, List.length_nil]; omega)) | ((fail_if_success (fail_if_success (with_reducible show ite _ _ _))); with_reducible refine if_tt ?_) | ((fail_if_success (fail_if_success (with_reducible show ite _ _ _))); with_reducible refine if_ff ?_) | ((fail_if_success (fail_if_success (with_reducible show ite _ _ _))); with_reducible (refine if_dec ?_ ?_ <;> intro _)) | (with_reducible refine sq_next ?_) | (with_reducible refine ret_none ?_))
  all_goals first | (exfalso; omega) | (exfalso; exact hn (by assumption)) | skip
  all_goals rfl
end
section
variable {W : World} {mean : ExcName → Option Value} {mg mb : Str → Option Value}
set_option maxHeartbeats 400000 in
theorem plus_ok {w : Nat} (hw : 2 ≤ w) (hw2 : w ≤ 60) (X Y N : Nat) (hx : X < N) (hy : Y < N) (hN : N < 2 ^ w) : Ok (GG W mean mg mb) 3 184 [rg w N, avI (lim w X), avI (lim w Y)] (avI (lim w ((X + Y) % N))) := by
  refine ok_fn (names := ["self", "x", "y"]) (by exact rfl) (by rfl) (vec3 fun _ _ _ => rfl) (by decide) rfl (by decide) (by decide) rfl rfl rfl ?_
  intro A h₀ P ok
  have hl : ∀ K, K < 2 ^ 200 → (lim w K).length ≤ 200 := fun K h => lim_len_le (by walk_at "o") h
  have h60 : (2 : Nat) ^ w ≤ 2 ^ 60 := Nat.pow_le_pow_right (by decide) hw2
  have l1 := hl X (by walk_at "o")
  have l2 := hl Y (by walk_at "o")
  have l3 := hl N (by walk_at "o")
  have l4 := hl (X + Y) (by walk_at "o")
  repeat' (first | ((fail_if_success (fail_if_success (with_reducible show Ev _ (Expr.Name _ _) _ _))); refine ev_loc (by assumption) (by walk_at "lk") (by rfl) ?_) | ((fail_if_success (fail_if_success (with_reducible show Ev _ (Expr.Name _ _) _ _))); refine ev_global (by assumption) (by rfl) ?_) | ((fail_if_success (fail_if_success (with_reducible show Ev _ (Expr.Call (Expr.Name _ _) _ _ _) _ _))); refine ev_call (by assumption) ?_) | ((fail_if_success (fail_if_success (with_reducible show Ev _ (Expr.Attribute _ _ _) _ _))); refine ev_attr (by rfl) (by rfl) (by rfl) ?_) | ((fail_if_success (fail_if_success (with_reducible show ExB _ _ _ _))); with_reducible refine exb_cons ?_) | ((fail_if_success (fail_if_success (with_reducible show EvL _ _ _ _ _))); refine evl_cons ?_) | ((fail_if_success (fail_if_success (with_reducible show EvL _ _ _ _ _))); refine evl_nil ?_) | ((with_reducible show Ex _ (Stmt.Assign [Expr.Name _ _] _ _) _ _); refine ex_assign (by assumption) ?_) | ((with_reducible show ∃ a, _ = AV.fn a ∧ _ ∧ _); refine ⟨_, rfl, by rfl, ?_⟩) | ((with_reducible show ∃ a, fld _ _ = some a ∧ _); refine ⟨_, by rfl, ?_⟩))
  refine ⟨1, _, Nat.le_of_ble_eq_true rfl, add_ok (by walk_at "o") hw2 X Y (by walk_at "o") (by walk_at "o"), ?_⟩
  repeat' (first | ((fail_if_success (fail_if_success (with_reducible show Ev _ (Expr.Name _ _) _ _))); refine ev_loc (by assumption) (by walk_at "lk") (by rfl) ?_) | ((fail_if_success (fail_if_success (with_reducible show Ev _ (Expr.Name _ _) _ _))); refine ev_global (by assumption) (by rfl) ?_) | ((fail_if_success (fail_if_success (with_reducible show Ev _ (Expr.Call (Expr.Name _ _) _ _ _) _ _))); refine ev_call (by assumption) ?_) | ((fail_if_success (fail_if_success (with_reducible show Ev _ (Expr.Attribute _ _ _) _ _))); refine ev_attr (by rfl) (by rfl) (by rfl) ?_) | ((fail_if_success (fail_if_success (with_reducible show Ev _ (Expr.IfExp _ _ _ _) _ _))); refine ev_if ?_) | ((fail_if_success (fail_if_success (with_reducible show ExB _ _ _ _))); with_reducible refine exb_cons ?_) | ((fail_if_success (fail_if_success (with_reducible show EvL _ _ _ _ _))); refine evl_cons ?_) | ((fail_if_success (fail_if_success (with_reducible show EvL _ _ _ _ _))); refine evl_nil ?_) | ((fail_if_success (fail_if_success (with_reducible show Tr _ (Expr.Compare _ [CmpOp.GtE] _ _) _ _))); refine tr_ge ?_) | ((with_reducible show Ex _ (Stmt.Return _ _) _ _); refine ex_return ?_) | ((with_reducible show ∃ a, _ = AV.fn a ∧ _ ∧ _); refine ⟨_, rfl, by rfl, ?_⟩) | ((with_reducible show ∃ a, fld _ _ = some a ∧ _); refine ⟨_, by rfl, ?_⟩) | (with_reducible refine sq_next ?_))
  refine ⟨1, _, Nat.le_of_ble_eq_true rfl, compare_ok (by walk_at "o") (X + Y) N (by walk_at "o") (by walk_at "o"), ?_⟩
  repeat' (first | ((fail_if_success (fail_if_success (with_reducible show Ev _ (Expr.Name _ _) _ _))); refine ev_loc (by assumption) (by walk_at "lk") (by rfl) ?_) | ((fail_if_success (fail_if_success (with_reducible show Ev _ (Expr.Name _ _) _ _))); refine ev_global (by assumption) (by rfl) ?_) | ((with_reducible show Ev _ (Expr.Constant (Const.int _) _ _) _ _); refine ev_int ?_) | ((fail_if_success (fail_if_success (with_reducible show Ev _ (Expr.Call (Expr.Name _ _) _ _ _) _ _))); refine ev_call (by assumption) ?_) | ((fail_if_success (fail_if_success (with_reducible show Ev _ (Expr.Attribute _ _ _) _ _))); refine ev_attr (by rfl) (by rfl) (by rfl) ?_) | ((fail_if_success (fail_if_success (with_reducible show EvL _ _ _ _ _))); refine evl_cons ?_) | ((fail_if_success (fail_if_success (with_reducible show EvL _ _ _ _ _))); refine evl_nil ?_) | ((with_reducible show ∃ a, _ = AV.fn a ∧ _ ∧ _); refine ⟨_, rfl, by rfl, ?_⟩) | ((with_reducible show ∃ a, fld _ _ = some a ∧ _); refine ⟨_, by rfl, ?_⟩) | ((with_reducible show Exists _); with_reducible refine ⟨_, _, rfl, rfl, ?_⟩) | ((fail_if_success (fail_if_success (with_reducible show ite _ _ _))); with_reducible (refine if_dec ?_ ?_ <;> intro _)) | (with_reducible refine sq_ret ?_) | (with_reducible refine ret_is ?_))
  · rename_i h
    have hge : N ≤ X + Y := by
      rcases Nat.lt_or_ge (X + Y) N with h1 | h1
      · rw [if_pos h1] at h; omega
      · exact h1
    refine ⟨2, _, Nat.le_of_ble_eq_true rfl, sub_ok (by walk_at "o") hw2 (X + Y) N hge (by walk_at "o") (by walk_at "o"), ?_⟩
    repeat' (first | (with_reducible refine sq_ret ?_) | (with_reducible refine ret_is ?_))
    rw [Nat.mod_eq_sub_mod hge, Nat.mod_eq_of_lt (by walk_at "o")]
  · rename_i h
    have hlt : X + Y < N := by
      rcases Nat.lt_or_ge (X + Y) N with h1 | h1
      · exact h1
      · rw [if_neg (by walk_at "o")] at h; split at h <;> omega
    rw [Nat.mod_eq_of_lt hlt]
set_option maxHeartbeats 400000 in
theorem minus_ok {w : Nat} (hw : 2 ≤ w) (hw2 : w ≤ 60) (X Y N : Nat) (hx : X < N) (hy : Y < N) (hN : N < 2 ^ w) : Ok (GG W mean mg mb) 3 191 [rg w N, avI (lim w X), avI (lim w Y)] (avI (lim w ((X + N - Y) % N))) := by
  refine ok_fn (names := ["self", "x", "y"]) (by exact rfl) (by rfl) (vec3 fun _ _ _ => rfl) (by decide) rfl (by decide) (by decide) rfl rfl rfl ?_
  intro A h₀ P ok
  have hl : ∀ K, K < 2 ^ 200 → (lim w K).length ≤ 200 := fun K h => lim_len_le (by walk_at "o") h
  have h60 : (2 : Nat) ^ w ≤ 2 ^ 60 := Nat.pow_le_pow_right (by decide) hw2
  have l1 := hl X (by walk_at "o")
  have l2 := hl Y (by walk_at "o")
  have l3 := hl N (by walk_at "o")
  have l4 := hl (X + N) (by walk_at "o")
  repeat' (first | ((fail_if_success (fail_if_success (with_reducible show Ev _ (Expr.Name _ _) _ _))); refine ev_loc (by assumption) (by walk_at "lk") (by rfl) ?_) | ((fail_if_success (fail_if_success (with_reducible show Ev _ (Expr.Name _ _) _ _))); refine ev_global (by assumption) (by rfl) ?_) | ((fail_if_success (fail_if_success (with_reducible show Ev _ (Expr.Call (Expr.Name _ _) _ _ _) _ _))); refine ev_call (by assumption) ?_) | ((fail_if_success (fail_if_success (with_reducible show Ev _ (Expr.IfExp _ _ _ _) _ _))); refine ev_if ?_) | ((fail_if_success (fail_if_success (with_reducible show ExB _ _ _ _))); with_reducible refine exb_cons ?_) | ((fail_if_success (fail_if_success (with_reducible show EvL _ _ _ _ _))); refine evl_cons ?_) | ((fail_if_success (fail_if_success (with_reducible show EvL _ _ _ _ _))); refine evl_nil ?_) | ((fail_if_success (fail_if_success (with_reducible show Tr _ (Expr.Compare _ [CmpOp.GtE] _ _) _ _))); refine tr_ge ?_) | ((with_reducible show Ex _ (Stmt.Return _ _) _ _); refine ex_return ?_) | ((with_reducible show ∃ a, _ = AV.fn a ∧ _ ∧ _); refine ⟨_, rfl, by rfl, ?_⟩))
  refine ⟨1, _, Nat.le_of_ble_eq_true rfl, compare_ok (by walk_at "o") X Y (by walk_at "o") (by walk_at "o"), ?_⟩
  repeat' (first | ((fail_if_success (fail_if_success (with_reducible show Ev _ (Expr.Name _ _) _ _))); refine ev_loc (by assumption) (by walk_at "lk") (by rfl) ?_) | ((fail_if_success (fail_if_success (with_reducible show Ev _ (Expr.Name _ _) _ _))); refine ev_global (by assumption) (by rfl) ?_) | ((with_reducible show Ev _ (Expr.Constant (Const.int _) _ _) _ _); refine ev_int ?_) | ((fail_if_success (fail_if_success (with_reducible show Ev _ (Expr.Call (Expr.Name _ _) _ _ _) _ _))); refine ev_call (by assumption) ?_) | ((fail_if_success (fail_if_success (with_reducible show Ev _ (Expr.Attribute _ _ _) _ _))); refine ev_attr (by rfl) (by rfl) (by rfl) ?_) | ((fail_if_success (fail_if_success (with_reducible show EvL _ _ _ _ _))); refine evl_cons ?_) | ((fail_if_success (fail_if_success (with_reducible show EvL _ _ _ _ _))); refine evl_nil ?_) | ((with_reducible show ∃ a, _ = AV.fn a ∧ _ ∧ _); refine ⟨_, rfl, by rfl, ?_⟩) | ((with_reducible show ∃ a, fld _ _ = some a ∧ _); refine ⟨_, by rfl, ?_⟩) | ((with_reducible show Exists _); with_reducible refine ⟨_, _, rfl, rfl, ?_⟩) | ((fail_if_success (fail_if_success (with_reducible show ite _ _ _))); with_reducible (refine if_dec ?_ ?_ <;> intro _)))
  · rename_i h
    have hge : Y ≤ X := by
      rcases Nat.lt_or_ge X Y with h1 | h1
      · rw [if_pos h1] at h; omega
      · exact h1
    refine ⟨2, _, Nat.le_of_ble_eq_true rfl, sub_ok (by walk_at "o") hw2 X Y hge (by walk_at "o") (by walk_at "o"), ?_⟩
    repeat' (first | (with_reducible refine sq_ret ?_) | (with_reducible refine ret_is ?_))
    rw [show X + N - Y = X - Y + N by walk_at "o", Nat.add_mod_right, Nat.mod_eq_of_lt (by walk_at "o")]
  · rename_i h
    have hlt : X < Y := by
      rcases Nat.lt_or_ge X Y with h1 | h1
      · exact h1
      · rw [if_neg (by walk_at "o")] at h; split at h <;> omega
    refine ⟨1, _, Nat.le_of_ble_eq_true rfl, add_ok (by walk_at "o") hw2 X N (by walk_at "o") (by walk_at "o"), ?_⟩
    repeat' (first | ((fail_if_success (fail_if_success (with_reducible show Ev _ (Expr.Name _ _) _ _))); refine ev_loc (by assumption) (by walk_at "lk") (by rfl) ?_) | ((fail_if_success (fail_if_success (with_reducible show Ev _ (Expr.Attribute _ _ _) _ _))); refine ev_attr (by rfl) (by rfl) (by rfl) ?_) | ((fail_if_success (fail_if_success (with_reducible show EvL _ _ _ _ _))); refine evl_cons ?_) | ((fail_if_success (fail_if_success (with_reducible show EvL _ _ _ _ _))); refine evl_nil ?_) | ((with_reducible show ∃ a, fld _ _ = some a ∧ _); refine ⟨_, by rfl, ?_⟩))
    refine ⟨2, _, Nat.le_of_ble_eq_true rfl, sub_ok (by walk_at "o") hw2 (X + N) Y (by walk_at "o") (by walk_at "o") (by walk_at "o"), ?_⟩
    repeat' (first | (with_reducible refine sq_ret ?_) | (with_reducible refine ret_is ?_))
    rw [Nat.mod_eq_of_lt (by walk_at "o")]
set_option maxHeartbeats 400000 in
theorem product_ok {w : Nat} (hw : 2 ≤ w) (hw2 : w ≤ 60) (X Y N : Nat) (hx : X < N) (hy : Y < N) (hN : N < 2 ^ w) : Ok (GG W mean mg mb) 5 198 [rg w N, avI (lim w X), avI (lim w Y)] (avI (lim w (X * Y % N))) := by
  refine ok_fn (names := ["self", "x", "y"]) (by exact rfl) (by rfl) (vec3 fun _ _ _ => rfl) (by decide) rfl (by decide) (by decide) rfl rfl rfl ?_
  intro A h₀ P ok
  have hl : ∀ K, K < 2 ^ 200 → (lim w K).length ≤ 200 := fun K h => lim_len_le (by walk_at "o") h
  have h60 : (2 : Nat) ^ w ≤ 2 ^ 60 := Nat.pow_le_pow_right (by decide) hw2
  have l1 := hl X (by walk_at "o")
  have l2 := hl Y (by walk_at "o")
  have l3 := hl N (by walk_at "o")
  have hXY : X * Y < 2 ^ 120 := by
    have h1 : X * Y ≤ 2 ^ 60 * Y := Nat.mul_le_mul_right _ (by walk_at "o")
    have h2 : 2 ^ 60 * Y < 2 ^ 60 * 2 ^ 60 := Nat.mul_lt_mul_of_pos_left (by walk_at "o") (by decide)
    omega
  have l4 := hl (X * Y) (by walk_at "o")
  repeat' (first | ((fail_if_success (fail_if_success (with_reducible show Ev _ (Expr.Name _ _) _ _))); refine ev_loc (by assumption) (by walk_at "lk") (by rfl) ?_) | ((fail_if_success (fail_if_success (with_reducible show Ev _ (Expr.Subscript _ _ _) _ _))); refine ev_sel ?_) | ((with_reducible show Ev _ (Expr.Call (Expr.Attribute _ (Str.ofString "mul") _) _ _ _) _ _); refine ev_fcall (by assumption) (by rfl) (by rfl) (by rfl) ?_) | ((with_reducible show Ev _ (Expr.Call (Expr.Attribute _ (Str.ofString "divrem") _) _ _ _) _ _); refine ev_fcall (by assumption) (by rfl) (by rfl) (by rfl) ?_) | ((fail_if_success (fail_if_success (with_reducible show Ev _ (Expr.Attribute _ _ _) _ _))); refine ev_attr (by rfl) (by rfl) (by rfl) ?_) | ((fail_if_success (fail_if_success (with_reducible show ExB _ _ _ _))); with_reducible refine exb_cons ?_) | ((fail_if_success (fail_if_success (with_reducible show EvL _ _ _ _ _))); refine evl_cons ?_) | ((fail_if_success (fail_if_success (with_reducible show EvL _ _ _ _ _))); refine evl_nil ?_) | ((with_reducible show Ex _ (Stmt.Return _ _) _ _); refine ex_return ?_) | ((with_reducible show ∃ a, fld _ _ = some (AV.fn a) ∧ _ ∧ _); refine ⟨_, by rfl, by rfl, ?_⟩) | ((with_reducible show ∃ a, fld _ _ = some a ∧ _); refine ⟨_, by rfl, ?_⟩))
  refine ⟨2, _, Nat.le_of_ble_eq_true rfl, mul_school_ok (by walk_at "o") hw2 X Y (by walk_at "o") (by walk_at "o"), ?_⟩
  repeat' (first | ((fail_if_success (fail_if_success (with_reducible show Ev _ (Expr.Name _ _) _ _))); refine ev_loc (by assumption) (by walk_at "lk") (by rfl) ?_) | ((fail_if_success (fail_if_success (with_reducible show Ev _ (Expr.Attribute _ _ _) _ _))); refine ev_attr (by rfl) (by rfl) (by rfl) ?_) | ((fail_if_success (fail_if_success (with_reducible show EvL _ _ _ _ _))); refine evl_cons ?_) | ((fail_if_success (fail_if_success (with_reducible show EvL _ _ _ _ _))); refine evl_nil ?_) | ((with_reducible show ∃ a, fld _ _ = some a ∧ _); refine ⟨_, by rfl, ?_⟩))
  refine ⟨4, _, Nat.le_of_ble_eq_true rfl, divrem_school_ok (by walk_at "o") hw2 (X * Y) N (by walk_at "o") hN (by walk_at "o"), ?_⟩
  repeat' (first | ((with_reducible show Ev _ (Expr.Constant (Const.int _) _ _) _ _); refine ev_int ?_) | ((with_reducible show Exists _); with_reducible refine ⟨_, _, rfl, item_t1, ?_⟩) | (with_reducible refine sq_ret ?_) | (with_reducible refine ret_is ?_))
  rfl
set_option maxHeartbeats 400000 in
theorem rhalf_ok {w : Nat} (hw : 2 ≤ w) (hw2 : w ≤ 60) (X N : Nat) (hx : X < N) (hN : N < 2 ^ w) : Ok (GG W mean mg mb) 3 205 [rg w N, avI (lim w X)] (avI (lim w (if X % 2 = 0 then X / 2 else (X + N) / 2))) := by
  refine ok_fn (names := ["self", "x"]) (by exact rfl) (by rfl) (vec2 fun _ _ => rfl) (by decide) rfl (by decide) (by decide) rfl rfl rfl ?_
  intro A h₀ P ok
  have hl : ∀ K, K < 2 ^ 200 → (lim w K).length ≤ 200 := fun K h => lim_len_le (by walk_at "o") h
  have h60 : (2 : Nat) ^ w ≤ 2 ^ 60 := Nat.pow_le_pow_right (by decide) hw2
  have l1 := hl X (by walk_at "o")
  have l3 := hl N (by walk_at "o")
  repeat' (first | ((fail_if_success (fail_if_success (with_reducible show Ev _ (Expr.Name _ _) _ _))); refine ev_loc (by assumption) (by walk_at "lk") (by rfl) ?_) | ((fail_if_success (fail_if_success (with_reducible show Ev _ (Expr.Name _ _) _ _))); refine ev_global (by assumption) (by rfl) ?_) | ((fail_if_success (fail_if_success (with_reducible show Ev _ (Expr.Call (Expr.Name _ _) _ _ _) _ _))); refine ev_call (by assumption) ?_) | ((fail_if_success (fail_if_success (with_reducible show Ev _ (Expr.IfExp _ _ _ _) _ _))); refine ev_if ?_) | ((fail_if_success (fail_if_success (with_reducible show ExB _ _ _ _))); with_reducible refine exb_cons ?_) | ((fail_if_success (fail_if_success (with_reducible show EvL _ _ _ _ _))); refine evl_cons ?_) | ((fail_if_success (fail_if_success (with_reducible show EvL _ _ _ _ _))); refine evl_nil ?_) | ((with_reducible show Tr _ (_) _ _); refine tr_plain ?_) | ((with_reducible show Ex _ (Stmt.Return _ _) _ _); refine ex_return ?_) | ((with_reducible show ∃ a, _ = AV.fn a ∧ _ ∧ _); refine ⟨_, rfl, by rfl, ?_⟩))
  refine ⟨1, _, Nat.le_of_ble_eq_true rfl, is_even_ok (by walk_at "o") X (by walk_at "o"), ?_⟩
  repeat' (first | ((fail_if_success (fail_if_success (with_reducible show Ev _ (Expr.Name _ _) _ _))); refine ev_loc (by assumption) (by walk_at "lk") (by rfl) ?_) | ((fail_if_success (fail_if_success (with_reducible show Ev _ (Expr.Name _ _) _ _))); refine ev_global (by assumption) (by rfl) ?_) | ((with_reducible show Ev _ (Expr.Constant (Const.int _) _ _) _ _); refine ev_int ?_) | ((fail_if_success (fail_if_success (with_reducible show Ev _ (Expr.Call (Expr.Name _ _) _ _ _) _ _))); refine ev_call (by assumption) ?_) | ((fail_if_success (fail_if_success (with_reducible show Ev _ (Expr.Attribute _ _ _) _ _))); refine ev_attr (by rfl) (by rfl) (by rfl) ?_) | ((fail_if_success (fail_if_success (with_reducible show EvL _ _ _ _ _))); refine evl_cons ?_) | ((fail_if_success (fail_if_success (with_reducible show EvL _ _ _ _ _))); refine evl_nil ?_) | ((with_reducible show ∃ a, _ = AV.fn a ∧ _ ∧ _); refine ⟨_, rfl, by rfl, ?_⟩) | ((with_reducible show ∃ a, fld _ _ = some a ∧ _); refine ⟨_, by rfl, ?_⟩) | ((with_reducible show Exists _); with_reducible refine ⟨_, rfl, ?_⟩) | ((fail_if_success (fail_if_success (with_reducible show ite _ _ _))); with_reducible (refine if_dec ?_ ?_ <;> intro _)))
  · rename_i h
    rw [if_pos h]
    refine ⟨2, _, Nat.le_of_ble_eq_true rfl, half_ok hw hw2 X (by walk_at "o"), ?_⟩
    repeat' (first | (with_reducible refine sq_ret ?_) | (with_reducible refine ret_is ?_))
    rfl
  · rename_i h
    rw [if_neg h]
    refine ⟨1, _, Nat.le_of_ble_eq_true rfl, add_ok (by walk_at "o") hw2 X N (by walk_at "o") (by walk_at "o"), ?_⟩
    repeat' (first | ((fail_if_success (fail_if_success (with_reducible show Ev _ (Expr.Name _ _) _ _))); refine ev_loc (by assumption) (by walk_at "lk") (by rfl) ?_) | ((with_reducible show Ev _ (Expr.Constant (Const.int _) _ _) _ _); refine ev_int ?_) | ((fail_if_success (fail_if_success (with_reducible show Ev _ (Expr.Attribute _ _ _) _ _))); refine ev_attr (by rfl) (by rfl) (by rfl) ?_) | ((fail_if_success (fail_if_success (with_reducible show EvL _ _ _ _ _))); refine evl_cons ?_) | ((fail_if_success (fail_if_success (with_reducible show EvL _ _ _ _ _))); refine evl_nil ?_) | ((with_reducible show ∃ a, fld _ _ = some a ∧ _); refine ⟨_, by rfl, ?_⟩))
    refine ⟨2, _, Nat.le_of_ble_eq_true rfl, half_ok hw hw2 (X + N) (lim_10k (k := 200) (by walk_at "o") (by walk_at "o") (by decide)), ?_⟩
    repeat' (first | (with_reducible refine sq_ret ?_) | (with_reducible refine ret_is ?_))
    rfl
end
section
variable {W : World} {mean : ExcName → Option Value} {mg mb : Str → Option Value}
set_option maxHeartbeats 1000000 in
theorem lucas_rows_ok {w : Nat} (hw : 2 ≤ w) (hw2 : w ≤ 60) (p d q m N : Nat) (hp : p < N) (hd : d < N) (hq : q < N) (hN : N < 2 ^ w) (hm0 : m ≠ 0) (hm : m < 2 ^ 60) : Ok (GG W mean mg mb) 6 219 [rg w N, avI (lim w p), avI (lim w d), avI (lim w q), avI (lim w m)]
    (.tup [avI (lim w (lrow N p d q m m.log2).1), avI (lim w (lrow N p d q m m.log2).2.1), avI (lim w (lrow N p d q m m.log2).2.2)]) := by
  refine ok_fn (names := ["ring", "p", "d", "q", "m"]) (by exact rfl) (by rfl) (vec5 fun _ _ _ _ _ => rfl) (by decide) rfl (by decide) (by decide) rfl rfl rfl ?_
  intro A h₀ P ok
  have hpos : 0 < N := by omega
  have h1 : AV.list [.int 1] = avI (lim w 1) := by rw [lim_one (by walk_at "o") (by decide) (Nat.one_lt_two_pow (by walk_at "o"))]; rfl
  have hlm := lim_10k (w := w) (k := 60) (by walk_at "o") hm (by decide)
  have hl1 := lim_10k (w := w) (K := 1) (k := 60) (by walk_at "o") (by decide) (by decide)
  have hlog : m.log2 < 60 := (Nat.log2_lt hm0).mpr hm
  repeat' (first | ((fail_if_success (fail_if_success (with_reducible show Ev _ (Expr.Name _ _) _ _))); refine ev_loc (by assumption) (by walk_at "lk") (by rfl) ?_) | ((with_reducible show Ev _ (Expr.Constant (Const.int _) _ _) _ _); refine ev_int ?_) | ((fail_if_success (fail_if_success (with_reducible show Ev _ (Expr.Subscript _ _ _) _ _))); refine ev_sel ?_) | ((with_reducible show Ev _ (Expr.Call (Expr.Attribute _ (Str.ofString "divrem") _) _ _ _) _ _); refine ev_fcall (by assumption) (by rfl) (by rfl) (by rfl) ?_) | ((fail_if_success (fail_if_success (with_reducible show Ev _ (Expr.Attribute _ _ _) _ _))); refine ev_attr (by rfl) (by rfl) (by rfl) ?_) | ((fail_if_success (fail_if_success (with_reducible show Ev _ (Expr.List _ _) _ _))); refine ev_list ?_) | ((fail_if_success (fail_if_success (with_reducible show ExB _ _ _ _))); with_reducible refine exb_cons ?_) | ((fail_if_success (fail_if_success (with_reducible show EvL _ _ _ _ _))); refine evl_cons ?_) | ((fail_if_success (fail_if_success (with_reducible show EvL _ _ _ _ _))); refine evl_nil ?_) | ((with_reducible show Ex _ (Stmt.Assign [Expr.Tuple [_, _, _] _ _] (Expr.Tuple _ _ _) _) _ _); refine ex_tup3 (by assumption) ?_) | ((with_reducible show ∃ a, fld _ _ = some (AV.fn a) ∧ _ ∧ _); refine ⟨_, by rfl, by rfl, ?_⟩) | ((with_reducible show ∃ a, fld _ _ = some a ∧ _); refine ⟨_, by rfl, ?_⟩) | ((with_reducible show _ ∧ _); refine And.intro ?_ ?_) | ((with_reducible show _ ≤ _); first | walk_at "o" | (rw [List.length_map]; omega) | (simp only [List.length_cons, List.length_nil]; omega)))
  rw [h1]
  refine ⟨4, _, Nat.le_of_ble_eq_true rfl, divrem_school_ok (by walk_at "o") hw2 1 N (by walk_at "o") hN hl1, ?_⟩
  repeat' (first | ((fail_if_success (fail_if_success (with_reducible show Ev _ (Expr.Name _ _) _ _))); refine ev_loc (by assumption) (by walk_at "lk") (by rfl) ?_) | ((fail_if_success (fail_if_success (with_reducible show Ev _ (Expr.Name _ _) _ _))); refine ev_global (by assumption) (by rfl) ?_) | ((with_reducible show Ev _ (Expr.Constant (Const.int _) _ _) _ _); refine ev_int ?_) | ((fail_if_success (fail_if_success (with_reducible show Ev _ (Expr.BinOp _ Operator.Sub _ _) _ _))); refine ev_sub ?_) | ((fail_if_success (fail_if_success (with_reducible show Ev _ (Expr.Call (Expr.Name _ _) _ _ _) _ _))); refine ev_call (by assumption) ?_) | ((fail_if_success (fail_if_success (with_reducible show Ev _ (Expr.Attribute _ _ _) _ _))); refine ev_attr (by rfl) (by rfl) (by rfl) ?_) | ((fail_if_success (fail_if_success (with_reducible show ExB _ _ _ _))); with_reducible refine exb_cons ?_) | ((fail_if_success (fail_if_success (with_reducible show EvL _ _ _ _ _))); refine evl_cons ?_) | ((fail_if_success (fail_if_success (with_reducible show EvL _ _ _ _ _))); refine evl_nil ?_) | ((with_reducible show Ex _ (Stmt.For _ (Expr.Call (Expr.Name (Str.ofString "range") _) [_, _, _] _ _) _ _ _) _ _); refine ex_forD (by assumption) (by rfl) (by boot_by_name) ?_) | ((with_reducible show ∃ a, _ = AV.fn a ∧ _ ∧ _); refine ⟨_, rfl, by rfl, ?_⟩) | ((with_reducible show ∃ a, fld _ _ = some a ∧ _); refine ⟨_, by rfl, ?_⟩) | ((with_reducible show Exists _); with_reducible refine ⟨_, _, rfl, item_t1, ?_⟩) | (with_reducible refine sq_next ?_))
  refine ⟨1, _, Nat.le_of_ble_eq_true rfl, bits_ok (by walk_at "o") hw2 m hlm, ?_⟩
  rw [if_neg hm0]
  repeat' (first | ((with_reducible show Ev _ (Expr.Constant (Const.int _) _ _) _ _); refine ev_int ?_) | ((fail_if_success (fail_if_success (with_reducible show Ev _ (Expr.UnaryOp UnaryOp.USub _ _) _ _))); refine ev_neg ?_) | ((fail_if_success (fail_if_success (with_reducible show EvL _ _ _ _ _))); refine evl_cons ?_) | ((fail_if_success (fail_if_success (with_reducible show EvL _ _ _ _ _))); refine evl_nil ?_) | ((with_reducible show Exists _); with_reducible refine ⟨_, _, rfl, rfl, ?_⟩) | ((with_reducible show Exists _); with_reducible refine ⟨_, rfl, ?_⟩) | ((with_reducible show Exists _); with_reducible refine ⟨_, _, rfl, ?_⟩) | ((with_reducible show _ ∧ _); refine And.intro ?_ ?_) | ((with_reducible show _ ≤ _); first | walk_at "o" | (rw [List.length_map]; omega) | (simp only [List.length_cons, List.length_nil]; omega)) | ((with_reducible show _ < _); first | walk_at "o" | (rw [List.length_map]; omega)))
  refine ⟨fun i c => Inv (look "ring" c.loc = some (rg w N) ∧ look "p" c.loc = some (avI (lim w p)) ∧ look "d" c.loc = some (avI (lim w d)) ∧ look "q" c.loc = some (avI (lim w q)) ∧ look "m" c.loc = some (avI (lim w m)) ∧
    look "u" c.loc = some (avI (lim w (lrow N p d q m i).1)) ∧ look "v" c.loc = some (avI (lim w (lrow N p d q m i).2.1)) ∧ look "power" c.loc = some (avI (lim w (lrow N p d q m i).2.2))),
    ⟨by walk_at "lk", by walk_at "lk", by walk_at "lk", by walk_at "lk", by walk_at "lk", lk_to (by walk_at "lk") (by rfl), lk_to (by walk_at "lk") (by rfl), lk_to (by walk_at "lk") (by rfl)⟩, ?_, ?_⟩
  · rintro i c hi hI; (first | refine an8 hI fun g1 g2 g3 g4 g5 g6 g7 g8 => ?_ | refine an8 hI.out fun g1 g2 g3 g4 g5 g6 g7 g8 => ?_); clear hI
    obtain ⟨b1, b2, b3⟩ := lrow_lt (d := d) (m := m) hp hq i
    have e1 : (((m.log2 + 1 : Nat) : Int) - 2 - i) = ((m.log2 - 1 - i : Nat) : Int) := by omega
    rw [e1]
    repeat' first | exact Nat.mod_lt _ hpos | exact rhalf_lt (Nat.mod_lt _ hpos) | (first | ((fail_if_success (fail_if_success (with_reducible show Ev _ (Expr.Name _ _) _ _))); refine ev_loc (by assumption) (by walk_at "lk") (by rfl) ?_) | ((fail_if_success (fail_if_success (with_reducible show Ev _ (Expr.Name _ _) _ _))); refine ev_global (by assumption) (by rfl) ?_) | ((with_reducible show Ev _ (Expr.Constant (Const.int _) _ _) _ _); refine ev_int ?_) | ((fail_if_success (fail_if_success (with_reducible show Ev _ (Expr.Call (Expr.Name _ _) _ _ _) _ _))); refine ev_call (by assumption) ?_) | ((fail_if_success (fail_if_success (with_reducible show Ev _ (Expr.Call (Expr.Attribute _ _ _) _ _ _) _ _))); refine ev_mcall (by assumption) (by rfl) (by rfl) (by rfl) (by rfl) (by decide) ?_) | ((fail_if_success (fail_if_success (with_reducible show Ev _ (Expr.Attribute _ _ _) _ _))); refine ev_attr (by rfl) (by rfl) (by rfl) ?_) | ((fail_if_success (fail_if_success (with_reducible show ExB _ _ _ _))); with_reducible refine exb_cons ?_) | ((fail_if_success (fail_if_success (with_reducible show ExB _ _ _ _))); refine exb_nil ?_) | ((fail_if_success (fail_if_success (with_reducible show EvL _ _ _ _ _))); refine evl_cons ?_) | ((fail_if_success (fail_if_success (with_reducible show EvL _ _ _ _ _))); refine evl_nil ?_) | ((fail_if_success (fail_if_success (with_reducible show Tr _ (Expr.Compare _ [CmpOp.Eq] _ _) _ _))); refine tr_eq (by assumption) ?_) | ((with_reducible show Ex _ (Stmt.Assign [Expr.Name _ _] _ _) _ _); refine ex_assign (by assumption) ?_) | ((with_reducible show Ex _ (Stmt.Assign [Expr.Tuple [_, _] _ _] (Expr.Tuple _ _ _) _) _ _); refine ex_tup2 (by assumption) ?_) | ((with_reducible show Ex _ (Stmt.If _ _ _ _) _ _); refine ex_if ?_) | ((with_reducible show ∃ a, _ = AV.fn a ∧ _ ∧ _); refine ⟨_, rfl, by rfl, ?_⟩) | ((with_reducible show ∃ n w fm fd, _ = AV.ring n w fm fd ∧ _); refine ⟨_, _, _, _, rfl, ?_⟩) | ((with_reducible show ∃ a, fld _ _ = some a ∧ _); refine ⟨_, by rfl, ?_⟩) | ((with_reducible show Exists _); with_reducible refine ⟨_, eqr_int, ?_⟩) | ((with_reducible show _ < _); first | walk_at "o" | (rw [List.length_map]; omega)) | ((fail_if_success (fail_if_success (with_reducible show ite _ _ _))); with_reducible (refine if_dec ?_ ?_ <;> intro _)) | (with_reducible refine sq_next ?_) | (with_reducible refine lq_next ?_)) | refine ⟨5, _, Nat.le_of_ble_eq_true rfl, product_ok hw hw2 _ _ N ?_ ?_ hN, ?_⟩ | refine ⟨3, _, Nat.le_of_ble_eq_true rfl, minus_ok hw hw2 _ _ N ?_ ?_ hN, ?_⟩ | refine ⟨3, _, Nat.le_of_ble_eq_true rfl, plus_ok hw hw2 _ _ N ?_ ?_ hN, ?_⟩ | refine ⟨3, _, Nat.le_of_ble_eq_true rfl, rhalf_ok hw hw2 _ N ?_ hN, ?_⟩ | refine ⟨1, _, Nat.le_of_ble_eq_true rfl, bit_ok (by walk_at "o") hw2 m _ (by walk_at "o") hlm, ?_⟩
    · rename_i hb
      have e : lrow N p d q m (i + 1) = nxt N p d q (dbl N (lrow N p d q m i)) := by rw [lrow, if_pos (by walk_at "o")]
      exact ⟨by walk_at "lk", by walk_at "lk", by walk_at "lk", by walk_at "lk", by walk_at "lk", lk_to (by walk_at "lk") (by rw [e]; rfl), lk_to (by walk_at "lk") (by rw [e]; rfl), lk_to (by walk_at "lk") (by rw [e]; rfl)⟩
    · rename_i hb
      have e : lrow N p d q m (i + 1) = dbl N (lrow N p d q m i) := by rw [lrow, if_neg (by walk_at "o")]
      exact ⟨by walk_at "lk", by walk_at "lk", by walk_at "lk", by walk_at "lk", by walk_at "lk", lk_to (by walk_at "lk") (by rw [e]; rfl), lk_to (by walk_at "lk") (by rw [e]; rfl), lk_to (by walk_at "lk") (by rw [e]; rfl)⟩
  · rintro c1 hI; (first | refine an8 hI fun g1 g2 g3 g4 g5 g6 g7 g8 => ?_ | refine an8 hI.out fun g1 g2 g3 g4 g5 g6 g7 g8 => ?_); clear hI
    have e : (((m.log2 + 1 : Nat) : Int) - 2 - -1).toNat = m.log2 := by omega
    rw [e] at g6 g7 g8
    repeat' (first | ((fail_if_success (fail_if_success (with_reducible show Ev _ (Expr.Name _ _) _ _))); refine ev_loc (by assumption) (by walk_at "lk") (by rfl) ?_) | ((fail_if_success (fail_if_success (with_reducible show Ev _ (Expr.Tuple _ _ _) _ _))); refine ev_tuple ?_) | ((fail_if_success (fail_if_success (with_reducible show ExB _ _ _ _))); with_reducible refine exb_cons ?_) | ((fail_if_success (fail_if_success (with_reducible show EvL _ _ _ _ _))); refine evl_cons ?_) | ((fail_if_success (fail_if_success (with_reducible show EvL _ _ _ _ _))); refine evl_nil ?_) | ((with_reducible show Ex _ (Stmt.Return _ _) _ _); refine ex_return ?_) | ((with_reducible show _ ∧ _); refine And.intro ?_ ?_) | ((with_reducible show _ ≤ _); first | walk_at "o" | (rw [List.length_map]; omega) | (simp only [List.length_cons, List.length_nil]; omega)) | (with_reducible refine sq_next ?_) | (with_reducible refine sq_ret ?_) | (with_reducible refine ret_is ?_))
    rfl
end
section
structure ClsOk (g : Gd) : Prop where
  hs : findIn g.K (.ref g.ringC) "__setattr__" = some (some (.builtin "object.__setattr__"))
  hp : plainOver g.K g.ringC = true
  hh : hasDictIn g.K g.ringC = true
  hm : makesIn g.K g.ringC = true

theorem ring_stmt {g : Gd} {h₀ : Heap} {cn : Str} {cs : Scope} {L x dx fI : Addr} {ccd : Value} {A : Around} {s : Shared} {m : Str → Option Value} {es : List DictEntry} {n : Nat} {nm vn : String} {v : Value} {pv po pt ps : Pos} {rest : List Stmt} {Q : Flow → Shared → Prop} {E : Value → Shared → Prop} (C : ClsOk g)
    (hk : cs.kind = .function) (k1 : (envX cn cs L fI ccd []).kindOf (Str.ofString "self") = some .local) (k2 : (envX cn cs L fI ccd []).kindOf (Str.ofString vn) = some .local) (d2 : (Str.ofString vn == ("__debug__" : Str)) = false)
    (m1 : m (Str.ofString "self") = some (.ref x)) (m2 : m (Str.ofString vn) = some v) (X₀ : g.K.In h₀) (F : Fr h₀ L s.heap m) (N : News h₀ L s.heap [(x, instObj g.ringC dx), (dx, dictOf es n)]) (hxd : dx < x)
    (ht : takerIn g.K g.ringC (Str.ofString nm) = some none) (hl : (getL (Str.ofString nm) es).isSome = true) (hz : ∀ hsh tk, (putL (Str.ofString nm) hsh (.str (Str.ofString nm) tk) v es).length ≤ 1000)
    (h : ∀ h' tk hsh t1, Fr h₀ L h' m → News h₀ L h' [(x, instObj g.ringC dx), (dx, dictOf (putL (Str.ofString nm) hsh (.str (Str.ofString nm) t1) v es) (putN (Str.ofString nm) es n))] → wpAny (model g.prog g.w) A (execs rest (envX cn cs L fI ccd [])) Q E { s with heap := h', toks := tk })
    (hsw : swapsWith (.Name (Str.ofString vn) pv) (some (.Attribute (.Name (Str.ofString "self") po) (Str.ofString nm) pt)) ps.line (envX cn cs L fI ccd []) = pure false := by rfl) :
    wpAny (model g.prog g.w) A (execs (.Assign [.Attribute (.Name (Str.ofString "self") po) (Str.ofString nm) pt] (.Name (Str.ofString vn) pv) ps :: rest) (envX cn cs L fI ccd [])) Q E s := by
  refine wpAny_execs_cons (plainObj_wpAny_Assign_Attribute ?_ hsw)
  refine wpAny_Name (wpAny_loadName_local hk k2 F.ns m2 ?_) d2
  refine wpAny_Name (wpAny_loadName_local hk k1 F.ns m1 ?_) (by decide)
  exact set_dict F X₀ N (.of_news N (.head _) (.tail _ (.head _))) rfl C.hs C.hp ht C.hh hl rfl (.tail (Nat.ne_of_gt hxd) (.head (fun _ h => nomatch h))) (hz _ _) fun h' F' N' => h h' _ _ _ F' N'

theorem ring_done {C X D : Addr} {hp h5 : Heap} {F : Fz} {n w f fd : AV} {v1 v2 v3 v4 : Value} {i1 i2 i3 i4 : Int} {t1 t2 t3 t4 : Tok} (sub : ∀ a o, F a = some o → hp.get? a = some o) (nd : hp.get? D = none) (nx : hp.get? X = none) (hxd : X ≠ D) (keep : ∀ b o, hp.get? b = some o → h5.get? b = some o)
    (gX : h5.get? X = some (instObj C D)) (gD : h5.get? D = some (dictOf [⟨i1, .str "n" t1, v1⟩, ⟨i2, .str "w" t2, v2⟩, ⟨i3, .str "mul" t3, v3⟩, ⟨i4, .str "divrem" t4, v4⟩] 4)) (e1 : Rep C F v1 n) (e2 : Rep C F v2 w) (e3 : Rep C F v3 f) (e4 : Rep C F v4 fd) :
    ∃ F', Le F F' ∧ (∀ a o, F' a = some o → h5.get? a = some o) ∧ (∀ a o, F' a = some o → F a = some o ∨ hp.get? a = none) ∧ Rep C F' (.ref X) (.ring n w f fd) := by
  have fd0 : F D = none := none_of fun o q => ns nd (sub _ _ q)
  have fx0 : F X = none := none_of fun o q => ns nx (sub _ _ q)
  generalize hdo : dictOf [⟨i1, .str "n" t1, v1⟩, ⟨i2, .str "w" t2, v2⟩, ⟨i3, .str "mul" t3, v3⟩, ⟨i4, .str "divrem" t4, v4⟩] 4 = dob at gD
  have le : Le F (upd (upd F D dob) X (instObj C D)) := (le_upd fd0).trans (le_upd ((if_neg hxd).trans fx0))
  exact ⟨_, le, fun a o e => (upd_some e).elim (fun z => z.1 ▸ z.2 ▸ gX) fun e => (upd_some e).elim (fun z => z.1 ▸ z.2 ▸ gD) fun e => keep _ _ (sub _ _ e), fun a o e => (upd_some e).elim (fun z => .inr (z.1 ▸ nx)) fun e => (upd_some e).elim (fun z => .inr (z.1 ▸ nd)) .inl,
    .ring (if_pos rfl) (((if_neg (Ne.symm hxd)).trans (if_pos rfl)).trans (congrArg some hdo.symm)) (e1.mono le) (e2.mono le) (e3.mono le) (e4.mono le)⟩
theorem ring_fn {g : Gd} {fI : Addr} {name qual : Str} {params : Arguments} {body : List Stmt} {scope : Scope} {dV kV doc pm cdv ct oc : Value} {an od : Option Addr} {osl : Array (Option Value)} {n w f fd : AV} (C : ClsOk g)
    (hi : findIn g.K (.ref g.ringC) "__init__" = some (some (.ref fI))) (hf : typeIn g.K (.ref fI) = some (.type "function"))
    (ho : g.K.lookup fI = some ⟨oc, od, .func (fnOf name qual params body scope dV kV doc pm an cdv ct), osl⟩) (hcd : codeIn g.K cdv qual = true)
    (hbind : ∀ v0 v1 v2 v3 v4 : Value, bindArgs (fnOf name qual params body scope dV kV doc pm an cdv ct) ⟨[v0, v1, v2, v3, v4], []⟩ = pure ((["self", "n", "w", "mul", "divrem"].map Str.ofString).zip [v0, v1, v2, v3, v4]))
    (hloc : ∀ n ∈ ["self", "n", "w", "mul", "divrem"], scope.names.lookup (Str.ofString n) = some .local) (hcell : ∀ x ∈ scope.names, x.2 ≠ .cell)
    (ht : ∀ n ∈ ["n", "w", "mul", "divrem"], takerIn g.K g.ringC (Str.ofString n) = some none)
    (hco : scope.isCoroutine = false) (hgen : scope.isGenerator = false) (hk : scope.kind = .function) {p1 p2 p3 p4 q1 q2 q3 q4 r1 r2 r3 r4 s1 s2 s3 s4 : Pos}
    (hb : body = [.Assign [.Attribute (.Name (Str.ofString "self") q1) (Str.ofString "n") r1] (.Name (Str.ofString "n") p1) s1, .Assign [.Attribute (.Name (Str.ofString "self") q2) (Str.ofString "w") r2] (.Name (Str.ofString "w") p2) s2,
      .Assign [.Attribute (.Name (Str.ofString "self") q3) (Str.ofString "mul") r3] (.Name (Str.ofString "mul") p3) s3, .Assign [.Attribute (.Name (Str.ofString "self") q4) (Str.ofString "divrem") r4] (.Name (Str.ofString "divrem") p4) s4]) :
    Ok g 3 g.ringC [n, w, f, fd] (.ring n w f fd) := by
  subst hb
  refine ⟨fun A s F vs B hh hdp hu sub R => ?_⟩
  refine hide fun G kG => ?_; obtain ⟨hp, gg, dd, t, os⟩ := s; refine kG ?_; clear kG G
  refine R.cons_ fun v1 _ e1 R => R.three_ (G := fun l => wpAny _ _ (call _ (v1 :: l)) _ _ _) fun v2 v3 v4 e2 e3 e4 => ?_
  have X : g.K.In hp := B.k
  refine wpAny_call (make_core (makes_of X C.hm) (looks_findIn X hi) (fun self => bind_fn X self hf) (.inl (by rfl)) ?_)
  have kp : ∀ b o, hp.get? b = some o → ((hp.push emptyDict).push (instObj g.ringC hp.objs.size)).get? b = some o := fun b o e => Heap.get?_push_of_some _ (Heap.get?_push_of_some _ e)
  have X1 := X.keeps kp
  refine codeAny_call_def (fd := fnOf name qual params _ scope dV kV doc pm an cdv ct) (body := _) (binds := (["self", "n", "w", "mul", "divrem"].map Str.ofString).zip [.ref (hp.objs.size + 1), v1, v2, v3, v4]) (by rw [depth_under_make]; omega) (X1 _ _ ho) rfl (B.t.keeps kp).nolimit (codeRec_of X1 hcd) rfl
    (BindsTo.of_eq (hbind _ _ _ _ _)) hcell (fun x hx => ?_) (fun h₁ hns kp1 => ?_) hco hgen hk
  · exact locals_of hloc hx
  have hx : ((hp.push emptyDict).push (instObj g.ringC hp.objs.size)).objs.size = hp.objs.size + 2 := by rw [Heap.size_push, Heap.size_push]
  have F0 : Fr hp (hp.objs.size + 2) h₁ (fun x => ((["self", "n", "w", "mul", "divrem"].map Str.ofString).zip [.ref (hp.objs.size + 1), v1, v2, v3, v4]).reverse.lookup x) :=
    ⟨by rw [← hx]; exact hns, fun b o e => kp1 b o (kp b o e), Nat.le_add_right _ _⟩
  have gd : ((hp.push emptyDict).push (instObj g.ringC hp.objs.size)).get? hp.objs.size = some emptyDict := by heap_get
  have gx : ((hp.push emptyDict).push (instObj g.ringC hp.objs.size)).get? (hp.objs.size + 1) = some (instObj g.ringC hp.objs.size) := by heap_get
  have nd : hp.get? hp.objs.size = none := get_size_none hp
  have nx : hp.get? (hp.objs.size + 1) = none := get_succ_none hp
  have N0 : News hp (hp.objs.size + 2) h₁ [(hp.objs.size + 1, instObj g.ringC hp.objs.size), (hp.objs.size, dictOf [] 0)] := fun p hm =>
    (List.mem_cons.mp hm).elim (fun e => e ▸ ⟨kp1 _ _ gx, Nat.ne_of_lt (Nat.lt_succ_self _), nx⟩) fun hm => (List.mem_singleton.mp hm) ▸ ⟨kp1 _ _ gd, Nat.ne_of_lt (Nat.lt_succ_of_lt (Nat.lt_succ_self _)), nd⟩
  have kl : ∀ n ∈ ["self", "n", "w", "mul", "divrem"], (envX qual scope (hp.objs.size + 2) fI cdv []).kindOf (Str.ofString n) = some .local := hloc
  show wpAny _ _ (execs _ (envX qual scope ((hp.push emptyDict).push (instObj g.ringC hp.objs.size)).objs.size fI cdv [])) _ _ _
  rw [hx]
  refine ring_stmt C hk (kl "self" (by decide)) (kl "n" (by decide)) (by decide) (by rfl) (by rfl) X F0 N0 (Nat.lt_succ_self _) (ht _ (by decide)) (by rfl) (fun _ _ => by exact Nat.le_of_ble_eq_true rfl) fun h2 tk2 hs2 t2 F2 N2 => ?_
  refine ring_stmt C hk (kl "self" (by decide)) (kl "w" (by decide)) (by decide) (by rfl) (by rfl) X F2 N2 (Nat.lt_succ_self _) (ht _ (by decide)) (by rfl) (fun _ _ => by exact Nat.le_of_ble_eq_true rfl) fun h3 tk3 hs3 t3 F3 N3 => ?_
  refine ring_stmt C hk (kl "self" (by decide)) (kl "mul" (by decide)) (by decide) (by rfl) (by rfl) X F3 N3 (Nat.lt_succ_self _) (ht _ (by decide)) (by rfl) (fun _ _ => by exact Nat.le_of_ble_eq_true rfl) fun h4 tk4 hs4 t4 F4 N4 => ?_
  refine ring_stmt C hk (kl "self" (by decide)) (kl "divrem" (by decide)) (by decide) (by rfl) (by rfl) X F4 N4 (Nat.lt_succ_self _) (ht _ (by decide)) (by rfl) (fun _ _ => by exact Nat.le_of_ble_eq_true rfl) fun h5 tk5 hs5 t5 F5 N5 => ?_
  have N6 : News hp (hp.objs.size + 2) h5 [(hp.objs.size + 1, instObj g.ringC hp.objs.size), (hp.objs.size, dictOf [⟨hs2, .str "n" t2, v1⟩, ⟨hs3, .str "w" t3, v2⟩, ⟨hs4, .str "mul" t4, v3⟩, ⟨hs5, .str "divrem" t5, v4⟩] 4)] := N5
  clear N2 N3 N4 N5
  refine wpAny_execs_nil ⟨rfl, ?_⟩
  exact ex1 (ring_done (F := F) sub nd nx (Nat.succ_ne_self _) F5.keep (N6 _ (.head _)).1 (N6 _ (.tail _ (.head _))).1 e1 e2 e3 e4) fun F' z => ⟨h5, tk5, F', rfl, F5.keep, z⟩
variable {W : World} {mean : ExcName → Option Value} {mg mb : Str → Option Value}
set_option maxHeartbeats 1000000 in
theorem ring_ok (n w f fd : AV) : Ok (GG W mean mg mb) 3 208 [n, w, f, fd] (.ring n w f fd) :=
  ring_fn (fI := 177) ⟨by rfl, by rfl, by rfl, by rfl⟩ (by rfl) (by rfl) (by exact rfl) (by rfl) (fun _ _ _ _ _ => rfl) (by decide) (by decide) (fun n h => by
    rcases h with _ | ⟨_, _ | ⟨_, _ | ⟨_, _ | ⟨_, h⟩⟩⟩⟩ <;> first | rfl | cases h) rfl rfl rfl rfl
end
section
variable {W : World} {mean : ExcName → Option Value} {mg mb : Str → Option Value}
set_option maxHeartbeats 1000000 in
theorem lucas_rests_ok {w : Nat} (hw : 5 ≤ w) (hw2 : w ≤ 60) (p q : Int) (m N : Nat) (hp : p.natAbs ≤ 9) (hq : q.natAbs ≤ 9) (hN : N < 2 ^ w) (hN3 : 3 ≤ N) (hodd : N % 2 = 1) (hm : m < 2 ^ 60) : Ok (GG W mean mg mb) 7 275 [avI (lim w m), .int p, .int q, avI (lim w N), .int w, .fn 289, .fn 331] (lres w N p q m) := by
  refine ok_fn (names := ["m", "p", "q", "n", "w", "mul", "divrem"]) (by exact rfl) (by rfl) (vec7 fun _ _ _ _ _ _ _ => rfl) (by decide) rfl (by decide) (by decide) rfl rfl rfl ?_
  intro A h₀ P ok
  have h60 : (2 : Nat) ^ w ≤ 2 ^ 60 := Nat.pow_le_pow_right (by decide) hw2
  have hlN := lim_10k (w := w) (k := 60) (K := N) (by walk_at "o") (by walk_at "o") (by decide)
  have h1k : ∀ z : Int, z.natAbs ≤ 1000 → z.natAbs < 2 ^ 1000 := fun z h => Nat.lt_of_le_of_lt h (by decide)
  have hpp : (p * p).natAbs ≤ 81 := by rw [Int.natAbs_mul]; exact Nat.mul_le_mul hp hp
  have hl : ∀ z : Int, (z % N).toNat < N := fun z => by have h0 := Int.emod_nonneg z (b := N) (by walk_at "o"); have h1 := Int.emod_lt_of_pos z (b := N) (by walk_at "o"); omega
  repeat' (first | ((fail_if_success (fail_if_success (with_reducible show Ev _ (Expr.Name _ _) _ _))); refine ev_loc (by assumption) (by walk_at "lk") (by rfl) ?_) | ((fail_if_success (fail_if_success (with_reducible show Ev _ (Expr.Name _ _) _ _))); refine ev_global (by assumption) (by rfl) ?_) | ((fail_if_success (fail_if_success (with_reducible show Ev _ (Expr.Call (Expr.Name _ _) _ _ _) _ _))); refine ev_call (by assumption) ?_) | ((fail_if_success (fail_if_success (with_reducible show ExB _ _ _ _))); with_reducible refine exb_cons ?_) | ((fail_if_success (fail_if_success (with_reducible show EvL _ _ _ _ _))); refine evl_cons ?_) | ((fail_if_success (fail_if_success (with_reducible show EvL _ _ _ _ _))); refine evl_nil ?_) | ((with_reducible show Ex _ (Stmt.Expr _ _) _ _); refine ex_expr ?_) | ((with_reducible show ∃ a, _ = AV.fn a ∧ _ ∧ _); refine ⟨_, rfl, by rfl, ?_⟩))
  refine ⟨2, _, Nat.le_of_ble_eq_true rfl, check_odd_ok (by walk_at "o") hw2 N hN3 hodd hlN, ?_⟩
  repeat' (first | ((fail_if_success (fail_if_success (with_reducible show Ev _ (Expr.Name _ _) _ _))); refine ev_loc (by assumption) (by walk_at "lk") (by rfl) ?_) | ((fail_if_success (fail_if_success (with_reducible show Ev _ (Expr.Name _ _) _ _))); refine ev_global (by assumption) (by rfl) ?_) | ((with_reducible show Ev _ (Expr.Constant (Const.int _) _ _) _ _); refine ev_int ?_) | ((fail_if_success (fail_if_success (with_reducible show Ev _ (Expr.Call (Expr.Name _ _) _ _ _) _ _))); refine ev_call (by assumption) ?_) | ((fail_if_success (fail_if_success (with_reducible show Ev _ (Expr.Tuple _ _ _) _ _))); refine ev_tuple ?_) | ((fail_if_success (fail_if_success (with_reducible show Ev _ (Expr.List _ _) _ _))); refine ev_list ?_) | ((fail_if_success (fail_if_success (with_reducible show ExB _ _ _ _))); with_reducible refine exb_cons ?_) | ((fail_if_success (fail_if_success (with_reducible show ExB _ _ _ _))); refine exb_nil ?_) | ((fail_if_success (fail_if_success (with_reducible show EvL _ _ _ _ _))); refine evl_cons ?_) | ((fail_if_success (fail_if_success (with_reducible show EvL _ _ _ _ _))); refine evl_nil ?_) | ((fail_if_success (fail_if_success (with_reducible show Tr _ (Expr.Compare _ [CmpOp.Eq] _ _) _ _))); refine tr_eq (by assumption) ?_) | ((with_reducible show Ex _ (Stmt.Assign [Expr.Name _ _] _ _) _ _); refine ex_assign (by assumption) ?_) | ((with_reducible show Ex _ (Stmt.If _ _ _ _) _ _); refine ex_if ?_) | ((with_reducible show Ex _ (Stmt.Return _ _) _ _); refine ex_return ?_) | ((with_reducible show ∃ a, _ = AV.fn a ∧ _ ∧ _); refine ⟨_, rfl, by rfl, ?_⟩) | ((with_reducible show Exists _); with_reducible refine ⟨_, eqr_list0, ?_⟩) | ((with_reducible show _ ∧ _); refine And.intro ?_ ?_) | ((with_reducible show AV.none = AV.none); rfl) | ((with_reducible show _ ≤ _); first | walk_at "o" | (rw [List.length_map]; omega) | (simp only [List.length_cons, List.length_nil]; omega)) | ((fail_if_success (fail_if_success (with_reducible show ite _ _ _))); with_reducible (refine if_dec ?_ ?_ <;> intro _)) | (with_reducible refine sq_next ?_))
  · rename_i h
    have h0 : m = 0 := (lim_nil_iff (by walk_at "o")).mp h
    refine ⟨5, _, Nat.le_of_ble_eq_true rfl, signed_rest_ok (by walk_at "o") hw2 _ N (h1k _ (by walk_at "o")) (by walk_at "o") hN, ?_⟩
    repeat' (first | ((with_reducible show Ev _ (Expr.Constant (Const.int _) _ _) _ _); refine ev_int ?_) | ((fail_if_success (fail_if_success (with_reducible show Ev _ (Expr.List _ _) _ _))); refine ev_list ?_) | ((fail_if_success (fail_if_success (with_reducible show EvL _ _ _ _ _))); refine evl_cons ?_) | ((fail_if_success (fail_if_success (with_reducible show EvL _ _ _ _ _))); refine evl_nil ?_) | ((with_reducible show _ ∧ _); refine And.intro ?_ ?_) | ((with_reducible show _ ≤ _); first | walk_at "o" | (rw [List.length_map]; omega) | (simp only [List.length_cons, List.length_nil]; omega)) | (with_reducible refine sq_ret ?_) | (with_reducible refine ret_is ?_))
    have e1 : ((2 : Int) % N).toNat = 2 % N := by rw [show (2 : Int) = ((2 : Nat) : Int) from rfl, ← Int.natCast_emod]; rfl
    rw [lres, if_pos h0, if_pos h0, if_pos h0, e1, lim_zero, lim_one (by walk_at "o") (by decide) (Nat.one_lt_two_pow (by walk_at "o"))]; rfl
  · rename_i h
    have h0 : m ≠ 0 := fun e => h ((lim_nil_iff (by walk_at "o")).mpr e)
    refine ⟨3, _, Nat.le_of_ble_eq_true rfl, ring_ok _ _ _ _, ?_⟩
    repeat' first | (first | ((fail_if_success (fail_if_success (with_reducible show Ev _ (Expr.Name _ _) _ _))); refine ev_loc (by assumption) (by walk_at "lk") (by rfl) ?_) | ((fail_if_success (fail_if_success (with_reducible show Ev _ (Expr.Name _ _) _ _))); refine ev_global (by assumption) (by rfl) ?_) | ((with_reducible show Ev _ (Expr.Constant (Const.int _) _ _) _ _); refine ev_int ?_) | ((fail_if_success (fail_if_success (with_reducible show Ev _ (Expr.BinOp _ Operator.Sub _ _) _ _))); refine ev_sub ?_) | ((fail_if_success (fail_if_success (with_reducible show Ev _ (Expr.BinOp _ Operator.Mult _ _) _ _))); refine ev_mul ?_) | ((fail_if_success (fail_if_success (with_reducible show Ev _ (Expr.Call (Expr.Name _ _) _ _ _) _ _))); refine ev_call (by assumption) ?_) | ((fail_if_success (fail_if_success (with_reducible show ExB _ _ _ _))); with_reducible refine exb_cons ?_) | ((fail_if_success (fail_if_success (with_reducible show EvL _ _ _ _ _))); refine evl_cons ?_) | ((fail_if_success (fail_if_success (with_reducible show EvL _ _ _ _ _))); refine evl_nil ?_) | ((with_reducible show Ex _ (Stmt.Assign [Expr.Name _ _] _ _) _ _); refine ex_assign (by assumption) ?_) | ((with_reducible show Ex _ (Stmt.Return _ _) _ _); refine ex_return ?_) | ((with_reducible show ∃ a, _ = AV.fn a ∧ _ ∧ _); refine ⟨_, rfl, by rfl, ?_⟩) | ((with_reducible show Exists _); with_reducible refine ⟨_, _, rfl, rfl, ?_⟩) | ((with_reducible show _ ∧ _); refine And.intro ?_ ?_) | ((with_reducible show _ ∨ _); first | (refine Or.inl ?_; walk_at "o") | omega) | (with_reducible refine sq_next ?_)) | refine ⟨5, _, Nat.le_of_ble_eq_true rfl, signed_rest_ok (by walk_at "o") hw2 _ N (h1k _ (by walk_at "o")) (by walk_at "o") hN, ?_⟩
    refine ⟨6, _, Nat.le_of_ble_eq_true rfl, lucas_rows_ok (by walk_at "o") hw2 _ _ _ m N (hl _) (hl _) (hl _) hN h0 hm, ?_⟩
    repeat' (first | (with_reducible refine sq_ret ?_) | (with_reducible refine ret_is ?_))
    rw [lres, if_neg h0, if_neg h0, if_neg h0]
set_option maxHeartbeats 1000000 in
theorem rank_ok {w : Nat} (hw : 5 ≤ w) (hw2 : w ≤ 60) (most : Nat) (p q : Int) (N : Nat) (hmost : most ≤ 100) (hp : p.natAbs ≤ 9) (hq : q.natAbs ≤ 9) (hN : N < 2 ^ w) (hN3 : 3 ≤ N) (hodd : N % 2 = 1) : Ok (GG W mean mg mb) 7 282 [.int most, .int p, .int q, avI (lim w N), .int w, .fn 289, .fn 331] (rkv (rkf (um N (p % N).toNat (q % N).toNat) most)) := by
  refine ok_fn (names := ["most", "p", "q", "n", "w", "mul", "divrem"]) (by exact rfl) (by rfl) (vec7 fun _ _ _ _ _ _ _ => rfl) (by decide) rfl (by decide) (by decide) rfl rfl rfl ?_
  intro A h₀ P ok
  have h60 : (2 : Nat) ^ w ≤ 2 ^ 60 := Nat.pow_le_pow_right (by decide) hw2
  have hlN := lim_10k (w := w) (k := 60) (K := N) (by walk_at "o") (by walk_at "o") (by decide)
  have h1k : ∀ z : Int, z.natAbs ≤ 1000 → z.natAbs < 2 ^ 1000 := fun z h => Nat.lt_of_le_of_lt h (by decide)
  have hl : ∀ z : Int, (z % N).toNat < N := fun z => by have h0 := Int.emod_nonneg z (b := N) (by walk_at "o"); have h1 := Int.emod_lt_of_pos z (b := N) (by walk_at "o"); omega
  repeat' (first | ((fail_if_success (fail_if_success (with_reducible show Ev _ (Expr.Name _ _) _ _))); refine ev_loc (by assumption) (by walk_at "lk") (by rfl) ?_) | ((fail_if_success (fail_if_success (with_reducible show Ev _ (Expr.Name _ _) _ _))); refine ev_global (by assumption) (by rfl) ?_) | ((fail_if_success (fail_if_success (with_reducible show Ev _ (Expr.Call (Expr.Name _ _) _ _ _) _ _))); refine ev_call (by assumption) ?_) | ((fail_if_success (fail_if_success (with_reducible show ExB _ _ _ _))); with_reducible refine exb_cons ?_) | ((fail_if_success (fail_if_success (with_reducible show EvL _ _ _ _ _))); refine evl_cons ?_) | ((fail_if_success (fail_if_success (with_reducible show EvL _ _ _ _ _))); refine evl_nil ?_) | ((with_reducible show Ex _ (Stmt.Expr _ _) _ _); refine ex_expr ?_) | ((with_reducible show ∃ a, _ = AV.fn a ∧ _ ∧ _); refine ⟨_, rfl, by rfl, ?_⟩))
  refine ⟨2, _, Nat.le_of_ble_eq_true rfl, check_odd_ok (by walk_at "o") hw2 N hN3 hodd hlN, ?_⟩
  repeat' (first | ((fail_if_success (fail_if_success (with_reducible show Ev _ (Expr.Name _ _) _ _))); refine ev_loc (by assumption) (by walk_at "lk") (by rfl) ?_) | ((fail_if_success (fail_if_success (with_reducible show Ev _ (Expr.Name _ _) _ _))); refine ev_global (by assumption) (by rfl) ?_) | ((fail_if_success (fail_if_success (with_reducible show Ev _ (Expr.Call (Expr.Name _ _) _ _ _) _ _))); refine ev_call (by assumption) ?_) | ((fail_if_success (fail_if_success (with_reducible show ExB _ _ _ _))); with_reducible refine exb_cons ?_) | ((fail_if_success (fail_if_success (with_reducible show EvL _ _ _ _ _))); refine evl_cons ?_) | ((fail_if_success (fail_if_success (with_reducible show EvL _ _ _ _ _))); refine evl_nil ?_) | ((with_reducible show Ex _ (Stmt.Assign [Expr.Name _ _] _ _) _ _); refine ex_assign (by assumption) ?_) | ((with_reducible show ∃ a, _ = AV.fn a ∧ _ ∧ _); refine ⟨_, rfl, by rfl, ?_⟩) | ((with_reducible show _ ∧ _); refine And.intro ?_ ?_) | ((with_reducible show AV.none = AV.none); rfl) | (with_reducible refine sq_next ?_))
  refine ⟨3, _, Nat.le_of_ble_eq_true rfl, ring_ok _ _ _ _, ?_⟩
  repeat' first | (first | ((fail_if_success (fail_if_success (with_reducible show Ev _ (Expr.Name _ _) _ _))); refine ev_loc (by assumption) (by walk_at "lk") (by rfl) ?_) | ((fail_if_success (fail_if_success (with_reducible show Ev _ (Expr.Name _ _) _ _))); refine ev_global (by assumption) (by rfl) ?_) | ((with_reducible show Ev _ (Expr.Constant (Const.int _) _ _) _ _); refine ev_int ?_) | ((fail_if_success (fail_if_success (with_reducible show Ev _ (Expr.BinOp _ Operator.Add _ _) _ _))); refine ev_add ?_) | ((fail_if_success (fail_if_success (with_reducible show Ev _ (Expr.Call (Expr.Name _ _) _ _ _) _ _))); refine ev_call (by assumption) ?_) | ((fail_if_success (fail_if_success (with_reducible show Ev _ (Expr.List _ _) _ _))); refine ev_list ?_) | ((fail_if_success (fail_if_success (with_reducible show ExB _ _ _ _))); with_reducible refine exb_cons ?_) | ((fail_if_success (fail_if_success (with_reducible show EvL _ _ _ _ _))); refine evl_cons ?_) | ((fail_if_success (fail_if_success (with_reducible show EvL _ _ _ _ _))); refine evl_nil ?_) | ((with_reducible show Ex _ (Stmt.For _ (Expr.Call (Expr.Name (Str.ofString "range") _) [_, _] _ _) _ _ _) _ _); refine ex_forB (by assumption) (by rfl) (by boot_by_name) ?_) | ((with_reducible show Ex _ (Stmt.Assign [Expr.Tuple [_, _] _ _] (Expr.Tuple _ _ _) _) _ _); refine ex_tup2 (by assumption) ?_) | ((with_reducible show ∃ a, _ = AV.fn a ∧ _ ∧ _); refine ⟨_, rfl, by rfl, ?_⟩) | ((with_reducible show Exists _); with_reducible refine ⟨_, _, rfl, rfl, ?_⟩) | ((with_reducible show Exists _); with_reducible refine ⟨_, _, rfl, ?_⟩) | ((with_reducible show _ ∧ _); refine And.intro ?_ ?_) | ((with_reducible show _ ≤ _); first | walk_at "o" | (rw [List.length_map]; omega) | (simp only [List.length_cons, List.length_nil]; omega)) | ((with_reducible show _ < _); first | walk_at "o" | (rw [List.length_map]; omega)) | (with_reducible refine sq_next ?_)) | refine ⟨5, _, Nat.le_of_ble_eq_true rfl, signed_rest_ok (by walk_at "o") hw2 _ N (h1k _ (by walk_at "o")) (by walk_at "o") hN, ?_⟩
  have h1 : AV.list [.int 1] = avI (lim w 1) := by rw [lim_one (by walk_at "o") (by decide) (Nat.one_lt_two_pow (by walk_at "o"))]; rfl
  generalize ha : (p % N).toNat = a
  generalize hb : (q % N).toNat = b
  have haN : a < N := ha ▸ hl p
  have hbN : b < N := hb ▸ hl q
  have hu := um_lt (N := N) (a := a) (b := b) (by walk_at "o")
  refine ⟨fun i c => Inv (look "ring" c.loc = some (rg w N) ∧ look "first" c.loc = some (avI (lim w a)) ∧ look "second" c.loc = some (avI (lim w b)) ∧ look "here" c.loc = some (avI (lim w (um N a b i))) ∧ look "there" c.loc = some (avI (lim w (um N a b (i + 1)))) ∧ rkf (um N a b) i = none),
    ⟨by walk_at "lk", by walk_at "lk", by walk_at "lk", lk_to (by walk_at "lk") (by rw [um, lim_zero]; rfl), lk_to (by walk_at "lk") h1, rfl⟩, ?_, ?_⟩
  · rintro i c hi hI; (first | refine an6 hI fun g1 g2 g3 g4 g5 g6 => ?_ | refine an6 hI.out fun g1 g2 g3 g4 g5 g6 => ?_); clear hI
    have b1 := hu i
    have b2 := hu (i + 1)
    repeat' first | exact Nat.mod_lt _ (by walk_at "o") | (first | ((fail_if_success (fail_if_success (with_reducible show Ev _ (Expr.Name _ _) _ _))); refine ev_loc (by assumption) (by walk_at "lk") (by rfl) ?_) | ((fail_if_success (fail_if_success (with_reducible show Ev _ (Expr.Call (Expr.Attribute _ _ _) _ _ _) _ _))); refine ev_mcall (by assumption) (by rfl) (by rfl) (by rfl) (by rfl) (by decide) ?_) | ((fail_if_success (fail_if_success (with_reducible show Ev _ (Expr.List _ _) _ _))); refine ev_list ?_) | ((fail_if_success (fail_if_success (with_reducible show ExB _ _ _ _))); with_reducible refine exb_cons ?_) | ((fail_if_success (fail_if_success (with_reducible show ExB _ _ _ _))); refine exb_nil ?_) | ((fail_if_success (fail_if_success (with_reducible show EvL _ _ _ _ _))); refine evl_cons ?_) | ((fail_if_success (fail_if_success (with_reducible show EvL _ _ _ _ _))); refine evl_nil ?_) | ((fail_if_success (fail_if_success (with_reducible show Tr _ (Expr.Compare _ [CmpOp.Eq] _ _) _ _))); refine tr_eq (by assumption) ?_) | ((with_reducible show Ex _ (Stmt.Assign [Expr.Tuple [_, _] _ _] (Expr.Tuple _ _ _) _) _ _); refine ex_tup2 (by assumption) ?_) | ((with_reducible show Ex _ (Stmt.If _ _ _ _) _ _); refine ex_if ?_) | ((with_reducible show Ex _ (Stmt.Return _ _) _ _); refine ex_return ?_) | ((with_reducible show ∃ n w fm fd, _ = AV.ring n w fm fd ∧ _); refine ⟨_, _, _, _, rfl, ?_⟩) | ((with_reducible show Exists _); with_reducible refine ⟨_, eqr_list0, ?_⟩) | ((with_reducible show _ ∧ _); refine And.intro ?_ ?_) | ((with_reducible show _ ≤ _); first | walk_at "o" | (rw [List.length_map]; omega) | (simp only [List.length_cons, List.length_nil]; omega)) | ((with_reducible show _ < _); first | walk_at "o" | (rw [List.length_map]; omega)) | ((fail_if_success (fail_if_success (with_reducible show ite _ _ _))); with_reducible (refine if_dec ?_ ?_ <;> intro _)) | (with_reducible refine sq_next ?_) | (with_reducible refine sq_ret ?_) | (with_reducible refine lq_next ?_) | (with_reducible refine lq_ret ?_) | (with_reducible refine ret_is ?_)) | ((with_reducible show ∃ d r, d ≤ _ ∧ Ok _ d _ _ r ∧ _); first | refine ⟨5, _, Nat.le_of_ble_eq_true rfl, product_ok (by walk_at "o") hw2 _ _ N ?_ ?_ hN, ?_⟩ | refine ⟨3, _, Nat.le_of_ble_eq_true rfl, minus_ok (by walk_at "o") hw2 _ _ N ?_ ?_ hN, ?_⟩)
    · rename_i h
      have h0 : um N a b (i + 1) = 0 := (lim_nil_iff (w := w) (by walk_at "o")).mp h
      have h2 : rkf (um N a b) (i + 1) = some (i + 1) := by rw [rkf, g6]; simp [h0]
      rw [rkf_up h2 (by walk_at "o")]
      show AV.int (1 + i) = AV.int ((i + 1 : Nat) : Int)
      rw [show (1 : Int) + i = ((i + 1 : Nat) : Int) by omega]
    · rename_i h
      have h0 : um N a b (i + 1) ≠ 0 := fun e => h ((lim_nil_iff (w := w) (by walk_at "o")).mpr e)
      exact ⟨by walk_at "lk", by walk_at "lk", by walk_at "lk", by walk_at "lk", lk_to (by walk_at "lk") (by rfl), by rw [rkf, g6]; simp [h0]⟩
  · rintro c1 hI; (first | refine an6 hI fun g1 g2 g3 g4 g5 g6 => ?_ | refine an6 hI.out fun g1 g2 g3 g4 g5 g6 => ?_); clear hI
    rw [show ((most : Int) + 1 - 1).toNat = most by omega] at g6
    repeat' (first | ((with_reducible show Ev _ (Expr.Constant Const.none _ _) _ _); refine ev_none ?_) | ((fail_if_success (fail_if_success (with_reducible show ExB _ _ _ _))); with_reducible refine exb_cons ?_) | ((with_reducible show Ex _ (Stmt.Return _ _) _ _); refine ex_return ?_) | (with_reducible refine sq_next ?_) | (with_reducible refine sq_ret ?_) | (with_reducible refine ret_is ?_))
    rw [g6]; rfl
end
section
variable {W : World} {mean : ExcName → Option Value} {mg mb : Str → Option Value}
set_option maxHeartbeats 400000 in
theorem sg_eq {w m : Nat} {b : Bool} {z : Int} (h1 : b = decide (z < 0)) (h2 : m = z.natAbs) : (AV.tup [.bool b, avI (lim w m)]) = sg w z := by rw [h1, h2]
theorem mul_sign (x y : Int) : ((decide (x < 0) != decide (y < 0)) && decide (x.natAbs * y.natAbs ≠ 0)) = decide (x * y < 0) := by
  rcases Int.lt_trichotomy x 0 with h | h | h <;> rcases Int.lt_trichotomy y 0 with k | k | k
  · have := Int.mul_pos_of_neg_of_neg h k
    rw [decide_eq_true h, decide_eq_true k, decide_eq_false (show ¬ x * y < 0 by omega)]; rfl
  · subst k; simp
  · have := Int.mul_neg_of_neg_of_pos h k
    rw [decide_eq_true h, decide_eq_false (show ¬ y < 0 by omega), decide_eq_true this, decide_eq_true (show x.natAbs * y.natAbs ≠ 0 from Nat.mul_ne_zero (by walk_at "o") (by walk_at "o"))]; rfl
  · subst h; simp
  · subst h; simp
  · subst h; simp
  · have := Int.mul_neg_of_pos_of_neg h k
    rw [decide_eq_true k, decide_eq_false (show ¬ x < 0 by omega), decide_eq_true this, decide_eq_true (show x.natAbs * y.natAbs ≠ 0 from Nat.mul_ne_zero (by walk_at "o") (by walk_at "o"))]; rfl
  · subst k; simp
  · have := Int.mul_pos h k
    rw [decide_eq_false (show ¬ x < 0 by omega), decide_eq_false (show ¬ y < 0 by omega), decide_eq_false (show ¬ x * y < 0 by omega)]; rfl
set_option maxHeartbeats 400000 in
theorem signed_ok {w : Nat} (hw : 1 ≤ w) (b : Bool) (M : Nat) (hl : (lim w M).length ≤ 10000) : Ok (GG W mean mg mb) 1 226 [.bool b, avI (lim w M)] (.tup [.bool (b && decide (M ≠ 0)), avI (lim w M)]) := by
  refine ok_fn (names := ["is_below", "nat"]) (by exact rfl) (by rfl) (vec2 fun _ _ => rfl) (by decide) rfl (by decide) (by decide) rfl rfl rfl ?_
  intro A h₀ P ok
  repeat' (first | ((fail_if_success (fail_if_success (with_reducible show Ev _ (Expr.Name _ _) _ _))); refine ev_loc (by assumption) (by walk_at "lk") (by rfl) ?_) | ((with_reducible show Ev _ (Expr.Constant (Const.int _) _ _) _ _); refine ev_int ?_) | ((with_reducible show Ev _ (Expr.Call (Expr.Name (Str.ofString "len") _) _ _ _) _ _); refine ev_bcall (id := "len") (by assumption) (by rfl) (by boot_by_name) (by decide) ?_) | ((fail_if_success (fail_if_success (with_reducible show Ev _ (Expr.Tuple _ _ _) _ _))); refine ev_tuple ?_) | ((fail_if_success (fail_if_success (with_reducible show Ev _ (Expr.BoolOp BoolOp.And _ _) _ _))); refine ev_and2 ?_) | ((fail_if_success (fail_if_success (with_reducible show Ev _ (Expr.Compare _ [CmpOp.Gt] _ _) _ _))); refine ev_gt ?_) | ((fail_if_success (fail_if_success (with_reducible show ExB _ _ _ _))); with_reducible refine exb_cons ?_) | ((fail_if_success (fail_if_success (with_reducible show EvL _ _ _ _ _))); refine evl_cons ?_) | ((fail_if_success (fail_if_success (with_reducible show EvL _ _ _ _ _))); refine evl_nil ?_) | ((with_reducible show Ex _ (Stmt.Return _ _) _ _); refine ex_return ?_) | ((with_reducible show Exists _); with_reducible refine ⟨_, _, rfl, rfl, ?_⟩) | ((with_reducible show Exists _); with_reducible refine ⟨_, bi_lenI ?_, ?_⟩) | ((with_reducible show Exists _); with_reducible refine ⟨_, rfl, ?_⟩) | ((with_reducible show _ ∧ _); refine And.intro ?_ ?_) | ((with_reducible show _ ≤ _); first | walk_at "o" | (rw [List.length_map]; omega) | (simp only [List.length_cons, List.length_nil]; omega)) | ((fail_if_success (fail_if_success (with_reducible show ite _ _ _))); with_reducible (refine if_bool ?_ ?_ <;> intro _)) | (with_reducible refine sq_ret ?_) | (with_reducible refine ret_is ?_))
  · rename_i h
    have e : decide ((0 : Int) < ((lim w M).length : Int)) = decide (M ≠ 0) := by
      have := lim_len0 (w := w) (n := M) (by walk_at "o")
      exact decide_eq_decide.mpr ⟨fun h e => by have := this.mpr e; omega, fun h => by
        rcases Nat.eq_zero_or_pos (lim w M).length with h1 | h1
        · exact absurd (this.mp h1) h
        · omega⟩
    rw [e, h]; rfl
  · rename_i h
    rw [h]; rfl
set_option maxHeartbeats 400000 in
theorem s_of_ok {w : Nat} (hw : 1 ≤ w) (hw2 : w ≤ 60) (z : Int) (hz : z.natAbs < 2 ^ 1000) : Ok (GG W mean mg mb) 2 233 [.int z, .int w] (sg w z) := by
  refine ok_fn (names := ["number", "w"]) (by exact rfl) (by rfl) (vec2 fun _ _ => rfl) (by decide) rfl (by decide) (by decide) rfl rfl rfl ?_
  intro A h₀ P ok
  have hl := lim_len_le (w := w) (by walk_at "o") hz
  repeat' (first | ((fail_if_success (fail_if_success (with_reducible show Ev _ (Expr.Name _ _) _ _))); refine ev_loc (by assumption) (by walk_at "lk") (by rfl) ?_) | ((fail_if_success (fail_if_success (with_reducible show Ev _ (Expr.Name _ _) _ _))); refine ev_global (by assumption) (by rfl) ?_) | ((with_reducible show Ev _ (Expr.Constant (Const.int _) _ _) _ _); refine ev_int ?_) | ((with_reducible show Ev _ (Expr.Call (Expr.Name (Str.ofString "abs") _) _ _ _) _ _); refine ev_bcall (id := "abs") (by assumption) (by rfl) (by boot_by_name) (by decide) ?_) | ((fail_if_success (fail_if_success (with_reducible show Ev _ (Expr.Call (Expr.Name _ _) _ _ _) _ _))); refine ev_call (by assumption) ?_) | ((fail_if_success (fail_if_success (with_reducible show Ev _ (Expr.Tuple _ _ _) _ _))); refine ev_tuple ?_) | ((fail_if_success (fail_if_success (with_reducible show Ev _ (Expr.Compare _ [CmpOp.Lt] _ _) _ _))); refine ev_lt ?_) | ((fail_if_success (fail_if_success (with_reducible show ExB _ _ _ _))); with_reducible refine exb_cons ?_) | ((fail_if_success (fail_if_success (with_reducible show EvL _ _ _ _ _))); refine evl_cons ?_) | ((fail_if_success (fail_if_success (with_reducible show EvL _ _ _ _ _))); refine evl_nil ?_) | ((with_reducible show Ex _ (Stmt.Return _ _) _ _); refine ex_return ?_) | ((with_reducible show ∃ a, _ = AV.fn a ∧ _ ∧ _); refine ⟨_, rfl, by rfl, ?_⟩) | ((with_reducible show Exists _); with_reducible refine ⟨_, _, rfl, rfl, ?_⟩) | ((with_reducible show Exists _); with_reducible refine ⟨_, bi_abs, ?_⟩))
  refine ⟨1, _, Nat.le_of_ble_eq_true rfl, nat_of_ok hw hw2 z.natAbs hz, ?_⟩
  repeat' (first | ((fail_if_success (fail_if_success (with_reducible show EvL _ _ _ _ _))); refine evl_nil ?_) | ((with_reducible show _ ∧ _); refine And.intro ?_ ?_) | ((with_reducible show _ ≤ _); first | walk_at "o" | (rw [List.length_map]; omega) | (simp only [List.length_cons, List.length_nil]; omega)) | (with_reducible refine sq_ret ?_) | (with_reducible refine ret_is ?_))
  rfl
set_option maxHeartbeats 400000 in
theorem s_neg_ok {w : Nat} (hw : 1 ≤ w) (hw2 : w ≤ 60) (z : Int) (hz : z.natAbs < 2 ^ 200) : Ok (GG W mean mg mb) 2 240 [sg w z] (sg w (-z)) := by
  refine ok_fn (names := ["x"]) (by exact rfl) (by rfl) (vec1 fun _ => rfl) (by decide) rfl (by decide) (by decide) rfl rfl rfl ?_
  intro A h₀ P ok
  have hl := lim_len_le (w := w) (by walk_at "o") hz
  repeat' (first | ((fail_if_success (fail_if_success (with_reducible show Ev _ (Expr.Name _ _) _ _))); refine ev_loc (by assumption) (by walk_at "lk") (by rfl) ?_) | ((fail_if_success (fail_if_success (with_reducible show Ev _ (Expr.Name _ _) _ _))); refine ev_global (by assumption) (by rfl) ?_) | ((with_reducible show Ev _ (Expr.Constant (Const.int _) _ _) _ _); refine ev_int ?_) | ((fail_if_success (fail_if_success (with_reducible show Ev _ (Expr.Subscript (Expr.Name _ _) _ _) _ _))); refine ev_sel ?_) | ((fail_if_success (fail_if_success (with_reducible show Ev _ (Expr.Call (Expr.Name _ _) _ _ _) _ _))); refine ev_call (by assumption) ?_) | ((fail_if_success (fail_if_success (with_reducible show Ev _ (Expr.UnaryOp UnaryOp.Not _ _) _ _))); refine ev_not ?_) | ((fail_if_success (fail_if_success (with_reducible show ExB _ _ _ _))); with_reducible refine exb_cons ?_) | ((fail_if_success (fail_if_success (with_reducible show EvL _ _ _ _ _))); refine evl_cons ?_) | ((fail_if_success (fail_if_success (with_reducible show EvL _ _ _ _ _))); refine evl_nil ?_) | ((with_reducible show Ex _ (Stmt.Return _ _) _ _); refine ex_return ?_) | ((with_reducible show ∃ a, _ = AV.fn a ∧ _ ∧ _); refine ⟨_, rfl, by rfl, ?_⟩) | ((with_reducible show Exists _); with_reducible refine ⟨_, _, rfl, item_t0, ?_⟩) | ((with_reducible show Exists _); with_reducible refine ⟨_, _, rfl, item_t1, ?_⟩) | ((with_reducible show Exists _); with_reducible refine ⟨_, rfl, ?_⟩))
  refine ⟨1, _, Nat.le_of_ble_eq_true rfl, signed_ok (by walk_at "o") _ z.natAbs (by walk_at "o"), ?_⟩
  repeat' (first | (with_reducible refine sq_ret ?_) | (with_reducible refine ret_is ?_))
  rw [sg_eq (z := -z) (b := !decide (z < 0) && decide (z.natAbs ≠ 0)) (m := z.natAbs) (by rw [Bool.eq_iff_iff]; simp; omega) (by walk_at "o")]
set_option maxHeartbeats 400000 in
theorem s_add_ok {w : Nat} (hw : 1 ≤ w) (hw2 : w ≤ 60) (x y : Int) (hx : x.natAbs < 2 ^ 200) (hy : y.natAbs < 2 ^ 200) : Ok (GG W mean mg mb) 3 247 [sg w x, sg w y, .int w] (sg w (x + y)) := by
  refine ok_fn (names := ["x", "y", "w"]) (by exact rfl) (by rfl) (vec3 fun _ _ _ => rfl) (by decide) rfl (by decide) (by decide) rfl rfl rfl ?_
  intro A h₀ P ok
  have hl := lim_len_le (w := w) (by walk_at "o") hx
  have hl2 := lim_len_le (w := w) (by walk_at "o") hy
  repeat' (first | ((fail_if_success (fail_if_success (with_reducible show Ev _ (Expr.Name _ _) _ _))); refine ev_loc (by assumption) (by walk_at "lk") (by rfl) ?_) | ((fail_if_success (fail_if_success (with_reducible show Ev _ (Expr.Name _ _) _ _))); refine ev_global (by assumption) (by rfl) ?_) | ((with_reducible show Ev _ (Expr.Constant (Const.int _) _ _) _ _); refine ev_int ?_) | ((fail_if_success (fail_if_success (with_reducible show Ev _ (Expr.Subscript (Expr.Name _ _) _ _) _ _))); refine ev_sel ?_) | ((fail_if_success (fail_if_success (with_reducible show Ev _ (Expr.Call (Expr.Name _ _) _ _ _) _ _))); refine ev_call (by assumption) ?_) | ((fail_if_success (fail_if_success (with_reducible show ExB _ _ _ _))); with_reducible refine exb_cons ?_) | ((fail_if_success (fail_if_success (with_reducible show ExB _ _ _ _))); refine exb_nil ?_) | ((fail_if_success (fail_if_success (with_reducible show EvL _ _ _ _ _))); refine evl_cons ?_) | ((fail_if_success (fail_if_success (with_reducible show EvL _ _ _ _ _))); refine evl_nil ?_) | ((fail_if_success (fail_if_success (with_reducible show Tr _ (Expr.Compare _ [CmpOp.Lt] _ _) _ _))); refine tr_lt ?_) | ((fail_if_success (fail_if_success (with_reducible show Tr _ (Expr.Compare _ [CmpOp.Eq] _ _) _ _))); refine tr_eq (by assumption) ?_) | ((with_reducible show Ex _ (Stmt.If _ _ _ _) _ _); refine ex_if ?_) | ((with_reducible show Ex _ (Stmt.Return _ _) _ _); refine ex_return ?_) | ((with_reducible show ∃ a, _ = AV.fn a ∧ _ ∧ _); refine ⟨_, rfl, by rfl, ?_⟩) | ((with_reducible show Exists _); with_reducible refine ⟨_, _, rfl, item_t0, ?_⟩) | ((with_reducible show Exists _); with_reducible refine ⟨_, _, rfl, item_t1, ?_⟩) | ((with_reducible show Exists _); with_reducible refine ⟨_, eqr_bool, ?_⟩) | ((fail_if_success (fail_if_success (with_reducible show ite _ _ _))); with_reducible (refine if_bool ?_ ?_ <;> intro _)) | (with_reducible refine sq_next ?_))
  · rename_i h
    have h := beq_iff_eq.mp h
    have h := decide_eq_decide.mp h
    refine ⟨1, _, Nat.le_of_ble_eq_true rfl, add_ok (by walk_at "o") hw2 x.natAbs y.natAbs (by walk_at "o") (by walk_at "o"), ?_⟩
    repeat' (first | ((fail_if_success (fail_if_success (with_reducible show EvL _ _ _ _ _))); refine evl_nil ?_))
    refine ⟨1, _, Nat.le_of_ble_eq_true rfl, signed_ok (by walk_at "o") _ (x.natAbs + y.natAbs) (lim_10k (k := 201) (by walk_at "o") (by walk_at "o") (by decide)), ?_⟩
    repeat' (first | (with_reducible refine sq_ret ?_) | (with_reducible refine ret_is ?_))
    exact sg_eq (by rw [Bool.eq_iff_iff]; simp; omega) (by walk_at "o")
  · rename_i h
    have h := beq_eq_false_iff_ne.mp h
    have h : ¬ ((x < 0) ↔ (y < 0)) := fun e => h (decide_eq_decide.mpr e)
    refine ⟨1, _, Nat.le_of_ble_eq_true rfl, compare_ok (by walk_at "o") x.natAbs y.natAbs (by walk_at "o") (by walk_at "o"), ?_⟩
    repeat' (first | ((fail_if_success (fail_if_success (with_reducible show Ev _ (Expr.Name _ _) _ _))); refine ev_loc (by assumption) (by walk_at "lk") (by rfl) ?_) | ((fail_if_success (fail_if_success (with_reducible show Ev _ (Expr.Name _ _) _ _))); refine ev_global (by assumption) (by rfl) ?_) | ((with_reducible show Ev _ (Expr.Constant (Const.int _) _ _) _ _); refine ev_int ?_) | ((fail_if_success (fail_if_success (with_reducible show Ev _ (Expr.Subscript (Expr.Name _ _) _ _) _ _))); refine ev_sel ?_) | ((fail_if_success (fail_if_success (with_reducible show Ev _ (Expr.Call (Expr.Name _ _) _ _ _) _ _))); refine ev_call (by assumption) ?_) | ((fail_if_success (fail_if_success (with_reducible show ExB _ _ _ _))); with_reducible refine exb_cons ?_) | ((fail_if_success (fail_if_success (with_reducible show ExB _ _ _ _))); refine exb_nil ?_) | ((fail_if_success (fail_if_success (with_reducible show EvL _ _ _ _ _))); refine evl_cons ?_) | ((fail_if_success (fail_if_success (with_reducible show EvL _ _ _ _ _))); refine evl_nil ?_) | ((with_reducible show Ex _ (Stmt.Return _ _) _ _); refine ex_return ?_) | ((with_reducible show ∃ a, _ = AV.fn a ∧ _ ∧ _); refine ⟨_, rfl, by rfl, ?_⟩) | ((with_reducible show Exists _); with_reducible refine ⟨_, _, rfl, rfl, ?_⟩) | ((with_reducible show Exists _); with_reducible refine ⟨_, _, rfl, item_t0, ?_⟩) | ((with_reducible show Exists _); with_reducible refine ⟨_, _, rfl, item_t1, ?_⟩) | ((fail_if_success (fail_if_success (with_reducible show ite _ _ _))); with_reducible (refine if_dec ?_ ?_ <;> intro _)) | (with_reducible refine sq_next ?_))
    · rename_i h3
      have h4 : x.natAbs < y.natAbs := by
        rcases Nat.lt_or_ge x.natAbs y.natAbs with h5 | h5
        · exact h5
        · rw [if_neg (by walk_at "o")] at h3; split at h3 <;> omega
      refine ⟨2, _, Nat.le_of_ble_eq_true rfl, sub_ok hw hw2 y.natAbs x.natAbs (by walk_at "o") (by walk_at "o") (by walk_at "o"), ?_⟩
      repeat' (first | ((fail_if_success (fail_if_success (with_reducible show EvL _ _ _ _ _))); refine evl_nil ?_))
      refine ⟨1, _, Nat.le_of_ble_eq_true rfl, signed_ok (by walk_at "o") _ (y.natAbs - x.natAbs) (lim_10k (k := 200) (by walk_at "o") (by walk_at "o") (by decide)), ?_⟩
      repeat' (first | (with_reducible refine sq_ret ?_) | (with_reducible refine ret_is ?_))
      exact sg_eq (by rw [Bool.eq_iff_iff]; simp; omega) (by walk_at "o")
    · rename_i h3
      have h4 : y.natAbs ≤ x.natAbs := by
        rcases Nat.lt_or_ge x.natAbs y.natAbs with h5 | h5
        · rw [if_pos h5] at h3; omega
        · exact h5
      refine ⟨2, _, Nat.le_of_ble_eq_true rfl, sub_ok hw hw2 x.natAbs y.natAbs (by walk_at "o") (by walk_at "o") (by walk_at "o"), ?_⟩
      repeat' (first | ((fail_if_success (fail_if_success (with_reducible show EvL _ _ _ _ _))); refine evl_nil ?_))
      refine ⟨1, _, Nat.le_of_ble_eq_true rfl, signed_ok (by walk_at "o") _ (x.natAbs - y.natAbs) (lim_10k (k := 200) (by walk_at "o") (by walk_at "o") (by decide)), ?_⟩
      repeat' (first | (with_reducible refine sq_ret ?_) | (with_reducible refine ret_is ?_))
      exact sg_eq (by rw [Bool.eq_iff_iff]; simp; omega) (by walk_at "o")
set_option maxHeartbeats 400000 in
theorem s_mul_ok {w : Nat} (hw : 1 ≤ w) (hw2 : w ≤ 60) (x y : Int) (hx : x.natAbs < 2 ^ 100) (hy : y.natAbs < 2 ^ 100) : Ok (GG W mean mg mb) 3 261 [sg w x, sg w y, .int w, .fn 289] (sg w (x * y)) := by
  refine ok_fn (names := ["x", "y", "w", "mul"]) (by exact rfl) (by rfl) (vec4 fun _ _ _ _ => rfl) (by decide) rfl (by decide) (by decide) rfl rfl rfl ?_
  intro A h₀ P ok
  have hl := lim_len_le (w := w) (by walk_at "o") hx
  have hl2 := lim_len_le (w := w) (by walk_at "o") hy
  repeat' (first | ((fail_if_success (fail_if_success (with_reducible show Ev _ (Expr.Name _ _) _ _))); refine ev_loc (by assumption) (by walk_at "lk") (by rfl) ?_) | ((fail_if_success (fail_if_success (with_reducible show Ev _ (Expr.Name _ _) _ _))); refine ev_global (by assumption) (by rfl) ?_) | ((with_reducible show Ev _ (Expr.Constant (Const.int _) _ _) _ _); refine ev_int ?_) | ((fail_if_success (fail_if_success (with_reducible show Ev _ (Expr.Subscript (Expr.Name _ _) _ _) _ _))); refine ev_sel ?_) | ((fail_if_success (fail_if_success (with_reducible show Ev _ (Expr.Call (Expr.Name _ _) _ _ _) _ _))); refine ev_call (by assumption) ?_) | ((fail_if_success (fail_if_success (with_reducible show Ev _ (Expr.Compare _ [CmpOp.NotEq] _ _) _ _))); refine ev_ne (by assumption) ?_) | ((fail_if_success (fail_if_success (with_reducible show ExB _ _ _ _))); with_reducible refine exb_cons ?_) | ((fail_if_success (fail_if_success (with_reducible show EvL _ _ _ _ _))); refine evl_cons ?_) | ((fail_if_success (fail_if_success (with_reducible show EvL _ _ _ _ _))); refine evl_nil ?_) | ((with_reducible show Ex _ (Stmt.Return _ _) _ _); refine ex_return ?_) | ((with_reducible show ∃ a, _ = AV.fn a ∧ _ ∧ _); refine ⟨_, rfl, by rfl, ?_⟩) | ((with_reducible show Exists _); with_reducible refine ⟨_, _, rfl, item_t0, ?_⟩) | ((with_reducible show Exists _); with_reducible refine ⟨_, _, rfl, item_t1, ?_⟩) | ((with_reducible show Exists _); with_reducible refine ⟨_, ner_bool, ?_⟩))
  refine ⟨2, _, Nat.le_of_ble_eq_true rfl, mul_school_ok (by walk_at "o") hw2 x.natAbs y.natAbs (by walk_at "o") (by walk_at "o"), ?_⟩
  repeat' (first | ((fail_if_success (fail_if_success (with_reducible show EvL _ _ _ _ _))); refine evl_nil ?_))
  refine ⟨1, _, Nat.le_of_ble_eq_true rfl, signed_ok (by walk_at "o") _ (x.natAbs * y.natAbs) (lim_10k (k := 100 + 100) (by walk_at "o") (by rw [Nat.pow_add]; exact Nat.mul_lt_mul'' hx hy) (by decide)), ?_⟩
  repeat' (first | (with_reducible refine sq_ret ?_) | (with_reducible refine ret_is ?_))
  rw [sg_eq (z := x * y) (b := (decide (x < 0) != decide (y < 0)) && decide (x.natAbs * y.natAbs ≠ 0)) (m := x.natAbs * y.natAbs) (mul_sign x y) (by rw [Int.natAbs_mul])]
end
section
variable {W : World} {mean : ExcName → Option Value} {mg mb : Str → Option Value}
set_option maxHeartbeats 1000000 in
theorem s_sub_ok {w : Nat} (hw : 1 ≤ w) (hw2 : w ≤ 60) (x y : Int) (hx : x.natAbs < 2 ^ 200) (hy : y.natAbs < 2 ^ 200) : Ok (GG W mean mg mb) 4 254 [sg w x, sg w y, .int w] (sg w (x - y)) := by
  refine ok_fn (names := ["x", "y", "w"]) (by exact rfl) (by rfl) (vec3 fun _ _ _ => rfl) (by decide) rfl (by decide) (by decide) rfl rfl rfl ?_
  intro A h₀ P ok
  repeat' (first | ((fail_if_success (fail_if_success (with_reducible show Ev _ (Expr.Name _ _) _ _))); refine ev_loc (by assumption) (by walk_at "lk") (by rfl) ?_) | ((fail_if_success (fail_if_success (with_reducible show Ev _ (Expr.Name _ _) _ _))); refine ev_global (by assumption) (by rfl) ?_) | ((fail_if_success (fail_if_success (with_reducible show Ev _ (Expr.Call (Expr.Name _ _) _ _ _) _ _))); refine ev_call (by assumption) ?_) | ((fail_if_success (fail_if_success (with_reducible show ExB _ _ _ _))); with_reducible refine exb_cons ?_) | ((fail_if_success (fail_if_success (with_reducible show EvL _ _ _ _ _))); refine evl_cons ?_) | ((fail_if_success (fail_if_success (with_reducible show EvL _ _ _ _ _))); refine evl_nil ?_) | ((with_reducible show Ex _ (Stmt.Return _ _) _ _); refine ex_return ?_) | ((with_reducible show ∃ a, _ = AV.fn a ∧ _ ∧ _); refine ⟨_, rfl, by rfl, ?_⟩))
  refine ⟨2, _, Nat.le_of_ble_eq_true rfl, s_neg_ok hw hw2 y hy, ?_⟩
  repeat' (first | ((fail_if_success (fail_if_success (with_reducible show Ev _ (Expr.Name _ _) _ _))); refine ev_loc (by assumption) (by walk_at "lk") (by rfl) ?_) | ((fail_if_success (fail_if_success (with_reducible show EvL _ _ _ _ _))); refine evl_cons ?_) | ((fail_if_success (fail_if_success (with_reducible show EvL _ _ _ _ _))); refine evl_nil ?_))
  refine ⟨3, _, Nat.le_of_ble_eq_true rfl, s_add_ok hw hw2 x (-y) hx (by walk_at "o"), ?_⟩
  repeat' (first | (with_reducible refine sq_ret ?_) | (with_reducible refine ret_is ?_))
  rw [Int.sub_eq_add_neg]
set_option maxHeartbeats 1000000 in
theorem lucas_steps_ok {w : Nat} (hw : 1 ≤ w) (hw2 : w ≤ 60) (many : Nat) (p q : Int) (hm : many ≤ 20) (hp : p.natAbs ≤ 9) (hq : q.natAbs ≤ 9) : Ok (GG W mean mg mb) 5 268 [.int many, sg w p, sg w q, .int w, .fn 289] (.list ((List.range many).map fun i => sg w (lu p q i))) := by
  refine ok_fn (names := ["many", "p", "q", "w", "mul"]) (by exact rfl) (by rfl) (vec5 fun _ _ _ _ _ => rfl) (by decide) rfl (by decide) (by decide) rfl rfl rfl ?_
  intro A h₀ P ok
  repeat' (first | ((fail_if_success (fail_if_success (with_reducible show Ev _ (Expr.Name _ _) _ _))); refine ev_loc (by assumption) (by walk_at "lk") (by rfl) ?_) | ((fail_if_success (fail_if_success (with_reducible show Ev _ (Expr.Name _ _) _ _))); refine ev_global (by assumption) (by rfl) ?_) | ((with_reducible show Ev _ (Expr.Constant (Const.int _) _ _) _ _); refine ev_int ?_) | ((fail_if_success (fail_if_success (with_reducible show Ev _ (Expr.Call (Expr.Name _ _) _ _ _) _ _))); refine ev_call (by assumption) ?_) | ((fail_if_success (fail_if_success (with_reducible show ExB _ _ _ _))); with_reducible refine exb_cons ?_) | ((fail_if_success (fail_if_success (with_reducible show EvL _ _ _ _ _))); refine evl_cons ?_) | ((fail_if_success (fail_if_success (with_reducible show EvL _ _ _ _ _))); refine evl_nil ?_) | ((with_reducible show Ex _ (Stmt.Assign [Expr.Tuple [Expr.Name (Str.ofString "found") _, _, _] _ _] (Expr.Tuple _ _ _) _) _ _); refine ex_tup3O (by assumption) ?_) | ((with_reducible show ∃ a, _ = AV.fn a ∧ _ ∧ _); refine ⟨_, rfl, by rfl, ?_⟩) | ((with_reducible show EvN _ _ _ _); first | refine evn_nil ?_ | refine evn_rep ?_))
  refine ⟨2, _, Nat.le_of_ble_eq_true rfl, s_of_ok hw hw2 0 (by decide), ?_⟩
  repeat' (first | ((fail_if_success (fail_if_success (with_reducible show Ev _ (Expr.Name _ _) _ _))); refine ev_loc (by assumption) (by walk_at "lk") (by rfl) ?_) | ((fail_if_success (fail_if_success (with_reducible show Ev _ (Expr.Name _ _) _ _))); refine ev_global (by assumption) (by rfl) ?_) | ((with_reducible show Ev _ (Expr.Constant (Const.int _) _ _) _ _); refine ev_int ?_) | ((fail_if_success (fail_if_success (with_reducible show Ev _ (Expr.Call (Expr.Name _ _) _ _ _) _ _))); refine ev_call (by assumption) ?_) | ((fail_if_success (fail_if_success (with_reducible show EvL _ _ _ _ _))); refine evl_cons ?_) | ((fail_if_success (fail_if_success (with_reducible show EvL _ _ _ _ _))); refine evl_nil ?_) | ((with_reducible show ∃ a, _ = AV.fn a ∧ _ ∧ _); refine ⟨_, rfl, by rfl, ?_⟩))
  refine ⟨2, _, Nat.le_of_ble_eq_true rfl, s_of_ok hw hw2 1 (by decide), ?_⟩
  repeat' (first | ((fail_if_success (fail_if_success (with_reducible show Ev _ (Expr.Name _ _) _ _))); refine ev_loc (by assumption) (by walk_at "lk") (by rfl) ?_) | ((fail_if_success (fail_if_success (with_reducible show ExB _ _ _ _))); with_reducible refine exb_cons ?_) | ((fail_if_success (fail_if_success (with_reducible show EvL _ _ _ _ _))); refine evl_cons ?_) | ((fail_if_success (fail_if_success (with_reducible show EvL _ _ _ _ _))); refine evl_nil ?_) | ((with_reducible show Ex _ (Stmt.For _ (Expr.Call (Expr.Name (Str.ofString "range") _) [_] _ _) _ _ _) _ _); refine ex_forU (by assumption) (by rfl) (by boot_by_name) ?_) | ((with_reducible show Cx.own _ = _); first | rfl | assumption) | ((with_reducible show Exists _); with_reducible refine ⟨_, rfl, ?_⟩) | ((with_reducible show _ ∧ _); refine And.intro ?_ ?_) | ((with_reducible show _ ≤ _); first | walk_at "o" | (rw [List.length_map]; omega) | (simp only [List.length_cons, List.length_nil]; omega)) | ((with_reducible show _ < _); first | walk_at "o" | (rw [List.length_map]; omega)) | (with_reducible refine sq_next ?_))
  have h9 : ∀ (a x : Int), a.natAbs ≤ 9 → x.natAbs < 2 ^ 90 → (a * x).natAbs < 2 ^ 200 := fun a x ha hx => by
    rw [Int.natAbs_mul]
    exact Nat.lt_of_le_of_lt (Nat.mul_le_mul ha (Nat.le_of_lt hx)) (by decide)
  have h0 : ∀ x : Int, x.natAbs < 2 ^ 90 → x.natAbs < 2 ^ 100 := fun x h => Nat.lt_trans h (by decide)
  refine ⟨fun i c => Inv (look "p" c.loc = some (sg w p) ∧ look "q" c.loc = some (sg w q) ∧ look "w" c.loc = some (.int w) ∧ look "mul" c.loc = some (.fn 289) ∧ look "here" c.loc = some (sg w (lu p q i)) ∧ look "there" c.loc = some (sg w (lu p q (i + 1))) ∧ look "found" c.loc = some .own ∧
    c.own = some (true, (List.range i).map fun i => sg w (lu p q i))), ⟨by walk_at "lk", by walk_at "lk", by walk_at "lk", by walk_at "lk", lk_to (by walk_at "lk") (by rfl), lk_to (by walk_at "lk") (by rfl), by walk_at "lk", rfl⟩, ?_, ?_⟩
  · rintro i c hi hI; (first | refine an8 hI fun g1 g2 g3 g4 g5 g6 g7 g8 => ?_ | refine an8 hI.out fun g1 g2 g3 g4 g5 g6 g7 g8 => ?_); clear hI
    have b1 := lu_small hp hq (n := i) (by walk_at "o")
    have b2 := lu_small hp hq (n := i + 1) (by walk_at "o")
    repeat' first | (rw [List.length_map, List.length_range]; omega) | (first | ((fail_if_success (fail_if_success (with_reducible show Ev _ (Expr.Name _ _) _ _))); refine ev_loc (by assumption) (by walk_at "lk") (by rfl) ?_) | ((fail_if_success (fail_if_success (with_reducible show Ev _ (Expr.Name _ _) _ _))); refine ev_global (by assumption) (by rfl) ?_) | ((fail_if_success (fail_if_success (with_reducible show Ev _ (Expr.Call (Expr.Name _ _) _ _ _) _ _))); refine ev_call (by assumption) ?_) | ((fail_if_success (fail_if_success (with_reducible show ExB _ _ _ _))); with_reducible refine exb_cons ?_) | ((fail_if_success (fail_if_success (with_reducible show ExB _ _ _ _))); refine exb_nil ?_) | ((fail_if_success (fail_if_success (with_reducible show EvL _ _ _ _ _))); refine evl_cons ?_) | ((fail_if_success (fail_if_success (with_reducible show EvL _ _ _ _ _))); refine evl_nil ?_) | ((with_reducible show Ex _ (Stmt.Assign [Expr.Tuple [_, _] _ _] (Expr.Tuple _ _ _) _) _ _); refine ex_tup2 (by assumption) ?_) | ((with_reducible show Ex _ (Stmt.Expr (Expr.Call (Expr.Attribute _ _ _) _ _ _) _) _ _); refine ex_appO (by assumption) (by walk_at "lk") (by first | rfl | assumption) ?_) | ((with_reducible show ∃ a, _ = AV.fn a ∧ _ ∧ _); refine ⟨_, rfl, by rfl, ?_⟩) | ((with_reducible show ∃ l, Cx.own _ = some (true, l) ∧ _); refine ⟨_, by first | rfl | assumption, ?_, ?_⟩) | (with_reducible refine sq_next ?_) | (with_reducible refine lq_next ?_)) | refine ⟨3, _, Nat.le_of_ble_eq_true rfl, s_mul_ok hw hw2 p _ (Nat.lt_of_le_of_lt hp (by decide)) (h0 _ b2), ?_⟩ | refine ⟨3, _, Nat.le_of_ble_eq_true rfl, s_mul_ok hw hw2 q _ (Nat.lt_of_le_of_lt hq (by decide)) (h0 _ b1), ?_⟩ | refine ⟨4, _, Nat.le_of_ble_eq_true rfl, s_sub_ok hw hw2 _ _ (h9 _ _ hp b2) (h9 _ _ hq b1), ?_⟩
    exact ⟨by walk_at "lk", by walk_at "lk", by walk_at "lk", by walk_at "lk", by walk_at "lk", lk_to (by walk_at "lk") (by rfl), by walk_at "lk", by rw [List.range_succ, List.map_append]; rfl⟩
  · rintro c1 hI; (first | refine an8 hI fun g1 g2 g3 g4 g5 g6 g7 g8 => ?_ | refine an8 hI.out fun g1 g2 g3 g4 g5 g6 g7 g8 => ?_); clear hI
    repeat' (first | ((fail_if_success (fail_if_success (with_reducible show Ev _ (Expr.Name _ _) _ _))); refine ev_own (by assumption) (by walk_at "lk") (by first | rfl | assumption) ?_) | ((fail_if_success (fail_if_success (with_reducible show ExB _ _ _ _))); with_reducible refine exb_cons ?_) | ((with_reducible show Ex _ (Stmt.Return _ _) _ _); refine ex_return ?_) | (with_reducible refine sq_next ?_) | (with_reducible refine sq_ret ?_) | (with_reducible refine ret_is ?_))
    rfl
end
section
variable {W : World} {mean : ExcName → Option Value} {mg mb : Str → Option Value}
set_option maxHeartbeats 1000000 in
theorem law_limbs_ok {w : Nat} (hw : 1 ≤ w) (hw2 : w ≤ 60) (N : Nat) (hN : N < 2 ^ 1000) : Ok (GG W mean mg mb) 1 345 [.int N, .int w] (avI (lim w N)) := by
  refine ok_fn (names := ["number", "w"]) (by exact rfl) (by rfl) (vec2 fun _ _ => rfl) (by decide) rfl (by decide) (by decide) rfl rfl rfl ?_
  intro A h₀ P ok
  have hp := pw w
  have h60 : (2 : Nat) ^ w ≤ 2 ^ 60 := Nat.pow_le_pow_right (by decide) hw2
  have h60' : (2 : Int) ^ w ≤ 2 ^ 60 := by rw [← pwc]; omega
  have ew : (2 : Int) ^ ((w : Nat) : Int).toNat = 2 ^ w := by rw [Int.toNat_natCast]
  repeat' (first | ((fail_if_success (fail_if_success (with_reducible show ExB _ _ _ _))); with_reducible refine exb_cons ?_) | ((with_reducible show Ex _ (Stmt.Assign [Expr.Name (Str.ofString "found") _] (Expr.List [] _) _) _ _); refine ex_assignO (by assumption) ?_) | ((with_reducible show EvN _ _ _ _); first | refine evn_nil ?_ | refine evn_rep ?_) | ((with_reducible show Cx.own _ = _); first | rfl | assumption) | ((with_reducible show _ ∧ _); refine And.intro ?_ ?_) | (with_reducible refine sq_next ?_))
  refine ex_while (fun n c => ∃ f : List Int, look "number" c.loc = some (.int n) ∧ look "w" c.loc = some (.int w) ∧ look "found" c.loc = some .own ∧ c.own = some (true, f.map .int) ∧ Wf w f ∧
    val w f + 2 ^ (w * f.length) * (n : Int) = N ∧ (f = [] ∨ (2 : Int) ^ (w * (f.length - 1)) ≤ N)) ⟨N, [], by walk_at "lk", by walk_at "lk", by walk_at "lk", rfl, .nil, by simp [val], .inl rfl⟩ ?_
  rintro n c hI; (first | refine ex1 hI fun f hI => ?_ | refine ex1 hI.out fun f hI => ?_); refine an7 hI fun h1 h2 h4 h5 h6 h7 h8 => ?_; clear hI
  repeat' (first | ((fail_if_success (fail_if_success (with_reducible show Ev _ (Expr.Name _ _) _ _))); refine ev_loc (by assumption) (by walk_at "lk") (by rfl) ?_) | ((fail_if_success (fail_if_success (with_reducible show Ev _ (Expr.Name _ _) _ _))); refine ev_own (by assumption) (by walk_at "lk") (by first | rfl | assumption) ?_) | ((with_reducible show Ev _ (Expr.Constant (Const.int _) _ _) _ _); refine ev_int ?_) | ((fail_if_success (fail_if_success (with_reducible show Ev _ (Expr.BinOp _ Operator.FloorDiv _ _) _ _))); refine ev_div ?_) | ((fail_if_success (fail_if_success (with_reducible show Ev _ (Expr.BinOp _ Operator.Mod _ _) _ _))); refine ev_mod ?_) | ((fail_if_success (fail_if_success (with_reducible show Ev _ (Expr.BinOp _ Operator.Pow _ _) _ _))); refine ev_pow ?_) | ((fail_if_success (fail_if_success (with_reducible show ExB _ _ _ _))); with_reducible refine exb_cons ?_) | ((fail_if_success (fail_if_success (with_reducible show ExB _ _ _ _))); refine exb_nil ?_) | ((fail_if_success (fail_if_success (with_reducible show Tr _ (Expr.Compare _ [CmpOp.Gt] _ _) _ _))); refine tr_gt ?_) | ((with_reducible show Ex _ (Stmt.Assign [Expr.Name _ _] _ _) _ _); refine ex_assign (by assumption) ?_) | ((with_reducible show Ex _ (Stmt.Return _ _) _ _); refine ex_return ?_) | ((with_reducible show Ex _ (Stmt.Expr (Expr.Call (Expr.Attribute _ _ _) _ _ _) _) _ _); refine ex_appO (by assumption) (by walk_at "lk") (by first | rfl | assumption) ?_) | ((with_reducible show ∃ l, Cx.own _ = some (true, l) ∧ _); refine ⟨_, by first | rfl | assumption, ?_, ?_⟩) | ((with_reducible show Exists _); with_reducible refine ⟨_, _, rfl, rfl, ?_⟩) | ((with_reducible show _ ∧ _); refine And.intro ?_ ?_) | ((with_reducible show _ ≤ _); first | walk_at "o" | (rw [List.length_map]; omega) | (simp only [List.length_cons, List.length_nil]; omega)) | ((with_reducible show _ < _); first | walk_at "o" | (rw [List.length_map]; omega)) | ((fail_if_success (fail_if_success (with_reducible show ite _ _ _))); with_reducible (refine if_dec ?_ ?_ <;> intro _)) | (with_reducible refine sq_next ?_) | (with_reducible refine sq_ret ?_) | (with_reducible refine lq_next ?_) | (with_reducible refine ret_is ?_))
  · rw [List.length_map]
    have := h8.elim (fun h => by rw [h]; simp) (fun h => lim_len_aux hw h hN)
    omega
  · rw [ew]
    have hlt : n / 2 ^ w < n := Nat.div_lt_self (by walk_at "o") (Nat.one_lt_two_pow (by walk_at "o"))
    have hm := Int.emod_lt_of_pos (n : Int) (pw w)
    have hm0 := Int.emod_nonneg (n : Int) (Int.ne_of_gt (pw w))
    refine ⟨n / 2 ^ w, hlt, f ++ [(n : Int) % 2 ^ w], lk_int (by walk_at "lk") (by rw [Int.natCast_ediv, pwc]), by walk_at "lk", by walk_at "lk", by simp [Cx.put, Cx.setOwn], h6.snoc hm0 hm, ?_, .inr ?_⟩
    · rw [Int.natCast_ediv, pwc, split_limb]; exact h7
    · rw [List.length_append, List.length_singleton, Nat.add_sub_cancel]
      have := h6.val_nonneg
      have h9 : (2 : Int) ^ (w * f.length) * 1 ≤ 2 ^ (w * f.length) * n := Int.mul_le_mul_of_nonneg_left (by walk_at "o") (Int.le_of_lt (pow_pos' _))
      omega
  · have e : n = 0 := by omega
    subst e
    rw [lim_uniq (by walk_at "o") h6 (by simpa using h7) h8]
end
section
variable {W : World} {mean : ExcName → Option Value} {mg mb : Str → Option Value}
def poured (l : List Int) (k many : Nat) : Int := (if k + 1 ≤ l.length then l.getD k 0 else ((7 * (k + 1) + (k + 1) / 4 + 1 : Nat) : Int)) % many
theorem poured_lt {l : List Int} {k many : Nat} (h : 0 < many) : 0 ≤ poured l k many ∧ poured l k many < many := ⟨Int.emod_nonneg _ (by walk_at "o"), Int.emod_lt_of_pos _ (by walk_at "o")⟩
set_option maxHeartbeats 1000000 in
theorem poured_ok (l : List Int) (k many : Nat) (hm : 0 < many) (hk : k < 1000) (hl : l.length ≤ 1000) : OkM (GG W mean mg mb) 1 338 [.int k, avI l] [.int many] (.int (poured l k many)) [.int (k + 1 : Nat), avI l] := by
  refine okm_fn (n0 := "mug") (names := ["many"]) (by exact rfl) (by rfl) (vec2 fun _ _ => rfl) (by decide) rfl (by decide) (by decide) rfl rfl rfl ?_
  intro A h₀ L b P ok
  refine exf_cons (exf_setO ok ?_)
  repeat' (first | ((with_reducible show Ev _ (Expr.Constant (Const.int _) _ _) _ _); refine ev_int ?_) | ((fail_if_success (fail_if_success (with_reducible show Ev _ (Expr.BinOp _ Operator.Add _ _) _ _))); refine ev_add ?_) | ((fail_if_success (fail_if_success (with_reducible show Ev _ (Expr.Subscript (Expr.Name _ _) _ _) _ _))); refine ev_itemO (by assumption) (by walk_at "lk") ?_) | ((with_reducible show ∃ f l k y, Cx.own _ = some (f, l) ∧ _ ∧ _); first | refine own_int (by first | rfl | assumption) ?_ ?_ ?_ ?_ | refine ⟨_, _, _, _, rfl, rfl, by decide, by decide, rfl, ?_⟩) | ((with_reducible show ∃ f l k, Cx.own _ = some (f, l) ∧ _ ∧ _); refine ⟨_, _, _, by first | rfl | assumption, rfl, ?_, ?_, ?_, ?_⟩) | ((with_reducible show look _ _ = _); walk_at "lk") | ((with_reducible show Exists _); with_reducible refine ⟨_, _, rfl, rfl, ?_⟩) | ((with_reducible show _ ∧ _); refine And.intro ?_ ?_) | ((with_reducible show _ ≤ _); first | walk_at "o" | (rw [List.length_map]; omega) | (simp only [List.length_cons, List.length_nil]; omega)) | ((with_reducible show _ < _); first | walk_at "o" | (rw [List.length_map]; omega)) | (with_reducible refine sq_next ?_))
  · show (0 : Int) < ((2 : Nat) : Int); decide
  have e0 : [AV.int ↑k, avI l].set (Int.toNat 0) (AV.int (↑k + 1)) = [.int (k + 1 : Nat), avI l] := by rw [Int.natCast_add]; rfl
  rw [e0]
  refine exf_cons (exf_if ?_)
  repeat' (first | ((with_reducible show Ev _ (Expr.Constant (Const.int _) _ _) _ _); refine ev_int ?_) | ((fail_if_success (fail_if_success (with_reducible show Ev _ (Expr.Subscript (Expr.Name _ _) _ _) _ _))); refine ev_itemO (by assumption) (by walk_at "lk") ?_) | ((with_reducible show Ev _ (Expr.Call (Expr.Name (Str.ofString "len") _) _ _ _) _ _); refine ev_bcall (id := "len") (by assumption) (by rfl) (by boot_by_name) (by decide) ?_) | ((fail_if_success (fail_if_success (with_reducible show EvL _ _ _ _ _))); refine evl_cons ?_) | ((fail_if_success (fail_if_success (with_reducible show EvL _ _ _ _ _))); refine evl_nil ?_) | ((fail_if_success (fail_if_success (with_reducible show Tr _ (Expr.Compare _ [CmpOp.LtE] _ _) _ _))); refine tr_le ?_) | ((with_reducible show ∃ f l k y, Cx.own _ = some (f, l) ∧ _ ∧ _); first | refine own_int (by first | rfl | assumption) ?_ ?_ ?_ ?_ | refine ⟨_, _, _, _, rfl, rfl, by decide, by decide, rfl, ?_⟩) | ((with_reducible show Exists _); with_reducible refine ⟨_, _, rfl, rfl, ?_⟩) | ((with_reducible show Exists _); with_reducible refine ⟨_, bi_lenI ?_, ?_⟩) | ((with_reducible show _ ≤ _); first | walk_at "o" | (rw [List.length_map]; omega) | (simp only [List.length_cons, List.length_nil]; omega)) | ((fail_if_success (fail_if_success (with_reducible show ite _ _ _))); with_reducible (refine if_dec ?_ ?_ <;> intro _)))
  · refine exf_cons (exf_return ?_)
    repeat' (first | ((fail_if_success (fail_if_success (with_reducible show Ev _ (Expr.Name _ _) _ _))); refine ev_loc (by assumption) (by walk_at "lk") (by rfl) ?_) | ((with_reducible show Ev _ (Expr.Constant (Const.int _) _ _) _ _); refine ev_int ?_) | ((fail_if_success (fail_if_success (with_reducible show Ev _ (Expr.BinOp _ Operator.Sub _ _) _ _))); refine ev_sub ?_) | ((fail_if_success (fail_if_success (with_reducible show Ev _ (Expr.BinOp _ Operator.Mod _ _) _ _))); refine ev_mod ?_) | ((fail_if_success (fail_if_success (with_reducible show Ev _ (Expr.Subscript (Expr.Name _ _) _ _) _ _))); refine ev_itemO (by assumption) (by walk_at "lk") ?_) | ((fail_if_success (fail_if_success (with_reducible show Ev _ (Expr.Subscript _ _ _) _ _))); refine ev_sel ?_) | ((with_reducible show ∃ f l k y, Cx.own _ = some (f, l) ∧ _ ∧ _); first | refine own_int (by first | rfl | assumption) ?_ ?_ ?_ ?_ | refine ⟨_, _, _, _, rfl, rfl, by decide, by decide, rfl, ?_⟩) | ((with_reducible show Exists _); with_reducible refine ⟨_, _, rfl, rfl, ?_⟩) | ((with_reducible show Exists _); with_reducible refine ⟨_, _, rfl, item_int ?_ ?_ ?_, ?_⟩) | ((with_reducible show _ ∧ _); refine And.intro ?_ ?_) | ((with_reducible show _ ≤ _); first | walk_at "o" | (rw [List.length_map]; omega) | (simp only [List.length_cons, List.length_nil]; omega)) | ((with_reducible show _ < _); first | walk_at "o" | (rw [List.length_map]; omega)) | (with_reducible refine sq_ret ?_))
    rename_i h
    refine ⟨⟨_, rfl⟩, ?_⟩
    show AV.int _ = _
    rw [poured, if_pos (by walk_at "o"), show ((k + 1 : Nat) : Int) - 1 = ((k : Nat) : Int) by walk_at "o", Int.toNat_natCast]
  · refine exf_nil (sq_next (exf_cons (exf_return ?_)))
    repeat' (first | ((fail_if_success (fail_if_success (with_reducible show Ev _ (Expr.Name _ _) _ _))); refine ev_loc (by assumption) (by walk_at "lk") (by rfl) ?_) | ((with_reducible show Ev _ (Expr.Constant (Const.int _) _ _) _ _); refine ev_int ?_) | ((fail_if_success (fail_if_success (with_reducible show Ev _ (Expr.BinOp _ Operator.Add _ _) _ _))); refine ev_add ?_) | ((fail_if_success (fail_if_success (with_reducible show Ev _ (Expr.BinOp _ Operator.Mult _ _) _ _))); refine ev_mul ?_) | ((fail_if_success (fail_if_success (with_reducible show Ev _ (Expr.BinOp _ Operator.FloorDiv _ _) _ _))); refine ev_div ?_) | ((fail_if_success (fail_if_success (with_reducible show Ev _ (Expr.BinOp _ Operator.Mod _ _) _ _))); refine ev_mod ?_) | ((fail_if_success (fail_if_success (with_reducible show Ev _ (Expr.Subscript (Expr.Name _ _) _ _) _ _))); refine ev_itemO (by assumption) (by walk_at "lk") ?_) | ((with_reducible show ∃ f l k y, Cx.own _ = some (f, l) ∧ _ ∧ _); first | refine own_int (by first | rfl | assumption) ?_ ?_ ?_ ?_ | refine ⟨_, _, _, _, rfl, rfl, by decide, by decide, rfl, ?_⟩) | ((with_reducible show Exists _); with_reducible refine ⟨_, _, rfl, rfl, ?_⟩) | ((with_reducible show _ ∧ _); refine And.intro ?_ ?_) | ((with_reducible show _ < _); first | walk_at "o" | (rw [List.length_map]; omega)) | ((with_reducible show _ ∨ _); first | (refine Or.inl ?_; walk_at "o") | omega) | (with_reducible refine sq_ret ?_))
    rename_i h
    refine ⟨⟨_, rfl⟩, ?_⟩
    show AV.int _ = _
    rw [poured, if_neg (by walk_at "o")]
    congr 2
end
section
variable {W : World} {mean : ExcName → Option Value} {mg mb : Str → Option Value}
theorem sum_limbs {w : Nat} (l : List Int) : ((List.range l.length).map fun i => l.getD i 0 * 2 ^ (w * i)).sum = val w l := by
  have : ∀ n, ((List.range n).map fun i => l.getD i 0 * 2 ^ (w * i)).sum = val w (l.take n) := fun n => by
    induction n with
    | zero => simp [val]
    | succ n ih => rw [List.range_succ, List.map_append, List.sum_append, ih, val_take_succ]; simp [Int.mul_comm]
  rw [this, List.take_length]
set_option maxHeartbeats 1000000 in
theorem law_plain_ok {w : Nat} (hw : 1 ≤ w) (hw2 : w ≤ 60) (x : Int) (hx : x.natAbs < 2 ^ 90) : Ok (GG W mean mg mb) 1 350 [sg w x, .int w] (.int x) := by
  refine okc_fn (n0 := "x") (n1 := "w") (by exact rfl) (by rfl) (fun _ _ => rfl) (by rfl) (by rfl) (fun _ => rfl) rfl rfl rfl ?_
  intro A h₀ L P ok
  have hl := lim_len_le (w := w) (by walk_at "o") hx
  have h60 : (2 : Nat) ^ w ≤ 2 ^ 60 := Nat.pow_le_pow_right (by decide) hw2
  have h60' : (2 : Int) ^ w ≤ 2 ^ 60 := by rw [← pwc]; omega
  have hwi : ∀ i, i < (lim w x.natAbs).length → w * i ≤ 90 := fun i hi => by
    rcases lim_len_lo (w := w) (by walk_at "o") x.natAbs with h | h
    · rw [h] at hi; simp at hi
    · rw [← pwc] at h
      have h1 : 2 ^ (w * ((lim w x.natAbs).length - 1)) < 2 ^ 90 := by omega
      have h2 := (Nat.pow_lt_pow_iff_right (by decide)).mp h1
      have h3 : w * i ≤ w * ((lim w x.natAbs).length - 1) := Nat.mul_le_mul_left _ (by walk_at "o")
      omega
  refine exb_cons (ex_assign ok ?_)
  refine ev_sum ok (by rfl) (by boot_by_name) (by decide) ?_
  refine ev_compE (cl := [(Str.ofString "w", L + 1)]) (cels := [("w", .int w)]) ok (by rfl) (by boot_by_name) (by rfl) (by decide) rfl (by decide) (by rfl) (by rfl) ?_
  refine ev_sel (ev_loc ok (by walk_at "lk") (by rfl) (ev_int ⟨_, _, rfl, item_t1, ?_⟩))
  refine ⟨_, (List.range (lim w x.natAbs).length).map fun i => AV.int ((lim w x.natAbs).getD i 0 * 2 ^ (w * i)), rfl, by simp, by rw [List.length_map]; omega, fun y v e => ⟨e, rfl⟩, fun i v y C hv hy okc => ?_, ?_⟩
  · rw [List.getElem?_map] at hv hy
    have hi : i < (lim w x.natAbs).length := by
      rcases Nat.lt_or_ge i (lim w x.natAbs).length with h | h
      · exact h
      · rw [List.getElem?_eq_none h] at hv; cases hv
    have hv2 : v = .int ((lim w x.natAbs).getD i 0) := by
      rw [List.getD_eq_getElem?_getD]
      rw [List.getElem?_eq_getElem hi] at hv ⊢
      exact (Option.some.inj hv).symm
    have hy2 : y = .int ((lim w x.natAbs).getD i 0 * 2 ^ (w * i)) := by
      rw [List.getElem?_range hi] at hy
      exact (Option.some.inj hy).symm
    subst hv2 hy2
    have b1 := (lim_wf (w := w) x.natAbs).get i
    have hwi := hwi i hi
    have e1 : ((w : Int) * i).toNat = w * i := by rw [← Int.natCast_mul]; rfl
    have e2 : (0 : Int) ≤ (w : Int) * i := by rw [← Int.natCast_mul]; omega
    have e3 : (w : Int) * i ≤ 90 := by rw [← Int.natCast_mul]; omega
    repeat' (first | ((fail_if_success (fail_if_success (with_reducible show Ev _ (Expr.Name _ _) _ _))); refine ev_loc (by assumption) (by walk_at "lk") (by rfl) ?_) | ((fail_if_success (fail_if_success (with_reducible show Ev _ (Expr.Name _ _) _ _))); refine ev_cell (by assumption) (by walk_at "lk") ?_) | ((with_reducible show Ev _ (Expr.Constant (Const.int _) _ _) _ _); refine ev_int ?_) | ((fail_if_success (fail_if_success (with_reducible show Ev _ (Expr.BinOp _ Operator.Mult _ _) _ _))); refine ev_mul ?_) | ((fail_if_success (fail_if_success (with_reducible show Ev _ (Expr.BinOp _ Operator.Pow _ _) _ _))); refine ev_pow ?_) | ((with_reducible show Exists _); with_reducible refine ⟨_, _, rfl, rfl, ?_⟩) | ((with_reducible show _ ∧ _); refine And.intro ?_ ?_) | ((with_reducible show _ ≤ _); first | walk_at "o" | (rw [List.length_map]; omega) | (simp only [List.length_cons, List.length_nil]; omega)) | ((with_reducible show _ < _); first | walk_at "o" | (rw [List.length_map]; omega)) | ((with_reducible show _ ∨ _); first | (refine Or.inl ?_; walk_at "o") | omega))
    rw [e1]
  · refine ⟨(List.range (lim w x.natAbs).length).map fun i => (lim w x.natAbs).getD i 0 * 2 ^ (w * i), by simp only [avI, List.map_map]; rfl, ?_⟩
    rw [sum_limbs, val_lim (by walk_at "o")]
    repeat' (first | ((fail_if_success (fail_if_success (with_reducible show Ev _ (Expr.Name _ _) _ _))); refine ev_loc (by assumption) (by walk_at "lk") (by rfl) ?_) | ((with_reducible show Ev _ (Expr.Constant (Const.int _) _ _) _ _); refine ev_int ?_) | ((fail_if_success (fail_if_success (with_reducible show Ev _ (Expr.BinOp _ Operator.Sub _ _) _ _))); refine ev_sub ?_) | ((fail_if_success (fail_if_success (with_reducible show Ev _ (Expr.Subscript (Expr.Name _ _) _ _) _ _))); refine ev_sel ?_) | ((fail_if_success (fail_if_success (with_reducible show Ev _ (Expr.IfExp _ _ _ _) _ _))); refine ev_if ?_) | ((fail_if_success (fail_if_success (with_reducible show ExB _ _ _ _))); with_reducible refine exb_cons ?_) | ((with_reducible show Tr _ (_) _ _); refine tr_plain ?_) | ((with_reducible show Ex _ (Stmt.Return _ _) _ _); refine ex_return ?_) | ((with_reducible show Exists _); with_reducible refine ⟨_, _, rfl, rfl, ?_⟩) | ((with_reducible show Exists _); with_reducible refine ⟨_, _, rfl, item_t0, ?_⟩) | ((with_reducible show Exists _); with_reducible refine ⟨_, rfl, ?_⟩) | ((fail_if_success (fail_if_success (with_reducible show ite _ _ _))); with_reducible (refine if_dec ?_ ?_ <;> intro _)) | (with_reducible refine sq_next ?_) | (with_reducible refine sq_ret ?_) | (with_reducible refine ret_is ?_))
    · rename_i h; rw [show (0 : Int) - x.natAbs = x by omega]
    · rename_i h; rw [show ((x.natAbs : Nat) : Int) = x by omega]
end
section
variable {W : World} {mean : ExcName → Option Value} {mg mb : Str → Option Value}
set_option maxHeartbeats 400000 in
theorem jacobi_plain_ok (a n : Nat) (hn : n ≠ 0) : Ok (GG W mean mg mb) 1 156 [.int a, .int n] (.int (jpl a n)) := by
  refine ok_fn (names := ["a", "n"]) (by exact rfl) (by rfl) (vec2 fun _ _ => rfl) (by decide) rfl (by decide) (by decide) rfl rfl rfl ?_
  intro A h₀ P ok
  repeat' (first | ((fail_if_success (fail_if_success (with_reducible show Ev _ (Expr.Name _ _) _ _))); refine ev_loc (by assumption) (by walk_at "lk") (by rfl) ?_) | ((with_reducible show Ev _ (Expr.Constant (Const.int _) _ _) _ _); refine ev_int ?_) | ((fail_if_success (fail_if_success (with_reducible show Ev _ (Expr.BinOp _ Operator.Mod _ _) _ _))); refine ev_mod ?_) | ((fail_if_success (fail_if_success (with_reducible show ExB _ _ _ _))); with_reducible refine exb_cons ?_) | ((with_reducible show Ex _ (Stmt.Assign [Expr.Tuple [_, _] _ _] (Expr.Tuple _ _ _) _) _ _); refine ex_tup2 (by assumption) ?_) | ((with_reducible show Exists _); with_reducible refine ⟨_, _, rfl, rfl, ?_⟩) | ((with_reducible show _ ∧ _); refine And.intro ?_ ?_) | ((with_reducible show _ < _); first | walk_at "o" | (rw [List.length_map]; omega)) | (with_reducible refine sq_next ?_))
  refine ex_while (fun m c => ∃ (f k : Nat) (s : Int), look "a" c.loc = some (.int m) ∧ look "n" c.loc = some (.int k) ∧ look "sign" c.loc = some (.int s) ∧ k ≠ 0 ∧ m ≤ f ∧ jout f m k s = jpl a n) ⟨a % n, a % n, n, 1, lk_int (by walk_at "lk") (by rw [Int.natCast_emod]), by walk_at "lk", by walk_at "lk", hn, Nat.le_refl _, rfl⟩ ?_
  rintro m c hI; (first | refine ex3 hI fun f k s hI => ?_ | refine ex3 hI.out fun f k s hI => ?_); refine an6 hI fun g1 g2 g3 g4 g5 g6 => ?_; clear hI
  repeat' (first | ((fail_if_success (fail_if_success (with_reducible show Ev _ (Expr.Name _ _) _ _))); refine ev_loc (by assumption) (by walk_at "lk") (by rfl) ?_) | ((with_reducible show Ev _ (Expr.Constant (Const.int _) _ _) _ _); refine ev_int ?_) | ((fail_if_success (fail_if_success (with_reducible show Ev _ (Expr.IfExp _ _ _ _) _ _))); refine ev_if ?_) | ((fail_if_success (fail_if_success (with_reducible show ExB _ _ _ _))); with_reducible refine exb_cons ?_) | ((fail_if_success (fail_if_success (with_reducible show Tr _ (Expr.Compare _ [CmpOp.Gt] _ _) _ _))); refine tr_gt ?_) | ((fail_if_success (fail_if_success (with_reducible show Tr _ (Expr.Compare _ [CmpOp.Eq] _ _) _ _))); refine tr_eq (by assumption) ?_) | ((with_reducible show Ex _ (Stmt.Return _ _) _ _); refine ex_return ?_) | ((with_reducible show Exists _); with_reducible refine ⟨_, _, rfl, rfl, ?_⟩) | ((with_reducible show Exists _); with_reducible refine ⟨_, eqr_int, ?_⟩) | ((fail_if_success (fail_if_success (with_reducible show ite _ _ _))); with_reducible (refine if_dec ?_ ?_ <;> intro _)) | (with_reducible refine sq_next ?_) | (with_reducible refine sq_ret ?_) | (with_reducible refine ret_is ?_))
  · have hm : 0 < m := by omega
    obtain ⟨f, rfl⟩ : ∃ f', f = f' + 1 := ⟨f - 1, by walk_at "o"⟩
    rw [jout, if_pos hm] at g6
    refine ex_while (fun m' c => ∃ (f1 : Nat) (s' : Int), look "a" c.loc = some (.int m') ∧ look "n" c.loc = some (.int k) ∧ look "sign" c.loc = some (.int s') ∧ 0 < m' ∧ m' ≤ m ∧ m' ≤ f1 ∧ jin f1 m' k s' = jin m m k s) ⟨m, m, s, g1, g2, g3, hm, Nat.le_refl _, Nat.le_refl _, rfl⟩ ?_
    intro m' c hI; (first | refine ex2 hI fun f1 s' hI => ?_ | refine ex2 hI.out fun f1 s' hI => ?_); refine an7 hI fun r1 r2 r3 r4 r5 r6 r7 => ?_; clear hI
    obtain ⟨f1, rfl⟩ : ∃ f', f1 = f' + 1 := ⟨f1 - 1, by walk_at "o"⟩
    rw [jin] at r7
    have hk7 : Builtin.bitAnd (k : Int) 7 = ((k % 8 : Nat) : Int) := by rw [and7]; omega
    have hk3 : (Builtin.bitAnd (k : Int) 3 = 3) = (k % 4 = 3) := by rw [and3]; exact propext (by walk_at "o")
    have hm3 : (Builtin.bitAnd (m' : Int) 3 = 3) = (m' % 4 = 3) := by rw [and3]; exact propext (by walk_at "o")
    have hm1 : (Builtin.bitAnd (m' : Int) 1 = 0) = (m' % 2 = 0) := by rw [and1]; exact propext (by walk_at "o")
    repeat' (first | ((fail_if_success (fail_if_success (with_reducible show Ev _ (Expr.Name _ _) _ _))); refine ev_loc (by assumption) (by walk_at "lk") (by rfl) ?_) | ((with_reducible show Ev _ (Expr.Constant (Const.int _) _ _) _ _); refine ev_int ?_) | ((fail_if_success (fail_if_success (with_reducible show Ev _ (Expr.BinOp _ Operator.BitAnd _ _) _ _))); refine ev_and ?_) | ((fail_if_success (fail_if_success (with_reducible show Ev _ (Expr.UnaryOp UnaryOp.USub _ _) _ _))); refine ev_neg ?_) | ((fail_if_success (fail_if_success (with_reducible show Ev _ (Expr.IfExp _ _ _ _) _ _))); refine ev_if ?_) | ((fail_if_success (fail_if_success (with_reducible show Ev _ (Expr.Tuple _ _ _) _ _))); refine ev_tuple ?_) | ((fail_if_success (fail_if_success (with_reducible show ExB _ _ _ _))); with_reducible refine exb_cons ?_) | ((fail_if_success (fail_if_success (with_reducible show ExB _ _ _ _))); refine exb_nil ?_) | ((fail_if_success (fail_if_success (with_reducible show EvL _ _ _ _ _))); refine evl_cons ?_) | ((fail_if_success (fail_if_success (with_reducible show EvL _ _ _ _ _))); refine evl_nil ?_) | ((fail_if_success (fail_if_success (with_reducible show TrAll _ _ _ _ _))); refine trAll_and ?_) | ((fail_if_success (fail_if_success (with_reducible show TrAll _ _ _ _ _))); refine trAll_nilA ?_) | ((fail_if_success (fail_if_success (with_reducible show Tr _ (Expr.Compare _ [CmpOp.Eq] _ _) _ _))); refine tr_eq (by assumption) ?_) | ((fail_if_success (fail_if_success (with_reducible show Tr _ (Expr.Compare _ [CmpOp.In] _ _) _ _))); refine tr_in ?_) | ((fail_if_success (fail_if_success (with_reducible show Tr _ (Expr.BoolOp _ _ _) _ _))); refine tr_bool ?_) | ((with_reducible show Ex _ (Stmt.Assign [Expr.Name _ _] _ _) _ _); refine ex_assign (by assumption) ?_) | ((with_reducible show Ex _ (Stmt.Assign [Expr.Tuple [_, _] _ _] (Expr.Tuple _ _ _) _) _ _); refine ex_tup2 (by assumption) ?_) | ((with_reducible show Ex _ (Stmt.AugAssign _ _ _ _) _ _); refine ex_aug (by assumption) (by walk_at "lk") ?_) | ((with_reducible show Exists _); with_reducible refine ⟨_, _, rfl, rfl, ?_⟩) | ((with_reducible show Exists _); with_reducible refine ⟨_, _, rfl, aug_shrP ?_, ?_⟩) | ((with_reducible show Exists _); with_reducible refine ⟨_, _, rfl, aug_modP ?_, ?_⟩) | ((with_reducible show Exists _); with_reducible refine ⟨_, eqr_int, ?_⟩) | ((with_reducible show Exists _); with_reducible refine ⟨_, rfl, ?_⟩) | ((with_reducible show _ ∧ _); refine And.intro ?_ ?_) | ((with_reducible show _ ≤ _); first | walk_at "o" | (rw [List.length_map]; omega) | (simp only [List.length_cons, List.length_nil]; omega)) | ((with_reducible show _ < _); first | walk_at "o" | (rw [List.length_map]; omega)) | ((fail_if_success (fail_if_success (with_reducible show ite _ _ _))); with_reducible refine if_tt ?_) | ((fail_if_success (fail_if_success (with_reducible show ite _ _ _))); with_reducible refine if_ff ?_) | ((fail_if_success (fail_if_success (with_reducible show ite _ _ _))); with_reducible (refine if_dec ?_ ?_ <;> intro _)) | (with_reducible refine sq_next ?_) | (with_reducible refine lq_next ?_))
    · rename_i h1 h2
      rw [hm1] at h2
      rw [if_pos h2] at r7
      refine ⟨_, _, rfl, .inl (map35 (3 : Int) 5), ?_⟩
      rw [hk7]
      have e1 : (m' : Int) / 2 ^ Int.toNat 1 = ((m' / 2 : Nat) : Int) := by rw [Int.natCast_ediv]; rfl
      rw [e1]
      refine any35 (fun h => ?_) (fun h => ?_)
      · rw [if_pos (by walk_at "o")] at r7
        repeat' (first | ((fail_if_success (fail_if_success (with_reducible show Ev _ (Expr.Name _ _) _ _))); refine ev_loc (by assumption) (by walk_at "lk") (by rfl) ?_) | ((fail_if_success (fail_if_success (with_reducible show Ev _ (Expr.UnaryOp UnaryOp.USub _ _) _ _))); refine ev_neg ?_) | ((fail_if_success (fail_if_success (with_reducible show ExB _ _ _ _))); refine exb_nil ?_) | ((with_reducible show Exists _); with_reducible refine ⟨_, rfl, ?_⟩) | (with_reducible refine sq_next ?_) | (with_reducible refine lq_next ?_))
        exact ⟨m' / 2, by walk_at "o", f1, -s', by walk_at "lk", by walk_at "lk", by walk_at "lk", by walk_at "o", by walk_at "o", by walk_at "o", r7⟩
      · rw [if_neg (by walk_at "o")] at r7
        repeat' (first | ((fail_if_success (fail_if_success (with_reducible show Ev _ (Expr.Name _ _) _ _))); refine ev_loc (by assumption) (by walk_at "lk") (by rfl) ?_) | ((fail_if_success (fail_if_success (with_reducible show ExB _ _ _ _))); refine exb_nil ?_) | (with_reducible refine sq_next ?_) | (with_reducible refine lq_next ?_))
        exact ⟨m' / 2, by walk_at "o", f1, s', by walk_at "lk", by walk_at "lk", by walk_at "lk", by walk_at "o", by walk_at "o", by walk_at "o", r7⟩
    all_goals simp only [hk3, hm3, hm1] at *
    all_goals rw [if_neg (by assumption)] at r7
    all_goals rw [← r7] at g6
    all_goals have hlt := Nat.mod_lt k r4
    · rw [if_pos ⟨by assumption, by assumption⟩] at g6
      exact ⟨k % m', by walk_at "o", f, m', -s', lk_int (by walk_at "lk") (by rw [Int.natCast_emod]), by walk_at "lk", by walk_at "lk", by walk_at "o", by walk_at "o", g6⟩
    · rw [if_neg (fun h => absurd h.2 (by assumption))] at g6
      exact ⟨k % m', by walk_at "o", f, m', s', lk_int (by walk_at "lk") (by rw [Int.natCast_emod]), by walk_at "lk", by walk_at "lk", by walk_at "o", by walk_at "o", g6⟩
    · rw [if_neg (fun h => absurd h.1 (by assumption))] at g6
      exact ⟨k % m', by walk_at "o", f, m', s', lk_int (by walk_at "lk") (by rw [Int.natCast_emod]), by walk_at "lk", by walk_at "lk", by walk_at "o", by walk_at "o", g6⟩
  · have h0 : m = 0 := by omega
    subst h0
    rw [← g6, jout_zero, if_pos (by walk_at "o")]
  · have h0 : m = 0 := by omega
    subst h0
    rw [← g6, jout_zero, if_neg (by walk_at "o")]
set_option maxHeartbeats 400000 in
theorem jacobi_small_ok {w : Nat} (hw : 3 ≤ w) (hw2 : w ≤ 60) (d : Int) (N : Nat) (hd : d.natAbs < 2 ^ 60) (hn0 : N ≠ 0) (hn : N < 2 ^ w) : Ok (GG W mean mg mb) 2 149 [.int d, avI (lim w N), .int w] (.int (jsm d N)) := by
  refine ok_fn (names := ["d", "n", "w"]) (by exact rfl) (by rfl) (vec3 fun _ _ _ => rfl) (by decide) rfl (by decide) (by decide) rfl rfl rfl ?_
  intro A h₀ P ok
  have h1 : lim w N = [(N : Int)] := lim_one (by walk_at "o") hn0 hn
  have hl1 : (lim w N).length = 1 := by rw [h1]; rfl
  have hr : Builtin.bitAnd ((lim w N).getD (Int.toNat 0) 0) 7 = ((N % 8 : Nat) : Int) := by
    rw [and7, h1, Int.natCast_emod]; rfl
  have hq : (Builtin.bitAnd ((N % 8 : Nat) : Int) 3 = 3) = (N % 4 = 3) := by rw [and3]; exact propext (by walk_at "o")
  refine exb_cons (ex_cut (fun c => Inv (look "d" c.loc = some (.int d) ∧ look "n" c.loc = some (avI (lim w N)) ∧ look "w" c.loc = some (.int w) ∧ look "rest" c.loc = some (.int (N % 8 : Nat)) ∧ look "sign" c.loc = some (.int 1))) ?_ ?_)
  · repeat' (first | ((fail_if_success (fail_if_success (with_reducible show Ev _ (Expr.Name _ _) _ _))); refine ev_loc (by assumption) (by walk_at "lk") (by rfl) ?_) | ((with_reducible show Ev _ (Expr.Constant (Const.int _) _ _) _ _); refine ev_int ?_) | ((fail_if_success (fail_if_success (with_reducible show Ev _ (Expr.BinOp _ Operator.BitAnd _ _) _ _))); refine ev_and ?_) | ((fail_if_success (fail_if_success (with_reducible show Ev _ (Expr.Subscript (Expr.Name _ _) _ _) _ _))); refine ev_sel ?_) | ((with_reducible show Ex _ (Stmt.Assign [Expr.Tuple [_, _] _ _] (Expr.Tuple _ _ _) _) _ _); refine ex_tup2 (by assumption) ?_) | ((with_reducible show Exists _); with_reducible refine ⟨_, _, rfl, rfl, ?_⟩) | ((with_reducible show Exists _); with_reducible refine ⟨_, _, rfl, item_int ?_ ?_ ?_, ?_⟩) | ((with_reducible show _ ∧ _); refine And.intro ?_ ?_) | ((with_reducible show Fl.next = Fl.next); rfl) | ((with_reducible show _ ≤ _); first | walk_at "o" | (rw [List.length_map]; omega) | (simp only [List.length_cons, List.length_nil]; omega)) | ((with_reducible show _ < _); first | walk_at "o" | (rw [List.length_map]; omega)))
    exact ⟨by walk_at "lk", by walk_at "lk", by walk_at "lk", lk_int (by walk_at "lk") hr, by walk_at "lk"⟩
  rintro c0 hI; (first | refine an5 hI fun g1 g2 g3 g4 g5 => ?_ | refine an5 hI.out fun g1 g2 g3 g4 g5 => ?_); clear hI
  refine sq_next (exb_cons (ex_cut (fun c => c = c0) ?_ ?_))
  · repeat' (first | ((fail_if_success (fail_if_success (with_reducible show Ev _ (Expr.Name _ _) _ _))); refine ev_loc (by assumption) (by walk_at "lk") (by rfl) ?_) | ((fail_if_success (fail_if_success (with_reducible show Ev _ (Expr.Name _ _) _ _))); refine ev_global (by assumption) (by rfl) ?_) | ((with_reducible show Ev _ (Expr.Constant (Const.int _) _ _) _ _); refine ev_int ?_) | ((fail_if_success (fail_if_success (with_reducible show Ev _ (Expr.Call (Expr.Name _ _) _ _ _) _ _))); refine ev_call (by assumption) ?_) | ((fail_if_success (fail_if_success (with_reducible show ExB _ _ _ _))); with_reducible refine exb_cons ?_) | ((fail_if_success (fail_if_success (with_reducible show ExB _ _ _ _))); refine exb_nil ?_) | ((fail_if_success (fail_if_success (with_reducible show EvL _ _ _ _ _))); refine evl_cons ?_) | ((fail_if_success (fail_if_success (with_reducible show EvL _ _ _ _ _))); refine evl_nil ?_) | ((fail_if_success (fail_if_success (with_reducible show Tr _ (Expr.Compare _ [CmpOp.Lt] _ _) _ _))); refine tr_lt ?_) | ((with_reducible show Ex _ (Stmt.Assign [Expr.Name _ _] _ _) _ _); refine ex_assign (by assumption) ?_) | ((with_reducible show Ex _ (Stmt.If _ _ _ _) _ _); refine ex_if ?_) | ((with_reducible show ∃ a, _ = AV.fn a ∧ _ ∧ _); refine ⟨_, rfl, by rfl, ?_⟩) | ((with_reducible show Exists _); with_reducible refine ⟨_, _, rfl, rfl, ?_⟩) | ((with_reducible show _ ∧ _); refine And.intro ?_ ?_) | ((with_reducible show Fl.next = Fl.next); rfl) | ((fail_if_success (fail_if_success (with_reducible show ite _ _ _))); with_reducible (refine if_dec ?_ ?_ <;> intro _)))
    · exfalso; omega
    · rfl
  rintro _ rfl
  refine sq_next (exb_cons (ex_cut (fun c => Inv (look "d" c.loc = some (.int d.natAbs) ∧ look "n" c.loc = some (avI (lim w N)) ∧ look "w" c.loc = some (.int w) ∧ look "rest" c.loc = some (.int (N % 8 : Nat)) ∧ look "sign" c.loc = some (.int (if d < 0 then (if N % 4 = 3 then -1 else 1) else 1)))) ?_ ?_))
  · repeat' (first | ((fail_if_success (fail_if_success (with_reducible show Ev _ (Expr.Name _ _) _ _))); refine ev_loc (by assumption) (by walk_at "lk") (by rfl) ?_) | ((with_reducible show Ev _ (Expr.Constant (Const.int _) _ _) _ _); refine ev_int ?_) | ((fail_if_success (fail_if_success (with_reducible show Ev _ (Expr.BinOp _ Operator.BitAnd _ _) _ _))); refine ev_and ?_) | ((fail_if_success (fail_if_success (with_reducible show Ev _ (Expr.UnaryOp UnaryOp.USub _ _) _ _))); refine ev_neg ?_) | ((fail_if_success (fail_if_success (with_reducible show Ev _ (Expr.IfExp _ _ _ _) _ _))); refine ev_if ?_) | ((fail_if_success (fail_if_success (with_reducible show ExB _ _ _ _))); with_reducible refine exb_cons ?_) | ((fail_if_success (fail_if_success (with_reducible show ExB _ _ _ _))); refine exb_nil ?_) | ((fail_if_success (fail_if_success (with_reducible show Tr _ (Expr.Compare _ [CmpOp.Lt] _ _) _ _))); refine tr_lt ?_) | ((fail_if_success (fail_if_success (with_reducible show Tr _ (Expr.Compare _ [CmpOp.Eq] _ _) _ _))); refine tr_eq (by assumption) ?_) | ((with_reducible show Ex _ (Stmt.Assign [Expr.Name _ _] _ _) _ _); refine ex_assign (by assumption) ?_) | ((with_reducible show Ex _ (Stmt.If _ _ _ _) _ _); refine ex_if ?_) | ((with_reducible show Exists _); with_reducible refine ⟨_, _, rfl, rfl, ?_⟩) | ((with_reducible show Exists _); with_reducible refine ⟨_, eqr_int, ?_⟩) | ((with_reducible show Exists _); with_reducible refine ⟨_, rfl, ?_⟩) | ((with_reducible show _ ∧ _); refine And.intro ?_ ?_) | ((with_reducible show Fl.next = Fl.next); rfl) | ((fail_if_success (fail_if_success (with_reducible show ite _ _ _))); with_reducible (refine if_dec ?_ ?_ <;> intro _)) | (with_reducible refine sq_next ?_))
    · rename_i h1 h2
      rw [hq] at h2
      exact ⟨lk_int (by walk_at "lk") (by walk_at "o"), by walk_at "lk", by walk_at "lk", by walk_at "lk", lk_int (by walk_at "lk") (by rw [if_pos h1, if_pos h2])⟩
    · rename_i h1 h2
      rw [hq] at h2
      exact ⟨lk_int (by walk_at "lk") (by walk_at "o"), by walk_at "lk", by walk_at "lk", by walk_at "lk", lk_int (by walk_at "lk") (by rw [if_pos h1, if_neg h2])⟩
    · rename_i h1
      exact ⟨lk_int (by walk_at "lk") (by walk_at "o"), by walk_at "lk", by walk_at "lk", by walk_at "lk", lk_int (by walk_at "lk") (by rw [if_neg h1])⟩
  rintro c0 hI; (first | refine an5 hI fun g1 g2 g3 g4 g5 => ?_ | refine an5 hI.out fun g1 g2 g3 g4 g5 => ?_); clear hI
  refine sq_next (exb_cons (ex_cut (fun c => Inv (∃ (m : Nat) (s' : Int), look "d" c.loc = some (.int m) ∧ look "n" c.loc = some (avI (lim w N)) ∧ look "w" c.loc = some (.int w) ∧ look "rest" c.loc = some (.int (N % 8 : Nat)) ∧ look "sign" c.loc = some (.int s') ∧ s'.natAbs ≤ 1 ∧ jsm2 m N s' = jsm d N ∧ m ≤ d.natAbs)) ?_ ?_))
  · refine ex_while (fun m c => ∃ (f1 : Nat) (s' : Int), look "d" c.loc = some (.int m) ∧ look "n" c.loc = some (avI (lim w N)) ∧ look "w" c.loc = some (.int w) ∧ look "rest" c.loc = some (.int (N % 8 : Nat)) ∧ look "sign" c.loc = some (.int s') ∧ s'.natAbs ≤ 1 ∧ m ≤ d.natAbs ∧ m ≤ f1 ∧ jin f1 m N s' = jin d.natAbs d.natAbs N (if d < 0 then (if N % 4 = 3 then -1 else 1) else 1))
      ⟨d.natAbs, d.natAbs, _, g1, g2, g3, g4, g5, by split <;> (try split) <;> decide, Nat.le_refl _, Nat.le_refl _, rfl⟩ ?_
    rintro m c hI; (first | refine ex2 hI fun f1 s' hI => ?_ | refine ex2 hI.out fun f1 s' hI => ?_); refine an9 hI fun r1 r2 r3 r4 r5 r9 r6 r7 r8 => ?_; clear hI
    have hm1 : (Builtin.bitAnd (m : Int) 1 = 0) = (m % 2 = 0) := by rw [and1]; exact propext (by walk_at "o")
    have js : ∀ p, jin f1 m N s' = p → jsm2 p.1 N p.2 = jsm d N := fun p hp => by rw [← hp, r8, jsm]
    repeat' (first | ((fail_if_success (fail_if_success (with_reducible show Ev _ (Expr.Name _ _) _ _))); refine ev_loc (by assumption) (by walk_at "lk") (by rfl) ?_) | ((with_reducible show Ev _ (Expr.Constant (Const.int _) _ _) _ _); refine ev_int ?_) | ((fail_if_success (fail_if_success (with_reducible show Ev _ (Expr.BinOp _ Operator.BitAnd _ _) _ _))); refine ev_and ?_) | ((fail_if_success (fail_if_success (with_reducible show Ev _ (Expr.IfExp _ _ _ _) _ _))); refine ev_if ?_) | ((fail_if_success (fail_if_success (with_reducible show Ev _ (Expr.Tuple _ _ _) _ _))); refine ev_tuple ?_) | ((fail_if_success (fail_if_success (with_reducible show ExB _ _ _ _))); with_reducible refine exb_cons ?_) | ((fail_if_success (fail_if_success (with_reducible show EvL _ _ _ _ _))); refine evl_cons ?_) | ((fail_if_success (fail_if_success (with_reducible show EvL _ _ _ _ _))); refine evl_nil ?_) | ((fail_if_success (fail_if_success (with_reducible show TrAll _ _ _ _ _))); refine trAll_and ?_) | ((fail_if_success (fail_if_success (with_reducible show TrAll _ _ _ _ _))); refine trAll_nilA ?_) | ((fail_if_success (fail_if_success (with_reducible show Tr _ (Expr.Compare _ [CmpOp.Gt] _ _) _ _))); refine tr_gt ?_) | ((fail_if_success (fail_if_success (with_reducible show Tr _ (Expr.Compare _ [CmpOp.Eq] _ _) _ _))); refine tr_eq (by assumption) ?_) | ((fail_if_success (fail_if_success (with_reducible show Tr _ (Expr.Compare _ [CmpOp.In] _ _) _ _))); refine tr_in ?_) | ((fail_if_success (fail_if_success (with_reducible show Tr _ (Expr.BoolOp _ _ _) _ _))); refine tr_bool ?_) | ((with_reducible show Ex _ (Stmt.Assign [Expr.Name _ _] _ _) _ _); refine ex_assign (by assumption) ?_) | ((with_reducible show Ex _ (Stmt.AugAssign _ _ _ _) _ _); refine ex_aug (by assumption) (by walk_at "lk") ?_) | ((with_reducible show Exists _); with_reducible refine ⟨_, _, rfl, rfl, ?_⟩) | ((with_reducible show Exists _); with_reducible refine ⟨_, _, rfl, aug_shrP ?_, ?_⟩) | ((with_reducible show Exists _); with_reducible refine ⟨_, eqr_int, ?_⟩) | ((with_reducible show _ ∧ _); refine And.intro ?_ ?_) | ((with_reducible show Fl.next = Fl.next); rfl) | ((with_reducible show _ ≤ _); first | walk_at "o" | (rw [List.length_map]; omega) | (simp only [List.length_cons, List.length_nil]; omega)) | ((fail_if_success (fail_if_success (with_reducible show ite _ _ _))); with_reducible refine if_tt ?_) | ((fail_if_success (fail_if_success (with_reducible show ite _ _ _))); with_reducible refine if_ff ?_) | ((fail_if_success (fail_if_success (with_reducible show ite _ _ _))); with_reducible (refine if_dec ?_ ?_ <;> intro _)) | (with_reducible refine sq_next ?_))
    · rename_i h1 h2
      rw [hm1] at h2
      obtain ⟨f1, rfl⟩ : ∃ f', f1 = f' + 1 := ⟨f1 - 1, by walk_at "o"⟩
      rw [jin, if_pos h2] at r8
      refine ⟨_, _, rfl, .inl (map35 (3 : Int) 5), ?_⟩
      have e1 : (m : Int) / 2 ^ Int.toNat 1 = ((m / 2 : Nat) : Int) := by rw [Int.natCast_ediv]; rfl
      rw [e1]
      refine any35 (fun h => ?_) (fun h => ?_)
      · rw [if_pos (by walk_at "o")] at r8
        repeat' (first | ((fail_if_success (fail_if_success (with_reducible show Ev _ (Expr.Name _ _) _ _))); refine ev_loc (by assumption) (by walk_at "lk") (by rfl) ?_) | ((fail_if_success (fail_if_success (with_reducible show Ev _ (Expr.UnaryOp UnaryOp.USub _ _) _ _))); refine ev_neg ?_) | ((fail_if_success (fail_if_success (with_reducible show ExB _ _ _ _))); refine exb_nil ?_) | ((with_reducible show Exists _); with_reducible refine ⟨_, rfl, ?_⟩) | (with_reducible refine sq_next ?_) | (with_reducible refine lq_next ?_))
        exact ⟨m / 2, by walk_at "o", f1, -s', by walk_at "lk", by walk_at "lk", by walk_at "lk", by walk_at "lk", by walk_at "lk", by walk_at "o", by walk_at "o", by walk_at "o", r8⟩
      · rw [if_neg (by walk_at "o")] at r8
        repeat' (first | ((fail_if_success (fail_if_success (with_reducible show Ev _ (Expr.Name _ _) _ _))); refine ev_loc (by assumption) (by walk_at "lk") (by rfl) ?_) | ((fail_if_success (fail_if_success (with_reducible show ExB _ _ _ _))); refine exb_nil ?_) | (with_reducible refine sq_next ?_) | (with_reducible refine lq_next ?_))
        exact ⟨m / 2, by walk_at "o", f1, s', by walk_at "lk", by walk_at "lk", by walk_at "lk", by walk_at "lk", by walk_at "lk", by walk_at "o", by walk_at "o", by walk_at "o", r8⟩
    · rename_i h1 h2
      rw [hm1] at h2
      obtain ⟨f1, rfl⟩ : ∃ f', f1 = f' + 1 := ⟨f1 - 1, by walk_at "o"⟩
      exact ⟨m, s', r1, r2, r3, r4, r5, r9, js (m, s') (by rw [jin, if_neg h2]), r6⟩
    · rename_i h1
      have h0 : m = 0 := by omega
      subst h0
      exact ⟨0, s', r1, r2, r3, r4, r5, r9, by have h := js _ rfl; rw [jin_zero] at h; rw [← h]; rfl, r6⟩
  rintro c1 hI; (first | refine ex2 hI fun m s' hI => ?_ | refine ex2 hI.out fun m s' hI => ?_); refine an8 hI fun r1 r2 r3 r4 r5 r9 r6 r7 => ?_; clear hI
  have hm3 : (Builtin.bitAnd (m : Int) 3 = 3) = (m % 4 = 3) := by rw [and3]; exact propext (by walk_at "o")
  have fin : m ≠ 0 → ∀ sg, sg = (if m % 4 = 3 ∧ N % 4 = 3 then -s' else s') → (1 < m → sg * jpl (N % m) m = jsm d N) ∧ (¬ 1 < m → sg = jsm d N) := by
    intro h0 sg hsg
    rw [← r6, jsm2, if_neg h0, ← hsg]
    exact ⟨fun h => by rw [if_pos h], fun h => by rw [if_neg h]⟩
  have pl : ∀ sg : Int, sg.natAbs ≤ 1 → sg.natAbs < 2 ^ 64 ∨ (jpl (N % m) m).natAbs < 2 ^ 64 := fun sg h => .inl (by walk_at "o")
  repeat' (first | ((fail_if_success (fail_if_success (with_reducible show Ev _ (Expr.Name _ _) _ _))); refine ev_loc (by assumption) (by walk_at "lk") (by rfl) ?_) | ((fail_if_success (fail_if_success (with_reducible show Ev _ (Expr.Name _ _) _ _))); refine ev_global (by assumption) (by rfl) ?_) | ((with_reducible show Ev _ (Expr.Constant (Const.int _) _ _) _ _); refine ev_int ?_) | ((fail_if_success (fail_if_success (with_reducible show Ev _ (Expr.BinOp _ Operator.Mult _ _) _ _))); refine ev_mul ?_) | ((fail_if_success (fail_if_success (with_reducible show Ev _ (Expr.BinOp _ Operator.BitAnd _ _) _ _))); refine ev_and ?_) | ((fail_if_success (fail_if_success (with_reducible show Ev _ (Expr.Call (Expr.Name _ _) _ _ _) _ _))); refine ev_call (by assumption) ?_) | ((fail_if_success (fail_if_success (with_reducible show Ev _ (Expr.UnaryOp UnaryOp.USub _ _) _ _))); refine ev_neg ?_) | ((fail_if_success (fail_if_success (with_reducible show Ev _ (Expr.IfExp _ _ _ _) _ _))); refine ev_if ?_) | ((fail_if_success (fail_if_success (with_reducible show Ev _ (Expr.List _ _) _ _))); refine ev_list ?_) | ((fail_if_success (fail_if_success (with_reducible show ExB _ _ _ _))); with_reducible refine exb_cons ?_) | ((fail_if_success (fail_if_success (with_reducible show ExB _ _ _ _))); refine exb_nil ?_) | ((fail_if_success (fail_if_success (with_reducible show EvL _ _ _ _ _))); refine evl_cons ?_) | ((fail_if_success (fail_if_success (with_reducible show EvL _ _ _ _ _))); refine evl_nil ?_) | ((fail_if_success (fail_if_success (with_reducible show TrAll _ _ _ _ _))); refine trAll_and ?_) | ((fail_if_success (fail_if_success (with_reducible show TrAll _ _ _ _ _))); refine trAll_nilA ?_) | ((fail_if_success (fail_if_success (with_reducible show Tr _ (Expr.Compare _ [CmpOp.Gt] _ _) _ _))); refine tr_gt ?_) | ((fail_if_success (fail_if_success (with_reducible show Tr _ (Expr.Compare _ [CmpOp.Eq] _ _) _ _))); refine tr_eq (by assumption) ?_) | ((fail_if_success (fail_if_success (with_reducible show Tr _ (Expr.BoolOp _ _ _) _ _))); refine tr_bool ?_) | ((with_reducible show Ex _ (Stmt.Assign [Expr.Name _ _] _ _) _ _); refine ex_assign (by assumption) ?_) | ((with_reducible show Ex _ (Stmt.If _ _ _ _) _ _); refine ex_if ?_) | ((with_reducible show Ex _ (Stmt.Return _ _) _ _); refine ex_return ?_) | ((with_reducible show ∃ a, _ = AV.fn a ∧ _ ∧ _); refine ⟨_, rfl, by rfl, ?_⟩) | ((with_reducible show Exists _); with_reducible refine ⟨_, _, rfl, rfl, ?_⟩) | ((with_reducible show Exists _); with_reducible refine ⟨_, eqr_int, ?_⟩) | ((with_reducible show Exists _); with_reducible refine ⟨_, eqr_list1, ?_⟩) | ((with_reducible show Exists _); with_reducible refine ⟨_, rfl, ?_⟩) | ((with_reducible show _ ∧ _); refine And.intro ?_ ?_) | ((with_reducible show _ ≤ _); first | walk_at "o" | (rw [List.length_map]; omega) | (simp only [List.length_cons, List.length_nil]; omega)) | ((fail_if_success (fail_if_success (with_reducible show ite _ _ _))); with_reducible refine if_tt ?_) | ((fail_if_success (fail_if_success (with_reducible show ite _ _ _))); with_reducible refine if_ff ?_) | ((fail_if_success (fail_if_success (with_reducible show ite _ _ _))); with_reducible (refine if_dec ?_ ?_ <;> intro _)) | (with_reducible refine sq_next ?_) | (with_reducible refine sq_ret ?_) | (with_reducible refine ret_is ?_))
  all_goals simp only [hm3, hq] at *
  · rename_i h2 h3
    rw [← r6, jsm2, if_pos (by walk_at "o"), if_pos (by rw [h1] at h3; simp at h3; omega)]
  · rename_i h2 h3
    rw [← r6, jsm2, if_pos (by walk_at "o"), if_neg (fun e => h3 (by rw [h1, e]; rfl))]
  · rename_i h2 h3 h4 h5
    have h0 : m ≠ 0 := by omega
    have f := fin h0 (-s') (by rw [if_pos (by walk_at "o")])
    refine ⟨1, _, Nat.le_of_ble_eq_true rfl, rest_small_ok (by walk_at "o") hw2 N m h0 (by walk_at "o") (by walk_at "o"), ?_⟩
    repeat' (first | ((fail_if_success (fail_if_success (with_reducible show Ev _ (Expr.Name _ _) _ _))); refine ev_loc (by assumption) (by walk_at "lk") (by rfl) ?_) | ((fail_if_success (fail_if_success (with_reducible show EvL _ _ _ _ _))); refine evl_cons ?_) | ((fail_if_success (fail_if_success (with_reducible show EvL _ _ _ _ _))); refine evl_nil ?_))
    refine ⟨1, _, Nat.le_of_ble_eq_true rfl, jacobi_plain_ok (N % m) m h0, ?_⟩
    repeat' (first | ((with_reducible show Exists _); with_reducible refine ⟨_, _, rfl, rfl, ?_⟩) | ((with_reducible show _ ∧ _); refine And.intro ?_ ?_) | ((with_reducible show _ ∨ _); first | (refine Or.inl ?_; walk_at "o") | omega) | (with_reducible refine sq_ret ?_) | (with_reducible refine ret_is ?_))
    rw [f.1 (by walk_at "o")]
  · rename_i h2 h3 h4 h5
    have h0 : m ≠ 0 := by omega
    have f := fin h0 (-s') (by rw [if_pos (by walk_at "o")])
    rw [f.2 (by walk_at "o")]
  · rename_i h2 h3 h4 h5
    have h0 : m ≠ 0 := by omega
    have f := fin h0 s' (by rw [if_neg (by walk_at "o")])
    refine ⟨1, _, Nat.le_of_ble_eq_true rfl, rest_small_ok (by walk_at "o") hw2 N m h0 (by walk_at "o") (by walk_at "o"), ?_⟩
    repeat' (first | ((fail_if_success (fail_if_success (with_reducible show Ev _ (Expr.Name _ _) _ _))); refine ev_loc (by assumption) (by walk_at "lk") (by rfl) ?_) | ((fail_if_success (fail_if_success (with_reducible show EvL _ _ _ _ _))); refine evl_cons ?_) | ((fail_if_success (fail_if_success (with_reducible show EvL _ _ _ _ _))); refine evl_nil ?_))
    refine ⟨1, _, Nat.le_of_ble_eq_true rfl, jacobi_plain_ok (N % m) m h0, ?_⟩
    repeat' (first | ((with_reducible show Exists _); with_reducible refine ⟨_, _, rfl, rfl, ?_⟩) | ((with_reducible show _ ∧ _); refine And.intro ?_ ?_) | ((with_reducible show _ ∨ _); first | (refine Or.inl ?_; walk_at "o") | omega) | (with_reducible refine sq_ret ?_) | (with_reducible refine ret_is ?_))
    rw [f.1 (by walk_at "o")]
  · rename_i h2 h3 h4 h5
    have h0 : m ≠ 0 := by omega
    have f := fin h0 s' (by rw [if_neg (by walk_at "o")])
    rw [f.2 (by walk_at "o")]
  · rename_i h2 h3 h5
    have h0 : m ≠ 0 := by omega
    have f := fin h0 s' (by rw [if_neg (by walk_at "o")])
    refine ⟨1, _, Nat.le_of_ble_eq_true rfl, rest_small_ok (by walk_at "o") hw2 N m h0 (by walk_at "o") (by walk_at "o"), ?_⟩
    repeat' (first | ((fail_if_success (fail_if_success (with_reducible show Ev _ (Expr.Name _ _) _ _))); refine ev_loc (by assumption) (by walk_at "lk") (by rfl) ?_) | ((fail_if_success (fail_if_success (with_reducible show EvL _ _ _ _ _))); refine evl_cons ?_) | ((fail_if_success (fail_if_success (with_reducible show EvL _ _ _ _ _))); refine evl_nil ?_))
    refine ⟨1, _, Nat.le_of_ble_eq_true rfl, jacobi_plain_ok (N % m) m h0, ?_⟩
    repeat' (first | ((with_reducible show Exists _); with_reducible refine ⟨_, _, rfl, rfl, ?_⟩) | ((with_reducible show _ ∧ _); refine And.intro ?_ ?_) | ((with_reducible show _ ∨ _); first | (refine Or.inl ?_; walk_at "o") | omega) | (with_reducible refine sq_ret ?_) | (with_reducible refine ret_is ?_))
    rw [f.1 (by walk_at "o")]
  · rename_i h2 h3 h5
    have h0 : m ≠ 0 := by omega
    have f := fin h0 s' (by rw [if_neg (by walk_at "o")])
    rw [f.2 (by walk_at "o")]
end
section
variable {W : World} {mean : ExcName → Option Value} {mg mb : Str → Option Value}
theorem prime_at : ∀ k, k < 8 → primes.getD k 0 ∈ primes ∧ ([3, 5, 7, 11, 13, 17, 19, 23] : List Int).getD k 0 = ((primes.getD k 0 : Nat) : Int) := by decide
theorem prime_is {N : Nat} (h : N ∈ primes) : 3 ≤ N ∧ N ≤ 23 ∧ N % 2 = 1 := by
  have : ∀ N ∈ primes, 3 ≤ N ∧ N ≤ 23 ∧ N % 2 = 1 := by decide
  exact this N h
theorem jsm_sgn {N : Nat} {d : Int} (h : N ∈ primes) (hd : -36 ≤ d ∧ d < 118) : jsm d N = sgn d N := by
  have h1 := List.all_eq_true.mp chkJ_all N h
  have h2 := List.all_eq_true.mp h1 (d + 36).toNat (List.mem_range.mpr (by walk_at "o"))
  have h3 := beq_iff_eq.mp h2
  rw [show (((d + 36).toNat : Nat) : Int) - 36 = d by omega] at h3
  exact h3
theorem sgn_cg {N : Nat} {x y : Int} (h : Cg N x y) : sgn x N = sgn y N := by
  obtain ⟨t, h⟩ := h
  have : x % N = y % N := by rw [show x = y + N * t by walk_at "o", Int.add_mul_emod_self_left]
  unfold sgn; rw [this]
theorem lres_um {w N : Nat} {p q : Int} (m : Nat) (hN : 3 ≤ N) (ho : N % 2 = 1) : ∃ x y, lres w N p q m = .tup [avI (lim w (um N (p % N).toNat (q % N).toNat m)), x, y] := by
  have hae : ∀ z : Int, (((z % N).toNat : Nat) : Int) = z % N := fun z => Int.toNat_of_nonneg (Int.emod_nonneg z (by walk_at "o"))
  have hlN : ∀ z : Int, (z % N).toNat < N := fun z => by have h0 := Int.emod_nonneg z (b := N) (by walk_at "o"); have h1 := Int.emod_lt_of_pos z (b := N) (by walk_at "o"); omega
  by_cases h : m = 0
  · subst h; exact ⟨_, _, rfl⟩
  · have e := lrow_um (N := N) (a := (p % N).toNat) (b := (q % N).toNat) (d := ((p * p - 4 * q) % N).toNat) (by walk_at "o") ho (hlN p) (hlN q) (by
      rw [hae, hae, hae]
      exact (Cg.mod _).trans (((Cg.mod p).mul (Cg.mod p)).sub (Cg.rfl'.mul (Cg.mod q))).symm) h
    rw [lres, if_neg h, e]
    exact ⟨_, _, rfl⟩
theorem range17 : ∀ t : Nat, t < 8 → Builtin.Range.small 0 17 (1 + (t : Int)) = true ∧ Builtin.Range.rangeSize 0 17 (1 + (t : Int)) = (((17 + t) / (t + 1) : Nat) : Int) := by decide
theorem range17_in {t i : Nat} (h : i < (17 + t) / (t + 1)) : (t + 1) * i < 17 := by
  have h1 : i + 1 ≤ (17 + t) / (t + 1) := h
  have h2 := (Nat.le_div_iff_mul_le (Nat.succ_pos t)).mp h1
  rw [Nat.succ_eq_add_one, Nat.add_mul, Nat.one_mul, Nat.mul_comm] at h2
  omega
theorem whole_get {p q : Int} {i : Nat} (h : i < 17) : ((List.range 17).map (lu p q)).getD i 0 = lu p q i := by
  rw [List.getD_eq_getElem?_getD, List.getElem?_map, List.getElem?_range h]; rfl
set_option maxHeartbeats 4000000 in
theorem law_run (script : List Int) (hs : script.length ≤ 63) : LawRun (GG W mean mg mb) 355 script := by
  refine lawrun_mk (by exact rfl) ?_
  intro A h₀ L s F P ok S ua ub ha hb fa fb
  refine law_three (x := "n") (y := "w") ok S (by rfl) (by rfl) (Nat.ne_of_lt (Nat.lt_succ_self _)) (by decide) ua ub ha hb (Nat.succ_ne_self _) (Nat.ne_of_gt (Nat.lt_succ_of_lt (Nat.lt_succ_self _))) fa fb ?_
  refine ex_assignO ok (evn_list ?_)
  repeat' (first | ((with_reducible show Ev _ (Expr.Constant (Const.int _) _ _) _ _); refine ev_int ?_) | ((fail_if_success (fail_if_success (with_reducible show EvL _ _ _ _ _))); refine evl_cons ?_))
  refine ev_comp (cl := []) (cels := []) ok (by rfl) (by decide) rfl (by decide) (by rfl) (it_list ok (ev_uptoI ok (by walk_at "lk") ?_ ?_))
  · omega
  generalize hM : (script.take 12).map (fun i : Int => (i.natAbs : Int)) = M
  have hMl : M.length ≤ 1000 := by rw [← hM, List.length_map, List.length_take]; omega
  refine ev_int ⟨12, rfl, by decide, _, rfl, M.map .int, by rw [← hM]; simp, by rw [List.length_map, List.length_take]; omega, fun y v e => (nomatch e), fun i v y C hv hy okc => ?_, ?_⟩
  · rw [← hM] at hy
    rw [List.getElem?_map] at hv
    rw [List.getElem?_map, List.getElem?_map] at hy
    obtain ⟨z, hz⟩ : ∃ z, (script.take (Int.toNat 12))[i]? = some z := by
      cases q : (script.take (Int.toNat 12))[i]? with
      | none => rw [q] at hv; cases hv
      | some z => exact ⟨z, rfl⟩
    rw [hz] at hv
    rw [show (12 : Nat) = Int.toNat 12 from rfl, hz] at hy
    have e1 : v = .int z := (Option.some.inj hv).symm
    have e2 : y = .int (z.natAbs : Int) := (Option.some.inj hy).symm
    subst e1 e2
    repeat' (first | ((fail_if_success (fail_if_success (with_reducible show Ev _ (Expr.Name _ _) _ _))); refine ev_loc (by assumption) (by walk_at "lk") (by rfl) ?_) | ((with_reducible show Ev _ (Expr.Call (Expr.Name (Str.ofString "abs") _) _ _ _) _ _); refine ev_bcall (id := "abs") (by assumption) (by rfl) (by boot_by_name) (by decide) ?_) | ((with_reducible show Ev _ (Expr.Call (Expr.Name (Str.ofString "int") _) _ _ _) _ _); refine ev_int1 (by assumption) (by rfl) (by boot_by_name) (by decide) ?_) | ((fail_if_success (fail_if_success (with_reducible show EvL _ _ _ _ _))); refine evl_cons ?_) | ((fail_if_success (fail_if_success (with_reducible show EvL _ _ _ _ _))); refine evl_nil ?_) | ((with_reducible show Exists _); with_reducible refine ⟨_, bi_abs, ?_⟩) | ((with_reducible show Exists _); with_reducible refine ⟨_, rfl, ?_⟩))
    rfl
  repeat' (first | ((with_reducible show Ev _ (Expr.Constant (Const.int _) _ _) _ _); refine ev_int ?_) | ((fail_if_success (fail_if_success (with_reducible show Ev _ (Expr.Subscript _ _ _) _ _))); refine ev_sel ?_) | ((with_reducible show Ev _ (Expr.Call (Expr.Name (Str.ofString "_law_poured") _) _ _ _) _ _); refine ev_pour (by assumption) (by rfl) (by rfl) (by walk_at "lk") ?_) | ((fail_if_success (fail_if_success (with_reducible show Ev _ (Expr.Tuple _ _ _) _ _))); refine ev_tuple ?_) | ((fail_if_success (fail_if_success (with_reducible show Ev _ (Expr.List _ _) _ _))); refine ev_list ?_) | ((fail_if_success (fail_if_success (with_reducible show EvL _ _ _ _ _))); refine evl_cons ?_) | ((fail_if_success (fail_if_success (with_reducible show EvL _ _ _ _ _))); refine evl_nil ?_) | ((with_reducible show Cx.own _ = _); first | rfl | assumption) | ((with_reducible show _ ∧ _); refine And.intro ?_ ?_) | ((with_reducible show Fl.next = Fl.next); rfl) | ((with_reducible show _ ≤ _); first | walk_at "o" | (rw [List.length_map]; omega) | (simp only [List.length_cons, List.length_nil]; omega)))
  refine ⟨_, _, 1, _, _, rfl, Nat.le_of_ble_eq_true rfl, poured_ok M 0 8 (by decide) (by decide) hMl, fun b0 => ?_⟩
  obtain ⟨x0, y0⟩ := poured_lt (l := M) (k := 0) (many := 8) (by decide)
  refine ⟨_, _, rfl, item_int (l := ([3, 5, 7, 11, 13, 17, 19, 23] : List Int)) x0 y0 (by decide), ?_⟩
  obtain ⟨hN, hNe⟩ := prime_at (poured M 0 8).toNat (by walk_at "o")
  rw [hNe]
  generalize primes.getD (poured M 0 8).toNat 0 = N at hN
  clear hNe x0 y0
  repeat' (first | ((with_reducible show Ev _ (Expr.Constant (Const.int _) _ _) _ _); refine ev_int ?_) | ((fail_if_success (fail_if_success (with_reducible show Ev _ (Expr.BinOp _ Operator.Add _ _) _ _))); refine ev_add ?_) | ((with_reducible show Ev _ (Expr.Call (Expr.Name (Str.ofString "_law_poured") _) _ _ _) _ _); refine ev_pour (by assumption) (by rfl) (by rfl) (by walk_at "lk") ?_) | ((fail_if_success (fail_if_success (with_reducible show EvL _ _ _ _ _))); refine evl_cons ?_))
  refine ⟨_, _, 1, _, _, rfl, Nat.le_of_ble_eq_true rfl, poured_ok M (0 + 1) 5 (by decide) (by decide) hMl, fun b1 => ?_⟩
  obtain ⟨x1, y1⟩ := poured_lt (l := M) (k := 0 + 1) (many := 5) (by decide)
  obtain ⟨w, hw, hw2, hwe⟩ : ∃ w : Nat, 5 ≤ w ∧ w ≤ 9 ∧ (5 : Int) + poured M (0 + 1) 5 = w := ⟨(5 + poured M (0 + 1) 5).toNat, by walk_at "o", by walk_at "o", by walk_at "o"⟩
  (first | ((with_reducible show Exists _); with_reducible refine ⟨_, _, rfl, rfl, ?_⟩))
  (first | ((fail_if_success (fail_if_success (with_reducible show EvL _ _ _ _ _))); refine evl_nil ?_))
  (first | ((with_reducible show _ ∧ _); refine And.intro ?_ ?_))
  · (first | ((with_reducible show _ ≤ _); first | walk_at "o" | (rw [List.length_map]; omega) | (simp only [List.length_cons, List.length_nil]; omega)))
  (first | ((with_reducible show Exists _); with_reducible refine ⟨_, _, rfl, ?_⟩))
  rw [hwe]
  clear hwe x1 y1
  obtain ⟨hN3, hN23, hodd⟩ := prime_is hN
  have hM' : ∀ k : Nat, [AV.int k, avI M].length ≤ 1000 := fun _ => by show 2 ≤ 1000; decide
  refine exb_cons (ex_cut (fun c => Inv (∃ (p q : Int) (b : Bool), p.natAbs ≤ 9 ∧ q.natAbs ≤ 9 ∧ look "p" c.loc = some (.int p) ∧ look "q" c.loc = some (.int q) ∧ look "mug" c.loc = some .own ∧ c.own = some (b, [.int (4 : Nat), avI M]) ∧ c.cel = [("n", .int N), ("w", .int w)])) ?_ ?_)
  · repeat' (first | ((with_reducible show Ev _ (Expr.Constant (Const.int _) _ _) _ _); refine ev_int ?_) | ((fail_if_success (fail_if_success (with_reducible show Ev _ (Expr.BinOp _ Operator.Sub _ _) _ _))); refine ev_sub ?_) | ((with_reducible show Ev _ (Expr.Call (Expr.Name (Str.ofString "_law_poured") _) _ _ _) _ _); refine ev_pour (by assumption) (by rfl) (by rfl) (by walk_at "lk") ?_) | ((with_reducible show Ex _ (Stmt.Assign [Expr.Tuple [_, _] _ _] (Expr.Tuple _ _ _) _) _ _); refine ex_tup2 (by assumption) ?_))
    refine ⟨_, _, 1, _, _, rfl, Nat.le_of_ble_eq_true rfl, poured_ok M (0 + 1 + 1) 19 (by decide) (by decide) hMl, fun b2 => ?_⟩
    obtain ⟨x2, y2⟩ := poured_lt (l := M) (k := 0 + 1 + 1) (many := 19) (by decide)
    repeat' (first | ((with_reducible show Ev _ (Expr.Constant (Const.int _) _ _) _ _); refine ev_int ?_) | ((fail_if_success (fail_if_success (with_reducible show Ev _ (Expr.BinOp _ Operator.Sub _ _) _ _))); refine ev_sub ?_) | ((with_reducible show Ev _ (Expr.Call (Expr.Name (Str.ofString "_law_poured") _) _ _ _) _ _); refine ev_pour (by assumption) (by rfl) (by rfl) (by walk_at "lk") ?_) | ((with_reducible show Exists _); with_reducible refine ⟨_, _, rfl, rfl, ?_⟩))
    refine ⟨_, _, 1, _, _, rfl, Nat.le_of_ble_eq_true rfl, poured_ok M (0 + 1 + 1 + 1) 19 (by decide) (by decide) hMl, fun b3 => ?_⟩
    obtain ⟨x3, y3⟩ := poured_lt (l := M) (k := 0 + 1 + 1 + 1) (many := 19) (by decide)
    repeat' (first | ((with_reducible show Ev _ (Expr.Constant (Const.int _) _ _) _ _); refine ev_int ?_) | ((with_reducible show Exists _); with_reducible refine ⟨_, _, rfl, rfl, ?_⟩) | ((with_reducible show _ ∧ _); refine And.intro ?_ ?_) | ((with_reducible show Fl.next = Fl.next); rfl))
    exact ⟨poured M (0 + 1 + 1) 19 - 9, poured M (0 + 1 + 1 + 1) 19 - 9, b3, by walk_at "o", by walk_at "o", by walk_at "lk", by walk_at "lk", by walk_at "lk", rfl, rfl⟩
  rintro c hI; (first | refine ex3 hI fun p q0 b hI => ?_ | refine ex3 hI.out fun p q0 b hI => ?_); refine an7 hI fun hp hq0 g1 g2 g3 g4 g5 => ?_; clear hI
  refine sq_next (exb_cons (ex_cut (fun c => Inv (∃ (q : Int), q.natAbs ≤ 9 ∧ q % N ≠ 0 ∧ look "p" c.loc = some (.int p) ∧ look "q" c.loc = some (.int q) ∧ look "mug" c.loc = some .own ∧ c.own = some (b, [.int (4 : Nat), avI M]) ∧ c.cel = [("n", .int N), ("w", .int w)])) ?_ ?_))
  · have gn : look "n" c.cel = some (.int N) := by rw [g5]; rfl
    repeat' (first | ((fail_if_success (fail_if_success (with_reducible show Ev _ (Expr.Name _ _) _ _))); refine ev_loc (by assumption) (by walk_at "lk") (by rfl) ?_) | ((fail_if_success (fail_if_success (with_reducible show Ev _ (Expr.Name _ _) _ _))); refine ev_cell (by assumption) (by walk_at "lk") ?_) | ((with_reducible show Ev _ (Expr.Constant (Const.int _) _ _) _ _); refine ev_int ?_) | ((fail_if_success (fail_if_success (with_reducible show Ev _ (Expr.BinOp _ Operator.Mod _ _) _ _))); refine ev_mod ?_) | ((fail_if_success (fail_if_success (with_reducible show Ev _ (Expr.IfExp _ _ _ _) _ _))); refine ev_if ?_) | ((fail_if_success (fail_if_success (with_reducible show Tr _ (Expr.Compare _ [CmpOp.NotEq] _ _) _ _))); refine tr_ne (by assumption) ?_) | ((with_reducible show Ex _ (Stmt.Assign [Expr.Name _ _] _ _) _ _); refine ex_assign (by assumption) ?_) | ((with_reducible show Exists _); with_reducible refine ⟨_, _, rfl, rfl, ?_⟩) | ((with_reducible show Exists _); with_reducible refine ⟨_, ner_int, ?_⟩) | ((with_reducible show _ ∧ _); refine And.intro ?_ ?_) | ((with_reducible show Fl.next = Fl.next); rfl) | ((with_reducible show _ < _); first | walk_at "o" | (rw [List.length_map]; omega)) | ((fail_if_success (fail_if_success (with_reducible show ite _ _ _))); with_reducible (refine if_ndec ?_ ?_ <;> intro _)))
    · rename_i h
      exact ⟨q0, hq0, h, by walk_at "lk", by walk_at "lk", by walk_at "lk", g4, g5⟩
    · exact ⟨1, by decide, by rw [Int.emod_eq_of_lt (by walk_at "o") (by walk_at "o")]; decide, by walk_at "lk", by walk_at "lk", by walk_at "lk", g4, g5⟩
  rintro c hI; (first | refine ex1 hI fun q hI => ?_ | refine ex1 hI.out fun q hI => ?_); refine an7 hI fun hq hqn g1 g2 g3 g4 g5 => ?_; clear hI
  have hN1000 : N < 2 ^ 1000 := Nat.lt_of_le_of_lt hN23 (by decide)
  have h2w : 32 ≤ 2 ^ w := Nat.pow_le_pow_right (show 1 ≤ 2 by decide) hw
  have hpp : (p * p).natAbs ≤ 81 := by rw [Int.natAbs_mul]; exact Nat.mul_le_mul hp hp
  refine sq_next (exb_cons (ex_cut (fun c => Inv (look "row" c.loc = some (avI (lim w N)) ∧ look "d" c.loc = some (.int (p * p - 4 * q)) ∧ look "p" c.loc = some (.int p) ∧ look "q" c.loc = some (.int q) ∧ look "mug" c.loc = some .own ∧ c.own = some (b, [.int (4 : Nat), avI M]) ∧ c.cel = [("n", .int N), ("w", .int w)])) ?_ ?_))
  · have gn : look "n" c.cel = some (.int N) := by rw [g5]; rfl
    have gw : look "w" c.cel = some (.int w) := by rw [g5]; rfl
    repeat' (first | ((fail_if_success (fail_if_success (with_reducible show Ev _ (Expr.Name _ _) _ _))); refine ev_global (by assumption) (by rfl) ?_) | ((fail_if_success (fail_if_success (with_reducible show Ev _ (Expr.Name _ _) _ _))); refine ev_cell (by assumption) (by walk_at "lk") ?_) | ((fail_if_success (fail_if_success (with_reducible show Ev _ (Expr.Call (Expr.Name _ _) _ _ _) _ _))); refine ev_call (by assumption) ?_) | ((fail_if_success (fail_if_success (with_reducible show EvL _ _ _ _ _))); refine evl_cons ?_) | ((fail_if_success (fail_if_success (with_reducible show EvL _ _ _ _ _))); refine evl_nil ?_) | ((with_reducible show Ex _ (Stmt.Assign [Expr.Tuple [_, _] _ _] (Expr.Tuple _ _ _) _) _ _); refine ex_tup2 (by assumption) ?_) | ((with_reducible show ∃ a, _ = AV.fn a ∧ _ ∧ _); refine ⟨_, rfl, by rfl, ?_⟩))
    refine ⟨1, _, Nat.le_of_ble_eq_true rfl, law_limbs_ok (by walk_at "o") (by walk_at "o") N hN1000, ?_⟩
    repeat' (first | ((fail_if_success (fail_if_success (with_reducible show Ev _ (Expr.Name _ _) _ _))); refine ev_loc (by assumption) (by walk_at "lk") (by rfl) ?_) | ((with_reducible show Ev _ (Expr.Constant (Const.int _) _ _) _ _); refine ev_int ?_) | ((fail_if_success (fail_if_success (with_reducible show Ev _ (Expr.BinOp _ Operator.Sub _ _) _ _))); refine ev_sub ?_) | ((fail_if_success (fail_if_success (with_reducible show Ev _ (Expr.BinOp _ Operator.Mult _ _) _ _))); refine ev_mul ?_) | ((with_reducible show Exists _); with_reducible refine ⟨_, _, rfl, rfl, ?_⟩) | ((with_reducible show _ ∧ _); refine And.intro ?_ ?_) | ((with_reducible show Fl.next = Fl.next); rfl) | ((with_reducible show _ ∨ _); first | (refine Or.inl ?_; walk_at "o") | omega))
    exact ⟨by walk_at "lk", by walk_at "lk", by walk_at "lk", by walk_at "lk", by walk_at "lk", g4, g5⟩
  rintro c hI; (first | refine an7 hI fun g6 g7 g1 g2 g3 g4 g5 => ?_ | refine an7 hI.out fun g6 g7 g1 g2 g3 g4 g5 => ?_); clear hI
  generalize hdd : p * p - 4 * q = d at *
  have hd : -36 ≤ d ∧ d < 118 := by
    have : 0 ≤ p * p := by rcases Int.le_total 0 p with h | h; exact Int.mul_nonneg h h; exact Int.mul_nonneg_of_nonpos_of_nonpos h h
    omega
  refine sq_next (exb_cons (ex_cut (fun c => Inv (look "sign" c.loc = some (.int (sgn d N)) ∧ look "row" c.loc = some (avI (lim w N)) ∧ look "d" c.loc = some (.int d) ∧ look "p" c.loc = some (.int p) ∧ look "q" c.loc = some (.int q) ∧ look "mug" c.loc = some .own ∧ c.own = some (b, [.int (4 : Nat), avI M]) ∧ c.cel = [("n", .int N), ("w", .int w)])) ?_ ?_))
  · have gn : look "n" c.cel = some (.int N) := by rw [g5]; rfl
    repeat' (first | ((fail_if_success (fail_if_success (with_reducible show Ev _ (Expr.Name _ _) _ _))); refine ev_loc (by assumption) (by walk_at "lk") (by rfl) ?_) | ((fail_if_success (fail_if_success (with_reducible show Ev _ (Expr.Name _ _) _ _))); refine ev_cell (by assumption) (by walk_at "lk") ?_) | ((with_reducible show Ev _ (Expr.Constant (Const.int _) _ _) _ _); refine ev_int ?_) | ((fail_if_success (fail_if_success (with_reducible show Ev _ (Expr.BinOp _ Operator.Mod _ _) _ _))); refine ev_mod ?_) | ((fail_if_success (fail_if_success (with_reducible show Ev _ (Expr.IfExp _ _ _ _) _ _))); refine ev_if ?_) | ((fail_if_success (fail_if_success (with_reducible show Tr _ (Expr.Compare _ [CmpOp.Eq] _ _) _ _))); refine tr_eq (by assumption) ?_) | ((fail_if_success (fail_if_success (with_reducible show Tr _ (Expr.Compare _ [CmpOp.In] _ _) _ _))); refine tr_in ?_) | ((with_reducible show Ex _ (Stmt.Assign [Expr.Name _ _] _ _) _ _); refine ex_assign (by assumption) ?_) | ((with_reducible show Exists _); with_reducible refine ⟨_, _, rfl, rfl, ?_⟩) | ((with_reducible show Exists _); with_reducible refine ⟨_, eqr_int, ?_⟩) | ((with_reducible show _ ∧ _); refine And.intro ?_ ?_) | ((with_reducible show Fl.next = Fl.next); rfl) | ((with_reducible show _ < _); first | walk_at "o" | (rw [List.length_map]; omega)) | ((fail_if_success (fail_if_success (with_reducible show ite _ _ _))); with_reducible (refine if_dec ?_ ?_ <;> intro _)))
    · rename_i h
      exact ⟨lk_int (by walk_at "lk") (by rw [sgn, if_pos h]), by walk_at "lk", by walk_at "lk", by walk_at "lk", by walk_at "lk", by walk_at "lk", g4, g5⟩
    · rename_i h
      refine ev_comp (x := "x") (cl := [(Str.ofString "n", L + 1)]) (cels := [("n", .int N)]) ok (by rfl) (by decide) rfl (by decide) (by rfl) (it_range ok (by rfl) (by boot_by_name) (by decide) ?_)
      repeat' (first | ((fail_if_success (fail_if_success (with_reducible show Ev _ (Expr.Name _ _) _ _))); refine ev_cell (by assumption) (by walk_at "lk") ?_) | ((with_reducible show Ev _ (Expr.Constant (Const.int _) _ _) _ _); refine ev_int ?_) | ((fail_if_success (fail_if_success (with_reducible show EvL _ _ _ _ _))); refine evl_cons ?_) | ((fail_if_success (fail_if_success (with_reducible show EvL _ _ _ _ _))); refine evl_nil ?_))
      refine ⟨1, N, 1, N - 1, .inr (.inl ⟨rfl, rfl⟩), small_one (by decide) (by decide) (by walk_at "o") (by walk_at "o"), by rw [rsize_up]; omega, (squares N).map .int, by simp [squares, rangeL], by simp [rangeL]; omega, fun y v e => ?_, fun i v y C hv hy okc => ?_, ?_⟩
      · have e2 : (if y = "n" then some (AV.int N) else none) = some v := e
        clear e
        split at e2
        · rename_i z; subst z; exact ⟨by rw [g5, ← e2]; rfl, by rfl⟩
        · cases e2
      · have hi : i < N - 1 := by
          rcases Nat.lt_or_ge i (N - 1) with h | h
          · exact h
          · rw [List.getElem?_eq_none (by simp [rangeL]; omega)] at hv; cases hv
        have e1 : v = .int (1 + i) := by
          simp only [rangeL, List.getElem?_map, List.getElem?_range hi, Option.map_some, Option.some.injEq] at hv
          rw [← hv, Int.mul_one]
        have e2 : y = .int ((1 + i) * (1 + i) % N) := by
          simp only [squares, List.getElem?_map, List.getElem?_range hi, Option.map_some, Option.some.injEq] at hy
          exact hy.symm
        subst e1 e2
        repeat' (first | ((fail_if_success (fail_if_success (with_reducible show Ev _ (Expr.Name _ _) _ _))); refine ev_loc (by assumption) (by walk_at "lk") (by rfl) ?_) | ((fail_if_success (fail_if_success (with_reducible show Ev _ (Expr.Name _ _) _ _))); refine ev_cell (by assumption) (by walk_at "lk") ?_) | ((fail_if_success (fail_if_success (with_reducible show Ev _ (Expr.BinOp _ Operator.Mult _ _) _ _))); refine ev_mul ?_) | ((fail_if_success (fail_if_success (with_reducible show Ev _ (Expr.BinOp _ Operator.Mod _ _) _ _))); refine ev_mod ?_) | ((with_reducible show Exists _); with_reducible refine ⟨_, _, rfl, rfl, ?_⟩) | ((with_reducible show _ ∧ _); refine And.intro ?_ ?_) | ((with_reducible show _ < _); first | walk_at "o" | (rw [List.length_map]; omega)) | ((with_reducible show _ ∨ _); first | (refine Or.inl ?_; walk_at "o") | omega))
        rfl
      refine ⟨_, squares N, rfl, .inr rfl, ?_⟩
      refine if_bool (fun h2 => ?_) (fun h2 => ?_)
      · repeat' (first | ((with_reducible show Ev _ (Expr.Constant (Const.int _) _ _) _ _); refine ev_int ?_) | ((with_reducible show _ ∧ _); refine And.intro ?_ ?_) | ((with_reducible show Fl.next = Fl.next); rfl))
        exact ⟨lk_int (by walk_at "lk") (by rw [sgn, if_neg h, if_pos h2]), by walk_at "lk", by walk_at "lk", by walk_at "lk", by walk_at "lk", by walk_at "lk", g4, g5⟩
      · repeat' (first | ((with_reducible show Ev _ (Expr.Constant (Const.int _) _ _) _ _); refine ev_int ?_) | ((fail_if_success (fail_if_success (with_reducible show Ev _ (Expr.BinOp _ Operator.Sub _ _) _ _))); refine ev_sub ?_) | ((with_reducible show Exists _); with_reducible refine ⟨_, _, rfl, rfl, ?_⟩) | ((with_reducible show _ ∧ _); refine And.intro ?_ ?_) | ((with_reducible show Fl.next = Fl.next); rfl))
        exact ⟨lk_int (by walk_at "lk") (by rw [sgn, if_neg h, if_neg (by rw [h2]; decide)]), by walk_at "lk", by walk_at "lk", by walk_at "lk", by walk_at "lk", by walk_at "lk", g4, g5⟩
  rintro c hI; (first | refine an8 hI fun g8 g6 g7 g1 g2 g3 g4 g5 => ?_ | refine an8 hI.out fun g8 g6 g7 g1 g2 g3 g4 g5 => ?_); clear hI
  refine sq_next (exb_cons (ex_cut (fun c' => c' = c) ?_ ?_))
  · have gw : look "w" c.cel = some (.int w) := by rw [g5]; rfl
    repeat' (first | ((fail_if_success (fail_if_success (with_reducible show Ev _ (Expr.Name _ _) _ _))); refine ev_loc (by assumption) (by walk_at "lk") (by rfl) ?_) | ((fail_if_success (fail_if_success (with_reducible show Ev _ (Expr.Name _ _) _ _))); refine ev_global (by assumption) (by rfl) ?_) | ((fail_if_success (fail_if_success (with_reducible show Ev _ (Expr.Name _ _) _ _))); refine ev_cell (by assumption) (by walk_at "lk") ?_) | ((fail_if_success (fail_if_success (with_reducible show Ev _ (Expr.Call (Expr.Name _ _) _ _ _) _ _))); refine ev_call (by assumption) ?_) | ((fail_if_success (fail_if_success (with_reducible show EvL _ _ _ _ _))); refine evl_cons ?_) | ((fail_if_success (fail_if_success (with_reducible show EvL _ _ _ _ _))); refine evl_nil ?_) | ((fail_if_success (fail_if_success (with_reducible show Tr _ (Expr.Compare _ [CmpOp.NotEq] _ _) _ _))); refine tr_ne (by assumption) ?_) | ((with_reducible show Ex _ (Stmt.If _ _ _ _) _ _); refine ex_if ?_) | ((with_reducible show ∃ a, _ = AV.fn a ∧ _ ∧ _); refine ⟨_, rfl, by rfl, ?_⟩))
    refine ⟨2, _, Nat.le_of_ble_eq_true rfl, jacobi_small_ok (by walk_at "o") (by walk_at "o") d N (Nat.lt_of_le_of_lt (show d.natAbs ≤ 200 by omega) (by decide)) (by walk_at "o") (by walk_at "o"), ?_⟩
    rw [jsm_sgn hN hd]
    repeat' (first | ((fail_if_success (fail_if_success (with_reducible show Ev _ (Expr.Name _ _) _ _))); refine ev_loc (by assumption) (by walk_at "lk") (by rfl) ?_) | ((with_reducible show Ev _ (Expr.Constant (Const.bool _) _ _) _ _); refine ev_boolC ?_) | ((fail_if_success (fail_if_success (with_reducible show ExB _ _ _ _))); with_reducible refine exb_cons ?_) | ((fail_if_success (fail_if_success (with_reducible show ExB _ _ _ _))); refine exb_nil ?_) | ((with_reducible show Ex _ (Stmt.Return _ _) _ _); refine ex_return ?_) | ((with_reducible show Exists _); with_reducible refine ⟨_, ner_int, ?_⟩) | ((with_reducible show _ ∧ _); refine And.intro ?_ ?_) | ((with_reducible show Fl.next = Fl.next); rfl) | ((fail_if_success (fail_if_success (with_reducible show ite _ _ _))); with_reducible (refine if_ndec ?_ ?_ <;> intro _)) | (with_reducible refine sq_ret ?_))
    all_goals first | rfl | (exfalso; rename_i h; exact h rfl)
  rintro c rfl
  have hae : ∀ z : Int, (((z % N).toNat : Nat) : Int) = z % N := fun z => Int.toNat_of_nonneg (Int.emod_nonneg z (by walk_at "o"))
  have hlN : ∀ z : Int, (z % N).toNat < N := fun z => by have h0 := Int.emod_nonneg z (b := N) (by walk_at "o"); have h1 := Int.emod_lt_of_pos z (b := N) (by walk_at "o"); omega
  have hb0 : (q % N).toNat ≠ 0 := fun e => hqn (by have := hae q; omega)
  (first | refine ex1 (rank_facts hN (hlN p) (hlN q) hb0) fun r hE => ?_ | refine ex1 (rank_facts hN (hlN p) (hlN q) hb0).out fun r hE => ?_); refine an7 hE fun r1 r2 r3 r4 r5 r6 r7 => ?_; clear hE
  have hcd : Cg N ((((p % N).toNat : Nat) : Int) * ((p % N).toNat : Nat) - 4 * ((q % N).toNat : Nat)) d := by
    rw [hae, hae, ← hdd]
    exact ((Cg.mod p).mul (Cg.mod p)).sub (Cg.rfl'.mul (Cg.mod q))
  have hsg : sgnR (p % N).toNat (q % N).toNat N = sgn d N := sgn_cg hcd
  rw [hsg] at r5 r6
  refine sq_next (exb_cons (ex_cut (fun c => Inv (look "first_at" c.loc = some (.int r) ∧ look "sign" c.loc = some (.int (sgn d N)) ∧ look "row" c.loc = some (avI (lim w N)) ∧ look "p" c.loc = some (.int p) ∧ look "q" c.loc = some (.int q) ∧ look "mug" c.loc = some .own ∧ c.own = some (b, [.int (4 : Nat), avI M]) ∧ c.cel = [("n", .int N), ("w", .int w)])) ?_ ?_))
  · have gn : look "n" c.cel = some (.int N) := by rw [g5]; rfl
    have gw : look "w" c.cel = some (.int w) := by rw [g5]; rfl
    repeat' (first | ((fail_if_success (fail_if_success (with_reducible show Ev _ (Expr.Name _ _) _ _))); refine ev_loc (by assumption) (by walk_at "lk") (by rfl) ?_) | ((fail_if_success (fail_if_success (with_reducible show Ev _ (Expr.Name _ _) _ _))); refine ev_global (by assumption) (by rfl) ?_) | ((fail_if_success (fail_if_success (with_reducible show Ev _ (Expr.Name _ _) _ _))); refine ev_cell (by assumption) (by walk_at "lk") ?_) | ((with_reducible show Ev _ (Expr.Constant (Const.int _) _ _) _ _); refine ev_int ?_) | ((fail_if_success (fail_if_success (with_reducible show Ev _ (Expr.BinOp _ Operator.Add _ _) _ _))); refine ev_add ?_) | ((fail_if_success (fail_if_success (with_reducible show Ev _ (Expr.Call (Expr.Name _ _) _ _ _) _ _))); refine ev_call (by assumption) ?_) | ((fail_if_success (fail_if_success (with_reducible show EvL _ _ _ _ _))); refine evl_cons ?_) | ((fail_if_success (fail_if_success (with_reducible show EvL _ _ _ _ _))); refine evl_nil ?_) | ((with_reducible show Ex _ (Stmt.Assign [Expr.Name _ _] _ _) _ _); refine ex_assign (by assumption) ?_) | ((with_reducible show ∃ a, _ = AV.fn a ∧ _ ∧ _); refine ⟨_, rfl, by rfl, ?_⟩) | ((with_reducible show Exists _); with_reducible refine ⟨_, _, rfl, rfl, ?_⟩))
    refine ⟨7, _, Nat.le_of_ble_eq_true rfl, rank_ok hw (by walk_at "o") (N + 1) p q N (by walk_at "o") hp hq (by walk_at "o") hN3 hodd, ?_⟩
    rw [r3]
    repeat' (first | ((with_reducible show _ ∧ _); refine And.intro ?_ ?_) | ((with_reducible show Fl.next = Fl.next); rfl))
    exact ⟨lk_to (by walk_at "lk") (by rfl), by walk_at "lk", by walk_at "lk", by walk_at "lk", by walk_at "lk", by walk_at "lk", g4, g5⟩
  rintro c hI; (first | refine an8 hI fun g9 g8 g6 g1 g2 g3 g4 g5 => ?_ | refine an8 hI.out fun g9 g8 g6 g1 g2 g3 g4 g5 => ?_); clear hI
  refine sq_next (exb_cons (ex_cut (fun c' => c' = c) ?_ ?_))
  · have gn : look "n" c.cel = some (.int N) := by rw [g5]; rfl
    repeat' (first | ((fail_if_success (fail_if_success (with_reducible show Ev _ (Expr.Name _ _) _ _))); refine ev_loc (by assumption) (by walk_at "lk") (by rfl) ?_) | ((fail_if_success (fail_if_success (with_reducible show Ev _ (Expr.Name _ _) _ _))); refine ev_cell (by assumption) (by walk_at "lk") ?_) | ((with_reducible show Ev _ (Expr.Constant (Const.int _) _ _) _ _); refine ev_int ?_) | ((with_reducible show Ev _ (Expr.Constant Const.none _ _) _ _); refine ev_none ?_) | ((with_reducible show Ev _ (Expr.Constant (Const.bool _) _ _) _ _); refine ev_boolC ?_) | ((fail_if_success (fail_if_success (with_reducible show Ev _ (Expr.BinOp _ Operator.Sub _ _) _ _))); refine ev_sub ?_) | ((fail_if_success (fail_if_success (with_reducible show Ev _ (Expr.BinOp _ Operator.Mod _ _) _ _))); refine ev_mod ?_) | ((fail_if_success (fail_if_success (with_reducible show ExB _ _ _ _))); with_reducible refine exb_cons ?_) | ((fail_if_success (fail_if_success (with_reducible show ExB _ _ _ _))); refine exb_nil ?_) | ((fail_if_success (fail_if_success (with_reducible show TrAll _ _ _ _ _))); refine trAll_or ?_) | ((fail_if_success (fail_if_success (with_reducible show TrAll _ _ _ _ _))); refine trAll_nilO ?_) | ((fail_if_success (fail_if_success (with_reducible show Tr _ (Expr.Compare _ [CmpOp.Lt] _ _) _ _))); refine tr_lt ?_) | ((fail_if_success (fail_if_success (with_reducible show Tr _ (Expr.Compare _ [CmpOp.Eq] _ _) _ _))); refine tr_eq (by assumption) ?_) | ((fail_if_success (fail_if_success (with_reducible show Tr _ (Expr.Compare _ [CmpOp.NotEq] _ _) _ _))); refine tr_ne (by assumption) ?_) | ((fail_if_success (fail_if_success (with_reducible show Tr _ (Expr.Compare _ [CmpOp.Is] _ _) _ _))); refine tr_isN ?_) | ((fail_if_success (fail_if_success (with_reducible show Tr _ (Expr.BoolOp _ _ _) _ _))); refine tr_bool ?_) | ((fail_if_success (fail_if_success (with_reducible show Tr _ (Expr.IfExp _ _ _ _) _ _))); refine tr_ifE ?_) | ((with_reducible show Ex _ (Stmt.If _ _ _ _) _ _); refine ex_if ?_) | ((with_reducible show Ex _ (Stmt.Return _ _) _ _); refine ex_return ?_) | ((with_reducible show Exists _); with_reducible refine ⟨_, _, rfl, rfl, ?_⟩) | ((with_reducible show Exists _); with_reducible refine ⟨_, eqr_int, ?_⟩) | ((with_reducible show Exists _); with_reducible refine ⟨_, ner_int, ?_⟩) | ((with_reducible show _ ∧ _); refine And.intro ?_ ?_) | ((with_reducible show Fl.next = Fl.next); rfl) | ((with_reducible show AV.none = AV.none); rfl) | ((with_reducible show _ < _); first | walk_at "o" | (rw [List.length_map]; omega)) | ((fail_if_success (fail_if_success (with_reducible show ite _ _ _))); with_reducible refine if_tt ?_) | ((fail_if_success (fail_if_success (with_reducible show ite _ _ _))); with_reducible refine if_ff ?_) | ((fail_if_success (fail_if_success (with_reducible show ite _ _ _))); with_reducible (refine if_dec ?_ ?_ <;> intro _)) | ((fail_if_success (fail_if_success (with_reducible show ite _ _ _))); with_reducible (refine if_ndec ?_ ?_ <;> intro _)) | (with_reducible refine sq_ret ?_))
    all_goals first | rfl | (exfalso; rename_i h1 h2; exact h2 (by rw [r5 h1])) | (exfalso; rename_i h1 h2; exact h2 (r6 h1).1) | (exfalso; rename_i h1 _ h2; have := (r6 h1).2; omega)
  rintro c rfl
  refine sq_next (exb_cons (ex_cut (fun c' => c' = c) ?_ ?_))
  · have gn : look "n" c.cel = some (.int N) := by rw [g5]; rfl
    have gw : look "w" c.cel = some (.int w) := by rw [g5]; rfl
    repeat' (first | ((fail_if_success (fail_if_success (with_reducible show Ev _ (Expr.Name _ _) _ _))); refine ev_loc (by assumption) (by walk_at "lk") (by rfl) ?_) | ((fail_if_success (fail_if_success (with_reducible show Ev _ (Expr.Name _ _) _ _))); refine ev_global (by assumption) (by rfl) ?_) | ((fail_if_success (fail_if_success (with_reducible show Ev _ (Expr.Name _ _) _ _))); refine ev_cell (by assumption) (by walk_at "lk") ?_) | ((with_reducible show Ev _ (Expr.Constant (Const.int _) _ _) _ _); refine ev_int ?_) | ((fail_if_success (fail_if_success (with_reducible show Ev _ (Expr.BinOp _ Operator.Sub _ _) _ _))); refine ev_sub ?_) | ((fail_if_success (fail_if_success (with_reducible show Ev _ (Expr.Call (Expr.Name _ _) _ _ _) _ _))); refine ev_call (by assumption) ?_) | ((fail_if_success (fail_if_success (with_reducible show EvL _ _ _ _ _))); refine evl_cons ?_) | ((fail_if_success (fail_if_success (with_reducible show EvL _ _ _ _ _))); refine evl_nil ?_) | ((fail_if_success (fail_if_success (with_reducible show Tr _ (Expr.Compare _ [CmpOp.IsNot] _ _) _ _))); refine tr_notN ?_) | ((with_reducible show Ex _ (Stmt.If _ _ _ _) _ _); refine ex_if ?_) | ((with_reducible show ∃ a, _ = AV.fn a ∧ _ ∧ _); refine ⟨_, rfl, by rfl, ?_⟩) | ((with_reducible show Exists _); with_reducible refine ⟨_, _, rfl, rfl, ?_⟩))
    rw [show (r : Int) - 1 = ((r - 1 : Nat) : Int) by omega]
    refine ⟨7, _, Nat.le_of_ble_eq_true rfl, rank_ok hw (by walk_at "o") (r - 1) p q N (by walk_at "o") hp hq (by walk_at "o") hN3 hodd, ?_⟩
    rw [r4]
    repeat' (first | ((with_reducible show Ev _ (Expr.Constant Const.none _ _) _ _); refine ev_none ?_) | ((with_reducible show Ev _ (Expr.Constant (Const.bool _) _ _) _ _); refine ev_boolC ?_) | ((fail_if_success (fail_if_success (with_reducible show ExB _ _ _ _))); with_reducible refine exb_cons ?_) | ((fail_if_success (fail_if_success (with_reducible show ExB _ _ _ _))); refine exb_nil ?_) | ((with_reducible show Ex _ (Stmt.Return _ _) _ _); refine ex_return ?_) | ((with_reducible show _ ∧ _); refine And.intro ?_ ?_) | ((with_reducible show Fl.next = Fl.next); rfl) | ((with_reducible show AV.none = AV.none); rfl) | ((fail_if_success (fail_if_success (with_reducible show ite _ _ _))); with_reducible (refine if_bool ?_ ?_ <;> intro _)) | (with_reducible refine sq_ret ?_))
    all_goals first | rfl | (exfalso; rename_i h; cases h)
  rintro c rfl
  refine sq_next (exb_cons (ex_cut (fun c => Inv (∃ b, look "p" c.loc = some (.int p) ∧ look "q" c.loc = some (.int q) ∧ look "mug" c.loc = some .own ∧ c.own = some (b, [.int (6 : Nat), avI M]) ∧ c.cel = [("n", .int N), ("w", .int w)])) (ex_forT ok ?_) ?_))
  · have gn : look "n" c.cel = some (.int N) := by rw [g5]; rfl
    repeat' (first | ((fail_if_success (fail_if_success (with_reducible show Ev _ (Expr.Name _ _) _ _))); refine ev_cell (by assumption) (by walk_at "lk") ?_) | ((with_reducible show Ev _ (Expr.Constant (Const.int _) _ _) _ _); refine ev_int ?_) | ((fail_if_success (fail_if_success (with_reducible show Ev _ (Expr.BinOp _ Operator.Mult _ _) _ _))); refine ev_mul ?_) | ((with_reducible show Ev _ (Expr.Call (Expr.Name (Str.ofString "_law_poured") _) _ _ _) _ _); refine ev_pour (by assumption) (by rfl) (by rfl) (by walk_at "lk") ?_) | ((fail_if_success (fail_if_success (with_reducible show Ev _ (Expr.Tuple _ _ _) _ _))); refine ev_tuple ?_) | ((fail_if_success (fail_if_success (with_reducible show EvL _ _ _ _ _))); refine evl_cons ?_) | ((with_reducible show Exists _); with_reducible refine ⟨_, _, rfl, rfl, ?_⟩) | ((with_reducible show _ ∧ _); refine And.intro ?_ ?_) | ((with_reducible show _ ∨ _); first | (refine Or.inl ?_; walk_at "o") | omega))
    rw [show (3 : Int) * N = ((3 * N : Nat) : Int) by omega]
    refine ⟨_, _, 1, _, _, g4, Nat.le_of_ble_eq_true rfl, poured_ok M 4 (3 * N) (by walk_at "o") (by decide) hMl, fun b4 => ?_⟩
    obtain ⟨x4, y4⟩ := poured_lt (l := M) (k := 4) (many := 3 * N) (by walk_at "o")
    repeat' (first | ((fail_if_success (fail_if_success (with_reducible show Ev _ (Expr.Name _ _) _ _))); refine ev_loc (by assumption) (by walk_at "lk") (by rfl) ?_) | ((with_reducible show Ev _ (Expr.Constant (Const.int _) _ _) _ _); refine ev_int ?_) | ((fail_if_success (fail_if_success (with_reducible show Ev _ (Expr.BinOp _ Operator.Add _ _) _ _))); refine ev_add ?_) | ((fail_if_success (fail_if_success (with_reducible show Ev _ (Expr.BinOp _ Operator.Mult _ _) _ _))); refine ev_mul ?_) | ((with_reducible show Ev _ (Expr.Call (Expr.Name (Str.ofString "_law_poured") _) _ _ _) _ _); refine ev_pour (by assumption) (by rfl) (by rfl) (by walk_at "lk") ?_) | ((fail_if_success (fail_if_success (with_reducible show EvL _ _ _ _ _))); refine evl_cons ?_))
    refine ⟨_, _, 1, _, _, rfl, Nat.le_of_ble_eq_true rfl, poured_ok M (4 + 1) 2 (by decide) (by decide) hMl, fun b5 => ?_⟩
    obtain ⟨x5, y5⟩ := poured_lt (l := M) (k := 4 + 1) (many := 2) (by decide)
    obtain ⟨j0, hj0, hj0e⟩ : ∃ j : Nat, j < 3 * N + 3 ∧ poured M 4 (3 * N) = j := ⟨(poured M 4 (3 * N)).toNat, by walk_at "o", by walk_at "o"⟩
    obtain ⟨j1, hj1, hj1e⟩ : ∃ j : Nat, j < 3 * N + 3 ∧ (r : Int) * (1 + poured M (4 + 1) 2) = j := by
      rcases (show poured M (4 + 1) 2 = 0 ∨ poured M (4 + 1) 2 = 1 by omega) with e | e
      · exact ⟨r, by walk_at "o", by rw [e]; omega⟩
      · exact ⟨2 * r, by walk_at "o", by rw [e]; omega⟩
    rw [hj0e]
    repeat' (first | ((fail_if_success (fail_if_success (with_reducible show EvL _ _ _ _ _))); refine evl_nil ?_) | ((with_reducible show Exists _); with_reducible refine ⟨_, _, rfl, rfl, ?_⟩) | ((with_reducible show Exists _); with_reducible refine ⟨_, rfl, ?_⟩) | ((with_reducible show _ ∧ _); refine And.intro ?_ ?_) | ((with_reducible show _ ≤ _); first | walk_at "o" | (rw [List.length_map]; omega) | (simp only [List.length_cons, List.length_nil]; omega)) | ((with_reducible show _ ∨ _); first | (refine Or.inl ?_; walk_at "o") | omega))
    refine ⟨fun _ c => Inv (look "first_at" c.loc = some (.int r) ∧ look "row" c.loc = some (avI (lim w N)) ∧ look "p" c.loc = some (.int p) ∧ look "q" c.loc = some (.int q) ∧ look "mug" c.loc = some .own ∧ c.own = some (b5, [.int (6 : Nat), avI M]) ∧ c.cel = [("n", .int N), ("w", .int w)]), ⟨by walk_at "lk", by walk_at "lk", by walk_at "lk", by walk_at "lk", by walk_at "lk", rfl, g5⟩, ?_, ?_⟩
    · rintro i v c hv hI; (first | refine an7 hI fun g9 g6 g1 g2 g3 g4 g5 => ?_ | refine an7 hI.out fun g9 g6 g1 g2 g3 g4 g5 => ?_); clear hI
      have gn : look "n" c.cel = some (.int N) := by rw [g5]; rfl
      have gw : look "w" c.cel = some (.int w) := by rw [g5]; rfl
      obtain ⟨j, hj, e⟩ : ∃ j : Nat, j < 3 * N + 3 ∧ v = .int j := by
        rcases i with _ | _ | i
        · exact ⟨j0, hj0, (Option.some.inj hv).symm⟩
        · exact ⟨j1, hj1, by rw [← hj1e]; exact (Option.some.inj hv).symm⟩
        · cases hv
      subst e
      repeat' (first | ((fail_if_success (fail_if_success (with_reducible show Ev _ (Expr.Name _ _) _ _))); refine ev_loc (by assumption) (by walk_at "lk") (by rfl) ?_) | ((fail_if_success (fail_if_success (with_reducible show Ev _ (Expr.Name _ _) _ _))); refine ev_global (by assumption) (by rfl) ?_) | ((fail_if_success (fail_if_success (with_reducible show Ev _ (Expr.Name _ _) _ _))); refine ev_cell (by assumption) (by walk_at "lk") ?_) | ((fail_if_success (fail_if_success (with_reducible show Ev _ (Expr.Call (Expr.Name _ _) _ _ _) _ _))); refine ev_call (by assumption) ?_) | ((fail_if_success (fail_if_success (with_reducible show ExB _ _ _ _))); with_reducible refine exb_cons ?_) | ((fail_if_success (fail_if_success (with_reducible show EvL _ _ _ _ _))); refine evl_cons ?_) | ((fail_if_success (fail_if_success (with_reducible show EvL _ _ _ _ _))); refine evl_nil ?_) | ((with_reducible show Ex _ (Stmt.Assign [Expr.Name _ _] _ _) _ _); refine ex_assign (by assumption) ?_) | ((with_reducible show ∃ a, _ = AV.fn a ∧ _ ∧ _); refine ⟨_, rfl, by rfl, ?_⟩))
      refine ⟨1, _, Nat.le_of_ble_eq_true rfl, law_limbs_ok (by walk_at "o") (by walk_at "o") j (Nat.lt_trans (show j < 100 by omega) (by decide)), ?_⟩
      repeat' (first | ((fail_if_success (fail_if_success (with_reducible show Ev _ (Expr.Name _ _) _ _))); refine ev_loc (by assumption) (by walk_at "lk") (by rfl) ?_) | ((fail_if_success (fail_if_success (with_reducible show Ev _ (Expr.Name _ _) _ _))); refine ev_global (by assumption) (by rfl) ?_) | ((fail_if_success (fail_if_success (with_reducible show Ev _ (Expr.Name _ _) _ _))); refine ev_cell (by assumption) (by walk_at "lk") ?_) | ((fail_if_success (fail_if_success (with_reducible show EvL _ _ _ _ _))); refine evl_cons ?_) | ((fail_if_success (fail_if_success (with_reducible show EvL _ _ _ _ _))); refine evl_nil ?_))
      refine ⟨7, _, Nat.le_of_ble_eq_true rfl, lucas_rests_ok hw (by walk_at "o") p q j N hp hq (by walk_at "o") hN3 hodd (by walk_at "o"), ?_⟩
      obtain ⟨X, Y, e⟩ := lres_um (w := w) (p := p) (q := q) j hN3 hodd
      rw [e]
      have e2 : lim w (um N (p % N).toNat (q % N).toNat j) = [] ↔ (j : Int) % r = 0 := by
        rw [lim_nil_iff (w := w) (by walk_at "o"), r7 j hj]; omega
      have e4 : (decide (lim w (um N (p % N).toNat (q % N).toNat j) = []) != decide ((j : Int) % r = 0)) = false := by simp [e2]
      repeat' (first | ((fail_if_success (fail_if_success (with_reducible show Ev _ (Expr.Name _ _) _ _))); refine ev_loc (by assumption) (by walk_at "lk") (by rfl) ?_) | ((with_reducible show Ev _ (Expr.Constant (Const.int _) _ _) _ _); refine ev_int ?_) | ((with_reducible show Ev _ (Expr.Constant (Const.bool _) _ _) _ _); refine ev_boolC ?_) | ((fail_if_success (fail_if_success (with_reducible show Ev _ (Expr.BinOp _ Operator.Mod _ _) _ _))); refine ev_mod ?_) | ((fail_if_success (fail_if_success (with_reducible show Ev _ (Expr.Subscript (Expr.Name _ _) _ _) _ _))); refine ev_sel ?_) | ((fail_if_success (fail_if_success (with_reducible show Ev _ (Expr.List _ _) _ _))); refine ev_list ?_) | ((fail_if_success (fail_if_success (with_reducible show Ev _ (Expr.Compare _ [CmpOp.Eq] _ _) _ _))); refine ev_eq (by assumption) ?_) | ((fail_if_success (fail_if_success (with_reducible show ExB _ _ _ _))); with_reducible refine exb_cons ?_) | ((fail_if_success (fail_if_success (with_reducible show ExB _ _ _ _))); refine exb_nil ?_) | ((fail_if_success (fail_if_success (with_reducible show EvL _ _ _ _ _))); refine evl_nil ?_) | ((fail_if_success (fail_if_success (with_reducible show Tr _ (Expr.Compare _ [CmpOp.NotEq] _ _) _ _))); refine tr_ne (by assumption) ?_) | ((with_reducible show Ex _ (Stmt.If _ _ _ _) _ _); refine ex_if ?_) | ((with_reducible show Ex _ (Stmt.Return _ _) _ _); refine ex_return ?_) | ((with_reducible show Exists _); with_reducible refine ⟨_, _, rfl, rfl, ?_⟩) | ((with_reducible show Exists _); with_reducible refine ⟨_, _, rfl, item_t0, ?_⟩) | ((with_reducible show Exists _); with_reducible refine ⟨_, eqr_int, ?_⟩) | ((with_reducible show Exists _); with_reducible refine ⟨_, eqr_list0, ?_⟩) | ((with_reducible show Exists _); with_reducible refine ⟨_, ner_bool, ?_⟩) | ((with_reducible show _ ∧ _); refine And.intro ?_ ?_) | ((with_reducible show _ ≤ _); first | walk_at "o" | (rw [List.length_map]; omega) | (simp only [List.length_cons, List.length_nil]; omega)) | ((with_reducible show _ < _); first | walk_at "o" | (rw [List.length_map]; omega)) | ((fail_if_success (fail_if_success (with_reducible show ite _ _ _))); with_reducible (refine if_bool ?_ ?_ <;> intro _)) | (with_reducible refine sq_next ?_) | (with_reducible refine sq_ret ?_) | (with_reducible refine lq_next ?_) | (with_reducible refine lq_ret ?_))
      · rename_i h; rw [e4] at h; cases h
      · rename_i h; rw [e4] at h; cases h
      · exact ⟨by walk_at "lk", by walk_at "lk", by walk_at "lk", by walk_at "lk", by walk_at "lk", g4, g5⟩
    · rintro c hI; (first | refine an7 hI fun g9 g6 g1 g2 g3 g4 g5 => ?_ | refine an7 hI.out fun g9 g6 g1 g2 g3 g4 g5 => ?_); clear hI
      exact ⟨rfl, b5, g1, g2, g3, g4, g5⟩
  rintro c hI; (first | refine ex1 hI fun b hI => ?_ | refine ex1 hI.out fun b hI => ?_); refine an5 hI fun g1 g2 g3 g4 g5 => ?_; clear hI
  refine sq_next (exb_cons (ex_cut (fun c => Inv (look "signs" c.loc = some (.list [sg w p, sg w q]) ∧ look "mug" c.loc = some .own ∧ c.own = some (b, [.int (6 : Nat), avI M]) ∧ c.cel = [("n", .int N), ("w", .int w)])) ?_ ?_))
  · refine ex_assignC (x := "number") (cl := [(Str.ofString "w", L + 1 + 1)]) (cels := [("w", .int w)]) ok (by rfl) (by decide) rfl (by decide) (by rfl) (it_tup ok ?_)
    iterate 7 (first | ((fail_if_success (fail_if_success (with_reducible show Ev _ (Expr.Name _ _) _ _))); refine ev_loc (by assumption) (by walk_at "lk") (by rfl) ?_) | ((fail_if_success (fail_if_success (with_reducible show Ev _ (Expr.Tuple _ _ _) _ _))); refine ev_tuple ?_) | ((fail_if_success (fail_if_success (with_reducible show EvL _ _ _ _ _))); refine evl_cons ?_) | ((fail_if_success (fail_if_success (with_reducible show EvL _ _ _ _ _))); refine evl_nil ?_) | ((with_reducible show _ ∧ _); refine And.intro ?_ ?_))
    · exact Nat.le_of_ble_eq_true rfl
    refine ⟨_, rfl, [sg w p, sg w q], rfl, Nat.le_of_ble_eq_true rfl, fun y v e => ?_, fun i v y C hv hy okc => ?_, ?_⟩
    · have e2 : (if y = "w" then some (AV.int w) else none) = some v := e
      clear e
      split at e2
      · rename_i z; subst z; exact ⟨by rw [g5, ← e2]; rfl, by rfl⟩
      · cases e2
    · obtain ⟨z, hz, e1, e2⟩ : ∃ z : Int, z.natAbs ≤ 9 ∧ v = .int z ∧ y = sg w z := by
        rcases i with _ | _ | i
        · exact ⟨p, hp, (Option.some.inj hv).symm, (Option.some.inj hy).symm⟩
        · exact ⟨q, hq, (Option.some.inj hv).symm, (Option.some.inj hy).symm⟩
        · cases hv
      subst e1 e2
      repeat' (first | ((fail_if_success (fail_if_success (with_reducible show Ev _ (Expr.Name _ _) _ _))); refine ev_loc (by assumption) (by walk_at "lk") (by rfl) ?_) | ((fail_if_success (fail_if_success (with_reducible show Ev _ (Expr.Name _ _) _ _))); refine ev_global (by assumption) (by rfl) ?_) | ((fail_if_success (fail_if_success (with_reducible show Ev _ (Expr.Name _ _) _ _))); refine ev_cell (by assumption) (by walk_at "lk") ?_) | ((with_reducible show Ev _ (Expr.Constant (Const.int _) _ _) _ _); refine ev_int ?_) | ((with_reducible show Ev _ (Expr.Call (Expr.Name (Str.ofString "abs") _) _ _ _) _ _); refine ev_bcall (id := "abs") (by assumption) (by rfl) (by boot_by_name) (by decide) ?_) | ((fail_if_success (fail_if_success (with_reducible show Ev _ (Expr.Call (Expr.Name _ _) _ _ _) _ _))); refine ev_call (by assumption) ?_) | ((fail_if_success (fail_if_success (with_reducible show Ev _ (Expr.Tuple _ _ _) _ _))); refine ev_tuple ?_) | ((fail_if_success (fail_if_success (with_reducible show Ev _ (Expr.Compare _ [CmpOp.Lt] _ _) _ _))); refine ev_lt ?_) | ((fail_if_success (fail_if_success (with_reducible show EvL _ _ _ _ _))); refine evl_cons ?_) | ((fail_if_success (fail_if_success (with_reducible show EvL _ _ _ _ _))); refine evl_nil ?_) | ((with_reducible show ∃ a, _ = AV.fn a ∧ _ ∧ _); refine ⟨_, rfl, by rfl, ?_⟩) | ((with_reducible show Exists _); with_reducible refine ⟨_, _, rfl, rfl, ?_⟩) | ((with_reducible show Exists _); with_reducible refine ⟨_, bi_abs, ?_⟩))
      refine ⟨1, _, Nat.le_of_ble_eq_true rfl, law_limbs_ok (by walk_at "o") (by walk_at "o") z.natAbs (Nat.lt_of_le_of_lt hz (by decide)), ?_⟩
      repeat' (first | ((fail_if_success (fail_if_success (with_reducible show EvL _ _ _ _ _))); refine evl_nil ?_) | ((with_reducible show _ ∧ _); refine And.intro ?_ ?_) | ((with_reducible show _ ≤ _); first | walk_at "o" | (rw [List.length_map]; omega) | (simp only [List.length_cons, List.length_nil]; omega)))
      rfl
    · exact ⟨rfl, by walk_at "lk", by walk_at "lk", g4, g5⟩
  rintro c hI; (first | refine an4 hI fun g1 g3 g4 g5 => ?_ | refine an4 hI.out fun g1 g3 g4 g5 => ?_); clear hI
  refine sq_next (exb_cons (ex_cut (fun c => Inv (look "whole" c.loc = some (avI ((List.range 17).map (lu p q))) ∧ look "mug" c.loc = some .own ∧ c.own = some (b, [.int (6 : Nat), avI M]) ∧ c.cel = [("n", .int N), ("w", .int w)])) ?_ ?_))
  · have gw : look "w" c.cel = some (.int w) := by rw [g5]; rfl
    refine ex_assignC (x := "x") (cl := [(Str.ofString "w", L + 1 + 1)]) (cels := [("w", .int w)]) ok (by rfl) (by decide) rfl (by decide) (by rfl) (it_list ok ?_)
    repeat' (first | ((fail_if_success (fail_if_success (with_reducible show Ev _ (Expr.Name _ _) _ _))); refine ev_loc (by assumption) (by walk_at "lk") (by rfl) ?_) | ((fail_if_success (fail_if_success (with_reducible show Ev _ (Expr.Name _ _) _ _))); refine ev_global (by assumption) (by rfl) ?_) | ((with_reducible show Ev _ (Expr.Constant (Const.int _) _ _) _ _); refine ev_int ?_) | ((fail_if_success (fail_if_success (with_reducible show Ev _ (Expr.Subscript (Expr.Name _ _) _ _) _ _))); refine ev_sel ?_) | ((fail_if_success (fail_if_success (with_reducible show Ev _ (Expr.Call (Expr.Name _ _) _ _ _) _ _))); refine ev_call (by assumption) ?_) | ((fail_if_success (fail_if_success (with_reducible show EvL _ _ _ _ _))); refine evl_cons ?_) | ((with_reducible show ∃ a, _ = AV.fn a ∧ _ ∧ _); refine ⟨_, rfl, by rfl, ?_⟩))
    refine ⟨_, _, rfl, .inl ⟨_, rfl, by decide, by decide, rfl⟩, ?_⟩
    repeat' (first | ((fail_if_success (fail_if_success (with_reducible show Ev _ (Expr.Name _ _) _ _))); refine ev_loc (by assumption) (by walk_at "lk") (by rfl) ?_) | ((with_reducible show Ev _ (Expr.Constant (Const.int _) _ _) _ _); refine ev_int ?_) | ((fail_if_success (fail_if_success (with_reducible show Ev _ (Expr.Subscript (Expr.Name _ _) _ _) _ _))); refine ev_sel ?_) | ((fail_if_success (fail_if_success (with_reducible show EvL _ _ _ _ _))); refine evl_cons ?_))
    refine ⟨_, _, rfl, .inl ⟨_, rfl, by decide, by decide, rfl⟩, ?_⟩
    repeat' (first | ((fail_if_success (fail_if_success (with_reducible show Ev _ (Expr.Name _ _) _ _))); refine ev_global (by assumption) (by rfl) ?_) | ((fail_if_success (fail_if_success (with_reducible show Ev _ (Expr.Name _ _) _ _))); refine ev_cell (by assumption) (by walk_at "lk") ?_) | ((fail_if_success (fail_if_success (with_reducible show EvL _ _ _ _ _))); refine evl_cons ?_) | ((fail_if_success (fail_if_success (with_reducible show EvL _ _ _ _ _))); refine evl_nil ?_))
    refine ⟨5, _, Nat.le_of_ble_eq_true rfl, lucas_steps_ok (by walk_at "o") (by walk_at "o") 17 p q (by decide) hp hq, ?_⟩
    refine ⟨_, rfl, (List.range 17).map fun i => .int (lu p q i), rfl, Nat.le_of_ble_eq_true rfl, fun y v e => ?_, fun i v y C hv hy okc => ?_, ?_⟩
    · have e2 : (if y = "w" then some (AV.int w) else none) = some v := e
      clear e
      split at e2
      · rename_i z; subst z; exact ⟨by rw [g5, ← e2]; rfl, by rfl⟩
      · cases e2
    · have hi : i < 17 := by
        rcases Nat.lt_or_ge i 17 with h | h
        · exact h
        · rw [List.getElem?_eq_none (by simpa using h)] at hv; cases hv
      rw [List.getElem?_map, List.getElem?_range hi] at hv hy
      have e1 : v = sg w (lu p q i) := (Option.some.inj hv).symm
      have e2 : y = .int (lu p q i) := (Option.some.inj hy).symm
      subst e1 e2
      repeat' (first | ((fail_if_success (fail_if_success (with_reducible show Ev _ (Expr.Name _ _) _ _))); refine ev_loc (by assumption) (by walk_at "lk") (by rfl) ?_) | ((fail_if_success (fail_if_success (with_reducible show Ev _ (Expr.Name _ _) _ _))); refine ev_global (by assumption) (by rfl) ?_) | ((fail_if_success (fail_if_success (with_reducible show Ev _ (Expr.Name _ _) _ _))); refine ev_cell (by assumption) (by walk_at "lk") ?_) | ((fail_if_success (fail_if_success (with_reducible show Ev _ (Expr.Call (Expr.Name _ _) _ _ _) _ _))); refine ev_call (by assumption) ?_) | ((fail_if_success (fail_if_success (with_reducible show EvL _ _ _ _ _))); refine evl_cons ?_) | ((fail_if_success (fail_if_success (with_reducible show EvL _ _ _ _ _))); refine evl_nil ?_) | ((with_reducible show ∃ a, _ = AV.fn a ∧ _ ∧ _); refine ⟨_, rfl, by rfl, ?_⟩))
      refine ⟨1, _, Nat.le_of_ble_eq_true rfl, law_plain_ok (by walk_at "o") (by walk_at "o") (lu p q i) (lu_small hp hq (by walk_at "o")), ?_⟩
      repeat' fail
      rfl
    · exact ⟨rfl, lk_to (by walk_at "lk") (by simp only [avI, List.map_map]; rfl), by walk_at "lk", g4, g5⟩
  rintro c hI; (first | refine an4 hI fun g1 g3 g4 g5 => ?_ | refine an4 hI.out fun g1 g3 g4 g5 => ?_); clear hI
  refine sq_next (exb_cons (ex_cut (fun c => Inv (∃ t : Nat, t < 8 ∧ look "at" c.loc = some (.int (1 + t)) ∧ look "whole" c.loc = some (avI ((List.range 17).map (lu p q))))) ?_ ?_))
  · repeat' (first | ((with_reducible show Ev _ (Expr.Constant (Const.int _) _ _) _ _); refine ev_int ?_) | ((fail_if_success (fail_if_success (with_reducible show Ev _ (Expr.BinOp _ Operator.Add _ _) _ _))); refine ev_add ?_) | ((with_reducible show Ev _ (Expr.Call (Expr.Name (Str.ofString "_law_poured") _) _ _ _) _ _); refine ev_pour (by assumption) (by rfl) (by rfl) (by walk_at "lk") ?_) | ((with_reducible show Ex _ (Stmt.Assign [Expr.Name _ _] _ _) _ _); refine ex_assign (by assumption) ?_))
    refine ⟨_, _, 1, _, _, g4, Nat.le_of_ble_eq_true rfl, poured_ok M 6 8 (by decide) (by decide) hMl, fun b6 => ?_⟩
    obtain ⟨x6, y6⟩ := poured_lt (l := M) (k := 6) (many := 8) (by decide)
    repeat' (first | ((with_reducible show Exists _); with_reducible refine ⟨_, _, rfl, rfl, ?_⟩) | ((with_reducible show _ ∧ _); refine And.intro ?_ ?_) | ((with_reducible show Fl.next = Fl.next); rfl))
    exact ⟨(poured M 6 8).toNat, by walk_at "o", lk_int (by walk_at "lk") (by walk_at "o"), by walk_at "lk"⟩
  rintro c hI; (first | refine ex1 hI fun t hI => ?_ | refine ex1 hI.out fun t hI => ?_); refine an3 hI fun ht g1 g2 => ?_; clear hI
  refine sq_next (exb_cons (ex_for ok (it_range ok (by rfl) (by boot_by_name) (by decide) ?_)))
  refine evl_cons (ev_int (evl_cons (ev_int (evl_cons (ev_loc ok g1 (by rfl) (evl_nil ?_))))))
  refine ⟨0, 17, 1 + t, (17 + t) / (t + 1), .inr (.inr ⟨rfl, by walk_at "o", by walk_at "o"⟩), (range17 t ht).1, (range17 t ht).2, fun _ c => Inv (look "at" c.loc = some (.int (1 + t)) ∧ look "whole" c.loc = some (avI ((List.range 17).map (lu p q)))), ⟨g1, g2⟩, ?_, ?_⟩
  · intro i v c hv hI; (first | refine an2 hI fun g1 g2 => ?_ | refine an2 hI.out fun g1 g2 => ?_); clear hI
    obtain ⟨hi, rfl⟩ := rangeL_get hv
    have hj := range17_in hi
    have hdv := lu_dvd p q (t + 1) i
    rw [show (0 : Int) + i * (1 + t) = (((t + 1) * i : Nat) : Int) by rw [Int.natCast_mul, Int.natCast_add, Int.zero_add, Int.mul_comm, Int.add_comm]; rfl]
    rw [show (1 : Int) + t = ((t + 1 : Nat) : Int) by omega] at g1 ⊢
    have hk : t + 1 < 17 := by omega
    clear hv hi
    generalize (t + 1) * i = j at *
    generalize t + 1 = k at *
    have hgj : ((List.range 17).map (lu p q)).getD (((j : Nat) : Int)).toNat 0 = lu p q j := whole_get hj
    have hgk : ((List.range 17).map (lu p q)).getD (((k : Nat) : Int)).toNat 0 = lu p q k := whole_get hk
    have hlen : ((List.range 17).map (lu p q)).length = 17 := by rw [List.length_map, List.length_range]
    generalize (List.range 17).map (lu p q) = l at *
    generalize lu p q j = uj at *
    generalize lu p q k = uk at *
    have no1 : uk ≠ 0 → ¬ uj.fmod uk = 0 → False := fun _ h => h (Int.fmod_eq_zero_of_dvd hdv)
    have no2 : uk = 0 → ¬ uj = 0 → False := fun h1 h2 => h2 (by rw [h1] at hdv; exact Int.zero_dvd.mp hdv)
    refine exb_cons (ex_if ?_)
    repeat' first | ((with_reducible show Ev _ (Expr.BinOp _ Operator.Mod _ _) _ _); refine ev_modF ?_) | (first | ((fail_if_success (fail_if_success (with_reducible show Ev _ (Expr.Name _ _) _ _))); refine ev_loc (by assumption) (by walk_at "lk") (by rfl) ?_) | ((with_reducible show Ev _ (Expr.Constant (Const.int _) _ _) _ _); refine ev_int ?_) | ((with_reducible show Ev _ (Expr.Constant (Const.bool _) _ _) _ _); refine ev_boolC ?_) | ((fail_if_success (fail_if_success (with_reducible show Ev _ (Expr.Subscript (Expr.Name _ _) _ _) _ _))); refine ev_sel ?_) | ((fail_if_success (fail_if_success (with_reducible show ExB _ _ _ _))); with_reducible refine exb_cons ?_) | ((fail_if_success (fail_if_success (with_reducible show ExB _ _ _ _))); refine exb_nil ?_) | ((fail_if_success (fail_if_success (with_reducible show TrAll _ _ _ _ _))); refine trAll_and ?_) | ((fail_if_success (fail_if_success (with_reducible show TrAll _ _ _ _ _))); refine trAll_or ?_) | ((fail_if_success (fail_if_success (with_reducible show TrAll _ _ _ _ _))); refine trAll_nilA ?_) | ((fail_if_success (fail_if_success (with_reducible show TrAll _ _ _ _ _))); refine trAll_nilO ?_) | ((fail_if_success (fail_if_success (with_reducible show Tr _ (Expr.Compare _ [CmpOp.Eq] _ _) _ _))); refine tr_eq (by assumption) ?_) | ((fail_if_success (fail_if_success (with_reducible show Tr _ (Expr.Compare _ [CmpOp.NotEq] _ _) _ _))); refine tr_ne (by assumption) ?_) | ((fail_if_success (fail_if_success (with_reducible show Tr _ (Expr.BoolOp _ _ _) _ _))); refine tr_bool ?_) | ((with_reducible show Ex _ (Stmt.Return _ _) _ _); refine ex_return ?_) | ((with_reducible show Exists _); with_reducible refine ⟨_, _, rfl, rfl, ?_⟩) | ((with_reducible show Exists _); with_reducible refine ⟨_, _, rfl, item_int ?_ ?_ ?_, ?_⟩) | ((with_reducible show Exists _); with_reducible refine ⟨_, eqr_int, ?_⟩) | ((with_reducible show Exists _); with_reducible refine ⟨_, ner_int, ?_⟩) | ((with_reducible show _ ∧ _); refine And.intro ?_ ?_) | ((with_reducible show _ ≤ _); first | walk_at "o" | (rw [List.length_map]; omega) | (simp only [List.length_cons, List.length_nil]; omega)) | ((with_reducible show _ < _); first | walk_at "o" | (rw [List.length_map]; omega)) | ((fail_if_success (fail_if_success (with_reducible show ite _ _ _))); with_reducible refine if_tt ?_) | ((fail_if_success (fail_if_success (with_reducible show ite _ _ _))); with_reducible refine if_ff ?_) | ((fail_if_success (fail_if_success (with_reducible show ite _ _ _))); with_reducible (refine if_dec ?_ ?_ <;> intro _)) | ((fail_if_success (fail_if_success (with_reducible show ite _ _ _))); with_reducible (refine if_ndec ?_ ?_ <;> intro _)) | (with_reducible refine sq_next ?_) | (with_reducible refine sq_ret ?_) | (with_reducible refine lq_next ?_) | (with_reducible refine lq_ret ?_) | (with_reducible refine ret_is ?_))
    · assumption
    · rename_i h1 h2; rw [hgk] at h1 h2; rw [hgj] at h2; exact (no1 h1 h2).elim
    · rename_i h1 _ h2 _; exact (h1 h2).elim
    · exact ⟨by walk_at "lk", by walk_at "lk"⟩
    · exact ⟨by walk_at "lk", by walk_at "lk"⟩
    · rename_i h1 _ h2; rw [hgk] at h1; rw [hgj] at h2; exact (no2 h1 h2).elim
    · exact ⟨by walk_at "lk", by walk_at "lk"⟩
    · exact ⟨by walk_at "lk", by walk_at "lk"⟩
  · intro c hI; (first | refine an2 hI fun g1 g2 => ?_ | refine an2 hI.out fun g1 g2 => ?_); clear hI
    repeat' (first | ((with_reducible show Ev _ (Expr.Constant (Const.bool _) _ _) _ _); refine ev_boolC ?_) | ((fail_if_success (fail_if_success (with_reducible show ExB _ _ _ _))); with_reducible refine exb_cons ?_) | ((with_reducible show Ex _ (Stmt.Return _ _) _ _); refine ex_return ?_) | (with_reducible refine sq_next ?_) | (with_reducible refine sq_ret ?_) | (with_reducible refine ret_is ?_))
    rfl
end
section
theorem reps_of_ints {C : Addr} {F : Fz} : ∀ {vs : List Value} {l : List Int}, IntsAre vs l → Reps C F vs (l.map .int)
  | _, _, .nil => .nil
  | _, _, .cons _ _ h => .cons .int (reps_of_ints h)
theorem law_at {W : World} {mean : ExcName → Option Value} {mg mb : Str → Option Value} {script : List Int} (hs : script.length ≤ 63)
    {name qual : Str} {params : Arguments} {body : List Stmt} {scope : Scope} {dV kV doc pm cdv ct oc : Value} {an od : Option Addr} {osl : Array (Option Value)}
    (hlk : (GG W mean mg mb).K.lookup 355 = some ⟨oc, od, .func (fnOf name qual params body scope dV kV doc pm an cdv ct), osl⟩) (hk : scope.kind = .function)
    {A : Around} (hh : A.handled = none) (hdp : A.depth + 10 < recursionLimit) (hu : A.units + 200 < cLine)
    {H : Heap} {s : Shared} {m : Str → Option Value} {la : Addr} {vs : List Value} {o1 o2 : Obj}
    (KX : (hd.heap_1 W.params).In H) (T : Top view (looseW view []) mean mg mb H) (F : Fr H H.objs.size s.heap m) (hm : m (Str.ofString "script") = some (.ref la))
    (hL : H.IsList la vs.toArray) (hI : IntsAre vs script) (N : News H H.objs.size s.heap [(H.objs.size + 1 + 1, o1), (H.objs.size + 1, o2)]) (d1 : o1.data = .cell none) (d2 : o2.data = .cell none) :
    Wp ⟨GG W mean mg mb, A, qual, scope, H.objs.size, some 355, cdv, [(Str.ofString "w", H.objs.size + 1 + 1), (Str.ofString "n", H.objs.size + 1)], H, 10, some H.objs.size⟩
      (execs body (Pl.env ⟨GG W mean mg mb, A, qual, scope, H.objs.size, some 355, cdv, [(Str.ofString "w", H.objs.size + 1 + 1), (Str.ofString "n", H.objs.size + 1)], H, 10, some H.objs.size⟩))
      (fun fl s' => fl = .ret (.bool true) ∧ (∀ b o, H.get? b = some o → s'.heap.get? b = some o) ∧ s'.os = s.os ∧ s'.gens = s.gens) s := by
  refine ex1 hL fun lo hL => an3 hL fun hlo hlc hld => ?_; clear hL
  have hla : la < H.objs.size := Heap.lt_size hlo
  have c1 := N _ (List.mem_cons_self)
  have c2 := N _ (List.mem_cons_of_mem _ List.mem_cons_self)
  have nu : ∀ a, a ≠ la → upd (fun _ => none) la lo a = none := fun a n => by unfold upd; rw [if_neg n]
  refine wpAny_mono ((law_run script hs).run hlk A H H.objs.size s (upd (fun _ => none) la lo) ⟨hk, hh, hdp, hu⟩ ⟨⟨KX, T⟩, ⟨m, F, fun x v e => ?_⟩, fun _ _ e => by simp [look] at e, fun a o e => ?_, nu _ (Nat.ne_of_gt hla), .inl ⟨rfl, rfl⟩⟩
    ⟨o2, c2.1, d2⟩ ⟨o1, c1.1, d1⟩ c2.2.2 c1.2.2 (nu _ (Nat.ne_of_gt (Nat.lt_succ_of_lt hla))) (nu _ (Nat.ne_of_gt (Nat.lt_succ_of_lt (Nat.lt_succ_of_lt hla))))) (fun fl s' p => ?_) fun _ _ e => e
  · have e2 : (if x = "script" then some (avI script) else none) = some v := e
    clear e
    split at e2
    · rename_i z; subst z
      exact ⟨_, hm, .inr (Option.some.inj e2 ▸ .list ⟨lo, by unfold upd; rw [if_pos rfl], hlc, hld⟩ (reps_of_ints hI))⟩
    · cases e2
  · unfold upd at e
    split at e
    · rename_i z; subst z; cases e; exact F.keep _ _ hlo
    · cases e
  · refine an2 p fun e1 p => ex2 p fun h' tk' p => an2 p fun e kp => ?_; subst e
    exact ⟨e1, kp, rfl, rfl⟩
end
section
theorem len63 {n : Nat} (h : ¬ ((63 : Nat) : Int) < (n : Int)) : n ≤ 63 := by omega
theorem cd_of {K : Frag} {h : Heap} {f : Addr} {o : Obj} {fd fd' : FuncData} {oc : Value} {od : Option Addr} {osl : Array (Option Value)} (X : K.In h) (e : K.lookup f = some ⟨oc, od, .func fd', osl⟩) (ho : h.get? f = some o) (hd : o.data = .func fd) : fd.code = fd'.code := by
  have e2 := X _ _ e
  rw [ho] at e2
  cases e2
  cases hd
  rfl
theorem dp_ok : callerA.depth + 1 + 10 < recursionLimit := by decide
theorem un_ok : callerA.units + 3 + 200 < cLine := by decide
theorem post_ok (a d : List WData) : (PySem.Challenge.rw_sa0346_01.row).toRowW.claim.post a (.bool true) d = true := by kernel_rfl
end
end Mine
open Mine
set_option maxHeartbeats 8000000 in
theorem PySem.Challenge.cw_sa0346_01_holds : PySem.Challenge.rw_sa0346_01.Holds := by
  refine Mine.hd ?_
  intro w s₀ s₁ mg mb G Y fa o pm cd doc dV kV ho hd hcd hD hmg hg args vals as hpre hlay hrd hwl hlo
  have KX := kIn_of Y
  have hfa : fa = 355 := by
    have e := hmg
    rw [mg_of KX G.T.g (n := Str.ofString "law") (v := .ref 355) (by kernel_rfl)] at e
    cases e; rfl
  subst hfa
  have hcdE : cd = .ref 354 := (cd_of KX (by exact rfl) ho hd).trans rfl
  have X := (Ground.X G).1
  have V := (Ground.X G).2
  refine Ground.open G ?_
  intro T B D TE TW
  clear D
  obtain ⟨_, _, M⟩ := bmod_of_top T
  have TA := at_of_top T
  obtain ⟨_, _, he, B0⟩ := based_of_top T rfl hmg ho hd
  have he' : cd = _ := he
  subst he'
  clear he hmg
  wrow_args hpre hlay hrd hwl hlo
  first | refine callC_kw (enter_call ?_) | refine enter_call ?_ | refine callC_kw (enter_callW ?_) | refine enter_callW ?_
  w_top on
  try refine codeAny_mono ?_ (fun _ _ g => GoodW.toG g)
  have K0 := below_caller (Top.heap T)
  w_call any ho hd hcd hD T F
  clear hd TA
  k_drop
  rename_i o1 o2 d1 d2 N0 X0
  cases hcdE
  refine wpAny_mono (law_at (len63 ‹_›) (by exact rfl) rfl rfl dp_ok un_ok KX ‹Top _ _ _ _ _ _› ‹Fr _ _ _ _› (by rfl) ‹Heap.IsList _ _ _› ‹IntsAre _ _› N0 (d1.trans (by rfl)) (d2.trans (by rfl))) (fun fl s' p => ?_) fun _ _ e => e.elim
  refine Mine.an4 p fun e kp ho hg' => ?_; subst e
  exact ⟨.inl ⟨.bool true, .bool true, _, rfl, fun _ => rfl, .bool _, post_ok _ _, fun _ => ⟨List.nodup_nil, fun _ h => by cases h⟩⟩, kp, ho, hg'.trans hg⟩
end
