import PyProof.Rows.All
import Wide.All
import OpenK.AllK
import Wide.FinOn
import Lean
import PySem.Challenge.RW_nt0602_01
open PySem PySem.W PyProof.Rows
set_option Elab.async false
set_option maxRecDepth 100000
set_option maxHeartbeats 8000000
namespace Mine
/-- the statements that the law's view keeps: all but six -/
def kept35 : List Nat := [0, 2, 3, 5, 6, 7, 8, 9, 10, 11, 12, 13, 14, 15, 16, 17, 18, 20, 21, 23, 25, 27, 28, 29, 30, 31, 32, 33, 34, 35, 36, 37, 38, 39, 40]
def vwOf (P : Program) : Program := { P with main := { P.main with body := kept35.filterMap fun i => P.main.body[i]? } }
def vw : Program := vwOf PySem.Challenge.rw_nt0602_01.row.toRowW.prog
theorem toTw (T : Program) (e : PySem.Challenge.pw_nt0602_01 = T) : PySem.Challenge.rw_nt0602_01.row.toRowW.prog = T := e
theorem both {α β γ : Type} {x : Option α} {f : α → β} {g : α → γ} {a : β} {b : γ} (h1 : x.map f = some a) (h2 : x.map g = some b) : x.map (fun s => (f s, g s)) = some (a, b) := by
  cases x with
  | none => cases h1
  | some y =>
    have e1 := Option.some.inj h1
    have e2 := Option.some.inj h2
    subst e1 e2
    rfl
theorem lawSaid : OpenLaw.wellSaid PySem.Challenge.rw_nt0602_01 = true := by kernel_rfl
theorem seen1 (w : World) : (openEnds treeTable PySem.Challenge.rw_nt0602_01.row.toRowW.prog w 6124).map (fun s => openSeen vw [] (importedModules PySem.Challenge.rw_nt0602_01.row.toRowW.prog.main.body) (fun s => xlAt vw [] s && recOk (RowW.records PySem.Challenge.rw_nt0602_01.row.toRowW) s) true s) = some (openGood vw []) := by
  unfold vw openEnds fencedOpening topFrom
  rw [PySem.W.Fast.te10274390034422433532, PySem.W.Fast.te14364793385576792824, PySem.W.Fast.te1435165496053646825, PySem.W.Fast.te14289696077712309145, PySem.W.Fast.te14082659384304107361, PySem.W.Fast.te8920871248978507458, PySem.W.Fast.te5923862056798008813, PySem.W.Fast.te4187177175401517315]
  kernel_rfl
end Mine
local macro_rules | `(tactic| o_law) => `(tactic| refine holds_law Mine.lawSaid fun said => ?_)
open Lean in
local macro_rules | `(tactic| o_head $H) => do
  let hl := mkIdent `hl
  let hw := mkIdent `hw
  let hc := mkIdent `hc
  `(tactic| (refine holds_open (q := Mine.vw) (loose := []) (Xt := fun s => xlAt Mine.vw [] s && recOk (RowW.records _) s) (XP := XL Mine.vw []) (Yf := Hook.obs $H) (Ya := Hook.val $H) (YP := Hook.says $H) (N := 6124) ?$hl (Hook.of $H) (Hook.keeps $H) (fun s e => xl_of s (Bool.and_eq_true_iff.mp e).1) XL.keeps (by rfl) (by rfl) (by rfl) (fun s e => recFacts_of (Bool.and_eq_true_iff.mp e).2) (by rfl) (by first | assumption | decide +kernel) (by decide +kernel) ⟨rfl, rfl, rfl, rfl, rfl, by decide +kernel⟩ ?$hw ?$hc
             · (intro w; refine Mine.both (Mine.seen1 w) ?_; unfold openEnds fencedOpening topFrom; rw [PySem.W.Fast.te10274390034422433532, PySem.W.Fast.te14364793385576792824, PySem.W.Fast.te1435165496053646825, PySem.W.Fast.te14289696077712309145, PySem.W.Fast.te14082659384304107361, PySem.W.Fast.te8920871248978507458, PySem.W.Fast.te5923862056798008813]; kernel_rfl)))
open_top hd for PySem.Challenge.rw_nt0602_01
namespace Mine
theorem fillKJ (w : World) (h : Heap) : PySem.Challenge.rw_nt0602_01 = PySem.Challenge.rw_nt0602_01 → (hd.heap_1 w.params).In h → True := by k_fill; intro _ _; trivial
end Mine
open PySem.Str (ofString)
set_option linter.all false
set_option maxRecDepth 100000
set_option maxHeartbeats 8000000
set_option genInjectivity false
set_option genSizeOf false
section
namespace Mine
theorem xAA {P1 : Prop} {P2 : Prop} {P3 : Prop} {G : Prop} (h : P1 ∧ P2 ∧ P3) (k : P1 → P2 → P3 → G) : G := by
 obtain ⟨h1, h2, h3⟩ := h
 exact k h1 h2 h3
theorem xAE.{u1} {α1 : Sort u1} {P1 : Prop} {P2 : α1 → Prop} {G : Prop} (h : P1 ∧ ∃ a1, P2 a1) (k : P1 → ∀ a1, P2 a1 → G) : G := by
 obtain ⟨h1, a1, h2⟩ := h
 exact k h1 a1 h2
theorem xEA.{u1} {α1 : Sort u1} {P1 : α1 → Prop} {P2 : α1 → Prop} {G : Prop} (h : ∃ a1, P1 a1 ∧ P2 a1) (k : ∀ a1, P1 a1 → P2 a1 → G) : G := by
 obtain ⟨a1, h1, h2⟩ := h
 exact k a1 h1 h2
theorem xEE.{u1, u2} {α1 : Sort u1} {α2 : Sort u2} {P1 : α1 → α2 → Prop} {G : Prop} (h : ∃ a1, ∃ a2, P1 a1 a2) (k : ∀ a1, ∀ a2, P1 a1 a2 → G) : G := by
 obtain ⟨a1, a2, h1⟩ := h
 exact k a1 a2 h1
theorem xAAA {P1 : Prop} {P2 : Prop} {P3 : Prop} {P4 : Prop} {G : Prop} (h : P1 ∧ P2 ∧ P3 ∧ P4) (k : P1 → P2 → P3 → P4 → G) : G := by
 obtain ⟨h1, h2, h3, h4⟩ := h
 exact k h1 h2 h3 h4
theorem xAEA.{u1} {α1 : Sort u1} {P1 : Prop} {P2 : α1 → Prop} {P3 : α1 → Prop} {G : Prop} (h : P1 ∧ ∃ a1, P2 a1 ∧ P3 a1) (k : P1 → ∀ a1, P2 a1 → P3 a1 → G) : G := by
 obtain ⟨h1, a1, h2, h3⟩ := h
 exact k h1 a1 h2 h3
theorem xEAA.{u1} {α1 : Sort u1} {P1 : α1 → Prop} {P2 : α1 → Prop} {P3 : α1 → Prop} {G : Prop} (h : ∃ a1, P1 a1 ∧ P2 a1 ∧ P3 a1) (k : ∀ a1, P1 a1 → P2 a1 → P3 a1 → G) : G := by
 obtain ⟨a1, h1, h2, h3⟩ := h
 exact k a1 h1 h2 h3
theorem xEEA.{u1, u2} {α1 : Sort u1} {α2 : Sort u2} {P1 : α1 → α2 → Prop} {P2 : α1 → α2 → Prop} {G : Prop} (h : ∃ a1, ∃ a2, P1 a1 a2 ∧ P2 a1 a2) (k : ∀ a1, ∀ a2, P1 a1 a2 → P2 a1 a2 → G) : G := by
 obtain ⟨a1, a2, h1, h2⟩ := h
 exact k a1 a2 h1 h2
theorem xEEE.{u1, u2, u3} {α1 : Sort u1} {α2 : Sort u2} {α3 : Sort u3} {P1 : α1 → α2 → α3 → Prop} {G : Prop} (h : ∃ a1, ∃ a2, ∃ a3, P1 a1 a2 a3) (k : ∀ a1, ∀ a2, ∀ a3, P1 a1 a2 a3 → G) : G := by
 obtain ⟨a1, a2, a3, h1⟩ := h
 exact k a1 a2 a3 h1
theorem xAAAA {P1 : Prop} {P2 : Prop} {P3 : Prop} {P4 : Prop} {P5 : Prop} {G : Prop} (h : P1 ∧ P2 ∧ P3 ∧ P4 ∧ P5) (k : P1 → P2 → P3 → P4 → P5 → G) : G := by
 obtain ⟨h1, h2, h3, h4, h5⟩ := h
 exact k h1 h2 h3 h4 h5
theorem xEAAA.{u1} {α1 : Sort u1} {P1 : α1 → Prop} {P2 : α1 → Prop} {P3 : α1 → Prop} {P4 : α1 → Prop} {G : Prop} (h : ∃ a1, P1 a1 ∧ P2 a1 ∧ P3 a1 ∧ P4 a1) (k : ∀ a1, P1 a1 → P2 a1 → P3 a1 → P4 a1 → G) : G := by
 obtain ⟨a1, h1, h2, h3, h4⟩ := h
 exact k a1 h1 h2 h3 h4
theorem xEEAA.{u1, u2} {α1 : Sort u1} {α2 : Sort u2} {P1 : α1 → α2 → Prop} {P2 : α1 → α2 → Prop} {P3 : α1 → α2 → Prop} {G : Prop} (h : ∃ a1, ∃ a2, P1 a1 a2 ∧ P2 a1 a2 ∧ P3 a1 a2) (k : ∀ a1, ∀ a2, P1 a1 a2 → P2 a1 a2 → P3 a1 a2 → G) : G := by
 obtain ⟨a1, a2, h1, h2, h3⟩ := h
 exact k a1 a2 h1 h2 h3
theorem xEEEA.{u1, u2, u3} {α1 : Sort u1} {α2 : Sort u2} {α3 : Sort u3} {P1 : α1 → α2 → α3 → Prop} {P2 : α1 → α2 → α3 → Prop} {G : Prop} (h : ∃ a1, ∃ a2, ∃ a3, P1 a1 a2 a3 ∧ P2 a1 a2 a3) (k : ∀ a1, ∀ a2, ∀ a3, P1 a1 a2 a3 → P2 a1 a2 a3 → G) : G := by
 obtain ⟨a1, a2, a3, h1, h2⟩ := h
 exact k a1 a2 a3 h1 h2
theorem xEEEE.{u1, u2, u3, u4} {α1 : Sort u1} {α2 : Sort u2} {α3 : Sort u3} {α4 : Sort u4} {P1 : α1 → α2 → α3 → α4 → Prop} {G : Prop} (h : ∃ a1, ∃ a2, ∃ a3, ∃ a4, P1 a1 a2 a3 a4) (k : ∀ a1, ∀ a2, ∀ a3, ∀ a4, P1 a1 a2 a3 a4 → G) : G := by
 obtain ⟨a1, a2, a3, a4, h1⟩ := h
 exact k a1 a2 a3 a4 h1
theorem xAEEAA.{u1, u2} {α1 : Sort u1} {α2 : Sort u2} {P1 : Prop} {P2 : α1 → α2 → Prop} {P3 : α1 → α2 → Prop} {P4 : α1 → α2 → Prop} {G : Prop} (h : P1 ∧ ∃ a1, ∃ a2, P2 a1 a2 ∧ P3 a1 a2 ∧ P4 a1 a2) (k : P1 → ∀ a1, ∀ a2, P2 a1 a2 → P3 a1 a2 → P4 a1 a2 → G) : G := by
 obtain ⟨h1, a1, a2, h2, h3, h4⟩ := h
 exact k h1 a1 a2 h2 h3 h4
theorem xEAAAA.{u1} {α1 : Sort u1} {P1 : α1 → Prop} {P2 : α1 → Prop} {P3 : α1 → Prop} {P4 : α1 → Prop} {P5 : α1 → Prop} {G : Prop} (h : ∃ a1, P1 a1 ∧ P2 a1 ∧ P3 a1 ∧ P4 a1 ∧ P5 a1) (k : ∀ a1, P1 a1 → P2 a1 → P3 a1 → P4 a1 → P5 a1 → G) : G := by
 obtain ⟨a1, h1, h2, h3, h4, h5⟩ := h
 exact k a1 h1 h2 h3 h4 h5
theorem xEEAAA.{u1, u2} {α1 : Sort u1} {α2 : Sort u2} {P1 : α1 → α2 → Prop} {P2 : α1 → α2 → Prop} {P3 : α1 → α2 → Prop} {P4 : α1 → α2 → Prop} {G : Prop} (h : ∃ a1, ∃ a2, P1 a1 a2 ∧ P2 a1 a2 ∧ P3 a1 a2 ∧ P4 a1 a2) (k : ∀ a1, ∀ a2, P1 a1 a2 → P2 a1 a2 → P3 a1 a2 → P4 a1 a2 → G) : G := by
 obtain ⟨a1, a2, h1, h2, h3, h4⟩ := h
 exact k a1 a2 h1 h2 h3 h4
theorem xEEEAA.{u1, u2, u3} {α1 : Sort u1} {α2 : Sort u2} {α3 : Sort u3} {P1 : α1 → α2 → α3 → Prop} {P2 : α1 → α2 → α3 → Prop} {P3 : α1 → α2 → α3 → Prop} {G : Prop} (h : ∃ a1, ∃ a2, ∃ a3, P1 a1 a2 a3 ∧ P2 a1 a2 a3 ∧ P3 a1 a2 a3) (k : ∀ a1, ∀ a2, ∀ a3, P1 a1 a2 a3 → P2 a1 a2 a3 → P3 a1 a2 a3 → G) : G := by
 obtain ⟨a1, a2, a3, h1, h2, h3⟩ := h
 exact k a1 a2 a3 h1 h2 h3
theorem xEEEEA.{u1, u2, u3, u4} {α1 : Sort u1} {α2 : Sort u2} {α3 : Sort u3} {α4 : Sort u4} {P1 : α1 → α2 → α3 → α4 → Prop} {P2 : α1 → α2 → α3 → α4 → Prop} {G : Prop} (h : ∃ a1, ∃ a2, ∃ a3, ∃ a4, P1 a1 a2 a3 a4 ∧ P2 a1 a2 a3 a4) (k : ∀ a1, ∀ a2, ∀ a3, ∀ a4, P1 a1 a2 a3 a4 → P2 a1 a2 a3 a4 → G) : G := by
 obtain ⟨a1, a2, a3, a4, h1, h2⟩ := h
 exact k a1 a2 a3 a4 h1 h2
theorem xAAAAAA {P1 : Prop} {P2 : Prop} {P3 : Prop} {P4 : Prop} {P5 : Prop} {P6 : Prop} {P7 : Prop} {G : Prop} (h : P1 ∧ P2 ∧ P3 ∧ P4 ∧ P5 ∧ P6 ∧ P7) (k : P1 → P2 → P3 → P4 → P5 → P6 → P7 → G) : G := by
 obtain ⟨h1, h2, h3, h4, h5, h6, h7⟩ := h
 exact k h1 h2 h3 h4 h5 h6 h7
theorem xAAEEAA.{u1, u2} {α1 : Sort u1} {α2 : Sort u2} {P1 : Prop} {P2 : Prop} {P3 : α1 → α2 → Prop} {P4 : α1 → α2 → Prop} {P5 : α1 → α2 → Prop} {G : Prop} (h : P1 ∧ P2 ∧ ∃ a1, ∃ a2, P3 a1 a2 ∧ P4 a1 a2 ∧ P5 a1 a2) (k : P1 → P2 → ∀ a1, ∀ a2, P3 a1 a2 → P4 a1 a2 → P5 a1 a2 → G) : G := by
 obtain ⟨h1, h2, a1, a2, h3, h4, h5⟩ := h
 exact k h1 h2 a1 a2 h3 h4 h5
theorem xEEAAAA.{u1, u2} {α1 : Sort u1} {α2 : Sort u2} {P1 : α1 → α2 → Prop} {P2 : α1 → α2 → Prop} {P3 : α1 → α2 → Prop} {P4 : α1 → α2 → Prop} {P5 : α1 → α2 → Prop} {G : Prop} (h : ∃ a1, ∃ a2, P1 a1 a2 ∧ P2 a1 a2 ∧ P3 a1 a2 ∧ P4 a1 a2 ∧ P5 a1 a2) (k : ∀ a1, ∀ a2, P1 a1 a2 → P2 a1 a2 → P3 a1 a2 → P4 a1 a2 → P5 a1 a2 → G) : G := by
 obtain ⟨a1, a2, h1, h2, h3, h4, h5⟩ := h
 exact k a1 a2 h1 h2 h3 h4 h5
theorem xEEEAAA.{u1, u2, u3} {α1 : Sort u1} {α2 : Sort u2} {α3 : Sort u3} {P1 : α1 → α2 → α3 → Prop} {P2 : α1 → α2 → α3 → Prop} {P3 : α1 → α2 → α3 → Prop} {P4 : α1 → α2 → α3 → Prop} {G : Prop} (h : ∃ a1, ∃ a2, ∃ a3, P1 a1 a2 a3 ∧ P2 a1 a2 a3 ∧ P3 a1 a2 a3 ∧ P4 a1 a2 a3) (k : ∀ a1, ∀ a2, ∀ a3, P1 a1 a2 a3 → P2 a1 a2 a3 → P3 a1 a2 a3 → P4 a1 a2 a3 → G) : G := by
 obtain ⟨a1, a2, a3, h1, h2, h3, h4⟩ := h
 exact k a1 a2 a3 h1 h2 h3 h4
theorem xEEEEAA.{u1, u2, u3, u4} {α1 : Sort u1} {α2 : Sort u2} {α3 : Sort u3} {α4 : Sort u4} {P1 : α1 → α2 → α3 → α4 → Prop} {P2 : α1 → α2 → α3 → α4 → Prop} {P3 : α1 → α2 → α3 → α4 → Prop} {G : Prop} (h : ∃ a1, ∃ a2, ∃ a3, ∃ a4, P1 a1 a2 a3 a4 ∧ P2 a1 a2 a3 a4 ∧ P3 a1 a2 a3 a4) (k : ∀ a1, ∀ a2, ∀ a3, ∀ a4, P1 a1 a2 a3 a4 → P2 a1 a2 a3 a4 → P3 a1 a2 a3 a4 → G) : G := by
 obtain ⟨a1, a2, a3, a4, h1, h2, h3⟩ := h
 exact k a1 a2 a3 a4 h1 h2 h3
theorem xEEEEEA.{u1, u2, u3, u4, u5} {α1 : Sort u1} {α2 : Sort u2} {α3 : Sort u3} {α4 : Sort u4} {α5 : Sort u5} {P1 : α1 → α2 → α3 → α4 → α5 → Prop} {P2 : α1 → α2 → α3 → α4 → α5 → Prop} {G : Prop} (h : ∃ a1, ∃ a2, ∃ a3, ∃ a4, ∃ a5, P1 a1 a2 a3 a4 a5 ∧ P2 a1 a2 a3 a4 a5) (k : ∀ a1, ∀ a2, ∀ a3, ∀ a4, ∀ a5, P1 a1 a2 a3 a4 a5 → P2 a1 a2 a3 a4 a5 → G) : G := by
 obtain ⟨a1, a2, a3, a4, a5, h1, h2⟩ := h
 exact k a1 a2 a3 a4 a5 h1 h2
theorem xAAAAAAA {P1 : Prop} {P2 : Prop} {P3 : Prop} {P4 : Prop} {P5 : Prop} {P6 : Prop} {P7 : Prop} {P8 : Prop} {G : Prop} (h : P1 ∧ P2 ∧ P3 ∧ P4 ∧ P5 ∧ P6 ∧ P7 ∧ P8) (k : P1 → P2 → P3 → P4 → P5 → P6 → P7 → P8 → G) : G := by
 obtain ⟨h1, h2, h3, h4, h5, h6, h7, h8⟩ := h
 exact k h1 h2 h3 h4 h5 h6 h7 h8
theorem xEEEEAAA.{u1, u2, u3, u4} {α1 : Sort u1} {α2 : Sort u2} {α3 : Sort u3} {α4 : Sort u4} {P1 : α1 → α2 → α3 → α4 → Prop} {P2 : α1 → α2 → α3 → α4 → Prop} {P3 : α1 → α2 → α3 → α4 → Prop} {P4 : α1 → α2 → α3 → α4 → Prop} {G : Prop} (h : ∃ a1, ∃ a2, ∃ a3, ∃ a4, P1 a1 a2 a3 a4 ∧ P2 a1 a2 a3 a4 ∧ P3 a1 a2 a3 a4 ∧ P4 a1 a2 a3 a4) (k : ∀ a1, ∀ a2, ∀ a3, ∀ a4, P1 a1 a2 a3 a4 → P2 a1 a2 a3 a4 → P3 a1 a2 a3 a4 → P4 a1 a2 a3 a4 → G) : G := by
 obtain ⟨a1, a2, a3, a4, h1, h2, h3, h4⟩ := h
 exact k a1 a2 a3 a4 h1 h2 h3 h4
theorem xEEEAAAAA.{u1, u2, u3} {α1 : Sort u1} {α2 : Sort u2} {α3 : Sort u3} {P1 : α1 → α2 → α3 → Prop} {P2 : α1 → α2 → α3 → Prop} {P3 : α1 → α2 → α3 → Prop} {P4 : α1 → α2 → α3 → Prop} {P5 : α1 → α2 → α3 → Prop} {P6 : α1 → α2 → α3 → Prop} {G : Prop} (h : ∃ a1, ∃ a2, ∃ a3, P1 a1 a2 a3 ∧ P2 a1 a2 a3 ∧ P3 a1 a2 a3 ∧ P4 a1 a2 a3 ∧ P5 a1 a2 a3 ∧ P6 a1 a2 a3) (k : ∀ a1, ∀ a2, ∀ a3, P1 a1 a2 a3 → P2 a1 a2 a3 → P3 a1 a2 a3 → P4 a1 a2 a3 → P5 a1 a2 a3 → P6 a1 a2 a3 → G) : G := by
 obtain ⟨a1, a2, a3, h1, h2, h3, h4, h5, h6⟩ := h
 exact k a1 a2 a3 h1 h2 h3 h4 h5 h6
theorem xEEEAAAEA.{u1, u2, u3, u4} {α1 : Sort u1} {α2 : Sort u2} {α3 : Sort u3} {α4 : Sort u4} {P1 : α1 → α2 → α3 → Prop} {P2 : α1 → α2 → α3 → Prop} {P3 : α1 → α2 → α3 → Prop} {P4 : α1 → α2 → α3 → α4 → Prop} {P5 : α1 → α2 → α3 → α4 → Prop} {G : Prop} (h : ∃ a1, ∃ a2, ∃ a3, P1 a1 a2 a3 ∧ P2 a1 a2 a3 ∧ P3 a1 a2 a3 ∧ ∃ a4, P4 a1 a2 a3 a4 ∧ P5 a1 a2 a3 a4) (k : ∀ a1, ∀ a2, ∀ a3, P1 a1 a2 a3 → P2 a1 a2 a3 → P3 a1 a2 a3 → ∀ a4, P4 a1 a2 a3 a4 → P5 a1 a2 a3 a4 → G) : G := by
 obtain ⟨a1, a2, a3, h1, h2, h3, a4, h4, h5⟩ := h
 exact k a1 a2 a3 h1 h2 h3 a4 h4 h5
theorem xEEEEEEAA.{u1, u2, u3, u4, u5, u6} {α1 : Sort u1} {α2 : Sort u2} {α3 : Sort u3} {α4 : Sort u4} {α5 : Sort u5} {α6 : Sort u6} {P1 : α1 → α2 → α3 → α4 → α5 → α6 → Prop} {P2 : α1 → α2 → α3 → α4 → α5 → α6 → Prop} {P3 : α1 → α2 → α3 → α4 → α5 → α6 → Prop} {G : Prop} (h : ∃ a1, ∃ a2, ∃ a3, ∃ a4, ∃ a5, ∃ a6, P1 a1 a2 a3 a4 a5 a6 ∧ P2 a1 a2 a3 a4 a5 a6 ∧ P3 a1 a2 a3 a4 a5 a6) (k : ∀ a1, ∀ a2, ∀ a3, ∀ a4, ∀ a5, ∀ a6, P1 a1 a2 a3 a4 a5 a6 → P2 a1 a2 a3 a4 a5 a6 → P3 a1 a2 a3 a4 a5 a6 → G) : G := by
 obtain ⟨a1, a2, a3, a4, a5, a6, h1, h2, h3⟩ := h
 exact k a1 a2 a3 a4 a5 a6 h1 h2 h3
theorem xEEEEEEEE.{u1, u2, u3, u4, u5, u6, u7, u8} {α1 : Sort u1} {α2 : Sort u2} {α3 : Sort u3} {α4 : Sort u4} {α5 : Sort u5} {α6 : Sort u6} {α7 : Sort u7} {α8 : Sort u8} {P1 : α1 → α2 → α3 → α4 → α5 → α6 → α7 → α8 → Prop} {G : Prop} (h : ∃ a1, ∃ a2, ∃ a3, ∃ a4, ∃ a5, ∃ a6, ∃ a7, ∃ a8, P1 a1 a2 a3 a4 a5 a6 a7 a8) (k : ∀ a1, ∀ a2, ∀ a3, ∀ a4, ∀ a5, ∀ a6, ∀ a7, ∀ a8, P1 a1 a2 a3 a4 a5 a6 a7 a8 → G) : G := by
 obtain ⟨a1, a2, a3, a4, a5, a6, a7, a8, h1⟩ := h
 exact k a1 a2 a3 a4 a5 a6 a7 a8 h1
theorem xAAEEEAAAA.{u1, u2, u3} {α1 : Sort u1} {α2 : Sort u2} {α3 : Sort u3} {P1 : Prop} {P2 : Prop} {P3 : α1 → α2 → α3 → Prop} {P4 : α1 → α2 → α3 → Prop} {P5 : α1 → α2 → α3 → Prop} {P6 : α1 → α2 → α3 → Prop} {P7 : α1 → α2 → α3 → Prop} {G : Prop} (h : P1 ∧ P2 ∧ ∃ a1, ∃ a2, ∃ a3, P3 a1 a2 a3 ∧ P4 a1 a2 a3 ∧ P5 a1 a2 a3 ∧ P6 a1 a2 a3 ∧ P7 a1 a2 a3) (k : P1 → P2 → ∀ a1, ∀ a2, ∀ a3, P3 a1 a2 a3 → P4 a1 a2 a3 → P5 a1 a2 a3 → P6 a1 a2 a3 → P7 a1 a2 a3 → G) : G := by
 obtain ⟨h1, h2, a1, a2, a3, h3, h4, h5, h6, h7⟩ := h
 exact k h1 h2 a1 a2 a3 h3 h4 h5 h6 h7
theorem xEEEEAAAAA.{u1, u2, u3, u4} {α1 : Sort u1} {α2 : Sort u2} {α3 : Sort u3} {α4 : Sort u4} {P1 : α1 → α2 → α3 → α4 → Prop} {P2 : α1 → α2 → α3 → α4 → Prop} {P3 : α1 → α2 → α3 → α4 → Prop} {P4 : α1 → α2 → α3 → α4 → Prop} {P5 : α1 → α2 → α3 → α4 → Prop} {P6 : α1 → α2 → α3 → α4 → Prop} {G : Prop} (h : ∃ a1, ∃ a2, ∃ a3, ∃ a4, P1 a1 a2 a3 a4 ∧ P2 a1 a2 a3 a4 ∧ P3 a1 a2 a3 a4 ∧ P4 a1 a2 a3 a4 ∧ P5 a1 a2 a3 a4 ∧ P6 a1 a2 a3 a4) (k : ∀ a1, ∀ a2, ∀ a3, ∀ a4, P1 a1 a2 a3 a4 → P2 a1 a2 a3 a4 → P3 a1 a2 a3 a4 → P4 a1 a2 a3 a4 → P5 a1 a2 a3 a4 → P6 a1 a2 a3 a4 → G) : G := by
 obtain ⟨a1, a2, a3, a4, h1, h2, h3, h4, h5, h6⟩ := h
 exact k a1 a2 a3 a4 h1 h2 h3 h4 h5 h6
theorem xEAEEEEEEEE.{u1, u2, u3, u4, u5, u6, u7, u8, u9} {α1 : Sort u1} {α2 : Sort u2} {α3 : Sort u3} {α4 : Sort u4} {α5 : Sort u5} {α6 : Sort u6} {α7 : Sort u7} {α8 : Sort u8} {α9 : Sort u9} {P1 : α1 → Prop} {P2 : α1 → α2 → α3 → α4 → α5 → α6 → α7 → α8 → α9 → Prop} {G : Prop} (h : ∃ a1, P1 a1 ∧ ∃ a2, ∃ a3, ∃ a4, ∃ a5, ∃ a6, ∃ a7, ∃ a8, ∃ a9, P2 a1 a2 a3 a4 a5 a6 a7 a8 a9) (k : ∀ a1, P1 a1 → ∀ a2, ∀ a3, ∀ a4, ∀ a5, ∀ a6, ∀ a7, ∀ a8, ∀ a9, P2 a1 a2 a3 a4 a5 a6 a7 a8 a9 → G) : G := by
 obtain ⟨a1, h1, a2, a3, a4, a5, a6, a7, a8, a9, h2⟩ := h
 exact k a1 h1 a2 a3 a4 a5 a6 a7 a8 a9 h2
theorem xEEEEEEAAAA.{u1, u2, u3, u4, u5, u6} {α1 : Sort u1} {α2 : Sort u2} {α3 : Sort u3} {α4 : Sort u4} {α5 : Sort u5} {α6 : Sort u6} {P1 : α1 → α2 → α3 → α4 → α5 → α6 → Prop} {P2 : α1 → α2 → α3 → α4 → α5 → α6 → Prop} {P3 : α1 → α2 → α3 → α4 → α5 → α6 → Prop} {P4 : α1 → α2 → α3 → α4 → α5 → α6 → Prop} {P5 : α1 → α2 → α3 → α4 → α5 → α6 → Prop} {G : Prop} (h : ∃ a1, ∃ a2, ∃ a3, ∃ a4, ∃ a5, ∃ a6, P1 a1 a2 a3 a4 a5 a6 ∧ P2 a1 a2 a3 a4 a5 a6 ∧ P3 a1 a2 a3 a4 a5 a6 ∧ P4 a1 a2 a3 a4 a5 a6 ∧ P5 a1 a2 a3 a4 a5 a6) (k : ∀ a1, ∀ a2, ∀ a3, ∀ a4, ∀ a5, ∀ a6, P1 a1 a2 a3 a4 a5 a6 → P2 a1 a2 a3 a4 a5 a6 → P3 a1 a2 a3 a4 a5 a6 → P4 a1 a2 a3 a4 a5 a6 → P5 a1 a2 a3 a4 a5 a6 → G) : G := by
 obtain ⟨a1, a2, a3, a4, a5, a6, h1, h2, h3, h4, h5⟩ := h
 exact k a1 a2 a3 a4 a5 a6 h1 h2 h3 h4 h5
theorem xEEEEEAAAAAA.{u1, u2, u3, u4, u5} {α1 : Sort u1} {α2 : Sort u2} {α3 : Sort u3} {α4 : Sort u4} {α5 : Sort u5} {P1 : α1 → α2 → α3 → α4 → α5 → Prop} {P2 : α1 → α2 → α3 → α4 → α5 → Prop} {P3 : α1 → α2 → α3 → α4 → α5 → Prop} {P4 : α1 → α2 → α3 → α4 → α5 → Prop} {P5 : α1 → α2 → α3 → α4 → α5 → Prop} {P6 : α1 → α2 → α3 → α4 → α5 → Prop} {P7 : α1 → α2 → α3 → α4 → α5 → Prop} {G : Prop} (h : ∃ a1, ∃ a2, ∃ a3, ∃ a4, ∃ a5, P1 a1 a2 a3 a4 a5 ∧ P2 a1 a2 a3 a4 a5 ∧ P3 a1 a2 a3 a4 a5 ∧ P4 a1 a2 a3 a4 a5 ∧ P5 a1 a2 a3 a4 a5 ∧ P6 a1 a2 a3 a4 a5 ∧ P7 a1 a2 a3 a4 a5) (k : ∀ a1, ∀ a2, ∀ a3, ∀ a4, ∀ a5, P1 a1 a2 a3 a4 a5 → P2 a1 a2 a3 a4 a5 → P3 a1 a2 a3 a4 a5 → P4 a1 a2 a3 a4 a5 → P5 a1 a2 a3 a4 a5 → P6 a1 a2 a3 a4 a5 → P7 a1 a2 a3 a4 a5 → G) : G := by
 obtain ⟨a1, a2, a3, a4, a5, h1, h2, h3, h4, h5, h6, h7⟩ := h
 exact k a1 a2 a3 a4 a5 h1 h2 h3 h4 h5 h6 h7
theorem xEEEAAAEEEAAAA.{u1, u2, u3, u4, u5, u6} {α1 : Sort u1} {α2 : Sort u2} {α3 : Sort u3} {α4 : Sort u4} {α5 : Sort u5} {α6 : Sort u6} {P1 : α1 → α2 → α3 → Prop} {P2 : α1 → α2 → α3 → Prop} {P3 : α1 → α2 → α3 → Prop} {P4 : α1 → α2 → α3 → α4 → α5 → α6 → Prop} {P5 : α1 → α2 → α3 → α4 → α5 → α6 → Prop} {P6 : α1 → α2 → α3 → α4 → α5 → α6 → Prop} {P7 : α1 → α2 → α3 → α4 → α5 → α6 → Prop} {P8 : α1 → α2 → α3 → α4 → α5 → α6 → Prop} {G : Prop} (h : ∃ a1, ∃ a2, ∃ a3, P1 a1 a2 a3 ∧ P2 a1 a2 a3 ∧ P3 a1 a2 a3 ∧ ∃ a4, ∃ a5, ∃ a6, P4 a1 a2 a3 a4 a5 a6 ∧ P5 a1 a2 a3 a4 a5 a6 ∧ P6 a1 a2 a3 a4 a5 a6 ∧ P7 a1 a2 a3 a4 a5 a6 ∧ P8 a1 a2 a3 a4 a5 a6) (k : ∀ a1, ∀ a2, ∀ a3, P1 a1 a2 a3 → P2 a1 a2 a3 → P3 a1 a2 a3 → ∀ a4, ∀ a5, ∀ a6, P4 a1 a2 a3 a4 a5 a6 → P5 a1 a2 a3 a4 a5 a6 → P6 a1 a2 a3 a4 a5 a6 → P7 a1 a2 a3 a4 a5 a6 → P8 a1 a2 a3 a4 a5 a6 → G) : G := by
 obtain ⟨a1, a2, a3, h1, h2, h3, a4, a5, a6, h4, h5, h6, h7, h8⟩ := h
 exact k a1 a2 a3 h1 h2 h3 a4 a5 a6 h4 h5 h6 h7 h8
theorem xEEEEEEEEAAAAAAAA.{u1, u2, u3, u4, u5, u6, u7, u8} {α1 : Sort u1} {α2 : Sort u2} {α3 : Sort u3} {α4 : Sort u4} {α5 : Sort u5} {α6 : Sort u6} {α7 : Sort u7} {α8 : Sort u8} {P1 : α1 → α2 → α3 → α4 → α5 → α6 → α7 → α8 → Prop} {P2 : α1 → α2 → α3 → α4 → α5 → α6 → α7 → α8 → Prop} {P3 : α1 → α2 → α3 → α4 → α5 → α6 → α7 → α8 → Prop} {P4 : α1 → α2 → α3 → α4 → α5 → α6 → α7 → α8 → Prop} {P5 : α1 → α2 → α3 → α4 → α5 → α6 → α7 → α8 → Prop} {P6 : α1 → α2 → α3 → α4 → α5 → α6 → α7 → α8 → Prop} {P7 : α1 → α2 → α3 → α4 → α5 → α6 → α7 → α8 → Prop} {P8 : α1 → α2 → α3 → α4 → α5 → α6 → α7 → α8 → Prop} {P9 : α1 → α2 → α3 → α4 → α5 → α6 → α7 → α8 → Prop} {G : Prop} (h : ∃ a1, ∃ a2, ∃ a3, ∃ a4, ∃ a5, ∃ a6, ∃ a7, ∃ a8, P1 a1 a2 a3 a4 a5 a6 a7 a8 ∧ P2 a1 a2 a3 a4 a5 a6 a7 a8 ∧ P3 a1 a2 a3 a4 a5 a6 a7 a8 ∧ P4 a1 a2 a3 a4 a5 a6 a7 a8 ∧ P5 a1 a2 a3 a4 a5 a6 a7 a8 ∧ P6 a1 a2 a3 a4 a5 a6 a7 a8 ∧ P7 a1 a2 a3 a4 a5 a6 a7 a8 ∧ P8 a1 a2 a3 a4 a5 a6 a7 a8 ∧ P9 a1 a2 a3 a4 a5 a6 a7 a8) (k : ∀ a1, ∀ a2, ∀ a3, ∀ a4, ∀ a5, ∀ a6, ∀ a7, ∀ a8, P1 a1 a2 a3 a4 a5 a6 a7 a8 → P2 a1 a2 a3 a4 a5 a6 a7 a8 → P3 a1 a2 a3 a4 a5 a6 a7 a8 → P4 a1 a2 a3 a4 a5 a6 a7 a8 → P5 a1 a2 a3 a4 a5 a6 a7 a8 → P6 a1 a2 a3 a4 a5 a6 a7 a8 → P7 a1 a2 a3 a4 a5 a6 a7 a8 → P8 a1 a2 a3 a4 a5 a6 a7 a8 → P9 a1 a2 a3 a4 a5 a6 a7 a8 → G) : G := by
 obtain ⟨a1, a2, a3, a4, a5, a6, a7, a8, h1, h2, h3, h4, h5, h6, h7, h8, h9⟩ := h
 exact k a1 a2 a3 a4 a5 a6 a7 a8 h1 h2 h3 h4 h5 h6 h7 h8 h9
end Mine
end
section
open PySem PySem.W PyProof.Rows
namespace Mine
noncomputable abbrev PG : Program := Challenge.rw_nt0602_01.row.toRowW.prog
noncomputable abbrev Spec (w : World) (dd : Nat) (news : List (Addr × Obj)) (f : Addr) (vs : List Value) (Post : Value → List (Addr × Obj) → Prop) : Prop :=
 ∀ (mean : ExcName → Option Value) (mg mb : PySem.Str → Option Value) (dp un : Nat) (gd : Option (List Code)) (cn : PySem.Str) (cs : Scope) (a : Addr) (ccd : Value) (cl : List (PySem.Str × Addr)) (outer : List Env)
  (A₀ : Around) (base h₀ : Heap) (L : Addr) (m : PySem.Str → Option Value) (s : Shared) (Q E : Value → Shared → Prop),
  Below A₀ base outer h₀ → Fr h₀ L s.heap m → (hd.heap_1 w.params).In h₀ → News h₀ L s.heap news → Top Mine.vw (looseW Mine.vw []) mean mg mb h₀ → cs.kind = .function →
  dp + dd < recursionLimit → un + 16 * dd < cLine →
  (∀ (v : Value) (news' : List (Addr × Obj)) (h' : Heap) (tk' : Nat), Fr h₀ L h' m → News h₀ L h' news' → (∀ b o, s.heap.get? b = some o → b ∉ news.map (·.1) → h'.get? b = some o) → Post v news' → Q v { s with heap := h', toks := tk' }) →
  wpAny (model Challenge.rw_nt0602_01.row.toRowW.prog w) (ktrTop dp un gd cn cs L a ccd cl outer) (call (.ref f) vs) Q E s
noncomputable abbrev SpecP (w : World) (dd : Nat) (Pre : Heap → Prop) (news : List (Addr × Obj)) (f : Addr) (vs : List Value) (Post : Value → List (Addr × Obj) → Prop) : Prop :=
 ∀ (mean : ExcName → Option Value) (mg mb : PySem.Str → Option Value) (dp un : Nat) (gd : Option (List Code)) (cn : PySem.Str) (cs : Scope) (a : Addr) (ccd : Value) (cl : List (PySem.Str × Addr)) (outer : List Env)
  (A₀ : Around) (base h₀ : Heap) (L : Addr) (m : PySem.Str → Option Value) (s : Shared) (Q E : Value → Shared → Prop),
  Pre h₀ → Below A₀ base outer h₀ → Fr h₀ L s.heap m → (hd.heap_1 w.params).In h₀ → News h₀ L s.heap news → Top Mine.vw (looseW Mine.vw []) mean mg mb h₀ → cs.kind = .function →
  dp + dd < recursionLimit → un + 16 * dd < cLine →
  (∀ (v : Value) (news' : List (Addr × Obj)) (h' : Heap) (tk' : Nat), Fr h₀ L h' m → News h₀ L h' news' → (∀ b o, s.heap.get? b = some o → b ∉ news.map (·.1) → h'.get? b = some o) → Post v news' → Q v { s with heap := h', toks := tk' }) →
  wpAny (model Challenge.rw_nt0602_01.row.toRowW.prog w) (ktrTop dp un gd cn cs L a ccd cl outer) (call (.ref f) vs) Q E s
noncomputable abbrev chS (c : Nat) : PySem.Str := ⟨#[c]⟩
structure TA where
 td : Nat
 t : Nat
 sd : Nat
 s : Nat
 sg : Nat
 se : Nat
 ou : Nat
 er : Nat
 sa : Nat
structure TK where
 h : Nat → Int
 k : Nat → Tok
 n : Nat
structure TV where
 outs : List Value
 outN : Nat
 ers : List Value
 ersN : Nat
 pos : Int
 posT : Tok
 state : PySem.Str
 stateT : Tok
 back : PySem.Str
 backT : Tok
 draft : Value
 buf : PySem.Str
 bufT : Tok
 code : Int
 codeT : Tok
 last : PySem.Str
 lastT : Tok
 waiting : Bool
 done : Bool
 signs : List Value
 signsN : Nat
 serrs : List Value
 serrsN : Nat
 closed : Bool
noncomputable abbrev en (K : TK) (i : Nat) (x : String) (v : Value) : DictEntry := ⟨K.h i, .str (ofString x) (K.k i), v⟩
noncomputable abbrev tokEs (A : TA) (K : TK) (v : TV) : List DictEntry := [
 en K 0 "states" (.ref A.sa), en K 1 "stream" (.ref A.s), en K 2 "at" (.int v.pos v.posT), en K 3 "state" (.str v.state v.stateT),
 en K 4 "back" (.str v.back v.backT), en K 5 "out" (.ref A.ou), en K 6 "errors" (.ref A.er), en K 7 "draft" v.draft,
 en K 8 "buffer" (.str v.buf v.bufT), en K 9 "code" (.int v.code v.codeT), en K 10 "last" (.str v.last v.lastT),
 en K 11 "is_foreign" (.bool false), en K 12 "is_waiting" (.bool v.waiting), en K 13 "is_done" (.bool v.done)]
noncomputable abbrev strEs (A : TA) (K : TK) (v : TV) : List DictEntry := [
 en K 20 "signs" (.ref A.sg), en K 21 "is_closed" (.bool v.closed), en K 22 "is_return" (.bool false), en K 23 "errors" (.ref A.se)]
noncomputable abbrev tokLed (A : TA) (K : TK) (v : TV) : List (Addr × Obj) := [
 (A.t, instObj 359 A.td), (A.td, dictOf (tokEs A K v) 14), (A.s, instObj 196 A.sd), (A.sd, dictOf (strEs A K v) 4),
 (A.sg, listOf v.signs.toArray v.signsN), (A.se, listOf v.serrs.toArray v.serrsN), (A.ou, listOf v.outs.toArray v.outN), (A.er, listOf v.ers.toArray v.ersN)]
noncomputable def TA.chain (A : TA) : Prop := A.td < A.t ∧ A.t < A.sd ∧ A.sd < A.s ∧ A.s < A.sg ∧ A.sg < A.se ∧ A.se < A.ou ∧ A.ou < A.er
end Mine
end
section
open PySem PySem.W PyProof.Rows PySem.Calls
namespace Mine
section
variable {prog : Program} {w : World} {A : Around} {E : Value → Shared → Prop} {s : Shared} {env : Env} {h₀ : Heap} {x : PySem.Str} {body : List Stmt} {Q : Flow → Shared → Prop}
noncomputable def Stop (P : Prop) : Prop := P
end
theorem mem_ends {p : Addr × Obj} {a b : List (Addr × Obj)} (h : p ∈ b) : p ∈ a ++ b := List.mem_append.mpr (.inr h)
theorem mem_left {p : Addr × Obj} {a b : List (Addr × Obj)} (h : p ∈ a) : p ∈ a ++ b := List.mem_append.mpr (.inl h)
theorem join_ones (sep : PySem.Str) (hs : sep = ⟨#[]⟩) : ∀ xs : List Nat, Txt.join sep (xs.map fun c => chS c) = ⟨xs.toArray⟩ := by
 subst hs
 have cat : ∀ (a : Nat) (r : List Nat), (⟨#[a]⟩ : PySem.Str) ++ (⟨r.toArray⟩ : PySem.Str) = ⟨(a :: r).toArray⟩ := fun a r => by
  refine PySem.Str.ext' (Array.toList_inj.mp ?_)
  rw [PySem.Str.cps_append, Array.toList_append]
  rfl
 intro xs
 rw [show Txt.join ⟨#[]⟩ (xs.map fun c => chS c) = PySem.Str.join ⟨#[]⟩ (xs.map fun c => chS c) from eq_of_beq (join_plain_closes _ _)]
 induction xs with
 | nil => rfl
 | cons a r ih =>
  cases r with
  | nil => rfl
  | cons b r =>
   show (⟨#[a]⟩ : PySem.Str) ++ ⟨#[]⟩ ++ PySem.Str.join ⟨#[]⟩ ((b :: r).map fun c => chS c) = _
   rw [ih]
   have e : (⟨#[a]⟩ : PySem.Str) ++ (⟨#[]⟩ : PySem.Str) = ⟨#[a]⟩ := by
    refine PySem.Str.ext' (Array.toList_inj.mp ?_)
    rw [PySem.Str.cps_append, Array.toList_append]
    rfl
   rw [e, cat]
theorem sum_ones (xs : List Nat) : ((xs.map fun c => chS c).map (·.length)).sum = xs.length := by
 induction xs with
 | nil => rfl
 | cons a r ih =>
  rw [List.map_cons, List.map_cons, List.sum_cons, ih, List.length_cons, Nat.add_comm]
  rfl
theorem append_L {prog : Program} {w : World} {A : Around} {E : Value → Shared → Prop} {s : Shared} {h₀ : Heap} {L D : Addr} {m : PySem.Str → Option Value} {news news' : List (Addr × Obj)} {us : List Value} {n : Nat} {x : Value} {Q : Value → Shared → Prop} (F : Fr h₀ L s.heap m) (N : News h₀ L s.heap news)
  (U : Upd D (listOf us.toArray n) (listOf (us ++ [x]).toArray (n + 1)) news news') (hz : us.length ≤ 100000)
  (h : ∀ h', Fr h₀ L h' m → News h₀ L h' news' → Q .none { s with heap := h' }) : wpAny (model prog w) A (call (.builtin "list.append") [.ref D, x]) Q E s :=
 append_K F N (its := us.toArray) (by rw [List.push_toArray]; exact U) h (by rw [List.size_toArray, sizeLine_eq]; lia)
theorem strs_of_carried : ∀ {us : List Value} {xs : List PySem.Str}, CarriedAll us (xs.map PyData.str) → StrsAre us xs
 | _, [], h => by cases h; exact .nil
 | _, _ :: _, h => by
  cases h with
  | cons h1 h2 => cases h1; exact .cons _ _ (strs_of_carried h2)
section
variable {prog : Program} {w : World} {A : Around} {E : Value → Shared → Prop} {s : Shared} {h₀ : Heap} {L l b : Addr} {m : PySem.Str → Option Value} {news : List (Addr × Obj)} {vs ws : List Value} {k k2 : Nat} {Q : Value → Shared → Prop}
theorem add_L (F : Fr h₀ L s.heap m) (N : News h₀ L s.heap news) (h1 : (l, listOf vs.toArray k) ∈ news) (h2 : (b, listOf ws.toArray k2) ∈ news) (hz : vs.length + ws.length ≤ 100000)
  (h : ∀ a h', Fr h₀ L h' m → News h₀ L h' ((a, listOf (vs ++ ws).toArray 0) :: news) → (∀ p ∈ news, p.1 < a) → Q (.ref a) { s with heap := h' }) : wpAny (model prog w) A (binaryOp .Add (.ref l) (.ref b)) Q E s :=
 add_lists (hsz := by rw [sizeLine_eq]; lia) F N (N.isList h1) (N.isList h2) fun h' F' N' => h _ h' F' N' fun p hp => Heap.lt_size (N p hp).1
theorem len_L {z : Int} (N : News h₀ L s.heap news) (h1 : (l, listOf vs.toArray k) ∈ news) (hz : (vs.length : Int) = z) (hs : vs.length ≤ 100000)
  (h : Q (.int z (s.toks + 1)) { s with toks := s.toks + 1 + 1 }) : wpAny (model prog w) A (call (.builtin "len") [.ref l]) Q E s :=
 len_list (N.isList h1) (by rw [List.size_toArray]; lia) (by rw [List.size_toArray, hz]; exact h)
theorem mod_L {a b : Int} {t u : Tok} (hb : 0 < b) (h : Q (.int (a % b) s.toks) { s with toks := s.toks + 1 }) : wpAny (model prog w) A (binaryOp .Mod (.int a t) (.int b u)) Q E s :=
 mod_int' (Int.ne_of_gt hb) (by rw [Int.fmod_eq_emod_of_nonneg _ (Int.le_of_lt hb)]; exact h)
theorem fdiv_L {a b : Int} {t u : Tok} (hb : 0 < b) (hp : Builtin.divisionGoesByPylong a b = false) (h : Q (.int (a / b) s.toks) { s with toks := s.toks + 1 }) : wpAny (model prog w) A (binaryOp .FloorDiv (.int a t) (.int b u)) Q E s :=
 floordiv_int (Int.ne_of_gt hb) (by rw [Int.fdiv_eq_ediv_of_nonneg _ (Int.le_of_lt hb)]; exact h) (.inl hp)
theorem str_cat (xs ys : List Nat) : (⟨xs.toArray⟩ : PySem.Str) ++ (⟨ys.toArray⟩ : PySem.Str) = ⟨(xs ++ ys).toArray⟩ := by
 refine PySem.Str.ext' (Array.toList_inj.mp ?_)
 rw [PySem.Str.cps_append, Array.toList_append]
theorem add_str_L {xs ys : List Nat} {t u : Tok} (hz : xs.length + ys.length ≤ 100000) (h : ∀ t' tk, Q (.str ⟨(xs ++ ys).toArray⟩ t') { s with toks := tk }) : wpAny (model prog w) A (binaryOp .Add (.str ⟨xs.toArray⟩ t) (.str ⟨ys.toArray⟩ u)) Q E s :=
 PyProof.Rows.add_str (fun t' tk => by rw [str_cat]; exact h t' tk) (by simp only [PySem.Str.length, List.size_toArray]; rw [sizeLine_eq]; lia)
theorem item_strs_L {value slice : Expr} {ks : List Nat} {z : Int} {u : Tok} (N : News h₀ L s.heap news) (h1 : (l, listOf vs.toArray k) ∈ news) (hS : StrsAre vs (ks.map fun c => chS c)) (h0 : 0 ≤ z) (hz : z < ks.length) (hk : ks.length ≤ 100000)
  (h : ∀ t', Q (.str (chS (ks.getD z.toNat 0)) t') s)
  (hs : subscripted slice false (.ref l) (.int z u) = operate [.ref l, .int z u] (getItem (.ref l) (.int z u))) (hg : ∀ r, letTemporaryGo value (.ref l) r = pure ()) :
  wpAny (model prog w) A (subscriptTail value slice (.ref l) (.int z u)) Q E s :=
 item_strsA (N.isList h1) hS h0 (by rw [List.length_map]; exact hz) (by lia) (fun t' => by
  have hlt : z.toNat < ks.length := by lia
  have e : (ks.map fun c => chS c).getD z.toNat PySem.Str.empty = chS (ks.getD z.toNat 0) := by
   simp [List.getD_eq_getElem?_getD, hlt]
  rw [e]; exact h t') hs hg
theorem item_L {value slice : Expr} {z : Int} {u : Tok} {v : Value} (N : News h₀ L s.heap news) (h1 : (l, listOf vs.toArray k) ∈ news) (h0 : 0 ≤ z) (hz : z < 100000) (hv : vs[z.toNat]? = some v) (h : Q v s)
  (hs : subscripted slice false (.ref l) (.int z u) = operate [.ref l, .int z u] (getItem (.ref l) (.int z u))) (hg : ∀ r, letTemporaryGo value (.ref l) r = pure ()) :
  wpAny (model prog w) A (subscriptTail value slice (.ref l) (.int z u)) Q E s :=
 item_listL (N.isList h1) h0 (by lia) hv h hs hg
theorem list_str_L {x : PySem.Str} {t : Tok} (hh : A.handled = none) (F : Fr h₀ L s.heap m) (N : News h₀ L s.heap news) (hz : x.length ≤ 100000)
  (h : ∀ a h' tk us k, Fr h₀ L h' m → News h₀ L h' ((a, listOf us.toArray k) :: news) → StrsAre us (x.cps.toList.map fun c => chS c) → (∀ p ∈ news, p.1 < a) → Q (.ref a) { s with heap := h', toks := tk }) :
  wpAny (model prog w) A (call (.type "list") [.str x t]) Q E s :=
 list_strD (hsz := by rw [sizeLine_eq]; lia) hh F N fun h' tk us F' N' _ hn _ ⟨⟨k, hp⟩, _⟩ hc => h _ h' tk us k F' (fun p hp' => by
  rcases List.mem_cons.mp hp' with rfl | hp'
  ·refine ⟨hp, ?_, hn⟩
   intro e
   exact absurd F.ns.lt (e ▸ Nat.lt_irrefl _)
  ·exact N' p hp') (strs_of_carried hc) fun p hp => Heap.lt_size (N p hp).1
end
end Mine
end
section
open PySem PySem.W PyProof.Rows PySem.Calls
namespace Mine
noncomputable def EltPost (J : List Value → List (Addr × Obj) → Prop) (ys : List Value) (os : List (Addr × Obj)) (s₃ : Shared) (y : Value) (s₄ : Shared) : Prop :=
 Keeps s₃ s₄ ∧ ∃ os', (∀ p ∈ os', s₄.heap.get? p.1 = some p.2 ∧ s₃.heap.get? p.1 = none) ∧ J (ys ++ [y]) (os' ++ os)
noncomputable def TestOk (prog : Program) (w : World) (A : Around) (ifs : List Expr) (env : Env) (b : Bool) (s₃ : Shared) : Prop :=
 ∀ E' : Value → Shared → Prop, wpAny (model prog w) A (forIn ifs true fun c r => if r = true then do let ok ← isTrue c env (eval c env); pure (ForInStep.yield ok) else pure (ForInStep.yield r)) (fun ok s₄ => ok = b ∧ Keeps s₃ s₄) E' s₃
inductive CLInv (s : Shared) (D C : Addr) (fp wr : List Addr) (n : Nat) (St : Nat → Heap → Prop) (J : Nat → List Value → List (Addr × Obj) → Prop) (k : Nat) (s' : Shared) : Prop
 | mk (h' : Heap) (tk : Nat) (m' : PySem.Str → Option Value) (ys : List Value) (os : List (Addr × Obj)) (i : Nat) : s' = { s with heap := h', toks := tk } → St i h' → h'.PlainList D ys.toArray → h'.Ns C m' → J i ys os →
   (∀ p ∈ os, h'.get? p.1 = some p.2 ∧ s.heap.get? p.1 = none ∧ p.1 ≠ C ∧ p.1 ≠ D ∧ p.1 ∉ fp) → i ≤ n → ys.length ≤ i → k = n + 1 - i →
   (∀ b o, b ≠ C → b ∉ wr → b ≠ D → s.heap.get? b = some o → h'.get? b = some o) → CLInv s D C fp wr n St J k s'
section
variable {prog : Program} {w : World} {A : Around} {R : Result → Shared → Prop} {s : Shared}
theorem compLoopM {elt iter : Expr} {x : PySem.Str} {px : Pos} {ifs : List Expr} {scope : Scope} {pos : Pos} {I D : Addr} {fp wr : List Addr} {n : Nat} {P : Nat → Value → Prop} {St : Nat → Heap → Prop}
  {cenv : Env} {m : PySem.Str → Option Value} (W : Walks prog w A I fp wr n P St) (test : Nat → Bool) (J : Nat → List Value → List (Addr × Obj) → Prop)
  (hlive : ∀ i h, St i h → ∀ b ∈ fp, ∃ o, h.get? b = some o)
  (hx : cenv.kindOf x = some .local) (hp : (cenv.scope.kind == .class || (cenv.scope.kind == .module && cenv.locals != cenv.globals)) = false)
  (hDC : D ≠ cenv.locals) (hDf : D ∉ fp) (hCf : cenv.locals ∉ fp)
  (hst : St 0 s.heap) (hacc : s.heap.PlainList D #[]) (hn : s.heap.Ns cenv.locals m) (hj : J 0 [] [])
  (htests : ∀ i v s₂ m₂, (∃ h tk, s₂ = { s with heap := h, toks := tk }) → i < n → P i v → s₂.heap.Ns cenv.locals m₂ → m₂ x = some v → (∀ b o, b ≠ cenv.locals → b ∉ wr → b ≠ D → s.heap.get? b = some o → s₂.heap.get? b = some o) →
   TestOk prog w A ifs cenv (test i) s₂)
  (hskip : ∀ i v ys os, i < n → P i v → test i = false → J i ys os → J (i + 1) ys os)
  (helt : ∀ i v s₂ m₂ ys os (E' : Value → Shared → Prop), (∃ h tk, s₂ = { s with heap := h, toks := tk }) → i < n → P i v → test i = true → J i ys os → s₂.heap.Ns cenv.locals m₂ → m₂ x = some v → (∀ b o, b ≠ cenv.locals → b ∉ wr → b ≠ D → s.heap.get? b = some o → s₂.heap.get? b = some o) →
   (∀ p ∈ os, s₂.heap.get? p.1 = some p.2 ∧ s.heap.get? p.1 = none) →
   wpAny (model prog w) A (eval elt cenv) (EltPost (J (i + 1)) ys os s₂) E' s₂)
  (hR : ∀ h' tk m' ys os, h'.Ns cenv.locals m' → h'.PlainList D ys.toArray → J n ys os → (∀ p ∈ os, h'.get? p.1 = some p.2 ∧ s.heap.get? p.1 = none ∧ p.1 ≠ cenv.locals ∧ p.1 ≠ D) →
   (∀ b o, b ≠ cenv.locals → b ∉ wr → b ≠ D → s.heap.get? b = some o → h'.get? b = some o) → R (.ok .next) { s with heap := h', toks := tk })
  (hsz : n ≤ 100000) :
  codeAny (model prog w) A (.compLoop (.ListComp elt [⟨.Name x px, iter, ifs, 0⟩] scope pos) 0 (.ref I) (.ref D) cenv) R s := by
 refine codeAny_compLoop_tests
  (CLInv s D cenv.locals fp wr n St J) ?_ (n + 1)
  ⟨s.heap, s.toks, m, [], [], 0, rfl, hst, hacc, hn, hj, (fun _ h => nomatch h), Nat.zero_le _, Nat.zero_le _, rfl, fun _ _ _ _ _ e => e⟩
 intro k s' zf19
 obtain ⟨H, tk, m', ys, os, i, rfl, hst', hacc', hn', hJ, hos, hi, hyl, rfl, hk⟩ := zf19
 have hCw : cenv.locals ∉ wr := fun h => hCf (W.sub _ h)
 have hDw : D ∉ wr := fun h => hDf (W.sub _ h)
 by_cases hlt : i < n
 ·refine W.item i _ _ _ hlt hst' fun v h₁ tk₁ hPv hst₁ hk₁ => ?_
  refine wpAny_assign_Name (wpAny_storeName_local hx (hn'.at' fun o e => hk₁ _ o hCw e) (fun h₂ hn₂ hs₂ => ?_) hp)
  have up₂ : ∀ b o, b ≠ cenv.locals → b ∉ wr → H.get? b = some o → h₂.get? b = some o := fun b o hbC hbf e => hs₂.extBut b o hbC (hk₁ b o hbf e)
  have hst₂ : St (i + 1) h₂ := W.frame _ _ _ hst₁ fun b hb o e => hs₂.extBut b o (fun h => hCf (h ▸ hb)) e
  refine wpAny_mono (htests i v _ _ ⟨_, _, rfl⟩ hlt hPv hn₂ (by simp) (fun b o hbC hbf hbD e => up₂ b o hbC hbf (hk b o hbC hbf hbD e)) _) (fun ok s₃ h₃ => ?_) fun _ _ e => e
  obtain ⟨rfl, h₃, tk₃, rfl, hk₃⟩ := h₃
  have hst₃ : St (i + 1) h₃ := W.frame _ _ _ hst₂ fun b _ o e => hk₃ b o e
  have hacc₃ : h₃.PlainList D ys.toArray := hacc'.at fun o e => hk₃ _ o (up₂ D o hDC hDw e)
  have hn₃ := hn₂.keeps hk₃
  have hos₃ : ∀ p ∈ os, h₃.get? p.1 = some p.2 ∧ s.heap.get? p.1 = none ∧ p.1 ≠ cenv.locals ∧ p.1 ≠ D ∧ p.1 ∉ fp := fun p hp => by
   obtain ⟨a, b, c, d, e⟩ := hos p hp
   exact ⟨hk₃ _ _ (up₂ _ _ c (fun h => e (W.sub _ h)) a), b, c, d, e⟩
  have keep₃ : ∀ b o, b ≠ cenv.locals → b ∉ wr → b ≠ D → s.heap.get? b = some o → h₃.get? b = some o := fun b o hbC hbf hbD e => hk₃ b o (up₂ b o hbC hbf (hk b o hbC hbf hbD e))
  cases ht : test i with
  | false =>
   simp only [Bool.false_eq_true, if_false]
   exact ⟨n + 1 - (i + 1), by lia, h₃, tk₃, _, ys, os, i + 1, rfl, hst₃, hacc₃, hn₃, hskip i v ys os hlt hPv ht hJ, hos₃, hlt, Nat.le_succ_of_le hyl, rfl, keep₃⟩
  | true =>
   simp only [if_true]
   refine wpAny_mono (helt i v _ _ ys os _ ⟨_, _, rfl⟩ hlt hPv ht hJ hn₃ (by simp) keep₃ (fun p hp => ⟨(hos₃ p hp).1, (hos₃ p hp).2.1⟩)) (fun y s₄ h₄ => ?_) fun _ _ e => e
   obtain ⟨⟨h₄, tk₄, rfl, hk₄⟩, os', hos', hJ'⟩ := h₄
   have new : ∀ p ∈ os', p.1 ≠ cenv.locals ∧ p.1 ≠ D ∧ p.1 ∉ fp ∧ s.heap.get? p.1 = none := fun p hp => by
    have hnone := (hos' p hp).2
    have hC : p.1 ≠ cenv.locals := by obtain ⟨_, _, _, ho, _⟩ := hn₃; exact ne_of_none_some hnone ho
    have hD : p.1 ≠ D := by obtain ⟨_, ho⟩ := hacc₃; exact ne_of_none_some hnone ho
    have hf : p.1 ∉ fp := fun hm => by obtain ⟨o, ho⟩ := hlive _ _ hst₃ _ hm; exact absurd rfl (ne_of_none_some hnone ho)
    refine ⟨hC, hD, hf, ?_⟩
    cases e : s.heap.get? p.1 with
    | none => rfl
    | some o => exact absurd rfl (ne_of_none_some hnone (keep₃ p.1 o hC (fun h => hf (W.sub _ h)) hD e))
   refine wpAny_list_append_plain (hsz := by rw [List.size_toArray, sizeLine_eq]; lia) (hacc₃.at fun o e => hk₄ _ o e) fun h₅ hl₅ hs₅ => ?_
   refine ⟨n + 1 - (i + 1), by lia, h₅, tk₄, _, ys ++ [y], os' ++ os, i + 1, rfl, ?_, by rw [← List.push_toArray]; exact hl₅, (hn₃.keeps hk₄).sameBut hs₅ (Ne.symm hDC), hJ', ?_, hlt, by rw [List.length_append]; exact Nat.succ_le_succ hyl, rfl,
    fun b o hbC hbf hbD e => hs₅.extBut b o hbD (hk₄ b o (keep₃ b o hbC hbf hbD e))⟩
   ·exact W.frame _ _ h₅ hst₃ fun b hb o e => hs₅.extBut b o (fun h => hDf (h ▸ hb)) (hk₄ b o e)
   ·intro p hp
    rcases List.mem_append.mp hp with hp | hp
    ·refine xAAA (new p hp) fun a b c d => ?_
     exact ⟨hs₅.extBut _ _ b (hos' p hp).1, d, a, b, c⟩
    ·refine xAAAA (hos₃ p hp) fun a b c d e => ?_
     exact ⟨hs₅.extBut _ _ d (hk₄ _ _ a), b, c, d, e⟩
 ·have hin : i = n := by lia
  subst hin
  refine W.done _ _ _ hst' fun h₁ tk₁ hk₁ => ?_
  exact hR h₁ tk₁ m' ys os (hn'.at' fun o e => hk₁ _ o hCw e) (hacc'.at fun o e => hk₁ _ o hDw e) hJ (fun p hp => by
   refine xAAAA (hos p hp) fun a b c d e => ?_
   exact ⟨hk₁ _ _ (fun h => e (W.sub _ h)) a, b, c, d⟩) fun b o hbC hbf hbD e => hk₁ b o hbf (hk b o hbC hbf hbD e)
end
section
variable {prog : Program} {w : World} {A : Around} {E : Value → Shared → Prop} {env : Env}
theorem compBlockM {elt iter : Expr} {x : PySem.Str} {px : Pos} {ifs : List Expr} {scope : Scope} {cl : List (PySem.Str × Addr)} {pos : Pos} {s₂ : Shared} {I : Addr} {fp wr : List Addr} {n : Nat} {P : Nat → Value → Prop}
  {St : Nat → Heap → Prop} (W : Walks prog w A I fp wr n P St) (hsz : n ≤ 100000) (test : Nat → Bool) (J : Nat → List Value → List (Addr × Obj) → Prop) {RR : Value → Addr → Result → Shared → Prop}
  (hlive : ∀ i h, St i h → ∀ b ∈ fp, ∃ o, h.get? b = some o)
  (hcell : ∀ y ∈ scope.names, y.2 ≠ .cell) (hkind : scope.kind = .function) (hx : scope.names.lookup x = some .local) (hst : St 0 s₂.heap) (hj : J 0 [] [])
  (htests : ∀ C i v s₃ m₃, s₂.heap.get? C = none → (∃ h tk, s₃ = { s₂ with heap := h, toks := tk }) → i < n → P i v → s₃.heap.Ns C m₃ → m₃ x = some v → (∀ b o, b ∉ wr → s₂.heap.get? b = some o → s₃.heap.get? b = some o) →
   TestOk prog w A ifs (compEnvC scope cl C env) (test i) s₃)
  (hskip : ∀ i v ys os, i < n → P i v → test i = false → J i ys os → J (i + 1) ys os)
  (helt : ∀ C i v s₃ m₃ ys os (E' : Value → Shared → Prop), s₂.heap.get? C = none → (∃ h tk, s₃ = { s₂ with heap := h, toks := tk }) → i < n → P i v → test i = true → J i ys os → s₃.heap.Ns C m₃ → m₃ x = some v → (∀ b o, b ∉ wr → s₂.heap.get? b = some o → s₃.heap.get? b = some o) →
   (∀ p ∈ os, s₃.heap.get? p.1 = some p.2 ∧ s₂.heap.get? p.1 = none) →
   wpAny (model prog w) A (eval elt (compEnvC scope cl C env)) (EltPost (J (i + 1)) ys os s₃) E' s₃)
  (hRR : ∀ D C h' tk m' ys os, s₂.heap.get? D = none → s₂.heap.get? C = none → D ≠ C → s₂.heap.objs.size ≤ D → h'.Ns C m' → h'.PlainList D ys.toArray → J n ys os → (∀ p ∈ os, h'.get? p.1 = some p.2 ∧ s₂.heap.get? p.1 = none ∧ p.1 ≠ C ∧ p.1 ≠ D) →
   (∀ b o, b ∉ wr → s₂.heap.get? b = some o → h'.get? b = some o) → RR (.ref D) C (.ok .next) { s₂ with heap := h', toks := tk }) :
  wpAny (model prog w) A (newList []) (fun acc s₃ => wpAny (model prog w) A (newFunctionEnv scope env.globals cl [] env.qual none .none (some env)) (fun cenv s₄ =>
   codeAny (model prog w) A (.compStart (.ListComp elt [⟨.Name x px, iter, ifs, 0⟩] scope pos) 0 (.ref I) acc { cenv with scope := relabel scope env }) (RR acc cenv.locals) s₄) E s₃) E s₂ := by
 have hfp : ∀ b ∈ fp, b < s₂.heap.objs.size := fun b hb => by obtain ⟨o, ho⟩ := hlive _ _ hst b hb; exact Heap.lt_size ho
 refine wpAny_newObj_type (wpAny_newFunctionEnv hcell (by intro y hy; simp at hy) (fun h₁ hns₁ hsb₁ => ?_) hkind)
 dsimp only at hns₁ hsb₁ ⊢
 generalize hH2 : s₂.heap.push { cls := .type "list", dict := none, data := .seq ([] : List Value).toArray } = H2 at hns₁ hsb₁ ⊢
 have hC : H2.objs.size = s₂.heap.objs.size + 1 := by rw [← hH2, Heap.size_push]
 have hDC : s₂.heap.objs.size ≠ H2.objs.size := by rw [hC]; exact Nat.ne_of_lt (Nat.lt_succ_self _)
 have below : ∀ b, b < s₂.heap.objs.size → b ≠ H2.objs.size ∧ b ≠ s₂.heap.objs.size := fun b hb => ⟨by rw [hC]; exact Nat.ne_of_lt (Nat.lt_succ_of_lt hb), Nat.ne_of_lt hb⟩
 have hDf : s₂.heap.objs.size ∉ fp := fun hm => Nat.lt_irrefl _ (hfp _ hm)
 have hCf : H2.objs.size ∉ fp := fun hm => by have := hfp _ hm; rw [hC] at this; exact Nat.lt_irrefl _ (Nat.lt_of_succ_lt this)
 have old : ∀ b o, s₂.heap.get? b = some o → h₁.get? b = some o := fun b o e => hsb₁.extBut b o (below b (Heap.lt_size e)).1 (Heap.get?_push_of_some _ (hH2 ▸ Heap.get?_push_of_some _ e))
 have hacc : h₁.PlainList s₂.heap.objs.size #[] := ⟨_, hsb₁.extBut _ _ hDC (Heap.get?_push_of_some _ (hH2 ▸ Heap.get?_push_size _ rfl))⟩
 have hst₁ : St 0 h₁ := W.frame _ _ _ hst fun b _ o e => old b o e
 have fresh : ∀ a, s₂.heap.objs.size ≤ a → s₂.heap.get? a = none := fun a ha => by
  cases e : s₂.heap.get? a with
  | none => rfl
  | some o' => exact absurd (Heap.lt_size e) (Nat.not_lt.mpr ha)
 have older : ∀ T, h₁.get? T = none → s₂.heap.get? T = none := fun T hT => by
  cases e : s₂.heap.get? T with
  | none => rfl
  | some o' => rw [old T o' e] at hT; cases hT
 have hCn : s₂.heap.get? H2.objs.size = none := fresh _ (by rw [hC]; exact Nat.le_succ _)
 have loop : ∀ s₃ : Shared, s₃ = { s₂ with heap := h₁, toks := s₂.toks + ([] : List (PySem.Str × Value)).length } →
   codeAny (model prog w) A (.compLoop (.ListComp elt [⟨.Name x px, iter, ifs, 0⟩] scope pos) 0 (.ref I) (.ref s₂.heap.objs.size) (compEnvC scope cl H2.objs.size env))
    (RR (.ref s₂.heap.objs.size) H2.objs.size) s₃ := by
  rintro s₃ rfl
  refine compLoopM (cenv := compEnvC scope cl H2.objs.size env) W test J hlive (lookup_relabel_local hx) (by simp [compEnvC, relabel, hkind]) hDC hDf hCf hst₁ hacc hns₁ hj
   (fun i v s₃ m₃ hs hi hv hn hm hk => htests _ i v s₃ m₃ hCn (by obtain ⟨a, b, e⟩ := hs; exact ⟨a, b, e⟩) hi hv hn hm fun b o hbf e => hk b o (below b (Heap.lt_size e)).1 hbf (below b (Heap.lt_size e)).2 (old b o e)) hskip
   (fun i v s₃ m₃ ys os E' hs hi hv ht hJ hn hm hk hos => helt _ i v s₃ m₃ ys os E' hCn (by obtain ⟨a, b, e⟩ := hs; exact ⟨a, b, e⟩) hi hv ht hJ hn hm (fun b o hbf e => hk b o (below b (Heap.lt_size e)).1 hbf (below b (Heap.lt_size e)).2 (old b o e)) fun p hp => ⟨(hos p hp).1, older _ (hos p hp).2⟩)
   (fun h' tk m' ys os hn hpl hJ hos hk => ?_) hsz
  exact hRR _ _ h' tk m' ys os (fresh _ (Nat.le_refl _)) hCn hDC (Nat.le_refl _) hn hpl hJ (fun p hp => ⟨(hos p hp).1, older _ (hos p hp).2.1, (hos p hp).2.2⟩) fun b o hbf e =>
   hk b o (below b (Heap.lt_size e)).1 hbf (below b (Heap.lt_size e)).2 (old b o e)
 exact codeAny_compStart_list (loop _ rfl) (W.self 0 _ _ _ hst₁ (loop _ rfl))
inductive CompAt (prog : Program) (w : World) (A : Around) (h₀ : Heap) (env : Env) (scope : Scope) (cl : List (PySem.Str × Addr)) (x : PySem.Str) (ifs : List Expr) (elt : Expr) (Q : Value → Shared → Prop) (it : Value) (s₂ : Shared) : Prop
 | mk (I : Addr) (fp wr : List Addr) (n : Nat) (P : Nat → Value → Prop) (St : Nat → Heap → Prop) (test : Nat → Bool) (J : Nat → List Value → List (Addr × Obj) → Prop) (m : PySem.Str → Option Value) (news : List (Addr × Obj)) :
  it = .ref I → Walks prog w A I fp wr n P St → n ≤ 100000 → (∀ i h, St i h → ∀ b ∈ fp, ∃ o, h.get? b = some o) → env.locals ∉ fp → (∀ b ∈ wr, h₀.get? b = none) → (∀ q ∈ news, q.1 ∉ wr) → St 0 s₂.heap → J 0 [] [] → Fr h₀ env.locals s₂.heap m → News h₀ env.locals s₂.heap news →
  (∀ C i v s₃ m₃, (∃ h tk, s₃ = { s₂ with heap := h, toks := tk }) → i < n → P i v → s₃.heap.Ns C m₃ → m₃ x = some v → (∀ b o, b ∉ wr → s₂.heap.get? b = some o → s₃.heap.get? b = some o) → Fr h₀ env.locals s₃.heap m → News h₀ env.locals s₃.heap news →
   TestOk prog w A ifs (compEnvC scope cl C env) (test i) s₃) →
  (∀ i v ys os, i < n → P i v → test i = false → J i ys os → J (i + 1) ys os) →
  (∀ C i v h tk m₃ ys os (E' : Value → Shared → Prop), i < n → P i v → test i = true → J i ys os → h.Ns C m₃ → m₃ x = some v → Fr h₀ env.locals h m → News h₀ env.locals h (os ++ news) →
   wpAny (model prog w) A (eval elt (compEnvC scope cl C env)) (EltPost (J (i + 1)) ys os { s₂ with heap := h, toks := tk }) E' { s₂ with heap := h, toks := tk }) →
  (∀ D k h' tk ys os, J n ys os → (∀ p ∈ news, p.1 < D) → Fr h₀ env.locals h' m → News h₀ env.locals h' ((D, listOf ys.toArray k) :: (os ++ news)) → Q (.ref D) { s₂ with heap := h', toks := tk }) →
  CompAt prog w A h₀ env scope cl x ifs elt Q it s₂
theorem compF {h₀ : Heap} {L : Addr} {m₀ : PySem.Str → Option Value} {s : Shared} {elt iter : Expr} {x : PySem.Str} {px : Pos} {ifs : List Expr} {scope : Scope} {cl : List (PySem.Str × Addr)} {pos : Pos} {Q : Value → Shared → Prop} (_F : Fr h₀ L s.heap m₀)
  (hclos : closureFor scope env = pure cl) (hcell : ∀ y ∈ scope.names, y.2 ≠ .cell) (hkind : scope.kind = .function)
  (hnames : ∀ y ∈ scope.names, y.2 = .local → scope.names.lookup y.1 = some .local) (hx : scope.names.lookup x = some .local) (hs : ∀ x, foldedSetIterable iter env x = pure x)
  (h : wpAny (model prog w) A (eval iter env) (fun xv s₁ => wpAny (model prog w) A (pyIter xv) (fun it s₂ => CompAt prog w A h₀ env scope cl x ifs elt Q it s₂) E s₁) E s) :
  wpAny (model prog w) A (eval (.ListComp elt [⟨.Name x px, iter, ifs, 0⟩] scope pos) env) Q E s := by
 rw [eval_ListComp]
 refine wpAny_comprehension_free (use := none) rfl hs hclos hkind hnames (wpAny_mono h (fun xv s₁ h₁ => wpAny_mono h₁ (fun it s₂ h₂ => ?_) fun _ _ e => e) fun _ _ e => e)
 obtain ⟨I, fp, wr, n, P, St, test, J, m, news, rfl, W, hsz, hlive, hLf, hwr, hnw, hst, hj, F, N, htests, hskip, helt, hQ⟩ := h₂
 have hLw : env.locals ∉ wr := fun h => hLf (W.sub _ h)
 have hFr : ∀ h' : Heap, (∀ b o, b ∉ wr → s₂.heap.get? b = some o → h'.get? b = some o) → Fr h₀ env.locals h' m := fun h' hk =>
  ⟨F.ns.at' fun o e => hk _ o hLw e, fun b o e => hk b o (fun hb => by rw [hwr b hb] at e; cases e) (F.keep b o e), F.above⟩
 have hNe : ∀ h' : Heap, (∀ b o, b ∉ wr → s₂.heap.get? b = some o → h'.get? b = some o) → News h₀ env.locals h' news := fun h' hk p hp => ⟨hk _ _ (hnw p hp) (N p hp).1, (N p hp).2⟩
 have h₀n : ∀ b, s₂.heap.get? b = none → h₀.get? b = none := fun b hb => by
  cases e : h₀.get? b with
  | none => rfl
  | some o => rw [F.keep b o e] at hb; cases hb
 have neL : ∀ b, s₂.heap.get? b = none → b ≠ env.locals := fun b hb => by
  refine xEEEA F.ns fun _ _ _ ho _ => ?_
  exact ne_of_none_some hb ho
 refine compBlockM (RR := fun acc C => compPost (model prog w) A E none Q acc C) W hsz test J hlive hcell hkind hx hst hj (fun C i v s₃ m₃ _ hs hi hP hn hm hk => htests C i v s₃ m₃ hs hi hP hn hm hk (hFr _ hk) (hNe _ hk)) hskip ?_ ?_
 ·intro C i v s₃ m₃ ys os E' hCn zf21 hi hP ht hJ hn hm hk hos
  refine xEE zf21 fun h tk zq1 => ?_
  subst zq1
  refine helt C i v h tk m₃ ys os E' hi hP ht hJ hn hm (hFr _ hk) fun p hp => ?_
  rcases List.mem_append.mp hp with hp | hp
  ·exact ⟨(hos p hp).1, neL _ (hos p hp).2, h₀n _ (hos p hp).2⟩
  ·exact hNe _ hk p hp
 ·intro D C h' tk m' ys os hD hC hDC hDs hn hpl hJ hos hk
  refine ⟨m', hn, fun h'' hs'' => ?_⟩
  have hk'' : ∀ b o, b ∉ wr → s₂.heap.get? b = some o → h''.get? b = some o := fun b o hbf e => hs''.extBut b o (by rintro rfl; rw [hC] at e; cases e) (hk b o hbf e)
  obtain ⟨k, hpl⟩ := hpl
  refine hQ D k h'' tk ys os hJ (fun p hp => Nat.lt_of_lt_of_le (Heap.lt_size (N p hp).1) hDs) (hFr _ hk'') fun p hp => ?_
  rcases List.mem_cons.mp hp with rfl | hp
  ·exact ⟨hs''.extBut _ _ hDC hpl, neL _ hD, h₀n _ hD⟩
  ·rcases List.mem_append.mp hp with hp | hp
   ·refine xAAA (hos p hp) fun a b c d => ?_
    exact ⟨hs''.extBut _ _ c a, neL _ b, h₀n _ b⟩
   ·exact hNe _ hk'' p hp
theorem testOk_nil {env : Env} {s₃ : Shared} : TestOk prog w A [] env true s₃ := fun _ => wpAny_pure ⟨rfl, _, _, rfl, fun _ _ e => e⟩
theorem compStr {h₀ : Heap} {s : Shared} {scope : Scope} {cl : List (PySem.Str × Addr)} {x : PySem.Str} {ifs : List Expr} {elt : Expr} {Q : Value → Shared → Prop} {xt : PySem.Str} {tx : Tok} {m₀ : PySem.Str → Option Value} {news : List (Addr × Obj)}
  (b : Bool) (J : Nat → List Value → List (Addr × Obj) → Prop)
  (hh : A.handled = none) (hsz : xt.cps.size ≤ 100000) (F : Fr h₀ env.locals s.heap m₀) (N : News h₀ env.locals s.heap news) (hj : J 0 [] [])
  (tests : ∀ C c t h tk m₃, h.Ns C m₃ → m₃ x = some (.str ⟨#[c]⟩ t) → Fr h₀ env.locals h m₀ → News h₀ env.locals h news → TestOk prog w A ifs (compEnvC scope cl C env) b { s with heap := h, toks := tk })
  (skip : ∀ i ys os, b = false → J i ys os → J (i + 1) ys os)
  (turn : ∀ C i c t h tk m₃ ys os (E' : Value → Shared → Prop), xt.cps[i]? = some c → b = true → J i ys os → h.Ns C m₃ → m₃ x = some (.str ⟨#[c]⟩ t) → Fr h₀ env.locals h m₀ → News h₀ env.locals h (os ++ news) →
   wpAny (model prog w) A (eval elt (compEnvC scope cl C env)) (EltPost (J (i + 1)) ys os { s with heap := h, toks := tk }) E' { s with heap := h, toks := tk })
  (done : ∀ D k h' tk ys os, J xt.cps.size ys os → (∀ p ∈ news, p.1 < D) → Fr h₀ env.locals h' m₀ → News h₀ env.locals h' ((D, listOf ys.toArray k) :: (os ++ news)) → Q (.ref D) { s with heap := h', toks := tk }) :
  Stop (wpAny (model prog w) A (pyIter (.str xt tx)) (fun it s₂ => CompAt prog w A h₀ env scope cl x ifs elt Q it s₂) E s) := by
 have hL : env.locals ∉ [s.heap.objs.size] := fun hm => absurd F.ns.lt ((List.mem_singleton.mp hm) ▸ Nat.lt_irrefl _)
 have hbn : ∀ b ∈ [s.heap.objs.size], h₀.get? b = none := fun b hb => by rw [List.mem_singleton.mp hb]; exact next_is_new F
 have hfp : ∀ q ∈ news, q.1 ∉ [s.heap.objs.size] := fun p hp hI => absurd (Heap.lt_size (N p hp).1) ((List.mem_singleton.mp hI) ▸ Nat.lt_irrefl _)
 have hN : ∀ o, News h₀ env.locals (s.heap.push o) news := fun o p hp => ⟨Heap.get?_push_of_some _ (N p hp).1, (N p hp).2⟩
 show wpAny _ _ _ _ _ _
 cases ha : xt.cps.all (· < 128)
 ·refine wpAny_pyIter_wide ha ?_
  refine ⟨_, _, _, _, _, _, fun _ => b, J, m₀, news, rfl, Walks.strWide hh _ xt tx, hsz, fun i h hs b hb => ?_, hL, hbn, hfp, ⟨_, Heap.get?_push_size _ rfl, rfl, rfl⟩, hj, F.push _, hN _, ?_, fun i _ ys os _ _ => skip i ys os, ?_, done⟩
  ·rw [List.mem_singleton.mp hb]; obtain ⟨o, ho, _⟩ := hs; exact ⟨o, ho⟩
  ·intro C i v s₃ m₃ zf22 hi zf23 hn hm hk F₃ N₃
   refine xEE zf22 fun h tk zq2 => ?_
   subst zq2
   refine xEEA zf23 fun c u hc zq3 => ?_
   subst zq3
   exact tests C c u h tk m₃ hn hm F₃ N₃
  ·intro C i v h tk m₃ ys os E' hi zf24 ht hJ hn hm F₃ N₃
   refine xEEA zf24 fun c u hc zq4 => ?_
   subst zq4
   exact turn C i c u h tk m₃ ys os E' hc ht hJ hn hm F₃ N₃
 ·refine wpAny_pyIter_ascii ha ?_
  refine ⟨_, _, _, _, _, _, fun _ => b, J, m₀, news, rfl, Walks.strAscii hh _ xt tx, hsz, fun i h hs b hb => ?_, hL, hbn, hfp, ⟨_, Heap.get?_push_size _ rfl, rfl, rfl⟩, hj, F.push _, hN _, ?_, fun i _ ys os _ _ => skip i ys os, ?_, done⟩
  ·rw [List.mem_singleton.mp hb]; obtain ⟨o, ho, _⟩ := hs; exact ⟨o, ho⟩
  ·intro C i v s₃ m₃ zf25 hi zf26 hn hm hk F₃ N₃
   refine xEE zf25 fun h tk zq5 => ?_
   subst zq5
   refine xEEA zf26 fun c u hc zq6 => ?_
   subst zq6
   exact tests C c u h tk m₃ hn hm F₃ N₃
  ·intro C i v h tk m₃ ys os E' hi zf27 ht hJ hn hm F₃ N₃
   refine xEEA zf27 fun c u hc zq7 => ?_
   subst zq7
   exact turn C i c u h tk m₃ ys os E' hc ht hJ hn hm F₃ N₃
theorem compRange {h₀ : Heap} {s : Shared} {scope : Scope} {cl : List (PySem.Str × Addr)} {x : PySem.Str} {elt : Expr} {Q : Value → Shared → Prop} {r : Addr} {b₀ : Int} {t₀ u₀ v₀ : Tok} {n : Nat} {m₀ : PySem.Str → Option Value} {news : List (Addr × Obj)}
  (J : Nat → List Value → List (Addr × Obj) → Prop)
  (hh : A.handled = none) (hr : IsRange s.heap r 0 b₀ 1 t₀ u₀ v₀) (hsmall : Builtin.Range.small 0 b₀ 1 = true) (hsz : Builtin.Range.rangeSize 0 b₀ 1 = (n : Int)) (hn : n ≤ 100000)
  (F : Fr h₀ env.locals s.heap m₀) (N : News h₀ env.locals s.heap news) (hj : J 0 [] [])
  (turn : ∀ C i t h tk m₃ ys os (E' : Value → Shared → Prop), i < n → J i ys os → h.Ns C m₃ → m₃ x = some (.int (i : Int) t) → Fr h₀ env.locals h m₀ → News h₀ env.locals h (os ++ news) →
   wpAny (model prog w) A (eval elt (compEnvC scope cl C env)) (EltPost (J (i + 1)) ys os { s with heap := h, toks := tk }) E' { s with heap := h, toks := tk })
  (done : ∀ D k h' tk ys os, J n ys os → (∀ p ∈ news, p.1 < D) → Fr h₀ env.locals h' m₀ → News h₀ env.locals h' ((D, listOf ys.toArray k) :: (os ++ news)) → Q (.ref D) { s with heap := h', toks := tk }) :
  Stop (wpAny (model prog w) A (pyIter (.ref r)) (fun it s₂ => CompAt prog w A h₀ env scope cl x [] elt Q it s₂) E s) := by
 show wpAny _ _ _ _ _ _
 refine wpAny_pyIter_range hr hsmall ?_
 have W : Walks prog w A s.heap.objs.size [s.heap.objs.size] [s.heap.objs.size] n (fun i v => i < n ∧ ∃ t, v = .int (0 + i * 1) t)
   (fun i h => IsRangeIter h s.heap.objs.size (0 + (i : Nat) * 1) ((n : Int) - (i : Nat)) 1) := (Walks.range hh _ 0 1 n).bound
 refine ⟨_, _, _, _, _, _, fun _ => true, J, m₀, news, rfl, W, hn, (fun i h hs b hb => by rw [List.mem_singleton.mp hb]; exact ⟨_, hs⟩), (fun hm => absurd F.ns.lt ((List.mem_singleton.mp hm) ▸ Nat.lt_irrefl _)),
  (fun b hb => by rw [List.mem_singleton.mp hb]; exact next_is_new F), (fun p hp hI => absurd (Heap.lt_size (N p hp).1) ((List.mem_singleton.mp hI) ▸ Nat.lt_irrefl _)),
  (by show IsRangeIter _ _ _ _ _; rw [hsz]; simpa using Heap.get?_push_size _ rfl), hj, F.push _, (fun p hp => ⟨Heap.get?_push_of_some _ (N p hp).1, (N p hp).2⟩), ?_, (fun i _ ys os _ _ h => by cases h), ?_, done⟩
 ·intros; exact testOk_nil
 ·intro C i v h tk m₃ ys os E' hi zf28 ht hJ hn hm F₃ N₃
  refine xAE zf28 fun _ t zq8 => ?_
  subst zq8
  have e1 : (0 : Int) + (i : Int) * 1 = (i : Int) := by lia
  rw [e1] at hm
  exact turn C i t h tk m₃ ys os E' hi hJ hn hm F₃ N₃
end
end Mine
end
section
open PySem PySem.W PyProof.Rows Mine
namespace Mine
theorem gn_is_blank (P : Params) : nsIn (hd.heap_1 P) mainGlobals (ofString "is_blank") = some (some (.ref 60)) := by k_is
theorem db_is_blank : (ofString "is_blank" == ofString "__debug__") = false := by decide +kernel
theorem kp_is_blank (P : Params) : keepIn (hd.heap_1 P) (.ref 60) = true := by k_is
theorem gn_is_space (P : Params) : nsIn (hd.heap_1 P) mainGlobals (ofString "is_space") = some (some (.ref 67)) := by k_is
theorem db_is_space : (ofString "is_space" == ofString "__debug__") = false := by decide +kernel
theorem kp_is_space (P : Params) : keepIn (hd.heap_1 P) (.ref 67) = true := by k_is
theorem gn_is_upper (P : Params) : nsIn (hd.heap_1 P) mainGlobals (ofString "is_upper") = some (some (.ref 74)) := by k_is
theorem db_is_upper : (ofString "is_upper" == ofString "__debug__") = false := by decide +kernel
theorem kp_is_upper (P : Params) : keepIn (hd.heap_1 P) (.ref 74) = true := by k_is
theorem gn_is_lower (P : Params) : nsIn (hd.heap_1 P) mainGlobals (ofString "is_lower") = some (some (.ref 81)) := by k_is
theorem db_is_lower : (ofString "is_lower" == ofString "__debug__") = false := by decide +kernel
theorem kp_is_lower (P : Params) : keepIn (hd.heap_1 P) (.ref 81) = true := by k_is
theorem gn_is_letter (P : Params) : nsIn (hd.heap_1 P) mainGlobals (ofString "is_letter") = some (some (.ref 88)) := by k_is
theorem db_is_letter : (ofString "is_letter" == ofString "__debug__") = false := by decide +kernel
theorem kp_is_letter (P : Params) : keepIn (hd.heap_1 P) (.ref 88) = true := by k_is
theorem gn_is_digit (P : Params) : nsIn (hd.heap_1 P) mainGlobals (ofString "is_digit") = some (some (.ref 95)) := by k_is
theorem db_is_digit : (ofString "is_digit" == ofString "__debug__") = false := by decide +kernel
theorem kp_is_digit (P : Params) : keepIn (hd.heap_1 P) (.ref 95) = true := by k_is
theorem gn_is_hex (P : Params) : nsIn (hd.heap_1 P) mainGlobals (ofString "is_hex") = some (some (.ref 102)) := by k_is
theorem db_is_hex : (ofString "is_hex" == ofString "__debug__") = false := by decide +kernel
theorem kp_is_hex (P : Params) : keepIn (hd.heap_1 P) (.ref 102) = true := by k_is
theorem gn_is_alnum (P : Params) : nsIn (hd.heap_1 P) mainGlobals (ofString "is_alnum") = some (some (.ref 109)) := by k_is
theorem db_is_alnum : (ofString "is_alnum" == ofString "__debug__") = false := by decide +kernel
theorem kp_is_alnum (P : Params) : keepIn (hd.heap_1 P) (.ref 109) = true := by k_is
theorem gn_digit_value (P : Params) : nsIn (hd.heap_1 P) mainGlobals (ofString "digit_value") = some (some (.ref 116)) := by k_is
theorem db_digit_value : (ofString "digit_value" == ofString "__debug__") = false := by decide +kernel
theorem kp_digit_value (P : Params) : keepIn (hd.heap_1 P) (.ref 116) = true := by k_is
theorem gn_lower (P : Params) : nsIn (hd.heap_1 P) mainGlobals (ofString "lower") = some (some (.ref 123)) := by k_is
theorem db_lower : (ofString "lower" == ofString "__debug__") = false := by decide +kernel
theorem kp_lower (P : Params) : keepIn (hd.heap_1 P) (.ref 123) = true := by k_is
theorem gn_lower_text (P : Params) : nsIn (hd.heap_1 P) mainGlobals (ofString "lower_text") = some (some (.ref 130)) := by k_is
theorem db_lower_text : (ofString "lower_text" == ofString "__debug__") = false := by decide +kernel
theorem kp_lower_text (P : Params) : keepIn (hd.heap_1 P) (.ref 130) = true := by k_is
theorem gn_is_surrogate (P : Params) : nsIn (hd.heap_1 P) mainGlobals (ofString "is_surrogate") = some (some (.ref 137)) := by k_is
theorem db_is_surrogate : (ofString "is_surrogate" == ofString "__debug__") = false := by decide +kernel
theorem kp_is_surrogate (P : Params) : keepIn (hd.heap_1 P) (.ref 137) = true := by k_is
theorem gn_is_noncharacter (P : Params) : nsIn (hd.heap_1 P) mainGlobals (ofString "is_noncharacter") = some (some (.ref 144)) := by k_is
theorem db_is_noncharacter : (ofString "is_noncharacter" == ofString "__debug__") = false := by decide +kernel
theorem kp_is_noncharacter (P : Params) : keepIn (hd.heap_1 P) (.ref 144) = true := by k_is
theorem gn_is_control (P : Params) : nsIn (hd.heap_1 P) mainGlobals (ofString "is_control") = some (some (.ref 151)) := by k_is
theorem db_is_control : (ofString "is_control" == ofString "__debug__") = false := by decide +kernel
theorem kp_is_control (P : Params) : keepIn (hd.heap_1 P) (.ref 151) = true := by k_is
theorem gn_input_error (P : Params) : nsIn (hd.heap_1 P) mainGlobals (ofString "input_error") = some (some (.ref 158)) := by k_is
theorem db_input_error : (ofString "input_error" == ofString "__debug__") = false := by decide +kernel
theorem kp_input_error (P : Params) : keepIn (hd.heap_1 P) (.ref 158) = true := by k_is
theorem gn_law_digit (P : Params) : nsIn (hd.heap_1 P) mainGlobals (ofString "_law_digit") = some (some (.ref 426)) := by k_is
theorem db_law_digit : (ofString "_law_digit" == ofString "__debug__") = false := by decide +kernel
theorem kp_law_digit (P : Params) : keepIn (hd.heap_1 P) (.ref 426) = true := by k_is
theorem gn_law_pool (P : Params) : nsIn (hd.heap_1 P) mainGlobals (ofString "_law_pool") = some (some (.ref 433)) := by k_is
theorem db_law_pool : (ofString "_law_pool" == ofString "__debug__") = false := by decide +kernel
theorem kp_law_pool (P : Params) : keepIn (hd.heap_1 P) (.ref 433) = true := by k_is
theorem gn_law_text (P : Params) : nsIn (hd.heap_1 P) mainGlobals (ofString "_law_text") = some (some (.ref 440)) := by k_is
theorem db_law_text : (ofString "_law_text" == ofString "__debug__") = false := by decide +kernel
theorem kp_law_text (P : Params) : keepIn (hd.heap_1 P) (.ref 440) = true := by k_is
theorem gn_law_backs (P : Params) : nsIn (hd.heap_1 P) mainGlobals (ofString "_law_backs") = some (some (.ref 447)) := by k_is
theorem db_law_backs : (ofString "_law_backs" == ofString "__debug__") = false := by decide +kernel
theorem kp_law_backs (P : Params) : keepIn (hd.heap_1 P) (.ref 447) = true := by k_is
theorem gn_law_row (P : Params) : nsIn (hd.heap_1 P) mainGlobals (ofString "_law_row") = some (some (.ref 454)) := by k_is
theorem db_law_row : (ofString "_law_row" == ofString "__debug__") = false := by decide +kernel
theorem kp_law_row (P : Params) : keepIn (hd.heap_1 P) (.ref 454) = true := by k_is
theorem gn_law_told (P : Params) : nsIn (hd.heap_1 P) mainGlobals (ofString "_law_told") = some (some (.ref 461)) := by k_is
theorem db_law_told : (ofString "_law_told" == ofString "__debug__") = false := by decide +kernel
theorem kp_law_told (P : Params) : keepIn (hd.heap_1 P) (.ref 461) = true := by k_is
theorem gn_law_fold (P : Params) : nsIn (hd.heap_1 P) mainGlobals (ofString "_law_fold") = some (some (.ref 466)) := by k_is
theorem db_law_fold : (ofString "_law_fold" == ofString "__debug__") = false := by decide +kernel
theorem kp_law_fold (P : Params) : keepIn (hd.heap_1 P) (.ref 466) = true := by k_is
theorem gn_law_kinds (P : Params) : nsIn (hd.heap_1 P) mainGlobals (ofString "_law_kinds") = some (some (.ref 473)) := by k_is
theorem db_law_kinds : (ofString "_law_kinds" == ofString "__debug__") = false := by decide +kernel
theorem kp_law_kinds (P : Params) : keepIn (hd.heap_1 P) (.ref 473) = true := by k_is
theorem gn_law_do (P : Params) : nsIn (hd.heap_1 P) mainGlobals (ofString "_law_do") = some (some (.ref 480)) := by k_is
theorem db_law_do : (ofString "_law_do" == ofString "__debug__") = false := by decide +kernel
theorem kp_law_do (P : Params) : keepIn (hd.heap_1 P) (.ref 480) = true := by k_is
theorem gn_law_rule (P : Params) : nsIn (hd.heap_1 P) mainGlobals (ofString "_law_rule") = some (some (.ref 487)) := by k_is
theorem db_law_rule : (ofString "_law_rule" == ofString "__debug__") = false := by decide +kernel
theorem kp_law_rule (P : Params) : keepIn (hd.heap_1 P) (.ref 487) = true := by k_is
theorem gn_law_token (P : Params) : nsIn (hd.heap_1 P) mainGlobals (ofString "_law_token") = some (some (.ref 494)) := by k_is
theorem db_law_token : (ofString "_law_token" == ofString "__debug__") = false := by decide +kernel
theorem kp_law_token (P : Params) : keepIn (hd.heap_1 P) (.ref 494) = true := by k_is
theorem gn_law_due (P : Params) : nsIn (hd.heap_1 P) mainGlobals (ofString "_law_due") = some (some (.ref 499)) := by k_is
theorem db_law_due : (ofString "_law_due" == ofString "__debug__") = false := by decide +kernel
theorem kp_law_due (P : Params) : keepIn (hd.heap_1 P) (.ref 499) = true := by k_is
theorem gn_law_seen (P : Params) : nsIn (hd.heap_1 P) mainGlobals (ofString "_law_seen") = some (some (.ref 506)) := by k_is
theorem db_law_seen : (ofString "_law_seen" == ofString "__debug__") = false := by decide +kernel
theorem kp_law_seen (P : Params) : keepIn (hd.heap_1 P) (.ref 506) = true := by k_is
theorem gn_Stream (P : Params) : nsIn (hd.heap_1 P) mainGlobals (ofString "Stream") = some (some (.ref 196)) := by k_is
theorem db_Stream : (ofString "Stream" == ofString "__debug__") = false := by decide +kernel
theorem kp_Stream (P : Params) : keepIn (hd.heap_1 P) (.ref 196) = true := by k_is
theorem gn_Tokenizer (P : Params) : nsIn (hd.heap_1 P) mainGlobals (ofString "Tokenizer") = some (some (.ref 359)) := by k_is
theorem db_Tokenizer : (ofString "Tokenizer" == ofString "__debug__") = false := by decide +kernel
theorem kp_Tokenizer (P : Params) : keepIn (hd.heap_1 P) (.ref 359) = true := by k_is
theorem gn_Draft (P : Params) : nsIn (hd.heap_1 P) mainGlobals (ofString "Draft") = some (some (.ref 415)) := by k_is
theorem db_Draft : (ofString "Draft" == ofString "__debug__") = false := by decide +kernel
theorem kp_Draft (P : Params) : keepIn (hd.heap_1 P) (.ref 415) = true := by k_is
theorem gb_len (P : Params) : nsIn (hd.heap_1 P) mainGlobals (ofString "len") = some none := by k_is
theorem db_len : (ofString "len" == ofString "__debug__") = false := by decide +kernel
theorem nn_len : ofString "len" ≠ ofString "__name__" := by decide +kernel
theorem gb_ord (P : Params) : nsIn (hd.heap_1 P) mainGlobals (ofString "ord") = some none := by k_is
theorem db_ord : (ofString "ord" == ofString "__debug__") = false := by decide +kernel
theorem nn_ord : ofString "ord" ≠ ofString "__name__" := by decide +kernel
theorem gb_chr (P : Params) : nsIn (hd.heap_1 P) mainGlobals (ofString "chr") = some none := by k_is
theorem db_chr : (ofString "chr" == ofString "__debug__") = false := by decide +kernel
theorem nn_chr : ofString "chr" ≠ ofString "__name__" := by decide +kernel
theorem gb_range (P : Params) : nsIn (hd.heap_1 P) mainGlobals (ofString "range") = some none := by k_is
theorem db_range : (ofString "range" == ofString "__debug__") = false := by decide +kernel
theorem nn_range : ofString "range" ≠ ofString "__name__" := by decide +kernel
theorem gb_list (P : Params) : nsIn (hd.heap_1 P) mainGlobals (ofString "list") = some none := by k_is
theorem db_list : (ofString "list" == ofString "__debug__") = false := by decide +kernel
theorem nn_list : ofString "list" ≠ ofString "__name__" := by decide +kernel
theorem gb_sorted (P : Params) : nsIn (hd.heap_1 P) mainGlobals (ofString "sorted") = some none := by k_is
theorem db_sorted : (ofString "sorted" == ofString "__debug__") = false := by decide +kernel
theorem nn_sorted : ofString "sorted" ≠ ofString "__name__" := by decide +kernel
theorem gb_int (P : Params) : nsIn (hd.heap_1 P) mainGlobals (ofString "int") = some none := by k_is
theorem db_int : (ofString "int" == ofString "__debug__") = false := by decide +kernel
theorem nn_int : ofString "int" ≠ ofString "__name__" := by decide +kernel
theorem gb_str (P : Params) : nsIn (hd.heap_1 P) mainGlobals (ofString "str") = some none := by k_is
theorem db_str : (ofString "str" == ofString "__debug__") = false := by decide +kernel
theorem nn_str : ofString "str" ≠ ofString "__name__" := by decide +kernel
theorem gb_tuple (P : Params) : nsIn (hd.heap_1 P) mainGlobals (ofString "tuple") = some none := by k_is
theorem db_tuple : (ofString "tuple" == ofString "__debug__") = false := by decide +kernel
theorem nn_tuple : ofString "tuple" ≠ ofString "__name__" := by decide +kernel
theorem pg_359 (P : Params) (x : PySem.Str) : plainGet (hd.heap_1 P) 359 x = true := by show plainGet (hd.heap_1 P) 359 (ofString "at") = true; k_is
theorem hd_359 (P : Params) : hasDictIn (hd.heap_1 P) 359 = true := by k_is
theorem sa_359 (P : Params) : findIn (hd.heap_1 P) (.ref 359) "__setattr__" = some (some (.builtin "object.__setattr__")) := by k_is
theorem po_359 (P : Params) : plainOver (hd.heap_1 P) 359 = true := by k_is
theorem fm_359_init (P : Params) : findIn (hd.heap_1 P) (.ref 359) (ofString "__init__") = some (some (.ref 215)) := by k_is
theorem fm_359_feed (P : Params) : findIn (hd.heap_1 P) (.ref 359) (ofString "feed") = some (some (.ref 222)) := by k_is
theorem fn_222 (P : Params) : isFn (hd.heap_1 P) (.ref 222) = true := by k_is
theorem kp_222 (P : Params) : keepIn (hd.heap_1 P) (.ref 222) = true := by k_is
theorem fm_359_end (P : Params) : findIn (hd.heap_1 P) (.ref 359) (ofString "end") = some (some (.ref 229)) := by k_is
theorem fn_229 (P : Params) : isFn (hd.heap_1 P) (.ref 229) = true := by k_is
theorem kp_229 (P : Params) : keepIn (hd.heap_1 P) (.ref 229) = true := by k_is
theorem fm_359_next (P : Params) : findIn (hd.heap_1 P) (.ref 359) (ofString "next") = some (some (.ref 236)) := by k_is
theorem fn_236 (P : Params) : isFn (hd.heap_1 P) (.ref 236) = true := by k_is
theorem kp_236 (P : Params) : keepIn (hd.heap_1 P) (.ref 236) = true := by k_is
theorem fm_359_to (P : Params) : findIn (hd.heap_1 P) (.ref 359) (ofString "to") = some (some (.ref 243)) := by k_is
theorem fn_243 (P : Params) : isFn (hd.heap_1 P) (.ref 243) = true := by k_is
theorem kp_243 (P : Params) : keepIn (hd.heap_1 P) (.ref 243) = true := by k_is
theorem fm_359_again (P : Params) : findIn (hd.heap_1 P) (.ref 359) (ofString "again") = some (some (.ref 250)) := by k_is
theorem fn_250 (P : Params) : isFn (hd.heap_1 P) (.ref 250) = true := by k_is
theorem kp_250 (P : Params) : keepIn (hd.heap_1 P) (.ref 250) = true := by k_is
theorem fm_359_error (P : Params) : findIn (hd.heap_1 P) (.ref 359) (ofString "error") = some (some (.ref 257)) := by k_is
theorem fn_257 (P : Params) : isFn (hd.heap_1 P) (.ref 257) = true := by k_is
theorem kp_257 (P : Params) : keepIn (hd.heap_1 P) (.ref 257) = true := by k_is
theorem fm_359_emit (P : Params) : findIn (hd.heap_1 P) (.ref 359) (ofString "emit") = some (some (.ref 264)) := by k_is
theorem fn_264 (P : Params) : isFn (hd.heap_1 P) (.ref 264) = true := by k_is
theorem kp_264 (P : Params) : keepIn (hd.heap_1 P) (.ref 264) = true := by k_is
theorem fm_359_emit_sign (P : Params) : findIn (hd.heap_1 P) (.ref 359) (ofString "emit_sign") = some (some (.ref 271)) := by k_is
theorem fn_271 (P : Params) : isFn (hd.heap_1 P) (.ref 271) = true := by k_is
theorem kp_271 (P : Params) : keepIn (hd.heap_1 P) (.ref 271) = true := by k_is
theorem fm_359_emit_text (P : Params) : findIn (hd.heap_1 P) (.ref 359) (ofString "emit_text") = some (some (.ref 278)) := by k_is
theorem fn_278 (P : Params) : isFn (hd.heap_1 P) (.ref 278) = true := by k_is
theorem kp_278 (P : Params) : keepIn (hd.heap_1 P) (.ref 278) = true := by k_is
theorem fm_359_emit_draft (P : Params) : findIn (hd.heap_1 P) (.ref 359) (ofString "emit_draft") = some (some (.ref 285)) := by k_is
theorem fn_285 (P : Params) : isFn (hd.heap_1 P) (.ref 285) = true := by k_is
theorem kp_285 (P : Params) : keepIn (hd.heap_1 P) (.ref 285) = true := by k_is
theorem fm_359_emit_eof (P : Params) : findIn (hd.heap_1 P) (.ref 359) (ofString "emit_eof") = some (some (.ref 292)) := by k_is
theorem fn_292 (P : Params) : isFn (hd.heap_1 P) (.ref 292) = true := by k_is
theorem kp_292 (P : Params) : keepIn (hd.heap_1 P) (.ref 292) = true := by k_is
theorem fm_359_is_apt (P : Params) : findIn (hd.heap_1 P) (.ref 359) (ofString "is_apt") = some (some (.ref 299)) := by k_is
theorem fn_299 (P : Params) : isFn (hd.heap_1 P) (.ref 299) = true := by k_is
theorem kp_299 (P : Params) : keepIn (hd.heap_1 P) (.ref 299) = true := by k_is
theorem fm_359_looks (P : Params) : findIn (hd.heap_1 P) (.ref 359) (ofString "looks") = some (some (.ref 307)) := by k_is
theorem fn_307 (P : Params) : isFn (hd.heap_1 P) (.ref 307) = true := by k_is
theorem kp_307 (P : Params) : keepIn (hd.heap_1 P) (.ref 307) = true := by k_is
theorem fm_359_take (P : Params) : findIn (hd.heap_1 P) (.ref 359) (ofString "take") = some (some (.ref 314)) := by k_is
theorem fn_314 (P : Params) : isFn (hd.heap_1 P) (.ref 314) = true := by k_is
theorem kp_314 (P : Params) : keepIn (hd.heap_1 P) (.ref 314) = true := by k_is
theorem fm_359_wait (P : Params) : findIn (hd.heap_1 P) (.ref 359) (ofString "wait") = some (some (.ref 321)) := by k_is
theorem fn_321 (P : Params) : isFn (hd.heap_1 P) (.ref 321) = true := by k_is
theorem kp_321 (P : Params) : keepIn (hd.heap_1 P) (.ref 321) = true := by k_is
theorem fm_359_in_value (P : Params) : findIn (hd.heap_1 P) (.ref 359) (ofString "in_value") = some (some (.ref 328)) := by k_is
theorem fn_328 (P : Params) : isFn (hd.heap_1 P) (.ref 328) = true := by k_is
theorem kp_328 (P : Params) : keepIn (hd.heap_1 P) (.ref 328) = true := by k_is
theorem fm_359_flush (P : Params) : findIn (hd.heap_1 P) (.ref 359) (ofString "flush") = some (some (.ref 335)) := by k_is
theorem fn_335 (P : Params) : isFn (hd.heap_1 P) (.ref 335) = true := by k_is
theorem kp_335 (P : Params) : keepIn (hd.heap_1 P) (.ref 335) = true := by k_is
theorem fm_359_step (P : Params) : findIn (hd.heap_1 P) (.ref 359) (ofString "step") = some (some (.ref 342)) := by k_is
theorem fn_342 (P : Params) : isFn (hd.heap_1 P) (.ref 342) = true := by k_is
theorem kp_342 (P : Params) : keepIn (hd.heap_1 P) (.ref 342) = true := by k_is
theorem fm_359_is_ready (P : Params) : findIn (hd.heap_1 P) (.ref 359) (ofString "is_ready") = some (some (.ref 349)) := by k_is
theorem fn_349 (P : Params) : isFn (hd.heap_1 P) (.ref 349) = true := by k_is
theorem kp_349 (P : Params) : keepIn (hd.heap_1 P) (.ref 349) = true := by k_is
theorem fm_359_run (P : Params) : findIn (hd.heap_1 P) (.ref 359) (ofString "run") = some (some (.ref 356)) := by k_is
theorem fn_356 (P : Params) : isFn (hd.heap_1 P) (.ref 356) = true := by k_is
theorem kp_356 (P : Params) : keepIn (hd.heap_1 P) (.ref 356) = true := by k_is
theorem fa_359_states (P : Params) : findIn (hd.heap_1 P) (.ref 359) (ofString "states") = some none := by k_is
theorem ta_359_states (P : Params) : takerIn (hd.heap_1 P) 359 (ofString "states") = some none := by k_is
theorem fa_359_stream (P : Params) : findIn (hd.heap_1 P) (.ref 359) (ofString "stream") = some none := by k_is
theorem ta_359_stream (P : Params) : takerIn (hd.heap_1 P) 359 (ofString "stream") = some none := by k_is
theorem fa_359_at (P : Params) : findIn (hd.heap_1 P) (.ref 359) (ofString "at") = some none := by k_is
theorem ta_359_at (P : Params) : takerIn (hd.heap_1 P) 359 (ofString "at") = some none := by k_is
theorem fa_359_state (P : Params) : findIn (hd.heap_1 P) (.ref 359) (ofString "state") = some none := by k_is
theorem ta_359_state (P : Params) : takerIn (hd.heap_1 P) 359 (ofString "state") = some none := by k_is
theorem fa_359_back (P : Params) : findIn (hd.heap_1 P) (.ref 359) (ofString "back") = some none := by k_is
theorem ta_359_back (P : Params) : takerIn (hd.heap_1 P) 359 (ofString "back") = some none := by k_is
theorem fa_359_out (P : Params) : findIn (hd.heap_1 P) (.ref 359) (ofString "out") = some none := by k_is
theorem ta_359_out (P : Params) : takerIn (hd.heap_1 P) 359 (ofString "out") = some none := by k_is
theorem fa_359_errors (P : Params) : findIn (hd.heap_1 P) (.ref 359) (ofString "errors") = some none := by k_is
theorem ta_359_errors (P : Params) : takerIn (hd.heap_1 P) 359 (ofString "errors") = some none := by k_is
theorem fa_359_draft (P : Params) : findIn (hd.heap_1 P) (.ref 359) (ofString "draft") = some none := by k_is
theorem ta_359_draft (P : Params) : takerIn (hd.heap_1 P) 359 (ofString "draft") = some none := by k_is
theorem fa_359_buffer (P : Params) : findIn (hd.heap_1 P) (.ref 359) (ofString "buffer") = some none := by k_is
theorem ta_359_buffer (P : Params) : takerIn (hd.heap_1 P) 359 (ofString "buffer") = some none := by k_is
theorem fa_359_code (P : Params) : findIn (hd.heap_1 P) (.ref 359) (ofString "code") = some none := by k_is
theorem ta_359_code (P : Params) : takerIn (hd.heap_1 P) 359 (ofString "code") = some none := by k_is
theorem fa_359_last (P : Params) : findIn (hd.heap_1 P) (.ref 359) (ofString "last") = some none := by k_is
theorem ta_359_last (P : Params) : takerIn (hd.heap_1 P) 359 (ofString "last") = some none := by k_is
theorem fa_359_is_foreign (P : Params) : findIn (hd.heap_1 P) (.ref 359) (ofString "is_foreign") = some none := by k_is
theorem ta_359_is_foreign (P : Params) : takerIn (hd.heap_1 P) 359 (ofString "is_foreign") = some none := by k_is
theorem fa_359_is_waiting (P : Params) : findIn (hd.heap_1 P) (.ref 359) (ofString "is_waiting") = some none := by k_is
theorem ta_359_is_waiting (P : Params) : takerIn (hd.heap_1 P) 359 (ofString "is_waiting") = some none := by k_is
theorem fa_359_is_done (P : Params) : findIn (hd.heap_1 P) (.ref 359) (ofString "is_done") = some none := by k_is
theorem ta_359_is_done (P : Params) : takerIn (hd.heap_1 P) 359 (ofString "is_done") = some none := by k_is
theorem pg_196 (P : Params) (x : PySem.Str) : plainGet (hd.heap_1 P) 196 x = true := by show plainGet (hd.heap_1 P) 196 (ofString "at") = true; k_is
theorem hd_196 (P : Params) : hasDictIn (hd.heap_1 P) 196 = true := by k_is
theorem sa_196 (P : Params) : findIn (hd.heap_1 P) (.ref 196) "__setattr__" = some (some (.builtin "object.__setattr__")) := by k_is
theorem po_196 (P : Params) : plainOver (hd.heap_1 P) 196 = true := by k_is
theorem fm_196_init (P : Params) : findIn (hd.heap_1 P) (.ref 196) (ofString "__init__") = some (some (.ref 172)) := by k_is
theorem fm_196_feed (P : Params) : findIn (hd.heap_1 P) (.ref 196) (ofString "feed") = some (some (.ref 179)) := by k_is
theorem fn_179 (P : Params) : isFn (hd.heap_1 P) (.ref 179) = true := by k_is
theorem kp_179 (P : Params) : keepIn (hd.heap_1 P) (.ref 179) = true := by k_is
theorem fm_196_end (P : Params) : findIn (hd.heap_1 P) (.ref 196) (ofString "end") = some (some (.ref 186)) := by k_is
theorem fn_186 (P : Params) : isFn (hd.heap_1 P) (.ref 186) = true := by k_is
theorem kp_186 (P : Params) : keepIn (hd.heap_1 P) (.ref 186) = true := by k_is
theorem fa_196_signs (P : Params) : findIn (hd.heap_1 P) (.ref 196) (ofString "signs") = some none := by k_is
theorem ta_196_signs (P : Params) : takerIn (hd.heap_1 P) 196 (ofString "signs") = some none := by k_is
theorem fa_196_is_closed (P : Params) : findIn (hd.heap_1 P) (.ref 196) (ofString "is_closed") = some none := by k_is
theorem ta_196_is_closed (P : Params) : takerIn (hd.heap_1 P) 196 (ofString "is_closed") = some none := by k_is
theorem fa_196_is_return (P : Params) : findIn (hd.heap_1 P) (.ref 196) (ofString "is_return") = some none := by k_is
theorem ta_196_is_return (P : Params) : takerIn (hd.heap_1 P) 196 (ofString "is_return") = some none := by k_is
theorem fa_196_errors (P : Params) : findIn (hd.heap_1 P) (.ref 196) (ofString "errors") = some none := by k_is
theorem ta_196_errors (P : Params) : takerIn (hd.heap_1 P) 196 (ofString "errors") = some none := by k_is
theorem pg_415 (P : Params) (x : PySem.Str) : plainGet (hd.heap_1 P) 415 x = true := by show plainGet (hd.heap_1 P) 415 (ofString "at") = true; k_is
theorem hd_415 (P : Params) : hasDictIn (hd.heap_1 P) 415 = true := by k_is
theorem sa_415 (P : Params) : findIn (hd.heap_1 P) (.ref 415) "__setattr__" = some (some (.builtin "object.__setattr__")) := by k_is
theorem po_415 (P : Params) : plainOver (hd.heap_1 P) 415 = true := by k_is
theorem fm_415_init (P : Params) : findIn (hd.heap_1 P) (.ref 415) (ofString "__init__") = some (some (.ref 377)) := by k_is
theorem fm_415_begin_attr (P : Params) : findIn (hd.heap_1 P) (.ref 415) (ofString "begin_attr") = some (some (.ref 384)) := by k_is
theorem fn_384 (P : Params) : isFn (hd.heap_1 P) (.ref 384) = true := by k_is
theorem kp_384 (P : Params) : keepIn (hd.heap_1 P) (.ref 384) = true := by k_is
theorem fm_415_add_value (P : Params) : findIn (hd.heap_1 P) (.ref 415) (ofString "add_value") = some (some (.ref 398)) := by k_is
theorem fn_398 (P : Params) : isFn (hd.heap_1 P) (.ref 398) = true := by k_is
theorem kp_398 (P : Params) : keepIn (hd.heap_1 P) (.ref 398) = true := by k_is
theorem fm_415_token (P : Params) : findIn (hd.heap_1 P) (.ref 415) (ofString "token") = some (some (.ref 412)) := by k_is
theorem fn_412 (P : Params) : isFn (hd.heap_1 P) (.ref 412) = true := by k_is
theorem kp_412 (P : Params) : keepIn (hd.heap_1 P) (.ref 412) = true := by k_is
theorem fa_415_kind (P : Params) : findIn (hd.heap_1 P) (.ref 415) (ofString "kind") = some none := by k_is
theorem ta_415_kind (P : Params) : takerIn (hd.heap_1 P) 415 (ofString "kind") = some none := by k_is
theorem fa_415_name (P : Params) : findIn (hd.heap_1 P) (.ref 415) (ofString "name") = some none := by k_is
theorem ta_415_name (P : Params) : takerIn (hd.heap_1 P) 415 (ofString "name") = some none := by k_is
theorem fa_415_text (P : Params) : findIn (hd.heap_1 P) (.ref 415) (ofString "text") = some none := by k_is
theorem ta_415_text (P : Params) : takerIn (hd.heap_1 P) 415 (ofString "text") = some none := by k_is
theorem ta_415_public (P : Params) : takerIn (hd.heap_1 P) 415 (ofString "public") = some none := by k_is
theorem ta_415_system (P : Params) : takerIn (hd.heap_1 P) 415 (ofString "system") = some none := by k_is
theorem ta_415_is_quirks (P : Params) : takerIn (hd.heap_1 P) 415 (ofString "is_quirks") = some none := by k_is
theorem fa_415_is_closing (P : Params) : findIn (hd.heap_1 P) (.ref 415) (ofString "is_closing") = some none := by k_is
theorem ta_415_is_closing (P : Params) : takerIn (hd.heap_1 P) 415 (ofString "is_closing") = some none := by k_is
theorem fa_415_attrs (P : Params) : findIn (hd.heap_1 P) (.ref 415) (ofString "attrs") = some none := by k_is
theorem ta_415_attrs (P : Params) : takerIn (hd.heap_1 P) 415 (ofString "attrs") = some none := by k_is
section
variable {prog : Program} {w : World} {A : Around} {E : Value → Shared → Prop} {s : Shared} {h₀ : Heap} {L x dx : Addr} {m : PySem.Str → Option Value} {news news' : List (Addr × Obj)} {es es' : List DictEntry} {n n' : Nat} {name : PySem.Str} {v : Value}
theorem noGet_none (K : Frag) : noGet K none = true := rfl
theorem get_359 {expr : Bool} {Q : Value → Shared → Prop} (F : Fr h₀ L s.heap m) (X₀ : (hd.heap_1 w.params).In h₀) (N : News h₀ L s.heap news) (h1 : (x, instObj 359 dx) ∈ news) (h2 : (dx, dictOf es n) ∈ news)
  (ha : findIn (hd.heap_1 w.params) (.ref 359) name = some none) (hl : getL name es = some (some v)) (hv : handedIn v = true) (h : Q v { s with toks := s.toks + 1 }) : wpAny (model prog w) A (getAttr (.ref x) name expr) Q E s :=
 get_own F X₀ (InstAt.of_news N h1 h2) (pg_359 _ _) (hd_359 _) ha (noGet_none _) hl hv h
theorem set_359 {Q : Unit → Shared → Prop} (F : Fr h₀ L s.heap m) (X₀ : (hd.heap_1 w.params).In h₀) (N : News h₀ L s.heap news) (h1 : (x, instObj 359 dx) ∈ news) (h2 : (dx, dictOf es n) ∈ news)
  (ht : takerIn (hd.heap_1 w.params) 359 name = some none) (hl : (getL name es).isSome = true)
  (e : (putL name (PyData.keyHash w.params name) (.str name (s.toks + 1)) v es, putN name es n) = (es', n')) (U : Upd dx (dictOf es n) (dictOf es' n') news news') (hz : es'.length ≤ 1000)
  (h : ∀ h', Fr h₀ L h' m → News h₀ L h' news' → Q () { s with heap := h', toks := s.toks + 2 }) :
  wpAny (model prog w) A (setAttr (.ref x) name v) Q E s :=
 set_dict F X₀ N (InstAt.of_news N h1 h2) rfl (sa_359 _) (po_359 _) ht (hd_359 _) hl e U hz h
theorem meth_359 {pl : Sem Bool} {Q : Value × List Value → Shared → Prop} {f : Addr} (F : Fr h₀ L s.heap m) (X₀ : (hd.heap_1 w.params).In h₀) (N : News h₀ L s.heap news) (h1 : (x, instObj 359 dx) ∈ news) (h2 : (dx, dictOf es n) ∈ news)
  (hf : findIn (hd.heap_1 w.params) (.ref 359) name = some (some (.ref f))) (ht : isFn (hd.heap_1 w.params) (.ref f) = true) (hl : getL name es = some none) (h : Q (.ref f, [.ref x]) s) : wpAny (model prog w) A (getMethod (.ref x) name pl) Q E s :=
 method_inst F X₀ (InstAt.of_news N h1 h2) (pg_359 _ _) hf ht hl h
theorem get_196 {expr : Bool} {Q : Value → Shared → Prop} (F : Fr h₀ L s.heap m) (X₀ : (hd.heap_1 w.params).In h₀) (N : News h₀ L s.heap news) (h1 : (x, instObj 196 dx) ∈ news) (h2 : (dx, dictOf es n) ∈ news)
  (ha : findIn (hd.heap_1 w.params) (.ref 196) name = some none) (hl : getL name es = some (some v)) (hv : handedIn v = true) (h : Q v { s with toks := s.toks + 1 }) : wpAny (model prog w) A (getAttr (.ref x) name expr) Q E s :=
 get_own F X₀ (InstAt.of_news N h1 h2) (pg_196 _ _) (hd_196 _) ha (noGet_none _) hl hv h
theorem set_196 {Q : Unit → Shared → Prop} (F : Fr h₀ L s.heap m) (X₀ : (hd.heap_1 w.params).In h₀) (N : News h₀ L s.heap news) (h1 : (x, instObj 196 dx) ∈ news) (h2 : (dx, dictOf es n) ∈ news)
  (ht : takerIn (hd.heap_1 w.params) 196 name = some none) (hl : (getL name es).isSome = true)
  (e : (putL name (PyData.keyHash w.params name) (.str name (s.toks + 1)) v es, putN name es n) = (es', n')) (U : Upd dx (dictOf es n) (dictOf es' n') news news') (hz : es'.length ≤ 1000)
  (h : ∀ h', Fr h₀ L h' m → News h₀ L h' news' → Q () { s with heap := h', toks := s.toks + 2 }) :
  wpAny (model prog w) A (setAttr (.ref x) name v) Q E s :=
 set_dict F X₀ N (InstAt.of_news N h1 h2) rfl (sa_196 _) (po_196 _) ht (hd_196 _) hl e U hz h
theorem meth_196 {pl : Sem Bool} {Q : Value × List Value → Shared → Prop} {f : Addr} (F : Fr h₀ L s.heap m) (X₀ : (hd.heap_1 w.params).In h₀) (N : News h₀ L s.heap news) (h1 : (x, instObj 196 dx) ∈ news) (h2 : (dx, dictOf es n) ∈ news)
  (hf : findIn (hd.heap_1 w.params) (.ref 196) name = some (some (.ref f))) (ht : isFn (hd.heap_1 w.params) (.ref f) = true) (hl : getL name es = some none) (h : Q (.ref f, [.ref x]) s) : wpAny (model prog w) A (getMethod (.ref x) name pl) Q E s :=
 method_inst F X₀ (InstAt.of_news N h1 h2) (pg_196 _ _) hf ht hl h
theorem get_415 {expr : Bool} {Q : Value → Shared → Prop} (F : Fr h₀ L s.heap m) (X₀ : (hd.heap_1 w.params).In h₀) (N : News h₀ L s.heap news) (h1 : (x, instObj 415 dx) ∈ news) (h2 : (dx, dictOf es n) ∈ news)
  (ha : findIn (hd.heap_1 w.params) (.ref 415) name = some none) (hl : getL name es = some (some v)) (hv : handedIn v = true) (h : Q v { s with toks := s.toks + 1 }) : wpAny (model prog w) A (getAttr (.ref x) name expr) Q E s :=
 get_own F X₀ (InstAt.of_news N h1 h2) (pg_415 _ _) (hd_415 _) ha (noGet_none _) hl hv h
theorem set_415 {Q : Unit → Shared → Prop} (F : Fr h₀ L s.heap m) (X₀ : (hd.heap_1 w.params).In h₀) (N : News h₀ L s.heap news) (h1 : (x, instObj 415 dx) ∈ news) (h2 : (dx, dictOf es n) ∈ news)
  (ht : takerIn (hd.heap_1 w.params) 415 name = some none) (hl : (getL name es).isSome = true)
  (e : (putL name (PyData.keyHash w.params name) (.str name (s.toks + 1)) v es, putN name es n) = (es', n')) (U : Upd dx (dictOf es n) (dictOf es' n') news news') (hz : es'.length ≤ 1000)
  (h : ∀ h', Fr h₀ L h' m → News h₀ L h' news' → Q () { s with heap := h', toks := s.toks + 2 }) :
  wpAny (model prog w) A (setAttr (.ref x) name v) Q E s :=
 set_dict F X₀ N (InstAt.of_news N h1 h2) rfl (sa_415 _) (po_415 _) ht (hd_415 _) hl e U hz h
theorem meth_415 {pl : Sem Bool} {Q : Value × List Value → Shared → Prop} {f : Addr} (F : Fr h₀ L s.heap m) (X₀ : (hd.heap_1 w.params).In h₀) (N : News h₀ L s.heap news) (h1 : (x, instObj 415 dx) ∈ news) (h2 : (dx, dictOf es n) ∈ news)
  (hf : findIn (hd.heap_1 w.params) (.ref 415) name = some (some (.ref f))) (ht : isFn (hd.heap_1 w.params) (.ref f) = true) (hl : getL name es = some none) (h : Q (.ref f, [.ref x]) s) : wpAny (model prog w) A (getMethod (.ref x) name pl) Q E s :=
 method_inst F X₀ (InstAt.of_news N h1 h2) (pg_415 _ _) hf ht hl h
end
end Mine
end
section
open PySem PySem.W PyProof.Rows Mine
namespace Mine
noncomputable def blankB (c : Nat) : Bool := c == 9 || c == 10 || c == 12 || c == 32
noncomputable def spaceB (c : Nat) : Bool := c == 9 || c == 10 || c == 12 || c == 13 || c == 32
noncomputable def upB (c : Nat) : Bool := decide (65 ≤ c) && decide (c ≤ 90)
noncomputable def loB (c : Nat) : Bool := decide (97 ≤ c) && decide (c ≤ 122)
noncomputable def digB (c : Nat) : Bool := decide (48 ≤ c) && decide (c ≤ 57)
noncomputable def letB (c : Nat) : Bool := loB c || upB c
noncomputable def hexB (c : Nat) : Bool := digB c || (decide (97 ≤ c) && decide (c ≤ 102)) || (decide (65 ≤ c) && decide (c ≤ 70))
noncomputable def alnB (c : Nat) : Bool := loB c || upB c || digB c
noncomputable def digV (c : Nat) : Int := if digB c then (c : Int) - 48 else if loB c then (c : Int) - 97 + 10 else (c : Int) - 65 + 10
noncomputable def lowC (c : Nat) : Nat := if upB c then c + 32 else c
noncomputable def surB (n : Nat) : Bool := decide (55296 ≤ n) && decide (n ≤ 57343)
noncomputable def nonB (n : Nat) : Bool := (decide (64976 ≤ n) && decide (n ≤ 65007)) || decide (65534 ≤ n % 65536)
noncomputable def ctlB (n : Nat) : Bool := decide (n ≤ 31) || (decide (127 ≤ n) && decide (n ≤ 159))
theorem one_lt (c k : Nat) : ([c] < [k]) = (c < k) := by
 apply propext
 simp [List.cons_lt_cons_iff]
theorem ch_beq (c k : Nat) : ((⟨#[k]⟩ : PySem.Str) == ⟨#[c]⟩) = (c == k) := by
 rw [Bool.eq_iff_iff, beq_iff_eq, beq_iff_eq]
 exact ⟨fun h => by injection h with h; injection h with h; injection h with h; exact h.symm, fun h => by rw [h]⟩
theorem os65 : ofString "A" = ⟨#[65]⟩ := by decide +kernel
theorem os90 : ofString "Z" = ⟨#[90]⟩ := by decide +kernel
theorem os97 : ofString "a" = ⟨#[97]⟩ := by decide +kernel
theorem os122 : ofString "z" = ⟨#[122]⟩ := by decide +kernel
theorem os48 : ofString "0" = ⟨#[48]⟩ := by decide +kernel
theorem os57 : ofString "9" = ⟨#[57]⟩ := by decide +kernel
theorem os102 : ofString "f" = ⟨#[102]⟩ := by decide +kernel
theorem os70 : ofString "F" = ⟨#[70]⟩ := by decide +kernel
theorem os9 : ofString "\t" = ⟨#[9]⟩ := by decide +kernel
theorem os10 : ofString "\n" = ⟨#[10]⟩ := by decide +kernel
theorem os12 : ofString "\x0c" = ⟨#[12]⟩ := by decide +kernel
theorem os13 : ofString "\r" = ⟨#[13]⟩ := by decide +kernel
theorem os32 : ofString " " = ⟨#[32]⟩ := by decide +kernel
theorem up_le {c : Nat} (h : upB c = true) : c ≤ 90 := by
 simp only [upB, Bool.and_eq_true, decide_eq_true_eq] at h
 exact h.2
end Mine
end
section
open PySem PySem.W PyProof.Rows
namespace Mine
structure Row where
 test : Nat
 word : List Nat
 fold : Bool
 deed : Nat
 kind : Nat
 back : Nat
 yes : Nat
 no : Nat
structure Dr where
 kind : Nat
 name : Nat
 val : Option (List Nat)
structure Cfg where
 out : List Dat
 errs : List Dat
 pos : Nat
 st : Nat
 back : Nat
 buf : List Nat
 code : Int
 last : List Nat
 draft : Option Dr
 wait : Bool
 done : Bool
noncomputable abbrev oS (x : String) : PySem.Str := ofString x
noncomputable abbrev xS (xs : List Nat) : PySem.Str := ⟨xs.toArray⟩
noncomputable def stS (n : Nat) : PySem.Str := ⟨#[48 + n]⟩
noncomputable def backS : Nat → PySem.Str
 | 0 => oS "attribute value (unquoted)"
 | 1 => oS "attribute value (double-quoted)"
 | 2 => oS "attribute value (single-quoted)"
 | 3 => oS "data"
 | _ => oS "after attribute value (quoted)"
noncomputable def kindS : Nat → PySem.Str
 | 0 => oS "end"
 | 1 => oS "start"
 | _ => oS "comment"
noncomputable def noS (n : Nat) : PySem.Str := if n = 0 then oS "" else stS n
noncomputable def nameOf (c : Nat) : Nat := if c % 2 = 0 then 97 else 98
noncomputable def kindB (t c : Nat) : Bool :=
 match t with
 | 0 => blankB c | 1 => spaceB c | 2 => upB c | 3 => loB c | 4 => letB c | 5 => digB c | 6 => hexB c | 7 => alnB c | 8 => surB c | 9 => nonB c | _ => ctlB c
noncomputable def valC (c : Nat) : Int := if hexB c then digV c else 7
noncomputable abbrev chTok (c : Nat) : Dat := .tuple [.str (oS "char"), .str (chS c)]
noncomputable abbrev eofTok : Dat := .tuple [.str (oS "eof")]
noncomputable abbrev errTok (x : String) (p : Int) : Dat := .tuple [.str (oS x), .int p]
noncomputable abbrev startTok (n : Nat) : Dat := .tuple [.str (oS "start"), .str (chS n), .tuple [], .bool false]
noncomputable def valD : Option (List Nat) → Dat
 | none => .tuple []
 | some b => .tuple [.tuple [.str (oS ""), .str (xS b)]]
noncomputable def drTok (d : Dr) (cl : Bool) : Dat := if d.kind = 2 then .tuple [.str (oS "comment"), .str (oS "")] else .tuple [.str (kindS d.kind), .str (chS d.name), valD d.val, .bool cl]
noncomputable def drSeen : Option Dr → Dat
 | none => .none
 | some d => drTok d false
noncomputable def aheadOf (r : Row) (text : List Nat) (p : Nat) : List Nat :=
 if r.fold then ((text.drop (p + 1)).take r.word.length).map lowC else (text.drop (p + 1)).take r.word.length
noncomputable def draftErrs (d : Dr) (fold : Bool) (p : Int) : List Dat :=
 (if d.kind = 0 ∧ d.val.isSome = true then [errTok "end-tag-with-attributes" p] else []) ++ (if d.kind = 0 ∧ fold = true then [errTok "end-tag-with-trailing-solidus" p] else [])
noncomputable def deedC (r : Row) (ch : Nat) (c : Cfg) : Cfg :=
 match r.deed with
 | 0 => { c with out := c.out ++ [chTok (lowC ch)] }
 | 1 => { c with errs := c.errs ++ [errTok "odd" ((c.pos : Int) - 1)], out := c.out ++ (c.buf ++ [ch]).map chTok }
 | 2 => { c with buf := c.buf ++ [ch], back := r.back, code := c.code * 16 + valC ch }
 | 3 => { c with draft := some ⟨r.kind, nameOf ch, if c.back < 3 then some c.buf else none⟩, out := if c.back < 3 then c.out else c.out ++ c.buf.map chTok, buf := [] }
 | 4 => { c with out := c.out ++ [startTok (nameOf ch)], last := [nameOf ch] }
 | _ => match c.draft with
  | none => c
  | some d => { c with errs := c.errs ++ draftErrs d r.fold ((c.pos : Int) - 1), out := c.out ++ [drTok d r.fold], last := if d.kind = 1 then [d.name] else c.last, draft := none }
noncomputable def stepC (rows : Nat → Row) (text : List Nat) (closed : Bool) (c : Cfg) : Cfg :=
 match text[c.pos]? with
 | none => { c with out := c.out ++ [eofTok], pos := c.pos + 1, done := true }
 | some ch =>
  if aheadOf (rows c.st) text c.pos ≠ (rows c.st).word ∧ aheadOf (rows c.st) text c.pos <+: (rows c.st).word ∧ closed = false then { c with wait := true }
  else if aheadOf (rows c.st) text c.pos ≠ (rows c.st).word ∨ ((rows c.st).word = [] ∧ (rows c.st).no ≠ 0 ∧ kindB (rows c.st).test ch = false) then { c with st := (rows c.st).no }
  else deedC (rows c.st) ch { c with pos := c.pos + 1 + (rows c.st).word.length, st := (rows c.st).yes }
noncomputable def goC (text : List Nat) (closed : Bool) (c : Cfg) : Prop := c.st ≠ 6 ∧ c.wait = false ∧ c.done = false ∧ (c.pos < text.length ∨ closed = true)
noncomputable def initC (last : List Nat) : Cfg := ⟨[], [], 0, 0, 3, [], 0, last, none, false, false⟩
inductive Reach (rows : Nat → Row) (text : List Nat) (closed : Bool) : Cfg → Cfg → Prop
 | refl (c) : Reach rows text closed c c
 | head {c d} : goC text closed c → Reach rows text closed (stepC rows text closed c) d → Reach rows text closed c d
theorem Reach.snoc {rows text closed} {a b : Cfg} (h : Reach rows text closed a b) (g : goC text closed b) : Reach rows text closed a (stepC rows text closed b) := by
 induction h with
 | refl c => exact .head g (.refl _)
 | head g' _ ih => exact .head g' (ih g)
theorem Reach.trans {rows text closed} {a b c : Cfg} (h : Reach rows text closed a b) (g : Reach rows text closed b c) : Reach rows text closed a c := by
 induction h with
 | refl c => exact g
 | head g' _ ih => exact .head g' (ih g)
theorem Reach.det {rows text closed} {a b : Cfg} (h : Reach rows text closed a b) (nb : ¬ goC text closed b) : ∀ {b'}, Reach rows text closed a b' → ¬ goC text closed b' → b = b' := by
 induction h with
 | refl c =>
  intro b' h' _
  cases h' with
  | refl => rfl
  | head g _ => exact absurd g nb
 | head g _ ih =>
  intro b' h' nb'
  cases h' with
  | refl => exact absurd g nb'
  | head _ h' => exact ih nb h' nb'
structure RowOk (k : Nat) (r : Row) : Prop where
 test : r.test ≤ 10
 word : r.word = [] ∨ (k < 5 ∧ (r.word = [97, 48] ∨ r.word = [122, 122] ∨ r.word = [57]))
 deed : r.deed ≤ 5
 kind : r.kind ≤ 2
 back : r.back ≤ 4
 yes : r.yes ≤ 6
 no : (k < 5 → k < r.no ∧ r.no ≤ 5) ∧ (k = 5 → r.no = 0)
noncomputable def RowsOk (rows : Nat → Row) : Prop := ∀ k, k < 6 → RowOk k (rows k)
noncomputable def okS (f : Option (Dat → Bool)) : Dat → Bool
 | .none => true
 | .bool _ => true
 | .int _ => true
 | .str x => PyData.strOk x
 | .tuple ds => Option.rec false (fun g => ds.all g) f
 | .list ds => Option.rec false (fun g => ds.all g) f
 | _ => false
noncomputable def okP (n : Nat) : Dat → Bool := Nat.rec (okS none) (fun _ ih => okS (some ih)) n
theorem okP_t (n : Nat) (ds : List Dat) : okP (n + 1) (.tuple ds) = ds.all (okP n) := rfl
theorem okP_l (n : Nat) (ds : List Dat) : okP (n + 1) (.list ds) = ds.all (okP n) := rfl
theorem okP_s (n : Nat) (x : PySem.Str) : okP n (.str x) = PyData.strOk x := by cases n <;> rfl
theorem okP_i (n : Nat) (x : Int) : okP n (.int x) = true := by cases n <;> rfl
theorem okP_b (n : Nat) (x : Bool) : okP n (.bool x) = true := by cases n <;> rfl
theorem okP_n (n : Nat) : okP n .none = true := by cases n <;> rfl
theorem okP_y {n : Nat} {b : Array UInt8} (h : okP n (.bytes b) = true) : False := by cases n <;> exact Bool.noConfusion h
theorem okP_tup {n : Nat} {ds : List Dat} (h : okP n (.tuple ds) = true) : ∃ k, ∀ d ∈ ds, okP k d = true := by
 cases n with
 | zero => exact Bool.noConfusion h
 | succ n => exact ⟨n, List.all_eq_true.mp h⟩
theorem okP_lst {n : Nat} {ds : List Dat} (h : okP n (.list ds) = true) : ∃ k, ∀ d ∈ ds, okP k d = true := by
 cases n with
 | zero => exact Bool.noConfusion h
 | succ n => exact ⟨n, List.all_eq_true.mp h⟩
noncomputable def TextOk (text : List Nat) : Prop := text.length ≤ 12 ∧ ∀ c ∈ text, c < 1114112 ∧ c ≠ 13
structure DrOk (d : Dr) : Prop where
 kind : d.kind ≤ 2
 name : d.name = 97 ∨ d.name = 98
 val : ∀ b, d.val = some b → b.length ≤ 12 ∧ ∀ x ∈ b, x < 1114112
structure Wf (text : List Nat) (c : Cfg) : Prop where
 pos : c.pos ≤ text.length + 1
 posd : c.done = false → c.pos ≤ text.length
 st : c.st ≤ 6
 back : c.back ≤ 4
 buf : c.buf.length ≤ c.pos ∧ c.buf.length ≤ text.length
 bufc : ∀ x ∈ c.buf, x < 1114112
 out : c.out.length ≤ 20 * c.pos
 outc : ∀ d ∈ c.out, okP 4 d = true
 errs : c.errs.length ≤ 2 * c.pos
 errc : ∀ d ∈ c.errs, okP 2 d = true
 code : 0 ≤ c.code ∧ c.code < 16 ^ c.pos
 last : c.last = [] ∨ c.last = [97] ∨ c.last = [98]
 draft : ∀ d, c.draft = some d → DrOk d
theorem strOk_of {xs : List Nat} (h : ∀ x ∈ xs, x < 1114112) : PyData.strOk (xS xs) = true := by
 unfold PyData.strOk
 simpa using h
theorem strOk_ch {c : Nat} (h : c < 1114112) : PyData.strOk (chS c) = true := strOk_of (xs := [c]) (by simpa using h)
theorem low_lt {c : Nat} (h : c < 1114112) : lowC c < 1114112 := by
 unfold lowC
 split
 ·rename_i h1
  simp only [upB, Bool.and_eq_true, decide_eq_true_eq] at h1
  lia
 ·exact h
theorem ok_chTok {c : Nat} (n : Nat) (h : c < 1114112) : okP (n + 1) (chTok c) = true := by
 have e : PyData.strOk (ofString "char") = true := by decide +kernel
 have e2 := strOk_ch h
 cases n <;> simp only [okP_t, okP_l, okP_s, okP_i, okP_b, okP_n, List.all_cons, List.all_nil, e, e2, Bool.and_self, oS]
theorem val_lt (c : Nat) : 0 ≤ valC c ∧ valC c < 16 := by
 unfold valC
 by_cases h : hexB c = true
 ·rw [if_pos h]
  simp only [hexB, digB, Bool.or_eq_true, Bool.and_eq_true, decide_eq_true_eq] at h
  unfold digV
  split
  ·simp_all only [digB, Bool.and_eq_true, decide_eq_true_eq]; lia
  ·split
   ·simp_all only [loB, Bool.and_eq_true, decide_eq_true_eq]; lia
   ·simp_all only [loB, digB, Bool.and_eq_true, decide_eq_true_eq, not_and]; lia
 ·rw [if_neg h]; lia
theorem nameOf_or (c : Nat) : nameOf c = 97 ∨ nameOf c = 98 := by unfold nameOf; split <;> simp
theorem ok_kindS (n k : Nat) : okP n (.str (kindS k)) = true := by
 have h0 : PyData.strOk (ofString "end") = true := by decide +kernel
 have h1 : PyData.strOk (ofString "start") = true := by decide +kernel
 have h2 : PyData.strOk (ofString "comment") = true := by decide +kernel
 rcases k with _ | _ | k <;> cases n <;> assumption
theorem ok_drTok {d : Dr} (cl : Bool) (h : DrOk d) : okP 4 (drTok d cl) = true := by
 have h2 : PyData.strOk (ofString "comment") = true := by decide +kernel
 have h3 : PyData.strOk (ofString "") = true := by decide +kernel
 have hn : PyData.strOk (chS d.name) = true := strOk_ch (by rcases h.name with e | e <;> rw [e] <;> decide)
 have hk := ok_kindS 3 d.kind
 unfold drTok
 split
 ·simp only [okP_t, okP_l, okP_s, okP_i, okP_b, okP_n, List.all_cons, List.all_nil, h2, h3, Bool.and_self, oS]
 ·have hv : okP 3 (valD d.val) = true := by
   cases e : d.val with
   | none => rfl
   | some b =>
    have hb := strOk_of (h.val b e).2
    simp only [valD, okP_t, okP_l, okP_s, okP_i, okP_b, okP_n, List.all_cons, List.all_nil, h3, hb, Bool.and_self, oS]
  rw [okP_s] at hk
  simp only [okP_t, okP_l, okP_s, okP_i, okP_b, okP_n, List.all_cons, List.all_nil, hk, hv, hn, Bool.and_self]
theorem ok_err {x : String} (p : Int) (h : PyData.strOk (ofString x) = true) : okP 2 (errTok x p) = true := by
 simp only [okP_t, okP_l, okP_s, okP_i, okP_b, okP_n, List.all_cons, List.all_nil, h, Bool.and_self, oS]
theorem pow_mono {a b : Nat} (h : a ≤ b) : (16 : Int) ^ a ≤ 16 ^ b := by
 have := Nat.pow_le_pow_right (n := 16) (by decide) h
 exact_mod_cast this
theorem take_ne {r : Row} {text : List Nat} {p : Nat} (h : aheadOf r text p = r.word) (hp : p < text.length) : p + 1 + r.word.length ≤ text.length := by
 have e := congrArg List.length h
 unfold aheadOf at e
 split at e
 ·rw [List.length_map, List.length_take, List.length_drop] at e; lia
 ·rw [List.length_take, List.length_drop] at e; lia
theorem Wf.step {rows : Nat → Row} {text : List Nat} {closed : Bool} {c : Cfg} (hR : RowsOk rows) (hT : TextOk text) (h : Wf text c) (g : goC text closed c) : Wf text (stepC rows text closed c) := by
 refine xAAA g fun g1 g2 g3 g4 => ?_
 have hst : c.st < 6 := by have := h.st; lia
 have hr := hR c.st hst
 have hp := h.posd g3
 have hlen := hT.1
 unfold stepC
 cases e : text[c.pos]? with
 | none =>
  have h1 := h.buf; have h2 := h.out; have h3 := h.errs; have h4 := h.code
  refine ⟨by simp only; lia, (fun hd => by simp only at hd; cases hd), h.st, h.back, ⟨by simp only; lia, h1.2⟩, h.bufc, by simp only [List.length_append, List.length_cons, List.length_nil]; lia, ?_, by simp only; lia, h.errc, ⟨h4.1, Int.lt_of_lt_of_le h4.2 (pow_mono (Nat.le_succ _))⟩, h.last, h.draft⟩
  intro d hd
  rcases List.mem_append.mp hd with hd | hd
  ·exact h.outc d hd
  ·rw [List.mem_singleton.mp hd]; decide +kernel
 | some ch =>
  have hlt : c.pos < text.length := by
   rcases Nat.lt_or_ge c.pos text.length with q | q
   ·exact q
   ·rw [List.getElem?_eq_none q] at e; cases e
  have hch := hT.2 ch (List.mem_of_getElem? e)
  simp only
  split
  ·exact ⟨h.pos, h.posd, h.st, h.back, h.buf, h.bufc, h.out, h.outc, h.errs, h.errc, h.code, h.last, h.draft⟩
  ·split
   ·refine ⟨h.pos, h.posd, ?_, h.back, h.buf, h.bufc, h.out, h.outc, h.errs, h.errc, h.code, h.last, h.draft⟩
    have := hr.no
    simp only
    lia
   ·rename_i n1 n2
    have ha : aheadOf (rows c.st) text c.pos = (rows c.st).word := by
     by_cases q : aheadOf (rows c.st) text c.pos = (rows c.st).word
     ·exact q
     ·exact absurd (.inl q) n2
    have hq := take_ne ha hlt
    generalize hr' : rows c.st = r at *
    generalize hwl : r.word.length = wl at *
    have h1 := h.buf; have h2 := h.out; have h3 := h.errs; have h4 := h.code
    have hyes := hr.yes
    have hpw : c.code < 16 ^ (c.pos + 1 + wl) := Int.lt_of_lt_of_le h4.2 (pow_mono (by lia))
    have base : Wf text { c with pos := c.pos + 1 + wl, st := r.yes } :=
     ⟨by simp only; lia, fun _ => by simp only; lia, hyes, h.back, ⟨by simp only; lia, h1.2⟩, h.bufc, by simp only; lia, h.outc, by simp only; lia, h.errc, ⟨h4.1, hpw⟩, h.last, h.draft⟩
    have hbl : c.buf.length ≤ 12 := by lia
    unfold deedC
    split
    ·refine { base with out := ?_, outc := ?_ }
     ·simp only [List.length_append, List.length_cons, List.length_nil]; lia
     ·intro d hd
      rcases List.mem_append.mp hd with hd | hd
      ·exact h.outc d hd
      ·rw [List.mem_singleton.mp hd]; exact ok_chTok 3 (low_lt hch.1)
    ·refine { base with out := ?_, outc := ?_, errs := ?_, errc := ?_ }
     ·simp only [List.length_append, List.length_map, List.length_cons, List.length_nil]; lia
     ·intro d hd
      rcases List.mem_append.mp hd with hd | hd
      ·exact h.outc d hd
      ·refine xEA (List.mem_map.mp hd) fun x hx zq1 => ?_
       subst zq1
       rcases List.mem_append.mp hx with hx | hx
       ·exact ok_chTok 3 (h.bufc x hx)
       ·rw [List.mem_singleton.mp hx]; exact ok_chTok 3 hch.1
     ·simp only [List.length_append, List.length_cons, List.length_nil]; lia
     ·intro d hd
      rcases List.mem_append.mp hd with hd | hd
      ·exact h.errc d hd
      ·rw [List.mem_singleton.mp hd]; exact ok_err _ (by decide +kernel)
    ·have hv := val_lt ch
     refine { base with back := hr.back, buf := ?_, bufc := ?_, code := ?_ }
     ·simp only [List.length_append, List.length_cons, List.length_nil]; lia
     ·intro d hd
      rcases List.mem_append.mp hd with hd | hd
      ·exact h.bufc d hd
      ·rw [List.mem_singleton.mp hd]; exact hch.1
     ·have hp1 : (16 : Int) ^ (c.pos + 1) ≤ 16 ^ (c.pos + 1 + wl) := pow_mono (by lia)
      have e16 : (16 : Int) ^ (c.pos + 1) = 16 ^ c.pos * 16 := Int.pow_succ _ _
      simp only
      lia
    ·refine { base with buf := ⟨Nat.zero_le _, Nat.zero_le _⟩, bufc := (fun _ h => nomatch h), out := ?_, outc := ?_, draft := ?_ }
     ·simp only
      split
      ·lia
      ·simp only [List.length_append, List.length_map]; lia
     ·simp only
      split
      ·exact h.outc
      ·intro d hd
       rcases List.mem_append.mp hd with hd | hd
       ·exact h.outc d hd
       ·refine xEA (List.mem_map.mp hd) fun x hx zq2 => ?_
        subst zq2
        exact ok_chTok 3 (h.bufc x hx)
     ·intro d hd
      simp only [Option.some.injEq] at hd
      subst hd
      refine ⟨hr.kind, nameOf_or _, fun b hb => ?_⟩
      simp only at hb
      split at hb
      ·cases hb; exact ⟨hbl, h.bufc⟩
      ·cases hb
    ·refine { base with out := ?_, outc := ?_, last := ?_ }
     ·simp only [List.length_append, List.length_cons, List.length_nil]; lia
     ·intro d hd
      rcases List.mem_append.mp hd with hd | hd
      ·exact h.outc d hd
      ·rw [List.mem_singleton.mp hd]
       rcases nameOf_or ch with e | e <;> rw [e] <;> decide +kernel
     ·rcases nameOf_or ch with e | e
      ·exact .inr (.inl (by simp only [e]))
      ·exact .inr (.inr (by simp only [e]))
    ·simp only
     cases ed : c.draft with
     | none => simp only; rw [← ed]; exact base
     | some d =>
      have hd := h.draft d ed
      simp only
      refine { base with out := ?_, outc := ?_, errs := ?_, errc := ?_, last := ?_, draft := (fun _ h => nomatch h) }
      ·simp only [List.length_append, List.length_cons, List.length_nil]; lia
      ·intro d' hd'
       rcases List.mem_append.mp hd' with hd' | hd'
       ·exact h.outc d' hd'
       ·rw [List.mem_singleton.mp hd']; exact ok_drTok _ hd
      ·simp only [List.length_append, draftErrs]
       split <;> split <;> simp only [List.length_cons, List.length_nil] <;> lia
      ·intro d' hd'
       rcases List.mem_append.mp hd' with hd' | hd'
       ·exact h.errc d' hd'
       ·unfold draftErrs at hd'
        rcases List.mem_append.mp hd' with hd' | hd'
        ·split at hd'
         ·rw [List.mem_singleton.mp hd']; exact ok_err _ (by decide +kernel)
         ·cases hd'
        ·split at hd'
         ·rw [List.mem_singleton.mp hd']; exact ok_err _ (by decide +kernel)
         ·cases hd'
      ·simp only
       split
       ·rcases hd.name with e | e
        ·exact .inr (.inl (by rw [e]))
        ·exact .inr (.inr (by rw [e]))
       ·exact h.last
theorem Reach.wf {rows : Nat → Row} {text : List Nat} {closed : Bool} {a b : Cfg} (hR : RowsOk rows) (hT : TextOk text) (h : Reach rows text closed a b) : Wf text a → Wf text b := by
 induction h with
 | refl c => exact id
 | head g _ ih => exact fun w => ih (w.step hR hT g)
theorem init_wf {text last : List Nat} (hl : last = [] ∨ last = [97] ∨ last = [98]) : Wf text (initC last) :=
 ⟨Nat.zero_le _, fun _ => Nat.zero_le _, Nat.zero_le _, Nat.le_succ _, ⟨Nat.zero_le _, Nat.zero_le _⟩, (fun _ h => nomatch h), Nat.zero_le _, (fun _ h => nomatch h), Nat.zero_le _, (fun _ h => nomatch h), ⟨Int.le_refl _, show (0 : Int) < 16 ^ 0 by decide⟩, hl, (fun _ h => nomatch h)⟩
noncomputable def muC (text : List Nat) (c : Cfg) : Nat := if c.wait = true ∨ c.done = true then 0 else 1 + (text.length + 1 - c.pos) * 8 + (7 - c.st)
theorem mu_step {rows : Nat → Row} {text : List Nat} {closed : Bool} {c : Cfg} (hR : RowsOk rows) (h : Wf text c) (g : goC text closed c) : muC text (stepC rows text closed c) < muC text c := by
 refine xAAA g fun g1 g2 g3 g4 => ?_
 have hst : c.st < 6 := by have := h.st; lia
 have hr := hR c.st hst
 have hp := h.posd g3
 have e0 : muC text c = 1 + (text.length + 1 - c.pos) * 8 + (7 - c.st) := if_neg (by rw [g2, g3]; simp)
 rw [e0]
 unfold stepC
 cases e : text[c.pos]? with
 | none => simp only [muC]; simp; lia
 | some ch =>
  have hlt : c.pos < text.length := by
   rcases Nat.lt_or_ge c.pos text.length with q | q
   ·exact q
   ·rw [List.getElem?_eq_none q] at e; cases e
  simp only
  split
  ·simp only [muC]; simp; lia
  ·split
   ·rename_i n1 n2
    have hno : c.st < (rows c.st).no ∧ (rows c.st).no ≤ 5 := by
     rcases Nat.lt_or_ge c.st 5 with q | q
     ·exact hr.no.1 q
     ·exfalso
      have q5 : c.st = 5 := by lia
      have hw : (rows c.st).word = [] := by
       rcases hr.word with hw | ⟨hw, _⟩
       ·exact hw
       ·lia
      rcases n2 with n2 | ⟨_, n2, _⟩
      ·refine n2 ?_
       unfold aheadOf; rw [hw]; simp
      ·exact n2 (hr.no.2 q5)
    simp only [muC, g2, g3]
    simp
    lia
   ·have hyes := hr.yes
    have hm : ∀ d : Cfg, d.pos = c.pos + 1 + (rows c.st).word.length → d.st = (rows c.st).yes → muC text d < 1 + (text.length + 1 - c.pos) * 8 + (7 - c.st) := by
     intro d e1 e2
     unfold muC
     split
     ·lia
     ·rw [e1, e2]; lia
    refine hm _ ?_ ?_
    ·unfold deedC; split <;> (try rfl); simp only; split <;> rfl
    ·unfold deedC; split <;> (try rfl); simp only; split <;> rfl
noncomputable def unwait (c : Cfg) : Cfg := { c with wait := false }
theorem ahead_pre {r : Row} {t1 t2 : List Nat} {p : Nat} (h : t1 <+: t2) : aheadOf r t1 p <+: aheadOf r t2 p := by
 obtain ⟨t, rfl⟩ := h
 have e : (t1.drop (p + 1)).take r.word.length <+: ((t1 ++ t).drop (p + 1)).take r.word.length := by
  rw [List.drop_append, List.take_append]
  exact List.prefix_append _ _
 unfold aheadOf
 split
 ·obtain ⟨u, hu⟩ := e
  rw [← hu, List.map_append]
  exact List.prefix_append _ _
 ·exact e
theorem ahead_len {r : Row} {t : List Nat} {p : Nat} : (aheadOf r t p).length ≤ r.word.length := by
 unfold aheadOf
 split
 ·rw [List.length_map, List.length_take]; lia
 ·rw [List.length_take]; lia
theorem step_ext {rows : Nat → Row} {t1 t2 : List Nat} {b : Bool} {c : Cfg} (h : t1 <+: t2) (g : goC t1 false c) (hw : (stepC rows t1 false c).wait = false) : stepC rows t2 b c = stepC rows t1 false c := by
 refine xAAA g fun g1 g2 g3 g4 => ?_
 have hlt : c.pos < t1.length := by
  rcases g4 with q | q
  ·exact q
  ·cases q
 have e1 : t1[c.pos]? = some t1[c.pos] := List.getElem?_eq_getElem hlt
 have e2 : t2[c.pos]? = some t1[c.pos] := by
  obtain ⟨t, rfl⟩ := h
  rw [List.getElem?_append_left hlt, e1]
 have hp := ahead_pre (r := rows c.st) (p := c.pos) h
 have hl := ahead_len (r := rows c.st) (t := t2) (p := c.pos)
 unfold stepC at hw ⊢
 rw [e1] at hw ⊢
 rw [e2]
 simp only at hw ⊢
 by_cases ha : aheadOf (rows c.st) t1 c.pos = (rows c.st).word
 ·have ha2 : aheadOf (rows c.st) t2 c.pos = (rows c.st).word := by
   rw [← ha]
   exact (List.IsPrefix.eq_of_length_le hp (by rw [ha]; exact hl)).symm
  simp only [ha, ha2, ne_eq, not_true_eq_false, false_and, if_false, false_or]
 ·by_cases hpre : aheadOf (rows c.st) t1 c.pos <+: (rows c.st).word
  ·rw [if_pos ⟨ha, hpre, trivial⟩] at hw
   cases hw
  ·have hn : aheadOf (rows c.st) t2 c.pos ≠ (rows c.st).word := fun e => hpre (e ▸ hp)
   have hn2 : ¬ aheadOf (rows c.st) t2 c.pos <+: (rows c.st).word := fun e => hpre (hp.trans e)
   rw [if_neg (show ¬ (aheadOf (rows c.st) t2 c.pos ≠ (rows c.st).word ∧ aheadOf (rows c.st) t2 c.pos <+: (rows c.st).word ∧ b = false) from fun q => hn2 q.2.1), if_pos (show _ ∨ _ from .inl hn), if_neg (fun q => hpre q.2.1), if_pos (show _ ∨ _ from .inl ha)]
theorem step_wait {rows : Nat → Row} {t : List Nat} {b : Bool} {c : Cfg} (g : c.wait = false) (h : (stepC rows t b c).wait = true) : unwait (stepC rows t b c) = c := by
 unfold stepC at h ⊢
 split at h
 ·simp only [g] at h; cases h
 ·split at h
  ·rw [if_pos (by assumption)]
   unfold unwait
   cases c
   simp only at g ⊢
   rw [g]
  ·split at h
   ·simp only [g] at h; cases h
   ·exfalso
    unfold deedC at h
    split at h <;> first | (simp only [g] at h; cases h) | skip
    simp only at h
    split at h <;> simp only [g] at h <;> cases h
theorem Reach.ext {rows : Nat → Row} {t1 t2 : List Nat} {b : Bool} {a c : Cfg} (hp : t1 <+: t2) (h : Reach rows t1 false a c) : a.wait = false → Reach rows t2 b a (unwait c) := by
 induction h with
 | refl c => intro hw; rw [show unwait c = c from by cases c; simp only [unwait] at hw ⊢; rw [hw]]; exact .refl _
 | @head c d g h ih =>
  intro hw
  cases e : (stepC rows t1 false c).wait with
  | false =>
   refine .head ⟨g.1, g.2.1, g.2.2.1, ?_⟩ (step_ext (b := b) hp g e ▸ ih e)
   rcases g.2.2.2 with q | q
   ·exact .inl (Nat.lt_of_lt_of_le q hp.length_le)
   ·cases q
  | true =>
   have : d = stepC rows t1 false c := by
    cases h with
    | refl => rfl
    | head g' _ => exact absurd g'.2.1 (by rw [e]; decide)
   subst this
   rw [step_wait g.2.1 e]
   exact .refl _
end Mine
end
section
open PySem PySem.W PyProof.Rows Mine
namespace Mine
noncomputable def OffT (A : TA) (l : List (Addr × Obj)) : Prop := (∀ p ∈ l, p.1 ≠ A.t) ∧ (∀ p ∈ l, p.1 ≠ A.td) ∧ (∀ p ∈ l, p.1 ≠ A.s) ∧ (∀ p ∈ l, p.1 ≠ A.sd) ∧ (∀ p ∈ l, p.1 ≠ A.sg) ∧ (∀ p ∈ l, p.1 ≠ A.se) ∧ (∀ p ∈ l, p.1 ≠ A.ou) ∧ (∀ p ∈ l, p.1 ≠ A.er)
noncomputable def GtA (A : TA) (a : Addr) : Prop := A.t < a ∧ A.td < a ∧ A.s < a ∧ A.sd < a ∧ A.sg < a ∧ A.se < a ∧ A.ou < a ∧ A.er < a
theorem offT_cons {A : TA} {a : Addr} {o : Obj} {l : List (Addr × Obj)} (g : GtA A a) (h : OffT A l) : OffT A ((a, o) :: l) := by
 refine xAAAAAAA g fun g1 g2 g3 g4 g5 g6 g7 g8 => ?_
 refine xAAAAAAA h fun h1 h2 h3 h4 h5 h6 h7 h8 => ?_
 refine ⟨?_, ?_, ?_, ?_, ?_, ?_, ?_, ?_⟩ <;> (intro p hp; rcases List.mem_cons.mp hp with rfl | hp)
 ·exact Nat.ne_of_gt g1
 ·exact h1 p hp
 ·exact Nat.ne_of_gt g2
 ·exact h2 p hp
 ·exact Nat.ne_of_gt g3
 ·exact h3 p hp
 ·exact Nat.ne_of_gt g4
 ·exact h4 p hp
 ·exact Nat.ne_of_gt g5
 ·exact h5 p hp
 ·exact Nat.ne_of_gt g6
 ·exact h6 p hp
 ·exact Nat.ne_of_gt g7
 ·exact h7 p hp
 ·exact Nat.ne_of_gt g8
 ·exact h8 p hp
theorem offT_app {A : TA} {l r : List (Addr × Obj)} (g : OffT A l) (h : OffT A r) : OffT A (l ++ r) := by
 refine xAAAAAAA g fun g1 g2 g3 g4 g5 g6 g7 g8 => ?_
 refine xAAAAAAA h fun h1 h2 h3 h4 h5 h6 h7 h8 => ?_
 refine ⟨?_, ?_, ?_, ?_, ?_, ?_, ?_, ?_⟩ <;> (intro p hp; rcases List.mem_append.mp hp with hp | hp)
 ·exact g1 p hp
 ·exact h1 p hp
 ·exact g2 p hp
 ·exact h2 p hp
 ·exact g3 p hp
 ·exact h3 p hp
 ·exact g4 p hp
 ·exact h4 p hp
 ·exact g5 p hp
 ·exact h5 p hp
 ·exact g6 p hp
 ·exact h6 p hp
 ·exact g7 p hp
 ·exact h7 p hp
 ·exact g8 p hp
 ·exact h8 p hp
theorem offT_nil {A : TA} : OffT A [] := by refine ⟨?_, ?_, ?_, ?_, ?_, ?_, ?_, ?_⟩ <;> exact (fun _ h => nomatch h)
theorem item_tup_L {prog : Program} {w : World} {A : Around} {E : Value → Shared → Prop} {s : Shared} {h₀ : Heap} {L l : Addr} {news : List (Addr × Obj)} {vs : List Value} {k : Nat} {Q : Value → Shared → Prop} {value slice : Expr} {z : Int} {u : Tok} {v : Value} (N : News h₀ L s.heap news)
  (h1 : (l, ({ cls := .type "tuple", data := .seq vs.toArray k } : Obj)) ∈ news) (h0 : 0 ≤ z) (hz : z < 100000) (hv : vs[z.toNat]? = some v) (h : Q v s)
  (hs : subscripted slice false (.ref l) (.int z u) = operate [.ref l, .int z u] (getItem (.ref l) (.int z u))) :
  wpAny (model prog w) A (subscriptTail value slice (.ref l) (.int z u)) Q E s := by
 have hlt : z.toNat < vs.length := by
  rcases Nat.lt_or_ge z.toNat vs.length with q | q
  ·exact q
  ·rw [List.getElem?_eq_none q] at hv; cases hv
 exact item_tupleT (N.isTup h1) (by lia) (by lia) (seqIndex_of h0 (by lia)) hv h hs
noncomputable def nextS (text : List Nat) (p : Nat) : PySem.Str := match text[p]? with | none => ofString "" | some c => chS c
theorem nextS_lt {text : List Nat} {p : Nat} (h : p < text.length) : nextS text p = chS (text.getD p 0) := by
 unfold nextS; rw [List.getElem?_eq_getElem h]; simp [List.getD_eq_getElem?_getD, h]
end Mine
end
section
open PySem PySem.W PyProof.Rows Mine
namespace Mine
structure DA where
 dt : Nat
 dd : Nat
 al : Nat
 il : Nat
noncomputable abbrev drEs (K : TK) (D : DA) (kind name : PySem.Str) (qc : Bool) : List DictEntry := [
 en K 0 "kind" (.str kind (K.k 10)), en K 1 "name" (.str name (K.k 11)), en K 2 "text" (.str (ofString "") (K.k 12)), en K 3 "public" .none, en K 4 "system" .none,
 en K 5 "is_quirks" (.bool false), en K 6 "is_closing" (.bool qc), en K 7 "attrs" (.ref D.al)]
noncomputable def drTokS (kind name : PySem.Str) (val : Option (List Nat)) (qc : Bool) : Dat := if (kind == oS "comment") = true then .tuple [.str (oS "comment"), .str (oS "")] else .tuple [.str kind, .str name, valD val, .bool qc]
end Mine
end
section
open PySem PySem.W PyProof.Rows PySem.Calls
namespace Mine
section
variable {prog : Program} {w : World} {A : Around} {E : Value → Shared → Prop} {s : Shared}
theorem len_S {xs : List Nat} {t : Tok} {Q : Value → Shared → Prop} (hl : xs.length ≤ 100000) (h : Q (.int (xs.length : Int) (s.toks + 1)) { s with toks := s.toks + 1 + 1 }) : wpAny (model prog w) A (call (.builtin "len") [.str ⟨xs.toArray⟩ t]) Q E s := by
 have e : (⟨xs.toArray⟩ : PySem.Str).length = xs.length := by simp [PySem.Str.length]
 exact PySem.P.len_str (by rw [e]; lia) (by rw [e]; exact h)
theorem item_S {value slice : Expr} {xs : List Nat} {t u : Tok} {z : Int} {Q : Value → Shared → Prop} (h0 : 0 ≤ z) (hz : z < xs.length) (hl : xs.length ≤ 100000) (h : ∀ t' tk, Q (.str (chS (xs.getD z.toNat 0)) t') { s with toks := tk })
  (hs : subscripted slice false (.str ⟨xs.toArray⟩ t) (.int z u) = operate [.str ⟨xs.toArray⟩ t, .int z u] (getItem (.str ⟨xs.toArray⟩ t) (.int z u))) (ht : ∀ r, letTemporaryGo value (.str ⟨xs.toArray⟩ t) r = pure ()) :
  wpAny (model prog w) A (subscriptTail value slice (.str ⟨xs.toArray⟩ t) (.int z u)) Q E s := by
 have e : (⟨xs.toArray⟩ : PySem.Str).length = xs.length := by simp [PySem.Str.length]
 refine item_str (fitsSsize_of (N := 100000) (by lia) (by lia) (by decide)) (by rw [e]; lia) (by rw [e]; exact hz) (fun _ => ?_) hs ht
 have e2 : PySem.Txt.item ⟨xs.toArray⟩ z = chS (xs.getD z.toNat 0) := by
  unfold PySem.Txt.item PySem.Txt.charAt
  rw [seqIndex_of h0 (by rw [e]; exact hz)]
  have hlt : z.toNat < xs.length := by lia
  simp [hlt, List.getD_eq_getElem?_getD]
 rw [e2]
 exact h _ _
end
end Mine
end
section
open PySem PySem.W PyProof.Rows Mine
namespace Mine
noncomputable def aheadW (word : List Nat) (fold : Bool) (text : List Nat) (p : Nat) : List Nat := if fold then ((text.drop p).take word.length).map lowC else (text.drop p).take word.length
noncomputable def looksC (word : List Nat) (fold : Bool) (text : List Nat) (closed : Bool) (p : Nat) : Int :=
 if aheadW word fold text p = word then 1 else if aheadW word fold text p <+: word ∧ closed = false then -1 else 0
theorem aheadW_get {word : List Nat} {fold : Bool} {text : List Nat} {p i : Nat} (hi : i < word.length) (hlt : p + i < text.length) : (aheadW word fold text p)[i]? = some (if fold then lowC (text.getD (p + i) 0) else text.getD (p + i) 0) := by
 have e : text.getD (p + i) 0 = text[p + i] := by simp [List.getD_eq_getElem?_getD, hlt]
 unfold aheadW
 rw [e]
 cases fold <;> simp [hi, hlt]
theorem aheadW_len {word : List Nat} {fold : Bool} {text : List Nat} {p : Nat} : (aheadW word fold text p).length = min word.length (text.length - p) := by
 unfold aheadW
 split <;> simp
theorem looks_end {word : List Nat} {fold : Bool} {text : List Nat} {closed : Bool} {p i : Nat} (h : (aheadW word fold text p).take i = word.take i) (hi : i < word.length) (hp : p + i = text.length) : looksC word fold text closed p = if closed then 0 else -1 := by
 have hl : (aheadW word fold text p).length = i := by rw [aheadW_len]; lia
 have e : aheadW word fold text p = word.take i := by rw [← h, List.take_of_length_le (by lia)]
 unfold looksC
 rw [if_neg (fun q => by have := congrArg List.length q; lia)]
 rw [e]
 cases closed
 ·rw [if_pos ⟨List.take_prefix _ _, rfl⟩]; rfl
 ·rw [if_neg (fun q => nomatch q.2)]; rfl
theorem looks_ne {word : List Nat} {fold : Bool} {text : List Nat} {closed : Bool} {p i : Nat} (hi : i < word.length) (hlt : p + i < text.length) (hne : (if fold then lowC (text.getD (p + i) 0) else text.getD (p + i) 0) ≠ word.getD i 0) : looksC word fold text closed p = 0 := by
 have e := aheadW_get (fold := fold) hi hlt
 have e2 : word.getD i 0 = word[i] := by simp [List.getD_eq_getElem?_getD, hi]
 have hn : ¬ aheadW word fold text p <+: word := by
  rintro ⟨u, hu⟩
  have h1 : i < (aheadW word fold text p).length := by
   rcases Nat.lt_or_ge i (aheadW word fold text p).length with q | q
   ·exact q
   ·rw [List.getElem?_eq_none q] at e; cases e
  have h2 : word[i]? = some (if fold then lowC (text.getD (p + i) 0) else text.getD (p + i) 0) := by
   rw [← e, ← List.getElem?_append_left (l₂ := u) h1, hu]
  rw [List.getElem?_eq_getElem hi] at h2
  exact hne (by rw [e2]; exact (Option.some.inj h2).symm)
 unfold looksC
 rw [if_neg (fun q => hn (by rw [q]; exact List.prefix_rfl)), if_neg (fun q => hn q.1)]
theorem looks_eq {word : List Nat} {fold : Bool} {text : List Nat} {p i : Nat} (h : (aheadW word fold text p).take i = word.take i) (hi : i < word.length) (hlt : p + i < text.length) (he : (if fold then lowC (text.getD (p + i) 0) else text.getD (p + i) 0) = word.getD i 0) : (aheadW word fold text p).take (i + 1) = word.take (i + 1) := by
 rw [List.take_add_one, List.take_add_one, h, aheadW_get hi hlt, he, List.getElem?_eq_getElem hi]
 simp [List.getD_eq_getElem?_getD, hi]
theorem looks_all {word : List Nat} {fold : Bool} {text : List Nat} {closed : Bool} {p : Nat} (h : (aheadW word fold text p).take word.length = word.take word.length) : looksC word fold text closed p = 1 := by
 rw [List.take_of_length_le (by rw [aheadW_len]; lia), List.take_length] at h
 unfold looksC
 rw [if_pos h]
theorem chS_ne {a b : Nat} (h : (chS a != chS b) = true) : a ≠ b := by rintro rfl; simp at h
theorem chS_eq {a b : Nat} (h : (chS a != chS b) = false) : a = b := by
 have := eq_of_beq (a := chS a) (b := chS b) (by simpa [bne] using h)
 simpa [chS] using this
end Mine
end
section
open PySem PySem.W PyProof.Rows Mine
namespace Mine
noncomputable abbrev SpecN (w : World) (dd : Nat) (news : List (Addr × Obj)) (f : Addr) (vs : List Value) (Post : Value → List (Addr × Obj) → Prop) : Prop :=
 ∀ (mean : ExcName → Option Value) (mg mb : PySem.Str → Option Value) (dp un : Nat) (gd : Option (List Code)) (cn : PySem.Str) (cs : Scope) (a : Addr) (ccd : Value) (cl : List (PySem.Str × Addr)) (outer : List Env)
  (A₀ : Around) (base h₀ : Heap) (L : Addr) (m : PySem.Str → Option Value) (s : Shared) (Q E : Value → Shared → Prop),
  Below A₀ base outer h₀ → Fr h₀ L s.heap m → (hd.heap_1 w.params).In h₀ → News h₀ L s.heap news → Top Mine.vw (looseW Mine.vw []) mean mg mb h₀ → cs.kind = .function →
  dp + dd < recursionLimit → un + 16 * dd < cLine →
  (∀ (v : Value) (news' : List (Addr × Obj)) (h' : Heap) (tk' : Nat), Fr h₀ L h' m → News h₀ L h' news' → Post v news' → Q v { s with heap := h', toks := tk' }) →
  wpAny (model Challenge.rw_nt0602_01.row.toRowW.prog w) (ktrTop dp un gd cn cs L a ccd cl outer) (call (.ref f) vs) Q E s
structure NewT (A : TA) (new rest : List (Addr × Obj)) : Prop where
 off : OffT A new
 gt : ∀ p ∈ new, ∀ q ∈ rest, q.1 < p.1
theorem NewT.one {A : TA} {a : Addr} {o : Obj} {rest : List (Addr × Obj)} (g : GtA A a) (h : ∀ p ∈ rest, p.1 < a) : NewT A [(a, o)] rest := ⟨offT_cons g offT_nil, fun p hp q hq => by rw [List.mem_singleton.mp hp]; exact h q hq⟩
theorem NewT.offR {A : TA} {new rest : List (Addr × Obj)} (h : NewT A new rest) (g : OffT A rest) : OffT A (new ++ rest) := offT_app h.off g
end Mine
end
section
open PySem PySem.W PyProof.Rows Mine
namespace Mine
noncomputable abbrev toldVs (c : Nat) (t : Tok) : List Value := [.bool (blankB c), .bool (spaceB c), .bool (upB c), .bool (loB c), .bool (letB c), .bool (digB c), .bool (hexB c), .bool (alnB c), .bool (surB c), .bool (nonB c), .bool (ctlB c), .int (if hexB c then digV c else 7) t]
end Mine
end
section
open PySem PySem.W PyProof.Rows Mine
namespace Mine
theorem Spec.weak {w : World} {dd : Nat} {news news' : List (Addr × Obj)} {f : Addr} {vs : List Value} {P P' : Value → List (Addr × Obj) → Prop} (hs : ∀ p ∈ news, p ∈ news') (hP : ∀ r n, P r n → ∃ n', (∀ p ∈ n', p ∈ n) ∧ P' r n') (S : Spec w dd news f vs P) : Spec w dd news' f vs P' := by
 intro mean mg mb dp un gd cn cs a ccd cl outer A₀ base h₀ L m s Q E hB hF hX hN hT hk hd hu hret
 refine S mean mg mb dp un gd cn cs a ccd cl outer A₀ base h₀ L m s Q E hB hF hX (fun p hp => hN p (hs p hp)) hT hk hd hu ?_
 intro v n h' tk' F' N' K' hp
 refine xEA (hP v n hp) fun n' hsub hp' => ?_
 exact hret v n' h' tk' F' (fun p hp => N' p (hsub p hp)) (fun b o e hb => K' b o e fun hb' => hb (by
  refine xEA (List.mem_map.mp hb') fun q hq e' => ?_
  exact List.mem_map.mpr ⟨q, hs q hq, e'⟩)) hp'
noncomputable def RowAt (B : List (Addr × Obj)) (ra : Addr) (rw : Row) : Prop := ∃ (n0 : Nat) (t0 t1 t3 t4 t5 t6 t7 : Tok), (ra, ({ cls := .type "tuple", data := .seq [.int (rw.test : Int) t0, .str (xS rw.word) t1, .bool rw.fold, .int (rw.deed : Int) t3, .str (kindS rw.kind) t4, .str (backS rw.back) t5, .str (stS rw.yes) t6, .str (noS rw.no) t7].toArray n0 } : Obj)) ∈ B
structure EnvAt (w : World) (sa : Addr) (rows : Nat → Row) (txt : List Nat) (B : List (Addr × Obj)) (so tobj : Obj) (kvs : List (PySem.Str × Value)) (kvt : List (Int × Value)) (ro to : Addr) (rvs : List Value) (rk : Nat) : Prop where
 mso : (sa, so) ∈ B
 sd : so.IsDictOf (PySem.strKind PG w) kvs
 sm : (sa == sysModules) = false
 vr : valueAt kvs (ofString "rows") = some (.ref ro)
 vt : valueAt kvs (ofString "told") = some (.ref to)
 vn : ∀ n, n < 6 → valueAt kvs (stS n) = some (.ref 487)
 v6 : valueAt kvs (stS 6) = none
 mro : (ro, listOf rvs.toArray rk) ∈ B
 rw : ∀ k, k < 6 → ∃ ra, rvs[k]? = some (.ref ra) ∧ RowAt B ra (rows k)
 mto : (to, tobj) ∈ B
 td : tobj.IsDictOf (PySem.intKind PG w) kvt
 tv : ∀ c, c ∈ txt → ∃ xa xk xt, valueAt kvt (c : Int) = some (.ref xa) ∧ (xa, listOf (toldVs c xt).toArray xk) ∈ B
theorem EnvAt.mono {w : World} {sa : Addr} {rows : Nat → Row} {txt : List Nat} {B B' : List (Addr × Obj)} {so tobj : Obj} {kvs : List (PySem.Str × Value)} {kvt : List (Int × Value)} {ro to : Addr} {rvs : List Value} {rk : Nat} (hs : ∀ p ∈ B, p ∈ B') (h : EnvAt w sa rows txt B so tobj kvs kvt ro to rvs rk) : EnvAt w sa rows txt B' so tobj kvs kvt ro to rvs rk :=
 ⟨hs _ h.mso, h.sd, h.sm, h.vr, h.vt, h.vn, h.v6, hs _ h.mro, fun k hk => by
  refine xEAEEEEEEEE (h.rw k hk) fun ra h1 n0 t0 t1 t3 t4 t5 t6 t7 h2 => ?_
  exact ⟨ra, h1, n0, t0, t1, t3, t4, t5, t6, t7, hs _ h2⟩, hs _ h.mto, h.td, fun c hc => by
  refine xEEEA (h.tv c hc) fun xa xk xt h1 h2 => ?_
  exact ⟨xa, xk, xt, h1, hs _ h2⟩⟩
noncomputable abbrev dlN (K2 : TK) (D : DA) (kind name : PySem.Str) (qc : Bool) (k3 : Nat) : List (Addr × Obj) := [(D.al, listOf [].toArray k3), (D.dt, instObj 415 D.dd), (D.dd, dictOf (drEs K2 D kind name qc) 8)]
noncomputable abbrev dlS (K2 : TK) (D : DA) (kind name : PySem.Str) (qc : Bool) (k3 k4 : Nat) (u1 u3 : Tok) (xs : List Nat) : List (Addr × Obj) := [(D.il, listOf [.str (ofString "") u1, .str ⟨xs.toArray⟩ u3, .bool true].toArray k4), (D.al, listOf [.ref D.il].toArray k3), (D.dt, instObj 415 D.dd), (D.dd, dictOf (drEs K2 D kind name qc) 8)]
inductive DrAt : Value → Option Dr → List (Addr × Obj) → Prop
 | none : DrAt .none none []
 | noval (D : DA) (K2 : TK) (k3 kind name : Nat) : D.dd < D.dt → D.dt < D.al → DrAt (.ref D.dt) (some ⟨kind, name, none⟩) (dlN K2 D (kindS kind) (chS name) false k3)
 | val (D : DA) (K2 : TK) (k3 k4 : Nat) (u1 u3 : Tok) (kind name : Nat) (xs : List Nat) : D.dd < D.dt → D.dt < D.al → D.al < D.il → DrAt (.ref D.dt) (some ⟨kind, name, some xs⟩) (dlS K2 D (kindS kind) (chS name) false k3 k4 u1 u3 xs)
structure TokAt (A : TA) (text : List Nat) (closed : Bool) (c : Cfg) (v : TV) (dl rest : List (Addr × Obj)) : Prop where
 signs : StrsAre v.signs (text.map fun c => chS c)
 closed : v.closed = closed
 serl : v.serrs.length ≤ text.length
 outs : DatAll rest v.outs c.out
 ers : DatAll rest v.ers c.errs
 pos : v.pos = c.pos
 state : v.state = stS c.st
 back : v.back = backS c.back
 buf : v.buf = xS c.buf
 code : v.code = c.code
 last : v.last = xS c.last
 wait : v.waiting = c.wait
 done : v.done = c.done
 draft : DrAt v.draft c.draft dl
 offL : ∀ p ∈ dl, ∀ q ∈ rest, p.1 ≠ q.1
 offT : OffT A (dl ++ rest)
theorem perm3 {X dl new rest : List (Addr × Obj)} : ∀ p ∈ X ++ (dl ++ (new ++ rest)), p ∈ X ++ (new ++ (dl ++ rest)) := fun p hp => by
 simp only [List.mem_append] at hp ⊢
 rcases hp with h | h | h | h
 ·exact .inl h
 ·exact .inr (.inr (.inl h))
 ·exact .inr (.inl h)
 ·exact .inr (.inr (.inr h))
theorem offT_perm {A : TA} {l r : List (Addr × Obj)} (hs : ∀ p ∈ r, p ∈ l) (h : OffT A l) : OffT A r := by
 refine xAAAAAAA h fun h1 h2 h3 h4 h5 h6 h7 h8 => ?_
 exact ⟨fun p hp => h1 p (hs p hp), fun p hp => h2 p (hs p hp), fun p hp => h3 p (hs p hp), fun p hp => h4 p (hs p hp), fun p hp => h5 p (hs p hp), fun p hp => h6 p (hs p hp), fun p hp => h7 p (hs p hp), fun p hp => h8 p (hs p hp)⟩
theorem kind_facts {k : Nat} (h : k ≤ 2) : (kindS k == oS "doctype") = false := by
 rcases k with _ | _ | _ | k
 ·decide +kernel
 ·decide +kernel
 ·decide +kernel
 ·lia
theorem drTokS_eq {k n : Nat} {val : Option (List Nat)} {fold : Bool} (h : k ≤ 2) : drTokS (kindS k) (chS n) val fold = drTok ⟨k, n, val⟩ fold := by
 unfold drTokS drTok
 rcases k with _ | _ | _ | k
 ·rw [if_neg (by decide +kernel), if_neg (by simp)]
 ·rw [if_neg (by decide +kernel), if_neg (by simp)]
 ·rw [if_pos (by decide +kernel), if_pos rfl]
 ·lia
end Mine
end
section
open PySem PySem.W PyProof.Rows Mine
namespace Mine
theorem chS_cr {c : Nat} (h : c ≠ 13) : (chS c == ofString "\r") = false := by
 cases e : (chS c == ofString "\r")
 ·rfl
 ·have e2 : ofString "\r" = chS 13 := by decide +kernel
  rw [e2] at e
  have := eq_of_beq e
  simp [chS] at this
  exact absurd this h
end Mine
end
section
open PySem PySem.W PyProof.Rows Mine
namespace Mine
theorem int_st {n : Nat} (h : n < 6) : PySem.intText? (stS n) = some (n : Int) := by
 have : n = 0 ∨ n = 1 ∨ n = 2 ∨ n = 3 ∨ n = 4 ∨ n = 5 := by lia
 rcases this with rfl | rfl | rfl | rfl | rfl | rfl <;> decide +kernel
theorem told_at {n c : Nat} {t : Tok} (h : n ≤ 10) : (toldVs c t)[((n : Nat) : Int).toNat]? = some (.bool (kindB n c)) := by
 rcases n with _ | _ | _ | _ | _ | _ | _ | _ | _ | _ | _ | n
 iterate 11 exact rfl
 exact absurd h (by lia)
theorem xS_ne {l : List Nat} : ((⟨l.toArray⟩ : PySem.Str) != ofString "") = decide (l ≠ []) := by
 cases l with
 | nil => decide +kernel
 | cons a l =>
  rw [decide_eq_true (by simp)]
  have e : ofString "" = ⟨[].toArray⟩ := by decide +kernel
  rw [e]
  cases h : ((⟨(a :: l).toArray⟩ : PySem.Str) != ⟨[].toArray⟩)
  ·exfalso
   have h2 := eq_of_beq (a := (⟨(a :: l).toArray⟩ : PySem.Str)) (b := ⟨[].toArray⟩) (by simpa [bne] using h)
   have h3 := congrArg (fun x : PySem.Str => x.cps.size) h2
   simp at h3
  ·rfl
theorem noS_ne {n : Nat} : (noS n != ofString "") = decide (n ≠ 0) := by
 unfold noS
 by_cases h : n = 0
 ·rw [if_pos h, decide_eq_false (by simp [h])]; decide +kernel
 ·rw [if_neg h, decide_eq_true h]
  have := xS_ne (l := [48 + n])
  rw [decide_eq_true (by simp)] at this
  exact this
theorem chS_ee {c : Nat} : (chS c == ofString "") = false := by
 have := xS_ne (l := [c])
 rw [decide_eq_true (by simp)] at this
 simpa [bne] using this
noncomputable def ruleC (rows : Nat → Row) (text : List Nat) (closed : Bool) (c : Cfg) : Cfg := if (stepC rows text closed c).wait = true then { stepC rows text closed c with pos := c.pos + 1 } else stepC rows text closed c
theorem aheadOf_eq (r : Row) (text : List Nat) (p : Nat) : aheadOf r text p = aheadW r.word r.fold text (p + 1) := rfl
section
variable {rows : Nat → Row} {text : List Nat} {closed : Bool} {c : Cfg} {ch : Nat}
theorem looksC_nil {fold : Bool} {p : Nat} : looksC [] fold text closed p = 1 := by
 unfold looksC aheadW
 cases fold <;> simp
theorem stepC_wait (h : text[c.pos]? = some ch) (hl : looksC (rows c.st).word (rows c.st).fold text closed (c.pos + 1) = -1) : stepC rows text closed c = { c with wait := true } := by
 unfold looksC at hl
 split at hl
 ·cases hl
 ·rename_i h1
  split at hl
  ·rename_i h2
   unfold stepC; rw [h]
   exact if_pos ⟨h1, h2⟩
  ·cases hl
theorem stepC_no (h : text[c.pos]? = some ch) (hl : looksC (rows c.st).word (rows c.st).fold text closed (c.pos + 1) = 0 ∨ ((rows c.st).word = [] ∧ (rows c.st).no ≠ 0 ∧ kindB (rows c.st).test ch = false)) : stepC rows text closed c = { c with st := (rows c.st).no } := by
 unfold stepC; rw [h]
 have hnil : (rows c.st).word = [] → aheadOf (rows c.st) text c.pos = (rows c.st).word := fun e => by rw [aheadOf_eq, e]; unfold aheadW; split <;> simp
 rcases hl with hl | hl
 ·unfold looksC at hl
  split at hl
  ·cases hl
  ·rename_i h1
   split at hl
   ·cases hl
   ·rename_i h2
    exact (if_neg (fun q => h2 q.2)).trans (if_pos (.inl h1))
 ·exact (if_neg (fun q => q.1 (hnil hl.1))).trans (if_pos (.inr hl))
theorem stepC_yes (h : text[c.pos]? = some ch) (hl : looksC (rows c.st).word (rows c.st).fold text closed (c.pos + 1) = 1) (hn : ¬ ((rows c.st).word = [] ∧ (rows c.st).no ≠ 0 ∧ kindB (rows c.st).test ch = false)) :
  stepC rows text closed c = deedC (rows c.st) ch { c with pos := c.pos + 1 + (rows c.st).word.length, st := (rows c.st).yes } := by
 unfold looksC at hl
 split at hl
 ·rename_i h1
  unfold stepC; rw [h]
  exact (if_neg (fun q => q.1 h1)).trans (if_neg (fun q => q.elim (fun q => q h1) hn))
 ·split at hl <;> cases hl
theorem looksC_or {word : List Nat} {fold : Bool} {p : Nat} : looksC word fold text closed p = 1 ∨ looksC word fold text closed p = 0 ∨ looksC word fold text closed p = -1 := by
 unfold looksC
 split
 ·exact .inl rfl
 ·split
  ·exact .inr (.inr rfl)
  ·exact .inr (.inl rfl)
theorem stepC_eof (h : text[c.pos]? = none) : stepC rows text closed c = { c with out := c.out ++ [eofTok], pos := c.pos + 1, done := true } := by
 unfold stepC; rw [h]
theorem deedC_st (r : Row) (ch n : Nat) (c : Cfg) : deedC r ch { c with st := n } = { deedC r ch c with st := n } := by
 rcases c with ⟨out, errs, pos, st, back, buf, code, last, draft, wait, done⟩
 cases draft <;> (unfold deedC; split <;> rfl)
theorem deedC_wait (r : Row) (ch : Nat) (c : Cfg) : (deedC r ch c).wait = c.wait := by
 rcases c with ⟨out, errs, pos, st, back, buf, code, last, draft, wait, done⟩
 cases draft <;> (unfold deedC; split <;> rfl)
theorem ruleC_yes (h : text[c.pos]? = some ch) (hl : looksC (rows c.st).word (rows c.st).fold text closed (c.pos + 1) = 1) (hn : ¬ ((rows c.st).word = [] ∧ (rows c.st).no ≠ 0 ∧ kindB (rows c.st).test ch = false)) (hw : c.wait = false) :
  ruleC rows text closed c = { deedC (rows c.st) ch { c with pos := c.pos + 1 + (rows c.st).word.length } with st := (rows c.st).yes } := by
 unfold ruleC
 rw [stepC_yes h hl hn, deedC_wait, if_neg (by show ¬ c.wait = true; rw [hw]; decide)]
 exact deedC_st (rows c.st) ch (rows c.st).yes { c with pos := c.pos + 1 + (rows c.st).word.length }
theorem ruleC_no (h : text[c.pos]? = some ch) (hl : looksC (rows c.st).word (rows c.st).fold text closed (c.pos + 1) = 0 ∨ ((rows c.st).word = [] ∧ (rows c.st).no ≠ 0 ∧ kindB (rows c.st).test ch = false)) (hw : c.wait = false) : ruleC rows text closed c = { c with st := (rows c.st).no } := by
 unfold ruleC
 rw [stepC_no h hl, if_neg (by show ¬ c.wait = true; rw [hw]; decide)]
theorem ruleC_wait (h : text[c.pos]? = some ch) (hl : looksC (rows c.st).word (rows c.st).fold text closed (c.pos + 1) = -1) : ruleC rows text closed c = { c with wait := true, pos := c.pos + 1 } := by
 unfold ruleC
 rw [stepC_wait h hl, if_pos rfl]
theorem ruleC_eof (h : text[c.pos]? = none) (hw : c.wait = false) : ruleC rows text closed c = { c with out := c.out ++ [eofTok], pos := c.pos + 1, done := true } := by
 unfold ruleC
 rw [stepC_eof h, if_neg (by show ¬ c.wait = true; rw [hw]; decide)]
end
end Mine
end
section
open PySem PySem.W PyProof.Rows Mine
namespace Mine
noncomputable def aptC (c : Cfg) : Bool := match c.draft with
 | none => false
 | some d => decide (d.kind = 0) && decide ([d.name] = c.last)
noncomputable def seenD (c : Cfg) : Dat := .tuple [.list c.out, .list c.errs, .int c.pos, .str (stS c.st), .str (backS c.back), .str (xS c.buf), .int c.code, .str (xS c.last), drSeen c.draft, .bool (aptC c), .bool (decide (c.back < 3)), .bool c.wait, .bool false, .bool c.done]
theorem apt_eq {k n : Nat} {l : List Nat} (h : k ≤ 2) : ((kindS k == oS "end") && ((!(xS l == oS "")) && (chS n == xS l))) = (decide (k = 0) && decide ([n] = l)) := by
 have e1 : (kindS k == oS "end") = decide (k = 0) := by
  rcases k with _ | _ | _ | k
  ·decide +kernel
  ·decide +kernel
  ·decide +kernel
  ·lia
 have e2 : (chS n == xS l) = decide ([n] = l) := by
  cases h2 : (chS n == xS l)
  ·symm; apply decide_eq_false; rintro rfl; simp at h2
  ·symm; apply decide_eq_true
   have := congrArg (fun x : PySem.Str => x.cps.toList) (eq_of_beq h2)
   simpa using this
 rw [e1, e2]
 by_cases q : [n] = l
 ·subst q
  have := xS_ne (l := [n])
  rw [decide_eq_true (by simp)] at this
  have e3 : (!(xS [n] == oS "")) = true := this
  rw [e3]; simp
 ·rw [decide_eq_false q]; simp
end Mine
end
section
open PySem PySem.W PyProof.Rows Mine
namespace Mine
open Builtin.Str in
theorem small_b (c : Nat) : (!(occurrences (ofString "abcdefghijklmnopqrstuvwxyz") (chS c) 0 (ofString "abcdefghijklmnopqrstuvwxyz").length 1).isEmpty) = loB c := by
 rw [StrLaws.found_one, show (ofString "abcdefghijklmnopqrstuvwxyz").cps.toList = List.range' 97 26 from by decide +kernel, Bool.eq_iff_iff]
 simp only [loB, decide_eq_true_eq, Bool.and_eq_true, List.mem_range'_1]
 lia
open Builtin.Str in
theorem fig_b (c : Nat) : (!(occurrences (ofString "0123456789") (chS c) 0 (ofString "0123456789").length 1).isEmpty) = digB c := by
 rw [StrLaws.found_one, show (ofString "0123456789").cps.toList = List.range' 48 10 from by decide +kernel, Bool.eq_iff_iff]
 simp only [digB, decide_eq_true_eq, Bool.and_eq_true, List.mem_range'_1]
 lia
theorem gap_b (c : Nat) : ([ofString " ", ofString "\n", ofString "\t", ofString "\x0c"].any fun x => x == chS c) = blankB c := by
 simp only [os32, os10, os9, os12, ch_beq, List.any_cons, List.any_nil, Bool.or_false, blankB]
 rw [Bool.eq_iff_iff]
 simp only [Bool.or_eq_true, beq_iff_eq]
 lia
theorem low_b (c : Nat) : ((⟨(List.map lowC [c]).toArray⟩ : PySem.Str) != chS c) = upB c := by
 show ((⟨#[lowC c]⟩ : PySem.Str) != ⟨#[c]⟩) = upB c
 unfold bne
 rw [ch_beq, Bool.eq_iff_iff]
 unfold lowC
 cases h : upB c
 ·simp
 ·simp
theorem nn_b (c : Nat) : decide (0 ≤ if hexB c = true then digV c else -1) = hexB c := by
 cases h : hexB c
 ·rfl
 ·rw [if_pos rfl]
  refine decide_eq_true ?_
  simp only [hexB, digB, Bool.or_eq_true, Bool.and_eq_true, decide_eq_true_eq] at h
  unfold digV
  split
  ·simp_all only [digB, Bool.and_eq_true, decide_eq_true_eq]; lia
  ·split
   ·simp_all only [loB, Bool.and_eq_true, decide_eq_true_eq]; lia
   ·simp_all only [loB, digB, Bool.and_eq_true, decide_eq_true_eq, not_and]; lia
theorem find_small : ∀ c, c < 128 → Txt.find (ofString "0123456789abcdef") ⟨(List.map lowC [c]).toArray⟩ = if hexB c then digV c else -1 := by decide +kernel
theorem find_b (c : Nat) : Txt.find (ofString "0123456789abcdef") ⟨(List.map lowC [c]).toArray⟩ = if hexB c then digV c else -1 := by
 by_cases h : c < 128
 ·exact find_small c h
 ·have e : lowC c = c := by unfold lowC; rw [if_neg]; simp only [upB, Bool.and_eq_true, decide_eq_true_eq]; lia
  have hx : hexB c = false := by
   rw [Bool.eq_false_iff]; simp only [hexB, digB, ne_eq, Bool.or_eq_true, Bool.and_eq_true, decide_eq_true_eq]; lia
  have hm := StrLaws.found_one (ofString "0123456789abcdef") c
  rw [show (ofString "0123456789abcdef").cps.toList = [48, 49, 50, 51, 52, 53, 54, 55, 56, 57, 97, 98, 99, 100, 101, 102] from by decide +kernel] at hm
  rw [decide_eq_false (fun q => h ((by decide : ∀ x ∈ [48, 49, 50, 51, 52, 53, 54, 55, 56, 57, 97, 98, 99, 100, 101, 102], x < 128) c q)), Bool.not_eq_false'] at hm
  show Txt.find _ ⟨([lowC c]).toArray⟩ = _
  rw [e, hx]
  show Txt.find _ ⟨#[c]⟩ = -1
  unfold Txt.find
  rw [List.isEmpty_iff.mp hm]
end Mine
end
section
open PySem PySem.W PyProof.Rows Mine
namespace Mine
noncomputable def poolA : List Nat := [97, 65, 48, 122, 90, 57, 102, 70, 103, 71, 47, 58, 64, 91, 96, 123, 32, 9, 10, 12, 11, 0, 31, 127, 159, 160, 126, 55295, 55296, 57343, 57344, 64975, 64976, 65007, 65008]
noncomputable def poolB : List Nat := [65533, 65534, 65535, 65536, 1114111, 1114109, 8490, 305]
noncomputable def poolCs : List Nat := poolA ++ poolB
noncomputable def backL : List PySem.Str := [ofString "attribute value (unquoted)", ofString "attribute value (double-quoted)", ofString "attribute value (single-quoted)", ofString "data", ofString "after attribute value (quoted)"]
end Mine
end
section
open PySem PySem.W PyProof.Rows PySem.Calls PyProof.V PySem.Spec
namespace Mine
theorem starts_eq (xs ys : List Nat) : PySem.Txt.startswith ⟨xs.toArray⟩ ⟨ys.toArray⟩ = decide (ys <+: xs) := by
 unfold PySem.Txt.startswith Builtin.Str.subAt
 have h1 : ∀ zs : List Nat, (⟨zs.toArray⟩ : PySem.Str).length = zs.length := fun zs => by simp [PySem.Str.length]
 rw [h1, h1]
 by_cases h : ys <+: xs
 ·have hl := h.length_le
  have e := List.prefix_iff_eq_take.mp h
  rw [decide_eq_true h, Bool.and_eq_true]
  refine ⟨by simpa using hl, ?_⟩
  simp only [Nat.zero_add, List.extract_toArray, List.extract_eq_take_drop, Nat.sub_zero, List.drop_zero, beq_iff_eq]
  exact congrArg List.toArray e.symm
 ·rw [decide_eq_false h]
  cases hb : (decide (0 + ys.length ≤ xs.length) && ((⟨xs.toArray⟩ : PySem.Str).cps.extract 0 (0 + ys.length) == (⟨ys.toArray⟩ : PySem.Str).cps))
  ·rfl
  ·exfalso
   rw [Bool.and_eq_true] at hb
   simp only [Nat.zero_add, List.extract_toArray, List.extract_eq_take_drop, Nat.sub_zero, List.drop_zero, beq_iff_eq] at hb
   have h2 : xs.take ys.length = ys := by simpa using hb.2
   exact h (List.prefix_iff_eq_take.mpr h2.symm)
theorem filter_range (xs : List Nat) : ∀ (n a : Nat), a + n ≤ xs.length → (List.range n).filterMap (fun k => xs[k + a]?) = (xs.drop a).take n := by
 intro n
 induction n with
 | zero => intro a _; simp
 | succ n ih =>
  intro a h
  rw [List.range_succ, List.filterMap_append, ih a (by lia), List.take_add_one]
  congr 1
  have : n + a < xs.length := by lia
  rw [List.filterMap_cons, List.getElem?_eq_getElem this, List.filterMap_nil, List.getElem?_drop, Nat.add_comm a n, List.getElem?_eq_getElem this]
  rfl
theorem slice_eq (xs : List Nat) {i j : Int} {a b : Nat} (hi : i = a) (hj : j = b) (hab : a ≤ b) : PySem.Txt.slice ⟨xs.toArray⟩ (some i) (some j) = ⟨((xs.drop a).take (b - a)).toArray⟩ := by
 subst hi hj
 have hl : (⟨xs.toArray⟩ : PySem.Str).length = xs.length := by simp [PySem.Str.length]
 have hidx : Builtin.Str.strSliceIndices (some (a : Int)) (some (b : Int)) 1 xs.length = (List.range (min b xs.length - min a xs.length)).map fun k => k + min a xs.length := by
  unfold Builtin.Str.strSliceIndices sliceRange
  simp only [show (1 : Int) > 0 by decide, if_true, show ¬ ((a : Int) < 0) by lia, show ¬ ((b : Int) < 0) by lia, if_false, Int.ediv_one]
  have e1 : max 0 (min (a : Int) (xs.length : Int)) = (min a xs.length : Nat) := by lia
  have e2 : max 0 (min (b : Int) (xs.length : Int)) = (min b xs.length : Nat) := by lia
  rw [e1, e2]
  have e3 : (if ((min a xs.length : Nat) : Int) < ((min b xs.length : Nat) : Int) then ((min b xs.length : Nat) : Int) - ((min a xs.length : Nat) : Int) + 1 - 1 else 0).toNat = min b xs.length - min a xs.length := by
   split <;> lia
  rw [e3]
  refine List.map_congr_left fun k _ => ?_
  lia
 have hpick : ((Builtin.Str.strSliceIndices (some (a : Int)) (some (b : Int)) 1 xs.length).filterMap (xs.toArray[·]?)) = (xs.drop a).take (b - a) := by
  rw [hidx, List.filterMap_map]
  have e : (List.range (min b xs.length - min a xs.length)).filterMap ((fun x => xs.toArray[x]?) ∘ fun k => k + min a xs.length) = (List.range (min b xs.length - min a xs.length)).filterMap (fun k => xs[k + min a xs.length]?) := by
   congr 1
   funext k
   simp
  rw [e, filter_range xs _ _ (by lia)]
  rcases Nat.lt_or_ge a xs.length with h | h
  ·rw [Nat.min_eq_left (Nat.le_of_lt h)]
   rcases Nat.lt_or_ge b xs.length with h2 | h2
   ·rw [Nat.min_eq_left (Nat.le_of_lt h2)]
   ·rw [Nat.min_eq_right h2, List.take_of_length_le (by rw [List.length_drop]; lia), List.take_of_length_le (by rw [List.length_drop]; lia)]
  ·rw [Nat.min_eq_right h, List.drop_of_length_le (Nat.le_refl _), List.drop_of_length_le h]; simp
 unfold PySem.Txt.slice
 rw [hl]
 split
 ·rename_i hc
  have hlen : (Builtin.Str.strSliceIndices (some (a : Int)) (some (b : Int)) 1 xs.length).length = xs.length := by simpa using hc
  rw [hidx, List.length_map, List.length_range] at hlen
  congr 1
  have : (xs.drop a).take (b - a) = xs := by
   rcases Nat.eq_zero_or_pos xs.length with h0 | h0
   ·have := List.length_eq_zero_iff.mp h0; subst this; simp
   ·have ha : a = 0 := by lia
    subst ha
    rw [List.drop_zero]
    exact List.take_of_length_le (by lia)
  rw [this]
 ·exact congrArg (fun l : List Nat => (⟨l.toArray⟩ : PySem.Str)) hpick
section
variable {h₀ h : Heap} {L : Addr} {news : List (Addr × Obj)}
theorem okp_in (N : News h₀ L h news) {v : Value} {d : Dat} (n : Nat) (hd : DatIn news v d) (hk : okP n d = true) : ∃ as, Reads h v (kqdP d) as :=
 DatIn.rec (motive_1 := fun v d _ => ∀ n, okP n d = true → ∃ as, Reads h v (kqdP d) as) (motive_2 := fun vs ds _ => ∀ n, (∀ d ∈ ds, okP n d = true) → ∃ as, ReadsAll h vs (kqdPs ds) as)
  (fun _ _ => ⟨_, Reads.none⟩) (fun b _ _ => ⟨_, Reads.bool b⟩) (fun i t _ _ => ⟨_, Reads.int i t⟩) (fun x t _ _ => ⟨_, Reads.str x t⟩) (fun _ _ _ hk => (okP_y hk).elim)
  (fun hm _ ih _ hk => (okP_tup hk).elim fun k g => (ih k g).elim fun as q => ⟨as, by rw [kqdP]; exact reads_tuple_at (N.get hm) rfl rfl (by simpa using q)⟩)
  (fun hm _ ih _ hk => (okP_lst hk).elim fun k g => (ih k g).elim fun as q => ⟨_, by rw [kqdP]; exact reads_list_at (N.get hm) rfl rfl (by simpa [W.listOf] using q)⟩)
  (fun _ _ => ⟨_, ReadsAll.nil⟩)
  (fun _ _ i1 i2 k hk => (i1 k (hk _ (.head _))).elim fun as q => (i2 k fun d hm => hk d (.tail _ hm)).elim fun bs p => ⟨_, by rw [kqdPs]; exact ReadsAll.cons q p⟩) hd n hk
end
theorem okp_lay : ∀ (n : Nat) (d : Dat), okP n d = true → (kqdP d).canLay0 = true ∧ (kqdP d).depth ≤ n := by
 have all : ∀ (n : Nat), (∀ d, okP n d = true → (kqdP d).canLay0 = true ∧ (kqdP d).depth ≤ n) → ∀ ds : List Dat, (∀ d ∈ ds, okP n d = true) → PyData.canLayAll0 (kqdPs ds) = true ∧ PyData.depthAll (kqdPs ds) ≤ n := by
  intro n ih ds
  induction ds with
  | nil => intro _; simp [kqdPs, PyData.canLayAll0, PyData.depthAll]
  | cons d ds hi =>
   intro h
   have h1 := ih d (h d (.head _))
   have h2 := hi fun e he => h e (.tail _ he)
   simp only [kqdPs, PyData.canLayAll0, PyData.depthAll, h1.1, h2.1, Bool.and_self, true_and]
   have a1 := h1.2
   have a2 := h2.2
   lia
 intro n
 induction n with
 | zero =>
  intro d h
  cases d with
  | none => simp [kqdP, PyData.canLay0, PyData.depth]
  | bool b => simp [kqdP, PyData.canLay0, PyData.depth]
  | int i => simp [kqdP, PyData.canLay0, PyData.depth]
  | str x => rw [okP_s] at h; simp [kqdP, PyData.canLay0, PyData.depth, h]
  | _ => exact Bool.noConfusion h
 | succ n ih =>
  intro d h
  cases d with
  | none => simp [kqdP, PyData.canLay0, PyData.depth]
  | bool b => simp [kqdP, PyData.canLay0, PyData.depth]
  | int i => simp [kqdP, PyData.canLay0, PyData.depth]
  | str x => rw [okP_s] at h; simp [kqdP, PyData.canLay0, PyData.depth, h]
  | bytes b => exact Bool.noConfusion h
  | tuple ds =>
   have q := all n ih ds (List.all_eq_true.mp h)
   have q2 := q.2
   simp only [kqdP, PyData.canLay0, PyData.depth, q.1, true_and]
   lia
  | list ds =>
   have q := all n ih ds (List.all_eq_true.mp h)
   have q2 := q.2
   simp only [kqdP, PyData.canLay0, PyData.depth, q.1, true_and]
   lia
section
variable {prog : Program} {w : World} {A : Around} {E : Value → Shared → Prop} {s : Shared} {h₀ : Heap} {L : Addr} {news : List (Addr × Obj)} {u v : Value} {d e : Dat} {n k : Nat} {Q : Value → Shared → Prop}
theorem okp_shaped (hk : okP n d = true) (hn : n ≤ 64) : SeqAt.shaped (kqdP d) = true := by
 have la := okp_lay n d hk
 unfold SeqAt.shaped; rw [la.1, Bool.true_and]; exact decide_eq_true (Nat.le_trans la.2 hn)
theorem ne_same (N : News h₀ L s.heap news) (h1 : DatIn news u d) (h2 : DatIn news v d) (hk : okP n d = true) (hn : n ≤ 64) (hu : A.units + 64 < cLine) (h : Q (.bool false) s) : wpAny (model prog w) A (compareOp .NotEq u v) Q E s := by
 obtain ⟨as, ra⟩ := okp_in N n h1 hk
 obtain ⟨bs, rb⟩ := okp_in N n h2 hk
 refine ne_dataH ra rb (okp_shaped hk hn) (okp_shaped hk hn) hu ?_
 rw [SeqAt.eqv_refl _ (okp_lay n d hk).1]
 exact h
theorem ne_dat (N : News h₀ L s.heap news) (h1 : DatIn news u d) (h2 : DatIn news v e) (hk : kqdOk n d = true) (hk2 : kqdOk k e = true) (hn : n ≤ 64) (hn2 : k ≤ 64) (b : Bool) (hb : (d = e) ↔ b = false) (hu : A.units + 64 < cLine) (h : Q (.bool b) s) : wpAny (model prog w) A (compareOp .NotEq u v) Q E s := by
 obtain ⟨as, ra⟩ := kqd_in N n h1 hk
 obtain ⟨bs, rb⟩ := kqd_in N k h2 hk2
 have la := kqd_lay n d hk
 have lb := kqd_lay k e hk2
 refine ne_dataH ra rb (by unfold SeqAt.shaped; rw [la.1, Bool.true_and]; exact decide_eq_true (Nat.le_trans la.2 hn)) (by unfold SeqAt.shaped; rw [lb.1, Bool.true_and]; exact decide_eq_true (Nat.le_trans lb.2 hn2)) hu ?_
 have q := kqd_eqv n d e k hk hk2
 have : (!PyData.eqv (kqdP d) (kqdP e)) = b := by
  cases hv : PyData.eqv (kqdP d) (kqdP e)
  ·cases b
   ·have := q.mpr (hb.mpr rfl); rw [hv] at this; cases this
   ·rfl
  ·exact (hb.mp (q.mp hv)).symm
 rw [this]
 exact h
theorem eq_dat (N : News h₀ L s.heap news) (h1 : DatIn news u d) (h2 : DatIn news v e) (hk : kqdOk n d = true) (hk2 : kqdOk k e = true) (hn : n ≤ 64) (hn2 : k ≤ 64) (b : Bool) (hb : (d = e) ↔ b = true) (hu : A.units + 64 < cLine) (h : Q (.bool b) s) : wpAny (model prog w) A (compareOp .Eq u v) Q E s := by
 obtain ⟨as, ra⟩ := kqd_in N n h1 hk
 obtain ⟨bs, rb⟩ := kqd_in N k h2 hk2
 have la := kqd_lay n d hk
 have lb := kqd_lay k e hk2
 refine eq_dataH ra rb (by unfold SeqAt.shaped; rw [la.1, Bool.true_and]; exact decide_eq_true (Nat.le_trans la.2 hn)) (by unfold SeqAt.shaped; rw [lb.1, Bool.true_and]; exact decide_eq_true (Nat.le_trans lb.2 hn2)) hu ?_
 have q := kqd_eqv n d e k hk hk2
 have : PyData.eqv (kqdP d) (kqdP e) = b := by
  cases hv : PyData.eqv (kqdP d) (kqdP e)
  ·cases b
   ·rfl
   ·have := q.mpr (hb.mpr rfl); rw [hv] at this; cases this
  ·exact (hb.mp (q.mp hv)).symm
 rw [this]
 exact h
end
end Mine
end
section
open PySem PySem.W PyProof.Rows PySem.Calls
namespace Mine
section
variable {prog : Program} {w : World} {A : Around} {E : Value → Shared → Prop} {s : Shared}
theorem applied_n {sl : Addr} {u : Tok} {k n : Nat} {Q : Int × Int × Nat → Shared → Prop} (hs : s.heap.IsSliceOf sl .none (.int (k : Int) u) .none) (e1 : Builtin.Slice.sliceAdjust none (some (k : Int)) 1 (n : Int) = ((0 : Int), (k : Int))) (e2 : Builtin.Slice.slicePlaces (0 : Int) (k : Int) 1 = k) (h : Q (0, 1, k) s) :
  wpAny (model prog w) A (Builtin.Slice.sliceApplied (.ref sl) (pure (n : Int))) Q E s := by
 refine xEAA (id hs) fun os hos hcs hds => ?_
 unfold Builtin.Slice.sliceApplied Builtin.Slice.sliceFields
 refine wpAny_bind (wpAny_bind (wpAny_field hos hds (x := .none) rfl (wpAny_bind (wpAny_field hos hds (x := .int (k : Int) u) rfl (wpAny_bind (wpAny_field hos hds (x := .none) rfl (wpAny_pure ?_)))))))
 refine wpAny_bind (slicePart_none ?_)
 show wpAny _ _ (if ((1 : Int) == 0) = true then _ else _) _ _ s
 rw [if_neg (by decide)]
 refine wpAny_bind (slicePart_none (wpAny_bind (slicePart_int (wpAny_bind (wpAny_pure ?_)))))
 show wpAny _ _ (match Builtin.Slice.sliceAdjust none (some (k : Int)) 1 (n : Int) with | (lo, hi) => pure (lo, (1 : Int), Builtin.Slice.slicePlaces lo hi 1)) _ _ s
 rw [e1]
 show wpAny _ _ (pure ((0 : Int), (1 : Int), Builtin.Slice.slicePlaces (0 : Int) (k : Int) 1)) _ _ s
 rw [e2]
 exact wpAny_pure h
theorem fm_take {α : Type} (vs : List α) : ∀ k : Nat, ((List.range k).filterMap fun (j : Nat) => vs.toArray[((0 : Int) + (j : Int) * 1).toNat]?) = vs.take k
 | 0 => rfl
 | k + 1 => by
  rw [List.range_succ, List.filterMap_append, fm_take vs k, List.take_add_one]
  have e : ((0 : Int) + (k : Int) * 1).toNat = k := by lia
  rw [List.filterMap_cons, e, List.getElem?_toArray]
  cases vs[k]? <;> rfl
theorem getItem_n {t sl : Addr} {vs : List Value} {u : Tok} {k n : Nat} {Q : Value → Shared → Prop} (ht : IsTup s.heap t vs.toArray) (hn : vs.length = n) (hs : s.heap.IsSliceOf sl .none (.int (k : Int) u) .none) (e1 : Builtin.Slice.sliceAdjust none (some (k : Int)) 1 (n : Int) = ((0 : Int), (k : Int))) (e2 : Builtin.Slice.slicePlaces (0 : Int) (k : Int) 1 = k) (e3 : Nat.beq k n = false) (hz : k ≤ 1000)
  (h : Q (.ref s.heap.objs.size) { s with heap := s.heap.push { cls := .type "tuple", data := .seq (vs.take k).toArray } }) : wpAny (model prog w) A (getItem (.ref t) (.ref sl)) Q E s := by
 subst hn
 refine xEAA (id hs) fun os hos hcs hds => ?_
 have hTs : s.TypeIs (.ref sl) "slice" := ⟨os, hos, hcs⟩
 have hok : sizeOk (.seq (vs.take k).toArray) := by
  show (vs.take k).toArray.size ≤ sizeLine
  rw [sizeLine_eq, List.size_toArray, List.length_take]; lia
 unfold getItem
 try with_reducible refine wpAny_holding ?_
 first | refine wpAny_bind (wpAny_pure ?_) | skip
 refine wpAny_bind (wpAny_sequenceKey ht.typeIs (by decide) ?_)
 refine wpAny_bind (wpAny_callSpecial?_slot (name := ofString "__getitem__") ht.typeIs slot_tuple_getitem
  (wpAny_call_entry slot_tuple_getitem ht.typeIs entry_tuple_getitem ?_ (args_tuple_getitem _ _)))
 show wpAny _ _ (Builtin.Tuple.tupleItemsOf (.ref t) >>= _) _ _ s
 refine wpAny_bind (tupleItemsOf_ ht ?_)
 refine wpAny_bind (wpAny_typeOf hTs ?_)
 rw [if_pos (by decide)]
 refine wpAny_bind (applied_n (n := vs.length) hs e1 e2 ?_)
 have e4 : (((0 : Int) == 0 && (1 : Int) == 1 && k == vs.toArray.size) = true) ↔ False := by
  rw [List.size_toArray, beq_eq_false_iff_ne.mpr (Nat.ne_of_beq_eq_false e3)]
  decide
 show wpAny _ _ (if ((0 : Int) == 0 && (1 : Int) == 1 && k == vs.toArray.size) = true then _ else _) _ _ s
 rw [if_neg e4.mp]
 rw [fm_take vs k]
 first
  | exact wpAny_bind (m := Builtin.Tuple.tupleExact _) (wpAny_newObj_type (wpAny_pure ⟨_, rfl, wpAny_pure h⟩) hok)
  | exact wpAny_bind (m := Builtin.Tuple.tupleExact _) (wpAny_newObj_type (wpAny_bind (wpAny_pure (wpAny_pure ⟨_, rfl, wpAny_pure h⟩))) hok)
  | exact wpAny_bind (wpAny_bind (m := Builtin.Tuple.tupleExact _) (wpAny_newObj_type (wpAny_pure (wpAny_pure ⟨_, rfl, wpAny_pure h⟩)) hok))
  | exact wpAny_bind (wpAny_bind (m := Builtin.Tuple.tupleExact _) (wpAny_newObj_type (wpAny_pure ⟨_, rfl, wpAny_pure h⟩) hok))
end
section
variable {prog : Program} {w : World} {A : Around} {E : Value → Shared → Prop} {s : Shared} {h₀ : Heap} {L : Addr} {m : PySem.Str → Option Value} {news : List (Addr × Obj)}
theorem slice_tup {value slice : Expr} {t : Addr} {vs : List Value} {kk : Nat} {u : Tok} {k n : Nat} {Q : Value → Shared → Prop}
  (F : Fr h₀ L s.heap m) (N : News h₀ L s.heap news) (hm : (t, ({ cls := .type "tuple", data := .seq vs.toArray kk } : Obj)) ∈ news) (hn : vs.length = n) (e1 : Builtin.Slice.sliceAdjust none (some (k : Int)) 1 (n : Int) = ((0 : Int), (k : Int))) (e2 : Builtin.Slice.slicePlaces (0 : Int) (k : Int) 1 = k) (e3 : Nat.beq k n = false) (hz : k ≤ 1000)
  (h : ∀ D h', Fr h₀ L h' m → News h₀ L h' ((D, ({ cls := .type "tuple", data := .seq (vs.take k).toArray } : Obj)) :: news) → (∀ p ∈ news, p.1 < D) → Q (.ref D) { s with heap := h' })
  (hs : subscripted slice false (.ref t) (.ref s.heap.objs.size) = operate [.ref s.heap.objs.size, .ref t] (getItem (.ref t) (.ref s.heap.objs.size)))
  (hg : ∀ r, letTemporaryGo value (.ref t) r = pure ()) :
  wpAny (model prog w) A (subscriptTail value slice (.ref t) (.ref s.heap.objs.size)) Q E { s with heap := s.heap.push { cls := .type "slice", data := .fields #[.none, .int (k : Int) u, .none] } } := by
 have ht := N.isTup hm
 have ht' : IsTup (s.heap.push { cls := .type "slice", data := .fields #[.none, .int (k : Int) u, .none] }) t vs.toArray := ht.keeps fun _ _ e => Heap.get?_push_of_some _ e
 refine subscriptTail_ops (s := { s with heap := s.heap.push { cls := .type "slice", data := .fields #[.none, .int (k : Int) u, .none] } }) ht'.typeIs slot_tuple_getitem.lookup
  (getItem_n ht' hn (Heap.IsSliceOf.new ..) e1 e2 e3 hz ?_) hs hg
 have N1 := News.push (F.push { cls := .type "slice", data := .fields #[.none, .int (k : Int) u, .none] }) (N.grown fun _ _ e => Heap.get?_push_of_some _ e) { cls := .type "tuple", data := .seq (vs.take k).toArray }
 rw [Heap.size_push] at N1
 show Q (.ref (s.heap.push _).objs.size) _
 rw [Heap.size_push]
 exact h _ _ ((F.push _).push _) N1 fun p hp => Nat.lt_succ_of_lt (Heap.lt_size (N p hp).1)
end
end Mine
end
section
open PySem PySem.W PyProof.Rows PySem.Calls
namespace Mine
noncomputable abbrev Led := List (Addr × Obj)
noncomputable abbrev Nms := List (PySem.Str × Value)
noncomputable def mp (l : Nms) : PySem.Str → Option Value := fun y => l.lookup y
theorem mp_store (l : Nms) (x : PySem.Str) (v : Value) : (fun y => if y = x then some v else mp l y) = mp ((x, v) :: l) := by
 funext y
 unfold mp
 rw [List.lookup_cons]
 by_cases h : y = x
 ·subst h; simp
 ·rw [if_neg h]
  have : (y == x) = false := by simpa using h
  rw [this]
structure FD (w : World) (d : Nat) (cs : Scope) where
 mean : ExcName → Option Value
 mg : PySem.Str → Option Value
 mb : PySem.Str → Option Value
 dp : Nat
 un : Nat
 gd : Option (List Code)
 cn : PySem.Str
 a : Addr
 ccd : Value
 cl : List (PySem.Str × Addr)
 outer : List Env
 A₀ : Around
 base : Heap
 h₀ : Heap
 L : Addr
 B : Below A₀ base outer h₀
 X : (hd.heap_1 w.params).In h₀
 T : Top Mine.vw (looseW Mine.vw []) mean mg mb h₀
 hk : cs.kind = .function
 hd : dp + d < recursionLimit
 hu : un + 16 * d < cLine
noncomputable abbrev FD.env {w : World} {d : Nat} {cs : Scope} (c : FD w d cs) : Env := envX c.cn cs c.L c.a c.ccd c.cl
noncomputable abbrev FD.A {w : World} {d : Nat} {cs : Scope} (c : FD w d cs) : Around := ktrTop c.dp c.un c.gd c.cn cs c.L c.a c.ccd c.cl c.outer
noncomputable def bif2 (b : Bool) (A B : Prop) : Prop := match b with | true => A | false => B
section
variable {w : World} {d : Nat} {cs : Scope}
noncomputable def J (c : FD w d cs) {α : Type} (t : Sem α) (l : Nms) (n : Led) (K : α → Led → Prop) : Prop :=
 ∀ (s : Shared) (Q : α → Shared → Prop) (E : Value → Shared → Prop), Fr c.h₀ c.L s.heap (mp l) → News c.h₀ c.L s.heap n →
  (∀ v n' h' tk', Fr c.h₀ c.L h' (mp l) → News c.h₀ c.L h' n' → K v n' → Q v { s with heap := h', toks := tk' }) → wpAny (model PG w) c.A t Q E s
variable {c : FD w d cs} {l : Nms} {n : Led}
noncomputable def locIn (cs : Scope) (l : Nms) (x : PySem.Str) : Option Value := if x == ofString "__debug__" then none else match cs.names.lookup x with | some .local => l.lookup x | _ => none
noncomputable def plainE : Expr → Bool
 | .Starred .. => false
 | .ListComp .. => false
 | .SetComp .. => false
 | .DictComp .. => false
 | _ => true
noncomputable def starP (e : Expr) : Bool := match e with
 | .Starred .. => false
 | _ => true
theorem star_plain {e : Expr} {r : List Expr} {env : Env} (h : starP e = true) : starEach (e :: r) env = (false, eval e env) :: starEach r env := by
 cases e <;> first | rfl | cases h
theorem noStars : ∀ (r : List Expr) (p : Pos) (env : Env), (r.all starP) = true → ((backTo p (starEach r env)).any fun x => x.1) = false
 | [], _, _, _ => rfl
 | e :: r, p, env, h => by
  rw [List.all_cons, Bool.and_eq_true] at h
  rw [star_plain h.1]
  have := noStars r p env h.2
  unfold backTo at this ⊢
  simpa using this
theorem swap_plain {e : Expr} {t : Option Expr} {k : Nat} {env : Env} (h : plainE e = true) : swapsWith e t k env = pure false := by
 cases e <;> first | rfl | cases h
noncomputable def methOk (es : List Expr) (apos p : Pos) : Bool := es.all starP && decide (es.length < 30) && (apos.endLine == p.line)
theorem starsOff : ∀ (r : List Expr) (p : Pos) (env : Env), (r.all starP) = true → ((backTo p (starEach r env)).all fun x => !x.1) = true
 | [], _, _, _ => rfl
 | e :: r, p, env, h => by
  rw [List.all_cons, Bool.and_eq_true] at h
  rw [star_plain h.1]
  have := starsOff r p env h.2
  unfold backTo at this ⊢
  simpa using this
theorem meth_form {es : List Expr} {apos p : Pos} {env : Env} {o : Expr} {name : PySem.Str} {ov : Value} (h : methOk es apos p = true) : methodCall o name apos p env ov (es.length + ([] : List Keyword).length) (backTo p (starEach es env)) (backToKw p (keywordEach [] env)) =
  (do let (f, first) ← holding [ov] (getMethod ov name (do return (← importBound o env).getD true)); callWith p f first (backTo p (starEach es env)) []) := by
 unfold methOk at h
 simp only [Bool.and_eq_true, decide_eq_true_eq] at h
 obtain ⟨⟨h1, h2⟩, h3⟩ := h
 have hf : methodCallForm (es.length + ([] : List Keyword).length) (backTo p (starEach es env)) (backToKw p (keywordEach [] env)) = true := by
  unfold methodCallForm
  rw [starsOff es p env h1]
  rw [show backToKw p (keywordEach [] env) = [] from rfl]
  simp
  lia
 have hp : ∀ o : Expr, methodCallPos true o env apos p = pure p := fun o => by
  unfold methodCallPos
  rw [if_pos (by rw [h3]; rfl)]
 unfold methodCall
 rw [hf, hp]
 rfl
noncomputable def testPlain : Expr → Bool
 | .Name .. => true
 | .Attribute .. => true
 | .Call .. => true
 | .Subscript .. => true
 | .Constant .. => true
 | _ => false
theorem bif2_ite {b : Bool} {A B A' B' : Prop} (h : bif2 b A B) (f : A → A') (g : B → B') : if b = true then A' else B' := by
 cases b
 ·exact g h
 ·exact f h
noncomputable def isLoc (cs : Scope) (x : PySem.Str) : Bool := match cs.names.lookup x with | some .local => true | _ => false
theorem isLoc_spec {x : PySem.Str} (h : isLoc cs x = true) : cs.names.lookup x = some .local := by
 unfold isLoc at h
 split at h
 ·assumption
 ·cases h
noncomputable def retOf : Flow → Value
 | .ret v => v
 | _ => .none
noncomputable def scopeOk (s : Scope) : Bool := !s.isCoroutine && !s.isGenerator && s.kind == .function && s.names.all fun x => x.2 != .cell
theorem Spec.ofBodyG {d : Nat} {news : Led} {f : Addr} {vs : List Value} {Post : Value → Led → Prop} {oc : Value} {an od : Option Addr} {osl : Array (Option Value)} {name qual : PySem.Str} {params : Arguments} {body : List Stmt} {scope : Scope} {dV kV doc pm cdv ct : Value} {binds : List (PySem.Str × Value)}
  (ho : (hd.heap_1 w.params).lookup f = some ⟨oc, od, .func (fnOf name qual params body scope dV kV doc pm an cdv ct), osl⟩) (hcd : codeIn (hd.heap_1 w.params) cdv qual = true) (hb : ∀ s : Shared, (hd.heap_1 w.params).In s.heap → BindsTo s (fnOf name qual params body scope dV kV doc pm an cdv ct) ⟨vs, []⟩ binds) (hl : (binds.all fun x => decide (scope.names.lookup x.1 = some .local)) = true) (hs : scopeOk scope = true)
  (h : ∀ (c : FD w d scope) (s : Shared) (Q : Flow → Shared → Prop) (E : Value → Shared → Prop), Fr c.h₀ c.L s.heap (mp binds.reverse) → News c.h₀ c.L s.heap news → (∀ v m' n' h' tk', Fr c.h₀ c.L h' m' → News c.h₀ c.L h' n' → Post (retOf v) n' → Q v { s with heap := h', toks := tk' }) → wpAny (model PG w) c.A (execs body c.env) Q E s) : Spec w (d + 1) news f vs Post := by
 intro mean mg mb dp un gd cn cs a ccd cl outer A₀ base h₀ L m s Q E hB hF hX hN hT hk hd hu hret
 unfold scopeOk at hs
 simp only [Bool.and_eq_true, Bool.not_eq_true'] at hs
 obtain ⟨⟨⟨hs1, hs2⟩, hs3⟩, hs4⟩ := hs
 have hs3 : scope.kind = .function := by simpa using hs3
 refine wpAny_call ?_
 refine code_defG hB hF hX hN hT rfl rfl hk ho hcd (by show dp < _; lia) (hb s (hX.keeps hF.keep)) (locs hl) (fun g' L' h' FG' F' N' B' X' T' hG => ?_) hs1 hs2 hs3 (fun x hx => by have := List.all_eq_true.mp hs4 x hx; simpa using this)
 exact h ⟨mean, mg, mb, dp + 1, un + 3, gd, qual, f, cdv, [], envX cn cs L a ccd cl :: outer, _, base, g', L', B', X', T', hs3, by lia, by lia⟩ _ _ _ F' N' fun fl m' n' h2 tk F2 N2 hP => leaveK_ F2 N2 fun F3 N3 => hret _ _ _ _ F3 N3 (fun b o e n => F2.keep b o (hG b o e n)) (by cases fl <;> exact hP)
end
end Mine
end
section
open PySem PySem.W PyProof.Rows PySem.Calls
namespace Mine
section
variable {w : World} {d : Nat} {cs : Scope} {c : FD w d cs} {l : Nms} {A : TA} {K : TK} {v v' : TV} {R : Led}
noncomputable def lk {α : Type} : List (PySem.Str × α) → PySem.Str → Option α
 | [], _ => none
 | (k, v) :: l, x => if x = k then some v else lk l x
noncomputable def AL {α : Type} (P : PySem.Str → α → Prop) : List (PySem.Str × α) → Prop
 | [] => True
 | (k, v) :: l => P k v ∧ AL P l
theorem lk_al {α : Type} {P : PySem.Str → α → Prop} {x : PySem.Str} {a : α} : ∀ {l : List (PySem.Str × α)}, lk l x = some a → AL P l → P x a
 | (k, v) :: l, e, h => by
  unfold lk at e
  by_cases q : x = k
  ·rw [if_pos q] at e; cases e; rw [q]; exact h.1
  ·rw [if_neg q] at e; exact lk_al e h.2
noncomputable def tokGet (A : TA) (v : TV) (x : PySem.Str) : Option Value :=
 lk [(ofString "states", .ref A.sa), (ofString "stream", .ref A.s), (ofString "at", .int v.pos v.posT), (ofString "state", .str v.state v.stateT), (ofString "back", .str v.back v.backT), (ofString "out", .ref A.ou), (ofString "errors", .ref A.er), (ofString "draft", v.draft), (ofString "buffer", .str v.buf v.bufT), (ofString "code", .int v.code v.codeT), (ofString "last", .str v.last v.lastT), (ofString "is_foreign", .bool false), (ofString "is_waiting", .bool v.waiting), (ofString "is_done", .bool v.done)] x
theorem tokGet_spec {name : PySem.Str} {val : Value} (K : TK) (e : tokGet A v name = some val) : getL name (tokEs A K v) = some (some val) :=
 lk_al (P := fun x a => getL x (tokEs A K v) = some (some a)) e ⟨rfl, rfl, rfl, rfl, rfl, rfl, rfl, rfl, rfl, rfl, rfl, rfl, rfl, rfl, trivial⟩
theorem tok_fa {name : PySem.Str} {val : Value} (e : tokGet A v name = some val) : findIn (hd.heap_1 w.params) (.ref 359) name = some none :=
 lk_al (P := fun x _ => findIn (hd.heap_1 w.params) (.ref 359) x = some none) e ⟨fa_359_states _, fa_359_stream _, fa_359_at _, fa_359_state _, fa_359_back _, fa_359_out _, fa_359_errors _, fa_359_draft _, fa_359_buffer _, fa_359_code _, fa_359_last _, fa_359_is_foreign _, fa_359_is_waiting _, fa_359_is_done _, trivial⟩
structure TOk (A : TA) (R : Led) : Prop where
 ch : A.chain
 off : OffT A R
theorem tne {a b : Nat} (h : a < b ∨ b < a) : (a : Addr) ≠ b := by rcases h with h | h <;> lia
section
variable {o o' x0 x1 x2 x3 x4 x5 x6 x7 : Obj}
theorem upd_td (T : TOk A R) : Upd A.td o o' ((A.t, x0) :: (A.td, o) :: (A.s, x2) :: (A.sd, x3) :: (A.sg, x4) :: (A.se, x5) :: (A.ou, x6) :: (A.er, x7) :: R) ((A.t, x0) :: (A.td, o') :: (A.s, x2) :: (A.sd, x3) :: (A.sg, x4) :: (A.se, x5) :: (A.ou, x6) :: (A.er, x7) :: R) := by
 obtain ⟨⟨a1, a2, a3, a4, a5, a6, a7⟩, p1, p2, p3, p4, p5, p6, p7, p8⟩ := T
 have b2 := Nat.lt_trans a1 a2
 have b3 := Nat.lt_trans b2 a3
 have b4 := Nat.lt_trans b3 a4
 have b5 := Nat.lt_trans b4 a5
 have b6 := Nat.lt_trans b5 a6
 exact .tail (Nat.ne_of_gt a1) (.head (List.forall_mem_cons.mpr ⟨Nat.ne_of_gt b3, List.forall_mem_cons.mpr ⟨Nat.ne_of_gt b2, List.forall_mem_cons.mpr ⟨Nat.ne_of_gt b4, List.forall_mem_cons.mpr ⟨Nat.ne_of_gt b5, List.forall_mem_cons.mpr ⟨Nat.ne_of_gt b6, List.forall_mem_cons.mpr ⟨Nat.ne_of_gt (Nat.lt_trans b6 a7), p2⟩⟩⟩⟩⟩⟩))
theorem upd_ou (T : TOk A R) : Upd A.ou o o' ((A.t, x0) :: (A.td, x1) :: (A.s, x2) :: (A.sd, x3) :: (A.sg, x4) :: (A.se, x5) :: (A.ou, o) :: (A.er, x7) :: R) ((A.t, x0) :: (A.td, x1) :: (A.s, x2) :: (A.sd, x3) :: (A.sg, x4) :: (A.se, x5) :: (A.ou, o') :: (A.er, x7) :: R) := by
 obtain ⟨⟨a1, a2, a3, a4, a5, a6, a7⟩, p1, p2, p3, p4, p5, p6, p7, p8⟩ := T
 have b5 := Nat.lt_trans a5 a6
 have b4 := Nat.lt_trans a4 b5
 have b3 := Nat.lt_trans a3 b4
 have b2 := Nat.lt_trans a2 b3
 exact .tail (Nat.ne_of_lt b2) (.tail (Nat.ne_of_lt (Nat.lt_trans a1 b2)) (.tail (Nat.ne_of_lt b4) (.tail (Nat.ne_of_lt b3) (.tail (Nat.ne_of_lt b5) (.tail (Nat.ne_of_lt a6) (.head (List.forall_mem_cons.mpr ⟨Nat.ne_of_gt a7, p7⟩)))))))
theorem upd_er (T : TOk A R) : Upd A.er o o' ((A.t, x0) :: (A.td, x1) :: (A.s, x2) :: (A.sd, x3) :: (A.sg, x4) :: (A.se, x5) :: (A.ou, x6) :: (A.er, o) :: R) ((A.t, x0) :: (A.td, x1) :: (A.s, x2) :: (A.sd, x3) :: (A.sg, x4) :: (A.se, x5) :: (A.ou, x6) :: (A.er, o') :: R) := by
 obtain ⟨⟨a1, a2, a3, a4, a5, a6, a7⟩, p1, p2, p3, p4, p5, p6, p7, p8⟩ := T
 have b6 := Nat.lt_trans a6 a7
 have b5 := Nat.lt_trans a5 b6
 have b4 := Nat.lt_trans a4 b5
 have b3 := Nat.lt_trans a3 b4
 have b2 := Nat.lt_trans a2 b3
 exact .tail (Nat.ne_of_lt b2) (.tail (Nat.ne_of_lt (Nat.lt_trans a1 b2)) (.tail (Nat.ne_of_lt b4) (.tail (Nat.ne_of_lt b3) (.tail (Nat.ne_of_lt b5) (.tail (Nat.ne_of_lt b6) (.tail (Nat.ne_of_lt a7) (.head p8)))))))
end
noncomputable def onI (f : Int → Tok → TV) (x : Value) : Option TV := match x with
 | .int i t => some (f i t)
 | _ => none
noncomputable def onS (f : PySem.Str → Tok → TV) (x : Value) : Option TV := match x with
 | .str i t => some (f i t)
 | _ => none
noncomputable def onB (f : Bool → TV) (x : Value) : Option TV := match x with
 | .bool i => some (f i)
 | _ => none
theorem onI_el {f : Int → Tok → TV} {C : Value → TV → Prop} (h : ∀ i t, C (.int i t) (f i t)) : ∀ x y, onI f x = some y → C x y := fun x y e => by
 unfold onI at e; split at e
 ·cases e; exact h _ _
 ·cases e
theorem onS_el {f : PySem.Str → Tok → TV} {C : Value → TV → Prop} (h : ∀ i t, C (.str i t) (f i t)) : ∀ x y, onS f x = some y → C x y := fun x y e => by
 unfold onS at e; split at e
 ·cases e; exact h _ _
 ·cases e
theorem onB_el {f : Bool → TV} {C : Value → TV → Prop} (h : ∀ i, C (.bool i) (f i)) : ∀ x y, onB f x = some y → C x y := fun x y e => by
 unfold onB at e; split at e
 ·cases e; exact h _
 ·cases e
noncomputable def tokSL (v : TV) : List (PySem.Str × (Value → Option TV)) :=
 [(ofString "at", onI fun x t => { v with pos := x, posT := t }), (ofString "state", onS fun x t => { v with state := x, stateT := t }), (ofString "back", onS fun x t => { v with back := x, backT := t }), (ofString "buffer", onS fun x t => { v with buf := x, bufT := t }), (ofString "code", onI fun x t => { v with code := x, codeT := t }), (ofString "last", onS fun x t => { v with last := x, lastT := t }), (ofString "draft", fun x => some { v with draft := x }), (ofString "is_waiting", onB fun b => { v with waiting := b }), (ofString "is_done", onB fun b => { v with done := b })]
noncomputable def tokSet (v : TV) (name : PySem.Str) (val : Value) : Option TV := (lk (tokSL v) name).bind fun f => f val
theorem tset_raw {name : PySem.Str} {val : Value} {s : Shared} {Q : Unit → Shared → Prop} {E : Value → Shared → Prop} {m : PySem.Str → Option Value} (T : TOk A R) (e : tokSet v name val = some v') (F : Fr c.h₀ c.L s.heap m) (N : News c.h₀ c.L s.heap (tokLed A K v ++ R)) (k : ∀ h' tk', Fr c.h₀ c.L h' m → News c.h₀ c.L h' (tokLed A K v' ++ R) → Q () { s with heap := h', toks := tk' }) : wpAny (model PG w) c.A (setAttr (.ref A.t) name val) Q E s := by
 cases q : lk (tokSL v) name with
 | none => unfold tokSet at e; rw [q] at e; cases e
 | some f =>
  unfold tokSet at e
  rw [q] at e
  exact lk_al (P := fun name f => ∀ val v', f val = some v' → (∀ h' tk', Fr c.h₀ c.L h' m → News c.h₀ c.L h' (tokLed A K v' ++ R) → Q () { s with heap := h', toks := tk' }) → wpAny (model PG w) c.A (setAttr (.ref A.t) name val) Q E s) q ⟨onI_el fun _ _ k => set_359 F c.X N (.head _) (.tail _ (.head _)) (ta_359_at _) rfl rfl (upd_td T) (Nat.le_of_ble_eq_true rfl) fun h' F' N' => k _ _ F' N',
   onS_el fun _ _ k => set_359 F c.X N (.head _) (.tail _ (.head _)) (ta_359_state _) rfl rfl (upd_td T) (Nat.le_of_ble_eq_true rfl) fun h' F' N' => k _ _ F' N',
   onS_el fun _ _ k => set_359 F c.X N (.head _) (.tail _ (.head _)) (ta_359_back _) rfl rfl (upd_td T) (Nat.le_of_ble_eq_true rfl) fun h' F' N' => k _ _ F' N',
   onS_el fun _ _ k => set_359 F c.X N (.head _) (.tail _ (.head _)) (ta_359_buffer _) rfl rfl (upd_td T) (Nat.le_of_ble_eq_true rfl) fun h' F' N' => k _ _ F' N',
   onI_el fun _ _ k => set_359 F c.X N (.head _) (.tail _ (.head _)) (ta_359_code _) rfl rfl (upd_td T) (Nat.le_of_ble_eq_true rfl) fun h' F' N' => k _ _ F' N',
   onS_el fun _ _ k => set_359 F c.X N (.head _) (.tail _ (.head _)) (ta_359_last _) rfl rfl (upd_td T) (Nat.le_of_ble_eq_true rfl) fun h' F' N' => k _ _ F' N',
   fun _ _ e k => by cases e; exact set_359 F c.X N (.head _) (.tail _ (.head _)) (ta_359_draft _) rfl rfl (upd_td T) (Nat.le_of_ble_eq_true rfl) fun h' F' N' => k _ _ F' N',
   onB_el fun _ k => set_359 F c.X N (.head _) (.tail _ (.head _)) (ta_359_is_waiting _) rfl rfl (upd_td T) (Nat.le_of_ble_eq_true rfl) fun h' F' N' => k _ _ F' N',
   onB_el fun _ k => set_359 F c.X N (.head _) (.tail _ (.head _)) (ta_359_is_done _) rfl rfl (upd_td T) (Nat.le_of_ble_eq_true rfl) fun h' F' N' => k _ _ F' N', trivial⟩ _ _ e k
theorem gtA_of (T : TOk A R) {D : Addr} (h : ∀ q ∈ tokLed A K v ++ R, q.1 < D) : GtA A D := ⟨h (A.t, _) (.head _), h (A.td, _) (.tail _ (.head _)), h (A.s, _) (.tail _ (.tail _ (.head _))), h (A.sd, _) (.tail _ (.tail _ (.tail _ (.head _)))), h (A.sg, _) (.tail _ (.tail _ (.tail _ (.tail _ (.head _))))), h (A.se, _) (.tail _ (.tail _ (.tail _ (.tail _ (.tail _ (.head _)))))), h (A.ou, _) (.tail _ (.tail _ (.tail _ (.tail _ (.tail _ (.tail _ (.head _))))))), h (A.er, _) (.tail _ (.tail _ (.tail _ (.tail _ (.tail _ (.tail _ (.tail _ (.head _))))))))⟩
end
end Mine
end
section
open PySem PySem.W PyProof.Rows PySem.Calls
namespace Mine
section
variable {prog : Program} {w : World} {A : Around} {E : Value → Shared → Prop} {s : Shared} {h₀ : Heap} {L : Addr} {m : PySem.Str → Option Value} {news : List (Addr × Obj)}
theorem add_tup {t b : Addr} {vs ws : List Value} {k k2 : Nat} {Q : Value → Shared → Prop} (F : Fr h₀ L s.heap m) (N : News h₀ L s.heap news) (h1 : (t, ({ cls := .type "tuple", data := .seq vs.toArray k } : Obj)) ∈ news) (h2 : (b, ({ cls := .type "tuple", data := .seq ws.toArray k2 } : Obj)) ∈ news)
  (hv : vs ≠ []) (hw : ws ≠ []) (hz : vs.length + ws.length ≤ 1000)
  (h : ∀ D h', Fr h₀ L h' m → News h₀ L h' ((D, ({ cls := .type "tuple", data := .seq (vs ++ ws).toArray } : Obj)) :: news) → (∀ p ∈ news, p.1 < D) → Q (.ref D) { s with heap := h' }) : wpAny (model prog w) A (binaryOp .Add (.ref t) (.ref b)) Q E s :=
 add_tuples (hsz := by rw [sizeLine_eq]; lia) F N (N.isTup h1) (N.isTup h2) (fun e => absurd e hv) (fun _ e => absurd e hw) fun _ _ h' F' N' => h _ h' F' N' fun p hp => Heap.lt_size (N p hp).1
end
end Mine
end
section
open PySem PySem.W PyProof.Rows PySem.Calls
namespace Mine
section
variable {prog : Program} {w : World} {A₀ A : Around} {s : Shared} {base h₀ : Heap} {outer : List Env} {L : Addr} {m : PySem.Str → Option Value} {env : Env} {news : List (Addr × Obj)} {K : Frag} {p : Program} {loose : List PySem.Str} {mean : ExcName → Option Value} {mg mb : PySem.Str → Option Value}
 {R : Result → Shared → Prop} {name qual : PySem.Str} {params : Arguments} {body : List Stmt} {scope : Scope} {dV kV doc pm cdv ct oc : Value} {an od : Option Addr} {osl : Array (Option Value)} {f : Addr} {args : Args} {binds : List (PySem.Str × Value)}
theorem enterCells (B : Below A₀ base outer h₀) (F : Fr h₀ L s.heap m) (X₀ : K.In h₀) (N : News h₀ L s.heap news) (T : Top p loose mean mg mb h₀) (hA : A.frames = some (env :: outer)) (hf : env.frame = some L) (hke : env.scope.kind = .function)
  (ho : K.lookup f = some ⟨oc, od, .func (fnOf name qual params body scope dV kV doc pm an cdv ct), osl⟩) (hcd : codeIn K cdv qual = true) (hroom : A.depth < recursionLimit)
  (hbind : BindsTo s (fnOf name qual params body scope dV kV doc pm an cdv ct) args binds) (hkind : (binds.all fun y => scope.names.lookup y.1 == some .local || scope.names.lookup y.1 == some .cell) = true)
  (hnd : ((cellsFrom 0 scope.names []).map (·.1)).Nodup)
  (h : ∀ g L' h₁ tk cells, Fr h₀ L g m → Fr g L' h₁ (bindL (envOfC qual scope L' f cdv).kindOf binds fun _ => none) → News g L' h₁ (cells ++ news) →
   CellsAre (bindC (envOfC qual scope L' f cdv).kindOf binds fun _ => none) (cellsFrom (L' + 1) scope.names []) cells → Below A base (env :: outer) g → K.In g → Top p loose mean mg mb g → (∀ p ∈ news, p.1 < L') → GSub s.heap g (news.map (·.1)) →
   wpAny (model prog w) (A.deeper (envOfC qual scope L' f cdv)) (execs body (envOfC qual scope L' f cdv))
    (fun fl s' => LeaveK h₀ L m g R (match fl with | .ret v => v | _ => .none) s')
    (fun e s' => wpAny (model prog w) (A.deeper (envOfC qual scope L' f cdv)) (leaving (envOfC qual scope L' f cdv) e) (fun _ s'' => R (.error e) s'') (fun e' s'' => R (.error e') s'') s')
    { s with heap := h₁, toks := tk })
  (hco : scope.isCoroutine = false) (hgen : scope.isGenerator = false) (hk : scope.kind = .function) : codeAny (model prog w) A (.call (.ref f) args) R s := by
 refine xAAA (groundX (R := R) B F N hA hf hke) fun FG BG st lv => ?_
 have keepF := (T.nolimit).keeps F.keep
 refine codeAny_call_function hroom ((X₀.keeps F.keep) _ _ ho) rfl hco hgen rfl (codeRec_of (X₀.keeps F.keep) hcd) (hbind _ _ _ _ ?_)
 refine wpAny_newFunctionEnv_cells hk (kindsX hkind _) fun env' he s' x => ?_
 subst he
 refine ⟨keepF.keeps x.toInCall.keep, codeAny_func ?_⟩
 refine xEEA x.done fun h₁ tk zq1 _ => ?_
 subst zq1
 have hk₁ := x.toInCall.keep
 refine xEA (Cl.news (h₀ := s.heap) (Nat.le_refl _) fun n c hm => ⟨x.cell n c (lookup_of_mem_nodup (cellsFrom_names scope.names 0 (s.heap.objs.size + 1) [] [] rfl ▸ hnd) hm), x.above n c hm⟩) fun cells NC Y => ?_
 have NN : News (hideAll s.heap (news.map (·.1))) s.heap.objs.size h₁ (cells ++ news) := fun q hq => by
  rcases List.mem_append.mp hq with hq | hq
  ·refine ⟨(NC q hq).1, (NC q hq).2.1, ?_⟩
   cases z : (hideAll s.heap (news.map (·.1))).get? q.1 with
   | none => rfl
   | some o => have := of_hideAll _ z; rw [(NC q hq).2.2] at this; cases this
  ·exact ⟨hk₁ _ _ (N q hq).1, Nat.ne_of_lt (Heap.lt_size (N q hq).1), hideAll_none _ (List.mem_map_of_mem hq)⟩
 exact wpAny_mono (h _ s.heap.objs.size h₁ tk cells FG ⟨x.toInCall.ns, fun b o e => hk₁ b o (of_hideAll _ e), Nat.le_of_eq (hideAll_size _ _)⟩ NN Y BG (X₀.keeps st) (T.keeps st) (fun q hq => Heap.lt_size (N q hq).1) (fun b o e n => hideAll_get _ e n)) (fun fl s' hl => lv _ _ hl) fun _ _ y => y
end
end Mine
end
section
open PySem PySem.W PyProof.Rows Mine
namespace Mine
noncomputable def drD : Option Dr → Dat
 | none => .none
 | some d => .tuple [.str (kindS d.kind), .str (chS d.name), valD d.val]
theorem st6_ne {n : Nat} : (stS n != ofString "6") = decide (n ≠ 6) := by
 have e : ofString "6" = stS 6 := by decide +kernel
 rw [e]
 by_cases h : n = 6
 ·subst h; rw [decide_eq_false (by simp)]; simp
 ·rw [decide_eq_true h]
  cases h2 : (stS n != stS 6)
  ·exfalso
   have h3 := eq_of_beq (a := stS n) (b := stS 6) (by simpa [bne] using h2)
   have h4 := congrArg (fun x : PySem.Str => x.cps.toList) h3
   simp [stS] at h4
   exact h (by lia)
  ·rfl
theorem keepAll {H g h h₁ : Heap} {L L₁ : Addr} {m : PySem.Str → Option Value} {news l : List (Addr × Obj)} (hG : GSub H g (news.map (·.1))) (F : Fr g L h m) (hN : News h₁ L₁ H news) (N : News g L h l) (hs : ∀ p ∈ news, p ∈ l) : ∀ b o, H.get? b = some o → h.get? b = some o := fun b o e => by
 by_cases hb : b ∈ news.map (·.1)
 ·refine xEA (List.mem_map.mp hb) fun q hq zq1 => ?_
  subst zq1
  have h1 := (hN q hq).1
  rw [e] at h1
  cases h1
  exact (N q (hs q hq)).1
 ·exact F.keep b o (hG b o e hb)
noncomputable abbrev SpecF (w : World) (dd : Nat) (news : List (Addr × Obj)) (f : Addr) (vs : List Value) (Post : Value → List (Addr × Obj) → List (Addr × Obj) → Prop) : Prop :=
 ∀ (mean : ExcName → Option Value) (mg mb : PySem.Str → Option Value) (dp un : Nat) (gd : Option (List Code)) (cn : PySem.Str) (cs : Scope) (a : Addr) (ccd : Value) (cl : List (PySem.Str × Addr)) (outer : List Env)
  (A₀ : Around) (base h₀ : Heap) (L : Addr) (m : PySem.Str → Option Value) (s : Shared) (Q E : Value → Shared → Prop),
  Below A₀ base outer h₀ → Fr h₀ L s.heap m → (hd.heap_1 w.params).In h₀ → News h₀ L s.heap news → Top Mine.vw (looseW Mine.vw []) mean mg mb h₀ → cs.kind = .function →
  dp + dd < recursionLimit → un + 16 * dd < cLine →
  (∀ (v : Value) (new : List (Addr × Obj)) (h' : Heap) (tk' : Nat), Fr h₀ L h' m → News h₀ L h' (new ++ news) → (∀ b o, s.heap.get? b = some o → h'.get? b = some o) → (∀ p ∈ new, s.heap.get? p.1 = none) → Post v new (new ++ news) → Q v { s with heap := h', toks := tk' }) →
  wpAny (model Challenge.rw_nt0602_01.row.toRowW.prog w) (ktrTop dp un gd cn cs L a ccd cl outer) (call (.ref f) vs) Q E s
end Mine
end
section
open PySem PySem.W PyProof.Rows Mine
namespace Mine
noncomputable def firstT : List Int := [1, 8, 3, 4, 5, 16, 0, 2, 21, 17, 7, 4]
noncomputable def charOf (d : Int) : Nat := if d % 44 < 43 then poolCs.getD (d % 44).toNat 0 else if d / 44 % 1114112 = 13 then 10 else (d / 44 % 1114112).toNat
noncomputable def textCs (ns : List Int) : List Nat := (List.range 12).map fun k => charOf (ns.getD (k + 7) 0 + firstT.getD k 0)
end Mine
end
section
open PySem PySem.W PyProof.Rows Mine
namespace Mine
noncomputable abbrev SpecFP (w : World) (dd : Nat) (Pre : Heap → Prop) (news : List (Addr × Obj)) (f : Addr) (vs : List Value) (Post : Value → List (Addr × Obj) → List (Addr × Obj) → Prop) : Prop :=
 ∀ (mean : ExcName → Option Value) (mg mb : PySem.Str → Option Value) (dp un : Nat) (gd : Option (List Code)) (cn : PySem.Str) (cs : Scope) (a : Addr) (ccd : Value) (cl : List (PySem.Str × Addr)) (outer : List Env)
  (A₀ : Around) (base h₀ : Heap) (L : Addr) (m : PySem.Str → Option Value) (s : Shared) (Q E : Value → Shared → Prop),
  Pre h₀ → Below A₀ base outer h₀ → Fr h₀ L s.heap m → (hd.heap_1 w.params).In h₀ → News h₀ L s.heap news → Top Mine.vw (looseW Mine.vw []) mean mg mb h₀ → cs.kind = .function →
  dp + dd < recursionLimit → un + 16 * dd < cLine →
  (∀ (v : Value) (new : List (Addr × Obj)) (h' : Heap) (tk' : Nat), Fr h₀ L h' m → News h₀ L h' (new ++ news) → (∀ b o, s.heap.get? b = some o → h'.get? b = some o) → (∀ p ∈ new, s.heap.get? p.1 = none) → Post v new (new ++ news) → Q v { s with heap := h', toks := tk' }) →
  wpAny (model Challenge.rw_nt0602_01.row.toRowW.prog w) (ktrTop dp un gd cn cs L a ccd cl outer) (call (.ref f) vs) Q E s
theorem noS_zero : oS "" = noS 0 := (if_pos rfl).symm
theorem noS_pos {n : Nat} (h : n ≠ 0) : stS n = noS n := by unfold noS; rw [if_neg h]
end Mine
end
section
open PySem PySem.W PyProof.Rows PySem.Calls
namespace Mine
theorem elt_push {J : List Value → List (Addr × Obj) → Prop} {ys : List Value} {os : List (Addr × Obj)} {s₃ : Shared} {o : Obj} {tk : Nat} (hf : o.isFreed = false) (hJ : J (ys ++ [.ref s₃.heap.objs.size]) ([(s₃.heap.objs.size, o)] ++ os)) : EltPost J ys os s₃ (.ref s₃.heap.objs.size) { s₃ with heap := s₃.heap.push o, toks := tk } :=
 ⟨⟨_, _, rfl, fun b o e => Heap.get?_push_of_some _ e⟩, [(s₃.heap.objs.size, o)], fun p hp => by
  rw [List.mem_singleton.mp hp]
  exact ⟨Heap.get?_push_size _ hf, Heap.get?_none_of_le (Nat.le_refl _)⟩, hJ⟩
theorem testOk_one {prog : Program} {w : World} {A : Around} {c : Expr} {env : Env} {b : Bool} {s₃ : Shared} (h : ∀ (Q : Bool → Shared → Prop) (E' : Value → Shared → Prop), (∀ tk, Q b { s₃ with toks := tk }) → wpAny (model prog w) A (isTrue c env (eval c env)) Q E' s₃) : TestOk prog w A [c] env b s₃ := fun E' => by
 rw [List.forIn_cons]
 refine wpAny_bind ?_
 rw [if_pos rfl]
 refine wpAny_bind (h _ _ fun tk => wpAny_pure ?_)
 dsimp only; rw [List.forIn_nil]
 exact wpAny_pure ⟨rfl, _, _, rfl, fun _ _ e => e⟩
theorem any_backs {l : List PySem.Str} {b : Nat} (hl : l = backL.take 3) (hb : b ≤ 4) : (l.any fun x => x == backS b) = decide (b < 3) := by
 subst hl
 have : b = 0 ∨ b = 1 ∨ b = 2 ∨ b = 3 ∨ b = 4 := by lia
 rcases this with rfl | rfl | rfl | rfl | rfl <;> decide +kernel
end Mine
end
section
open PySem PySem.W PyProof.Rows Mine
namespace Mine
theorem starts_S {prog : Program} {w : World} {A : Around} {E : Value → Shared → Prop} {s : Shared} {xs ys : List Nat} {t u : Tok} {Q : Value → Shared → Prop} (h : Q (.bool (decide (ys <+: xs))) s) : wpAny (model prog w) A (call (.builtin "str.startswith") [.str ⟨xs.toArray⟩ t, .str ⟨ys.toArray⟩ u]) Q E s :=
 SC.startswith (by rw [starts_eq]; exact h)
theorem xS_ne2 {a b : List Nat} : ((⟨a.toArray⟩ : PySem.Str) != ⟨b.toArray⟩) = decide (a ≠ b) := by
 by_cases h : a = b
 ·subst h; rw [decide_eq_false (by simp)]; simp
 ·rw [decide_eq_true h]
  cases h2 : ((⟨a.toArray⟩ : PySem.Str) != ⟨b.toArray⟩)
  ·exfalso
   have h3 := eq_of_beq (a := (⟨a.toArray⟩ : PySem.Str)) (b := ⟨b.toArray⟩) (by simpa [bne] using h2)
   have h4 := congrArg (fun x : PySem.Str => x.cps.toList) h3
   exact h (by simpa using h4)
  ·rfl
theorem xS_ee {l : List Nat} : ((⟨l.toArray⟩ : PySem.Str) == ofString "") = decide (l = []) := by
 have := xS_ne (l := l)
 by_cases h : l = []
 ·subst h; decide +kernel
 ·rw [decide_eq_true h] at this
  rw [decide_eq_false h]
  simpa [bne] using this
theorem ne_val {prog : Program} {w : World} {A : Around} {E : Value → Shared → Prop} {s : Shared} {h₀ : Heap} {L : Addr} {news : List (Addr × Obj)} {va e : Addr} {k : Nat} {val : Option (List Nat)} {Q : Value → Shared → Prop} (N : News h₀ L s.heap news) (h1 : DatIn news (.ref va) (valD val)) (h2 : (e, ({ cls := .type "tuple", data := .seq (List.toArray []) k } : Obj)) ∈ news)
  (hv : ∀ b, val = some b → b.length ≤ 12 ∧ ∀ x ∈ b, x < 1114112) (hu : A.units + 64 < cLine) (h : Q (.bool val.isSome) s) : wpAny (model prog w) A (compareOp .NotEq (.ref va) (.ref e)) Q E s := by
 refine ne_dat (n := 3) (k := 3) N h1 (.tuple h2 .nil) ?_ (by decide +kernel) (by decide) (by decide) val.isSome ?_ hu h
 ·cases e : val with
  | none => decide +kernel
  | some b =>
   have e0 : PyData.strOk (ofString "") = true := by decide +kernel
   have e1 := strOk_of (hv b e).2
   simp only [valD, kqdOk, List.all_cons, List.all_nil, e0, e1, Bool.and_self, oS]
 ·cases val with
  | none => exact ⟨fun _ => rfl, fun _ => rfl⟩
  | some b => exact ⟨fun h => by simp [valD] at h, fun h => by simp at h⟩
theorem eq_pair {prog : Program} {w : World} {A : Around} {E : Value → Shared → Prop} {s : Shared} {h₀ : Heap} {L : Addr} {news : List (Addr × Obj)} {a b : Addr} {k1 k2 k n : Nat} {l : List Nat} {t0 t1 t2 t3 : Tok} {Q : Value → Shared → Prop} (N : News h₀ L s.heap news)
  (h1 : (a, ({ cls := .type "tuple", data := .seq [.str (kindS k) t0, .str (chS n) t1].toArray k1 } : Obj)) ∈ news) (h2 : (b, ({ cls := .type "tuple", data := .seq [.str (ofString "end") t2, .str ⟨l.toArray⟩ t3].toArray k2 } : Obj)) ∈ news) (hk : k ≤ 2) (hn : n = 97 ∨ n = 98) (hl : l = [] ∨ l = [97] ∨ l = [98])
  (hu : A.units + 64 < cLine) (h : Q (.bool (decide (k = 0) && decide ([n] = l))) s) : wpAny (model prog w) A (compareOp .Eq (.ref a) (.ref b)) Q E s := by
 refine eq_dat (n := 1) (k := 1) N (.tuple h1 (.cons (.str _ _) (.cons (.str _ _) .nil))) (.tuple h2 (.cons (.str _ _) (.cons (.str _ _) .nil))) ?_ ?_ (by decide) (by decide) (decide (k = 0) && decide ([n] = l)) ?_ hu h
 ·have : k = 0 ∨ k = 1 ∨ k = 2 := by lia
  rcases this with rfl | rfl | rfl <;> rcases hn with rfl | rfl <;> decide +kernel
 ·rcases hl with rfl | rfl | rfl <;> decide +kernel
 ·have e0 : (kindS k = ofString "end") ↔ k = 0 := by
   have : k = 0 ∨ k = 1 ∨ k = 2 := by lia
   rcases this with rfl | rfl | rfl <;> decide +kernel
  have e1 : (chS n = (⟨l.toArray⟩ : PySem.Str)) ↔ [n] = l := by
   refine ⟨fun h => ?_, fun h => by rw [← h]⟩
   have := congrArg (fun x : PySem.Str => x.cps.toList) h
   simpa using this
  rw [Bool.and_eq_true, decide_eq_true_eq, decide_eq_true_eq, ← e0, ← e1]
  simp
end Mine
end
section
open PySem PySem.W PyProof.Rows PySem.Calls
namespace Mine
theorem valueAt_stored {K : Type} [DecidableEq K] (kvs : List (K × Value)) (k k' : K) (v : Value) : valueAt (stored kvs k v) k' = if k' = k then some v else valueAt kvs k' := by
 unfold valueAt stored
 induction kvs with
 | nil => by_cases h : k' = k <;> simp [h, eq_comm]
 | cons p r ih =>
  by_cases hk : p.1 = k
  ·have e1 : (p :: r).any (fun kv => decide (kv.1 = k)) = true := by simp [hk]
   rw [if_pos e1]
   by_cases h : k' = k
   ·subst h; rw [if_pos rfl]; simp [hk]
   ·rw [if_neg h]
    have e2 : ∀ l : List (K × Value), (l.map fun kv => if kv.1 = k then (kv.1, v) else kv).find? (fun kv => decide (kv.1 = k')) = l.find? (fun kv => decide (kv.1 = k')) := by
     intro l
     induction l with
     | nil => rfl
     | cons q l ih2 =>
      by_cases hq : q.1 = k
      ·have : q.1 ≠ k' := fun e => h (e.symm.trans hq)
       simp only [List.map_cons, if_pos hq, List.find?_cons, decide_eq_false this, ih2]
      ·simp only [List.map_cons, if_neg hq, List.find?_cons, ih2]
    rw [e2]
  ·have e1 : (p :: r).any (fun kv => decide (kv.1 = k)) = r.any (fun kv => decide (kv.1 = k)) := by simp [hk]
   rw [e1]
   by_cases ha : r.any (fun kv => decide (kv.1 = k)) = true
   ·rw [if_pos ha] at ih ⊢
    by_cases hp : p.1 = k'
    ·have : k' ≠ k := fun e => hk (hp.trans e)
     rw [if_neg this]; simp only [List.map_cons, if_neg hk, List.find?_cons, decide_eq_true hp]
    ·simp only [List.map_cons, if_neg hk, List.find?_cons, decide_eq_false hp]
     exact ih
   ·rw [if_neg ha] at ih ⊢
    by_cases hp : p.1 = k'
    ·have : k' ≠ k := fun e => hk (hp.trans e)
     rw [if_neg this]; simp [hp]
    ·simp only [List.cons_append, List.find?_cons, decide_eq_false hp]
     exact ih
theorem eltNew {J : List Value → List (Addr × Obj) → Prop} {ys : List Value} {os new : List (Addr × Obj)} {s₃ : Shared} {y : Value} {h₀ h' : Heap} {L : Addr} {tk : Nat} {r : List (Addr × Obj)} (N : News h₀ L h' (new ++ r)) (K : ∀ b o, s₃.heap.get? b = some o → h'.get? b = some o) (G : ∀ p ∈ new, s₃.heap.get? p.1 = none) (hJ : J (ys ++ [y]) (new ++ os)) : EltPost J ys os s₃ y { s₃ with heap := h', toks := tk } :=
 ⟨⟨_, _, rfl, K⟩, new, fun p hp => ⟨(N p (List.mem_append.mpr (.inl hp))).1, G p hp⟩, hJ⟩
noncomputable def toldD (c : Nat) : Dat := .list [.bool (blankB c), .bool (spaceB c), .bool (upB c), .bool (loB c), .bool (letB c), .bool (digB c), .bool (hexB c), .bool (alnB c), .bool (surB c), .bool (nonB c), .bool (ctlB c), .int (if hexB c then digV c else 7)]
theorem told_in {news : List (Addr × Obj)} {xa : Addr} {c k : Nat} {t : Tok} (h : (xa, listOf (toldVs c t).toArray k) ∈ news) : DatIn news (.ref xa) (toldD c) :=
 .list h (.cons (.bool _) (.cons (.bool _) (.cons (.bool _) (.cons (.bool _) (.cons (.bool _) (.cons (.bool _) (.cons (.bool _) (.cons (.bool _) (.cons (.bool _) (.cons (.bool _) (.cons (.bool _) (.cons (.int _ _) .nil))))))))))))
theorem told_ok (c : Nat) : okP 1 (toldD c) = true := by simp [okP_t, okP_l, okP_i, okP_b, toldD]
theorem charOf_ok (d : Int) : charOf d < 1114112 ∧ charOf d ≠ 13 := by
 have hp : ∀ c ∈ poolCs, c < 1114112 ∧ c ≠ 13 := by decide +kernel
 unfold charOf
 split
 ·rename_i h
  have hl : poolCs.length = 43 := by decide +kernel
  have h0 : 0 ≤ d % 44 := Int.emod_nonneg _ (by decide)
  have hlt : (d % 44).toNat < poolCs.length := by lia
  rw [List.getD_eq_getElem?_getD, List.getElem?_eq_getElem hlt]
  exact hp _ (List.getElem_mem hlt)
 ·split
  ·exact ⟨by decide, by decide⟩
  ·rename_i h
   have h0 : 0 ≤ d / 44 % 1114112 := Int.emod_nonneg _ (by decide)
   have h1 : d / 44 % 1114112 < 1114112 := Int.emod_lt_of_pos _ (by decide)
   generalize d / 44 % 1114112 = z at *
   lia
theorem text_ok (ns : List Int) : TextOk (textCs ns) := by
 refine ⟨by simp [textCs], fun c hc => ?_⟩
 unfold textCs at hc
 refine xEA (List.mem_map.mp hc) fun k _ zq1 => ?_
 subst zq1
 exact charOf_ok _
theorem stored_got {prog : Program} {w : World} {K : Type} [DecidableEq K] {knd : KeyKind prog w K} {o : Obj} {kvs : List (K × Value)} {k : K} {v : Value} (_h : o.IsDictOf knd (stored kvs k v)) : valueAt (stored kvs k v) k = some v := (valueAt_stored _ _ _ _).trans (if_pos rfl)
theorem slice_take (xs : List Nat) (i : Nat) : PySem.Txt.slice ⟨xs.toArray⟩ none (some (i : Int)) = ⟨(xs.take i).toArray⟩ := by
 have e : PySem.Txt.slice ⟨xs.toArray⟩ none (some (i : Int)) = PySem.Txt.slice ⟨xs.toArray⟩ (some ((0 : Nat) : Int)) (some (i : Int)) := by
  have e2 : Builtin.Str.strSliceIndices none (some (i : Int)) 1 (⟨xs.toArray⟩ : PySem.Str).length = Builtin.Str.strSliceIndices (some ((0 : Nat) : Int)) (some (i : Int)) 1 (⟨xs.toArray⟩ : PySem.Str).length := by
   unfold Builtin.Str.strSliceIndices sliceRange
   have e3 : max 0 (min ((0 : Nat) : Int) ((⟨xs.toArray⟩ : PySem.Str).length : Int)) = 0 := by lia
   simp only [show (1 : Int) > 0 by decide, if_true, show ¬ (((0 : Nat) : Int) < 0) by lia, if_false, e3]
  unfold PySem.Txt.slice
  simp only [e2]
 rw [e, slice_eq xs rfl rfl (Nat.zero_le _), List.drop_zero, Nat.sub_zero]
theorem take_ok {text : List Nat} (h : TextOk text) (n : Nat) : TextOk (text.take n) := ⟨Nat.le_trans (by rw [List.length_take]; exact Nat.min_le_right _ _) h.1, fun c hc => h.2 c (List.mem_of_mem_take hc)⟩
theorem none_of {h h' : Heap} (K : ∀ b o, h.get? b = some o → h'.get? b = some o) {a : Addr} (e : h'.get? a = none) : h.get? a = none := by
 cases q : h.get? a with
 | none => rfl
 | some o => rw [K a o q] at e; cases e
end Mine
end
section
open PySem PySem.W PyProof.Rows PySem.Calls
namespace Mine
section
variable {prog : Program} {w : World} {A : Around} {E : Value → Shared → Prop} {env : Env}
inductive CompAtU (prog : Program) (w : World) (A : Around) (h₀ : Heap) (env : Env) (scope : Scope) (cl : List (PySem.Str × Addr)) (x : PySem.Str) (ifs : List Expr) (elt : Expr) (y : PySem.Str) (Q : Flow → Shared → Prop) (it : Value) (s₂ : Shared) : Prop
 | mk (I : Addr) (fp wr : List Addr) (n : Nat) (P : Nat → Value → Prop) (St : Nat → Heap → Prop) (test : Nat → Bool) (J : Nat → List Value → List (Addr × Obj) → Prop) (m : PySem.Str → Option Value) (news : List (Addr × Obj)) :
  it = .ref I → Walks prog w A I fp wr n P St → n ≤ 100000 → (∀ i h, St i h → ∀ b ∈ fp, ∃ o, h.get? b = some o) → env.locals ∉ fp → (∀ b ∈ wr, h₀.get? b = none) → (∀ q ∈ news, q.1 ∉ wr) → St 0 s₂.heap → J 0 [] [] → Fr h₀ env.locals s₂.heap m → News h₀ env.locals s₂.heap news →
  (∀ C i v s₃ m₃, (∃ h tk, s₃ = { s₂ with heap := h, toks := tk }) → i < n → P i v → s₃.heap.Ns C m₃ → m₃ x = some v → (∀ b o, b ∉ wr → s₂.heap.get? b = some o → s₃.heap.get? b = some o) → Fr h₀ env.locals s₃.heap m → News h₀ env.locals s₃.heap news →
   TestOk prog w A ifs (compEnvC scope cl C env) (test i) s₃) →
  (∀ i v ys os, i < n → P i v → test i = false → J i ys os → J (i + 1) ys os) →
  (∀ C i v h tk m₃ ys os (E' : Value → Shared → Prop), i < n → P i v → test i = true → J i ys os → h.Ns C m₃ → m₃ x = some v → Fr h₀ env.locals h m → News h₀ env.locals h (os ++ news) →
   wpAny (model prog w) A (eval elt (compEnvC scope cl C env)) (EltPost (J (i + 1)) ys os { s₂ with heap := h, toks := tk }) E' { s₂ with heap := h, toks := tk }) →
  (∀ D k h' tk ys os, J n ys os → (∀ p ∈ news, p.1 < D) → Fr h₀ env.locals h' (fun z => if z = y then some (.ref D) else m z) → News h₀ env.locals h' ((D, listOf ys.toArray k) :: (os ++ news)) → Q .next { s₂ with heap := h', toks := tk }) →
  CompAtU prog w A h₀ env scope cl x ifs elt y Q it s₂
theorem compU {h₀ : Heap} {L : Addr} {m₀ : PySem.Str → Option Value} {s : Shared} {elt iter : Expr} {x y : PySem.Str} {px py : Pos} {ifs : List Expr} {scope : Scope} {cl : List (PySem.Str × Addr)} {pos spos : Pos} {Q : Flow → Shared → Prop} (_F : Fr h₀ L s.heap m₀)
  (hsw : swapsWith (.ListComp elt [⟨.Name x px, iter, ifs, 0⟩] scope pos) (some (.Name y py)) spos.line env = pure true)
  (hclos : closureFor scope env = pure cl) (hcell : ∀ y ∈ scope.names, y.2 ≠ .cell) (hkind : scope.kind = .function)
  (hnames : ∀ y ∈ scope.names, y.2 = .local → scope.names.lookup y.1 = some .local) (hx : scope.names.lookup x = some .local) (hy : env.kindOf y = some .local) (hp : (env.scope.kind == .class || (env.scope.kind == .module && env.locals != env.globals)) = false) (hs : ∀ x, foldedSetIterable iter env x = pure x)
  (h : wpAny (model prog w) A (eval iter env) (fun xv s₁ => wpAny (model prog w) A (pyIter xv) (fun it s₂ => CompAtU prog w A h₀ env scope cl x ifs elt y Q it s₂) E s₁) E s) :
  wpAny (model prog w) A (exec (.Assign [.Name y py] (.ListComp elt [⟨.Name x px, iter, ifs, 0⟩] scope pos) spos) env) Q E s := by
 rw [exec_Assign_Name_used _ _ _ _ hsw]
 refine wpAny_bind (wpAny_standAt (wpAny_bind ?_))
 show wpAny _ A (do let _ ← comprehension (.ListComp elt [⟨.Name x px, iter, ifs, 0⟩] scope pos) scope env _ (newList []) false (eval iter env) (some (assign (.Name y py) env))) _ _ s
 refine wpAny_bind (wpAny_mono (wpAny_comprehension_free (use := some (assign (.Name y py) env)) (Q := fun _ s' => Q .next s') rfl hs hclos hkind hnames
  (wpAny_mono h (fun xv s₁ h₁ => wpAny_mono h₁ (fun it s₂ h₂ => ?_) fun _ _ e => e) fun _ _ e => e)) (fun _ s' hq => wpAny_pure (wpAny_pure hq)) fun _ _ e => e)
 obtain ⟨I, fp, wr, n, P, St, test, J, m, news, rfl, W, hsz, hlive, hLf, hwr, hnw, hst, hj, F, N, htests, hskip, helt, hQ⟩ := h₂
 have hLw : env.locals ∉ wr := fun h => hLf (W.sub _ h)
 have hFr : ∀ h' : Heap, (∀ b o, b ∉ wr → s₂.heap.get? b = some o → h'.get? b = some o) → Fr h₀ env.locals h' m := fun h' hk =>
  ⟨F.ns.at' fun o e => hk _ o hLw e, fun b o e => hk b o (fun hb => by rw [hwr b hb] at e; cases e) (F.keep b o e), F.above⟩
 have hNe : ∀ h' : Heap, (∀ b o, b ∉ wr → s₂.heap.get? b = some o → h'.get? b = some o) → News h₀ env.locals h' news := fun h' hk p hp => ⟨hk _ _ (hnw p hp) (N p hp).1, (N p hp).2⟩
 have h₀n : ∀ b, s₂.heap.get? b = none → h₀.get? b = none := fun b hb => by
  cases e : h₀.get? b with
  | none => rfl
  | some o => rw [F.keep b o e] at hb; cases hb
 have neL : ∀ b, s₂.heap.get? b = none → b ≠ env.locals := fun b hb => by
  refine xEEEA F.ns fun _ _ _ ho _ => ?_
  exact ne_of_none_some hb ho
 refine compBlockM (RR := fun acc C => compPost (model prog w) A E (some (assign (.Name y py) env)) (fun _ s' => Q .next s') acc C) W hsz test J hlive hcell hkind hx hst hj (fun C i v s₃ m₃ _ hs hi hP hn hm hk => htests C i v s₃ m₃ hs hi hP hn hm hk (hFr _ hk) (hNe _ hk)) hskip ?_ ?_
 ·intro C i v s₃ m₃ ys os E' hCn zf31 hi hP ht hJ hn hm hk hos
  refine xEE zf31 fun h tk zq1 => ?_
  subst zq1
  refine helt C i v h tk m₃ ys os E' hi hP ht hJ hn hm (hFr _ hk) fun p hp => ?_
  rcases List.mem_append.mp hp with hp | hp
  ·exact ⟨(hos p hp).1, neL _ (hos p hp).2, h₀n _ (hos p hp).2⟩
  ·exact hNe _ hk p hp
 ·intro D C h' tk m' ys os hD hC hDC hDs hn hpl hJ hos hk
  obtain ⟨k, hpl⟩ := hpl
  have F' := hFr _ hk
  have hLC : env.locals ≠ C := (neL _ hC).symm
  have hLD : env.locals ≠ D := (neL _ hD).symm
  show wpAny _ A (assign (.Name y py) env (.ref D)) _ _ _
  refine wpAny_assign_Name (wpAny_storeName_local hy F'.ns (fun h₂ hn₂ hs₂ => ?_) hp)
  refine ⟨m', hn.sameBut hs₂ (Ne.symm hLC), fun h'' hs'' => ?_⟩
  have hL₀ : h₀.get? env.locals = none := Heap.get?_none_of_le F'.above
  have F₂ : Fr h₀ env.locals h₂ (fun z => if z = y then some (.ref D) else m z) := ⟨hn₂, fun b o e => hs₂.extBut b o (fun q => by rw [q, hL₀] at e; cases e) (F'.keep b o e), F'.above⟩
  have up : ∀ b o, b ≠ env.locals → b ≠ C → h'.get? b = some o → h''.get? b = some o := fun b o h1 h2 e => hs''.extBut b o h2 (hs₂.extBut b o h1 e)
  refine hQ D k h'' _ ys os hJ (fun p hp => Nat.lt_of_lt_of_le (Heap.lt_size (N p hp).1) hDs) (F₂.change hs'' (Ne.symm hLC) (h₀n _ hC)) fun p hp => ?_
  rcases List.mem_cons.mp hp with rfl | hp
  ·exact ⟨up _ _ (Ne.symm hLD) hDC hpl, neL _ hD, h₀n _ hD⟩
  ·rcases List.mem_append.mp hp with hp | hp
   ·refine xAAA (hos p hp) fun a b c d => ?_
    exact ⟨up _ _ (neL _ b) c a, neL _ b, h₀n _ b⟩
   ·have q := hNe _ hk p hp
    exact ⟨up _ _ q.2.1 (fun e => by have := (N p hp).1; rw [e, hC] at this; cases this) q.1, q.2⟩
theorem compRangeU {h₀ : Heap} {s : Shared} {scope : Scope} {cl : List (PySem.Str × Addr)} {x : PySem.Str} {elt : Expr} {y : PySem.Str} {Q : Flow → Shared → Prop} {r : Addr} {b₀ : Int} {t₀ u₀ v₀ : Tok} {n : Nat} {m₀ : PySem.Str → Option Value} {news : List (Addr × Obj)}
  (J : Nat → List Value → List (Addr × Obj) → Prop)
  (hh : A.handled = none) (hr : IsRange s.heap r 0 b₀ 1 t₀ u₀ v₀) (hsmall : Builtin.Range.small 0 b₀ 1 = true) (hsz : Builtin.Range.rangeSize 0 b₀ 1 = (n : Int)) (hn : n ≤ 100000)
  (F : Fr h₀ env.locals s.heap m₀) (N : News h₀ env.locals s.heap news) (hj : J 0 [] [])
  (turn : ∀ C i t h tk m₃ ys os (E' : Value → Shared → Prop), i < n → J i ys os → h.Ns C m₃ → m₃ x = some (.int (i : Int) t) → Fr h₀ env.locals h m₀ → News h₀ env.locals h (os ++ news) →
   wpAny (model prog w) A (eval elt (compEnvC scope cl C env)) (EltPost (J (i + 1)) ys os { s with heap := h, toks := tk }) E' { s with heap := h, toks := tk })
  (done : ∀ D k h' tk ys os, J n ys os → (∀ p ∈ news, p.1 < D) → Fr h₀ env.locals h' (fun z => if z = y then some (.ref D) else m₀ z) → News h₀ env.locals h' ((D, listOf ys.toArray k) :: (os ++ news)) → Q .next { s with heap := h', toks := tk }) :
  Stop (wpAny (model prog w) A (pyIter (.ref r)) (fun it s₂ => CompAtU prog w A h₀ env scope cl x [] elt y Q it s₂) E s) := by
 show wpAny _ _ _ _ _ _
 refine wpAny_pyIter_range hr hsmall ?_
 have W : Walks prog w A s.heap.objs.size [s.heap.objs.size] [s.heap.objs.size] n (fun i v => i < n ∧ ∃ t, v = .int (0 + i * 1) t)
   (fun i h => IsRangeIter h s.heap.objs.size (0 + (i : Nat) * 1) ((n : Int) - (i : Nat)) 1) := (Walks.range hh _ 0 1 n).bound
 refine ⟨_, _, _, _, _, _, fun _ => true, J, m₀, news, rfl, W, hn, (fun i h hs b hb => by rw [List.mem_singleton.mp hb]; exact ⟨_, hs⟩), (fun hm => absurd F.ns.lt ((List.mem_singleton.mp hm) ▸ Nat.lt_irrefl _)),
  (fun b hb => by rw [List.mem_singleton.mp hb]; exact next_is_new F), (fun p hp hI => absurd (Heap.lt_size (N p hp).1) ((List.mem_singleton.mp hI) ▸ Nat.lt_irrefl _)),
  (by show IsRangeIter _ _ _ _ _; rw [hsz]; simpa using Heap.get?_push_size _ rfl), hj, F.push _, (fun p hp => ⟨Heap.get?_push_of_some _ (N p hp).1, (N p hp).2⟩), ?_, (fun i _ ys os _ _ h => by cases h), ?_, done⟩
 ·intros; exact testOk_nil
 ·intro C i v h tk m₃ ys os E' hi zf32 ht hJ hn hm F₃ N₃
  refine xAE zf32 fun _ t zq2 => ?_
  subst zq2
  have e1 : (0 : Int) + (i : Int) * 1 = (i : Int) := by lia
  rw [e1] at hm
  exact turn C i t h tk m₃ ys os E' hi hJ hn hm F₃ N₃
end
section
variable {prog : Program} {w : World} {A : Around} {E : Value → Shared → Prop} {s : Shared} {h₀ : Heap} {L : Addr} {m : PySem.Str → Option Value} {news : List (Addr × Obj)} {value slice : Expr} {xs : List Nat} {t ui uj : Tok} {i j : Nat} {Q : Value → Shared → Prop}
theorem kept3 {H : Heap} : KeptH (fun g => Fr h₀ L g m ∧ News h₀ L g news ∧ ∀ b o, H.get? b = some o → g.get? b = some o) := fun g ob ⟨a, b, c⟩ =>
 ⟨a.push ob, b.grown fun _ _ e => Heap.get?_push_of_some _ e, fun x o e => Heap.get?_push_of_some _ (c x o e)⟩
theorem strLen {xs : List Nat} (hz : xs.length ≤ 100000) : PySem.Str.length ⟨xs.toArray⟩ ≤ sizeLine := by
 simp only [PySem.Str.length, List.size_toArray]; rw [sizeLine_eq]; lia
theorem slice_keep (hF : Fr h₀ L s.heap m) (hN : News h₀ L s.heap news) (hz : xs.length ≤ 100000)
  (h : ∀ h' t' k, Fr h₀ L h' m → News h₀ L h' news → (∀ b o, s.heap.get? b = some o → h'.get? b = some o) → Q (.str ⟨(xs.take i).toArray⟩ t') { s with heap := h', toks := k })
  (hs : subscripted slice false (.str ⟨xs.toArray⟩ t) (.ref s.heap.objs.size) = operate [.ref s.heap.objs.size, .str ⟨xs.toArray⟩ t] (getItem (.str ⟨xs.toArray⟩ t) (.ref s.heap.objs.size)))
  (ht : ∀ r, letTemporaryGo value (.str ⟨xs.toArray⟩ t) r = pure ()) :
  wpAny (model prog w) A (subscriptTail value slice (.str ⟨xs.toArray⟩ t) (.ref s.heap.objs.size)) Q E { s with heap := s.heap.push { cls := .type "slice", data := .fields #[.none, .int (i : Int) uj, .none] } } :=
 tail_of_ItemOn (SBH.sliceItem_ns (kept3 (H := s.heap)) ⟨hF, hN, fun _ _ e => e⟩ (fun h' t' k a => by rw [slice_take]; exact h h' t' k a.1 a.2.1 a.2.2) (strLen hz)) hs ht
theorem slice_keep2 (hF : Fr h₀ L s.heap m) (hN : News h₀ L s.heap news) (hz : xs.length ≤ 100000) (hij : i ≤ j)
  (h : ∀ h' t' k, Fr h₀ L h' m → News h₀ L h' news → (∀ b o, s.heap.get? b = some o → h'.get? b = some o) → Q (.str ⟨((xs.drop i).take (j - i)).toArray⟩ t') { s with heap := h', toks := k })
  (hs : subscripted slice false (.str ⟨xs.toArray⟩ t) (.ref s.heap.objs.size) = operate [.ref s.heap.objs.size, .str ⟨xs.toArray⟩ t] (getItem (.str ⟨xs.toArray⟩ t) (.ref s.heap.objs.size)))
  (ht : ∀ r, letTemporaryGo value (.str ⟨xs.toArray⟩ t) r = pure ()) :
  wpAny (model prog w) A (subscriptTail value slice (.str ⟨xs.toArray⟩ t) (.ref s.heap.objs.size)) Q E { s with heap := s.heap.push { cls := .type "slice", data := .fields #[.int (i : Int) ui, .int (j : Int) uj, .none] } } :=
 tail_of_ItemOn (SBH.sliceItem_ss (kept3 (H := s.heap)) ⟨hF, hN, fun _ _ e => e⟩ (fun h' t' k a => by rw [slice_eq xs rfl rfl hij]; exact h h' t' k a.1 a.2.1 a.2.2) (strLen hz)) hs ht
end
theorem newsPush {h₀ h : Heap} {L : Addr} {o : Obj} {l : List (Addr × Obj)} (N : News h₀ L h l) : News h₀ L (h.push o) l := N.grown fun _ _ e => Heap.get?_push_of_some _ e
structure StAt (D td : Addr) (kvs : List (PySem.Str × Value)) (i : Nat) : Prop where
 len : kvs.length ≤ 2 + i
 vr : valueAt kvs (ofString "rows") = some (.ref D)
 vt : valueAt kvs (ofString "told") = some (.ref td)
 vn : ∀ n, n < i → valueAt kvs (stS n) = some (.ref 487)
 v6 : valueAt kvs (stS 6) = none
theorem StAt.init {D td : Addr} {t0 t1 : Tok} : StAt D td (strPairs [(Value.str (ofString "rows") t0, Value.ref D), (Value.str (ofString "told") t1, Value.ref td)]) 0 := by
 have e1 : (ofString "rows" = ofString "told") = False := by rw [eq_iff_iff, iff_false]; decide +kernel
 have e2 : (ofString "rows" = stS 6) = False := by rw [eq_iff_iff, iff_false]; decide +kernel
 have e3 : (ofString "told" = stS 6) = False := by rw [eq_iff_iff, iff_false]; decide +kernel
 refine ⟨by simp [strPairs], ?_, ?_, fun _ h => absurd h (Nat.not_lt_zero _), ?_⟩
 ·simp [strPairs, valueAt]
 ·simp [strPairs, valueAt, e1]
 ·simp [strPairs, valueAt, e2, e3]
theorem StAt.init' {prog : Program} {w : World} {o : Obj} {D td : Addr} {t0 t1 : Tok} (_h : Obj.IsDictOf (PySem.strKind prog w) o (strPairs [(Value.str (ofString "rows") t0, Value.ref D), (Value.str (ofString "told") t1, Value.ref td)])) : StAt D td (strPairs [(Value.str (ofString "rows") t0, Value.ref D), (Value.str (ofString "told") t1, Value.ref td)]) 0 := StAt.init
theorem stS_inj {a b : Nat} (h : stS a = stS b) : a = b := by
 have := congrArg (fun x : PySem.Str => x.cps.toList) h
 simp [stS] at this
 lia
theorem stS_ne {i : Nat} (h : i < 6) : stS i ≠ ofString "rows" ∧ stS i ≠ ofString "told" := by
 have : i = 0 ∨ i = 1 ∨ i = 2 ∨ i = 3 ∨ i = 4 ∨ i = 5 := by lia
 rcases this with rfl | rfl | rfl | rfl | rfl | rfl <;> decide +kernel
theorem StAt.snoc {D td : Addr} {kvs : List (PySem.Str × Value)} {i : Nat} (hi : i < 6) (h : StAt D td kvs i) : StAt D td (stored kvs (stS i) (.ref 487)) (i + 1) := by
 have hn := stS_ne hi
 refine ⟨Nat.le_trans (stored_length_le _ _ _) (by have := h.len; lia), ?_, ?_, fun n hn2 => ?_, ?_⟩
 ·rw [valueAt_stored, if_neg (Ne.symm hn.1)]; exact h.vr
 ·rw [valueAt_stored, if_neg (Ne.symm hn.2)]; exact h.vt
 ·rw [valueAt_stored]
  by_cases e : n = i
  ·subst e; rw [if_pos rfl]
  ·rw [if_neg (fun q => e (stS_inj q))]; exact h.vn n (by lia)
 ·rw [valueAt_stored, if_neg (fun q => by have := stS_inj q; lia)]; exact h.v6
end Mine
end
section
open PySem PySem.W PyProof.Rows PySem.Calls
namespace Mine
noncomputable def noL : Nat → Dat → Bool
 | _, .list _ => false
 | n + 1, .tuple ds => ds.all (noL n)
 | 0, .tuple _ => false
 | _, _ => true
theorem noL_tup {ds : List Dat} : ∀ {k : Nat}, noL k (.tuple ds) = true → ∃ n, ∀ d ∈ ds, noL n d = true
 | 0, h => nomatch h
 | n + 1, h => ⟨n, List.all_eq_true.mp h⟩
theorem noL_list {ds : List Dat} : ∀ {k : Nat}, noL k (.list ds) = true → False
 | 0, h => nomatch h
 | _ + 1, h => nomatch h
theorem DatIn.off {B B' : List (Addr × Obj)} (hs : ∀ a n vs, (a, ({ cls := .type "tuple", data := .seq (List.toArray vs) n } : Obj)) ∈ B → (a, ({ cls := .type "tuple", data := .seq (List.toArray vs) n } : Obj)) ∈ B') {v : Value} {d : Dat} (k : Nat) (h : DatIn B v d) (hn : noL k d = true) : DatIn B' v d :=
 DatIn.rec (motive_1 := fun v d _ => ∀ k, noL k d = true → DatIn B' v d) (motive_2 := fun vs ds _ => ∀ k, (∀ d ∈ ds, noL k d = true) → DatAll B' vs ds)
  (fun _ _ => .none) (fun b _ _ => .bool b) (fun i t _ _ => .int i t) (fun x t _ _ => .str x t) (fun b t _ _ => .bytes b t) (fun hm _ ih _ hn => (noL_tup hn).elim fun n g => .tuple (hs _ _ _ hm) (ih n g)) (fun _ _ _ _ hn => (noL_list hn).elim) (fun _ _ => .nil) (fun _ _ i1 i2 k hn => .cons (i1 k (hn _ (.head _))) (i2 k fun d hd => hn d (.tail _ hd))) h k hn
theorem DatAll.off {B B' : List (Addr × Obj)} (hs : ∀ a n vs, (a, ({ cls := .type "tuple", data := .seq (List.toArray vs) n } : Obj)) ∈ B → (a, ({ cls := .type "tuple", data := .seq (List.toArray vs) n } : Obj)) ∈ B') {vs : List Value} {ds : List Dat} (k : Nat) (h : DatAll B vs ds) (hn : ∀ d ∈ ds, noL k d = true) : DatAll B' vs ds :=
 DatAll.rec (motive_1 := fun _ _ _ => True) (motive_2 := fun vs ds _ => (∀ d ∈ ds, noL k d = true) → DatAll B' vs ds)
  trivial (fun _ => trivial) (fun _ _ => trivial) (fun _ _ => trivial) (fun _ _ => trivial) (fun _ _ _ => trivial) (fun _ _ _ => trivial) (fun _ => .nil) (fun h _ _ ih hn => .cons (DatIn.off hs k h (hn _ (.head _))) (ih fun d hd => hn d (.tail _ hd))) h hn
theorem noL_ch (c : Nat) : noL 4 (chTok c) = true := by simp [noL]
noncomputable def offI (I : Addr) (l : List (Addr × Obj)) : List (Addr × Obj) := l.filter fun p => p.1 != I
theorem mem_offI {I : Addr} {l : List (Addr × Obj)} {p : Addr × Obj} : p ∈ offI I l ↔ p ∈ l ∧ p.1 ≠ I := by simp [offI]
end Mine
end
section
open PySem PySem.W PyProof.Rows PySem.Calls
namespace Mine
inductive AV where
 | i (z : Int) | s (x : PySem.Str) | b (t : Bool) | n | r (a : Addr) | d (x : Dat) | v (x : Value) | t (as : List AV)
noncomputable abbrev tupO (vs : List Value) (k : Nat) : Obj := { cls := .type "tuple", data := .seq (List.toArray vs) k }
mutual
inductive AV.Is (L : Led) : AV → Value → Prop
 | i (z : Int) (t : Tok) : AV.Is L (.i z) (.int z t)
 | s (x : PySem.Str) (t : Tok) : AV.Is L (.s x) (.str x t)
 | b (t : Bool) : AV.Is L (.b t) (.bool t)
 | n : AV.Is L .n .none
 | r (a : Addr) : AV.Is L (.r a) (.ref a)
 | d {x : Dat} {y : Value} : DatIn L y x → noL 4 x = true → AV.Is L (.d x) y
 | v (x : Value) : AV.Is L (.v x) x
 | t {as : List AV} {D : Addr} {k : Nat} {vs : List Value} : (D, tupO vs k) ∈ L → LIs L as vs → AV.Is L (.t as) (.ref D)
inductive LIs (L : Led) : List AV → List Value → Prop
 | nil : LIs L [] []
 | cons {a : AV} {v : Value} {as : List AV} {vs : List Value} : AV.Is L a v → LIs L as vs → LIs L (a :: as) (v :: vs)
end
noncomputable def Gro (n n' : Led) : Prop := ∀ a k vs, (a, ({ cls := .type "tuple", data := .seq (List.toArray vs) k } : Obj)) ∈ n → (a, ({ cls := .type "tuple", data := .seq (List.toArray vs) k } : Obj)) ∈ n'
theorem Gro.refl {n : Led} : Gro n n := fun _ _ _ h => h
theorem Gro.trans {n n' n'' : Led} (h : Gro n n') (g : Gro n' n'') : Gro n n'' := fun a k vs q => g a k vs (h a k vs q)
theorem Gro.of {n n' : Led} (h : ∀ p ∈ n, p ∈ n') : Gro n n' := fun _ _ _ q => h _ q
theorem AV.Is.mono {n n' : Led} (g : Gro n n') {a : AV} {v : Value} (h : AV.Is n a v) : AV.Is n' a v :=
 AV.Is.rec (motive_1 := fun a v _ => AV.Is n' a v) (motive_2 := fun as vs _ => LIs n' as vs)
  (fun z t => .i z t) (fun x t => .s x t) (fun b => .b b) .n (fun a => .r a) (fun h1 h2 => .d (Mine.DatIn.off g 4 h1 h2) h2) (fun x => .v x) (fun h _ ih => .t (g _ _ _ h) ih) .nil (fun _ _ i1 i2 => .cons i1 i2) h
theorem LIs.mono {n n' : Led} (g : Gro n n') {as : List AV} {vs : List Value} (h : LIs n as vs) : LIs n' as vs :=
 LIs.rec (motive_1 := fun _ _ _ => True) (motive_2 := fun as vs _ => LIs n' as vs)
  (fun _ _ => trivial) (fun _ _ => trivial) (fun _ => trivial) trivial (fun _ => trivial) (fun _ _ => trivial) (fun _ => trivial) (fun _ _ _ => trivial) .nil (fun h _ _ ih => .cons (h.mono g) ih) h
noncomputable def AV.Inv (n : Led) (a : AV) (x : Value) : Prop := match a with
 | .i z => ∃ t, x = .int z t
 | .s y => ∃ t, x = .str y t
 | .b q => x = .bool q
 | .n => x = .none
 | .r p => x = .ref p
 | .d y => DatIn n x y ∧ noL 4 y = true
 | .v y => x = y
 | .t as => ∃ D k vs, x = .ref D ∧ (D, tupO vs k) ∈ n ∧ LIs n as vs
theorem AV.Is.inv {n : Led} {a : AV} {x : Value} (h : AV.Is n a x) : AV.Inv n a x := by
 cases h with
 | i _ t => exact ⟨t, rfl⟩
 | s _ t => exact ⟨t, rfl⟩
 | d h1 h2 => exact ⟨h1, h2⟩
 | t h r => exact ⟨_, _, _, rfl, h, r⟩
 | _ => rfl
noncomputable def LIs.Inv (n : Led) (as : List AV) (vs : List Value) : Prop := match as with
 | [] => vs = []
 | a :: r => ∃ v us, vs = v :: us ∧ AV.Is n a v ∧ LIs n r us
theorem LIs.inv {n : Led} {as : List AV} {vs : List Value} (h : LIs n as vs) : LIs.Inv n as vs := by
 cases h with
 | nil => rfl
 | cons h r => exact ⟨_, _, rfl, h, r⟩
theorem LIs.cons_elim {n : Led} {a : AV} {as : List AV} {motive : ∀ vs, LIs n (a :: as) vs → Prop} (cons : ∀ {v : Value} {us : List Value} (h : AV.Is n a v) (r : LIs n as us), motive (v :: us) (.cons h r)) {vs : List Value} (h : LIs n (a :: as) vs) : motive vs h := by
 cases h with | cons h r => exact cons h r
theorem AV.Is.s_elim {n : Led} {y : PySem.Str} {motive : ∀ x, AV.Is n (.s y) x → Prop} (s : ∀ t : Tok, motive (.str y t) (.s y t)) {x : Value} (h : AV.Is n (.s y) x) : motive x h := by
 cases h; exact s _
theorem AV.Is.i_elim {n : Led} {z : Int} {motive : ∀ x, AV.Is n (.i z) x → Prop} (i : ∀ t : Tok, motive (.int z t) (.i z t)) {x : Value} (h : AV.Is n (.i z) x) : motive x h := by
 cases h; exact i _
theorem AV.Is.t_elim {n : Led} {as : List AV} {motive : ∀ x, AV.Is n (.t as) x → Prop} (t : ∀ {D : Addr} {k : Nat} {vs : List Value} (h : (D, tupO vs k) ∈ n) (r : LIs n as vs), motive (.ref D) (.t h r)) {x : Value} (h : AV.Is n (.t as) x) : motive x h := by
 cases h with | t h r => exact t h r
theorem LIs.len {n : Led} : ∀ {as : List AV} {vs : List Value}, LIs n as vs → vs.length = as.length
 | _, _, .nil => rfl
 | _, _, .cons _ h => by rw [List.length_cons, List.length_cons, h.len]
noncomputable abbrev ANs := List (PySem.Str × AV)
noncomputable def Names (n : Led) (l : ANs) (m : PySem.Str → Option Value) : Prop := ∀ x a, l.lookup x = some a → ∃ v, m x = some v ∧ a.Is n v
theorem Names.mono {n n' : Led} {l : ANs} {m : PySem.Str → Option Value} (h : Names n l m) (g : Gro n n') : Names n' l m := fun x a e => by
 refine xEA (h x a e) fun v e1 e2 => ?_
 exact ⟨v, e1, e2.mono g⟩
theorem Names.store {n : Led} {l : ANs} {m : PySem.Str → Option Value} {x : PySem.Str} {a : AV} {v : Value} (h : Names n l m) (ha : a.Is n v) : Names n ((x, a) :: l) (fun y => if y = x then some v else m y) := fun y b e => by
 rw [List.lookup_cons] at e
 by_cases q : y = x
 ·subst q
  simp only [beq_self_eq_true] at e
  cases e
  exact ⟨v, if_pos rfl, ha⟩
 ·have : (y == x) = false := by simpa using q
  rw [this] at e
  refine xEA (h y b e) fun u e1 e2 => ?_
  exact ⟨u, (if_neg q).trans e1, e2⟩
section
variable {w : World} {d : Nat} {cs : Scope} {σ : Type}
noncomputable def JG (den : σ → Led → Prop) (c : FD w d cs) {α β : Type} (R : Led → β → α → Prop) (t : Sem α) (l : ANs) (S : σ) (K : β → σ → Prop) : Prop :=
 ∀ (s : Shared) (Q : α → Shared → Prop) (E : Value → Shared → Prop) m n, Fr c.h₀ c.L s.heap m → Names n l m → News c.h₀ c.L s.heap n → den S n →
  (∀ v b S' n' h' tk', Fr c.h₀ c.L h' m → Gro n n' → News c.h₀ c.L h' n' → den S' n' → R n' b v → K b S' → Q v { s with heap := h', toks := tk' }) → wpAny (model PG w) c.A t Q E s
noncomputable abbrev JE (den : σ → Led → Prop) (c : FD w d cs) (t : Sem Value) (l : ANs) (S : σ) (K : AV → σ → Prop) : Prop := JG den c AV.Is t l S K
noncomputable abbrev JL (den : σ → Led → Prop) (c : FD w d cs) (t : Sem (List Value)) (l : ANs) (S : σ) (K : List AV → σ → Prop) : Prop := JG den c LIs t l S K
noncomputable abbrev JB (den : σ → Led → Prop) (c : FD w d cs) (t : Sem Bool) (l : ANs) (S : σ) (K : Bool → σ → Prop) : Prop := JG den c (fun _ b v => b = v) t l S K
noncomputable def JO1 (den : σ → Led → Prop) (c : FD w d cs) {α β : Type} (R : Led → β → α → Prop) (f : Value → Sem α) (a : AV) (l : ANs) (S : σ) (K : β → σ → Prop) : Prop :=
 ∀ (s : Shared) (Q : α → Shared → Prop) (E : Value → Shared → Prop) m n x, Fr c.h₀ c.L s.heap m → Names n l m → News c.h₀ c.L s.heap n → den S n → a.Is n x →
  (∀ v b S' n' h' tk', Fr c.h₀ c.L h' m → Gro n n' → News c.h₀ c.L h' n' → den S' n' → R n' b v → K b S' → Q v { s with heap := h', toks := tk' }) → wpAny (model PG w) c.A (f x) Q E s
noncomputable def JO2 (den : σ → Led → Prop) (c : FD w d cs) {α β : Type} (R : Led → β → α → Prop) (f : Value → Value → Sem α) (a b : AV) (l : ANs) (S : σ) (K : β → σ → Prop) : Prop :=
 ∀ (s : Shared) (Q : α → Shared → Prop) (E : Value → Shared → Prop) m n x y, Fr c.h₀ c.L s.heap m → Names n l m → News c.h₀ c.L s.heap n → den S n → a.Is n x → b.Is n y →
  (∀ v b S' n' h' tk', Fr c.h₀ c.L h' m → Gro n n' → News c.h₀ c.L h' n' → den S' n' → R n' b v → K b S' → Q v { s with heap := h', toks := tk' }) → wpAny (model PG w) c.A (f x y) Q E s
noncomputable def JOL (den : σ → Led → Prop) (c : FD w d cs) {α β : Type} (R : Led → β → α → Prop) (f : List Value → Sem α) (as : List AV) (l : ANs) (S : σ) (K : β → σ → Prop) : Prop :=
 ∀ (s : Shared) (Q : α → Shared → Prop) (E : Value → Shared → Prop) m n vs, Fr c.h₀ c.L s.heap m → Names n l m → News c.h₀ c.L s.heap n → den S n → LIs n as vs →
  (∀ v b S' n' h' tk', Fr c.h₀ c.L h' m → Gro n n' → News c.h₀ c.L h' n' → den S' n' → R n' b v → K b S' → Q v { s with heap := h', toks := tk' }) → wpAny (model PG w) c.A (f vs) Q E s
inductive AF where
 | nxt | ret (a : AV)
inductive AF.Is (L : Led) : AF → Flow → Prop
 | nxt : Is L .nxt .next
 | ret {a : AV} {v : Value} : a.Is L v → Is L (.ret a) (.ret v)
noncomputable def JX (den : σ → Led → Prop) (c : FD w d cs) (t : Sem Flow) (l : ANs) (S : σ) (K : AF → ANs → σ → Prop) : Prop :=
 ∀ (s : Shared) (Q : Flow → Shared → Prop) (E : Value → Shared → Prop) m n, Fr c.h₀ c.L s.heap m → Names n l m → News c.h₀ c.L s.heap n → den S n →
  (∀ v b l' S' m' n' h' tk', Fr c.h₀ c.L h' m' → Gro n n' → Names n' l' m' → News c.h₀ c.L h' n' → den S' n' → AF.Is n' b v → K b l' S' → Q v { s with heap := h', toks := tk' }) → wpAny (model PG w) c.A t Q E s
noncomputable def JC (den : σ → Led → Prop) (w : World) (d : Nat) (f : Addr) (as : List AV) (S : σ) (K : AV → σ → Prop) : Prop :=
 ∀ n vs, den S n → LIs n as vs → Spec w d n f vs fun r n' => Gro n n' ∧ ∃ a S', den S' n' ∧ a.Is n' r ∧ K a S'
variable {den : σ → Led → Prop} {c : FD w d cs} {l : ANs} {S : σ}
noncomputable def alook (cs : Scope) (l : ANs) (x : PySem.Str) : Option AV := if x == ofString "__debug__" then none else match cs.names.lookup x with | some .local => l.lookup x | _ => none
theorem alook_spec {x : PySem.Str} {a : AV} (e : alook cs l x = some a) : (x == ofString "__debug__") = false ∧ cs.names.lookup x = some .local ∧ l.lookup x = some a := by
 unfold alook at e
 split at e
 ·cases e
 ·rename_i h
  split at e
  ·rename_i h2
   exact ⟨by simpa using h, h2, e⟩
  ·cases e
theorem e_name {K : AV → σ → Prop} {x : PySem.Str} {p : Pos} {a : AV} (e : alook cs l x = some a) (h : K a S) : JE den c (eval (.Name x p) c.env) l S K := fun s Q E m n F M N hS k => by
 refine xAA (alook_spec e) fun h1 h2 h3 => ?_
 refine xEA (M _ _ h3) fun v hv hi => ?_
 exact nameX_L F hv (k _ _ _ _ _ _ F .refl N hS hi h) c.hk h2 h1
theorem e_int {K : AV → σ → Prop} {z : Int} {k0 : Nat} {p : Pos} {env : Env} (h : K (.i z) S) : JE den c (eval (.Constant (.int z) k0 p) env) l S K := fun s Q E m n F M N hS k => wpAny_Constant_int (k _ _ _ _ _ _ F .refl N hS (.i _ _) h)
theorem e_str {K : AV → σ → Prop} {x : PySem.Str} {k0 : Nat} {p : Pos} {env : Env} (h : K (.s x) S) : JE den c (eval (.Constant (.str x) k0 p) env) l S K := fun s Q E m n F M N hS k => Constant_str (k _ _ _ _ _ _ F .refl N hS (.s _ _) h)
theorem e_bool {K : AV → σ → Prop} {b : Bool} {k0 : Nat} {p : Pos} {env : Env} (h : K (.b b) S) : JE den c (eval (.Constant (.bool b) k0 p) env) l S K := fun s Q E m n F M N hS k => Constant_bool (k _ _ _ _ _ _ F .refl N hS (.b _) h)
theorem e_none {K : AV → σ → Prop} {k0 : Nat} {p : Pos} {env : Env} (h : K .n S) : JE den c (eval (.Constant .none k0 p) env) l S K := fun s Q E m n F M N hS k => wpAny_Constant_none (k _ _ _ _ _ _ F .refl N hS .n h)
theorem e_bin {K : AV → σ → Prop} {a b : Expr} {op : Operator} {p : Pos} {env : Env} (h : JE den c (eval a env) l S fun u S1 => JE den c (eval b env) l S1 fun v S2 => JO2 den c AV.Is (binaryOp op) u v l S2 K) : JE den c (eval (.BinOp a op b p) env) l S K := fun s Q E m n F M N hS k =>
 wpAny_BinOp (h s _ E m n F M N hS fun x u S1 n1 h1 t1 F1 g1 N1 hS1 i1 h2 => h2 _ _ E m n1 F1 (M.mono g1) N1 hS1 fun y v S2 n2 h3 t3 F3 g3 N3 hS3 i3 h4 => h4 _ _ E m n2 _ _ F3 (M.mono (g1.trans g3)) N3 hS3 (i1.mono g3) i3 fun z r S3 n3 h5 t5 F5 g5 N5 hS5 i5 h6 => k _ _ _ _ _ _ F5 ((g1.trans g3).trans g5) N5 hS5 i5 h6)
theorem l_nil {K : List AV → σ → Prop} {p : Pos} {env : Env} (h : K [] S) : JL den c (spliced (backTo p (starEach [] env))) l S K := fun s Q E m n F M N hS k => args_nil (k _ _ _ _ _ _ F .refl N hS .nil h)
theorem l_cons {K : List AV → σ → Prop} {p : Pos} {env : Env} {e : Expr} {r : List Expr} (hp : starP e = true) (h : JE den c (eval e env) l S fun a S1 => JL den c (spliced (backTo p (starEach r env))) l S1 fun as S2 => K (a :: as) S2) : JL den c (spliced (backTo p (starEach (e :: r) env))) l S K := fun s Q E m n F M N hS k =>
 args_cons (h s _ E m n F M N hS fun x u S1 n1 h1 t1 F1 g1 N1 hS1 i1 h2 => h2 _ _ E m n1 F1 (M.mono g1) N1 hS1 fun y v S2 n2 h3 t3 F3 g3 N3 hS3 i3 h4 => k _ _ _ _ _ _ F3 (g1.trans g3) N3 hS3 (.cons (i1.mono g3) i3) h4) (star_plain hp)
theorem e_attr {K : AV → σ → Prop} {x a : PySem.Str} {xp p : Pos} {u : AV} (e : alook cs l x = some u) (h : JO1 den c AV.Is (fun v => getAttr v a true) u l S K) : JE den c (eval (.Attribute (.Name x xp) a p) c.env) l S K := fun s Q E m n F M N hS k => by
 refine xAA (alook_spec e) fun h1 h2 h3 => ?_
 refine xEA (M _ _ h3) fun v hv hi => ?_
 exact Attribute_Name_ (nameX_L F hv (h s Q E m n v F M N hS hi k) c.hk h2 h1)
theorem e_attr2 {K : AV → σ → Prop} {x b a : PySem.Str} {xp bp p : Pos} {env : Env} (h : JE den c (eval (.Attribute (.Name x xp) b bp) env) l S fun u S1 => JO1 den c AV.Is (fun v => getAttr v a true) u l S1 K) : JE den c (eval (.Attribute (.Attribute (.Name x xp) b bp) a p) env) l S K := fun s Q E m n F M N hS k =>
 Attribute_any_ (h s _ E m n F M N hS fun x u S1 n1 h1 t1 F1 g1 N1 hS1 i1 h2 => h2 _ _ E m n1 x F1 (M.mono g1) N1 hS1 i1 fun y v S2 n2 h3 t3 F3 g3 N3 hS3 i3 h4 => k _ _ _ _ _ _ F3 (g1.trans g3) N3 hS3 i3 h4)
theorem e_tup {K : AV → σ → Prop} {p : Pos} {env : Env} {es : List Expr} {k0 : Nat} (h : JL den c (spliced (backTo p (starEach es env))) l S fun as S1 => JOL den c AV.Is newTuple as l S1 K) : JE den c (eval (.Tuple es k0 p) env) l S K := fun s Q E m n F M N hS k =>
 Tuple_ (h s _ E m n F M N hS fun x u S1 n1 h1 t1 F1 g1 N1 hS1 i1 h2 => h2 _ _ E m n1 x F1 (M.mono g1) N1 hS1 i1 fun y v S2 n2 h3 t3 F3 g3 N3 hS3 i3 h4 => k _ _ _ _ _ _ F3 (g1.trans g3) N3 hS3 i3 h4)
theorem c_run {K : AV → σ → Prop} {dd : Nat} {f : Addr} {as : List AV} (hd : Nat.ble dd d = true) (h : JC den w dd f as S K) : JOL den c AV.Is (fun vs => call (.ref f) vs) as l S K := fun s Q E m n vs F M N hS hi k => by
 have hd := Nat.le_of_ble_eq_true hd
 exact h n vs hS hi _ _ _ _ _ _ _ _ _ _ _ _ _ _ _ _ _ _ _ _ c.B F c.X N c.T c.hk (Nat.lt_of_le_of_lt (Nat.add_le_add_left hd _) c.hd) (Nat.lt_of_le_of_lt (Nat.add_le_add_left (Nat.mul_le_mul_left _ hd) _) c.hu) fun r n' h' tk' F' N' _ ⟨g, a, S', h1, h2, h3⟩ => k _ _ _ _ _ _ F' g N' h1 h2 h3
noncomputable def Meth (den : σ → Led → Prop) (c : FD w d cs) (S : σ) (a : Addr) (name : PySem.Str) (f : Addr) : Prop :=
 ∀ (s : Shared) (Q : Value × List Value → Shared → Prop) (E : Value → Shared → Prop) m n pl, Fr c.h₀ c.L s.heap m → News c.h₀ c.L s.heap n → den S n → Q (.ref f, [.ref a]) s → wpAny (model PG w) c.A (getMethod (.ref a) name pl) Q E s
theorem e_meth0 {K : AV → σ → Prop} {dd : Nat} {x name : PySem.Str} {xp apos p : Pos} {a f : Addr} (hp : methOk [] apos p = true) (e : alook cs l x = some (.r a)) (hm : Meth den c S a name f) (hk : keepIn (hd.heap_1 w.params) (.ref f) = true) (hd : Nat.ble dd d = true) (h : JC den w dd f [.r a] S K) : JE den c (eval (.Call (.Attribute (.Name x xp) name apos) [] [] p) c.env) l S K := fun s Q E m n F M N hS k => by
 refine xAA (alook_spec e) fun h1 h2 h3 => ?_
 refine xEA (M _ _ h3) fun v hv hi => ?_
 (first | obtain rfl := hi.inv | obtain ⟨_, rfl⟩ := hi.inv | cases hi)
 exact MethodCall_ (pl := (do return (← importBound (.Name x xp) c.env).getD true)) (nameX_L F hv (hm s _ E m n _ F N hS (callWith_K0 (c.X.keeps F.keep) hk (c_run hd h s Q E m n [.ref a] F M N hS (.cons (.r a) .nil) k))) c.hk h2 h1)
  (by show (eval (.Name x xp) c.env >>= fun ov => standAt apos.atName >>= fun _ => methodCall _ _ _ _ _ _ _ _ _) = _; simp only [meth_form hp])
theorem e_meth {K : AV → σ → Prop} {dd : Nat} {x name : PySem.Str} {xp apos p : Pos} {e0 : Expr} {es : List Expr} {a f : Addr} (hp : methOk (e0 :: es) apos p = true) (e : alook cs l x = some (.r a)) (hm : Meth den c S a name f) (hk : keepIn (hd.heap_1 w.params) (.ref f) = true) (hd : Nat.ble dd d = true) (h : JL den c (spliced (backTo p (starEach (e0 :: es) c.env))) l S fun as S1 => JC den w dd f (.r a :: as) S1 K) : JE den c (eval (.Call (.Attribute (.Name x xp) name apos) (e0 :: es) [] p) c.env) l S K := fun s Q E m n F M N hS k => by
 refine xAA (alook_spec e) fun h1 h2 h3 => ?_
 refine xEA (M _ _ h3) fun v hv hi => ?_
 (first | obtain rfl := hi.inv | obtain ⟨_, rfl⟩ := hi.inv | cases hi)
 have hp' := hp
 unfold methOk at hp'
 simp only [List.all_cons, Bool.and_eq_true] at hp'
 exact MethodCall_ (pl := (do return (← importBound (.Name x xp) c.env).getD true)) (nameX_L F hv (hm s _ E m n _ F N hS (callWith_K c.X hk (h s _ E m n F M N hS fun x u S1 n1 h1 t1 F1 g1 N1 hS1 i1 h2 => ⟨c.X.keeps F1.keep, c_run hd h2 _ _ E m n1 _ F1 (M.mono g1) N1 hS1 (.cons (.r a) i1) fun y v S2 n2 h3 t3 F3 g3 N3 hS3 i3 h4 => k _ _ _ _ _ _ F3 (g1.trans g3) N3 hS3 i3 h4⟩) (star_plain hp'.1.1.1) (noStars _ _ _ hp'.1.1.2))) c.hk h2 h1)
  (by show (eval (.Name x xp) c.env >>= fun ov => standAt apos.atName >>= fun _ => methodCall _ _ _ _ _ _ _ _ _) = _; simp only [meth_form hp])
theorem x_nil {K : AF → ANs → σ → Prop} {env : Env} (h : K .nxt l S) : JX den c (execs [] env) l S K := fun s Q E m n F M N hS k => wpAny_execs_nil (k _ _ _ _ _ _ _ _ F .refl M N hS .nxt h)
noncomputable def XSeq (den : σ → Led → Prop) (c : FD w d cs) (env : Env) (r : List Stmt) (K : AF → ANs → σ → Prop) : AF → ANs → σ → Prop := fun f l S => match f with
 | .nxt => JX den c (execs r env) l S K
 | f => K f l S
theorem x_cons {K : AF → ANs → σ → Prop} {st : Stmt} {r : List Stmt} {env : Env} (h : JX den c (exec st env) l S (XSeq den c env r K)) : JX den c (execs (st :: r) env) l S K := fun s Q E m n F M N hS k =>
 wpAny_execs_cons (h s _ E m n F M N hS fun v b l1 S1 m1 n1 h1 t1 F1 g1 M1 N1 hS1 i1 h2 => by
  cases i1 with
  | nxt => exact h2 _ _ E m1 n1 F1 M1 N1 hS1 fun v b l2 S2 m2 n2 h3 t3 F3 g3 M3 N3 hS3 i3 h4 => k _ _ _ _ _ _ _ _ F3 (g1.trans g3) M3 N3 hS3 i3 h4
  | ret i1 => exact k _ _ _ _ _ _ _ _ F1 g1 M1 N1 hS1 (.ret i1) h2)
theorem x_expr {K : AF → ANs → σ → Prop} {e : Expr} {p : Pos} (hp : plainE e = true) (h : JE den c (eval e c.env) l S fun _ S1 => K .nxt l S1) : JX den c (exec (.Expr e p) c.env) l S K := fun s Q E m n F M N hS k =>
 wpAny_Expr_any (h s _ E m n F M N hS fun x u S1 n1 h1 t1 F1 g1 N1 hS1 i1 h2 => k _ _ _ _ _ _ _ _ F1 g1 (M.mono g1) N1 hS1 .nxt h2) (by show (_ && _) = false; rw [show (c.env.scope.kind == ScopeKind.module) = false by show (cs.kind == ScopeKind.module) = false; rw [c.hk]; rfl]; rfl) (swap_plain hp)
theorem x_assign {K : AF → ANs → σ → Prop} {x : PySem.Str} {px p : Pos} {e : Expr} (hp : plainE e = true) (hx : isLoc cs x = true) (h : JE den c (eval e c.env) l S fun a S1 => K .nxt ((x, a) :: l) S1) : JX den c (exec (.Assign [.Name x px] e p) c.env) l S K := fun s Q E m n F M N hS k =>
 wpAny_Assign_Name (h s _ E m n F M N hS fun v u S1 n1 h1 t1 F1 g1 N1 hS1 i1 h2 => storeX_L F1 N1 (fun h3 F3 N3 => k _ _ _ _ _ _ _ _ F3 g1 ((M.mono g1).store i1) N3 hS1 .nxt h2) c.hk (isLoc_spec hx)) (swap_plain hp)
noncomputable abbrev SetK (den : σ → Led → Prop) (c : FD w d cs) (name : PySem.Str) (o v : AV) (l : ANs) (S : σ) (K : Unit → σ → Prop) : Prop := JO2 den c (fun _ (_ : Unit) (_ : Unit) => True) (fun o v => setAttr o name v) o v l S K
theorem x_assignA {K : AF → ANs → σ → Prop} {x : PySem.Str} {px : Pos} {o : AV} {e : Expr} {a : PySem.Str} {pa p : Pos} (hp : plainE e = true) (eo : alook cs l x = some o) (h : JE den c (eval e c.env) l S fun v S1 => SetK den c a o v l S1 fun _ S2 => K .nxt l S2) : JX den c (exec (.Assign [.Attribute (.Name x px) a pa] e p) c.env) l S K := fun s Q E m n F M N hS k => by
 refine xAA (alook_spec eo) fun q1 q2 q3 => ?_
 exact plainObj_wpAny_Assign_Attribute (h s _ E m n F M N hS fun v u S1 n1 h1 t1 F1 g1 N1 hS1 i1 h2 => by
  refine xEA ((M.mono g1) _ _ q3) fun ov hv hi => ?_
  exact nameX_L F1 hv (h2 _ _ E m n1 _ _ F1 (M.mono g1) N1 hS1 hi i1 fun z r S3 n3 h5 t5 F5 g5 N5 hS5 i5 h6 => k _ _ _ _ _ _ _ _ F5 (g1.trans g5) (M.mono (g1.trans g5)) N5 hS5 .nxt h6) c.hk q2 q1) (swap_plain hp)
theorem x_augA {K : AF → ANs → σ → Prop} {x : PySem.Str} {px : Pos} {o : AV} {e : Expr} {a : PySem.Str} {pa p : Pos} {op : Operator} (eo : alook cs l x = some o) (h : JO1 den c AV.Is (fun v => getAttr v a true) o l S fun old S1 => JE den c (eval e c.env) l S1 fun v S2 => JO2 den c AV.Is (inplaceOp op) old v l S2 fun z S3 => SetK den c a o z l S3 fun _ S4 => K .nxt l S4) : JX den c (exec (.AugAssign (.Attribute (.Name x px) a pa) op e p) c.env) l S K := fun s Q E m n F M N hS k => by
 refine xAA (alook_spec eo) fun q1 q2 q3 => ?_
 refine xEA (M _ _ q3) fun ov hv hi => ?_
 exact wpAny_AugAssign_AttributeAny (nameX_L F hv (h s _ E m n ov F M N hS hi fun y u S1 n1 h1 t1 F1 g1 N1 hS1 i1 h2 => h2 _ _ E m n1 F1 (M.mono g1) N1 hS1 fun y v S2 n2 h3 t3 F3 g3 N3 hS3 i3 h4 => h4 _ _ E m n2 _ _ F3 (M.mono (g1.trans g3)) N3 hS3 (i1.mono g3) i3 fun z r S3 n3 h5 t5 F5 g5 N5 hS5 i5 h6 => h6 _ _ E m n3 _ _ F5 (M.mono ((g1.trans g3).trans g5)) N5 hS5 (hi.mono ((g1.trans g3).trans g5)) i5 fun z r S4 n4 h7 t7 F7 g7 N7 hS7 i7 h8 => k _ _ _ _ _ _ _ _ F7 (((g1.trans g3).trans g5).trans g7) (M.mono (((g1.trans g3).trans g5).trans g7)) N7 hS7 .nxt h8) c.hk q2 q1)
theorem x_ret {K : AF → ANs → σ → Prop} {e : Expr} {p : Pos} {env : Env} (h : JE den c (eval e env) l S fun a S1 => K (.ret a) l S1) : JX den c (exec (.Return (some e) p) env) l S K := fun s Q E m n F M N hS k =>
 wpAny_Return_some (h s _ E m n F M N hS fun v u S1 n1 h1 t1 F1 g1 N1 hS1 i1 h2 => k _ _ _ _ _ _ _ _ F1 g1 (M.mono g1) N1 hS1 (.ret i1) h2)
theorem x_ret0 {K : AF → ANs → σ → Prop} {p : Pos} {env : Env} (h : K (.ret .n) l S) : JX den c (exec (.Return none p) env) l S K := fun s Q E m n F M N hS k => wpAny_Return_none (k _ _ _ _ _ _ _ _ F .refl M N hS (.ret .n) h)
theorem x_if {K : AF → ANs → σ → Prop} {e : Expr} {a b : List Stmt} {p : Pos} {env : Env} (h : JB den c (PySem.isTrue e env (eval e env)) l S fun t S1 => bif2 t (JX den c (execs a env) l S1 K) (JX den c (execs b env) l S1 K)) : JX den c (exec (.If e a b p) env) l S K := fun s Q E m n F M N hS k =>
 wpAny_If (h s _ E m n F M N hS fun t u S1 n1 h1 t1 F1 g1 N1 hS1 i1 h2 => by
  subst i1
  exact bif2_ite h2 (fun g => g _ _ E m n1 F1 (M.mono g1) N1 hS1 fun z b l2 S2 m2 n2 h3 t3 F3 g3 M3 N3 hS3 i3 h4 => k _ _ _ _ _ _ _ _ F3 (g1.trans g3) M3 N3 hS3 i3 h4) fun g => g _ _ E m n1 F1 (M.mono g1) N1 hS1 fun z b l2 S2 m2 n2 h3 t3 F3 g3 M3 N3 hS3 i3 h4 => k _ _ _ _ _ _ _ _ F3 (g1.trans g3) M3 N3 hS3 i3 h4)
theorem t_plain {K : Bool → σ → Prop} {e : Expr} {env : Env} (hp : testPlain e = true) (h : JE den c (eval e env) l S fun a S1 => JO1 den c (fun _ b v => b = v) truthy a l S1 K) : JB den c (PySem.isTrue e env (eval e env)) l S K := fun s Q E m n F M N hS k =>
 isTrue_plain (h s _ E m n F M N hS fun x u S1 n1 h1 t1 F1 g1 N1 hS1 i1 h2 => h2 _ _ E m n1 x F1 (M.mono g1) N1 hS1 i1 fun y v S2 n2 h3 t3 F3 g3 N3 hS3 i3 h4 => k _ _ _ _ _ _ F3 (g1.trans g3) N3 hS3 i3 h4) (by cases e <;> first | rfl | cases hp)
theorem t_cmp {K : Bool → σ → Prop} {a b : Expr} {op : CmpOp} {p : Pos} {env : Env} {wh : Sem Value} (hp : behindInMarks op b = false) (h : JE den c (eval a env) l S fun u S1 => JE den c (eval b env) l S1 fun v S2 => JO2 den c (fun _ (t : Bool) v => v = .bool t) (compareOp op) u v l S2 K) : JB den c (PySem.isTrue (.Compare a [op] [b] p) env wh) l S K := fun s Q E m n F M N hS k =>
 wpAny_isTrue_Compare1 (h s _ E m n F M N hS fun x u S1 n1 h1 t1 F1 g1 N1 hS1 i1 h2 => h2 _ _ E m n1 F1 (M.mono g1) N1 hS1 fun y v S2 n2 h3 t3 F3 g3 N3 hS3 i3 h4 => h4 _ _ E m n2 _ _ F3 (M.mono (g1.trans g3)) N3 hS3 (i1.mono g3) i3 fun z r S3 n3 h5 t5 F5 g5 N5 hS5 i5 h6 => by
  rw [i5]
  exact wpAny_truthy_bool (k _ _ _ _ _ _ F5 ((g1.trans g3).trans g5) N5 hS5 rfl h6)) hp
theorem t_not {K : Bool → σ → Prop} {e : Expr} {p : Pos} {env : Env} {wh : Sem Value} (h : JB den c (PySem.isTrue e env (eval e env)) l S fun b S1 => K (!b) S1) : JB den c (PySem.isTrue (.UnaryOp .Not e p) env wh) l S K := fun s Q E m n F M N hS k =>
 isTrue_not (h s _ E m n F M N hS fun b u S1 n1 h1 t1 F1 g1 N1 hS1 i1 h2 => k _ _ _ _ _ _ F1 g1 N1 hS1 (by rw [i1]) h2)
theorem t_and0 {K : Bool → σ → Prop} {p : Pos} {env : Env} {wh : Sem Value} (h : K true S) : JB den c (PySem.isTrue (.BoolOp .And [] p) env wh) l S K := fun s Q E m n F M N hS k => isTrue_and_nil (k _ _ _ _ _ _ F .refl N hS rfl h)
theorem t_or0 {K : Bool → σ → Prop} {p : Pos} {env : Env} {wh : Sem Value} (h : K false S) : JB den c (PySem.isTrue (.BoolOp .Or [] p) env wh) l S K := fun s Q E m n F M N hS k => isTrue_or_nil (k _ _ _ _ _ _ F .refl N hS rfl h)
theorem t_and {K : Bool → σ → Prop} {e : Expr} {r : List Expr} {p : Pos} {env : Env} {wh : Sem Value} (h : JB den c (PySem.isTrue e env (eval e env)) l S fun b S1 => bif2 b (JB den c (PySem.isTrue (.BoolOp .And r p) env wh) l S1 K) (K false S1)) : JB den c (PySem.isTrue (.BoolOp .And (e :: r) p) env wh) l S K := fun s Q E m n F M N hS k =>
 isTrue_and (h s _ E m n F M N hS fun b u S1 n1 h1 t1 F1 g1 N1 hS1 i1 h2 => by
  subst i1
  exact bif2_ite h2 (fun g => g _ _ E m n1 F1 (M.mono g1) N1 hS1 fun y v S2 n2 h3 t3 F3 g3 N3 hS3 i3 h4 => k _ _ _ _ _ _ F3 (g1.trans g3) N3 hS3 i3 h4) fun g => k _ _ _ _ _ _ F1 g1 N1 hS1 rfl g)
theorem t_or {K : Bool → σ → Prop} {e : Expr} {r : List Expr} {p : Pos} {env : Env} {wh : Sem Value} (h : JB den c (PySem.isTrue e env (eval e env)) l S fun b S1 => bif2 b (K true S1) (JB den c (PySem.isTrue (.BoolOp .Or r p) env wh) l S1 K)) : JB den c (PySem.isTrue (.BoolOp .Or (e :: r) p) env wh) l S K := fun s Q E m n F M N hS k =>
 isTrue_or (h s _ E m n F M N hS fun b u S1 n1 h1 t1 F1 g1 N1 hS1 i1 h2 => by
  subst i1
  exact bif2_ite h2 (fun g => k _ _ _ _ _ _ F1 g1 N1 hS1 rfl g) fun g => g _ _ E m n1 F1 (M.mono g1) N1 hS1 fun y v S2 n2 h3 t3 F3 g3 N3 hS3 i3 h4 => k _ _ _ _ _ _ F3 (g1.trans g3) N3 hS3 i3 h4)
theorem o_add {K : AV → σ → Prop} {a b : Int} (h : K (.i (a + b)) S) : JO2 den c AV.Is (binaryOp .Add) (.i a) (.i b) l S K := fun s Q E m n x y F M N hS i1 i2 k => by
 (first | obtain rfl := i1.inv | obtain ⟨_, rfl⟩ := i1.inv | cases i1); (first | obtain rfl := i2.inv | obtain ⟨_, rfl⟩ := i2.inv | cases i2); exact add_int (k _ _ _ _ _ _ F .refl N hS (.i _ _) h)
theorem o_sub {K : AV → σ → Prop} {a b : Int} (h : K (.i (a - b)) S) : JO2 den c AV.Is (binaryOp .Sub) (.i a) (.i b) l S K := fun s Q E m n x y F M N hS i1 i2 k => by
 (first | obtain rfl := i1.inv | obtain ⟨_, rfl⟩ := i1.inv | cases i1); (first | obtain rfl := i2.inv | obtain ⟨_, rfl⟩ := i2.inv | cases i2); exact sub_int (k _ _ _ _ _ _ F .refl N hS (.i _ _) h)
theorem o_isub {K : AV → σ → Prop} {a b : Int} (h : K (.i (a - b)) S) : JO2 den c AV.Is (inplaceOp .Sub) (.i a) (.i b) l S K := fun s Q E m n x y F M N hS i1 i2 k => by
 (first | obtain rfl := i1.inv | obtain ⟨_, rfl⟩ := i1.inv | cases i1); (first | obtain rfl := i2.inv | obtain ⟨_, rfl⟩ := i2.inv | cases i2); exact isub_int (k _ _ _ _ _ _ F .refl N hS (.i _ _) h)
theorem o_iadd {K : AV → σ → Prop} {a b : Int} (h : K (.i (a + b)) S) : JO2 den c AV.Is (inplaceOp .Add) (.i a) (.i b) l S K := fun s Q E m n x y F M N hS i1 i2 k => by
 (first | obtain rfl := i1.inv | obtain ⟨_, rfl⟩ := i1.inv | cases i1); (first | obtain rfl := i2.inv | obtain ⟨_, rfl⟩ := i2.inv | cases i2); exact iadd_int (k _ _ _ _ _ _ F .refl N hS (.i _ _) h)
theorem o_truthy {K : Bool → σ → Prop} {b : Bool} (h : K b S) : JO1 den c (fun _ (b v : Bool) => b = v) truthy (.b b) l S K := fun s Q E m n x F M N hS i1 k => by
 (first | obtain rfl := i1.inv | obtain ⟨_, rfl⟩ := i1.inv | cases i1); exact wpAny_truthy_bool (k _ _ _ _ _ _ F .refl N hS rfl h)
noncomputable abbrev CmpK (den : σ → Led → Prop) (c : FD w d cs) (op : CmpOp) (u v : AV) (l : ANs) (S : σ) (K : Bool → σ → Prop) : Prop := JO2 den c (fun _ (t : Bool) v => v = .bool t) (compareOp op) u v l S K
theorem o_eqI {K : Bool → σ → Prop} {a b : Int} (h : K (a == b) S) : CmpK den c .Eq (.i a) (.i b) l S K := fun s Q E m n x y F M N hS i1 i2 k => by (first | obtain rfl := i1.inv | obtain ⟨_, rfl⟩ := i1.inv | cases i1); (first | obtain rfl := i2.inv | obtain ⟨_, rfl⟩ := i2.inv | cases i2); exact eq_int (k _ _ _ _ _ _ F .refl N hS rfl h)
theorem o_eqS {K : Bool → σ → Prop} {a b : PySem.Str} (h : K (a == b) S) : CmpK den c .Eq (.s a) (.s b) l S K := fun s Q E m n x y F M N hS i1 i2 k => by (first | obtain rfl := i1.inv | obtain ⟨_, rfl⟩ := i1.inv | cases i1); (first | obtain rfl := i2.inv | obtain ⟨_, rfl⟩ := i2.inv | cases i2); exact eq_str (k _ _ _ _ _ _ F .refl N hS rfl h)
theorem o_neS {K : Bool → σ → Prop} {a b : PySem.Str} (h : K (a != b) S) : CmpK den c .NotEq (.s a) (.s b) l S K := fun s Q E m n x y F M N hS i1 i2 k => by (first | obtain rfl := i1.inv | obtain ⟨_, rfl⟩ := i1.inv | cases i1); (first | obtain rfl := i2.inv | obtain ⟨_, rfl⟩ := i2.inv | cases i2); exact ne_str (k _ _ _ _ _ _ F .refl N hS rfl h)
theorem o_ltI {K : Bool → σ → Prop} {a b : Int} (h : K (decide (a < b)) S) : CmpK den c .Lt (.i a) (.i b) l S K := fun s Q E m n x y F M N hS i1 i2 k => by (first | obtain rfl := i1.inv | obtain ⟨_, rfl⟩ := i1.inv | cases i1); (first | obtain rfl := i2.inv | obtain ⟨_, rfl⟩ := i2.inv | cases i2); exact lt_int (k _ _ _ _ _ _ F .refl N hS rfl h)
theorem o_gtI {K : Bool → σ → Prop} {a b : Int} (h : K (decide (a > b)) S) : CmpK den c .Gt (.i a) (.i b) l S K := fun s Q E m n x y F M N hS i1 i2 k => by (first | obtain rfl := i1.inv | obtain ⟨_, rfl⟩ := i1.inv | cases i1); (first | obtain rfl := i2.inv | obtain ⟨_, rfl⟩ := i2.inv | cases i2); exact gt_int (k _ _ _ _ _ _ F .refl N hS rfl h)
theorem o_geI {K : Bool → σ → Prop} {a b : Int} (h : K (decide (a ≥ b)) S) : CmpK den c .GtE (.i a) (.i b) l S K := fun s Q E m n x y F M N hS i1 i2 k => by (first | obtain rfl := i1.inv | obtain ⟨_, rfl⟩ := i1.inv | cases i1); (first | obtain rfl := i2.inv | obtain ⟨_, rfl⟩ := i2.inv | cases i2); exact ge_int (k _ _ _ _ _ _ F .refl N hS rfl h)
theorem o_isNN {K : Bool → σ → Prop} (h : K true S) : CmpK den c .Is .n .n l S K := fun s Q E m n x y F M N hS i1 i2 k => by (first | obtain rfl := i1.inv | obtain ⟨_, rfl⟩ := i1.inv | cases i1); (first | obtain rfl := i2.inv | obtain ⟨_, rfl⟩ := i2.inv | cases i2); exact is_none_none (k _ _ _ _ _ _ F .refl N hS rfl h)
theorem o_isRN {K : Bool → σ → Prop} {a : Addr} (h : K false S) : CmpK den c .Is (.r a) .n l S K := fun s Q E m n x y F M N hS i1 i2 k => by (first | obtain rfl := i1.inv | obtain ⟨_, rfl⟩ := i1.inv | cases i1); (first | obtain rfl := i2.inv | obtain ⟨_, rfl⟩ := i2.inv | cases i2); exact is_ref_none (k _ _ _ _ _ _ F .refl N hS rfl h)
end
inductive PIs (n : Led) : ANs → Nms → Prop
 | nil : PIs n [] []
 | cons {x : PySem.Str} {a : AV} {v : Value} {l : ANs} {r : Nms} : a.Is n v → PIs n l r → PIs n ((x, a) :: l) ((x, v) :: r)
theorem PIs.app {n : Led} : ∀ {l l' : ANs} {r r' : Nms}, PIs n l r → PIs n l' r' → PIs n (l ++ l') (r ++ r')
 | _, _, _, _, .nil, h => h
 | _, _, _, _, .cons a h, g => .cons a (h.app g)
theorem PIs.rev {n : Led} : ∀ {l : ANs} {r : Nms}, PIs n l r → PIs n l.reverse r.reverse
 | _, _, .nil => .nil
 | _, _, .cons a h => by
  rw [List.reverse_cons, List.reverse_cons]
  exact h.rev.app (.cons a .nil)
theorem PIs.zip {n : Led} : ∀ (xs : List PySem.Str) {as : List AV} {vs : List Value}, LIs n as vs → PIs n (xs.zip as) (xs.zip vs)
 | [], _, _, _ => .nil
 | _ :: _, _, _, .nil => .nil
 | _ :: xs, _, _, .cons h r => .cons h (PIs.zip xs r)
theorem PIs.names {n : Led} : ∀ {l : ANs} {r : Nms}, PIs n l r → Names n l (mp r)
 | _, _, .nil => fun _ _ e => nomatch e
 | _, _, .cons (x := x) (a := a) (v := v) h r => by
  have := r.names.store (x := x) h
  rw [mp_store] at this
  exact this
noncomputable def retA : AF → AV
 | .ret a => a
 | .nxt => .n
theorem jc_body {w : World} {d : Nat} {σ : Type} {den : σ → Led → Prop} {f : Addr} {as : List AV} {S : σ} {K : AV → σ → Prop} {oc : Value} {an od : Option Addr} {osl : Array (Option Value)} {name qual : PySem.Str} {params : Arguments} {body : List Stmt} {scope : Scope} {dV kV doc pm cdv ct : Value} (xs : List PySem.Str)
  (ho : (hd.heap_1 w.params).lookup f = some ⟨oc, od, .func (fnOf name qual params body scope dV kV doc pm an cdv ct), osl⟩) (hcd : codeIn (hd.heap_1 w.params) cdv qual = true) (hb : ∀ (s : Shared) vs, (hd.heap_1 w.params).In s.heap → vs.length = as.length → BindsTo s (fnOf name qual params body scope dV kV doc pm an cdv ct) ⟨vs, []⟩ (xs.zip vs)) (hl : (xs.all fun x => decide (scope.names.lookup x = some .local)) = true) (hs : scopeOk scope = true)
  (h : ∀ c : FD w d scope, JX den c (execs body c.env) (xs.zip as).reverse S fun fl _ S' => K (retA fl) S') : JC den w (d + 1) f as S K := fun n vs hS hi => by
 have hlen := hi.len
 refine Spec.ofBodyG ho hcd (fun s hx => hb s vs hx hlen) (List.all_eq_true.mpr fun p hp => List.all_eq_true.mp hl _ (List.of_mem_zip hp).1) hs fun c s Q E F N k => ?_
 refine h c s Q E _ n F ?_ N hS fun v b l' S' m' n' h' tk' F' g M' N' hS' i' hk => ?_
 ·exact (PIs.zip xs hi).rev.names
 ·refine k _ _ _ _ _ F' N' ⟨g, ?_⟩
  cases i' with
  | nxt => exact ⟨_, _, hS', .n, hk⟩
  | ret i' => exact ⟨_, _, hS', i', hk⟩
theorem len1 {α : Type} {P : List α → Prop} (k : ∀ a, P [a]) : ∀ {vs : List α}, vs.length = 1 → P vs
 | [_], _ => k _
theorem len2 {α : Type} {P : List α → Prop} (k : ∀ a b, P [a, b]) : ∀ {vs : List α}, vs.length = 2 → P vs
 | [_, _], _ => k _ _
theorem len3 {α : Type} {P : List α → Prop} (k : ∀ a b c, P [a, b, c]) : ∀ {vs : List α}, vs.length = 3 → P vs
 | [_, _, _], _ => k _ _ _
theorem jc_body1 {w : World} {d : Nat} {σ : Type} {den : σ → Led → Prop} {f : Addr} {S : σ} {K : AV → σ → Prop} {oc : Value} {an od : Option Addr} {osl : Array (Option Value)} {name qual : PySem.Str} {params : Arguments} {body : List Stmt} {scope : Scope} {dV kV doc pm cdv ct : Value} {a1 : AV} (x1 : PySem.Str)
  (ho : (hd.heap_1 w.params).lookup f = some ⟨oc, od, .func (fnOf name qual params body scope dV kV doc pm an cdv ct), osl⟩) (hcd : codeIn (hd.heap_1 w.params) cdv qual = true) (hb : ∀ s v1, BindsTo s (fnOf name qual params body scope dV kV doc pm an cdv ct) ⟨[v1], []⟩ [(x1, v1)]) (hl : ([x1].all fun x => decide (scope.names.lookup x = some .local)) = true) (hs : scopeOk scope = true)
  (h : ∀ c : FD w d scope, JX den c (execs body c.env) [(x1, a1)] S fun fl _ S' => K (retA fl) S') : JC den w (d + 1) f [a1] S K :=
 jc_body [x1] ho hcd (fun s vs _ hl => len1 (P := fun vs => BindsTo s (fnOf name qual params body scope dV kV doc pm an cdv ct) ⟨vs, []⟩ ([x1].zip vs)) (hb s) hl) hl hs h
theorem jc_body2 {w : World} {d : Nat} {σ : Type} {den : σ → Led → Prop} {f : Addr} {S : σ} {K : AV → σ → Prop} {oc : Value} {an od : Option Addr} {osl : Array (Option Value)} {name qual : PySem.Str} {params : Arguments} {body : List Stmt} {scope : Scope} {dV kV doc pm cdv ct : Value} {a1 a2 : AV} (x1 x2 : PySem.Str)
  (ho : (hd.heap_1 w.params).lookup f = some ⟨oc, od, .func (fnOf name qual params body scope dV kV doc pm an cdv ct), osl⟩) (hcd : codeIn (hd.heap_1 w.params) cdv qual = true) (hb : ∀ s v1 v2, BindsTo s (fnOf name qual params body scope dV kV doc pm an cdv ct) ⟨[v1, v2], []⟩ [(x1, v1), (x2, v2)]) (hl : ([x1, x2].all fun x => decide (scope.names.lookup x = some .local)) = true) (hs : scopeOk scope = true)
  (h : ∀ c : FD w d scope, JX den c (execs body c.env) [(x2, a2), (x1, a1)] S fun fl _ S' => K (retA fl) S') : JC den w (d + 1) f [a1, a2] S K :=
 jc_body [x1, x2] ho hcd (fun s vs _ hl => len2 (P := fun vs => BindsTo s (fnOf name qual params body scope dV kV doc pm an cdv ct) ⟨vs, []⟩ ([x1, x2].zip vs)) (hb s) hl) hl hs h
theorem jc_body3 {w : World} {d : Nat} {σ : Type} {den : σ → Led → Prop} {f : Addr} {S : σ} {K : AV → σ → Prop} {oc : Value} {an od : Option Addr} {osl : Array (Option Value)} {name qual : PySem.Str} {params : Arguments} {body : List Stmt} {scope : Scope} {dV kV doc pm cdv ct : Value} {a1 a2 a3 : AV} (x1 x2 x3 : PySem.Str)
  (ho : (hd.heap_1 w.params).lookup f = some ⟨oc, od, .func (fnOf name qual params body scope dV kV doc pm an cdv ct), osl⟩) (hcd : codeIn (hd.heap_1 w.params) cdv qual = true) (hb : ∀ s v1 v2 v3, BindsTo s (fnOf name qual params body scope dV kV doc pm an cdv ct) ⟨[v1, v2, v3], []⟩ [(x1, v1), (x2, v2), (x3, v3)]) (hl : ([x1, x2, x3].all fun x => decide (scope.names.lookup x = some .local)) = true) (hs : scopeOk scope = true)
  (h : ∀ c : FD w d scope, JX den c (execs body c.env) [(x3, a3), (x2, a2), (x1, a1)] S fun fl _ S' => K (retA fl) S') : JC den w (d + 1) f [a1, a2, a3] S K :=
 jc_body [x1, x2, x3] ho hcd (fun s vs _ hl => len3 (P := fun vs => BindsTo s (fnOf name qual params body scope dV kV doc pm an cdv ct) ⟨vs, []⟩ ([x1, x2, x3].zip vs)) (hb s) hl) hl hs h
theorem jc_body3X {w : World} {d : Nat} {σ : Type} {den : σ → Led → Prop} {f : Addr} {S : σ} {K : AV → σ → Prop} {oc : Value} {an od : Option Addr} {osl : Array (Option Value)} {name qual : PySem.Str} {params : Arguments} {body : List Stmt} {scope : Scope} {dV kV doc pm cdv ct : Value} {a1 a2 a3 : AV} (x1 x2 x3 : PySem.Str)
  (ho : (hd.heap_1 w.params).lookup f = some ⟨oc, od, .func (fnOf name qual params body scope dV kV doc pm an cdv ct), osl⟩) (hcd : codeIn (hd.heap_1 w.params) cdv qual = true) (hb : ∀ (s : Shared) v1 v2 v3, (hd.heap_1 w.params).In s.heap → BindsTo s (fnOf name qual params body scope dV kV doc pm an cdv ct) ⟨[v1, v2, v3], []⟩ [(x1, v1), (x2, v2), (x3, v3)]) (hl : ([x1, x2, x3].all fun x => decide (scope.names.lookup x = some .local)) = true) (hs : scopeOk scope = true)
  (h : ∀ c : FD w d scope, JX den c (execs body c.env) [(x3, a3), (x2, a2), (x1, a1)] S fun fl _ S' => K (retA fl) S') : JC den w (d + 1) f [a1, a2, a3] S K :=
 jc_body [x1, x2, x3] ho hcd (fun s vs hx hl => len3 (P := fun vs => BindsTo s (fnOf name qual params body scope dV kV doc pm an cdv ct) ⟨vs, []⟩ ([x1, x2, x3].zip vs)) (fun a b c => hb s a b c hx) hl) hl hs h
end Mine
end
section
open PySem PySem.W PyProof.Rows PySem.Calls
namespace Mine
structure TX where
 A : TA
 text : List Nat
 closed : Bool
 ne : Nat
 base : Led
 dr : Value → Option Dr → Led → Prop
 nt : ∀ {v : Value} {o : Option Dr} {dl : Led}, dr v o dl → ∀ {a : Addr} {k : Nat} {vs : List Value}, (a, ({ cls := .type "tuple", data := .seq (List.toArray vs) k } : Obj)) ∈ dl → False
structure TokG (X : TX) (c : Cfg) (v : TV) (dl rest : Led) : Prop where
 signs : StrsAre v.signs (X.text.map fun c => chS c)
 closed : v.closed = X.closed
 serl : v.serrs.length ≤ X.ne
 outs : DatAll rest v.outs c.out
 ers : DatAll rest v.ers c.errs
 pos : v.pos = c.pos
 state : v.state = stS c.st
 back : v.back = backS c.back
 buf : v.buf = xS c.buf
 code : v.code = c.code
 last : v.last = xS c.last
 wait : v.waiting = c.wait
 done : v.done = c.done
 draft : X.dr v.draft c.draft dl
 offL : ∀ p ∈ dl, ∀ q ∈ rest, p.1 ≠ q.1
 offT : OffT X.A (dl ++ rest)
 nolO : ∀ d ∈ c.out, noL 4 d = true
 nolE : ∀ d ∈ c.errs, noL 4 d = true
theorem nol_app {l m : List Dat} (h : ∀ d ∈ l, noL 4 d = true) (g : ∀ d ∈ m, noL 4 d = true) : ∀ d ∈ l ++ m, noL 4 d = true := fun d hd => (List.mem_append.mp hd).elim (h d) (g d)
theorem nol_one {x : Dat} (h : noL 4 x = true) : ∀ d ∈ [x], noL 4 d = true := fun d hd => by rw [List.mem_singleton.mp hd]; exact h
theorem TokG.grow {X : TX} {c : Cfg} {v : TV} {dl rest new : Led} (T : TokG X c v dl rest) (N : NewT X.A new (dl ++ rest)) : TokG X c v dl (new ++ rest) :=
 { T with
  outs := T.outs.mono fun p hp => mem_ends hp
  ers := T.ers.mono fun p hp => mem_ends hp
  offL := fun p hp q hq => by
   rcases List.mem_append.mp hq with hq | hq
   ·exact Nat.ne_of_lt (N.gt q hq p (mem_left hp))
   ·exact T.offL p hp q hq
  offT := offT_perm (fun p hp => perm3 (X := []) p hp) (N.offR T.offT) }
noncomputable def tsD (X : TX) (cf : Cfg) (n : Led) : Prop := ∃ K v dl rest, n = tokLed X.A K v ++ (dl ++ rest) ∧ X.A.chain ∧ TokG X cf v dl rest ∧ ∀ p ∈ X.base, p ∈ rest
noncomputable def avDat : AV → Option Dat
 | .i z => some (.int z)
 | .s x => some (.str x)
 | .b t => some (.bool t)
 | .n => some .none
 | .d x => some x
 | _ => none
noncomputable def avDats : List AV → Option (List Dat)
 | [] => some []
 | a :: as => match avDat a, avDats as with
  | some x, some xs => some (x :: xs)
  | _, _ => none
theorem avDat_in {n : Led} {a : AV} {x : Dat} {v : Value} (e : avDat a = some x) (h : a.Is n v) : DatIn n v x := by
 cases h <;> cases e
 ·exact .int _ _
 ·exact .str _ _
 ·exact .bool _
 ·exact .none
 ·assumption
theorem avDats_in {n : Led} : ∀ {as : List AV} {ds : List Dat} {vs : List Value}, avDats as = some ds → LIs n as vs → DatAll n vs ds
 | [], _, _, e, .nil => by cases e; exact .nil
 | a :: as, _, _, e, .cons h r => by
  unfold avDats at e
  split at e
  ·rename_i h1 h2
   cases e
   exact .cons (avDat_in h1 h) (avDats_in h2 r)
  ·cases e
section
variable {w : World} {d : Nat} {cs : Scope} {c : FD w d cs} {l : ANs} {X : TX} {cf : Cfg}
theorem ts_gro {A : TA} {K K' : TK} {v v' : TV} {dl rest : Led} : Gro (tokLed A K v ++ (dl ++ rest)) (tokLed A K' v' ++ (dl ++ rest)) := fun a k vs h => by
 rcases List.mem_append.mp h with h | h
 ·exfalso
  simp only [tokLed, List.mem_cons, List.not_mem_nil, or_false, Prod.mk.injEq] at h
  rcases h with ⟨_, h⟩ | ⟨_, h⟩ | ⟨_, h⟩ | ⟨_, h⟩ | ⟨_, h⟩ | ⟨_, h⟩ | ⟨_, h⟩ | ⟨_, h⟩
  all_goals (have := congrArg Obj.cls h; simp at this)
 ·exact List.mem_append.mpr (.inr h)
noncomputable def cfGet (X : TX) (cf : Cfg) (x : PySem.Str) : Option AV :=
 lk [(ofString "at", .i cf.pos), (ofString "state", .s (stS cf.st)), (ofString "back", .s (backS cf.back)), (ofString "buffer", .s (xS cf.buf)), (ofString "code", .i cf.code), (ofString "last", .s (xS cf.last)), (ofString "is_waiting", .b cf.wait), (ofString "is_done", .b cf.done), (ofString "out", .r X.A.ou), (ofString "errors", .r X.A.er), (ofString "states", .r X.A.sa), (ofString "stream", .r X.A.s)] x
theorem s_getG {K : AV → Cfg → Prop} {x : PySem.Str} {a : AV} (h : K a cf) (g : ∀ v dl rest, TokG X cf v dl rest → ∃ val, tokGet X.A v x = some val ∧ handedIn val = true ∧ ∀ n, a.Is n val) : JO1 (tsD X) c AV.Is (fun v => getAttr v x true) (.r X.A.t) l cf K := fun s Q E m n y F M N hS i k => by
 (first | obtain rfl := i.inv | obtain ⟨_, rfl⟩ := i.inv | cases i)
 refine xEEEEAAA hS fun TK0 v dl rest zq2 hA T hb => ?_
 subst zq2
 refine xEAA (g v dl rest T) fun val e1 e2 e3 => ?_
 exact get_359 F c.X N (.head _) (.tail _ (.head _)) (tok_fa e1) (tokGet_spec TK0 e1) e2 (k _ _ _ _ _ _ F .refl N ⟨TK0, v, dl, rest, rfl, hA, T, hb⟩ (e3 _) h)
theorem s_get {K : AV → Cfg → Prop} {x : PySem.Str} {a : AV} (e : cfGet X cf x = some a) (h : K a cf) : JO1 (tsD X) c AV.Is (fun v => getAttr v x true) (.r X.A.t) l cf K := by
 refine s_getG h fun v dl rest T => ?_
 exact lk_al (P := fun x a => ∃ val, tokGet X.A v x = some val ∧ handedIn val = true ∧ ∀ n, AV.Is n a val) e
  ⟨⟨.int v.pos v.posT, rfl, rfl, fun n => by rw [T.pos]; exact .i _ _⟩,
  ⟨.str v.state v.stateT, rfl, rfl, fun n => by rw [T.state]; exact .s _ _⟩,
  ⟨.str v.back v.backT, rfl, rfl, fun n => by rw [T.back]; exact .s _ _⟩,
  ⟨.str v.buf v.bufT, rfl, rfl, fun n => by rw [T.buf]; exact .s _ _⟩,
  ⟨.int v.code v.codeT, rfl, rfl, fun n => by rw [T.code]; exact .i _ _⟩,
  ⟨.str v.last v.lastT, rfl, rfl, fun n => by rw [T.last]; exact .s _ _⟩,
  ⟨.bool v.waiting, rfl, rfl, fun n => by rw [T.wait]; exact .b _⟩,
  ⟨.bool v.done, rfl, rfl, fun n => by rw [T.done]; exact .b _⟩,
  ⟨_, rfl, rfl, fun n => .r _⟩, ⟨_, rfl, rfl, fun n => .r _⟩, ⟨_, rfl, rfl, fun n => .r _⟩, ⟨_, rfl, rfl, fun n => .r _⟩, trivial⟩
theorem s_setG {K : Unit → Cfg → Prop} {x : PySem.Str} {a : AV} {cf' : Cfg} (h : K () cf') (g : ∀ v dl rest n val, TokG X cf v dl rest → a.Is n val → ∃ v', tokSet v x val = some v' ∧ TokG X cf' v' dl rest) : SetK (tsD X) c x (.r X.A.t) a l cf K := fun s Q E m n y z F M N hS i1 i2 k => by
 (first | obtain rfl := i1.inv | obtain ⟨_, rfl⟩ := i1.inv | cases i1)
 refine xEEEEAAA hS fun TK0 v dl rest zq3 hA T hb => ?_
 subst zq3
 refine xEA (g v dl rest _ z T i2) fun v' e1 T' => ?_
 exact tset_raw ⟨hA, T.offT⟩ e1 F N fun h' tk' F' N' => k _ _ _ _ _ _ F' ts_gro N' ⟨TK0, v', dl, rest, rfl, hA, T', hb⟩ trivial h
theorem s_setState {K : Unit → Cfg → Prop} {k : Nat} (h : K () { cf with st := k }) : SetK (tsD X) c (ofString "state") (.r X.A.t) (.s (stS k)) l cf K := s_setG h fun v dl rest n val T i => by (first | obtain rfl := i.inv | obtain ⟨_, rfl⟩ := i.inv | cases i); exact ⟨_, rfl, { T with state := rfl }⟩
theorem s_setWait {K : Unit → Cfg → Prop} {b : Bool} (h : K () { cf with wait := b }) : SetK (tsD X) c (ofString "is_waiting") (.r X.A.t) (.b b) l cf K := s_setG h fun v dl rest n val T i => by (first | obtain rfl := i.inv | obtain ⟨_, rfl⟩ := i.inv | cases i); exact ⟨_, rfl, { T with wait := rfl }⟩
theorem s_setDone {K : Unit → Cfg → Prop} {b : Bool} (h : K () { cf with done := b }) : SetK (tsD X) c (ofString "is_done") (.r X.A.t) (.b b) l cf K := s_setG h fun v dl rest n val T i => by (first | obtain rfl := i.inv | obtain ⟨_, rfl⟩ := i.inv | cases i); exact ⟨_, rfl, { T with done := rfl }⟩
theorem s_setAt {K : Unit → Cfg → Prop} {z : Int} {k : Nat} (e : z = (k : Int)) (h : K () { cf with pos := k }) : SetK (tsD X) c (ofString "at") (.r X.A.t) (.i z) l cf K := s_setG h fun v dl rest n val T i => by (first | obtain rfl := i.inv | obtain ⟨_, rfl⟩ := i.inv | cases i); exact ⟨_, rfl, { T with pos := e }⟩
theorem s_setBuf {K : Unit → Cfg → Prop} {x : PySem.Str} {k : List Nat} (e : x = xS k) (h : K () { cf with buf := k }) : SetK (tsD X) c (ofString "buffer") (.r X.A.t) (.s x) l cf K := s_setG h fun v dl rest n val T i => by (first | obtain rfl := i.inv | obtain ⟨_, rfl⟩ := i.inv | cases i); exact ⟨_, rfl, { T with buf := e }⟩
theorem s_setBack {K : Unit → Cfg → Prop} {k : Nat} (h : K () { cf with back := k }) : SetK (tsD X) c (ofString "back") (.r X.A.t) (.s (backS k)) l cf K := s_setG h fun v dl rest n val T i => by (first | obtain rfl := i.inv | obtain ⟨_, rfl⟩ := i.inv | cases i); exact ⟨_, rfl, { T with back := rfl }⟩
theorem s_setCode {K : Unit → Cfg → Prop} {z : Int} (h : K () { cf with code := z }) : SetK (tsD X) c (ofString "code") (.r X.A.t) (.i z) l cf K := s_setG h fun v dl rest n val T i => by (first | obtain rfl := i.inv | obtain ⟨_, rfl⟩ := i.inv | cases i); exact ⟨_, rfl, { T with code := rfl }⟩
theorem s_setLast {K : Unit → Cfg → Prop} {x : PySem.Str} {k : List Nat} (e : x = xS k) (h : K () { cf with last := k }) : SetK (tsD X) c (ofString "last") (.r X.A.t) (.s x) l cf K := s_setG h fun v dl rest n val T i => by (first | obtain rfl := i.inv | obtain ⟨_, rfl⟩ := i.inv | cases i); exact ⟨_, rfl, { T with last := e }⟩
theorem tok_none {A : TA} {K K' : TK} {v v' : TV} {name : PySem.Str} (h : getL name (tokEs A K v) = some none) : getL name (tokEs A K' v') = some none := by
 unfold getL at h ⊢
 have e1 : ∀ (K : TK) (v : TV), (tokEs A K v).find? (·.key.isStr name) = none ↔ ∀ x ∈ (["states", "stream", "at", "state", "back", "out", "errors", "draft", "buffer", "code", "last", "is_foreign", "is_waiting", "is_done"] : List String), (ofString x == name) = false := fun K v => by
  rw [List.find?_eq_none]
  simp [tokEs, Value.isStr]
 have e2 : ∀ (K : TK) (v : TV), (tokEs A K v).any (·.refKey) = false := fun K v => rfl
 cases q : (tokEs A K v).find? (·.key.isStr name) with
 | some x => rw [q] at h; cases h
 | none =>
  have := (e1 K' v').mpr ((e1 K v).mp q)
  rw [this, e2]
  rfl
theorem s_meth {name : PySem.Str} {f : Addr} (hf : findIn (hd.heap_1 w.params) (.ref 359) name = some (some (.ref f))) (ht : isFn (hd.heap_1 w.params) (.ref f) = true) (hn : getL name (tokEs X.A ⟨fun _ => 0, fun _ => 0, 0⟩ ⟨[], 0, [], 0, 0, 0, ⟨#[]⟩, 0, ⟨#[]⟩, 0, .none, ⟨#[]⟩, 0, 0, 0, ⟨#[]⟩, 0, false, false, [], 0, [], 0, false⟩) = some none) : Meth (tsD X) c cf X.A.t name f := fun s Q E m n pl F N hS h => by
 refine xEEEEAAA hS fun TK0 v dl rest zq4 hA T hb => ?_
 subst zq4
 exact meth_359 F c.X N (.head _) (.tail _ (.head _)) hf ht (tok_none hn) h
theorem dr_tup {v : Value} {o : Option Dr} {dl : Led} (h : DrAt v o dl) {a : Addr} {k : Nat} {vs : List Value} (hm : (a, ({ cls := .type "tuple", data := .seq (List.toArray vs) k } : Obj)) ∈ dl) : False := by
 cases h with
 | none => exact nomatch hm
 | noval D K2 k3 kind name q1 q2 =>
  simp only [List.mem_cons, List.not_mem_nil, or_false, Prod.mk.injEq] at hm
  rcases hm with ⟨_, h⟩ | ⟨_, h⟩ | ⟨_, h⟩
  all_goals (have := congrArg Obj.cls h; simp at this)
 | val D K2 k3 k4 u1 u3 kind name xs q1 q2 q3 =>
  simp only [List.mem_cons, List.not_mem_nil, or_false, Prod.mk.injEq] at hm
  rcases hm with ⟨_, h⟩ | ⟨_, h⟩ | ⟨_, h⟩ | ⟨_, h⟩
  all_goals (have := congrArg Obj.cls h; simp at this)
theorem ts_tup {A : TA} {K : TK} {v : TV} {dl rest : Led} (hd : ∀ {a : Addr} {k : Nat} {vs : List Value}, (a, ({ cls := .type "tuple", data := .seq (List.toArray vs) k } : Obj)) ∈ dl → False) {a : Addr} {k : Nat} {vs : List Value} (hm : (a, ({ cls := .type "tuple", data := .seq (List.toArray vs) k } : Obj)) ∈ tokLed A K v ++ (dl ++ rest)) : (a, ({ cls := .type "tuple", data := .seq (List.toArray vs) k } : Obj)) ∈ rest := by
 rcases List.mem_append.mp hm with h | h
 ·exfalso
  simp only [tokLed, List.mem_cons, List.not_mem_nil, or_false, Prod.mk.injEq] at h
  rcases h with ⟨_, h⟩ | ⟨_, h⟩ | ⟨_, h⟩ | ⟨_, h⟩ | ⟨_, h⟩ | ⟨_, h⟩ | ⟨_, h⟩ | ⟨_, h⟩
  all_goals (have := congrArg Obj.cls h; simp at this)
 ·rcases List.mem_append.mp h with h | h
  ·exact (hd h).elim
  ·exact h
noncomputable def OutK (a : AV) (cf : Cfg) (K : AV → Cfg → Prop) : Prop := match a with
 | .d x => cf.out.length ≤ 100000 ∧ K .n { cf with out := cf.out ++ [x] }
 | _ => False
noncomputable def ErrK (a : AV) (cf : Cfg) (K : AV → Cfg → Prop) : Prop := match a with
 | .d x => cf.errs.length ≤ 100000 ∧ K .n { cf with errs := cf.errs ++ [x] }
 | _ => False
theorem k_out {K : AV → Cfg → Prop} {x : Dat} (hz : cf.out.length ≤ 100000) (h : K .n { cf with out := cf.out ++ [x] }) : OutK (.d x) cf K := ⟨hz, h⟩
theorem k_err {K : AV → Cfg → Prop} {x : Dat} (hz : cf.errs.length ≤ 100000) (h : K .n { cf with errs := cf.errs ++ [x] }) : ErrK (.d x) cf K := ⟨hz, h⟩
theorem s_out {K : AV → Cfg → Prop} {x : PySem.Str} {xp bp apos p : Pos} {e0 : Expr} (hp : methOk [e0] apos p = true) (e : alook cs l x = some (.r X.A.t)) (h : JE (tsD X) c (eval e0 c.env) l cf fun a cf1 => OutK a cf1 K) : JE (tsD X) c (eval (.Call (.Attribute (.Attribute (.Name x xp) (ofString "out") bp) (ofString "append") apos) [e0] [] p) c.env) l cf K := fun s Q E m n F M N hS k => by
 have hp' := hp
 unfold methOk at hp'
 simp only [List.all_cons, Bool.and_eq_true] at hp'
 refine MethodCall_ (pl := (do return (← importBound (.Attribute (.Name x xp) (ofString "out") bp) c.env).getD true)) ?_
  (by show (eval (.Attribute (.Name x xp) (ofString "out") bp) c.env >>= fun ov => standAt apos.atName >>= fun _ => methodCall _ _ _ _ _ _ _ _ _) = _; simp only [meth_form hp])
 refine e_attr e (s_get (K := fun a cf1 => a = .r X.A.ou ∧ cf1 = cf) rfl ⟨rfl, rfl⟩) s _ E m n F M N hS fun v b S1 n1 h1 t1 F1 g1 N1 hS1 i1 hk => ?_
 obtain ⟨rfl, rfl⟩ := hk
 (first | obtain rfl := i1.inv | obtain ⟨_, rfl⟩ := i1.inv | cases i1)
 refine xEEEEAAA (id hS1) fun TK0 v dl rest zq5 hA T hb => ?_
 subst zq5
 refine listMethod_K N1 (.tail _ (.tail _ (.tail _ (.tail _ (.tail _ (.tail _ (.head _))))))) slot_list_append rfl ?_
 refine callWith_method1 (l_cons hp'.1.1.1 (K := fun as cf2 => ∃ a, as = [a] ∧ OutK a cf2 K) (fun s Q E m n F M N hS k => h s Q E m n F M N hS fun v b S' n' h' tk' F' g N' hS' i' hk => k v b S' n' h' tk' F' g N' hS' i' (l_nil ⟨_, rfl, hk⟩)) _ _ E m _ F1 (M.mono g1) N1 hS1 fun vs as S2 n2 h3 t3 F3 g3 N3 hS3 i3 hk => ?_) (star_plain hp'.1.1.1) (noStars _ _ _ rfl)
 obtain ⟨a, rfl, hk⟩ := hk
 cases i3 using LIs.cons_elim with
 | @cons y0 _ i3 i4 =>
  (first | obtain rfl := i4.inv | obtain ⟨_, rfl⟩ := i4.inv | cases i4)
  cases i3 with
  | @d x0 _ hd hn =>
   obtain ⟨TK1, v1, dl1, rest1, rfl, hA1, T1, hb1⟩ := hS3
   refine append_L F3 N3 (upd_ou ⟨hA1, T1.offT⟩) (by rw [T1.outs.length]; exact hk.1) fun h' F' N' => ?_
   refine k _ _ { S2 with out := S2.out ++ [x0] } (tokLed X.A TK1 { v1 with outs := v1.outs ++ [y0], outN := v1.outN + 1 } ++ (dl1 ++ rest1)) _ _ F' ((g1.trans g3).trans ts_gro) N' ⟨TK1, { v1 with outs := v1.outs ++ [y0], outN := v1.outN + 1 }, dl1, rest1, rfl, hA1, { T1 with outs := T1.outs.append (.one (Mine.DatIn.off (fun a k vs q => ts_tup (X.nt T1.draft) q) 4 hd hn)), nolO := nol_app T1.nolO (nol_one hn) }, hb1⟩ .n hk.2
  | i => exact hk.elim
  | s => exact hk.elim
  | b => exact hk.elim
  | n => exact hk.elim
  | r => exact hk.elim
  | v => exact hk.elim
  | t => exact hk.elim
theorem s_err {K : AV → Cfg → Prop} {x : PySem.Str} {xp bp apos p : Pos} {e0 : Expr} (hp : methOk [e0] apos p = true) (e : alook cs l x = some (.r X.A.t)) (h : JE (tsD X) c (eval e0 c.env) l cf fun a cf1 => ErrK a cf1 K) : JE (tsD X) c (eval (.Call (.Attribute (.Attribute (.Name x xp) (ofString "errors") bp) (ofString "append") apos) [e0] [] p) c.env) l cf K := fun s Q E m n F M N hS k => by
 have hp' := hp
 unfold methOk at hp'
 simp only [List.all_cons, Bool.and_eq_true] at hp'
 refine MethodCall_ (pl := (do return (← importBound (.Attribute (.Name x xp) (ofString "errors") bp) c.env).getD true)) ?_
  (by show (eval (.Attribute (.Name x xp) (ofString "errors") bp) c.env >>= fun ov => standAt apos.atName >>= fun _ => methodCall _ _ _ _ _ _ _ _ _) = _; simp only [meth_form hp])
 refine e_attr e (s_get (K := fun a cf1 => a = .r X.A.er ∧ cf1 = cf) rfl ⟨rfl, rfl⟩) s _ E m n F M N hS fun v b S1 n1 h1 t1 F1 g1 N1 hS1 i1 hk => ?_
 obtain ⟨rfl, rfl⟩ := hk
 (first | obtain rfl := i1.inv | obtain ⟨_, rfl⟩ := i1.inv | cases i1)
 refine xEEEEAAA (id hS1) fun TK0 v dl rest zq6 hA T hb => ?_
 subst zq6
 refine listMethod_K N1 (.tail _ (.tail _ (.tail _ (.tail _ (.tail _ (.tail _ (.tail _ (.head _)))))))) slot_list_append rfl ?_
 refine callWith_method1 (l_cons hp'.1.1.1 (K := fun as cf2 => ∃ a, as = [a] ∧ ErrK a cf2 K) (fun s Q E m n F M N hS k => h s Q E m n F M N hS fun v b S' n' h' tk' F' g N' hS' i' hk => k v b S' n' h' tk' F' g N' hS' i' (l_nil ⟨_, rfl, hk⟩)) _ _ E m _ F1 (M.mono g1) N1 hS1 fun vs as S2 n2 h3 t3 F3 g3 N3 hS3 i3 hk => ?_) (star_plain hp'.1.1.1) (noStars _ _ _ rfl)
 obtain ⟨a, rfl, hk⟩ := hk
 cases i3 using LIs.cons_elim with
 | @cons y0 _ i3 i4 =>
  (first | obtain rfl := i4.inv | obtain ⟨_, rfl⟩ := i4.inv | cases i4)
  cases i3 with
  | @d x0 _ hd hn =>
   obtain ⟨TK1, v1, dl1, rest1, rfl, hA1, T1, hb1⟩ := hS3
   refine append_L F3 N3 (upd_er ⟨hA1, T1.offT⟩) (by rw [T1.ers.length]; exact hk.1) fun h' F' N' => ?_
   refine k _ _ { S2 with errs := S2.errs ++ [x0] } (tokLed X.A TK1 { v1 with ers := v1.ers ++ [y0], ersN := v1.ersN + 1 } ++ (dl1 ++ rest1)) _ _ F' ((g1.trans g3).trans ts_gro) N' ⟨TK1, { v1 with ers := v1.ers ++ [y0], ersN := v1.ersN + 1 }, dl1, rest1, rfl, hA1, { T1 with ers := T1.ers.append (.one (Mine.DatIn.off (fun a k vs q => ts_tup (X.nt T1.draft) q) 4 hd hn)), nolE := nol_app T1.nolE (nol_one hn) }, hb1⟩ .n hk.2
  | i => exact hk.elim
  | s => exact hk.elim
  | b => exact hk.elim
  | n => exact hk.elim
  | r => exact hk.elim
  | v => exact hk.elim
  | t => exact hk.elim
end
end Mine
end
section
open PySem PySem.W PyProof.Rows PySem.Calls
namespace Mine
theorem bif_t {A B : Prop} (h : A) : bif2 true A B := h
theorem bif_f {A B : Prop} (h : B) : bif2 false A B := h
theorem bif_T {b : Bool} {A B : Prop} (e : b = true) (h : A) : bif2 b A B := by subst e; exact h
theorem bif_F {b : Bool} {A B : Prop} (e : b = false) (h : B) : bif2 b A B := by subst e; exact h
noncomputable def slicePlain : Expr → Bool
 | .Slice .. => false
 | _ => true
theorem sub_plain {s : Expr} {o i : Value} (h : slicePlain s = true) : subscripted s false o i = operate [o, i] (getItem o i) := by
 cases s <;> first | rfl | cases h
noncomputable abbrev usE : Expr := .Name (ofString "_") ⟨0, 0, 0, 0⟩
section
variable {w : World} {d : Nat} {cs : Scope} {σ : Type} {den : σ → Led → Prop} {c : FD w d cs} {l : ANs} {S : σ}
theorem e_sub {K : AV → σ → Prop} {v s : Expr} {p : Pos} {env : Env} (h : JE den c (eval v env) l S fun o S1 => JE den c (eval s env) l S1 fun i S2 => JO2 den c AV.Is (fun o i => subscriptTail usE s o i) o i l S2 K) : JE den c (eval (.Subscript v s p) env) l S K := fun s Q E m n F M N hS k =>
 Subscript_ (h s _ E m n F M N hS fun x u S1 n1 h1 t1 F1 g1 N1 hS1 i1 h2 => h2 _ _ E m n1 F1 (M.mono g1) N1 hS1 fun y v S2 n2 h3 t3 F3 g3 N3 hS3 i3 h4 => kba_turn (value' := usE) (fun _ => rfl) (h4 _ _ E m n2 _ _ F3 (M.mono (g1.trans g3)) N3 hS3 (i1.mono g3) i3 fun z r S3 n3 h5 t5 F5 g5 N5 hS5 i5 h6 => k _ _ _ _ _ _ F5 ((g1.trans g3).trans g5) N5 hS5 i5 h6))
noncomputable def isGlob (cs : Scope) (x : PySem.Str) : Bool := match cs.names.lookup x with | some .globalImplicit => true | _ => false
theorem isGlob_spec {x : PySem.Str} (h : isGlob cs x = true) : cs.names.lookup x = some .globalImplicit := by
 unfold isGlob at h
 split at h
 ·assumption
 ·cases h
structure BName (w : World) (x : PySem.Str) (v : Value) : Prop where
 e : nsIn (hd.heap_1 w.params) mainGlobals x = some none
 hv : bootBuiltins x = some v
 hn : x ≠ ofString "__name__"
 hd : (x == ofString "__debug__") = false
structure GName (w : World) (x : PySem.Str) (v : Value) : Prop where
 e : nsIn (hd.heap_1 w.params) mainGlobals x = some (some v)
 hd : (x == ofString "__debug__") = false
theorem e_callB {K : AV → σ → Prop} {x : PySem.Str} {xp p : Pos} {id : String} {e0 : Expr} {es : List Expr} (B : BName w x (.builtin id)) (hx : isGlob cs x = true) (hp : (e0 :: es).all starP = true) (h : JL den c (spliced (backTo p (starEach (e0 :: es) c.env))) l S fun as S1 => JOL den c AV.Is (fun vs => call (.builtin id) vs) as l S1 K) : JE den c (eval (.Call (.Name x xp) (e0 :: es) [] p) c.env) l S K := fun s Q E m n F M N hS k => by
 have T := c.T
 have X := c.X
 rw [List.all_cons, Bool.and_eq_true] at hp
 refine Call_ ?_ rfl
 refine nameX_B F X (by k_asm) B.e B.hv B.hn ?_ c.hk (isGlob_spec hx) B.hd
 exact PyProof.Rows.callWith_builtin1 (h s _ E m n F M N hS fun vs as S1 n1 h1 t1 F1 g1 N1 hS1 i1 h2 => h2 _ _ E m n1 _ F1 (M.mono g1) N1 hS1 i1 fun y v S2 n2 h3 t3 F3 g3 N3 hS3 i3 h4 => k _ _ _ _ _ _ F3 (g1.trans g3) N3 hS3 i3 h4) (star_plain hp.1) (noStars _ _ _ hp.2)
theorem e_callK {K : AV → σ → Prop} {dd : Nat} {x : PySem.Str} {xp p : Pos} {f : Addr} {e0 : Expr} {es : List Expr} (B : GName w x (.ref f)) (hx : isGlob cs x = true) (hp : (e0 :: es).all starP = true) (hk : keepIn (hd.heap_1 w.params) (.ref f) = true) (hd : Nat.ble dd d = true) (h : JL den c (spliced (backTo p (starEach (e0 :: es) c.env))) l S fun as S1 => JC den w dd f as S1 K) : JE den c (eval (.Call (.Name x xp) (e0 :: es) [] p) c.env) l S K := fun s Q E m n F M N hS k => by
 have T := c.T
 have X := c.X
 rw [List.all_cons, Bool.and_eq_true] at hp
 refine Call_ ?_ rfl
 refine nameX_K F X (by k_asm) B.e ?_ c.hk (isGlob_spec hx) B.hd
 exact callWith_K c.X hk (h s _ E m n F M N hS fun vs as S1 n1 h1 t1 F1 g1 N1 hS1 i1 h2 => ⟨c.X.keeps F1.keep, c_run hd h2 _ _ E m n1 _ F1 (M.mono g1) N1 hS1 i1 fun y v S2 n2 h3 t3 F3 g3 N3 hS3 i3 h4 => k _ _ _ _ _ _ F3 (g1.trans g3) N3 hS3 i3 h4⟩) (star_plain hp.1) (noStars _ _ _ hp.2)
end
section
variable {w : World} {d : Nat} {cs : Scope} {c : FD w d cs} {l : ANs} {X : TX} {cf : Cfg}
theorem s_signs {K : AV → Cfg → Prop} (h : K (.r X.A.sg) cf) : JO1 (tsD X) c AV.Is (fun v => getAttr v (ofString "signs") true) (.r X.A.s) l cf K := fun s Q E m n y F M N hS i k => by
 (first | obtain rfl := i.inv | obtain ⟨_, rfl⟩ := i.inv | cases i)
 refine xEEEEAAA hS fun TK0 v dl rest zq1 hA T hb => ?_
 subst zq1
 exact get_196 F c.X N (.tail _ (.tail _ (.head _))) (.tail _ (.tail _ (.tail _ (.head _)))) (fa_196_signs _) rfl rfl (k _ _ _ _ _ _ F .refl N ⟨TK0, v, dl, rest, rfl, hA, T, hb⟩ (.r _) h)
theorem s_isclosed {K : AV → Cfg → Prop} (h : K (.b X.closed) cf) : JO1 (tsD X) c AV.Is (fun v => getAttr v (ofString "is_closed") true) (.r X.A.s) l cf K := fun s Q E m n y F M N hS i k => by
 (first | obtain rfl := i.inv | obtain ⟨_, rfl⟩ := i.inv | cases i)
 refine xEEEEAAA hS fun TK0 v dl rest zq2 hA T hb => ?_
 subst zq2
 exact get_196 F c.X N (.tail _ (.tail _ (.head _))) (.tail _ (.tail _ (.tail _ (.head _)))) (fa_196_is_closed _) rfl rfl (k _ _ _ _ _ _ F .refl N ⟨TK0, v, dl, rest, rfl, hA, T, hb⟩ (T.closed ▸ .b _) h)
theorem s_len {K : AV → Cfg → Prop} (hz : X.text.length ≤ 100000) (h : K (.i X.text.length) cf) : JOL (tsD X) c AV.Is (fun vs => call (.builtin "len") vs) [.r X.A.sg] l cf K := fun s Q E m n y F M N hS i k => by
 cases i using LIs.cons_elim with
 | cons i j =>
  (first | obtain rfl := i.inv | obtain ⟨_, rfl⟩ := i.inv | cases i)
  (first | obtain rfl := j.inv | obtain ⟨_, rfl⟩ := j.inv | cases j)
  refine xEEEEAAA hS fun TK0 v dl rest zq3 hA T hb => ?_
  subst zq3
  have e : v.signs.length = X.text.length := by rw [T.signs.len_eq, List.length_map]
  exact len_L N (.tail _ (.tail _ (.tail _ (.tail _ (.head _))))) (by rw [e]) (by lia) (k _ _ _ _ _ _ F .refl N ⟨TK0, v, dl, rest, rfl, hA, T, hb⟩ (.i _ _) h)
theorem s_sign {K : AV → Cfg → Prop} {z : Int} {sl : Expr} (hs : slicePlain sl = true) (hz : X.text.length ≤ 100000) (h0 : 0 ≤ z) (h1 : z < X.text.length) (h : K (.s (chS (X.text.getD z.toNat 0))) cf) : JO2 (tsD X) c AV.Is (fun o i => subscriptTail usE sl o i) (.r X.A.sg) (.i z) l cf K := fun s Q E m n x y F M N hS i j k => by
 (first | obtain rfl := i.inv | obtain ⟨_, rfl⟩ := i.inv | cases i)
 (first | obtain rfl := j.inv | obtain ⟨_, rfl⟩ := j.inv | cases j)
 refine xEEEEAAA hS fun TK0 v dl rest zq4 hA T hb => ?_
 subst zq4
 exact item_strs_L N (.tail _ (.tail _ (.tail _ (.tail _ (.head _))))) T.signs h0 h1 hz (fun t' => k _ _ _ _ _ _ F .refl N ⟨TK0, v, dl, rest, rfl, hA, T, hb⟩ (.s _ _) h) (sub_plain hs) (fun _ => rfl)
end
end Mine
end
section
open PySem PySem.W PyProof.Rows PySem.Calls
namespace Mine
noncomputable def avOf : Dat → AV
 | .int z => .i z
 | .str x => .s x
 | .bool b => .b b
 | .none => .n
 | x => .d x
theorem avOf_is {n : Led} {v : Value} {x : Dat} (h : DatIn n v x) (hn : noL 4 x = true) : (avOf x).Is n v := by
 cases h with
 | none => exact .n
 | bool => exact .b _
 | int => exact .i _ _
 | str => exact .s _ _
 | bytes => exact .d (.bytes _ _) hn
 | tuple h r => exact .d (.tuple h r) hn
 | list h r => exact .d (.list h r) hn
theorem datAll_at {n : Led} : ∀ {vs : List Value} {ds : List Dat} {i : Nat} {x : Dat}, DatAll n vs ds → ds[i]? = some x → ∃ v, vs[i]? = some v ∧ DatIn n v x
 | _, _, 0, _, .cons h _, e => by cases e; exact ⟨_, rfl, h⟩
 | _, _, i + 1, _, .cons _ h, e => datAll_at (i := i) h (by simpa using e)
 | _, _, 0, _, .nil, e => nomatch e
 | _, _, i + 1, _, .nil, e => nomatch e
section
variable {w : World} {d : Nat} {cs : Scope} {σ : Type} {den : σ → Led → Prop} {c : FD w d cs} {l : ANs} {S : σ}
theorem o_dsub {K : AV → σ → Prop} {ds : List Dat} {z : Nat} {x : Dat} {sl : Expr} (hs : slicePlain sl = true) (hz : Nat.ble z 100 = true) (e : ds[z]? = some x) (hn : noL 4 x = true) (h : K (avOf x) S) : JO2 den c AV.Is (fun o i => subscriptTail usE sl o i) (.d (.tuple ds)) (.i (z : Int)) l S K := fun s Q E m n y u F M N hS i j k => by
 (first | obtain rfl := j.inv | obtain ⟨_, rfl⟩ := j.inv | cases j)
 cases i with
 | d hd _ =>
  cases hd with
  | tuple hm hA =>
   refine xEA (datAll_at hA e) fun v e1 e2 => ?_
   have hz := Nat.le_of_ble_eq_true hz
   exact item_tup_L N hm (by lia) (by lia) (by rw [Int.toNat_natCast]; exact e1) (k _ _ _ _ _ _ F .refl N hS (avOf_is e2 hn) h) (sub_plain hs)
theorem jc_of {w : World} {d : Nat} {f : Addr} {as : List AV} {K : AV → σ → Prop} (h : ∀ n vs, den S n → LIs n as vs → ∃ P : Value → Led → Prop, Spec w d n f vs P ∧ ∀ r n', P r n' → ∃ n2, (∀ p ∈ n2, p ∈ n') ∧ Gro n n2 ∧ ∃ a S', den S' n2 ∧ a.Is n2 r ∧ K a S') : JC den w d f as S K := fun n vs hS hi => by
 refine xEA (h n vs hS hi) fun P sp hp => ?_
 exact Spec.weak (fun p hp => hp) (fun r n' hr => hp r n' hr) sp
end
end Mine
end
section
open PySem PySem.W PyProof.Rows PySem.Calls
namespace Mine
theorem c_handled {w : World} {d : Nat} {cs : Scope} {c : FD w d cs} : c.A.handled = none := rfl
theorem ae_name {x : PySem.Str} {p : Pos} {r : List Expr} {env : Env} : assignEach (.Name x p :: r) env = (false, assign (.Name x p) env) :: assignEach r env := by rfl
theorem ae_nil {env : Env} : assignEach [] env = [] := by rfl
theorem noL_mono : ∀ (n : Nat) (x : Dat), noL n x = true → noL (n + 1) x = true
 | n, .none, _ => by cases n <;> rfl
 | n, .bool _, _ => by cases n <;> rfl
 | n, .int _, _ => by cases n <;> rfl
 | n, .str _, _ => by cases n <;> rfl
 | n, .bytes _, _ => by cases n <;> rfl
 | n, .list _, h => by cases n <;> simp [noL] at h
 | 0, .tuple _, h => by simp [noL] at h
 | n + 1, .tuple ds, h => by
  simp only [noL, List.all_eq_true] at h ⊢
  exact fun y hy => noL_mono n y (h y hy)
theorem noL_all {ds : List Dat} (h : noL 4 (.tuple ds) = true) : ∀ x ∈ ds, noL 4 x = true := fun x hx => by
 simp only [noL, List.all_eq_true] at h
 exact noL_mono 3 x (h x hx)
noncomputable def nmsOf : List Expr → Option (List PySem.Str)
 | [] => some []
 | .Name x _ :: r => (nmsOf r).map (x :: ·)
 | _ => none
inductive IsNms : List Expr → List PySem.Str → Prop
 | nil : IsNms [] []
 | cons {x : PySem.Str} {p : Pos} {r : List Expr} {xs : List PySem.Str} : IsNms r xs → IsNms (.Name x p :: r) (x :: xs)
theorem isNms_of : ∀ (elts : List Expr) (xs : List PySem.Str), nmsOf elts = some xs → IsNms elts xs := by
 intro elts
 induction elts with
 | nil => intro xs e; cases e; exact .nil
 | cons a r ih =>
  intro xs e
  cases a with
  | Name x p =>
   simp only [nmsOf, Option.map_eq_some_iff] at e
   refine xEA e fun ys e1 zq1 => ?_
   subst zq1
   exact .cons (ih _ e1)
  | _ => exact nomatch e
noncomputable def unp : List PySem.Str → List AV → ANs → ANs
 | x :: xs, a :: as, l => unp xs as ((x, a) :: l)
 | _, _, l => l
section
variable {w : World} {d : Nat} {cs : Scope} {σ : Type} {den : σ → Led → Prop} {c : FD w d cs} {S : σ}
theorem unp_run {E : Value → Shared → Prop} {elts : List Expr} {xs : List PySem.Str} (R : IsNms elts xs) : ∀ {as : List AV} {vs : List Value} {l : ANs} {n : Led} {s : Shared} {Q : Unit → Shared → Prop} {m : PySem.Str → Option Value}, (xs.all (isLoc cs)) = true → LIs n as vs → xs.length = as.length → Fr c.h₀ c.L s.heap m → Names n l m → News c.h₀ c.L s.heap n →
  (∀ m' h' tk', Fr c.h₀ c.L h' m' → Names n (unp xs as l) m' → News c.h₀ c.L h' n → Q () { s with heap := h', toks := tk' }) → wpAny (model PG w) c.A (assignInOrder ((assignEach elts c.env).map fun x => x.2) vs) Q E s := by
 induction R with
 | nil =>
  intro as vs l n s Q m hl hi hlen F M N k
  rw [ae_nil]
  exact assignInOrder_nil (k _ _ _ F M N)
 | cons R ih =>
  intro as vs l n s Q m hl hi hlen F M N k
  rw [List.all_cons, Bool.and_eq_true] at hl
  cases hi with
  | nil => cases hlen
  | cons h1 h2 =>
   rw [ae_name, List.map_cons]
   refine assignInOrder_cons (PyProof.Rows.assign_Name (storeX_L F N (fun h' F' N' => ?_) c.hk (isLoc_spec hl.1)))
   exact ih hl.2 h2 (Nat.succ.inj hlen) F' (M.store h1) N' fun m' h2 tk2 F2 M2 N2 => k _ _ _ F2 M2 N2
inductive AvOf : Dat → AV → Prop
 | i (z : Int) : AvOf (.int z) (.i z)
 | s (x : PySem.Str) : AvOf (.str x) (.s x)
 | b (t : Bool) : AvOf (.bool t) (.b t)
 | n : AvOf .none .n
 | t (ds : List Dat) : AvOf (.tuple ds) (.d (.tuple ds))
 | o (x : Dat) : AvOf x (avOf x)
theorem AvOf.eq {x : Dat} {a : AV} (h : AvOf x a) : avOf x = a := by cases h <;> rfl
inductive AvAll : List Dat → List AV → Prop
 | nil : AvAll [] []
 | cons {x : Dat} {a : AV} {xs : List Dat} {as : List AV} : AvOf x a → AvAll xs as → AvAll (x :: xs) (a :: as)
theorem AvAll.eq {xs : List Dat} {as : List AV} (h : AvAll xs as) : xs.map avOf = as := by
 induction h with
 | nil => rfl
 | cons q _ ih => rw [List.map_cons, q.eq, ih]
inductive UnpIs : List PySem.Str → List AV → ANs → ANs → Prop
 | nil (l : ANs) : UnpIs [] [] l l
 | cons {x : PySem.Str} {xs : List PySem.Str} {a : AV} {as : List AV} {l l' : ANs} : UnpIs xs as ((x, a) :: l) l' → UnpIs (x :: xs) (a :: as) l l'
theorem UnpIs.eq {xs : List PySem.Str} {as : List AV} {l l' : ANs} (h : UnpIs xs as l l') : unp xs as l = l' ∧ xs.length = as.length := by
 induction h with
 | nil => exact ⟨rfl, rfl⟩
 | cons _ ih => exact ⟨ih.1, congrArg Nat.succ ih.2⟩
noncomputable def UnpK (K : AF → ANs → σ → Prop) (xs : List PySem.Str) (l : ANs) : AV → σ → Prop
 | .d (.tuple ds), S1 => xs.length = ds.length ∧ noL 4 (.tuple ds) = true ∧ K .nxt (unp xs (ds.map avOf) l) S1
 | _, _ => False
theorem unpK_i {K : AF → ANs → σ → Prop} {xs : List PySem.Str} {l l' : ANs} {ds : List Dat} {as : List AV} (hn : noL 4 (.tuple ds) = true) (ha : AvAll ds as) (hu : UnpIs xs as l l') (h : K .nxt l' S) : UnpK K xs l (.d (.tuple ds)) S := by
 have e := ha.eq
 subst e
 exact ⟨hu.eq.2.trans (List.length_map _), hn, by rw [hu.eq.1]; exact h⟩
theorem lis_dats {n : Led} : ∀ {vs : List Value} {ds : List Dat}, DatAll n vs ds → (∀ x ∈ ds, noL 4 x = true) → LIs n (ds.map avOf) vs ∧ vs.length = ds.length
 | _, _, .nil, _ => ⟨.nil, rfl⟩
 | _, _, .cons q r, hn => ⟨.cons (avOf_is q (hn _ (.head _))) (lis_dats r fun x hx => hn x (.tail _ hx)).1, congrArg Nat.succ (lis_dats r fun x hx => hn x (.tail _ hx)).2⟩
theorem unpK_spec {K : AF → ANs → σ → Prop} {xs : List PySem.Str} {l : ANs} {a : AV} {S1 : σ} {n : Led} {v : Value} (i : a.Is n v) (h : UnpK K xs l a S1) :
  ∃ (t : Addr) (vs : List Value) (k : Nat) (ds : List Dat), v = .ref t ∧ (t, ({ cls := .type "tuple", data := .seq (List.toArray vs) k } : Obj)) ∈ n ∧ LIs n (ds.map avOf) vs ∧ vs.length = xs.length ∧ xs.length = (ds.map avOf).length ∧ K .nxt (unp xs (ds.map avOf) l) S1 := by
 cases i with
 | i => exact h.elim
 | s => exact h.elim
 | b => exact h.elim
 | n => exact h.elim
 | r => exact h.elim
 | v => exact h.elim
 | t => exact h.elim
 | d hd hn =>
  cases hd with
  | none => exact h.elim
  | bool => exact h.elim
  | int => exact h.elim
  | str => exact h.elim
  | bytes => exact h.elim
  | list => exact h.elim
  | @tuple a vs k1 ds hm hA =>
   refine xAA h fun h3 h4 h5 => ?_
   exact ⟨_, _, _, _, rfl, hm, (lis_dats hA (noL_all h4)).1, (lis_dats hA (noL_all h4)).2.trans h3.symm, h3.trans (List.length_map _).symm, h5⟩
theorem x_unpack {K : AF → ANs → σ → Prop} {elts : List Expr} {k0 : Nat} {tp p : Pos} {e : Expr} {xs : List PySem.Str} {l : ANs} (hp : ∀ k n env, swapsWithSole [.Tuple elts k tp] e n env = pure false) (hx : nmsOf elts = some xs) (hl : (xs.all (isLoc cs)) = true) (hs : ∀ k env, swappedStores [.Tuple elts k tp] e env = pure none) (hf : ∀ env, (assignEach elts env).findIdx? (fun x => x.1) = none ∧ (assignEach elts env).length = xs.length)
  (h : JE den c (eval e c.env) l S (UnpK K xs l)) : JX den c (exec (.Assign [.Tuple elts k0 tp] e p) c.env) l S K := fun s Q E m n F M N hS k =>
 Assign_Tuple (h s _ E m n F M N hS fun v u S1 n1 h1 t1 F1 g1 N1 hS1 i1 h2 => by
  refine xEEEEAAAAA (unpK_spec i1 h2) fun t vs k1 ds zq2 hm hL q1 q2 h5 => ?_
  subst zq2
  have hT : IsTup h1 t (List.toArray vs) := N1.isTup hm
  have q3 : (assignEach elts c.env).length = (List.toArray vs).size := by rw [(hf c.env).2, List.size_toArray, q1]
  refine unpackN_ (elts := elts) (k := k0) (pos := tp) (Q := fun _ => Q .next) (E := E) (s := { s with heap := h1, toks := t1 }) (A := c.A) (w := w) (prog := PG) F1 N1 hT c_handled q3 (hf c.env).1 fun h6 F6 N6 => ?_
  exact unp_run (isNms_of _ _ hx) hl hL q2 F6 (M.mono g1) N6 fun m' h' tk' F' M' N' => k _ _ _ _ _ _ _ _ F' g1 M' N' hS1 .nxt h5) (hp k0 _ c.env) (hs k0 c.env)
end
end Mine
end
section
open PySem PySem.W PyProof.Rows PySem.Calls
namespace Mine
section
variable {w : World} {d : Nat} {cs : Scope} {σ : Type} {den : σ → Led → Prop} {c : FD w d cs} {S : σ} {l : ANs}
theorem o_mod {K : AV → σ → Prop} {a b : Int} (hb : decide (0 < b) = true) (h : K (.i (a % b)) S) : JO2 den c AV.Is (binaryOp .Mod) (.i a) (.i b) l S K := fun s Q E m n x y F M N hS i1 i2 k => by
 (first | obtain rfl := i1.inv | obtain ⟨_, rfl⟩ := i1.inv | cases i1); (first | obtain rfl := i2.inv | obtain ⟨_, rfl⟩ := i2.inv | cases i2); exact mod_L (of_decide_eq_true hb) (k _ _ _ _ _ _ F .refl N hS (.i _ _) h)
theorem o_mul {K : AV → σ → Prop} {a b : Int} (hm : IntMulOk a b) (h : K (.i (a * b)) S) : JO2 den c AV.Is (binaryOp .Mult) (.i a) (.i b) l S K := fun s Q E m n x y F M N hS i1 i2 k => by
 (first | obtain rfl := i1.inv | obtain ⟨_, rfl⟩ := i1.inv | cases i1); (first | obtain rfl := i2.inv | obtain ⟨_, rfl⟩ := i2.inv | cases i2); exact mul_int (k _ _ _ _ _ _ F .refl N hS (.i _ _) h) hm
theorem o_addS {K : AV → σ → Prop} {xs ys : List Nat} (hz : xs.length + ys.length ≤ 100000) (h : K (.s ⟨(xs ++ ys).toArray⟩) S) : JO2 den c AV.Is (binaryOp .Add) (.s ⟨xs.toArray⟩) (.s ⟨ys.toArray⟩) l S K := fun s Q E m n x y F M N hS i1 i2 k => by
 (first | obtain rfl := i1.inv | obtain ⟨_, rfl⟩ := i1.inv | cases i1); (first | obtain rfl := i2.inv | obtain ⟨_, rfl⟩ := i2.inv | cases i2); exact add_str_L hz (fun _ _ => k _ _ _ _ _ _ F .refl N hS (.s _ _) h)
theorem o_ord {K : AV → σ → Prop} {ch : Nat} (h : K (.i (ch : Int)) S) : JOL den c AV.Is (fun vs => call (.builtin "ord") vs) [.s (chS ch)] l S K := fun s Q E m n vs F M N hS i k => by
 cases i using LIs.cons_elim with
 | cons i j =>
  (first | obtain rfl := i.inv | obtain ⟨_, rfl⟩ := i.inv | cases i)
  (first | obtain rfl := j.inv | obtain ⟨_, rfl⟩ := j.inv | cases j)
  exact PySem.P.ord_of_char (k _ _ _ _ _ _ F .refl N hS (.i _ _) h)
theorem ab_item (ch : Nat) : (([97, 98] : List Nat).getD ((ch : Int) % 2).toNat 0) = nameOf ch := by
 unfold nameOf
 rcases Nat.mod_two_eq_zero_or_one ch with h | h
 ·have : (ch : Int) % 2 = 0 := by lia
  rw [this, if_pos h]; rfl
 ·have : (ch : Int) % 2 = 1 := by lia
  rw [this, if_neg (by lia)]; rfl
theorem o_ab {K : AV → σ → Prop} {ch : Nat} {sl : Expr} (hs : slicePlain sl = true) (h : K (.s (chS (nameOf ch))) S) : JO2 den c AV.Is (fun o i => subscriptTail usE sl o i) (.s (ofString "ab")) (.i ((ch : Int) % 2)) l S K := fun s Q E m n y u F M N hS i j k => by
 (first | obtain rfl := j.inv | obtain ⟨_, rfl⟩ := j.inv | cases j)
 (first | obtain rfl := i.inv | obtain ⟨_, rfl⟩ := i.inv | cases i)
 rw [← ab_item] at h
 exact item_S (xs := [97, 98]) (by lia) (by simp only [List.length_cons, List.length_nil]; lia) (by decide) (fun _ _ => k _ _ _ _ _ _ F .refl N hS (.s _ _) h) (sub_plain hs) (fun _ => rfl)
end
end Mine
end
section
open PySem PySem.W PyProof.Rows PySem.Calls
namespace Mine
section
variable {w : World} {d : Nat} {cs : Scope} {c : FD w d cs} {l : ANs} {X : TX} {cf : Cfg}
theorem tsD.base {n : Led} (h : tsD X cf n) : ∀ p ∈ X.base, p ∈ n := by
 refine xEEEEAAA h fun TK0 v dl rest zq1 hA T hb => ?_
 subst zq1
 exact fun p hp => mem_ends (mem_ends (hb p hp))
theorem s_dS {K : AV → Cfg → Prop} {a b : Addr} {o : Obj} {kvs : List (PySem.Str × Value)} {k : PySem.Str} {sl : Expr} (hs : slicePlain sl = true) (hp : (a, o) ∈ X.base) (hd : o.IsDictOf (PySem.strKind PG w) kvs) (hl : valueAt kvs k = some (.ref b)) (h : K (.r b) cf) : JO2 (tsD X) c AV.Is (fun o i => subscriptTail usE sl o i) (.r a) (.s k) l cf K := fun s Q E m n x y F M N hS i j kk => by
 (first | obtain rfl := i.inv | obtain ⟨_, rfl⟩ := i.inv | cases i)
 (first | obtain rfl := j.inv | obtain ⟨_, rfl⟩ := j.inv | cases j)
 exact kda_item (knd := PySem.strKind PG w) N (tsD.base hS _ hp) hd (beq_self_eq_true _) hl (kk _ _ _ _ _ _ F .refl N hS (.r _) h) (sub_plain hs) (fun _ => rfl)
theorem s_dI {K : AV → Cfg → Prop} {a b : Addr} {o : Obj} {kvs : List (Int × Value)} {k : Int} {sl : Expr} (hs : slicePlain sl = true) (hp : (a, o) ∈ X.base) (hd : o.IsDictOf (PySem.intKind PG w) kvs) (hl : valueAt kvs k = some (.ref b)) (h : K (.r b) cf) : JO2 (tsD X) c AV.Is (fun o i => subscriptTail usE sl o i) (.r a) (.i k) l cf K := fun s Q E m n x y F M N hS i j kk => by
 (first | obtain rfl := i.inv | obtain ⟨_, rfl⟩ := i.inv | cases i)
 (first | obtain rfl := j.inv | obtain ⟨_, rfl⟩ := j.inv | cases j)
 exact kda_item (knd := PySem.intKind PG w) N (tsD.base hS _ hp) hd (beq_self_eq_true _) hl (kk _ _ _ _ _ _ F .refl N hS (.r _) h) (sub_plain hs) (fun _ => rfl)
theorem s_lI {K : AV → Cfg → Prop} {a : Addr} {vs : List Value} {k : Nat} {z : Int} {v : Value} {av : AV} {sl : Expr} (hs : slicePlain sl = true) (hp : (a, listOf vs.toArray k) ∈ X.base) (hz : (decide (0 ≤ z) && decide (z < 100000)) = true) (hv : vs[z.toNat]? = some v) (hi : ∀ n, av.Is n v) (h : K av cf) : JO2 (tsD X) c AV.Is (fun o i => subscriptTail usE sl o i) (.r a) (.i z) l cf K := fun s Q E m n x y F M N hS i j kk => by
 (first | obtain rfl := i.inv | obtain ⟨_, rfl⟩ := i.inv | cases i)
 (first | obtain rfl := j.inv | obtain ⟨_, rfl⟩ := j.inv | cases j)
 rw [Bool.and_eq_true] at hz
 exact item_L N (tsD.base hS _ hp) (of_decide_eq_true hz.1) (of_decide_eq_true hz.2) hv (kk _ _ _ _ _ _ F .refl N hS (hi _) h) (sub_plain hs) (fun _ => rfl)
end
end Mine
end
section
open PySem PySem.W PyProof.Rows PySem.Calls
namespace Mine
section
variable {w : World} {d : Nat} {cs : Scope} {c : FD w d cs} {l : ANs} {σ τ : Type} {den : σ → Led → Prop}
theorem jc_den {dd : Nat} {f : Addr} {as : List AV} {S : σ} {K : AV → σ → Prop} (h : ∀ n, den S n → ∃ (τ : Type) (den' : τ → Led → Prop) (S' : τ) (K' : AV → τ → Prop), den' S' n ∧ JC den' w dd f as S' K' ∧ ∀ b S2 n2, den' S2 n2 → K' b S2 → ∃ S3, den S3 n2 ∧ K b S3) : JC den w dd f as S K := fun n vs hS hi => by
 obtain ⟨τ, den', S', K', h1, h2, h3⟩ := h n hS
 refine Spec.weak (fun p hp => hp) (fun r n' hr => ?_) (h2 n vs h1 hi)
 refine xAEEAA hr fun g a S2 h4 h5 h6 => ?_
 refine xEA (h3 a S2 n' h4 h6) fun S3 h7 h8 => ?_
 exact ⟨n', fun p hp => hp, g, a, S3, h7, h5, h8⟩
end
end Mine
end
section
open PySem PySem.W PyProof.Rows PySem.Calls
namespace Mine
section
variable {w : World} {X : TX} {cf : Cfg}
theorem offT_same {A : TA} {a : Addr} {o o' : Obj} {l : Led} (h : OffT A ((a, o) :: l)) : OffT A ((a, o') :: l) := by
 have f : ∀ {b : Addr}, (∀ p ∈ (a, o) :: l, p.1 ≠ b) → ∀ p ∈ (a, o') :: l, p.1 ≠ b := fun h p hp => by
  rcases List.mem_cons.mp hp with e | hp
  ·rw [e]; exact h (a, o) (.head _)
  ·exact h p (.tail _ hp)
 refine xAAAAAAA h fun h1 h2 h3 h4 h5 h6 h7 h8 => ?_
 exact ⟨f h1, f h2, f h3, f h4, f h5, f h6, f h7, f h8⟩
end
end Mine
end
section
open PySem PySem.W PyProof.Rows PySem.Calls
namespace Mine
section
variable {w : World} {d : Nat} {cs : Scope} {c : FD w d cs} {l : ANs} {X : TX} {cf : Cfg}
theorem run_spec {dd : Nat} (hd : Nat.ble dd d = true) {n : Led} {f : Addr} {vs : List Value} {P : Value → Led → Prop} {s : Shared} {Q : Value → Shared → Prop} {E : Value → Shared → Prop} {m : PySem.Str → Option Value} (sp : Spec w dd n f vs P) (F : Fr c.h₀ c.L s.heap m) (N : News c.h₀ c.L s.heap n)
  (k : ∀ r n' h' tk', Fr c.h₀ c.L h' m → News c.h₀ c.L h' n' → P r n' → Q r { s with heap := h', toks := tk' }) : wpAny (model PG w) c.A (call (.ref f) vs) Q E s := by
 have hd := Nat.le_of_ble_eq_true hd
 exact sp _ _ _ _ _ _ _ _ _ _ _ _ _ _ _ _ _ _ _ _ c.B F c.X N c.T c.hk (Nat.lt_of_le_of_lt (Nat.add_le_add_left hd _) c.hd) (Nat.lt_of_le_of_lt (Nat.add_le_add_left (Nat.mul_le_mul_left _ hd) _) c.hu) fun r n' h' tk' F' N' _ hp => k r n' h' tk' F' N' hp
theorem dr_noval {v : Value} {kd nm : Nat} {dl : Led} (h : DrAt v (some ⟨kd, nm, none⟩) dl) : ∃ (D : DA) (K2 : TK) (k3 : Nat), v = .ref D.dt ∧ D.dd < D.dt ∧ D.dt < D.al ∧ dl = dlN K2 D (kindS kd) (chS nm) false k3 := by
 cases h with
 | noval D K2 k3 _ _ q1 q2 => exact ⟨D, K2, k3, rfl, q1, q2, rfl⟩
theorem dr_val {v : Value} {kd nm : Nat} {xs : List Nat} {dl : Led} (h : DrAt v (some ⟨kd, nm, some xs⟩) dl) : ∃ (D : DA) (K2 : TK) (k3 k4 : Nat) (u1 u3 : Tok), v = .ref D.dt ∧ D.dd < D.dt ∧ D.dt < D.al ∧ D.al < D.il ∧ dl = dlS K2 D (kindS kd) (chS nm) false k3 k4 u1 u3 xs := by
 cases h with
 | val D K2 k3 k4 u1 u3 _ _ _ q1 q2 q3 => exact ⟨D, K2, k3, k4, u1, u3, rfl, q1, q2, q3, rfl⟩
end
end Mine
end
section
open PySem PySem.W PyProof.Rows PySem.Calls
namespace Mine
section
variable {w : World} {d : Nat} {cs : Scope} {c : FD w d cs} {l : ANs} {X : TX} {cf : Cfg}
theorem run_specN {dd : Nat} (hd : Nat.ble dd d = true) {n : Led} {f : Addr} {vs : List Value} {P : Value → Led → Prop} {s : Shared} {Q : Value → Shared → Prop} {E : Value → Shared → Prop} {m : PySem.Str → Option Value} (sp : SpecN w dd n f vs P) (F : Fr c.h₀ c.L s.heap m) (N : News c.h₀ c.L s.heap n)
  (k : ∀ r n' h' tk', Fr c.h₀ c.L h' m → News c.h₀ c.L h' n' → P r n' → Q r { s with heap := h', toks := tk' }) : wpAny (model PG w) c.A (call (.ref f) vs) Q E s := by
 have hd := Nat.le_of_ble_eq_true hd
 exact sp _ _ _ _ _ _ _ _ _ _ _ _ _ _ _ _ _ _ _ _ c.B F c.X N c.T c.hk (Nat.lt_of_le_of_lt (Nat.add_le_add_left hd _) c.hd) (Nat.lt_of_le_of_lt (Nat.add_le_add_left (Nat.mul_le_mul_left _ hd) _) c.hu) fun r n' h' tk' F' N' hp => k r n' h' tk' F' N' hp
theorem new_ts {kd nm : Nat} {D : DA} {K2 TK0 : TK} {k0 : Nat} {v : TV} {dl rest : Led} (hX : X.dr = DrAt) (hA : X.A.chain) (T : TokG X cf v dl rest) (hb : ∀ p ∈ X.base, p ∈ rest) (hlt : ∀ p ∈ tokLed X.A TK0 v ++ (dl ++ rest), p.1 < D.dd) (q1 : D.dd < D.dt) (q2 : D.dt < D.al) :
  TOk X.A (dlN K2 D (kindS kd) (chS nm) false k0 ++ (dl ++ rest)) ∧ tsD X { cf with draft := some ⟨kd, nm, none⟩ } (tokLed X.A TK0 { v with draft := .ref D.dt } ++ (dlN K2 D (kindS kd) (chS nm) false k0 ++ (dl ++ rest))) := by
 have hg : GtA X.A D.dd := gtA_of (K := TK0) (v := v) ⟨hA, T.offT⟩ hlt
 refine xAAAAAAA (id hg) fun g1 g2 g3 g4 g5 g6 g7 g8 => ?_
 have q1' : (D.dd : Nat) < D.dt := q1
 have q2' : (D.dt : Nat) < D.al := q2
 have hgt : GtA X.A D.dt := ⟨Nat.lt_trans g1 q1, Nat.lt_trans g2 q1, Nat.lt_trans g3 q1, Nat.lt_trans g4 q1, Nat.lt_trans g5 q1, Nat.lt_trans g6 q1, Nat.lt_trans g7 q1, Nat.lt_trans g8 q1⟩
 refine xAAAAAAA (id hgt) fun g1 g2 g3 g4 g5 g6 g7 g8 => ?_
 have hga : GtA X.A D.al := ⟨Nat.lt_trans g1 q2, Nat.lt_trans g2 q2, Nat.lt_trans g3 q2, Nat.lt_trans g4 q2, Nat.lt_trans g5 q2, Nat.lt_trans g6 q2, Nat.lt_trans g7 q2, Nat.lt_trans g8 q2⟩
 have hO : OffT X.A (dlN K2 D (kindS kd) (chS nm) false k0 ++ (dl ++ rest)) := offT_cons hga (offT_cons hgt (offT_cons hg T.offT))
 refine ⟨⟨hA, hO⟩, TK0, _, _, _, rfl, hA, { T with outs := T.outs.mono fun p hp => mem_ends hp, ers := T.ers.mono fun p hp => mem_ends hp, draft := by rw [hX]; exact .noval D K2 k0 kd nm q1 q2, offL := fun p hp q hq => ?_, offT := hO }, fun p hp => mem_ends (hb p hp)⟩
 have hq' : q.1 < D.dd := hlt q (mem_ends hq)
 rcases List.mem_cons.mp hp with e | hp
 ·rw [e]; exact Nat.ne_of_gt (Nat.lt_trans hq' (Nat.lt_trans q1 q2))
 ·rcases List.mem_cons.mp hp with e | hp
  ·rw [e]; exact Nat.ne_of_gt (Nat.lt_trans hq' q1)
  ·rw [List.mem_singleton.mp hp]; exact Nat.ne_of_gt hq'
end
end Mine
end
section
open PySem PySem.W PyProof.Rows PySem.Calls
namespace Mine
section
variable {w : World} {d : Nat} {cs : Scope} {c : FD w d cs} {l : ANs} {X : TX} {cf : Cfg}
theorem dr_nothing {v : Value} {dl : Led} (h : DrAt v none dl) : v = .none := by cases h; rfl
theorem s_draft0 {K : AV → Cfg → Prop} (hX : X.dr = DrAt) (hc : cf.draft = none) (h : K .n cf) : JO1 (tsD X) c AV.Is (fun v => getAttr v (ofString "draft") true) (.r X.A.t) l cf K := s_getG h fun v dl rest T => by
 have hdr := T.draft
 rw [hX, hc] at hdr
 exact ⟨.none, (show _ = some v.draft from rfl).trans (congrArg some (dr_nothing hdr)), rfl, fun n => .n⟩
theorem o_isnotNN {σ : Type} {den : σ → Led → Prop} {S : σ} {K : Bool → σ → Prop} (h : K false S) : CmpK den c .IsNot .n .n l S K := fun s Q E m n x y F M N hS i1 i2 k => by (first | obtain rfl := i1.inv | obtain ⟨_, rfl⟩ := i1.inv | cases i1); (first | obtain rfl := i2.inv | obtain ⟨_, rfl⟩ := i2.inv | cases i2); exact isnot_none_none (k _ _ _ _ _ _ F .refl N hS rfl h)
theorem o_isnotRN {σ : Type} {den : σ → Led → Prop} {S : σ} {K : Bool → σ → Prop} {a : Addr} (h : K true S) : CmpK den c .IsNot (.r a) .n l S K := fun s Q E m n x y F M N hS i1 i2 k => by (first | obtain rfl := i1.inv | obtain ⟨_, rfl⟩ := i1.inv | cases i1); (first | obtain rfl := i2.inv | obtain ⟨_, rfl⟩ := i2.inv | cases i2); exact isnot_ref_none (k _ _ _ _ _ _ F .refl N hS rfl h)
end
end Mine
end
section
open PySem PySem.W PyProof.Rows PySem.Calls
namespace Mine
section
variable {prog : Program} {w : World} {A : Around} {E : Value → Shared → Prop} {s : Shared} {env : Env} {h₀ : Heap} {x : PySem.Str} {body : List Stmt} {Q : Flow → Shared → Prop}
theorem loopI {I : Addr} {fp : List Addr} {n : Nat} {P : Nat → Value → Prop} {St : Nat → Heap → Prop} {m₀ : PySem.Str → Option Value} {news : Led} (J : Nat → (PySem.Str → Option Value) → Led → Prop)
  (W : Walks prog w A I fp [I] n P St) (hIf : I ∈ fp) (hLf : env.locals ∉ fp) (hbn : h₀.get? I = none) (hob : ∀ i h, St i h → ∃ o, h.get? I = some o ∧ o.cls ≠ .type "tuple")
  (hfp : ∀ b ∈ fp, b = I ∨ ∃ o, ∀ i m nx, J i m nx → (b, o) ∈ nx) (hnew : ∀ q ∈ news, q.1 ≠ I) (hst : St 0 s.heap)
  (F : Fr h₀ env.locals s.heap m₀) (N : News h₀ env.locals s.heap news) (hj : J 0 m₀ news)
  (turn : ∀ i v m₁ nx h tk io, i < n → P i v → io.cls ≠ .type "tuple" → (∀ p ∈ nx, p.1 ≠ I) → J i m₁ nx → Fr h₀ env.locals h (fun y => if y = x then some v else m₁ y) → News h₀ env.locals h (nx ++ [(I, io)]) →
   wpAny (model prog w) A (execs body env) (InvPostG h₀ env.locals (J (i + 1)) [(I, io)] { s with heap := h, toks := tk } Q) E { s with heap := h, toks := tk })
  (done : ∀ m₁ nx h tk, J n m₁ nx → Fr h₀ env.locals h m₁ → News h₀ env.locals h nx → Q .next { s with heap := h, toks := tk }) :
  LoopAtV prog w A h₀ env x body Q E (.ref I) s := by
 refine ⟨I, fp, [I], n, P, St, m₀, news, fun i m nx => J i m nx ∧ ∀ q ∈ nx, q.1 ≠ I, rfl, W, hLf, fun b hb => by rw [List.mem_singleton.mp hb]; exact hbn, fun p hp hb => hnew p hp (List.mem_singleton.mp hb), hst, F, N, ⟨hj, hnew⟩, ?_, ?_⟩
 ·intro i v m₁ news₁ s₁ own zf39 hin hP zf40 hoff hown hget hmem hst' F₁ N₁
  refine xEE zf39 fun hh' tk' zq1 => ?_
  subst zq1
  obtain ⟨hJ, hnf⟩ := zf40
  refine xEA (hob _ _ hst') fun io hio hcl => ?_
  have hIo : (I, io) ∈ own := hmem _ hIf hbn io hio
  have N₂ : News h₀ env.locals hh' (news₁ ++ [(I, io)]) := fun p hp => N₁ p ((List.mem_append.mp hp).elim (fun h => List.mem_append.mpr (.inr h)) fun h => List.mem_append.mpr (.inl (by rw [List.mem_singleton.mp h]; exact hIo)))
  refine wpAny_mono (turn i v m₁ news₁ hh' tk' io hin hP hcl hnf hJ F₁ N₂) (fun f s₂ p => ?_) fun _ _ e => e
  have fin : InvEndG h₀ env.locals (J (i + 1)) [(I, io)] { s with heap := hh', toks := tk' } s₂ → LoopStepU h₀ env.locals [I] own (fun m nx => J (i + 1) m nx ∧ ∀ q ∈ nx, q.1 ≠ I) { s with heap := hh', toks := tk' } .next s₂ := by
   intro zf41
   refine xEEEEEAAAAAA zf41 fun h' tk m' news' nx e F' N' hn ho ha hm => ?_
   have hnf' : ∀ q ∈ nx, q.1 ≠ I := fun q hq e => ha _ (.head _) q.1 (List.mem_map.mpr ⟨q, hq, rfl⟩) e.symm
   refine ⟨rfl, h', tk, m', nx, e, F', fun p hp => ?_, fun p hp hw => hnf' p hp (List.mem_singleton.mp hw), hm, hnf'⟩
   rcases List.mem_append.mp hp with hp | hp
   ·have g1 := hget p hp
    rcases hfp _ (hown p hp) with e1 | ⟨o, e1⟩
    ·have e2 : p.2 = io := by rw [e1] at g1; exact Option.some.inj (g1.symm.trans hio)
     have e3 : p = (I, io) := by rw [← e1, ← e2]
     rw [e3]; exact N' _ (ho _ (.head _))
    ·have g2 := (N₂ _ (List.mem_append.mpr (.inl (e1 _ _ _ hJ)))).1
     have e2 : p.2 = o := Option.some.inj (g1.symm.trans g2)
     have e3 : p = (p.1, o) := by rw [← e2]
     rw [e3]; exact N' _ (hn _ (e1 _ _ _ hm))
   ·exact N' p (hn p hp)
  cases f with
  | ret v => exact .ret p
  | brk => exact .brk p
  | next => exact .next (fin p)
  | cont => exact .cont (fin p)
 ·rintro h' tk m' news' F' N' _ ⟨hJ, _⟩
  exact done m' news' h' tk hJ F' N'
end
structure Own {σ : Type} (den den' : σ → Led → Prop) (I : Addr) (io : Obj) : Prop where
 put : ∀ {S nx}, den S nx → (∀ p ∈ nx, p.1 ≠ I) → den' S (nx ++ [(I, io)])
 take : ∀ {S n h₀ L h S0 nx0}, den S0 nx0 → (∀ p ∈ nx0, p.1 ≠ I) → den' S n → News h₀ L h n → ∃ nx, (∀ p ∈ nx, p ∈ n) ∧ (I, io) ∈ n ∧ (∀ p ∈ nx, p.1 ≠ I) ∧ den S nx ∧ Gro n nx
noncomputable def Sub (l l' : ANs) : Prop := ∀ y b, l.lookup y = some b → l'.lookup y = some b
inductive SubL (l' : ANs) : ANs → Prop
 | nil : SubL l' []
 | cons {x : PySem.Str} {a : AV} {l : ANs} : l'.lookup x = some a → SubL l' l → SubL l' ((x, a) :: l)
theorem SubL.of {l' : ANs} : ∀ {l : ANs}, (l.map fun p => l'.lookup p.1) = (l.map fun p => some p.2) → SubL l' l
 | [], _ => .nil
 | (_, _) :: _, h => .cons (List.cons.inj h).1 (SubL.of (List.cons.inj h).2)
theorem SubL.sub {l l' : ANs} (h : SubL l' l) : Sub l l' := by
 induction h with
 | nil => exact fun y b e => nomatch e
 | @cons x a l h _ ih =>
  intro y b e
  rw [List.lookup_cons] at e
  by_cases q : y == x
  ·rw [q] at e
   cases e
   rw [eq_of_beq q]; exact h
  ·rw [Bool.not_eq_true] at q
   rw [q] at e
   exact ih y b e
theorem Names.sub {n : Led} {l l' : ANs} {m : PySem.Str → Option Value} (h : Names n l' m) (s : Sub l l') : Names n l m := fun x a e => h x a (s x a e)
section
variable {w : World} {d : Nat} {cs : Scope} {σ γ : Type} {den : σ → Led → Prop} {c : FD w d cs} {l : ANs} {S : σ}
noncomputable def LoopK (K : AF → ANs → σ → Prop) (J : Nat → γ → σ → Prop) (L : Nat → γ → σ → ANs) (i : Nat) : AF → ANs → σ → Prop := fun f l' S' => match f with
 | .nxt => ∃ g', J i g' S' ∧ SubL l' (L i g' S')
 | .ret a => K (.ret a) l' S'
theorem loop_core {K : AF → ANs → σ → Prop} {x : PySem.Str} {body : List Stmt} {I : Addr} {fp : List Addr} {n : Nat} {P : Nat → Value → Prop} {St : Nat → Heap → Prop} (D : Addr → Obj → σ → Led → Prop) (hD : ∀ I io, io.cls ≠ .type "tuple" → Own den (D I io) I io) (item : Nat → AV) (J : Nat → γ → σ → Prop) (L : Nat → γ → σ → ANs) (g0 : γ)
  {s : Shared} {Q : Flow → Shared → Prop} {m : PySem.Str → Option Value} {n0 : Led}
  (W : Walks PG w c.A I fp [I] n P St) (hIf : I ∈ fp) (hLf : c.L ∉ fp) (hbn : c.h₀.get? I = none) (hob : ∀ i h, St i h → ∃ o, h.get? I = some o ∧ o.cls ≠ .type "tuple")
  (hfp : ∀ b ∈ fp, b = I ∨ ∃ o, ∀ S nx, den S nx → (b, o) ∈ nx) (hnew : ∀ q ∈ n0, q.1 ≠ I) (hst : St 0 s.heap)
  (hit : ∀ i v S nx, P i v → den S nx → i < n → (item i).Is nx v)
  (F : Fr c.h₀ c.L s.heap m) (M : Names n0 l m) (N : News c.h₀ c.L s.heap n0) (hS : den S n0) (hj : J 0 g0 S) (hl : SubL l (L 0 g0 S))
  (turn : ∀ I io, io.cls ≠ .type "tuple" → ∀ i g S, i < n → J i g S → JX (D I io) c (execs body c.env) ((x, item i) :: L i g S) S (LoopK K J L (i + 1)))
  (done : ∀ g S, J n g S → K .nxt (L n g S) S)
  (k : ∀ v b l' S' m' n' h' tk', Fr c.h₀ c.L h' m' → Gro n0 n' → Names n' l' m' → News c.h₀ c.L h' n' → den S' n' → AF.Is n' b v → K b l' S' → Q v { s with heap := h', toks := tk' }) :
  LoopAtV PG w c.A c.h₀ c.env x body Q (fun _ _ => False) (.ref I) s := by
 refine loopI (fun i m nx => ∃ g S, J i g S ∧ den S nx ∧ Names nx (L i g S) m ∧ Gro n0 nx) W hIf hLf hbn hob ?_ hnew hst F N ⟨g0, S, hj, hS, M.sub hl.sub, .refl⟩ ?_ ?_
 ·intro b hb
  rcases hfp b hb with e | ⟨o, h⟩
  ·exact .inl e
  ·exact .inr ⟨o, fun i m nx ⟨g, S, _, hS, _⟩ => h S nx hS⟩
 ·intro i v m₁ nx h tk io hi hP hcl hne zf43 F1 N1
  refine xEEAAA zf43 fun g S1 hJ hS1 M1 G1 => ?_
  have hO := hD I io hcl
  have M2 : Names (nx ++ [(I, io)]) ((x, item i) :: L i g S1) (fun y => if y = x then some v else m₁ y) := (M1.store (hit i v S1 nx hP hS1 hi)).mono (Gro.of fun p hp => mem_left hp)
  refine turn I io hcl i g S1 hi hJ _ _ _ _ _ F1 M2 N1 (hO.put hS1 hne) fun fl b l' S' m' n' h' tk' F' g' M' N' hS' i' hK => ?_
  refine xEAAAA (hO.take hS1 hne hS' N') fun nx' t1 t2 t3 t4 t5 => ?_
  have G' : Gro n0 nx' := G1.trans ((Gro.of fun p hp => mem_left hp).trans (g'.trans t5))
  cases i' with
  | nxt =>
   refine xEA hK fun g2 hJ2 hs2 => ?_
   exact InvEndG.intro F' N' ⟨g2, S', hJ2, t4, (M'.sub hs2.sub).mono t5, G'⟩ (fun p hp b hb e => by
    rw [List.mem_singleton.mp hp] at e
    refine xEA (List.mem_map.mp hb) fun q hq zq2 => ?_
    subst zq2
    exact t3 q hq e.symm) t1 fun p hp => by rw [List.mem_singleton.mp hp]; exact t2
  | ret i' => exact k _ _ l' S' m' nx' h' tk' F' G' (M'.mono t5) (fun p hp => N' p (t1 p hp)) t4 (.ret (i'.mono t5)) hK
 ·intro m₁ nx h tk zf44 F1 N1
  refine xEEAAA zf44 fun g S1 hJ hS1 M1 G1 => ?_
  exact k _ _ _ _ _ _ _ _ F1 G1 M1 N1 hS1 .nxt (done g S1 hJ)
end
end Mine
end
section
open PySem PySem.W PyProof.Rows PySem.Calls
namespace Mine
theorem LIs.getD {n : Led} : ∀ {as : List AV} {vs : List Value} {i : Nat} {v : Value}, LIs n as vs → i < as.length → vs[i]? = some v → (as.getD i .n).Is n v
 | _, _, 0, _, .cons q _, _, e => by cases e; exact q
 | _, _, i + 1, _, .cons _ r, h, e => LIs.getD (i := i) r (Nat.lt_of_succ_lt_succ h) (by simpa using e)
 | _, _, _, _, .nil, h, _ => absurd h (Nat.not_lt_zero _)
theorem small_rangeN {n : Nat} (h : n ≤ 100000) : Builtin.Range.small 0 (n : Int) 1 = true ∧ Builtin.Range.rangeSize 0 (n : Int) 1 = (n : Int) :=
 ⟨small_one (by decide) (by decide) (by lia) (by lia), by rw [rangeSize_one]; split <;> lia⟩
section
variable {w : World} {d : Nat} {cs : Scope} {σ γ : Type} {den : σ → Led → Prop} {c : FD w d cs} {l : ANs} {S : σ}
theorem for_cls : (c.env.scope.kind == .class || (c.env.scope.kind == .module && c.env.locals != c.env.globals)) = false := by
 show (cs.kind == .class || (cs.kind == .module && _)) = false
 rw [c.hk]; rfl
theorem e_callT {K : AV → σ → Prop} {x : PySem.Str} {xp p : Pos} {T : String} {e0 : Expr} {es : List Expr} (B : BName w x (.type T)) (hx : isGlob cs x = true) (hp : (e0 :: es).all starP = true) (h : JL den c (spliced (backTo p (starEach (e0 :: es) c.env))) l S fun as S1 => JOL den c AV.Is (fun vs => call (.type T) vs) as l S1 K) : JE den c (eval (.Call (.Name x xp) (e0 :: es) [] p) c.env) l S K := fun s Q E m n F M N hS k => by
 have T := c.T
 have X := c.X
 rw [List.all_cons, Bool.and_eq_true] at hp
 refine Call_ ?_ rfl
 refine nameX_B F X (by k_asm) B.e B.hv B.hn ?_ c.hk (isGlob_spec hx) B.hd
 exact PyProof.Rows.callWith_type1 (h s _ E m n F M N hS fun vs as S1 n1 h1 t1 F1 g1 N1 hS1 i1 h2 => h2 _ _ E m n1 _ F1 (M.mono g1) N1 hS1 i1 fun y v S2 n2 h3 t3 F3 g3 N3 hS3 i3 h4 => k _ _ _ _ _ _ F3 (g1.trans g3) N3 hS3 i3 h4) (star_plain hp.1) (noStars _ _ _ hp.2)
theorem cls_str {I : Addr} {T : String} {x : PySem.Str} {t : Tok} {i : Nat} {h : Heap} (hT : T ≠ "tuple") (hs : h.IsStrIter I T x t i) : ∃ o, h.get? I = some o ∧ o.cls ≠ .type "tuple" := by
 refine xEAA hs fun o ho hc _ => ?_
 exact ⟨o, ho, fun q => hT (by rw [hc] at q; exact Value.type.inj q)⟩
theorem x_forS {K : AF → ANs → σ → Prop} {x : PySem.Str} {px p : Pos} {iter : Expr} {body : List Stmt} {xs : List Nat} (D : Addr → Obj → σ → Led → Prop) (hD : ∀ I io, io.cls ≠ .type "tuple" → Own den (D I io) I io) (J : Nat → γ → σ → Prop) (L : Nat → γ → σ → ANs) (g0 : γ)
  (hx : isLoc cs x = true) (hf : ∀ y, foldedSetIterable iter c.env y = pure y)
  (h : JE den c (eval iter c.env) l S fun a S1 => a = .s (⟨xs.toArray⟩ : PySem.Str) ∧ J 0 g0 S1 ∧ SubL l (L 0 g0 S1))
  (turn : ∀ I io, io.cls ≠ .type "tuple" → ∀ i g S, i < xs.length → J i g S → JX (D I io) c (execs body c.env) ((x, .s (chS (xs.getD i 0))) :: L i g S) S (LoopK K J L (i + 1)))
  (done : ∀ g S, J xs.length g S → K .nxt (L xs.length g S) S) : JX den c (exec (.For (.Name x px) iter body [] p) c.env) l S K := fun s Q E m n F M N hS k => by
 refine wpAny_mono (E := fun _ _ => False) (For_invV c.h₀ (isLoc_spec hx) for_cls ?_ hf .never) (fun _ _ h => h) (fun _ _ h => h.elim)
 refine h s _ _ m n F M N hS fun v a S1 n1 h1 t1 F1 g1 N1 hS1 i1 h2 => ?_
 refine xAA h2 fun zq1 hj hl => ?_
 subst zq1
 cases i1 using AV.Is.s_elim with
 | s t =>
 have hLL : c.L ∉ [h1.objs.size] := fun hm => absurd F1.ns.lt ((List.mem_singleton.mp hm) ▸ Nat.lt_irrefl _)
 have hnw : ∀ q ∈ n1, q.1 ≠ h1.objs.size := fun p hp hI => absurd (Heap.lt_size (N1 p hp).1) (hI ▸ Nat.lt_irrefl _)
 have hN : ∀ o, News c.h₀ c.L (h1.push o) n1 := fun o p hp => ⟨Heap.get?_push_of_some _ (N1 p hp).1, (N1 p hp).2⟩
 have hit : ∀ i v S nx, SignAt (⟨xs.toArray⟩ : PySem.Str) i v → den S nx → i < xs.length → (AV.s (chS (xs.getD i 0))).Is nx v := fun i v S nx hP _ hi => by
  refine xEEA hP fun ch u hc zq2 => ?_
  subst zq2
  have e : xs.getD i 0 = ch := by
   have : xs[i]? = some ch := by simpa using hc
   rw [List.getD_eq_getElem?_getD, this]; rfl
  rw [e]; exact .s _ _
 have sz : (⟨xs.toArray⟩ : PySem.Str).cps.size = xs.length := by simp
 cases ha : (⟨xs.toArray⟩ : PySem.Str).cps.all (· < 128)
 ·refine wpAny_pyIter_wide ha ?_
  have W := Walks.strWide (prog := PG) (w := w) (A := c.A) c_handled h1.objs.size ⟨xs.toArray⟩ t
  rw [sz] at W
  refine loop_core D hD (fun i => .s (chS (xs.getD i 0))) J L g0 W (.head _) hLL (next_is_new F1) (fun i h hs => cls_str (by decide) hs) (fun b hb => .inl (List.mem_singleton.mp hb)) hnw ⟨_, Heap.get?_push_size _ rfl, rfl, rfl⟩ hit (F1.push _) (M.mono g1) (hN _) hS1 hj hl turn done fun v b l' S' m' n' h' tk' F' g' M' N' hS' i' hK => k v b l' S' m' n' h' tk' F' (g1.trans g') M' N' hS' i' hK
 ·refine wpAny_pyIter_ascii ha ?_
  have W := Walks.strAscii (prog := PG) (w := w) (A := c.A) c_handled h1.objs.size ⟨xs.toArray⟩ t
  rw [sz] at W
  refine loop_core D hD (fun i => .s (chS (xs.getD i 0))) J L g0 W (.head _) hLL (next_is_new F1) (fun i h hs => cls_str (by decide) hs) (fun b hb => .inl (List.mem_singleton.mp hb)) hnw ⟨_, Heap.get?_push_size _ rfl, rfl, rfl⟩ hit (F1.push _) (M.mono g1) (hN _) hS1 hj hl turn done fun v b l' S' m' n' h' tk' F' g' M' N' hS' i' hK => k v b l' S' m' n' h' tk' F' (g1.trans g') M' N' hS' i' hK
theorem x_forR {K : AF → ANs → σ → Prop} {x : PySem.Str} {px pr pc p : Pos} {e : Expr} {body : List Stmt} (B : BName w (ofString "range") (.type "range")) (n : Nat) (D : Addr → Obj → σ → Led → Prop) (hD : ∀ I io, io.cls ≠ .type "tuple" → Own den (D I io) I io) (J : Nat → γ → σ → Prop) (L : Nat → γ → σ → ANs) (g0 : γ)
  (hn : n ≤ 100000) (hx : isLoc cs x = true) (hg : isGlob cs (ofString "range") = true) (hp : starP e = true) (hf : ∀ y, foldedSetIterable (.Call (.Name (ofString "range") pr) [e] [] pc) c.env y = pure y)
  (h : JE den c (eval e c.env) l S fun a S1 => a = .i (n : Int) ∧ J 0 g0 S1 ∧ SubL l (L 0 g0 S1))
  (turn : ∀ I io, io.cls ≠ .type "tuple" → ∀ i g S, i < n → J i g S → JX (D I io) c (execs body c.env) ((x, .i (i : Int)) :: L i g S) S (LoopK K J L (i + 1)))
  (done : ∀ g S, J n g S → K .nxt (L n g S) S) : JX den c (exec (.For (.Name x px) (.Call (.Name (ofString "range") pr) [e] [] pc) body [] p) c.env) l S K := fun s Q E m n0 F M N hS k => by
 have T := c.T
 have X := c.X
 refine wpAny_mono (E := fun _ _ => False) (For_invV c.h₀ (isLoc_spec hx) for_cls ?_ hf .never) (fun _ _ h => h) (fun _ _ h => h.elim)
 refine Call_ ?_ rfl
 refine nameX_B F X (by k_asm) B.e B.hv B.hn ?_ c.hk (isGlob_spec hg) B.hd
 refine PyProof.Rows.callWith_type1 (args_cons (h s _ _ m n0 F M N hS fun v a S1 n1 h1 t1 F1 g1 N1 hS1 i1 h2 => args_nil ?_) (star_plain hp)) (star_plain hp) (noStars _ _ _ rfl)
 refine xAA h2 fun zq3 hj hl => ?_
 subst zq3
 cases i1 using AV.Is.i_elim with
 | i t =>
 refine call_range_1 ?_
 have hsr := small_rangeN hn
 have N2 : ∀ o, News c.h₀ c.L (h1.push o) n1 := fun o p hp => ⟨Heap.get?_push_of_some _ (N1 p hp).1, (N1 p hp).2⟩
 have F2 := F1.push { cls := .type "range", data := .fields #[.int 0 t1, .int (n : Int) t, .int 1 (t1 + 1)] }
 refine wpAny_pyIter_range (IsRange.new ..) hsr.1 ?_
 have N3 := N2 { cls := .type "range", data := .fields #[.int 0 t1, .int (n : Int) t, .int 1 (t1 + 1)] }
 have hnw : ∀ q ∈ n1, q.1 ≠ (h1.push { cls := .type "range", data := .fields #[.int 0 t1, .int (n : Int) t, .int 1 (t1 + 1)] }).objs.size := fun p hp hI => absurd (Heap.lt_size (N3 p hp).1) (hI ▸ Nat.lt_irrefl _)
 refine loop_core D hD (fun i => .i (i : Int)) J L g0 (Walks.range c_handled _ 0 1 n) (.head _) (fun hm => absurd F2.ns.lt ((List.mem_singleton.mp hm) ▸ Nat.lt_irrefl _)) (next_is_new F2) (fun i h hs => ⟨_, hs, by simp⟩) (fun b hb => .inl (List.mem_singleton.mp hb)) hnw
  (by show _ = _; rw [hsr.2]; refine (Heap.get?_push_size _ rfl).trans ?_; simp) (fun i v S nx hP _ _ => by obtain ⟨u, rfl⟩ := hP; rw [show (0 : Int) + (i : Int) * 1 = (i : Int) by lia]; exact .i _ _) (F2.push _) (M.mono g1) (fun p hp => ⟨Heap.get?_push_of_some _ (N3 p hp).1, (N3 p hp).2⟩) hS1 hj hl turn done fun v b l' S' m' n' h' tk' F' g' M' N' hS' i' hK => k v b l' S' m' n' h' tk' F' (g1.trans g') M' N' hS' i' hK
theorem x_forL {K : AF → ANs → σ → Prop} {x : PySem.Str} {px p : Pos} {iter : Expr} {body : List Stmt} {la : Addr} {vs : List Value} {k0 : Nat} (as : List AV) (D : Addr → Obj → σ → Led → Prop) (hD : ∀ I io, io.cls ≠ .type "tuple" → Own den (D I io) I io) (J : Nat → γ → σ → Prop) (L : Nat → γ → σ → ANs) (g0 : γ)
  (hx : isLoc cs x = true) (hf : ∀ y, foldedSetIterable iter c.env y = pure y) (hla : ∀ S nx, den S nx → (la, listOf vs.toArray k0) ∈ nx ∧ LIs nx as vs)
  (h : JE den c (eval iter c.env) l S fun a S1 => a = .r la ∧ J 0 g0 S1 ∧ SubL l (L 0 g0 S1))
  (turn : ∀ I io, io.cls ≠ .type "tuple" → ∀ i g S, i < as.length → J i g S → JX (D I io) c (execs body c.env) ((x, as.getD i .n) :: L i g S) S (LoopK K J L (i + 1)))
  (done : ∀ g S, J as.length g S → K .nxt (L as.length g S) S) : JX den c (exec (.For (.Name x px) iter body [] p) c.env) l S K := fun s Q E m n F M N hS k => by
 refine wpAny_mono (E := fun _ _ => False) (For_invV c.h₀ (isLoc_spec hx) for_cls ?_ hf .never) (fun _ _ h => h) (fun _ _ h => h.elim)
 refine h s _ _ m n F M N hS fun v a S1 n1 h1 t1 F1 g1 N1 hS1 i1 h2 => ?_
 refine xAA h2 fun zq4 hj hl => ?_
 subst zq4
 (first | obtain rfl := i1.inv | obtain ⟨_, rfl⟩ := i1.inv | cases i1)
 obtain ⟨hm0, hL0⟩ := hla _ _ hS1
 have hl0 := N1 _ hm0
 have hls : h1.IsList la vs.toArray := ⟨_, hl0.1, rfl, _, rfl⟩
 have hne : la ≠ h1.objs.size := Nat.ne_of_lt (Heap.lt_size hl0.1)
 have hsz : vs.toArray.size = as.length := by rw [List.size_toArray, hL0.len]
 refine wpAny_pyIter_list hls ?_
 refine loop_core D hD (fun i => as.getD i .n) J L g0 (hsz ▸ Walks.list (prog := PG) (w := w) c_handled h1.objs.size la hne vs.toArray) (.head _) ?_ (next_is_new F1) (fun i h hs => ?_) (fun b hb => ?_) (fun p hp hI => absurd (Heap.lt_size (N1 p hp).1) (hI ▸ Nat.lt_irrefl _)) ⟨⟨_, Heap.get?_push_size _ rfl, rfl, rfl⟩, hls.at fun o e => Heap.get?_push_of_some _ e⟩ ?_ (F1.push _) (M.mono g1) (fun p hp => ⟨Heap.get?_push_of_some _ (N1 p hp).1, (N1 p hp).2⟩) hS1 hj hl turn done fun v b l' S' m' n' h' tk' F' g' M' N' hS' i' hK => k v b l' S' m' n' h' tk' F' (g1.trans g') M' N' hS' i' hK
 ·intro hm
  rcases List.mem_cons.mp hm with e | hm
  ·exact absurd F1.ns.lt (e ▸ Nat.lt_irrefl _)
  ·exact hl0.2.1 (List.mem_singleton.mp hm).symm
 ·obtain ⟨⟨o, ho, hc, _⟩, _⟩ := hs
  exact ⟨o, ho, by rw [hc]; simp⟩
 ·rcases List.mem_cons.mp hb with e | hb
  ·exact .inl e
  ·rw [List.mem_singleton.mp hb]
   exact .inr ⟨_, fun S nx hS => (hla S nx hS).1⟩
 ·exact fun i v S nx hP hS hi => (hla S nx hS).2.getD hi (by simpa using hP)
end
end Mine
end
section
open PySem PySem.W PyProof.Rows PySem.Calls
namespace Mine
noncomputable abbrev TX.plus (X : TX) (I : Addr) (io : Obj) : TX := { X with base := X.base ++ [(I, io)] }
theorem offT_ne {A : TA} {K : TK} {v : TV} {R : Led} {I : Addr} (h : ∀ p ∈ tokLed A K v, p.1 ≠ I) {io : Obj} (g : OffT A R) : OffT A (R ++ [(I, io)]) := by
 have q : ∀ {b : Addr}, b ≠ I → (∀ p ∈ R, p.1 ≠ b) → ∀ p ∈ R ++ [(I, io)], p.1 ≠ b := fun hb g p hp => by
  rcases List.mem_append.mp hp with hp | hp
  ·exact g p hp
  ·rw [List.mem_singleton.mp hp]; exact hb.symm
 refine xAAAAAAA g fun p1 p2 p3 p4 p5 p6 p7 p8 => ?_
 exact ⟨q (h (A.t, _) (.head _)) p1, q (h (A.td, _) (.tail _ (.head _))) p2, q (h (A.s, _) (.tail _ (.tail _ (.head _)))) p3, q (h (A.sd, _) (.tail _ (.tail _ (.tail _ (.head _))))) p4, q (h (A.sg, _) (.tail _ (.tail _ (.tail _ (.tail _ (.head _)))))) p5, q (h (A.se, _) (.tail _ (.tail _ (.tail _ (.tail _ (.tail _ (.head _))))))) p6, q (h (A.ou, _) (.tail _ (.tail _ (.tail _ (.tail _ (.tail _ (.tail _ (.head _)))))))) p7, q (h (A.er, _) (.tail _ (.tail _ (.tail _ (.tail _ (.tail _ (.tail _ (.tail _ (.head _))))))))) p8⟩
theorem tok_off {A : TA} {K : TK} {v : TV} {a : Addr} {o : Obj} {R : Led} (h : OffT A R) (hm : (a, o) ∈ R) : ∀ p ∈ tokLed A K v, p.1 ≠ a := fun p hp => by
 refine xAAAAAAA h fun o1 o2 o3 o4 o5 o6 o7 o8 => ?_
 simp only [tokLed, List.mem_cons, List.not_mem_nil, or_false] at hp
 rcases hp with h | h | h | h | h | h | h | h <;> rw [h]
 ·exact fun e => o1 _ hm e.symm
 ·exact fun e => o2 _ hm e.symm
 ·exact fun e => o3 _ hm e.symm
 ·exact fun e => o4 _ hm e.symm
 ·exact fun e => o5 _ hm e.symm
 ·exact fun e => o6 _ hm e.symm
 ·exact fun e => o7 _ hm e.symm
 ·exact fun e => o8 _ hm e.symm
theorem ts_take (X : TX) (I : Addr) (io : Obj) (hc : io.cls ≠ .type "tuple") {S : Cfg} {n nx0 : Led} {h₀ h : Heap} {L : Addr} (hb0 : ∀ p ∈ X.base, p ∈ nx0) (hne : ∀ p ∈ nx0, p.1 ≠ I) (hS : tsD (X.plus I io) S n) (N : News h₀ L h n) : ∃ nx, (∀ p ∈ nx, p ∈ n) ∧ (I, io) ∈ n ∧ (∀ p ∈ nx, p.1 ≠ I) ∧ tsD X S nx ∧ Gro n nx := by
 refine xEEEEAAA hS fun TK0 v dl rest zq1 hA T hb => ?_
 subst zq1
 have hm : (I, io) ∈ rest := hb _ (mem_ends (.head _))
 have hR : News h₀ L h rest := fun p hp => N p (mem_ends (mem_ends hp))
 have hs : ∀ a n vs, (a, ({ cls := .type "tuple", data := .seq (List.toArray vs) n } : Obj)) ∈ rest → (a, ({ cls := .type "tuple", data := .seq (List.toArray vs) n } : Obj)) ∈ offI I rest := fun a n vs hp => mem_offI.mpr ⟨hp, fun e => by
  have h1 := (hR _ hp).1
  have h2 := (hR _ hm).1
  rw [e, h2] at h1
  have h3 : io = _ := Option.some.inj h1
  exact hc (by rw [h3])⟩
 have hsub : ∀ p ∈ offI I rest, p ∈ rest := fun p hp => (mem_offI.mp hp).1
 have hsub2 : ∀ p ∈ dl ++ offI I rest, p ∈ dl ++ rest := fun p hp => (List.mem_append.mp hp).elim (fun z => mem_left z) (fun z => mem_ends (hsub p z))
 refine ⟨tokLed X.A TK0 v ++ (dl ++ offI I rest), fun p hp => ?_, mem_ends (mem_ends hm), fun p hp => ?_, ⟨TK0, v, dl, offI I rest, rfl, hA, { T with
  outs := DatAll.off hs 4 T.outs T.nolO
  ers := DatAll.off hs 4 T.ers T.nolE
  offL := fun p hp q hq => T.offL p hp q (hsub q hq)
  offT := offT_perm hsub2 T.offT }, fun p hp => mem_offI.mpr ⟨hb p (mem_left hp), hne p (hb0 p hp)⟩⟩, fun a k vs q => mem_ends (mem_ends (hs a k vs (ts_tup (X.nt T.draft) q)))⟩
 ·rcases List.mem_append.mp hp with hp | hp
  ·exact mem_left hp
  ·exact mem_ends (hsub2 p hp)
 ·rcases List.mem_append.mp hp with hp | hp
  ·exact fun e => tok_off T.offT (mem_ends hm) p hp e
  ·rcases List.mem_append.mp hp with hp | hp
   ·exact T.offL p hp _ hm
   ·exact (mem_offI.mp hp).2
theorem ts_own (X : TX) (I : Addr) (io : Obj) (hc : io.cls ≠ .type "tuple") : Own (tsD X) (tsD (X.plus I io)) I io where
 put := fun {S nx} hS hne => by
  refine xEEEEAAA hS fun TK0 v dl rest zq2 hA T hb => ?_
  subst zq2
  refine ⟨TK0, v, dl, rest ++ [(I, io)], by rw [List.append_assoc, List.append_assoc], hA, { T with
   outs := T.outs.mono fun p hp => mem_left hp
   ers := T.ers.mono fun p hp => mem_left hp
   offL := fun p hp q hq => ?_
   offT := ?_ }, fun p hp => ?_⟩
  ·rcases List.mem_append.mp hq with hq | hq
   ·exact T.offL p hp q hq
   ·rw [List.mem_singleton.mp hq]; exact hne p (mem_ends (mem_left hp))
  ·rw [← List.append_assoc]
   exact offT_ne (fun p hp => hne p (mem_left hp)) T.offT
  ·rcases List.mem_append.mp hp with hp | hp
   ·exact mem_left (hb p hp)
   ·exact mem_ends hp
 take := fun hS0 hne hS N => ts_take X I io hc (tsD.base hS0) hne hS N
end Mine
end
section
open PySem PySem.W PyProof.Rows PySem.Calls
namespace Mine
structure DX where
 D : DA
 K2 : TK
 k3 : Nat
 k4 : Nat
 u1 : Tok
 u3 : Tok
 kd : Nat
 nm : Nat
 val : Option (List Nat)
 q1 : D.dd < D.dt
 q2 : D.dt < D.al
 q3 : D.al < D.il
noncomputable def DX.att (x : DX) : Led := match x.val with
 | none => [(x.D.al, listOf [].toArray x.k3)]
 | some xs => [(x.D.il, listOf [.str (ofString "") x.u1, .str ⟨xs.toArray⟩ x.u3, .bool true].toArray x.k4), (x.D.al, listOf [.ref x.D.il].toArray x.k3)]
noncomputable def DX.led (x : DX) (cl : Bool) : Led := x.att ++ [(x.D.dt, instObj 415 x.D.dd), (x.D.dd, dictOf (drEs x.K2 x.D (kindS x.kd) (chS x.nm) cl) 8)]
theorem DX.led_n {x : DX} {cl : Bool} (h : x.val = none) : x.led cl = dlN x.K2 x.D (kindS x.kd) (chS x.nm) cl x.k3 := by unfold DX.led DX.att; rw [h]; rfl
theorem DX.led_s {x : DX} {cl : Bool} {xs : List Nat} (h : x.val = some xs) : x.led cl = dlS x.K2 x.D (kindS x.kd) (chS x.nm) cl x.k3 x.k4 x.u1 x.u3 xs := by unfold DX.led DX.att; rw [h]; rfl
theorem DX.mt (x : DX) (cl : Bool) : (x.D.dt, instObj 415 x.D.dd) ∈ x.led cl := mem_ends (.head _)
theorem DX.md (x : DX) (cl : Bool) : (x.D.dd, dictOf (drEs x.K2 x.D (kindS x.kd) (chS x.nm) cl) 8) ∈ x.led cl := mem_ends (.tail _ (.head _))
noncomputable def DX.als (x : DX) : List Value := match x.val with | none => [] | some _ => [.ref x.D.il]
theorem DX.ma (x : DX) (cl : Bool) : (x.D.al, listOf x.als.toArray x.k3) ∈ x.led cl := by
 unfold DX.led DX.att DX.als
 cases x.val with
 | none => exact .head _
 | some xs => exact .tail _ (.head _)
theorem DX.tup (x : DX) {cl : Bool} {a : Addr} {k : Nat} {vs : List Value} (hm : (a, ({ cls := .type "tuple", data := .seq (List.toArray vs) k } : Obj)) ∈ x.led cl) : False := by
 unfold DX.led DX.att at hm
 split at hm
 ·simp only [List.mem_cons, List.cons_append, List.nil_append, List.not_mem_nil, or_false, Prod.mk.injEq] at hm
  rcases hm with ⟨_, h⟩ | ⟨_, h⟩ | ⟨_, h⟩
  all_goals (have := congrArg Obj.cls h; simp at this)
 ·simp only [List.mem_cons, List.cons_append, List.nil_append, List.not_mem_nil, or_false, Prod.mk.injEq] at hm
  rcases hm with ⟨_, h⟩ | ⟨_, h⟩ | ⟨_, h⟩ | ⟨_, h⟩
  all_goals (have := congrArg Obj.cls h; simp at this)
noncomputable def phD (k : Nat) : Option Dr := some ⟨k, 0, none⟩
inductive DX.Is (x : DX) (f : Bool) : Value → Option Dr → Led → Prop
 | p0 : DX.Is x f (.ref x.D.dt) (phD 0) (x.led false)
 | p1 : DX.Is x f (.ref x.D.dt) (phD 1) (x.led f)
 | p2 : DX.Is x f .none none (x.led f)
noncomputable abbrev XD (X : TX) (x : DX) (f : Bool) : TX := { X with dr := x.Is f, nt := fun h => by cases h <;> exact x.tup }
section
variable {w : World} {d : Nat} {cs : Scope} {c : FD w d cs} {l : ANs} {X : TX} {cf : Cfg} {x : DX} {f : Bool}
theorem DX.Is.ex {v : Value} {o : Option Dr} {dl : Led} (h : x.Is f v o dl) : ∃ cl, dl = x.led cl ∧ (o = phD 1 ∨ o = none ∨ f = false → cl = f) := by
 cases h with
 | p0 => exact ⟨false, rfl, fun h => by rcases h with h | h | h; (unfold phD at h; cases h); (unfold phD at h; cases h); exact h.symm⟩
 | p1 => exact ⟨f, rfl, fun _ => rfl⟩
 | p2 => exact ⟨f, rfl, fun _ => rfl⟩
noncomputable def DX.get (x : DX) (a : PySem.Str) : Option AV :=
 if a = ofString "kind" then some (.s (kindS x.kd)) else if a = ofString "name" then some (.s (chS x.nm)) else if a = ofString "attrs" then some (.r x.D.al) else none
theorem s_dgetG {K : AV → Cfg → Prop} {a : PySem.Str} {av : AV} {val : Bool → Value} (hf : findIn (hd.heap_1 w.params) (.ref 415) a = some none) (hg : ∀ cl, getL a (drEs x.K2 x.D (kindS x.kd) (chS x.nm) cl) = some (some (val cl)) ∧ handedIn (val cl) = true) (hi : ∀ cl n, (cf.draft = phD 1 ∨ cf.draft = none ∨ f = false → cl = f) → av.Is n (val cl)) (h : K av cf) : JO1 (tsD (XD X x f)) c AV.Is (fun v => getAttr v a true) (.r x.D.dt) l cf K := fun s Q E m n y F M N hS i k => by
 (first | obtain rfl := i.inv | obtain ⟨_, rfl⟩ := i.inv | cases i)
 refine xEEEEAAA hS fun TK0 v dl rest zq1 hA T hb => ?_
 subst zq1
 refine xEA (DX.Is.ex T.draft) fun cl zq2 hc => ?_
 subst zq2
 exact get_415 F c.X N (mem_ends (mem_left (x.mt cl))) (mem_ends (mem_left (x.md cl))) hf (hg cl).1 (hg cl).2 (k _ _ _ _ _ _ F .refl N ⟨TK0, v, _, rest, rfl, hA, T, hb⟩ (hi cl _ hc) h)
theorem s_dget {K : AV → Cfg → Prop} {a : PySem.Str} {av : AV} (e : x.get a = some av) (h : K av cf) : JO1 (tsD (XD X x f)) c AV.Is (fun v => getAttr v a true) (.r x.D.dt) l cf K := by
 unfold DX.get at e
 split at e
 ·cases e; rename_i q; subst q
  exact s_dgetG (val := fun _ => .str (kindS x.kd) (x.K2.k 10)) (fa_415_kind _) (fun cl => ⟨rfl, rfl⟩) (fun _ _ _ => .s _ _) h
 ·split at e
  ·cases e; rename_i q; subst q
   exact s_dgetG (val := fun _ => .str (chS x.nm) (x.K2.k 11)) (fa_415_name _) (fun cl => ⟨rfl, rfl⟩) (fun _ _ _ => .s _ _) h
  ·split at e
   ·cases e; rename_i q; subst q
    exact s_dgetG (val := fun _ => .ref x.D.al) (fa_415_attrs _) (fun cl => ⟨rfl, rfl⟩) (fun _ _ _ => .r _) h
   ·cases e
theorem s_dclosing {K : AV → Cfg → Prop} (e : cf.draft = phD 1) (h : K (.b f) cf) : JO1 (tsD (XD X x f)) c AV.Is (fun v => getAttr v (ofString "is_closing") true) (.r x.D.dt) l cf K :=
 s_dgetG (val := fun cl => .bool cl) (fa_415_is_closing _) (fun cl => ⟨rfl, rfl⟩) (fun cl n q => by rw [q (.inl e)]; exact .b _) h
theorem s_dref {K : AV → Cfg → Prop} (e : cf.draft = phD 0 ∨ cf.draft = phD 1) (h : K (.r x.D.dt) cf) : JO1 (tsD (XD X x f)) c AV.Is (fun v => getAttr v (ofString "draft") true) (.r X.A.t) l cf K := s_getG (X := XD X x f) h fun v dl rest T => by
 have hT := T.draft
 have : v.draft = .ref x.D.dt := by
  generalize v.draft = y at hT ⊢
  generalize cf.draft = o at hT e
  cases hT with
  | p0 => rfl
  | p1 => rfl
  | p2 => rcases e with e | e <;> cases e
 exact ⟨.ref x.D.dt, (show _ = some v.draft from rfl).trans (congrArg some this), rfl, fun n => .r _⟩
theorem s_dlen {K : AV → Cfg → Prop} (h : K (.i (x.als.length : Int)) cf) : JOL (tsD (XD X x f)) c AV.Is (fun vs => call (.builtin "len") vs) [.r x.D.al] l cf K := fun s Q E m n y F M N hS i k => by
 cases i using LIs.cons_elim with
 | cons i j =>
  (first | obtain rfl := i.inv | obtain ⟨_, rfl⟩ := i.inv | cases i)
  (first | obtain rfl := j.inv | obtain ⟨_, rfl⟩ := j.inv | cases j)
  refine xEEEEAAA hS fun TK0 v dl rest zq3 hA T hb => ?_
  subst zq3
  refine xEA (DX.Is.ex T.draft) fun cl zq4 hc => ?_
  subst zq4
  exact len_L N (mem_ends (mem_left (x.ma cl))) rfl (by unfold DX.als; split <;> simp) (k _ _ _ _ _ _ F .refl N ⟨TK0, v, _, rest, rfl, hA, T, hb⟩ (.i _ _) h)
theorem s_dmeth {name : PySem.Str} {g : Addr} (hf : findIn (hd.heap_1 w.params) (.ref 415) name = some (some (.ref g))) (ht : isFn (hd.heap_1 w.params) (.ref g) = true) (hn : ∀ cl, getL name (drEs x.K2 x.D (kindS x.kd) (chS x.nm) cl) = some none) : Meth (tsD (XD X x f)) c cf x.D.dt name g := fun s Q E m n pl F N hS h => by
 refine xEEEEAAA hS fun TK0 v dl rest zq5 hA T hb => ?_
 subst zq5
 refine xEA (DX.Is.ex T.draft) fun cl zq6 hc => ?_
 subst zq6
 exact meth_415 F c.X N (mem_ends (mem_left (x.mt cl))) (mem_ends (mem_left (x.md cl))) hf ht (hn cl) h
theorem s_setNoDraft {K : Unit → Cfg → Prop} (e : cf.draft = phD 1) (h : K () { cf with draft := none }) : SetK (tsD (XD X x f)) c (ofString "draft") (.r X.A.t) .n l cf K := s_setG (X := XD X x f) h fun v dl rest n val T i => by
 (first | obtain rfl := i.inv | obtain ⟨_, rfl⟩ := i.inv | cases i)
 have hT := T.draft
 refine ⟨_, rfl, { T with draft := ?_ }⟩
 generalize v.draft = y at hT
 generalize cf.draft = o at hT e
 cases hT with
 | p0 => cases e
 | p1 => exact .p2
 | p2 => cases e
theorem xd_open {n : Led} {dd : Dr} (hX : X.dr = DrAt) (hc : cf.draft = some dd) (h : tsD X cf n) : ∃ x : DX, x.kd = dd.kind ∧ x.nm = dd.name ∧ x.val = dd.val ∧ ∀ f, tsD (XD X x f) { cf with draft := phD 0 } n := by
 refine xEEEEAAA h fun TK0 v dl rest zq7 hA T hb => ?_
 subst zq7
 have hT := T.draft
 rw [hX, hc] at hT
 obtain ⟨kd, nm, val⟩ := dd
 cases val with
 | none =>
  refine xEEEAAA (dr_noval hT) fun D K2 k3 e1 q1 q2 zq8 => ?_
  subst zq8
  exact ⟨⟨{ D with il := D.al + 1 }, K2, k3, 0, 0, 0, kd, nm, none, q1, q2, Nat.lt_succ_self _⟩, rfl, rfl, rfl, fun f => ⟨TK0, v, _, rest, rfl, hA, { T with draft := by rw [e1]; exact .p0 }, hb⟩⟩
 | some xs =>
  refine xEEEEEEAAAA (dr_val hT) fun D K2 k3 k4 u1 u3 e1 q1 q2 q3 zq9 => ?_
  subst zq9
  exact ⟨⟨D, K2, k3, k4, u1, u3, kd, nm, some xs, q1, q2, q3⟩, rfl, rfl, rfl, fun f => ⟨TK0, v, _, rest, rfl, hA, { T with draft := by rw [e1]; exact .p0 }, hb⟩⟩
theorem xd_gone {n : Led} (hX : X.dr = DrAt) (hc : cf.draft = none) (h : tsD (XD X x f) cf n) : tsD X cf n := by
 refine xEEEEAAA h fun TK0 v dl rest zq10 hA T hb => ?_
 subst zq10
 have hT : x.Is f v.draft cf.draft dl := T.draft
 rw [hc] at hT
 have e1 : v.draft = .none := by generalize v.draft = y at hT; cases hT; rfl
 exact ⟨TK0, v, [], dl ++ rest, rfl, hA, { T with
  outs := T.outs.mono fun p hp => mem_ends hp
  ers := T.ers.mono fun p hp => mem_ends hp
  draft := by rw [hX, hc, e1]; exact .none
  offL := fun p hp => nomatch hp }, fun p hp => mem_ends (hb p hp)⟩
theorem xd_back {n : Led} (hX : X.dr = DrAt) (hc : cf.draft = some ⟨x.kd, x.nm, x.val⟩) (h : tsD (XD X x f) { cf with draft := phD 0 } n) : tsD X cf n := by
 refine xEEEEAAA h fun TK0 v dl rest zq11 hA T hb => ?_
 subst zq11
 have hT : x.Is f v.draft (phD 0) dl := T.draft
 have e1 : v.draft = .ref x.D.dt ∧ dl = x.led false := by
  generalize v.draft = y at hT
  generalize hp : phD 0 = o at hT
  cases hT with
  | p0 => exact ⟨rfl, rfl⟩
  | p1 => unfold phD at hp; cases hp
  | p2 => cases hp
 obtain ⟨e1, rfl⟩ := e1
 refine ⟨TK0, v, _, rest, rfl, hA, { T with draft := ?_ }, hb⟩
 rw [hX, hc, e1]
 cases hv : x.val with
 | none => rw [DX.led_n hv]; exact .noval _ _ _ _ _ x.q1 x.q2
 | some xs => rw [DX.led_s hv]; exact .val _ _ _ _ _ _ _ _ _ x.q1 x.q2 x.q3
theorem upd_app {a : Addr} {o o' : Obj} {l l' : Led} (h : Upd a o o' l l') : ∀ {r : Led}, (∀ p ∈ r, p.1 ≠ a) → Upd a o o' (r ++ l) (r ++ l')
 | [], _ => h
 | p :: r, g => .tail (g p (.head _)) (upd_app h fun q hq => g q (.tail _ hq))
theorem DX.att_off (x : DX) : ∀ p ∈ x.att, p.1 ≠ x.D.dd := fun p hp => by
 have q1 := x.q1
 have q2 := x.q2
 have q3 := x.q3
 unfold DX.att at hp
 split at hp
 ·rw [List.mem_singleton.mp hp]; exact Nat.ne_of_gt (Nat.lt_trans q1 q2)
 ·simp only [List.mem_cons, List.not_mem_nil, or_false] at hp
  rcases hp with h | h <;> rw [h]
  ·exact Nat.ne_of_gt (Nat.lt_trans q1 (Nat.lt_trans q2 q3))
  ·exact Nat.ne_of_gt (Nat.lt_trans q1 q2)
theorem offT_dd {A : TA} {x : DX} {cl cl' : Bool} {rest : Led} (h : OffT A (x.led cl ++ rest)) : OffT A (x.led cl' ++ rest) := by
 have f : ∀ {b : Addr}, (∀ p ∈ x.led cl ++ rest, p.1 ≠ b) → ∀ p ∈ x.led cl' ++ rest, p.1 ≠ b := fun h p hp => by
  unfold DX.led at h hp
  simp only [List.append_assoc, List.mem_append, List.mem_cons, List.not_mem_nil, or_false] at h hp
  rcases hp with hp | (hp | hp) | hp
  ·exact h p (.inl hp)
  ·rw [hp]; exact h (x.D.dt, instObj 415 x.D.dd) (.inr (.inl (.inl rfl)))
  ·rw [hp]; exact h (x.D.dd, dictOf (drEs x.K2 x.D (kindS x.kd) (chS x.nm) cl) 8) (.inr (.inl (.inr rfl)))
  ·exact h p (.inr (.inr hp))
 refine xAAAAAAA h fun h1 h2 h3 h4 h5 h6 h7 h8 => ?_
 exact ⟨f h1, f h2, f h3, f h4, f h5, f h6, f h7, f h8⟩
theorem s_setClosing {K : Unit → Cfg → Prop} (e : cf.draft = phD 0) (h : K () { cf with draft := phD 1 }) : SetK (tsD (XD X x f)) c (ofString "is_closing") (.r x.D.dt) (.b f) l cf K := fun s Q E m n y z F M N hS i1 i2 k => by
 (first | obtain rfl := i1.inv | obtain ⟨_, rfl⟩ := i1.inv | cases i1)
 (first | obtain rfl := i2.inv | obtain ⟨_, rfl⟩ := i2.inv | cases i2)
 refine xEEEEAAA hS fun TK0 v dl rest zq12 hA T hb => ?_
 subst zq12
 have hT : x.Is f v.draft cf.draft dl := T.draft
 rw [e] at hT
 have e1 : v.draft = .ref x.D.dt ∧ dl = x.led false := by
  generalize v.draft = y at hT
  generalize hp : phD 0 = o at hT
  cases hT with
  | p0 => exact ⟨rfl, rfl⟩
  | p1 => unfold phD at hp; cases hp
  | p2 => cases hp
 obtain ⟨e1, rfl⟩ := e1
 refine set_415 F c.X N (mem_ends (mem_left (x.mt false))) (mem_ends (mem_left (x.md false))) (ta_415_is_closing _) rfl rfl (upd_app (r := tokLed X.A TK0 v) (l := x.led false ++ rest) (l' := x.led f ++ rest) ?_ (tok_off T.offT (mem_left (x.md false)))) (Nat.le_of_ble_eq_true rfl) fun h' F' N' => k _ () { cf with draft := phD 1 } _ _ _ F' (fun a k vs q => ?_) N' ⟨TK0, v, _, rest, rfl, hA, { T with draft := ?_, offL := ?_, offT := offT_dd T.offT }, hb⟩ trivial h
 ·unfold DX.led
  rw [List.append_assoc, List.append_assoc]
  exact upd_app (.tail (Nat.ne_of_gt x.q1) (.head fun p hp q => T.offL _ (x.md false) p hp q.symm)) x.att_off
 ·exact mem_ends (mem_ends (ts_tup x.tup q))
 ·show x.Is f v.draft (phD 1) (x.led f)
  rw [e1]; exact .p1
 ·intro p hp q hq
  unfold DX.led at hp
  simp only [List.mem_append, List.mem_cons, List.not_mem_nil, or_false] at hp
  rcases hp with hp | hp | hp
  ·exact T.offL p (mem_left hp) q hq
  ·rw [hp]; exact T.offL _ (x.mt false) q hq
  ·rw [hp]; exact T.offL (x.D.dd, _) (x.md false) q hq
theorem x_assignA2 {σ : Type} {den : σ → Led → Prop} {S : σ} {K : AF → ANs → σ → Prop} {y b a : PySem.Str} {px pb pa p : Pos} {e : Expr} (hp : plainE e = true) (h : JE den c (eval e c.env) l S fun v S1 => JE den c (eval (.Attribute (.Name y px) b pb) c.env) l S1 fun o S2 => SetK den c a o v l S2 fun _ S3 => K .nxt l S3) : JX den c (exec (.Assign [.Attribute (.Attribute (.Name y px) b pb) a pa] e p) c.env) l S K := fun s Q E m n F M N hS k =>
 plainObj_wpAny_Assign_Attribute (h s _ E m n F M N hS fun v u S1 n1 h1 t1 F1 g1 N1 hS1 i1 h2 => h2 _ _ E m n1 F1 (M.mono g1) N1 hS1 fun o r S2 n2 h3 t3 F3 g3 N3 hS3 i3 h4 => h4 _ _ E m n2 _ _ F3 (M.mono (g1.trans g3)) N3 hS3 i3 (i1.mono g3) fun z r S3 n3 h5 t5 F5 g5 N5 hS5 i5 h6 => k _ _ _ _ _ _ _ _ F5 ((g1.trans g3).trans g5) (M.mono ((g1.trans g3).trans g5)) N5 hS5 .nxt h6) (swap_plain hp)
end
end Mine
end
section
open PySem PySem.W PyProof.Rows PySem.Calls
namespace Mine
section
variable {w : World} {d : Nat} {cs : Scope} {σ γ : Type} {den : σ → Led → Prop} {c : FD w d cs} {l : ANs} {S : σ}
theorem e_neg {K : AV → σ → Prop} {e : Expr} {p : Pos} {env : Env} (h : JE den c (eval e env) l S fun a S1 => JO1 den c AV.Is (unaryOp .USub) a l S1 K) : JE den c (eval (.UnaryOp .USub e p) env) l S K := fun s Q E m n F M N hS k =>
 wpAny_UnaryOp (h s _ E m n F M N hS fun x u S1 n1 h1 t1 F1 g1 N1 hS1 i1 h2 => h2 _ _ E m n1 x F1 (M.mono g1) N1 hS1 i1 fun y v S2 n2 h3 t3 F3 g3 N3 hS3 i3 h4 => k _ _ _ _ _ _ F3 (g1.trans g3) N3 hS3 i3 h4)
theorem o_neg {K : AV → σ → Prop} {a : Int} (h : K (.i (-a)) S) : JO1 den c AV.Is (unaryOp .USub) (.i a) l S K := fun s Q E m n x F M N hS i1 k => by
 (first | obtain rfl := i1.inv | obtain ⟨_, rfl⟩ := i1.inv | cases i1); exact PySem.P.neg_int (k _ _ _ _ _ _ F .refl N hS (.i _ _) h)
theorem o_lenS {K : AV → σ → Prop} {xs : List Nat} (hz : xs.length ≤ 100000) (h : K (.i (xs.length : Int)) S) : JOL den c AV.Is (fun vs => call (.builtin "len") vs) [.s ⟨xs.toArray⟩] l S K := fun s Q E m n vs F M N hS i k => by
 cases i using LIs.cons_elim with
 | cons i j =>
  (first | obtain rfl := i.inv | obtain ⟨_, rfl⟩ := i.inv | cases i)
  (first | obtain rfl := j.inv | obtain ⟨_, rfl⟩ := j.inv | cases j)
  exact len_S hz (k _ _ _ _ _ _ F .refl N hS (.i _ _) h)
theorem o_strI {K : AV → σ → Prop} {xs : List Nat} {z : Nat} {sl : Expr} (hs : slicePlain sl = true) (hl : xs.length ≤ 100000) (hz : z < xs.length) (h : K (.s (chS (xs.getD z 0))) S) : JO2 den c AV.Is (fun o i => subscriptTail usE sl o i) (.s ⟨xs.toArray⟩) (.i (z : Int)) l S K := fun s Q E m n y u F M N hS i j k => by
 (first | obtain rfl := j.inv | obtain ⟨_, rfl⟩ := j.inv | cases j)
 (first | obtain rfl := i.inv | obtain ⟨_, rfl⟩ := i.inv | cases i)
 exact item_S (xs := xs) (Int.natCast_nonneg z) (Int.ofNat_lt.mpr hz) hl (fun _ _ => k _ _ _ _ _ _ F .refl N hS (.s _ _) h) (sub_plain hs) (fun _ => rfl)
theorem k_loopR {K : AF → ANs → σ → Prop} {J : Nat → γ → σ → Prop} {L : Nat → γ → σ → ANs} {i : Nat} {a : AV} (h : K (.ret a) l S) : LoopK K J L i (.ret a) l S := h
end
end Mine
end
section
open PySem PySem.W PyProof.Rows PySem.Calls
namespace Mine
noncomputable def TupOk {σ : Type} (den : σ → Led → Prop) : Prop := ∀ (S : σ) (n : Led) (D : Addr) (vs : List Value), den S n → (∀ p ∈ n, p.1 < D) → ∃ n', den S n' ∧ (∀ p ∈ n', p ∈ (D, tupO vs 0) :: n) ∧ (D, tupO vs 0) ∈ n' ∧ Gro n n'
section
variable {w : World} {d : Nat} {cs : Scope} {σ γ : Type} {den : σ → Led → Prop} {c : FD w d cs} {l : ANs} {S : σ}
theorem o_intS {K : AV → σ → Prop} {k : Nat} (hk : k < 6) (h : K (.i (k : Int)) S) : JOL den c AV.Is (fun vs => call (.type "int") vs) [.s (stS k)] l S K := fun s Q E m n vs F M N hS i kk => by
 cases i using LIs.cons_elim with
 | cons i j =>
  (first | obtain rfl := i.inv | obtain ⟨_, rfl⟩ := i.inv | cases i)
  (first | obtain rfl := j.inv | obtain ⟨_, rfl⟩ := j.inv | cases j)
  exact KIN.call_text (int_st hk) (show (1 : Nat) ≤ 640 by decide) (kk _ _ _ _ _ _ F .refl N hS (.i _ _) h)
theorem o_chr {K : AV → σ → Prop} {z : Int} {k : Nat} (e : z = (k : Int)) (hk : k < 1114112) (h : K (.s (chS k)) S) : JOL den c AV.Is (fun vs => call (.builtin "chr") vs) [.i z] l S K := fun s Q E m n vs F M N hS i kk => by
 subst e
 cases i using LIs.cons_elim with
 | cons i j =>
  (first | obtain rfl := i.inv | obtain ⟨_, rfl⟩ := i.inv | cases i)
  (first | obtain rfl := j.inv | obtain ⟨_, rfl⟩ := j.inv | cases j)
  exact chr_of_range (Int.natCast_nonneg k) (by lia) (kk _ _ _ _ _ _ F .refl N hS (.s _ _) h)
noncomputable def WhileK (K : AF → ANs → σ → Prop) (I : γ → σ → Prop) (L : γ → σ → ANs) (μ : γ → σ → Nat) (n : Nat) : AF → ANs → σ → Prop := fun f l' S' => match f with
 | .nxt => ∃ g', I g' S' ∧ SubL l' (L g' S') ∧ μ g' S' < n
 | .ret a => K (.ret a) l' S'
theorem x_while {K : AF → ANs → σ → Prop} {test : Expr} {body : List Stmt} {p : Pos} (I : γ → σ → Prop) (L : γ → σ → ANs) (μ : γ → σ → Nat) (g0 : γ) (hI : I g0 S) (hl : SubL l (L g0 S))
  (turn : ∀ g S, I g S → JB den c (PySem.isTrue test c.env (eval test c.env)) (L g S) S fun b S1 => bif2 b (JX den c (execs body c.env) (L g S) S1 (WhileK K I L μ (μ g S))) (K .nxt (L g S) S1)) : JX den c (exec (.While test body [] p) c.env) l S K := fun s Q E m n F M N hS k => by
 refine wpAny_mono (E := fun _ _ => False) (While_inv2 (fun z m nx => ∃ g S, z = μ g S ∧ I g S ∧ den S nx ∧ Names nx (L g S) m ∧ Gro n nx) F N ⟨g0, S, rfl, hI, hS, M.sub hl.sub, .refl⟩ ?_ .never) (fun _ _ h => h) (fun _ _ h => h.elim)
 intro z m₁ nx h tk F1 N1 zf46
 refine xEEAAAA zf46 fun g S1 zq1 hI1 hS1 M1 G1 => ?_
 subst zq1
 refine turn g S1 hI1 _ _ _ m₁ nx F1 M1 N1 hS1 fun b b' S2 n2 h2 t2 F2 g2 N2 hS2 i2 hK => ?_
 subst i2
 refine bif2_ite hK (fun hK => ?_) (fun hK => ?_)
 ·refine hK _ _ _ m₁ n2 F2 (M1.mono g2) N2 hS2 fun v b l' S' m' n' h' tk' F' g' M' N' hS' i' hk => ?_
  have G' : Gro n n' := G1.trans (g2.trans g')
  cases i' with
  | nxt =>
   refine xEAA hk fun g3 hI3 hs3 hm => ?_
   exact ⟨h', tk', m', n', μ g3 S', rfl, F', N', hm, g3, S', rfl, hI3, hS', M'.sub hs3.sub, G'⟩
  | ret i' => exact k _ _ _ _ _ _ _ _ F' G' M' N' hS' (.ret i') hk
 ·exact k _ _ _ _ _ _ _ _ F2 (G1.trans g2) (M1.mono g2) N2 hS2 .nxt hK
theorem e_callL {K : AV → σ → Prop} {dd : Nat} {x : PySem.Str} {xp p : Pos} {f : Addr} {e0 : Expr} {es : List Expr} (e : alook cs l x = some (.r f)) (hp : (e0 :: es).all starP = true) (hk : keepIn (hd.heap_1 w.params) (.ref f) = true) (hd : Nat.ble dd d = true) (h : JL den c (spliced (backTo p (starEach (e0 :: es) c.env))) l S fun as S1 => JC den w dd f as S1 K) : JE den c (eval (.Call (.Name x xp) (e0 :: es) [] p) c.env) l S K := fun s Q E m n F M N hS k => by
 rw [List.all_cons, Bool.and_eq_true] at hp
 refine xAA (alook_spec e) fun h1 h2 h3 => ?_
 refine xEA (M _ _ h3) fun v hv hi => ?_
 (first | obtain rfl := hi.inv | obtain ⟨_, rfl⟩ := hi.inv | cases hi)
 refine Call_ ?_ rfl
 refine nameX_L F hv ?_ c.hk h2 h1
 exact callWith_K c.X hk (h s _ E m n F M N hS fun vs as S1 n1 h1 t1 F1 g1 N1 hS1 i1 h2 => ⟨c.X.keeps F1.keep, c_run hd h2 _ _ E m n1 _ F1 (M.mono g1) N1 hS1 i1 fun y v S2 n2 h3 t3 F3 g3 N3 hS3 i3 h4 => k _ _ _ _ _ _ F3 (g1.trans g3) N3 hS3 i3 h4⟩) (star_plain hp.1) (noStars _ _ _ hp.2)
theorem e_bool1 {K : AV → σ → Prop} {op : BoolOp} {e : Expr} {p : Pos} {env : Env} (h : JE den c (eval e env) l S K) : JE den c (eval (.BoolOp op [e] p) env) l S K := h
noncomputable def JT (den : σ → Led → Prop) (c : FD w d cs) (a : AV) (l : ANs) (S : σ) (K : Bool → σ → Prop) : Prop := JO1 den c (fun _ (b v : Bool) => b = v) truthy a l S K
theorem e_or {K : AV → σ → Prop} {e1 e2 : Expr} {r : List Expr} {p : Pos} {env : Env} (h : JE den c (eval e1 env) l S fun a S1 => JT den c a l S1 fun b S2 => bif2 b (K a S2) (JE den c (eval (.BoolOp .Or (e2 :: r) p) env) l S2 K)) : JE den c (eval (.BoolOp .Or (e1 :: e2 :: r) p) env) l S K := fun s Q E m n F M N hS k =>
 BoolOp_or (h s _ E m n F M N hS fun x u S1 n1 h1 t1 F1 g1 N1 hS1 i1 h2 => h2 _ _ E m n1 x F1 (M.mono g1) N1 hS1 i1 fun y v S2 n2 h3 t3 F3 g3 N3 hS3 i3 h4 => by
  subst i3
  exact bif2_ite h4 (fun g => k _ _ _ _ _ _ F3 (g1.trans g3) N3 hS3 (i1.mono g3) g) fun g => g _ _ E m n2 F3 (M.mono (g1.trans g3)) N3 hS3 fun z b S3 n3 h5 t5 F5 g5 N5 hS5 i5 h6 => k _ _ _ _ _ _ F5 ((g1.trans g3).trans g5) N5 hS5 i5 h6)
theorem e_and {K : AV → σ → Prop} {e1 e2 : Expr} {r : List Expr} {p : Pos} {env : Env} (h : JE den c (eval e1 env) l S fun a S1 => JT den c a l S1 fun b S2 => bif2 b (JE den c (eval (.BoolOp .And (e2 :: r) p) env) l S2 K) (K a S2)) : JE den c (eval (.BoolOp .And (e1 :: e2 :: r) p) env) l S K := fun s Q E m n F M N hS k =>
 BoolOp_and (h s _ E m n F M N hS fun x u S1 n1 h1 t1 F1 g1 N1 hS1 i1 h2 => h2 _ _ E m n1 x F1 (M.mono g1) N1 hS1 i1 fun y v S2 n2 h3 t3 F3 g3 N3 hS3 i3 h4 => by
  subst i3
  exact bif2_ite h4 (fun g => g _ _ E m n2 F3 (M.mono (g1.trans g3)) N3 hS3 fun z b S3 n3 h5 t5 F5 g5 N5 hS5 i5 h6 => k _ _ _ _ _ _ F5 ((g1.trans g3).trans g5) N5 hS5 i5 h6) fun g => k _ _ _ _ _ _ F3 (g1.trans g3) N3 hS3 (i1.mono g3) g)
theorem jt_b {K : Bool → σ → Prop} {b : Bool} (h : K b S) : JT den c (.b b) l S K := o_truthy h
theorem e_notV {K : AV → σ → Prop} {e : Expr} {p : Pos} {env : Env} (h : JE den c (eval e env) l S fun a S1 => JT den c a l S1 fun b S2 => K (.b (!b)) S2) : JE den c (eval (.UnaryOp .Not e p) env) l S K := fun s Q E m n F M N hS k =>
 UnaryOp_ (h s _ E m n F M N hS fun x u S1 n1 h1 t1 F1 g1 N1 hS1 i1 h2 => not_of (h2 _ _ E m n1 x F1 (M.mono g1) N1 hS1 i1 fun y v S2 n2 h3 t3 F3 g3 N3 hS3 i3 h4 => by
  subst i3
  exact k _ _ _ _ _ _ F3 (g1.trans g3) N3 hS3 (.b _) h4))
theorem e_cmp {K : AV → σ → Prop} {a b : Expr} {op : CmpOp} {p : Pos} {env : Env} (hp : behindInMarks op b = false) (h : JE den c (eval a env) l S fun u S1 => JE den c (eval b env) l S1 fun v S2 => CmpK den c op u v l S2 fun t S3 => K (.b t) S3) : JE den c (eval (.Compare a [op] [b] p) env) l S K := fun s Q E m n F M N hS k =>
 wpAny_Compare1 (h s _ E m n F M N hS fun x u S1 n1 h1 t1 F1 g1 N1 hS1 i1 h2 => h2 _ _ E m n1 F1 (M.mono g1) N1 hS1 fun y v S2 n2 h3 t3 F3 g3 N3 hS3 i3 h4 => h4 _ _ E m n2 _ _ F3 (M.mono (g1.trans g3)) N3 hS3 (i1.mono g3) i3 fun z r S3 n3 h5 t5 F5 g5 N5 hS5 i5 h6 => by
  rw [i5]
  exact k _ _ _ _ _ _ F5 ((g1.trans g3).trans g5) N5 hS5 (.b _) h6) hp
theorem o_tupG {K : AV → σ → Prop} {as : List AV} {ds : List Dat} (hT : TupOk den) (e : avDats as = some ds) (hn : noL 4 (.tuple ds) = true) (hz : Nat.ble as.length 100 = true) (h : K (.d (.tuple ds)) S) : JOL den c AV.Is newTuple as l S K := fun s Q E m n vs F M N hS hi k => by
 refine kup_newTuple F N (fun D h' F' N' hl => ?_) (by rw [sizeLine_eq, hi.len]; exact Nat.le_trans (Nat.le_of_ble_eq_true hz) (by decide))
 refine xEAAA (hT _ _ _ vs hS hl) fun n' h1 h2 h3 h4 => ?_
 exact k _ _ _ n' _ _ F' h4 (fun p hp => N' p (h2 p hp)) h1 (.d (.tuple h3 ((avDats_in e (hi.mono h4)))) hn) h
theorem o_tupT {K : AV → σ → Prop} {as : List AV} (hT : TupOk den) (hz : Nat.ble as.length 100 = true) (h : K (.t as) S) : JOL den c AV.Is newTuple as l S K := fun s Q E m n vs F M N hS hi k => by
 refine kup_newTuple F N (fun D h' F' N' hl => ?_) (by rw [sizeLine_eq, hi.len]; exact Nat.le_trans (Nat.le_of_ble_eq_true hz) (by decide))
 refine xEAAA (hT _ _ _ vs hS hl) fun n' h1 h2 h3 h4 => ?_
 exact k _ _ _ n' _ _ F' h4 (fun p hp => N' p (h2 p hp)) h1 (.t h3 (hi.mono h4)) h
theorem e_ch2 {K : AV → σ → Prop} {a b1 b2 : Expr} {op1 op2 : CmpOp} {p : Pos} {env : Env} (hm : lastMarks [op1, op2] [b1, b2] = false) (h : JE den c (eval a env) l S fun u S1 => JE den c (eval b1 env) l S1 fun v S2 => CmpK den c op1 u v l S2 fun t S3 => bif2 t (JE den c (eval b2 env) l S3 fun x S4 => CmpK den c op2 v x l S4 fun t2 S5 => K (.b t2) S5) (K (.b false) S3)) : JE den c (eval (.Compare a [op1, op2] [b1, b2] p) env) l S K := fun s Q E m n F M N hS k =>
 Compare_chain (h s _ E m n F M N hS fun x u S1 n1 h1 t1 F1 g1 N1 hS1 i1 h2 => chain_link (h2 _ _ E m n1 F1 (M.mono g1) N1 hS1 fun y v S2 n2 h3 t3 F3 g3 N3 hS3 i3 h4 => h4 _ _ E m n2 _ _ F3 (M.mono (g1.trans g3)) N3 hS3 (i1.mono g3) i3 fun z r S3 n3 h5 t5 F5 g5 N5 hS5 i5 h6 => by
  rw [i5]
  refine wpAny_truthy_bool ?_
  cases r with
  | true =>
   have h7 : JE den c (eval b2 env) l S3 _ := h6
   exact chain_last (h7 _ _ E m n3 F5 (M.mono ((g1.trans g3).trans g5)) N5 hS5 fun z2 r2 S6 n6 h8 t8 F8 g8 N8 hS8 i8 h9 => h9 _ _ E m n6 _ _ F8 (M.mono (((g1.trans g3).trans g5).trans g8)) N8 hS8 ((i3.mono g5).mono g8) i8 fun z3 r3 S9 n9 h10 t10 F10 g10 N10 hS10 i10 h11 => by
    rw [i10]
    exact k _ _ _ _ _ _ F10 ((((g1.trans g3).trans g5).trans g8).trans g10) N10 hS10 (.b _) h11)
  | false => exact k _ _ _ _ _ _ F5 ((g1.trans g3).trans g5) N5 hS5 (.b _) h6)) hm
theorem t_ch2 {K : Bool → σ → Prop} {a b1 b2 : Expr} {op1 op2 : CmpOp} {p : Pos} {env : Env} {wh : Sem Value} (hm : lastMarks [op1, op2] [b1, b2] = false) (h : JE den c (eval a env) l S fun u S1 => JE den c (eval b1 env) l S1 fun v S2 => CmpK den c op1 u v l S2 fun t S3 => bif2 t (JE den c (eval b2 env) l S3 fun x S4 => CmpK den c op2 v x l S4 K) (K false S3)) : JB den c (PySem.isTrue (.Compare a [op1, op2] [b1, b2] p) env wh) l S K := fun s Q E m n F M N hS k =>
 isTrue_chain (h s _ E m n F M N hS fun x u S1 n1 h1 t1 F1 g1 N1 hS1 i1 h2 => test_link (h2 _ _ E m n1 F1 (M.mono g1) N1 hS1 fun y v S2 n2 h3 t3 F3 g3 N3 hS3 i3 h4 => h4 _ _ E m n2 _ _ F3 (M.mono (g1.trans g3)) N3 hS3 (i1.mono g3) i3 fun z r S3 n3 h5 t5 F5 g5 N5 hS5 i5 h6 => by
  rw [i5]
  exact wpAny_truthy_bool (bif2_ite h6 (fun h7 => test_last (h7 _ _ E m n3 F5 (M.mono ((g1.trans g3).trans g5)) N5 hS5 fun z2 r2 S6 n6 h8 t8 F8 g8 N8 hS8 i8 h9 => h9 _ _ E m n6 _ _ F8 (M.mono (((g1.trans g3).trans g5).trans g8)) N8 hS8 ((i3.mono g5).mono g8) i8 fun z3 r3 S9 n9 h10 t10 F10 g10 N10 hS10 i10 h11 => by
   rw [i10]
   exact wpAny_truthy_bool (k _ _ _ _ _ _ F10 ((((g1.trans g3).trans g5).trans g8).trans g10) N10 hS10 rfl h11))) fun h7 => k _ _ _ _ _ _ F5 ((g1.trans g3).trans g5) N5 hS5 rfl h7))) hm
theorem o_leS {K : Bool → σ → Prop} {a b : PySem.Str} (h : K (!decide (b.cps.toList < a.cps.toList)) S) : CmpK den c .LtE (.s a) (.s b) l S K := fun s Q E m n x y F M N hS i1 i2 k => by (first | obtain rfl := i1.inv | obtain ⟨_, rfl⟩ := i1.inv | cases i1); (first | obtain rfl := i2.inv | obtain ⟨_, rfl⟩ := i2.inv | cases i2); exact PySem.P.le_str (k _ _ _ _ _ _ F .refl N hS rfl h)
noncomputable def strsOf : List Dat → Option (List PySem.Str)
 | [] => some []
 | d :: r => match d with
  | .str x => (strsOf r).map (x :: ·)
  | _ => none
theorem strsOf_ok {n : Led} : ∀ {ds : List Dat} {ys : List PySem.Str} {vs : List Value}, strsOf ds = some ys → DatAll n vs ds → StrsAre vs ys
 | [], _, _, e, .nil => by cases e; exact .nil
 | d :: r, ys, _, e, .cons h q => by
  cases h with
  | str x t =>
   have e : (strsOf r).map (x :: ·) = some ys := e
   cases z : strsOf r with
   | none => rw [z] at e; cases e
   | some zs => rw [z] at e; cases e; exact .cons _ _ (strsOf_ok z q)
  | _ => cases e
theorem o_inS {K : Bool → σ → Prop} {x : PySem.Str} {ds : List Dat} {ys : List PySem.Str} (e : strsOf ds = some ys) (h : K (ys.any (· == x)) S) : CmpK den c .In (.s x) (.d (.tuple ds)) l S K := fun s Q E m n u v F M N hS i1 i2 k => by
 (first | obtain rfl := i1.inv | obtain ⟨_, rfl⟩ := i1.inv | cases i1)
 cases i2 with
 | d hd hn => cases hd with
  | tuple hm hA => exact in_tuple_strs (N.isTup hm) (strsOf_ok e hA) (k _ _ _ _ _ _ F .refl N hS rfl h)
theorem o_notinS {K : Bool → σ → Prop} {x : PySem.Str} {ds : List Dat} {ys : List PySem.Str} (e : strsOf ds = some ys) (h : K (!(ys.any (· == x))) S) : CmpK den c .NotIn (.s x) (.d (.tuple ds)) l S K := fun s Q E m n u v F M N hS i1 i2 k => by
 (first | obtain rfl := i1.inv | obtain ⟨_, rfl⟩ := i1.inv | cases i1)
 cases i2 with
 | d hd hn => cases hd with
  | tuple hm hA => exact notin_tuple_strs (N.isTup hm) (strsOf_ok e hA) (k _ _ _ _ _ _ F .refl N hS rfl h)
theorem e_ifexp {K : AV → σ → Prop} {t a b : Expr} {p : Pos} {env : Env} (h : JB den c (PySem.isTrue t env (eval t env)) l S fun q S1 => bif2 q (JE den c (eval a env) l S1 K) (JE den c (eval b env) l S1 K)) : JE den c (eval (.IfExp t a b p) env) l S K := fun s Q E m n F M N hS k =>
 IfExp_ (h s _ E m n F M N hS fun x u S1 n1 h1 t1 F1 g1 N1 hS1 i1 h2 => by
  subst i1
  exact bif2_ite h2 (fun g => g _ _ E m n1 F1 (M.mono g1) N1 hS1 fun z b S3 n3 h5 t5 F5 g5 N5 hS5 i5 h6 => k _ _ _ _ _ _ F5 (g1.trans g5) N5 hS5 i5 h6) fun g => g _ _ E m n1 F1 (M.mono g1) N1 hS1 fun z b S3 n3 h5 t5 F5 g5 N5 hS5 i5 h6 => k _ _ _ _ _ _ F5 (g1.trans g5) N5 hS5 i5 h6)
end
section
variable {w : World} {d : Nat} {cs : Scope} {c : FD w d cs} {l : ANs} {X : TX} {cf : Cfg}
theorem s_lG {K : AV → Cfg → Prop} {a : Addr} {vs : List Value} {k0 k : Nat} {v : Value} {av : AV} {sl : Expr} (hs : slicePlain sl = true) (hp : (a, listOf vs.toArray k0) ∈ X.base) (hz : k < 100000) (hv : vs[k]? = some v) (hi : av.Is X.base v) (h : K av cf) : JO2 (tsD X) c AV.Is (fun o i => subscriptTail usE sl o i) (.r a) (.i (k : Int)) l cf K := fun s Q E m n x y F M N hS i j kk => by
 (first | obtain rfl := i.inv | obtain ⟨_, rfl⟩ := i.inv | cases i)
 (first | obtain rfl := j.inv | obtain ⟨_, rfl⟩ := j.inv | cases j)
 exact item_L N (tsD.base hS _ hp) (Int.natCast_nonneg k) (Int.ofNat_lt.mpr hz) hv (kk _ _ _ _ _ _ F .refl N hS (hi.mono (.of (tsD.base hS))) h) (sub_plain hs) (fun _ => rfl)
theorem o_notinD {K : Bool → Cfg → Prop} {a : Addr} {o : Obj} {kvs : List (PySem.Str × Value)} {k : PySem.Str} {b : Bool} (hp : (a, o) ∈ X.base) (hd : o.IsDictOf (PySem.strKind PG w) kvs) (hm : (a == sysModules) = false) (hl : (valueAt kvs k).isSome = b) (h : K (!b) cf) : CmpK (tsD X) c .NotIn (.s k) (.r a) l cf K := fun s Q E m n x y F M N hS i j kk => by
 (first | obtain rfl := i.inv | obtain ⟨_, rfl⟩ := i.inv | cases i)
 (first | obtain rfl := j.inv | obtain ⟨_, rfl⟩ := j.inv | cases j)
 exact kdg_notin (knd := PySem.strKind PG w) N (tsD.base hS _ hp) hd hm (beq_self_eq_true _) b hl (kk _ _ _ _ _ _ F .refl N hS rfl h)
end
end Mine
end
section
open PySem PySem.W PyProof.Rows PySem.Calls
namespace Mine
theorem nS {α : Type} {a : α} {G : Prop} (h : (none : Option α) = some a) : G := nomatch h
structure Obs (σ : Type) where
 g1 : σ → PySem.Str → Option AV
 g2 : σ → PySem.Str → PySem.Str → Option AV
noncomputable def two {β : Type} (u v : AV) (fi : Int → Int → Option β) (fs : PySem.Str → PySem.Str → Option β) : Option β := match u with
 | .i a => (match v with | .i b => fi a b | _ => none)
 | .s a => (match v with | .s b => fs a b | _ => none)
 | _ => none
noncomputable def noB {α β : Type} (_ _ : α) : Option β := none
noncomputable def opA (op : Operator) (u v : AV) : Option AV := match op with
 | .Add => two u v (fun a b => some (.i (a + b))) noB
 | .Sub => two u v (fun a b => some (.i (a - b))) noB
 | .Mod => two u v (fun a b => cond (decide (0 < b)) (some (.i (a % b))) none) noB
 | .FloorDiv => two u v (fun a b => cond (decide (0 < b) && Nat.ble b.natAbs 1000000) (some (.i (a / b))) none) noB
 | _ => none
noncomputable def isA (t : Bool) (u v : AV) : Option Bool := match v with
 | .n => (match u with | .n => some t | .r _ => some (!t) | .d x => (match x with | .tuple _ => some (!t) | _ => none) | _ => none)
 | _ => none
noncomputable def inA (u v : AV) : Option Bool := match u with
 | .s x => (match v with
  | .d y => (match y with
   | .tuple ds => (strsOf ds).map fun ys => ys.any (· == x)
   | _ => none)
  | _ => none)
 | _ => none
noncomputable def cmpA (op : CmpOp) (u v : AV) : Option Bool := match op with
 | .Eq => two u v (fun a b => some (a == b)) fun a b => some (a == b)
 | .NotEq => two u v (fun a b => some (a != b)) fun a b => some (a != b)
 | .Lt => two u v (fun a b => some (decide (a < b))) noB
 | .Gt => two u v (fun a b => some (decide (a > b))) noB
 | .GtE => two u v (fun a b => some (decide (a ≥ b))) noB
 | .LtE => two u v (fun a b => some (decide (a ≤ b))) fun a b => some (!decide (b.cps.toList < a.cps.toList))
 | .In => inA u v
 | .NotIn => (inA u v).map fun t => !t
 | .Is => isA true u v
 | .IsNot => isA false u v
noncomputable def mrg (q : Bool) (u v : AV) : AV := match u with
 | .i a => (match v with | .i b => .i (cond q a b) | _ => cond q u v)
 | .s a => (match v with | .s b => .s (cond q a b) | _ => cond q u v)
 | .b a => (match v with | .b b => .b (cond q a b) | _ => cond q u v)
 | _ => cond q u v
noncomputable def avOf? (x : Dat) : Option AV := match x with
 | .int z => some (.i z)
 | .str x => some (.s x)
 | .bool b => some (.b b)
 | .none => some .n
 | .tuple ds => some (.d (.tuple ds))
 | _ => none
theorem avOf?_ok {x : Dat} {a : AV} (e : avOf? x = some a) : avOf x = a := by
 cases x <;> cases e <;> rfl
noncomputable def subA (u i : AV) : Option AV := match u with
 | .d x => (match x with
  | .tuple ds => (match i with
   | .i z => (match z with
    | .ofNat k => cond (Nat.ble k 100) ((ds[k]?).bind avOf?) none
    | _ => none)
   | _ => none)
  | _ => none)
 | _ => none
noncomputable def constA (k : Const) : Option AV := match k with
 | .none => some .n
 | .bool b => some (.b b)
 | .int z => some (.i z)
 | .str x => some (.s x)
 | _ => none
noncomputable def isB (a : AV) : Option Bool := match a with
 | .b q => some q
 | _ => none
noncomputable def tst (t : Bool) (r : Option AV) : Option AV := cond t ((r.bind isB).map .b) r
noncomputable def one {α : Type} (l : List α) : Option α := match l with
 | [] => none
 | x :: r => (match r with | [] => some x | _ :: _ => none)
noncomputable def pairL {α : Type} (l : List α) : Option (α × α) := match l with
 | [] => none
 | x :: r => (one r).map fun y => (x, y)
noncomputable def tupA (as : List AV) : Option AV := (avDats as).bind fun ds => cond (noL 4 (.tuple ds) && Nat.ble as.length 100) (some (.d (.tuple ds))) none
noncomputable def evs (ih : Bool → Expr → Option AV) : List Expr → Option (List AV)
 | [] => some []
 | e :: r => cond (starP e) ((ih false e).bind fun a => (evs ih r).map fun as => a :: as) none
noncomputable def negA (a : AV) : Option AV := match a with
 | .i z => some (.i (-z))
 | _ => none
noncomputable def unA (op : UnaryOp) (t : Bool) (a : AV) : Option AV := match op with
 | .Not => (isB a).map fun q => .b (!q)
 | .USub => cond t none (negA a)
 | _ => none
noncomputable def emptyB (op : BoolOp) : Bool := match op with | .And => true | .Or => false
noncomputable def bothB (op : BoolOp) (x y : Bool) : Bool := match op with | .And => x && y | .Or => x || y
noncomputable def nameOf? (e : Expr) : Option PySem.Str := match e with
 | .Name x _ => some x
 | _ => none
noncomputable def obsOf {σ : Type} (os : List (PySem.Str × Obs σ)) (S : σ) (a : PySem.Str) (v : Expr) : Option AV := match v with
 | .Name x _ => (os.lookup x).bind fun o => o.g1 S a
 | .Attribute u b _ => (match u with | .Name x _ => (os.lookup x).bind fun o => o.g2 S b a | _ => none)
 | _ => none
section
variable {σ : Type} (os : List (PySem.Str × Obs σ)) (cs : Scope) (l : ANs) (S : σ)
noncomputable def evStep (ih : Bool → Expr → Option AV) (t : Bool) (e : Expr) : Option AV := match e with
 | .Name x _ => tst t (alook cs l x)
 | .Constant k _ _ => tst t (constA k)
 | .Attribute v a _ => tst t (obsOf os S a v)
 | .BinOp a op b _ => cond t none ((ih false a).bind fun u => (ih false b).bind fun v => opA op u v)
 | .UnaryOp op e _ => (ih t e).bind fun a => unA op t a
 | .Compare a ops bs _ => cond (one ops).isSome
  ((one ops).bind fun op => (one bs).bind fun b => cond (behindInMarks op b) none ((ih false a).bind fun u => (ih false b).bind fun v => (cmpA op u v).map .b))
  ((pairL ops).bind fun op => (pairL bs).bind fun b => cond (lastMarks [op.1, op.2] [b.1, b.2]) none ((ih false a).bind fun u => (ih false b.1).bind fun v => (ih false b.2).bind fun x => (cmpA op.1 u v).bind fun t => (cmpA op.2 v x).map fun t2 => .b (t && t2)))
 | .Tuple es _ _ => cond t none ((evs ih es).bind tupA)
 | .BoolOp op es p => (match es with
  | [] => cond t (some (.b (emptyB op))) none
  | e :: r => cond (!t && r.isEmpty) (ih t e) ((ih t e).bind fun a => (isB a).bind fun x => (ih t (.BoolOp op r p)).bind fun b => (isB b).map fun y => .b (bothB op x y)))
 | .Subscript v s _ => cond (t || !slicePlain s) none ((ih false v).bind fun u => (ih false s).bind fun i => subA u i)
 | .IfExp q a b _ => cond t none ((ih true q).bind fun x => (isB x).bind fun x => (ih false a).bind fun u => (ih false b).map fun v => mrg x u v)
 | _ => none
noncomputable def ev (k : Nat) : Bool → Expr → Option AV := Nat.rec (fun _ _ => none) (fun _ ih => evStep os cs l S ih) k
end
theorem bnd {α β : Type} {x : Option α} {f : α → Option β} {b : β} (e : x.bind f = some b) : ∃ a, x = some a ∧ f a = some b := by
 cases x with
 | none => exact nS e
 | some a => exact ⟨a, rfl, e⟩
theorem mpd {α β : Type} {x : Option α} {f : α → β} {b : β} (e : x.map f = some b) : ∃ a, x = some a ∧ f a = b := by
 cases x with
 | none => exact nS e
 | some a => exact ⟨a, rfl, Option.some.inj e⟩
theorem cnd {α : Type} {t : Bool} {x : Option α} {b : α} (e : cond t none x = some b) : t = false ∧ x = some b := by
 cases t
 ·exact ⟨rfl, e⟩
 ·cases e
theorem two_ok {β : Type} {u v : AV} {fi : Int → Int → Option β} {fs : PySem.Str → PySem.Str → Option β} {t : β} {P : AV → AV → Prop} (e : two u v fi fs = some t) (h1 : ∀ a b, fi a b = some t → P (.i a) (.i b)) (h2 : ∀ a b, fs a b = some t → P (.s a) (.s b)) : P u v := by
 cases u with
 | i a => cases v with
  | i b => exact h1 a b e
  | _ => exact nS e
 | s a => cases v with
  | s b => exact h2 a b e
  | _ => exact nS e
 | _ => exact nS e
theorem isB_ok {a : AV} {q : Bool} (e : isB a = some q) : a = .b q := by
 cases a <;> cases e
 rfl
theorem tst_ok {t : Bool} {r : Option AV} {a : AV} (e : tst t r = some a) : r = some a ∧ (t = true → ∃ q, a = .b q) := by
 cases t with
 | false => exact ⟨e, fun h => nomatch h⟩
 | true =>
  refine xEA (mpd e) fun q h1 zq1 => ?_
  subst zq1
  refine xEA (bnd h1) fun b h2 h3 => ?_
  rw [h2, isB_ok h3]
  exact ⟨rfl, fun _ => ⟨q, rfl⟩⟩
theorem one_ok {α : Type} {l : List α} {x : α} (e : one l = some x) : l = [x] := by
 cases l with
 | nil => exact nS e
 | cons y r => cases r with
  | nil => cases e; rfl
  | cons _ _ => exact nS e
theorem pairL_ok {α : Type} {l : List α} {x : α × α} (e : pairL l = some x) : l = [x.1, x.2] := by
 cases l with
 | nil => exact nS e
 | cons y r =>
  refine xEA (mpd e) fun z h1 zq2 => ?_
  subst zq2
  rw [one_ok h1]
theorem mrg_t {u v : AV} : mrg true u v = u := by
 cases u with
 | i a => cases v <;> rfl
 | s a => cases v <;> rfl
 | b a => cases v <;> rfl
 | _ => rfl
theorem mrg_f {u v : AV} : mrg false u v = v := by
 cases u with
 | i a => cases v <;> rfl
 | s a => cases v <;> rfl
 | b a => cases v <;> rfl
 | _ => rfl
section
variable {w : World} {d : Nat} {cs : Scope} {σ : Type} {den : σ → Led → Prop} {c : FD w d cs} {l : ANs} {S : σ}
structure ObOk (den : σ → Led → Prop) (c : FD w d cs) (p : Addr) (o : Obs σ) : Prop where
 h1 : ∀ {l S a v} {K : AV → σ → Prop}, o.g1 S a = some v → K v S → JO1 den c AV.Is (fun v => getAttr v a true) (.r p) l S K
 h2 : ∀ {l S x b a v xp bp q} {K : AV → σ → Prop}, alook cs l x = some (.r p) → o.g2 S b a = some v → K v S → JE den c (eval (.Attribute (.Attribute (.Name x xp) b bp) a q) c.env) l S K
inductive OsOk (den : σ → Led → Prop) (c : FD w d cs) (l : ANs) : List (PySem.Str × Obs σ) → Prop
 | nil : OsOk den c l []
 | cons {x : PySem.Str} {o : Obs σ} {os : List (PySem.Str × Obs σ)} {p : Addr} : alook cs l x = some (.r p) → ObOk den c p o → OsOk den c l os → OsOk den c l ((x, o) :: os)
theorem OsOk.get {os : List (PySem.Str × Obs σ)} (h : OsOk den c l os) : ∀ {x : PySem.Str} {o : Obs σ}, os.lookup x = some o → ∃ p, alook cs l x = some (.r p) ∧ ObOk den c p o := by
 induction h with
 | nil => exact fun e => nomatch e
 | @cons y o1 os p h1 h2 _ ih =>
  intro x o e
  rw [List.lookup_cons] at e
  by_cases q : x == y
  ·rw [q] at e; cases e
   rw [eq_of_beq q]; exact ⟨p, h1, h2⟩
  ·rw [Bool.not_eq_true] at q
   rw [q] at e; exact ih e
theorem o_neI {K : Bool → σ → Prop} {a b : Int} (h : K (a != b) S) : CmpK den c .NotEq (.i a) (.i b) l S K := fun s Q E m n x y F M N hS i1 i2 k => by (first | obtain rfl := i1.inv | obtain ⟨_, rfl⟩ := i1.inv | cases i1); (first | obtain rfl := i2.inv | obtain ⟨_, rfl⟩ := i2.inv | cases i2); exact PySem.P.ne_int (k _ _ _ _ _ _ F .refl N hS rfl h)
theorem o_leI {K : Bool → σ → Prop} {a b : Int} (h : K (decide (a ≤ b)) S) : CmpK den c .LtE (.i a) (.i b) l S K := fun s Q E m n x y F M N hS i1 i2 k => by (first | obtain rfl := i1.inv | obtain ⟨_, rfl⟩ := i1.inv | cases i1); (first | obtain rfl := i2.inv | obtain ⟨_, rfl⟩ := i2.inv | cases i2); exact PySem.P.le_int (k _ _ _ _ _ _ F .refl N hS rfl h)
theorem o_fdiv {K : AV → σ → Prop} {a b : Int} (hb : (decide (0 < b) && Nat.ble b.natAbs 1000000) = true) (h : K (.i (a / b)) S) : JO2 den c AV.Is (binaryOp .FloorDiv) (.i a) (.i b) l S K := fun s Q E m n x y F M N hS i1 i2 k => by
 (first | obtain rfl := i1.inv | obtain ⟨_, rfl⟩ := i1.inv | cases i1); (first | obtain rfl := i2.inv | obtain ⟨_, rfl⟩ := i2.inv | cases i2)
 rw [Bool.and_eq_true] at hb
 have h1 := of_decide_eq_true hb.1
 exact fdiv_L h1 (PyProof.noPylong_of_log2 (Nat.lt_of_le_of_lt (Nat.le_of_lt_succ ((Nat.log2_lt (by lia)).mpr (show b.natAbs < 2 ^ (19 + 1) from Nat.lt_of_le_of_lt (Nat.le_of_ble_eq_true hb.2) (by decide)))) (by decide))) (k _ _ _ _ _ _ F .refl N hS (.i _ _) h)
theorem opA_ok {K : AV → σ → Prop} {op : Operator} {u v a : AV} (e : opA op u v = some a) (h : K a S) : JO2 den c AV.Is (binaryOp op) u v l S K := by
 cases op with
 | Add => exact two_ok (P := fun u v => JO2 den c AV.Is (binaryOp .Add) u v l S K) e (fun _ _ q => o_add (Option.some.inj q ▸ h)) fun _ _ q => nomatch q
 | Sub => exact two_ok (P := fun u v => JO2 den c AV.Is (binaryOp .Sub) u v l S K) e (fun _ _ q => o_sub (Option.some.inj q ▸ h)) fun _ _ q => nomatch q
 | Mod => exact two_ok (P := fun u v => JO2 den c AV.Is (binaryOp .Mod) u v l S K) e (fun a b q => by
   cases z : decide (0 < b) with
   | true => rw [z] at q; exact o_mod z (Option.some.inj q ▸ h)
   | false => rw [z] at q; cases q) fun _ _ q => nomatch q
 | FloorDiv => exact two_ok (P := fun u v => JO2 den c AV.Is (binaryOp .FloorDiv) u v l S K) e (fun a b q => by
   cases z : (decide (0 < b) && Nat.ble b.natAbs 1000000) with
   | true => rw [z] at q; exact o_fdiv z (Option.some.inj q ▸ h)
   | false => rw [z] at q; cases q) fun _ _ q => nomatch q
 | _ => exact nS e
theorem isA_ok {t : Bool} {u v : AV} {q : Bool} (e : isA t u v = some q) : v = .n ∧ ((u = .n ∧ q = t) ∨ (q = !t ∧ ∀ n x, u.Is n x → ∃ a, x = .ref a)) := by
 cases v with
 | n => cases u with
  | n => exact ⟨rfl, .inl ⟨rfl, (Option.some.inj e).symm⟩⟩
  | r a => exact ⟨rfl, .inr ⟨(Option.some.inj e).symm, fun n x h => by cases h; exact ⟨_, rfl⟩⟩⟩
  | d x => cases x with
   | tuple ds => exact ⟨rfl, .inr ⟨(Option.some.inj e).symm, fun n x h => by cases h with | d h _ => cases h; exact ⟨_, rfl⟩⟩⟩
   | _ => exact nS e
  | _ => exact nS e
 | _ => exact nS e
theorem o_isXN {K : Bool → σ → Prop} {u : AV} (hu : ∀ n x, u.Is n x → ∃ a, x = .ref a) (h : K false S) : CmpK den c .Is u .n l S K := fun s Q E m n x y F M N hS i1 i2 k => by
 obtain ⟨a, rfl⟩ := hu _ _ i1
 (first | obtain rfl := i2.inv | obtain ⟨_, rfl⟩ := i2.inv | cases i2); exact is_ref_none (k _ _ _ _ _ _ F .refl N hS rfl h)
theorem o_isnotXN {K : Bool → σ → Prop} {u : AV} (hu : ∀ n x, u.Is n x → ∃ a, x = .ref a) (h : K true S) : CmpK den c .IsNot u .n l S K := fun s Q E m n x y F M N hS i1 i2 k => by
 obtain ⟨a, rfl⟩ := hu _ _ i1
 (first | obtain rfl := i2.inv | obtain ⟨_, rfl⟩ := i2.inv | cases i2); exact isnot_ref_none (k _ _ _ _ _ _ F .refl N hS rfl h)
theorem inA_ok {u v : AV} {t : Bool} (e : inA u v = some t) : ∃ x ds ys, u = .s x ∧ v = .d (.tuple ds) ∧ strsOf ds = some ys ∧ t = ys.any (· == x) := by
 cases u with
 | s x => cases v with
  | d y => cases y with
   | tuple ds =>
    refine xEA (mpd e) fun ys h1 h2 => ?_
    exact ⟨x, ds, ys, rfl, rfl, h1, h2.symm⟩
   | _ => exact nS e
  | _ => exact nS e
 | _ => exact nS e
theorem cmpA_ok {K : Bool → σ → Prop} {op : CmpOp} {u v : AV} {t : Bool} (e : cmpA op u v = some t) (h : K t S) : CmpK den c op u v l S K := by
 cases op with
 | Eq => exact two_ok (P := fun u v => CmpK den c .Eq u v l S K) e (fun _ _ q => o_eqI (Option.some.inj q ▸ h)) fun _ _ q => o_eqS (Option.some.inj q ▸ h)
 | NotEq => exact two_ok (P := fun u v => CmpK den c .NotEq u v l S K) e (fun _ _ q => o_neI (Option.some.inj q ▸ h)) fun _ _ q => o_neS (Option.some.inj q ▸ h)
 | Lt => exact two_ok (P := fun u v => CmpK den c .Lt u v l S K) e (fun _ _ q => o_ltI (Option.some.inj q ▸ h)) fun _ _ q => nomatch q
 | Gt => exact two_ok (P := fun u v => CmpK den c .Gt u v l S K) e (fun _ _ q => o_gtI (Option.some.inj q ▸ h)) fun _ _ q => nomatch q
 | GtE => exact two_ok (P := fun u v => CmpK den c .GtE u v l S K) e (fun _ _ q => o_geI (Option.some.inj q ▸ h)) fun _ _ q => nomatch q
 | LtE => exact two_ok (P := fun u v => CmpK den c .LtE u v l S K) e (fun _ _ q => o_leI (Option.some.inj q ▸ h)) fun _ _ q => o_leS (Option.some.inj q ▸ h)
 | In =>
  refine xEEEAAA (inA_ok e) fun x ds ys zq3 zq4 h1 h2 => ?_
  subst zq3
  subst zq4
  exact o_inS h1 (h2 ▸ h)
 | NotIn =>
  refine xEA (mpd e) fun t e1 e2 => ?_
  refine xEEEAAA (inA_ok e1) fun x ds ys zq5 zq6 h1 h2 => ?_
  subst zq5
  subst zq6
  exact o_notinS h1 (by rw [← h2, e2]; exact h)
 | Is =>
  obtain ⟨rfl, ⟨rfl, rfl⟩ | ⟨rfl, hu⟩⟩ := isA_ok e
  ·exact o_isNN h
  ·exact o_isXN hu h
 | IsNot =>
  obtain ⟨rfl, ⟨rfl, rfl⟩ | ⟨rfl, hu⟩⟩ := isA_ok e
  ·exact o_isnotNN h
  ·exact o_isnotXN hu h
theorem subA_ok {K : AV → σ → Prop} {u i a : AV} {sl : Expr} (hs : slicePlain sl = true) (e : subA u i = some a) (h : K a S) : JO2 den c AV.Is (fun o i => subscriptTail usE sl o i) u i l S K := by
 cases u with
 | d x => cases x with
  | tuple ds => cases i with
   | i z => cases z with
    | ofNat k =>
     cases q : Nat.ble k 100 with
     | true =>
      have e : cond (Nat.ble k 100) ((ds[k]?).bind avOf?) none = some a := e
      rw [q] at e
      refine xEA (bnd e) fun x e1 e2 => ?_
      cases avOf?_ok e2
      exact fun s Q E m n y z F M N hS i1 i2 kk => by
       cases i1 with
       | d hd hn => exact o_dsub (z := k) hs q e1 (noL_all hn x (List.mem_of_getElem? e1)) h s Q E m n y z F M N hS (.d hd hn) i2 kk
     | false =>
      have e : cond (Nat.ble k 100) ((ds[k]?).bind avOf?) none = some a := e
      rw [q] at e
      cases e
    | negSucc _ => exact nS e
   | _ => exact nS e
  | _ => exact nS e
 | _ => exact nS e
theorem constA_ok {K : AV → σ → Prop} {k : Const} {a : AV} {n : Nat} {p : Pos} {env : Env} (e : constA k = some a) (h : K a S) : JE den c (eval (.Constant k n p) env) l S K := by
 cases k with
 | none => cases e; exact e_none h
 | bool b => cases e; exact e_bool h
 | int z => cases e; exact e_int h
 | str x => cases e; exact e_str h
 | _ => exact nS e
noncomputable def isBoolOp (e : Expr) : Bool := match e with
 | .BoolOp .. => true
 | _ => false
theorem bif2_case {b : Bool} {A B : Prop} (h1 : b = true → A) (h2 : b = false → B) : bif2 b A B := by
 cases b
 ·exact h2 rfl
 ·exact h1 rfl
noncomputable def EvV (den : σ → Led → Prop) (c : FD w d cs) (l : ANs) (S : σ) (e : Expr) (a : AV) : Prop := ∀ K : AV → σ → Prop, K a S → JE den c (eval e c.env) l S K
noncomputable def EvT (den : σ → Led → Prop) (c : FD w d cs) (l : ANs) (S : σ) (e : Expr) (a : AV) : Prop := ∃ q, a = .b q ∧ ∀ (wh : Sem Value), (isBoolOp e = true ∨ wh = eval e c.env) → ∀ K : Bool → σ → Prop, K q S → JB den c (PySem.isTrue e c.env wh) l S K
noncomputable def EvR (den : σ → Led → Prop) (c : FD w d cs) (l : ANs) (S : σ) (t : Bool) (e : Expr) (a : AV) : Prop := (t = false → EvV den c l S e a) ∧ (t = true → EvT den c l S e a)
theorem ev_plain {t : Bool} {e : Expr} {a : AV} (h1 : testPlain e = true) (h4 : isBoolOp e = false) (h2 : EvV den c l S e a) (h3 : t = true → ∃ q, a = .b q) : EvR den c l S t e a := ⟨fun _ => h2, fun ht => by
 obtain ⟨q, rfl⟩ := h3 ht
 exact ⟨q, rfl, fun wh hw K hk => by
  rcases hw with hw | hw
  ·rw [h4] at hw; cases hw
  ·rw [hw]; exact t_plain h1 (h2 _ (o_truthy hk))⟩⟩
theorem ev_val {e : Expr} {a : AV} (h2 : EvV den c l S e a) : EvR den c l S false e a := ⟨fun _ => h2, fun h => nomatch h⟩
theorem obs_ok {os : List (PySem.Str × Obs σ)} (hO : OsOk den c l os) {x : PySem.Str} {v : Expr} {a : AV} {p : Pos} (e : obsOf os S x v = some a) : EvV den c l S (.Attribute v x p) a := fun K hk => by
 cases v with
 | Name y q =>
  refine xEA (bnd e) fun o h1 h2 => ?_
  refine xEA (hO.get h1) fun p h3 h4 => ?_
  exact e_attr h3 (h4.h1 h2 hk)
 | Attribute u b q => cases u with
  | Name y q =>
   refine xEA (bnd e) fun o h1 h2 => ?_
   refine xEA (hO.get h1) fun p h3 h4 => ?_
   exact h4.h2 h3 h2 hk
  | _ => exact nS e
 | _ => exact nS e
variable {ih : Bool → Expr → Option AV}
theorem ev_un (IH : ∀ t e a, ih t e = some a → EvR den c l S t e a) {t : Bool} {op : UnaryOp} {e : Expr} {p : Pos} {a : AV} (h : ((ih t e).bind fun a => unA op t a) = some a) : EvR den c l S t (.UnaryOp op e p) a := by
 refine xEA (bnd h) fun b h1 h2 => ?_
 have i1 := IH _ _ _ h1
 cases op with
 | Not =>
  refine xEA (mpd h2) fun q h3 zq7 => ?_
  subst zq7
  cases isB_ok h3
  refine ⟨fun ht K hk => e_notV (i1.1 ht _ (jt_b hk)), fun ht => ⟨_, rfl, fun wh _ K hk => ?_⟩⟩
  refine xEA (i1.2 ht) fun q' e1 f => ?_
  cases e1
  exact t_not (f _ (.inr rfl) _ hk)
 | USub =>
  obtain ⟨rfl, h3⟩ := cnd h2
  cases b with
  | i z => cases h3; exact ev_val fun K hk => e_neg (i1.1 rfl _ (o_neg hk))
  | _ => cases h3
 | _ => cases h2
theorem ev_cmp (IH : ∀ t e a, ih t e = some a → EvR den c l S t e a) {t : Bool} {x : Expr} {ops : List CmpOp} {bs : List Expr} {p : Pos} {a : AV} (h : cond (one ops).isSome
  ((one ops).bind fun op => (one bs).bind fun b => cond (behindInMarks op b) none ((ih false x).bind fun u => (ih false b).bind fun v => (cmpA op u v).map .b))
  ((pairL ops).bind fun op => (pairL bs).bind fun b => cond (lastMarks [op.1, op.2] [b.1, b.2]) none ((ih false x).bind fun u => (ih false b.1).bind fun v => (ih false b.2).bind fun x => (cmpA op.1 u v).bind fun t => (cmpA op.2 v x).map fun t2 => .b (t && t2))) = some a) : EvR den c l S t (.Compare x ops bs p) a := by
 cases hz : (one ops).isSome with
 | true =>
  rw [hz] at h
  refine xEA (bnd h) fun op h1 h => ?_
  refine xEA (bnd h) fun b h2 h => ?_
  cases one_ok h1
  cases one_ok h2
  obtain ⟨hb, h⟩ := cnd h
  refine xEA (bnd h) fun u h3 h => ?_
  refine xEA (bnd h) fun v h4 h => ?_
  refine xEA (mpd h) fun q h5 zq8 => ?_
  subst zq8
  have i1 := (IH _ _ _ h3).1 rfl
  have i2 := (IH _ _ _ h4).1 rfl
  exact ⟨fun _ K hk => e_cmp hb (i1 _ (i2 _ (cmpA_ok h5 hk))), fun _ => ⟨q, rfl, fun wh _ K hk => t_cmp hb (i1 _ (i2 _ (cmpA_ok h5 hk)))⟩⟩
 | false =>
  rw [hz] at h
  refine xEA (bnd h) fun zq9 h1 g1 => ?_
  obtain ⟨op1, op2⟩ := zq9
  refine xEA (bnd g1) fun zq10 h2 g2 => ?_
  obtain ⟨b1, b2⟩ := zq10
  have e1 := pairL_ok h1
  have e2 := pairL_ok h2
  clear h g1 h1 h2 hz
  obtain ⟨hb, g3⟩ := cnd g2
  refine xEA (bnd g3) fun u h3 g4 => ?_
  refine xEA (bnd g4) fun v h4 g5 => ?_
  refine xEA (bnd g5) fun x3 h5 g6 => ?_
  refine xEA (bnd g6) fun t1 h6 g7 => ?_
  refine xEA (mpd g7) fun t2 h7 g8 => ?_
  clear g2 g3 g4 g5 g6 g7
  subst g8 e1 e2
  have i1 := (IH _ _ _ h3).1 rfl
  have i2 := (IH _ _ _ h4).1 rfl
  have i3 := (IH _ _ _ h5).1 rfl
  refine ⟨fun _ K hk => e_ch2 hb (i1 _ (i2 _ (cmpA_ok h6 ?_))), fun _ => ⟨_, rfl, fun wh _ K hk => t_ch2 hb (i1 _ (i2 _ (cmpA_ok h6 ?_)))⟩⟩
  ·cases t1
   ·exact hk
   ·exact i3 _ (cmpA_ok h7 hk)
  ·cases t1
   ·exact hk
   ·exact i3 _ (cmpA_ok h7 hk)
theorem evs_ok (IH : ∀ t e a, ih t e = some a → EvR den c l S t e a) {p : Pos} : ∀ {es : List Expr} {as : List AV} {K : List AV → σ → Prop}, evs ih es = some as → K as S → JL den c (spliced (backTo p (starEach es c.env))) l S K
 | [], _, _, q, h => by (first | obtain rfl := q.inv | obtain ⟨_, rfl⟩ := q.inv | cases q); exact l_nil h
 | e :: r, _, _, q, h => by
  have q : cond (starP e) ((ih false e).bind fun a => (evs ih r).map fun as => a :: as) none = some _ := q
  cases hp : starP e with
  | false => rw [hp] at q; (first | obtain rfl := q.inv | obtain ⟨_, rfl⟩ := q.inv | cases q)
  | true =>
   rw [hp] at q
   refine xEA (bnd q) fun a h1 q => ?_
   refine xEA (mpd q) fun as h2 zq11 => ?_
   subst zq11
   exact l_cons hp ((IH _ _ _ h1).1 rfl _ (evs_ok IH h2 h))
theorem ev_bo (IH : ∀ t e a, ih t e = some a → EvR den c l S t e a) {t : Bool} {op : BoolOp} {e : Expr} {r : List Expr} {p : Pos} {a : AV} (h : cond (!t && r.isEmpty) (ih t e) ((ih t e).bind fun a => (isB a).bind fun x => (ih t (.BoolOp op r p)).bind fun b => (isB b).map fun y => .b (bothB op x y)) = some a) : EvR den c l S t (.BoolOp op (e :: r) p) a := by
 cases hz : (!t && r.isEmpty) with
 | true =>
  rw [hz] at h
  rw [Bool.and_eq_true] at hz
  cases r with
  | nil => cases t with
   | false => exact ev_val fun K hk => e_bool1 ((IH _ _ _ h).1 rfl K hk)
   | true => cases hz.1
  | cons _ _ => cases hz.2
 | false =>
  rw [hz] at h
  refine xEA (bnd h) fun b1 h1 h => ?_
  refine xEA (bnd h) fun x h2 h => ?_
  refine xEA (bnd h) fun b2 h3 h => ?_
  refine xEA (mpd h) fun y h4 zq12 => ?_
  subst zq12
  cases isB_ok h2
  cases isB_ok h4
  have i1 := IH _ _ _ h1
  have i2 := IH _ _ _ h3
  refine ⟨fun ht K hk => ?_, fun ht => ⟨_, rfl, fun wh _ K hk => ?_⟩⟩
  ·subst ht
   cases r with
   | nil => cases hz
   | cons e2 r =>
    cases op with
    | And => exact e_and (i1.1 rfl _ (jt_b (bif2_case (fun hx => i2.1 rfl _ (by rw [hx] at hk; exact hk)) fun hx => by rw [hx] at hk; rw [hx]; exact hk)))
    | Or => exact e_or (i1.1 rfl _ (jt_b (bif2_case (fun hx => by rw [hx] at hk; rw [hx]; exact hk) fun hx => i2.1 rfl _ (by rw [hx] at hk; exact hk))))
  ·refine xEA (i1.2 ht) fun q1 e1 j1 => ?_
   refine xEA (i2.2 ht) fun q2 e2 j2 => ?_
   cases e1
   cases e2
   cases op with
   | And => exact t_and (j1 _ (.inr rfl) _ (bif2_case (fun hx => j2 wh (.inl rfl) _ (by rw [hx] at hk; exact hk)) fun hx => by rw [hx] at hk; exact hk))
   | Or => exact t_or (j1 _ (.inr rfl) _ (bif2_case (fun hx => by rw [hx] at hk; exact hk) fun hx => j2 wh (.inl rfl) _ (by rw [hx] at hk; exact hk)))
theorem ev_ok {os : List (PySem.Str × Obs σ)} (hT : TupOk den) (hO : OsOk den c l os) : ∀ (k : Nat) (t : Bool) (e : Expr) (a : AV), ev os cs l S k t e = some a → EvR den c l S t e a := by
 intro k
 induction k with
 | zero => intro t e a h; cases h
 | succ k IH =>
  intro t e a h
  cases e with
  | Name x p =>
   obtain ⟨h1, h2⟩ := tst_ok h
   exact ev_plain rfl rfl (fun K hk => e_name h1 hk) h2
  | Constant x n p =>
   obtain ⟨h1, h2⟩ := tst_ok h
   exact ev_plain rfl rfl (fun K hk => constA_ok h1 hk) h2
  | Attribute v x p =>
   obtain ⟨h1, h2⟩ := tst_ok h
   exact ev_plain rfl rfl (obs_ok hO h1) h2
  | BinOp x op y p =>
   obtain ⟨rfl, h⟩ := cnd h
   refine xEA (bnd h) fun u h1 h => ?_
   refine xEA (bnd h) fun v h2 h => ?_
   exact ev_val fun K hk => e_bin ((IH _ _ _ h1).1 rfl _ ((IH _ _ _ h2).1 rfl _ (opA_ok h hk)))
  | UnaryOp op x p => exact ev_un IH h
  | Compare x ops bs p => exact ev_cmp IH h
  | Tuple es n p =>
   obtain ⟨rfl, h⟩ := cnd h
   refine xEA (bnd h) fun as h1 h => ?_
   refine xEA (bnd h) fun ds h2 h => ?_
   cases hz : (noL 4 (.tuple ds) && Nat.ble as.length 100) with
   | false => rw [hz] at h; cases h
   | true =>
    rw [hz] at h
    cases h
    rw [Bool.and_eq_true] at hz
    exact ev_val fun K hk => e_tup (evs_ok IH h1 (o_tupG hT h2 hz.1 hz.2 hk))
  | BoolOp op es p =>
   cases es with
   | nil => cases t with
    | false => exact nS h
    | true =>
     cases h
     refine ⟨(fun h => nomatch h), fun _ => ⟨_, rfl, fun wh _ K hk => ?_⟩⟩
     cases op with
     | And => exact t_and0 hk
     | Or => exact t_or0 hk
   | cons x r => exact ev_bo IH h
  | Subscript v s p =>
   obtain ⟨hz, h'⟩ := cnd h
   clear h
   rw [Bool.or_eq_false_iff] at hz
   obtain ⟨rfl, hz⟩ := hz
   refine xEA (bnd h') fun u h1 h => ?_
   refine xEA (bnd h) fun i h2 h => ?_
   exact ev_val fun K hk => e_sub ((IH _ _ _ h1).1 rfl _ ((IH _ _ _ h2).1 rfl _ (subA_ok (by simpa using hz) h hk)))
  | IfExp q x y p =>
   obtain ⟨rfl, h⟩ := cnd h
   refine xEA (bnd h) fun b h1 h => ?_
   refine xEA (bnd h) fun z h2 h => ?_
   refine xEA (bnd h) fun u h3 h => ?_
   refine xEA (mpd h) fun v h4 zq13 => ?_
   subst zq13
   cases isB_ok h2
   refine xEA ((IH _ _ _ h1).2 rfl) fun q' e1 f => ?_
   cases e1
   exact ev_val fun K hk => e_ifexp (f _ (.inr rfl) _ (bif2_case (fun hx => (IH _ _ _ h3).1 rfl _ (by rw [hx, mrg_t] at hk; exact hk)) fun hx => (IH _ _ _ h4).1 rfl _ (by rw [hx, mrg_f] at hk; exact hk)))
  | _ => exact nS h
end
end Mine
end
section
open PySem PySem.W PyProof.Rows PySem.Calls
namespace Mine
section
variable {σ : Type} (os : List (PySem.Str × Obs σ)) (cs : Scope) (l : ANs) (S : σ)
noncomputable def evL : List Expr → Option (List AV)
 | [] => some []
 | e :: r => match starP e, ev os cs l S 20 false e, evL r with
  | true, some a, some as => some (a :: as)
  | _, _, _ => none
end
section
variable {w : World} {d : Nat} {cs : Scope} {σ : Type} {den : σ → Led → Prop} {c : FD w d cs} {l : ANs} {S : σ} {os : List (PySem.Str × Obs σ)} {bs : List (List Stmt)} {r : List Stmt} {K : AF → ANs → σ → Prop}
noncomputable def OsT (den : σ → Led → Prop) (c : FD w d cs) (l : ANs) (os : List (PySem.Str × Obs σ)) : Prop := TupOk den ∧ OsOk den c l os
theorem os_n (hT : TupOk den) : OsT den c l [] := ⟨hT, .nil⟩
theorem e_ev {K : AV → σ → Prop} {e : Expr} {a : AV} (hO : OsT den c l os) (q : ev os cs l S 20 false e = some a) (h : K a S) : JE den c (eval e c.env) l S K := (ev_ok hO.1 hO.2 _ _ _ _ q).1 rfl K h
theorem t_ev {K : Bool → σ → Prop} {e : Expr} {b : Bool} (hO : OsT den c l os) (q : ev os cs l S 20 true e = some (.b b)) (h : K b S) : JB den c (PySem.isTrue e c.env (eval e c.env)) l S K := by
 refine xEA ((ev_ok hO.1 hO.2 _ _ _ _ q).2 rfl) fun b' e' f => ?_
 cases e'
 exact f _ (.inr rfl) K h
theorem evL_ok (hO : OsT den c l os) {p : Pos} : ∀ {es : List Expr} {as : List AV} {K : List AV → σ → Prop}, evL os cs l S es = some as → K as S → JL den c (spliced (backTo p (starEach es c.env))) l S K
 | [], _, _, q, h => by (first | obtain rfl := q.inv | obtain ⟨_, rfl⟩ := q.inv | cases q); exact l_nil h
 | e :: r, _, _, q, h => by
  unfold evL at q
  split at q
  ·rename_i h1 h2 h3
   (first | obtain rfl := q.inv | obtain ⟨_, rfl⟩ := q.inv | cases q)
   exact l_cons h1 (e_ev hO h2 (evL_ok hO h3 h))
  ·(first | obtain rfl := q.inv | obtain ⟨_, rfl⟩ := q.inv | cases q)
theorem evL_plain : ∀ {es : List Expr} {as : List AV}, evL os cs l S es = some as → es.all starP = true
 | [], _, _ => rfl
 | e :: r, _, q => by
  unfold evL at q
  split at q
  ·rename_i h1 h2 h3
   rw [List.all_cons, h1, evL_plain h3]; rfl
  ·(first | obtain rfl := q.inv | obtain ⟨_, rfl⟩ := q.inv | cases q)
theorem e_m {K : AV → σ → Prop} {dd : Nat} {x name : PySem.Str} {xp apos p : Pos} {es : List Expr} {as : List AV} {a f : Addr} (hp : methOk es apos p = true) (e : alook cs l x = some (.r a)) (hm : Meth den c S a name f) (hk : keepIn (hd.heap_1 w.params) (.ref f) = true) (hd : Nat.ble dd d = true) (hO : OsT den c l os) (q : evL os cs l S es = some as) (h : JC den w dd f (.r a :: as) S K) : JE den c (eval (.Call (.Attribute (.Name x xp) name apos) es [] p) c.env) l S K := by
 cases es with
 | nil => (first | obtain rfl := q.inv | obtain ⟨_, rfl⟩ := q.inv | cases q); exact e_meth0 hp e hm hk hd h
 | cons e0 r => exact e_meth hp e hm hk hd (evL_ok hO q h)
theorem e_k {K : AV → σ → Prop} {dd : Nat} {x : PySem.Str} {xp p : Pos} {f : Addr} {e0 : Expr} {es : List Expr} {as : List AV} (B : GName w x (.ref f)) (hx : isGlob cs x = true) (hk : keepIn (hd.heap_1 w.params) (.ref f) = true) (hd : Nat.ble dd d = true) (hO : OsT den c l os) (q : evL os cs l S (e0 :: es) = some as) (h : JC den w dd f as S K) : JE den c (eval (.Call (.Name x xp) (e0 :: es) [] p) c.env) l S K := e_callK B hx (evL_plain q) hk hd (evL_ok hO q h)
theorem e_b {K : AV → σ → Prop} {x : PySem.Str} {xp p : Pos} {id : String} {e0 : Expr} {es : List Expr} {as : List AV} (B : BName w x (.builtin id)) (hx : isGlob cs x = true) (hO : OsT den c l os) (q : evL os cs l S (e0 :: es) = some as) (h : JOL den c AV.Is (fun vs => call (.builtin id) vs) as l S K) : JE den c (eval (.Call (.Name x xp) (e0 :: es) [] p) c.env) l S K := e_callB B hx (evL_plain q) (evL_ok hO q h)
theorem e_t {K : AV → σ → Prop} {x : PySem.Str} {xp p : Pos} {T : String} {e0 : Expr} {es : List Expr} {as : List AV} (B : BName w x (.type T)) (hx : isGlob cs x = true) (hO : OsT den c l os) (q : evL os cs l S (e0 :: es) = some as) (h : JOL den c AV.Is (fun vs => call (.type T) vs) as l S K) : JE den c (eval (.Call (.Name x xp) (e0 :: es) [] p) c.env) l S K := e_callT B hx (evL_plain q) (evL_ok hO q h)
theorem x_mono {t : Sem Flow} {K K' : AF → ANs → σ → Prop} (h : JX den c t l S K) (g : ∀ f l' S', K f l' S' → K' f l' S') : JX den c t l S K' := fun s Q E m n F M N hS k => h s Q E m n F M N hS fun v b l' S' m' n' h' tk' F' g' M' N' hS' i' hk => k v b l' S' m' n' h' tk' F' g' M' N' hS' i' (g _ _ _ hk)
noncomputable def JZ (den : σ → Led → Prop) (c : FD w d cs) : List (List Stmt) → ANs → σ → (AF → ANs → σ → Prop) → Prop
 | [], l, S, K => K .nxt l S
 | b :: bs, l, S, K => JX den c (execs b c.env) l S fun f l' S' => match f with
  | .nxt => JZ den c bs l' S' K
  | .ret a => K (.ret a) l' S'
noncomputable def ZK (den : σ → Led → Prop) (c : FD w d cs) (bs : List (List Stmt)) (K : AF → ANs → σ → Prop) : AF → ANs → σ → Prop := fun f l' S' => match f with
 | .nxt => JZ den c bs l' S' K
 | .ret a => K (.ret a) l' S'
theorem z_start {b : List Stmt} (h : JZ den c [b] l S K) : JX den c (execs b c.env) l S K := x_mono h fun f l' S' hk => by cases f <;> exact hk
theorem z_end (h : K .nxt l S) : JZ den c [] l S K := h
theorem z_nil (h : JZ den c bs l S K) : JZ den c ([] :: bs) l S K := x_nil h
theorem z_stmt {st : Stmt} (h : JX den c (exec st c.env) l S (ZK den c (r :: bs) K)) : JZ den c ((st :: r) :: bs) l S K := x_cons (x_mono h fun f l' S' hk => by cases f <;> exact hk)
theorem zk_n (h : JZ den c bs l S K) : ZK den c bs K .nxt l S := h
theorem zk_r {a : AV} (h : K (.ret a) l S) : ZK den c bs K (.ret a) l S := h
theorem z_let {x : PySem.Str} {px p : Pos} {e : Expr} (hp : plainE e = true) (hx : isLoc cs x = true) (h : JE den c (eval e c.env) l S fun a S1 => JZ den c (r :: bs) ((x, a) :: l) S1 K) : JZ den c ((.Assign [.Name x px] e p :: r) :: bs) l S K := z_stmt (x_assign hp hx h)
theorem z_letE {x : PySem.Str} {px p : Pos} {e : Expr} {a : AV} (hO : OsT den c l os) (hp : plainE e = true) (hx : isLoc cs x = true) (q : ev os cs l S 20 false e = some a) (h : JZ den c (r :: bs) ((x, a) :: l) S K) : JZ den c ((.Assign [.Name x px] e p :: r) :: bs) l S K := z_let hp hx (e_ev hO q h)
theorem z_expr {p : Pos} {e : Expr} (hp : plainE e = true) (h : JE den c (eval e c.env) l S fun _ S1 => JZ den c (r :: bs) l S1 K) : JZ den c ((.Expr e p :: r) :: bs) l S K := z_stmt (x_expr hp h)
theorem z_ret {p : Pos} {e : Expr} (h : JE den c (eval e c.env) l S fun a S1 => K (.ret a) l S1) : JZ den c ((.Return (some e) p :: r) :: bs) l S K := z_stmt (x_ret h)
theorem z_retE {p : Pos} {e : Expr} {a : AV} (hO : OsT den c l os) (q : ev os cs l S 20 false e = some a) (h : K (.ret a) l S) : JZ den c ((.Return (some e) p :: r) :: bs) l S K := z_ret (e_ev hO q h)
theorem z_ret0 {p : Pos} (h : K (.ret .n) l S) : JZ den c ((.Return none p :: r) :: bs) l S K := z_stmt (x_ret0 h)
theorem z_if {t : Expr} {a b : List Stmt} {p : Pos} (h : JB den c (PySem.isTrue t c.env (eval t c.env)) l S fun q S1 => bif2 q (JZ den c (a :: r :: bs) l S1 K) (JZ den c (b :: r :: bs) l S1 K)) : JZ den c ((.If t a b p :: r) :: bs) l S K := z_stmt (x_if fun s Q E m n F M N hS k => h s Q E m n F M N hS fun v b S1 n1 h1 t1 F1 g1 N1 hS1 i1 hk => k v b S1 n1 h1 t1 F1 g1 N1 hS1 i1 (by cases b <;> exact x_mono hk fun f l' S' hk => by cases f <;> exact hk))
theorem z_ifT {t : Expr} {a b : List Stmt} {p : Pos} {q : Bool} (hO : OsT den c l os) (e : ev os cs l S 20 true t = some (.b q)) (hq : q = true) (h : JZ den c (a :: r :: bs) l S K) : JZ den c ((.If t a b p :: r) :: bs) l S K := z_if (t_ev hO e (by rw [hq]; exact h))
theorem z_ifF {t : Expr} {a b : List Stmt} {p : Pos} {q : Bool} (hO : OsT den c l os) (e : ev os cs l S 20 true t = some (.b q)) (hq : q = false) (h : JZ den c (b :: r :: bs) l S K) : JZ den c ((.If t a b p :: r) :: bs) l S K := z_if (t_ev hO e (by rw [hq]; exact h))
theorem z_setA {x a : PySem.Str} {px pa p : Pos} {e : Expr} {o v : AV} (hO : OsT den c l os) (hp : plainE e = true) (eo : alook cs l x = some o) (q : ev os cs l S 20 false e = some v) (h : SetK den c a o v l S fun _ S1 => JZ den c (r :: bs) l S1 K) : JZ den c ((.Assign [.Attribute (.Name x px) a pa] e p :: r) :: bs) l S K := z_stmt (x_assignA hp eo (e_ev hO q h))
end
section
variable {w : World} {d : Nat} {cs : Scope} {c : FD w d cs} {l : ANs} {X : TX} {cf : Cfg}
noncomputable def tsOb (X : TX) : Obs Cfg := ⟨fun cf a => cfGet X cf a, fun _ b a => if b = ofString "stream" then (if a = ofString "signs" then some (.r X.A.sg) else if a = ofString "is_closed" then some (.b X.closed) else none) else none⟩
theorem ts_ob (X : TX) : ObOk (tsD X) c X.A.t (tsOb X) where
 h1 := fun e h => s_get e h
 h2 := fun {l S x b a v xp bp q K} e e2 h => by
  unfold tsOb at e2
  simp only at e2
  split at e2
  ·rename_i hb
   subst hb
   refine e_attr2 (e_attr e (s_get rfl ?_))
   split at e2
   ·rename_i ha; subst ha; cases e2; exact s_signs h
   ·split at e2
    ·rename_i ha; subst ha; cases e2; exact s_isclosed h
    ·cases e2
  ·cases e2
theorem ts_tup2 (X : TX) : TupOk (tsD X) := fun S n D vs hS hl => by
 refine xEEEEAAA hS fun TK0 v dl rest zq1 hA T hb => ?_
 subst zq1
 have hg : GtA X.A D := gtA_of (K := TK0) (v := v) (R := dl ++ rest) ⟨hA, T.offT⟩ hl
 have hr : ∀ p ∈ dl ++ rest, p.1 < D := fun p hp => hl p (mem_ends hp)
 refine ⟨tokLed X.A TK0 v ++ (dl ++ ([(D, tupO vs 0)] ++ rest)), ⟨TK0, v, dl, _, rfl, hA, T.grow (.one hg hr), fun p hp => mem_ends (hb p hp)⟩, fun p hp => ?_, mem_ends (mem_ends (.head _)), .of fun p hp => ?_⟩
 ·simp only [List.mem_append, List.mem_singleton, List.mem_cons, List.not_mem_nil, or_false] at hp ⊢
  rcases hp with h | h | h | h
  ·exact .inr (.inl h)
  ·exact .inr (.inr (.inl h))
  ·exact .inl h
  ·exact .inr (.inr (.inr h))
 ·simp only [List.mem_append] at hp ⊢
  rcases hp with h | h | h
  ·exact .inl h
  ·exact .inr (.inl h)
  ·exact .inr (.inr (.inr h))
theorem os_ts {x : PySem.Str} (e : alook cs l x = some (.r X.A.t)) : OsT (tsD X) c l [(x, tsOb X)] := ⟨ts_tup2 X, .cons e (ts_ob X) .nil⟩
end
end Mine
end
section
open PySem PySem.W PyProof.Rows PySem.Calls
namespace Mine
theorem mem_lookup {α : Type} {x : PySem.Str} {v : α} : ∀ {l : List (PySem.Str × α)}, l.lookup x = some v → (x, v) ∈ l
 | [], h => nomatch h
 | (y, u) :: r, h => by
  rw [List.lookup_cons] at h
  by_cases q : x == y
  ·rw [q] at h; cases h; rw [eq_of_beq q]; exact .head _
  ·rw [Bool.not_eq_true] at q
   rw [q] at h; exact .tail _ (mem_lookup h)
noncomputable def mtab : List (PySem.Str × Addr × Nat) := [(ofString "to", 243, 3), (ofString "next", 236, 3), (ofString "again", 250, 3), (ofString "error", 257, 3), (ofString "emit", 264, 3), (ofString "emit_sign", 271, 3), (ofString "emit_text", 278, 3), (ofString "emit_draft", 285, 5), (ofString "emit_eof", 292, 3), (ofString "is_apt", 299, 3), (ofString "looks", 307, 6), (ofString "take", 314, 3), (ofString "wait", 321, 3), (ofString "in_value", 328, 3), (ofString "flush", 335, 5), (ofString "step", 342, 11), (ofString "is_ready", 349, 4), (ofString "run", 356, 13)]
noncomputable def gtab : List (PySem.Str × Addr × Nat) := [(ofString "lower", 123, 3), (ofString "_law_do", 480, 7), (ofString "is_upper", 74, 1), (ofString "is_lower", 81, 1), (ofString "is_digit", 95, 1), (ofString "is_hex", 102, 1), (ofString "is_blank", 60, 1), (ofString "is_space", 67, 1), (ofString "is_letter", 88, 1), (ofString "is_alnum", 109, 1), (ofString "is_surrogate", 137, 1), (ofString "is_noncharacter", 144, 1), (ofString "is_control", 151, 1), (ofString "digit_value", 116, 3), (ofString "lower_text", 130, 5), (ofString "_law_fold", 466, 5), (ofString "_law_told", 461, 6), (ofString "_law_kinds", 473, 7), (ofString "input_error", 158, 4), (ofString "_law_token", 494, 3), (ofString "_law_digit", 426, 2)]
noncomputable def btab : List (PySem.Str × String) := [(ofString "len", "len"), (ofString "ord", "ord"), (ofString "chr", "chr")]
noncomputable def ttab : List (PySem.Str × String) := [(ofString "int", "int"), (ofString "str", "str"), (ofString "list", "list"), (ofString "tuple", "tuple"), (ofString "range", "range")]
section
variable {w : World} {d : Nat} {cs : Scope} {c : FD w d cs} {l : ANs} {X : TX} {cf : Cfg}
theorem mtab_ok : ∀ p ∈ mtab, Meth (tsD X) c cf X.A.t p.1 p.2.1 ∧ keepIn (hd.heap_1 w.params) (.ref p.2.1) = true := by
 unfold mtab
 repeat' first | refine List.forall_mem_cons.mpr ⟨?_, ?_⟩ | exact List.forall_mem_nil _
 ·exact ⟨s_meth (fm_359_to _) (fn_243 _) (by k_get), kp_243 _⟩
 ·exact ⟨s_meth (fm_359_next _) (fn_236 _) (by k_get), kp_236 _⟩
 ·exact ⟨s_meth (fm_359_again _) (fn_250 _) (by k_get), kp_250 _⟩
 ·exact ⟨s_meth (fm_359_error _) (fn_257 _) (by k_get), kp_257 _⟩
 ·exact ⟨s_meth (fm_359_emit _) (fn_264 _) (by k_get), kp_264 _⟩
 ·exact ⟨s_meth (fm_359_emit_sign _) (fn_271 _) (by k_get), kp_271 _⟩
 ·exact ⟨s_meth (fm_359_emit_text _) (fn_278 _) (by k_get), kp_278 _⟩
 ·exact ⟨s_meth (fm_359_emit_draft _) (fn_285 _) (by k_get), kp_285 _⟩
 ·exact ⟨s_meth (fm_359_emit_eof _) (fn_292 _) (by k_get), kp_292 _⟩
 ·exact ⟨s_meth (fm_359_is_apt _) (fn_299 _) (by k_get), kp_299 _⟩
 ·exact ⟨s_meth (fm_359_looks _) (fn_307 _) (by k_get), kp_307 _⟩
 ·exact ⟨s_meth (fm_359_take _) (fn_314 _) (by k_get), kp_314 _⟩
 ·exact ⟨s_meth (fm_359_wait _) (fn_321 _) (by k_get), kp_321 _⟩
 ·exact ⟨s_meth (fm_359_in_value _) (fn_328 _) (by k_get), kp_328 _⟩
 ·exact ⟨s_meth (fm_359_flush _) (fn_335 _) (by k_get), kp_335 _⟩
 ·exact ⟨s_meth (fm_359_step _) (fn_342 _) (by k_get), kp_342 _⟩
 ·exact ⟨s_meth (fm_359_is_ready _) (fn_349 _) (by k_get), kp_349 _⟩
 ·exact ⟨s_meth (fm_359_run _) (fn_356 _) (by k_get), kp_356 _⟩
theorem gtab_ok : ∀ p ∈ gtab, GName w p.1 (.ref p.2.1) ∧ keepIn (hd.heap_1 w.params) (.ref p.2.1) = true := by
 unfold gtab
 repeat' first | refine List.forall_mem_cons.mpr ⟨?_, ?_⟩ | exact List.forall_mem_nil _
 ·exact ⟨⟨gn_lower _, db_lower⟩, kp_lower _⟩
 ·exact ⟨⟨gn_law_do _, db_law_do⟩, kp_law_do _⟩
 ·exact ⟨⟨gn_is_upper _, db_is_upper⟩, kp_is_upper _⟩
 ·exact ⟨⟨gn_is_lower _, db_is_lower⟩, kp_is_lower _⟩
 ·exact ⟨⟨gn_is_digit _, db_is_digit⟩, kp_is_digit _⟩
 ·exact ⟨⟨gn_is_hex _, db_is_hex⟩, kp_is_hex _⟩
 ·exact ⟨⟨gn_is_blank _, db_is_blank⟩, kp_is_blank _⟩
 ·exact ⟨⟨gn_is_space _, db_is_space⟩, kp_is_space _⟩
 ·exact ⟨⟨gn_is_letter _, db_is_letter⟩, kp_is_letter _⟩
 ·exact ⟨⟨gn_is_alnum _, db_is_alnum⟩, kp_is_alnum _⟩
 ·exact ⟨⟨gn_is_surrogate _, db_is_surrogate⟩, kp_is_surrogate _⟩
 ·exact ⟨⟨gn_is_noncharacter _, db_is_noncharacter⟩, kp_is_noncharacter _⟩
 ·exact ⟨⟨gn_is_control _, db_is_control⟩, kp_is_control _⟩
 ·exact ⟨⟨gn_digit_value _, db_digit_value⟩, kp_digit_value _⟩
 ·exact ⟨⟨gn_lower_text _, db_lower_text⟩, kp_lower_text _⟩
 ·exact ⟨⟨gn_law_fold _, db_law_fold⟩, kp_law_fold _⟩
 ·exact ⟨⟨gn_law_told _, db_law_told⟩, kp_law_told _⟩
 ·exact ⟨⟨gn_law_kinds _, db_law_kinds⟩, kp_law_kinds _⟩
 ·exact ⟨⟨gn_input_error _, db_input_error⟩, kp_input_error _⟩
 ·exact ⟨⟨gn_law_token _, db_law_token⟩, kp_law_token _⟩
 ·exact ⟨⟨gn_law_digit _, db_law_digit⟩, kp_law_digit _⟩
theorem btab_ok : ∀ p ∈ btab, BName w p.1 (.builtin p.2) := by
 unfold btab
 repeat' first | refine List.forall_mem_cons.mpr ⟨?_, ?_⟩ | exact List.forall_mem_nil _
 ·exact (show BName w (ofString "len") (.builtin "len") from ⟨gb_len _, by boot_fast, nn_len, db_len⟩)
 ·exact (show BName w (ofString "ord") (.builtin "ord") from ⟨gb_ord _, by boot_fast, nn_ord, db_ord⟩)
 ·exact (show BName w (ofString "chr") (.builtin "chr") from ⟨gb_chr _, by boot_fast, nn_chr, db_chr⟩)
theorem ttab_ok : ∀ p ∈ ttab, BName w p.1 (.type p.2) := by
 unfold ttab
 repeat' first | refine List.forall_mem_cons.mpr ⟨?_, ?_⟩ | exact List.forall_mem_nil _
 ·exact (show BName w (ofString "int") (.type "int") from ⟨gb_int _, by boot_fast, nn_int, db_int⟩)
 ·exact (show BName w (ofString "str") (.type "str") from ⟨gb_str _, by boot_fast, nn_str, db_str⟩)
 ·exact (show BName w (ofString "list") (.type "list") from ⟨gb_list _, by boot_fast, nn_list, db_list⟩)
 ·exact (show BName w (ofString "tuple") (.type "tuple") from ⟨gb_tuple _, by boot_fast, nn_tuple, db_tuple⟩)
 ·exact (show BName w (ofString "range") (.type "range") from ⟨gb_range _, by boot_fast, nn_range, db_range⟩)
variable {os : List (PySem.Str × Obs Cfg)}
theorem e_mt {K : AV → Cfg → Prop} {dd : Nat} {x name : PySem.Str} {xp apos p : Pos} {es : List Expr} {as : List AV} {f : Addr} (hp : methOk es apos p = true) (e : alook cs l x = some (.r X.A.t)) (q : mtab.lookup name = some (f, dd)) (hd : Nat.ble dd d = true) (qa : evL [(x, tsOb X)] cs l cf es = some as) (h : JC (tsD X) w dd f (.r X.A.t :: as) cf K) : JE (tsD X) c (eval (.Call (.Attribute (.Name x xp) name apos) es [] p) c.env) l cf K :=
 e_m hp e (mtab_ok _ (mem_lookup q)).1 (mtab_ok (X := X) (c := c) (cf := cf) _ (mem_lookup q)).2 hd (os_ts e) qa h
theorem e_mtJ {K : AV → Cfg → Prop} {dd : Nat} {x name : PySem.Str} {xp apos p : Pos} {e0 : Expr} {es : List Expr} {f : Addr} (hp : methOk (e0 :: es) apos p = true) (e : alook cs l x = some (.r X.A.t)) (q : mtab.lookup name = some (f, dd)) (hd : Nat.ble dd d = true) (h : JL (tsD X) c (spliced (backTo p (starEach (e0 :: es) c.env))) l cf fun as S1 => JC (tsD X) w dd f (.r X.A.t :: as) S1 K) : JE (tsD X) c (eval (.Call (.Attribute (.Name x xp) name apos) (e0 :: es) [] p) c.env) l cf K :=
 e_meth hp e (mtab_ok _ (mem_lookup q)).1 (mtab_ok (X := X) (c := c) (cf := cf) _ (mem_lookup q)).2 hd h
end
section
variable {w : World} {d : Nat} {cs : Scope} {σ : Type} {den : σ → Led → Prop} {c : FD w d cs} {l : ANs} {S : σ} {os : List (PySem.Str × Obs σ)}
theorem e_gt {K : AV → σ → Prop} {dd : Nat} {x : PySem.Str} {xp p : Pos} {f : Addr} {e0 : Expr} {es : List Expr} {as : List AV} (q : gtab.lookup x = some (f, dd)) (hx : isGlob cs x = true) (hd : Nat.ble dd d = true) (hO : OsT den c l os) (qa : evL os cs l S (e0 :: es) = some as) (h : JC den w dd f as S K) : JE den c (eval (.Call (.Name x xp) (e0 :: es) [] p) c.env) l S K := e_k (gtab_ok _ (mem_lookup q)).1 hx (gtab_ok (w := w) _ (mem_lookup q)).2 hd hO qa h
theorem e_gtJ {K : AV → σ → Prop} {dd : Nat} {x : PySem.Str} {xp p : Pos} {f : Addr} {e0 : Expr} {es : List Expr} (q : gtab.lookup x = some (f, dd)) (hx : isGlob cs x = true) (hp : (e0 :: es).all starP = true) (hd : Nat.ble dd d = true) (h : JL den c (spliced (backTo p (starEach (e0 :: es) c.env))) l S fun as S1 => JC den w dd f as S1 K) : JE den c (eval (.Call (.Name x xp) (e0 :: es) [] p) c.env) l S K := e_callK (gtab_ok _ (mem_lookup q)).1 hx hp (gtab_ok (w := w) _ (mem_lookup q)).2 hd h
theorem e_bt {K : AV → σ → Prop} {x : PySem.Str} {xp p : Pos} {id : String} {e0 : Expr} {es : List Expr} {as : List AV} (q : btab.lookup x = some id) (hx : isGlob cs x = true) (hO : OsT den c l os) (qa : evL os cs l S (e0 :: es) = some as) (h : JOL den c AV.Is (fun vs => call (.builtin id) vs) as l S K) : JE den c (eval (.Call (.Name x xp) (e0 :: es) [] p) c.env) l S K := e_b (btab_ok _ (mem_lookup q)) hx hO qa h
theorem e_btJ {K : AV → σ → Prop} {x : PySem.Str} {xp p : Pos} {id : String} {e0 : Expr} {es : List Expr} (q : btab.lookup x = some id) (hx : isGlob cs x = true) (hp : (e0 :: es).all starP = true) (h : JL den c (spliced (backTo p (starEach (e0 :: es) c.env))) l S fun as S1 => JOL den c AV.Is (fun vs => call (.builtin id) vs) as l S1 K) : JE den c (eval (.Call (.Name x xp) (e0 :: es) [] p) c.env) l S K := e_callB (btab_ok _ (mem_lookup q)) hx hp h
theorem e_tt {K : AV → σ → Prop} {x : PySem.Str} {xp p : Pos} {id : String} {e0 : Expr} {es : List Expr} {as : List AV} (q : ttab.lookup x = some id) (hx : isGlob cs x = true) (hO : OsT den c l os) (qa : evL os cs l S (e0 :: es) = some as) (h : JOL den c AV.Is (fun vs => call (.type id) vs) as l S K) : JE den c (eval (.Call (.Name x xp) (e0 :: es) [] p) c.env) l S K := e_t (ttab_ok _ (mem_lookup q)) hx hO qa h
theorem e_ttJ {K : AV → σ → Prop} {x : PySem.Str} {xp p : Pos} {id : String} {e0 : Expr} {es : List Expr} (q : ttab.lookup x = some id) (hx : isGlob cs x = true) (hp : (e0 :: es).all starP = true) (h : JL den c (spliced (backTo p (starEach (e0 :: es) c.env))) l S fun as S1 => JOL den c AV.Is (fun vs => call (.type id) vs) as l S1 K) : JE den c (eval (.Call (.Name x xp) (e0 :: es) [] p) c.env) l S K := e_callT (ttab_ok _ (mem_lookup q)) hx hp h
end
end Mine
end
section
open PySem PySem.W PyProof.Rows PySem.Calls
namespace Mine
inductive EIs (n : Led) : List (PySem.Str × AV) → List DictEntry → Prop
 | nil : EIs n [] []
 | cons {x : PySem.Str} {a : AV} {h : Int} {t : Tok} {v : Value} {l : List (PySem.Str × AV)} {es : List DictEntry} : AV.Is n a v → EIs n l es → EIs n ((x, a) :: l) (⟨h, .str x t, v⟩ :: es)
theorem EIs.mono {n n' : Led} (g : Gro n n') : ∀ {l : List (PySem.Str × AV)} {es : List DictEntry}, EIs n l es → EIs n' l es
 | _, _, .nil => .nil
 | _, _, .cons h r => .cons (h.mono g) (EIs.mono g r)
inductive AO where
 | lst (as : List AV) | cell (a : AV) | cell0 | tup (as : List AV) | obj (o : Obj) | dct (l : List (PySem.Str × AV))
noncomputable def AO.isTup (x : AO) : Bool := match x with
 | .tup _ => true
 | _ => false
inductive AO.Is (n : Led) : AO → Obj → Prop
 | lst {as : List AV} {vs : List Value} (k : Nat) : LIs n as vs → AO.Is n (.lst as) (listOf vs.toArray k)
 | cell {a : AV} {v : Value} {o : Obj} : o.data = .cell (some v) → a.Is n v → AO.Is n (.cell a) o
 | cell0 {o : Obj} : o.data = .cell none → AO.Is n .cell0 o
 | tup {as : List AV} {vs : List Value} (k : Nat) : LIs n as vs → AO.Is n (.tup as) (tupO vs k)
 | obj {o : Obj} : o.cls ≠ .type "tuple" → AO.Is n (.obj o) o
 | dct {l : List (PySem.Str × AV)} {es : List DictEntry} : EIs n l es → AO.Is n (.dct l) (dictOf es es.length)
theorem AO.Is.lst_elim {n : Led} {as : List AV} {motive : ∀ o, AO.Is n (.lst as) o → Prop} (lst : ∀ {vs : List Value} (k : Nat) (h : LIs n as vs), motive (listOf vs.toArray k) (.lst k h)) {o : Obj} (h : AO.Is n (.lst as) o) : motive o h := by
 cases h with | lst k h => exact lst k h
theorem AO.Is.cell_elim {n : Led} {a : AV} {motive : ∀ o, AO.Is n (.cell a) o → Prop} (cell : ∀ {v : Value} {o : Obj} (e : o.data = .cell (some v)) (h : AV.Is n a v), motive o (.cell e h)) {o : Obj} (h : AO.Is n (.cell a) o) : motive o h := by
 cases h with | cell e h => exact cell e h
theorem AO.Is.inv {n : Led} {o o' : Obj} (h : AO.Is n (.obj o) o') : o' = o := by
 cases h; rfl
theorem AO.Is.mono {n n' : Led} {x : AO} {o : Obj} (h : x.Is n o) (g : Gro n n') : x.Is n' o := by
 cases h with
 | lst k h => exact .lst k (h.mono g)
 | cell e h => exact .cell e (h.mono g)
 | cell0 e => exact .cell0 e
 | tup k h => exact .tup k (h.mono g)
 | obj h => exact .obj h
 | dct h => exact .dct (h.mono g)
theorem AO.Is.notTup {n : Led} {x : AO} {o : Obj} (h : x.Is n o) (ht : x.isTup = false) {vs : List Value} {k : Nat} (e : o = tupO vs k) : False := by
 cases h with
 | lst k h => have := congrArg Obj.cls e; simp at this
 | cell q h => rw [e] at q; (first | obtain rfl := q.inv | obtain ⟨_, rfl⟩ := q.inv | cases q)
 | cell0 q => rw [e] at q; (first | obtain rfl := q.inv | obtain ⟨_, rfl⟩ := q.inv | cases q)
 | tup k h => cases ht
 | obj h => exact h (by rw [e])
 | dct h => have := congrArg Obj.cls e; simp at this
theorem LIs.app {n : Led} : ∀ {as bs : List AV} {vs us : List Value}, LIs n as vs → LIs n bs us → LIs n (as ++ bs) (vs ++ us)
 | _, _, _, _, .nil, h => h
 | _, _, _, _, .cons a h, g => .cons a (h.app g)
theorem LIs.at {n : Led} : ∀ {as : List AV} {vs : List Value} {i : Nat} {a : AV}, LIs n as vs → as[i]? = some a → ∃ v, vs[i]? = some v ∧ a.Is n v
 | _, _, 0, _, .cons q _, e => by cases e; exact ⟨_, rfl, q⟩
 | _, _, i + 1, _, .cons _ r, e => LIs.at (i := i) r (by simpa using e)
 | _, _, 0, _, .nil, e => nomatch e
 | _, _, _ + 1, _, .nil, e => nomatch e
noncomputable abbrev OS := List (Addr × AO)
structure owD (B : Led) (S : OS) (n : Led) : Prop where
 nd : (n.map (·.1)).Nodup
 ba : ∀ p ∈ B, p ∈ n
 nb : ∀ q ∈ S, ∀ p ∈ B, p.1 ≠ q.1
 ob : ∀ q ∈ S, ∃ o, (q.1, o) ∈ n ∧ q.2.Is n o
 ns : (S.map (·.1)).Nodup
theorem nd_eq {n : Led} (h : (n.map (·.1)).Nodup) {a : Addr} {o o' : Obj} (h1 : (a, o) ∈ n) (h2 : (a, o') ∈ n) : o = o' := by
 induction n with
 | nil => cases h1
 | cons p r ih =>
  rw [List.map_cons, List.nodup_cons] at h
  rcases List.mem_cons.mp h1 with e1 | h1
  ·rcases List.mem_cons.mp h2 with e2 | h2
   ·exact congrArg Prod.snd (e1.trans e2.symm)
   ·exact (h.1 (List.mem_map.mpr ⟨_, h2, by rw [← e1]⟩)).elim
  ·rcases List.mem_cons.mp h2 with e2 | h2
   ·exact (h.1 (List.mem_map.mpr ⟨_, h1, by rw [← e2]⟩)).elim
   ·exact ih h.2 h1 h2
noncomputable def putO (a : Addr) (o : Obj) (n : Led) : Led := n.map fun p => if p.1 = a then (a, o) else p
theorem putO_adr {a : Addr} {o : Obj} {n : Led} : (putO a o n).map (·.1) = n.map (·.1) := by
 unfold putO
 rw [List.map_map]
 refine List.map_congr_left fun p _ => ?_
 show (if p.1 = a then (a, o) else p).1 = p.1
 split
 ·rename_i h; exact h.symm
 ·rfl
theorem putO_off {a : Addr} {o : Obj} {n : Led} {p : Addr × Obj} (h : p ∈ n) (e : p.1 ≠ a) : p ∈ putO a o n := List.mem_map.mpr ⟨p, h, if_neg e⟩
theorem putO_at {a : Addr} {o o' : Obj} {n : Led} (h : (a, o') ∈ n) : (a, o) ∈ putO a o n := List.mem_map.mpr ⟨_, h, if_pos rfl⟩
theorem putO_id {a : Addr} {o : Obj} : ∀ {n : Led}, (∀ p ∈ n, p.1 ≠ a) → putO a o n = n
 | [], _ => rfl
 | p :: r, h => by
  show (if p.1 = a then (a, o) else p) :: putO a o r = p :: r
  rw [if_neg (h p (.head _)), putO_id fun q hq => h q (.tail _ hq)]
theorem putO_upd {a : Addr} {o o' : Obj} : ∀ {n : Led}, (n.map (·.1)).Nodup → (a, o) ∈ n → Upd a o o' n (putO a o' n)
 | p :: r, hn, h => by
  rw [List.map_cons, List.nodup_cons] at hn
  have hr : ∀ {q : Addr × Obj}, q ∈ r → q.1 ≠ p.1 := fun hq e => hn.1 (List.mem_map.mpr ⟨_, hq, e⟩)
  rcases List.mem_cons.mp h with e | h
  ·cases e
   show Upd a o o' _ ((if a = a then (a, o') else (a, o)) :: putO a o' r)
   rw [if_pos rfl, putO_id fun q hq => hr hq]
   exact .head fun q hq => hr hq
  ·have hp : p.1 ≠ a := fun e => hr h e.symm
   show Upd a o o' _ ((if p.1 = a then (a, o') else p) :: putO a o' r)
   rw [if_neg hp]
   exact .tail hp (putO_upd hn.2 h)
inductive SUp (a : Addr) (x x' : AO) : OS → OS → Prop
 | head {r : OS} : SUp a x x' ((a, x) :: r) ((a, x') :: r)
 | tail {p : Addr × AO} {r r' : OS} : SUp a x x' r r' → SUp a x x' (p :: r) (p :: r')
theorem SUp.adr {a : Addr} {x x' : AO} {S S' : OS} (h : SUp a x x' S S') : S'.map (·.1) = S.map (·.1) := by
 induction h with
 | head => rfl
 | tail _ ih => rw [List.map_cons, List.map_cons, ih]
theorem SUp.mem {a : Addr} {x x' : AO} {S S' : OS} (h : SUp a x x' S S') : (a, x) ∈ S := by
 induction h with
 | head => exact .head _
 | tail _ ih => exact .tail _ ih
theorem SUp.new {a : Addr} {x x' : AO} {S S' : OS} (h : SUp a x x' S S') (hn : (S.map (·.1)).Nodup) : ∀ q ∈ S', q = (a, x') ∨ (q ∈ S ∧ q.1 ≠ a) := by
 induction h with
 | head =>
  intro q hq
  rw [List.map_cons, List.nodup_cons] at hn
  rcases List.mem_cons.mp hq with e | hq
  ·exact .inl e
  ·exact .inr ⟨.tail _ hq, fun e => hn.1 (List.mem_map.mpr ⟨_, hq, e⟩)⟩
 | @tail p r r' h ih =>
  intro q hq
  rw [List.map_cons, List.nodup_cons] at hn
  rcases List.mem_cons.mp hq with e | hq
  ·exact .inr ⟨e ▸ .head _, fun e2 => hn.1 (List.mem_map.mpr ⟨_, h.mem, by rw [← e2, e]⟩)⟩
  ·rcases ih hn.2 q hq with h | h
   ·exact .inl h
   ·exact .inr ⟨.tail _ h.1, h.2⟩
section
variable {B : Led} {S S' : OS} {n : Led}
theorem owD.gro {a : Addr} {x : AO} {o o' : Obj} (h : owD B S n) (hm : (a, o) ∈ n) (hx : x.Is n o) (ht : x.isTup = false) : Gro n (putO a o' n) := fun b k vs q => putO_off q fun e => by
 simp only at e
 subst e
 exact hx.notTup ht (nd_eq h.nd hm q)
theorem owD.put {a : Addr} {x x' : AO} {o' : Obj} (h : owD B S n) (U : SUp a x x' S S') (hx : x'.Is n o') (ht : x.isTup = false) : owD B S' (putO a o' n) := by
 refine xEA (h.ob _ U.mem) fun o hm ho => ?_
 have g := h.gro (o' := o') hm ho ht
 refine ⟨by rw [putO_adr]; exact h.nd, fun p hp => putO_off (h.ba p hp) (h.nb _ U.mem p hp), fun q hq p hp => ?_, fun q hq => ?_, by rw [U.adr]; exact h.ns⟩
 ·rcases U.new h.ns q hq with e | ⟨hq, _⟩
  ·rw [e]; exact h.nb _ U.mem p hp
  ·exact h.nb q hq p hp
 ·rcases U.new h.ns q hq with e | ⟨hq, hne⟩
  ·rw [e]; exact ⟨o', putO_at hm, hx.mono g⟩
  ·refine xEA (h.ob q hq) fun o2 h2 h3 => ?_
   exact ⟨o2, putO_off h2 hne, h3.mono g⟩
theorem owD.new {D : Addr} {x : AO} {o : Obj} (h : owD B S n) (hl : ∀ p ∈ n, p.1 < D) (hx : x.Is n o) : owD B ((D, x) :: S) ((D, o) :: n) := by
 have g : Gro n ((D, o) :: n) := .of fun p hp => .tail _ hp
 have hlS : ∀ q ∈ S, q.1 < D := fun q hq => by
  refine xEA (h.ob q hq) fun o2 h2 _ => ?_
  exact hl _ h2
 refine ⟨List.nodup_cons.mpr ⟨fun hm => ?_, h.nd⟩, fun p hp => .tail _ (h.ba p hp), fun q hq p hp => ?_, fun q hq => ?_, List.nodup_cons.mpr ⟨fun hm => ?_, h.ns⟩⟩
 ·refine xEA (List.mem_map.mp hm) fun p hp e => ?_
  exact Nat.ne_of_lt (hl p hp) e
 ·rcases List.mem_cons.mp hq with e | hq
  ·rw [e]; exact Nat.ne_of_lt (hl p (h.ba p hp))
  ·exact h.nb q hq p hp
 ·rcases List.mem_cons.mp hq with e | hq
  ·rw [e]; exact ⟨o, .head _, hx.mono g⟩
  ·refine xEA (h.ob q hq) fun o2 h2 h3 => ?_
   exact ⟨o2, .tail _ h2, h3.mono g⟩
 ·refine xEA (List.mem_map.mp hm) fun p hp e => ?_
  exact Nat.ne_of_lt (hlS p hp) e
theorem owD.add {D : Addr} {o : Obj} (h : owD B S n) (hl : ∀ p ∈ n, p.1 ≠ D) : owD B S ((D, o) :: n) := by
 have g : Gro n ((D, o) :: n) := .of fun p hp => .tail _ hp
 refine ⟨List.nodup_cons.mpr ⟨fun hm => ?_, h.nd⟩, fun p hp => .tail _ (h.ba p hp), h.nb, fun q hq => ?_, h.ns⟩
 ·refine xEA (List.mem_map.mp hm) fun p hp e => ?_
  exact hl p hp e
 ·refine xEA (h.ob q hq) fun o2 h2 h3 => ?_
  exact ⟨o2, .tail _ h2, h3.mono g⟩
end
theorem ow_tup {B : Led} : TupOk (owD B) := fun _ _ _ _ h hl => ⟨_, h.add fun p hp => Nat.ne_of_lt (hl p hp), fun p hp => hp, .head _, .of fun p hp => .tail _ hp⟩
noncomputable def inD (B : Led) : Unit → Led → Prop := fun _ n => ∀ p ∈ B, p ∈ n
theorem in_tup {B : Led} : TupOk (inD B) := fun _ _ _ _ h _ => ⟨_, fun p hp => .tail _ (h p hp), fun p hp => hp, .head _, .of fun p hp => .tail _ hp⟩
section
variable {w : World} {d : Nat} {cs : Scope} {σ : Type} {den : σ → Led → Prop} {c : FD w d cs} {l : ANs} {S : σ}
noncomputable def PJ (w : World) (d : Nat) (f : Addr) (as : List AV) (a : AV) : Prop := ∀ B, JC (inD B) w d f as () fun b _ => b = a
inductive Scal : AV → Prop
 | i (z : Int) : Scal (.i z)
 | s (x : PySem.Str) : Scal (.s x)
 | b (t : Bool) : Scal (.b t)
 | n : Scal .n
theorem Scal.any {n n' : Led} {a : AV} {v : Value} (h : Scal a) (i : a.Is n v) : a.Is n' v := by
 cases h <;> (first | obtain rfl := i.inv | obtain ⟨_, rfl⟩ := i.inv | cases i)
 ·exact .i _ _
 ·exact .s _ _
 ·exact .b _
 ·exact .n
theorem pj_call {K : AV → σ → Prop} {f : Addr} {dd : Nat} {as : List AV} {a : AV} (ha : Scal a) (h : PJ w dd f as a) (hk : K a S) : JC den w dd f as S K := fun n vs hS hi =>
 Spec.weak (fun p hp => hp) (fun r n' ⟨_, b, _, h1, h2, h3⟩ => ⟨n, h1, .refl, a, S, hS, ha.any (h3 ▸ h2), hk⟩) (h n n vs (fun p hp => hp) hi)
end
section
variable {w : World} {d : Nat} {cs : Scope} {c : FD w d cs} {l : ANs} {B : Led} {S S' : OS} {os : List (PySem.Str × Obs OS)}
theorem e_list {K : AV → OS → Prop} {p : Pos} {env : Env} {es : List Expr} (h : JL (owD B) c (spliced (backTo p (starEach es env))) l S fun as S1 => Nat.ble as.length 100 = true ∧ ∀ a, K (.r a) ((a, .lst as) :: S1)) : JE (owD B) c (eval (.List es p) env) l S K := fun s Q E m n F M N hS k =>
 List_ (h s _ E m n F M N hS fun vs as S1 n1 h1 t1 F1 g1 N1 hS1 i1 ⟨hz, h2⟩ => newList_K F1 N1 (fun D h3 F3 N3 hl => k _ _ _ _ _ _ F3 (g1.trans (.of fun p hp => .tail _ hp)) N3 (hS1.new hl (.lst 0 i1)) (.r _) (h2 D)) (by rw [sizeLine_eq, i1.len]; exact Nat.le_trans (Nat.le_of_ble_eq_true hz) (by decide)))
theorem e_listE {K : AV → OS → Prop} {p : Pos} {es : List Expr} {as : List AV} (hO : OsT (owD B) c l os) (q : evL os cs l S es = some as) (hz : Nat.ble as.length 100 = true) (h : ∀ a, K (.r a) ((a, .lst as) :: S)) : JE (owD B) c (eval (.List es p) c.env) l S K := e_list (evL_ok hO q ⟨hz, h⟩)
theorem o_addL {K : AV → OS → Prop} {a b : Addr} {xs ys : List AV} (h1 : (a, .lst xs) ∈ S) (h2 : (b, .lst ys) ∈ S) (hz : xs.length + ys.length ≤ 100000) (h : ∀ D, K (.r D) ((D, .lst (xs ++ ys)) :: S)) : JO2 (owD B) c AV.Is (binaryOp .Add) (.r a) (.r b) l S K := fun s Q E m n x y F M N hS i j k => by
 (first | obtain rfl := i.inv | obtain ⟨_, rfl⟩ := i.inv | cases i)
 (first | obtain rfl := j.inv | obtain ⟨_, rfl⟩ := j.inv | cases j)
 refine xEA (hS.ob _ h1) fun o1 m1 q1 => ?_
 refine xEA (hS.ob _ h2) fun o2 m2 q2 => ?_
 cases q1 using AO.Is.lst_elim with
 | lst k1 i1 => cases q2 using AO.Is.lst_elim with
  | lst k2 i2 =>
   exact add_L F N m1 m2 (by rw [i1.len, i2.len]; exact hz) fun D h' F' N' hl => k _ _ _ _ _ _ F' (.of fun p hp => .tail _ hp) N' (hS.new hl (.lst 0 (i1.app i2))) (.r _) (h D)
theorem o_idxL {K : AV → OS → Prop} {a : Addr} {xs : List AV} {k : Nat} {v : AV} {sl : Expr} (hs : slicePlain sl = true) (h1 : (a, .lst xs) ∈ S) (hz : Nat.ble k 1000 = true) (hv : xs[k]? = some v) (h : K v S) : JO2 (owD B) c AV.Is (fun o i => subscriptTail usE sl o i) (.r a) (.i (k : Int)) l S K := fun s Q E m n x y F M N hS i j kk => by
 (first | obtain rfl := i.inv | obtain ⟨_, rfl⟩ := i.inv | cases i)
 (first | obtain rfl := j.inv | obtain ⟨_, rfl⟩ := j.inv | cases j)
 refine xEA (hS.ob _ h1) fun o1 m1 q1 => ?_
 cases q1 using AO.Is.lst_elim with
 | lst k1 i1 =>
  refine xEA (i1.at hv) fun u e1 e2 => ?_
  exact item_L N m1 (Int.natCast_nonneg k) (Int.ofNat_lt.mpr (Nat.lt_of_le_of_lt (Nat.le_of_ble_eq_true hz) (by decide))) e1 (kk _ _ _ _ _ _ F .refl N hS e2 h) (sub_plain hs) (fun _ => rfl)
theorem o_lenL {K : AV → OS → Prop} {a : Addr} {xs : List AV} (h1 : (a, .lst xs) ∈ S) (hz : xs.length ≤ 100000) (h : K (.i (xs.length : Int)) S) : JOL (owD B) c AV.Is (fun vs => call (.builtin "len") vs) [.r a] l S K := fun s Q E m n vs F M N hS i k => by
 cases i using LIs.cons_elim with
 | cons i j =>
  (first | obtain rfl := i.inv | obtain ⟨_, rfl⟩ := i.inv | cases i)
  (first | obtain rfl := j.inv | obtain ⟨_, rfl⟩ := j.inv | cases j)
  refine xEA (hS.ob _ h1) fun o1 m1 q1 => ?_
  cases q1 using AO.Is.lst_elim with
  | lst k1 i1 => exact len_L N m1 (by rw [i1.len]) (by rw [i1.len]; exact hz) (k _ _ _ _ _ _ F .refl N hS (.i _ _) h)
noncomputable def AppK (S1 : OS) (a : Addr) (v : AV) (K : AV → OS → Prop) : Prop := ∃ xs S2, SUp a (.lst xs) (.lst (xs ++ [v])) S1 S2 ∧ xs.length ≤ 100000 ∧ K .n S2
theorem e_app {K : AV → OS → Prop} {a : Addr} {x : PySem.Str} {xp apos p : Pos} {e0 : Expr} (hp : methOk [e0] apos p = true) (e : alook cs l x = some (.r a)) (hm : ∃ xs, (a, .lst xs) ∈ S) (h : JE (owD B) c (eval e0 c.env) l S fun v S1 => AppK S1 a v K) : JE (owD B) c (eval (.Call (.Attribute (.Name x xp) (ofString "append") apos) [e0] [] p) c.env) l S K := fun s Q E m n F M N hS k => by
 have hp' := hp
 unfold methOk at hp'
 simp only [List.all_cons, Bool.and_eq_true] at hp'
 refine xAA (alook_spec e) fun e1 e2 e3 => ?_
 refine xEA (M _ _ e3) fun tv hv hi => ?_
 (first | obtain rfl := hi.inv | obtain ⟨_, rfl⟩ := hi.inv | cases hi)
 obtain ⟨xs0, hm⟩ := hm
 refine xEA (hS.ob _ hm) fun o1 m1 q1 => ?_
 cases q1 using AO.Is.lst_elim with
 | lst k1 i1 =>
  refine MethodCall_ (pl := (do return (← importBound (.Name x xp) c.env).getD true)) (nameX_L F hv ?_ c.hk e2 e1)
   (by show (eval (.Name x xp) c.env >>= fun ov => standAt apos.atName >>= fun _ => methodCall _ _ _ _ _ _ _ _ _) = _; simp only [meth_form hp])
  refine listMethod_K N m1 slot_list_append rfl ?_
  refine callWith_method1 (l_cons hp'.1.1.1 (K := fun as S2 => ∃ v, as = [v] ∧ AppK S2 a v K) (fun s Q E m n F M N hS k => h s Q E m n F M N hS fun v b S' n' h' tk' F' g N' hS' i' hk => k v b S' n' h' tk' F' g N' hS' i' (l_nil ⟨_, rfl, hk⟩)) _ _ E m _ F M N hS fun vs as S2 n2 h3 t3 F3 g3 N3 hS3 i3 hk => ?_) (star_plain hp'.1.1.1) (noStars _ _ _ rfl)
  obtain ⟨v, rfl, xs, S3, U, hz, hk⟩ := hk
  cases i3 using LIs.cons_elim with
  | cons i3 i4 =>
   (first | obtain rfl := i4.inv | obtain ⟨_, rfl⟩ := i4.inv | cases i4)
   obtain ⟨o2, m2, q2⟩ := hS3.ob _ U.mem
   have g4 := fun o' => hS3.gro (o' := o') m2 q2 rfl
   cases q2 using AO.Is.lst_elim with
   | lst k2 i5 =>
    exact append_L F3 N3 (putO_upd hS3.nd m2) (by rw [i5.len]; exact hz) fun h' F' N' => k _ _ _ _ _ _ F' (g3.trans (g4 _)) N' (hS3.put U (.lst _ (i5.app (.cons i3 .nil))) rfl) .n hk
noncomputable def isCell (cs : Scope) (x : PySem.Str) : Bool := match cs.names.lookup x with | some .cell => true | _ => false
theorem isCell_spec {x : PySem.Str} (h : isCell cs x = true) : cs.names.lookup x = some .cell := by
 unfold isCell at h
 split at h
 ·assumption
 ·cases h
theorem putO_updF {a : Addr} {o : Obj} : ∀ {n : Led}, (n.map (·.1)).Nodup → (a, o) ∈ n → UpdF a o n (fun o' => putO a o' n)
 | p :: r, hn, h => by
  rw [List.map_cons, List.nodup_cons] at hn
  have hr : ∀ {q : Addr × Obj}, q ∈ r → q.1 ≠ p.1 := fun hq e => hn.1 (List.mem_map.mpr ⟨_, hq, e⟩)
  rcases List.mem_cons.mp h with e | h
  ·cases e
   have e2 : (fun o' => putO a o' ((a, o) :: r)) = fun o' => (a, o') :: r := funext fun o' => by
    show (if a = a then (a, o') else (a, o)) :: putO a o' r = _
    rw [if_pos rfl, putO_id fun q hq => hr hq]
   rw [e2]
   exact .head fun q hq => hr hq
  ·have hp : p.1 ≠ a := fun e => hr h e.symm
   have e2 : (fun o' => putO a o' (p :: r)) = fun o' => p :: putO a o' r := funext fun o' => by
    show (if p.1 = a then (a, o') else p) :: putO a o' r = _
    rw [if_neg hp]
   rw [e2]
   exact .tail hp (putO_updF hn.2 h)
theorem e_cell {K : AV → OS → Prop} {x : PySem.Str} {p : Pos} {ca : Addr} {a : AV} (hx : isCell cs x = true) (hd : (x == ofString "__debug__") = false) (hc : c.cl.lookup x = some ca) (hm : (ca, .cell a) ∈ S) (h : K a S) : JE (owD B) c (eval (.Name x p) c.env) l S K := fun s Q E m n F M N hS k => by
 refine xEA (hS.ob _ hm) fun o m1 q1 => ?_
 cases q1 using AO.Is.cell_elim with
 | cell e1 i1 => exact nameX_C N hc m1 e1 (k _ _ _ _ _ _ F .refl N hS i1 h) c.hk (isCell_spec hx) hd
end
section
variable {w : World} {d : Nat} {cs : Scope} {σ : Type} {den : σ → Led → Prop} {c : FD w d cs} {l : ANs} {S : σ}
noncomputable def JA (den : σ → Led → Prop) (c : FD w d cs) (elts : List Expr) (as : List AV) (l : ANs) (S : σ) (K : ANs → σ → Prop) : Prop :=
 ∀ (s : Shared) (Q : Unit → Shared → Prop) (E : Value → Shared → Prop) m n vs, Fr c.h₀ c.L s.heap m → Names n l m → News c.h₀ c.L s.heap n → den S n → LIs n as vs →
  (∀ l' S' m' n' h' tk', Fr c.h₀ c.L h' m' → Gro n n' → Names n' l' m' → News c.h₀ c.L h' n' → den S' n' → K l' S' → Q () { s with heap := h', toks := tk' }) → wpAny (model PG w) c.A (assignInOrder ((assignEach elts c.env).map fun x => x.2) vs) Q E s
theorem ja_nil {K : ANs → σ → Prop} (h : K l S) : JA den c [] [] l S K := fun s Q E m n vs F M N hS hi k => by
 (first | obtain rfl := hi.inv | obtain ⟨_, rfl⟩ := hi.inv | cases hi)
 rw [ae_nil]
 exact assignInOrder_nil (k _ _ _ _ _ _ F .refl M N hS h)
theorem ja_loc {K : ANs → σ → Prop} {x : PySem.Str} {p : Pos} {r : List Expr} {a : AV} {as : List AV} (hx : isLoc cs x = true) (h : JA den c r as ((x, a) :: l) S K) : JA den c (.Name x p :: r) (a :: as) l S K := fun s Q E m n vs F M N hS hi k => by
 cases hi using LIs.cons_elim with
 | cons h1 h2 =>
  rw [ae_name, List.map_cons]
  exact assignInOrder_cons (PyProof.Rows.assign_Name (storeX_L F N (fun h' F' N' => h _ _ E _ n _ F' (M.store h1) N' hS h2 k) c.hk (isLoc_spec hx)))
theorem x_tupA {K : AF → ANs → σ → Prop} {elts es : List Expr} {k0 k1 : Nat} {tp p1 p : Pos} (hT : TupOk den) (hp : ∀ k n env, swapsWithSole [.Tuple elts k tp] (.Tuple es k1 p1) n env = pure false) (hs : ∀ k, swappedStores [.Tuple elts k tp] (.Tuple es k1 p1) c.env = pure none) (hf : ∀ env, (assignEach elts env).findIdx? (fun x => x.1) = none ∧ (assignEach elts env).length = elts.length) (hz : Nat.ble elts.length 100 = true)
  (h : JL den c (spliced (backTo p1 (starEach es c.env))) l S fun as S1 => as.length = elts.length ∧ JA den c elts as l S1 fun l' S' => K .nxt l' S') : JX den c (exec (.Assign [.Tuple elts k0 tp] (.Tuple es k1 p1) p) c.env) l S K := fun s Q E m n F M N hS k =>
 Assign_Tuple (Tuple_ (h s _ E m n F M N hS fun vs as S1 n1 h1 t1 F1 g1 N1 hS1 i1 ⟨hl, h2⟩ => kup_newTuple F1 N1 (fun D h3 F3 N3 hlt => by
  refine xEAAA (hT _ _ _ vs hS1 hlt) fun n' d1 d2 d3 d4 => ?_
  have N3' : News c.h₀ c.L h3 n' := fun p hp => N3 p (d2 p hp)
  have q3 : (assignEach elts c.env).length = (List.toArray vs).size := by rw [(hf c.env).2, List.size_toArray, i1.len, hl]
  refine unpackN_ (elts := elts) (k := k0) (pos := tp) (Q := fun _ => Q .next) (E := E) (A := c.A) (w := w) (prog := PG) F3 N3' (N3'.isTup d3) c_handled q3 (hf c.env).1 fun h6 F6 N6 => ?_
  exact h2 _ _ E m n' vs F6 (M.mono (g1.trans d4)) N6 d1 (i1.mono d4) fun l' S' m' n2 h' tk' F' g' M' N' hS' hk => k _ _ _ _ _ _ _ _ F' ((g1.trans d4).trans g') M' N' hS' .nxt hk) (by rw [sizeLine_eq, i1.len, hl]; exact Nat.le_trans (Nat.le_of_ble_eq_true hz) (by decide)))) (hp k0 _ c.env) (hs k0)
end
section
variable {w : World} {d : Nat} {cs : Scope} {c : FD w d cs} {l : ANs} {B : Led} {S S' : OS}
inductive CUp (ca : Addr) (a : AV) : OS → OS → Prop
 | new {S S' : OS} : SUp ca .cell0 (.cell a) S S' → CUp ca a S S'
 | old {b : AV} {S S' : OS} : SUp ca (.cell b) (.cell a) S S' → CUp ca a S S'
theorem ow_storeC {ca : Addr} {x : PySem.Str} {a : AV} {v : Value} {n : Led} {s : Shared} {Q : Unit → Shared → Prop} {E : Value → Shared → Prop} {m : PySem.Str → Option Value} (hx : isCell cs x = true) (hc : c.cl.lookup x = some ca) (U : CUp ca a S S') (F : Fr c.h₀ c.L s.heap m) (N : News c.h₀ c.L s.heap n) (hS : owD B S n) (h1 : a.Is n v)
  (k : ∀ n' h', Fr c.h₀ c.L h' m → Gro n n' → News c.h₀ c.L h' n' → owD B S' n' → Q () { s with heap := h' }) : wpAny (model PG w) c.A (storeName c.env x v) Q E s := by
 cases U with
 | new U =>
  refine xEA (hS.ob _ U.mem) fun o m1 q1 => ?_
  have g := fun o' => hS.gro (o' := o') m1 q1 rfl
  cases q1 with
  | cell0 e1 => exact storeX_C F N hc (putO_updF hS.nd m1) e1 (fun h' o' F' N' e2 => k _ _ F' (g _) N' (hS.put U (.cell e2 h1) rfl)) c.hk (isCell_spec hx)
 | old U =>
  refine xEA (hS.ob _ U.mem) fun o m1 q1 => ?_
  have g := fun o' => hS.gro (o' := o') m1 q1 rfl
  cases q1 using AO.Is.cell_elim with
  | cell e1 i1 => exact storeX_C F N hc (putO_updF hS.nd m1) e1 (fun h' o' F' N' e2 => k _ _ F' (g _) N' (hS.put U (.cell e2 h1) rfl)) c.hk (isCell_spec hx)
theorem ja_cell {K : ANs → OS → Prop} {x : PySem.Str} {p : Pos} {r : List Expr} {a : AV} {as : List AV} {ca : Addr} (hx : isCell cs x = true) (hc : c.cl.lookup x = some ca) (U : CUp ca a S S') (h : JA (owD B) c r as l S' K) : JA (owD B) c (.Name x p :: r) (a :: as) l S K := fun s Q E m n vs F M N hS hi k => by
 cases hi using LIs.cons_elim with
 | cons h1 h2 =>
  rw [ae_name, List.map_cons]
  exact assignInOrder_cons (PyProof.Rows.assign_Name (ow_storeC hx hc U F N hS h1 fun n' h' F' g N' hS' => h _ _ E _ n' _ F' (M.mono g) N' hS' (h2.mono g) fun l' S2 m' n2 h3 tk' F3 g3 M3 N3 hS3 hk => k _ _ _ _ _ _ F3 (g.trans g3) M3 N3 hS3 hk))
theorem x_cell {K : AF → ANs → OS → Prop} {x : PySem.Str} {px p : Pos} {e : Expr} {ca : Addr} (hp : plainE e = true) (hx : isCell cs x = true) (hc : c.cl.lookup x = some ca) (h : JE (owD B) c (eval e c.env) l S fun a S1 => ∃ S2, CUp ca a S1 S2 ∧ K .nxt l S2) : JX (owD B) c (exec (.Assign [.Name x px] e p) c.env) l S K := fun s Q E m n F M N hS k =>
 wpAny_Assign_Name (h s _ E m n F M N hS fun v u S1 n1 h1 t1 F1 g1 N1 hS1 i1 ⟨S2, U, h2⟩ => ow_storeC hx hc U F1 N1 hS1 i1 fun n' h' F' g' N' hS' => k _ _ _ _ _ _ _ _ F' (g1.trans g') (M.mono (g1.trans g')) N' hS' .nxt h2) (swap_plain hp)
end
end Mine
end
section
open PySem PySem.W PyProof.Rows PySem.Calls
namespace Mine
section
theorem chA {x : PySem.Str} {k : Nat} (e : x = ⟨#[k]⟩) (c : Nat) : (!decide ((chS c).cps.toList < x.cps.toList)) = decide (k ≤ c) := by
 subst e
 rw [Bool.eq_iff_iff, Bool.not_eq_true', decide_eq_false_iff_not, decide_eq_true_eq]
 show ¬ [c] < [k] ↔ k ≤ c
 rw [one_lt]; exact Nat.not_lt
theorem chB {x : PySem.Str} {k : Nat} (e : x = ⟨#[k]⟩) (c : Nat) : (!decide (x.cps.toList < (chS c).cps.toList)) = decide (c ≤ k) := by
 subst e
 rw [Bool.eq_iff_iff, Bool.not_eq_true', decide_eq_false_iff_not, decide_eq_true_eq]
 show ¬ [k] < [c] ↔ c ≤ k
 rw [one_lt]; exact Nat.not_lt
theorem chE {x : PySem.Str} {k : Nat} (e : x = ⟨#[k]⟩) (c : Nat) : (x == chS c) = (c == k) := by subst e; exact ch_beq c k
variable {w : World}
theorem is_blank_j (c : Nat) : PJ w 1 60 [.s (chS c)] (.b (blankB c)) := fun B => by
 refine jc_body1 (ofString "c") (by k_is) (by k_is) (fun _ _ => BindsTo.of_eq rfl) rfl rfl fun _ => z_start ?_
 refine z_retE (os_n in_tup) rfl ?_
 refine congrArg AV.b ?_
 show List.any [ofString "\t", ofString "\n", ofString "\x0c", ofString " "] _ = _
 rw [List.any_cons, List.any_cons, List.any_cons, List.any_cons, chE os9, chE os10, chE os12, chE os32, List.any_nil, Bool.or_false, blankB, Bool.or_assoc, Bool.or_assoc]
theorem is_space_j (c : Nat) : PJ w 1 67 [.s (chS c)] (.b (spaceB c)) := fun B => by
 refine jc_body1 (ofString "c") (by k_is) (by k_is) (fun _ _ => BindsTo.of_eq rfl) rfl rfl fun _ => z_start ?_
 refine z_retE (os_n in_tup) rfl ?_
 refine congrArg AV.b ?_
 show List.any [ofString "\t", ofString "\n", ofString "\x0c", ofString "\r", ofString " "] _ = _
 rw [List.any_cons, List.any_cons, List.any_cons, List.any_cons, List.any_cons, chE os9, chE os10, chE os12, chE os13, chE os32, List.any_nil, Bool.or_false, spaceB, Bool.or_assoc, Bool.or_assoc, Bool.or_assoc]
theorem is_upper_j (c : Nat) : PJ w 1 74 [.s (chS c)] (.b (upB c)) := fun B => by
 refine jc_body1 (ofString "c") (by k_is) (by k_is) (fun _ _ => BindsTo.of_eq rfl) rfl rfl fun _ => z_start ?_
 refine z_retE (os_n in_tup) rfl ?_
 exact congrArg AV.b (by rw [chA os65, chB os90]; rfl)
theorem is_lower_j (c : Nat) : PJ w 1 81 [.s (chS c)] (.b (loB c)) := fun B => by
 refine jc_body1 (ofString "c") (by k_is) (by k_is) (fun _ _ => BindsTo.of_eq rfl) rfl rfl fun _ => z_start ?_
 refine z_retE (os_n in_tup) rfl ?_
 exact congrArg AV.b (by rw [chA os97, chB os122]; rfl)
theorem is_letter_j (c : Nat) : PJ w 1 88 [.s (chS c)] (.b (letB c)) := fun B => by
 refine jc_body1 (ofString "c") (by k_is) (by k_is) (fun _ _ => BindsTo.of_eq rfl) rfl rfl fun _ => z_start ?_
 refine z_retE (os_n in_tup) rfl ?_
 exact congrArg AV.b (by rw [chA os97, chB os122, chA os65, chB os90]; rfl)
theorem is_digit_j (c : Nat) : PJ w 1 95 [.s (chS c)] (.b (digB c)) := fun B => by
 refine jc_body1 (ofString "c") (by k_is) (by k_is) (fun _ _ => BindsTo.of_eq rfl) rfl rfl fun _ => z_start ?_
 refine z_retE (os_n in_tup) rfl ?_
 exact congrArg AV.b (by rw [chA os48, chB os57]; rfl)
theorem is_hex_j (c : Nat) : PJ w 1 102 [.s (chS c)] (.b (hexB c)) := fun B => by
 refine jc_body1 (ofString "c") (by k_is) (by k_is) (fun _ _ => BindsTo.of_eq rfl) rfl rfl fun _ => z_start ?_
 refine z_retE (os_n in_tup) rfl ?_
 exact congrArg AV.b (by rw [chA os48, chB os57, chA os97, chB os102, chA os65, chB os70, hexB, Bool.or_assoc]; rfl)
theorem is_alnum_j (c : Nat) : PJ w 1 109 [.s (chS c)] (.b (alnB c)) := fun B => by
 refine jc_body1 (ofString "c") (by k_is) (by k_is) (fun _ _ => BindsTo.of_eq rfl) rfl rfl fun _ => z_start ?_
 refine z_retE (os_n in_tup) rfl ?_
 exact congrArg AV.b (by rw [chA os48, chB os57, chA os97, chB os122, chA os65, chB os90, alnB, Bool.or_assoc]; rfl)
theorem is_surrogate_j (c : Nat) : PJ w 1 137 [.i (c : Int)] (.b (surB c)) := fun B => by
 refine jc_body1 (ofString "n") (by k_is) (by k_is) (fun _ _ => BindsTo.of_eq rfl) rfl rfl fun _ => z_start ?_
 refine z_retE (os_n in_tup) rfl ?_
 refine congrArg AV.b ?_
 rw [Bool.eq_iff_iff]
 simp only [surB, Bool.and_eq_true, decide_eq_true_eq]
 lia
theorem is_noncharacter_j (c : Nat) (hc : c < 1114112) : PJ w 1 144 [.i (c : Int)] (.b (nonB c)) := fun B => by
 refine jc_body1 (ofString "n") (by k_is) (by k_is) (fun _ _ => BindsTo.of_eq rfl) rfl rfl fun _ => z_start ?_
 refine z_retE (os_n in_tup) rfl ?_
 refine congrArg AV.b ?_
 rw [Bool.eq_iff_iff]
 simp only [bothB, nonB, Bool.and_eq_true, Bool.or_eq_true, decide_eq_true_eq]
 lia
theorem is_control_j (c : Nat) : PJ w 1 151 [.i (c : Int)] (.b (ctlB c)) := fun B => by
 refine jc_body1 (ofString "n") (by k_is) (by k_is) (fun _ _ => BindsTo.of_eq rfl) rfl rfl fun _ => z_start ?_
 refine z_retE (os_n in_tup) rfl ?_
 refine congrArg AV.b ?_
 rw [Bool.eq_iff_iff]
 simp only [bothB, ctlB, Bool.and_eq_true, Bool.or_eq_true, decide_eq_true_eq]
 lia
end
section
variable {w : World}
theorem digit_value_j (c : Nat) : PJ w 3 116 [.s (chS c)] (.i (digV c)) := fun B => by
 refine jc_body1 (ofString "c") (by k_is) (by k_is) (fun _ _ => BindsTo.of_eq rfl) rfl rfl fun _ => z_start ?_
 unfold digV
 cases h1 : digB c with
 | true =>
  refine z_if ?_
  refine t_plain rfl ?_
  refine e_gt rfl rfl rfl (os_n in_tup) rfl ?_
  refine pj_call (.b _) (is_digit_j c) ?_
  refine o_truthy ?_
  refine bif_T ‹_› ?_
  refine z_ret ?_
  refine e_bin ?_
  refine e_bt rfl rfl (os_n in_tup) rfl ?_
  refine o_ord ?_
  refine e_ev (os_n in_tup) rfl ?_
  refine o_sub ?_
  rfl
 | false =>
  cases h2 : loB c with
  | true =>
   refine z_if ?_
   refine t_plain rfl ?_
   refine e_gt rfl rfl rfl (os_n in_tup) rfl ?_
   refine pj_call (.b _) (is_digit_j c) ?_
   refine o_truthy ?_
   refine bif_F ‹_› ?_
   refine z_nil ?_
   refine z_if ?_
   refine t_plain rfl ?_
   refine e_gt rfl rfl rfl (os_n in_tup) rfl ?_
   refine pj_call (.b _) (is_lower_j c) ?_
   refine o_truthy ?_
   refine bif_T ‹_› ?_
   refine z_ret ?_
   refine e_bin ?_
   refine e_bin ?_
   refine e_bt rfl rfl (os_n in_tup) rfl ?_
   refine o_ord ?_
   refine e_ev (os_n in_tup) rfl ?_
   refine o_sub ?_
   refine e_ev (os_n in_tup) rfl ?_
   refine o_add ?_
   rfl
  | false =>
   refine z_if ?_
   refine t_plain rfl ?_
   refine e_gt rfl rfl rfl (os_n in_tup) rfl ?_
   refine pj_call (.b _) (is_digit_j c) ?_
   refine o_truthy ?_
   refine bif_F ‹_› ?_
   refine z_nil ?_
   refine z_if ?_
   refine t_plain rfl ?_
   refine e_gt rfl rfl rfl (os_n in_tup) rfl ?_
   refine pj_call (.b _) (is_lower_j c) ?_
   refine o_truthy ?_
   refine bif_F ‹_› ?_
   refine z_nil ?_
   refine z_ret ?_
   refine e_bin ?_
   refine e_bin ?_
   refine e_bt rfl rfl (os_n in_tup) rfl ?_
   refine o_ord ?_
   refine e_ev (os_n in_tup) rfl ?_
   refine o_sub ?_
   refine e_ev (os_n in_tup) rfl ?_
   refine o_add ?_
   rfl
theorem lower_j (c : Nat) (hc : c < 1114112) : PJ w 3 123 [.s (chS c)] (.s (chS (lowC c))) := fun B => by
 refine jc_body1 (ofString "c") (by k_is) (by k_is) (fun _ _ => BindsTo.of_eq rfl) rfl rfl fun _ => z_start ?_
 unfold lowC
 cases h1 : upB c with
 | true =>
  refine z_if ?_
  refine t_plain rfl ?_
  refine e_gt rfl rfl rfl (os_n in_tup) rfl ?_
  refine pj_call (.b _) (is_upper_j c) ?_
  refine o_truthy ?_
  refine bif_T ‹_› ?_
  refine z_ret ?_
  refine e_btJ rfl rfl rfl ?_
  refine l_cons rfl ?_
  refine e_bin ?_
  refine e_bt rfl rfl (os_n in_tup) rfl ?_
  refine o_ord ?_
  refine e_ev (os_n in_tup) rfl ?_
  refine o_add ?_
  refine l_nil ?_
  exact o_chr (k := c + 32) rfl (by have := up_le h1; lia) rfl
 | false =>
  refine z_if ?_
  refine t_plain rfl ?_
  refine e_gt rfl rfl rfl (os_n in_tup) rfl ?_
  refine pj_call (.b _) (is_upper_j c) ?_
  refine o_truthy ?_
  refine bif_F ‹_› ?_
  refine z_nil ?_
  refine z_retE (os_n in_tup) rfl ?_
  rfl
theorem lower_a {σ : Type} {den : σ → Led → Prop} {S : σ} {K : AV → σ → Prop} {ch : Nat} (hc : ch < 1114112) (h : K (.s (chS (lowC ch))) S) : JC den w 3 123 [.s (chS ch)] S K := pj_call (.s _) (lower_j ch hc) h
end
end Mine
end
section
open PySem PySem.W PyProof.Rows PySem.Calls
namespace Mine
section
variable {n : Led}
theorem eis_no {x : PySem.Str} : ∀ {l : List (PySem.Str × AV)} {es : List DictEntry}, EIs n l es → l.lookup x = none → (es.find? fun e => e.key.isStr x) = none ∧ es.any (·.refKey) = false ∧ es.any (fun e => e.key.isStr x) = false ∧ ∀ h t v, putL x h (.str x t) v es = es ++ [⟨h, .str x t, v⟩]
 | _, _, .nil, _ => ⟨rfl, rfl, rfl, fun _ _ _ => rfl⟩
 | _, _, .cons (x := y) (t := t0) _ r, q => by
  rw [List.lookup_cons] at q
  have hy : (y == x) = false := by
   cases z : x == y with
   | true => rw [z] at q; cases q
   | false => exact beq_eq_false_iff_ne.mpr fun e => beq_eq_false_iff_ne.mp z e.symm
  have hy2 : (Value.str y t0).isStr x = false := hy
  have hx : (x == y) = false := beq_eq_false_iff_ne.mpr fun e => beq_eq_false_iff_ne.mp hy e.symm
  rw [hx] at q
  refine xAAA (eis_no r q) fun h1 h2 h3 h4 => ?_
  refine ⟨by rw [List.find?_cons, hy2]; exact h1, by rw [List.any_cons, h2]; rfl, by rw [List.any_cons, h3, hy2]; rfl, fun h t v => ?_⟩
  show (if (Value.str y t0).isStr x = true then _ else _) = _
  rw [hy2, if_neg Bool.false_ne_true, h4 h t v]
  rfl
theorem eis_app {x : PySem.Str} {a : AV} {h : Int} {t : Tok} {v : Value} (ha : AV.Is n a v) : ∀ {l : List (PySem.Str × AV)} {es : List DictEntry}, EIs n l es → EIs n (l ++ [(x, a)]) (es ++ [⟨h, .str x t, v⟩])
 | _, _, .nil => .cons ha .nil
 | _, _, .cons g r => .cons g (eis_app ha r)
theorem eis_len : ∀ {l : List (PySem.Str × AV)} {es : List DictEntry}, EIs n l es → es.length = l.length
 | _, _, .nil => rfl
 | _, _, .cons _ r => by rw [List.length_cons, List.length_cons, eis_len r]
end
section
variable {w : World} {d : Nat} {cs : Scope} {c : FD w d cs} {l : ANs} {B : Led} {S : OS}
theorem s_new {K : Unit → OS → Prop} {x dx C : Addr} {name : PySem.Str} {v : AV} {l0 : List (PySem.Str × AV)} {S' : OS} (hs : findIn (hd.heap_1 w.params) (.ref C) "__setattr__" = some (some (.builtin "object.__setattr__"))) (hp : plainOver (hd.heap_1 w.params) C = true) (hh : hasDictIn (hd.heap_1 w.params) C = true) (ht : takerIn (hd.heap_1 w.params) C name = some none) (m1 : (x, .obj (instObj C dx)) ∈ S) (U : SUp dx (.dct l0) (.dct (l0 ++ [(name, v)])) S S') (hl : l0.lookup name = none) (hz : Nat.ble l0.length 100 = true) (h : K () S') : SetK (owD B) c name (.r x) v l S K := fun s Q E m n y z F M N hS i1 i2 k => by
 obtain rfl := i1.inv
 refine xEA (hS.ob _ m1) fun o1 n1 q1 => ?_
 refine xEA (hS.ob _ U.mem) fun o2 n2 q2 => ?_
 have g := fun o' => hS.gro (o' := o') n2 q2 rfl
 obtain rfl := q1.inv
 cases q2 with
 | @dct _ es he =>
  refine xAAA (eis_no he hl) fun e1 e2 e3 e4 => ?_
  have hg : getL name es = some none := by unfold getL; rw [e1, e2]; rfl
  have hz := Nat.le_of_ble_eq_true hz
  have hle := eis_len he
  have e5 : putN name es es.length = es.length + 1 := by unfold putN; rw [e3]; rfl
  refine set_dict F c.X N (InstAt.of_news N n1 n2) rfl hs hp ht hh (by rw [hg]; rfl) rfl (putO_upd hS.nd n2) (by rw [e4, List.length_append, hle]; show l0.length + 1 ≤ 1000; lia) fun h' F' N' => ?_
  rw [e4, e5] at N'
  exact k _ () S' _ _ _ F' (g _) N' (hS.put U (by have := AO.Is.dct (eis_app (x := name) (h := PyData.keyHash w.params name) (t := s.toks + 1) i2 he); rw [List.length_append] at this; exact this) rfl) trivial h
theorem own_lt {n : Led} {D : Addr} (h : owD B S n) (hl : ∀ p ∈ n, p.1 < D) : ∀ q ∈ S, q.1 < D := fun q hq => by
 refine xEA (h.ob q hq) fun o m _ => ?_
 exact hl _ m
theorem e_list0 {K : AV → OS → Prop} {p : Pos} {env : Env} (h : ∀ D, (∀ q ∈ S, q.1 < D) → K (.r D) ((D, .lst []) :: S)) : JE (owD B) c (eval (.List [] p) env) l S K := fun s Q E m n F M N hS k =>
 List_ (args_nil (newList_K F N (fun D h3 F3 N3 hl => k _ _ _ _ _ _ F3 (.of fun p hp => .tail _ hp) N3 (hS.new hl (.lst 0 .nil)) (.r _) (h D (own_lt hS hl))) (by rw [sizeLine_eq]; decide)))
theorem owD.join {n n' : Led} {S' : OS} (h : owD B S n) (h' : owD n S' n') : owD B (S' ++ S) n' := by
 refine ⟨h'.nd, fun p hp => h'.ba p (h.ba p hp), fun q hq p hp => ?_, fun q hq => ?_, ?_⟩
 ·rcases List.mem_append.mp hq with hq | hq
  ·exact h'.nb q hq p (h.ba p hp)
  ·exact h.nb q hq p hp
 ·rcases List.mem_append.mp hq with hq | hq
  ·exact h'.ob q hq
  ·refine xEA (h.ob q hq) fun o m i => ?_
   exact ⟨o, h'.ba _ m, i.mono (.of h'.ba)⟩
 ·rw [List.map_append]
  refine List.nodup_append.mpr ⟨h'.ns, h.ns, fun a ha b hb e => ?_⟩
  refine xEA (List.mem_map.mp ha) fun p hp zq1 => ?_
  subst zq1
  refine xEA (List.mem_map.mp hb) fun q hq zq2 => ?_
  subst zq2
  refine xEA (h.ob q hq) fun o m _ => ?_
  exact h'.nb p hp _ m e.symm
theorem dedL {h₀ h : Heap} {L : Addr} : ∀ {n : Led}, News h₀ L h n → ∃ n' : Led, (n'.map (·.1)).Nodup ∧ (∀ p ∈ n', p ∈ n) ∧ ∀ p ∈ n, p ∈ n'
 | [], _ => ⟨[], List.nodup_nil, fun _ h => h, fun _ h => h⟩
 | p :: r, N => by
  refine xEAA (dedL (n := r) fun q hq => N q (.tail _ hq)) fun n' h1 h2 h3 => ?_
  by_cases hp : p.1 ∈ n'.map (·.1)
  ·refine ⟨n', h1, fun q hq => .tail _ (h2 q hq), fun q hq => ?_⟩
   rcases List.mem_cons.mp hq with e | hq
   ·refine xEA (List.mem_map.mp hp) fun u hu e2 => ?_
    have g1 := (N u (.tail _ (h2 u hu))).1
    have g2 := (N p (.head _)).1
    rw [e2, g2] at g1
    have e3 : u = p := Prod.ext e2 (Option.some.inj g1).symm
    rw [e, ← e3]; exact hu
   ·exact h3 q hq
  ·exact ⟨p :: n', List.nodup_cons.mpr ⟨hp, h1⟩, fun q hq => (List.mem_cons.mp hq).elim (fun e => e ▸ .head _) fun z => .tail _ (h2 q z), fun q hq => (List.mem_cons.mp hq).elim (fun e => e ▸ .head _) fun z => .tail _ (h3 q z)⟩
noncomputable def InitK (news : Led) (Post : Value → Led → Prop) (x : Addr) (fl : AF) (S' : OS) : Prop := fl = .nxt ∧ ∀ n', owD news S' n' → ∃ n2, (∀ p ∈ n2, p ∈ n') ∧ Post (.ref x) n2
theorem init_k {news : Led} {Post : Value → Led → Prop} {x : Addr} {S' : OS} (h : ∀ n', owD news S' n' → ∃ n2, (∀ p ∈ n2, p ∈ n') ∧ Post (.ref x) n2) : InitK news Post x .nxt S' := ⟨rfl, h⟩
theorem specN_init {w : World} {d : Nat} {C : Addr} {news : Led} {fI : Addr} {as : List AV} {vs : List Value} {Post : Value → Led → Prop} {oc : Value} {an od : Option Addr} {osl : Array (Option Value)} {name qual : PySem.Str} {params : Arguments} {body : List Stmt} {scope : Scope} {dV kV doc pm cdv ct : Value} (xs : List PySem.Str)
  (k1 : makesIn (hd.heap_1 w.params) C = true) (k2 : findIn (hd.heap_1 w.params) (.ref C) "__init__" = some (some (.ref fI))) (k3 : isFn (hd.heap_1 w.params) (.ref fI) = true)
  (ho : (hd.heap_1 w.params).lookup fI = some ⟨oc, od, .func (fnOf name qual params body scope dV kV doc pm an cdv ct), osl⟩) (hcd : codeIn (hd.heap_1 w.params) cdv qual = true) (hb : ∀ (s : Shared) x, (hd.heap_1 w.params).In s.heap → BindsTo s (fnOf name qual params body scope dV kV doc pm an cdv ct) ⟨.ref x :: vs, []⟩ (xs.zip (.ref x :: vs))) (hi : LIs news as vs) (hl : (xs.all fun x => decide (scope.names.lookup x = some .local)) = true) (hs : scopeOk scope = true)
  (h : ∀ (c : FD w d scope) (x dx : Addr), (∀ p ∈ news, p.1 < dx) → dx < x → JX (owD news) c (execs body c.env) (xs.zip (.r x :: as)).reverse [(x, .obj (instObj C dx)), (dx, .dct [])] fun fl _ S' => InitK news Post x fl S') :
  SpecN w (d + 2) news C vs Post := by
 intro mean mg mb dp un gd cn cs a ccd cl outer A₀ base h₀ L m s Q E hB hF hX hN hT hk hd hu hret
 unfold scopeOk at hs
 simp only [Bool.and_eq_true, Bool.not_eq_true'] at hs
 obtain ⟨⟨⟨hs1, hs2⟩, hs3⟩, hs4⟩ := hs
 have hs3 : scope.kind = .function := by simpa using hs3
 refine call_cls hF hX hN k1 k2 k3 fun x dx h1 F1 N1 l1 l2 => ?_
 refine code_defG hB F1 hX N1 hT rfl rfl hk ho hcd (by show dp + 1 < _; lia) (hb _ x (hX.keeps F1.keep)) (locs (List.all_eq_true.mpr fun p hp => List.all_eq_true.mp hl _ (List.of_mem_zip hp).1)) (fun g' L' h' FG' F' N' B' X' T' hG => ?_) hs1 hs2 hs3 (fun x hx => by have := List.all_eq_true.mp hs4 x hx; simpa using this)
 refine xEAA (dedL N') fun n0 d1 d2 d3 => ?_
 have l3 : ∀ p ∈ news, p.1 < x := fun p hp => Nat.lt_trans (l1 p hp) l2
 refine h ⟨mean, mg, mb, dp + 1 + 1, un + 1 + 3, gd, qual, fI, cdv, [], envX cn cs L a ccd cl :: outer, _, base, g', L', B', X', T', hs3, by lia, by lia⟩ x dx l1 l2 _ _ _ _ n0 F' ((PIs.zip xs (.cons (.r x) (hi.mono (.of fun p hp => d3 p (.tail _ (.tail _ hp)))))).rev.names) (fun p hp => N' p (d2 p hp)) ⟨d1, fun p hp => d3 p (.tail _ (.tail _ hp)), ?nb, ?ob, ?ns⟩ fun fl b l' S' m' n' h2 tk F2 g2 M2 N2 hS2 i2 hK => ?_
 case nb => exact List.forall_mem_cons.mpr ⟨fun p hp => Nat.ne_of_lt (l3 p hp), List.forall_mem_cons.mpr ⟨fun p hp => Nat.ne_of_lt (l1 p hp), fun _ h => nomatch h⟩⟩
 case ob => exact List.forall_mem_cons.mpr ⟨⟨_, d3 _ (.head _), .obj (fun e => nomatch e)⟩, List.forall_mem_cons.mpr ⟨⟨_, d3 _ (.tail _ (.head _)), .dct .nil⟩, fun _ h => nomatch h⟩⟩
 case ns => exact List.nodup_cons.mpr ⟨fun h => Nat.ne_of_gt l2 (List.mem_singleton.mp h), List.nodup_cons.mpr ⟨List.not_mem_nil, List.nodup_nil⟩⟩
 obtain ⟨rfl, hK⟩ := hK
 refine xEA (hK n' hS2) fun n2 e1 e2 => ?_
 cases i2
 exact leaveK_ F2 N2 fun F3 N3 => ⟨rfl, hret _ _ _ _ F3 (fun p hp => N3 p (e1 p hp)) e2⟩
noncomputable def avV (a : AV) (u : Tok) : Value := match a with
 | .i z => .int z u
 | .s x => .str x u
 | .b t => .bool t
 | .r b => .ref b
 | _ => .none
noncomputable def plainA (a : AV) : Bool := match a with
 | .i _ => true
 | .s _ => true
 | .b _ => true
 | .r _ => true
 | .n => true
 | _ => false
noncomputable def mkE (f : Nat → Int) (g u : Nat → Tok) : List (PySem.Str × AV) → Nat → List DictEntry
 | [], _ => []
 | (x, a) :: l, i => ⟨f i, .str x (g i), avV a (u i)⟩ :: mkE f g u l (i + 1)
theorem av_plain {n : Led} {a : AV} {v : Value} (h : AV.Is n a v) (q : plainA a = true) : ∃ u, v = avV a u := by
 cases h with
 | i z t => exact ⟨t, rfl⟩
 | s z t => exact ⟨t, rfl⟩
 | b t => exact ⟨0, rfl⟩
 | n => exact ⟨0, rfl⟩
 | r a => exact ⟨0, rfl⟩
 | d _ _ => cases q
 | v _ => cases q
 | t _ _ => cases q
theorem mkE_off {f f' : Nat → Int} {g g' u u' : Nat → Tok} : ∀ (l : List (PySem.Str × AV)) (i : Nat), (∀ k, i ≤ k → f k = f' k ∧ g k = g' k ∧ u k = u' k) → mkE f g u l i = mkE f' g' u' l i
 | [], _, _ => rfl
 | (x, a) :: l, i, h => by
  refine xAA (h i (Nat.le_refl i)) fun h1 h2 h3 => ?_
  unfold mkE
  rw [h1, h2, h3, mkE_off l (i + 1) fun k hk => h k (Nat.le_of_succ_le hk)]
theorem eis_mk {n : Led} : ∀ {l : List (PySem.Str × AV)} {es : List DictEntry} (i : Nat), EIs n l es → (l.all fun p => plainA p.2) = true → ∃ f g u, es = mkE f g u l i
 | _, _, _, .nil, _ => ⟨fun _ => 0, fun _ => 0, fun _ => 0, rfl⟩
 | (x, a) :: l, _, i, .cons (h := h0) (t := t0) ha r, q => by
  rw [List.all_cons, Bool.and_eq_true] at q
  refine xEEE (eis_mk (i + 1) r q.2) fun f g u e => ?_
  obtain ⟨u0, e0⟩ := av_plain ha q.1
  refine ⟨fun k => if k = i then h0 else f k, fun k => if k = i then t0 else g k, fun k => if k = i then u0 else u k, ?_⟩
  unfold mkE
  rw [if_pos rfl, if_pos rfl, if_pos rfl, ← e0, e]
  congr 1
  exact mkE_off l (i + 1) fun k hk => by rw [if_neg (Nat.ne_of_gt hk), if_neg (Nat.ne_of_gt hk), if_neg (Nat.ne_of_gt hk)]; exact ⟨rfl, rfl, rfl⟩
theorem dct_mk {n : Led} {l : List (PySem.Str × AV)} {o : Obj} (h : AO.Is n (.dct l) o) (i : Nat) (q : (l.all fun p => plainA p.2) = true) : ∃ f g u, o = dictOf (mkE f g u l i) l.length := by
 cases h with
 | dct h =>
  refine xEEE (eis_mk i h q) fun f g u e => ?_
  rw [eis_len h, e]
  exact ⟨f, g, u, rfl⟩
theorem lst0 {n : Led} {o : Obj} (h : AO.Is n (.lst []) o) : ∃ k, o = listOf [].toArray k := by
 cases h with
 | lst k h => cases h; exact ⟨k, rfl⟩
inductive DrPost (kind name : PySem.Str) (news : Led) (r : Value) (n : Led) : Prop
 | mk (D : DA) (K2 : TK) (k : Nat) : r = .ref D.dt → n = (D.al, listOf [].toArray k) :: (D.dt, instObj 415 D.dd) :: (D.dd, dictOf (drEs K2 D kind name false) 8) :: news → (∀ p ∈ news, p.1 < D.dd) → D.dd < D.dt → D.dt < D.al → DrPost kind name news r n
theorem draftN (w : World) (kind name : PySem.Str) (kt nt : Tok) (news : List (Addr × Obj)) : SpecN w 4 news 415 [.str kind kt, .str name nt] (DrPost kind name news) := by
 refine specN_init (d := 2) (as := [.s kind, .s name]) [ofString "self", ofString "kind", ofString "name"] (by k_is) (fm_415_init _) (by k_is) (by k_is) (by k_is) (fun _ _ _ => BindsTo.of_eq rfl) (.cons (.s _ _) (.cons (.s _ _) .nil)) rfl rfl fun c x dx h1 h2 => z_start ?_
 refine z_setA (os_n ow_tup) rfl rfl rfl ?_
 (refine' s_new (sa_415 _) (po_415 _) (hd_415 _) ?ht ?m1 ?U ?hl ?hz ?_; (case ht => first | exact ta_415_kind _ | exact ta_415_name _ | exact ta_415_text _ | exact ta_415_public _ | exact ta_415_system _ | exact ta_415_is_quirks _ | exact ta_415_is_closing _ | exact ta_415_attrs _); (case m1 => repeat (first | exact .head _ | refine .tail _ ?_)); (case U => repeat (first | exact SUp.head | apply SUp.tail)); (case hl => exact rfl); (case hz => exact rfl))
 refine z_setA (os_n ow_tup) rfl rfl rfl ?_
 (refine' s_new (sa_415 _) (po_415 _) (hd_415 _) ?ht ?m1 ?U ?hl ?hz ?_; (case ht => first | exact ta_415_kind _ | exact ta_415_name _ | exact ta_415_text _ | exact ta_415_public _ | exact ta_415_system _ | exact ta_415_is_quirks _ | exact ta_415_is_closing _ | exact ta_415_attrs _); (case m1 => repeat (first | exact .head _ | refine .tail _ ?_)); (case U => repeat (first | exact SUp.head | apply SUp.tail)); (case hl => exact rfl); (case hz => exact rfl))
 refine z_setA (os_n ow_tup) rfl rfl rfl ?_
 (refine' s_new (sa_415 _) (po_415 _) (hd_415 _) ?ht ?m1 ?U ?hl ?hz ?_; (case ht => first | exact ta_415_kind _ | exact ta_415_name _ | exact ta_415_text _ | exact ta_415_public _ | exact ta_415_system _ | exact ta_415_is_quirks _ | exact ta_415_is_closing _ | exact ta_415_attrs _); (case m1 => repeat (first | exact .head _ | refine .tail _ ?_)); (case U => repeat (first | exact SUp.head | apply SUp.tail)); (case hl => exact rfl); (case hz => exact rfl))
 refine z_setA (os_n ow_tup) rfl rfl rfl ?_
 (refine' s_new (sa_415 _) (po_415 _) (hd_415 _) ?ht ?m1 ?U ?hl ?hz ?_; (case ht => first | exact ta_415_kind _ | exact ta_415_name _ | exact ta_415_text _ | exact ta_415_public _ | exact ta_415_system _ | exact ta_415_is_quirks _ | exact ta_415_is_closing _ | exact ta_415_attrs _); (case m1 => repeat (first | exact .head _ | refine .tail _ ?_)); (case U => repeat (first | exact SUp.head | apply SUp.tail)); (case hl => exact rfl); (case hz => exact rfl))
 refine z_setA (os_n ow_tup) rfl rfl rfl ?_
 (refine' s_new (sa_415 _) (po_415 _) (hd_415 _) ?ht ?m1 ?U ?hl ?hz ?_; (case ht => first | exact ta_415_kind _ | exact ta_415_name _ | exact ta_415_text _ | exact ta_415_public _ | exact ta_415_system _ | exact ta_415_is_quirks _ | exact ta_415_is_closing _ | exact ta_415_attrs _); (case m1 => repeat (first | exact .head _ | refine .tail _ ?_)); (case U => repeat (first | exact SUp.head | apply SUp.tail)); (case hl => exact rfl); (case hz => exact rfl))
 refine z_setA (os_n ow_tup) rfl rfl rfl ?_
 (refine' s_new (sa_415 _) (po_415 _) (hd_415 _) ?ht ?m1 ?U ?hl ?hz ?_; (case ht => first | exact ta_415_kind _ | exact ta_415_name _ | exact ta_415_text _ | exact ta_415_public _ | exact ta_415_system _ | exact ta_415_is_quirks _ | exact ta_415_is_closing _ | exact ta_415_attrs _); (case m1 => repeat (first | exact .head _ | refine .tail _ ?_)); (case U => repeat (first | exact SUp.head | apply SUp.tail)); (case hl => exact rfl); (case hz => exact rfl))
 refine z_setA (os_n ow_tup) rfl rfl rfl ?_
 (refine' s_new (sa_415 _) (po_415 _) (hd_415 _) ?ht ?m1 ?U ?hl ?hz ?_; (case ht => first | exact ta_415_kind _ | exact ta_415_name _ | exact ta_415_text _ | exact ta_415_public _ | exact ta_415_system _ | exact ta_415_is_quirks _ | exact ta_415_is_closing _ | exact ta_415_attrs _); (case m1 => repeat (first | exact .head _ | refine .tail _ ?_)); (case U => repeat (first | exact SUp.head | apply SUp.tail)); (case hl => exact rfl); (case hz => exact rfl))
 refine z_stmt ?_
 refine x_assignA rfl rfl ?_
 refine e_list0 fun D hD => ?_
 (refine' s_new (sa_415 _) (po_415 _) (hd_415 _) ?ht ?m1 ?U ?hl ?hz ?_; (case ht => first | exact ta_415_kind _ | exact ta_415_name _ | exact ta_415_text _ | exact ta_415_public _ | exact ta_415_system _ | exact ta_415_is_quirks _ | exact ta_415_is_closing _ | exact ta_415_attrs _); (case m1 => repeat (first | exact .head _ | refine .tail _ ?_)); (case U => repeat (first | exact SUp.head | apply SUp.tail)); (case hl => exact rfl); (case hz => exact rfl))
 refine zk_n ?_
 refine z_nil ?_
 refine z_end ?_
 refine init_k fun n' hS => ?_
 refine xEA (hS.ob _ (.head _)) fun o1 m1 q1 => ?_
 refine xEA (hS.ob _ (.tail _ (.head _))) fun o2 m2 q2 => ?_
 refine xEA (hS.ob _ (.tail _ (.tail _ (.head _)))) fun o3 m3 q3 => ?_
 obtain ⟨k, rfl⟩ := lst0 q1
 obtain rfl := q2.inv
 refine xEEE (dct_mk q3 0 rfl) fun f g u zq3 => ?_
 subst zq3
 exact ⟨_, List.forall_mem_cons.mpr ⟨m1, List.forall_mem_cons.mpr ⟨m2, List.forall_mem_cons.mpr ⟨m3, hS.ba⟩⟩⟩, ⟨x, dx, D, 0⟩, ⟨f, fun i => if i < 10 then g i else u (i - 10), 0⟩, k, rfl, rfl, h1, h2, hD (x, _) (.head _)⟩
inductive StPost (news : Led) (r : Value) (n : Led) : Prop
 | mk (s sd sg se : Addr) : r = .ref s → owD news [(se, .lst []), (sg, .lst []), (s, .obj (instObj 196 sd)), (sd, .dct [(ofString "signs", .r sg), (ofString "is_closed", .b false), (ofString "is_return", .b false), (ofString "errors", .r se)])] n → (∀ p ∈ news, p.1 < sd) → sd < s → s < sg → sg < se → StPost news r n
theorem streamN (w : World) (news : List (Addr × Obj)) : SpecN w 4 news 196 [] (StPost news) := by
 refine specN_init (d := 2) (as := []) [ofString "self"] (by k_is) (fm_196_init _) (by k_is) (by k_is) (by k_is) (fun _ _ _ => BindsTo.of_eq rfl) .nil rfl rfl fun c x dx h1 h2 => z_start ?_
 refine z_stmt ?_
 refine x_assignA rfl rfl ?_
 refine e_list0 fun D hD => ?_
 (refine' s_new (sa_196 _) (po_196 _) (hd_196 _) ?ht ?m1 ?U ?hl ?hz ?_; (case ht => first | exact ta_196_signs _ | exact ta_196_is_closed _ | exact ta_196_is_return _ | exact ta_196_errors _); (case m1 => repeat (first | exact .head _ | refine .tail _ ?_)); (case U => repeat (first | exact SUp.head | apply SUp.tail)); (case hl => exact rfl); (case hz => exact rfl))
 refine zk_n ?_
 refine z_setA (os_n ow_tup) rfl rfl rfl ?_
 (refine' s_new (sa_196 _) (po_196 _) (hd_196 _) ?ht ?m1 ?U ?hl ?hz ?_; (case ht => first | exact ta_196_signs _ | exact ta_196_is_closed _ | exact ta_196_is_return _ | exact ta_196_errors _); (case m1 => repeat (first | exact .head _ | refine .tail _ ?_)); (case U => repeat (first | exact SUp.head | apply SUp.tail)); (case hl => exact rfl); (case hz => exact rfl))
 refine z_setA (os_n ow_tup) rfl rfl rfl ?_
 (refine' s_new (sa_196 _) (po_196 _) (hd_196 _) ?ht ?m1 ?U ?hl ?hz ?_; (case ht => first | exact ta_196_signs _ | exact ta_196_is_closed _ | exact ta_196_is_return _ | exact ta_196_errors _); (case m1 => repeat (first | exact .head _ | refine .tail _ ?_)); (case U => repeat (first | exact SUp.head | apply SUp.tail)); (case hl => exact rfl); (case hz => exact rfl))
 refine z_stmt ?_
 refine x_assignA rfl rfl ?_
 refine e_list0 fun D hD => ?_
 (refine' s_new (sa_196 _) (po_196 _) (hd_196 _) ?ht ?m1 ?U ?hl ?hz ?_; (case ht => first | exact ta_196_signs _ | exact ta_196_is_closed _ | exact ta_196_is_return _ | exact ta_196_errors _); (case m1 => repeat (first | exact .head _ | refine .tail _ ?_)); (case U => repeat (first | exact SUp.head | apply SUp.tail)); (case hl => exact rfl); (case hz => exact rfl))
 refine zk_n ?_
 refine z_nil ?_
 refine z_end ?_
 rename_i sg hsg
 exact init_k fun n' hS => ⟨n', fun _ h => h, ⟨x, dx, sg, D, rfl, hS, h1, h2, hsg (x, _) (.head _), hD (sg, _) (.head _)⟩⟩
theorem e_stream {K : AV → OS → Prop} {px p : Pos} (hd : Nat.ble 4 d = true) (hG : isGlob cs (ofString "Stream") = true) (h : ∀ s sd sg se : Addr, (∀ q ∈ S, q.1 < sd) → sd < s → s < sg → sg < se → K (.r s) ((se, .lst []) :: (sg, .lst []) :: (s, .obj (instObj 196 sd)) :: (sd, .dct [(ofString "signs", .r sg), (ofString "is_closed", .b false), (ofString "is_return", .b false), (ofString "errors", .r se)]) :: S)) : JE (owD B) c (eval (.Call (.Name (ofString "Stream") px) [] [] p) c.env) l S K := fun s Q E m n F M N hS k => by
 have T := c.T
 have X := c.X
 refine Call_ (nameX_K F X (by k_asm) (gn_Stream _) ?_ c.hk (isGlob_spec hG) db_Stream) rfl
 refine callWith_K0 (c.X.keeps F.keep) (kp_Stream _) ?_
 refine run_specN hd (streamN w _) F N fun r n' h' tk' F' N' hp => ?_
 obtain ⟨a, sd, sg, se, rfl, hS', q1, q2, q3, q4⟩ := hp
 exact k _ _ _ _ _ _ F' (.of hS'.ba) N' (hS.join hS') (.r a) (h a sd sg se (own_lt hS q1) q2 q3 q4)
inductive TkPost (sa : Addr) (st last : PySem.Str) (news : Led) (r : Value) (n : Led) : Prop
 | mk (A : TA) (K : TK) (v : TV) : r = .ref A.t → n = tokLed A K v ++ news → A.sa = sa → A.chain → (∀ p ∈ news, p.1 < A.td) → v.outs = [] → v.ers = [] → v.pos = 0 → v.state = st → v.back = ofString "data" → v.draft = .none → v.buf = ofString "" → v.code = 0 → v.last = last → v.waiting = false → v.done = false → v.signs = [] → v.serrs = [] → v.closed = false → TkPost sa st last news r n
theorem tokN (w : World) (news : List (Addr × Obj)) (sa : Addr) (st last : PySem.Str) (t1 t2 : Tok) : SpecN w 7 news 359 [.ref sa, .str st t1, .str last t2] (TkPost sa st last news) := by
 refine specN_init (d := 5) (as := [.r sa, .s st, .s last]) [ofString "self", ofString "states", ofString "state", ofString "last"] (by k_is) (fm_359_init _) (by k_is) (by k_is) (by k_is) (fun _ _ hIn => binds_K hIn rfl (by k_is) rfl rfl rfl) (.cons (.r _) (.cons (.s _ _) (.cons (.s _ _) .nil))) rfl rfl fun c x dx h1 h2 => z_start ?_
 refine z_setA (os_n ow_tup) rfl rfl rfl ?_
 (refine' s_new (sa_359 _) (po_359 _) (hd_359 _) ?ht ?m1 ?U ?hl ?hz ?_; (case ht => first | exact ta_359_states _ | exact ta_359_stream _ | exact ta_359_at _ | exact ta_359_state _ | exact ta_359_back _ | exact ta_359_out _ | exact ta_359_errors _ | exact ta_359_draft _ | exact ta_359_buffer _ | exact ta_359_code _ | exact ta_359_last _ | exact ta_359_is_foreign _ | exact ta_359_is_waiting _ | exact ta_359_is_done _); (case m1 => repeat (first | exact .head _ | refine .tail _ ?_)); (case U => repeat (first | exact SUp.head | apply SUp.tail)); (case hl => exact rfl); (case hz => exact rfl))
 refine z_stmt ?_
 refine x_assignA rfl rfl ?_
 refine e_stream rfl rfl fun s sd sg se b1 b2 b3 b4 => ?_
 (refine' s_new (sa_359 _) (po_359 _) (hd_359 _) ?ht ?m1 ?U ?hl ?hz ?_; (case ht => first | exact ta_359_states _ | exact ta_359_stream _ | exact ta_359_at _ | exact ta_359_state _ | exact ta_359_back _ | exact ta_359_out _ | exact ta_359_errors _ | exact ta_359_draft _ | exact ta_359_buffer _ | exact ta_359_code _ | exact ta_359_last _ | exact ta_359_is_foreign _ | exact ta_359_is_waiting _ | exact ta_359_is_done _); (case m1 => repeat (first | exact .head _ | refine .tail _ ?_)); (case U => repeat (first | exact SUp.head | apply SUp.tail)); (case hl => exact rfl); (case hz => exact rfl))
 refine zk_n ?_
 refine z_setA (os_n ow_tup) rfl rfl rfl ?_
 (refine' s_new (sa_359 _) (po_359 _) (hd_359 _) ?ht ?m1 ?U ?hl ?hz ?_; (case ht => first | exact ta_359_states _ | exact ta_359_stream _ | exact ta_359_at _ | exact ta_359_state _ | exact ta_359_back _ | exact ta_359_out _ | exact ta_359_errors _ | exact ta_359_draft _ | exact ta_359_buffer _ | exact ta_359_code _ | exact ta_359_last _ | exact ta_359_is_foreign _ | exact ta_359_is_waiting _ | exact ta_359_is_done _); (case m1 => repeat (first | exact .head _ | refine .tail _ ?_)); (case U => repeat (first | exact SUp.head | apply SUp.tail)); (case hl => exact rfl); (case hz => exact rfl))
 refine z_setA (os_n ow_tup) rfl rfl rfl ?_
 (refine' s_new (sa_359 _) (po_359 _) (hd_359 _) ?ht ?m1 ?U ?hl ?hz ?_; (case ht => first | exact ta_359_states _ | exact ta_359_stream _ | exact ta_359_at _ | exact ta_359_state _ | exact ta_359_back _ | exact ta_359_out _ | exact ta_359_errors _ | exact ta_359_draft _ | exact ta_359_buffer _ | exact ta_359_code _ | exact ta_359_last _ | exact ta_359_is_foreign _ | exact ta_359_is_waiting _ | exact ta_359_is_done _); (case m1 => repeat (first | exact .head _ | refine .tail _ ?_)); (case U => repeat (first | exact SUp.head | apply SUp.tail)); (case hl => exact rfl); (case hz => exact rfl))
 refine z_setA (os_n ow_tup) rfl rfl rfl ?_
 (refine' s_new (sa_359 _) (po_359 _) (hd_359 _) ?ht ?m1 ?U ?hl ?hz ?_; (case ht => first | exact ta_359_states _ | exact ta_359_stream _ | exact ta_359_at _ | exact ta_359_state _ | exact ta_359_back _ | exact ta_359_out _ | exact ta_359_errors _ | exact ta_359_draft _ | exact ta_359_buffer _ | exact ta_359_code _ | exact ta_359_last _ | exact ta_359_is_foreign _ | exact ta_359_is_waiting _ | exact ta_359_is_done _); (case m1 => repeat (first | exact .head _ | refine .tail _ ?_)); (case U => repeat (first | exact SUp.head | apply SUp.tail)); (case hl => exact rfl); (case hz => exact rfl))
 refine z_stmt ?_
 refine x_assignA rfl rfl ?_
 refine e_list0 fun D hD => ?_
 (refine' s_new (sa_359 _) (po_359 _) (hd_359 _) ?ht ?m1 ?U ?hl ?hz ?_; (case ht => first | exact ta_359_states _ | exact ta_359_stream _ | exact ta_359_at _ | exact ta_359_state _ | exact ta_359_back _ | exact ta_359_out _ | exact ta_359_errors _ | exact ta_359_draft _ | exact ta_359_buffer _ | exact ta_359_code _ | exact ta_359_last _ | exact ta_359_is_foreign _ | exact ta_359_is_waiting _ | exact ta_359_is_done _); (case m1 => repeat (first | exact .head _ | refine .tail _ ?_)); (case U => repeat (first | exact SUp.head | apply SUp.tail)); (case hl => exact rfl); (case hz => exact rfl))
 refine zk_n ?_
 refine z_stmt ?_
 refine x_assignA rfl rfl ?_
 refine e_list0 fun D hD => ?_
 (refine' s_new (sa_359 _) (po_359 _) (hd_359 _) ?ht ?m1 ?U ?hl ?hz ?_; (case ht => first | exact ta_359_states _ | exact ta_359_stream _ | exact ta_359_at _ | exact ta_359_state _ | exact ta_359_back _ | exact ta_359_out _ | exact ta_359_errors _ | exact ta_359_draft _ | exact ta_359_buffer _ | exact ta_359_code _ | exact ta_359_last _ | exact ta_359_is_foreign _ | exact ta_359_is_waiting _ | exact ta_359_is_done _); (case m1 => repeat (first | exact .head _ | refine .tail _ ?_)); (case U => repeat (first | exact SUp.head | apply SUp.tail)); (case hl => exact rfl); (case hz => exact rfl))
 refine zk_n ?_
 refine z_setA (os_n ow_tup) rfl rfl rfl ?_
 (refine' s_new (sa_359 _) (po_359 _) (hd_359 _) ?ht ?m1 ?U ?hl ?hz ?_; (case ht => first | exact ta_359_states _ | exact ta_359_stream _ | exact ta_359_at _ | exact ta_359_state _ | exact ta_359_back _ | exact ta_359_out _ | exact ta_359_errors _ | exact ta_359_draft _ | exact ta_359_buffer _ | exact ta_359_code _ | exact ta_359_last _ | exact ta_359_is_foreign _ | exact ta_359_is_waiting _ | exact ta_359_is_done _); (case m1 => repeat (first | exact .head _ | refine .tail _ ?_)); (case U => repeat (first | exact SUp.head | apply SUp.tail)); (case hl => exact rfl); (case hz => exact rfl))
 refine z_setA (os_n ow_tup) rfl rfl rfl ?_
 (refine' s_new (sa_359 _) (po_359 _) (hd_359 _) ?ht ?m1 ?U ?hl ?hz ?_; (case ht => first | exact ta_359_states _ | exact ta_359_stream _ | exact ta_359_at _ | exact ta_359_state _ | exact ta_359_back _ | exact ta_359_out _ | exact ta_359_errors _ | exact ta_359_draft _ | exact ta_359_buffer _ | exact ta_359_code _ | exact ta_359_last _ | exact ta_359_is_foreign _ | exact ta_359_is_waiting _ | exact ta_359_is_done _); (case m1 => repeat (first | exact .head _ | refine .tail _ ?_)); (case U => repeat (first | exact SUp.head | apply SUp.tail)); (case hl => exact rfl); (case hz => exact rfl))
 refine z_setA (os_n ow_tup) rfl rfl rfl ?_
 (refine' s_new (sa_359 _) (po_359 _) (hd_359 _) ?ht ?m1 ?U ?hl ?hz ?_; (case ht => first | exact ta_359_states _ | exact ta_359_stream _ | exact ta_359_at _ | exact ta_359_state _ | exact ta_359_back _ | exact ta_359_out _ | exact ta_359_errors _ | exact ta_359_draft _ | exact ta_359_buffer _ | exact ta_359_code _ | exact ta_359_last _ | exact ta_359_is_foreign _ | exact ta_359_is_waiting _ | exact ta_359_is_done _); (case m1 => repeat (first | exact .head _ | refine .tail _ ?_)); (case U => repeat (first | exact SUp.head | apply SUp.tail)); (case hl => exact rfl); (case hz => exact rfl))
 refine z_setA (os_n ow_tup) rfl rfl rfl ?_
 (refine' s_new (sa_359 _) (po_359 _) (hd_359 _) ?ht ?m1 ?U ?hl ?hz ?_; (case ht => first | exact ta_359_states _ | exact ta_359_stream _ | exact ta_359_at _ | exact ta_359_state _ | exact ta_359_back _ | exact ta_359_out _ | exact ta_359_errors _ | exact ta_359_draft _ | exact ta_359_buffer _ | exact ta_359_code _ | exact ta_359_last _ | exact ta_359_is_foreign _ | exact ta_359_is_waiting _ | exact ta_359_is_done _); (case m1 => repeat (first | exact .head _ | refine .tail _ ?_)); (case U => repeat (first | exact SUp.head | apply SUp.tail)); (case hl => exact rfl); (case hz => exact rfl))
 refine z_setA (os_n ow_tup) rfl rfl rfl ?_
 (refine' s_new (sa_359 _) (po_359 _) (hd_359 _) ?ht ?m1 ?U ?hl ?hz ?_; (case ht => first | exact ta_359_states _ | exact ta_359_stream _ | exact ta_359_at _ | exact ta_359_state _ | exact ta_359_back _ | exact ta_359_out _ | exact ta_359_errors _ | exact ta_359_draft _ | exact ta_359_buffer _ | exact ta_359_code _ | exact ta_359_last _ | exact ta_359_is_foreign _ | exact ta_359_is_waiting _ | exact ta_359_is_done _); (case m1 => repeat (first | exact .head _ | refine .tail _ ?_)); (case U => repeat (first | exact SUp.head | apply SUp.tail)); (case hl => exact rfl); (case hz => exact rfl))
 refine z_setA (os_n ow_tup) rfl rfl rfl ?_
 (refine' s_new (sa_359 _) (po_359 _) (hd_359 _) ?ht ?m1 ?U ?hl ?hz ?_; (case ht => first | exact ta_359_states _ | exact ta_359_stream _ | exact ta_359_at _ | exact ta_359_state _ | exact ta_359_back _ | exact ta_359_out _ | exact ta_359_errors _ | exact ta_359_draft _ | exact ta_359_buffer _ | exact ta_359_code _ | exact ta_359_last _ | exact ta_359_is_foreign _ | exact ta_359_is_waiting _ | exact ta_359_is_done _); (case m1 => repeat (first | exact .head _ | refine .tail _ ?_)); (case U => repeat (first | exact SUp.head | apply SUp.tail)); (case hl => exact rfl); (case hz => exact rfl))
 refine z_setA (os_n ow_tup) rfl rfl rfl ?_
 (refine' s_new (sa_359 _) (po_359 _) (hd_359 _) ?ht ?m1 ?U ?hl ?hz ?_; (case ht => first | exact ta_359_states _ | exact ta_359_stream _ | exact ta_359_at _ | exact ta_359_state _ | exact ta_359_back _ | exact ta_359_out _ | exact ta_359_errors _ | exact ta_359_draft _ | exact ta_359_buffer _ | exact ta_359_code _ | exact ta_359_last _ | exact ta_359_is_foreign _ | exact ta_359_is_waiting _ | exact ta_359_is_done _); (case m1 => repeat (first | exact .head _ | refine .tail _ ?_)); (case U => repeat (first | exact SUp.head | apply SUp.tail)); (case hl => exact rfl); (case hz => exact rfl))
 refine z_nil ?_
 refine z_end ?_
 rename_i ou hou
 refine init_k fun n' hS => ?_
 refine xEA (hS.ob _ (.head _)) fun o1 m1 q1 => ?_
 refine xEA (hS.ob _ (.tail _ (.head _))) fun o2 m2 q2 => ?_
 refine xEA (hS.ob _ (.tail _ (.tail _ (.head _)))) fun o3 m3 q3 => ?_
 refine xEA (hS.ob _ (.tail _ (.tail _ (.tail _ (.head _))))) fun o4 m4 q4 => ?_
 refine xEA (hS.ob _ (.tail _ (.tail _ (.tail _ (.tail _ (.head _)))))) fun o5 m5 q5 => ?_
 refine xEA (hS.ob _ (.tail _ (.tail _ (.tail _ (.tail _ (.tail _ (.head _))))))) fun o6 m6 q6 => ?_
 refine xEA (hS.ob _ (.tail _ (.tail _ (.tail _ (.tail _ (.tail _ (.tail _ (.head _)))))))) fun o7 m7 q7 => ?_
 refine xEA (hS.ob _ (.tail _ (.tail _ (.tail _ (.tail _ (.tail _ (.tail _ (.tail _ (.head _))))))))) fun o8 m8 q8 => ?_
 have hba := hS.ba
 clear hS
 obtain ⟨k1, rfl⟩ := lst0 q1
 obtain ⟨k2, rfl⟩ := lst0 q2
 obtain ⟨k3, rfl⟩ := lst0 q3
 obtain ⟨k4, rfl⟩ := lst0 q4
 obtain rfl := q5.inv
 refine xEEE (dct_mk q6 20 rfl) fun f g u zq4 => ?_
 subst zq4
 obtain rfl := q7.inv
 refine xEEE (dct_mk q8 0 rfl) fun f2 g2 u2 zq5 => ?_
 subst zq5
 exact ⟨_, List.forall_mem_cons.mpr ⟨m7, List.forall_mem_cons.mpr ⟨m8, List.forall_mem_cons.mpr ⟨m5, List.forall_mem_cons.mpr ⟨m6, List.forall_mem_cons.mpr ⟨m4, List.forall_mem_cons.mpr ⟨m3, List.forall_mem_cons.mpr ⟨m2, List.forall_mem_cons.mpr ⟨m1, hba⟩⟩⟩⟩⟩⟩⟩⟩, ⟨dx, x, sd, s, sg, se, ou, D, sa⟩, ⟨fun i => if i < 20 then f2 i else f i, fun i => if i < 20 then g2 i else g i, 0⟩, ⟨[], k2, [], k1, 0, u2 2, st, u2 3, ofString "data", u2 4, .none, ofString "", u2 8, 0, u2 9, last, u2 10, false, false, [], k4, [], k3, false⟩, rfl, rfl, rfl, ⟨h2, b1 (x, _) (.head _), b2, b3, b4, hou (se, _) (.head _), hD (ou, _) (.head _)⟩, h1, rfl, rfl, rfl, rfl, rfl, rfl, rfl, rfl, rfl, rfl, rfl, rfl, rfl, rfl⟩
end
section
variable {w : World} {d : Nat} {cs : Scope} {c : FD w d cs} {l : ANs} {X : TX} {cf : Cfg}
theorem x_newDraft {K : AF → ANs → Cfg → Prop} {x kx nx : PySem.Str} {px pa pd pk pn pc p : Pos} {kd nm : Nat} (hX : X.dr = DrAt) (hd : Nat.ble 4 d = true) (hx : isGlob cs (ofString "Draft") = true) (e : alook cs l x = some (.r X.A.t)) (ek : alook cs l kx = some (.s (kindS kd))) (en : alook cs l nx = some (.s (chS nm))) (h : K .nxt l { cf with draft := some ⟨kd, nm, none⟩ }) :
  JX (tsD X) c (exec (.Assign [.Attribute (.Name x px) (ofString "draft") pa] (.Call (.Name (ofString "Draft") pd) [.Name kx pk, .Name nx pn] [] pc) p) c.env) l cf K := fun s Q E m n F M N hS k => by
 have TT := c.T
 have XX := c.X
 refine xAA (alook_spec e) fun e1 e2 e3 => ?_
 refine xEA (M _ _ e3) fun tv hv hi => ?_
 (first | obtain rfl := hi.inv | obtain ⟨_, rfl⟩ := hi.inv | cases hi)
 refine xAA (alook_spec ek) fun k1 k2 k3 => ?_
 refine xEA (M _ _ k3) fun kv hkv hki => ?_
 (first | obtain rfl := hki.inv | obtain ⟨_, rfl⟩ := hki.inv | cases hki)
 refine xAA (alook_spec en) fun n1 n2 n3 => ?_
 refine xEA (M _ _ n3) fun nv hnv hni => ?_
 (first | obtain rfl := hni.inv | obtain ⟨_, rfl⟩ := hni.inv | cases hni)
 refine xEEEEAAA hS fun TK0 v dl rest zq6 hA T hb => ?_
 subst zq6
 refine plainObj_wpAny_Assign_Attribute ?_ (swap_plain rfl)
 refine Call_ ?_ rfl
 refine nameX_K F XX (by k_asm) (gn_Draft _) ?_ c.hk (isGlob_spec hx) db_Draft
 refine callWith_K c.X (kp_Draft _) (args_cons (nameX_L F hkv (args_cons (nameX_L F hnv (args_nil ⟨c.X.keeps F.keep, ?_⟩) c.hk n2 n1) (star_plain rfl)) c.hk k2 k1) (star_plain rfl)) (star_plain rfl) (noStars _ _ _ rfl)
 refine run_specN hd (draftN w (kindS kd) (chS nm) _ _ _) F N fun r n' h' tk' F' N' hp => ?_
 obtain ⟨D, K2, k0, rfl, rfl, hlt, q1, q2⟩ := hp
 obtain ⟨hT, hS'⟩ := new_ts (kd := kd) (nm := nm) (K2 := K2) (k0 := k0) (TK0 := TK0) hX hA T hb hlt q1 q2
 refine nameX_L F' hv (tset_raw (K := TK0) (v := v) (v' := { v with draft := .ref D.dt }) hT rfl F' (fun p hp => N' p ?_) fun h2 tk2 F2 N2 => ?_) c.hk e2 e1
 ·rcases List.mem_append.mp hp with h | h
  ·exact .tail _ (.tail _ (.tail _ (mem_left h)))
  ·rcases List.mem_append.mp h with h | h
   ·exact mem_left (b := tokLed X.A TK0 v ++ (dl ++ rest)) h
   ·exact .tail _ (.tail _ (.tail _ (mem_ends h)))
 ·have hg : Gro (tokLed X.A TK0 v ++ (dl ++ rest)) (tokLed X.A TK0 { v with draft := .ref D.dt } ++ (dlN K2 D (kindS kd) (chS nm) false k0 ++ (dl ++ rest))) := fun a k vs h => mem_ends (mem_ends (mem_ends (ts_tup (X.nt T.draft) h)))
  exact k _ _ _ _ _ _ _ _ F2 hg (M.mono hg) N2 hS' .nxt h
end
end Mine
end
section
open PySem PySem.W PyProof.Rows PySem.Calls
namespace Mine
inductive L6 : Nat → Prop
 | c0 : L6 0 | c1 : L6 1 | c2 : L6 2 | c3 : L6 3 | c4 : L6 4 | c5 : L6 5
theorem l6 {n : Nat} (h : n < 6) : L6 n := by
 rcases n with _ | _ | _ | _ | _ | _ | n
 ·exact .c0
 ·exact .c1
 ·exact .c2
 ·exact .c3
 ·exact .c4
 ·exact .c5
 ·exact absurd h (by lia)
inductive L3 : Nat → Prop
 | c0 : L3 0 | c1 : L3 1 | c2 : L3 2
theorem l3 {n : Nat} (h : n < 3) : L3 n := by
 rcases n with _ | _ | _ | n
 ·exact .c0
 ·exact .c1
 ·exact .c2
 ·exact absurd h (by lia)
section
theorem ow_own (B : Led) (I : Addr) (io : Obj) (hc : io.cls ≠ .type "tuple") : Own (owD B) (owD ((I, io) :: B)) I io where
 put := fun {S nx} hS hne => by
  have g : Gro nx (nx ++ [(I, io)]) := .of fun p hp => mem_left hp
  refine ⟨?_, fun p hp => ?_, fun q hq p hp => ?_, fun q hq => ?_, hS.ns⟩
  ·rw [List.map_append]
   refine List.nodup_append.mpr ⟨hS.nd, by simp, fun a ha b hb e => ?_⟩
   refine xEA (List.mem_map.mp ha) fun p hp zq1 => ?_
   subst zq1
   rw [List.map_cons, List.map_nil, List.mem_singleton] at hb
   exact hne p hp (e.trans hb)
  ·rcases List.mem_cons.mp hp with e | hp
   ·rw [e]; exact mem_ends (.head _)
   ·exact mem_left (hS.ba p hp)
  ·rcases List.mem_cons.mp hp with e | hp
   ·rw [e]
    refine xEA (hS.ob q hq) fun o m _ => ?_
    exact fun e2 => hne _ m e2.symm
   ·exact hS.nb q hq p hp
  ·refine xEA (hS.ob q hq) fun o m i => ?_
   exact ⟨o, mem_left m, i.mono g⟩
 take := fun {S n h₀ L h S0 nx0} h0 hne hS N => by
  have hm : (I, io) ∈ n := hS.ba _ (.head _)
  have g : Gro n (offI I n) := fun a k vs hp => mem_offI.mpr ⟨hp, fun e => by
   have e2 : a = I := e
   subst e2
   exact hc (by rw [nd_eq hS.nd hm hp])⟩
  refine ⟨offI I n, fun p hp => (mem_offI.mp hp).1, hm, fun p hp => (mem_offI.mp hp).2, ⟨?_, fun p hp => ?_, fun q hq p hp => hS.nb q hq p (.tail _ hp), fun q hq => ?_, hS.ns⟩, g⟩
  ·exact hS.nd.sublist (List.Sublist.map _ (List.filter_sublist))
  ·exact mem_offI.mpr ⟨hS.ba p (.tail _ hp), hne p (h0.ba p hp)⟩
  ·refine xEA (hS.ob q hq) fun o m i => ?_
   exact ⟨o, mem_offI.mpr ⟨m, (hS.nb q hq _ (.head _)).symm⟩, i.mono g⟩
noncomputable def BaseOk (den : σ → Led → Prop) (B : Led) : Prop := ∀ S n, den S n → ∀ p ∈ B, p ∈ n
theorem ow_base {B : Led} : BaseOk (owD B) B := fun _ _ h => h.ba
section
variable {w : World} {d : Nat} {cs : Scope} {σ : Type} {den : σ → Led → Prop} {c : FD w d cs} {l : ANs} {S : σ} {B : Led}
theorem b_lI {K : AV → σ → Prop} {a : Addr} {vs : List Value} {k : Nat} {z : Int} {v : Value} {av : AV} {sl : Expr} (hB : BaseOk den B) (hs : slicePlain sl = true) (hp : (a, listOf vs.toArray k) ∈ B) (hz : (decide (0 ≤ z) && decide (z < 100000)) = true) (hv : vs[z.toNat]? = some v) (hi : ∀ n, av.Is n v) (h : K av S) : JO2 den c AV.Is (fun o i => subscriptTail usE sl o i) (.r a) (.i z) l S K := fun s Q E m n x y F M N hS i j kk => by
 (first | obtain rfl := i.inv | obtain ⟨_, rfl⟩ := i.inv | cases i)
 (first | obtain rfl := j.inv | obtain ⟨_, rfl⟩ := j.inv | cases j)
 rw [Bool.and_eq_true] at hz
 exact item_L N (hB _ _ hS _ hp) (of_decide_eq_true hz.1) (of_decide_eq_true hz.2) hv (kk _ _ _ _ _ _ F .refl N hS (hi _) h) (sub_plain hs) (fun _ => rfl)
end
theorem spec_own {w : World} {d : Nat} {news B : Led} {S0 : OS} {f : Addr} {as : List AV} {vs : List Value} {K : AV → OS → Prop} {oc : Value} {an od : Option Addr} {osl : Array (Option Value)} {name qual : PySem.Str} {params : Arguments} {body : List Stmt} {scope : Scope} {dV kV doc pm cdv ct : Value} (xs : List PySem.Str)
  (ho : (hd.heap_1 w.params).lookup f = some ⟨oc, od, .func (fnOf name qual params body scope dV kV doc pm an cdv ct), osl⟩) (hcd : codeIn (hd.heap_1 w.params) cdv qual = true) (hb : ∀ s : Shared, BindsTo s (fnOf name qual params body scope dV kV doc pm an cdv ct) ⟨vs, []⟩ (xs.zip vs)) (hi : LIs news as vs) (hl : (xs.all fun x => decide (scope.names.lookup x = some .local)) = true) (hs : scopeOk scope = true)
  (hB : ∀ p ∈ B, p ∈ news) (hO : ∀ q ∈ S0, (∀ p ∈ B, p.1 ≠ q.1) ∧ ∃ o, (q.1, o) ∈ news ∧ q.2.Is news o) (hN : (S0.map (·.1)).Nodup)
  (h : ∀ c : FD w d scope, JX (owD B) c (execs body c.env) (xs.zip as).reverse S0 fun fl _ S' => K (retA fl) S') :
  Spec w (d + 1) news f vs fun r n => ∃ (a : AV) (S' : OS), owD B S' n ∧ a.Is n r ∧ K a S' := by
 intro mean mg mb dp un gd cn cs a ccd cl outer A₀ base h₀ L m s Q E hBl hF hX hN2 hT hk hd hu hret
 unfold scopeOk at hs
 simp only [Bool.and_eq_true, Bool.not_eq_true'] at hs
 obtain ⟨⟨⟨hs1, hs2⟩, hs3⟩, hs4⟩ := hs
 have hs3 : scope.kind = .function := by simpa using hs3
 refine wpAny_call ?_
 refine code_defG hBl hF hX hN2 hT rfl rfl hk ho hcd (by show dp < _; lia) (hb s) (locs (List.all_eq_true.mpr fun p hp => List.all_eq_true.mp hl _ (List.of_mem_zip hp).1)) (fun g' L' h' FG' F' N' B' X' T' hG => ?_) hs1 hs2 hs3 (fun x hx => by have := List.all_eq_true.mp hs4 x hx; simpa using this)
 refine xEAA (dedL N') fun n0 d1 d2 d3 => ?_
 refine h ⟨mean, mg, mb, dp + 1, un + 3, gd, qual, f, cdv, [], envX cn cs L a ccd cl :: outer, _, base, g', L', B', X', T', hs3, by lia, by lia⟩ _ _ _ _ n0 F' ((PIs.zip xs hi).rev.names.mono (.of d3)) (fun p hp => N' p (d2 p hp)) ⟨d1, fun p hp => d3 p (hB p hp), fun q hq => (hO q hq).1, fun q hq => ?_, hN⟩ fun fl b l' S' m' n' h2 tk F2 g2 M2 N2 hS2 i2 hK => leaveK_ F2 N2 fun F3 N3 => hret _ _ _ _ F3 N3 (fun b o e n => F2.keep b o (hG b o e n)) ?_
 ·refine xEA ((hO q hq).2) fun o m i => ?_
  exact ⟨o, d3 _ m, i.mono (.of d3)⟩
 ·cases i2 with
  | nxt => exact ⟨_, _, hS2, .n, hK⟩
  | ret i2 => exact ⟨_, _, hS2, i2, hK⟩
variable {w : World} {d : Nat} {cs : Scope} {c : FD w d cs} {l : ANs} {B : Led} {S : OS}
noncomputable def drL (D : DA) (kind name : PySem.Str) (f : Bool) : List (PySem.Str × AV) := [(ofString "kind", .s kind), (ofString "name", .s name), (ofString "text", .s (ofString "")), (ofString "is_closing", .b f), (ofString "attrs", .r D.al)]
noncomputable def drOb (D : DA) (kind name : PySem.Str) (f : Bool) : Obs OS := ⟨fun _ a => (drL D kind name f).lookup a, fun _ _ _ => none⟩
theorem dr_all (w : World) (K2 : TK) (D : DA) (kind name : PySem.Str) (f : Bool) : ∀ p ∈ drL D kind name f, ∃ val, findIn (hd.heap_1 w.params) (.ref 415) p.1 = some none ∧ getL p.1 (drEs K2 D kind name f) = some (some val) ∧ handedIn val = true ∧ ∀ n, p.2.Is n val :=
 List.forall_mem_cons.mpr ⟨⟨.str kind (K2.k 10), fa_415_kind _, rfl, rfl, fun _ => .s _ _⟩, List.forall_mem_cons.mpr ⟨⟨.str name (K2.k 11), fa_415_name _, rfl, rfl, fun _ => .s _ _⟩, List.forall_mem_cons.mpr ⟨⟨.str (ofString "") (K2.k 12), fa_415_text _, rfl, rfl, fun _ => .s _ _⟩, List.forall_mem_cons.mpr ⟨⟨.bool f, fa_415_is_closing _, rfl, rfl, fun _ => .b _⟩, List.forall_mem_cons.mpr ⟨⟨.ref D.al, fa_415_attrs _, rfl, rfl, fun _ => .r _⟩, fun _ h => nomatch h⟩⟩⟩⟩⟩
theorem dr_ob {K2 : TK} {D : DA} {kind name : PySem.Str} {f : Bool} (m1 : (D.dt, instObj 415 D.dd) ∈ B) (m2 : (D.dd, dictOf (drEs K2 D kind name f) 8) ∈ B) : ObOk (owD B) c D.dt (drOb D kind name f) where
 h1 := fun {l S a v K} e h s Q E m n y F M N hS i k => by
  obtain rfl := i.inv
  refine xEAAA (dr_all w K2 D kind name f _ (mem_lookup e)) fun val q1 q2 q3 q4 => ?_
  exact get_415 F c.X N (hS.ba _ m1) (hS.ba _ m2) q1 q2 q3 (k _ _ _ _ _ _ F .refl N hS (q4 _) h)
 h2 := fun _ e => nomatch e
theorem os_dr {K2 : TK} {D : DA} {kind name : PySem.Str} {f : Bool} (m1 : (D.dt, instObj 415 D.dd) ∈ B) (m2 : (D.dd, dictOf (drEs K2 D kind name f) 8) ∈ B) (e : alook cs l (ofString "self") = some (.r D.dt)) : OsT (owD B) c l [(ofString "self", drOb D kind name f)] := ⟨ow_tup, .cons e (dr_ob m1 m2) .nil⟩
theorem o_tupleL {K : AV → OS → Prop} {a : Addr} {as : List AV} {ds : List Dat} (h1 : (a, .lst as) ∈ S) (e : avDats as = some ds) (hn : noL 4 (.tuple ds) = true) (hz : Nat.ble as.length 100 = true) (h : K (.d (.tuple ds)) S) : JOL (owD B) c AV.Is (fun vs => call (.type "tuple") vs) [.r a] l S K := fun s Q E m n vs F M N hS i k => by
 cases i using LIs.cons_elim with
 | cons i j =>
  obtain rfl := i.inv
  obtain rfl := j.inv
  refine xEA (hS.ob _ h1) fun o m1 q => ?_
  cases q using AO.Is.lst_elim with
  | lst kk r =>
   have hz := Nat.le_of_ble_eq_true hz
   refine kde_tupleOf F N (News.isList N m1) (by rw [List.size_toArray, r.len]; lia) rfl fun D h' F' N' hl => ?_
   obtain ⟨n', hS', hs, hm, g⟩ := ow_tup _ _ D _ hS hl
   exact k _ _ _ _ _ _ F' g (fun p hp => N' p (hs p hp)) hS' (.d (.tuple hm (avDats_in e (r.mono g))) hn) h
theorem b_last {K : AV → OS → Prop} {la : Addr} {vs : List Value} {k0 : Nat} {v : Value} {av : AV} {sl : Expr} (hs : slicePlain sl = true) (hm : (la, listOf vs.toArray k0) ∈ B) (hj : seqIndex? (-1) vs.length = some 0) (hv : vs[0]? = some v) (hi : ∀ n, av.Is n v) (h : K av S) : JO2 (owD B) c AV.Is (fun o i => subscriptTail usE sl o i) (.r la) (.i (-1)) l S K := fun s Q E m n x y F M N hS i j kk => by
 obtain rfl := i.inv
 obtain ⟨_, rfl⟩ := j.inv
 exact kde_neg (News.isList N (hS.ba _ hm)) (by decide) (by decide) hj hv (kk _ _ _ _ _ _ F .refl N hS (hi _) h) (sub_plain hs)
theorem setL_take {vs : List Value} {v : Value} : ∀ {k : Nat}, k < vs.length → ki_setL vs k v = some (vs.set k v) := by
 induction vs with
 | nil => intro k h; cases h
 | cons x r ih =>
  intro k h
  cases k with
  | zero => rfl
  | succ k => unfold ki_setL; rw [ih (Nat.lt_of_succ_lt_succ h)]; rfl
theorem LIs.set {n : Led} {a : AV} {v : Value} (h : a.Is n v) : ∀ {as : List AV} {vs : List Value} {k : Nat}, LIs n as vs → LIs n (as.set k a) (vs.set k v)
 | _, _, _, .nil => .nil
 | _, _, 0, .cons _ r => .cons h r
 | _, _, _ + 1, .cons i r => .cons i (LIs.set h r)
theorem x_setLI {K : AF → ANs → OS → Prop} {oe ie ve : Expr} {pp p : Pos} {la : Addr} {k0 : Nat} (hsw : plainE ve = true) (hk0 : Nat.ble k0 1000 = true)
  (h : JE (owD B) c (eval ve c.env) l S fun v S1 => JE (owD B) c (eval oe c.env) l S1 fun u S2 => JE (owD B) c (eval ie c.env) l S2 fun a S3 => u = .r la ∧ a = .i (k0 : Int) ∧ ∃ xs S4, SUp la (.lst xs) (.lst (xs.set k0 v)) S3 S4 ∧ k0 < xs.length ∧ K .nxt l S4) :
  JX (owD B) c (exec (.Assign [.Subscript oe ie pp] ve p) c.env) l S K := fun s Q E m n F M N hS k =>
 wpAny_Assign_Subscript (h s _ E m n F M N hS fun v a1 S1 n1 h1 t1 F1 g1 N1 hS1 i1 h2 => h2 _ _ E m n1 F1 (M.mono g1) N1 hS1 fun u a2 S2 n2 h3 t3 F3 g3 N3 hS3 i3 h4 => h4 _ _ E m n2 F3 (M.mono (g1.trans g3)) N3 hS3 fun x a3 S3 n3 h5 t5 F5 g5 N5 hS5 i5 zf11 => by
  refine xAAEEAA zf11 fun e1 e2 xs S4 U hz h6 => ?_
  subst e1 e2
  obtain rfl := i3.inv
  obtain ⟨_, rfl⟩ := i5.inv
  refine xEA (hS5.ob _ U.mem) fun o m1 q => ?_
  have g6 := fun o' => hS5.gro (o' := o') m1 q rfl
  have hk0 := Nat.le_of_ble_eq_true hk0
  cases q using AO.Is.lst_elim with
  | lst kk r => exact ki_set F5 N5 (Int.natCast_nonneg _) (by lia) (setL_take (by show k0 < _; rw [r.len]; exact hz)) (putO_upd hS5.nd m1) fun h' F' N' => k _ _ _ _ _ _ _ _ F' (((g1.trans g3).trans g5).trans (g6 _)) (M.mono (((g1.trans g3).trans g5).trans (g6 _))) N' (hS5.put U (.lst _ (r.set (i1.mono (g3.trans g5)))) rfl) .nxt h6) (swap_plain hsw)
theorem e_listO {os : List (PySem.Str × Obs OS)} {K : AV → OS → Prop} {p : Pos} {es : List Expr} {as : List AV} (hO : OsT (owD B) c l os) (q : evL os cs l S es = some as) (hz : Nat.ble as.length 100 = true) (h : ∀ a, (∀ q ∈ S, q.1 < a) → K (.r a) ((a, .lst as) :: S)) : JE (owD B) c (eval (.List es p) c.env) l S K := fun s Q E m n F M N hS k =>
 List_ (evL_ok (K := fun as' S1 => as' = as ∧ S1 = S) hO q ⟨rfl, rfl⟩ s _ E m n F M N hS fun vs as' S1 n1 h1 t1 F1 g1 N1 hS1 i1 ⟨e1, e2⟩ => by
  subst e1 e2
  exact newList_K F1 N1 (fun D h3 F3 N3 hl => k _ _ _ _ _ _ F3 (g1.trans (.of fun p hp => .tail _ hp)) N3 (hS1.new hl (.lst 0 i1)) (.r _) (h D (own_lt hS1 hl))) (by rw [sizeLine_eq, i1.len]; have := Nat.le_of_ble_eq_true hz; lia))
end
section
variable {w : World} {X : TX} {cf : Cfg}
theorem offT_of {A : TA} {K : TK} {v : TV} {l : Led} (h : ∀ p ∈ l, ∀ q ∈ tokLed A K v, q.1 ≠ p.1) : OffT A l :=
 ⟨fun p hp e => h p hp _ (.head _) e.symm, fun p hp e => h p hp _ (.tail _ (.head _)) e.symm, fun p hp e => h p hp _ (.tail _ (.tail _ (.head _))) e.symm, fun p hp e => h p hp _ (.tail _ (.tail _ (.tail _ (.head _)))) e.symm, fun p hp e => h p hp _ (.tail _ (.tail _ (.tail _ (.tail _ (.head _))))) e.symm, fun p hp e => h p hp _ (.tail _ (.tail _ (.tail _ (.tail _ (.tail _ (.head _)))))) e.symm, fun p hp e => h p hp _ (.tail _ (.tail _ (.tail _ (.tail _ (.tail _ (.tail _ (.head _))))))) e.symm, fun p hp e => h p hp _ (.tail _ (.tail _ (.tail _ (.tail _ (.tail _ (.tail _ (.tail _ (.head _)))))))) e.symm⟩
theorem ts_ext {n n' : Led} (h : tsD X cf n) (nd : (n'.map (·.1)).Nodup) (hb : ∀ p ∈ n, p ∈ n') : ∃ n2, (∀ p ∈ n2, p ∈ n') ∧ (∀ p ∈ n', p ∈ n2) ∧ tsD X cf n2 := by
 refine xEEEEAAA h fun K v dl rest zq2 hA T hX => ?_
 subst zq2
 have hne : ∀ p ∈ n'.filter (fun p => decide (p.1 ∉ (tokLed X.A K v ++ (dl ++ rest)).map (·.1))), ∀ q ∈ tokLed X.A K v ++ (dl ++ rest), q.1 ≠ p.1 := fun p hp q hq e => of_decide_eq_true (List.mem_filter.mp hp).2 (e ▸ List.mem_map.mpr ⟨q, hq, rfl⟩)
 have hin : ∀ p ∈ n', p ∈ n'.filter (fun p => decide (p.1 ∉ (tokLed X.A K v ++ (dl ++ rest)).map (·.1))) ∨ p ∈ tokLed X.A K v ++ (dl ++ rest) := fun p hp => by
  by_cases z : p.1 ∈ (tokLed X.A K v ++ (dl ++ rest)).map (·.1)
  ·refine xEA (List.mem_map.mp z) fun u hu e => ?_
   have e2 := nd_eq nd (a := p.1) (o := p.2) (o' := u.2) hp (by have := hb u hu; rw [← e]; exact this)
   have : u = p := Prod.ext e e2.symm
   exact .inr (this ▸ hu)
  ·exact .inl (List.mem_filter.mpr ⟨hp, decide_eq_true z⟩)
 have hsub : ∀ p ∈ n'.filter (fun p => decide (p.1 ∉ (tokLed X.A K v ++ (dl ++ rest)).map (·.1))), p ∈ n' := fun p hp => (List.mem_filter.mp hp).1
 generalize n'.filter (fun p => decide (p.1 ∉ (tokLed X.A K v ++ (dl ++ rest)).map (·.1))) = new at hne hin hsub
 refine ⟨tokLed X.A K v ++ (dl ++ (new ++ rest)), fun p hp => ?_, fun p hp => ?_, K, v, dl, new ++ rest, rfl, hA, { T with
  outs := T.outs.mono fun p hp => mem_ends hp
  ers := T.ers.mono fun p hp => mem_ends hp
  offL := fun p hp q hq => (List.mem_append.mp hq).elim (fun hq => hne q hq p (mem_ends (mem_left hp))) (T.offL p hp q)
  offT := offT_perm (fun p hp => perm3 (X := []) p hp) (offT_app (l := new) (r := dl ++ rest) (offT_of fun p hp q hq => hne p hp q (mem_left hq)) T.offT) }, fun p hp => mem_ends (hX p hp)⟩
 ·rcases List.mem_append.mp (perm3 p hp) with h | h
  ·exact hb p (mem_left h)
  ·rcases List.mem_append.mp h with h | h
   ·exact hsub p h
   ·exact hb p (mem_ends h)
 ·rcases hin p hp with h | h
  ·exact mem_ends (mem_ends (mem_left h))
  ·rcases List.mem_append.mp h with h | h
   ·exact mem_left h
   ·exact mem_ends ((List.mem_append.mp h).elim (fun h => mem_left h) fun h => mem_ends (mem_ends h))
noncomputable def tkD (v : Option (List Nat)) : List Dat := match v with
 | none => []
 | some xs => [.tuple [.str (ofString ""), .str (xS xs)]]
noncomputable def DX.asA (x : DX) : List AV := match x.val with
 | none => []
 | some _ => [.r x.D.il]
noncomputable def DX.il (x : DX) (n : Led) : Prop := ∀ xs, x.val = some xs → (x.D.il, listOf [.str (ofString "") x.u1, .str (xS xs) x.u3, .bool true].toArray x.k4) ∈ n
theorem DX.als_is (x : DX) (n : Led) : LIs n x.asA x.als := by
 unfold DX.asA DX.als
 cases x.val with
 | none => exact .nil
 | some _ => exact .cons (.r _) .nil
theorem token_o {x : DX} {f : Bool} {n : Led} (hk : x.kd ≤ 2) (hx : ∀ p ∈ x.led f, p ∈ n) : Spec w 3 n 412 [.ref x.D.dt] fun r n' => ∃ (a : AV) (S' : OS), owD n S' n' ∧ a.Is n' r ∧ a = .d (drTok ⟨x.kd, x.nm, x.val⟩ f) := by
 have m1 := hx _ (x.mt f)
 have m2 := hx _ (x.md f)
 have m3 := hx _ (x.ma f)
 have m4 : x.il n := fun xs e => hx _ (by rw [DX.led_s e]; exact .head _)
 rw [← drTokS_eq hk]
 have hkd := kind_facts hk
 refine spec_own (d := 2) (S0 := []) (as := [.r x.D.dt]) (K := fun a _ => a = .d (drTokS (kindS x.kd) (chS x.nm) x.val f)) [ofString "self"] (by k_is) (by k_is) (fun _ => BindsTo.of_eq rfl) (.cons (.r _) .nil) rfl rfl (fun _ h => h) (fun _ h => nomatch h) List.nodup_nil fun c => z_start ?_
 cases hc : kindS x.kd == oS "comment" with
 | true =>
  refine z_ifT (os_dr m1 m2 rfl) rfl hc (z_retE (os_dr m1 m2 rfl) rfl ?_)
  show _ = _
  unfold drTokS
  rw [if_pos hc]
  rfl
 | false =>
  refine z_ifF (os_dr m1 m2 rfl) rfl hc (z_nil (z_ifF (os_dr m1 m2 rfl) rfl hkd (z_nil (z_let rfl rfl (e_list0 fun D _ => z_stmt (x_forL (γ := Unit) x.asA (fun I io => owD ((I, io) :: n)) (ow_own n) (fun i _ S' => S' = [(D, .lst (((tkD x.val).take i).map .d))]) (fun _ _ _ => [(ofString "kept", .r D), (ofString "self", .r x.D.dt)]) () rfl (fun _ => rfl) (fun S nx hS => ⟨hS.ba _ m3, x.als_is nx⟩) (e_ev (os_dr m1 m2 rfl) rfl ⟨rfl, rfl, .of rfl⟩) ?tn ?dn))))))
  case tn =>
   rintro I io _ i _ _ hi rfl
   unfold DX.asA at hi ⊢
   unfold DX.il at m4
   cases hv : x.val with
   | none => rw [hv] at hi; cases hi
   | some xs =>
    rw [hv] at hi
    cases i with
    | succ i => exact absurd hi (by simp)
    | zero =>
     have m5 : (x.D.il, listOf [.str (ofString "") x.u1, .str (xS xs) x.u3, .bool true].toArray x.k4) ∈ (I, io) :: n := .tail _ (m4 xs hv)
     refine z_start (z_if (t_plain rfl (e_sub (e_name rfl (e_int (b_lI ow_base rfl m5 rfl rfl (fun _ => .b _) (jt_b (bif_t (z_expr rfl (e_app rfl rfl ⟨_, .head _⟩ (e_tup (l_cons rfl (e_sub (e_name rfl (e_int (b_lI ow_base rfl m5 rfl rfl (fun _ => .s _ _) (l_cons rfl (e_sub (e_name rfl (e_int (b_lI ow_base rfl m5 rfl rfl (fun _ => .s _ _) (l_nil (o_tupG ow_tup rfl rfl rfl ⟨_, _, .head, Nat.zero_le _, ?_⟩)))))))))))))))))))))))
     refine z_nil ?_
     refine z_nil ?_
     refine z_end ?_
     exact ⟨(), rfl, .of rfl⟩
  case dn =>
   rintro _ _ rfl
   have e : (tkD x.val).take x.asA.length = tkD x.val := by unfold tkD DX.asA; cases x.val <;> rfl
   rw [e]
   refine zk_n (z_ret (e_tup (l_cons rfl (e_ev (os_dr m1 m2 rfl) rfl (l_cons rfl (e_ev (os_dr m1 m2 rfl) rfl (l_cons rfl (e_ttJ rfl rfl rfl (l_cons rfl (e_name rfl (l_nil ?_)))))))))))
   refine o_tupleL (ds := tkD x.val) (.head _) (by unfold tkD; cases x.val <;> rfl) (by unfold tkD; cases x.val <;> rfl) (by unfold tkD; cases x.val <;> rfl) ?_
   refine l_cons rfl (e_ev (os_dr m1 m2 rfl) rfl (l_nil (o_tupG ow_tup rfl (by unfold tkD; cases x.val <;> rfl) rfl ?_)))
   show _ = _
   unfold drTokS
   rw [if_neg (by rw [hc]; exact Bool.false_ne_true)]
   unfold valD tkD
   cases x.val <;> rfl
theorem token_a {X : TX} {cf : Cfg} {x : DX} {f : Bool} {K : AV → Cfg → Prop} (hk : x.kd ≤ 2) (e : cf.draft = phD 1 ∨ cf.draft = none ∨ f = false) (h : K (.d (drTok ⟨x.kd, x.nm, x.val⟩ f)) cf) : JC (tsD (XD X x f)) w 3 412 [.r x.D.dt] cf K := jc_of fun n vs hS hi => by
 cases hi using LIs.cons_elim with
 | cons i j =>
  obtain rfl := i.inv
  obtain rfl := j.inv
  have hx : ∀ p ∈ x.led f, p ∈ n := by
   refine xEEEEAAA hS fun TK0 v dl rest zq3 hA T hb => ?_
   subst zq3
   refine xEA (DX.Is.ex T.draft) fun cl zq4 hc => ?_
   subst zq4
   cases hc e
   exact fun p hp => mem_ends (mem_left hp)
  refine ⟨_, token_o hk hx, fun r n' zf15 => ?_⟩
  refine xEEAA zf15 fun a S' hO ha hK => ?_
  refine xEAA (ts_ext hS hO.nd hO.ba) fun n2 s1 s2 h2 => ?_
  exact ⟨n2, s1, .of fun p hp => s2 p (hO.ba p hp), a, cf, h2, ha.mono (.of s2), hK ▸ h⟩
end
section
variable {w : World} {d : Nat} {cs : Scope} {c : FD w d cs} {l : ANs} {B : Led} {S : OS}
theorem e_appA {K : AV → OS → Prop} {a : Addr} {x b : PySem.Str} {xp bp apos p : Pos} {e0 : Expr} (hp : methOk [e0] apos p = true) (hr : JE (owD B) c (eval (.Attribute (.Name x xp) b bp) c.env) l S fun u S1 => u = .r a ∧ S1 = S) (hm : ∃ xs, (a, .lst xs) ∈ S) (h : JE (owD B) c (eval e0 c.env) l S fun v S1 => AppK S1 a v K) : JE (owD B) c (eval (.Call (.Attribute (.Attribute (.Name x xp) b bp) (ofString "append") apos) [e0] [] p) c.env) l S K := fun s Q E m n F M N hS k => by
 have hp' := hp
 unfold methOk at hp'
 simp only [List.all_cons, Bool.and_eq_true] at hp'
 refine MethodCall_ (pl := (do return (← importBound (.Attribute (.Name x xp) b bp) c.env).getD true)) (hr s _ E m n F M N hS fun v a1 S1 n1 h1 t1 F1 g1 N1 hS1 i1 ⟨q1, q2⟩ => ?_)
  (by show (eval (.Attribute (.Name x xp) b bp) c.env >>= fun ov => standAt apos.atName >>= fun _ => methodCall _ _ _ _ _ _ _ _ _) = _; simp only [meth_form hp])
 subst q1 q2
 obtain rfl := i1.inv
 obtain ⟨xs0, hm⟩ := hm
 refine xEA (hS1.ob _ hm) fun o1 m1 q1 => ?_
 cases q1 using AO.Is.lst_elim with
 | lst k1 i1 =>
  refine listMethod_K N1 m1 slot_list_append rfl ?_
  refine callWith_method1 (l_cons hp'.1.1.1 (K := fun as S2 => ∃ v, as = [v] ∧ AppK S2 a v K) (fun s Q E m n F M N hS k => h s Q E m n F M N hS fun v b S' n' h' tk' F' g N' hS' i' hk => k v b S' n' h' tk' F' g N' hS' i' (l_nil ⟨_, rfl, hk⟩)) _ _ E m _ F1 (M.mono g1) N1 hS1 fun vs as S2 n2 h3 t3 F3 g3 N3 hS3 i3 hk => ?_) (star_plain hp'.1.1.1) (noStars _ _ _ rfl)
  obtain ⟨v, rfl, xs, S3, U, hz, hk⟩ := hk
  cases i3 using LIs.cons_elim with
  | cons i3 i4 =>
   obtain rfl := i4.inv
   obtain ⟨o2, m2, q2⟩ := hS3.ob _ U.mem
   have g4 := fun o' => hS3.gro (o' := o') m2 q2 rfl
   cases q2 using AO.Is.lst_elim with
   | lst k2 i5 =>
    exact append_L F3 N3 (putO_upd hS3.nd m2) (by rw [i5.len]; exact hz) fun h' F' N' => k _ _ _ _ _ _ F' ((g1.trans g3).trans (g4 _)) N' (hS3.put U (.lst _ (i5.app (.cons i3 .nil))) rfl) .n hk
theorem begin_o (w : World) (D : DA) (K2 : TK) (kind name : PySem.Str) {k : Nat} {B n : Led} (m1 : (D.dt, instObj 415 D.dd) ∈ B) (m2 : (D.dd, dictOf (drEs K2 D kind name false) 8) ∈ B) (hB : ∀ p ∈ B, p ∈ n) (hn : ∀ p ∈ B, p.1 ≠ D.al) (ha : (D.al, listOf [].toArray k) ∈ n) :
  Spec w 3 n 384 [.ref D.dt] fun r n' => ∃ (a : AV) (S' : OS), owD B S' n' ∧ a.Is n' r ∧ a = .n ∧ ∃ il, (D.al : Nat) < il ∧ S' = [(il, .lst [.s (ofString ""), .s ⟨([] : List Nat).toArray⟩, .b true]), (D.al, .lst [.r il])] := by
 refine spec_own (d := 2) (S0 := [(D.al, .lst [])]) (as := [.r D.dt]) (K := fun a S' => a = .n ∧ ∃ il, (D.al : Nat) < il ∧ S' = [(il, .lst [.s (ofString ""), .s ⟨([] : List Nat).toArray⟩, .b true]), (D.al, .lst [.r il])]) [ofString "self"] (by k_is) (by k_is) (fun _ => BindsTo.of_eq rfl) (.cons (.r _) .nil) rfl rfl hB (List.forall_mem_cons.mpr ⟨⟨hn, _, ha, .lst k .nil⟩, fun _ h => nomatch h⟩) (List.nodup_cons.mpr ⟨List.not_mem_nil, List.nodup_nil⟩) fun c => z_start ?_
 refine z_expr rfl (e_appA rfl (e_ev (os_dr m1 m2 rfl) rfl ⟨rfl, rfl⟩) ⟨_, .head _⟩ (e_listO (os_n ow_tup) rfl rfl fun il hl => ⟨_, _, .tail .head, Nat.zero_le _, ?_⟩))
 refine z_nil ?_
 refine z_end ?_
 exact ⟨rfl, il, hl (D.al, _) (.head _), rfl⟩
theorem add_o (w : World) (D : DA) (K2 : TK) (kind name : PySem.Str) {k k1 : Nat} {t1 t2 t3 : Tok} {ys : List Nat} (hy : ys.length ≤ 12) {B n : Led} (m1 : (D.dt, instObj 415 D.dd) ∈ B) (m2 : (D.dd, dictOf (drEs K2 D kind name false) 8) ∈ B) (m3 : (D.al, listOf [.ref D.il].toArray k) ∈ B) (hB : ∀ p ∈ B, p ∈ n) (hn : ∀ p ∈ B, p.1 ≠ D.il) (ha : (D.il, listOf [.str (ofString "") t1, .str ⟨([] : List Nat).toArray⟩ t2, .bool true].toArray k1) ∈ n) :
  Spec w 3 n 398 [.ref D.dt, .str ⟨ys.toArray⟩ t3] fun r n' => ∃ (a : AV) (S' : OS), owD B S' n' ∧ a.Is n' r ∧ a = .n ∧ S' = [(D.il, .lst [.s (ofString ""), .s ⟨ys.toArray⟩, .b true])] := by
 refine spec_own (d := 2) (S0 := [(D.il, .lst [.s (ofString ""), .s ⟨([] : List Nat).toArray⟩, .b true])]) (as := [.r D.dt, .s ⟨ys.toArray⟩]) (K := fun a S' => a = .n ∧ S' = [(D.il, .lst [.s (ofString ""), .s ⟨ys.toArray⟩, .b true])]) [ofString "self", ofString "text"] (by k_is) (by k_is) (fun _ => BindsTo.of_eq rfl) (.cons (.r _) (.cons (.s _ _) .nil)) rfl rfl hB (List.forall_mem_cons.mpr ⟨⟨hn, _, ha, .lst k1 (.cons (.s _ _) (.cons (.s _ _) (.cons (.b _) .nil)))⟩, fun _ h => nomatch h⟩) (List.nodup_cons.mpr ⟨List.not_mem_nil, List.nodup_nil⟩) fun c => z_start ?_
 refine z_let rfl rfl (e_sub (e_ev (os_dr m1 m2 rfl) rfl (e_ev (os_n ow_tup) rfl (b_last rfl m3 rfl rfl (fun _ => .r _) (z_stmt (x_setLI (k0 := 1) rfl rfl (e_bin (e_sub (e_name rfl (e_int (o_idxL (k := 1) rfl (.head _) rfl rfl (e_name rfl (o_addS (by simpa using Nat.le_trans hy (by decide)) (e_name rfl (e_int ⟨rfl, rfl, _, _, .head, by simp, ?_⟩)))))))))))))))
 refine zk_n ?_
 refine z_nil ?_
 refine z_end ?_
 exact ⟨rfl, rfl⟩
end
section
variable {w : World} {X : TX} {cf : Cfg}
theorem lis3 {n : Led} {x y : PySem.Str} {q : Bool} {vs : List Value} (h : LIs n [.s x, .s y, .b q] vs) : ∃ t1 t2, vs = [.str x t1, .str y t2, .bool q] := by
 cases h using LIs.cons_elim with
 | cons i r =>
  cases r using LIs.cons_elim with
  | cons j r =>
   cases r using LIs.cons_elim with
   | cons k r =>
    obtain ⟨t1, rfl⟩ := i.inv
    obtain ⟨t2, rfl⟩ := j.inv
    obtain rfl := k.inv
    obtain rfl := r.inv
    exact ⟨t1, t2, rfl⟩
theorem offL_al {X : TX} {v : TV} {K : TK} {a : Addr} {o : Obj} {dl rest : Led} (hT : OffT X.A ((a, o) :: (dl ++ rest))) (hL : ∀ p ∈ (a, o) :: dl, ∀ q ∈ rest, p.1 ≠ q.1) (hd : ∀ p ∈ dl, p.1 ≠ a) : ∀ p ∈ tokLed X.A K v ++ (dl ++ rest), p.1 ≠ a := fun p hp => by
 refine xAAAAAAA hT fun o1 o2 o3 o4 o5 o6 o7 o8 => ?_
 rcases List.mem_append.mp hp with h | h
 ·simp only [tokLed, List.mem_cons, List.not_mem_nil, or_false] at h
  rcases h with h | h | h | h | h | h | h | h <;> rw [h]
  ·exact fun e => o1 _ (.head _) e.symm
  ·exact fun e => o2 _ (.head _) e.symm
  ·exact fun e => o3 _ (.head _) e.symm
  ·exact fun e => o4 _ (.head _) e.symm
  ·exact fun e => o5 _ (.head _) e.symm
  ·exact fun e => o6 _ (.head _) e.symm
  ·exact fun e => o7 _ (.head _) e.symm
  ·exact fun e => o8 _ (.head _) e.symm
 ·rcases List.mem_append.mp h with h | h
  ·exact hd p h
  ·exact fun e => hL _ (.head _) p h e.symm
theorem mem_mid {a p : Addr × Obj} {T dl rest : Led} (h : p ∈ T ++ (dl ++ rest)) : p ∈ T ++ ((a :: dl) ++ rest) := (List.mem_append.mp h).elim (fun h => mem_left h) fun h => mem_ends (.tail _ h)
theorem mid_mem {a p : Addr × Obj} {T dl rest : Led} (h : p ∈ T ++ ((a :: dl) ++ rest)) : p = a ∨ p ∈ T ++ (dl ++ rest) := (List.mem_append.mp h).elim (fun h => .inr (mem_left h)) fun h => (List.mem_cons.mp h).imp id fun h => mem_ends h
theorem begin_spec {kd nm : Nat} {D : DA} {K2 K : TK} {k3 : Nat} {v : TV} {rest : Led} (hX : X.dr = DrAt) (hA : X.A.chain) (T : TokG X cf v (dlN K2 D (kindS kd) (chS nm) false k3) rest) (hv : v.draft = .ref D.dt) (q1 : D.dd < D.dt) (q2 : D.dt < D.al) (hb : ∀ p ∈ X.base, p ∈ rest) :
  Spec w 3 (tokLed X.A K v ++ (dlN K2 D (kindS kd) (chS nm) false k3 ++ rest)) 384 [.ref D.dt] (fun r n' => Gro (tokLed X.A K v ++ (dlN K2 D (kindS kd) (chS nm) false k3 ++ rest)) n' ∧ r = .none ∧ tsD X { cf with draft := some ⟨kd, nm, some []⟩ } n') := by
 have hne : ∀ p ∈ tokLed X.A K v ++ ([(D.dt, instObj 415 D.dd), (D.dd, dictOf (drEs K2 D (kindS kd) (chS nm) false) 8)] ++ rest), p.1 ≠ D.al := offL_al T.offT T.offL (List.forall_mem_cons.mpr ⟨Nat.ne_of_lt q2, List.forall_mem_cons.mpr ⟨Nat.ne_of_lt (Nat.lt_trans q1 q2), fun _ h => nomatch h⟩⟩)
 refine Spec.weak (fun _ h => h) (fun r n' zf17 => ?_) (begin_o w D K2 (kindS kd) (chS nm) (k := k3) (B := tokLed X.A K v ++ ([(D.dt, instObj 415 D.dd), (D.dd, dictOf (drEs K2 D (kindS kd) (chS nm) false) 8)] ++ rest)) (mem_ends (.head _)) (mem_ends (.tail _ (.head _))) (fun p hp => mem_mid hp) hne (mem_ends (.head _)))
 refine xEEAA zf17 fun a S' hO ha hK => ?_
 refine xAEA hK fun zq5 il hl zq6 => ?_
 subst zq5
 subst zq6
 obtain rfl := ha.inv
 refine xEA (hO.ob _ (.head _)) fun o1 m1 i1 => ?_
 refine xEA (hO.ob _ (.tail _ (.head _))) fun o2 m2 i2 => ?_
 have nb := hO.nb _ (.head _)
 have h0 := T.offL _ (.head _)
 have ba := hO.ba
 clear hO
 cases i1 using AO.Is.lst_elim with
 | lst k1 i1 =>
 cases i2 using AO.Is.lst_elim with
 | lst k2 i2 =>
 refine xEE (lis3 i1) fun t1 t2 zq7 => ?_
 subst zq7
 cases i2 using LIs.cons_elim with
 | cons i2 i3 =>
 obtain rfl := i2.inv
 obtain rfl := i3.inv
 have T2 : TokG X { cf with draft := some ⟨kd, nm, some []⟩ } v (dlS K2 { D with il := il } (kindS kd) (chS nm) false k2 k1 t1 t2 []) rest :=
  { T with
   draft := by
    rw [hX, hv]
    exact .val { D with il := il } K2 k2 k1 t1 t2 kd nm [] q1 q2 hl
   offL := List.forall_mem_cons.mpr ⟨fun q hq => (nb q (mem_ends (mem_ends hq))).symm, List.forall_mem_cons.mpr ⟨fun q hq => h0 q hq, fun p hp => T.offL p (.tail _ hp)⟩⟩
   offT := offT_app (l := [(il, _)]) (offT_of (K := K) (v := v) (List.forall_mem_cons.mpr ⟨fun q hq => nb q (mem_left hq), fun _ h => nomatch h⟩)) (offT_same T.offT) }
 refine ⟨tokLed X.A K v ++ (dlS K2 { D with il := il } (kindS kd) (chS nm) false k2 k1 t1 t2 [] ++ rest), fun p hp => ?_, fun a k vs h => ?_, rfl, K, v, _, rest, rfl, hA, T2, hb⟩
 ·rcases mid_mem hp with rfl | hp
  ·exact m1
  ·rcases mid_mem hp with rfl | hp
   ·exact m2
   ·exact ba _ hp
 ·exact mem_ends (mem_ends (ts_tup (X.nt T.draft) h))
theorem add_spec {kd nm : Nat} {D : DA} {K2 K : TK} {k3 k4 : Nat} {u1 u3 u5 : Tok} {v : TV} {rest : Led} {ys : List Nat} (hy : ys.length ≤ 12) (hX : X.dr = DrAt) (hA : X.A.chain) (T : TokG X cf v (dlS K2 D (kindS kd) (chS nm) false k3 k4 u1 u3 []) rest) (hv : v.draft = .ref D.dt) (q1 : D.dd < D.dt) (q2 : D.dt < D.al) (q3 : D.al < D.il) (hb : ∀ p ∈ X.base, p ∈ rest) :
  Spec w 3 (tokLed X.A K v ++ (dlS K2 D (kindS kd) (chS nm) false k3 k4 u1 u3 [] ++ rest)) 398 [.ref D.dt, .str (xS ys) u5] (fun r n' => Gro (tokLed X.A K v ++ (dlS K2 D (kindS kd) (chS nm) false k3 k4 u1 u3 [] ++ rest)) n' ∧ r = .none ∧ tsD X { cf with draft := some ⟨kd, nm, some ys⟩ } n') := by
 have hne : ∀ p ∈ tokLed X.A K v ++ ([(D.al, listOf [.ref D.il].toArray k3), (D.dt, instObj 415 D.dd), (D.dd, dictOf (drEs K2 D (kindS kd) (chS nm) false) 8)] ++ rest), p.1 ≠ D.il := offL_al T.offT T.offL (List.forall_mem_cons.mpr ⟨Nat.ne_of_lt q3, List.forall_mem_cons.mpr ⟨Nat.ne_of_lt (Nat.lt_trans q2 q3), List.forall_mem_cons.mpr ⟨Nat.ne_of_lt (Nat.lt_trans q1 (Nat.lt_trans q2 q3)), fun _ h => nomatch h⟩⟩⟩)
 refine Spec.weak (fun _ h => h) (fun r n' zf18 => ?_) (add_o w D K2 (kindS kd) (chS nm) (k := k3) (k1 := k4) (t1 := u1) (t2 := u3) hy (B := tokLed X.A K v ++ ([(D.al, listOf [.ref D.il].toArray k3), (D.dt, instObj 415 D.dd), (D.dd, dictOf (drEs K2 D (kindS kd) (chS nm) false) 8)] ++ rest)) (mem_ends (.tail _ (.head _))) (mem_ends (.tail _ (.tail _ (.head _)))) (mem_ends (.head _)) (fun p hp => mem_mid hp) hne (mem_ends (.head _)))
 refine xEEAA zf18 fun a S' hO ha hK => ?_
 obtain ⟨rfl, rfl⟩ := hK
 obtain rfl := ha.inv
 refine xEA (hO.ob _ (.head _)) fun o1 m1 i1 => ?_
 have ba := hO.ba
 have h0 := T.offL _ (.head _)
 clear hO
 cases i1 using AO.Is.lst_elim with
 | lst k1 i1 =>
 refine xEE (lis3 i1) fun t1 t2 zq8 => ?_
 subst zq8
 have T2 : TokG X { cf with draft := some ⟨kd, nm, some ys⟩ } v (dlS K2 D (kindS kd) (chS nm) false k3 k1 t1 t2 ys) rest :=
  { T with
   draft := by
    rw [hX, hv]
    exact .val D K2 k3 k1 t1 t2 kd nm ys q1 q2 q3
   offL := List.forall_mem_cons.mpr ⟨fun q hq => h0 q hq, fun p hp => T.offL p (.tail _ hp)⟩
   offT := offT_same T.offT }
 refine ⟨tokLed X.A K v ++ (dlS K2 D (kindS kd) (chS nm) false k3 k1 t1 t2 ys ++ rest), fun p hp => ?_, fun a k vs h => ?_, rfl, K, v, _, rest, rfl, hA, T2, hb⟩
 ·rcases mid_mem hp with rfl | hp
  ·exact m1
  ·exact ba _ hp
 ·exact mem_ends (mem_ends (ts_tup (X.nt T.draft) h))
end
section
variable {w : World} {d : Nat} {cs : Scope} {c : FD w d cs} {l : ANs} {X : TX} {cf : Cfg}
theorem s_begin {K : AV → Cfg → Prop} {x : PySem.Str} {xp bp apos p : Pos} {kd nm : Nat} (hX : X.dr = DrAt) (hd : Nat.ble 3 d = true) (hp : methOk [] apos p = true) (e : alook cs l x = some (.r X.A.t)) (hc : cf.draft = some ⟨kd, nm, none⟩) (h : K .n { cf with draft := some ⟨kd, nm, some []⟩ }) : JE (tsD X) c (eval (.Call (.Attribute (.Attribute (.Name x xp) (ofString "draft") bp) (ofString "begin_attr") apos) [] [] p) c.env) l cf K := fun s Q E m n F M N hS k => by
 refine xAA (alook_spec e) fun e1 e2 e3 => ?_
 refine xEA (M _ _ e3) fun tv hv hi => ?_
 (first | obtain rfl := hi.inv | obtain ⟨_, rfl⟩ := hi.inv | cases hi)
 refine xEEEEAAA hS fun TK0 v dl rest zq9 hA T hb => ?_
 subst zq9
 have hdr := T.draft
 rw [hX, hc] at hdr
 refine xEEEAAA (dr_noval hdr) fun D K2 k3 hvd q1 q2 zq10 => ?_
 subst zq10
 refine MethodCall_ (pl := (do return (← importBound (.Attribute (.Name x xp) (ofString "draft") bp) c.env).getD true)) ?_
  (by show (eval (.Attribute (.Name x xp) (ofString "draft") bp) c.env >>= fun ov => standAt apos.atName >>= fun _ => methodCall _ _ _ _ _ _ _ _ _) = _; simp only [meth_form hp])
 have ht : tokGet X.A v (ofString "draft") = some (.ref D.dt) := (show _ = some v.draft from rfl).trans (congrArg some hvd)
 refine Attribute_Name_ (nameX_L F hv (get_359 F c.X N (.head _) (.tail _ (.head _)) (tok_fa ht) (tokGet_spec TK0 ht) rfl ?_) c.hk e2 e1)
 refine meth_415 F c.X N (mem_ends (.tail _ (.head _))) (mem_ends (.tail _ (.tail _ (.head _)))) (fm_415_begin_attr _) (fn_384 _) (by k_get) ?_
 refine callWith_K0 (c.X.keeps F.keep) (kp_384 _) ?_
 exact run_spec hd (begin_spec hX hA T hvd q1 q2 hb) F N fun r n' h' tk' F' N' zf19 => by
  refine xAA zf19 fun g hr hS' => ?_
  subst hr
  exact k _ _ _ _ _ _ F' g N' hS' .n h
theorem s_addbuf {K : AV → Cfg → Prop} {x : PySem.Str} {xp bp apos p xp2 p2 : Pos} {kd nm : Nat} (hX : X.dr = DrAt) (hd : Nat.ble 3 d = true) (hp : methOk [.Attribute (.Name x xp2) (ofString "buffer") p2] apos p = true) (e : alook cs l x = some (.r X.A.t)) (hc : cf.draft = some ⟨kd, nm, some []⟩) (hz : cf.buf.length ≤ 12) (h : K .n { cf with draft := some ⟨kd, nm, some cf.buf⟩ }) : JE (tsD X) c (eval (.Call (.Attribute (.Attribute (.Name x xp) (ofString "draft") bp) (ofString "add_value") apos) [.Attribute (.Name x xp2) (ofString "buffer") p2] [] p) c.env) l cf K := fun s Q E m n F M N hS k => by
 refine xAA (alook_spec e) fun e1 e2 e3 => ?_
 refine xEA (M _ _ e3) fun tv hv hi => ?_
 (first | obtain rfl := hi.inv | obtain ⟨_, rfl⟩ := hi.inv | cases hi)
 refine xEEEEAAA hS fun TK0 v dl rest zq11 hA T hb => ?_
 subst zq11
 have hdr := T.draft
 rw [hX, hc] at hdr
 refine xEEEEEEAAAA (dr_val hdr) fun D K2 k3 k4 u1 u3 hvd q1 q2 q3 zq12 => ?_
 subst zq12
 refine MethodCall_ (pl := (do return (← importBound (.Attribute (.Name x xp) (ofString "draft") bp) c.env).getD true)) ?_
  (by show (eval (.Attribute (.Name x xp) (ofString "draft") bp) c.env >>= fun ov => standAt apos.atName >>= fun _ => methodCall _ _ _ _ _ _ _ _ _) = _; simp only [meth_form hp])
 have ht : tokGet X.A v (ofString "draft") = some (.ref D.dt) := (show _ = some v.draft from rfl).trans (congrArg some hvd)
 have hu : tokGet X.A v (ofString "buffer") = some (.str (xS cf.buf) v.bufT) := (show _ = some (Value.str v.buf v.bufT) from rfl).trans (by rw [T.buf])
 refine Attribute_Name_ (nameX_L F hv (get_359 F c.X N (.head _) (.tail _ (.head _)) (tok_fa ht) (tokGet_spec TK0 ht) rfl ?_) c.hk e2 e1)
 refine meth_415 F c.X N (mem_ends (.tail _ (.tail _ (.head _)))) (mem_ends (.tail _ (.tail _ (.tail _ (.head _))))) (fm_415_add_value _) (fn_398 _) (by k_get) ?_
 refine callWith_K c.X (kp_398 _) (args_cons (Attribute_Name_ (nameX_L F hv (get_359 F c.X N (.head _) (.tail _ (.head _)) (tok_fa hu) (tokGet_spec TK0 hu) rfl (args_nil ⟨c.X.keeps F.keep, ?_⟩)) c.hk e2 e1)) (star_plain rfl)) (star_plain rfl) (noStars _ _ _ rfl)
 exact run_spec hd (add_spec hz hX hA T hvd q1 q2 q3 hb) F N fun r n' h' tk' F' N' zf20 => by
  refine xAA zf20 fun g hr hS' => ?_
  subst hr
  exact k _ _ _ _ _ _ F' g N' hS' .n h
end
end Mine
end
section
open PySem PySem.W PyProof.Rows PySem.Calls
namespace Mine
theorem val_in : ∀ {k : Nat}, k ≤ 4 → ([ofString "attribute value (double-quoted)", ofString "attribute value (single-quoted)", ofString "attribute value (unquoted)"].any fun x => x == backS k) = decide (k < 3)
 | 0, _ => by decide +kernel
 | 1, _ => by decide +kernel
 | 2, _ => by decide +kernel
 | 3, _ => by decide +kernel
 | 4, _ => by decide +kernel
 | k + 5, h => absurd h (by lia)
section
variable {w : World} {X : TX} {cf : Cfg}
theorem in_value_a {K : AV → Cfg → Prop} (hb4 : cf.back ≤ 4) (h : K (.b (decide (cf.back < 3))) cf) : JC (tsD X) w 3 328 [.r X.A.t] cf K := by
 refine jc_body1 (ofString "self") (by k_is) (by k_is) (fun _ _ => BindsTo.of_eq rfl) rfl rfl fun c => z_start ?_
 rw [← val_in hb4] at h
 refine z_retE (os_ts (x := ofString "self") rfl) rfl ?_
 exact h
theorem emit_text_a {xs : List Nat} {K : AV → Cfg → Prop} (hz : cf.out.length + xs.length ≤ 1000) (h : K .n { cf with out := cf.out ++ xs.map chTok }) : JC (tsD X) w 3 278 [.r X.A.t, .s (xS xs)] cf K := by
 refine jc_body2 (ofString "self") (ofString "text") (by k_is) (by k_is) (fun _ _ _ => BindsTo.of_eq rfl) rfl rfl fun c => z_start ?_
 refine z_stmt (x_forS (γ := Unit) (xs := xs) (fun I io => tsD (X.plus I io)) (ts_own X) (fun i _ S => S = { cf with out := cf.out ++ (xs.take i).map chTok }) (fun _ _ _ => [(ofString "self", .r X.A.t)]) () rfl (fun _ => rfl) (e_name rfl ⟨rfl, by rw [List.take_zero, List.map_nil, List.append_nil], .cons rfl .nil⟩) ?_ ?_)
 ·rintro I io _ i _ _ hi rfl
  have et : xs.take (i + 1) = xs.take i ++ [xs.getD i 0] := by
   have e : xs.getD i 0 = xs[i] := by simp [List.getD_eq_getElem?_getD, hi]
   rw [e, List.take_add_one]; simp [hi]
  have hl : (cf.out ++ (xs.take i).map chTok).length ≤ 100000 := by rw [List.length_append, List.length_map, List.length_take]; lia
  refine z_start ?_
  refine z_expr rfl ?_
  refine s_out rfl rfl ?_
  refine e_ev (os_ts (x := ofString "self") rfl) rfl ?_
  refine k_out ‹_› ?_
  refine z_nil ?_
  refine z_end ?_
  have e3 : cf.out ++ (xs.take i).map chTok ++ [chTok (xs.getD i 0)] = cf.out ++ (xs.take (i + 1)).map chTok := by rw [et, List.map_append, ← List.append_assoc]; rfl
  exact ⟨(), congrArg (fun o => ({ cf with out := o } : Cfg)) e3, .cons rfl .nil⟩
 ·rintro _ _ rfl
  rw [List.take_length]
  exact zk_n (z_nil (z_end h))
end
end Mine
end
section
open PySem PySem.W PyProof.Rows PySem.Calls
namespace Mine
section
variable {w : World} {X : TX} {cf : Cfg}
theorem emit_sign_a {x : PySem.Str} {K : AV → Cfg → Prop} (hz : cf.out.length ≤ 100000) (h : K .n { cf with out := cf.out ++ [.tuple [.str (oS "char"), .str x]] }) : JC (tsD X) w 3 271 [.r X.A.t, .s x] cf K := by
 refine jc_body2 (ofString "self") (ofString "sign") (by k_is) (by k_is) (fun _ _ _ => BindsTo.of_eq rfl) rfl rfl fun c => z_start ?_
 refine z_expr rfl ?_
 refine s_out rfl rfl ?_
 refine e_ev (os_ts (x := ofString "self") rfl) rfl ?_
 refine k_out ‹_› ?_
 refine z_nil ?_
 refine z_end ?_
 exact h
theorem wait_a {K : AV → Cfg → Prop} (h : K .n { cf with wait := true }) : JC (tsD X) w 3 321 [.r X.A.t] cf K := by
 refine jc_body1 (ofString "self") (by k_is) (by k_is) (fun _ _ => BindsTo.of_eq rfl) rfl rfl fun c => z_start ?_
 refine z_setA (os_ts (x := ofString "self") rfl) rfl rfl rfl ?_
 refine s_setWait ?_
 refine z_nil ?_
 refine z_end ?_
 exact h
theorem error_a {x : PySem.Str} {K : AV → Cfg → Prop} (hz : cf.errs.length ≤ 100000) (h : K .n { cf with errs := cf.errs ++ [.tuple [.str x, .int ((cf.pos : Int) - 1)]] }) : JC (tsD X) w 3 257 [.r X.A.t, .s x] cf K := by
 refine jc_body2 (ofString "self") (ofString "code") (by k_is) (by k_is) (fun _ _ _ => BindsTo.of_eq rfl) rfl rfl fun c => z_start ?_
 refine z_expr rfl ?_
 refine s_err rfl rfl ?_
 refine e_ev (os_ts (x := ofString "self") rfl) rfl ?_
 refine k_err ‹_› ?_
 refine z_nil ?_
 refine z_end ?_
 exact h
theorem eof_a {K : AV → Cfg → Prop} (hz : cf.out.length ≤ 100000) (h : K .n { cf with out := cf.out ++ [eofTok], done := true }) : JC (tsD X) w 3 292 [.r X.A.t] cf K := by
 refine jc_body1 (ofString "self") (by k_is) (by k_is) (fun _ _ => BindsTo.of_eq rfl) rfl rfl fun c => z_start ?_
 refine z_expr rfl ?_
 refine s_out rfl rfl ?_
 refine e_ev (os_ts (x := ofString "self") rfl) rfl ?_
 refine k_out ‹_› ?_
 refine z_setA (os_ts (x := ofString "self") rfl) rfl rfl rfl ?_
 refine s_setDone ?_
 refine z_nil ?_
 refine z_end ?_
 exact h
theorem to_a {k : Nat} {K : AV → Cfg → Prop} (h : K .n { cf with st := k }) : JC (tsD X) w 3 243 [.r X.A.t, .s (stS k)] cf K := by
 refine jc_body2 (ofString "self") (ofString "state") (by k_is) (by k_is) (fun _ _ _ => BindsTo.of_eq rfl) rfl rfl fun c => z_start ?_
 refine z_setA (os_ts (x := ofString "self") rfl) rfl rfl rfl ?_
 refine s_setState ?_
 refine z_nil ?_
 refine z_end ?_
 exact h
end
section
variable {w : World} {X : TX} {cf : Cfg}
theorem next_a {K : AV → Cfg → Prop} (hz : X.text.length ≤ 100000) (h : K (.s (nextS X.text cf.pos)) { cf with pos := cf.pos + 1 }) : JC (tsD X) w 3 236 [.r X.A.t] cf K := by
 refine jc_body1 (ofString "self") (by k_is) (by k_is) (fun _ _ => BindsTo.of_eq rfl) rfl rfl fun c => z_start ?_
 cases q : decide ((cf.pos : Int) < X.text.length) with
 | true =>
  have q1 := of_decide_eq_true q
  have q2 : (0 : Int) ≤ cf.pos := by lia
  refine z_letE (os_ts (x := ofString "self") rfl) rfl rfl rfl ?_
  refine z_setA (os_ts (x := ofString "self") rfl) rfl rfl rfl ?_
  refine s_setAt rfl ?_
  refine z_if ?_
  refine t_cmp rfl ?_
  refine e_ev (os_ts (x := ofString "self") rfl) rfl ?_
  refine e_bt rfl rfl (os_ts (x := ofString "self") rfl) rfl ?_
  refine s_len ‹_› ?_
  refine o_ltI ?_
  refine bif_T ‹_› ?_
  refine z_ret ?_
  refine e_sub ?_
  refine e_ev (os_ts (x := ofString "self") rfl) rfl ?_
  refine e_ev (os_ts (x := ofString "self") rfl) rfl ?_
  refine s_sign rfl ‹_› ‹_› ‹_› ?_
  rw [nextS_lt (by lia)] at h
  exact h
 | false =>
  have q1 := of_decide_eq_false q
  refine z_letE (os_ts (x := ofString "self") rfl) rfl rfl rfl ?_
  refine z_setA (os_ts (x := ofString "self") rfl) rfl rfl rfl ?_
  refine s_setAt rfl ?_
  refine z_if ?_
  refine t_cmp rfl ?_
  refine e_ev (os_ts (x := ofString "self") rfl) rfl ?_
  refine e_bt rfl rfl (os_ts (x := ofString "self") rfl) rfl ?_
  refine s_len ‹_› ?_
  refine o_ltI ?_
  refine bif_F ‹_› ?_
  refine z_nil ?_
  refine z_retE (os_ts (x := ofString "self") rfl) rfl ?_
  rw [nextS, List.getElem?_eq_none (by lia)] at h
  exact h
theorem take_a {m : Nat} {K : AV → Cfg → Prop} (h : K .n { cf with pos := cf.pos + m }) : JC (tsD X) w 3 314 [.r X.A.t, .i (m : Int)] cf K := by
 refine jc_body2 (ofString "self") (ofString "many") (by k_is) (by k_is) (fun _ _ _ => BindsTo.of_eq rfl) rfl rfl fun c => z_start ?_
 refine z_stmt ?_
 refine x_augA rfl ?_
 refine s_get rfl ?_
 refine e_ev (os_ts (x := ofString "self") rfl) rfl ?_
 refine o_iadd ?_
 refine s_setAt rfl ?_
 refine zk_n ?_
 refine z_nil ?_
 refine z_end ?_
 exact h
theorem again_a {k : Nat} {K : AV → Cfg → Prop} (hp : 0 < cf.pos) (h : K .n { cf with pos := cf.pos - 1, st := k }) : JC (tsD X) w 3 250 [.r X.A.t, .s (stS k)] cf K := by
 refine jc_body2 (ofString "self") (ofString "state") (by k_is) (by k_is) (fun _ _ _ => BindsTo.of_eq rfl) rfl rfl fun c => z_start ?_
 have q : (cf.pos : Int) - 1 = ((cf.pos - 1 : Nat) : Int) := by lia
 refine z_stmt ?_
 refine x_augA rfl ?_
 refine s_get rfl ?_
 refine e_ev (os_ts (x := ofString "self") rfl) rfl ?_
 refine o_isub ?_
 refine s_setAt (by omega) ?_
 refine zk_n ?_
 refine z_setA (os_ts (x := ofString "self") rfl) rfl rfl rfl ?_
 refine s_setState ?_
 refine z_nil ?_
 refine z_end ?_
 exact h
end
section
variable {w : World} {X : TX} {cf : Cfg}
theorem emit_s {x : List Nat} {ds : List Dat} {K : AV → Cfg → Prop} (hn : noL 4 (.tuple (.str (oS "start") :: .str (xS x) :: ds)) = true) (hz : cf.out.length ≤ 100000) (h : K .n { cf with out := cf.out ++ [.tuple (.str (oS "start") :: .str (xS x) :: ds)], last := x }) : JC (tsD X) w 3 264 [.r X.A.t, .d (.tuple (.str (oS "start") :: .str (xS x) :: ds))] cf K := by
 refine jc_body2 (ofString "self") (ofString "token") (by k_is) (by k_is) (fun _ _ _ => BindsTo.of_eq rfl) rfl rfl fun c => z_start ?_
 refine z_ifT (os_ts (x := ofString "self") rfl) rfl rfl ?_
 refine z_setA (os_ts (x := ofString "self") rfl) rfl rfl rfl ?_
 refine s_setLast rfl ?_
 refine z_nil ?_
 refine z_expr rfl ?_
 refine s_out rfl rfl ?_
 refine e_ev (os_ts (x := ofString "self") rfl) rfl ?_
 refine k_out ‹_› ?_
 refine z_nil ?_
 refine z_end ?_
 exact h
theorem emit_o {s0 : PySem.Str} {ds : List Dat} {K : AV → Cfg → Prop} (hs : (s0 == ofString "start") = false) (hn : noL 4 (.tuple (.str s0 :: ds)) = true) (hz : cf.out.length ≤ 100000) (h : K .n { cf with out := cf.out ++ [.tuple (.str s0 :: ds)] }) : JC (tsD X) w 3 264 [.r X.A.t, .d (.tuple (.str s0 :: ds))] cf K := by
 refine jc_body2 (ofString "self") (ofString "token") (by k_is) (by k_is) (fun _ _ _ => BindsTo.of_eq rfl) rfl rfl fun c => z_start ?_
 refine z_ifF (os_ts (x := ofString "self") rfl) rfl ‹_› ?_
 refine z_nil ?_
 refine z_expr rfl ?_
 refine s_out rfl rfl ?_
 refine e_ev (os_ts (x := ofString "self") rfl) rfl ?_
 refine k_out ‹_› ?_
 refine z_nil ?_
 refine z_end ?_
 exact h
end
section
variable {w : World} {X : TX} {cf : Cfg} {x : DX} {f : Bool}
theorem emit_d {dd : Dr} {fl : Bool} {K : AV → Cfg → Prop} (hk : dd.kind ≤ 2) (hz : cf.out.length ≤ 100000) (h : K .n { cf with out := cf.out ++ [drTok dd fl], last := if dd.kind = 1 then [dd.name] else cf.last }) : JC (tsD X) w 3 264 [.r X.A.t, .d (drTok dd fl)] cf K := by
 obtain ⟨k, n, v⟩ := dd
 have hn : ∀ y, noL 4 (.tuple [.str y, .str (chS n), valD v, .bool fl]) = true := fun y => by cases v <;> rfl
 rcases k with _ | _ | _ | k
 ·rw [show drTok ⟨0, n, v⟩ fl = .tuple [.str (kindS 0), .str (chS n), valD v, .bool fl] from if_neg (by simp)] at h ⊢
  exact emit_o (by decide +kernel) (hn _) hz h
 ·rw [show drTok ⟨1, n, v⟩ fl = .tuple [.str (oS "start"), .str (xS [n]), valD v, .bool fl] from if_neg (by simp)] at h ⊢
  exact emit_s (hn _) hz h
 ·rw [show drTok ⟨2, n, v⟩ fl = .tuple [.str (oS "comment"), .str (oS "")] from if_pos rfl] at h ⊢
  exact emit_o (by decide +kernel) rfl hz h
 ·simp only at hk; lia
end
section
variable {w : World} {X : TX} {cf : Cfg}
theorem next_s {ch : Nat} {K : AV → Cfg → Prop} (hz : X.text.length ≤ 100000) (e : X.text[cf.pos]? = some ch) (h : K (.s (chS ch)) { cf with pos := cf.pos + 1 }) : JC (tsD X) w 3 236 [.r X.A.t] cf K := by
 refine next_a hz ?_
 have : nextS X.text cf.pos = chS ch := by unfold nextS; rw [e]
 rw [this]; exact h
theorem next_e {K : AV → Cfg → Prop} (hz : X.text.length ≤ 100000) (e : X.text[cf.pos]? = none) (h : K (.s (ofString "")) { cf with pos := cf.pos + 1 }) : JC (tsD X) w 3 236 [.r X.A.t] cf K := by
 refine next_a hz ?_
 have : nextS X.text cf.pos = ofString "" := by unfold nextS; rw [e]
 rw [this]; exact h
theorem again_n {k : Nat} {K : AV → Cfg → Prop} (hp : 0 < cf.pos) (hk : k ≠ 0) (h : K .n { cf with pos := cf.pos - 1, st := k }) : JC (tsD X) w 3 250 [.r X.A.t, .s (noS k)] cf K := by
 rw [show noS k = stS k from if_neg hk]
 exact again_a hp h
end
end Mine
end
section
open PySem PySem.W PyProof.Rows PySem.Calls
namespace Mine
theorem dat_tup {n : Led} {v : Value} {ds : List Dat} (h : DatIn n v (.tuple ds)) : ∃ a k vs, v = .ref a ∧ (a, tupO vs k) ∈ n ∧ DatAll n vs ds := by
 cases h with
 | tuple m A => exact ⟨_, _, _, rfl, m, A⟩
theorem dat_nil {n : Led} {vs : List Value} (h : DatAll n vs []) : vs = [] := by
 cases h; rfl
theorem dat_cons {n : Led} {vs : List Value} {d : Dat} {ds : List Dat} (h : DatAll n vs (d :: ds)) : ∃ v r, vs = v :: r ∧ DatIn n v d ∧ DatAll n r ds := by
 cases h with
 | cons a r => exact ⟨_, _, rfl, a, r⟩
theorem dat_str {n : Led} {v : Value} {x : PySem.Str} (h : DatIn n v (.str x)) : ∃ t, v = .str x t := by
 cases h; exact ⟨_, rfl⟩
theorem dat_pair {n : Led} {v : Value} {x y : PySem.Str} (h : DatIn n v (.tuple [.str x, .str y])) : ∃ a k t u, v = .ref a ∧ (a, tupO [.str x t, .str y u] k) ∈ n := by
 refine xEEEAA (dat_tup h) fun a k vs e m A => ?_
 refine xEEAA (dat_cons A) fun v1 r e1 h1 A => ?_
 refine xEEAA (dat_cons A) fun v2 r2 e2 h2 A => ?_
 obtain ⟨t, e3⟩ := dat_str h1
 obtain ⟨u, e4⟩ := dat_str h2
 have e5 := dat_nil A
 subst e3 e4 e5 e2 e1
 exact ⟨a, k, t, u, e, m⟩
theorem dat_val {n : Led} {v : Value} {val : Option (List Nat)} (h : DatIn n v (valD val)) : ∃ a, v = .ref a := by
 cases val
 ·refine xEEEAA (dat_tup h) fun a k vs e m A => ?_
  exact ⟨a, e⟩
 ·refine xEEEAA (dat_tup h) fun a k vs e m A => ?_
  exact ⟨a, e⟩
theorem lis_cons {n : Led} {a : AV} {as : List AV} {vs : List Value} (h : LIs n (a :: as) vs) : ∃ v r, vs = v :: r ∧ a.Is n v ∧ LIs n as r := by
 cases h using LIs.cons_elim with
 | cons i r => exact ⟨_, _, rfl, i, r⟩
theorem lis5 {n : Led} {x0 x1 x2 x3 x4 : AV} {vs : List Value} (h : LIs n [x0, x1, x2, x3, x4] vs) : ∃ v0 v1 v2 v3 v4, vs = [v0, v1, v2, v3, v4] ∧ LIs n [x0, x1, x2] [v0, v1, v2] := by
 refine xEEAA (lis_cons h) fun v0 r0 e0 i0 h => ?_
 refine xEEAA (lis_cons h) fun v1 r1 e1 i1 h => ?_
 refine xEEAA (lis_cons h) fun v2 r2 e2 i2 h => ?_
 refine xEEAA (lis_cons h) fun v3 r3 e3 i3 h => ?_
 refine xEEAA (lis_cons h) fun v4 r4 e4 i4 h => ?_
 have e5 := h.inv
 subst e5 e4 e3 e2 e1 e0
 exact ⟨v0, v1, v2, v3, v4, rfl, .cons i0 (.cons i1 (.cons i2 .nil))⟩
section
variable {w : World} {d : Nat} {cs : Scope} {σ : Type} {den : σ → Led → Prop} {c : FD w d cs} {l : ANs} {S : σ} {B : Led}
theorem b_dI {K : AV → σ → Prop} {a b : Addr} {o : Obj} {kvs : List (Int × Value)} {k : Int} {sl : Expr} (hB : BaseOk den B) (hs : slicePlain sl = true) (hp : (a, o) ∈ B) (hd : o.IsDictOf (PySem.intKind PG w) kvs) (hl : valueAt kvs k = some (.ref b)) (h : K (.r b) S) : JO2 den c AV.Is (fun o i => subscriptTail usE sl o i) (.r a) (.i k) l S K := fun s Q E m n x y F M N hS i j kk => by
 (first | obtain rfl := i.inv | obtain ⟨_, rfl⟩ := i.inv | cases i)
 (first | obtain rfl := j.inv | obtain ⟨_, rfl⟩ := j.inv | cases j)
 exact kda_item (knd := PySem.intKind PG w) N (hB _ _ hS _ hp) hd (beq_self_eq_true _) hl (kk _ _ _ _ _ _ F .refl N hS (.r _) h) (sub_plain hs) (fun _ => rfl)
theorem b_lG {K : AV → σ → Prop} {a : Addr} {vs : List Value} {k0 k : Nat} {v : Value} {av : AV} {sl : Expr} (hB : BaseOk den B) (hs : slicePlain sl = true) (hp : (a, listOf vs.toArray k0) ∈ B) (hz : k < 100000) (hv : vs[k]? = some v) (hi : av.Is B v) (h : K av S) : JO2 den c AV.Is (fun o i => subscriptTail usE sl o i) (.r a) (.i (k : Int)) l S K := fun s Q E m n x y F M N hS i j kk => by
 (first | obtain rfl := i.inv | obtain ⟨_, rfl⟩ := i.inv | cases i)
 (first | obtain rfl := j.inv | obtain ⟨_, rfl⟩ := j.inv | cases j)
 exact item_L N (hB _ _ hS _ hp) (Int.natCast_nonneg k) (Int.ofNat_lt.mpr hz) hv (kk _ _ _ _ _ _ F .refl N hS (hi.mono (.of (hB _ _ hS))) h) (sub_plain hs) (fun _ => rfl)
theorem e_slS {K : AV → σ → Prop} {v a b : Expr} {sp p : Pos} {env : Env} (h : JE den c (eval v env) l S fun u S1 => JE den c (eval a env) l S1 fun ia S2 => JE den c (eval b env) l S2 fun jb S3 => ∃ (xs : List Nat) (i j : Nat), u = .s ⟨xs.toArray⟩ ∧ ia = .i (i : Int) ∧ jb = .i (j : Int) ∧ i ≤ j ∧ xs.length ≤ 100000 ∧ K (.s ⟨((xs.drop i).take (j - i)).toArray⟩) S3) : JE den c (eval (.Subscript v (.Slice (some a) (some b) none sp) p) env) l S K := fun s Q E m n F M N hS k =>
 Subscript_ (h s _ E m n F M N hS fun x u S1 n1 h1 t1 F1 g1 N1 hS1 i1 h2 => wpAny_Slice (h2 _ _ E m n1 F1 (M.mono g1) N1 hS1 fun y ia S2 n2 h3 t3 F3 g3 N3 hS3 i3 h4 => h4 _ _ E m n2 F3 (M.mono (g1.trans g3)) N3 hS3 fun z jb S3 n3 h5 t5 F5 g5 N5 hS5 i5 zf => by
  refine xEEEAAAAA zf fun xs i j e1 e2 e3 hij hz h6 => ?_
  subst e1 e2 e3
  (first | obtain rfl := i1.inv | obtain ⟨_, rfl⟩ := i1.inv | cases i1)
  (first | obtain rfl := i3.inv | obtain ⟨_, rfl⟩ := i3.inv | cases i3)
  (first | obtain rfl := i5.inv | obtain ⟨_, rfl⟩ := i5.inv | cases i5)
  exact wpAny_pure (kba_turn (value' := usE) (fun _ => rfl) (slice_keep2 F5 N5 hz hij (fun h' t' k' F' N' _ => k _ _ _ _ _ _ F' ((g1.trans g3).trans g5) N' hS5 (.s _ _) h6) rfl (fun _ => rfl)))))
theorem datTake {n : Led} : ∀ (k : Nat) {vs : List Value} {ds : List Dat}, DatAll n vs ds → DatAll n (vs.take k) (ds.take k)
 | 0, _, _, _ => .nil
 | _ + 1, _, _, .nil => .nil
 | k + 1, _, _, .cons h r => .cons h (datTake k r)
theorem noL_take {k : Nat} {ds : List Dat} (h : noL 4 (.tuple ds) = true) : noL 4 (.tuple (ds.take k)) = true := by
 simp only [noL, List.all_eq_true] at h ⊢
 exact fun x hx => h x (List.mem_of_mem_take hx)
theorem e_sl2 {K : AV → σ → Prop} {v : Expr} {sp p pc : Pos} {kc : Nat} {env : Env} (hT : TupOk den) (h : JE den c (eval v env) l S fun u S1 => ∃ x y z, u = .d (.tuple [x, y, z]) ∧ K (.d (.tuple [x, y])) S1) : JE den c (eval (.Subscript v (.Slice none (some (.Constant (.int 2) kc pc)) none sp) p) env) l S K := fun s Q E m n F M N hS k =>
 Subscript_ (h s _ E m n F M N hS fun x u S1 n1 h1 t1 F1 g1 N1 hS1 i1 h2 => wpAny_Slice (wpAny_pure (wpAny_Constant_int (k := kc) (pos := pc) (wpAny_pure (by
  obtain ⟨a, b, z, e, h2⟩ := h2
  subst e
  cases i1 with
  | d hd hn => cases hd with
   | tuple hm hA =>
    refine kba_turn (value' := usE) (fun _ => rfl) (slice_tup (k := 2) (n := 3) F1 N1 hm hA.length (by decide +kernel) (by decide +kernel) rfl (Nat.le_of_ble_eq_true rfl) (fun D h' F' N' hl => ?_) rfl (fun _ => rfl))
    obtain ⟨n', d1, d2, d3, d4⟩ := hT _ _ _ _ hS1 hl
    exact k _ _ _ n' _ _ F' (g1.trans d4) (fun p hp => N' p (d2 p hp)) d1 (.d (.tuple d3 (datTake 2 (Mine.DatAll.off (fun a k vs q => d4 a k vs q) 4 hA (noL_all hn)))) (noL_take (k := 2) hn)) h2)))))
theorem o_neVal {K : Bool → σ → Prop} {val : Option (List Nat)} (hu : ∀ c : FD w d cs, c.A.units + 64 < cLine) (hv : ∀ b, val = some b → b.length ≤ 12 ∧ ∀ x ∈ b, x < 1114112) (h : K val.isSome S) : CmpK den c .NotEq (.d (valD val)) (.d (.tuple [])) l S K := fun s Q E m n x y F M N hS i j k => by
 obtain ⟨va, e1⟩ := dat_val i.inv.1
 refine xEEEAA (dat_tup j.inv.1) fun b k2 vs e2 m2 A => ?_
 subst e1 e2
 exact ne_val N i.inv.1 (dat_nil A ▸ m2) hv (hu c) (k _ _ _ _ _ _ F .refl N hS rfl h)
theorem o_eqPair {K : Bool → σ → Prop} {k n : Nat} {la : List Nat} (hu : ∀ c : FD w d cs, c.A.units + 64 < cLine) (hk : k ≤ 2) (hn : n = 97 ∨ n = 98) (hl : la = [] ∨ la = [97] ∨ la = [98]) (h : K (decide (k = 0) && decide ([n] = la)) S) : CmpK den c .Eq (.d (.tuple [.str (kindS k), .str (chS n)])) (.d (.tuple [.str (ofString "end"), .str ⟨la.toArray⟩])) l S K := fun s Q E m n0 x y F M N hS i j kk => by
 refine xEEEEA (dat_pair i.inv.1) fun a k1 t u e1 m1 => ?_
 refine xEEEEA (dat_pair j.inv.1) fun b k2 t2 u2 e2 m2 => ?_
 subst e1 e2
 exact eq_pair N m1 m2 hk hn hl (hu c) (kk _ _ _ _ _ _ F .refl N hS rfl h)
theorem e_starts {K : AV → σ → Prop} {x : PySem.Str} {xp apos p : Pos} {e0 : Expr} {xs ys : List Nat} {os : List (PySem.Str × Obs σ)} (hp : methOk [e0] apos p = true) (e : alook cs l x = some (.s ⟨xs.toArray⟩)) (hO : OsT den c l os) (q : evL os cs l S [e0] = some [.s ⟨ys.toArray⟩]) (h : K (.b (decide (ys <+: xs))) S) : JE den c (eval (.Call (.Attribute (.Name x xp) (ofString "startswith") apos) [e0] [] p) c.env) l S K := fun s Q E m n F M N hS k => by
 have hp' := hp
 unfold methOk at hp'
 simp only [List.all_cons, Bool.and_eq_true] at hp'
 refine xAA (alook_spec e) fun e1 e2 e3 => ?_
 refine xEA (M _ _ e3) fun tv hv hi => ?_
 (first | obtain rfl := hi.inv | obtain ⟨_, rfl⟩ := hi.inv | cases hi)
 refine MethodCall_ (pl := (do return (← importBound (.Name x xp) c.env).getD true)) (nameX_L F hv ?_ c.hk e2 e1)
  (by show (eval (.Name x xp) c.env >>= fun ov => standAt apos.atName >>= fun _ => methodCall _ _ _ _ _ _ _ _ _) = _; simp only [meth_form hp])
 refine GM.startswith ?_
 refine callWith_method1 (evL_ok hO q (K := fun as S2 => as = [.s ⟨ys.toArray⟩] ∧ S2 = S) ⟨rfl, rfl⟩ _ _ E m _ F M N hS fun vs as S2 n2 h3 t3 F3 g3 N3 hS3 i3 hk => ?_) (star_plain hp'.1.1.1) (noStars _ _ _ rfl)
 obtain ⟨rfl, rfl⟩ := hk
 cases i3 using LIs.cons_elim with
 | cons i3 i4 =>
  (first | obtain rfl := i4.inv | obtain ⟨_, rfl⟩ := i4.inv | cases i4)
  (first | obtain rfl := i3.inv | obtain ⟨_, rfl⟩ := i3.inv | cases i3)
  exact starts_S (k _ _ _ _ _ _ F3 g3 N3 hS3 (.b _) h)
end
section
variable {w : World} {d : Nat} {cs : Scope} {c : FD w d cs} {l : ANs} {B : Led} {S : OS}
noncomputable def strsA : List AV → Option (List PySem.Str)
 | [] => some []
 | a :: r => match a with
  | .s x => (strsA r).map (x :: ·)
  | _ => none
theorem strsA_ok {n : Led} : ∀ {as : List AV} {ys : List PySem.Str} {vs : List Value}, strsA as = some ys → LIs n as vs → StrsAre vs ys
 | [], _, _, e, .nil => by cases e; exact .nil
 | a :: r, ys, _, e, .cons h q => by
  cases h with
  | s x t =>
   have e : (strsA r).map (x :: ·) = some ys := e
   cases z : strsA r with
   | none => rw [z] at e; cases e
   | some zs => rw [z] at e; cases e; exact .cons _ _ (strsA_ok z q)
  | _ => cases e
theorem o_inL {K : Bool → OS → Prop} {x : PySem.Str} {a : Addr} {as : List AV} {ys : List PySem.Str} (hm : (a, .lst as) ∈ S) (e : strsA as = some ys) (h : K (ys.any (· == x)) S) : CmpK (owD B) c .In (.s x) (.r a) l S K := fun s Q E m n u v F M N hS i1 i2 k => by
 (first | obtain rfl := i1.inv | obtain ⟨_, rfl⟩ := i1.inv | cases i1)
 (first | obtain rfl := i2.inv | obtain ⟨_, rfl⟩ := i2.inv | cases i2)
 refine xEA (hS.ob _ hm) fun o1 m1 q1 => ?_
 cases q1 using AO.Is.lst_elim with
 | lst k1 i1 => exact in_list_strs (N.isList m1) (strsA_ok e i1) (k _ _ _ _ _ _ F .refl N hS rfl h)
theorem e_sl3 {K : AV → OS → Prop} {v : Expr} {sp p pc : Pos} {kc : Nat} {env : Env} (h : JE (owD B) c (eval v env) l S fun u S1 => ∃ a x0 x1 x2 x3 x4, u = .r a ∧ (a, .lst [x0, x1, x2, x3, x4]) ∈ S1 ∧ ∀ D, K (.r D) ((D, .lst [x0, x1, x2]) :: S1)) : JE (owD B) c (eval (.Subscript v (.Slice none (some (.Constant (.int 3) kc pc)) none sp) p) env) l S K := fun s Q E m n F M N hS k =>
 Subscript_ (h s _ E m n F M N hS fun x u S1 n1 h1 t1 F1 g1 N1 hS1 i1 zf => wpAny_Slice (wpAny_pure (wpAny_Constant_int (k := kc) (pos := pc) (wpAny_pure (by
  refine xEEEEEEAA zf fun a x0 x1 x2 x3 x4 e hm h2 => ?_
  subst e
  obtain rfl := i1.inv
  refine xEA (hS1.ob _ hm) fun o1 m1 q1 => ?_
  cases q1 using AO.Is.lst_elim with
  | lst k1 i1 =>
   refine xEEEEEA (lis5 i1) fun v0 v1 v2 v3 v4 e5 i3 => ?_
   subst e5
   exact kba_turn (value' := usE) (fun _ => rfl) (kms_slice_lit F1 N1 (N1.isList m1) .none (.int 3 _) rfl (fun D h' F' N' hl => k _ _ _ _ _ _ F' (g1.trans (.of fun p hp => .tail _ hp)) N' (hS1.new hl (.lst 0 i3)) (.r _) (h2 D)) rfl (fun _ => rfl) (by rw [sizeLine_eq]; simp)))))))
end
end Mine
end
section
open PySem PySem.W PyProof.Rows PySem.Calls
namespace Mine
theorem owD.addL {B : Led} {S : OS} {n : Led} (h : owD B S n) : ∀ {os : Led}, (os.map (·.1)).Nodup → (∀ p ∈ os, ∀ q ∈ n, q.1 < p.1) → owD B S (os ++ n)
 | [], _, _ => h
 | (a, o) :: r, hn, hl => by
  rw [List.map_cons, List.nodup_cons] at hn
  refine (h.addL hn.2 fun p hp => hl p (.tail _ hp)).add fun p hp e => ?_
  rcases List.mem_append.mp hp with hp | hp
  ·exact hn.1 (List.mem_map.mpr ⟨p, hp, e⟩)
  ·exact Nat.ne_of_lt (hl _ (.head _) p hp) e
theorem dats_lis {n : Led} : ∀ {vs : List Value} {xs : List Nat}, DatAll n vs (xs.map chTok) → LIs n (xs.map fun c => AV.d (chTok c)) vs
 | _, [], .nil => .nil
 | _, _ :: _, .cons h r => .cons (.d h (noL_ch _)) (dats_lis r)
section
variable {w : World} {A : Around} {E : Value → Shared → Prop} {s : Shared} {env : Env} {scope : Scope} {cl : List (PySem.Str × Addr)} {C : Addr} {x : PySem.Str}
theorem comp_kind (hx : scope.names.lookup x = some .local) : (compEnvC scope cl C env).kindOf x = some .local := lookup_relabel_local hx
theorem elt_ch {ck : Nat} {cp xp tp : Pos} {tk : Nat} {cc : Nat} {t : Tok} {m₃ : PySem.Str → Option Value} {Q : Value → Shared → Prop} (hk : scope.kind = .function) (hx : scope.names.lookup x = some .local) (hd : (x == ofString "__debug__") = false) (hns : s.heap.Ns C m₃) (hm : m₃ x = some (.str (chS cc) t))
  (h : ∀ t0 k, Q (.ref s.heap.objs.size) { s with heap := s.heap.push (tupO [.str (ofString "char") t0, .str (chS cc) t] 0), toks := k }) : wpAny (model PG w) A (eval (.Tuple [.Constant (.str (ofString "char")) ck cp, .Name x xp] tk tp) (compEnvC scope cl C env)) Q E s :=
 Tuple_ (args_cons (Constant_str (args_cons (wpAny_Name (wpAny_loadName_local (env := compEnvC scope cl C env) hk (comp_kind hx) hns hm (args_nil (wpAny_newTuple (hsz := Nat.le_of_ble_eq_true rfl) (h _ _)))) hd) (star_plain rfl))) (star_plain rfl))
theorem ext_U {h₀ : Heap} {L l b : Addr} {m : PySem.Str → Option Value} {n : Led} {us ws : List Value} {k1 k : Nat} {Q : Value → Shared → Prop} (F : Fr h₀ L s.heap m) (N : News h₀ L s.heap n) (hd : (n.map (·.1)).Nodup) (hl : (l, listOf us.toArray k1) ∈ n) (hb : (b, listOf ws.toArray k) ∈ n) (hz : us.length + ws.length ≤ 10000)
  (h : ∀ h' k', Fr h₀ L h' m → News h₀ L h' (putO l (listOf (us ++ ws).toArray k') n) → Q .none { s with heap := h' }) : wpAny (model PG w) A (call (.builtin "list.extend") [.ref l, .ref b]) Q E s := by
 have hlim : ¬(!us.toArray.isEmpty && Builtin.List.listTooLong (us.toArray.size + ws.toArray.size)) = true := by
  have : Builtin.List.listTooLong (us.toArray.size + ws.toArray.size) = false := by
   unfold Builtin.List.listTooLong
   simp only [List.size_toArray]
   exact decide_eq_false (by rw [sizeLine_eq]; lia)
  rw [this]; simp
 rcases ws with _ | ⟨x, ws⟩
 ·refine kxn_extend (its := us.toArray) (n := k1) F N hb rfl (putO_upd hd hl) hlim (by rw [sizeLine_eq]; simp at hz ⊢; lia) (by rw [sizeLine_eq]; simp at hz ⊢; lia) fun h' F' N' => ?_
  exact h h' k1 F' (by rw [List.append_nil]; exact N')
 ·refine kl_extend (its := us.toArray) (n := k1) (l := us ++ x :: ws) F N hb (by simp) (by simp) (putO_upd hd hl) hlim (by rw [sizeLine_eq]; simp at hz ⊢; lia) (by rw [sizeLine_eq]; simp at hz ⊢; lia) fun h' F' N' => ?_
  exact h h' (k1 + 1) F' N'
end
section
variable {w : World} {d : Nat} {cs : Scope} {c : FD w d cs} {l : ANs} {B : Led} {S : OS}
theorem x_extC {K : AF → ANs → OS → Prop} {o x : PySem.Str} {op apos xp px cp tp lp p ep : Pos} {ck tk : Nat} {iter : Expr} {ifs : List Expr} {scope : Scope} {cl : List (PySem.Str × Addr)} {ou : Addr} (hp : methOk [.ListComp (.Tuple [.Constant (.str (ofString "char")) ck cp, .Name x xp] tk tp) [⟨.Name x px, iter, ifs, 0⟩] scope lp] apos p = true) (e : alook cs l o = some (.r ou)) (hm : ∃ as, (ou, .lst as) ∈ S)
  (hcl : closureFor scope c.env = pure cl) (hcell : (scope.names.all fun y => decide (y.2 ≠ .cell)) = true) (hk : scope.kind = .function) (hnm : (scope.names.all fun y => decide (y.2 = .local → scope.names.lookup y.1 = some .local)) = true) (hx : scope.names.lookup x = some .local) (hd : (x == ofString "__debug__") = false) (hf : ∀ y, foldedSetIterable iter c.env y = pure y)
  (h : JE (owD B) c (eval iter c.env) l S fun u S1 => ∃ (xs : List Nat) (b : Bool) (as : List AV) (S2 : OS), u = .s ⟨xs.toArray⟩ ∧ xs.length ≤ 1000 ∧ as.length ≤ 1000 ∧
   (∀ (C : Addr) (s : Shared) m n, Fr c.h₀ c.L s.heap m → News c.h₀ c.L s.heap n → owD B S1 n → TestOk PG w c.A ifs (compEnvC scope cl C c.env) b s) ∧ SUp ou (.lst as) (.lst (as ++ cond b (xs.map fun ch => AV.d (chTok ch)) [])) S1 S2 ∧ K .nxt l S2) :
  JX (owD B) c (exec (.Expr (.Call (.Attribute (.Name o op) (ofString "extend") apos) [.ListComp (.Tuple [.Constant (.str (ofString "char")) ck cp, .Name x xp] tk tp) [⟨.Name x px, iter, ifs, 0⟩] scope lp] [] p) ep) c.env) l S K := fun s Q E m n F M N hS k => by
 refine xAA (alook_spec e) fun e1 e2 e3 => ?_
 refine xEA (M _ _ e3) fun tv hv hi => ?_
 (first | obtain rfl := hi.inv | obtain ⟨_, rfl⟩ := hi.inv | cases hi)
 obtain ⟨as0, hm⟩ := hm
 refine xEA (hS.ob _ hm) fun o1 m1 q1 => ?_
 cases q1 using AO.Is.lst_elim with
 | lst k1 i1 =>
  refine wpAny_Expr_any (Q := Q) ?_ (by show (_ && _) = false; rw [show (c.env.scope.kind == ScopeKind.module) = false by show (cs.kind == ScopeKind.module) = false; rw [c.hk]; rfl]; rfl) (swap_plain rfl)
  refine MethodCall_ (pl := (do return (← importBound (.Name o op) c.env).getD true)) (nameX_L F hv ?_ c.hk e2 e1)
   (by show (eval (.Name o op) c.env >>= fun ov => standAt apos.atName >>= fun _ => methodCall _ _ _ _ _ _ _ _ _) = _; simp only [meth_form hp])
  refine kl_method N m1 PySem.F.slot_list_extend PySem.F.type_list_extend ?_
  refine callWith_method1 (args_cons ?_ (star_plain rfl)) (star_plain rfl) (noStars _ _ _ rfl)
  refine compF F hcl (fun y hy => by have := List.all_eq_true.mp hcell y hy; simpa using this) hk (fun y hy hl => by have := List.all_eq_true.mp hnm y hy; simp only [decide_eq_true_eq] at this; exact this hl) hx hf ?_
  refine h s _ E m n F M N hS fun v u S1 n1 h1 t1 F1 g1 N1 hS1 i2 zf28 => ?_
  refine xEEEEAAAAA zf28 fun xs b as S2 e4 hz hz2 ht U hK => ?_
  subst e4
  cases i2 using AV.Is.s_elim with
  | s tx =>
   have sz : (⟨xs.toArray⟩ : PySem.Str).cps.size = xs.length := by simp
   refine compStr b (fun i ys os => DatAll os ys (cond b ((xs.take i).map chTok) []) ∧ (os.map (·.1)).Nodup ∧ (∀ p ∈ os, ∃ vs, p.2 = tupO vs 0) ∧ ∀ p ∈ os, ∀ q ∈ n1, q.1 < p.1) rfl (by rw [sz]; lia) F1 N1 ⟨by cases b <;> exact .nil, List.nodup_nil, (fun _ h => nomatch h), fun _ h => nomatch h⟩ ?_ ?_ ?_ ?_
   ·intro C ch t h tk m₃ _ _ F₃ N₃
    exact ht C _ _ _ F₃ N₃ hS1
   ·intro i ys os hb ⟨a1, a2, a3, a4⟩
    subst hb
    exact ⟨a1, a2, a3, a4⟩
   ·intro C i ch t h tk m₃ ys os E' hc hb zf29 hns hm₃ F₃ N₃
    refine xAAA zf29 fun a1 a2 a3 a4 => ?_
    subst hb
    have ei : xs[i]? = some ch := by simpa using hc
    refine elt_ch hk hx hd hns hm₃ fun t0 kk => elt_push rfl ⟨?_, ?_, ?_, ?_⟩
    ·have e2 : (xs.take (i + 1)).map chTok = (xs.take i).map chTok ++ [chTok ch] := by simp [List.take_add_one, ei]
     show DatAll _ _ ((xs.take (i + 1)).map chTok)
     rw [e2]
     exact (a1.mono (fun p hp => List.Mem.tail _ hp)).append (.one (.tuple (.head _) (.cons (.str _ _) (.cons (.str _ _) .nil))))
    ·refine List.nodup_cons.mpr ⟨fun hmm => ?_, a2⟩
     refine xEA (List.mem_map.mp hmm) fun p hp e => ?_
     exact Nat.ne_of_lt (Heap.lt_size (N₃ p (mem_left hp)).1) e
    ·intro p hp
     rcases List.mem_cons.mp hp with e | hp
     ·rw [e]; exact ⟨_, rfl⟩
     ·exact a3 p hp
    ·intro p hp q hq
     rcases List.mem_cons.mp hp with e | hp
     ·rw [e]; exact Heap.lt_size (N₃ q (mem_ends hq)).1
     ·exact a4 p hp q hq
   ·intro D kD h tk ys os zf30 hlt F₃ N₃
    refine xAAA zf30 fun a1 a2 a3 a4 => ?_
    rw [sz, List.take_length] at a1
    have hO := hS1.addL a2 a4
    have hDn : ∀ p ∈ os ++ n1, p.1 ≠ D := fun p hp e => by
     rcases List.mem_append.mp hp with hp | hp
     ·obtain ⟨vs, e2⟩ := a3 p hp
      have g1 := (N₃ _ (.head _)).1
      have g2 := (N₃ p (.tail _ (mem_left hp))).1
      rw [e, g1] at g2
      have g3 := Option.some.inj g2
      rw [e2] at g3
      have := congrArg Obj.cls g3
      simp at this
     ·exact Nat.ne_of_lt (hlt p hp) e
    have hO2 := hO.add (o := listOf ys.toArray kD) hDn
    refine xEA (hO2.ob _ U.mem) fun o2 m2 q2 => ?_
    have gg := fun o' => hO2.gro (o' := o') m2 q2 rfl
    have g2 : Gro n1 ((D, listOf ys.toArray kD) :: (os ++ n1)) := .of fun p hp => .tail _ (mem_ends hp)
    cases q2 using AO.Is.lst_elim with
    | lst k2 i5 =>
     have hys : ys.length ≤ 1000 := by
      rw [a1.length]
      cases b
      ·exact Nat.zero_le _
      ·show (xs.map chTok).length ≤ 1000
       rw [List.length_map]; exact hz
     have hL : LIs ((D, listOf ys.toArray kD) :: (os ++ n1)) (cond b (xs.map fun ch => AV.d (chTok ch)) []) ys := by
      cases b
      ·cases a1; exact .nil
      ·exact dats_lis (DatAll.mono (fun p hp => .tail _ (mem_left hp)) a1)
     refine args_nil (ext_U F₃ N₃ hO2.nd m2 (.head _) (by rw [i5.len]; lia) fun h' k' F' N' => ?_)
     exact k _ _ l S2 m _ h' _ F' ((g1.trans g2).trans (gg _)) (M.mono ((g1.trans g2).trans (gg _))) N' (hO2.put U (.lst _ (i5.app hL)) rfl) .nxt hK
end
end Mine
end
section
open PySem PySem.W PyProof.Rows PySem.Calls
namespace Mine
section
variable {w : World} {d : Nat} {B : Led} {S : OS}
theorem owD.sub {S S' : OS} {n : Led} (h : owD B S n) (s : S'.Sublist S) : owD B S' n :=
 ⟨h.nd, h.ba, fun q hq => h.nb q (s.subset hq), fun q hq => h.ob q (s.subset hq), h.ns.sublist (s.map _)⟩
theorem jc_drop {K : AV → OS → Prop} {f : Addr} {as : List AV} (h : JC (owD B) w d f as S fun a S1 => ∃ S2, List.Sublist S2 S1 ∧ K a S2) : JC (owD B) w d f as S K := fun n vs hS hi =>
 Spec.weak (fun p hp => hp) (fun r n' ⟨g, a, S1, h1, h2, S2, h3, h4⟩ => ⟨n', fun p hp => hp, g, a, S2, h1.sub h3, h2, h4⟩) (h n vs hS hi)
theorem len0 {α : Type} {P : List α → Prop} (k : P []) : ∀ {vs : List α}, vs.length = 0 → P vs
 | [], _ => k
theorem jc_body0 {σ : Type} {den : σ → Led → Prop} {f : Addr} {S : σ} {K : AV → σ → Prop} {oc : Value} {an od : Option Addr} {osl : Array (Option Value)} {name qual : PySem.Str} {params : Arguments} {body : List Stmt} {scope : Scope} {dV kV doc pm cdv ct : Value}
  (ho : (hd.heap_1 w.params).lookup f = some ⟨oc, od, .func (fnOf name qual params body scope dV kV doc pm an cdv ct), osl⟩) (hcd : codeIn (hd.heap_1 w.params) cdv qual = true) (hb : ∀ s, BindsTo s (fnOf name qual params body scope dV kV doc pm an cdv ct) ⟨[], []⟩ []) (hs : scopeOk scope = true)
  (h : ∀ c : FD w d scope, JX den c (execs body c.env) [] S fun fl _ S' => K (retA fl) S') : JC den w (d + 1) f [] S K :=
 jc_body [] ho hcd (fun s vs _ hl => len0 (P := fun vs => BindsTo s (fnOf name qual params body scope dV kV doc pm an cdv ct) ⟨vs, []⟩ ([].zip vs)) (hb s) hl) rfl hs h
end
section
variable {w : World} {d : Nat} {cs : Scope} {σ : Type} {den : σ → Led → Prop} {c : FD w d cs} {l : ANs} {S : σ}
theorem e_g0 {K : AV → σ → Prop} {dd : Nat} {x : PySem.Str} {xp p : Pos} {f : Addr} (B : GName w x (.ref f)) (hx : isGlob cs x = true) (hk : keepIn (hd.heap_1 w.params) (.ref f) = true) (hd : Nat.ble dd d = true) (h : JC den w dd f [] S K) : JE den c (eval (.Call (.Name x xp) [] [] p) c.env) l S K := fun s Q E m n F M N hS k => by
 have T := c.T
 have X := c.X
 refine Call_ ?_ rfl
 refine nameX_K F X (by k_asm) B.e ?_ c.hk (isGlob_spec hx) B.hd
 exact callWith_K0 (c.X.keeps F.keep) hk (c_run hd h s Q E m n [] F M N hS .nil k)
theorem o_addT {K : AV → σ → Prop} {xs ys : List Dat} (hT : TupOk den) (hx : xs.isEmpty = false) (hy : ys.isEmpty = false) (hz : Nat.ble (xs.length + ys.length) 100 = true) (h : K (.d (.tuple (xs ++ ys))) S) : JO2 den c AV.Is (binaryOp .Add) (.d (.tuple xs)) (.d (.tuple ys)) l S K := fun s Q E m n x y F M N hS i j k => by
 cases i with
 | d h1 n1 => cases j with
  | d h2 n2 => cases h1 with
   | tuple m1 A1 => cases h2 with
    | tuple m2 A2 =>
     have e1 := A1.length
     have e2 := A2.length
     refine add_tup F N m1 m2 (fun e => by rw [e] at e1; cases xs; cases hx; cases e1) (fun e => by rw [e] at e2; cases ys; cases hy; cases e2) (by rw [e1, e2]; exact Nat.le_trans (Nat.le_of_ble_eq_true hz) (by decide)) fun D h' F' N' hl => ?_
     obtain ⟨n', d1, d2, d3, d4⟩ := hT _ _ _ _ hS hl
     have hg : ∀ {us dd}, DatAll n us dd → noL 4 (.tuple dd) = true → DatAll n' us dd := fun q hq => DatAll.off (fun a k vs q => d4 a k vs q) 4 q (noL_all hq)
     refine k _ _ _ n' _ _ F' d4 (fun p hp => N' p (d2 p hp)) d1 (.d (.tuple d3 ((hg A1 n1).append (hg A2 n2))) ?_) h
     simp only [noL, List.all_append, Bool.and_eq_true] at n1 n2 ⊢
     exact ⟨n1, n2⟩
end
end Mine
end
section
open PySem PySem.W PyProof.Rows PySem.Calls
namespace Mine
section
theorem strs_lis {n : Led} : ∀ {xs : List Nat} {vs : List Value}, LIs n (xs.map fun c => AV.s (chS c)) vs → StrsAre vs (xs.map fun c => chS c)
 | [], _, .nil => .nil
 | x :: xs, _, h => by
  cases h using LIs.cons_elim with
  | cons i r =>
   obtain ⟨_, rfl⟩ := i.inv
   exact .cons _ _ (strs_lis r)
end
section
variable {w : World} {d : Nat} {cs : Scope} {c : FD w d cs} {s : Shared} {E : Value → Shared → Prop} {Q : Value → Shared → Prop} {scope : Scope} {cl : List (PySem.Str × Addr)} {C : Addr} {m m₃ : PySem.Str → Option Value} {nw : Led}
theorem comp_local {x : PySem.Str} {v : Value} {xp : Pos} {m₃ : PySem.Str → Option Value} (hC : s.heap.Ns C m₃) (hm : m₃ x = some v) (hk : scope.kind = .function) (hx : scope.names.lookup x = some .local) (hb : (x == ofString "__debug__") = false) (h : Q v s) : wpAny (model PG w) c.A (eval (.Name x xp) (compEnvC scope cl C c.env)) Q E s :=
 wpAny_Name (wpAny_loadName_local (env := compEnvC scope cl C c.env) hk (comp_kind hx) hC hm h) hb
theorem comp_b1 {x : PySem.Str} {id : String} {xp p : Pos} {e0 : Expr} (F : Fr c.h₀ c.L s.heap m) (B : BName w x (.builtin id)) (hk : scope.kind = .function) (hx : (compEnvC scope cl C c.env).kindOf x = some .globalImplicit) (hp : starP e0 = true) (h : wpAny (model PG w) c.A (eval e0 (compEnvC scope cl C c.env)) (fun v s1 => wpAny (model PG w) c.A (call (.builtin id) [v]) Q E s1) E s) : wpAny (model PG w) c.A (eval (.Call (.Name x xp) [e0] [] p) (compEnvC scope cl C c.env)) Q E s := by
 have T := c.T
 have X := c.X
 refine Call_ ?_ rfl
 refine Name_function_global (env := compEnvC scope cl C c.env) hk hx (loadGlobal_builtin (env := compEnvC scope cl C c.env) (T.g.keeps F.keep) (mg_none_of X T.g B.e) (T.b.keeps F.keep) ((T.builtins x B.hn).trans B.hv) ?_) B.hd
 exact PyProof.Rows.callWith_builtin1 (args_cons (wpAny_mono h (fun v s1 h1 => args_nil h1) fun _ _ e => e) (star_plain hp)) (star_plain hp) (noStars _ _ _ rfl)
theorem elt_fold {x : PySem.Str} {k1 k2 k3 : Nat} {p1 p2 p3 p4 p5 p6 p7 p8 p9 p10 p11 p12 p13 p14 p15 : Pos} {cc : Nat} {t : Tok} (hk : scope.kind = .function) (hx : scope.names.lookup x = some .local) (hd : (x == ofString "__debug__") = false) (ho : (compEnvC scope cl C c.env).kindOf (ofString "ord") = some .globalImplicit) (hr : (compEnvC scope cl C c.env).kindOf (ofString "chr") = some .globalImplicit)
  (F : Fr c.h₀ c.L s.heap m) (hns : s.heap.Ns C m₃) (hm : m₃ x = some (.str (chS cc) t)) (hcc : cc < 1114112) (h : ∀ t k, Q (.str (chS (lowC cc)) t) { s with toks := k }) :
  wpAny (model PG w) c.A (eval (.IfExp (.Compare (.Constant (.int 64) k1 p1) [.Lt, .Lt] [.Call (.Name (ofString "ord") p2) [.Name x p3] [] p4, .Constant (.int 91) k2 p5] p6) (.Call (.Name (ofString "chr") p7) [.BinOp (.Call (.Name (ofString "ord") p8) [.Name x p9] [] p10) .Add (.Constant (.int 32) k3 p11) p12] [] p13) (.Name x p14) p15) (compEnvC scope cl C c.env)) Q E s := by
 have hO : BName w (ofString "ord") (.builtin "ord") := ⟨gb_ord _, by boot_fast, nn_ord, db_ord⟩
 have hC : BName w (ofString "chr") (.builtin "chr") := ⟨gb_chr _, by boot_fast, nn_chr, db_chr⟩
 have ord : ∀ (k : Nat) {Q' : Value → Shared → Prop} {q1 q2 q3 : Pos}, (∀ t' k', Q' (.int (cc : Int) t') { s with toks := k' }) → wpAny (model PG w) c.A (eval (.Call (.Name (ofString "ord") q1) [.Name x q2] [] q3) (compEnvC scope cl C c.env)) Q' E { s with toks := k } := fun k Q' q1 q2 q3 hq =>
  comp_b1 (m := m) F hO hk ho rfl (comp_local hns hm hk hx hd (PySem.P.ord_of_char (hq _ _)))
 refine IfExp_ (isTrue_chain (wpAny_Constant_int (test_link (ord _ fun t1 j1 => lt_int (wpAny_truthy_bool ?_)))) rfl)
 by_cases ha : (64 : Int) < cc
 ·rw [decide_eq_true ha]
  refine test_last (wpAny_Constant_int (lt_int (wpAny_truthy_bool ?_)))
  by_cases hb : (cc : Int) < 91
  ·rw [decide_eq_true hb]
   have e : lowC cc = ((cc : Int) + 32).toNat := by unfold lowC upB; rw [if_pos (by simp only [Bool.and_eq_true, decide_eq_true_eq]; lia)]; lia
   rw [e] at h
   exact comp_b1 (m := m) F hC hk hr rfl (wpAny_BinOp (ord _ fun t2 j2 => wpAny_Constant_int (add_int (chr_of_range (by lia) (by lia) (h _ _)))))
  ·rw [decide_eq_false hb]
   exact comp_local hns hm hk hx hd ((show lowC cc = cc by unfold lowC upB; rw [if_neg (by simp only [Bool.and_eq_true, decide_eq_true_eq]; lia)]) ▸ h _ _)
 ·rw [decide_eq_false ha]
  exact comp_local hns hm hk hx hd ((show lowC cc = cc by unfold lowC upB; rw [if_neg (by simp only [Bool.and_eq_true, decide_eq_true_eq]; lia)]) ▸ h _ _)
end
section
variable {w : World} {d : Nat} {cs : Scope} {c : FD w d cs} {l : ANs} {B : Led} {S : OS}
theorem e_joinG {K : AV → OS → Prop} {sep : PySem.Str} {k0 : Nat} {cp apos p : Pos} {e0 : Expr} (hs : sep = ⟨#[]⟩) (hp : methOk [e0] apos p = true) (h : JE (owD B) c (eval e0 c.env) l S fun u S1 => ∃ (a : Addr) (xs : List Nat), u = .r a ∧ (a, .lst (xs.map fun c => AV.s (chS c))) ∈ S1 ∧ xs.length ≤ 1000 ∧ K (.s ⟨xs.toArray⟩) S1) : JE (owD B) c (eval (.Call (.Attribute (.Constant (.str sep) k0 cp) (ofString "join") apos) [e0] [] p) c.env) l S K := fun s Q E m n F M N hS k => by
 have hp' := hp
 unfold methOk at hp'
 simp only [List.all_cons, Bool.and_eq_true] at hp'
 refine MethodCall_ (pl := (do return (← importBound (.Constant (.str sep) k0 cp) c.env).getD true)) (Constant_str ?_)
  (by show (eval (.Constant (.str sep) k0 cp) c.env >>= fun ov => standAt apos.atName >>= fun _ => methodCall _ _ _ _ _ _ _ _ _) = _; simp only [meth_form hp])
 refine GM.join ?_
 refine callWith_method1 (args_cons (h _ _ E m n F M N hS fun v u S1 n1 h1 t1 F1 g1 N1 hS1 i1 ⟨a, xs, e, hm, hz, hK⟩ => args_nil ?_) (star_plain hp'.1.1.1)) (star_plain hp'.1.1.1) (noStars _ _ _ rfl)
 subst e
 obtain rfl := i1.inv
 refine xEA (hS1.ob _ hm) fun o m1 q => ?_
 cases q using AO.Is.lst_elim with
 | lst kk r =>
  refine join_listW (ys := xs.map fun c => chS c) (News.isList N1 m1) (strs_lis r) (by rw [hs]; exact Nat.zero_le _) (by rw [sum_ones, List.length_map]; lia) fun t' k' => ?_
  rw [join_ones _ hs]
  exact k _ _ _ _ _ _ F1 g1 N1 hS1 (.s _ _) hK
theorem e_joinL {K : AV → OS → Prop} {a : Addr} {x sep : PySem.Str} {k0 : Nat} {cp xp apos p : Pos} {xs : List Nat} (hs : sep = ⟨#[]⟩) (hp : methOk [.Name x xp] apos p = true) (e : alook cs l x = some (.r a)) (h1 : (a, .lst (xs.map fun c => .s (chS c))) ∈ S) (hz : xs.length ≤ 1000) (h : K (.s ⟨xs.toArray⟩) S) : JE (owD B) c (eval (.Call (.Attribute (.Constant (.str sep) k0 cp) (ofString "join") apos) [.Name x xp] [] p) c.env) l S K :=
 e_joinG hs hp (e_name e ⟨a, xs, rfl, h1, hz, h⟩)
theorem strs_mk {n : Led} {f : Nat → Nat} : ∀ {xs : List Nat} {vs : List Value}, StrsAre vs (xs.map fun c => chS (f c)) → LIs n ((xs.map f).map fun c => AV.s (chS c)) vs
 | [], _, .nil => .nil
 | _ :: _, _, .cons _ _ r => .cons (.s _ _) (strs_mk r)
theorem e_compS {K : AV → OS → Prop} {x : PySem.Str} {px lp : Pos} {elt iter : Expr} {scope : Scope} {cl : List (PySem.Str × Addr)} {xs : List Nat} (f : Nat → Nat)
  (hcl : closureFor scope c.env = pure cl) (hcell : (scope.names.all fun y => decide (y.2 ≠ .cell)) = true) (hk : scope.kind = .function) (hnm : (scope.names.all fun y => decide (y.2 = .local → scope.names.lookup y.1 = some .local)) = true) (hx : scope.names.lookup x = some .local) (hf : ∀ y, foldedSetIterable iter c.env y = pure y) (hz : xs.length ≤ 1000)
  (h : JE (owD B) c (eval iter c.env) l S fun u S1 => u = .s ⟨xs.toArray⟩ ∧ ∀ D, K (.r D) ((D, .lst ((xs.map f).map fun c => AV.s (chS c))) :: S1))
  (he : ∀ (C : Addr) (s : Shared) m m₃ cc t (Q : Value → Shared → Prop) (E : Value → Shared → Prop), cc ∈ xs → Fr c.h₀ c.L s.heap m → s.heap.Ns C m₃ → m₃ x = some (.str (chS cc) t) → (∀ t k, Q (.str (chS (f cc)) t) { s with toks := k }) → wpAny (model PG w) c.A (eval elt (compEnvC scope cl C c.env)) Q E s) :
  JE (owD B) c (eval (.ListComp elt [⟨.Name x px, iter, [], 0⟩] scope lp) c.env) l S K := fun s Q E m n F M N hS k => by
 refine compF F hcl (fun y hy => by have := List.all_eq_true.mp hcell y hy; simpa using this) hk (fun y hy hl => by have := List.all_eq_true.mp hnm y hy; simp only [decide_eq_true_eq] at this; exact this hl) hx hf ?_
 refine h s _ E m n F M N hS fun v u S1 n1 h1 t1 F1 g1 N1 hS1 i2 ⟨e4, hK⟩ => ?_
 subst e4
 cases i2 using AV.Is.s_elim with
 | s tx =>
  have sz : (⟨xs.toArray⟩ : PySem.Str).cps.size = xs.length := by simp
  refine compStr true (fun i ys os => os = [] ∧ StrsAre ys ((xs.take i).map fun c => chS (f c))) rfl (by rw [sz]; lia) F1 N1 ⟨rfl, .nil⟩ (fun _ _ _ _ _ _ _ _ _ _ => testOk_nil) (fun _ _ _ h => nomatch h) ?_ ?_
  ·rintro C i ch t h tk m₃ ys os E' hc - ⟨rfl, hys⟩ hn hm F₁ N₁
   have e1 : xs[i]? = some ch := by simpa using hc
   have e : (xs.take (i + 1)).map (fun c => chS (f c)) = (xs.take i).map (fun c => chS (f c)) ++ [chS (f ch)] := by
    rw [List.take_add_one, e1, List.map_append]; rfl
   exact he C _ m m₃ ch t _ _ (List.mem_of_getElem? e1) F₁ hn hm fun t k => ⟨⟨_, _, rfl, fun _ _ e => e⟩, [], (fun _ h => nomatch h), rfl, by rw [e]; exact hys.append' (.cons _ _ .nil)⟩
  ·rintro D k1 h2 tk2 ys os ⟨rfl, hys⟩ hlt F2 N2
   rw [sz, List.take_length] at hys
   exact k _ _ _ _ _ _ F2 (g1.trans (.of fun p hp => .tail _ hp)) N2 (hS1.new hlt (.lst k1 (strs_mk hys))) (.r _) (hK D)
theorem fold_a {K : AV → OS → Prop} {xs : List Nat} (hl : xs.length ≤ 12) (hc : ∀ c ∈ xs, c < 1114112) (h : K (.s ⟨(xs.map lowC).toArray⟩) S) : JC (owD B) w 5 466 [.s ⟨xs.toArray⟩] S K := by
 refine jc_drop (jc_body1 (ofString "text") (by k_is) (by k_is) (fun _ _ => BindsTo.of_eq rfl) rfl rfl fun c => z_start (z_ret (e_joinG (by decide +kernel) rfl ?_)))
 refine e_compS (xs := xs) lowC (by first | rfl | exact closureFor_none (by decide)) rfl rfl rfl rfl (fun _ => rfl) (by lia) (e_name rfl ⟨rfl, fun D => ⟨D, xs.map lowC, rfl, .head _, by rw [List.length_map]; lia, ?_⟩⟩) fun C s m m₃ cc t Q E hm F hn he k => elt_fold rfl rfl (by decide +kernel) rfl rfl F hn he (hc _ hm) k
 exact ⟨_, .cons _ (.refl S), h⟩
end
section
variable {w : World} {d : Nat} {cs : Scope} {c : FD w d cs} {l : ANs} {B : Led} {S : OS}
theorem lower_text_a {K : AV → OS → Prop} {xs : List Nat} (hl : xs.length ≤ 12) (hc : ∀ c ∈ xs, c < 1114112) (h : K (.s ⟨(xs.map lowC).toArray⟩) S) : JC (owD B) w 5 130 [.s ⟨xs.toArray⟩] S K := by
 refine jc_drop (jc_body1 (ofString "text") (by k_is) (by k_is) (fun _ _ => BindsTo.of_eq rfl) rfl rfl fun c => z_start ?_)
 refine z_let rfl rfl (e_list0 fun D _ => ?_)
 refine z_stmt (x_forS (γ := Unit) (xs := xs) (fun I io => owD ((I, io) :: B)) (ow_own B) (fun i _ S' => S' = (D, .lst (((xs.take i).map lowC).map fun k => .s (chS k))) :: S) (fun _ _ _ => [(ofString "out", .r D), (ofString "text", .s ⟨xs.toArray⟩)]) () rfl (fun _ => rfl) (e_name rfl ⟨rfl, rfl, .of rfl⟩) ?_ ?_)
 ·rintro I io _ i _ _ hi rfl
  have et : xs.take (i + 1) = xs.take i ++ [xs.getD i 0] := by
   have e : xs.getD i 0 = xs[i] := by simp [List.getD_eq_getElem?_getD, hi]
   rw [e, List.take_add_one]; simp [hi]
  have hcc : xs.getD i 0 < 1114112 := by
   have e : xs.getD i 0 = xs[i] := by simp [List.getD_eq_getElem?_getD, hi]
   rw [e]; exact hc _ (List.getElem_mem hi)
  refine z_start (z_expr rfl (e_app rfl rfl ⟨_, .head _⟩ ?_))
  refine e_gt rfl rfl rfl (os_n ow_tup) rfl ?_
  refine lower_a ‹_› ?_
  refine ⟨_, _, .head, by rw [List.length_map, List.length_map, List.length_take]; lia, ?_⟩
  refine z_nil ?_
  refine z_end ?_
  exact ⟨(), by show (D, AO.lst _) :: S = (D, AO.lst (((xs.take (i + 1)).map lowC).map fun k => AV.s (chS k))) :: S; rw [et, List.map_append, List.map_append]; rfl, .of rfl⟩
 ·rintro _ _ rfl
  rw [List.take_length]
  refine zk_n (z_ret (e_joinL (by decide +kernel) rfl rfl (.head _) (by rw [List.length_map]; lia) ?_))
  exact ⟨_, .cons _ (.refl S), h⟩
end
end Mine
end
section
open PySem PySem.W PyProof.Rows PySem.Calls
namespace Mine
section
variable {w : World} {B : Led} {S : OS}
theorem law_backs_j {K : AV → OS → Prop} (h : ∀ a, K (.r a) ((a, .lst [.s (backS 0), .s (backS 1), .s (backS 2), .s (backS 3), .s (backS 4)]) :: S)) : JC (owD B) w 2 447 [] S K := by
 refine jc_drop ?_
 refine jc_body0 (by k_is) (by k_is) (fun _ => BindsTo.of_eq rfl) rfl fun c => z_start ?_
 refine z_let rfl rfl ?_
 refine e_listE (os_n ow_tup) rfl rfl ?_
 with_reducible intro _
 refine z_ret ?_
 refine e_bin ?_
 refine e_ev (os_n ow_tup) rfl ?_
 refine e_listE (os_n ow_tup) rfl rfl ?_
 with_reducible intro _
 (with_reducible refine' o_addL ?q1 ?q2 ?q3 ?_); (case q1 => repeat (first | exact List.Mem.head _ | assumption | refine List.Mem.tail _ ?_)); (case q2 => repeat (first | exact List.Mem.head _ | assumption | refine List.Mem.tail _ ?_)); (case q3 => exact Nat.le_of_ble_eq_true rfl)
 with_reducible intro _
 refine ⟨_, ?_, h _⟩
 exact .cons_cons _ (.cons _ (.cons _ (.refl _)))
end
end Mine
end
section
open PySem PySem.W PyProof.Rows PySem.Calls
namespace Mine
section
variable {w : World} {B : Led} {S : OS}
theorem ltoken_n {K : AV → OS → Prop} {fold : Bool} (h : K .n S) : JC (owD B) w 3 494 [.n, .b fold] S K := by
 refine jc_body2 (ofString "draft") (ofString "is_closing") (by k_is) (by k_is) (fun _ _ _ => BindsTo.of_eq rfl) rfl rfl fun c => z_start ?_
 refine z_ifT (os_n ow_tup) rfl rfl ?_
 refine z_retE (os_n ow_tup) rfl ?_
 exact h
theorem ltoken_s {K : AV → OS → Prop} {fold : Bool} {dd : Dr} (hk : dd.kind ≤ 2) (h : K (.d (drTok dd fold)) S) : JC (owD B) w 3 494 [.d (.tuple [.str (kindS dd.kind), .str (chS dd.name), valD dd.val]), .b fold] S K := by
 refine jc_body2 (ofString "draft") (ofString "is_closing") (by k_is) (by k_is) (fun _ _ _ => BindsTo.of_eq rfl) rfl rfl fun c => z_start ?_
 obtain ⟨k, n, v⟩ := dd
 rcases k with _ | _ | _ | k
 ·have e : (kindS 0 == ofString "comment") = false := by decide +kernel
  refine z_ifF (os_n ow_tup) rfl rfl ?_
  refine z_nil ?_
  refine z_ret ?_
  refine e_ifexp ?_
  refine t_ev (os_n ow_tup) rfl ?_
  refine bif_F rfl ?_
  refine e_bin ?_
  refine e_ev (os_n ow_tup) rfl ?_
  refine e_ev (os_n ow_tup) rfl ?_
  refine o_addT ow_tup rfl rfl rfl ?_
  exact h
 ·have e : (kindS 1 == ofString "comment") = false := by decide +kernel
  refine z_ifF (os_n ow_tup) rfl rfl ?_
  refine z_nil ?_
  refine z_ret ?_
  refine e_ifexp ?_
  refine t_ev (os_n ow_tup) rfl ?_
  refine bif_F rfl ?_
  refine e_bin ?_
  refine e_ev (os_n ow_tup) rfl ?_
  refine e_ev (os_n ow_tup) rfl ?_
  refine o_addT ow_tup rfl rfl rfl ?_
  exact h
 ·have e : (kindS 2 == ofString "comment") = true := by decide +kernel
  refine z_ifF (os_n ow_tup) rfl rfl ?_
  refine z_nil ?_
  refine z_ret ?_
  refine e_ifexp ?_
  refine t_ev (os_n ow_tup) rfl ?_
  refine bif_T rfl ?_
  refine e_ev (os_n ow_tup) rfl ?_
  exact h
 ·simp only at hk; lia
end
end Mine
end
section
open PySem PySem.W PyProof.Rows PySem.Calls
namespace Mine
theorem bindL_loc {k : PySem.Str → Option NameKind} : ∀ {b : List (PySem.Str × Value)} {l : Nms}, (∀ p ∈ b, k p.1 = some .local) → bindL k b (mp l) = mp (b.reverse ++ l)
 | [], _, _ => rfl
 | (x, v) :: r, l, h => by
  have e : bindL k ((x, v) :: r) (mp l) = bindL k r (if k x = some .local then fun y => if y = x then some v else mp l y else mp l) := rfl
  rw [e, if_pos (h _ (.head _)), mp_store, bindL_loc fun p hp => h p (.tail _ hp), List.reverse_cons, List.append_assoc]
  rfl
theorem bindC_loc {k : PySem.Str → Option NameKind} : ∀ {b : List (PySem.Str × Value)} {m : PySem.Str → Option Value}, (∀ p ∈ b, k p.1 = some .local) → bindC k b m = m
 | [], _, _ => rfl
 | (x, v) :: r, m, h => by
  have e : bindC k ((x, v) :: r) m = bindC k r (if k x = some .local then m else fun y => if y = x then some v else m y) := rfl
  rw [e, if_pos (h _ (.head _)), bindC_loc fun p hp => h p (.tail _ hp)]
noncomputable def cellsOk (s : Scope) : Bool := !s.isCoroutine && !s.isGenerator && s.kind == .function && decide (((cellsFrom 0 s.names []).map (·.1)).Nodup)
theorem specF_cells {w : World} {d : Nat} {news : Led} {f : Addr} {as : List AV} {vs : List Value} {K : AV → OS → Prop} {oc : Value} {an od : Option Addr} {osl : Array (Option Value)} {name qual : PySem.Str} {params : Arguments} {body : List Stmt} {scope : Scope} {dV kV doc pm cdv ct : Value} (xs : List PySem.Str) (y1 y2 : PySem.Str) (a1 a2 : Nat → Nat)
  (ho : (hd.heap_1 w.params).lookup f = some ⟨oc, od, .func (fnOf name qual params body scope dV kV doc pm an cdv ct), osl⟩) (hcd : codeIn (hd.heap_1 w.params) cdv qual = true) (hb : ∀ s : Shared, BindsTo s (fnOf name qual params body scope dV kV doc pm an cdv ct) ⟨vs, []⟩ (xs.zip vs)) (hi : LIs news as vs) (hl : (xs.all fun x => decide (scope.names.lookup x = some .local)) = true) (hs : cellsOk scope = true)
  (hc : ∀ L, cellsFrom (L + 1) scope.names [] = [(y1, a1 L), (y2, a2 L)]) (h1 : ∀ L, L < a1 L ∧ L < a2 L ∧ a1 L ≠ a2 L)
  (h : ∀ (c : FD w d scope) (c1 c2 : Addr), c.cl = [(y1, c1), (y2, c2)] → JX (owD news) c (execs body c.env) (xs.zip as).reverse [(c1, .cell0), (c2, .cell0)] fun fl _ S' => K (retA fl) S') :
  SpecF w (d + 1) news f vs fun r new n => ∃ n' a S', (∀ p ∈ n', p ∈ n) ∧ owD news S' n' ∧ a.Is n' r ∧ K a S' := by
 intro mean mg mb dp un gd cn cs a ccd cl outer A₀ base h₀ L m s Q E hB hF hX hN hT hk hd hu hret
 unfold cellsOk at hs
 simp only [Bool.and_eq_true, Bool.not_eq_true', decide_eq_true_eq] at hs
 obtain ⟨⟨⟨hs1, hs2⟩, hs3⟩, hs4⟩ := hs
 have hs3 : scope.kind = .function := by simpa using hs3
 have hloc : ∀ p ∈ xs.zip vs, scope.names.lookup p.1 = some .local := fun p hp => of_decide_eq_true (List.all_eq_true.mp hl _ (List.of_mem_zip hp).1)
 refine wpAny_call ?_
 refine enterCells hB hF hX hN hT rfl rfl hk ho hcd (by show dp < _; lia) (hb s) (List.all_eq_true.mpr fun p hp => by rw [hloc p hp]; rfl) hs4 (fun g' L' h' tk' cells FG' F' N' Y' B' X' T' l1 hG => ?_) hs1 hs2 hs3
 have ek : ∀ p ∈ xs.zip vs, (envOfC qual scope L' f cdv).kindOf p.1 = some .local := hloc
 rw [hc, bindC_loc ek] at Y'
 refine xEEAA Y'.two fun o1 o2 zq1 q1 q2 => ?_
 subst zq1
 have eF : bindL (envOfC qual scope L' f cdv).kindOf (xs.zip vs) (fun _ => none) = mp (xs.zip vs).reverse := by
  have := bindL_loc (l := []) ek
  rw [List.append_nil] at this
  exact this
 rw [eF] at F'
 refine xEAA (dedL N') fun n0 d1 d2 d3 => ?_
 have z1 : ∀ p ∈ news, p.1 < L' := l1
 refine xAA (h1 L') fun y1' y2' y3' => ?_
 have hO : owD news [(a1 L', .cell0), (a2 L', .cell0)] n0 := by
  refine ⟨d1, fun p hp => d3 p (.tail _ (.tail _ hp)), fun q hq p hp => ?_, fun q hq => ?_, ?_⟩
  ·have := z1 p hp
   rcases List.mem_cons.mp hq with e | hq
   ·rw [e]; exact Nat.ne_of_lt (Nat.lt_trans this y1')
   ·rw [List.mem_singleton.mp hq]; exact Nat.ne_of_lt (Nat.lt_trans this y2')
  ·rcases List.mem_cons.mp hq with e | hq
   ·rw [e]; exact ⟨o1, d3 _ (.head _), .cell0 q1⟩
   ·rw [List.mem_singleton.mp hq]; exact ⟨o2, d3 _ (.tail _ (.head _)), .cell0 q2⟩
  ·exact List.nodup_cons.mpr ⟨fun hm => y3' (List.mem_singleton.mp hm), List.nodup_cons.mpr ⟨(fun hm => nomatch hm), List.nodup_nil⟩⟩
 have hM := ((PIs.zip xs hi).rev.names).mono (n' := n0) (.of fun p hp => d3 p (.tail _ (.tail _ hp)))
 refine h ⟨mean, mg, mb, dp + 1, un + 3, gd, qual, f, cdv, cellsFrom (L' + 1) scope.names [], envX cn cs L a ccd cl :: outer, _, base, g', L', B', X', T', hs3, by lia, by lia⟩ _ _ (hc L') { s with heap := h', toks := tk' } _ _ _ n0 F' hM ?_ hO ?_
 ·exact fun p hp => N' p (d2 p hp)
 exact fun fl b l' S' m' n' h2 tk F2 g2 M2 N2 hS2 i2 hK => leaveK_ F2 N2 fun F3 N3 => by
   have hn : ∀ p ∈ n', p ∈ n'.filter (fun p => decide (p.1 ∉ news.map (·.1))) ++ news := fun p hp => by
    by_cases z : p.1 ∈ news.map (·.1)
    ·refine xEA (List.mem_map.mp z) fun u hu e => ?_
     refine mem_ends ?_
     have e2 := nd_eq hS2.nd (a := p.1) (o := p.2) (o' := u.2) hp (by have := hS2.ba u hu; rw [← e]; exact this)
     have : u = p := Prod.ext e e2.symm
     exact this ▸ hu
    ·exact mem_left (List.mem_filter.mpr ⟨hp, decide_eq_true z⟩)
   refine hret _ (n'.filter fun p => decide (p.1 ∉ news.map (·.1))) _ _ F3 (fun p hp => ?_) (keepAll hG F2 hN N2 hS2.ba) (fun p hp => ?_) ?_
   ·rcases List.mem_append.mp hp with hp | hp
    ·exact N3 p (List.mem_filter.mp hp).1
    ·exact N3 p (hS2.ba p hp)
   ·obtain ⟨hp, hq⟩ := List.mem_filter.mp hp
    have hq := of_decide_eq_true hq
    cases e : s.heap.get? p.1 with
    | none => rfl
    | some o =>
     have := hG p.1 o e hq
     rw [(N2 p hp).2.2] at this
     cases this
   ·cases i2 with
    | nxt => exact ⟨n', _, S', hn, hS2, .n, hK⟩
    | ret i2 => exact ⟨n', _, S', hn, hS2, i2, hK⟩
end Mine
end
section
open PySem PySem.W PyProof.Rows PySem.Calls
namespace Mine
section
variable {w : World} {d : Nat} {cs : Scope} {σ : Type} {den : σ → Led → Prop} {c : FD w d cs} {l : ANs} {S : σ} {B : Led}
theorem x_sub {K : AF → ANs → σ → Prop} {t : Sem Flow} {l1 : ANs} {S1 : σ} (h : JX den c t l S fun f l' S' => f = .nxt ∧ SubL l' l1 ∧ S' = S1) (h2 : K .nxt l1 S1) : JX den c t l S K := fun s Q E m n F M N hS k => h s Q E m n F M N hS fun v b l' S' m' n' h' tk' F' g' M' N' hS' i' zf43 => by
 refine xAA zf43 fun e1 e2 e3 => ?_
 subst e1 e3
 exact k v .nxt l1 _ m' n' h' tk' F' g' (M'.sub e2.sub) N' hS' i' h2
theorem z_cut {K : AF → ANs → σ → Prop} {st : Stmt} {r : List Stmt} {bs : List (List Stmt)} (l1 : ANs) (S1 : σ) (h1 : JX den c (exec st c.env) l S fun f l' S' => f = .nxt ∧ SubL l' l1 ∧ S' = S1) (h2 : JZ den c (r :: bs) l1 S1 K) : JZ den c ((st :: r) :: bs) l S K := z_stmt (x_sub h1 h2)
theorem z_sub {K : AF → ANs → σ → Prop} {b : List Stmt} {bs : List (List Stmt)} {l1 : ANs} (hl : SubL l l1) (h : JZ den c (b :: bs) l1 S K) : JZ den c (b :: bs) l S K := fun s Q E m n F M N hS k => h s Q E m n F (M.sub hl.sub) N hS k
theorem b_cut {K : Bool → σ → Prop} {t : Sem Bool} (b : Bool) (h : JB den c t l S fun q S' => q = b ∧ S' = S) (h2 : K b S) : JB den c t l S K := fun s Q E m n F M N hS k => h s Q E m n F M N hS fun v q S' n' h' tk' F' g' N' hS' i' ⟨e1, e2⟩ => by
 subst e1 e2
 exact k v _ _ n' h' tk' F' g' N' hS' i' h2
theorem e_cut {K : AV → σ → Prop} {t : Sem Value} (a : AV) (h : JE den c t l S fun q S' => q = a ∧ S' = S) (h2 : K a S) : JE den c t l S K := fun s Q E m n F M N hS k => h s Q E m n F M N hS fun v q S' n' h' tk' F' g' N' hS' i' ⟨e1, e2⟩ => by
 subst e1 e2
 exact k v _ _ n' h' tk' F' g' N' hS' i' h2
theorem clo {scope : Scope} {L cl' : List (PySem.Str × Addr)} (h : c.cl = L) (e : closureFor scope (envX c.cn cs c.L c.a c.ccd L) = pure cl') : closureFor scope c.env = pure cl' := by rw [← h] at e; exact e
end
section
variable {w : World} {d : Nat} {cs : Scope} {c : FD w d cs} {l : ANs} {B : Led} {S : OS}
theorem test_nin {scope : Scope} {cl : List (PySem.Str × Addr)} {C : Addr} {x y X : PySem.Str} {xp yp p : Pos} {ca cv va : Addr} {as : List AV} {ys : List PySem.Str} {b : Bool} (hk : scope.kind = .function) (hx : (compEnvC scope cl C c.env).kindOf x = some .cell) (hy : (compEnvC scope cl C c.env).kindOf y = some .cell) (hc : cl.lookup x = some ca) (hv : cl.lookup y = some cv)
  (dx : (x == ofString "__debug__") = false) (dy : (y == ofString "__debug__") = false) (m1 : (ca, .cell (.s X)) ∈ S) (m2 : (cv, .cell (.r va)) ∈ S) (m3 : (va, .lst as) ∈ S) (e : strsA as = some ys) (hb : (!(ys.any (· == X))) = b) {s : Shared} {n : Led} (N : News c.h₀ c.L s.heap n) (hS : owD B S n) :
  TestOk PG w c.A [.Compare (.Name x xp) [.NotIn] [.Name y yp] p] (compEnvC scope cl C c.env) b s := by
 refine xEA (hS.ob _ m1) fun o1 h1 q1 => ?_
 refine xEA (hS.ob _ m2) fun o2 h2 q2 => ?_
 refine xEA (hS.ob _ m3) fun o3 h3 q3 => ?_
 refine testOk_one fun Q E hq => ?_
 cases q1 using AO.Is.cell_elim with
 | cell e1 i1 => (first | obtain rfl := i1.inv | obtain ⟨_, rfl⟩ := i1.inv | cases i1); cases q2 using AO.Is.cell_elim with
  | cell e2 i2 => (first | obtain rfl := i2.inv | obtain ⟨_, rfl⟩ := i2.inv | cases i2); cases q3 using AO.Is.lst_elim with
   | lst k3 i3 =>
    refine wpAny_isTrue_Compare1 (wpAny_Name (wpAny_loadName_cell hk hx hc ⟨o1, N.get h1, e1⟩ (wpAny_Name (wpAny_loadName_cell hk hy hv ⟨o2, N.get h2, e2⟩ ?_) dy)) dx) rfl
    exact notin_list_strs (N.isList h3) (strsA_ok e i3) (wpAny_truthy_bool (hb ▸ hq _))
theorem exL {a : Addr} {xs : List AV} (h : (a, AO.lst xs) ∈ S) : ∃ xs, (a, AO.lst xs) ∈ S := ⟨xs, h⟩
theorem cupI {P : OS → Prop} {ca : Addr} {a : AV} {S2 : OS} (U : CUp ca a S S2) (h : P S2) : ∃ S2, CUp ca a S S2 ∧ P S2 := ⟨S2, U, h⟩
theorem map_snoc {α β : Type} {f : α → β} {xs : List α} {y : α} : (xs ++ [y]).map f = xs.map f ++ [f y] := List.map_append
theorem sup_ext {a : Addr} {out : List Dat} {ys : List Nat} {S2 : OS} (U : SUp a (.lst (out.map .d)) (.lst ((out ++ ys.map chTok).map .d)) S S2) : SUp a (.lst (out.map .d)) (.lst (out.map .d ++ cond true (ys.map fun ch => AV.d (chTok ch)) [])) S S2 := by
 rw [List.map_append, List.map_map] at U
 exact U
theorem sup_ext0 {a : Addr} {as xs : List AV} {S2 : OS} (U : SUp a (.lst as) (.lst as) S S2) : SUp a (.lst as) (.lst (as ++ cond false xs [])) S S2 := by
 show SUp a (.lst as) (.lst (as ++ [])) S S2
 rw [List.append_nil]
 exact U
theorem ext_i {u : AV} {T : Bool → Prop} {P : OS → Prop} {ou : Addr} {xs : List Nat} {b : Bool} {as : List AV} {S2 : OS} (h1 : u = .s ⟨xs.toArray⟩) (h2 : xs.length ≤ 1000) (h3 : as.length ≤ 1000) (h4 : T b) (U : SUp ou (.lst as) (.lst (as ++ cond b (xs.map fun ch => AV.d (chTok ch)) [])) S S2) (h : P S2) : ∃ (xs : List Nat) (b : Bool) (as : List AV) (S2 : OS), u = .s ⟨xs.toArray⟩ ∧ xs.length ≤ 1000 ∧ as.length ≤ 1000 ∧ T b ∧ SUp ou (.lst as) (.lst (as ++ cond b (xs.map fun ch => AV.d (chTok ch)) [])) S S2 ∧ P S2 := ⟨xs, b, as, S2, h1, h2, h3, h4, U, h⟩
theorem appD {K : AV → OS → Prop} {a : Addr} {x : Dat} {xs : List Dat} {S2 : OS} (U : SUp a (.lst (xs.map .d)) (.lst ((xs ++ [x]).map .d)) S S2) (hz : xs.length ≤ 100000) (h : K .n S2) : AppK S a (.d x) K := ⟨xs.map .d, S2, map_snoc (f := AV.d) ▸ U, by rw [List.length_map]; exact hz, h⟩
end
end Mine
end
section
open PySem PySem.W PyProof.Rows PySem.Calls
namespace Mine
section
variable {w : World} {X : TX} {cf : Cfg}
theorem deed0 {ch : Nat} {test : Int} {word kind back yes no : PySem.Str} {fold : Bool} {K : AV → Cfg → Prop} (hch : ch < 1114112) (hz : cf.out.length ≤ 100000) (h : K .n { cf with out := cf.out ++ [chTok (lowC ch)] }) : JC (tsD X) w 7 480 [.r X.A.t, .s (chS ch), .d (.tuple [.int test, .str word, .bool fold, .int 0, .str kind, .str back, .str yes, .str no])] cf K := by
 refine jc_body3 (ofString "t") (ofString "c") (ofString "row") (by k_is) (by k_is) (fun _ _ _ _ => BindsTo.of_eq rfl) rfl rfl fun c => z_start ?_
 refine z_stmt ?_
 refine x_unpack (fun _ _ _ => rfl) rfl rfl (fun _ _ => rfl) (fun _ => ⟨rfl, rfl⟩) ?_
 refine e_ev (os_ts (x := ofString "t") rfl) rfl ?_
 refine unpK_i rfl (by repeat' constructor) (by repeat' constructor) ?_
 refine zk_n ?_
 refine z_let rfl rfl ?_
 refine e_sub ?_
 refine e_ev (os_ts (x := ofString "t") rfl) rfl ?_
 refine e_bin ?_
 refine e_bt rfl rfl (os_ts (x := ofString "t") rfl) rfl ?_
 refine o_ord ?_
 refine e_ev (os_ts (x := ofString "t") rfl) rfl ?_
 refine o_mod rfl ?_
 refine o_ab rfl ?_
 refine z_ifT (os_ts (x := ofString "t") rfl) rfl rfl ?_
 refine z_expr rfl ?_
 refine e_mtJ rfl rfl rfl rfl ?_
 refine l_cons rfl ?_
 refine e_gt rfl rfl rfl (os_ts (x := ofString "t") rfl) rfl ?_
 refine lower_a ‹_› ?_
 refine l_nil ?_
 refine emit_sign_a ‹_› ?_
 refine z_nil ?_
 refine z_nil ?_
 refine z_end ?_
 exact h
theorem deed1 {ch : Nat} {test : Int} {word kind back yes no : PySem.Str} {fold : Bool} {K : AV → Cfg → Prop} (hz : cf.out.length + (cf.buf ++ [ch]).length ≤ 1000) (hz1 : cf.errs.length ≤ 100000) (hb : cf.buf.length + [ch].length ≤ 100000) (h : K .n { cf with errs := cf.errs ++ [errTok "odd" ((cf.pos : Int) - 1)], out := cf.out ++ (cf.buf ++ [ch]).map chTok }) : JC (tsD X) w 7 480 [.r X.A.t, .s (chS ch), .d (.tuple [.int test, .str word, .bool fold, .int 1, .str kind, .str back, .str yes, .str no])] cf K := by
 refine jc_body3 (ofString "t") (ofString "c") (ofString "row") (by k_is) (by k_is) (fun _ _ _ _ => BindsTo.of_eq rfl) rfl rfl fun c => z_start ?_
 refine z_stmt ?_
 refine x_unpack (fun _ _ _ => rfl) rfl rfl (fun _ _ => rfl) (fun _ => ⟨rfl, rfl⟩) ?_
 refine e_ev (os_ts (x := ofString "t") rfl) rfl ?_
 refine unpK_i rfl (by repeat' constructor) (by repeat' constructor) ?_
 refine zk_n ?_
 refine z_let rfl rfl ?_
 refine e_sub ?_
 refine e_ev (os_ts (x := ofString "t") rfl) rfl ?_
 refine e_bin ?_
 refine e_bt rfl rfl (os_ts (x := ofString "t") rfl) rfl ?_
 refine o_ord ?_
 refine e_ev (os_ts (x := ofString "t") rfl) rfl ?_
 refine o_mod rfl ?_
 refine o_ab rfl ?_
 refine z_ifF (os_ts (x := ofString "t") rfl) rfl rfl ?_
 refine z_ifT (os_ts (x := ofString "t") rfl) rfl rfl ?_
 refine z_expr rfl ?_
 refine e_mt rfl rfl rfl rfl rfl ?_
 refine error_a ‹_› ?_
 refine z_expr rfl ?_
 refine e_mtJ rfl rfl rfl rfl ?_
 refine l_cons rfl ?_
 refine e_bin ?_
 refine e_ev (os_ts (x := ofString "t") rfl) rfl ?_
 refine e_ev (os_ts (x := ofString "t") rfl) rfl ?_
 refine o_addS ‹_› ?_
 refine l_nil ?_
 refine emit_text_a ‹_› ?_
 refine z_nil ?_
 refine z_nil ?_
 refine z_nil ?_
 refine z_end ?_
 exact h
theorem deed4 {ch : Nat} {test : Int} {word kind back yes no : PySem.Str} {fold : Bool} {K : AV → Cfg → Prop} (hz : cf.out.length ≤ 100000) (h : K .n { cf with out := cf.out ++ [startTok (nameOf ch)], last := [nameOf ch] }) : JC (tsD X) w 7 480 [.r X.A.t, .s (chS ch), .d (.tuple [.int test, .str word, .bool fold, .int 4, .str kind, .str back, .str yes, .str no])] cf K := by
 refine jc_body3 (ofString "t") (ofString "c") (ofString "row") (by k_is) (by k_is) (fun _ _ _ _ => BindsTo.of_eq rfl) rfl rfl fun c => z_start ?_
 refine z_stmt ?_
 refine x_unpack (fun _ _ _ => rfl) rfl rfl (fun _ _ => rfl) (fun _ => ⟨rfl, rfl⟩) ?_
 refine e_ev (os_ts (x := ofString "t") rfl) rfl ?_
 refine unpK_i rfl (by repeat' constructor) (by repeat' constructor) ?_
 refine zk_n ?_
 refine z_let rfl rfl ?_
 refine e_sub ?_
 refine e_ev (os_ts (x := ofString "t") rfl) rfl ?_
 refine e_bin ?_
 refine e_bt rfl rfl (os_ts (x := ofString "t") rfl) rfl ?_
 refine o_ord ?_
 refine e_ev (os_ts (x := ofString "t") rfl) rfl ?_
 refine o_mod rfl ?_
 refine o_ab rfl ?_
 refine z_ifF (os_ts (x := ofString "t") rfl) rfl rfl ?_
 refine z_ifF (os_ts (x := ofString "t") rfl) rfl rfl ?_
 refine z_ifF (os_ts (x := ofString "t") rfl) rfl rfl ?_
 refine z_ifF (os_ts (x := ofString "t") rfl) rfl rfl ?_
 refine z_ifT (os_ts (x := ofString "t") rfl) rfl rfl ?_
 refine z_expr rfl ?_
 refine e_mt rfl rfl rfl rfl rfl ?_
 refine emit_s rfl ‹_› ?_
 refine z_nil ?_
 refine z_nil ?_
 refine z_nil ?_
 refine z_nil ?_
 refine z_nil ?_
 refine z_nil ?_
 refine z_end ?_
 exact h
end
section
variable {w : World} {X : TX} {cf : Cfg}
theorem deed2 {ch bk : Nat} {test : Int} {word kind yes no : PySem.Str} {fold : Bool} {K : AV → Cfg → Prop} {to xa : Addr} {so tobj : Obj} {kvs : List (PySem.Str × Value)} {kvt : List (Int × Value)} {xk : Nat} {xt : Tok} (hso : (X.A.sa, so) ∈ X.base) (hsd : so.IsDictOf (PySem.strKind PG w) kvs) (hkt : valueAt kvs (ofString "told") = some (.ref to)) (htm : (to, tobj) ∈ X.base) (htd : tobj.IsDictOf (PySem.intKind PG w) kvt) (hkc : valueAt kvt (ch : Int) = some (.ref xa)) (hxm : (xa, listOf (toldVs ch xt).toArray xk) ∈ X.base)
  (hm : IntMulOk cf.code 16) (hb : cf.buf.length + [ch].length ≤ 100000) (h : K .n { cf with buf := cf.buf ++ [ch], back := bk, code := cf.code * 16 + valC ch }) : JC (tsD X) w 7 480 [.r X.A.t, .s (chS ch), .d (.tuple [.int test, .str word, .bool fold, .int 2, .str kind, .str (backS bk), .str yes, .str no])] cf K := by
 refine jc_body3 (ofString "t") (ofString "c") (ofString "row") (by k_is) (by k_is) (fun _ _ _ _ => BindsTo.of_eq rfl) rfl rfl fun c => z_start ?_
 refine z_stmt ?_
 refine x_unpack (fun _ _ _ => rfl) rfl rfl (fun _ _ => rfl) (fun _ => ⟨rfl, rfl⟩) ?_
 refine e_ev (os_ts (x := ofString "t") rfl) rfl ?_
 refine unpK_i rfl (by repeat' constructor) (by repeat' constructor) ?_
 refine zk_n ?_
 refine z_let rfl rfl ?_
 refine e_sub ?_
 refine e_ev (os_ts (x := ofString "t") rfl) rfl ?_
 refine e_bin ?_
 refine e_bt rfl rfl (os_ts (x := ofString "t") rfl) rfl ?_
 refine o_ord ?_
 refine e_ev (os_ts (x := ofString "t") rfl) rfl ?_
 refine o_mod rfl ?_
 refine o_ab rfl ?_
 refine z_ifF (os_ts (x := ofString "t") rfl) rfl rfl ?_
 refine z_ifF (os_ts (x := ofString "t") rfl) rfl rfl ?_
 refine z_ifT (os_ts (x := ofString "t") rfl) rfl rfl ?_
 refine z_stmt ?_
 refine x_assignA rfl rfl ?_
 refine e_bin ?_
 refine e_ev (os_ts (x := ofString "t") rfl) rfl ?_
 refine e_ev (os_ts (x := ofString "t") rfl) rfl ?_
 refine o_addS ‹_› ?_
 refine s_setBuf rfl ?_
 refine zk_n ?_
 refine z_setA (os_ts (x := ofString "t") rfl) rfl rfl rfl ?_
 refine s_setBack ?_
 refine z_stmt ?_
 refine x_assignA rfl rfl ?_
 refine e_bin ?_
 refine e_bin ?_
 refine e_ev (os_ts (x := ofString "t") rfl) rfl ?_
 refine e_ev (os_ts (x := ofString "t") rfl) rfl ?_
 refine o_mul ‹_› ?_
 refine e_sub ?_
 refine e_sub ?_
 refine e_sub ?_
 refine e_ev (os_ts (x := ofString "t") rfl) rfl ?_
 refine e_ev (os_ts (x := ofString "t") rfl) rfl ?_
 refine s_dS rfl ‹_› ‹_› ‹_› ?_
 refine e_bt rfl rfl (os_ts (x := ofString "t") rfl) rfl ?_
 refine o_ord ?_
 refine s_dI rfl ‹_› ‹_› ‹_› ?_
 refine e_ev (os_ts (x := ofString "t") rfl) rfl ?_
 refine s_lI rfl ‹_› rfl rfl (fun _ => .i _ _) ?_
 refine o_add ?_
 refine s_setCode ?_
 refine zk_n ?_
 refine z_nil ?_
 refine z_nil ?_
 refine z_nil ?_
 refine z_nil ?_
 refine z_end ?_
 exact h
end
section
variable {w : World} {X : TX} {cf : Cfg}
theorem flush_a {kd nm : Nat} {K : AV → Cfg → Prop} (hX : X.dr = DrAt) (hc : cf.draft = some ⟨kd, nm, some []⟩) (hb4 : cf.back ≤ 4) (hq : decide (cf.back < 3) = true) (hz : cf.buf.length ≤ 12) (h : K .n { cf with draft := some ⟨kd, nm, some cf.buf⟩, buf := [] }) : JC (tsD X) w 5 335 [.r X.A.t] cf K := by
 refine jc_body1 (ofString "self") (by k_is) (by k_is) (fun _ _ => BindsTo.of_eq rfl) rfl rfl fun c => z_start ?_
 have he : ofString "" = xS [] := by decide +kernel
 refine z_if ?_
 refine t_plain rfl ?_
 refine e_mt rfl rfl rfl rfl rfl ?_
 refine in_value_a ‹_› ?_
 refine o_truthy ?_
 refine bif_T ‹_› ?_
 refine z_expr rfl ?_
 refine s_addbuf ‹_› rfl rfl rfl ‹_› ‹_› ?_
 refine z_nil ?_
 refine z_setA (os_ts (x := ofString "self") rfl) rfl rfl rfl ?_
 refine s_setBuf rfl ?_
 refine z_nil ?_
 refine z_end ?_
 exact h
theorem flush_b {K : AV → Cfg → Prop} (hb4 : cf.back ≤ 4) (hq : decide (cf.back < 3) = false) (hz : cf.out.length + cf.buf.length ≤ 1000) (h : K .n { cf with out := cf.out ++ cf.buf.map chTok, buf := [] }) : JC (tsD X) w 5 335 [.r X.A.t] cf K := by
 refine jc_body1 (ofString "self") (by k_is) (by k_is) (fun _ _ => BindsTo.of_eq rfl) rfl rfl fun c => z_start ?_
 have he : ofString "" = xS [] := by decide +kernel
 refine z_if ?_
 refine t_plain rfl ?_
 refine e_mt rfl rfl rfl rfl rfl ?_
 refine in_value_a ‹_› ?_
 refine o_truthy ?_
 refine bif_F ‹_› ?_
 refine z_expr rfl ?_
 refine e_mt rfl rfl rfl rfl rfl ?_
 refine emit_text_a ‹_› ?_
 refine z_nil ?_
 refine z_setA (os_ts (x := ofString "self") rfl) rfl rfl rfl ?_
 refine s_setBuf rfl ?_
 refine z_nil ?_
 refine z_end ?_
 exact h
end
section
variable {w : World} {X : TX} {cf : Cfg} {x : DX} {f : Bool}
theorem ed_0 {K : AV → Cfg → Prop} (hk : x.kd ≤ 2) (hc : cf.draft = phD 1) (hz : cf.out.length ≤ 100000) (he : (kindS x.kd == ofString "end") = false) (h : K .n { cf with draft := none, out := cf.out ++ [drTok ⟨x.kd, x.nm, x.val⟩ f], last := if x.kd = 1 then [x.nm] else cf.last }) : JC (tsD (XD X x f)) w 5 285 [.r X.A.t] cf K := by
 refine jc_body1 (ofString "self") (by k_is) (by k_is) (fun _ _ => BindsTo.of_eq rfl) rfl rfl fun c => z_start ?_
 refine z_let rfl rfl ?_
 refine e_attr rfl ?_
 refine s_dref (.inr (by assumption)) ?_
 refine z_if ?_
 refine t_cmp rfl ?_
 refine e_attr rfl ?_
 refine s_dget rfl ?_
 refine e_ev (os_ts (x := ofString "self") rfl) rfl ?_
 refine o_eqS ?_
 refine bif_F ‹_› ?_
 refine z_nil ?_
 refine z_setA (os_ts (x := ofString "self") rfl) rfl rfl rfl ?_
 refine s_setNoDraft ‹_› ?_
 refine z_expr rfl ?_
 refine e_mtJ rfl rfl rfl rfl ?_
 refine l_cons rfl ?_
 refine e_m (dd := 3) rfl rfl (s_dmeth (fm_415_token _) (fn_412 _) (fun cl => by k_get)) (kp_412 _) rfl (os_ts (x := ofString "self") rfl) rfl ?_
 refine token_a ‹_› (.inr (.inl rfl)) ?_
 refine l_nil ?_
 refine emit_d ‹_› ‹_› ?_
 refine z_nil ?_
 refine z_end ?_
 exact h
theorem ed_1 {K : AV → Cfg → Prop} (hk : x.kd ≤ 2) (hc : cf.draft = phD 1) (hz : cf.out.length ≤ 100000) (hz1 : cf.errs.length ≤ 100000) (he : (kindS x.kd == ofString "end") = true) (hv : decide ((x.als.length : Int) > 0) = false) (hf : f = false) (h : K .n { cf with draft := none, out := cf.out ++ [drTok ⟨x.kd, x.nm, x.val⟩ f], last := if x.kd = 1 then [x.nm] else cf.last }) : JC (tsD (XD X x f)) w 5 285 [.r X.A.t] cf K := by
 refine jc_body1 (ofString "self") (by k_is) (by k_is) (fun _ _ => BindsTo.of_eq rfl) rfl rfl fun c => z_start ?_
 refine z_let rfl rfl ?_
 refine e_attr rfl ?_
 refine s_dref (.inr (by assumption)) ?_
 refine z_if ?_
 refine t_cmp rfl ?_
 refine e_attr rfl ?_
 refine s_dget rfl ?_
 refine e_ev (os_ts (x := ofString "self") rfl) rfl ?_
 refine o_eqS ?_
 refine bif_T ‹_› ?_
 refine z_if ?_
 refine t_cmp rfl ?_
 refine e_btJ rfl rfl rfl ?_
 refine l_cons rfl ?_
 refine e_attr rfl ?_
 refine s_dget rfl ?_
 refine l_nil ?_
 refine s_dlen ?_
 refine e_ev (os_ts (x := ofString "self") rfl) rfl ?_
 refine o_gtI ?_
 refine bif_F ‹_› ?_
 refine z_nil ?_
 refine z_if ?_
 refine t_plain rfl ?_
 refine e_attr rfl ?_
 refine s_dclosing ‹_› ?_
 refine o_truthy ?_
 refine bif_F ‹_› ?_
 refine z_nil ?_
 refine z_nil ?_
 refine z_setA (os_ts (x := ofString "self") rfl) rfl rfl rfl ?_
 refine s_setNoDraft ‹_› ?_
 refine z_expr rfl ?_
 refine e_mtJ rfl rfl rfl rfl ?_
 refine l_cons rfl ?_
 refine e_m (dd := 3) rfl rfl (s_dmeth (fm_415_token _) (fn_412 _) (fun cl => by k_get)) (kp_412 _) rfl (os_ts (x := ofString "self") rfl) rfl ?_
 refine token_a ‹_› (.inr (.inl rfl)) ?_
 refine l_nil ?_
 refine emit_d ‹_› ‹_› ?_
 refine z_nil ?_
 refine z_end ?_
 exact h
theorem ed_2 {K : AV → Cfg → Prop} (hk : x.kd ≤ 2) (hc : cf.draft = phD 1) (hz : cf.out.length ≤ 100000) (hz1 : cf.errs.length ≤ 100000) (he : (kindS x.kd == ofString "end") = true) (hv : decide ((x.als.length : Int) > 0) = true) (hf : f = false) (h : K .n { cf with draft := none, errs := cf.errs ++ [errTok "end-tag-with-attributes" ((cf.pos : Int) - 1)], out := cf.out ++ [drTok ⟨x.kd, x.nm, x.val⟩ f], last := if x.kd = 1 then [x.nm] else cf.last }) : JC (tsD (XD X x f)) w 5 285 [.r X.A.t] cf K := by
 refine jc_body1 (ofString "self") (by k_is) (by k_is) (fun _ _ => BindsTo.of_eq rfl) rfl rfl fun c => z_start ?_
 refine z_let rfl rfl ?_
 refine e_attr rfl ?_
 refine s_dref (.inr (by assumption)) ?_
 refine z_if ?_
 refine t_cmp rfl ?_
 refine e_attr rfl ?_
 refine s_dget rfl ?_
 refine e_ev (os_ts (x := ofString "self") rfl) rfl ?_
 refine o_eqS ?_
 refine bif_T ‹_› ?_
 refine z_if ?_
 refine t_cmp rfl ?_
 refine e_btJ rfl rfl rfl ?_
 refine l_cons rfl ?_
 refine e_attr rfl ?_
 refine s_dget rfl ?_
 refine l_nil ?_
 refine s_dlen ?_
 refine e_ev (os_ts (x := ofString "self") rfl) rfl ?_
 refine o_gtI ?_
 refine bif_T ‹_› ?_
 refine z_expr rfl ?_
 refine e_mt rfl rfl rfl rfl rfl ?_
 refine error_a ‹_› ?_
 refine z_nil ?_
 refine z_if ?_
 refine t_plain rfl ?_
 refine e_attr rfl ?_
 refine s_dclosing ‹_› ?_
 refine o_truthy ?_
 refine bif_F ‹_› ?_
 refine z_nil ?_
 refine z_nil ?_
 refine z_setA (os_ts (x := ofString "self") rfl) rfl rfl rfl ?_
 refine s_setNoDraft ‹_› ?_
 refine z_expr rfl ?_
 refine e_mtJ rfl rfl rfl rfl ?_
 refine l_cons rfl ?_
 refine e_m (dd := 3) rfl rfl (s_dmeth (fm_415_token _) (fn_412 _) (fun cl => by k_get)) (kp_412 _) rfl (os_ts (x := ofString "self") rfl) rfl ?_
 refine token_a ‹_› (.inr (.inl rfl)) ?_
 refine l_nil ?_
 refine emit_d ‹_› ‹_› ?_
 refine z_nil ?_
 refine z_end ?_
 exact h
theorem ed_3 {K : AV → Cfg → Prop} (hk : x.kd ≤ 2) (hc : cf.draft = phD 1) (hz : cf.out.length ≤ 100000) (hz1 : cf.errs.length ≤ 100000) (he : (kindS x.kd == ofString "end") = true) (hv : decide ((x.als.length : Int) > 0) = false) (hf : f = true) (h : K .n { cf with draft := none, errs := cf.errs ++ [errTok "end-tag-with-trailing-solidus" ((cf.pos : Int) - 1)], out := cf.out ++ [drTok ⟨x.kd, x.nm, x.val⟩ f], last := if x.kd = 1 then [x.nm] else cf.last }) : JC (tsD (XD X x f)) w 5 285 [.r X.A.t] cf K := by
 refine jc_body1 (ofString "self") (by k_is) (by k_is) (fun _ _ => BindsTo.of_eq rfl) rfl rfl fun c => z_start ?_
 refine z_let rfl rfl ?_
 refine e_attr rfl ?_
 refine s_dref (.inr (by assumption)) ?_
 refine z_if ?_
 refine t_cmp rfl ?_
 refine e_attr rfl ?_
 refine s_dget rfl ?_
 refine e_ev (os_ts (x := ofString "self") rfl) rfl ?_
 refine o_eqS ?_
 refine bif_T ‹_› ?_
 refine z_if ?_
 refine t_cmp rfl ?_
 refine e_btJ rfl rfl rfl ?_
 refine l_cons rfl ?_
 refine e_attr rfl ?_
 refine s_dget rfl ?_
 refine l_nil ?_
 refine s_dlen ?_
 refine e_ev (os_ts (x := ofString "self") rfl) rfl ?_
 refine o_gtI ?_
 refine bif_F ‹_› ?_
 refine z_nil ?_
 refine z_if ?_
 refine t_plain rfl ?_
 refine e_attr rfl ?_
 refine s_dclosing ‹_› ?_
 refine o_truthy ?_
 refine bif_T ‹_› ?_
 refine z_expr rfl ?_
 refine e_mt rfl rfl rfl rfl rfl ?_
 refine error_a ‹_› ?_
 refine z_nil ?_
 refine z_nil ?_
 refine z_setA (os_ts (x := ofString "self") rfl) rfl rfl rfl ?_
 refine s_setNoDraft ‹_› ?_
 refine z_expr rfl ?_
 refine e_mtJ rfl rfl rfl rfl ?_
 refine l_cons rfl ?_
 refine e_m (dd := 3) rfl rfl (s_dmeth (fm_415_token _) (fn_412 _) (fun cl => by k_get)) (kp_412 _) rfl (os_ts (x := ofString "self") rfl) rfl ?_
 refine token_a ‹_› (.inr (.inl rfl)) ?_
 refine l_nil ?_
 refine emit_d ‹_› ‹_› ?_
 refine z_nil ?_
 refine z_end ?_
 exact h
theorem ed_4 {K : AV → Cfg → Prop} (hk : x.kd ≤ 2) (hc : cf.draft = phD 1) (hz : cf.out.length ≤ 100000) (hz1 : cf.errs.length ≤ 100000) (hz2 : (cf.errs ++ [errTok "end-tag-with-attributes" ((cf.pos : Int) - 1)]).length ≤ 100000) (he : (kindS x.kd == ofString "end") = true) (hv : decide ((x.als.length : Int) > 0) = true) (hf : f = true) (h : K .n { cf with draft := none, errs := (cf.errs ++ [errTok "end-tag-with-attributes" ((cf.pos : Int) - 1)]) ++ [errTok "end-tag-with-trailing-solidus" ((cf.pos : Int) - 1)], out := cf.out ++ [drTok ⟨x.kd, x.nm, x.val⟩ f], last := if x.kd = 1 then [x.nm] else cf.last }) : JC (tsD (XD X x f)) w 5 285 [.r X.A.t] cf K := by
 refine jc_body1 (ofString "self") (by k_is) (by k_is) (fun _ _ => BindsTo.of_eq rfl) rfl rfl fun c => z_start ?_
 refine z_let rfl rfl ?_
 refine e_attr rfl ?_
 refine s_dref (.inr (by assumption)) ?_
 refine z_if ?_
 refine t_cmp rfl ?_
 refine e_attr rfl ?_
 refine s_dget rfl ?_
 refine e_ev (os_ts (x := ofString "self") rfl) rfl ?_
 refine o_eqS ?_
 refine bif_T ‹_› ?_
 refine z_if ?_
 refine t_cmp rfl ?_
 refine e_btJ rfl rfl rfl ?_
 refine l_cons rfl ?_
 refine e_attr rfl ?_
 refine s_dget rfl ?_
 refine l_nil ?_
 refine s_dlen ?_
 refine e_ev (os_ts (x := ofString "self") rfl) rfl ?_
 refine o_gtI ?_
 refine bif_T ‹_› ?_
 refine z_expr rfl ?_
 refine e_mt rfl rfl rfl rfl rfl ?_
 refine error_a ‹_› ?_
 refine z_nil ?_
 refine z_if ?_
 refine t_plain rfl ?_
 refine e_attr rfl ?_
 refine s_dclosing ‹_› ?_
 refine o_truthy ?_
 refine bif_T ‹_› ?_
 refine z_expr rfl ?_
 refine e_mt rfl rfl rfl rfl rfl ?_
 refine error_a ‹_› ?_
 refine z_nil ?_
 refine z_nil ?_
 refine z_setA (os_ts (x := ofString "self") rfl) rfl rfl rfl ?_
 refine s_setNoDraft ‹_› ?_
 refine z_expr rfl ?_
 refine e_mtJ rfl rfl rfl rfl ?_
 refine l_cons rfl ?_
 refine e_m (dd := 3) rfl rfl (s_dmeth (fm_415_token _) (fn_412 _) (fun cl => by k_get)) (kp_412 _) rfl (os_ts (x := ofString "self") rfl) rfl ?_
 refine token_a ‹_› (.inr (.inl rfl)) ?_
 refine l_nil ?_
 refine emit_d ‹_› ‹_› ?_
 refine z_nil ?_
 refine z_end ?_
 exact h
end
section
variable {w : World} {X : TX} {cf : Cfg} {x : DX} {f : Bool}
theorem emit_draft_a {K : AV → Cfg → Prop} (hk : x.kd ≤ 2) (hc : cf.draft = phD 1) (hz : cf.out.length ≤ 100000) (hz1 : cf.errs.length ≤ 99999) (h : K .n { cf with draft := none, errs := cf.errs ++ draftErrs ⟨x.kd, x.nm, x.val⟩ f ((cf.pos : Int) - 1), out := cf.out ++ [drTok ⟨x.kd, x.nm, x.val⟩ f], last := if x.kd = 1 then [x.nm] else cf.last }) : JC (tsD (XD X x f)) w 5 285 [.r X.A.t] cf K := by
 have hz1' : cf.errs.length ≤ 100000 := Nat.le_succ_of_le hz1
 have hz2 : (cf.errs ++ [errTok "end-tag-with-attributes" ((cf.pos : Int) - 1)]).length ≤ 100000 := by rw [List.length_append]; exact Nat.succ_le_succ hz1
 have h2 : decide ((x.als.length : Int) > 0) = x.val.isSome := by unfold DX.als; cases x.val <;> rfl
 unfold draftErrs at h
 by_cases hk0 : x.kd = 0
 ·have he : (kindS x.kd == ofString "end") = true := by rw [hk0]; decide +kernel
  simp only [hk0, true_and] at h
  cases hv : x.val.isSome <;> cases hf : f <;> (rw [hv] at h2; rw [hv, hf] at h; simp only [Bool.false_eq_true, if_false, if_true, List.append_nil, List.nil_append, List.cons_append] at h)
  ·exact hf ▸ ed_1 hk hc hz hz1' he h2 hf (by rw [hf, hk0]; exact h)
  ·exact hf ▸ ed_3 hk hc hz hz1' he h2 hf (by rw [hf, hk0]; exact h)
  ·exact hf ▸ ed_2 hk hc hz hz1' he h2 hf (by rw [hf, hk0]; exact h)
  ·exact hf ▸ ed_4 hk hc hz hz1' hz2 he h2 hf (by rw [hf, hk0, List.append_assoc]; exact h)
 ·have he : (kindS x.kd == ofString "end") = false := by
   revert hk hk0
   generalize x.kd = k
   intro hk hk0
   rcases k with _ | _ | _ | k
   ·exact absurd rfl hk0
   ·decide +kernel
   ·decide +kernel
   ·lia
  rw [if_neg (fun q => hk0 q.1), if_neg (fun q => hk0 q.1), List.append_nil, List.append_nil] at h
  exact ed_0 hk hc hz he h
end
end Mine
end
section
open PySem PySem.W PyProof.Rows PySem.Calls
namespace Mine
section
variable {w : World} {X : TX} {cf : Cfg}
theorem deed3a {ch kd : Nat} {test : Int} {word back yes no : PySem.Str} {fold : Bool} {K : AV → Cfg → Prop} (hX : X.dr = DrAt) (hb4 : cf.back ≤ 4) (hq : decide (cf.back < 3) = true) (hz : cf.buf.length ≤ 12) (h : K .n { cf with draft := some ⟨kd, nameOf ch, some cf.buf⟩, buf := [] }) : JC (tsD X) w 7 480 [.r X.A.t, .s (chS ch), .d (.tuple [.int test, .str word, .bool fold, .int 3, .str (kindS kd), .str back, .str yes, .str no])] cf K := by
 refine jc_body3 (ofString "t") (ofString "c") (ofString "row") (by k_is) (by k_is) (fun _ _ _ _ => BindsTo.of_eq rfl) rfl rfl fun c => z_start ?_
 refine z_stmt ?_
 refine x_unpack (fun _ _ _ => rfl) rfl rfl (fun _ _ => rfl) (fun _ => ⟨rfl, rfl⟩) ?_
 refine e_ev (os_ts (x := ofString "t") rfl) rfl ?_
 refine unpK_i rfl (by repeat' constructor) (by repeat' constructor) ?_
 refine zk_n ?_
 refine z_let rfl rfl ?_
 refine e_sub ?_
 refine e_ev (os_ts (x := ofString "t") rfl) rfl ?_
 refine e_bin ?_
 refine e_bt rfl rfl (os_ts (x := ofString "t") rfl) rfl ?_
 refine o_ord ?_
 refine e_ev (os_ts (x := ofString "t") rfl) rfl ?_
 refine o_mod rfl ?_
 refine o_ab rfl ?_
 refine z_ifF (os_ts (x := ofString "t") rfl) rfl rfl ?_
 refine z_ifF (os_ts (x := ofString "t") rfl) rfl rfl ?_
 refine z_ifF (os_ts (x := ofString "t") rfl) rfl rfl ?_
 refine z_ifT (os_ts (x := ofString "t") rfl) rfl rfl ?_
 refine z_stmt ?_
 refine x_newDraft ‹_› rfl rfl rfl rfl rfl ?_
 refine zk_n ?_
 refine z_if ?_
 refine t_plain rfl ?_
 refine e_mt rfl rfl rfl rfl rfl ?_
 refine in_value_a ‹_› ?_
 refine o_truthy ?_
 refine bif_T ‹_› ?_
 refine z_expr rfl ?_
 refine s_begin ‹_› rfl rfl rfl rfl ?_
 refine z_nil ?_
 refine z_expr rfl ?_
 refine e_mt rfl rfl rfl rfl rfl ?_
 refine flush_a ‹_› rfl ‹_› ‹_› ‹_› ?_
 refine z_nil ?_
 refine z_nil ?_
 refine z_nil ?_
 refine z_nil ?_
 refine z_nil ?_
 refine z_end ?_
 exact h
theorem deed3b {ch kd : Nat} {test : Int} {word back yes no : PySem.Str} {fold : Bool} {K : AV → Cfg → Prop} (hX : X.dr = DrAt) (hb4 : cf.back ≤ 4) (hq : decide (cf.back < 3) = false) (hz : cf.out.length + cf.buf.length ≤ 1000) (h : K .n { cf with draft := some ⟨kd, nameOf ch, none⟩, out := cf.out ++ cf.buf.map chTok, buf := [] }) : JC (tsD X) w 7 480 [.r X.A.t, .s (chS ch), .d (.tuple [.int test, .str word, .bool fold, .int 3, .str (kindS kd), .str back, .str yes, .str no])] cf K := by
 refine jc_body3 (ofString "t") (ofString "c") (ofString "row") (by k_is) (by k_is) (fun _ _ _ _ => BindsTo.of_eq rfl) rfl rfl fun c => z_start ?_
 refine z_stmt ?_
 refine x_unpack (fun _ _ _ => rfl) rfl rfl (fun _ _ => rfl) (fun _ => ⟨rfl, rfl⟩) ?_
 refine e_ev (os_ts (x := ofString "t") rfl) rfl ?_
 refine unpK_i rfl (by repeat' constructor) (by repeat' constructor) ?_
 refine zk_n ?_
 refine z_let rfl rfl ?_
 refine e_sub ?_
 refine e_ev (os_ts (x := ofString "t") rfl) rfl ?_
 refine e_bin ?_
 refine e_bt rfl rfl (os_ts (x := ofString "t") rfl) rfl ?_
 refine o_ord ?_
 refine e_ev (os_ts (x := ofString "t") rfl) rfl ?_
 refine o_mod rfl ?_
 refine o_ab rfl ?_
 refine z_ifF (os_ts (x := ofString "t") rfl) rfl rfl ?_
 refine z_ifF (os_ts (x := ofString "t") rfl) rfl rfl ?_
 refine z_ifF (os_ts (x := ofString "t") rfl) rfl rfl ?_
 refine z_ifT (os_ts (x := ofString "t") rfl) rfl rfl ?_
 refine z_stmt ?_
 refine x_newDraft ‹_› rfl rfl rfl rfl rfl ?_
 refine zk_n ?_
 refine z_if ?_
 refine t_plain rfl ?_
 refine e_mt rfl rfl rfl rfl rfl ?_
 refine in_value_a ‹_› ?_
 refine o_truthy ?_
 refine bif_F ‹_› ?_
 refine z_nil ?_
 refine z_expr rfl ?_
 refine e_mt rfl rfl rfl rfl rfl ?_
 refine flush_b ‹_› ‹_› ‹_› ?_
 refine z_nil ?_
 refine z_nil ?_
 refine z_nil ?_
 refine z_nil ?_
 refine z_nil ?_
 refine z_end ?_
 exact h
end
section
variable {w : World} {X : TX} {cf : Cfg}
theorem deed5n {ch : Nat} {test : Int} {word kind back yes no : PySem.Str} {fold : Bool} {K : AV → Cfg → Prop} (hX : X.dr = DrAt) (hc : cf.draft = none) (h : K .n cf) : JC (tsD X) w 7 480 [.r X.A.t, .s (chS ch), .d (.tuple [.int test, .str word, .bool fold, .int 5, .str kind, .str back, .str yes, .str no])] cf K := by
 refine jc_body3 (ofString "t") (ofString "c") (ofString "row") (by k_is) (by k_is) (fun _ _ _ _ => BindsTo.of_eq rfl) rfl rfl fun c => z_start ?_
 refine z_stmt ?_
 refine x_unpack (fun _ _ _ => rfl) rfl rfl (fun _ _ => rfl) (fun _ => ⟨rfl, rfl⟩) ?_
 refine e_ev (os_ts (x := ofString "t") rfl) rfl ?_
 refine unpK_i rfl (by repeat' constructor) (by repeat' constructor) ?_
 refine zk_n ?_
 refine z_let rfl rfl ?_
 refine e_sub ?_
 refine e_ev (os_ts (x := ofString "t") rfl) rfl ?_
 refine e_bin ?_
 refine e_bt rfl rfl (os_ts (x := ofString "t") rfl) rfl ?_
 refine o_ord ?_
 refine e_ev (os_ts (x := ofString "t") rfl) rfl ?_
 refine o_mod rfl ?_
 refine o_ab rfl ?_
 refine z_ifF (os_ts (x := ofString "t") rfl) rfl rfl ?_
 refine z_ifF (os_ts (x := ofString "t") rfl) rfl rfl ?_
 refine z_ifF (os_ts (x := ofString "t") rfl) rfl rfl ?_
 refine z_ifF (os_ts (x := ofString "t") rfl) rfl rfl ?_
 refine z_ifF (os_ts (x := ofString "t") rfl) rfl rfl ?_
 refine z_if ?_
 refine t_cmp rfl ?_
 refine e_attr rfl ?_
 refine s_draft0 ‹_› ‹_› ?_
 refine e_ev (os_ts (x := ofString "t") rfl) rfl ?_
 refine o_isnotNN ?_
 refine bif_f ?_
 refine z_nil ?_
 refine z_nil ?_
 refine z_nil ?_
 refine z_nil ?_
 refine z_nil ?_
 refine z_nil ?_
 refine z_nil ?_
 refine z_end ?_
 exact h
end
section
variable {w : World} {X : TX} {cf : Cfg}
theorem deed5x {x : DX} {ch : Nat} {test : Int} {word kind back yes no : PySem.Str} {fold : Bool} {K : AV → Cfg → Prop} (hk : x.kd ≤ 2) (hc : cf.draft = phD 0) (hz : cf.out.length ≤ 100000) (hz1 : cf.errs.length ≤ 99999) (h : K .n { cf with draft := none, errs := cf.errs ++ draftErrs ⟨x.kd, x.nm, x.val⟩ fold ((cf.pos : Int) - 1), out := cf.out ++ [drTok ⟨x.kd, x.nm, x.val⟩ fold], last := if x.kd = 1 then [x.nm] else cf.last }) : JC (tsD (XD X x fold)) w 7 480 [.r X.A.t, .s (chS ch), .d (.tuple [.int test, .str word, .bool fold, .int 5, .str kind, .str back, .str yes, .str no])] cf K := by
 refine jc_body3 (ofString "t") (ofString "c") (ofString "row") (by k_is) (by k_is) (fun _ _ _ _ => BindsTo.of_eq rfl) rfl rfl fun c => z_start ?_
 refine z_stmt ?_
 refine x_unpack (fun _ _ _ => rfl) rfl rfl (fun _ _ => rfl) (fun _ => ⟨rfl, rfl⟩) ?_
 refine e_ev (os_ts (x := ofString "t") rfl) rfl ?_
 refine unpK_i rfl (by repeat' constructor) (by repeat' constructor) ?_
 refine zk_n ?_
 refine z_let rfl rfl ?_
 refine e_sub ?_
 refine e_ev (os_ts (x := ofString "t") rfl) rfl ?_
 refine e_bin ?_
 refine e_bt rfl rfl (os_ts (x := ofString "t") rfl) rfl ?_
 refine o_ord ?_
 refine e_ev (os_ts (x := ofString "t") rfl) rfl ?_
 refine o_mod rfl ?_
 refine o_ab rfl ?_
 refine z_ifF (os_ts (x := ofString "t") rfl) rfl rfl ?_
 refine z_ifF (os_ts (x := ofString "t") rfl) rfl rfl ?_
 refine z_ifF (os_ts (x := ofString "t") rfl) rfl rfl ?_
 refine z_ifF (os_ts (x := ofString "t") rfl) rfl rfl ?_
 refine z_ifF (os_ts (x := ofString "t") rfl) rfl rfl ?_
 refine z_if ?_
 refine t_cmp rfl ?_
 refine e_attr rfl ?_
 refine s_dref (.inl (by assumption)) ?_
 refine e_ev (os_ts (x := ofString "t") rfl) rfl ?_
 refine o_isnotRN ?_
 refine bif_t ?_
 refine z_stmt ?_
 refine x_assignA2 rfl ?_
 refine e_ev (os_ts (x := ofString "t") rfl) rfl ?_
 refine e_attr rfl ?_
 refine s_dref (.inl (by assumption)) ?_
 refine s_setClosing ‹_› ?_
 refine zk_n ?_
 refine z_expr rfl ?_
 refine e_mt rfl rfl rfl rfl rfl ?_
 refine emit_draft_a ‹_› rfl ‹_› ‹_› ?_
 refine z_nil ?_
 refine z_nil ?_
 refine z_nil ?_
 refine z_nil ?_
 refine z_nil ?_
 refine z_nil ?_
 refine z_nil ?_
 refine z_end ?_
 exact h
theorem deed5d {dd : Dr} {ch : Nat} {test : Int} {word kind back yes no : PySem.Str} {fold : Bool} {K : AV → Cfg → Prop} (hX : X.dr = DrAt) (hc : cf.draft = some dd) (hk : dd.kind ≤ 2) (hz : cf.out.length ≤ 100000) (hz1 : cf.errs.length ≤ 99999) (h : K .n { cf with draft := none, errs := cf.errs ++ draftErrs dd fold ((cf.pos : Int) - 1), out := cf.out ++ [drTok dd fold], last := if dd.kind = 1 then [dd.name] else cf.last }) : JC (tsD X) w 7 480 [.r X.A.t, .s (chS ch), .d (.tuple [.int test, .str word, .bool fold, .int 5, .str kind, .str back, .str yes, .str no])] cf K := jc_den fun n hS => by
 refine xEAAA (xd_open hX hc hS) fun x e1 e2 e3 hx => ?_
 refine ⟨Cfg, tsD (XD X x fold), { cf with draft := phD 0 }, fun a cf' => a = .n ∧ cf' = { cf with draft := none, errs := cf.errs ++ draftErrs dd fold ((cf.pos : Int) - 1), out := cf.out ++ [drTok dd fold], last := if dd.kind = 1 then [dd.name] else cf.last }, hx fold, deed5x (x := x) (by rw [e1]; exact hk) rfl hz hz1 ⟨rfl, ?_⟩, fun b S2 n2 hS2 hq => ?_⟩
 ·have e4 : dd = ⟨x.kd, x.nm, x.val⟩ := by rw [e1, e2, e3]
  subst e4
  rfl
 ·obtain ⟨rfl, rfl⟩ := hq
  exact ⟨_, xd_gone hX rfl hS2, h⟩
end
structure RG (w : World) (X : TX) (rows : Nat → Row) (txt : List Nat) : Prop where
 dr : X.dr = DrAt
 env : ∃ so tobj kvs kvt ro to rvs rk, EnvAt w X.A.sa rows txt X.base so tobj kvs kvt ro to rvs rk
 rok : RowsOk rows
 tok : TextOk X.text
 sub : ∀ x ∈ X.text, x ∈ txt
noncomputable abbrev rowD (r : Row) : Dat := .tuple [.int r.test, .str (xS r.word), .bool r.fold, .int r.deed, .str (kindS r.kind), .str (backS r.back), .str (stS r.yes), .str (noS r.no)]
theorem rowAt_in {B : Led} {ra : Addr} {r : Row} (h : RowAt B ra r) : DatIn B (.ref ra) (rowD r) := by
 refine xEEEEEEEE h fun n0 t0 t1 t3 t4 t5 t6 t7 h => ?_
 exact .tuple h (.cons (.int _ _) (.cons (.str _ _) (.cons (.bool _) (.cons (.int _ _) (.cons (.str _ _) (.cons (.str _ _) (.cons (.str _ _) (.cons (.str _ _) .nil))))))))
section
variable {w : World} {X : TX} {cf : Cfg} {rows : Nat → Row} {txt : List Nat}
theorem do_a {r : Row} {ch : Nat} {K : AV → Cfg → Prop} (G : RG w X rows txt) (hd : r.deed ≤ 5) (hkd : r.kind ≤ 2) (hch : ch < 1114112) (hct : ch ∈ txt) (z1 : cf.out.length ≤ 700) (z2 : cf.errs.length ≤ 700) (z3 : cf.buf.length ≤ 12) (z4 : cf.back ≤ 4) (z6 : ∀ d, cf.draft = some d → d.kind ≤ 2) (h : K .n (deedC r ch cf)) : JC (tsD X) w 7 480 [.r X.A.t, .s (chS ch), .d (rowD r)] cf K := by
 obtain ⟨test, word, fold, deed, kind, back, yes, no⟩ := r
 have zo : cf.out.length ≤ 100000 := Nat.le_trans z1 (Nat.le_of_ble_eq_true rfl)
 have ze : cf.errs.length ≤ 100000 := Nat.le_trans z2 (Nat.le_of_ble_eq_true rfl)
 have zb : cf.buf.length + [ch].length ≤ 100000 := Nat.le_trans (Nat.add_le_add_right z3 1) (Nat.le_of_ble_eq_true rfl)
 have hlt : deed < 6 := Nat.lt_succ_of_le hd
 have h6 := l6 hlt
 clear hlt hd
 cases h6 with
 | c0 => exact deed0 hch zo h
 | c1 => exact deed1 (by rw [List.length_append]; exact Nat.le_trans (Nat.add_le_add z1 (Nat.add_le_add_right z3 1)) (Nat.le_of_ble_eq_true rfl)) ze zb h
 | c2 =>
  refine xEEEEEEEE G.env fun so tobj kvs kvt ro to rvs rk N => ?_
  refine xEEEA (N.tv ch hct) fun xa xk xt hv hx => ?_
  exact deed2 N.mso N.sd N.vt N.mto N.td hv hx (.of_right (intBits_le_64 (by decide) (by decide))) zb h
 | c3 =>
  unfold deedC at h
  cases hq : decide (cf.back < 3) with
  | true =>
   have q := of_decide_eq_true hq
   simp only [if_pos q] at h
   exact deed3a G.dr z4 hq z3 h
  | false =>
   have q := of_decide_eq_false hq
   simp only [if_neg q] at h
   exact deed3b G.dr z4 hq (Nat.le_trans (Nat.add_le_add z1 z3) (Nat.le_of_ble_eq_true rfl)) h
 | c4 => exact deed4 zo h
 | c5 =>
  unfold deedC at h
  cases hdr : cf.draft with
  | none =>
   simp only [hdr] at h
   exact deed5n G.dr hdr h
  | some dd =>
   simp only [hdr] at h
   exact deed5d G.dr hdr (z6 dd hdr) zo (Nat.le_trans z2 (Nat.le_of_ble_eq_true rfl)) h
end
end Mine
end
section
open PySem PySem.W PyProof.Rows PySem.Calls
namespace Mine
theorem k_abs {w : World} {d : Nat} {cs : Scope} {σ γ : Type} {den : σ → Led → Prop} {c : FD w d cs} {bs : List (List Stmt)} {l : ANs} {S : σ} {K : AF → ANs → σ → Prop} {I : γ → σ → Prop} {L : γ → σ → ANs} {μ : γ → σ → Nat} {n : Nat} {P : γ → Prop} {st : γ → σ} {L0 : γ → ANs} {x : γ} (hx : P x) (hI : ∀ g, P g → I g (st g) ∧ μ g (st g) < n) (hL : ∀ g, L g (st g) = L0 g)
  (h : ∀ (K2 : AF → ANs → σ → Prop) (P2 : γ → Prop), P2 x → (∀ g, P2 g → ∀ {l S}, S = st g → SubL l (L0 g) → K2 .nxt l S) → JZ den c bs l S K2) : JZ den c bs l S (WhileK K I L μ n) :=
 h _ P hx fun g hp l S e hs => by
  subst e
  exact ⟨g, (hI g hp).1, by rw [hL]; exact hs, (hI g hp).2⟩
section
variable {w : World}
noncomputable def dueS (ou er cb cv va vb : Addr) (g : Cfg) : OS := [(va, .lst [.s (backS 0), .s (backS 1), .s (backS 2)]), (vb, .lst [.s (backS 0), .s (backS 1), .s (backS 2), .s (backS 3), .s (backS 4)]), (er, .lst (g.errs.map .d)), (ou, .lst (g.out.map .d)), (cv, .cell (.r va)), (cb, .cell (.s (backS g.back)))]
noncomputable def dueL (ou er ro kd : Addr) (text : List Nat) (closed : Bool) (g : Cfg) : ANs := [(ofString "state", .s (stS g.st)), (ofString "at", .i (g.pos : Int)), (ofString "buffer", .s ⟨g.buf.toArray⟩), (ofString "code", .i g.code), (ofString "last", .s ⟨g.last.toArray⟩), (ofString "draft", avOf (drD g.draft)), (ofString "is_waiting", .b g.wait), (ofString "is_done", .b g.done), (ofString "out", .r ou), (ofString "errors", .r er), (ofString "rows", .r ro), (ofString "kinds", .r kd), (ofString "text", .s ⟨text.toArray⟩), (ofString "is_closed", .b closed)]
noncomputable def drA : Option Dr → AV
 | none => .n
 | some d => .d (drTok d false)
noncomputable def seenA (ou er : Addr) (g : Cfg) : List AV := [.r ou, .r er, .i (g.pos : Int), .s (stS g.st), .s (backS g.back), .s (xS g.buf), .i g.code, .s (xS g.last), drA g.draft, .b (aptC g), .b (decide (g.back < 3)), .b g.wait, .b false, .b g.done]
noncomputable def dueM (ou er ro kd : Addr) (text : List Nat) (closed : Bool) (g : Cfg) (r : Row) (ah : List Nat) : ANs := (ofString "ahead", .s ⟨ah.toArray⟩) :: (ofString "test", .i (r.test : Int)) :: (ofString "word", .s ⟨r.word.toArray⟩) :: (ofString "is_folded", .b r.fold) :: (ofString "deed", .i (r.deed : Int)) :: (ofString "kind", .s (kindS r.kind)) :: (ofString "own", .s (backS r.back)) :: (ofString "yes", .s (stS r.yes)) :: (ofString "no", .s (noS r.no)) :: dueL ou er ro kd text closed g
noncomputable def dueN (ou er ro kd : Addr) (text : List Nat) (closed : Bool) (g : Cfg) (deed kind own : Nat) (fold : Bool) (ch : Nat) : ANs := (ofString "c", .s (chS ch)) :: (ofString "name", .s (chS (nameOf ch))) :: (ofString "is_folded", .b fold) :: (ofString "deed", .i (deed : Int)) :: (ofString "kind", .s (kindS kind)) :: (ofString "own", .s (backS own)) :: dueL ou er ro kd text closed g
theorem due_j (rows : Nat → Row) (txt text : List Nat) (closed : Bool) (ro kd : Addr) (kobj : Obj) (kvk : List (Int × Value)) (rvs : List Value) (rk : Nat) (last0 : List Nat) (lt tt : Tok) (news : Led) (hro : (ro, listOf rvs.toArray rk) ∈ news) (hrw : ∀ k, k < 6 → ∃ ra, rvs[k]? = some (.ref ra) ∧ RowAt news ra (rows k)) (hkm : (kd, kobj) ∈ news) (hko : kobj.IsDictOf (PySem.intKind PG w) kvk) (hkv : ∀ c, c ∈ txt → ∃ xa xk xt, valueAt kvk (c : Int) = some (.ref xa) ∧ (xa, listOf (toldVs c xt).toArray xk) ∈ news) (hR : RowsOk rows) (hTx : TextOk text) (hsub : ∀ x ∈ text, x ∈ txt) (hlast : last0 = [] ∨ last0 = [97] ∨ last0 = [98]) :
  SpecF w 9 news 499 [.ref ro, .ref kd, .str ⟨last0.toArray⟩ lt, .str ⟨text.toArray⟩ tt, .bool closed] (fun r new n => ∃ (n' : Led) (a : AV) (S' : OS), (∀ p ∈ n', p ∈ n) ∧ owD news S' n' ∧ a.Is n' r ∧ ∃ g ou er, Reach rows text closed (initC last0) g ∧ ¬ goC text closed g ∧ a = .t (seenA ou er g) ∧ (ou, .lst (g.out.map .d)) ∈ S' ∧ (er, .lst (g.errs.map .d)) ∈ S') := by
 refine specF_cells (as := [.r ro, .r kd, .s ⟨last0.toArray⟩, .s ⟨text.toArray⟩, .b closed]) [ofString "rows", ofString "kinds", ofString "last", ofString "text", ofString "is_closed"] (ofString "values") (ofString "back") (fun L => L + 1 + 1) (fun L => L + 1) (by k_is) (by k_is) (fun s => BindsTo.of_eq rfl) (.cons (.r _) (.cons (.r _) (.cons (.s _ _) (.cons (.s _ _) (.cons (.b _) .nil))))) rfl (by decide +kernel) (by exact fun L => rfl) (fun L => by lia) fun c cv cb hcl => z_start ?_
 have hcb : c.cl.lookup (ofString "back") = some cb := by rw [hcl]; rfl
 have hcv : c.cl.lookup (ofString "values") = some cv := by rw [hcl]; rfl
 refine z_stmt ?_
 refine x_tupA ow_tup (fun _ _ _ => rfl) (fun _ => rfl) (fun _ => ⟨rfl, rfl⟩) rfl ?_
 refine l_cons rfl ?_
 refine e_listE (os_n ow_tup) rfl rfl ?_
 with_reducible intro _
 refine l_cons rfl ?_
 refine e_listE (os_n ow_tup) rfl rfl ?_
 with_reducible intro _
 refine l_cons rfl ?_
 refine e_ev (os_n ow_tup) rfl ?_
 refine l_cons rfl ?_
 refine e_ev (os_n ow_tup) rfl ?_
 refine l_cons rfl ?_
 refine e_ev (os_n ow_tup) rfl ?_
 refine l_cons rfl ?_
 refine e_ev (os_n ow_tup) rfl ?_
 refine l_cons rfl ?_
 refine e_ev (os_n ow_tup) rfl ?_
 refine l_cons rfl ?_
 refine e_ev (os_n ow_tup) rfl ?_
 refine l_nil ?_
 (with_reducible show _ = _ ∧ JA _ _ _ _ _ _ _); refine ⟨rfl, ?_⟩
 refine ja_loc rfl ?_
 refine ja_loc rfl ?_
 refine ja_loc rfl ?_
 refine ja_loc rfl ?_
 (with_reducible refine' ja_cell ?q1 ?q2 ?q3 ?_); (case q1 => exact rfl); (case q2 => assumption); (case q3 => first | (apply CUp.new; (repeat (first | exact SUp.head | apply SUp.tail)); done) | (apply CUp.old; (repeat (first | exact SUp.head | apply SUp.tail)); done))
 refine ja_loc rfl ?_
 refine ja_loc rfl ?_
 refine ja_loc rfl ?_
 refine ja_nil ?_
 refine zk_n ?_
 refine z_stmt ?_
 refine x_tupA ow_tup (fun _ _ _ => rfl) (fun _ => rfl) (fun _ => ⟨rfl, rfl⟩) rfl ?_
 refine l_cons rfl ?_
 refine e_ev (os_n ow_tup) rfl ?_
 refine l_cons rfl ?_
 refine e_ev (os_n ow_tup) rfl ?_
 refine l_nil ?_
 (with_reducible show _ = _ ∧ JA _ _ _ _ _ _ _); refine ⟨rfl, ?_⟩
 refine ja_loc rfl ?_
 refine ja_loc rfl ?_
 refine ja_nil ?_
 refine zk_n ?_
 refine z_stmt ?_
 refine x_cell rfl rfl ‹_› ?_
 refine e_sl3 ?_
 refine e_g0 (dd := 2) ⟨gn_law_backs _, db_law_backs⟩ rfl (kp_law_backs _) rfl ?_
 rename_i ou er
 refine law_backs_j fun vb => ⟨vb, _, _, _, _, _, rfl, .head _, fun va => ?_⟩
 refine cupI (by (apply CUp.new; (repeat (first | exact SUp.head | apply SUp.tail)); done)) ?_
 refine zk_n ?_
 refine z_stmt ?_
 refine x_while (γ := Cfg) (fun g S => Reach rows text closed (initC last0) g ∧ S = dueS ou er cb cv va vb g) (fun g _ => dueL ou er ro kd text closed g) (fun g _ => muC text g) (initC last0) ⟨.refl _, rfl⟩ ?sl ?_
 case sl => exact .of rfl
 rintro g S ⟨hre, rfl⟩
 have hwf := hre.wf hR hTx (init_wf hlast)
 have hl12 := hTx.1
 have hz : text.length ≤ 100000 := Nat.le_trans hl12 (by decide)
 by_cases hg : goC text closed g
 ·have q6 : (stS g.st != ofString "6") = true := by rw [st6_ne]; exact decide_eq_true hg.1
  have h6 : g.st < 6 := by have := hwf.st; have := hg.1; lia
  have hp := hwf.posd hg.2.2.1
  have qw : (!g.wait) = true := by rw [hg.2.1]; rfl
  have qd : (!g.done) = true := by rw [hg.2.2.1]; rfl
  have hr := hR g.st h6
  refine xEA (hrw g.st h6) fun ra hra hRA => ?_
  have hrow : (AV.d (rowD (rows g.st))).Is news (.ref ra) := .d (rowAt_in hRA) rfl
  have hst : g.st < 100000 := Nat.lt_trans h6 (by decide)
  generalize hrr : rows g.st = r at *
  have hwl : r.word.length ≤ 2 := by rcases hr.word with e | ⟨_, e | e | e⟩ <;> rw [e] <;> decide
  have hwz : r.word.length ≤ 100000 := Nat.le_trans hwl (by decide)
  have zo : g.out.length ≤ 700 := Nat.le_trans hwf.out (by lia)
  have ze : g.errs.length ≤ 700 := Nat.le_trans hwf.errs (by lia)
  have zo1 : g.out.length ≤ 100000 := Nat.le_trans zo (by decide)
  have ze1 : g.errs.length ≤ 100000 := Nat.le_trans ze (by decide)
  refine b_cut true ?_ ?_
  ·cases q : decide ((g.pos : Int) < (text.length : Int)) with
   | true =>
    refine t_and ?_
    refine t_ev (os_n ow_tup) rfl ?_
    refine bif_T ‹_› ?_
    refine t_and ?_
    refine t_ev (os_n ow_tup) rfl ?_
    refine bif_T ‹_› ?_
    refine t_and ?_
    refine t_ev (os_n ow_tup) rfl ?_
    refine bif_T ‹_› ?_
    refine t_and ?_
    refine t_or ?_
    refine t_cmp rfl ?_
    refine e_ev (os_n ow_tup) rfl ?_
    refine e_bt rfl rfl (os_n ow_tup) rfl ?_
    refine o_lenS ‹_› ?_
    refine o_ltI ?_
    refine bif_T ‹_› ?_
    refine bif_t ?_
    refine t_and0 ?_
    exact ⟨rfl, rfl⟩
   | false =>
    have q2 : closed = true := by
     rcases hg.2.2.2 with z | z
     ·exact absurd (Int.ofNat_lt.mpr z) (of_decide_eq_false q)
     ·exact z
    refine t_and ?_
    refine t_ev (os_n ow_tup) rfl ?_
    refine bif_T ‹_› ?_
    refine t_and ?_
    refine t_ev (os_n ow_tup) rfl ?_
    refine bif_T ‹_› ?_
    refine t_and ?_
    refine t_ev (os_n ow_tup) rfl ?_
    refine bif_T ‹_› ?_
    refine t_and ?_
    refine t_or ?_
    refine t_cmp rfl ?_
    refine e_ev (os_n ow_tup) rfl ?_
    refine e_bt rfl rfl (os_n ow_tup) rfl ?_
    refine o_lenS ‹_› ?_
    refine o_ltI ?_
    refine bif_F ‹_› ?_
    refine t_or ?_
    refine t_ev (os_n ow_tup) rfl ?_
    refine bif_T ‹_› ?_
    refine bif_t ?_
    refine t_and0 ?_
    exact ⟨rfl, rfl⟩
  refine bif_t ?_
  refine z_start ?_
  refine z_stmt ?_
  refine x_unpack (fun _ _ _ => rfl) rfl rfl (fun _ _ => rfl) (fun _ => ⟨rfl, rfl⟩) ?_
  refine e_sub ?_
  refine e_ev (os_n ow_tup) rfl ?_
  refine e_tt rfl rfl (os_n ow_tup) rfl ?_
  refine o_intS ‹_› ?_
  refine b_lG ow_base rfl ‹_› ‹_› ‹_› ‹_› ?_
  refine unpK_i rfl (by repeat' constructor) (by repeat' constructor) ?_
  refine zk_n ?_
  refine z_let rfl rfl ?_
  refine e_slS ?_
  refine e_ev (os_n ow_tup) rfl ?_
  refine e_ev (os_n ow_tup) rfl ?_
  refine e_bin ?_
  refine e_ev (os_n ow_tup) rfl ?_
  refine e_bt rfl rfl (os_n ow_tup) rfl ?_
  refine o_lenS ‹_› ?_
  refine o_add ?_
  refine ⟨text, g.pos + 1, g.pos + 1 + r.word.length, rfl, rfl, rfl, Nat.le_add_right _ _, hz, ?_⟩
  rw [Nat.add_sub_cancel_left]
  refine z_cut (dueM ou er ro kd text closed g r (aheadOf r text g.pos)) (dueS ou er cb cv va vb g) ?_ ?_
  ·refine x_if ?_
   rcases (Bool.eq_false_or_eq_true r.fold) with hf | hf
   ·have e : aheadOf r text g.pos = ((text.drop (g.pos + 1)).take r.word.length).map lowC := by unfold aheadOf; rw [if_pos hf]
    rw [e]
    refine t_ev (os_n ow_tup) rfl ?_
    refine bif_T ‹_› ?_
    refine z_start ?_
    refine z_let rfl rfl ?_
    refine e_gt rfl rfl rfl (os_n ow_tup) rfl ?_
    refine fold_a (by rw [List.length_take]; lia) (fun z hz => (hTx.2 z (List.mem_of_mem_drop (List.mem_of_mem_take hz))).1) ?_
    refine z_nil ?_
    refine z_end ?_
    exact ⟨rfl, by repeat (first | exact SubL.nil | refine SubL.cons rfl ?_), rfl⟩
   ·have e : aheadOf r text g.pos = (text.drop (g.pos + 1)).take r.word.length := by unfold aheadOf; rw [if_neg (Bool.eq_false_iff.mp hf)]
    rw [e]
    refine t_ev (os_n ow_tup) rfl ?_
    refine bif_F ‹_› ?_
    refine z_start ?_
    refine z_nil ?_
    refine z_end ?_
    exact ⟨rfl, by repeat (first | exact SubL.nil | refine SubL.cons rfl ?_), rfl⟩
  generalize hah : aheadOf r text g.pos = ah
  refine k_abs (P := fun c' => Reach rows text closed (initC last0) c' ∧ muC text c' < muC text g) (st := dueS ou er cb cv va vb) (L0 := dueL ou er ro kd text closed) (x := stepC rows text closed g) ⟨hre.snoc hg, mu_step hR hwf hg⟩ (fun c' h => ⟨⟨h.1, rfl⟩, h.2⟩) (fun _ => rfl) fun K2 P2 hre2 hk => ?_
  cases hch : text[g.pos]? with
  | none =>
   have hE : ((g.pos : Int) == (text.length : Int)) = true := by
    have : g.pos = text.length := by
     rcases Nat.lt_or_ge g.pos text.length with q | q
     ·rw [List.getElem?_eq_getElem q] at hch; cases hch
     ·exact Nat.le_antisymm hp q
    rw [this]; exact beq_self_eq_true _
   have eS : stepC rows text closed g = { g with out := g.out ++ [eofTok], pos := g.pos + 1, done := true } := stepC_eof hch
   rw [eS] at hre2
   refine z_if ?_
   refine t_cmp rfl ?_
   refine e_ev (os_n ow_tup) rfl ?_
   refine e_bt rfl rfl (os_n ow_tup) rfl ?_
   refine o_lenS ‹_› ?_
   refine o_eqI ?_
   refine bif_T ‹_› ?_
   refine z_expr rfl ?_
   refine e_app rfl rfl (exL (.tail _ (.tail _ (.tail _ (.head _))))) ?_
   refine e_ev (os_n ow_tup) rfl ?_
   refine appD (.tail (.tail (.tail .head))) ‹_› ?_
   refine z_letE (os_n ow_tup) rfl rfl rfl ?_
   refine z_letE (os_n ow_tup) rfl rfl rfl ?_
   refine z_nil ?_
   refine z_nil ?_
   refine z_end ?_
   exact hk _ hre2 rfl (.of rfl)
  | some ch =>
   have hlt : g.pos < text.length := by rcases Nat.lt_or_ge g.pos text.length with q | q; exact q; rw [List.getElem?_eq_none q] at hch; cases hch
   have hE : ((g.pos : Int) == (text.length : Int)) = false := beq_eq_false_iff_ne.mpr (by lia)
   have hgd : ch = text.getD g.pos 0 := by simp [List.getD_eq_getElem?_getD, hch]
   have hcm := List.mem_of_getElem? hch
   have hch14 := (hTx.2 ch hcm).1
   refine xEEEA (hkv ch (hsub ch hcm)) fun xa xk xt hxv hxm => ?_
   have hti : (AV.b (kindB r.test ch)).Is news (.bool (kindB r.test ch)) := .b _
   have htl : (toldVs ch xt)[r.test]? = some (.bool (kindB r.test ch)) := told_at (c := ch) (t := xt) hr.test
   have htz : r.test < 100000 := Nat.lt_of_le_of_lt hr.test (by decide)
   subst hgd
   refine z_if (b_cut false ?_ (bif_f ?_))
   ·refine t_cmp rfl ?_
    refine e_ev (os_n ow_tup) rfl ?_
    refine e_bt rfl rfl (os_n ow_tup) rfl ?_
    refine o_lenS ‹_› ?_
    refine o_eqI ?_
    exact ⟨hE, rfl⟩
   by_cases hw : ah ≠ r.word ∧ ah <+: r.word ∧ closed = false
   ·have eS : stepC rows text closed g = { g with wait := true } := by unfold stepC; rw [hch]; exact if_pos (by rw [hrr, hah]; exact hw)
    rw [eS] at hre2
    have w1 : ((⟨ah.toArray⟩ : PySem.Str) != ⟨r.word.toArray⟩) = true := by rw [xS_ne2]; exact decide_eq_true hw.1
    have w2 : decide (ah <+: r.word) = true := decide_eq_true hw.2.1
    have w3 : (!closed) = true := by rw [hw.2.2]; rfl
    refine z_if ?_
    refine t_and ?_
    refine t_ev (os_n ow_tup) rfl ?_
    refine bif_T ‹_› ?_
    refine t_and ?_
    refine t_plain rfl ?_
    refine e_starts rfl rfl (os_n ow_tup) rfl ?_
    refine o_truthy ?_
    refine bif_T ‹_› ?_
    refine t_and ?_
    refine t_ev (os_n ow_tup) rfl ?_
    refine bif_T ‹_› ?_
    refine t_and0 ?_
    refine bif_t ?_
    refine z_letE (os_n ow_tup) rfl rfl rfl ?_
    refine z_nil ?_
    refine z_nil ?_
    refine z_nil ?_
    refine z_end ?_
    exact hk _ hre2 rfl (.of rfl)
   ·refine z_if (b_cut false ?_ (bif_f ?_))
    ·cases w1 : ((⟨ah.toArray⟩ : PySem.Str) != ⟨r.word.toArray⟩) with
     | false =>
      refine t_and ?_
      refine t_ev (os_n ow_tup) rfl ?_
      refine bif_F ‹_› ?_
      exact ⟨rfl, rfl⟩
     | true =>
      cases w2 : decide (ah <+: r.word) with
      | false =>
       refine t_and ?_
       refine t_ev (os_n ow_tup) rfl ?_
       refine bif_T ‹_› ?_
       refine t_and ?_
       refine t_plain rfl ?_
       refine e_starts rfl rfl (os_n ow_tup) rfl ?_
       refine o_truthy ?_
       refine bif_F ‹_› ?_
       exact ⟨rfl, rfl⟩
      | true =>
       have w3 : closed = true := by
        cases h : closed with
        | true => rfl
        | false =>
         rw [xS_ne2] at w1
         exact absurd ⟨of_decide_eq_true w1, of_decide_eq_true w2, h⟩ hw
       have w4 : (!closed) = false := by rw [w3]; rfl
       refine t_and ?_
       refine t_ev (os_n ow_tup) rfl ?_
       refine bif_T ‹_› ?_
       refine t_and ?_
       refine t_plain rfl ?_
       refine e_starts rfl rfl (os_n ow_tup) rfl ?_
       refine o_truthy ?_
       refine bif_T ‹_› ?_
       refine t_and ?_
       refine t_ev (os_n ow_tup) rfl ?_
       refine bif_F ‹_› ?_
       exact ⟨rfl, rfl⟩
    by_cases hn : ah ≠ r.word ∨ (r.word = [] ∧ r.no ≠ 0 ∧ kindB r.test (text.getD g.pos 0) = false)
    ·have hno : r.no ≠ 0 := by
      rcases Nat.lt_or_ge g.st 5 with q | q
      ·have := (hr.no.1 q).1; lia
      ·rcases hn with z | z
       ·rcases hr.word with e | ⟨e, _⟩
        ·exact absurd (by rw [← hah]; unfold aheadOf; rw [e]; split <;> simp) z
        ·lia
       ·exact z.2.1
     have eno : noS r.no = stS r.no := by unfold noS; rw [if_neg hno]
     have eS : stepC rows text closed g = { g with st := r.no } := by unfold stepC; rw [hch]; exact (if_neg (by rw [hrr, hah]; exact hw)).trans ((if_pos (by rw [hrr, hah]; exact hn)).trans (by rw [hrr]))
     rw [eS] at hre2
     refine z_if (b_cut true ?_ (bif_t ?_))
     ·cases w1 : ((⟨ah.toArray⟩ : PySem.Str) != ⟨r.word.toArray⟩) with
      | true =>
       refine t_or ?_
       refine t_ev (os_n ow_tup) rfl ?_
       refine bif_T ‹_› ?_
       exact ⟨rfl, rfl⟩
      | false =>
       have w0 := w1
       rw [xS_ne2] at w0
       rcases hn with z | z
       ·exact absurd z (of_decide_eq_false w0)
       ·have w2 : ((⟨r.word.toArray⟩ : PySem.Str) == ofString "") = true := by rw [z.1]; decide +kernel
        have w3 : (noS r.no != ofString "") = true := by rw [noS_ne]; exact decide_eq_true z.2.1
        have w4 : (!kindB r.test (text.getD g.pos 0)) = true := by rw [z.2.2]; rfl
        refine t_or ?_
        refine t_ev (os_n ow_tup) rfl ?_
        refine bif_F ‹_› ?_
        refine t_or ?_
        refine t_and ?_
        refine t_ev (os_n ow_tup) rfl ?_
        refine bif_T ‹_› ?_
        refine t_and ?_
        refine t_ev (os_n ow_tup) rfl ?_
        refine bif_T ‹_› ?_
        refine t_and ?_
        refine t_not ?_
        refine t_plain rfl ?_
        refine e_sub ?_
        refine e_sub ?_
        refine e_ev (os_n ow_tup) rfl ?_
        refine e_btJ rfl rfl rfl ?_
        refine l_cons rfl ?_
        refine e_sub ?_
        refine e_ev (os_n ow_tup) rfl ?_
        refine e_ev (os_n ow_tup) rfl ?_
        refine o_strI rfl ‹_› ‹_› ?_
        refine l_nil ?_
        refine o_ord ?_
        refine b_dI ow_base rfl ‹_› ‹_› ‹_› ?_
        refine e_ev (os_n ow_tup) rfl ?_
        refine b_lG ow_base rfl ‹_› ‹_› ‹_› ‹_› ?_
        refine o_truthy ?_
        refine bif_T ‹_› ?_
        refine t_and0 ?_
        refine bif_t ?_
        exact ⟨rfl, rfl⟩
     ·refine z_letE (os_n ow_tup) rfl rfl rfl ?_
      refine z_nil ?_
      refine z_nil ?_
      refine z_nil ?_
      refine z_nil ?_
      refine z_end ?_
      rw [eno]
      exact hk _ hre2 rfl (.of rfl)
    ·have eS : stepC rows text closed g = deedC r (text.getD g.pos 0) { g with pos := g.pos + 1 + r.word.length, st := r.yes } := by unfold stepC; rw [hch]; exact (if_neg (by rw [hrr, hah]; exact hw)).trans ((if_neg (by rw [hrr, hah]; exact hn)).trans (by rw [hrr]))
     rw [eS] at hre2
     refine z_if (b_cut false ?_ (bif_f ?_))
     ·cases w1 : ((⟨ah.toArray⟩ : PySem.Str) != ⟨r.word.toArray⟩) with
      | true =>
       rw [xS_ne2] at w1
       exact absurd (.inl (of_decide_eq_true w1)) hn
      | false =>
       cases w2 : ((⟨r.word.toArray⟩ : PySem.Str) == ofString "") with
       | false =>
        refine t_or ?_
        refine t_ev (os_n ow_tup) rfl ?_
        refine bif_F ‹_› ?_
        refine t_or ?_
        refine t_and ?_
        refine t_ev (os_n ow_tup) rfl ?_
        refine bif_F ‹_› ?_
        refine bif_f ?_
        refine t_or0 ?_
        exact ⟨rfl, rfl⟩
       | true =>
        cases w3 : (noS r.no != ofString "") with
        | false =>
         refine t_or ?_
         refine t_ev (os_n ow_tup) rfl ?_
         refine bif_F ‹_› ?_
         refine t_or ?_
         refine t_and ?_
         refine t_ev (os_n ow_tup) rfl ?_
         refine bif_T ‹_› ?_
         refine t_and ?_
         refine t_ev (os_n ow_tup) rfl ?_
         refine bif_F ‹_› ?_
         refine bif_f ?_
         refine t_or0 ?_
         exact ⟨rfl, rfl⟩
        | true =>
         have w4 : (!kindB r.test (text.getD g.pos 0)) = false := by
          cases k : kindB r.test (text.getD g.pos 0) with
          | true => rfl
          | false =>
           rw [xS_ee] at w2
           rw [noS_ne] at w3
           exact absurd (.inr ⟨of_decide_eq_true w2, of_decide_eq_true w3, k⟩) hn
         refine t_or ?_
         refine t_ev (os_n ow_tup) rfl ?_
         refine bif_F ‹_› ?_
         refine t_or ?_
         refine t_and ?_
         refine t_ev (os_n ow_tup) rfl ?_
         refine bif_T ‹_› ?_
         refine t_and ?_
         refine t_ev (os_n ow_tup) rfl ?_
         refine bif_T ‹_› ?_
         refine t_and ?_
         refine t_not ?_
         refine t_plain rfl ?_
         refine e_sub ?_
         refine e_sub ?_
         refine e_ev (os_n ow_tup) rfl ?_
         refine e_btJ rfl rfl rfl ?_
         refine l_cons rfl ?_
         refine e_sub ?_
         refine e_ev (os_n ow_tup) rfl ?_
         refine e_ev (os_n ow_tup) rfl ?_
         refine o_strI rfl ‹_› ‹_› ?_
         refine l_nil ?_
         refine o_ord ?_
         refine b_dI ow_base rfl ‹_› ‹_› ‹_› ?_
         refine e_ev (os_n ow_tup) rfl ?_
         refine b_lG ow_base rfl ‹_› ‹_› ‹_› ‹_› ?_
         refine o_truthy ?_
         refine bif_F ‹_› ?_
         refine bif_f ?_
         refine t_or0 ?_
         exact ⟨rfl, rfl⟩
     clear hw hn hE hrr hah
     generalize hch1 : text.getD g.pos 0 = ch at *
     refine z_let rfl rfl (e_cut (.s (chS ch)) ?_ ?_)
     ·refine e_sub ?_
      refine e_ev (os_n ow_tup) rfl ?_
      refine e_ev (os_n ow_tup) rfl ?_
      refine o_strI rfl ‹_› ‹_› ?_
      exact ⟨congrArg (fun z => AV.s (chS z)) hch1, rfl⟩
     refine z_let rfl rfl (e_cut (.s (chS (nameOf ch))) ?_ ?_)
     ·refine e_sub ?_
      refine e_ev (os_n ow_tup) rfl ?_
      refine e_bin ?_
      refine e_bt rfl rfl (os_n ow_tup) rfl ?_
      refine o_ord ?_
      refine e_ev (os_n ow_tup) rfl ?_
      refine o_mod rfl ?_
      refine o_ab rfl ?_
      exact ⟨rfl, rfl⟩
     refine z_let rfl rfl (e_cut (.i ((g.pos + 1 + r.word.length : Nat) : Int)) ?_ ?_)
     ·refine e_bin ?_
      refine e_ev (os_n ow_tup) rfl ?_
      refine e_bt rfl rfl (os_n ow_tup) rfl ?_
      refine o_lenS ‹_› ?_
      refine o_add ?_
      exact ⟨rfl, rfl⟩
     refine z_letE (os_n ow_tup) rfl rfl rfl ?_
     refine z_sub (l1 := dueN ou er ro kd text closed { g with pos := g.pos + 1 + r.word.length, st := r.yes } r.deed r.kind r.back r.fold ch) (.of rfl) ?_
     have hbf : g.buf.length ≤ 12 := Nat.le_trans hwf.buf.2 hl12
     obtain ⟨test, word, fold, deed, kind, back, yes, no⟩ := r
     have hd5 : deed ≤ 5 := hr.deed
     clear hr hrow hwl hwz hti htl htz
     have hb4 := hwf.back
     have hdk : ∀ d, g.draft = some d → DrOk d := hwf.draft
     have hdl : deed < 6 := Nat.lt_succ_of_le hd5
     have zb : g.buf.length + [ch].length ≤ 100000 := Nat.le_trans (Nat.add_le_add_right hbf 1) (by decide)
     obtain ⟨out, errs, pos, st, bk, buf, code, last, draft, wait, done⟩ := g
     dsimp only at zb hbf zo ze zo1 ze1 hb4 hdk
     revert hre2
     have h6 := l6 hdl
     clear hdl hd5
     cases h6 <;> intro hre2
     ·refine z_ifT (os_n ow_tup) rfl rfl ?_
      refine z_expr rfl ?_
      refine e_app rfl rfl (exL (.tail _ (.tail _ (.tail _ (.head _))))) ?_
      refine e_tup ?_
      refine l_cons rfl ?_
      refine e_ev (os_n ow_tup) rfl ?_
      refine l_cons rfl ?_
      refine e_gt rfl rfl rfl (os_n ow_tup) rfl ?_
      refine fold_a (xs := [ch]) (Nat.le_of_ble_eq_true rfl) (fun z hz => by rw [List.mem_singleton.mp hz]; exact hch14) ?_
      refine l_nil ?_
      refine o_tupG ow_tup rfl rfl rfl ?_
      refine appD (.tail (.tail (.tail .head))) ‹_› ?_
      refine z_nil ?_
      refine z_nil ?_
      refine z_nil ?_
      refine z_nil ?_
      refine z_nil ?_
      refine z_end ?_
      exact hk _ hre2 rfl (.of rfl)
     ·have z1 : (buf ++ [ch]).length ≤ 13 := by rw [List.length_append]; exact Nat.add_le_add_right hbf 1
      refine z_ifF (os_n ow_tup) rfl rfl ?_
      refine z_ifT (os_n ow_tup) rfl rfl ?_
      refine z_expr rfl ?_
      refine e_app rfl rfl (exL (.tail _ (.tail _ (.head _)))) ?_
      refine e_ev (os_n ow_tup) rfl ?_
      refine appD (.tail (.tail .head)) ‹_› ?_
      refine z_stmt (x_extC rfl rfl (exL (.tail _ (.tail _ (.tail _ (.head _))))) rfl rfl rfl rfl rfl rfl (fun _ => rfl) ?_)
      refine e_bin ?_
      refine e_ev (os_n ow_tup) rfl ?_
      refine e_ev (os_n ow_tup) rfl ?_
      refine o_addS ‹_› ?_
      refine' ext_i (xs := buf ++ [ch]) rfl (Nat.le_trans z1 (by decide)) ?a1 (fun _ _ _ _ _ _ _ => testOk_nil) (sup_ext ?a2) ?_
      case a2 => repeat (first | exact SUp.head | apply SUp.tail)
      case a1 => rw [List.length_map]; exact Nat.le_trans zo (by decide)
      refine zk_n ?_
      refine z_nil ?_
      refine z_nil ?_
      refine z_nil ?_
      refine z_nil ?_
      refine z_nil ?_
      refine z_nil ?_
      refine z_end ?_
      exact hk _ hre2 rfl (.of rfl)
     ·have hmul : IntMulOk code 16 := .of_right (intBits_le_64 (by decide) (by decide))
      refine z_ifF (os_n ow_tup) rfl rfl ?_
      refine z_ifF (os_n ow_tup) rfl rfl ?_
      refine z_ifT (os_n ow_tup) rfl rfl ?_
      refine z_stmt ?_
      refine x_tupA ow_tup (fun _ _ _ => rfl) (fun _ => rfl) (fun _ => ⟨rfl, rfl⟩) rfl ?_
      refine l_cons rfl ?_
      refine e_bin ?_
      refine e_ev (os_n ow_tup) rfl ?_
      refine e_ev (os_n ow_tup) rfl ?_
      refine o_addS ‹_› ?_
      refine l_cons rfl ?_
      refine e_ev (os_n ow_tup) rfl ?_
      refine l_cons rfl ?_
      refine e_bin ?_
      refine e_bin ?_
      refine e_ev (os_n ow_tup) rfl ?_
      refine e_ev (os_n ow_tup) rfl ?_
      refine o_mul ‹_› ?_
      refine e_sub ?_
      refine e_sub ?_
      refine e_ev (os_n ow_tup) rfl ?_
      refine e_bt rfl rfl (os_n ow_tup) rfl ?_
      refine o_ord ?_
      refine b_dI ow_base rfl ‹_› ‹_› ‹_› ?_
      refine e_ev (os_n ow_tup) rfl ?_
      refine b_lI ow_base rfl ‹_› rfl rfl (fun _ => .i _ _) ?_
      refine o_add ?_
      refine l_nil ?_
      (with_reducible show _ = _ ∧ JA _ _ _ _ _ _ _); refine ⟨rfl, ?_⟩
      refine ja_loc rfl ?_
      (with_reducible refine' ja_cell ?q1 ?q2 ?q3 ?_); (case q1 => exact rfl); (case q2 => assumption); (case q3 => first | (apply CUp.new; (repeat (first | exact SUp.head | apply SUp.tail)); done) | (apply CUp.old; (repeat (first | exact SUp.head | apply SUp.tail)); done))
      refine ja_loc rfl ?_
      refine ja_nil ?_
      refine zk_n ?_
      refine z_nil ?_
      refine z_nil ?_
      refine z_nil ?_
      refine z_nil ?_
      refine z_nil ?_
      refine z_nil ?_
      refine z_nil ?_
      refine z_end ?_
      exact hk _ hre2 rfl (.of rfl)
     ·have hany : ([backS 0, backS 1, backS 2].any fun x => x == backS bk) = decide (bk < 3) := any_backs (by decide +kernel) hb4
      cases hq : decide (bk < 3) with
      | true =>
       rw [hq] at hany
       have e : deedC ⟨test, word, fold, 3, kind, back, yes, no⟩ ch ⟨out, errs, pos + 1 + word.length, yes, bk, buf, code, last, draft, wait, done⟩ = ⟨out, errs, pos + 1 + word.length, yes, bk, [], code, last, some ⟨kind, nameOf ch, some buf⟩, wait, done⟩ := by
        simp only [deedC, if_pos (of_decide_eq_true hq)]
       refine z_ifF (os_n ow_tup) rfl rfl ?_
       refine z_ifF (os_n ow_tup) rfl rfl ?_
       refine z_ifF (os_n ow_tup) rfl rfl ?_
       refine z_ifT (os_n ow_tup) rfl rfl ?_
       refine z_let rfl rfl ?_
       refine e_tup ?_
       refine l_cons rfl ?_
       refine e_ev (os_n ow_tup) rfl ?_
       refine l_cons rfl ?_
       refine e_ev (os_n ow_tup) rfl ?_
       refine l_cons rfl ?_
       refine e_ifexp ?_
       refine t_cmp rfl ?_
       refine e_cell rfl rfl ‹_› (.tail _ (.tail _ (.tail _ (.tail _ (.tail _ (.head _)))))) ?_
       refine e_cell rfl rfl ‹_› (.tail _ (.tail _ (.tail _ (.tail _ (.head _))))) ?_
       refine o_inL (.head _) rfl ?_
       refine bif_T ‹_› ?_
       refine e_ev (os_n ow_tup) rfl ?_
       refine l_nil ?_
       refine o_tupG ow_tup rfl rfl rfl ?_
       refine z_stmt (x_extC rfl rfl (exL (.tail _ (.tail _ (.tail _ (.head _))))) (clo (by assumption) rfl) rfl rfl rfl rfl rfl (fun _ => rfl) ?_)
       refine e_ev (os_n ow_tup) rfl ?_
       refine' ext_i (xs := buf) rfl (Nat.le_trans hbf (by decide)) ?c1 ?c3 (sup_ext0 ?c2) ?_
       case c2 => repeat (first | exact SUp.head | apply SUp.tail)
       case c1 => rw [List.length_map]; exact Nat.le_trans zo (by decide)
       case c3 => exact fun C s m n _ N hS => test_nin (ca := cb) (cv := cv) (va := va) (X := backS bk) (as := [.s (backS 0), .s (backS 1), .s (backS 2)]) rfl rfl rfl rfl rfl rfl rfl (.tail _ (.tail _ (.tail _ (.tail _ (.tail _ (.head _)))))) (.tail _ (.tail _ (.tail _ (.tail _ (.head _))))) (.head _) rfl (congrArg (fun b => !b) hany) N hS
       refine zk_n ?_
       refine z_letE (os_n ow_tup) rfl rfl rfl ?_
       refine z_nil ?_
       refine z_nil ?_
       refine z_nil ?_
       refine z_nil ?_
       refine z_nil ?_
       refine z_nil ?_
       refine z_nil ?_
       refine z_nil ?_
       refine z_end ?_
       exact hk ⟨out, errs, pos + 1 + word.length, yes, bk, [], code, last, some ⟨kind, nameOf ch, some buf⟩, wait, done⟩ (e ▸ hre2) rfl (.of rfl)
      | false =>
       rw [hq] at hany
       have e : deedC ⟨test, word, fold, 3, kind, back, yes, no⟩ ch ⟨out, errs, pos + 1 + word.length, yes, bk, buf, code, last, draft, wait, done⟩ = ⟨out ++ buf.map chTok, errs, pos + 1 + word.length, yes, bk, [], code, last, some ⟨kind, nameOf ch, none⟩, wait, done⟩ := by
        simp only [deedC, if_neg (of_decide_eq_false hq)]
       refine z_ifF (os_n ow_tup) rfl rfl ?_
       refine z_ifF (os_n ow_tup) rfl rfl ?_
       refine z_ifF (os_n ow_tup) rfl rfl ?_
       refine z_ifT (os_n ow_tup) rfl rfl ?_
       refine z_let rfl rfl ?_
       refine e_tup ?_
       refine l_cons rfl ?_
       refine e_ev (os_n ow_tup) rfl ?_
       refine l_cons rfl ?_
       refine e_ev (os_n ow_tup) rfl ?_
       refine l_cons rfl ?_
       refine e_ifexp ?_
       refine t_cmp rfl ?_
       refine e_cell rfl rfl ‹_› (.tail _ (.tail _ (.tail _ (.tail _ (.tail _ (.head _)))))) ?_
       refine e_cell rfl rfl ‹_› (.tail _ (.tail _ (.tail _ (.tail _ (.head _))))) ?_
       refine o_inL (.head _) rfl ?_
       refine bif_F ‹_› ?_
       refine e_ev (os_n ow_tup) rfl ?_
       refine l_nil ?_
       refine o_tupG ow_tup rfl rfl rfl ?_
       refine z_stmt (x_extC rfl rfl (exL (.tail _ (.tail _ (.tail _ (.head _))))) (clo (by assumption) rfl) rfl rfl rfl rfl rfl (fun _ => rfl) ?_)
       refine e_ev (os_n ow_tup) rfl ?_
       refine' ext_i (xs := buf) rfl (Nat.le_trans hbf (by decide)) ?d1 ?d3 (sup_ext ?d2) ?_
       case d2 => repeat (first | exact SUp.head | apply SUp.tail)
       case d1 => rw [List.length_map]; exact Nat.le_trans zo (by decide)
       case d3 => exact fun C s m n _ N hS => test_nin (ca := cb) (cv := cv) (va := va) (X := backS bk) (as := [.s (backS 0), .s (backS 1), .s (backS 2)]) rfl rfl rfl rfl rfl rfl rfl (.tail _ (.tail _ (.tail _ (.tail _ (.tail _ (.head _)))))) (.tail _ (.tail _ (.tail _ (.tail _ (.head _))))) (.head _) rfl (congrArg (fun b => !b) hany) N hS
       refine zk_n ?_
       refine z_letE (os_n ow_tup) rfl rfl rfl ?_
       refine z_nil ?_
       refine z_nil ?_
       refine z_nil ?_
       refine z_nil ?_
       refine z_nil ?_
       refine z_nil ?_
       refine z_nil ?_
       refine z_nil ?_
       refine z_end ?_
       exact hk ⟨out ++ buf.map chTok, errs, pos + 1 + word.length, yes, bk, [], code, last, some ⟨kind, nameOf ch, none⟩, wait, done⟩ (e ▸ hre2) rfl (.of rfl)
     ·refine z_ifF (os_n ow_tup) rfl rfl ?_
      refine z_ifF (os_n ow_tup) rfl rfl ?_
      refine z_ifF (os_n ow_tup) rfl rfl ?_
      refine z_ifF (os_n ow_tup) rfl rfl ?_
      refine z_ifT (os_n ow_tup) rfl rfl ?_
      refine z_expr rfl ?_
      refine e_app rfl rfl (exL (.tail _ (.tail _ (.tail _ (.head _))))) ?_
      refine e_ev (os_n ow_tup) rfl ?_
      refine appD (.tail (.tail (.tail .head))) ‹_› ?_
      refine z_letE (os_n ow_tup) rfl rfl rfl ?_
      refine z_nil ?_
      refine z_nil ?_
      refine z_nil ?_
      refine z_nil ?_
      refine z_nil ?_
      refine z_nil ?_
      refine z_nil ?_
      refine z_nil ?_
      refine z_nil ?_
      refine z_end ?_
      exact hk _ hre2 rfl (.of rfl)
     ·have hu : ∀ {cs' : Scope} (c : FD w 8 cs'), c.A.units + 64 < cLine := fun c => by have := c.hu; show c.un + 64 < cLine; lia
      cases draft with
      | none =>
       refine z_ifF (os_n ow_tup) rfl rfl ?_
       refine z_ifF (os_n ow_tup) rfl rfl ?_
       refine z_ifF (os_n ow_tup) rfl rfl ?_
       refine z_ifF (os_n ow_tup) rfl rfl ?_
       refine z_ifF (os_n ow_tup) rfl rfl ?_
       refine z_ifF (os_n ow_tup) rfl rfl ?_
       refine z_nil ?_
       refine z_nil ?_
       refine z_nil ?_
       refine z_nil ?_
       refine z_nil ?_
       refine z_nil ?_
       refine z_nil ?_
       refine z_nil ?_
       refine z_nil ?_
       refine z_nil ?_
       refine z_end ?_
       exact hk _ hre2 rfl (.of rfl)
      | some dd =>
       have hdo := hdk dd rfl
       obtain ⟨k, n, v⟩ := dd
       have hkd : k ≤ 2 := hdo.kind
       have hvv := hdo.val
       dsimp only at hvv
       have hk3 : k < 3 := Nat.lt_succ_of_le hkd
       clear hdk hdo
       revert hkd
       revert hre2
       have h3 := l3 hk3
       clear hk3
       cases h3 <;> intro hre2 hkd
       ·have ke : (kindS 0 == ofString "end") = true := by decide +kernel
        have ks : (kindS 0 == ofString "start") = false := by decide +kernel
        cases v with
        | none =>
         cases fold with
         | false =>
          have e : deedC ⟨test, word, false, 5, kind, back, yes, no⟩ ch ⟨out, errs, pos + 1 + word.length, yes, bk, buf, code, last, some ⟨0, n, none⟩, wait, done⟩ = ⟨out ++ [drTok ⟨0, n, none⟩ false], errs, pos + 1 + word.length, yes, bk, buf, code, last, none, wait, done⟩ := by
           simp [deedC, draftErrs]
          refine z_ifF (os_n ow_tup) rfl rfl ?_
          refine z_ifF (os_n ow_tup) rfl rfl ?_
          refine z_ifF (os_n ow_tup) rfl rfl ?_
          refine z_ifF (os_n ow_tup) rfl rfl ?_
          refine z_ifF (os_n ow_tup) rfl rfl ?_
          refine z_ifT (os_n ow_tup) rfl rfl ?_
          refine z_if ?_
          refine t_and ?_
          refine t_ev (os_n ow_tup) rfl ?_
          refine bif_T rfl ?_
          refine t_and ?_
          refine t_cmp rfl ?_
          refine e_ev (os_n ow_tup) rfl ?_
          refine e_ev (os_n ow_tup) rfl ?_
          refine o_neVal hu (val := none) hvv ?_
          refine bif_F rfl ?_
          refine bif_f ?_
          refine z_nil ?_
          refine z_ifF (os_n ow_tup) rfl rfl ?_
          refine z_nil ?_
          refine z_expr rfl ?_
          refine e_app rfl rfl (exL (.tail _ (.tail _ (.tail _ (.head _))))) ?_
          refine e_gt rfl rfl rfl (os_n ow_tup) rfl ?_
          refine ltoken_s (dd := ⟨0, n, none⟩) hkd ?_
          refine appD (.tail (.tail (.tail .head))) ‹_› ?_
          refine z_letE (os_n ow_tup) rfl rfl rfl ?_
          refine z_letE (os_n ow_tup) rfl rfl rfl ?_
          refine z_nil ?_
          refine z_nil ?_
          refine z_nil ?_
          refine z_nil ?_
          refine z_nil ?_
          refine z_nil ?_
          refine z_nil ?_
          refine z_nil ?_
          refine z_nil ?_
          refine z_nil ?_
          refine z_end ?_
          exact hk ⟨out ++ [drTok ⟨0, n, none⟩ false], errs, pos + 1 + word.length, yes, bk, buf, code, last, none, wait, done⟩ (e ▸ hre2) rfl (.of rfl)
         | true =>
          have e : deedC ⟨test, word, true, 5, kind, back, yes, no⟩ ch ⟨out, errs, pos + 1 + word.length, yes, bk, buf, code, last, some ⟨0, n, none⟩, wait, done⟩ = ⟨out ++ [drTok ⟨0, n, none⟩ true], errs ++ [errTok "end-tag-with-trailing-solidus" (((pos + 1 + word.length : Nat) : Int) - 1)], pos + 1 + word.length, yes, bk, buf, code, last, none, wait, done⟩ := by
           simp [deedC, draftErrs]
          refine z_ifF (os_n ow_tup) rfl rfl ?_
          refine z_ifF (os_n ow_tup) rfl rfl ?_
          refine z_ifF (os_n ow_tup) rfl rfl ?_
          refine z_ifF (os_n ow_tup) rfl rfl ?_
          refine z_ifF (os_n ow_tup) rfl rfl ?_
          refine z_ifT (os_n ow_tup) rfl rfl ?_
          refine z_if ?_
          refine t_and ?_
          refine t_ev (os_n ow_tup) rfl ?_
          refine bif_T rfl ?_
          refine t_and ?_
          refine t_cmp rfl ?_
          refine e_ev (os_n ow_tup) rfl ?_
          refine e_ev (os_n ow_tup) rfl ?_
          refine o_neVal hu (val := none) hvv ?_
          refine bif_F rfl ?_
          refine bif_f ?_
          refine z_nil ?_
          refine z_ifT (os_n ow_tup) rfl rfl ?_
          refine z_expr rfl ?_
          refine e_app rfl rfl (exL (.tail _ (.tail _ (.head _)))) ?_
          refine e_ev (os_n ow_tup) rfl ?_
          refine appD (.tail (.tail .head)) ‹_› ?_
          refine z_nil ?_
          refine z_expr rfl ?_
          refine e_app rfl rfl (exL (.tail _ (.tail _ (.tail _ (.head _))))) ?_
          refine e_gt rfl rfl rfl (os_n ow_tup) rfl ?_
          refine ltoken_s (dd := ⟨0, n, none⟩) hkd ?_
          refine appD (.tail (.tail (.tail .head))) ‹_› ?_
          refine z_letE (os_n ow_tup) rfl rfl rfl ?_
          refine z_letE (os_n ow_tup) rfl rfl rfl ?_
          refine z_nil ?_
          refine z_nil ?_
          refine z_nil ?_
          refine z_nil ?_
          refine z_nil ?_
          refine z_nil ?_
          refine z_nil ?_
          refine z_nil ?_
          refine z_nil ?_
          refine z_nil ?_
          refine z_end ?_
          exact hk ⟨out ++ [drTok ⟨0, n, none⟩ true], errs ++ [errTok "end-tag-with-trailing-solidus" (((pos + 1 + word.length : Nat) : Int) - 1)], pos + 1 + word.length, yes, bk, buf, code, last, none, wait, done⟩ (e ▸ hre2) rfl (.of rfl)
        | some b =>
         cases fold with
         | false =>
          have e : deedC ⟨test, word, false, 5, kind, back, yes, no⟩ ch ⟨out, errs, pos + 1 + word.length, yes, bk, buf, code, last, some ⟨0, n, (some b)⟩, wait, done⟩ = ⟨out ++ [drTok ⟨0, n, (some b)⟩ false], errs ++ [errTok "end-tag-with-attributes" (((pos + 1 + word.length : Nat) : Int) - 1)], pos + 1 + word.length, yes, bk, buf, code, last, none, wait, done⟩ := by
           simp [deedC, draftErrs]
          refine z_ifF (os_n ow_tup) rfl rfl ?_
          refine z_ifF (os_n ow_tup) rfl rfl ?_
          refine z_ifF (os_n ow_tup) rfl rfl ?_
          refine z_ifF (os_n ow_tup) rfl rfl ?_
          refine z_ifF (os_n ow_tup) rfl rfl ?_
          refine z_ifT (os_n ow_tup) rfl rfl ?_
          refine z_if ?_
          refine t_and ?_
          refine t_ev (os_n ow_tup) rfl ?_
          refine bif_T rfl ?_
          refine t_and ?_
          refine t_cmp rfl ?_
          refine e_ev (os_n ow_tup) rfl ?_
          refine e_ev (os_n ow_tup) rfl ?_
          refine o_neVal hu (val := (some b)) hvv ?_
          refine bif_T rfl ?_
          refine t_and0 ?_
          refine bif_t ?_
          refine z_expr rfl ?_
          refine e_app rfl rfl (exL (.tail _ (.tail _ (.head _)))) ?_
          refine e_ev (os_n ow_tup) rfl ?_
          refine appD (.tail (.tail .head)) ‹_› ?_
          refine z_nil ?_
          refine z_ifF (os_n ow_tup) rfl rfl ?_
          refine z_nil ?_
          refine z_expr rfl ?_
          refine e_app rfl rfl (exL (.tail _ (.tail _ (.tail _ (.head _))))) ?_
          refine e_gt rfl rfl rfl (os_n ow_tup) rfl ?_
          refine ltoken_s (dd := ⟨0, n, (some b)⟩) hkd ?_
          refine appD (.tail (.tail (.tail .head))) ‹_› ?_
          refine z_letE (os_n ow_tup) rfl rfl rfl ?_
          refine z_letE (os_n ow_tup) rfl rfl rfl ?_
          refine z_nil ?_
          refine z_nil ?_
          refine z_nil ?_
          refine z_nil ?_
          refine z_nil ?_
          refine z_nil ?_
          refine z_nil ?_
          refine z_nil ?_
          refine z_nil ?_
          refine z_nil ?_
          refine z_end ?_
          exact hk ⟨out ++ [drTok ⟨0, n, (some b)⟩ false], errs ++ [errTok "end-tag-with-attributes" (((pos + 1 + word.length : Nat) : Int) - 1)], pos + 1 + word.length, yes, bk, buf, code, last, none, wait, done⟩ (e ▸ hre2) rfl (.of rfl)
         | true =>
          have e : deedC ⟨test, word, true, 5, kind, back, yes, no⟩ ch ⟨out, errs, pos + 1 + word.length, yes, bk, buf, code, last, some ⟨0, n, (some b)⟩, wait, done⟩ = ⟨out ++ [drTok ⟨0, n, (some b)⟩ true], (errs ++ [errTok "end-tag-with-attributes" (((pos + 1 + word.length : Nat) : Int) - 1)]) ++ [errTok "end-tag-with-trailing-solidus" (((pos + 1 + word.length : Nat) : Int) - 1)], pos + 1 + word.length, yes, bk, buf, code, last, none, wait, done⟩ := by
           simp [deedC, draftErrs]
          refine z_ifF (os_n ow_tup) rfl rfl ?_
          refine z_ifF (os_n ow_tup) rfl rfl ?_
          refine z_ifF (os_n ow_tup) rfl rfl ?_
          refine z_ifF (os_n ow_tup) rfl rfl ?_
          refine z_ifF (os_n ow_tup) rfl rfl ?_
          refine z_ifT (os_n ow_tup) rfl rfl ?_
          refine z_if ?_
          refine t_and ?_
          refine t_ev (os_n ow_tup) rfl ?_
          refine bif_T rfl ?_
          refine t_and ?_
          refine t_cmp rfl ?_
          refine e_ev (os_n ow_tup) rfl ?_
          refine e_ev (os_n ow_tup) rfl ?_
          refine o_neVal hu (val := (some b)) hvv ?_
          have ze2 : (errs ++ [errTok "end-tag-with-attributes" (((pos + 1 + word.length : Nat) : Int) - 1)]).length ≤ 100000 := by rw [List.length_append]; exact Nat.le_trans (Nat.add_le_add_right ze 1) (by decide)
          refine bif_T rfl ?_
          refine t_and0 ?_
          refine bif_t ?_
          refine z_expr rfl ?_
          refine e_app rfl rfl (exL (.tail _ (.tail _ (.head _)))) ?_
          refine e_ev (os_n ow_tup) rfl ?_
          refine appD (.tail (.tail .head)) ‹_› ?_
          refine z_nil ?_
          refine z_ifT (os_n ow_tup) rfl rfl ?_
          refine z_expr rfl ?_
          refine e_app rfl rfl (exL (.tail _ (.tail _ (.head _)))) ?_
          refine e_ev (os_n ow_tup) rfl ?_
          refine appD (.tail (.tail .head)) ‹_› ?_
          refine z_nil ?_
          refine z_expr rfl ?_
          refine e_app rfl rfl (exL (.tail _ (.tail _ (.tail _ (.head _))))) ?_
          refine e_gt rfl rfl rfl (os_n ow_tup) rfl ?_
          refine ltoken_s (dd := ⟨0, n, (some b)⟩) hkd ?_
          refine appD (.tail (.tail (.tail .head))) ‹_› ?_
          refine z_letE (os_n ow_tup) rfl rfl rfl ?_
          refine z_letE (os_n ow_tup) rfl rfl rfl ?_
          refine z_nil ?_
          refine z_nil ?_
          refine z_nil ?_
          refine z_nil ?_
          refine z_nil ?_
          refine z_nil ?_
          refine z_nil ?_
          refine z_nil ?_
          refine z_nil ?_
          refine z_nil ?_
          refine z_end ?_
          exact hk ⟨out ++ [drTok ⟨0, n, (some b)⟩ true], (errs ++ [errTok "end-tag-with-attributes" (((pos + 1 + word.length : Nat) : Int) - 1)]) ++ [errTok "end-tag-with-trailing-solidus" (((pos + 1 + word.length : Nat) : Int) - 1)], pos + 1 + word.length, yes, bk, buf, code, last, none, wait, done⟩ (e ▸ hre2) rfl (.of rfl)
       ·have ke : (kindS 1 == ofString "end") = false := by decide +kernel
        have ks : (kindS 1 == ofString "start") = true := by decide +kernel
        have e : deedC ⟨test, word, fold, 5, kind, back, yes, no⟩ ch ⟨out, errs, pos + 1 + word.length, yes, bk, buf, code, last, some ⟨1, n, v⟩, wait, done⟩ = ⟨out ++ [drTok ⟨1, n, v⟩ fold], errs, pos + 1 + word.length, yes, bk, buf, code, [n], none, wait, done⟩ := by
         simp [deedC, draftErrs]
        refine z_ifF (os_n ow_tup) rfl rfl ?_
        refine z_ifF (os_n ow_tup) rfl rfl ?_
        refine z_ifF (os_n ow_tup) rfl rfl ?_
        refine z_ifF (os_n ow_tup) rfl rfl ?_
        refine z_ifF (os_n ow_tup) rfl rfl ?_
        refine z_ifT (os_n ow_tup) rfl rfl ?_
        refine z_if ?_
        refine t_and ?_
        refine t_ev (os_n ow_tup) rfl ?_
        refine bif_F rfl ?_
        refine bif_f ?_
        refine z_nil ?_
        refine z_ifF (os_n ow_tup) rfl rfl ?_
        refine z_nil ?_
        refine z_expr rfl ?_
        refine e_app rfl rfl (exL (.tail _ (.tail _ (.tail _ (.head _))))) ?_
        refine e_gt rfl rfl rfl (os_n ow_tup) rfl ?_
        refine ltoken_s (dd := ⟨1, n, v⟩) hkd ?_
        refine appD (.tail (.tail (.tail .head))) ‹_› ?_
        refine z_letE (os_n ow_tup) rfl rfl rfl ?_
        refine z_letE (os_n ow_tup) rfl rfl rfl ?_
        refine z_nil ?_
        refine z_nil ?_
        refine z_nil ?_
        refine z_nil ?_
        refine z_nil ?_
        refine z_nil ?_
        refine z_nil ?_
        refine z_nil ?_
        refine z_nil ?_
        refine z_nil ?_
        refine z_end ?_
        exact hk ⟨out ++ [drTok ⟨1, n, v⟩ fold], errs, pos + 1 + word.length, yes, bk, buf, code, [n], none, wait, done⟩ (e ▸ hre2) rfl (.of rfl)
       ·have ke : (kindS 2 == ofString "end") = false := by decide +kernel
        have ks : (kindS 2 == ofString "start") = false := by decide +kernel
        have e : deedC ⟨test, word, fold, 5, kind, back, yes, no⟩ ch ⟨out, errs, pos + 1 + word.length, yes, bk, buf, code, last, some ⟨2, n, v⟩, wait, done⟩ = ⟨out ++ [drTok ⟨2, n, v⟩ fold], errs, pos + 1 + word.length, yes, bk, buf, code, last, none, wait, done⟩ := by
         simp [deedC, draftErrs]
        refine z_ifF (os_n ow_tup) rfl rfl ?_
        refine z_ifF (os_n ow_tup) rfl rfl ?_
        refine z_ifF (os_n ow_tup) rfl rfl ?_
        refine z_ifF (os_n ow_tup) rfl rfl ?_
        refine z_ifF (os_n ow_tup) rfl rfl ?_
        refine z_ifT (os_n ow_tup) rfl rfl ?_
        refine z_if ?_
        refine t_and ?_
        refine t_ev (os_n ow_tup) rfl ?_
        refine bif_F rfl ?_
        refine bif_f ?_
        refine z_nil ?_
        refine z_ifF (os_n ow_tup) rfl rfl ?_
        refine z_nil ?_
        refine z_expr rfl ?_
        refine e_app rfl rfl (exL (.tail _ (.tail _ (.tail _ (.head _))))) ?_
        refine e_gt rfl rfl rfl (os_n ow_tup) rfl ?_
        refine ltoken_s (dd := ⟨2, n, v⟩) hkd ?_
        refine appD (.tail (.tail (.tail .head))) ‹_› ?_
        refine z_letE (os_n ow_tup) rfl rfl rfl ?_
        refine z_letE (os_n ow_tup) rfl rfl rfl ?_
        refine z_nil ?_
        refine z_nil ?_
        refine z_nil ?_
        refine z_nil ?_
        refine z_nil ?_
        refine z_nil ?_
        refine z_nil ?_
        refine z_nil ?_
        refine z_nil ?_
        refine z_nil ?_
        refine z_end ?_
        exact hk ⟨out ++ [drTok ⟨2, n, v⟩ fold], errs, pos + 1 + word.length, yes, bk, buf, code, last, none, wait, done⟩ (e ▸ hre2) rfl (.of rfl)
 ·refine b_cut false ?_ (bif_f ?_)
  ·cases q6 : (stS g.st != ofString "6") with
   | false =>
    refine t_and ?_
    refine t_ev (os_n ow_tup) rfl ?_
    refine bif_F ‹_› ?_
    exact ⟨rfl, rfl⟩
   | true =>
    cases qw : (!g.wait) with
    | false =>
     refine t_and ?_
     refine t_ev (os_n ow_tup) rfl ?_
     refine bif_T ‹_› ?_
     refine t_and ?_
     refine t_ev (os_n ow_tup) rfl ?_
     refine bif_F ‹_› ?_
     exact ⟨rfl, rfl⟩
    | true =>
     cases qd : (!g.done) with
     | false =>
      refine t_and ?_
      refine t_ev (os_n ow_tup) rfl ?_
      refine bif_T ‹_› ?_
      refine t_and ?_
      refine t_ev (os_n ow_tup) rfl ?_
      refine bif_T ‹_› ?_
      refine t_and ?_
      refine t_ev (os_n ow_tup) rfl ?_
      refine bif_F ‹_› ?_
      exact ⟨rfl, rfl⟩
     | true =>
      have no : ∀ {P : Prop}, (g.pos < text.length ∨ closed = true) → P := fun z => by
       rw [st6_ne] at q6
       exact absurd ⟨of_decide_eq_true q6, by simpa using qw, by simpa using qd, z⟩ hg
      cases ql : decide ((g.pos : Int) < (text.length : Int)) with
      | true => exact no (.inl (Int.ofNat_lt.mp (of_decide_eq_true ql)))
      | false =>
       rcases Bool.eq_false_or_eq_true closed with qc | qc
       ·exact no (.inr qc)
       ·refine t_and ?_
        refine t_ev (os_n ow_tup) rfl ?_
        refine bif_T ‹_› ?_
        refine t_and ?_
        refine t_ev (os_n ow_tup) rfl ?_
        refine bif_T ‹_› ?_
        refine t_and ?_
        refine t_ev (os_n ow_tup) rfl ?_
        refine bif_T ‹_› ?_
        refine t_and ?_
        refine t_or ?_
        refine t_cmp rfl ?_
        refine e_ev (os_n ow_tup) rfl ?_
        refine e_bt rfl rfl (os_n ow_tup) rfl ?_
        refine o_lenS ‹_› ?_
        refine o_ltI ?_
        refine bif_F ‹_› ?_
        refine t_or ?_
        refine t_ev (os_n ow_tup) rfl ?_
        refine bif_F ‹_› ?_
        refine t_or0 ?_
        refine bif_f ?_
        exact ⟨rfl, rfl⟩
  have hb4 := hwf.back
  have hls := hwf.last
  have hdk := hwf.draft
  obtain ⟨out, errs, pos, st, bk, buf, code, last, draft, wait, done⟩ := g
  dsimp only at hb4 hls hdk
  have hany : ([backS 0, backS 1, backS 2].any fun x => x == backS bk) = decide (bk < 3) := any_backs (by decide +kernel) hb4
  cases draft with
  | none =>
   refine zk_n ?_
   refine z_let rfl rfl ?_
   refine e_and ?_
   refine e_ev (os_n ow_tup) rfl ?_
   refine jt_b ?_
   refine bif_f ?_
   refine z_let rfl rfl ?_
   refine e_gt rfl rfl rfl (os_n ow_tup) rfl ?_
   refine ltoken_n ?_
   refine z_ret ?_
   refine e_tup ?_
   refine l_cons rfl ?_
   refine e_ev (os_n ow_tup) rfl ?_
   refine l_cons rfl ?_
   refine e_ev (os_n ow_tup) rfl ?_
   refine l_cons rfl ?_
   refine e_ev (os_n ow_tup) rfl ?_
   refine l_cons rfl ?_
   refine e_ev (os_n ow_tup) rfl ?_
   refine l_cons rfl ?_
   refine e_cell rfl rfl ‹_› (.tail _ (.tail _ (.tail _ (.tail _ (.tail _ (.head _)))))) ?_
   refine l_cons rfl ?_
   refine e_ev (os_n ow_tup) rfl ?_
   refine l_cons rfl ?_
   refine e_ev (os_n ow_tup) rfl ?_
   refine l_cons rfl ?_
   refine e_ev (os_n ow_tup) rfl ?_
   refine l_cons rfl ?_
   refine e_ev (os_n ow_tup) rfl ?_
   refine l_cons rfl ?_
   refine e_ev (os_n ow_tup) rfl ?_
   refine l_cons rfl ?_
   refine e_cmp rfl ?_
   refine e_cell rfl rfl ‹_› (.tail _ (.tail _ (.tail _ (.tail _ (.tail _ (.head _)))))) ?_
   refine e_cell rfl rfl ‹_› (.tail _ (.tail _ (.tail _ (.tail _ (.head _))))) ?_
   refine o_inL (.head _) rfl ?_
   refine l_cons rfl ?_
   refine e_ev (os_n ow_tup) rfl ?_
   refine l_cons rfl ?_
   refine e_ev (os_n ow_tup) rfl ?_
   refine l_cons rfl ?_
   refine e_ev (os_n ow_tup) rfl ?_
   refine l_nil ?_
   refine o_tupT ow_tup rfl ?_
   skip
   refine ⟨_, ou, er, hre, hg, ?_, .tail _ (.tail _ (.tail _ (.head _))), .tail _ (.tail _ (.head _))⟩
   unfold seenA
   rw [← hany]
   rfl
  | some dd =>
   have hu : ∀ {cs' : Scope} (c : FD w 8 cs'), c.A.units + 64 < cLine := fun c => by have := c.hu; show c.un + 64 < cLine; lia
   have hdo := hdk dd rfl
   refine zk_n ?_
   refine z_let rfl rfl ?_
   refine e_and ?_
   refine e_ev (os_n ow_tup) rfl ?_
   refine jt_b ?_
   refine bif_T rfl ?_
   refine e_bool1 ?_
   refine e_cmp rfl ?_
   refine e_sl2 ow_tup ?_
   refine e_ev (os_n ow_tup) rfl ?_
   refine ⟨_, _, _, rfl, ?_⟩
   refine e_ev (os_n ow_tup) rfl ?_
   refine o_eqPair hu (k := dd.kind) (n := dd.name) (la := last) hdo.kind hdo.name hls ?_
   refine z_let rfl rfl ?_
   refine e_gt rfl rfl rfl (os_n ow_tup) rfl ?_
   refine ltoken_s (dd := dd) hdo.kind ?_
   refine z_ret ?_
   refine e_tup ?_
   refine l_cons rfl ?_
   refine e_ev (os_n ow_tup) rfl ?_
   refine l_cons rfl ?_
   refine e_ev (os_n ow_tup) rfl ?_
   refine l_cons rfl ?_
   refine e_ev (os_n ow_tup) rfl ?_
   refine l_cons rfl ?_
   refine e_ev (os_n ow_tup) rfl ?_
   refine l_cons rfl ?_
   refine e_cell rfl rfl ‹_› (.tail _ (.tail _ (.tail _ (.tail _ (.tail _ (.head _)))))) ?_
   refine l_cons rfl ?_
   refine e_ev (os_n ow_tup) rfl ?_
   refine l_cons rfl ?_
   refine e_ev (os_n ow_tup) rfl ?_
   refine l_cons rfl ?_
   refine e_ev (os_n ow_tup) rfl ?_
   refine l_cons rfl ?_
   refine e_ev (os_n ow_tup) rfl ?_
   refine l_cons rfl ?_
   refine e_ev (os_n ow_tup) rfl ?_
   refine l_cons rfl ?_
   refine e_cmp rfl ?_
   refine e_cell rfl rfl ‹_› (.tail _ (.tail _ (.tail _ (.tail _ (.tail _ (.head _)))))) ?_
   refine e_cell rfl rfl ‹_› (.tail _ (.tail _ (.tail _ (.tail _ (.head _))))) ?_
   refine o_inL (.head _) rfl ?_
   refine l_cons rfl ?_
   refine e_ev (os_n ow_tup) rfl ?_
   refine l_cons rfl ?_
   refine e_ev (os_n ow_tup) rfl ?_
   refine l_cons rfl ?_
   refine e_ev (os_n ow_tup) rfl ?_
   refine l_nil ?_
   refine o_tupT ow_tup rfl ?_
   skip
   refine ⟨_, ou, er, hre, hg, ?_, .tail _ (.tail _ (.tail _ (.head _))), .tail _ (.tail _ (.head _))⟩
   unfold seenA
   rw [← hany]
   rfl
end
end Mine
end
section
open PySem PySem.W PyProof.Rows PySem.Calls
namespace Mine
section
variable {w : World} {X : TX} {cf : Cfg}
theorem looks_a {word : List Nat} {fold : Bool} {K : AV → Cfg → Prop} (hl : X.text.length ≤ 12) (hc : ∀ c ∈ X.text, c < 1114112) (hw : word.length ≤ 2) (hp : cf.pos ≤ X.text.length) (h : K (.i (looksC word fold X.text X.closed cf.pos)) cf) : JC (tsD X) w 6 307 [.r X.A.t, .s ⟨word.toArray⟩, .b fold] cf K := by
 refine jc_body3X (ofString "self") (ofString "word") (ofString "is_folded") (by k_is) (by k_is) (fun _ _ _ _ hx => binds_K hx rfl (by k_is) rfl rfl rfl) rfl rfl fun c => z_start ?_
 have hwz : word.length ≤ 100000 := Nat.le_trans hw (Nat.le_of_ble_eq_true rfl)
 have hz : X.text.length ≤ 100000 := Nat.le_trans hl (Nat.le_of_ble_eq_true rfl)
 refine z_letE (os_ts (x := ofString "self") rfl) rfl rfl rfl ?_
 refine z_stmt ?_
 refine x_forR (γ := Unit) ⟨gb_range _, by boot_fast, nn_range, db_range⟩ word.length (fun I io => tsD (X.plus I io)) (ts_own X) (fun i _ S => S = cf ∧ (aheadW word fold X.text cf.pos).take i = word.take i ∧ cf.pos + i ≤ X.text.length) (fun _ _ _ => [(ofString "signs", .r X.A.sg), (ofString "is_folded", .b fold), (ofString "word", .s ⟨word.toArray⟩), (ofString "self", .r X.A.t)]) () hwz rfl rfl rfl (fun _ => rfl) ?_ ?_ ?_
 ·refine e_bt rfl rfl (os_ts (x := ofString "self") rfl) rfl ?_
  refine o_lenS ‹_› ?_
  exact ⟨rfl, ⟨rfl, rfl, hp⟩, .of rfl⟩
 ·intro I io hio i _ S hi zf38
  refine xAA zf38 fun zq1 h1 h2 => ?_
  subst zq1
  have hez : ((S.pos : Int) + (i : Int)).toNat = S.pos + i := Int.toNat_natCast (S.pos + i)
  cases hq : decide (((S.pos : Int) + (i : Int)) ≥ (X.text.length : Int)) with
  | true =>
   have q := of_decide_eq_true hq
   have e : S.pos + i = X.text.length := by lia
   have hend := looks_end (closed := X.closed) h1 hi e
   cases hcl : X.closed with
   | true =>
    rw [hend, hcl] at h
    refine z_start ?_
    refine z_if ?_
    refine t_cmp rfl ?_
    refine e_ev (os_ts (x := ofString "self") rfl) rfl ?_
    refine e_bt rfl rfl (os_ts (x := ofString "self") rfl) rfl ?_
    refine s_len ‹_› ?_
    refine o_geI ?_
    refine bif_T ‹_› ?_
    refine z_ifT (os_ts (x := ofString "self") rfl) rfl ‹_› ?_
    refine z_retE (os_ts (x := ofString "self") rfl) rfl ?_
    refine k_loopR ?_
    refine zk_r ?_
    exact h
   | false =>
    rw [hend, hcl] at h
    refine z_start ?_
    refine z_if ?_
    refine t_cmp rfl ?_
    refine e_ev (os_ts (x := ofString "self") rfl) rfl ?_
    refine e_bt rfl rfl (os_ts (x := ofString "self") rfl) rfl ?_
    refine s_len ‹_› ?_
    refine o_geI ?_
    refine bif_T ‹_› ?_
    refine z_ifF (os_ts (x := ofString "self") rfl) rfl ‹_› ?_
    refine z_nil ?_
    refine z_retE (os_ts (x := ofString "self") rfl) rfl ?_
    refine k_loopR ?_
    refine zk_r ?_
    exact h
  | false =>
   have q := of_decide_eq_false hq
   have hlt : S.pos + i < X.text.length := by lia
   have z0 : 0 ≤ (S.pos : Int) + (i : Int) := by lia
   have z1 : (S.pos : Int) + (i : Int) < (X.text.length : Int) := by lia
   have hch : X.text.getD ((S.pos : Int) + (i : Int)).toNat 0 < 1114112 := by
    rw [hez]
    have e : X.text.getD (S.pos + i) 0 = X.text[S.pos + i] := by simp [List.getD_eq_getElem?_getD, hlt]
    rw [e]; exact hc _ (List.getElem_mem hlt)
   cases hf : fold with
   | true =>
    cases hne : chS (lowC (X.text.getD ((S.pos : Int) + (i : Int)).toNat 0)) != chS (word.getD i 0) with
    | true =>
     have h3 := chS_ne hne
     rw [hez] at h3
     rw [looks_ne (i := i) hi hlt (by rw [if_pos hf]; exact h3)] at h
     refine z_start ?_
     refine z_if ?_
     refine t_cmp rfl ?_
     refine e_ev (os_ts (x := ofString "self") rfl) rfl ?_
     refine e_bt rfl rfl (os_ts (x := ofString "self") rfl) rfl ?_
     refine s_len ‹_› ?_
     refine o_geI ?_
     refine bif_F ‹_› ?_
     refine z_nil ?_
     refine z_let rfl rfl ?_
     refine e_sub ?_
     refine e_ev (os_ts (x := ofString "self") rfl) rfl ?_
     refine e_ev (os_ts (x := ofString "self") rfl) rfl ?_
     refine s_sign rfl ‹_› ‹_› ‹_› ?_
     refine z_ifT (os_ts (x := ofString "self") rfl) rfl rfl ?_
     refine z_let rfl rfl ?_
     refine e_gt rfl rfl rfl (os_ts (x := ofString "self") rfl) rfl ?_
     refine lower_a ‹_› ?_
     refine z_nil ?_
     refine z_if ?_
     refine t_cmp rfl ?_
     refine e_ev (os_ts (x := ofString "self") rfl) rfl ?_
     refine e_sub ?_
     refine e_ev (os_ts (x := ofString "self") rfl) rfl ?_
     refine e_ev (os_ts (x := ofString "self") rfl) rfl ?_
     refine o_strI rfl ‹_› ‹_› ?_
     refine o_neS ?_
     refine bif_T ‹_› ?_
     refine z_retE (os_ts (x := ofString "self") rfl) rfl ?_
     refine k_loopR ?_
     refine zk_r ?_
     exact h
    | false =>
     have h3 := chS_eq hne
     rw [hez] at h3
     refine z_start ?_
     refine z_if ?_
     refine t_cmp rfl ?_
     refine e_ev (os_ts (x := ofString "self") rfl) rfl ?_
     refine e_bt rfl rfl (os_ts (x := ofString "self") rfl) rfl ?_
     refine s_len ‹_› ?_
     refine o_geI ?_
     refine bif_F ‹_› ?_
     refine z_nil ?_
     refine z_let rfl rfl ?_
     refine e_sub ?_
     refine e_ev (os_ts (x := ofString "self") rfl) rfl ?_
     refine e_ev (os_ts (x := ofString "self") rfl) rfl ?_
     refine s_sign rfl ‹_› ‹_› ‹_› ?_
     refine z_ifT (os_ts (x := ofString "self") rfl) rfl rfl ?_
     refine z_let rfl rfl ?_
     refine e_gt rfl rfl rfl (os_ts (x := ofString "self") rfl) rfl ?_
     refine lower_a ‹_› ?_
     refine z_nil ?_
     refine z_if ?_
     refine t_cmp rfl ?_
     refine e_ev (os_ts (x := ofString "self") rfl) rfl ?_
     refine e_sub ?_
     refine e_ev (os_ts (x := ofString "self") rfl) rfl ?_
     refine e_ev (os_ts (x := ofString "self") rfl) rfl ?_
     refine o_strI rfl ‹_› ‹_› ?_
     refine o_neS ?_
     refine bif_F ‹_› ?_
     refine z_nil ?_
     refine z_nil ?_
     refine z_end ?_
     exact ⟨(), ⟨rfl, hf ▸ looks_eq h1 hi hlt (by rw [if_pos hf]; exact h3), hlt⟩, .of rfl⟩
   | false =>
    cases hne : chS (X.text.getD ((S.pos : Int) + (i : Int)).toNat 0) != chS (word.getD i 0) with
    | true =>
     have h3 := chS_ne hne
     rw [hez] at h3
     rw [looks_ne (i := i) hi hlt (by rw [if_neg (by rw [hf]; decide)]; exact h3)] at h
     refine z_start ?_
     refine z_if ?_
     refine t_cmp rfl ?_
     refine e_ev (os_ts (x := ofString "self") rfl) rfl ?_
     refine e_bt rfl rfl (os_ts (x := ofString "self") rfl) rfl ?_
     refine s_len ‹_› ?_
     refine o_geI ?_
     refine bif_F ‹_› ?_
     refine z_nil ?_
     refine z_let rfl rfl ?_
     refine e_sub ?_
     refine e_ev (os_ts (x := ofString "self") rfl) rfl ?_
     refine e_ev (os_ts (x := ofString "self") rfl) rfl ?_
     refine s_sign rfl ‹_› ‹_› ‹_› ?_
     refine z_ifF (os_ts (x := ofString "self") rfl) rfl rfl ?_
     refine z_nil ?_
     refine z_if ?_
     refine t_cmp rfl ?_
     refine e_ev (os_ts (x := ofString "self") rfl) rfl ?_
     refine e_sub ?_
     refine e_ev (os_ts (x := ofString "self") rfl) rfl ?_
     refine e_ev (os_ts (x := ofString "self") rfl) rfl ?_
     refine o_strI rfl ‹_› ‹_› ?_
     refine o_neS ?_
     refine bif_T ‹_› ?_
     refine z_retE (os_ts (x := ofString "self") rfl) rfl ?_
     refine k_loopR ?_
     refine zk_r ?_
     exact h
    | false =>
     have h3 := chS_eq hne
     rw [hez] at h3
     refine z_start ?_
     refine z_if ?_
     refine t_cmp rfl ?_
     refine e_ev (os_ts (x := ofString "self") rfl) rfl ?_
     refine e_bt rfl rfl (os_ts (x := ofString "self") rfl) rfl ?_
     refine s_len ‹_› ?_
     refine o_geI ?_
     refine bif_F ‹_› ?_
     refine z_nil ?_
     refine z_let rfl rfl ?_
     refine e_sub ?_
     refine e_ev (os_ts (x := ofString "self") rfl) rfl ?_
     refine e_ev (os_ts (x := ofString "self") rfl) rfl ?_
     refine s_sign rfl ‹_› ‹_› ‹_› ?_
     refine z_ifF (os_ts (x := ofString "self") rfl) rfl rfl ?_
     refine z_nil ?_
     refine z_if ?_
     refine t_cmp rfl ?_
     refine e_ev (os_ts (x := ofString "self") rfl) rfl ?_
     refine e_sub ?_
     refine e_ev (os_ts (x := ofString "self") rfl) rfl ?_
     refine e_ev (os_ts (x := ofString "self") rfl) rfl ?_
     refine o_strI rfl ‹_› ‹_› ?_
     refine o_neS ?_
     refine bif_F ‹_› ?_
     refine z_nil ?_
     refine z_nil ?_
     refine z_end ?_
     exact ⟨(), ⟨rfl, hf ▸ looks_eq h1 hi hlt (by rw [if_neg (by rw [hf]; decide)]; exact h3), hlt⟩, .of rfl⟩
 ·intro _ S zf39
  refine xAA zf39 fun zq2 h1 h2 => ?_
  subst zq2
  rw [looks_all h1] at h
  refine zk_n ?_
  refine z_retE (os_ts (x := ofString "self") rfl) rfl ?_
  exact h
end
section
variable {w : World} {X : TX} {cf : Cfg}
theorem looks_v {word : List Nat} {fold : Bool} {z : Int} {K : AV → Cfg → Prop} (hT : TextOk X.text) (hw : word.length ≤ 2) (hp : cf.pos ≤ X.text.length) (e : looksC word fold X.text X.closed cf.pos = z) (h : K (.i z) cf) : JC (tsD X) w 6 307 [.r X.A.t, .s ⟨word.toArray⟩, .b fold] cf K :=
 looks_a hT.1 (fun c hc => (hT.2 c hc).1) hw hp (e ▸ h)
end
end Mine
end
section
open PySem PySem.W PyProof.Rows PySem.Calls
namespace Mine
section
variable {w : World} {X : TX} {cf : Cfg} {rows : Nat → Row} {txt : List Nat}
theorem rule_a {K : AV → Cfg → Prop} (G : RG w X rows txt) (W : Wf X.text cf) (h6 : cf.st < 6) (hwt : cf.wait = false) (hdn : cf.done = false) (h : K .n (ruleC rows X.text X.closed cf)) : JC (tsD X) w 9 487 [.r X.A.t] cf K := by
 refine xEEEEEEEE (id G.env) fun so tobj kvs kvt ro to rvs rk N => ?_
 have hso := N.mso
 have hsd := N.sd
 have hvr := N.vr
 have hvt := N.vt
 have hto := N.mto
 have htd := N.td
 have hro := N.mro
 refine xEA (N.rw _ h6) fun ra hra hRA => ?_
 have hrow : (AV.d (rowD (rows cf.st))).Is X.base (.ref ra) := .d (rowAt_in hRA) rfl
 have hst : cf.st < 100000 := Nat.lt_trans h6 (by decide)
 have hR := G.rok _ h6
 have hT := G.tok
 have hz : X.text.length ≤ 100000 := Nat.le_trans hT.1 (by decide)
 have hlen := hT.1
 have hpos := W.posd hdn
 have zo : cf.out.length ≤ 700 := Nat.le_trans W.out (by lia)
 have zo1 : cf.out.length ≤ 100000 := Nat.le_trans zo (by decide)
 have ze : cf.errs.length ≤ 700 := Nat.le_trans W.errs (by lia)
 have zb : cf.buf.length ≤ 12 := Nat.le_trans W.buf.2 hlen
 have zd : ∀ d, cf.draft = some d → d.kind ≤ 2 := fun d hd => (W.draft d hd).kind
 have hwl : (rows cf.st).word.length ≤ 2 := by
  rcases hR.word with e | ⟨_, e | e | e⟩ <;> rw [e] <;> decide
 have hwz : (rows cf.st).word.length ≤ 100000 := Nat.le_trans hwl (by decide)
 refine jc_body1 (ofString "t") (by k_is) (by k_is) (fun _ _ => BindsTo.of_eq rfl) rfl rfl fun c => z_start ?_
 cases e : X.text[cf.pos]? with
 | none =>
  rw [ruleC_eof e hwt] at h
  refine z_let rfl rfl ?_
  refine e_sub ?_
  refine e_sub ?_
  refine e_ev (os_ts (x := ofString "t") rfl) rfl ?_
  refine e_ev (os_ts (x := ofString "t") rfl) rfl ?_
  refine s_dS rfl ‹_› ‹_› ‹_› ?_
  refine e_tt rfl rfl (os_ts (x := ofString "t") rfl) rfl ?_
  refine o_intS ‹_› ?_
  refine s_lG rfl ‹_› ‹_› ‹_› ‹_› ?_
  refine z_stmt ?_
  refine x_unpack (fun _ _ _ => rfl) rfl rfl (fun _ _ => rfl) (fun _ => ⟨rfl, rfl⟩) ?_
  refine e_ev (os_ts (x := ofString "t") rfl) rfl ?_
  refine unpK_i rfl (by repeat' constructor) (by repeat' constructor) ?_
  refine zk_n ?_
  refine z_let rfl rfl ?_
  refine e_mt rfl rfl rfl rfl rfl ?_
  refine next_e ‹_› ‹_› ?_
  refine z_ifT (os_ts (x := ofString "t") rfl) rfl rfl ?_
  refine z_expr rfl ?_
  refine e_mt rfl rfl rfl rfl rfl ?_
  refine eof_a ‹_› ?_
  refine z_ret0 ?_
  exact h
 | some ch =>
  have hm := List.mem_of_getElem? e
  have hch := (hT.2 ch hm).1
  have hct := G.sub ch hm
  have hne : (chS ch == ofString "") = false := chS_ee
  have hlt : cf.pos < X.text.length := by
   rcases Nat.lt_or_ge cf.pos X.text.length with q | q
   ·exact q
   ·rw [List.getElem?_eq_none q] at e; cases e
  have hp1 : cf.pos + 1 ≤ X.text.length := hlt
  refine xEEEA (N.tv ch hct) fun xa xk xt hxv hxm => ?_
  have htl := told_at (c := ch) (t := xt) hR.test
  have htl : (toldVs ch xt)[(rows cf.st).test]? = some (.bool (kindB (rows cf.st).test ch)) := htl
  have hti : (AV.b (kindB (rows cf.st).test ch)).Is X.base (.bool (kindB (rows cf.st).test ch)) := .b _
  have htz : (rows cf.st).test < 100000 := Nat.lt_of_le_of_lt hR.test (by decide)
  cases hw : ((⟨(rows cf.st).word.toArray⟩ : PySem.Str) != ofString "") with
  | true =>
   have hw' : (rows cf.st).word ≠ [] := of_decide_eq_true (xS_ne.symm.trans hw)
   rcases looksC_or (text := X.text) (closed := X.closed) (word := (rows cf.st).word) (fold := (rows cf.st).fold) (p := cf.pos + 1) with q | q | q
   ·rw [ruleC_yes e q (fun z => hw' z.1) hwt] at h
    refine z_let rfl rfl ?_
    refine e_sub ?_
    refine e_sub ?_
    refine e_ev (os_ts (x := ofString "t") rfl) rfl ?_
    refine e_ev (os_ts (x := ofString "t") rfl) rfl ?_
    refine s_dS rfl ‹_› ‹_› ‹_› ?_
    refine e_tt rfl rfl (os_ts (x := ofString "t") rfl) rfl ?_
    refine o_intS ‹_› ?_
    refine s_lG rfl ‹_› ‹_› ‹_› ‹_› ?_
    refine z_stmt ?_
    refine x_unpack (fun _ _ _ => rfl) rfl rfl (fun _ _ => rfl) (fun _ => ⟨rfl, rfl⟩) ?_
    refine e_ev (os_ts (x := ofString "t") rfl) rfl ?_
    refine unpK_i rfl (by repeat' constructor) (by repeat' constructor) ?_
    refine zk_n ?_
    refine z_let rfl rfl ?_
    refine e_mt rfl rfl rfl rfl rfl ?_
    refine next_s ‹_› ‹_› ?_
    refine z_ifF (os_ts (x := ofString "t") rfl) rfl rfl ?_
    refine z_nil ?_
    refine z_letE (os_ts (x := ofString "t") rfl) rfl rfl rfl ?_
    refine z_ifT (os_ts (x := ofString "t") rfl) rfl ‹_› ?_
    refine z_let rfl rfl ?_
    refine e_mt rfl rfl rfl rfl rfl ?_
    refine looks_v ‹_› ‹_› ‹_› ‹_› ?_
    refine z_nil ?_
    refine z_ifF (os_ts (x := ofString "t") rfl) rfl rfl ?_
    refine z_ifT (os_ts (x := ofString "t") rfl) rfl rfl ?_
    refine z_expr rfl ?_
    refine e_mtJ rfl rfl rfl rfl ?_
    refine l_cons rfl ?_
    refine e_bt rfl rfl (os_ts (x := ofString "t") rfl) rfl ?_
    refine o_lenS ‹_› ?_
    refine l_nil ?_
    refine take_a ?_
    refine z_expr rfl ?_
    refine e_gt rfl rfl rfl (os_ts (x := ofString "t") rfl) rfl ?_
    refine do_a (r := rows cf.st) G hR.deed hR.kind hch hct zo ze zb W.back zd ?_
    refine z_expr rfl ?_
    refine e_mt rfl rfl rfl rfl rfl ?_
    refine to_a ?_
    refine z_nil ?_
    refine z_nil ?_
    refine z_nil ?_
    refine z_end ?_
    exact h
   ·have hno : (rows cf.st).no ≠ 0 := by
     rcases hR.word with z | ⟨z, _⟩
     ·exact absurd z hw'
     ·have := hR.no.1 z; lia
    rw [ruleC_no e (.inl q) hwt] at h
    refine z_let rfl rfl ?_
    refine e_sub ?_
    refine e_sub ?_
    refine e_ev (os_ts (x := ofString "t") rfl) rfl ?_
    refine e_ev (os_ts (x := ofString "t") rfl) rfl ?_
    refine s_dS rfl ‹_› ‹_› ‹_› ?_
    refine e_tt rfl rfl (os_ts (x := ofString "t") rfl) rfl ?_
    refine o_intS ‹_› ?_
    refine s_lG rfl ‹_› ‹_› ‹_› ‹_› ?_
    refine z_stmt ?_
    refine x_unpack (fun _ _ _ => rfl) rfl rfl (fun _ _ => rfl) (fun _ => ⟨rfl, rfl⟩) ?_
    refine e_ev (os_ts (x := ofString "t") rfl) rfl ?_
    refine unpK_i rfl (by repeat' constructor) (by repeat' constructor) ?_
    refine zk_n ?_
    refine z_let rfl rfl ?_
    refine e_mt rfl rfl rfl rfl rfl ?_
    refine next_s ‹_› ‹_› ?_
    refine z_ifF (os_ts (x := ofString "t") rfl) rfl rfl ?_
    refine z_nil ?_
    refine z_letE (os_ts (x := ofString "t") rfl) rfl rfl rfl ?_
    refine z_ifT (os_ts (x := ofString "t") rfl) rfl ‹_› ?_
    refine z_let rfl rfl ?_
    refine e_mt rfl rfl rfl rfl rfl ?_
    refine looks_v ‹_› ‹_› ‹_› ‹_› ?_
    refine z_nil ?_
    refine z_ifF (os_ts (x := ofString "t") rfl) rfl rfl ?_
    refine z_ifF (os_ts (x := ofString "t") rfl) rfl rfl ?_
    refine z_expr rfl ?_
    refine e_mt rfl rfl rfl rfl rfl ?_
    refine again_n (Nat.succ_pos _) ‹_› ?_
    refine z_nil ?_
    refine z_nil ?_
    refine z_nil ?_
    refine z_end ?_
    exact h
   ·rw [ruleC_wait e q] at h
    refine z_let rfl rfl ?_
    refine e_sub ?_
    refine e_sub ?_
    refine e_ev (os_ts (x := ofString "t") rfl) rfl ?_
    refine e_ev (os_ts (x := ofString "t") rfl) rfl ?_
    refine s_dS rfl ‹_› ‹_› ‹_› ?_
    refine e_tt rfl rfl (os_ts (x := ofString "t") rfl) rfl ?_
    refine o_intS ‹_› ?_
    refine s_lG rfl ‹_› ‹_› ‹_› ‹_› ?_
    refine z_stmt ?_
    refine x_unpack (fun _ _ _ => rfl) rfl rfl (fun _ _ => rfl) (fun _ => ⟨rfl, rfl⟩) ?_
    refine e_ev (os_ts (x := ofString "t") rfl) rfl ?_
    refine unpK_i rfl (by repeat' constructor) (by repeat' constructor) ?_
    refine zk_n ?_
    refine z_let rfl rfl ?_
    refine e_mt rfl rfl rfl rfl rfl ?_
    refine next_s ‹_› ‹_› ?_
    refine z_ifF (os_ts (x := ofString "t") rfl) rfl rfl ?_
    refine z_nil ?_
    refine z_letE (os_ts (x := ofString "t") rfl) rfl rfl rfl ?_
    refine z_ifT (os_ts (x := ofString "t") rfl) rfl ‹_› ?_
    refine z_let rfl rfl ?_
    refine e_mt rfl rfl rfl rfl rfl ?_
    refine looks_v ‹_› ‹_› ‹_› ‹_› ?_
    refine z_nil ?_
    refine z_ifT (os_ts (x := ofString "t") rfl) rfl rfl ?_
    refine z_expr rfl ?_
    refine e_mt rfl rfl rfl rfl rfl ?_
    refine wait_a ?_
    refine z_nil ?_
    refine z_nil ?_
    refine z_end ?_
    exact h
  | false =>
   have hw' : (rows cf.st).word = [] := Classical.not_not.mp (of_decide_eq_false (xS_ne.symm.trans hw))
   have hl1 : looksC (rows cf.st).word (rows cf.st).fold X.text X.closed (cf.pos + 1) = 1 := by rw [hw']; exact looksC_nil
   cases hn : (noS (rows cf.st).no != ofString "") with
   | true =>
    have hno : (rows cf.st).no ≠ 0 := of_decide_eq_true (noS_ne.symm.trans hn)
    cases hk : kindB (rows cf.st).test ch with
    | true =>
     rw [ruleC_yes e hl1 (fun z => by rw [hk] at z; exact nomatch z.2.2) hwt] at h
     rw [hk] at hti htl
     refine z_let rfl rfl ?_
     refine e_sub ?_
     refine e_sub ?_
     refine e_ev (os_ts (x := ofString "t") rfl) rfl ?_
     refine e_ev (os_ts (x := ofString "t") rfl) rfl ?_
     refine s_dS rfl ‹_› ‹_› ‹_› ?_
     refine e_tt rfl rfl (os_ts (x := ofString "t") rfl) rfl ?_
     refine o_intS ‹_› ?_
     refine s_lG rfl ‹_› ‹_› ‹_› ‹_› ?_
     refine z_stmt ?_
     refine x_unpack (fun _ _ _ => rfl) rfl rfl (fun _ _ => rfl) (fun _ => ⟨rfl, rfl⟩) ?_
     refine e_ev (os_ts (x := ofString "t") rfl) rfl ?_
     refine unpK_i rfl (by repeat' constructor) (by repeat' constructor) ?_
     refine zk_n ?_
     refine z_let rfl rfl ?_
     refine e_mt rfl rfl rfl rfl rfl ?_
     refine next_s ‹_› ‹_› ?_
     refine z_ifF (os_ts (x := ofString "t") rfl) rfl rfl ?_
     refine z_nil ?_
     refine z_letE (os_ts (x := ofString "t") rfl) rfl rfl rfl ?_
     refine z_ifF (os_ts (x := ofString "t") rfl) rfl ‹_› ?_
     refine z_if ?_
     refine t_and ?_
     refine t_ev (os_ts (x := ofString "t") rfl) rfl ?_
     refine bif_T ‹_› ?_
     refine t_and ?_
     refine t_not ?_
     refine t_plain rfl ?_
     refine e_sub ?_
     refine e_sub ?_
     refine e_sub ?_
     refine e_ev (os_ts (x := ofString "t") rfl) rfl ?_
     refine e_ev (os_ts (x := ofString "t") rfl) rfl ?_
     refine s_dS rfl ‹_› ‹_› ‹_› ?_
     refine e_bt rfl rfl (os_ts (x := ofString "t") rfl) rfl ?_
     refine o_ord ?_
     refine s_dI rfl ‹_› ‹_› ‹_› ?_
     refine e_ev (os_ts (x := ofString "t") rfl) rfl ?_
     refine s_lG rfl ‹_› ‹_› ‹_› ‹_› ?_
     refine o_truthy ?_
     refine bif_F rfl ?_
     refine bif_f ?_
     refine z_nil ?_
     refine z_nil ?_
     refine z_ifF (os_ts (x := ofString "t") rfl) rfl rfl ?_
     refine z_ifT (os_ts (x := ofString "t") rfl) rfl rfl ?_
     refine z_expr rfl ?_
     refine e_mtJ rfl rfl rfl rfl ?_
     refine l_cons rfl ?_
     refine e_bt rfl rfl (os_ts (x := ofString "t") rfl) rfl ?_
     refine o_lenS ‹_› ?_
     refine l_nil ?_
     refine take_a ?_
     refine z_expr rfl ?_
     refine e_gt rfl rfl rfl (os_ts (x := ofString "t") rfl) rfl ?_
     refine do_a (r := rows cf.st) G hR.deed hR.kind hch hct zo ze zb W.back zd ?_
     refine z_expr rfl ?_
     refine e_mt rfl rfl rfl rfl rfl ?_
     refine to_a ?_
     refine z_nil ?_
     refine z_nil ?_
     refine z_nil ?_
     refine z_end ?_
     exact h
    | false =>
     rw [ruleC_no e (.inr ⟨hw', hno, hk⟩) hwt] at h
     rw [hk] at hti htl
     refine z_let rfl rfl ?_
     refine e_sub ?_
     refine e_sub ?_
     refine e_ev (os_ts (x := ofString "t") rfl) rfl ?_
     refine e_ev (os_ts (x := ofString "t") rfl) rfl ?_
     refine s_dS rfl ‹_› ‹_› ‹_› ?_
     refine e_tt rfl rfl (os_ts (x := ofString "t") rfl) rfl ?_
     refine o_intS ‹_› ?_
     refine s_lG rfl ‹_› ‹_› ‹_› ‹_› ?_
     refine z_stmt ?_
     refine x_unpack (fun _ _ _ => rfl) rfl rfl (fun _ _ => rfl) (fun _ => ⟨rfl, rfl⟩) ?_
     refine e_ev (os_ts (x := ofString "t") rfl) rfl ?_
     refine unpK_i rfl (by repeat' constructor) (by repeat' constructor) ?_
     refine zk_n ?_
     refine z_let rfl rfl ?_
     refine e_mt rfl rfl rfl rfl rfl ?_
     refine next_s ‹_› ‹_› ?_
     refine z_ifF (os_ts (x := ofString "t") rfl) rfl rfl ?_
     refine z_nil ?_
     refine z_letE (os_ts (x := ofString "t") rfl) rfl rfl rfl ?_
     refine z_ifF (os_ts (x := ofString "t") rfl) rfl ‹_› ?_
     refine z_if ?_
     refine t_and ?_
     refine t_ev (os_ts (x := ofString "t") rfl) rfl ?_
     refine bif_T ‹_› ?_
     refine t_and ?_
     refine t_not ?_
     refine t_plain rfl ?_
     refine e_sub ?_
     refine e_sub ?_
     refine e_sub ?_
     refine e_ev (os_ts (x := ofString "t") rfl) rfl ?_
     refine e_ev (os_ts (x := ofString "t") rfl) rfl ?_
     refine s_dS rfl ‹_› ‹_› ‹_› ?_
     refine e_bt rfl rfl (os_ts (x := ofString "t") rfl) rfl ?_
     refine o_ord ?_
     refine s_dI rfl ‹_› ‹_› ‹_› ?_
     refine e_ev (os_ts (x := ofString "t") rfl) rfl ?_
     refine s_lG rfl ‹_› ‹_› ‹_› ‹_› ?_
     refine o_truthy ?_
     refine bif_T rfl ?_
     refine t_and0 ?_
     refine bif_t ?_
     refine z_letE (os_ts (x := ofString "t") rfl) rfl rfl rfl ?_
     refine z_nil ?_
     refine z_nil ?_
     refine z_ifF (os_ts (x := ofString "t") rfl) rfl rfl ?_
     refine z_ifF (os_ts (x := ofString "t") rfl) rfl rfl ?_
     refine z_expr rfl ?_
     refine e_mt rfl rfl rfl rfl rfl ?_
     refine again_n (Nat.succ_pos _) ‹_› ?_
     refine z_nil ?_
     refine z_nil ?_
     refine z_nil ?_
     refine z_end ?_
     exact h
   | false =>
    have hno : ¬ (rows cf.st).no ≠ 0 := of_decide_eq_false (noS_ne.symm.trans hn)
    rw [ruleC_yes e hl1 (fun z => hno z.2.1) hwt] at h
    refine z_let rfl rfl ?_
    refine e_sub ?_
    refine e_sub ?_
    refine e_ev (os_ts (x := ofString "t") rfl) rfl ?_
    refine e_ev (os_ts (x := ofString "t") rfl) rfl ?_
    refine s_dS rfl ‹_› ‹_› ‹_› ?_
    refine e_tt rfl rfl (os_ts (x := ofString "t") rfl) rfl ?_
    refine o_intS ‹_› ?_
    refine s_lG rfl ‹_› ‹_› ‹_› ‹_› ?_
    refine z_stmt ?_
    refine x_unpack (fun _ _ _ => rfl) rfl rfl (fun _ _ => rfl) (fun _ => ⟨rfl, rfl⟩) ?_
    refine e_ev (os_ts (x := ofString "t") rfl) rfl ?_
    refine unpK_i rfl (by repeat' constructor) (by repeat' constructor) ?_
    refine zk_n ?_
    refine z_let rfl rfl ?_
    refine e_mt rfl rfl rfl rfl rfl ?_
    refine next_s ‹_› ‹_› ?_
    refine z_ifF (os_ts (x := ofString "t") rfl) rfl rfl ?_
    refine z_nil ?_
    refine z_letE (os_ts (x := ofString "t") rfl) rfl rfl rfl ?_
    refine z_ifF (os_ts (x := ofString "t") rfl) rfl ‹_› ?_
    refine z_if ?_
    refine t_and ?_
    refine t_ev (os_ts (x := ofString "t") rfl) rfl ?_
    refine bif_F ‹_› ?_
    refine bif_f ?_
    refine z_nil ?_
    refine z_nil ?_
    refine z_ifF (os_ts (x := ofString "t") rfl) rfl rfl ?_
    refine z_ifT (os_ts (x := ofString "t") rfl) rfl rfl ?_
    refine z_expr rfl ?_
    refine e_mtJ rfl rfl rfl rfl ?_
    refine l_cons rfl ?_
    refine e_bt rfl rfl (os_ts (x := ofString "t") rfl) rfl ?_
    refine o_lenS ‹_› ?_
    refine l_nil ?_
    refine take_a ?_
    refine z_expr rfl ?_
    refine e_gt rfl rfl rfl (os_ts (x := ofString "t") rfl) rfl ?_
    refine do_a (r := rows cf.st) G hR.deed hR.kind hch hct zo ze zb W.back zd ?_
    refine z_expr rfl ?_
    refine e_mt rfl rfl rfl rfl rfl ?_
    refine to_a ?_
    refine z_nil ?_
    refine z_nil ?_
    refine z_nil ?_
    refine z_end ?_
    exact h
end
section
variable {w : World} {X : TX} {cf : Cfg} {rows : Nat → Row} {txt : List Nat}
theorem unwait_wfJ {text : List Nat} {c : Cfg} (W : Wf text c) : Wf text (unwait c) := ⟨W.pos, W.posd, W.st, W.back, W.buf, W.bufc, W.out, W.outc, W.errs, W.errc, W.code, W.last, W.draft⟩
theorem step_a {K : AV → Cfg → Prop} (G : RG w X rows txt) (W : Wf X.text cf) (h6 : cf.st < 6) (hdn : cf.done = false) (h : K .n (stepC rows X.text X.closed (unwait cf))) : JC (tsD X) w 11 342 [.r X.A.t] cf K := by
 refine xEEEEEEEE (id G.env) fun so tobj kvs kvt ro to rvs rk N => ?_
 have hso := N.mso
 have hsd := N.sd
 have hsm := N.sm
 have hvn := N.vn _ h6
 have hb : (valueAt kvs (stS cf.st)).isSome = true := by rw [hvn]; rfl
 refine jc_body1 (ofString "self") (by k_is) (by k_is) (fun _ _ => BindsTo.of_eq rfl) rfl rfl fun c => z_start ?_
 cases hw : (stepC rows X.text X.closed (unwait cf)).wait with
 | true =>
  have e : ruleC rows X.text X.closed (unwait cf) = { stepC rows X.text X.closed (unwait cf) with pos := cf.pos + 1 } := if_pos hw
  have e2 : (ruleC rows X.text X.closed (unwait cf)).wait = true := by rw [e]; exact hw
  have q3' := congrArg Cfg.pos (step_wait (rows := rows) (t := X.text) (b := X.closed) (c := unwait cf) rfl hw)
  have q3 : (stepC rows X.text X.closed (unwait cf)).pos = cf.pos := q3'
  refine z_if ?_
  refine t_cmp rfl ?_
  refine e_ev (os_ts (x := ofString "self") rfl) rfl ?_
  refine e_ev (os_ts (x := ofString "self") rfl) rfl ?_
  refine o_notinD ‹_› ‹_› ‹_› ‹_› ?_
  refine bif_F rfl ?_
  refine z_nil ?_
  refine z_setA (os_ts (x := ofString "self") rfl) rfl rfl rfl ?_
  refine s_setWait ?_
  refine z_letE (os_ts (x := ofString "self") rfl) rfl rfl rfl ?_
  refine z_let rfl rfl ?_
  refine e_sub ?_
  refine e_ev (os_ts (x := ofString "self") rfl) rfl ?_
  refine e_ev (os_ts (x := ofString "self") rfl) rfl ?_
  refine s_dS rfl ‹_› ‹_› ‹_› ?_
  refine z_expr rfl ?_
  refine e_callL (dd := 9) rfl rfl (kp_law_rule _) rfl ?_
  refine l_cons rfl ?_
  refine e_ev (os_ts (x := ofString "self") rfl) rfl ?_
  refine l_nil ?_
  refine rule_a G (cf := unwait cf) (unwait_wfJ W) h6 rfl hdn ?_
  refine z_ifT (os_ts (x := ofString "self") rfl) rfl ‹_› ?_
  refine z_setA (os_ts (x := ofString "self") rfl) rfl rfl rfl ?_
  refine s_setAt rfl ?_
  refine z_nil ?_
  refine z_nil ?_
  refine z_end ?_
  rw [e]
  have e4 : ({ stepC rows X.text X.closed (unwait cf) with pos := cf.pos } : Cfg) = stepC rows X.text X.closed (unwait cf) := by
   rw [← q3]
  exact e4 ▸ h
 | false =>
  have e : ruleC rows X.text X.closed (unwait cf) = stepC rows X.text X.closed (unwait cf) := if_neg (by rw [hw]; decide)
  have e2 : (ruleC rows X.text X.closed (unwait cf)).wait = false := by rw [e]; exact hw
  refine z_if ?_
  refine t_cmp rfl ?_
  refine e_ev (os_ts (x := ofString "self") rfl) rfl ?_
  refine e_ev (os_ts (x := ofString "self") rfl) rfl ?_
  refine o_notinD ‹_› ‹_› ‹_› ‹_› ?_
  refine bif_F rfl ?_
  refine z_nil ?_
  refine z_setA (os_ts (x := ofString "self") rfl) rfl rfl rfl ?_
  refine s_setWait ?_
  refine z_letE (os_ts (x := ofString "self") rfl) rfl rfl rfl ?_
  refine z_let rfl rfl ?_
  refine e_sub ?_
  refine e_ev (os_ts (x := ofString "self") rfl) rfl ?_
  refine e_ev (os_ts (x := ofString "self") rfl) rfl ?_
  refine s_dS rfl ‹_› ‹_› ‹_› ?_
  refine z_expr rfl ?_
  refine e_callL (dd := 9) rfl rfl (kp_law_rule _) rfl ?_
  refine l_cons rfl ?_
  refine e_ev (os_ts (x := ofString "self") rfl) rfl ?_
  refine l_nil ?_
  refine rule_a G (cf := unwait cf) (unwait_wfJ W) h6 rfl hdn ?_
  refine z_ifF (os_ts (x := ofString "self") rfl) rfl ‹_› ?_
  refine z_nil ?_
  refine z_nil ?_
  refine z_end ?_
  exact e ▸ h
theorem ready_a {K : AV → Cfg → Prop} (G : RG w X rows txt) (W : Wf X.text cf) (b : Bool) (hb : b = true ↔ goC X.text X.closed cf) (h : K (.b b) cf) : JC (tsD X) w 4 349 [.r X.A.t] cf K := by
 refine xEEEEEEEE (id G.env) fun so tobj kvs kvt ro to rvs rk N => ?_
 have hso := N.mso
 have hsd := N.sd
 have hsm := N.sm
 have hz : X.text.length ≤ 100000 := Nat.le_trans G.tok.1 (by decide)
 refine jc_body1 (ofString "self") (by k_is) (by k_is) (fun _ _ => BindsTo.of_eq rfl) rfl rfl fun c => z_start ?_
 have neg : ¬ goC X.text X.closed cf → b = false := fun q => by cases b; rfl; exact absurd (hb.mp rfl) q
 cases q1 : cf.done with
 | true =>
  cases neg fun z => nomatch q1.symm.trans z.2.2.1
  refine z_if ?_
  refine t_or ?_
  refine t_ev (os_ts (x := ofString "self") rfl) rfl ?_
  refine bif_T ‹_› ?_
  refine bif_t ?_
  refine z_retE (os_ts (x := ofString "self") rfl) rfl ?_
  exact h
 | false =>
  cases q2 : cf.wait with
  | true =>
   cases neg fun z => nomatch q2.symm.trans z.2.1
   refine z_if ?_
   refine t_or ?_
   refine t_ev (os_ts (x := ofString "self") rfl) rfl ?_
   refine bif_F ‹_› ?_
   refine t_or ?_
   refine t_ev (os_ts (x := ofString "self") rfl) rfl ?_
   refine bif_T ‹_› ?_
   refine bif_t ?_
   refine z_retE (os_ts (x := ofString "self") rfl) rfl ?_
   exact h
  | false =>
   by_cases q3 : cf.st = 6
   ·cases neg fun z => z.1 q3
    have hn : (valueAt kvs (stS cf.st)).isSome = false := by rw [q3, N.v6]; rfl
    refine z_if ?_
    refine t_or ?_
    refine t_ev (os_ts (x := ofString "self") rfl) rfl ?_
    refine bif_F ‹_› ?_
    refine t_or ?_
    refine t_ev (os_ts (x := ofString "self") rfl) rfl ?_
    refine bif_F ‹_› ?_
    refine t_or ?_
    refine t_cmp rfl ?_
    refine e_ev (os_ts (x := ofString "self") rfl) rfl ?_
    refine e_ev (os_ts (x := ofString "self") rfl) rfl ?_
    refine o_notinD ‹_› ‹_› ‹_› ‹_› ?_
    refine bif_T rfl ?_
    refine bif_t ?_
    refine z_retE (os_ts (x := ofString "self") rfl) rfl ?_
    exact h
   ·have hn : (valueAt kvs (stS cf.st)).isSome = true := by
     have := W.st
     rw [N.vn cf.st (by lia)]; rfl
    cases q4 : X.closed with
    | true =>
     cases hb.mpr ⟨q3, q2, q1, .inr q4⟩
     refine z_if ?_
     refine t_or ?_
     refine t_ev (os_ts (x := ofString "self") rfl) rfl ?_
     refine bif_F ‹_› ?_
     refine t_or ?_
     refine t_ev (os_ts (x := ofString "self") rfl) rfl ?_
     refine bif_F ‹_› ?_
     refine t_or ?_
     refine t_cmp rfl ?_
     refine e_ev (os_ts (x := ofString "self") rfl) rfl ?_
     refine e_ev (os_ts (x := ofString "self") rfl) rfl ?_
     refine o_notinD ‹_› ‹_› ‹_› ‹_› ?_
     refine bif_F rfl ?_
     refine t_or0 ?_
     refine bif_f ?_
     refine z_nil ?_
     refine z_ret ?_
     refine e_or ?_
     refine e_ev (os_ts (x := ofString "self") rfl) rfl ?_
     refine jt_b ?_
     refine bif_T ‹_› ?_
     exact q4 ▸ h
    | false =>
     have e : decide ((cf.pos : Int) < (X.text.length : Int)) = b := by
      cases b with
      | true =>
       rcases (hb.mp rfl).2.2.2 with z | z
       ·exact decide_eq_true (Int.ofNat_lt.mpr z)
       ·exact nomatch q4.symm.trans z
      | false => exact decide_eq_false fun z => nomatch hb.mpr ⟨q3, q2, q1, .inl (Int.ofNat_lt.mp z)⟩
     refine z_if ?_
     refine t_or ?_
     refine t_ev (os_ts (x := ofString "self") rfl) rfl ?_
     refine bif_F ‹_› ?_
     refine t_or ?_
     refine t_ev (os_ts (x := ofString "self") rfl) rfl ?_
     refine bif_F ‹_› ?_
     refine t_or ?_
     refine t_cmp rfl ?_
     refine e_ev (os_ts (x := ofString "self") rfl) rfl ?_
     refine e_ev (os_ts (x := ofString "self") rfl) rfl ?_
     refine o_notinD ‹_› ‹_› ‹_› ‹_› ?_
     refine bif_F rfl ?_
     refine t_or0 ?_
     refine bif_f ?_
     refine z_nil ?_
     refine z_ret ?_
     refine e_or ?_
     refine e_ev (os_ts (x := ofString "self") rfl) rfl ?_
     refine jt_b ?_
     refine bif_F ‹_› ?_
     refine e_bool1 ?_
     refine e_cmp rfl ?_
     refine e_ev (os_ts (x := ofString "self") rfl) rfl ?_
     refine e_bt rfl rfl (os_ts (x := ofString "self") rfl) rfl ?_
     refine s_len ‹_› ?_
     refine o_ltI ?_
     exact e ▸ h
end
section
variable {w : World} {X : TX} {cf : Cfg} {rows : Nat → Row} {txt : List Nat}
theorem run_a {K : AV → Cfg → Prop} (G : RG w X rows txt) (W : Wf X.text cf) (h : ∀ c', Reach rows X.text X.closed cf c' → ¬ goC X.text X.closed c' → K (.b c'.done) c') : JC (tsD X) w 13 356 [.r X.A.t] cf K := by
 refine jc_body1 (ofString "self") (by k_is) (by k_is) (fun _ _ => BindsTo.of_eq rfl) rfl rfl fun c => z_start ?_
 refine z_stmt ?_
 refine x_while (γ := Unit) (fun _ S => Reach rows X.text X.closed cf S) (fun _ _ => [(ofString "self", .r X.A.t)]) (fun _ S => muC X.text S) () (.refl _) (.cons rfl .nil) ?_
 intro _ S hre
 have hW := hre.wf G.rok G.tok W
 by_cases hg : goC X.text X.closed S
 ·have hu : unwait S = S := by
   obtain ⟨out, errs, pos, st, back, buf, code, last, draft, wait, done⟩ := S
   cases hg.2.1
   rfl
  have h6 : S.st < 6 := Nat.lt_of_le_of_ne hW.st hg.1
  refine t_plain rfl ?_
  refine e_mt rfl rfl rfl rfl rfl ?_
  refine ready_a G hW true ⟨fun _ => hg, fun _ => rfl⟩ ?_
  refine o_truthy ?_
  refine bif_t ?_
  refine z_start ?_
  refine z_expr rfl ?_
  refine e_mt rfl rfl rfl rfl rfl ?_
  refine step_a G hW h6 hg.2.2.1 ?_
  rw [hu]
  refine z_nil ?_
  refine z_end ?_
  exact ⟨(), hre.snoc hg, .cons rfl .nil, mu_step G.rok hW hg⟩
 ·refine t_plain rfl ?_
  refine e_mt rfl rfl rfl rfl rfl ?_
  refine ready_a G hW false ⟨(fun z => nomatch z), fun z => absurd z hg⟩ ?_
  refine o_truthy ?_
  refine bif_f ?_
  refine zk_n ?_
  refine z_retE (os_ts (x := ofString "self") rfl) rfl ?_
  exact h S hre hg
end
end Mine
end
section
open PySem PySem.W PyProof.Rows PySem.Calls
namespace Mine
section
variable {w : World} {X : TX} {cf : Cfg} {x : DX}
theorem is_apt_0 {K : AV → Cfg → Prop} (hX : X.dr = DrAt) (hc : cf.draft = none) (h : K (.b false) cf) : JC (tsD X) w 3 299 [.r X.A.t] cf K := by
 refine jc_body1 (ofString "self") (by k_is) (by k_is) (fun _ _ => BindsTo.of_eq rfl) rfl rfl fun c => z_start ?_
 refine z_let rfl rfl ?_
 refine e_attr rfl ?_
 refine s_draft0 ‹_› ‹_› ?_
 refine z_if ?_
 refine t_or ?_
 refine t_ev (os_ts (x := ofString "self") rfl) rfl ?_
 refine bif_t ?_
 refine bif_t ?_
 refine z_retE (os_ts (x := ofString "self") rfl) rfl ?_
 exact h
theorem is_apt_x {K : AV → Cfg → Prop} (hk : x.kd ≤ 2) (hc : cf.draft = phD 0) (h : K (.b (decide (x.kd = 0) && decide ([x.nm] = cf.last))) cf) : JC (tsD (XD X x false)) w 3 299 [.r X.A.t] cf K := by
 rw [← apt_eq hk] at h
 refine jc_body1 (ofString "self") (by k_is) (by k_is) (fun _ _ => BindsTo.of_eq rfl) rfl rfl fun c => z_start ?_
 cases q1 : (kindS x.kd == ofString "end") with
 | false =>
  have q2 : (kindS x.kd != ofString "end") = true := by rw [bne, q1]; rfl
  have e : (kindS x.kd == oS "end") = false := q1
  rw [e] at h
  refine z_let rfl rfl ?_
  refine e_attr rfl ?_
  refine s_dref (.inl (by assumption)) ?_
  refine z_if ?_
  refine t_or ?_
  refine t_ev (os_ts (x := ofString "self") rfl) rfl ?_
  refine bif_F rfl ?_
  refine t_or ?_
  refine t_cmp rfl ?_
  refine e_attr rfl ?_
  refine s_dget rfl ?_
  refine e_ev (os_ts (x := ofString "self") rfl) rfl ?_
  refine o_neS ?_
  refine bif_T ‹_› ?_
  refine bif_t ?_
  refine z_retE (os_ts (x := ofString "self") rfl) rfl ?_
  exact h
 | true =>
  have q2 : (kindS x.kd != ofString "end") = false := by rw [bne, q1]; rfl
  have e : (kindS x.kd == oS "end") = true := q1
  rw [e] at h
  cases q3 : (xS cf.last != ofString "") with
  | false =>
   have e : (!(xS cf.last == oS "")) = false := q3
   rw [e] at h
   refine z_let rfl rfl ?_
   refine e_attr rfl ?_
   refine s_dref (.inl (by assumption)) ?_
   refine z_if ?_
   refine t_or ?_
   refine t_ev (os_ts (x := ofString "self") rfl) rfl ?_
   refine bif_F rfl ?_
   refine t_or ?_
   refine t_cmp rfl ?_
   refine e_attr rfl ?_
   refine s_dget rfl ?_
   refine e_ev (os_ts (x := ofString "self") rfl) rfl ?_
   refine o_neS ?_
   refine bif_F ‹_› ?_
   refine t_or0 ?_
   refine bif_f ?_
   refine z_nil ?_
   refine z_ret ?_
   refine e_and ?_
   refine e_ev (os_ts (x := ofString "self") rfl) rfl ?_
   refine jt_b ?_
   refine bif_F ‹_› ?_
   show K (.b (xS cf.last != ofString "")) cf
   rw [q3]
   exact h
  | true =>
   have e : (!(xS cf.last == oS "")) = true := q3
   rw [e] at h
   refine z_let rfl rfl ?_
   refine e_attr rfl ?_
   refine s_dref (.inl (by assumption)) ?_
   refine z_if ?_
   refine t_or ?_
   refine t_ev (os_ts (x := ofString "self") rfl) rfl ?_
   refine bif_F rfl ?_
   refine t_or ?_
   refine t_cmp rfl ?_
   refine e_attr rfl ?_
   refine s_dget rfl ?_
   refine e_ev (os_ts (x := ofString "self") rfl) rfl ?_
   refine o_neS ?_
   refine bif_F ‹_› ?_
   refine t_or0 ?_
   refine bif_f ?_
   refine z_nil ?_
   refine z_ret ?_
   refine e_and ?_
   refine e_ev (os_ts (x := ofString "self") rfl) rfl ?_
   refine jt_b ?_
   refine bif_T ‹_› ?_
   refine e_bool1 ?_
   refine e_cmp rfl ?_
   refine e_attr rfl ?_
   refine s_dget rfl ?_
   refine e_ev (os_ts (x := ofString "self") rfl) rfl ?_
   refine o_eqS ?_
   exact h
theorem e_methA0 {σ : Type} {den : σ → Led → Prop} {S : σ} {d : Nat} {cs : Scope} {c : FD w d cs} {l : ANs} {K : AV → σ → Prop} {dd : Nat} {x a name : PySem.Str} {xp ap apos p : Pos} {f : Addr} (hp : methOk [] apos p = true) (hk : keepIn (hd.heap_1 w.params) (.ref f) = true) (hdd : Nat.ble dd d = true) (h : JE den c (eval (.Attribute (.Name x xp) a ap) c.env) l S fun u S1 => ∃ ad, u = .r ad ∧ Meth den c S1 ad name f ∧ JC den w dd f [.r ad] S1 K) : JE den c (eval (.Call (.Attribute (.Attribute (.Name x xp) a ap) name apos) [] [] p) c.env) l S K := fun s Q E m n F M N hS k => by
 refine MethodCall_ (pl := (do return (← importBound (.Attribute (.Name x xp) a ap) c.env).getD true)) (h s _ E m n F M N hS fun v b S1 n1 h1 t1 F1 g1 N1 hS1 i1 ⟨ad, e, hm, hc⟩ => ?_)
  (by show (eval (.Attribute (.Name x xp) a ap) c.env >>= fun ov => standAt apos.atName >>= fun _ => methodCall _ _ _ _ _ _ _ _ _) = _; simp only [meth_form hp])
 subst e
 (first | obtain rfl := i1.inv | obtain ⟨_, rfl⟩ := i1.inv | cases i1)
 exact hm _ _ E m n1 _ F1 N1 hS1 (callWith_K0 (c.X.keeps F1.keep) hk (c_run hdd hc _ Q E m n1 [.ref ad] F1 (M.mono g1) N1 hS1 (.cons (.r ad) .nil) fun y v S2 n2 h3 t3 F3 g3 N3 hS3 i3 h4 => k _ _ _ _ _ _ F3 (g1.trans g3) N3 hS3 i3 h4))
theorem s_foreign {d : Nat} {cs : Scope} {c : FD w d cs} {l : ANs} {K : AV → Cfg → Prop} (h : K (.b false) cf) : JO1 (tsD X) c AV.Is (fun v => getAttr v (ofString "is_foreign") true) (.r X.A.t) l cf K := s_getG h fun v dl rest T => ⟨.bool false, rfl, rfl, fun n => .b _⟩
end
section
variable {w : World} {X : TX} {cf : Cfg} {x : DX}
theorem seen_n {K : AV → Cfg → Prop} (hX : X.dr = DrAt) (hc : cf.draft = none) (hb : cf.back ≤ 4) (h : K (.t (seenA X.A.ou X.A.er cf)) cf) : JC (tsD X) w 7 506 [.r X.A.t] cf K := by
 refine jc_body1 (ofString "t") (by k_is) (by k_is) (fun _ _ => BindsTo.of_eq rfl) rfl rfl fun c => z_start ?_
 refine z_let rfl rfl ?_
 refine e_ifexp ?_
 refine t_cmp rfl ?_
 refine e_attr rfl ?_
 refine s_draft0 ‹_› ‹_› ?_
 refine e_ev (os_ts (x := ofString "t") rfl) rfl ?_
 refine o_isNN ?_
 refine bif_t ?_
 refine e_ev (os_ts (x := ofString "t") rfl) rfl ?_
 refine z_ret ?_
 refine e_tup ?_
 refine l_cons rfl ?_
 refine e_ev (os_ts (x := ofString "t") rfl) rfl ?_
 refine l_cons rfl ?_
 refine e_ev (os_ts (x := ofString "t") rfl) rfl ?_
 refine l_cons rfl ?_
 refine e_ev (os_ts (x := ofString "t") rfl) rfl ?_
 refine l_cons rfl ?_
 refine e_ev (os_ts (x := ofString "t") rfl) rfl ?_
 refine l_cons rfl ?_
 refine e_ev (os_ts (x := ofString "t") rfl) rfl ?_
 refine l_cons rfl ?_
 refine e_ev (os_ts (x := ofString "t") rfl) rfl ?_
 refine l_cons rfl ?_
 refine e_ev (os_ts (x := ofString "t") rfl) rfl ?_
 refine l_cons rfl ?_
 refine e_ev (os_ts (x := ofString "t") rfl) rfl ?_
 refine l_cons rfl ?_
 refine e_ev (os_ts (x := ofString "t") rfl) rfl ?_
 refine l_cons rfl ?_
 refine e_mt rfl rfl rfl rfl rfl ?_
 refine is_apt_0 hX hc ?_
 refine l_cons rfl ?_
 refine e_mt rfl rfl rfl rfl rfl ?_
 refine in_value_a ‹_› ?_
 refine l_cons rfl ?_
 refine e_ev (os_ts (x := ofString "t") rfl) rfl ?_
 refine l_cons rfl ?_
 refine e_attr rfl ?_
 refine s_foreign ?_
 refine l_cons rfl ?_
 refine e_ev (os_ts (x := ofString "t") rfl) rfl ?_
 refine l_nil ?_
 refine o_tupT (ts_tup2 X) rfl ?_
 skip
 have e1 : aptC cf = false := by unfold aptC; rw [hc]
 have e2 : drA cf.draft = .n := by rw [hc]; rfl
 unfold seenA at h
 rw [e1, e2] at h
 exact h
theorem seen_x {K : AV → Cfg → Prop} (hk : x.kd ≤ 2) (hc : cf.draft = phD 0) (hb : cf.back ≤ 4) (h : K (.t [.r X.A.ou, .r X.A.er, .i (cf.pos : Int), .s (stS cf.st), .s (backS cf.back), .s (xS cf.buf), .i cf.code, .s (xS cf.last), .d (drTok ⟨x.kd, x.nm, x.val⟩ false), .b (decide (x.kd = 0) && decide ([x.nm] = cf.last)), .b (decide (cf.back < 3)), .b cf.wait, .b false, .b cf.done]) cf) : JC (tsD (XD X x false)) w 7 506 [.r X.A.t] cf K := by
 refine jc_body1 (ofString "t") (by k_is) (by k_is) (fun _ _ => BindsTo.of_eq rfl) rfl rfl fun c => z_start ?_
 refine z_let rfl rfl ?_
 refine e_ifexp ?_
 refine t_cmp rfl ?_
 refine e_attr rfl ?_
 refine s_dref (.inl (by assumption)) ?_
 refine e_ev (os_ts (x := ofString "t") rfl) rfl ?_
 refine o_isRN ?_
 refine bif_f ?_
 refine e_methA0 (dd := 3) rfl (kp_412 _) rfl ?_
 refine e_attr rfl ?_
 refine s_dref (.inl (by assumption)) ?_
 refine ⟨_, rfl, s_dmeth (fm_415_token _) (fn_412 _) (fun cl => by k_get), ?_⟩
 refine token_a ‹_› (.inr (.inr rfl)) ?_
 refine z_ret ?_
 refine e_tup ?_
 refine l_cons rfl ?_
 refine e_ev (os_ts (x := ofString "t") rfl) rfl ?_
 refine l_cons rfl ?_
 refine e_ev (os_ts (x := ofString "t") rfl) rfl ?_
 refine l_cons rfl ?_
 refine e_ev (os_ts (x := ofString "t") rfl) rfl ?_
 refine l_cons rfl ?_
 refine e_ev (os_ts (x := ofString "t") rfl) rfl ?_
 refine l_cons rfl ?_
 refine e_ev (os_ts (x := ofString "t") rfl) rfl ?_
 refine l_cons rfl ?_
 refine e_ev (os_ts (x := ofString "t") rfl) rfl ?_
 refine l_cons rfl ?_
 refine e_ev (os_ts (x := ofString "t") rfl) rfl ?_
 refine l_cons rfl ?_
 refine e_ev (os_ts (x := ofString "t") rfl) rfl ?_
 refine l_cons rfl ?_
 refine e_ev (os_ts (x := ofString "t") rfl) rfl ?_
 refine l_cons rfl ?_
 refine e_mt rfl rfl rfl rfl rfl ?_
 refine is_apt_x hk hc ?_
 refine l_cons rfl ?_
 refine e_mt rfl rfl rfl rfl rfl ?_
 refine in_value_a ‹_› ?_
 refine l_cons rfl ?_
 refine e_ev (os_ts (x := ofString "t") rfl) rfl ?_
 refine l_cons rfl ?_
 refine e_attr rfl ?_
 refine s_foreign (X := XD X x false) ?_
 refine l_cons rfl ?_
 refine e_ev (os_ts (x := ofString "t") rfl) rfl ?_
 refine l_nil ?_
 refine o_tupT (ts_tup2 _) rfl ?_
 skip
 exact h
theorem seen_d {dd : Dr} {K : AV → Cfg → Prop} (hX : X.dr = DrAt) (hc : cf.draft = some dd) (hk : dd.kind ≤ 2) (hb : cf.back ≤ 4) (h : K (.t (seenA X.A.ou X.A.er cf)) cf) : JC (tsD X) w 7 506 [.r X.A.t] cf K := jc_den fun n hS => by
 refine xEAAA (xd_open hX hc hS) fun x e1 e2 e3 hx => ?_
 have e4 : dd = ⟨x.kd, x.nm, x.val⟩ := by rw [e1, e2, e3]
 subst e4
 refine ⟨Cfg, tsD (XD X x false), { cf with draft := phD 0 }, fun a cf' => a = .t (seenA X.A.ou X.A.er cf) ∧ cf' = { cf with draft := phD 0 }, hx false, seen_x (x := x) hk rfl hb ⟨?_, rfl⟩, fun b S2 n2 hS2 hq => ?_⟩
 ·have e5 : aptC cf = (decide (x.kd = 0) && decide ([x.nm] = cf.last)) := by unfold aptC; rw [hc]
  have e6 : drA cf.draft = .d (drTok ⟨x.kd, x.nm, x.val⟩ false) := by rw [hc]; rfl
  unfold seenA
  rw [e5, e6]
 ·obtain ⟨rfl, rfl⟩ := hq
  exact ⟨_, xd_back hX hc hS2, h⟩
theorem seen_a {K : AV → Cfg → Prop} (hX : X.dr = DrAt) (hk : ∀ d, cf.draft = some d → d.kind ≤ 2) (hb : cf.back ≤ 4) (h : K (.t (seenA X.A.ou X.A.er cf)) cf) : JC (tsD X) w 7 506 [.r X.A.t] cf K := by
 cases hc : cf.draft with
 | none => exact seen_n hX hc hb h
 | some dd => exact seen_d hX hc (hk dd hc) hb h
end
end Mine
end
section
open PySem PySem.W PyProof.Rows PySem.Calls
namespace Mine
structure TE where
 text : List Nat
 closed : Bool
 ne : Nat
 cf : Cfg
noncomputable abbrev teX (X : TX) (E : TE) : TX := { X with text := E.text, closed := E.closed, ne := E.ne }
noncomputable def teD (X : TX) (E : TE) (n : Led) : Prop := tsD (teX X E) E.cf n
section
variable {A : TA} {R : Led} {o o' x0 x1 x2 x3 x4 x5 x6 x7 : Obj}
theorem upd_sd (T : TOk A R) : Upd A.sd o o' ((A.t, x0) :: (A.td, x1) :: (A.s, x2) :: (A.sd, o) :: (A.sg, x4) :: (A.se, x5) :: (A.ou, x6) :: (A.er, x7) :: R) ((A.t, x0) :: (A.td, x1) :: (A.s, x2) :: (A.sd, o') :: (A.sg, x4) :: (A.se, x5) :: (A.ou, x6) :: (A.er, x7) :: R) := by
 obtain ⟨⟨a1, a2, a3, a4, a5, a6, a7⟩, p1, p2, p3, p4, p5, p6, p7, p8⟩ := T
 exact .tail (tne (by lia)) (.tail (tne (by lia)) (.tail (tne (by lia)) (.head (List.forall_mem_cons.mpr ⟨tne (by lia), List.forall_mem_cons.mpr ⟨tne (by lia), List.forall_mem_cons.mpr ⟨tne (by lia), List.forall_mem_cons.mpr ⟨tne (by lia), p4⟩⟩⟩⟩))))
theorem upd_sg (T : TOk A R) : Upd A.sg o o' ((A.t, x0) :: (A.td, x1) :: (A.s, x2) :: (A.sd, x3) :: (A.sg, o) :: (A.se, x5) :: (A.ou, x6) :: (A.er, x7) :: R) ((A.t, x0) :: (A.td, x1) :: (A.s, x2) :: (A.sd, x3) :: (A.sg, o') :: (A.se, x5) :: (A.ou, x6) :: (A.er, x7) :: R) := by
 obtain ⟨⟨a1, a2, a3, a4, a5, a6, a7⟩, p1, p2, p3, p4, p5, p6, p7, p8⟩ := T
 exact .tail (tne (by lia)) (.tail (tne (by lia)) (.tail (tne (by lia)) (.tail (tne (by lia)) (.head (List.forall_mem_cons.mpr ⟨tne (by lia), List.forall_mem_cons.mpr ⟨tne (by lia), List.forall_mem_cons.mpr ⟨tne (by lia), p5⟩⟩⟩)))))
theorem upd_se (T : TOk A R) : Upd A.se o o' ((A.t, x0) :: (A.td, x1) :: (A.s, x2) :: (A.sd, x3) :: (A.sg, x4) :: (A.se, o) :: (A.ou, x6) :: (A.er, x7) :: R) ((A.t, x0) :: (A.td, x1) :: (A.s, x2) :: (A.sd, x3) :: (A.sg, x4) :: (A.se, o') :: (A.ou, x6) :: (A.er, x7) :: R) := by
 obtain ⟨⟨a1, a2, a3, a4, a5, a6, a7⟩, p1, p2, p3, p4, p5, p6, p7, p8⟩ := T
 exact .tail (tne (by lia)) (.tail (tne (by lia)) (.tail (tne (by lia)) (.tail (tne (by lia)) (.tail (tne (by lia)) (.head (List.forall_mem_cons.mpr ⟨tne (by lia), List.forall_mem_cons.mpr ⟨tne (by lia), p6⟩⟩))))))
end
section
variable {w : World} {d : Nat} {cs : Scope} {c : FD w d cs} {l : ANs} {X : TX} {E : TE}
theorem te_jc {K : AV → TE → Prop} {f : Addr} {as : List AV} (h : JC (tsD (teX X E)) w d f as E.cf fun a cf => K a { E with cf := cf }) : JC (teD X) w d f as E K := fun n vs hS hi =>
 Spec.weak (fun p hp => hp) (fun r n' ⟨g, a, S', h1, h2, h3⟩ => ⟨n', fun p hp => hp, g, a, { E with cf := S' }, h1, h2, h3⟩) (h n vs hS hi)
theorem te_tup : TupOk (teD X) := fun E n D vs hS hl => ts_tup2 (teX X E) E.cf n D vs hS hl
noncomputable def stGet (X : TX) (E : TE) (x : PySem.Str) : Option AV :=
 if x = ofString "signs" then some (.r X.A.sg) else if x = ofString "is_closed" then some (.b E.closed) else if x = ofString "is_return" then some (.b false) else if x = ofString "errors" then some (.r X.A.se) else none
theorem st_get {K : AV → TE → Prop} {x : PySem.Str} {a : AV} (e : stGet X E x = some a) (h : K a E) : JO1 (teD X) c AV.Is (fun v => getAttr v x true) (.r X.A.s) l E K := fun s Q E0 m n y F M N hS i k => by
 (first | obtain rfl := i.inv | obtain ⟨_, rfl⟩ := i.inv | cases i)
 have hS' := hS
 refine xEEEEAAA hS' fun TK0 v dl rest zq1 hA T hb => ?_
 subst zq1
 unfold stGet at e
 by_cases q : x = ofString "signs"
 ·rw [if_pos q] at e; cases e; subst q
  exact get_196 F c.X N (.tail _ (.tail _ (.head _))) (.tail _ (.tail _ (.tail _ (.head _)))) (fa_196_signs _) rfl rfl (k _ _ _ _ _ _ F .refl N hS (.r _) h)
 rw [if_neg q] at e; clear q
 by_cases q : x = ofString "is_closed"
 ·rw [if_pos q] at e; cases e; subst q
  exact get_196 F c.X N (.tail _ (.tail _ (.head _))) (.tail _ (.tail _ (.tail _ (.head _)))) (fa_196_is_closed _) rfl rfl (k _ _ _ _ _ _ F .refl N hS (T.closed ▸ .b _) h)
 rw [if_neg q] at e; clear q
 by_cases q : x = ofString "is_return"
 ·rw [if_pos q] at e; cases e; subst q
  exact get_196 F c.X N (.tail _ (.tail _ (.head _))) (.tail _ (.tail _ (.tail _ (.head _)))) (fa_196_is_return _) rfl rfl (k _ _ _ _ _ _ F .refl N hS (.b _) h)
 rw [if_neg q] at e; clear q
 by_cases q : x = ofString "errors"
 ·rw [if_pos q] at e; cases e; subst q
  exact get_196 F c.X N (.tail _ (.tail _ (.head _))) (.tail _ (.tail _ (.tail _ (.head _)))) (fa_196_errors _) rfl rfl (k _ _ _ _ _ _ F .refl N hS (.r _) h)
 rw [if_neg q] at e; cases e
theorem st_setRet {K : Unit → TE → Prop} {b : Bool} (eb : b = false) (h : K () E) : SetK (teD X) c (ofString "is_return") (.r X.A.s) (.b b) l E K := fun s Q E0 m n y z F M N hS i1 i2 k => by
 subst eb
 (first | obtain rfl := i1.inv | obtain ⟨_, rfl⟩ := i1.inv | cases i1)
 (first | obtain rfl := i2.inv | obtain ⟨_, rfl⟩ := i2.inv | cases i2)
 refine xEEEEAAA hS fun TK0 v dl rest zq2 hA T hb => ?_
 subst zq2
 exact set_196 F c.X N (.tail _ (.tail _ (.head _))) (.tail _ (.tail _ (.tail _ (.head _)))) (ta_196_is_return _) rfl rfl (upd_sd ⟨hA, T.offT⟩) (Nat.le_of_ble_eq_true rfl) fun h' F' N' => k _ () E _ _ _ F' .refl N' ⟨TK0, v, dl, rest, rfl, hA, T, hb⟩ trivial h
theorem st_close {K : Unit → TE → Prop} (h : K () { E with closed := true }) : SetK (teD X) c (ofString "is_closed") (.r X.A.s) (.b true) l E K := fun s Q E0 m n y z F M N hS i1 i2 k => by
 (first | obtain rfl := i1.inv | obtain ⟨_, rfl⟩ := i1.inv | cases i1)
 (first | obtain rfl := i2.inv | obtain ⟨_, rfl⟩ := i2.inv | cases i2)
 refine xEEEEAAA hS fun TK0 v dl rest zq3 hA T hb => ?_
 subst zq3
 exact set_196 F c.X N (.tail _ (.tail _ (.head _))) (.tail _ (.tail _ (.tail _ (.head _)))) (ta_196_is_closed _) rfl rfl (upd_sd ⟨hA, T.offT⟩) (Nat.le_of_ble_eq_true rfl) fun h' F' N' => k _ () { E with closed := true } (tokLed X.A TK0 { v with closed := true } ++ (dl ++ rest)) _ _ F' (fun a k vs q => ts_gro a k vs q) N' ⟨TK0, { v with closed := true }, dl, rest, rfl, hA, { T with closed := rfl }, hb⟩ trivial h
theorem te_base {E : TE} {n : Led} (h : teD X E n) : ∀ p ∈ X.base, p ∈ n := tsD.base (X := teX X E) (cf := E.cf) h
theorem te_own (X : TX) (I : Addr) (io : Obj) (hc : io.cls ≠ .type "tuple") : Own (teD X) (teD (X.plus I io)) I io where
 put := fun {S nx} hS hne => (ts_own (teX X S) I io hc).put hS hne
 take := fun {S n h₀ L h S0 nx0} hS0 hne hS N => ts_take (teX X S) I io hc (te_base hS0) hne hS N
theorem te_len {K : AV → TE → Prop} (hz : E.text.length ≤ 100000) (h : K (.i E.text.length) E) : JOL (teD X) c AV.Is (fun vs => call (.builtin "len") vs) [.r X.A.sg] l E K := fun s Q E0 m n y F M N hS i k => by
 cases i using LIs.cons_elim with
 | cons i j =>
  (first | obtain rfl := i.inv | obtain ⟨_, rfl⟩ := i.inv | cases i)
  (first | obtain rfl := j.inv | obtain ⟨_, rfl⟩ := j.inv | cases j)
  have hS' := hS
  refine xEEEEAAA hS' fun TK0 v dl rest zq4 hA T hb => ?_
  subst zq4
  have e : v.signs.length = E.text.length := by rw [T.signs.len_eq, List.length_map]
  exact len_L N (.tail _ (.tail _ (.tail _ (.tail _ (.head _))))) (by rw [e]) (by lia) (k _ _ _ _ _ _ F .refl N hS (.i _ _) h)
theorem te_sg {K : AV → TE → Prop} {x : PySem.Str} {xp bp apos p : Pos} {e0 : Expr} (hp : methOk [e0] apos p = true) (e : alook cs l x = some (.r X.A.s)) (h : JE (teD X) c (eval e0 c.env) l E fun a E1 => ∃ ch, a = .s (chS ch) ∧ E1.text.length ≤ 1000 ∧ K .n { E1 with text := E1.text ++ [ch] }) : JE (teD X) c (eval (.Call (.Attribute (.Attribute (.Name x xp) (ofString "signs") bp) (ofString "append") apos) [e0] [] p) c.env) l E K := fun s Q E0 m n F M N hS k => by
 have hp' := hp
 unfold methOk at hp'
 simp only [List.all_cons, Bool.and_eq_true] at hp'
 refine MethodCall_ (pl := (do return (← importBound (.Attribute (.Name x xp) (ofString "signs") bp) c.env).getD true)) ?_
  (by show (eval (.Attribute (.Name x xp) (ofString "signs") bp) c.env >>= fun ov => standAt apos.atName >>= fun _ => methodCall _ _ _ _ _ _ _ _ _) = _; simp only [meth_form hp])
 refine e_attr e (st_get (K := fun a E1 => a = .r X.A.sg ∧ E1 = E) rfl ⟨rfl, rfl⟩) s _ E0 m n F M N hS fun v b S1 n1 h1 t1 F1 g1 N1 hS1 i1 hk => ?_
 obtain ⟨rfl, rfl⟩ := hk
 (first | obtain rfl := i1.inv | obtain ⟨_, rfl⟩ := i1.inv | cases i1)
 refine xEEEEAAA (id hS1) fun TK0 v dl rest zq5 hA T hb => ?_
 subst zq5
 refine listMethod_K N1 (.tail _ (.tail _ (.tail _ (.tail _ (.head _))))) slot_list_append rfl ?_
 refine callWith_method1 (l_cons hp'.1.1.1 (K := fun as E2 => ∃ ch, as = [.s (chS ch)] ∧ E2.text.length ≤ 1000 ∧ K .n { E2 with text := E2.text ++ [ch] }) (fun s Q E m n F M N hS k => h s Q E m n F M N hS fun v b S' n' h' tk' F' g N' hS' i' ⟨ch, e1, hk⟩ => k v b S' n' h' tk' F' g N' hS' i' (l_nil ⟨ch, by rw [e1], hk⟩)) _ _ E0 m _ F1 (M.mono g1) N1 hS1 fun vs as S2 n2 h3 t3 F3 g3 N3 hS3 i3 hk => ?_) (star_plain hp'.1.1.1) (noStars _ _ _ rfl)
 obtain ⟨ch, rfl, hz, hk⟩ := hk
 cases i3 using LIs.cons_elim with
 | @cons y0 _ i3 i4 =>
  (first | obtain rfl := i4.inv | obtain ⟨_, rfl⟩ := i4.inv | cases i4)
  (first | obtain rfl := i3.inv | obtain ⟨_, rfl⟩ := i3.inv | cases i3)
  obtain ⟨TK1, v1, dl1, rest1, rfl, hA1, T1, hb1⟩ := hS3
  have hl : v1.signs.length = S2.text.length := by rw [T1.signs.len_eq, List.length_map]
  refine append_L F3 N3 (upd_sg ⟨hA1, T1.offT⟩) (by rw [hl]; lia) fun h' F' N' => ?_
  exact k _ _ { S2 with text := S2.text ++ [ch] } (tokLed X.A TK1 { v1 with signs := v1.signs ++ [_], signsN := v1.signsN + 1 } ++ (dl1 ++ rest1)) _ _ F' ((g1.trans g3).trans ts_gro) N' ⟨TK1, { v1 with signs := v1.signs ++ [_], signsN := v1.signsN + 1 }, dl1, rest1, rfl, hA1, { T1 with signs := by show StrsAre (v1.signs ++ [_]) ((S2.text ++ [ch]).map fun c => chS c); rw [List.map_append]; exact T1.signs.append' (.cons _ _ .nil) }, hb1⟩ .n hk
theorem te_se {K : AV → TE → Prop} {x : PySem.Str} {xp bp apos p : Pos} {e0 : Expr} (hp : methOk [e0] apos p = true) (e : alook cs l x = some (.r X.A.s)) (h : JE (teD X) c (eval e0 c.env) l E fun _ E1 => E1.ne ≤ 1000 ∧ K .n { E1 with ne := E1.ne + 1 }) : JE (teD X) c (eval (.Call (.Attribute (.Attribute (.Name x xp) (ofString "errors") bp) (ofString "append") apos) [e0] [] p) c.env) l E K := fun s Q E0 m n F M N hS k => by
 have hp' := hp
 unfold methOk at hp'
 simp only [List.all_cons, Bool.and_eq_true] at hp'
 refine MethodCall_ (pl := (do return (← importBound (.Attribute (.Name x xp) (ofString "errors") bp) c.env).getD true)) ?_
  (by show (eval (.Attribute (.Name x xp) (ofString "errors") bp) c.env >>= fun ov => standAt apos.atName >>= fun _ => methodCall _ _ _ _ _ _ _ _ _) = _; simp only [meth_form hp])
 refine e_attr e (st_get (K := fun a E1 => a = .r X.A.se ∧ E1 = E) rfl ⟨rfl, rfl⟩) s _ E0 m n F M N hS fun v b S1 n1 h1 t1 F1 g1 N1 hS1 i1 hk => ?_
 obtain ⟨rfl, rfl⟩ := hk
 (first | obtain rfl := i1.inv | obtain ⟨_, rfl⟩ := i1.inv | cases i1)
 refine xEEEEAAA (id hS1) fun TK0 v dl rest zq6 hA T hb => ?_
 subst zq6
 refine listMethod_K N1 (.tail _ (.tail _ (.tail _ (.tail _ (.tail _ (.head _)))))) slot_list_append rfl ?_
 refine callWith_method1 (l_cons hp'.1.1.1 (K := fun as E2 => ∃ a, as = [a] ∧ E2.ne ≤ 1000 ∧ K .n { E2 with ne := E2.ne + 1 }) (fun s Q E m n F M N hS k => h s Q E m n F M N hS fun v b S' n' h' tk' F' g N' hS' i' hk => k v b S' n' h' tk' F' g N' hS' i' (l_nil ⟨_, rfl, hk⟩)) _ _ E0 m _ F1 (M.mono g1) N1 hS1 fun vs as S2 n2 h3 t3 F3 g3 N3 hS3 i3 hk => ?_) (star_plain hp'.1.1.1) (noStars _ _ _ rfl)
 obtain ⟨a, rfl, hz, hk⟩ := hk
 cases i3 using LIs.cons_elim with
 | @cons y0 _ i3 i4 =>
  (first | obtain rfl := i4.inv | obtain ⟨_, rfl⟩ := i4.inv | cases i4)
  obtain ⟨TK1, v1, dl1, rest1, rfl, hA1, T1, hb1⟩ := hS3
  have hl : v1.serrs.length ≤ S2.ne := T1.serl
  refine append_L F3 N3 (upd_se ⟨hA1, T1.offT⟩) (by lia) fun h' F' N' => ?_
  exact k _ _ { S2 with ne := S2.ne + 1 } (tokLed X.A TK1 { v1 with serrs := v1.serrs ++ [y0], serrsN := v1.serrsN + 1 } ++ (dl1 ++ rest1)) _ _ F' ((g1.trans g3).trans ts_gro) N' ⟨TK1, { v1 with serrs := v1.serrs ++ [y0], serrsN := v1.serrsN + 1 }, dl1, rest1, rfl, hA1, { T1 with serl := by show (v1.serrs ++ [y0]).length ≤ S2.ne + 1; rw [List.length_append]; exact Nat.add_le_add_right hl 1 }, hb1⟩ .n hk
end
end Mine
end
section
open PySem PySem.W PyProof.Rows PySem.Calls
namespace Mine
section
variable {w : World} {d : Nat} {cs : Scope} {σ : Type} {den : σ → Led → Prop} {c : FD w d cs} {l : ANs} {S : σ}
noncomputable def intsOf : List Dat → Option (List Int)
 | [] => some []
 | d :: r => match d with
  | .int x => (intsOf r).map (x :: ·)
  | _ => none
theorem intsOf_ok {n : Led} : ∀ {ds : List Dat} {ys : List Int} {vs : List Value}, intsOf ds = some ys → DatAll n vs ds → IntsAre vs ys
 | [], _, _, e, .nil => by cases e; exact .nil
 | d :: r, ys, _, e, .cons h q => by
  cases h with
  | int x t =>
   have e : (intsOf r).map (x :: ·) = some ys := e
   cases z : intsOf r with
   | none => rw [z] at e; cases e
   | some zs => rw [z] at e; cases e; exact .cons _ _ (intsOf_ok z q)
  | _ => cases e
theorem o_notinI {K : Bool → σ → Prop} {x : Int} {ds : List Dat} {ys : List Int} (e : intsOf ds = some ys) (h : K (!(ys.any (· == x))) S) : CmpK den c .NotIn (.i x) (.d (.tuple ds)) l S K := fun s Q E m n u v F M N hS i1 i2 k => by
 (first | obtain rfl := i1.inv | obtain ⟨_, rfl⟩ := i1.inv | cases i1)
 cases i2 with
 | d hd hn => cases hd with
  | tuple hm hA => exact notin_tuple_ints (N.isTup hm) (intsOf_ok e hA) (k _ _ _ _ _ _ F .refl N hS rfl h)
end
section
variable {w : World} {σ : Type} {den : σ → Led → Prop} {S : σ}
theorem input_error_a {k : Nat} {K : AV → σ → Prop} (hc : k < 1114112) (hT : TupOk den) (h : ∀ x, K (.s x) S) : JC den w 4 158 [.i (k : Int)] S K := by
 refine jc_body1 (ofString "n") (by k_is) (by k_is) (fun _ _ => BindsTo.of_eq rfl) rfl rfl fun c => z_start ?_
 refine z_if ?_
 refine t_plain rfl ?_
 refine e_gt rfl rfl rfl (os_n (by assumption)) rfl ?_
 refine pj_call (.b _) (is_surrogate_j k) ?_
 cases h1 : surB k with
 | true =>
  refine o_truthy ?_
  refine bif_t ?_
  refine z_retE (os_n (by assumption)) rfl ?_
  exact h _
 | false =>
  refine o_truthy ?_
  refine bif_f ?_
  refine z_nil ?_
  refine z_if ?_
  refine t_plain rfl ?_
  refine e_gt rfl rfl rfl (os_n (by assumption)) rfl ?_
  refine pj_call (.b _) (is_noncharacter_j k hc) ?_
  cases h2 : nonB k with
  | true =>
   refine o_truthy ?_
   refine bif_t ?_
   refine z_retE (os_n (by assumption)) rfl ?_
   exact h _
  | false =>
   refine o_truthy ?_
   refine bif_f ?_
   refine z_nil ?_
   refine z_if ?_
   refine t_and ?_
   refine t_plain rfl ?_
   refine e_gt rfl rfl rfl (os_n (by assumption)) rfl ?_
   refine pj_call (.b _) (is_control_j k) ?_
   cases h3 : ctlB k with
   | false =>
    refine o_truthy ?_
    refine bif_f ?_
    refine bif_f ?_
    refine z_nil ?_
    refine z_retE (os_n (by assumption)) rfl ?_
    exact h _
   | true =>
    refine o_truthy ?_
    refine bif_t ?_
    refine t_and ?_
    refine t_cmp rfl ?_
    refine e_ev (os_n (by assumption)) rfl ?_
    refine e_ev (os_n (by assumption)) rfl ?_
    refine o_notinI rfl ?_
    cases h4 : ([0, 9, 10, 12, 13] : List Int).any fun x => x == (k : Int) with
    | true =>
     have h5 : (!([0, 9, 10, 12, 13] : List Int).any fun x => x == (k : Int)) = false := by rw [h4]; rfl
     refine bif_F rfl ?_
     refine bif_f ?_
     refine z_nil ?_
     refine z_retE (os_n (by assumption)) rfl ?_
     exact h _
    | false =>
     have h5 : (!([0, 9, 10, 12, 13] : List Int).any fun x => x == (k : Int)) = true := by rw [h4]; rfl
     refine bif_T rfl ?_
     refine t_and0 ?_
     refine bif_t ?_
     refine z_retE (os_n (by assumption)) rfl ?_
     exact h _
end
section
variable {w : World} {X : TX} {E : TE}
theorem sfeed_a {K : AV → TE → Prop} {xs : List Nat} (hcl : E.closed = false) (hx : xs.length ≤ 12) (hxc : ∀ c ∈ xs, c < 1114112 ∧ c ≠ 13) (hz : E.text.length ≤ 100) (hne : E.ne ≤ 100) (h : ∀ ne', ne' ≤ E.ne + xs.length → K .n { E with text := E.text ++ xs, ne := ne' }) : JC (teD X) w 7 179 [.r X.A.s, .s ⟨xs.toArray⟩] E K := by
 refine jc_body2 (ofString "self") (ofString "text") (by k_is) (by k_is) (fun _ _ _ => BindsTo.of_eq rfl) rfl rfl fun c => z_start ?_
 refine z_if ?_
 refine t_plain rfl ?_
 refine e_attr rfl ?_
 refine st_get rfl ?_
 refine o_truthy ?_
 refine bif_F ‹_› ?_
 refine z_nil ?_
 refine z_stmt ?_
 refine x_forS (γ := Unit) (xs := xs) (fun I io => teD (X.plus I io)) (te_own X) (fun i _ S => ∃ ne', S = { E with text := E.text ++ xs.take i, ne := ne' } ∧ ne' ≤ E.ne + i) (fun _ _ _ => [(ofString "text", .s ⟨xs.toArray⟩), (ofString "self", .r X.A.s)]) () rfl (fun _ => rfl) ?_ ?_ ?_
 ·refine e_ev (os_n te_tup) rfl ?_
  exact ⟨rfl, ⟨E.ne, by rw [List.take_zero, List.append_nil], Nat.le_refl _⟩, .of rfl⟩
 ·intro I io hio i _ S hi zf51
  refine xEA zf51 fun ne' zq1 hle => ?_
  subst zq1
  have hm : xs.getD i 0 ∈ xs := by
   have e : xs.getD i 0 = xs[i] := by simp [List.getD_eq_getElem?_getD, hi]
   rw [e]; exact List.getElem_mem hi
  have hcr := chS_cr (hxc _ hm).2
  have hcc := (hxc _ hm).1
  have et : xs.take (i + 1) = xs.take i ++ [xs.getD i 0] := by
   have e : xs.getD i 0 = xs[i] := by simp [List.getD_eq_getElem?_getD, hi]
   rw [e, List.take_add_one]; simp [hi]
  have hl : (E.text ++ xs.take i).length ≤ 112 := by rw [List.length_append, List.length_take]; lia
  have hl1 : (E.text ++ xs.take i).length ≤ 100000 := Nat.le_trans hl (by decide)
  have hl2 : (E.text ++ xs.take i).length ≤ 1000 := Nat.le_trans hl (by decide)
  refine z_start (z_ifF (os_n te_tup) rfl hcr ?_)
  refine z_if (b_cut true ?_ (bif_t ?_))
  ·cases hnl : (chS (xs.getD i 0) != ofString "\n") with
   | true =>
    refine t_or ?_
    refine t_ev (os_n te_tup) rfl ?_
    refine bif_T ‹_› ?_
    exact ⟨rfl, rfl⟩
   | false =>
    refine t_or ?_
    refine t_ev (os_n te_tup) rfl ?_
    refine bif_F ‹_› ?_
    refine t_or ?_
    refine t_not ?_
    refine t_plain rfl ?_
    refine e_attr rfl ?_
    refine st_get rfl ?_
    refine o_truthy ?_
    refine bif_T rfl ?_
    exact ⟨rfl, rfl⟩
  refine z_let rfl rfl ?_
  refine e_gtJ rfl rfl rfl rfl ?_
  refine l_cons rfl ?_
  refine e_bt rfl rfl (os_n te_tup) rfl ?_
  refine o_ord ?_
  refine l_nil ?_
  refine input_error_a hcc te_tup fun x => ?_
  cases hq : (x != ofString "") with
  | true =>
   refine z_ifT (os_n te_tup) rfl ‹_› ?_
   refine z_expr rfl ?_
   refine te_se rfl rfl ?_
   refine e_tup ?_
   refine l_cons rfl ?_
   refine e_ev (os_n te_tup) rfl ?_
   refine l_cons rfl ?_
   refine e_btJ rfl rfl rfl ?_
   refine l_cons rfl ?_
   refine e_attr rfl ?_
   refine st_get rfl ?_
   refine l_nil ?_
   refine te_len ‹_› ?_
   refine l_nil ?_
   refine o_tupG te_tup rfl rfl rfl ?_
   refine ⟨by show ne' ≤ 1000; lia, ?_⟩
   refine z_nil ?_
   refine z_expr rfl ?_
   refine te_sg rfl rfl ?_
   refine e_ev (os_n te_tup) rfl ?_
   refine ⟨_, rfl, hl2, ?_⟩
   refine z_nil ?_
   refine z_nil ?_
   refine z_setA (os_n te_tup) rfl rfl rfl ?_
   refine st_setRet ‹_› ?_
   refine z_nil ?_
   refine z_end ?_
   exact ⟨(), ⟨ne' + 1, by rw [et, ← List.append_assoc], Nat.add_le_add_right hle 1⟩, .of rfl⟩
  | false =>
   refine z_ifF (os_n te_tup) rfl ‹_› ?_
   refine z_nil ?_
   refine z_expr rfl ?_
   refine te_sg rfl rfl ?_
   refine e_ev (os_n te_tup) rfl ?_
   refine ⟨_, rfl, hl2, ?_⟩
   refine z_nil ?_
   refine z_nil ?_
   refine z_setA (os_n te_tup) rfl rfl rfl ?_
   refine st_setRet ‹_› ?_
   refine z_nil ?_
   refine z_end ?_
   exact ⟨(), ⟨ne', by rw [et, ← List.append_assoc], Nat.le_succ_of_le hle⟩, .of rfl⟩
 ·intro _ S zf52
  refine xEA zf52 fun ne' zq2 hle => ?_
  subst zq2
  refine zk_n ?_
  refine z_nil ?_
  refine z_end ?_
  rw [List.take_length]
  exact h ne' hle
theorem send_a {K : AV → TE → Prop} (h : K .n { E with closed := true }) : JC (teD X) w 3 186 [.r X.A.s] E K := by
 refine jc_body1 (ofString "self") (by k_is) (by k_is) (fun _ _ => BindsTo.of_eq rfl) rfl rfl fun c => z_start ?_
 refine z_setA (os_n te_tup) rfl rfl rfl ?_
 refine st_close ?_
 refine z_nil ?_
 refine z_end ?_
 exact h
end
end Mine
end
section
open PySem PySem.W PyProof.Rows PySem.Calls
namespace Mine
section
variable {w : World} {d : Nat} {cs : Scope} {c : FD w d cs} {l : ANs} {X : TX} {E : TE}
theorem te_o1 {α β : Type} {R : Led → β → α → Prop} {K : β → TE → Prop} {f : Value → Sem α} {a : AV} (h : JO1 (tsD (teX X E)) c R f a l E.cf fun b cf => K b { E with cf := cf }) : JO1 (teD X) c R f a l E K := fun s Q E0 m n x F M N hS i k => h s Q E0 m n x F M N hS i fun v b S' n' h' tk' F' g N' hS' i' hk => k v b { E with cf := S' } n' h' tk' F' g N' hS' i' hk
theorem te_setK {K : Unit → TE → Prop} {x : PySem.Str} {o v : AV} (h : SetK (tsD (teX X E)) c x o v l E.cf fun b cf => K b { E with cf := cf }) : SetK (teD X) c x o v l E K := fun s Q E0 m n y z F M N hS i1 i2 k => h s Q E0 m n y z F M N hS i1 i2 fun v b S' n' h' tk' F' g N' hS' i' hk => k v b { E with cf := S' } n' h' tk' F' g N' hS' i' hk
theorem te_meth {a : Addr} {name : PySem.Str} {f : Addr} (h : Meth (tsD (teX X E)) c E.cf a name f) : Meth (teD X) c E a name f := h
theorem te_smeth {name : PySem.Str} {g : Addr} (hf : findIn (hd.heap_1 w.params) (.ref 196) name = some (some (.ref g))) (ht : isFn (hd.heap_1 w.params) (.ref g) = true) (hn : ∀ (K : TK) v, getL name (strEs X.A K v) = some none) : Meth (teD X) c E X.A.s name g := fun s Q E0 m n pl F N hS h => by
 refine xEEEEAAA hS fun TK0 v dl rest zq1 hA T hb => ?_
 subst zq1
 exact meth_196 F c.X N (.tail _ (.tail _ (.head _))) (.tail _ (.tail _ (.tail _ (.head _)))) hf ht (hn TK0 v) h
theorem e_methA {σ : Type} {den : σ → Led → Prop} {S : σ} {K : AV → σ → Prop} {dd : Nat} {x a name : PySem.Str} {xp ap apos p : Pos} {e0 : Expr} {es : List Expr} {f : Addr} (hp : methOk (e0 :: es) apos p = true) (hk : keepIn (hd.heap_1 w.params) (.ref f) = true) (hdd : Nat.ble dd d = true) (h : JE den c (eval (.Attribute (.Name x xp) a ap) c.env) l S fun u S1 => ∃ ad, u = .r ad ∧ Meth den c S1 ad name f ∧ JL den c (spliced (backTo p (starEach (e0 :: es) c.env))) l S1 fun as S2 => JC den w dd f (.r ad :: as) S2 K) : JE den c (eval (.Call (.Attribute (.Attribute (.Name x xp) a ap) name apos) (e0 :: es) [] p) c.env) l S K := fun s Q E m n F M N hS k => by
 have hp' := hp
 unfold methOk at hp'
 simp only [List.all_cons, Bool.and_eq_true] at hp'
 refine MethodCall_ (pl := (do return (← importBound (.Attribute (.Name x xp) a ap) c.env).getD true)) (h s _ E m n F M N hS fun v b S1 n1 h1 t1 F1 g1 N1 hS1 i1 ⟨ad, e, hm, hc⟩ => ?_)
  (by show (eval (.Attribute (.Name x xp) a ap) c.env >>= fun ov => standAt apos.atName >>= fun _ => methodCall _ _ _ _ _ _ _ _ _) = _; simp only [meth_form hp])
 subst e
 (first | obtain rfl := i1.inv | obtain ⟨_, rfl⟩ := i1.inv | cases i1)
 exact hm _ _ E m n1 _ F1 N1 hS1 (callWith_K c.X hk (hc _ _ E m n1 F1 (M.mono g1) N1 hS1 fun x u S2 n2 h2 t2 F2 g2 N2 hS2 i2 h3 => ⟨c.X.keeps F2.keep, c_run hdd h3 _ _ E m n2 _ F2 (M.mono (g1.trans g2)) N2 hS2 (.cons (.r ad) i2) fun y v S3 n3 h4 t3 F3 g3 N3 hS3 i3 h5 => k _ _ _ _ _ _ F3 ((g1.trans g2).trans g3) N3 hS3 i3 h5⟩) (star_plain hp'.1.1.1) (noStars _ _ _ hp'.1.1.2))
end
section
variable {w : World} {X : TX} {E : TE}
theorem feed_a {K : AV → TE → Prop} {xs : List Nat} (hcl : E.closed = false) (hx : xs.length ≤ 12) (hxc : ∀ c ∈ xs, c < 1114112 ∧ c ≠ 13) (hz : E.text.length ≤ 100) (hne : E.ne ≤ 100) (h : ∀ ne', ne' ≤ E.ne + xs.length → K .n ⟨E.text ++ xs, E.closed, ne', unwait E.cf⟩) : JC (teD X) w 10 222 [.r X.A.t, .s ⟨xs.toArray⟩] E K := by
 refine jc_body2 (ofString "self") (ofString "text") (by k_is) (by k_is) (fun _ _ _ => BindsTo.of_eq rfl) rfl rfl fun c => z_start ?_
 refine z_expr rfl (e_methA (dd := 7) rfl (kp_179 _) rfl (e_attr rfl (te_o1 (s_get rfl ⟨_, rfl, te_smeth (fm_196_feed _) (fn_179 _) (fun K v => by k_get), ?_⟩))))
 refine l_cons rfl ?_
 refine e_ev (os_n te_tup) rfl ?_
 refine l_nil ?_
 refine sfeed_a hcl hx hxc hz hne fun ne' hle => ?_
 refine z_stmt (x_assignA rfl rfl ?_)
 refine e_ev (os_n te_tup) rfl ?_
 refine te_setK ?_
 refine s_setWait ?_
 refine zk_n ?_
 refine z_nil ?_
 refine z_end ?_
 exact h ne' hle
theorem end_a {K : AV → TE → Prop} (h : K .n { E with closed := true, cf := unwait E.cf }) : JC (teD X) w 5 229 [.r X.A.t] E K := by
 refine jc_body1 (ofString "self") (by k_is) (by k_is) (fun _ _ => BindsTo.of_eq rfl) rfl rfl fun c => z_start ?_
 refine z_expr rfl (e_methA0 (dd := 3) rfl (kp_186 _) rfl (e_attr rfl (te_o1 (s_get rfl ⟨_, rfl, te_smeth (fm_196_end _) (fn_186 _) (fun K v => by k_get), ?_⟩))))
 refine send_a ?_
 refine z_stmt (x_assignA rfl rfl ?_)
 refine e_ev (os_n te_tup) rfl ?_
 refine te_setK ?_
 refine s_setWait ?_
 refine zk_n ?_
 refine z_nil ?_
 refine z_end ?_
 exact h
end
end Mine
end
section
open PySem PySem.W PyProof.Rows PySem.Calls
namespace Mine
theorem lis_datD {n : Led} : ∀ {xs : List Dat} {vs : List Value}, LIs n (xs.map .d) vs → DatAll n vs xs
 | [], _, .nil => .nil
 | _ :: _, _, .cons (.d h _) r => .cons h (lis_datD r)
theorem ow_list {B n : Led} {S : OS} {a : Addr} {xs : List Dat} (h : owD B S n) (m : (a, .lst (xs.map .d)) ∈ S) : DatIn n (.ref a) (.list xs) := by
 refine xEA (h.ob _ m) fun o m1 q => ?_
 cases q using AO.Is.lst_elim with
 | lst k i => exact .list m1 (lis_datD i)
inductive AsDat (n : Led) : AV → Dat → Prop
 | i (z : Int) : AsDat n (.i z) (.int z)
 | s (x : PySem.Str) : AsDat n (.s x) (.str x)
 | b (t : Bool) : AsDat n (.b t) (.bool t)
 | n : AsDat n .n .none
 | d (x : Dat) : AsDat n (.d x) x
 | r {a : Addr} {x : Dat} : DatIn n (.ref a) x → AsDat n (.r a) x
theorem AsDat.in {n : Led} {a : AV} {x : Dat} {v : Value} (h : AsDat n a x) (i : a.Is n v) : DatIn n v x := by
 cases h with
 | i => (first | obtain rfl := i.inv | obtain ⟨_, rfl⟩ := i.inv | cases i); exact .int _ _
 | s => (first | obtain rfl := i.inv | obtain ⟨_, rfl⟩ := i.inv | cases i); exact .str _ _
 | b => (first | obtain rfl := i.inv | obtain ⟨_, rfl⟩ := i.inv | cases i); exact .bool _
 | n => (first | obtain rfl := i.inv | obtain ⟨_, rfl⟩ := i.inv | cases i); exact .none
 | d => cases i with | d h _ => exact h
 | r h => (first | obtain rfl := i.inv | obtain ⟨_, rfl⟩ := i.inv | cases i); exact h
inductive AsAll (n : Led) : List AV → List Dat → Prop
 | nil : AsAll n [] []
 | cons {a : AV} {x : Dat} {as : List AV} {xs : List Dat} : AsDat n a x → AsAll n as xs → AsAll n (a :: as) (x :: xs)
theorem AsAll.in {n : Led} {as : List AV} {xs : List Dat} (h : AsAll n as xs) : ∀ {vs : List Value}, LIs n as vs → DatAll n vs xs := by
 induction h with
 | nil => intro vs i; (first | obtain rfl := i.inv | obtain ⟨_, rfl⟩ := i.inv | cases i); exact .nil
 | cons a r ih => intro vs i; cases i using LIs.cons_elim with | cons j k => exact .cons (a.in j) (ih k)
theorem drA_dat {n : Led} (o : Option Dr) : AsDat n (drA o) (drSeen o) := by
 cases o
 ·exact .n
 ·exact .d _
end Mine
end
section
open PySem PySem.W PyProof.Rows PySem.Calls
namespace Mine
theorem okP_mono (n : Nat) : ∀ (d : Dat), okP n d = true → okP (n + 1) d = true := by
 induction n with
 | zero =>
  intro d h
  cases d with
  | none => rfl
  | bool b => rfl
  | int i => rfl
  | str x => exact h
  | tuple ds => exact Bool.noConfusion h
  | list ds => exact Bool.noConfusion h
  | bytes b => exact Bool.noConfusion h
 | succ n ih =>
  intro d h
  cases d with
  | tuple ds => exact List.all_eq_true.mpr fun e he => ih e (List.all_eq_true.mp h e he)
  | list ds => exact List.all_eq_true.mpr fun e he => ih e (List.all_eq_true.mp h e he)
  | none => rfl
  | bool b => rfl
  | int i => rfl
  | str x => exact h
  | _ => exact Bool.noConfusion h
noncomputable def seen11 (c : Cfg) : List Dat := [.list c.out, .list c.errs, .int c.pos, .str (stS c.st), .str (backS c.back), .str (xS c.buf), .int c.code, .str (xS c.last), drSeen c.draft, .bool (aptC c), .bool (decide (c.back < 3))]
theorem seenD_eq (c : Cfg) : seenD c = .tuple (seen11 c ++ [.bool c.wait, .bool false, .bool c.done]) := rfl
theorem seen11_ok {text : List Nat} {c : Cfg} (W : Wf text c) : ∀ d ∈ seen11 c, okP 5 d = true := by
 have h1 : okP 5 (.list c.out) = true := List.all_eq_true.mpr W.outc
 have h2 : okP 5 (.list c.errs) = true := List.all_eq_true.mpr fun d hd => okP_mono 3 d (okP_mono 2 d (W.errc d hd))
 have h3 : okP 5 (.str (stS c.st)) = true := by
  have := W.st
  exact strOk_ch (c := 48 + c.st) (by lia)
 have h4 : okP 5 (.str (backS c.back)) = true := by
  have hb := W.back
  have : c.back = 0 ∨ c.back = 1 ∨ c.back = 2 ∨ c.back = 3 ∨ c.back = 4 := by lia
  rcases this with e | e | e | e | e <;> rw [e] <;> decide +kernel
 have h5 : okP 5 (.str (xS c.buf)) = true := strOk_of W.bufc
 have h6 : okP 5 (.str (xS c.last)) = true := by rcases W.last with e | e | e <;> rw [e] <;> decide +kernel
 have h7 : okP 5 (drSeen c.draft) = true := by
  cases e : c.draft with
  | none => rfl
  | some d => exact okP_mono 4 _ (ok_drTok false (W.draft d e))
 intro d hd
 simp only [seen11, List.mem_cons, List.not_mem_nil, or_false] at hd
 rcases hd with rfl | rfl | rfl | rfl | rfl | rfl | rfl | rfl | rfl | rfl | rfl
 ·exact h1
 ·exact h2
 ·rfl
 ·exact h3
 ·exact h4
 ·exact h5
 ·rfl
 ·exact h6
 ·exact h7
 ·rfl
 ·rfl
theorem seen_ok {text : List Nat} {c : Cfg} (W : Wf text c) : okP 6 (seenD c) = true := by
 rw [seenD_eq]
 rw [okP_t, List.all_eq_true]
 intro d hd
 rcases List.mem_append.mp hd with hd | hd
 ·exact seen11_ok W d hd
 ·simp only [List.mem_cons, List.not_mem_nil, or_false] at hd
  rcases hd with rfl | rfl | rfl <;> rfl
end Mine
end
section
open PySem PySem.W PyProof.Rows PySem.Calls
namespace Mine
section
variable {w : World} {d : Nat} {cs : Scope} {σ : Type} {den : σ → Led → Prop} {c : FD w d cs} {l : ANs} {S : σ}
theorem lisTake {n : Led} : ∀ (k : Nat) {as : List AV} {vs : List Value}, LIs n as vs → LIs n (as.take k) (vs.take k)
 | 0, _, _, _ => .nil
 | _ + 1, _, _, .nil => .nil
 | k + 1, _, _, .cons h r => .cons h (lisTake k r)
theorem e_sl11 {K : AV → σ → Prop} {v : Expr} {sp p pc : Pos} {kc : Nat} {env : Env} (hT : TupOk den) (h : JE den c (eval v env) l S fun u S1 => ∃ as, u = .t as ∧ as.length = 14 ∧ K (.t (as.take 11)) S1) : JE den c (eval (.Subscript v (.Slice none (some (.Constant (.int 11) kc pc)) none sp) p) env) l S K := fun s Q E m n F M N hS k =>
 Subscript_ (h s _ E m n F M N hS fun x u S1 n1 h1 t1 F1 g1 N1 hS1 i1 h2 => wpAny_Slice (wpAny_pure (wpAny_Constant_int (k := kc) (pos := pc) (wpAny_pure (by
  obtain ⟨as, e, hl, h2⟩ := h2
  subst e
  cases i1 using AV.Is.t_elim with
  | t m1 i =>
   refine kba_turn (value' := usE) (fun _ => rfl) (slice_tup (k := 11) (n := 14) F1 N1 m1 (i.len.trans hl) (by decide +kernel) (by decide +kernel) rfl (Nat.le_of_ble_eq_true rfl) (fun D h' F' N' hlt => ?_) rfl (fun _ => rfl))
   obtain ⟨n', d1, d2, d3, d4⟩ := hT _ _ _ _ hS1 hlt
   exact k _ _ _ n' _ _ F' (g1.trans d4) (fun p hp => N' p (d2 p hp)) d1 (.t d3 (LIs.mono d4 (lisTake 11 i))) h2)))))
end
section
variable {X : TX} {E : TE}
theorem te_seen {n : Led} (h : teD X E n) : AsAll n (seenA X.A.ou X.A.er E.cf) [.list E.cf.out, .list E.cf.errs, .int E.cf.pos, .str (stS E.cf.st), .str (backS E.cf.back), .str (xS E.cf.buf), .int E.cf.code, .str (xS E.cf.last), drSeen E.cf.draft, .bool (aptC E.cf), .bool (decide (E.cf.back < 3)), .bool E.cf.wait, .bool false, .bool E.cf.done] := by
 refine xEEEEAAA h fun TK0 v dl rest zq1 hA T hb => ?_
 subst zq1
 refine .cons (.r (.list (.tail _ (.tail _ (.tail _ (.tail _ (.tail _ (.tail _ (.head _))))))) (T.outs.mono fun p hp => mem_ends (mem_ends hp)))) (.cons (.r (.list (.tail _ (.tail _ (.tail _ (.tail _ (.tail _ (.tail _ (.tail _ (.head _)))))))) (T.ers.mono fun p hp => mem_ends (mem_ends hp)))) (.cons (.i _) (.cons (.s _) (.cons (.s _) (.cons (.s _) (.cons (.i _) (.cons (.s _) (.cons (drA_dat _) (.cons (.b _) (.cons (.b _) (.cons (.b _) (.cons (.b _) (.cons (.b _) .nil)))))))))))))
theorem AsAll.take {n : Led} {as : List AV} {xs : List Dat} (h : AsAll n as xs) (k : Nat) : AsAll n (as.take k) (xs.take k) := by
 induction h generalizing k with
 | nil => rw [List.take_nil, List.take_nil]; exact .nil
 | cons a r ih =>
  cases k with
  | zero => exact .nil
  | succ k => exact .cons a (ih k)
theorem AsDat.mono {n n' : Led} {a : AV} {x : Dat} (h : AsDat n a x) (hs : ∀ p ∈ n, p ∈ n') : AsDat n' a x := by
 cases h with
 | i => exact .i _
 | s => exact .s _
 | b => exact .b _
 | n => exact .n
 | d => exact .d _
 | r h => exact .r (h.mono hs)
theorem AsAll.mono {n n' : Led} {as : List AV} {xs : List Dat} (h : AsAll n as xs) (hs : ∀ p ∈ n, p ∈ n') : AsAll n' as xs := by
 induction h with
 | nil => exact .nil
 | cons a r ih => exact .cons (a.mono hs) ih
end
end Mine
end
section
open PySem PySem.W PyProof.Rows PySem.Calls
namespace Mine
noncomputable def prevW (ws : List Nat) (i : Nat) : Nat := if i = 0 then 0 else ws.getD (i - 1) 0
structure WayOk (ws : List Nat) : Prop where
 pos : 1 ≤ ws.length
 len : ws.length ≤ 12
 mono : ∀ i, i < ws.length → prevW ws i ≤ ws.getD i 0 ∧ ws.getD i 0 ≤ 12
 last : prevW ws ws.length = 12
 twelve : ws.length = 12 → ∀ i, i < 12 → ws.getD i 0 = i + 1
theorem way_one : WayOk [12] := by
 refine ⟨by decide, by decide, fun i hi => ?_, by decide, fun h => by cases h⟩
 have : i = 0 := by simp at hi; lia
 subst this
 decide
theorem way_four {q0 q1 q2 : Nat} (h0 : q0 ≤ q1) (h1 : q1 ≤ q2) (h2 : q2 ≤ 12) : WayOk [q0, q1, q2, 12] := by
 refine ⟨by simp, by simp, fun i hi => ?_, by simp [prevW], fun h => by simp at h⟩
 have : i = 0 ∨ i = 1 ∨ i = 2 ∨ i = 3 := by simp at hi; lia
 rcases this with rfl | rfl | rfl | rfl <;> simp [prevW] <;> lia
theorem way_twelve : WayOk [1, 2, 3, 4, 5, 6, 7, 8, 9, 10, 11, 12] := by
 refine ⟨by decide, by decide, ?_, by decide, fun _ => ?_⟩
 ·decide
 ·decide
end Mine
end
section
open PySem PySem.W PyProof.Rows PySem.Calls
namespace Mine
theorem tokAt_init {A : TA} {v : TV} {la : List Nat} {news : List (Addr × Obj)} (hA : A.chain) (hl : ∀ p ∈ news, p.1 < A.td) (h1 : v.outs = []) (h2 : v.ers = []) (h3 : v.pos = 0) (h4 : v.state = ofString "0") (h5 : v.back = ofString "data") (h6 : v.draft = .none) (h7 : v.buf = ofString "") (h8 : v.code = 0) (h9 : v.last = xS la) (h10 : v.waiting = false) (h11 : v.done = false) (h12 : v.signs = []) (h13 : v.serrs = []) (h14 : v.closed = false) : TokAt A [] false (initC la) v [] news where
 signs := by rw [h12]; exact .nil
 closed := h14
 serl := by rw [h13]; exact Nat.le_refl _
 outs := by rw [h1]; exact .nil
 ers := by rw [h2]; exact .nil
 pos := h3
 state := h4.trans (show ofString "0" = stS 0 by decide +kernel)
 back := h5
 buf := h7.trans (show ofString "" = xS [] by decide +kernel)
 code := h8
 last := h9
 wait := h10
 done := h11
 draft := by rw [h6]; exact .none
 offL := fun p hp => nomatch hp
 offT := by
  refine xAAAAAA hA fun a1 a2 a3 a4 a5 a6 a7 => ?_
  exact ⟨fun p hp => Nat.ne_of_lt (Nat.lt_of_lt_of_le (hl p hp) (by lia)), fun p hp => Nat.ne_of_lt (Nat.lt_of_lt_of_le (hl p hp) (by lia)), fun p hp => Nat.ne_of_lt (Nat.lt_of_lt_of_le (hl p hp) (by lia)), fun p hp => Nat.ne_of_lt (Nat.lt_of_lt_of_le (hl p hp) (by lia)), fun p hp => Nat.ne_of_lt (Nat.lt_of_lt_of_le (hl p hp) (by lia)), fun p hp => Nat.ne_of_lt (Nat.lt_of_lt_of_le (hl p hp) (by lia)), fun p hp => Nat.ne_of_lt (Nat.lt_of_lt_of_le (hl p hp) (by lia)), fun p hp => Nat.ne_of_lt (Nat.lt_of_lt_of_le (hl p hp) (by lia))⟩
theorem take_cat {text : List Nat} {b p : Nat} (h : b ≤ p) : text.take b ++ (text.drop b).take (p - b) = text.take p := by
 rw [← List.take_add]
 congr 1
 lia
theorem take_pre {text : List Nat} {b p : Nat} (h : b ≤ p) : text.take b <+: text.take p := ⟨_, take_cat h⟩
theorem deedC_done (r : Row) (ch : Nat) (c : Cfg) : (deedC r ch c).done = c.done := by
 unfold deedC
 split <;> first | rfl | (split <;> rfl)
theorem step_done {rows : Nat → Row} {text : List Nat} {c : Cfg} (g : goC text false c) : (stepC rows text false c).done = false := by
 refine xAAA g fun _ _ hd hp => ?_
 have hp : c.pos < text.length := by simpa using hp
 unfold stepC
 rw [List.getElem?_eq_getElem hp]
 simp only
 split
 ·exact hd
 ·split
  ·exact hd
  ·rw [deedC_done]; exact hd
theorem Reach.done_f {rows : Nat → Row} {text : List Nat} {a b : Cfg} (h : Reach rows text false a b) : a.done = false → b.done = false := by
 induction h with
 | refl c => exact id
 | head g _ ih => exact fun _ => ih (step_done g)
theorem Reach.stuck {rows : Nat → Row} {text : List Nat} {closed : Bool} {a b : Cfg} (h : Reach rows text closed a b) (g : ¬ goC text closed a) : b = a := by
 cases h with
 | refl => rfl
 | head g' _ => exact absurd g' g
theorem go_next {text : List Nat} {b : Nat} {c : Cfg} (W : Wf (text.take b) c) (hd : c.done = false) (h6 : c.st ≠ 6) (hb : b < text.length) : goC (text.take (b + 1)) false (unwait c) := by
 refine ⟨h6, rfl, hd, .inl ?_⟩
 have h1 := W.posd hd
 rw [List.length_take] at h1 ⊢
 show c.pos < _
 lia
theorem init_stuck {la : List Nat} : ¬ goC [] false (initC la) := fun g => by
 rcases g.2.2.2 with q | q
 ·exact absurd q (Nat.not_lt_zero _)
 ·cases q
theorem waitC_stuck {text : List Nat} {closed : Bool} {c : Cfg} : ¬ goC text closed { c with wait := true } := fun g => by cases g.2.1
theorem waitC_wf {text : List Nat} {c : Cfg} (W : Wf text c) : Wf text { c with wait := true } := ⟨W.pos, W.posd, W.st, W.back, W.buf, W.bufc, W.out, W.outc, W.errs, W.errc, W.code, W.last, W.draft⟩
theorem seen11_tup {text : List Nat} {c : Cfg} (W : Wf text c) : okP 6 (.tuple (seen11 c)) = true := by
 rw [okP_t, List.all_eq_true]
 exact seen11_ok W
theorem take_all {text : List Nat} (h : text.length = 12) : text.take 12 = text := List.take_of_length_le (Nat.le_of_eq h)
theorem twelve_step {ws : List Nat} (h : WayOk ws) (h12 : ws.length = 12) {i : Nat} (hi : i < ws.length) : ws.getD i 0 = prevW ws i + 1 ∧ prevW ws i < 12 := by
 have e := h.twelve h12 i (by lia)
 unfold prevW
 split
 ·subst i; exact ⟨by rw [e], by lia⟩
 ·have e2 := h.twelve h12 (i - 1) (by lia)
  rw [e, e2]
  lia
theorem feed_reach {rows : Nat → Row} {text la : List Nat} {b p : Nat} {c : Cfg} (h : b ≤ p) (R : Reach rows (text.take b) false (initC la) c) : Reach rows (text.take p) false (initC la) (unwait c) := R.ext (take_pre h) rfl
end Mine
end
section
open PySem PySem.W PyProof.Rows PySem.Calls
namespace Mine
noncomputable def newX (A : TA) (B : Led) : TX := ⟨A, [], false, 0, B, DrAt, dr_tup⟩
section
variable {w : World} {d : Nat} {cs : Scope} {c : FD w d cs} {l : ANs} {B : Led}
theorem x_newTok {K : AF → ANs → Unit → Prop} {t : PySem.Str} {pt tp p pp : Pos} {e0 : Expr} {es : List Expr} {sd : Addr} {la : List Nat} {r : List Stmt} (hx : isLoc cs t = true) (hG : isGlob cs (ofString "Tokenizer") = true) (hd7 : Nat.ble 7 d = true) (hp : (e0 :: es).all starP = true) (q : JL (inD B) c (spliced (backTo p (starEach (e0 :: es) c.env))) l () fun as _ => as = [.r sd, .s (ofString "0"), .s ⟨la.toArray⟩])
  (h : ∀ A : TA, A.sa = sd → JX (teD (newX A B)) c (execs r c.env) ((t, .r A.t) :: l) ⟨[], false, 0, initC la⟩ fun f l' _ => K f l' ()) :
  JX (inD B) c (execs (.Assign [.Name t pt] (.Call (.Name (ofString "Tokenizer") tp) (e0 :: es) [] p) pp :: r) c.env) l () K := fun s Q E m n F M N hS k => by
 rw [List.all_cons, Bool.and_eq_true] at hp
 have T := c.T
 have X := c.X
 refine wpAny_execs_cons (wpAny_Assign_Name (Call_ (nameX_K F X (by k_asm) (gn_Tokenizer _) ?_ c.hk (isGlob_spec hG) db_Tokenizer) rfl) (swap_plain rfl))
 refine callWith_K c.X (kp_Tokenizer _) (q s _ E m n F M N hS fun vs as S1 n1 h1 t1 F1 g1 N1 hS1 i1 hk => ⟨c.X.keeps F1.keep, ?_⟩) (star_plain hp.1) (noStars _ _ _ hp.2)
 subst hk
 cases i1 using LIs.cons_elim with
 | cons j1 i1 => cases i1 using LIs.cons_elim with
  | cons j2 i1 => cases i1 using LIs.cons_elim with
   | cons j3 i1 =>
    (first | obtain rfl := i1.inv | obtain ⟨_, rfl⟩ := i1.inv | cases i1); (first | obtain rfl := j1.inv | obtain ⟨_, rfl⟩ := j1.inv | cases j1); (first | obtain rfl := j2.inv | obtain ⟨_, rfl⟩ := j2.inv | cases j2); (first | obtain rfl := j3.inv | obtain ⟨_, rfl⟩ := j3.inv | cases j3)
    refine run_specN hd7 (tokN _ _ _ _ _ _ _) F1 N1 fun rr n2 h2 t2 F2 N2 zf56 => ?_
    obtain ⟨A, TK0, v, e1, e2, e3, hA, hl, o1, o2, o3, o4, o5, o6, o7, o8, o9, o10, o11, o12, o13, o14⟩ := zf56
    subst e1 e2
    have T0 := tokAt_init (la := la) hA hl o1 o2 o3 o4 o5 o6 o7 o8 o9 o10 o11 o12 o13 o14
    have hT : teD (newX A B) ⟨[], false, 0, initC la⟩ (tokLed A TK0 v ++ n1) := ⟨TK0, v, [], n1, rfl, hA, { signs := T0.signs, closed := T0.closed, serl := T0.serl, outs := T0.outs, ers := T0.ers, pos := T0.pos, state := T0.state, back := T0.back, buf := T0.buf, code := T0.code, last := T0.last, wait := T0.wait, done := T0.done, draft := T0.draft, offL := T0.offL, offT := T0.offT, nolO := fun d hd => (nomatch hd), nolE := fun d hd => (nomatch hd) }, hS1⟩
    have g2 : Gro n1 (tokLed A TK0 v ++ n1) := .of fun p hp => mem_ends hp
    exact storeX_L F2 N2 (fun h3 F3 N3 => h A e3 _ _ E _ _ F3 ((M.mono (g1.trans g2)).store (.r A.t)) N3 hT fun v b l' S' m' n' h' tk' F' g M' N' hS' i' hk => k v b l' () m' n' h' tk' F' ((g1.trans g2).trans g) M' N' (te_base hS') i' hk) c.hk (isLoc_spec hx)
end
end Mine
end
section
open PySem PySem.W PyProof.Rows PySem.Calls
namespace Mine
section
variable {w : World} {d : Nat} {cs : Scope} {σ : Type} {den : σ → Led → Prop} {c : FD w d cs} {l : ANs} {S : σ} {B : Led}
theorem b_cell {K : AV → σ → Prop} {x : PySem.Str} {p : Pos} {ca : Addr} {o : Obj} {v : Value} {a : AV} (hB : BaseOk den B) (hx : isCell cs x = true) (hd : (x == ofString "__debug__") = false) (hc : c.cl.lookup x = some ca) (hm : (ca, o) ∈ B) (ho : o.data = .cell (some v)) (hi : a.Is B v) (h : K a S) : JE den c (eval (.Name x p) c.env) l S K := fun s Q E m n F M N hS k =>
 nameX_C N hc (hB _ _ hS _ hm) ho (k _ _ _ _ _ _ F .refl N hS (hi.mono (.of (hB _ _ hS))) h) c.hk (isCell_spec hx) hd
theorem b_len {K : AV → σ → Prop} {a : Addr} {vs : List Value} {k0 : Nat} (hB : BaseOk den B) (hm : (a, listOf vs.toArray k0) ∈ B) (hz : vs.length ≤ 100000) (h : K (.i (vs.length : Int)) S) : JOL den c AV.Is (fun vs => call (.builtin "len") vs) [.r a] l S K := fun s Q E m n us F M N hS i k => by
 cases i using LIs.cons_elim with
 | cons i j =>
  (first | obtain rfl := i.inv | obtain ⟨_, rfl⟩ := i.inv | cases i)
  (first | obtain rfl := j.inv | obtain ⟨_, rfl⟩ := j.inv | cases j)
  exact len_L N (hB _ _ hS _ hm) rfl hz (k _ _ _ _ _ _ F .refl N hS (.i _ _) h)
end
section
variable {w : World} {d : Nat} {cs : Scope} {c : FD w d cs} {l : ANs} {X : TX} {E : TE}
theorem te_baseOk : BaseOk (teD X) X.base := fun _ _ h => te_base h
theorem te_m {K : AV → TE → Prop} {dd : Nat} {x name : PySem.Str} {xp apos p : Pos} {f : Addr} (hp : methOk [] apos p = true) (e : alook cs l x = some (.r X.A.t)) (q : mtab.lookup name = some (f, dd)) (hd : Nat.ble dd d = true) (h : JC (teD X) w dd f [.r X.A.t] E K) : JE (teD X) c (eval (.Call (.Attribute (.Name x xp) name apos) [] [] p) c.env) l E K :=
 e_meth0 hp e (te_meth (mtab_ok (X := teX X E) (c := c) (cf := E.cf) _ (mem_lookup q)).1) (mtab_ok (X := teX X E) (c := c) (cf := E.cf) _ (mem_lookup q)).2 hd h
theorem te_get {K : AV → TE → Prop} {x : PySem.Str} {a : AV} (e : cfGet (teX X E) E.cf x = some a) (h : K a E) : JO1 (teD X) c AV.Is (fun v => getAttr v x true) (.r X.A.t) l E K := te_o1 (s_get e h)
end
end Mine
end
section
open PySem PySem.W PyProof.Rows PySem.Calls
namespace Mine
section
variable {w : World} {d : Nat} {cs : Scope} {σ : Type} {den : σ → Led → Prop} {c : FD w d cs} {l : ANs} {S : σ} {B : Led}
theorem AF.Is.mono {n n' : Led} {f : AF} {v : Flow} (h : f.Is n v) (g : Gro n n') : f.Is n' v := by
 cases h with
 | nxt => exact .nxt
 | ret i => exact .ret (i.mono g)
theorem o_neG {K : Bool → σ → Prop} {a b : AV} {X : Dat} {k0 : Nat} (ha : ∀ n x, den S n → a.Is n x → DatIn n x X) (hb : ∀ n x, den S n → b.Is n x → DatIn n x X) (hk : okP k0 X = true) (hn : Nat.ble k0 64 = true) (hd5 : Nat.ble 5 d = true) (h : K false S) : CmpK den c .NotEq a b l S K := fun s Q E m n x y F M N hS i j k =>
 ne_same N (ha _ _ hS i) (hb _ _ hS j) hk (Nat.le_of_ble_eq_true hn) (by have h1 := c.hu; have h2 := Nat.le_of_ble_eq_true hd5; show c.un + 64 < cLine; lia) (k _ _ _ _ _ _ F .refl N hS rfl h)
theorem o_tI {K : AV → σ → Prop} {as : List AV} {k : Nat} {a : AV} {sl : Expr} (hs : slicePlain sl = true) (hz : Nat.ble k 1000 = true) (hv : as[k]? = some a) (h : K a S) : JO2 den c AV.Is (fun o i => subscriptTail usE sl o i) (.t as) (.i (k : Int)) l S K := fun s Q E m n x y F M N hS i j kk => by
 cases i using AV.Is.t_elim with
 | t m1 i1 =>
  (first | obtain rfl := j.inv | obtain ⟨_, rfl⟩ := j.inv | cases j)
  refine xEA (i1.at hv) fun v e1 e2 => ?_
  exact item_tup_L N m1 (Int.natCast_nonneg k) (Int.ofNat_lt.mpr (Nat.lt_of_le_of_lt (Nat.le_of_ble_eq_true hz) (by decide))) e1 (kk _ _ _ _ _ _ F .refl N hS e2 h) (sub_plain hs)
theorem in_own (B : Led) (I : Addr) (io : Obj) (hc : io.cls ≠ .type "tuple") : Own (inD B) (inD (B ++ [(I, io)])) I io where
 put := fun hS _ p hp => (List.mem_append.mp hp).elim (fun z => mem_left (hS p z)) fun z => mem_ends z
 take := fun {S n h₀ L h S0 nx0} h0 hne hS N => ⟨offI I n, fun p hp => (mem_offI.mp hp).1, hS _ (mem_ends (.head _)), fun p hp => (mem_offI.mp hp).2, fun p hp => mem_offI.mpr ⟨hS p (mem_left hp), hne p (h0 p hp)⟩, fun a k vs hp => mem_offI.mpr ⟨hp, fun e => by
  have h1 := (N _ hp).1
  have h2 := (N _ (hS _ (mem_ends (.head _)))).1
  rw [e, h2] at h1
  have h3 : io = _ := Option.some.inj h1
  exact hc (by rw [h3])⟩⟩
end
section
variable {w : World} {d : Nat} {cs : Scope} {c : FD w d cs} {l : ANs} {S : OS} {B : Led}
theorem iter_list {la L : Addr} {vs : List Value} {k0 : Nat} {n : Led} {h h₀ : Heap} {m : PySem.Str → Option Value} (F : Fr h₀ L h m) (N : News h₀ L h n) (hm : (la, listOf vs.toArray k0) ∈ n) : h.IsList la vs.toArray ∧ la ≠ h.objs.size ∧ L ∉ [h.objs.size, la] ∧ ∀ q ∈ n, q.1 ≠ h.objs.size := by
 have hl0 := N _ hm
 refine ⟨⟨_, hl0.1, rfl, _, rfl⟩, Nat.ne_of_lt (Heap.lt_size hl0.1), fun q => ?_, fun p hp hI => absurd (Heap.lt_size (N p hp).1) (hI ▸ Nat.lt_irrefl _)⟩
 rcases List.mem_cons.mp q with e | q
 ·exact absurd F.ns.lt (e ▸ Nat.lt_irrefl _)
 ·exact hl0.2.1 (List.mem_singleton.mp q).symm
theorem x_forN {K : AF → ANs → OS → Prop} {x : PySem.Str} {px p : Pos} {iter : Expr} {body : List Stmt} (hx : isLoc cs x = true) (hf : ∀ y, foldedSetIterable iter c.env y = pure y)
  (h : JE (owD B) c (eval iter c.env) l S fun a S1 => ∃ la as, a = .r la ∧ (la, .lst as) ∈ S1 ∧ ∀ (B4 : Led) (vs : List Value) (k0 : Nat), owD B S1 B4 → (la, listOf vs.toArray k0) ∈ B4 → LIs B4 as vs → ∃ L : ANs, SubL l L ∧ (∀ I io, io.cls ≠ .type "tuple" → ∀ i, i < as.length → JX (inD (B4 ++ [(I, io)])) c (execs body c.env) ((x, as.getD i .n) :: L) () fun f l' _ => f = .nxt ∧ SubL l' L) ∧ K .nxt L []) :
  JX (owD B) c (exec (.For (.Name x px) iter body [] p) c.env) l S K := fun s Q E m n F M N hS k => by
 refine wpAny_mono (E := fun _ _ => False) (For_invV c.h₀ (isLoc_spec hx) for_cls ?_ hf .never) (fun _ _ h => h) (fun _ _ h => h.elim)
 refine h s _ _ m n F M N hS fun v a S1 n1 h1 t1 F1 g1 N1 hS1 i1 h2 => ?_
 refine xEEAA h2 fun la as zq1 hm h3 => ?_
 subst zq1
 (first | obtain rfl := i1.inv | obtain ⟨_, rfl⟩ := i1.inv | cases i1)
 refine xEA (hS1.ob _ hm) fun o hm0 q => ?_
 cases q using AO.Is.lst_elim with
 | @lst vs k0 hL0 =>
 refine xAAA (iter_list F1 N1 hm0) fun hls hne hLn hnw => ?_
 refine xEAA (h3 n1 vs k0 hS1 hm0 hL0) fun L hl turn done => ?_
 have hsz : vs.toArray.size = as.length := by rw [List.size_toArray, hL0.len]
 refine wpAny_pyIter_list hls ?_
 refine loop_core (S := ()) (K := fun f l' _ => f = .nxt ∧ l' = L) (γ := Unit) (den := inD n1) (fun I io => inD (n1 ++ [(I, io)])) (in_own n1) (fun i => as.getD i .n) (fun _ _ _ => True) (fun _ _ _ => L) () (hsz ▸ Walks.list (prog := PG) (w := w) c_handled h1.objs.size la hne vs.toArray) (.head _) hLn (next_is_new F1) (fun i h hs => ?_) (fun b hb => ?_) hnw ⟨⟨_, Heap.get?_push_size _ rfl, rfl, rfl⟩, hls.at fun o e => Heap.get?_push_of_some _ e⟩ ?_ (F1.push _) (M.mono g1) (fun p hp => ⟨Heap.get?_push_of_some _ (N1 p hp).1, (N1 p hp).2⟩) (fun p hp => hp) trivial hl (fun I io hc i _ _ hi _ => x_mono (turn I io hc i hi) fun f l' S' ⟨e, hs⟩ => by subst e; exact ⟨(), trivial, hs⟩) (fun _ _ _ => ⟨rfl, rfl⟩) fun v b l' S' m' n' h' tk' F' g' M' N' hS' i' hK => ?_
 ·obtain ⟨⟨o, ho, hc, _⟩, _⟩ := hs
  exact ⟨o, ho, by rw [hc]; simp⟩
 ·rcases List.mem_cons.mp hb with e | hb
  ·exact .inl e
  ·rw [List.mem_singleton.mp hb]
   exact .inr ⟨_, fun S nx hS => hS _ hm0⟩
 ·exact fun i v S nx hP hS hi => (hL0.mono (.of hS)).getD hi (by simpa using hP)
 ·obtain ⟨rfl, rfl⟩ := hK
  refine xEAA (dedL N') fun n3 d1 d2 d3 => ?_
  have hB : owD B [] n3 := ⟨d1, fun p hp => d3 p (hS' p (hS1.ba p hp)), (fun _ h => nomatch h), (fun _ h => nomatch h), List.nodup_nil⟩
  exact k v .nxt l' [] m' n3 h' tk' F' ((g1.trans g').trans (.of d3)) (M'.mono (.of d3)) (fun p hp => N' p (d2 p hp)) hB (i'.mono (.of d3)) done
end
section
structure DueG (B : Led) (rows : Nat → Row) (text : List Nat) (closed : Bool) (la : List Nat) (ou er : Addr) (g : Cfg) : Prop where
 re : Reach rows text closed (initC la) g
 st : ¬ goC text closed g
 ou : DatIn B (.ref ou) (.list g.out)
 er : DatIn B (.ref er) (.list g.errs)
variable {B : Led} {rows : Nat → Row} {text : List Nat} {closed : Bool} {la : List Nat} {ou er : Addr} {g : Cfg}
theorem DueG.mono {B' : Led} (h : DueG B rows text closed la ou er g) (hs : ∀ p ∈ B, p ∈ B') : DueG B' rows text closed la ou er g := ⟨h.re, h.st, h.ou.mono hs, h.er.mono hs⟩
theorem DueG.all (h : DueG B rows text closed la ou er g) : AsAll B (seenA ou er g) (seen11 g ++ [.bool g.wait, .bool false, .bool g.done]) :=
 .cons (.r h.ou) (.cons (.r h.er) (.cons (.i _) (.cons (.s _) (.cons (.s _) (.cons (.s _) (.cons (.i _) (.cons (.s _) (.cons (drA_dat g.draft) (.cons (.b _) (.cons (.b _) (.cons (.b _) (.cons (.b _) (.cons (.b _) .nil)))))))))))))
theorem AsAll.tup {n : Led} {as : List AV} {xs : List Dat} {v : Value} (h : AsAll n as xs) (i : (AV.t as).Is n v) : DatIn n v (.tuple xs) := by
 cases i using AV.Is.t_elim with
 | t m1 i1 => exact .tuple m1 (h.in i1)
end
section
variable {w : World} {d : Nat} {cs : Scope} {c : FD w d cs} {l : ANs} {X : TX} {E : TE} {B : Led} {rows : Nat → Row} {text text' : List Nat} {closed : Bool} {la : List Nat} {ou er : Addr} {g : Cfg}
theorem o_neSD {K : Bool → TE → Prop} (D : DueG B rows text closed la ou er g) (hB : ∀ p ∈ B, p ∈ X.base) (e : g = E.cf) (W : Wf text' E.cf) (hd5 : Nat.ble 5 d = true) (h : K false E) : CmpK (teD X) c .NotEq (.t (seenA X.A.ou X.A.er E.cf)) (.t (seenA ou er g)) l E K := by
 subst e
 exact o_neG (X := seenD E.cf) (fun n x hS i => (te_seen hS).tup i) (fun n x hS i => (D.all.mono fun p hp => te_base hS p (hB p hp)).tup i) (seen_ok W) rfl hd5 h
theorem o_neSD11 {K : Bool → TE → Prop} (D : DueG B rows text closed la ou er g) (hB : ∀ p ∈ B, p ∈ X.base) (e : E.cf = { g with wait := true }) (W : Wf text' g) (hd5 : Nat.ble 5 d = true) (h : K false E) : CmpK (teD X) c .NotEq (.t ((seenA X.A.ou X.A.er E.cf).take 11)) (.t ((seenA ou er g).take 11)) l E K :=
 o_neG (X := .tuple (seen11 g)) (fun n x hS i => by
  have := ((te_seen hS).take 11).tup i
  rw [e] at this
  exact this) (fun n x hS i => ((D.all.mono fun p hp => te_base hS p (hB p hp)).take 11).tup i) (seen11_tup W) rfl hd5 h
theorem o_neBB {σ : Type} {den : σ → Led → Prop} {S : σ} {K : Bool → σ → Prop} {x y : Bool} (e : x = y) (hd5 : Nat.ble 5 d = true) (h : K false S) : CmpK den c .NotEq (.b x) (.b y) l S K := by
 subst e
 exact o_neG (X := .bool x) (k0 := 0) (fun n v _ i => by (first | obtain rfl := i.inv | obtain ⟨_, rfl⟩ := i.inv | cases i); exact .bool _) (fun n v _ i => by (first | obtain rfl := i.inv | obtain ⟨_, rfl⟩ := i.inv | cases i); exact .bool _) rfl rfl hd5 h
end
end Mine
end
section
open PySem PySem.W PyProof.Rows PySem.Calls
namespace Mine
section
structure WW (w : World) (B : Led) (rows : Nat → Row) (txt la : List Nat) (sd Dd ow ew cT cL : Addr) (gw : Cfg) (vs : List Value) (k0 : Nat) (oT oL : Obj) (vT vL : Value) : Prop where
 env : ∃ so tobj kvs kvt ro to rvs rk, EnvAt w sd rows txt B so tobj kvs kvt ro to rvs rk
 rok : RowsOk rows
 tok : TextOk txt
 len : txt.length = 12
 hla : la = [] ∨ la = [97] ∨ la = [98]
 mem : (Dd, listOf vs.toArray k0) ∈ B
 due : ∀ m, m < 13 → ∃ v ou er g, vs[m]? = some v ∧ (AV.t (seenA ou er g)).Is B v ∧ DueG B rows (txt.take m) false la ou er g
 whole : DueG B rows txt true la ow ew gw
 ct : (cT, oT) ∈ B
 cto : oT.data = .cell (some vT)
 ctv : (AV.s ⟨txt.toArray⟩).Is B vT
 cl : (cL, oL) ∈ B
 clo : oL.data = .cell (some vL)
 clv : (AV.s ⟨la.toArray⟩).Is B vL
variable {w : World} {B B' : Led} {rows : Nat → Row} {txt la : List Nat} {sd Dd ow ew cT cL : Addr} {gw : Cfg} {vs : List Value} {k0 : Nat} {oT oL : Obj} {vT vL : Value}
theorem WW.mono (h : WW w B rows txt la sd Dd ow ew cT cL gw vs k0 oT oL vT vL) (hs : ∀ p ∈ B, p ∈ B') : WW w B' rows txt la sd Dd ow ew cT cL gw vs k0 oT oL vT vL where
 env := by
  refine xEEEEEEEE h.env fun a1 a2 a3 a4 a5 a6 a7 a8 E => ?_
  exact ⟨a1, a2, a3, a4, a5, a6, a7, a8, E.mono hs⟩
 rok := h.rok
 tok := h.tok
 len := h.len
 hla := h.hla
 mem := hs _ h.mem
 due := fun m hm => by
  refine xEEEEAA (h.due m hm) fun v ou er g e1 e2 e3 => ?_
  exact ⟨v, ou, er, g, e1, e2.mono (.of hs), e3.mono hs⟩
 whole := h.whole.mono hs
 ct := hs _ h.ct
 cto := h.cto
 ctv := h.ctv.mono (.of hs)
 cl := hs _ h.cl
 clo := h.clo
 clv := h.clv.mono (.of hs)
theorem WW.rg (h : WW w B rows txt la sd Dd ow ew cT cL gw vs k0 oT oL vT vL) {A : TA} (hA : A.sa = sd) {X : TX} (hX : X.A = A) (hd : X.dr = DrAt) (hb : X.base = B) (ht : X.text <+: txt) : RG w X rows txt where
 dr := hd
 env := by rw [hX, hA, hb]; exact h.env
 rok := h.rok
 tok := ⟨Nat.le_trans ht.length_le h.tok.1, fun x hx => h.tok.2 x (ht.subset hx)⟩
 sub := fun x hx => ht.subset hx
end
section
variable {w : World} {d : Nat} {cs : Scope} {σ : Type} {den : σ → Led → Prop} {c : FD w d cs} {l : ANs} {S : σ} {B : Led}
theorem in_base : BaseOk (inD B) B := fun _ _ h p hp => h p hp
theorem e_dueI {K : AV → σ → Prop} {x : PySem.Str} {xp p : Pos} {ie : Expr} {k k0 : Nat} {Dd : Addr} {vs : List Value} {v : Value} {a : AV} (hB : BaseOk den B) (e : alook cs l x = some (.r Dd)) (hs : slicePlain ie = true) (hm : (Dd, listOf vs.toArray k0) ∈ B) (hz : k < 100000) (hv : vs[k]? = some v) (hi : a.Is B v) (hie : JE den c (eval ie c.env) l S fun i S1 => i = .i (k : Int) ∧ S1 = S) (h : K a S) : JE den c (eval (.Subscript (.Name x xp) ie p) c.env) l S K := e_sub (e_name e (fun s Q E m n F M N hS kk => hie s Q E m n F M N hS fun v1 b S' n' h' tk' F' g N' hS' i ⟨e1, e2⟩ => kk v1 b S' n' h' tk' F' g N' hS' i (by
 subst e1 e2
 exact b_lG hB hs hm hz hv hi h)))
end
section
variable {w : World} {d : Nat} {cs : Scope} {c : FD w d cs} {l : ANs} {X : TX} {E : TE}
theorem e_seen {K : AV → TE → Prop} {text' : List Nat} {x : PySem.Str} {fp xp p : Pos} (e : alook cs l x = some (.r X.A.t)) (hg : isGlob cs (ofString "_law_seen") = true) (hd7 : Nat.ble 7 d = true) (hX : X.dr = DrAt) (W : Wf text' E.cf) (h : K (.t (seenA X.A.ou X.A.er E.cf)) E) : JE (teD X) c (eval (.Call (.Name (ofString "_law_seen") fp) [.Name x xp] [] p) c.env) l E K :=
 e_callK ⟨gn_law_seen _, db_law_seen⟩ hg rfl (kp_law_seen _) hd7 (l_cons rfl (e_name e (l_nil (te_jc (seen_a hX (fun d hd => (W.draft d hd).kind) W.back h)))))
theorem e_run {K : Bool → TE → Prop} {x : PySem.Str} {xp apos p : Pos} {rows : Nat → Row} {txt : List Nat} (hp : methOk [] apos p = true) (e : alook cs l x = some (.r X.A.t)) (hd13 : Nat.ble 13 d = true) (G : RG w (teX X E) rows txt) (W : Wf E.text E.cf) (h : ∀ c', Reach rows E.text E.closed E.cf c' → ¬ goC E.text E.closed c' → K c'.done { E with cf := c' }) : JB (teD X) c (PySem.isTrue (.Call (.Attribute (.Name x xp) (ofString "run") apos) [] [] p) c.env (eval (.Call (.Attribute (.Name x xp) (ofString "run") apos) [] [] p) c.env)) l E K :=
 t_plain rfl (te_m hp e rfl hd13 (te_jc (run_a G W fun c' h1 h2 => o_truthy (h c' h1 h2))))
theorem z_cutP {σ : Type} {den : σ → Led → Prop} {S : σ} {K : AF → ANs → σ → Prop} {st : Stmt} {r : List Stmt} {bs : List (List Stmt)} (P : ANs → σ → Prop) (h1 : JX den c (exec st c.env) l S fun f l' S' => f = .nxt ∧ P l' S') (h2 : ∀ l' S', P l' S' → JZ den c (r :: bs) l' S' K) : JZ den c ((st :: r) :: bs) l S K := z_stmt (x_mono h1 fun f l' S' ⟨e, h⟩ => by
 subst e
 exact h2 l' S' h)
end
section
variable {w : World} {d : Nat} {cs : Scope} {c : FD w d cs} {l : ANs} {B : Led} {S : OS}
theorem lis_ints {n : Led} : ∀ {vs : List Value} {ns : List Int}, IntsAre vs ns → LIs n (ns.map .i) vs
 | _, _, .nil => .nil
 | _, _, .cons _ _ h => .cons (.i _ _) (lis_ints h)
theorem ints_lis {n : Led} : ∀ {vs : List Value} {ns : List Int}, LIs n (ns.map .i) vs → IntsAre vs ns
 | _, [], .nil => .nil
 | _, _ :: _, .cons h r => by cases h; exact .cons _ _ (ints_lis r)
theorem b_lenN {σ : Type} {den : σ → Led → Prop} {S : σ} {K : AV → σ → Prop} {a : Addr} {vs : List Value} {k0 k : Nat} (hB : BaseOk den B) (hm : (a, listOf vs.toArray k0) ∈ B) (e : vs.length = k) (hz : k ≤ 100000) (h : K (.i (k : Int)) S) : JOL den c AV.Is (fun vs => call (.builtin "len") vs) [.r a] l S K := by
 subst e
 exact b_len hB hm hz h
theorem o_rangeN {K : AV → OS → Prop} {a b : Int} (h : ∀ D t u v, K (.r D) ((D, .obj { cls := .type "range", data := .fields #[.int a t, .int b u, .int 1 v] }) :: S)) : JOL (owD B) c AV.Is (fun vs => call (.type "range") vs) [.i a, .i b] l S K := fun s Q E m n vs F M N hS i k => by
 cases i using LIs.cons_elim with
 | cons i1 i => cases i using LIs.cons_elim with
  | cons i2 i =>
   (first | obtain rfl := i.inv | obtain ⟨_, rfl⟩ := i.inv | cases i); cases i1 using AV.Is.i_elim with
   | i t => cases i2 using AV.Is.i_elim with
    | i u =>
     have hl : ∀ p ∈ n, p.1 < s.heap.objs.size := fun p hp => Heap.lt_size (N p hp).1
     refine call_range_2 (k _ _ _ _ _ _ (F.push _) (.of fun p hp => .tail _ hp) (fun p hp => ?_) (hS.new hl (.obj (o := { cls := .type "range", data := .fields #[.int a t, .int b u, .int 1 s.toks] }) (by simp))) (.r _) (h _ t u s.toks))
     rcases List.mem_cons.mp hp with e | hp
     ·rw [e]; exact ⟨Heap.get?_push_size _ rfl, Nat.ne_of_gt F.ns.lt, next_is_new F⟩
     ·exact ⟨Heap.get?_push_of_some _ (N p hp).1, (N p hp).2⟩
theorem o_listR {K : AV → OS → Prop} {r : Addr} {a b : Int} {t u v : Tok} {n0 : Nat} (hm : (r, .obj { cls := .type "range", data := .fields #[.int a t, .int b u, .int 1 v] }) ∈ S) (hs : Builtin.Range.small a b 1 = true) (hn : Builtin.Range.rangeSize a b 1 = (n0 : Int)) (hz : Nat.ble n0 1000 = true) (h : ∀ D, K (.r D) ((D, .lst ((rangeInts a 1 n0).map .i)) :: S)) : JOL (owD B) c AV.Is (fun vs => call (.type "list") vs) [.r r] l S K := fun s Q E m n vs F M N hS i k => by
 cases i using LIs.cons_elim with
 | cons i1 i =>
  (first | obtain rfl := i.inv | obtain ⟨_, rfl⟩ := i.inv | cases i); (first | obtain rfl := i1.inv | obtain ⟨_, rfl⟩ := i1.inv | cases i1)
  refine xEA (hS.ob _ hm) fun o m1 q => ?_
  (first | obtain rfl := q.inv | obtain ⟨_, rfl⟩ := q.inv | cases q)
  have hl : ∀ p ∈ n, p.1 < s.heap.objs.size := fun p hp => Heap.lt_size (N p hp).1
  refine list_rangeD c_handled F N (N _ m1).1 hs hn (Nat.le_trans (Nat.le_of_ble_eq_true hz) (by decide)) fun h' tk ys F' N' K' hn' hl' P C => ?_
  obtain ⟨⟨kk, hp⟩, _⟩ := P
  refine k _ _ ((s.heap.objs.size, .lst ((rangeInts a 1 n0).map .i)) :: S) ((s.heap.objs.size, listOf ys.toArray kk) :: n) _ _ F' (.of fun p hp => .tail _ hp) (fun p hp' => ?_) (hS.new hl (.lst kk (lis_ints (IntsAre.ofCarried C)))) (.r _) (h _)
  rcases List.mem_cons.mp hp' with e | hp'
  ·rw [e]; exact ⟨hp, Nat.ne_of_gt F.ns.lt, hn'⟩
  ·exact N' p hp'
end
section
noncomputable def WayJ (rows : Nat → Row) (txt la ws : List Nat) (i : Nat) (S : TE) : Prop := ∃ ne cf, S = ⟨txt.take (prevW ws i), false, ne, cf⟩ ∧ ne ≤ prevW ws i ∧ Reach rows (txt.take (prevW ws i)) false (initC la) cf ∧ ¬ goC (txt.take (prevW ws i)) false cf
variable {rows : Nat → Row} {txt la ws : List Nat}
theorem wayJ_zero : WayJ rows txt la ws 0 ⟨[], false, 0, initC la⟩ := ⟨0, initC la, rfl, Nat.le_refl _, .refl _, init_stuck⟩
theorem init_stuck_eq {B : Led} {ou er : Addr} {g : Cfg} (D : DueG B rows (txt.take 0) false la ou er g) : g = initC la := D.re.stuck init_stuck
theorem getD_mapI {i : Nat} (h : i < ws.length) : (ws.map fun n : Nat => AV.i (n : Int)).getD i .n = .i ((ws.getD i 0 : Nat) : Int) := by
 rw [List.getD_eq_getElem?_getD, List.getD_eq_getElem?_getD, List.getElem?_map, List.getElem?_eq_getElem h]
 rfl
theorem feed_len1 {b p : Nat} (hp : p ≤ 12) : ((txt.drop b).take (p - b)).length ≤ 12 := by
 rw [List.length_take]; lia
theorem feed_ne {b p ne ne' : Nat} (hb : b ≤ p) (h1 : ne ≤ b) (h2 : ne' ≤ ne + ((txt.drop b).take (p - b)).length) : ne' ≤ p := by
 rw [List.length_take] at h2; lia
theorem ways_at {B B4 : Led} {S : OS} {w0 w1 w2 : Addr} {q0 q1 q2 : Nat} (hO : owD B S B4) (h0 : (w0, .lst [.i 12]) ∈ S) (h1 : (w1, .lst [.i (q0 : Int), .i (q1 : Int), .i (q2 : Int), .i 12]) ∈ S) (h2 : (w2, .lst ((rangeInts 1 1 12).map .i)) ∈ S) (a0 : q0 ≤ q1) (a1 : q1 ≤ q2) (a2 : q2 ≤ 12) : ∀ i, i < 3 → ∃ wa vw wk ws, [AV.r w0, .r w1, .r w2].getD i .n = .r wa ∧ (wa, listOf (List.toArray vw) wk) ∈ B4 ∧ LIs B4 (ws.map fun n => AV.i ((n : Nat) : Int)) vw ∧ WayOk ws := by
 intro i hi
 have : i = 0 ∨ i = 1 ∨ i = 2 := by lia
 rcases this with rfl | rfl | rfl
 ·refine xEA (hO.ob _ h0) fun o m q => ?_
  cases q using AO.Is.lst_elim with
  | lst k i => exact ⟨_, _, _, [12], rfl, m, i, way_one⟩
 ·refine xEA (hO.ob _ h1) fun o m q => ?_
  cases q using AO.Is.lst_elim with
  | lst k i => exact ⟨_, _, _, [q0, q1, q2, 12], rfl, m, i, way_four a0 a1 a2⟩
 ·refine xEA (hO.ob _ h2) fun o m q => ?_
  cases q using AO.Is.lst_elim with
  | lst k i => exact ⟨_, _, _, [1, 2, 3, 4, 5, 6, 7, 8, 9, 10, 11, 12], rfl, m, i, way_twelve⟩
end
end Mine
end
section
open PySem PySem.W PyProof.Rows PySem.Calls
namespace Mine
section
variable {w : World} {B : Led} {S : OS}
noncomputable def toldA (c : Nat) : List AV := [.b (blankB c), .b (spaceB c), .b (upB c), .b (loB c), .b (letB c), .b (digB c), .b (hexB c), .b (alnB c), .b (surB c), .b (nonB c), .b (ctlB c), .i (if hexB c then digV c else 7)]
theorem told_a {K : AV → OS → Prop} {c : Nat} (hc : c < 1114112) (h : ∀ a, K (.r a) ((a, .lst (toldA c)) :: S)) : JC (owD B) w 6 461 [.s (chS c)] S K := by
 refine jc_drop (jc_body1 (ofString "c") (by k_is) (by k_is) (fun _ _ => BindsTo.of_eq rfl) rfl rfl fun f => z_start ?_)
 refine z_let rfl rfl ?_
 refine e_bt rfl rfl (os_n ow_tup) rfl ?_
 refine o_ord ?_
 refine z_let rfl rfl ?_
 refine e_list ?_
 refine l_cons rfl ?_
 refine e_gt rfl rfl rfl (os_n ow_tup) rfl ?_
 refine pj_call (.b _) (is_blank_j c) ?_
 refine l_cons rfl ?_
 refine e_gt rfl rfl rfl (os_n ow_tup) rfl ?_
 refine pj_call (.b _) (is_space_j c) ?_
 refine l_cons rfl ?_
 refine e_gt rfl rfl rfl (os_n ow_tup) rfl ?_
 refine pj_call (.b _) (is_upper_j c) ?_
 refine l_cons rfl ?_
 refine e_gt rfl rfl rfl (os_n ow_tup) rfl ?_
 refine pj_call (.b _) (is_lower_j c) ?_
 refine l_cons rfl ?_
 refine e_gt rfl rfl rfl (os_n ow_tup) rfl ?_
 refine pj_call (.b _) (is_letter_j c) ?_
 refine l_cons rfl ?_
 refine e_gt rfl rfl rfl (os_n ow_tup) rfl ?_
 refine pj_call (.b _) (is_digit_j c) ?_
 refine l_cons rfl ?_
 refine e_gt rfl rfl rfl (os_n ow_tup) rfl ?_
 refine pj_call (.b _) (is_hex_j c) ?_
 refine l_cons rfl ?_
 refine e_gt rfl rfl rfl (os_n ow_tup) rfl ?_
 refine pj_call (.b _) (is_alnum_j c) ?_
 refine l_nil ?_
 refine ⟨rfl, fun a1 => ?_⟩
 refine z_ret ?_
 refine e_bin ?_
 refine e_ev (os_n ow_tup) rfl ?_
 refine e_list ?_
 refine l_cons rfl ?_
 refine e_gt rfl rfl rfl (os_n ow_tup) rfl ?_
 refine pj_call (.b _) (is_surrogate_j c) ?_
 refine l_cons rfl ?_
 refine e_gt rfl rfl rfl (os_n ow_tup) rfl ?_
 refine pj_call (.b _) (is_noncharacter_j c hc) ?_
 refine l_cons rfl ?_
 refine e_gt rfl rfl rfl (os_n ow_tup) rfl ?_
 refine pj_call (.b _) (is_control_j c) ?_
 refine l_cons rfl ?_
 refine e_ifexp ?_
 refine t_plain rfl ?_
 refine e_gt rfl rfl rfl (os_n ow_tup) rfl ?_
 refine pj_call (.b _) (is_hex_j c) ?_
 refine o_truthy ?_
 cases hx : hexB c with
 | true =>
  refine bif_t ?_
  refine e_gt rfl rfl rfl (os_n ow_tup) rfl ?_
  refine pj_call (.i _) (digit_value_j c) ?_
  refine l_nil ?_
  refine ⟨rfl, fun a2 => ?_⟩
  (with_reducible refine' o_addL ?q1 ?q2 ?q3 ?_); (case q1 => repeat (first | exact List.Mem.head _ | assumption | refine List.Mem.tail _ ?_)); (case q2 => repeat (first | exact List.Mem.head _ | assumption | refine List.Mem.tail _ ?_)); (case q3 => exact Nat.le_of_ble_eq_true rfl)
  with_reducible intro _
  exact ⟨_, .cons₂ _ (.cons _ (.cons _ (.refl S))), by have := h; unfold toldA at this; rw [hx] at this; exact this _⟩
 | false =>
  refine bif_f ?_
  refine e_ev (os_n ow_tup) rfl ?_
  refine l_nil ?_
  refine ⟨rfl, fun a2 => ?_⟩
  (with_reducible refine' o_addL ?q1 ?q2 ?q3 ?_); (case q1 => repeat (first | exact List.Mem.head _ | assumption | refine List.Mem.tail _ ?_)); (case q2 => repeat (first | exact List.Mem.head _ | assumption | refine List.Mem.tail _ ?_)); (case q3 => exact Nat.le_of_ble_eq_true rfl)
  with_reducible intro _
  exact ⟨_, .cons₂ _ (.cons _ (.cons _ (.refl S))), by have := h; unfold toldA at this; rw [hx] at this; exact this _⟩
end
end Mine
end
section
open PySem PySem.W PyProof.Rows PySem.Calls
namespace Mine
theorem ints_lis0 {n : Led} : ∀ {vs : List Value} {ns : List Int}, LIs n (ns.map .i) vs → IntsAre vs ns
 | _, [], .nil => .nil
 | _, _ :: _, .cons h r => by cases h; exact .cons _ _ (ints_lis0 r)
section
variable {w : World} {d : Nat} {cs : Scope} {σ : Type} {den : σ → Led → Prop} {c : FD w d cs} {l : ANs} {S : σ}
theorem o_inSS {K : Bool → σ → Prop} {x y : PySem.Str} {b : Bool} (e : (!(Builtin.Str.occurrences x y 0 x.length 1).isEmpty) = b) (h : K b S) : CmpK den c .In (.s y) (.s x) l S K := fun s Q E m n u v F M N hS i1 i2 k => by
 subst e
 (first | obtain rfl := i1.inv | obtain ⟨_, rfl⟩ := i1.inv | cases i1); (first | obtain rfl := i2.inv | obtain ⟨_, rfl⟩ := i2.inv | cases i2)
 exact P.in_str (k _ _ _ _ _ _ F .refl N hS rfl h)
theorem e_findC {K : AV → σ → Prop} {x y : PySem.Str} {z : Int} {kc : Nat} {cp apos p : Pos} {e0 : Expr} {os : List (PySem.Str × Obs σ)} (hp : methOk [e0] apos p = true) (hO : OsT den c l os) (q : evL os cs l S [e0] = some [.s y]) (e : (Txt.find x y : Int) = z) (h : K (.i z) S) : JE den c (eval (.Call (.Attribute (.Constant (.str x) kc cp) (ofString "find") apos) [e0] [] p) c.env) l S K := fun s Q E m n F M N hS k => by
 subst e
 have hp' := hp
 unfold methOk at hp'
 simp only [List.all_cons, Bool.and_eq_true] at hp'
 refine MethodCall_ (pl := (do return (← importBound (.Constant (.str x) kc cp) c.env).getD true)) (Constant_str ?_)
  (by show (eval (.Constant (.str x) kc cp) c.env >>= fun ov => standAt apos.atName >>= fun _ => methodCall _ _ _ _ _ _ _ _ _) = _; simp only [meth_form hp])
 refine GM.find ?_
 refine callWith_method1 (evL_ok hO q (K := fun as S2 => as = [.s y] ∧ S2 = S) ⟨rfl, rfl⟩ _ _ E m _ F M N hS fun vs as S2 n2 h3 t3 F3 g3 N3 hS3 i3 hk => ?_) (star_plain hp'.1.1.1) (noStars _ _ _ rfl)
 obtain ⟨rfl, rfl⟩ := hk
 cases i3 using LIs.cons_elim with
 | cons i3 i4 =>
  (first | obtain rfl := i4.inv | obtain ⟨_, rfl⟩ := i4.inv | cases i4)
  (first | obtain rfl := i3.inv | obtain ⟨_, rfl⟩ := i3.inv | cases i3)
  exact SC.find (k _ _ _ _ _ _ F3 g3 N3 hS3 (.i _ _) h)
end
section
variable {w : World} {d : Nat} {cs : Scope} {c : FD w d cs} {l : ANs} {B : Led} {S : OS}
theorem o_inLe {K : Bool → OS → Prop} {x : PySem.Str} {a : Addr} {as : List AV} {ys : List PySem.Str} {b : Bool} (hm : (a, .lst as) ∈ S) (e : strsA as = some ys) (eb : (ys.any fun y => y == x) = b) (h : K b S) : CmpK (owD B) c .In (.s x) (.r a) l S K := by
 subst eb
 exact o_inL hm e h
theorem o_inLI {K : Bool → OS → Prop} {x : Int} {a : Addr} {ys : List Int} (hm : (a, .lst (ys.map .i)) ∈ S) (h : K (ys.any (· == x)) S) : CmpK (owD B) c .In (.i x) (.r a) l S K := fun s Q E m n u v F M N hS i1 i2 k => by
 (first | obtain rfl := i1.inv | obtain ⟨_, rfl⟩ := i1.inv | cases i1)
 (first | obtain rfl := i2.inv | obtain ⟨_, rfl⟩ := i2.inv | cases i2)
 refine xEA (hS.ob _ hm) fun o1 m1 q1 => ?_
 cases q1 using AO.Is.lst_elim with
 | lst k1 i1 => exact in_list_ints (N.isList m1) (ints_lis0 i1) (k _ _ _ _ _ _ F .refl N hS rfl h)
end
theorem kB1 (c : Nat) : (blankB c || (chS c == ofString "\r")) = spaceB c := by
 rw [os13, ch_beq, show (13 == c) = (c == 13) by rw [Bool.eq_iff_iff, beq_iff_eq, beq_iff_eq]; exact eq_comm]
 unfold blankB spaceB
 generalize (c == 9) = x1; generalize (c == 10) = x2; generalize (c == 12) = x3; generalize (c == 13) = x4; generalize (c == 32) = x5
 revert x1 x2 x3 x4 x5; decide
theorem kB2 (c : Nat) : (loB c || upB c) = letB c := rfl
theorem kB3 (c : Nat) : (digB c || letB c) = alnB c := by
 unfold alnB letB
 generalize digB c = x1; generalize loB c = x2; generalize upB c = x3
 revert x1 x2 x3; decide
theorem kB4 (c : Nat) : ((c : Int) / 2048 == 27) = surB c := by
 unfold surB
 rw [Bool.eq_iff_iff]; simp only [beq_iff_eq, Bool.and_eq_true, decide_eq_true_eq]
 lia
theorem kB5 (c : Nat) (hc : c < 1114112) : (decide ((c : Int) % 65536 > 65533) || (((c : Int) - 64976) / 32 == 0)) = nonB c := by
 unfold nonB
 rw [Bool.eq_iff_iff]; simp only [beq_iff_eq, Bool.and_eq_true, Bool.or_eq_true, decide_eq_true_eq]
 lia
theorem kB6 (c : Nat) : ((([0, 4] : List Int).any fun x => x == (c : Int) / 32) || ((c : Int) == 127)) = ctlB c := by
 unfold ctlB
 rw [Bool.eq_iff_iff]; simp only [List.any_cons, List.any_nil, beq_iff_eq, Bool.and_eq_true, Bool.or_eq_true, Bool.or_false, decide_eq_true_eq]
 lia
theorem kB7 (c : Nat) : cond (decide ((if hexB c = true then digV c else -1) ≥ 0)) (if hexB c = true then digV c else -1) 7 = if hexB c then digV c else 7 := by
 have e := nn_b c
 show cond (decide (0 ≤ _)) _ _ = _
 rw [e]
 cases hexB c <;> rfl
theorem kinds_eq (c : Nat) (hc : c < 1114112) (t : Bool) (ht : t = ctlB c) : toldA c = [.b (blankB c), .b (blankB c || (chS c == ofString "\r")), .b ((⟨(List.map lowC [c]).toArray⟩ : PySem.Str) != chS c), .b (loB c), .b (loB c || ((⟨(List.map lowC [c]).toArray⟩ : PySem.Str) != chS c)), .b (digB c), .b (decide ((if hexB c = true then digV c else -1) ≥ 0)), .b (digB c || (loB c || ((⟨(List.map lowC [c]).toArray⟩ : PySem.Str) != chS c))), .b ((c : Int) / 2048 == 27), .b (decide ((c : Int) % 65536 > 65533) || (((c : Int) - 64976) / 32 == 0)), .b t, .i (cond (decide ((if hexB c = true then digV c else -1) ≥ 0)) (if hexB c = true then digV c else -1) 7)] := by
 rw [kB7, low_b, kB1, kB2, kB3, kB4, kB5 c hc, ht, show decide ((if hexB c = true then digV c else -1) ≥ 0) = hexB c from nn_b c]
 rfl
section
variable {w : World} {B : Led} {S : OS}
theorem kinds_a {K : AV → OS → Prop} {c : Nat} (hc : c < 1114112) (h : ∀ a, K (.r a) ((a, .lst (toldA c)) :: S)) : JC (owD B) w 7 473 [.s (chS c)] S K := by
 refine jc_drop (jc_body1 (ofString "c") (by k_is) (by k_is) (fun _ _ => BindsTo.of_eq rfl) rfl rfl fun f => z_start ?_)
 refine z_let rfl rfl ?_
 refine e_bt rfl rfl (os_n ow_tup) rfl ?_
 refine o_ord ?_
 refine z_let rfl rfl ?_
 refine e_gt rfl rfl rfl (os_n ow_tup) rfl ?_
 refine fold_a (xs := [c]) (Nat.le_of_ble_eq_true rfl) (fun x hx => by rw [List.mem_singleton.mp hx]; exact hc) ?_
 refine z_let rfl rfl ?_
 refine e_cmp rfl ?_
 refine e_ev (os_n ow_tup) rfl ?_
 refine e_listE (os_n ow_tup) rfl rfl ?_
 with_reducible intro _
 refine o_inLe (.head _) rfl (gap_b c) ?_
 refine z_let rfl rfl ?_
 refine e_cmp rfl ?_
 refine e_ev (os_n ow_tup) rfl ?_
 refine e_ev (os_n ow_tup) rfl ?_
 refine o_inSS (small_b c) ?_
 refine z_let rfl rfl ?_
 refine e_cmp rfl ?_
 refine e_ev (os_n ow_tup) rfl ?_
 refine e_ev (os_n ow_tup) rfl ?_
 refine o_inSS (fig_b c) ?_
 refine z_let rfl rfl ?_
 refine e_findC rfl (os_n ow_tup) rfl (find_b c) ?_
 refine z_let rfl rfl ?_
 refine e_listE (os_n ow_tup) rfl rfl ?_
 with_reducible intro _
 refine z_let rfl rfl ?_
 refine e_bin ?_
 refine e_ev (os_n ow_tup) rfl ?_
 refine e_list ?_
 refine l_cons rfl ?_
 refine e_ev (os_n ow_tup) rfl ?_
 refine l_cons rfl ?_
 refine e_ev (os_n ow_tup) rfl ?_
 refine l_cons rfl ?_
 refine e_or ?_
 refine e_cmp rfl ?_
 refine e_ev (os_n ow_tup) rfl ?_
 refine e_listE (os_n ow_tup) rfl rfl ?_
 with_reducible intro _
 refine o_inLI (ys := [0, 4]) (.head _) ?_
 cases ht : ([0, 4] : List Int).any fun x => x == (c : Int) / 32 with
 | true =>
  refine jt_b ?_
  refine bif_t ?_
  refine l_nil ?_
  refine ⟨rfl, fun a1 => ?_⟩
  (with_reducible refine' o_addL ?q1 ?q2 ?q3 ?_); (case q1 => repeat (first | exact List.Mem.head _ | assumption | refine List.Mem.tail _ ?_)); (case q2 => repeat (first | exact List.Mem.head _ | assumption | refine List.Mem.tail _ ?_)); (case q3 => exact Nat.le_of_ble_eq_true rfl)
  with_reducible intro _
  refine z_ret ?_
  refine e_bin ?_
  refine e_ev (os_n ow_tup) rfl ?_
  refine e_listE (os_n ow_tup) rfl rfl ?_
  with_reducible intro _
  (with_reducible refine' o_addL ?q1 ?q2 ?q3 ?_); (case q1 => repeat (first | exact List.Mem.head _ | assumption | refine List.Mem.tail _ ?_)); (case q2 => repeat (first | exact List.Mem.head _ | assumption | refine List.Mem.tail _ ?_)); (case q3 => exact Nat.le_of_ble_eq_true rfl)
  with_reducible intro _
  have e := kinds_eq c hc true (by rw [← kB6, ht]; rfl)
  rw [e] at h
  exact ⟨_, .cons₂ _ (.cons _ (.cons _ (.cons _ (.cons _ (.cons _ (.cons _ (.refl S))))))), h _⟩
 | false =>
  refine jt_b ?_
  refine bif_f ?_
  refine e_ev (os_n ow_tup) rfl ?_
  refine l_nil ?_
  refine ⟨rfl, fun a1 => ?_⟩
  (with_reducible refine' o_addL ?q1 ?q2 ?q3 ?_); (case q1 => repeat (first | exact List.Mem.head _ | assumption | refine List.Mem.tail _ ?_)); (case q2 => repeat (first | exact List.Mem.head _ | assumption | refine List.Mem.tail _ ?_)); (case q3 => exact Nat.le_of_ble_eq_true rfl)
  with_reducible intro _
  refine z_ret ?_
  refine e_bin ?_
  refine e_ev (os_n ow_tup) rfl ?_
  refine e_listE (os_n ow_tup) rfl rfl ?_
  with_reducible intro _
  (with_reducible refine' o_addL ?q1 ?q2 ?q3 ?_); (case q1 => repeat (first | exact List.Mem.head _ | assumption | refine List.Mem.tail _ ?_)); (case q2 => repeat (first | exact List.Mem.head _ | assumption | refine List.Mem.tail _ ?_)); (case q3 => exact Nat.le_of_ble_eq_true rfl)
  with_reducible intro _
  have e := kinds_eq c hc ((c : Int) == 127) (by rw [← kB6, ht]; rfl)
  rw [e] at h
  exact ⟨_, .cons₂ _ (.cons _ (.cons _ (.cons _ (.cons _ (.cons _ (.cons _ (.refl S))))))), h _⟩
end
end Mine
end
section
open PySem PySem.W PyProof.Rows PySem.Calls
namespace Mine
section
variable {w : World} {d : Nat} {cs : Scope} {σ : Type} {den : σ → Led → Prop} {c : FD w d cs} {l : ANs} {S : σ}
noncomputable def JCP (den : σ → Led → Prop) (w : World) (d : Nat) (Pre : Heap → Prop) (f : Addr) (as : List AV) (S : σ) (K : AV → σ → Prop) : Prop :=
 ∀ n vs, den S n → LIs n as vs → SpecP w d Pre n f vs fun r n' => Gro n n' ∧ ∃ a S', den S' n' ∧ a.Is n' r ∧ K a S'
noncomputable def Scr (sa : Addr) (vs : List Value) (h : Heap) : Prop := h.IsList sa vs.toArray
theorem Scr.keep {sa : Addr} {vs : List Value} {h h' : Heap} (g : ∀ b o, h.get? b = some o → h'.get? b = some o) (p : Scr sa vs h) : Scr sa vs h' := Heap.IsList.at p fun o e => g _ o e
theorem c_runP {K : AV → σ → Prop} {dd : Nat} {f : Addr} {as : List AV} {Pre : Heap → Prop} (hp : Pre c.h₀) (hd : Nat.ble dd d = true) (h : JCP den w dd Pre f as S K) : JOL den c AV.Is (fun vs => call (.ref f) vs) as l S K := fun s Q E m n vs F M N hS hi k => by
 have hd := Nat.le_of_ble_eq_true hd
 exact h n vs hS hi _ _ _ _ _ _ _ _ _ _ _ _ _ _ _ _ _ _ _ _ hp c.B F c.X N c.T c.hk (Nat.lt_of_le_of_lt (Nat.add_le_add_left hd _) c.hd) (Nat.lt_of_le_of_lt (Nat.add_le_add_left (Nat.mul_le_mul_left _ hd) _) c.hu) fun r n' h' tk' F' N' _ ⟨g, a, S', h1, h2, h3⟩ => k _ _ _ _ _ _ F' g N' h1 h2 h3
theorem e_callP {K : AV → σ → Prop} {dd : Nat} {x : PySem.Str} {xp p : Pos} {f : Addr} {e0 : Expr} {es : List Expr} {Pre : Heap → Prop} (B : GName w x (.ref f)) (hx : isGlob cs x = true) (hp : (e0 :: es).all starP = true) (hk : keepIn (hd.heap_1 w.params) (.ref f) = true) (hd : Nat.ble dd d = true) (hP : Pre c.h₀) (h : JL den c (spliced (backTo p (starEach (e0 :: es) c.env))) l S fun as S1 => JCP den w dd Pre f as S1 K) : JE den c (eval (.Call (.Name x xp) (e0 :: es) [] p) c.env) l S K := fun s Q E m n F M N hS k => by
 have T := c.T
 have X := c.X
 rw [List.all_cons, Bool.and_eq_true] at hp
 refine Call_ ?_ rfl
 refine nameX_K F X (by k_asm) B.e ?_ c.hk (isGlob_spec hx) B.hd
 exact callWith_K c.X hk (h s _ E m n F M N hS fun vs as S1 n1 h1 t1 F1 g1 N1 hS1 i1 h2 => ⟨c.X.keeps F1.keep, c_runP hP hd h2 _ _ E m n1 _ F1 (M.mono g1) N1 hS1 i1 fun y v S2 n2 h3 t3 F3 g3 N3 hS3 i3 h4 => k _ _ _ _ _ _ F3 (g1.trans g3) N3 hS3 i3 h4⟩) (star_plain hp.1) (noStars _ _ _ hp.2)
theorem jc_bodyP {w : World} {d : Nat} {Pre : Heap → Prop} {f : Addr} {as : List AV} {K : AV → σ → Prop} {oc : Value} {an od : Option Addr} {osl : Array (Option Value)} {name qual : PySem.Str} {params : Arguments} {body : List Stmt} {scope : Scope} {dV kV doc pm cdv ct : Value} (xs : List PySem.Str)
  (ho : (hd.heap_1 w.params).lookup f = some ⟨oc, od, .func (fnOf name qual params body scope dV kV doc pm an cdv ct), osl⟩) (hcd : codeIn (hd.heap_1 w.params) cdv qual = true) (hb : ∀ (s : Shared) n vs, LIs n as vs → BindsTo s (fnOf name qual params body scope dV kV doc pm an cdv ct) ⟨vs, []⟩ (xs.zip vs)) (hl : (xs.all fun x => decide (scope.names.lookup x = some .local)) = true) (hs : scopeOk scope = true)
  (hm : ∀ {h h' : Heap}, (∀ b o, h.get? b = some o → h'.get? b = some o) → Pre h → Pre h')
  (h : ∀ c : FD w d scope, Pre c.h₀ → JX den c (execs body c.env) (xs.zip as).reverse S fun fl _ S' => K (retA fl) S') : JCP den w (d + 1) Pre f as S K := fun n vs hS hi => by
 intro mean mg mb dp un gd cn cs a ccd cl outer A₀ base h₀ L m s Q E hP hB hF hX hN hT hk hd hu hret
 unfold scopeOk at hs
 simp only [Bool.and_eq_true, Bool.not_eq_true'] at hs
 obtain ⟨⟨⟨hs1, hs2⟩, hs3⟩, hs4⟩ := hs
 have hs3 : scope.kind = .function := by simpa using hs3
 refine wpAny_call ?_
 refine code_defG hB hF hX hN hT rfl rfl hk ho hcd (by show dp < _; lia) (hb s n vs hi) (locs (List.all_eq_true.mpr fun p hp => List.all_eq_true.mp hl _ (List.of_mem_zip hp).1)) (fun g' L' h' FG' F' N' B' X' T' hG => ?_) hs1 hs2 hs3 (fun x hx => by have := List.all_eq_true.mp hs4 x hx; simpa using this)
 refine h ⟨mean, mg, mb, dp + 1, un + 3, gd, qual, f, cdv, [], envX cn cs L a ccd cl :: outer, _, base, g', L', B', X', T', hs3, by lia, by lia⟩ (hm FG'.keep hP) _ _ _ _ n F' (PIs.zip xs hi).rev.names N' hS fun fl b l' S' m' n' h2 tk F2 g2 M2 N2 hS2 i2 hK => leaveK_ F2 N2 fun F3 N3 => hret _ _ _ _ F3 N3 (fun b o e n => F2.keep b o (hG b o e n)) ⟨g2, ?_⟩
 cases i2 with
 | nxt => exact ⟨_, _, hS2, .n, hK⟩
 | ret i2 => exact ⟨_, _, hS2, i2, hK⟩
theorem o_scrI {K : AV → σ → Prop} {sa : Addr} {vs : List Value} {ns : List Int} {k : Nat} {sl : Expr} (hP : Scr sa vs c.h₀) (hi : IntsAre vs ns) (hs : slicePlain sl = true) (hk : k < ns.length) (hz : k < 100000) (h : K (.i (ns.getD k 0)) S) : JO2 den c AV.Is (fun o i => subscriptTail usE sl o i) (.r sa) (.i (k : Int)) l S K := fun s Q E m n x y F M N hS i j kk => by
 (first | obtain rfl := i.inv | obtain ⟨_, rfl⟩ := i.inv | cases i)
 (first | obtain rfl := j.inv | obtain ⟨_, rfl⟩ := j.inv | cases j)
 have hl : s.heap.IsList sa vs.toArray := hP.keep F.keep
 obtain ⟨t, e⟩ := hi.get k (ns.getD k 0) (by rw [List.getD_eq_getElem?_getD, List.getElem?_eq_getElem hk]; rfl)
 exact item_listL hl (Int.natCast_nonneg k) (by lia) (by simpa using e) (kk _ _ _ _ _ _ F .refl N hS (.i _ _) h) (sub_plain hs) (fun _ => rfl)
theorem o_scrLen {K : AV → σ → Prop} {sa : Addr} {vs : List Value} {ns : List Int} (hP : Scr sa vs c.h₀) (hi : IntsAre vs ns) (hz : ns.length ≤ 63) (h : K (.i (ns.length : Int)) S) : JOL den c AV.Is (fun vs => call (.builtin "len") vs) [.r sa] l S K := fun s Q E m n us F M N hS i k => by
 cases i using LIs.cons_elim with
 | cons i j =>
  (first | obtain rfl := i.inv | obtain ⟨_, rfl⟩ := i.inv | cases i)
  (first | obtain rfl := j.inv | obtain ⟨_, rfl⟩ := j.inv | cases j)
  have hl : s.heap.IsList sa vs.toArray := hP.keep F.keep
  have e := hi.length
  refine len_list hl (by rw [List.size_toArray, e]; lia) ?_
  rw [List.size_toArray, e]
  exact k _ _ _ _ _ _ F .refl N hS (.i _ _) h
end
section
variable {w : World} {σ : Type} {den : σ → Led → Prop} {S : σ}
theorem digit_a {K : AV → σ → Prop} {sa : Addr} {vs : List Value} {ns : List Int} {k : Nat} {z : Int} (hT : TupOk den) (hi : IntsAre vs ns) (hl : ns.length ≤ 63) (ez : z = (k : Int)) (h : K (.i (ns.getD k 0)) S) : JCP den w 2 (Scr sa vs) 426 [.r sa, .i z] S K := by
 subst ez
 refine jc_bodyP [ofString "script", ofString "place"] (by k_is) (by k_is) (fun _ _ _ i => by cases i using LIs.cons_elim with | cons _ i => cases i using LIs.cons_elim with | cons _ i => (first | obtain rfl := i.inv | obtain ⟨_, rfl⟩ := i.inv | cases i); exact BindsTo.of_eq rfl) rfl rfl Scr.keep fun c hP => z_start ?_
 refine z_ret (e_ifexp (t_cmp rfl (e_name rfl (e_btJ rfl rfl rfl (l_cons rfl (e_name rfl (l_nil (o_scrLen hP hi hl (o_ltI ?_)))))))))
 by_cases q : k < ns.length
 ·refine bif_T (decide_eq_true (Int.ofNat_lt.mpr q)) (e_sub (e_name rfl (e_name rfl (o_scrI hP hi rfl q (by lia) h))))
 ·refine bif_F (decide_eq_false (fun z => q (Int.ofNat_lt.mp z))) (e_int ?_)
  have e : ns.getD k 0 = 0 := by rw [List.getD_eq_getElem?_getD, List.getElem?_eq_none (by lia)]; rfl
  rw [e] at h
  exact h
end
end Mine
end
section
open PySem PySem.W PyProof.Rows PySem.Calls
namespace Mine
section
variable {w : World} {d : Nat} {cs : Scope} {c : FD w d cs} {l : ANs} {B : Led} {S : OS}
theorem jcp_drop {w : World} {dd : Nat} {Pre : Heap → Prop} {K : AV → OS → Prop} {f : Addr} {as : List AV} (h : JCP (owD B) w dd Pre f as S fun a S1 => ∃ S2, List.Sublist S2 S1 ∧ K a S2) : JCP (owD B) w dd Pre f as S K := fun n vs hS hi mean mg mb dp un gd cn cs a ccd cl outer A₀ base h₀ L m s Q E p1 p2 p3 p4 p5 p6 p7 p8 p9 hret =>
 h n vs hS hi mean mg mb dp un gd cn cs a ccd cl outer A₀ base h₀ L m s Q E p1 p2 p3 p4 p5 p6 p7 p8 p9 fun v n' h' tk' F' N' K' ⟨g, b, S1, h1, h2, S2, h3, h4⟩ => hret v n' h' tk' F' N' K' ⟨g, b, S2, h1.sub h3, h2, h4⟩
theorem lis_strs {n : Led} : ∀ {vs : List Value} {xs : List Nat}, StrsAre vs (xs.map fun c => chS c) → LIs n (xs.map fun c => AV.s (chS c)) vs
 | _, [], .nil => .nil
 | _, _ :: _, .cons _ _ h => .cons (.s _ _) (lis_strs h)
theorem o_listS {K : AV → OS → Prop} {x : PySem.Str} {xs : List Nat} (e : x.cps.toList = xs) (hz : xs.length ≤ 100000) (h : ∀ D, K (.r D) ((D, .lst (xs.map fun c => .s (chS c))) :: S)) : JOL (owD B) c AV.Is (fun vs => call (.type "list") vs) [.s x] l S K := fun s Q E m n vs F M N hS i k => by
 subst e
 cases i using LIs.cons_elim with
 | cons i1 i =>
  (first | obtain rfl := i.inv | obtain ⟨_, rfl⟩ := i.inv | cases i); (first | obtain rfl := i1.inv | obtain ⟨_, rfl⟩ := i1.inv | cases i1)
  refine list_str_L c_handled F N (by show x.cps.size ≤ 100000; rw [← Array.length_toList]; exact hz) fun a h' tk us kk F' N' hs hl => ?_
  exact k _ _ _ _ _ _ F' (.of fun p hp => .tail _ hp) N' (hS.new hl (.lst kk (lis_strs hs))) (.r _) (h a)
theorem o_lenN {K : AV → OS → Prop} {a : Addr} {xs : List AV} {k : Nat} (h1 : (a, .lst xs) ∈ S) (e : xs.length = k) (hz : Nat.ble k 100000 = true) (h : K (.i (k : Int)) S) : JOL (owD B) c AV.Is (fun vs => call (.builtin "len") vs) [.r a] l S K := by
 subst e
 exact o_lenL h1 (Nat.le_of_ble_eq_true hz) h
theorem o_idxN {K : AV → OS → Prop} {a : Addr} {xs : List AV} {z : Int} {k : Nat} {v : AV} {sl : Expr} (ez : z = (k : Int)) (hs : slicePlain sl = true) (h1 : (a, .lst xs) ∈ S) (hz : k ≤ 1000) (hv : xs[k]? = some v) (h : K v S) : JO2 (owD B) c AV.Is (fun o i => subscriptTail usE sl o i) (.r a) (.i z) l S K := by
 subst ez
 exact o_idxL hs h1 (Nat.ble_eq_true_of_le hz) hv h
end
section
variable {w : World} {B : Led} {S : OS}
noncomputable def poolV : List AV := poolCs.map fun c => AV.s (chS c)
theorem pool_a {K : AV → OS → Prop} (h : ∀ a, K (.r a) ((a, .lst poolV) :: S)) : JC (owD B) w 2 433 [] S K := by
 refine jc_drop (jc_body0 (by k_is) (by k_is) (fun _ => BindsTo.of_eq rfl) rfl fun f => z_start ?_)
 refine z_let rfl rfl ?_
 refine e_tt rfl rfl (os_n ow_tup) rfl ?_
 refine o_listS (xs := poolA) (by decide +kernel) (by decide) fun a1 => ?_
 refine z_ret ?_
 refine e_bin ?_
 refine e_ev (os_n ow_tup) rfl ?_
 refine e_tt rfl rfl (os_n ow_tup) rfl ?_
 refine o_listS (xs := poolB) (by decide +kernel) (by decide) fun a2 => ?_
 refine o_addL (.tail _ (.head _)) (.head _) (by decide) fun a3 => ?_
 exact ⟨_, .cons₂ _ (.cons _ (.cons _ (.refl S))), h a3⟩
end
end Mine
end
section
open PySem PySem.W PyProof.Rows PySem.Calls
namespace Mine
section
theorem specFP_body {w : World} {d : Nat} {news : Led} {Pre : Heap → Prop} {f : Addr} {as : List AV} {vs : List Value} {K : AV → OS → Prop} {oc : Value} {an od : Option Addr} {osl : Array (Option Value)} {name qual : PySem.Str} {params : Arguments} {body : List Stmt} {scope : Scope} {dV kV doc pm cdv ct : Value} (xs : List PySem.Str)
  (ho : (hd.heap_1 w.params).lookup f = some ⟨oc, od, .func (fnOf name qual params body scope dV kV doc pm an cdv ct), osl⟩) (hcd : codeIn (hd.heap_1 w.params) cdv qual = true) (hb : ∀ s : Shared, BindsTo s (fnOf name qual params body scope dV kV doc pm an cdv ct) ⟨vs, []⟩ (xs.zip vs)) (hi : LIs news as vs) (hl : (xs.all fun x => decide (scope.names.lookup x = some .local)) = true) (hs : scopeOk scope = true)
  (hm : ∀ {h h' : Heap}, (∀ b o, h.get? b = some o → h'.get? b = some o) → Pre h → Pre h')
  (h : ∀ c : FD w d scope, Pre c.h₀ → JX (owD news) c (execs body c.env) (xs.zip as).reverse [] fun fl _ S' => K (retA fl) S') :
  SpecFP w (d + 1) Pre news f vs fun r new n => ∃ n' a S', (∀ p ∈ n', p ∈ n) ∧ owD news S' n' ∧ a.Is n' r ∧ K a S' := by
 intro mean mg mb dp un gd cn cs a ccd cl outer A₀ base h₀ L m s Q E hP hB hF hX hN hT hk hd hu hret
 unfold scopeOk at hs
 simp only [Bool.and_eq_true, Bool.not_eq_true'] at hs
 obtain ⟨⟨⟨hs1, hs2⟩, hs3⟩, hs4⟩ := hs
 have hs3 : scope.kind = .function := by simpa using hs3
 refine wpAny_call ?_
 refine code_defG hB hF hX hN hT rfl rfl hk ho hcd (by show dp < _; lia) (hb s) (locs (List.all_eq_true.mpr fun p hp => List.all_eq_true.mp hl _ (List.of_mem_zip hp).1)) (fun g' L' h' FG' F' N' B' X' T' hG => ?_) hs1 hs2 hs3 (fun x hx => by have := List.all_eq_true.mp hs4 x hx; simpa using this)
 refine xEAA (dedL N') fun n0 d1 d2 d3 => ?_
 refine h ⟨mean, mg, mb, dp + 1, un + 3, gd, qual, f, cdv, [], envX cn cs L a ccd cl :: outer, _, base, g', L', B', X', T', hs3, by lia, by lia⟩ (hm FG'.keep hP) _ _ _ _ n0 F' ((PIs.zip xs hi).rev.names.mono (.of d3)) (fun p hp => N' p (d2 p hp)) ⟨d1, d3, (fun _ h => nomatch h), (fun _ h => nomatch h), List.nodup_nil⟩ fun fl b l' S' m' n' h2 tk F2 g2 M2 N2 hS2 i2 hK => leaveK_ F2 N2 fun F3 N3 => ?_
 have hn : ∀ p ∈ n', p ∈ n'.filter (fun p => decide (p.1 ∉ news.map (·.1))) ++ news := fun p hp => by
  by_cases z : p.1 ∈ news.map (·.1)
  ·refine xEA (List.mem_map.mp z) fun u hu e => ?_
   refine mem_ends ?_
   have e2 := nd_eq hS2.nd (a := p.1) (o := p.2) (o' := u.2) hp (by have := hS2.ba u hu; rw [← e]; exact this)
   have : u = p := Prod.ext e e2.symm
   exact this ▸ hu
  ·exact mem_left (List.mem_filter.mpr ⟨hp, decide_eq_true z⟩)
 refine hret _ (n'.filter fun p => decide (p.1 ∉ news.map (·.1))) _ _ F3 (fun p hp => ?_) (keepAll hG F2 hN N2 hS2.ba) (fun p hp => ?_) ?_
 ·rcases List.mem_append.mp hp with hp | hp
  ·exact N3 p (List.mem_filter.mp hp).1
  ·exact N3 p (hS2.ba p hp)
 ·obtain ⟨hp, hq⟩ := List.mem_filter.mp hp
  have hq := of_decide_eq_true hq
  cases e : s.heap.get? p.1 with
  | none => rfl
  | some o =>
   have := hG p.1 o e hq
   rw [(N2 p hp).2.2] at this
   cases this
 ·cases i2 with
  | nxt => exact ⟨n', _, S', hn, hS2, .n, hK⟩
  | ret i2 => exact ⟨n', _, S', hn, hS2, i2, hK⟩
end
theorem text_snoc2 (ns : List Int) {i : Nat} (hi : i < 12) : (textCs ns).take (i + 1) = (textCs ns).take i ++ [charOf (ns.getD (i + 7) 0 + firstT.getD i 0)] := by
 have e : (textCs ns)[i]? = some (charOf (ns.getD (i + 7) 0 + firstT.getD i 0)) := by
  simp [textCs, hi]
 rw [List.take_add_one, e]
 rfl
theorem pool_at {z : Int} (q : z % 44 < 43) : poolV[(z % 44).toNat]? = some (.s (chS (charOf z))) := by
 have e : charOf z = poolCs.getD (z % 44).toNat 0 := if_pos q
 have h : (z % 44).toNat < poolCs.length := by
  rw [show poolCs.length = 43 by decide +kernel]; lia
 unfold poolV
 rw [e, List.getElem?_map, List.getD_eq_getElem?_getD, List.getElem?_eq_getElem h]; rfl
theorem chr_at {z : Int} (q : ¬ z % 44 < 43) : (cond (z / 44 % 1114112 == 13) 10 (z / 44 % 1114112) : Int) = (charOf z : Int) := by
 unfold charOf
 rw [if_neg q]
 by_cases h : z / 44 % 1114112 = 13
 ·rw [if_pos h, h]; rfl
 ·rw [if_neg h, beq_eq_false_iff_ne.mpr h]; show z / 44 % 1114112 = _; lia
theorem pool_lt : ∀ x ∈ poolCs, x < 1114112 := by decide +kernel
theorem charOf_lt (z : Int) : charOf z < 1114112 := by
 unfold charOf
 split
 ·rename_i h
  have h : (z % 44).toNat < poolCs.length := by
   rw [show poolCs.length = 43 by decide +kernel]; lia
  rw [List.getD_eq_getElem?_getD, List.getElem?_eq_getElem h]
  exact pool_lt _ (List.getElem_mem h)
 ·split <;> lia
section
variable {w : World} {B : Led} {S : OS}
theorem text_a {K : AV → OS → Prop} {sa : Addr} {vs : List Value} {ns : List Int} (hi : IntsAre vs ns) (hl : ns.length ≤ 63) (h : K (.s ⟨(textCs ns).toArray⟩) S) : JCP (owD B) w 4 (Scr sa vs) 440 [.r sa] S K := by
 refine jcp_drop (jc_bodyP [ofString "script"] (by k_is) (by k_is) (fun _ _ _ i => by cases i using LIs.cons_elim with | cons _ i => (first | obtain rfl := i.inv | obtain ⟨_, rfl⟩ := i.inv | cases i); exact BindsTo.of_eq rfl) rfl rfl Scr.keep fun c hP => z_start ?_)
 refine z_let rfl rfl (e_g0 (dd := 2) ⟨gn_law_pool _, db_law_pool⟩ rfl (kp_law_pool _) rfl (pool_a fun pl => ?_))
 (with_reducible refine' z_let ?q1 ?q2 ?_); (case q1 => exact rfl); (case q2 => exact rfl)
 (with_reducible refine' e_listE ?q1 ?q2 ?q3 ?_); (case q1 => exact os_n ow_tup); (case q2 => exact rfl); (case q3 => exact rfl)
 with_reducible intro _
 (with_reducible refine' z_let ?q1 ?q2 ?_); (case q1 => exact rfl); (case q2 => exact rfl)
 with_reducible refine e_bin ?_
 (with_reducible refine' e_bt ?q1 ?q2 ?q3 ?q4 ?_); (case q1 => exact rfl); (case q2 => exact rfl); (case q3 => exact os_n ow_tup); (case q4 => exact rfl)
 refine o_lenN (k := 43) (.tail _ (.head _)) (by decide +kernel) rfl ?_
 (with_reducible refine' e_ev ?q1 ?q2 ?_); (case q1 => exact os_n ow_tup); (case q2 => exact rfl)
 with_reducible refine o_add ?_
 (with_reducible refine' z_letE ?q1 ?q2 ?q3 ?q4 ?_); (case q1 => exact os_n ow_tup); (case q2 => exact rfl); (case q3 => exact rfl); (case q4 => exact rfl)
 with_reducible refine z_stmt ?_
 rename_i fl
 refine x_forR (γ := Unit) ⟨gb_range _, by boot_fast, nn_range, db_range⟩ 12 (fun I io => owD ((I, io) :: B)) (ow_own B) (fun _ _ S' => S' = (fl, .lst (firstT.map .i)) :: (pl, .lst poolV) :: S) (fun i _ _ => [(ofString "text", .s ⟨((textCs ns).take i).toArray⟩), (ofString "many", .i ((43 : Nat) + 1)), (ofString "first", .r fl), (ofString "pool", .r pl), (ofString "script", .r sa)]) () (by decide) rfl rfl rfl (fun _ => rfl) ?_ ?_ ?_
 ·(with_reducible refine' e_ev ?q1 ?q2 ?_); (case q1 => exact os_n ow_tup); (case q2 => exact rfl)
  exact ⟨rfl, rfl, .of rfl⟩
 ·rintro I io _ i _ _ hi12 rfl
  have hsn := text_snoc2 ns hi12
  have hfi : (firstT.map AV.i)[i]? = some (.i (firstT.getD i 0)) := by
   rw [List.getElem?_map, List.getD_eq_getElem?_getD, List.getElem?_eq_getElem (show i < firstT.length from hi12)]; rfl
  have hz : ((textCs ns).take i).length + 1 ≤ 100000 := by rw [List.length_take]; lia
  refine z_start (z_let rfl rfl (e_bin (e_callP (dd := 2) ⟨gn_law_digit _, db_law_digit⟩ rfl rfl (kp_law_digit _) rfl hP (l_cons rfl (e_name rfl (l_cons rfl (e_ev (os_n ow_tup) rfl (l_nil ?_))))))))
  refine digit_a ow_tup hi hl (k := i + 7) (by show (i : Int) + 7 = _; lia) (e_sub (e_name rfl (e_name rfl (o_idxN rfl rfl (.head _) (by lia) hfi (o_add ?_)))))
  generalize hd : ns.getD (i + 7) 0 + firstT.getD i 0 = dg at *
  refine z_if (t_cmp rfl (e_ev (os_n ow_tup) rfl (e_btJ rfl rfl rfl (l_cons rfl (e_name rfl (l_nil (o_lenN (k := 43) (.tail _ (.head _)) (by decide +kernel) rfl (o_ltI ?_))))))))
  by_cases q : dg % 44 < 43
  ·have hv : poolV[(dg % 44).toNat]? = some (.s (chS (charOf dg))) := pool_at q
   refine bif_T (decide_eq_true q) (z_let rfl rfl (e_bin (e_name rfl (e_sub (e_name rfl (e_ev (os_n ow_tup) rfl (o_idxN (k := (dg % 44).toNat) (by show dg % 44 = _; lia) rfl (.tail _ (.head _)) (by lia) hv (o_addS (ys := [charOf dg]) hz ?_))))))))
   refine z_nil (z_nil (z_end ⟨(), rfl, .cons (by rw [hsn]; rfl) (.of rfl)⟩))
  ·refine bif_F (decide_eq_false q) (z_letE (os_n ow_tup) rfl rfl rfl (z_let rfl rfl (e_bin (e_name rfl (e_bt rfl rfl (os_n ow_tup) rfl (o_chr (k := charOf dg) (chr_at q) (charOf_lt dg) (o_addS (ys := [charOf dg]) hz ?_)))))))
   refine z_nil (z_nil (z_end ⟨(), rfl, .cons (by rw [hsn]; rfl) (.of rfl)⟩))
 ·rintro _ _ rfl
  with_reducible refine zk_n ?_
  (with_reducible refine' z_retE ?q1 ?q2 ?_); (case q1 => exact os_n ow_tup); (case q2 => exact rfl)
  exact ⟨S, .cons _ (.cons _ (.refl S)), by have e : (textCs ns).take 12 = textCs ns := List.take_of_length_le (by simp [textCs]); rw [e]; exact h⟩
end
end Mine
end
section
open PySem PySem.W PyProof.Rows PySem.Calls
namespace Mine
noncomputable def firstTab : List (List Int) := [[7, 0, 0, 2, 0, 0, 1, 3], [0, 3, 1, 3, 0, 0, 2, 0], [5, 0, 0, 1, 0, 3, 3, 0], [0, 1, 0, 5, 0, 3, 0, 1], [0, 0, 0, 4, 0, 3, 0, 0], [0, 0, 0, 0, 0, 3, 0, 0]]
noncomputable def sizesI : List Int := [11, 6, 2, 6, 3, 5, 13, 5]
theorem first_at {k : Nat} (h : k < 6) : (firstTab.map fun r => AV.d (.tuple (r.map .int)))[k]? = some (.d (.tuple ((firstTab.getD k []).map .int))) ∧ (firstTab.getD k []).length = 8 := by
 have e : firstTab[k]? = some (firstTab.getD k []) := by rw [List.getD_eq_getElem?_getD, List.getElem?_eq_getElem (show k < firstTab.length from h)]; rfl
 exact ⟨by rw [List.getElem?_map, e]; rfl, (show ∀ r ∈ firstTab, r.length = 8 by decide) _ (List.mem_of_getElem? e)⟩
theorem int_at {r : List Int} {j : Nat} (h : j < r.length) : (r.map Dat.int)[j]? = some (.int (r.getD j 0)) := by
 rw [List.getElem?_map, List.getD_eq_getElem?_getD, List.getElem?_eq_getElem h]; rfl
theorem size_ok : ∀ j, j < 8 → (decide (0 < sizesI.getD j 0) && Nat.ble (sizesI.getD j 0).natAbs 1000000) = true := by decide
noncomputable def PickI (i : Nat) (ps : List Int) : Prop := ps.length = i ∧ ∀ j, j < i → 0 ≤ ps.getD j 0 ∧ ps.getD j 0 < sizesI.getD j 0
theorem PickI.snoc {i : Nat} {ps : List Int} (h : PickI i ps) {z : Int} (hz : 0 ≤ z ∧ z < sizesI.getD i 0) : PickI (i + 1) (ps ++ [z]) := by
 refine ⟨by rw [List.length_append, h.1]; rfl, fun j hj => ?_⟩
 rcases Nat.lt_or_ge j i with q | q
 ·rw [List.getD_eq_getElem?_getD, List.getElem?_append_left (by rw [h.1]; exact q), ← List.getD_eq_getElem?_getD]; exact h.2 j q
 ·have e : j = i := by lia
  subst e
  rw [List.getD_eq_getElem?_getD, List.getElem?_append_right (by rw [h.1]; exact Nat.le_refl _), h.1, Nat.sub_self]; exact hz
theorem nat_of {z : Int} {b : Nat} (h : 0 ≤ z ∧ z < (b : Int)) : ∃ p : Nat, z = (p : Int) ∧ p < b := ⟨z.toNat, by lia, by lia⟩
theorem PickI.open {ps : List Int} (h : PickI 8 ps) : ∃ p0 p1 p2 p3 p4 p5 p6 p7 : Nat, ps = [(p0 : Int), (p1 : Int), (p2 : Int), (p3 : Int), (p4 : Int), (p5 : Int), (p6 : Int), (p7 : Int)] ∧ p0 < 11 ∧ p1 < 6 ∧ p2 < 2 ∧ p3 < 6 ∧ p4 < 3 ∧ p5 < 5 ∧ p6 < 13 ∧ p7 < 5 := by
 match ps, h.1 with
 | [z0, z1, z2, z3, z4, z5, z6, z7], _ =>
  refine xEA (nat_of (b := 11) (h.2 0 (by decide))) fun p0 zq1 h0 => ?_
  subst zq1
  refine xEA (nat_of (b := 6) (h.2 1 (by decide))) fun p1 zq2 h1 => ?_
  subst zq2
  refine xEA (nat_of (b := 2) (h.2 2 (by decide))) fun p2 zq3 h2 => ?_
  subst zq3
  refine xEA (nat_of (b := 6) (h.2 3 (by decide))) fun p3 zq4 h3 => ?_
  subst zq4
  refine xEA (nat_of (b := 3) (h.2 4 (by decide))) fun p4 zq5 h4 => ?_
  subst zq5
  refine xEA (nat_of (b := 5) (h.2 5 (by decide))) fun p5 zq6 h5 => ?_
  subst zq6
  refine xEA (nat_of (b := 13) (h.2 6 (by decide))) fun p6 zq7 h6 => ?_
  subst zq7
  refine xEA (nat_of (b := 5) (h.2 7 (by decide))) fun p7 zq8 h7 => ?_
  subst zq8
  exact ⟨p0, p1, p2, p3, p4, p5, p6, p7, rfl, h0, h1, h2, h3, h4, h5, h6, h7⟩
noncomputable def wordN (p : Nat) : List Nat := [[], [97, 48], [], [122, 122], [], [57]].getD p []
theorem word_at : ∀ {p : Nat}, p < 6 → ([.str (oS ""), .str (oS "a0"), .str (oS ""), .str (oS "zz"), .str (oS ""), .str (oS "9")] : List Dat)[p]? = some (.str (xS (wordN p)))
 | 0, _ => congrArg (fun x => some (Dat.str x)) (show oS "" = xS [] by decide +kernel)
 | 1, _ => congrArg (fun x => some (Dat.str x)) (show oS "a0" = xS [97, 48] by decide +kernel)
 | 2, _ => congrArg (fun x => some (Dat.str x)) (show oS "" = xS [] by decide +kernel)
 | 3, _ => congrArg (fun x => some (Dat.str x)) (show oS "zz" = xS [122, 122] by decide +kernel)
 | 4, _ => congrArg (fun x => some (Dat.str x)) (show oS "" = xS [] by decide +kernel)
 | 5, _ => congrArg (fun x => some (Dat.str x)) (show oS "9" = xS [57] by decide +kernel)
 | p + 6, h => absurd h (by lia)
theorem kind_at : ∀ {p : Nat}, p < 3 → ([.str (oS "end"), .str (oS "start"), .str (oS "comment")] : List Dat)[p]? = some (.str (kindS p))
 | 0, _ => rfl
 | 1, _ => rfl
 | 2, _ => rfl
 | p + 3, h => absurd h (by lia)
theorem back_at : ∀ {p : Nat}, p < 5 → ([.s (backS 0), .s (backS 1), .s (backS 2), .s (backS 3), .s (backS 4)] : List AV)[p]? = some (.s (backS p))
 | 0, _ => rfl
 | 1, _ => rfl
 | 2, _ => rfl
 | 3, _ => rfl
 | 4, _ => rfl
 | p + 5, h => absurd h (by lia)
theorem word_ok : ∀ p, p < 6 → wordN p = [] ∨ wordN p = [97, 48] ∨ wordN p = [122, 122] ∨ wordN p = [57] := by decide
noncomputable def yesN (p : Nat) : Nat := if p = 12 then 6 else p % 6
noncomputable def noN (k p : Nat) : Nat := if k < 5 then k + 1 + p % (5 - k) else 0
theorem no_at {k p : Nat} (h : k < 5) : (k : Int) + 1 + (p : Int) % (5 - (k : Int)) = ((noN k p : Nat) : Int) ∧ k < noN k p ∧ noN k p ≤ 5 := by
 have hm : p % (5 - k) < 5 - k := Nat.mod_lt _ (by lia)
 have e : (5 : Int) - (k : Int) = ((5 - k : Nat) : Int) := by lia
 unfold noN
 rw [if_pos h, e, ← Int.natCast_emod]
 exact ⟨by lia, by lia, by lia⟩
theorem str_nat {k : Nat} (h : k < 10) : (ofString (toString (k : Int))) = stS k := by
 have : k = 0 ∨ k = 1 ∨ k = 2 ∨ k = 3 ∨ k = 4 ∨ k = 5 ∨ k = 6 ∨ k = 7 ∨ k = 8 ∨ k = 9 := by lia
 rcases this with rfl | rfl | rfl | rfl | rfl | rfl | rfl | rfl | rfl | rfl <;> decide +kernel
section
variable {w : World} {d : Nat} {cs : Scope} {σ : Type} {den : σ → Led → Prop} {c : FD w d cs} {l : ANs} {S : σ}
theorem o_strN {K : AV → σ → Prop} {z : Int} {k : Nat} (ez : z = (k : Int)) (hk : k < 10) (h : K (.s (stS k)) S) : JOL den c AV.Is (fun vs => call (.type "str") vs) [.i z] l S K := fun s Q E m n vs F M N hS i kk => by
 subst ez
 cases i using LIs.cons_elim with
 | cons i j =>
  (first | obtain rfl := j.inv | obtain ⟨_, rfl⟩ := j.inv | cases j)
  (first | obtain rfl := i.inv | obtain ⟨_, rfl⟩ := i.inv | cases i)
  refine P.str_of_int (Nat.lt_of_le_of_lt (Nat.log2_le_self _) (by lia)) ?_
  rw [str_nat hk]
  exact kk _ _ _ _ _ _ F .refl N hS (.s _ _) h
end
section
variable {w : World} {B : Led} {S : OS}
theorem z_gen {B : Led} {d : Nat} {cs : Scope} {c : FD w d cs} {l : ANs} {bs : List (List Stmt)} {K : AF → ANs → OS → Prop} {S1 : OS} (P : OS → Prop) (hP : P S1) (h : ∀ Sr, P Sr → JZ (owD B) c bs l Sr K) : JZ (owD B) c bs l S1 K := h _ hP
theorem row_f {sa : Addr} {vs : List Value} {ns : List Int} {k : Nat} {t : Tok} {news : Led} (hi : IntsAre vs ns) (hl : ns.length ≤ 63) (hk : k < 6) : SpecFP w 4 (Scr sa vs) news 454 [.ref sa, .int (k : Int) t] fun r new n => ∃ (n' : Led) (a : AV) (S' : OS), (∀ p ∈ n', p ∈ n) ∧ owD news S' n' ∧ a.Is n' r ∧ ∃ rr, RowOk k rr ∧ a = .d (rowD rr) := by
 refine specFP_body (as := [.r sa, .i (k : Int)]) (K := fun a _ => ∃ rr, RowOk k rr ∧ a = .d (rowD rr)) [ofString "script", ofString "k"] (by k_is) (by k_is) (fun _ => BindsTo.of_eq rfl) (.cons (.r _) (.cons (.i _ _) .nil)) rfl rfl Scr.keep fun c hP => z_start ?_
 (with_reducible refine' z_let ?q1 ?q2 ?_); (case q1 => exact rfl); (case q2 => exact rfl)
 (with_reducible refine' e_listE ?q1 ?q2 ?q3 ?_); (case q1 => exact os_n ow_tup); (case q2 => exact rfl); (case q3 => exact rfl)
 with_reducible intro _
 (with_reducible refine' z_let ?q1 ?q2 ?_); (case q1 => exact rfl); (case q2 => exact rfl)
 with_reducible refine e_bin ?_
 (with_reducible refine' e_ev ?q1 ?q2 ?_); (case q1 => exact os_n ow_tup); (case q2 => exact rfl)
 (with_reducible refine' e_listE ?q1 ?q2 ?q3 ?_); (case q1 => exact os_n ow_tup); (case q2 => exact rfl); (case q3 => exact rfl)
 with_reducible intro _
 (with_reducible refine' o_addL ?q1 ?q2 ?q3 ?_); (case q1 => repeat (first | exact List.Mem.head _ | assumption | refine List.Mem.tail _ ?_)); (case q2 => repeat (first | exact List.Mem.head _ | assumption | refine List.Mem.tail _ ?_)); (case q3 => exact Nat.le_of_ble_eq_true rfl)
 with_reducible intro _
 (with_reducible refine' z_letE ?q1 ?q2 ?q3 ?q4 ?_); (case q1 => exact os_n ow_tup); (case q2 => exact rfl); (case q3 => exact rfl); (case q4 => exact rfl)
 (with_reducible refine' z_let ?q1 ?q2 ?_); (case q1 => exact rfl); (case q2 => exact rfl)
 ((with_reducible show JE _ _ (eval (Expr.Call (Expr.Name (ofString "_law_digit") _) _ _ _) _) _ _ _); refine e_callP (dd := 2) ⟨gn_law_digit _, db_law_digit⟩ rfl rfl (kp_law_digit _) rfl hP ?_)
 (with_reducible refine' l_cons ?q1 ?_); (case q1 => exact rfl)
 (with_reducible refine' e_ev ?q1 ?q2 ?_); (case q1 => exact os_n ow_tup); (case q2 => exact rfl)
 (with_reducible refine' l_cons ?q1 ?_); (case q1 => exact rfl)
 (with_reducible refine' e_ev ?q1 ?q2 ?_); (case q1 => exact os_n ow_tup); (case q2 => exact rfl)
 with_reducible refine l_nil ?_
 refine digit_a ow_tup hi hl (k := k + 1) (by show (k : Int) + 1 = _; lia) ?_
 generalize ns.getD (k + 1) 0 = nm
 rename_i t1 t2 fl
 refine z_gen (fun Sr => (fl, AO.lst (firstTab.map fun r => AV.d (.tuple (r.map .int)))) ∈ Sr) (.head _) fun Sr hfl => ?_
 obtain ⟨hfk, hf8⟩ := first_at hk
 refine z_let rfl rfl (e_listE (os_n ow_tup) rfl rfl fun pk => ?_)
 refine z_stmt (x_forR (γ := Int × List Int) ⟨gb_range _, by boot_fast, nn_range, db_range⟩ 8 (fun I io => owD ((I, io) :: news)) (ow_own news) (fun i g S' => S' = (pk, .lst (g.2.map .i)) :: Sr ∧ PickI i g.2) (fun i g _ => [(ofString "number", .i g.1), (ofString "picks", .r pk), (ofString "sizes", .d (.tuple (sizesI.map .int))), (ofString "first", .r fl), (ofString "k", .i (k : Int)), (ofString "script", .r sa)]) (nm, []) (by decide) rfl rfl rfl (fun _ => rfl) ?_ ?_ ?_)
 ·exact e_int ⟨rfl, ⟨rfl, rfl, fun _ h => absurd h (Nat.not_lt_zero _)⟩, .of rfl⟩
 ·rintro I io _ j ⟨num, ps⟩ _ hj8 ⟨rfl, hps⟩
  have hsz := size_ok j hj8
  have hs0 : decide (0 < sizesI.getD j 0) = true := (Bool.and_eq_true _ _ ▸ hsz).1
  have hj100 : Nat.ble j 100 = true := Nat.ble_eq_true_of_le (by lia)
  have hsi := int_at (r := sizesI) hj8
  have hfi := int_at (r := firstTab.getD k []) (j := j) (by lia)
  have hz : ∀ x : Int, 0 ≤ x % sizesI.getD j 0 ∧ x % sizesI.getD j 0 < sizesI.getD j 0 := fun x => ⟨Int.emod_nonneg _ (Int.ne_of_gt (of_decide_eq_true hs0)), Int.emod_lt_of_pos _ (of_decide_eq_true hs0)⟩
  refine z_start (z_expr rfl (e_app rfl rfl ⟨_, .head _⟩ ?_))
  refine e_bin (e_bin (e_name rfl (e_sub (e_sub (e_name rfl (e_name rfl (o_idxN rfl rfl (.tail _ hfl) (by lia) hfk (e_name rfl (o_dsub rfl hj100 hfi rfl (o_add (e_sub (e_name rfl (e_name rfl (o_dsub rfl hj100 hsi rfl (o_mod hs0 ?_)))))))))))))))
  refine ⟨ps.map .i, _, .head, by rw [List.length_map, hps.1]; lia, ?_⟩
  refine z_let rfl rfl (e_bin (e_name rfl (e_sub (e_name rfl (e_name rfl (o_dsub rfl hj100 hsi rfl (o_fdiv hsz ?_)))))))
  exact z_nil (z_end ⟨(_, ps ++ [_]), ⟨by rw [List.map_append]; rfl, hps.snoc (hz _)⟩, .of rfl⟩)
 ·rintro ⟨num, ps⟩ _ ⟨rfl, hps⟩
  refine xEEEEEEEEAAAAAAAA hps.open fun p0 p1 p2 p3 p4 p5 p6 p7 zq9 b0 b1 b2 b3 b4 b5 b6 b7 => ?_
  subst zq9
  refine zk_n (z_let rfl rfl (e_sub (e_ev (os_n ow_tup) rfl (e_sub (e_name rfl (e_int (o_idxL (k := 1) rfl (.head _) rfl rfl (o_dsub rfl (Nat.ble_eq_true_of_le (by lia)) (word_at b1) rfl ?_))))))))
  refine z_let rfl rfl (e_cut (.s (stS (yesN p6))) ?_ ?_)
  ·refine e_ifexp (t_cmp rfl (e_sub (e_name rfl (e_int (o_idxL (k := 6) rfl (.head _) rfl rfl (e_int (o_eqI ?_)))))))
   by_cases q : p6 = 12
   ·refine bif_T (beq_iff_eq.mpr (by lia)) (e_str ⟨?_, rfl⟩)
    subst q
    exact congrArg AV.s (show ofString "6" = stS 6 by decide +kernel)
   ·refine bif_F (beq_eq_false_iff_ne.mpr (by lia)) (e_ttJ rfl rfl rfl (l_cons rfl (e_bin (e_sub (e_name rfl (e_int (o_idxL (k := 6) rfl (.head _) rfl rfl (e_int (o_mod rfl (l_nil (o_strN (k := p6 % 6) (by lia) (by lia) ⟨?_, rfl⟩)))))))))))
    unfold yesN
    rw [if_neg q]
  refine z_let rfl rfl (e_cut (.s (noS (noN k p7))) ?_ ?_)
  ·refine e_ifexp (t_ev (os_n ow_tup) rfl ?_)
   by_cases q : k < 5
   ·have hn := no_at (p := p7) q
    refine bif_T (decide_eq_true (by lia)) (e_ttJ rfl rfl rfl (l_cons rfl (e_bin (e_ev (os_n ow_tup) rfl (e_bin (e_sub (e_name rfl (e_int (o_idxL (k := 7) rfl (.head _) rfl rfl (e_ev (os_n ow_tup) rfl (o_mod (decide_eq_true (by lia)) (o_add (l_nil (o_strN (k := noN k p7) hn.1 (by lia) ⟨?_, rfl⟩))))))))))))))
    exact congrArg AV.s (noS_pos (by lia))
   ·refine bif_F (decide_eq_false (by lia)) (e_str ⟨?_, rfl⟩)
    unfold noN
    rw [if_neg q]
    exact congrArg AV.s noS_zero
  refine z_let rfl rfl (e_sub (e_ev (os_n ow_tup) rfl (e_sub (e_name rfl (e_int (o_idxL (k := 4) rfl (.head _) rfl rfl (o_dsub rfl (Nat.ble_eq_true_of_le (by lia)) (kind_at b4) rfl ?_)))))))
  refine z_ret (e_tup (l_cons rfl (e_sub (e_name rfl (e_int (o_idxL (k := 0) rfl (.head _) rfl rfl (l_cons rfl (e_cut (.s (xS (cond (decide (k < 5)) (wordN p1) []))) ?_ ?_))))))))
  ·refine e_ifexp (t_ev (os_n ow_tup) rfl ?_)
   by_cases q : k < 5
   ·refine bif_T (decide_eq_true (by lia)) (e_name rfl ⟨?_, rfl⟩)
    rw [decide_eq_true q]; rfl
   ·refine bif_F (decide_eq_false (by lia)) (e_str ⟨?_, rfl⟩)
    rw [decide_eq_false q]
    exact congrArg AV.s (show ofString "" = xS [] by decide +kernel)
  refine l_cons rfl (e_cmp rfl (e_sub (e_name rfl (e_int (o_idxL (k := 2) rfl (.head _) rfl rfl (e_int (o_eqI (l_cons rfl (e_sub (e_name rfl (e_int (o_idxL (k := 3) rfl (.head _) rfl rfl (l_cons rfl (e_name rfl (l_cons rfl (e_sub (e_g0 (dd := 2) ⟨gn_law_backs _, db_law_backs⟩ rfl (kp_law_backs _) rfl (law_backs_j fun bk => ?_))))))))))))))))))
  refine e_sub (e_name rfl (e_int (o_idxL (k := 5) rfl (.tail _ (.head _)) rfl rfl (o_idxL rfl (.head _) (Nat.ble_eq_true_of_le (by lia)) (back_at b5) (l_cons rfl (e_name rfl (l_cons rfl (e_name rfl (l_nil (o_tupG ow_tup rfl rfl rfl ⟨⟨p0, cond (decide (k < 5)) (wordN p1) [], (p2 : Int) == 1, p3, p4, p5, yesN p6, noN k p7⟩, ?_, rfl⟩))))))))))
  refine ⟨by show p0 ≤ 10; lia, ?_, by show p3 ≤ 5; lia, by show p4 ≤ 2; lia, by show p5 ≤ 4; lia, ?_, ?_, ?_⟩
  ·by_cases q : k < 5
   ·rw [decide_eq_true q]
    rcases word_ok p1 b1 with e | e
    ·exact .inl e
    ·exact .inr ⟨q, e⟩
   ·rw [decide_eq_false q]; exact .inl rfl
  ·show yesN p6 ≤ 6
   unfold yesN
   split <;> lia
  ·intro q
   exact (no_at q).2
  ·intro q
   show noN k p7 = 0
   unfold noN
   rw [if_neg (by lia)]
end
end Mine
end
section
open PySem PySem.W PyProof.Rows PySem.Calls
namespace Mine
section
variable {w : World} {d : Nat} {cs : Scope} {c : FD w d cs} {scope : Scope} {cl : List (PySem.Str × Addr)} {C : Addr} {s : Shared} {Q : Value → Shared → Prop} {E : Value → Shared → Prop} {m : PySem.Str → Option Value} {nw : Led}
theorem comp_global {x : PySem.Str} {f : Addr} {xp : Pos} (F : Fr c.h₀ c.L s.heap m) (G : GName w x (.ref f)) (hk : scope.kind = .function) (hx : (compEnvC scope cl C c.env).kindOf x = some .globalImplicit) (h : Q (.ref f) s) : wpAny (model PG w) c.A (eval (.Name x xp) (compEnvC scope cl C c.env)) Q E s := by
 have T := c.T
 have X := c.X
 exact Name_function_global hk hx (loadGlobal_global (env := compEnvC scope cl C c.env) (T.g.keeps F.keep) (mg_of X T.g G.e) h) G.hd
theorem comp_cell {x : PySem.Str} {ca : Addr} {o : Obj} {v : Value} {xp : Pos} (N : News c.h₀ c.L s.heap nw) (hk : scope.kind = .function) (hx : (compEnvC scope cl C c.env).kindOf x = some .cell) (hc : cl.lookup x = some ca) (hm : (ca, o) ∈ nw) (ho : o.data = .cell (some v)) (hb : (x == ofString "__debug__") = false) (h : Q v s) : wpAny (model PG w) c.A (eval (.Name x xp) (compEnvC scope cl C c.env)) Q E s :=
 wpAny_Name (wpAny_loadName_cell (env := compEnvC scope cl C c.env) hk hx hc ⟨o, N.get hm, ho⟩ h) hb
end
end Mine
end
section
open PySem PySem.W PyProof.Rows PySem.Calls
namespace Mine
noncomputable def r0 : Row := ⟨0, [], false, 0, 0, 0, 0, 0⟩
noncomputable abbrev rowsA (rs : List Row) : List AV := rs.map fun r => AV.d (rowD r)
noncomputable def RowsI (nw : Led) (i : Nat) (ys : List Value) : Prop := ∃ rs : List Row, rs.length = i ∧ (∀ j, j < i → RowOk j (rs.getD j r0)) ∧ LIs nw (rowsA rs) ys
theorem RowsI.snoc {nw nw' : Led} {i : Nat} {ys : List Value} {rr : Row} {v : Value} (h : RowsI nw i ys) (hs : ∀ p ∈ nw, p ∈ nw') (ho : RowOk i rr) (hi : (AV.d (rowD rr)).Is nw' v) : RowsI nw' (i + 1) (ys ++ [v]) := by
 refine xEAA h fun rs h1 h2 h3 => ?_
 refine ⟨rs ++ [rr], by rw [List.length_append, h1]; rfl, fun j hj => ?_, ?_⟩
 ·rcases Nat.lt_or_ge j i with q | q
  ·rw [List.getD_eq_getElem?_getD, List.getElem?_append_left (by rw [h1]; exact q), ← List.getD_eq_getElem?_getD]; exact h2 j q
  ·have e : j = i := by lia
   subst e
   rw [List.getD_eq_getElem?_getD, List.getElem?_append_right (by rw [h1]; exact Nat.le_refl _), h1, Nat.sub_self]; exact ho
 ·unfold rowsA
  rw [List.map_append]
  exact (h3.mono (.of hs)).app (.cons hi .nil)
section
variable {w : World} {d : Nat} {cs : Scope} {c : FD w d cs} {l : ANs} {B : Led} {S : OS}
theorem owD.comp {n1 os n3 : Led} {D : Addr} {o : Obj} {x : AO} (h : owD B S n1) (hl : ∀ p ∈ n1, p.1 < D) (d1 : (n3.map (·.1)).Nodup) (d3 : ∀ p ∈ (D, o) :: (os ++ n1), p ∈ n3) (hx : x.Is (os ++ n1) o) : owD B ((D, x) :: S) n3 := by
 have hs : ∀ p ∈ n1, p ∈ n3 := fun p hp => d3 p (.tail _ (mem_ends hp))
 have hlS : ∀ q ∈ S, q.1 < D := fun q hq => by
  refine xEA (h.ob q hq) fun o2 h2 _ => ?_
  exact hl _ h2
 refine ⟨d1, fun p hp => hs p (h.ba p hp), fun q hq p hp => ?_, fun q hq => ?_, List.nodup_cons.mpr ⟨fun hm => ?_, h.ns⟩⟩
 ·rcases List.mem_cons.mp hq with e | hq
  ·rw [e]; exact Nat.ne_of_lt (hl p (h.ba p hp))
  ·exact h.nb q hq p hp
 ·rcases List.mem_cons.mp hq with e | hq
  ·rw [e]; exact ⟨o, d3 _ (.head _), hx.mono (.of fun p hp => d3 p (.tail _ hp))⟩
  ·refine xEA (h.ob q hq) fun o2 h2 h3 => ?_
   exact ⟨o2, hs _ h2, h3.mono (.of hs)⟩
 ·refine xEA (List.mem_map.mp hm) fun p hp e => ?_
  exact Nat.ne_of_lt (hlS p hp) e
theorem ow_cellAt {n : Led} {ca : Addr} {a : AV} (h : owD B S n) (hm : (ca, .cell a) ∈ S) : ∃ o v, (ca, o) ∈ n ∧ o.data = .cell (some v) ∧ a.Is n v := by
 refine xEA (h.ob _ hm) fun o m1 q => ?_
 cases q using AO.Is.cell_elim with
 | cell e i => exact ⟨o, _, m1, e, i⟩
theorem x_rows {K : AF → ANs → OS → Prop} {x : PySem.Str} {px fp p1 p2 pk pr pc p6 pp pos p : Pos} {k6 : Nat} {scope : Scope} {cl : List (PySem.Str × Addr)} {cx csc sa : Addr} {vs : List Value} {ns : List Int}
  (hsw : swapsWith (.ListComp (.Call (.Name (ofString "_law_row") fp) [.Name (ofString "script") p1, .Name (ofString "k") p2] [] pp) [⟨.Name (ofString "k") pk, .Call (.Name (ofString "range") pr) [.Constant (.int 6) k6 p6] [] pc, [], 0⟩] scope pos) (some (.Name x px)) p.line c.env = pure false)
  (hxc : isCell cs x = true) (hcx : c.cl.lookup x = some cx) (hg : isGlob cs (ofString "range") = true)
  (hcl : closureFor scope c.env = pure cl) (hcell : (scope.names.all fun y => decide (y.2 ≠ .cell)) = true) (hk : scope.kind = .function) (hnm : (scope.names.all fun y => decide (y.2 = .local → scope.names.lookup y.1 = some .local)) = true) (hx : scope.names.lookup (ofString "k") = some .local) (hf : ∀ y, foldedSetIterable (.Call (.Name (ofString "range") pr) [.Constant (.int 6) k6 p6] [] pc) c.env y = pure y)
  (hk1 : ∀ C, (compEnvC scope cl C c.env).kindOf (ofString "_law_row") = some .globalImplicit) (hk2 : ∀ C, (compEnvC scope cl C c.env).kindOf (ofString "script") = some .cell) (hcs : cl.lookup (ofString "script") = some csc) (hsc : (csc, .cell (.r sa)) ∈ S)
  (hP : Scr sa vs c.h₀) (hi : IntsAre vs ns) (hl : ns.length ≤ 63) (hd4 : Nat.ble 4 d = true)
  (h : ∀ D rs, rs.length = 6 → (∀ j, j < 6 → RowOk j (rs.getD j r0)) → ∃ S2, CUp cx (.r D) ((D, .lst (rowsA rs)) :: S) S2 ∧ K .nxt l S2) :
  JX (owD B) c (exec (.Assign [.Name x px] (.ListComp (.Call (.Name (ofString "_law_row") fp) [.Name (ofString "script") p1, .Name (ofString "k") p2] [] pp) [⟨.Name (ofString "k") pk, .Call (.Name (ofString "range") pr) [.Constant (.int 6) k6 p6] [] pc, [], 0⟩] scope pos) p) c.env) l S K := fun s Q E m n F M N hS k => by
 have T := c.T
 have X := c.X
 have hd4 := Nat.le_of_ble_eq_true hd4
 refine wpAny_Assign_Name ?_ hsw
 refine compF F hcl (fun y hy => by have := List.all_eq_true.mp hcell y hy; simpa using this) hk (fun y hy hl => by have := List.all_eq_true.mp hnm y hy; simp only [decide_eq_true_eq] at this; exact this hl) hx hf ?_
 refine Call_ ?_ rfl
 refine nameX_B F X (by k_asm) (gb_range _) (by boot_fast) nn_range ?_ c.hk (isGlob_spec hg) db_range
 refine PyProof.Rows.callWith_type1 (args_cons (wpAny_Constant_int (args_nil ?_)) (star_plain rfl)) (star_plain rfl) (noStars _ _ _ rfl)
 refine call_range_1 ?_
 have F2 := F.push { cls := .type "range", data := .fields #[.int 0 (s.toks + 1), .int 6 s.toks, .int 1 (s.toks + 1 + 1)] }
 have N2 : News c.h₀ c.L (s.heap.push { cls := .type "range", data := .fields #[.int 0 (s.toks + 1), .int 6 s.toks, .int 1 (s.toks + 1 + 1)] }) n := fun p hp => ⟨Heap.get?_push_of_some _ (N p hp).1, (N p hp).2⟩
 refine compRange (n := 6) (fun i ys os => RowsI (os ++ n) i ys) rfl (IsRange.new ..) rfl rfl (by decide) F2 N2 ⟨[], rfl, fun _ h => absurd h (Nat.not_lt_zero _), .nil⟩ ?_ ?_
 ·intro C i t h1 tk m₃ ys os E' hi6 hJ hns hm₃ F₃ N₃
  refine xEEAA (ow_cellAt hS hsc) fun o v m1 ho hv => ?_
  (first | obtain rfl := hv.inv | obtain ⟨_, rfl⟩ := hv.inv | cases hv)
  refine Call_ (comp_global F₃ ⟨gn_law_row _, db_law_row⟩ hk (hk1 C) ?_) rfl
  refine callWith_K X (kp_law_row _) (args_cons (comp_cell N₃ hk (hk2 C) hcs (mem_ends m1) ho rfl (args_cons (comp_local hns hm₃ hk hx rfl (args_nil ⟨X.keeps F₃.keep, ?_⟩)) (star_plain rfl))) (star_plain rfl)) (star_plain rfl) (noStars _ _ _ rfl)
  refine row_f hi hl hi6 _ _ _ _ _ _ _ _ _ _ _ _ _ _ _ _ _ _ _ _ hP c.B F₃ X N₃ T c.hk (Nat.lt_of_le_of_lt (Nat.add_le_add_left hd4 _) c.hd) (Nat.lt_of_le_of_lt (Nat.add_le_add_left (Nat.mul_le_mul_left _ hd4) _) c.hu) fun v new h' tk' F' N' K' G zf8 => ?_
  refine xEEEAAAEA zf8 fun n' a S' hs _ ia rr hrr e => ?_
  subst e
  exact eltNew N' K' G (by rw [List.append_assoc]; exact hJ.snoc (fun p hp => mem_ends hp) hrr (ia.mono (.of hs)))
 ·intro D kD h' tk ys os ⟨rs, e1, e2, e3⟩ hlt F' N'
  refine xEAA (dedL N') fun n3 d1 d2 d3 => ?_
  have hO := hS.comp (o := listOf ys.toArray kD) (x := .lst (rowsA rs)) hlt d1 d3 (.lst kD e3)
  refine xEA (h D rs e1 e2) fun S2 U hK => ?_
  have g : Gro n n3 := .of fun p hp => d3 p (.tail _ (mem_ends hp))
  exact ow_storeC hxc hcx U F' (fun p hp => N' p (d2 p hp)) hO (.r D) fun n4 h4 F4 g4 N4 hS4 => k _ _ _ _ _ _ _ _ F4 (g.trans g4) (M.mono (g.trans g4)) N4 hS4 .nxt hK
end
end Mine
end
section
open PySem PySem.W PyProof.Rows PySem.Calls
namespace Mine
theorem dat_i {n : Led} {z : Int} {ds : List Dat} {vs : List Value} (h : DatAll n vs (.int z :: ds)) : ∃ t vs', vs = .int z t :: vs' ∧ DatAll n vs' ds := by
 cases h with | cons h r => cases h; exact ⟨_, _, rfl, r⟩
theorem dat_s {n : Led} {x : PySem.Str} {ds : List Dat} {vs : List Value} (h : DatAll n vs (.str x :: ds)) : ∃ t vs', vs = .str x t :: vs' ∧ DatAll n vs' ds := by
 cases h with | cons h r => cases h; exact ⟨_, _, rfl, r⟩
theorem dat_b {n : Led} {x : Bool} {ds : List Dat} {vs : List Value} (h : DatAll n vs (.bool x :: ds)) : ∃ vs', vs = .bool x :: vs' ∧ DatAll n vs' ds := by
 cases h with | cons h r => cases h; exact ⟨_, rfl, r⟩
theorem dat_0 {n : Led} {vs : List Value} (h : DatAll n vs []) : vs = [] := by
 cases h; rfl
theorem row_vals {B : Led} {r : Row} {vs : List Value} (h : DatAll B vs [.int r.test, .str (xS r.word), .bool r.fold, .int r.deed, .str (kindS r.kind), .str (backS r.back), .str (stS r.yes), .str (noS r.no)]) : ∃ t0 t1 t3 t4 t5 t6 t7, vs = [.int (r.test : Int) t0, .str (xS r.word) t1, .bool r.fold, .int (r.deed : Int) t3, .str (kindS r.kind) t4, .str (backS r.back) t5, .str (stS r.yes) t6, .str (noS r.no) t7] :=
 (dat_i h).elim fun t0 h => h.elim fun _ h => (dat_s h.2).elim fun t1 g1 => g1.elim fun _ g1 => (dat_b g1.2).elim fun _ g2 => (dat_i g2.2).elim fun t3 g3 => g3.elim fun _ g3 => (dat_s g3.2).elim fun t4 g4 => g4.elim fun _ g4 => (dat_s g4.2).elim fun t5 g5 => g5.elim fun _ g5 => (dat_s g5.2).elim fun t6 g6 => g6.elim fun _ g6 => (dat_s g6.2).elim fun t7 g7 => g7.elim fun _ g7 => ⟨t0, t1, t3, t4, t5, t6, t7, by rw [h.1, g1.1, g2.1, g3.1, g4.1, g5.1, g6.1, g7.1, dat_0 g7.2]⟩
theorem row_back {B : Led} {r : Row} {v : Value} (h : (AV.d (rowD r)).Is B v) : ∃ ra, v = .ref ra ∧ RowAt B ra r := by
 cases h with
 | d h _ =>
 cases h with
 | @tuple ra vs k _ m h =>
  have e := row_vals h
  exact ⟨ra, rfl, k, e.imp fun t0 e => e.imp fun t1 e => e.imp fun t3 e => e.imp fun t4 e => e.imp fun t5 e => e.imp fun t6 e => e.imp fun t7 e => by rw [e] at m; exact m⟩
theorem lis_b {n : Led} {x : Bool} {as : List AV} {vs : List Value} (h : LIs n (.b x :: as) vs) : ∃ vs', vs = .bool x :: vs' ∧ LIs n as vs' := by
 cases h using LIs.cons_elim with | cons h r => cases h; exact ⟨_, rfl, r⟩
theorem lis_i {n : Led} {z : Int} {as : List AV} {vs : List Value} (h : LIs n (.i z :: as) vs) : ∃ t vs', vs = .int z t :: vs' ∧ LIs n as vs' := by
 cases h using LIs.cons_elim with | cons h r => cases h; exact ⟨_, _, rfl, r⟩
theorem lis_0 {n : Led} {vs : List Value} (h : LIs n [] vs) : vs = [] := by
 cases h; rfl
theorem lis_bs {n : Led} : ∀ (bs : List Bool) {as : List AV} {vs : List Value}, LIs n (bs.map .b ++ as) vs → ∃ vs', vs = bs.map .bool ++ vs' ∧ LIs n as vs'
 | [], _, _, h => ⟨_, rfl, h⟩
 | _ :: bs, _, _, h => (lis_b h).elim fun _ h => (lis_bs bs h.2).elim fun v' g => ⟨v', by rw [h.1, g.1]; rfl, g.2⟩
theorem told_back {n : Led} {c : Nat} {vs : List Value} (h : LIs n (toldA c) vs) : ∃ t, vs = toldVs c t :=
 (lis_bs [blankB c, spaceB c, upB c, loB c, letB c, digB c, hexB c, alnB c, surB c, nonB c, ctlB c] (as := [.i (if hexB c then digV c else 7)]) h).elim fun _ h => (lis_i h.2).elim fun t g => g.elim fun _ g => ⟨t, by rw [h.1, g.1, lis_0 g.2]; rfl⟩
structure LS (w : World) (S : OS) (rs : List Row) (txt : List Nat) (ro kd td : Addr) (ko to : Obj) (kvk kvt : List (Int × Value)) : Prop where
 ro : (ro, .lst (rowsA rs)) ∈ S
 len : rs.length = 6
 rok : ∀ j, j < 6 → RowOk j (rs.getD j r0)
 kd : (kd, .obj ko) ∈ S
 kdo : ko.IsDictOf (PySem.intKind PG w) kvk
 td : (td, .obj to) ∈ S
 tdo : to.IsDictOf (PySem.intKind PG w) kvt
 kv : ∀ c, c ∈ txt → ∃ xa, valueAt kvk (c : Int) = some (.ref xa) ∧ (xa, .lst (toldA c)) ∈ S
 tv : ∀ c, c ∈ txt → ∃ xa, valueAt kvt (c : Int) = some (.ref xa) ∧ (xa, .lst (toldA c)) ∈ S
structure LW (w : World) (n : Led) (rows : Nat → Row) (txt : List Nat) (ro kd td : Addr) (ko to : Obj) (kvk kvt : List (Int × Value)) (rvs : List Value) (rk : Nat) : Prop where
 ro : (ro, listOf rvs.toArray rk) ∈ n
 rw : ∀ k, k < 6 → ∃ ra, rvs[k]? = some (.ref ra) ∧ RowAt n ra (rows k)
 rok : RowsOk rows
 kd : (kd, ko) ∈ n
 kdo : ko.IsDictOf (PySem.intKind PG w) kvk
 kv : ∀ c, c ∈ txt → ∃ xa xk xt, valueAt kvk (c : Int) = some (.ref xa) ∧ (xa, listOf (toldVs c xt).toArray xk) ∈ n
 td : (td, to) ∈ n
 tdo : to.IsDictOf (PySem.intKind PG w) kvt
 tv : ∀ c, c ∈ txt → ∃ xa xk xt, valueAt kvt (c : Int) = some (.ref xa) ∧ (xa, listOf (toldVs c xt).toArray xk) ∈ n
section
variable {w : World} {S : OS} {rs : List Row} {txt : List Nat} {ro kd td : Addr} {ko to : Obj} {kvk kvt : List (Int × Value)}
theorem own_obj {B n : Led} {a : Addr} {o : Obj} (h : owD B S n) (hm : (a, .obj o) ∈ S) : (a, o) ∈ n := by
 refine xEA (h.ob _ hm) fun o' m q => ?_
 (first | obtain rfl := q.inv | obtain ⟨_, rfl⟩ := q.inv | cases q)
 exact m
theorem own_told {B n : Led} {xa : Addr} {c : Nat} (h : owD B S n) (hm : (xa, .lst (toldA c)) ∈ S) : ∃ xk xt, (xa, listOf (toldVs c xt).toArray xk) ∈ n := by
 refine xEA (h.ob _ hm) fun o' m q => ?_
 cases q using AO.Is.lst_elim with
 | lst k i =>
  obtain ⟨t, e⟩ := told_back i
  subst e
  exact ⟨k, t, m⟩
theorem LS.led {B n : Led} (h : LS w S rs txt ro kd td ko to kvk kvt) (hO : owD B S n) : ∃ rvs rk, LW w n (fun k => rs.getD k r0) txt ro kd td ko to kvk kvt rvs rk := by
 refine xEA (hO.ob _ h.ro) fun o m q => ?_
 cases q using AO.Is.lst_elim with
 | @lst rvs k i =>
  refine ⟨rvs, k, m, fun j hj => ?_, h.rok, own_obj hO h.kd, h.kdo, fun c hc => ?_, own_obj hO h.td, h.tdo, fun c hc => ?_⟩
  ·have e : (rowsA rs)[j]? = some (.d (rowD (rs.getD j r0))) := by
    rw [List.getElem?_map, List.getD_eq_getElem?_getD, List.getElem?_eq_getElem (show j < rs.length by rw [h.len]; exact hj)]; rfl
   refine xEA (i.at e) fun v e1 e2 => ?_
   refine xEA (row_back e2) fun ra zq1 hr => ?_
   subst zq1
   exact ⟨ra, e1, hr⟩
  ·refine xEA (h.kv c hc) fun xa e hm => ?_
   refine xEE (own_told hO hm) fun xk xt m2 => ?_
   exact ⟨xa, xk, xt, e, m2⟩
  ·refine xEA (h.tv c hc) fun xa e hm => ?_
   refine xEE (own_told hO hm) fun xk xt m2 => ?_
   exact ⟨xa, xk, xt, e, m2⟩
variable {n n' : Led} {rows : Nat → Row} {rvs : List Value} {rk : Nat}
theorem LW.mono (h : LW w n rows txt ro kd td ko to kvk kvt rvs rk) (hs : ∀ p ∈ n, p ∈ n') : LW w n' rows txt ro kd td ko to kvk kvt rvs rk where
 ro := hs _ h.ro
 rw := fun k hk => by
  refine xEAEEEEEEEE (h.rw k hk) fun ra h1 n0 t0 t1 t3 t4 t5 t6 t7 h2 => ?_
  exact ⟨ra, h1, n0, t0, t1, t3, t4, t5, t6, t7, hs _ h2⟩
 rok := h.rok
 kd := hs _ h.kd
 kdo := h.kdo
 kv := fun c hc => by
  refine xEEEA (h.kv c hc) fun xa xk xt e m => ?_
  exact ⟨xa, xk, xt, e, hs _ m⟩
 td := hs _ h.td
 tdo := h.tdo
 tv := fun c hc => by
  refine xEEEA (h.tv c hc) fun xa xk xt e m => ?_
  exact ⟨xa, xk, xt, e, hs _ m⟩
theorem due_g {text la : List Nat} {closed : Bool} {lt tt : Tok} (h : LW w n rows txt ro kd td ko to kvk kvt rvs rk) (hT : TextOk text) (hsub : ∀ x ∈ text, x ∈ txt) (hla : la = [] ∨ la = [97] ∨ la = [98]) : SpecF w 9 n 499 [.ref ro, .ref kd, .str ⟨la.toArray⟩ lt, .str ⟨text.toArray⟩ tt, .bool closed] (fun r new n' => ∃ ou er g, (AV.t (seenA ou er g)).Is n' r ∧ DueG n' rows text closed la ou er g) := by
 intro mean mg mb dp un gd cn cs a ccd cl outer A₀ base h₀ L m s Q E hB hF hX hN hT' hk hd hu hret
 refine due_j (w := w) rows txt text closed ro kd ko kvk rvs rk la lt tt n h.ro h.rw h.kd h.kdo h.kv h.rok hT hsub hla mean mg mb dp un gd cn cs a ccd cl outer A₀ base h₀ L m s Q E hB hF hX hN hT' hk hd hu fun v new h' tk' F' N' K' fr zf => hret v new h' tk' F' N' K' fr ?_
 refine xEEEAAAEEEAAAA zf fun n' a' S' hs hO hi g ou er hre hg e m2 m3 => ?_
 refine ⟨ou, er, g, ?_, hre, hg, (ow_list hO m2).mono hs, (ow_list hO m3).mono hs⟩
 subst e
 exact hi.mono (.of hs)
end
end Mine
end
section
open PySem PySem.W PyProof.Rows PySem.Calls
namespace Mine
noncomputable def DuesI (rows : Nat → Row) (txt la : List Nat) (nw : Led) (i : Nat) (ys : List Value) : Prop := ys.length = i ∧ ∀ m, m < i → ∃ v ou er g, ys[m]? = some v ∧ (AV.t (seenA ou er g)).Is nw v ∧ DueG nw rows (txt.take m) false la ou er g
theorem DuesI.mono {rows : Nat → Row} {txt la : List Nat} {nw nw' : Led} {i : Nat} {ys : List Value} (h : DuesI rows txt la nw i ys) (hs : ∀ p ∈ nw, p ∈ nw') : DuesI rows txt la nw' i ys := ⟨h.1, fun m hm => by
 refine xEEEEAA (h.2 m hm) fun v ou er g e1 e2 e3 => ?_
 exact ⟨v, ou, er, g, e1, e2.mono (.of hs), e3.mono hs⟩⟩
theorem DuesI.snoc {rows : Nat → Row} {txt la : List Nat} {nw : Led} {i : Nat} {ys : List Value} {v : Value} {ou er : Addr} {g : Cfg} (h : DuesI rows txt la nw i ys) (h1 : (AV.t (seenA ou er g)).Is nw v) (h2 : DueG nw rows (txt.take i) false la ou er g) : DuesI rows txt la nw (i + 1) (ys ++ [v]) := by
 refine ⟨by rw [List.length_append, h.1]; rfl, fun m hm => ?_⟩
 rcases Nat.lt_or_ge m i with q | q
 ·refine xEEEEAA (h.2 m q) fun v' ou' er' g' e1 e2 e3 => ?_
  exact ⟨v', ou', er', g', by rw [List.getElem?_append_left (by rw [h.1]; exact q)]; exact e1, e2, e3⟩
 ·have e : m = i := by lia
  subst e
  exact ⟨v, ou, er, g, by rw [List.getElem?_append_right (by rw [h.1]; exact Nat.le_refl _), h.1, Nat.sub_self]; rfl, h1, h2⟩
section
variable {w : World} {d : Nat} {cs : Scope} {c : FD w d cs} {l : ANs} {B : Led} {S : OS} {rows : Nat → Row} {txt la : List Nat} {ro kd td : Addr} {ko to : Obj} {kvk kvt : List (Int × Value)}
theorem x_dues {x : PySem.Str} {px fp p1 p2 p3 p4 p5 ps pb p6 pk pr pc p13 pp pos p : Pos} {kf k13 : Nat} {scope : Scope} {cl : List (PySem.Str × Addr)} {r : List Stmt} {cR cK cL cT : Addr}
  (hsw : swapsWith (.ListComp (.Call (.Name (ofString "_law_due") fp) [.Name (ofString "rows") p1, .Name (ofString "kinds") p2, .Name (ofString "last") p3, .Subscript (.Name (ofString "text") p4) (.Slice none (some (.Name (ofString "many") p5)) none ps) pb, .Constant (.bool false) kf p6] [] pp) [⟨.Name (ofString "many") pk, .Call (.Name (ofString "range") pr) [.Constant (.int 13) k13 p13] [] pc, [], 0⟩] scope pos) (some (.Name x px)) p.line c.env = pure true)
  (hxl : isLoc cs x = true) (hg : isGlob cs (ofString "range") = true)
  (hcl : closureFor scope c.env = pure cl) (hcell : (scope.names.all fun y => decide (y.2 ≠ .cell)) = true) (hk : scope.kind = .function) (hnm : (scope.names.all fun y => decide (y.2 = .local → scope.names.lookup y.1 = some .local)) = true) (hx : scope.names.lookup (ofString "many") = some .local) (hf : ∀ y, foldedSetIterable (.Call (.Name (ofString "range") pr) [.Constant (.int 13) k13 p13] [] pc) c.env y = pure y)
  (hk1 : ∀ C, (compEnvC scope cl C c.env).kindOf (ofString "_law_due") = some .globalImplicit) (hkR : ∀ C, (compEnvC scope cl C c.env).kindOf (ofString "rows") = some .cell) (hkK : ∀ C, (compEnvC scope cl C c.env).kindOf (ofString "kinds") = some .cell) (hkL : ∀ C, (compEnvC scope cl C c.env).kindOf (ofString "last") = some .cell) (hkT : ∀ C, (compEnvC scope cl C c.env).kindOf (ofString "text") = some .cell)
  (hcR : cl.lookup (ofString "rows") = some cR) (hcK : cl.lookup (ofString "kinds") = some cK) (hcL : cl.lookup (ofString "last") = some cL) (hcT : cl.lookup (ofString "text") = some cT) (sR : (cR, .cell (.r ro)) ∈ S) (sK : (cK, .cell (.r kd)) ∈ S) (sL : (cL, .cell (.s ⟨la.toArray⟩)) ∈ S) (sT : (cT, .cell (.s ⟨txt.toArray⟩)) ∈ S)
  (hLW : ∀ n, owD B S n → ∃ rvs rk, LW w n rows txt ro kd td ko to kvk kvt rvs rk) (hT : TextOk txt) (hla : la = [] ∨ la = [97] ∨ la = [98]) (hd9 : Nat.ble 9 d = true)
  (h : ∀ (B' : Led) D ys k0, owD B ((D, .obj (listOf (List.toArray ys) k0)) :: S) B' → DuesI rows txt la B' 13 ys → JX (owD B') c (execs r c.env) ((x, .r D) :: l) [] fun f _ _ => f = .ret (.b true)) :
  JX (owD B) c (execs (.Assign [.Name x px] (.ListComp (.Call (.Name (ofString "_law_due") fp) [.Name (ofString "rows") p1, .Name (ofString "kinds") p2, .Name (ofString "last") p3, .Subscript (.Name (ofString "text") p4) (.Slice none (some (.Name (ofString "many") p5)) none ps) pb, .Constant (.bool false) kf p6] [] pp) [⟨.Name (ofString "many") pk, .Call (.Name (ofString "range") pr) [.Constant (.int 13) k13 p13] [] pc, [], 0⟩] scope pos) p :: r) c.env) l S fun f _ _ => f = .ret (.b true) := fun s Q E m n F M N hS k => by
 have T := c.T
 have X := c.X
 have hd9 := Nat.le_of_ble_eq_true hd9
 refine xEE (hLW n hS) fun rvs rk W => ?_
 refine xEEAA (ow_cellAt hS sR) fun oR vR mR hoR iR => ?_
 refine xEEAA (ow_cellAt hS sK) fun oK vK mK hoK iK => ?_
 refine xEEAA (ow_cellAt hS sL) fun oL vL mL hoL iL => ?_
 refine xEEAA (ow_cellAt hS sT) fun oT vT mT hoT iT => ?_
 (first | obtain rfl := iR.inv | obtain ⟨_, rfl⟩ := iR.inv | cases iR); (first | obtain rfl := iK.inv | obtain ⟨_, rfl⟩ := iK.inv | cases iK); (first | obtain rfl := iL.inv | obtain ⟨_, rfl⟩ := iL.inv | cases iL); (first | obtain rfl := iT.inv | obtain ⟨_, rfl⟩ := iT.inv | cases iT)
 have hz : txt.length ≤ 100000 := Nat.le_trans hT.1 (by decide)
 refine wpAny_execs_cons (compU F hsw hcl (fun y hy => by have := List.all_eq_true.mp hcell y hy; simpa using this) hk (fun y hy hl => by have := List.all_eq_true.mp hnm y hy; simp only [decide_eq_true_eq] at this; exact this hl) hx (isLoc_spec hxl) for_cls hf ?_)
 refine Call_ ?_ rfl
 refine nameX_B F X (by k_asm) (gb_range _) (by boot_fast) nn_range ?_ c.hk (isGlob_spec hg) db_range
 refine PyProof.Rows.callWith_type1 (args_cons (wpAny_Constant_int (args_nil ?_)) (star_plain rfl)) (star_plain rfl) (noStars _ _ _ rfl)
 refine call_range_1 ?_
 have F2 := F.push { cls := .type "range", data := .fields #[.int 0 (s.toks + 1), .int 13 s.toks, .int 1 (s.toks + 1 + 1)] }
 have N2 : News c.h₀ c.L (s.heap.push { cls := .type "range", data := .fields #[.int 0 (s.toks + 1), .int 13 s.toks, .int 1 (s.toks + 1 + 1)] }) n := fun p hp => ⟨Heap.get?_push_of_some _ (N p hp).1, (N p hp).2⟩
 refine compRangeU (n := 13) (fun i ys os => DuesI rows txt la (os ++ n) i ys) rfl (IsRange.new ..) rfl rfl (by decide) F2 N2 ⟨rfl, fun _ h => absurd h (Nat.not_lt_zero _)⟩ ?_ ?_
 ·intro C i t h1 tk m₃ ys os E' hi hJ hns hm₃ F₃ N₃
  refine Call_ (comp_global F₃ ⟨gn_law_due _, db_law_due⟩ hk (hk1 C) ?_) rfl
  refine callWith_K X (kp_law_due _) (args_cons (comp_cell N₃ hk (hkR C) hcR (mem_ends mR) hoR rfl (args_cons (comp_cell N₃ hk (hkK C) hcK (mem_ends mK) hoK rfl (args_cons (comp_cell N₃ hk (hkL C) hcL (mem_ends mL) hoL rfl (args_cons (Subscript_ (comp_cell N₃ hk (hkT C) hcT (mem_ends mT) hoT rfl (wpAny_Slice (wpAny_pure (comp_local hns hm₃ hk hx rfl (wpAny_pure ?_)))))) (star_plain rfl))) (star_plain rfl))) (star_plain rfl))) (star_plain rfl)) (star_plain rfl) (noStars _ _ _ rfl)
  refine kba_turn (value' := usE) (fun _ => rfl) (slice_keep (s := ⟨_, _, _, _, _⟩) F₃ N₃ hz (fun h9 t9 k9 F9 N9 K8 => ?_) rfl (fun _ => rfl))
  refine args_cons (Constant_bool (args_nil ⟨X.keeps F9.keep, ?_⟩)) (star_plain rfl)
  refine due_g (W.mono fun p hp => mem_ends hp) (take_ok hT i) (fun y hy => List.mem_of_mem_take hy) hla _ _ _ _ _ _ _ _ _ _ _ _ _ _ _ _ _ _ _ _ c.B F9 X N9 T c.hk (Nat.lt_of_le_of_lt (Nat.add_le_add_left hd9 _) c.hd) (Nat.lt_of_le_of_lt (Nat.add_le_add_left (Nat.mul_le_mul_left _ hd9) _) c.hu) fun v new h' tk' F' N' K' G zf16 => ?_
  refine xEEEA zf16 fun ou er g i1 D1 => ?_
  exact eltNew N' (fun b o e => K' b o (K8 b o e)) (fun p hp => none_of K8 (G p hp)) (by rw [List.append_assoc]; exact (hJ.mono fun p hp => mem_ends hp).snoc i1 D1)
 ·intro D kD h' tk ys os hJ hlt F' N'
  refine xEAA (dedL N') fun n3 d1 d2 d3 => ?_
  have hO := hS.comp (o := listOf ys.toArray kD) (x := .obj (listOf ys.toArray kD)) hlt d1 d3 (.obj (by simp))
  have g : Gro n n3 := .of fun p hp => d3 p (.tail _ (mem_ends hp))
  exact h n3 D ys kD hO (hJ.mono fun p hp => d3 p (.tail _ hp)) _ _ E _ n3 F' ((M.mono g).store (.r D)) (fun p hp => N' p (d2 p hp)) ⟨d1, fun _ h => h, (fun _ h => nomatch h), (fun _ h => nomatch h), List.nodup_nil⟩ fun v b l' S' m' n' h2 tk2 F2 g2 M2 N2 hS2 i2 hK => k v b l' [] m' n' h2 tk2 F2 (g.trans g2) M2 N2 ⟨hS2.nd, fun p hp => hS2.ba p (hO.ba p hp), (fun _ h => nomatch h), (fun _ h => nomatch h), List.nodup_nil⟩ i2 hK
end
end Mine
end
section
open PySem PySem.W PyProof.Rows PySem.Calls
namespace Mine
section
variable {B : Led} {S : OS} {n : Led}
noncomputable def putS (a : Addr) (x : AO) (S : OS) : OS := S.map fun q => if q.1 = a then (a, x) else q
theorem putS_id {a : Addr} {x : AO} : ∀ {S : OS}, (∀ q ∈ S, q.1 ≠ a) → putS a x S = S
 | [], _ => rfl
 | q :: r, h => by
  show (if q.1 = a then (a, x) else q) :: putS a x r = q :: r
  rw [if_neg (h q (.head _)), putS_id fun p hp => h p (.tail _ hp)]
theorem supOf {a : Addr} {x x' : AO} : ∀ {S : OS}, (S.map (·.1)).Nodup → (a, x) ∈ S → SUp a x x' S (putS a x' S)
 | q :: r, hn, h => by
  rw [List.map_cons, List.nodup_cons] at hn
  have hr : ∀ {p : Addr × AO}, p ∈ r → p.1 ≠ q.1 := fun hp e => hn.1 (List.mem_map.mpr ⟨_, hp, e⟩)
  rcases List.mem_cons.mp h with e | h
  ·cases e
   show SUp a x x' _ ((if a = a then (a, x') else (a, x)) :: putS a x' r)
   rw [if_pos rfl, putS_id fun p hp => hr hp]
   exact .head
  ·have hp : q.1 ≠ a := fun e => hr h e.symm
   show SUp a x x' _ ((if q.1 = a then (a, x') else q) :: putS a x' r)
   rw [if_neg hp]
   exact .tail (supOf hn.2 h)
theorem putS_at {a : Addr} {x x' : AO} (h : (a, x) ∈ S) : (a, x') ∈ putS a x' S := List.mem_map.mpr ⟨_, h, if_pos rfl⟩
theorem putS_off {a b : Addr} {x' y : AO} (h : (b, y) ∈ S) (e : b ≠ a) : (b, y) ∈ putS a x' S := List.mem_map.mpr ⟨_, h, if_neg e⟩
theorem own_ne {a b : Addr} {x y : AO} : ∀ {S : OS}, (S.map (·.1)).Nodup → (a, x) ∈ S → (b, y) ∈ S → x ≠ y → a ≠ b
 | q :: r, hn, h1, h2, hne => by
  rw [List.map_cons, List.nodup_cons] at hn
  rintro rfl
  rcases List.mem_cons.mp h1 with e1 | h1
  ·rcases List.mem_cons.mp h2 with e2 | h2
   ·exact hne (congrArg Prod.snd (e1.trans e2.symm))
   ·exact hn.1 (List.mem_map.mpr ⟨_, h2, by rw [← e1]⟩)
  ·rcases List.mem_cons.mp h2 with e2 | h2
   ·exact hn.1 (List.mem_map.mpr ⟨_, h1, by rw [← e2]⟩)
   ·exact own_ne hn.2 h1 h2 hne rfl
theorem putS_keep {a b : Addr} {o o' : Obj} {y : AO} (hn : (S.map (·.1)).Nodup) (ha : (a, .obj o) ∈ S) (h : (b, y) ∈ S) (hy : ∀ o, y ≠ .obj o) : (b, y) ∈ putS a (.obj o') S := putS_off h (own_ne hn h ha (hy o))
end
section
variable {w : World} {d : Nat} {cs : Scope} {c : FD w d cs} {l : ANs} {B : Led} {S : OS}
theorem dict_cls {κ : Type} [DecidableEq κ] {knd : PySem.KeyKind PG w κ} {o : Obj} {kvs : List (κ × Value)} (h : o.IsDictOf knd kvs) : o.cls ≠ .type "tuple" := fun e => by
 refine xEEA h fun _ _ h1 _ => ?_
 unfold Obj.ExactDict at h1
 rw [e] at h1
 simp at h1
theorem e_dict0 {K : AV → OS → Prop} {p : Pos} (h : ∀ D o, o.IsDictOf (PySem.intKind PG w) [] → K (.r D) ((D, .obj o) :: S)) : JE (owD B) c (eval (.Dict [] [] p) c.env) l S K := fun s Q E m n F M N hS k =>
 newDict_K F N (Top.nolimit c.T) fun D h' o F' N' hl _ _ _ hd _ => k _ _ _ _ _ _ F' (.of fun p hp => .tail _ hp) N' (hS.new hl (.obj (dict_cls hd))) (.r _) (h D o hd)
theorem x_setD {κ : Type} [DecidableEq κ] {knd : PySem.KeyKind PG w κ} {K : AF → ANs → OS → Prop} {oe ie ve : Expr} {pp p : Pos} {k0 : κ} {td : Addr} (hsw : plainE ve = true)
  (h : JE (owD B) c (eval ve c.env) l S fun v S1 => JE (owD B) c (eval oe c.env) l S1 fun u S2 => JE (owD B) c (eval ie c.env) l S2 fun a S3 => u = .r td ∧ (∀ n x, a.Is n x → knd.is k0 x = true) ∧ ∃ va to kvs, v = .r va ∧ (td, .obj to) ∈ S3 ∧ to.IsDictOf knd kvs ∧ kvs.length ≤ 1000 ∧ ∀ to', (S3.map (·.1)).Nodup → to'.IsDictOf knd (stored kvs k0 (.ref va)) → K .nxt l (putS td (.obj to') S3)) :
  JX (owD B) c (exec (.Assign [.Subscript oe ie pp] ve p) c.env) l S K := fun s Q E m n F M N hS k =>
 wpAny_Assign_Subscript (h s _ E m n F M N hS fun v a1 S1 n1 h1 t1 F1 g1 N1 hS1 i1 h2 => h2 _ _ E m n1 F1 (M.mono g1) N1 hS1 fun u a2 S2 n2 h3 t3 F3 g3 N3 hS3 i3 h4 => h4 _ _ E m n2 F3 (M.mono (g1.trans g3)) N3 hS3 fun x a3 S3 n3 h5 t5 F5 g5 N5 hS5 i5 zf12 => by
  refine xAAEEEAAAA zf12 fun e1 hk va to kvs e2 hm hd hz h6 => ?_
  subst e1 e2
  (first | obtain rfl := i1.inv | obtain ⟨_, rfl⟩ := i1.inv | cases i1)
  (first | obtain rfl := i3.inv | obtain ⟨_, rfl⟩ := i3.inv | cases i3)
  refine xEA (hS5.ob _ hm) fun o m1 q => ?_
  have g6 := fun o' => hS5.gro (o' := o') m1 q rfl
  (first | obtain rfl := q.inv | obtain ⟨_, rfl⟩ := q.inv | cases q)
  exact kda_set F5 N5 (putO_updF hS5.nd m1) hd (hk _ _ i5) (by rw [sizeLine_eq]; lia) fun h' o' F' N' hd' => k _ _ _ _ _ _ _ _ F' (((g1.trans g3).trans g5).trans (g6 o')) (M.mono (((g1.trans g3).trans g5).trans (g6 o'))) N' (hS5.put (supOf hS5.ns hm) (.obj (dict_cls hd')) rfl) .nxt (h6 o' hS5.ns hd')) (swap_plain hsw)
theorem o_idxD {K : AV → OS → Prop} {a b : Addr} {o : Obj} {kvs : List (Int × Value)} {k0 : Int} {sl : Expr} (hs : slicePlain sl = true) (hm : (a, .obj o) ∈ S) (hd : o.IsDictOf (PySem.intKind PG w) kvs) (hv : valueAt kvs k0 = some (.ref b)) (h : K (.r b) S) : JO2 (owD B) c AV.Is (fun o i => subscriptTail usE sl o i) (.r a) (.i k0) l S K := fun s Q E m n x y F M N hS i j kk => by
 (first | obtain rfl := i.inv | obtain ⟨_, rfl⟩ := i.inv | cases i)
 (first | obtain rfl := j.inv | obtain ⟨_, rfl⟩ := j.inv | cases j)
 refine xEA (hS.ob _ hm) fun o' m1 q => ?_
 (first | obtain rfl := q.inv | obtain ⟨_, rfl⟩ := q.inv | cases q)
 exact kda_item (knd := PySem.intKind PG w) N m1 hd (beq_self_eq_true _) hv (kk _ _ _ _ _ _ F .refl N hS (.r _) h) (sub_plain hs) (fun _ => rfl)
theorem o_sorted {K : AV → OS → Prop} {a : Addr} {ns : List Int} (hm : (a, .lst (ns.map .i)) ∈ S) (hz : ns.length < 64) (h : ∀ (D : Addr) (ns' : List Int), ns'.length = ns.length → ns'.Perm ns → ns'.Pairwise (· ≤ ·) → K (.r D) ((D, .lst (ns'.map .i)) :: S)) : JOL (owD B) c AV.Is (fun vs => call (.builtin "sorted") vs) [.r a] l S K := fun s Q E m n vs F M N hS i k => by
 cases i using LIs.cons_elim with
 | cons i1 i =>
  (first | obtain rfl := i.inv | obtain ⟨_, rfl⟩ := i.inv | cases i); (first | obtain rfl := i1.inv | obtain ⟨_, rfl⟩ := i1.inv | cases i1)
  refine xEA (hS.ob _ hm) fun o m1 q => ?_
  cases q using AO.Is.lst_elim with
  | lst k1 i1 =>
   exact kso_sorted F N (N.isList m1) (ints_lis i1) hz fun D vs' ns' cc h' F' N' hl a1 a2 a3 a4 _ => k _ _ _ _ _ _ F' (.of fun p hp => .tail _ hp) N' (hS.new hl (.lst cc (lis_ints a1))) (.r _) (h D ns' a2 a3 a4)
theorem x_forO {γ : Type} {K : AF → ANs → OS → Prop} {x : PySem.Str} {px p : Pos} {iter : Expr} {body : List Stmt} (hx : isLoc cs x = true) (hf : ∀ y, foldedSetIterable iter c.env y = pure y)
  (h : JE (owD B) c (eval iter c.env) l S fun a S1 => ∃ la as S2, a = .r la ∧ S1 = (la, .lst as) :: S2 ∧ ∀ lo : Obj, ∃ (J : Nat → γ → OS → Prop) (L : Nat → γ → OS → ANs) (g0 : γ), J 0 g0 S2 ∧ SubL l (L 0 g0 S2) ∧
   (∀ I io, io.cls ≠ .type "tuple" → ∀ i g S, i < as.length → J i g S → JX (owD ((I, io) :: (la, lo) :: B)) c (execs body c.env) ((x, as.getD i .n) :: L i g S) S (LoopK K J L (i + 1))) ∧ ∀ g S, J as.length g S → K .nxt (L as.length g S) S) :
  JX (owD B) c (exec (.For (.Name x px) iter body [] p) c.env) l S K := fun s Q E m n F M N hS k => by
 refine wpAny_mono (E := fun _ _ => False) (For_invV c.h₀ (isLoc_spec hx) for_cls ?_ hf .never) (fun _ _ h => h) (fun _ _ h => h.elim)
 refine h s _ _ m n F M N hS fun v a S1 n1 h1 t1 F1 g1 N1 hS1 i1 h2 => ?_
 refine xEEEAA h2 fun la as S2 zq1 zq2 h3 => ?_
 subst zq1
 subst zq2
 (first | obtain rfl := i1.inv | obtain ⟨_, rfl⟩ := i1.inv | cases i1)
 refine xEA (hS1.ob _ (.head _)) fun o hm0 q => ?_
 cases q using AO.Is.lst_elim with
 | @lst vs k0 hL0 =>
 refine xEEEAAA (h3 (listOf vs.toArray k0)) fun J L g0 hj hl turn done => ?_
 refine xAAA (iter_list F1 N1 hm0) fun hls hne hLn hnw => ?_
 have hsz : vs.toArray.size = as.length := by rw [List.size_toArray, hL0.len]
 have hn2 := hS1.ns
 rw [List.map_cons, List.nodup_cons] at hn2
 have hS2 : owD ((la, listOf vs.toArray k0) :: B) S2 n1 := ⟨hS1.nd, fun p hp => (List.mem_cons.mp hp).elim (fun e => e ▸ hm0) (hS1.ba p), fun q hq p hp => (List.mem_cons.mp hp).elim (fun e e2 => hn2.1 (List.mem_map.mpr ⟨q, hq, by rw [← e2, e]⟩)) fun hp => hS1.nb q (.tail _ hq) p hp, fun q hq => hS1.ob q (.tail _ hq), hn2.2⟩
 refine wpAny_pyIter_list hls ?_
 refine loop_core (K := K) (den := fun S nx => owD ((la, listOf vs.toArray k0) :: B) S nx ∧ LIs nx as vs) (fun I io S nx => owD ((I, io) :: (la, listOf vs.toArray k0) :: B) S nx ∧ LIs nx as vs) (fun I io hc => ?own) (fun i => as.getD i .n) J L g0 (hsz ▸ Walks.list (prog := PG) (w := w) c_handled h1.objs.size la hne vs.toArray) (.head _) hLn (next_is_new F1) (fun i h hs => ?_) (fun b hb => ?_) hnw ⟨⟨_, Heap.get?_push_size _ rfl, rfl, rfl⟩, hls.at fun o e => Heap.get?_push_of_some _ e⟩ ?_ (F1.push _) (M.mono g1) (fun p hp => ⟨Heap.get?_push_of_some _ (N1 p hp).1, (N1 p hp).2⟩) ⟨hS2, hL0⟩ hj hl (fun I io hc i g S hi hJ s Q E m n F M N hS k => turn I io hc i g S hi hJ s Q E m n F M N hS.1 fun v b l' S' m' n' h' tk' F' g' M' N' hS' i' hK => k v b l' S' m' n' h' tk' F' g' M' N' ⟨hS', hS.2.mono g'⟩ i' hK) done fun v b l' S' m' n' h' tk' F' g' M' N' hS' i' hK => ?_
 case own =>
  have W := ow_own ((la, listOf vs.toArray k0) :: B) I io hc
  exact ⟨fun hS hne => ⟨W.put hS.1 hne, hS.2.mono (.of fun p hp => mem_left hp)⟩, fun h0 hne hS N => by
   refine xEAAAA (W.take h0.1 hne hS.1 N) fun nx t1 t2 t3 t4 t5 => ?_
   exact ⟨nx, t1, t2, t3, ⟨t4, hS.2.mono t5⟩, t5⟩⟩
 ·obtain ⟨⟨o, ho, hc, _⟩, _⟩ := hs
  exact ⟨o, ho, by rw [hc]; simp⟩
 ·rcases List.mem_cons.mp hb with e | hb
  ·exact .inl e
  ·rw [List.mem_singleton.mp hb]
   exact .inr ⟨_, fun S nx hS => hS.1.ba _ (.head _)⟩
 ·exact fun i v S nx hP hS hi => hS.2.getD hi (by simpa using hP)
 ·exact k v b l' S' m' n' h' tk' F' (g1.trans g') M' N' ⟨hS'.1.nd, fun p hp => hS'.1.ba p (.tail _ hp), fun q hq p hp => hS'.1.nb q hq p (.tail _ hp), hS'.1.ob, hS'.1.ns⟩ i' hK
theorem e_states {K : AV → OS → Prop} {k1 k2 : Nat} {q1 q2 p xp yp : Pos} {x y : PySem.Str} {cR ra rb : Addr} {oR : Obj} (hx : isCell cs x = true) (hd : (x == ofString "__debug__") = false) (hc : c.cl.lookup x = some cR) (hm : (cR, oR) ∈ B) (ho : oR.data = .cell (some (.ref ra))) (e : alook cs l y = some (.r rb)) (h : ∀ D o kvs, (D == sysModules) = false → o.IsDictOf (PySem.strKind PG w) kvs → StAt ra rb kvs 0 → K (.r D) ((D, .obj o) :: S)) :
  JE (owD B) c (eval (.Dict [some (.Constant (.str (ofString "rows")) k1 q1), some (.Constant (.str (ofString "told")) k2 q2)] [.Name x xp, .Name y yp] p) c.env) l S K := fun s Q E m n F M N hS k => by
 refine xAA (alook_spec e) fun h1 h2 h3 => ?_
 refine xEA (M _ _ h3) fun v hv hi => ?_
 (first | obtain rfl := hi.inv | obtain ⟨_, rfl⟩ := hi.inv | cases hi)
 refine Dict_made_str rfl F rfl rfl (List.cons_ne_nil _ _) (Nat.le_of_ble_eq_true rfl) (fun FP => ?_)
 have NP := newsPush (o := { cls := .type "dict", data := .dict #[] }) N
 refine pairTrees_cons_walk (Constant_str (nameX_C NP hc (hS.ba _ hm) ho (pairTrees_cons_walk (Constant_str (nameX_L FP hv (pairTrees_nil_walk ?_) c.hk h2 h1))) c.hk (isCell_spec hx) hd))
 refine kda_made_str F N (Top.nolimit c.T) rfl (of_decide_eq_true rfl) rfl (fun h6 so F6 N6 l6 lo6 hd6 => ?_)
 exact k _ _ _ _ _ _ F6 (.of fun p hp => .tail _ hp) N6 (hS.new l6 (.obj (dict_cls hd6))) (.r _) (h _ _ _ lo6 hd6 (StAt.init' hd6))
end
end Mine
end
section
open PySem PySem.W PyProof.Rows PySem.Calls
namespace Mine
section
noncomputable def DictHas (kv : List (Int × Value)) (S : OS) (cs : List Nat) (i : Nat) : Prop := kv.length ≤ i ∧ ∀ j, j < i → ∀ c, cs[j]? = some c → ∃ xa, valueAt kv (c : Int) = some (.ref xa) ∧ (xa, .lst (toldA c)) ∈ S
theorem DictHas.sub {kv : List (Int × Value)} {S S' : OS} {cs : List Nat} {i : Nat} (h : DictHas kv S cs i) (hs : ∀ a y, (a, y) ∈ S → (∀ o, y ≠ .obj o) → (a, y) ∈ S') : DictHas kv S' cs i := ⟨h.1, fun j hj c hc => by
 refine xEA (h.2 j hj c hc) fun xa e m => ?_
 exact ⟨xa, e, hs _ _ m fun o => nofun⟩⟩
theorem DictHas.snoc {kv : List (Int × Value)} {S : OS} {cs : List Nat} {i c : Nat} {xa : Addr} (h : DictHas kv S cs i) (hc : cs[i]? = some c) (hm : (xa, .lst (toldA c)) ∈ S) : DictHas (stored kv (c : Int) (.ref xa)) S cs (i + 1) := by
 refine ⟨Nat.le_trans (stored_length_le _ _ _) (Nat.succ_le_succ h.1), fun j hj c' hc' => ?_⟩
 rw [valueAt_stored]
 by_cases e : (c' : Int) = (c : Int)
 ·have e2 : c' = c := by lia
  subst e2
  exact ⟨xa, by rw [if_pos rfl], hm⟩
 ·have hji : j < i := by
   rcases Nat.lt_or_ge j i with q | q
   ·exact q
   ·have : j = i := by lia
    subst this
    rw [hc] at hc'
    cases hc'
    exact absurd rfl e
  refine xEA (h.2 j hji c' hc') fun a e1 e3 => ?_
  exact ⟨a, by rw [if_neg e]; exact e1, e3⟩
theorem DictHas.all {kv : List (Int × Value)} {S : OS} {cs : List Nat} (h : DictHas kv S cs cs.length) : ∀ c ∈ cs, ∃ xa, valueAt kv (c : Int) = some (.ref xa) ∧ (xa, .lst (toldA c)) ∈ S := fun c hc => by
 obtain ⟨j, hj, e⟩ := List.getElem_of_mem hc
 exact h.2 j hj c (by rw [List.getElem?_eq_getElem hj, e])
theorem cuts_nat2 {ns : List Int} {a b c : Int} (hl : ns.length = 3) (hp : ns.Perm [a % 13, b % 13, c % 13]) (hs : ns.Pairwise (· ≤ ·)) : ∃ q0 q1 q2 : Nat, q0 ≤ q1 ∧ q1 ≤ q2 ∧ q2 ≤ 12 ∧ ns = [(q0 : Int), (q1 : Int), (q2 : Int)] := by
 match ns, hl with
 | [x, y, z], _ =>
  have hm : ∀ w ∈ [x, y, z], 0 ≤ w ∧ w ≤ 12 := fun w hw => by
   have := hp.mem_iff.mp hw
   simp only [List.mem_cons, List.not_mem_nil, or_false] at this
   rcases this with e | e | e <;> rw [e] <;> lia
  have hx := hm x (.head _)
  have hy := hm y (.tail _ (.head _))
  have hz := hm z (.tail _ (.tail _ (.head _)))
  simp only [List.pairwise_cons, List.mem_cons, List.not_mem_nil, or_false, forall_eq_or_imp, forall_eq] at hs
  exact ⟨x.toNat, y.toNat, z.toNat, by have := hs.1.1; lia, by have := hs.2.1; lia, by lia, by rw [Int.toNat_of_nonneg hx.1, Int.toNat_of_nonneg hy.1, Int.toNat_of_nonneg hz.1]⟩
noncomputable def lastN (z : Int) : List Nat := if z = 0 then [98] else if z = 1 then [97] else []
theorem last_at {z : Int} (h0 : 0 ≤ z) (h3 : z < 3) : ([.s (oS "b"), .s (oS "a"), .s (oS "")] : List AV)[z.toNat]? = some (.s ⟨(lastN z).toArray⟩) := by
 have : z = 0 ∨ z = 1 ∨ z = 2 := by lia
 rcases this with rfl | rfl | rfl
 ·exact congrArg (fun x => some (AV.s x)) (show oS "b" = ⟨[98].toArray⟩ by decide +kernel)
 ·exact congrArg (fun x => some (AV.s x)) (show oS "a" = ⟨[97].toArray⟩ by decide +kernel)
 ·exact congrArg (fun x => some (AV.s x)) (show oS "" = ⟨[].toArray⟩ by decide +kernel)
theorem last_ok (z : Int) : lastN z = [] ∨ lastN z = [97] ∨ lastN z = [98] := by
 unfold lastN
 split
 ·exact .inr (.inr rfl)
 ·split
  ·exact .inr (.inl rfl)
  ·exact .inl rfl
end
section
variable {w : World} {d : Nat} {cs : Scope} {c : FD w d cs} {l : ANs} {B : Led} {S : OS}
theorem e_nameK {σ : Type} {den : σ → Led → Prop} {S : σ} {K : AV → σ → Prop} {x : PySem.Str} {xp : Pos} {f : Addr} (G : GName w x (.ref f)) (hx : isGlob cs x = true) (h : K (.r f) S) : JE den c (eval (.Name x xp) c.env) l S K := fun s Q E m n F M N hS k => by
 have T := c.T
 have X := c.X
 exact nameX_K F X (by k_asm) G.e (k _ _ _ _ _ _ F .refl N hS (.r _) h) c.hk (isGlob_spec hx) G.hd
theorem o_addB {K : AV → OS → Prop} {a b : Addr} {xs ys : List AV} {vs : List Value} {k0 : Nat} (h1 : (a, listOf vs.toArray k0) ∈ B) (hl : LIs B xs vs) (h2 : (b, .lst ys) ∈ S) (hz : xs.length + ys.length ≤ 100000) (h : ∀ D, K (.r D) ((D, .lst (xs ++ ys)) :: S)) : JO2 (owD B) c AV.Is (binaryOp .Add) (.r a) (.r b) l S K := fun s Q E m n x y F M N hS i j k => by
 (first | obtain rfl := i.inv | obtain ⟨_, rfl⟩ := i.inv | cases i)
 (first | obtain rfl := j.inv | obtain ⟨_, rfl⟩ := j.inv | cases j)
 refine xEA (hS.ob _ h2) fun o2 m2 q2 => ?_
 cases q2 using AO.Is.lst_elim with
 | lst k2 i2 =>
  exact add_L F N (hS.ba _ h1) m2 (by rw [hl.len, i2.len]; exact hz) fun D h' F' N' hlt => k _ _ _ _ _ _ F' (.of fun p hp => .tail _ hp) N' (hS.new hlt (.lst 0 ((hl.mono (.of hS.ba)).app i2))) (.r _) (h D)
theorem o_neTold {K : Bool → OS → Prop} {a b : Addr} {ch : Nat} (ha : (a, .lst (toldA ch)) ∈ S) (hb : (b, .lst (toldA ch)) ∈ S) (hd5 : Nat.ble 5 d = true) (h : K false S) : CmpK (owD B) c .NotEq (.r a) (.r b) l S K := by
 have q : ∀ {x : Addr}, (x, .lst (toldA ch)) ∈ S → ∀ n v, owD B S n → (AV.r x).Is n v → DatIn n v (toldD ch) := fun hx n v hS i => by
  (first | obtain rfl := i.inv | obtain ⟨_, rfl⟩ := i.inv | cases i)
  refine xEE (own_told hS hx) fun xk xt m => ?_
  exact told_in m
 intro s Q E m n x y F M N hS i j k
 exact ne_same N (q ha _ _ hS i) (q hb _ _ hS j) (told_ok ch) (by decide) (by have h1 := c.hu; have h2 := Nat.le_of_ble_eq_true hd5; show c.un + 64 < cLine; lia) (k _ _ _ _ _ _ F .refl N hS rfl h)
theorem x_whole {x : PySem.Str} {px fp pp p : Pos} {e0 : Expr} {es : List Expr} {r : List Stmt} {rows : Nat → Row} {txt la : List Nat} {ro kd td : Addr} {ko to : Obj} {kvk kvt : List (Int × Value)} {rvs : List Value} {rk : Nat} (hx : isLoc cs x = true) (hg : isGlob cs (ofString "_law_due") = true) (hp : (e0 :: es).all starP = true)
  (q : JL (owD B) c (spliced (backTo pp (starEach (e0 :: es) c.env))) l S fun as S1 => as = [.r ro, .r kd, .s ⟨la.toArray⟩, .s ⟨txt.toArray⟩, .b true])
  (W : LW w B rows txt ro kd td ko to kvk kvt rvs rk) (hT : TextOk txt) (hla : la = [] ∨ la = [97] ∨ la = [98]) (hd9 : Nat.ble 9 d = true)
  (h : ∀ (B' : Led) ow ew g, (∀ p ∈ B, p ∈ B') → DueG B' rows txt true la ow ew g → JX (owD B') c (execs r c.env) ((x, .t (seenA ow ew g)) :: l) [] fun f _ _ => f = .ret (.b true)) :
  JX (owD B) c (execs (.Assign [.Name x px] (.Call (.Name (ofString "_law_due") fp) (e0 :: es) [] pp) p :: r) c.env) l S fun f _ _ => f = .ret (.b true) := fun s Q E m n F M N hS k => by
 have T := c.T
 have X := c.X
 have hd9 := Nat.le_of_ble_eq_true hd9
 rw [List.all_cons, Bool.and_eq_true] at hp
 refine wpAny_execs_cons (wpAny_Assign_Name (Call_ (nameX_K F X (by k_asm) (gn_law_due _) ?_ c.hk (isGlob_spec hg) db_law_due) rfl) (swap_plain rfl))
 refine callWith_K X (kp_law_due _) (q s _ E m n F M N hS fun vs as S1 n1 h1 t1 F1 g1 N1 hS1 i1 hk => ⟨X.keeps F1.keep, ?_⟩) (star_plain hp.1) (noStars _ _ _ hp.2)
 subst hk
 cases i1 using LIs.cons_elim with | cons j1 i1 => cases i1 using LIs.cons_elim with | cons j2 i1 => cases i1 using LIs.cons_elim with | cons j3 i1 => cases i1 using LIs.cons_elim with | cons j4 i1 => cases i1 using LIs.cons_elim with | cons j5 i1 =>
  (first | obtain rfl := i1.inv | obtain ⟨_, rfl⟩ := i1.inv | cases i1); (first | obtain rfl := j1.inv | obtain ⟨_, rfl⟩ := j1.inv | cases j1); (first | obtain rfl := j2.inv | obtain ⟨_, rfl⟩ := j2.inv | cases j2); (first | obtain rfl := j3.inv | obtain ⟨_, rfl⟩ := j3.inv | cases j3); (first | obtain rfl := j4.inv | obtain ⟨_, rfl⟩ := j4.inv | cases j4); (first | obtain rfl := j5.inv | obtain ⟨_, rfl⟩ := j5.inv | cases j5)
  refine due_g (W.mono hS1.ba) hT (fun y hy => hy) hla _ _ _ _ _ _ _ _ _ _ _ _ _ _ _ _ _ _ _ _ c.B F1 X N1 T c.hk (Nat.lt_of_le_of_lt (Nat.add_le_add_left hd9 _) c.hd) (Nat.lt_of_le_of_lt (Nat.add_le_add_left (Nat.mul_le_mul_left _ hd9) _) c.hu) fun v new h' tk' F' N' K' G zf14 => ?_
  refine xEEEA zf14 fun ow ew g i1 D1 => ?_
  refine xEAA (dedL N') fun n3 d1 d2 d3 => ?_
  have g2 : Gro n n3 := g1.trans (.of fun p hp => d3 p (mem_ends hp))
  exact storeX_L F' (fun p hp => N' p (d2 p hp)) (fun h3 F3 N3 => h n3 ow ew g (fun p hp => d3 p (mem_ends (hS1.ba p hp))) (D1.mono d3) _ _ E _ n3 F3 ((M.mono g2).store (i1.mono (.of d3))) N3 ⟨d1, fun _ h => h, (fun _ h => nomatch h), (fun _ h => nomatch h), List.nodup_nil⟩ fun v b l' S' m' n' h2 tk2 F2 g3 M2 N2 hS2 i2 hK => k v b l' [] m' n' h2 tk2 F2 (g2.trans g3) M2 N2 ⟨hS2.nd, fun p hp => hS2.ba p (d3 p (mem_ends (hS1.ba p hp))), (fun _ h => nomatch h), (fun _ h => nomatch h), List.nodup_nil⟩ i2 hK) c.hk (isLoc_spec hx)
end
end Mine
end
section
open PySem PySem.W PyProof.Rows PySem.Calls
namespace Mine
section
variable {w : World} {d : Nat} {cs : Scope} {c : FD w d cs} {l : ANs} {B : Led} {S : OS}
theorem z_ns {K : AF → ANs → OS → Prop} {b : List Stmt} {bs : List (List Stmt)} (h : (S.map (·.1)).Nodup → JZ (owD B) c (b :: bs) l S K) : JZ (owD B) c (b :: bs) l S K := fun s Q E m n F M N hS k => h hS.ns s Q E m n F M N hS k
end
structure TJ (w : World) (FX : OS) (td kd : Addr) (cs : List Nat) (i : Nat) (S : OS) : Prop where
 fx : ∀ a y, (a, y) ∈ FX → (a, y) ∈ S
 t : ∃ to kvt, (td, .obj to) ∈ S ∧ to.IsDictOf (PySem.intKind PG w) kvt ∧ DictHas kvt S cs i
 k : ∃ ko kvk, (kd, .obj ko) ∈ S ∧ ko.IsDictOf (PySem.intKind PG w) kvk ∧ DictHas kvk S cs i
theorem pool_get {txt : List Nat} {i : Nat} (hi : i < (poolV ++ txt.map fun c => AV.s (chS c)).length) : ∃ ch, (poolCs ++ txt)[i]? = some ch ∧ (poolV ++ txt.map fun c => AV.s (chS c)).getD i .n = .s (chS ch) := by
 have e : (poolV ++ txt.map fun c => AV.s (chS c)) = (poolCs ++ txt).map fun c => AV.s (chS c) := by unfold poolV; rw [List.map_append]
 rw [e, List.length_map] at hi
 refine ⟨(poolCs ++ txt)[i], List.getElem?_eq_getElem hi, ?_⟩
 rw [e, List.getD_eq_getElem?_getD, List.getElem?_map, List.getElem?_eq_getElem hi]
 rfl
theorem pool_len {txt : List Nat} : (poolV ++ txt.map fun c => AV.s (chS c)).length = (poolCs ++ txt).length := by
 unfold poolV
 rw [List.length_append, List.length_append, List.length_map, List.length_map]
theorem pool_lt2 {txt : List Nat} (hT : TextOk txt) {i ch : Nat} (h : (poolCs ++ txt)[i]? = some ch) : ch < 1114112 := by
 rcases List.mem_append.mp (List.mem_of_getElem? h) with h | h
 ·exact pool_lt _ h
 ·exact (hT.2 _ h).1
theorem TJ.next {w : World} {FX S : OS} {td kd xa xk : Addr} {cs : List Nat} {i ch : Nat} {to to' ko ko' : Obj} {kvt kvk : List (Int × Value)} (hne : kd ≠ td) (hFX : ∀ a y, (a, y) ∈ FX → ∀ o, y ≠ .obj o) (hfx : ∀ a y, (a, y) ∈ FX → (a, y) ∈ S) (m1 : (td, .obj to) ∈ S) (D1 : DictHas kvt S cs i) (m2 : (kd, .obj ko) ∈ S) (D2 : DictHas kvk S cs i) (hc : cs[i]? = some ch)
  (hn1 : (((xa, AO.lst (toldA ch)) :: S).map (·.1)).Nodup) (hn3 : (((xk, AO.lst (toldA ch)) :: putS td (.obj to') ((xa, .lst (toldA ch)) :: S)).map (·.1)).Nodup) (d1 : to'.IsDictOf (PySem.intKind PG w) (stored kvt (ch : Int) (.ref xa))) (d2 : ko'.IsDictOf (PySem.intKind PG w) (stored kvk (ch : Int) (.ref xk))) :
  TJ w FX td kd cs (i + 1) (putS kd (.obj ko') ((xk, .lst (toldA ch)) :: putS td (.obj to') ((xa, .lst (toldA ch)) :: S))) ∧ (xa, .lst (toldA ch)) ∈ putS kd (.obj ko') ((xk, .lst (toldA ch)) :: putS td (.obj to') ((xa, .lst (toldA ch)) :: S)) ∧ (xk, .lst (toldA ch)) ∈ putS kd (.obj ko') ((xk, .lst (toldA ch)) :: putS td (.obj to') ((xa, .lst (toldA ch)) :: S)) ∧ (td, .obj to') ∈ putS kd (.obj ko') ((xk, .lst (toldA ch)) :: putS td (.obj to') ((xa, .lst (toldA ch)) :: S)) ∧ (kd, .obj ko') ∈ putS kd (.obj ko') ((xk, .lst (toldA ch)) :: putS td (.obj to') ((xa, .lst (toldA ch)) :: S)) := by
 have mk3 : (kd, AO.obj ko) ∈ (xk, AO.lst (toldA ch)) :: putS td (.obj to') ((xa, .lst (toldA ch)) :: S) := .tail _ (putS_off (.tail _ m2) hne)
 have keep1 : ∀ a y, (a, y) ∈ (xa, AO.lst (toldA ch)) :: S → (∀ o, y ≠ .obj o) → (a, y) ∈ putS kd (.obj ko') ((xk, .lst (toldA ch)) :: putS td (.obj to') ((xa, .lst (toldA ch)) :: S)) := fun a y h hy => putS_keep hn3 mk3 (.tail _ (putS_keep hn1 (.tail _ m1) h hy)) hy
 have keep : ∀ a y, (a, y) ∈ S → (∀ o, y ≠ .obj o) → (a, y) ∈ putS kd (.obj ko') ((xk, .lst (toldA ch)) :: putS td (.obj to') ((xa, .lst (toldA ch)) :: S)) := fun a y h hy => keep1 a y (.tail _ h) hy
 have ma := keep1 _ _ (.head _) (fun o => nofun)
 have mk := putS_keep (o' := ko') hn3 mk3 (.head _) (fun o => nofun)
 exact ⟨⟨fun a y h => keep a y (hfx a y h) (hFX a y h), ⟨_, _, putS_off (.tail _ (putS_at (.tail _ m1))) hne.symm, d1, (D1.sub keep).snoc hc ma⟩, ⟨_, _, putS_at mk3, d2, (D2.sub keep).snoc hc mk⟩⟩, ma, mk, putS_off (.tail _ (putS_at (.tail _ m1))) hne.symm, putS_at mk3⟩
theorem LS.sub {w : World} {S S' : OS} {rs : List Row} {txt : List Nat} {ro kd td : Addr} {ko to : Obj} {kvk kvt : List (Int × Value)} (h : LS w S rs txt ro kd td ko to kvk kvt) (hs : ∀ b y, (b, y) ∈ S → y ≠ .cell0 → (b, y) ∈ S') : LS w S' rs txt ro kd td ko to kvk kvt :=
 ⟨hs _ _ h.ro nofun, h.len, h.rok, hs _ _ h.kd nofun, h.kdo, hs _ _ h.td nofun, h.tdo, fun c hc => by
  refine xEA (h.kv c hc) fun xa e m => ?_
  exact ⟨xa, e, hs _ _ m nofun⟩, fun c hc => by
  refine xEA (h.tv c hc) fun xa e m => ?_
  exact ⟨xa, e, hs _ _ m nofun⟩⟩
theorem TJ.ls {w : World} {FX S : OS} {td kd ro : Addr} {txt : List Nat} {rs : List Row} (h : TJ w FX td kd (poolCs ++ txt) (poolCs ++ txt).length S) (hr : (ro, .lst (rowsA rs)) ∈ FX) (h6 : rs.length = 6) (hok : ∀ j, j < 6 → RowOk j (rs.getD j r0)) : ∃ ko to kvk kvt, LS w S rs txt ro kd td ko to kvk kvt := by
 obtain ⟨hfx, ⟨to, kvt, m1, d1, D1⟩, ⟨ko, kvk, m2, d2, D2⟩⟩ := h
 exact ⟨ko, to, kvk, kvt, hfx _ _ hr, h6, hok, m2, d2, m1, d1, fun c hc => D2.all c (List.mem_append_right _ hc), fun c hc => D1.all c (List.mem_append_right _ hc)⟩
end Mine
end
section
local macro_rules | `(tactic| k_qdec) => `(tactic| first | (rw [PySem.W.Fast.te2458874890965802552]; kernel_rfl) | (rw [PySem.W.Fast.te17448422675489707002]; kernel_rfl))
section
open PySem PySem.W PyProof.Rows PySem.Calls
namespace Mine
theorem jx_enter {w : World} {d : Nat} {cs : Scope} (c : FD w d cs) {body : List Stmt} {l : ANs} {B : Led} {S : OS} {s : Shared} {Q : Flow → Shared → Prop} {E : Value → Shared → Prop} {m : PySem.Str → Option Value} {n : Led} (F : Fr c.h₀ c.L s.heap m) (M : Names n l m) (N : News c.h₀ c.L s.heap n) (hS : owD B S n) (hQ : ∀ h' tk' m', Fr c.h₀ c.L h' m' → Q (.ret (.bool true)) { s with heap := h', toks := tk' }) (h : ∀ c' : FD w d cs, c'.cl = c.cl → c'.h₀ = c.h₀ → JX (owD B) c' (execs body c'.env) l S fun f _ _ => f = .ret (.b true)) : wpAny (model PG w) c.A (execs body c.env) Q E s :=
 h c rfl rfl s Q E m n F M N hS fun v b l' S' m' n' h' tk' F' g M' N' hS' i hk => by
  subst hk
  cases i with
  | ret i => cases i; exact hQ h' tk' m' F'
theorem key_int {w : World} {k : Int} : ∀ n x, (AV.i k).Is n x → (PySem.intKind PG w).is k x = true := fun _ _ h => by
 cases h
 exact PySem.intKind_is _ _ _ _
theorem key_str {w : World} {k : PySem.Str} : ∀ n x, (AV.s k).Is n x → (PySem.strKind PG w).is k x = true := fun _ _ h => by
 cases h
 exact PySem.strKind_is _ _ _ _
theorem bne_self {x : PySem.Str} : (x != x) = false := by simp
theorem names_nil {n : Led} {m : PySem.Str → Option Value} : Names n [] m := fun _ _ e => nomatch e
theorem nd5 (a : Nat) : List.Nodup [a + 1 + 1 + 1 + 1, a + 1 + 1 + 1, a + 1 + 1, a + 1, a] := by
 simp only [List.nodup_cons, List.mem_cons, List.not_mem_nil, or_false, not_false_eq_true, List.nodup_nil, and_true]
 lia
theorem law_cells {h₀ h : Heap} {L a : Addr} {l : Addr} {o1 o2 o3 o4 o5 : Obj} (N : News h₀ L h [(a + 1 + 1 + 1 + 1, o5), (a + 1 + 1 + 1, o4), (a + 1 + 1, o3), (a + 1, o2), (a, o1)]) (d5 : o5.data = .cell none) (d4 : o4.data = .cell none) (d3 : o3.data = .cell none) (d2 : o2.data = .cell none) (d1 : o1.data = .cell (some (.ref l))) : owD [] [(a + 1 + 1 + 1 + 1, .cell0), (a + 1 + 1 + 1, .cell0), (a + 1 + 1, .cell0), (a + 1, .cell0), (a, .cell (.r l))] [(a + 1 + 1 + 1 + 1, o5), (a + 1 + 1 + 1, o4), (a + 1 + 1, o3), (a + 1, o2), (a, o1)] := by
 have nd := nd5 a
 refine ⟨nd, (fun _ h => nomatch h), (fun _ _ _ h => nomatch h), List.forall_mem_cons.mpr ⟨⟨_, .head _, .cell0 d5⟩, List.forall_mem_cons.mpr ⟨⟨_, .tail _ (.head _), .cell0 d4⟩, List.forall_mem_cons.mpr ⟨⟨_, .tail _ (.tail _ (.head _)), .cell0 d3⟩, List.forall_mem_cons.mpr ⟨⟨_, .tail _ (.tail _ (.tail _ (.head _))), .cell0 d2⟩, List.forall_mem_cons.mpr ⟨⟨_, .tail _ (.tail _ (.tail _ (.tail _ (.head _)))), .cell d1 (.r _)⟩, fun _ h => nomatch h⟩⟩⟩⟩⟩, nd⟩
theorem l_abs {w : World} {d : Nat} {cs : Scope} {σ γ : Type} {den : σ → Led → Prop} {c : FD w d cs} {l : ANs} {S : σ} {t : Sem Flow} {K : AF → ANs → σ → Prop} {J : Nat → γ → σ → Prop} {L : Nat → γ → σ → ANs} {i : Nat} (h : ∀ K2 : AF → ANs → σ → Prop, (∀ g l S, J i g S → SubL l (L i g S) → K2 .nxt l S) → JX den c t l S K2) : JX den c t l S (LoopK K J L i) :=
 h _ fun g _ _ h1 h2 => ⟨g, h1, h2⟩
theorem law_all : Challenge.rw_nt0602_01.Holds := hd (by
 k_go0
 all_goals try k_fold
 rename_i w s₀ s₁ mg mb G Y fa o pm doc ho hg KX X V GL T B TE TW w14 w13 M w12 w11 hcd ns hs0 hlay0 hL1 hr1 hl2 as9 as8 l vs as5 hL ra w1 r0 hI hr hc1 hc2 K0 hD h1 tk1 F1 cLast cKinds cText cRows cScr dLast dKinds dText dRows dScr N0 X0
 have hlen : ns.length ≤ 63 := by lia
 refine (?_ : wpAny _ _ (execs (_ :: _) _) _ _ _)
 refine jx_enter (w := w) (d := 20) (l := []) (B := []) (S := [(s₁.heap.objs.size + 1 + 1 + 1 + 1 + 1, .cell0), (s₁.heap.objs.size + 1 + 1 + 1 + 1, .cell0), (s₁.heap.objs.size + 1 + 1 + 1, .cell0), (s₁.heap.objs.size + 1 + 1, .cell0), (s₁.heap.objs.size + 1, .cell (.r l))]) ⟨ExcName.means s₀.heap, mg, mb, _, _, _, _, fa, .ref w12, _, _, callerA, _, s₁.heap, s₁.heap.objs.size, K0, KX, T, rfl, by decide, by decide⟩ F1 names_nil N0 (law_cells N0 dLast dKinds dText dRows dScr) ?fin ?_
 case fin => (intro h' tk' m' F'; have F2 : Fr s₁.heap s₁.heap.objs.size h' m' := F'; clear F' F1 N0; show GoodW _ _ _ _ _ (.ok (.ret _)) _; close_w)
 intro c hcl0 hh0
 refine z_start ?_
 have hcl : c.cl = [(ofString "last", s₁.heap.objs.size + 1 + 1 + 1 + 1 + 1), (ofString "kinds", s₁.heap.objs.size + 1 + 1 + 1 + 1), (ofString "text", s₁.heap.objs.size + 1 + 1 + 1), (ofString "rows", s₁.heap.objs.size + 1 + 1), (ofString "script", s₁.heap.objs.size + 1)] := by rw [hcl0]
 have hP : Scr l vs c.h₀ := by rw [hh0]; exact hL
 clear hcd GL Y G N0 F1 dLast dKinds dText dRows dScr cLast cKinds cText cRows cScr hcl0 hh0 w1 r0 hD M X0 hs0 hlay0 hL1 hr1 hl2 hr ra hL
 generalize s₁.heap.objs.size + 1 + 1 + 1 + 1 + 1 = a5 at *
 generalize s₁.heap.objs.size + 1 + 1 + 1 + 1 = a4 at *
 generalize s₁.heap.objs.size + 1 + 1 + 1 = a3 at *
 generalize s₁.heap.objs.size + 1 + 1 = a2 at *
 generalize s₁.heap.objs.size + 1 = a1 at *
 have hc1 : c.cl.lookup (ofString "script") = some a1 := by rw [hcl]; rfl
 have hc2 : c.cl.lookup (ofString "rows") = some a2 := by rw [hcl]; rfl
 have hc3 : c.cl.lookup (ofString "text") = some a3 := by rw [hcl]; rfl
 have hc4 : c.cl.lookup (ofString "kinds") = some a4 := by rw [hcl]; rfl
 have hc5 : c.cl.lookup (ofString "last") = some a5 := by rw [hcl]; rfl
 -- rows
 refine z_stmt (x_rows (cx := a2) (csc := a1) (sa := l) rfl rfl hc2 rfl (clo hcl rfl) rfl rfl rfl rfl (fun _ => rfl) (fun _ => rfl) (fun _ => rfl) rfl (.tail _ (.tail _ (.tail _ (.tail _ (.head _))))) hP hI hlen rfl fun ro rs e1 e2 => ⟨_, .new (.tail (.tail (.tail (.tail .head)))), zk_n ?_⟩)
 -- text
 refine z_stmt (x_cell rfl rfl hc3 (e_callP (dd := 4) ⟨gn_law_text _, db_law_text⟩ rfl rfl (kp_law_text _) rfl hP (l_cons rfl (e_cell rfl rfl hc1 (.tail _ (.tail _ (.tail _ (.tail _ (.tail _ (.head _)))))) (l_nil (text_a hI hlen ⟨_, .new (.tail (.tail (.tail .head))), zk_n ?_⟩))))))
 have hTx := text_ok ns
 have htl : (textCs ns).length = 12 := by simp [textCs]
 generalize textCs ns = txt at *
 -- told, kinds
 refine z_let rfl rfl (e_dict0 fun td to0 hto0 => ?_)
 refine z_stmt (x_cell rfl rfl hc4 (e_dict0 fun kd ko0 hko0 => ⟨_, .new (.tail (.tail (.tail (.tail .head)))), zk_n ?_⟩))
 refine z_ns fun hn0 => ?_
 have hne : kd ≠ td := fun e => by
  rw [List.map_cons, List.map_cons, List.nodup_cons] at hn0
  exact hn0.1 (by rw [e]; exact .head _)
 refine z_stmt (x_forO (γ := Unit) rfl (fun _ => rfl) ?_)
 refine e_bin (e_g0 (dd := 2) ⟨gn_law_pool _, db_law_pool⟩ rfl (kp_law_pool _) rfl (pool_a fun pl => e_ttJ rfl rfl rfl (l_cons rfl (e_cell rfl rfl hc3 (.tail _ (.tail _ (.tail _ (.tail _ (.tail _ (.tail _ (.head _))))))) (l_nil (o_listS (xs := txt) rfl (by lia) fun l2 => o_addL (.tail _ (.head _)) (.head _) (by rw [← List.length_append, pool_len, List.length_append, show poolCs.length = 43 by decide +kernel]; lia) fun la0 => ⟨la0, _, _, rfl, rfl, fun lo => ?_⟩))))))
 have hFX : ∀ a y, (a, y) ∈ [(a5, AO.cell0), (a4, AO.cell (.r kd)), (a3, AO.cell (.s ⟨txt.toArray⟩)), (a2, AO.cell (.r ro)), (a1, AO.cell (.r l)), (ro, AO.lst (rowsA rs))] → ∀ o, y ≠ .obj o := by
  intro a y h o e
  subst e
  simp only [List.mem_cons, List.not_mem_nil, or_false, Prod.mk.injEq, reduceCtorEq, and_false, or_self] at h
 refine ⟨fun i _ S' => TJ w [(a5, AO.cell0), (a4, AO.cell (.r kd)), (a3, AO.cell (.s ⟨txt.toArray⟩)), (a2, AO.cell (.r ro)), (a1, AO.cell (.r l)), (ro, AO.lst (rowsA rs))] td kd (poolCs ++ txt) i S', fun _ _ _ => [(ofString "told", .r td)], (), ⟨?fx0, ⟨to0, [], ?mt, hto0, Nat.le_refl _, fun _ h => absurd h (Nat.not_lt_zero _)⟩, ⟨ko0, [], ?mk, hko0, Nat.le_refl _, fun _ h => absurd h (Nat.not_lt_zero _)⟩⟩, .cons rfl .nil, ?tn, ?dn⟩
 case fx0 =>
  intro a y h
  simp only [List.mem_cons, List.not_mem_nil, or_false] at h ⊢
  rcases h with h | h | h | h | h | h <;> simp [h]
 case mt => exact .tail _ (.tail _ (.tail _ (.head _)))
 case mk => exact .tail _ (.tail _ (.head _))
 case tn =>
  intro I io _ i _ S' hi hJ
  refine xEA (pool_get hi) fun ch hch hget => ?_
  have hc14 := pool_lt2 hTx hch
  have hi55 : i ≤ 1000 := by
   rw [pool_len, List.length_append, show poolCs.length = 43 by decide +kernel] at hi
   lia
  rw [hget]
  obtain ⟨hfx, ⟨to, kvt, m1, d1, D1⟩, ⟨ko, kvk, m2, d2, D2⟩⟩ := hJ
  refine z_start (z_stmt (x_setD (knd := PySem.intKind PG w) (k0 := (ch : Int)) (td := td) rfl (e_k ⟨gn_law_told _, db_law_told⟩ rfl (kp_law_told _) rfl (os_n ow_tup) rfl (told_a hc14 fun xa => e_name rfl (e_bt rfl rfl (os_n ow_tup) rfl (o_ord ⟨rfl, key_int, xa, to, kvt, rfl, .tail _ m1, d1, Nat.le_trans D1.1 hi55, fun to' hn1 d1' => zk_n ?_⟩))))))
  refine z_stmt (x_setD (knd := PySem.intKind PG w) (k0 := (ch : Int)) (td := kd) rfl (e_k ⟨gn_law_kinds _, db_law_kinds⟩ rfl (kp_law_kinds _) rfl (os_n ow_tup) rfl (kinds_a hc14 fun xk => e_cell rfl rfl hc4 (.tail _ (putS_keep hn1 (.tail _ m1) (.tail _ (hfx _ _ (.tail _ (.head _)))) (fun o => nofun))) (e_bt rfl rfl (os_n ow_tup) rfl (o_ord ⟨rfl, key_int, xk, ko, kvk, rfl, .tail _ (putS_off (.tail _ m2) hne), d2, Nat.le_trans D2.1 hi55, fun ko' hn3 d2' => zk_n ?_⟩)))))
  refine xAAAA (TJ.next (w := w) hne hFX hfx m1 D1 m2 D2 hch hn1 hn3 d1' d2') fun T1 ma mk nt nk => ?_
  refine z_if (t_cmp rfl (e_sub (e_name rfl (e_bt rfl rfl (os_n ow_tup) rfl (o_ord (o_idxD rfl nt d1' (stored_got d1') (e_sub (e_cell rfl rfl hc4 (T1.fx _ _ (.tail _ (.head _))) (e_bt rfl rfl (os_n ow_tup) rfl (o_ord (o_idxD rfl nk d2' (stored_got d2') (o_neTold ma mk rfl (bif_f ?_)))))))))))))
  exact z_nil (z_nil (z_end ⟨(), T1, .cons rfl .nil⟩))
 case dn =>
  intro _ S' hJ
  rw [pool_len] at hJ
  refine zk_n (z_ns fun hnS => ?_)
  refine xEEEE (hJ.ls (.tail _ (.tail _ (.tail _ (.tail _ (.tail _ (.head _)))))) e1 e2) fun ko to kvk kvt hLS => ?_
  have hfx := hJ.fx
  clear hJ hto0 hko0 hFX hn0
  have f5 := hfx _ _ (.head _)
  have f4 := hfx _ _ (.tail _ (.head _))
  have f3 := hfx _ _ (.tail _ (.tail _ (.head _)))
  have f2 := hfx _ _ (.tail _ (.tail _ (.tail _ (.head _))))
  have f1 := hfx _ _ (.tail _ (.tail _ (.tail _ (.tail _ (.head _)))))
  clear hfx
  have hTc : ∀ c ∈ txt, c < 1114112 := fun c hc => (hTx.2 c hc).1
  refine z_if (t_cmp rfl (e_callK ⟨gn_lower_text _, db_lower_text⟩ rfl rfl (kp_lower_text _) rfl (l_cons rfl (e_cell rfl rfl hc3 f3 (l_nil (lower_text_a hTx.1 hTc (e_callK ⟨gn_law_fold _, db_law_fold⟩ rfl rfl (kp_law_fold _) rfl (l_cons rfl (e_cell rfl rfl hc3 f3 (l_nil (fold_a hTx.1 hTc (o_neS (bif_F bne_self ?_)))))))))))))
  refine z_nil (z_let rfl rfl (e_callP (dd := 2) ⟨gn_law_digit _, db_law_digit⟩ rfl rfl (kp_law_digit _) rfl hP (l_cons rfl (e_cell rfl rfl hc1 f1 (l_cons rfl (e_int (l_nil (digit_a ow_tup hI hlen (k := 0) rfl ?_))))))))
  generalize ns.getD 0 0 = dg
  have hd0 : 0 ≤ dg % 3 := Int.emod_nonneg _ (by decide)
  have hd3 : dg % 3 < 3 := Int.emod_lt_of_pos _ (by decide)
  refine z_stmt (x_cell rfl rfl hc5 (e_sub (e_listE (os_n ow_tup) rfl rfl fun ll => e_ev (os_n ow_tup) rfl (o_idxN (k := (dg % 3).toNat) (Int.toNat_of_nonneg hd0).symm rfl (.head _) (by lia) (last_at hd0 hd3) ⟨_, .new (.tail (supOf hnS f5)), zk_n ?_⟩))))
  have hla := last_ok (dg % 3)
  generalize lastN (dg % 3) = la at *
  have kp : ∀ b y, (b, y) ∈ S' → y ≠ .cell0 → (b, y) ∈ putS a5 (.cell (.s ⟨la.toArray⟩)) S' := fun b y h hy => putS_off h (own_ne hnS h f5 hy)
  have LS2 := hLS.sub kp
  replace f4 := kp _ _ f4 nofun
  replace f3 := kp _ _ f3 nofun
  replace f2 := kp _ _ f2 nofun
  replace f5 : (a5, AO.cell (.s ⟨la.toArray⟩)) ∈ putS a5 (.cell (.s ⟨la.toArray⟩)) S' := putS_at f5
  clear kp hLS hnS f1
  generalize putS a5 (.cell (.s ⟨la.toArray⟩)) S' = S5 at *
  refine z_let rfl rfl (e_callB ⟨gb_sorted _, by boot_fast, nn_sorted, db_sorted⟩ rfl rfl (l_cons rfl (e_listE (os_n ow_tup) rfl rfl fun l3 => l_nil (o_sorted (ns := [(dg / 3 + 5) % 13, dg / 39 % 13, (dg / 507 + 11) % 13]) (.head _) (Nat.le_of_ble_eq_true rfl) fun lc ns' c1 c2 c3 => ?_))))
  refine xEEEAAA (cuts_nat2 c1 c2 c3) fun q0 q1 q2 hq0 hq1 hq2 zq1 => ?_
  subst zq1
  refine x_mono (x_dues (cR := a2) (cK := a4) (cL := a5) (cT := a3) (ro := ro) (kd := kd) (td := td) rfl rfl rfl (clo hcl rfl) rfl rfl rfl rfl (fun _ => rfl) (fun _ => rfl) (fun _ => rfl) (fun _ => rfl) (fun _ => rfl) (fun _ => rfl) rfl rfl rfl rfl (.tail _ (.tail _ (.tail _ f2))) (.tail _ (.tail _ (.tail _ f4))) (.tail _ (.tail _ (.tail _ f5))) (.tail _ (.tail _ (.tail _ f3))) (fun n hO => LS.led (LS2.sub fun b y h _ => .tail _ (.tail _ (.tail _ h))) hO) hTx hla rfl fun B1 Dd ys k0 hO1 hDu => z_start ?_) fun f l' S'' h => by subst h; exact rfl
  refine xEEAA (ow_cellAt hO1 (.tail _ (.tail _ (.tail _ (.tail _ f2))))) fun oR vR mR hoR iR => ?_
  refine xEEAA (ow_cellAt hO1 (.tail _ (.tail _ (.tail _ (.tail _ f4))))) fun oK vK mK hoK iK => ?_
  refine xEEAA (ow_cellAt hO1 (.tail _ (.tail _ (.tail _ (.tail _ f5))))) fun oL vL mL hoL iL => ?_
  refine xEEAA (ow_cellAt hO1 (.tail _ (.tail _ (.tail _ (.tail _ f3))))) fun oT vT mT hoT iT => ?_
  refine xEE (LS.led (LS2.sub fun b y h _ => .tail _ (.tail _ (.tail _ (.tail _ h)))) hO1) fun rvs rk LW1 => ?_
  have mDd := own_obj hO1 (.head _)
  refine xEA (hO1.ob _ (.tail _ (.head _))) fun oc mlc qc => ?_
  cases qc with
  | @lst _ cvs ck icv =>
  clear hO1 LS2 f2 f3 f4 f5
  refine x_mono (x_whole (la := la) rfl rfl rfl (l_cons rfl (b_cell ow_base rfl rfl hc2 mR hoR iR (l_cons rfl (b_cell ow_base rfl rfl hc4 mK hoK iK (l_cons rfl (b_cell ow_base rfl rfl hc5 mL hoL iL (l_cons rfl (b_cell ow_base rfl rfl hc3 mT hoT iT (l_cons rfl (e_bool (l_nil rfl))))))))))) LW1 hTx hla rfl fun B2 ow ew gw hB2 Dw => z_start ?_) fun f l' S'' h => by subst h; exact rfl
  have LW2 := LW1.mono hB2
  replace hDu := hDu.mono hB2
  replace mDd := hB2 _ mDd
  replace mR := hB2 _ mR
  replace mL := hB2 _ mL
  replace mT := hB2 _ mT
  replace mlc := hB2 _ mlc
  replace icv := icv.mono (.of hB2)
  replace iL := iL.mono (.of hB2)
  replace iT := iT.mono (.of hB2)
  cases iR
  clear LW1 mK hoK iK hB2
  refine z_let rfl rfl (e_states rfl rfl hc2 mR hoR rfl fun sd so0 kvs0 lo hds0 st0 => ?_)
  refine z_stmt (x_forR (γ := Obj × List (PySem.Str × Value)) ⟨gb_range _, by boot_fast, nn_range, db_range⟩ 6 (fun I io => owD ((I, io) :: B2)) (ow_own B2) (fun i g S => (sd, .obj g.1) ∈ S ∧ g.1.IsDictOf (PySem.strKind PG w) g.2 ∧ StAt ro td g.2 i) (fun _ _ _ => [(ofString "states", .r sd), (ofString "whole", .t (seenA ow ew gw)), (ofString "dues", .r Dd), (ofString "cuts", .r lc), (ofString "told", .r td)]) (so0, kvs0) (by decide) rfl rfl rfl (fun _ => rfl) (e_int ⟨rfl, ⟨.head _, hds0, st0⟩, .of rfl⟩) ?tn2 ?dn2)
  case tn2 =>
   intro I io _ i zf22 S6 hi6 zf23
   obtain ⟨so, kvs⟩ := zf22
   refine xAA zf23 fun hm hds hst => ?_
   refine z_start (z_stmt (x_setD (knd := PySem.strKind PG w) (k0 := stS i) (td := sd) rfl (e_nameK ⟨gn_law_rule _, db_law_rule⟩ rfl (e_name rfl (e_ttJ rfl rfl rfl (l_cons rfl (e_name rfl (l_nil (o_strN (k := i) rfl (by lia) ⟨rfl, key_str, 487, so, kvs, rfl, hm, hds, Nat.le_trans hst.len (by lia), fun so' _ hds' => zk_n ?_⟩)))))))))
   exact z_nil (z_end ⟨(so', _), ⟨putS_at hm, hds', hst.snoc hi6⟩, .of rfl⟩)
  case dn2 =>
   intro zf24 S6 zf25
   obtain ⟨so, kvs⟩ := zf24
   refine xAA zf25 fun hm hds hst => ?_
   refine zk_n ?_
   refine z_stmt (x_forN rfl (fun _ => rfl) ?_)
   refine e_list ?_
   refine l_cons rfl ?_
   refine e_listE (os_n ow_tup) rfl rfl ?_
   with_reducible intro _
   refine l_cons rfl ?_
   refine e_bin ?_
   refine e_ev (os_n ow_tup) rfl ?_
   refine e_listE (os_n ow_tup) rfl rfl ?_
   with_reducible intro _
   refine o_addB mlc icv (.head _) (Nat.le_of_ble_eq_true rfl) fun w1 => ?_
   refine l_cons rfl ?_
   refine e_ttJ rfl rfl rfl ?_
   refine l_cons rfl ?_
   refine e_tt rfl rfl (os_n ow_tup) rfl ?_
   refine o_rangeN fun Dr0 tr0 tr1 tr2 => ?_
   refine l_nil ?_
   refine o_listR (n0 := 12) (.head _) rfl rfl rfl fun w2 => ?_
   refine l_nil ?_
   refine ⟨rfl, fun la0 => ⟨la0, _, rfl, .head _, fun B4 wvs wk0 hO hlm hLI => ?_⟩⟩
   rename_i w0 wt
   have LW4 := LW2.mono hO.ba
   have W4 : WW w B4 (fun k => rs.getD k r0) txt la sd Dd ow ew a3 a5 gw ys k0 oT oL vT vL := { env := ⟨so, to, kvs, kvt, ro, td, rvs, rk, ⟨own_obj hO (.tail _ (.tail _ (.tail _ (.tail _ (.tail _ (.tail _ hm)))))), hds, lo, hst.vr, hst.vt, hst.vn, hst.v6, LW4.ro, LW4.rw, LW4.td, LW4.tdo, LW4.tv⟩⟩, rok := LW4.rok, tok := hTx, len := htl, hla := hla, mem := hO.ba _ mDd, due := (hDu.mono hO.ba).2, whole := Dw.mono hO.ba, ct := hO.ba _ mT, cto := hoT, ctv := iT.mono (.of hO.ba), cl := hO.ba _ mL, clo := hoL, clv := iL.mono (.of hO.ba) }
   have hways := ways_at hO (.tail _ (.tail _ (.tail _ (.tail _ (.tail _ (.head _)))))) (.tail _ (.tail _ (.tail _ (.head _)))) (.tail _ (.head _)) hq0 hq1 hq2
   refine ⟨[(ofString "states", .r sd), (ofString "whole", .t (seenA ow ew gw)), (ofString "dues", .r Dd)], .of rfl, ?turn, ?after⟩
   case after =>
    refine zk_n ?_
    refine z_retE (os_n ow_tup) rfl ?_
    exact rfl
   case turn =>
    intro I io hio i hi
    refine xEEEEAAA (hways i hi) fun wa vw wk ws ea hwa hwi hWO => ?_
    rw [ea]
    have W5 := W4.mono (B' := B4 ++ [(I, io)]) fun p hp => mem_left hp
    replace hwa : _ ∈ B4 ++ [(I, io)] := mem_left hwa
    replace hwi := hwi.mono (n' := B4 ++ [(I, io)]) (.of fun p hp => mem_left hp)
    clear hways W4 hLI hlm hO ea LW4 LW2 hDu mDd mR mL mT mlc icv iL iT Dw hoR hds hst hm
    generalize B4 ++ [(I, io)] = B5 at *
    have htok := W5.tok
    have hi0 : Wf [] (initC la) := init_wf W5.hla
    refine x_newTok rfl rfl rfl rfl (l_cons rfl (e_name rfl (l_cons rfl (e_str (l_cons rfl (b_cell in_base rfl rfl hc5 W5.cl W5.clo W5.clv (l_nil rfl))))))) fun A hsa => ?_
    refine z_start ?_
    refine xEEEEAA (W5.due 0 (by decide)) fun v0 ou0 er0 g0 e0 i0 D0 => ?_
    refine z_if (t_cmp rfl (e_seen rfl rfl rfl rfl hi0 (e_dueI (k := 0) te_baseOk rfl rfl W5.mem (by decide) e0 i0 (e_int ⟨rfl, rfl⟩) (o_neSD D0 (fun p hp => hp) (init_stuck_eq D0) hi0 rfl ?_))))
    refine bif_f ?_
    refine z_nil ?_
    refine z_letE (os_n te_tup) rfl rfl rfl ?_
    refine z_stmt ?_
    refine x_forL (γ := Unit) (ws.map fun n : Nat => AV.i (n : Int)) (fun I io => teD ((newX A B5).plus I io)) (te_own (newX A B5)) (fun i _ S => WayJ (fun k => rs.getD k r0) txt la ws i S) (fun i _ _ => [(ofString "begun", .i ((prevW ws i : Nat) : Int)), (ofString "t", .r A.t), (ofString "way", .r wa), (ofString "states", .r sd), (ofString "whole", .t (seenA ow ew gw)), (ofString "dues", .r Dd)]) () rfl (fun _ => rfl) (fun S nx hS => ⟨te_base hS _ hwa, hwi.mono (.of (te_base hS))⟩) ?it ?tn ?dn
    case it =>
     refine e_ev (os_n te_tup) rfl ?_
     exact ⟨rfl, wayJ_zero, .of rfl⟩
    case tn =>
     intro I2 io2 _ i _ S hi hJ
     refine l_abs fun K2 hk => ?_
     rw [List.length_map] at hi
     rw [getD_mapI hi]
     refine xEEAAA hJ fun ne cf zq2 hne R1 g1 => ?_
     subst zq2
     obtain ⟨hbp, hp12⟩ := hWO.mono i hi
     have Wc := R1.wf W5.rok (take_ok htok _) (init_wf W5.hla)
     have hd1 : cf.done = false := R1.done_f rfl
     have W6 := W5.mono (B' := B5 ++ [(I2, io2)]) fun p hp => mem_left hp
     have hwa6 : _ ∈ B5 ++ [(I2, io2)] := mem_left hwa
     refine z_start (z_expr rfl (e_meth (dd := 10) rfl rfl (te_meth (s_meth (fm_359_feed _) (fn_222 _) (by k_get))) (kp_222 _) rfl (l_cons rfl (e_slS (b_cell te_baseOk rfl rfl hc3 W6.ct W6.cto W6.ctv (e_name rfl (e_name rfl ⟨txt, prevW ws i, ws.getD i 0, rfl, rfl, rfl, hbp, Nat.le_trans htok.1 (by decide), l_nil ?_⟩)))))))
     refine feed_a rfl (feed_len1 hp12) (fun ch hc => htok.2 ch (List.mem_of_mem_drop (List.mem_of_mem_take hc))) (by show (txt.take (prevW ws i)).length ≤ 100; rw [List.length_take]; lia) (by show ne ≤ 100; lia) fun ne' hne' => ?_
     have hne2 := feed_ne (txt := txt) hbp hne hne'
     rw [take_cat hbp]
     have R2 : Reach (fun k => rs.getD k r0) (txt.take (ws.getD i 0)) false (initC la) (unwait cf) := feed_reach hbp R1
     have W2 := R2.wf W5.rok (take_ok htok _) (init_wf W5.hla)
     have hpre : txt.take (ws.getD i 0) <+: txt := List.take_prefix _ _
     refine z_cutP (fun l' S' => SubL l' [(ofString "place", .i ((ws.getD i 0 : Nat) : Int)), (ofString "t", .r A.t), (ofString "way", .r wa), (ofString "states", .r sd), (ofString "whole", .t (seenA ow ew gw)), (ofString "dues", .r Dd)] ∧ ∃ c2, S' = ⟨txt.take (ws.getD i 0), false, ne', c2⟩ ∧ Reach (fun k => rs.getD k r0) (txt.take (ws.getD i 0)) false (initC la) c2) ?c1 ?c2
     case c1 =>
      have hsl : SubL [(ofString "place", .i ((ws.getD i 0 : Nat) : Int)), (ofString "begun", .i ((prevW ws i : Nat) : Int)), (ofString "t", .r A.t), (ofString "way", .r wa), (ofString "states", .r sd), (ofString "whole", .t (seenA ow ew gw)), (ofString "dues", .r Dd)] [(ofString "place", .i ((ws.getD i 0 : Nat) : Int)), (ofString "t", .r A.t), (ofString "way", .r wa), (ofString "states", .r sd), (ofString "whole", .t (seenA ow ew gw)), (ofString "dues", .r Dd)] := .of rfl
      refine x_if (t_and (t_cmp rfl (e_btJ rfl rfl rfl (l_cons rfl (e_name rfl (l_nil (b_lenN te_baseOk hwa6 (hwi.len.trans (List.length_map _)) (Nat.le_trans hWO.len (by decide)) (e_int (o_eqI ?_)))))))))
      by_cases h12 : ws.length = 12
      ·rw [h12]
       refine bif_t (t_and (t_cmp rfl (e_attr rfl (te_get rfl (e_str (o_neS ?_))))))
       rw [st6_ne]
       by_cases h6 : cf.st = 6
       ·refine bif_F (decide_eq_false (fun z => z h6)) (bif_f (x_nil ⟨rfl, hsl, _, rfl, R2⟩))
       ·have gg : goC (txt.take (ws.getD i 0)) false (unwait cf) := by
         rw [(twelve_step hWO h12 hi).1]
         exact go_next Wc hd1 h6 (by rw [W5.len]; exact (twelve_step hWO h12 hi).2)
        refine bif_T (decide_eq_true h6) (t_and0 (bif_t (z_start (z_expr rfl (te_m rfl rfl rfl rfl (te_jc (wait_a ?_)))))))
        have W3 : Wf (txt.take (ws.getD i 0)) { unwait cf with wait := true } := waitC_wf W2
        refine z_if (t_or (e_run rfl rfl rfl (W6.rg hsa rfl rfl rfl hpre) W3 fun c' q1 q2 => ?_))
        cases q1.stuck waitC_stuck
        refine xEEEEAA (W6.due (prevW ws i) (by lia)) fun v1 ou1 er1 g1' e1 i1 D1 => ?_
        cases D1.re.det D1.st R1 g1
        refine bif_F hd1 (t_or (t_cmp rfl (e_sl11 te_tup (e_seen rfl rfl rfl rfl W3 ⟨_, rfl, rfl, e_sl11 te_tup (e_dueI te_baseOk rfl rfl W6.mem (by lia) e1 i1 (e_name rfl ⟨rfl, rfl⟩) ⟨_, rfl, rfl, o_neSD11 D1 (fun p hp => hp) rfl Wc rfl (bif_f (t_or0 (bif_f ?_)))⟩)⟩))))
        refine z_nil (z_expr rfl (te_m rfl rfl rfl rfl (te_jc (step_a (W6.rg hsa rfl rfl rfl hpre) W3 (by have := Wc.st; show cf.st < 6; lia) hd1 ?_))))
        refine z_nil (z_end ⟨rfl, hsl, _, rfl, R2.snoc gg⟩)
      ·refine bif_F (beq_eq_false_iff_ne.mpr fun z => h12 (Int.ofNat.inj z)) (bif_f (x_nil ⟨rfl, hsl, _, rfl, R2⟩))
     case c2 =>
      intro l' S' zf26
      refine xAEA zf26 fun hsl c2 zq3 R3 => ?_
      subst zq3
      refine z_sub hsl (z_letE (os_n te_tup) rfl rfl rfl ?_)
      have W3 := R3.wf W5.rok (take_ok htok _) (init_wf W5.hla)
      refine z_if (t_or (e_run (E := ⟨txt.take (ws.getD i 0), false, ne', c2⟩) rfl rfl rfl (W6.rg hsa rfl rfl rfl hpre) W3 fun c5 R5 g5 => ?_))
      have R6 := R3.trans R5
      have W7 := R6.wf W5.rok (take_ok htok _) (init_wf W5.hla)
      refine xEEEEAA (W6.due (ws.getD i 0) (by lia)) fun v1 ou1 er1 g1' e1 i1 D1 => ?_
      cases D1.re.det D1.st R6 g5
      refine bif_F (R6.done_f rfl) (t_or (t_cmp rfl (e_seen rfl rfl rfl rfl W7 (e_dueI te_baseOk rfl rfl W6.mem (by lia) e1 i1 (e_name rfl ⟨rfl, rfl⟩) (o_neSD D1 (fun p hp => hp) rfl W7 rfl (bif_f (t_or0 (bif_f ?_))))))))
      refine z_nil (z_nil (z_end (hk () _ _ ⟨ne', _, rfl, hne2, R6, g5⟩ (.of rfl))))
    case dn =>
     intro _ S hJ
     rw [List.length_map] at hJ
     rw [List.length_map]
     refine xEEAAA hJ fun ne cf zq4 hne R1 g1 => ?_
     subst zq4
     rw [hWO.last, take_all W5.len] at R1 g1
     rw [hWO.last, take_all W5.len]
     have Wc := R1.wf W5.rok htok (init_wf W5.hla)
     have R2 : Reach (fun k => rs.getD k r0) txt true (initC la) (unwait cf) := R1.ext (List.prefix_refl _) rfl
     have W2 := unwait_wfJ Wc
     refine zk_n ?_
     refine z_expr rfl (e_meth0 (dd := 5) rfl rfl (te_meth (s_meth (fm_359_end _) (fn_229 _) (by k_get))) (kp_229 _) rfl (end_a ?_))
     refine z_if (t_or (t_cmp rfl (te_m rfl rfl rfl rfl (te_jc (run_a (W5.rg hsa rfl rfl rfl (List.prefix_refl _)) W2 fun c5 R5 g5 => ?_)))))
     have R6 := R2.trans R5
     have W7 := R6.wf W5.rok htok (init_wf W5.hla)
     have D1 := W5.whole
     cases D1.re.det D1.st R6 g5
     refine e_sub (e_name rfl (e_int (o_tI (k := 13) rfl rfl rfl ?_)))
     refine o_neBB rfl rfl (bif_f (t_or (t_cmp rfl (e_seen rfl rfl rfl rfl W7 (e_name rfl (o_neSD D1 (fun p hp => hp) rfl W7 rfl (bif_f (t_or0 (bif_f ?_)))))))))
     refine z_nil (z_nil (z_end ⟨rfl, .of rfl⟩)))
end Mine
end
end
theorem PySem.Challenge.cw_nt0602_01_holds : PySem.Challenge.rw_nt0602_01.Holds := by
 exact Mine.law_all
