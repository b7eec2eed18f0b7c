import PyProof.Rows.All
import Wide.All
import OpenK.AllK
import Wide.FinOn
import PySem.Challenge.RW_pq0008_01
set_option Elab.async false
set_option maxHeartbeats 4000000
set_option maxRecDepth 100000
set_option linter.unusedVariables false
set_option linter.unusedSimpArgs false
set_option linter.unusedSectionVars false
set_option compiler.extract_closed false
set_option bootstrap.genMatcherCode false
open PySem PySem.W PySem.Calls PySem.Spec PyProof.Rows
namespace Mine
theorem both {A B C D E F : Prop} (h : A → B → C → D → E → F) (k : (A ∧ B ∧ C ∧ D) ∧ E) : F := h k.1.1 k.1.2.1 k.1.2.2.1 k.1.2.2.2 k.2
noncomputable def sndOf {A B C : Prop} (_ : A ∧ B → C) : Prop := B
noncomputable def pickS (l : List Stmt) (is : List Nat) : List Stmt := is.filterMap (l[·]?)
noncomputable def hd.view_39 : Program := { PySem.Challenge.pw_pq0008_01 with main := { PySem.Challenge.pw_pq0008_01.main with body := pickS PySem.Challenge.pw_pq0008_01.main.body [0,2,3,4,6,7,8,10,12,14,15,17,18,19,20,21] } }
section
local macro_rules | `(tactic| w_witness2) => `(tactic| exact True.intro)
local macro_rules | `(tactic| o_head ($ff $k $a $ee)) => `(tactic| (refine (fun (_ : True) => both (fun hl sd ok hp hc => holds_open (q := hd.view_39) (loose := []) (Xt := fun s => xlAt hd.view_39 [] s && recOk (RowW.records (OpenRow.toRowW PySem.Challenge.rw_pq0008_01.row)) s) (XP := XL hd.view_39 []) (Yf := Hook.obs ($ff $k $a (fun _ => by rfl))) (Ya := Hook.val ($ff $k $a (fun _ => by rfl))) (YP := Hook.says ($ff $k $a (fun _ => by rfl))) (N := 6646) hl (Hook.of ($ff $k $a (fun _ => by rfl))) (Hook.keeps ($ff $k $a (fun _ => by rfl))) (fun s e => xl_of s (Bool.and_eq_true_iff.mp e).1) XL.keeps (by rfl) (by rfl) (by rfl) (fun s e => recFacts_of (Bool.and_eq_true_iff.mp e).2) (by rfl) sd ok ⟨rfl, rfl, rfl, rfl, rfl, by decide +kernel⟩ hp hc) ?hboth) ?hw))
set_option maxRecDepth 100000 in
set_option maxHeartbeats 8000000 in
open_top hd for PySem.Challenge.rw_pq0008_01.row
end
end Mine
namespace Mine
local macro_rules | `(tactic| omega) => `(tactic| first | lia | omega (config := {}))
section
--FILE JL
theorem x0_2 {A0 A1 P : Prop} (h : A0 ∧ A1) (k : A0 → A1 → P) : P := k h.1 h.2
theorem x0_3 {A0 A1 A2 P : Prop} (h : A0 ∧ A1 ∧ A2) (k : A0 → A1 → A2 → P) : P := x0_2 h.2 (k h.1)
theorem x0_4 {A0 A1 A2 A3 P : Prop} (h : A0 ∧ A1 ∧ A2 ∧ A3) (k : A0 → A1 → A2 → A3 → P) : P := x0_3 h.2 (k h.1)
theorem x0_5 {A0 A1 A2 A3 A4 P : Prop} (h : A0 ∧ A1 ∧ A2 ∧ A3 ∧ A4) (k : A0 → A1 → A2 → A3 → A4 → P) : P := x0_4 h.2 (k h.1)
theorem x0_6 {A0 A1 A2 A3 A4 A5 P : Prop} (h : A0 ∧ A1 ∧ A2 ∧ A3 ∧ A4 ∧ A5) (k : A0 → A1 → A2 → A3 → A4 → A5 → P) : P := x0_5 h.2 (k h.1)
theorem x0_7 {A0 A1 A2 A3 A4 A5 A6 P : Prop} (h : A0 ∧ A1 ∧ A2 ∧ A3 ∧ A4 ∧ A5 ∧ A6) (k : A0 → A1 → A2 → A3 → A4 → A5 → A6 → P) : P := x0_6 h.2 (k h.1)
theorem x0_8 {A0 A1 A2 A3 A4 A5 A6 A7 P : Prop} (h : A0 ∧ A1 ∧ A2 ∧ A3 ∧ A4 ∧ A5 ∧ A6 ∧ A7) (k : A0 → A1 → A2 → A3 → A4 → A5 → A6 → A7 → P) : P := x0_7 h.2 (k h.1)
theorem x0_9 {A0 A1 A2 A3 A4 A5 A6 A7 A8 P : Prop} (h : A0 ∧ A1 ∧ A2 ∧ A3 ∧ A4 ∧ A5 ∧ A6 ∧ A7 ∧ A8) (k : A0 → A1 → A2 → A3 → A4 → A5 → A6 → A7 → A8 → P) : P := x0_8 h.2 (k h.1)
theorem x0_10 {A0 A1 A2 A3 A4 A5 A6 A7 A8 A9 P : Prop} (h : A0 ∧ A1 ∧ A2 ∧ A3 ∧ A4 ∧ A5 ∧ A6 ∧ A7 ∧ A8 ∧ A9) (k : A0 → A1 → A2 → A3 → A4 → A5 → A6 → A7 → A8 → A9 → P) : P := x0_9 h.2 (k h.1)
theorem x0_11 {A0 A1 A2 A3 A4 A5 A6 A7 A8 A9 A10 P : Prop} (h : A0 ∧ A1 ∧ A2 ∧ A3 ∧ A4 ∧ A5 ∧ A6 ∧ A7 ∧ A8 ∧ A9 ∧ A10) (k : A0 → A1 → A2 → A3 → A4 → A5 → A6 → A7 → A8 → A9 → A10 → P) : P := x0_10 h.2 (k h.1)
theorem x0_12 {A0 A1 A2 A3 A4 A5 A6 A7 A8 A9 A10 A11 P : Prop} (h : A0 ∧ A1 ∧ A2 ∧ A3 ∧ A4 ∧ A5 ∧ A6 ∧ A7 ∧ A8 ∧ A9 ∧ A10 ∧ A11) (k : A0 → A1 → A2 → A3 → A4 → A5 → A6 → A7 → A8 → A9 → A10 → A11 → P) : P := x0_11 h.2 (k h.1)
theorem x0_13 {A0 A1 A2 A3 A4 A5 A6 A7 A8 A9 A10 A11 A12 P : Prop} (h : A0 ∧ A1 ∧ A2 ∧ A3 ∧ A4 ∧ A5 ∧ A6 ∧ A7 ∧ A8 ∧ A9 ∧ A10 ∧ A11 ∧ A12) (k : A0 → A1 → A2 → A3 → A4 → A5 → A6 → A7 → A8 → A9 → A10 → A11 → A12 → P) : P := x0_12 h.2 (k h.1)
theorem x0_14 {A0 A1 A2 A3 A4 A5 A6 A7 A8 A9 A10 A11 A12 A13 P : Prop} (h : A0 ∧ A1 ∧ A2 ∧ A3 ∧ A4 ∧ A5 ∧ A6 ∧ A7 ∧ A8 ∧ A9 ∧ A10 ∧ A11 ∧ A12 ∧ A13) (k : A0 → A1 → A2 → A3 → A4 → A5 → A6 → A7 → A8 → A9 → A10 → A11 → A12 → A13 → P) : P := x0_13 h.2 (k h.1)
theorem x1_1 {a0 : Sort _} {A0 : a0 → Prop} {P : Prop} (h : ∃ x0, A0 x0) (k : ∀ x0, A0 x0 → P) : P := h.elim k
theorem x2_1 {a0 a1 : Sort _} {A0 : a0 → a1 → Prop} {P : Prop} (h : ∃ x0 x1, A0 x0 x1) (k : ∀ x0 x1, A0 x0 x1 → P) : P := h.elim fun x0 h => x1_1 h (k x0)
theorem x3_1 {a0 a1 a2 : Sort _} {A0 : a0 → a1 → a2 → Prop} {P : Prop} (h : ∃ x0 x1 x2, A0 x0 x1 x2) (k : ∀ x0 x1 x2, A0 x0 x1 x2 → P) : P := h.elim fun x0 h => x2_1 h (k x0)
theorem x4_1 {a0 a1 a2 a3 : Sort _} {A0 : a0 → a1 → a2 → a3 → Prop} {P : Prop} (h : ∃ x0 x1 x2 x3, A0 x0 x1 x2 x3) (k : ∀ x0 x1 x2 x3, A0 x0 x1 x2 x3 → P) : P := h.elim fun x0 h => x3_1 h (k x0)
theorem x5_1 {a0 a1 a2 a3 a4 : Sort _} {A0 : a0 → a1 → a2 → a3 → a4 → Prop} {P : Prop} (h : ∃ x0 x1 x2 x3 x4, A0 x0 x1 x2 x3 x4) (k : ∀ x0 x1 x2 x3 x4, A0 x0 x1 x2 x3 x4 → P) : P := h.elim fun x0 h => x4_1 h (k x0)
theorem x6_1 {a0 a1 a2 a3 a4 a5 : Sort _} {A0 : a0 → a1 → a2 → a3 → a4 → a5 → Prop} {P : Prop} (h : ∃ x0 x1 x2 x3 x4 x5, A0 x0 x1 x2 x3 x4 x5) (k : ∀ x0 x1 x2 x3 x4 x5, A0 x0 x1 x2 x3 x4 x5 → P) : P := h.elim fun x0 h => x5_1 h (k x0)
theorem x7_1 {a0 a1 a2 a3 a4 a5 a6 : Sort _} {A0 : a0 → a1 → a2 → a3 → a4 → a5 → a6 → Prop} {P : Prop} (h : ∃ x0 x1 x2 x3 x4 x5 x6, A0 x0 x1 x2 x3 x4 x5 x6) (k : ∀ x0 x1 x2 x3 x4 x5 x6, A0 x0 x1 x2 x3 x4 x5 x6 → P) : P := h.elim fun x0 h => x6_1 h (k x0)
theorem x1_2 {a0 : Sort _} {A0 A1 : a0 → Prop} {P : Prop} (h : ∃ x0, A0 x0 ∧ A1 x0) (k : ∀ x0, A0 x0 → A1 x0 → P) : P := x1_1 h fun x0 h => x0_2 h (k x0)
theorem x1_3 {a0 : Sort _} {A0 A1 A2 : a0 → Prop} {P : Prop} (h : ∃ x0, A0 x0 ∧ A1 x0 ∧ A2 x0) (k : ∀ x0, A0 x0 → A1 x0 → A2 x0 → P) : P := x1_1 h fun x0 h => x0_3 h (k x0)
theorem x1_4 {a0 : Sort _} {A0 A1 A2 A3 : a0 → Prop} {P : Prop} (h : ∃ x0, A0 x0 ∧ A1 x0 ∧ A2 x0 ∧ A3 x0) (k : ∀ x0, A0 x0 → A1 x0 → A2 x0 → A3 x0 → P) : P := x1_1 h fun x0 h => x0_4 h (k x0)
theorem x2_2 {a0 a1 : Sort _} {A0 A1 : a0 → a1 → Prop} {P : Prop} (h : ∃ x0 x1, A0 x0 x1 ∧ A1 x0 x1) (k : ∀ x0 x1, A0 x0 x1 → A1 x0 x1 → P) : P := x2_1 h fun x0 x1 h => x0_2 h (k x0 x1)
theorem x2_3 {a0 a1 : Sort _} {A0 A1 A2 : a0 → a1 → Prop} {P : Prop} (h : ∃ x0 x1, A0 x0 x1 ∧ A1 x0 x1 ∧ A2 x0 x1) (k : ∀ x0 x1, A0 x0 x1 → A1 x0 x1 → A2 x0 x1 → P) : P := x2_1 h fun x0 x1 h => x0_3 h (k x0 x1)
theorem x2_4 {a0 a1 : Sort _} {A0 A1 A2 A3 : a0 → a1 → Prop} {P : Prop} (h : ∃ x0 x1, A0 x0 x1 ∧ A1 x0 x1 ∧ A2 x0 x1 ∧ A3 x0 x1) (k : ∀ x0 x1, A0 x0 x1 → A1 x0 x1 → A2 x0 x1 → A3 x0 x1 → P) : P := x2_1 h fun x0 x1 h => x0_4 h (k x0 x1)
theorem x2_5 {a0 a1 : Sort _} {A0 A1 A2 A3 A4 : a0 → a1 → Prop} {P : Prop} (h : ∃ x0 x1, A0 x0 x1 ∧ A1 x0 x1 ∧ A2 x0 x1 ∧ A3 x0 x1 ∧ A4 x0 x1) (k : ∀ x0 x1, A0 x0 x1 → A1 x0 x1 → A2 x0 x1 → A3 x0 x1 → A4 x0 x1 → P) : P := x2_1 h fun x0 x1 h => x0_5 h (k x0 x1)
theorem x2_6 {a0 a1 : Sort _} {A0 A1 A2 A3 A4 A5 : a0 → a1 → Prop} {P : Prop} (h : ∃ x0 x1, A0 x0 x1 ∧ A1 x0 x1 ∧ A2 x0 x1 ∧ A3 x0 x1 ∧ A4 x0 x1 ∧ A5 x0 x1) (k : ∀ x0 x1, A0 x0 x1 → A1 x0 x1 → A2 x0 x1 → A3 x0 x1 → A4 x0 x1 → A5 x0 x1 → P) : P := x2_1 h fun x0 x1 h => x0_6 h (k x0 x1)
theorem x2_7 {a0 a1 : Sort _} {A0 A1 A2 A3 A4 A5 A6 : a0 → a1 → Prop} {P : Prop} (h : ∃ x0 x1, A0 x0 x1 ∧ A1 x0 x1 ∧ A2 x0 x1 ∧ A3 x0 x1 ∧ A4 x0 x1 ∧ A5 x0 x1 ∧ A6 x0 x1) (k : ∀ x0 x1, A0 x0 x1 → A1 x0 x1 → A2 x0 x1 → A3 x0 x1 → A4 x0 x1 → A5 x0 x1 → A6 x0 x1 → P) : P := x2_1 h fun x0 x1 h => x0_7 h (k x0 x1)
theorem x2_10 {a0 a1 : Sort _} {A0 A1 A2 A3 A4 A5 A6 A7 A8 A9 : a0 → a1 → Prop} {P : Prop} (h : ∃ x0 x1, A0 x0 x1 ∧ A1 x0 x1 ∧ A2 x0 x1 ∧ A3 x0 x1 ∧ A4 x0 x1 ∧ A5 x0 x1 ∧ A6 x0 x1 ∧ A7 x0 x1 ∧ A8 x0 x1 ∧ A9 x0 x1) (k : ∀ x0 x1, A0 x0 x1 → A1 x0 x1 → A2 x0 x1 → A3 x0 x1 → A4 x0 x1 → A5 x0 x1 → A6 x0 x1 → A7 x0 x1 → A8 x0 x1 → A9 x0 x1 → P) : P := x2_1 h fun x0 x1 h => x0_10 h (k x0 x1)
theorem x3_2 {a0 a1 a2 : Sort _} {A0 A1 : a0 → a1 → a2 → Prop} {P : Prop} (h : ∃ x0 x1 x2, A0 x0 x1 x2 ∧ A1 x0 x1 x2) (k : ∀ x0 x1 x2, A0 x0 x1 x2 → A1 x0 x1 x2 → P) : P := x3_1 h fun x0 x1 x2 h => x0_2 h (k x0 x1 x2)
theorem x3_3 {a0 a1 a2 : Sort _} {A0 A1 A2 : a0 → a1 → a2 → Prop} {P : Prop} (h : ∃ x0 x1 x2, A0 x0 x1 x2 ∧ A1 x0 x1 x2 ∧ A2 x0 x1 x2) (k : ∀ x0 x1 x2, A0 x0 x1 x2 → A1 x0 x1 x2 → A2 x0 x1 x2 → P) : P := x3_1 h fun x0 x1 x2 h => x0_3 h (k x0 x1 x2)
theorem x3_4 {a0 a1 a2 : Sort _} {A0 A1 A2 A3 : a0 → a1 → a2 → Prop} {P : Prop} (h : ∃ x0 x1 x2, A0 x0 x1 x2 ∧ A1 x0 x1 x2 ∧ A2 x0 x1 x2 ∧ A3 x0 x1 x2) (k : ∀ x0 x1 x2, A0 x0 x1 x2 → A1 x0 x1 x2 → A2 x0 x1 x2 → A3 x0 x1 x2 → P) : P := x3_1 h fun x0 x1 x2 h => x0_4 h (k x0 x1 x2)
theorem x3_5 {a0 a1 a2 : Sort _} {A0 A1 A2 A3 A4 : a0 → a1 → a2 → Prop} {P : Prop} (h : ∃ x0 x1 x2, A0 x0 x1 x2 ∧ A1 x0 x1 x2 ∧ A2 x0 x1 x2 ∧ A3 x0 x1 x2 ∧ A4 x0 x1 x2) (k : ∀ x0 x1 x2, A0 x0 x1 x2 → A1 x0 x1 x2 → A2 x0 x1 x2 → A3 x0 x1 x2 → A4 x0 x1 x2 → P) : P := x3_1 h fun x0 x1 x2 h => x0_5 h (k x0 x1 x2)
theorem x3_6 {a0 a1 a2 : Sort _} {A0 A1 A2 A3 A4 A5 : a0 → a1 → a2 → Prop} {P : Prop} (h : ∃ x0 x1 x2, A0 x0 x1 x2 ∧ A1 x0 x1 x2 ∧ A2 x0 x1 x2 ∧ A3 x0 x1 x2 ∧ A4 x0 x1 x2 ∧ A5 x0 x1 x2) (k : ∀ x0 x1 x2, A0 x0 x1 x2 → A1 x0 x1 x2 → A2 x0 x1 x2 → A3 x0 x1 x2 → A4 x0 x1 x2 → A5 x0 x1 x2 → P) : P := x3_1 h fun x0 x1 x2 h => x0_6 h (k x0 x1 x2)
theorem x4_2 {a0 a1 a2 a3 : Sort _} {A0 A1 : a0 → a1 → a2 → a3 → Prop} {P : Prop} (h : ∃ x0 x1 x2 x3, A0 x0 x1 x2 x3 ∧ A1 x0 x1 x2 x3) (k : ∀ x0 x1 x2 x3, A0 x0 x1 x2 x3 → A1 x0 x1 x2 x3 → P) : P := x4_1 h fun x0 x1 x2 x3 h => x0_2 h (k x0 x1 x2 x3)
theorem x4_3 {a0 a1 a2 a3 : Sort _} {A0 A1 A2 : a0 → a1 → a2 → a3 → Prop} {P : Prop} (h : ∃ x0 x1 x2 x3, A0 x0 x1 x2 x3 ∧ A1 x0 x1 x2 x3 ∧ A2 x0 x1 x2 x3) (k : ∀ x0 x1 x2 x3, A0 x0 x1 x2 x3 → A1 x0 x1 x2 x3 → A2 x0 x1 x2 x3 → P) : P := x4_1 h fun x0 x1 x2 x3 h => x0_3 h (k x0 x1 x2 x3)
theorem x4_4 {a0 a1 a2 a3 : Sort _} {A0 A1 A2 A3 : a0 → a1 → a2 → a3 → Prop} {P : Prop} (h : ∃ x0 x1 x2 x3, A0 x0 x1 x2 x3 ∧ A1 x0 x1 x2 x3 ∧ A2 x0 x1 x2 x3 ∧ A3 x0 x1 x2 x3) (k : ∀ x0 x1 x2 x3, A0 x0 x1 x2 x3 → A1 x0 x1 x2 x3 → A2 x0 x1 x2 x3 → A3 x0 x1 x2 x3 → P) : P := x4_1 h fun x0 x1 x2 x3 h => x0_4 h (k x0 x1 x2 x3)
theorem x4_5 {a0 a1 a2 a3 : Sort _} {A0 A1 A2 A3 A4 : a0 → a1 → a2 → a3 → Prop} {P : Prop} (h : ∃ x0 x1 x2 x3, A0 x0 x1 x2 x3 ∧ A1 x0 x1 x2 x3 ∧ A2 x0 x1 x2 x3 ∧ A3 x0 x1 x2 x3 ∧ A4 x0 x1 x2 x3) (k : ∀ x0 x1 x2 x3, A0 x0 x1 x2 x3 → A1 x0 x1 x2 x3 → A2 x0 x1 x2 x3 → A3 x0 x1 x2 x3 → A4 x0 x1 x2 x3 → P) : P := x4_1 h fun x0 x1 x2 x3 h => x0_5 h (k x0 x1 x2 x3)
theorem x4_6 {a0 a1 a2 a3 : Sort _} {A0 A1 A2 A3 A4 A5 : a0 → a1 → a2 → a3 → Prop} {P : Prop} (h : ∃ x0 x1 x2 x3, A0 x0 x1 x2 x3 ∧ A1 x0 x1 x2 x3 ∧ A2 x0 x1 x2 x3 ∧ A3 x0 x1 x2 x3 ∧ A4 x0 x1 x2 x3 ∧ A5 x0 x1 x2 x3) (k : ∀ x0 x1 x2 x3, A0 x0 x1 x2 x3 → A1 x0 x1 x2 x3 → A2 x0 x1 x2 x3 → A3 x0 x1 x2 x3 → A4 x0 x1 x2 x3 → A5 x0 x1 x2 x3 → P) : P := x4_1 h fun x0 x1 x2 x3 h => x0_6 h (k x0 x1 x2 x3)
theorem x4_7 {a0 a1 a2 a3 : Sort _} {A0 A1 A2 A3 A4 A5 A6 : a0 → a1 → a2 → a3 → Prop} {P : Prop} (h : ∃ x0 x1 x2 x3, A0 x0 x1 x2 x3 ∧ A1 x0 x1 x2 x3 ∧ A2 x0 x1 x2 x3 ∧ A3 x0 x1 x2 x3 ∧ A4 x0 x1 x2 x3 ∧ A5 x0 x1 x2 x3 ∧ A6 x0 x1 x2 x3) (k : ∀ x0 x1 x2 x3, A0 x0 x1 x2 x3 → A1 x0 x1 x2 x3 → A2 x0 x1 x2 x3 → A3 x0 x1 x2 x3 → A4 x0 x1 x2 x3 → A5 x0 x1 x2 x3 → A6 x0 x1 x2 x3 → P) : P := x4_1 h fun x0 x1 x2 x3 h => x0_7 h (k x0 x1 x2 x3)
theorem x4_8 {a0 a1 a2 a3 : Sort _} {A0 A1 A2 A3 A4 A5 A6 A7 : a0 → a1 → a2 → a3 → Prop} {P : Prop} (h : ∃ x0 x1 x2 x3, A0 x0 x1 x2 x3 ∧ A1 x0 x1 x2 x3 ∧ A2 x0 x1 x2 x3 ∧ A3 x0 x1 x2 x3 ∧ A4 x0 x1 x2 x3 ∧ A5 x0 x1 x2 x3 ∧ A6 x0 x1 x2 x3 ∧ A7 x0 x1 x2 x3) (k : ∀ x0 x1 x2 x3, A0 x0 x1 x2 x3 → A1 x0 x1 x2 x3 → A2 x0 x1 x2 x3 → A3 x0 x1 x2 x3 → A4 x0 x1 x2 x3 → A5 x0 x1 x2 x3 → A6 x0 x1 x2 x3 → A7 x0 x1 x2 x3 → P) : P := x4_1 h fun x0 x1 x2 x3 h => x0_8 h (k x0 x1 x2 x3)
theorem x5_2 {a0 a1 a2 a3 a4 : Sort _} {A0 A1 : a0 → a1 → a2 → a3 → a4 → Prop} {P : Prop} (h : ∃ x0 x1 x2 x3 x4, A0 x0 x1 x2 x3 x4 ∧ A1 x0 x1 x2 x3 x4) (k : ∀ x0 x1 x2 x3 x4, A0 x0 x1 x2 x3 x4 → A1 x0 x1 x2 x3 x4 → P) : P := x5_1 h fun x0 x1 x2 x3 x4 h => x0_2 h (k x0 x1 x2 x3 x4)
theorem x5_4 {a0 a1 a2 a3 a4 : Sort _} {A0 A1 A2 A3 : a0 → a1 → a2 → a3 → a4 → Prop} {P : Prop} (h : ∃ x0 x1 x2 x3 x4, A0 x0 x1 x2 x3 x4 ∧ A1 x0 x1 x2 x3 x4 ∧ A2 x0 x1 x2 x3 x4 ∧ A3 x0 x1 x2 x3 x4) (k : ∀ x0 x1 x2 x3 x4, A0 x0 x1 x2 x3 x4 → A1 x0 x1 x2 x3 x4 → A2 x0 x1 x2 x3 x4 → A3 x0 x1 x2 x3 x4 → P) : P := x5_1 h fun x0 x1 x2 x3 x4 h => x0_4 h (k x0 x1 x2 x3 x4)
theorem x5_5 {a0 a1 a2 a3 a4 : Sort _} {A0 A1 A2 A3 A4 : a0 → a1 → a2 → a3 → a4 → Prop} {P : Prop} (h : ∃ x0 x1 x2 x3 x4, A0 x0 x1 x2 x3 x4 ∧ A1 x0 x1 x2 x3 x4 ∧ A2 x0 x1 x2 x3 x4 ∧ A3 x0 x1 x2 x3 x4 ∧ A4 x0 x1 x2 x3 x4) (k : ∀ x0 x1 x2 x3 x4, A0 x0 x1 x2 x3 x4 → A1 x0 x1 x2 x3 x4 → A2 x0 x1 x2 x3 x4 → A3 x0 x1 x2 x3 x4 → A4 x0 x1 x2 x3 x4 → P) : P := x5_1 h fun x0 x1 x2 x3 x4 h => x0_5 h (k x0 x1 x2 x3 x4)
theorem x5_6 {a0 a1 a2 a3 a4 : Sort _} {A0 A1 A2 A3 A4 A5 : a0 → a1 → a2 → a3 → a4 → Prop} {P : Prop} (h : ∃ x0 x1 x2 x3 x4, A0 x0 x1 x2 x3 x4 ∧ A1 x0 x1 x2 x3 x4 ∧ A2 x0 x1 x2 x3 x4 ∧ A3 x0 x1 x2 x3 x4 ∧ A4 x0 x1 x2 x3 x4 ∧ A5 x0 x1 x2 x3 x4) (k : ∀ x0 x1 x2 x3 x4, A0 x0 x1 x2 x3 x4 → A1 x0 x1 x2 x3 x4 → A2 x0 x1 x2 x3 x4 → A3 x0 x1 x2 x3 x4 → A4 x0 x1 x2 x3 x4 → A5 x0 x1 x2 x3 x4 → P) : P := x5_1 h fun x0 x1 x2 x3 x4 h => x0_6 h (k x0 x1 x2 x3 x4)
theorem x5_14 {a0 a1 a2 a3 a4 : Sort _} {A0 A1 A2 A3 A4 A5 A6 A7 A8 A9 A10 A11 A12 A13 : a0 → a1 → a2 → a3 → a4 → Prop} {P : Prop} (h : ∃ x0 x1 x2 x3 x4, A0 x0 x1 x2 x3 x4 ∧ A1 x0 x1 x2 x3 x4 ∧ A2 x0 x1 x2 x3 x4 ∧ A3 x0 x1 x2 x3 x4 ∧ A4 x0 x1 x2 x3 x4 ∧ A5 x0 x1 x2 x3 x4 ∧ A6 x0 x1 x2 x3 x4 ∧ A7 x0 x1 x2 x3 x4 ∧ A8 x0 x1 x2 x3 x4 ∧ A9 x0 x1 x2 x3 x4 ∧ A10 x0 x1 x2 x3 x4 ∧ A11 x0 x1 x2 x3 x4 ∧ A12 x0 x1 x2 x3 x4 ∧ A13 x0 x1 x2 x3 x4) (k : ∀ x0 x1 x2 x3 x4, A0 x0 x1 x2 x3 x4 → A1 x0 x1 x2 x3 x4 → A2 x0 x1 x2 x3 x4 → A3 x0 x1 x2 x3 x4 → A4 x0 x1 x2 x3 x4 → A5 x0 x1 x2 x3 x4 → A6 x0 x1 x2 x3 x4 → A7 x0 x1 x2 x3 x4 → A8 x0 x1 x2 x3 x4 → A9 x0 x1 x2 x3 x4 → A10 x0 x1 x2 x3 x4 → A11 x0 x1 x2 x3 x4 → A12 x0 x1 x2 x3 x4 → A13 x0 x1 x2 x3 x4 → P) : P := x5_1 h fun x0 x1 x2 x3 x4 h => x0_14 h (k x0 x1 x2 x3 x4)
theorem x6_6 {a0 a1 a2 a3 a4 a5 : Sort _} {A0 A1 A2 A3 A4 A5 : a0 → a1 → a2 → a3 → a4 → a5 → Prop} {P : Prop} (h : ∃ x0 x1 x2 x3 x4 x5, A0 x0 x1 x2 x3 x4 x5 ∧ A1 x0 x1 x2 x3 x4 x5 ∧ A2 x0 x1 x2 x3 x4 x5 ∧ A3 x0 x1 x2 x3 x4 x5 ∧ A4 x0 x1 x2 x3 x4 x5 ∧ A5 x0 x1 x2 x3 x4 x5) (k : ∀ x0 x1 x2 x3 x4 x5, A0 x0 x1 x2 x3 x4 x5 → A1 x0 x1 x2 x3 x4 x5 → A2 x0 x1 x2 x3 x4 x5 → A3 x0 x1 x2 x3 x4 x5 → A4 x0 x1 x2 x3 x4 x5 → A5 x0 x1 x2 x3 x4 x5 → P) : P := x6_1 h fun x0 x1 x2 x3 x4 x5 h => x0_6 h (k x0 x1 x2 x3 x4 x5)
theorem x6_7 {a0 a1 a2 a3 a4 a5 : Sort _} {A0 A1 A2 A3 A4 A5 A6 : a0 → a1 → a2 → a3 → a4 → a5 → Prop} {P : Prop} (h : ∃ x0 x1 x2 x3 x4 x5, A0 x0 x1 x2 x3 x4 x5 ∧ A1 x0 x1 x2 x3 x4 x5 ∧ A2 x0 x1 x2 x3 x4 x5 ∧ A3 x0 x1 x2 x3 x4 x5 ∧ A4 x0 x1 x2 x3 x4 x5 ∧ A5 x0 x1 x2 x3 x4 x5 ∧ A6 x0 x1 x2 x3 x4 x5) (k : ∀ x0 x1 x2 x3 x4 x5, A0 x0 x1 x2 x3 x4 x5 → A1 x0 x1 x2 x3 x4 x5 → A2 x0 x1 x2 x3 x4 x5 → A3 x0 x1 x2 x3 x4 x5 → A4 x0 x1 x2 x3 x4 x5 → A5 x0 x1 x2 x3 x4 x5 → A6 x0 x1 x2 x3 x4 x5 → P) : P := x6_1 h fun x0 x1 x2 x3 x4 x5 h => x0_7 h (k x0 x1 x2 x3 x4 x5)
theorem x7_3 {a0 a1 a2 a3 a4 a5 a6 : Sort _} {A0 A1 A2 : a0 → a1 → a2 → a3 → a4 → a5 → a6 → Prop} {P : Prop} (h : ∃ x0 x1 x2 x3 x4 x5 x6, A0 x0 x1 x2 x3 x4 x5 x6 ∧ A1 x0 x1 x2 x3 x4 x5 x6 ∧ A2 x0 x1 x2 x3 x4 x5 x6) (k : ∀ x0 x1 x2 x3 x4 x5 x6, A0 x0 x1 x2 x3 x4 x5 x6 → A1 x0 x1 x2 x3 x4 x5 x6 → A2 x0 x1 x2 x3 x4 x5 x6 → P) : P := x7_1 h fun x0 x1 x2 x3 x4 x5 x6 h => x0_3 h (k x0 x1 x2 x3 x4 x5 x6)
theorem x7_5 {a0 a1 a2 a3 a4 a5 a6 : Sort _} {A0 A1 A2 A3 A4 : a0 → a1 → a2 → a3 → a4 → a5 → a6 → Prop} {P : Prop} (h : ∃ x0 x1 x2 x3 x4 x5 x6, A0 x0 x1 x2 x3 x4 x5 x6 ∧ A1 x0 x1 x2 x3 x4 x5 x6 ∧ A2 x0 x1 x2 x3 x4 x5 x6 ∧ A3 x0 x1 x2 x3 x4 x5 x6 ∧ A4 x0 x1 x2 x3 x4 x5 x6) (k : ∀ x0 x1 x2 x3 x4 x5 x6, A0 x0 x1 x2 x3 x4 x5 x6 → A1 x0 x1 x2 x3 x4 x5 x6 → A2 x0 x1 x2 x3 x4 x5 x6 → A3 x0 x1 x2 x3 x4 x5 x6 → A4 x0 x1 x2 x3 x4 x5 x6 → P) : P := x7_1 h fun x0 x1 x2 x3 x4 x5 x6 h => x0_5 h (k x0 x1 x2 x3 x4 x5 x6)
theorem x7_7 {a0 a1 a2 a3 a4 a5 a6 : Sort _} {A0 A1 A2 A3 A4 A5 A6 : a0 → a1 → a2 → a3 → a4 → a5 → a6 → Prop} {P : Prop} (h : ∃ x0 x1 x2 x3 x4 x5 x6, A0 x0 x1 x2 x3 x4 x5 x6 ∧ A1 x0 x1 x2 x3 x4 x5 x6 ∧ A2 x0 x1 x2 x3 x4 x5 x6 ∧ A3 x0 x1 x2 x3 x4 x5 x6 ∧ A4 x0 x1 x2 x3 x4 x5 x6 ∧ A5 x0 x1 x2 x3 x4 x5 x6 ∧ A6 x0 x1 x2 x3 x4 x5 x6) (k : ∀ x0 x1 x2 x3 x4 x5 x6, A0 x0 x1 x2 x3 x4 x5 x6 → A1 x0 x1 x2 x3 x4 x5 x6 → A2 x0 x1 x2 x3 x4 x5 x6 → A3 x0 x1 x2 x3 x4 x5 x6 → A4 x0 x1 x2 x3 x4 x5 x6 → A5 x0 x1 x2 x3 x4 x5 x6 → A6 x0 x1 x2 x3 x4 x5 x6 → P) : P := x7_1 h fun x0 x1 x2 x3 x4 x5 x6 h => x0_7 h (k x0 x1 x2 x3 x4 x5 x6)
theorem x7_10 {a0 a1 a2 a3 a4 a5 a6 : Sort _} {A0 A1 A2 A3 A4 A5 A6 A7 A8 A9 : a0 → a1 → a2 → a3 → a4 → a5 → a6 → Prop} {P : Prop} (h : ∃ x0 x1 x2 x3 x4 x5 x6, A0 x0 x1 x2 x3 x4 x5 x6 ∧ A1 x0 x1 x2 x3 x4 x5 x6 ∧ A2 x0 x1 x2 x3 x4 x5 x6 ∧ A3 x0 x1 x2 x3 x4 x5 x6 ∧ A4 x0 x1 x2 x3 x4 x5 x6 ∧ A5 x0 x1 x2 x3 x4 x5 x6 ∧ A6 x0 x1 x2 x3 x4 x5 x6 ∧ A7 x0 x1 x2 x3 x4 x5 x6 ∧ A8 x0 x1 x2 x3 x4 x5 x6 ∧ A9 x0 x1 x2 x3 x4 x5 x6) (k : ∀ x0 x1 x2 x3 x4 x5 x6, A0 x0 x1 x2 x3 x4 x5 x6 → A1 x0 x1 x2 x3 x4 x5 x6 → A2 x0 x1 x2 x3 x4 x5 x6 → A3 x0 x1 x2 x3 x4 x5 x6 → A4 x0 x1 x2 x3 x4 x5 x6 → A5 x0 x1 x2 x3 x4 x5 x6 → A6 x0 x1 x2 x3 x4 x5 x6 → A7 x0 x1 x2 x3 x4 x5 x6 → A8 x0 x1 x2 x3 x4 x5 x6 → A9 x0 x1 x2 x3 x4 x5 x6 → P) : P := x7_1 h fun x0 x1 x2 x3 x4 x5 x6 h => x0_10 h (k x0 x1 x2 x3 x4 x5 x6)
theorem x7_11 {a0 a1 a2 a3 a4 a5 a6 : Sort _} {A0 A1 A2 A3 A4 A5 A6 A7 A8 A9 A10 : a0 → a1 → a2 → a3 → a4 → a5 → a6 → Prop} {P : Prop} (h : ∃ x0 x1 x2 x3 x4 x5 x6, A0 x0 x1 x2 x3 x4 x5 x6 ∧ A1 x0 x1 x2 x3 x4 x5 x6 ∧ A2 x0 x1 x2 x3 x4 x5 x6 ∧ A3 x0 x1 x2 x3 x4 x5 x6 ∧ A4 x0 x1 x2 x3 x4 x5 x6 ∧ A5 x0 x1 x2 x3 x4 x5 x6 ∧ A6 x0 x1 x2 x3 x4 x5 x6 ∧ A7 x0 x1 x2 x3 x4 x5 x6 ∧ A8 x0 x1 x2 x3 x4 x5 x6 ∧ A9 x0 x1 x2 x3 x4 x5 x6 ∧ A10 x0 x1 x2 x3 x4 x5 x6) (k : ∀ x0 x1 x2 x3 x4 x5 x6, A0 x0 x1 x2 x3 x4 x5 x6 → A1 x0 x1 x2 x3 x4 x5 x6 → A2 x0 x1 x2 x3 x4 x5 x6 → A3 x0 x1 x2 x3 x4 x5 x6 → A4 x0 x1 x2 x3 x4 x5 x6 → A5 x0 x1 x2 x3 x4 x5 x6 → A6 x0 x1 x2 x3 x4 x5 x6 → A7 x0 x1 x2 x3 x4 x5 x6 → A8 x0 x1 x2 x3 x4 x5 x6 → A9 x0 x1 x2 x3 x4 x5 x6 → A10 x0 x1 x2 x3 x4 x5 x6 → P) : P := x7_1 h fun x0 x1 x2 x3 x4 x5 x6 h => x0_11 h (k x0 x1 x2 x3 x4 x5 x6)
theorem i0_2 {A0 A1 : Prop} (h0 : A0) (h1 : A1) : A0 ∧ A1 := ⟨h0, h1⟩
theorem i0_3 {A0 A1 A2 : Prop} (h0 : A0) (h1 : A1) (h2 : A2) : A0 ∧ A1 ∧ A2 := ⟨h0, i0_2 h1 h2⟩
theorem i0_4 {A0 A1 A2 A3 : Prop} (h0 : A0) (h1 : A1) (h2 : A2) (h3 : A3) : A0 ∧ A1 ∧ A2 ∧ A3 := ⟨h0, i0_3 h1 h2 h3⟩
theorem i0_5 {A0 A1 A2 A3 A4 : Prop} (h0 : A0) (h1 : A1) (h2 : A2) (h3 : A3) (h4 : A4) : A0 ∧ A1 ∧ A2 ∧ A3 ∧ A4 := ⟨h0, i0_4 h1 h2 h3 h4⟩
theorem i0_6 {A0 A1 A2 A3 A4 A5 : Prop} (h0 : A0) (h1 : A1) (h2 : A2) (h3 : A3) (h4 : A4) (h5 : A5) : A0 ∧ A1 ∧ A2 ∧ A3 ∧ A4 ∧ A5 := ⟨h0, i0_5 h1 h2 h3 h4 h5⟩
theorem i0_7 {A0 A1 A2 A3 A4 A5 A6 : Prop} (h0 : A0) (h1 : A1) (h2 : A2) (h3 : A3) (h4 : A4) (h5 : A5) (h6 : A6) : A0 ∧ A1 ∧ A2 ∧ A3 ∧ A4 ∧ A5 ∧ A6 := ⟨h0, i0_6 h1 h2 h3 h4 h5 h6⟩
theorem i0_8 {A0 A1 A2 A3 A4 A5 A6 A7 : Prop} (h0 : A0) (h1 : A1) (h2 : A2) (h3 : A3) (h4 : A4) (h5 : A5) (h6 : A6) (h7 : A7) : A0 ∧ A1 ∧ A2 ∧ A3 ∧ A4 ∧ A5 ∧ A6 ∧ A7 := ⟨h0, i0_7 h1 h2 h3 h4 h5 h6 h7⟩
theorem i0_9 {A0 A1 A2 A3 A4 A5 A6 A7 A8 : Prop} (h0 : A0) (h1 : A1) (h2 : A2) (h3 : A3) (h4 : A4) (h5 : A5) (h6 : A6) (h7 : A7) (h8 : A8) : A0 ∧ A1 ∧ A2 ∧ A3 ∧ A4 ∧ A5 ∧ A6 ∧ A7 ∧ A8 := ⟨h0, i0_8 h1 h2 h3 h4 h5 h6 h7 h8⟩
theorem i0_10 {A0 A1 A2 A3 A4 A5 A6 A7 A8 A9 : Prop} (h0 : A0) (h1 : A1) (h2 : A2) (h3 : A3) (h4 : A4) (h5 : A5) (h6 : A6) (h7 : A7) (h8 : A8) (h9 : A9) : A0 ∧ A1 ∧ A2 ∧ A3 ∧ A4 ∧ A5 ∧ A6 ∧ A7 ∧ A8 ∧ A9 := ⟨h0, i0_9 h1 h2 h3 h4 h5 h6 h7 h8 h9⟩
theorem i0_11 {A0 A1 A2 A3 A4 A5 A6 A7 A8 A9 A10 : Prop} (h0 : A0) (h1 : A1) (h2 : A2) (h3 : A3) (h4 : A4) (h5 : A5) (h6 : A6) (h7 : A7) (h8 : A8) (h9 : A9) (h10 : A10) : A0 ∧ A1 ∧ A2 ∧ A3 ∧ A4 ∧ A5 ∧ A6 ∧ A7 ∧ A8 ∧ A9 ∧ A10 := ⟨h0, i0_10 h1 h2 h3 h4 h5 h6 h7 h8 h9 h10⟩
theorem i0_12 {A0 A1 A2 A3 A4 A5 A6 A7 A8 A9 A10 A11 : Prop} (h0 : A0) (h1 : A1) (h2 : A2) (h3 : A3) (h4 : A4) (h5 : A5) (h6 : A6) (h7 : A7) (h8 : A8) (h9 : A9) (h10 : A10) (h11 : A11) : A0 ∧ A1 ∧ A2 ∧ A3 ∧ A4 ∧ A5 ∧ A6 ∧ A7 ∧ A8 ∧ A9 ∧ A10 ∧ A11 := ⟨h0, i0_11 h1 h2 h3 h4 h5 h6 h7 h8 h9 h10 h11⟩
theorem i0_13 {A0 A1 A2 A3 A4 A5 A6 A7 A8 A9 A10 A11 A12 : Prop} (h0 : A0) (h1 : A1) (h2 : A2) (h3 : A3) (h4 : A4) (h5 : A5) (h6 : A6) (h7 : A7) (h8 : A8) (h9 : A9) (h10 : A10) (h11 : A11) (h12 : A12) : A0 ∧ A1 ∧ A2 ∧ A3 ∧ A4 ∧ A5 ∧ A6 ∧ A7 ∧ A8 ∧ A9 ∧ A10 ∧ A11 ∧ A12 := ⟨h0, i0_12 h1 h2 h3 h4 h5 h6 h7 h8 h9 h10 h11 h12⟩
theorem i0_14 {A0 A1 A2 A3 A4 A5 A6 A7 A8 A9 A10 A11 A12 A13 : Prop} (h0 : A0) (h1 : A1) (h2 : A2) (h3 : A3) (h4 : A4) (h5 : A5) (h6 : A6) (h7 : A7) (h8 : A8) (h9 : A9) (h10 : A10) (h11 : A11) (h12 : A12) (h13 : A13) : A0 ∧ A1 ∧ A2 ∧ A3 ∧ A4 ∧ A5 ∧ A6 ∧ A7 ∧ A8 ∧ A9 ∧ A10 ∧ A11 ∧ A12 ∧ A13 := ⟨h0, i0_13 h1 h2 h3 h4 h5 h6 h7 h8 h9 h10 h11 h12 h13⟩
theorem i1_1 {a0 : Sort _} {A0 : a0 → Prop} (x0 : a0) (h0 : A0 x0) : ∃ x0, A0 x0 := ⟨x0, h0⟩
theorem i2_1 {a0 a1 : Sort _} {A0 : a0 → a1 → Prop} (x0 : a0) (x1 : a1) (h0 : A0 x0 x1) : ∃ x0 x1, A0 x0 x1 := ⟨x0, i1_1 (A0 := A0 x0) x1 h0⟩
theorem i3_1 {a0 a1 a2 : Sort _} {A0 : a0 → a1 → a2 → Prop} (x0 : a0) (x1 : a1) (x2 : a2) (h0 : A0 x0 x1 x2) : ∃ x0 x1 x2, A0 x0 x1 x2 := ⟨x0, i2_1 (A0 := A0 x0) x1 x2 h0⟩
theorem i4_1 {a0 a1 a2 a3 : Sort _} {A0 : a0 → a1 → a2 → a3 → Prop} (x0 : a0) (x1 : a1) (x2 : a2) (x3 : a3) (h0 : A0 x0 x1 x2 x3) : ∃ x0 x1 x2 x3, A0 x0 x1 x2 x3 := ⟨x0, i3_1 (A0 := A0 x0) x1 x2 x3 h0⟩
theorem i5_1 {a0 a1 a2 a3 a4 : Sort _} {A0 : a0 → a1 → a2 → a3 → a4 → Prop} (x0 : a0) (x1 : a1) (x2 : a2) (x3 : a3) (x4 : a4) (h0 : A0 x0 x1 x2 x3 x4) : ∃ x0 x1 x2 x3 x4, A0 x0 x1 x2 x3 x4 := ⟨x0, i4_1 (A0 := A0 x0) x1 x2 x3 x4 h0⟩
theorem i6_1 {a0 a1 a2 a3 a4 a5 : Sort _} {A0 : a0 → a1 → a2 → a3 → a4 → a5 → Prop} (x0 : a0) (x1 : a1) (x2 : a2) (x3 : a3) (x4 : a4) (x5 : a5) (h0 : A0 x0 x1 x2 x3 x4 x5) : ∃ x0 x1 x2 x3 x4 x5, A0 x0 x1 x2 x3 x4 x5 := ⟨x0, i5_1 (A0 := A0 x0) x1 x2 x3 x4 x5 h0⟩
theorem i7_1 {a0 a1 a2 a3 a4 a5 a6 : Sort _} {A0 : a0 → a1 → a2 → a3 → a4 → a5 → a6 → Prop} (x0 : a0) (x1 : a1) (x2 : a2) (x3 : a3) (x4 : a4) (x5 : a5) (x6 : a6) (h0 : A0 x0 x1 x2 x3 x4 x5 x6) : ∃ x0 x1 x2 x3 x4 x5 x6, A0 x0 x1 x2 x3 x4 x5 x6 := ⟨x0, i6_1 (A0 := A0 x0) x1 x2 x3 x4 x5 x6 h0⟩
theorem i1_2 {a0 : Sort _} {A0 A1 : a0 → Prop} (x0 : a0) (h0 : A0 x0) (h1 : A1 x0) : ∃ x0, A0 x0 ∧ A1 x0 := i1_1 (A0 := fun x0 => A0 x0 ∧ A1 x0) x0 (i0_2 h0 h1)
theorem i1_3 {a0 : Sort _} {A0 A1 A2 : a0 → Prop} (x0 : a0) (h0 : A0 x0) (h1 : A1 x0) (h2 : A2 x0) : ∃ x0, A0 x0 ∧ A1 x0 ∧ A2 x0 := i1_1 (A0 := fun x0 => A0 x0 ∧ A1 x0 ∧ A2 x0) x0 (i0_3 h0 h1 h2)
theorem i2_2 {a0 a1 : Sort _} {A0 A1 : a0 → a1 → Prop} (x0 : a0) (x1 : a1) (h0 : A0 x0 x1) (h1 : A1 x0 x1) : ∃ x0 x1, A0 x0 x1 ∧ A1 x0 x1 := i2_1 (A0 := fun x0 x1 => A0 x0 x1 ∧ A1 x0 x1) x0 x1 (i0_2 h0 h1)
theorem i2_3 {a0 a1 : Sort _} {A0 A1 A2 : a0 → a1 → Prop} (x0 : a0) (x1 : a1) (h0 : A0 x0 x1) (h1 : A1 x0 x1) (h2 : A2 x0 x1) : ∃ x0 x1, A0 x0 x1 ∧ A1 x0 x1 ∧ A2 x0 x1 := i2_1 (A0 := fun x0 x1 => A0 x0 x1 ∧ A1 x0 x1 ∧ A2 x0 x1) x0 x1 (i0_3 h0 h1 h2)
theorem i2_4 {a0 a1 : Sort _} {A0 A1 A2 A3 : a0 → a1 → Prop} (x0 : a0) (x1 : a1) (h0 : A0 x0 x1) (h1 : A1 x0 x1) (h2 : A2 x0 x1) (h3 : A3 x0 x1) : ∃ x0 x1, A0 x0 x1 ∧ A1 x0 x1 ∧ A2 x0 x1 ∧ A3 x0 x1 := i2_1 (A0 := fun x0 x1 => A0 x0 x1 ∧ A1 x0 x1 ∧ A2 x0 x1 ∧ A3 x0 x1) x0 x1 (i0_4 h0 h1 h2 h3)
theorem i2_5 {a0 a1 : Sort _} {A0 A1 A2 A3 A4 : a0 → a1 → Prop} (x0 : a0) (x1 : a1) (h0 : A0 x0 x1) (h1 : A1 x0 x1) (h2 : A2 x0 x1) (h3 : A3 x0 x1) (h4 : A4 x0 x1) : ∃ x0 x1, A0 x0 x1 ∧ A1 x0 x1 ∧ A2 x0 x1 ∧ A3 x0 x1 ∧ A4 x0 x1 := i2_1 (A0 := fun x0 x1 => A0 x0 x1 ∧ A1 x0 x1 ∧ A2 x0 x1 ∧ A3 x0 x1 ∧ A4 x0 x1) x0 x1 (i0_5 h0 h1 h2 h3 h4)
theorem i2_6 {a0 a1 : Sort _} {A0 A1 A2 A3 A4 A5 : a0 → a1 → Prop} (x0 : a0) (x1 : a1) (h0 : A0 x0 x1) (h1 : A1 x0 x1) (h2 : A2 x0 x1) (h3 : A3 x0 x1) (h4 : A4 x0 x1) (h5 : A5 x0 x1) : ∃ x0 x1, A0 x0 x1 ∧ A1 x0 x1 ∧ A2 x0 x1 ∧ A3 x0 x1 ∧ A4 x0 x1 ∧ A5 x0 x1 := i2_1 (A0 := fun x0 x1 => A0 x0 x1 ∧ A1 x0 x1 ∧ A2 x0 x1 ∧ A3 x0 x1 ∧ A4 x0 x1 ∧ A5 x0 x1) x0 x1 (i0_6 h0 h1 h2 h3 h4 h5)
theorem i2_10 {a0 a1 : Sort _} {A0 A1 A2 A3 A4 A5 A6 A7 A8 A9 : a0 → a1 → Prop} (x0 : a0) (x1 : a1) (h0 : A0 x0 x1) (h1 : A1 x0 x1) (h2 : A2 x0 x1) (h3 : A3 x0 x1) (h4 : A4 x0 x1) (h5 : A5 x0 x1) (h6 : A6 x0 x1) (h7 : A7 x0 x1) (h8 : A8 x0 x1) (h9 : A9 x0 x1) : ∃ x0 x1, A0 x0 x1 ∧ A1 x0 x1 ∧ A2 x0 x1 ∧ A3 x0 x1 ∧ A4 x0 x1 ∧ A5 x0 x1 ∧ A6 x0 x1 ∧ A7 x0 x1 ∧ A8 x0 x1 ∧ A9 x0 x1 := i2_1 (A0 := fun x0 x1 => A0 x0 x1 ∧ A1 x0 x1 ∧ A2 x0 x1 ∧ A3 x0 x1 ∧ A4 x0 x1 ∧ A5 x0 x1 ∧ A6 x0 x1 ∧ A7 x0 x1 ∧ A8 x0 x1 ∧ A9 x0 x1) x0 x1 (i0_10 h0 h1 h2 h3 h4 h5 h6 h7 h8 h9)
theorem i3_2 {a0 a1 a2 : Sort _} {A0 A1 : a0 → a1 → a2 → Prop} (x0 : a0) (x1 : a1) (x2 : a2) (h0 : A0 x0 x1 x2) (h1 : A1 x0 x1 x2) : ∃ x0 x1 x2, A0 x0 x1 x2 ∧ A1 x0 x1 x2 := i3_1 (A0 := fun x0 x1 x2 => A0 x0 x1 x2 ∧ A1 x0 x1 x2) x0 x1 x2 (i0_2 h0 h1)
theorem i3_3 {a0 a1 a2 : Sort _} {A0 A1 A2 : a0 → a1 → a2 → Prop} (x0 : a0) (x1 : a1) (x2 : a2) (h0 : A0 x0 x1 x2) (h1 : A1 x0 x1 x2) (h2 : A2 x0 x1 x2) : ∃ x0 x1 x2, A0 x0 x1 x2 ∧ A1 x0 x1 x2 ∧ A2 x0 x1 x2 := i3_1 (A0 := fun x0 x1 x2 => A0 x0 x1 x2 ∧ A1 x0 x1 x2 ∧ A2 x0 x1 x2) x0 x1 x2 (i0_3 h0 h1 h2)
theorem i3_4 {a0 a1 a2 : Sort _} {A0 A1 A2 A3 : a0 → a1 → a2 → Prop} (x0 : a0) (x1 : a1) (x2 : a2) (h0 : A0 x0 x1 x2) (h1 : A1 x0 x1 x2) (h2 : A2 x0 x1 x2) (h3 : A3 x0 x1 x2) : ∃ x0 x1 x2, A0 x0 x1 x2 ∧ A1 x0 x1 x2 ∧ A2 x0 x1 x2 ∧ A3 x0 x1 x2 := i3_1 (A0 := fun x0 x1 x2 => A0 x0 x1 x2 ∧ A1 x0 x1 x2 ∧ A2 x0 x1 x2 ∧ A3 x0 x1 x2) x0 x1 x2 (i0_4 h0 h1 h2 h3)
theorem i3_5 {a0 a1 a2 : Sort _} {A0 A1 A2 A3 A4 : a0 → a1 → a2 → Prop} (x0 : a0) (x1 : a1) (x2 : a2) (h0 : A0 x0 x1 x2) (h1 : A1 x0 x1 x2) (h2 : A2 x0 x1 x2) (h3 : A3 x0 x1 x2) (h4 : A4 x0 x1 x2) : ∃ x0 x1 x2, A0 x0 x1 x2 ∧ A1 x0 x1 x2 ∧ A2 x0 x1 x2 ∧ A3 x0 x1 x2 ∧ A4 x0 x1 x2 := i3_1 (A0 := fun x0 x1 x2 => A0 x0 x1 x2 ∧ A1 x0 x1 x2 ∧ A2 x0 x1 x2 ∧ A3 x0 x1 x2 ∧ A4 x0 x1 x2) x0 x1 x2 (i0_5 h0 h1 h2 h3 h4)
theorem i3_6 {a0 a1 a2 : Sort _} {A0 A1 A2 A3 A4 A5 : a0 → a1 → a2 → Prop} (x0 : a0) (x1 : a1) (x2 : a2) (h0 : A0 x0 x1 x2) (h1 : A1 x0 x1 x2) (h2 : A2 x0 x1 x2) (h3 : A3 x0 x1 x2) (h4 : A4 x0 x1 x2) (h5 : A5 x0 x1 x2) : ∃ x0 x1 x2, A0 x0 x1 x2 ∧ A1 x0 x1 x2 ∧ A2 x0 x1 x2 ∧ A3 x0 x1 x2 ∧ A4 x0 x1 x2 ∧ A5 x0 x1 x2 := i3_1 (A0 := fun x0 x1 x2 => A0 x0 x1 x2 ∧ A1 x0 x1 x2 ∧ A2 x0 x1 x2 ∧ A3 x0 x1 x2 ∧ A4 x0 x1 x2 ∧ A5 x0 x1 x2) x0 x1 x2 (i0_6 h0 h1 h2 h3 h4 h5)
theorem i4_3 {a0 a1 a2 a3 : Sort _} {A0 A1 A2 : a0 → a1 → a2 → a3 → Prop} (x0 : a0) (x1 : a1) (x2 : a2) (x3 : a3) (h0 : A0 x0 x1 x2 x3) (h1 : A1 x0 x1 x2 x3) (h2 : A2 x0 x1 x2 x3) : ∃ x0 x1 x2 x3, A0 x0 x1 x2 x3 ∧ A1 x0 x1 x2 x3 ∧ A2 x0 x1 x2 x3 := i4_1 (A0 := fun x0 x1 x2 x3 => A0 x0 x1 x2 x3 ∧ A1 x0 x1 x2 x3 ∧ A2 x0 x1 x2 x3) x0 x1 x2 x3 (i0_3 h0 h1 h2)
theorem i4_4 {a0 a1 a2 a3 : Sort _} {A0 A1 A2 A3 : a0 → a1 → a2 → a3 → Prop} (x0 : a0) (x1 : a1) (x2 : a2) (x3 : a3) (h0 : A0 x0 x1 x2 x3) (h1 : A1 x0 x1 x2 x3) (h2 : A2 x0 x1 x2 x3) (h3 : A3 x0 x1 x2 x3) : ∃ x0 x1 x2 x3, A0 x0 x1 x2 x3 ∧ A1 x0 x1 x2 x3 ∧ A2 x0 x1 x2 x3 ∧ A3 x0 x1 x2 x3 := i4_1 (A0 := fun x0 x1 x2 x3 => A0 x0 x1 x2 x3 ∧ A1 x0 x1 x2 x3 ∧ A2 x0 x1 x2 x3 ∧ A3 x0 x1 x2 x3) x0 x1 x2 x3 (i0_4 h0 h1 h2 h3)
theorem i4_6 {a0 a1 a2 a3 : Sort _} {A0 A1 A2 A3 A4 A5 : a0 → a1 → a2 → a3 → Prop} (x0 : a0) (x1 : a1) (x2 : a2) (x3 : a3) (h0 : A0 x0 x1 x2 x3) (h1 : A1 x0 x1 x2 x3) (h2 : A2 x0 x1 x2 x3) (h3 : A3 x0 x1 x2 x3) (h4 : A4 x0 x1 x2 x3) (h5 : A5 x0 x1 x2 x3) : ∃ x0 x1 x2 x3, A0 x0 x1 x2 x3 ∧ A1 x0 x1 x2 x3 ∧ A2 x0 x1 x2 x3 ∧ A3 x0 x1 x2 x3 ∧ A4 x0 x1 x2 x3 ∧ A5 x0 x1 x2 x3 := i4_1 (A0 := fun x0 x1 x2 x3 => A0 x0 x1 x2 x3 ∧ A1 x0 x1 x2 x3 ∧ A2 x0 x1 x2 x3 ∧ A3 x0 x1 x2 x3 ∧ A4 x0 x1 x2 x3 ∧ A5 x0 x1 x2 x3) x0 x1 x2 x3 (i0_6 h0 h1 h2 h3 h4 h5)
theorem i5_4 {a0 a1 a2 a3 a4 : Sort _} {A0 A1 A2 A3 : a0 → a1 → a2 → a3 → a4 → Prop} (x0 : a0) (x1 : a1) (x2 : a2) (x3 : a3) (x4 : a4) (h0 : A0 x0 x1 x2 x3 x4) (h1 : A1 x0 x1 x2 x3 x4) (h2 : A2 x0 x1 x2 x3 x4) (h3 : A3 x0 x1 x2 x3 x4) : ∃ x0 x1 x2 x3 x4, A0 x0 x1 x2 x3 x4 ∧ A1 x0 x1 x2 x3 x4 ∧ A2 x0 x1 x2 x3 x4 ∧ A3 x0 x1 x2 x3 x4 := i5_1 (A0 := fun x0 x1 x2 x3 x4 => A0 x0 x1 x2 x3 x4 ∧ A1 x0 x1 x2 x3 x4 ∧ A2 x0 x1 x2 x3 x4 ∧ A3 x0 x1 x2 x3 x4) x0 x1 x2 x3 x4 (i0_4 h0 h1 h2 h3)
theorem i5_6 {a0 a1 a2 a3 a4 : Sort _} {A0 A1 A2 A3 A4 A5 : a0 → a1 → a2 → a3 → a4 → Prop} (x0 : a0) (x1 : a1) (x2 : a2) (x3 : a3) (x4 : a4) (h0 : A0 x0 x1 x2 x3 x4) (h1 : A1 x0 x1 x2 x3 x4) (h2 : A2 x0 x1 x2 x3 x4) (h3 : A3 x0 x1 x2 x3 x4) (h4 : A4 x0 x1 x2 x3 x4) (h5 : A5 x0 x1 x2 x3 x4) : ∃ x0 x1 x2 x3 x4, A0 x0 x1 x2 x3 x4 ∧ A1 x0 x1 x2 x3 x4 ∧ A2 x0 x1 x2 x3 x4 ∧ A3 x0 x1 x2 x3 x4 ∧ A4 x0 x1 x2 x3 x4 ∧ A5 x0 x1 x2 x3 x4 := i5_1 (A0 := fun x0 x1 x2 x3 x4 => A0 x0 x1 x2 x3 x4 ∧ A1 x0 x1 x2 x3 x4 ∧ A2 x0 x1 x2 x3 x4 ∧ A3 x0 x1 x2 x3 x4 ∧ A4 x0 x1 x2 x3 x4 ∧ A5 x0 x1 x2 x3 x4) x0 x1 x2 x3 x4 (i0_6 h0 h1 h2 h3 h4 h5)
theorem i5_14 {a0 a1 a2 a3 a4 : Sort _} {A0 A1 A2 A3 A4 A5 A6 A7 A8 A9 A10 A11 A12 A13 : a0 → a1 → a2 → a3 → a4 → Prop} (x0 : a0) (x1 : a1) (x2 : a2) (x3 : a3) (x4 : a4) (h0 : A0 x0 x1 x2 x3 x4) (h1 : A1 x0 x1 x2 x3 x4) (h2 : A2 x0 x1 x2 x3 x4) (h3 : A3 x0 x1 x2 x3 x4) (h4 : A4 x0 x1 x2 x3 x4) (h5 : A5 x0 x1 x2 x3 x4) (h6 : A6 x0 x1 x2 x3 x4) (h7 : A7 x0 x1 x2 x3 x4) (h8 : A8 x0 x1 x2 x3 x4) (h9 : A9 x0 x1 x2 x3 x4) (h10 : A10 x0 x1 x2 x3 x4) (h11 : A11 x0 x1 x2 x3 x4) (h12 : A12 x0 x1 x2 x3 x4) (h13 : A13 x0 x1 x2 x3 x4) : ∃ x0 x1 x2 x3 x4, A0 x0 x1 x2 x3 x4 ∧ A1 x0 x1 x2 x3 x4 ∧ A2 x0 x1 x2 x3 x4 ∧ A3 x0 x1 x2 x3 x4 ∧ A4 x0 x1 x2 x3 x4 ∧ A5 x0 x1 x2 x3 x4 ∧ A6 x0 x1 x2 x3 x4 ∧ A7 x0 x1 x2 x3 x4 ∧ A8 x0 x1 x2 x3 x4 ∧ A9 x0 x1 x2 x3 x4 ∧ A10 x0 x1 x2 x3 x4 ∧ A11 x0 x1 x2 x3 x4 ∧ A12 x0 x1 x2 x3 x4 ∧ A13 x0 x1 x2 x3 x4 := i5_1 (A0 := fun x0 x1 x2 x3 x4 => A0 x0 x1 x2 x3 x4 ∧ A1 x0 x1 x2 x3 x4 ∧ A2 x0 x1 x2 x3 x4 ∧ A3 x0 x1 x2 x3 x4 ∧ A4 x0 x1 x2 x3 x4 ∧ A5 x0 x1 x2 x3 x4 ∧ A6 x0 x1 x2 x3 x4 ∧ A7 x0 x1 x2 x3 x4 ∧ A8 x0 x1 x2 x3 x4 ∧ A9 x0 x1 x2 x3 x4 ∧ A10 x0 x1 x2 x3 x4 ∧ A11 x0 x1 x2 x3 x4 ∧ A12 x0 x1 x2 x3 x4 ∧ A13 x0 x1 x2 x3 x4) x0 x1 x2 x3 x4 (i0_14 h0 h1 h2 h3 h4 h5 h6 h7 h8 h9 h10 h11 h12 h13)
theorem i6_7 {a0 a1 a2 a3 a4 a5 : Sort _} {A0 A1 A2 A3 A4 A5 A6 : a0 → a1 → a2 → a3 → a4 → a5 → Prop} (x0 : a0) (x1 : a1) (x2 : a2) (x3 : a3) (x4 : a4) (x5 : a5) (h0 : A0 x0 x1 x2 x3 x4 x5) (h1 : A1 x0 x1 x2 x3 x4 x5) (h2 : A2 x0 x1 x2 x3 x4 x5) (h3 : A3 x0 x1 x2 x3 x4 x5) (h4 : A4 x0 x1 x2 x3 x4 x5) (h5 : A5 x0 x1 x2 x3 x4 x5) (h6 : A6 x0 x1 x2 x3 x4 x5) : ∃ x0 x1 x2 x3 x4 x5, A0 x0 x1 x2 x3 x4 x5 ∧ A1 x0 x1 x2 x3 x4 x5 ∧ A2 x0 x1 x2 x3 x4 x5 ∧ A3 x0 x1 x2 x3 x4 x5 ∧ A4 x0 x1 x2 x3 x4 x5 ∧ A5 x0 x1 x2 x3 x4 x5 ∧ A6 x0 x1 x2 x3 x4 x5 := i6_1 (A0 := fun x0 x1 x2 x3 x4 x5 => A0 x0 x1 x2 x3 x4 x5 ∧ A1 x0 x1 x2 x3 x4 x5 ∧ A2 x0 x1 x2 x3 x4 x5 ∧ A3 x0 x1 x2 x3 x4 x5 ∧ A4 x0 x1 x2 x3 x4 x5 ∧ A5 x0 x1 x2 x3 x4 x5 ∧ A6 x0 x1 x2 x3 x4 x5) x0 x1 x2 x3 x4 x5 (i0_7 h0 h1 h2 h3 h4 h5 h6)
theorem i7_5 {a0 a1 a2 a3 a4 a5 a6 : Sort _} {A0 A1 A2 A3 A4 : a0 → a1 → a2 → a3 → a4 → a5 → a6 → Prop} (x0 : a0) (x1 : a1) (x2 : a2) (x3 : a3) (x4 : a4) (x5 : a5) (x6 : a6) (h0 : A0 x0 x1 x2 x3 x4 x5 x6) (h1 : A1 x0 x1 x2 x3 x4 x5 x6) (h2 : A2 x0 x1 x2 x3 x4 x5 x6) (h3 : A3 x0 x1 x2 x3 x4 x5 x6) (h4 : A4 x0 x1 x2 x3 x4 x5 x6) : ∃ x0 x1 x2 x3 x4 x5 x6, A0 x0 x1 x2 x3 x4 x5 x6 ∧ A1 x0 x1 x2 x3 x4 x5 x6 ∧ A2 x0 x1 x2 x3 x4 x5 x6 ∧ A3 x0 x1 x2 x3 x4 x5 x6 ∧ A4 x0 x1 x2 x3 x4 x5 x6 := i7_1 (A0 := fun x0 x1 x2 x3 x4 x5 x6 => A0 x0 x1 x2 x3 x4 x5 x6 ∧ A1 x0 x1 x2 x3 x4 x5 x6 ∧ A2 x0 x1 x2 x3 x4 x5 x6 ∧ A3 x0 x1 x2 x3 x4 x5 x6 ∧ A4 x0 x1 x2 x3 x4 x5 x6) x0 x1 x2 x3 x4 x5 x6 (i0_5 h0 h1 h2 h3 h4)
theorem i7_11 {a0 a1 a2 a3 a4 a5 a6 : Sort _} {A0 A1 A2 A3 A4 A5 A6 A7 A8 A9 A10 : a0 → a1 → a2 → a3 → a4 → a5 → a6 → Prop} (x0 : a0) (x1 : a1) (x2 : a2) (x3 : a3) (x4 : a4) (x5 : a5) (x6 : a6) (h0 : A0 x0 x1 x2 x3 x4 x5 x6) (h1 : A1 x0 x1 x2 x3 x4 x5 x6) (h2 : A2 x0 x1 x2 x3 x4 x5 x6) (h3 : A3 x0 x1 x2 x3 x4 x5 x6) (h4 : A4 x0 x1 x2 x3 x4 x5 x6) (h5 : A5 x0 x1 x2 x3 x4 x5 x6) (h6 : A6 x0 x1 x2 x3 x4 x5 x6) (h7 : A7 x0 x1 x2 x3 x4 x5 x6) (h8 : A8 x0 x1 x2 x3 x4 x5 x6) (h9 : A9 x0 x1 x2 x3 x4 x5 x6) (h10 : A10 x0 x1 x2 x3 x4 x5 x6) : ∃ x0 x1 x2 x3 x4 x5 x6, A0 x0 x1 x2 x3 x4 x5 x6 ∧ A1 x0 x1 x2 x3 x4 x5 x6 ∧ A2 x0 x1 x2 x3 x4 x5 x6 ∧ A3 x0 x1 x2 x3 x4 x5 x6 ∧ A4 x0 x1 x2 x3 x4 x5 x6 ∧ A5 x0 x1 x2 x3 x4 x5 x6 ∧ A6 x0 x1 x2 x3 x4 x5 x6 ∧ A7 x0 x1 x2 x3 x4 x5 x6 ∧ A8 x0 x1 x2 x3 x4 x5 x6 ∧ A9 x0 x1 x2 x3 x4 x5 x6 ∧ A10 x0 x1 x2 x3 x4 x5 x6 := i7_1 (A0 := fun x0 x1 x2 x3 x4 x5 x6 => A0 x0 x1 x2 x3 x4 x5 x6 ∧ A1 x0 x1 x2 x3 x4 x5 x6 ∧ A2 x0 x1 x2 x3 x4 x5 x6 ∧ A3 x0 x1 x2 x3 x4 x5 x6 ∧ A4 x0 x1 x2 x3 x4 x5 x6 ∧ A5 x0 x1 x2 x3 x4 x5 x6 ∧ A6 x0 x1 x2 x3 x4 x5 x6 ∧ A7 x0 x1 x2 x3 x4 x5 x6 ∧ A8 x0 x1 x2 x3 x4 x5 x6 ∧ A9 x0 x1 x2 x3 x4 x5 x6 ∧ A10 x0 x1 x2 x3 x4 x5 x6) x0 x1 x2 x3 x4 x5 x6 (i0_11 h0 h1 h2 h3 h4 h5 h6 h7 h8 h9 h10)
theorem nos {α : Type _} {P : Prop} {o : Option α} {x : α} (h1 : o = some x) (h2 : o = none) : P := absurd (h1.symm.trans h2) (by simp)
@[elab_as_elim] theorem sb {α : Sort _} {a b : α} {P : α → Prop} (h : a = b) (k : P b) : P a := h ▸ k
theorem bar {p : Prop} (h : p) : p := h
noncomputable def Hold (p : Prop) : Prop := p
theorem unhold {p : Prop} (h : Hold p) : p := h
theorem mkhold {p : Prop} (h : p) : Hold p := h

noncomputable abbrev PR : Program := PySem.Challenge.rw_pq0008_01.row.prog
noncomputable abbrev Loc := Str → Option Value
noncomputable abbrev Led := Addr → Option Obj

noncomputable def Led.set (σ : Led) (a : Addr) (o : Obj) : Led := fun b => if b = a then some o else σ b
noncomputable def Loc.set (m : Loc) (x : Str) (v : Value) : Loc := fun y => if y = x then some v else m y

theorem Led.set_self {σ : Led} {a : Addr} {o : Obj} : σ.set a o a = some o := by simp [Led.set]
theorem Led.set_ne {σ : Led} {a b : Addr} {o : Obj} (h : b ≠ a) : σ.set a o b = σ b := by simp [Led.set, h]

structure Cx where
  w : World
  A : Around
  env : Env
  h₀ : Heap
  fns : List (Addr × Obj)

structure St (X : Cx) (m : Loc) (σ : Led) (s : Shared) : Prop where
  fr : Fr X.h₀ X.env.locals s.heap m
  nw : ∀ a o, σ a = some o → s.heap.get? a = some o ∧ a ≠ X.env.locals ∧ X.h₀.get? a = none
  fn : ∀ p ∈ X.fns, s.heap.get? p.1 = some p.2 ∧ X.h₀.objs.size ≤ p.1 ∧ p.1 ≠ X.env.locals ∧ σ p.1 = none

noncomputable def Same (b s : Shared) : Prop := ∃ hp tk, s = { b with heap := hp, toks := tk }
theorem Same.refl (b : Shared) : Same b b := (i2_1 (_) ( _) ( rfl))
theorem Same.to {b s : Shared} (B : Same b s) {hp : Heap} {tk : Nat} : Same b { s with heap := hp, toks := tk } := by (refine x2_1 B ?_; clear B; intro _ _ er1; obtain rfl := er1); exact (i2_1 (_) ( _) ( rfl))
theorem Same.heap {b s : Shared} (B : Same b s) {hp : Heap} : Same b { s with heap := hp } := B.to
theorem Same.tk {b s : Shared} (B : Same b s) {tk : Nat} : Same b { s with toks := tk } := B.to
theorem Same.eq {b s s' : Shared} (B : Same b s) {hp : Heap} {tk : Nat} (e : s' = { s with heap := hp, toks := tk }) : Same b s' := e ▸ B.to

noncomputable def Done {α : Type} (X : Cx) (Q : α → Loc → Led → Prop) (b : Shared) (a : α) (s' : Shared) : Prop :=
  Same b s' ∧ ∃ m' σ', St X m' σ' s' ∧ Q a m' σ'

noncomputable def J {α : Type} (X : Cx) (t : Sem α) (m : Loc) (σ : Led) (Q : α → Loc → Led → Prop) : Prop :=
  ∀ b s : Shared, Same b s → St X m σ s → wpAny (model PR X.w) X.A t (Done X Q b) (fun _ _ => False) s

section
variable {α β : Type} {X : Cx} {m : Loc} {σ : Led} {b s : Shared}

theorem Done.mk {Q : α → Loc → Led → Prop} {a : α} {m' : Loc} {σ' : Led} (B : Same b s) (S : St X m' σ' s) (h : Q a m' σ') : Done X Q b a s := ⟨B, m', σ', S, h⟩

theorem J.seq {t : Sem α} {P : α → Loc → Led → Prop} {G : α → Shared → Prop} {E : Value → Shared → Prop} (h : J X t m σ P) (B : Same b s) (S : St X m σ s) (k : ∀ a s' m' σ', Same b s' → St X m' σ' s' → P a m' σ' → G a s') :
    wpAny (model PR X.w) X.A t G E s := by
  refine wpAny_mono (h b s B S) ?_ fun _ _ e => e.elim
  (intro a s' zt1; obtain ⟨B', m', σ', S', hP⟩ := zt1)
  exact k a s' m' σ' B' S' hP
theorem J.bind {t : Sem α} {f : α → Sem β} {Q : β → Loc → Led → Prop} (h : J X t m σ (fun a m' σ' => J X (f a) m' σ' Q)) : J X (t >>= f) m σ Q :=
  fun b _ B S => wpAny_bind (h.seq B S fun _ s' _ _ B' S' hP => hP b s' B' S')
theorem J.mono {t : Sem α} {Q Q' : α → Loc → Led → Prop} (h : J X t m σ Q) (hq : ∀ a m' σ', Q a m' σ' → Q' a m' σ') : J X t m σ Q' :=
  fun _ _ B S => h.seq B S fun _ _ _ _ B' S' hP => .mk B' S' (hq _ _ _ hP)
theorem J.mono1 {t : Sem α} {P : α → Led → Prop} {Q : α → Loc → Led → Prop} (h : J X t m σ (fun r m' σ' => m' = m ∧ P r σ')) (k : ∀ r σ', P r σ' → Q r m σ') : J X t m σ Q :=
  h.mono fun r _ σ' h => h.1 ▸ k r σ' h.2
theorem J.pure {a : α} {Q : α → Loc → Led → Prop} (h : Q a m σ) : J X (Pure.pure a) m σ Q := fun _ _ B S => wpAny_pure (.mk B S h)
theorem J.holding {vs : List Value} {t : Sem α} {Q : α → Loc → Led → Prop} (h : J X t m σ Q) : J X (holding vs t) m σ Q := fun b s B S => wpAny_holding (h b s B S)
theorem J.standAt {pos : Pos} {Q : Unit → Loc → Led → Prop} (h : Q () m σ) : J X (standAt pos) m σ Q := fun _ _ B S => wpAny_standAt (.mk B S h)
theorem J.rule {tag : String} {Q : Unit → Loc → Led → Prop} (h : Q () m σ) : J X (rule tag) m σ Q := fun _ _ B S => wpAny_rule (.mk B S h)
theorem J.of_eq {t t' : Sem α} {Q : α → Loc → Led → Prop} (e : t = t') (h : J X t' m σ Q) : J X t m σ Q := e ▸ h

theorem St.ext {s : Shared} {h' : Heap} {tk : Nat} (S : St X m σ s) (k : ∀ b o, s.heap.get? b = some o → h'.get? b = some o) : St X m σ { s with heap := h', toks := tk } :=
  ⟨⟨S.fr.ns.keeps k, fun b o e => k _ _ (S.fr.keep b o e), S.fr.above⟩, fun a o e => ⟨k _ _ (S.nw a o e).1, (S.nw a o e).2⟩, fun p hp => ⟨k _ _ (S.fn p hp).1, (S.fn p hp).2⟩⟩
theorem St.toks {s : Shared} {tk : Nat} (S : St X m σ s) : St X m σ { s with toks := tk } := ⟨S.fr, S.nw, S.fn⟩

theorem St.fresh {s : Shared} (S : St X m σ s) {a : Addr} (ha : s.heap.objs.size ≤ a) : σ a = none ∧ a ≠ X.env.locals ∧ X.h₀.get? a = none ∧ ∀ p ∈ X.fns, p.1 ≠ a := by
  have no : s.heap.get? a = none := by
    cases q : s.heap.get? a with
    | none => rfl
    | some o => exact absurd (Heap.lt_size q) (Nat.not_lt.mpr ha)
  refine (i0_4 (?_) ( ?_) ( ?_) ( ?_))
  · cases q : σ a with
    | none => rfl
    | some o => (first | exact nos ((S.nw a o q).1) no | exact nos no ((S.nw a o q).1) | (rw [(S.nw a o q).1] at no; cases no))
  · rintro rfl
    (refine x3_2 S.fr.ns ?_; intro o _ _ e _)
    (first | exact nos (e) no | exact nos no (e) | (rw [e] at no; cases no))
  · cases q : X.h₀.get? a with
    | none => rfl
    | some o => (first | exact nos (S.fr.keep a o q) no | exact nos no (S.fr.keep a o q) | (rw [S.fr.keep a o q] at no; cases no))
  · (intro p hp er1; obtain rfl := er1)
    (first | exact nos ((S.fn p hp).1) no | exact nos no ((S.fn p hp).1) | (rw [(S.fn p hp).1] at no; cases no))

theorem St.newObj {s : Shared} {h' : Heap} {tk : Nat} (S : St X m σ s) {a : Addr} {o : Obj} (ha : s.heap.objs.size ≤ a) (ho : h'.get? a = some o) (k : ∀ b o, s.heap.get? b = some o → h'.get? b = some o) :
    St X m (σ.set a o) { s with heap := h', toks := tk } := by
  have f := S.fresh ha
  have S' := S.ext (tk := tk) k
  refine ⟨S'.fr, fun b ob e => ?_, fun p hp => (i0_4 ((S'.fn p hp).1) ( (S'.fn p hp).2.1) ( (S'.fn p hp).2.2.1) ( ?_))⟩
  · by_cases hb : b = a
    · subst hb; (first | exact nos (Led.set_self) e | exact nos e (Led.set_self) | (rw [Led.set_self] at e; cases e)); exact (i0_3 (ho) ( f.2.1) ( f.2.2.1))
    · rw [Led.set_ne hb] at e; exact S'.nw b ob e
  · rw [Led.set_ne (f.2.2.2 p hp)]; exact (S'.fn p hp).2.2.2
theorem St.push {s : Shared} {tk : Nat} (S : St X m σ s) {o : Obj} (hf : o.isFreed = false := by rfl) : St X m (σ.set s.heap.objs.size o) { s with heap := s.heap.push o, toks := tk } :=
  S.newObj (Nat.le_refl _) (Heap.get?_push_size _ hf) fun _ _ e => Heap.get?_push_of_some _ e

theorem St.upd {s : Shared} {h' : Heap} {tk : Nat} (S : St X m σ s) {a : Addr} {o o' : Obj} (hs : σ a = some o) (hb : Heap.ExtBut a s.heap h') (ho : h'.get? a = some o') : St X m (σ.set a o') { s with heap := h', toks := tk } := by
  have N := S.nw a o hs
  have k : ∀ b ob, b ≠ a → s.heap.get? b = some ob → h'.get? b = some ob := fun b ob hn e => hb b ob hn e
  refine ⟨⟨?_, fun b ob e => k b ob (fun q => ?_) (S.fr.keep b ob e), S.fr.above⟩, fun b ob e => ?_, fun p hp => ?_⟩
  · exact S.fr.ns.at' fun ob e => k _ ob (Ne.symm N.2.1) e
  · subst q; (first | exact nos (N.2.2) e | exact nos e (N.2.2) | (rw [N.2.2] at e; cases e))
  · by_cases q : b = a
    · subst q; (first | exact nos (Led.set_self) e | exact nos e (Led.set_self) | (rw [Led.set_self] at e; cases e)); exact ⟨ho, N.2⟩
    · rw [Led.set_ne q] at e; exact ⟨k b ob q (S.nw b ob e).1, (S.nw b ob e).2⟩
  · have q : p.1 ≠ a := by rintro rfl; (first | exact nos ((S.fn p hp).2.2.2) hs | exact nos hs ((S.fn p hp).2.2.2) | (rw [(S.fn p hp).2.2.2] at hs; cases hs))
    exact (i0_4 (k _ _ q (S.fn p hp).1) ( (S.fn p hp).2.1) ( (S.fn p hp).2.2.1) ( by first | exact ((Led.set_ne q).trans ((S.fn p hp).2.2.2)) | (rw [Led.set_ne q]; exact (S.fn p hp).2.2.2)))

theorem St.local {s : Shared} {h' : Heap} {tk : Nat} {m' : Loc} (S : St X m σ s) (hn : h'.Ns X.env.locals m') (hb : Heap.ExtBut X.env.locals s.heap h') : St X m' σ { s with heap := h', toks := tk } := by
  refine ⟨⟨hn, fun b ob e => hb b ob (Nat.ne_of_lt (Nat.lt_of_lt_of_le (Heap.lt_size e) S.fr.above)) (S.fr.keep b ob e), S.fr.above⟩, fun b ob e => ⟨hb b ob (S.nw b ob e).2.1 (S.nw b ob e).1, (S.nw b ob e).2⟩, fun p hp => ?_⟩
  exact ⟨hb _ _ (S.fn p hp).2.2.1 (S.fn p hp).1, (S.fn p hp).2⟩
end
end
section
--FILE JR
section
variable {X : Cx} {m : Loc} {σ : Led}

theorem j_execs_nil {Q : Flow → Loc → Led → Prop} (h : Q .next m σ) : J X (execs [] X.env) m σ Q := fun _ _ B S => wpAny_execs_nil (.mk B S h)
theorem j_execs_cons {st rest} {Q : Flow → Loc → Led → Prop} (h : J X (exec st X.env) m σ (fun f m' σ' => match f with | .next => J X (execs rest X.env) m' σ' Q | f => Q f m' σ')) : J X (execs (st :: rest) X.env) m σ Q :=
  fun b _ B S => wpAny_execs_cons (h.seq B S fun f s' _ _ B' S' hP => by cases f <;> first | exact hP b s' B' S' | exact .mk B' S' hP)
theorem j_execs_last {st} {Q : Flow → Loc → Led → Prop} (h : J X (exec st X.env) m σ Q) : J X (execs [st] X.env) m σ Q :=
  j_execs_cons (h.mono fun f _ _ q => by cases f <;> first | exact j_execs_nil q | exact q)
theorem j_Assign_Name {x pos' value pos} {Q : Flow → Loc → Led → Prop} (h : J X (eval value X.env) m σ (fun v m' σ' => J X (storeName X.env x v) m' σ' (fun _ => Q .next)))
    (hs : swapsWith value (some (.Name x pos')) pos.line X.env = pure false) : J X (exec (.Assign [.Name x pos'] value pos) X.env) m σ Q :=
  fun b _ B S => wpAny_Assign_Name (hs := hs) (h.seq B S fun _ s' _ _ B' S' hP => hP.seq B' S' fun _ _ _ _ B' S' q => .mk B' S' q)
theorem j_Assign_Attribute {o attr pos' value pos} {Q : Flow → Loc → Led → Prop} (h : J X (eval value X.env) m σ (fun v m' σ' => J X (eval o X.env) m' σ' (fun ov m' σ' => J X (setAttr ov attr v) m' σ' (fun _ => Q .next))))
    (hs : swapsWith value (some (.Attribute o attr pos')) pos.line X.env = pure false) : J X (exec (.Assign [.Attribute o attr pos'] value pos) X.env) m σ Q :=
  fun b _ B S => plainObj_wpAny_Assign_Attribute (hs := hs) (h.seq B S fun _ s' _ _ B' S' hP => hP.seq B' S' fun _ _ _ _ B' S' hP => hP.seq B' S' fun _ _ _ _ B' S' q => .mk B' S' q)
theorem j_Assign_Subscript {o i pos' value pos} {Q : Flow → Loc → Led → Prop} (h : J X (eval value X.env) m σ (fun v m' σ' => J X (eval o X.env) m' σ' (fun ov m' σ' => J X (eval i X.env) m' σ' (fun iv m' σ' => J X (setItem ov iv v) m' σ' (fun _ => Q .next)))))
    (hs : swapsWith value (some (.Subscript o i pos')) pos.line X.env = pure false) : J X (exec (.Assign [.Subscript o i pos'] value pos) X.env) m σ Q :=
  fun b _ B S => wpAny_Assign_Subscript (hs := hs) (h.seq B S fun _ s' _ _ B' S' hP => hP.seq B' S' fun _ _ _ _ B' S' hP => hP.seq B' S' fun _ _ _ _ B' S' hP => hP.seq B' S' fun _ _ _ _ B' S' q => .mk B' S' q)
theorem j_Assign_Tuple {elts k tpos value pos} {Q : Flow → Loc → Led → Prop} (h : J X (eval value X.env) m σ (fun v m' σ' => J X (assign (.Tuple elts k tpos) X.env v) m' σ' (fun _ => Q .next)))
    (hs : swapsWithSole [.Tuple elts k tpos] value pos.line X.env = pure false) (hw : swappedStores [.Tuple elts k tpos] value X.env = pure none) : J X (exec (.Assign [.Tuple elts k tpos] value pos) X.env) m σ Q :=
  fun b _ B S => PyProof.Rows.Assign_Tuple (hs := hs) (hw := hw) (h.seq B S fun _ s' _ _ B' S' hP => hP.seq B' S' fun _ _ _ _ B' S' q => .mk B' S' q)
theorem j_Assign_Tuple_swapped {elts k tpos value pos} {names : List Str} {Q : Flow → Loc → Led → Prop}
    (h : J X (eval value X.env) m σ (fun v m' σ' => J X (unpackItems v names.length none) m' σ' (fun items m' σ' => J X (assignInOrder (names.reverse.map fun n => bindName X.env n) items.reverse) m' σ' (fun _ => Q .next))))
    (hs : swapsWithSole [.Tuple elts k tpos] value pos.line X.env = pure false) (hw : swappedStores [.Tuple elts k tpos] value X.env = pure (some names)) : J X (exec (.Assign [.Tuple elts k tpos] value pos) X.env) m σ Q :=
  fun b _ B S => PyProof.Rows.Assign_Tuple_swapped (hs := hs) (hw := hw) (h.seq B S fun _ s' _ _ B' S' hP => hP.seq B' S' fun _ _ _ _ B' S' hP => hP.seq B' S' fun _ _ _ _ B' S' q => .mk B' S' q)
theorem j_Assign_Tuple_swapped2 {x y : Str} {px py k tpos value pos} {Q : Flow → Loc → Led → Prop}
    (h : J X (eval value X.env) m σ (fun v m' σ' => J X (unpackItems v ([x, y] : List Str).length none) m' σ' (fun items m' σ' => J X (assignInOrder (([x, y] : List Str).reverse.map fun n => bindName X.env n) items.reverse) m' σ' (fun _ => Q .next))))
    (hs : swapsWithSole [.Tuple [.Name x px, .Name y py] k tpos] value pos.line X.env = pure false) (hw : swappedStores [.Tuple [.Name x px, .Name y py] k tpos] value X.env = pure (some [x, y])) : J X (exec (.Assign [.Tuple [.Name x px, .Name y py] k tpos] value pos) X.env) m σ Q :=
  j_Assign_Tuple_swapped h hs hw
theorem j_Expr {e pos} {Q : Flow → Loc → Led → Prop} (h : J X (eval e X.env) m σ (fun _ => Q .next)) (hi : interactive X.env = false) (hs : swapsWith e none pos.line X.env = pure false) : J X (exec (.Expr e pos) X.env) m σ Q :=
  fun b _ B S => wpAny_Expr_any (hi := hi) (hs := hs) (h.seq B S fun _ _ _ _ B' S' q => .mk B' S' q)
theorem j_If {test body orelse pos} {Q : Flow → Loc → Led → Prop} (h : J X (isTrue test X.env (eval test X.env)) m σ (fun c m' σ' => if c then J X (execs body X.env) m' σ' Q else J X (execs orelse X.env) m' σ' Q)) : J X (exec (.If test body orelse pos) X.env) m σ Q :=
  fun b _ B S => wpAny_If (h.seq B S fun c _ _ _ B' S' hP => by cases c <;> exact hP _ _ B' S')
theorem j_Return_some {e pos} {Q : Flow → Loc → Led → Prop} (h : J X (eval e X.env) m σ (fun v => Q (.ret v))) : J X (exec (.Return (some e) pos) X.env) m σ Q :=
  fun b _ B S => wpAny_Return_some (h.seq B S fun _ _ _ _ B' S' q => .mk B' S' q)
theorem j_Return_none {pos} {Q : Flow → Loc → Led → Prop} (h : Q (.ret .none) m σ) : J X (exec (.Return none pos) X.env) m σ Q := fun _ _ B S => wpAny_Return_none (.mk B S h)

theorem j_isTrue_Compare1 {l op r pos whole} {Q : Bool → Loc → Led → Prop} (h : J X (eval l X.env) m σ (fun a m' σ' => J X (eval r X.env) m' σ' (fun b m' σ' => J X (compareOp op a b) m' σ' (fun c m' σ' => J X (truthy c) m' σ' Q))))
    (hm : behindInMarks op r = false) : J X (isTrue (.Compare l [op] [r] pos) X.env whole) m σ Q :=
  fun b _ B S => wpAny_isTrue_Compare1 (hm := hm) (h.seq B S fun _ _ _ _ B' S' hP => hP.seq B' S' fun _ _ _ _ B' S' hP => hP.seq B' S' fun _ _ _ _ B' S' hP => hP _ _ B' S')
theorem j_isTrue_Not {x pos whole} {Q : Bool → Loc → Led → Prop} (h : J X (isTrue x X.env (eval x X.env)) m σ (fun c => Q (!c))) : J X (isTrue (.UnaryOp .Not x pos) X.env whole) m σ Q :=
  fun b _ B S => wpAny_isTrue_Not (h.seq B S fun _ _ _ _ B' S' hP => .mk B' S' hP)
theorem j_isTrue_and_nil {pos whole} {Q : Bool → Loc → Led → Prop} (h : Q true m σ) : J X (isTrue (.BoolOp .And [] pos) X.env whole) m σ Q := fun _ _ B S => PyProof.Rows.isTrue_and_nil (.mk B S h)
theorem j_isTrue_or_nil {pos whole} {Q : Bool → Loc → Led → Prop} (h : Q false m σ) : J X (isTrue (.BoolOp .Or [] pos) X.env whole) m σ Q := fun _ _ B S => PyProof.Rows.isTrue_or_nil (.mk B S h)
theorem j_isTrue_and {x rest pos whole} {Q : Bool → Loc → Led → Prop} (h : J X (isTrue x X.env (eval x X.env)) m σ (fun c m' σ' => if c then J X (isTrue (.BoolOp .And rest pos) X.env whole) m' σ' Q else Q false m' σ')) : J X (isTrue (.BoolOp .And (x :: rest) pos) X.env whole) m σ Q :=
  fun b _ B S => PyProof.Rows.isTrue_and (h.seq B S fun c _ _ _ B' S' hP => by cases c <;> first | exact hP _ _ B' S' | exact .mk B' S' hP)
theorem j_isTrue_or {x rest pos whole} {Q : Bool → Loc → Led → Prop} (h : J X (isTrue x X.env (eval x X.env)) m σ (fun c m' σ' => if c then Q true m' σ' else J X (isTrue (.BoolOp .Or rest pos) X.env whole) m' σ' Q)) : J X (isTrue (.BoolOp .Or (x :: rest) pos) X.env whole) m σ Q :=
  fun b _ B S => PyProof.Rows.isTrue_or (h.seq B S fun c _ _ _ B' S' hP => by cases c <;> first | exact .mk B' S' hP | exact hP _ _ B' S')
theorem j_isTrue_plain {e : PySem.Expr} {whole : Sem Value} {Q : Bool → Loc → Led → Prop} (h : J X whole m σ (fun v m' σ' => J X (truthy v) m' σ' Q)) (he : isTrue e X.env whole = (do let v ← whole; standAt e.pos; PySem.holding [v] (truthy v))) : J X (isTrue e X.env whole) m σ Q :=
  fun b _ B S => PyProof.Rows.isTrue_plain (he := he) (h.seq B S fun _ _ _ _ B' S' hP => hP _ _ B' S')

theorem j_BinOp {l op r pos} {Q : Value → Loc → Led → Prop} (h : J X (eval l X.env) m σ (fun a m' σ' => J X (eval r X.env) m' σ' (fun b m' σ' => J X (binaryOp op a b) m' σ' Q))) : J X (eval (.BinOp l op r pos) X.env) m σ Q :=
  fun b _ B S => wpAny_BinOp (h.seq B S fun _ _ _ _ B' S' hP => hP.seq B' S' fun _ _ _ _ B' S' hP => hP _ _ B' S')
theorem j_Compare1 {l op r pos} {Q : Value → Loc → Led → Prop} (h : J X (eval l X.env) m σ (fun a m' σ' => J X (eval r X.env) m' σ' (fun b m' σ' => J X (compareOp op a b) m' σ' Q))) (hm : behindInMarks op r = false) : J X (eval (.Compare l [op] [r] pos) X.env) m σ Q :=
  fun b _ B S => wpAny_Compare1 (hm := hm) (h.seq B S fun _ _ _ _ B' S' hP => hP.seq B' S' fun _ _ _ _ B' S' hP => hP _ _ B' S')
theorem j_UnaryOp {op x pos} {Q : Value → Loc → Led → Prop} (h : J X (eval x X.env) m σ (fun v m' σ' => J X (unaryOp op v) m' σ' Q)) : J X (eval (.UnaryOp op x pos) X.env) m σ Q :=
  fun b _ B S => wpAny_UnaryOp (h.seq B S fun _ _ _ _ B' S' hP => hP _ _ B' S')
theorem j_Not_of {v : Value} {Q : Value → Loc → Led → Prop} (h : J X (truthy v) m σ (fun c => Q (.bool (!c)))) : J X (unaryOp .Not v) m σ Q :=
  fun b _ B S => PyProof.Rows.not_of (h.seq B S fun _ _ _ _ B' S' hP => .mk B' S' hP)
theorem j_IfExp {test body orelse pos} {Q : Value → Loc → Led → Prop} (h : J X (isTrue test X.env (eval test X.env)) m σ (fun c m' σ' => if c then J X (eval body X.env) m' σ' Q else J X (eval orelse X.env) m' σ' Q)) : J X (eval (.IfExp test body orelse pos) X.env) m σ Q :=
  fun b _ B S => wpAny_IfExp (h.seq B S fun c _ _ _ B' S' hP => by cases c <;> exact hP _ _ B' S')
theorem j_Tuple {elts k pos} {Q : Value → Loc → Led → Prop} (h : J X (spliced (backTo pos (starEach elts X.env))) m σ (fun vs m' σ' => J X (newTuple vs) m' σ' Q)) : J X (eval (.Tuple elts k pos) X.env) m σ Q :=
  fun b _ B S => Tuple_ (h.seq B S fun _ _ _ _ B' S' hP => hP _ _ B' S')
theorem j_List {elts pos} {Q : Value → Loc → Led → Prop} (h : J X (spliced (backTo pos (starEach elts X.env))) m σ (fun vs m' σ' => J X (newList vs) m' σ' Q)) : J X (eval (.List elts pos) X.env) m σ Q :=
  fun b _ B S => List_ (h.seq B S fun _ _ _ _ B' S' hP => hP _ _ B' S')
theorem j_spliced_nil {Q : List Value → Loc → Led → Prop} (h : Q [] m σ) : J X (spliced []) m σ Q := J.pure h
theorem j_spliced_cons {t : Sem Value} {rest} {Q : List Value → Loc → Led → Prop} (h : J X t m σ (fun v m' σ' => J X (spliced rest) m' σ' (fun vs => Q (v :: vs)))) : J X (spliced ((false, t) :: rest)) m σ Q := by
  unfold spliced
  refine .bind (h.mono fun v m' σ' hP => ?_)
  exact .bind (.pure (.bind (.holding (hP.mono fun vs _ _ q => J.pure q))))
theorem j_newTuple {vs : List Value} {Q : Value → Loc → Led → Prop} (h : ∀ a, σ a = none → Q (.ref a) m (σ.set a { cls := .type "tuple", data := .seq vs.toArray })) (hsz : vs.length ≤ sizeLine) : J X (newTuple vs) m σ Q :=
  fun _ _ B S => wpAny_newObj_type (hd := by show vs.toArray.size ≤ sizeLine; rw [List.size_toArray]; exact hsz) (.mk B.heap (S.push) (h _ (S.fresh (Nat.le_refl _)).1))
theorem j_newList {vs : List Value} {Q : Value → Loc → Led → Prop} (h : ∀ a, σ a = none → Q (.ref a) m (σ.set a (listOf vs.toArray 0))) (hsz : vs.length ≤ sizeLine) : J X (newList vs) m σ Q :=
  fun _ _ B S => wpAny_newObj_type (hd := by show vs.toArray.size ≤ sizeLine; rw [List.size_toArray]; exact hsz) (.mk B.heap (S.push) (h _ (S.fresh (Nat.le_refl _)).1))
theorem j_Subscript {value slice pos} {Q : Value → Loc → Led → Prop} (h : J X (eval value X.env) m σ (fun o m' σ' => J X (eval slice X.env) m' σ' (fun i m' σ' => J X (subscriptTail value slice o i) m' σ' Q))) : J X (eval (.Subscript value slice pos) X.env) m σ Q :=
  fun b _ B S => PyProof.Rows.Subscript_ (h.seq B S fun _ _ _ _ B' S' hP => hP.seq B' S' fun _ _ _ _ B' S' hP => hP _ _ B' S')
theorem j_Attribute {value attr pos} {Q : Value → Loc → Led → Prop} (h : J X (eval value X.env) m σ (fun o m' σ' => J X (getAttr o attr true) m' σ' Q))
    (he : eval (.Attribute value attr pos) X.env = (do let o ← eval value X.env; standAt pos.atName; let r ← PySem.holding [o] (getAttr o attr true); letTemporaryGo value o r; Pure.pure r)) : J X (eval (.Attribute value attr pos) X.env) m σ Q :=
  fun b _ B S => PyProof.Rows.Attribute_any_ (he := he) (h.seq B S fun _ _ _ _ B' S' hP => hP _ _ B' S')
end
end
section
--FILE JN
noncomputable def NsObj (o : Obj) (m : Loc) : Prop := ∃ es ep, o.data = .dict es ep ∧ StrKeys es ∧ ∀ name, nsFind es name = m name

structure Cx.Ok (X : Cx) (d : Nat) : Prop where
  kin : (hd.heap_1 X.w.params).In X.h₀
  top : ∃ mean mg mb, Top hd.view_39 (looseW hd.view_39 []) mean mg mb X.h₀
  hh : X.A.handled = none
  kind : X.env.scope.kind = .function
  glob : X.env.globals = mainGlobals
  bi : X.env.builtins = builtinsNs
  below : ∃ A₀ base fenv outer Lf oL mf, Below A₀ base outer X.h₀ ∧ X.A.frames = some (fenv :: outer) ∧ fenv.frame = some Lf ∧ fenv.scope.kind = .function ∧
    (Lf = X.env.locals ∨ ((Lf, oL) ∈ X.fns ∧ NsObj oL mf))
  depth : X.A.depth + d < 900
  units : X.A.units + 40 * d < 9000

section
variable {X : Cx} {m : Loc} {σ : Led} {s : Shared} {d : Nat}

theorem Cx.Ok.less {d' : Nat} (O : X.Ok d) (h : d' ≤ d) : X.Ok d' := { O with depth := by have := O.depth; omega, units := by have := O.units; omega }

theorem Cx.Ok.inn (O : X.Ok d) (S : St X m σ s) : (hd.heap_1 X.w.params).In s.heap := O.kin.keeps S.fr.keep

noncomputable def others (X : Cx) (h : Heap) (d : Addr) : List (Addr × Obj) :=
  (List.range h.objs.size).filterMap fun a => if a ≠ d ∧ a ≠ X.env.locals ∧ (X.h₀.get? a).isNone then (h.get? a).map fun o => (a, o) else none
theorem mem_others {h : Heap} {d : Addr} {p : Addr × Obj} : p ∈ others X h d ↔ p.1 ≠ d ∧ p.1 ≠ X.env.locals ∧ X.h₀.get? p.1 = none ∧ h.get? p.1 = some p.2 := by
  unfold others
  rw [List.mem_filterMap]
  constructor
  · (intro zr1; refine x1_2 zr1 ?_; clear zr1; intro a _ e)
    split at e
    · rename_i c
      (refine x1_2 (Option.map_eq_some_iff.mp e) ?_; intro o ho er1; obtain rfl := er1)
      exact (i0_4 (c.1) ( c.2.1) ( Option.isNone_iff_eq_none.mp c.2.2) ( ho))
    · cases e
  · (intro zr1; refine x0_4 zr1 ?_; clear zr1; intro a b c e)
    refine (i1_2 (p.1) ( List.mem_range.mpr (Heap.lt_size e)) ( ?_))
    rw [if_pos (i0_3 (a) ( b) ( Option.isNone_iff_eq_none.mpr c)), e]; rfl
theorem others_ne {h : Heap} {d : Addr} : ∀ p ∈ others X h d, p.1 ≠ d := fun _ hp => (mem_others.mp hp).1
theorem St.news (S : St X m σ s) {a : Addr} {o : Obj} (hs : σ a = some o) : News X.h₀ X.env.locals s.heap ((a, o) :: others X s.heap a) := by
  intro p hp
  rcases List.mem_cons.mp hp with rfl | hp
  · exact S.nw _ _ hs
  · have := mem_others.mp hp
    exact (i0_3 (this.2.2.2) ( this.2.1) ( this.2.2.1))
theorem St.newsAll (S : St X m σ s) : News X.h₀ X.env.locals s.heap (others X s.heap s.heap.objs.size) := fun p hp => by
  have := mem_others.mp hp
  exact (i0_3 (this.2.2.2) ( this.2.1) ( this.2.2.1))
theorem St.ofKept {h' : Heap} {tk : Nat} {m' : Loc} {a : Addr} (S : St X m σ s) (F' : Fr X.h₀ X.env.locals h' m') (N' : ∀ p ∈ others X s.heap a, h'.get? p.1 = some p.2) :
    ∀ b o, b ≠ a → b ≠ X.env.locals → s.heap.get? b = some o → h'.get? b = some o := by
  intro b o hb hL e
  cases q : X.h₀.get? b with
  | none => exact N' (b, o) (mem_others.mpr (i0_4 (hb) ( hL) ( q) ( e)))
  | some o' =>
    have := S.fr.keep b o' q
    (first | exact nos (e) this | exact nos this (e) | (rw [e] at this; cases this))
    exact F'.keep b o q
theorem St.ofNews {h' : Heap} {tk : Nat} {m' : Loc} {a : Addr} {o o' : Obj} (S : St X m σ s) (hs : σ a = some o) (F' : Fr X.h₀ X.env.locals h' m') (N' : News X.h₀ X.env.locals h' ((a, o') :: others X s.heap a)) :
    St X m' (σ.set a o') { s with heap := h', toks := tk } := by
  have k := S.ofKept (tk := tk) F' fun p hp => (N' p (.tail _ hp)).1
  have N := S.nw a o hs
  refine ⟨F', fun b ob e => ?_, fun p hp => ?_⟩
  · by_cases q : b = a
    · subst q; (first | exact nos (Led.set_self) e | exact nos e (Led.set_self) | (rw [Led.set_self] at e; cases e)); exact ⟨(N' _ (.head _)).1, N.2⟩
    · rw [Led.set_ne q] at e
      have z := S.nw b ob e
      exact ⟨k b ob q z.2.1 z.1, z.2⟩
  · have f := S.fn p hp
    have q : p.1 ≠ a := by rintro rfl; (first | exact nos (f.2.2.2) hs | exact nos hs (f.2.2.2) | (rw [f.2.2.2] at hs; cases hs))
    exact (i0_4 (k _ _ q f.2.2.1 f.1) ( f.2.1) ( f.2.2.1) ( by first | exact ((Led.set_ne q).trans f.2.2.2) | (rw [Led.set_ne q]; exact f.2.2.2)))

theorem j_get_own {x C dx : Addr} {name : Str} {es : List DictEntry} {n : Nat} {v : Value} {attr : Option Value} {sl : Array (Option Value)} {expr : Bool} {Q : Value → Loc → Led → Prop} (O : X.Ok d)
    (h1 : σ x = some ⟨.ref C, some dx, .plain, sl⟩) (h2 : σ dx = some (dictOf es n)) (hg : plainGet (hd.heap_1 X.w.params) C name = true) (hh : hasDictIn (hd.heap_1 X.w.params) C = true) (ha : findIn (hd.heap_1 X.w.params) (.ref C) name = some attr) (hn : noGet (hd.heap_1 X.w.params) attr = true)
    (hl : getL name es = some (some v)) (hv : handedIn v = true) (h : Q v m σ) : J X (getAttr (.ref x) name expr) m σ Q :=
  fun b s B S => get_own S.fr O.kin ⟨(S.nw _ _ h1).1, rfl, rfl, (S.nw _ _ h2).1⟩ hg hh ha hn hl hv (.mk B.tk S.toks h)
theorem j_method {x C dx f : Addr} {name : Str} {es : List DictEntry} {n : Nat} {sl : Array (Option Value)} {pl : Sem Bool} {Q : Value × List Value → Loc → Led → Prop} (O : X.Ok d)
    (h1 : σ x = some ⟨.ref C, some dx, .plain, sl⟩) (h2 : σ dx = some (dictOf es n)) (hg : plainGet (hd.heap_1 X.w.params) C name = true) (hf : findIn (hd.heap_1 X.w.params) (.ref C) name = some (some (.ref f))) (ht : isFn (hd.heap_1 X.w.params) (.ref f) = true)
    (hl : getL name es = some none) (h : Q (.ref f, [.ref x]) m σ) : J X (getMethod (.ref x) name pl) m σ Q :=
  fun b s B S => method_inst S.fr O.kin ⟨(S.nw _ _ h1).1, rfl, rfl, (S.nw _ _ h2).1⟩ hg hf ht hl (.mk B S h)
theorem j_setAttr {x C dx : Addr} {name : Str} {es : List DictEntry} {n : Nat} {v : Value} {sl : Array (Option Value)} {Q : Unit → Loc → Led → Prop} (O : X.Ok d)
    (h1 : σ x = some ⟨.ref C, some dx, .plain, sl⟩) (h2 : σ dx = some (dictOf es n)) (hs : findIn (hd.heap_1 X.w.params) (.ref C) "__setattr__" = some (some (.builtin "object.__setattr__"))) (hp : plainOver (hd.heap_1 X.w.params) C = true)
    (ht : takerIn (hd.heap_1 X.w.params) C name = some none) (hh : hasDictIn (hd.heap_1 X.w.params) C = true) (hl : (getL name es).isSome = true)
    (hz : es.length < 1000) (h : ∀ t, Q () m (σ.set dx (dictOf (putL name (PyData.keyHash X.w.params name) (.str name t) v es) (putN name es n)))) : J X (setAttr (.ref x) name v) m σ Q :=
  fun b s B S => set_dict S.fr O.kin (S.news h2) ⟨(S.nw _ _ h1).1, rfl, rfl, (S.nw _ _ h2).1⟩ rfl hs hp ht hh hl rfl (.head others_ne)
    (by
      have : ∀ l : List DictEntry, (putL name (PyData.keyHash X.w.params name) (.str name (s.toks + 1)) v l).length ≤ l.length + 1 := by
        intro l
        induction l with
        | nil => simp [putL]
        | cons e r ih => unfold putL; split <;> simp at * <;> exact ih
      have := this es; omega)
    fun h' F' N' => .mk B.to (S.ofNews h2 F' N') (h _)

theorem j_name_local {x : Str} {pos : Pos} {v : Value} {Q : Value → Loc → Led → Prop} (O : X.Ok d) (hx : X.env.kindOf x = some .local) (hv : m x = some v) (h : Q v m σ) (hd : (x == ("__debug__" : Str)) = false) : J X (eval (.Name x pos) X.env) m σ Q :=
  fun b s B S => wpAny_Name (hd := hd) (wpAny_loadName_local O.kind hx S.fr.ns hv (.mk B S h))
theorem j_name_cell {x : Str} {pos : Pos} {v : Value} {c : Addr} {o : Obj} {Q : Value → Loc → Led → Prop} (O : X.Ok d) (hx : X.env.kindOf x = some .cell) (hc : X.env.cells.lookup x = some c) (hs : σ c = some o) (ho : o.data = .cell (some v)) (h : Q v m σ) (hd : (x == ("__debug__" : Str)) = false) : J X (eval (.Name x pos) X.env) m σ Q :=
  fun b s B S => wpAny_Name (hd := hd) (wpAny_loadName_cell O.kind hx hc (i1_2 (o) ( (S.nw _ _ hs).1) ( ho)) (.mk B S h))
theorem j_name_global {x : Str} {pos : Pos} {v : Value} {Q : Value → Loc → Led → Prop} (O : X.Ok d) (hx : X.env.kindOf x = some .globalImplicit) (e : nsIn (hd.heap_1 X.w.params) mainGlobals x = some (some v)) (h : Q v m σ) (hd : (x == ("__debug__" : Str)) = false) : J X (eval (.Name x pos) X.env) m σ Q := by
  intro b s B S
  (refine x3_1 O.top ?_; intro mean mg mb T)
  exact Name_function_global (hd := hd) O.kind hx (loadGlobal_global (O.glob ▸ T.g.keeps S.fr.keep) (mg_of O.kin T.g e) (.mk B S h))
theorem j_name_builtin {x : Str} {pos : Pos} {v : Value} {Q : Value → Loc → Led → Prop} (O : X.Ok d) (hx : X.env.kindOf x = some .globalImplicit) (e : nsIn (hd.heap_1 X.w.params) mainGlobals x = some none) (hv : bootBuiltins x = some v) (hn : x ≠ "__name__") (h : Q v m σ) (hd : (x == ("__debug__" : Str)) = false) : J X (eval (.Name x pos) X.env) m σ Q := by
  intro b s B S
  (refine x3_1 O.top ?_; intro mean mg mb T)
  exact Name_function_global (hd := hd) O.kind hx (loadGlobal_builtin (O.glob ▸ T.g.keeps S.fr.keep) (mg_none_of O.kin T.g e) (O.bi ▸ T.b.keeps S.fr.keep) ((T.builtins x hn).trans hv) (.mk B S h))
theorem j_store_local {x : Str} {v : Value} {Q : Unit → Loc → Led → Prop} (O : X.Ok d) (hx : X.env.kindOf x = some .local) (h : Q () (m.set x v) σ) : J X (storeName X.env x v) m σ Q := by
  intro b s B S
  refine wpAny_storeName_local hx S.fr.ns (fun h' hn hs => .mk B.to (S.local hn hs.extBut) h) ?_
  rw [O.kind]; rfl
theorem j_store_cell {x : Str} {v : Value} {v₀ : Option Value} {c : Addr} {o : Obj} {Q : Unit → Loc → Led → Prop} (O : X.Ok d) (hx : X.env.kindOf x = some .cell) (hc : X.env.cells.lookup x = some c) (hs : σ c = some o) (ho : o.data = .cell v₀)
    (h : ∀ o', o'.data = .cell (some v) → Q () m (σ.set c o')) : J X (storeName X.env x v) m σ Q := by
  intro b s B S
  refine wpAny_storeName_cell O.kind hx hc (i1_2 (o) ( (S.nw _ _ hs).1) ( ho)) fun h' hv hb => ?_
  (refine x1_2 hv ?_; clear hv; intro o' ho' hd')
  exact .mk B.heap (S.upd hs hb.extBut ho') (h o' hd')

theorem j_Call {func : PySem.Expr} {args : List PySem.Expr} {pos : Pos} {Q : Value → Loc → Led → Prop} (h : J X (eval func X.env) m σ (fun f m' σ' => J X (callWith pos f [] (backTo pos (starEach args X.env)) []) m' σ' Q))
    (he : eval (.Call func args [] pos) X.env = (do callWith pos (← eval func X.env) [] (backTo pos (starEach args X.env)) (backToKw pos (keywordEach [] X.env)))) : J X (eval (.Call func args [] pos) X.env) m σ Q :=
  fun b s B S => PyProof.Rows.Call_ (he := he) (h.seq B S fun _ _ _ _ B' S' hP => hP _ _ B' S')
theorem j_CallMethod {o : PySem.Expr} {name : Str} {apos pos : Pos} {args : List PySem.Expr} {pl : Sem Bool} {Q : Value → Loc → Led → Prop}
    (h : J X (eval o X.env) m σ (fun ov m' σ' => J X (getMethod ov name pl) m' σ' (fun fx m' σ' => J X (callWith pos fx.1 fx.2 (backTo pos (starEach args X.env)) []) m' σ' Q)))
    (he : eval (.Call (.Attribute o name apos) args [] pos) X.env = (do
      let ov ← eval o X.env
      standAt apos.atName
      let (f, first) ← holding [ov] (getMethod ov name pl)
      callWith pos f first (backTo pos (starEach args X.env)) (backToKw pos (keywordEach [] X.env)))) : J X (eval (.Call (.Attribute o name apos) args [] pos) X.env) m σ Q :=
  fun b s B S => methodCall_KW (he := he) (h.seq B S fun _ _ _ _ B' S' hP => hP.seq B' S' fun _ _ _ _ B' S' hP => hP _ _ B' S')
theorem j_callWith_K {f : Value} {first : List Value} {e : PySem.Expr} {rest : List PySem.Expr} {pos : Pos} {Q : Value → Loc → Led → Prop} (O : X.Ok d) (hk : keepIn (hd.heap_1 X.w.params) f = true)
    (h : J X (spliced (backTo pos (starEach (e :: rest) X.env))) m σ (fun vs m' σ' => J X (call f (first ++ vs)) m' σ' Q))
    (he : starEach (e :: rest) X.env = (false, eval e X.env) :: starEach rest X.env) (hplain : (backTo pos (starEach rest X.env)).any (·.1) = false) : J X (callWith pos f first (backTo pos (starEach (e :: rest) X.env)) []) m σ Q :=
  fun b s B S => PySem.W.callWith_K (he := he) (hplain := hplain) O.kin hk (h.seq B S fun _ _ _ _ B' S' hP => ⟨O.inn S', hP _ _ B' S'⟩)
theorem j_callWith_K0 {f : Value} {first : List Value} {pos : Pos} {Q : Value → Loc → Led → Prop} (O : X.Ok d) (hk : keepIn (hd.heap_1 X.w.params) f = true)
    (h : J X (call f (first ++ [])) m σ Q) : J X (callWith pos f first (backTo pos (starEach [] X.env)) []) m σ Q :=
  fun b s B S => PySem.W.callWith_K0 (O.inn S) hk (h _ _ B S)
theorem j_callWith_builtin {id : String} {first : List Value} {e : PySem.Expr} {rest : List PySem.Expr} {pos : Pos} {Q : Value → Loc → Led → Prop}
    (h : J X (spliced (backTo pos (starEach (e :: rest) X.env))) m σ (fun vs m' σ' => J X (call (.builtin id) (first ++ vs)) m' σ' Q))
    (he : starEach (e :: rest) X.env = (false, eval e X.env) :: starEach rest X.env) (hplain : (backTo pos (starEach rest X.env)).any (·.1) = false) : J X (callWith pos (.builtin id) first (backTo pos (starEach (e :: rest) X.env)) []) m σ Q :=
  fun b s B S => callWith_method1 (he := he) (hplain := hplain) (h.seq B S fun _ _ _ _ B' S' hP => hP _ _ B' S')
theorem j_callWith_builtin0 {id : String} {first : List Value} {pos : Pos} {Q : Value → Loc → Led → Prop}
    (h : J X (call (.builtin id) first) m σ Q) : J X (callWith pos (.builtin id) first (backTo pos (starEach [] X.env)) []) m σ Q :=
  fun b s B S => callWith_method0 (h _ _ B S)
theorem j_callWith_type {T : String} {e : PySem.Expr} {rest : List PySem.Expr} {pos : Pos} {Q : Value → Loc → Led → Prop}
    (h : J X (spliced (backTo pos (starEach (e :: rest) X.env))) m σ (fun vs m' σ' => J X (call (.type T) vs) m' σ' Q))
    (he : starEach (e :: rest) X.env = (false, eval e X.env) :: starEach rest X.env) (hplain : (backTo pos (starEach rest X.env)).any (·.1) = false) : J X (callWith pos (.type T) [] (backTo pos (starEach (e :: rest) X.env)) []) m σ Q :=
  fun b s B S => PyProof.Rows.callWith_type1 (he := he) (hplain := hplain) (h.seq B S fun _ _ _ _ B' S' hP => hP _ _ B' S')
end
end
section
--FILE JC
noncomputable def flowVal (f : Flow) : Value := match f with | .ret v => v | _ => .none

noncomputable def Back (X : Cx) (m : Loc) (R : Value → Led → Prop) (b : Shared) (r : Result) (s' : Shared) : Prop :=
  match r with | .ok (.ret v) => Done X (fun r m' σ' => m' = m ∧ R r σ') b v s' | .ok _ => False | .error _ => False
noncomputable def Spec (w : World) (f : Addr) (args : List Value) (d : Nat) (σ : Led) (R : Value → Led → Prop) : Prop :=
  ∀ (X : Cx) (m : Loc), X.w = w → X.Ok d → ∀ b s : Shared, Same b s → St X m σ s → codeAny (model PR X.w) X.A (.call (.ref f) ⟨args, []⟩) (Back X m R b) s
theorem Spec.j {w : World} {f : Addr} {args : List Value} {d d' : Nat} {σ : Led} {R : Value → Led → Prop} (h : Spec w f args d σ R) {X : Cx} {m : Loc} (hw : X.w = w) (O : X.Ok d') (hd : d ≤ d' := by omega) : J X (call (.ref f) args) m σ (fun r m' σ' => m' = m ∧ R r σ') :=
  fun b s B S => wpAny_call (codeAny_mono (h X m hw (O.less hd) b s B S) fun r s' q => by unfold Back at q; split at q <;> first | exact q | exact q.elim)

noncomputable def ledList (σ : Led) (h : Heap) : List (Addr × Obj) := (List.range h.objs.size).filterMap fun a => (σ a).map fun o => (a, o)
theorem mem_ledList {σ : Led} {h : Heap} {p : Addr × Obj} : p ∈ ledList σ h ↔ p.1 < h.objs.size ∧ σ p.1 = some p.2 := by
  unfold ledList
  rw [List.mem_filterMap]
  constructor
  · (intro zr1; refine x1_2 zr1 ?_; clear zr1; intro a ha e)
    (refine x1_2 (Option.map_eq_some_iff.mp e) ?_; intro o ho er1; obtain rfl := er1)
    exact ⟨List.mem_range.mp ha, ho⟩
  · (intro zt1; refine x0_2 zt1 ?_; clear zt1; intro h e)
    exact (i1_2 (p.1) ( List.mem_range.mpr h) ( by rw [e]; rfl))

section
variable {X : Cx} {m : Loc} {σ : Led} {s : Shared} {d : Nat}

theorem St.mem {a : Addr} (S : St X m σ s) : a ∈ (ledList σ s.heap).map (·.1) ↔ (σ a).isSome = true := by
  constructor
  · intro h
    (refine x1_2 (List.mem_map.mp h) ?_; intro p hp er1; obtain rfl := er1)
    rw [(mem_ledList.mp hp).2]; rfl
  · intro h
    (refine x1_1 (Option.isSome_iff_exists.mp h) ?_; intro o ho)
    exact List.mem_map.mpr (i1_2 ((a, o)) ( mem_ledList.mpr ⟨Heap.lt_size (S.nw a o ho).1, ho⟩) ( rfl))

noncomputable abbrev ground (σ : Led) (s : Shared) : Heap := hideAll s.heap ((ledList σ s.heap).map (·.1))

theorem St.ground_get (S : St X m σ s) {b : Addr} {o : Obj} (hb : σ b = none) (e : s.heap.get? b = some o) : (ground σ s).get? b = some o :=
  hideAll_get _ e fun q => by rw [S.mem, hb] at q; cases q
theorem St.ground_none (S : St X m σ s) {b : Addr} {o : Obj} (hb : σ b = some o) : (ground σ s).get? b = none :=
  hideAll_none _ (S.mem.mpr (by rw [hb]; rfl))
theorem St.locals_none (S : St X m σ s) : σ X.env.locals = none := by
  cases q : σ X.env.locals with
  | none => rfl
  | some o => exact absurd rfl (S.nw _ _ q).2.1
theorem St.base_none (S : St X m σ s) {b : Addr} {o : Obj} (e : X.h₀.get? b = some o) : σ b = none := by
  cases q : σ b with
  | none => rfl
  | some o' => have := (S.nw _ _ q).2.2; (first | exact nos (e) this | exact nos this (e) | (rw [e] at this; cases this))

theorem St.groundOk (S : St X m σ s) (O : X.Ok d) :
    (hd.heap_1 X.w.params).In (ground σ s) ∧ (∃ mean mg mb, Top hd.view_39 (looseW hd.view_39 []) mean mg mb (ground σ s)) ∧ ∃ base fenv outer, Below X.A base (fenv :: outer) (ground σ s) := by
  have st : X.h₀.StaysIn (ground σ s) := fun b o e => S.ground_get (S.base_none e) (S.fr.keep b o e)
  refine (i0_3 (O.kin.keeps st) ( let ⟨a, b, c, T⟩ := O.top; (i3_1 (a) ( b) ( c) ( T.keeps st))) ( ?_))
  (refine x7_5 O.below ?_; intro A₀ base fenv outer Lf oL mf B hA hf hk hL)
  refine (i3_1 (base) ( fenv) ( outer) ( ?_))
  have FN : ∃ mf', Fr X.h₀ Lf s.heap mf' ∧ σ Lf = none := by
    rcases hL with rfl | ⟨hm, hn⟩
    · exact (i1_2 (m) ( S.fr) ( S.locals_none))
    · have f := S.fn _ hm
      (refine x2_1 hn ?_; clear hn; intro es ep r)
      exact (i1_2 (mf) ( ⟨(i3_2 (oL) ( es) ( ep) ( f.1) ( r)), S.fr.keep, f.2.1⟩) ( f.2.2.2))
  (refine x1_1 FN ?_; clear FN; intro mf' FN)
  have N : News X.h₀ Lf s.heap (ledList σ s.heap) := fun p hp => by
    have h := (mem_ledList.mp hp).2
    have z := S.nw _ _ h
    exact (i0_3 (z.1) ( fun e => (by rw [e, FN.2] at h; cases h)) ( z.2.2))
  exact (groundX (R := fun _ _ => True) B FN.1 N hA hf hk).2.1

theorem St.back (S : St X m σ s) {X' : Cx} (e : X'.h₀ = ground σ s) {m' : Loc} {σ' : Led} {s' : Shared} (S' : St X' m' σ' s') : St X m σ' s' := by
  have keep : ∀ b o, σ b = none → s.heap.get? b = some o → s'.heap.get? b = some o := fun b o hb h => S'.fr.keep b o (e ▸ S.ground_get hb h)
  have none' : ∀ b o o', σ b = none → s.heap.get? b = some o → σ' b = some o' → False := fun b o o' hb h q => by
    have := (S'.nw _ _ q).2.2
    rw [e, S.ground_get hb h] at this; cases this
  (refine x3_2 (id S.fr.ns) ?_; intro oL es ep hL r)
  refine ⟨⟨S.fr.ns.at' fun o h => keep _ o S.locals_none h, fun b o h => keep b o (S.base_none h) (S.fr.keep b o h), S.fr.above⟩, fun a o q => (i0_3 ((S'.nw _ _ q).1) ( ?_) ( ?_)), fun p hp => ?_⟩
  · rintro rfl; exact none' _ _ _ S.locals_none hL q
  · cases h : X.h₀.get? a with
    | none => rfl
    | some o' => exact (none' _ _ _ (S.base_none h) (S.fr.keep _ _ h) q).elim
  · have f := S.fn p hp
    refine (i0_4 (keep _ _ f.2.2.2 f.1) ( f.2.1) ( f.2.2.1) ( ?_))
    cases q : σ' p.1 with
    | none => rfl
    | some o' => exact (none' _ _ _ f.2.2.2 f.1 q).elim
end

section
variable {w : World} {d : Nat} {σ : Led} {R : Value → Led → Prop} {f : Addr} {args : List Value}
  {name qual : Str} {params : Arguments} {body : List Stmt} {scope : Scope} {dV kV doc pm cdv ct oc : Value} {an od : Option Addr} {osl : Array (Option Value)} {binds : List (Str × Value)}

theorem spec_def (ho : (hd.heap_1 w.params).lookup f = some ⟨oc, od, .func (fnOf name qual params body scope dV kV doc pm an cdv ct), osl⟩) (hcd : codeIn (hd.heap_1 w.params) cdv qual = true)
    (hbind : bindArgs (fnOf name qual params body scope dV kV doc pm an cdv ct) ⟨args, []⟩ = pure binds) (hloc : ∀ y ∈ binds, scope.names.lookup y.1 = some .local)
    (hcell : ∀ x ∈ scope.names, x.2 ≠ .cell) (hco : scope.isCoroutine = false) (hgen : scope.isGenerator = false) (hk : scope.kind = .function)
    (h : ∀ X : Cx, X.w = w → X.Ok d → X.env = envOf qual scope X.env.locals f cdv →
      J X (execs body X.env) (fun y => binds.reverse.lookup y) σ (fun fl _ σ' => R (flowVal fl) σ')) :
    Spec w f args (d + 1) σ R := by
  (intro X m er1 O b s B S; obtain rfl := er1)
  obtain ⟨XG, TG, base, fenv, outer, BG⟩ := S.groundOk O
  have OI := O.inn S
  (refine x3_1 O.top ?_; intro mean mg mb T)
  refine codeAny_call_def (fd := fnOf name qual params body scope dV kV doc pm an cdv ct) (body := body) (binds := binds) (by have := O.depth; show _ < 1000; omega) (OI _ _ ho) rfl (T.nolimit.keeps S.fr.keep) (codeRec_of OI hcd) rfl (.of_eq hbind) hcell hloc (fun h₁ hns hk₁ => ?_) hco hgen hk
  have O' : Cx.Ok ⟨X.w, X.A.deeper (envOf qual scope s.heap.objs.size f cdv), envOf qual scope s.heap.objs.size f cdv, ground σ s, []⟩ d :=
    { kin := XG, top := TG, hh := O.hh, kind := hk, glob := rfl, bi := rfl
      below := (i7_5 (X.A) ( base) ( envOf qual scope s.heap.objs.size f cdv) ( fenv :: outer) ( s.heap.objs.size) ( default) ( fun _ => none) ( BG) ( Around.frames_deeper BG.stack) ( rfl) ( hk) ( .inl rfl))
      depth := by have := O.depth; show X.A.depth + 1 + d < 900; omega
      units := by have := O.units; show X.A.units + 3 + 40 * d < 9000; omega }
  have S₁ : St ⟨X.w, X.A.deeper (envOf qual scope s.heap.objs.size f cdv), envOf qual scope s.heap.objs.size f cdv, ground σ s, []⟩ (fun y => binds.reverse.lookup y) σ { s with heap := h₁, toks := s.toks + binds.length } :=
    ⟨⟨hns, fun b o e => hk₁ b o (of_hideAll _ e), Nat.le_of_eq (hideAll_size _ _)⟩, fun a o e => (i0_3 (hk₁ _ _ (S.nw a o e).1) ( Nat.ne_of_lt (Heap.lt_size (S.nw a o e).1)) ( S.ground_none e)), fun p hp => nomatch hp⟩
  refine (h ⟨X.w, X.A.deeper (envOf qual scope s.heap.objs.size f cdv), envOf qual scope s.heap.objs.size f cdv, ground σ s, []⟩ rfl O' rfl).seq B.to S₁ fun fl s' m' σ' B' S' hR => ?_
  exact ⟨B', m, σ', S.back rfl S', rfl, hR⟩

noncomputable def Led.sets (σ : Led) : List (Addr × Obj) → Led
  | [] => σ
  | p :: r => (Led.sets σ r).set p.1 p.2
theorem Led.sets_some {σ : Led} {a : Addr} {o : Obj} : ∀ {l : List (Addr × Obj)}, σ.sets l a = some o → (a, o) ∈ l ∨ σ a = some o
  | [], h => .inr h
  | p :: r, h => by
    unfold Led.sets at h
    by_cases q : a = p.1
    · subst q; (first | exact nos (Led.set_self) h | exact nos h (Led.set_self) | (rw [Led.set_self] at h; cases h)); exact .inl (.head _)
    · rw [Led.set_ne q] at h
      exact (Led.sets_some h).imp (fun h => .tail _ h) id

theorem spec_defC (ho : (hd.heap_1 w.params).lookup f = some ⟨oc, od, .func (fnOf name qual params body scope dV kV doc pm an cdv ct), osl⟩) (hcd : codeIn (hd.heap_1 w.params) cdv qual = true)
    (hbind : bindArgs (fnOf name qual params body scope dV kV doc pm an cdv ct) ⟨args, []⟩ = pure binds)
    (hkind : (binds.all fun y => scope.names.lookup y.1 == some .local || scope.names.lookup y.1 == some .cell) = true) (hnd : ((cellsFrom 0 scope.names []).map (·.1)).Nodup)
    (hco : scope.isCoroutine = false) (hgen : scope.isGenerator = false) (hk : scope.kind = .function)
    (h : ∀ (X : Cx) (cells : List (Addr × Obj)), X.w = w → X.Ok d → X.env = envOfC qual scope X.env.locals f cdv → (∀ a o, σ a = some o → a < X.env.locals) →
      CellsAre (bindC (envOfC qual scope X.env.locals f cdv).kindOf binds fun _ => none) (cellsFrom (X.env.locals + 1) scope.names []) cells →
      J X (execs body X.env) (bindL (envOfC qual scope X.env.locals f cdv).kindOf binds fun _ => none) (σ.sets cells) (fun fl _ σ' => R (flowVal fl) σ')) :
    Spec w f args (d + 1) σ R := by
  (intro X m er1 O b s B S; obtain rfl := er1)
  obtain ⟨XG, TG, base, fenv, outer, BG⟩ := S.groundOk O
  have OI := O.inn S
  (refine x3_1 O.top ?_; intro mean mg mb T)
  refine codeAny_call_function (fd := fnOf name qual params body scope dV kV doc pm an cdv ct) (by have := O.depth; show _ < 1000; omega) (OI _ _ ho) rfl hco hgen rfl (codeRec_of OI hcd) ?_
  first | refine Mine.sb (hbind) ?_ | rw [hbind]
  refine wpAny_pure (wpAny_newFunctionEnv_cells hk (kindsX hkind _) fun env' he s' x => ?_)
  subst he
  refine ⟨(T.nolimit.keeps S.fr.keep).keeps x.toInCall.keep, codeAny_func ?_⟩
  (refine x2_2 x.done ?_; intro h₁ tk er1 _; obtain rfl := er1)
  have hk₁ := x.toInCall.keep
  (refine x1_2 (Cl.news (h₀ := s.heap) (Nat.le_refl _) fun n c hm => ⟨x.cell n c (lookup_of_mem_nodup (cellsFrom_names scope.names 0 (s.heap.objs.size + 1) [] [] rfl ▸ hnd) hm), x.above n c hm⟩) ?_; intro cells NC Y)
  have O' : Cx.Ok ⟨X.w, X.A.deeper (envOfC qual scope s.heap.objs.size f cdv), envOfC qual scope s.heap.objs.size f cdv, ground σ s, []⟩ d :=
    { kin := XG, top := TG, hh := O.hh, kind := hk, glob := rfl, bi := rfl
      below := (i7_5 (X.A) ( base) ( envOfC qual scope s.heap.objs.size f cdv) ( fenv :: outer) ( s.heap.objs.size) ( default) ( fun _ => none) ( BG) ( Around.frames_deeper BG.stack) ( rfl) ( hk) ( .inl rfl))
      depth := by have := O.depth; show X.A.depth + 1 + d < 900; omega
      units := by have := O.units; show X.A.units + 3 + 40 * d < 9000; omega }
  have S₁ : St ⟨X.w, X.A.deeper (envOfC qual scope s.heap.objs.size f cdv), envOfC qual scope s.heap.objs.size f cdv, ground σ s, []⟩ (bindL (envOfC qual scope s.heap.objs.size f cdv).kindOf binds fun _ => none) (σ.sets cells) { s with heap := h₁, toks := tk } := by
    refine ⟨⟨x.toInCall.ns, fun b o e => hk₁ b o (of_hideAll _ e), Nat.le_of_eq (hideAll_size _ _)⟩, fun a o e => ?_, fun p hp => nomatch hp⟩
    rcases Led.sets_some e with hm | e
    · have z := NC _ hm
      refine (i0_3 (z.1) ( z.2.1) ( ?_))
      cases q : (ground σ s).get? a with
      | none => rfl
      | some o => have := of_hideAll _ q; (first | exact nos (z.2.2) this | exact nos this (z.2.2) | (rw [z.2.2] at this; cases this))
    · exact (i0_3 (hk₁ _ _ (S.nw a o e).1) ( Nat.ne_of_lt (Heap.lt_size (S.nw a o e).1)) ( S.ground_none e))
  refine (h ⟨X.w, X.A.deeper (envOfC qual scope s.heap.objs.size f cdv), envOfC qual scope s.heap.objs.size f cdv, ground σ s, []⟩ cells rfl O' rfl (fun a o e => Heap.lt_size (S.nw a o e).1) Y).seq B.to S₁ fun fl s' m' σ' B' S' hR => ?_
  exact ⟨B', m, σ', S.back rfl S', rfl, hR⟩
end
end
section
--FILE JI
noncomputable def Cx.kept (X : Cx) (p : Addr × Obj) : Cx := { X with fns := p :: X.fns }

section
variable {X : Cx} {m : Loc} {σ : Led} {s : Shared} {d : Nat} {p : Addr × Obj}
@[simp] theorem Cx.kept_env : (X.kept p).env = X.env := rfl
@[simp] theorem Cx.kept_w : (X.kept p).w = X.w := rfl
@[simp] theorem Cx.kept_A : (X.kept p).A = X.A := rfl
@[simp] theorem Cx.kept_h : (X.kept p).h₀ = X.h₀ := rfl

theorem Cx.Ok.kept (O : X.Ok d) : (X.kept p).Ok d :=
  { kin := O.kin, top := O.top, hh := O.hh, kind := O.kind, glob := O.glob, bi := O.bi
    below := x7_5 O.below fun a b c d e f g h1 h2 h3 h4 h5 => i7_5 a b c d e f g h1 h2 h3 h4 (h5.imp id fun h => ⟨.tail _ h.1, h.2⟩)
    depth := O.depth, units := O.units }

theorem St.unkeep (S : St (X.kept p) m σ s) : St X m σ s := ⟨S.fr, S.nw, fun q hq => S.fn q (.tail _ hq)⟩
theorem St.keepNew {tk : Nat} (S : St X m σ s) {o : Obj} (hf : o.isFreed = false) : St (X.kept (s.heap.objs.size, o)) m σ { s with heap := s.heap.push o, toks := tk } := by
  have f := S.fresh (Nat.le_refl _)
  have S' := S.ext (h' := s.heap.push o) (tk := tk) fun _ _ e => Heap.get?_push_of_some _ e
  refine ⟨S'.fr, S'.nw, fun q hq => ?_⟩
  rcases List.mem_cons.mp hq with rfl | hq
  · exact (i0_4 (Heap.get?_push_size _ hf) ( Nat.le_trans S.fr.above (Nat.le_of_lt S.fr.ns.lt)) ( f.2.1) ( f.1))
  · exact S'.fn q hq
theorem St.keepChange {tk : Nat} {h' : Heap} {o' : Obj} (S : St (X.kept p) m σ s) (hb : Heap.ExtBut p.1 s.heap h') (ho : h'.get? p.1 = some o') (hdup : ∀ q ∈ X.fns, q.1 ≠ p.1) : St (X.kept (p.1, o')) m σ { s with heap := h', toks := tk } := by
  have f := S.fn p (.head _)
  refine ⟨⟨S.fr.ns.at' fun o e => hb _ o (Ne.symm f.2.2.1) e, fun b o e => hb b o (fun q => ?_) (S.fr.keep b o e), S.fr.above⟩, fun a o e => ⟨hb a o (fun q => ?_) (S.nw a o e).1, (S.nw a o e).2⟩, fun q hq => ?_⟩
  · subst q; exact Nat.lt_irrefl _ (Nat.lt_of_lt_of_le (Heap.lt_size e) f.2.1)
  · subst q; (first | exact nos (f.2.2.2) e | exact nos e (f.2.2.2) | (rw [f.2.2.2] at e; cases e))
  · rcases List.mem_cons.mp hq with rfl | hq
    · exact ⟨ho, f.2⟩
    · have z := S.fn q (.tail _ hq)
      exact ⟨hb _ _ (hdup q hq) z.1, z.2⟩
theorem St.keepDrop {tk : Nat} {h' : Heap} (S : St (X.kept p) m σ s) (hb : Heap.ExtBut p.1 s.heap h') (hdup : ∀ q ∈ X.fns, q.1 ≠ p.1) : St X m σ { s with heap := h', toks := tk } := by
  have f := S.fn p (.head _)
  refine ⟨⟨S.fr.ns.at' fun o e => hb _ o (Ne.symm f.2.2.1) e, fun b o e => hb b o (fun q => ?_) (S.fr.keep b o e), S.fr.above⟩, fun a o e => ⟨hb a o (fun q => ?_) (S.nw a o e).1, (S.nw a o e).2⟩, fun q hq => ?_⟩
  · subst q; exact Nat.lt_irrefl _ (Nat.lt_of_lt_of_le (Heap.lt_size e) f.2.1)
  · subst q; (first | exact nos (f.2.2.2) e | exact nos e (f.2.2.2) | (rw [f.2.2.2] at e; cases e))
  · have z := S.fn q (.tail _ hq)
    exact ⟨hb _ _ (hdup q hq) z.1, z.2⟩
theorem St.dup (S : St X m σ s) : ∀ q ∈ X.fns, q.1 ≠ s.heap.objs.size := fun q hq => (S.fresh (Nat.le_refl _)).2.2.2 q hq
end

inductive Src where
  | list (l : Addr) (items : Array Value)
  | tup (t : Addr) (items : Array Value)
  | range (r : Addr) (n : Nat)
  | str (x : Str) (t : Tok)

namespace Src
noncomputable def val : Src → Value
  | .list l _ => .ref l
  | .tup t _ => .ref t
  | .range r _ => .ref r
  | .str x t => .str x t
noncomputable def size : Src → Nat
  | .list _ xs => xs.size
  | .tup _ xs => xs.size
  | .range _ n => n
  | .str x _ => x.cps.size
noncomputable def item : Src → Nat → Value → Prop
  | .list _ xs, i, v => xs[i]? = some v
  | .tup _ xs, i, v => xs[i]? = some v
  | .range _ _, i, v => ∃ t, v = .int i t
  | .str x _, i, v => ∃ c u, x.cps[i]? = some c ∧ v = .str ⟨#[c]⟩ u
noncomputable def okObj : Src → Obj → Prop
  | .list _ xs, o => o.cls = .type "list" ∧ ∃ n, o.data = .seq xs n
  | .tup _ xs, o => o.cls = .type "tuple" ∧ ∃ n, o.data = .seq xs n
  | .range _ n, o => ∃ t u v, o = { cls := .type "range", dict := none, data := .fields #[.int 0 t, .int n u, .int 1 v], slots := #[] }
  | .str _ _, _ => True
noncomputable def ok : Src → Led → Prop
  | .list l xs, σ => ∃ o, σ l = some o ∧ o.cls = .type "list" ∧ ∃ n, o.data = .seq xs n
  | .tup t xs, σ => ∃ o, σ t = some o ∧ o.cls = .type "tuple" ∧ ∃ n, o.data = .seq xs n
  | .range r n, σ => n < 1000000 ∧ ∃ o, σ r = some o ∧ ∃ t u v, o = { cls := .type "range", dict := none, data := .fields #[.int 0 t, .int n u, .int 1 v], slots := #[] }
  | .str _ _, _ => True
noncomputable def iter : Src → Nat → Obj → Prop
  | .list l _, i, o => o.cls = .type "list_iterator" ∧ o.data = .fields #[.ref l, .int i 0]
  | .tup l _, i, o => o.cls = .type "tuple_iterator" ∧ o.data = .fields #[.ref l, .int i 0]
  | .range _ n, i, o => o = { cls := .type "range_iterator", dict := none, data := .fields #[rawInt i, rawInt ((n : Int) - i), rawInt 1], slots := #[] }
  | .str x t, i, o => o.cls = .type (strIterType x) ∧ o.data = .fields #[.str x t, .int i 0]
end Src

section
variable {X : Cx} {m : Loc} {σ : Led} {s : Shared} {d : Nat} {S : Src} {p : Addr × Obj} {b : Shared}

theorem rangeSize_up (n : Nat) : Builtin.Range.rangeSize 0 (n : Int) 1 = n := by
  unfold Builtin.Range.rangeSize
  simp only [show (1 : Int) > 0 from by decide, if_true, Int.sub_zero, Int.ediv_one]
  split <;> omega

theorem fits_small (n : Nat) (h : n < 1000000) : Builtin.Range.small 0 (n : Int) 1 = true := by
  have f : ∀ k : Int, 0 ≤ k → k < 1000002 → Builtin.Range.rangeFitsLong k = true := by
    intro k h0 h1
    unfold Builtin.Range.rangeFitsLong
    simp only [Bool.and_eq_true, decide_eq_true_eq]
    constructor <;> omega
  unfold Builtin.Range.small
  rw [rangeSize_up, f 0 (by exact (Int.natCast_nonneg _)) (by omega), f n (by exact (Int.natCast_nonneg _)) (by omega), f 1 (by exact (Int.natCast_nonneg _)) (by omega)]
  simp only [Bool.true_and, show (1 : Int) > 0 from by decide, if_true, Bool.or_eq_true, Bool.and_true]
  exact .inr (f _ (by exact (Int.natCast_nonneg _)) (by omega))

theorem j_pyIter {Q : Value → Shared → Prop} {E : Value → Shared → Prop} (O : X.Ok d) (T : St X m σ s) (B : Same b s) (ok : S.ok σ) (h : ∀ I o s', S.iter 0 o → Same b s' → St (X.kept (I, o)) m σ s' → (∀ q ∈ X.fns, q.1 ≠ I) → Q (.ref I) s') :
    wpAny (model PR X.w) X.A (pyIter S.val) Q E s := by
  cases S with
  | list l xs =>
    obtain ⟨o, ho, hc, n, hd⟩ := ok
    exact wpAny_pyIter_list ⟨o, (T.nw _ _ ho).1, hc, n, hd⟩ (h _ _ _ ⟨rfl, rfl⟩ B.heap (T.keepNew rfl) T.dup)
  | tup l xs =>
    obtain ⟨o, ho, hc, n, hd⟩ := ok
    exact wpAny_pyIter_tuple ⟨o, (T.nw _ _ ho).1, hc, n, hd⟩ (h _ _ _ ⟨rfl, rfl⟩ B.heap (T.keepNew rfl) T.dup)
  | range r n =>
    obtain ⟨hn, o, ho, t, u, v, rfl⟩ := ok
    refine wpAny_pyIter_range (T.nw _ _ ho).1 (fits_small n hn) (h _ _ _ ?_ B.heap (T.keepNew rfl) T.dup)
    first | refine Mine.sb (rangeSize_up) ?_ | rw [rangeSize_up]
    show (_ : Obj) = _
    simp
  | str x t =>
    exact wpAny_pyIter_strU (h _ _ _ ⟨rfl, rfl⟩ B.heap (T.keepNew rfl) T.dup)

theorem strIterType_ne (x : Str) : strIterType x = "str_ascii_iterator" ∨ strIterType x = "str_iterator" := by unfold strIterType; split <;> simp

theorem j_pyNext_item {Q : Option Value → Shared → Prop} {E : Value → Shared → Prop} {i : Nat} (hh : X.A.handled = none) (T : St (X.kept p) m σ s) (B : Same b s) (ok : S.ok σ) (it : S.iter i p.2) (hi : i < S.size) (hdup : ∀ q ∈ X.fns, q.1 ≠ p.1)
    (h : ∀ v o' s', S.item i v → S.iter (i + 1) o' → Same b s' → St (X.kept (p.1, o')) m σ s' → Q (some v) s') : wpAny (model PR X.w) X.A (pyNext (.ref p.1)) Q E s := by
  have f := T.fn p (.head _)
  cases S with
  | list l xs =>
    obtain ⟨o, ho, hc, n, hd⟩ := ok
    refine wpAny_pyNext_list_item (i := i) (x := xs[i]'hi) (i1_3 (p.2) ( f.1) ( it.1) ( it.2)) ⟨o, (T.nw _ _ ho).1, hc, n, hd⟩ (Array.getElem?_eq_getElem (show i < xs.size from hi)) fun h' hit hs => ?_
    (refine x1_2 hit ?_; clear hit; intro o' ho' r)
    exact h _ o' _ (Array.getElem?_eq_getElem (show i < xs.size from hi)) r B.heap (T.keepChange hs.extBut ho' hdup)
  | tup l xs =>
    obtain ⟨o, ho, hc, n, hd⟩ := ok
    refine wpAny_pyNext_tuple_item (i := i) (x := xs[i]'hi) (i1_3 (p.2) ( f.1) ( it.1) ( it.2)) ⟨o, (T.nw _ _ ho).1, hc, n, hd⟩ (Array.getElem?_eq_getElem (show i < xs.size from hi)) fun h' hit hs => ?_
    (refine x1_2 hit ?_; clear hit; intro o' ho' r)
    exact h _ o' _ (Array.getElem?_eq_getElem (show i < xs.size from hi)) r B.heap (T.keepChange hs.extBut ho' hdup)
  | range r n =>
    have e : p.2 = _ := it
    have hit : IsRangeIter s.heap p.1 (i : Int) ((n : Int) - i) 1 := by rw [IsRangeIter, ← e]; exact f.1
    refine wpAny_pyNext_range_item hit (by have : i < n := hi; omega) fun h' hit' hs => ?_
    refine h _ _ _ ⟨_, rfl⟩ ?_ B.to (T.keepChange hs.extBut hit' hdup)
    show (_ : Obj) = _
    have : (n : Int) - i - 1 = n - ((i + 1 : Nat) : Int) := by omega
    rw [this]; rfl
  | str x t =>
    have hc : i < x.cps.size := hi
    rcases strIterType_ne x with e | e
    · refine (Walks.strAscii (prog := PR) (w := X.w) hh p.1 x t).item i s Q E hc (i1_3 (p.2) ( f.1) ( by rw [it.1, e]) ( it.2)) fun v h' tk hv hit hk => ?_
      (refine x1_3 hit ?_; clear hit; intro o' ho' r1 r2)
      exact h v o' _ hv ⟨by rw [r1, e], r2⟩ B.to (T.keepChange (fun a o hne e => hk a o (by simpa using hne) e) ho' hdup)
    · refine (Walks.strWide (prog := PR) (w := X.w) hh p.1 x t).item i s Q E hc (i1_3 (p.2) ( f.1) ( by rw [it.1, e]) ( it.2)) fun v h' tk hv hit hk => ?_
      (refine x1_3 hit ?_; clear hit; intro o' ho' r1 r2)
      exact h v o' _ hv ⟨by rw [r1, e], r2⟩ B.to (T.keepChange (fun a o hne e => hk a o (by simpa using hne) e) ho' hdup)

theorem j_pyNext_end {Q : Option Value → Shared → Prop} {E : Value → Shared → Prop} (hh : X.A.handled = none) (T : St (X.kept p) m σ s) (B : Same b s) (ok : S.ok σ) (it : S.iter S.size p.2) (hdup : ∀ q ∈ X.fns, q.1 ≠ p.1)
    (h : ∀ s', Same b s' → St X m σ s' → Q none s') : wpAny (model PR X.w) X.A (pyNext (.ref p.1)) Q E s := by
  have f := T.fn p (.head _)
  cases S with
  | list l xs =>
    obtain ⟨o, ho, hc, n, hd⟩ := ok
    exact wpAny_pyNext_list_end hh (i1_3 (p.2) ( f.1) ( it.1) ( it.2)) ⟨o, (T.nw _ _ ho).1, hc, n, hd⟩ (by simp [Src.size]) fun h' hs => h _ B.heap (T.keepDrop hs hdup)
  | tup l xs =>
    obtain ⟨o, ho, hc, n, hd⟩ := ok
    exact wpAny_pyNext_tuple_end hh (i1_3 (p.2) ( f.1) ( it.1) ( it.2)) ⟨o, (T.nw _ _ ho).1, hc, n, hd⟩ (by simp [Src.size]) fun h' hs => h _ B.heap (T.keepDrop hs hdup)
  | range r n =>
    have e : p.2 = _ := it
    have hit : IsRangeIter s.heap p.1 ((Src.range r n).size : Int) ((n : Int) - (Src.range r n).size) 1 := by rw [IsRangeIter, ← e]; exact f.1
    exact wpAny_pyNext_range_end hh hit (by simp [Src.size]) fun h' hs => h _ B.heap (T.keepDrop hs hdup)
  | str x t =>
    rcases strIterType_ne x with e | e
    · exact (Walks.strAscii (prog := PR) (w := X.w) hh p.1 x t).done s Q E (i1_3 (p.2) ( f.1) ( by rw [it.1, e]) ( it.2)) fun h' tk hk => h _ B.to (T.keepDrop (fun a o hne e => hk a o (by simpa using hne) e) hdup)
    · exact (Walks.strWide (prog := PR) (w := X.w) hh p.1 x t).done s Q E (i1_3 (p.2) ( f.1) ( by rw [it.1, e]) ( it.2)) fun h' tk hk => h _ B.to (T.keepDrop (fun a o hne e => hk a o (by simpa using hne) e) hdup)

theorem letOwned {target : Expr} {I : Addr} {o : Obj} {i : Nat} {v : Value} {Q : Unit → Shared → Prop} {E : Value → Shared → Prop} {A : Around} {w : World} (hi : S.iter i o) (ho : s.heap.get? I = some o) (h : Q () s) : wpAny (model PR w) A (letOwnedTupleGo target (.ref I) v) Q E s := by
  have key : ∃ T, o.cls = .type T ∧ (["enumerate", "zip", "dict_itemiterator", "dict_reverseitemiterator", "odict_iterator", "itertools.zip_longest", "itertools.pairwise"] : List String).contains T = false := by
    cases S with
    | list => exact (i1_2 (_) ( hi.1) ( by decide))
    | tup => exact (i1_2 (_) ( hi.1) ( by decide))
    | range => have e : o = _ := hi; exact (i1_2 (_) ( by rw [e]) ( by decide))
    | str x t => rcases strIterType_ne x with e | e <;> exact ⟨_, by rw [hi.1, e], by decide⟩
  (refine x1_2 key ?_; clear key; intro T hT hn)
  unfold letOwnedTupleGo
  split
  · cases v <;> first | exact wpAny_pure h | skip
    dsimp only
    refine wpAny_bind (wpAny_load ho ?_)
    first | refine Mine.sb (hT) ?_ | rw [hT]
    split
    · rename_i vs e1 e2
      cases e1
      first | refine Mine.sb (hn) ?_ | rw [hn]
      simp only [Bool.false_and, Bool.false_eq_true, if_false]
      exact wpAny_pure h
    · exact wpAny_pure h
  · cases v <;> first | exact wpAny_pure h | skip
    dsimp only
    refine wpAny_bind (wpAny_load ho ?_)
    first | refine Mine.sb (hT) ?_ | rw [hT]
    split
    · rename_i vs e1 e2
      cases e1
      first | refine Mine.sb (hn) ?_ | rw [hn]
      simp only [Bool.false_and, Bool.false_eq_true, if_false]
      exact wpAny_pure h
    · exact wpAny_pure h
  · exact wpAny_pure h
end
end
section
--FILE JK
section
variable {X : Cx} {m : Loc} {σ : Led} {s : Shared} {d : Nat} {p : Addr × Obj} {b : Shared}

theorem j_assign_Name {x : Str} {pos : Pos} {v : Value} {Q : Unit → Loc → Led → Prop} (h : J X (storeName X.env x v) m σ Q) : J X (assign (.Name x pos) X.env v) m σ Q :=
  fun b s B S => wpAny_assign_Name (h b s B S)

theorem j_For {target iter : PySem.Expr} {body : List Stmt} {pos : Pos} {Q : Flow → Loc → Led → Prop} (O : X.Ok d) (hs : ∀ x, foldedSetIterable iter X.env x = Pure.pure x)
    (h : J X (eval iter X.env) m σ (fun xv m1 σ1 => ∃ S : Src, xv = S.val ∧ S.ok σ1 ∧ ∃ Inv : Nat → Loc → Led → Prop, Inv 0 m1 σ1 ∧
      (∀ p i v m2 σ2, (X.kept p).Ok d → i < S.size → S.item i v → Inv i m2 σ2 → S.ok σ2 →
        J (X.kept p) (assign target (X.kept p).env v) m2 σ2 (fun _ m3 σ3 => J (X.kept p) (execs body (X.kept p).env) m3 σ3 (fun f m4 σ4 => match f with
          | .next | .cont => Inv (i + 1) m4 σ4 ∧ S.ok σ4
          | .brk => Q .next m4 σ4
          | .ret v => Q (.ret v) m4 σ4))) ∧
      (∀ m2 σ2, Inv S.size m2 σ2 → S.ok σ2 → Q .next m2 σ2))) : J X (exec (.For target iter body [] pos) X.env) m σ Q := by
  intro b s B T
  refine wpAny_For (hs := hs) (h.seq B T fun xv s1 m1 σ1 B1 T1 h1 => ?_)
  obtain ⟨S, rfl, hok, Inv, h0, turn, fin⟩ := h1
  refine j_pyIter O T1 B1 hok fun I o s2 hI B2 T2 hdup => ?_
  refine codeAny_forLoop_any (fun k s' => ∃ i m' σ' o', k = S.size - i ∧ i ≤ S.size ∧ Inv i m' σ' ∧ S.ok σ' ∧ S.iter i o' ∧ Same b s' ∧ St (X.kept (I, o')) m' σ' s') ?_ S.size ⟨0, m1, σ1, o, rfl, Nat.zero_le _, h0, hok, hI, B2, T2⟩
  (intro k s' zr1; refine x4_7 zr1 ?_; clear zr1; intro i m' σ' o' er1 hi hInv hok' hI' B' T'; obtain rfl := er1)
  by_cases hlt : i < S.size
  · refine j_pyNext_item (p := (I, o')) O.hh T' B' hok' hI' hlt hdup fun v o2 s3 hv hI2 B3 T3 => ?_
    have ho2 : s3.heap.get? I = some o2 := (T3.fn _ (.head _)).1
    refine letOwned hI2 ho2 ?_
    refine (turn (I, o2) i v m' σ' O.kept hlt hv hInv hok').seq B3 T3 fun _ s4 m4 σ4 B4 T4 h4 => h4.seq B4 T4 fun f s5 m5 σ5 B5 T5 h5 => ?_
    cases f with
    | next => exact ⟨S.size - (i + 1), by omega, i + 1, m5, σ5, o2, rfl, hlt, h5.1, h5.2, hI2, B5, T5⟩
    | cont => exact ⟨S.size - (i + 1), by omega, i + 1, m5, σ5, o2, rfl, hlt, h5.1, h5.2, hI2, B5, T5⟩
    | brk => exact .mk B5 T5.unkeep h5
    | ret v => exact .mk B5 T5.unkeep h5
  · have hin : i = S.size := by exact (Nat.le_antisymm hi (Nat.le_of_not_lt hlt))
    subst hin
    refine j_pyNext_end (p := (I, o')) O.hh T' B' hok' hI' hdup fun s3 B3 T3 => ?_
    exact wpAny_execs_nil (.mk B3 T3 (fin m' σ' hInv hok'))

theorem j_While {test : PySem.Expr} {body : List Stmt} {pos : Pos} {Q : Flow → Loc → Led → Prop} (Inv : Nat → Loc → Led → Prop) (n : Nat) (h0 : Inv n m σ)
    (turn : ∀ n m σ, Inv n m σ → J X (isTrue test X.env (eval test X.env)) m σ (fun c m1 σ1 => if c then J X (execs body X.env) m1 σ1 (fun f m2 σ2 => match f with
      | .next | .cont => ∃ k, k < n ∧ Inv k m2 σ2
      | .brk => Q .next m2 σ2
      | .ret v => Q (.ret v) m2 σ2) else Q .next m1 σ1)) : J X (exec (.While test body [] pos) X.env) m σ Q := by
  intro b s B T
  refine wpAny_While (codeAny_whileLoop (fun k s' => ∃ m' σ', Inv k m' σ' ∧ Same b s' ∧ St X m' σ' s') ?_ n (i2_3 (m) ( σ) ( h0) ( B) ( T)))
  (intro k s' zr1; refine x2_3 zr1 ?_; clear zr1; intro m' σ' hI B' T')
  refine (turn k m' σ' hI).seq B' T' fun c s1 m1 σ1 B1 T1 h1 => ?_
  cases c with
  | true =>
    simp only [if_true] at h1 ⊢
    refine h1.seq B1 T1 fun f s2 m2 σ2 B2 T2 h2 => ?_
    cases f with
    | next => (refine x1_2 h2 ?_; clear h2; intro k' hk hI'); exact ⟨k', hk, m2, σ2, hI', B2, T2⟩
    | cont => (refine x1_2 h2 ?_; clear h2; intro k' hk hI'); exact ⟨k', hk, m2, σ2, hI', B2, T2⟩
    | brk => exact .mk B2 T2 h2
    | ret v => exact .mk B2 T2 h2
  | false =>
    simp only [Bool.false_eq_true, if_false] at h1 ⊢
    exact wpAny_execs_nil (.mk B1 T1 h1)

noncomputable abbrev tests (ifs : List PySem.Expr) (env : Env) : Sem Bool := forIn ifs true fun c r => if r = true then do let ok ← isTrue c env (eval c env); pure (ForInStep.yield ok) else pure (ForInStep.yield r)
theorem j_tests_nil {env : Env} {Q : Bool → Loc → Led → Prop} (h : Q true m σ) : J X (tests [] env) m σ Q := fun b s B S => wpAny_tests_nil (.mk B S h)
theorem j_tests_one {c : PySem.Expr} {Q : Bool → Loc → Led → Prop} (h : J X (isTrue c X.env (eval c X.env)) m σ Q) : J X (tests [c] X.env) m σ Q := fun b s B S => wpAny_tests_one (h b s B S)

section raw
variable {prog : Program} {w : World} {A : Around} {R : Result → Shared → Prop} {elt target iter : PySem.Expr} {ifs : List PySem.Expr} {gens : List Comprehension} {scope : Scope} {pos : Pos} {depth : Nat} {it acc : Value} {env : Env}
theorem compLoop_raw (hg : gens[depth]? = some ⟨target, iter, ifs, 0⟩) (hg' : gens[depth + 1]? = none) (I : Nat → Shared → Prop)
    (turn : ∀ n s, I n s → wpAny (model prog w) A (pyNext it) (fun r s₁ => match r with
      | none => R (.ok .next) s₁
      | some v => wpAny (model prog w) A (letOwnedTupleGo target it v) (fun _ s₂ => wpAny (model prog w) A (assign target env v) (fun _ s₃ => wpAny (model prog w) A (tests ifs env) (fun ok s₄ =>
          if ok = true then wpAny (model prog w) A (eval elt env) (fun x s₅ => wpAny (model prog w) A (call (.builtin "list.append") [acc, x]) (fun _ s₆ => ∃ m, m < n ∧ I m s₆) (fun _ _ => False) s₅) (fun _ _ => False) s₄
          else ∃ m, m < n ∧ I m s₄) (fun _ _ => False) s₃) (fun _ _ => False) s₂) (fun _ _ => False) s₁) (fun _ _ => False) s)
    (n : Nat) {s : Shared} (h : I n s) : codeAny (model prog w) A (.compLoop (.ListComp elt gens scope pos) depth it acc env) R s := by
  refine codeAny_loop rfl I (fun n s hI => ?_) n h
  show wpAny _ A ((compTurn (.ListComp elt gens scope pos) depth it acc env).onRaise (fun x => do noteFrame x env; theTreesLotGoes x)) _ _ s
  refine wpAny_noted ?_
  unfold compTurn
  dsimp only
  first | refine Mine.sb (hg) ?_ | rw [hg]
  dsimp only
  refine wpAny_bind (wpAny_standAt (wpAny_bind (wpAny_mono (turn n s hI) (fun r s₁ h₁ => ?_) fun _ _ h' => h'.elim)))
  cases r with
  | none => exact wpAny_pure h₁
  | some v =>
    refine wpAny_bind (wpAny_mono h₁ (fun _ s₂ h₂ => wpAny_bind (wpAny_mono h₂ (fun _ s₃ h₃ => wpAny_bind (wpAny_mono h₃ (fun ok s₄ h₄ => ?_) fun _ _ h' => h'.elim)) fun _ _ h' => h'.elim)) fun _ _ h' => h'.elim)
    cases ok with
    | true =>
      simp only [if_true] at h₄ ⊢
      first | refine Mine.sb (hg') ?_ | rw [hg']
      exact wpAny_bind (wpAny_bind (wpAny_mono h₄ (fun x s₅ h₅ => wpAny_bind (wpAny_mono h₅ (fun _ s₆ h₆ => wpAny_pure (wpAny_pure ⟨rfl, h₆⟩)) fun _ _ h' => h'.elim)) fun _ _ h' => h'.elim))
    | false =>
      simp only [Bool.false_eq_true, if_false] at h₄ ⊢
      exact wpAny_bind (wpAny_pure (wpAny_pure ⟨rfl, h₄⟩))

theorem compStart_raw {s : Shared} (hg : gens[depth]? = some ⟨target, iter, ifs, 0⟩)
    (h0 : codeAny (model prog w) A (.compLoop (.ListComp elt gens scope pos) depth it acc env) R s)
    (h : wpAny (model prog w) A (pyIter it) (fun it' s' => codeAny (model prog w) A (.compLoop (.ListComp elt gens scope pos) depth it' acc env) R s') (fun _ _ => False) s) :
    codeAny (model prog w) A (.compStart (.ListComp elt gens scope pos) depth it acc env) R s := by
  refine codeAny_of_tree ?_
  show wpAny _ _ ((compStart (.ListComp elt gens scope pos) depth it acc env).onRaise (fun x => do noteFrame x env; standAt theWindowsPlace)) _ _ s
  refine wpAny_notedAt ?_
  unfold compStart
  have hc : (clausesOf (.ListComp elt gens scope pos))[depth]? = some ⟨target, iter, ifs, 0⟩ := hg
  first | refine Mine.sb (hc) ?_ | rw [hc]
  show wpAny _ _ (ask >>= _) _ _ s
  refine wpAny_bind (wpAny_askSetting (wpAny_ite ?_))
  split
  · first
      | exact wpAny_bind (wpAny_pure (wpAny_pure (And.intro rfl h0)))
      | exact wpAny_pure (And.intro rfl h0)
  · first
      | exact wpAny_bind (wpAny_rule (wpAny_bind (wpAny_standAt (wpAny_bind (wpAny_mono h (fun it' s' h' => wpAny_pure (And.intro rfl h')) fun _ _ e => e.elim)))))

theorem mark_none (A : Around) : A.mark none = A := by cases A; rfl

theorem compLoop_raw2 {t2 i2 : PySem.Expr} {ifs2 : List PySem.Expr} (hg : gens[depth]? = some ⟨target, iter, ifs, 0⟩) (hg' : gens[depth + 1]? = some ⟨t2, i2, ifs2, 0⟩) (hs : ∀ x, foldedSetIterable i2 env x = pure x) (I : Nat → Shared → Prop)
    (turn : ∀ n s, I n s → wpAny (model prog w) A (pyNext it) (fun r s₁ => match r with
      | none => R (.ok .next) s₁
      | some v => wpAny (model prog w) A (letOwnedTupleGo target it v) (fun _ s₂ => wpAny (model prog w) A (assign target env v) (fun _ s₃ => wpAny (model prog w) A (tests ifs env) (fun ok s₄ =>
          if ok = true then wpAny (model prog w) A (eval i2 env) (fun x s₅ => wpAny (model prog w) A (pyIter x) (fun it2 s₆ =>
            codeAny (model prog w) A (.compStart (.ListComp elt gens scope pos) (depth + 1) it2 acc env) (fun r s₇ => r = .ok .next ∧ ∃ m, m < n ∧ I m s₇) s₆) (fun _ _ => False) s₅) (fun _ _ => False) s₄
          else ∃ m, m < n ∧ I m s₄) (fun _ _ => False) s₃) (fun _ _ => False) s₂) (fun _ _ => False) s₁) (fun _ _ => False) s)
    (n : Nat) {s : Shared} (h : I n s) : codeAny (model prog w) A (.compLoop (.ListComp elt gens scope pos) depth it acc env) R s := by
  refine codeAny_loop rfl I (fun n s hI => ?_) n h
  show wpAny _ A ((compTurn (.ListComp elt gens scope pos) depth it acc env).onRaise (fun x => do noteFrame x env; theTreesLotGoes x)) _ _ s
  refine wpAny_noted ?_
  unfold compTurn
  dsimp only
  first | refine Mine.sb (hg) ?_ | rw [hg]
  dsimp only
  refine wpAny_bind (wpAny_standAt (wpAny_bind (wpAny_mono (turn n s hI) (fun r s₁ h₁ => ?_) fun _ _ h' => h'.elim)))
  cases r with
  | none => exact wpAny_pure h₁
  | some v =>
    refine wpAny_bind (wpAny_mono h₁ (fun _ s₂ h₂ => wpAny_bind (wpAny_mono h₂ (fun _ s₃ h₃ => wpAny_bind (wpAny_mono h₃ (fun ok s₄ h₄ => ?_) fun _ _ h' => h'.elim)) fun _ _ h' => h'.elim)) fun _ _ h' => h'.elim)
    cases ok with
    | true =>
      simp only [if_true] at h₄ ⊢
      first | refine Mine.sb (hg') ?_ | rw [hg']
      dsimp only
      refine wpAny_bind (wpAny_mono h₄ (fun x s₅ h₅ => wpAny_bind (wpAny_standAt ?_)) fun _ _ h' => h'.elim)
      simp only [bne_self_eq_false, Bool.false_eq_true, if_false]
      refine wpAny_bind (wpAny_of_eq (hs x) (wpAny_bind (wpAny_holding (wpAny_mono h₅ (fun it2 s₆ h₆ => wpAny_bind ?_) fun _ _ h' => h'.elim))))
      refine wpAny_runOwn ?_
      first | refine Mine.sb (mark_none) ?_ | rw [mark_none]
      refine codeAny_mono h₆ fun r s₇ h₇ => ?_
      (refine x0_2 h₇ ?_; clear h₇; intro er1 h₇; obtain rfl := er1)
      exact wpAny_pure ⟨rfl, h₇⟩
    | false =>
      simp only [Bool.false_eq_true, if_false] at h₄ ⊢
      exact wpAny_bind (wpAny_pure (wpAny_pure ⟨rfl, h₄⟩))
end raw
end
end
section
--FILE JM
section
variable {X : Cx} {m : Loc} {σ : Led} {s : Shared} {d : Nat} {p q : Addr × Obj} {b : Shared}

theorem St.perm {fns : List (Addr × Obj)} (T : St X m σ s) (h : ∀ q ∈ fns, q ∈ X.fns) : St { X with fns := fns } m σ s := ⟨T.fr, T.nw, fun q hq => T.fn q (h q hq)⟩
theorem St.swap (T : St ((X.kept p).kept q) m σ s) : St ((X.kept q).kept p) m σ s :=
  T.perm (fns := p :: q :: X.fns) fun r hr => by
    rcases List.mem_cons.mp hr with rfl | hr
    · exact .tail _ (.head _)
    · rcases List.mem_cons.mp hr with rfl | hr
      · exact .head _
      · exact .tail _ (.tail _ hr)

theorem j_pyIter_self {Q : Value → Shared → Prop} {E : Value → Shared → Prop} {S : Src} {I : Addr} {o : Obj} {i : Nat} {w : World} {A : Around} (ho : s.heap.get? I = some o) (it : S.iter i o) (h : Q (.ref I) s) : wpAny (model PR w) A (pyIter (.ref I)) Q E s := by
  cases S with
  | list l xs => exact wpAny_pyIter_listiter (i1_3 (o) ( ho) ( it.1) ( it.2)) h
  | tup l xs => exact PySem.wpAny_pyIter_tupleiter (i1_3 (o) ( ho) ( it.1) ( it.2)) h
  | range r n =>
    have e : o = _ := it
    exact wpAny_pyIter_rangeiter (by rw [IsRangeIter, ho, e]) h
  | str x t =>
    rcases strIterType_ne x with e | e
    · exact wpAny_pyIter_striter_ascii (i1_3 (o) ( ho) ( by rw [it.1, e]) ( it.2)) h
    · exact wpAny_pyIter_striter_wide (i1_3 (o) ( ho) ( by rw [it.1, e]) ( it.2)) h

theorem j_compLoop {X' : Cx} (O : X'.Ok d) {elt target iter : PySem.Expr} {ifs : List PySem.Expr} {gens : List Comprehension} {scope : Scope} {pos : Pos} {depth : Nat} (hg : gens[depth]? = some ⟨target, iter, ifs, 0⟩) (hg' : gens[depth + 1]? = none)
    {S : Src} {I D : Addr} {R : Result → Shared → Prop} (Inv : Nat → List Value → Loc → Led → Prop) (len : ∀ i ys mc σ, Inv i ys mc σ → ys.length ≤ 16777216)
    (turn : ∀ p q i v ys mc σ, i < S.size → S.item i v → Inv i ys mc σ → S.ok σ →
      J ((X'.kept p).kept q) (assign target X'.env v) mc σ (fun _ m2 σ2 => J ((X'.kept p).kept q) (tests ifs X'.env) m2 σ2 (fun ok m3 σ3 =>
        if ok = true then J ((X'.kept p).kept q) (eval elt X'.env) m3 σ3 (fun y m4 σ4 => Inv (i + 1) (ys ++ [y]) m4 σ4 ∧ S.ok σ4) else Inv (i + 1) ys m3 σ3 ∧ S.ok σ3)))
    (hID : I ≠ D) (hI : ∀ q ∈ X'.fns, q.1 ≠ I) (hD : ∀ q ∈ X'.fns, q.1 ≠ D)
    (fin : ∀ ys k mc σ s', Inv S.size ys mc σ → S.ok σ → Same b s' → St (X'.kept (D, listOf ys.toArray k)) mc σ s' → R (.ok .next) s')
    {ys : List Value} {k : Nat} {oI : Obj} {mc : Loc} (h0 : Inv 0 ys mc σ) (ok : S.ok σ) (it : S.iter 0 oI) (B : Same b s) (T : St ((X'.kept (D, listOf ys.toArray k)).kept (I, oI)) mc σ s) :
    codeAny (model PR X'.w) X'.A (.compLoop (.ListComp elt gens scope pos) depth (.ref I) (.ref D) X'.env) R s := by
  refine compLoop_raw hg hg' (fun n s' => ∃ i ys k oI mc σ, n = S.size - i ∧ i ≤ S.size ∧ Inv i ys mc σ ∧ S.ok σ ∧ S.iter i oI ∧ Same b s' ∧ St ((X'.kept (D, listOf ys.toArray k)).kept (I, oI)) mc σ s') ?_ S.size (i6_7 (0) ( ys) ( k) ( oI) ( mc) ( σ) ( rfl) ( Nat.zero_le _) ( h0) ( ok) ( it) ( B) ( T))
  clear h0 ok it B T
  (intro n s' zr1; refine x6_7 zr1 ?_; clear zr1; intro i ys k oI mc σ er1 hi hInv ok it B T; obtain rfl := er1)
  have hI' : ∀ q ∈ (X'.kept (D, listOf ys.toArray k)).fns, q.1 ≠ I := fun q hq => by
    rcases List.mem_cons.mp hq with rfl | hq
    · exact Ne.symm hID
    · exact hI q hq
  by_cases hlt : i < S.size
  · refine j_pyNext_item (X := X'.kept (D, listOf ys.toArray k)) (p := (I, oI)) O.hh T B ok it hlt hI' fun v o2 s3 hv hI2 B3 T3 => ?_
    refine letOwned hI2 (T3.fn _ (.head _)).1 ?_
    refine (turn (D, listOf ys.toArray k) (I, o2) i v ys mc σ hlt hv hInv ok).seq B3 T3 fun _ s4 m4 σ4 B4 T4 h4 => h4.seq B4 T4 fun okb s5 m5 σ5 B5 T5 h5 => ?_
    cases okb with
    | false =>
      simp only [Bool.false_eq_true, if_false] at h5 ⊢
      exact ⟨S.size - (i + 1), by omega, i + 1, ys, k, o2, m5, σ5, rfl, hlt, h5.1, h5.2, hI2, B5, T5⟩
    | true =>
      simp only [if_true] at h5 ⊢
      refine h5.seq B5 T5 fun y s6 m6 σ6 B6 T6 h6 => ?_
      have T6' := T6.swap
      have hsz := len _ _ _ _ h6.1
      rw [List.length_append, List.length_singleton] at hsz
      refine append_at (hsz := by show ys.toArray.size ≤ 2 ^ 24; rw [List.size_toArray]; omega) (T6'.fn _ (.head _)).1 fun h' hs ho => ?_
      have T7 := T6'.keepChange (tk := s6.toks) (o' := listOf (ys ++ [y]).toArray (k + 1)) hs.extBut (by rw [ho]; simp) (fun q hq => by
        rcases List.mem_cons.mp hq with rfl | hq
        · exact hID
        · exact hD q hq)
      exact ⟨S.size - (i + 1), by omega, i + 1, ys ++ [y], k + 1, o2, m6, σ6, rfl, hlt, h6.1, h6.2, hI2, B6.heap, T7.swap⟩
  · have hin : i = S.size := by exact (Nat.le_antisymm hi (Nat.le_of_not_lt hlt))
    subst hin
    exact j_pyNext_end (X := X'.kept (D, listOf ys.toArray k)) (p := (I, oI)) O.hh T B ok it hI' fun s3 B3 T3 => fin ys k mc σ s3 hInv ok B3 T3

noncomputable def compCx (X : Cx) (scope : Scope) (cl : List (Str × Addr)) (C : Addr) (oL : Obj) : Cx := { X with env := compEnvC scope cl C X.env, fns := (X.env.locals, oL) :: X.fns }

theorem compCx_ok {scope : Scope} {cl : List (Str × Addr)} {C : Addr} {oL : Obj} (O : X.Ok d) (hk : scope.kind = .function) (hn : NsObj oL m) : (compCx X scope cl C oL).Ok d :=
  { kin := O.kin, top := O.top, hh := O.hh, kind := hk, glob := O.glob, bi := O.bi
    below := by
      (refine x7_5 O.below ?_; intro a b c d e f g h1 h2 h3 h4 h5)
      rcases h5 with rfl | h5
      · exact (i7_5 (a) ( b) ( c) ( d) ( _) ( oL) ( m) ( h1) ( h2) ( h3) ( h4) ( .inr ⟨.head _, hn⟩))
      · exact (i7_5 (a) ( b) ( c) ( d) ( e) ( f) ( g) ( h1) ( h2) ( h3) ( h4) ( .inr ⟨.tail _ h5.1, h5.2⟩))
    depth := O.depth, units := O.units }

theorem St.intoComp {scope : Scope} {cl : List (Str × Addr)} {h' : Heap} {tk : Nat} {mc : Loc} (T : St X m σ s) (hn : h'.Ns s.heap.objs.size mc) (hb : ∀ b o, s.heap.get? b = some o → h'.get? b = some o) :
    ∃ oL, NsObj oL m ∧ St (compCx X scope cl s.heap.objs.size oL) mc σ { s with heap := h', toks := tk } := by
  (refine x3_2 (id T.fr.ns) ?_; intro oL es ep hL r)
  have f := T.fresh (Nat.le_refl _)
  have T' := T.ext (tk := tk) hb
  refine ⟨oL, (i2_1 (es) ( ep) ( r)), ⟨hn, T'.fr.keep, Nat.le_trans T.fr.above (Nat.le_of_lt T.fr.ns.lt)⟩, fun a o e => (i0_3 ((T'.nw a o e).1) ( fun (q : a = s.heap.objs.size) => (by rw [q, f.1] at e; cases e)) ( (T.nw a o e).2.2)), fun q hq => ?_⟩
  rcases List.mem_cons.mp hq with rfl | hq
  · refine (i0_4 (hb _ _ hL) ( T.fr.above) ( Ne.symm f.2.1) ( ?_))
    cases e : σ X.env.locals with
    | none => rfl
    | some o => exact absurd rfl (T.nw _ _ e).2.1
  · have z := T.fn q hq
    exact (i0_4 (hb _ _ z.1) ( z.2.1) ( f.2.2.2 q hq) ( z.2.2.2))
theorem St.outComp {scope : Scope} {cl : List (Str × Addr)} {C : Addr} {oL : Obj} {mc : Loc} {h' : Heap} {tk : Nat} (T : St ((compCx X scope cl C oL).kept p) mc σ s) (hn : NsObj oL m) (hC : ∀ q ∈ (X.kept p).fns, q.1 ≠ C) (hLo : ∀ q ∈ (X.kept p).fns, q.1 ≠ X.env.locals) (hb : Heap.ExtBut C s.heap h') :
    St (X.kept p) m σ { s with heap := h', toks := tk } := by
  have hL := T.fn (X.env.locals, oL) (.tail _ (.head _))
  (refine x2_1 hn ?_; clear hn; intro es ep r)
  refine ⟨⟨(i3_2 (oL) ( es) ( ep) ( hb _ _ hL.2.2.1 hL.1) ( r)), fun b o e => hb b o (Nat.ne_of_lt (Nat.lt_of_lt_of_le (Heap.lt_size e) T.fr.above)) (T.fr.keep b o e), hL.2.1⟩, fun a o e => ?_, fun q hq => ?_⟩
  · have z := T.nw a o e
    exact (i0_3 (hb a o z.2.1 z.1) ( fun (q : a = X.env.locals) => (by rw [q, show σ X.env.locals = none from hL.2.2.2] at e; cases e)) ( z.2.2))
  · have z := T.fn q (by
      rcases List.mem_cons.mp hq with rfl | hq
      · exact .head _
      · exact .tail _ (.tail _ hq))
    exact (i0_4 (hb _ _ (hC q hq) z.1) ( z.2.1) ( hLo q hq) ( z.2.2.2))

noncomputable def CompTurn (X : Cx) (d : Nat) (scope : Scope) (cl : List (Str × Addr)) (target : PySem.Expr) (ifs : List PySem.Expr) (elt : PySem.Expr) (S : Src) (Inv : Nat → List Value → Loc → Led → Prop) : Prop :=
  ∀ X' i v ys mc σ, X'.Ok d → X'.w = X.w → X'.env = compEnvC scope cl X'.env.locals X.env → i < S.size → S.item i v → Inv i ys mc σ → S.ok σ →
    J X' (assign target X'.env v) mc σ (fun _ m2 σ2 => J X' (tests ifs X'.env) m2 σ2 (fun ok m3 σ3 =>
      if ok = true then J X' (eval elt X'.env) m3 σ3 (fun y m4 σ4 => Inv (i + 1) (ys ++ [y]) m4 σ4 ∧ S.ok σ4) else Inv (i + 1) ys m3 σ3 ∧ S.ok σ3))

theorem j_comprehension {elt target iter : PySem.Expr} {ifs : List PySem.Expr} {scope : Scope} {cl : List (Str × Addr)} {pos : Pos} {S : Src} {Inv : Nat → List Value → Loc → Led → Prop}
    (O : X.Ok d) (hcell : ∀ y ∈ scope.names, y.2 ≠ .cell) (hkind : scope.kind = .function) (B : Same b s) (T : St X m σ s) (ok : S.ok σ) (h0 : Inv 0 [] (fun _ => none) σ)
    (len : ∀ i ys mc σ, Inv i ys mc σ → ys.length ≤ 16777216) (turn : CompTurn X d scope cl target ifs elt S Inv)
    {RR : Value → Addr → Result → Shared → Prop}
    (fin : ∀ ys D C k mc oL σ s', NsObj oL m → σ D = none → (∀ q ∈ X.fns, q.1 ≠ D) → (∀ q ∈ (X.kept (D, listOf ys.toArray k)).fns, q.1 ≠ C) → (∀ q ∈ (X.kept (D, listOf ys.toArray k)).fns, q.1 ≠ X.env.locals) → Inv S.size ys mc σ → S.ok σ → Same b s' → St ((compCx X scope cl C oL).kept (D, listOf ys.toArray k)) mc σ s' → RR (.ref D) C (.ok .next) s') :
    wpAny (model PR X.w) X.A (pyIter S.val) (fun it s₂ => wpAny (model PR X.w) X.A (newList []) (fun acc s₃ =>
      wpAny (model PR X.w) X.A (newFunctionEnv scope X.env.globals cl [] X.env.qual none .none (some X.env)) (fun cenv s₄ =>
        codeAny (model PR X.w) X.A (.compStart (.ListComp elt [⟨target, iter, ifs, 0⟩] scope pos) 0 it acc { cenv with scope := relabel scope X.env }) (RR acc cenv.locals) s₄) (fun _ _ => False) s₃) (fun _ _ => False) s₂) (fun _ _ => False) s := by
  refine j_pyIter O T B ok fun I oI s2 hI B2 T2 hdI => ?_
  have hIs2 : (s2.heap.get? I).isSome = true := by rw [(T2.fn _ (.head _)).1]; rfl
  refine wpAny_newObj_type (hd := by show 0 ≤ 2 ^ 24; decide) ?_
  have T3 := T2.keepNew (tk := s2.toks) (o := { cls := .type "list", dict := none, data := .seq ([] : List Value).toArray }) rfl
  have hdD := T2.dup
  have hL2 : X.env.locals ≠ s2.heap.objs.size := Nat.ne_of_lt T2.fr.ns.lt
  refine wpAny_newFunctionEnv hcell (by intro y hy; cases hy) (fun h₁ hns hsb => ?_) hkind
  have keep : ∀ b o, (s2.heap.push { cls := .type "list", dict := none, data := .seq ([] : List Value).toArray }).get? b = some o → h₁.get? b = some o := fun b o e =>
    hsb.extBut b o (Nat.ne_of_lt (Heap.lt_size e)) (Heap.get?_push_of_some _ e)
  (refine x1_2 (T3.intoComp (scope := scope) (cl := cl) (tk := s2.toks + 0) (mc := fun _ => none) hns keep) ?_; intro oL hnL T4)
  have hC := T3.dup
  have hid : I ≠ s2.heap.objs.size := hdD _ (.head _)
  have hIL : I ≠ X.env.locals := (T2.fn _ (.head _)).2.2.1
  have T5 : St (((compCx X scope cl (s2.heap.push { cls := .type "list", dict := none, data := .seq ([] : List Value).toArray }).objs.size oL).kept (s2.heap.objs.size, listOf ([] : List Value).toArray 0)).kept (I, oI)) (fun _ => none) σ { s2 with heap := h₁, toks := s2.toks + 0 } :=
    T4.perm (fns := (I, oI) :: (s2.heap.objs.size, listOf ([] : List Value).toArray 0) :: (X.env.locals, oL) :: X.fns) fun r hr => by
      rcases List.mem_cons.mp hr with rfl | hr
      · exact .tail _ (.tail _ (.head _))
      · rcases List.mem_cons.mp hr with rfl | hr
        · exact .tail _ (.head _)
        · rcases List.mem_cons.mp hr with rfl | hr
          · exact .head _
          · exact .tail _ (.tail _ (.tail _ hr))
  have O' : (compCx X scope cl (s2.heap.push { cls := .type "list", dict := none, data := .seq ([] : List Value).toArray }).objs.size oL).Ok d := compCx_ok O hkind hnL
  have loop : ∀ s₄ : Shared, s₄ = { s2 with heap := h₁, toks := s2.toks + 0 } → codeAny (model PR X.w) X.A (.compLoop (.ListComp elt [⟨target, iter, ifs, 0⟩] scope pos) 0 (.ref I) (.ref s2.heap.objs.size) (compEnvC scope cl (s2.heap.push { cls := .type "list", dict := none, data := .seq ([] : List Value).toArray }).objs.size X.env))
      (RR (.ref s2.heap.objs.size) (s2.heap.push { cls := .type "list", dict := none, data := .seq ([] : List Value).toArray }).objs.size) s₄ := by
    (intro s₄ er1; obtain rfl := er1)
    refine j_compLoop (X' := compCx X scope cl _ oL) (b := b) O' rfl rfl Inv len (fun p q i v ys mc σ hi hv hInv hok => ?_) hid ?_ ?_ (fun ys k mc σ' s' hInv hok' B' T' => ?_) h0 ok hI B2.to T5
    · exact turn (((compCx X scope cl _ oL).kept p).kept q) i v ys mc σ (O'.kept.kept) rfl rfl hi hv hInv hok
    · intro q hq
      rcases List.mem_cons.mp hq with rfl | hq
      · exact Ne.symm hIL
      · exact hdI q hq
    · intro q hq
      rcases List.mem_cons.mp hq with rfl | hq
      · exact hL2
      · exact hdD q (.tail _ hq)
    · refine fin ys _ _ k mc oL σ' s' hnL (T'.fn _ (.head _)).2.2.2 (fun q hq => hdD q (.tail _ hq)) ?_ ?_ hInv hok' B' T'
      · intro q hq
        rcases List.mem_cons.mp hq with rfl | hq
        · have z := hC _ (.head _)
          exact z
        · exact hC q (.tail _ (.tail _ hq))
      · intro q hq
        rcases List.mem_cons.mp hq with rfl | hq
        · exact Ne.symm hL2
        · exact (T2.fn q (.tail _ hq)).2.2.1
  exact compStart_raw rfl (loop _ rfl) (j_pyIter_self (T5.fn _ (.head _)).1 hI (loop _ rfl))

theorem j_ListComp {elt target iter : PySem.Expr} {ifs : List PySem.Expr} {scope : Scope} {cl : List (Str × Addr)} {pos : Pos} {Q : Value → Loc → Led → Prop}
    (O : X.Ok d) (hclos : closureFor scope X.env = Pure.pure cl) (hcell : ∀ y ∈ scope.names, y.2 ≠ .cell) (hkind : scope.kind = .function) (hnames : ∀ y ∈ scope.names, y.2 = .local → scope.names.lookup y.1 = some .local) (hs : ∀ x, foldedSetIterable iter X.env x = Pure.pure x)
    (h : J X (eval iter X.env) m σ (fun xv m1 σ1 => ∃ S : Src, xv = S.val ∧ S.ok σ1 ∧ ∃ Inv : Nat → List Value → Loc → Led → Prop, Inv 0 [] (fun _ => none) σ1 ∧ (∀ i ys mc σ, Inv i ys mc σ → ys.length ≤ 16777216) ∧
      CompTurn X d scope cl target ifs elt S Inv ∧ (∀ ys mc σ2 D k, Inv S.size ys mc σ2 → S.ok σ2 → σ2 D = none → Q (.ref D) m1 (σ2.set D (listOf ys.toArray k))))) : J X (eval (.ListComp elt [⟨target, iter, ifs, 0⟩] scope pos) X.env) m σ Q := by
  intro b s B T
  first | refine Mine.sb (PySem.eval_ListComp) ?_ | rw [PySem.eval_ListComp]
  refine wpAny_comprehension_free (use := none) rfl hs hclos hkind hnames (h.seq B T fun xv s1 m1 σ1 B1 T1 h1 => ?_)
  obtain ⟨S, rfl, ok, Inv, h0, len, turn, fin⟩ := h1
  refine j_comprehension (RR := fun acc C => compPost (model PR X.w) X.A (fun _ _ => False) none (Done X Q b) acc C) O hcell hkind B1 T1 ok h0 len turn ?_
  intro ys D C k mc oL σ2 s' hnL hD hdD hC hLo hInv hok' B' T'
  refine (i1_2 (mc) ( T'.fr.ns) ( fun h'' hs'' => ?_))
  have T6 := T'.outComp (tk := s'.toks) hnL hC hLo hs''.extBut
  refine .mk B'.heap (?_ : St X m1 (σ2.set D (listOf ys.toArray k)) _) (fin ys mc σ2 D k hInv hok' hD)
  have z := T6.fn _ (.head _)
  refine ⟨T6.fr, fun a o e => ?_, fun q hq => ?_⟩
  · by_cases ha : a = D
    · subst ha; (first | exact nos (Led.set_self) e | exact nos e (Led.set_self) | (rw [Led.set_self] at e; cases e))
      exact (i0_3 (z.1) ( z.2.2.1) ( Heap.get?_none_of_le z.2.1))
    · rw [Led.set_ne ha] at e; exact T6.nw a o e
  · have y := T6.fn q (.tail _ hq)
    exact (i0_4 (y.1) ( y.2.1) ( y.2.2.1) ( by first | exact ((Led.set_ne (hdD q hq)).trans y.2.2.2) | (rw [Led.set_ne (hdD q hq)]; exact y.2.2.2)))
end
end
section
--FILE JP
section
variable {X : Cx} {m : Loc} {σ : Led} {s : Shared} {d : Nat} {p q : Addr × Obj} {b : Shared}

theorem St.outKeep {scope : Scope} {cl : List (Str × Addr)} {C : Addr} {oL : Obj} {mc : Loc} (T : St ((compCx X scope cl C oL).kept p) mc σ s) (hn : NsObj oL m) (hLo : ∀ q ∈ (X.kept p).fns, q.1 ≠ X.env.locals) :
    ∃ oC, NsObj oC mc ∧ St ((X.kept p).kept (C, oC)) m σ s := by
  have hL := T.fn (X.env.locals, oL) (.tail _ (.head _))
  (refine x2_1 hn ?_; clear hn; intro es ep r)
  (refine x3_2 (id T.fr.ns) ?_; intro oC esC epC hC rC)
  refine ⟨oC, (i2_1 (esC) ( epC) ( rC)), ⟨(i3_2 (oL) ( es) ( ep) ( hL.1) ( r)), T.fr.keep, hL.2.1⟩, fun a o e => ?_, fun q hq => ?_⟩
  · have z := T.nw a o e
    exact (i0_3 (z.1) ( fun (q : a = X.env.locals) => (by rw [q, show σ X.env.locals = none from hL.2.2.2] at e; cases e)) ( z.2.2))
  · rcases List.mem_cons.mp hq with rfl | hq
    · exact (i0_4 (hC) ( T.fr.above) ( fun e => hL.2.2.1 e.symm) ( T.locals_none))
    · have z := T.fn q (by
        rcases List.mem_cons.mp hq with rfl | hq
        · exact .head _
        · exact .tail _ (.tail _ hq))
      exact (i0_4 (z.1) ( z.2.1) ( hLo q hq) ( z.2.2.2))

theorem St.unkeepTo {D : Addr} {o : Obj} (T : St (X.kept (D, o)) m σ s) (hd : ∀ q ∈ X.fns, q.1 ≠ D) : St X m (σ.set D o) s := by
  have z := T.fn _ (.head _)
  refine ⟨T.fr, fun a o' e => ?_, fun q hq => ?_⟩
  · by_cases ha : a = D
    · subst ha; (first | exact nos (Led.set_self) e | exact nos e (Led.set_self) | (rw [Led.set_self] at e; cases e))
      exact (i0_3 (z.1) ( z.2.2.1) ( Heap.get?_none_of_le z.2.1))
    · rw [Led.set_ne ha] at e; exact T.nw a o' e
  · have y := T.fn q (.tail _ hq)
    exact (i0_4 (y.1) ( y.2.1) ( y.2.2.1) ( by first | exact ((Led.set_ne (hd q hq)).trans y.2.2.2) | (rw [Led.set_ne (hd q hq)]; exact y.2.2.2)))

theorem j_Assign_ListComp {elt target iter : PySem.Expr} {y : Str} {py : Pos} {ifs : List PySem.Expr} {scope : Scope} {cl : List (Str × Addr)} {pos spos : Pos} {Q : Flow → Loc → Led → Prop}
    (O : X.Ok d) (hsw : swapsWith (.ListComp elt [⟨target, iter, ifs, 0⟩] scope pos) (some (.Name y py)) spos.line X.env = Pure.pure true)
    (hclos : closureFor scope X.env = Pure.pure cl) (hcell : ∀ y ∈ scope.names, y.2 ≠ .cell) (hkind : scope.kind = .function) (hnames : ∀ y ∈ scope.names, y.2 = .local → scope.names.lookup y.1 = some .local) (hs : ∀ x, foldedSetIterable iter X.env x = Pure.pure x)
    (hy : X.env.kindOf y = some .local)
    (h : J X (eval iter X.env) m σ (fun xv m1 σ1 => ∃ S : Src, xv = S.val ∧ S.ok σ1 ∧ ∃ Inv : Nat → List Value → Loc → Led → Prop, Inv 0 [] (fun _ => none) σ1 ∧ (∀ i ys mc σ, Inv i ys mc σ → ys.length ≤ 16777216) ∧
      CompTurn X d scope cl target ifs elt S Inv ∧ (∀ ys mc σ2 D k, Inv S.size ys mc σ2 → S.ok σ2 → σ2 D = none → Q .next (m1.set y (.ref D)) (σ2.set D (listOf ys.toArray k))))) : J X (exec (.Assign [.Name y py] (.ListComp elt [⟨target, iter, ifs, 0⟩] scope pos) spos) X.env) m σ Q := by
  intro b s B T
  first | refine Mine.sb (PySem.exec_Assign_Name_used _ _ _ _ hsw) ?_ | rw [PySem.exec_Assign_Name_used _ _ _ _ hsw]
  refine wpAny_bind (wpAny_standAt (wpAny_bind ?_))
  show wpAny _ X.A (do let _ ← comprehension (.ListComp elt [⟨target, iter, ifs, 0⟩] scope pos) scope X.env _ (newList []) false (eval iter X.env) (some (assign (.Name y py) X.env))) _ _ s
  refine wpAny_bind (wpAny_mono (wpAny_comprehension_free (use := some (assign (.Name y py) X.env)) (Q := fun _ s' => Done X Q b .next s') rfl hs hclos hkind hnames (h.seq B T fun xv s1 m1 σ1 B1 T1 h1 => ?_)) (fun _ s' hq => wpAny_pure (wpAny_pure hq)) fun _ _ e => e)
  obtain ⟨S, rfl, ok, Inv, h0, len, turn, fin⟩ := h1
  refine j_comprehension (RR := fun acc C => compPost (model PR X.w) X.A (fun _ _ => False) (some (assign (.Name y py) X.env)) (fun _ s' => Done X Q b .next s') acc C) O hcell hkind B1 T1 ok h0 len turn ?_
  intro ys D C k mc oL σ2 s' hnL hD hdD hC hLo hInv hok' B' T'
  (refine x1_2 (T'.outKeep hnL hLo) ?_; intro oC hnC T6)
  show wpAny _ X.A (assign (.Name y py) X.env (.ref D)) _ _ _
  refine wpAny_assign_Name (wpAny_storeName_local hy T6.fr.ns (fun h₂ hn₂ hs₂ => ?_) (by rw [O.kind]; rfl))
  have T7 := T6.local (tk := s'.toks + 1) hn₂ hs₂.extBut
  (refine x2_1 hnC ?_; clear hnC; intro es ep r)
  refine (i1_2 (mc) ( (i3_2 (oC) ( es) ( ep) ( (T7.fn _ (.head _)).1) ( r))) ( fun h₃ hs₃ => ?_))
  have T8 := T7.keepDrop (tk := s'.toks + 1) hs₃.extBut hC
  exact .mk B'.to (T8.unkeepTo hdD) (fin ys mc σ2 D k hInv hok' hD)

noncomputable def CompTurn2 (X : Cx) (d : Nat) (scope : Scope) (cl : List (Str × Addr)) (target i2 t2 : PySem.Expr) (ifs2 : List PySem.Expr) (elt : PySem.Expr) (S : Src) (Inv : Nat → List Value → Led → Prop) : Prop :=
  ∀ X' i v ys mc σ, X'.Ok d → X'.w = X.w → X'.env = compEnvC scope cl X'.env.locals X.env → i < S.size → S.item i v → Inv i ys σ → S.ok σ →
    J X' (assign target X'.env v) mc σ (fun _ m2 σ2 => J X' (eval i2 X'.env) m2 σ2 (fun xv m3 σ3 => ∃ S2 : Src, xv = S2.val ∧ S2.ok σ3 ∧ S.ok σ3 ∧ ∃ Inv2 : Nat → List Value → Loc → Led → Prop, Inv2 0 ys m3 σ3 ∧ (∀ i ys mc σ, Inv2 i ys mc σ → ys.length ≤ 16777216) ∧
      (∀ X'' j v2 ys2 mc2 σ4, X''.Ok d → X''.w = X.w → X''.env = X'.env → j < S2.size → S2.item j v2 → Inv2 j ys2 mc2 σ4 → S2.ok σ4 → S.ok σ4 →
        J X'' (assign t2 X''.env v2) mc2 σ4 (fun _ m5 σ5 => J X'' (tests ifs2 X''.env) m5 σ5 (fun ok m6 σ6 =>
          if ok = true then J X'' (eval elt X''.env) m6 σ6 (fun y m7 σ7 => Inv2 (j + 1) (ys2 ++ [y]) m7 σ7 ∧ S2.ok σ7 ∧ S.ok σ7) else Inv2 (j + 1) ys2 m6 σ6 ∧ S2.ok σ6 ∧ S.ok σ6))) ∧
      (∀ ys2 mc2 σ4, Inv2 S2.size ys2 mc2 σ4 → S2.ok σ4 → S.ok σ4 → Inv (i + 1) ys2 σ4)))

theorem j_comprehension2 {elt target iter t2 i2 : PySem.Expr} {ifs2 : List PySem.Expr} {scope : Scope} {cl : List (Str × Addr)} {pos : Pos} {S : Src} {Inv : Nat → List Value → Led → Prop}
    (O : X.Ok d) (hcell : ∀ y ∈ scope.names, y.2 ≠ .cell) (hkind : scope.kind = .function) (hs2 : ∀ env x, foldedSetIterable i2 env x = Pure.pure x) (B : Same b s) (T : St X m σ s) (ok : S.ok σ) (h0 : Inv 0 [] σ)
    (turn : CompTurn2 X d scope cl target i2 t2 ifs2 elt S Inv)
    {RR : Value → Addr → Result → Shared → Prop}
    (fin : ∀ ys D C k mc oL σ s', NsObj oL m → σ D = none → (∀ q ∈ X.fns, q.1 ≠ D) → (∀ q ∈ (X.kept (D, listOf ys.toArray k)).fns, q.1 ≠ C) → (∀ q ∈ (X.kept (D, listOf ys.toArray k)).fns, q.1 ≠ X.env.locals) → Inv S.size ys σ → S.ok σ → Same b s' → St ((compCx X scope cl C oL).kept (D, listOf ys.toArray k)) mc σ s' → RR (.ref D) C (.ok .next) s') :
    wpAny (model PR X.w) X.A (pyIter S.val) (fun it s₂ => wpAny (model PR X.w) X.A (newList []) (fun acc s₃ =>
      wpAny (model PR X.w) X.A (newFunctionEnv scope X.env.globals cl [] X.env.qual none .none (some X.env)) (fun cenv s₄ =>
        codeAny (model PR X.w) X.A (.compStart (.ListComp elt [⟨target, iter, [], 0⟩, ⟨t2, i2, ifs2, 0⟩] scope pos) 0 it acc { cenv with scope := relabel scope X.env }) (RR acc cenv.locals) s₄) (fun _ _ => False) s₃) (fun _ _ => False) s₂) (fun _ _ => False) s := by
  refine j_pyIter O T B ok fun I oI s2 hI B2 T2 hdI => ?_
  refine wpAny_newObj_type (hd := by show 0 ≤ 2 ^ 24; decide) ?_
  have T3 := T2.keepNew (tk := s2.toks) (o := { cls := .type "list", dict := none, data := .seq ([] : List Value).toArray }) rfl
  have hdD := T2.dup
  have hL2 : X.env.locals ≠ s2.heap.objs.size := Nat.ne_of_lt T2.fr.ns.lt
  refine wpAny_newFunctionEnv hcell (by intro y hy; cases hy) (fun h₁ hns hsb => ?_) hkind
  have keep : ∀ b o, (s2.heap.push { cls := .type "list", dict := none, data := .seq ([] : List Value).toArray }).get? b = some o → h₁.get? b = some o := fun b o e =>
    hsb.extBut b o (Nat.ne_of_lt (Heap.lt_size e)) (Heap.get?_push_of_some _ e)
  (refine x1_2 (T3.intoComp (scope := scope) (cl := cl) (tk := s2.toks + 0) (mc := fun _ => none) hns keep) ?_; intro oL hnL T4)
  have hC := T3.dup
  have hid : I ≠ s2.heap.objs.size := hdD _ (.head _)
  have hIL : I ≠ X.env.locals := (T2.fn _ (.head _)).2.2.1
  (generalize hsz : (s2.heap.push { cls := .type "list", dict := none, data := .seq ([] : List Value).toArray }).objs.size = Cb at *; revert Cb; refine bar ?_; set_option tactic.hygienic false in intros)
  (generalize hDz : s2.heap.objs.size = Db at *; revert Db; refine bar ?_; set_option tactic.hygienic false in intros)
  have T5 : St (((compCx X scope cl Cb oL).kept (Db, listOf ([] : List Value).toArray 0)).kept (I, oI)) (fun _ => none) σ { s2 with heap := h₁, toks := s2.toks + 0 } :=
    T4.perm (fns := (I, oI) :: (Db, listOf ([] : List Value).toArray 0) :: (X.env.locals, oL) :: X.fns) fun r hr => by
      rcases List.mem_cons.mp hr with rfl | hr
      · exact .tail _ (.tail _ (.head _))
      · rcases List.mem_cons.mp hr with rfl | hr
        · exact .tail _ (.head _)
        · rcases List.mem_cons.mp hr with rfl | hr
          · exact .head _
          · exact .tail _ (.tail _ (.tail _ hr))
  have O' : (compCx X scope cl Cb oL).Ok d := compCx_ok O hkind hnL
  have hIf : ∀ q ∈ (compCx X scope cl Cb oL).fns, q.1 ≠ I := fun q hq => by
    rcases List.mem_cons.mp hq with rfl | hq
    · exact Ne.symm hIL
    · exact hdI q hq
  have hDf : ∀ q ∈ (compCx X scope cl Cb oL).fns, q.1 ≠ Db := fun q hq => by
    rcases List.mem_cons.mp hq with rfl | hq
    · exact hL2
    · exact hdD q (.tail _ hq)
  have loop : ∀ s₄ : Shared, s₄ = { s2 with heap := h₁, toks := s2.toks + 0 } → codeAny (model PR X.w) X.A (.compLoop (.ListComp elt [⟨target, iter, [], 0⟩, ⟨t2, i2, ifs2, 0⟩] scope pos) 0 (.ref I) (.ref Db) (compEnvC scope cl Cb X.env)) (RR (.ref Db) Cb) s₄ := by
    (intro s₄ er1; obtain rfl := er1)
    refine compLoop_raw2 (depth := 0) rfl rfl (hs2 _) (fun n s' => ∃ i ys k oI mc σ, n = S.size - i ∧ i ≤ S.size ∧ Inv i ys σ ∧ S.ok σ ∧ S.iter i oI ∧ Same b s' ∧ St (((compCx X scope cl Cb oL).kept (Db, listOf ys.toArray k)).kept (I, oI)) mc σ s') ?_ S.size (i6_7 (0) ( []) ( 0) ( oI) ( _) ( σ) ( rfl) ( Nat.zero_le _) ( h0) ( ok) ( hI) ( B2.to) ( T5))
    (intro n s' zr1; refine x6_7 zr1 ?_; clear zr1; intro i ys k oI mc σ er1 hi hInv ok it B T; obtain rfl := er1)
    have hI' : ∀ q ∈ ((compCx X scope cl Cb oL).kept (Db, listOf ys.toArray k)).fns, q.1 ≠ I := fun q hq => by
      rcases List.mem_cons.mp hq with rfl | hq
      · exact Ne.symm hid
      · exact hIf q hq
    by_cases hlt : i < S.size
    · refine j_pyNext_item (X := (compCx X scope cl Cb oL).kept (Db, listOf ys.toArray k)) (p := (I, oI)) O.hh T B ok it hlt hI' fun v o2 s3 hv hI2 B3 T3 => ?_
      refine letOwned hI2 (T3.fn _ (.head _)).1 ?_
      refine (turn (((compCx X scope cl Cb oL).kept (Db, listOf ys.toArray k)).kept (I, o2)) i v ys mc σ O'.kept.kept rfl rfl hlt hv hInv ok).seq B3 T3 fun _ s4 m4 σ4 B4 T4 h4 => ?_
      refine wpAny_tests_nil ?_
      simp only [if_true]
      refine h4.seq B4 T4 fun xv s5 m5 σ5 B5 T5 h5 => ?_
      obtain ⟨S2, rfl, ok2, ok1, Inv2, h20, len2, turn2, fin2⟩ := h5
      refine j_pyIter (X := ((compCx X scope cl Cb oL).kept (Db, listOf ys.toArray k)).kept (I, o2)) O'.kept.kept T5 B5 ok2 fun I2 oI2 s6 hI2' B6 T6 hdI2 => ?_
      have hI2D : I2 ≠ Db := fun e => hdI2 _ (.tail _ (.head _)) e.symm
      have hI2I : I2 ≠ I := fun e => hdI2 _ (.head _) e.symm
      have inner : ∀ s₇ : Shared, s₇ = s6 → codeAny (model PR X.w) X.A (.compLoop (.ListComp elt [⟨target, iter, [], 0⟩, ⟨t2, i2, ifs2, 0⟩] scope pos) 1 (.ref I2) (.ref Db) (compEnvC scope cl Cb X.env))
          (fun r s₇ => r = .ok .next ∧ ∃ m, m < S.size - i ∧ ∃ i ys k oI mc σ, m = S.size - i ∧ i ≤ S.size ∧ Inv i ys σ ∧ S.ok σ ∧ S.iter i oI ∧ Same b s₇ ∧ St (((compCx X scope cl Cb oL).kept (Db, listOf ys.toArray k)).kept (I, oI)) mc σ s₇) s₇ := by
        (intro s₇ er1; obtain rfl := er1)
        have T7 : St ((((compCx X scope cl Cb oL).kept (I, o2)).kept (Db, listOf ys.toArray k)).kept (I2, oI2)) m5 σ5 s₇ := T6.perm (fns := (I2, oI2) :: (Db, listOf ys.toArray k) :: (I, o2) :: (compCx X scope cl Cb oL).fns) fun r hr => by
          rcases List.mem_cons.mp hr with rfl | hr
          · exact .head _
          · rcases List.mem_cons.mp hr with rfl | hr
            · exact .tail _ (.tail _ (.head _))
            · rcases List.mem_cons.mp hr with rfl | hr
              · exact .tail _ (.head _)
              · exact .tail _ (.tail _ (.tail _ hr))
        refine j_compLoop (X' := (compCx X scope cl Cb oL).kept (I, o2)) (b := b) (d := d) O'.kept (depth := 1) rfl rfl (S := S2) (fun j ys mc σ => Inv2 j ys mc σ ∧ S.ok σ) (fun i ys mc σ h => len2 i ys mc σ h.1) (fun p q j v2 ys2 mc2 σ8 hj hv2 hI8 hok8 => ?_) hI2D ?_ ?_ (fun ys8 k8 mc8 σ8 s8 hI8 hok8 B8 T8 => ?_) ⟨h20, ok1⟩ ok2 hI2' B6 T7
        · refine (turn2 ((((compCx X scope cl Cb oL).kept (I, o2)).kept p).kept q) j v2 ys2 mc2 σ8 O'.kept.kept.kept rfl rfl hj hv2 hI8.1 hok8 hI8.2).mono fun _ m9 σ9 h9 => h9.mono fun okb m10 σ10 h10 => ?_
          cases okb with
          | true =>
            simp only [if_true] at h10 ⊢
            exact h10.mono fun y m11 σ11 h11 => ⟨⟨h11.1, h11.2.2⟩, h11.2.1⟩
          | false =>
            simp only [Bool.false_eq_true, if_false] at h10 ⊢
            exact ⟨⟨h10.1, h10.2.2⟩, h10.2.1⟩
        · intro q hq
          rcases List.mem_cons.mp hq with rfl | hq
          · exact Ne.symm hI2I
          · exact hdI2 q (.tail _ (.tail _ hq))
        · intro q hq
          rcases List.mem_cons.mp hq with rfl | hq
          · exact hid
          · exact hDf q hq
        · exact ⟨rfl, S.size - (i + 1), by omega, i + 1, ys8, k8, o2, mc8, σ8, rfl, hlt, fin2 _ _ _ hI8.1 hok8 hI8.2, hI8.2, hI2, B8, T8.swap⟩
      exact compStart_raw (depth := 1) rfl (inner _ rfl) (j_pyIter_self (T6.fn _ (.head _)).1 hI2' (inner _ rfl))
    · have hin : i = S.size := by exact (Nat.le_antisymm hi (Nat.le_of_not_lt hlt))
      subst hin
      refine j_pyNext_end (X := (compCx X scope cl Cb oL).kept (Db, listOf ys.toArray k)) (p := (I, oI)) O.hh T B ok it hI' fun s3 B3 T3 => ?_
      refine fin ys _ _ k mc oL σ s3 hnL (T3.fn _ (.head _)).2.2.2 (fun q hq => hdD q (.tail _ hq)) ?_ ?_ hInv ok B3 T3
      · intro q hq
        rcases List.mem_cons.mp hq with rfl | hq
        · have z := hC _ (.head _)
          exact z
        · exact hC q (.tail _ (.tail _ hq))
      · intro q hq
        rcases List.mem_cons.mp hq with rfl | hq
        · exact Ne.symm hL2
        · exact (T2.fn q (.tail _ hq)).2.2.1
  exact compStart_raw (depth := 0) rfl (loop _ rfl) (j_pyIter_self (T5.fn _ (.head _)).1 hI (loop _ rfl))
end
end
section
--FILE JQ
noncomputable def IsTupO (o : Obj) (items : List Value) : Prop := o.cls = .type "tuple" ∧ ∃ n, o.data = .seq items.toArray n
noncomputable def IsLstO (o : Obj) (items : List Value) : Prop := o.cls = .type "list" ∧ ∃ n, o.data = .seq items.toArray n

section
variable {X : Cx} {m : Loc} {σ : Led} {s : Shared} {d : Nat} {p q : Addr × Obj} {b : Shared}

theorem St.extNew {h' : Heap} {tk : Nat} (T : St X m σ s) (h : Heap.ExtBut s.heap.objs.size s.heap h') : St X m σ { s with heap := h', toks := tk } := T.ext fun b o e => h b o (Nat.ne_of_lt (Heap.lt_size e)) e

theorem j_unpackItems_tup {t : Addr} {o : Obj} {items : List Value} {n : Nat} {Q : List Value → Loc → Led → Prop} (O : X.Ok d) (hs : σ t = some o) (ho : IsTupO o items) (hn : n = items.length) (h : Q items m σ) : J X (unpackItems (.ref t) n none) m σ Q := by
  intro b s B T
  have z := wpAny_unpackItems_tuple (prog := PR) (w := X.w) (A := X.A) (E := fun _ _ => False) (t := t) (items := items.toArray) (Q := Done X Q b) O.hh (i1_2 (o) ( (T.nw _ _ hs).1) ( ho)) fun h' e => .mk B.heap (T.extNew (tk := s.toks) e) (by simpa using h)
  rw [List.size_toArray, ← hn] at z
  exact z
theorem j_unpackItems_lst {t : Addr} {o : Obj} {items : List Value} {n : Nat} {Q : List Value → Loc → Led → Prop} (O : X.Ok d) (hs : σ t = some o) (ho : IsLstO o items) (hn : n = items.length) (h : Q items m σ) : J X (unpackItems (.ref t) n none) m σ Q := by
  intro b s B T
  have z := kun_itemsOf (prog := PR) (w := X.w) (A := X.A) (E := fun _ _ => False) (l := t) (items := items.toArray) (Q := Done X Q b) O.hh (i1_2 (o) ( (T.nw _ _ hs).1) ( ho)) fun h' e => .mk B.heap (T.extNew (tk := s.toks) e) (by simpa using h)
  rw [List.size_toArray, ← hn] at z
  exact z
theorem j_assign_Tuple {elts : List PySem.Expr} {k : Nat} {pos : Pos} {v : Value} {Q : Unit → Loc → Led → Prop} (hstar : (assignEach elts X.env).findIdx? (·.1) = none)
    (h : J X (unpackItems v (assignEach elts X.env).length none) m σ (fun items m1 σ1 => J X (assignInOrder ((assignEach elts X.env).map (·.2)) items) m1 σ1 Q)) : J X (assign (.Tuple elts k pos) X.env v) m σ Q := by
  first | refine Mine.sb (arm_assign_Tuple) ?_ | rw [arm_assign_Tuple]
  refine .bind (.standAt ?_)
  unfold unpack
  first | refine Mine.sb (hstar) ?_ | rw [hstar]
  exact .bind (.holding h)
theorem j_assignInOrder_nil {Q : Unit → Loc → Led → Prop} (h : Q () m σ) : J X (assignInOrder [] []) m σ Q := J.pure h
theorem j_assignInOrder_cons {t : Value → Sem Unit} {ts : List (Value → Sem Unit)} {x : Value} {xs : List Value} {Q : Unit → Loc → Led → Prop} (h : J X (t x) m σ (fun _ m1 σ1 => J X (assignInOrder ts xs) m1 σ1 Q)) : J X (assignInOrder (t :: ts) (x :: xs)) m σ Q := by
  unfold assignInOrder
  exact .bind (.holding h)
theorem j_bindName {x : Str} {v : Value} {Q : Unit → Loc → Led → Prop} (h : J X (storeName X.env x v) m σ Q) : J X (bindName X.env x v) m σ Q :=
  fun b s B S => wpAny_bindName (h b s B S)

theorem St.forget {a : Addr} {o : Obj} (T : St X m (σ.set a o) s) (ha : σ a = none) : St X m σ s := by
  have sub : ∀ c oc, σ c = some oc → σ.set a o c = some oc := fun c oc e => by
    rw [Led.set_ne (by rintro rfl; (first | exact nos (ha) e | exact nos e (ha) | (rw [ha] at e; cases e)))]; exact e
  refine ⟨T.fr, fun c oc e => T.nw c oc (sub c oc e), fun q hq => ?_⟩
  have z := T.fn q hq
  refine (i0_4 (z.1) ( z.2.1) ( z.2.2.1) ( ?_))
  cases e : σ q.1 with
  | none => rfl
  | some oc => have := sub _ _ e; (first | exact nos (z.2.2.2) this | exact nos this (z.2.2.2) | (rw [z.2.2.2] at this; cases this))
end

theorem j_bindPair {X : Cx} {m : Loc} {σ : Led} {d : Nat} {x y : Str} {px py : Pos} {k : Nat} {pos : Pos} {t : Addr} {o : Obj} {v w : Value} {Q : Unit → Loc → Led → Prop} (O : X.Ok d) (hs : σ t = some o) (ho : IsTupO o [v, w])
    (hx : X.env.kindOf x = some .local) (hy : X.env.kindOf y = some .local) (h : Q () ((m.set x v).set y w) σ) : J X (assign (.Tuple [.Name x px, .Name y py] k pos) X.env (.ref t)) m σ Q := by
  have e : assignEach [PySem.Expr.Name x px, PySem.Expr.Name y py] X.env = [(false, assign (.Name x px) X.env), (false, assign (.Name y py) X.env)] := rfl
  refine j_assign_Tuple (by rw [e]; rfl) ?_
  first | refine Mine.sb (e) ?_ | rw [e]
  refine j_unpackItems_tup O hs ho rfl ?_
  refine j_assignInOrder_cons (j_assign_Name (j_store_local O hx ?_))
  exact j_assignInOrder_cons (j_assign_Name (j_store_local O hy (j_assignInOrder_nil h)))

section
variable {X : Cx} {m : Loc} {σ : Led} {s : Shared} {d : Nat} {p q : Addr × Obj} {b : Shared}

noncomputable def CompTurnE (X : Cx) (d : Nat) (scope : Scope) (cl : List (Str × Addr)) (x y : Str) (ifs : List PySem.Expr) (elt : PySem.Expr) (l : Addr) (items : List Value) (ol : Obj) (Inv : Nat → List Value → Led → Prop) : Prop :=
  ∀ X' i v t ys mc σ, X'.Ok d → X'.w = X.w → X'.env = compEnvC scope cl X'.env.locals X.env → items[i]? = some v → Inv i ys σ → σ l = some ol →
    J X' (tests ifs X'.env) (Loc.set (Loc.set mc x (.int i t)) y v) σ (fun ok m3 σ3 =>
      if ok = true then J X' (eval elt X'.env) m3 σ3 (fun z m4 σ4 => Inv (i + 1) (ys ++ [z]) σ4 ∧ σ4 l = some ol) else Inv (i + 1) ys σ3 ∧ σ3 l = some ol)

theorem j_comprehensionE {elt iter : PySem.Expr} {x y : Str} {px py pt : Pos} {kt : Nat} {ifs : List PySem.Expr} {scope : Scope} {cl : List (Str × Addr)} {pos : Pos} {l : Addr} {items : List Value} {ol : Obj} {Inv : Nat → List Value → Led → Prop} {e it : Addr}
    (O : X.Ok d) (hcell : ∀ y ∈ scope.names, y.2 ≠ .cell) (hkind : scope.kind = .function) (hx : scope.names.lookup x = some .local) (hy : scope.names.lookup y = some .local)
    {oe oi : Obj} (B : Same b s) (T : St ((X.kept (it, oi)).kept (e, oe)) m σ s) (hn : e ≠ it) (hde : ∀ q ∈ X.fns, q.1 ≠ e) (hdi : ∀ q ∈ X.fns, q.1 ≠ it) (he : IsEnum s.heap e it 0 .none) (hit : s.heap.IsListIter it l 0)
    (hol : σ l = some ol) (ho : IsLstO ol items) (h0 : Inv 0 [] σ)
    (len : ∀ i ys σ, Inv i ys σ → ys.length ≤ 16777216) (turn : CompTurnE X d scope cl x y ifs elt l items ol Inv)
    {RR : Value → Addr → Result → Shared → Prop}
    (fin : ∀ ys D C k mc oL σ s', NsObj oL m → σ D = none → (∀ q ∈ X.fns, q.1 ≠ D) → (∀ q ∈ (X.kept (D, listOf ys.toArray k)).fns, q.1 ≠ C) → (∀ q ∈ (X.kept (D, listOf ys.toArray k)).fns, q.1 ≠ X.env.locals) → Inv items.length ys σ → σ l = some ol → Same b s' → St ((compCx X scope cl C oL).kept (D, listOf ys.toArray k)) mc σ s' → RR (.ref D) C (.ok .next) s') :
    wpAny (model PR X.w) X.A (pyIter (.ref e)) (fun it s₂ => wpAny (model PR X.w) X.A (newList []) (fun acc s₃ =>
      wpAny (model PR X.w) X.A (newFunctionEnv scope X.env.globals cl [] X.env.qual none .none (some X.env)) (fun cenv s₄ =>
        codeAny (model PR X.w) X.A (.compStart (.ListComp elt [⟨.Tuple [.Name x px, .Name y py] kt pt, iter, ifs, 0⟩] scope pos) 0 it acc { cenv with scope := relabel scope X.env }) (RR acc cenv.locals) s₄) (fun _ _ => False) s₃) (fun _ _ => False) s₂) (fun _ _ => False) s := by
  refine wpAny_pyIter_enum he ?_
  refine wpAny_newObj_type (hd := by show 0 ≤ 2 ^ 24; decide) ?_
  have T3 := T.keepNew (tk := s.toks) (o := { cls := .type "list", dict := none, data := .seq ([] : List Value).toArray }) rfl
  have hdD := T.dup
  have hL2 : X.env.locals ≠ s.heap.objs.size := Nat.ne_of_lt T.fr.ns.lt
  refine wpAny_newFunctionEnv hcell (by intro y hy; cases hy) (fun h₁ hns hsb => ?_) hkind
  have keep : ∀ b o, (s.heap.push { cls := .type "list", dict := none, data := .seq ([] : List Value).toArray }).get? b = some o → h₁.get? b = some o := fun b o e =>
    hsb.extBut b o (Nat.ne_of_lt (Heap.lt_size e)) (Heap.get?_push_of_some _ e)
  (refine x1_2 (T3.intoComp (scope := scope) (cl := cl) (tk := s.toks + 0) (mc := fun _ => none) hns keep) ?_; intro oL hnL T4)
  have hC := T3.dup
  have hed : e ≠ s.heap.objs.size := hdD _ (.head _)
  have hid : it ≠ s.heap.objs.size := hdD _ (.tail _ (.head _))
  have heL : e ≠ X.env.locals := (T.fn _ (.head _)).2.2.1
  have hiL : it ≠ X.env.locals := (T.fn _ (.tail _ (.head _))).2.2.1
  have hXL : ∀ q ∈ X.fns, q.1 ≠ X.env.locals := fun q hq => (T.fn q (.tail _ (.tail _ hq))).2.2.1
  have hoi : oi.cls = .type "list_iterator" ∧ oi.data = .fields #[.ref l, .int 0 0] := by
    (refine x1_2 hit ?_; clear hit; intro o' ho' r)
    (first | exact nos ((T.fn _ (.tail _ (.head _))).1) ho' | exact nos ho' ((T.fn _ (.tail _ (.head _))).1) | (rw [(T.fn _ (.tail _ (.head _))).1] at ho'; cases ho')); exact r
  have hoe : oe = { cls := .type "enumerate", dict := none, data := .fields #[.none, .bool false, .ref it, rawInt 0, .none, .none], slots := #[] } := by
    have z : s.heap.get? e = some _ := he
    (first | exact nos ((T.fn _ (.head _)).1) z | exact nos z ((T.fn _ (.head _)).1) | (rw [(T.fn _ (.head _)).1] at z; cases z)); rfl
  clear he hit
  (generalize hsz : (s.heap.push { cls := .type "list", dict := none, data := .seq ([] : List Value).toArray }).objs.size = Cb at *; revert Cb; refine bar ?_; set_option tactic.hygienic false in intros)
  (generalize hDz : s.heap.objs.size = Db at *; revert Db; refine bar ?_; set_option tactic.hygienic false in intros)
  have T5 : St ((((compCx X scope cl Cb oL).kept (Db, listOf ([] : List Value).toArray 0)).kept (it, oi)).kept (e, oe)) (fun _ => none) σ { s with heap := h₁, toks := s.toks + 0 } :=
    T4.perm (fns := (e, oe) :: (it, oi) :: (Db, listOf ([] : List Value).toArray 0) :: (X.env.locals, oL) :: X.fns) fun r hr => by
      rcases List.mem_cons.mp hr with rfl | hr
      · exact .tail _ (.tail _ (.head _))
      · rcases List.mem_cons.mp hr with rfl | hr
        · exact .tail _ (.tail _ (.tail _ (.head _)))
        · rcases List.mem_cons.mp hr with rfl | hr
          · exact .tail _ (.head _)
          · rcases List.mem_cons.mp hr with rfl | hr
            · exact .head _
            · exact .tail _ (.tail _ (.tail _ (.tail _ hr)))
  have O' : (compCx X scope cl Cb oL).Ok d := compCx_ok O hkind hnL
  have hDf : ∀ q ∈ (compCx X scope cl Cb oL).fns, q.1 ≠ Db := fun q hq => by
    rcases List.mem_cons.mp hq with rfl | hq
    · exact hL2
    · exact hdD q (.tail _ (.tail _ hq))
  have loop : ∀ s₄ : Shared, s₄ = { s with heap := h₁, toks := s.toks + 0 } → codeAny (model PR X.w) X.A (.compLoop (.ListComp elt [⟨.Tuple [.Name x px, .Name y py] kt pt, iter, ifs, 0⟩] scope pos) 0 (.ref e) (.ref Db) (compEnvC scope cl Cb X.env)) (RR (.ref Db) Cb) s₄ := by
    (intro s₄ er1; obtain rfl := er1)
    refine compLoop_raw (depth := 0) rfl rfl (fun n s' => ∃ i ys k oi old mc σ, n = items.length - i ∧ i ≤ items.length ∧ Inv i ys σ ∧ σ l = some ol ∧ (oi.cls = .type "list_iterator" ∧ oi.data = .fields #[.ref l, .int (i : Nat) 0]) ∧ Same b s' ∧
      St ((((compCx X scope cl Cb oL).kept (Db, listOf ys.toArray k)).kept (it, oi)).kept (e, { cls := .type "enumerate", dict := none, data := .fields #[.none, .bool false, .ref it, rawInt (i : Nat), .none, old], slots := #[] })) mc σ s') ?_ items.length
      ⟨0, [], 0, oi, .none, _, σ, rfl, Nat.zero_le _, h0, hol, hoi, B.to, by rw [hoe] at T5; exact T5⟩
    clear T5 hoi hoe h0 hol B T T3 T4
    (intro n s' zr1; refine x7_7 zr1 ?_; clear zr1; intro i ys k oi old mc σ er1 hi hInv hol hoi B T; obtain rfl := er1)
    have hE : IsEnum s'.heap e it (i : Nat) old := (T.fn _ (.head _)).1
    have hI : s'.heap.IsListIter it l i := (i1_2 (oi) ( (T.fn _ (.tail _ (.head _))).1) ( hoi))
    have hLst : s'.heap.IsList l items.toArray := (i1_2 (ol) ( (T.nw _ _ hol).1) ( ho))
    have hel : ∀ a o, σ a = some o → a ≠ e ∧ a ≠ it := fun a o ha => ⟨fun q => (by rw [q, show σ e = none from (T.fn _ (.head _)).2.2.2] at ha; cases ha), fun q => (by rw [q, show σ it = none from (T.fn _ (.tail _ (.head _))).2.2.2] at ha; cases ha)⟩
    by_cases hlt : i < items.length
    · refine wpAny_pyNext_enum_item (i := i) (x := items[i]) hE hI hLst (by simp [hlt]) hn fun h' hO hI2 hT hsz' hk => ?_
      refine wpAny_letOwnedTupleGo_enum (i := (i : Int) + 1) hO fun h'' hE2 hs2 => ?_
      (refine x1_2 hI2 ?_; clear hI2; intro oi2 hoi2 roi2)
      have hTe : s'.heap.objs.size ≠ e := Nat.ne_of_gt (Heap.lt_size hE)
      have hkeep : ∀ b o, b ≠ e → b ≠ it → s'.heap.get? b = some o → h''.get? b = some o := fun b o h1 h2 h3 => hs2.extBut b o h1 (hk b o h1 h2 h3)
      have T6 : St ((((compCx X scope cl Cb oL).kept (Db, listOf ys.toArray k)).kept (it, oi2)).kept (e, { cls := .type "enumerate", dict := none, data := .fields #[.none, .bool false, .ref it, rawInt ((i + 1 : Nat) : Int), .none, items[i]], slots := #[] })) mc (σ.set s'.heap.objs.size { cls := .type "tuple", data := .seq #[.int i s'.toks, items[i]] }) { s' with heap := h'', toks := s'.toks + 1 } := by
        have f := T.fresh (Nat.le_refl _)
        have zE := T.fn _ (.head _)
        have zI := T.fn _ (.tail _ (.head _))
        refine ⟨⟨T.fr.ns.at' fun o e' => hkeep _ o (Ne.symm zE.2.2.1) (Ne.symm zI.2.2.1) e', fun b o e' => hkeep b o (fun q => ?_) (fun q => ?_) (T.fr.keep b o e'), T.fr.above⟩, fun a o ha => ?_, fun q hq => ?_⟩
        · subst q; exact Nat.lt_irrefl _ (Nat.lt_of_lt_of_le (Heap.lt_size e') zE.2.1)
        · subst q; exact Nat.lt_irrefl _ (Nat.lt_of_lt_of_le (Heap.lt_size e') zI.2.1)
        · by_cases hq : a = s'.heap.objs.size
          · subst hq; (first | exact nos (Led.set_self) ha | exact nos ha (Led.set_self) | (rw [Led.set_self] at ha; cases ha))
            exact (i0_3 (hs2.extBut _ _ hTe hT) ( f.2.1) ( f.2.2.1))
          · rw [Led.set_ne hq] at ha
            have z := T.nw a o ha
            exact ⟨hkeep a o (hel a o ha).1 (hel a o ha).2 z.1, z.2⟩
        · have hne : ∀ r ∈ ((((compCx X scope cl Cb oL).kept (Db, listOf ys.toArray k)).kept (it, oi)).kept (e, _)).fns, r.1 ≠ s'.heap.objs.size := T.dup
          rcases List.mem_cons.mp hq with rfl | hq
          · have : ((i + 1 : Nat) : Int) = (i : Int) + 1 := by omega
            exact (i0_4 (by first | exact ((this).trans hE2) | (rw [this]; exact hE2)) ( zE.2.1) ( zE.2.2.1) ( by first | exact ((Led.set_ne (hne _ (.head _))).trans zE.2.2.2) | (rw [Led.set_ne (hne _ (.head _))]; exact zE.2.2.2)))
          · rcases List.mem_cons.mp hq with rfl | hq
            · exact (i0_4 (hs2.extBut _ _ (Ne.symm hn) hoi2) ( zI.2.1) ( zI.2.2.1) ( by first | exact ((Led.set_ne (hne _ (.tail _ (.head _)))).trans zI.2.2.2) | (rw [Led.set_ne (hne _ (.tail _ (.head _)))]; exact zI.2.2.2)))
            · have z := T.fn q (.tail _ (.tail _ hq))
              refine (i0_4 (hkeep _ _ ?_ ?_ z.1) ( z.2.1) ( z.2.2.1) ( by first | exact ((Led.set_ne (hne _ (.tail _ (.tail _ hq)))).trans z.2.2.2) | (rw [Led.set_ne (hne _ (.tail _ (.tail _ hq)))]; exact z.2.2.2)))
              · rcases List.mem_cons.mp hq with rfl | hq
                · exact Ne.symm hed
                · rcases List.mem_cons.mp hq with rfl | hq
                  · exact Ne.symm heL
                  · exact hde q hq
              · rcases List.mem_cons.mp hq with rfl | hq
                · exact Ne.symm hid
                · rcases List.mem_cons.mp hq with rfl | hq
                  · exact Ne.symm hiL
                  · exact hdi q hq
      have fr := T.fresh (Nat.le_refl _)
      refine (j_bindPair (Q := fun _ m2 σ2 => m2 = (mc.set x (.int i s'.toks)).set y items[i] ∧ σ2 = σ.set s'.heap.objs.size { cls := .type "tuple", data := .seq #[.int i s'.toks, items[i]] }) (d := d) O'.kept.kept.kept Led.set_self ⟨rfl, 0, rfl⟩ (lookup_relabel_local hx) (lookup_relabel_local hy) ⟨rfl, rfl⟩).seq B.to T6 fun _ s5 m5 σ5 B5 T5 h5 => ?_
      (refine x0_2 h5 ?_; clear h5; intro er1 er2; obtain rfl := er1; obtain rfl := er2)
      have T7 := T5.forget fr.1
      refine (turn _ i items[i] s'.toks ys mc σ O'.kept.kept.kept rfl rfl (by simp [hlt]) hInv hol).seq B5 T7 fun okb s8 m8 σ8 B8 T8 h8 => ?_
      cases okb with
      | false =>
        simp only [Bool.false_eq_true, if_false] at h8 ⊢
        exact ⟨items.length - (i + 1), by omega, i + 1, ys, k, oi2, items[i], m8, σ8, rfl, hlt, h8.1, h8.2, roi2, B8, T8⟩
      | true =>
        simp only [if_true] at h8 ⊢
        refine h8.seq B8 T8 fun z s9 m9 σ9 B9 T9 h9 => ?_
        have T9' := T9.perm (fns := (Db, listOf ys.toArray k) :: (e, { cls := .type "enumerate", dict := none, data := .fields #[.none, .bool false, .ref it, rawInt ((i + 1 : Nat) : Int), .none, items[i]], slots := #[] }) :: (it, oi2) :: (compCx X scope cl Cb oL).fns) fun r hr => by
          rcases List.mem_cons.mp hr with rfl | hr
          · exact .tail _ (.tail _ (.head _))
          · rcases List.mem_cons.mp hr with rfl | hr
            · exact .head _
            · rcases List.mem_cons.mp hr with rfl | hr
              · exact .tail _ (.head _)
              · exact .tail _ (.tail _ (.tail _ hr))
        have hsz := len _ _ _ h9.1
        rw [List.length_append, List.length_singleton] at hsz
        refine append_at (hsz := by show ys.toArray.size ≤ 2 ^ 24; rw [List.size_toArray]; omega) (T9'.fn _ (.head _)).1 fun h' hs ho => ?_
        have T10 := St.keepChange (X := { (compCx X scope cl Cb oL) with fns := (e, { cls := .type "enumerate", dict := none, data := .fields #[.none, .bool false, .ref it, rawInt ((i + 1 : Nat) : Int), .none, items[i]], slots := #[] }) :: (it, oi2) :: (compCx X scope cl Cb oL).fns }) (p := (Db, listOf ys.toArray k)) (tk := s9.toks) (o' := listOf (ys ++ [z]).toArray (k + 1)) T9' hs.extBut (by rw [ho]; simp) (fun q hq => by
          rcases List.mem_cons.mp hq with rfl | hq
          · exact hed
          · rcases List.mem_cons.mp hq with rfl | hq
            · exact hid
            · exact hDf q hq)
        refine ⟨items.length - (i + 1), by omega, i + 1, ys ++ [z], k + 1, oi2, items[i], m9, σ9, rfl, hlt, h9.1, h9.2, roi2, B9.heap, T10.perm (fns := (e, { cls := .type "enumerate", dict := none, data := .fields #[.none, .bool false, .ref it, rawInt ((i + 1 : Nat) : Int), .none, items[i]], slots := #[] }) :: (it, oi2) :: (Db, listOf (ys ++ [z]).toArray (k + 1)) :: (compCx X scope cl Cb oL).fns) fun r hr => ?_⟩
        rcases List.mem_cons.mp hr with rfl | hr
        · exact .tail _ (.head _)
        · rcases List.mem_cons.mp hr with rfl | hr
          · exact .tail _ (.tail _ (.head _))
          · rcases List.mem_cons.mp hr with rfl | hr
            · exact .head _
            · exact .tail _ (.tail _ (.tail _ hr))
    · have hin : i = items.length := by exact (Nat.le_antisymm hi (Nat.le_of_not_lt hlt))
      subst hin
      refine wpAny_pyNext_enum_end (i := items.length) O.hh hE hI hLst (by simp) fun h' hs => ?_
      have T6 := T.swap.keepDrop (tk := s'.toks) hs (fun q hq => by
        rcases List.mem_cons.mp hq with rfl | hq
        · exact hn
        · rcases List.mem_cons.mp hq with rfl | hq
          · exact Ne.symm hid
          · rcases List.mem_cons.mp hq with rfl | hq
            · exact Ne.symm hiL
            · exact hdi q hq)
      refine fin ys _ _ k mc oL σ _ hnL (T6.unkeep.fn _ (.head _)).2.2.2 (fun q hq => hdD q (.tail _ (.tail _ hq))) ?_ ?_ hInv hol B.heap T6.unkeep
      · intro q hq
        rcases List.mem_cons.mp hq with rfl | hq
        · have z := hC _ (.head _)
          exact z
        · exact hC q (.tail _ (.tail _ (.tail _ hq)))
      · intro q hq
        rcases List.mem_cons.mp hq with rfl | hq
        · exact Ne.symm hL2
        · exact hXL q hq
  have iter : ∀ s₄ : Shared, s₄ = { s with heap := h₁, toks := s.toks + 0 } → wpAny (model PR X.w) X.A (pyIter (.ref e)) (fun it' s' => codeAny (model PR X.w) X.A (.compLoop (.ListComp elt [⟨.Tuple [.Name x px, .Name y py] kt pt, iter, ifs, 0⟩] scope pos) 0 it' (.ref Db) (compEnvC scope cl Cb X.env)) (RR (.ref Db) Cb) s') (fun _ _ => False) s₄ := by
    (intro s₄ er1; obtain rfl := er1)
    have z := (T5.fn _ (.head _)).1
    rw [hoe] at z
    exact wpAny_pyIter_enum (i := 0) (old := .none) z (loop _ rfl)
  exact compStart_raw (depth := 0) rfl (loop _ rfl) (iter _ rfl)
end
end
section
--FILE JS
section
variable {X : Cx} {m : Loc} {σ : Led} {s : Shared} {d : Nat} {p q : Addr × Obj} {b : Shared}

theorem j_spliced_one {t : Sem Value} {Q : List Value → Loc → Led → Prop} (h : J X t m σ (fun v => Q [v])) : J X (spliced [(false, t)]) m σ Q :=
  j_spliced_cons (h.mono fun v _ _ q => j_spliced_nil q)
theorem j_spliced_two {t u : Sem Value} {Q : List Value → Loc → Led → Prop} (h : J X t m σ (fun v m' σ' => J X u m' σ' (fun w => Q [v, w]))) : J X (spliced [(false, t), (false, u)]) m σ Q :=
  j_spliced_cons (h.mono fun v _ _ q => j_spliced_one q)
theorem j_spliced_three {t u r : Sem Value} {Q : List Value → Loc → Led → Prop} (h : J X t m σ (fun v m' σ' => J X u m' σ' (fun w m' σ' => J X r m' σ' (fun z => Q [v, w, z])))) : J X (spliced [(false, t), (false, u), (false, r)]) m σ Q :=
  j_spliced_cons (h.mono fun v _ _ q => j_spliced_two q)

theorem j_ListComp2 {elt target iter t2 i2 : PySem.Expr} {ifs2 : List PySem.Expr} {scope : Scope} {cl : List (Str × Addr)} {pos : Pos} {Q : Value → Loc → Led → Prop}
    (O : X.Ok d) (hclos : closureFor scope X.env = Pure.pure cl) (hcell : ∀ y ∈ scope.names, y.2 ≠ .cell) (hkind : scope.kind = .function) (hnames : ∀ y ∈ scope.names, y.2 = .local → scope.names.lookup y.1 = some .local) (hs : ∀ x, foldedSetIterable iter X.env x = Pure.pure x) (hs2 : ∀ env x, foldedSetIterable i2 env x = Pure.pure x)
    (h : J X (eval iter X.env) m σ (fun xv m1 σ1 => ∃ S : Src, xv = S.val ∧ S.ok σ1 ∧ ∃ Inv : Nat → List Value → Led → Prop, Inv 0 [] σ1 ∧
      CompTurn2 X d scope cl target i2 t2 ifs2 elt S Inv ∧ (∀ ys σ2 D k, Inv S.size ys σ2 → S.ok σ2 → σ2 D = none → Q (.ref D) m1 (σ2.set D (listOf ys.toArray k))))) : J X (eval (.ListComp elt [⟨target, iter, [], 0⟩, ⟨t2, i2, ifs2, 0⟩] scope pos) X.env) m σ Q := by
  intro b s B T
  first | refine Mine.sb (PySem.eval_ListComp) ?_ | rw [PySem.eval_ListComp]
  refine wpAny_comprehension_free (use := none) rfl hs hclos hkind hnames (h.seq B T fun xv s1 m1 σ1 B1 T1 h1 => ?_)
  obtain ⟨S, rfl, ok, Inv, h0, turn, fin⟩ := h1
  refine j_comprehension2 (RR := fun acc C => compPost (model PR X.w) X.A (fun _ _ => False) none (Done X Q b) acc C) O hcell hkind hs2 B1 T1 ok h0 turn ?_
  intro ys D C k mc oL σ2 s' hnL hD hdD hC hLo hInv hok' B' T'
  refine (i1_2 (mc) ( T'.fr.ns) ( fun h'' hs'' => ?_))
  have T6 := T'.outComp (tk := s'.toks) hnL hC hLo hs''.extBut
  exact .mk B'.heap (T6.unkeepTo hdD) (fin ys σ2 D k hInv hok' hD)

theorem j_Assign_ListComp2 {elt target iter t2 i2 : PySem.Expr} {y : Str} {py : Pos} {ifs2 : List PySem.Expr} {scope : Scope} {cl : List (Str × Addr)} {pos spos : Pos} {Q : Flow → Loc → Led → Prop}
    (O : X.Ok d) (hsw : swapsWith (.ListComp elt [⟨target, iter, [], 0⟩, ⟨t2, i2, ifs2, 0⟩] scope pos) (some (.Name y py)) spos.line X.env = Pure.pure true)
    (hclos : closureFor scope X.env = Pure.pure cl) (hcell : ∀ y ∈ scope.names, y.2 ≠ .cell) (hkind : scope.kind = .function) (hnames : ∀ y ∈ scope.names, y.2 = .local → scope.names.lookup y.1 = some .local) (hs : ∀ x, foldedSetIterable iter X.env x = Pure.pure x) (hs2 : ∀ env x, foldedSetIterable i2 env x = Pure.pure x)
    (hy : X.env.kindOf y = some .local)
    (h : J X (eval iter X.env) m σ (fun xv m1 σ1 => ∃ S : Src, xv = S.val ∧ S.ok σ1 ∧ ∃ Inv : Nat → List Value → Led → Prop, Inv 0 [] σ1 ∧
      CompTurn2 X d scope cl target i2 t2 ifs2 elt S Inv ∧ (∀ ys σ2 D k, Inv S.size ys σ2 → S.ok σ2 → σ2 D = none → Q .next (m1.set y (.ref D)) (σ2.set D (listOf ys.toArray k))))) : J X (exec (.Assign [.Name y py] (.ListComp elt [⟨target, iter, [], 0⟩, ⟨t2, i2, ifs2, 0⟩] scope pos) spos) X.env) m σ Q := by
  intro b s B T
  first | refine Mine.sb (PySem.exec_Assign_Name_used _ _ _ _ hsw) ?_ | rw [PySem.exec_Assign_Name_used _ _ _ _ hsw]
  refine wpAny_bind (wpAny_standAt (wpAny_bind ?_))
  show wpAny _ X.A (do let _ ← comprehension (.ListComp elt [⟨target, iter, [], 0⟩, ⟨t2, i2, ifs2, 0⟩] scope pos) scope X.env _ (newList []) false (eval iter X.env) (some (assign (.Name y py) X.env))) _ _ s
  refine wpAny_bind (wpAny_mono (wpAny_comprehension_free (use := some (assign (.Name y py) X.env)) (Q := fun _ s' => Done X Q b .next s') rfl hs hclos hkind hnames (h.seq B T fun xv s1 m1 σ1 B1 T1 h1 => ?_)) (fun _ s' hq => wpAny_pure (wpAny_pure hq)) fun _ _ e => e)
  obtain ⟨S, rfl, ok, Inv, h0, turn, fin⟩ := h1
  refine j_comprehension2 (RR := fun acc C => compPost (model PR X.w) X.A (fun _ _ => False) (some (assign (.Name y py) X.env)) (fun _ s' => Done X Q b .next s') acc C) O hcell hkind hs2 B1 T1 ok h0 turn ?_
  intro ys D C k mc oL σ2 s' hnL hD hdD hC hLo hInv hok' B' T'
  (refine x1_2 (T'.outKeep hnL hLo) ?_; intro oC hnC T6)
  show wpAny _ X.A (assign (.Name y py) X.env (.ref D)) _ _ _
  refine wpAny_assign_Name (wpAny_storeName_local hy T6.fr.ns (fun h₂ hn₂ hs₂ => ?_) (by rw [O.kind]; rfl))
  have T7 := T6.local (tk := s'.toks + 1) hn₂ hs₂.extBut
  (refine x2_1 hnC ?_; clear hnC; intro es ep r)
  refine (i1_2 (mc) ( (i3_2 (oC) ( es) ( ep) ( (T7.fn _ (.head _)).1) ( r))) ( fun h₃ hs₃ => ?_))
  have T8 := T7.keepDrop (tk := s'.toks + 1) hs₃.extBut hC
  exact .mk B'.to (T8.unkeepTo hdD) (fin ys σ2 D k hInv hok' hD)

theorem j_ListCompE {elt arg : PySem.Expr} {x y : Str} {px py pt np cp : Pos} {kt : Nat} {ifs : List PySem.Expr} {scope : Scope} {cl : List (Str × Addr)} {pos : Pos} {Q : Value → Loc → Led → Prop}
    (O : X.Ok d) (hclos : closureFor scope X.env = Pure.pure cl) (hcell : ∀ y ∈ scope.names, y.2 ≠ .cell) (hkind : scope.kind = .function) (hnames : ∀ y ∈ scope.names, y.2 = .local → scope.names.lookup y.1 = some .local)
    (hx : scope.names.lookup x = some .local) (hy : scope.names.lookup y = some .local) (hs : ∀ x, foldedSetIterable (.Call (.Name "enumerate" np) [arg] [] cp) X.env x = Pure.pure x)
    (he : eval (.Call (.Name "enumerate" np) [arg] [] cp) X.env = (do callWith cp (← eval (.Name "enumerate" np) X.env) [] (backTo cp (starEach [arg] X.env)) (backToKw cp (keywordEach [] X.env)))) (hst : starEach [arg] X.env = (false, eval arg X.env) :: starEach [] X.env)
    (hg : X.env.kindOf "enumerate" = some .globalImplicit) (hgl : nsIn (hd.heap_1 X.w.params) mainGlobals "enumerate" = some none)
    (h : J X (eval arg X.env) m σ (fun lv m1 σ1 => ∃ l items ol, lv = .ref l ∧ σ1 l = some ol ∧ IsLstO ol items ∧ ∃ Inv : Nat → List Value → Led → Prop, Inv 0 [] σ1 ∧ (∀ i ys σ, Inv i ys σ → ys.length ≤ 16777216) ∧
      CompTurnE X d scope cl x y ifs elt l items ol Inv ∧ (∀ ys σ2 D k, Inv items.length ys σ2 → σ2 l = some ol → σ2 D = none → Q (.ref D) m1 (σ2.set D (listOf ys.toArray k))))) :
    J X (eval (.ListComp elt [⟨.Tuple [.Name x px, .Name y py] kt pt, .Call (.Name "enumerate" np) [arg] [] cp, ifs, 0⟩] scope pos) X.env) m σ Q := by
  intro b s B T
  first | refine Mine.sb (PySem.eval_ListComp) ?_ | rw [PySem.eval_ListComp]
  refine wpAny_comprehension_free (use := none) rfl hs hclos hkind hnames ?_
  refine PyProof.Rows.Call_ (he := he) ?_
  refine (j_name_builtin (pos := np) (Q := fun v m' σ' => v = .type "enumerate" ∧ m' = m ∧ σ' = σ) O hg hgl (by rfl) (by decide) (i0_3 (rfl) ( rfl) ( rfl)) (by decide)).seq B T fun f s1 m1 σ1 B1 T1 h1 => ?_
  (refine x0_3 h1 ?_; clear h1; intro er1 er2 er3; obtain rfl := er1; obtain rfl := er2; obtain rfl := er3)
  refine PyProof.Rows.callWith_type1 (he := hst) (hplain := rfl) ?_
  have hb : backTo cp (starEach [arg] X.env) = [(false, eval arg X.env)] := by rw [hst]; rfl
  first | refine Mine.sb (hb) ?_ | rw [hb]
  refine (j_spliced_one (Q := fun vs m1 σ1 => ∃ l items ol, vs = [.ref l] ∧ σ1 l = some ol ∧ IsLstO ol items ∧ ∃ Inv : Nat → List Value → Led → Prop, Inv 0 [] σ1 ∧ (∀ i ys σ, Inv i ys σ → ys.length ≤ 16777216) ∧
      CompTurnE X d scope cl x y ifs elt l items ol Inv ∧ (∀ ys σ2 D k, Inv items.length ys σ2 → σ2 l = some ol → σ2 D = none → Q (.ref D) m1 (σ2.set D (listOf ys.toArray k)))) (h.mono fun v m' σ' z => x3_2 z fun l items ol e r => (i3_2 (l) ( items) ( ol) ( by rw [e]) ( r)))).seq B1 T1 fun vs s2 m2 σ2 B2 T2 h2 => ?_
  obtain ⟨l, items, ol, rfl, hol, ho, Inv, h0, len, turn, fin⟩ := h2
  have hls : s2.heap.IsList l items.toArray := (i1_2 (ol) ( (T2.nw _ _ hol).1) ( ho))
  refine PySem.call_enumerate_list hls fun h' hE hI hsz hk => ?_
  (refine x1_2 (id hI) ?_; intro oi hoi roi)
  have f0 := T2.fresh (Nat.le_refl _)
  have f1 := T2.fresh (Nat.le_succ s2.heap.objs.size)
  have hsL : X.h₀.objs.size ≤ s2.heap.objs.size := Nat.le_trans T2.fr.above (Nat.le_of_lt T2.fr.ns.lt)
  have T3 : St ((X.kept (s2.heap.objs.size, oi)).kept (s2.heap.objs.size + 1, { cls := .type "enumerate", dict := none, data := .fields #[.none, .bool false, .ref s2.heap.objs.size, rawInt 0, .none, .none], slots := #[] })) m2 σ2 { s2 with heap := h' } := by
    have T3 := T2.ext (tk := s2.toks) hk
    refine ⟨T3.fr, T3.nw, fun q hq => ?_⟩
    rcases List.mem_cons.mp hq with rfl | hq
    · exact (i0_4 (hE) ( Nat.le_succ_of_le hsL) ( f1.2.1) ( f1.1))
    · rcases List.mem_cons.mp hq with rfl | hq
      · exact (i0_4 (hoi) ( hsL) ( f0.2.1) ( f0.1))
      · exact T3.fn q hq
  refine j_comprehensionE (RR := fun acc C => compPost (model PR X.w) X.A (fun _ _ => False) none (Done X Q b) acc C) O hcell hkind hx hy B2.heap T3 (Nat.succ_ne_self _) f1.2.2.2 f0.2.2.2 hE hI hol ho h0 len turn ?_
  intro ys D C k mc oL σ3 s' hnL hD hdD hC hLo hInv hok' B' T'
  refine (i1_2 (mc) ( T'.fr.ns) ( fun h'' hs'' => ?_))
  have T6 := T'.outComp (tk := s'.toks) hnL hC hLo hs''.extBut
  exact .mk B'.heap (T6.unkeepTo hdD) (fin ys σ3 D k hInv hok' hD)
end
end
section
--FILE KY
inductive Ky where
  | str (x : Str)
  | int (i : Int)
  | nil
  | cons (k r : Ky)
noncomputable instance : DecidableEq Ky := fun a b => Classical.propDecidable (a = b)

namespace Ky
noncomputable def tup : List Ky → Ky
  | [] => .nil
  | k :: r => .cons k (tup r)
noncomputable def chain : Ky → Bool
  | .str _ => false
  | .int _ => false
  | .nil => true
  | .cons _ r => r.chain
noncomputable def dep : Ky → Nat × Nat
  | .str _ => (0, 0)
  | .int _ => (0, 0)
  | .nil => (1, 0)
  | .cons k r => (max k.dep.1 r.dep.2 + 1, max k.dep.1 r.dep.2)
noncomputable def okS : Ky → Bool
  | .str x => PyData.strOk x
  | .int _ => true
  | .nil => true
  | .cons k r => k.okS && r.okS && r.chain
noncomputable def hh (w : World) : Ky → Int × List Int
  | .str x => (hashStr w x, [])
  | .int i => (hashInt i, [])
  | .nil => (reduceHash (Builtin.Tuple.tupleHashOf []), [])
  | .cons k r => (reduceHash (Builtin.Tuple.tupleHashOf ((k.hh w).1 :: (r.hh w).2)), (k.hh w).1 :: (r.hh w).2)
noncomputable def dr : Ky → Nat × Nat
  | .str _ => (1, 0)
  | .int _ => (1, 0)
  | .nil => (1, 0)
  | .cons k r => (k.dr.1 + r.dr.2 + 1, k.dr.1 + r.dr.2)
noncomputable def py : Ky → PyData × List PyData
  | .str x => (.str x, [])
  | .int i => (.int i, [])
  | .nil => (.tuple [], [])
  | .cons k r => (.tuple (k.py.1 :: r.py.2), k.py.1 :: r.py.2)
noncomputable def bears (g : Addr → Option Obj) : Ky → (Value → Prop) × (List Value → Prop)
  | .str x => (fun v => ∃ t, v = .str x t, fun _ => False)
  | .int i => (fun v => ∃ t, v = .int i t, fun _ => False)
  | .nil => (fun v => ∃ a o n, v = .ref a ∧ g a = some o ∧ o.cls = .type "tuple" ∧ o.data = .seq #[] n, fun vs => vs = [])
  | .cons k r => (fun v => ∃ a o u us n, v = .ref a ∧ g a = some o ∧ o.cls = .type "tuple" ∧ o.data = .seq (u :: us).toArray n ∧ (k.bears g).1 u ∧ (r.bears g).2 us,
      fun vs => ∃ u us, vs = u :: us ∧ (k.bears g).1 u ∧ (r.bears g).2 us)
end Ky

noncomputable abbrev IsKy (g : Addr → Option Obj) (k : Ky) (v : Value) : Prop := (k.bears g).1 v
noncomputable abbrev IsKys (g : Addr → Option Obj) (k : Ky) (vs : List Value) : Prop := (k.bears g).2 vs

theorem bears_mono {g g' : Addr → Option Obj} (h : ∀ a o, g a = some o → g' a = some o) : ∀ k : Ky, (∀ v, IsKy g k v → IsKy g' k v) ∧ (∀ vs, IsKys g k vs → IsKys g' k vs) := by
  intro k
  induction k with
  | str x => exact ⟨fun _ x => x, fun _ x => x⟩
  | int i => exact ⟨fun _ x => x, fun _ x => x⟩
  | nil => exact ⟨fun _ z => x3_3 z fun a o n e ho r => (i3_3 (a) ( o) ( n) ( e) ( h _ _ ho) ( r)), fun _ x => x⟩
  | cons k r ihk ihr => exact ⟨fun _ z => x5_6 z fun a o u us n e ho hc hd h1 h2 => (i5_6 (a) ( o) ( u) ( us) ( n) ( e) ( h _ _ ho) ( hc) ( hd) ( ihk.1 _ h1) ( ihr.2 _ h2)), fun _ z => x2_3 z fun u us e h1 h2 => (i2_3 (u) ( us) ( e) ( ihk.1 _ h1) ( ihr.2 _ h2))⟩
theorem IsKy.mono {g g' : Addr → Option Obj} (h : ∀ a o, g a = some o → g' a = some o) {k : Ky} {v : Value} (x : IsKy g k v) : IsKy g' k v := (bears_mono h k).1 v x
theorem IsKys.mono {g g' : Addr → Option Obj} (h : ∀ a o, g a = some o → g' a = some o) {k : Ky} {vs : List Value} (x : IsKys g k vs) : IsKys g' k vs := (bears_mono h k).2 vs x

theorem bears_inj {g : Addr → Option Obj} : ∀ k l : Ky, k.okS = true → l.okS = true → (∀ v, IsKy g k v → IsKy g l v → k = l) ∧ (∀ vs, IsKys g k vs → IsKys g l vs → k = l)
  | .str x, l, _, _ => by
    refine ⟨fun v z h => x1_1 z fun t e => ?_, fun _ h => h.elim⟩
    subst e
    cases l with
    | str y => (refine x1_1 h ?_; clear h; intro u e); cases e; rfl
    | int j => (refine x1_1 h ?_; clear h; intro u e); cases e
    | nil => (refine x3_2 h ?_; clear h; intro a o n e _); cases e
    | cons k r => (refine x5_2 h ?_; clear h; intro a o u us n e _); cases e
  | .int i, l, _, _ => by
    refine ⟨fun v z h => x1_1 z fun t e => ?_, fun _ h => h.elim⟩
    subst e
    cases l with
    | str y => (refine x1_1 h ?_; clear h; intro u e); cases e
    | int j => (refine x1_1 h ?_; clear h; intro u e); cases e; rfl
    | nil => (refine x3_2 h ?_; clear h; intro a o n e _); cases e
    | cons k r => (refine x5_2 h ?_; clear h; intro a o u us n e _); cases e
  | .nil, l, _, _ => by
    refine ⟨fun v z h => x3_4 z fun a o n e ho hc hd => ?_, fun vs e h => ?_⟩
    · subst e
      cases l with
      | str y => (refine x1_1 h ?_; clear h; intro u e); cases e
      | int j => (refine x1_1 h ?_; clear h; intro u e); cases e
      | nil => rfl
      | cons k r =>
        (refine x5_5 h ?_; clear h; intro a' o' u us n' e ho' _ hd' _)
        cases e; (first | exact nos (ho) ho' | exact nos ho' (ho) | (rw [ho] at ho'; cases ho')); rw [hd] at hd'
        injection hd' with h1 _
        have := congrArg Array.size h1; simp at this
    · have e' : vs = [] := e
      subst e'
      cases l with
      | str y => exact h.elim
      | int j => exact h.elim
      | nil => rfl
      | cons k r => (refine x2_2 h ?_; clear h; intro u us e _); cases e
  | .cons k r, l, hk, hl => by
    have hk' : k.okS = true ∧ r.okS = true := by simp only [Ky.okS, Bool.and_eq_true] at hk; exact ⟨hk.1.1, hk.1.2⟩
    refine ⟨fun v z h => x5_6 z fun a o u us n e ho hc hd h1 h2 => ?_, fun vs z h => x2_3 z fun u us e h1 h2 => ?_⟩
    · subst e
      cases l with
      | str y => (refine x1_1 h ?_; clear h; intro u e); cases e
      | int j => (refine x1_1 h ?_; clear h; intro u e); cases e
      | nil =>
        (refine x3_4 h ?_; clear h; intro a' o' n' e ho' _ hd')
        cases e; (first | exact nos (ho) ho' | exact nos ho' (ho) | (rw [ho] at ho'; cases ho')); rw [hd] at hd'
        injection hd' with h1 _
        have := congrArg Array.size h1; simp at this
      | cons k' r' =>
        have hl' : k'.okS = true ∧ r'.okS = true := by simp only [Ky.okS, Bool.and_eq_true] at hl; exact ⟨hl.1.1, hl.1.2⟩
        (refine x5_6 h ?_; clear h; intro a' o' u' us' n' e ho' _ hd' h1' h2')
        cases e; (first | exact nos (ho) ho' | exact nos ho' (ho) | (rw [ho] at ho'; cases ho')); rw [hd] at hd'
        injection hd' with hq _
        have hq' := congrArg Array.toList hq
        simp only [] at hq'
        injection hq' with e1 e2
        subst e1 e2
        rw [(bears_inj k k' hk'.1 hl'.1).1 _ h1 h1', (bears_inj r r' hk'.2 hl'.2).2 _ h2 h2']
    · subst e
      cases l with
      | str y => exact h.elim
      | int j => exact h.elim
      | nil => exact nomatch (show u :: us = [] from h)
      | cons k' r' =>
        have hl' : k'.okS = true ∧ r'.okS = true := by simp only [Ky.okS, Bool.and_eq_true] at hl; exact ⟨hl.1.1, hl.1.2⟩
        (refine x2_3 h ?_; clear h; intro u' us' e h1' h2')
        cases e
        rw [(bears_inj k k' hk'.1 hl'.1).1 _ h1 h1', (bears_inj r r' hk'.2 hl'.2).2 _ h2 h2']

theorem bears_reads {h : Heap} : ∀ k : Ky, (∀ v, IsKy h.get? k v → Reads h v k.py.1 []) ∧ (∀ vs, IsKys h.get? k vs → ReadsAll h vs k.py.2 []) := by
  intro k
  induction k with
  | str x => exact ⟨fun v z => z.elim fun t e => e ▸ .str x t, fun _ h => h.elim⟩
  | int i => exact ⟨fun v z => z.elim fun t e => e ▸ .int i t, fun _ h => h.elim⟩
  | nil => exact ⟨fun v z => x3_4 z fun a o n e ho hc hd => e ▸ .tuple ho hc hd .nil, fun vs (e : vs = []) => e ▸ .nil⟩
  | cons k r ihk ihr => exact ⟨fun v z => x5_6 z fun a o u us n e ho hc hd h1 h2 => e ▸ .tuple ho hc hd (.cons (as := []) (bs := []) (ihk.1 _ h1) (ihr.2 _ h2)), fun vs z => x2_3 z fun u us e h1 h2 => e ▸ .cons (as := []) (bs := []) (ihk.1 _ h1) (ihr.2 _ h2)⟩

theorem py_lay : ∀ k : Ky, k.okS = true → k.py.1.canLay0 = true ∧ PyData.canLayAll0 k.py.2 = true
  | .str x, h => ⟨by simp only [Ky.py, PyData.canLay0]; exact h, by simp [Ky.py, PyData.canLayAll0]⟩
  | .int i, h => ⟨by simp [Ky.py, PyData.canLay0], by simp [Ky.py, PyData.canLayAll0]⟩
  | .nil, h => ⟨by simp [Ky.py, PyData.canLay0, PyData.canLayAll0], by simp [Ky.py, PyData.canLayAll0]⟩
  | .cons k r, h => by
    simp only [Ky.okS, Bool.and_eq_true] at h
    have h1 := (py_lay k h.1.1).1
    have h2 := (py_lay r h.1.2).2
    exact ⟨by simp [Ky.py, PyData.canLay0, PyData.canLayAll0, h1, h2], by simp [Ky.py, PyData.canLayAll0, h1, h2]⟩
theorem py_depth : ∀ k : Ky, k.py.1.depth ≤ k.dep.1 ∧ PyData.depthAll k.py.2 ≤ k.dep.2
  | .str x => by simp [Ky.py, Ky.dep, PyData.depth, PyData.depthAll]
  | .int i => by simp [Ky.py, Ky.dep, PyData.depth, PyData.depthAll]
  | .nil => by simp [Ky.py, Ky.dep, PyData.depth, PyData.depthAll]
  | .cons k r => by
    have h1 := (py_depth k).1
    have h2 := (py_depth r).2
    simp only [Ky.py, Ky.dep, PyData.depth, PyData.depthAll]
    omega
theorem py_eqv : ∀ k l : Ky, k.okS = true → l.okS = true → PyData.eqv k.py.1 l.py.1 = decide (k = l) ∧ (k.chain = true → l.chain = true → PyData.eqvAll k.py.2 l.py.2 = decide (k = l))
  | .str x, l, _, _ => by
    cases l <;> simp [Ky.py, PyData.eqv, Ky.chain] <;> rfl
  | .int i, l, _, _ => by
    cases l <;> simp [Ky.py, PyData.eqv, Ky.chain] <;> rfl
  | .nil, l, _, _ => by
    cases l <;> simp [Ky.py, PyData.eqv, PyData.eqvAll, Ky.chain]
  | .cons k r, l, hk, hl => by
    simp only [Ky.okS, Bool.and_eq_true] at hk
    cases l with
    | str y => simp [Ky.py, PyData.eqv, Ky.chain]
    | int y => simp [Ky.py, PyData.eqv, Ky.chain]
    | nil => simp [Ky.py, PyData.eqv, PyData.eqvAll, Ky.chain]
    | cons k' r' =>
      simp only [Ky.okS, Bool.and_eq_true] at hl
      have h1 := (py_eqv k k' hk.1.1 hl.1.1).1
      have h2 := (py_eqv r r' hk.1.2 hl.1.2).2 hk.2 hl.2
      have key : PyData.eqvAll (k.py.1 :: r.py.2) (k'.py.1 :: r'.py.2) = decide (Ky.cons k r = Ky.cons k' r') := by
        simp only [PyData.eqvAll, h1, h2, Ky.cons.injEq, Bool.decide_and]
      exact ⟨by simpa [Ky.py, PyData.eqv] using key, fun _ _ => by simpa [Ky.py] using key⟩

section
variable {w : World} {A : Around} {E : Value → Shared → Prop} {s : Shared}

theorem ky_typeIs {k : Ky} {a : Addr} (h : IsKy s.heap.get? k (.ref a)) : s.TypeIs (.ref a) "tuple" := by
  cases k with
  | str x => (refine x1_1 h ?_; clear h; intro t e); cases e
  | int i => (refine x1_1 h ?_; clear h; intro t e); cases e
  | nil => (refine x3_4 h ?_; clear h; intro b o n e ho hc _); cases e; exact ⟨o, ho, hc⟩
  | cons k r => (refine x5_4 h ?_; clear h; intro b o u us n e ho hc _); cases e; exact ⟨o, ho, hc⟩

theorem ky_hash_tuple {a : Addr} {o : Obj} {vs : List Value} {n : Nat} {hs : List Int} {ds : Nat} {Q : Int → Shared → Prop} (hu : A.units < cLine) (ho : s.heap.get? a = some o) (hc : o.cls = .type "tuple") (hd : o.data = .seq vs.toArray n)
    (items : ∀ {Q' : Array Int → Shared → Prop}, (∀ b' : Array Int, b'.toList = hs → Q' b' { s with toks := s.toks + ds }) → wpAny (model PR w) A.in1 (forIn vs (#[] : Array Int) fun x r => do let h ← pyHash x; pure PUnit.unit; pure (ForInStep.yield (r.push h))) Q' E s)
    (h : Q (reduceHash (Builtin.Tuple.tupleHashOf hs)) { s with toks := s.toks + (ds + 1) }) : wpAny (model PR w) A (pyHash (.ref a)) Q E s := by
  have hT : s.TypeIs (.ref a) "tuple" := (i1_2 (o) ( ho) ( hc))
  unfold pyHash
  unfold pyHashByItsType
  refine wpAny_bind (wpAny_cRoomFor_or (.inr hu) ?_)
  refine wpAny_bind (wpAny_specialOf hT F.slot_tuple_hash.lookup ?_)
  show wpAny _ _ (if (some (Value.builtin "tuple.__hash__") == some Value.none) = true then _ else _) Q E s
  rw [if_neg (by first | exact ((beq_builtin_none).trans Bool.false_ne_true) | (rw [beq_builtin_none]; exact Bool.false_ne_true))]
  refine wpAny_bind (wpAny_specialOf hT F.slot_tuple_hash.lookup ?_)
  show wpAny _ _ (callSpecialIfBoundUnlessNone? (.ref a) "__hash__" _ >>= _) Q E s
  refine wpAny_bind (wpAny_callSpecialIfBoundUnlessNone?_slot hT F.slot_tuple_hash (wpAny_call_entry F.slot_tuple_hash hT F.entry_tuple_hash ?_ (F.args_tuple_hash_1 _)))
  show wpAny _ _ (Builtin.Tuple.tupleItemsOf (.ref a) >>= _) _ _ s
  refine wpAny_bind (wpAny_tupleItemsOf ho hd ?_)
  refine wpAny_bind ?_
  rw [← Array.forIn_toList]
  refine items fun b' hb => ?_
  show wpAny _ _ (retInt (Builtin.Tuple.tupleHashOf b'.toList)) _ _ _
  first | refine Mine.sb (hb) ?_ | rw [hb]
  refine wpAny_ret_mkInt ?_
  show wpAny _ _ (if (decide (-(2 : Int) ^ 63 ≤ Builtin.Tuple.tupleHashOf hs) && decide (Builtin.Tuple.tupleHashOf hs < 2 ^ 63)) = true then _ else _) Q E _
  unfold reduceHash at h
  by_cases hr : (decide (-(2 : Int) ^ 63 ≤ Builtin.Tuple.tupleHashOf hs) && decide (Builtin.Tuple.tupleHashOf hs < 2 ^ 63)) = true
  · rw [if_pos hr]
    rw [if_pos hr] at h
    exact wpAny_pure (by simpa [Nat.add_assoc] using h)
  · rw [if_neg hr]
    rw [if_neg hr] at h
    exact wpAny_bind (wpAny_rule (wpAny_pure (by simpa [Nat.add_assoc] using h)))

theorem ky_hash : ∀ (k : Ky), (∀ (A : Around) (s : Shared) (v : Value) (Q : Int → Shared → Prop), A.units + k.dep.1 < cLine → IsKy s.heap.get? k v → Q (k.hh w).1 { s with toks := s.toks + k.dr.1 } → wpAny (model PR w) A (pyHash v) Q E s) ∧
    (∀ (A : Around) (s : Shared) (vs : List Value) (b : Array Int) (Q : Array Int → Shared → Prop), A.units + k.dep.2 < cLine → IsKys s.heap.get? k vs → (∀ b' : Array Int, b'.toList = b.toList ++ (k.hh w).2 → Q b' { s with toks := s.toks + k.dr.2 }) →
      wpAny (model PR w) A (forIn vs b fun x r => do let h ← pyHash x; pure PUnit.unit; pure (ForInStep.yield (r.push h))) Q E s)
  | .str x => ⟨fun A s v Q _ ⟨t, e⟩ h => e ▸ wpAny_pyHash_str h, fun _ _ _ _ _ _ h => h.elim⟩
  | .int i => ⟨fun A s v Q _ ⟨t, e⟩ h => e ▸ wpAny_pyHash_int h, fun _ _ _ _ _ _ h => h.elim⟩
  | .nil => by
    refine ⟨fun A s v Q hu z h => x3_4 z fun a o n e ho hc hd => ?_, fun A s vs b Q _ (e : vs = []) h => ?_⟩
    · subst e
      exact ky_hash_tuple (vs := []) (hs := []) (ds := 0) (by omega) ho hc hd (fun hQ => by first | exact ((List.forIn_nil).trans (wpAny_pure (hQ _ rfl))) | (rw [List.forIn_nil]; exact wpAny_pure (hQ _ rfl))) h
    · subst e
      rw [List.forIn_nil]
      exact wpAny_pure (h b (by simp [Ky.hh]))
  | .cons k r => by
    have loop : ∀ (A : Around) (s : Shared) (u : Value) (us : List Value) (b : Array Int) (Q : Array Int → Shared → Prop), A.units + (Ky.cons k r).dep.2 < cLine → IsKy s.heap.get? k u → IsKys s.heap.get? r us →
        (∀ b' : Array Int, b'.toList = b.toList ++ ((Ky.cons k r).hh w).2 → Q b' { s with toks := s.toks + (Ky.cons k r).dr.2 }) →
        wpAny (model PR w) A (forIn (u :: us) b fun x r => do let h ← pyHash x; pure PUnit.unit; pure (ForInStep.yield (r.push h))) Q E s := by
      intro A s u us b Q hu h1 h2 hQ
      rw [List.forIn_cons]
      simp only [Ky.dep] at hu
      refine wpAny_bind (wpAny_bind ((ky_hash k).1 A s u _ (by omega) h1 ?_))
      refine wpAny_bind (wpAny_pure (wpAny_pure ?_))
      refine (ky_hash r).2 A _ us _ _ (by omega) h2 fun b' hb => ?_
      have := hQ b' (by rw [hb]; simp [Ky.hh])
      simpa [Ky.dr, Nat.add_assoc] using this
    refine ⟨fun A s v Q hu z h => x5_6 z fun a o u us n e ho hc hd h1 h2 => ?_, fun A s vs b Q hu z hQ => x2_3 z fun u us e h1 h2 => e ▸ loop A s u us b Q hu h1 h2 hQ⟩
    subst e
    refine ky_hash_tuple (vs := u :: us) (hs := ((Ky.cons k r).hh w).2) (ds := (Ky.cons k r).dr.2) (by omega) ho hc hd (fun hQ => ?_) h
    exact loop A.in1 s u us #[] _ (by simp only [Ky.dep] at hu ⊢; show A.units + 1 + _ < _; omega) h1 h2 fun b' hb => hQ b' (by simpa using hb)

theorem ky_quiet_tuple {a : Addr} {o : Obj} {vs : List Value} {n m : Nat} {Q : Bool → Shared → Prop} (ho : s.heap.get? a = some o) (hc : o.cls = .type "tuple") (hd : o.data = .seq vs.toArray m)
    (items : ∀ v ∈ vs, ∀ (Q : Bool → Shared → Prop), Q true s → wpAny (model PR w) A (eqIsQuiet n v) Q E s) (h : Q true s) : wpAny (model PR w) A (eqIsQuiet (n + 1) (.ref a)) Q E s := by
  have hT : s.TypeIs (.ref a) "tuple" := (i1_2 (o) ( ho) ( hc))
  unfold eqIsQuiet
  refine wpAny_bind (wpAny_specialOf hT F.slot_tuple_eq.lookup ?_)
  show wpAny _ _ (isInstance (.ref a) (.type "tuple") >>= _) _ _ s
  refine wpAny_bind (wpAny_isInstance hT isSubtype_tuple_tuple ?_)
  simp only [Bool.not_true, Bool.false_eq_true, if_false]
  refine wpAny_bind (wpAny_seqItems ho hd ?_)
  refine wpAny_bind ?_
  show wpAny _ _ (forIn vs.toArray _ _) _ _ s
  rw [← Array.forIn_toList]
  refine wpAny_forIn_list _ (fun rest r s' => r.1 = none ∧ s' = s ∧ ∀ v ∈ rest, v ∈ vs) _ ?_ ?_ _ _ (i0_3 (rfl) ( rfl) ( fun v hv => hv))
  · (intro v rest r s' zr1; refine x0_3 zr1 ?_; clear zr1; intro hr er1 hall; obtain rfl := er1)
    refine wpAny_bind (items v (hall v List.mem_cons_self) _ ?_)
    simp only [Bool.not_true, Bool.false_eq_true, if_false]
    exact wpAny_pure (i0_3 (rfl) ( rfl) ( fun u hu' => hall u (List.mem_cons_of_mem _ hu')))
  · ((intro zt1 s' zr1; obtain ⟨r1, r2⟩ := zt1); refine x0_3 zr1 ?_; clear zr1; intro hr er1 _; obtain rfl := er1)
    simp only at hr
    subst hr
    exact wpAny_pure h

theorem ky_quiet : ∀ (k : Ky), (∀ (A : Around) (s : Shared) (v : Value) (n : Nat) (Q : Bool → Shared → Prop), k.dep.1 ≤ n → IsKy s.heap.get? k v → Q true s → wpAny (model PR w) A (eqIsQuiet n v) Q E s) ∧
    (∀ (A : Around) (s : Shared) (vs : List Value) (n : Nat), k.dep.2 ≤ n → IsKys s.heap.get? k vs → ∀ v ∈ vs, ∀ (Q : Bool → Shared → Prop), Q true s → wpAny (model PR w) A (eqIsQuiet n v) Q E s)
  | .str x => ⟨fun A s v n Q _ ⟨t, e⟩ h => by subst e; rw [eqIsQuiet_byValue n rfl]; exact wpAny_pure h, fun _ _ _ _ _ h => h.elim⟩
  | .int i => ⟨fun A s v n Q _ ⟨t, e⟩ h => by subst e; rw [eqIsQuiet_byValue n rfl]; exact wpAny_pure h, fun _ _ _ _ _ h => h.elim⟩
  | .nil => by
    refine ⟨fun A s v n Q hn z h => x3_4 z fun a o m e ho hc hd => ?_, fun A s vs n _ (e : vs = []) v hv => by subst e; cases hv⟩
    subst e
    obtain ⟨n', rfl⟩ : ∃ n', n = n' + 1 := ⟨n - 1, by simp only [Ky.dep] at hn; omega⟩
    exact ky_quiet_tuple (vs := []) ho hc hd (fun v hv => by cases hv) h
  | .cons k r => by
    have items : ∀ (A : Around) (s : Shared) (u : Value) (us : List Value) (n : Nat), (Ky.cons k r).dep.2 ≤ n → IsKy s.heap.get? k u → IsKys s.heap.get? r us → ∀ v ∈ u :: us, ∀ (Q : Bool → Shared → Prop), Q true s → wpAny (model PR w) A (eqIsQuiet n v) Q E s := by
      intro A s u us n hn h1 h2 v hv Q hQ
      simp only [Ky.dep] at hn
      rcases List.mem_cons.mp hv with rfl | hv
      · exact (ky_quiet k).1 A s _ n Q (by omega) h1 hQ
      · exact (ky_quiet r).2 A s us n (by omega) h2 v hv Q hQ
    refine ⟨fun A s v n Q hn z h => x5_6 z fun a o u us m e ho hc hd h1 h2 => ?_, fun A s vs n hn z v hv Q hQ => x2_3 z fun u us e h1 h2 => items A s u us n hn h1 h2 v (e ▸ hv) Q hQ⟩
    subst e
    obtain ⟨n', rfl⟩ : ∃ n', n = n' + 1 := ⟨n - 1, by simp only [Ky.dep] at hn; omega⟩
    exact ky_quiet_tuple (vs := u :: us) ho hc hd (items A s u us n' (by simp only [Ky.dep] at hn ⊢; omega) h1 h2) h

theorem ky_eqBool {k l : Ky} {v u : Value} {Q : Bool → Shared → Prop} (hu : A.units + 8 < cLine) (hk : k.okS = true) (hl : l.okS = true) (hd : k.dep.1 ≤ 8) (h1 : IsKy s.heap.get? k v) (h2 : IsKy s.heap.get? l u) (h : Q (decide (k = l)) s) : wpAny (model PR w) A (eqBool v u) Q E s := by
  have z := PySem.SeqAt.eqAt_reads k.py.1 l.py.1 A s v u [] [] ((bears_reads k).1 _ h1) ((bears_reads l).1 _ h2) (py_lay k hk).1 (py_lay l hl).1 (by have := (py_depth k).1; omega)
  exact z PR w E Q (by first | exact (((py_eqv k l hk hl).1).trans h) | (rw [(py_eqv k l hk hl).1]; exact h))
end

noncomputable def kyKind (w : World) : HeapKind PR w Ky where
  is := fun h k a => IsKy h.get? k (.ref a) ∧ k.okS = true ∧ k.dep.1 ≤ 8
  hash := fun k => (k.hh w).1
  draws := fun k => k.dr.1
  room := fun A => A.units + 8 < cLine
  inj := fun hx hy => (bears_inj _ _ hx.2.1 hy.2.1).1 _ hx.1 hy.1
  keeps := fun {h h' k a d o es ep} x ho hd hs => ⟨by
    have key : ∀ k : Ky, (∀ v, IsKy h.get? k v → IsKy h'.get? k v) ∧ (∀ vs, IsKys h.get? k vs → IsKys h'.get? k vs) := by
      intro k
      have ne : ∀ b ob vs n, h.get? b = some ob → ob.data = .seq vs n → h'.get? b = some ob := fun b ob vs n e e2 => (hs.2 b (by rintro rfl; (first | exact nos (ho) e | exact nos e (ho) | (rw [ho] at e; cases e)); (first | exact nos (hd) e2 | exact nos e2 (hd) | (rw [hd] at e2; cases e2)))).trans e
      induction k with
      | str x => exact ⟨fun _ x => x, fun _ x => x⟩
      | int i => exact ⟨fun _ x => x, fun _ x => x⟩
      | nil => exact ⟨fun _ z => x3_4 z fun a o n e ho hc hd => (i3_4 (a) ( o) ( n) ( e) ( ne _ _ _ _ ho hd) ( hc) ( hd)), fun _ x => x⟩
      | cons k r ihk ihr => exact ⟨fun _ z => x5_6 z fun a o u us n e ho hc hd h1 h2 => (i5_6 (a) ( o) ( u) ( us) ( n) ( e) ( ne _ _ _ _ ho hd) ( hc) ( hd) ( ihk.1 _ h1) ( ihr.2 _ h2)),
          fun _ z => x2_3 z fun u us e h1 h2 => (i2_3 (u) ( us) ( e) ( ihk.1 _ h1) ( ihr.2 _ h2))⟩
    exact (key k).1 _ x.1, x.2⟩
  pyHash := fun {A E s k a Q} hu hk h => (ky_hash (E := E) k).1 A s _ Q (by have := hk.2.2; omega) hk.1 h
  eqBool := fun {A E s x y a b Q} hu hx hy h => ky_eqBool hu hx.2.1 hy.2.1 hx.2.2 hx.1 hy.1 h
  quiet := fun {A E s k a Q} hk h => (ky_quiet (E := E) k).1 A s _ 8 Q hk.2.2 hk.1 h
end
section
--FILE JD
theorem noImports : PyProof.Rows.importsNone hd.view_39 = true := by decide +kernel

section
variable {X : Cx} {m : Loc} {σ : Led} {s : Shared} {d : Nat} {b : Shared}

theorem notMods {a : Addr} {o : Obj} (O : X.Ok d) (S : St X m σ s) (hs : σ a = some o) : (a == sysModules) = false := by
  (refine x3_1 O.top ?_; intro mean mg mb T)
  (refine x1_2 ((T.seer noImports).mods) ?_; (intro mm zr1 _; refine x3_2 zr1 ?_; clear zr1; intro om _ _ hm _))
  refine beq_eq_false_iff_ne.mpr ?_
  rintro rfl
  have := (S.nw _ _ hs).2.2
  (first | exact nos (hm) this | exact nos this (hm) | (rw [hm] at this; cases this))

theorem O_units (O : X.Ok d) : X.A.units < cLine := by have := O.units; show _ < 9900; omega
theorem O_units8 (O : X.Ok d) : X.A.units + 20 < cLine := by have := O.units; show _ < 9900; omega

theorem j_int {i : Int} {k : Nat} {pos : Pos} {Q : Value → Loc → Led → Prop} (h : ∀ t, Q (.int i t) m σ) : J X (eval (.Constant (.int i) k pos) X.env) m σ Q :=
  fun _ _ B S => wpAny_Constant_int (.mk B.tk S.toks (h _))
theorem j_const {c : Const} {k : Nat} {pos : Pos} {v : Value} {Q : Value → Loc → Led → Prop} (e : constValue X.env c = Pure.pure v) (h : Q v m σ) : J X (eval (.Constant c k pos) X.env) m σ Q :=
  J.of_eq (arm_eval_Constant c k pos X.env) (J.of_eq e (.pure h))
theorem j_truthy_bool {c : Bool} {Q : Bool → Loc → Led → Prop} (h : Q c m σ) : J X (truthy (.bool c)) m σ Q := fun _ _ B S => wpAny_truthy_bool (.mk B S h)

theorem j_add {a c : Int} {t u : Tok} {Q : Value → Loc → Led → Prop} (h : ∀ t, Q (.int (a + c) t) m σ) : J X (binaryOp .Add (.int a t) (.int c u)) m σ Q := fun _ _ B S => PySem.wpAny_add_int (.mk B.tk S.toks (h _))
theorem j_sub {a c : Int} {t u : Tok} {Q : Value → Loc → Led → Prop} (h : ∀ t, Q (.int (a - c) t) m σ) : J X (binaryOp .Sub (.int a t) (.int c u)) m σ Q := fun _ _ B S => sub_int (.mk B.tk S.toks (h _))
theorem j_mul {a c : Int} {t u : Tok} {Q : Value → Loc → Led → Prop} (hm : IntMulOk a c) (h : ∀ t, Q (.int (a * c) t) m σ) : J X (binaryOp .Mult (.int a t) (.int c u)) m σ Q := fun _ _ B S => mul_int (hm := hm) (.mk B.tk S.toks (h _))
theorem j_eq {a c : Int} {t u : Tok} {Q : Value → Loc → Led → Prop} (h : Q (.bool (a == c)) m σ) : J X (compareOp .Eq (.int a t) (.int c u)) m σ Q := fun _ _ B S => eq_int (.mk B S h)
theorem j_ne {a c : Int} {t u : Tok} {Q : Value → Loc → Led → Prop} (h : Q (.bool (a != c)) m σ) : J X (compareOp .NotEq (.int a t) (.int c u)) m σ Q := fun _ _ B S => ne_int (.mk B S h)
theorem j_lt {a c : Int} {t u : Tok} {Q : Value → Loc → Led → Prop} (h : Q (.bool (decide (a < c))) m σ) : J X (compareOp .Lt (.int a t) (.int c u)) m σ Q := fun _ _ B S => PySem.wpAny_lt_int (.mk B S h)
theorem j_gt {a c : Int} {t u : Tok} {Q : Value → Loc → Led → Prop} (h : Q (.bool (decide (a > c))) m σ) : J X (compareOp .Gt (.int a t) (.int c u)) m σ Q := fun _ _ B S => gt_int (.mk B S h)
theorem j_le {a c : Int} {t u : Tok} {Q : Value → Loc → Led → Prop} (h : Q (.bool (decide (a ≤ c))) m σ) : J X (compareOp .LtE (.int a t) (.int c u)) m σ Q := fun _ _ B S => le_int (.mk B S h)

theorem lstAt {l : Addr} {o : Obj} {vs : List Value} (S : St X m σ s) (hs : σ l = some o) (ho : IsLstO o vs) : s.heap.IsList l vs.toArray := (i1_2 (o) ( (S.nw _ _ hs).1) ( ho))
theorem tupAt {l : Addr} {o : Obj} {vs : List Value} (S : St X m σ s) (hs : σ l = some o) (ho : IsTupO o vs) : s.heap.IsTuple l vs.toArray := (i1_2 (o) ( (S.nw _ _ hs).1) ( ho))
theorem tupAt' {l : Addr} {o : Obj} {vs : List Value} (S : St X m σ s) (hs : σ l = some o) (ho : IsTupO o vs) : IsTup s.heap l vs.toArray := (i1_2 (o) ( (S.nw _ _ hs).1) ( ho))

theorem j_getItem_list {l : Addr} {o : Obj} {vs : List Value} {k : Nat} {t : Tok} {v : Value} {Q : Value → Loc → Led → Prop} (hs : σ l = some o) (ho : IsLstO o vs) (hv : vs[k]? = some v) (hk : k < 1000000) (h : Q v m σ) :
    J X (getItem (.ref l) (.int k t)) m σ Q :=
  fun _ _ B S => wpAny_getItem_list (lstAt S hs ho) (by exact (Int.natCast_nonneg _)) (by omega) (by simpa using hv) (.mk B S h)
theorem j_tail_list {value slice : PySem.Expr} {l : Addr} {o : Obj} {vs : List Value} {k : Nat} {t : Tok} {v : Value} {Q : Value → Loc → Led → Prop} (hs : σ l = some o) (ho : IsLstO o vs) (hv : vs[k]? = some v) (hk : k < 1000000)
    (he : subscripted slice false (.ref l) (.int k t) = operate [.ref l, .int k t] (getItem (.ref l) (.int k t))) (h : Q v m σ) : J X (subscriptTail value slice (.ref l) (.int k t)) m σ Q :=
  fun b s B S => tail_any (lstAt S hs ho).typeIs slot_list_getitem.lookup (j_getItem_list hs ho hv hk h b s B S) he
end
end
section
--FILE JE
noncomputable abbrev tupOf (vs : List Value) (n : Nat) : Obj := { cls := .type "tuple", data := .seq vs.toArray n }
noncomputable abbrev lstOf (vs : List Value) (n : Nat) : Obj := listOf vs.toArray n
noncomputable def HL (σ : Led) (l : Addr) (vs : List Value) : Prop := ∃ n, σ l = some (lstOf vs n)
noncomputable def HT (σ : Led) (l : Addr) (vs : List Value) : Prop := ∃ n, σ l = some (tupOf vs n)

theorem lstO {vs : List Value} {n : Nat} : IsLstO (lstOf vs n) vs := ⟨rfl, n, rfl⟩
theorem tupO {vs : List Value} {n : Nat} : IsTupO (tupOf vs n) vs := ⟨rfl, n, rfl⟩

section
variable {X : Cx} {m : Loc} {σ : Led} {s : Shared} {d : Nat} {b : Shared}

theorem St.ofFresh {h' : Heap} {tk : Nat} {o : Obj} (S : St X m σ s) (F' : Fr X.h₀ X.env.locals h' m) (N' : News X.h₀ X.env.locals h' ((s.heap.objs.size, o) :: others X s.heap s.heap.objs.size)) :
    St X m (σ.set s.heap.objs.size o) { s with heap := h', toks := tk } := by
  have f := S.fresh (Nat.le_refl _)
  have k := S.ofKept (tk := tk) F' fun p hp => (N' p (.tail _ hp)).1
  refine ⟨F', fun b ob e => ?_, fun p hp => ?_⟩
  · by_cases q : b = s.heap.objs.size
    · subst q; (first | exact nos (Led.set_self) e | exact nos e (Led.set_self) | (rw [Led.set_self] at e; cases e)); exact (i0_3 ((N' _ (.head _)).1) ( f.2.1) ( f.2.2.1))
    · rw [Led.set_ne q] at e
      have z := S.nw b ob e
      exact ⟨k b ob q z.2.1 z.1, z.2⟩
  · have g := S.fn p hp
    have q := f.2.2.2 p hp
    exact (i0_4 (k _ _ q g.2.2.1 g.1) ( g.2.1) ( g.2.2.1) ( by first | exact ((Led.set_ne q).trans g.2.2.2) | (rw [Led.set_ne q]; exact g.2.2.2)))
theorem St.ofAll {h' : Heap} {tk : Nat} (S : St X m σ s) (F' : Fr X.h₀ X.env.locals h' m) (N' : News X.h₀ X.env.locals h' (others X s.heap s.heap.objs.size)) :
    St X m σ { s with heap := h', toks := tk } := by
  have k := S.ofKept (tk := tk) F' fun p hp => (N' p hp).1
  refine ⟨F', fun b ob e => ?_, fun p hp => ?_⟩
  · have z := S.nw b ob e
    exact ⟨k b ob (Nat.ne_of_lt (Heap.lt_size z.1)) z.2.1 z.1, z.2⟩
  · have g := S.fn p hp
    exact ⟨k _ _ (Nat.ne_of_lt (Heap.lt_size g.1)) g.2.2.1 g.1, g.2⟩

theorem j_append {l : Addr} {vs : List Value} {n : Nat} {x : Value} {Q : Value → Loc → Led → Prop} (hs : σ l = some (lstOf vs n)) (hz : vs.length ≤ 16777216) (h : Q .none m (σ.set l (lstOf (vs ++ [x]) (n + 1)))) :
    J X (call (.builtin "list.append") [.ref l, x]) m σ Q :=
  fun b s B S => append_at (S.nw _ _ hs).1 (fun h' hb ho => .mk B.heap (S.upd hs hb.extBut (by rw [ho]; simp)) h) (by simpa [sizeLine] using hz)
theorem j_list_append_m {l : Addr} {vs : List Value} {n : Nat} {pl : Sem Bool} {Q : Value × List Value → Loc → Led → Prop} (hs : σ l = some (lstOf vs n)) (h : Q (.builtin "list.append", [.ref l]) m σ) : J X (getMethod (.ref l) "append" pl) m σ Q :=
  fun b s B S => getMethod_list_append (S.nw _ _ hs).1 rfl rfl (.mk B S h)
theorem j_list_pop_m {l : Addr} {vs : List Value} {n : Nat} {pl : Sem Bool} {Q : Value × List Value → Loc → Led → Prop} (hs : σ l = some (lstOf vs n)) (h : Q (.builtin "list.pop", [.ref l]) m σ) : J X (getMethod (.ref l) "pop" pl) m σ Q :=
  fun b s B S => Copied.getMethod_pop_at (S.nw _ _ hs).1 rfl rfl (.mk B S h)
theorem j_pop {l : Addr} {vs : List Value} {y : Value} {n : Nat} {Q : Value → Loc → Led → Prop} (hs : σ l = some (lstOf (vs ++ [y]) n)) (hz : vs.length < 16777216) (h : Q y m (σ.set l (lstOf vs (n + 1)))) :
    J X (call (.builtin "list.pop") [.ref l]) m σ Q :=
  fun b s B S => Copied.pop_at (S.nw _ _ hs).1 (by simp) (fun h' hb ho => .mk B.heap (S.upd hs hb.extBut (by rw [ho]; simp)) h) (by simp [sizeLine]; omega)
theorem j_len_list {l : Addr} {vs : List Value} {n : Nat} {Q : Value → Loc → Led → Prop} (hs : σ l = some (lstOf vs n)) (hz : vs.length ≤ 16777216) (h : ∀ t, Q (.int vs.length t) m σ) : J X (call (.builtin "len") [.ref l]) m σ Q :=
  fun b s B S => call_len_list (lstAt S hs lstO) (by simp; omega) (.mk B.tk S.toks (by simpa using h _))
theorem j_setItem_list {l : Addr} {vs : List Value} {n k : Nat} {t : Tok} {v : Value} {Q : Unit → Loc → Led → Prop} (hs : σ l = some (lstOf vs n)) (hk : k < vs.length) (hz : k < 1000000) (h : ∀ n', Q () m (σ.set l (lstOf (vs.set k v) n'))) :
    J X (setItem (.ref l) (.int k t) v) m σ Q := by
  intro b s B S
  have z := (S.nw _ _ hs).1
  refine ki_setAt z (by exact (Int.natCast_nonneg _)) (by omega) (by simpa using hk) (.mk (σ' := σ.set l (lstOf (vs.set k v) (if (vs.toArray.setIfInBounds k v).size = vs.toArray.size then n else n + 1))) B.heap (S.upd (tk := s.toks) hs (Heap.SameBut.update ..).extBut ?_) (h _))
  rw [Heap.get?_update_self _ z rfl]
  simp [Obj.mapSeq]
theorem j_add_list {l k : Addr} {vs ws : List Value} {n n2 : Nat} {Q : Value → Loc → Led → Prop} (hl : σ l = some (lstOf vs n)) (hk : σ k = some (lstOf ws n2)) (hz : vs.length + ws.length ≤ 16777216) (h : ∀ a, σ a = none → Q (.ref a) m (σ.set a (lstOf (vs ++ ws) 0))) :
    J X (binaryOp .Add (.ref l) (.ref k)) m σ Q :=
  fun b s B S => add_lists S.fr S.newsAll (lstAt S hl lstO) (lstAt S hk lstO) (fun h' F' N' => .mk B.heap (S.ofFresh (tk := s.toks) F' N') (h _ (S.fresh (Nat.le_refl _)).1)) (by simpa [sizeLine] using hz)
theorem j_extend {l k : Addr} {vs ws : List Value} {n n2 : Nat} {Q : Value → Loc → Led → Prop} (hl : σ l = some (lstOf vs n)) (hk : σ k = some (lstOf ws n2)) (hz : vs.length + ws.length ≤ 16777216) (h : ∀ n', Q .none m (σ.set l (lstOf (vs ++ ws) n'))) :
    J X (call (.builtin "list.extend") [.ref l, .ref k]) m σ Q :=
  fun b s B S => extend_in (own := []) S.fr (S.news hl) (fun _ h => nomatch h) others_ne (S.nw _ _ hk).1 (fun h' n' F' N' => .mk B.heap (S.ofNews (tk := s.toks) hl F' (by simpa using N')) (h n')) (by simpa [sizeLine] using hz)
theorem j_list_extend_m {l : Addr} {vs : List Value} {n : Nat} {pl : Sem Bool} {Q : Value × List Value → Loc → Led → Prop} (hs : σ l = some (lstOf vs n)) (h : Q (.builtin "list.extend", [.ref l]) m σ) : J X (getMethod (.ref l) "extend" pl) m σ Q :=
  fun b s B S => getMethod_list_of (slot := PySem.F.slot_list_extend) (hty := PySem.F.type_list_extend) (lstAt S hs lstO) (show s.heap.NoDictAt (.ref l) from (i1_2 (_) ( (S.nw _ _ hs).1) ( rfl))) (.mk B S h)

theorem j_tuple_tup {t : Addr} {vs : List Value} {n : Nat} {Q : Value → Loc → Led → Prop} (hs : σ t = some (tupOf vs n)) (h : Q (.ref t) m σ) : J X (call (.type "tuple") [.ref t]) m σ Q :=
  fun b s B S => call_tuple_tup (tupAt' S hs tupO) (.mk B S h)
theorem j_tuple_list {l : Addr} {vs : List Value} {n : Nat} {Q : Value → Loc → Led → Prop} (hs : σ l = some (lstOf vs n)) (hz : vs.length ≤ 16777216) (h : ∀ a, σ a = none → Q (.ref a) m (σ.set a (tupOf vs 0))) : J X (call (.type "tuple") [.ref l]) m σ Q :=
  fun b s B S => call_tuple_list (lstAt S hs lstO) (fun h' k => by
    have S' := S.ext (tk := s.toks) k
    exact .mk B.heap (S'.push (tk := s.toks)) (h _ (S'.fresh (Nat.le_refl _)).1)) (by simpa [sizeLine] using hz)
theorem j_getItem_tuple {t : Addr} {vs : List Value} {n k : Nat} {u : Tok} {v : Value} {Q : Value → Loc → Led → Prop} (hs : σ t = some (tupOf vs n)) (hv : vs[k]? = some v) (hk : k < 1000000) (h : Q v m σ) : J X (getItem (.ref t) (.int k u)) m σ Q :=
  fun b s B S => PyProof.Rows.getItem_tuple (tupAt' S hs tupO) (by exact (Int.natCast_nonneg _)) (by omega) (j := k) (by
    have : k < vs.length := by
      rcases Nat.lt_or_ge k vs.length with h | h
      · exact h
      · (first | exact nos (List.getElem?_eq_none h) hv | exact nos hv (List.getElem?_eq_none h) | (rw [List.getElem?_eq_none h] at hv; cases hv))
    simp [seqIndex?]; omega) (by simpa using hv) (.mk B S h)
theorem j_add_tuple {l k : Addr} {vs ws : List Value} {n n2 : Nat} {Q : Value → Loc → Led → Prop} (hl : σ l = some (tupOf vs n)) (hk : σ k = some (tupOf ws n2)) (hv : vs ≠ []) (hz : vs.length + ws.length ≤ 16777216) (h : ∀ a σ' n', (∀ c o, σ c = some o → σ' c = some o) → (σ' = σ ∨ (σ a = none ∧ σ' = σ.set a (tupOf (vs ++ ws) n'))) → σ' a = some (tupOf (vs ++ ws) n') → Q (.ref a) m σ') :
    J X (binaryOp .Add (.ref l) (.ref k)) m σ Q :=
  fun b s B S => add_tuples S.fr S.newsAll (tupAt' S hl tupO) (tupAt' S hk tupO) (fun e => absurd e hv) (fun _ e => by subst e; exact .mk B S (h l σ n (fun _ _ e => e) (.inl rfl) (by simpa using hl)))
    (fun _ _ h' F' N' => by
      have f := S.fresh (Nat.le_refl s.heap.objs.size)
      exact .mk B.heap (S.ofFresh (tk := s.toks) F' N') (h _ _ 0 (fun c o e => by first | exact ((Led.set_ne (by rintro rfl; (first | exact nos (f.1) e | exact nos e (f.1) | (rw [f.1] at e; cases e)))).trans e) | (rw [Led.set_ne (by rintro rfl; (first | exact nos (f.1) e | exact nos e (f.1) | (rw [f.1] at e; cases e)))]; exact e)) (.inr ⟨f.1, rfl⟩) Led.set_self)) (by simpa [sizeLine] using hz)
end
end
section
--FILE JG
noncomputable abbrev sliceObj (l u : Value) : Obj := { cls := .type "slice", data := .fields #[l, u, .none] }

section
variable {X : Cx} {m : Loc} {σ : Led} {s : Shared} {d : Nat} {b : Shared}

theorem j_sliceFrom {lo : PySem.Expr} {p : Pos} {Q : Value → Loc → Led → Prop} (h : J X (eval lo X.env) m σ (fun v m' σ' => ∀ a, σ' a = none → Q (.ref a) m' (σ'.set a (sliceObj v .none)))) : J X (eval (.Slice (some lo) none none p) X.env) m σ Q := by
  intro b s B S
  refine wpAny_Slice (wpAny_evalPart_some (h.seq B S fun v s1 m1 σ1 B1 S1 h1 => wpAny_evalPart_none (wpAny_evalPart_none ?_)))
  exact .mk B1.heap (S1.push (tk := s1.toks)) (h1 _ (S1.fresh (Nat.le_refl _)).1)
theorem j_sliceTo {up : PySem.Expr} {p : Pos} {Q : Value → Loc → Led → Prop} (h : J X (eval up X.env) m σ (fun v m' σ' => ∀ a, σ' a = none → Q (.ref a) m' (σ'.set a (sliceObj .none v)))) : J X (eval (.Slice none (some up) none p) X.env) m σ Q := by
  intro b s B S
  refine wpAny_Slice (wpAny_evalPart_none (wpAny_evalPart_some (h.seq B S fun v s1 m1 σ1 B1 S1 h1 => wpAny_evalPart_none ?_)))
  exact .mk B1.heap (S1.push (tk := s1.toks)) (h1 _ (S1.fresh (Nat.le_refl _)).1)
theorem slAt {sl : Addr} {l u : Value} (S : St X m σ s) (hs : σ sl = some (sliceObj l u)) : s.heap.IsSliceOf sl l u .none := (i1_3 (_) ( (S.nw _ _ hs).1) ( rfl) ( rfl))
theorem j_tail_tup {value slice : PySem.Expr} {t : Addr} {vs : List Value} {n k : Nat} {u : Tok} {v : Value} {Q : Value → Loc → Led → Prop} (hs : σ t = some (tupOf vs n)) (hv : vs[k]? = some v) (hk : k < 1000000)
    (he : subscripted slice false (.ref t) (.int k u) = operate [.ref t, .int k u] (getItem (.ref t) (.int k u))) (h : Q v m σ) : J X (subscriptTail value slice (.ref t) (.int k u)) m σ Q :=
  fun b s B S => tail_any (tupAt S hs tupO).typeIs slot_tuple_getitem.lookup (j_getItem_tuple hs hv hk h b s B S) he
theorem j_tail_tupFrom {value slice : PySem.Expr} {t sl : Addr} {vs : List Value} {n a : Nat} {u : Tok} {Q : Value → Loc → Led → Prop} (hs : σ t = some (tupOf vs n)) (hsl : σ sl = some (sliceObj (.int a u) .none)) (h1 : 1 ≤ a) (ha : a ≤ vs.length) (hz : vs.length ≤ 16777216)
    (he : subscripted slice false (.ref t) (.ref sl) = operate [.ref sl, .ref t] (getItem (.ref t) (.ref sl))) (h : ∀ c, σ c = none → Q (.ref c) m (σ.set c (tupOf (vs.drop a) 0))) : J X (subscriptTail value slice (.ref t) (.ref sl)) m σ Q :=
  fun b s B S => tail_any (tupAt S hs tupO).typeIs slot_tuple_getitem.lookup
    (getItem_tuple_from (tupAt' S hs tupO) (slAt S hsl) h1 (by simpa using ha) (.mk B.heap (S.push (tk := s.toks)) (h _ (S.fresh (Nat.le_refl _)).1)) (by simpa [sizeLine] using hz)) he

theorem j_eq_str {x y : Str} {t u : Tok} {Q : Value → Loc → Led → Prop} (h : Q (.bool (x == y)) m σ) : J X (compareOp .Eq (.str x t) (.str y u)) m σ Q := fun b s B S => PyProof.Rows.eq_str (.mk B S h)
theorem j_ne_str {x y : Str} {t u : Tok} {Q : Value → Loc → Led → Prop} (h : Q (.bool (x != y)) m σ) : J X (compareOp .NotEq (.str x t) (.str y u)) m σ Q := fun b s B S => PyProof.Rows.ne_str (.mk B S h)
theorem j_is_none {v : Value} {Q : Value → Loc → Led → Prop} (h : Q (.bool (v == .none)) m σ) : J X (compareOp .Is v .none) m σ Q := fun b s B S => PyProof.Rows.is_none_gen (.mk B S h)
theorem j_in_str {x y : Str} {t u : Tok} {Q : Value → Loc → Led → Prop} (h : Q (.bool (Txt.contains x y)) m σ) : J X (compareOp .In (.str y u) (.str x t)) m σ Q := fun b s B S => SB.contains (.mk B S h)
theorem j_isspace_m {x : Str} {t : Tok} {pl : Sem Bool} {Q : Value × List Value → Loc → Led → Prop} (h : Q (.builtin "str.isspace", [.str x t]) m σ) : J X (getMethod (.str x t) "isspace" pl) m σ Q := fun b s B S => GM.isspace (.mk B S h)
theorem j_isspace {x : Str} {t : Tok} {Q : Value → Loc → Led → Prop} (h : Q (.bool (Txt.isspace x)) m σ) : J X (call (.builtin "str.isspace") [.str x t]) m σ Q := fun b s B S => SC.isspace (.mk B S h)
theorem j_getItem_str {x : Str} {t u : Tok} {k c : Nat} {Q : Value → Loc → Led → Prop} (hk : k < 1000000) (hc : x.cps[k]? = some c) (h : ∀ t, Q (.str ⟨#[c]⟩ t) m σ) : J X (getItem (.str x t) (.int k u)) m σ Q :=
  fun b s B S => PyProof.Rows.getItem_str (by
    have h1 : decide ((k : Int) < -(2 ^ 63 : Int)) = false := decide_eq_false (by omega)
    have h2 : decide ((k : Int) ≥ 2 ^ 63) = false := decide_eq_false (by omega)
    rw [h1, h2]; rfl) (by
    have : k < x.cps.size := by
      rcases Nat.lt_or_ge k x.cps.size with h | h
      · exact h
      · (first | exact nos (Array.getElem?_eq_none h) hc | exact nos hc (Array.getElem?_eq_none h) | (rw [Array.getElem?_eq_none h] at hc; cases hc))
    have e : seqIndex? (k : Int) x.length = some k := by
      have : k < x.length := this
      simp [seqIndex?]; omega
    rw [e]; exact hc) (.mk B.tk S.toks (h _))

theorem eqBool_reads {da db : PyData} {va vb : Value} {as bs : List Addr} {Q : Value → Loc → Led → Prop} (O : X.Ok d) (ha : ∀ s, St X m σ s → Reads s.heap va da as) (hb : ∀ s, St X m σ s → Reads s.heap vb db bs) (la : da.canLay0 = true) (lb : db.canLay0 = true) (hd : min da.depth db.depth ≤ 20)
    (h : Q (.bool (PyData.eqv da db)) m σ) : J X (compareOp .Eq va vb) m σ Q :=
  fun b s B S => PySem.SeqAt.compareEq_reads (ha s S) (hb s S) la lb (by have := O_units8 O; omega) (.mk B S h)
theorem neBool_reads {da db : PyData} {va vb : Value} {as bs : List Addr} {Q : Value → Loc → Led → Prop} (O : X.Ok d) (ha : ∀ s, St X m σ s → Reads s.heap va da as) (hb : ∀ s, St X m σ s → Reads s.heap vb db bs) (la : da.canLay0 = true) (lb : db.canLay0 = true) (hd : min da.depth db.depth ≤ 20)
    (h : Q (.bool (!PyData.eqv da db)) m σ) : J X (compareOp .NotEq va vb) m σ Q :=
  fun b s B S => PySem.SeqAt.compareNe_reads (ha s S) (hb s S) la lb (by have := O_units8 O; omega) (.mk B S h)

theorem j_BoolOp_one {op e pos} {Q : Value → Loc → Led → Prop} (h : J X (eval e X.env) m σ Q) : J X (eval (.BoolOp op [e] pos) X.env) m σ Q := fun b s B S => PyProof.Rows.BoolOp_one (h b s B S)
theorem j_BoolOp_and {e₁ e₂ rest pos} {Q : Value → Loc → Led → Prop} (h : J X (eval e₁ X.env) m σ (fun v m' σ' => J X (truthy v) m' σ' (fun c m' σ' => if c then J X (eval (.BoolOp .And (e₂ :: rest) pos) X.env) m' σ' Q else Q v m' σ'))) : J X (eval (.BoolOp .And (e₁ :: e₂ :: rest) pos) X.env) m σ Q :=
  fun b s B S => PyProof.Rows.BoolOp_and (h.seq B S fun _ _ _ _ B' S' hP => hP.seq B' S' fun c _ _ _ B' S' hP => by cases c <;> first | exact hP _ _ B' S' | exact .mk B' S' hP)

theorem j_isTrue_chain2 {l op₁ op₂ r₁ r₂ pos whole} {Q : Bool → Loc → Led → Prop} (h : J X (eval l X.env) m σ (fun a m' σ' => J X (eval r₁ X.env) m' σ' (fun b m' σ' => J X (compareOp op₁ a b) m' σ' (fun c m' σ' => J X (truthy c) m' σ' (fun t m' σ' => if t then J X (eval r₂ X.env) m' σ' (fun e m' σ' => J X (compareOp op₂ b e) m' σ' (fun f m' σ' => J X (truthy f) m' σ' Q)) else Q false m' σ')))))
    (hm : lastMarks [op₁, op₂] [r₁, r₂] = false) : J X (isTrue (.Compare l [op₁, op₂] [r₁, r₂] pos) X.env whole) m σ Q := by
  refine fun b s B S => PyProof.Rows.isTrue_chain (hm := hm) (h.seq B S fun a s1 m1 σ1 B1 S1 h1 => ?_)
  refine PyProof.Rows.test_link (h1.seq B1 S1 fun _ _ _ _ B' S' hP => hP.seq B' S' fun _ _ _ _ B' S' hP => hP.seq B' S' fun t _ _ _ B' S' hP => ?_)
  cases t with
  | false => exact .mk B' S' hP
  | true => exact PyProof.Rows.test_last (J.seq (P := _) hP B' S' fun _ _ _ _ B' S' hP => hP.seq B' S' fun _ _ _ _ B' S' hP => hP _ _ B' S')

theorem j_range {n : Nat} {t : Tok} {Q : Value → Loc → Led → Prop} (h : ∀ a t1 t2, σ a = none → Q (.ref a) m (σ.set a { cls := .type "range", data := .fields #[.int 0 t1, .int n t, .int 1 t2] })) : J X (call (.type "range") [.int n t]) m σ Q :=
  fun b s B S => call_range_1 (.mk B.to (S.push) (h _ _ _ (S.fresh (Nat.le_refl _)).1))
end
end
section
--FILE JH
section
variable {X : Cx} {m : Loc} {σ : Led} {s : Shared} {d : Nat} {b : Shared}

theorem j_sum {l : Addr} {vs : List Value} {ns : List Int} {n : Nat} {Q : Value → Loc → Led → Prop} (O : X.Ok d) (hs : σ l = some (lstOf vs n)) (hi : IntsAre vs ns) (h : ∀ t, Q (.int ns.sum t) m σ) : J X (call (.builtin "sum") [.ref l]) m σ Q :=
  fun b s B S => sumK O.hh S.fr S.newsAll (lstAt S hs lstO) hi fun h' tk t' F' N' => .mk B.to (S.ofAll (tk := tk) F' N') (h _)
theorem j_max {l : Addr} {vs : List Value} {ns : List Int} {n : Nat} {Q : Value → Loc → Led → Prop} (O : X.Ok d) (hs : σ l = some (lstOf vs n)) (hi : IntsAre vs ns) (hne : 0 < ns.length) (h : ∀ M t, Q (.int M t) m σ) : J X (call (.builtin "max") [.ref l]) m σ Q :=
  fun b s B S => max_list_N O.hh S.fr S.newsAll (lstAt S hs lstO) hi hne fun h' M t tk F' N' _ _ => .mk B.to (S.ofAll (tk := tk) F' N') (h _ _)
theorem St.ofFresh1 {h' : Heap} {tk : Nat} {o : Obj} (S : St X m σ s) (F' : Fr X.h₀ X.env.locals h' m) (N' : News X.h₀ X.env.locals h' ((s.heap.objs.size + 1, o) :: others X s.heap s.heap.objs.size)) :
    St X m (σ.set (s.heap.objs.size + 1) o) { s with heap := h', toks := tk } := by
  have f := S.fresh (Nat.le_succ s.heap.objs.size)
  have k := S.ofKept (tk := tk) F' fun p hp => (N' p (.tail _ hp)).1
  refine ⟨F', fun b ob e => ?_, fun p hp => ?_⟩
  · by_cases q : b = s.heap.objs.size + 1
    · subst q; (first | exact nos (Led.set_self) e | exact nos e (Led.set_self) | (rw [Led.set_self] at e; cases e)); exact (i0_3 ((N' _ (.head _)).1) ( f.2.1) ( f.2.2.1))
    · rw [Led.set_ne q] at e
      have z := S.nw b ob e
      exact ⟨k b ob (Nat.ne_of_lt (Heap.lt_size z.1)) z.2.1 z.1, z.2⟩
  · have g := S.fn p hp
    have q := f.2.2.2 p hp
    exact (i0_4 (k _ _ (Nat.ne_of_lt (Heap.lt_size g.1)) g.2.2.1 g.1) ( g.2.1) ( g.2.2.1) ( by first | exact ((Led.set_ne q).trans g.2.2.2) | (rw [Led.set_ne q]; exact g.2.2.2)))
theorem j_sorted_ints {l : Addr} {vs : List Value} {ns : List Int} {n : Nat} {Q : Value → Loc → Led → Prop} (hs : σ l = some (lstOf vs n)) (hi : IntsAre vs ns) (h64 : vs.length < 64)
    (h : ∀ a vs' ns' e, σ a = none → IntsAre vs' ns' → ns'.Perm ns → ns'.Pairwise (· ≤ ·) → Q (.ref a) m (σ.set a (lstOf vs' e))) : J X (call (.builtin "sorted") [.ref l]) m σ Q :=
  fun b s B S => sorted_N S.fr S.newsAll (lstAt S hs lstO) hi h64 fun h' vs' ns' e F' N' hi' hp hw => .mk B.heap (S.ofFresh1 (tk := s.toks) F' N') (h _ _ _ _ (S.fresh (Nat.le_succ _)).1 hi' hp hw)

section
variable {K : Type} [DecidableEq K] [BEq K] [LawfulBEq K] {knd : KeyKind PR X.w K} {kvs : List (K × Value)} {dd : Addr} {o : Obj} {k : K} {key : Value}
theorem dctAt (S : St X m σ s) (hs : σ dd = some o) (ho : o.IsDictOf knd kvs) : s.heap.DictOf knd dd kvs := Heap.dictOf_iff.mpr (i1_2 (o) ( (S.nw _ _ hs).1) ( ho))
theorem j_dict_get {v : Value} {Q : Value → Loc → Led → Prop} (hs : σ dd = some o) (ho : o.IsDictOf knd kvs) (hk : knd.is k key = true) (hv : valueAt kvs k = some v) (h : Q v m σ) : J X (getItem (.ref dd) key) m σ Q :=
  fun b s B S => wpAny_getItem_of hk (dctAt S hs ho).mapOf hv (.mk B.tk S.toks h)
theorem j_tail_dict {value slice : PySem.Expr} {v : Value} {Q : Value → Loc → Led → Prop} (hs : σ dd = some o) (ho : o.IsDictOf knd kvs) (hk : knd.is k key = true) (hv : valueAt kvs k = some v)
    (he : subscripted slice false (.ref dd) key = operate [.ref dd, key] (getItem (.ref dd) key)) (h : Q v m σ) : J X (subscriptTail value slice (.ref dd) key) m σ Q :=
  fun b s B S => tail_any (dctAt S hs ho).typeIs PySem.F.slot_dict_getitem.lookup (j_dict_get hs ho hk hv h b s B S) he
theorem j_dict_set {v : Value} {Q : Unit → Loc → Led → Prop} (hs : σ dd = some o) (ho : o.IsDictOf knd kvs) (hk : knd.is k key = true) (hz : kvs.length ≤ 16777216) (h : ∀ o', o'.IsDictOf knd (stored kvs k v) → Q () m (σ.set dd o')) : J X (setItem (.ref dd) key v) m σ Q :=
  fun b s B S => wpAny_setItem_pairs hk (dctAt S hs ho) (fun h' hm hb => by
    (refine x1_2 (Heap.dictOf_iff.mp hm) ?_; intro o' ho' hd')
    exact .mk B.to (S.upd hs hb.extBut ho') (h o' hd')) (by simpa [sizeLine] using hz)
theorem j_dict_pop {v : Value} {Q : Value → Loc → Led → Prop} (hs : σ dd = some o) (ho : o.IsDictOf knd kvs) (hk : knd.is k key = true) (hv : valueAt kvs k = some v) (hpart : (keyPart key).isSome = true) (hz : kvs.length ≤ 16777216) (h : ∀ o', o'.IsDictOf knd (without kvs k) → Q v m (σ.set dd o')) :
    J X (call (.builtin "dict.pop") [.ref dd, key]) m σ Q := by
  intro b s B S
  have hD := dctAt S hs ho
  refine call_meetsIn PySem.F.slot_dict_pop hD.typeIs PySem.F.entry_dict_pop (PySem.F.args_dict_pop_2 _ _) (meets_dict_pop_there knd dd hk [] (.inl rfl) hpart) (i2_4 (kvs) ( v) ( hD) ( by simpa [sizeLine] using hz) ( hv) ( fun h' hmm hb => ?_))
  (refine x1_2 (Heap.dictOf_iff.mp hmm) ?_; intro o' ho' hd')
  exact .mk B.to (S.upd hs hb.extBut ho') (h o' hd')
theorem j_dict_pop_m {pl : Sem Bool} {Q : Value × List Value → Loc → Led → Prop} (hs : σ dd = some o) (ho : o.IsDictOf knd kvs) (h : Q (.builtin "dict.pop", [.ref dd]) m σ) : J X (getMethod (.ref dd) "pop" pl) m σ Q :=
  fun b s B S => getMethod_builtin (dctAt S hs ho).typeIs PySem.F.plainAttrs_dict PySem.F.slot_dict_pop PySem.F.type_dict_pop (dctAt S hs ho).mapOf.noDict (.mk B S h)
end

noncomputable def KyDict (w : World) (o : Obj) (xs : List (Ky × Addr × Value)) : Prop := ∃ es ep, o.ExactDict ∧ o.data = .dict es ep ∧ es.toList = xs.map (entryOfKey (kyKind w)) ∧ (xs.map (·.1)).Nodup
noncomputable def KyOk (σ : Led) (k : Ky) (v : Value) : Prop := IsKy σ k v ∧ k.okS = true ∧ k.dep.1 ≤ 8
noncomputable def KyKeys (σ : Led) (xs : List (Ky × Addr × Value)) : Prop := ∀ x ∈ xs, KyOk σ x.1 (.ref x.2.1)

theorem KyOk.at {k : Ky} {a : Addr} (S : St X m σ s) (h : KyOk σ k (.ref a)) {w : World} : (kyKind w).is s.heap k a := ⟨h.1.mono fun a o e => (S.nw a o e).1, h.2⟩
theorem kydAt {xs : List (Ky × Addr × Value)} {dd : Addr} {o : Obj} {w : World} (S : St X m σ s) (hs : σ dd = some o) (ho : KyDict w o xs) (hk : KyKeys σ xs) : s.heap.DictOfH (kyKind w) dd xs := by
  (refine x2_4 ho ?_; clear ho; intro es ep h1 h2 h3 h4)
  exact (i3_6 (o) ( es) ( ep) ( (S.nw _ _ hs).1) ( h1) ( h2) ( h3) ( fun x hx => (hk x hx).at S) ( h4))
theorem KyDict.of {xs : List (Ky × Addr × Value)} {dd : Addr} {h : Heap} {w : World} (hd : h.DictOfH (kyKind w) dd xs) : ∃ o, h.get? dd = some o ∧ KyDict w o xs := by
  (refine x3_6 hd ?_; clear hd; intro o es ep ho h1 h2 h3 _ h4)
  exact ⟨o, ho, es, ep, h1, h2, h3, h4⟩
section
variable {xs : List (Ky × Addr × Value)} {dd : Addr} {o : Obj} {k : Ky} {a : Addr}
theorem j_ky_get {p : Addr × Value} {Q : Value → Loc → Led → Prop} (O : X.Ok d) (hs : σ dd = some o) (ho : KyDict X.w o xs) (hx : KyKeys σ xs) (hk : KyOk σ k (.ref a)) (hp : atKey xs k = some p) (h : Q p.2 m σ) : J X (getItem (.ref dd) (.ref a)) m σ Q :=
  fun b s B S => wpAny_getItem_heap (knd := kyKind X.w) (by show X.A.units + 1 + 8 < cLine; have := O_units8 O; omega) (hk.at S) (kydAt S hs ho hx) hp (.mk B.tk S.toks h)
theorem j_tail_ky {value slice : PySem.Expr} {p : Addr × Value} {Q : Value → Loc → Led → Prop} (O : X.Ok d) (hs : σ dd = some o) (ho : KyDict X.w o xs) (hx : KyKeys σ xs) (hk : KyOk σ k (.ref a)) (hp : atKey xs k = some p)
    (he : subscripted slice false (.ref dd) (.ref a) = operate [.ref dd, .ref a] (getItem (.ref dd) (.ref a))) (h : Q p.2 m σ) : J X (subscriptTail value slice (.ref dd) (.ref a)) m σ Q :=
  fun b s B S => tail_any (kydAt S hs ho hx).typeIs PySem.F.slot_dict_getitem.lookup (j_ky_get O hs ho hx hk hp h b s B S) he
theorem j_ky_in {Q : Value → Loc → Led → Prop} (O : X.Ok d) (hs : σ dd = some o) (ho : KyDict X.w o xs) (hx : KyKeys σ xs) (hk : KyOk σ k (.ref a)) (h : Q (.bool (atKey xs k).isSome) m σ) : J X (compareOp .In (.ref a) (.ref dd)) m σ Q :=
  fun b s B S => wpAny_in_heap (knd := kyKind X.w) (by show X.A.units + 1 + 8 < cLine; have := O_units8 O; omega) (hk.at S) (notMods O S hs) (kydAt S hs ho hx) (.mk B.tk S.toks h)
theorem j_ky_set {v : Value} {Q : Unit → Loc → Led → Prop} (O : X.Ok d) (hs : σ dd = some o) (ho : KyDict X.w o xs) (hx : KyKeys σ xs) (hk : KyOk σ k (.ref a)) (hz : xs.length ≤ 16777216) (h : ∀ o', KyDict X.w o' (storedH xs k a v) → Q () m (σ.set dd o')) : J X (setItem (.ref dd) (.ref a) v) m σ Q :=
  fun b s B S => wpAny_setItem_heap (knd := kyKind X.w) (by show X.A.units + 1 + 8 < cLine; have := O_units8 O; omega) (hk.at S) (kydAt S hs ho hx) (fun h' hm hb => by
    (refine x1_2 (KyDict.of hm) ?_; intro o' ho' hd')
    exact .mk B.to (S.upd hs hb.extBut ho') (h o' hd')) (by simpa [sizeLine] using hz)
theorem wpAny_setdefault_heap {w : World} {A : Around} {E : Value → Shared → Prop} {v : Value} {Q : Value → Shared → Prop} (hu : A.units + 8 < cLine) (hkey : (kyKind w).is s.heap k a) (hm : s.heap.DictOfH (kyKind w) dd xs)
    (hthere : ∀ p, atKey xs k = some p → Q p.2 { s with toks := s.toks + k.dr.1 })
    (hnew : atKey xs k = none → ∀ h', h'.DictOfH (kyKind w) dd (xs ++ [(k, a, v)]) → Heap.SameBut dd s.heap h' → Q v { s with heap := h', toks := s.toks + k.dr.1 }) (hsz : xs.length ≤ sizeLine) :
    wpAny (model PR w) A (dictSetDefault dd (.ref a) v) Q E s := by
  (refine x3_6 hm ?_; clear hm; intro o es ep ho hc hd he his hn)
  unfold dictSetDefault
  try with_reducible refine wpAny_holding ?_
  refine wpAny_bind ((kyKind w).pyHash hu hkey ?_)
  refine wpAny_bind (wpAny_dictFind_heap (s := { s with toks := s.toks + k.dr.1 }) hu hkey ho hd he his hn ?_ ?_)
  · intro hno
    have hnot : k ∉ xs.map (·.1) := not_mem_keys_of_get hno
    refine wpAny_bind (wpAny_rule (wpAny_bind (wpAny_updateDictKeys (hz := by have e := size_of_entries he; exact (Nat.le_trans (Nat.le_of_eq e) hsz)) (s := { s with toks := s.toks + k.dr.1 }) ho hd (wpAny_pure (hnew (atKey_none_of_get hno) _ (i3_6 (_) ( _) ( ep + 1) ( Heap.get?_update_self _ ho (Obj.isFreed_of_dict (Obj.data_mapDictKeys hd _))) (
      hc.mapDictKeys _) ( Obj.data_mapDictKeys hd _) ( ?_) ( ?_) ( ?_)) (Heap.SameBut.update ..))))))
    · simp [he, entryOfKey]
    · intro x hx
      rcases List.mem_append.mp hx with hx | hx
      · exact (kyKind w).keeps (his x hx) ho hd (Heap.SameBut.update ..)
      · simp only [List.mem_singleton] at hx
        subst hx
        exact (kyKind w).keeps hkey ho hd (Heap.SameBut.update ..)
    · rw [List.map_append, List.nodup_append]
      refine (i0_3 (hn) ( by simp) ( ?_))
      intro x hx y hy
      simp only [List.map_cons, List.map_nil, List.mem_singleton] at hy
      subst hy
      exact fun e => hnot (e ▸ hx)
  · intro j p hj
    refine wpAny_bind (wpAny_dictEntries (s := { s with toks := s.toks + k.dr.1 }) ho hd ?_)
    rw [entry_at he j, hj]
    exact wpAny_bind (wpAny_rule (wpAny_pure (hthere p (atKey_of_get hn hj))))
theorem meets_setdefault_heap {w : World} (hd : (dd == sysModules) = false) (v : Value) : MeetsIn PR w (Builtin.«dict.setdefault» ⟨[.ref dd, .ref a, v], []⟩) (fun A R s => A.units + 1 + 8 < cLine ∧ ∃ k xs, (kyKind w).is s.heap k a ∧ s.heap.DictOfH (kyKind w) dd xs ∧ xs.length ≤ sizeLine ∧
    (∀ p, atKey xs k = some p → R (.ok (.ret p.2)) { s with toks := s.toks + k.dr.1 }) ∧
    (atKey xs k = none → ∀ h', h'.DictOfH (kyKind w) dd (xs ++ [(k, a, v)]) → Heap.SameBut dd s.heap h' → R (.ok (.ret v)) { s with heap := h', toks := s.toks + k.dr.1 })) :=
  .of_wp fun A R s z0 => x0_2 z0 fun hu z1 => x2_5 z1 fun k xs hk hm hz h1 h2 => by
    unfold Builtin.«dict.setdefault»
    refine wpAny_bind ?_
    unfold Builtin.Dict.keyAndDefault
    refine wpAny_bind (wpAny_notOrdered_dict hm.typeIs ?_)
    show wpAny _ _ (pure (dd, Value.ref a, some v)) _ _ s
    refine wpAny_pure ?_
    show wpAny _ _ (if (dd == sysModules) = true then _ else (dictSetDefault dd (.ref a) v >>= _)) _ _ s
    rw [if_neg (by first | exact ((hd).trans Bool.false_ne_true) | (rw [hd]; exact Bool.false_ne_true))]
    exact wpAny_bind (wpAny_setdefault_heap (by first | exact hu | (show A.units + 1 + 8 < cLine; exact hu) | omega) hk hm (fun p hp => wpAny_pure (i1_2 (_) ( rfl) ( h1 p hp))) (fun hn h' hm' hs' => wpAny_pure (i1_2 (v) ( rfl) ( h2 hn h' hm' hs'))) hz)
theorem j_setdefault {v : Value} {Q : Value → Loc → Led → Prop} (O : X.Ok d) (hs : σ dd = some o) (ho : KyDict X.w o xs) (hx : KyKeys σ xs) (hk : KyOk σ k (.ref a)) (hz : xs.length ≤ 16777216)
    (h1 : ∀ p, atKey xs k = some p → Q p.2 m σ) (h2 : atKey xs k = none → ∀ o', KyDict X.w o' (xs ++ [(k, a, v)]) → Q v m (σ.set dd o')) : J X (call (.builtin "dict.setdefault") [.ref dd, .ref a, v]) m σ Q :=
  fun b s B S => call_meetsIn PySem.F.slot_dict_setdefault (kydAt S hs ho hx).typeIs PySem.F.entry_dict_setdefault (PySem.F.args_dict_setdefault_3 _ _ _) (meets_setdefault_heap (notMods O S hs) v)
    ⟨by have := O_units8 O; first | omega | (show X.A.units + 1 + 8 < cLine; omega), k, xs, hk.at S, kydAt S hs ho hx, by simpa [sizeLine] using hz, fun p hp => .mk B.tk S.toks (h1 p hp), fun hn h' hm hb => by
      (refine x1_2 (KyDict.of hm) ?_; intro o' ho' hd')
      exact .mk B.to (S.upd hs hb.extBut ho') (h2 hn o' hd')⟩
theorem j_setdefault_m {pl : Sem Bool} {Q : Value × List Value → Loc → Led → Prop} (hs : σ dd = some o) {w : World} (ho : KyDict w o xs) (h : Q (.builtin "dict.setdefault", [.ref dd]) m σ) : J X (getMethod (.ref dd) "setdefault" pl) m σ Q :=
  fun b s B S => by
    (refine x2_3 ho ?_; clear ho; intro es ep he hd _)
    have hT : s.TypeIs (.ref dd) "dict" := (i1_2 (o) ( (S.nw _ _ hs).1) ( he.1))
    exact getMethod_builtin hT PySem.F.plainAttrs_dict PySem.F.slot_dict_setdefault PySem.F.type_dict_setdefault (fun b e => by cases e; exact (i1_2 (o) ( (S.nw _ _ hs).1) ( he.2.1))) (.mk B S h)
end

theorem j_make {C fI : Addr} {args : List Value} {Q : Value → Loc → Led → Prop} (O : X.Ok d) (hm : makesIn (hd.heap_1 X.w.params) C = true) (hi : findIn (hd.heap_1 X.w.params) (.ref C) "__init__" = some (some (.ref fI))) (hf : isFn (hd.heap_1 X.w.params) (.ref fI) = true)
    (h : ∀ x dx, σ x = none → σ dx = none → x ≠ dx → ∃ d', d' + 1 ≤ d ∧ Spec X.w fI (.ref x :: args) d' ((σ.set dx (dictOf [] 0)).set x (instObj C dx)) (fun v σ' => v = .none ∧ Q (.ref x) m σ')) : J X (call (.ref C) args) m σ Q := by
  intro b s B S
  refine call_cls S.fr O.kin S.newsAll hm hi hf fun x dx h' F' N' hlt hdx => ?_
  have Sx := S.ofAll (tk := s.toks) F' fun p hp => N' p (.tail _ (.tail _ hp))
  have nx := N' _ (.head _)
  have nd := N' _ (.tail _ (.head _))
  have fresh : ∀ y, (∀ p ∈ others X s.heap s.heap.objs.size, p.1 ≠ y) → y ≠ X.env.locals → X.h₀.get? y = none → σ y = none ∧ ∀ p ∈ X.fns, p.1 ≠ y := by
    intro y hy hL h0
    have key : s.heap.get? y = none := by
      cases q : s.heap.get? y with
      | none => rfl
      | some o => exact absurd rfl (hy (y, o) (mem_others.mpr (i0_4 (Nat.ne_of_lt (Heap.lt_size q)) ( hL) ( h0) ( q))))
    constructor
    · cases q : σ y with
      | none => rfl
      | some o => (first | exact nos ((S.nw _ _ q).1) key | exact nos key ((S.nw _ _ q).1) | (rw [(S.nw _ _ q).1] at key; cases key))
    · (intro p hp er1; obtain rfl := er1)
      (first | exact nos ((S.fn p hp).1) key | exact nos key ((S.fn p hp).1) | (rw [(S.fn p hp).1] at key; cases key))
  have fx := fresh x (fun p hp => Nat.ne_of_lt (Nat.lt_trans (hlt p hp) hdx)) nx.2.1 nx.2.2
  have fd := fresh dx (fun p hp => Nat.ne_of_lt (hlt p hp)) nd.2.1 nd.2.2
  have hne : x ≠ dx := Nat.ne_of_gt hdx
  (refine x1_2 (h x dx fx.1 fd.1 hne) ?_; intro d' hd' sp)
  have S2 : St X m ((σ.set dx (dictOf [] 0)).set x (instObj C dx)) { s with heap := h', toks := s.toks } := by
    refine ⟨Sx.fr, fun a o e => ?_, fun p hp => (i0_4 ((Sx.fn p hp).1) ( (Sx.fn p hp).2.1) ( (Sx.fn p hp).2.2.1) ( ?_))⟩
    · by_cases q : a = x
      · subst q; (first | exact nos (Led.set_self) e | exact nos e (Led.set_self) | (rw [Led.set_self] at e; cases e)); exact nx
      · rw [Led.set_ne q] at e
        by_cases q2 : a = dx
        · subst q2; (first | exact nos (Led.set_self) e | exact nos e (Led.set_self) | (rw [Led.set_self] at e; cases e)); exact nd
        · rw [Led.set_ne q2] at e; exact Sx.nw a o e
    · rw [Led.set_ne (fx.2 p hp), Led.set_ne (fd.2 p hp)]; exact (Sx.fn p hp).2.2.2
  have w1 : (Code.builtin "type.__call__" ⟨.ref C :: args, []⟩).envs = [] ∧ (Code.builtin "type.__call__" ⟨.ref C :: args, []⟩).weight = 1 ∧ (Code.builtin "type.__call__" ⟨.ref C :: args, []⟩).cUnits = 1 := (i0_3 (rfl) ( rfl) ( rfl))
  let X' : Cx := { X with A := X.A.under (.builtin "type.__call__" ⟨.ref C :: args, []⟩) }
  have O' : X'.Ok d' :=
    { kin := O.kin, top := O.top, hh := O.hh, kind := O.kind, glob := O.glob, bi := O.bi
      below := by
        (refine x7_3 O.below ?_; intro A₀ base fenv outer Lf oL mf B hA r)
        refine ⟨A₀, base, fenv, outer, Lf, oL, mf, B, ?_, r⟩
        show pushEnvs (Code.builtin "type.__call__" ⟨.ref C :: args, []⟩).envs X.A.frames = _
        rw [w1.1]; exact hA
      depth := by have := O.depth; have := w1.2.1; show X.A.depth + (Code.builtin "type.__call__" ⟨.ref C :: args, []⟩).weight + d' < 900; omega
      units := by have := O.units; have := w1.2.2; show X.A.units + (Code.builtin "type.__call__" ⟨.ref C :: args, []⟩).cUnits + 40 * d' < 9000; omega }
  have S3 : St X' m ((σ.set dx (dictOf [] 0)).set x (instObj C dx)) { s with heap := h', toks := s.toks } := ⟨S2.fr, S2.nw, S2.fn⟩
  refine codeAny_mono (sp X' m rfl O' b _ B.to S3) fun r s' q => ?_
  unfold Back at q
  unfold InitBack
  split at q
  · obtain ⟨B', m', σ', S', rfl, e, hQ⟩ := q
    exact ⟨e, .mk B' ⟨S'.fr, S'.nw, S'.fn⟩ hQ⟩
  · exact q.elim
  · exact q.elim
end
end
section
--FILE JA
theorem isStr_str (y name : Str) (t : Tok) : (Value.str name t).isStr y = decide (name = y) := by
  have : (Value.str name t).isStr y = (name == y) := rfl
  first | refine Mine.sb (this) ?_ | rw [this]
  by_cases h : name = y
  · subst h; simp
  · simp [h]
noncomputable def fnd (y : Str) (es : List DictEntry) : Option Value := (es.find? (·.key.isStr y)).map (·.val)
theorem getL_fnd {y : Str} {es : List DictEntry} (h : ∀ e ∈ es, e.refKey = false) : getL y es = some (fnd y es) := by
  unfold getL fnd
  cases q : es.find? (·.key.isStr y) with
  | some e => rfl
  | none =>
    have : es.any (·.refKey) = false := by
      rw [List.any_eq_false]; intro e he; rw [h e he]; simp
    simp [this]
theorem isStr_two {v : Value} {y name : Str} (h : v.isStr name = true) : v.isStr y = decide (name = y) := by
  cases v with
  | str s t =>
    rw [isStr_str] at h ⊢
    have := of_decide_eq_true h
    subst this; rfl
  | _ => cases h
theorem fnd_putL {name : Str} {hsh : Int} {t : Tok} {v : Value} (y : Str) : ∀ {es : List DictEntry}, fnd y (putL name hsh (.str name t) v es) = if name = y then some v else fnd y es
  | [] => by
    by_cases q : name = y <;> simp [putL, fnd, isStr_str, q]
  | e :: r => by
    have ih := fnd_putL (hsh := hsh) (t := t) (v := v) (name := name) y (es := r)
    by_cases hn : e.key.isStr name = true
    · have h2 := isStr_two (y := y) hn
      simp only [putL, hn, if_true]
      by_cases q : name = y
      · simp [fnd, h2, q]
      · simp [fnd, h2, q]
    · simp only [putL, hn]
      simp only [fnd, Bool.false_eq_true, if_false, List.find?_cons] at ih ⊢
      by_cases hy : e.key.isStr y = true
      · simp only [hy]
        have : name ≠ y := by rintro rfl; exact hn hy
        simp [this]
      · simp only [hy]; exact ih
theorem refKey_putL {name : Str} {hsh : Int} {t : Tok} {v : Value} : ∀ {es : List DictEntry}, (∀ e ∈ es, e.refKey = false) → ∀ e ∈ putL name hsh (.str name t) v es, e.refKey = false
  | [], _, e, he => by simp [putL] at he; subst he; rfl
  | d :: r, h, e, he => by
    unfold putL at he
    split at he
    · rcases List.mem_cons.mp he with rfl | he
      · exact h d (.head _)
      · exact h e (.tail _ he)
    · rcases List.mem_cons.mp he with rfl | he
      · exact h _ (.head _)
      · exact refKey_putL (fun e he => h e (.tail _ he)) e he
theorem length_putL {name : Str} {hsh : Int} {key v : Value} : ∀ {es : List DictEntry}, (putL name hsh key v es).length ≤ es.length + 1
  | [] => by simp [putL]
  | e :: r => by
    have := length_putL (name := name) (hsh := hsh) (key := key) (v := v) (es := r)
    unfold putL; split <;> simp at * <;> exact this

noncomputable def InsD (σ : Led) (x C dx : Addr) (fs : List (Str × Value)) : Prop :=
  ∃ es n, σ x = some (instObj C dx) ∧ σ dx = some (dictOf es n) ∧ es.length ≤ fs.length ∧ (∀ e ∈ es, e.refKey = false) ∧ ∀ y, fnd y es = fs.lookup y
theorem InsD.keep {σ σ' : Led} {x C dx : Addr} {fs : List (Str × Value)} (h : InsD σ x C dx fs) (h1 : ∀ o, σ x = some o → σ' x = some o) (h2 : ∀ o, σ dx = some o → σ' dx = some o) : InsD σ' x C dx fs := by
  (refine x2_3 h ?_; clear h; intro es n a b r)
  exact (i2_3 (es) ( n) ( h1 _ a) ( h2 _ b) ( r))
theorem InsD.new {σ : Led} {x C dx : Addr} (hne : x ≠ dx) : InsD ((σ.set dx (dictOf [] 0)).set x (instObj C dx)) x C dx [] :=
  (i2_5 ([]) ( 0) ( Led.set_self) ( by first | exact ((Led.set_ne hne.symm).trans Led.set_self) | (rw [Led.set_ne hne.symm]; exact Led.set_self)) ( by simp) ( by simp) ( fun y => rfl))
theorem InsD.x {σ : Led} {x C dx : Addr} {fs : List (Str × Value)} (h : InsD σ x C dx fs) : σ x = some (instObj C dx) := by (refine x2_2 h ?_; clear h; intro _ _ a _); exact a
theorem InsD.d {σ : Led} {x C dx : Addr} {fs : List (Str × Value)} (h : InsD σ x C dx fs) : ∃ es n, σ dx = some (dictOf es n) := by (refine x2_3 h ?_; clear h; intro es n _ b _); exact (i2_1 (es) ( n) ( b))

section
variable {X : Cx} {m : Loc} {σ : Led} {s : Shared} {d : Nat} {x C dx : Addr} {fs : List (Str × Value)} {name : Str}
theorem j_attr {v : Value} {attr : Option Value} {expr : Bool} {Q : Value → Loc → Led → Prop} (O : X.Ok d) (hi : InsD σ x C dx fs) (hl : fs.lookup name = some v)
    (hg : plainGet (hd.heap_1 X.w.params) C name = true) (hh : hasDictIn (hd.heap_1 X.w.params) C = true) (ha : findIn (hd.heap_1 X.w.params) (.ref C) name = some attr) (hn : noGet (hd.heap_1 X.w.params) attr = true)
    (hv : handedIn v = true) (h : Q v m σ) : J X (getAttr (.ref x) name expr) m σ Q := by
  (refine x2_5 hi ?_; clear hi; intro es n h1 h2 _ hr hf)
  exact j_get_own O h1 h2 hg hh ha hn (by rw [getL_fnd hr, hf, hl]) hv h
theorem j_meth {f : Addr} {pl : Sem Bool} {Q : Value × List Value → Loc → Led → Prop} (O : X.Ok d) (hi : InsD σ x C dx fs) (hl : fs.lookup name = none)
    (hg : plainGet (hd.heap_1 X.w.params) C name = true) (hf : findIn (hd.heap_1 X.w.params) (.ref C) name = some (some (.ref f))) (ht : isFn (hd.heap_1 X.w.params) (.ref f) = true)
    (h : Q (.ref f, [.ref x]) m σ) : J X (getMethod (.ref x) name pl) m σ Q := by
  (refine x2_5 hi ?_; clear hi; intro es n h1 h2 _ hr hq)
  exact j_method O h1 h2 hg hf ht (by rw [getL_fnd hr, hq, hl]) h
theorem j_setattr {v : Value} {Q : Unit → Loc → Led → Prop} (O : X.Ok d) (hi : InsD σ x C dx fs) (hne : x ≠ dx)
    (hs : findIn (hd.heap_1 X.w.params) (.ref C) "__setattr__" = some (some (.builtin "object.__setattr__"))) (hp : plainOver (hd.heap_1 X.w.params) C = true)
    (ht : takerIn (hd.heap_1 X.w.params) C name = some none) (hh : hasDictIn (hd.heap_1 X.w.params) C = true) (hz : fs.length < 500)
    (h : ∀ o', InsD (σ.set dx o') x C dx ((name, v) :: fs) → Q () m (σ.set dx o')) : J X (setAttr (.ref x) name v) m σ Q := by
  (refine x2_5 hi ?_; clear hi; intro es n h1 h2 hlen hr hf)
  refine j_setAttr O h1 h2 hs hp ht hh (by rw [getL_fnd hr]; rfl) (by exact (Nat.lt_of_lt_of_le (Nat.lt_of_le_of_lt hlen hz) (Nat.le_of_ble_eq_true rfl))) fun t => h _ ?_
  refine (i2_5 (_) ( _) ( by first | exact ((Led.set_ne hne).trans h1) | (rw [Led.set_ne hne]; exact h1)) ( Led.set_self) ( ?_) ( refKey_putL hr) ( fun y => ?_))
  · have := length_putL (name := name) (hsh := PyData.keyHash X.w.params name) (key := .str name t) (v := v) (es := es)
    simp; omega
  · rw [fnd_putL, hf, List.lookup_cons]
    by_cases q : name = y
    · subst q; simp
    · have : (y == name) = false := by simp [Ne.symm q]
      simp [q, this]

theorem j_args1 {e : PySem.Expr} {pos : Pos} {Q : List Value → Loc → Led → Prop} (he : starEach [e] X.env = [(false, eval e X.env)]) (h : J X (eval e X.env) m σ (fun v => Q [v])) : J X (spliced (backTo pos (starEach [e] X.env))) m σ Q := by
  rw [he]; exact j_spliced_one h
theorem j_args2 {e1 e2 : PySem.Expr} {pos : Pos} {Q : List Value → Loc → Led → Prop} (he : starEach [e1, e2] X.env = [(false, eval e1 X.env), (false, eval e2 X.env)])
    (h : J X (eval e1 X.env) m σ (fun v m' σ' => J X (eval e2 X.env) m' σ' (fun w => Q [v, w]))) : J X (spliced (backTo pos (starEach [e1, e2] X.env))) m σ Q := by
  rw [he]; exact j_spliced_two h
theorem j_args3 {e1 e2 e3 : PySem.Expr} {pos : Pos} {Q : List Value → Loc → Led → Prop} (he : starEach [e1, e2, e3] X.env = [(false, eval e1 X.env), (false, eval e2 X.env), (false, eval e3 X.env)])
    (h : J X (eval e1 X.env) m σ (fun v m' σ' => J X (eval e2 X.env) m' σ' (fun w m' σ' => J X (eval e3 X.env) m' σ' (fun z => Q [v, w, z])))) : J X (spliced (backTo pos (starEach [e1, e2, e3] X.env))) m σ Q := by
  rw [he]; exact j_spliced_three h
section
variable {f : Value} {first : List Value} {e1 e2 e3 : PySem.Expr} {pos : Pos} {Q : Value → Loc → Led → Prop}
theorem j_cK0 (O : X.Ok d) (hk : keepIn (hd.heap_1 X.w.params) f = true) (h : J X (call f (first ++ [])) m σ Q) : J X (callWith pos f first (backTo pos (starEach [] X.env)) []) m σ Q := j_callWith_K0 O hk h
theorem j_cK1 (O : X.Ok d) (hk : keepIn (hd.heap_1 X.w.params) f = true) (he : starEach [e1] X.env = [(false, eval e1 X.env)])
    (h : J X (eval e1 X.env) m σ (fun v m' σ' => J X (call f (first ++ [v])) m' σ' Q)) : J X (callWith pos f first (backTo pos (starEach [e1] X.env)) []) m σ Q :=
  j_callWith_K O hk (j_args1 he h) he rfl
theorem j_cK2 (O : X.Ok d) (hk : keepIn (hd.heap_1 X.w.params) f = true) (he : starEach [e1, e2] X.env = [(false, eval e1 X.env), (false, eval e2 X.env)]) (he2 : starEach [e2] X.env = [(false, eval e2 X.env)])
    (h : J X (eval e1 X.env) m σ (fun v m' σ' => J X (eval e2 X.env) m' σ' (fun w m' σ' => J X (call f (first ++ [v, w])) m' σ' Q))) : J X (callWith pos f first (backTo pos (starEach [e1, e2] X.env)) []) m σ Q :=
  j_callWith_K O hk (j_args2 he h) (he.trans (by rw [he2])) (by rw [he2]; rfl)
theorem j_cK3 (O : X.Ok d) (hk : keepIn (hd.heap_1 X.w.params) f = true) (he : starEach [e1, e2, e3] X.env = [(false, eval e1 X.env), (false, eval e2 X.env), (false, eval e3 X.env)]) (he2 : starEach [e2, e3] X.env = [(false, eval e2 X.env), (false, eval e3 X.env)])
    (h : J X (eval e1 X.env) m σ (fun v m' σ' => J X (eval e2 X.env) m' σ' (fun w m' σ' => J X (eval e3 X.env) m' σ' (fun z m' σ' => J X (call f (first ++ [v, w, z])) m' σ' Q)))) : J X (callWith pos f first (backTo pos (starEach [e1, e2, e3] X.env)) []) m σ Q :=
  j_callWith_K O hk (j_args3 he h) (he.trans (by rw [he2])) (by rw [he2]; rfl)
variable {id T : String}
theorem j_cB0 (h : J X (call (.builtin id) first) m σ Q) : J X (callWith pos (.builtin id) first (backTo pos (starEach [] X.env)) []) m σ Q := j_callWith_builtin0 h
theorem j_cB1 (he : starEach [e1] X.env = [(false, eval e1 X.env)])
    (h : J X (eval e1 X.env) m σ (fun v m' σ' => J X (call (.builtin id) (first ++ [v])) m' σ' Q)) : J X (callWith pos (.builtin id) first (backTo pos (starEach [e1] X.env)) []) m σ Q :=
  j_callWith_builtin (j_args1 he h) he rfl
theorem j_cB2 (he : starEach [e1, e2] X.env = [(false, eval e1 X.env), (false, eval e2 X.env)]) (he2 : starEach [e2] X.env = [(false, eval e2 X.env)])
    (h : J X (eval e1 X.env) m σ (fun v m' σ' => J X (eval e2 X.env) m' σ' (fun w m' σ' => J X (call (.builtin id) (first ++ [v, w])) m' σ' Q))) : J X (callWith pos (.builtin id) first (backTo pos (starEach [e1, e2] X.env)) []) m σ Q :=
  j_callWith_builtin (j_args2 he h) (he.trans (by rw [he2])) (by rw [he2]; rfl)
theorem j_cT1 (he : starEach [e1] X.env = [(false, eval e1 X.env)])
    (h : J X (eval e1 X.env) m σ (fun v m' σ' => J X (call (.type T) [v]) m' σ' Q)) : J X (callWith pos (.type T) [] (backTo pos (starEach [e1] X.env)) []) m σ Q :=
  j_callWith_type (j_args1 he h) he rfl
end
end
end
section
--FILE JF
noncomputable def Sub (σ σ' : Led) : Prop := ∀ a o, σ a = some o → σ' a = some o
theorem Sub.refl {σ : Led} : Sub σ σ := fun _ _ h => h
theorem Sub.trans {σ σ' σ'' : Led} (h : Sub σ σ') (h' : Sub σ' σ'') : Sub σ σ'' := fun a o e => h' a o (h a o e)
theorem Sub.new {σ : Led} {a : Addr} {o : Obj} (h : σ a = none) : Sub σ (σ.set a o) := fun b ob e => by
  rw [Led.set_ne (by rintro rfl; (first | exact nos (h) e | exact nos e (h) | (rw [h] at e; cases e)))]; exact e
theorem Src.ok_sub {S : Src} {σ σ' : Led} (h : Sub σ σ') (ok : S.ok σ) : S.ok σ' := by
  cases S with
  | list l xs => (refine x1_2 ok ?_; clear ok; intro o ho r); exact (i1_2 (o) ( h _ _ ho) ( r))
  | tup l xs => (refine x1_2 ok ?_; clear ok; intro o ho r); exact (i1_2 (o) ( h _ _ ho) ( r))
  | range l xs => obtain ⟨hn, o, ho, r⟩ := ok; exact ⟨hn, o, h _ _ ho, r⟩
  | str x t => trivial

theorem kind_eq {e e' : Env} {x : Str} {r : Option NameKind} (h : e = e') (k : e'.kindOf x = r) : e.kindOf x = r := h ▸ k
theorem swaps_eq {e e' : Env} {v : PySem.Expr} {t : Option PySem.Expr} {l : Nat} {r : Sem Bool} (h : e = e') (k : swapsWith v t l e' = r) : swapsWith v t l e = r := h ▸ k
theorem swapsSole_eq {e e' : Env} {v : PySem.Expr} {t : List PySem.Expr} {l : Nat} {r : Sem Bool} (h : e = e') (k : swapsWithSole t v l e' = r) : swapsWithSole t v l e = r := h ▸ k
theorem swapped_eq {e e' : Env} {v : PySem.Expr} {t : List PySem.Expr} {r : Sem (Option (List Str))} (h : e = e') (k : swappedStores t v e' = r) : swappedStores t v e = r := h ▸ k
theorem inter_eq {e e' : Env} {r : Bool} (h : e = e') (k : interactive e' = r) : interactive e = r := h ▸ k
theorem clos_eq {e e' : Env} {sc : Scope} {r : Sem (List (Str × Addr))} (h : e = e') (k : closureFor sc e' = r) : closureFor sc e = r := h ▸ k
theorem cells_eq {e e' : Env} {x : Str} {r : Option Addr} (h : e = e') (k : e'.cells.lookup x = r) : e.cells.lookup x = r := h ▸ k
theorem fold_eq {e e' : Env} {it : PySem.Expr} (h : e = e') (k : ∀ x, foldedSetIterable it e' x = Pure.pure x) : ∀ x, foldedSetIterable it e x = Pure.pure x := h ▸ k
theorem Loc.set_ne {m : Loc} {x y : Str} {v : Value} (h : y ≠ x) : m.set x v y = m y := by simp [Loc.set, h]
theorem Loc.set_self {m : Loc} {x : Str} {v : Value} : m.set x v x = some v := by simp [Loc.set]

theorem ifF' {a b : Prop} (h : b) : if false = true then a else b := h
theorem ifT' {a b : Prop} (h : a) : if true = true then a else b := h

theorem ifNT' {a b : Prop} (h : b) : if (!true) = true then a else b := h
theorem ifNF' {a b : Prop} (h : a) : if (!false) = true then a else b := h

theorem ints_reads {h : Heap} {vs : List Value} {ns : List Int} (hs : IntsAre vs ns) : ReadsAll h vs (ns.map .int) [] := by
  induction hs with
  | nil => exact .nil
  | cons n t hi ih => exact .cons (as := []) (bs := []) (.int n t) ih
theorem ints_eqv : ∀ ns ms : List Int, PyData.eqvAll (ns.map .int) (ms.map .int) = decide (ns = ms)
  | [], [] => rfl
  | [], _ :: _ => by simp [PyData.eqvAll]
  | _ :: _, [] => by simp [PyData.eqvAll]
  | a :: r, b :: q => by
    have ih := ints_eqv r q
    simp only [List.map_cons, PyData.eqvAll, ih, List.cons.injEq, Bool.decide_and]
    congr 1
theorem ints_lay : ∀ ns : List Int, PyData.canLayAll0 (ns.map .int) = true
  | [] => by simp [PyData.canLayAll0]
  | a :: r => by simp [PyData.canLayAll0, PyData.canLay0, ints_lay r]
theorem ints_depth : ∀ ns : List Int, PyData.depthAll (ns.map .int) = 0
  | [] => by simp [PyData.depthAll]
  | a :: r => by simp [PyData.depthAll, PyData.depth, ints_depth r]

section
variable {X : Cx} {m : Loc} {σ : Led} {s : Shared} {d : Nat}

theorem j_eq_ints {l k : Addr} {vs ws : List Value} {ns ms : List Int} {n n2 : Nat} {Q : Value → Loc → Led → Prop} (O : X.Ok d) (hl : σ l = some (lstOf vs n)) (hk : σ k = some (lstOf ws n2)) (hi : IntsAre vs ns) (hj : IntsAre ws ms)
    (h : Q (.bool (decide (ns = ms))) m σ) : J X (compareOp .Eq (.ref l) (.ref k)) m σ Q :=
  eqBool_reads (da := .list (ns.map .int)) (db := .list (ms.map .int)) O (fun s S => .list (S.nw _ _ hl).1 rfl rfl (ints_reads hi)) (fun s S => .list (S.nw _ _ hk).1 rfl rfl (ints_reads hj))
    (by simp [PyData.canLay0, ints_lay]) (by simp [PyData.canLay0, ints_lay]) (by simp [PyData.depth, ints_depth]) (by simpa [PyData.eqv, ints_eqv] using h)
theorem j_ne_ints {l k : Addr} {vs ws : List Value} {ns ms : List Int} {n n2 : Nat} {Q : Value → Loc → Led → Prop} (O : X.Ok d) (hl : σ l = some (lstOf vs n)) (hk : σ k = some (lstOf ws n2)) (hi : IntsAre vs ns) (hj : IntsAre ws ms)
    (h : Q (.bool (!decide (ns = ms))) m σ) : J X (compareOp .NotEq (.ref l) (.ref k)) m σ Q :=
  neBool_reads (da := .list (ns.map .int)) (db := .list (ms.map .int)) O (fun s S => .list (S.nw _ _ hl).1 rfl rfl (ints_reads hi)) (fun s S => .list (S.nw _ _ hk).1 rfl rfl (ints_reads hj))
    (by simp [PyData.canLay0, ints_lay]) (by simp [PyData.canLay0, ints_lay]) (by simp [PyData.depth, ints_depth]) (by simpa [PyData.eqv, ints_eqv] using h)
theorem j_eq_ky {k l : Ky} {v u : Value} {Q : Value → Loc → Led → Prop} (O : X.Ok d) (hk : KyOk σ k v) (hl : KyOk σ l u) (h : Q (.bool (decide (k = l))) m σ) : J X (compareOp .Eq v u) m σ Q :=
  eqBool_reads (da := k.py.1) (db := l.py.1) O (fun s S => (bears_reads k).1 _ (hk.1.mono fun a o e => (S.nw a o e).1)) (fun s S => (bears_reads l).1 _ (hl.1.mono fun a o e => (S.nw a o e).1))
    (py_lay k hk.2.1).1 (py_lay l hl.2.1).1 (by have := (py_depth k).1; have := hk.2.2; omega) (by first | exact (((py_eqv k l hk.2.1 hl.2.1).1).trans h) | (rw [(py_eqv k l hk.2.1 hl.2.1).1]; exact h))
theorem j_ne_ky {k l : Ky} {v u : Value} {Q : Value → Loc → Led → Prop} (O : X.Ok d) (hk : KyOk σ k v) (hl : KyOk σ l u) (h : Q (.bool (!decide (k = l))) m σ) : J X (compareOp .NotEq v u) m σ Q :=
  neBool_reads (da := k.py.1) (db := l.py.1) O (fun s S => (bears_reads k).1 _ (hk.1.mono fun a o e => (S.nw a o e).1)) (fun s S => (bears_reads l).1 _ (hl.1.mono fun a o e => (S.nw a o e).1))
    (py_lay k hk.2.1).1 (py_lay l hl.2.1).1 (by have := (py_depth k).1; have := hk.2.2; omega) (by first | exact (((py_eqv k l hk.2.1 hl.2.1).1).trans h) | (rw [(py_eqv k l hk.2.1 hl.2.1).1]; exact h))

theorem j_str {x : Str} {k : Nat} {pos : Pos} {Q : Value → Loc → Led → Prop} (h : ∀ t, Q (.str x t) m σ) : J X (eval (.Constant (.str x) k pos) X.env) m σ Q := fun b s B S => wpAny_Constant_str (.mk B.tk S.toks (h _))
theorem j_none {k : Nat} {pos : Pos} {Q : Value → Loc → Led → Prop} (h : Q .none m σ) : J X (eval (.Constant .none k pos) X.env) m σ Q := fun b s B S => wpAny_Constant_none (.mk B S h)
theorem j_bool {c : Bool} {k : Nat} {pos : Pos} {Q : Value → Loc → Led → Prop} (h : Q (.bool c) m σ) : J X (eval (.Constant (.bool c) k pos) X.env) m σ Q := fun b s B S => wpAny_Constant_bool (.mk B S h)

theorem j_args0 {pos : Pos} {Q : List Value → Loc → Led → Prop} (h : Q [] m σ) : J X (spliced (backTo pos (starEach [] X.env))) m σ Q := j_spliced_nil h
theorem j_mkTuple {vs : List Value} {Q : Value → Loc → Led → Prop} (h : ∀ a, σ a = none → Q (.ref a) m (σ.set a (tupOf vs 0))) (hsz : (vs.length ≤ 16777216) = true) : J X (newTuple vs) m σ Q := j_newTuple h (by simpa [sizeLine] using hsz)
theorem j_mkList {vs : List Value} {Q : Value → Loc → Led → Prop} (h : ∀ a, σ a = none → Q (.ref a) m (σ.set a (lstOf vs 0))) (hsz : (vs.length ≤ 16777216) = true) : J X (newList vs) m σ Q := j_newList h (by simpa [sizeLine] using hsz)

theorem j_bindPairL {x y : Str} {px py : Pos} {k : Nat} {pos : Pos} {l : Addr} {n : Nat} {v w : Value} {Q : Unit → Loc → Led → Prop} (O : X.Ok d) (hs : σ l = some (lstOf [v, w] n))
    (hx : X.env.kindOf x = some .local) (hy : X.env.kindOf y = some .local) (h : Q () ((m.set x v).set y w) σ) : J X (assign (.Tuple [.Name x px, .Name y py] k pos) X.env (.ref l)) m σ Q := by
  have e : assignEach [PySem.Expr.Name x px, PySem.Expr.Name y py] X.env = [(false, assign (.Name x px) X.env), (false, assign (.Name y py) X.env)] := rfl
  refine j_assign_Tuple (by rw [e]; rfl) ?_
  first | refine Mine.sb (e) ?_ | rw [e]
  refine j_unpackItems_lst O hs lstO rfl ?_
  refine j_assignInOrder_cons (j_assign_Name (j_store_local O hx ?_))
  exact j_assignInOrder_cons (j_assign_Name (j_store_local O hy (j_assignInOrder_nil h)))
theorem j_name_free {x : Str} {pos : Pos} {v : Value} {c : Addr} {o : Obj} {Q : Value → Loc → Led → Prop} (O : X.Ok d) (hx : X.env.kindOf x = some .free) (hc : X.env.cells.lookup x = some c) (hs : σ c = some o) (ho : o.data = .cell (some v)) (h : Q v m σ) (hd : (x == ("__debug__" : Str)) = false) (hn : (x == ("__classdict__" : Str)) = false) : J X (eval (.Name x pos) X.env) m σ Q :=
  fun b s B S => wpAny_Name (hd := hd) (wpAny_loadName_free (hn := hn) O.kind hx hc (i1_2 (o) ( (S.nw _ _ hs).1) ( ho)) (.mk B S h))
theorem j_mkDict {pos : Pos} {Q : Value → Loc → Led → Prop} (h : ∀ a, σ a = none → Q (.ref a) m (σ.set a (dictOf [] 0))) : J X (eval (.Dict [] [] pos) X.env) m σ Q :=
  fun b s B S => wpAny_Dict_empty (.mk B.heap (S.push (tk := s.toks)) (h _ (S.fresh (Nat.le_refl _)).1))
theorem j_lez {k : Nat} {t u : Tok} {Q : Value → Loc → Led → Prop} (h : Q (.bool true) m σ) : J X (compareOp .LtE (.int 0 t) (.int k u)) m σ Q := j_le (by
  have : decide ((0 : Int) ≤ (k : Nat)) = true := decide_eq_true (by exact (Int.natCast_nonneg _))
  rw [this]; exact h)
theorem j_ltn {k n : Nat} {t u : Tok} {Q : Value → Loc → Led → Prop} (hk : k < n) (h : Q (.bool true) m σ) : J X (compareOp .Lt (.int k t) (.int n u)) m σ Q := j_lt (by
  have : decide ((k : Int) < (n : Nat)) = true := decide_eq_true (by exact (Int.ofNat_lt.mpr hk))
  rw [this]; exact h)
theorem j_at_str {value slice : PySem.Expr} {x : Str} {t u : Tok} {i : Int} (k : Nat) {c : Nat} {Q : Value → Loc → Led → Prop} (hi : i = (k : Nat)) (_ : True) (hc : x.cps[k]? = some c) (hk : k < 1000000)
    (h : ∀ t, Q (.str ⟨#[c]⟩ t) m σ) (he : subscripted slice false (.str x t) (.int i u) = operate [.str x t, .int i u] (getItem (.str x t) (.int i u))) : J X (subscriptTail value slice (.str x t) (.int i u)) m σ Q := by
  subst hi
  exact fun b s B S => tail_any (T := "str") (by show s.TypeIs (.str x t) "str"; rfl) slot_str_getitem.lookup (j_getItem_str hk hc h b s B S) he
theorem j_at_list {value slice : PySem.Expr} {l : Addr} {vs : List Value} {n : Nat} {i : Int} (k : Nat) {t : Tok} {v : Value} {Q : Value → Loc → Led → Prop} (hi : i = (k : Nat)) (hs : σ l = some (lstOf vs n)) (hv : vs[k]? = some v) (hk : k < 1000000)
    (h : Q v m σ) (he : subscripted slice false (.ref l) (.int i t) = operate [.ref l, .int i t] (getItem (.ref l) (.int i t))) : J X (subscriptTail value slice (.ref l) (.int i t)) m σ Q := by
  subst hi; exact j_tail_list hs lstO hv hk he h
theorem j_at_tup {value slice : PySem.Expr} {l : Addr} {vs : List Value} {n : Nat} {i : Int} (k : Nat) {t : Tok} {v : Value} {Q : Value → Loc → Led → Prop} (hi : i = (k : Nat)) (hs : σ l = some (tupOf vs n)) (hv : vs[k]? = some v) (hk : k < 1000000)
    (h : Q v m σ) (he : subscripted slice false (.ref l) (.int i t) = operate [.ref l, .int i t] (getItem (.ref l) (.int i t))) : J X (subscriptTail value slice (.ref l) (.int i t)) m σ Q := by
  subst hi; exact j_tail_tup hs hv hk he h
theorem j_from_tup {value slice : PySem.Expr} {t sl : Addr} {vs : List Value} {n : Nat} {i : Int} (a : Nat) {u : Tok} {Q : Value → Loc → Led → Prop} (hi : i = (a : Nat)) (hs : σ t = some (tupOf vs n)) (hsl : σ sl = some (sliceObj (.int i u) .none)) (h1 : 1 ≤ a) (ha : a ≤ vs.length) (hz : vs.length ≤ 16777216)
    (h : ∀ c, σ c = none → Q (.ref c) m (σ.set c (tupOf (vs.drop a) 0))) (he : subscripted slice false (.ref t) (.ref sl) = operate [.ref sl, .ref t] (getItem (.ref t) (.ref sl))) : J X (subscriptTail value slice (.ref t) (.ref sl)) m σ Q := by
  subst hi; exact j_tail_tupFrom hs hsl h1 ha hz he h

noncomputable def MapEnd (X : Cx) (d : Nat) (scope : Scope) (cl : List (Str × Addr)) (target elt : PySem.Expr) (σ1 : Led) (S : Src) (P : Nat → Value → Prop) : Prop :=
  ∀ X' i v mc σ2, X'.Ok d → X'.w = X.w → X'.env = compEnvC scope cl X'.env.locals X.env → i < S.size → S.item i v → Sub σ1 σ2 →
    J X' (assign target X'.env v) mc σ2 (fun _ m2 σ3 => J X' (eval elt X'.env) m2 σ3 (fun y _ σ4 => P i y ∧ Sub σ1 σ4))

theorem j_map {elt target iter : PySem.Expr} {scope : Scope} {cl : List (Str × Addr)} {pos : Pos} {Q : Value → Loc → Led → Prop}
    (O : X.Ok d) (hclos : closureFor scope X.env = Pure.pure cl) (hcell : ∀ y ∈ scope.names, y.2 ≠ .cell) (hkind : scope.kind = .function) (hnames : ∀ y ∈ scope.names, y.2 = .local → scope.names.lookup y.1 = some .local) (hs : ∀ x, foldedSetIterable iter X.env x = Pure.pure x)
    (h : J X (eval iter X.env) m σ (fun xv m1 σ1 => ∃ S : Src, xv = S.val ∧ S.ok σ1 ∧ S.size ≤ 16777216 ∧ ∃ P : Nat → Value → Prop, MapEnd X d scope cl target elt σ1 S P ∧
      (∀ ys σ2 D k, ys.length = S.size → (∀ i y, ys[i]? = some y → P i y) → Sub σ1 σ2 → σ2 D = none → Q (.ref D) m1 (σ2.set D (lstOf ys k))))) : J X (eval (.ListComp elt [⟨target, iter, [], 0⟩] scope pos) X.env) m σ Q := by
  refine j_ListComp O hclos hcell hkind hnames hs (h.mono ?_)
  (intro xv m1 σ1 zt1; obtain ⟨S, e, ok, hz, P, turn, fin⟩ := zt1)
  refine ⟨S, e, ok, fun i ys _ σ2 => i ≤ S.size ∧ ys.length = i ∧ (∀ j y, ys[j]? = some y → P j y) ∧ Sub σ1 σ2, (i0_4 (Nat.zero_le _) ( rfl) ( fun j y e => (by simp at e)) ( Sub.refl)), fun i ys _ σ2 h => (by omega), ?_, fun ys _ σ2 D k h _ hD => fin ys σ2 D k h.2.1 h.2.2.1 h.2.2.2 hD⟩
  intro X' i v ys mc σ2 O' hw hE hi hv hI ok'
  refine (turn X' i v mc σ2 O' hw hE hi hv hI.2.2.2).mono fun _ m2 σ3 h2 => j_tests_nil ?_
  simp only [if_true]
  refine h2.mono fun y m4 σ4 h4 => ⟨(i0_4 (hi) ( by simp [hI.2.1]) ( fun j z hz => ?_) ( h4.2)), Src.ok_sub h4.2 ok⟩
  rw [List.getElem?_append] at hz
  split at hz
  · exact hI.2.2.1 j z hz
  · rename_i hlt
    have hij : j = i := by
      rcases Nat.lt_or_ge (j - ys.length) 1 with h | h
      · have := hI.2.1; omega
      · (first | exact nos (List.getElem?_eq_none (by simpa using h)) hz | exact nos hz (List.getElem?_eq_none (by simpa using h)) | (rw [List.getElem?_eq_none (by simpa using h)] at hz; cases hz))
    subst hij
    have : j - ys.length = 0 := by have := hI.2.1; omega
    rw [this] at hz
    simp at hz; subst hz; exact h4.1

theorem j_mapAssign {elt target iter : PySem.Expr} {y : Str} {py : Pos} {scope : Scope} {cl : List (Str × Addr)} {pos spos : Pos} {Q : Flow → Loc → Led → Prop}
    (O : X.Ok d) (hsw : swapsWith (.ListComp elt [⟨target, iter, [], 0⟩] scope pos) (some (.Name y py)) spos.line X.env = Pure.pure true)
    (hclos : closureFor scope X.env = Pure.pure cl) (hcell : ∀ y ∈ scope.names, y.2 ≠ .cell) (hkind : scope.kind = .function) (hnames : ∀ y ∈ scope.names, y.2 = .local → scope.names.lookup y.1 = some .local) (hs : ∀ x, foldedSetIterable iter X.env x = Pure.pure x)
    (hy : X.env.kindOf y = some .local)
    (h : J X (eval iter X.env) m σ (fun xv m1 σ1 => ∃ S : Src, xv = S.val ∧ S.ok σ1 ∧ S.size ≤ 16777216 ∧ ∃ P : Nat → Value → Prop, MapEnd X d scope cl target elt σ1 S P ∧
      (∀ ys σ2 D k, ys.length = S.size → (∀ i y, ys[i]? = some y → P i y) → Sub σ1 σ2 → σ2 D = none → Q .next (m1.set y (.ref D)) (σ2.set D (lstOf ys k))))) : J X (exec (.Assign [.Name y py] (.ListComp elt [⟨target, iter, [], 0⟩] scope pos) spos) X.env) m σ Q := by
  refine j_Assign_ListComp O hsw hclos hcell hkind hnames hs hy (h.mono ?_)
  (intro xv m1 σ1 zt1; obtain ⟨S, e, ok, hz, P, turn, fin⟩ := zt1)
  refine ⟨S, e, ok, fun i ys _ σ2 => i ≤ S.size ∧ ys.length = i ∧ (∀ j y, ys[j]? = some y → P j y) ∧ Sub σ1 σ2, (i0_4 (Nat.zero_le _) ( rfl) ( fun j y e => (by simp at e)) ( Sub.refl)), fun i ys _ σ2 h => (by omega), ?_, fun ys _ σ2 D k h _ hD => fin ys σ2 D k h.2.1 h.2.2.1 h.2.2.2 hD⟩
  intro X' i v ys mc σ2 O' hw hE hi hv hI ok'
  refine (turn X' i v mc σ2 O' hw hE hi hv hI.2.2.2).mono fun _ m2 σ3 h2 => j_tests_nil ?_
  simp only [if_true]
  refine h2.mono fun y m4 σ4 h4 => ⟨(i0_4 (hi) ( by simp [hI.2.1]) ( fun j z hz => ?_) ( h4.2)), Src.ok_sub h4.2 ok⟩
  rw [List.getElem?_append] at hz
  split at hz
  · exact hI.2.2.1 j z hz
  · rename_i hlt
    have hij : j = i := by
      rcases Nat.lt_or_ge (j - ys.length) 1 with h | h
      · have := hI.2.1; omega
      · (first | exact nos (List.getElem?_eq_none (by simpa using h)) hz | exact nos hz (List.getElem?_eq_none (by simpa using h)) | (rw [List.getElem?_eq_none (by simpa using h)] at hz; cases hz))
    subst hij
    have : j - ys.length = 0 := by have := hI.2.1; omega
    rw [this] at hz
    simp at hz; subst hz; exact h4.1

theorem j_filter {target iter elt : PySem.Expr} {c : List PySem.Expr} {scope : Scope} {cl : List (Str × Addr)} {pos : Pos} {Q : Value → Loc → Led → Prop}
    (O : X.Ok d) (hclos : closureFor scope X.env = Pure.pure cl) (hcell : ∀ y ∈ scope.names, y.2 ≠ .cell) (hkind : scope.kind = .function) (hnames : ∀ y ∈ scope.names, y.2 = .local → scope.names.lookup y.1 = some .local) (hs : ∀ x, foldedSetIterable iter X.env x = Pure.pure x)
    (h : J X (eval iter X.env) m σ (fun xv m1 σ1 => ∃ (S : Src) (vs : List Value), xv = S.val ∧ S.ok σ1 ∧ S.size = vs.length ∧ (∀ i v, S.item i v → vs[i]? = some v) ∧ vs.length ≤ 16777216 ∧ ∃ p : Value → Bool,
      (∀ X' v mc σ2, X'.Ok d → X'.w = X.w → X'.env = compEnvC scope cl X'.env.locals X.env → v ∈ vs → Sub σ1 σ2 →
        J X' (assign target X'.env v) mc σ2 (fun _ m2 σ3 => J X' (tests c X'.env) m2 σ3 (fun ok m3 σ4 => ok = p v ∧ if p v = true then J X' (eval elt X'.env) m3 σ4 (fun y _ σ5 => y = v ∧ Sub σ1 σ5) else Sub σ1 σ4))) ∧
      (∀ σ2 D k, Sub σ1 σ2 → σ2 D = none → Q (.ref D) m1 (σ2.set D (lstOf (vs.filter p) k))))) : J X (eval (.ListComp elt [⟨target, iter, c, 0⟩] scope pos) X.env) m σ Q := by
  refine j_ListComp O hclos hcell hkind hnames hs (h.mono ?_)
  (intro xv m1 σ1 zt1; obtain ⟨S, vs, e, ok, hz, hit, hlen, p, turn, fin⟩ := zt1)
  refine ⟨S, e, ok, fun i ys _ σ2 => i ≤ S.size ∧ ys = (vs.take i).filter p ∧ Sub σ1 σ2, (i0_3 (Nat.zero_le _) ( by simp) ( Sub.refl)), fun i ys _ σ2 h => ?_, ?_, fun ys _ σ2 D k h _ hD => ?_⟩
  · first | refine Mine.sb (h.2.1) ?_ | rw [h.2.1]
    exact Nat.le_trans (List.length_filter_le ..) (Nat.le_trans (List.length_take_le ..) (by omega))
  · intro X' i v ys mc σ2 O' hw hE hi hv hI ok'
    have hvi := hit i v hv
    have hmem : v ∈ vs := List.mem_of_getElem? hvi
    have htk : vs.take (i + 1) = vs.take i ++ [v] := by rw [List.take_add_one, hvi]; rfl
    refine (turn X' v mc σ2 O' hw hE hmem hI.2.2).mono fun _ m2 σ3 h2 => h2.mono fun okb m3 σ4 h3 => ?_
    (refine x0_2 h3 ?_; clear h3; intro er1 h3; obtain rfl := er1)
    by_cases hp : p v = true
    · rw [if_pos hp] at h3
      simp only [hp, if_true]
      refine h3.mono fun y m4 σ5 h5 => ⟨(i0_3 (hi) ( ?_) ( h5.2)), Src.ok_sub h5.2 ok⟩
      rw [h5.1, hI.2.1, htk, List.filter_append]
      simp [hp]
    · rw [if_neg hp] at h3
      simp only [hp]
      refine ⟨(i0_3 (hi) ( ?_) ( h3)), Src.ok_sub h3 ok⟩
      rw [hI.2.1, htk, List.filter_append]
      simp [hp]
  · have := fin σ2 D k h.2.2 hD
    rw [h.2.1, hz, List.take_length]
    exact this
end
theorem Loc.get_ne {m : Loc} {x y : Str} {v : Value} {o : Option Value} (h : y ≠ x) (k : m y = o) : m.set x v y = o := (Loc.set_ne h).trans k
theorem Led.get_ne {σ : Led} {a b : Addr} {v : Obj} {o : Option Obj} (h : b ≠ a) (k : σ b = o) : σ.set a v b = o := (Led.set_ne h).trans k
theorem h_execs_cons {X : Cx} {m : Loc} {σ : Led} {st : Stmt} {st2 : Stmt} {rest : List Stmt} {Q : Flow → Loc → Led → Prop}
    (h : let m0 := m; let Q0 := Q; let Q1 : Flow → Loc → Led → Prop := (fun f m' σ' => match f with | .next => J X (execs (st2 :: rest) X.env) m' σ' Q0 | f => Q0 f m' σ'); J X (exec st X.env) m0 σ Q1) : J X (execs (st :: st2 :: rest) X.env) m σ Q := j_execs_cons h
theorem h_execs_last {X : Cx} {m : Loc} {σ : Led} {st : Stmt} {Q : Flow → Loc → Led → Prop} (h : let m0 := m; let Q0 := Q; J X (exec st X.env) m0 σ Q0) : J X (execs [st] X.env) m σ Q := j_execs_last h
end
section
--FILE JU
section
variable {X : Cx} {m : Loc} {σ : Led} {s : Shared} {d : Nat}
theorem j_bindSwap2 {x y : Str} {v w : Value} {Q : Unit → Loc → Led → Prop} (O : X.Ok d) (hx : X.env.kindOf x = some .local) (hy : X.env.kindOf y = some .local) (h : Q () ((m.set y w).set x v) σ) :
    J X (assignInOrder ((([x, y] : List Str).reverse).map fun n => bindName X.env n) (([v, w] : List Value).reverse)) m σ Q := by
  show J X (assignInOrder [bindName X.env y, bindName X.env x] [w, v]) m σ Q
  refine j_assignInOrder_cons (j_bindName (j_store_local O hy ?_))
  exact j_assignInOrder_cons (j_bindName (j_store_local O hx (j_assignInOrder_nil h)))
theorem j_filterAssign {target iter elt : PySem.Expr} {y : Str} {py spos : Pos} {c : List PySem.Expr} {scope : Scope} {cl : List (Str × Addr)} {pos : Pos} {Q : Flow → Loc → Led → Prop}
    (O : X.Ok d) (hsw : swapsWith (.ListComp elt [⟨target, iter, c, 0⟩] scope pos) (some (.Name y py)) spos.line X.env = Pure.pure true)
    (hclos : closureFor scope X.env = Pure.pure cl) (hcell : ∀ y ∈ scope.names, y.2 ≠ .cell) (hkind : scope.kind = .function) (hnames : ∀ y ∈ scope.names, y.2 = .local → scope.names.lookup y.1 = some .local) (hs : ∀ x, foldedSetIterable iter X.env x = Pure.pure x)
    (hy : X.env.kindOf y = some .local)
    (h : J X (eval iter X.env) m σ (fun xv m1 σ1 => ∃ (S : Src) (vs : List Value), xv = S.val ∧ S.ok σ1 ∧ S.size = vs.length ∧ (∀ i v, S.item i v → vs[i]? = some v) ∧ vs.length ≤ 16777216 ∧ ∃ p : Value → Bool,
      (∀ X' v mc σ2, X'.Ok d → X'.w = X.w → X'.env = compEnvC scope cl X'.env.locals X.env → v ∈ vs → Sub σ1 σ2 →
        J X' (assign target X'.env v) mc σ2 (fun _ m2 σ3 => J X' (tests c X'.env) m2 σ3 (fun ok m3 σ4 => ok = p v ∧ if p v = true then J X' (eval elt X'.env) m3 σ4 (fun y _ σ5 => y = v ∧ Sub σ1 σ5) else Sub σ1 σ4))) ∧
      (∀ σ2 D k, Sub σ1 σ2 → σ2 D = none → Q .next (m1.set y (.ref D)) (σ2.set D (lstOf (vs.filter p) k))))) : J X (exec (.Assign [.Name y py] (.ListComp elt [⟨target, iter, c, 0⟩] scope pos) spos) X.env) m σ Q := by
  refine j_Assign_ListComp O hsw hclos hcell hkind hnames hs hy (h.mono ?_)
  (intro xv m1 σ1 zt1; obtain ⟨S, vs, e, ok, hz, hit, hlen, p, turn, fin⟩ := zt1)
  refine ⟨S, e, ok, fun i ys _ σ2 => i ≤ S.size ∧ ys = (vs.take i).filter p ∧ Sub σ1 σ2, (i0_3 (Nat.zero_le _) ( by simp) ( Sub.refl)), fun i ys _ σ2 h => ?_, ?_, fun ys _ σ2 D k h _ hD => ?_⟩
  · first | refine Mine.sb (h.2.1) ?_ | rw [h.2.1]
    exact Nat.le_trans (List.length_filter_le ..) (Nat.le_trans (List.length_take_le ..) (by omega))
  · intro X' i v ys mc σ2 O' hw hE hi hv hI ok'
    have hvi := hit i v hv
    have hmem : v ∈ vs := List.mem_of_getElem? hvi
    have htk : vs.take (i + 1) = vs.take i ++ [v] := by rw [List.take_add_one, hvi]; rfl
    refine (turn X' v mc σ2 O' hw hE hmem hI.2.2).mono fun _ m2 σ3 h2 => h2.mono fun okb m3 σ4 h3 => ?_
    (refine x0_2 h3 ?_; clear h3; intro er1 h3; obtain rfl := er1)
    by_cases hp : p v = true
    · rw [if_pos hp] at h3
      simp only [hp, if_true]
      refine h3.mono fun y m4 σ5 h5 => ⟨(i0_3 (hi) ( ?_) ( h5.2)), Src.ok_sub h5.2 ok⟩
      rw [h5.1, hI.2.1, htk, List.filter_append]
      simp [hp]
    · rw [if_neg hp] at h3
      simp only [hp]
      refine ⟨(i0_3 (hi) ( ?_) ( h3)), Src.ok_sub h3 ok⟩
      rw [hI.2.1, htk, List.filter_append]
      simp [hp]
  · have := fin σ2 D k h.2.2 hD
    rw [h.2.1, hz, List.take_length]
    exact this
end
end
section
--FILE JV
section
variable {prog : Program} {w : World} {A : Around} {E : Value → Shared → Prop} {s : Shared}

theorem sort_falling {κ : PyProof.Rows.KeyKind} (hO : κ.OneLt) {a : Addr} {vs : List Value} {n : Nat} {P : Fin → Shared → Prop} (ho : s.heap.get? a = some (seqObj "list" vs.toArray n))
    (h0 : PyProof.Rows.KeysOf κ (pairsOf vs)) (hkk : ∀ v₁ v₂ rest, vs = v₁ :: v₂ :: rest → keyKind' (v₁ :: v₂ :: rest).toArray = pure oneType') (h64 : vs.length < 64)
    (h : ∀ st' : SortSt, (arrOf st').Perm (pairsOf vs) → SortedToK κ (arrOf st') (pairsOf vs).size → P (.done (.ret .none)) { s with heap := sortedHeap s.heap a vs ((arrOf st').map (·.2)).reverse }) :
    wpAny (model prog w) A (Builtin.«list.sort» ⟨[.ref a], [(Str.ofString "reverse", .bool true)]⟩) P E s := by
  first | refine Mine.sb (list_sort_rev) ?_ | rw [list_sort_rev]
  have ha : a < s.heap.objs.size := Heap.lt_size ho
  refine wpAny_bind (listItems_at ho rfl (wpAny_bind (listUpdate_at ho rfl ?_)))
  obtain ⟨e1, ho1⟩ : ∃ e1, (s.heap.update a (Obj.mapSeq fun _ => #[])).get? a = some (seqObj "list" #[] e1) := ⟨_, get?_update_seq ho (fun _ => #[])⟩
  refine wpAny_bind (seqEpoch_at ho1 rfl (wpAny_bind (wpAny_newTuple (wpAny_bind (wpAny_newList (wpAny_holding ?_))))))
  have ho6 : (((s.heap.update a (Obj.mapSeq fun _ => #[])).push (seqObj "tuple" vs.toArray 0)).push (seqObj "list" #[] 0)).get? a = some (seqObj "list" #[] e1) := by
    rw [Heap.get?_push_ne _ _ _ (by first | exact ((size_push').trans ((Heap.size_update).trans (Nat.ne_of_lt (Nat.lt_succ_of_lt ha)))) | (rw [size_push', Heap.size_update]; exact Nat.ne_of_lt (Nat.lt_succ_of_lt ha))), Heap.get?_push_ne _ _ _ (by first | exact ((Heap.size_update).trans (Nat.ne_of_lt ha)) | (rw [Heap.size_update]; exact Nat.ne_of_lt ha))]
    exact ho1
  show wpAny (model prog w) A _ P E { s with heap := ((s.heap.update a (Obj.mapSeq fun _ => #[])).push (seqObj "tuple" vs.toArray 0)).push (seqObj "list" #[] 0) }
  have hsz : vs.toArray.size = vs.length := by simp
  have hrev : ((vs.toArray.zip vs.toArray).reverse).Perm (pairsOf vs) := Array.perm_iff_toList_perm.mpr (by first | exact ((Array.toList_reverse).trans (List.reverse_perm _)) | (rw [Array.toList_reverse]; exact List.reverse_perm _))
  have hrs : ((vs.toArray.zip vs.toArray).reverse).size = vs.length := by rw [Array.size_reverse, Array.size_zip]; simp
  dsimp only
  simp only [if_true]
  refine wpAny_bind (wpAny_rule ?_)
  by_cases h2 : vs.toArray.size < 2
  · rw [if_pos h2, if_pos h2]
    refine wpAny_bind (wpAny_pure ?_)
    first | refine Mine.sb (StateT.run_pure) ?_ | rw [StateT.run_pure]
    refine wpAny_bind (wpAny_pure ?_)
    dsimp only
    refine wpAny_bind (seqEpoch_at ho6 rfl (wpAny_bind (listUpdate_at ho6 rfl ?_ (hsz2 := by
      rw [Array.size_reverse, Array.size_map]
      show ((vs.toArray.zip vs.toArray).reverse).size ≤ _
      rw [hrs, sizeLine_eq]; exact (Nat.le_succ_of_le (Nat.le_of_lt (Nat.lt_of_lt_of_le h64 (Nat.le_of_ble_eq_true rfl))))))))
    simp only [bne_self_eq_false, Bool.false_eq_true, if_false]
    refine wpAny_pure (h (SortSt.mk' general' (vs.toArray.zip vs.toArray).reverse #[] 7 none) hrev fun i j hij hj => ?_)
    have : i = j := by rw [pairsOf_size] at hj; omega
    subst this; exact KeyOrd.kle_refl _
  · rw [if_neg h2, if_neg h2]
    obtain ⟨v₁, v₂, rest, rfl⟩ : ∃ v₁ v₂ rest, vs = v₁ :: v₂ :: rest := by
      match vs, hsz, h2 with
      | [], _, h2 => simp at h2
      | [_], _, h2 => simp at h2
      | v₁ :: v₂ :: rest, _, _ => exact (i3_1 (v₁) ( v₂) ( rest) ( rfl))
    first | refine Mine.sb (hkk _ _ _ rfl) ?_ | rw [hkk _ _ _ rfl]
    refine wpAny_bind (wpAny_pure (wpAny_bind (wpAny_mono (wpS_sortRunsK (κ := κ) hO (a₀ := pairsOf (v₁ :: v₂ :: rest)) (st := SortSt.mk' oneType' ((v₁ :: v₂ :: rest).toArray.zip (v₁ :: v₂ :: rest).toArray).reverse #[] 7 none)
      (Q := fun _ st' => (arrOf st').Perm (pairsOf (v₁ :: v₂ :: rest)) ∧ failedOf st' = none ∧ SortedToK κ (arrOf st') (pairsOf (v₁ :: v₂ :: rest)).size)
      h0 ⟨hrev, rfl, rfl, rfl⟩ (by rw [pairsOf_size]; simp) (by first | exact ((pairsOf_size).trans h64) | (rw [pairsOf_size]; exact h64)) fun st' a1 a2 a3 => (i0_3 (a1) ( a2) ( a3))) ?_ fun _ _ e => e)))
    ((intro zt1 s' zr1; obtain ⟨⟨⟩, st'⟩ := zt1); refine x0_4 zr1 ?_; clear zr1; intro er1 hp hf hs; obtain rfl := er1)
    dsimp only
    refine wpAny_bind (seqEpoch_at ho6 rfl (wpAny_bind (listUpdate_at ho6 rfl ?_ (hsz2 := by
      rw [Array.size_reverse]
      refine Nat.le_trans (Nat.le_of_eq ((Array.size_map ..).trans (hp.size_eq.trans (pairsOf_size _)))) ?_; rw [sizeLine_eq]; exact (Nat.le_succ_of_le (Nat.le_of_lt (Nat.lt_of_lt_of_le h64 (Nat.le_of_ble_eq_true rfl))))))))
    first | refine Mine.sb (hf) ?_ | rw [hf]
    simp only [bne_self_eq_false, Bool.false_eq_true, if_false]
    exact wpAny_pure (h st' hp hs)
end

section
variable {X : Cx} {m : Loc} {σ : Led} {s : Shared} {d : Nat}

theorem strsAre_of : ∀ {vs : List Value} {ss : List Str}, vs.length = ss.length → (∀ (j : Nat) v k, vs[j]? = some v → ss[j]? = some k → ∃ t, v = Value.str k t) → StrsAre vs ss
  | [], [], _, _ => .nil
  | [], _ :: _, h, _ => by simp at h
  | _ :: _, [], h, _ => by simp at h
  | v :: vs, k :: ss, h, hi => by
    (refine x1_1 (hi 0 v k rfl rfl) ?_; intro t er1; obtain rfl := er1)
    exact .cons k t (strsAre_of (by simpa using h) fun j v k h1 h2 => hi (j + 1) v k (by simpa using h1) (by simpa using h2))
theorem St.ofFreshAt {h' : Heap} {tk : Nat} {o : Obj} {D : Addr} (S : St X m σ s) (F' : Fr X.h₀ X.env.locals h' m) (N' : News X.h₀ X.env.locals h' ((D, o) :: others X s.heap s.heap.objs.size)) (hD : ∀ q ∈ others X s.heap s.heap.objs.size, q.1 < D) :
    St X m (σ.set D o) { s with heap := h', toks := tk } ∧ σ D = none := by
  have nD := N' _ (.head _)
  have key : s.heap.get? D = none := by
    cases q : s.heap.get? D with
    | none => rfl
    | some o => exact absurd (hD (D, o) (mem_others.mpr (i0_4 (Nat.ne_of_lt (Heap.lt_size q)) ( nD.2.1) ( nD.2.2) ( q)))) (Nat.lt_irrefl _)
  have k := S.ofKept (tk := tk) F' fun p hp => (N' p (.tail _ hp)).1
  have no : σ D = none := by
    cases q : σ D with
    | none => rfl
    | some o => (first | exact nos ((S.nw _ _ q).1) key | exact nos key ((S.nw _ _ q).1) | (rw [(S.nw _ _ q).1] at key; cases key))
  refine ⟨⟨F', fun b ob e => ?_, fun p hp => ?_⟩, no⟩
  · by_cases q : b = D
    · subst q; (first | exact nos (Led.set_self) e | exact nos e (Led.set_self) | (rw [Led.set_self] at e; cases e)); exact nD
    · rw [Led.set_ne q] at e
      have z := S.nw b ob e
      exact ⟨k b ob (Nat.ne_of_lt (Heap.lt_size z.1)) z.2.1 z.1, z.2⟩
  · have g := S.fn p hp
    have q : p.1 ≠ D := by rintro rfl; (first | exact nos (g.1) key | exact nos key (g.1) | (rw [g.1] at key; cases key))
    exact (i0_4 (k _ _ (Nat.ne_of_lt (Heap.lt_size g.1)) g.2.2.1 g.1) ( g.2.1) ( g.2.2.1) ( by first | exact ((Led.set_ne q).trans g.2.2.2) | (rw [Led.set_ne q]; exact g.2.2.2)))

theorem sortedHeap_ext {h : Heap} {D : Addr} {vs : List Value} {out : Array Value} : Heap.ExtBut D h (sortedHeap h D vs out) := fun b o hn e => by
  rw [sortedHeap_old hn (Heap.lt_size e)]; exact e

section
variable {kvs : List (Str × Value)} {dd : Addr} {o : Obj}
theorem keys_strs {vs : List Value} {w : World} (hl : vs.length = kvs.length) (hv : ∀ (j : Nat) (v : Value), vs[j]? = some v → ∃ k x, kvs[j]? = some (k, x) ∧ (PySem.strKind PR w).is k v = true) : StrsAre vs (kvs.map (·.1)) := by
  refine strsAre_of (by simpa using hl) fun j v k h1 h2 => ?_
  (refine x2_2 (hv j v h1) ?_; intro k' x e hk)
  rw [List.getElem?_map, e] at h2
  simp at h2; subst h2
  exact Value.isStrOf_shape hk

theorem j_sorted_dict {Q : Value → Loc → Led → Prop} (O : X.Ok d) (hs : σ dd = some o) (ho : o.IsDictOf (PySem.strKind PR X.w) kvs) (h64 : kvs.length < 64)
    (h : ∀ a vs ss e, σ a = none → StrsAre vs ss → ss.Perm (kvs.map (·.1)) → sortedS ss = true → Q (.ref a) m (σ.set a (lstOf vs e))) : J X (call (.builtin "sorted") [.ref dd]) m σ Q := by
  intro b s B S
  (refine x1_1 ((dctAt S hs ho).dictAt) ?_; intro ep hat)
  refine kdu_sorted (kdl_dict (knd := PySem.strKind PR X.w) (kvs := kvs) (ep := ep) (notMods O S hs)) O.hh S.fr S.newsAll hat (by first | exact ((sizeLine_eq).trans ((Nat.le_of_lt (Nat.lt_of_lt_of_le h64 (Nat.le_of_ble_eq_true rfl))))) | (rw [sizeLine_eq]; exact (Nat.le_of_lt (Nat.lt_of_lt_of_le h64 (Nat.le_of_ble_eq_true rfl))))) fun D h' tk vs F' N' l1 hl hv => ?_
  have hS := keys_strs hl hv
  (refine x0_2 (S.ofFreshAt (tk := tk) F' N' l1) ?_; intro T no)
  have hoD := (N' _ (.head _)).1
  refine wpAny_call_entry slot_list_sort (i1_2 (_) ( hoD) ( rfl)) entry_list_sort (list_sort_treeK strKind_oneLt hoD hS.keysOf (fun v₁ v₂ rest e => keyKind_strs (by rw [← e]; exact hS)) (by first | exact ((hl).trans h64) | (rw [hl]; exact h64)) fun st' hp hss => (i1_2 (_) ( rfl) ( ?_))) (args_list_sort _)
  (refine x1_3 (sorted_out_str hS hp hss) ?_; intro ss' a1 a2 a3)
  (refine x1_1 (sortedHeap_at (out := (arrOf st').map (·.2)) hoD) ?_; intro e he)
  have T2 := T.upd (tk := tk) (o' := lstOf ((arrOf st').map (·.2)).toList e) Led.set_self (sortedHeap_ext (vs := vs) (out := (arrOf st').map (·.2))) (by rw [he])
  refine .mk B.to (σ' := σ.set D (lstOf ((arrOf st').map (·.2)).toList e)) ?_ (h D _ ss' e no a1 a2 a3)
  have : (σ.set D (listOf vs.toArray 0)).set D (lstOf ((arrOf st').map (·.2)).toList e) = σ.set D (lstOf ((arrOf st').map (·.2)).toList e) := by
    funext c; unfold Led.set; split <;> rfl
  rw [this] at T2
  exact T2
theorem j_sorted_dict_rev {Q : Value → Loc → Led → Prop} (O : X.Ok d) (hs : σ dd = some o) (ho : o.IsDictOf (PySem.strKind PR X.w) kvs) (h64 : kvs.length < 64)
    (h : ∀ a vs ss e, σ a = none → StrsAre vs.reverse ss → ss.Perm (kvs.map (·.1)) → sortedS ss = true → Q (.ref a) m (σ.set a (lstOf vs e))) : J X (call (.builtin "sorted") [.ref dd] [(Str.ofString "reverse", .bool true)]) m σ Q := by
  intro b s B S
  (refine x1_1 ((dctAt S hs ho).dictAt) ?_; intro ep hat)
  refine call_function_entry_kw kind_sorted plain_sorted entry_sorted (args_sorted_rev _ _) ?_
  unfold Builtin.«sorted»
  refine wpAny_bind (m := checkCount "sorted" 1 1 _) (wpAny_pure ?_)
  refine wpAny_bind (kdu_collect (A := X.A.in1) (kdl_dict (knd := PySem.strKind PR X.w) (kvs := kvs) (ep := ep) (notMods O S hs)) O.hh hat (by first | exact ((sizeLine_eq).trans ((Nat.le_of_lt (Nat.lt_of_lt_of_le h64 (Nat.le_of_ble_eq_true rfl))))) | (rw [sizeLine_eq]; exact (Nat.le_of_lt (Nat.lt_of_lt_of_le h64 (Nat.le_of_ble_eq_true rfl))))) fun h' tk acc hk hacc => ?_)
  have hl : acc.toList.length = kvs.length := by first | exact ((Array.length_toList).trans hacc.1) | (rw [Array.length_toList]; exact hacc.1)
  have hS := keys_strs (w := X.w) (vs := acc.toList) hl fun j v e => hacc.2 j v (by rw [← Array.getElem?_toList]; exact e)
  refine wpAny_bind (wpAny_newList ?_ (by first | exact ((hl).trans ((sizeLine_eq).trans ((Nat.le_of_lt (Nat.lt_of_lt_of_le h64 (Nat.le_of_ble_eq_true rfl)))))) | (rw [hl, sizeLine_eq]; exact (Nat.le_of_lt (Nat.lt_of_lt_of_le h64 (Nat.le_of_ble_eq_true rfl))))))
  have T := S.ext (tk := tk) hk
  have no := (T.fresh (Nat.le_refl _)).1
  have T1 := T.push (tk := tk) (o := lstOf acc.toList 0)
  have hoD : (h'.push (lstOf acc.toList 0)).get? h'.objs.size = some (seqObj "list" acc.toList.toArray 0) := Heap.get?_push_size _ rfl
  refine wpAny_bind (wpAny_holding (wpAny_call_entry_kw slot_list_sort (i1_2 (_) ( hoD) ( rfl)) entry_list_sort (sort_falling strKind_oneLt hoD hS.keysOf (fun v₁ v₂ rest e => keyKind_strs (by rw [← e]; exact hS)) (by first | exact ((hl).trans h64) | (rw [hl]; exact h64)) fun st' hp hss => (i1_2 (_) ( rfl) ( ?_))) (args_list_sort_rev _ _)))
  (refine x1_3 (sorted_out_str hS hp hss) ?_; intro ss' a1 a2 a3)
  (refine x1_1 (sortedHeap_at (out := ((arrOf st').map (·.2)).reverse) hoD) ?_; intro e he)
  have T2 := T1.upd (tk := tk) (o' := lstOf ((arrOf st').map (·.2)).reverse.toList e) Led.set_self (sortedHeap_ext (vs := acc.toList) (out := ((arrOf st').map (·.2)).reverse)) (by rw [he])
  refine wpAny_pure (i1_2 (_) ( rfl) ( .mk B.to (σ' := σ.set h'.objs.size (lstOf ((arrOf st').map (·.2)).reverse.toList e)) ?_ (h h'.objs.size _ ss' e no (by simpa using a1) a2 a3)))
  have : (σ.set h'.objs.size (lstOf acc.toList 0)).set h'.objs.size (lstOf ((arrOf st').map (·.2)).reverse.toList e) = σ.set h'.objs.size (lstOf ((arrOf st').map (·.2)).reverse.toList e) := by
    funext c; unfold Led.set; split <;> rfl
  rw [this] at T2
  exact T2
end
theorem j_CallRev {np kp p : Pos} {k : Nat} {e : PySem.Expr} {pos : Pos} {Q : Value → Loc → Led → Prop} (O : X.Ok d) (hx : X.env.kindOf "sorted" = some .globalImplicit) (hg : nsIn (hd.heap_1 X.w.params) mainGlobals "sorted" = some none) (hst : starEach [e] X.env = [(false, eval e X.env)])
    (h : J X (eval e X.env) m σ (fun v m' σ' => J X (call (.builtin "sorted") [v] [(Str.ofString "reverse", .bool true)]) m' σ' Q)) :
    J X (eval (.Call (.Name "sorted" np) [e] [⟨some (Str.ofString "reverse"), .Constant (.bool true) k p, kp⟩] pos) X.env) m σ Q := by
  intro b s B S
  refine wpAny_Call_Name_kw ?_
  refine (j_name_builtin (pos := np) (Q := fun v m' σ' => v = .builtin "sorted" ∧ m' = m ∧ σ' = σ) O hx hg (by rfl) (by decide) (i0_3 (rfl) ( rfl) ( rfl)) (by decide)).seq B S fun f s1 m1 σ1 B1 S1 h1 => ?_
  (refine x0_3 h1 ?_; clear h1; intro er1 er2 er3; obtain rfl := er1; obtain rfl := er2; obtain rfl := er3)
  have hb : backTo pos (starEach [e] X.env) = [(false, eval e X.env)] := by rw [hst]; rfl
  refine PyProof.Rows.callWith_kw (he := by rw [hb]; rfl) (hplain := by rw [hb]; rfl) ?_
  first | refine Mine.sb (hb) ?_ | rw [hb]
  refine (j_spliced_one (h.mono fun v m' σ' q => (i1_2 (v) ( rfl) ( q))) : J X (spliced [(false, eval e X.env)]) m1 σ1 (fun vs m' σ' => ∃ v, vs = [v] ∧ J X (call (.builtin "sorted") [v] [(Str.ofString "reverse", .bool true)]) m' σ' Q)).seq B1 S1 fun vs s2 m2 σ2 B2 S2 h2 => ?_
  (refine x1_2 h2 ?_; clear h2; intro v er1 h2; obtain rfl := er1)
  refine PyProof.Rows.kws_cons ((j_bool (X := X) (k := k) (pos := p) (Q := fun v m' σ' => v = .bool true ∧ m' = m2 ∧ σ' = σ2) (i0_3 (rfl) ( rfl) ( rfl))).seq B2 S2 fun f s3 m3 σ3 B3 S3 h3 => PyProof.Rows.kws_nil ?_)
  (refine x0_3 h3 ?_; clear h3; intro er1 er2 er3; obtain rfl := er1; obtain rfl := er2; obtain rfl := er3)
  exact h2 b s3 B3 S3
end
end
section
--FILE JW
section
variable {X : Cx} {m : Loc} {σ : Led} {s : Shared} {d : Nat}
theorem j_mod {a c : Int} {t u : Tok} {Q : Value → Loc → Led → Prop} (hc : c ≠ 0) (h : ∀ t, Q (.int (a.fmod c) t) m σ) : J X (binaryOp .Mod (.int a t) (.int c u)) m σ Q := fun _ _ B S => PyProof.Rows.mod_int hc (.mk B.tk S.toks (h _))
theorem j_floordiv {a c : Int} {t u : Tok} {Q : Value → Loc → Led → Prop} (hc : c ≠ 0) (hp : Builtin.divisionGoesByPylong a c = false) (h : ∀ t, Q (.int (a.fdiv c) t) m σ) : J X (binaryOp .FloorDiv (.int a t) (.int c u)) m σ Q := fun _ _ B S => PyProof.Rows.floordiv_int hc (.mk B.tk S.toks (h _)) (.inl hp)
theorem j_pow {a n : Int} {t u : Tok} {Q : Value → Loc → Led → Prop} (hn : 0 ≤ n) (hn2 : n ≤ 1000000) (ha : a.natAbs < 2 ^ 64) (h : ∀ t, Q (.int (a ^ n.toNat) t) m σ) : J X (binaryOp .Pow (.int a t) (.int n u)) m σ Q := fun _ _ B S => PyProof.Rows.pow_int_small hn hn2 ha (.mk B.tk S.toks (h _))
theorem j_mulS {a c : Int} {t u : Tok} {Q : Value → Loc → Led → Prop} (hm : Builtin.Int.intBits a ≤ 64) (h : ∀ t, Q (.int (a * c) t) m σ) : J X (binaryOp .Mult (.int a t) (.int c u)) m σ Q := j_mul (.of_left hm) h
end
end
section
--FILE JX
theorem list_no_keys : typeLookup (.type "list") "keys" = pure none := by rw [typeLookup_type, builtinLookup_eq_fast]; kernel_rfl
theorem getAttr_none_list {prog : Program} {w : World} {A : Around} {E : Value → Shared → Prop} {s : Shared} {a : Addr} {xs : Array Value} {k : Nat} {Q : Option Value → Shared → Prop}
    (hx : s.heap.get? a = some (listOf xs k)) (hA : A.handled = none) (h : ∀ h' tk, (∀ b o, s.heap.get? b = some o → h'.get? b = some o) → Q none { s with heap := h', toks := tk }) :
    wpAny (model prog w) A (getAttr? (.ref a) "keys") Q E s := by
  obtain ⟨hp, g, d, tk, os⟩ := s
  have hT : ∀ tk', (⟨hp, g, d, tk', os⟩ : Shared).TypeIs (.ref a) "list" := fun _ => (i1_2 (_) ( hx) ( rfl))
  have f1 := sub_AttributeError
  have f3 := PySem.F.slot_list_getattribute.lookup
  have f4 := PySem.F.slot_list_getattribute.bind (.ref a)
  have f5 := am_list_getattr_none
  unfold getAttr? getAttrBy?
  unfold getAttrBy
  repeat (any_goals (first | assumption | exact hT _ | ((with_reducible show wpAny _ _ (call (Value.builtin "list.__getattribute__") _ _) _ _ _); refine call_meets PySem.F.slot_list_getattribute (hT _) am_entry_list_getattribute (PySem.F.args_list_getattribute_2 _ _) (meets_getattribute_miss_list a xs k #[] "keys" _ list_no_keys (by decide) (by decide)) (i0_3 (hx) ( hA) ( fun h' tk' e hx' => ?_))) | wp_step))
  (refine x2_1 hx'.there ?_; intro t' u' he)
  show wpAny _ _ (getattributeRaised _ _ _ _ _ _ _) _ _ _
  unfold getattributeRaised
  repeat (any_goals (first | assumption | wp_step))
  exact h _ _ hx'.keeps
end
section
--FILE JY
theorem entry_update_loop : entryFor table "dict.update.loop" = some Builtin.«dict.update.loop» := entryFor_of_tree (by kernel_rfl)
theorem plain_update_loop : plainId "dict.update.loop" = true := by decide +kernel
noncomputable def PairAt (h : Heap) (v : Value) (x : Ky × Addr × Value) : Prop := ∃ t ob kk, v = .ref t ∧ h.get? t = some ob ∧ ob.cls = .type "tuple" ∧ ob.data = .seq #[.ref x.2.1, x.2.2] kk
section
variable {w : World} {A : Around} {E : Value → Shared → Prop} {s : Shared}
theorem atKey_none {xs : List (Ky × Addr × Value)} {k : Ky} (h : k ∉ xs.map (·.1)) : atKey xs k = none := by
  unfold atKey
  rw [List.find?_eq_none.mpr]
  · rfl
  · intro x hx hk
    exact h (List.mem_map.mpr (i1_2 (x) ( hx) ( by simpa using hk)))
theorem dict_loop {R : Result → Shared → Prop} {I l D : Addr} {vs : List Value} {xs : List (Ky × Addr × Value)} {h₀ : Heap} (hu : A.in1.units + 8 < cLine) (hh : A.in1.handled = none) (hI : I ≠ D) (hlI : l ≠ I) (hlt : l < h₀.objs.size) (hlen : vs.length = xs.length) (hn : (xs.map (·.1)).Nodup) (hz : xs.length ≤ 10000)
    (hD : h₀.objs.size ≤ D) (hIs : h₀.objs.size ≤ I) (hl : h₀.IsList l vs.toArray) (hp : ∀ (j : Nat) (v : Value) (x : Ky × Addr × Value), vs[j]? = some v → xs[j]? = some x → PairAt h₀ v x) (hx : ∀ x ∈ xs, ∀ h : Heap, (∀ b o, h₀.get? b = some o → h.get? b = some o) → (kyKind w).is h x.1 x.2.1)
    (hR : ∀ h' tk, (∀ b o, h₀.get? b = some o → h'.get? b = some o) → h'.DictOfH (kyKind w) D xs → R (.ok (.ret .none)) { s with heap := h', toks := tk }) :
    ∀ (k i : Nat) (h : Heap) (tk : Nat) , vs.length - i = k → i ≤ vs.length → h.IsListIter I l i → (∀ b o, h₀.get? b = some o → h.get? b = some o) → h.DictOfH (kyKind w) D (xs.take i) →
      codeAny (model PR w) A (.builtin "dict.update.loop" ⟨[.ref D, .ref I, rawInt i, .none], []⟩) R { s with heap := h, toks := tk } := by
  have W := PySem.Walks.list (prog := PR) (w := w) hh I l hlI vs.toArray
  have hsz : vs.toArray.size = vs.length := List.size_toArray
  have nI : ∀ b o, h₀.get? b = some o → b ∉ [I] := fun b o e q => by
    rw [List.mem_singleton] at q; subst q
    exact Nat.lt_irrefl _ (Nat.lt_of_lt_of_le (Heap.lt_size e) hIs)
  have nD : ∀ b o, h₀.get? b = some o → b ≠ D := fun b o e q => by
    subst q
    exact Nat.lt_irrefl _ (Nat.lt_of_lt_of_le (Heap.lt_size e) hD)
  intro k
  induction k with
  | zero =>
    intro i h tk hk hi hit hkeep hd
    have hin : i = vs.length := by omega
    subst hin
    refine codeAny_builtin entry_update_loop ?_
    first | refine Mine.sb (Around.under_plainId plain_update_loop _) ?_ | rw [Around.under_plainId plain_update_loop _]
    show wpAny _ A.in1 (pyNext (.ref I) >>= _) _ _ _
    refine wpAny_bind (W.done { s with heap := h, toks := tk } _ _ ⟨by first | exact ((hsz).trans hit) | (rw [hsz]; exact hit), hl.at fun o e => hkeep _ o e⟩ fun h' tk' hm => ?_)
    show wpAny _ A.in1 (Builtin.Dict.addKeywords D [] >>= _) _ _ _
    refine wpAny_bind (wpAny_pure ?_)
    refine wpAny_pure (hR h' tk' (fun b o e => hm b o (nI b o e) (hkeep b o e)) ?_)
    rw [hlen, List.take_length] at hd
    (refine x3_6 hd ?_; clear hd; intro o es ep ho h1 h2 h3 h4 h5)
    exact (i3_6 (o) ( es) ( ep) ( hm D o (by simpa using Ne.symm hI) ho) ( h1) ( h2) ( h3) ( fun x hxm => hx x hxm h' fun b o e => hm b o (nI b o e) (hkeep b o e)) ( h5))
  | succ k ih =>
    intro i h tk hk hi hit hkeep hd
    have hlt' : i < vs.length := by omega
    have hltx : i < xs.length := by exact (Nat.lt_of_lt_of_eq hlt' hlen)
    refine codeAny_builtin entry_update_loop ?_
    first | refine Mine.sb (Around.under_plainId plain_update_loop _) ?_ | rw [Around.under_plainId plain_update_loop _]
    show wpAny _ A.in1 (pyNext (.ref I) >>= _) _ _ _
    refine wpAny_bind (W.item i { s with heap := h, toks := tk } _ _ (by first | exact ((hsz).trans hlt') | (rw [hsz]; exact hlt')) ⟨hit, hl.at fun o e => hkeep _ o e⟩ fun v h1 tk1 hP hst1 hm1 => ?_)
    have hv : vs[i]? = some v := by simpa using hP
    have hxi : xs[i]? = some xs[i] := List.getElem?_eq_getElem hltx
    (refine x3_4 (hp i v xs[i] hv hxi) ?_; intro t ob kk er1 hob hcl hdat; obtain rfl := er1)
    have hkeep1 : ∀ b o, h₀.get? b = some o → h1.get? b = some o := fun b o e => hm1 b o (nI b o e) (hkeep b o e)
    have hob1 := hkeep1 _ _ hob
    have hkx := hx xs[i] (List.getElem_mem hltx) h1 hkeep1
    have hd1 : h1.DictOfH (kyKind w) D (xs.take i) := by
      (refine x3_6 hd ?_; clear hd; intro o es ep ho g1 g2 g3 g4 g5)
      exact (i3_6 (o) ( es) ( ep) ( hm1 D o (by simpa using Ne.symm hI) ho) ( g1) ( g2) ( g3) ( fun x hxm => hx x (List.mem_of_mem_take hxm) h1 hkeep1) ( g5))
    have htk : xs.take (i + 1) = xs.take i ++ [xs[i]] := by rw [List.take_add_one, hxi]; rfl
    have hno : xs[i].1 ∉ (xs.take i).map (·.1) := by
      have h2 : ((xs.take (i + 1)).map (·.1)).Nodup := by first | exact ((List.map_take).trans ((List.take_sublist _ _).nodup hn)) | (rw [List.map_take]; exact (List.take_sublist _ _).nodup hn)
      rw [htk, List.map_append, List.nodup_append] at h2
      exact fun q => h2.2.2 _ q xs[i].1 (by simp) rfl
    show wpAny _ A.in1 (holding [Value.ref t] _ >>= _) _ _ _
    refine wpAny_bind (wpAny_holding ?_)
    refine wpAny_bind (wpAny_tryCatch ?_)
    unfold Builtin.Dict.pairItems
    refine wpAny_bind (wpAny_typeOf (T := "tuple") (i1_2 (ob) ( hob1) ( hcl)) ?_)
    rw [if_pos (by decide)]
    refine wpAny_bind (wpAny_seqItems hob1 hdat (wpAny_pure ?_))
    show wpAny _ A.in1 (holding [Value.ref xs[i].2.1, xs[i].2.2] (dictSet D (.ref xs[i].2.1) xs[i].2.2)) _ _ _
    refine wpAny_holding (wpAny_dictSet_heap (knd := kyKind w) (s := { s with heap := h1, toks := tk1 }) hu hkx hd1 (fun h' hm' hsb => ?_) (by rw [sizeLine_eq, List.length_take]; omega))
    rw [storedH_new (atKey_none hno)] at hm'
    rw [show xs.take i ++ [(xs[i].1, xs[i].2.1, xs[i].2.2)] = xs.take (i + 1) from htk.symm] at hm'
    show wpAny _ A.in1 (again (.builtin "dict.update.loop" ⟨[.ref D, .ref I, rawInt ((i : Int) + 1), .none], []⟩)) _ _ _
    refine wpAny_pure ⟨plainId_quiet plain_update_loop _, ih (i + 1) h' _ (by omega) hlt' ?_ (fun b o e => (hsb.2 b (nD b o e)).trans (hkeep1 b o e)) hm'⟩
    exact hst1.1.at fun o e => (hsb.2 I hI).trans e
theorem dict_of_pairs {l : Addr} {n : Nat} {vs : List Value} {xs : List (Ky × Addr × Value)} {Q : Value → Shared → Prop} (hu : A.units + 20 < cLine) (hh : A.handled = none) (hl : s.heap.get? l = some (listOf vs.toArray n))
    (hlen : vs.length = xs.length) (hn : (xs.map (·.1)).Nodup) (hz : xs.length ≤ 10000) (hp : ∀ (j : Nat) (v : Value) (x : Ky × Addr × Value), vs[j]? = some v → xs[j]? = some x → PairAt s.heap v x)
    (hx : ∀ x ∈ xs, ∀ h : Heap, (∀ b o, s.heap.get? b = some o → h.get? b = some o) → (kyKind w).is h x.1 x.2.1)
    (h : ∀ h' tk, h'.DictOfH (kyKind w) s.heap.objs.size xs → (∀ b o, s.heap.get? b = some o → h'.get? b = some o) → Q (.ref s.heap.objs.size) { s with heap := h', toks := tk }) :
    wpAny (model PR w) A (call (.type "dict") [.ref l]) Q E s := by
  refine callType_codes (Q₁ := fun obj s₁ => obj = .ref s.heap.objs.size ∧ s₁ = { s with heap := s.heap.push { cls := .type "dict", data := .dict #[] } }) PySem.F.kt_called_dict (PySem.F.kt_typeCall_dict_1 _) PySem.F.entry_dict_init (kt_code_dict_new _ ⟨rfl, rfl⟩) ?_
  (intro obj s₁ zt1; refine x0_2 zt1 ?_; clear zt1; intro er2 er3; obtain rfl := er2; obtain rfl := er3)
  have hnew : (s.heap.push { cls := .type "dict", data := .dict #[] }).DictOfH (kyKind w) s.heap.objs.size [] := Heap.DictOfH.new s.heap
  have hT : Shared.TypeIs { s with heap := s.heap.push { cls := .type "dict", data := .dict #[] } } (.ref s.heap.objs.size) "dict" := hnew.typeIs
  refine (i0_3 (hT) ( PySem.F.args_dict_init_2 _ _) ( ?_))
  unfold Builtin.«dict.__init__»
  refine wpAny_bind ?_
  unfold Builtin.Dict.selfAndRest
  refine wpAny_bind (wpAny_notOrdered_dict hT ?_)
  show wpAny _ _ (pure (s.heap.objs.size, [Value.ref l])) _ _ _
  refine wpAny_pure ?_
  show wpAny _ _ (Builtin.Dict.updateFrom "dict.__init__" s.heap.objs.size (.ref l) [] .none) _ _ _
  have hl1 : (s.heap.push { cls := .type "dict", data := .dict #[] }).get? l = some (listOf vs.toArray n) := Heap.get?_push_of_some _ hl
  unfold Builtin.Dict.updateFrom
  refine wpAny_bind (wpAny_typeOf (T := "list") (i1_2 (_) ( hl1) ( rfl)) ?_)
  rw [if_pos (by decide)]
  refine wpAny_bind (getAttr_none_list hl1 (by simpa using hh) fun h1 tk1 hk1 => ?_)
  rw [if_pos (by rfl)]
  refine wpAny_bind (wpAny_rule ?_)
  have hlS : l < s.heap.objs.size := Heap.lt_size hl
  have hl2 := hk1 _ _ hl1
  refine wpAny_bind (wpAny_pyIter_list ⟨_, hl2, rfl, n, rfl⟩ ?_)
  have hD1 := hk1 _ _ (Heap.get?_push_size s.heap (o := { cls := .type "dict", data := .dict #[] }) rfl)
  have hDlt : s.heap.objs.size < h1.objs.size := Heap.lt_size hD1
  have k0 : ∀ b o, s.heap.get? b = some o → (h1.push { cls := .type "list_iterator", data := .fields #[.ref l, .int 0 0] }).get? b = some o := fun b o e => Heap.get?_push_of_some _ (hk1 _ _ (Heap.get?_push_of_some _ e))
  refine wpAny_pure ⟨plainId_quiet plain_update_loop _, ?_⟩
  refine dict_loop (A := A.in1) (s := s) (I := h1.objs.size) (l := l) (D := s.heap.objs.size) (vs := vs) (xs := xs) (h₀ := s.heap) ?hu ?hh (Nat.ne_of_gt hDlt) (Nat.ne_of_lt (Nat.lt_trans hlS hDlt)) hlS hlen hn hz (Nat.le_refl _) (Nat.le_of_lt hDlt) ⟨_, hl, rfl, n, rfl⟩ hp hx (fun h' tk hk hd => ⟨rfl, h h' tk hd hk⟩)
    (vs.length - 0) 0 _ _ rfl (Nat.zero_le _) (i1_3 (_) ( Heap.get?_push_size _ rfl) ( rfl) ( rfl)) k0 ?hd
  case hu => show A.units + 1 + 1 + 8 < cLine; omega
  case hh => simpa using hh
  case hd => exact (i3_6 (_) ( #[]) ( 0) ( Heap.get?_push_of_some _ hD1) ( (i0_3 (rfl) ( rfl) ( rfl))) ( rfl) ( rfl) ( fun _ hx => by simp at hx) ( List.nodup_nil))
end
section
variable {X : Cx} {m : Loc} {σ : Led} {s : Shared} {d : Nat}
theorem j_dict_pairs {l : Addr} {n : Nat} {vs : List Value} {xs : List (Ky × Addr × Value)} {Q : Value → Loc → Led → Prop} (O : X.Ok d) (hs : σ l = some (lstOf vs n)) (hlen : vs.length = xs.length) (hn : (xs.map (·.1)).Nodup) (hz : xs.length ≤ 10000)
    (hp : ∀ (j : Nat) (v : Value) (x : Ky × Addr × Value), vs[j]? = some v → xs[j]? = some x → ∃ t kk, v = .ref t ∧ σ t = some (tupOf [.ref x.2.1, x.2.2] kk)) (hx : KyKeys σ xs)
    (h : ∀ a o, σ a = none → KyDict X.w o xs → Q (.ref a) m (σ.set a o)) : J X (call (.type "dict") [.ref l]) m σ Q := by
  intro b s B S
  refine dict_of_pairs (xs := xs) (O_units8 O) O.hh (S.nw _ _ hs).1 hlen hn hz (fun j v x hv hxj => ?_) (fun x hxm h' hk => ?_) fun h' tk hd hk => ?_
  · (refine x2_2 (hp j v x hv hxj) ?_; intro t kk e ht)
    exact (i3_4 (t) ( _) ( kk) ( e) ( (S.nw _ _ ht).1) ( rfl) ( rfl))
  · have z := hx x hxm
    exact ⟨z.1.mono fun a o e => hk _ _ (S.nw a o e).1, z.2⟩
  · (refine x1_2 (KyDict.of hd) ?_; intro o ho hd')
    exact .mk B.to (S.newObj (Nat.le_refl _) ho hk) (h _ _ (S.fresh (Nat.le_refl _)).1 hd')
end
end
section
--FILE JTA
noncomputable def tabOf (place : Array Nat) (led : Bool) : SetTable := { mask := 7, place, dummies := #[], finger := 0, led, moves := 0, plain := true }
theorem tab_slot0 (led : Bool) (x : Nat) : (tabOf #[] led).slot x = .empty := rfl
theorem below_nil (x : Nat) : SetTable.below #[] x = 0 := rfl
theorem below_one (j x : Nat) : SetTable.below #[j] x = if j < x then 1 else 0 := by
  show SetTable.below.go #[j] x 1 0 1 = _
  simp [SetTable.below.go]
theorem below_two (i j x : Nat) : SetTable.below #[i, j] x = if j < x then 2 else if i < x then 1 else 0 := by
  show SetTable.below.go #[i, j] x 2 0 2 = _
  simp [SetTable.below.go]
theorem tab_slot1 (led : Bool) (j x : Nat) : (tabOf #[j] led).slot x = if j = x then .live 0 else .empty := by
  unfold SetTable.slot
  simp only [tabOf, below_one]
  by_cases h : j < x
  · simp [h, Nat.ne_of_lt h, SetTable.has, below_nil]
  · by_cases e : j = x
    · subst e; simp
    · simp [h, e, SetTable.has, below_nil]
theorem hash_small {k : Int} (h : 0 ≤ k ∧ k < 1000) : hashInt k = k := by
  (refine x1_1 (Int.eq_ofNat_of_zero_le h.1) ?_; intro n er1; obtain rfl := er1)
  have : n < 1000 := by omega
  have e : ((n : Int).natAbs : Int) % ((2 ^ 61 - 1 : Nat) : Int) = n := by rw [Int.natAbs_natCast]; exact Int.emod_eq_of_lt (by exact (Int.natCast_nonneg _)) (by omega)
  have r : rawHash n = n := by
    unfold rawHash
    simp only [e, if_neg (show ¬ ((n : Int) < 0) from by omega)]
    exact if_neg (by simp)
  unfold hashInt
  first | refine Mine.sb (r) ?_ | rw [r]
  exact if_neg (by simp)
theorem bits_small {k : Int} (h : 0 ≤ k ∧ k < 1000) : SetTable.bits (hashInt k) < 1000 := by
  first | refine Mine.sb (hash_small h) ?_ | rw [hash_small h]
  unfold SetTable.bits
  omega
theorem free_zero (led : Bool) (h : Int) : (tabOf #[] led).freeSlot h = some (SetTable.bits h % 8, false) := by
  unfold SetTable.freeSlot SetTable.probe
  refine Mine.sb (show 10 * SetTable.turns (tabOf #[] led).mask = 219 + 1 from rfl) ?_
  unfold SetTable.probe.go
  first | refine Mine.sb (tab_slot0) ?_ | rw [tab_slot0]
  rfl
theorem adv_one (j : Nat) (led : Bool) (a i pt : Nat) (dm : Option Nat) : (tabOf #[j] led).advance ⟨a, 0, i, pt, dm⟩ = ⟨(i * 5 + 1 + pt / 32) % 8, 0, (i * 5 + 1 + pt / 32) % 8, pt / 32, dm⟩ := by
  unfold SetTable.advance
  simp only [SetTable.leap, SetTable.runEnd, tabOf]
  simp
theorem go_one (j : Nat) (led : Bool) (h : Int) (f a i pt : Nat) : SetTable.probe.go (tabOf #[j] led) (fun _ => h + 1) h (f + 1) ⟨a, 0, i, pt, none⟩ =
    if j = a then SetTable.probe.go (tabOf #[j] led) (fun _ => h + 1) h f ⟨(i * 5 + 1 + pt / 32) % 8, 0, (i * 5 + 1 + pt / 32) % 8, pt / 32, none⟩ else some (.empty a none) := by
  first | refine Mine.sb (SetTable.probe.go) ?_ | rw [SetTable.probe.go]
  simp only [tab_slot1]
  by_cases e : j = a
  · simp only [e, if_true]
    have : (h + 1 == h) = false := by simp; omega
    first | refine Mine.sb (this) ?_ | rw [this]
    simp only [Bool.false_eq_true, if_false, adv_one]
  · simp [e]
theorem free_one (led : Bool) (j : Nat) (h : Int) (hb : SetTable.bits h < 1000) : ∃ s, s ≤ 7 ∧ s ≠ j ∧ (tabOf #[j] led).freeSlot h = some (s, false) := by
  unfold SetTable.freeSlot SetTable.probe
  have e0 : (tabOf #[j] led).probeStart h = ⟨SetTable.bits h % 8, 0, SetTable.bits h % 8, SetTable.bits h, none⟩ := by
    unfold SetTable.probeStart
    simp [tabOf, SetTable.runEnd]
  rw [e0, show 10 * SetTable.turns (tabOf #[j] led).mask = 217 + 1 + 1 + 1 from rfl]
  generalize SetTable.bits h = b at hb
  first | refine Mine.sb (go_one) ?_ | rw [go_one]
  by_cases e1 : j = b % 8
  · have e3 : ¬ j = ((b % 8 * 5 + 1 + b / 32) % 8 * 5 + 1 + b / 32 / 32) % 8 ∨ ¬ j = (b % 8 * 5 + 1 + b / 32) % 8 := by
      have : b / 32 / 32 = 0 := by omega
      omega
    rw [if_pos e1, go_one]
    by_cases e2 : j = (b % 8 * 5 + 1 + b / 32) % 8
    · rw [if_pos e2, go_one]
      have e4 := e3.resolve_right fun h => h e2
      rw [if_neg e4]
      exact (i1_3 (_) ( Nat.le_of_lt_succ (Nat.mod_lt _ (by decide))) ( fun e => e4 e.symm) ( rfl))
    · rw [if_neg e2]
      exact (i1_3 (_) ( Nat.le_of_lt_succ (Nat.mod_lt _ (by decide))) ( fun e => e2 e.symm) ( rfl))
  · rw [if_neg e1]
    exact (i1_3 (_) ( Nat.le_of_lt_succ (Nat.mod_lt _ (by decide))) ( fun e => e1 e.symm) ( rfl))
theorem lay_zero (led : Bool) (h : Int) (x : Value) : ∃ s, s ≤ 7 ∧ layNew (tabOf #[] led) #[] h x = (#[(h, x)], tabOf #[s] led, false, false) := by
  refine (i1_2 (SetTable.bits h % 8) ( by omega) ( ?_))
  unfold layNew
  first | refine Mine.sb (free_zero) ?_ | rw [free_zero]
  rfl
theorem lay_one (led : Bool) (j : Nat) (h : Int) (x : Value) (e : Int × Value) (hb : SetTable.bits h < 1000) :
    ∃ s, s ≤ 7 ∧ ((j < s ∧ layNew (tabOf #[j] led) #[e] h x = (#[e, (h, x)], tabOf #[j, s] led, false, false)) ∨ (s < j ∧ layNew (tabOf #[j] led) #[e] h x = (#[(h, x), e], tabOf #[s, j] led, false, false))) := by
  (refine x1_3 (free_one led j h hb) ?_; intro s h7 hne hf)
  refine (i1_2 (s) ( h7) ( ?_))
  rcases Nat.lt_or_ge j s with hlt | hge
  · left
    refine ⟨hlt, ?_⟩
    unfold layNew
    first | refine Mine.sb (hf) ?_ | rw [hf]
    have hp : (tabOf #[j] led).put s = (tabOf #[j, s] led, 1) := by
      unfold SetTable.put
      simp only [tabOf, below_one, if_pos hlt]
      rfl
    simp only [hp]
    rfl
  · right
    have hlt : s < j := by omega
    refine ⟨hlt, ?_⟩
    unfold layNew
    first | refine Mine.sb (hf) ?_ | rw [hf]
    have hp : (tabOf #[j] led).put s = (tabOf #[s, j] led, 0) := by
      unfold SetTable.put
      simp only [tabOf, below_one, if_neg (Nat.not_lt.mpr hge)]
      rfl
    simp only [hp]
    rfl

noncomputable abbrev hInt (k : Int) : Int := hashInt k
inductive TabIs : Array (Int × Value) → Array Nat → List Int → Prop
  | zero : TabIs #[] #[] []
  | one (k : Int) (t : Tok) (j : Nat) : j ≤ 7 → TabIs #[(hashInt k, .int k t)] #[j] [k]
  | two (k l : Int) (t u : Tok) (i j : Nat) : i < j → j ≤ 7 → k ≠ l → TabIs #[(hashInt k, .int k t), (hashInt l, .int l u)] #[i, j] [k, l]
noncomputable def setObj (es : Array (Int × Value)) (ep : Nat) (place : Array Nat) (led : Bool) : Obj := { cls := .type "set", dict := none, data := .set es ep (tabOf place led), slots := #[] }
noncomputable def SetU (led : Bool) (o : Obj) (us : List Int) : Prop := ∃ es ep place, o = setObj es ep place led ∧ TabIs es place us
theorem TabIs.fits {es place us} {led : Bool} (h : TabIs es place us) : (tabOf place led).fits es.size = true := by cases h <;> rfl
theorem TabIs.nodup {es place us} (h : TabIs es place us) : us.Nodup := by cases h <;> simp_all
theorem TabIs.len {es place us} (h : TabIs es place us) : us.length ≤ 2 := by cases h <;> simp
theorem TabIs.size {es place us} (h : TabIs es place us) : es.size = us.length := by cases h <;> rfl
theorem TabIs.elems {prog : Program} {w : World} {es place us} (h : TabIs es place us) : ElemsOf (intKind prog w) es.toList := by
  cases h with
  | zero => intro e he; simp at he
  | one k t j hj =>
    intro e he
    simp at he
    subst he
    exact ⟨(i1_2 (k) ( intKind_is _ _ _ _) ( rfl)), rfl⟩
  | two k l t u i j hij hj hne =>
    intro e he
    simp at he
    rcases he with rfl | rfl
    · exact ⟨(i1_2 (k) ( intKind_is _ _ _ _) ( rfl)), rfl⟩
    · exact ⟨(i1_2 (l) ( intKind_is _ _ _ _) ( rfl)), rfl⟩
section
variable {prog : Program} {w : World} {A : Around} {E : Value → Shared → Prop} {s : Shared}
theorem find_int {k k' : Int} {t : Tok} : ((intKind prog w).is k (.int k' t)) = decide (k' = k) := by
  show Value.isInt k (.int k' t) = _
  simp only [Value.isInt]
  by_cases e : k' = k <;> simp [e]
theorem set_add {a : Addr} {led : Bool} {o : Obj} {us : List Int} {k : Int} {t : Tok} {Q : Bool → Shared → Prop} (ho : s.heap.get? a = some o) (hs : SetU led o us) (h1 : us.length ≤ 1) (hk : 0 ≤ k ∧ k < 1000)
    (h : ∀ b h' o' us', h'.get? a = some o' → SetU led o' us' → us'.length ≤ us.length + 1 → (∀ x, x ∈ us' ↔ x ∈ us ∨ x = k) → Heap.SameBut a s.heap h' → Q b { s with heap := h' }) :
    wpAny (model prog w) A (setAddHashed a (.int k t) (hashInt k)) Q E s := by
  (refine x3_2 hs ?_; clear hs; intro es ep place er1 T; obtain rfl := er1)
  have hf := T.fits (led := led)
  have hel := T.elems (prog := prog) (w := w)
  have keep : k ∈ us → Q false s := fun hm => by
    have := h false s.heap _ us ho (i3_2 (es) ( ep) ( place) ( rfl) ( T)) (Nat.le_succ _) (fun x => ⟨.inl, fun e => e.elim id fun e => e ▸ hm⟩) (Heap.SameBut.refl _ _)
    cases s; exact this
  unfold setAddHashed setAddHashedIn
  refine wpAny_holding (wpAny_bind (wpAny_setState_of ho rfl hf ?_))
  dsimp only
  first | refine Mine.sb (byScan_of rfl (by rw [T.size]; unfold scanBound; exact (Nat.lt_of_le_of_lt h1 (Nat.le_of_ble_eq_true rfl))) hel) ?_ | rw [byScan_of rfl (by rw [T.size]; unfold scanBound; exact (Nat.lt_of_le_of_lt h1 (Nat.le_of_ble_eq_true rfl))) hel]
  simp only [↓reduceIte]
  unfold setAddByScan
  refine wpAny_bind ?_
  refine wpAny_bind (wpAny_rule ?_)
  refine wpAny_bind (wpAny_setScan_of (knd := intKind prog w) (k := k) (intKind_is _ _ _ _) ho rfl hf hel ?_)
  have fin : ∀ (es' : Array (Int × Value)) (pl' : Array Nat) (us' : List Int), TabIs es' pl' us' → us'.length ≤ us.length + 1 → (∀ x, x ∈ us' ↔ x ∈ us ∨ x = k) → (tabOf pl' led).tooFull = false →
      layNew (tabOf place led) es (hashInt k) (.int k t) = (es', tabOf pl' led, false, false) →
      ∀ (F : Option Bool → Sem Bool), F (some true) = pure true →
      wpAny (model prog w) A (do
        let (es, t', wasDummy, gave) := layNew (tabOf place led) es (hashInt k) (.int k t)
        (match gave with | true => rule "set.scan.the-table-gave-way" | false => pure ())
        let byValue ← if t'.plain then hashByValue 8 (.int k t) else pure true
        let t' := if byValue then t' else { t' with plain := false }
        storeSet a es t'
        if !wasDummy && t'.tooFull then
          let (es, t', gave) := relayAll t' es (SetTable.grown es.size)
          (match gave with | true => rule "set.scan.the-table-gave-way" | false => pure ())
          storeSet a es t'
        return some true) (fun r s' => wpAny (model prog w) A (F r) Q E s') E s := by
    intro es' pl' us' T' hl hm hfull hlay F hF
    first | refine Mine.sb (hlay) ?_ | rw [hlay]
    dsimp only
    refine wpAny_bind (wpAny_pure ?_)
    first | refine Mine.sb (hashByValue_scannable 8 rfl) ?_ | rw [hashByValue_scannable 8 rfl]
    refine wpAny_bind ?_
    refine wpAny_pure ?_
    simp only [plainKind, if_true]
    refine wpAny_bind (wpAny_storeSet_of ho rfl ?_ (by rw [T'.size, sizeLine_eq]; have := T'.len; exact (Nat.le_trans this (Nat.le_of_ble_eq_true rfl))))
    first | refine Mine.sb (hfull) ?_ | rw [hfull]
    simp only [Bool.and_false, Bool.false_eq_true, if_false]
    have hg : (s.heap.update a (Obj.putSet es' (tabOf pl' led))).get? a = some (setObj es' (ep + 1) pl' led) := by
      have := Heap.get?_update_self (Obj.putSet es' (tabOf pl' led)) ho rfl
      rw [putSet_of es' (tabOf pl' led) rfl] at this
      exact this
    refine wpAny_pure ?_
    first | refine Mine.sb (hF) ?_ | rw [hF]
    exact wpAny_pure (h true _ _ us' hg (i3_2 (es') ( ep + 1) ( pl') ( rfl) ( T')) hl hm (Heap.SameBut.update ..))
  cases T with
  | zero =>
    (refine x1_2 (lay_zero led (hashInt k) (.int k t)) ?_; intro j hj hlay)
    exact fin _ _ [k] (.one k t j hj) (by simp) (by simp) rfl hlay _ rfl
  | one k' t' j hj =>
    simp only [List.findIdx?_cons, List.findIdx?_nil, find_int]
    by_cases e : k' = k
    · subst e
      simp only [decide_true, if_true]
      exact wpAny_pure (wpAny_pure (keep (by simp)))
    · simp only [e, decide_false, Bool.false_eq_true, if_false, Option.map_none]
      (refine x1_2 (lay_one led j (hashInt k) (.int k t) (hashInt k', .int k' t') (bits_small hk)) ?_; intro j' hj' hlay)
      rcases hlay with ⟨hlt, hlay⟩ | ⟨hlt, hlay⟩
      · exact fin _ _ [k', k] (.two k' k t' t j j' hlt hj' e) (by simp) (by simp) rfl hlay _ rfl
      · exact fin _ _ [k, k'] (.two k k' t t' j' j hlt hj fun q => e q.symm) (by simp) (by intro x; simp [or_comm]) rfl hlay _ rfl
  | two => simp at h1
end
end
section
--FILE JTB
noncomputable def ledOf (w : World) : Bool := !(w.params.followText "set-order")
section
variable {prog : Program} {w : World} {A : Around} {E : Value → Shared → Prop} {s : Shared}
theorem set_new (a : Value) {Q₁ : Value → Shared → Prop} (h : Q₁ (.ref s.heap.objs.size) { s with heap := s.heap.push (setObj #[] 0 #[] (ledOf w)) }) :
    codeAny (model prog w) A (.call (.builtin "set.__new__") ⟨[.type "set", a], []⟩) (wants Q₁ E) s := by
  refine codeAny_call_builtin PySem.F.plain_set_new PySem.F.entry_set_new (wpAny_of_eq (PySem.F.newCall_set_1 a) ?_)
  unfold Builtin.«set.__new__» Builtin.Frozenset.newClass
  have hsub := sub_set_self
  obtain ⟨hp, g, d, tk, os⟩ := s
  dsimp only
  wp_walk
  refine wpAny_askSetting (wpAny_pure ?_)
  dsimp only
  simp only [newObj]
  refine wpAny_bind (wpAny_alloc (wpAny_pure ?_))
  exact wpAny_pure h
theorem set_loop {R : Result → Shared → Prop} {I : Addr} {fp wr : List Addr} {n : Nat} {P : Nat → Value → Prop} {St : Nat → Heap → Prop} (W : Walks prog w A.in1 I fp wr n P St) (S : Addr) (hSf : S ∉ fp)
    (val : Nat → Int) (hval : ∀ i v, P i v → ∃ t, v = .int (val i) t) (hlt : ∀ i, i < n → 0 ≤ val i ∧ val i < 1000) (hn : n ≤ 2) {led : Bool} :
    ∀ (k i : Nat) (s : Shared) (o : Obj) (us : List Int), n - i = k → i ≤ n → St i s.heap → s.heap.get? S = some o → SetU led o us → us.length ≤ i → (∀ x, x ∈ us ↔ ∃ q, q < i ∧ val q = x) →
      (∀ h' tk o' us', (∀ b o, b ∉ S :: wr → s.heap.get? b = some o → h'.get? b = some o) → h'.get? S = some o' → SetU led o' us' → (∀ x, x ∈ us' ↔ ∃ q, q < n ∧ val q = x) → R (.ok (.ret .none)) { s with heap := h', toks := tk }) →
      codeAny (model prog w) A (.builtin "set.update.loop" ⟨[.ref S, .ref I], []⟩) R s := by
  have hSw : S ∉ wr := fun h => hSf (W.sub _ h)
  intro k
  induction k with
  | zero =>
    intro i s o us hk hi hst hS hU hlen hmem hR
    have hin : i = n := by omega
    subst hin
    refine codeAny_builtin PyProof.Rows.F.entry_set_update_loop ?_
    first | refine Mine.sb (Around.under_plainId PyProof.Rows.F.plain_set_update_loop _) ?_ | rw [Around.under_plainId PyProof.Rows.F.plain_set_update_loop _]
    show wpAny _ A.in1 (pyNext (.ref I) >>= _) _ _ s
    refine wpAny_bind (W.done s _ _ hst fun h' tk hm => ?_)
    show wpAny _ A.in1 (ret Value.none) _ _ _
    exact wpAny_pure (hR h' tk o us (fun b o hb e => hm b o (fun q => hb (.tail _ q)) e) (hm _ _ hSw hS) hU hmem)
  | succ k ih =>
    intro i s o us hk hi hst hS hU hlen hmem hR
    have hlt' : i < n := by omega
    refine codeAny_builtin PyProof.Rows.F.entry_set_update_loop ?_
    first | refine Mine.sb (Around.under_plainId PyProof.Rows.F.plain_set_update_loop _) ?_ | rw [Around.under_plainId PyProof.Rows.F.plain_set_update_loop _]
    show wpAny _ A.in1 (pyNext (.ref I) >>= _) _ _ s
    refine wpAny_bind (W.item i s _ _ hlt' hst fun v h1 tk1 hP hst1 hm1 => ?_)
    (refine x1_1 (hval i v hP) ?_; intro t er1; obtain rfl := er1)
    show wpAny _ A.in1 (holding [Value.int (val i) t] (setAdd S (.int (val i) t)) >>= _) _ _ _
    refine wpAny_bind (wpAny_holding ?_)
    unfold setAdd
    refine wpAny_holding ?_
    refine wpAny_bind ((intKind prog w).pyHash (k := val i) (intKind_is _ _ _ _) ?_)
    refine set_add (s := { s with heap := h1, toks := tk1 + 1 }) (hm1 _ _ hSw hS) hU (by omega) (hlt i hlt') fun b h' o' us' ho' hU' hl' hm' hsb => ?_
    refine wpAny_pure ⟨plainId_quiet PyProof.Rows.F.plain_set_update_loop _, ih (i + 1) _ o' us' (by omega) hlt' (W.frame _ h1 _ hst1 fun c hc oc e => ?_) ho' hU' (by omega) (fun x => ?_) fun h2 tk2 o2 us2 hk2 ho2 hU2 hm2 => ?_⟩
    · exact (hsb.2 c fun q => hSf (q ▸ hc)).trans e
    · rw [hm', hmem]
      constructor
      · rintro (⟨q, hq, e⟩ | e)
        · exact (i1_2 (q) ( by exact (Nat.lt_of_lt_of_le hq (Nat.le_add_right _ _))) ( e))
        · exact (i1_2 (i) ( by exact (Nat.lt_succ_self _)) ( e.symm))
      · (intro zr1; refine x1_2 zr1 ?_; clear zr1; intro q hq e)
        by_cases hqi : q = i
        · subst hqi; exact .inr e.symm
        · exact .inl (i1_2 (q) ( by omega) ( e))
    · refine hR h2 tk2 o2 us2 (fun c oc hc e => hk2 c oc hc ?_) ho2 hU2 hm2
      exact (hsb.2 c fun q => hc (q ▸ .head _)).trans (hm1 _ _ (fun q => hc (.tail _ q)) e)
set_option maxHeartbeats 3200000 in
theorem set_of_list {l : Addr} {items : Array Value} {ns : List Int} {Q : Value → Shared → Prop}
    (hh : A.handled = none) (hl : s.heap.IsList l items) (hi : IntsAre items.toList ns) (h2 : ns.length ≤ 2) (hlt : ∀ k ∈ ns, 0 ≤ k ∧ k < 1000)
    (h : ∀ (h' : Heap) (tk : Nat) o us, h'.get? s.heap.objs.size = some o → SetU (ledOf w) o us → (∀ x, x ∈ us ↔ x ∈ ns) →
      (∀ b o, b < s.heap.objs.size → s.heap.get? b = some o → h'.get? b = some o) → Q (.ref s.heap.objs.size) { s with heap := h', toks := tk }) :
    wpAny (model prog w) A (call (.type "set") [.ref l]) Q E s := by
  (refine x2_1 PySem.F.called_set.mro ?_; intro c tl hmro)
  have hmade := PySem.F.called_set.made
  have hsub := PySem.F.called_set.sub
  refine wpAny_call (codeAny_of_tree ?_)
  show wpAny _ _ (callAny (.type "set") _) _ _ _
  refine wpAny_pure ⟨Code.quiet_builtin _ (by decide +kernel), codeAny_builtin PySem.F.entry_type_call ?_⟩
  first | refine Mine.sb (Around.under_plain (weight_type_call_type "set" [.ref l] []) rfl) ?_ | rw [Around.under_plain (weight_type_call_type "set" [.ref l] []) rfl]
  have h1 := PySem.F.called_set.notType
  have h2' := PySem.F.called_set.canCreate
  have hct := PySem.F.typeCall_set_1 (.ref l)
  repeat (any_goals (first | assumption | wp_step))
  refine codeAny_mono (set_new (.ref l) (E := E) (Q₁ := fun obj s₁ => obj = .ref s.heap.objs.size ∧ s₁ = { s with heap := s.heap.push (setObj #[] 0 #[] (ledOf w)) }) ⟨rfl, rfl⟩) fun r s₁ hr => ?_
  cases r with
  | error e => exact hr
  | ok fl =>
    cases fl with
    | ret obj =>
      (refine x0_2 hr ?_; clear hr; intro er1 er2; obtain rfl := er1; obtain rfl := er2)
      have hS : (s.heap.push (setObj #[] 0 #[] (ledOf w))).get? s.heap.objs.size = some (setObj #[] 0 #[] (ledOf w)) := Heap.get?_push_size _ rfl
      have hT : Shared.TypeIs { s with heap := s.heap.push (setObj #[] 0 #[] (ledOf w)) } (.ref s.heap.objs.size) "set" := (i1_2 (_) ( hS) ( rfl))
      have hli := PySem.F.called_set.init.lookup
      have hbi := PySem.F.called_set.init.bind (.ref s.heap.objs.size)
      repeat (any_goals (first | assumption | wp_step))
      refine codeAny_mono (codeAny_call_builtin (R := wants (fun r s₂ => r = .none ∧ ∃ h' tk o us, s₂ = { s with heap := h', toks := tk } ∧
          h'.get? s.heap.objs.size = some o ∧ SetU (ledOf w) o us ∧ (∀ x, x ∈ us ↔ x ∈ ns) ∧
          (∀ b o, b < s.heap.objs.size → s.heap.get? b = some o → h'.get? b = some o)) E) PySem.F.called_set.init.plain PySem.F.entry_set_init (check_set_init_1 hT ?_)) fun r₂ s₂ hr₂ => ?_
      · obtain ⟨ol, hol, hcl, nl, hdl⟩ := hl
        obtain ⟨ocls, odict, odata, oslots⟩ := ol
        simp only at hcl hdl
        subst hcl; subst hdl
        have hol' : (s.heap.push (setObj #[] 0 #[] (ledOf w))).get? l = some { cls := .type "list", dict := odict, data := .seq items nl, slots := oslots } := Heap.get?_push_of_some _ hol
        have hsls := PySem.F.sub_list_set
        have hslf := PySem.F.sub_list_frozenset
        have hne : (Value.type "list" == Value.type "dict") = false := by decide
        have hl1 : (s.heap.push (setObj #[] 0 #[] (ledOf w))).IsList l items := ⟨_, hol', rfl, nl, rfl⟩
        have hS0 := hS
        unfold setObj at hS0
        unfold Builtin.«set.__init__» noKeywords Builtin.Frozenset.updateFrom
        generalize hPI : pyIter = PI
        wp_walk
        subst hPI
        refine wpAny_pyIter_list hl1 ?_
        refine wpAny_bind (wpAny_runValue ?_)
        have hlS : l < s.heap.objs.size := Heap.lt_size hol
        have hh3 : A.in1.in1.in1.handled = none := by simp [hh]
        have hneI : l ≠ (s.heap.push (setObj #[] 0 #[] (ledOf w))).objs.size := by
          rw [Heap.size_push]; exact Nat.ne_of_lt (Nat.lt_succ_of_lt hlS)
        have hSf : s.heap.objs.size ∉ [(s.heap.push (setObj #[] 0 #[] (ledOf w))).objs.size, l] := by
          rw [Heap.size_push]; simp only [List.mem_cons, List.mem_singleton, List.not_mem_nil, or_false, not_or]
          exact ⟨Nat.ne_of_lt (Nat.lt_succ_self _), Nat.ne_of_gt hlS⟩
        have hlen : items.size = ns.length := by have := IntsAre.length hi; simpa using this
        have hval : ∀ (i : Nat) (v : Value), items[i]? = some v → ∃ t, v = .int (ns.getD i 0) t := fun i v hv =>
          IntsAre.int_at hi i v (by first | exact ((Array.getElem?_toList).trans hv) | (rw [Array.getElem?_toList]; exact hv))
        have hat : ∀ i, i < items.size → ns.getD i 0 ∈ ns := fun i hi' => by
          have : i < ns.length := by exact (Nat.lt_of_lt_of_eq hi' hlen)
          rw [List.getD_eq_getElem?_getD, List.getElem?_eq_getElem this]; exact List.getElem_mem this
        have hget : ((s.heap.push (setObj #[] 0 #[] (ledOf w))).push { cls := .type "list_iterator", data := .fields #[.ref l, .int 0 0] }).get? s.heap.objs.size = some (setObj #[] 0 #[] (ledOf w)) := Heap.get?_push_of_some _ hS
        refine set_loop (Walks.list hh3 _ l hneI items) s.heap.objs.size hSf (fun i => ns.getD i 0) hval (fun i hi' => hlt _ (hat i hi')) (by exact (Nat.le_trans (Nat.le_of_eq hlen) h2)) (items.size - 0) 0 _ _ [] (by exact rfl) (Nat.zero_le _)
          ⟨(i1_3 (_) ( Heap.get?_push_size _ rfl) ( rfl) ( rfl)), (hl1.push _)⟩ hget (i3_2 (_) ( _) ( _) ( rfl) ( .zero)) (Nat.zero_le _) (fun x => by simp) fun h' tk o' us' hk ho' hU' hm' => ?_
        refine wpAny_pure ?_
        show wpAny _ _ (ret Value.none) _ _ _
        refine wpAny_pure ⟨rfl, h', tk, o', us', rfl, ho', hU', fun x => ?_, fun b o hb e => ?_⟩
        · first | refine Mine.sb (hm') ?_ | rw [hm']
          constructor
          · (intro zr1; refine x1_2 zr1 ?_; clear zr1; intro q hq er1; obtain rfl := er1); exact hat q hq
          · intro hx
            obtain ⟨q, hq, e⟩ := List.getElem_of_mem hx
            exact (i1_2 (q) ( by exact (Nat.lt_of_lt_of_eq hq (Eq.symm hlen))) ( by first | exact ((List.getD_eq_getElem?_getD).trans ((List.getElem?_eq_getElem hq).trans e)) | (rw [List.getD_eq_getElem?_getD, List.getElem?_eq_getElem hq]; exact e)))
        · have hb1 : b ≠ s.heap.objs.size := Nat.ne_of_lt hb
          have hb2 : b ≠ (s.heap.push (setObj #[] 0 #[] (ledOf w))).objs.size := by
            rw [Heap.size_push]; exact Nat.ne_of_lt (Nat.lt_succ_of_lt hb)
          exact hk b o (by simp only [List.mem_cons, List.mem_singleton, List.not_mem_nil, or_false, not_or]; exact ⟨hb1, hb2⟩) (Heap.get?_push_of_some _ (Heap.get?_push_of_some _ e))
      · cases r₂ with
        | error e => exact hr₂
        | ok fl₂ =>
          cases fl₂ with
          | ret r =>
            obtain ⟨rfl, h', tk, o, us, rfl, ho, hU, hm, hk'⟩ := hr₂
            repeat (any_goals (first | assumption | wp_step))
            exact h _ _ o us ho hU hm hk'
          | _ => exact hr₂.elim
    | _ => exact hr.elim
end
end
section
--FILE JTC
theorem slot_setiter_next : Slot "set_iterator" "__next__" "set_iterator.__next__" :=
  .of (owner := "set_iterator") (n := "__next__") (by rw [typeLookup_type, builtinLookup_eq_fast]; kernel_rfl) (by decide +kernel) (by decide +kernel) (by decide +kernel)
    (by first | exact .inl (by decide +kernel) | exact .inr (by decide +kernel)) (by rw [isSubtype_type]; kernel_rfl)
theorem slot_setiter_iter : Slot "set_iterator" "__iter__" "set_iterator.__iter__" :=
  .of (owner := "set_iterator") (n := "__iter__") (by rw [typeLookup_type, builtinLookup_eq_fast]; kernel_rfl) (by decide +kernel) (by decide +kernel) (by decide +kernel)
    (by first | exact .inl (by decide +kernel) | exact .inr (by decide +kernel)) (by rw [isSubtype_type]; kernel_rfl)
theorem entry_setiter_next : entryFor table "set_iterator.__next__" = some Builtin.«set_iterator.__next__» := entryFor_of_tree (by kernel_rfl)
theorem entry_setiter_iter : entryFor table "set_iterator.__iter__" = some Builtin.«dict_keyiterator.__iter__» :=
  entryFor_alias (id' := "dict_keyiterator.__iter__") (by kernel_rfl) rfl (by decide +kernel) (by kernel_rfl)
theorem entry_set_iter : entryFor table "set.__iter__" = some Builtin.«frozenset.__iter__» :=
  entryFor_alias (id' := "frozenset.__iter__") (by kernel_rfl) rfl (by decide +kernel) (by kernel_rfl)
theorem owner_setiter : Manifest.owners.lookup (String.ofList ['r', 'o', 't', 'a', 'r', 'e', 't', 'i', '_', 't', 'e', 's'].reverse) = some Manifest.sig_set_iterator := by kernel_rfl
theorem args_setiter_next (a : Value) : argsOk "set_iterator.__next__" ⟨[a], []⟩ := by
  unfold argsOk; rw [signature?_of (id := "set_iterator.__next__") (n := ['_', '_', 't', 'x', 'e', 'n', '_', '_']) (o := ['r', 'o', 't', 'a', 'r', 'e', 't', 'i', '_', 't', 'e', 's']) (by kernel_rfl) owner_setiter]; kernel_rfl
theorem args_setiter_iter (a : Value) : argsOk "set_iterator.__iter__" ⟨[a], []⟩ := by
  unfold argsOk; rw [signature?_of (id := "set_iterator.__iter__") (n := ['_', '_', 'r', 'e', 't', 'i', '_', '_']) (o := ['r', 'o', 't', 'a', 'r', 'e', 't', 'i', '_', 't', 'e', 's']) (by kernel_rfl) owner_setiter]; kernel_rfl

noncomputable def ordOf (w : World) (a : Addr) (ep : Nat) (es : Array (Int × Value)) : Array (Int × Value) := if w.params.followText "set-order" then pickOrder (w.params.setOrder a ep) es else es
noncomputable def slotL (place : Array Nat) : Nat → Nat
  | 0 => 0
  | i + 1 => place.getD i 0 + 1
noncomputable def slotAt (w : World) (place : Array Nat) (i : Nat) : Nat := if w.params.followText "set-order" then 0 else slotL place i
noncomputable def iterObj (w : World) (a : Addr) (ep n : Nat) (place : Array Nat) (i : Nat) : Obj := { cls := .type "set_iterator", dict := none, data := .fields #[.int (slotAt w place i) 0, .int i 0, .ref a, .int n 0, .int ep 0], slots := #[] }
theorem pick0 {α : Type} (f : Nat → Nat) : pickOrder f (#[] : Array α) = #[] := rfl
theorem pick1 {α : Type} (f : Nat → Nat) (x : α) : pickOrder f #[x] = #[x] := by
  unfold pickOrder
  simp [pickOrder.go, Nat.mod_one]
theorem pick2 {α : Type} (f : Nat → Nat) (x y : α) : pickOrder f #[x, y] = #[x, y] ∨ pickOrder f #[x, y] = #[y, x] := by
  unfold pickOrder
  rcases Nat.mod_two_eq_zero_or_one (f 0) with e | e
  · left; simp [pickOrder.go, e, Nat.mod_one]
  · right; simp [pickOrder.go, e, Nat.mod_one]
theorem ord_cases {w : World} {a : Addr} {ep : Nat} {es : Array (Int × Value)} {place : Array Nat} {us : List Int} (T : TabIs es place us) :
    (ordOf w a ep es).size = us.length ∧ ∃ us', IntsAre ((ordOf w a ep es).toList.map (·.2)) us' ∧ us'.Perm us := by
  unfold ordOf
  cases T with
  | zero => split <;> exact ⟨rfl, [], .nil, .refl _⟩
  | one k t j hj =>
    first | refine Mine.sb (pick1) ?_ | rw [pick1]
    split <;> exact ⟨rfl, [k], .cons _ _ .nil, .refl _⟩
  | two k l t u i j hij hj hne =>
    split
    · rcases pick2 (w.params.setOrder a ep) (hashInt k, Value.int k t) (hashInt l, Value.int l u) with e | e
      · rw [e]; exact ⟨rfl, [k, l], .cons _ _ (.cons _ _ .nil), .refl _⟩
      · rw [e]; exact ⟨rfl, [l, k], .cons _ _ (.cons _ _ .nil), .swap _ _ _⟩
    · exact ⟨rfl, [k, l], .cons _ _ (.cons _ _ .nil), .refl _⟩
section
variable {prog : Program} {w : World} {A : Around} {E : Value → Shared → Prop} {s : Shared} {a : Addr} {es : Array (Int × Value)} {ep : Nat} {place : Array Nat} {us : List Int}
theorem below_at (T : TabIs es place us) (i : Nat) (hi : i ≤ us.length) : SetTable.below place (slotL place i) = i := by
  cases T with
  | zero => have : i = 0 := by simpa using hi
            subst this; rfl
  | one k t j hj =>
    first | refine Mine.sb (below_one) ?_ | rw [below_one]
    have : i = 0 ∨ i = 1 := by simp at hi; omega
    rcases this with rfl | rfl <;> simp [slotL]
  | two k l t u p q hij hj hne =>
    first | refine Mine.sb (below_two) ?_ | rw [below_two]
    have : i = 0 ∨ i = 1 ∨ i = 2 := by simp at hi; omega
    rcases this with rfl | rfl | rfl
    · simp [slotL]
    · simp [slotL]; exact hij
    · simp [slotL]
theorem set_next {i : Nat} {Q : Option (Value × Nat) → Shared → Prop} (ho : s.heap.get? a = some (setObj es ep place (ledOf w))) (T : TabIs es place us) (hi : i ≤ us.length)
    (h : Q (((ordOf w a ep es)[i]?).map fun e => (e.2, slotAt w place (i + 1))) s) : wpAny (model prog w) A (setNext a (slotAt w place i) i ep) Q E s := by
  have hf := T.fits (led := ledOf w)
  have hoz := (ord_cases (w := w) (a := a) (ep := ep) T).1
  unfold setNext
  refine wpAny_bind (wpAny_setState_of ho rfl hf ?_)
  dsimp only
  unfold setsByText
  refine wpAny_bind (wpAny_bind (wpAny_askSetting (wpAny_pure ?_)))
  show wpAny _ _ (if w.params.followText "set-order" = true then _ else _) _ _ s
  cases hb : w.params.followText "set-order" with
  | true =>
    simp only [if_true, bne_self_eq_false, Bool.false_eq_true, if_false]
    unfold setWalk setsByText
    refine wpAny_bind (wpAny_bind (wpAny_setState_of ho rfl hf ?_))
    dsimp only
    refine wpAny_bind (wpAny_bind (wpAny_askSetting (wpAny_pure ?_)))
    show wpAny _ _ (if w.params.followText "set-order" = true then _ else _) _ _ s
    first | refine Mine.sb (hb) ?_ | rw [hb]
    simp only [if_true]
    refine wpAny_bind (wpAny_askSetting (wpAny_pure (wpAny_pure ?_)))
    unfold ordOf slotAt at h
    simp only [hb, if_true] at h
    unfold slotAt
    simp only [hb, if_true]
    exact h
  | false =>
    simp only [Bool.false_eq_true, if_false]
    have hled : ledOf w = true := by unfold ledOf; rw [hb]; rfl
    first | refine Mine.sb (hled) ?_ | rw [hled]
    refine wpAny_bind (wpAny_pure ?_)
    refine wpAny_bind (wpAny_pure ?_)
    unfold ordOf slotAt at h
    simp only [hb, Bool.false_eq_true, if_false] at h
    unfold slotAt
    simp only [hb, Bool.false_eq_true, if_false]
    have hb' := below_at T i hi
    refine wpAny_pure ?_
    rw [show (tabOf place true).place = place from rfl, hb']
    cases T with
    | zero =>
      have : i = 0 := by simpa using hi
      subst this
      exact h
    | one k t j hj =>
      have : i = 0 ∨ i = 1 := by simp at hi; omega
      rcases this with rfl | rfl <;> exact h
    | two k l t u p q hij hj hne =>
      have : i = 0 ∨ i = 1 ∨ i = 2 := by simp at hi; omega
      rcases this with rfl | rfl | rfl <;> exact h
end
end
section
--FILE JTD
theorem set_len_attr : typeLookup (.type "set") "__len__" = pure (some (.builtin "set.__len__")) := by rw [typeLookup_type, builtinLookup_eq_fast]; kernel_rfl
section
variable {prog : Program} {w : World} {A : Around} {E : Value → Shared → Prop} {s : Shared} {a I : Addr} {es : Array (Int × Value)} {ep : Nat} {place : Array Nat} {us : List Int}
theorem set_iter {Q : Value → Shared → Prop} (ho : s.heap.get? a = some (setObj es ep place (ledOf w))) (T : TabIs es place us)
    (hQ : Q (.ref s.heap.objs.size) { s with heap := s.heap.push (iterObj w a ep us.length place 0) }) : wpAny (model prog w) A (pyIter (.ref a)) Q E s := by
  have hT : s.TypeIs (.ref a) "set" := (i1_2 (_) ( ho) ( rfl))
  have hf := T.fits (led := ledOf w)
  refine wpAny_pyIter_slot hT PySem.F.slot_set_iter (wpAny_call_entry PySem.F.slot_set_iter hT entry_set_iter ?_ (PySem.F.args_set_iter_1 _))
  unfold Builtin.«frozenset.__iter__»
  refine wpAny_bind (wpAny_pure ?_)
  refine wpAny_bind ?_
  unfold Builtin.Frozenset.sizeOf setEntries
  refine wpAny_bind (wpAny_bind (wpAny_setState_of ho rfl hf (wpAny_pure (wpAny_pure ?_))))
  refine wpAny_bind ?_
  unfold setDrawn
  refine wpAny_bind (wpAny_setState_of ho rfl hf ?_)
  dsimp only
  unfold setsByText
  refine wpAny_bind (wpAny_bind (wpAny_askSetting (wpAny_pure ?_)))
  refine wpAny_pure ?_
  have e0 : ∀ x : Bool, (!x && (!(tabOf place (ledOf w)).plain && decide (es.size > 1))) = false := fun x => by cases x <;> rfl
  show wpAny _ _ (if (!_ && (!(tabOf place (ledOf w)).plain && decide (es.size > 1))) = true then _ else _) _ _ s
  rw [if_neg (by first | exact ((e0).trans Bool.false_ne_true) | (rw [e0]; exact Bool.false_ne_true))]
  refine wpAny_bind (wpAny_pure ?_)
  refine wpAny_bind ?_
  unfold setEpoch
  refine wpAny_bind (wpAny_setState_of ho rfl hf (wpAny_pure ?_))
  refine wpAny_bind (wpAny_newObj_type (wpAny_pure ⟨_, rfl, "set_iterator", _, (i1_2 (_) ( Heap.get?_push_size _ rfl) ( rfl)), slot_setiter_next.lookup, ?_⟩))
  have hs0 : slotAt w place 0 = 0 := by unfold slotAt; split <;> rfl
  unfold iterObj at hQ
  rw [hs0, ← T.size] at hQ
  exact hQ
theorem set_pyNext_item {i : Nat} {e : Int × Value} {Q : Option Value → Shared → Prop} (hit : s.heap.get? I = some (iterObj w a ep us.length place i)) (ho : s.heap.get? a = some (setObj es ep place (ledOf w))) (T : TabIs es place us)
    (hx : (ordOf w a ep es)[i]? = some e)
    (hQ : ∀ h', h'.get? I = some (iterObj w a ep us.length place (i + 1)) → Heap.SameBut I s.heap h' → Q (some e.2) { s with heap := h' }) : wpAny (model prog w) A (pyNext (.ref I)) Q E s := by
  have hT : s.TypeIs (.ref I) "set_iterator" := (i1_2 (_) ( hit) ( rfl))
  have hf := T.fits (led := ledOf w)
  have hi : i < us.length := by
    have := (ord_cases (w := w) (a := a) (ep := ep) T).1
    rcases Nat.lt_or_ge i (ordOf w a ep es).size with q | q
    · exact (Nat.lt_of_lt_of_eq q this)
    · (first | exact nos (Array.getElem?_eq_none q) hx | exact nos hx (Array.getElem?_eq_none q) | (rw [Array.getElem?_eq_none q] at hx; cases hx))
  unfold pyNext
  refine wpAny_bind (wpAny_attempt (wpAny_callSpecial?_slot (name := Str.ofString "__next__") hT slot_setiter_next
    (wpAny_call_entry slot_setiter_next hT entry_setiter_next ?_ (args_setiter_next _))))
  unfold Builtin.«set_iterator.__next__»
  refine wpAny_bind (wpAny_pure ?_)
  refine wpAny_bind (wpAny_fieldsOf hit rfl ?_)
  dsimp only
  refine wpAny_bind ?_
  unfold setEntries
  refine wpAny_bind (wpAny_setState_of ho rfl hf (wpAny_pure ?_))
  dsimp only
  rw [if_neg (by rw [T.size]; simp)]
  simp only [Int.toNat_natCast]
  refine wpAny_bind (set_next ho T (Nat.le_of_lt hi) ?_)
  first | refine Mine.sb (hx) ?_ | rw [hx]
  dsimp only [Option.map_some]
  refine wpAny_bind (wpAny_setField hit rfl (by simp) ?_)
  have h1 : (s.heap.update I (Obj.mapFields (·.setIfInBounds 0 (rawInt (slotAt w place (i + 1)))))).get? I = some { cls := .type "set_iterator", dict := none, data := .fields #[.int (slotAt w place (i + 1)) 0, .int i 0, .ref a, .int us.length 0, .int ep 0], slots := #[] } :=
    Heap.get?_update_self _ hit rfl
  refine wpAny_bind (wpAny_setField (s := { s with heap := s.heap.update I (Obj.mapFields (·.setIfInBounds 0 (rawInt (slotAt w place (i + 1))))) }) h1 rfl (by simp) ?_)
  have h2 : ((s.heap.update I (Obj.mapFields (·.setIfInBounds 0 (rawInt (slotAt w place (i + 1)))))).update I (Obj.mapFields (·.setIfInBounds 1 (rawInt ((i : Int) + 1))))).get? I = some (iterObj w a ep us.length place (i + 1)) :=
    Heap.get?_update_self _ h1 rfl
  exact wpAny_pure (i1_2 (e.2) ( rfl) ( wpAny_pure (hQ _ h2 ((Heap.SameBut.update ..).trans (Heap.SameBut.update ..)))))
theorem set_pyNext_end {Q : Option Value → Shared → Prop} (hh : A.handled = none) (hit : s.heap.get? I = some (iterObj w a ep us.length place us.length)) (ho : s.heap.get? a = some (setObj es ep place (ledOf w))) (T : TabIs es place us)
    (hQ : ∀ h', Heap.ExtBut I s.heap h' → Q none { s with heap := h' }) : wpAny (model prog w) A (pyNext (.ref I)) Q E s := by
  have hT : s.TypeIs (.ref I) "set_iterator" := (i1_2 (_) ( hit) ( rfl))
  have hf := T.fits (led := ledOf w)
  unfold pyNext
  refine wpAny_bind (wpAny_attempt (wpAny_callSpecial?_slot (name := Str.ofString "__next__") hT slot_setiter_next
    (wpAny_call_entry slot_setiter_next hT entry_setiter_next ?_ (args_setiter_next _))))
  unfold Builtin.«set_iterator.__next__»
  refine wpAny_bind (wpAny_pure ?_)
  refine wpAny_bind (wpAny_fieldsOf hit rfl ?_)
  dsimp only
  refine wpAny_bind ?_
  unfold setEntries
  refine wpAny_bind (wpAny_setState_of ho rfl hf (wpAny_pure ?_))
  dsimp only
  rw [if_neg (by rw [T.size]; simp)]
  simp only [Int.toNat_natCast]
  refine wpAny_bind (set_next ho T (Nat.le_refl _) ?_)
  rw [Array.getElem?_eq_none (by first | exact (((ord_cases T).1).trans (Nat.le_refl _)) | (rw [(ord_cases T).1]; exact Nat.le_refl _))]
  dsimp only [Option.map_none]
  refine wpAny_bind (wpAny_setField hit rfl (by simp) ?_)
  show wpAny _ _ (newExc (.type "StopIteration") [] >>= _) _ _ _
  refine wpAny_bind ?_
  simp only [newExc, newTuple]
  refine wpAny_bind (wpAny_newObj_type ?_ (by size_fits))
  refine wpAny_bind (m := firstArgMember _ _) (wpAny_of_eq (a := Value.none) (by first | rfl | (simp only [firstArgMember]; rfl)) ?_)
  refine wpAny_newObj_type ?_ (by size_fits)
  simp only [raiseNew]
  refine wpAny_bind (wpAny_handled ?_)
  refine Mine.sb (show A.in1.handled = none from hh) ?_
  refine wpAny_bind (wpAny_pure (wpAny_throw ?_))
  refine wpAny_bind (wpAny_isInstance (T := "StopIteration") (b := true) (i1_2 (_) ( Heap.get?_push_size _ rfl) ( rfl)) isSubtype_stop ?_)
  exact wpAny_pure (hQ _ (((Heap.SameBut.update ..).extBut.push _).push _))
theorem Walks.setOf (hh : A.handled = none) (I a : Addr) (hne : a ≠ I) (T : TabIs es place us) :
    Walks prog w A I [I, a] [I] us.length (fun i v => ∃ e, (ordOf w a ep es)[i]? = some e ∧ v = e.2) (fun i h => h.get? I = some (iterObj w a ep us.length place i) ∧ h.get? a = some (setObj es ep place (ledOf w))) where
  sub := fun b hb => by simp at hb; simp [hb]
  frame := fun _ _ _ st hk => ⟨hk I (by simp) _ st.1, hk a (by simp) _ st.2⟩
  item := fun i s Q E hi st hQ => by
    have hz := (ord_cases (w := w) (a := a) (ep := ep) T).1
    have hlt : i < (ordOf w a ep es).size := by exact (Nat.lt_of_lt_of_eq hi (Eq.symm hz))
    refine set_pyNext_item st.1 st.2 T (Array.getElem?_eq_getElem hlt) fun h' hit' hs' => ?_
    exact hQ _ h' s.toks (i1_2 (_) ( Array.getElem?_eq_getElem hlt) ( rfl)) ⟨hit', (hs'.2 a hne).trans st.2⟩ fun b o hb e => (hs'.2 b (fun q => hb (by simp [q]))).trans e
  done := fun s Q E st hQ => set_pyNext_end hh st.1 st.2 T fun h' he' => hQ h' s.toks fun b o hb e => he' b o (fun q => hb (by simp [q])) e
  self := fun i s Q E st hQ => by
    have hT : s.TypeIs (.ref I) "set_iterator" := (i1_2 (_) ( st.1) ( rfl))
    refine wpAny_pyIter_slot hT slot_setiter_iter (wpAny_call_entry slot_setiter_iter hT entry_setiter_iter ?_ (args_setiter_iter _))
    show wpAny _ _ (ret (.ref I)) _ _ s
    exact wpAny_pure ⟨_, rfl, "set_iterator", _, hT, slot_setiter_next.lookup, hQ⟩
theorem set_hint {r : Addr} {Q : Bool → Shared → Prop} (hT : s.TypeIs (.ref r) "set") (h : Q false s) : wpAny (model prog w) A (Builtin.List.listLengthHint (.ref r)) Q E s := by
  unfold Builtin.List.listLengthHint
  refine wpAny_bind (wpAny_specialOf hT set_len_attr ?_)
  generalize hid : ("set.__len__" : String) = id0
  wp_delta
  refine Mine.sb (show splitId id0 = some ("set", "__len__") from by subst hid; decide +kernel) ?_
  subst hid
  refine wpAny_bind (wpAny_isInstance (T := "set") (b := true) hT (by rw [isSubtype_type]; kernel_rfl) ?_)
  refine wpAny_ite_split (fun hab => absurd hab (by decide)) (fun _ => ?_)
  refine wpAny_ite_split (fun _ => ?_) (fun hab => absurd (by decide +kernel) hab)
  refine wpAny_bind (wpAny_typeOf hT ?_)
  exact wpAny_pure h
theorem srcSet (T : TabIs es place us) : KdlSrc prog w "set" a a us.length (fun i v => ∃ e, (ordOf w a ep es)[i]? = some e ∧ v = e.2) (fun h => h.get? a = some (setObj es ep place (ledOf w))) where
  type := fun _ hm => (i1_2 (_) ( hm) ( rfl))
  there := fun _ hm => ⟨Heap.lt_size hm, Heap.lt_size hm⟩
  keep := fun _ _ hm hk => hk a (.inl rfl) _ hm
  notList := by decide
  notTuple := by decide
  hint := fun _ _ _ _ hm hq => set_hint (i1_2 (_) ( hm) ( rfl)) hq
  iter := fun _ _ hh hm => (i2_3 (_) ( _) ( (fun _ _ hq => set_iter hm T hq)) ( Walks.setOf hh _ a (Nat.ne_of_lt (Heap.lt_size hm)) T) ( ⟨Heap.get?_push_size _ rfl, Heap.get?_push_of_some _ hm⟩))
end
end
section
--FILE JT
noncomputable def SetO (w : World) (o : Obj) (ns : List Int) : Prop := ∃ us, SetU (ledOf w) o us ∧ ∀ x, x ∈ us ↔ x ∈ ns
theorem small_len : ∀ {us ns : List Int}, us.length ≤ 2 → us.Nodup → (∀ x, x ∈ us → x ∈ ns) → us.length ≤ ns.length
  | [], _, _, _, _ => Nat.zero_le _
  | [k], [], _, _, h => absurd (h k (by simp)) (by simp)
  | [k], _ :: _, _, _, _ => by simp
  | [k, l], [], _, _, h => absurd (h k (by simp)) (by simp)
  | [k, l], [z], _, hn, h => by
    have h1 := h k (by simp)
    have h2 := h l (by simp)
    simp at h1 h2 hn
    exact absurd (h1.trans h2.symm) hn
  | [k, l], _ :: _ :: _, _, _, _ => by simp
  | _ :: _ :: _ :: _, _, h, _, _ => by simp at h
section
variable {X : Cx} {m : Loc} {σ : Led} {s : Shared} {d : Nat}
theorem j_set_list {l : Addr} {vs : List Value} {ns : List Int} {n : Nat} {Q : Value → Loc → Led → Prop} (O : X.Ok d) (hs : σ l = some (lstOf vs n)) (hi : IntsAre vs ns) (h2 : ns.length ≤ 2) (hlt : ∀ k ∈ ns, 0 ≤ k ∧ k < 1000)
    (h : ∀ a o, σ a = none → SetO X.w o ns → Q (.ref a) m (σ.set a o)) : J X (call (.type "set") [.ref l]) m σ Q := by
  intro b s B S
  refine set_of_list (ns := ns) O.hh (lstAt S hs lstO) (by simpa using hi) h2 hlt fun h' tk o us ho hU hm hk => ?_
  exact .mk B.to (S.newObj (Nat.le_refl _) ho fun b o e => hk b o (Heap.lt_size e) e) (h _ _ (S.fresh (Nat.le_refl _)).1 (i1_2 (us) ( hU) ( hm)))
theorem intsAre_perm_len {vs : List Value} {us : List Int} (h : IntsAre vs us) : vs.length = us.length := IntsAre.length h
theorem j_sorted_set {a : Addr} {o : Obj} {ns : List Int} {Q : Value → Loc → Led → Prop} (O : X.Ok d) (hs : σ a = some o) (ho : SetO X.w o ns) (h2 : ns.length ≤ 2)
    (h : ∀ l vs us e, σ l = none → IntsAre vs us → us.Nodup → (∀ k, k ∈ us ↔ k ∈ ns) → us.length ≤ ns.length → Q (.ref l) m (σ.set l (lstOf vs e))) : J X (call (.builtin "sorted") [.ref a]) m σ Q := by
  intro b s B S
  (refine x1_2 ho ?_; clear ho; (intro us zt1 hm; refine x3_2 zt1 ?_; clear zt1; intro es ep place er2 T; obtain rfl := er2))
  have hat := (S.nw _ _ hs).1
  have hoc := ord_cases (w := X.w) (a := a) (ep := ep) T
  refine kdu_sorted (srcSet T) O.hh S.fr S.newsAll hat (by rw [sizeLine_eq]; have := T.len; exact (Nat.le_trans this (Nat.le_of_ble_eq_true rfl))) fun D h' tk vs F' N' l1 hl hv => ?_
  obtain ⟨hz, us', hi', hp'⟩ := hoc
  have hvs : vs = (ordOf X.w a ep es).toList.map (·.2) := by
    refine List.ext_getElem? fun j => ?_
    rcases Nat.lt_or_ge j vs.length with hj | hj
    · obtain ⟨e, he, hve⟩ := hv j vs[j] (List.getElem?_eq_getElem hj)
      rw [List.getElem?_eq_getElem hj, List.getElem?_map, Array.getElem?_toList, he, hve]; rfl
    · rw [List.getElem?_eq_none hj, List.getElem?_eq_none (by simp; exact (Nat.le_trans (Nat.le_trans (Nat.le_of_eq hz) (Nat.le_of_eq (Eq.symm hl))) hj))]
  rw [← hvs] at hi'
  (refine x0_2 (S.ofFreshAt (tk := tk) F' N' l1) ?_; intro T2 no)
  have hoD := (N' _ (.head _)).1
  refine wpAny_call_entry slot_list_sort (i1_2 (_) ( hoD) ( rfl)) entry_list_sort (list_sort_tree hoD hi' (by rw [hl]; have := T.len; exact (Nat.lt_of_le_of_lt this (Nat.le_of_ble_eq_true rfl))) fun out ns' a1 a2 a3 => (i1_2 (_) ( rfl) ( ?_))) (args_list_sort _)
  (refine x1_1 (sortedHeap_at (out := out) hoD) ?_; intro e he)
  have T3 := T2.upd (tk := tk) (o' := lstOf out.toList e) Led.set_self (sortedHeap_ext (vs := vs) (out := out)) (by rw [he])
  have hpp : ns'.Perm us := a2.trans hp'
  have hmm : ∀ k, k ∈ ns' ↔ k ∈ ns := fun k => (hpp.mem_iff).trans (hm k)
  have hnd : ns'.Nodup := hpp.nodup_iff.mpr T.nodup
  refine .mk B.to (σ' := σ.set D (lstOf out.toList e)) ?_ (h D _ ns' e no a1 hnd hmm (small_len (by first | exact ((hpp.length_eq).trans T.len) | (rw [hpp.length_eq]; exact T.len)) hnd fun x hx => (hmm x).mp hx))
  have : (σ.set D (listOf vs.toArray 0)).set D (lstOf out.toList e) = σ.set D (lstOf out.toList e) := by
    funext c; unfold Led.set; split <;> rfl
  rw [this] at T3
  exact T3
end
end
theorem fillOnce (w : World) : PySem.Challenge.rw_pq0008_01 = PySem.Challenge.rw_pq0008_01 ∧ hd.heap_1 w.params = hd.heap_1 w.params := by k_fill; exact ⟨rfl, rfl⟩
set_option maxHeartbeats 4000000
local macro_rules | `(tactic| k_mem) => `(tactic| first
  | with_reducible assumption
  | exact rfl
  | exact Loc.set_self
  | exact Led.set_self
  | ((with_reducible first | refine' kind_eq ?h ?k | refine' swaps_eq ?h ?k | refine' inter_eq ?h ?k | refine' clos_eq ?h ?k | refine' swapsSole_eq ?h ?k | refine' swapped_eq ?h ?k | refine' fold_eq ?h ?k | refine' cells_eq ?h ?k); (case h => assumption); (case k => intros; exact rfl))
  | (with_reducible refine' Loc.get_ne (by decide) ?_; k_mem)
  | (with_reducible refine' Led.get_ne (by first | assumption | (apply Ne.symm; assumption)) ?_; k_mem)
  | k_is
  | assumption
  | (intros; exact rfl))
local macro_rules | `(tactic| k_upd) => `(tactic| first
  | (with_reducible first | refine' ifF' ?_ | refine' ifT' ?_ | refine' ifNT' ?_ | refine' ifNF' ?_ | refine' j_execs_nil ?_ | refine' j_Return_some ?_ | refine' j_Return_none ?_ | refine' j_If ?_ | refine' j_isTrue_Not ?_ | refine' j_isTrue_or_nil ?_ | refine' j_isTrue_and_nil ?_ | refine' j_isTrue_or ?_ | refine' j_isTrue_and ?_ | refine' j_IfExp ?_ | refine' j_BinOp ?_ | refine' j_BoolOp_one ?_ | refine' j_BoolOp_and ?_ | refine' j_Subscript ?_ | refine' j_assign_Name ?_ | refine' j_mkDict ?_ | refine' j_int ?_ | refine' j_str ?_ | refine' j_none ?_ | refine' j_bool ?_ | refine' j_tests_nil ?_ | refine' j_tests_one ?_ | refine' j_sliceFrom ?_ | refine' j_sliceTo ?_ | refine' j_args0 ?_ | refine' j_Tuple ?_ | refine' j_List ?_ | refine' j_spliced_nil ?_ | refine' j_spliced_one ?_ | refine' j_spliced_two ?_ | refine' j_spliced_three ?_ | refine' j_truthy_bool ?_ | refine' j_ne ?_ | refine' j_eq ?_ | refine' j_lt ?_ | refine' j_gt ?_ | refine' j_le ?_ | refine' j_add ?_ | refine' j_sub ?_ | refine' j_eq_str ?_ | refine' j_ne_str ?_ | refine' j_in_str ?_ | refine' j_isspace_m ?_ | refine' j_isspace ?_ | refine' j_is_none ?_ | refine' j_cB0 ?_)
  | (with_reducible refine' h_execs_last ?_; intro _ _)
  | (with_reducible refine' h_execs_cons ?_; intro _ _ _)
  | ((with_reducible first | refine' j_Assign_Name ?_ ?k | refine' j_Assign_Attribute ?_ ?k | refine' j_Assign_Subscript ?_ ?k | refine' j_isTrue_Compare1 ?_ ?k | refine' j_isTrue_chain2 ?_ ?k | refine' j_Compare1 ?_ ?k | refine' j_Attribute ?_ ?k | refine' j_CallMethod ?_ ?k); rotate_left; (case k => k_mem))
  | ((with_reducible first | refine' j_isTrue_plain ?_ ?k | refine' j_Call ?_ ?k); rotate_left; (case k => k_mem))
  | ((with_reducible first | refine' j_Assign_Tuple ?_ ?k ?l | refine' j_Expr ?_ ?k ?l); rotate_left; (case k | l => k_mem))
  | ((with_reducible refine' j_Assign_Tuple_swapped2 ?_ ?k ?l); rotate_left; (case k | l => k_mem))
  | ((with_reducible refine' j_name_local ?a ?b ?c ?_ ?e); (case a | b | c | e => k_mem))
  | ((with_reducible refine' j_name_cell ?a ?b ?c ?d ?e ?_ ?f); (case a | b | c | d | e | f => k_mem))
  | ((with_reducible refine' j_name_free ?a ?b ?c ?d ?e ?_ ?f ?g); (case a | b | c | d | e | f | g => k_mem))
  | ((with_reducible refine' j_name_global ?a ?b ?c ?_ ?e); (case a | b | c | e => k_mem))
  | ((with_reducible refine' j_name_builtin ?a ?b ?c ?v ?n ?_ ?e); (case a | b | c => k_mem); (case v => boot_fast); (case n => decide); (case e => exact rfl))
  | ((with_reducible first | refine' j_args1 ?c ?_ | refine' j_args2 ?c ?_ | refine' j_args3 ?c ?_ | refine' j_cB1 ?c ?_ | refine' j_cT1 ?c ?_); (case c => exact rfl))
  | ((with_reducible first | refine' j_store_local ?a ?b ?_ | refine' j_cB2 ?a ?b ?_ | refine' j_cK0 ?a ?b ?_); (case a | b => k_mem))
  | ((with_reducible refine' j_setattr ?a ?b ?c ?d ?e ?f ?g ?i ?_); (case a | b | c | d | e | f | g => k_mem); (case i => (simp)))
  | ((with_reducible first | refine' j_mkTuple ?_ ?k | refine' j_mkList ?_ ?k); rotate_left; (case k => simp))
  | ((with_reducible refine' j_attr ?a ?b ?c ?d ?e ?f ?g ?h ?_); (case a | b | c | d | e | f | g | h => k_mem))
  | ((with_reducible refine' j_meth ?a ?b ?c ?d ?e ?f ?_); (case a | b | c | d | e | f => k_mem))
  | ((with_reducible refine' j_cK1 ?a ?b ?c ?_); (case a | b | c => k_mem))
  | ((with_reducible first | refine' j_cK2 ?a ?b ?c ?d ?_ | refine' j_cK3 ?a ?b ?c ?d ?_); (case a | b | c | d => k_mem))
  | ((with_reducible refine' j_get_own ?a ?b ?c ?d ?e ?f ?g ?h ?i ?_); (case a | b | c | d | e | f | g | h | i => k_mem)))
local macro_rules | `(tactic| k_enter) => `(tactic| ((case ho | hcd | hb => k_mem); (case hl => exact locs rfl); (case hc => decide); (case h1 | h2 | h3 => exact rfl)))
local macro_rules | `(tactic| k_places) => `(tactic| ((refine' j_For ?a ?b ?_); (case a | b => k_mem)))
section
--FILE FA
noncomputable def Ints (vs : List Value) (ns : List Nat) : Prop := vs.length = ns.length ∧ ∀ (i n : Nat), ns[i]? = some n → ∃ t, vs[i]? = some (Value.int n t)

noncomputable def DadsOk (par : List Nat) : Prop := par.length < 1000 ∧ ∀ i p : Nat, par[i]? = some p → p ≤ i
noncomputable def root (par : List Nat) : Nat → Nat → Nat
  | 0, i => i
  | f + 1, i => match par[i]? with
    | some p => if p = i then i else root par f p
    | none => i
noncomputable def findR (par : List Nat) (i : Nat) : Nat := root par (i + 1) i

theorem root_enough {par : List Nat} (h : DadsOk par) : ∀ f i, i < f → root par f i = root par (i + 1) i := by
  intro f
  induction f with
  | zero => intro i h; omega
  | succ f ih =>
    intro i hi
    unfold root
    cases e : par[i]? with
    | none => rfl
    | some p =>
      dsimp only
      by_cases hp : p = i
      · rw [if_pos hp, if_pos hp]
      · rw [if_neg hp, if_neg hp]
        have hle := h.2 i p e
        have hlt : p < i := by omega
        first | refine Mine.sb (ih p (by exact (Nat.lt_of_lt_of_le hlt (Nat.le_of_lt_succ hi)))) ?_ | rw [ih p (by exact (Nat.lt_of_lt_of_le hlt (Nat.le_of_lt_succ hi)))]
        by_cases hfi : i = f
        · subst hfi; rw [ih p hlt]
        · -- i < f
          have : i = (i - 1) + 1 := by omega
          have a1 : ∀ g, p < g → g ≤ f → root par g p = root par (p + 1) p := by
            intro g hg hgf
            by_cases q : g = f
            · subst q; exact ih p hg
            · have h1 : ∀ g, g ≤ f → p < g → root par g p = root par f p → True := fun _ _ _ _ => trivial
              clear h1
              exact root_mono_aux h hg
          exact (a1 i hlt (by exact (Nat.le_of_lt_succ hi))).symm
where
  root_mono_aux {par : List Nat} (h : DadsOk par) {g p : Nat} (hg : p < g) : root par g p = root par (p + 1) p := by
    induction g using Nat.strongRecOn generalizing p with
    | ind g ih =>
      obtain ⟨g', rfl⟩ : ∃ g', g = g' + 1 := ⟨g - 1, by omega⟩
      unfold root
      cases e : par[p]? with
      | none => rfl
      | some q =>
        dsimp only
        by_cases hq : q = p
        · rw [if_pos hq, if_pos hq]
        · rw [if_neg hq, if_neg hq]
          have hle := h.2 p q e
          by_cases hgp : g' = p
          · rw [hgp]
          · rw [ih g' (by exact (Nat.lt_succ_self _)) (by omega), ih p (by exact hg) (by omega)]

theorem findR_stop {par : List Nat} {i : Nat} (h : par[i]? = some i) : findR par i = i := by unfold findR root; rw [h]; simp
theorem findR_go {par : List Nat} (hd : DadsOk par) {i p : Nat} (h : par[i]? = some p) (hp : p ≠ i) : findR par i = findR par p := by
  unfold findR
  conv => lhs; unfold root
  first | refine Mine.sb (h) ?_ | rw [h]
  dsimp only
  rw [if_neg hp]
  exact root_enough hd i p (by have := hd.2 i p h; omega)

theorem spec_find {w : World} {σ : Led} {up ud al : Addr} {es : List DictEntry} {n : Nat} {oa : Obj} {vs : List Value} {par : List Nat} {a : Nat} {t : Tok} {d : Nat}
   (h1 : σ up = some (instObj 268 ud)) (h2 : σ ud = some (dictOf es n)) (h3 : getL "above" es = some (some (.ref al))) (h4 : σ al = some oa) (h5 : IsLstO oa vs) (h6 : Ints vs par) (h7 : DadsOk par) (ha : a < par.length) :
  Spec w 225 [.ref up, .int a t] (d + 1) σ (fun r σ' => (∃ t, r = Value.int (findR par a) t) ∧ Sub σ σ') := by
  refine' spec_def (binds := [(Str.ofString "self", .ref up), (Str.ofString "a", .int a t)]) ?ho ?hcd ?hb ?hl ?hc ?h1 ?h2 ?h3 ?h
  case ho => k_is
  case hcd => k_is
  case hb => exact rfl
  case hl => exact locs rfl
  case hc => decide
  case h1 => exact rfl
  case h2 => exact rfl
  case h3 => exact rfl
  intro X hw O hE
  subst hw
  k_upd
  let Iv1 : Nat → Loc → Led → Prop := fun k m σ' => ∃ i t, k = i ∧ i ≤ a ∧ findR par i = findR par a ∧ m (Str.ofString "a") = some (.int i t) ∧ m (Str.ofString "self") = some (.ref up) ∧ Sub σ σ'
  refine j_While Iv1 a (i2_6 (a) ( t) ( rfl) ( Nat.le_refl _) ( rfl) ( rfl) ( rfl) ( Sub.refl)) ?_
  (intro k m σ' zr1; refine x2_6 zr1 ?_; clear zr1; intro i t' er1 hi hr hma hms hsub; obtain rfl := er1)
  have h1' := hsub _ _ h1
  have h2' := hsub _ _ h2
  have h4' := hsub _ _ h4
  have hk : k < par.length := by exact (Nat.lt_of_le_of_lt hi ha)
  obtain ⟨p, hp⟩ : ∃ p, par[k]? = some p := ⟨par[k], by simp [hk]⟩
  (refine x1_1 (h6.2 k p hp) ?_; intro tp hvp)
  have hle := h7.2 k p hp
  have hk2 : k < 1000000 := by have := h7.1; exact (Nat.lt_of_lt_of_le (Nat.lt_trans hk this) (Nat.le_of_ble_eq_true rfl))
  repeat k_upd
  refine j_tail_list h4' h5 hvp hk2 rfl ?_
  repeat k_upd
  by_cases hpk : p = k
  · subst hpk
    have e : ((p : Int) != (p : Int)) = false := by simp
    first | refine Mine.sb (e) ?_ | rw [e]
    simp only [Bool.false_eq_true, if_false]
    repeat k_upd
    exact ⟨⟨t', by rw [← hr, findR_stop hp]; rfl⟩, hsub⟩
  · have e : ((p : Int) != (k : Int)) = true := by simp; exact (fun e => hpk (Int.ofNat_inj.mp e))
    first | refine Mine.sb (e) ?_ | rw [e]
    simp only [if_true]
    repeat k_upd
    refine j_tail_list h4' h5 hvp hk2 rfl ?_
    repeat k_upd
    exact ⟨p, by omega, p, tp, rfl, by exact (Nat.le_trans hle hi), by rw [← hr, findR_go h7 hp hpk], rfl, Loc.get_ne (by decide) hms, hsub⟩
end
section
--FILE FB
noncomputable def opC (c : Nat) : Bool := [97, 98, 99, 102, 103].contains c
noncomputable def opS (c : Nat) : Str := ⟨#[c]⟩
theorem opC_cases {c : Nat} (h : opC c = true) : c = 97 ∨ c = 98 ∨ c = 99 ∨ c = 102 ∨ c = 103 := by
  simp [opC] at h; omega
theorem op_nospace {c : Nat} (h : opC c = true) : Txt.isspace (opS c) = false := by
  rcases opC_cases h with rfl | rfl | rfl | rfl | rfl <;> decide +kernel
theorem op_nosign {c : Nat} (h : opC c = true) : Txt.contains (Str.ofString "()[]{},:") (opS c) = false := by
  rcases opC_cases h with rfl | rfl | rfl | rfl | rfl <;> decide +kernel
theorem op_full {c : Nat} (h : opC c = true) : (opS c != Str.ofString "") = true := by
  rcases opC_cases h with rfl | rfl | rfl | rfl | rfl <;> decide +kernel

theorem spec_is_op {w : World} {σ : Led} {c : Nat} {t : Tok} {d : Nat} (hc : opC c = true) :
    Spec w 79 [.str (opS c) t] (d + 1) σ (fun r σ' => r = .bool true ∧ Sub σ σ') := by
  refine' spec_def (binds := [(Str.ofString "text", .str (opS c) t)]) ?ho ?hcd ?hb ?hl ?hc ?h1 ?h2 ?h3 ?h
  case ho => k_is
  case hcd => k_is
  case hb => exact rfl
  case hl => exact locs rfl
  case hc => decide
  case h1 => exact rfl
  case h2 => exact rfl
  case h3 => exact rfl
  intro X hw O hE
  subst hw
  repeat k_upd
  intro t1
  repeat k_upd
  first | refine Mine.sb (op_full hc) ?_ | rw [op_full hc]
  repeat k_upd
  refine' j_ListComp ?a ?b ?c ?d ?e ?f ?g
  case a => assumption
  case b => k_mem
  case c => decide
  case d => exact rfl
  case e => decide
  case f => k_mem
  repeat k_upd
  refine ⟨.str (opS c) t, rfl, trivial, fun i ys _ σ' => ys = [] ∧ Sub σ σ', ⟨rfl, Sub.refl⟩, fun i ys mc σ' h => by simp [h.1], ?_, ?_⟩
  · (intro X' i v ys mc σ2 O' hw' hE' hi hv zt1 _; refine x0_2 zt1 ?_; clear zt1; intro er2 hsub; obtain rfl := er2)
    have hv' : ∃ u, v = .str (opS c) u := by
      (refine x2_2 hv ?_; clear hv; intro c' u h er1; obtain rfl := er1)
      have : c' = c := by
        have hi' : i = 0 := by have : i < (opS c).cps.size := hi; simpa [opS] using this
        subst hi'; simpa [opS] using h.symm
      subst this; exact ⟨u, rfl⟩
    (refine x1_1 hv' ?_; clear hv'; intro u er1; obtain rfl := er1)
    repeat k_upd
    first | refine Mine.sb (op_nospace hc) ?_ | rw [op_nospace hc]
    repeat k_upd
    intro t2
    repeat k_upd
    first | refine Mine.sb (op_nosign hc) ?_ | rw [op_nosign hc]
    repeat k_upd
    exact ⟨⟨rfl, hsub⟩, trivial⟩
  · (intro ys mc σ2 D k zt1 _ hD; refine x0_2 zt1 ?_; clear zt1; intro er2 hsub; obtain rfl := er2)
    repeat k_upd
    intro a ha
    have haD : D ≠ a := by rintro rfl; (first | exact nos (Led.set_self) ha | exact nos ha (Led.set_self) | (rw [Led.set_self] at ha; cases ha))
    refine j_eq_ints (vs := []) (ws := []) (n := k) (n2 := 0) (ns := []) (ms := []) O (by first | exact ((Led.set_ne haD).trans Led.set_self) | (rw [Led.set_ne haD]; exact Led.set_self)) Led.set_self .nil .nil ?_
    exact ⟨rfl, (hsub.trans (Sub.new hD)).trans (Sub.new ha)⟩
end
section
--FILE FC
theorem bears_tup {g g' : Addr → Option Obj} (h : ∀ a o, g a = some o → o.cls = .type "tuple" → g' a = some o) : ∀ k : Ky, (∀ v, IsKy g k v → IsKy g' k v) ∧ (∀ vs, IsKys g k vs → IsKys g' k vs)
  | .str x => ⟨fun _ x => x, fun _ x => x⟩
  | .int i => ⟨fun _ x => x, fun _ x => x⟩
  | .nil => ⟨fun _ ⟨a, o, n, e, ho, hc, r⟩ => (i3_4 (a) ( o) ( n) ( e) ( h _ _ ho hc) ( hc) ( r)), fun _ x => x⟩
  | .cons k r => ⟨fun _ ⟨a, o, u, us, n, e, ho, hc, hd, h1, h2⟩ => (i5_6 (a) ( o) ( u) ( us) ( n) ( e) ( h _ _ ho hc) ( hc) ( hd) ( (bears_tup h k).1 _ h1) ( (bears_tup h r).2 _ h2)),
      fun _ ⟨u, us, e, h1, h2⟩ => (i2_3 (u) ( us) ( e) ( (bears_tup h k).1 _ h1) ( (bears_tup h r).2 _ h2))⟩
noncomputable def Tup (σ σ' : Led) : Prop := ∀ a o, σ a = some o → o.cls = .type "tuple" → σ' a = some o
theorem Tup.refl {σ : Led} : Tup σ σ := fun _ _ h _ => h
theorem Tup.trans {σ σ' σ'' : Led} (h : Tup σ σ') (h' : Tup σ' σ'') : Tup σ σ'' := fun a o e c => h' a o (h a o e c) c
theorem Sub.tup {σ σ' : Led} (h : Sub σ σ') : Tup σ σ' := fun a o e _ => h a o e
theorem Tup.set {σ : Led} {a : Addr} {o o' : Obj} (h : σ a = some o) (hc : o.cls ≠ .type "tuple") : Tup σ (σ.set a o') := fun b ob e c => by
  rw [Led.set_ne (by rintro rfl; (first | exact nos (h) e | exact nos e (h) | (rw [h] at e; cases e)); exact hc c)]; exact e
theorem KyOk.tup {σ σ' : Led} {k : Ky} {v : Value} (h : Tup σ σ') (x : KyOk σ k v) : KyOk σ' k v := ⟨(bears_tup h k).1 v x.1, x.2⟩
theorem KyKeys.tup {σ σ' : Led} {xs : List (Ky × Addr × Value)} (h : Tup σ σ') (x : KyKeys σ xs) : KyKeys σ' xs := fun y hy => (x y hy).tup h

inductive Nats : List Value → List Nat → Prop
  | nil : Nats [] []
  | cons (n : Nat) (t : Tok) {vs ns} : Nats vs ns → Nats (.int n t :: vs) (n :: ns)
theorem Nats.are {vs : List Value} {ns : List Nat} (h : Nats vs ns) : IntsAre vs (ns.map fun n : Nat => (n : Int)) := by
  induction h with
  | nil => exact .nil
  | cons n t _ ih => exact .cons _ _ ih
theorem Nats.of_are : ∀ {vs : List Value} {ns : List Nat}, IntsAre vs (ns.map fun n : Nat => (n : Int)) → Nats vs ns
  | _, [], h => by cases h; exact .nil
  | _, n :: ns, h => by cases h with | cons _ t h => exact .cons n t (Nats.of_are h)
theorem Nats.len {vs : List Value} {ns : List Nat} (h : Nats vs ns) : vs.length = ns.length := by
  induction h with
  | nil => rfl
  | cons n t _ ih => simp [ih]
theorem Nats.get {vs : List Value} {ns : List Nat} (h : Nats vs ns) : ∀ {i n : Nat}, ns[i]? = some n → ∃ t, vs[i]? = some (.int n t) := by
  induction h with
  | nil => intro i n e; cases e
  | cons k t _ ih =>
    intro i n e
    cases i with
    | zero => simp at e; subst e; exact ⟨t, rfl⟩
    | succ i => simpa using ih (i := i) (by simpa using e)
theorem Nats.ints {vs : List Value} {ns : List Nat} (h : Nats vs ns) : Ints vs ns := ⟨h.len, fun _ _ e => h.get e⟩
theorem Nats.of : ∀ {vs : List Value} {ns : List Nat}, vs.length = ns.length → (∀ (i : Nat) v (n : Nat), vs[i]? = some v → ns[i]? = some n → ∃ t, v = Value.int n t) → Nats vs ns
  | [], [], _, _ => .nil
  | [], _ :: _, h, _ => by simp at h
  | _ :: _, [], h, _ => by simp at h
  | v :: vs, n :: ns, h, hi => by
    (refine x1_1 (hi 0 v n rfl rfl) ?_; intro t er1; obtain rfl := er1)
    exact .cons n t (Nats.of (by simpa using h) fun i v n h1 h2 => hi (i + 1) v n (by simpa using h1) (by simpa using h2))
theorem Nats.append {vs ws : List Value} {ns ms : List Nat} (h : Nats vs ns) (h' : Nats ws ms) : Nats (vs ++ ws) (ns ++ ms) := by
  induction h with
  | nil => exact h'
  | cons n t _ ih => exact .cons n t ih

theorem op_noq {c : Nat} (h : opC c = true) : (opS c == Str.ofString "?") = false := by
  rcases opC_cases h with rfl | rfl | rfl | rfl | rfl <;> decide +kernel
theorem spec_require {w : World} {σ : Led} {c : Nat} {t : Tok} {d : Nat} {bk : Addr} (hc : opC c = true) :
    Spec w 117 [.ref bk, .str (opS c) t] (d + 2) σ (fun r σ' => r = .none ∧ Sub σ σ') := by
  refine' spec_def (binds := [(Str.ofString "self", .ref bk), (Str.ofString "op", .str (opS c) t)]) ?ho ?hcd ?hb ?hl ?hc ?h1 ?h2 ?h3 ?h
  k_enter
  intro X hw O hE
  subst hw
  repeat k_upd
  refine ((spec_is_op (d := d) hc).j rfl O).mono1 ?_
  (intro r σ' zr1; refine x0_2 zr1 ?_; clear zr1; intro er2 hsub; obtain rfl := er2)
  repeat k_upd
  intro t1
  repeat k_upd
  refine' j_at_str (c := c) 0 ?x1 trivial ?x3 ?x4 ?_ ?x5
  case x1 => exact rfl
  case x3 => exact rfl
  case x4 => decide
  case x5 => exact rfl
  intro t2
  repeat k_upd
  intro t3
  have e : ((⟨#[c]⟩ : Str) == Str.ofString "?") = false := op_noq hc
  repeat k_upd
  first | refine Mine.sb (e) ?_ | rw [e]
  repeat k_upd
  exact ⟨rfl, hsub⟩
end
section
--FILE FD
inductive Role where
  | nodes | numbers | weights | depths | above | lots | merged | lot (i : Nat) | edges | forest | known | users | user (c : Nat) | waiting
  deriving DecidableEq
noncomputable abbrev Roles := Addr → Option Role
noncomputable def RoOk (ro : Roles) (σ : Led) : Prop := ∀ a r, ro a = some r → ∃ o, σ a = some o ∧ o.cls ≠ .type "tuple"
noncomputable def Kp (ro : Roles) (T : Role → Bool) (σ σ' : Led) : Prop := ∀ a o, σ a = some o → (∀ r, ro a = some r → T r = false) → σ' a = some o
theorem Kp.refl {ro : Roles} {T : Role → Bool} {σ : Led} : Kp ro T σ σ := fun _ _ h _ => h
theorem Kp.trans {ro : Roles} {T : Role → Bool} {σ σ' σ'' : Led} (h : Kp ro T σ σ') (h' : Kp ro T σ' σ'') : Kp ro T σ σ'' := fun a o e t => h' a o (h a o e t) t
theorem Sub.kp {ro : Roles} {T : Role → Bool} {σ σ' : Led} (h : Sub σ σ') : Kp ro T σ σ' := fun a o e _ => h a o e
theorem Kp.tup {ro : Roles} {T : Role → Bool} {σ σ' : Led} (h : Kp ro T σ σ') (g : RoOk ro σ) : Tup σ σ' := fun a o e c => h a o e fun r hr => by
  (refine x1_2 (g a r hr) ?_; intro o' ho' hc)
  (first | exact nos (e) ho' | exact nos ho' (e) | (rw [e] at ho'; cases ho')); exact absurd c hc
theorem Kp.one {ro : Roles} {T : Role → Bool} {σ : Led} {a : Addr} {r : Role} {o : Obj} (h : ro a = some r) (t : T r = true) : Kp ro T σ (σ.set a o) := fun b ob e f => by
  rw [Led.set_ne (by rintro rfl; (first | exact nos (f r h) t | exact nos t (f r h) | (rw [f r h] at t; cases t)))]; exact e
theorem ne_role {ro : Roles} {a b : Addr} {r q : Role} (h : ro a = some r) (h' : ro b = some q) (n : r ≠ q) : a ≠ b := by
  rintro rfl; (first | exact nos (h) h' | exact nos h' (h) | (rw [h] at h'; cases h')); exact n rfl
theorem ne_norole {ro : Roles} {a b : Addr} {r : Role} (h : ro a = some r) (h' : ro b = none) : a ≠ b := by
  rintro rfl; (first | exact nos (h) h' | exact nos h' (h) | (rw [h] at h'; cases h'))
theorem RoOk.fresh {ro : Roles} {σ : Led} {a : Addr} (g : RoOk ro σ) (h : σ a = none) : ro a = none := by
  cases q : ro a with
  | none => rfl
  | some r => (refine x1_2 (g a r q) ?_; intro o ho _); (first | exact nos (h) ho | exact nos ho (h) | (rw [h] at ho; cases ho))
theorem RoOk.tupNo {ro : Roles} {σ : Led} {a : Addr} {vs : List Value} {n : Nat} (g : RoOk ro σ) (h : σ a = some (tupOf vs n)) : ro a = none := by
  cases q : ro a with
  | none => rfl
  | some r => (refine x1_2 (g a r q) ?_; intro o ho hc); (first | exact nos (h) ho | exact nos ho (h) | (rw [h] at ho; cases ho)); exact absurd rfl hc
theorem RoOk.sub {ro : Roles} {σ σ' : Led} (g : RoOk ro σ) (h : Sub σ σ') : RoOk ro σ' := fun a r e => let ⟨o, ho, hc⟩ := g a r e; (i1_2 (o) ( h _ _ ho) ( hc))
theorem RoOk.set {ro : Roles} {σ : Led} {a : Addr} {o : Obj} (g : RoOk ro σ) (hc : o.cls ≠ .type "tuple") : RoOk ro (σ.set a o) := fun b r e => by
  by_cases q : b = a
  · subst q; exact (i1_2 (o) ( Led.set_self) ( hc))
  · rw [Led.set_ne q]; exact g b r e
theorem RoOk.new {ro : Roles} {σ : Led} {a : Addr} {o : Obj} (g : RoOk ro σ) (h : σ a = none) : RoOk ro (σ.set a o) := g.sub (.new h)

structure BL where
  (bk bd nl nd wl dl : Addr)
noncomputable def BL.fs (B : BL) : List (Str × Value) := [(Str.ofString "depths", .ref B.dl), (Str.ofString "weights", .ref B.wl), (Str.ofString "numbers", .ref B.nd), (Str.ofString "nodes", .ref B.nl)]
noncomputable abbrev Node := Nat × List Nat
noncomputable def Ky.nats : List Nat → Ky
  | [] => .nil
  | k :: r => .cons (.int k) (Ky.nats r)
noncomputable def nodeKy (x : Node) : Ky := .cons (.str (opS x.1)) (Ky.nats x.2)
noncomputable def NodeT (σ : Led) (a : Addr) (x : Node) : Prop := ∃ t kvs n, σ a = some (tupOf (.str (opS x.1) t :: kvs) n) ∧ Nats kvs x.2
noncomputable def NodesOk (nodes : List Node) : Prop := nodes.Nodup ∧ nodes.length < 1000 ∧ ∀ (i : Nat) c ks, nodes[i]? = some (c, ks) → opC c = true ∧ ks.length ≤ 2 ∧ ∀ k ∈ ks, k < i

theorem nats_bears {g : Addr → Option Obj} {vs : List Value} {ns : List Nat} (h : Nats vs ns) : IsKys g (Ky.nats ns) vs := by
  induction h with
  | nil => exact rfl
  | cons n t _ ih => exact (i2_3 (_) ( _) ( rfl) ( ⟨t, rfl⟩) ( ih))
theorem nats_chain : ∀ ns : List Nat, (Ky.nats ns).okS = true ∧ (Ky.nats ns).chain = true
  | [] => ⟨rfl, rfl⟩
  | n :: ns => ⟨by simp [Ky.nats, Ky.okS, (nats_chain ns).1, (nats_chain ns).2], by simp [Ky.nats, Ky.chain, (nats_chain ns).2]⟩
theorem nats_dep : ∀ ns : List Nat, (Ky.nats ns).dep.2 = 0
  | [] => rfl
  | n :: ns => by simp [Ky.nats, Ky.dep, nats_dep ns]
theorem nats_inj : ∀ {ns ms : List Nat}, Ky.nats ns = Ky.nats ms → ns = ms
  | [], [], _ => rfl
  | [], _ :: _, h => by cases h
  | _ :: _, [], h => by cases h
  | n :: ns, k :: ms, h => by
    simp only [Ky.nats, Ky.cons.injEq, Ky.int.injEq] at h
    rw [nats_inj h.2]; congr 1; omega
theorem nodeKy_inj {x y : Node} (h : nodeKy x = nodeKy y) : x = y := by
  obtain ⟨c, ks⟩ := x; obtain ⟨e, ls⟩ := y
  simp only [nodeKy, Ky.cons.injEq, Ky.str.injEq, opS] at h
  have h1 : c = e := by simpa using h.1
  rw [h1, nats_inj h.2]
theorem op_strOk {c : Nat} (h : opC c = true) : PyData.strOk (opS c) = true := by
  rcases opC_cases h with rfl | rfl | rfl | rfl | rfl <;> decide +kernel
theorem NodeT.ky {σ : Led} {a : Addr} {x : Node} (h : NodeT σ a x) (hc : opC x.1 = true) : KyOk σ (nodeKy x) (.ref a) := by
  (refine x3_2 h ?_; clear h; intro t kvs n ho hk)
  refine (i0_3 ((i5_6 (a) ( _) ( _) ( _) ( n) ( rfl) ( ho) ( rfl) ( rfl) ( ⟨t, rfl⟩) ( nats_bears hk))) ( ?_) ( ?_))
  · simp [nodeKy, Ky.okS, op_strOk hc, (nats_chain x.2).1, (nats_chain x.2).2]
  · simp [nodeKy, Ky.dep, nats_dep]
theorem NodeT.tup {σ σ' : Led} {a : Addr} {x : Node} (g : Tup σ σ') (h : NodeT σ a x) : NodeT σ' a x := by
  (refine x3_2 h ?_; clear h; intro t kvs n ho hk)
  exact (i3_2 (t) ( kvs) ( n) ( g _ _ ho rfl) ( hk))

theorem KyDict.nodup {w : World} {o : Obj} {xs : List (Ky × Addr × Value)} (h : KyDict w o xs) : (xs.map (·.1)).Nodup := by (refine x2_4 h ?_; clear h; intro _ _ _ _ _ h); exact h
theorem last_get {α : Type} {x y : α} {j : Nat} (h : [x][j]? = some y) : j = 0 ∧ x = y := by
  cases j with
  | zero => simp at h; exact ⟨rfl, h⟩
  | succ j => simp at h
theorem ltup {vs : List Value} {n : Nat} : (lstOf vs n).cls ≠ .type "tuple" := by
  show Value.type "list" ≠ .type "tuple"
  decide
theorem KyDict.cls {w : World} {o : Obj} {xs : List (Ky × Addr × Value)} (h : KyDict w o xs) : o.cls ≠ .type "tuple" := by
  (refine x2_2 h ?_; clear h; intro _ _ h _); rw [h.1]; decide
theorem _root_.PyProof.Rows.IntsAre.length_eq {vs : List Value} {ns : List Int} (h : IntsAre vs ns) : vs.length = ns.length := by
  induction h with
  | nil => rfl
  | cons n t _ ih => simp [ih]
theorem numbers_none {nodes : List Node} {xs : List (Ky × Addr × Value)} {x : Node} (hl : xs.length = nodes.length) (hg : ∀ (i : Nat) y, nodes[i]? = some y → ∃ a t, xs[i]? = some (nodeKy y, a, Value.int i t)) (hn : x ∉ nodes) : atKey xs (nodeKy x) = none := by
  refine atKey_none_of_get fun j p hj => hn ?_
  have hlt : j < nodes.length := by
    rcases Nat.lt_or_ge j xs.length with h | h
    · exact (Nat.lt_of_lt_of_eq h hl)
    · (first | exact nos (List.getElem?_eq_none h) hj | exact nos hj (List.getElem?_eq_none h) | (rw [List.getElem?_eq_none h] at hj; cases hj))
  (refine x2_1 (hg j nodes[j] (by simp [hlt])) ?_; intro a t e)
  rw [hj] at e
  simp only [Option.some.injEq, Prod.mk.injEq] at e
  first | refine Mine.sb (nodeKy_inj e.1) ?_ | rw [nodeKy_inj e.1]
  exact List.getElem_mem hlt

theorem kid_item {kvs : List Value} {ks : List Nat} (hks : Nats kvs ks) {c : Addr} {i : Nat} {v : Value} (h : (Src.tup c kvs.toArray).item i v) : ∃ k tk, k ∈ ks ∧ ks[i]? = some k ∧ v = .int (k : Nat) tk := by
  have h' : kvs[i]? = some v := by simpa [Src.item] using h
  have hlt : i < ks.length := by
    rcases Nat.lt_or_ge i kvs.length with q | q
    · have := hks.len; exact (Nat.lt_of_lt_of_eq q this)
    · (first | exact nos (List.getElem?_eq_none q) h' | exact nos h' (List.getElem?_eq_none q) | (rw [List.getElem?_eq_none q] at h'; cases h'))
  (refine x1_1 (hks.get (i := i) (n := ks[i]) (by simp [hlt])) ?_; intro tk e)
  refine (i2_3 (ks[i]) ( tk) ( List.getElem_mem hlt) ( by simp [hlt]) ( ?_))
  rw [e] at h'; exact (Option.some.inj h').symm
theorem ints_at {vs : List Value} {ns : List Int} {k : Nat} (hs : IntsAre vs ns) (h : k < ns.length) : ∃ z t, vs[k]? = some (.int z t) := by
  induction hs generalizing k with
  | nil => simp at h
  | cons n t hi ih =>
    cases k with
    | zero => exact (i2_1 (n) ( t) ( rfl))
    | succ k => simpa using ih (k := k) (by simpa using h)
theorem ints_ofAll : ∀ {ys : List Value}, (∀ (i : Nat) y, ys[i]? = some y → ∃ (z : Int) (t : Tok), y = .int z t) → ∃ ns, IntsAre ys ns ∧ ns.length = ys.length
  | [], _ => (i1_2 ([]) ( .nil) ( rfl))
  | y :: ys, h => by
    (refine x2_1 (h 0 y rfl) ?_; intro z t er1; obtain rfl := er1)
    (refine x1_2 (ints_ofAll (ys := ys) fun i y e => h (i + 1) y (by simpa using e)) ?_; intro ns h1 h2)
    exact (i1_2 (z :: ns) ( .cons z t h1) ( by simp [h2]))
theorem intsAre_append {vs ws : List Value} {ns ms : List Int} (h : IntsAre vs ns) (h' : IntsAre ws ms) : IntsAre (vs ++ ws) (ns ++ ms) := by
  induction h with
  | nil => exact h'
  | cons n t _ ih => exact .cons n t ih

structure BankL (w : World) (σ : Led) (ro : Roles) (B : BL) (nodes : List Node) : Prop where
  ins : InsD σ B.bk 186 B.bd B.fs
  rk : ro B.bk = none
  rd : ro B.bd = none
  rnl : ro B.nl = some .nodes
  rnd : ro B.nd = some .numbers
  rwl : ro B.wl = some .weights
  rdl : ro B.dl = some .depths
  nl : ∃ vs n, σ B.nl = some (lstOf vs n) ∧ vs.length = nodes.length ∧ ∀ (i : Nat) x, nodes[i]? = some x → ∃ a, vs[i]? = some (.ref a) ∧ NodeT σ a x
  nd : ∃ o xs, σ B.nd = some o ∧ KyDict w o xs ∧ KyKeys σ xs ∧ xs.length = nodes.length ∧ ∀ (i : Nat) x, nodes[i]? = some x → ∃ a t, xs[i]? = some (nodeKy x, a, .int i t)
  wl : ∃ vs ns n, σ B.wl = some (lstOf vs n) ∧ IntsAre vs ns ∧ ns.length = nodes.length
  dl : ∃ vs ns n, σ B.dl = some (lstOf vs n) ∧ IntsAre vs ns ∧ ns.length = nodes.length
  ok : NodesOk nodes

noncomputable def bankR : Role → Bool
  | .nodes | .numbers | .weights | .depths => true
  | _ => false

theorem BankL.keep {w : World} {σ σ' : Led} {ro ro' : Roles} {B : BL} {nodes : List Node} {T : Role → Bool} (h : BankL w σ ro B nodes) (k : Kp ro T σ σ') (g : RoOk ro σ) (hT : ∀ r, bankR r = true → T r = false) (hr : ∀ a, σ a ≠ none → ro' a = ro a) : BankL w σ' ro' B nodes := by
  have kt := k.tup g
  have e1 : ∀ {a r}, ro a = some r → ro' a = some r := fun {a r} e => by first | exact ((hr a (by (refine x1_2 (g a r e) ?_; intro o ho _); rw [ho]; simp)).trans e) | (rw [hr a (by (refine x1_2 (g a r e) ?_; intro o ho _); rw [ho]; simp)]; exact e)
  have no : ∀ {a}, ro a = none → ∀ o, σ a = some o → σ' a = some o := fun {a} e o ho => k a o ho fun r hr => by (first | exact nos (e) hr | exact nos hr (e) | (rw [e] at hr; cases hr))
  have bk : ∀ {a r}, ro a = some r → bankR r = true → ∀ o, σ a = some o → σ' a = some o := fun {a r} e hb o ho => k a o ho fun q hq => by (first | exact nos (e) hq | exact nos hq (e) | (rw [e] at hq; cases hq)); exact hT _ hb
  (refine x0_2 ((⟨h.ins.x, h.ins.d⟩ : _ ∧ _)) ?_; intro ox od)
  refine ⟨h.ins.keep (no h.rk) (no h.rd), ?_, ?_, e1 h.rnl, e1 h.rnd, e1 h.rwl, e1 h.rdl, ?_, ?_, ?_, ?_, h.ok⟩
  · rw [hr _ (by rw [ox]; simp)]; exact h.rk
  · (refine x2_1 od ?_; clear od; intro es n od); rw [hr _ (by rw [od]; simp)]; exact h.rd
  · (refine x2_3 h.nl ?_; intro vs n a b c)
    exact (i2_3 (vs) ( n) ( bk h.rnl rfl _ a) ( b) ( fun i x hx => let ⟨a, h1, h2⟩ := c i x hx; (i1_2 (a) ( h1) ( h2.tup kt))))
  · (refine x2_4 h.nd ?_; intro o xs a b c d)
    exact (i2_4 (o) ( xs) ( bk h.rnd rfl _ a) ( b) ( c.tup kt) ( d))
  · (refine x3_2 h.wl ?_; intro vs ns n a b)
    exact (i3_2 (vs) ( ns) ( n) ( bk h.rwl rfl _ a) ( b))
  · (refine x3_2 h.dl ?_; intro vs ns n a b)
    exact (i3_2 (vs) ( ns) ( n) ( bk h.rdl rfl _ a) ( b))

noncomputable def Take (nodes : List Node) (x : Node) (nodes' : List Node) (i : Nat) : Prop := (nodes' = nodes ∧ nodes[i]? = some x) ∨ (x ∉ nodes ∧ nodes' = nodes ++ [x] ∧ i = nodes.length)

theorem spec_take {w : World} {σ : Led} {ro : Roles} {B : BL} {nodes : List Node} {c : Nat} {ks : List Nat} {t : Tok} {kt : Addr} {kvs : List Value} {n : Nat} {d : Nat}
    (h : BankL w σ ro B nodes) (g : RoOk ro σ) (hc : opC c = true) (hk : σ kt = some (tupOf kvs n)) (hks : Nats kvs ks) (h2 : ks.length ≤ 2) (hlt : ∀ k ∈ ks, k < nodes.length) (hz : nodes.length < 900) :
    Spec w 110 [.ref B.bk, .str (opS c) t, .ref kt] (d + 4) σ (fun r σ' => ∃ nodes' i t, r = .int (i : Nat) t ∧ Take nodes (c, ks) nodes' i ∧ BankL w σ' ro B nodes' ∧ Kp ro bankR σ σ' ∧ RoOk ro σ') := by
  refine' spec_defC (binds := [(Str.ofString "self", .ref B.bk), (Str.ofString "op", .str (opS c) t), (Str.ofString "kids", .ref kt)]) ?ho ?hcd ?hb ?hl ?hc ?h1 ?h2 ?h3 ?h
  case ho => k_is
  case hcd => k_is
  case hb => exact rfl
  case hl => exact rfl
  case hc => decide
  case h1 => exact rfl
  case h2 => exact rfl
  case h3 => exact rfl
  intro X cells hw O hE hlo hcells
  subst hw
  (refine x1_2 ((show CellsAre _ [(Str.ofString "self", X.env.locals + 1)] cells from hcells).one) ?_; intro oc er1 hoc; obtain rfl := er1)
  replace hoc : oc.data = .cell (some (.ref B.bk)) := hoc
  have hcn : σ (X.env.locals + 1) = none := by
    cases q : σ (X.env.locals + 1) with
    | none => rfl
    | some o => exact absurd (hlo _ o q) (Nat.not_lt.mpr (Nat.le_succ _))
  have s0 : Sub σ (σ.set (X.env.locals + 1) oc) := .new hcn
  have hcell : (σ.set (X.env.locals + 1) oc) (X.env.locals + 1) = some oc := Led.set_self
  have h0 : BankL X.w (σ.set (X.env.locals + 1) oc) ro B nodes := h.keep (T := fun _ => false) s0.kp g (fun _ _ => rfl) fun _ _ => rfl
  have g0 := g.sub s0
  have hk0 := s0 _ _ hk
  show J X _ _ (σ.set (X.env.locals + 1) oc) _
  have hrc : ro (X.env.locals + 1) = none := g.fresh hcn
  suffices hS : ∀ σ0, Sub σ σ0 → σ0 (X.env.locals + 1) = some oc → BankL X.w σ0 ro B nodes → RoOk ro σ0 → σ0 kt = some (tupOf kvs n) → J X _ _ σ0 _ from hS _ s0 hcell h0 g0 hk0
  clear h0 g0 hk0 s0 hcell h g hk
  intro σ0 s0 hcell h g hk
  have take_at : ∀ (σ1 : Led) (na : Addr), Kp ro (fun _ => false) σ0 σ1 → NodeT σ1 na (c, ks) → σ1 (X.env.locals + 1) = some oc → BankL X.w σ1 ro B nodes → RoOk ro σ1 → σ1 kt = some (tupOf kvs n) → True := fun _ _ _ _ _ _ _ _ => trivial
  repeat k_upd
  intro a1 ha1
  repeat k_upd
  refine j_tuple_tup (vs := kvs) (n := n) (Sub.new ha1 _ _ hk) ?_
  refine j_add_tuple (vs := [.str (opS c) t]) (ws := kvs) (n := 0) (n2 := n) Led.set_self (Sub.new ha1 _ _ hk) (by simp) (by have := hks.len; simp; omega) ?_
  intro na σ1 nn s1 _ hna
  replace s1 : Sub σ0 σ1 := (Sub.new ha1).trans s1
  have hN : NodeT σ1 na (c, ks) := (i3_2 (t) ( kvs) ( nn) ( hna) ( hks))
  replace h := h.keep (T := fun _ => false) s1.kp g (fun _ _ => rfl) fun _ _ => rfl
  replace hcell := s1 _ _ hcell
  replace hk := s1 _ _ hk
  replace g := g.sub s1
  replace s0 := s0.trans s1
  clear s1 take_at
  have hi := h.ins
  repeat k_upd
  (refine x2_5 h.nd ?_; intro on xs hs ho hx hxl hxg)
  have hKy := hN.ky hc
  refine j_ky_in O hs ho hx hKy ?_
  by_cases hin : (c, ks) ∈ nodes
  · obtain ⟨i, hi'⟩ := List.getElem?_of_mem hin
    (refine x2_1 (hxg i _ hi') ?_; intro a ti hxi)
    have hat : atKey xs (nodeKy (c, ks)) = some (a, .int i ti) := atKey_of_get ho.nodup hxi
    first | refine Mine.sb (hat) ?_ | rw [hat]
    repeat k_upd
    refine ifT' ?_
    repeat k_upd
    refine j_tail_ky O hs ho hx hKy hat rfl ?_
    exact (i3_5 (nodes) ( i) ( ti) ( rfl) ( .inl ⟨rfl, hi'⟩) ( h) ( s0.kp) ( g))
  · first | refine Mine.sb (numbers_none hxl hxg hin) ?_ | rw [numbers_none hxl hxg hin]
    repeat k_upd
    refine ifF' ?_
    repeat k_upd
    refine ((spec_require (d := d + 1) hc).j rfl O).mono1 ?_
    (intro r σ2 zr1; refine x0_2 zr1 ?_; clear zr1; intro er2 s2; obtain rfl := er2)
    replace h := h.keep (T := fun _ => false) s2.kp g (fun _ _ => rfl) fun _ _ => rfl
    replace hcell := s2 _ _ hcell
    replace hk := s2 _ _ hk
    replace hN := hN.tup s2.tup
    replace hna := s2 _ _ hna
    replace g := g.sub s2
    replace s0 := s0.trans s2
    replace hKy := hN.ky hc
    clear hs ho hx hxl hxg hi
    have hi := h.ins
    repeat k_upd
    k_places
    repeat k_upd
    intro t1 sa hsa
    refine j_from_tup 1 (by rfl) (Sub.new hsa _ _ hna) Led.set_self (by decide) (by simp) (by have := hks.len; simp; exact (Nat.le_trans (Nat.le_trans (Nat.le_of_eq this) h2) (Nat.le_of_ble_eq_true rfl))) ?_ (by rfl)
    intro c1 hc1
    have s3 : Sub σ2 ((σ2.set sa (sliceObj (.int 1 t1) .none)).set c1 (tupOf (([Value.str (opS c) t] ++ kvs).drop 1) 0)) := (Sub.new hsa).trans (Sub.new hc1)
    refine ⟨.tup c1 kvs.toArray, rfl, ⟨_, Led.set_self, rfl, 0, rfl⟩, fun _ m' σ' => Sub σ2 σ' ∧ m' (Str.ofString "node") = some (.ref na), ⟨s3, rfl⟩, ?_, ?_⟩
    · (intro p i v m2 σ3 O' hi2 hv zt1 hok; refine x0_2 zt1 ?_; clear zt1; intro s4 hm2)
      have hE2 : (X.kept p).env = _ := hE
      (refine x2_3 (kid_item hks hv) ?_; intro k tk hkm _ er1; obtain rfl := er1)
      have hklt := hlt k hkm
      have hcell' := s4 _ _ hcell
      have hi' := hi.keep (s4 _) (s4 _)
      (refine x2_3 h.nl ?_; intro vs n1 hnl hvl _)
      have hnl' := s4 _ _ hnl
      repeat k_upd
      intro t2
      repeat k_upd
      refine Mine.sb (show decide ((0 : Int) ≤ (k : Nat)) = true from decide_eq_true (by exact (Int.natCast_nonneg _))) ?_
      repeat k_upd
      refine j_len_list hnl' (by exact (Nat.le_of_lt (Nat.lt_of_lt_of_le (Nat.lt_of_le_of_lt (Nat.le_of_eq hvl) hz) (Nat.le_of_ble_eq_true rfl)))) fun t3 => ?_
      repeat k_upd
      refine Mine.sb (show decide ((k : Int) < (vs.length : Nat)) = true from decide_eq_true (by exact (Int.ofNat_lt.mpr (Nat.lt_of_lt_of_eq hklt (Eq.symm hvl))))) ?_
      repeat k_upd
      exact ⟨⟨s4, Loc.get_ne (by decide) hm2⟩, hok⟩
    · (intro m2 σ3 zt1 _; refine x0_2 zt1 ?_; clear zt1; intro s4 hm2)
      replace h := h.keep (T := fun _ => false) s4.kp g (fun _ _ => rfl) fun _ _ => rfl
      replace g := g.sub s4
      replace hcell := s4 _ _ hcell
      replace hN := hN.tup s4.tup
      replace hna := s4 _ _ hna
      replace s0 := s0.trans s4
      clear hKy hi s4 s3 hc1 hsa hk
      (refine x2_3 h.nl ?_; intro vs n1 hnl hvl hvn)
      (refine x2_5 h.nd ?_; intro on xs hs ho hx hxl hxg)
      (refine x3_3 h.wl ?_; intro ws wns n2 hwl hwi hwn)
      (refine x3_3 h.dl ?_; intro ds dns n3 hdl hdi hdn)
      have hi := h.ins
      have hKy := hN.ky hc
      have e1 : B.nl ≠ B.nd := ne_role h.rnl h.rnd (by decide)
      have e2 : B.wl ≠ B.nd := ne_role h.rwl h.rnd (by decide)
      have e3 : B.dl ≠ B.nd := ne_role h.rdl h.rnd (by decide)
      have e4 : B.bk ≠ B.nd := (ne_norole h.rnd h.rk).symm
      have e5 : B.bd ≠ B.nd := (ne_norole h.rnd h.rd).symm
      have e6 : X.env.locals + 1 ≠ B.nd := (ne_norole h.rnd hrc).symm
      repeat k_upd
      refine j_len_list hnl (by exact (Nat.le_of_lt (Nat.lt_of_lt_of_le (Nat.lt_of_le_of_lt (Nat.le_of_eq hvl) hz) (Nat.le_of_ble_eq_true rfl)))) fun t2 => ?_
      repeat k_upd
      refine j_ky_set O hs ho hx hKy (by exact (Nat.le_of_lt (Nat.lt_of_lt_of_le (Nat.lt_of_le_of_lt (Nat.le_of_eq hxl) hz) (Nat.le_of_ble_eq_true rfl)))) fun o1 ho1 => ?_
      rw [storedH_new (numbers_none hxl hxg hin)] at ho1
      have e7 : B.wl ≠ B.nl := ne_role h.rwl h.rnl (by decide)
      have e8 : B.dl ≠ B.nl := ne_role h.rdl h.rnl (by decide)
      have e9 : B.bk ≠ B.nl := (ne_norole h.rnl h.rk).symm
      have e10 : B.bd ≠ B.nl := (ne_norole h.rnl h.rd).symm
      have e11 : X.env.locals + 1 ≠ B.nl := (ne_norole h.rnl hrc).symm
      have hrn : ro na = none := g.tupNo hna
      have e12 : na ≠ B.nd := (ne_norole h.rnd hrn).symm
      have e13 : na ≠ B.nl := (ne_norole h.rnl hrn).symm
      have e14 : B.wl ≠ B.dl := ne_role h.rwl h.rdl (by decide)
      have e15 : B.bk ≠ B.wl := (ne_norole h.rwl h.rk).symm
      have e16 : B.bd ≠ B.wl := (ne_norole h.rwl h.rd).symm
      have e17 : X.env.locals + 1 ≠ B.wl := (ne_norole h.rwl hrc).symm
      have e18 : na ≠ B.wl := (ne_norole h.rwl hrn).symm
      have e19 : B.bk ≠ B.dl := (ne_norole h.rdl h.rk).symm
      have e20 : B.bd ≠ B.dl := (ne_norole h.rdl h.rd).symm
      clear hi
      have hi : InsD (σ3.set B.nd o1) B.bk 186 B.bd B.fs := h.ins.keep (fun o e => by first | exact ((Led.set_ne e4).trans e) | (rw [Led.set_ne e4]; exact e)) (fun o e => by first | exact ((Led.set_ne e5).trans e) | (rw [Led.set_ne e5]; exact e))
      have hcell1 : (σ3.set B.nd o1) (X.env.locals + 1) = some oc := by first | exact ((Led.set_ne e6).trans hcell) | (rw [Led.set_ne e6]; exact hcell)
      have hnl1 : (σ3.set B.nd o1) B.nl = some (lstOf vs n1) := by first | exact ((Led.set_ne e1).trans hnl) | (rw [Led.set_ne e1]; exact hnl)
      repeat k_upd
      refine j_list_append_m hnl1 ?_
      repeat k_upd
      refine j_append hnl1 (by exact (Nat.le_of_lt (Nat.lt_of_lt_of_le (Nat.lt_of_le_of_lt (Nat.le_of_eq hvl) hz) (Nat.le_of_ble_eq_true rfl)))) ?_
      have hi2 : InsD ((σ3.set B.nd o1).set B.nl (lstOf (vs ++ [.ref na]) (n1 + 1))) B.bk 186 B.bd B.fs := hi.keep (fun o e => by first | exact ((Led.set_ne e9).trans e) | (rw [Led.set_ne e9]; exact e)) (fun o e => by first | exact ((Led.set_ne e10).trans e) | (rw [Led.set_ne e10]; exact e))
      clear hi
      generalize hσ4 : (σ3.set B.nd o1).set B.nl (lstOf (vs ++ [.ref na]) (n1 + 1)) = σ4 at hi2 ⊢
      have hcell2 : σ4 (X.env.locals + 1) = some oc := by rw [← hσ4, Led.set_ne e11]; exact hcell1
      have hwl2 : σ4 B.wl = some (lstOf ws n2) := by rw [← hσ4, Led.set_ne e7, Led.set_ne e2]; exact hwl
      have hdl2 : σ4 B.dl = some (lstOf ds n3) := by rw [← hσ4, Led.set_ne e8, Led.set_ne e3]; exact hdl
      have hna2 : σ4 na = some (tupOf ([.str (opS c) t] ++ kvs) nn) := by rw [← hσ4, Led.set_ne e13, Led.set_ne e12]; exact hna
      repeat k_upd
      refine j_list_append_m hwl2 ?_
      repeat k_upd
      intro t3
      repeat k_upd
      ((refine' j_map ?aq1 ?bq1 ?cq1 ?dq1 ?eq1 ?fq1 ?_); (case aq1 => assumption); (case bq1 => k_mem); (case cq1 => decide); (case dq1 => exact rfl); (case eq1 => decide); (case fq1 => k_mem))
      repeat k_upd
      intro t4 sb hsb
      refine j_from_tup 1 (by rfl) (Sub.new hsb _ _ hna2) Led.set_self (by decide) (by simp) (by have := hks.len; simp; exact (Nat.le_trans (Nat.le_trans (Nat.le_of_eq this) h2) (Nat.le_of_ble_eq_true rfl))) ?_ (by rfl)
      intro c2 hc2
      have s5 : Sub σ4 ((σ4.set sb (sliceObj (.int 1 t4) .none)).set c2 (tupOf (([Value.str (opS c) t] ++ kvs).drop 1) 0)) := (Sub.new hsb).trans (Sub.new hc2)
      refine ⟨.tup c2 kvs.toArray, rfl, ⟨_, Led.set_self, rfl, 0, rfl⟩, by have := hks.len; simp [Src.size]; exact (Nat.le_trans (Nat.le_trans (Nat.le_of_eq this) h2) (Nat.le_of_ble_eq_true rfl)), fun _ v => ∃ (z : Int) (tz : Tok), v = .int z tz, ?_, ?_⟩
      · intro X' i v mc σ5 O' hw' hE' hi' hv s6
        (refine x2_3 (kid_item hks hv) ?_; intro k tk hkm _ er1; obtain rfl := er1)
        have hklt := hlt k hkm
        (rw [hE] at hE'; replace hE' := hE')
        have hcell5 := s6 _ _ (s5 _ _ hcell2)
        have hi5 := (hi2.keep (s5 _) (s5 _)).keep (s6 _) (s6 _)
        have hwl5 := s6 _ _ (s5 _ _ hwl2)
        (refine x2_1 (ints_at hwi (show k < wns.length by exact (Nat.lt_of_lt_of_eq hklt (Eq.symm hwn)))) ?_; intro z tz hz5)
        repeat k_upd
        refine j_at_list k (by rfl) hwl5 hz5 (by exact (Nat.lt_of_lt_of_le (Nat.lt_trans hklt hz) (Nat.le_of_ble_eq_true rfl))) ?_ (by rfl)
        exact ⟨(i2_1 (z) ( tz) ( rfl)), s6⟩
      · intro ys σ5 D k hyl hys s6 hD
        (refine x1_2 (ints_ofAll hys) ?_; intro yns hyi _)
        have s7 := (s5.trans s6).trans (Sub.new (o := lstOf ys k) hD)
        refine j_sum O Led.set_self hyi fun t5 => ?_
        repeat k_upd
        intro t6
        have hwl7 := s7 _ _ hwl2
        refine j_append hwl7 (by have := hwi.length_eq; exact (Nat.le_of_lt (Nat.lt_of_lt_of_le (Nat.lt_of_le_of_lt (Nat.le_trans (Nat.le_of_eq this) (Nat.le_of_eq hwn)) hz) (Nat.le_of_ble_eq_true rfl)))) ?_
        have k4 : Kp ro bankR σ3 σ4 := by rw [← hσ4]; exact (Kp.one h.rnd rfl).trans (Kp.one h.rnl rfl)
        have k7 : Kp ro bankR σ3 (σ5.set D (lstOf ys k)) := k4.trans s7.kp
        (generalize σ5.set D (lstOf ys k) = σ7 at *; revert σ7; refine bar ?_; set_option tactic.hygienic false in intros)
        have hnl2 : σ4 B.nl = some (lstOf (vs ++ [.ref na]) (n1 + 1)) := by rw [← hσ4]; exact Led.set_self
        have hnd2 : σ4 B.nd = some o1 := by rw [← hσ4, Led.set_ne e1.symm]; exact Led.set_self
        have g4 : RoOk ro σ4 := by rw [← hσ4]; exact (g.set ho1.cls).set ltup
        have g7 := g4.sub s7
        have hi7 := hi2.keep (s7 _) (s7 _)
        have hcell7 := s7 _ _ hcell2
        have hdl7 := s7 _ _ hdl2
        have hnl7 := s7 _ _ hnl2
        have hnd7 := s7 _ _ hnd2
        have hna7 := s7 _ _ hna2
        clear hi2 hcell2 hwl2 hdl2 hna2 hnl2 hnd2 k4 g4 hσ4 s5
        have k8 : Kp ro bankR σ3 (σ7.set B.wl (lstOf (ws ++ [.int (1 + yns.sum) t6]) (n2 + 1))) := k7.trans (Kp.one h.rwl rfl)
        have g8 : RoOk ro (σ7.set B.wl (lstOf (ws ++ [.int (1 + yns.sum) t6]) (n2 + 1))) := g7.set ltup
        have hi8 : InsD (σ7.set B.wl (lstOf (ws ++ [.int (1 + yns.sum) t6]) (n2 + 1))) B.bk 186 B.bd B.fs := hi7.keep (fun o e => by first | exact ((Led.set_ne e15).trans e) | (rw [Led.set_ne e15]; exact e)) (fun o e => by first | exact ((Led.set_ne e16).trans e) | (rw [Led.set_ne e16]; exact e))
        have hwl8 : (σ7.set B.wl (lstOf (ws ++ [.int (1 + yns.sum) t6]) (n2 + 1))) B.wl = some (lstOf (ws ++ [.int (1 + yns.sum) t6]) (n2 + 1)) := Led.set_self
        have hcell8 : (σ7.set B.wl (lstOf (ws ++ [.int (1 + yns.sum) t6]) (n2 + 1))) (X.env.locals + 1) = some oc := by first | exact ((Led.set_ne e17).trans hcell7) | (rw [Led.set_ne e17]; exact hcell7)
        have hdl8 : (σ7.set B.wl (lstOf (ws ++ [.int (1 + yns.sum) t6]) (n2 + 1))) B.dl = some (lstOf ds n3) := by first | exact ((Led.set_ne e14.symm).trans hdl7) | (rw [Led.set_ne e14.symm]; exact hdl7)
        have hnl8 : (σ7.set B.wl (lstOf (ws ++ [.int (1 + yns.sum) t6]) (n2 + 1))) B.nl = some (lstOf (vs ++ [.ref na]) (n1 + 1)) := by first | exact ((Led.set_ne e7.symm).trans hnl7) | (rw [Led.set_ne e7.symm]; exact hnl7)
        have hnd8 : (σ7.set B.wl (lstOf (ws ++ [.int (1 + yns.sum) t6]) (n2 + 1))) B.nd = some o1 := by first | exact ((Led.set_ne e2.symm).trans hnd7) | (rw [Led.set_ne e2.symm]; exact hnd7)
        have hna8 : (σ7.set B.wl (lstOf (ws ++ [.int (1 + yns.sum) t6]) (n2 + 1))) na = some (tupOf ([.str (opS c) t] ++ kvs) nn) := by first | exact ((Led.set_ne e18).trans hna7) | (rw [Led.set_ne e18]; exact hna7)
        clear hi7 hcell7 hdl7 hnl7 hnd7 hna7 k7 g7 hwl7
        (generalize σ7.set B.wl (lstOf (ws ++ [.int (1 + yns.sum) t6]) (n2 + 1)) = σ8 at *; revert σ8; refine bar ?_; set_option tactic.hygienic false in intros)
        repeat k_upd
        refine j_list_append_m hdl8 ?_
        repeat k_upd
        intro t7
        repeat k_upd
        ((refine' j_map ?aq2 ?bq2 ?cq2 ?dq2 ?eq2 ?fq2 ?_); (case aq2 => assumption); (case bq2 => k_mem); (case cq2 => decide); (case dq2 => exact rfl); (case eq2 => decide); (case fq2 => k_mem))
        repeat k_upd
        intro t8 sc hsc
        refine j_from_tup 1 (by rfl) (Sub.new hsc _ _ hna8) Led.set_self (by decide) (by simp) (by have := hks.len; simp; exact (Nat.le_trans (Nat.le_trans (Nat.le_of_eq this) h2) (Nat.le_of_ble_eq_true rfl))) ?_ (by rfl)
        intro c3 hc3
        have s9 : Sub σ8 ((σ8.set sc (sliceObj (.int 1 t8) .none)).set c3 (tupOf (([Value.str (opS c) t] ++ kvs).drop 1) 0)) := (Sub.new hsc).trans (Sub.new hc3)
        refine ⟨.tup c3 kvs.toArray, rfl, ⟨_, Led.set_self, rfl, 0, rfl⟩, by have := hks.len; simp [Src.size]; exact (Nat.le_trans (Nat.le_trans (Nat.le_of_eq this) h2) (Nat.le_of_ble_eq_true rfl)), fun _ v => ∃ (z : Int) (tz : Tok), v = .int z tz, ?_, ?_⟩
        · intro X' i v mc σ5 O' hw' hE' hi' hv s6
          (refine x2_3 (kid_item hks hv) ?_; intro k tk hkm _ er1; obtain rfl := er1)
          have hklt := hlt k hkm
          (rw [hE] at hE'; replace hE' := hE')
          have hcell5 := s6 _ _ (s9 _ _ hcell8)
          have hi5 := (hi8.keep (s9 _) (s9 _)).keep (s6 _) (s6 _)
          have hdl5 := s6 _ _ (s9 _ _ hdl8)
          (refine x2_1 (ints_at hdi (show k < dns.length by exact (Nat.lt_of_lt_of_eq hklt (Eq.symm hdn)))) ?_; intro z tz hz5)
          repeat k_upd
          refine j_at_list k (by rfl) hdl5 hz5 (by exact (Nat.lt_of_lt_of_le (Nat.lt_trans hklt hz) (Nat.le_of_ble_eq_true rfl))) ?_ (by rfl)
          exact ⟨(i2_1 (z) ( tz) ( rfl)), s6⟩
        · intro zs σ9 D2 k2 hzl hzs s10 hD2
          (refine x1_2 (ints_ofAll hzs) ?_; intro zns hzi _)
          have s11 := (s9.trans s10).trans (Sub.new (o := lstOf zs k2) hD2)
          repeat k_upd
          intro t9
          repeat k_upd
          intro la hla
          refine j_add_list (vs := zs) (ws := [.int 0 t9]) (n := k2) (n2 := 0) (by first | exact ((Led.set_ne (by rintro rfl; (first | exact nos (Led.set_self) hla | exact nos hla (Led.set_self) | (rw [Led.set_self] at hla; cases hla)))).trans Led.set_self) | (rw [Led.set_ne (by rintro rfl; (first | exact nos (Led.set_self) hla | exact nos hla (Led.set_self) | (rw [Led.set_self] at hla; cases hla)))]; exact Led.set_self)) Led.set_self (by have := hks.len; simp [Src.size] at hzl; simp; exact (Nat.le_trans (Nat.le_trans (Nat.le_trans (Nat.le_of_eq hzl) (Nat.le_of_eq this)) h2) (Nat.le_of_ble_eq_true rfl))) fun lb hlb => ?_
          refine j_max O Led.set_self (intsAre_append hzi (.cons 0 t9 .nil)) (by simp) fun M tM => ?_
          have s12 := (s11.trans (Sub.new hla)).trans (Sub.new (o := lstOf (zs ++ [.int 0 t9]) 0) hlb)
          repeat k_upd
          intro t10
          have hdl12 := s12 _ _ hdl8
          refine j_append hdl12 (by have := hdi.length_eq; exact (Nat.le_of_lt (Nat.lt_of_lt_of_le (Nat.lt_of_le_of_lt (Nat.le_trans (Nat.le_of_eq this) (Nat.le_of_eq hdn)) hz) (Nat.le_of_ble_eq_true rfl)))) ?_
          (generalize ((σ9.set D2 (lstOf zs k2)).set la (lstOf [Value.int 0 t9] 0)).set lb (lstOf (zs ++ [Value.int 0 t9]) 0) = σ12 at *; revert σ12; refine bar ?_; set_option tactic.hygienic false in intros)
          have k12 := k8.trans s12.kp
          have g12 := g8.sub s12
          have hi12 := hi8.keep (s12 _) (s12 _)
          have hcell12 := s12 _ _ hcell8
          have hnl12 := s12 _ _ hnl8
          have hnd12 := s12 _ _ hnd8
          have hwl12 := s12 _ _ hwl8
          have e21 : X.env.locals + 1 ≠ B.dl := (ne_norole h.rdl hrc).symm
          have k13 : Kp ro bankR σ3 (σ12.set B.dl (lstOf (ds ++ [.int (1 + M) t10]) (n3 + 1))) := k12.trans (Kp.one h.rdl rfl)
          have g13 : RoOk ro (σ12.set B.dl (lstOf (ds ++ [.int (1 + M) t10]) (n3 + 1))) := g12.set ltup
          have hi13 : InsD (σ12.set B.dl (lstOf (ds ++ [.int (1 + M) t10]) (n3 + 1))) B.bk 186 B.bd B.fs := hi12.keep (fun o e => by first | exact ((Led.set_ne e19).trans e) | (rw [Led.set_ne e19]; exact e)) (fun o e => by first | exact ((Led.set_ne e20).trans e) | (rw [Led.set_ne e20]; exact e))
          have hcell13 : (σ12.set B.dl (lstOf (ds ++ [.int (1 + M) t10]) (n3 + 1))) (X.env.locals + 1) = some oc := by first | exact ((Led.set_ne e21).trans hcell12) | (rw [Led.set_ne e21]; exact hcell12)
          have hnl13 : (σ12.set B.dl (lstOf (ds ++ [.int (1 + M) t10]) (n3 + 1))) B.nl = some (lstOf (vs ++ [.ref na]) (n1 + 1)) := by first | exact ((Led.set_ne e8.symm).trans hnl12) | (rw [Led.set_ne e8.symm]; exact hnl12)
          have hnd13 : (σ12.set B.dl (lstOf (ds ++ [.int (1 + M) t10]) (n3 + 1))) B.nd = some o1 := by first | exact ((Led.set_ne e3.symm).trans hnd12) | (rw [Led.set_ne e3.symm]; exact hnd12)
          have hwl13 : (σ12.set B.dl (lstOf (ds ++ [.int (1 + M) t10]) (n3 + 1))) B.wl = some (lstOf (ws ++ [.int (1 + yns.sum) t6]) (n2 + 1)) := by first | exact ((Led.set_ne e14).trans hwl12) | (rw [Led.set_ne e14]; exact hwl12)
          have hdl13 : (σ12.set B.dl (lstOf (ds ++ [.int (1 + M) t10]) (n3 + 1))) B.dl = some (lstOf (ds ++ [.int (1 + M) t10]) (n3 + 1)) := Led.set_self
          (generalize σ12.set B.dl (lstOf (ds ++ [.int (1 + M) t10]) (n3 + 1)) = σ13 at *; revert σ13; refine bar ?_; set_option tactic.hygienic false in intros)
          have hna12 := s12 _ _ hna8
          clear hi8 hcell8 hdl8 hnl8 hnd8 hna8 k8 g8 hwl8 s9 s10 s11 s12 hlb hla
          clear hi12 hcell12 hdl12 hnl12 hnd12 k12 g12 hwl12
          repeat k_upd
          refine j_len_list hnl13 (by simp; exact (Nat.le_of_lt (Nat.lt_of_lt_of_le (Nat.lt_of_le_of_lt (Nat.le_of_eq hvl) hz) (Nat.le_of_ble_eq_true rfl)))) fun t11 => ?_
          repeat k_upd
          intro t12
          repeat k_upd
          intro t13
          have kt := k13.tup g
          have len1 : (nodes ++ [((c, ks) : Node)]).length = nodes.length + 1 := by simp
          refine (i3_5 (nodes ++ [(c, ks)]) ( nodes.length) ( t13) ( ?_) ( .inr (i0_3 (hin) ( rfl) ( rfl))) ( ?_) ( s0.kp.trans k13) ( g13))
          · show Value.int _ _ = _
            congr 1
            simp; exact (congrArg Nat.cast hvl)
          · refine ⟨hi13, h.rk, h.rd, h.rnl, h.rnd, h.rwl, h.rdl, (i2_3 (_) ( _) ( hnl13) ( by simp [hvl]) ( fun i x hx => ?_)), (i2_5 (o1) ( _) ( hnd13) ( ho1) ( ?_) ( by simp [hxl]) ( fun i x hx => ?_)), (i3_3 (_) ( _) ( _) ( hwl13) ( intsAre_append hwi (.cons _ _ .nil)) ( by simp [hwn])), (i3_3 (_) ( _) ( _) ( hdl13) ( intsAre_append hdi (.cons _ _ .nil)) ( by simp [hdn])), ?_⟩
            · rw [List.getElem?_append] at hx
              rw [List.getElem?_append, hvl]
              split at hx
              · rename_i hlt'
                rw [if_pos hlt']
                (refine x1_2 (hvn i x hx) ?_; intro a h1 h2)
                exact (i1_2 (a) ( h1) ( h2.tup kt))
              · rename_i hlt'
                rw [if_neg hlt']
                (refine x0_2 (last_get hx) ?_; intro hz0 er1; obtain rfl := er1)
                first | refine Mine.sb (hz0) ?_ | rw [hz0]
                exact (i1_2 (na) ( rfl) ( hN.tup kt))
            · intro y hy
              rcases List.mem_append.mp hy with hy | hy
              · exact (hx y hy).tup kt
              · simp only [List.mem_singleton] at hy
                subst hy; exact hKy.tup kt
            · rw [List.getElem?_append] at hx
              rw [List.getElem?_append, hxl]
              split at hx
              · rename_i hlt'
                rw [if_pos hlt']
                exact hxg i x hx
              · rename_i hlt'
                rw [if_neg hlt']
                (refine x0_2 (last_get hx) ?_; intro hz0 er1; obtain rfl := er1)
                first | refine Mine.sb (hz0) ?_ | rw [hz0]
                refine (i2_1 (na) ( t2) ( ?_))
                have : i = vs.length := by omega
                rw [this]; rfl
            · refine (i0_3 (?_) ( by simp; omega) ( fun i c' ks' hi' => ?_))
              · rw [List.nodup_append]
                exact (i0_3 (h.ok.1) ( by simp) ( fun a ha b hb e => hin (by simp only [List.mem_singleton] at hb; rw [← hb, ← e]; exact ha)))
              · rw [List.getElem?_append] at hi'
                split at hi'
                · exact h.ok.2.2 i c' ks' hi'
                · rename_i hlt'
                  (refine x0_2 (last_get hi') ?_; intro hz0 e)
                  cases e
                  exact (i0_3 (hc) ( h2) ( fun k hk => Nat.lt_of_lt_of_le (hlt k hk) (by exact (Nat.le_of_not_lt hlt'))))
end
section
--FILE FE
noncomputable def sumTo (g : Nat → Nat) : Nat → Nat
  | 0 => 0
  | n + 1 => sumTo g n + g n
theorem sumTo_same {g g' : Nat → Nat} : ∀ {n : Nat}, (∀ i, i < n → g i = g' i) → sumTo g n = sumTo g' n
  | 0, _ => rfl
  | n + 1, h => by unfold sumTo; rw [sumTo_same fun i hi => h i (by exact (Nat.lt_of_lt_of_le hi (Nat.le_add_right _ _))), h n (by exact (Nat.lt_succ_self _))]
theorem sumTo_one {g g' : Nat → Nat} {a : Nat} : ∀ {n : Nat}, a < n → (∀ i, i < n → i ≠ a → g i = g' i) → sumTo g n + g' a = sumTo g' n + g a
  | 0, ha, _ => by omega
  | n + 1, ha, h => by
    unfold sumTo
    by_cases e : a = n
    · subst e
      rw [sumTo_same fun i hi => h i (by exact (Nat.lt_of_lt_of_le hi (Nat.le_add_right _ _))) (by exact (Nat.ne_of_lt hi))]; omega
    · have := sumTo_one (n := n) (by omega) fun i hi => h i (by exact (Nat.lt_of_lt_of_le hi (Nat.le_add_right _ _)))
      have := h n (by exact (Nat.lt_succ_self _)) (by omega)
      omega
theorem sumTo_two {g g' : Nat → Nat} {a b : Nat} {n : Nat} (hab : a ≠ b) (ha : a < n) (hb : b < n) (h : ∀ i, i < n → i ≠ a → i ≠ b → g i = g' i) : sumTo g n + g' a + g' b = sumTo g' n + g a + g b := by
  have h1 := sumTo_one (g := g) (g' := fun i => if i = a then g' a else g i) ha fun i hi hia => by simp [hia]
  have h2 := sumTo_one (g := fun i => if i = a then g' a else g i) (g' := g') hb fun i hi hib => by
    by_cases e : i = a
    · subst e; simp
    · simp [e]; exact h i hi e hib
  simp only [if_true] at h1
  have e : (b = a) = False := by simp; exact Ne.symm hab
  simp only [e, if_false] at h2
  omega
theorem le_sumTo {g : Nat → Nat} {a : Nat} : ∀ {n : Nat}, a < n → g a ≤ sumTo g n
  | 0, h => by omega
  | n + 1, h => by
    unfold sumTo
    by_cases e : a = n
    · subst e; exact (Nat.le_add_left _ _)
    · have := le_sumTo (g := g) (n := n) (by omega : a < n); exact (Nat.le_trans this (Nat.le_add_right _ _))
theorem sumTo_le {g g' : Nat → Nat} : ∀ {n : Nat}, (∀ i, i < n → g i ≤ g' i) → sumTo g n ≤ sumTo g' n
  | 0, _ => Nat.le_refl _
  | n + 1, h => by unfold sumTo; have := sumTo_le (n := n) fun i hi => h i (by exact (Nat.lt_of_lt_of_le hi (Nat.le_add_right _ _))); have := h n (by exact (Nat.lt_succ_self _)); omega
theorem sumTo_const (c : Nat) : ∀ n : Nat, sumTo (fun _ => c) n = n * c
  | 0 => by simp [sumTo]
  | n + 1 => by unfold sumTo; rw [sumTo_const c n, Nat.succ_mul]
noncomputable def wt (par : List Nat) (f : Nat → Nat) : Nat := sumTo (fun i => if par[i]? = some i then f i else 0) par.length
theorem wt_merge {par : List Nat} {f f' : Nat → Nat} {a b : Nat} (ha : par[a]? = some a) (hb : par[b]? = some b) (hab : a ≠ b) (hf : ∀ i, i ≠ a → i ≠ b → f' i = f i) : wt (par.set b a) f' + f a + f b = wt par f + f' a := by
  have hla : a < par.length := by rcases Nat.lt_or_ge a par.length with h | h; · exact h
                                  · (first | exact nos (List.getElem?_eq_none h) ha | exact nos ha (List.getElem?_eq_none h) | (rw [List.getElem?_eq_none h] at ha; cases ha))
  have hlb : b < par.length := by rcases Nat.lt_or_ge b par.length with h | h; · exact h
                                  · (first | exact nos (List.getElem?_eq_none h) hb | exact nos hb (List.getElem?_eq_none h) | (rw [List.getElem?_eq_none h] at hb; cases hb))
  unfold wt
  rw [List.length_set]
  have key := sumTo_two (g := fun i => if par[i]? = some i then f i else 0) (g' := fun i => if (par.set b a)[i]? = some i then f' i else 0) hab hla hlb fun i hi hia hib => by
    simp only [List.getElem?_set, Ne.symm hib, if_false, hf i hia hib]
  have ga : (if par[a]? = some a then f a else 0) = f a := if_pos ha
  have gb : (if par[b]? = some b then f b else 0) = f b := if_pos hb
  have ga' : (if (par.set b a)[a]? = some a then f' a else 0) = f' a := if_pos (by first | exact ((List.getElem?_set).trans ((if_neg (Ne.symm hab)).trans ha)) | (rw [List.getElem?_set, if_neg (Ne.symm hab)]; exact ha))
  have gb' : (if (par.set b a)[b]? = some b then f' b else 0) = 0 := if_neg (by simp [List.getElem?_set, hlb]; exact hab)
  omega
theorem sumTo_succ {g : Nat → Nat} {n : Nat} : sumTo g (n + 1) = sumTo g n + g n := rfl
theorem wt_new {par : List Nat} {f f' : Nat → Nat} (hf : ∀ i, i < par.length → f' i = f i) : wt (par ++ [par.length]) f' = wt par f + f' par.length := by
  unfold wt
  rw [List.length_append, List.length_singleton, sumTo_succ]
  congr 1
  · refine sumTo_same fun i hi => ?_
    rw [List.getElem?_append_left hi, hf i hi]
  · simp
theorem root_le_wt {par : List Nat} {f : Nat → Nat} {a : Nat} (ha : par[a]? = some a) : f a ≤ wt par f := by
  have hla : a < par.length := by rcases Nat.lt_or_ge a par.length with h | h; · exact h
                                  · (first | exact nos (List.getElem?_eq_none h) ha | exact nos ha (List.getElem?_eq_none h) | (rw [List.getElem?_eq_none h] at ha; cases ha))
  have := le_sumTo (g := fun i => if par[i]? = some i then f i else 0) hla
  simp only [ha, if_true] at this
  exact this

theorem findR_root {par : List Nat} (h : DadsOk par) : ∀ {i : Nat}, i < par.length → par[findR par i]? = some (findR par i) ∧ findR par i ≤ i := by
  intro i
  induction i using Nat.strongRecOn with
  | ind i ih =>
    intro hi
    have hp : par[i]? = some par[i] := by simp [hi]
    by_cases e : par[i] = i
    · rw [e] at hp
      rw [findR_stop hp]; exact ⟨hp, Nat.le_refl _⟩
    · have hle := h.2 i _ hp
      first | refine Mine.sb (findR_go h hp e) ?_ | rw [findR_go h hp e]
      have := ih par[i] (by omega) (by exact (Nat.lt_of_le_of_lt hle hi))
      exact ⟨this.1, by exact (Nat.le_trans this.2 hle)⟩
theorem findR_lt {par : List Nat} (h : DadsOk par) {i : Nat} (hi : i < par.length) : findR par i < par.length := Nat.lt_of_le_of_lt (findR_root h hi).2 hi
theorem findR_idem {par : List Nat} (h : DadsOk par) {i : Nat} (hi : i < par.length) : findR par (findR par i) = findR par i := findR_stop (findR_root h hi).1
theorem DadsOk.merge {par : List Nat} (h : DadsOk par) {a b : Nat} (hab : a < b) : DadsOk (par.set b a) := by
  refine ⟨by first | exact ((List.length_set).trans h.1) | (rw [List.length_set]; exact h.1), fun i p hp => ?_⟩
  rw [List.getElem?_set] at hp
  split at hp
  · rename_i e
    split at hp
    · cases hp; exact (Nat.le_of_lt (Nat.lt_of_lt_of_eq hab e))
    · cases hp
  · exact h.2 i p hp
theorem findR_merge {par : List Nat} (h : DadsOk par) {a b : Nat} (hab : a < b) (ha : par[a]? = some a) (hb : par[b]? = some b) : ∀ {i : Nat}, i < par.length → findR (par.set b a) i = if findR par i = b then a else findR par i := by
  have h' := h.merge hab
  have hlb : b < par.length := by rcases Nat.lt_or_ge b par.length with h | h; · exact h
                                  · (first | exact nos (List.getElem?_eq_none h) hb | exact nos hb (List.getElem?_eq_none h) | (rw [List.getElem?_eq_none h] at hb; cases hb))
  have ha' : (par.set b a)[a]? = some a := by first | exact ((List.getElem?_set).trans ((if_neg (by exact (Nat.ne_of_gt hab))).trans ha)) | (rw [List.getElem?_set, if_neg (by exact (Nat.ne_of_gt hab))]; exact ha)
  intro i
  induction i using Nat.strongRecOn with
  | ind i ih =>
    intro hi
    by_cases ib : i = b
    · subst ib
      rw [findR_stop hb, if_pos rfl, findR_go h' (p := a) (by simp [hi]) (by exact (Nat.ne_of_lt hab)), findR_stop ha']
    · have hp : par[i]? = some par[i] := by simp [hi]
      have hp' : (par.set b a)[i]? = some par[i] := by first | exact ((List.getElem?_set).trans ((if_neg (Ne.symm ib)).trans hp)) | (rw [List.getElem?_set, if_neg (Ne.symm ib)]; exact hp)
      by_cases e : par[i] = i
      · rw [e] at hp hp'
        rw [findR_stop hp, findR_stop hp', if_neg ib]
      · have hle := h.2 i _ hp
        rw [findR_go h hp e, findR_go h' hp' e]
        exact ih par[i] (by omega) (by exact (Nat.lt_of_le_of_lt hle hi))
theorem DadsOk.make {par : List Nat} (h : DadsOk par) (hz : par.length < 999) : DadsOk (par ++ [par.length]) := by
  refine ⟨by simp; omega, fun i p hp => ?_⟩
  rw [List.getElem?_append] at hp
  split at hp
  · exact h.2 i p hp
  · (refine x0_2 (last_get hp) ?_; intro h0 er1; obtain rfl := er1)
    omega
theorem findR_make {par : List Nat} (h : DadsOk par) (hz : par.length < 999) : ∀ {i : Nat}, i < par.length → findR (par ++ [par.length]) i = findR par i := by
  have h' := h.make hz
  intro i
  induction i using Nat.strongRecOn with
  | ind i ih =>
    intro hi
    have hp : par[i]? = some par[i] := by simp [hi]
    have hp' : (par ++ [par.length])[i]? = some par[i] := by first | exact ((List.getElem?_append_left hi).trans hp) | (rw [List.getElem?_append_left hi]; exact hp)
    by_cases e : par[i] = i
    · rw [e] at hp hp'
      rw [findR_stop hp, findR_stop hp']
    · have hle := h.2 i _ hp
      rw [findR_go h hp e, findR_go h' hp' e]
      exact ih par[i] (by omega) (by exact (Nat.lt_of_le_of_lt hle hi))
theorem findR_made {par : List Nat} : findR (par ++ [par.length]) par.length = par.length := findR_stop (by simp)

structure UL where
  (up ud al ll ml : Addr)
noncomputable def UL.fs (U : UL) : List (Str × Value) := [(Str.ofString "merged", .ref U.ml), (Str.ofString "lots", .ref U.ll), (Str.ofString "above", .ref U.al)]
noncomputable def Roles.set (ro : Roles) (a : Addr) (r : Role) : Roles := fun b => if b = a then some r else ro b
theorem Roles.set_self {ro : Roles} {a : Addr} {r : Role} : ro.set a r a = some r := by simp [Roles.set]
theorem Roles.set_ne {ro : Roles} {a b : Addr} {r : Role} (h : b ≠ a) : ro.set a r b = ro b := by simp [Roles.set, h]

structure UniL (σ : Led) (ro : Roles) (U : UL) (par : List Nat) (lens : Nat → Nat) : Prop where
  ins : InsD σ U.up 268 U.ud U.fs
  rk : ro U.up = none
  rd : ro U.ud = none
  ral : ro U.al = some .above
  rll : ro U.ll = some .lots
  rml : ro U.ml = some .merged
  al : ∃ vs n, σ U.al = some (lstOf vs n) ∧ Nats vs par
  ll : ∃ vs n, σ U.ll = some (lstOf vs n) ∧ vs.length = par.length ∧ ∀ i, i < par.length → ∃ a ws k, vs[i]? = some (.ref a) ∧ ro a = some (.lot i) ∧ σ a = some (lstOf ws k) ∧ ws.length = lens i
  ml : ∃ vs n, σ U.ml = some (lstOf vs n) ∧ vs.length + wt par (fun _ => 1) = par.length
  ok : DadsOk par
  len : wt par lens ≤ par.length

noncomputable def uniR : Role → Bool
  | .above | .lots | .merged | .lot _ => true
  | _ => false
theorem UniL.keep {σ σ' : Led} {ro ro' : Roles} {U : UL} {par : List Nat} {lens : Nat → Nat} {T : Role → Bool} (h : UniL σ ro U par lens) (k : Kp ro T σ σ') (g : RoOk ro σ) (hT : ∀ r, uniR r = true → T r = false) (hr : ∀ a, σ a ≠ none → ro' a = ro a) : UniL σ' ro' U par lens := by
  have e1 : ∀ {a r}, ro a = some r → ro' a = some r := fun {a r} e => by first | exact ((hr a (by (refine x1_2 (g a r e) ?_; intro o ho _); rw [ho]; simp)).trans e) | (rw [hr a (by (refine x1_2 (g a r e) ?_; intro o ho _); rw [ho]; simp)]; exact e)
  have no : ∀ {a}, ro a = none → ∀ o, σ a = some o → σ' a = some o := fun {a} e o ho => k a o ho fun r hr => by (first | exact nos (e) hr | exact nos hr (e) | (rw [e] at hr; cases hr))
  have bk : ∀ {a r}, ro a = some r → uniR r = true → ∀ o, σ a = some o → σ' a = some o := fun {a r} e hb o ho => k a o ho fun q hq => by (first | exact nos (e) hq | exact nos hq (e) | (rw [e] at hq; cases hq)); exact hT _ hb
  (refine x0_2 ((⟨h.ins.x, h.ins.d⟩ : _ ∧ _)) ?_; intro ox od)
  refine ⟨h.ins.keep (no h.rk) (no h.rd), ?_, ?_, e1 h.ral, e1 h.rll, e1 h.rml, ?_, ?_, ?_, h.ok, h.len⟩
  · rw [hr _ (by rw [ox]; simp)]; exact h.rk
  · (refine x2_1 od ?_; clear od; intro es n od); rw [hr _ (by rw [od]; simp)]; exact h.rd
  · (refine x2_2 h.al ?_; intro vs n a b)
    exact (i2_2 (vs) ( n) ( bk h.ral rfl _ a) ( b))
  · (refine x2_3 h.ll ?_; intro vs n a b c)
    refine (i2_3 (vs) ( n) ( bk h.rll rfl _ a) ( b) ( fun i hi => ?_))
    (refine x3_4 (c i hi) ?_; intro a ws k c1 c2 c3 c4)
    exact (i3_4 (a) ( ws) ( k) ( c1) ( e1 c2) ( bk c2 rfl _ c3) ( c4))
  · (refine x2_2 h.ml ?_; intro vs n a b)
    exact (i2_2 (vs) ( n) ( bk h.rml rfl _ a) ( b))

theorem spec_ufind {w : World} {σ : Led} {ro : Roles} {U : UL} {par : List Nat} {lens : Nat → Nat} {a : Nat} {t : Tok} {d : Nat} (h : UniL σ ro U par lens) (ha : a < par.length) :
    Spec w 225 [.ref U.up, .int a t] (d + 1) σ (fun r σ' => (∃ t, r = .int (findR par a) t) ∧ Sub σ σ') := by
  (refine x2_5 h.ins ?_; intro es n h1 h2 _ hr hf)
  (refine x2_2 h.al ?_; intro vs n2 h3 h4)
  exact spec_find h1 h2 (by first | exact ((getL_fnd hr).trans ((hf).trans rfl)) | (rw [getL_fnd hr, hf]; exact rfl)) h3 lstO h4.ints h.ok ha

theorem spec_usize {w : World} {σ : Led} {ro : Roles} {U : UL} {par : List Nat} {lens : Nat → Nat} {d : Nat} (h : UniL σ ro U par lens) :
    Spec w 218 [.ref U.up] (d + 1) σ (fun r σ' => (∃ t, r = .int (par.length : Nat) t) ∧ Sub σ σ') := by
  refine' spec_def (binds := [(Str.ofString "self", .ref U.up)]) ?ho ?hcd ?hb ?hl ?hc ?h1 ?h2 ?h3 ?h
  k_enter
  intro X hw O hE
  subst hw
  have hi := h.ins
  (refine x2_2 h.al ?_; intro vs n hal hv)
  repeat k_upd
  refine j_len_list hal (by have := hv.len; have := h.ok.1; omega) fun t2 => ?_
  exact ⟨⟨t2, by rw [hv.len]; rfl⟩, .refl⟩

theorem spec_make {w : World} {σ : Led} {ro : Roles} {U : UL} {par : List Nat} {lens : Nat → Nat} {d : Nat} (h : UniL σ ro U par lens) (g : RoOk ro σ) (hz : par.length < 900) :
    Spec w 211 [.ref U.up] (d + 1) σ (fun r σ' => ∃ la, σ la = none ∧ UniL σ' (ro.set la (.lot par.length)) U (par ++ [par.length]) (fun i => if i = par.length then 1 else lens i) ∧ Kp ro uniR σ σ' ∧ RoOk (ro.set la (.lot par.length)) σ') := by
  refine' spec_def (binds := [(Str.ofString "self", .ref U.up)]) ?ho ?hcd ?hb ?hl ?hc ?h1 ?h2 ?h3 ?h
  k_enter
  intro X hw O hE
  subst hw
  have hi := h.ins
  (refine x2_2 h.al ?_; intro vs n hal hv)
  (refine x2_3 h.ll ?_; intro ls n2 hll hlen hlots)
  (refine x2_2 h.ml ?_; intro ms n3 hml hmn)
  have e1 : U.ll ≠ U.al := ne_role h.rll h.ral (by decide)
  have e2 : U.ml ≠ U.al := ne_role h.rml h.ral (by decide)
  have e3 : U.up ≠ U.al := (ne_norole h.ral h.rk).symm
  have e4 : U.ud ≠ U.al := (ne_norole h.ral h.rd).symm
  have e5 : U.up ≠ U.ll := (ne_norole h.rll h.rk).symm
  have e6 : U.ud ≠ U.ll := (ne_norole h.rll h.rd).symm
  have e7 : U.ml ≠ U.ll := ne_role h.rml h.rll (by decide)
  repeat k_upd
  refine j_list_append_m hal ?_
  repeat k_upd
  refine j_len_list hal (by have := hv.len; exact (Nat.le_of_lt (Nat.lt_of_lt_of_le (Nat.lt_of_le_of_lt (Nat.le_of_eq this) hz) (Nat.le_of_ble_eq_true rfl)))) fun t2 => ?_
  refine j_append hal (by have := hv.len; exact (Nat.le_of_lt (Nat.lt_of_lt_of_le (Nat.lt_of_le_of_lt (Nat.le_of_eq this) hz) (Nat.le_of_ble_eq_true rfl)))) ?_
  have hi2 : InsD (σ.set U.al (lstOf (vs ++ [.int (vs.length : Nat) t2]) (n + 1))) U.up 268 U.ud U.fs := hi.keep (fun o e => by first | exact ((Led.set_ne e3).trans e) | (rw [Led.set_ne e3]; exact e)) (fun o e => by first | exact ((Led.set_ne e4).trans e) | (rw [Led.set_ne e4]; exact e))
  clear hi
  have hll2 : (σ.set U.al (lstOf (vs ++ [.int (vs.length : Nat) t2]) (n + 1))) U.ll = some (lstOf ls n2) := by first | exact ((Led.set_ne e1).trans hll) | (rw [Led.set_ne e1]; exact hll)
  have hal2 : (σ.set U.al (lstOf (vs ++ [.int (vs.length : Nat) t2]) (n + 1))) U.al = some (lstOf (vs ++ [.int (vs.length : Nat) t2]) (n + 1)) := Led.set_self
  have k2 : Kp ro uniR σ (σ.set U.al (lstOf (vs ++ [.int (vs.length : Nat) t2]) (n + 1))) := Kp.one h.ral rfl
  have g2 : RoOk ro (σ.set U.al (lstOf (vs ++ [.int (vs.length : Nat) t2]) (n + 1))) := g.set ltup
  have f2 : ∀ a, (σ.set U.al (lstOf (vs ++ [.int (vs.length : Nat) t2]) (n + 1))) a = none → σ a = none := fun a q => by
    by_cases e : a = U.al
    · subst e; (first | exact nos (Led.set_self) q | exact nos q (Led.set_self) | (rw [Led.set_self] at q; cases q))
    · rw [Led.set_ne e] at q; exact q
  have b2 : ∀ a r, ro a = some r → r ≠ .above → (σ.set U.al (lstOf (vs ++ [.int (vs.length : Nat) t2]) (n + 1))) a = σ a := fun a r e q => Led.set_ne (ne_role e h.ral q)
  (generalize σ.set U.al (lstOf (vs ++ [.int (vs.length : Nat) t2]) (n + 1)) = σ2 at *; revert σ2; refine bar ?_; set_option tactic.hygienic false in intros)
  repeat k_upd
  refine j_list_append_m hll2 ?_
  repeat k_upd
  refine j_len_list hll2 (by exact (Nat.le_of_lt (Nat.lt_of_lt_of_le (Nat.lt_of_le_of_lt (Nat.le_of_eq hlen) hz) (Nat.le_of_ble_eq_true rfl)))) fun t3 => ?_
  repeat k_upd
  intro la hla
  have s3 : Sub σ2 (σ2.set la (lstOf [Value.int (ls.length : Nat) t3] 0)) := .new hla
  have hla3 : (σ2.set la (lstOf [Value.int (ls.length : Nat) t3] 0)) la = some (lstOf [Value.int (ls.length : Nat) t3] 0) := Led.set_self
  (generalize σ2.set la (lstOf [Value.int (ls.length : Nat) t3] 0) = σ3 at *; revert σ3; refine bar ?_; set_option tactic.hygienic false in intros)
  have hla0 := f2 la hla
  have e8 : U.ll ≠ la := by rintro rfl; (first | exact nos (hll2) hla | exact nos hla (hll2) | (rw [hll2] at hla; cases hla))
  have e9 : U.al ≠ la := by rintro rfl; (first | exact nos (hal2) hla | exact nos hla (hal2) | (rw [hal2] at hla; cases hla))
  have hll3 := s3 _ _ hll2
  have hal3 := s3 _ _ hal2
  have hi3 := hi2.keep (s3 _) (s3 _)
  clear hi2
  refine j_append hll3 (by exact (Nat.le_of_lt (Nat.lt_of_lt_of_le (Nat.lt_of_le_of_lt (Nat.le_of_eq hlen) hz) (Nat.le_of_ble_eq_true rfl)))) ?_
  have hi4 : InsD (σ3.set U.ll (lstOf (ls ++ [.ref la]) (n2 + 1))) U.up 268 U.ud U.fs := hi3.keep (fun o e => by first | exact ((Led.set_ne e5).trans e) | (rw [Led.set_ne e5]; exact e)) (fun o e => by first | exact ((Led.set_ne e6).trans e) | (rw [Led.set_ne e6]; exact e))
  have hal4 : (σ3.set U.ll (lstOf (ls ++ [.ref la]) (n2 + 1))) U.al = some (lstOf (vs ++ [.int (vs.length : Nat) t2]) (n + 1)) := by first | exact ((Led.set_ne e1.symm).trans hal3) | (rw [Led.set_ne e1.symm]; exact hal3)
  clear hi3
  repeat k_upd
  refine j_len_list hal4 (by have := hv.len; simp; exact (Nat.le_of_lt (Nat.lt_of_lt_of_le (Nat.lt_of_le_of_lt (Nat.le_of_eq this) hz) (Nat.le_of_ble_eq_true rfl)))) fun t4 => ?_
  repeat k_upd
  intro t5
  repeat k_upd
  intro t6
  have hrla : ro la = none := g.fresh hla0
  have up : ∀ a r, ro a = some r → (ro.set la (.lot par.length)) a = some r := fun a r e => by first | exact ((Roles.set_ne (ne_norole e hrla)).trans e) | (rw [Roles.set_ne (ne_norole e hrla)]; exact e)
  have dn : ∀ a, σ a ≠ none → ro a = none → (ro.set la (.lot par.length)) a = none := fun a e q => by first | exact ((Roles.set_ne (by rintro rfl; exact e hla0)).trans q) | (rw [Roles.set_ne (by rintro rfl; exact e hla0)]; exact q)
  refine ⟨la, hla0, ⟨hi4, dn _ (by rw [h.ins.x]; simp) h.rk, dn _ (by (refine x2_1 h.ins.d ?_; intro es n q); rw [q]; simp) h.rd, up _ _ h.ral, up _ _ h.rll, up _ _ h.rml, (i2_2 (_) ( _) ( hal4) ( ?_)), (i2_3 (_) ( _) ( Led.set_self) ( by simp [hlen]) ( fun i hi => ?_)), (i2_2 (ms) ( n3) ( ?_) ( ?_)), h.ok.make (by exact (Nat.lt_of_lt_of_le hz (Nat.le_of_ble_eq_true rfl))), ?_⟩, (k2.trans s3.kp).trans (Kp.one h.rll rfl), fun a r e => ?_⟩
  · rw [hv.len]; exact hv.append (.cons _ _ .nil)
  · by_cases e : i < par.length
    · (refine x3_4 (hlots i e) ?_; intro a ws k c1 c2 c3 c4)
      refine (i3_4 (a) ( ws) ( k) ( by first | exact ((List.getElem?_append_left (by exact (Nat.lt_of_lt_of_eq e (Eq.symm hlen)))).trans c1) | (rw [List.getElem?_append_left (by exact (Nat.lt_of_lt_of_eq e (Eq.symm hlen)))]; exact c1)) ( up _ _ c2) ( ?_) ( by first | exact ((if_neg (by exact (Nat.ne_of_lt e))).trans c4) | (rw [if_neg (by exact (Nat.ne_of_lt e))]; exact c4)))
      first | refine Mine.sb (Led.set_ne (ne_role c2 h.rll (by simp))) ?_ | rw [Led.set_ne (ne_role c2 h.rll (by simp))]
      exact s3 _ _ (by first | exact ((b2 _ _ c2 (by simp)).trans c3) | (rw [b2 _ _ c2 (by simp)]; exact c3))
    · have e' : i = par.length := by simp at hi; exact (Nat.le_antisymm (Nat.le_of_lt_succ hi) (Nat.le_of_not_lt e))
      subst e'
      refine (i3_4 (la) ( _) ( 0) ( by rw [← hlen]; simp) ( Roles.set_self) ( by first | exact ((Led.set_ne e8.symm).trans hla3) | (rw [Led.set_ne e8.symm]; exact hla3)) ( by simp))
  · first | refine Mine.sb (Led.set_ne e7) ?_ | rw [Led.set_ne e7]
    exact s3 _ _ (by first | exact ((b2 _ _ h.rml (by decide)).trans hml) | (rw [b2 _ _ h.rml (by decide)]; exact hml))
  · rw [wt_new (f := fun _ => 1) fun _ _ => rfl]; simp; omega
  · first | refine Mine.sb (wt_new (f := lens) fun i hi => by rw [if_neg (by exact (Nat.ne_of_lt hi))]) ?_ | rw [wt_new (f := lens) fun i hi => by rw [if_neg (by exact (Nat.ne_of_lt hi))]]
    have := h.len; simp; exact this
  · by_cases e' : a = la
    · subst e'; exact (i1_2 (_) ( by first | exact ((Led.set_ne e8.symm).trans hla3) | (rw [Led.set_ne e8.symm]; exact hla3)) ( ltup))
    · rw [Roles.set_ne e'] at e
      exact (((g2.sub s3).set (a := U.ll) (o := lstOf (ls ++ [.ref la]) (n2 + 1)) ltup)) a r e
end
section
--FILE FG
theorem len_two {α : Type} {l : List α} (h : l.length = 2) : ∃ a b, l = [a, b] := by
  rcases l with _ | ⟨a, _ | ⟨b, _ | ⟨c, r⟩⟩⟩
  · cases h
  · cases h
  · exact (i2_1 (a) ( b) ( rfl))
  · cases h
theorem len_one {α : Type} {l : List α} (h : l.length = 1) : ∃ a, l = [a] := by
  rcases l with _ | ⟨a, _ | ⟨b, r⟩⟩
  · cases h
  · exact ⟨a, rfl⟩
  · cases h
theorem ints_cons {vs : List Value} {n : Int} {ns : List Int} (h : IntsAre vs (n :: ns)) : ∃ t us, vs = .int n t :: us ∧ IntsAre us ns := by
  cases h with | cons _ t h => exact (i2_2 (t) ( _) ( rfl) ( h))
theorem ints_nil {vs : List Value} (h : IntsAre vs []) : vs = [] := by cases h; rfl
theorem sorted_two {vs : List Value} {ns : List Int} {a b : Nat} (hi : IntsAre vs ns) (hp : ns.Perm [(a : Int), b]) (hw : ns.Pairwise (· ≤ ·)) : ∃ t u, vs = [.int (min a b : Nat) t, .int (max a b : Nat) u] := by
  (refine x2_1 (len_two (l := ns) hp.length_eq) ?_; intro x y er1; obtain rfl := er1)
  (refine x2_2 (ints_cons hi) ?_; intro t us er1 hi1; obtain rfl := er1)
  (refine x2_2 (ints_cons hi1) ?_; intro u us er1 hi2; obtain rfl := er1)
  first | refine Mine.sb (ints_nil hi2) ?_ | rw [ints_nil hi2]
  refine (i2_1 (t) ( u) ( ?_))
  have hxy : x ≤ y := by simpa using hw
  have h1 : x ∈ [(a : Int), b] := hp.mem_iff.mp (by simp)
  have h2 : y ∈ [(a : Int), b] := hp.mem_iff.mp (by simp)
  have h3 : (a : Int) ∈ [x, y] := hp.mem_iff.mpr (by simp)
  have h4 : (b : Int) ∈ [x, y] := hp.mem_iff.mpr (by simp)
  clear hp hw hi hi1 hi2
  simp only [List.mem_cons, List.not_mem_nil, or_false] at h1 h2 h3 h4
  have e1 : x = ((min a b : Nat) : Int) := by omega
  have e2 : y = ((max a b : Nat) : Int) := by omega
  rw [e1, e2]

theorem Nats.set {vs : List Value} {ns : List Nat} (h : Nats vs ns) (i k : Nat) (t : Tok) : Nats (vs.set i (.int k t)) (ns.set i k) := by
  induction h generalizing i with
  | nil => exact .nil
  | cons n u _ ih =>
    cases i with
    | zero => exact .cons k t ‹_›
    | succ i => exact .cons n u (ih i)
theorem spec_umerge {w : World} {σ : Led} {ro : Roles} {U : UL} {par : List Nat} {lens : Nat → Nat} {a b : Nat} {t u : Tok} {d : Nat} (h : UniL σ ro U par lens) (g : RoOk ro σ) (ha : a < par.length) (hb : b < par.length) :
    Spec w 232 [.ref U.up, .int a t, .int b u] (d + 2) σ (fun r σ' => if findR par a = findR par b then r = .none ∧ Sub σ σ' else
      ∃ tt k t1 t2, r = .ref tt ∧ σ' tt = some (tupOf [.int (min (findR par a) (findR par b) : Nat) t1, .int (max (findR par a) (findR par b) : Nat) t2] k) ∧
        UniL σ' ro U (par.set (max (findR par a) (findR par b)) (min (findR par a) (findR par b))) (fun i => if i = min (findR par a) (findR par b) then lens (min (findR par a) (findR par b)) + lens (max (findR par a) (findR par b)) else lens i) ∧ Kp ro uniR σ σ' ∧ RoOk ro σ') := by
  refine' spec_def (binds := [(Str.ofString "self", .ref U.up), (Str.ofString "a", .int a t), (Str.ofString "b", .int b u)]) ?ho ?hcd ?hb ?hl ?hc ?h1 ?h2 ?h3 ?h
  k_enter
  intro X hw O hE
  subst hw
  have hi := h.ins
  repeat k_upd
  refine ((spec_ufind (d := d) h ha).j rfl O).mono1 ?_
  (intro r σ1 zr1; refine x0_2 zr1 ?_; clear zr1; (intro zt2 s1; refine x1_1 zt2 ?_; clear zt2; intro t1 er3; obtain rfl := er3))
  replace h := h.keep (T := fun _ => false) s1.kp g (fun _ _ => rfl) fun _ _ => rfl
  replace g := g.sub s1
  clear hi
  have hi := h.ins
  repeat k_upd
  refine ((spec_ufind (d := d) h hb).j rfl O).mono1 ?_
  (intro r σ2 zr1; refine x0_2 zr1 ?_; clear zr1; (intro zt2 s2; refine x1_1 zt2 ?_; clear zt2; intro t2 er3; obtain rfl := er3))
  replace h := h.keep (T := fun _ => false) s2.kp g (fun _ _ => rfl) fun _ _ => rfl
  replace g := g.sub s2
  clear hi
  repeat k_upd
  intro l hl
  refine j_sorted_ints (ns := [(findR par a : Int), (findR par b : Int)]) Led.set_self (.cons _ _ (.cons _ _ .nil)) (by simp) fun c vs' ns' e hc hi' hp hw => ?_
  (refine x2_1 (sorted_two hi' hp hw) ?_; intro t3 t4 er1; obtain rfl := er1)
  have s3 := (Sub.new (o := lstOf [Value.int (findR par a) t1, Value.int (findR par b) t2] 0) hl).trans (Sub.new (o := lstOf [.int (min (findR par a) (findR par b) : Nat) t3, .int (max (findR par a) (findR par b) : Nat) t4] e) hc)
  replace h := h.keep (T := fun _ => false) s3.kp g (fun _ _ => rfl) fun _ _ => rfl
  replace g := g.sub s3
  have r1 := findR_root h.ok ha
  have r2 := findR_root h.ok hb
  have hc3 : ((σ2.set l (lstOf [Value.int (findR par a) t1, Value.int (findR par b) t2] 0)).set c (lstOf [.int (min (findR par a) (findR par b) : Nat) t3, .int (max (findR par a) (findR par b) : Nat) t4] e)) c = some (lstOf [.int (min (findR par a) (findR par b) : Nat) t3, .int (max (findR par a) (findR par b) : Nat) t4] e) := Led.set_self
  have s0 := (s1.trans s2).trans s3
  clear s3
  repeat k_upd
  (generalize ((σ2.set l (lstOf [Value.int (findR par a) t1, Value.int (findR par b) t2] 0)).set c (lstOf [.int (min (findR par a) (findR par b) : Nat) t3, .int (max (findR par a) (findR par b) : Nat) t4] e)) = σ3 at *; revert σ3; refine bar ?_; set_option tactic.hygienic false in intros)
  have hkp : par[min (findR par a) (findR par b)]? = some (min (findR par a) (findR par b)) := by
    rcases Nat.le_total (findR par a) (findR par b) with q | q
    · rw [Nat.min_eq_left q]; exact r1.1
    · rw [Nat.min_eq_right q]; exact r2.1
  have hgn : par[max (findR par a) (findR par b)]? = some (max (findR par a) (findR par b)) := by
    rcases Nat.le_total (findR par a) (findR par b) with q | q
    · rw [Nat.max_eq_right q]; exact r2.1
    · rw [Nat.max_eq_left q]; exact r1.1
  have hle : min (findR par a) (findR par b) ≤ max (findR par a) (findR par b) := by omega
  have heq : findR par a = findR par b ↔ min (findR par a) (findR par b) = max (findR par a) (findR par b) := by omega
  (generalize hkk : min (findR par a) (findR par b) = kp at *; revert kp; refine bar ?_; set_option tactic.hygienic false in intros)
  (generalize hgg : max (findR par a) (findR par b) = gn at *; revert gn; refine bar ?_; set_option tactic.hygienic false in intros)
  have hi := h.ins
  refine j_bindPairL O hc3 (by k_mem) (by k_mem) ?_
  repeat k_upd
  by_cases hq : kp = gn
  · refine Mine.sb (show ((kp : Int) == (gn : Int)) = true from beq_iff_eq.mpr (by exact (congrArg Nat.cast hq))) ?_
    repeat k_upd
    show if findR par a = findR par b then _ else _
    rw [if_pos (heq.mpr hq)]
    exact ⟨rfl, s0⟩
  · refine Mine.sb (show ((kp : Int) == (gn : Int)) = false from beq_eq_false_iff_ne.mpr (by exact (fun e => hq (Int.ofNat_inj.mp e)))) ?_
    repeat k_upd
    (refine x2_2 h.al ?_; intro vs n hal hv)
    (refine x2_3 h.ll ?_; intro ls n2 hll hlen hlots)
    (refine x2_2 h.ml ?_; intro ms n3 hml hmn)
    have hlt : kp < gn := by omega
    have hgl : gn < par.length := by
      rcases Nat.lt_or_ge gn par.length with q | q
      · exact q
      · (first | exact nos (List.getElem?_eq_none q) hgn | exact nos hgn (List.getElem?_eq_none q) | (rw [List.getElem?_eq_none q] at hgn; cases hgn))
    have hpl := h.ok.1
    refine j_setItem_list hal (by first | exact ((hv.len).trans hgl) | (rw [hv.len]; exact hgl)) (by exact (Nat.lt_of_lt_of_le (Nat.lt_trans hgl hpl) (Nat.le_of_ble_eq_true rfl))) fun n' => ?_
    (refine x3_4 (hlots kp (by exact (Nat.lt_of_le_of_lt hle hgl))) ?_; intro ka kws kn hk1 hk2 hk3 hk4)
    (refine x3_4 (hlots gn hgl) ?_; intro ga gws gnn hg1 hg2 hg3 hg4)
    have e1 : U.ll ≠ U.al := ne_role h.rll h.ral (by decide)
    have e2 : U.ml ≠ U.al := ne_role h.rml h.ral (by decide)
    have e3 : U.up ≠ U.al := (ne_norole h.ral h.rk).symm
    have e4 : U.ud ≠ U.al := (ne_norole h.ral h.rd).symm
    have e5 : ka ≠ U.al := ne_role hk2 h.ral (by simp)
    have e6 : ga ≠ U.al := ne_role hg2 h.ral (by simp)
    have hi4 : InsD (σ3.set U.al (lstOf (vs.set gn (.int kp t3)) n')) U.up 268 U.ud U.fs := hi.keep (fun o e => by first | exact ((Led.set_ne e3).trans e) | (rw [Led.set_ne e3]; exact e)) (fun o e => by first | exact ((Led.set_ne e4).trans e) | (rw [Led.set_ne e4]; exact e))
    have hll4 : (σ3.set U.al (lstOf (vs.set gn (.int kp t3)) n')) U.ll = some (lstOf ls n2) := by first | exact ((Led.set_ne e1).trans hll) | (rw [Led.set_ne e1]; exact hll)
    have hml4 : (σ3.set U.al (lstOf (vs.set gn (.int kp t3)) n')) U.ml = some (lstOf ms n3) := by first | exact ((Led.set_ne e2).trans hml) | (rw [Led.set_ne e2]; exact hml)
    have hka4 : (σ3.set U.al (lstOf (vs.set gn (.int kp t3)) n')) ka = some (lstOf kws kn) := by first | exact ((Led.set_ne e5).trans hk3) | (rw [Led.set_ne e5]; exact hk3)
    have hga4 : (σ3.set U.al (lstOf (vs.set gn (.int kp t3)) n')) ga = some (lstOf gws gnn) := by first | exact ((Led.set_ne e6).trans hg3) | (rw [Led.set_ne e6]; exact hg3)
    have hal4 : (σ3.set U.al (lstOf (vs.set gn (.int kp t3)) n')) U.al = some (lstOf (vs.set gn (.int kp t3)) n') := Led.set_self
    have k4 : Kp ro uniR σ3 (σ3.set U.al (lstOf (vs.set gn (.int kp t3)) n')) := Kp.one h.ral rfl
    have g4 : RoOk ro (σ3.set U.al (lstOf (vs.set gn (.int kp t3)) n')) := g.set ltup
    have b4 : ∀ a r, ro a = some r → r ≠ .above → (σ3.set U.al (lstOf (vs.set gn (.int kp t3)) n')) a = σ3 a := fun a r e q => Led.set_ne (ne_role e h.ral q)
    clear hi
    (generalize σ3.set U.al (lstOf (vs.set gn (.int kp t3)) n') = σ4 at *; revert σ4; refine bar ?_; set_option tactic.hygienic false in intros)
    have hsum : kws.length + gws.length ≤ 1000 := by
      have w := wt_merge (f := lens) (f' := fun i => if i = kp then lens kp + lens gn else lens i) hkp hgn hq fun i hi _ => by simp [hi]
      have := h.len
      have r := root_le_wt (f := fun i => if i = kp then lens kp + lens gn else lens i) (par := par.set gn kp) (a := kp) (by first | exact ((List.getElem?_set).trans ((if_neg (by exact (Nat.ne_of_gt hlt))).trans hkp)) | (rw [List.getElem?_set, if_neg (by exact (Nat.ne_of_gt hlt))]; exact hkp))
      simp only [if_true] at w r
      omega
    repeat k_upd
    refine j_at_list kp (by rfl) hll4 hk1 (by exact (Nat.lt_of_lt_of_le (Nat.lt_trans (Nat.lt_of_le_of_lt hle hgl) hpl) (Nat.le_of_ble_eq_true rfl))) ?_ (by rfl)
    refine j_list_extend_m hka4 ?_
    repeat k_upd
    refine j_at_list gn (by rfl) hll4 hg1 (by exact (Nat.lt_of_lt_of_le (Nat.lt_trans hgl hpl) (Nat.le_of_ble_eq_true rfl))) ?_ (by rfl)
    refine j_extend hka4 hga4 (by exact (Nat.le_trans hsum (Nat.le_of_ble_eq_true rfl))) fun n5 => ?_
    have e7 : U.ml ≠ ka := ne_role h.rml hk2 (by simp)
    have e8 : U.up ≠ ka := (ne_norole hk2 h.rk).symm
    have e9 : U.ud ≠ ka := (ne_norole hk2 h.rd).symm
    have e10 : U.al ≠ ka := e5.symm
    have e11 : U.ll ≠ ka := ne_role h.rll hk2 (by simp)
    have hi5 : InsD (σ4.set ka (lstOf (kws ++ gws) n5)) U.up 268 U.ud U.fs := hi4.keep (fun o e => by first | exact ((Led.set_ne e8).trans e) | (rw [Led.set_ne e8]; exact e)) (fun o e => by first | exact ((Led.set_ne e9).trans e) | (rw [Led.set_ne e9]; exact e))
    have hll5 : (σ4.set ka (lstOf (kws ++ gws) n5)) U.ll = some (lstOf ls n2) := by first | exact ((Led.set_ne e11).trans hll4) | (rw [Led.set_ne e11]; exact hll4)
    have hml5 : (σ4.set ka (lstOf (kws ++ gws) n5)) U.ml = some (lstOf ms n3) := by first | exact ((Led.set_ne e7).trans hml4) | (rw [Led.set_ne e7]; exact hml4)
    have hal5 : (σ4.set ka (lstOf (kws ++ gws) n5)) U.al = some (lstOf (vs.set gn (.int kp t3)) n') := by first | exact ((Led.set_ne e10).trans hal4) | (rw [Led.set_ne e10]; exact hal4)
    have hka5 : (σ4.set ka (lstOf (kws ++ gws) n5)) ka = some (lstOf (kws ++ gws) n5) := Led.set_self
    have k5 : Kp ro uniR σ3 (σ4.set ka (lstOf (kws ++ gws) n5)) := k4.trans (Kp.one hk2 rfl)
    have g5 : RoOk ro (σ4.set ka (lstOf (kws ++ gws) n5)) := g4.set ltup
    have b5 : ∀ a r, ro a = some r → r ≠ .above → r ≠ .lot kp → (σ4.set ka (lstOf (kws ++ gws) n5)) a = σ3 a := fun a r e q q' => (Led.set_ne (ne_role e hk2 q')).trans (b4 a r e q)
    clear hi4
    (generalize σ4.set ka (lstOf (kws ++ gws) n5) = σ5 at *; revert σ5; refine bar ?_; set_option tactic.hygienic false in intros)
    repeat k_upd
    refine j_list_append_m hml5 ?_
    repeat k_upd
    intro p1 hp1
    have s6 : Sub σ5 (σ5.set p1 (tupOf [.int kp t3, .int gn t4] 0)) := .new hp1
    refine j_append (s6 _ _ hml5) (by omega) ?_
    have b6 : ∀ a r o, ro a = some r → r ≠ .above → r ≠ .lot kp → σ3 a = some o → (σ5.set p1 (tupOf [.int kp t3, .int gn t4] 0)) a = some o := fun a r o e q q' ho => s6 _ _ (by first | exact ((b5 a r e q q').trans ho) | (rw [b5 a r e q q']; exact ho))
    (generalize σ5.set p1 (tupOf [.int kp t3, .int gn t4] 0) = σ6 at *; revert σ6; refine bar ?_; set_option tactic.hygienic false in intros)
    have hi6 := hi5.keep (s6 _) (s6 _)
    have hll6 := s6 _ _ hll5
    have hml6 := s6 _ _ hml5
    have hal6 := s6 _ _ hal5
    have k6 := k5.trans s6.kp
    have g6 := g5.sub s6
    have hka6 := s6 _ _ hka5
    clear hi5
    repeat k_upd
    intro p2 hp2
    have e12 : U.up ≠ U.ml := (ne_norole h.rml h.rk).symm
    have e13 : U.ud ≠ U.ml := (ne_norole h.rml h.rd).symm
    have e14 : U.ll ≠ U.ml := ne_role h.rll h.rml (by decide)
    have e15 : U.al ≠ U.ml := e2.symm
    show if findR par a = findR par b then _ else _
    rw [if_neg fun q => hq (heq.mp q), hkk, hgg]
    have s7 : Sub (σ6.set U.ml (lstOf (ms ++ [.ref p1]) (n3 + 1))) ((σ6.set U.ml (lstOf (ms ++ [.ref p1]) (n3 + 1))).set p2 (tupOf [.int kp t3, .int gn t4] 0)) := .new hp2
    refine ⟨p2, 0, t3, t4, rfl, Led.set_self, ⟨?_, h.rk, h.rd, h.ral, h.rll, h.rml, (i2_2 (_) ( _) ( s7 _ _ (by first | exact ((Led.set_ne e15).trans hal6) | (rw [Led.set_ne e15]; exact hal6))) ( ?_)), (i2_3 (_) ( _) ( s7 _ _ (by first | exact ((Led.set_ne e14).trans hll6) | (rw [Led.set_ne e14]; exact hll6))) ( by simp [hlen]) ( fun i hi => ?_)), (i2_2 (_) ( _) ( s7 _ _ Led.set_self) ( ?_)), h.ok.merge hlt, ?_⟩, (s0.kp.trans (k6.trans (Kp.one h.rml rfl))).trans s7.kp, (g6.set ltup).sub s7⟩
    · exact (hi6.keep (fun o e => by first | exact ((Led.set_ne e12).trans e) | (rw [Led.set_ne e12]; exact e)) (fun o e => by first | exact ((Led.set_ne e13).trans e) | (rw [Led.set_ne e13]; exact e))).keep (s7 _) (s7 _)
    · exact hv.set gn kp t3
    · have hi' : i < par.length := by simpa using hi
      by_cases e : i = kp
      · subst e
        exact (i3_4 (ka) ( _) ( _) ( hk1) ( hk2) ( s7 _ _ (by first | exact ((Led.set_ne (ne_role hk2 h.rml (by simp))).trans hka6) | (rw [Led.set_ne (ne_role hk2 h.rml (by simp))]; exact hka6))) ( by simp [hk4, hg4]))
      · (refine x3_4 (hlots i hi') ?_; intro a' ws' k' c1 c2 c3 c4)
        exact (i3_4 (a') ( ws') ( k') ( c1) ( c2) ( s7 _ _ (by rw [Led.set_ne (ne_role c2 h.rml (by simp))]; exact b6 _ _ _ c2 (by simp) (by simpa using e) c3)) ( by simp [e, c4]))
    · have w := wt_merge (f := fun _ => 1) (f' := fun _ => 1) hkp hgn hq fun _ _ _ => rfl
      simp; omega
    · have w := wt_merge (f := lens) (f' := fun i => if i = kp then lens kp + lens gn else lens i) hkp hgn hq fun i hi _ => by simp [hi]
      have := h.len
      simp only [if_true] at w
      simp; omega
end
section
--FILE FH
structure HS where
  nodes : List Node
  par : List Nat
  lens : Nat → Nat
  known : List (Node × Nat)
  users : Nat → List Nat
  waiting : List Nat
  ne : Nat
structure HY where
  (hp hd el fl kd us wt : Addr)
  B : BL
  U : UL
  tb : Tok
noncomputable def HY.fs (H : HY) : List (Str × Value) := [(Str.ofString "backs", .int 0 H.tb), (Str.ofString "waiting", .ref H.wt), (Str.ofString "above", .ref H.us), (Str.ofString "known", .ref H.kd), (Str.ofString "forest", .ref H.fl), (Str.ofString "edges", .ref H.el), (Str.ofString "unions", .ref H.U.up), (Str.ofString "bank", .ref H.B.bk)]

structure HpR (w : World) (σ : Led) (ro : Roles) (H : HY) (S : HS) : Prop where
  ins : InsD σ H.hp 400 H.hd H.fs
  rk : ro H.hp = none
  rd : ro H.hd = none
  rel : ro H.el = some .edges
  rfl' : ro H.fl = some .forest
  rkd : ro H.kd = some .known
  rus : ro H.us = some .users
  rwt : ro H.wt = some .waiting
  el : ∃ vs n, σ H.el = some (lstOf vs n) ∧ vs.length = S.ne
  fl : ∃ vs n, σ H.fl = some (lstOf vs n) ∧ vs.length ≤ S.ne
  kd : ∃ o xs, σ H.kd = some o ∧ KyDict w o xs ∧ KyKeys σ xs ∧ xs.length = S.known.length ∧ ∀ (i : Nat) s m, S.known[i]? = some (s, m) → ∃ a t, xs[i]? = some (nodeKy s, a, .int (m : Nat) t)
  us : ∃ o kvs, σ H.us = some o ∧ o.IsDictOf (intKind PR w) kvs ∧ kvs.length ≤ S.par.length ∧ ∀ c : Nat, S.par[c]? = some c → ∃ a ws k, valueAt kvs (c : Int) = some (.ref a) ∧ ro a = some (.user c) ∧ σ a = some (lstOf ws k) ∧ Nats ws (S.users c)
  wt : ∃ vs n, σ H.wt = some (lstOf vs n) ∧ Nats vs S.waiting

noncomputable def hpR : Role → Bool
  | .edges | .forest | .known | .users | .user _ | .waiting => true
  | _ => false
theorem HpR.keep {w : World} {σ σ' : Led} {ro ro' : Roles} {H : HY} {S : HS} {T : Role → Bool} (h : HpR w σ ro H S) (k : Kp ro T σ σ') (g : RoOk ro σ) (hT : ∀ r, hpR r = true → T r = false) (hr : ∀ a, σ a ≠ none → ro' a = ro a) : HpR w σ' ro' H S := by
  have kt := k.tup g
  have e1 : ∀ {a r}, ro a = some r → ro' a = some r := fun {a r} e => by first | exact ((hr a (by (refine x1_2 (g a r e) ?_; intro o ho _); rw [ho]; simp)).trans e) | (rw [hr a (by (refine x1_2 (g a r e) ?_; intro o ho _); rw [ho]; simp)]; exact e)
  have no : ∀ {a}, ro a = none → ∀ o, σ a = some o → σ' a = some o := fun {a} e o ho => k a o ho fun r hr => by (first | exact nos (e) hr | exact nos hr (e) | (rw [e] at hr; cases hr))
  have bk : ∀ {a r}, ro a = some r → hpR r = true → ∀ o, σ a = some o → σ' a = some o := fun {a r} e hb o ho => k a o ho fun q hq => by (first | exact nos (e) hq | exact nos hq (e) | (rw [e] at hq; cases hq)); exact hT _ hb
  (refine x0_2 ((⟨h.ins.x, h.ins.d⟩ : _ ∧ _)) ?_; intro ox od)
  refine ⟨h.ins.keep (no h.rk) (no h.rd), ?_, ?_, e1 h.rel, e1 h.rfl', e1 h.rkd, e1 h.rus, e1 h.rwt, ?_, ?_, ?_, ?_, ?_⟩
  · rw [hr _ (by rw [ox]; simp)]; exact h.rk
  · (refine x2_1 od ?_; clear od; intro es n od); rw [hr _ (by rw [od]; simp)]; exact h.rd
  · (refine x2_2 h.el ?_; intro vs n a b)
    exact (i2_2 (vs) ( n) ( bk h.rel rfl _ a) ( b))
  · (refine x2_2 h.fl ?_; intro vs n a b)
    exact (i2_2 (vs) ( n) ( bk h.rfl' rfl _ a) ( b))
  · (refine x2_4 h.kd ?_; intro o xs a b c d)
    exact (i2_4 (o) ( xs) ( bk h.rkd rfl _ a) ( b) ( c.tup kt) ( d))
  · (refine x2_4 h.us ?_; intro o kvs a b c d)
    refine (i2_4 (o) ( kvs) ( bk h.rus rfl _ a) ( b) ( c) ( fun c hc => ?_))
    (refine x3_4 (d c hc) ?_; intro a ws k c1 c2 c3 c4)
    exact (i3_4 (a) ( ws) ( k) ( c1) ( e1 c2) ( bk c2 rfl _ c3) ( c4))
  · (refine x2_2 h.wt ?_; intro vs n a b)
    exact (i2_2 (vs) ( n) ( bk h.rwt rfl _ a) ( b))

structure HpL (w : World) (σ : Led) (ro : Roles) (H : HY) (S : HS) : Prop where
  bank : BankL w σ ro H.B S.nodes
  uni : UniL σ ro H.U S.par S.lens
  r : HpR w σ ro H S
  ro : RoOk ro σ
theorem HpL.sub {w : World} {σ σ' : Led} {ro : Roles} {H : HY} {S : HS} (h : HpL w σ ro H S) (s : Sub σ σ') : HpL w σ' ro H S :=
  ⟨h.bank.keep (T := fun _ => false) s.kp h.ro (fun _ _ => rfl) fun _ _ => rfl, h.uni.keep (T := fun _ => false) s.kp h.ro (fun _ _ => rfl) fun _ _ => rfl, h.r.keep (T := fun _ => false) s.kp h.ro (fun _ _ => rfl) fun _ _ => rfl, h.ro.sub s⟩

section
variable {w : World} {σ : Led} {ro : Roles} {H : HY} {S : HS} {d : Nat}

theorem spec_bop {B : BL} {nodes : List Node} {i c : Nat} {ks : List Nat} {t : Tok} (h : BankL w σ ro B nodes) (hi : nodes[i]? = some (c, ks)) :
    Spec w 143 [.ref B.bk, .int i t] (d + 1) σ (fun r σ' => (∃ t, r = .str (opS c) t) ∧ Sub σ σ') := by
  refine' spec_def (binds := [(Str.ofString "self", .ref B.bk), (Str.ofString "n", .int i t)]) ?ho ?hcd ?hb ?hl ?hc ?h1 ?h2 ?h3 ?h
  k_enter
  intro X hw O hE
  subst hw
  have hi' := h.ins
  (refine x2_3 h.nl ?_; intro vs n hnl hvl hvn)
  obtain ⟨a, ha, t1, kvs, n1, hna, hks⟩ := hvn i _ hi
  have hil : i < 1000 := by
    have := h.ok.2.1
    rcases Nat.lt_or_ge i nodes.length with q | q
    · exact (Nat.lt_trans q this)
    · (first | exact nos (List.getElem?_eq_none q) hi | exact nos hi (List.getElem?_eq_none q) | (rw [List.getElem?_eq_none q] at hi; cases hi))
  repeat k_upd
  refine j_at_list i (by rfl) hnl ha (by exact (Nat.lt_of_lt_of_le hil (Nat.le_of_ble_eq_true rfl))) ?_ (by rfl)
  repeat k_upd
  intro t2
  refine j_at_tup 0 (by rfl) hna (by rfl) (by decide) ?_ (by rfl)
  exact ⟨⟨t1, rfl⟩, .refl⟩

theorem spec_bkids {B : BL} {nodes : List Node} {i c : Nat} {ks : List Nat} {t : Tok} (h : BankL w σ ro B nodes) (hi : nodes[i]? = some (c, ks)) :
    Spec w 150 [.ref B.bk, .int i t] (d + 1) σ (fun r σ' => (∃ a kvs n, r = .ref a ∧ σ' a = some (tupOf kvs n) ∧ Nats kvs ks) ∧ Sub σ σ') := by
  refine' spec_def (binds := [(Str.ofString "self", .ref B.bk), (Str.ofString "n", .int i t)]) ?ho ?hcd ?hb ?hl ?hc ?h1 ?h2 ?h3 ?h
  k_enter
  intro X hw O hE
  subst hw
  have hi' := h.ins
  (refine x2_3 h.nl ?_; intro vs n hnl hvl hvn)
  obtain ⟨a, ha, t1, kvs, n1, hna, hks⟩ := hvn i _ hi
  have hk2 := (h.ok.2.2 i c ks hi).2.1
  have hil : i < 1000 := by
    have := h.ok.2.1
    rcases Nat.lt_or_ge i nodes.length with q | q
    · exact (Nat.lt_trans q this)
    · (first | exact nos (List.getElem?_eq_none q) hi | exact nos hi (List.getElem?_eq_none q) | (rw [List.getElem?_eq_none q] at hi; cases hi))
  repeat k_upd
  refine j_at_list i (by rfl) hnl ha (by exact (Nat.lt_of_lt_of_le hil (Nat.le_of_ble_eq_true rfl))) ?_ (by rfl)
  repeat k_upd
  intro t2 sa hsa
  refine j_from_tup 1 (by rfl) (Sub.new hsa _ _ hna) Led.set_self (by decide) (by simp) (by have := hks.len; simp at *; exact (Nat.le_trans (Nat.le_trans (Nat.le_of_eq this) hk2) (Nat.le_of_ble_eq_true rfl))) ?_ (by rfl)
  intro c1 hc1
  exact ⟨(i3_3 (c1) ( kvs) ( 0) ( rfl) ( Led.set_self) ( hks)), (Sub.new hsa).trans (.new hc1)⟩

theorem spec_hfind {a : Nat} {t : Tok} (h : HpL w σ ro H S) (ha : a < S.par.length) :
    Spec w 322 [.ref H.hp, .int a t] (d + 2) σ (fun r σ' => (∃ t, r = .int (findR S.par a) t) ∧ Sub σ σ') := by
  refine' spec_def (binds := [(Str.ofString "self", .ref H.hp), (Str.ofString "n", .int a t)]) ?ho ?hcd ?hb ?hl ?hc ?h1 ?h2 ?h3 ?h
  k_enter
  intro X hw O hE
  subst hw
  have hi := h.r.ins
  have hu := h.uni.ins
  repeat k_upd
  refine ((spec_ufind (d := d) h.uni ha).j rfl O).mono1 ?_
  (intro r σ1 zr1; refine x0_2 zr1 ?_; clear zr1; (intro zt2 s1; refine x1_1 zt2 ?_; clear zt2; intro t1 er3; obtain rfl := er3))
  exact ⟨⟨t1, rfl⟩, s1⟩

theorem spec_are_like {a b : Nat} {t u : Tok} (h : HpL w σ ro H S) (ha : a < S.par.length) (hb : b < S.par.length) :
    Spec w 329 [.ref H.hp, .int a t, .int b u] (d + 3) σ (fun r σ' => r = .bool (decide (findR S.par a = findR S.par b)) ∧ Sub σ σ') := by
  refine' spec_def (binds := [(Str.ofString "self", .ref H.hp), (Str.ofString "a", .int a t), (Str.ofString "b", .int b u)]) ?ho ?hcd ?hb ?hl ?hc ?h1 ?h2 ?h3 ?h
  k_enter
  intro X hw O hE
  subst hw
  have hi := h.r.ins
  repeat k_upd
  refine ((spec_hfind (d := d) h ha).j rfl O).mono1 ?_
  (intro r σ1 zr1; refine x0_2 zr1 ?_; clear zr1; (intro zt2 s1; refine x1_1 zt2 ?_; clear zt2; intro t1 er3; obtain rfl := er3))
  replace h := h.sub s1
  clear hi
  have hi := h.r.ins
  repeat k_upd
  refine ((spec_hfind (d := d) h hb).j rfl O).mono1 ?_
  (intro r σ2 zr1; refine x0_2 zr1 ?_; clear zr1; (intro zt2 s2; refine x1_1 zt2 ?_; clear zt2; intro t2 er3; obtain rfl := er3))
  repeat k_upd
  refine ⟨?_, s1.trans s2⟩
  show Value.bool _ = _
  congr 1
  by_cases e : findR S.par a = findR S.par b
  · rw [e]; simp
  · simp [e]; omega

theorem spec_hnode {i c : Nat} {ks : List Nat} {t : Tok} (h : HpL w σ ro H S) (hi : S.nodes[i]? = some (c, ks)) (hks : ∀ k ∈ ks, k < S.par.length) :
    Spec w 298 [.ref H.hp, .int i t] (d + 4) σ (fun r σ' => (∃ a, r = .ref a ∧ NodeT σ' a (c, ks.map (findR S.par))) ∧ Sub σ σ') := by
  refine' spec_defC (binds := [(Str.ofString "self", .ref H.hp), (Str.ofString "n", .int i t)]) ?ho ?hcd ?hb ?hl ?hc ?h1 ?h2 ?h3 ?h
  case ho => k_is
  case hcd => k_is
  case hb => exact rfl
  case hl => exact rfl
  case hc => decide
  case h1 => exact rfl
  case h2 => exact rfl
  case h3 => exact rfl
  intro X cells hw O hE hlo hcells
  subst hw
  (refine x1_2 ((show CellsAre _ [(Str.ofString "self", X.env.locals + 1)] cells from hcells).one) ?_; intro oc er1 hoc; obtain rfl := er1)
  replace hoc : oc.data = .cell (some (.ref H.hp)) := hoc
  have hcn : σ (X.env.locals + 1) = none := by
    cases q : σ (X.env.locals + 1) with
    | none => rfl
    | some o => exact absurd (hlo _ o q) (Nat.not_lt.mpr (Nat.le_succ _))
  have s0 : Sub σ (σ.set (X.env.locals + 1) oc) := .new hcn
  have hcell : (σ.set (X.env.locals + 1) oc) (X.env.locals + 1) = some oc := Led.set_self
  show J X _ _ (σ.set (X.env.locals + 1) oc) _
  (generalize σ.set (X.env.locals + 1) oc = σ0 at *; revert σ0; refine bar ?_; set_option tactic.hygienic false in intros)
  replace h := h.sub s0
  have hi0 := h.r.ins
  have hb0 := h.bank.ins
  repeat k_upd
  refine ((spec_bop (d := d + 2) h.bank hi).j rfl O).mono1 ?_
  (intro r σ1 zr1; refine x0_2 zr1 ?_; clear zr1; (intro zt2 s1; refine x1_1 zt2 ?_; clear zt2; intro t1 er3; obtain rfl := er3))
  replace h := h.sub s1
  replace hcell := s1 _ _ hcell
  clear hi0 hb0
  have hi0 := h.r.ins
  have hb0 := h.bank.ins
  repeat k_upd
  intro a1 ha1
  have s2 : Sub σ1 (σ1.set a1 (tupOf [.str (opS c) t1] 0)) := .new ha1
  have ha1' : (σ1.set a1 (tupOf [.str (opS c) t1] 0)) a1 = some (tupOf [.str (opS c) t1] 0) := Led.set_self
  (generalize σ1.set a1 (tupOf [.str (opS c) t1] 0) = σ2 at *; revert σ2; refine bar ?_; set_option tactic.hygienic false in intros)
  replace h := h.sub s2
  replace hcell := s2 _ _ hcell
  clear hi0 hb0
  have hi0 := h.r.ins
  have hb0 := h.bank.ins
  repeat k_upd
  ((refine' j_map ?aq3 ?bq3 ?cq3 ?dq3 ?eq3 ?fq3 ?_); (case aq3 => assumption); (case bq3 => k_mem); (case cq3 => decide); (case dq3 => exact rfl); (case eq3 => decide); (case fq3 => k_mem))
  repeat k_upd
  refine ((spec_bkids (d := d + 2) h.bank hi).j rfl O).mono1 ?_
  (intro r σ3 zr1; refine x0_2 zr1 ?_; clear zr1; (intro zt2 s3; refine x3_3 zt2 ?_; clear zt2; intro ka kvs kn er3 hka hkv; obtain rfl := er3))
  replace h := h.sub s3
  replace hcell := s3 _ _ hcell
  replace ha1' := s3 _ _ ha1'
  clear hi0 hb0
  have hk2 := (h.bank.ok.2.2 i c ks hi).2.1
  refine ⟨.tup ka kvs.toArray, rfl, ⟨_, hka, rfl, _, rfl⟩, by have := hkv.len; simp [Src.size]; exact (Nat.le_trans (Nat.le_trans (Nat.le_of_eq this) hk2) (Nat.le_of_ble_eq_true rfl)), fun j v => ∃ (k : Nat) (tk : Tok), ks[j]? = some k ∧ v = .int (findR S.par k : Nat) tk, ?_, ?_⟩
  · intro X' j v mc σ4 O' hw' hE' hj hv s4
    (refine x2_3 (kid_item hkv hv) ?_; intro k tk hkm hkj er1; obtain rfl := er1)
    (rw [hE] at hE'; replace hE' := hE')
    have h4 := h.sub s4
    have hi4 := h4.r.ins
    have hcell4 := s4 _ _ hcell
    repeat k_upd
    refine ((spec_hfind (d := d + 1) h4 (hks k hkm)).j hw' O').mono1 ?_
    (intro r σ5 zr1; refine x0_2 zr1 ?_; clear zr1; (intro zt2 s5; refine x1_1 zt2 ?_; clear zt2; intro t5 er3; obtain rfl := er3))
    exact ⟨(i2_2 (k) ( t5) ( hkj) ( rfl)), s4.trans s5⟩
  · intro ys σ4 D k hyl hys s4 hD
    have s5 : Sub σ3 (σ4.set D (lstOf ys k)) := s4.trans (.new hD)
    have hyn : Nats ys (ks.map (findR S.par)) := Nats.of (by simp [Src.size] at hyl; simp [hyl, hkv.len]) fun j v n hv hn => by
      (refine x2_2 (hys j v hv) ?_; intro k' tk h1 er1; obtain rfl := er1)
      rw [List.getElem?_map, h1] at hn
      simp at hn; subst hn; exact ⟨tk, rfl⟩
    refine j_tuple_list Led.set_self (by simp [Src.size] at hyl; have := hkv.len; exact (Nat.le_trans (Nat.le_trans (Nat.le_trans (Nat.le_of_eq hyl) (Nat.le_of_eq this)) hk2) (Nat.le_of_ble_eq_true rfl))) fun ta hta => ?_
    have s6 : Sub σ3 ((σ4.set D (lstOf ys k)).set ta (tupOf ys 0)) := s5.trans (.new hta)
    refine j_add_tuple (vs := [.str (opS c) t1]) (ws := ys) (n := 0) (n2 := 0) (s6 _ _ ha1') Led.set_self (by simp) (by simp [Src.size] at hyl; have := hkv.len; simp; omega) ?_
    intro na σ7 nn s7 _ hna
    exact ⟨⟨na, rfl, t1, ys, nn, hna, hyn⟩, ((((s0.trans s1).trans s2).trans s3).trans s6).trans s7⟩
end
end
section
--FILE FI
noncomputable def Ext (ro : Roles) (σ : Led) (ro' : Roles) (σ' : Led) : Prop := (∀ a o, σ a = some o → ro a = none → σ' a = some o) ∧ ∀ a, σ a ≠ none → ro' a = ro a
theorem Ext.refl {ro : Roles} {σ : Led} : Ext ro σ ro σ := ⟨fun _ _ h _ => h, fun _ _ => rfl⟩
theorem Ext.trans {ro ro' ro'' : Roles} {σ σ' σ'' : Led} (h : Ext ro σ ro' σ') (g' : RoOk ro' σ') (h' : Ext ro' σ' ro'' σ'') : Ext ro σ ro'' σ'' := by
  have live : ∀ a, σ a ≠ none → σ' a ≠ none := fun a ha => by
    cases q : ro a with
    | none =>
      cases e : σ a with
      | none => exact absurd e ha
      | some o => rw [h.1 a o e q]; simp
    | some r =>
      (refine x1_2 (g' a r (by first | exact ((h.2 a ha).trans q) | (rw [h.2 a ha]; exact q))) ?_; intro o ho _)
      rw [ho]; simp
  refine ⟨fun a o e q => h'.1 a o (h.1 a o e q) (by first | exact ((h.2 a (by rw [e]; simp)).trans q) | (rw [h.2 a (by rw [e]; simp)]; exact q)), fun a ha => by rw [h'.2 a (live a ha), h.2 a ha]⟩
theorem Kp.ext {ro : Roles} {T : Role → Bool} {σ σ' : Led} (h : Kp ro T σ σ') : Ext ro σ ro σ' := ⟨fun a o e q => h a o e (fun r hr => by (first | exact nos (q) hr | exact nos hr (q) | (rw [q] at hr; cases hr))), fun _ _ => rfl⟩
theorem Sub.ext {ro : Roles} {σ σ' : Led} (h : Sub σ σ') : Ext ro σ ro σ' := ⟨fun a o e _ => h a o e, fun _ _ => rfl⟩
theorem Ext.tup {ro ro' : Roles} {σ σ' : Led} (h : Ext ro σ ro' σ') (g : RoOk ro σ) : Tup σ σ' := fun a o e c => h.1 a o e (by
  cases q : ro a with
  | none => rfl
  | some r => (refine x1_2 (g a r q) ?_; intro o' ho' hc); (first | exact nos (e) ho' | exact nos ho' (e) | (rw [e] at ho'; cases ho')); exact absurd c hc)
theorem Ext.ins {ro ro' : Roles} {σ σ' : Led} {x C dx : Addr} {fs : List (Str × Value)} (h : Ext ro σ ro' σ') (i : InsD σ x C dx fs) (h1 : ro x = none) (h2 : ro dx = none) : InsD σ' x C dx fs := i.keep (fun o e => h.1 _ o e h1) (fun o e => h.1 _ o e h2)

noncomputable def HS.join (S : HS) (a b : Nat) : HS :=
  if findR S.par a = findR S.par b then { S with ne := S.ne + 1 } else
    { S with
      par := S.par.set (max (findR S.par a) (findR S.par b)) (min (findR S.par a) (findR S.par b))
      lens := fun i => if i = min (findR S.par a) (findR S.par b) then S.lens (min (findR S.par a) (findR S.par b)) + S.lens (max (findR S.par a) (findR S.par b)) else S.lens i
      users := fun c => if c = min (findR S.par a) (findR S.par b) then S.users (min (findR S.par a) (findR S.par b)) ++ S.users (max (findR S.par a) (findR S.par b)) else S.users c
      waiting := S.waiting ++ S.users (max (findR S.par a) (findR S.par b))
      ne := S.ne + 1 }

section
variable {K : Type} [DecidableEq K]
theorem find_map_val {kvs : List (K × Value)} {k j : K} {v : Value} (h : j ≠ k) : ((kvs.map fun kv => if kv.1 = k then (kv.1, v) else kv).find? fun kv => kv.1 = j).map (·.2) = (kvs.find? fun kv => kv.1 = j).map (·.2) := by
  induction kvs with
  | nil => rfl
  | cons x r ih =>
    simp only [List.map_cons, List.find?_cons]
    by_cases e : x.1 = k
    · have : ¬ x.1 = j := fun q => h (q ▸ e)
      simp only [e, if_true]
      have h' : ¬ k = j := fun q => h q.symm
      simp only [h', decide_false]
      exact ih
    · simp only [e, if_false]
      by_cases q : x.1 = j
      · simp [q]
      · simp only [q, decide_false]; exact ih
theorem find_map_self {kvs : List (K × Value)} {k : K} {v : Value} (h : kvs.any (fun kv => kv.1 = k) = true) : ((kvs.map fun kv => if kv.1 = k then (kv.1, v) else kv).find? fun kv => kv.1 = k).map (·.2) = some v := by
  induction kvs with
  | nil => cases h
  | cons x r ih =>
    simp only [List.map_cons, List.find?_cons]
    by_cases e : x.1 = k
    · simp [e]
    · simp only [e, if_false, decide_false]
      refine ih ?_
      simpa [e] using h
theorem valueAt_stored {kvs : List (K × Value)} {k j : K} {v : Value} : valueAt (stored kvs k v) j = if j = k then some v else valueAt kvs j := by
  unfold valueAt stored
  by_cases h : kvs.any (fun kv => kv.1 = k) = true
  · rw [if_pos h]
    by_cases e : j = k
    · subst e; rw [if_pos rfl]; exact find_map_self h
    · rw [if_neg e]; exact find_map_val e
  · rw [if_neg h, List.find?_append]
    by_cases e : j = k
    · subst e
      have : (kvs.find? fun kv => kv.1 = j) = none := by
        rw [List.find?_eq_none]
        intro x hx q
        exact h (List.any_eq_true.mpr (i1_2 (x) ( hx) ( q)))
      rw [this]; simp
    · have : ¬ k = j := fun q => e q.symm
      rw [if_neg e]
      cases q : (kvs.find? fun kv => kv.1 = j) with
      | some x => simp
      | none => simp [this]
theorem stored_length_old {kvs : List (K × Value)} {k : K} {v u : Value} (h : valueAt kvs k = some u) : (stored kvs k v).length = kvs.length := by
  have : kvs.any (fun kv => kv.1 = k) = true := by
    unfold valueAt at h
    cases q : (kvs.find? fun kv => kv.1 = k) with
    | none => (first | exact nos (q) h | exact nos h (q) | (rw [q] at h; cases h))
    | some x => exact List.any_eq_true.mpr (i1_2 (x) ( List.mem_of_find?_eq_some q) ( by have := List.find?_some q; simpa using this))
  unfold stored
  rw [if_pos this, List.length_map]
theorem valueAt_without {kvs : List (K × Value)} {k j : K} (h : j ≠ k) : valueAt (without kvs k) j = valueAt kvs j := by
  unfold valueAt without
  rw [List.find?_filter]
  congr 1
  congr 1
  funext x
  by_cases e : x.1 = j
  · have : ¬ x.1 = k := fun q => h (e ▸ q)
    simp [e, h]
  · simp [e]
end

theorem dict_cls {K : Type} [DecidableEq K] {prog : Program} {w : World} {knd : KeyKind prog w K} {o : Obj} {kvs : List (K × Value)} (h : o.IsDictOf knd kvs) : o.cls ≠ .type "tuple" := by
  (refine x2_2 h ?_; clear h; intro _ _ h _); rw [h.1]; decide

structure HS.Room (S : HS) : Prop where
  ne : S.ne ≤ 1000000
  us : ∀ c, S.par[c]? = some c → (S.users c).length ≤ 1000000
  wt : S.waiting.length ≤ 10000000
  kn : S.known.length ≤ 10000000

theorem spec_join {w : World} {σ : Led} {ro : Roles} {H : HY} {S : HS} {d : Nat} {a b : Nat} {t u : Tok} {rv : Value} (h : HpL w σ ro H S) (fit : S.Room) (ha : a < S.par.length) (hb : b < S.par.length) :
    Spec w 343 [.ref H.hp, .int a t, .int b u, rv] (d + 3) σ (fun r σ' => (∃ c, r = .bool c) ∧ ∃ ro', HpL w σ' ro' H (S.join a b) ∧ Ext ro σ ro' σ') := by
  refine' spec_def (binds := [(Str.ofString "self", .ref H.hp), (Str.ofString "a", .int a t), (Str.ofString "b", .int b u), (Str.ofString "reason", rv)]) ?ho ?hcd ?hb ?hl ?hc ?h1 ?h2 ?h3 ?h
  k_enter
  intro X hw O hE
  subst hw
  have hi := h.r.ins
  (refine x2_2 h.r.el ?_; intro evs en hel hen)
  repeat k_upd
  refine j_list_append_m hel ?_
  repeat k_upd
  intro p1 hp1
  have s1 : Sub σ (σ.set p1 (tupOf [.int a t, .int b u, rv] 0)) := .new hp1
  (generalize σ.set p1 (tupOf [.int a t, .int b u, rv] 0) = σ1 at *; revert σ1; refine bar ?_; set_option tactic.hygienic false in intros)
  replace h := h.sub s1
  clear hi
  have hi := h.r.ins
  replace hel := s1 _ _ hel
  refine j_append hel (by have := fit.ne; exact (Nat.le_trans (Nat.le_trans (Nat.le_of_eq hen) this) (Nat.le_of_ble_eq_true rfl))) ?_
  have k2 : Kp ro (fun r => r == .edges) σ1 (σ1.set H.el (lstOf (evs ++ [.ref p1]) (en + 1))) := Kp.one h.r.rel (by simp)
  have g2 : RoOk ro (σ1.set H.el (lstOf (evs ++ [.ref p1]) (en + 1))) := h.ro.set ltup
  have hb2 := h.bank.keep k2 h.ro (fun r hr => by cases r <;> first | rfl | cases hr) fun _ _ => rfl
  have hu2 := h.uni.keep k2 h.ro (fun r hr => by cases r <;> first | rfl | cases hr) fun _ _ => rfl
  have n1 : ∀ c, ro c ≠ some .edges → (σ1.set H.el (lstOf (evs ++ [.ref p1]) (en + 1))) c = σ1 c := fun c q => Led.set_ne (by rintro rfl; exact q h.r.rel)
  let S1 : HS := { S with ne := S.ne + 1 }
  have hr2 : HpR X.w (σ1.set H.el (lstOf (evs ++ [.ref p1]) (en + 1))) ro H S1 := by
    have kt := k2.tup h.ro
    refine ⟨h.r.ins.keep (fun o e => by first | exact ((n1 _ (by rw [h.r.rk]; simp)).trans e) | (rw [n1 _ (by rw [h.r.rk]; simp)]; exact e)) (fun o e => by first | exact ((n1 _ (by rw [h.r.rd]; simp)).trans e) | (rw [n1 _ (by rw [h.r.rd]; simp)]; exact e)), h.r.rk, h.r.rd, h.r.rel, h.r.rfl', h.r.rkd, h.r.rus, h.r.rwt, (i2_2 (_) ( _) ( Led.set_self) ( by simp [hen, S1])), ?_, ?_, ?_, ?_⟩
    · (refine x2_2 h.r.fl ?_; intro vs n e1 e2)
      exact (i2_2 (vs) ( n) ( by first | exact ((n1 _ (by rw [h.r.rfl']; simp)).trans e1) | (rw [n1 _ (by rw [h.r.rfl']; simp)]; exact e1)) ( by show _ ≤ S.ne + 1; exact (Nat.le_succ_of_le e2)))
    · (refine x2_4 h.r.kd ?_; intro o xs e1 e2 e3 e4)
      exact (i2_4 (o) ( xs) ( by first | exact ((n1 _ (by rw [h.r.rkd]; simp)).trans e1) | (rw [n1 _ (by rw [h.r.rkd]; simp)]; exact e1)) ( e2) ( e3.tup kt) ( e4))
    · (refine x2_4 h.r.us ?_; intro o kvs e1 e2 e3 e4)
      refine (i2_4 (o) ( kvs) ( by first | exact ((n1 _ (by rw [h.r.rus]; simp)).trans e1) | (rw [n1 _ (by rw [h.r.rus]; simp)]; exact e1)) ( e2) ( e3) ( fun c hc => ?_))
      (refine x3_4 (e4 c hc) ?_; intro a ws k c1 c2 c3 c4)
      exact (i3_4 (a) ( ws) ( k) ( c1) ( c2) ( by first | exact ((n1 _ (by rw [c2]; simp)).trans c3) | (rw [n1 _ (by rw [c2]; simp)]; exact c3)) ( c4))
    · (refine x2_2 h.r.wt ?_; intro vs n e1 e2)
      exact (i2_2 (vs) ( n) ( by first | exact ((n1 _ (by rw [h.r.rwt]; simp)).trans e1) | (rw [n1 _ (by rw [h.r.rwt]; simp)]; exact e1)) ( e2))
  have h2 : HpL X.w (σ1.set H.el (lstOf (evs ++ [.ref p1]) (en + 1))) ro H S1 := ⟨hb2, hu2, hr2, g2⟩
  have x2 : Ext ro σ ro (σ1.set H.el (lstOf (evs ++ [.ref p1]) (en + 1))) := (s1.ext).trans h.ro k2.ext
  (refine x2_2 h.r.fl ?_; intro fvs fn hfl0 hfn)
  replace hfl0 : (σ1.set H.el (lstOf (evs ++ [.ref p1]) (en + 1))) H.fl = some (lstOf fvs fn) := by first | exact ((n1 _ (by rw [h.r.rfl']; simp)).trans hfl0) | (rw [n1 _ (by rw [h.r.rfl']; simp)]; exact hfl0)
  clear hi h hb2 hu2 hr2 g2 n1 k2 hel
  (generalize σ1.set H.el (lstOf (evs ++ [.ref p1]) (en + 1)) = σ2 at *; revert σ2; refine bar ?_; set_option tactic.hygienic false in intros)
  have hi := h2.r.ins
  have hu := h2.uni.ins
  repeat k_upd
  refine ((spec_umerge (d := d) h2.uni h2.ro ha hb).j rfl O).mono1 ?_
  (intro r σ3 hm)
  by_cases hq : findR S.par a = findR S.par b
  · rw [if_pos hq] at hm
    (refine x0_2 hm ?_; clear hm; intro er1 s3; obtain rfl := er1)
    repeat k_upd
    refine' ifT' ?_
    repeat k_upd
    refine ⟨⟨false, rfl⟩, ro, ?_, x2.trans h2.ro s3.ext⟩
    unfold HS.join
    rw [if_pos hq]
    exact h2.sub s3
  · rw [if_neg hq] at hm
    (refine x4_5 hm ?_; clear hm; intro tt tk t1 t2 er1 htt hu3 k3 g3; obtain rfl := er1)
    repeat k_upd
    refine' ifF' ?_
    repeat k_upd
    have r1 := findR_root h2.uni.ok ha
    have r2 := findR_root h2.uni.ok hb
    have hkp : S.par[min (findR S.par a) (findR S.par b)]? = some (min (findR S.par a) (findR S.par b)) := by
      rcases Nat.le_total (findR S.par a) (findR S.par b) with q | q
      · rw [Nat.min_eq_left q]; exact r1.1
      · rw [Nat.min_eq_right q]; exact r2.1
    have hlt : min (findR S.par a) (findR S.par b) < max (findR S.par a) (findR S.par b) := by omega
    have hjoin : S.join a b = { S with
        par := S.par.set (max (findR S.par a) (findR S.par b)) (min (findR S.par a) (findR S.par b))
        lens := fun i => if i = min (findR S.par a) (findR S.par b) then S.lens (min (findR S.par a) (findR S.par b)) + S.lens (max (findR S.par a) (findR S.par b)) else S.lens i
        users := fun c => if c = min (findR S.par a) (findR S.par b) then S.users (min (findR S.par a) (findR S.par b)) ++ S.users (max (findR S.par a) (findR S.par b)) else S.users c
        waiting := S.waiting ++ S.users (max (findR S.par a) (findR S.par b))
        ne := S.ne + 1 } := if_neg hq
    replace hu3 : UniL σ3 ro H.U (S.par.set (max (findR S.par a) (findR S.par b)) (min (findR S.par a) (findR S.par b))) (fun i => if i = min (findR S.par a) (findR S.par b) then S.lens (min (findR S.par a) (findR S.par b)) + S.lens (max (findR S.par a) (findR S.par b)) else S.lens i) := hu3
    (generalize min (findR S.par a) (findR S.par b) = kp at *; revert kp; refine bar ?_; set_option tactic.hygienic false in intros)
    have hgn : S.par[max (findR S.par a) (findR S.par b)]? = some (max (findR S.par a) (findR S.par b)) := by
      rcases Nat.le_total (findR S.par a) (findR S.par b) with q | q
      · rw [Nat.max_eq_right q]; exact r2.1
      · rw [Nat.max_eq_left q]; exact r1.1
    clear r1 r2
    (generalize max (findR S.par a) (findR S.par b) = gn at *; revert gn; refine bar ?_; set_option tactic.hygienic false in intros)
    have hb3 := h2.bank.keep k3 h2.ro (fun r hr => by cases r <;> first | rfl | cases hr) fun _ _ => rfl
    have hr3 := h2.r.keep k3 h2.ro (fun r hr => by cases r <;> first | rfl | cases hr) fun _ _ => rfl
    have x3 := x2.trans h2.ro k3.ext
    have hfl : σ3 H.fl = some (lstOf fvs fn) := k3 _ _ hfl0 fun r hr => by (first | exact nos (h2.r.rfl') hr | exact nos hr (h2.r.rfl') | (rw [h2.r.rfl'] at hr; cases hr)); rfl
    clear hi hu h2 k3
    have hi := hr3.ins
    have hgl : gn < S.par.length := by
      rcases Nat.lt_or_ge gn S.par.length with q | q
      · exact q
      · (first | exact nos (List.getElem?_eq_none q) hgn | exact nos hgn (List.getElem?_eq_none q) | (rw [List.getElem?_eq_none q] at hgn; cases hgn))
    have hpl : S.par.length < 1000 := by simpa using hu3.ok.1
    (refine x2_2 hr3.el ?_; intro evs2 en2 hel hen2)
    (refine x2_4 hr3.us ?_; intro ou kvs hus hud hul husers)
    (refine x2_2 hr3.wt ?_; intro wvs wn hwt hwv)
    (refine x3_4 (husers kp hkp) ?_; intro ka kws kn hk1 hk2 hk3 hk4)
    (refine x3_4 (husers gn hgn) ?_; intro ga gws gk hg1 hg2 hg3 hg4)
    have hsk : kws.length ≤ 1000000 := by first | exact ((hk4.len).trans (fit.us kp hkp)) | (rw [hk4.len]; exact fit.us kp hkp)
    have hsg : gws.length ≤ 1000000 := by first | exact ((hg4.len).trans (fit.us gn hgn)) | (rw [hg4.len]; exact fit.us gn hgn)
    have hsw : wvs.length ≤ 10000000 := by first | exact ((hwv.len).trans fit.wt) | (rw [hwv.len]; exact fit.wt)
    have hse := fit.ne
    replace hul : kvs.length ≤ S.par.length := hul
    replace hen2 : evs2.length = S.ne + 1 := hen2
    refine j_bindPair O htt tupO (by k_mem) (by k_mem) ?_
    repeat k_upd
    refine j_list_append_m hfl ?_
    repeat k_upd
    refine j_len_list hel (by omega) fun t3 => ?_
    repeat k_upd
    intro t4
    repeat k_upd
    intro t5
    refine j_append hfl (by exact (Nat.le_trans (Nat.le_trans hfn hse) (Nat.le_of_ble_eq_true rfl))) ?_
    have c4 : ∀ a o, σ3 a = some o → ro a ≠ some .forest → ro a ≠ some .waiting → ro a ≠ some .users → (σ3.set H.fl (lstOf (fvs ++ [.int ((evs2.length : Nat) - 1) t5]) (fn + 1))) a = some o := fun a o e q _ _ => by first | exact ((Led.set_ne (by rintro rfl; exact q hr3.rfl')).trans e) | (rw [Led.set_ne (by rintro rfl; exact q hr3.rfl')]; exact e)
    have hfl4 : (σ3.set H.fl (lstOf (fvs ++ [.int ((evs2.length : Nat) - 1) t5]) (fn + 1))) H.fl = some (lstOf (fvs ++ [.int ((evs2.length : Nat) - 1) t5]) (fn + 1)) := Led.set_self
    have hwt4 : (σ3.set H.fl (lstOf (fvs ++ [.int ((evs2.length : Nat) - 1) t5]) (fn + 1))) H.wt = some (lstOf wvs wn) := by first | exact ((Led.set_ne (ne_role hr3.rwt hr3.rfl' (by decide))).trans hwt) | (rw [Led.set_ne (ne_role hr3.rwt hr3.rfl' (by decide))]; exact hwt)
    have hus4 : (σ3.set H.fl (lstOf (fvs ++ [.int ((evs2.length : Nat) - 1) t5]) (fn + 1))) H.us = some ou := by first | exact ((Led.set_ne (ne_role hr3.rus hr3.rfl' (by decide))).trans hus) | (rw [Led.set_ne (ne_role hr3.rus hr3.rfl' (by decide))]; exact hus)
    have k4 : Kp ro hpR σ3 (σ3.set H.fl (lstOf (fvs ++ [.int ((evs2.length : Nat) - 1) t5]) (fn + 1))) := Kp.one hr3.rfl' rfl
    have g4 : RoOk ro (σ3.set H.fl (lstOf (fvs ++ [.int ((evs2.length : Nat) - 1) t5]) (fn + 1))) := g3.set ltup
    (generalize σ3.set H.fl (lstOf (fvs ++ [.int ((evs2.length : Nat) - 1) t5]) (fn + 1)) = σ4 at *; revert σ4; refine bar ?_; set_option tactic.hygienic false in intros)
    have nr : ∀ {a : Addr}, ro a = none → ∀ r : Role, ro a ≠ some r := fun e r q => by (first | exact nos (e) q | exact nos q (e) | (rw [e] at q; cases q))
    have ur : ∀ {a : Addr} {c : Nat}, ro a = some (.user c) → (ro a ≠ some .forest ∧ ro a ≠ some .waiting ∧ ro a ≠ some .users) := fun e => by rw [e]; simp
    have hi4 : InsD σ4 H.hp 400 H.hd H.fs := hi.keep (fun o e => c4 _ _ e (nr hr3.rk _) (nr hr3.rk _) (nr hr3.rk _)) (fun o e => c4 _ _ e (nr hr3.rd _) (nr hr3.rd _) (nr hr3.rd _))
    have hga4 := c4 _ _ hg3 (ur hg2).1 (ur hg2).2.1 (ur hg2).2.2
    clear hi
    repeat k_upd
    refine j_list_extend_m hwt4 ?_
    repeat k_upd
    refine j_tail_dict (knd := intKind PR X.w) (k := (gn : Int)) hus4 hud (by simp [intKind, Value.isInt]) hg1 (by rfl) ?_
    refine j_extend hwt4 hga4 (by omega) fun n5 => ?_
    have c5 : ∀ a o, σ3 a = some o → ro a ≠ some .forest → ro a ≠ some .waiting → ro a ≠ some .users → (σ4.set H.wt (lstOf (wvs ++ gws) n5)) a = some o := fun a o e q1 q2 q3 => by first | exact ((Led.set_ne (by rintro rfl; exact q2 hr3.rwt)).trans (c4 a o e q1 q2 q3)) | (rw [Led.set_ne (by rintro rfl; exact q2 hr3.rwt)]; exact c4 a o e q1 q2 q3)
    have hfl5 : (σ4.set H.wt (lstOf (wvs ++ gws) n5)) H.fl = some (lstOf (fvs ++ [.int ((evs2.length : Nat) - 1) t5]) (fn + 1)) := by first | exact ((Led.set_ne (ne_role hr3.rfl' hr3.rwt (by decide))).trans hfl4) | (rw [Led.set_ne (ne_role hr3.rfl' hr3.rwt (by decide))]; exact hfl4)
    have hwt5 : (σ4.set H.wt (lstOf (wvs ++ gws) n5)) H.wt = some (lstOf (wvs ++ gws) n5) := Led.set_self
    have hus5 : (σ4.set H.wt (lstOf (wvs ++ gws) n5)) H.us = some ou := by first | exact ((Led.set_ne (ne_role hr3.rus hr3.rwt (by decide))).trans hus4) | (rw [Led.set_ne (ne_role hr3.rus hr3.rwt (by decide))]; exact hus4)
    have k5 : Kp ro hpR σ3 (σ4.set H.wt (lstOf (wvs ++ gws) n5)) := k4.trans (Kp.one hr3.rwt rfl)
    have g5 : RoOk ro (σ4.set H.wt (lstOf (wvs ++ gws) n5)) := g4.set ltup
    clear hga4 hi4 hfl4 hwt4 hus4 k4 g4 c4
    (generalize σ4.set H.wt (lstOf (wvs ++ gws) n5) = σ5 at *; revert σ5; refine bar ?_; set_option tactic.hygienic false in intros)
    have hi5 : InsD σ5 H.hp 400 H.hd H.fs := hr3.ins.keep (fun o e => c5 _ _ e (nr hr3.rk _) (nr hr3.rk _) (nr hr3.rk _)) (fun o e => c5 _ _ e (nr hr3.rd _) (nr hr3.rd _) (nr hr3.rd _))
    repeat k_upd
    refine j_tail_dict (knd := intKind PR X.w) (k := (kp : Int)) hus5 hud (by simp [intKind, Value.isInt]) hk1 (by rfl) ?_
    repeat k_upd
    refine j_dict_pop_m (knd := intKind PR X.w) hus5 hud ?_
    repeat k_upd
    refine j_dict_pop (knd := intKind PR X.w) (k := (gn : Int)) hus5 hud (by simp [intKind, Value.isInt]) hg1 (by rfl) (by exact (Nat.le_of_lt (Nat.lt_of_lt_of_le (Nat.lt_of_le_of_lt hul hpl) (Nat.le_of_ble_eq_true rfl)))) fun o6 ho6 => ?_
    have c6 : ∀ a o, σ3 a = some o → ro a ≠ some .forest → ro a ≠ some .waiting → ro a ≠ some .users → (σ5.set H.us o6) a = some o := fun a o e q1 q2 q3 => by first | exact ((Led.set_ne (by rintro rfl; exact q3 hr3.rus)).trans (c5 a o e q1 q2 q3)) | (rw [Led.set_ne (by rintro rfl; exact q3 hr3.rus)]; exact c5 a o e q1 q2 q3)
    have hfl6 : (σ5.set H.us o6) H.fl = some (lstOf (fvs ++ [.int ((evs2.length : Nat) - 1) t5]) (fn + 1)) := by first | exact ((Led.set_ne (ne_role hr3.rfl' hr3.rus (by decide))).trans hfl5) | (rw [Led.set_ne (ne_role hr3.rfl' hr3.rus (by decide))]; exact hfl5)
    have hwt6 : (σ5.set H.us o6) H.wt = some (lstOf (wvs ++ gws) n5) := by first | exact ((Led.set_ne (ne_role hr3.rwt hr3.rus (by decide))).trans hwt5) | (rw [Led.set_ne (ne_role hr3.rwt hr3.rus (by decide))]; exact hwt5)
    have hus6 : (σ5.set H.us o6) H.us = some o6 := Led.set_self
    have k6 : Kp ro hpR σ3 (σ5.set H.us o6) := k5.trans (Kp.one hr3.rus rfl)
    have g6 : RoOk ro (σ5.set H.us o6) := g5.set (dict_cls ho6)
    clear hi5 hfl5 hwt5 hus5 k5 g5 c5
    (generalize σ5.set H.us o6 = σ6 at *; revert σ6; refine bar ?_; set_option tactic.hygienic false in intros)
    have hka6 := c6 _ _ hk3 (ur hk2).1 (ur hk2).2.1 (ur hk2).2.2
    have hga6 := c6 _ _ hg3 (ur hg2).1 (ur hg2).2.1 (ur hg2).2.2
    refine j_add_list hka6 hga6 (by omega) fun la hla => ?_
    have s7 : Sub σ6 (σ6.set la (lstOf (kws ++ gws) 0)) := .new hla
    have hla7 : (σ6.set la (lstOf (kws ++ gws) 0)) la = some (lstOf (kws ++ gws) 0) := Led.set_self
    have c7 : ∀ a o, σ3 a = some o → ro a ≠ some .forest → ro a ≠ some .waiting → ro a ≠ some .users → (σ6.set la (lstOf (kws ++ gws) 0)) a = some o := fun a o e q1 q2 q3 => s7 _ _ (c6 a o e q1 q2 q3)
    (generalize σ6.set la (lstOf (kws ++ gws) 0) = σ7 at *; revert σ7; refine bar ?_; set_option tactic.hygienic false in intros)
    have hrla : ro la = none := g6.fresh hla
    have hus7 := s7 _ _ hus6
    have hfl7 := s7 _ _ hfl6
    have hwt7 := s7 _ _ hwt6
    have k7 := k6.trans s7.kp
    have g7 := g6.sub s7
    have f7 : ∀ a, σ3 a ≠ none → a ≠ la := fun a e q => by
      subst q
      cases q : σ3 a with
      | none => exact e q
      | some o => (first | exact nos (c6 a o q (nr hrla _) (nr hrla _) (nr hrla _)) hla | exact nos hla (c6 a o q (nr hrla _) (nr hrla _) (nr hrla _)) | (rw [c6 a o q (nr hrla _) (nr hrla _) (nr hrla _)] at hla; cases hla))
    clear hfl6 hwt6 hus6 k6 g6 c6 s7 hka6 hga6
    have hi7 : InsD σ7 H.hp 400 H.hd H.fs := hr3.ins.keep (fun o e => c7 _ _ e (nr hr3.rk _) (nr hr3.rk _) (nr hr3.rk _)) (fun o e => c7 _ _ e (nr hr3.rd _) (nr hr3.rd _) (nr hr3.rd _))
    repeat k_upd
    refine j_dict_set (knd := intKind PR X.w) (k := (kp : Int)) hus7 ho6 (by simp [intKind, Value.isInt]) (by have := length_without_le kvs (gn : Int); exact (Nat.le_of_lt (Nat.lt_of_lt_of_le (Nat.lt_of_le_of_lt (Nat.le_trans this hul) hpl) (Nat.le_of_ble_eq_true rfl)))) fun o8 ho8 => ?_
    repeat k_upd
    have c8 : ∀ a o, σ3 a = some o → ro a ≠ some .forest → ro a ≠ some .waiting → ro a ≠ some .users → (σ7.set H.us o8) a = some o := fun a o e q1 q2 q3 => by first | exact ((Led.set_ne (by rintro rfl; exact q3 hr3.rus)).trans (c7 a o e q1 q2 q3)) | (rw [Led.set_ne (by rintro rfl; exact q3 hr3.rus)]; exact c7 a o e q1 q2 q3)
    have hul7 : H.us ≠ la := by rintro e; rw [← e, hr3.rus] at hrla; cases hrla
    have up : ∀ a r, ro a = some r → (ro.set la (.user kp)) a = some r := fun a r e => by first | exact ((Roles.set_ne (ne_norole e hrla)).trans e) | (rw [Roles.set_ne (ne_norole e hrla)]; exact e)
    have same : ∀ a, σ3 a ≠ none → (ro.set la (.user kp)) a = ro a := fun a e => Roles.set_ne (f7 a e)
    have k8 : Kp ro hpR σ3 (σ7.set H.us o8) := k7.trans (Kp.one hr3.rus rfl)
    have g8 : RoOk (ro.set la (.user kp)) (σ7.set H.us o8) := fun a r e => by
      by_cases e' : a = la
      · subst e'; exact (i1_2 (_) ( by first | exact ((Led.set_ne hul7.symm).trans hla7) | (rw [Led.set_ne hul7.symm]; exact hla7)) ( ltup))
      · rw [Roles.set_ne e'] at e
        exact (g7.set (a := H.us) (dict_cls ho8)) a r e
    show (∃ c, _ = Value.bool c) ∧ ∃ ro', HpL _ _ ro' H (S.join a b) ∧ Ext _ _ ro' _
    first | refine Mine.sb (hjoin) ?_ | rw [hjoin]
    refine ⟨⟨true, rfl⟩, ro.set la (.user kp), ⟨?_, ?_, ?_, g8⟩, x3.trans g3 ⟨fun a o e q => c8 a o e (nr q _) (nr q _) (nr q _), same⟩⟩
    · exact hb3.keep k8 g3 (fun r hr => by cases r <;> first | rfl | cases hr) same
    · exact hu3.keep k8 g3 (fun r hr => by cases r <;> first | rfl | cases hr) same
    · refine ⟨hr3.ins.keep (fun o e => c8 _ _ e (nr hr3.rk _) (nr hr3.rk _) (nr hr3.rk _)) (fun o e => c8 _ _ e (nr hr3.rd _) (nr hr3.rd _) (nr hr3.rd _)), ?_, ?_, up _ _ hr3.rel, up _ _ hr3.rfl', up _ _ hr3.rkd, up _ _ hr3.rus, up _ _ hr3.rwt, ?_, ?_, ?_, ?_, ?_⟩
      · rw [same _ (by rw [hr3.ins.x]; simp)]; exact hr3.rk
      · (refine x2_1 hr3.ins.d ?_; intro es n q)
        rw [same _ (by rw [q]; simp)]; exact hr3.rd
      · exact (i2_2 (evs2) ( en2) ( c8 _ _ hel (by rw [hr3.rel]; simp) (by rw [hr3.rel]; simp) (by rw [hr3.rel]; simp)) ( hen2))
      · exact (i2_2 (_) ( _) ( by first | exact ((Led.set_ne (ne_role hr3.rfl' hr3.rus (by decide))).trans hfl7) | (rw [Led.set_ne (ne_role hr3.rfl' hr3.rus (by decide))]; exact hfl7)) ( by simp; exact hfn))
      · (refine x2_4 hr3.kd ?_; intro o xs e1 e2 e3 e4)
        exact (i2_4 (o) ( xs) ( c8 _ _ e1 (by rw [hr3.rkd]; simp) (by rw [hr3.rkd]; simp) (by rw [hr3.rkd]; simp)) ( e2) ( e3.tup (k8.tup g3)) ( e4))
      · refine (i2_4 (o8) ( _) ( Led.set_self) ( ho8) ( ?_) ( fun c hc => ?_))
        · rw [stored_length_old (u := .ref ka) (by first | exact ((valueAt_without (by exact (fun e => Nat.ne_of_lt hlt (Int.ofNat_inj.mp e)))).trans hk1) | (rw [valueAt_without (by exact (fun e => Nat.ne_of_lt hlt (Int.ofNat_inj.mp e)))]; exact hk1)), List.length_set]
          exact Nat.le_trans (length_without_le _ _) hul
        · first | refine Mine.sb (valueAt_stored) ?_ | rw [valueAt_stored]
          by_cases e : c = kp
          · subst e
            refine (i3_4 (la) ( kws ++ gws) ( 0) ( by rw [if_pos rfl]) ( Roles.set_self) ( by first | exact ((Led.set_ne hul7.symm).trans hla7) | (rw [Led.set_ne hul7.symm]; exact hla7)) ( ?_))
            simp only [if_true]
            exact hk4.append hg4
          · have hcg : c ≠ gn := by
              rintro rfl
              rw [List.getElem?_set, if_pos rfl, if_pos hgl] at hc
              cases hc; exact e rfl
            rw [List.getElem?_set, if_neg (Ne.symm hcg)] at hc
            (refine x3_4 (husers c hc) ?_; intro a' ws' k' c1 c2 c3 c4)
            refine (i3_4 (a') ( ws') ( k') ( by first | exact ((if_neg (by omega)).trans ((valueAt_without (by omega)).trans c1)) | (rw [if_neg (by omega), valueAt_without (by omega)]; exact c1)) ( up _ _ c2) ( c8 _ _ c3 (ur c2).1 (ur c2).2.1 (ur c2).2.2) ( ?_))
            simp only [e, if_false]
            exact c4
      · exact (i2_2 (_) ( _) ( by first | exact ((Led.set_ne (ne_role hr3.rwt hr3.rus (by decide))).trans hwt7) | (rw [Led.set_ne (ne_role hr3.rwt hr3.rus (by decide))]; exact hwt7)) ( hwv.append hg4))
end
section
--FILE FJ
noncomputable def kfind (known : List (Node × Nat)) (s : Node) : Option Nat := (known.find? fun p => decide (p.1 = s)).map (·.2)
theorem kfind_some {known : List (Node × Nat)} {s : Node} {m : Nat} (h : kfind known s = some m) : (s, m) ∈ known := by
  unfold kfind at h
  cases q : known.find? fun p => decide (p.1 = s) with
  | none => (first | exact nos (q) h | exact nos h (q) | (rw [q] at h; cases h))
  | some p =>
    rw [q] at h
    have h1 := List.find?_some q
    have h2 := List.mem_of_find?_eq_some q
    simp at h h1
    subst h1 h
    exact h2
theorem kfind_none {known : List (Node × Nat)} {s : Node} (h : kfind known s = none) : ∀ m, (s, m) ∉ known := by
  intro m hm
  unfold kfind at h
  rw [Option.map_eq_none_iff, List.find?_eq_none] at h
  exact h _ hm (by simp)
noncomputable def HS.look (S : HS) (n : Nat) (x : Node) : HS :=
  match kfind S.known (x.1, x.2.map (findR S.par)) with
  | none => { S with known := S.known ++ [((x.1, x.2.map (findR S.par)), n)] }
  | some m => if findR S.par m = findR S.par n then S else S.join m n

theorem known_at {known : List (Node × Nat)} {xs : List (Ky × Addr × Value)} {s : Node} (hl : xs.length = known.length) (hg : ∀ (i : Nat) s m, known[i]? = some (s, m) → ∃ a t, xs[i]? = some (nodeKy s, a, .int (m : Nat) t)) (hn : (xs.map (·.1)).Nodup) :
    (∀ m, kfind known s = some m → ∃ a t, atKey xs (nodeKy s) = some (a, .int (m : Nat) t)) ∧ (kfind known s = none → atKey xs (nodeKy s) = none) := by
  constructor
  · intro m h
    obtain ⟨i, hi⟩ := List.getElem?_of_mem (kfind_some h)
    (refine x2_1 (hg i s m hi) ?_; intro a t e)
    exact (i2_1 (a) ( t) ( atKey_of_get hn e))
  · intro h
    refine atKey_none_of_get fun j p hj => ?_
    have hlt : j < known.length := by
      rcases Nat.lt_or_ge j xs.length with q | q
      · exact (Nat.lt_of_lt_of_eq q hl)
      · (first | exact nos (List.getElem?_eq_none q) hj | exact nos hj (List.getElem?_eq_none q) | (rw [List.getElem?_eq_none q] at hj; cases hj))
    (refine x2_1 (hg j known[j].1 known[j].2 (by simp [hlt])) ?_; intro a t e)
    rw [hj] at e
    simp only [Option.some.injEq, Prod.mk.injEq] at e
    have := nodeKy_inj e.1
    have e2 : (s, known[j].2) = known[j] := by rw [this]
    exact kfind_none h known[j].2 (by first | exact ((e2).trans (List.getElem_mem hlt)) | (rw [e2]; exact List.getElem_mem hlt))

section
variable {w : World} {σ : Led} {ro : Roles} {H : HY} {S : HS} {d : Nat}
theorem spec_hmerge {a b : Nat} {t u : Tok} {rv : Value} (h : HpL w σ ro H S) (fit : S.Room) (ha : a < S.par.length) (hb : b < S.par.length) :
    Spec w 336 [.ref H.hp, .int a t, .int b u, rv] (d + 4) σ (fun r σ' => (∃ c, r = .bool c) ∧ ∃ ro', HpL w σ' ro' H (S.join a b) ∧ Ext ro σ ro' σ') := by
  refine' spec_def (binds := [(Str.ofString "self", .ref H.hp), (Str.ofString "a", .int a t), (Str.ofString "b", .int b u), (Str.ofString "reason", rv)]) ?ho ?hcd ?hb ?hl ?hc ?h1 ?h2 ?h3 ?h
  k_enter
  intro X hw O hE
  subst hw
  have hi := h.r.ins
  repeat k_upd
  refine ((spec_join (d := d) h fit ha hb).j rfl O).mono1 ?_
  (intro r σ1 h1)
  exact h1

theorem spec_look_at {n c : Nat} {ks : List Nat} {t : Tok} (h : HpL w σ ro H S) (fit : S.Room) (hn : S.nodes[n]? = some (c, ks)) (hl : n < S.par.length) (hkv : ∀ s m, (s, m) ∈ S.known → m < S.par.length) :
    Spec w 315 [.ref H.hp, .int n t] (d + 5) σ (fun r σ' => ∃ ro', HpL w σ' ro' H (S.look n (c, ks)) ∧ Ext ro σ ro' σ') := by
  refine' spec_def (binds := [(Str.ofString "self", .ref H.hp), (Str.ofString "n", .int n t)]) ?ho ?hcd ?hb ?hl ?hc ?h1 ?h2 ?h3 ?h
  k_enter
  intro X hw O hE
  subst hw
  have hi := h.r.ins
  have hks : ∀ k ∈ ks, k < S.par.length := fun k hk => Nat.lt_trans ((h.bank.ok.2.2 n c ks hn).2.2 k hk) hl
  have hop := (h.bank.ok.2.2 n c ks hn).1
  (refine x2_5 h.r.kd ?_; intro o xs hkd hky hkk hxl hxg)
  repeat k_upd
  refine j_setdefault_m hkd hky ?_
  repeat k_upd
  refine ((spec_hnode (d := d) h hn hks).j rfl O).mono1 ?_
  (intro r σ1 zr1; refine x0_2 zr1 ?_; clear zr1; (intro zt2 s1; refine x1_2 zt2 ?_; clear zt2; intro a er3 hna; obtain rfl := er3))
  replace h := h.sub s1
  replace hkd := s1 _ _ hkd
  replace hkk := hkk.tup s1.tup
  clear hi
  have hi := h.r.ins
  have hKy := hna.ky hop
  repeat k_upd
  have hat := known_at (s := (c, ks.map (findR S.par))) hxl hxg hky.nodup
  have hel := (known_at (s := (c, ks.map (findR S.par))) hxl hxg hky.nodup)
  refine j_setdefault (v := .int n t) O hkd hky hkk hKy (by have := fit.kn; exact (Nat.le_trans (Nat.le_trans (Nat.le_of_eq hxl) this) (Nat.le_of_ble_eq_true rfl))) (fun p hp => ?_) (fun hnone o' ho' => ?_)
  · -- there
    cases hf : kfind S.known (c, ks.map (findR S.par)) with
    | none => (first | exact nos (hat.2 hf) hp | exact nos hp (hat.2 hf) | (rw [hat.2 hf] at hp; cases hp))
    | some m =>
      (refine x2_1 (hat.1 m hf) ?_; intro a' t' e)
      (first | exact nos (e) hp | exact nos hp (e) | (rw [e] at hp; cases hp))
      have hml := hkv _ _ (kfind_some hf)
      repeat k_upd
      refine ((spec_hfind (d := d + 2) h hml).j rfl O).mono1 ?_
      (intro r σ2 zr1; refine x0_2 zr1 ?_; clear zr1; (intro zt2 s2; refine x1_1 zt2 ?_; clear zt2; intro t2 er3; obtain rfl := er3))
      replace h := h.sub s2
      clear hi
      have hi := h.r.ins
      repeat k_upd
      refine ((spec_hfind (d := d + 2) h hl).j rfl O).mono1 ?_
      (intro r σ3 zr1; refine x0_2 zr1 ?_; clear zr1; (intro zt2 s3; refine x1_1 zt2 ?_; clear zt2; intro t3 er3; obtain rfl := er3))
      replace h := h.sub s3
      clear hi
      have hi := h.r.ins
      have hlook : S.look n (c, ks) = if findR S.par m = findR S.par n then S else S.join m n := by unfold HS.look; rw [hf]
      have s03 := (s1.trans s2).trans s3
      repeat k_upd
      by_cases hq : findR S.par m = findR S.par n
      · refine Mine.sb (show ((findR S.par m : Int) != (findR S.par n : Nat)) = false from by rw [hq]; simp) ?_
        repeat k_upd
        show ∃ ro', HpL _ _ ro' H (S.look n (c, ks)) ∧ Ext _ _ ro' _
        rw [hlook, if_pos hq]
        exact (i1_2 (ro) ( h) ( s03.ext))
      · refine Mine.sb (show ((findR S.par m : Int) != (findR S.par n : Nat)) = true from by simp; exact (fun e => hq (Int.ofNat_inj.mp e))) ?_
        repeat k_upd
        intro t4
        repeat k_upd
        intro p1 hp1
        have s4 : Sub σ3 (σ3.set p1 (tupOf [.str (Str.ofString "like") t4] 0)) := .new hp1
        replace h := h.sub s4
        refine ((spec_join (d := d + 1) (t := t') (u := t) (rv := .ref p1) h fit hml hl).j rfl O).mono1 ?_
        (intro r σ5 zt1; obtain ⟨⟨_, rfl⟩, ro', h5, x5⟩ := zt1)
        repeat k_upd
        show ∃ ro', HpL _ _ ro' H (S.look n (c, ks)) ∧ Ext _ _ ro' _
        rw [hlook, if_neg hq]
        exact (i1_2 (ro') ( h5) ( ((s03.trans s4).ext).trans h.ro x5))
  · -- new
    cases hf : kfind S.known (c, ks.map (findR S.par)) with
    | some m => (refine x2_1 (hat.1 m hf) ?_; intro a' t' e); (first | exact nos (e) hnone | exact nos hnone (e) | (rw [e] at hnone; cases hnone))
    | none =>
      have k2 : Kp ro (fun r => r == .known) σ1 (σ1.set H.kd o') := Kp.one h.r.rkd (by simp)
      have g2 : RoOk ro (σ1.set H.kd o') := h.ro.set ho'.cls
      have n1 : ∀ c, ro c ≠ some .known → (σ1.set H.kd o') c = σ1 c := fun c q => Led.set_ne (by rintro rfl; exact q h.r.rkd)
      have kt := k2.tup h.ro
      have h2 : HpL X.w (σ1.set H.kd o') ro H { S with known := S.known ++ [((c, ks.map (findR S.par)), n)] } := by
        refine ⟨h.bank.keep k2 h.ro (fun r hr => by cases r <;> first | rfl | cases hr) fun _ _ => rfl, h.uni.keep k2 h.ro (fun r hr => by cases r <;> first | rfl | cases hr) fun _ _ => rfl, ?_, g2⟩
        refine ⟨h.r.ins.keep (fun o e => by first | exact ((n1 _ (by rw [h.r.rk]; simp)).trans e) | (rw [n1 _ (by rw [h.r.rk]; simp)]; exact e)) (fun o e => by first | exact ((n1 _ (by rw [h.r.rd]; simp)).trans e) | (rw [n1 _ (by rw [h.r.rd]; simp)]; exact e)), h.r.rk, h.r.rd, h.r.rel, h.r.rfl', h.r.rkd, h.r.rus, h.r.rwt, ?_, ?_, ?_, ?_, ?_⟩
        · (refine x2_2 h.r.el ?_; intro vs n e1 e2)
          exact (i2_2 (vs) ( n) ( by first | exact ((n1 _ (by rw [h.r.rel]; simp)).trans e1) | (rw [n1 _ (by rw [h.r.rel]; simp)]; exact e1)) ( e2))
        · (refine x2_2 h.r.fl ?_; intro vs n e1 e2)
          exact (i2_2 (vs) ( n) ( by first | exact ((n1 _ (by rw [h.r.rfl']; simp)).trans e1) | (rw [n1 _ (by rw [h.r.rfl']; simp)]; exact e1)) ( e2))
        · refine (i2_5 (o') ( _) ( Led.set_self) ( ho') ( ?_) ( by simp [hxl]) ( fun i s m hi => ?_))
          · intro y hy
            rcases List.mem_append.mp hy with hy | hy
            · exact (hkk y hy).tup kt
            · simp only [List.mem_singleton] at hy
              subst hy; exact hKy.tup kt
          · rw [List.getElem?_append] at hi
            rw [List.getElem?_append, hxl]
            split at hi
            · rename_i hlt'
              rw [if_pos hlt']
              exact hxg i s m hi
            · rename_i hlt'
              rw [if_neg hlt']
              (refine x0_2 (last_get hi) ?_; intro hz0 e)
              cases e
              first | refine Mine.sb (hz0) ?_ | rw [hz0]
              exact (i2_1 (a) ( t) ( rfl))
        · (refine x2_4 h.r.us ?_; intro o kvs e1 e2 e3 e4)
          refine (i2_4 (o) ( kvs) ( by first | exact ((n1 _ (by rw [h.r.rus]; simp)).trans e1) | (rw [n1 _ (by rw [h.r.rus]; simp)]; exact e1)) ( e2) ( e3) ( fun c hc => ?_))
          (refine x3_4 (e4 c hc) ?_; intro a ws k c1 c2 c3 c4)
          exact (i3_4 (a) ( ws) ( k) ( c1) ( c2) ( by first | exact ((n1 _ (by rw [c2]; simp)).trans c3) | (rw [n1 _ (by rw [c2]; simp)]; exact c3)) ( c4))
        · (refine x2_2 h.r.wt ?_; intro vs n e1 e2)
          exact (i2_2 (vs) ( n) ( by first | exact ((n1 _ (by rw [h.r.rwt]; simp)).trans e1) | (rw [n1 _ (by rw [h.r.rwt]; simp)]; exact e1)) ( e2))
      have x2 : Ext ro σ ro (σ1.set H.kd o') := (s1.ext).trans h.ro k2.ext
      (generalize σ1.set H.kd o' = σ2b at *; revert σ2b; refine bar ?_; set_option tactic.hygienic false in intros)
      have hlook : S.look n (c, ks) = { S with known := S.known ++ [((c, ks.map (findR S.par)), n)] } := by unfold HS.look; rw [hf]
      clear hi n1 k2 g2 kt
      have hi := h2.r.ins
      repeat k_upd
      refine ((spec_hfind (d := d + 2) h2 hl).j rfl O).mono1 ?_
      (intro r σ3 zr1; refine x0_2 zr1 ?_; clear zr1; (intro zt2 s3; refine x1_1 zt2 ?_; clear zt2; intro t2 er3; obtain rfl := er3))
      have h3 := h2.sub s3
      clear hi
      have hi := h3.r.ins
      repeat k_upd
      refine ((spec_hfind (d := d + 2) h3 hl).j rfl O).mono1 ?_
      (intro r σ4 zr1; refine x0_2 zr1 ?_; clear zr1; (intro zt2 s4; refine x1_1 zt2 ?_; clear zt2; intro t3 er3; obtain rfl := er3))
      repeat k_upd
      refine Mine.sb (show ((findR S.par n : Int) != (findR S.par n : Nat)) = false from by simp) ?_
      repeat k_upd
      show ∃ ro', HpL _ _ ro' H (S.look n (c, ks)) ∧ Ext _ _ ro' _
      first | refine Mine.sb (hlook) ?_ | rw [hlook]
      exact (i1_2 (ro) ( h3.sub s4) ( x2.trans h2.ro (s3.trans s4).ext))
end
end
section
--FILE FK
noncomputable def HS.grow (S : HS) (x : Node) : HS :=
  { nodes := S.nodes ++ [x], par := S.par ++ [S.par.length], lens := fun i => if i = S.par.length then 1 else S.lens i, known := S.known, waiting := S.waiting, ne := S.ne,
    users := fun c => if c ∈ x.2.map (findR (S.par ++ [S.par.length])) then (if c = S.par.length then [] else S.users c) ++ [S.par.length] else if c = S.par.length then [] else S.users c }
noncomputable def HS.Add (S : HS) (x : Node) (S' : HS) (n : Nat) : Prop := (S' = S ∧ S.nodes[n]? = some x) ∨ (x ∉ S.nodes ∧ n = S.par.length ∧ S' = (S.grow x).look n x)

theorem isInt_self {i : Int} {t : Tok} {w : World} : (intKind PR w).is i (.int i t) = true := by simp [intKind, Value.isInt]

theorem ints_get {vs : List Value} {ns : List Int} {k : Nat} {z : Int} {t : Tok} (hs : IntsAre vs ns) (h : vs[k]? = some (.int z t)) : ns[k]? = some z := by
  induction hs generalizing k with
  | nil => cases h
  | cons n u hi ih =>
    cases k with
    | zero => simp at h; simp [h.1]
    | succ k => simpa using ih (k := k) (by simpa using h)

section
variable {w : World} {σ : Led} {ro : Roles} {H : HY} {S : HS} {d : Nat}

theorem HpR.newUser {la : Addr} {o' : Obj} {kvs : List (Int × Value)} {ou : Obj} (h : HpR w σ ro H S) (g : RoOk ro σ) (hla : σ la = some (lstOf [] 0)) (hrl : ro la = none) (hou : σ H.us = some ou) (hud : ou.IsDictOf (intKind PR w) kvs)
    (hv : ∀ c : Nat, S.par[c]? = some c → ∃ a ws k, valueAt kvs (c : Int) = some (.ref a) ∧ ro a = some (.user c) ∧ σ a = some (lstOf ws k) ∧ Nats ws (S.users c)) (hl : kvs.length ≤ S.par.length)
    (ho' : o'.IsDictOf (intKind PR w) (stored kvs (S.par.length : Int) (.ref la))) (nodes : List Node) (lens : Nat → Nat) :
    HpR w (σ.set H.us o') (ro.set la (.user S.par.length)) H { S with nodes := nodes, lens := lens, par := S.par ++ [S.par.length], users := fun c => if c = S.par.length then [] else S.users c } ∧ RoOk (ro.set la (.user S.par.length)) (σ.set H.us o') := by
  have n1 : ∀ c, ro c ≠ some .users → (σ.set H.us o') c = σ c := fun c q => Led.set_ne (by rintro rfl; exact q h.rus)
  have hne : la ≠ H.us := (ne_norole h.rus hrl).symm
  have k2 : Kp ro (fun r => r == .users) σ (σ.set H.us o') := Kp.one h.rus (by simp)
  have kt := k2.tup g
  have up : ∀ a r, ro a = some r → (ro.set la (.user S.par.length)) a = some r := fun a r e => by first | exact ((Roles.set_ne (ne_norole e hrl)).trans e) | (rw [Roles.set_ne (ne_norole e hrl)]; exact e)
  have rn : ∀ {a : Addr}, ro a = none → ro a ≠ some .users := fun e q => by (first | exact nos (e) q | exact nos q (e) | (rw [e] at q; cases q))
  refine ⟨⟨h.ins.keep (fun o e => by first | exact ((n1 _ (rn h.rk)).trans e) | (rw [n1 _ (rn h.rk)]; exact e)) (fun o e => by first | exact ((n1 _ (rn h.rd)).trans e) | (rw [n1 _ (rn h.rd)]; exact e)), ?_, ?_, up _ _ h.rel, up _ _ h.rfl', up _ _ h.rkd, up _ _ h.rus, up _ _ h.rwt, ?_, ?_, ?_, ?_, ?_⟩, ?_⟩
  · rw [Roles.set_ne (by rintro e; have := h.ins.x; rw [e, hla] at this; cases this)]; exact h.rk
  · (refine x2_1 h.ins.d ?_; intro es n q)
    rw [Roles.set_ne (by rintro e; rw [e, hla] at q; exact absurd (show Value.type "list" = Value.type "dict" from congrArg Obj.cls (Option.some.inj q)) (by decide))]; exact h.rd
  · (refine x2_2 h.el ?_; intro vs n e1 e2)
    exact (i2_2 (vs) ( n) ( by first | exact ((n1 _ (by rw [h.rel]; simp)).trans e1) | (rw [n1 _ (by rw [h.rel]; simp)]; exact e1)) ( e2))
  · (refine x2_2 h.fl ?_; intro vs n e1 e2)
    exact (i2_2 (vs) ( n) ( by first | exact ((n1 _ (by rw [h.rfl']; simp)).trans e1) | (rw [n1 _ (by rw [h.rfl']; simp)]; exact e1)) ( e2))
  · (refine x2_4 h.kd ?_; intro o xs e1 e2 e3 e4)
    exact (i2_4 (o) ( xs) ( by first | exact ((n1 _ (by rw [h.rkd]; simp)).trans e1) | (rw [n1 _ (by rw [h.rkd]; simp)]; exact e1)) ( e2) ( e3.tup kt) ( e4))
  · refine (i2_4 (o') ( _) ( Led.set_self) ( ho') ( ?_) ( fun c hc => ?_))
    · have := stored_length_le kvs (S.par.length : Int) (.ref la)
      simp; omega
    · rw [List.getElem?_append] at hc
      first | refine Mine.sb (valueAt_stored) ?_ | rw [valueAt_stored]
      split at hc
      · rename_i hlt
        (refine x3_4 (hv c hc) ?_; intro a ws k c1 c2 c3 c4)
        refine (i3_4 (a) ( ws) ( k) ( by first | exact ((if_neg (by exact (fun e => Nat.ne_of_lt hlt (Int.ofNat_inj.mp e)))).trans c1) | (rw [if_neg (by exact (fun e => Nat.ne_of_lt hlt (Int.ofNat_inj.mp e)))]; exact c1)) ( up _ _ c2) ( by first | exact ((n1 _ (by rw [c2]; simp)).trans c3) | (rw [n1 _ (by rw [c2]; simp)]; exact c3)) ( ?_))
        simp only [Nat.ne_of_lt hlt, if_false]; exact c4
      · (refine x0_2 (last_get hc) ?_; intro h0 e)
        refine (i3_4 (la) ( []) ( 0) ( by rw [if_pos (by exact (congrArg Nat.cast (Eq.symm e)))]) ( by first | exact ((e).trans Roles.set_self) | (rw [e]; exact Roles.set_self)) ( by first | exact ((Led.set_ne hne).trans hla) | (rw [Led.set_ne hne]; exact hla)) ( ?_))
        simp only [e, if_true]; exact .nil
  · (refine x2_2 h.wt ?_; intro vs n e1 e2)
    exact (i2_2 (vs) ( n) ( by first | exact ((n1 _ (by rw [h.rwt]; simp)).trans e1) | (rw [n1 _ (by rw [h.rwt]; simp)]; exact e1)) ( e2))
  · intro a r e
    by_cases e' : a = la
    · subst e'; exact (i1_2 (_) ( by first | exact ((Led.set_ne hne).trans hla) | (rw [Led.set_ne hne]; exact hla)) ( ltup))
    · rw [Roles.set_ne e'] at e
      exact (g.set (a := H.us) (dict_cls ho')) a r e

theorem HpL.userApp {c n : Nat} {t : Tok} {a : Addr} {ws : List Value} {k : Nat} {ou : Obj} {kvs : List (Int × Value)} (h : HpL w σ ro H S) (hou : σ H.us = some ou) (hud : ou.IsDictOf (intKind PR w) kvs) (hl : kvs.length ≤ S.par.length)
    (hv : ∀ c : Nat, S.par[c]? = some c → ∃ a ws k, valueAt kvs (c : Int) = some (.ref a) ∧ ro a = some (.user c) ∧ σ a = some (lstOf ws k) ∧ Nats ws (S.users c))
    (ha : valueAt kvs (c : Int) = some (.ref a)) (hr : ro a = some (.user c)) (hw : σ a = some (lstOf ws k)) (hn : Nats ws (S.users c)) :
    HpL w (σ.set a (lstOf (ws ++ [.int n t]) (k + 1))) ro H { S with users := fun c' => if c' = c then S.users c ++ [n] else S.users c' } := by
  have n1 : ∀ b, ro b ≠ some (.user c) → (σ.set a (lstOf (ws ++ [.int n t]) (k + 1))) b = σ b := fun b q => Led.set_ne (by rintro rfl; exact q hr)
  have k2 : Kp ro (fun r => r == .user c) σ (σ.set a (lstOf (ws ++ [.int n t]) (k + 1))) := Kp.one hr (by simp)
  have kt := k2.tup h.ro
  have rn : ∀ {b : Addr}, ro b = none → ro b ≠ some (.user c) := fun e q => by (first | exact nos (e) q | exact nos q (e) | (rw [e] at q; cases q))
  refine ⟨h.bank.keep k2 h.ro (fun r hr => by cases r <;> first | rfl | cases hr) fun _ _ => rfl, h.uni.keep k2 h.ro (fun r hr => by cases r <;> first | rfl | cases hr) fun _ _ => rfl, ?_, h.ro.set ltup⟩
  refine ⟨h.r.ins.keep (fun o e => by first | exact ((n1 _ (rn h.r.rk)).trans e) | (rw [n1 _ (rn h.r.rk)]; exact e)) (fun o e => by first | exact ((n1 _ (rn h.r.rd)).trans e) | (rw [n1 _ (rn h.r.rd)]; exact e)), h.r.rk, h.r.rd, h.r.rel, h.r.rfl', h.r.rkd, h.r.rus, h.r.rwt, ?_, ?_, ?_, ?_, ?_⟩
  · (refine x2_2 h.r.el ?_; intro vs n e1 e2)
    exact (i2_2 (vs) ( n) ( by first | exact ((n1 _ (by rw [h.r.rel]; simp)).trans e1) | (rw [n1 _ (by rw [h.r.rel]; simp)]; exact e1)) ( e2))
  · (refine x2_2 h.r.fl ?_; intro vs n e1 e2)
    exact (i2_2 (vs) ( n) ( by first | exact ((n1 _ (by rw [h.r.rfl']; simp)).trans e1) | (rw [n1 _ (by rw [h.r.rfl']; simp)]; exact e1)) ( e2))
  · (refine x2_4 h.r.kd ?_; intro o xs e1 e2 e3 e4)
    exact (i2_4 (o) ( xs) ( by first | exact ((n1 _ (by rw [h.r.rkd]; simp)).trans e1) | (rw [n1 _ (by rw [h.r.rkd]; simp)]; exact e1)) ( e2) ( e3.tup kt) ( e4))
  · refine (i2_4 (ou) ( kvs) ( by first | exact ((n1 _ (by rw [h.r.rus]; simp)).trans hou) | (rw [n1 _ (by rw [h.r.rus]; simp)]; exact hou)) ( hud) ( hl) ( fun c' hc' => ?_))
    (refine x3_4 (hv c' hc') ?_; intro a' ws' k' c1 c2 c3 c4)
    by_cases e : c' = c
    · subst e
      (first | exact nos (ha) c1 | exact nos c1 (ha) | (rw [ha] at c1; cases c1))
      refine (i3_4 (a) ( _) ( _) ( ha) ( hr) ( Led.set_self) ( ?_))
      simp only [if_true]
      exact hn.append (.cons n t .nil)
    · refine (i3_4 (a') ( ws') ( k') ( c1) ( c2) ( by first | exact ((n1 _ (by rw [c2]; simpa using e)).trans c3) | (rw [n1 _ (by rw [c2]; simpa using e)]; exact c3)) ( ?_))
      simp only [e, if_false]; exact c4
  · (refine x2_2 h.r.wt ?_; intro vs n e1 e2)
    exact (i2_2 (vs) ( n) ( by first | exact ((n1 _ (by rw [h.r.rwt]; simp)).trans e1) | (rw [n1 _ (by rw [h.r.rwt]; simp)]; exact e1)) ( e2))

theorem spec_add {c : Nat} {ks : List Nat} {t : Tok} {kt : Addr} {kvs : List Value} {kn : Nat} (h : HpL w σ ro H S) (hlen : S.nodes.length = S.par.length) (hz : S.par.length < 800) (fit : (S.grow (c, ks)).Room) (hkv : ∀ s m, (s, m) ∈ S.known → m < S.par.length)
    (hc : opC c = true) (hk : σ kt = some (tupOf kvs kn)) (hks : Nats kvs ks) (h2 : ks.length ≤ 2) (hlt : ∀ k ∈ ks, k < S.par.length) :
    Spec w 303 [.ref H.hp, .str (opS c) t, .ref kt] (d + 6) σ (fun r σ' => ∃ S' n t ro', r = .int (n : Nat) t ∧ S.Add (c, ks) S' n ∧ HpL w σ' ro' H S' ∧ Ext ro σ ro' σ') := by
  refine' spec_defC (binds := [(Str.ofString "self", .ref H.hp), (Str.ofString "op", .str (opS c) t), (Str.ofString "numbers", .ref kt)]) ?ho ?hcd ?hb ?hl ?hc ?h1 ?h2 ?h3 ?h
  case ho => k_is
  case hcd => k_is
  case hb => exact rfl
  case hl => exact rfl
  case hc => decide
  case h1 => exact rfl
  case h2 => exact rfl
  case h3 => exact rfl
  intro X cells hw O hE hlo hcells
  subst hw
  (refine x1_2 ((show CellsAre _ [(Str.ofString "self", X.env.locals + 1)] cells from hcells).one) ?_; intro oc er1 hoc; obtain rfl := er1)
  replace hoc : oc.data = .cell (some (.ref H.hp)) := hoc
  have hcn : σ (X.env.locals + 1) = none := by
    cases q : σ (X.env.locals + 1) with
    | none => rfl
    | some o => exact absurd (hlo _ o q) (Nat.not_lt.mpr (Nat.le_succ _))
  have s0 : Sub σ (σ.set (X.env.locals + 1) oc) := .new hcn
  have hcell : (σ.set (X.env.locals + 1) oc) (X.env.locals + 1) = some oc := Led.set_self
  show J X _ _ (σ.set (X.env.locals + 1) oc) _
  have x0 : Ext ro σ ro (σ.set (X.env.locals + 1) oc) := s0.ext
  (generalize σ.set (X.env.locals + 1) oc = σ0 at *; revert σ0; refine bar ?_; set_option tactic.hygienic false in intros)
  have hrc : ro (X.env.locals + 1) = none := h.ro.fresh hcn
  replace h := h.sub s0
  replace hk := s0 _ _ hk
  clear s0
  have hi0 := h.r.ins
  have hb0 := h.bank.ins
  repeat k_upd
  refine ((spec_take (d := d + 1) h.bank h.ro hc hk hks h2 (by first | exact ((hlen).trans hlt) | (rw [hlen]; exact hlt)) (by exact (Nat.lt_of_lt_of_le (Nat.lt_of_le_of_lt (Nat.le_of_eq hlen) hz) (Nat.le_of_ble_eq_true rfl)))).j rfl O).mono1 ?_
  (intro r σ1 zt1; (refine x3_5 zt1 ?_; clear zt1; intro nodes' i t1 er1 htk hb1 k1 g1; obtain rfl := er1))
  have hu1 := h.uni.keep k1 h.ro (fun r hr => by cases r <;> first | rfl | cases hr) fun _ _ => rfl
  have hr1 := h.r.keep k1 h.ro (fun r hr => by cases r <;> first | rfl | cases hr) fun _ _ => rfl
  have x1 := x0.trans h.ro k1.ext
  have hcell1 := k1.ext.1 _ _ hcell hrc
  have hk1 := k1.tup h.ro _ _ hk rfl
  clear hi0 hb0
  have hi0 := hr1.ins
  have hu0 := hu1.ins
  repeat k_upd
  refine ((spec_usize (d := d + 4) hu1).j rfl O).mono1 ?_
  (intro r σ2 zr1; refine x0_2 zr1 ?_; clear zr1; (intro zt2 s2; refine x1_1 zt2 ?_; clear zt2; intro t2 er3; obtain rfl := er3))
  replace hb1 := hb1.keep (T := fun _ => false) s2.kp g1 (fun _ _ => rfl) fun _ _ => rfl
  replace hu1 := hu1.keep (T := fun _ => false) s2.kp g1 (fun _ _ => rfl) fun _ _ => rfl
  replace hr1 := hr1.keep (T := fun _ => false) s2.kp g1 (fun _ _ => rfl) fun _ _ => rfl
  replace x1 := x1.trans g1 s2.ext
  replace g1 := g1.sub s2
  replace hcell1 := s2 _ _ hcell1
  replace hk1 := s2 _ _ hk1
  clear hi0 hu0
  repeat k_upd
  rcases htk with ⟨rfl, hin⟩ | ⟨hnin, rfl, hin⟩
  · have hlt' : i < S.par.length := by
      rcases Nat.lt_or_ge i S.nodes.length with q | q
      · exact (Nat.lt_of_lt_of_eq q hlen)
      · (first | exact nos (List.getElem?_eq_none q) hin | exact nos hin (List.getElem?_eq_none q) | (rw [List.getElem?_eq_none q] at hin; cases hin))
    refine Mine.sb (show decide ((i : Int) < (S.par.length : Nat)) = true from decide_eq_true (by exact (Int.ofNat_lt.mpr hlt'))) ?_
    repeat k_upd
    exact (i4_4 (S) ( i) ( t1) ( ro) ( rfl) ( .inl ⟨rfl, hin⟩) ( ⟨hb1, hu1, hr1, g1⟩) ( x1))
  · obtain rfl : i = S.par.length := hin.trans hlen
    have hlen0 := hlen
    refine Mine.sb (show decide ((S.par.length : Int) < (S.par.length : Nat)) = false from decide_eq_false (by omega)) ?_
    have hi0 := hr1.ins
    have hu0 := hu1.ins
    repeat k_upd
    refine ((spec_make (d := d + 4) hu1 g1 (by exact (Nat.lt_of_lt_of_le hz (Nat.le_of_ble_eq_true rfl)))).j rfl O).mono1 ?_
    (intro r σ3 zt1; (refine x1_4 zt1 ?_; clear zt1; intro lt hltn hu3 k3 g3))
    have same : ∀ a, σ2 a ≠ none → (ro.set lt (.lot S.par.length)) a = ro a := fun a e => Roles.set_ne (by rintro rfl; exact e hltn)
    have x3 : Ext ro σ (ro.set lt (.lot S.par.length)) σ3 := x1.trans g1 ⟨k3.ext.1, same⟩
    have hrc3 : (ro.set lt (.lot S.par.length)) (X.env.locals + 1) = none := by first | exact ((same _ (by rw [hcell1]; simp)).trans hrc) | (rw [same _ (by rw [hcell1]; simp)]; exact hrc)
    (generalize ro.set lt (.lot S.par.length) = ro3 at *; revert ro3; refine bar ?_; set_option tactic.hygienic false in intros)
    have hb3 := hb1.keep k3 g1 (fun r hr => by cases r <;> first | rfl | cases hr) same
    have hr3 := hr1.keep k3 g1 (fun r hr => by cases r <;> first | rfl | cases hr) same
    have hcell3 := k3.ext.1 _ _ hcell1 hrc
    have hk3 := k3.tup g1 _ _ hk1 rfl
    clear hi0 hu0 hr1 hu1 hb1 k3 same x1 g1 hcell1 hk1 hltn
    have hi0 := hr3.ins
    repeat k_upd
    intro la hla
    have s4 : Sub σ3 (σ3.set la (lstOf [] 0)) := .new hla
    have hla4 : (σ3.set la (lstOf [] 0)) la = some (lstOf [] 0) := Led.set_self
    (generalize σ3.set la (lstOf [] 0) = σ4 at *; revert σ4; refine bar ?_; set_option tactic.hygienic false in intros)
    have hrl : ro3 la = none := g3.fresh hla
    have hr4 := hr3.keep (T := fun _ => false) s4.kp g3 (fun _ _ => rfl) fun _ _ => rfl
    have g4 := g3.sub s4
    have hcell4 := s4 _ _ hcell3
    have hk4 := s4 _ _ hk3
    have f4 : ∀ a, σ3 a ≠ none → a ≠ la := fun a e => by rintro rfl; exact e hla
    clear hi0 hr3 hcell3 hk3 hla
    have hi0 := hr4.ins
    (refine x2_4 hr4.us ?_; intro ou kvs2 hou hud hul hus)
    repeat k_upd
    refine j_dict_set (knd := intKind PR X.w) (k := (S.par.length : Int)) hou hud isInt_self (by exact (Nat.le_of_lt (Nat.lt_of_lt_of_le (Nat.lt_of_le_of_lt hul hz) (Nat.le_of_ble_eq_true rfl)))) fun o5 ho5 => ?_
    have hnew := hr4.newUser g4 hla4 hrl hou hud hus hul ho5 (S.nodes ++ [(c, ks)]) (fun i => if i = S.par.length then 1 else S.lens i)
    have k5 : Kp ro3 (fun r => r == .users) σ4 (σ4.set H.us o5) := Kp.one hr4.rus (by simp)
    have hlive : ∀ a, σ3 a ≠ none → (ro3.set la (.user S.par.length)) a = ro3 a := fun a e => Roles.set_ne (f4 a e)
    have hlt4 : ∀ a, σ4 a ≠ none → a ≠ la → (ro3.set la (.user S.par.length)) a = ro3 a := fun a _ e => Roles.set_ne e
    have S5 : HpL X.w (σ4.set H.us o5) (ro3.set la (.user S.par.length)) H { S with nodes := S.nodes ++ [(c, ks)], lens := fun i => if i = S.par.length then 1 else S.lens i, par := S.par ++ [S.par.length], users := fun c => if c = S.par.length then [] else S.users c } :=
      ⟨hb3.keep (s4.kp.trans k5) g3 (fun r hr => by cases r <;> first | rfl | cases hr) hlive, hu3.keep (s4.kp.trans k5) g3 (fun r hr => by cases r <;> first | rfl | cases hr) hlive, hnew.1, hnew.2⟩
    have x5 : Ext ro σ (ro3.set la (.user S.par.length)) (σ4.set H.us o5) := x3.trans g3 ⟨fun a o e q => k5.ext.1 a o (s4 a o e) q, hlive⟩
    have hrc5 : (ro3.set la (.user S.par.length)) (X.env.locals + 1) = none := by
      rw [Roles.set_ne (by rintro e; rw [← e, hcell4] at hla4; have := congrArg Obj.data (Option.some.inj hla4); (first | exact nos (hoc) this | exact nos this (hoc) | (rw [hoc] at this; cases this)))]; exact hrc3
    (generalize ro3.set la (.user S.par.length) = ro5 at *; revert ro5; refine bar ?_; set_option tactic.hygienic false in intros)
    (generalize σ4.set H.us o5 = σ5 at *; revert σ5; refine bar ?_; set_option tactic.hygienic false in intros)
    have hcell5 := k5.ext.1 _ _ hcell4 hrc3
    have hk5 := k5.tup g4 _ _ hk4 rfl
    clear hi0 hnew hr4 hu3 hb3 g4 k5 hlive hlt4 hcell4 hk4 hou hus hla4 x3 s4 f4 g3 hrc3 hrl
    repeat k_upd
    k_places
    repeat k_upd
    ((refine' j_map ?aq4 ?bq4 ?cq4 ?dq4 ?eq4 ?fq4 ?_); (case aq4 => assumption); (case bq4 => k_mem); (case cq4 => decide); (case dq4 => exact rfl); (case eq4 => decide); (case fq4 => k_mem))
    repeat k_upd
    refine ⟨.tup kt kvs.toArray, rfl, ⟨_, hk5, rfl, _, rfl⟩, by have := hks.len; simp [Src.size]; exact (Nat.le_trans (Nat.le_trans (Nat.le_of_eq this) h2) (Nat.le_of_ble_eq_true rfl)), fun j v => ∃ (k : Nat) (tk : Tok), ks[j]? = some k ∧ v = .int (findR (S.par ++ [S.par.length]) k : Nat) tk, ?_, ?_⟩
    · intro X' j v mc σ6 O' hw' hE' hj hv s6
      (refine x2_3 (kid_item hks hv) ?_; intro k tk hkm hkj er1; obtain rfl := er1)
      (rw [hE] at hE'; replace hE' := hE')
      have h6 := S5.sub s6
      have hi6 := h6.r.ins
      have hcell6 := s6 _ _ hcell5
      repeat k_upd
      refine ((spec_hfind (d := d + 3) h6 (show k < (S.par ++ [S.par.length]).length by have := hlt k hkm; simp; exact (Nat.lt_of_lt_of_le this (Nat.le_add_right _ _)))).j hw' O').mono1 ?_
      (intro r σ7 zr1; refine x0_2 zr1 ?_; clear zr1; (intro zt2 s7; refine x1_1 zt2 ?_; clear zt2; intro t5 er3; obtain rfl := er3))
      exact ⟨(i2_2 (k) ( t5) ( hkj) ( rfl)), s6.trans s7⟩
    · intro ys σ6 D kk hyl hys s6 hD
      have s7 : Sub σ5 (σ6.set D (lstOf ys kk)) := s6.trans (.new hD)
      have hyn : Nats ys (ks.map (findR (S.par ++ [S.par.length]))) := Nats.of (by simp [Src.size] at hyl; simp [hyl, hks.len]) fun j v n hv hn => by
        (refine x2_2 (hys j v hv) ?_; intro k' tk h1 er1; obtain rfl := er1)
        rw [List.getElem?_map, h1] at hn
        simp at hn; subst hn; exact ⟨tk, rfl⟩
      have hdads := S5.uni.ok
      have hfl : ∀ k ∈ ks, findR (S.par ++ [S.par.length]) k < S.par.length + 1 ∧ (S.par ++ [S.par.length])[findR (S.par ++ [S.par.length]) k]? = some (findR (S.par ++ [S.par.length]) k) := fun k hk => by
        have hl : k < (S.par ++ [S.par.length]).length := by have := hlt k hk; simp; exact (Nat.lt_of_lt_of_le this (Nat.le_add_right _ _))
        have := findR_lt hdads hl
        exact ⟨by simpa using this, (findR_root hdads hl).1⟩
      refine j_set_list O Led.set_self hyn.are (by simp; exact h2) (fun k hk => ?_) fun a oset ha hset => ?_
      · simp only [List.map_map, List.mem_map, Function.comp] at hk
        (refine x1_2 hk ?_; clear hk; intro q hq er1; obtain rfl := er1)
        have := (hfl q hq).1
        omega
      have s8 := s7.trans (Sub.new (o := oset) ha)
      refine j_sorted_set O Led.set_self hset (by simp; exact h2) fun l us un e hl hui hund hum hulen => ?_
      have s9 : Sub σ5 (((σ6.set D (lstOf ys kk)).set a oset).set l (lstOf us e)) := s8.trans (.new hl)
      have hl9 : (((σ6.set D (lstOf ys kk)).set a oset).set l (lstOf us e)) l = some (lstOf us e) := Led.set_self
      (generalize ((σ6.set D (lstOf ys kk)).set a oset).set l (lstOf us e) = σ9 at *; revert σ9; refine bar ?_; set_option tactic.hygienic false in intros)
      have S9 := S5.sub s9
      have hcell9 := s9 _ _ hcell5
      have x9 := x5.trans S5.ro s9.ext
      have hrl : ro5 l = none := by
        have := ((S5.ro.sub s8).fresh hl); exact this
      clear s9 s8 s7 hset hl ha hD hys s6 hyl S5 hcell5 hk5 x5
      let Iv1 : Nat → Loc → Led → Prop := fun i m' σ' => Ext ro5 σ9 ro5 σ' ∧ m' (Str.ofString "n") = some (.int (S.par.length : Nat) t1) ∧
        HpL X.w σ' ro5 H { S with nodes := S.nodes ++ [(c, ks)], lens := fun i => if i = S.par.length then 1 else S.lens i, par := S.par ++ [S.par.length], users := fun c => if (c : Int) ∈ un.take i then (if c = S.par.length then [] else S.users c) ++ [S.par.length] else if c = S.par.length then [] else S.users c }
      refine ⟨.list l us.toArray, rfl, ⟨_, hl9, rfl, _, rfl⟩, Iv1, (i0_3 (.refl) ( rfl) ( by simpa using S9)), ?_, ?_⟩
      · (intro p i v m2 σ' O' hi2 hv zr1 hok; refine x0_3 zr1 ?_; clear zr1; intro x10 hm2 h10)
        have hE2 : (X.kept p).env = _ := hE
        have hvi : us[i]? = some v := by simpa [Src.item] using hv
        have hil : i < un.length := by have := hui.length_eq; have : i < us.toArray.size := hi2; simp at this; omega
        (refine x2_1 (ints_at hui hil) ?_; intro z tz hz)
        have hzi : un[i]? = some z := ints_get hui hz
        (first | exact nos (hvi) hz | exact nos hz (hvi) | (rw [hvi] at hz; cases hz))
        have hzm := (hum z).mp (List.mem_of_getElem? hzi)
        simp only [List.map_map, List.mem_map, Function.comp] at hzm
        (refine x1_2 hzm ?_; clear hzm; intro q hq er1; obtain rfl := er1)
        (refine x0_2 (hfl q hq) ?_; intro hf1 hf2)
        have hcell10 := x10.1 _ _ hcell9 hrc5
        have hi10 := h10.r.ins
        (refine x2_4 h10.r.us ?_; intro ou' kvs' hou' hud' hul' hus')
        (refine x3_4 (hus' _ hf2) ?_; intro a' ws k' c1 c2 c3 c4)
        have hsz : ws.length ≤ 1000000 := by
          have hu := fit.us (findR (S.par ++ [S.par.length]) q) hf2
          have hm : findR (S.par ++ [S.par.length]) q ∈ ks.map (findR (S.par ++ [S.par.length])) := List.mem_map.mpr (i1_2 (q) ( hq) ( rfl))
          have e1 : (S.grow (c, ks)).users (findR (S.par ++ [S.par.length]) q) = (if findR (S.par ++ [S.par.length]) q = S.par.length then [] else S.users (findR (S.par ++ [S.par.length]) q)) ++ [S.par.length] := if_pos hm
          rw [e1, List.length_append] at hu
          have e2 := c4.len
          first | refine Mine.sb (e2) ?_ | rw [e2]
          dsimp only
          split
          · simp at hu ⊢; exact hu
          · simp at hu ⊢; exact (Nat.le_trans hu (Nat.le_of_ble_eq_true rfl))
        repeat k_upd
        refine j_tail_dict (X := X.kept p) (knd := intKind PR (X.kept p).w) (k := (findR (S.par ++ [S.par.length]) q : Int)) hou' hud' isInt_self c1 (by rfl) ?_
        refine j_list_append_m c3 ?_
        repeat k_upd
        refine j_append c3 (by exact (Nat.le_trans hsz (Nat.le_of_ble_eq_true rfl))) ?_
        have h11 := h10.userApp (n := S.par.length) (t := t1) hou' hud' hul' hus' c1 c2 c3 c4
        have k11 : Kp ro5 (fun _ => true) σ' (σ'.set a' (lstOf (ws ++ [.int (S.par.length : Nat) t1]) (k' + 1))) := Kp.one c2 rfl
        refine ⟨(i0_3 (x10.trans h10.ro k11.ext) ( Loc.get_ne (by decide) hm2) ( ?_)), ⟨_, k11.ext.1 _ _ (x10.1 _ _ hl9 hrl) hrl, rfl, _, rfl⟩⟩
        have hnt : ((findR (S.par ++ [S.par.length]) q : Nat) : Int) ∉ un.take i := fun hmem => by
          have hu := hund
          rw [← List.take_append_drop i un, List.nodup_append] at hu
          exact hu.2.2 _ hmem _ (List.mem_of_getElem? (i := 0) (by first | exact ((List.getElem?_drop).trans ((Nat.add_zero).trans hzi)) | (rw [List.getElem?_drop, Nat.add_zero]; exact hzi))) rfl
        have htk : un.take (i + 1) = un.take i ++ [((findR (S.par ++ [S.par.length]) q : Nat) : Int)] := by rw [List.take_add_one, hzi]; rfl
        refine (congrArg (fun u => HpL X.w _ ro5 H { S with nodes := S.nodes ++ [(c, ks)], lens := fun i => if i = S.par.length then 1 else S.lens i, par := S.par ++ [S.par.length], users := u }) (funext fun c' => ?_)).mp h11
        dsimp only
        by_cases e : c' = findR (S.par ++ [S.par.length]) q
        · subst e
          rw [if_pos rfl, if_neg hnt]
          exact (if_pos (by rw [htk]; simp)).symm
        · rw [if_neg e]
          have : ((c' : Int) ∈ un.take (i + 1)) ↔ ((c' : Int) ∈ un.take i) := by
            rw [htk, List.mem_append]
            constructor
            · rintro (h | h)
              · exact h
              · simp only [List.mem_singleton] at h; exact absurd (by omega) e
            · exact .inl
          by_cases q2 : (c' : Int) ∈ un.take i
          · rw [if_pos q2, if_pos (this.mpr q2)]
          · rw [if_neg q2, if_neg fun x => q2 (this.mp x)]
      · (intro m2 σ' zr1 _; refine x0_3 zr1 ?_; clear zr1; intro x10 hm2 h10)
        have hfin : HpL X.w σ' ro5 H (S.grow (c, ks)) := by
          refine (congrArg (fun u => HpL X.w σ' ro5 H { S with nodes := S.nodes ++ [(c, ks)], lens := fun i => if i = S.par.length then 1 else S.lens i, par := S.par ++ [S.par.length], users := u }) (funext fun c' => ?_)).mp h10
          dsimp only
          have hsz : us.toArray.size = un.length := by simp [hui.length_eq]
          have e : ((c' : Int) ∈ un.take (Src.list l us.toArray).size) ↔ c' ∈ ks.map (findR (S.par ++ [S.par.length])) := by
            show ((c' : Int) ∈ un.take us.toArray.size) ↔ _
            rw [hsz, List.take_length, hum]
            simp only [List.mem_map, List.map_map, Function.comp]
            constructor
            · (intro zr1; refine x1_2 zr1 ?_; clear zr1; intro q hq e); exact (i1_2 (q) ( hq) ( by omega))
            · (intro zr1; refine x1_2 zr1 ?_; clear zr1; intro q hq e); exact (i1_2 (q) ( hq) ( by exact (congrArg Nat.cast e)))
          by_cases q : c' ∈ ks.map (findR (S.par ++ [S.par.length]))
          · rw [if_pos (e.mpr q), if_pos q]
          · rw [if_neg fun x => q (e.mp x), if_neg q]
        clear h10
        have hcell10 := x10.1 _ _ hcell9 hrc5
        have hi10 := hfin.r.ins
        have x11 := x9.trans S9.ro x10
        repeat k_upd
        refine ((spec_look_at (d := d) (n := S.par.length) (c := c) (ks := ks) hfin fit (by show (S.nodes ++ [(c, ks)])[S.par.length]? = _; rw [← hlen0]; simp) (by show _ < (S.par ++ [S.par.length]).length; simp) (fun s m hm => by have := hkv s m hm; show _ < (S.par ++ [S.par.length]).length; simp; exact (Nat.lt_of_lt_of_le this (Nat.le_add_right _ _)))).j rfl O).mono1 ?_
        (intro r σ11 zt1; (refine x1_2 zt1 ?_; clear zt1; intro ro11 h11 x12))
        repeat k_upd
        exact (i4_4 (_) ( S.par.length) ( t1) ( ro11) ( rfl) ( .inr (i0_3 (hnin) ( rfl) ( rfl))) ( h11) ( x11.trans hfin.ro x12))
end
end
section
--FILE PA
open PySem PySem.W PyProof.Rows

noncomputable abbrev Alg := Nat → List Nat → Nat
noncomputable def evn (I : Alg) (nodes : List Node) : Nat → Nat → Nat
  | 0, _ => 0
  | f + 1, i => match nodes[i]? with
    | some x => I x.1 (x.2.map (evn I nodes f))
    | none => 0
noncomputable def V (I : Alg) (nodes : List Node) (i : Nat) : Nat := evn I nodes (i + 1) i
noncomputable def KidsOk (nodes : List Node) : Prop := ∀ (i : Nat) x, nodes[i]? = some x → ∀ k ∈ x.2, k < i
theorem NodesOk.kids {nodes : List Node} (h : NodesOk nodes) : KidsOk nodes := fun i x hx k hk => (h.2.2 i x.1 x.2 hx).2.2 k hk
theorem evn_enough {I : Alg} {nodes : List Node} (h : KidsOk nodes) : ∀ i f g, i < f → i < g → evn I nodes f i = evn I nodes g i := by
  intro i
  induction i using Nat.strongRecOn with
  | ind i ih =>
    intro f g hf hg
    obtain ⟨f, rfl⟩ : ∃ f', f = f' + 1 := ⟨f - 1, by omega⟩
    obtain ⟨g, rfl⟩ : ∃ g', g = g' + 1 := ⟨g - 1, by omega⟩
    unfold evn
    cases e : nodes[i]? with
    | none => rfl
    | some x =>
      dsimp only
      congr 1
      refine List.map_congr_left fun k hk => ?_
      have := h i x e k hk
      exact ih k this f g (by exact (Nat.lt_of_lt_of_le this (Nat.le_of_lt_succ hf))) (by exact (Nat.lt_of_lt_of_le this (Nat.le_of_lt_succ hg)))
theorem V_node {I : Alg} {nodes : List Node} (h : KidsOk nodes) {i : Nat} {x : Node} (e : nodes[i]? = some x) : V I nodes i = I x.1 (x.2.map (V I nodes)) := by
  unfold V
  conv => lhs; unfold evn
  first | refine Mine.sb (e) ?_ | rw [e]
  dsimp only
  congr 1
  refine List.map_congr_left fun k hk => ?_
  have := h i x e k hk
  exact evn_enough h k i (k + 1) this (by exact (Nat.lt_succ_self _))
theorem V_ext {I : Alg} {nodes nodes' : List Node} (h : KidsOk nodes) (h' : KidsOk nodes') (hp : ∀ (i : Nat) x, nodes[i]? = some x → nodes'[i]? = some x) : ∀ {i : Nat}, i < nodes.length → V I nodes' i = V I nodes i := by
  intro i
  induction i using Nat.strongRecOn with
  | ind i ih =>
    intro hi
    have e : nodes[i]? = some nodes[i] := by simp [hi]
    rw [V_node h e, V_node h' (hp _ _ e)]
    congr 1
    refine List.map_congr_left fun k hk => ?_
    have := h i _ e k hk
    exact ih k this (by exact (Nat.lt_trans this hi))

inductive Tm where
  | lf (c : Nat)
  | un (c : Nat) (x : Tm)
  | bi (c : Nat) (x y : Tm)
noncomputable instance : DecidableEq Tm := fun a b => Classical.propDecidable (a = b)
noncomputable def Tm.ev (I : Alg) : Tm → Nat
  | .lf c => I c []
  | .un c x => I c [x.ev I]
  | .bi c x y => I c [x.ev I, y.ev I]
noncomputable def Is (nodes : List Node) : Tm → Nat → Prop
  | .lf c, n => nodes[n]? = some (c, [])
  | .un c x, n => ∃ k, nodes[n]? = some (c, [k]) ∧ Is nodes x k
  | .bi c x y, n => ∃ k l, nodes[n]? = some (c, [k, l]) ∧ Is nodes x k ∧ Is nodes y l
theorem Is.ext {nodes nodes' : List Node} (hp : ∀ (i : Nat) x, nodes[i]? = some x → nodes'[i]? = some x) : ∀ {t : Tm} {n : Nat}, Is nodes t n → Is nodes' t n
  | .lf c, n, h => hp _ _ h
  | .un c x, n, ⟨k, h, hx⟩ => (i1_2 (k) ( hp _ _ h) ( hx.ext hp))
  | .bi c x y, n, ⟨k, l, h, hx, hy⟩ => (i2_3 (k) ( l) ( hp _ _ h) ( hx.ext hp) ( hy.ext hp))
theorem get_lt {α : Type} {l : List α} {i : Nat} {x : α} (h : l[i]? = some x) : i < l.length := by
  rcases Nat.lt_or_ge i l.length with q | q
  · exact q
  · (first | exact nos (List.getElem?_eq_none q) h | exact nos h (List.getElem?_eq_none q) | (rw [List.getElem?_eq_none q] at h; cases h))
theorem Is.lt {nodes : List Node} : ∀ {t : Tm} {n : Nat}, Is nodes t n → n < nodes.length
  | .lf c, n, h => get_lt h
  | .un c x, n, ⟨k, h, hx⟩ => get_lt h
  | .bi c x y, n, ⟨k, l, h, hx, hy⟩ => get_lt h
theorem Is.ev {I : Alg} {nodes : List Node} (hk : KidsOk nodes) : ∀ {t : Tm} {n : Nat}, Is nodes t n → V I nodes n = t.ev I
  | .lf c, n, h => by rw [V_node hk h]; rfl
  | .un c x, n, ⟨k, h, hx⟩ => by rw [V_node hk h]; simp [Tm.ev, hx.ev hk]
  | .bi c x y, n, ⟨k, l, h, hx, hy⟩ => by rw [V_node hk h]; simp [Tm.ev, hx.ev hk, hy.ev hk]

noncomputable abbrev Eqs := List (Tm × Tm)
noncomputable def Sat (I : Alg) (E : Eqs) : Prop := ∀ p ∈ E, p.1.ev I = p.2.ev I
noncomputable def Ent (E : Eqs) (t u : Tm) : Prop := ∀ I, Sat I E → t.ev I = u.ev I

structure Good (E : Eqs) (S : HS) (P : Nat → Prop) : Prop where
  len : S.nodes.length = S.par.length
  dads : DadsOk S.par
  nok : NodesOk S.nodes
  snd : ∀ I, Sat I E → ∀ a b, a < S.par.length → b < S.par.length → findR S.par a = findR S.par b → V I S.nodes a = V I S.nodes b
  kn : ∀ s m, (s, m) ∈ S.known → m < S.par.length
  kc : ∀ s m, (s, m) ∈ S.known → ∀ c ∈ s.2, c < S.par.length
  ks : ∀ I, Sat I E → ∀ s m, (s, m) ∈ S.known → V I S.nodes m = I s.1 (s.2.map (V I S.nodes))
  us : ∀ i x, S.nodes[i]? = some x → ∀ k ∈ x.2, i ∈ S.users (findR S.par k)
  ul : ∀ c, S.par[c]? = some c → ∀ x ∈ S.users c, x < S.par.length
  wl : ∀ x ∈ S.waiting, x < S.par.length
  cmp : ∀ i x, S.nodes[i]? = some x → ¬ P i → i ∉ S.waiting → ∃ m, kfind S.known (x.1, x.2.map (findR S.par)) = some m ∧ findR S.par m = findR S.par i

structure Le (S S' : HS) : Prop where
  nodes : ∀ (i : Nat) x, S.nodes[i]? = some x → S'.nodes[i]? = some x
  len : S.par.length ≤ S'.par.length
  like : ∀ a b, a < S.par.length → b < S.par.length → findR S.par a = findR S.par b → findR S'.par a = findR S'.par b
theorem Le.refl {S : HS} : Le S S := ⟨fun _ _ h => h, Nat.le_refl _, fun _ _ _ _ h => h⟩
theorem Le.trans {S S' S'' : HS} (h : Le S S') (h' : Le S' S'') : Le S S'' :=
  ⟨fun i x e => h'.nodes i x (h.nodes i x e), Nat.le_trans h.len h'.len, fun a b ha hb e => h'.like a b (Nat.lt_of_lt_of_le ha h.len) (Nat.lt_of_lt_of_le hb h.len) (h.like a b ha hb e)⟩

theorem join_eq {S : HS} {a b : Nat} (h : findR S.par a = findR S.par b) : S.join a b = { S with ne := S.ne + 1 } := if_pos h

structure JoinOk (S : HS) (a b kp gn : Nat) : Prop where
  hkp : S.par[kp]? = some kp
  hgn : S.par[gn]? = some gn
  lt : kp < gn
  ab : (findR S.par a = kp ∧ findR S.par b = gn) ∨ (findR S.par a = gn ∧ findR S.par b = kp)
  par : (S.join a b).par = S.par.set gn kp
  users : (S.join a b).users = fun c => if c = kp then S.users kp ++ S.users gn else S.users c
  waiting : (S.join a b).waiting = S.waiting ++ S.users gn
  known : (S.join a b).known = S.known
  nodes : (S.join a b).nodes = S.nodes
  ne : (S.join a b).ne = S.ne + 1
theorem join_ne {S : HS} {a b : Nat} (hd : DadsOk S.par) (ha : a < S.par.length) (hb : b < S.par.length) (h : findR S.par a ≠ findR S.par b) : ∃ kp gn, JoinOk S a b kp gn := by
  have r1 := findR_root hd ha
  have r2 := findR_root hd hb
  refine ⟨min (findR S.par a) (findR S.par b), max (findR S.par a) (findR S.par b), ?_, ?_, by omega, ?_, ?_, ?_, ?_, ?_, ?_, ?_⟩
  · rcases Nat.le_total (findR S.par a) (findR S.par b) with q | q
    · rw [Nat.min_eq_left q]; exact r1.1
    · rw [Nat.min_eq_right q]; exact r2.1
  · rcases Nat.le_total (findR S.par a) (findR S.par b) with q | q
    · rw [Nat.max_eq_right q]; exact r2.1
    · rw [Nat.max_eq_left q]; exact r1.1
  · omega
  all_goals (unfold HS.join; rw [if_neg h])

theorem Good.join {E : Eqs} {S : HS} {P : Nat → Prop} {a b : Nat} (g : Good E S P) (ha : a < S.par.length) (hb : b < S.par.length) (hv : ∀ I, Sat I E → V I S.nodes a = V I S.nodes b) :
    Good E (S.join a b) P ∧ Le S (S.join a b) ∧ findR (S.join a b).par a = findR (S.join a b).par b := by
  by_cases h : findR S.par a = findR S.par b
  · first | refine Mine.sb (join_eq h) ?_ | rw [join_eq h]
    exact (i0_3 (⟨g.len, g.dads, g.nok, g.snd, g.kn, g.kc, g.ks, g.us, g.ul, g.wl, g.cmp⟩) ( ⟨fun _ _ h => h, Nat.le_refl _, fun _ _ _ _ h => h⟩) ( h))
  · (refine x2_1 (join_ne g.dads ha hb h) ?_; intro kp gn j)
    have fm : ∀ {i}, i < S.par.length → findR (S.par.set gn kp) i = if findR S.par i = gn then kp else findR S.par i := fun hi => findR_merge g.dads j.lt j.hkp j.hgn hi
    have hvk : ∀ I, Sat I E → V I S.nodes kp = V I S.nodes gn := fun I hI => by
      have ea := g.snd I hI a (findR S.par a) ha (findR_lt g.dads ha) (findR_idem g.dads ha).symm
      have eb := g.snd I hI b (findR S.par b) hb (findR_lt g.dads hb) (findR_idem g.dads hb).symm
      have e := hv I hI
      rcases j.ab with ⟨h1, h2⟩ | ⟨h1, h2⟩
      · rw [h1] at ea; rw [h2] at eb; exact (Nat.le_antisymm (Nat.le_trans (Nat.le_trans (Nat.le_of_eq (Eq.symm ea)) (Nat.le_of_eq e)) (Nat.le_of_eq eb)) (Nat.le_trans (Nat.le_trans (Nat.le_of_eq (Eq.symm eb)) (Nat.le_of_eq (Eq.symm e))) (Nat.le_of_eq ea)))
      · rw [h1] at ea; rw [h2] at eb; exact (Nat.le_antisymm (Nat.le_trans (Nat.le_trans (Nat.le_of_eq (Eq.symm eb)) (Nat.le_of_eq (Eq.symm e))) (Nat.le_of_eq ea)) (Nat.le_trans (Nat.le_trans (Nat.le_of_eq (Eq.symm ea)) (Nat.le_of_eq e)) (Nat.le_of_eq eb)))
    have hkl := get_lt j.hkp
    have hgl := get_lt j.hgn
    refine (i0_3 (⟨?_, ?_, ?_, ?_, ?_, ?_, ?_, ?_, ?_, ?_, ?_⟩) ( ⟨?_, ?_, ?_⟩) ( ?_))
    · rw [j.nodes, j.par, List.length_set]; exact g.len
    · rw [j.par]; exact g.dads.merge j.lt
    · rw [j.nodes]; exact g.nok
    · rw [j.nodes, j.par, List.length_set]
      intro I hI x y hx hy e
      rw [fm hx, fm hy] at e
      have ex := g.snd I hI x (findR S.par x) hx (findR_lt g.dads hx) (findR_idem g.dads hx).symm
      have ey := g.snd I hI y (findR S.par y) hy (findR_lt g.dads hy) (findR_idem g.dads hy).symm
      have ek := hvk I hI
      split at e
      · rename_i q1
        split at e
        · rename_i q2
          rw [ex, ey, q1, q2]
        · rw [ex, ey, q1, ← e]; exact ek.symm
      · split at e
        · rename_i q2
          rw [ex, ey, q2, e]; exact ek
        · rw [ex, ey, e]
    · rw [j.known, j.par, List.length_set]; exact g.kn
    · rw [j.known, j.par, List.length_set]; exact g.kc
    · rw [j.known, j.nodes]; exact g.ks
    · rw [j.nodes, j.par, j.users]
      intro i x hx k hk
      have hkl' : k < S.par.length := by
        have := g.nok.kids i x hx k hk
        have := get_lt hx
        rw [g.len] at this; omega
      first | refine Mine.sb (fm hkl') ?_ | rw [fm hkl']
      have := g.us i x hx k hk
      by_cases q : findR S.par k = gn
      · rw [if_pos q]; dsimp only; rw [if_pos rfl]; rw [q] at this; exact List.mem_append.mpr (.inr this)
      · rw [if_neg q]; dsimp only
        by_cases q2 : findR S.par k = kp
        · rw [if_pos q2]; rw [q2] at this; exact List.mem_append.mpr (.inl this)
        · rw [if_neg q2]; exact this
    · rw [j.par, j.users, List.length_set]
      intro c hc x hx
      dsimp only at hx
      by_cases q : c = kp
      · rw [if_pos q] at hx
        rcases List.mem_append.mp hx with hx | hx
        · exact g.ul kp j.hkp x hx
        · exact g.ul gn j.hgn x hx
      · rw [if_neg q] at hx
        refine g.ul c ?_ x hx
        rw [List.getElem?_set] at hc
        split at hc
        · rename_i e
          cases hc; exact absurd rfl q
        · exact hc
    · rw [j.waiting, j.par, List.length_set]
      intro x hx
      rcases List.mem_append.mp hx with hx | hx
      · exact g.wl x hx
      · exact g.ul gn j.hgn x hx
    · rw [j.nodes, j.known, j.par, j.waiting]
      intro i x hx hP hw
      have hw1 : i ∉ S.waiting := fun q => hw (List.mem_append.mpr (.inl q))
      have hw2 : i ∉ S.users gn := fun q => hw (List.mem_append.mpr (.inr q))
      (refine x1_2 (g.cmp i x hx hP hw1) ?_; intro m h1 h2)
      have hil : i < S.par.length := by have := get_lt hx; rw [g.len] at this; exact this
      have hs : x.2.map (findR (S.par.set gn kp)) = x.2.map (findR S.par) := List.map_congr_left fun k hk => by
        have hkl' : k < S.par.length := by have := g.nok.kids i x hx k hk; exact (Nat.lt_trans this hil)
        rw [fm hkl', if_neg]
        intro q
        exact hw2 (q ▸ g.us i x hx k hk)
      refine (i1_2 (m) ( by first | exact ((hs).trans h1) | (rw [hs]; exact h1)) ( ?_))
      rw [fm (g.kn _ _ (kfind_some h1)), fm hil, h2]
    · rw [j.nodes]; exact fun _ _ h => h
    · rw [j.par, List.length_set]; exact Nat.le_refl _
    · first | refine Mine.sb (j.par) ?_ | rw [j.par]
      intro x y hx hy e
      rw [fm hx, fm hy, e]
    · rw [j.par, fm ha, fm hb]
      rcases j.ab with ⟨h1, h2⟩ | ⟨h1, h2⟩
      · rw [h1, h2, if_neg (by have := j.lt; exact (Nat.ne_of_lt this)), if_pos rfl]
      · rw [h1, h2, if_pos rfl, if_neg (by have := j.lt; exact (Nat.ne_of_lt this))]

theorem kfind_append {known : List (Node × Nat)} {s r : Node} {n : Nat} : kfind (known ++ [(r, n)]) s = (kfind known s).or (if r = s then some n else none) := by
  unfold kfind
  rw [List.find?_append]
  cases known.find? fun p => decide (p.1 = s) with
  | some p => simp
  | none =>
    by_cases h : r = s
    · simp [h]
    · simp [h]

theorem Good.look {E : Eqs} {S : HS} {P : Nat → Prop} {n : Nat} {x : Node} (g : Good E S (fun i => P i ∨ i = n)) (hn : S.nodes[n]? = some x) :
    Good E (S.look n x) P ∧ Le S (S.look n x) := by
  have hnl : n < S.par.length := by have := get_lt hn; rw [g.len] at this; exact this
  have hkl : ∀ k ∈ x.2, k < S.par.length := fun k hk => Nat.lt_trans (g.nok.kids n x hn k hk) hnl
  have hval : ∀ I, Sat I E → V I S.nodes n = I x.1 ((x.2.map (findR S.par)).map (V I S.nodes)) := fun I hI => by
    rw [V_node g.nok.kids hn, List.map_map]
    congr 1
    refine List.map_congr_left fun k hk => ?_
    exact g.snd I hI k _ (hkl k hk) (findR_lt g.dads (hkl k hk)) (findR_idem g.dads (hkl k hk)).symm
  unfold HS.look
  cases hf : kfind S.known (x.1, x.2.map (findR S.par)) with
  | none =>
    dsimp only
    refine ⟨⟨g.len, g.dads, g.nok, g.snd, ?_, ?_, ?_, g.us, g.ul, g.wl, ?_⟩, ⟨fun _ _ h => h, Nat.le_refl _, fun _ _ _ _ h => h⟩⟩
    · intro s m h
      rcases List.mem_append.mp h with h | h
      · exact g.kn s m h
      · simp only [List.mem_singleton, Prod.mk.injEq] at h; rw [h.2]; exact hnl
    · intro s m h
      rcases List.mem_append.mp h with h | h
      · exact g.kc s m h
      · simp only [List.mem_singleton, Prod.mk.injEq] at h
        (refine x0_2 h ?_; clear h; intro er1 er2; obtain rfl := er1; obtain rfl := er2)
        intro c hc
        (refine x1_2 (List.mem_map.mp hc) ?_; intro k hk er1; obtain rfl := er1)
        exact findR_lt g.dads (hkl k hk)
    · intro I hI s m h
      rcases List.mem_append.mp h with h | h
      · exact g.ks I hI s m h
      · simp only [List.mem_singleton, Prod.mk.injEq] at h
        (refine x0_2 h ?_; clear h; intro er1 er2; obtain rfl := er1; obtain rfl := er2)
        exact hval I hI
    · intro i y hy hP hw
      dsimp only at hw
      by_cases hin : i = n
      · subst hin
        (first | exact nos (hn) hy | exact nos hy (hn) | (rw [hn] at hy; cases hy))
        refine (i1_2 (i) ( ?_) ( rfl))
        rw [kfind_append, hf]; simp
      · (refine x1_2 (g.cmp i y hy (fun h => h.elim hP hin) hw) ?_; intro m h1 h2)
        exact (i1_2 (m) ( by rw [kfind_append, h1]; rfl) ( h2))
  | some m =>
    dsimp only
    by_cases hq : findR S.par m = findR S.par n
    · rw [if_pos hq]
      refine ⟨⟨g.len, g.dads, g.nok, g.snd, g.kn, g.kc, g.ks, g.us, g.ul, g.wl, ?_⟩, .refl⟩
      intro i y hy hP hw
      by_cases hin : i = n
      · subst hin
        (first | exact nos (hn) hy | exact nos hy (hn) | (rw [hn] at hy; cases hy))
        exact (i1_2 (m) ( hf) ( hq))
      · exact g.cmp i y hy (fun h => h.elim hP hin) hw
    · rw [if_neg hq]
      have hml := g.kn _ _ (kfind_some hf)
      have hv : ∀ I, Sat I E → V I S.nodes m = V I S.nodes n := fun I hI => by rw [g.ks I hI _ _ (kfind_some hf), hval I hI]
      (refine x0_3 (g.join hml hnl hv) ?_; intro g' le hl)
      refine ⟨⟨g'.len, g'.dads, g'.nok, g'.snd, g'.kn, g'.kc, g'.ks, g'.us, g'.ul, g'.wl, ?_⟩, le⟩
      intro i y hy hP hw
      by_cases hin : i = n
      · subst hin
        (refine x2_1 (join_ne g.dads hml hnl hq) ?_; intro kp gn j)
        rw [j.nodes] at hy
        (first | exact nos (hn) hy | exact nos hy (hn) | (rw [hn] at hy; cases hy))
        have hw2 : i ∉ S.users gn := fun q => hw (by first | exact ((j.waiting).trans (List.mem_append.mpr (.inr q))) | (rw [j.waiting]; exact List.mem_append.mpr (.inr q)))
        refine (i1_2 (m) ( ?_) ( hl))
        rw [j.known, j.par]
        have hs : x.2.map (findR (S.par.set gn kp)) = x.2.map (findR S.par) := List.map_congr_left fun k hk => by
          rw [findR_merge g.dads j.lt j.hkp j.hgn (hkl k hk), if_neg]
          intro q
          exact hw2 (q ▸ g.us i x hn k hk)
        rw [hs]; exact hf
      · exact g'.cmp i y hy (fun h => h.elim hP hin) hw

theorem Good.grow {E : Eqs} {S : HS} {x : Node} (g : Good E S (fun _ => False)) (hx : x ∉ S.nodes) (hop : opC x.1 = true) (h2 : x.2.length ≤ 2) (hk : ∀ k ∈ x.2, k < S.par.length) (hz : S.par.length < 900) :
    Good E (S.grow x) (fun i => False ∨ i = S.par.length) ∧ Le S (S.grow x) ∧ (S.grow x).nodes[S.par.length]? = some x := by
  have fo : ∀ {i}, i < S.par.length → findR (S.par ++ [S.par.length]) i = findR S.par i := fun hi => findR_make g.dads (by exact (Nat.lt_of_lt_of_le hz (Nat.le_of_ble_eq_true rfl))) hi
  have fn : findR (S.par ++ [S.par.length]) S.par.length = S.par.length := findR_made
  have hpre : ∀ (i : Nat) y, S.nodes[i]? = some y → (S.nodes ++ [x])[i]? = some y := fun i y h => by first | exact ((List.getElem?_append_left (get_lt h)).trans h) | (rw [List.getElem?_append_left (get_lt h)]; exact h)
  have hnok : NodesOk (S.nodes ++ [x]) := by
    refine (i0_3 (?_) ( by have := g.len; simp; omega) ( fun i c ks hi => ?_))
    · rw [List.nodup_append]
      exact (i0_3 (g.nok.1) ( by simp) ( fun a ha b hb e => hx (by simp only [List.mem_singleton] at hb; rw [← hb, ← e]; exact ha)))
    · rw [List.getElem?_append] at hi
      split at hi
      · exact g.nok.2.2 i c ks hi
      · rename_i hlt
        (refine x0_2 (last_get hi) ?_; intro hz0 e)
        subst e
        exact (i0_3 (hop) ( h2) ( fun k hk' => Nat.lt_of_lt_of_le (hk k hk') (by have := g.len; exact (Nat.le_trans (Nat.le_of_eq (Eq.symm this)) (Nat.le_of_not_lt hlt)))))
  have hV : ∀ I i, i < S.par.length → V I (S.nodes ++ [x]) i = V I S.nodes i := fun I i hi => V_ext g.nok.kids hnok.kids hpre (by first | exact ((g.len).trans hi) | (rw [g.len]; exact hi))
  refine (i0_3 (⟨?_, g.dads.make (by exact (Nat.lt_of_lt_of_le hz (Nat.le_of_ble_eq_true rfl))), hnok, ?_, ?_, ?_, ?_, ?_, ?_, ?_, ?_⟩) ( ⟨hpre, by show _ ≤ (S.par ++ [S.par.length]).length; simp, ?_⟩) ( ?_))
  · show (S.nodes ++ [x]).length = (S.par ++ [S.par.length]).length
    simp [g.len]
  · intro I hI a b ha hb e
    have ha' : a < S.par.length + 1 := by simpa [HS.grow] using ha
    have hb' : b < S.par.length + 1 := by simpa [HS.grow] using hb
    change findR (S.par ++ [S.par.length]) a = findR (S.par ++ [S.par.length]) b at e
    show V I (S.nodes ++ [x]) a = V I (S.nodes ++ [x]) b
    by_cases qa : a = S.par.length
    · by_cases qb : b = S.par.length
      · rw [qa, qb]
      · rw [qa, fn, fo (by omega)] at e
        have := findR_lt g.dads (show b < S.par.length by omega); omega
    · by_cases qb : b = S.par.length
      · rw [qb, fn, fo (by omega)] at e
        have := findR_lt g.dads (show a < S.par.length by omega); omega
      · rw [fo (by omega), fo (by omega)] at e
        rw [hV I a (by omega), hV I b (by omega)]
        exact g.snd I hI a b (by omega) (by omega) e
  · intro s m h
    have := g.kn s m h
    show m < (S.par ++ [S.par.length]).length
    simp; exact (Nat.lt_of_lt_of_le this (Nat.le_add_right _ _))
  · intro s m h c hc
    have := g.kc s m h c hc
    show c < (S.par ++ [S.par.length]).length
    simp; exact (Nat.lt_of_lt_of_le this (Nat.le_add_right _ _))
  · intro I hI s m h
    show V I (S.nodes ++ [x]) m = I s.1 (s.2.map (V I (S.nodes ++ [x])))
    rw [hV I m (g.kn s m h), g.ks I hI s m h]
    congr 1
    exact List.map_congr_left fun c hc => (hV I c (g.kc s m h c hc)).symm
  · intro i y hy k hk'
    change (S.nodes ++ [x])[i]? = some y at hy
    show i ∈ (S.grow x).users (findR (S.par ++ [S.par.length]) k)
    rw [List.getElem?_append] at hy
    split at hy
    · rename_i hlt
      have hkl : k < S.par.length := by have := g.nok.kids i y hy k hk'; have := g.len; omega
      first | refine Mine.sb (fo hkl) ?_ | rw [fo hkl]
      have hu := g.us i y hy k hk'
      have hne : findR S.par k ≠ S.par.length := by have := findR_lt g.dads hkl; exact (Nat.ne_of_lt this)
      show i ∈ (if _ then _ else _)
      rw [if_neg hne]
      split
      · exact List.mem_append.mpr (.inl hu)
      · exact hu
    · rename_i hlt
      (refine x0_2 (last_get hy) ?_; intro hz0 e)
      subst e
      have hi : i = S.par.length := by
        have := g.len; omega
      subst hi
      show S.par.length ∈ (if _ then _ else _)
      rw [if_pos (List.mem_map.mpr (i1_2 (k) ( hk') ( rfl)))]
      simp
  · intro c hc z hz'
    show z < (S.par ++ [S.par.length]).length
    have hbase : ∀ z ∈ (if c = S.par.length then [] else S.users c), z < S.par.length := by
      intro z hz
      split at hz
      · cases hz
      · rename_i hcn
        refine g.ul c ?_ z hz
        change (S.par ++ [S.par.length])[c]? = some c at hc
        have hl := get_lt hc
        rw [List.getElem?_append_left (by simp at hl; omega)] at hc
        exact hc
    change z ∈ (if _ then _ else _) at hz'
    split at hz'
    · rcases List.mem_append.mp hz' with h | h
      · have := hbase z h; simp; exact (Nat.lt_of_lt_of_le this (Nat.le_add_right _ _))
      · simp only [List.mem_singleton] at h; subst h; simp
    · have := hbase z hz'; simp; exact (Nat.lt_of_lt_of_le this (Nat.le_add_right _ _))
  · intro z hz'
    have := g.wl z hz'
    show z < (S.par ++ [S.par.length]).length
    simp; exact (Nat.lt_of_lt_of_le this (Nat.le_add_right _ _))
  · intro i y hy hP hw
    have hin : i ≠ S.par.length := fun q => hP (.inr q)
    change (S.nodes ++ [x])[i]? = some y at hy
    have hl := get_lt hy
    rw [List.getElem?_append_left (by have := g.len; simp at hl; omega)] at hy
    (refine x1_2 (g.cmp i y hy (fun h => h) hw) ?_; intro m h1 h2)
    have hil : i < S.par.length := by have := get_lt hy; rw [g.len] at this; exact this
    refine (i1_2 (m) ( ?_) ( ?_))
    · have hs : y.2.map (findR (S.par ++ [S.par.length])) = y.2.map (findR S.par) := List.map_congr_left fun k hk' => fo (by have := g.nok.kids i y hy k hk'; exact (Nat.lt_trans this hil))
      show kfind S.known (y.1, y.2.map (findR (S.par ++ [S.par.length]))) = some m
      rw [hs]; exact h1
    · show findR (S.par ++ [S.par.length]) m = findR (S.par ++ [S.par.length]) i
      rw [fo (g.kn _ _ (kfind_some h1)), fo hil]; exact h2
  · intro a b ha hb e
    show findR (S.par ++ [S.par.length]) a = findR (S.par ++ [S.par.length]) b
    rw [fo ha, fo hb]; exact e
  · show (S.nodes ++ [x])[S.par.length]? = some x
    rw [← g.len]; simp

noncomputable def pot (S : HS) : Nat := S.known.length + S.waiting.length + 2001 * wt S.par (fun _ => 1)
structure Fit (S : HS) (slack j : Nat) : Prop where
  w : wt S.par (fun c => (S.users c).length) ≤ 2 * S.par.length
  pot : pot S + slack ≤ 2003 * S.par.length
  ne : S.ne + wt S.par (fun _ => 1) ≤ S.par.length + j
  par : S.par.length ≤ 900
theorem Fit.room {S : HS} {s j : Nat} (h : Fit S s j) (hj : j ≤ 1000) : S.Room := by
  have h1 := h.w; have h2 := h.pot; have h3 := h.ne; have h4 := h.par
  unfold Mine.pot at h2
  refine ⟨by omega, fun c hc => ?_, by omega, by omega⟩
  have := root_le_wt (f := fun c => (S.users c).length) hc
  try dsimp only at this
  omega
theorem Fit.join {S : HS} {s j a b : Nat} (h : Fit S s j) (hd : DadsOk S.par) (ha : a < S.par.length) (hb : b < S.par.length) :
    if findR S.par a = findR S.par b then Fit (S.join a b) s (j + 1) ∧ (S.join a b).waiting = S.waiting ∧ (S.join a b).par = S.par else Fit (S.join a b) s j ∧ (S.join a b).waiting.length + 2001 * wt (S.join a b).par (fun _ => 1) + 1 ≤ S.waiting.length + 2001 * wt S.par (fun _ => 1) := by
  split
  · rename_i q
    first | refine Mine.sb (join_eq q) ?_ | rw [join_eq q]
    refine (i0_3 (⟨h.w, h.pot, ?_, h.par⟩) ( rfl) ( rfl))
    have := h.ne
    show S.ne + 1 + wt S.par (fun _ => 1) ≤ S.par.length + (j + 1)
    omega
  · rename_i q
    (refine x2_1 (join_ne hd ha hb q) ?_; intro kp gn x)
    have hkg : kp ≠ gn := by have := x.lt; exact (Nat.ne_of_lt this)
    have w1 := wt_merge (f := fun _ => 1) (f' := fun _ => 1) x.hkp x.hgn hkg fun _ _ _ => rfl
    have w2 := wt_merge (f := fun c => (S.users c).length) (f' := fun c => ((S.join a b).users c).length) x.hkp x.hgn hkg fun i hi _ => by
      rw [x.users]; dsimp only; rw [if_neg hi]
    have w3 : ((S.join a b).users kp).length = (S.users kp).length + (S.users gn).length := by rw [x.users]; dsimp only; rw [if_pos rfl, List.length_append]
    try dsimp only at w1 w2
    rw [w3] at w2
    have w4 := root_le_wt (f := fun c => (S.users c).length) x.hgn
    try dsimp only at w4
    have h1 := h.w; have h2 := h.pot; have h3 := h.ne; have h4 := h.par
    unfold Mine.pot at h2
    have hwl : (S.join a b).waiting.length = S.waiting.length + (S.users gn).length := by rw [x.waiting, List.length_append]
    have hpl : (S.join a b).par.length = S.par.length := by rw [x.par, List.length_set]
    refine ⟨⟨?_, ?_, ?_, ?_⟩, ?_⟩
    · rw [hpl, x.par]; omega
    · unfold Mine.pot; rw [hpl, x.known, hwl, x.par]; omega
    · rw [hpl, x.ne, x.par]; omega
    · rw [hpl]; exact h4
    · rw [hwl, x.par]; omega
theorem Fit.look {S : HS} {s j n : Nat} {x : Node} (h : Fit S (s + 1) j) (hd : DadsOk S.par) (hn : n < S.par.length) (hk : ∀ s m, (s, m) ∈ S.known → m < S.par.length) :
    Fit (S.look n x) s j ∧ (S.look n x).waiting.length + 2001 * wt (S.look n x).par (fun _ => 1) ≤ S.waiting.length + 2001 * wt S.par (fun _ => 1) ∧ (S.look n x).par.length = S.par.length := by
  unfold HS.look
  have hp := h.pot
  cases hf : kfind S.known (x.1, x.2.map (findR S.par)) with
  | none =>
    refine (i0_3 (⟨h.w, ?_, h.ne, h.par⟩) ( Nat.le_refl _) ( rfl))
    unfold Mine.pot at hp ⊢
    simp; omega
  | some m =>
    dsimp only
    by_cases q : findR S.par m = findR S.par n
    · rw [if_pos q]; exact (i0_3 (⟨h.w, by omega, h.ne, h.par⟩) ( Nat.le_refl _) ( rfl))
    · rw [if_neg q]
      have hm := hk _ _ (kfind_some hf)
      have z := h.join hd hm hn
      rw [if_neg q] at z
      (refine x2_1 (join_ne hd hm hn q) ?_; intro kp gn y)
      exact (i0_3 (⟨z.1.w, by have := z.1.pot; omega, z.1.ne, z.1.par⟩) ( by exact (Nat.le_of_lt z.2)) ( by rw [y.par, List.length_set]))
theorem sumTo_add (f g : Nat → Nat) : ∀ n, sumTo (fun i => f i + g i) n = sumTo f n + sumTo g n
  | 0 => rfl
  | n + 1 => by rw [sumTo_succ, sumTo_succ, sumTo_succ, sumTo_add f g n]; omega
theorem sumTo_ind (a : Nat) : ∀ n, sumTo (fun i => if i = a then 1 else 0) n ≤ 1 ∧ (n ≤ a → sumTo (fun i => if i = a then 1 else 0) n = 0)
  | 0 => ⟨by simp [sumTo], fun _ => rfl⟩
  | n + 1 => by
    have := sumTo_ind a n
    first | refine Mine.sb (sumTo_succ) ?_ | rw [sumTo_succ]
    by_cases e : n = a
    · rw [if_pos e, this.2 (by exact (Nat.le_of_eq e))]; exact ⟨by exact (Nat.le_refl _), fun h => by omega⟩
    · rw [if_neg e]; exact ⟨by omega, fun h => by rw [this.2 (by exact (Nat.le_of_lt h))]⟩
theorem sumTo_mem : ∀ (L : List Nat) (n : Nat), sumTo (fun i => if i ∈ L then 1 else 0) n ≤ L.length
  | [], n => by
    have : sumTo (fun i => if i ∈ ([] : List Nat) then 1 else 0) n = sumTo (fun _ => 0) n := sumTo_same fun i _ => by simp
    rw [this, sumTo_const]; simp
  | a :: L, n => by
    have h1 := (sumTo_ind a n).1
    have h2 := sumTo_mem L n
    have h3 : sumTo (fun i => if i ∈ a :: L then 1 else 0) n ≤ sumTo (fun i => (if i = a then 1 else 0) + if i ∈ L then 1 else 0) n := sumTo_le fun i _ => by
      by_cases q : i = a
      · simp [q]
      · by_cases q2 : i ∈ L <;> simp [q, q2]
    have h4 := sumTo_add (fun i => if i = a then 1 else 0) (fun i => if i ∈ L then 1 else 0) n
    simp only [List.length_cons]
    omega
theorem wt_add {par : List Nat} {f : Nat → Nat} {L : List Nat} : wt par (fun c => f c + if c ∈ L then 1 else 0) ≤ wt par f + L.length := by
  unfold wt
  have h1 := sumTo_mem L par.length
  have h2 : sumTo (fun i => if par[i]? = some i then f i + (if i ∈ L then 1 else 0) else 0) par.length ≤ sumTo (fun i => (if par[i]? = some i then f i else 0) + if i ∈ L then 1 else 0) par.length := sumTo_le fun i _ => by
    split
    · exact Nat.le_refl _
    · exact (Nat.zero_le _)
  have h3 := sumTo_add (fun i => if par[i]? = some i then f i else 0) (fun i => if i ∈ L then 1 else 0) par.length
  exact Nat.le_trans h2 (by first | exact ((h3).trans ((Nat.add_le_add (Nat.le_refl _) h1))) | (rw [h3]; exact (Nat.add_le_add (Nat.le_refl _) h1)))
theorem Fit.grow {S : HS} {j : Nat} {x : Node} (h : Fit S 0 j) (h2 : x.2.length ≤ 2) (hd : DadsOk S.par) (hk : ∀ k ∈ x.2, k < S.par.length) (hz : S.par.length < 900) : Fit (S.grow x) 1 j := by
  have hpl : (S.grow x).par.length = S.par.length + 1 := by show (S.par ++ [S.par.length]).length = _; simp
  have w1 := wt_new (par := S.par) (f := fun _ => 1) (f' := fun _ => 1) fun _ _ => rfl
  have h1 := h.w; have hp := h.pot; have h3 := h.ne
  unfold Mine.pot at hp
  try dsimp only at w1
  refine ⟨?_, ?_, ?_, by first | exact ((hpl).trans hz) | (rw [hpl]; exact hz)⟩
  · first | refine Mine.sb (hpl) ?_ | rw [hpl]
    have fo : ∀ {i}, i < S.par.length → findR (S.par ++ [S.par.length]) i = findR S.par i := fun hi => findR_make hd (by exact (Nat.lt_of_lt_of_le hz (Nat.le_of_ble_eq_true rfl))) hi
    have hle : wt (S.par ++ [S.par.length]) (fun c => ((S.grow x).users c).length) ≤ wt (S.par ++ [S.par.length]) (fun c => (if c = S.par.length then 0 else (S.users c).length) + if c ∈ x.2.map (findR (S.par ++ [S.par.length])) then 1 else 0) := by
      refine sumTo_le fun i _ => ?_
      split
      · have eu : (S.grow x).users i = if i ∈ x.2.map (findR (S.par ++ [S.par.length])) then (if i = S.par.length then [] else S.users i) ++ [S.par.length] else if i = S.par.length then [] else S.users i := rfl
        dsimp only
        first | refine Mine.sb (eu) ?_ | rw [eu]
        by_cases q1 : i ∈ x.2.map (findR (S.par ++ [S.par.length]))
        · rw [if_pos q1, if_pos q1]
          by_cases q2 : i = S.par.length
          · rw [if_pos q2, if_pos q2]; simp
          · rw [if_neg q2, if_neg q2]; simp
        · rw [if_neg q1, if_neg q1]
          by_cases q2 : i = S.par.length
          · rw [if_pos q2, if_pos q2]; simp
          · rw [if_neg q2, if_neg q2]; simp
      · exact Nat.le_refl _
    have hsp : wt (S.par ++ [S.par.length]) (fun c => (if c = S.par.length then 0 else (S.users c).length) + if c ∈ x.2.map (findR (S.par ++ [S.par.length])) then 1 else 0) ≤ wt (S.par ++ [S.par.length]) (fun c => if c = S.par.length then 0 else (S.users c).length) + x.2.length := by
      have := wt_add (par := S.par ++ [S.par.length]) (f := fun c => if c = S.par.length then 0 else (S.users c).length) (L := x.2.map (findR (S.par ++ [S.par.length])))
      simpa using this
    have hn := wt_new (par := S.par) (f := fun c => (S.users c).length) (f' := fun c => if c = S.par.length then 0 else (S.users c).length) fun i hi => by rw [if_neg (by exact (Nat.ne_of_lt hi))]
    rw [if_pos rfl] at hn
    show wt (S.par ++ [S.par.length]) (fun c => ((S.grow x).users c).length) ≤ _
    omega
  · unfold Mine.pot
    first | refine Mine.sb (hpl) ?_ | rw [hpl]
    show S.known.length + S.waiting.length + 2001 * wt (S.par ++ [S.par.length]) _ + 1 ≤ _
    rw [w1]; omega
  · first | refine Mine.sb (hpl) ?_ | rw [hpl]
    show S.ne + wt (S.par ++ [S.par.length]) _ ≤ _
    rw [w1]; omega
end
section
--FILE PB
open PySem PySem.W PyProof.Rows

noncomputable def Tm.op : Tm → Nat
  | .lf c => c
  | .un c _ => c
  | .bi c _ _ => c
noncomputable def Tm.kids : Tm → List Tm
  | .lf _ => []
  | .un _ x => [x]
  | .bi _ x y => [x, y]
noncomputable def Tm.ok : Tm → Bool
  | .lf c => opC c
  | .un c x => opC c && x.ok
  | .bi c x y => opC c && x.ok && y.ok
noncomputable def Tm.size : Tm → Nat
  | .lf _ => 1
  | .un _ x => x.size + 1
  | .bi _ x y => x.size + y.size + 1
noncomputable def Tm.hgt : Tm → Nat
  | .lf _ => 0
  | .un _ x => x.hgt + 1
  | .bi _ x y => max x.hgt y.hgt + 1
theorem Tm.ok_op {t : Tm} (h : t.ok = true) : opC t.op = true := by
  cases t <;> simp [Tm.ok, Tm.op] at * <;> first | exact h | exact h.1 | exact h.1.1
theorem Tm.ok_kid {t k : Tm} (h : t.ok = true) (hk : k ∈ t.kids) : k.ok = true := by
  cases t with
  | lf c => cases hk
  | un c x => simp [Tm.ok, Tm.kids] at *; rw [hk]; exact h.2
  | bi c x y => simp [Tm.ok, Tm.kids] at *; rcases hk with rfl | rfl; exact h.1.2; exact h.2
theorem Tm.kid_hgt {t k : Tm} (hk : k ∈ t.kids) : k.hgt < t.hgt := by
  cases t with
  | lf c => cases hk
  | un c x => simp [Tm.hgt, Tm.kids] at *; rw [hk]; exact (Nat.lt_succ_self _)
  | bi c x y => simp [Tm.hgt, Tm.kids] at *; rcases hk with rfl | rfl <;> omega
theorem Tm.kids_len (t : Tm) : t.kids.length ≤ 2 := by cases t <;> simp [Tm.kids]
noncomputable def sizes : List Tm → Nat
  | [] => 0
  | t :: r => t.size + sizes r
theorem Tm.size_kids (t : Tm) : t.size = sizes t.kids + 1 := by cases t <;> simp [Tm.size, Tm.kids, sizes] <;> omega
theorem Is.of_kids {nodes : List Node} {t : Tm} {n : Nat} {ks : List Nat} (h : nodes[n]? = some (t.op, ks)) (hl : ks.length = t.kids.length) (hk : ∀ (j : Nat) k m, t.kids[j]? = some k → ks[j]? = some m → Is nodes k m) : Is nodes t n := by
  cases t with
  | lf c =>
    have : ks = [] := by simpa [Tm.kids] using hl
    subst this; exact h
  | un c x =>
    match ks, hl with
    | [k], _ => exact (i1_2 (k) ( h) ( hk 0 x k rfl rfl))
  | bi c x y =>
    match ks, hl with
    | [k, l], _ => exact (i2_3 (k) ( l) ( h) ( hk 0 x k rfl rfl) ( hk 1 y l rfl rfl))

noncomputable def TmT (σ : Led) : Tm → Value → Prop
  | .lf c, v => ∃ a n t, v = .ref a ∧ σ a = some (tupOf [.str (opS c) t] n)
  | .un c x, v => ∃ a n t u, v = .ref a ∧ σ a = some (tupOf [.str (opS c) t, u] n) ∧ TmT σ x u
  | .bi c x y, v => ∃ a n t u w, v = .ref a ∧ σ a = some (tupOf [.str (opS c) t, u, w] n) ∧ TmT σ x u ∧ TmT σ y w
theorem TmT.tup {σ σ' : Led} (g : Tup σ σ') : ∀ {t : Tm} {v : Value}, TmT σ t v → TmT σ' t v := by
  intro t
  induction t with
  | lf c => intro v h; exact x3_2 h fun a n t e h => (i3_2 (a) ( n) ( t) ( e) ( g _ _ h rfl))
  | un c x ih => intro v h; exact x4_3 h fun a n t u e h hx => (i4_3 (a) ( n) ( t) ( u) ( e) ( g _ _ h rfl) ( ih hx))
  | bi c x y ihx ihy => intro v h; exact x5_4 h fun a n t u w e h hx hy => (i5_4 (a) ( n) ( t) ( u) ( w) ( e) ( g _ _ h rfl) ( ihx hx) ( ihy hy))
theorem TmT.open {σ : Led} {t : Tm} {v : Value} (h : TmT σ t v) : ∃ a n tk us, v = .ref a ∧ σ a = some (tupOf (.str (opS t.op) tk :: us) n) ∧ us.length = t.kids.length ∧ ∀ (j : Nat) k u, t.kids[j]? = some k → us[j]? = some u → TmT σ k u := by
  cases t with
  | lf c => (refine x3_2 h ?_; clear h; intro a n t e h); exact ⟨a, n, t, [], e, h, rfl, fun j k u h => by simp [Tm.kids] at h⟩
  | un c x =>
    (refine x4_3 h ?_; clear h; intro a n t u e h hx)
    refine (i4_4 (a) ( n) ( t) ( [u]) ( e) ( h) ( rfl) ( fun j k u' h1 h2 => ?_))
    (refine x0_2 (last_get h1) ?_; intro er1 er2; obtain rfl := er1; obtain rfl := er2)
    simp at h2; subst h2; exact hx
  | bi c x y =>
    (refine x5_4 h ?_; clear h; intro a n t u w e h hx hy)
    refine (i4_4 (a) ( n) ( t) ( [u, w]) ( e) ( h) ( rfl) ( fun j k u' h1 h2 => ?_))
    match j with
    | 0 => simp [Tm.kids] at h1 h2; subst h1 h2; exact hx
    | 1 => simp [Tm.kids] at h1 h2; subst h1 h2; exact hy
    | j + 2 => simp [Tm.kids] at h1

structure Inv (E : Eqs) (S : HS) (j : Nat) : Prop where
  good : Good E S (fun _ => False)
  fit : Fit S 0 j

theorem Inv.add {E : Eqs} {S S' : HS} {j n : Nat} {x : Node} (h : Inv E S j) (ha : S.Add x S' n) (hop : opC x.1 = true) (h2 : x.2.length ≤ 2) (hk : ∀ k ∈ x.2, k < S.par.length) (hz : S.par.length < 800) :
    Inv E S' j ∧ Le S S' ∧ S'.nodes[n]? = some x ∧ S'.par.length ≤ S.par.length + 1 := by
  rcases ha with ⟨rfl, hn⟩ | ⟨hx, rfl, rfl⟩
  · exact (i0_4 (h) ( .refl) ( hn) ( by exact (Nat.le_add_right _ _)))
  · (refine x0_3 (h.good.grow hx hop h2 hk (by exact (Nat.lt_of_lt_of_le hz (Nat.le_of_ble_eq_true rfl)))) ?_; intro g le hn)
    (refine x0_2 (g.look hn) ?_; intro g2 le2)
    have hpl : (S.grow x).par.length = S.par.length + 1 := by show (S.par ++ [S.par.length]).length = _; simp
    have f := h.fit.grow h2 h.good.dads hk (by exact (Nat.lt_of_lt_of_le hz (Nat.le_of_ble_eq_true rfl)))
    (refine x0_3 (f.look (n := S.par.length) (x := x) g.dads (by omega) g.kn) ?_; intro f2 _ hl)
    exact (i0_4 (⟨g2, f2⟩) ( le.trans le2) ( le2.nodes _ _ hn) ( by first | exact ((hl).trans ((hpl).trans (Nat.le_refl _))) | (rw [hl, hpl]; exact Nat.le_refl _)))
theorem Inv.merge {E : Eqs} {S : HS} {j a b : Nat} (h : Inv E S j) (ha : a < S.par.length) (hb : b < S.par.length) (hv : ∀ I, Sat I E → V I S.nodes a = V I S.nodes b) :
    Inv E (S.join a b) (j + 1) ∧ Le S (S.join a b) ∧ findR (S.join a b).par a = findR (S.join a b).par b ∧ (S.join a b).par.length = S.par.length := by
  (refine x0_3 (h.good.join ha hb hv) ?_; intro g le hl)
  have f := h.fit.join h.good.dads ha hb
  refine (i0_4 (⟨g, ?_⟩) ( le) ( hl) ( ?_))
  · split at f
    · exact f.1
    · exact ⟨f.1.w, f.1.pot, by have := f.1.ne; omega, f.1.par⟩
  · by_cases q : findR S.par a = findR S.par b
    · rw [join_eq q]
    · (refine x2_1 (join_ne h.good.dads ha hb q) ?_; intro kp gn x)
      rw [x.par, List.length_set]
theorem Inv.turn {E : Eqs} {S : HS} {j n : Nat} {x : Node} {ws : List Nat} (h : Inv E S j) (hw : S.waiting = ws ++ [n]) (hn : S.nodes[n]? = some x) :
    Inv E ({ S with waiting := ws }.look n x) j ∧ Le S ({ S with waiting := ws }.look n x) ∧ ({ S with waiting := ws }.look n x).waiting.length + 2001 * wt ({ S with waiting := ws }.look n x).par (fun _ => 1) < S.waiting.length + 2001 * wt S.par (fun _ => 1) := by
  have g0 : Good E { S with waiting := ws } (fun i => False ∨ i = n) := by
    refine ⟨h.good.len, h.good.dads, h.good.nok, h.good.snd, h.good.kn, h.good.kc, h.good.ks, h.good.us, h.good.ul, fun x hx => h.good.wl x (by first | exact ((hw).trans (List.mem_append.mpr (.inl hx))) | (rw [hw]; exact List.mem_append.mpr (.inl hx))), fun i y hy hP hi => ?_⟩
    refine h.good.cmp i y hy (fun h => h) fun q => ?_
    rw [hw] at q
    rcases List.mem_append.mp q with q | q
    · exact hi q
    · exact hP (.inr (by simpa using q))
  (refine x0_2 (g0.look hn) ?_; intro g le)
  have hnl : n < S.par.length := by have := get_lt hn; rw [h.good.len] at this; exact this
  have hl : S.waiting.length = ws.length + 1 := by rw [hw]; simp
  have f0 : Fit { S with waiting := ws } 1 j := by
    have := h.fit.pot
    refine ⟨h.fit.w, ?_, h.fit.ne, h.fit.par⟩
    unfold pot at this ⊢
    show S.known.length + ws.length + 2001 * wt S.par _ + 1 ≤ 2003 * S.par.length
    omega
  (refine x0_3 (f0.look (n := n) (x := x) h.good.dads hnl h.good.kn) ?_; intro f hm _)
  refine (i0_3 (⟨g, f⟩) ( ⟨le.nodes, le.len, le.like⟩) ( ?_))
  change _ ≤ ws.length + 2001 * wt S.par (fun _ => 1) at hm
  omega

noncomputable def modelOf (known : List (Node × Nat)) (par : List Nat) : Alg := fun c cs =>
  if cs.all (fun k => decide (1 ≤ k)) then match kfind known (c, cs.map (· - 1)) with
    | some m => findR par m + 1
    | none => 0
  else 0
theorem model_node {E : Eqs} {S : HS} (g : Good E S (fun _ => False)) (hw : S.waiting = []) : ∀ {i : Nat}, i < S.par.length → V (modelOf S.known S.par) S.nodes i = findR S.par i + 1 := by
  intro i
  induction i using Nat.strongRecOn with
  | ind i ih =>
    intro hi
    have hil : i < S.nodes.length := by first | exact ((g.len).trans hi) | (rw [g.len]; exact hi)
    have hn : S.nodes[i]? = some S.nodes[i] := by simp [hil]
    first | refine Mine.sb (V_node g.nok.kids hn) ?_ | rw [V_node g.nok.kids hn]
    have hks : S.nodes[i].2.map (V (modelOf S.known S.par) S.nodes) = S.nodes[i].2.map (fun k => findR S.par k + 1) := List.map_congr_left fun k hk => by
      have := g.nok.kids i _ hn k hk
      exact ih k this (by exact (Nat.lt_trans this hi))
    first | refine Mine.sb (hks) ?_ | rw [hks]
    (refine x1_2 (g.cmp i _ hn (fun h => h) (by rw [hw]; simp)) ?_; intro m h1 h2)
    unfold modelOf
    rw [if_pos (by simp)]
    have : (S.nodes[i].2.map (fun k => findR S.par k + 1)).map (· - 1) = S.nodes[i].2.map (findR S.par) := by
      rw [List.map_map]
      exact List.map_congr_left fun k _ => by simp
    rw [this, h1]
    dsimp only
    rw [h2]
theorem settled {E : Eqs} {S : HS} (g : Good E S (fun _ => False)) (hw : S.waiting = []) (hE : ∀ p ∈ E, ∃ a b, Is S.nodes p.1 a ∧ Is S.nodes p.2 b ∧ findR S.par a = findR S.par b)
    {t u : Tm} {a b : Nat} (ha : Is S.nodes t a) (hb : Is S.nodes u b) : findR S.par a = findR S.par b ↔ Ent E t u := by
  have hal : a < S.par.length := by have := ha.lt; rw [g.len] at this; exact this
  have hbl : b < S.par.length := by have := hb.lt; rw [g.len] at this; exact this
  constructor
  · intro h I hI
    rw [← ha.ev g.nok.kids, ← hb.ev g.nok.kids]
    exact g.snd I hI a b hal hbl h
  · intro h
    have hs : Sat (modelOf S.known S.par) E := fun p hp => by
      (refine x2_3 (hE p hp) ?_; intro x y hx hy e)
      rw [← hx.ev g.nok.kids, ← hy.ev g.nok.kids, model_node g hw (by have := hx.lt; rw [g.len] at this; exact this), model_node g hw (by have := hy.lt; rw [g.len] at this; exact this), e]
    have := h _ hs
    rw [← ha.ev g.nok.kids, ← hb.ev g.nok.kids, model_node g hw hal, model_node g hw hbl] at this
    omega
end
section
--FILE FL
theorem sizes_take {l : List Tm} {i : Nat} {t : Tm} (h : l[i]? = some t) : sizes (l.take (i + 1)) = sizes (l.take i) + t.size := by
  have : ∀ (l : List Tm) (i : Nat), l[i]? = some t → sizes (l.take (i + 1)) = sizes (l.take i) + t.size := by
    intro l
    induction l with
    | nil => intro i h; cases h
    | cons x r ih =>
      intro i h
      cases i with
      | zero => simp at h; subst h; simp [sizes]
      | succ i => simp only [List.take_succ_cons, sizes]; rw [ih i (by simpa using h)]; omega
  exact this l i h
theorem sizes_take_le (l : List Tm) (i : Nat) : sizes (l.take i) ≤ sizes l := by
  induction l generalizing i with
  | nil => simp
  | cons x r ih => cases i with
    | zero => simp [sizes]
    | succ i => simp only [List.take_succ_cons, sizes]; have := ih i; exact (Nat.add_le_add (Nat.le_refl _) this)
theorem size_pos (t : Tm) : 0 < t.size := by cases t <;> simp [Tm.size]

theorem spec_put {w : World} {H : HY} {E : Eqs} {j : Nat} : ∀ (t : Tm), t.ok = true → ∀ {σ : Led} {ro : Roles} {S : HS} {v : Value}, HpL w σ ro H S → Inv E S j → j ≤ 1000 → S.par.length + t.size ≤ 800 → TmT σ t v →
    Spec w 308 [.ref H.hp, v] (7 + t.hgt) σ (fun r σ' => ∃ S' n tk ro', r = .int (n : Nat) tk ∧ HpL w σ' ro' H S' ∧ Ext ro σ ro' σ' ∧ Inv E S' j ∧ Le S S' ∧ Is S'.nodes t n ∧ n < S'.par.length ∧ S'.par.length ≤ S.par.length + t.size) := by
  intro t
  induction hh : t.hgt using Nat.strongRecOn generalizing t with
  | ind hg ih =>
  intro hok σ ro S v h hinv hj hz htm
  subst hh
  (refine x4_4 htm.open ?_; intro ta tn tk us er1 hta hul hus; obtain rfl := er1)
  have key : Spec w 308 [.ref H.hp, .ref ta] ((6 + t.hgt) + 1) σ (fun r σ' => ∃ S' n tk ro', r = .int (n : Nat) tk ∧ HpL w σ' ro' H S' ∧ Ext ro σ ro' σ' ∧ Inv E S' j ∧ Le S S' ∧ Is S'.nodes t n ∧ n < S'.par.length ∧ S'.par.length ≤ S.par.length + t.size) := by
    refine' spec_defC (binds := [(Str.ofString "self", .ref H.hp), (Str.ofString "term", .ref ta)]) ?ho ?hcd ?hb ?hl ?hc ?h1 ?h2 ?h3 ?h
    case ho => k_is
    case hcd => k_is
    case hb => exact rfl
    case hl => exact rfl
    case hc => decide
    case h1 => exact rfl
    case h2 => exact rfl
    case h3 => exact rfl
    intro X cells hw O hE hlo hcells
    subst hw
    (refine x1_2 ((show CellsAre _ [(Str.ofString "self", X.env.locals + 1)] cells from hcells).one) ?_; intro oc er1 hoc; obtain rfl := er1)
    replace hoc : oc.data = .cell (some (.ref H.hp)) := hoc
    have hcn : σ (X.env.locals + 1) = none := by
      cases q : σ (X.env.locals + 1) with
      | none => rfl
      | some o => exact absurd (hlo _ o q) (Nat.not_lt.mpr (Nat.le_succ _))
    have s0 : Sub σ (σ.set (X.env.locals + 1) oc) := .new hcn
    have hcell : (σ.set (X.env.locals + 1) oc) (X.env.locals + 1) = some oc := Led.set_self
    show J X _ _ (σ.set (X.env.locals + 1) oc) _
    have x0 : Ext ro σ ro (σ.set (X.env.locals + 1) oc) := s0.ext
    have hus0 : ∀ (j : Nat) k u, t.kids[j]? = some k → us[j]? = some u → TmT (σ.set (X.env.locals + 1) oc) k u := fun j k u h1 h2 => (hus j k u h1 h2).tup s0.tup
    (generalize σ.set (X.env.locals + 1) oc = σ0 at *; revert σ0; refine bar ?_; set_option tactic.hygienic false in intros)
    have hrc : ro (X.env.locals + 1) = none := h.ro.fresh hcn
    replace h := h.sub s0
    replace hta := s0 _ _ hta
    clear s0 hus htm
    have hi0 := h.r.ins
    have hkl := t.kids_len
    repeat k_upd
    intro t1
    refine j_at_tup 0 (by rfl) hta (by rfl) (by decide) ?_ (by rfl)
    repeat k_upd
    ((refine' j_ListComp ?aq5 ?bq5 ?cq5 ?dq5 ?eq5 ?fq5 ?_); (case aq5 => assumption); (case bq5 => k_mem); (case cq5 => decide); (case dq5 => exact rfl); (case eq5 => decide); (case fq5 => k_mem))
    repeat k_upd
    intro t2 sa hsa
    refine j_from_tup 1 (by rfl) (Sub.new hsa _ _ hta) Led.set_self (by decide) (by simp) (by simp; exact (Nat.le_trans (Nat.le_trans (Nat.le_of_eq hul) hkl) (Nat.le_of_ble_eq_true rfl))) ?_ (by rfl)
    intro c1 hc1
    have s1 : Sub σ0 ((σ0.set sa (sliceObj (.int 1 t2) .none)).set c1 (tupOf ((Value.str (opS t.op) tk :: us).drop 1) 0)) := (Sub.new hsa).trans (.new hc1)
    have hc2 : ((σ0.set sa (sliceObj (.int 1 t2) .none)).set c1 (tupOf ((Value.str (opS t.op) tk :: us).drop 1) 0)) c1 = some (tupOf us 0) := Led.set_self
    have hus1 : ∀ (j : Nat) k u, t.kids[j]? = some k → us[j]? = some u → TmT ((σ0.set sa (sliceObj (.int 1 t2) .none)).set c1 (tupOf ((Value.str (opS t.op) tk :: us).drop 1) 0)) k u := fun j k u h1 h2 => (hus0 j k u h1 h2).tup s1.tup
    (generalize (σ0.set sa (sliceObj (.int 1 t2) .none)).set c1 (tupOf ((Value.str (opS t.op) tk :: us).drop 1) 0) = σ1 at *; revert σ1; refine bar ?_; set_option tactic.hygienic false in intros)
    have g0 := h.ro
    replace h := h.sub s1
    replace hcell := s1 _ _ hcell
    have x1 : Ext ro σ ro _ := x0.trans g0 s1.ext
    clear hus0 hi0 hta s1
    let Iv1 : Nat → List Value → Loc → Led → Prop := fun i ys _ σ' => i ≤ us.length ∧ ys.length = i ∧ ∃ Si roi ns, HpL X.w σ' roi H Si ∧ Ext ro σ1 roi σ' ∧ Inv E Si j ∧ Le S Si ∧ Nats ys ns ∧ ns.length = i ∧ (∀ (q : Nat) k m, t.kids[q]? = some k → ns[q]? = some m → Is Si.nodes k m) ∧ (∀ m ∈ ns, m < Si.par.length) ∧ Si.par.length ≤ S.par.length + sizes (t.kids.take i)
    refine ⟨.tup c1 us.toArray, rfl, ⟨_, hc2, rfl, _, rfl⟩, Iv1,
      ⟨Nat.zero_le _, rfl, S, ro, [], h, .refl, hinv, .refl, .nil, rfl, fun q k m _ h => by simp at h, fun m hm => by simp at hm, by simp [sizes]⟩, fun i ys _ _ h => by omega, ?_, ?_⟩
    · (intro X' i v ys mc σ2 O' hw' hE' hi2 hv zt1 _; obtain ⟨hil, hyl, Si, roi, ns, hSi, xi, hIi, lei, hni, hnl, hIs, hml, hpl⟩ := zt1)
      have hvi : us[i]? = some v := by simpa [Src.item] using hv
      have hlt := get_lt hvi
      have hki : t.kids[i]? = some t.kids[i] := by simp
      have hkm : t.kids[i] ∈ t.kids := List.getElem_mem _
      (rw [hE] at hE'; replace hE' := hE')
      have hcell2 := xi.1 _ _ hcell hrc
      have hi2' := hSi.r.ins
      have htu : TmT σ2 t.kids[i] v := (hus1 i _ v hki hvi).tup (xi.tup h.ro)
      have hst := sizes_take hki
      have hsl := sizes_take_le t.kids (i + 1)
      have hsz := t.size_kids
      have hrc1 : ro c1 = none := h.ro.tupNo hc2
      repeat k_upd
      refine ((ih t.kids[i].hgt (Tm.kid_hgt hkm) t.kids[i] rfl (Tm.ok_kid hok hkm) hSi hIi hj (by omega) htu).j hw' O' (by have := Tm.kid_hgt hkm; omega)).mono1 ?_
      (intro r σ3 zt1; (refine x4_8 zt1 ?_; clear zt1; intro S3 n3 tk3 ro3 er1 h3 x3 hI3 le3 hIs3 hn3 hp3; obtain rfl := er1))
      refine ⟨⟨by exact hlt, by simp [hyl], S3, ro3, ns ++ [n3], h3, xi.trans hSi.ro x3, hI3, lei.trans le3, hni.append (.cons _ _ .nil), by simp [hnl], ?_, ?_, by omega⟩, ?_⟩
      · intro q k m hk hm
        rw [List.getElem?_append] at hm
        split at hm
        · exact (hIs q k m hk hm).ext le3.nodes
        · (refine x0_2 (last_get hm) ?_; intro h0 er1; obtain rfl := er1)
          have : q = i := by have := get_lt hk; omega
          subst this
          (first | exact nos (hki) hk | exact nos hk (hki) | (rw [hki] at hk; cases hk))
          exact hIs3
      · intro m hm
        rcases List.mem_append.mp hm with hm | hm
        · exact Nat.lt_of_lt_of_le (hml m hm) le3.len
        · simp only [List.mem_singleton] at hm; rw [hm]; exact hn3
      · exact ⟨_, (xi.trans hSi.ro x3).1 _ _ hc2 hrc1, rfl, _, rfl⟩
    · (intro ys mc σ2 D k zt1 _ hD; obtain ⟨hil, hyl, Si, roi, ns, hSi, xi, hIi, lei, hni, hnl, hIs, hml, hpl⟩ := zt1)
      have hus' : (Src.tup c1 us.toArray).size = us.length := by simp [Src.size]
      rw [hus'] at hnl hyl hpl
      have s3 : Sub σ2 (σ2.set D (lstOf ys k)) := .new hD
      refine j_tuple_list Led.set_self (by exact (Nat.le_trans (Nat.le_trans (Nat.le_trans (Nat.le_of_eq hyl) (Nat.le_of_eq hul)) hkl) (Nat.le_of_ble_eq_true rfl))) fun ka hka => ?_
      have s4 := s3.trans (Sub.new (o := tupOf ys 0) hka)
      have h4 := hSi.sub s4
      have x4 := xi.trans hSi.ro s4.ext
      have hsz := t.size_kids
      have hsl := sizes_take_le t.kids us.length
      have fg := (hIi.fit.grow (x := (t.op, ns)) (by show ns.length ≤ 2; exact (Nat.le_trans (Nat.le_trans (Nat.le_of_eq hnl) (Nat.le_of_eq hul)) hkl)) hIi.good.dads hml (by omega)).room hj
      refine ((spec_add (d := t.hgt) h4 hIi.good.len (by omega) fg hIi.good.kn (Tm.ok_op hok) Led.set_self hni (by exact (Nat.le_trans (Nat.le_trans (Nat.le_of_eq hnl) (Nat.le_of_eq hul)) hkl)) hml).j rfl O (by omega)).mono1 ?_
      (intro r σ3 zt1; (refine x4_4 zt1 ?_; clear zt1; intro S3 n3 t3 ro3 er1 hadd h5 x5; obtain rfl := er1))
      (refine x0_4 (hIi.add hadd (Tm.ok_op hok) (by show ns.length ≤ 2; exact (Nat.le_trans (Nat.le_trans (Nat.le_of_eq hnl) (Nat.le_of_eq hul)) hkl)) hml (by omega)) ?_; intro hI3 le3 hn3 hp3)
      refine ⟨S3, n3, t3, ro3, rfl, h5, x1.trans h.ro (x4.trans h4.ro x5), hI3, lei.trans le3, ?_, ?_, by omega⟩
      · exact Is.of_kids hn3 (by exact (Eq.trans hnl hul)) fun q k m hk hm => (hIs q k m hk hm).ext le3.nodes
      · have := get_lt hn3; rw [hI3.good.len] at this; exact this
  rwa [show 6 + t.hgt + 1 = 7 + t.hgt by omega] at key
end
section
--FILE FM
theorem HpL.popped {w : World} {σ : Led} {ro : Roles} {H : HY} {S : HS} {ws : List Nat} {vs : List Value} {k : Nat} (h : HpL w σ ro H S) (hv : Nats vs ws) : HpL w (σ.set H.wt (lstOf vs k)) ro H { S with waiting := ws } := by
  have n1 : ∀ b, ro b ≠ some .waiting → (σ.set H.wt (lstOf vs k)) b = σ b := fun b q => Led.set_ne (by rintro rfl; exact q h.r.rwt)
  have k2 : Kp ro (fun r => r == .waiting) σ (σ.set H.wt (lstOf vs k)) := Kp.one h.r.rwt (by simp)
  have kt := k2.tup h.ro
  have rn : ∀ {b : Addr}, ro b = none → ro b ≠ some .waiting := fun e q => by (first | exact nos (e) q | exact nos q (e) | (rw [e] at q; cases q))
  refine ⟨h.bank.keep k2 h.ro (fun r hr => by cases r <;> first | rfl | cases hr) fun _ _ => rfl, h.uni.keep k2 h.ro (fun r hr => by cases r <;> first | rfl | cases hr) fun _ _ => rfl, ?_, h.ro.set ltup⟩
  refine ⟨h.r.ins.keep (fun o e => by first | exact ((n1 _ (rn h.r.rk)).trans e) | (rw [n1 _ (rn h.r.rk)]; exact e)) (fun o e => by first | exact ((n1 _ (rn h.r.rd)).trans e) | (rw [n1 _ (rn h.r.rd)]; exact e)), h.r.rk, h.r.rd, h.r.rel, h.r.rfl', h.r.rkd, h.r.rus, h.r.rwt, ?_, ?_, ?_, ?_, ?_⟩
  · (refine x2_2 h.r.el ?_; intro vs n e1 e2)
    exact (i2_2 (vs) ( n) ( by first | exact ((n1 _ (by rw [h.r.rel]; simp)).trans e1) | (rw [n1 _ (by rw [h.r.rel]; simp)]; exact e1)) ( e2))
  · (refine x2_2 h.r.fl ?_; intro vs n e1 e2)
    exact (i2_2 (vs) ( n) ( by first | exact ((n1 _ (by rw [h.r.rfl']; simp)).trans e1) | (rw [n1 _ (by rw [h.r.rfl']; simp)]; exact e1)) ( e2))
  · (refine x2_4 h.r.kd ?_; intro o xs e1 e2 e3 e4)
    exact (i2_4 (o) ( xs) ( by first | exact ((n1 _ (by rw [h.r.rkd]; simp)).trans e1) | (rw [n1 _ (by rw [h.r.rkd]; simp)]; exact e1)) ( e2) ( e3.tup kt) ( e4))
  · (refine x2_4 h.r.us ?_; intro o kvs e1 e2 e3 e4)
    refine (i2_4 (o) ( kvs) ( by first | exact ((n1 _ (by rw [h.r.rus]; simp)).trans e1) | (rw [n1 _ (by rw [h.r.rus]; simp)]; exact e1)) ( e2) ( e3) ( fun c hc => ?_))
    (refine x3_4 (e4 c hc) ?_; intro a ws k c1 c2 c3 c4)
    exact (i3_4 (a) ( ws) ( k) ( c1) ( c2) ( by first | exact ((n1 _ (by rw [c2]; simp)).trans c3) | (rw [n1 _ (by rw [c2]; simp)]; exact c3)) ( c4))
  · exact (i2_2 (_) ( _) ( Led.set_self) ( hv))

theorem nats_snoc {vs : List Value} {ws : List Nat} (h : Nats vs ws) : vs ≠ [] → ∃ us y n t ms, vs = us ++ [y] ∧ ws = ms ++ [n] ∧ y = .int (n : Nat) t ∧ Nats us ms := by
  induction h with
  | nil => intro h; exact absurd rfl h
  | @cons n t vs ns r ih =>
    intro _
    rcases vs with _ | ⟨v, vs'⟩
    · cases r; exact (i5_4 ([]) ( _) ( n) ( t) ( []) ( rfl) ( rfl) ( rfl) ( .nil))
    · (refine x5_4 (ih (by simp)) ?_; intro us y m tm ms h1 h2 h3 h4)
      exact (i5_4 (_ :: us) ( y) ( m) ( tm) ( n :: ms) ( by rw [h1]; rfl) ( by rw [h2]; rfl) ( h3) ( .cons n t h4))

theorem look_len {S : HS} {n : Nat} {x : Node} (hd : DadsOk S.par) (hn : n < S.par.length) (hk : ∀ s m, (s, m) ∈ S.known → m < S.par.length) : (S.look n x).par.length = S.par.length := by
  unfold HS.look
  cases hf : kfind S.known (x.1, x.2.map (findR S.par)) with
  | none => rfl
  | some m =>
    dsimp only
    by_cases q : findR S.par m = findR S.par n
    · rw [if_pos q]
    · rw [if_neg q]
      (refine x2_1 (join_ne hd (hk _ _ (kfind_some hf)) hn q) ?_; intro kp gn y)
      rw [y.par, List.length_set]
theorem spec_settle {w : World} {σ : Led} {ro : Roles} {H : HY} {S : HS} {E : Eqs} {j d : Nat} (h : HpL w σ ro H S) (hi : Inv E S j) (hj : j ≤ 1000) :
    Spec w 350 [.ref H.hp] (d + 6) σ (fun r σ' => ∃ S' ro', HpL w σ' ro' H S' ∧ Ext ro σ ro' σ' ∧ Inv E S' j ∧ Le S S' ∧ S'.waiting = [] ∧ S'.par.length = S.par.length) := by
  refine' spec_def (binds := [(Str.ofString "self", .ref H.hp)]) ?ho ?hcd ?hb ?hl ?hc ?h1 ?h2 ?h3 ?h
  k_enter
  intro X hw O hE
  subst hw
  repeat k_upd
  let Iv1 : Nat → Loc → Led → Prop := fun μ m σ' => ∃ S' ro', μ = S'.waiting.length + 2001 * wt S'.par (fun _ => 1) ∧ m (Str.ofString "self") = some (.ref H.hp) ∧ HpL X.w σ' ro' H S' ∧ Ext ro σ ro' σ' ∧ Inv E S' j ∧ Le S S' ∧ S'.par.length = S.par.length
  refine j_While Iv1 _ ⟨S, ro, rfl, rfl, h, .refl, hi, .refl, rfl⟩ ?_
  (intro μ m σ1 zr1; refine x2_7 zr1 ?_; clear zr1; intro S1 ro1 er1 hm h1 x1 hI1 le1 hl1; obtain rfl := er1)
  have hi1 := h1.r.ins
  (refine x2_2 h1.r.wt ?_; intro vs n hwt hv)
  have hroom := hI1.fit.room hj
  have hvl : vs.length ≤ 10000000 := by first | exact ((hv.len).trans hroom.wt) | (rw [hv.len]; exact hroom.wt)
  repeat k_upd
  refine j_len_list hwt (by exact (Nat.le_trans hvl (Nat.le_of_ble_eq_true rfl))) fun t1 => ?_
  repeat k_upd
  intro t2
  repeat k_upd
  by_cases hz : vs = []
  · refine Mine.sb (show decide (((vs.length : Nat) : Int) > 0) = false from decide_eq_false (by rw [hz]; simp)) ?_
    repeat k_upd
    refine (i2_6 (S1) ( ro1) ( h1) ( x1) ( hI1) ( le1) ( ?_) ( hl1))
    have := hv.len
    rw [hz] at this
    exact List.length_eq_zero_iff.mp this.symm
  · refine Mine.sb (show decide (((vs.length : Nat) : Int) > 0) = true from decide_eq_true (by have : 0 < vs.length := List.length_pos_iff.mpr hz; omega)) ?_
    (refine x5_4 (nats_snoc hv hz) ?_; intro us y k tk ms er1 hws er2 hus; obtain rfl := er1; obtain rfl := er2)
    repeat k_upd
    refine j_list_pop_m hwt ?_
    repeat k_upd
    refine j_pop hwt (by simp at hvl; exact (Nat.lt_of_le_of_lt hvl (Nat.le_of_ble_eq_true rfl))) ?_
    have h2 := h1.popped (k := n + 1) hus
    have hkl : k < S1.par.length := hI1.good.wl k (by rw [hws]; simp)
    have hkn : k < S1.nodes.length := by first | exact ((hI1.good.len).trans hkl) | (rw [hI1.good.len]; exact hkl)
    have hkx : S1.nodes[k]? = some (S1.nodes[k].1, S1.nodes[k].2) := by simp [hkn]
    have x2 : Ext ro1 σ1 ro1 (σ1.set H.wt (lstOf us (n + 1))) := (Kp.one (T := fun _ => true) h1.r.rwt rfl).ext
    (refine x0_3 (hI1.turn hws hkx) ?_; intro hI3 le3 hlt)
    have hr2 : HS.Room { S1 with waiting := ms } := ⟨hroom.ne, hroom.us, by have := hroom.wt; rw [hws] at this; simp at this; show ms.length ≤ _; exact (Nat.le_trans this (Nat.le_of_ble_eq_true rfl)), hroom.kn⟩
    refine ((spec_look_at (d := d) h2 hr2 hkx hkl hI1.good.kn).j rfl O).mono1 ?_
    (intro r σ3 zt1; (refine x1_2 zt1 ?_; clear zt1; intro ro3 h3 x3))
    repeat k_upd
    have hpl : ({ S1 with waiting := ms }.look k (S1.nodes[k].1, S1.nodes[k].2)).par.length = S1.par.length := look_len (S := { S1 with waiting := ms }) hI1.good.dads hkl hI1.good.kn
    exact ⟨_, hlt, _, ro3, rfl, hm, h3, (x1.trans h1.ro x2).trans h2.ro x3, hI3, le1.trans le3, by first | exact ((hpl).trans hl1) | (rw [hpl]; exact hl1)⟩
end
section
--FILE FN
structure Wk (dx : Addr) (ro : Roles) (σ : Led) (ro' : Roles) (σ' : Led) : Prop where
  keep : ∀ a o, σ a = some o → a ≠ dx → σ' a = some o
  same : ∀ a, σ a ≠ none → ro' a = ro a
  ok : RoOk ro' σ'
  live : σ dx ≠ none → σ' dx ≠ none
theorem Wk.refl {dx : Addr} {ro : Roles} {σ : Led} (g : RoOk ro σ) : Wk dx ro σ ro σ := ⟨fun _ _ h _ => h, fun _ _ => rfl, g, fun h => h⟩
theorem Wk.trans {dx : Addr} {ro ro' ro'' : Roles} {σ σ' σ'' : Led} (h : Wk dx ro σ ro' σ') (h' : Wk dx ro' σ' ro'' σ'') : Wk dx ro σ ro'' σ'' := by
  refine ⟨fun a o e q => h'.keep a o (h.keep a o e q) q, fun a ha => ?_, h'.ok, fun e => h'.live (h.live e)⟩
  rw [h'.same a, h.same a ha]
  by_cases e : a = dx
  · rw [e]; exact h.live (e ▸ ha)
  · cases q : σ a with
    | none => exact absurd q ha
    | some o => rw [h.keep a o q e]; simp
theorem Wk.sub {dx : Addr} {ro ro' : Roles} {σ σ' σ'' : Led} (h : Wk dx ro σ ro' σ') (s : Sub σ' σ'') : Wk dx ro σ ro' σ'' :=
  h.trans ⟨fun a o e _ => s a o e, fun _ _ => rfl, h.ok.sub s, fun e => by
    cases q : σ' dx with
    | none => exact absurd q e
    | some o => rw [s _ _ q]; simp⟩
theorem Wk.step {dx la : Addr} {ro : Roles} {σ : Led} {o o' : Obj} (r : Role) (g : RoOk ro σ) (hla : σ la = none) (hd : σ dx ≠ none) (ho : o.cls ≠ .type "tuple") (hrd : ro dx = none) :
    Wk dx ro σ (ro.set la r) ((σ.set la o).set dx o') ∧ ((σ.set la o).set dx o') la = some o ∧ (ro.set la r) la = some r := by
  have hne : la ≠ dx := by rintro rfl; exact hd hla
  refine (i0_3 (⟨fun a ob e q => ?_, fun a ha => Roles.set_ne (by rintro rfl; exact ha hla), fun a q e => ?_, fun _ => by rw [Led.set_self]; simp⟩) ( by first | exact ((Led.set_ne hne).trans Led.set_self) | (rw [Led.set_ne hne]; exact Led.set_self)) ( Roles.set_self))
  · rw [Led.set_ne q, Led.set_ne (by rintro rfl; (first | exact nos (hla) e | exact nos e (hla) | (rw [hla] at e; cases e)))]; exact e
  · by_cases e1 : a = la
    · subst e1; exact (i1_2 (o) ( by first | exact ((Led.set_ne hne).trans Led.set_self) | (rw [Led.set_ne hne]; exact Led.set_self)) ( ho))
    · rw [Roles.set_ne e1] at e
      have e2 : a ≠ dx := by rintro rfl; (first | exact nos (hrd) e | exact nos e (hrd) | (rw [hrd] at e; cases e))
      (refine x1_2 (g a q e) ?_; intro ob h1 h2)
      exact (i1_2 (ob) ( by first | exact ((Led.set_ne e2).trans ((Led.set_ne e1).trans h1)) | (rw [Led.set_ne e2, Led.set_ne e1]; exact h1)) ( h2))
theorem dtup {es : List DictEntry} {n : Nat} : (dictOf es n).cls ≠ .type "tuple" := by
  show Value.type "dict" ≠ .type "tuple"
  decide
theorem emptyKy {w : World} : KyDict w (dictOf [] 0) [] := (i2_4 (#[]) ( 0) ( (i0_3 (rfl) ( rfl) ( rfl))) ( rfl) ( rfl) ( .nil))

section
variable {w : World} {σ : Led} {ro : Roles} {d : Nat}
theorem spec_binit {x dx : Addr} (hi : InsD σ x 186 dx []) (hne : x ≠ dx) (g : RoOk ro σ) (hx : ro x = none) (hdx : ro dx = none) :
    Spec w 98 [.ref x] (d + 1) σ (fun r σ' => r = .none ∧ ∃ B ro', B.bk = x ∧ B.bd = dx ∧ BankL w σ' ro' B [] ∧ Wk dx ro σ ro' σ') := by
  refine' spec_def (binds := [(Str.ofString "self", .ref x)]) ?ho ?hcd ?hb ?hl ?hc ?h1 ?h2 ?h3 ?h
  k_enter
  intro X hw O hE
  subst hw
  have live : ∀ {σ : Led} {fs : List (Str × Value)}, InsD σ x 186 dx fs → σ dx ≠ none ∧ σ x ≠ none := fun h => ⟨by (refine x2_1 h.d ?_; intro es n q); rw [q]; simp, by rw [h.x]; simp⟩
  repeat k_upd
  intro a1 h1
  have i1 := hi.keep (σ' := σ.set a1 (lstOf [] 0)) (Sub.new h1 _) (Sub.new h1 _)
  repeat k_upd
  intro o1 i2
  (refine x0_3 (Wk.step (o' := o1) .nodes g h1 (live hi).1 (ltup (vs := []) (n := 0)) hdx) ?_; intro w1 l1 r1)
  (generalize (σ.set a1 (lstOf [] 0)).set dx o1 = σ1 at *; revert σ1; refine bar ?_; set_option tactic.hygienic false in intros)
  (generalize ro.set a1 .nodes = ro1 at *; revert ro1; refine bar ?_; set_option tactic.hygienic false in intros)
  have hdx1 := (w1.same dx (live hi).1).trans hdx
  have hx1 := (w1.same x (live hi).2).trans hx
  clear i1
  repeat k_upd
  intro a2 h2
  have i3 := i2.keep (σ' := σ1.set a2 (dictOf [] 0)) (Sub.new h2 _) (Sub.new h2 _)
  repeat k_upd
  intro o2 i4
  (refine x0_3 (Wk.step (o' := o2) .numbers w1.ok h2 (live i2).1 (dtup (es := []) (n := 0)) hdx1) ?_; intro w2 l2 r2)
  (generalize (σ1.set a2 (dictOf [] 0)).set dx o2 = σ2 at *; revert σ2; refine bar ?_; set_option tactic.hygienic false in intros)
  (generalize ro1.set a2 .numbers = ro2 at *; revert ro2; refine bar ?_; set_option tactic.hygienic false in intros)
  have hdx2 := (w2.same dx (live i2).1).trans hdx1
  have hx2 := (w2.same x (live i2).2).trans hx1
  have ne : ∀ {a : Addr} {r : Role} {ro : Roles}, ro a = some r → ro dx = none → a ≠ dx := fun h h' => ne_norole h h'
  replace l1 := w2.keep _ _ l1 (ne r1 hdx1)
  replace r1 := (w2.same a1 (by have := l1; intro q; (refine x1_2 (w1.ok a1 _ r1) ?_; intro o ho _); (first | exact nos (q) ho | exact nos ho (q) | (rw [q] at ho; cases ho)))).trans r1
  replace w2 := w1.trans w2
  clear i3 i2 w1
  repeat k_upd
  intro a3 h3
  have i5 := i4.keep (σ' := σ2.set a3 (lstOf [] 0)) (Sub.new h3 _) (Sub.new h3 _)
  repeat k_upd
  intro o3 i6
  (refine x0_3 (Wk.step (o' := o3) .weights w2.ok h3 (live i4).1 (ltup (vs := []) (n := 0)) hdx2) ?_; intro w3 l3 r3)
  (generalize (σ2.set a3 (lstOf [] 0)).set dx o3 = σ3 at *; revert σ3; refine bar ?_; set_option tactic.hygienic false in intros)
  (generalize ro2.set a3 .weights = ro3 at *; revert ro3; refine bar ?_; set_option tactic.hygienic false in intros)
  have hdx3 := (w3.same dx (live i4).1).trans hdx2
  have hx3 := (w3.same x (live i4).2).trans hx2
  have lv : ∀ {a o}, σ2 a = some o → σ2 a ≠ none := fun e => by rw [e]; simp
  replace r1 := (w3.same a1 (lv l1)).trans r1
  replace r2 := (w3.same a2 (lv l2)).trans r2
  replace l1 := w3.keep _ _ l1 (ne r1 hdx3)
  replace l2 := w3.keep _ _ l2 (ne r2 hdx3)
  replace w3 := w2.trans w3
  clear i5 i4 w2 lv
  repeat k_upd
  intro a4 h4
  have i7 := i6.keep (σ' := σ3.set a4 (lstOf [] 0)) (Sub.new h4 _) (Sub.new h4 _)
  repeat k_upd
  intro o4 i8
  (refine x0_3 (Wk.step (o' := o4) .depths w3.ok h4 (live i6).1 (ltup (vs := []) (n := 0)) hdx3) ?_; intro w4 l4 r4)
  have hdx4 := (w4.same dx (live i6).1).trans hdx3
  have hx4 := (w4.same x (live i6).2).trans hx3
  have lv : ∀ {a o}, σ3 a = some o → σ3 a ≠ none := fun e => by rw [e]; simp
  replace r1 := (w4.same a1 (lv l1)).trans r1
  replace r2 := (w4.same a2 (lv l2)).trans r2
  replace r3 := (w4.same a3 (lv l3)).trans r3
  replace l1 := w4.keep _ _ l1 (ne r1 hdx4)
  replace l2 := w4.keep _ _ l2 (ne r2 hdx4)
  replace l3 := w4.keep _ _ l3 (ne r3 hdx4)
  replace w4 := w3.trans w4
  repeat k_upd
  exact ⟨rfl, ⟨x, dx, a1, a2, a3, a4⟩, _, rfl, rfl, ⟨i8, hx4, hdx4, r1, r2, r3, r4, (i2_3 ([]) ( 0) ( l1) ( rfl) ( fun i x h => by simp at h)), (i2_5 (_) ( []) ( l2) ( emptyKy) ( fun x hx => by simp at hx) ( rfl) ( fun i x h => by simp at h)), (i3_3 ([]) ( []) ( 0) ( l3) ( .nil) ( rfl)), (i3_3 ([]) ( []) ( 0) ( l4) ( .nil) ( rfl)), (i0_3 (.nil) ( by simp) ( fun i c ks h => by simp at h))⟩, w4⟩

theorem spec_uinit {x dx : Addr} (hi : InsD σ x 268 dx []) (hne : x ≠ dx) (g : RoOk ro σ) (hx : ro x = none) (hdx : ro dx = none) :
    Spec w 204 [.ref x] (d + 1) σ (fun r σ' => r = .none ∧ ∃ U ro', U.up = x ∧ U.ud = dx ∧ UniL σ' ro' U [] (fun _ => 0) ∧ Wk dx ro σ ro' σ') := by
  refine' spec_def (binds := [(Str.ofString "self", .ref x)]) ?ho ?hcd ?hb ?hl ?hc ?h1 ?h2 ?h3 ?h
  k_enter
  intro X hw O hE
  subst hw
  have live : ∀ {σ : Led} {fs : List (Str × Value)}, InsD σ x 268 dx fs → σ dx ≠ none ∧ σ x ≠ none := fun h => ⟨by (refine x2_1 h.d ?_; intro es n q); rw [q]; simp, by rw [h.x]; simp⟩
  have ne : ∀ {a : Addr} {r : Role} {ro : Roles}, ro a = some r → ro dx = none → a ≠ dx := fun h h' => ne_norole h h'
  repeat k_upd
  intro a1 h1
  have i1 := hi.keep (σ' := σ.set a1 (lstOf [] 0)) (Sub.new h1 _) (Sub.new h1 _)
  repeat k_upd
  intro o1 i2
  (refine x0_3 (Wk.step (o' := o1) .above g h1 (live hi).1 (ltup (vs := []) (n := 0)) hdx) ?_; intro w1 l1 r1)
  (generalize (σ.set a1 (lstOf [] 0)).set dx o1 = σ1 at *; revert σ1; refine bar ?_; set_option tactic.hygienic false in intros)
  (generalize ro.set a1 .above = ro1 at *; revert ro1; refine bar ?_; set_option tactic.hygienic false in intros)
  have hdx1 := (w1.same dx (live hi).1).trans hdx
  have hx1 := (w1.same x (live hi).2).trans hx
  clear i1
  repeat k_upd
  intro a2 h2
  have i3 := i2.keep (σ' := σ1.set a2 (lstOf [] 0)) (Sub.new h2 _) (Sub.new h2 _)
  repeat k_upd
  intro o2 i4
  (refine x0_3 (Wk.step (o' := o2) .lots w1.ok h2 (live i2).1 (ltup (vs := []) (n := 0)) hdx1) ?_; intro w2 l2 r2)
  (generalize (σ1.set a2 (lstOf [] 0)).set dx o2 = σ2 at *; revert σ2; refine bar ?_; set_option tactic.hygienic false in intros)
  (generalize ro1.set a2 .lots = ro2 at *; revert ro2; refine bar ?_; set_option tactic.hygienic false in intros)
  have hdx2 := (w2.same dx (live i2).1).trans hdx1
  have hx2 := (w2.same x (live i2).2).trans hx1
  have lv : ∀ {a o}, σ1 a = some o → σ1 a ≠ none := fun e => by rw [e]; simp
  replace r1 := (w2.same a1 (lv l1)).trans r1
  replace l1 := w2.keep _ _ l1 (ne r1 hdx2)
  replace w2 := w1.trans w2
  clear i3 i2 w1 lv
  repeat k_upd
  intro a3 h3
  have i5 := i4.keep (σ' := σ2.set a3 (lstOf [] 0)) (Sub.new h3 _) (Sub.new h3 _)
  repeat k_upd
  intro o3 i6
  (refine x0_3 (Wk.step (o' := o3) .merged w2.ok h3 (live i4).1 (ltup (vs := []) (n := 0)) hdx2) ?_; intro w3 l3 r3)
  have hdx3 := (w3.same dx (live i4).1).trans hdx2
  have hx3 := (w3.same x (live i4).2).trans hx2
  have lv : ∀ {a o}, σ2 a = some o → σ2 a ≠ none := fun e => by rw [e]; simp
  replace r1 := (w3.same a1 (lv l1)).trans r1
  replace r2 := (w3.same a2 (lv l2)).trans r2
  replace l1 := w3.keep _ _ l1 (ne r1 hdx3)
  replace l2 := w3.keep _ _ l2 (ne r2 hdx3)
  replace w3 := w2.trans w3
  repeat k_upd
  exact ⟨rfl, ⟨x, dx, a1, a2, a3⟩, _, rfl, rfl, ⟨i6, hx3, hdx3, r1, r2, r3, (i2_2 ([]) ( 0) ( l1) ( .nil)), (i2_3 ([]) ( 0) ( l2) ( rfl) ( fun i h => by simp at h)), (i2_2 ([]) ( 0) ( l3) ( rfl)), ⟨by simp, fun i p h => by simp at h⟩, Nat.le_refl _⟩, w3⟩
end
end
section
--FILE FO
theorem Back.mono {X : Cx} {m : Loc} {R R' : Value → Led → Prop} {b : Shared} {r : Result} {s' : Shared} (h : Back X m R b r s') (k : ∀ v σ', R v σ' → R' v σ') : Back X m R' b r s' := by
  unfold Back at *
  split at h
  · obtain ⟨B, m', σ', S, e, hR⟩ := h
    exact ⟨B, m', σ', S, e, k _ _ hR⟩
  · exact h
  · exact h
theorem Spec.mono {w : World} {f : Addr} {args : List Value} {d : Nat} {σ : Led} {R R' : Value → Led → Prop} (h : Spec w f args d σ R) (k : ∀ v σ', R v σ' → R' v σ') : Spec w f args d σ R' :=
  fun X m hw O b s B S => codeAny_mono (h X m hw O b s B S) fun r s' q => q.mono k

section
variable {w : World} {σ σ' : Led} {ro ro' : Roles} {dx : Addr}
theorem Wk.tup (h : Wk dx ro σ ro' σ') (hod : ∃ es n, σ dx = some (dictOf es n)) : Tup σ σ' := fun a o e c => h.keep a o e (by
  rintro rfl
  (refine x2_1 hod ?_; clear hod; intro es n q)
  (first | exact nos (q) e | exact nos e (q) | (rw [q] at e; cases e)); exact absurd c dtup)
theorem BankL.keepW {B : BL} {nodes : List Node} (h : BankL w σ ro B nodes) (k : Wk dx ro σ ro' σ') (g : RoOk ro σ) (hdx : ro dx = none) (hod : ∃ es n, σ dx = some (dictOf es n)) (n1 : B.bk ≠ dx) (n2 : B.bd ≠ dx) : BankL w σ' ro' B nodes := by
  have kt := k.tup hod
  have e1 : ∀ {a r}, ro a = some r → ro' a = some r := fun {a r} e => by first | exact ((k.same a (by (refine x1_2 (g a r e) ?_; intro o ho _); rw [ho]; simp)).trans e) | (rw [k.same a (by (refine x1_2 (g a r e) ?_; intro o ho _); rw [ho]; simp)]; exact e)
  have bk : ∀ {a r}, ro a = some r → ∀ o, σ a = some o → σ' a = some o := fun {a r} e o ho => k.keep a o ho (ne_norole e hdx)
  (refine x0_2 ((⟨h.ins.x, h.ins.d⟩ : _ ∧ _)) ?_; intro ox od)
  refine ⟨h.ins.keep (fun o e => k.keep _ o e n1) (fun o e => k.keep _ o e n2), ?_, ?_, e1 h.rnl, e1 h.rnd, e1 h.rwl, e1 h.rdl, ?_, ?_, ?_, ?_, h.ok⟩
  · rw [k.same _ (by rw [ox]; simp)]; exact h.rk
  · (refine x2_1 od ?_; clear od; intro es n od); rw [k.same _ (by rw [od]; simp)]; exact h.rd
  · (refine x2_3 h.nl ?_; intro vs n a b c)
    exact (i2_3 (vs) ( n) ( bk h.rnl _ a) ( b) ( fun i x hx => let ⟨a, h1, h2⟩ := c i x hx; (i1_2 (a) ( h1) ( h2.tup kt))))
  · (refine x2_4 h.nd ?_; intro o xs a b c d)
    exact (i2_4 (o) ( xs) ( bk h.rnd _ a) ( b) ( c.tup kt) ( d))
  · (refine x3_2 h.wl ?_; intro vs ns n a b)
    exact (i3_2 (vs) ( ns) ( n) ( bk h.rwl _ a) ( b))
  · (refine x3_2 h.dl ?_; intro vs ns n a b)
    exact (i3_2 (vs) ( ns) ( n) ( bk h.rdl _ a) ( b))
theorem UniL.keepW {U : UL} {par : List Nat} {lens : Nat → Nat} (h : UniL σ ro U par lens) (k : Wk dx ro σ ro' σ') (g : RoOk ro σ) (hdx : ro dx = none) (n1 : U.up ≠ dx) (n2 : U.ud ≠ dx) : UniL σ' ro' U par lens := by
  have e1 : ∀ {a r}, ro a = some r → ro' a = some r := fun {a r} e => by first | exact ((k.same a (by (refine x1_2 (g a r e) ?_; intro o ho _); rw [ho]; simp)).trans e) | (rw [k.same a (by (refine x1_2 (g a r e) ?_; intro o ho _); rw [ho]; simp)]; exact e)
  have bk : ∀ {a r}, ro a = some r → ∀ o, σ a = some o → σ' a = some o := fun {a r} e o ho => k.keep a o ho (ne_norole e hdx)
  (refine x0_2 ((⟨h.ins.x, h.ins.d⟩ : _ ∧ _)) ?_; intro ox od)
  refine ⟨h.ins.keep (fun o e => k.keep _ o e n1) (fun o e => k.keep _ o e n2), ?_, ?_, e1 h.ral, e1 h.rll, e1 h.rml, ?_, ?_, ?_, h.ok, h.len⟩
  · rw [k.same _ (by rw [ox]; simp)]; exact h.rk
  · (refine x2_1 od ?_; clear od; intro es n od); rw [k.same _ (by rw [od]; simp)]; exact h.rd
  · (refine x2_2 h.al ?_; intro vs n a b)
    exact (i2_2 (vs) ( n) ( bk h.ral _ a) ( b))
  · (refine x2_3 h.ll ?_; intro vs n a b c)
    refine (i2_3 (vs) ( n) ( bk h.rll _ a) ( b) ( fun i hi => ?_))
    (refine x3_4 (c i hi) ?_; intro a ws k' c1 c2 c3 c4)
    exact (i3_4 (a) ( ws) ( k') ( c1) ( e1 c2) ( bk c2 _ c3) ( c4))
  · (refine x2_2 h.ml ?_; intro vs n a b)
    exact (i2_2 (vs) ( n) ( bk h.rml _ a) ( b))
theorem Wk.dict {o' : Obj} (g : RoOk ro σ) (hrd : ro dx = none) : Wk dx ro σ ro (σ.set dx o') := by
  refine ⟨fun a ob e q => by first | exact ((Led.set_ne q).trans e) | (rw [Led.set_ne q]; exact e), fun _ _ => rfl, fun a r e => ?_, fun _ => by rw [Led.set_self]; simp⟩
  (refine x1_2 (g a r e) ?_; intro ob h1 h2)
  exact (i1_2 (ob) ( by first | exact ((Led.set_ne (by rintro rfl; (first | exact nos (hrd) e | exact nos e (hrd) | (rw [hrd] at e; cases e)))).trans h1) | (rw [Led.set_ne (by rintro rfl; (first | exact nos (hrd) e | exact nos e (hrd) | (rw [hrd] at e; cases e)))]; exact h1)) ( h2))
theorem live_ne {a : Addr} {o : Obj} (h : σ a = some o) : σ a ≠ none := by rw [h]; simp
theorem Wk.inner {x y : Addr} {a b : Obj} (h1 : σ x = none) (h2 : σ y = none) (k : Wk y ro ((σ.set y b).set x a) ro' σ') (hd : dx ≠ y) (hdl : σ dx ≠ none) : Wk dx ro σ ro' σ' := by
  have s : Sub σ ((σ.set y b).set x a) := fun c o e => by
    rw [Led.set_ne (by rintro rfl; (first | exact nos (h1) e | exact nos e (h1) | (rw [h1] at e; cases e))), Led.set_ne (by rintro rfl; (first | exact nos (h2) e | exact nos e (h2) | (rw [h2] at e; cases e)))]; exact e
  refine ⟨fun c o e q => k.keep c o (s c o e) (by rintro rfl; (first | exact nos (h2) e | exact nos e (h2) | (rw [h2] at e; cases e))), fun c hc => k.same c ?_, k.ok, fun _ => ?_⟩
  · cases q : σ c with
    | none => exact absurd q hc
    | some o => rw [s c o q]; simp
  · cases q : σ dx with
    | none => exact absurd q hdl
    | some o => rw [k.keep dx o (s _ _ q) hd]; simp
end

theorem emptyInt {w : World} : (dictOf [] 0).IsDictOf (intKind PR w) [] := by
  refine (i2_5 (#[]) ( 0) ( (i0_3 (rfl) ( rfl) ( rfl))) ( rfl) ( fun e he => by simp at he) ( .nil) ( .nil))
section
variable {w : World} {σ : Led} {ro : Roles} {d : Nat}
noncomputable def S0 : HS := ⟨[], [], fun _ => 0, [], fun _ => [], [], 0⟩
theorem spec_hinit {x dx : Addr} (hi : InsD σ x 400 dx []) (hne : x ≠ dx) (g : RoOk ro σ) (hx : ro x = none) (hdx : ro dx = none) :
    Spec w 286 [.ref x] (d + 3) σ (fun r σ' => r = .none ∧ ∃ H ro', H.hp = x ∧ H.hd = dx ∧ HpL w σ' ro' H S0 ∧ Wk dx ro σ ro' σ') := by
  refine' spec_def (binds := [(Str.ofString "self", .ref x)]) ?ho ?hcd ?hb ?hl ?hc ?h1 ?h2 ?h3 ?h
  k_enter
  intro X hw O hE
  subst hw
  have live : ∀ {σ : Led} {fs : List (Str × Value)}, InsD σ x 400 dx fs → σ dx ≠ none ∧ σ x ≠ none := fun h => ⟨by (refine x2_1 h.d ?_; intro es n q); rw [q]; simp, by rw [h.x]; simp⟩
  have ne : ∀ {a : Addr} {r : Role} {ro : Roles}, ro a = some r → ro dx = none → a ≠ dx := fun h h' => ne_norole h h'
  repeat k_upd
  refine' j_make ?z1 ?z2 ?z3 ?z4 ?z5
  case z1 => exact O
  case z2 => k_is
  case z3 => k_is
  case z4 => k_is
  intro bx bd hbx hbd hbne
  refine (i1_2 (d + 1) ( Nat.le_refl _) ( (spec_binit (d := d) (ro := ro) (.new hbne) hbne ((g.new hbd).new (by first | exact ((Led.set_ne hbne).trans hbx) | (rw [Led.set_ne hbne]; exact hbx))) (g.fresh hbx) (g.fresh hbd)).mono ?_))
  (intro v σ1 zt1; obtain ⟨rfl, B, ro1, rfl, rfl, hB, k1⟩ := zt1)
  refine ⟨rfl, ?_⟩
  have n1 : dx ≠ B.bd := by rintro rfl; exact (live hi).1 hbd
  have n2 : x ≠ B.bd := by rintro rfl; exact (live hi).2 hbd
  have n3 : B.bk ≠ dx := by rintro e; rw [e] at hbx; exact (live hi).1 hbx
  have w1 : Wk dx ro σ ro1 σ1 := k1.inner hbx hbd n1 (live hi).1
  have i1 := hi.keep (σ' := σ1) (fun o e => w1.keep _ _ e hne) (fun o e => by
    refine k1.keep _ _ ?_ n1
    rw [Led.set_ne (Ne.symm n3), Led.set_ne n1]; exact e)
  have hdx1 := (w1.same dx (live hi).1).trans hdx
  have hx1 := (w1.same x (live hi).2).trans hx
  clear k1
  repeat k_upd
  intro o1 i2
  have w2 := Wk.dict (o' := o1) w1.ok hdx1
  replace hB := hB.keepW w2 w1.ok hdx1 i1.d n3 (Ne.symm n1)
  replace w2 := w1.trans w2
  clear i1 w1
  (generalize σ1.set dx o1 = σ2 at *; revert σ2; refine bar ?_; set_option tactic.hygienic false in intros)
  repeat k_upd
  refine' j_make ?y1 ?y2 ?y3 ?y4 ?y5
  case y1 => exact O
  case y2 => k_is
  case y3 => k_is
  case y4 => k_is
  intro ux ud hux hud hune
  refine (i1_2 (d + 1) ( Nat.le_refl _) ( (spec_uinit (d := d) (ro := ro1) (.new hune) hune ((w2.ok.new hud).new (by first | exact ((Led.set_ne hune).trans hux) | (rw [Led.set_ne hune]; exact hux))) (w2.ok.fresh hux) (w2.ok.fresh hud)).mono ?_))
  (intro v σ3 zt1; obtain ⟨rfl, U, ro3, rfl, rfl, hU, k3⟩ := zt1)
  refine ⟨rfl, ?_⟩
  have n4 : dx ≠ U.ud := by rintro rfl; exact (live i2).1 hud
  have n5 : U.up ≠ dx := by rintro e; rw [e] at hux; exact (live i2).1 hux
  have w3 : Wk dx ro1 σ2 ro3 σ3 := k3.inner hux hud n4 (live i2).1
  have i3 := i2.keep (σ' := σ3) (fun o e => w3.keep _ _ e hne) (fun o e => by
    refine k3.keep _ _ ?_ n4
    rw [Led.set_ne (Ne.symm n5), Led.set_ne n4]; exact e)
  have hdx3 := (w3.same dx (live i2).1).trans hdx1
  have hx3 := (w3.same x (live i2).2).trans hx1
  replace hB := hB.keepW w3 w2.ok hdx1 i2.d n3 (Ne.symm n1)
  replace w3 := w2.trans w3
  clear k3 i2 w2
  repeat k_upd
  intro o3 i4
  have w4 := Wk.dict (o' := o3) w3.ok hdx3
  replace hB := hB.keepW w4 w3.ok hdx3 i3.d n3 (Ne.symm n1)
  replace hU := hU.keepW w4 w3.ok hdx3 n5 (Ne.symm n4)
  replace w4 := w3.trans w4
  clear i3 w3
  (generalize σ3.set dx o3 = σ4 at *; revert σ4; refine bar ?_; set_option tactic.hygienic false in intros)
  repeat k_upd
  intro a5 h5
  have j5 := i4.keep (σ' := σ4.set a5 (lstOf [] 0)) (Sub.new h5 _) (Sub.new h5 _)
  repeat k_upd
  intro o5 i5
  (refine x0_3 (Wk.step (o' := o5) .edges w4.ok h5 (live i4).1 (ltup (vs := []) (n := 0)) hdx3) ?_; intro w5 l5 r5)
  have hdx5 := (w5.same dx (live i4).1).trans hdx3
  have hx5 := (w5.same x (live i4).2).trans hx3
  replace hB := hB.keepW w5 w4.ok hdx3 i4.d n3 (Ne.symm n1)
  replace hU := hU.keepW w5 w4.ok hdx3 n5 (Ne.symm n4)
  replace w5 := w4.trans w5
  clear j5 i4 w4
  (generalize (σ4.set a5 (lstOf [] 0)).set dx o5 = σ5 at *; revert σ5; refine bar ?_; set_option tactic.hygienic false in intros)
  (generalize ro3.set a5 .edges = ro5 at *; revert ro5; refine bar ?_; set_option tactic.hygienic false in intros)
  repeat k_upd
  intro a6 h6
  have j6 := i5.keep (σ' := σ5.set a6 (lstOf [] 0)) (Sub.new h6 _) (Sub.new h6 _)
  repeat k_upd
  intro o6 i6
  (refine x0_3 (Wk.step (o' := o6) .forest w5.ok h6 (live i5).1 (ltup (vs := []) (n := 0)) hdx5) ?_; intro w6 l6 r6)
  (generalize (σ5.set a6 (lstOf [] 0)).set dx o6 = σ6 at *; revert σ6; refine bar ?_; set_option tactic.hygienic false in intros)
  (generalize ro5.set a6 .forest = ro6 at *; revert ro6; refine bar ?_; set_option tactic.hygienic false in intros)
  have hdx6 := (w6.same dx (live i5).1).trans hdx5
  have hx6 := (w6.same x (live i5).2).trans hx5
  replace hB := hB.keepW w6 w5.ok hdx5 i5.d n3 (Ne.symm n1)
  replace hU := hU.keepW w6 w5.ok hdx5 n5 (Ne.symm n4)
  replace r5 := (w6.same a5 (live_ne l5)).trans r5
  replace l5 := w6.keep _ _ l5 (ne r5 hdx6)
  replace w6 := w5.trans w6
  clear j6 i5 w5
  repeat k_upd
  intro a7 h7
  have j7 := i6.keep (σ' := σ6.set a7 (dictOf [] 0)) (Sub.new h7 _) (Sub.new h7 _)
  repeat k_upd
  intro o7 i7
  (refine x0_3 (Wk.step (o' := o7) .known w6.ok h7 (live i6).1 (dtup (es := []) (n := 0)) hdx6) ?_; intro w7 l7 r7)
  (generalize (σ6.set a7 (dictOf [] 0)).set dx o7 = σ7 at *; revert σ7; refine bar ?_; set_option tactic.hygienic false in intros)
  (generalize ro6.set a7 .known = ro7 at *; revert ro7; refine bar ?_; set_option tactic.hygienic false in intros)
  have hdx7 := (w7.same dx (live i6).1).trans hdx6
  have hx7 := (w7.same x (live i6).2).trans hx6
  replace hB := hB.keepW w7 w6.ok hdx6 i6.d n3 (Ne.symm n1)
  replace hU := hU.keepW w7 w6.ok hdx6 n5 (Ne.symm n4)
  replace r5 := (w7.same a5 (live_ne l5)).trans r5
  replace l5 := w7.keep _ _ l5 (ne r5 hdx7)
  replace r6 := (w7.same a6 (live_ne l6)).trans r6
  replace l6 := w7.keep _ _ l6 (ne r6 hdx7)
  replace w7 := w6.trans w7
  clear j7 i6 w6
  repeat k_upd
  intro a8 h8
  have j8 := i7.keep (σ' := σ7.set a8 (dictOf [] 0)) (Sub.new h8 _) (Sub.new h8 _)
  repeat k_upd
  intro o8 i8
  (refine x0_3 (Wk.step (o' := o8) .users w7.ok h8 (live i7).1 (dtup (es := []) (n := 0)) hdx7) ?_; intro w8 l8 r8)
  (generalize (σ7.set a8 (dictOf [] 0)).set dx o8 = σ8 at *; revert σ8; refine bar ?_; set_option tactic.hygienic false in intros)
  (generalize ro7.set a8 .users = ro8 at *; revert ro8; refine bar ?_; set_option tactic.hygienic false in intros)
  have hdx8 := (w8.same dx (live i7).1).trans hdx7
  have hx8 := (w8.same x (live i7).2).trans hx7
  replace hB := hB.keepW w8 w7.ok hdx7 i7.d n3 (Ne.symm n1)
  replace hU := hU.keepW w8 w7.ok hdx7 n5 (Ne.symm n4)
  replace r5 := (w8.same a5 (live_ne l5)).trans r5
  replace l5 := w8.keep _ _ l5 (ne r5 hdx8)
  replace r6 := (w8.same a6 (live_ne l6)).trans r6
  replace l6 := w8.keep _ _ l6 (ne r6 hdx8)
  replace r7 := (w8.same a7 (live_ne l7)).trans r7
  replace l7 := w8.keep _ _ l7 (ne r7 hdx8)
  replace w8 := w7.trans w8
  clear j8 i7 w7
  repeat k_upd
  intro a9 h9
  have j9 := i8.keep (σ' := σ8.set a9 (lstOf [] 0)) (Sub.new h9 _) (Sub.new h9 _)
  repeat k_upd
  intro o9 i9
  (refine x0_3 (Wk.step (o' := o9) .waiting w8.ok h9 (live i8).1 (ltup (vs := []) (n := 0)) hdx8) ?_; intro w9 l9 r9)
  (generalize (σ8.set a9 (lstOf [] 0)).set dx o9 = σ9 at *; revert σ9; refine bar ?_; set_option tactic.hygienic false in intros)
  (generalize ro8.set a9 .waiting = ro9 at *; revert ro9; refine bar ?_; set_option tactic.hygienic false in intros)
  have hdx9 := (w9.same dx (live i8).1).trans hdx8
  have hx9 := (w9.same x (live i8).2).trans hx8
  replace hB := hB.keepW w9 w8.ok hdx8 i8.d n3 (Ne.symm n1)
  replace hU := hU.keepW w9 w8.ok hdx8 n5 (Ne.symm n4)
  replace r5 := (w9.same a5 (live_ne l5)).trans r5
  replace l5 := w9.keep _ _ l5 (ne r5 hdx9)
  replace r6 := (w9.same a6 (live_ne l6)).trans r6
  replace l6 := w9.keep _ _ l6 (ne r6 hdx9)
  replace r7 := (w9.same a7 (live_ne l7)).trans r7
  replace l7 := w9.keep _ _ l7 (ne r7 hdx9)
  replace r8 := (w9.same a8 (live_ne l8)).trans r8
  replace l8 := w9.keep _ _ l8 (ne r8 hdx9)
  replace w9 := w8.trans w9
  clear j9 i8 w8
  repeat k_upd
  intro tb
  repeat k_upd
  intro o10 i10
  have w10 := Wk.dict (o' := o10) w9.ok hdx9
  replace hB := hB.keepW w10 w9.ok hdx9 i9.d n3 (Ne.symm n1)
  replace hU := hU.keepW w10 w9.ok hdx9 n5 (Ne.symm n4)
  replace l5 := w10.keep _ _ l5 (ne r5 hdx9)
  replace l6 := w10.keep _ _ l6 (ne r6 hdx9)
  replace l7 := w10.keep _ _ l7 (ne r7 hdx9)
  replace l8 := w10.keep _ _ l8 (ne r8 hdx9)
  replace l9 := w10.keep _ _ l9 (ne r9 hdx9)
  have w11 := w9.trans w10
  repeat k_upd
  exact ⟨rfl, ⟨x, dx, a5, a6, a7, a8, a9, B, U, tb⟩, ro9, rfl, rfl, ⟨hB, hU, ⟨i10, hx9, hdx9, r5, r6, r7, r8, r9, (i2_2 ([]) ( 0) ( l5) ( rfl)), (i2_2 ([]) ( 0) ( l6) ( Nat.le_refl _)), (i2_5 (_) ( []) ( l7) ( emptyKy) ( fun x hx => by simp at hx) ( rfl) ( fun i s m h => by simp [S0] at h)), (i2_4 (_) ( []) ( l8) ( emptyInt) ( Nat.le_refl _) ( fun c h => by simp [S0] at h)), (i2_2 ([]) ( 0) ( l9) ( .nil))⟩, w11.ok⟩, w11⟩
end
end
section
--FILE FP
section
variable {w : World} {σ σ' : Led} {ro ro' : Roles} {dx : Addr}
theorem HpR.keepW {H : HY} {S : HS} (h : HpR w σ ro H S) (k : Wk dx ro σ ro' σ') (g : RoOk ro σ) (hdx : ro dx = none) (hod : ∃ es n, σ dx = some (dictOf es n)) (n1 : H.hp ≠ dx) (n2 : H.hd ≠ dx) : HpR w σ' ro' H S := by
  have kt := k.tup hod
  have e1 : ∀ {a r}, ro a = some r → ro' a = some r := fun {a r} e => by first | exact ((k.same a (by (refine x1_2 (g a r e) ?_; intro o ho _); rw [ho]; simp)).trans e) | (rw [k.same a (by (refine x1_2 (g a r e) ?_; intro o ho _); rw [ho]; simp)]; exact e)
  have bk : ∀ {a r}, ro a = some r → ∀ o, σ a = some o → σ' a = some o := fun {a r} e o ho => k.keep a o ho (ne_norole e hdx)
  (refine x0_2 ((⟨h.ins.x, h.ins.d⟩ : _ ∧ _)) ?_; intro ox od)
  refine ⟨h.ins.keep (fun o e => k.keep _ o e n1) (fun o e => k.keep _ o e n2), ?_, ?_, e1 h.rel, e1 h.rfl', e1 h.rkd, e1 h.rus, e1 h.rwt, ?_, ?_, ?_, ?_, ?_⟩
  · rw [k.same _ (by rw [ox]; simp)]; exact h.rk
  · (refine x2_1 od ?_; clear od; intro es n od); rw [k.same _ (by rw [od]; simp)]; exact h.rd
  · (refine x2_2 h.el ?_; intro vs n a b)
    exact (i2_2 (vs) ( n) ( bk h.rel _ a) ( b))
  · (refine x2_2 h.fl ?_; intro vs n a b)
    exact (i2_2 (vs) ( n) ( bk h.rfl' _ a) ( b))
  · (refine x2_4 h.kd ?_; intro o xs a b c d)
    exact (i2_4 (o) ( xs) ( bk h.rkd _ a) ( b) ( c.tup kt) ( d))
  · (refine x2_4 h.us ?_; intro o kvs a b c d)
    refine (i2_4 (o) ( kvs) ( bk h.rus _ a) ( b) ( c) ( fun c hc => ?_))
    (refine x3_4 (d c hc) ?_; intro a ws k' c1 c2 c3 c4)
    exact (i3_4 (a) ( ws) ( k') ( c1) ( e1 c2) ( bk c2 _ c3) ( c4))
  · (refine x2_2 h.wt ?_; intro vs n a b)
    exact (i2_2 (vs) ( n) ( bk h.rwt _ a) ( b))
theorem InsD.xne {x y C C' dx dy : Addr} {fs gs : List (Str × Value)} (h : InsD σ x C dx fs) (h' : InsD σ y C' dy gs) : x ≠ dy := by
  rintro rfl
  (refine x2_1 h'.d ?_; intro es n q)
  rw [h.x] at q
  exact absurd (congrArg Obj.data (Option.some.inj q)) (by simp)
theorem InsD.dne {x y C C' dx dy : Addr} {fs gs : List (Str × Value)} (k : Str) (h : InsD σ x C dx fs) (h' : InsD σ y C' dy gs) (hk : fs.lookup k ≠ gs.lookup k) : dx ≠ dy := by
  rintro rfl
  (refine x2_5 h ?_; clear h; intro es n _ b _ _ c)
  (refine x2_5 h' ?_; clear h'; intro es' n' _ b' _ _ c')
  rw [b] at b'
  have := congrArg Obj.data (Option.some.inj b')
  simp only [Data.dict.injEq] at this
  have e : es = es' := by
    have := congrArg Array.toList this.1
    simpa using this
  subst e
  exact hk ((c k).symm.trans (c' k))
theorem HpL.keepD {H : HY} {S : HS} {cx C cd : Addr} {cfs : List (Str × Value)} {v : Value} {o' : Obj} (h : HpL w σ ro H S) (hc : InsD σ cx C cd cfs) (hk : cfs.lookup (Str.ofString "told") = some v) (hr : ro cd = none) : HpL w (σ.set cd o') ro H S := by
  have wk := Wk.dict (o' := o') h.ro hr
  refine ⟨h.bank.keepW wk h.ro hr hc.d (h.bank.ins.xne hc) (h.bank.ins.dne (Str.ofString "told") hc ?_), h.uni.keepW wk h.ro hr (h.uni.ins.xne hc) (h.uni.ins.dne (Str.ofString "told") hc ?_), h.r.keepW wk h.ro hr hc.d (h.r.ins.xne hc) (h.r.ins.dne (Str.ofString "told") hc ?_), wk.ok⟩
  · rw [hk]; exact fun q => nomatch q
  · rw [hk]; exact fun q => nomatch q
  · rw [hk]; exact fun q => nomatch q
end

noncomputable def ToldT (σ : Led) (kvs : List (Str × Value)) (told : List (Str × Tm × Tm)) : Prop := ∀ l p, (l, p) ∈ told → ∃ pa v1 v2 n, valueAt kvs l = some (.ref pa) ∧ σ pa = some (tupOf [v1, v2] n) ∧ TmT σ p.1 v1 ∧ TmT σ p.2 v2
theorem ToldT.tup {σ σ' : Led} {kvs : List (Str × Value)} {told : List (Str × Tm × Tm)} (h : ToldT σ kvs told) (g : Tup σ σ') : ToldT σ' kvs told := fun l p hp => by
  (refine x4_4 (h l p hp) ?_; intro pa v1 v2 n a b c d)
  exact (i4_4 (pa) ( v1) ( v2) ( n) ( a) ( g _ _ b rfl) ( c.tup g) ( d.tup g))
noncomputable def coreF (td : Addr) (k : Int) (t : Tok) : List (Str × Value) := [(Str.ofString "asked", .int k t), (Str.ofString "told", .ref td)]
theorem s0_inv {E : Eqs} : Inv E S0 0 :=
  ⟨⟨rfl, ⟨by simp [S0], fun i p h => by simp [S0] at h⟩, (i0_3 (.nil) ( by simp [S0]) ( fun i c ks h => by simp [S0] at h)), fun I _ a b ha => by simp [S0] at ha, fun s m h => by simp [S0] at h, fun s m h => by simp [S0] at h, fun I _ s m h => by simp [S0] at h, fun i x h => by simp [S0] at h, fun c h => by simp [S0] at h, fun x h => by simp [S0] at h, fun i x h => by simp [S0] at h⟩,
    ⟨Nat.le_refl _, Nat.le_refl _, Nat.le_refl _, by simp [S0]⟩⟩
theorem isStr_self {x : Str} {t : Tok} {w : World} : (PySem.strKind PR w).is x (.str x t) = true := by simp [PySem.strKind, Value.isStrOf]

theorem spec_holds {w : World} {σ : Led} {cx cd td : Addr} {od : Obj} {kvs : List (Str × Value)} {told : List (Str × Tm × Tm)} {ls : List (Str × Tm × Tm)} {Sr : Src} {t u : Tm} {vt vu : Value} {d : Nat} {fs : List (Str × Value)}
    (hi : InsD σ cx 448 cd fs) (hne : cx ≠ cd) (hft : fs.lookup (Str.ofString "told") = some (.ref td)) (hfa : ∃ k tk, fs.lookup (Str.ofString "asked") = some (.int k tk)) (hfl : fs.length < 400)
    (htd : σ td = some od) (hod : od.IsDictOf (PySem.strKind PR w) kvs) (htold : ToldT σ kvs told) (hls : ∀ x ∈ ls, x ∈ told) (hSr : Sr.ok σ) (hsz : Sr.size = ls.length) (hit : ∀ i v, Sr.item i v → ∃ x tk, ls[i]? = some x ∧ v = .str x.1 tk)
    (hlsz : ls.length ≤ 10) (hok : ∀ x ∈ ls, x.2.1.ok = true ∧ x.2.2.ok = true ∧ x.2.1.size ≤ 10 ∧ x.2.2.size ≤ 10 ∧ x.2.1.hgt ≤ 4 ∧ x.2.2.hgt ≤ 4)
    (ht : TmT σ t vt) (hu : TmT σ u vu) (htok : t.ok = true ∧ t.size ≤ 10 ∧ t.hgt ≤ 4) (huok : u.ok = true ∧ u.size ≤ 10 ∧ u.hgt ≤ 4) (hSl : ∀ a, Sr.val = .ref a → a ≠ cd) (htdc : td ≠ cd) :
    Spec w 425 [.ref cx, Sr.val, vt, vu] (d + 14) σ (fun r σ' => (∃ c, r = .bool c ∧ (c = true ↔ Ent (ls.map (·.2)) t u)) ∧ (∀ a o, σ a = some o → a ≠ cd → σ' a = some o) ∧ ∃ k tk, InsD σ' cx 448 cd ((Str.ofString "asked", .int k tk) :: fs)) := by
  refine' spec_def (binds := [(Str.ofString "self", .ref cx), (Str.ofString "labels", Sr.val), (Str.ofString "t", vt), (Str.ofString "u", vu)]) ?ho ?hcd ?hb ?hl ?hc ?h1 ?h2 ?h3 ?h
  k_enter
  intro X hw O hE
  subst hw
  repeat k_upd
  refine' j_make ?z1 ?z2 ?z3 ?z4 ?z5
  case z1 => exact O
  case z2 => k_is
  case z3 => k_is
  case z4 => k_is
  intro hx hd hhx hhd hhne
  refine (i1_2 (d + 12) ( by exact (Nat.le_refl _)) ( (spec_hinit (d := d + 9) (ro := fun _ => none) (.new hhne) hhne (fun a r q => nomatch q) rfl rfl).mono ?_))
  (intro v σ1 zt1; obtain ⟨rfl, H, ro1, rfl, rfl, h1, k1⟩ := zt1)
  refine ⟨rfl, ?_⟩
  have s1 : Sub σ σ1 := fun a o e => k1.keep a o (by
    rw [Led.set_ne (by rintro rfl; (first | exact nos (hhx) e | exact nos e (hhx) | (rw [hhx] at e; cases e))), Led.set_ne (by rintro rfl; (first | exact nos (hhd) e | exact nos e (hhd) | (rw [hhd] at e; cases e)))]; exact e) (by rintro rfl; (first | exact nos (hhd) e | exact nos e (hhd) | (rw [hhd] at e; cases e)))
  have x1 : Ext (fun _ => none) σ ro1 σ1 := ⟨fun a o e _ => s1 a o e, fun a ha => k1.same a (by
    cases q : σ a with
    | none => exact absurd q ha
    | some o =>
      rw [Led.set_ne (by rintro rfl; (first | exact nos (hhx) q | exact nos q (hhx) | (rw [hhx] at q; cases q))), Led.set_ne (by rintro rfl; (first | exact nos (hhd) q | exact nos q (hhd) | (rw [hhd] at q; cases q))), q]; simp)⟩
  clear k1
  have hi1 := h1.r.ins
  repeat k_upd
  have tp1 : Tup σ σ1 := s1.tup
  refine ((spec_put (E := ls.map (·.2)) (j := 0) t htok.1 h1 s0_inv (by exact (Nat.zero_le _)) (by show 0 + t.size ≤ 800; omega) (ht.tup tp1)).j rfl O (by omega)).mono1 ?_
  (intro r σ2 zt1; (refine x4_8 zt1 ?_; clear zt1; intro S2 a ta ro2 er1 h2 x2 hI2 le2 hIa hal hp2; obtain rfl := er1))
  replace x2 := x1.trans h1.ro x2
  clear hi1
  have hi2 := h2.r.ins
  have none0 : RoOk (fun _ => none) σ := fun a r q => nomatch q
  have hp2' : S2.par.length ≤ 10 := by have : S0.par.length = 0 := rfl; omega
  repeat k_upd
  refine ((spec_put (E := ls.map (·.2)) (j := 0) u huok.1 h2 hI2 (by exact (Nat.zero_le _)) (by omega) (hu.tup (x2.tup none0))).j rfl O (by omega)).mono1 ?_
  (intro r σ3 zt1; (refine x4_8 zt1 ?_; clear zt1; intro S3 b tb ro3 er1 h3 x3 hI3 le3 hIb hbl hp3; obtain rfl := er1))
  replace x3 := x2.trans h2.ro x3
  clear hi2
  repeat k_upd
  intro pt hpt
  refine j_unpackItems_tup O Led.set_self tupO (by rfl) ?_
  refine j_bindSwap2 (x := Str.ofString "a") (y := Str.ofString "b") O (by k_mem) (by k_mem) ?_
  have s4 : Sub σ3 (σ3.set pt (tupOf [.int a ta, .int b tb] 0)) := .new hpt
  (generalize σ3.set pt (tupOf [.int a ta, .int b tb] 0) = σ4 at *; revert σ4; refine bar ?_; set_option tactic.hygienic false in intros)
  have h4 := h3.sub s4
  have x4 := x3.trans h3.ro s4.ext
  clear s4 h3 x3 hpt
  repeat k_upd
  k_places
  repeat k_upd
  refine ⟨Sr, rfl, Src.ok_sub (fun a o e => x4.1 a o e rfl) hSr, fun i m' σ' => ∃ Si roi, HpL X.w σ' roi H Si ∧ Ext (fun _ => none) σ roi σ' ∧ Inv (ls.map (·.2)) Si i ∧ Le S3 Si ∧ Si.par.length ≤ 20 + 20 * i ∧
    (∀ (q : Nat) x, q < i → ls[q]? = some x → ∃ y z, Is Si.nodes x.2.1 y ∧ Is Si.nodes x.2.2 z ∧ findR Si.par y = findR Si.par z) ∧
    m' (Str.ofString "heap") = some (.ref H.hp) ∧ m' (Str.ofString "a") = some (.int (a : Nat) ta) ∧ m' (Str.ofString "b") = some (.int (b : Nat) tb) ∧ m' (Str.ofString "self") = some (.ref cx),
    (i2_10 (S3) ( ro3) ( h4) ( x4) ( hI3) ( .refl) ( by omega) ( fun q x hq => by omega) ( by k_mem) ( by k_mem) ( by k_mem) ( by k_mem)), ?_, ?_⟩
  · (intro p i v m2 σ5 O' hil hv zr1 _; refine x2_10 zr1 ?_; clear zr1; intro Si roi h5 x5 hI5 le5 hp5 hq5 m1 m3 m4 m5)
    have hE2 : (X.kept p).env = _ := hE
    (refine x2_2 (hit i v hv) ?_; intro x tkx hxi er1; obtain rfl := er1)
    have hxm : x ∈ ls := List.mem_of_getElem? hxi
    have hil' : i < ls.length := get_lt hxi
    have hs5 : Sub σ σ5 := fun a o e => x5.1 a o e rfl
    have hic := hi.keep (hs5 _) (hs5 _)
    (refine x4_4 (htold x.1 x.2 (hls x hxm)) ?_; intro pa v1 v2 pn hpv hpa hv1 hv2)
    (refine x0_6 (hok x hxm) ?_; intro k1 k2 k3 k4 k5 k6)
    repeat k_upd
    try (refine' j_attr ?u1 ?u2 ?u3 ?u4 ?u5 ?u6 ?u7 ?u8 ?_; (case u1 => exact O'); (case u2 => exact hic); (case u3 => exact hft); (case u4 => k_is); (case u5 => k_is); (case u6 => k_is); (case u7 => k_is); (case u8 => exact rfl))
    repeat k_upd
    refine j_tail_dict (X := X.kept p) (knd := PySem.strKind PR (X.kept p).w) (k := x.1) (hs5 _ _ htd) hod isStr_self hpv (by rfl) ?_
    refine j_bindPair (X := X.kept p) O' (hs5 _ _ hpa) tupO (by k_mem) (by k_mem) ?_
    have hi5 := h5.r.ins
    have hj : i ≤ 1000 := by exact (Nat.le_of_lt (Nat.lt_of_lt_of_le (Nat.lt_of_lt_of_le hil' hlsz) (Nat.le_of_ble_eq_true rfl)))
    repeat k_upd
    refine ((spec_put (E := ls.map (·.2)) (j := i) x.2.1 k1 h5 hI5 hj (by omega) (hv1.tup hs5.tup)).j (X := X.kept p) rfl O' (by omega)).mono1 ?_
    (intro r σ6 zt1; (refine x4_8 zt1 ?_; clear zt1; intro S6 y ty ro6 er1 h6 x6 hI6 le6 hIy hyl hp6; obtain rfl := er1))
    replace x6 := x5.trans h5.ro x6
    have hs6 : Sub σ σ6 := fun a o e => x6.1 a o e rfl
    clear hi5
    have hi6 := h6.r.ins
    repeat k_upd
    refine ((spec_put (E := ls.map (·.2)) (j := i) x.2.2 k2 h6 hI6 hj (by omega) (hv2.tup hs6.tup)).j (X := X.kept p) rfl O' (by omega)).mono1 ?_
    (intro r σ7 zt1; (refine x4_8 zt1 ?_; clear zt1; intro S7 z tz ro7 er1 h7 x7 hI7 le7 hIz hzl hp7; obtain rfl := er1))
    replace x7 := x6.trans h6.ro x7
    clear hi6
    repeat k_upd
    intro tl
    repeat k_upd
    intro rt hrt
    have s8 : Sub σ7 (σ7.set rt (tupOf [.str (Str.ofString "told") tl, .str x.1 tkx] 0)) := .new hrt
    have h8 := h7.sub s8
    have x8 := x7.trans h7.ro s8.ext
    clear s8
    have hyl' : y < S7.par.length := Nat.lt_of_lt_of_le hyl le7.len
    have hmv : ∀ I, Sat I (ls.map (·.2)) → V I S7.nodes y = V I S7.nodes z := fun I hI => by
      rw [(hIy.ext le7.nodes).ev hI7.good.nok.kids, hIz.ev hI7.good.nok.kids]
      exact hI _ (List.mem_map.mpr (i1_2 (x) ( hxm) ( rfl)))
    (refine x0_4 (hI7.merge hyl' hzl hmv) ?_; intro hI9 le9 hl9 hpl9)
    refine ((spec_hmerge (d := d) (t := ty) (u := tz) (rv := .ref rt) h8 (hI7.fit.room hj) hyl' hzl).j (X := X.kept p) rfl O' (by exact (Nat.add_le_add_left (Nat.le_of_ble_eq_true (rfl : Nat.ble 4 13 = true)) _))).mono1 ?_
    (intro r σ9 zt1; obtain ⟨_, ro9, h9, x9⟩ := zt1)
    replace x9 := x8.trans h8.ro x9
    repeat k_upd
    refine ⟨(i2_10 (_) ( ro9) ( h9) ( x9) ( hI9) ( ((le5.trans le6).trans le7).trans le9) ( by rw [hpl9]; omega) ( fun q x' hq hx' => ?_) ( by k_mem) ( by k_mem) ( by k_mem) ( by k_mem)), Src.ok_sub (fun a o e => x9.1 a o e rfl) hSr⟩
    by_cases e : q = i
    · subst e
      (first | exact nos (hxi) hx' | exact nos hx' (hxi) | (rw [hxi] at hx'; cases hx'))
      exact (i2_3 (y) ( z) ( (hIy.ext le7.nodes).ext le9.nodes) ( hIz.ext le9.nodes) ( hl9))
    · (refine x2_3 (hq5 q x' (by omega) hx') ?_; intro y' z' a1 a2 a3)
      have l1 := (le6.trans le7).trans le9
      exact (i2_3 (y') ( z') ( a1.ext l1.nodes) ( a2.ext l1.nodes) ( l1.like _ _ (by have := a1.lt; rw [hI5.good.len] at this; exact this) (by have := a2.lt; rw [hI5.good.len] at this; exact this) a3))
  · (intro m2 σ5 zr1 _; refine x2_10 zr1 ?_; clear zr1; intro Si roi h5 x5 hI5 le5 hp5 hq5 m1 m3 m4 m5)
    rw [hsz] at hI5 hp5 hq5
    have hi5 := h5.r.ins
    repeat k_upd
    refine ((spec_settle (d := d) h5 hI5 (by exact (Nat.le_trans hlsz (Nat.le_of_ble_eq_true rfl)))).j rfl O (by exact (Nat.add_le_add_left (Nat.le_of_ble_eq_true (rfl : Nat.ble 6 13 = true)) _))).mono1 ?_
    (intro r σ6 zt1; (refine x2_6 zt1 ?_; clear zt1; intro S6 ro6 h6 x6 hI6 le6 hw6 hp6))
    replace x6 := x5.trans h5.ro x6
    have hs6 : Sub σ σ6 := fun a o e => x6.1 a o e rfl
    have hic := hi.keep (hs6 _) (hs6 _)
    have hdec := settled hI6.good hw6 (t := t) (u := u) (a := a) (b := b) (fun p hp => by
      (refine x1_2 (List.mem_map.mp hp) ?_; intro x hx er1; obtain rfl := er1)
      obtain ⟨q, hq⟩ := List.getElem?_of_mem hx
      (refine x2_3 (hq5 q x (get_lt hq) hq) ?_; intro y z a1 a2 a3)
      exact (i2_3 (y) ( z) ( a1.ext le6.nodes) ( a2.ext le6.nodes) ( le6.like _ _ (by have := a1.lt; rw [hI5.good.len] at this; exact this) (by have := a2.lt; rw [hI5.good.len] at this; exact this) a3)))
      (((hIa.ext le3.nodes).ext le5.nodes).ext le6.nodes) ((hIb.ext le5.nodes).ext le6.nodes)
    (refine x2_1 hfa ?_; clear hfa; intro ak atk hfa)
    clear hi5
    repeat k_upd
    try (refine' j_attr ?v1 ?v2 ?v3 ?v4 ?v5 ?v6 ?v7 ?v8 ?_; (case v1 => exact O); (case v2 => exact hic); (case v3 => exact hfa); (case v4 => k_is); (case v5 => k_is); (case v6 => k_is); (case v7 => k_is); (case v8 => exact rfl))
    repeat k_upd
    intro t7
    repeat k_upd
    intro t8
    repeat k_upd
    refine' j_setattr ?w1 ?w2 ?w3 ?w4 ?w5 ?w6 ?w7 ?w8 ?_
    case w1 => exact O
    case w2 => exact hic
    case w3 => exact hne
    case w4 => k_is
    case w5 => k_is
    case w6 => k_is
    case w7 => k_is
    case w8 => exact (Nat.lt_of_lt_of_le hfl (Nat.le_of_ble_eq_true rfl))
    intro o7 hins
    have hrc : ro6 cd = none := by
      rw [x6.2 cd (by (refine x2_1 hi.d ?_; intro es n q); rw [q]; simp)]
    have h7 := h6.keepD (o' := o7) hic hft hrc
    have hf7 : ∀ a o, σ a = some o → a ≠ cd → (σ6.set cd o7) a = some o := fun a o e q => by first | exact ((Led.set_ne q).trans (hs6 a o e)) | (rw [Led.set_ne q]; exact hs6 a o e)
    clear hic
    (generalize σ6.set cd o7 = σ7b at *; revert σ7b; refine bar ?_; set_option tactic.hygienic false in intros)
    have hi7 := h7.r.ins
    have hal6 : a < S6.par.length := Nat.lt_of_lt_of_le hal (Nat.le_trans le3.len (Nat.le_trans le5.len le6.len))
    have hbl6 : b < S6.par.length := Nat.lt_of_lt_of_le hbl (Nat.le_trans le5.len le6.len)
    repeat k_upd
    refine ((spec_are_like (d := d) h7 hal6 hbl6).j rfl O (by exact (Nat.add_le_add_left (Nat.le_of_ble_eq_true (rfl : Nat.ble 3 13 = true)) _))).mono1 ?_
    (intro r σ8 zr1; refine x0_2 zr1 ?_; clear zr1; intro er2 s8; obtain rfl := er2)
    refine ⟨(i1_2 (_) ( rfl) ( ?_)), fun a o e q => s8 _ _ (hf7 a o e q), ak + 1, t8, hins.keep (s8 _) (s8 _)⟩
    rw [decide_eq_true_iff]; exact hdec
end
section
--FILE FQ
noncomputable def CoreI (σ : Led) (cx cd td : Addr) (k : Nat) : Prop := cx ≠ cd ∧ ∃ fs, InsD σ cx 448 cd fs ∧ fs.lookup (Str.ofString "told") = some (.ref td) ∧ (∃ k tk, fs.lookup (Str.ofString "asked") = some (.int k tk)) ∧ fs.length ≤ 2 + k ∧ fs.lookup (Str.ofString "holds") = none ∧ fs.lookup (Str.ofString "core") = none
noncomputable def Fm (cd : Addr) (σ σ' : Led) : Prop := ∀ a o, σ a = some o → a ≠ cd → σ' a = some o
theorem Fm.trans {cd : Addr} {σ σ' σ'' : Led} (h : Fm cd σ σ') (h' : Fm cd σ' σ'') : Fm cd σ σ'' := fun a o e q => h' a o (h a o e q) q
theorem Sub.fm {cd : Addr} {σ σ' : Led} (h : Sub σ σ') : Fm cd σ σ' := fun a o e _ => h a o e
theorem CoreI.d {σ : Led} {cx cd td : Addr} {k : Nat} (h : CoreI σ cx cd td k) : ∃ es n, σ cd = some (dictOf es n) := by obtain ⟨_, fs, h, _⟩ := h; exact h.d
theorem CoreI.sub {σ σ' : Led} {cx cd td : Addr} {k : Nat} (h : CoreI σ cx cd td k) (s : Sub σ σ') : CoreI σ' cx cd td k := by
  obtain ⟨h0, fs, h1, h2⟩ := h
  exact ⟨h0, fs, h1.keep (s _) (s _), h2⟩
theorem CoreI.mono {σ : Led} {cx cd td : Addr} {k k' : Nat} (h : CoreI σ cx cd td k) (hk : k ≤ k') : CoreI σ cx cd td k' := by
  obtain ⟨h0, fs, h1, h2, h3, h4, h5⟩ := h
  exact ⟨h0, fs, h1, h2, h3, by omega, h5⟩
theorem dne_of {σ : Led} {a cd : Addr} {es : List DictEntry} {n : Nat} {o : Obj} (h : σ cd = some (dictOf es n)) (ha : σ a = some o) (hc : o.cls ≠ .type "dict") : a ≠ cd := by
  rintro rfl; (first | exact nos (h) ha | exact nos ha (h) | (rw [h] at ha; cases ha)); exact hc rfl
theorem lcls {vs : List Value} {n : Nat} : (lstOf vs n).cls ≠ .type "dict" := by
  show Value.type "list" ≠ .type "dict"
  decide
theorem tcls {vs : List Value} {n : Nat} : (tupOf vs n).cls ≠ .type "dict" := by
  show Value.type "tuple" ≠ .type "dict"
  decide
theorem Fm.tup {cx cd td : Addr} {k : Nat} {σ σ' : Led} (h : Fm cd σ σ') (c : CoreI σ cx cd td k) : Tup σ σ' := fun a o e hc => h a o e (by
  (refine x2_1 c.d ?_; intro es n q)
  exact dne_of q e (by rw [hc]; decide))

structure Told (σ : Led) (td : Addr) (od : Obj) (kvs : List (Str × Value)) (w : World) (told : List (Str × Tm × Tm)) : Prop where
  htd : σ td = some od
  hod : od.IsDictOf (PySem.strKind PR w) kvs
  htold : ToldT σ kvs told
  keys : kvs.map (·.1) = told.map (·.1)
  len : told.length ≤ 4
  ok : ∀ x ∈ told, x.2.1.ok = true ∧ x.2.2.ok = true ∧ x.2.1.size ≤ 10 ∧ x.2.2.size ≤ 10 ∧ x.2.1.hgt ≤ 4 ∧ x.2.2.hgt ≤ 4
theorem Told.fm {σ σ' : Led} {td : Addr} {od : Obj} {kvs : List (Str × Value)} {w : World} {told : List (Str × Tm × Tm)} {cx cd : Addr} {k : Nat} (h : Told σ td od kvs w told) (f : Fm cd σ σ') (c : CoreI σ cx cd td k) (hne : td ≠ cd) : Told σ' td od kvs w told :=
  ⟨f _ _ h.htd hne, h.hod, h.htold.tup (f.tup c), h.keys, h.len, h.ok⟩
theorem Told.sub {σ σ' : Led} {td : Addr} {od : Obj} {kvs : List (Str × Value)} {w : World} {told : List (Str × Tm × Tm)} (h : Told σ td od kvs w told) (f : Sub σ σ') : Told σ' td od kvs w told :=
  ⟨f _ _ h.htd, h.hod, h.htold.tup f.tup, h.keys, h.len, h.ok⟩
noncomputable def eqOf (told : List (Str × Tm × Tm)) (l : Str) : Tm × Tm := (told.lookup l).getD (.lf 0, .lf 0)
theorem eqOf_mem {told : List (Str × Tm × Tm)} {l : Str} (h : l ∈ told.map (·.1)) : (l, eqOf told l) ∈ told := by
  induction told with
  | nil => simp at h
  | cons x r ih =>
    unfold eqOf
    rw [List.lookup_cons]
    by_cases e : l = x.1
    · subst e; simp
    · have : (l == x.1) = false := by simp [e]
      first | refine Mine.sb (this) ?_ | rw [this]
      have hr : l ∈ r.map (·.1) := by simpa [e] using h
      exact .tail _ (ih hr)

section
variable {w : World} {σ : Led} {d : Nat}
theorem spec_holdsL {cx cd td : Addr} {od : Obj} {kvs : List (Str × Value)} {told : List (Str × Tm × Tm)} {L : List Str} {Sr : Src} {t u : Tm} {vt vu : Value} {k : Nat}
    (hi : CoreI σ cx cd td k) (hk : k ≤ 300) (T : Told σ td od kvs w told) (hL : ∀ x ∈ L, x ∈ told.map (·.1)) (hSr : Sr.ok σ) (hsz : Sr.size = L.length) (hit : ∀ i v, Sr.item i v → ∃ x tk, L[i]? = some x ∧ v = .str x tk) (hLs : L.length ≤ 4)
    (ht : TmT σ t vt) (hu : TmT σ u vu) (htok : t.ok = true ∧ t.size ≤ 10 ∧ t.hgt ≤ 4) (huok : u.ok = true ∧ u.size ≤ 10 ∧ u.hgt ≤ 4) (hSl : ∀ a, Sr.val = .ref a → a ≠ cd) (htdc : td ≠ cd) :
    Spec w 425 [.ref cx, Sr.val, vt, vu] (d + 14) σ (fun r σ' => (∃ c, r = .bool c ∧ (c = true ↔ Ent (L.map (eqOf told)) t u)) ∧ Fm cd σ σ' ∧ CoreI σ' cx cd td (k + 1)) := by
  obtain ⟨hne, fs, h1, h2, h3, h4, h5, h6⟩ := hi
  refine (spec_holds (d := d) (ls := L.map fun l => (l, eqOf told l)) h1 hne h2 h3 (by omega) T.htd T.hod T.htold ?_ hSr (by simpa using hsz) ?_ (by simp; exact (Nat.le_trans hLs (Nat.le_of_ble_eq_true rfl))) ?_ ht hu htok huok hSl htdc).mono ?_
  · intro x hx
    (refine x1_2 (List.mem_map.mp hx) ?_; intro l hl er1; obtain rfl := er1)
    exact eqOf_mem (hL l hl)
  · intro i v hv
    (refine x2_2 (hit i v hv) ?_; intro x tk a b)
    exact (i2_2 ((x, eqOf told x)) ( tk) ( by rw [List.getElem?_map, a]; rfl) ( b))
  · intro x hx
    (refine x1_2 (List.mem_map.mp hx) ?_; intro l hl er1; obtain rfl := er1)
    exact T.ok _ (eqOf_mem (hL l hl))
  · (intro r σ' zt1; obtain ⟨⟨c, rfl, hc⟩, hf, k', tk, hi'⟩ := zt1)
    refine ⟨(i1_2 (c) ( rfl) ( ?_)), hf, hne, _, hi', ?_, (i2_1 (k') ( tk) ( rfl)), by simp; omega, by first | exact ((List.lookup_cons).trans h5) | (rw [List.lookup_cons]; exact h5), by first | exact ((List.lookup_cons).trans h6) | (rw [List.lookup_cons]; exact h6)⟩
    · first | refine Mine.sb (hc) ?_ | rw [hc]
      have : (L.map fun l => (l, eqOf told l)).map (·.2) = L.map (eqOf told) := by rw [List.map_map]; rfl
      rw [this]
    · show List.lookup (Str.ofString "told") ((Str.ofString "asked", Value.int k' tk) :: fs) = _
      rw [List.lookup_cons]
      exact h2
end

open Classical in
noncomputable def del (P : List Str → Prop) : List Str → List Str → List Str
  | [], k => k
  | l :: r, k => if P (k.filter (· != l)) then del P r (k.filter (· != l)) else del P r k

section
variable {w : World} {σ : Led} {d : Nat}
theorem spec_cinit {x dx td : Addr} (hi : InsD σ x 448 dx []) (hne : x ≠ dx) :
    Spec w 418 [.ref x, .ref td] (d + 1) σ (fun r σ' => r = .none ∧ CoreI σ' x dx td 0 ∧ Fm dx σ σ') := by
  refine' spec_def (binds := [(Str.ofString "self", .ref x), (Str.ofString "told", .ref td)]) ?ho ?hcd ?hb ?hl ?hc ?h1 ?h2 ?h3 ?h
  k_enter
  intro X hw O hE
  subst hw
  repeat k_upd
  intro o1 i1
  have f1 : Fm dx σ (σ.set dx o1) := fun a o e q => by first | exact ((Led.set_ne q).trans e) | (rw [Led.set_ne q]; exact e)
  clear hi
  (generalize σ.set dx o1 = σ1 at *; revert σ1; refine bar ?_; set_option tactic.hygienic false in intros)
  repeat k_upd
  intro t1
  repeat k_upd
  intro o2 i2
  repeat k_upd
  exact (i0_3 (rfl) ( ⟨hne, _, i2, rfl, (i2_1 (0) ( t1) ( rfl)), Nat.le_refl _, rfl, rfl⟩) ( f1.trans fun a o e q => by first | exact ((Led.set_ne q).trans e) | (rw [Led.set_ne q]; exact e)))
end
end
section
--FILE FR
theorem rising_pairwise : ∀ (p : Str) (r : List Str), risingS p r = true → (p :: r).Pairwise fun a b => a.cps.toList ≤ b.cps.toList
  | p, [], _ => by simp
  | p, x :: r, h => by
    have h' : (!ltCps x.cps.toList p.cps.toList && risingS x r) = true := h
    rw [Bool.and_eq_true, ltCps_eq] at h'
    have h1 : p.cps.toList ≤ x.cps.toList := by
      have := h'.1
      simp only [Bool.not_eq_true', decide_eq_false_iff_not] at this
      exact List.not_lt.mp this
    have ih := rising_pairwise x r h'.2
    refine List.pairwise_cons.mpr ⟨fun y hy => ?_, ih⟩
    rcases List.mem_cons.mp hy with rfl | hy
    · exact h1
    · exact List.le_trans h1 ((List.pairwise_cons.mp ih).1 y hy)
theorem sorted_pairwise {l : List Str} (h : sortedS l = true) : l.Pairwise fun a b => a.cps.toList ≤ b.cps.toList := by
  cases l with
  | nil => exact .nil
  | cons x r => exact rising_pairwise x r h
theorem sorted_unique {a b : List Str} (ha : sortedS a = true) (hb : sortedS b = true) (h : a.Perm b) : a = b := by
  refine List.Perm.eq_of_pairwise (fun x y _ _ h1 h2 => ?_) (sorted_pairwise ha) (sorted_pairwise hb) h
  have := List.le_antisymm h1 h2
  cases x; cases y
  simp at this; rw [this]
theorem strs_at {vs : List Value} {ss : List Str} {k : Nat} {v : Value} (hs : StrsAre vs ss) (h : vs[k]? = some v) : ∃ x t, ss[k]? = some x ∧ v = .str x t := by
  induction hs generalizing k with
  | nil => cases h
  | cons x t hi ih =>
    cases k with
    | zero => simp at h; exact (i2_2 (x) ( t) ( rfl) ( h.symm))
    | succ k => simpa using ih (k := k) (by simpa using h)
theorem strs_len {vs : List Value} {ss : List Str} (h : StrsAre vs ss) : vs.length = ss.length := by
  induction h with
  | nil => rfl
  | cons x t _ ih => simp [ih]
noncomputable def neLab (l : Str) (v : Value) : Bool := match v with | .str x _ => x != l | _ => false
theorem strs_filter {vs : List Value} {ss : List Str} (l : Str) (h : StrsAre vs ss) : StrsAre (vs.filter (neLab l)) (ss.filter (· != l)) := by
  induction h with
  | nil => exact .nil
  | cons x t _ ih =>
    by_cases e : (x != l) = true
    · rw [List.filter_cons_of_pos (by exact e), List.filter_cons_of_pos (by exact e)]; exact .cons x t ih
    · rw [List.filter_cons_of_neg (by exact e), List.filter_cons_of_neg (by exact e)]; exact ih
theorem strs_reverse {vs : List Value} {ss : List Str} (h : StrsAre vs.reverse ss) : StrsAre vs ss.reverse := by
  have hl := strs_len h
  refine strsAre_of (by simpa using hl) fun j v k h1 h2 => ?_
  have hj : j < vs.length := by
    rcases Nat.lt_or_ge j vs.length with q | q
    · exact q
    · (first | exact nos (List.getElem?_eq_none q) h1 | exact nos h1 (List.getElem?_eq_none q) | (rw [List.getElem?_eq_none q] at h1; cases h1))
  have e1 : vs.reverse[vs.length - 1 - j]? = some v := by
    rw [List.getElem?_reverse (by omega)]
    rw [show vs.length - 1 - (vs.length - 1 - j) = j by omega]; exact h1
  (refine x2_2 (strs_at h e1) ?_; intro x t h3 er1; obtain rfl := er1)
  rw [List.getElem?_reverse (by simp at hl; exact (Nat.lt_of_lt_of_eq hj hl))] at h2
  rw [show ss.length - 1 - j = vs.length - 1 - j by simp at hl; omega] at h2
  (first | exact nos (h3) h2 | exact nos h2 (h3) | (rw [h3] at h2; cases h2))
  exact ⟨t, rfl⟩
theorem del_sub (P : List Str → Prop) : ∀ (r k : List Str), ∀ x ∈ del P r k, x ∈ k
  | [], k, x, h => h
  | l :: r, k, x, h => by
    unfold del at h
    split at h
    · exact (List.mem_filter.mp (del_sub P r _ x h)).1
    · exact del_sub P r k x h
theorem del_len (P : List Str → Prop) : ∀ (r k : List Str), (del P r k).length ≤ k.length
  | [], k => Nat.le_refl _
  | l :: r, k => by
    unfold del
    split
    · exact Nat.le_trans (del_len P r _) (List.length_filter_le ..)
    · exact del_len P r k
open Classical in
theorem del_snoc (P : List Str → Prop) : ∀ (r k : List Str) (l : Str), del P (r ++ [l]) k = if P ((del P r k).filter (· != l)) then (del P r k).filter (· != l) else del P r k
  | [], k, l => by
    by_cases h : P (k.filter (· != l)) <;> simp [del, h]
  | a :: r, k, l => by
    simp only [List.cons_append, del]
    split
    · exact del_snoc P r _ l
    · exact del_snoc P r k l

section
variable {w : World} {σ : Led} {d : Nat}
theorem spec_core {cx cd td : Addr} {od : Obj} {kvs : List (Str × Value)} {told : List (Str × Tm × Tm)} {t u : Tm} {vt vu : Value} {k : Nat}
    (hi : CoreI σ cx cd td k) (hk : k ≤ 200) (T : Told σ td od kvs w told)
    (ht : TmT σ t vt) (hu : TmT σ u vu) (htok : t.ok = true ∧ t.size ≤ 10 ∧ t.hgt ≤ 4) (huok : u.ok = true ∧ u.size ≤ 10 ∧ u.hgt ≤ 4) (htdc : td ≠ cd) :
    Spec w 430 [.ref cx, vt, vu] (d + 15) σ (fun r σ' => (∃ ss, ss.Perm (told.map (·.1)) ∧ sortedS ss = true ∧ ((¬ Ent (ss.map (eqOf told)) t u ∧ r = .none) ∨ (Ent (ss.map (eqOf told)) t u ∧
      ∃ a vs n, r = .ref a ∧ σ' a = some (tupOf vs n) ∧ StrsAre vs (del (fun L => Ent (L.map (eqOf told)) t u) ss.reverse ss)))) ∧ Fm cd σ σ' ∧ CoreI σ' cx cd td (k + 10)) := by
  refine' spec_defC (binds := [(Str.ofString "self", .ref cx), (Str.ofString "t", vt), (Str.ofString "u", vu)]) ?ho ?hcd ?hb ?hl ?hc ?h1 ?h2 ?h3 ?h
  case ho => k_is
  case hcd => k_is
  case hb => exact rfl
  case hl => exact rfl
  case hc => decide
  case h1 => exact rfl
  case h2 => exact rfl
  case h3 => exact rfl
  intro X cells hw O hE hlo hcells
  subst hw
  (refine x1_2 ((show CellsAre _ [(Str.ofString "label", X.env.locals + 1)] cells from hcells).one) ?_; intro oc er1 hoc; obtain rfl := er1)
  have hoc : oc.data = .cell none := hoc
  have hcn : σ (X.env.locals + 1) = none := by
    cases q : σ (X.env.locals + 1) with
    | none => rfl
    | some o => exact absurd (hlo _ o q) (Nat.not_lt.mpr (Nat.le_succ _))
  have s0 : Sub σ (σ.set (X.env.locals + 1) oc) := .new hcn
  have hcell : (σ.set (X.env.locals + 1) oc) (X.env.locals + 1) = some oc := Led.set_self
  show J X _ _ (σ.set (X.env.locals + 1) oc) _
  have f0 : Fm cd σ (σ.set (X.env.locals + 1) oc) := s0.fm
  (generalize σ.set (X.env.locals + 1) oc = σ0 at *; revert σ0; refine bar ?_; set_option tactic.hygienic false in intros)
  have hcd : X.env.locals + 1 ≠ cd := by
    rintro e
    (refine x2_1 hi.d ?_; intro es n q)
    rw [← e, hcn] at q; cases q
  have hi00 := hi
  have T00 := T
  have ht00 := ht
  have hu00 := hu
  replace hi := hi.sub s0
  replace T := T.sub s0
  replace ht := ht.tup s0.tup
  replace hu := hu.tup s0.tup
  clear s0
  obtain ⟨hne, fs, i1, i2, i3, i4⟩ := id hi
  repeat k_upd
  try (refine' j_attr ?u1 ?u2 ?u3 ?u4 ?u5 ?u6 ?u7 ?u8 ?_; (case u1 => exact O); (case u2 => exact i1); (case u3 => exact i2); (case u4 => k_is); (case u5 => k_is); (case u6 => k_is); (case u7 => k_is); (case u8 => exact rfl))
  have hkl : kvs.length ≤ 4 := by
    have := congrArg List.length T.keys
    simp at this; rw [this]; exact T.len
  refine j_sorted_dict O T.htd T.hod (by exact (Nat.lt_of_le_of_lt hkl (Nat.le_of_ble_eq_true rfl))) fun a1 vs ss e ha1 hvs hperm hsort => ?_
  have s1 : Sub σ0 (σ0.set a1 (lstOf vs e)) := .new ha1
  have h1a : (σ0.set a1 (lstOf vs e)) a1 = some (lstOf vs e) := Led.set_self
  (generalize σ0.set a1 (lstOf vs e) = σ1 at *; revert σ1; refine bar ?_; set_option tactic.hygienic false in intros)
  replace hi := hi.sub s1
  replace T := T.sub s1
  replace ht := ht.tup s1.tup
  replace hu := hu.tup s1.tup
  replace hcell := s1 _ _ hcell
  replace f0 := f0.trans (s1.fm (cd := cd))
  clear s1 i1 i2 i3 i4 ha1
  have hpk : ss.Perm (told.map (·.1)) := by rw [← T.keys]; exact hperm
  have hsl : ss.length ≤ 4 := by
    have := hpk.length_eq
    rw [List.length_map] at this; rw [this]; exact T.len
  have hsm : ∀ x ∈ ss, x ∈ told.map (·.1) := fun x hx => hpk.mem_iff.mp hx
  (refine x2_1 hi.d ?_; intro es1 n1 hcd1)
  have hva : ∀ {Lv : List Value} {L : List Str} (q : Addr) (kq : Nat), StrsAre Lv L → ∀ i v, (Src.list q Lv.toArray).item i v → ∃ x tk, L[i]? = some x ∧ v = .str x tk := fun q kq hL i v hv => strs_at hL (by simpa [Src.item] using hv)
  repeat k_upd
  obtain ⟨hne, fs, i1, i2, i3, i4, i5, i6⟩ := id hi
  repeat k_upd
  try (refine' j_meth ?a1 ?a2 ?a3 ?a4 ?a5 ?a6 ?_; (case a1 => exact O); (case a2 => exact i1); (case a3 => exact i5); (case a4 => k_is); (case a5 => k_is); (case a6 => k_is))
  repeat k_upd
  have hH := (spec_holdsL (d := d) (Sr := .list a1 vs.toArray) hi (by exact (Nat.le_trans hk (Nat.le_of_ble_eq_true rfl))) T hsm ⟨_, h1a, rfl, _, rfl⟩ (by simp [Src.size, strs_len hvs]) (hva a1 0 hvs) hsl ht hu htok huok (fun a e => by cases e; exact dne_of hcd1 h1a lcls) htdc)
  refine (hH.j rfl O (by exact (Nat.le_refl _))).mono1 ?_
  (intro r σ2 zr1; refine x0_3 zr1 ?_; clear zr1; (intro zt2 f2 c2; refine x1_2 zt2 ?_; clear zt2; intro c er3 hc; obtain rfl := er3))
  have tp2 := f2.tup hi
  have h1a2 := f2 _ _ h1a (dne_of hcd1 h1a lcls)
  have hcell2 := f2 _ _ hcell hcd
  replace T := T.fm f2 hi htdc
  replace ht := ht.tup tp2
  replace hu := hu.tup tp2
  replace f0 := f0.trans f2
  clear i1 i2 i3 i4 i5 i6 hi h1a hcell hcd1 f2 tp2 hH
  have hi := c2
  clear c2
  repeat k_upd
  by_cases hP : Ent (ss.map (eqOf told)) t u
  · obtain rfl : c = true := hc.mpr hP
    repeat k_upd
    k_places
    refine' j_CallRev ?b1 ?b2 ?b3 ?b4 ?_
    case b1 => exact O
    case b2 => k_mem
    case b3 => k_is
    case b4 => exact rfl
    obtain ⟨hne, fs, i1, i2, i3, i4, i5, i6⟩ := id hi
    repeat k_upd
    try (refine' j_attr ?c1 ?c2 ?c3 ?c4 ?c5 ?c6 ?c7 ?c8 ?_; (case c1 => exact O); (case c2 => exact i1); (case c3 => exact i2); (case c4 => k_is); (case c5 => k_is); (case c6 => k_is); (case c7 => k_is); (case c8 => exact rfl))
    refine j_sorted_dict_rev O T.htd T.hod (by exact (Nat.lt_of_le_of_lt hkl (Nat.le_of_ble_eq_true rfl))) fun a2 rvs ss' e2 ha2 hrv hperm2 hsort2 => ?_
    obtain rfl : ss' = ss := sorted_unique hsort2 hsort (hperm2.trans hperm.symm)
    have s3 : Sub σ2 (σ2.set a2 (lstOf rvs e2)) := .new ha2
    have h2a : (σ2.set a2 (lstOf rvs e2)) a2 = some (lstOf rvs e2) := Led.set_self
    (generalize σ2.set a2 (lstOf rvs e2) = σ3 at *; revert σ3; refine bar ?_; set_option tactic.hygienic false in intros)
    have hrv' := strs_reverse hrv
    replace hi := hi.sub s3
    replace T := T.sub s3
    replace ht := ht.tup s3.tup
    replace hu := hu.tup s3.tup
    have h1a := s3 _ _ h1a2
    have hcell := s3 _ _ hcell2
    replace f0 := f0.trans (s3.fm (cd := cd))
    clear s3 i1 i2 i3 i4 i5 i6 ha2 h1a2 hcell2
    have hrl := strs_len hrv'
    have hzr : (Src.list a2 rvs.toArray).size = ss'.length := by simp [Src.size, hrl]
    let Iv1 : Nat → Loc → Led → Prop := fun i m' σ' => ∃ ka kv kn oc' dv, m' (Str.ofString "kept") = some (.ref ka) ∧ m' (Str.ofString "self") = some (.ref cx) ∧ m' (Str.ofString "t") = some vt ∧ m' (Str.ofString "u") = some vu ∧
      σ' ka = some (lstOf kv kn) ∧ StrsAre kv (del (fun L => Ent (L.map (eqOf told)) t u) (ss'.reverse.take i) ss') ∧ CoreI σ' cx cd td (k + 1 + i) ∧ Fm cd σ σ' ∧ Told σ' td od kvs X.w told ∧ TmT σ' t vt ∧ TmT σ' u vu ∧ σ' (X.env.locals + 1) = some oc' ∧ oc'.data = .cell dv ∧ σ' a2 = some (lstOf rvs e2)
    refine ⟨.list a2 rvs.toArray, rfl, ⟨_, h2a, rfl, _, rfl⟩, Iv1,
      (i5_14 (a1) ( vs) ( e) ( oc) ( none) ( by k_mem) ( rfl) ( rfl) ( rfl) ( h1a) ( by simpa [del] using hvs) ( hi) ( f0) ( T) ( ht) ( hu) ( hcell) ( hoc) ( h2a)), ?_, ?_⟩
    · (intro p i v m2 σ4 O' hil hv zr1 _; refine x5_14 zr1 ?_; clear zr1; intro ka kv kn oc' dv m3 m4 m5 m6 hka hkv hi4 f4 T4 ht4 hu4 hcell4 hoc4 h2a4)
      have hE2 : (X.kept p).env = _ := hE
      obtain ⟨l, tl, hli, rfl⟩ := strs_at hrv' (show rvs[i]? = some v by simpa [Src.item] using hv)
      have hil' := get_lt hli
      simp at hil'
      have htake : ss'.reverse.take (i + 1) = ss'.reverse.take i ++ [l] := by rw [List.take_add_one, hli]; rfl
      (refine x2_1 hi4.d ?_; intro es4 n4 hcd4)
      repeat k_upd
      refine' j_store_cell ?e1 ?e2 ?e3 ?e4 ?e5 ?_
      case e1 => exact O'
      case e2 => k_mem
      case e3 => (refine' cells_eq ?h9 ?k9; (case h9 => exact hE2); (case k9 => exact rfl))
      case e4 => exact hcell4
      case e5 => exact hoc4
      intro oc5 hoc5
      have nca : ∀ {a : Addr} {Lv : List Value} {n : Nat}, σ4 a = some (lstOf Lv n) → a ≠ X.env.locals + 1 := fun e q => by
        subst q; (first | exact nos (hcell4) e | exact nos e (hcell4) | (rw [hcell4] at e; cases e)); cases hoc4
      have f5 : Fm cd σ (σ4.set (X.env.locals + 1) oc5) := fun a o e q => by
        rw [Led.set_ne (by rintro rfl; (first | exact nos (hcn) e | exact nos e (hcn) | (rw [hcn] at e; cases e)))]; exact f4 a o e q
      have hi5 : CoreI (σ4.set (X.env.locals + 1) oc5) cx cd td (k + 1 + i) := by
        obtain ⟨h0, fs, h1, h2⟩ := hi4
        refine ⟨h0, fs, h1.keep (fun o e => ?_) (fun o e => by first | exact ((Led.set_ne hcd.symm).trans e) | (rw [Led.set_ne hcd.symm]; exact e)), h2⟩
        rw [Led.set_ne]; exact e
        rintro rfl
        obtain ⟨_, fs', h3, _⟩ := hi00
        (first | exact nos (h3.x) hcn | exact nos hcn (h3.x) | (rw [h3.x] at hcn; cases hcn))
      have hka5 : (σ4.set (X.env.locals + 1) oc5) ka = some (lstOf kv kn) := by first | exact ((Led.set_ne (nca hka)).trans hka) | (rw [Led.set_ne (nca hka)]; exact hka)
      have h2a5 : (σ4.set (X.env.locals + 1) oc5) a2 = some (lstOf rvs e2) := by first | exact ((Led.set_ne (nca h2a4)).trans h2a4) | (rw [Led.set_ne (nca h2a4)]; exact h2a4)
      have hcell5 : (σ4.set (X.env.locals + 1) oc5) (X.env.locals + 1) = some oc5 := Led.set_self
      clear hi4 f4 T4 ht4 hu4 hcell4 hoc4 h2a4 hka nca hcd4
      (generalize σ4.set (X.env.locals + 1) oc5 = σ5 at *; revert σ5; refine bar ?_; set_option tactic.hygienic false in intros)
      have T5 := T00.fm f5 hi00 htdc
      have ht5 := ht00.tup (f5.tup hi00)
      have hu5 := hu00.tup (f5.tup hi00)
      repeat k_upd
      ((refine' j_filterAssign ?aq6 ?swq6 ?bq6 ?cq6 ?dq6 ?eq6 ?fq6 ?yq6 ?_); (case aq6 => assumption); (case swq6 | bq6 => k_mem); (case cq6 => decide); (case dq6 => exact rfl); (case eq6 => decide); (case fq6 | yq6 => k_mem))
      repeat k_upd
      refine ⟨.list ka kv.toArray, kv, rfl, ⟨_, hka5, rfl, _, rfl⟩, by simp [Src.size], fun i v h => by simpa [Src.item] using h, ?_, neLab l, ?_, ?_⟩
      · have := strs_len hkv
        have := del_len (fun L => Ent (L.map (eqOf told)) t u) (ss'.reverse.take i) ss'
        omega
      · intro X' v mc σ6 O6 hw6 hE6 hvm hs6
        rw [hE2] at hE6
        obtain ⟨j, hj⟩ := List.getElem?_of_mem hvm
        (refine x2_2 (strs_at hkv hj) ?_; intro x tx hx er1; obtain rfl := er1)
        have hcell6 := hs6 _ _ hcell5
        repeat k_upd
        refine ⟨rfl, ?_⟩
        by_cases hq : neLab l (.str x tx) = true
        · rw [if_pos hq]
          repeat k_upd
          exact ⟨rfl, hs6⟩
        · rw [if_neg hq]
          exact hs6
      · intro σ6 D kk hs6 hD
        have s7 : Sub σ5 (σ6.set D (lstOf (kv.filter (neLab l)) kk)) := hs6.trans (.new hD)
        have hD7 : (σ6.set D (lstOf (kv.filter (neLab l)) kk)) D = some (lstOf (kv.filter (neLab l)) kk) := Led.set_self
        have f7 : Fm cd σ (σ6.set D (lstOf (kv.filter (neLab l)) kk)) := f5.trans s7.fm
        (generalize σ6.set D (lstOf (kv.filter (neLab l)) kk) = σ7 at *; revert σ7; refine bar ?_; set_option tactic.hygienic false in intros)
        have hfl := strs_filter l hkv
        have hi7 := hi5.sub s7
        have T7 := T5.sub s7
        have ht7 := ht5.tup s7.tup
        have hu7 := hu5.tup s7.tup
        have hka7 := s7 _ _ hka5
        have h2a7 := s7 _ _ h2a5
        have hcell7 := s7 _ _ hcell5
        clear hs6 hD s7 f5 hi5 T5 ht5 hu5 hka5 h2a5 hcell5
        obtain ⟨hne, fs, i1, i2, i3, i4, i5, i6⟩ := id hi7
        (refine x2_1 hi7.d ?_; intro es7 n7 hcd7)
        have hdl := del_len (fun L => Ent (L.map (eqOf told)) t u) (ss'.reverse.take i) ss'
        have hkl2 := strs_len hfl
        have hfl2 := List.length_filter_le (fun x => x != l) (del (fun L => Ent (L.map (eqOf told)) t u) (ss'.reverse.take i) ss')
        have e1 : rvs.toArray.size ≤ 4 := by simp [hrl]; exact hsl
        have hil2 : i < 4 := by have : i < rvs.toArray.size := hil; exact (Nat.lt_of_lt_of_le hil' hsl)
        repeat k_upd
        try (refine' j_meth ?f1 ?f2 ?f3 ?f4 ?f5 ?f6 ?_; (case f1 => exact O'); (case f2 => exact i1); (case f3 => exact i5); (case f4 => k_is); (case f5 => k_is); (case f6 => k_is))
        repeat k_upd
        have hH := (spec_holdsL (d := d) (L := (del (fun L => Ent (L.map (eqOf told)) t u) (ss'.reverse.take i) ss').filter (· != l)) (Sr := .list D (kv.filter (neLab l)).toArray) hi7 (by omega) T7 (fun x hx => hsm x (del_sub _ _ _ x (List.mem_filter.mp hx).1)) ⟨_, hD7, rfl, _, rfl⟩ (by simp [Src.size, hkl2]) (hva D 0 hfl) (by exact (Nat.le_trans (Nat.le_trans hfl2 hdl) hsl)) ht7 hu7 htok huok (fun a e => by cases e; exact dne_of hcd7 hD7 lcls) htdc)
        refine (hH.j (X := X.kept p) rfl O' (by exact (Nat.le_refl _))).mono1 ?_
        (intro r σ8 zr1; refine x0_3 zr1 ?_; clear zr1; (intro zt2 f8 c9; refine x1_2 zt2 ?_; clear zt2; intro c8 er3 hc8; obtain rfl := er3))
        have hka8 := f8 _ _ hka7 (dne_of hcd7 hka7 lcls)
        have h2a8 := f8 _ _ h2a7 (dne_of hcd7 h2a7 lcls)
        have hD8 := f8 _ _ hD7 (dne_of hcd7 hD7 lcls)
        have hcell8 := f8 _ _ hcell7 hcd
        have f9 := f7.trans f8
        have T9 := T00.fm f9 hi00 htdc
        have ht9 := ht00.tup (f9.tup hi00)
        have hu9 := hu00.tup (f9.tup hi00)
        repeat k_upd
        by_cases hP8 : Ent (((del (fun L => Ent (L.map (eqOf told)) t u) (ss'.reverse.take i) ss').filter (· != l)).map (eqOf told)) t u
        · obtain rfl : c8 = true := hc8.mpr hP8
          have hdn : del (fun L => Ent (L.map (eqOf told)) t u) (ss'.reverse.take (i + 1)) ss' = (del (fun L => Ent (L.map (eqOf told)) t u) (ss'.reverse.take i) ss').filter (· != l) := by
            rw [htake, del_snoc]; exact if_pos hP8
          repeat k_upd
          exact ⟨(i5_14 (D) ( _) ( kk) ( oc5) ( _) ( by k_mem) ( by k_mem) ( by k_mem) ( by k_mem) ( hD8) ( by first | exact ((hdn).trans hfl) | (rw [hdn]; exact hfl)) ( c9.mono (by exact (Nat.le_refl _))) ( f9) ( T9) ( ht9) ( hu9) ( hcell8) ( hoc5) ( h2a8)), ⟨_, h2a8, rfl, _, rfl⟩⟩
        · have : c8 = false := by
            cases c8 with
            | false => rfl
            | true => exact absurd (hc8.mp rfl) hP8
          subst this
          have hdn : del (fun L => Ent (L.map (eqOf told)) t u) (ss'.reverse.take (i + 1)) ss' = del (fun L => Ent (L.map (eqOf told)) t u) (ss'.reverse.take i) ss' := by
            rw [htake, del_snoc]; exact if_neg hP8
          repeat k_upd
          exact ⟨(i5_14 (ka) ( kv) ( kn) ( oc5) ( _) ( by k_mem) ( by k_mem) ( by k_mem) ( by k_mem) ( hka8) ( by first | exact ((hdn).trans hkv) | (rw [hdn]; exact hkv)) ( c9.mono (by exact (Nat.le_refl _))) ( f9) ( T9) ( ht9) ( hu9) ( hcell8) ( hoc5) ( h2a8)), ⟨_, h2a8, rfl, _, rfl⟩⟩
    · (intro m2 σ4 zr1 _; refine x5_14 zr1 ?_; clear zr1; intro ka kv kn oc' dv m3 m4 m5 m6 hka hkv hi4 f4 T4 ht4 hu4 hcell4 hoc4 h2a4)
      rw [hzr, show ss'.reverse.take ss'.length = ss'.reverse by rw [← List.length_reverse, List.take_length]] at hkv
      have hln := strs_len hkv
      have hdl := del_len (fun L => Ent (L.map (eqOf told)) t u) ss'.reverse ss'
      repeat k_upd
      refine j_tuple_list hka (by exact (Nat.le_trans (Nat.le_trans (Nat.le_trans (Nat.le_of_eq hln) hdl) hsl) (Nat.le_of_ble_eq_true rfl))) fun ta hta => ?_
      refine (i0_3 ((i1_3 (ss') ( hpk) ( hsort) ( .inr ⟨hP, ta, kv, 0, rfl, Led.set_self, hkv⟩))) ( f4.trans (Sub.new hta).fm) ( (hi4.sub (.new hta)).mono (by rw [hzr]; omega)))
  · have : c = false := by
      cases c with
      | false => rfl
      | true => exact absurd (hc.mp rfl) hP
    subst this
    repeat k_upd
    exact (i0_3 ((i1_3 (ss) ( hpk) ( hsort) ( .inl ⟨hP, rfl⟩))) ( f0) ( hi.mono (by exact (Nat.add_le_add_left (Nat.le_of_ble_eq_true (rfl : Nat.ble 1 10 = true)) _))))
end
end
section
--FILE FS
noncomputable def Deal (σ : Led) (da : Addr) (cells : List Int) (spot : Nat) : Prop := ∃ vs t n, σ da = some (lstOf (vs ++ [.int (spot : Nat) t]) n) ∧ IntsAre vs cells

section
variable {w : World} {σ : Led} {d : Nat}
theorem spec_figure {da : Addr} {cells : List Int} {spot b : Nat} {tb : Tok} (h : Deal σ da cells spot) (hc : cells.length ≤ 100) (hs : spot ≤ 1000) (hb : 0 < b) :
    Spec w 459 [.ref da, .int b tb] (d + 1) σ (fun r σ' => (∃ z t, z < b ∧ r = .int (z : Nat) t) ∧ Deal σ' da cells (spot + 1) ∧ ∀ a o, σ a = some o → a ≠ da → σ' a = some o) := by
  refine' spec_def (binds := [(Str.ofString "deal", .ref da), (Str.ofString "below_it", .int b tb)]) ?ho ?hcd ?hb ?hl ?hc ?h1 ?h2 ?h3 ?h
  k_enter
  intro X hw O hE
  subst hw
  (refine x3_2 h ?_; clear h; intro vs t1 n hda hvs)
  have hvl := hvs.length_eq
  repeat k_upd
  refine j_list_pop_m hda ?_
  repeat k_upd
  refine j_pop hda (by exact (Nat.lt_of_le_of_lt (Nat.le_trans (Nat.le_of_eq hvl) hc) (Nat.le_of_ble_eq_true rfl))) ?_
  repeat k_upd
  refine j_list_append_m Led.set_self ?_
  repeat k_upd
  intro t2
  repeat k_upd
  intro t3
  refine j_append Led.set_self (by exact (Nat.le_trans (Nat.le_trans (Nat.le_of_eq hvl) hc) (Nat.le_of_ble_eq_true rfl))) ?_
  have f2 : ∀ a o, σ a = some o → a ≠ da → ((σ.set da (lstOf vs (n + 1))).set da (lstOf (vs ++ [.int (spot + 1) t3]) (n + 1 + 1))) a = some o := fun a o e q => by first | exact ((Led.set_ne q).trans ((Led.set_ne q).trans e)) | (rw [Led.set_ne q, Led.set_ne q]; exact e)
  have h2 : ((σ.set da (lstOf vs (n + 1))).set da (lstOf (vs ++ [.int (spot + 1) t3]) (n + 1 + 1))) da = some (lstOf (vs ++ [.int (spot + 1) t3]) (n + 1 + 1)) := Led.set_self
  clear hda
  (generalize (σ.set da (lstOf vs (n + 1))).set da (lstOf (vs ++ [.int (spot + 1) t3]) (n + 1 + 1)) = σ2 at *; revert σ2; refine bar ?_; set_option tactic.hygienic false in intros)
  have fin : ∀ (c : Int) (t7 : Tok), (∃ z t, z < b ∧ flowVal (.ret (.int ((c.fmod 1009).fmod b) t7)) = .int (z : Nat) t) ∧ Deal σ2 da cells (spot + 1) ∧ ∀ a o, σ a = some o → a ≠ da → σ2 a = some o := by
    intro c t7
    have h0 : 0 ≤ (c.fmod 1009).fmod b := Int.fmod_nonneg_of_pos _ (by omega)
    have h1 : (c.fmod 1009).fmod b < b := Int.fmod_lt_of_pos _ (by omega)
    refine (i0_3 ((i2_2 (((c.fmod 1009).fmod b).toNat) ( t7) ( by omega) ( ?_))) ( (i3_2 (vs) ( t3) ( _) ( h2) ( hvs))) ( f2))
    show Value.int _ _ = _
    rw [Int.toNat_of_nonneg h0]
  repeat k_upd
  refine j_len_list h2 (by simp; exact (Nat.le_trans (Nat.le_trans (Nat.le_of_eq hvl) hc) (Nat.le_of_ble_eq_true rfl))) fun t4 => ?_
  repeat k_upd
  intro t5
  repeat k_upd
  intro t6
  repeat k_upd
  by_cases hq : spot < cells.length
  · refine Mine.sb (show decide ((spot : Int) < ((vs ++ [Value.int (spot + 1) t3]).length : Nat) - 1) = true from decide_eq_true (by simp; exact (Nat.lt_of_lt_of_eq hq (Eq.symm hvl)))) ?_
    (refine x2_1 (ints_at hvs hq) ?_; intro z tz hz)
    repeat k_upd
    refine j_at_list spot (by rfl) h2 (by first | exact ((List.getElem?_append_left (by exact (Nat.lt_of_lt_of_eq hq (Eq.symm hvl)))).trans hz) | (rw [List.getElem?_append_left (by exact (Nat.lt_of_lt_of_eq hq (Eq.symm hvl)))]; exact hz)) (by exact (Nat.lt_of_le_of_lt hs (Nat.le_of_ble_eq_true rfl))) ?_ (by rfl)
    repeat k_upd
    intro t7
    repeat k_upd
    refine j_mod (by decide) fun t8 => ?_
    repeat k_upd
    refine j_mod (by omega) fun t9 => ?_
    exact fin _ _
  · refine Mine.sb (show decide ((spot : Int) < ((vs ++ [Value.int (spot + 1) t3]).length : Nat) - 1) = false from decide_eq_false (by simp; exact (Nat.le_trans (Nat.le_of_eq hvl) (Nat.le_of_not_lt hq)))) ?_
    have hbits : Builtin.Int.intBits (spot : Int) ≤ 64 := PySem.intBits_le_64 (by omega) (by omega)
    repeat k_upd
    refine j_mulS hbits fun t7 => ?_
    repeat k_upd
    intro t8
    repeat k_upd
    refine j_mulS (by decide) fun t9 => ?_
    repeat k_upd
    intro t10
    repeat k_upd
    intro t11
    repeat k_upd
    intro t12
    repeat k_upd
    intro t13
    repeat k_upd
    refine j_mod (by decide) fun t14 => ?_
    repeat k_upd
    refine j_mod (by omega) fun t15 => ?_
    exact fin _ _
end
end
section
--FILE FT
theorem abc_at {k : Nat} (h : k < 3) : ∃ c, (Str.ofString "abc").cps[k]? = some c ∧ opC c = true := by
  have : k = 0 ∨ k = 1 ∨ k = 2 := by omega
  rcases this with rfl | rfl | rfl
  · exact ⟨97, rfl, rfl⟩
  · exact ⟨98, rfl, rfl⟩
  · exact ⟨99, rfl, rfl⟩
theorem fg_at {k : Nat} (h : k < 2) : ∃ c, (Str.ofString "fg").cps[k]? = some c ∧ opC c = true := by
  have : k = 0 ∨ k = 1 := by omega
  rcases this with rfl | rfl
  · exact ⟨102, rfl, rfl⟩
  · exact ⟨103, rfl, rfl⟩
noncomputable def FmD (da : Addr) (σ σ' : Led) : Prop := ∀ a o, σ a = some o → a ≠ da → σ' a = some o
theorem FmD.trans {cd : Addr} {σ σ' σ'' : Led} (h : FmD cd σ σ') (h' : FmD cd σ' σ'') : FmD cd σ σ'' := fun a o e q => h' a o (h a o e q) q
theorem Sub.fmD {cd : Addr} {σ σ' : Led} (h : Sub σ σ') : FmD cd σ σ' := fun a o e _ => h a o e
theorem FmD.tup {da : Addr} {σ σ' : Led} {cells : List Int} {spot : Nat} (h : FmD da σ σ') (c : Deal σ da cells spot) : Tup σ σ' := fun a o e hc => h a o e (by
  rintro rfl
  (refine x3_2 c ?_; clear c; intro vs t n q _)
  (first | exact nos (q) e | exact nos e (q) | (rw [q] at e; cases e)); exact absurd hc ltup)
theorem Deal.sub {σ σ' : Led} {da : Addr} {cells : List Int} {spot : Nat} (h : Deal σ da cells spot) (s : Sub σ σ') : Deal σ' da cells spot := by
  (refine x3_2 h ?_; clear h; intro vs t n q r)
  exact (i3_2 (vs) ( t) ( n) ( s _ _ q) ( r))

section
variable {w : World} {σ : Led} {d : Nat}
theorem spec_small {da : Addr} {cells : List Int} {spot : Nat} (h : Deal σ da cells spot) (hc : cells.length ≤ 100) (hs : spot ≤ 900) :
    Spec w 464 [.ref da] (d + 2) σ (fun r σ' => (∃ t : Tm, t.ok = true ∧ t.size ≤ 3 ∧ t.hgt ≤ 1 ∧ TmT σ' t r) ∧ (∃ j, j ≤ 3 ∧ Deal σ' da cells (spot + j)) ∧ FmD da σ σ') := by
  refine' spec_defC (binds := [(Str.ofString "deal", .ref da)]) ?ho ?hcd ?hb ?hl ?hc ?h1 ?h2 ?h3 ?h
  case ho => k_is
  case hcd => k_is
  case hb => exact rfl
  case hl => exact rfl
  case hc => decide
  case h1 => exact rfl
  case h2 => exact rfl
  case h3 => exact rfl
  intro X cells' hw O hE hlo hcells
  subst hw
  (refine x1_2 ((show CellsAre _ [(Str.ofString "deal", X.env.locals + 1)] cells' from hcells).one) ?_; intro oc er1 hoc; obtain rfl := er1)
  replace hoc : oc.data = .cell (some (.ref da)) := hoc
  have hcn : σ (X.env.locals + 1) = none := by
    cases q : σ (X.env.locals + 1) with
    | none => rfl
    | some o => exact absurd (hlo _ o q) (Nat.not_lt.mpr (Nat.le_succ _))
  have s0 : Sub σ (σ.set (X.env.locals + 1) oc) := .new hcn
  have hcell : (σ.set (X.env.locals + 1) oc) (X.env.locals + 1) = some oc := Led.set_self
  show J X _ _ (σ.set (X.env.locals + 1) oc) _
  have f0 : FmD da σ (σ.set (X.env.locals + 1) oc) := s0.fmD
  (generalize σ.set (X.env.locals + 1) oc = σ0 at *; revert σ0; refine bar ?_; set_option tactic.hygienic false in intros)
  have hcd : X.env.locals + 1 ≠ da := by
    rintro e
    (refine x3_2 h ?_; clear h; intro vs t n q _)
    rw [← e, hcn] at q; cases q
  replace h := h.sub s0
  clear s0
  repeat k_upd
  intro t5
  refine ((spec_figure (d := d) (b := 5) h hc (by exact (Nat.le_trans hs (Nat.le_of_ble_eq_true rfl))) (by decide)).j rfl O).mono1 ?_
  (intro r σ1 zr1; refine x0_3 zr1 ?_; clear zr1; (intro zt2 h1 f1; refine x2_2 zt2 ?_; clear zt2; intro way tw hway er3; obtain rfl := er3))
  have hcell1 := f1 _ _ hcell hcd
  replace f0 : FmD da σ σ1 := f0.trans f1
  clear hcell f1 h
  repeat k_upd
  intro t6
  repeat k_upd
  by_cases hq : way < 3
  · refine Mine.sb (show decide ((way : Int) < 3) = true from decide_eq_true (by omega)) ?_
    (refine x1_2 (abc_at hq) ?_; intro c hc1 hc2)
    repeat k_upd
    intro t7
    repeat k_upd
    refine j_at_str way (by rfl) trivial hc1 (by exact (Nat.lt_of_lt_of_le hway (Nat.le_of_ble_eq_true rfl))) (fun t8 => ?_) (by rfl)
    repeat k_upd
    intro a ha
    exact (i0_3 (⟨.lf c, hc2, Nat.le_of_ble_eq_true rfl, Nat.zero_le _, a, 0, t8, rfl, Led.set_self⟩) ( (i1_2 (1) ( by exact (Nat.le_add_left _ _)) ( h1.sub (.new ha)))) ( f0.trans (Sub.new ha).fmD))
  · refine Mine.sb (show decide ((way : Int) < 3) = false from decide_eq_false (by omega)) ?_
    (refine x1_2 (fg_at (show way - 3 < 2 by omega)) ?_; intro c hc1 hc2)
    repeat k_upd
    intro t7
    repeat k_upd
    intro t8
    repeat k_upd
    intro t9
    refine j_at_str (way - 3) (by omega) trivial hc1 (by omega) (fun t10 => ?_) (by rfl)
    repeat k_upd
    intro a2 ha2
    have s2 : Sub σ1 (σ1.set a2 (tupOf [.str (opS c) t10] 0)) := .new ha2
    have h2a : (σ1.set a2 (tupOf [.str (opS c) t10] 0)) a2 = some (tupOf [.str (opS c) t10] 0) := Led.set_self
    replace h1 := h1.sub s2
    replace hcell1 := s2 _ _ hcell1
    replace f0 := f0.trans (s2.fmD (cd := da))
    clear s2 ha2
    show J X _ _ (σ1.set a2 (tupOf [.str (opS c) t10] 0)) _
    (generalize σ1.set a2 (tupOf [.str (opS c) t10] 0) = σ2 at *; revert σ2; refine bar ?_; set_option tactic.hygienic false in intros)
    repeat k_upd
    ((refine' j_ListComp ?aq7 ?bq7 ?cq7 ?dq7 ?eq7 ?fq7 ?_); (case aq7 => assumption); (case bq7 => k_mem); (case cq7 => decide); (case dq7 => exact rfl); (case eq7 => decide); (case fq7 => k_mem))
    repeat k_upd
    intro t11
    repeat k_upd
    intro t12
    refine Mine.sb (show ((way : Int) - 2) = ((way - 2 : Nat) : Int) by omega) ?_
    refine j_range fun ra u1 u2 hra => ?_
    have s3 : Sub σ2 (σ2.set ra { cls := .type "range", data := .fields #[.int 0 u1, .int (way - 2 : Nat) t12, .int 1 u2] }) := .new hra
    have hrg : (σ2.set ra { cls := .type "range", data := .fields #[.int 0 u1, .int (way - 2 : Nat) t12, .int 1 u2] }) ra = some { cls := .type "range", data := .fields #[.int 0 u1, .int (way - 2 : Nat) t12, .int 1 u2] } := Led.set_self
    (generalize σ2.set ra { cls := .type "range", data := .fields #[.int 0 u1, .int (way - 2 : Nat) t12, .int 1 u2] } = σ3 at *; revert σ3; refine bar ?_; set_option tactic.hygienic false in intros)
    have hda3 : ra ≠ da := by
      rintro rfl
      (refine x3_2 h1 ?_; clear h1; intro vs t n q _)
      (first | exact nos (hra) q | exact nos q (hra) | (rw [hra] at q; cases q))
    replace h1 := h1.sub s3
    replace hcell1 := s3 _ _ hcell1
    replace h2a := s3 _ _ h2a
    replace f0 := f0.trans (s3.fmD (cd := da))
    clear s3 hra
    have rok : ∀ {σ' : Led}, FmD da σ3 σ' → (Src.range ra (way - 2)).ok σ' := fun f => ⟨by omega, _, f _ _ hrg hda3, u1, t12, u2, rfl⟩
    let Iv1 : Nat → List Value → Loc → Led → Prop := fun i ys _ σ' => i ≤ way - 2 ∧ Deal σ' da cells (spot + 1 + i) ∧ FmD da σ3 σ' ∧ ∃ cs : List Nat, cs.length = i ∧ ys.length = i ∧ ∀ (j : Nat) e y, cs[j]? = some e → ys[j]? = some y → opC e = true ∧ TmT σ' (.lf e) y
    refine ⟨.range ra (way - 2), rfl, rok fun a o e _ => e, Iv1,
      ⟨Nat.zero_le _, h1, fun a o e _ => e, [], rfl, rfl, fun j e y h => by simp at h⟩, fun i ys _ _ h => by obtain ⟨h, _, _, cs, _, h2, _⟩ := h; omega, ?_, ?_⟩
    · (intro X' i v ys mc σ4 O' hw' hE' hil zt1 zt3 _; refine x1_1 zt1 ?_; clear zt1; intro tv er2; obtain rfl := er2; obtain ⟨hi1, hD4, f4, cs, hcl, hyl, hcs⟩ := zt3)
      (rw [hE] at hE'; replace hE' := hE')
      have hcell4 := f4 _ _ hcell1 hcd
      have hil' : i < way - 2 := hil
      repeat k_upd
      intro t13
      repeat k_upd
      intro t14
      refine ((spec_figure (d := d) (b := 3) hD4 hc (by omega) (by decide)).j hw' O').mono1 ?_
      (intro r σ5 zt1; refine x0_3 zt1 ?_; clear zt1; intro zt3 h5 f5; refine x2_2 zt3 ?_; clear zt3; intro z tz hz er4; obtain rfl := er4)
      (refine x1_2 (abc_at hz) ?_; intro e he1 he2)
      refine j_at_str z (by rfl) trivial he1 (by exact (Nat.lt_of_lt_of_le hz (Nat.le_of_ble_eq_true rfl))) (fun t15 => ?_) (by rfl)
      repeat k_upd
      intro a6 ha6
      have s6 : Sub σ5 (σ5.set a6 (tupOf [.str (opS e) t15] 0)) := .new ha6
      have f6 : FmD da σ4 (σ5.set a6 (tupOf [.str (opS e) t15] 0)) := FmD.trans f5 s6.fmD
      refine ⟨⟨hil', h5.sub s6, f4.trans f6, cs ++ [e], by simp [hcl], by simp [hyl], fun j e' y hj hy => ?_⟩, rok (f4.trans f6)⟩
      rw [List.getElem?_append] at hj hy
      split at hj
      · rename_i hlt
        rw [if_pos (by exact (Nat.lt_of_lt_of_eq (Nat.lt_of_lt_of_eq hlt hcl) (Eq.symm hyl)))] at hy
        (refine x0_2 (hcs j e' y hj hy) ?_; intro b1 b2)
        exact ⟨b1, b2.tup (f6.tup hD4)⟩
      · rename_i hlt
        rw [if_neg (by exact (Nat.not_lt_of_le (Nat.le_trans (Nat.le_trans (Nat.le_of_eq hyl) (Nat.le_of_eq (Eq.symm hcl))) (Nat.le_of_not_lt hlt))))] at hy
        (refine x0_2 (last_get hj) ?_; intro _ er1; obtain rfl := er1)
        (refine x0_2 (last_get hy) ?_; intro _ er1; obtain rfl := er1)
        exact ⟨he2, a6, 0, t15, rfl, Led.set_self⟩
    · (intro ys mc σ4 D k zt1 _ hDn; obtain ⟨hi1, hD4, f4, cs, hcl, hyl, hcs⟩ := zt1)
      have hsz : (Src.range ra (way - 2)).size = way - 2 := rfl
      rw [hsz] at hD4 hcl hyl
      have s5 : Sub σ4 (σ4.set D (lstOf ys k)) := .new hDn
      refine j_tuple_list Led.set_self (by omega) fun ta hta => ?_
      have s6 : Sub σ4 ((σ4.set D (lstOf ys k)).set ta (tupOf ys 0)) := s5.trans (.new hta)
      have h2a4 := f4 _ _ h2a (by
        rintro rfl
        (refine x3_2 h1 ?_; clear h1; intro vs t n q _)
        rw [h2a] at q; exact absurd (show Value.type "tuple" = Value.type "list" from congrArg Obj.cls (Option.some.inj q)) (by decide))
      refine j_add_tuple (vs := [.str (opS c) t10]) (ws := ys) (n := 0) (n2 := 0) (s6 _ _ h2a4) Led.set_self (by simp) (by simp; omega) ?_
      intro na σ7 nn s7 _ hna
      have s8 := s6.trans s7
      have hcs' : ∀ (j : Nat) e y, cs[j]? = some e → ys[j]? = some y → opC e = true ∧ TmT σ7 (.lf e) y := fun j e y h1 h2 => let ⟨b1, b2⟩ := hcs j e y h1 h2; ⟨b1, b2.tup s8.tup⟩
      refine (i0_3 (?_) ( (i1_2 (1 + (way - 2)) ( by omega) ( by rw [← Nat.add_assoc]; exact hD4.sub s8))) ( (f0.trans f4).trans s8.fmD))
      have hw : way - 2 = 1 ∨ way - 2 = 2 := by omega
      rcases hw with hw | hw
      · rw [hw] at hcl hyl
        (refine x1_1 (len_one hcl) ?_; intro e er1; obtain rfl := er1)
        (refine x1_1 (len_one hyl) ?_; intro y er1; obtain rfl := er1)
        (refine x0_2 (hcs' 0 e y rfl rfl) ?_; intro b1 b2)
        exact ⟨.un c (.lf e), by simp [Tm.ok, hc2, b1], by simp [Tm.size], by simp [Tm.hgt], na, nn, t10, y, rfl, hna, b2⟩
      · rw [hw] at hcl hyl
        (refine x2_1 (len_two hcl) ?_; intro e f er1; obtain rfl := er1)
        (refine x2_1 (len_two hyl) ?_; intro y z er1; obtain rfl := er1)
        (refine x0_2 (hcs' 0 e y rfl rfl) ?_; intro b1 b2)
        (refine x0_2 (hcs' 1 f z rfl rfl) ?_; intro b3 b4)
        exact ⟨.bi c (.lf e) (.lf f), by simp [Tm.ok, hc2, b1, b3], by simp [Tm.size], by simp [Tm.hgt], na, nn, t10, y, z, rfl, hna, b2, b4⟩
end
end
section
--FILE FU
noncomputable def tmKy : Tm → Ky
  | .lf c => .cons (.str (opS c)) .nil
  | .un c x => .cons (.str (opS c)) (.cons (tmKy x) .nil)
  | .bi c x y => .cons (.str (opS c)) (.cons (tmKy x) (.cons (tmKy y) .nil))
theorem opS_inj {c e : Nat} (h : opS c = opS e) : c = e := by simpa [opS] using h
theorem tmKy_inj : ∀ {t u : Tm}, tmKy t = tmKy u → t = u
  | .lf c, .lf e, h => by simp only [tmKy, Ky.cons.injEq, Ky.str.injEq] at h; rw [opS_inj h.1]
  | .lf c, .un e x, h => by simp [tmKy] at h
  | .lf c, .bi e x y, h => by simp [tmKy] at h
  | .un c x, .lf e, h => by simp [tmKy] at h
  | .un c x, .un e y, h => by
    simp only [tmKy, Ky.cons.injEq, Ky.str.injEq, and_true] at h
    rw [opS_inj h.1, tmKy_inj h.2]
  | .un c x, .bi e y z, h => by simp [tmKy] at h
  | .bi c x y, .lf e, h => by simp [tmKy] at h
  | .bi c x y, .un e z, h => by simp [tmKy] at h
  | .bi c x y, .bi e z w, h => by
    simp only [tmKy, Ky.cons.injEq, Ky.str.injEq, and_true] at h
    rw [opS_inj h.1, tmKy_inj h.2.1, tmKy_inj h.2.2]
theorem tmKy_okS : ∀ {t : Tm}, t.ok = true → (tmKy t).okS = true
  | .lf c, h => by simp [tmKy, Ky.okS, Ky.chain, op_strOk (show opC c = true from h)]
  | .un c x, h => by
    simp only [Tm.ok, Bool.and_eq_true] at h
    simp [tmKy, Ky.okS, Ky.chain, op_strOk h.1, tmKy_okS h.2]
  | .bi c x y, h => by
    simp only [Tm.ok, Bool.and_eq_true] at h
    simp [tmKy, Ky.okS, Ky.chain, op_strOk h.1.1, tmKy_okS h.1.2, tmKy_okS h.2]
theorem tmKy_dep : ∀ (t : Tm), (tmKy t).dep.1 ≤ t.hgt + 2
  | .lf c => by simp [tmKy, Ky.dep, Tm.hgt]
  | .un c x => by
    have := tmKy_dep x
    simp [tmKy, Ky.dep, Tm.hgt]; exact this
  | .bi c x y => by
    have h1 := tmKy_dep x; have h2 := tmKy_dep y
    simp [tmKy, Ky.dep, Tm.hgt]; omega
theorem TmT.isKy {σ : Led} : ∀ {t : Tm} {v : Value}, TmT σ t v → IsKy σ (tmKy t) v := by
  intro t
  induction t with
  | lf c => intro v h; exact x3_2 h fun a n t e h => (i5_6 (a) (_) (_) (_) (n) (e) (h) (rfl) (rfl) (⟨t, rfl⟩) (rfl))
  | un c x ih => intro v h; exact x4_3 h fun a n t u e h hx => (i5_6 (a) (_) (_) (_) (n) (e) (h) (rfl) (rfl) (⟨t, rfl⟩) (⟨u, [], rfl, ih hx, rfl⟩))
  | bi c x y ihx ihy => intro v h; exact x5_4 h fun a n t u w e h hx hy => (i5_6 (a) (_) (_) (_) (n) (e) (h) (rfl) (rfl) (⟨t, rfl⟩) (⟨u, [w], rfl, ihx hx, w, [], rfl, ihy hy, rfl⟩))
theorem TmT.ky {σ : Led} {t : Tm} {v : Value} (h : TmT σ t v) (hok : t.ok = true) (hh : t.hgt ≤ 6) : KyOk σ (tmKy t) v := (i0_3 (h.isKy) ( tmKy_okS hok) ( by have := tmKy_dep t; omega))

noncomputable def LotT (σ : Led) (la : Addr) (ts : List Tm) : Prop := ∃ vs n, σ la = some (lstOf vs n) ∧ vs.length = ts.length ∧ ∀ (i : Nat) t v, ts[i]? = some t → vs[i]? = some v → TmT σ t v
noncomputable def Tm.good (t : Tm) : Prop := t.ok = true ∧ t.hgt ≤ 6

section
variable {X : Cx} {m : Loc} {σ : Led} {d : Nat}
theorem j_notin_lot {la : Addr} {ts : List Tm} {t : Tm} {v : Value} {Q : Value → Loc → Led → Prop} (O : X.Ok d) (hl : LotT σ la ts) (ht : TmT σ t v) (hg : t.good) (hgs : ∀ u ∈ ts, u.good)
    (h : Q (.bool (!decide (t ∈ ts))) m σ) : J X (compareOp .NotIn v (.ref la)) m σ Q := by
  intro b s B S
  (refine x2_3 hl ?_; clear hl; intro vs n hla hlen hts)
  have at' : ∀ y, y ∈ vs → ∃ u ∈ ts, TmT σ u y := fun y hy => by
    obtain ⟨i, hi⟩ := List.getElem?_of_mem hy
    have hlt : i < ts.length := by have := get_lt hi; exact (Nat.lt_of_lt_of_eq this hlen)
    exact (i1_2 (ts[i]) ( List.getElem_mem hlt) ( hts i _ y (by simp [hlt]) hi))
  have uniq : ∀ {u u' : Tm} {y : Value}, u.good → u'.good → TmT σ u y → TmT σ u' y → u = u' := fun g g' h h' =>
    tmKy_inj ((bears_inj _ _ (tmKy_okS g.1) (tmKy_okS g'.1)).1 _ h.isKy h'.isKy)
  have read : ∀ {u : Tm} {y : Value}, TmT σ u y → Reads s.heap y (tmKy u).py.1 [] := fun h => (bears_reads _).1 _ (h.isKy.mono fun a o e => (S.nw a o e).1)
  refine PySem.SeqAt.notIn_listAt (fun y => @decide (TmT σ t y) (Classical.propDecidable _)) (lstAt S hla lstO) (fun y hy => ?_) ?_
  · (refine x1_2 (at' y (by simpa using hy)) ?_; intro u hu hy')
    have z := PySem.SeqAt.eqAt_reads _ _ X.A.in1 s y v [] [] (read hy') (read ht) (py_lay _ (tmKy_okS (hgs u hu).1)).1 (py_lay _ (tmKy_okS hg.1)).1 (by
      have := (py_depth (tmKy u)).1
      have := tmKy_dep u
      have := (hgs u hu).2
      have := O_units8 O
      show X.A.units + 1 + _ < _
      omega)
    rw [(py_eqv _ _ (tmKy_okS (hgs u hu).1) (tmKy_okS hg.1)).1] at z
    have e : decide (tmKy u = tmKy t) = @decide (TmT σ t y) (Classical.propDecidable _) := by
      refine decide_eq_decide.mpr ⟨fun q => tmKy_inj q ▸ hy', fun q => by rw [uniq (hgs u hu) hg hy' q]⟩
    rw [← e]; exact z
  · have e : (vs.toArray.any fun y => @decide (TmT σ t y) (Classical.propDecidable _)) = decide (t ∈ ts) := by
      rw [List.any_toArray, Bool.eq_iff_iff, List.any_eq_true, decide_eq_true_iff]
      constructor
      · (intro zr1; refine x1_2 zr1 ?_; clear zr1; intro y hy q)
        (refine x1_2 (at' y hy) ?_; intro u hu hy')
        rw [uniq hg (hgs u hu) (@of_decide_eq_true _ (Classical.propDecidable _) q) hy']; exact hu
      · intro hm
        obtain ⟨i, hi⟩ := List.getElem?_of_mem hm
        have hlt : i < vs.length := by have := get_lt hi; exact (Nat.lt_of_lt_of_eq this (Eq.symm hlen))
        exact (i1_2 (vs[i]) ( List.getElem_mem hlt) ( @decide_eq_true _ (Classical.propDecidable _) (hts i t _ hi (by simp [hlt]))))
    first | refine Mine.sb (e) ?_ | rw [e]
    exact .mk B S h
end
end
section
--FILE FV
noncomputable def addT (ts : List Tm) (t : Tm) : List Tm := if t ∈ ts then ts else ts ++ [t]
noncomputable def Tm.collect : Tm → List Tm → List Tm
  | .lf c, ts => addT ts (.lf c)
  | .un c x, ts => addT (x.collect ts) (.un c x)
  | .bi c x y, ts => addT (y.collect (x.collect ts)) (.bi c x y)
theorem collect_kids (t : Tm) (ts : List Tm) : t.collect ts = addT (t.kids.foldl (fun ts k => k.collect ts) ts) t := by cases t <;> rfl
theorem addT_len (ts : List Tm) (t : Tm) : (addT ts t).length ≤ ts.length + 1 := by unfold addT; split <;> simp
theorem collect_len : ∀ (t : Tm) (ts : List Tm), (t.collect ts).length ≤ ts.length + t.size
  | .lf c, ts => addT_len ts _
  | .un c x, ts => by
    have h1 := addT_len (x.collect ts) (.un c x); have h2 := collect_len x ts
    show (addT (x.collect ts) (.un c x)).length ≤ ts.length + (x.size + 1); omega
  | .bi c x y, ts => by
    have h1 := addT_len (y.collect (x.collect ts)) (.bi c x y); have h2 := collect_len x ts; have h3 := collect_len y (x.collect ts)
    show (addT (y.collect (x.collect ts)) (.bi c x y)).length ≤ ts.length + (x.size + y.size + 1); omega
theorem addT_mem {ts : List Tm} {t u : Tm} : u ∈ addT ts t ↔ u ∈ ts ∨ u = t := by
  unfold addT
  split
  · constructor
    · exact .inl
    · rintro (h | rfl) <;> assumption
  · simp
theorem collect_good : ∀ {t : Tm} {ts : List Tm}, t.good → (∀ u ∈ ts, u.good) → ∀ u ∈ t.collect ts, u.good
  | .lf c, ts, hg, h, u, hu => by
    rcases addT_mem.mp hu with q | rfl
    · exact h u q
    · exact hg
  | .un c x, ts, hg, h, u, hu => by
    rcases addT_mem.mp hu with q | rfl
    · exact collect_good (t := x) ⟨Tm.ok_kid hg.1 (by simp [Tm.kids]), by have := hg.2; simp [Tm.hgt] at this; exact (Nat.le_trans this (Nat.le_of_ble_eq_true rfl))⟩ h u q
    · exact hg
  | .bi c x y, ts, hg, h, u, hu => by
    rcases addT_mem.mp hu with q | rfl
    · refine collect_good (t := y) ⟨Tm.ok_kid hg.1 (by simp [Tm.kids]), by have := hg.2; simp [Tm.hgt] at this; omega⟩ (fun v hv => ?_) u q
      exact collect_good (t := x) ⟨Tm.ok_kid hg.1 (by simp [Tm.kids]), by have := hg.2; simp [Tm.hgt] at this; omega⟩ h v hv
    · exact hg
theorem FmD.tupL {la : Addr} {σ σ' : Led} {ts : List Tm} (h : FmD la σ σ') (c : LotT σ la ts) : Tup σ σ' := fun a o e hc => h a o e (by
  rintro rfl
  (refine x2_2 c ?_; clear c; intro vs n q _)
  (first | exact nos (q) e | exact nos e (q) | (rw [q] at e; cases e)); exact absurd hc ltup)
theorem LotT.sub {σ σ' : Led} {la : Addr} {ts : List Tm} (h : LotT σ la ts) (s : Sub σ σ') : LotT σ' la ts := by
  (refine x2_3 h ?_; clear h; intro vs n a b c)
  exact (i2_3 (vs) ( n) ( s _ _ a) ( b) ( fun i t v h1 h2 => (c i t v h1 h2).tup s.tup))

theorem spec_collected {w : World} {la : Addr} : ∀ (t : Tm) {σ : Led} {ts : List Tm} {v : Value}, t.good → LotT σ la ts → (∀ u ∈ ts, u.good) → ts.length + t.size ≤ 1000 → TmT σ t v →
    Spec w 471 [v, .ref la] (1 + t.hgt) σ (fun r σ' => LotT σ' la (t.collect ts) ∧ FmD la σ σ') := by
  intro t
  induction hh : t.hgt using Nat.strongRecOn generalizing t with
  | ind hg ih =>
  intro σ ts v hgd hl hts hz htm
  subst hh
  (refine x4_4 htm.open ?_; intro ta tn tk us er1 hta hul hus; obtain rfl := er1)
  have key : Spec w 471 [.ref ta, .ref la] (t.hgt + 1) σ (fun r σ' => LotT σ' la (t.collect ts) ∧ FmD la σ σ') := by
    refine' spec_def (binds := [(Str.ofString "term", .ref ta), (Str.ofString "lot", .ref la)]) ?ho ?hcd ?hb ?hl ?hc ?h1 ?h2 ?h3 ?h
    k_enter
    intro X hw O hE
    subst hw
    have hkl := t.kids_len
    have hneq : ∀ {σ : Led} {ts : List Tm} {a : Addr} {vs : List Value} {n : Nat}, LotT σ la ts → σ a = some (tupOf vs n) → a ≠ la := fun h e q => by
      subst q
      (refine x2_2 h ?_; clear h; intro vs n a _)
      rw [a] at e; exact absurd (show Value.type "list" = Value.type "tuple" from congrArg Obj.cls (Option.some.inj e)) (by decide)
    repeat k_upd
    k_places
    repeat k_upd
    intro t2 sa hsa
    refine j_from_tup 1 (by rfl) (Sub.new hsa _ _ hta) Led.set_self (by decide) (by simp) (by simp; exact (Nat.le_trans (Nat.le_trans (Nat.le_of_eq hul) hkl) (Nat.le_of_ble_eq_true rfl))) ?_ (by rfl)
    intro c1 hc1
    have s1 : Sub σ ((σ.set sa (sliceObj (.int 1 t2) .none)).set c1 (tupOf ((Value.str (opS t.op) tk :: us).drop 1) 0)) := (Sub.new hsa).trans (.new hc1)
    have hc2 : ((σ.set sa (sliceObj (.int 1 t2) .none)).set c1 (tupOf ((Value.str (opS t.op) tk :: us).drop 1) 0)) c1 = some (tupOf us 0) := Led.set_self
    have hus1 : ∀ (j : Nat) k u, t.kids[j]? = some k → us[j]? = some u → TmT ((σ.set sa (sliceObj (.int 1 t2) .none)).set c1 (tupOf ((Value.str (opS t.op) tk :: us).drop 1) 0)) k u := fun j k u h1 h2 => (hus j k u h1 h2).tup s1.tup
    (generalize (σ.set sa (sliceObj (.int 1 t2) .none)).set c1 (tupOf ((Value.str (opS t.op) tk :: us).drop 1) 0) = σ1 at *; revert σ1; refine bar ?_; set_option tactic.hygienic false in intros)
    have hl1 := hl.sub s1
    have htm1 := htm.tup s1.tup
    clear hus hta hl htm
    let Iv1 : Nat → Loc → Led → Prop := fun i m' σ' => i ≤ us.length ∧ LotT σ' la ((t.kids.take i).foldl (fun ts k => k.collect ts) ts) ∧ FmD la σ1 σ' ∧ m' (Str.ofString "term") = some (.ref ta) ∧ m' (Str.ofString "lot") = some (.ref la) ∧
        (∀ u ∈ (t.kids.take i).foldl (fun ts k => k.collect ts) ts, u.good) ∧ ((t.kids.take i).foldl (fun ts k => k.collect ts) ts).length ≤ ts.length + sizes (t.kids.take i)
    refine ⟨.tup c1 us.toArray, rfl, ⟨_, hc2, rfl, _, rfl⟩, Iv1,
      (i0_7 (Nat.zero_le _) ( hl1) ( fun a o e _ => e) ( rfl) ( rfl) ( hts) ( by simp [sizes])), ?_, ?_⟩
    · (intro p i v m2 σ2 O' hil hv zr1 _; refine x0_7 zr1 ?_; clear zr1; intro hil1 hl2 f2 hm1 hm2 hgs hlen)
      have hE2 : (X.kept p).env = _ := hE
      have hvi : us[i]? = some v := by simpa [Src.item] using hv
      have hlt := get_lt hvi
      have hki : t.kids[i]? = some t.kids[i] := by simp
      have hkm : t.kids[i] ∈ t.kids := List.getElem_mem _
      have htu : TmT σ2 t.kids[i] v := (hus1 i _ v hki hvi).tup (f2.tupL hl1)
      have hst := sizes_take hki
      have hsl := sizes_take_le t.kids (i + 1)
      have hsz := t.size_kids
      have hkg : t.kids[i].good := ⟨Tm.ok_kid hgd.1 hkm, by have := Tm.kid_hgt hkm; have := hgd.2; omega⟩
      have htake : t.kids.take (i + 1) = t.kids.take i ++ [t.kids[i]] := by rw [List.take_add_one, hki]; rfl
      repeat k_upd
      refine ((ih t.kids[i].hgt (Tm.kid_hgt hkm) t.kids[i] rfl hkg hl2 hgs (by omega) htu).j (X := X.kept p) rfl O' (by have := Tm.kid_hgt hkm; omega)).mono1 ?_
      (intro r σ3 zr1; refine x0_2 zr1 ?_; clear zr1; intro h3 f3)
      repeat k_upd
      have hf : (t.kids.take (i + 1)).foldl (fun ts k => k.collect ts) ts = t.kids[i].collect ((t.kids.take i).foldl (fun ts k => k.collect ts) ts) := by rw [htake, List.foldl_append]; rfl
      refine ⟨(i0_7 (by exact hlt) ( by first | exact ((hf).trans h3) | (rw [hf]; exact h3)) ( f2.trans f3) ( by k_mem) ( by k_mem) ( by first | exact ((hf).trans (collect_good hkg hgs)) | (rw [hf]; exact collect_good hkg hgs)) ( by rw [hf]; have := collect_len t.kids[i] ((t.kids.take i).foldl (fun ts k => k.collect ts) ts); omega)), ⟨_, (f2.trans f3) _ _ hc2 (hneq hl1 hc2), rfl, _, rfl⟩⟩
    · (intro m2 σ2 zr1 _; refine x0_7 zr1 ?_; clear zr1; intro hil1 hl2 f2 hm1 hm2 hgs hlen)
      have hus' : (Src.tup c1 us.toArray).size = t.kids.length := by simp [Src.size, hul]
      rw [hus', List.take_length] at hl2 hgs hlen
      have htm2 := htm1.tup (f2.tupL hl1)
      have hsz := t.size_kids
      repeat k_upd
      refine j_notin_lot O hl2 htm2 hgd hgs ?_
      by_cases hq : t ∈ t.kids.foldl (fun ts k => k.collect ts) ts
      · refine Mine.sb (show (!decide (t ∈ t.kids.foldl (fun ts k => k.collect ts) ts)) = false by simp [hq]) ?_
        repeat k_upd
        have e : addT (t.kids.foldl (fun ts k => k.collect ts) ts) t = t.kids.foldl (fun ts k => k.collect ts) ts := if_pos hq
        refine ⟨?_, (s1.fmD (cd := la)).trans f2⟩
        rw [collect_kids, e]; exact hl2
      · refine Mine.sb (show (!decide (t ∈ t.kids.foldl (fun ts k => k.collect ts) ts)) = true by simp [hq]) ?_
        (refine x2_3 (id hl2) ?_; intro vs n hla hvl hvt)
        repeat k_upd
        refine j_list_append_m hla ?_
        repeat k_upd
        refine j_append hla (by omega) ?_
        have e : addT (t.kids.foldl (fun ts k => k.collect ts) ts) t = t.kids.foldl (fun ts k => k.collect ts) ts ++ [t] := if_neg hq
        have f3 : FmD la σ2 (σ2.set la (lstOf (vs ++ [.ref ta]) (n + 1))) := fun a o e q => by first | exact ((Led.set_ne q).trans e) | (rw [Led.set_ne q]; exact e)
        have tp := f3.tupL hl2
        repeat k_upd
        refine And.intro ?_ (((s1.fmD (cd := la)).trans f2).trans f3)
        rw [collect_kids, e]
        refine (i2_3 (_) ( _) ( Led.set_self) ( by simp [hvl]) ( fun i u y h1 h2 => ?_))
        rw [List.getElem?_append] at h1 h2
        rw [hvl] at h2
        split at h1
        · rename_i hlt
          rw [if_pos hlt] at h2
          exact (hvt i u y h1 h2).tup tp
        · rename_i hlt
          rw [if_neg hlt] at h2
          (refine x0_2 (last_get h1) ?_; intro _ er1; obtain rfl := er1)
          (refine x0_2 (last_get h2) ?_; intro _ er1; obtain rfl := er1)
          exact htm2.tup tp
  rwa [Nat.add_comm] at key
end
section
--FILE PC
theorem Ent.refl (E : Eqs) (t : Tm) : Ent E t t := fun _ _ => rfl
theorem Ent.symm {E : Eqs} {t u : Tm} (h : Ent E t u) : Ent E u t := fun I hI => (h I hI).symm
theorem Ent.trans {E : Eqs} {t u v : Tm} (h : Ent E t u) (h' : Ent E u v) : Ent E t v := fun I hI => (h I hI).trans (h' I hI)
theorem Ent.mono {E E' : Eqs} {t u : Tm} (h : Ent E t u) (hs : ∀ p ∈ E, p ∈ E') : Ent E' t u := fun I hI => h I fun p hp => hI p (hs p hp)
theorem ev_kids (I : Alg) (t : Tm) : t.ev I = I t.op (t.kids.map (Tm.ev I)) := by cases t <;> rfl
structure LotOk (ts : List Tm) : Prop where
  nd : ts.Nodup
  kid : ∀ x ∈ ts, ∀ k ∈ x.kids, k ∈ ts
theorem addT_nodup {ts : List Tm} {t : Tm} (h : ts.Nodup) : (addT ts t).Nodup := by
  unfold addT
  split
  · exact h
  · rename_i hn
    rw [List.nodup_append]
    exact (i0_3 (h) ( by simp) ( fun a ha b hb e => by rw [List.mem_singleton] at hb; subst hb; subst e; exact hn ha))
theorem LotOk.add {ts : List Tm} {t : Tm} (h : LotOk ts) (hk : ∀ k ∈ t.kids, k ∈ ts) : LotOk (addT ts t) :=
  ⟨addT_nodup h.nd, fun x hx k hkx => addT_mem.mpr (.inl (by
    rcases addT_mem.mp hx with q | rfl
    · exact h.kid x q k hkx
    · exact hk k hkx))⟩
theorem LotOk.collect : ∀ {t : Tm} {ts : List Tm}, LotOk ts → LotOk (t.collect ts) ∧ (∀ x ∈ ts, x ∈ t.collect ts) ∧ t ∈ t.collect ts
  | .lf c, ts, h => (i0_3 (h.add (by simp [Tm.kids])) ( fun x hx => addT_mem.mpr (.inl hx)) ( addT_mem.mpr (.inr rfl)))
  | .un c x, ts, h => by
    (refine x0_3 (LotOk.collect (t := x) h) ?_; intro h1 h2 h3)
    exact (i0_3 (h1.add (by simpa [Tm.kids] using h3)) ( fun y hy => addT_mem.mpr (.inl (h2 y hy))) ( addT_mem.mpr (.inr rfl)))
  | .bi c x y, ts, h => by
    (refine x0_3 (LotOk.collect (t := x) h) ?_; intro h1 h2 h3)
    (refine x0_3 (LotOk.collect (t := y) h1) ?_; intro g1 g2 g3)
    exact (i0_3 (g1.add (by simpa [Tm.kids] using ⟨g2 _ h3, g3⟩)) ( fun z hz => addT_mem.mpr (.inl (g2 z (h2 z hz)))) ( addT_mem.mpr (.inr rfl)))
noncomputable def collectAll (l ts : List Tm) : List Tm := l.foldl (fun ts k => k.collect ts) ts
theorem LotOk.all : ∀ {l ts : List Tm}, LotOk ts → LotOk (collectAll l ts) ∧ (∀ x ∈ ts, x ∈ collectAll l ts) ∧ ∀ x ∈ l, x ∈ collectAll l ts
  | [], ts, h => (i0_3 (h) ( fun x hx => hx) ( fun x hx => by cases hx))
  | t :: l, ts, h => by
    (refine x0_3 (LotOk.collect (t := t) h) ?_; intro h1 h2 h3)
    (refine x0_3 (LotOk.all (l := l) h1) ?_; intro g1 g2 g3)
    refine (i0_3 (g1) ( fun x hx => g2 x (h2 x hx)) ( fun x hx => ?_))
    rcases List.mem_cons.mp hx with rfl | hx
    · exact g2 _ h3
    · exact g3 x hx
theorem all_good : ∀ {l ts : List Tm}, (∀ x ∈ l, x.good) → (∀ x ∈ ts, x.good) → ∀ x ∈ collectAll l ts, x.good
  | [], ts, _, h => h
  | t :: l, ts, hl, h => all_good (l := l) (fun x hx => hl x (.tail _ hx)) (collect_good (hl t (.head _)) h)
theorem all_len : ∀ (l ts : List Tm), (collectAll l ts).length ≤ ts.length + sizes l
  | [], ts => by simp [collectAll, sizes]
  | t :: l, ts => by
    have h1 := collect_len t ts
    have h2 := all_len l (t.collect ts)
    show (collectAll l (t.collect ts)).length ≤ ts.length + (t.size + sizes l)
    omega
theorem LotOk.nil : LotOk [] := ⟨.nil, fun x hx => by cases hx⟩

noncomputable def Snd (E : Eqs) (ts : List Tm) (f : Tm → Nat) : Prop := ∀ x ∈ ts, ∀ y ∈ ts, f x = f y → Ent E x y
noncomputable def Cong (f : Tm → Nat) (x y : Tm) : Prop := x.op = y.op ∧ x.kids.map f = y.kids.map f
noncomputable def Closed (ts : List Tm) (f : Tm → Nat) : Prop := ∀ x ∈ ts, ∀ y ∈ ts, Cong f x y → f x = f y
theorem map_map {α β γ : Type} {f : α → β} {g : α → γ} : ∀ {l l' : List α}, (∀ a ∈ l, ∀ b ∈ l', f a = f b → g a = g b) → l.map f = l'.map f → l.map g = l'.map g
  | [], [], _, _ => rfl
  | [], b :: r, _, h => by simp at h
  | a :: r, [], _, h => by simp at h
  | a :: r, b :: r', hg, h => by
    simp only [List.map_cons, List.cons.injEq] at h ⊢
    exact ⟨hg a (.head _) b (.head _) h.1, map_map (fun x hx y hy => hg x (.tail _ hx) y (.tail _ hy)) h.2⟩
theorem ent_cong {E : Eqs} {ts : List Tm} {f : Tm → Nat} {x y : Tm} (L : LotOk ts) (h : Snd E ts f) (hx : x ∈ ts) (hy : y ∈ ts) (hc : Cong f x y) : Ent E x y := by
  intro I hI
  rw [ev_kids I x, ev_kids I y, hc.1, map_map (g := Tm.ev I) (fun a ha b hb e => h a (L.kid x hx a ha) b (L.kid y hy b hb) e I hI) hc.2]
noncomputable def modelF (ts : List Tm) (f : Tm → Nat) : Alg := fun c cs => match ts.find? (fun x => decide (x.op = c ∧ x.kids.map f = cs)) with | some x => f x | none => 0
theorem modelF_ev {ts : List Tm} {f : Tm → Nat} (L : LotOk ts) (h : Closed ts f) : ∀ (n : Nat) (x : Tm), x.hgt = n → x ∈ ts → x.ev (modelF ts f) = f x := by
  intro n
  induction n using Nat.strongRecOn with
  | ind n ih =>
  intro x hn hx
  subst hn
  have e : x.kids.map (Tm.ev (modelF ts f)) = x.kids.map f := List.map_congr_left fun k hk => ih k.hgt (Tm.kid_hgt hk) k rfl (L.kid x hx k hk)
  rw [ev_kids, e]
  unfold modelF
  cases q : ts.find? (fun y => decide (y.op = x.op ∧ y.kids.map f = x.kids.map f)) with
  | none =>
    have := List.find?_eq_none.mp q x hx
    simp at this
  | some y =>
    have h1 := List.find?_some q
    have h2 := List.mem_of_find?_eq_some q
    simp only [decide_eq_true_eq] at h1
    exact h y h2 x hx h1
theorem decided {E : Eqs} {ts : List Tm} {f : Tm → Nat} {t u : Tm} (L : LotOk ts) (hs : Snd E ts f) (hc : Closed ts f) (hE : ∀ e ∈ E, e.1 ∈ ts ∧ e.2 ∈ ts) (he : ∀ e ∈ E, f e.1 = f e.2) (ht : t ∈ ts) (hu : u ∈ ts) : Ent E t u ↔ f t = f u := by
  refine ⟨fun h => ?_, hs t ht u hu⟩
  have z := h (modelF ts f) fun e hm => by
    rw [modelF_ev L hc _ _ rfl (hE e hm).1, modelF_ev L hc _ _ rfl (hE e hm).2]; exact he e hm
  rwa [modelF_ev L hc _ _ rfl ht, modelF_ev L hc _ _ rfl hu] at z

noncomputable def join1 (f : Tm → Nat) (gone stays : Nat) : Tm → Nat := fun x => if f x = gone then stays else f x
theorem join1_coarse {f : Tm → Nat} {g s : Nat} {x y : Tm} (h : f x = f y) : join1 f g s x = join1 f g s y := by simp [join1, h]
theorem join1_same {f : Tm → Nat} {a b : Tm} : join1 f (f b) (f a) a = join1 f (f b) (f a) b := by
  unfold join1
  by_cases h : f a = f b
  · simp [h]
  · simp [h]
theorem join1_snd {E : Eqs} {ts : List Tm} {f : Tm → Nat} {a b : Tm} (hs : Snd E ts f) (ha : a ∈ ts) (hb : b ∈ ts) (he : Ent E a b) : Snd E ts (join1 f (f b) (f a)) := by
  intro x hx y hy h
  unfold join1 at h
  by_cases h1 : f x = f b
  · by_cases h2 : f y = f b
    · exact hs x hx y hy (h1.trans h2.symm)
    · rw [if_pos h1, if_neg h2] at h
      exact ((hs x hx b hb h1).trans he.symm).trans (hs a ha y hy h)
  · by_cases h2 : f y = f b
    · rw [if_neg h1, if_pos h2] at h
      exact (hs x hx a ha h).trans (he.trans (hs b hb y hy h2.symm))
    · rw [if_neg h1, if_neg h2] at h
      exact hs x hx y hy h
noncomputable def mergeF (f : Tm → Nat) (ps : Eqs) : Tm → Nat := ps.foldl (fun f p => join1 f (f p.2) (f p.1)) f
theorem mergeF_facts {E : Eqs} {ts : List Tm} : ∀ {ps : Eqs} {f : Tm → Nat}, Snd E ts f → (∀ p ∈ ps, p.1 ∈ ts ∧ p.2 ∈ ts) → (∀ p ∈ ps, Ent E p.1 p.2) →
    Snd E ts (mergeF f ps) ∧ (∀ x y, f x = f y → mergeF f ps x = mergeF f ps y) ∧ ∀ p ∈ ps, mergeF f ps p.1 = mergeF f ps p.2
  | [], f, hs, _, _ => (i0_3 (hs) ( fun _ _ h => h) ( fun p hp => by cases hp))
  | p :: ps, f, hs, hm, he => by
    (refine x0_3 (mergeF_facts (ps := ps) (join1_snd hs (hm p (.head _)).1 (hm p (.head _)).2 (he p (.head _))) (fun q hq => hm q (.tail _ hq)) (fun q hq => he q (.tail _ hq))) ?_; intro h1 h2 h3)
    refine (i0_3 (h1) ( fun x y h => h2 x y (join1_coarse h)) ( fun q hq => ?_))
    rcases List.mem_cons.mp hq with rfl | hq
    · exact h2 _ _ join1_same
    · exact h3 q hq

noncomputable def allPairs (ts : List Tm) : Eqs := ts.flatMap fun x => ts.map fun y => (x, y)
theorem mem_allPairs {ts : List Tm} {p : Tm × Tm} : p ∈ allPairs ts ↔ p.1 ∈ ts ∧ p.2 ∈ ts := by
  unfold allPairs
  simp only [List.mem_flatMap, List.mem_map]
  constructor
  · (intro zt1; obtain ⟨x, hx, y, hy, rfl⟩ := zt1); exact ⟨hx, hy⟩
  · (intro zt1; refine x0_2 zt1 ?_; clear zt1; intro h1 h2); exact ⟨p.1, h1, p.2, h2, rfl⟩
noncomputable def uneq (ts : List Tm) (f : Tm → Nat) : Nat := (allPairs ts).countP fun p => f p.1 != f p.2
theorem count_le {α : Type} {P P' : α → Bool} : ∀ {l : List α}, (∀ a ∈ l, P' a = true → P a = true) → l.countP P' ≤ l.countP P
  | [], _ => Nat.le_refl _
  | a :: l, h => by
    have ih := count_le (l := l) (P := P) (P' := P') fun x hx => h x (.tail _ hx)
    have h1 := h a (.head _)
    rw [List.countP_cons, List.countP_cons]
    cases q : P' a with
    | false => simp; exact (Nat.le_trans ih (Nat.le_add_right _ _))
    | true => simp [h1 q]; exact ih
theorem count_lt {α : Type} {P P' : α → Bool} : ∀ {l : List α}, (∀ a ∈ l, P' a = true → P a = true) → (∃ a ∈ l, P a = true ∧ P' a = false) → l.countP P' < l.countP P
  | [], _, h => by (refine x1_2 h ?_; clear h; intro a ha _); cases ha
  | a :: l, h, hx => by
    have h1 := h a (.head _)
    have le := count_le (l := l) (P := P) (P' := P') fun x hx => h x (.tail _ hx)
    rw [List.countP_cons, List.countP_cons]
    by_cases e : P a = true ∧ P' a = false
    · simp [e.1, e.2]; exact (Nat.lt_succ_of_le le)
    · (refine x1_3 hx ?_; clear hx; intro b hb h2 h3)
      rcases List.mem_cons.mp hb with rfl | hb
      · exact absurd ⟨h2, h3⟩ e
      · have lt := count_lt (l := l) (P := P) (P' := P') (fun x hx => h x (.tail _ hx)) (i1_3 (b) ( hb) ( h2) ( h3))
        cases q : P' a with
        | false => simp; exact (Nat.lt_of_lt_of_le lt (Nat.le_add_right _ _))
        | true => simp [h1 q]; exact lt
theorem uneq_le {ts : List Tm} {f g : Tm → Nat} (h : ∀ x y, f x = f y → g x = g y) : uneq ts g ≤ uneq ts f :=
  count_le fun p _ hp => by
    simp only [bne_iff_ne, ne_eq] at hp ⊢
    exact fun e => hp (h _ _ e)
theorem uneq_lt {ts : List Tm} {f g : Tm → Nat} (h : ∀ x y, f x = f y → g x = g y) {a b : Tm} (ha : a ∈ ts) (hb : b ∈ ts) (hf : f a ≠ f b) (hg : g a = g b) : uneq ts g < uneq ts f :=
  count_lt (fun p _ hp => by
    simp only [bne_iff_ne, ne_eq] at hp ⊢
    exact fun e => hp (h _ _ e)) (i1_3 ((a, b)) ( mem_allPairs.mpr ⟨ha, hb⟩) ( by simpa using hf) ( by simpa using hg))

noncomputable def dueT (f : Tm → Nat) (a b : Tm) : Bool := (f a != f b) && (opS a.op == opS b.op) && decide (1 < a.kids.length + 1) && decide (a.kids.map f = b.kids.map f)
noncomputable def dueOf (ts : List Tm) (f : Tm → Nat) : Eqs := ts.flatMap fun a => (ts.filter (dueT f a)).map fun b => (a, b)
theorem mem_dueOf {ts : List Tm} {f : Tm → Nat} {p : Tm × Tm} : p ∈ dueOf ts f ↔ p.1 ∈ ts ∧ p.2 ∈ ts ∧ dueT f p.1 p.2 = true := by
  unfold dueOf
  simp only [List.mem_flatMap, List.mem_map, List.mem_filter]
  constructor
  · (intro zt1; obtain ⟨x, hx, y, ⟨hy, ht⟩, rfl⟩ := zt1); exact (i0_3 (hx) ( hy) ( ht))
  · (intro zr1; refine x0_3 zr1 ?_; clear zr1; intro h1 h2 h3); exact ⟨p.1, h1, p.2, ⟨h2, h3⟩, rfl⟩
theorem dueT_iff {f : Tm → Nat} {a b : Tm} : dueT f a b = true ↔ f a ≠ f b ∧ Cong f a b ∧ a.kids ≠ [] := by
  unfold dueT Cong
  simp only [Bool.and_eq_true, bne_iff_ne, ne_eq, beq_iff_eq, decide_eq_true_eq]
  constructor
  · (intro zt1; refine x0_2 zt1 ?_; clear zt1; intro zt2 h4; refine x0_2 zt2 ?_; clear zt2; intro zt3 h3; refine x0_2 zt3 ?_; clear zt3; intro h1 h2)
    exact (i0_3 (h1) ( ⟨opS_inj h2, h4⟩) ( fun e => by rw [e] at h3; simp at h3))
  · (intro zr1; refine x0_3 zr1 ?_; clear zr1; (intro h1 zt1 h3; refine x0_2 zt1 ?_; clear zt1; intro h2 h4))
    exact ⟨⟨⟨h1, by rw [h2]⟩, by have := List.length_pos_iff.mpr h3; omega⟩, h4⟩
structure Turn (E : Eqs) (ts : List Tm) (f : Tm → Nat) (ps : Eqs) (k : Nat) : Prop where
  snd : Snd E ts f
  mem : ∀ p ∈ ps, p.1 ∈ ts ∧ p.2 ∈ ts
  ent : ∀ p ∈ ps, Ent E p.1 p.2
  ph : (ps = E ∧ (∀ x ∈ ts, ∀ y ∈ ts, f x = f y → x = y) ∧ uneq ts f < k) ∨
    ((∀ e ∈ E, f e.1 = f e.2) ∧ (∀ p ∈ ps, f p.1 ≠ f p.2) ∧ (∀ a ∈ ts, ∀ b ∈ ts, dueT f a b = true → (a, b) ∈ ps) ∧ uneq ts f ≤ k)
theorem Turn.next {E : Eqs} {ts : List Tm} {f : Tm → Nat} {ps : Eqs} {k : Nat} (L : LotOk ts) (T : Turn E ts f ps k) (hne : ps ≠ []) : ∃ k', k' < k ∧ Turn E ts (mergeF f ps) (dueOf ts (mergeF f ps)) k' := by
  (refine x0_3 (mergeF_facts T.snd T.mem T.ent) ?_; intro h1 h2 h3)
  refine ⟨uneq ts (mergeF f ps), ?_, h1, fun p hp => ⟨(mem_dueOf.mp hp).1, (mem_dueOf.mp hp).2.1⟩, fun p hp => ?_, .inr (i0_4 (fun e he => ?_) ( fun p hp => ?_) ( fun a ha b hb hd => mem_dueOf.mpr (i0_3 (ha) ( hb) ( hd))) ( Nat.le_refl _))⟩
  · rcases T.ph with ⟨_, _, hk⟩ | ⟨_, hn, _, hk⟩
    · exact Nat.lt_of_le_of_lt (uneq_le h2) hk
    · obtain ⟨p, r, rfl⟩ : ∃ p r, ps = p :: r := by cases ps with | nil => exact absurd rfl hne | cons p r => exact (i2_1 (p) ( r) ( rfl))
      exact Nat.lt_of_lt_of_le (uneq_lt h2 (T.mem p (.head _)).1 (T.mem p (.head _)).2 (hn p (.head _)) (h3 p (.head _))) hk
  · (refine x0_3 (mem_dueOf.mp hp) ?_; intro a b c)
    exact ent_cong L h1 a b (dueT_iff.mp c).2.1
  · rcases T.ph with ⟨rfl, _, _⟩ | ⟨hE, _, _, _⟩
    · exact h3 e he
    · exact h2 _ _ (hE e he)
  · exact (dueT_iff.mp (mem_dueOf.mp hp).2.2).1
theorem Turn.done {E : Eqs} {ts : List Tm} {f : Tm → Nat} {k : Nat} {t u : Tm} (L : LotOk ts) (T : Turn E ts f [] k) (hE : ∀ e ∈ E, e.1 ∈ ts ∧ e.2 ∈ ts) (ht : t ∈ ts) (hu : u ∈ ts) : Ent E t u ↔ f t = f u := by
  have nok : ∀ {x y : Tm}, Cong f x y → x.kids = [] → x = y := fun {x y} hc h0 => by
    (refine x0_2 hc ?_; clear hc; intro h1 h2)
    rw [h0] at h2
    have h3 : y.kids = [] := by simpa using h2.symm
    cases x <;> cases y <;> simp_all [Tm.kids, Tm.op]
  rcases T.ph with ⟨e, hi, _⟩ | ⟨he, _, hd, _⟩
  · subst e
    refine decided L T.snd (fun x hx y hy hc => ?_) hE (fun e h => by cases h) ht hu
    have : x.kids = y.kids := by
      have := map_map (g := fun z => z) (fun a ha b hb e => hi a (L.kid x hx a ha) b (L.kid y hy b hb) e) hc.2
      simpa using this
    have hxy : x = y := by
      (refine x0_2 hc ?_; clear hc; intro h1 _)
      cases x <;> cases y <;> simp_all [Tm.kids, Tm.op]
    rw [hxy]
  · refine decided L T.snd (fun x hx y hy hc => ?_) hE he ht hu
    by_cases h0 : x.kids = []
    · rw [nok hc h0]
    · by_cases hq : f x = f y
      · exact hq
      · exact absurd (hd x hx y hy (dueT_iff.mpr (i0_3 (hq) ( hc) ( h0)))) (by simp)
theorem Turn.start {E : Eqs} {ts : List Tm} {f : Tm → Nat} (hE : ∀ e ∈ E, e.1 ∈ ts ∧ e.2 ∈ ts) (hi : ∀ x ∈ ts, ∀ y ∈ ts, f x = f y → x = y) : Turn E ts f E (uneq ts f + 1) :=
  ⟨fun x hx y hy e => (hi x hx y hy e) ▸ Ent.refl E x, hE, fun p hp I hI => hI p hp, .inl (i0_3 (rfl) ( hi) ( Nat.lt_succ_self _))⟩
theorem dueOf_len (ts : List Tm) (f : Tm → Nat) : ∀ l : List Tm, (l.flatMap fun a => (ts.filter (dueT f a)).map fun b => (a, b)).length ≤ l.length * ts.length
  | [] => by simp
  | a :: l => by
    rw [List.flatMap_cons, List.length_append, List.length_map, List.length_cons, Nat.succ_mul]
    have h1 := dueOf_len ts f l
    have h2 := List.length_filter_le (dueT f a) ts
    omega
end
section
--FILE FW
noncomputable def NCell (σ σ' : Led) : Prop := ∀ a o, σ a = some o → (∀ v, o.data ≠ .cell v) → σ' a = some o
theorem NCell.refl {σ : Led} : NCell σ σ := fun _ _ e _ => e
theorem NCell.trans {σ σ' σ'' : Led} (h : NCell σ σ') (h' : NCell σ' σ'') : NCell σ σ'' := fun a o e q => h' a o (h a o e q) q
theorem Sub.nc {σ σ' : Led} (h : Sub σ σ') : NCell σ σ' := fun a o e _ => h a o e
theorem NCell.set {σ : Led} {c : Addr} {o o' : Obj} {v : Option Value} (h : σ c = some o) (hd : o.data = .cell v) : NCell σ (σ.set c o') := fun a ob e q => by
  rw [Led.set_ne]; exact e
  rintro rfl
  (first | exact nos (h) e | exact nos e (h) | (rw [h] at e; cases e)); exact q v hd
theorem NCell.lst {σ σ' : Led} (h : NCell σ σ') {a : Addr} {vs : List Value} {n : Nat} (e : σ a = some (lstOf vs n)) : σ' a = some (lstOf vs n) := h a _ e fun v q => by cases q
theorem NCell.tupl {σ σ' : Led} (h : NCell σ σ') {a : Addr} {vs : List Value} {n : Nat} (e : σ a = some (tupOf vs n)) : σ' a = some (tupOf vs n) := h a _ e fun v q => by cases q
theorem TmT.nc {σ σ' : Led} (g : NCell σ σ') : ∀ {t : Tm} {v : Value}, TmT σ t v → TmT σ' t v
  | .lf c, v, ⟨a, n, t, e, h⟩ => (i3_2 (a) ( n) ( t) ( e) ( g.tupl h))
  | .un c x, v, ⟨a, n, t, u, e, h, hx⟩ => (i4_3 (a) ( n) ( t) ( u) ( e) ( g.tupl h) ( hx.nc g))
  | .bi c x y, v, ⟨a, n, t, u, w, e, h, hx, hy⟩ => (i5_4 (a) ( n) ( t) ( u) ( w) ( e) ( g.tupl h) ( hx.nc g) ( hy.nc g))
theorem LotT.nc {σ σ' : Led} (g : NCell σ σ') {la : Addr} {ts : List Tm} (h : LotT σ la ts) : LotT σ' la ts := by
  (refine x2_3 h ?_; clear h; intro vs n a b c)
  exact (i2_3 (vs) ( n) ( g.lst a) ( b) ( fun i t v h1 h2 => (c i t v h1 h2).nc g))
noncomputable def TsV (σ : Led) (vs : List Value) (ts : List Tm) : Prop := vs.length = ts.length ∧ ∀ (i : Nat) t v, ts[i]? = some t → vs[i]? = some v → TmT σ t v
theorem TsV.nc {σ σ' : Led} (g : NCell σ σ') {vs : List Value} {ts : List Tm} (h : TsV σ vs ts) : TsV σ' vs ts := ⟨h.1, fun i t v h1 h2 => (h.2 i t v h1 h2).nc g⟩
theorem TsV.snoc {σ : Led} {vs : List Value} {ts : List Tm} {t : Tm} {v : Value} (h : TsV σ vs ts) (ht : TmT σ t v) : TsV σ (vs ++ [v]) (ts ++ [t]) := by
  refine ⟨by simp [h.1], fun i u y h1 h2 => ?_⟩
  rw [List.getElem?_append] at h1 h2
  rw [h.1] at h2
  split at h1
  · rename_i hlt
    rw [if_pos hlt] at h2
    exact h.2 i u y h1 h2
  · rename_i hlt
    rw [if_neg hlt] at h2
    (refine x0_2 (last_get h1) ?_; intro _ er1; obtain rfl := er1)
    (refine x0_2 (last_get h2) ?_; intro _ er1; obtain rfl := er1)
    exact ht
theorem TsV.append {σ : Led} {vs ws : List Value} {ts us : List Tm} (h : TsV σ vs ts) (h' : TsV σ ws us) : TsV σ (vs ++ ws) (ts ++ us) := by
  refine ⟨by simp [h.1, h'.1], fun i u y h1 h2 => ?_⟩
  rw [List.getElem?_append] at h1 h2
  rw [h.1] at h2
  split at h1
  · rename_i hlt
    rw [if_pos hlt] at h2
    exact h.2 i u y h1 h2
  · rename_i hlt
    rw [if_neg hlt] at h2
    exact h'.2 _ u y h1 h2
theorem TsV.nil {σ : Led} : TsV σ [] [] := ⟨rfl, fun i t v h => by simp at h⟩
noncomputable def PrV (σ : Led) (vs : List Value) (ps : Eqs) : Prop := vs.length = ps.length ∧ ∀ (i : Nat) p v, ps[i]? = some p → vs[i]? = some v → ∃ q a b n, v = .ref q ∧ σ q = some (tupOf [a, b] n) ∧ TmT σ p.1 a ∧ TmT σ p.2 b
theorem PrV.nc {σ σ' : Led} (g : NCell σ σ') {vs : List Value} {ps : Eqs} (h : PrV σ vs ps) : PrV σ' vs ps := ⟨h.1, fun i t v h1 h2 => by
  (refine x4_4 (h.2 i t v h1 h2) ?_; intro q a b n e h3 h4 h5)
  exact (i4_4 (q) ( a) ( b) ( n) ( e) ( g.tupl h3) ( h4.nc g) ( h5.nc g))⟩
theorem PrV.nil {σ : Led} : PrV σ [] [] := ⟨rfl, fun i t v h => by simp at h⟩
theorem PrV.snoc {σ : Led} {vs : List Value} {ps : Eqs} {p : Tm × Tm} {q : Addr} {a b : Value} {n : Nat} (h : PrV σ vs ps) (hq : σ q = some (tupOf [a, b] n)) (h1 : TmT σ p.1 a) (h2 : TmT σ p.2 b) : PrV σ (vs ++ [.ref q]) (ps ++ [p]) := by
  refine ⟨by simp [h.1], fun i u y g1 g2 => ?_⟩
  rw [List.getElem?_append] at g1 g2
  rw [h.1] at g2
  split at g1
  · rename_i hlt
    rw [if_pos hlt] at g2
    exact h.2 i u y g1 g2
  · rename_i hlt
    rw [if_neg hlt] at g2
    (refine x0_2 (last_get g1) ?_; intro _ er1; obtain rfl := er1)
    (refine x0_2 (last_get g2) ?_; intro _ er1; obtain rfl := er1)
    exact (i4_4 (q) ( a) ( b) ( n) ( rfl) ( hq) ( h1) ( h2))
noncomputable def PairsT (σ : Led) (da : Addr) (ps : Eqs) : Prop := ∃ vs n, σ da = some (lstOf vs n) ∧ PrV σ vs ps
theorem PairsT.nc {σ σ' : Led} (g : NCell σ σ') {da : Addr} {ps : Eqs} (h : PairsT σ da ps) : PairsT σ' da ps := by
  (refine x2_2 h ?_; clear h; intro vs n a b)
  exact (i2_2 (vs) ( n) ( g.lst a) ( b.nc g))
noncomputable def MarkT (w : World) (σ : Led) (ma : Addr) (ts : List Tm) (f : Tm → Nat) : Prop := ∃ o xs, σ ma = some o ∧ KyDict w o xs ∧ xs.length = ts.length ∧ ∀ (i : Nat) t, ts[i]? = some t → ∃ a tk, xs[i]? = some (tmKy t, a, .int (f t : Nat) tk) ∧ TmT σ t (.ref a)
theorem KyDict.nocell {w : World} {o : Obj} {xs : List (Ky × Addr × Value)} (h : KyDict w o xs) : ∀ v, o.data ≠ .cell v := fun v e => by
  (refine x2_3 h ?_; clear h; intro es ep _ h2 _)
  (first | exact nos (h2) e | exact nos e (h2) | (rw [h2] at e; cases e))
theorem MarkT.nc {w : World} {σ σ' : Led} (g : NCell σ σ') {ma : Addr} {ts : List Tm} {f : Tm → Nat} (h : MarkT w σ ma ts f) : MarkT w σ' ma ts f := by
  (refine x2_4 h ?_; clear h; intro o xs h1 h2 h3 h4)
  exact (i2_4 (o) ( xs) ( g _ _ h1 h2.nocell) ( h2) ( h3) ( fun i t ht => by (refine x2_2 (h4 i t ht) ?_; intro a tk h5 h6); exact ⟨a, tk, h5, h6.nc g⟩))
theorem MarkT.keys {w : World} {σ : Led} {ts : List Tm} {f : Tm → Nat} {xs : List (Ky × Addr × Value)} (h3 : xs.length = ts.length) (h4 : ∀ (i : Nat) t, ts[i]? = some t → ∃ a tk, xs[i]? = some (tmKy t, a, .int (f t : Nat) tk) ∧ TmT σ t (.ref a)) (hg : ∀ u ∈ ts, u.good) : KyKeys σ xs := by
  intro x hx
  obtain ⟨i, hi⟩ := List.getElem?_of_mem hx
  have hlt : i < ts.length := by have := get_lt hi; exact (Nat.lt_of_lt_of_eq this h3)
  (refine x2_2 (h4 i ts[i] (by simp [hlt])) ?_; intro a tk h5 h6)
  (first | exact nos (hi) h5 | exact nos h5 (hi) | (rw [hi] at h5; cases h5))
  have := hg _ (List.getElem_mem hlt)
  exact h6.ky this.1 this.2
theorem TmT.isRef {σ : Led} {t : Tm} {v : Value} (h : TmT σ t v) : ∃ a, v = .ref a := by
  (refine x4_2 h.open ?_; intro a _ _ _ e _); exact ⟨a, e⟩
noncomputable def PrM (σ : Led) (vs : List Value) (ts : List Tm) (f : Tm → Nat) : Prop := vs.length = ts.length ∧ ∀ (i : Nat) t v, ts[i]? = some t → vs[i]? = some v → ∃ q a tk n, v = .ref q ∧ σ q = some (tupOf [.ref a, .int (f t : Nat) tk] n) ∧ TmT σ t (.ref a)
theorem PrM.nc {σ σ' : Led} (g : NCell σ σ') {vs : List Value} {ts : List Tm} {f : Tm → Nat} (h : PrM σ vs ts f) : PrM σ' vs ts f := ⟨h.1, fun i t v h1 h2 => by
  (refine x4_3 (h.2 i t v h1 h2) ?_; intro q a b n e h3 h4)
  exact (i4_3 (q) ( a) ( b) ( n) ( e) ( g.tupl h3) ( h4.nc g))⟩
theorem PrM.nil {σ : Led} {f : Tm → Nat} : PrM σ [] [] f := ⟨rfl, fun i t v h => by simp at h⟩
theorem PrM.snoc {σ : Led} {vs : List Value} {ts : List Tm} {f : Tm → Nat} {t : Tm} {q a : Addr} {tk : Tok} {n : Nat} (h : PrM σ vs ts f) (hq : σ q = some (tupOf [.ref a, .int (f t : Nat) tk] n)) (h1 : TmT σ t (.ref a)) : PrM σ (vs ++ [.ref q]) (ts ++ [t]) f := by
  refine ⟨by simp [h.1], fun i u y g1 g2 => ?_⟩
  rw [List.getElem?_append] at g1 g2
  rw [h.1] at g2
  split at g1
  · rename_i hlt
    rw [if_pos hlt] at g2
    exact h.2 i u y g1 g2
  · rename_i hlt
    rw [if_neg hlt] at g2
    (refine x0_2 (last_get g1) ?_; intro _ er1; obtain rfl := er1)
    (refine x0_2 (last_get g2) ?_; intro _ er1; obtain rfl := er1)
    exact (i4_3 (q) ( a) ( tk) ( n) ( rfl) ( hq) ( h1))
theorem list_choose {β : Type} : ∀ (n : Nat) (P : Nat → β → Prop), (∀ i, i < n → ∃ b, P i b) → ∃ l : List β, l.length = n ∧ ∀ i b, l[i]? = some b → P i b
  | 0, P, _ => (i1_2 ([]) ( rfl) ( fun i b h => by simp at h))
  | n + 1, P, h => by
    (refine x1_2 (list_choose n P fun i hi => h i (by exact (Nat.lt_of_lt_of_le hi (Nat.le_add_right _ _)))) ?_; intro l h1 h2)
    (refine x1_1 (h n (by exact (Nat.lt_succ_self _))) ?_; intro b hb)
    refine (i1_2 (l ++ [b]) ( by simp [h1]) ( fun i c hc => ?_))
    rw [List.getElem?_append] at hc
    split at hc
    · exact h2 i c hc
    · rename_i hlt
      (refine x0_2 (last_get hc) ?_; intro e er1; obtain rfl := er1)
      have : i = n := by omega
      subst this; exact hb
section
variable {X : Cx} {m : Loc} {σ : Led} {d : Nat}
theorem j_mark {value slice : PySem.Expr} {ma : Addr} {ts : List Tm} {f : Tm → Nat} {t : Tm} {v : Value} {Q : Value → Loc → Led → Prop} (O : X.Ok d) (hm : MarkT X.w σ ma ts f) (ht : TmT σ t v) (hmem : t ∈ ts) (hg : ∀ u ∈ ts, u.good)
    (he : ∀ a, subscripted slice false (.ref ma) (.ref a) = operate [.ref ma, .ref a] (getItem (.ref ma) (.ref a))) (h : ∀ tk, Q (.int (f t : Nat) tk) m σ) : J X (subscriptTail value slice (.ref ma) v) m σ Q := by
  (refine x2_4 hm ?_; clear hm; intro o xs h1 h2 h3 h4)
  have hx := MarkT.keys (w := X.w) h3 h4 hg
  (refine x1_1 ht.isRef ?_; intro va er1; obtain rfl := er1)
  obtain ⟨i, hi⟩ := List.getElem?_of_mem hmem
  (refine x2_2 (h4 i t hi) ?_; intro a tk h5 h6)
  have hn : (xs.map (·.1)).Nodup := by (refine x2_4 h2 ?_; clear h2; intro _ _ _ _ _ q); exact q
  exact j_tail_ky O h1 h2 hx (ht.ky (hg t hmem).1 (hg t hmem).2) (atKey_of_get hn h5) (he va) (h tk)
theorem j_mkMarks {l : Addr} {n : Nat} {vs : List Value} {ts : List Tm} {f : Tm → Nat} {Q : Value → Loc → Led → Prop} (O : X.Ok d) (hs : σ l = some (lstOf vs n)) (hp : PrM σ vs ts f) (hn : ts.Nodup) (hg : ∀ u ∈ ts, u.good) (hz : ts.length ≤ 1000)
    (h : ∀ a o, σ a = none → MarkT X.w (σ.set a o) a ts f → Q (.ref a) m (σ.set a o)) : J X (call (.type "dict") [.ref l]) m σ Q := by
  (refine x0_2 hp ?_; clear hp; intro hl hat)
  obtain ⟨xs, hxl, hxs⟩ := list_choose (β := Ky × Addr × Value) ts.length (fun i x => ∃ t q a tk n, ts[i]? = some t ∧ vs[i]? = some (.ref q) ∧ σ q = some (tupOf [.ref a, .int (f t : Nat) tk] n) ∧ TmT σ t (.ref a) ∧ x = (tmKy t, a, .int (f t : Nat) tk)) (fun i hi => by
    (refine x4_3 (hat i ts[i] vs[i] (by simp [hi]) (by simp)) ?_; intro q a tk n e h3 h4)
    exact ⟨_, ts[i], q, a, tk, n, by simp [hi], by rw [← e]; simp, h3, h4, rfl⟩)
  have hxi : ∀ (i : Nat) t, ts[i]? = some t → ∃ q a tk n, vs[i]? = some (.ref q) ∧ σ q = some (tupOf [.ref a, .int (f t : Nat) tk] n) ∧ TmT σ t (.ref a) ∧ xs[i]? = some (tmKy t, a, .int (f t : Nat) tk) := fun i t ht => by
    have hlt : i < xs.length := by have := get_lt ht; exact (Nat.lt_of_lt_of_eq this (Eq.symm hxl))
    (refine x5_5 (hxs i xs[i] (by simp)) ?_; intro t' q a tk n e1 e2 e3 e4 e5)
    (first | exact nos (ht) e1 | exact nos e1 (ht) | (rw [ht] at e1; cases e1))
    exact (i4_4 (q) ( a) ( tk) ( n) ( e2) ( e3) ( e4) ( by rw [← e5]; simp))
  have h4 : ∀ (i : Nat) t, ts[i]? = some t → ∃ a tk, xs[i]? = some (tmKy t, a, .int (f t : Nat) tk) ∧ TmT σ t (.ref a) := fun i t ht => by
    (refine x4_4 (hxi i t ht) ?_; intro q a tk n _ _ h5 h6)
    exact (i2_2 (a) ( tk) ( h6) ( h5))
  have hkeys : xs.map (·.1) = ts.map tmKy := by
    refine List.ext_getElem? fun i => ?_
    rw [List.getElem?_map, List.getElem?_map]
    cases q : ts[i]? with
    | none =>
      rw [List.getElem?_eq_none_iff] at q
      rw [List.getElem?_eq_none (by exact (Nat.le_trans (Nat.le_of_eq hxl) q))]; rfl
    | some t =>
      (refine x2_2 (h4 i t q) ?_; intro a tk h5 _)
      rw [h5]; rfl
  refine j_dict_pairs (xs := xs) O hs (by exact (Eq.trans hl (Eq.symm hxl))) ?_ (by exact (Nat.le_trans (Nat.le_trans (Nat.le_of_eq hxl) hz) (Nat.le_of_ble_eq_true rfl))) (fun j v x hv hx => ?_) (MarkT.keys (w := X.w) hxl h4 hg) fun a o ha ho => ?_
  · rw [hkeys, List.nodup_iff_pairwise_ne, List.pairwise_map]
    exact (List.nodup_iff_pairwise_ne.mp hn).imp fun hne e => hne (tmKy_inj e)
  · have hlt : j < ts.length := by have := get_lt hx; exact (Nat.lt_of_lt_of_eq this hxl)
    (refine x4_4 (hxi j ts[j] (by simp [hlt])) ?_; intro q a tk n e2 e3 e4 e5)
    (first | exact nos (hv) e2 | exact nos e2 (hv) | (rw [hv] at e2; cases e2))
    (first | exact nos (hx) e5 | exact nos e5 (hx) | (rw [hx] at e5; cases e5))
    exact (i2_2 (q) ( n) ( rfl) ( e3))
  · exact h a o ha (i2_4 (o) ( xs) ( Led.set_self) ( ho) ( hxl) ( fun i t ht => by
      (refine x2_2 (h4 i t ht) ?_; intro b tk h5 h6)
      exact (i2_2 (b) ( tk) ( h5) ( h6.nc (Sub.new ha).nc))))
theorem j_list_list {l : Addr} {vs : List Value} {n : Nat} {Q : Value → Loc → Led → Prop} (hs : σ l = some (lstOf vs n)) (hz : vs.length ≤ 16777216) (h : ∀ a k, σ a = none → Q (.ref a) m (σ.set a (lstOf vs k))) : J X (call (.type "list") [.ref l]) m σ Q :=
  fun b s B S => call_list_seq (T := "list") (n := n) (items := vs.toArray) (hsz := by first | exact ((List.size_toArray).trans ((sizeLine_eq).trans hz)) | (rw [List.size_toArray, sizeLine_eq]; exact hz)) l (.inl rfl) (S.nw _ _ hs).1 rfl rfl fun h' c' k hD =>
    .mk B.heap (S.newObj (tk := s.toks) (Nat.le_refl _) hD k) (h _ c' (S.fresh (Nat.le_refl _)).1)
theorem j_len_tup {t : Addr} {vs : List Value} {n : Nat} {Q : Value → Loc → Led → Prop} (hs : σ t = some (tupOf vs n)) (hz : vs.length ≤ 16777216) (h : ∀ tk, Q (.int vs.length tk) m σ) : J X (call (.builtin "len") [.ref t]) m σ Q :=
  fun b s B S => PyProof.Rows.len_tuple (tupAt' S hs tupO) (by simp; omega) (.mk B.tk S.toks (by simpa using h _))
noncomputable def prPy (p : Tm × Tm) : PyData := .tuple [(tmKy p.1).py.1, (tmKy p.2).py.1]
theorem prPy_lay : ∀ {ps : Eqs}, (∀ p ∈ ps, p.1.good ∧ p.2.good) → PyData.canLayAll0 (ps.map prPy) = true
  | [], _ => by simp [PyData.canLayAll0]
  | p :: ps, h => by
    have h1 := (py_lay _ (tmKy_okS (h p (.head _)).1.1)).1
    have h2 := (py_lay _ (tmKy_okS (h p (.head _)).2.1)).1
    simp [PyData.canLayAll0, PyData.canLay0, prPy, h1, h2, prPy_lay (ps := ps) fun q hq => h q (.tail _ hq)]
theorem reads_all {h : Heap} : ∀ {vs : List Value} {ds : List PyData}, vs.length = ds.length → (∀ (i : Nat) v d, vs[i]? = some v → ds[i]? = some d → Reads h v d []) → ReadsAll h vs ds []
  | [], [], _, _ => .nil
  | v :: vs, d :: ds, hl, hr => .cons (as := []) (bs := []) (hr 0 v d rfl rfl) (reads_all (by simpa using hl) fun i v d h1 h2 => hr (i + 1) v d (by simpa using h1) (by simpa using h2))
  | [], _ :: _, hl, _ => by simp at hl
  | _ :: _, [], hl, _ => by simp at hl
theorem j_ne_nil {da na : Addr} {ps : Eqs} {n : Nat} {Q : Value → Loc → Led → Prop} (O : X.Ok d) (hd : PairsT σ da ps) (hn : σ na = some (lstOf [] n)) (hg : ∀ p ∈ ps, p.1.good ∧ p.2.good)
    (h : Q (.bool (decide (ps ≠ []))) m σ) : J X (compareOp .NotEq (.ref da) (.ref na)) m σ Q := by
  (refine x2_3 hd ?_; clear hd; intro vs k hda hl hv)
  have rd : ∀ s, St X m σ s → ReadsAll s.heap vs (ps.map prPy) [] := fun s S => reads_all (by simpa using hl) fun i v d h1 h2 => by
    rw [List.getElem?_map] at h2
    cases q : ps[i]? with
    | none => (first | exact nos (q) h2 | exact nos h2 (q) | (rw [q] at h2; cases h2))
    | some p =>
      (first | exact nos (q) h2 | exact nos h2 (q) | (rw [q] at h2; cases h2))
      (refine x4_4 (hv i p v q h1) ?_; intro a x y n' er1 e hx hy; obtain rfl := er1)
      have one : ∀ {t : Tm} {y : Value}, TmT σ t y → Reads s.heap y (tmKy t).py.1 [] := fun h => (bears_reads _).1 _ (h.isKy.mono fun a o e => (S.nw a o e).1)
      exact .tuple (S.nw _ _ e).1 rfl rfl (.cons (as := []) (bs := []) (one hx) (.cons (as := []) (bs := []) (one hy) .nil))
  refine neBool_reads (da := .list (ps.map prPy)) (db := .list []) O (fun s S => .list (S.nw _ _ hda).1 rfl rfl (rd s S)) (fun s S => .list (S.nw _ _ hn).1 rfl rfl .nil) (by simp [PyData.canLay0, prPy_lay hg]) (by simp [PyData.canLay0, PyData.canLayAll0]) (by simp [PyData.depth, PyData.depthAll]) ?_
  have e : (!PyData.eqv (.list (ps.map prPy)) (.list [])) = decide (ps ≠ []) := by
    cases ps with
    | nil => simp [PyData.eqv, PyData.eqvAll]
    | cons p r => simp [PyData.eqv, PyData.eqvAll]
  rw [e]; exact h
theorem j_bindPairC {x y : Str} {px py : Pos} {k : Nat} {pos : Pos} {t c : Addr} {o oc : Obj} {v w : Value} {v0 : Option Value} {Q : Unit → Loc → Led → Prop} (O : X.Ok d) (hs : σ t = some o) (ho : IsTupO o [v, w])
    (hx : X.env.kindOf x = some .cell) (hc : X.env.cells.lookup x = some c) (hsc : σ c = some oc) (hoc : oc.data = .cell v0) (hy : X.env.kindOf y = some .local) (h : ∀ o', o'.data = .cell (some v) → Q () (m.set y w) (σ.set c o')) :
    J X (assign (.Tuple [.Name x px, .Name y py] k pos) X.env (.ref t)) m σ Q := by
  have e : assignEach [PySem.Expr.Name x px, PySem.Expr.Name y py] X.env = [(false, assign (.Name x px) X.env), (false, assign (.Name y py) X.env)] := rfl
  refine j_assign_Tuple (by rw [e]; rfl) ?_
  first | refine Mine.sb (e) ?_ | rw [e]
  refine j_unpackItems_tup O hs ho rfl ?_
  refine j_assignInOrder_cons (j_assign_Name (j_store_cell O hx hc hsc hoc fun o' ho' => ?_))
  exact j_assignInOrder_cons (j_assign_Name (j_store_local O hy (j_assignInOrder_nil (h o' ho'))))
theorem j_bindPairCC {x y : Str} {px py : Pos} {k : Nat} {pos : Pos} {t c c' : Addr} {o oc oc' : Obj} {v w : Value} {v0 v1 : Option Value} {Q : Unit → Loc → Led → Prop} (O : X.Ok d) (hs : σ t = some o) (ho : IsTupO o [v, w])
    (hx : X.env.kindOf x = some .cell) (hc : X.env.cells.lookup x = some c) (hsc : σ c = some oc) (hoc : oc.data = .cell v0)
    (hy : X.env.kindOf y = some .cell) (hc' : X.env.cells.lookup y = some c') (hsc' : σ c' = some oc') (hoc' : oc'.data = .cell v1) (hne : c' ≠ c)
    (h : ∀ o1 o2, o1.data = .cell (some v) → o2.data = .cell (some w) → Q () m ((σ.set c o1).set c' o2)) :
    J X (assign (.Tuple [.Name x px, .Name y py] k pos) X.env (.ref t)) m σ Q := by
  have e : assignEach [PySem.Expr.Name x px, PySem.Expr.Name y py] X.env = [(false, assign (.Name x px) X.env), (false, assign (.Name y py) X.env)] := rfl
  refine j_assign_Tuple (by rw [e]; rfl) ?_
  first | refine Mine.sb (e) ?_ | rw [e]
  refine j_unpackItems_tup O hs ho rfl ?_
  refine j_assignInOrder_cons (j_assign_Name (j_store_cell O hx hc hsc hoc fun o' ho' => ?_))
  exact j_assignInOrder_cons (j_assign_Name (j_store_cell O hy hc' (by first | exact ((Led.set_ne hne).trans hsc') | (rw [Led.set_ne hne]; exact hsc')) hoc' fun o2 ho2 => j_assignInOrder_nil (h o' o2 ho' ho2)))
end
end
section
--FILE FX
noncomputable def sidesOf (E : Eqs) : List Tm := E.flatMap fun p => [p.1, p.2]
theorem mem_sidesOf {E : Eqs} {x : Tm} : x ∈ sidesOf E ↔ ∃ p ∈ E, x = p.1 ∨ x = p.2 := by
  unfold sidesOf
  simp [List.mem_flatMap]
theorem sizes_len : ∀ l : List Tm, l.length ≤ sizes l
  | [] => Nat.le_refl _
  | t :: l => by
    have h1 := sizes_len l
    have h2 := t.size_kids
    show l.length + 1 ≤ t.size + sizes l
    omega
theorem sidesOf_take {E : Eqs} {i : Nat} {p : Tm × Tm} (h : E[i]? = some p) : sidesOf (E.take (i + 1)) = sidesOf (E.take i) ++ [p.1, p.2] := by
  unfold sidesOf
  rw [List.take_add_one, h, List.flatMap_append]
  rfl
theorem sidesOf_len (E : Eqs) : (sidesOf E).length = 2 * E.length := by
  induction E with
  | nil => rfl
  | cons p r ih =>
    show (p.1 :: p.2 :: sidesOf r).length = _
    simp [ih]; exact rfl
noncomputable def atF (ts : List Tm) (x : Tm) : Nat := ts.findIdx fun y => decide (y = x)
theorem atF_get {ts : List Tm} (hn : ts.Nodup) {i : Nat} {x : Tm} (h : ts[i]? = some x) : atF ts x = i := by
  have hlt := get_lt h
  have e : ts[i] = x := by rw [List.getElem?_eq_getElem hlt] at h; exact Option.some.inj h
  unfold atF
  rw [List.findIdx_eq hlt]
  refine ⟨by simp [e], fun j hj => ?_⟩
  have hj2 : j < ts.length := by exact (Nat.lt_trans hj hlt)
  simp only [decide_eq_false_iff_not]
  intro q
  have := (List.getElem_inj (h₀ := hj2) (h₁ := hlt) hn).mp (q.trans e.symm)
  exact (Nat.lt_irrefl _ (Nat.lt_of_le_of_lt (Nat.le_of_eq (Eq.symm this)) hj))
theorem atF_inj {ts : List Tm} (hn : ts.Nodup) : ∀ x ∈ ts, ∀ y ∈ ts, atF ts x = atF ts y → x = y := by
  intro x hx y hy e
  obtain ⟨i, hi⟩ := List.getElem?_of_mem hx
  obtain ⟨j, hj⟩ := List.getElem?_of_mem hy
  rw [atF_get hn hi, atF_get hn hj] at e
  subst e
  rw [hi] at hj; exact Option.some.inj hj
theorem adN {L k j : Nat} (h : k ≠ j) : L + k ≠ L + j := by omega
theorem adL {a L k : Nat} (h : a < L) : a ≠ L + k := by omega
theorem adS {a L k : Nat} (h : a < L) : ¬ (L + k < L) := by omega
noncomputable def Ar (w : World) (L la : Addr) (σ0 : Led) (ts : List Tm) (f : Tm → Nat) (σ : Led) : Prop := ∃ ma q1 q2 q3 q4 v3 v4, MarkT w σ ma ts f ∧ LotT σ la ts ∧ Sub σ0 σ ∧ σ (L + 1) = some q1 ∧ q1.data = .cell (some (.ref la)) ∧ σ (L + 2) = some q2 ∧ q2.data = .cell (some (.ref ma)) ∧
  σ (L + 3) = some q3 ∧ q3.data = .cell v3 ∧ σ (L + 4) = some q4 ∧ q4.data = .cell v4
theorem Ar.sub {w : World} {L la : Addr} {σ0 σ σ' : Led} {ts : List Tm} {f : Tm → Nat} (h : Ar w L la σ0 ts f σ) (s : Sub σ σ') : Ar w L la σ0 ts f σ' := by
  (refine x7_11 h ?_; clear h; intro ma q1 q2 q3 q4 v3 v4 h1 h2 h3 h4 h5 h6 h7 h8 h9 h10 h11)
  exact (i7_11 (ma) ( q1) ( q2) ( q3) ( q4) ( v3) ( v4) ( h1.nc s.nc) ( h2.nc s.nc) ( h3.trans s) ( s _ _ h4) ( h5) ( s _ _ h6) ( h7) ( s _ _ h8) ( h9) ( s _ _ h10) ( h11))
theorem mergeF_take {f : Tm → Nat} {ps : Eqs} {i : Nat} {p : Tm × Tm} (h : ps[i]? = some p) : mergeF f (ps.take (i + 1)) = join1 (mergeF f (ps.take i)) (mergeF f (ps.take i) p.2) (mergeF f (ps.take i) p.1) := by
  unfold mergeF
  rw [List.take_add_one, h, List.foldl_append]
  rfl
theorem spec_arelike {w : World} {σ : Led} {d : Nat} {ea : Addr} {eqs : Eqs} {t u : Tm} {tv uv : Value} (hp : PairsT σ ea eqs) (ht : TmT σ t tv) (hu : TmT σ u uv) (htg : t.good) (hug : u.good) (hEg : ∀ p ∈ eqs, p.1.good ∧ p.2.good)
    (hz : sizes (t :: u :: sidesOf eqs) ≤ 900) :
    Spec w 476 [.ref ea, tv, uv] (d + 10) σ (fun r σ' => (∃ c, r = .bool c ∧ (c = true ↔ Ent eqs t u)) ∧ Sub σ σ') := by
  refine' spec_defC (binds := [(Str.ofString "equations", .ref ea), (Str.ofString "t", tv), (Str.ofString "u", uv)]) ?ho ?hcd ?hb ?hl ?hc ?h1 ?h2 ?h3 ?h
  case ho => k_is
  case hcd => k_is
  case hb => exact rfl
  case hl => exact rfl
  case hc => decide
  case h1 => exact rfl
  case h2 => exact rfl
  case h3 => exact rfl
  intro X cells hw O hE0 hlo hcells
  have hE := hE0
  subst hw
  (refine x4_5 ((show CellsAre _ [(Str.ofString "stays", X.env.locals + 4), (Str.ofString "gone", X.env.locals + 3), (Str.ofString "marks", X.env.locals + 2), (Str.ofString "lot", X.env.locals + 1)] cells from hcells).four) ?_; intro o4 o3 o2 o1 er1 d4 d3 d2 d1; obtain rfl := er1)
  have d1 : o1.data = .cell none := d1
  have d2 : o2.data = .cell none := d2
  have d3 : o3.data = .cell none := d3
  have d4 : o4.data = .cell none := d4
  have hn : ∀ k, 1 ≤ k → σ (X.env.locals + k) = none := fun k hk => by
    cases q : σ (X.env.locals + k) with
    | none => rfl
    | some o => exact absurd (hlo _ o q) (Nat.not_lt.mpr (Nat.le_add_right _ _))
  show J X _ _ ((((σ.set (X.env.locals + 1) o1).set (X.env.locals + 2) o2).set (X.env.locals + 3) o3).set (X.env.locals + 4) o4) _
  have s0 : Sub σ ((((σ.set (X.env.locals + 1) o1).set (X.env.locals + 2) o2).set (X.env.locals + 3) o3).set (X.env.locals + 4) o4) := fun a o e => by
    have := hlo a o e
    rw [Led.set_ne (adL this), Led.set_ne (adL this), Led.set_ne (adL this), Led.set_ne (adL this)]; exact e
  have c1 : ((((σ.set (X.env.locals + 1) o1).set (X.env.locals + 2) o2).set (X.env.locals + 3) o3).set (X.env.locals + 4) o4) (X.env.locals + 1) = some o1 := by
    rw [Led.set_ne (adN (by decide)), Led.set_ne (adN (by decide)), Led.set_ne (adN (by decide))]; exact Led.set_self
  have c2 : ((((σ.set (X.env.locals + 1) o1).set (X.env.locals + 2) o2).set (X.env.locals + 3) o3).set (X.env.locals + 4) o4) (X.env.locals + 2) = some o2 := by
    rw [Led.set_ne (adN (by decide)), Led.set_ne (adN (by decide))]; exact Led.set_self
  have c3 : ((((σ.set (X.env.locals + 1) o1).set (X.env.locals + 2) o2).set (X.env.locals + 3) o3).set (X.env.locals + 4) o4) (X.env.locals + 3) = some o3 := by
    rw [Led.set_ne (adN (by decide))]; exact Led.set_self
  have c4 : ((((σ.set (X.env.locals + 1) o1).set (X.env.locals + 2) o2).set (X.env.locals + 3) o3).set (X.env.locals + 4) o4) (X.env.locals + 4) = some o4 := Led.set_self
  (generalize ((((σ.set (X.env.locals + 1) o1).set (X.env.locals + 2) o2).set (X.env.locals + 3) o3).set (X.env.locals + 4) o4) = σ1 at *; revert σ1; refine bar ?_; set_option tactic.hygienic false in intros)
  have hp1 := hp.nc s0.nc
  have ht1 := ht.nc s0.nc
  have hu1 := hu.nc s0.nc
  repeat k_upd
  intro la hla
  have sl : Sub σ1 (σ1.set la (lstOf [] 0)) := .new hla
  have la1 : (σ1.set la (lstOf [] 0)) la = some (lstOf [] 0) := Led.set_self
  (generalize σ1.set la (lstOf [] 0) = σ2 at *; revert σ2; refine bar ?_; set_option tactic.hygienic false in intros)
  replace hp1 := hp1.nc sl.nc
  replace ht1 := ht1.nc sl.nc
  replace hu1 := hu1.nc sl.nc
  replace c1 := sl _ _ c1
  replace c2 := sl _ _ c2
  replace c3 := sl _ _ c3
  replace c4 := sl _ _ c4
  have nla : ∀ a o, σ a = some o → a ≠ la := fun a o e q => by subst q; (first | exact nos (s0 _ _ e) hla | exact nos hla (s0 _ _ e) | (rw [s0 _ _ e] at hla; cases hla))
  replace s0 := s0.trans sl
  clear sl hla
  ((refine' j_store_cell ?aq11 ?bq11 ?cq11 ?dq11 ?eq11 ?_); (case aq11 => assumption); (case bq11 => k_mem); (case cq11 => (refine' cells_eq ?hq11 ?kq11; (case hq11 => assumption); (case kq11 => exact rfl))); (case dq11 | eq11 => assumption))
  intro p1 e1
  have n1 : NCell σ2 (σ2.set (X.env.locals + 1) p1) := NCell.set c1 d1
  replace s0 : Sub σ (σ2.set (X.env.locals + 1) p1) := fun a o e => by first | exact ((Led.set_ne (adL (hlo a o e))).trans (s0 a o e)) | (rw [Led.set_ne (adL (hlo a o e))]; exact s0 a o e)
  replace c2 : (σ2.set (X.env.locals + 1) p1) (X.env.locals + 2) = some o2 := by first | exact ((Led.set_ne (adN (by decide))).trans c2) | (rw [Led.set_ne (adN (by decide))]; exact c2)
  replace c3 : (σ2.set (X.env.locals + 1) p1) (X.env.locals + 3) = some o3 := by first | exact ((Led.set_ne (adN (by decide))).trans c3) | (rw [Led.set_ne (adN (by decide))]; exact c3)
  replace c4 : (σ2.set (X.env.locals + 1) p1) (X.env.locals + 4) = some o4 := by first | exact ((Led.set_ne (adN (by decide))).trans c4) | (rw [Led.set_ne (adN (by decide))]; exact c4)
  replace c1 : (σ2.set (X.env.locals + 1) p1) (X.env.locals + 1) = some p1 := Led.set_self
  (generalize σ2.set (X.env.locals + 1) p1 = σ3 at *; revert σ3; refine bar ?_; set_option tactic.hygienic false in intros)
  replace hp1 := hp1.nc n1
  replace ht1 := ht1.nc n1
  replace hu1 := hu1.nc n1
  replace la1 := n1.lst la1
  clear n1
  clear d1
  have d1 := e1
  clear e1
  repeat k_upd
  k_places
  repeat k_upd
  intro ta hta
  (refine x2_3 hp1 ?_; clear hp1; intro vs n hea hvl hvs)
  have s4 : Sub σ3 (σ3.set ta (lstOf [tv, uv] 0)) := .new hta
  have hta4 : (σ3.set ta (lstOf [tv, uv] 0)) ta = some (lstOf [tv, uv] 0) := Led.set_self
  replace hea := s4 _ _ hea
  replace hvs : PrV (σ3.set ta (lstOf [tv, uv] 0)) vs eqs := PrV.nc s4.nc ⟨hvl, hvs⟩
  replace ht1 := ht1.nc s4.nc
  replace hu1 := hu1.nc s4.nc
  replace la1 := s4 _ _ la1
  replace c1 := s4 _ _ c1
  replace c2 := s4 _ _ c2
  replace c3 := s4 _ _ c3
  replace c4 := s4 _ _ c4
  have ntl : ta ≠ la := by rintro rfl; (first | exact nos (Led.set_self) la1 | exact nos la1 (Led.set_self) | (rw [Led.set_self] at la1; cases la1))
  replace s0 := s0.trans s4
  clear s4 hta
  (generalize σ3.set ta (lstOf [tv, uv] 0) = σ4 at *; revert σ4; refine bar ?_; set_option tactic.hygienic false in intros)
  have hsl : 2 * eqs.length ≤ 900 := by
    have h1 := sizes_len (t :: u :: sidesOf eqs)
    have h2 := sidesOf_len eqs
    simp at h1; omega
  have TL : ∀ {ys : List Value} {σ' : Led} {i : Nat}, TsV σ' ys (sidesOf (eqs.take i)) → ys.length ≤ 900 := fun {ys σ' i} h => by
    have h1 := h.1
    have h2 := sidesOf_len (eqs.take i)
    have h3 := List.length_take_le i eqs
    rw [List.length_take] at h2
    omega
  ((refine' j_ListComp2 ?aq13 ?bq13 ?cq13 ?dq13 ?eq13 ?fq13 ?gq13 ?_); (case aq13 => assumption); (case bq13 => k_mem); (case cq13 => decide); (case dq13 => exact rfl); (case eq13 => decide); (case fq13 => k_mem); (case gq13 => (intros; exact rfl)))
  repeat k_upd
  let Iv1 : Nat → List Value → Led → Prop := fun i ys σ' => i ≤ eqs.length ∧ TsV σ' ys (sidesOf (eqs.take i)) ∧ Sub σ4 σ'
  refine ⟨.list ea vs.toArray, rfl, ⟨_, hea, rfl, _, rfl⟩, Iv1, (i0_3 (Nat.zero_le _) ( TsV.nil) ( .refl)), ?_, ?_⟩
  · (intro X' i v ys mc σ5 O5 hw5 hE5 hi hv zt1 ok5; refine x0_3 zt1 ?_; clear zt1; intro hi5 hy5 s5)
    (rw [hE] at hE5; replace hE5 := hE5)
    have hvi : vs[i]? = some v := by simpa [Src.item] using hv
    have hil : i < eqs.length := by have := get_lt hvi; exact (Nat.lt_of_lt_of_eq this hvl)
    (refine x4_4 (hvs.2 i eqs[i] v (by simp [hil]) hvi) ?_; intro q a b nq er1 hq ha hb; obtain rfl := er1)
    repeat k_upd
    let Iv2 : Nat → List Value → Loc → Led → Prop := fun j zs _ σ' => j ≤ 2 ∧ TsV σ' zs (sidesOf (eqs.take i) ++ [eqs[i].1, eqs[i].2].take j) ∧ Sub σ4 σ'
    refine ⟨.tup q [a, b].toArray, rfl, ⟨_, s5 _ _ hq, rfl, _, rfl⟩, ok5, Iv2, (i0_3 (Nat.zero_le _) ( by simpa using hy5) ( s5)), fun j zs _ σ' h => ?_, ?_, ?_⟩
    · have h1 := h.2.1.1
      rw [List.length_append] at h1
      have h3 : (List.take j [eqs[i].1, eqs[i].2]).length ≤ 2 := List.length_take_le' j _
      have h4 := hy5.1
      have h5 := TL hy5
      omega
    · (intro X'' j y zs mc2 σ6 O6 hw6 hE6 hj hy zt1 ok6 okk6; refine x0_3 zt1 ?_; clear zt1; intro hj6 hz6 s6)
      have hE7 : X''.env = _ := hE6.trans hE5
      have hyj : [a, b][j]? = some y := by simpa [Src.item] using hy
      have hj2 : j < 2 := get_lt hyj
      repeat k_upd
      refine (i0_3 ((i0_3 (by exact hj2) ( ?_) ( s6))) ( ok6) ( okk6))
      have hpj : [eqs[i].1, eqs[i].2][j]? = some ([eqs[i].1, eqs[i].2][j]'hj2) := by simp
      rw [List.take_add_one, hpj, ← List.append_assoc]
      refine hz6.snoc ?_
      match j, hj2, hyj with
      | 0, _, hyj => simp at hyj; subst hyj; exact ha.nc s6.nc
      | 1, _, hyj => simp at hyj; subst hyj; exact hb.nc s6.nc
    · (intro zs mc2 σ6 zr1 _ _; refine x0_3 zr1 ?_; clear zr1; intro _ hz6 s6)
      refine (i0_3 (by exact hil) ( ?_) ( s6))
      first | refine Mine.sb (sidesOf_take (p := eqs[i]) (by simp)) ?_ | rw [sidesOf_take (p := eqs[i]) (by simp)]
      exact hz6
  · (intro ys σ5 D k zr1 _ hD; refine x0_3 zr1 ?_; clear zr1; intro _ hy5 s5)
    have hsz : (Src.list ea vs.toArray).size = eqs.length := by simp [Src.size, hvl]
    rw [hsz, List.take_length] at hy5
    have s6 : Sub σ4 (σ5.set D (lstOf ys k)) := s5.trans (.new hD)
    have hD6 : (σ5.set D (lstOf ys k)) D = some (lstOf ys k) := Led.set_self
    have hy6 : TsV (σ5.set D (lstOf ys k)) ys (sidesOf eqs) := hy5.nc (Sub.new hD).nc
    have hyl : ys.length ≤ 900 := by have := hy5.1; have := sidesOf_len eqs; omega
    replace ht1 := ht1.nc s6.nc
    replace hu1 := hu1.nc s6.nc
    replace la1 := s6 _ _ la1
    replace c1 := s6 _ _ c1
    replace c2 := s6 _ _ c2
    replace c3 := s6 _ _ c3
    replace c4 := s6 _ _ c4
    replace s0 := s0.trans s6
    replace hta4 := s6 _ _ hta4
    show J X (binaryOp Operator.Add (Value.ref ta) (Value.ref D)) _ (σ5.set D (lstOf ys k)) _
    clear s6 hy5 s5 hD hea hvs
    (generalize σ5.set D (lstOf ys k) = σ6b at *; revert σ6b; refine bar ?_; set_option tactic.hygienic false in intros)
    refine j_add_list hta4 hD6 (by simp; omega) fun sa hsa => ?_
    have s7 : Sub σ6b (σ6b.set sa (lstOf ([tv, uv] ++ ys) 0)) := .new hsa
    have hsa7 : (σ6b.set sa (lstOf ([tv, uv] ++ ys) 0)) sa = some (lstOf ([tv, uv] ++ ys) 0) := Led.set_self
    have hS : TsV (σ6b.set sa (lstOf ([tv, uv] ++ ys) 0)) ([tv, uv] ++ ys) (t :: u :: sidesOf eqs) := ((TsV.append (.snoc (.snoc .nil ht1) hu1) hy6).nc s7.nc : TsV _ ([tv, uv] ++ ys) ([t, u] ++ sidesOf eqs))
    have hSl : ([tv, uv] ++ ys).length = 2 + ys.length := by simp; omega
    (generalize [tv, uv] ++ ys = sv at *; revert sv; refine bar ?_; set_option tactic.hygienic false in intros)
    (generalize σ6b.set sa (lstOf sv 0) = σ7 at *; revert σ7; refine bar ?_; set_option tactic.hygienic false in intros)
    have nsl : sa ≠ la := by rintro rfl; (first | exact nos (la1) hsa | exact nos hsa (la1) | (rw [la1] at hsa; cases hsa))
    replace ht1 := ht1.nc s7.nc
    replace hu1 := hu1.nc s7.nc
    replace la1 := s7 _ _ la1
    replace c1 := s7 _ _ c1
    replace c2 := s7 _ _ c2
    replace c3 := s7 _ _ c3
    replace c4 := s7 _ _ c4
    replace s0 := s0.trans s7
    clear s7 hsa hta4 hD6 hy6
    have gs : ∀ x ∈ t :: u :: sidesOf eqs, x.good := fun x hx => by
      rcases List.mem_cons.mp hx with rfl | hx
      · exact htg
      rcases List.mem_cons.mp hx with rfl | hx
      · exact hug
      (refine x1_2 (mem_sidesOf.mp hx) ?_; rintro p hpm (rfl | rfl))
      · exact (hEg p hpm).1
      · exact (hEg p hpm).2
    have nc : ∀ {k : Nat} {o : Obj} {v : Option Value}, σ7 (X.env.locals + k) = some o → o.data = .cell v → X.env.locals + k ≠ la := fun e q h => by
      rw [h, la1] at e; cases e; cases q
    let Iv3 : Nat → Loc → Led → Prop := fun i m' σ' => i ≤ sv.length ∧ LotT σ' la (collectAll ((t :: u :: sidesOf eqs).take i) []) ∧ FmD la σ7 σ' ∧ Sub σ σ' ∧
        m' (Str.ofString "t") = some tv ∧ m' (Str.ofString "u") = some uv ∧ m' (Str.ofString "equations") = some (.ref ea)
    refine ⟨.list sa sv.toArray, rfl, ⟨_, hsa7, rfl, _, rfl⟩, Iv3,
      (i0_7 (Nat.zero_le _) ( (i2_3 ([]) ( 0) ( la1) ( rfl) ( fun i t v h => by simp [collectAll] at h))) ( fun _ _ e _ => e) ( s0) ( rfl) ( rfl) ( rfl)), ?_, ?_⟩
    · (intro p i v m2 σ8 O8 hil hv zr1 _; refine x0_7 zr1 ?_; clear zr1; intro hi8 hl8 f8 s8 m3 m4 m5)
      have hE2 : (X.kept p).env = _ := hE
      have hvi : sv[i]? = some v := by simpa [Src.item] using hv
      have hSl2 : sv.length = (t :: u :: sidesOf eqs).length := hS.1
      have hil2 : i < (t :: u :: sidesOf eqs).length := by have := get_lt hvi; exact (Nat.lt_of_lt_of_eq this hSl2)
      have hti : (t :: u :: sidesOf eqs)[i]? = some (t :: u :: sidesOf eqs)[i] := by simp
      have htk : (t :: u :: sidesOf eqs).take (i + 1) = (t :: u :: sidesOf eqs).take i ++ [(t :: u :: sidesOf eqs)[i]] := by rw [List.take_add_one, hti]; rfl
      have hgi := gs _ (List.getElem_mem hil2)
      have hst := sizes_take hti
      have hsle := sizes_take_le (t :: u :: sidesOf eqs) (i + 1)
      have tp8 := FmD.tupL (ts := []) f8 (i2_3 ([]) ( 0) ( la1) ( rfl) ( fun i t v h => by simp at h))
      have hv8 : TmT σ8 (t :: u :: sidesOf eqs)[i] v := (hS.2 i _ v hti hvi).tup tp8
      have c18 := f8 _ _ c1 (nc c1 d1)
      have gts : ∀ x ∈ collectAll ((t :: u :: sidesOf eqs).take i) [], x.good := all_good (fun x hx => gs x (List.mem_of_mem_take hx)) (fun x hx => by cases hx)
      have hlen := all_len ((t :: u :: sidesOf eqs).take i) []
      (generalize (t :: u :: sidesOf eqs)[i] = ti at *; revert ti; refine bar ?_; set_option tactic.hygienic false in intros)
      repeat k_upd
      refine ((spec_collected ti hgi hl8 gts (by simp at hlen; omega) hv8).j (X := X.kept p) rfl O8 (by have := hgi.2; omega)).mono1 ?_
      (intro r σ9 zr1; refine x0_2 zr1 ?_; clear zr1; intro h9 f9)
      repeat k_upd
      refine ⟨(i0_7 (by exact (Nat.lt_of_lt_of_eq hil2 (Eq.symm hSl2))) ( ?_) ( f8.trans f9) ( fun a o e => f9 _ _ (s8 a o e) (nla a o e)) ( by k_mem) ( by k_mem) ( by k_mem)), ⟨_, (f8.trans f9) _ _ hsa7 nsl, rfl, _, rfl⟩⟩
      have : collectAll ((t :: u :: sidesOf eqs).take (i + 1)) [] = ti.collect (collectAll ((t :: u :: sidesOf eqs).take i) []) := by rw [htk]; unfold collectAll; rw [List.foldl_append]; rfl
      rw [this]; exact h9
    · (intro m8 σ8 zr1 _; refine x0_7 zr1 ?_; clear zr1; intro hi8 hl8 f8 s8 m3 m4 m5)
      have hSl2 : sv.length = (t :: u :: sidesOf eqs).length := hS.1
      have hsz8 : (Src.list sa sv.toArray).size = (t :: u :: sidesOf eqs).length := by simp [Src.size, hSl2]
      rw [hsz8, List.take_length] at hl8
      have c18 := f8 _ _ c1 (nc c1 d1)
      have c28 := f8 _ _ c2 (nc c2 d2)
      have c38 := f8 _ _ c3 (nc c3 d3)
      have c48 := f8 _ _ c4 (nc c4 d4)
      have L := (LotOk.all (l := t :: u :: sidesOf eqs) .nil)
      have gts := all_good (l := t :: u :: sidesOf eqs) (ts := []) gs (fun x hx => by cases hx)
      have hlen := all_len (t :: u :: sidesOf eqs) []
      have hlen2 : (collectAll (t :: u :: sidesOf eqs) []).length ≤ 900 := by simp at hlen; exact (Nat.le_trans hlen hz)
      (refine x0_3 L ?_; clear L; intro L1 _ L3)
      have htm : t ∈ collectAll (t :: u :: sidesOf eqs) [] := L3 _ (by simp)
      have hum : u ∈ collectAll (t :: u :: sidesOf eqs) [] := L3 _ (by simp)
      have hEm : ∀ e ∈ eqs, e.1 ∈ collectAll (t :: u :: sidesOf eqs) [] ∧ e.2 ∈ collectAll (t :: u :: sidesOf eqs) [] := fun e he =>
        ⟨L3 _ (.tail _ (.tail _ (mem_sidesOf.mpr (i1_2 (e) ( he) ( .inl rfl))))), L3 _ (.tail _ (.tail _ (mem_sidesOf.mpr (i1_2 (e) ( he) ( .inr rfl)))))⟩
      clear hlen hsz8 hSl2 hSl hsa7 hS f8 c1 c2 c3 c4 la1 s0 nc nsl ht1 hu1 L3 hyl gs
      (generalize collectAll (t :: u :: sidesOf eqs) [] = tsb at *; revert tsb; refine bar ?_; set_option tactic.hygienic false in intros)
      have hp8 := hp.nc s8.nc
      have ht8 := ht.nc s8.nc
      have hu8 := hu.nc s8.nc
      show J X _ m8 σ8 _
      clear hsz TL
      repeat k_upd
      ((refine' j_ListCompE ?aq15 ?bq15 ?cq15 ?dq15 ?eq15 ?fq15 ?gq15 ?hq15 ?iq15 ?jq15 ?kq15 ?lq15 ?_); (case aq15 => assumption); (case bq15 => k_mem); (case cq15 => decide); (case dq15 => exact rfl); (case eq15 | fq15 | gq15 => decide); (case hq15 => k_mem); (case iq15 | jq15 => exact rfl); (case kq15 => k_mem); (case lq15 => k_is))
      repeat k_upd
      (refine x2_3 (id hl8) ?_; intro lv ln hla8 hlvl hlv)
      refine ⟨la, lv, _, rfl, hla8, lstO, fun i ys σ' => i ≤ tsb.length ∧ PrM σ' ys (tsb.take i) (atF tsb) ∧ Sub σ8 σ', (i0_3 (Nat.zero_le _) ( PrM.nil) ( .refl)), fun i ys σ' h => ?_, ?_, ?_⟩
      · have h1 := h.2.1.1
        rw [List.length_take] at h1
        omega
      · (intro X' i v tk ys mc σ9 O9 hw9 hE9 hv zt1 hol9; refine x0_3 zt1 ?_; clear zt1; intro hi9 hy9 s9)
        (rw [hE] at hE9; replace hE9 := hE9)
        have hil : i < tsb.length := by have := get_lt hv; exact (Nat.lt_of_lt_of_eq this hlvl)
        have hti : tsb[i]? = some tsb[i] := by simp [hil]
        have htv := (hlv i tsb[i] v hti hv).nc s9.nc
        (refine x1_1 htv.isRef ?_; intro va er1; obtain rfl := er1)
        repeat k_upd
        intro pa hpa
        have s10 : Sub σ9 (σ9.set pa (tupOf [.ref va, .int i tk] 0)) := .new hpa
        refine ⟨(i0_3 (by exact hil) ( ?_) ( s9.trans s10)), s10 _ _ hol9⟩
        rw [List.take_add_one, hti]
        refine (hy9.nc s10.nc).snoc (q := pa) (a := va) (tk := tk) (n := 0) ?_ (htv.nc s10.nc)
        first | refine Mine.sb (atF_get L1.nd hti) ?_ | rw [atF_get L1.nd hti]
        exact Led.set_self
      · (intro ys σ9 D k zr1 hol9 hD; refine x0_3 zr1 ?_; clear zr1; intro _ hy9 s9)
        rw [hlvl, List.take_length] at hy9
        have s10 : Sub σ8 (σ9.set D (lstOf ys k)) := s9.trans (.new hD)
        have hD10 : (σ9.set D (lstOf ys k)) D = some (lstOf ys k) := Led.set_self
        have hy10 : PrM (σ9.set D (lstOf ys k)) ys tsb (atF tsb) := hy9.nc (Sub.new hD).nc
        show J X (call (Value.type "dict") [Value.ref D]) m8 (σ9.set D (lstOf ys k)) _
        clear hy9 s9 hol9 hD
        (generalize σ9.set D (lstOf ys k) = σ10 at *; revert σ10; refine bar ?_; set_option tactic.hygienic false in intros)
        refine j_mkMarks O hD10 hy10 L1.nd gts (by exact (Nat.le_trans hlen2 (Nat.le_of_ble_eq_true rfl))) fun ma om hma hM => ?_
        have s11 : Sub σ8 (σ10.set ma om) := s10.trans (.new hma)
        clear s10 hD10 hy10 hma
        (generalize σ10.set ma om = σ11 at *; revert σ11; refine bar ?_; set_option tactic.hygienic false in intros)
        (refine x2_2 (hp8.nc s11.nc) ?_; intro ev en heq hev)
        have hevl : ev.length ≤ 900 := by have := hev.1; omega
        repeat k_upd
        refine j_list_list heq (by exact (Nat.le_trans hevl (Nat.le_of_ble_eq_true rfl))) fun da dk hda => ?_
        have s12 : Sub σ11 (σ11.set da (lstOf ev dk)) := .new hda
        have hP : PairsT (σ11.set da (lstOf ev dk)) da eqs := (i2_2 (ev) ( dk) ( Led.set_self) ( hev.nc s12.nc))
        (generalize σ11.set da (lstOf ev dk) = σ12 at *; revert σ12; refine bar ?_; set_option tactic.hygienic false in intros)
        replace hM := hM.nc s12.nc
        replace s12 := s11.trans s12
        clear s11 hda heq hev
        repeat k_upd
        intro pa hpa
        have s13 : Sub σ12 (σ12.set pa (tupOf [.ref ma, .ref da] 0)) := .new hpa
        have hpa13 : (σ12.set pa (tupOf [.ref ma, .ref da] 0)) pa = some (tupOf [.ref ma, .ref da] 0) := Led.set_self
        (generalize σ12.set pa (tupOf [.ref ma, .ref da] 0) = σ13 at *; revert σ13; refine bar ?_; set_option tactic.hygienic false in intros)
        replace hM := hM.nc s13.nc
        replace hP := hP.nc s13.nc
        replace s13 := s12.trans s13
        clear s12 hpa
        replace hl8 := hl8.nc s13.nc
        replace c18 := s13 _ _ c18
        replace c28 := s13 _ _ c28
        replace c38 := s13 _ _ c38
        replace c48 := s13 _ _ c48
        replace s8 := s8.trans s13
        clear s13 hla8 hlv hlvl
        refine' j_bindPairC ?x1 ?x2 ?x3 ?x4 ?x5 ?x6 ?x7 ?x8 ?_
        case x1 => exact O
        case x2 => exact hpa13
        case x3 => exact tupO
        case x4 => k_mem
        case x5 => (refine' cells_eq ?h9 ?k9; (case h9 => exact hE); (case k9 => exact rfl))
        case x6 => exact c28
        case x7 => exact d2
        case x8 => k_mem
        intro p2 e2
        have n14 : NCell σ13 (σ13.set (X.env.locals + 2) p2) := NCell.set c28 d2
        replace hM := hM.nc n14
        replace hl8 := hl8.nc n14
        replace s8 : Sub σ (σ13.set (X.env.locals + 2) p2) := fun a o e => by first | exact ((Led.set_ne (adL (hlo a o e))).trans (s8 a o e)) | (rw [Led.set_ne (adL (hlo a o e))]; exact s8 a o e)
        replace c18 : (σ13.set (X.env.locals + 2) p2) (X.env.locals + 1) = some p1 := by first | exact ((Led.set_ne (adN (by decide))).trans c18) | (rw [Led.set_ne (adN (by decide))]; exact c18)
        replace c38 : (σ13.set (X.env.locals + 2) p2) (X.env.locals + 3) = some o3 := by first | exact ((Led.set_ne (adN (by decide))).trans c38) | (rw [Led.set_ne (adN (by decide))]; exact c38)
        replace c48 : (σ13.set (X.env.locals + 2) p2) (X.env.locals + 4) = some o4 := by first | exact ((Led.set_ne (adN (by decide))).trans c48) | (rw [Led.set_ne (adN (by decide))]; exact c48)
        replace c28 : (σ13.set (X.env.locals + 2) p2) (X.env.locals + 2) = some p2 := Led.set_self
        have hA : Ar X.w X.env.locals la σ tsb (atF tsb) (σ13.set (X.env.locals + 2) p2) := (i7_11 (ma) ( p1) ( p2) ( o3) ( o4) ( none) ( none) ( hM) ( hl8) ( s8) ( c18) ( d1) ( c28) ( e2) ( c38) ( d3) ( c48) ( d4))
        (generalize σ13.set (X.env.locals + 2) p2 = σ14 at *; revert σ14; refine bar ?_; set_option tactic.hygienic false in intros)
        replace hP := hP.nc n14
        clear n14 hM hl8 s8 c18 c28 c38 c48 hpa13
        show J X _ _ σ14 _
        clear d1 d2 d3 d4 e2 hn ht8 hu8 hp8 nla
        refine j_execs_cons ?_
        let Iv4 : Nat → Loc → Led → Prop := fun k m' σ' => ∃ f ps da, Turn eqs tsb f ps k ∧ Ar X.w X.env.locals la σ tsb f σ' ∧ PairsT σ' da ps ∧ m' (Str.ofString "due") = some (.ref da) ∧ m' (Str.ofString "t") = some tv ∧ m' (Str.ofString "u") = some uv
        refine j_While Iv4
          (uneq tsb (atF tsb) + 1) (i3_6 (atF tsb) ( eqs) ( da) ( Turn.start hEm (atF_inj L1.nd)) ( hA) ( hP) ( by k_mem) ( by k_mem) ( by k_mem)) ?_
        clear hA hP m3 m4 m5
        clear hcells
        (intro k m6 σ6b zr1; refine x3_6 zr1 ?_; clear zr1; intro f ps da T hA hP m3 m4 m5)
        repeat k_upd
        intro na hna
        have s7 : Sub σ6b (σ6b.set na (lstOf [] 0)) := .new hna
        have hna7 : (σ6b.set na (lstOf [] 0)) na = some (lstOf [] 0) := Led.set_self
        (generalize σ6b.set na (lstOf [] 0) = σ7b at *; revert σ7b; refine bar ?_; set_option tactic.hygienic false in intros)
        replace hA := hA.sub s7
        replace hP := hP.nc s7.nc
        clear s7 hna
        have hgp : ∀ p ∈ ps, p.1.good ∧ p.2.good := fun p hp => ⟨gts _ (T.mem p hp).1, gts _ (T.mem p hp).2⟩
        refine j_ne_nil O hP hna7 hgp ?_
        repeat k_upd
        by_cases hps : ps = []
        · subst hps
          refine Mine.sb (show decide (([] : Eqs) ≠ []) = false by simp) ?_
          (refine x7_11 hA ?_; clear hA; intro ma q1 q2 q3 q4 v3 v4 hM hl hs c1 d1 c2 d2 c3 d3 c4 d4)
          have ht7 := ht.nc hs.nc
          have hu7 := hu.nc hs.nc
          repeat k_upd
          refine j_mark O hM ht7 htm gts (fun a => rfl) fun tk1 => ?_
          repeat k_upd
          refine j_mark O hM hu7 hum gts (fun a => rfl) fun tk2 => ?_
          repeat k_upd
          refine ⟨(i1_2 (_) ( rfl) ( ?_)), hs⟩
          first | refine Mine.sb (Turn.done L1 T hEm htm hum) ?_ | rw [Turn.done L1 T hEm htm hum]
          simp only [beq_iff_eq]
          exact Int.ofNat_inj
        · refine Mine.sb (show decide (ps ≠ []) = true by simp [hps]) ?_
          repeat k_upd
          k_places
          repeat k_upd
          (refine x2_2 (id hP) ?_; intro dv dn hda7 hdv)
          let Iv5 : Nat → Loc → Led → Prop := fun i m' σ' => i ≤ ps.length ∧ Ar X.w X.env.locals la σ tsb (mergeF f (ps.take i)) σ' ∧ NCell σ7b σ' ∧ m' (Str.ofString "t") = some tv ∧ m' (Str.ofString "u") = some uv
          refine ⟨.list da dv.toArray, rfl, ⟨_, hda7, rfl, _, rfl⟩, Iv5,
            (i0_5 (Nat.zero_le _) ( hA) ( .refl) ( m4) ( m5)), ?_, ?_⟩
          · (intro p i v m8 σ8 O8 hil hv zr1 _; refine x0_5 zr1 ?_; clear zr1; intro hi8 hA8 n8 m6 m7)
            have hE2 : (X.kept p).env = _ := hE
            have hvi : dv[i]? = some v := by simpa [Src.item] using hv
            have hil2 : i < ps.length := by have := get_lt hvi; have := hdv.1; omega
            have hpi : ps[i]? = some ps[i] := by simp
            (refine x4_4 (hdv.2 i ps[i] v hpi hvi) ?_; intro q a b nq er1 hq ha hb; obtain rfl := er1)
            have hmi := T.mem ps[i] (List.getElem_mem hil2)
            (generalize ps[i] = pr at *; revert pr; refine bar ?_; set_option tactic.hygienic false in intros)
            have hmt := mergeF_take (f := f) hpi
            (generalize mergeF f (ps.take i) = g at *; revert g; refine bar ?_; set_option tactic.hygienic false in intros)
            replace hq := n8.tupl hq
            replace ha := ha.nc n8
            replace hb := hb.nc n8
            refine' j_bindPair ?x1 ?x2 ?x3 ?x4 ?x5 ?_
            case x1 => exact O8
            case x2 => exact hq
            case x3 => exact tupO
            case x4 => k_mem
            case x5 => k_mem
            (refine x7_11 hA8 ?_; clear hA8; intro ma q1 q2 q3 q4 v3 v4 hM hl hs c1 d1 c2 d2 c3 d3 c4 d4)
            repeat k_upd
            refine j_mark (X := X.kept p) O8 hM hb hmi.2 gts (fun a => rfl) fun tk1 => ?_
            repeat k_upd
            refine j_mark (X := X.kept p) O8 hM ha hmi.1 gts (fun a => rfl) fun tk2 => ?_
            repeat k_upd
            intro pa hpa
            have s9 : Sub σ8 (σ8.set pa (tupOf [.int (g pr.2 : Nat) tk1, .int (g pr.1 : Nat) tk2] 0)) := .new hpa
            have hpa9 : (σ8.set pa (tupOf [.int (g pr.2 : Nat) tk1, .int (g pr.1 : Nat) tk2] 0)) pa = some (tupOf [.int (g pr.2 : Nat) tk1, .int (g pr.1 : Nat) tk2] 0) := Led.set_self
            replace n8 := n8.trans s9.nc
            replace hM := hM.nc s9.nc
            replace hl := hl.nc s9.nc
            replace hs := hs.trans s9
            replace c1 := s9 _ _ c1
            replace c2 := s9 _ _ c2
            replace c3 := s9 _ _ c3
            replace c4 := s9 _ _ c4
            clear s9 hpa hq ha hb
            (generalize σ8.set pa (tupOf [.int (g pr.2 : Nat) tk1, .int (g pr.1 : Nat) tk2] 0) = σ9b at *; revert σ9b; refine bar ?_; set_option tactic.hygienic false in intros)
            refine' j_bindPairCC ?y1 ?y2 ?y3 ?y4 ?y5 ?y6 ?y7 ?y8 ?y9 ?y10 ?y11 ?y12 ?_
            case y1 => exact O8
            case y2 => exact hpa9
            case y3 => exact tupO
            case y4 => k_mem
            case y5 => (refine' cells_eq ?h9 ?k9; (case h9 => exact hE2); (case k9 => exact rfl))
            case y6 => exact c3
            case y7 => exact d3
            case y8 => k_mem
            case y9 => (refine' cells_eq ?h9 ?k9; (case h9 => exact hE2); (case k9 => exact rfl))
            case y10 => exact c4
            case y11 => exact d4
            case y12 => exact adN (L := X.env.locals) (k := 4) (j := 3) (by decide)
            intro r3 r4 e3 e4
            have n10 : NCell σ9b ((σ9b.set (X.env.locals + 3) r3).set (X.env.locals + 4) r4) := (NCell.set c3 d3).trans (NCell.set (by first | exact ((Led.set_ne (adN (by decide))).trans c4) | (rw [Led.set_ne (adN (by decide))]; exact c4)) d4)
            replace n8 := n8.trans n10
            replace hM := hM.nc n10
            replace hl := hl.nc n10
            replace hs : Sub σ ((σ9b.set (X.env.locals + 3) r3).set (X.env.locals + 4) r4) := fun a o e => by first | exact ((Led.set_ne (adL (hlo a o e))).trans ((Led.set_ne (adL (hlo a o e))).trans (hs a o e))) | (rw [Led.set_ne (adL (hlo a o e)), Led.set_ne (adL (hlo a o e))]; exact hs a o e)
            replace c1 : ((σ9b.set (X.env.locals + 3) r3).set (X.env.locals + 4) r4) (X.env.locals + 1) = some q1 := by first | exact ((Led.set_ne (adN (by decide))).trans ((Led.set_ne (adN (by decide))).trans c1)) | (rw [Led.set_ne (adN (by decide)), Led.set_ne (adN (by decide))]; exact c1)
            replace c2 : ((σ9b.set (X.env.locals + 3) r3).set (X.env.locals + 4) r4) (X.env.locals + 2) = some q2 := by first | exact ((Led.set_ne (adN (by decide))).trans ((Led.set_ne (adN (by decide))).trans c2)) | (rw [Led.set_ne (adN (by decide)), Led.set_ne (adN (by decide))]; exact c2)
            replace c3 : ((σ9b.set (X.env.locals + 3) r3).set (X.env.locals + 4) r4) (X.env.locals + 3) = some r3 := by first | exact ((Led.set_ne (adN (by decide))).trans Led.set_self) | (rw [Led.set_ne (adN (by decide))]; exact Led.set_self)
            replace c4 : ((σ9b.set (X.env.locals + 3) r3).set (X.env.locals + 4) r4) (X.env.locals + 4) = some r4 := Led.set_self
            clear n10 d3 d4 hpa9
            (generalize (σ9b.set (X.env.locals + 3) r3).set (X.env.locals + 4) r4 = σ10b at *; revert σ10b; refine bar ?_; set_option tactic.hygienic false in intros)
            repeat k_upd
            ((refine' j_ListComp ?aq10 ?bq10 ?cq10 ?dq10 ?eq10 ?fq10 ?_); (case aq10 => assumption); (case bq10 => k_mem); (case cq10 => decide); (case dq10 => exact rfl); (case eq10 => decide); (case fq10 => k_mem))
            repeat k_upd
            (refine x2_3 (id hl) ?_; intro lv ln hla hlvl hlv)
            let Iv6 : Nat → List Value → Loc → Led → Prop := fun i ys _ σ' => i ≤ tsb.length ∧ PrM σ' ys (tsb.take i) (join1 g (g pr.2) (g pr.1)) ∧ Sub σ10b σ'
            refine ⟨.list la lv.toArray, rfl, ⟨_, hla, rfl, _, rfl⟩, Iv6, (i0_3 (Nat.zero_le _) ( PrM.nil) ( .refl)), fun i ys _ σ' h => ?_, ?_, ?_⟩
            · have h1 := h.2.1.1
              rw [List.length_take] at h1
              omega
            · (intro X' i v ys mc σ11 O11 hw11 hE11 hi hv zt1 ok11; refine x0_3 zt1 ?_; clear zt1; intro hi11 hy11 s11)
              rw [hE2] at hE11
              have hvi : lv[i]? = some v := by simpa [Src.item] using hv
              have hil : i < tsb.length := by have := get_lt hvi; exact (Nat.lt_of_lt_of_eq this hlvl)
              have hti : tsb[i]? = some tsb[i] := by simp [hil]
              have htmx := List.getElem_mem hil
              have htk : tsb.take (i + 1) = tsb.take i ++ [tsb[i]] := by rw [List.take_add_one, hti]; rfl
              have htv := (hlv i tsb[i] v hti hvi).nc s11.nc
              (generalize tsb[i] = xb at *; revert xb; refine bar ?_; set_option tactic.hygienic false in intros)
              (refine x1_1 htv.isRef ?_; intro va er1; obtain rfl := er1)
              have k2 := s11 _ _ c2
              have k3 := s11 _ _ c3
              have k4 := s11 _ _ c4
              have hM11 := hM.nc s11.nc
              have hw12 : X'.w = X.w := hw11
              rw [← hw12] at hM11
              repeat k_upd
              refine j_mark O11 hM11 htv htmx gts (fun a => rfl) fun tk3 => ?_
              repeat k_upd
              have endT : ∀ (z : Nat) (tk : Tok), z = join1 g (g pr.2) (g pr.1) xb → ∀ pa, σ11 pa = none → (i + 1 ≤ tsb.length ∧ PrM (σ11.set pa (tupOf [.ref va, .int (z : Nat) tk] 0)) (ys ++ [.ref pa]) (tsb.take (i + 1)) (join1 g (g pr.2) (g pr.1)) ∧ Sub σ10b (σ11.set pa (tupOf [.ref va, .int (z : Nat) tk] 0))) ∧ (Src.list la lv.toArray).ok (σ11.set pa (tupOf [.ref va, .int (z : Nat) tk] 0)) := by
                intro z tk hz pa hpa
                have s12 : Sub σ11 (σ11.set pa (tupOf [.ref va, .int (z : Nat) tk] 0)) := .new hpa
                refine ⟨(i0_3 (by exact hil) ( ?_) ( s11.trans s12)), Src.ok_sub s12 ok11⟩
                first | refine Mine.sb (htk) ?_ | rw [htk]
                refine (hy11.nc s12.nc).snoc (q := pa) (a := va) (tk := tk) (n := 0) ?_ (htv.nc s12.nc)
                rw [← hz]
                exact Led.set_self
              by_cases hgx : g xb = g pr.2
              · refine Mine.sb (show ((g xb : Int) == (g pr.2 : Int)) = true by simp [hgx]) ?_
                repeat k_upd
                exact fun pa hpa => endT (g pr.1) _ (by simp [join1, hgx]) pa hpa
              · rw [show ((g xb : Int) == (g pr.2 : Int)) = false by
                  rw [beq_eq_false_iff_ne]; exact fun q => hgx (Int.ofNat_inj.mp q)]
                repeat k_upd
                refine j_mark O11 hM11 htv htmx gts (fun a => rfl) fun tk4 => ?_
                repeat k_upd
                exact fun pa hpa => endT (g xb) _ (by simp [join1, hgx]) pa hpa
            · (intro ys mc σ11 D kD zr1 _ hD; refine x0_3 zr1 ?_; clear zr1; intro _ hy11 s11)
              have hszl : (Src.list la lv.toArray).size = tsb.length := by simp [Src.size, hlvl]
              rw [hszl, List.take_length] at hy11
              have s12 : Sub σ10b (σ11.set D (lstOf ys kD)) := s11.trans (.new hD)
              have hD12 : (σ11.set D (lstOf ys kD)) D = some (lstOf ys kD) := Led.set_self
              have hy12 : PrM (σ11.set D (lstOf ys kD)) ys tsb (join1 g (g pr.2) (g pr.1)) := hy11.nc (Sub.new hD).nc
              show J (X.kept p) (call (Value.type "dict") [Value.ref D]) _ (σ11.set D (lstOf ys kD)) _
              clear hy11 s11 hD
              (generalize σ11.set D (lstOf ys kD) = σ12b at *; revert σ12b; refine bar ?_; set_option tactic.hygienic false in intros)
              refine j_mkMarks (X := X.kept p) O8 hD12 hy12 L1.nd gts (by exact (Nat.le_trans hlen2 (Nat.le_of_ble_eq_true rfl))) fun mb ob hmb hMb => ?_
              have s13 : Sub σ10b (σ12b.set mb ob) := s12.trans (.new hmb)
              clear s12 hD12 hy12 hmb hM
              (generalize σ12b.set mb ob = σ13b at *; revert σ13b; refine bar ?_; set_option tactic.hygienic false in intros)
              replace n8 := n8.trans s13.nc
              replace hl := hl.nc s13.nc
              replace hs := hs.trans s13
              replace c1 := s13 _ _ c1
              replace c2 := s13 _ _ c2
              replace c3 := s13 _ _ c3
              replace c4 := s13 _ _ c4
              clear s13
              repeat k_upd
              ((refine' j_store_cell ?aq12 ?bq12 ?cq12 ?dq12 ?eq12 ?_); (case aq12 => assumption); (case bq12 => k_mem); (case cq12 => (refine' cells_eq ?hq12 ?kq12; (case hq12 => assumption); (case kq12 => exact rfl))); (case dq12 | eq12 => assumption))
              intro r2 e2
              have n14 : NCell σ13b (σ13b.set (X.env.locals + 2) r2) := NCell.set c2 d2
              repeat k_upd
              have hda14 := n8.lst hda7
              refine ⟨(i0_5 (by exact hil2) ( ?_) ( n8.trans n14) ( by k_mem) ( by k_mem)), ⟨_, n14.lst hda14, rfl, _, rfl⟩⟩
              first | refine Mine.sb (hmt) ?_ | rw [hmt]
              show Ar X.w X.env.locals la σ tsb (join1 g (g pr.2) (g pr.1)) (σ13b.set (X.env.locals + 2) r2)
              refine (i7_11 (mb) ( q1) ( r2) ( r3) ( r4) ( _) ( _) ( hMb.nc n14) ( hl.nc n14) ( fun a o e => by first | exact ((Led.set_ne (adL (hlo a o e))).trans (hs a o e)) | (rw [Led.set_ne (adL (hlo a o e))]; exact hs a o e)) ( by first | exact ((Led.set_ne (adN (by decide))).trans c1) | (rw [Led.set_ne (adN (by decide))]; exact c1)) ( d1) ( Led.set_self) ( e2) (
                by first | exact ((Led.set_ne (adN (by decide))).trans c3) | (rw [Led.set_ne (adN (by decide))]; exact c3)) ( e3) ( by first | exact ((Led.set_ne (adN (by decide))).trans c4) | (rw [Led.set_ne (adN (by decide))]; exact c4)) ( e4))
          · (intro m8 σ8 zr1 _; refine x0_5 zr1 ?_; clear zr1; intro hi8 hA8 n8 m6 m7)
            have hszp : (Src.list da dv.toArray).size = ps.length := by have := hdv.1; simp [Src.size, this]
            rw [hszp, List.take_length] at hA8
            (refine x1_2 (T.next L1 hps) ?_; intro k' hk' T')
            (refine x7_11 hA8 ?_; clear hA8; intro ma q1 q2 q3 q4 v3 v4 hM hl hs c1 d1 c2 d2 c3 d3 c4 d4)
            (generalize mergeF f ps = gb at *; revert gb; refine bar ?_; set_option tactic.hygienic false in intros)
            clear hA hP hgp hna7 hda7 hdv T
            repeat k_upd
            ((refine' j_Assign_ListComp2 ?aq14 ?swq14 ?bq14 ?cq14 ?dq14 ?eq14 ?fq14 ?gq14 ?yq14 ?_); (case aq14 => assumption); (case swq14 | bq14 => k_mem); (case cq14 => decide); (case dq14 => exact rfl); (case eq14 => decide); (case fq14 => k_mem); (case gq14 => (intros; exact rfl)); (case yq14 => k_mem))
            repeat k_upd
            (refine x2_3 (id hl) ?_; intro lv ln hla hlvl hlv)
            have okl : ∀ {σ' : Led}, Sub σ8 σ' → (Src.list la lv.toArray).ok σ' := fun s => ⟨_, s _ _ hla, rfl, _, rfl⟩
            have hszl : (Src.list la lv.toArray).size = tsb.length := by simp [Src.size, hlvl]
            let Iv7 : Nat → List Value → Led → Prop := fun i ys σ' => i ≤ tsb.length ∧ PrV σ' ys ((tsb.take i).flatMap fun a => (tsb.filter (dueT gb a)).map fun b => (a, b)) ∧ Sub σ8 σ'
            refine ⟨.list la lv.toArray, rfl, okl .refl, Iv7, (i0_3 (Nat.zero_le _) ( PrV.nil) ( .refl)), ?_, ?_⟩
            · (intro X' i v ys mc σ9 O9 hw9 hE9 hi hv zt1 ok9; refine x0_3 zt1 ?_; clear zt1; intro hi9 hy9 s9)
              (rw [hE] at hE9; replace hE9 := hE9)
              have hvi : lv[i]? = some v := by simpa [Src.item] using hv
              have hil : i < tsb.length := by have := get_lt hvi; exact (Nat.lt_of_lt_of_eq hi hszl)
              have hti : tsb[i]? = some tsb[i] := by simp [hil]
              have hxm := List.getElem_mem hil
              have htk : tsb.take (i + 1) = tsb.take i ++ [tsb[i]] := by rw [List.take_add_one, hti]; rfl
              have htv := hlv i tsb[i] v hti hvi
              have hyl : ys.length ≤ 900 * 900 := by
                have h1 := hy9.1
                have h2 := dueOf_len tsb gb (tsb.take i)
                have h3 := List.length_take_le i tsb
                have h4 : (tsb.take i).length * tsb.length ≤ 900 * 900 := Nat.mul_le_mul (by rw [List.length_take]; omega) hlen2
                exact (Nat.le_trans (Nat.le_trans (Nat.le_of_eq h1) h2) h4)
              (generalize tsb[i] = xbb at *; revert xbb; refine bar ?_; set_option tactic.hygienic false in intros)
              (refine x1_1 htv.isRef ?_; intro va er1; obtain rfl := er1)
              have k1 := s9 _ _ c1
              repeat k_upd
              let Iv8 : Nat → List Value → Loc → Led → Prop := fun j zs mq σ' => j ≤ tsb.length ∧ PrV σ' zs (((tsb.take i).flatMap fun a => (tsb.filter (dueT gb a)).map fun b => (a, b)) ++ ((tsb.take j).filter (dueT gb xbb)).map fun b => (xbb, b)) ∧ Sub σ8 σ' ∧ mq (Str.ofString "one") = some (.ref va)
              refine ⟨.list la lv.toArray, rfl, okl s9, ok9, Iv8, (i0_4 (Nat.zero_le _) ( by simpa using hy9) ( s9) ( by k_mem)), fun j zs _ σ' h => ?_, ?_, ?_⟩
              · have h1 := h.2.1.1
                have h2 := hy9.1
                rw [List.length_append, List.length_map] at h1
                have h3 := List.length_filter_le (dueT gb xbb) (tsb.take j)
                rw [List.length_take] at h3
                omega
              · (intro X'' j v2 zs mc2 σ10 O10 hw10 hE10 hj hv2 zt1 ok10 okk10; refine x0_4 zt1 ?_; clear zt1; intro hj10 hz10 s10 m10)
                have hE11 : X''.env = _ := hE10.trans hE9
                have hw12 : X''.w = X.w := hw10
                have hvj : lv[j]? = some v2 := by simpa [Src.item] using hv2
                have hjl : j < tsb.length := by have := get_lt hvj; exact (Nat.lt_of_lt_of_eq hj hszl)
                have htj : tsb[j]? = some tsb[j] := by simp [hjl]
                have hym := List.getElem_mem hjl
                have htkj : tsb.take (j + 1) = tsb.take j ++ [tsb[j]] := by rw [List.take_add_one, htj]; rfl
                have htw := (hlv j tsb[j] v2 htj hvj).nc s10.nc
                have htv10 := htv.nc s10.nc
                (generalize tsb[j] = yb at *; revert yb; refine bar ?_; set_option tactic.hygienic false in intros)
                (refine x1_1 htw.isRef ?_; intro wa er1; obtain rfl := er1)
                have k1 := s10 _ _ c1
                have k2 := s10 _ _ c2
                have hM10 := hM.nc s10.nc
                rw [← hw12] at hM10
                have no : dueT gb xbb yb = false → ∀ (σ' : Led) (mq : Loc), Sub σ10 σ' → mq (Str.ofString "one") = some (.ref va) → (j + 1 ≤ tsb.length ∧ PrV σ' zs (((tsb.take i).flatMap fun a => (tsb.filter (dueT gb a)).map fun b => (a, b)) ++ ((tsb.take (j + 1)).filter (dueT gb xbb)).map fun b => (xbb, b)) ∧ Sub σ8 σ' ∧ mq (Str.ofString "one") = some (.ref va)) ∧ (Src.list la lv.toArray).ok σ' ∧ (Src.list la lv.toArray).ok σ' := fun hd σ' mq s hmq =>
                  (i0_3 ((i0_4 (by exact hjl) ( by rw [htkj, List.filter_append]; simpa [hd] using hz10.nc s.nc) ( s10.trans s) ( hmq))) ( okl (s10.trans s)) ( okl (s10.trans s)))
                repeat k_upd
                refine j_mark O10 hM10 htv10 hxm gts (fun a => rfl) fun tk1 => ?_
                repeat k_upd
                refine j_mark O10 hM10 htw hym gts (fun a => rfl) fun tk2 => ?_
                repeat k_upd
                by_cases hg1 : gb xbb = gb yb
                · refine Mine.sb (show ((gb xbb : Int) != (gb yb : Int)) = false by simp [hg1]) ?_
                  repeat k_upd
                  exact no (by simp [dueT, hg1]) _ _ .refl (by k_mem)
                refine Mine.sb (show ((gb xbb : Int) != (gb yb : Int)) = true by first | exact ((bne_iff_ne).trans (fun q => hg1 (Int.ofNat_inj.mp q))) | (rw [bne_iff_ne]; exact fun q => hg1 (Int.ofNat_inj.mp q))) ?_
                (refine x4_4 htv10.open ?_; intro xa xn xtk xus xe hxa hxl hxus)
                (refine x4_4 htw.open ?_; intro ya yn ytk yus ye hya hyl2 hyus)
                cases xe
                cases ye
                have hkx := xbb.kids_len
                have hky := yb.kids_len
                repeat k_upd
                intro tz1
                refine j_at_tup 0 (by rfl) hxa rfl (by decide) ?_ (by rfl)
                repeat k_upd
                intro tz2
                refine j_at_tup 0 (by rfl) hya rfl (by decide) ?_ (by rfl)
                repeat k_upd
                by_cases hg2 : opS xbb.op = opS yb.op
                · refine Mine.sb (show (opS xbb.op == opS yb.op) = true by simpa using hg2) ?_
                  repeat k_upd
                  refine j_len_tup hxa (by simp; exact (Nat.le_trans (Nat.le_trans (Nat.le_of_eq hxl) hkx) (Nat.le_of_ble_eq_true rfl))) fun tz3 => ?_
                  repeat k_upd
                  intro tz4
                  repeat k_upd
                  by_cases hg3 : xbb.kids = []
                  · have hx0 : xus = [] := by rw [← List.length_eq_zero_iff, hxl, hg3]; rfl
                    refine Mine.sb (show decide (((Value.str (opS xbb.op) xtk :: xus).length : Int) > 1) = false by simp [hx0]) ?_
                    repeat k_upd
                    exact no (by simp [dueT, hg3]) _ _ .refl (by k_mem)
                  have hxp : 0 < xus.length := by first | exact ((hxl).trans (List.length_pos_iff.mpr hg3)) | (rw [hxl]; exact List.length_pos_iff.mpr hg3)
                  refine Mine.sb (show decide (((Value.str (opS xbb.op) xtk :: xus).length : Int) > 1) = true by simp; omega) ?_
                  repeat k_upd
                  ((refine' j_map ?aq8 ?bq8 ?cq8 ?dq8 ?eq8 ?fq8 ?_); (case aq8 => assumption); (case bq8 => k_mem); (case cq8 => decide); (case dq8 => exact rfl); (case eq8 => decide); (case fq8 => k_mem))
                  repeat k_upd
                  intro tS1 sa1 hsa1
                  refine j_from_tup 1 (by rfl) (Sub.new hsa1 _ _ hxa) Led.set_self (by decide) (by simp) (by simp; exact (Nat.le_trans (Nat.le_trans (Nat.le_of_eq hxl) hkx) (Nat.le_of_ble_eq_true rfl))) ?_ (by rfl)
                  intro cc1 hcc1
                  have t1 : Sub σ10 ((σ10.set sa1 (sliceObj (.int 1 tS1) .none)).set cc1 (tupOf ((Value.str (opS xbb.op) xtk :: xus).drop 1) 0)) := (Sub.new hsa1).trans (.new hcc1)
                  have hcc1' : ((σ10.set sa1 (sliceObj (.int 1 tS1) .none)).set cc1 (tupOf ((Value.str (opS xbb.op) xtk :: xus).drop 1) 0)) cc1 = some (tupOf xus 0) := Led.set_self
                  clear hsa1 hcc1
                  (generalize (σ10.set sa1 (sliceObj (.int 1 tS1) .none)).set cc1 (tupOf ((Value.str (opS xbb.op) xtk :: xus).drop 1) 0) = σ11b at *; revert σ11b; refine bar ?_; set_option tactic.hygienic false in intros)
                  refine ⟨.tup cc1 xus.toArray, rfl, ⟨_, hcc1', rfl, _, rfl⟩, by simp [Src.size]; exact (Nat.le_trans (Nat.le_trans (Nat.le_of_eq hxl) hkx) (Nat.le_of_ble_eq_true rfl)), fun q z => ∃ kd tq, xbb.kids[q]? = some kd ∧ z = .int (gb kd : Nat) tq, ?_, ?_⟩
                  · intro X3 q v mc3 σ12 O12 hw3 hE3 hq hvq s12
                    rw [hE11] at hE3
                    have hvq' : xus[q]? = some v := by simpa [Src.item] using hvq
                    have hqk : q < xbb.kids.length := by have := get_lt hvq'; exact (Nat.lt_of_lt_of_eq this hxl)
                    have hkq : xbb.kids[q]? = some xbb.kids[q] := by simp [hqk]
                    have htq := (hxus q _ v hkq hvq').nc (t1.trans s12).nc
                    have hkm := L1.kid xbb hxm _ (List.getElem_mem hqk)
                    have k23 := (t1.trans s12) _ _ k2
                    have hM3 := hM10.nc (t1.trans s12).nc
                    have hw4 : X3.w = X''.w := hw3
                    rw [← hw4] at hM3
                    repeat k_upd
                    refine j_mark O12 hM3 htq hkm gts (fun a => rfl) fun tk5 => ?_
                    exact ⟨(i2_2 (_) ( tk5) ( hkq) ( rfl)), s12⟩
                  · intro zs1 σ12 D1 kk1 hzl1 hzs1 s12 hD1
                    have t2 : Sub σ10 (σ12.set D1 (lstOf zs1 kk1)) := (t1.trans s12).trans (.new hD1)
                    have hD1' : (σ12.set D1 (lstOf zs1 kk1)) D1 = some (lstOf zs1 kk1) := Led.set_self
                    (generalize σ12.set D1 (lstOf zs1 kk1) = σ13bb at *; revert σ13bb; refine bar ?_; set_option tactic.hygienic false in intros)
                    have hI1 : Nats zs1 (xbb.kids.map gb) := Nats.of (by simp [Src.size] at hzl1; simp [hzl1, hxl]) fun q v n h1 h2 => by
                      (refine x2_2 (hzs1 q v h1) ?_; intro kd tq h3 er1; obtain rfl := er1)
                      rw [List.getElem?_map, h3] at h2
                      simp at h2; subst h2; exact ⟨tq, rfl⟩
                    clear s12 hD1 t1 hcc1'
                    have hya13 := t2 _ _ hya
                    have k213 := t2 _ _ k2
                    repeat k_upd
                    ((refine' j_map ?aq9 ?bq9 ?cq9 ?dq9 ?eq9 ?fq9 ?_); (case aq9 => assumption); (case bq9 => k_mem); (case cq9 => decide); (case dq9 => exact rfl); (case eq9 => decide); (case fq9 => k_mem))
                    repeat k_upd
                    intro tS2 sa2 hsa2
                    refine j_from_tup 1 (by rfl) (Sub.new hsa2 _ _ hya13) Led.set_self (by decide) (by simp) (by simp; exact (Nat.le_trans (Nat.le_trans (Nat.le_of_eq hyl2) hky) (Nat.le_of_ble_eq_true rfl))) ?_ (by rfl)
                    intro cc2 hcc2
                    have t3 : Sub σ13bb ((σ13bb.set sa2 (sliceObj (.int 1 tS2) .none)).set cc2 (tupOf ((Value.str (opS yb.op) ytk :: yus).drop 1) 0)) := (Sub.new hsa2).trans (.new hcc2)
                    have hcc2' : ((σ13bb.set sa2 (sliceObj (.int 1 tS2) .none)).set cc2 (tupOf ((Value.str (opS yb.op) ytk :: yus).drop 1) 0)) cc2 = some (tupOf yus 0) := Led.set_self
                    replace hD1' := t3 _ _ hD1'
                    replace t3 := t2.trans t3
                    clear hsa2 hcc2 t2 hya13 k213
                    (generalize (σ13bb.set sa2 (sliceObj (.int 1 tS2) .none)).set cc2 (tupOf ((Value.str (opS yb.op) ytk :: yus).drop 1) 0) = σ14b at *; revert σ14b; refine bar ?_; set_option tactic.hygienic false in intros)
                    refine ⟨.tup cc2 yus.toArray, rfl, ⟨_, hcc2', rfl, _, rfl⟩, by simp [Src.size]; exact (Nat.le_trans (Nat.le_trans (Nat.le_of_eq hyl2) hky) (Nat.le_of_ble_eq_true rfl)), fun q z => ∃ kd tq, yb.kids[q]? = some kd ∧ z = .int (gb kd : Nat) tq, ?_, ?_⟩
                    · intro X3 q v mc3 σ15 O12 hw3 hE3 hq hvq s12
                      rw [hE11] at hE3
                      have hvq' : yus[q]? = some v := by simpa [Src.item] using hvq
                      have hqk : q < yb.kids.length := by have := get_lt hvq'; exact (Nat.lt_of_lt_of_eq this hyl2)
                      have hkq : yb.kids[q]? = some yb.kids[q] := by simp [hqk]
                      have htq := (hyus q _ v hkq hvq').nc (t3.trans s12).nc
                      have hkm := L1.kid yb hym _ (List.getElem_mem hqk)
                      have k23 := (t3.trans s12) _ _ k2
                      have hM3 := hM10.nc (t3.trans s12).nc
                      have hw4 : X3.w = X''.w := hw3
                      rw [← hw4] at hM3
                      repeat k_upd
                      refine j_mark O12 hM3 htq hkm gts (fun a => rfl) fun tk5 => ?_
                      exact ⟨(i2_2 (_) ( tk5) ( hkq) ( rfl)), s12⟩
                    · intro zs2 σ15 D2 kk2 hzl2 hzs2 s12 hD2
                      have t4 : Sub σ14b (σ15.set D2 (lstOf zs2 kk2)) := s12.trans (.new hD2)
                      have hD2' : (σ15.set D2 (lstOf zs2 kk2)) D2 = some (lstOf zs2 kk2) := Led.set_self
                      (generalize σ15.set D2 (lstOf zs2 kk2) = σ16 at *; revert σ16; refine bar ?_; set_option tactic.hygienic false in intros)
                      have hI2 : Nats zs2 (yb.kids.map gb) := Nats.of (by simp [Src.size] at hzl2; simp [hzl2, hyl2]) fun q v n h1 h2 => by
                        (refine x2_2 (hzs2 q v h1) ?_; intro kd tq h3 er1; obtain rfl := er1)
                        rw [List.getElem?_map, h3] at h2
                        simp at h2; subst h2; exact ⟨tq, rfl⟩
                      replace hD1' := t4 _ _ hD1'
                      replace t4 := t3.trans t4
                      clear s12 hD2 t3 hcc2'
                      refine j_eq_ints O10 hD1' hD2' hI1.are hI2.are ?_
                      have hdec : decide ((xbb.kids.map gb).map (fun n : Nat => (n : Int)) = (yb.kids.map gb).map fun n : Nat => (n : Int)) = decide (xbb.kids.map gb = yb.kids.map gb) := by
                        refine decide_eq_decide.mpr ⟨fun q => ?_, fun q => by rw [q]⟩
                        exact (List.map_inj_right (fun a b h => Int.ofNat_inj.mp h)).mp q
                      first | refine Mine.sb (hdec) ?_ | rw [hdec]
                      repeat k_upd
                      by_cases hg4 : xbb.kids.map gb = yb.kids.map gb
                      · refine Mine.sb (show decide (xbb.kids.map gb = yb.kids.map gb) = true by simp [hg4]) ?_
                        repeat k_upd
                        intro pq hpq
                        have t5 : Sub σ16 (σ16.set pq (tupOf [.ref va, .ref wa] 0)) := .new hpq
                        have hdt : dueT gb xbb yb = true := by simp [dueT, hg1, hg2, hg4]; exact List.length_pos_iff.mpr hg3
                        refine (i0_3 ((i0_4 (by exact hjl) ( ?_) ( (s10.trans t4).trans t5) ( by k_mem))) ( okl ((s10.trans t4).trans t5)) ( okl ((s10.trans t4).trans t5)))
                        rw [htkj, List.filter_append, List.map_append, ← List.append_assoc]
                        have e1 : ([yb].filter (dueT gb xbb)).map (fun b => (xbb, b)) = [(xbb, yb)] := by simp [hdt]
                        first | refine Mine.sb (e1) ?_ | rw [e1]
                        exact (hz10.nc (t4.trans t5).nc).snoc (q := pq) (a := .ref va) (b := .ref wa) (n := 0) Led.set_self (htv10.nc (t4.trans t5).nc) (htw.nc (t4.trans t5).nc)
                      · refine Mine.sb (show decide (xbb.kids.map gb = yb.kids.map gb) = false by simp [hg4]) ?_
                        repeat k_upd
                        exact no (by simp [dueT, hg4]) _ _ t4 (by k_mem)
                · refine Mine.sb (show (opS xbb.op == opS yb.op) = false by simpa using hg2) ?_
                  repeat k_upd
                  exact no (by simp [dueT, hg2]) _ _ .refl (by k_mem)
              · (intro zs mc2 σ10 zr1 _ _; refine x0_4 zr1 ?_; clear zr1; intro _ hz10 s10 _)
                refine (i0_3 (by exact hil) ( ?_) ( s10))
                rw [hszl, List.take_length] at hz10
                rw [htk, List.flatMap_append]
                simpa using hz10
            · (intro ys σ9 D kD zr1 _ hD; refine x0_3 zr1 ?_; clear zr1; intro _ hy9 s9)
              rw [hszl, List.take_length] at hy9
              have s10 : Sub σ8 (σ9.set D (lstOf ys kD)) := s9.trans (.new hD)
              have hP' : PairsT (σ9.set D (lstOf ys kD)) D (dueOf tsb gb) := (i2_2 (ys) ( kD) ( Led.set_self) ( hy9.nc (Sub.new hD).nc))
              show ∃ k_1, k_1 < k ∧ _
              exact ⟨k', hk', gb, _, D, T', Ar.sub (i7_11 (ma) ( q1) ( q2) ( q3) ( q4) ( v3) ( v4) ( hM) ( hl) ( hs) ( c1) ( d1) ( c2) ( d2) ( c3) ( d3) ( c4) ( d4)) s10, hP', by k_mem, by k_mem, by k_mem⟩
end
section
--FILE PD
noncomputable def lotN : List Str → Nat → List Str
  | [], _ => []
  | s :: r, m => if m % 2 = 1 then s :: lotN r (m / 2) else lotN r (m / 2)
theorem lotN_sub : ∀ (ss : List Str) (m : Nat), ∀ x ∈ lotN ss m, x ∈ ss
  | [], _, x, h => by simp [lotN] at h
  | s :: r, m, x, h => by
    unfold lotN at h
    split at h
    · rcases List.mem_cons.mp h with rfl | h
      · exact .head _
      · exact .tail _ (lotN_sub r _ x h)
    · exact .tail _ (lotN_sub r _ x h)
theorem lotN_len : ∀ (ss : List Str) (m : Nat), (lotN ss m).length ≤ ss.length
  | [], _ => Nat.le_refl _
  | s :: r, m => by
    have := lotN_len r (m / 2)
    unfold lotN
    split
    · simpa using this
    · simp; exact (Nat.le_succ_of_le this)
theorem lotN_low : ∀ (r : List Str) (l : Str) (m : Nat), m < 2 ^ r.length → lotN (r ++ [l]) m = lotN r m
  | [], l, m, h => by
    have : m = 0 := by simpa using h
    subst this; rfl
  | s :: r, l, m, h => by
    have h2 : m / 2 < 2 ^ r.length := by
      rw [List.length_cons, Nat.pow_succ] at h
      omega
    show (if m % 2 = 1 then s :: lotN (r ++ [l]) (m / 2) else lotN (r ++ [l]) (m / 2)) = if m % 2 = 1 then s :: lotN r (m / 2) else lotN r (m / 2)
    rw [lotN_low r l _ h2]
theorem lotN_high : ∀ (r : List Str) (l : Str) (m : Nat), m < 2 ^ r.length → lotN (r ++ [l]) (m + 2 ^ r.length) = lotN r m ++ [l]
  | [], l, m, h => by
    have : m = 0 := by simpa using h
    subst this; rfl
  | s :: r, l, m, h => by
    have h2 : m / 2 < 2 ^ r.length := by
      rw [List.length_cons, Nat.pow_succ] at h
      omega
    have e1 : (m + 2 ^ (s :: r).length) % 2 = m % 2 := by rw [List.length_cons, Nat.pow_succ]; omega
    have e2 : (m + 2 ^ (s :: r).length) / 2 = m / 2 + 2 ^ r.length := by rw [List.length_cons, Nat.pow_succ]; omega
    show (if (m + 2 ^ (s :: r).length) % 2 = 1 then s :: lotN (r ++ [l]) ((m + 2 ^ (s :: r).length) / 2) else lotN (r ++ [l]) ((m + 2 ^ (s :: r).length) / 2)) = (if m % 2 = 1 then s :: lotN r (m / 2) else lotN r (m / 2)) ++ [l]
    rw [e1, e2, lotN_high r l _ h2]
    split <;> rfl
theorem filter_ne {l : Str} {L : List Str} (h : l ∉ L) : L.filter (· != l) = L := List.filter_eq_self.mpr fun x hx => by
  rw [bne_iff_ne]
  intro e
  subst e
  exact h hx
noncomputable def Least (P : List Str → Prop) (r Z : List Str) (m : Nat) : Prop := m < 2 ^ r.length ∧ P (lotN r m ++ Z) ∧ ∀ q, q < m → ¬ P (lotN r q ++ Z)
open Classical in
theorem least_del {P : List Str → Prop} (mono : ∀ L L', (∀ x ∈ L, x ∈ L') → P L → P L') : ∀ (n : Nat) (r Z : List Str), r.length = n → (r ++ Z).Nodup → P (r ++ Z) → ∃ m, Least P r Z m ∧ lotN r m ++ Z = del P r.reverse (r ++ Z)
  | 0, r, Z, h, _, hP => by
    obtain rfl := List.length_eq_zero_iff.mp h
    exact (i1_2 (0) ( (i0_3 (by simp) ( hP) ( fun q hq => absurd hq (Nat.not_lt_zero _)))) ( rfl))
  | n + 1, r, Z, h, hnd, hP => by
    rcases List.eq_nil_or_concat r with rfl | ⟨r', l, rfl⟩
    · simp at h
    rw [List.concat_eq_append] at *
    have hr : r'.length = n := by simpa using h
    have hf : (r' ++ [l] ++ Z).filter (· != l) = r' ++ Z := by
      rw [List.append_assoc, List.filter_append]
      have h1 : l ∉ r' ∧ l ∉ Z := by
        rw [List.append_assoc, List.nodup_append] at hnd
        have h2 := hnd.2.1
        simp at h2
        exact ⟨fun q => hnd.2.2 l q l (by simp) rfl, h2.1⟩
      have e1 : r'.filter (· != l) = r' := filter_ne h1.1
      have e2 : ([l] ++ Z).filter (· != l) = Z := by
        rw [List.filter_append]
        have e3 : Z.filter (· != l) = Z := filter_ne h1.2
        rw [e3]; simp
      rw [e1, e2]
    have hrev : (r' ++ [l]).reverse = l :: r'.reverse := by simp
    first | refine Mine.sb (hrev) ?_ | rw [hrev]
    unfold del
    first | refine Mine.sb (hf) ?_ | rw [hf]
    by_cases hq : P (r' ++ Z)
    · rw [if_pos hq]
      have hnd2 : (r' ++ Z).Nodup := by rw [← hf]; exact hnd.filter _
      (refine x1_2 (least_del mono n r' Z hr hnd2 hq) ?_; (intro m zr1 h4; refine x0_3 zr1 ?_; clear zr1; intro h1 h2 h3))
      refine (i1_2 (m) ( (i0_3 (by rw [List.length_append, List.length_singleton, Nat.pow_succ]; omega) ( by first | exact ((lotN_low _ _ _ h1).trans h2) | (rw [lotN_low _ _ _ h1]; exact h2)) ( fun q hqm => by first | exact ((lotN_low _ _ _ (Nat.lt_trans hqm h1)).trans (h3 q hqm)) | (rw [lotN_low _ _ _ (Nat.lt_trans hqm h1)]; exact h3 q hqm)))) ( by first | exact ((lotN_low _ _ _ h1).trans h4) | (rw [lotN_low _ _ _ h1]; exact h4)))
    · rw [if_neg hq]
      have e : r' ++ [l] ++ Z = r' ++ (l :: Z) := by simp
      rw [e] at hnd hP ⊢
      (refine x1_2 (least_del mono n r' (l :: Z) hr hnd hP) ?_; (intro m zr1 h4; refine x0_3 zr1 ?_; clear zr1; intro h1 h2 h3))
      have e2 : lotN (r' ++ [l]) (m + 2 ^ r'.length) ++ Z = lotN r' m ++ (l :: Z) := by rw [lotN_high _ _ _ h1]; simp
      refine (i1_2 (m + 2 ^ r'.length) ( (i0_3 (by rw [List.length_append, List.length_singleton, Nat.pow_succ]; omega) ( by first | exact ((e2).trans h2) | (rw [e2]; exact h2)) ( fun q hqm => ?_))) ( by first | exact ((e2).trans h4) | (rw [e2]; exact h4)))
      rcases Nat.lt_or_ge q (2 ^ r'.length) with hlt | hge
      · first | refine Mine.sb (lotN_low _ _ _ hlt) ?_ | rw [lotN_low _ _ _ hlt]
        exact fun z => hq (mono _ _ (fun x hx => by
          rcases List.mem_append.mp hx with hx | hx
          · exact List.mem_append_left _ (lotN_sub _ _ x hx)
          · exact List.mem_append_right _ hx) z)
      · obtain ⟨c, rfl⟩ : ∃ c, q = c + 2 ^ r'.length := ⟨q - 2 ^ r'.length, by omega⟩
        first | refine Mine.sb (lotN_high _ _ _ (by omega)) ?_ | rw [lotN_high _ _ _ (by omega)]
        have := h3 c (by omega)
        simpa using this
theorem Least.unique {P : List Str → Prop} {r Z : List Str} {m q : Nat} (h : Least P r Z m) (h' : Least P r Z q) : m = q := by
  rcases Nat.lt_trichotomy m q with hl | e | hl
  · exact absurd h.2.1 (h'.2.2 m hl)
  · exact e
  · exact absurd h'.2.1 (h.2.2 q hl)
theorem lotN_less : ∀ (ss : List Str) (m : Nat) (l : Str), ss.Nodup → l ∈ lotN ss m → ∃ q, q < m ∧ lotN ss q = (lotN ss m).filter (· != l)
  | [], m, l, _, h => by simp [lotN] at h
  | s :: r, m, l, hnd, h => by
    have hn := List.nodup_cons.mp hnd
    have hlr : ∀ (k : Nat), lotN (s :: r) k = if k % 2 = 1 then s :: lotN r (k / 2) else lotN r (k / 2) := fun k => rfl
    by_cases hs : l = s
    · subst hs
      have hne : ∀ k, (lotN r k).filter (· != l) = lotN r k := fun k => filter_ne fun q => hn.1 (lotN_sub r k l q)
      by_cases hm : m % 2 = 1
      · refine (i1_2 (m - 1) ( by omega) ( ?_))
        rw [hlr, hlr, if_neg (by omega), if_pos hm, show (m - 1) / 2 = m / 2 by omega]
        rw [List.filter_cons_of_neg (by simp), hne]
      · rw [hlr, if_neg hm] at h
        exact absurd (lotN_sub r _ l h) hn.1
    · have hmem : l ∈ lotN r (m / 2) := by
        rw [hlr] at h
        split at h
        · rcases List.mem_cons.mp h with e | h
          · exact absurd e hs
          · exact h
        · exact h
      (refine x1_2 (lotN_less r (m / 2) l hn.2 hmem) ?_; intro q hq he)
      refine (i1_2 (2 * q + m % 2) ( by omega) ( ?_))
      rw [hlr, hlr, show (2 * q + m % 2) % 2 = m % 2 by omega, show (2 * q + m % 2) / 2 = q by omega, he]
      split
      · rw [List.filter_cons_of_pos (by simpa using fun e => hs e.symm)]
      · rfl
noncomputable def lotF (ss : List Str) (m : Nat) : List (Str × Nat) → List Str
  | [] => []
  | p :: r => if m / 2 ^ p.2 % 2 = 1 then p.1 :: lotF ss m r else lotF ss m r
theorem lotN_take_succ : ∀ (ss : List Str) (m i : Nat) (l : Str), ss[i]? = some l → lotN (ss.take (i + 1)) m = lotN (ss.take i) m ++ (if m / 2 ^ i % 2 = 1 then [l] else [])
  | [], m, i, l, h => by simp at h
  | s :: r, m, 0, l, h => by
    simp at h
    subst h
    simp [lotN]
  | s :: r, m, i + 1, l, h => by
    have ih := lotN_take_succ r (m / 2) i l (by simpa using h)
    rw [List.take_succ_cons, List.take_succ_cons]
    have e : m / 2 / 2 ^ i = m / 2 ^ (i + 1) := by rw [Nat.div_div_eq_div_mul, Nat.pow_succ, Nat.mul_comm]
    rw [e] at ih
    show (if m % 2 = 1 then s :: lotN (r.take (i + 1)) (m / 2) else lotN (r.take (i + 1)) (m / 2)) = (if m % 2 = 1 then s :: lotN (r.take i) (m / 2) else lotN (r.take i) (m / 2)) ++ _
    first | refine Mine.sb (ih) ?_ | rw [ih]
    split <;> rfl
end
section
--FILE FY
theorem emptyStr {w : World} : (dictOf [] 0).IsDictOf (PySem.strKind PR w) [] := (i2_5 (#[]) ( 0) ( (i0_3 (rfl) ( rfl) ( rfl))) ( rfl) ( fun e he => by simp at he) ( .nil) ( .nil))
noncomputable def labKy (ss : List Str) : Ky := ss.foldr (fun x r => .cons (.str x) r) .nil
theorem labKy_inj : ∀ {a b : List Str}, labKy a = labKy b → a = b
  | [], [], _ => rfl
  | [], _ :: _, h => by simp [labKy] at h
  | _ :: _, [], h => by simp [labKy] at h
  | x :: a, y :: b, h => by
    have h' : Ky.cons (.str x) (labKy a) = .cons (.str y) (labKy b) := h
    simp only [Ky.cons.injEq, Ky.str.injEq] at h'
    rw [h'.1, labKy_inj h'.2]
theorem labKy_ok : ∀ {a : List Str}, (∀ x ∈ a, PyData.strOk x = true) → (labKy a).okS = true ∧ (labKy a).chain = true
  | [], _ => ⟨rfl, rfl⟩
  | x :: a, h => by
    (refine x0_2 (labKy_ok (a := a) fun y hy => h y (.tail _ hy)) ?_; intro h1 h2)
    have h3 := h x (.head _)
    exact ⟨show (PyData.strOk x && (labKy a).okS && (labKy a).chain) = true by rw [h3, h1, h2]; rfl, h2⟩
theorem labKy_dep : ∀ (a : List Str), (labKy a).dep.2 = 0 ∧ (labKy a).dep.1 = 1
  | [] => ⟨rfl, rfl⟩
  | x :: a => by
    have h := (labKy_dep a).1
    have e : (labKy (x :: a)).dep = (max 0 (labKy a).dep.2 + 1, max 0 (labKy a).dep.2) := rfl
    rw [e, h]; exact ⟨rfl, rfl⟩
theorem labKy_items {g : Addr → Option Obj} {vs : List Value} {ss : List Str} (h : StrsAre vs ss) : IsKys g (labKy ss) vs := by
  induction h with
  | nil => exact rfl
  | cons x t h ih => exact (i2_3 (_) (_) (rfl) (⟨t, rfl⟩) (ih))
theorem labKy_is {σ : Led} {a : Addr} {vs : List Value} {ss : List Str} {n : Nat} (h : σ a = some (tupOf vs n)) (hi : StrsAre vs ss) : IsKy σ (labKy ss) (.ref a) := by
  cases hi with
  | nil => exact (i3_4 (a) ( _) ( n) ( rfl) ( h) ( rfl) ( rfl))
  | cons x t hr => exact (i5_6 (a) ( _) ( _) ( _) ( n) ( rfl) ( h) ( rfl) ( rfl) ( ⟨t, rfl⟩) ( labKy_items hr))
theorem IsDictOf.nocell {w : World} {o : Obj} {kvs : List (Str × Value)} (h : o.IsDictOf (PySem.strKind PR w) kvs) : ∀ v, o.data ≠ .cell v := fun v e => by
  (refine x2_3 h ?_; clear h; intro es ep _ h2 _)
  (first | exact nos (h2) e | exact nos e (h2) | (rw [h2] at e; cases e))
theorem IsDictOf.cls {w : World} {o : Obj} {kvs : List (Str × Value)} (h : o.IsDictOf (PySem.strKind PR w) kvs) : o.cls = .type "dict" := by
  (refine x2_2 h ?_; clear h; intro es ep h1 _)
  exact h1.1
noncomputable def labs4 : List Str := [Str.ofString "q", Str.ofString "m", Str.ofString "t", Str.ofString "c"]
theorem labs4_nodup : labs4.Nodup := by decide
theorem labs4_ok : ∀ x ∈ labs4, PyData.strOk x = true := by decide +kernel
theorem labs4_at {lv : List Value} {u1 u2 u3 u4 : Tok} (e : lv = [.str (Str.ofString "q") u1, .str (Str.ofString "m") u2, .str (Str.ofString "t") u3, .str (Str.ofString "c") u4]) : StrsAre lv labs4 := by
  subst e
  exact .cons _ _ (.cons _ _ (.cons _ _ (.cons _ _ .nil)))
theorem strs_take {vs : List Value} {ss : List Str} (h : StrsAre vs ss) : ∀ k, StrsAre (vs.take k) (ss.take k) := by
  induction h with
  | nil => intro k; simpa using StrsAre.nil
  | cons x t h ih =>
    intro k
    cases k with
    | zero => exact .nil
    | succ k => exact .cons x t (ih k)
theorem Told.add {σ : Led} {td pq : Addr} {od : Obj} {kvs : List (Str × Value)} {w : World} {told : List (Str × Tm × Tm)} {l : Str} {t u : Tm} {a b : Value} {n : Nat} {od' : Obj} (h : Told σ td od kvs w told) (hl : l ∉ told.map (·.1)) (hlen : told.length ≤ 3)
    (hq : σ pq = some (tupOf [a, b] n)) (ht : TmT σ t a) (hu : TmT σ u b) (hok : t.ok = true ∧ u.ok = true ∧ t.size ≤ 10 ∧ u.size ≤ 10 ∧ t.hgt ≤ 4 ∧ u.hgt ≤ 4) (htd : σ td = some od) (hod : od'.IsDictOf (PySem.strKind PR w) (stored kvs l (.ref pq))) :
    Told (σ.set td od') td od' (kvs ++ [(l, .ref pq)]) w (told ++ [(l, t, u)]) := by
  have hv : valueAt kvs l = none := by
    unfold valueAt
    rw [List.find?_eq_none.mpr]
    · rfl
    · intro x hx hk
      rw [← h.keys] at hl
      exact hl (List.mem_map.mpr (i1_2 (x) ( hx) ( by simpa using hk)))
  have tp : Tup σ (σ.set td od') := Tup.set htd (by rw [IsDictOf.cls h.hod |> fun e => (show od.cls = .type "dict" from e)]; decide)
  rw [stored_absent hv] at hod
  refine ⟨Led.set_self, hod, fun l' p hp => ?_, ?_, by simp; exact hlen, fun x hx => ?_⟩
  · rcases List.mem_append.mp hp with hp | hp
    · (refine x4_4 (h.htold l' p hp) ?_; intro pa v1 v2 k h1 h2 h3 h4)
      refine (i4_4 (pa) ( v1) ( v2) ( k) ( ?_) ( tp _ _ h2 rfl) ( h3.tup tp) ( h4.tup tp))
      unfold valueAt at h1 ⊢
      rw [List.find?_append]
      cases q : kvs.find? (fun kv => decide (kv.1 = l')) with
      | none => (first | exact nos (q) h1 | exact nos h1 (q) | (rw [q] at h1; cases h1))
      | some x => rw [q] at h1; simpa using h1
    · simp only [List.mem_singleton, Prod.mk.injEq] at hp
      (refine x0_2 hp ?_; clear hp; intro er1 er2; obtain rfl := er1; obtain rfl := er2)
      refine (i4_4 (pq) ( a) ( b) ( n) ( ?_) ( tp _ _ hq rfl) ( ht.tup tp) ( hu.tup tp))
      unfold valueAt at hv ⊢
      rw [List.find?_append]
      cases q : kvs.find? (fun kv => decide (kv.1 = l')) with
      | none => simp
      | some x => (first | exact nos (q) hv | exact nos hv (q) | (rw [q] at hv; cases hv))
  · rw [List.map_append, List.map_append, h.keys]; rfl
  · rcases List.mem_append.mp hx with hx | hx
    · exact h.ok x hx
    · simp only [List.mem_singleton] at hx
      subst hx; exact hok
theorem sizes_le {b : Nat} : ∀ {l : List Tm}, (∀ x ∈ l, x.size ≤ b) → sizes l ≤ b * l.length
  | [], _ => by simp [sizes]
  | t :: l, h => by
    have h1 := h t (.head _)
    have h2 := sizes_le (l := l) fun x hx => h x (.tail _ hx)
    show t.size + sizes l ≤ b * (l.length + 1)
    rw [Nat.mul_succ]; omega
noncomputable def DueI (P : List Str → Prop) (ss : List Str) (i : Nat) (v : Value) (σ : Led) : Prop :=
  (v = .none ∧ ∀ q, q < i → ¬ P (lotN ss q)) ∨ ∃ a vs k q, v = .ref a ∧ σ a = some (tupOf vs k) ∧ StrsAre vs (lotN ss q) ∧ q < i ∧ P (lotN ss q) ∧ ∀ r, r < q → ¬ P (lotN ss r)
theorem DueI.nc {P : List Str → Prop} {ss : List Str} {i : Nat} {v : Value} {σ σ' : Led} (h : DueI P ss i v σ) (g : NCell σ σ') : DueI P ss i v σ' := by
  rcases h with h | ⟨a, vs, k, q, e, h1, h2⟩
  · exact .inl h
  · exact .inr (i4_3 (a) ( vs) ( k) ( q) ( e) ( g.tupl h1) ( h2))
theorem strs_snoc {vs : List Value} {ss : List Str} (h : StrsAre vs ss) (x : Str) (t : Tok) : StrsAre (vs ++ [.str x t]) (ss ++ [x]) := by
  induction h with
  | nil => exact .cons _ _ .nil
  | cons y u _ ih => exact .cons y u ih
noncomputable def NT (σ σ' : Led) : Prop := ∀ a vs n, σ a = some (tupOf vs n) → σ' a = some (tupOf vs n)
theorem TmT.nt {σ σ' : Led} (g : NT σ σ') : ∀ {t : Tm} {v : Value}, TmT σ t v → TmT σ' t v
  | .lf c, v, ⟨a, n, t, e, h⟩ => (i3_2 (a) ( n) ( t) ( e) ( g _ _ _ h))
  | .un c x, v, ⟨a, n, t, u, e, h, hx⟩ => (i4_3 (a) ( n) ( t) ( u) ( e) ( g _ _ _ h) ( hx.nt g))
  | .bi c x y, v, ⟨a, n, t, u, w, e, h, hx, hy⟩ => (i5_4 (a) ( n) ( t) ( u) ( w) ( e) ( g _ _ _ h) ( hx.nt g) ( hy.nt g))
theorem ToldT.nt {σ σ' : Led} {kvs : List (Str × Value)} {told : List (Str × Tm × Tm)} (h : ToldT σ kvs told) (g : NT σ σ') : ToldT σ' kvs told := fun l p hp => by
  (refine x4_4 (h l p hp) ?_; intro pa v1 v2 n a b c d)
  exact (i4_4 (pa) ( v1) ( v2) ( n) ( a) ( g _ _ _ b) ( c.nt g) ( d.nt g))
noncomputable def NF (cd : Addr) (σ σ' : Led) : Prop := ∀ a o, σ a = some o → a ≠ cd → (∀ v, o.data ≠ .cell v) → σ' a = some o
theorem NF.refl {cd : Addr} {σ : Led} : NF cd σ σ := fun _ _ e _ _ => e
theorem NF.trans {cd : Addr} {σ σ' σ'' : Led} (h : NF cd σ σ') (h' : NF cd σ' σ'') : NF cd σ σ'' := fun a o e q c => h' a o (h a o e q c) q c
theorem Fm.nf {cd : Addr} {σ σ' : Led} (h : Fm cd σ σ') : NF cd σ σ' := fun a o e q _ => h a o e q
theorem NCell.nf {cd : Addr} {σ σ' : Led} (h : NCell σ σ') : NF cd σ σ' := fun a o e _ c => h a o e c
theorem NF.nt {cd : Addr} {σ σ' : Led} (h : NF cd σ σ') (hd : ∃ es n, σ cd = some (dictOf es n)) : NT σ σ' := fun a vs n e => h a _ e (by
  rintro rfl
  (refine x2_1 hd ?_; clear hd; intro es k q)
  rw [e] at q
  exact absurd (show Value.type "tuple" = Value.type "dict" from congrArg Obj.cls (Option.some.inj q)) (by decide)) (fun v q => by cases q)
theorem NF.lst {cd : Addr} {σ σ' : Led} (h : NF cd σ σ') (hd : ∃ es n, σ cd = some (dictOf es n)) {a : Addr} {vs : List Value} {n : Nat} (e : σ a = some (lstOf vs n)) : σ' a = some (lstOf vs n) := h a _ e (by
  rintro rfl
  (refine x2_1 hd ?_; clear hd; intro es k q)
  rw [e] at q
  exact absurd (show Value.type "list" = Value.type "dict" from congrArg Obj.cls (Option.some.inj q)) (by decide)) (fun v q => by cases q)
theorem Told.nf {σ σ' : Led} {td cd : Addr} {od : Obj} {kvs : List (Str × Value)} {w : World} {told : List (Str × Tm × Tm)} (h : Told σ td od kvs w told) (f : NF cd σ σ') (hd : ∃ es n, σ cd = some (dictOf es n)) (hne : td ≠ cd) : Told σ' td od kvs w told :=
  ⟨f _ _ h.htd hne (IsDictOf.nocell h.hod), h.hod, h.htold.nt (f.nt hd), h.keys, h.len, h.ok⟩
theorem CoreI.nc {σ σ' : Led} {cx cd td : Addr} {k : Nat} (h : CoreI σ cx cd td k) (g : NCell σ σ') : CoreI σ' cx cd td k := by
  obtain ⟨h0, fs, h1, h2⟩ := h
  refine ⟨h0, fs, h1.keep (fun o e => g _ _ e fun v q => ?_) (fun o e => g _ _ e fun v q => ?_), h2⟩
  · (first | exact nos (h1.x) e | exact nos e (h1.x) | (rw [h1.x] at e; cases e)); cases q
  · (refine x2_1 h1.d ?_; intro es n hd)
    (first | exact nos (hd) e | exact nos e (hd) | (rw [hd] at e; cases e)); cases q
section
variable {X : Cx} {m : Loc} {σ : Led} {s : Shared} {d : Nat}
theorem j_ne_labs {a b : Addr} {vs ws : List Value} {ss rs : List Str} {n k : Nat} {Q : Value → Loc → Led → Prop} (O : X.Ok d) (ha : σ a = some (tupOf vs n)) (hb : σ b = some (tupOf ws k)) (hi : StrsAre vs ss) (hj : StrsAre ws rs)
    (h1 : ∀ x ∈ ss, PyData.strOk x = true) (h2 : ∀ x ∈ rs, PyData.strOk x = true) (h : Q (.bool (!decide (ss = rs))) m σ) : J X (compareOp .NotEq (.ref a) (.ref b)) m σ Q := by
  refine j_ne_ky (k := labKy ss) (l := labKy rs) O (i0_3 (labKy_is ha hi) ( (labKy_ok h1).1) ( by rw [(labKy_dep _).2]; decide)) (i0_3 (labKy_is hb hj) ( (labKy_ok h2).1) ( by rw [(labKy_dep _).2]; decide)) ?_
  refine Mine.sb (show decide (labKy ss = labKy rs) = decide (ss = rs) from decide_eq_decide.mpr ⟨labKy_inj, fun e => by rw [e]⟩) ?_
  exact h
theorem j_ne_none {Q : Value → Loc → Led → Prop} (O : X.Ok d) (h : Q (.bool false) m σ) : J X (compareOp .NotEq .none .none) m σ Q :=
  neBool_reads (da := .none) (db := .none) O (fun s S => .none) (fun s S => .none) rfl rfl (by simp [PyData.depth]) (by simpa [PyData.eqv] using h)
theorem j_upto {value slice : PySem.Expr} {l sl : Addr} {vs : List Value} {b : Nat} {tk : Tok} {Q : Value → Loc → Led → Prop} (hl : ∀ s, St X m σ s → s.heap.IsList l vs.toArray) (hsl : σ sl = some (sliceObj .none (.int (b : Nat) tk))) (hz : vs.length ≤ 16777216)
    (he : subscripted slice false (.ref l) (.ref sl) = operate [.ref sl, .ref l] (getItem (.ref l) (.ref sl))) (h : ∀ c, σ c = none → Q (.ref c) m (σ.set c (lstOf (vs.take b) 0))) : J X (subscriptTail value slice (.ref l) (.ref sl)) m σ Q :=
  fun bb s B S => tail_any (hl s S).typeIs slot_list_getitem.lookup
    (wpAny_getItem_list_slice (lo := none) (hi := some (b : Int)) (st := none) (hl s S) (slAt S hsl) .none (.int _ _) .none (by simp) (by
      first | refine Mine.sb (slicePick_upto') ?_ | rw [slicePick_upto']
      have e : (vs.toArray.toList.take b).toArray = (vs.take b).toArray := by simp
      first | refine Mine.sb (e) ?_ | rw [e]
      exact .mk B.heap (S.push (tk := s.toks)) (h _ (S.fresh (Nat.le_refl _)).1)) (by first | exact ((List.size_toArray).trans ((sizeLine_eq).trans hz)) | (rw [List.size_toArray, sizeLine_eq]; exact hz))) he
theorem j_dict_of {dd : Addr} {o : Obj} {kvs : List (Str × Value)} {Q : Value → Loc → Led → Prop} (O : X.Ok d) (hs : σ dd = some o) (ho : o.IsDictOf (PySem.strKind PR X.w) kvs) (hz : kvs.length ≤ 1000)
    (h : ∀ a o', σ a = none → o'.IsDictOf (PySem.strKind PR X.w) kvs → Q (.ref a) m (σ.set a o')) : J X (call (.type "dict") [.ref dd]) m σ Q := by
  intro b s B S
  refine kt_call_dict (notMods O S hs) (dctAt S hs ho) (by first | exact ((sizeLine_eq).trans ((Nat.le_trans hz (Nat.le_of_ble_eq_true rfl)))) | (rw [sizeLine_eq]; exact (Nat.le_trans hz (Nat.le_of_ble_eq_true rfl)))) fun h' hm hsb => ?_
  (refine x1_2 (Heap.dictOf_iff.mp hm) ?_; intro o' ho' hd')
  refine .mk B.heap (S.newObj (tk := s.toks) (Nat.le_refl _) ho' fun c oc e => ?_) (h _ o' (S.fresh (Nat.le_refl _)).1 hd')
  exact (hsb.2 c (Nat.ne_of_lt (Heap.lt_size e))).trans (Heap.get?_push_of_some _ e)
noncomputable def prKy (p : Tm × Tm) : Ky := .cons (tmKy p.1) (.cons (tmKy p.2) .nil)
theorem prKy_ok {p : Tm × Tm} (h1 : p.1.good) (h2 : p.2.good) : (prKy p).okS = true ∧ (prKy p).dep.1 ≤ 9 := by
  refine ⟨by simp [prKy, Ky.okS, Ky.chain, tmKy_okS h1.1, tmKy_okS h2.1], ?_⟩
  have e1 := tmKy_dep p.1
  have e2 := tmKy_dep p.2
  have := h1.2
  have := h2.2
  simp [prKy, Ky.dep]
  omega
theorem prKy_is {σ : Led} {q : Addr} {a b : Value} {n : Nat} {p : Tm × Tm} (h : σ q = some (tupOf [a, b] n)) (h1 : TmT σ p.1 a) (h2 : TmT σ p.2 b) : IsKy σ (prKy p) (.ref q) :=
  ⟨q, _, _, _, n, rfl, h, rfl, rfl, h1.isKy, _, _, rfl, h2.isKy, rfl⟩
theorem keq_all {A : Around} {kb : List (Str × Value)} : ∀ {ka : List (Str × Value)}, (∀ p ∈ ka, valueAt kb p.1 = some p.2 ∧ SeqAt.EqAt A s p.2 p.2 true) → KeqHits A s kb ka true
  | [], _ => .nil
  | (k, v) :: r, h => by
    have h1 := h (k, v) (.head _)
    exact .hit (e := true) (b := true) h1.1 h1.2 (keq_all fun p hp => h p (.tail _ hp))
theorem valueAt_mem {kvs : List (Str × Value)} (hn : (kvs.map (·.1)).Nodup) : ∀ p ∈ kvs, valueAt kvs p.1 = some p.2 := by
  induction kvs with
  | nil => intro p hp; cases hp
  | cons q r ih =>
    intro p hp
    rw [List.map_cons, List.nodup_cons] at hn
    unfold valueAt
    rw [List.find?_cons]
    rcases List.mem_cons.mp hp with rfl | hp
    · simp
    · have hne : q.1 ≠ p.1 := fun e => hn.1 (e ▸ List.mem_map.mpr (i1_2 (p) ( hp) ( rfl)))
      simp only [hne, decide_false]
      exact ih hn.2 p hp
theorem j_ne_same {a b : Addr} {oa ob : Obj} {kvs : List (Str × Value)} {Q : Value → Loc → Led → Prop} (O : X.Ok d) (ha : σ a = some oa) (hb : σ b = some ob) (hoa : oa.IsDictOf (PySem.strKind PR X.w) kvs) (hob : ob.IsDictOf (PySem.strKind PR X.w) kvs)
    (hn : (kvs.map (·.1)).Nodup) (hv : ∀ p ∈ kvs, ∃ q x y n t u, p.2 = .ref q ∧ σ q = some (tupOf [x, y] n) ∧ TmT σ t x ∧ TmT σ u y ∧ t.good ∧ u.good)
    (h : Q (.bool false) m σ) : J X (compareOp .NotEq (.ref a) (.ref b)) m σ Q := by
  intro bb s B S
  refine keq_ne (r := true) (notMods O S ha) (notMods O S hb) (dctAt S ha hoa) (dctAt S hb hob) (by have := O_units8 O; omega) (fun _ => keq_all fun p hp => ⟨valueAt_mem hn p hp, ?_⟩) (by simpa using .mk B S h)
  (refine x6_6 (hv p hp) ?_; intro q x y n t u e hq ht hu htg hug)
  first | refine Mine.sb (e) ?_ | rw [e]
  have hk := prKy_ok (p := (t, u)) htg hug
  have hi := (prKy_is (p := (t, u)) hq ht hu).mono fun a o e => (S.nw a o e).1
  have z := PySem.SeqAt.eqAt_reads (prKy (t, u)).py.1 (prKy (t, u)).py.1 X.A.in1 s (.ref q) (.ref q) [] [] ((bears_reads _).1 _ hi) ((bears_reads _).1 _ hi) (py_lay _ hk.1).1 (py_lay _ hk.1).1 (by
    have := (py_depth (prKy (t, u))).1
    have := O_units8 O
    show X.A.units + 1 + _ < _
    omega)
  rw [(py_eqv _ _ hk.1 hk.1).1] at z
  simpa using z
theorem j_bindSwap3 {x y z : Str} {v w u : Value} {Q : Unit → Loc → Led → Prop} (O : X.Ok d) (hx : X.env.kindOf x = some .local) (hy : X.env.kindOf y = some .local) (hz : X.env.kindOf z = some .local) (h : Q () (((m.set z u).set y w).set x v) σ) :
    J X (assignInOrder ((([x, y, z] : List Str).reverse).map fun n => bindName X.env n) (([v, w, u] : List Value).reverse)) m σ Q := by
  show J X (assignInOrder [bindName X.env z, bindName X.env y, bindName X.env x] [u, w, v]) m σ Q
  refine j_assignInOrder_cons (j_bindName (j_store_local O hz ?_))
  refine j_assignInOrder_cons (j_bindName (j_store_local O hy ?_))
  exact j_assignInOrder_cons (j_bindName (j_store_local O hx (j_assignInOrder_nil h)))
theorem j_bindNest {x y z : Str} {px py pz : Pos} {k k2 : Nat} {pos pos2 : Pos} {t q : Addr} {n n2 : Nat} {v a b : Value} {Q : Unit → Loc → Led → Prop} (O : X.Ok d) (hs : σ t = some (tupOf [v, .ref q] n)) (hq : σ q = some (tupOf [a, b] n2))
    (hx : X.env.kindOf x = some .local) (hy : X.env.kindOf y = some .local) (hz : X.env.kindOf z = some .local) (h : Q () (((m.set x v).set y a).set z b) σ) :
    J X (assign (.Tuple [.Name x px, .Tuple [.Name y py, .Name z pz] k2 pos2] k pos) X.env (.ref t)) m σ Q := by
  have e : assignEach [PySem.Expr.Name x px, .Tuple [.Name y py, .Name z pz] k2 pos2] X.env = [(false, assign (.Name x px) X.env), (false, assign (.Tuple [.Name y py, .Name z pz] k2 pos2) X.env)] := rfl
  refine j_assign_Tuple (by rw [e]; rfl) ?_
  first | refine Mine.sb (e) ?_ | rw [e]
  refine j_unpackItems_tup O hs tupO rfl ?_
  refine j_assignInOrder_cons (j_assign_Name (j_store_local O hx ?_))
  exact j_assignInOrder_cons (j_bindPair (k := k2) (pos := pos2) O hq tupO hy hz (j_assignInOrder_nil h))
theorem j_powN {n : Nat} {t u : Tok} {Q : Value → Loc → Led → Prop} (hn : n ≤ 1000) (h : ∀ t, Q (.int ((2 ^ n : Nat) : Int) t) m σ) : J X (binaryOp .Pow (.int 2 t) (.int (n : Nat) u)) m σ Q := by
  refine j_pow (by exact (Int.natCast_nonneg _)) (by omega) (by decide) fun t => ?_
  have e : ((2 : Int) ^ ((n : Int)).toNat) = ((2 ^ n : Nat) : Int) := by simp
  rw [e]; exact h t
theorem j_bit {a k : Nat} {t u : Tok} {Q : Value → Loc → Led → Prop} (ha : a < 1000) (hk : k ≤ 4) (h : ∀ t, Q (.int ((a / 2 ^ k : Nat) : Int) t) m σ) : J X (binaryOp .FloorDiv (.int (a : Nat) t) (.int ((2 ^ k : Nat) : Int) u)) m σ Q := by
  have hp : 0 < 2 ^ k := Nat.pow_pos (by decide)
  refine j_floordiv (by omega) ?_ fun t => ?_
  · have hd : decide ((if ((2 ^ k : Nat) : Int) == 0 then 0 else ((2 ^ k : Nat) : Int).natAbs.log2 / 30 + 1) > 300) = false := by
      have : k = 0 ∨ k = 1 ∨ k = 2 ∨ k = 3 ∨ k = 4 := by omega
      rcases this with rfl | rfl | rfl | rfl | rfl <;> decide +kernel
    show (decide ((if ((2 ^ k : Nat) : Int) == 0 then 0 else ((2 ^ k : Nat) : Int).natAbs.log2 / 30 + 1) > 300) && _) = false
    first | refine Mine.sb (hd) ?_ | rw [hd]
    rfl
  · have e : (a : Int).fdiv ((2 ^ k : Nat) : Int) = ((a / 2 ^ k : Nat) : Int) := by
      rw [Int.fdiv_eq_ediv_of_nonneg _ (by exact (Int.natCast_nonneg _))]
      simp
    rw [e]; exact h t
theorem j_mod2 {a : Nat} {t u : Tok} {Q : Value → Loc → Led → Prop} (h : ∀ t, Q (.int ((a % 2 : Nat) : Int) t) m σ) : J X (binaryOp .Mod (.int (a : Nat) t) (.int 2 u)) m σ Q := by
  refine j_mod (by decide) fun t => ?_
  have e : (a : Int).fmod 2 = ((a % 2 : Nat) : Int) := by
    rw [Int.fmod_eq_emod_of_nonneg _ (by decide)]
    simp
  rw [e]; exact h t
theorem j_bindPairLC {x y : Str} {px py : Pos} {k : Nat} {pos : Pos} {t c : Addr} {o oc : Obj} {v w : Value} {v0 : Option Value} {Q : Unit → Loc → Led → Prop} (O : X.Ok d) (hs : σ t = some o) (ho : IsTupO o [v, w])
    (hx : X.env.kindOf x = some .local) (hy : X.env.kindOf y = some .cell) (hc : X.env.cells.lookup y = some c) (hsc : σ c = some oc) (hoc : oc.data = .cell v0) (h : ∀ o', o'.data = .cell (some w) → Q () (m.set x v) (σ.set c o')) :
    J X (assign (.Tuple [.Name x px, .Name y py] k pos) X.env (.ref t)) m σ Q := by
  have e : assignEach [PySem.Expr.Name x px, PySem.Expr.Name y py] X.env = [(false, assign (.Name x px) X.env), (false, assign (.Name y py) X.env)] := rfl
  refine j_assign_Tuple (by rw [e]; rfl) ?_
  first | refine Mine.sb (e) ?_ | rw [e]
  refine j_unpackItems_tup O hs ho rfl ?_
  refine j_assignInOrder_cons (j_assign_Name (j_store_local O hx ?_))
  exact j_assignInOrder_cons (j_assign_Name (j_store_cell O hy hc hsc hoc fun o' ho' => j_assignInOrder_nil (h o' ho')))
theorem FmD.nc {da : Addr} {σ σ' : Led} (h : FmD da σ σ') {a : Addr} {o : Obj} (e : σ a = some o) (hne : a ≠ da) : σ' a = some o := h a o e hne
theorem Deal.obj {σ : Led} {da : Addr} {cells : List Int} {spot : Nat} (h : Deal σ da cells spot) : ∃ vs n, σ da = some (lstOf vs n) := by
  (refine x3_2 h ?_; clear h; intro vs t n e _); exact ⟨_, _, e⟩
theorem Deal.nc {σ σ' : Led} {da : Addr} {cells : List Int} {spot : Nat} (h : Deal σ da cells spot) (s : NCell σ σ') : Deal σ' da cells spot := by
  (refine x3_2 h ?_; clear h; intro vs t n e hi); exact ⟨vs, t, n, s.lst e, hi⟩
theorem ToldT.nc {σ σ' : Led} {kvs : List (Str × Value)} {told : List (Str × Tm × Tm)} (h : ToldT σ kvs told) (g : NCell σ σ') : ToldT σ' kvs told := fun l p hp => by
  (refine x4_4 (h l p hp) ?_; intro pa v1 v2 n a b c d)
  exact (i4_4 (pa) ( v1) ( v2) ( n) ( a) ( g.tupl b) ( c.nc g) ( d.nc g))
theorem Told.nc {σ σ' : Led} {td : Addr} {od : Obj} {kvs : List (Str × Value)} {w : World} {told : List (Str × Tm × Tm)} (h : Told σ td od kvs w told) (g : NCell σ σ') : Told σ' td od kvs w told :=
  ⟨g _ _ h.htd (IsDictOf.nocell h.hod), h.hod, h.htold.nc g, h.keys, h.len, h.ok⟩
theorem Told.fmD {σ σ' : Led} {td da : Addr} {od : Obj} {kvs : List (Str × Value)} {w : World} {told : List (Str × Tm × Tm)} {cells : List Int} {spot : Nat} (h : Told σ td od kvs w told) (f : FmD da σ σ') (D : Deal σ da cells spot) : Told σ' td od kvs w told := by
  have tp := f.tup D
  refine ⟨f _ _ h.htd ?_, h.hod, h.htold.tup tp, h.keys, h.len, h.ok⟩
  rintro rfl
  (refine x2_1 D.obj ?_; intro vs n e)
  have := h.htd
  rw [e] at this
  have hc := IsDictOf.cls h.hod
  rw [← Option.some.inj this] at hc
  exact absurd (show Value.type "list" = Value.type "dict" from hc) (by decide)
theorem cell_ne {σ : Led} {da c : Addr} {o : Obj} {v : Option Value} {cells : List Int} {spot : Nat} (D : Deal σ da cells spot) (h : σ c = some o) (ho : o.data = .cell v) : c ≠ da := by
  rintro rfl
  (refine x2_1 D.obj ?_; intro vs n e)
  (first | exact nos (e) h | exact nos h (e) | (rw [e] at h; cases h)); cases ho
theorem lst_ne {σ : Led} {da c : Addr} {ws : List Value} {k : Nat} (h : σ c = some (lstOf ws k)) (hn : σ da = none) : c ≠ da := by
  rintro rfl; (first | exact nos (hn) h | exact nos h (hn) | (rw [hn] at h; cases h))
theorem j_args4 {e1 e2 e3 e4 : PySem.Expr} {pos : Pos} {Q : List Value → Loc → Led → Prop} (he : starEach [e1, e2, e3, e4] X.env = [(false, eval e1 X.env), (false, eval e2 X.env), (false, eval e3 X.env), (false, eval e4 X.env)])
    (h : J X (eval e1 X.env) m σ (fun a m' σ' => J X (eval e2 X.env) m' σ' (fun b m' σ' => J X (eval e3 X.env) m' σ' (fun c m' σ' => J X (eval e4 X.env) m' σ' (fun z => Q [a, b, c, z]))))) : J X (spliced (backTo pos (starEach [e1, e2, e3, e4] X.env))) m σ Q := by
  first | refine Mine.sb (he) ?_ | rw [he]
  show J X (spliced [(false, eval e1 X.env), (false, eval e2 X.env), (false, eval e3 X.env), (false, eval e4 X.env)]) m σ Q
  refine j_spliced_cons (h.mono fun a m1 σ1 h1 => ?_)
  exact j_spliced_three h1
end
theorem j_Assign_Tuple_swapped3 {X : Cx} {m : Loc} {σ : Led} {x y z : Str} {px py pz : Pos} {k : Nat} {tpos pos : Pos} {value : PySem.Expr} {Q : Flow → Loc → Led → Prop}
    (h : J X (eval value X.env) m σ (fun v m' σ' => J X (unpackItems v ([x, y, z] : List Str).length none) m' σ' (fun items m' σ' => J X (assignInOrder (([x, y, z] : List Str).reverse.map fun n => bindName X.env n) items.reverse) m' σ' (fun _ => Q .next))))
    (hs : swapsWithSole [.Tuple [.Name x px, .Name y py, .Name z pz] k tpos] value pos.line X.env = pure false) (hw : swappedStores [.Tuple [.Name x px, .Name y py, .Name z pz] k tpos] value X.env = pure (some [x, y, z])) : J X (exec (.Assign [.Tuple [.Name x px, .Name y py, .Name z pz] k tpos] value pos) X.env) m σ Q :=
  j_Assign_Tuple_swapped h hs hw
end
section
--FILE FZ
theorem run_law {w : World} {A : Around} {body : List Stmt} {env : Env} {h₀ : Heap} {m : Loc} {σ : Led} {s b : Shared} {P : Flow → Loc → Led → Prop} {G : Flow → Shared → Prop} {E : Value → Shared → Prop}
    (h : ∀ X : Cx, X.w = w → X.A = A → X.env = env → X.h₀ = h₀ → J X (execs body X.env) m σ P) (B : Same b s) (S : St ⟨w, A, env, h₀, []⟩ m σ s) (k : ∀ a s' m' σ', Same b s' → St ⟨w, A, env, h₀, []⟩ m' σ' s' → P a m' σ' → G a s') : wpAny (model PR w) A (execs body env) G E s := (h ⟨w, A, env, h₀, []⟩ rfl rfl rfl rfl).seq B S k
noncomputable def noLed : Led := fun _ => none
theorem St.start {X : Cx} {m : Loc} {cells : List (Addr × Obj)} {s : Shared} (F : Fr X.h₀ X.env.locals s.heap m) (N : News X.h₀ X.env.locals s.heap cells) (hf : X.fns = []) : St X m (Led.sets noLed cells) s :=
  by
  refine ⟨F, fun a o e => ?_, fun p hp => ?_⟩
  · rcases Led.sets_some e with hm | hm
    · exact N _ hm
    · exact absurd hm (by simp [noLed])
  · (first | exact nos (hf) hp | exact nos hp (hf) | (rw [hf] at hp; cases hp))
set_option maxHeartbeats 4000000 in
theorem walkT.tw2688728649750775709 : True := trivial
set_option Elab.async true in
theorem walkT : sndOf hd := by
  delta sndOf
  k_go0
  rename_i w s₀ s₁ mg mb G Y fa o pm doc ho hg KX X V GL T B TE TW w12 w11 M w10 w9 hcd ns hs hlay0 hL0 hr0 hl2 w7 w6 sc vs w3 hL ra w1 r0 hI hr hcond hcond2 K0 hD h₁ tk₁ F oC oB oA dC dB dA N0 X0
  clear hcd hD X0 hlay0 hL0 hr0 hl2 ra w1 r0 hr hcond2 hs G Y V GL B TE TW M ho X
  refine run_law (h₀ := s₁.heap) (b := s₁) (P := fun fl _ _ => flowVal fl = .bool true) ?hJ (i2_1 (_) ( _) ( rfl)) (St.start F N0 rfl) ?hk
  case hk =>
    intro fl s' m' σ' B' S' hfl
    (refine x2_1 B' ?_; clear B'; intro hp' tk' er1; obtain rfl := er1)
    show GoodW _ _ _ _ _ (Except.ok (Flow.ret (flowVal fl))) _
    first | refine Mine.sb (hfl) ?_ | rw [hfl]
    refine goodW_bool S'.fr hg (raisesW_false ?_) ?_
    · wrow_none_raised
    · wrow_post
  case hJ =>
    intro X hw hA hE hh
    have O : X.Ok 60 := by
      refine { kin := ?_, top := ?_, hh := ?_, kind := ?_, glob := ?_, bi := ?_, below := ?_, depth := ?_, units := ?_ }
      · rw [hw, hh]; exact KX
      · rw [hh]; exact (i3_1 (_) ( _) ( _) ( T))
      · rw [hA]; rfl
      · rw [hE]; rfl
      · rw [hE]; rfl
      · rw [hE]; rfl
      · rw [hE, hA, hh]
        exact (i7_5 (callerA) ( _) ( _) ( []) ( _) ( default) ( fun _ => none) ( K0) ( Around.frames_deeper K0.stack) ( rfl) ( rfl) ( .inl rfl))
      · rw [hA]; show 1 + claimMargin + 1 + 60 < 900; decide
      · rw [hA]; show 4 + 3 + 40 * 60 < 9000; decide
    have hsc : ∀ {m : Loc} {σ : Led} (s : Shared), St X m σ s → s.heap.IsList sc vs.toArray := fun s S => by
      (refine x1_2 hL ?_; clear hL; intro ol hol r)
      exact (i1_2 (ol) ( S.fr.keep _ _ (by first | exact ((hh).trans hol) | (rw [hh]; exact hol))) ( r))
    subst hw
    (generalize s₁.heap.objs.size = L at *; revert L; refine bar ?_; set_option tactic.hygienic false in intros)
    have c1 : (Led.sets noLed [(L + 1 + 1 + 1, oC), (L + 1 + 1, oB), (L + 1, oA)]) (L + 1) = some oA := by
      show (((noLed.set (L + 1) oA).set (L + 2) oB).set (L + 3) oC) (L + 1) = some oA
      rw [Led.set_ne (adN (by decide)), Led.set_ne (adN (by decide))]; exact Led.set_self
    have c2 : (Led.sets noLed [(L + 1 + 1 + 1, oC), (L + 1 + 1, oB), (L + 1, oA)]) (L + 2) = some oB := by
      show (((noLed.set (L + 1) oA).set (L + 2) oB).set (L + 3) oC) (L + 2) = some oB
      rw [Led.set_ne (adN (by decide))]; exact Led.set_self
    have c3 : (Led.sets noLed [(L + 1 + 1 + 1, oC), (L + 1 + 1, oB), (L + 1, oA)]) (L + 3) = some oC := by
      show (((noLed.set (L + 1) oA).set (L + 2) oB).set (L + 3) oC) (L + 3) = some oC
      exact Led.set_self
    (generalize Led.sets noLed [(L + 1 + 1 + 1, oC), (L + 1 + 1, oB), (L + 1, oA)] = σ1 at *; revert σ1; refine bar ?_; set_option tactic.hygienic false in intros)
    clear hA hh KX T K0 F N0 hg hL
    have d1 : oA.data = .cell none := dA
    have d2 : oB.data = .cell none := dB
    have d3 : oC.data = .cell none := dC
    clear dA dB dC
    repeat k_upd
    ((refine' j_map ?aq16 ?bq16 ?cq16 ?dq16 ?eq16 ?fq16 ?_); (case aq16 => assumption); (case bq16 => k_mem); (case cq16 => decide); (case dq16 => exact rfl); (case eq16 => decide); (case fq16 => k_mem))
    repeat k_upd
    intro tk0 sa hsa
    refine j_upto (hsc) Led.set_self ?_ (by rfl) ?_
    · have := IntsAre.length hI
      omega
    intro ca hca
    generalize bindL _ _ _ = m0
    have s1 : Sub σ1 ((σ1.set sa (sliceObj Value.none (Value.int 40 tk0))).set ca (lstOf (List.take 40 vs) 0)) := (Sub.new hsa).trans (.new hca)
    have ca1 : ((σ1.set sa (sliceObj Value.none (Value.int 40 tk0))).set ca (lstOf (List.take 40 vs) 0)) ca = some (lstOf (vs.take 40) 0) := Led.set_self
    (generalize (σ1.set sa (sliceObj Value.none (Value.int 40 tk0))).set ca (lstOf (List.take 40 vs) 0) = σ2 at *; revert σ2; refine bar ?_; set_option tactic.hygienic false in intros)
    replace c1 := s1 _ _ c1
    replace c2 := s1 _ _ c2
    replace c3 := s1 _ _ c3
    clear s1 hca hsa
    have hvl : (vs.take 40).length ≤ 40 := List.length_take_le _ _
    refine ⟨.list ca (vs.take 40).toArray, rfl, ⟨_, ca1, rfl, _, rfl⟩, by simp [Src.size]; omega, fun i v => (vs.take 40)[i]? = some v, ?_, ?_⟩
    · intro X' i v mc σ3 O' hw' hE' hi hv s3
      (rw [hE] at hE'; replace hE' := hE')
      repeat k_upd
      exact ⟨by simpa [Src.item] using hv, s3⟩
    intro ys σ3 Dq k hyl hys s3 hD
    have hys' : ys = vs.take 40 := by
      refine List.ext_getElem? fun j => ?_
      rcases Nat.lt_or_ge j ys.length with hj | hj
      · rw [hys j ys[j] (List.getElem?_eq_getElem hj), List.getElem?_eq_getElem hj]
      · rw [List.getElem?_eq_none hj, List.getElem?_eq_none (by simp [Src.size] at hyl; simp; exact (Nat.le_trans (Nat.le_of_eq (Eq.symm hyl)) hj))]
    subst hys'
    have s4 : Sub σ2 (σ3.set Dq (lstOf (vs.take 40) k)) := s3.trans (.new hD)
    have hD4 : (σ3.set Dq (lstOf (vs.take 40) k)) Dq = some (lstOf (vs.take 40) k) := Led.set_self
    (generalize σ3.set Dq (lstOf (vs.take 40) k) = σ4 at *; revert σ4; refine bar ?_; set_option tactic.hygienic false in intros)
    replace c1 := s4 _ _ c1
    replace c2 := s4 _ _ c2
    replace c3 := s4 _ _ c3
    clear s4 s3 hD hys hyl ca1
    repeat k_upd
    intro t0
    repeat k_upd
    intro za hza
    refine j_add_list (Sub.new hza _ _ hD4) Led.set_self (by simp; omega) fun da hda => ?_
    have s5 : Sub σ4 ((σ4.set za (lstOf [.int 0 t0] 0)).set da (lstOf (vs.take 40 ++ [.int 0 t0]) 0)) := (Sub.new hza).trans (.new hda)
    have hDeal : Deal ((σ4.set za (lstOf [.int 0 t0] 0)).set da (lstOf (vs.take 40 ++ [.int 0 t0]) 0)) da (ns.take 40) 0 := (i3_2 (vs.take 40) ( t0) ( 0) ( Led.set_self) ( hI.take 40))
    (generalize (σ4.set za (lstOf [.int 0 t0] 0)).set da (lstOf (vs.take 40 ++ [.int 0 t0]) 0) = σ5 at *; revert σ5; refine bar ?_; set_option tactic.hygienic false in intros)
    replace c1 := s5 _ _ c1
    replace c2 := s5 _ _ c2
    replace c3 := s5 _ _ c3
    clear s5 hza hda hD4
    repeat k_upd
    intro td htd
    repeat k_upd
    intro pa hpa
    have s6 : Sub σ5 ((σ5.set td (dictOf [] 0)).set pa (tupOf [.ref da, .ref td] 0)) := (Sub.new htd).trans (.new hpa)
    have hpa6 : ((σ5.set td (dictOf [] 0)).set pa (tupOf [.ref da, .ref td] 0)) pa = some (tupOf [.ref da, .ref td] 0) := Led.set_self
    have htd6 : ((σ5.set td (dictOf [] 0)).set pa (tupOf [.ref da, .ref td] 0)) td = some (dictOf [] 0) := Sub.new hpa _ _ Led.set_self
    (generalize (σ5.set td (dictOf [] 0)).set pa (tupOf [.ref da, .ref td] 0) = σ6 at *; revert σ6; refine bar ?_; set_option tactic.hygienic false in intros)
    replace hDeal := hDeal.sub s6
    replace c1 := s6 _ _ c1
    replace c2 := s6 _ _ c2
    replace c3 := s6 _ _ c3
    clear s6 htd hpa
    refine' j_bindPairLC ?x1 ?x2 ?x3 ?x4 ?x5 ?x6 ?x7 ?x8 ?_
    case x1 => exact O
    case x2 => exact hpa6
    case x3 => exact tupO
    case x4 => k_mem
    case x5 => k_mem
    case x6 => (refine' cells_eq ?h9 ?k9; (case h9 => exact hE); (case k9 => exact rfl))
    case x7 => exact c1
    case x8 => exact d1
    intro q1 e1
    have T0 : Told σ6 td (dictOf [] 0) [] X.w [] := ⟨htd6, emptyStr, (fun l p h => by cases h), rfl, by decide, (fun x hx => by cases hx)⟩
    have n7 : NCell σ6 (σ6.set (L + 1) q1) := NCell.set c1 d1
    replace T0 := T0.nc n7
    replace hDeal := hDeal.nc n7
    replace c2 : (σ6.set (L + 1) q1) (L + 2) = some oB := by first | exact ((Led.set_ne (adN (by decide))).trans c2) | (rw [Led.set_ne (adN (by decide))]; exact c2)
    replace c3 : (σ6.set (L + 1) q1) (L + 3) = some oC := by first | exact ((Led.set_ne (adN (by decide))).trans c3) | (rw [Led.set_ne (adN (by decide))]; exact c3)
    replace c1 : (σ6.set (L + 1) q1) (L + 1) = some q1 := Led.set_self
    show J X _ _ (σ6.set (L + 1) q1) _
    clear n7 hpa6 htd6 d1
    (generalize σ6.set (L + 1) q1 = σ7 at *; revert σ7; refine bar ?_; set_option tactic.hygienic false in intros)
    repeat k_upd
    k_places
    repeat k_upd
    refine j_args4 (by exact rfl) ?_
    repeat k_upd
    intro u1
    repeat k_upd
    intro u2
    repeat k_upd
    intro u3
    repeat k_upd
    intro u4
    repeat k_upd
    intro la hla
    have s8 : Sub σ7 (σ7.set la (lstOf [.str (Str.ofString "q") u1, .str (Str.ofString "m") u2, .str (Str.ofString "t") u3, .str (Str.ofString "c") u4] 0)) := .new hla
    have hla8 : (σ7.set la (lstOf [.str (Str.ofString "q") u1, .str (Str.ofString "m") u2, .str (Str.ofString "t") u3, .str (Str.ofString "c") u4] 0)) la = some (lstOf [.str (Str.ofString "q") u1, .str (Str.ofString "m") u2, .str (Str.ofString "t") u3, .str (Str.ofString "c") u4] 0) := Led.set_self
    (generalize σ7.set la (lstOf [.str (Str.ofString "q") u1, .str (Str.ofString "m") u2, .str (Str.ofString "t") u3, .str (Str.ofString "c") u4] 0) = σ8 at *; revert σ8; refine bar ?_; set_option tactic.hygienic false in intros)
    have nla : la ≠ da := by
      rintro rfl
      (refine x2_1 hDeal.obj ?_; intro _ _ e)
      (first | exact nos (hla) e | exact nos e (hla) | (rw [hla] at e; cases e))
    replace T0 := T0.sub s8
    replace hDeal := hDeal.sub s8
    replace c1 := s8 _ _ c1
    replace c2 := s8 _ _ c2
    replace c3 := s8 _ _ c3
    clear s8 hla
    repeat k_upd
    intro u5
    repeat k_upd
    intro u6
    have hcl : (ns.take 40).length ≤ 100 := by have := List.length_take_le 40 ns; exact (Nat.le_trans this (Nat.le_of_ble_eq_true rfl))
    repeat k_upd
    refine ((spec_figure (d := 50) (b := 4) (tb := u6) hDeal hcl (by exact (Nat.zero_le _)) (by decide)).j rfl O (by exact (Nat.le_add_left _ _))).mono1 ?_
    (intro r σ9 zr1; refine x0_3 zr1 ?_; clear zr1; (intro zt2 hDeal9 f9; refine x2_2 zt2 ?_; clear zt2; intro z tz hz er3; obtain rfl := er3))
    replace T0 := T0.fmD f9 hDeal
    replace hla8 := f9 _ _ hla8 nla
    replace c1 := f9 _ _ c1 (cell_ne hDeal c1 e1)
    replace c2 := f9 _ _ c2 (cell_ne hDeal c2 d2)
    replace c3 := f9 _ _ c3 (cell_ne hDeal c3 d3)
    replace hDeal := hDeal9
    clear f9 hDeal9
    repeat k_upd
    intro t7 sb hsb
    refine j_upto (b := 1 + z) (fun s S => lstAt S (Sub.new hsb _ _ hla8) lstO) (by first | exact ((show ((1 + z : Nat) : Int) = 1 + (z : Int) from by omega).trans Led.set_self) | (rw [show ((1 + z : Nat) : Int) = 1 + (z : Int) from by omega]; exact Led.set_self)) (by simp) (by rfl) ?_
    intro lc hlc
    have s10 : Sub σ9 ((σ9.set sb (sliceObj Value.none (Value.int (1 + (z : Int)) t7))).set lc (lstOf (List.take (1 + z) [.str (Str.ofString "q") u1, .str (Str.ofString "m") u2, .str (Str.ofString "t") u3, .str (Str.ofString "c") u4]) 0)) := (Sub.new hsb).trans (.new hlc)
    have hlc10 : ((σ9.set sb (sliceObj Value.none (Value.int (1 + (z : Int)) t7))).set lc (lstOf (List.take (1 + z) [.str (Str.ofString "q") u1, .str (Str.ofString "m") u2, .str (Str.ofString "t") u3, .str (Str.ofString "c") u4]) 0)) lc = some (lstOf (List.take (1 + z) [.str (Str.ofString "q") u1, .str (Str.ofString "m") u2, .str (Str.ofString "t") u3, .str (Str.ofString "c") u4]) 0) := Led.set_self
    (generalize (σ9.set sb (sliceObj Value.none (Value.int (1 + (z : Int)) t7))).set lc (lstOf (List.take (1 + z) [.str (Str.ofString "q") u1, .str (Str.ofString "m") u2, .str (Str.ofString "t") u3, .str (Str.ofString "c") u4]) 0) = σ10 at *; revert σ10; refine bar ?_; set_option tactic.hygienic false in intros)
    have nlc : lc ≠ da := by
      rintro rfl
      (refine x2_1 hDeal.obj ?_; intro _ _ e)
      (first | exact nos (Sub.new hsb _ _ e) hlc | exact nos hlc (Sub.new hsb _ _ e) | (rw [Sub.new hsb _ _ e] at hlc; cases hlc))
    have ntd : lc ≠ td := by
      rintro rfl
      (first | exact nos (Sub.new hsb _ _ T0.htd) hlc | exact nos hlc (Sub.new hsb _ _ T0.htd) | (rw [Sub.new hsb _ _ T0.htd] at hlc; cases hlc))
    replace T0 := T0.sub s10
    replace hDeal := hDeal.sub s10
    replace c1 := s10 _ _ c1
    replace c2 := s10 _ _ c2
    replace c3 := s10 _ _ c3
    clear s10 hsb hlc hla8 nla
    have hlabs := strs_take (labs4_at (u1 := u1) (u2 := u2) (u3 := u3) (u4 := u4) rfl) (1 + z)
    (generalize List.take (1 + z) [Value.str (Str.ofString "q") u1, Value.str (Str.ofString "m") u2, Value.str (Str.ofString "t") u3, Value.str (Str.ofString "c") u4] = lv at *; revert lv; refine bar ?_; set_option tactic.hygienic false in intros)
    have hlvl : lv.length = 1 + z := by rw [strs_len hlabs, List.length_take]; show min (1 + z) 4 = 1 + z; omega
    let Iv1 : Nat → Loc → Led → Prop := fun i m' σ' => i ≤ 1 + z ∧ ∃ od kvs told q1 q2 q3 v2 spot, Told σ' td od kvs X.w told ∧ told.map (·.1) = labs4.take i ∧ Deal σ' da (ns.take 40) spot ∧ spot ≤ 1 + 6 * i ∧ (∀ x ∈ told, x.2.1.size ≤ 3 ∧ x.2.2.size ≤ 3 ∧ x.2.1.hgt ≤ 1 ∧ x.2.2.hgt ≤ 1) ∧
        σ' (L + 1) = some q1 ∧ q1.data = .cell (some (.ref td)) ∧ σ' (L + 2) = some q2 ∧ q2.data = .cell v2 ∧ σ' (L + 3) = some q3 ∧ q3.data = .cell none ∧ m' (Str.ofString "deal") = some (.ref da)
    refine ⟨.list lc lv.toArray, rfl, ⟨_, hlc10, rfl, _, rfl⟩, Iv1,
      ⟨by exact (Nat.zero_le _), _, [], [], q1, oB, oC, none, 0 + 1, T0, rfl, hDeal, by exact (Nat.le_refl _), (fun x hx => by cases hx), c1, e1, c2, d2, c3, d3, by k_mem⟩, ?_, ?_⟩
    · clear T0 hDeal c1 e1 c2 d2 c3 d3
      (intro p i v m11 σ11 O11 hil hv zt1 okS; obtain ⟨hi11, od, kvs, told, p1, p2, p3, v2, spot, T, hkeys, D, hsp, hsm, c1, d1, c2, d2, c3, d3, mda⟩ := zt1)
      have hE2 : (X.kept p).env = _ := hE
      have hvi : lv[i]? = some v := by simpa [Src.item] using hv
      (refine x2_2 (strs_at hlabs hvi) ?_; intro l tl hli er1; obtain rfl := er1)
      have hil2 : i < 1 + z := by have := get_lt hvi; exact (Nat.lt_of_lt_of_eq this hlvl)
      have hl4 : labs4[i]? = some l := by
        rw [List.getElem?_take, if_pos hil2] at hli
        exact hli
      repeat k_upd
      ((refine' j_store_cell ?aq19 ?bq19 ?cq19 ?dq19 ?eq19 ?_); (case aq19 => assumption); (case bq19 => k_mem); (case cq19 => (refine' cells_eq ?hq19 ?kq19; (case hq19 => assumption); (case kq19 => exact rfl))); (case dq19 | eq19 => assumption))
      intro r2 e2
      have n12 : NCell σ11 (σ11.set (L + 2) r2) := NCell.set c2 d2
      have okS2 : (Src.list lc lv.toArray).ok (σ11.set (L + 2) r2) := by
        obtain ⟨o, ho, hc, n, hd⟩ := okS
        exact ⟨o, n12 _ _ ho (fun v q => by (first | exact nos (hd) q | exact nos q (hd) | (rw [hd] at q; cases q))), hc, n, hd⟩
      replace T := T.nc n12
      replace D := D.nc n12
      replace c1 : (σ11.set (L + 2) r2) (L + 1) = some p1 := by first | exact ((Led.set_ne (adN (by decide))).trans c1) | (rw [Led.set_ne (adN (by decide))]; exact c1)
      replace c3 : (σ11.set (L + 2) r2) (L + 3) = some p3 := by first | exact ((Led.set_ne (adN (by decide))).trans c3) | (rw [Led.set_ne (adN (by decide))]; exact c3)
      replace c2 : (σ11.set (L + 2) r2) (L + 2) = some r2 := Led.set_self
      show J (X.kept p) _ _ (σ11.set (L + 2) r2) _
      clear n12 okS d2
      (generalize σ11.set (L + 2) r2 = σ12 at *; revert σ12; refine bar ?_; set_option tactic.hygienic false in intros)
      repeat k_upd
      refine ((spec_small (d := 50) D hcl (by omega)).j (X := X.kept p) rfl O11 (by exact (Nat.le_add_left _ _))).mono1 ?_
      (intro r1 σ13 zr1; refine x0_3 zr1 ?_; clear zr1; (intro zt2 zt3 f13; refine x1_4 zt2 ?_; clear zt2; intro ta hta1 hta2 hta3 hta; refine x1_2 zt3 ?_; clear zt3; intro j1 hj1 D1))
      have okS3 : (Src.list lc lv.toArray).ok σ13 := by
        (refine x1_2 okS2 ?_; clear okS2; intro o ho r)
        exact (i1_2 (o) ( f13 _ _ ho nlc) ( r))
      replace T := T.fmD f13 D
      replace c1 := f13 _ _ c1 (cell_ne D c1 d1)
      replace c2 := f13 _ _ c2 (cell_ne D c2 e2)
      replace c3 := f13 _ _ c3 (cell_ne D c3 d3)
      replace D := D1
      clear D1 f13 okS2
      repeat k_upd
      refine ((spec_small (d := 50) D hcl (by omega)).j (X := X.kept p) rfl O11 (by exact (Nat.le_add_left _ _))).mono ?_
      (intro r2' m14 σ14 zr1; refine x0_4 zr1 ?_; clear zr1; (intro er1 zt2 zt3 f14; obtain rfl := er1; refine x1_4 zt2 ?_; clear zt2; intro tb htb1 htb2 htb3 htb; refine x1_2 zt3 ?_; clear zt3; intro j2 hj2 D2))
      have okS4 : (Src.list lc lv.toArray).ok σ14 := by
        (refine x1_2 okS3 ?_; clear okS3; intro o ho r)
        exact (i1_2 (o) ( f14 _ _ ho nlc) ( r))
      replace hta := hta.tup (f14.tup D)
      replace T := T.fmD f14 D
      replace c1 := f14 _ _ c1 (cell_ne D c1 d1)
      replace c2 := f14 _ _ c2 (cell_ne D c2 e2)
      replace c3 := f14 _ _ c3 (cell_ne D c3 d3)
      replace D := D2
      clear D2 f14 okS3
      repeat k_upd
      intro pq hpq
      have s15 : Sub σ14 (σ14.set pq (tupOf [r1, r2'] 0)) := .new hpq
      have hpq15 : (σ14.set pq (tupOf [r1, r2'] 0)) pq = some (tupOf [r1, r2'] 0) := Led.set_self
      have okS5 : (Src.list lc lv.toArray).ok (σ14.set pq (tupOf [r1, r2'] 0)) := Src.ok_sub s15 okS4
      (generalize σ14.set pq (tupOf [r1, r2'] 0) = σ15 at *; revert σ15; refine bar ?_; set_option tactic.hygienic false in intros)
      replace hta := hta.nc s15.nc
      replace htb := htb.nc s15.nc
      replace T := T.sub s15
      replace D := D.sub s15
      replace c1 := s15 _ _ c1
      replace c2 := s15 _ _ c2
      replace c3 := s15 _ _ c3
      clear s15 hpq okS4
      have hkl : kvs.length ≤ 4 := by
        have h1 := congrArg List.length T.keys
        simp at h1
        have := T.len; exact (Nat.le_trans (Nat.le_of_eq h1) this)
      have hlen3 : told.length = i := by
        have h1 := congrArg List.length hkeys
        rw [List.length_map, List.length_take] at h1
        have : labs4.length = 4 := rfl
        omega
      have hfresh : l ∉ told.map (·.1) := by
        first | refine Mine.sb (hkeys) ?_ | rw [hkeys]
        intro hm
        obtain ⟨q, hq, he⟩ := List.getElem_of_mem hm
        rw [List.getElem_take] at he
        have hq' : q < i := by rw [List.length_take] at hq; omega
        have hi4 : i < labs4.length := get_lt hl4
        have hie : labs4[i] = l := by rw [List.getElem?_eq_getElem hi4] at hl4; exact Option.some.inj hl4
        have := (List.getElem_inj (h₀ := by exact (Nat.lt_trans hq' hi4)) (h₁ := hi4) labs4_nodup).mp (he.trans hie.symm)
        exact (Nat.lt_irrefl _ (Nat.lt_of_le_of_lt (Nat.le_of_eq (Eq.symm this)) hq'))
      repeat k_upd
      refine j_dict_set (knd := PySem.strKind PR X.w) (X := X.kept p) (k := l) T.htd T.hod (strKind_is _ _ _ _) (by exact (Nat.le_trans hkl (Nat.le_of_ble_eq_true rfl))) fun od' hod' => ?_
      have T' := T.add (t := ta) (u := tb) hfresh (by omega) hpq15 hta htb ⟨hta1, htb1, by exact (Nat.le_trans hta2 (Nat.le_of_ble_eq_true rfl)), by exact (Nat.le_trans htb2 (Nat.le_of_ble_eq_true rfl)), by exact (Nat.le_trans hta3 (Nat.le_of_ble_eq_true rfl)), by exact (Nat.le_trans htb3 (Nat.le_of_ble_eq_true rfl))⟩ T.htd hod'
      have hcls := IsDictOf.cls T.hod
      have nc : ∀ {c : Addr} {oc : Obj} {v : Option Value}, σ15 c = some oc → oc.data = .cell v → c ≠ td := fun e q h => by
        subst h; (first | exact nos (T.htd) e | exact nos e (T.htd) | (rw [T.htd] at e; cases e)); exact IsDictOf.nocell T.hod _ q
      have nd : da ≠ td := by
        rintro rfl
        (refine x2_1 D.obj ?_; intro _ _ e)
        have := T.htd
        (first | exact nos (e) this | exact nos this (e) | (rw [e] at this; cases this))
        exact absurd (show Value.type "list" = Value.type "dict" from hcls) (by decide)
      repeat k_upd
      have hl4' : labs4.take (i + 1) = labs4.take i ++ [l] := by rw [List.take_add_one, hl4]; rfl
      refine ⟨⟨by exact hil2, od', _, _, p1, r2, p3, _, spot + j1 + j2, T', by rw [List.map_append, hkeys, hl4']; rfl, ?_, ?_, ?_, by first | exact ((Led.set_ne (nc c1 d1)).trans c1) | (rw [Led.set_ne (nc c1 d1)]; exact c1), d1, by first | exact ((Led.set_ne (nc c2 e2)).trans c2) | (rw [Led.set_ne (nc c2 e2)]; exact c2), e2, by first | exact ((Led.set_ne (nc c3 d3)).trans c3) | (rw [Led.set_ne (nc c3 d3)]; exact c3), d3, by k_mem⟩, ?_⟩
      · (refine x3_2 D ?_; clear D; intro dv dt dn h1 h2)
        exact (i3_2 (dv) ( dt) ( dn) ( by first | exact ((Led.set_ne nd).trans h1) | (rw [Led.set_ne nd]; exact h1)) ( h2))
      · omega
      · intro x hx
        rcases List.mem_append.mp hx with hx | hx
        · exact hsm x hx
        · simp only [List.mem_singleton] at hx
          subst hx
          exact (i0_4 (hta2) ( htb2) ( hta3) ( htb3))
      · (refine x1_2 okS5 ?_; clear okS5; intro o ho r)
        exact (i1_2 (o) ( by first | exact ((Led.set_ne ntd).trans ho) | (rw [Led.set_ne ntd]; exact ho)) ( r))
    · (intro m11 σ11 zt1 okS; obtain ⟨hi11, od, kvs, told, p1, p2, p3, v2, spot, T, hkeys, D, hsp, hsm, c1', d1, c2', d2', c3', d3', mda⟩ := zt1)
      have hszl : (Src.list lc lv.toArray).size = 1 + z := by simp [Src.size, hlvl]
      rw [hszl] at hkeys hsp
      clear T0 hDeal c1 e1 c2 d2 c3 d3 okS hlc10 hlabs nlc ntd
      repeat k_upd
      intro t8
      refine ((spec_figure (d := 50) (b := 3) (tb := t8) D hcl (by omega) (by decide)).j rfl O (by exact (Nat.le_add_left _ _))).mono1 ?_
      (intro r σ12 zr1; refine x0_3 zr1 ?_; clear zr1; (intro zt2 D12 f12; refine x2_2 zt2 ?_; clear zt2; intro way tw hway er3; obtain rfl := er3))
      replace T := T.fmD f12 D
      have c1 := f12 _ _ c1' (cell_ne D c1' d1)
      have c2 := f12 _ _ c2' (cell_ne D c2' d2')
      have c3 := f12 _ _ c3' (cell_ne D c3' d3')
      replace D := D12
      clear c1' c2' c3' D12 f12
      have hlq : ∃ p, (Str.ofString "q", p) ∈ told := by
        cases hc : told with
        | nil =>
          rw [hc] at hkeys
          have := congrArg List.length hkeys
          rw [List.length_take] at this
          have h4 : labs4.length = 4 := rfl
          simp at this; omega
        | cons x r =>
          have h1 : (told.map (·.1))[0]? = (labs4.take (1 + z))[0]? := by rw [hkeys]
          rw [hc, List.getElem?_take, if_pos (by omega)] at h1
          have h2 : x.1 = Str.ofString "q" := by simpa [labs4] using h1
          exact ⟨x.2, by rw [← h2]; exact .head _⟩
      (refine x1_1 hlq ?_; clear hlq; intro p hpm)
      (refine x4_4 (T.htold _ _ hpm) ?_; intro pa2 v1 v2' np hval hpa2 ht1 hu1)
      have hpok := T.ok _ hpm
      have hps : p.1.size ≤ 3 ∧ p.2.size ≤ 3 ∧ p.1.hgt ≤ 1 ∧ p.2.hgt ≤ 1 := hsm _ hpm
      repeat k_upd
      intro t9
      refine j_tail_dict (k := Str.ofString "q") T.htd T.hod (strKind_is _ _ _ _) hval (by rfl) ?_
      repeat k_upd
      intro pw hpw
      have s13 : Sub σ12 (σ12.set pw (tupOf [.int (way : Nat) tw, .ref pa2] 0)) := .new hpw
      have hpw13 : (σ12.set pw (tupOf [.int (way : Nat) tw, .ref pa2] 0)) pw = some (tupOf [.int (way : Nat) tw, .ref pa2] 0) := Led.set_self
      (generalize σ12.set pw (tupOf [.int (way : Nat) tw, .ref pa2] 0) = σ13b at *; revert σ13b; refine bar ?_; set_option tactic.hygienic false in intros)
      replace T := T.sub s13
      replace D := D.sub s13
      replace c1 := s13 _ _ c1
      replace c2 := s13 _ _ c2
      replace c3 := s13 _ _ c3
      replace hpa2 := s13 _ _ hpa2
      replace ht1 := ht1.nc s13.nc
      replace hu1 := hu1.nc s13.nc
      clear s13 hpw
      refine' j_bindNest ?y1 ?y2 ?y3 ?y4 ?y5 ?y6 ?_
      case y1 => exact O
      case y2 => exact hpw13
      case y3 => exact hpa2
      case y4 => k_mem
      case y5 => k_mem
      case y6 => k_mem
      show J X _ _ σ13b _
      refine j_execs_cons (J.mono (Q := fun f m' σ' => f = .next ∧ ∃ tt uu vt vu, TmT σ' tt vt ∧ TmT σ' uu vu ∧ (tt.ok = true ∧ tt.size ≤ 10 ∧ tt.hgt ≤ 4) ∧ (uu.ok = true ∧ uu.size ≤ 10 ∧ uu.hgt ≤ 4) ∧
        m' (Str.ofString "t") = some vt ∧ m' (Str.ofString "u") = some vu ∧ Told σ' td od kvs X.w told ∧ σ' (L + 1) = some p1 ∧ σ' (L + 2) = some p2 ∧ σ' (L + 3) = some p3) ?_ ?_)
      · repeat k_upd
        intro t10
        repeat k_upd
        by_cases hw1 : way = 1
        · subst hw1
          refine Mine.sb (show (((1 : Nat) : Int) == 1) = true by decide) ?_
          repeat k_upd
          intro tf1
          repeat k_upd
          intro a1 ha1
          repeat k_upd
          intro tf2
          repeat k_upd
          intro a2 ha2
          repeat k_upd
          intro pt hpt
          refine j_unpackItems_tup O Led.set_self tupO (by rfl) ?_
          refine j_bindSwap2 (x := Str.ofString "t") (y := Str.ofString "u") O (by k_mem) (by k_mem) ?_
          have s14 : Sub σ13b ((σ13b.set a1 (tupOf [.str (Str.ofString "f") tf1, v1] 0)).set a2 (tupOf [.str (Str.ofString "f") tf2, v2'] 0)) := (Sub.new ha1).trans (.new ha2)
          have g1 : ((σ13b.set a1 (tupOf [.str (Str.ofString "f") tf1, v1] 0)).set a2 (tupOf [.str (Str.ofString "f") tf2, v2'] 0)) a1 = some (tupOf [.str (Str.ofString "f") tf1, v1] 0) := Sub.new ha2 _ _ Led.set_self
          have g2 : ((σ13b.set a1 (tupOf [.str (Str.ofString "f") tf1, v1] 0)).set a2 (tupOf [.str (Str.ofString "f") tf2, v2'] 0)) a2 = some (tupOf [.str (Str.ofString "f") tf2, v2'] 0) := Led.set_self
          have s15 := Sub.new (o := tupOf [.ref a1, .ref a2] 0) hpt
          have s16 := s14.trans s15
          exact ⟨rfl, .un 102 p.1, .un 102 p.2, .ref a1, .ref a2, (i4_3 (a1) ( 0) ( tf1) ( v1) ( rfl) ( s15 _ _ g1) ( ht1.nc s16.nc)), (i4_3 (a2) ( 0) ( tf2) ( v2') ( rfl) ( s15 _ _ g2) ( hu1.nc s16.nc)),
            (i0_3 (by simp [Tm.ok, hpok.1]; decide) ( by simp [Tm.size]; exact (Nat.le_trans hps.1 (Nat.le_of_ble_eq_true rfl))) ( by simp [Tm.hgt]; exact (Nat.le_trans hps.2.2.1 (Nat.le_of_ble_eq_true rfl)))), (i0_3 (by simp [Tm.ok, hpok.2.1]; decide) ( by simp [Tm.size]; exact (Nat.le_trans hps.2.1 (Nat.le_of_ble_eq_true rfl))) ( by simp [Tm.hgt]; exact (Nat.le_trans hps.2.2.2 (Nat.le_of_ble_eq_true rfl)))),
            by k_mem, by k_mem, T.sub s16, s16 _ _ c1, s16 _ _ c2, s16 _ _ c3⟩
        · refine Mine.sb (show ((way : Int) == 1) = false by rw [beq_eq_false_iff_ne]; omega) ?_
          repeat k_upd
          intro t11
          repeat k_upd
          by_cases hw2 : way = 2
          · subst hw2
            refine Mine.sb (show (((2 : Nat) : Int) == 2) = true by decide) ?_
            repeat k_upd
            refine ((spec_small (d := 50) D hcl (by omega)).j rfl O (by exact (Nat.le_add_left _ _))).mono1 ?_
            (intro r1 σ14 zr1; refine x0_3 zr1 ?_; clear zr1; (intro zt2 zt3 f14; refine x1_4 zt2 ?_; clear zt2; intro ta hta1 hta2 hta3 hta; refine x1_2 zt3 ?_; clear zt3; intro j1 hj1 D1))
            replace T := T.fmD f14 D
            replace c1 := f14 _ _ c1 (cell_ne D c1 d1)
            replace c2 := f14 _ _ c2 (cell_ne D c2 d2')
            replace c3 := f14 _ _ c3 (cell_ne D c3 d3')
            replace D := D1
            repeat k_upd
            refine ((spec_small (d := 50) D hcl (by omega)).j rfl O (by exact (Nat.le_add_left _ _))).mono1 ?_
            (intro r2 σ15 zr1; refine x0_3 zr1 ?_; clear zr1; (intro zt2 zt3 f15; refine x1_4 zt2 ?_; clear zt2; intro tb htb1 htb2 htb3 htb; refine x1_2 zt3 ?_; clear zt3; intro j2 hj2 D2))
            replace hta := hta.tup (f15.tup D)
            replace T := T.fmD f15 D
            replace c1 := f15 _ _ c1 (cell_ne D c1 d1)
            replace c2 := f15 _ _ c2 (cell_ne D c2 d2')
            replace c3 := f15 _ _ c3 (cell_ne D c3 d3')
            repeat k_upd
            intro pt hpt
            refine j_unpackItems_tup O Led.set_self tupO (by rfl) ?_
            refine j_bindSwap2 (x := Str.ofString "t") (y := Str.ofString "u") O (by k_mem) (by k_mem) ?_
            have s16 := Sub.new (o := tupOf [r1, r2] 0) hpt
            exact ⟨rfl, ta, tb, r1, r2, hta.nc s16.nc, htb.nc s16.nc, (i0_3 (hta1) ( by exact (Nat.le_trans hta2 (Nat.le_of_ble_eq_true rfl))) ( by exact (Nat.le_trans hta3 (Nat.le_of_ble_eq_true rfl)))), (i0_3 (htb1) ( by exact (Nat.le_trans htb2 (Nat.le_of_ble_eq_true rfl))) ( by exact (Nat.le_trans htb3 (Nat.le_of_ble_eq_true rfl)))), by k_mem, by k_mem, T.sub s16, s16 _ _ c1, s16 _ _ c2, s16 _ _ c3⟩
          · refine Mine.sb (show ((way : Int) == 2) = false by rw [beq_eq_false_iff_ne]; omega) ?_
            repeat k_upd
            exact ⟨rfl, p.1, p.2, v1, v2', ht1, hu1, (i0_3 (hpok.1) ( hpok.2.2.1) ( hpok.2.2.2.2.1)), (i0_3 (hpok.2.1) ( hpok.2.2.2.1) ( hpok.2.2.2.2.2)), by k_mem, by k_mem, T, c1, c2, c3⟩
      · (intro fl m16 σ16 zt1; obtain ⟨rfl, tt, uu, vt, vu, htt, huu, httok, huuok, mt, mu, T6, c16, c26, c36⟩ := zt1)
        clear hsp D T c1 c2 c3 ht1 hu1 hpa2 hpw13 hval mda
        repeat k_upd
        (refine' j_Assign_Tuple_swapped3 ?_ ?kq77 ?lq77; rotate_left; (case kq77 | lq77 => k_mem))
        repeat k_upd
        have hkl : kvs.length ≤ 4 := by
          have h1 := congrArg List.length T6.keys
          simp at h1
          have := T6.len; exact (Nat.le_trans (Nat.le_of_eq h1) this)
        refine j_sorted_dict O T6.htd T6.hod (by exact (Nat.lt_of_le_of_lt hkl (Nat.le_of_ble_eq_true rfl))) fun a1 lvs ss e ha1 hlvs hperm hsort => ?_
        have s17 : Sub σ16 (σ16.set a1 (lstOf lvs e)) := .new ha1
        have ha17 : (σ16.set a1 (lstOf lvs e)) a1 = some (lstOf lvs e) := Led.set_self
        (generalize σ16.set a1 (lstOf lvs e) = σ17 at *; revert σ17; refine bar ?_; set_option tactic.hygienic false in intros)
        replace T6 := T6.sub s17
        replace htt := htt.nc s17.nc
        replace huu := huu.nc s17.nc
        replace c16 := s17 _ _ c16
        replace c26 := s17 _ _ c26
        replace c36 := s17 _ _ c36
        clear s17 ha1
        repeat k_upd
        refine j_dict_of O T6.htd T6.hod (by exact (Nat.le_trans hkl (Nat.le_of_ble_eq_true rfl))) fun wd ow hwd how => ?_
        have s18 : Sub σ17 (σ17.set wd ow) := .new hwd
        have hwd18 : (σ17.set wd ow) wd = some ow := Led.set_self
        (generalize σ17.set wd ow = σ18 at *; revert σ18; refine bar ?_; set_option tactic.hygienic false in intros)
        replace T6 := T6.sub s18
        replace htt := htt.nc s18.nc
        replace huu := huu.nc s18.nc
        replace c16 := s18 _ _ c16
        replace c26 := s18 _ _ c26
        replace c36 := s18 _ _ c36
        replace ha17 := s18 _ _ ha17
        clear s18 hwd
        repeat k_upd
        intro pt hpt
        refine j_unpackItems_tup O Led.set_self tupO (by rfl) ?_
        have s19 := Sub.new (o := tupOf [.ref a1, .none, .ref wd] 0) hpt
        replace T6 := T6.sub s19
        replace htt := htt.nc s19.nc
        replace huu := huu.nc s19.nc
        replace c16 := s19 _ _ c16
        replace c26 := s19 _ _ c26
        replace c36 := s19 _ _ c36
        replace ha17 := s19 _ _ ha17
        replace hwd18 := s19 _ _ hwd18
        clear s19 hpt
        (generalize σ18.set pt (tupOf [.ref a1, .none, .ref wd] 0) = σ19 at *; revert σ19; refine bar ?_; set_option tactic.hygienic false in intros)
        refine j_bindSwap3 (x := Str.ofString "labels") (y := Str.ofString "due") (z := Str.ofString "was") O (by k_mem) (by k_mem) (by k_mem) ?_
        have hpk : ss.Perm (told.map (·.1)) := by rw [← T6.keys]; exact hperm
        have hnd : ss.Nodup := hpk.nodup_iff.mpr (by first | exact ((hkeys).trans ((List.take_sublist _ _).nodup labs4_nodup)) | (rw [hkeys]; exact (List.take_sublist _ _).nodup labs4_nodup))
        have hsl : ss.length = 1 + z := by
          rw [hpk.length_eq, hkeys, List.length_take]
          show min (1 + z) 4 = 1 + z
          omega
        have hsmem : ∀ x ∈ ss, x ∈ told.map (·.1) := fun x hx => hpk.mem_iff.mp hx
        have hsok : ∀ x ∈ ss, PyData.strOk x = true := fun x hx => labs4_ok x (List.mem_of_mem_take (by rw [← hkeys]; exact hsmem x hx))
        have hlvl2 : lvs.length = 1 + z := by rw [strs_len hlvs, hsl]
        clear hperm hlvl
        repeat k_upd
        k_places
        repeat k_upd
        intro t20
        repeat k_upd
        refine j_len_list ha17 (by omega) fun t21 => ?_
        repeat k_upd
        refine j_powN (by omega) fun t22 => ?_
        repeat k_upd
        refine j_range fun ra t23 t24 hra => ?_
        have hpw : 2 ^ lvs.length ≤ 16 := by
          first | refine Mine.sb (hlvl2) ?_ | rw [hlvl2]
          have : z = 0 ∨ z = 1 ∨ z = 2 ∨ z = 3 := by omega
          rcases this with rfl | rfl | rfl | rfl <;> decide
        have s20 := Sub.new (o := { cls := .type "range", data := .fields #[.int 0 t23, .int (2 ^ lvs.length : Nat) t22, .int 1 t24] }) hra
        have hra20 : (σ19.set ra { cls := .type "range", data := .fields #[.int 0 t23, .int (2 ^ lvs.length : Nat) t22, .int 1 t24] }) ra = some { cls := .type "range", data := .fields #[.int 0 t23, .int (2 ^ lvs.length : Nat) t22, .int 1 t24] } := Led.set_self
        replace T6 := T6.sub s20
        replace htt := htt.nc s20.nc
        replace huu := huu.nc s20.nc
        replace c16 := s20 _ _ c16
        replace c26 := s20 _ _ c26
        replace c36 := s20 _ _ c36
        replace ha17 := s20 _ _ ha17
        replace hwd18 := s20 _ _ hwd18
        clear s20 hra
        (generalize σ19.set ra { cls := .type "range", data := .fields #[.int 0 t23, .int (2 ^ lvs.length : Nat) t22, .int 1 t24] } = σ20 at *; revert σ20; refine bar ?_; set_option tactic.hygienic false in intros)
        have hmono : ∀ A B : List Str, (∀ x ∈ A, x ∈ B) → Ent (A.map (eqOf told)) tt uu → Ent (B.map (eqOf told)) tt uu := fun A B h he => he.mono fun p hp => by
          (refine x1_2 (List.mem_map.mp hp) ?_; intro x hx er1; obtain rfl := er1)
          exact List.mem_map.mpr (i1_2 (x) ( h x hx) ( rfl))
        let Iv2 : Nat → Loc → Led → Prop := fun i m' σ' => i ≤ 2 ^ lvs.length ∧ NCell σ20 σ' ∧ (∃ q3 v3, σ' (L + 3) = some q3 ∧ q3.data = .cell v3) ∧ σ' (L + 1) = some p1 ∧ σ' (L + 2) = some p2 ∧
            m' (Str.ofString "labels") = some (.ref a1) ∧ m' (Str.ofString "was") = some (.ref wd) ∧ m' (Str.ofString "t") = some vt ∧ m' (Str.ofString "u") = some vu ∧ ∃ dv, m' (Str.ofString "due") = some dv ∧ DueI (fun A => Ent (A.map (eqOf told)) tt uu) ss i dv σ'
        refine ⟨.range ra (2 ^ lvs.length), rfl, ⟨by exact (Nat.lt_of_le_of_lt hpw (Nat.le_of_ble_eq_true rfl)), _, hra20, _, _, _, rfl⟩, Iv2,
          ⟨Nat.zero_le _, .refl, (i2_2 (p3) ( _) ( c36) ( d3')), c16, c26, by k_mem, by k_mem, by k_mem, by k_mem, .none, by k_mem, .inl ⟨rfl, fun q hq => absurd hq (Nat.not_lt_zero _)⟩⟩, ?_, ?_⟩
        · (intro p i v m21 σ21 O21 hil zt1 zt3 zt4; refine x1_1 zt1 ?_; clear zt1; intro tn er2; obtain rfl := er2; obtain ⟨hi21, n21, ⟨q3, v3, c3, d3⟩, c1, c2, ml, mw, mt2, mu2, dv, md, hdue⟩ := zt3; obtain ⟨_, orr, horr, t1', t2', t3', rfl⟩ := zt4)
          have hE2 : (X.kept p).env = _ := hE
          have hil2 : i < 2 ^ lvs.length := hil
          have hi16 : i < 16 := by exact (Nat.lt_of_lt_of_le hil2 hpw)
          repeat k_upd
          ((refine' j_store_cell ?aq20 ?bq20 ?cq20 ?dq20 ?eq20 ?_); (case aq20 => assumption); (case bq20 => k_mem); (case cq20 => (refine' cells_eq ?hq20 ?kq20; (case hq20 => assumption); (case kq20 => exact rfl))); (case dq20 | eq20 => assumption))
          intro r3 e3
          have n22 : NCell σ21 (σ21.set (L + 3) r3) := NCell.set c3 d3
          have hrr : (σ21.set (L + 3) r3) ra = _ := n22 _ _ horr (fun v q => by cases q)
          replace hdue := hdue.nc n22
          replace n21 := n21.trans n22
          replace c1 : (σ21.set (L + 3) r3) (L + 1) = some p1 := by first | exact ((Led.set_ne (adN (by decide))).trans c1) | (rw [Led.set_ne (adN (by decide))]; exact c1)
          replace c2 : (σ21.set (L + 3) r3) (L + 2) = some p2 := by first | exact ((Led.set_ne (adN (by decide))).trans c2) | (rw [Led.set_ne (adN (by decide))]; exact c2)
          replace c3 : (σ21.set (L + 3) r3) (L + 3) = some r3 := Led.set_self
          show J (X.kept p) _ _ (σ21.set (L + 3) r3) _
          clear n22 d3 horr
          (generalize σ21.set (L + 3) r3 = σ22 at *; revert σ22; refine bar ?_; set_option tactic.hygienic false in intros)
          have T22 := T6.nc n21
          have htt22 := htt.nc n21
          have huu22 := huu.nc n21
          have ha22 := n21.lst ha17
          repeat k_upd
          ((refine' j_ListCompE ?aq22 ?bq22 ?cq22 ?dq22 ?eq22 ?fq22 ?gq22 ?hq22 ?iq22 ?jq22 ?kq22 ?lq22 ?_); (case aq22 => assumption); (case bq22 => k_mem); (case cq22 => decide); (case dq22 => exact rfl); (case eq22 | fq22 | gq22 => decide); (case hq22 => k_mem); (case iq22 | jq22 => exact rfl); (case kq22 => k_mem); (case lq22 => k_is))
          repeat k_upd
          refine ⟨a1, lvs, _, rfl, ha22, lstO, fun j ys σ' => j ≤ lvs.length ∧ StrsAre ys (lotN (ss.take j) i) ∧ Sub σ22 σ', (i0_3 (Nat.zero_le _) ( .nil) ( .refl)), fun j ys σ' h => ?_, ?_, ?_⟩
          · first | refine Mine.sb (strs_len h.2.1) ?_ | rw [strs_len h.2.1]
            have := lotN_len (ss.take j) i
            rw [List.length_take] at this
            omega
          · (intro X' j v tk ys mc σ23 O23 hw23 hE23 hv zt1 hol23; refine x0_3 zt1 ?_; clear zt1; intro hj23 hy23 s23)
            rw [hE2] at hE23
            (refine x2_2 (strs_at hlvs hv) ?_; intro l tl hlj er1; obtain rfl := er1)
            have hjl : j < lvs.length := get_lt hv
            have k3 := s23 _ _ c3
            have hsucc := lotN_take_succ ss i j l hlj
            repeat k_upd
            intro t25
            repeat k_upd
            refine j_powN (by omega) fun t26 => ?_
            refine j_bit (by exact (Nat.lt_of_lt_of_le hi16 (Nat.le_of_ble_eq_true rfl))) (by omega) fun t27 => ?_
            repeat k_upd
            intro t28
            refine j_mod2 fun t29 => ?_
            repeat k_upd
            intro t30
            repeat k_upd
            by_cases hb : i / 2 ^ j % 2 = 1
            · refine Mine.sb (show (((i / 2 ^ j % 2 : Nat) : Int) == 1) = true by rw [hb]; decide) ?_
              repeat k_upd
              refine ⟨(i0_3 (by exact hjl) ( ?_) ( s23)), hol23⟩
              rw [hsucc, if_pos hb]
              exact strs_snoc hy23 _ _
            · refine Mine.sb (show (((i / 2 ^ j % 2 : Nat) : Int) == 1) = false by rw [beq_eq_false_iff_ne]; omega) ?_
              repeat k_upd
              refine ⟨(i0_3 (by exact hjl) ( ?_) ( s23)), hol23⟩
              rw [hsucc, if_neg hb, List.append_nil]
              exact hy23
          · (intro ys σ23 D kD zr1 hol23 hD; refine x0_3 zr1 ?_; clear zr1; intro _ hy23 s23)
            rw [show ss.take lvs.length = ss by rw [hlvl2, ← hsl, List.take_length]] at hy23
            have s24 : Sub σ22 (σ23.set D (lstOf ys kD)) := s23.trans (.new hD)
            have hD24 : (σ23.set D (lstOf ys kD)) D = some (lstOf ys kD) := Led.set_self
            show J (X.kept p) (call (Value.type "tuple") [Value.ref D]) _ (σ23.set D (lstOf ys kD)) _
            clear s23 hol23 hD
            (generalize σ23.set D (lstOf ys kD) = σ24 at *; revert σ24; refine bar ?_; set_option tactic.hygienic false in intros)
            have hyl : ys.length ≤ 4 := by
              first | refine Mine.sb (strs_len hy23) ?_ | rw [strs_len hy23]
              have := lotN_len ss i; omega
            refine j_tuple_list hD24 (by exact (Nat.le_trans hyl (Nat.le_of_ble_eq_true rfl))) fun lt hlt => ?_
            have s25 : Sub σ22 (σ24.set lt (tupOf ys 0)) := s24.trans (.new hlt)
            have hlt25 : (σ24.set lt (tupOf ys 0)) lt = some (tupOf ys 0) := Led.set_self
            clear s24 hD24 hlt
            (generalize σ24.set lt (tupOf ys 0) = σ25 at *; revert σ25; refine bar ?_; set_option tactic.hygienic false in intros)
            replace hdue := hdue.nc s25.nc
            replace n21 := n21.trans s25.nc
            replace c1 := s25 _ _ c1
            replace c2 := s25 _ _ c2
            replace c3 := s25 _ _ c3
            replace hrr := s25 _ _ hrr
            replace T22 := T22.sub s25
            replace htt22 := htt22.nc s25.nc
            replace huu22 := huu22.nc s25.nc
            clear s25 ha22
            repeat k_upd
            have hLm : ∀ x ∈ lotN ss i, x ∈ told.map (·.1) := fun x hx => hsmem x (lotN_sub _ _ x hx)
            rcases hdue with zr1 | zr1
            · (refine x0_2 zr1 ?_; clear zr1; intro er1 hno; obtain rfl := er1)
              refine Mine.sb (show (Value.none == Value.none) = true from rfl) ?_
              repeat k_upd
              ((refine' j_ListComp ?aq18 ?bq18 ?cq18 ?dq18 ?eq18 ?fq18 ?_); (case aq18 => assumption); (case bq18 => k_mem); (case cq18 => decide); (case dq18 => exact rfl); (case eq18 => decide); (case fq18 => k_mem))
              repeat k_upd
              let Iv3 : Nat → List Value → Loc → Led → Prop := fun j zs _ σ' => j ≤ ys.length ∧ PrV σ' zs (((lotN ss i).take j).map (eqOf told)) ∧ Sub σ25 σ'
              refine ⟨.tup lt ys.toArray, rfl, ⟨_, hlt25, rfl, _, rfl⟩, Iv3, (i0_3 (Nat.zero_le _) ( PrV.nil) ( .refl)), fun j zs _ σ' h => ?_, ?_, ?_⟩
              · have h1 := h.2.1.1
                rw [List.length_map, List.length_take] at h1
                omega
              · (intro X' j v zs mc σ26 O26 hw26 hE26 hj hv zt1 ok26; refine x0_3 zt1 ?_; clear zt1; intro hj26 hz26 s26)
                rw [hE2] at hE26
                have hvj : ys[j]? = some v := by simpa [Src.item] using hv
                (refine x2_2 (strs_at hy23 hvj) ?_; intro l tl hlj er1; obtain rfl := er1)
                have hjl := get_lt hvj
                have hlm := hLm l (List.mem_of_getElem? hlj)
                (refine x4_4 (T22.htold l (eqOf told l) (eqOf_mem hlm)) ?_; intro pa3 x1 x2 n3 hval3 hpa3 hx1 hx2)
                have k1 := s26 _ _ c1
                have T26 := T22.sub s26
                have hw27 : X'.w = X.w := hw26
                have hod26 := T26.hod
                rw [← hw27] at hod26
                repeat k_upd
                refine j_tail_dict (k := l) T26.htd hod26 (strKind_is _ _ _ _) hval3 (by rfl) ?_
                repeat k_upd
                refine ⟨(i0_3 (by exact hjl) ( ?_) ( s26)), ok26⟩
                rw [List.take_add_one, hlj, List.map_append]
                exact hz26.snoc (s26 _ _ hpa3) (hx1.nc s26.nc) (hx2.nc s26.nc)
              · (intro zs mc σ26 D kD zr1 _ hD; refine x0_3 zr1 ?_; clear zr1; intro _ hz26 s26)
                have hszy : (Src.tup lt ys.toArray).size = (lotN ss i).length := by simp [Src.size, strs_len hy23]
                rw [hszy, List.take_length] at hz26
                have s27 : Sub σ25 (σ26.set D (lstOf zs kD)) := s26.trans (.new hD)
                have hP27 : PairsT (σ26.set D (lstOf zs kD)) D ((lotN ss i).map (eqOf told)) := (i2_2 (zs) ( kD) ( Led.set_self) ( hz26.nc (Sub.new hD).nc))
                show J (X.kept p) _ _ (σ26.set D (lstOf zs kD)) _
                clear s26 hz26 hD
                (generalize σ26.set D (lstOf zs kD) = σ27 at *; revert σ27; refine bar ?_; set_option tactic.hygienic false in intros)
                replace n21 := n21.trans s27.nc
                replace c1 := s27 _ _ c1
                replace c2 := s27 _ _ c2
                replace c3 := s27 _ _ c3
                replace hrr := s27 _ _ hrr
                replace hlt25 := s27 _ _ hlt25
                replace htt22 := htt22.nc s27.nc
                replace huu22 := huu22.nc s27.nc
                have htg : tt.good := ⟨httok.1, by exact (Nat.le_trans httok.2.2 (Nat.le_of_ble_eq_true rfl))⟩
                have hug : uu.good := ⟨huuok.1, by exact (Nat.le_trans huuok.2.2 (Nat.le_of_ble_eq_true rfl))⟩
                have hEg : ∀ q ∈ (lotN ss i).map (eqOf told), q.1.good ∧ q.2.good ∧ q.1.size ≤ 10 ∧ q.2.size ≤ 10 := fun q hq => by
                  (refine x1_2 (List.mem_map.mp hq) ?_; intro l hl er1; obtain rfl := er1)
                  have := T6.ok _ (eqOf_mem (hLm l hl))
                  exact (i0_4 (⟨this.1, Nat.le_trans this.2.2.2.2.1 (by decide)⟩) ( ⟨this.2.1, Nat.le_trans this.2.2.2.2.2 (by decide)⟩) ( this.2.2.1) ( this.2.2.2.1))
                have hsz900 : sizes (tt :: uu :: sidesOf ((lotN ss i).map (eqOf told))) ≤ 900 := by
                  have h1 := sizes_le (b := 10) (l := tt :: uu :: sidesOf ((lotN ss i).map (eqOf told))) (fun x hx => by
                    rcases List.mem_cons.mp hx with rfl | hx
                    · exact httok.2.1
                    rcases List.mem_cons.mp hx with rfl | hx
                    · exact huuok.2.1
                    (refine x1_2 (mem_sidesOf.mp hx) ?_; rintro q hq (rfl | rfl))
                    · exact (hEg q hq).2.2.1
                    · exact (hEg q hq).2.2.2)
                  have h2 := sidesOf_len ((lotN ss i).map (eqOf told))
                  rw [List.length_map] at h2
                  have h3 := lotN_len ss i
                  simp only [List.length_cons] at h1
                  omega
                repeat k_upd
                refine ((spec_arelike (d := 40) hP27 htt22 huu22 htg hug (fun q hq => ⟨(hEg q hq).1, (hEg q hq).2.1⟩) hsz900).j (X := X.kept p) rfl O21 (by exact (Nat.le_add_left _ _))).mono1 ?_
                (intro r σ28 zr1; refine x0_2 zr1 ?_; clear zr1; (intro zt2 s28; refine x1_2 zt2 ?_; clear zt2; intro c er3 hc; obtain rfl := er3))
                have n28 := n21.trans s28.nc
                have hrr28 := s28 _ _ hrr
                have hlt28 := s28 _ _ hlt25
                repeat k_upd
                cases c with
                | true =>
                  repeat k_upd
                  exact ⟨⟨by exact hil2, n28, (i2_2 (r3) ( _) ( s28 _ _ c3) ( e3)), s28 _ _ c1, s28 _ _ c2, by k_mem, by k_mem, by k_mem, by k_mem, .ref lt, by k_mem, .inr (i4_6 (lt) ( ys) ( 0) ( i) ( rfl) ( hlt28) ( hy23) ( Nat.lt_succ_self _) ( hc.mp rfl) ( hno))⟩, ⟨by exact (Nat.lt_of_le_of_lt hpw (Nat.le_of_ble_eq_true rfl)), _, hrr28, _, _, _, rfl⟩⟩
                | false =>
                  repeat k_upd
                  exact ⟨⟨by exact hil2, n28, (i2_2 (r3) ( _) ( s28 _ _ c3) ( e3)), s28 _ _ c1, s28 _ _ c2, by k_mem, by k_mem, by k_mem, by k_mem, .none, by k_mem, .inl ⟨rfl, fun q hq hPq => by
                    rcases Nat.lt_succ_iff_lt_or_eq.mp hq with h | rfl
                    · exact hno q h hPq
                    · exact absurd (hc.mpr hPq) (by decide)⟩⟩, ⟨by exact (Nat.lt_of_le_of_lt hpw (Nat.le_of_ble_eq_true rfl)), _, hrr28, _, _, _, rfl⟩⟩
            · (refine x4_6 zr1 ?_; clear zr1; intro da2 dvs dk q er1 hda2 hdvs hqi hPq hleast; obtain rfl := er1)
              refine Mine.sb (show (Value.ref da2 == Value.none) = false from rfl) ?_
              repeat k_upd
              exact ⟨⟨by exact hil2, n21, (i2_2 (r3) ( _) ( c3) ( e3)), c1, c2, by k_mem, by k_mem, by k_mem, by k_mem, .ref da2, by k_mem, .inr (i4_6 (da2) ( dvs) ( dk) ( q) ( rfl) ( hda2) ( hdvs) ( by exact (Nat.lt_of_lt_of_le hqi (Nat.le_add_right _ _))) ( hPq) ( hleast))⟩, ⟨by exact (Nat.lt_of_le_of_lt hpw (Nat.le_of_ble_eq_true rfl)), _, hrr, _, _, _, rfl⟩⟩
        · (intro m21 σ21 zt1 _; obtain ⟨hi21, n21, ⟨q3, v3, c3, d3⟩, c1, c2, ml, mw, mt2, mu2, dv, md, hdue⟩ := zt1)
          clear c16 c26 c36
          have T21 := T6.nc n21
          have htt21 := htt.nc n21
          have huu21 := huu.nc n21
          have ha21 := n21.lst ha17
          have hwd21 := n21 _ _ hwd18 (IsDictOf.nocell how)
          clear htt huu ha17 hwd18
          repeat k_upd
          refine' j_make ?z1 ?z2 ?z3 ?z4 ?z5
          case z1 => exact O
          case z2 => k_is
          case z3 => k_is
          case z4 => k_is
          intro cx cd hcx hcd hne
          refine (i1_2 (40) ( by exact (Nat.le_add_left _ _)) ( (spec_cinit (d := 39) (.new hne) hne).mono ?_))
          (intro v σ23 zr1; refine x0_3 zr1 ?_; clear zr1; intro er1 hC f23; obtain rfl := er1)
          refine ⟨rfl, ?_⟩
          have s23 : Sub σ21 σ23 := fun a o e => f23 a o (by
            rw [Led.set_ne (by rintro rfl; (first | exact nos (hcx) e | exact nos e (hcx) | (rw [hcx] at e; cases e))), Led.set_ne (by rintro rfl; (first | exact nos (hcd) e | exact nos e (hcd) | (rw [hcd] at e; cases e)))]; exact e) (by rintro rfl; (first | exact nos (hcd) e | exact nos e (hcd) | (rw [hcd] at e; cases e)))
          have htdcd : td ≠ cd := by rintro rfl; (first | exact nos (T21.htd) hcd | exact nos hcd (T21.htd) | (rw [T21.htd] at hcd; cases hcd))
          have hwdcd : wd ≠ cd := by rintro rfl; (first | exact nos (hwd21) hcd | exact nos hcd (hwd21) | (rw [hwd21] at hcd; cases hcd))
          have hl1 : L + 1 ≠ cd := by rintro e; rw [e, hcd] at c1; cases c1
          have hl2 : L + 2 ≠ cd := by rintro e; rw [e, hcd] at c2; cases c2
          replace T21 := T21.sub s23
          replace htt21 := htt21.nc s23.nc
          replace huu21 := huu21.nc s23.nc
          replace ha21 := s23 _ _ ha21
          replace hwd21 := s23 _ _ hwd21
          replace c1 := s23 _ _ c1
          replace c2 := s23 _ _ c2
          replace hdue := hdue.nc s23.nc
          clear s23 f23 hcx hcd n21 c3 d3 hne
          repeat k_upd
          obtain ⟨hne, fs, i1, i2, i3, i4, i5, i6⟩ := id hC
          try (refine' j_meth ?a1 ?a2 ?a3 ?a4 ?a5 ?a6 ?_; (case a1 => exact O); (case a2 => exact i1); (case a3 => exact i6); (case a4 => k_is); (case a5 => k_is); (case a6 => k_is))
          repeat k_upd
          refine ((spec_core (d := 30) hC (by exact (Nat.zero_le _)) T21 htt21 huu21 httok huuok htdcd).j rfl O (by exact (Nat.le_add_left _ _))).mono1 ?_
          (intro r σ24 zr1; refine x0_3 zr1 ?_; clear zr1; (intro zt2 f24 hC24; refine x1_3 zt2 ?_; clear zt2; intro ss' hperm' hsort' hres))
          obtain rfl : ss' = ss := sorted_unique hsort' hsort (hperm'.trans hpk.symm)
          have hcdd := hC.d
          have nf24 := f24.nf
          have nt24 := nf24.nt hcdd
          replace T21 := T21.nf nf24 hcdd htdcd
          replace htt21 := htt21.nt nt24
          replace huu21 := huu21.nt nt24
          replace ha21 := nf24.lst hcdd ha21
          replace hwd21 := nf24 _ _ hwd21 hwdcd (IsDictOf.nocell how)
          replace c1 := f24 _ _ c1 hl1
          replace c2 := f24 _ _ c2 hl2
          have hval4 : ∀ p ∈ kvs, ∃ q x y n t u, p.2 = .ref q ∧ σ24 q = some (tupOf [x, y] n) ∧ TmT σ24 t x ∧ TmT σ24 u y ∧ t.good ∧ u.good := fun p hp => by
            have hnk : (kvs.map (·.1)).Nodup := by first | exact ((T21.keys).trans ((hkeys).trans ((List.take_sublist _ _).nodup labs4_nodup))) | (rw [T21.keys, hkeys]; exact (List.take_sublist _ _).nodup labs4_nodup)
            have h1 := valueAt_mem hnk p hp
            have h2 : p.1 ∈ told.map (·.1) := by rw [← T21.keys]; exact List.mem_map.mpr (i1_2 (p) ( hp) ( rfl))
            have h3 := eqOf_mem h2
            (refine x4_4 (T21.htold _ _ h3) ?_; intro pa3 x1 x2 n3 h4 h5 h6 h7)
            have h8 := T21.ok _ h3
            rw [h1] at h4
            exact ⟨pa3, x1, x2, n3, _, _, Option.some.inj h4, h5, h6, h7, ⟨h8.1, Nat.le_trans h8.2.2.2.2.1 (by decide)⟩, ⟨h8.2.1, Nat.le_trans h8.2.2.2.2.2 (by decide)⟩⟩
          have hfin : (dv = .none ∧ r = .none ∧ ¬ Ent (ss'.map (eqOf told)) tt uu) ∨ ∃ a vs k b ws n Ls, dv = .ref a ∧ σ24 a = some (tupOf vs k) ∧ StrsAre vs Ls ∧ r = .ref b ∧ σ24 b = some (tupOf ws n) ∧ StrsAre ws Ls ∧ Ent (Ls.map (eqOf told)) tt uu ∧
              (∀ l ∈ Ls, ¬ Ent ((Ls.filter (· != l)).map (eqOf told)) tt uu) ∧ (∀ x ∈ Ls, x ∈ ss') ∧ Ls.length ≤ 4 := by
            have hpow : (Src.range ra (2 ^ lvs.length)).size = 2 ^ ss'.length := by rw [hsl, ← hlvl2]; rfl
            rw [hpow] at hdue
            rcases hres with zr1 | zr1
            · (refine x0_2 zr1 ?_; clear zr1; intro hno er1; obtain rfl := er1)
              refine .inl (i0_3 (?_) ( rfl) ( hno))
              rcases hdue with zr1 | zr1
              · (refine x0_2 zr1 ?_; clear zr1; intro e _)
                exact e
              · (refine x4_6 zr1 ?_; clear zr1; intro a vs k q e h1 h2 h3 h4 h5)
                exact absurd (hmono _ _ (lotN_sub ss' q) h4) hno
            · obtain ⟨hyes, b, ws, n, rfl, hb, hws⟩ := zr1
              (refine x1_2 (least_del (P := fun A => Ent (A.map (eqOf told)) tt uu) hmono _ ss' [] rfl (by simpa using hnd) (by simpa using hyes)) ?_; intro mm hL hdel)
              rw [List.append_nil, List.append_nil] at hdel
              (refine x0_3 hL ?_; clear hL; intro hL1 hL2 hL3)
              rw [List.append_nil] at hL2
              rcases hdue with zr1 | zr1
              · (refine x0_2 zr1 ?_; clear zr1; intro _ hall)
                exact absurd hL2 (hall mm hL1)
              · (refine x4_6 zr1 ?_; clear zr1; intro a vs k q e h1 h2 h3 h4 h5)
                have hq : mm = q := by
                  rcases Nat.lt_trichotomy mm q with hl | e | hl
                  · exact absurd hL2 (h5 mm hl)
                  · exact e
                  · exact absurd h4 (by have := hL3 q hl; simpa using this)
                subst hq
                refine .inr ⟨a, vs, k, b, ws, n, lotN ss' mm, e, nt24 _ _ _ h1, h2, rfl, hb, by first | exact ((hdel).trans hws) | (rw [hdel]; exact hws), h4, fun l hl => ?_, lotN_sub ss' mm, by have := lotN_len ss' mm; omega⟩
                (refine x1_2 (lotN_less ss' mm l hnd hl) ?_; intro q2 hq2 he)
                rw [← he]
                exact h5 q2 hq2
          clear hdue hres hcdd nf24 nt24 hperm' hsort' i1 i2 i3 i4 i5 i6 hC f24 fs
          repeat k_upd
          rcases hfin with zr1 | zr1
          · (refine x0_3 zr1 ?_; clear zr1; intro er1 er2 hno; obtain rfl := er1; obtain rfl := er2)
            refine j_ne_none O ?_
            repeat k_upd
            refine j_ne_same O T21.htd hwd21 T21.hod how (by first | exact ((T21.keys).trans ((hkeys).trans ((List.take_sublist _ _).nodup labs4_nodup))) | (rw [T21.keys, hkeys]; exact (List.take_sublist _ _).nodup labs4_nodup)) hval4 ?_
            repeat k_upd
            refine Mine.sb (show (Value.none == Value.none) = true from rfl) ?_
            repeat k_upd
            refine j_UnaryOp ?_
            repeat k_upd
            obtain ⟨hne, fs, i1, i2, i3, i4, i5, i6⟩ := id hC24
            try (refine' j_meth ?b1 ?b2 ?b3 ?b4 ?b5 ?b6 ?_; (case b1 => exact O); (case b2 => exact i1); (case b3 => exact i5); (case b4 => k_is); (case b5 => k_is); (case b6 => k_is))
            repeat k_upd
            (refine x2_1 hC24.d ?_; intro ces cn hcdd)
            refine ((spec_holdsL (d := 30) (Sr := .list a1 lvs.toArray) (L := ss') hC24 (by exact (Nat.le_add_left _ _)) T21 hsmem ⟨_, ha21, rfl, _, rfl⟩ (by simp [Src.size]; exact (Eq.trans hlvl2 (Eq.symm hsl))) (fun i v hv => strs_at hlvs (by simpa [Src.item] using hv)) (by omega) htt21 huu21 httok huuok (fun a e => by cases e; exact dne_of hcdd ha21 lcls) htdcd).j rfl O (by exact (Nat.le_add_left _ _))).mono1 ?_
            (intro r σ25 zr1; refine x0_3 zr1 ?_; clear zr1; (intro zt2 f25 hC25; refine x1_2 zt2 ?_; clear zt2; intro c er3 hc; obtain rfl := er3))
            repeat k_upd
            refine j_Not_of ?_
            repeat k_upd
            cases c with
            | true => exact absurd (hc.mp rfl) hno
            | false => rfl
          · (refine x7_10 zr1 ?_; clear zr1; intro da2 dvs dk b ws n Ls er1 hda2 hdvs er2 hb hws hyes hmin hLs hL4; obtain rfl := er1; obtain rfl := er2)
            refine j_ne_labs O hb hda2 hws hdvs (fun x hx => hsok x (hLs x hx)) (fun x hx => hsok x (hLs x hx)) ?_
            refine Mine.sb (show (!decide (Ls = Ls)) = false by simp) ?_
            repeat k_upd
            refine j_ne_same O T21.htd hwd21 T21.hod how (by first | exact ((T21.keys).trans ((hkeys).trans ((List.take_sublist _ _).nodup labs4_nodup))) | (rw [T21.keys, hkeys]; exact (List.take_sublist _ _).nodup labs4_nodup)) hval4 ?_
            repeat k_upd
            refine Mine.sb (show (Value.ref da2 == Value.none) = false from rfl) ?_
            repeat k_upd
            k_places
            repeat k_upd
            (refine x2_1 hC24.d ?_; intro ces cn hcdd)
            have hdl := strs_len hdvs
            let Iv4 : Nat → Loc → Led → Prop := fun i m' σ' => i ≤ dvs.length ∧ NF cd σ24 σ' ∧ CoreI σ' cx cd td (0 + 10 + i) ∧ (∃ q2 v2, σ' (L + 2) = some q2 ∧ q2.data = .cell v2) ∧
                m' (Str.ofString "cores") = some (.ref cx) ∧ m' (Str.ofString "due") = some (.ref da2) ∧ m' (Str.ofString "t") = some vt ∧ m' (Str.ofString "u") = some vu
            refine ⟨.tup da2 dvs.toArray, rfl, ⟨_, hda2, rfl, _, rfl⟩, Iv4,
              (i0_8 (Nat.zero_le _) ( .refl) ( hC24) ( (i2_2 (p2) ( _) ( c2) ( d2'))) ( by k_mem) ( by k_mem) ( by k_mem) ( by k_mem)), ?_, ?_⟩
            · (intro p i v m25 σ25 O25 hil hv zr1 _; refine x0_8 zr1 ?_; clear zr1; (intro hi25 nf25 hC25 zt1 m1 m2 m3 m4; refine x2_2 zt1 ?_; clear zt1; intro q2 v2 k2 g2))
              have hE2 : (X.kept p).env = _ := hE
              have hvi : dvs[i]? = some v := by simpa [Src.item] using hv
              (refine x2_2 (strs_at hdvs hvi) ?_; intro l tl hli er1; obtain rfl := er1)
              have hil2 := get_lt hvi
              have hlm : l ∈ Ls := List.mem_of_getElem? hli
              repeat k_upd
              ((refine' j_store_cell ?aq21 ?bq21 ?cq21 ?dq21 ?eq21 ?_); (case aq21 => assumption); (case bq21 => k_mem); (case cq21 => (refine' cells_eq ?hq21 ?kq21; (case hq21 => assumption); (case kq21 => exact rfl))); (case dq21 | eq21 => assumption))
              intro r2 e2
              have n26 : NCell σ25 (σ25.set (L + 2) r2) := NCell.set k2 g2
              replace hC25 := hC25.nc n26
              replace nf25 := nf25.trans n26.nf
              replace k2 : (σ25.set (L + 2) r2) (L + 2) = some r2 := Led.set_self
              show J (X.kept p) _ _ (σ25.set (L + 2) r2) _
              clear n26 g2
              (generalize σ25.set (L + 2) r2 = σ26b at *; revert σ26b; refine bar ?_; set_option tactic.hygienic false in intros)
              have hk2cd : L + 2 ≠ cd := hl2
              have nt26 := nf25.nt (i2_1 (ces) ( cn) ( hcdd))
              have hda26 := nt26 _ _ _ hda2
              repeat k_upd
              obtain ⟨hne, fs, i1, i2, i3, i4, i5, i6⟩ := id hC25
              try (refine' j_meth ?b1 ?b2 ?b3 ?b4 ?b5 ?b6 ?_; (case b1 => exact O25); (case b2 => exact i1); (case b3 => exact i5); (case b4 => k_is); (case b5 => k_is); (case b6 => k_is))
              repeat k_upd
              ((refine' j_filter ?aq17 ?bq17 ?cq17 ?dq17 ?eq17 ?fq17 ?_); (case aq17 => assumption); (case bq17 => k_mem); (case cq17 => decide); (case dq17 => exact rfl); (case eq17 => decide); (case fq17 => k_mem))
              repeat k_upd
              refine ⟨.tup da2 dvs.toArray, dvs, rfl, ⟨_, hda26, rfl, _, rfl⟩, by simp [Src.size], fun i v h => by simpa [Src.item] using h, by exact (Nat.le_trans (Nat.le_trans (Nat.le_of_eq hdl) hL4) (Nat.le_of_ble_eq_true rfl)), neLab l, ?_, ?_⟩
              · intro X' v mc σ27 O27 hw27 hE27 hvm hs27
                rw [hE2] at hE27
                obtain ⟨j, hj⟩ := List.getElem?_of_mem hvm
                (refine x2_2 (strs_at hdvs hj) ?_; intro x tx hx er1; obtain rfl := er1)
                have k27 := hs27 _ _ k2
                repeat k_upd
                refine ⟨rfl, ?_⟩
                by_cases hq : neLab l (.str x tx) = true
                · rw [if_pos hq]
                  repeat k_upd
                  exact ⟨rfl, hs27⟩
                · rw [if_neg hq]
                  exact hs27
              · intro σ27 D kk hs27 hD
                have s28 : Sub σ26b (σ27.set D (lstOf (dvs.filter (neLab l)) kk)) := hs27.trans (.new hD)
                have hD28 : (σ27.set D (lstOf (dvs.filter (neLab l)) kk)) D = some (lstOf (dvs.filter (neLab l)) kk) := Led.set_self
                (generalize σ27.set D (lstOf (dvs.filter (neLab l)) kk) = σ28b at *; revert σ28b; refine bar ?_; set_option tactic.hygienic false in intros)
                have hfl := strs_filter l hdvs
                have hfll := strs_len hfl
                have hflL := List.length_filter_le (fun x => x != l) Ls
                replace hC25 := hC25.sub s28
                replace nf25 := nf25.trans s28.nc.nf
                replace k2 := s28 _ _ k2
                clear s28 hs27 hD i1 i2 i3 i4 i5 i6 nt26 hda26
                have T28 := T21.nf nf25 (i2_1 (ces) ( cn) ( hcdd)) htdcd
                have nt28 := nf25.nt (i2_1 (ces) ( cn) ( hcdd))
                have htt28 := htt21.nt nt28
                have huu28 := huu21.nt nt28
                (refine x2_1 hC25.d ?_; intro ces2 cn2 hcdd2)
                repeat k_upd
                refine ((spec_holdsL (d := 30) (Sr := .list D (dvs.filter (neLab l)).toArray) (L := Ls.filter (· != l)) hC25 (by omega) T28 (fun x hx => hsmem x (hLs x (List.mem_filter.mp hx).1)) ⟨_, hD28, rfl, _, rfl⟩ (by simp [Src.size, hfll]) (fun i v hv => strs_at hfl (by simpa [Src.item] using hv)) (by exact (Nat.le_trans hflL hL4)) htt28 huu28 httok huuok (fun a e => by cases e; exact dne_of hcdd2 hD28 lcls) htdcd).j (X := X.kept p) rfl O25 (by exact (Nat.le_add_left _ _))).mono1 ?_
                (intro r σ29 zr1; refine x0_3 zr1 ?_; clear zr1; (intro zt2 f29 hC29; refine x1_2 zt2 ?_; clear zt2; intro c er3 hc; obtain rfl := er3))
                repeat k_upd
                cases c with
                | true => exact absurd (hc.mp rfl) (hmin l hlm)
                | false =>
                  repeat k_upd
                  have nf29 := nf25.trans f29.nf
                  have hda29 := (nf29.nt (i2_1 (ces) ( cn) ( hcdd))) _ _ _ hda2
                  exact ⟨(i0_8 (by exact hil2) ( nf29) ( hC29.mono (by exact (Nat.le_refl _))) ( (i2_2 (r2) ( _) ( f29 _ _ k2 hk2cd) ( e2))) ( by k_mem) ( by k_mem) ( by k_mem) ( by k_mem)), ⟨_, hda29, rfl, _, rfl⟩⟩
            · (intro m25 σ25 zr1 _; refine x0_8 zr1 ?_; clear zr1; (intro hi25 nf25 hC25 zt1 m1 m2 m3 m4; refine x2_2 zt1 ?_; clear zt1; intro q2 v2 k2 g2))
              have hszd : (Src.tup da2 dvs.toArray).size = dvs.length := by simp [Src.size]
              rw [hszd] at hC25
              have T28 := T21.nf nf25 (i2_1 (ces) ( cn) ( hcdd)) htdcd
              have nt28 := nf25.nt (i2_1 (ces) ( cn) ( hcdd))
              have htt28 := htt21.nt nt28
              have huu28 := huu21.nt nt28
              have hda28 := nt28 _ _ _ hda2
              (refine x2_1 hC25.d ?_; intro ces2 cn2 hcdd2)
              repeat k_upd
              obtain ⟨hne, fs, i1, i2, i3, i4, i5, i6⟩ := id hC25
              try (refine' j_meth ?d1 ?d2 ?d3 ?d4 ?d5 ?d6 ?_; (case d1 => exact O); (case d2 => exact i1); (case d3 => exact i5); (case d4 => k_is); (case d5 => k_is); (case d6 => k_is))
              repeat k_upd
              refine ((spec_holdsL (d := 30) (Sr := .tup da2 dvs.toArray) (L := Ls) hC25 (by omega) T28 (fun x hx => hsmem x (hLs x hx)) ⟨_, hda28, rfl, _, rfl⟩ (by simp [Src.size, hdl]) (fun i v hv => strs_at hdvs (by simpa [Src.item] using hv)) (by exact hL4) htt28 huu28 httok huuok (fun a e => by
                cases e
                rintro rfl
                rw [hcdd2] at hda28
                exact absurd (show Value.type "dict" = Value.type "tuple" from congrArg Obj.cls (Option.some.inj hda28)) (by decide)) htdcd).j rfl O (by exact (Nat.le_add_left _ _))).mono1 ?_
              (intro r σ29 zr1; refine x0_3 zr1 ?_; clear zr1; (intro zt2 f29 hC29; refine x1_2 zt2 ?_; clear zt2; intro c er3 hc; obtain rfl := er3))
              repeat k_upd
              cases c with
              | true => rfl
              | false => exact absurd (hc.mpr hyes) (by decide)
end
end Mine
namespace Mine
theorem hdB.tw6368202073434933861 : True := trivial
theorem hdB.tw4658319973125893911 : True := trivial
theorem hdB.tw242226426869937577 : True := trivial
theorem hdB.tw5988976882591568586 : True := trivial
theorem hdB.tw9582267612733671975 : True := trivial
theorem hdB.tw13408679725687374472 : True := trivial
theorem hdB.tw3014761482063366610 : True := trivial
theorem hdB.tw2303989974786899086 : True := trivial
theorem hdB.tw7482460364270962437 : True := trivial
theorem hdB.tw1855487829848568757 : True := trivial
theorem hdB.tw12121465228893195976 : True := trivial
theorem hdB.tw14600167800030803978 : True := trivial
theorem hdB.tw2623596306161115307 : True := trivial
theorem hdB.tw16506839931896993010 : True := trivial
theorem hdB.tw8306444185847140569 : True := trivial
theorem hdB.tw17395290345681325371 : True := trivial
theorem hdB.tw668618408895024685 : True := trivial
theorem hdB.tw5058864714019460000 : True := trivial
theorem hdB.tw3650052124063349327 : True := trivial
theorem hdB.tw7667574777284888042 : True := trivial
theorem hdB.tw5299724198179525155 : True := trivial
theorem hdB.tw2665809999045362088 : True := trivial
theorem hdB.tw17031548807823752945 : True := trivial
theorem hdB.tw5691277127284188092 : True := trivial
theorem hdB.tw11713390208890728763 : True := trivial
theorem hdB.tw1873740539734212566 : True := trivial
theorem hdB.tw7492309392156930401 : True := trivial
theorem hdB.tw14433079359930636323 : True := trivial
theorem hdB.tw5960292574260180298 : True := trivial
theorem hdB.tw8835093717523172634 : True := trivial
theorem hdB.tw12968723675713867762 : True := trivial
theorem hdB.tw14893821678034898654 : True := trivial
theorem hdB.tw7787536664352738079 : True := trivial
theorem hdB.tw5991147879136639837 : True := trivial
theorem hdB.tw14987509475761357246 : True := trivial
theorem hdB.tw5918891520800706572 : True := trivial
theorem hdB.tw16433381706587262438 : True := trivial
theorem hdB.tw3268217366877557047 : True := trivial
theorem hdB.tw13575435483514665407 : True := trivial
theorem hdB.tw11974173315731812697 : True := trivial
theorem hdB.tw2215552600814529729 : True := trivial
theorem hdB.tw9974559758790987437 : True := trivial
theorem hdB.tw14441984502611596235 : True := trivial
theorem hdB.tw585818438832230338 : True := trivial
theorem hdB.tw4000525249030752688 : True := trivial
theorem hdB.tw16695686127522390839 : True := trivial
theorem hdB.tw16962385443597234517 : True := trivial
theorem hdB.tw7442542695999097541 : True := trivial
theorem hdB.tw10925604703942642693 : True := trivial
theorem hdB.tw299938981094323616 : True := trivial
theorem hdB.tw3164886504659311240 : True := trivial
theorem hdB.tw4545316125209686589 : True := trivial
theorem hdB.tw10257095684667309853 : True := trivial
theorem hdB.tw13124407578016303829 : True := trivial
theorem hdB.tw1999217852896654779 : True := trivial
theorem hdB.tw304498082078896603 : True := trivial
theorem hdB.tw11875083327617489020 : True := trivial
theorem hdB.tw15824934991705157211 : True := trivial
theorem hdB.tw7719808077391009046 : True := trivial
theorem hdB.tw11482827068820897443 : True := trivial
theorem hdB.tw16996300673914094760 : True := trivial
theorem hdB.tw3735879744019519321 : True := trivial
theorem hdB.tw2975782625104031433 : True := trivial
theorem hdB.tw7959847945887090583 : True := trivial
theorem hdB.tw13669759399153914181 : True := trivial
theorem hdB.tw18307307550281649757 : True := trivial
theorem hdB.tw3786904082977392500 : True := trivial
theorem hdB.tw16916819751288464985 : True := trivial
theorem hdB.tw7507499676956162095 : True := trivial
theorem hdB.tw9072957568876009247 : True := trivial
theorem hdB.tw5356383658482438269 : True := trivial
theorem hdB.tw3062318533441013502 : True := trivial
theorem hdB.tw2241756891401100466 : True := trivial
theorem hdB.tw14667356352870707748 : True := trivial
theorem hdB.tw11795842734721691587 : True := trivial
theorem hdB.tw5440839110025663238 : True := trivial
theorem hdB.tw10823159625193030673 : True := trivial
theorem hdB.tw5000530689508017905 : True := trivial
theorem hdB.tw8087705182139727511 : True := trivial
theorem hdB.tw13325991531994394699 : True := trivial
theorem hdB.tw9026251335127909631 : True := trivial
theorem hdB.tw11012254878019418860 : True := trivial
theorem hdB.tw4699233967958636080 : True := trivial
theorem hdB.tw9639923127135739284 : True := trivial
theorem hdB.tw475963668462022829 : True := trivial
theorem hdB.tw622283817711283293 : True := trivial
theorem hdB.tw12895445867983455260 : True := trivial
theorem hdB.tw11185029869066704974 : True := trivial
theorem hdB.tw9912726394649717256 : True := trivial
theorem hdB.tw4308492268645525282 : True := trivial
theorem hdB.tw13041997304073740761 : True := trivial
theorem hdB.tw5088789631292510082 : True := trivial
theorem hdB.tw1166161374489413734 : True := trivial
theorem hdB.tw3587132461953034196 : True := trivial
theorem hdB.tw11018720170402240100 : True := trivial
theorem hdB.tw3305859679953043820 : True := trivial
theorem hdB.tw14479038513763525016 : True := trivial
theorem hdB.tw5991207058040256448 : True := trivial
theorem hdB.tw9132751067300547923 : True := trivial
theorem hdB.tw12357937096795816881 : True := trivial
theorem hdB.tw11183744455006915406 : True := trivial
theorem hdB.tw13860784589476825658 : True := trivial
theorem hdB.tw16596145783768507322 : True := trivial
theorem hdB.tw2413006937299057871 : True := trivial
theorem hdB.tw14669200372213356858 : True := trivial
theorem hdB.tw7458839261107287916 : True := trivial
theorem hdB.tw11933049503907617928 : True := trivial
theorem hdB.tw9686517629254833725 : True := trivial
theorem hdB.tw5672518587710906203 : True := trivial
theorem hdB.tw10525757546057788814 : True := trivial
theorem hdB.tw7800180489568050233 : True := trivial
theorem hdB.tw7344380385588623985 : True := trivial
theorem hdB.tw14770133251633014079 : True := trivial
theorem hdB.tw17187605485511430966 : True := trivial
theorem hdB.tw7442846925928208999 : True := trivial
theorem hdB.tw3917319093876902811 : True := trivial
theorem hdB.tw5531940682735581251 : True := trivial
theorem hdB.tw15479419681252320113 : True := trivial
theorem hdB.tw14115210864076159499 : True := trivial
theorem hdB.tw9863925251221248990 : True := trivial
theorem hdB.tw6293507303665906399 : True := trivial
theorem hdB.tw1937859905759843691 : True := trivial
theorem hdB.tw11659693942920300766 : True := trivial
theorem hdB.tw17613021108526889041 : True := trivial
theorem hdB.tw1539697429902737060 : True := trivial
theorem hdB.tw11251232922310293901 : True := trivial
theorem hdB.tw13667637310302148573 : True := trivial
theorem hdB.tw17729147277269775027 : True := trivial
theorem hdB.tw12411266553603689898 : True := trivial
theorem hdB.tw13746921442394327067 : True := trivial
theorem hdB.tw5125508512252173286 : True := trivial
theorem hdB.tw16412120454687595198 : True := trivial
theorem hdB.tw4785538261178990906 : True := trivial
theorem hdB.tw12943422199940531356 : True := trivial
theorem hdB.tw3458390905309759915 : True := trivial
theorem hdB.tw9923031971051137409 : True := trivial
theorem hdB.tw13283144923795524963 : True := trivial
theorem hdB.tw9675038262582241039 : True := trivial
theorem hdB.tw4068126273212173685 : True := trivial
theorem hdB.tw2386550436297533984 : True := trivial
theorem hdB.tw14277901321959936047 : True := trivial
theorem hdB.tw3090126034162578670 : True := trivial
theorem hdB.tw3832316067602002327 : True := trivial
theorem hdB.tw10988113558143455345 : True := trivial
theorem hdB.tw8877306631261723523 : True := trivial
theorem hdB.tw12544653893332564067 : True := trivial
theorem hdB.tw1575164312096275578 : True := trivial
theorem hdB.tw469471460557195721 : True := trivial
theorem hdB.tw10980803861594726508 : True := trivial
theorem hdB.tw16771795994050062816 : True := trivial
theorem hdB.tw10108678295390518827 : True := trivial
theorem hdB.tw15593434951601035113 : True := trivial
theorem hdB.tw3152688966344297781 : True := trivial
theorem hdB.tw4777152090539660499 : True := trivial
theorem hdB.tw14176683346074210381 : True := trivial
theorem hdB.tw15999574214134171944 : True := trivial
theorem hdB.tw5070455690469752974 : True := trivial
theorem hdB.tw3498705600851153900 : True := trivial
theorem hdB.tw15149662732187716555 : True := trivial
theorem hdB.tw5326279744383688220 : True := trivial
theorem hdB.tw14809759554639925490 : True := trivial
theorem hdB.tw286864837657412344 : True := trivial
theorem hdB.tw16204950829030366751 : True := trivial
theorem hdB.tw1419279130614576131 : True := trivial
theorem hdB.tw1501264854544530234 : True := trivial
theorem hdB.tw3743721385622661487 : True := trivial
theorem hdB.tw3280270315929798061 : True := trivial
theorem hdB.tw6125527830020129477 : True := trivial
theorem hdB.tw17701843012588335916 : True := trivial
theorem hdB.tw15111066346477986514 : True := trivial
theorem hdB.tw1580486368215317366 : True := trivial
theorem hdB.tw7920301425026945345 : True := trivial
theorem hdB.tw5406507627487558184 : True := trivial
theorem hdB.tw1417881313692008205 : True := trivial
theorem hdB.tw12966587956464772272 : True := trivial
theorem hdB.tw1973748503201094414 : True := trivial
theorem hdB.tw2692069582360012941 : True := trivial
theorem hdB.tw9564319652454610802 : True := trivial
theorem hdB.tw3784853112248107823 : True := trivial
theorem hdB.tw1693065149019444002 : True := trivial
theorem hdB.tw16473578340278991833 : True := trivial
theorem hdB.tw15362547606912218797 : True := trivial
theorem hdB.tw10441261176214844751 : True := trivial
theorem hdB.tw5715187211417067332 : True := trivial
theorem hdB.tw11494917561926105016 : True := trivial
theorem hdB.tw8954021856323439541 : True := trivial
theorem hdB.tw15042513507143542731 : True := trivial
theorem hdB.tw8852428076964712784 : True := trivial
theorem hdB.tw1158832275023106724 : True := trivial
theorem hdB.tw9750752736118853896 : True := trivial
theorem hdB.tw270889976600660389 : True := trivial
theorem hdB.tw7681256432193613564 : True := trivial
theorem hdB.tw17697541003869173353 : True := trivial
theorem hdB.tw1876119605214829474 : True := trivial
theorem hdB.tw17100029125780143854 : True := trivial
theorem hdB.tw5656067991722810493 : True := trivial
theorem hdB.tw14988538935665105114 : True := trivial
theorem hdB.tw3544564916812182217 : True := trivial
theorem hdB.tw16414223228341086277 : True := trivial
theorem hdB.tw1237005199619836052 : True := trivial
theorem hdB.tw1077975695720109095 : True := trivial
theorem hdB.tw10159696121501878258 : True := trivial
theorem hdB.tw2618842436287251215 : True := trivial
theorem hdB.tw2115914459495906447 : True := trivial
theorem hdB.tw7930358113307292092 : True := trivial
theorem hdB.tw8382598336095053204 : True := trivial
theorem hdB.tw10060322204140854051 : True := trivial
theorem hdB.tw11595376594288628323 : True := trivial
theorem hdB.tw1183309468218784493 : True := trivial
theorem hdB.tw11224744963066051376 : True := trivial
theorem hdB.tw17420311958413718024 : True := trivial
theorem hdB.tw2481013044295023079 : True := trivial
theorem hdB.tw4715909564279490599 : True := trivial
theorem hdB.tw3603738225273405624 : True := trivial
theorem hdB.tw15887240215341387625 : True := trivial
theorem hdB.tw783666601761790105 : True := trivial
theorem hdB.tw13479462147344872086 : True := trivial
theorem hdB.tw11961221387738270199 : True := trivial
theorem hdB.tw11307043770219764856 : True := trivial
theorem hdB.tw15026010971645241629 : True := trivial
theorem hdB.tw16922653593300399963 : True := trivial
theorem hdB.tw11354415725715193646 : True := trivial
theorem hdB.tw3751939964974480563 : True := trivial
theorem hdB.tw4234321278676407612 : True := trivial
theorem hdB.tw16666466659796176550 : True := trivial
theorem hdB.tw17300909421566774829 : True := trivial
theorem hdB.tw3000104907036439879 : True := trivial
theorem hdB.tw17462069604643317081 : True := trivial
theorem hdB.tw10760143088824274230 : True := trivial
theorem hdB.tw12972344685588854005 : True := trivial
theorem hdB.tw4038018153909211241 : True := trivial
theorem hdB.tw11398888598809735568 : True := trivial
theorem hdB.tw16782366003448107953 : True := trivial
theorem hdB.tw7813410641628327166 : True := trivial
theorem hdB.tw2267848042059933890 : True := trivial
theorem hdB.tw8607639659678348245 : True := trivial
theorem hdB.tw10743634579177516747 : True := trivial
theorem hdB.tw8588139144424366184 : True := trivial
theorem hdB.tw1089165497621417841 : True := trivial
theorem hdB.tw4129011914286598526 : True := trivial
theorem hdB.tw6530228499760262368 : True := trivial
theorem hdB.tw1907717185123728532 : True := trivial
theorem hdB.tw14354397638842592926 : True := trivial
theorem hdB.tw10597516979169754136 : True := trivial
theorem hdB.tw5707650628119915864 : True := trivial
theorem hdB.tw3059270928186270834 : True := trivial
theorem hdB.tw9030146355110135838 : True := trivial
theorem hdB.tw16746263990297221009 : True := trivial
theorem hdB.tw1291560030329231177 : True := trivial
theorem hdB.tw8786120591566911040 : True := trivial
theorem hdB.tw8373230726180981414 : True := trivial
theorem hdB.tw264929452996465385 : True := trivial
theorem hdB.tw18169167528460811145 : True := trivial
theorem hdB.tw1333726187822365142 : True := trivial
theorem hdB.tw7589435479087505696 : True := trivial
theorem hdB.tw11674153074825473853 : True := trivial
theorem hdB.tw18403747974622381899 : True := trivial
theorem hdB.tw9945731310052136310 : True := trivial
theorem hdB.tw15598725036906452976 : True := trivial
theorem hdB.tw2831461591821254551 : True := trivial
theorem hdB.tw17079801678903252499 : True := trivial
theorem hdB.tw13868971873915617683 : True := trivial
theorem hdB.tw15587482639380473116 : True := trivial
theorem hdB.tw5836973686768349771 : True := trivial
theorem hdB.tw5294727170814061392 : True := trivial
theorem hdB.tw3478187454854146901 : True := trivial
theorem hdB.tw3376061876353901447 : True := trivial
theorem hdB.tw2611353022239412291 : True := trivial
theorem hdB.tw16492688624562606622 : True := trivial
theorem hdB.tw10022493443994453556 : True := trivial
theorem hdB.tw14800520555378786896 : True := trivial
theorem hdB.tw6879032481690537158 : True := trivial
theorem hdB.tw104587822983019276 : True := trivial
theorem hdB.tw9041794818381524633 : True := trivial
theorem hdB.tw7459707963837674275 : True := trivial
theorem hdB.tw17123866650101628069 : True := trivial
theorem hdB.tw10468598853506537525 : True := trivial
theorem hdB.tw9661661932407659788 : True := trivial
theorem hdB.tw4037764731641616190 : True := trivial
theorem hdB.tw1624202427199547862 : True := trivial
theorem hdB.tw2424918535888130946 : True := trivial
theorem hdB.tw7204814222319714411 : True := trivial
theorem hdB.tw9815324769934951203 : True := trivial
theorem hdB.tw12350290554024461484 : True := trivial
theorem hdB.tw5691252290610882572 : True := trivial
theorem hdB.tw10388381751457000505 : True := trivial
theorem hdB.tw11070328013853497411 : True := trivial
theorem hdB.tw17980884356242558667 : True := trivial
theorem hdB.tw3393366912827472378 : True := trivial
theorem hdB.tw18082905319161326637 : True := trivial
theorem hdB.tw10069051591612005991 : True := trivial
theorem hdB.tw13318024579651707780 : True := trivial
theorem hdB.tw7329510117804050733 : True := trivial
theorem hdB.tw12298941560419162866 : True := trivial
theorem hdB.tw6011689294237824266 : True := trivial
theorem hdB.tw2548174382296708833 : True := trivial
theorem hdB.tw11864022026591305085 : True := trivial
theorem hdB.tw12925433372861902915 : True := trivial
theorem hdB.tw9085691612890244518 : True := trivial
theorem hdB.tw14496876250492689157 : True := trivial
theorem hdB.tw91677128960898835 : True := trivial
theorem hdB.tw10624645019109523394 : True := trivial
theorem hdB.tw14133215331969930841 : True := trivial
theorem hdB.tw11726930031142234306 : True := trivial
theorem hdB.tw6242877800520114238 : True := trivial
theorem hdB.tw11667316392302764206 : True := trivial
theorem hdB.tw7370903057073754117 : True := trivial
theorem hdB.tw7554889739185199633 : True := trivial
theorem hdB.tw15221339949622065445 : True := trivial
theorem hdB.tw2789741033033442564 : True := trivial
theorem hdB.tw11472156807468514366 : True := trivial
theorem hdB.tw4265584429408553258 : True := trivial
theorem hdB.tw619201577190429196 : True := trivial
theorem hdB.tw12444223854334616779 : True := trivial
theorem hdB.tw3823085943628155334 : True := trivial
theorem hdB.tw8309980984851926908 : True := trivial
theorem hdB.tw5494116333833214884 : True := trivial
theorem hdB.tw10069893116795676841 : True := trivial
theorem hdB.tw357486453476387696 : True := trivial
theorem hdB.tw17900398159134317328 : True := trivial
theorem hdB.tw4346864117186326196 : True := trivial
theorem hdB.tw8028213699200017757 : True := trivial
theorem hdB.tw8904938235725399030 : True := trivial
theorem hdB.tw17434296428519164491 : True := trivial
theorem hdB.tw4510443462975947490 : True := trivial
theorem hdB.tw17666534235357057668 : True := trivial
theorem hdB.tw16918409934038388707 : True := trivial
theorem hdB.tw10677360557158328225 : True := trivial
theorem hdB.tw1604588686608469542 : True := trivial
theorem hdB.tw15554911399689854881 : True := trivial
theorem hdB.tw13004355628820261972 : True := trivial
theorem hdB.tw17472374619186744605 : True := trivial
theorem hdB.tw3682958360469743793 : True := trivial
theorem hdB.tw15736803800653159125 : True := trivial
theorem hdB.tw5281478395406821698 : True := trivial
theorem hdB.tw7559666763972078897 : True := trivial
theorem hdB.tw17734793083080367011 : True := trivial
theorem hdB.tw11358315053133110775 : True := trivial
theorem hdB.tw1778474635532345279 : True := trivial
theorem hdB.tw3824508104138655170 : True := trivial
theorem hdB.tw4130892199588120587 : True := trivial
theorem hdB.tw12459982240640925766 : True := trivial
theorem hdB.tw1895142442474255442 : True := trivial
theorem hdB.tw11540014438537554367 : True := trivial
theorem hdB.tw2848180054069306803 : True := trivial
theorem hdB.tw14419399186051658582 : True := trivial
theorem hdB.tw17171009779497984607 : True := trivial
theorem hdB.tw12685412991271914319 : True := trivial
theorem hdB.tw5017504152654544039 : True := trivial
theorem hdB.tw6111648280275816736 : True := trivial
theorem hdB.tw15998015763775790799 : True := trivial
theorem hdB.tw8552204545470072017 : True := trivial
theorem hdB.tw13284344789964939550 : True := trivial
theorem hdB.tw18319779080801479596 : True := trivial
theorem hdB.tw791999467782746870 : True := trivial
theorem hdB.tw4081896430911680687 : True := trivial
theorem hdB.tw12265012450880191093 : True := trivial
theorem hdB.tw18076582330951031355 : True := trivial
theorem hdB.tw2113225105515834590 : True := trivial
theorem hdB.tw2985657244198069386 : True := trivial
theorem hdB.tw240405987588173071 : True := trivial
theorem hdB.tw3566412163898373981 : True := trivial
theorem hdB.tw8509606538464102526 : True := trivial
theorem hdB.tw7155250807632691835 : True := trivial
theorem hdB.tw16941374662749536870 : True := trivial
theorem hdB.tw13632635975726206561 : True := trivial
theorem hdB.tw5765091682243481200 : True := trivial
theorem hdB.tw13353981244525998768 : True := trivial
theorem hdB.tw5046426319620708743 : True := trivial
theorem hdB.tw5200581762784777909 : True := trivial
theorem hdB.tw13673512206823028918 : True := trivial
theorem hdB.tw14468032189948372016 : True := trivial
theorem hdB.tw4395254294479858703 : True := trivial
theorem hdB.tw14692339697486733929 : True := trivial
theorem hdB.tw14869531685949068814 : True := trivial
theorem hdB.tw5777407546050399979 : True := trivial
theorem hdB.tw12805990860979486137 : True := trivial
theorem hdB.tw134628947866555967 : True := trivial
theorem hdB.tw594502157681275256 : True := trivial
theorem hdB.tw7540819837430712078 : True := trivial
theorem hdB.tw16350906121740880491 : True := trivial
theorem hdB.tw12206338054501810692 : True := trivial
theorem hdB.tw17609187667027915483 : True := trivial
theorem hdB.tw7043266504223566557 : True := trivial
theorem hdB.tw14178025227080847483 : True := trivial
theorem hdB.tw14991395153533383109 : True := trivial
theorem hdB.tw4967869514264762311 : True := trivial
theorem hdB.tw5266838516435246141 : True := trivial
theorem hdB.tw3304511610589890399 : True := trivial
theorem hdB.tw16354744161430265965 : True := trivial
theorem hdB.tw11178301008774375505 : True := trivial
theorem hdB.tw16036725086540228142 : True := trivial
theorem hdB.tw5785555884759895904 : True := trivial
theorem hdB.tw3476577946124217138 : True := trivial
theorem hdB.tw2688728649750775709 : True := trivial
theorem hdB.tw11636076456536291676 : True := trivial
theorem hdB.tw6110686151392366723 : True := trivial
theorem hdB.tw12351255435464108759 : True := trivial
theorem hdB.tw12366699900508420828 : True := trivial
theorem hdB.tw2954915873864698198 : True := trivial
theorem hdB.tw3899013711103537869 : True := trivial
theorem hdB.tw4170065923251120657 : True := trivial
theorem hdB.tw387065550045987659 : True := trivial
theorem hdB.tw168526267422361723 : True := trivial
theorem hdB.tw5489650333153917366 : True := trivial
theorem hdB.tw16984852898115664590 : True := trivial
theorem hdB.tw14876197665731765544 : True := trivial
theorem hdB.tw16421967807827199177 : True := trivial
theorem hdB.tw8441798609470833001 : True := trivial
theorem hdB.tw15692414882686858021 : True := trivial
theorem hdB.tw15442060300243959041 : True := trivial
theorem hdB.tw13727409396599668426 : True := trivial
theorem hdB.tw7826120709584893094 : True := trivial
theorem hdB.tw14466681668041273230 : True := trivial
theorem hdB.tw9953882558772560754 : True := trivial
theorem hdB.tw167994484421819879 : True := trivial
theorem hdB.tw17608040398677175246 : True := trivial
theorem hdB.tw2508201458456058578 : True := trivial
theorem hdB.tw3734748650182733094 : True := trivial
theorem hdB.tw14082276074121790986 : True := trivial
theorem hdB.tw96543187668047502 : True := trivial
theorem hdB.tw7223526953627285538 : True := trivial
theorem hdB.tw8191645495087821125 : True := trivial
theorem hdB.tw13081076175499913460 : True := trivial
theorem hdB.tw4819786184586176959 : True := trivial
theorem hdB.tw8384112238112570022 : True := trivial
theorem hdB.tw11680132565139094119 : True := trivial
theorem hdB.tw10564106306941357646 : True := trivial
theorem hdB.tw8799671797039284050 : True := trivial
theorem hdB.tw720689436315891801 : True := trivial
theorem hdB.tw4009856572602423892 : True := trivial
theorem hdB.tw16377757379332357049 : True := trivial
theorem hdB.tw8845442697956235493 : True := trivial
theorem hdB.tw1155954370629322612 : True := trivial
theorem hdB.tw7082041653413005565 : True := trivial
theorem hdB.tw682091708474766446 : True := trivial
theorem hdB.tw7436724688407103429 : True := trivial
theorem hdB.tw3240723785969954161 : True := trivial
theorem hdB.tw2089685033934920321 : True := trivial
theorem hdB.tw9082078257866348712 : True := trivial
theorem hdB.tw7523516978520037582 : True := trivial
theorem hdB.tw12472836561579236130 : True := trivial
theorem hdB.tw11214597614550243593 : True := trivial
theorem hdB.tw7940194487319868815 : True := trivial
theorem hdB.tw7020809511615177282 : True := trivial
theorem hdB.tw3682325828620044984 : True := trivial
theorem hdB.tw8025886064268435494 : True := trivial
theorem hdB.tw2415815543005948876 : True := trivial
theorem hdB.tw5048444195464393353 : True := trivial
theorem hdB.tw15441225245813983239 : True := trivial
theorem hdB.tw3030106975742081472 : True := trivial
theorem hdB.tw2365183520060900018 : True := trivial
theorem hdB.tw10896129618786280053 : True := trivial
theorem hdB.tw6847676772838277894 : True := trivial
theorem hdB.tw10122038535034852899 : True := trivial
theorem hdB.tw7429813505782984202 : True := trivial
theorem hdB.tw10500252777688787156 : True := trivial
theorem hdB.tw714020794383551411 : True := trivial
theorem hdB.tw8696988444308360218 : True := trivial
theorem hdB.tw3966424089453082575 : True := trivial
theorem hdB.tw470303381046504887 : True := trivial
theorem hdB.tw7297625631817721215 : True := trivial
theorem hdB.tw7038678049635591111 : True := trivial
theorem hdB.tw4755080220442578388 : True := trivial
theorem hdB.tw11184113148176895768 : True := trivial
theorem hdB.tw7282580955003439477 : True := trivial
theorem hdB.tw11570247350827699832 : True := trivial
theorem hdB.tw2573926677480259217 : True := trivial
theorem hdB.tw10337459275004035420 : True := trivial
theorem hdB.tw1417180301271454327 : True := trivial
theorem hdB.tw10846752927160089210 : True := trivial
theorem hdB.tw16800492414846272916 : True := trivial
theorem hdB.tw12784517793750228074 : True := trivial
theorem hdB.tw5162896999475180960 : True := trivial
theorem hdB.tw14068106846996055692 : True := trivial
theorem hdB.tw6678111820445761401 : True := trivial
theorem hdB.tw9236426176275505474 : True := trivial
theorem hdB.tw10659557570115645533 : True := trivial
theorem hdB.tw2201145042264276131 : True := trivial
theorem hdB.tw10337546527440214291 : True := trivial
theorem hdB.tw6754631618693989580 : True := trivial
theorem hdB.tw4896652085840369046 : True := trivial
theorem hdB.tw15039698750832274017 : True := trivial
theorem hdB.tw82733275311979378 : True := trivial
theorem hdB.tw6882939437623280565 : True := trivial
theorem hdB.tw5608524710857020919 : True := trivial
theorem hdB.tw13175114098249543397 : True := trivial
theorem hdB.tw7266983341144783409 : True := trivial
theorem hdB.tw17210484955517695428 : True := trivial
theorem hdB.tw8814610853995632618 : True := trivial
theorem hdB.tw11296636070527034274 : True := trivial
theorem hdB.tw14762853581681663628 : True := trivial
theorem hdB.tw10297240610118110913 : True := trivial
theorem hdB.tw13970814353881476035 : True := trivial
theorem hdB.tw13421337203784878188 : True := trivial
theorem hdB.tw14236530294422283900 : True := trivial
theorem hdB.tw5212806565036500591 : True := trivial
theorem hdB.tw2834803911231220560 : True := trivial
theorem hdB.tw7576690905377256428 : True := trivial
theorem hdB.tw8234690652760285643 : True := trivial
theorem hdB.tw13217441245009024821 : True := trivial
theorem hdB.tw3295448132282747532 : True := trivial
theorem hdB.tw12749813898533818175 : True := trivial
theorem hdB.tw4016324500546980905 : True := trivial
theorem hdB.tw2848056539902326636 : True := trivial
theorem hdB.tw6011693205039302670 : True := trivial
theorem hdB.tw7209759437159997501 : True := trivial
theorem hdB.tw429837847446832234 : True := trivial
theorem hdB.tw8131092359889462156 : True := trivial
theorem hdB.tw8591751315287276236 : True := trivial
theorem hdB.tw6269134569299412782 : True := trivial
theorem hdB.tw17562721627828161169 : True := trivial
theorem hdB.tw6730435261167549585 : True := trivial
theorem hdB.tw13298747215766740091 : True := trivial
theorem hdB.tw12654185650741343667 : True := trivial
theorem hdB.tw12555892037645455305 : True := trivial
theorem hdB.tw12004290213830318372 : True := trivial
theorem hdB.tw4987366480647570960 : True := trivial
theorem hdB.tw8166725304363817857 : True := trivial
theorem hdB.tw16842207455543367420 : True := trivial
theorem hdB.tw13141891189715676290 : True := trivial
theorem hdB.tw5609761754167583156 : True := trivial
theorem hdB.tw17724133119369632007 : True := trivial
theorem hdB.tw2184959090338958156 : True := trivial
theorem hdB.tw16759259888418857026 : True := trivial
theorem hdB.tw15350950590689632322 : True := trivial
theorem hdB.tw7431530000216872307 : True := trivial
theorem hdB.tw13666478384150006547 : True := trivial
theorem hdB.tw1393907342520805318 : True := trivial
theorem hdB.tw17429376801974289189 : True := trivial
theorem hdB.tw16735926529398550793 : True := trivial
theorem hdB.tw15911082643983503660 : True := trivial
theorem hdB.tw12821702077017125785 : True := trivial
theorem hdB.tw564421548585054558 : True := trivial
theorem hdB.tw5693732006539243449 : True := trivial
theorem hdB.tw429014850541975092 : True := trivial
theorem hdB.tw2372702774251599007 : True := trivial
theorem hdB.tw327972680788737139 : True := trivial
theorem hdB.tw651124529688715982 : True := trivial
theorem hdB.tw4420651534285528108 : True := trivial
theorem hdB.tw6413035107479245678 : True := trivial
theorem hdB.tw1893073145574640489 : True := trivial
theorem hdB.tw14998645699000935329 : True := trivial
theorem hdB.tw4397423679220121712 : True := trivial
theorem hdB.tw1733343713712780342 : True := trivial
theorem hdB.tw13795074699196632630 : True := trivial
theorem hdB.tw8945988725222144165 : True := trivial
theorem hdB.tw16534755379847859287 : True := trivial
theorem hdB.tw4612983599011166641 : True := trivial
theorem hdB.tw605705598431006433 : True := trivial
theorem hdB.tw4997005998663214776 : True := trivial
theorem hdB.tw16409141394240412643 : True := trivial
theorem hdB.tw12476908706044290878 : True := trivial
theorem hdB.tw6549052726310263592 : True := trivial
theorem hdB.tw12707543306421425798 : True := trivial
theorem hdB.tw15853777976638579679 : True := trivial
theorem hdB.tw1972759384961486731 : True := trivial
theorem hdB.tw2645695988977503441 : True := trivial
theorem hdB.tw7298993710392231658 : True := trivial
theorem hdB.tw3432589381234307328 : True := trivial
theorem hdB.tw7319960463530635233 : True := trivial
theorem hdB.tw7641691787540584547 : True := trivial
theorem hdB.tw2891581428972788256 : True := trivial
theorem hdB.tw5137766571334806463 : True := trivial
theorem hdB.tw12314867024639672139 : True := trivial
theorem hdB.tw9667606896861302818 : True := trivial
theorem hdB.tw7570751443664710377 : True := trivial
theorem hdB.tw6435024659882922718 : True := trivial
theorem hdB.tw11404497032303267387 : True := trivial
theorem hdB.tw18265380598997616279 : True := trivial
theorem hdB.tw5811045338607079808 : True := trivial
theorem hdB.tw16439143029911188170 : True := trivial
theorem hdB.tw9688270614764394582 : True := trivial
theorem hdB.tw4018439363101230499 : True := trivial
theorem hdB.tw12114421149688805392 : True := trivial
theorem hdB.tw9689945664770481996 : True := trivial
theorem hdB.tw2354170974341163307 : True := trivial
theorem hdB.tw1401062199950177088 : True := trivial
theorem hdB.tw7623491627983602615 : True := trivial
theorem hdB.tw14762819619002470717 : True := trivial
theorem hdB.tw10053839178224604009 : True := trivial
theorem hdB.tw3614981238973869419 : True := trivial
theorem hdB.tw1096611118462850221 : True := trivial
set_option Elab.async true in
set_option maxRecDepth 100000 in
set_option maxHeartbeats 8000000 in
theorem hdB : PySem.Challenge.rw_pq0008_01.Holds := by
  w_on
  o_law
  o_head (kHook hd.heap_1 [2, 3, 15, 17, 18, 20, 21, 22, 25, 30, 31, 33, 34, 36, 37, 38, 40, 41, 43, 44, 45, 46, 47, 48, 51, 58, 59, 60, 63, 70, 71, 72, 75, 78, 79, 80, 83, 84, 92, 94, 95, 97, 98, 99, 101, 102, 104, 105, 106, 109, 110, 111, 113, 114, 116, 117, 118, 120, 121, 123, 124, 125, 128, 129, 130, 132, 133, 135, 136, 137, 139, 140, 142, 143, 144, 146, 147, 149, 150, 151, 153, 154, 156, 157, 158, 161, 162, 163, 165, 166, 168, 169, 170, 172, 173, 175, 176, 177, 179, 180, 182, 183, 184, 185, 186, 187, 188, 198, 200, 201, 203, 204, 205, 207, 208, 210, 211, 212, 214, 215, 217, 218, 219, 221, 222, 224, 225, 226, 228, 229, 231, 232, 233, 235, 236, 238, 239, 240, 243, 244, 245, 247, 248, 250, 251, 252, 254, 255, 257, 258, 259, 261, 262, 264, 265, 266, 267, 268, 269, 270, 280, 282, 283, 285, 286, 287, 289, 290, 292, 293, 294, 297, 298, 299, 302, 303, 304, 307, 308, 309, 311, 312, 314, 315, 316, 318, 319, 321, 322, 323, 325, 326, 328, 329, 330, 332, 333, 335, 336, 337, 339, 340, 342, 343, 344, 346, 347, 349, 350, 351, 353, 354, 356, 357, 358, 360, 361, 363, 364, 365, 367, 368, 370, 371, 372, 374, 375, 377, 378, 379, 381, 382, 384, 385, 386, 389, 390, 391, 393, 394, 396, 397, 398, 399, 400, 401, 402, 412, 414, 415, 417, 418, 419, 421, 422, 424, 425, 426, 429, 430, 431, 434, 435, 436, 439, 440, 441, 444, 445, 446, 447, 448, 449, 450, 453, 455, 456, 458, 459, 460, 463, 464, 465, 467, 468, 470, 471, 472, 475, 476, 477, 480, 481] (fun _ => by kernel_rfl))
  (case hw => w_witness2)
  exact walkT
end Mine
theorem PySem.Challenge.cw_pq0008_01_holds : PySem.Challenge.rw_pq0008_01.Holds :=
  Mine.hdB
